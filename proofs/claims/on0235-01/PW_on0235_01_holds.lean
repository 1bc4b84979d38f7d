import PyProof.Rows.All
import Wide.All
import OpenK.AllK
import Wide.FinOn
import PySem.Challenge.RW_on0235_01
open PySem PySem.W PyProof.Rows PySem.Calls
set_option Elab.async false
set_option maxRecDepth 100000
set_option linter.all false
namespace Mine
local macro_rules | `(tactic| walk_at $s:str) => `(tactic| k_extra $s)
section
local macro_rules | `(tactic| o_head $_H) => `(tactic| skip)
/-- the written heap (the constant kheap.heap_1), and nothing else -/
theorem kheap : True := by
  have h : PySem.Challenge.rw_on0235_01.row.Holds → PySem.Challenge.rw_on0235_01.row.Holds := by
    intro h
    k_head
    exact h
  trivial
end

-- B0
theorem room0 {a b l n : Nat} (h : a + b ≤ n) (e : Nat.ble l b = true) : a + l ≤ n := by have := Nat.le_of_ble_eq_true e; omega
theorem room1 {a b c l n : Nat} (h : a + b ≤ n) (e : Nat.ble (c + l) b = true) : a + c + l ≤ n := by have := Nat.le_of_ble_eq_true e; omega
theorem room2 {a b c d l n : Nat} (h : a + b ≤ n) (e : Nat.ble (c + d + l) b = true) : a + c + d + l ≤ n := by have := Nat.le_of_ble_eq_true e; omega
theorem roomL0 {a b n k : Nat} (h : a + b ≤ n) (e : Nat.ble (n + 1) (k + b) = true) : a < k := by have := Nat.le_of_ble_eq_true e; omega
theorem roomL1 {a b c n k : Nat} (h : a + b ≤ n) (e : Nat.ble (n + c + 1) (k + b) = true) : a + c < k := by have := Nat.le_of_ble_eq_true e; omega
theorem roomL2 {a b c d n k : Nat} (h : a + b ≤ n) (e : Nat.ble (n + c + d + 1) (k + b) = true) : a + c + d < k := by have := Nat.le_of_ble_eq_true e; omega
theorem tn {a : Int} {n : Nat} (h : a = (n : Int)) : a.toNat = n := by rw [h]; rfl
theorem s4 (i : Nat) : (0 + (i : Int) * 4).toNat = 4 * i := tn (by rw [Int.zero_add, Int.mul_comm]; rfl)
theorem s44 (i : Nat) : (0 + (i : Int) * 4 + 4).toNat - (0 + (i : Int) * 4).toNat = 4 := by
  rw [s4, tn (n := 4 * i + 4) (by rw [Int.zero_add, Int.mul_comm]; rfl), Nat.add_sub_cancel_left]
theorem s1 (i : Nat) : (0 + (i : Int) * 1).toNat = i := tn (by rw [Int.zero_add, Int.mul_one])
theorem s14 (i : Nat) : ((0 + (i : Int) * 1) % 4).toNat = i % 4 := tn (by rw [Int.zero_add, Int.mul_one]; rfl)
theorem part_sub {i n : Int} (h0 : 0 ≤ i) (h1 : 0 ≤ n) : (i + n).toNat - i.toNat = n.toNat := by
  rw [Int.toNat_add h0 h1, Nat.add_sub_cancel_left]
theorem tn_add {i : Int} {c : Nat} (h0 : 0 ≤ i) : (i + (c : Int)).toNat = i.toNat + c := Int.toNat_add h0 (Int.natCast_nonneg c)
theorem fill_tn (n : Nat) : ((4 - (n : Int) % 4) % 4).toNat = (4 - n % 4) % 4 := tn (by
  rw [show (4 - (n : Int) % 4) = ((4 - n % 4 : Nat) : Int) from (Int.natCast_sub (Nat.le_of_lt (Nat.mod_lt n (by decide)))).symm]; rfl)
theorem cl0 {x d : Prop} (h : x ∧ d) : x := h.1
theorem cl1 {x d a1 : Prop} (h : a1 ∧ x ∧ d) : x := h.2.1
theorem cl2 {x d a1 a2 : Prop} (h : a1 ∧ a2 ∧ x ∧ d) : x := h.2.2.1
theorem cl3 {x d a1 a2 a3 : Prop} (h : a1 ∧ a2 ∧ a3 ∧ x ∧ d) : x := h.2.2.2.1
theorem cl4 {x d a1 a2 a3 a4 : Prop} (h : a1 ∧ a2 ∧ a3 ∧ a4 ∧ x ∧ d) : x := h.2.2.2.2.1
theorem cl5 {x d a1 a2 a3 a4 a5 : Prop} (h : a1 ∧ a2 ∧ a3 ∧ a4 ∧ a5 ∧ x ∧ d) : x := h.2.2.2.2.2.1
theorem cl6 {x d a1 a2 a3 a4 a5 a6 : Prop} (h : a1 ∧ a2 ∧ a3 ∧ a4 ∧ a5 ∧ a6 ∧ x ∧ d) : x := h.2.2.2.2.2.2.1
theorem cl7 {x d a1 a2 a3 a4 a5 a6 a7 : Prop} (h : a1 ∧ a2 ∧ a3 ∧ a4 ∧ a5 ∧ a6 ∧ a7 ∧ x ∧ d) : x := h.2.2.2.2.2.2.2.1
theorem cl8 {x d a1 a2 a3 a4 a5 a6 a7 a8 : Prop} (h : a1 ∧ a2 ∧ a3 ∧ a4 ∧ a5 ∧ a6 ∧ a7 ∧ a8 ∧ x ∧ d) : x := h.2.2.2.2.2.2.2.2.1
theorem cl9 {x d a1 a2 a3 a4 a5 a6 a7 a8 a9 : Prop} (h : a1 ∧ a2 ∧ a3 ∧ a4 ∧ a5 ∧ a6 ∧ a7 ∧ a8 ∧ a9 ∧ x ∧ d) : x := h.2.2.2.2.2.2.2.2.2.1
theorem cl10 {x d a1 a2 a3 a4 a5 a6 a7 a8 a9 a10 : Prop} (h : a1 ∧ a2 ∧ a3 ∧ a4 ∧ a5 ∧ a6 ∧ a7 ∧ a8 ∧ a9 ∧ a10 ∧ x ∧ d) : x := h.2.2.2.2.2.2.2.2.2.2.1
theorem cl11 {x d a1 a2 a3 a4 a5 a6 a7 a8 a9 a10 a11 : Prop} (h : a1 ∧ a2 ∧ a3 ∧ a4 ∧ a5 ∧ a6 ∧ a7 ∧ a8 ∧ a9 ∧ a10 ∧ a11 ∧ x ∧ d) : x := h.2.2.2.2.2.2.2.2.2.2.2.1
theorem cl12 {x d a1 a2 a3 a4 a5 a6 a7 a8 a9 a10 a11 a12 : Prop} (h : a1 ∧ a2 ∧ a3 ∧ a4 ∧ a5 ∧ a6 ∧ a7 ∧ a8 ∧ a9 ∧ a10 ∧ a11 ∧ a12 ∧ x ∧ d) : x := h.2.2.2.2.2.2.2.2.2.2.2.2.1
theorem cl13 {x d a1 a2 a3 a4 a5 a6 a7 a8 a9 a10 a11 a12 a13 : Prop} (h : a1 ∧ a2 ∧ a3 ∧ a4 ∧ a5 ∧ a6 ∧ a7 ∧ a8 ∧ a9 ∧ a10 ∧ a11 ∧ a12 ∧ a13 ∧ x ∧ d) : x := h.2.2.2.2.2.2.2.2.2.2.2.2.2.1
theorem cl14 {x d a1 a2 a3 a4 a5 a6 a7 a8 a9 a10 a11 a12 a13 a14 : Prop} (h : a1 ∧ a2 ∧ a3 ∧ a4 ∧ a5 ∧ a6 ∧ a7 ∧ a8 ∧ a9 ∧ a10 ∧ a11 ∧ a12 ∧ a13 ∧ a14 ∧ x ∧ d) : x := h.2.2.2.2.2.2.2.2.2.2.2.2.2.2.1
theorem cr1 {x a1 : Prop} (h : a1 ∧ x) : x := h.2
theorem cr2 {x a1 a2 : Prop} (h : a1 ∧ a2 ∧ x) : x := h.2.2
theorem cr3 {x a1 a2 a3 : Prop} (h : a1 ∧ a2 ∧ a3 ∧ x) : x := h.2.2.2
theorem cr4 {x a1 a2 a3 a4 : Prop} (h : a1 ∧ a2 ∧ a3 ∧ a4 ∧ x) : x := h.2.2.2.2
theorem cr5 {x a1 a2 a3 a4 a5 : Prop} (h : a1 ∧ a2 ∧ a3 ∧ a4 ∧ a5 ∧ x) : x := h.2.2.2.2.2
theorem cr6 {x a1 a2 a3 a4 a5 a6 : Prop} (h : a1 ∧ a2 ∧ a3 ∧ a4 ∧ a5 ∧ a6 ∧ x) : x := h.2.2.2.2.2.2
theorem cr7 {x a1 a2 a3 a4 a5 a6 a7 : Prop} (h : a1 ∧ a2 ∧ a3 ∧ a4 ∧ a5 ∧ a6 ∧ a7 ∧ x) : x := h.2.2.2.2.2.2.2
theorem cr8 {x a1 a2 a3 a4 a5 a6 a7 a8 : Prop} (h : a1 ∧ a2 ∧ a3 ∧ a4 ∧ a5 ∧ a6 ∧ a7 ∧ a8 ∧ x) : x := h.2.2.2.2.2.2.2.2
theorem cr9 {x a1 a2 a3 a4 a5 a6 a7 a8 a9 : Prop} (h : a1 ∧ a2 ∧ a3 ∧ a4 ∧ a5 ∧ a6 ∧ a7 ∧ a8 ∧ a9 ∧ x) : x := h.2.2.2.2.2.2.2.2.2
theorem cr10 {x a1 a2 a3 a4 a5 a6 a7 a8 a9 a10 : Prop} (h : a1 ∧ a2 ∧ a3 ∧ a4 ∧ a5 ∧ a6 ∧ a7 ∧ a8 ∧ a9 ∧ a10 ∧ x) : x := h.2.2.2.2.2.2.2.2.2.2
theorem cr11 {x a1 a2 a3 a4 a5 a6 a7 a8 a9 a10 a11 : Prop} (h : a1 ∧ a2 ∧ a3 ∧ a4 ∧ a5 ∧ a6 ∧ a7 ∧ a8 ∧ a9 ∧ a10 ∧ a11 ∧ x) : x := h.2.2.2.2.2.2.2.2.2.2.2
theorem cr12 {x a1 a2 a3 a4 a5 a6 a7 a8 a9 a10 a11 a12 : Prop} (h : a1 ∧ a2 ∧ a3 ∧ a4 ∧ a5 ∧ a6 ∧ a7 ∧ a8 ∧ a9 ∧ a10 ∧ a11 ∧ a12 ∧ x) : x := h.2.2.2.2.2.2.2.2.2.2.2.2
theorem cr13 {x a1 a2 a3 a4 a5 a6 a7 a8 a9 a10 a11 a12 a13 : Prop} (h : a1 ∧ a2 ∧ a3 ∧ a4 ∧ a5 ∧ a6 ∧ a7 ∧ a8 ∧ a9 ∧ a10 ∧ a11 ∧ a12 ∧ a13 ∧ x) : x := h.2.2.2.2.2.2.2.2.2.2.2.2.2
theorem cr14 {x a1 a2 a3 a4 a5 a6 a7 a8 a9 a10 a11 a12 a13 a14 : Prop} (h : a1 ∧ a2 ∧ a3 ∧ a4 ∧ a5 ∧ a6 ∧ a7 ∧ a8 ∧ a9 ∧ a10 ∧ a11 ∧ a12 ∧ a13 ∧ a14 ∧ x) : x := h.2.2.2.2.2.2.2.2.2.2.2.2.2.2
theorem word_B0_1 : True := by
  (k_with "my cj" => (first | with_reducible assumption | (apply cl0; with_reducible assumption) | (apply cl1; with_reducible assumption) | (apply cl2; with_reducible assumption) | (apply cl3; with_reducible assumption) | (apply cl4; with_reducible assumption) | (apply cl5; with_reducible assumption) | (apply cl6; with_reducible assumption) | (apply cl7; with_reducible assumption) | (apply cl8; with_reducible assumption) | (apply cl9; with_reducible assumption) | (apply cl10; with_reducible assumption) | (apply cl11; with_reducible assumption) | (apply cl12; with_reducible assumption) | (apply cl13; with_reducible assumption) | (apply cl14; with_reducible assumption) | (apply cr1; with_reducible assumption) | (apply cr2; with_reducible assumption) | (apply cr3; with_reducible assumption) | (apply cr4; with_reducible assumption) | (apply cr5; with_reducible assumption) | (apply cr6; with_reducible assumption) | (apply cr7; with_reducible assumption) | (apply cr8; with_reducible assumption) | (apply cr9; with_reducible assumption) | (apply cr10; with_reducible assumption) | (apply cr11; with_reducible assumption) | (apply cr12; with_reducible assumption) | (apply cr13; with_reducible assumption) | (apply cr14; with_reducible assumption)))
  trivial
theorem rec_lt {a b : Nat} (h : a + b ≤ 900) : a < recursionLimit := by simp only [recursionLimit]; omega
theorem line0 {a b n : Nat} (h : a + b ≤ n) (e : Nat.ble (n + 65) (9900 + b) = true) : a + 64 < cLine := by have := Nat.le_of_ble_eq_true e; rw [show cLine = 9900 from rfl]; omega
theorem line1 {a b c n : Nat} (h : a + b ≤ n) (e : Nat.ble (n + c + 65) (9900 + b) = true) : a + c + 64 < cLine := by have := Nat.le_of_ble_eq_true e; rw [show cLine = 9900 from rfl]; omega
theorem word_B0_2 : True := by
  (k_with "my room0" => (first | (refine' room1 ?zzra ?zzrb; (case zzra => first | with_reducible assumption | assumption); (case zzrb => decide)) | (refine' roomL1 ?zzra ?zzrb; (case zzra => first | with_reducible assumption | assumption); (case zzrb => decide)) | (refine' room0 ?zzra ?zzrb; (case zzra => first | with_reducible assumption | assumption); (case zzrb => decide)) | (refine' roomL0 ?zzra ?zzrb; (case zzra => first | with_reducible assumption | assumption); (case zzrb => decide)) | (refine' room2 ?zzra ?zzrb; (case zzra => first | with_reducible assumption | assumption); (case zzrb => decide)) | (refine' roomL2 ?zzra ?zzrb; (case zzra => first | with_reducible assumption | assumption); (case zzrb => decide)) | fail "my room0"))
  trivial
theorem word_B0_3 : True := by
  (k_with "my line" => (first | (refine' line1 ?zzra ?zzrb; (case zzra => first | with_reducible assumption | assumption); (case zzrb => decide)) | (refine' line0 ?zzra ?zzrb; (case zzra => first | with_reducible assumption | assumption); (case zzrb => decide)) | ((try simp only [depth_in1, depth_deeper, units_in1, units_deeper]); rw [show cLine = 9900 from rfl]; omega)))
  trivial
theorem word_B0_4 : True := by
  (k_with "my ne" => (first | (refine Nat.ne_of_lt ?_; k_extra "my cj") | (refine Nat.ne_of_gt ?_; k_extra "my cj") | k_extra "my cj" | (refine Ne.symm ?_; k_extra "my cj") | (refine' Nat.ne_of_gt (Nat.lt_trans ?zzra ?zzrb); (case zzrb => with_reducible assumption); (case zzra => k_extra "my cj")) | (refine' Nat.ne_of_lt (Nat.lt_trans ?zzra ?zzrb); (case zzrb => with_reducible assumption); (case zzra => k_extra "my cj")) | fail "my ne"))
  trivial
theorem word_B0_5 : True := by
  (k_with "my ne0" => (refine neN ?_; (try dsimp only); first | assumption | (refine Ne.symm ?_; assumption) | k_extra "my ne" | fail "my ne"))
  trivial
local macro_rules | `(tactic| k_ne) => `(tactic| k_extra "my ne0")
theorem word_B0_6 : True := by
  (k_with "my sizes" => (first | (refine' Nat.le_trans ?zzsa ?zzsb; (case zzsa => (repeat' (first | with_reducible apply Nat.add_le_add | with_reducible apply Nat.le_trans (Nat.min_le_right _ _) | with_reducible apply Nat.le_trans (Nat.sub_le _ _) | with_reducible assumption | (with_reducible apply Nat.le_trans (Nat.le_of_eq (by assumption)); with_reducible assumption) | with_reducible exact Nat.le_refl _))); (case zzsb => decide)) | (refine' Nat.le_trans ?zzsa ?zzsb; (case zzsa => (repeat' (first | with_reducible apply Nat.add_le_add | with_reducible apply Nat.le_trans (Nat.min_le_left _ _) | with_reducible apply Nat.le_trans (Nat.sub_le _ _) | with_reducible assumption | (with_reducible apply Nat.le_trans (Nat.le_of_eq (by assumption)); with_reducible assumption) | with_reducible exact Nat.le_refl _))); (case zzsb => decide)) | fail "my sizes"))
  trivial
theorem word_B0_7 : True := by
  (k_with "my ands" => ((repeat' with_reducible refine And.intro ?_ ?_) <;> first | with_reducible assumption | exact Int.emod_nonneg _ (by decide) | exact Int.emod_lt_of_pos _ (by decide)))
  trivial
theorem word_B0_8 : True := by
  (k_with "my closed" => (first | decide | (refine Nat.ne_of_gt (Nat.lt_succ_of_lt ?_); with_reducible assumption) | (refine Nat.ne_of_gt ?_; k_extra "my cj") | (refine' Nat.ne_of_gt (Nat.lt_trans ?zzra ?zzrb); (case zzrb => with_reducible assumption); (case zzra => k_extra "my cj")) | (refine Nat.ne_of_lt ?_; k_extra "my cj") | (refine' Nat.ne_of_lt (Nat.lt_trans ?zzra ?zzrb); (case zzrb => with_reducible assumption); (case zzra => k_extra "my cj")) | (refine' Nat.le_trans ?zzra ?zzrb; (case zzra => with_reducible assumption); (case zzrb => decide)) | fail "my closed"))
  trivial
theorem foldA {M : Model} {A : Around} {env : Env} {b : List Stmt} {Q : Flow → Shared → Prop} {E : Value → Shared → Prop} {s : Shared} (h : let A1 := A; let env1 := env; wpAny M A1 (execs b env1) Q E s) : wpAny M A (execs b env) Q E s := h
theorem word_B0_9 : True := by
  (k_with "my env" => (refine foldA ?_; intro A1 env1))
  trivial
theorem word_B0_10 : True := by
  (k_with "my fold" => (refine fold_ ?_; intro qk ek))
  trivial
theorem word_B0_11 : True := by
  (k_with "my kf" => ((fail_if_success (fail_if_success k_fold)); refine fold_ ?_; intro qk ek))
  trivial
theorem fold_ {M : Model} {α : Type} {A : Around} {x : Sem α} {Q : α → Shared → Prop} {E : Value → Shared → Prop} {s : Shared} (h : let qk := Q; let ek := E; wpAny M A x qk ek s) : wpAny M A x Q E s := h
theorem add_intM {prog : Program} {w : World} {A : Around} {a b : Int} {t u : Tok} {Q : Value → Shared → Prop} {E : Value → Shared → Prop} {hp : Heap} {gn : Array GenState} {dr : Drawn} {tk0 : Nat} {os : OsState} (h : Q (.int (a + b) tk0) (Shared.mk hp gn dr (tk0 + 1) os)) : wpAny (model prog w) A (binaryOp .Add (.int a t) (.int b u)) Q E (Shared.mk hp gn dr tk0 os) := add_int h
theorem sub_intM {prog : Program} {w : World} {A : Around} {a b : Int} {t u : Tok} {Q : Value → Shared → Prop} {E : Value → Shared → Prop} {hp : Heap} {gn : Array GenState} {dr : Drawn} {tk0 : Nat} {os : OsState} (h : Q (.int (a - b) tk0) (Shared.mk hp gn dr (tk0 + 1) os)) : wpAny (model prog w) A (binaryOp .Sub (.int a t) (.int b u)) Q E (Shared.mk hp gn dr tk0 os) := sub_int h
theorem mul_intM {prog : Program} {w : World} {A : Around} {a b : Int} {t u : Tok} {Q : Value → Shared → Prop} {E : Value → Shared → Prop} {hp : Heap} {gn : Array GenState} {dr : Drawn} {tk0 : Nat} {os : OsState} (h : Q (.int (a * b) tk0) (Shared.mk hp gn dr (tk0 + 1) os)) (hm : IntMulOk a b := by mul_fits) : wpAny (model prog w) A (binaryOp .Mult (.int a t) (.int b u)) Q E (Shared.mk hp gn dr tk0 os) := mul_int h hm
theorem word_B0_12 : True := by
  (k_with "binaryOp Add int int" => (with_reducible refine add_intM ?_))
  trivial
theorem word_B0_13 : True := by
  (k_with "binaryOp Sub int int" => (with_reducible refine sub_intM ?_))
  trivial
theorem word_B0_14 : True := by
  (k_with "binaryOp Mult int int" => (with_reducible refine mul_intM ?_))
  trivial
theorem const_intM {M : Model} {A : Around} {env : Env} {x : Int} {k : Nat} {pos : Pos} {Q : Value → Shared → Prop} {E : Value → Shared → Prop} {hp : Heap} {gn : Array GenState} {dr : Drawn} {tk0 : Nat} {os : OsState} (h : Q (.int x tk0) (Shared.mk hp gn dr (tk0 + 1) os)) : wpAny M A (eval (.Constant (.int x) k pos) env) Q E (Shared.mk hp gn dr tk0 os) := wpAny_Constant_int h
theorem const_strM {M : Model} {A : Around} {env : Env} {x : Str} {k : Nat} {pos : Pos} {Q : Value → Shared → Prop} {E : Value → Shared → Prop} {hp : Heap} {gn : Array GenState} {dr : Drawn} {tk0 : Nat} {os : OsState} (h : Q (.str x tk0) (Shared.mk hp gn dr (tk0 + 1) os)) : wpAny M A (eval (.Constant (.str x) k pos) env) Q E (Shared.mk hp gn dr tk0 os) := Calls.Constant_str h
theorem andK {K : Frag} {h₀ hp : Heap} {L : Addr} {m : Str → Option Value} {P : Prop} (F : Fr h₀ L hp m) (X : K.In h₀) (H : P) : K.In hp ∧ P := ⟨X.keeps F.keep, H⟩
local macro_rules | `(tactic| k_steps) => `(tactic| repeat' (first | (k_unfold; (try dsimp only)) | (with_reducible refine' andK ?af ?ax ?_; (case af => with_reducible assumption); (case ax => with_reducible assumption)) | (k_end; kc_close) | walk1 | (dsimp only; walk1) | (leave1; walk_say "STEP leave1"; (try dsimp only)) | fail "no step"))
theorem word_B0_15 : True := by
  (k_with "eval Constant int" => (with_reducible refine const_intM ?_))
  trivial
theorem word_B0_16 : True := by
  (k_with "eval Constant str" => (with_reducible refine const_strM ?_))
  trivial
theorem foldQ {α : Type} {M : Model} {A : Around} {c : Sem α} {Q : α → Shared → Prop} {E : Value → Shared → Prop} {s : Shared} (h : let q := Q; wpAny M A c q E s) : wpAny M A c Q E s := h
theorem gen_tk {α : Type} {M : Model} {A : Around} {c : Sem α} {Q : α → Shared → Prop} {E : Value → Shared → Prop} {h : Heap} {g : Array GenState} {d : Drawn} {t : Nat} {os : OsState} (H : ∀ tk, wpAny M A c Q E (Shared.mk h g d tk os)) : wpAny M A c Q E (Shared.mk h g d t os) := H t
theorem word_B0_17 : True := by
  (k_with "execs cons" => ((fail_if_success (fail_if_success k_gentoks)); refine gen_tk ?_; intro tk))
  trivial
theorem word_B0_18 : True := by
  (k_with "eval Call Name" => ((fail_if_success (fail_if_success k_fold)); (try clear qc4); (try clear qc3); (try clear qc2); (try clear qc1); refine foldQ ?_; first | ((fail_if_success (clear_value qc1)); intro qc1) | ((fail_if_success (clear_value qc2)); intro qc2) | ((fail_if_success (clear_value qc3)); intro qc3) | ((fail_if_success (clear_value qc4)); intro qc4)))
  trivial
theorem word_B0_19 : True := by
  (k_with "eval Call Attribute" => ((fail_if_success (fail_if_success k_fold)); (try clear qc4); (try clear qc3); (try clear qc2); (try clear qc1); refine foldQ ?_; first | ((fail_if_success (clear_value qc1)); intro qc1) | ((fail_if_success (clear_value qc2)); intro qc2) | ((fail_if_success (clear_value qc3)); intro qc3) | ((fail_if_success (clear_value qc4)); intro qc4)))
  trivial
theorem word_B0_20 : True := by
  (k_with "eval BinOp" => ((fail_if_success (fail_if_success k_fold)); (try clear qc4); (try clear qc3); (try clear qc2); (try clear qc1); refine foldQ ?_; first | ((fail_if_success (clear_value qc1)); intro qc1) | ((fail_if_success (clear_value qc2)); intro qc2) | ((fail_if_success (clear_value qc3)); intro qc3) | ((fail_if_success (clear_value qc4)); intro qc4)))
  trivial
local macro_rules | `(tactic| omega) => `(tactic| k_extra "my closed")
theorem ite_out {a z : Str} {l : List Str} {v f g : Option Value} (hz : z ∉ l) (hm : a ∈ l) (h : f = g) : (if z = a then v else f) = g := by rw [if_neg (fun e => hz (by rw [e]; exact hm))]; exact h
theorem word_B0_21 : True := by
  (k_with "my out" => (repeat (first | with_reducible exact rfl | (refine' ite_out (by assumption) ?_ ?_; (repeat (first | exact List.Mem.head _ | refine List.Mem.tail _ ?_))))))
  trivial
/-- the ambient activation: no exception handled, any frames above -/
abbrev At (dp un : Nat) (gd : Option (List Code)) (fs : List Env) : Around := { handled := none, depth := dp, frames := some fs, guards := gd, units := un }
/-- what every call needs of the heap -/
structure Amb (w : World) (h : Heap) : Prop where
  X : (kheap.heap_1 w.params).In h
  T : ∃ (p : Program) (loose : List Str) (mean : ExcName → Option Value) (mg mb : Str → Option Value), Top p loose mean mg mb h
theorem Amb.open {w : World} {h : Heap} {P : Prop} (A : Amb w h) (k : ∀ (p : Program) (loose : List Str) (mean : ExcName → Option Value) (mg mb : Str → Option Value), Top p loose mean mg mb h → P) : P := by
  obtain ⟨p, l, me, mg, mb, T⟩ := A.T
  exact k p l me mg mb T
theorem Amb.keeps {w : World} {h h' : Heap} (A : Amb w h) (k : h.StaysIn h') : Amb w h' :=
  ⟨A.X.keeps k, let ⟨p, l, me, mg, mb, T⟩ := A.T; ⟨p, l, me, mg, mb, T.keeps k⟩⟩
/-- a call that stores into nothing that was there before and gives a value with R -/
def Gives (w : World) (f : Addr) (vs : List Value) (R : Heap → Value → Prop) (lim : Nat) (h : Heap) : Prop :=
  ∀ (dp un : Nat) (gd : Option (List Code)) (fs : List Env) (s : Shared) (Q E : Value → Shared → Prop), s.heap = h → Amb w s.heap → dp + lim ≤ 900 → un + 20 * lim ≤ 9000 →
    (∀ v h' tk', s.heap.StaysIn h' → R h' v → Q v { s with heap := h', toks := tk' }) →
    wpAny (model PySem.Challenge.rw_on0235_01.row.prog w) (At dp un gd fs) (call (.ref f) vs) Q E s

section
variable {prog : Program} {w : World} {A : Around} {E : Value → Shared → Prop} {s : Shared} {K : Frag} {p : Program} {loose : List Str} {mean : ExcName → Option Value} {mg mb : Str → Option Value}
theorem enter_pure {name qual : Str} {params : Arguments} {body : List Stmt} {scope : Scope} {dV kV doc pm cdv ct oc : Value} {an od : Option Addr} {osl : Array (Option Value)} {f : Addr} {vs : List Value} {Q : Value → Shared → Prop}
    (X : K.In s.heap) (T : Top p loose mean mg mb s.heap)
    (ho : K.lookup f = some ⟨oc, od, .func (fnOf name qual params body scope dV kV doc pm an cdv ct), osl⟩) (hcd : codeIn K cdv qual = true) (hroom : A.depth < recursionLimit)
    (hbind : bindArgs (fnOf name qual params body scope dV kV doc pm an cdv ct) ⟨vs, []⟩ = pure ((params.args.map (·.arg)).zip vs)) (hloc : ∀ y ∈ (params.args.map (·.arg)).zip vs, scope.names.lookup y.1 = some .local)
    (h : ∀ L h₁ tk, Fr s.heap L h₁ (fun y => ((params.args.map (·.arg)).zip vs).reverse.lookup y) → News s.heap L h₁ [] →
      wpAny (model prog w) (A.deeper (envOf qual scope L f cdv)) (execs body (envOf qual scope L f cdv))
        (fun fl s' => Q (match fl with | .ret v => v | _ => .none) s')
        (fun e s' => wpAny (model prog w) (A.deeper (envOf qual scope L f cdv)) (leaving (envOf qual scope L f cdv) e) (fun _ s'' => E e s'') (fun e' s'' => E e' s'') s')
        { s with heap := h₁, toks := tk })
    (hco : scope.isCoroutine = false) (hgen : scope.isGenerator = false) (hk : scope.kind = .function)
    (hcell : ∀ x ∈ scope.names, x.2 ≠ .cell) : wpAny (model prog w) A (call (.ref f) vs) Q E s := by
  refine wpAny_call (codeAny_call_def (fd := fnOf name qual params body scope dV kV doc pm an cdv ct) (body := body) (binds := (params.args.map (·.arg)).zip vs) hroom (X _ _ ho) rfl T.nolimit (codeRec_of X hcd) rfl (.of_eq hbind) hcell hloc (fun h₁ hns hk₁ => ?_) hco hgen hk)
  exact h _ h₁ _ ⟨hns, hk₁, Nat.le_refl _⟩ News.nil
end
-- B1
section
variable {w : World} {E : Value → Shared → Prop} {s : Shared} {p : Program} {loose : List Str} {mean : ExcName → Option Value} {mg mb : Str → Option Value} {h₀ : Heap} {L : Addr} {m : Str → Option Value} {news : List (Addr × Obj)} {f : Addr} {vs : List Value} {R : Heap → Value → Prop} {lim dp un : Nat} {gd : Option (List Code)} {fs : List Env} {Q : Value → Shared → Prop}
theorem amb_of (F : Fr h₀ L s.heap m) (X : (kheap.heap_1 w.params).In h₀) (T : Top p loose mean mg mb h₀) : Amb w s.heap := ⟨X.keeps F.keep, p, loose, mean, mg, mb, T.keeps F.keep⟩
/-- a contract used inside a def's walk -/
theorem Gives.use (C : Gives w f vs R lim s.heap) (F : Fr h₀ L s.heap m) (N : News h₀ L s.heap news) (X : (kheap.heap_1 w.params).In h₀) (T : Top p loose mean mg mb h₀) (hdp : dp + lim ≤ 900) (hun : un + 20 * lim ≤ 9000)
    (hQ : ∀ v h' tk', s.heap.StaysIn h' → Fr h₀ L h' m → News h₀ L h' news → R h' v → Q v { s with heap := h', toks := tk' }) :
    wpAny (model PySem.Challenge.rw_on0235_01.row.prog w) (At dp un gd fs) (call (.ref f) vs) Q E s :=
  C dp un gd fs s Q E rfl (amb_of F X T) hdp hun fun v h' tk' k r => hQ v h' tk' k (F.keeps k) (N.grown k) r
end
/-- what is said of a value alone -/
abbrev IntV (x : Int) : Heap → Value → Prop := fun _ v => ∃ t, v = .int x t
abbrev BytesV (ks : List Int) : Heap → Value → Prop := fun _ v => ∃ b t, v = .bytes b t ∧ KBw.bInts b = ks
abbrev BoolV (x : Bool) : Heap → Value → Prop := fun _ v => v = .bool x
abbrev StrV (x : Str) : Heap → Value → Prop := fun _ v => ∃ t, v = .str x t

theorem use_int {w : World} {E : Value → Shared → Prop} {hp : Heap} {gn : Array GenState} {dr : Drawn} {tk0 : Nat} {os : OsState} {p : Program} {loose : List Str} {mean : ExcName → Option Value} {mg mb : Str → Option Value} {h₀ : Heap} {L : Addr} {m : Str → Option Value} {news : List (Addr × Obj)} {f : Addr} {vs : List Value} {lim dp un : Nat} {gd : Option (List Code)} {fs : List Env} {Q : Value → Shared → Prop} {x : Int}
    (C : Gives w f vs (IntV x) lim hp) (F : Fr h₀ L hp m) (N : News h₀ L hp news) (X : (kheap.heap_1 w.params).In h₀) (T : Top p loose mean mg mb h₀) (hdp : dp + lim ≤ 900) (hun : un + 20 * lim ≤ 9000)
    (hQ : ∀ t h' tk', Fr h₀ L h' m → News h₀ L h' news → Q (.int x t) (Shared.mk h' gn dr tk' os)) :
    wpAny (model PySem.Challenge.rw_on0235_01.row.prog w) (At dp un gd fs) (call (.ref f) vs) Q E (Shared.mk hp gn dr tk0 os) :=
  Gives.use (s := Shared.mk hp gn dr tk0 os) C F N X T hdp hun fun v h' tk' _ F' N' rZ => by obtain ⟨t, e⟩ := rZ; subst e; exact hQ t h' tk' F' N'
theorem use_str {w : World} {E : Value → Shared → Prop} {hp : Heap} {gn : Array GenState} {dr : Drawn} {tk0 : Nat} {os : OsState} {p : Program} {loose : List Str} {mean : ExcName → Option Value} {mg mb : Str → Option Value} {h₀ : Heap} {L : Addr} {m : Str → Option Value} {news : List (Addr × Obj)} {f : Addr} {vs : List Value} {lim dp un : Nat} {gd : Option (List Code)} {fs : List Env} {Q : Value → Shared → Prop} {x : Str}
    (C : Gives w f vs (StrV x) lim hp) (F : Fr h₀ L hp m) (N : News h₀ L hp news) (X : (kheap.heap_1 w.params).In h₀) (T : Top p loose mean mg mb h₀) (hdp : dp + lim ≤ 900) (hun : un + 20 * lim ≤ 9000)
    (hQ : ∀ t h' tk', Fr h₀ L h' m → News h₀ L h' news → Q (.str x t) (Shared.mk h' gn dr tk' os)) :
    wpAny (model PySem.Challenge.rw_on0235_01.row.prog w) (At dp un gd fs) (call (.ref f) vs) Q E (Shared.mk hp gn dr tk0 os) :=
  Gives.use (s := Shared.mk hp gn dr tk0 os) C F N X T hdp hun fun v h' tk' _ F' N' rZ => by obtain ⟨t, e⟩ := rZ; subst e; exact hQ t h' tk' F' N'
theorem use_bool {w : World} {E : Value → Shared → Prop} {hp : Heap} {gn : Array GenState} {dr : Drawn} {tk0 : Nat} {os : OsState} {p : Program} {loose : List Str} {mean : ExcName → Option Value} {mg mb : Str → Option Value} {h₀ : Heap} {L : Addr} {m : Str → Option Value} {news : List (Addr × Obj)} {f : Addr} {vs : List Value} {lim dp un : Nat} {gd : Option (List Code)} {fs : List Env} {Q : Value → Shared → Prop} {x : Bool}
    (C : Gives w f vs (BoolV x) lim hp) (F : Fr h₀ L hp m) (N : News h₀ L hp news) (X : (kheap.heap_1 w.params).In h₀) (T : Top p loose mean mg mb h₀) (hdp : dp + lim ≤ 900) (hun : un + 20 * lim ≤ 9000)
    (hQ : ∀ h' tk', Fr h₀ L h' m → News h₀ L h' news → Q (.bool x) (Shared.mk h' gn dr tk' os)) :
    wpAny (model PySem.Challenge.rw_on0235_01.row.prog w) (At dp un gd fs) (call (.ref f) vs) Q E (Shared.mk hp gn dr tk0 os) :=
  Gives.use (s := Shared.mk hp gn dr tk0 os) C F N X T hdp hun fun v h' tk' _ F' N' e => by subst e; exact hQ h' tk' F' N'
theorem use_bytes {w : World} {E : Value → Shared → Prop} {hp : Heap} {gn : Array GenState} {dr : Drawn} {tk0 : Nat} {os : OsState} {p : Program} {loose : List Str} {mean : ExcName → Option Value} {mg mb : Str → Option Value} {h₀ : Heap} {L : Addr} {m : Str → Option Value} {news : List (Addr × Obj)} {f : Addr} {vs : List Value} {lim dp un : Nat} {gd : Option (List Code)} {fs : List Env} {Q : Value → Shared → Prop} {ks : List Int}
    (C : Gives w f vs (BytesV ks) lim hp) (F : Fr h₀ L hp m) (N : News h₀ L hp news) (X : (kheap.heap_1 w.params).In h₀) (T : Top p loose mean mg mb h₀) (hdp : dp + lim ≤ 900) (hun : un + 20 * lim ≤ 9000)
    (hQ : ∀ b t h' tk', KBw.bInts b = ks → Fr h₀ L h' m → News h₀ L h' news → Q (.bytes b t) (Shared.mk h' gn dr tk' os)) :
    wpAny (model PySem.Challenge.rw_on0235_01.row.prog w) (At dp un gd fs) (call (.ref f) vs) Q E (Shared.mk hp gn dr tk0 os) :=
  Gives.use (s := Shared.mk hp gn dr tk0 os) C F N X T hdp hun fun v h' tk' _ F' N' rZ => by obtain ⟨b, t, e, hk⟩ := rZ; subst e; exact hQ b t h' tk' hk F' N'


theorem word_B1_1 : True := by
  (k_with "my room" => (first | k_extra "my room0" | ((try simp only [depth_in1, depth_deeper, units_in1, units_deeper]); omega)))
  trivial
-- R1
theorem lk_bytes_bytes : typeLookup (.type "bytes") "__bytes__" = pure (some (.builtin "bytes.__bytes__")) := by rw [typeLookup_type, builtinLookup_eq_fast]; kernel_rfl
theorem lk_int_bytes : typeLookup (.type "int") "__bytes__" = pure none := by rw [typeLookup_type, builtinLookup_eq_fast]; kernel_rfl
section
variable {prog : Program} {w : World} {A : Around} {E : Value → Shared → Prop} {s : Shared}
theorem new_bytes_bytes {b : Array UInt8} {t : Tok} {Q : Value → Shared → Prop} (hQ : Q (.bytes b t) s) :
    codeAny (model prog w) A (.call (.builtin "bytes.__new__") ⟨[.type "bytes", .bytes b t], []⟩) (wants Q E) s := by
  refine codeAny_of_tree ?_
  show wpAny _ A.in1 (do checkBuiltinCall "bytes.__new__" ⟨[.type "bytes", .bytes b t], []⟩; again (.builtin "bytes.__new__" ⟨[.type "bytes", .bytes b t], []⟩)) _ _ s
  refine wpAny_bind (wpAny_of_eq (F.bm_newCall _) (wpAny_pure ⟨plainId_quiet F.bm_plain _, codeAny_builtin F.bm_entry ?_⟩))
  rw [Around.under_plainId F.bm_plain _]
  have hT : s.TypeIs (.bytes b t) "bytes" := typeIs_bytes _ _ _
  unfold Builtin.«bytes.__new__»
  refine wpAny_bind (wpAny_of_eq (a := true) rfl ?_)
  refine bm_if_false rfl ?_
  refine wpAny_bind (wpAny_of_eq F.bm_sub ?_)
  refine bm_if_false rfl ?_
  refine wpAny_bind (wpAny_of_eq (F.bm_bind _) ?_)
  refine wpAny_bind (wpAny_of_eq (a := ()) rfl ?_)
  refine wpAny_bind (wpAny_of_eq (a := ()) rfl ?_)
  refine bm_if_false rfl ?_
  refine wpAny_bind (wpAny_specialOf hT lk_bytes_bytes ?_)
  refine wpAny_bind (wpAny_rule ?_)
  refine wpAny_bind (wpAny_typeOf hT ?_)
  refine bm_if_true rfl ?_
  first
    | exact wpAny_pure hQ
    | exact wpAny_bind (wpAny_pure (wpAny_pure hQ))
theorem call_bytes_bytes {b : Array UInt8} {t : Tok} {Q : Value → Shared → Prop} (hQ : Q (.bytes b t) s) : wpAny (model prog w) A (call (.type "bytes") [.bytes b t]) Q E s := by
  refine callType_codes (Q₁ := fun obj s₁ => s₁.TypeIs obj "bytes" ∧ Q obj s₁) F.bm_called (F.bm_typeCall _) F.entry_object_init
    (new_bytes_bytes ⟨PySem.W.typeIs_bytes _ _ _, hQ⟩) fun obj s₁ h₁ => ?_
  exact ⟨h₁.1, F.args_object_init_2 obj _, object_init_meets F.bm_called.init.lookup F.bm_called.made (by decide) prog w A.in1 _ s₁ ⟨h₁.1, rfl, h₁.2⟩⟩
theorem new_bytes_int {n : Int} {t : Tok} {Q : Value → Shared → Prop} (h0 : 0 ≤ n) (h1 : n ≤ 1000) (hQ : ∀ t' k, Q (.bytes (Array.replicate n.toNat 0) t') { s with toks := k }) :
    codeAny (model prog w) A (.call (.builtin "bytes.__new__") ⟨[.type "bytes", .int n t], []⟩) (wants Q E) s := by
  refine codeAny_of_tree ?_
  show wpAny _ A.in1 (do checkBuiltinCall "bytes.__new__" ⟨[.type "bytes", .int n t], []⟩; again (.builtin "bytes.__new__" ⟨[.type "bytes", .int n t], []⟩)) _ _ s
  refine wpAny_bind (wpAny_of_eq (F.bm_newCall _) (wpAny_pure ⟨plainId_quiet F.bm_plain _, codeAny_builtin F.bm_entry ?_⟩))
  rw [Around.under_plainId F.bm_plain _]
  have hT : s.TypeIs (.int n t) "int" := typeIs_int _ _ _
  unfold Builtin.«bytes.__new__»
  refine wpAny_bind (wpAny_of_eq (a := true) rfl ?_)
  refine bm_if_false rfl ?_
  refine wpAny_bind (wpAny_of_eq F.bm_sub ?_)
  refine bm_if_false rfl ?_
  refine wpAny_bind (wpAny_of_eq (F.bm_bind _) ?_)
  refine wpAny_bind (wpAny_of_eq (a := ()) rfl ?_)
  refine wpAny_bind (wpAny_of_eq (a := ()) rfl ?_)
  refine bm_if_false rfl ?_
  refine wpAny_bind (wpAny_specialOf hT lk_int_bytes ?_)
  refine wpAny_bind (wpAny_of_eq (a := false) rfl ?_)
  refine bm_if_false rfl ?_
  refine wpAny_bind (wpAny_specialOf hT F.slot_int_index.lookup ?_)
  refine bm_if_false rfl ?_
  refine wpAny_bind (wpAny_attempt (wpAny_of_eq (rfl : asIndex (.int n t) = pure n) ?_))
  refine bm_if_false (by simp [Builtin.Bytes.fitsIndex]; omega) ?_
  refine wpAny_ite ?_
  rw [if_neg (by omega)]
  refine wpAny_ite ?_
  rw [if_neg (by omega)]
  refine bm_if_false (by simp [Builtin.Bytes.tooLong, sizeLine_eq]; omega) ?_
  refine wpAny_bind (wpAny_rule ?_)
  refine wpAny_bind (wpAny_mkBytes ?_ (by rw [Array.size_replicate, sizeLine_eq]; omega))
  first
    | exact wpAny_pure (hQ _ _)
    | exact wpAny_bind (wpAny_pure (wpAny_pure (hQ _ _)))
theorem call_bytes_int {n : Int} {t : Tok} {Q : Value → Shared → Prop} (h0 : 0 ≤ n) (h1 : n ≤ 1000) (hQ : ∀ t' k, Q (.bytes (Array.replicate n.toNat 0) t') { s with toks := k }) : wpAny (model prog w) A (call (.type "bytes") [.int n t]) Q E s := by
  refine callType_codes (Q₁ := fun obj s₁ => s₁.TypeIs obj "bytes" ∧ Q obj s₁) F.bm_called (F.bm_typeCall _) F.entry_object_init
    (new_bytes_int h0 h1 fun t' k => ⟨PySem.W.typeIs_bytes _ _ _, hQ t' k⟩) fun obj s₁ h₁ => ?_
  exact ⟨h₁.1, F.args_object_init_2 obj _, object_init_meets F.bm_called.init.lookup F.bm_called.made (by decide) prog w A.in1 _ s₁ ⟨h₁.1, rfl, h₁.2⟩⟩
end
theorem ints_zeros (n : Nat) : KBw.bInts (Array.replicate n 0) = List.replicate n 0 := by
  simp [KBw.bInts]

theorem call_bytes_intK {prog : Program} {w : World} {A : Around} {E : Value → Shared → Prop} {s : Shared} {n : Int} {t : Tok} {Q : Value → Shared → Prop} (h0 : 0 ≤ n) (h1 : n ≤ 1000)
    (hQ : ∀ b t' k, KBw.bInts b = List.replicate n.toNat 0 → Q (.bytes b t') { s with toks := k }) : wpAny (model prog w) A (call (.type "bytes") [.int n t]) Q E s :=
  call_bytes_int h0 h1 fun t' k => hQ _ t' k (ints_zeros _)
-- C1
def g16 (ks : List Int) (i : Nat) : Int := ks.getD i 0 * 256 + ks.getD (i + 1) 0
def g32 (ks : List Int) (i : Nat) : Int := g16 ks i * 65536 + g16 ks (i + 2)
def p16 (n : Int) : List Int := [n / 256 % 256, n % 256]
def p32 (n : Int) : List Int := p16 (n / 65536) ++ p16 n
def partL (ks : List Int) (i n : Nat) : List Int := (ks.drop i).take n
def fillL (ks : List Int) : List Int := ks ++ List.replicate ((4 - ks.length % 4) % 4) 0
def headL (ks : List Int) : List Int := ks.take 8 ++ List.replicate 4 0 ++ ks.drop 12
theorem p16_len (n : Int) : (p16 n).length = 2 := rfl
theorem p32_len (n : Int) : (p32 n).length = 4 := rfl
theorem partL_len (ks : List Int) (i n : Nat) : (partL ks i n).length = min n (ks.length - i) := by simp [partL]
theorem fillL_len (ks : List Int) : (fillL ks).length = ks.length + (4 - ks.length % 4) % 4 := by simp [fillL]
theorem headL_len (ks : List Int) : (headL ks).length = min 8 ks.length + 4 + (ks.length - 12) := by simp [headL]; omega
theorem fdiv_nat (a : Int) {k : Int} (h : 0 ≤ k) : Int.fdiv a k = a / k := Int.fdiv_eq_ediv_of_nonneg a h
theorem fmod_nat (a : Int) {k : Int} (h : 0 ≤ k) : Int.fmod a k = a % k := Int.fmod_eq_emod_of_nonneg a h
theorem fm4 (a : Int) : Int.fmod a 4 = a % 4 := Int.fmod_eq_emod_of_nonneg a (by decide)
theorem fm256 (a : Int) : Int.fmod a 256 = a % 256 := Int.fmod_eq_emod_of_nonneg a (by decide)
theorem fd256 (a : Int) : Int.fdiv a 256 = a / 256 := Int.fdiv_eq_ediv_of_nonneg a (by decide)
theorem fm65536 (a : Int) : Int.fmod a 65536 = a % 65536 := Int.fmod_eq_emod_of_nonneg a (by decide)
theorem fd65536 (a : Int) : Int.fdiv a 65536 = a / 65536 := Int.fdiv_eq_ediv_of_nonneg a (by decide)
theorem clip_pos {n : Nat} {i : Int} (h : 0 ≤ i) : clipAt n i = min i.toNat n := by
  have := clipAt_nat n i.toNat
  rwa [Int.toNat_of_nonneg h] at this
theorem sl_both (ks : List Int) (a b : Nat) : List.take (min b ks.length - min a ks.length) (List.drop (min a ks.length) ks) = (ks.drop a).take (b - a) := by
  by_cases h : a ≤ ks.length
  · rw [Nat.min_eq_left h]
    by_cases h2 : b ≤ ks.length
    · rw [Nat.min_eq_left h2]
    · rw [Nat.min_eq_right (by omega), List.take_of_length_le (by simp), List.take_of_length_le (by simp; omega)]
  · have h1 : ks.drop a = [] := List.drop_eq_nil_of_le (by omega)
    rw [Nat.min_eq_right (by omega : ks.length ≤ a), List.drop_length, h1]
    simp
theorem sl_hi (ks : List Int) (b : Nat) : List.take (min b ks.length) ks = ks.take b := by
  by_cases h2 : b ≤ ks.length
  · rw [Nat.min_eq_left h2]
  · rw [Nat.min_eq_right (by omega), List.take_of_length_le (Nat.le_refl _), List.take_of_length_le (by omega)]
theorem sl_lo (ks : List Int) (a : Nat) : List.take (ks.length - min a ks.length) (List.drop (min a ks.length) ks) = ks.drop a := by
  have := sl_both ks a ks.length
  rw [Nat.min_self] at this
  rw [this, List.take_of_length_le (by simp)]
theorem word_C1_1 : True := by
  (k_with "my size" => ((try simp only [fm4, fm256, fd256, fm65536, fd65536, p16_len, p32_len, partL_len, fillL_len, headL_len, List.length_append, List.length_cons, List.length_nil, List.length_replicate, List.length_take, List.length_drop, List.length_map, List.size_toArray]); first | ((with_reducible show @LE.le Nat _ _ (@OfNat.ofNat Nat _ _)); first | k_extra "my sizes" | (with_reducible refine Nat.le_trans (Nat.min_le_left _ _) (Nat.le_trans (Nat.le_of_eq (s44 _)) ?_); decide) | fail "my size") | omega))
  trivial
theorem word_C1_2 : True := by
  (k_with "binaryOp Add bytes bytes" => (k_here; (with_reducible show wpAny _ _ (binaryOp Operator.Add (Value.bytes _ _) (Value.bytes _ _)) _ _ _); (refine KBa.add_K (by kba_ints) (by kba_ints) (by k_extra "my size") ?_); intro _ _ kbaApp; (first | (revert kbaApp; intros) | skip)))
  trivial
theorem word_C1_3 : True := by
  (k_with "call type:bytes" => (k_here; (with_reducible show wpAny _ _ (call (Value.type "bytes") [Value.bytes _ _]) _ _ _); (refine call_bytes_bytes ?_)))
  trivial
theorem word_C1_4 : True := by
  (k_with "call type:bytes" => (k_here; (with_reducible show wpAny _ _ (call (Value.type "bytes") [Value.int _ _]) _ _ _); (refine call_bytes_intK (by first | omega | kba_idx) (by first | omega | (simp only [Int.fmod_eq_emod_of_nonneg _ (by decide : (0:Int) ≤ 4)]; omega)) ?_); intro _ _ _ kbaZ; (first | (revert kbaZ; intros) | skip)))
  trivial
section
variable {prog : Program} {w : World} {A : Around} {E : Value → Shared → Prop} {s : Shared} {value slice : PySem.Expr} {b : Array UInt8} {t : Tok} {h₀ : Heap} {L : Addr} {m : PySem.Str → Option Value} {news : List (Addr × Obj)} {Q : Value → Shared → Prop} {ks : List Int} {i j : Int} {ti tj : Tok}
theorem slice_both (hF : Fr h₀ L s.heap m) (hN : News h₀ L s.heap news) (hk : KBw.bInts b = ks) (hz : ks.length ≤ 16777216) (h0 : 0 ≤ i) (h1 : 0 ≤ j)
    (h : ∀ h' b' t' k, Fr h₀ L h' m → News h₀ L h' news → KBw.bInts b' = (ks.drop i.toNat).take (j.toNat - i.toNat) → Q (.bytes b' t') { s with heap := h', toks := k })
    (hs : subscripted slice false (.bytes b t) (.ref s.heap.objs.size) = operate [.ref s.heap.objs.size, .bytes b t] (getItem (.bytes b t) (.ref s.heap.objs.size)) := by with_unfolding_all rfl)
    (ht : ∀ r, letTemporaryGo value (.bytes b t) r = pure () := by intro _; with_unfolding_all rfl) :
    wpAny (model prog w) A (subscriptTail value slice (.bytes b t) (.ref s.heap.objs.size)) Q E { s with heap := s.heap.push { cls := .type "slice", data := .fields #[.int i ti, .int j tj, .none] } } :=
  KBc.slice_K hF hN hk (.int i ti) (.int j tj) hz (fun h' t' k F' N' e => h h' _ t' k F' N' (e.trans (by simp only [Option.elim]; rw [clip_pos h0, clip_pos h1, sl_both]))) hs ht
theorem slice_hi (hF : Fr h₀ L s.heap m) (hN : News h₀ L s.heap news) (hk : KBw.bInts b = ks) (hz : ks.length ≤ 16777216) (h1 : 0 ≤ j)
    (h : ∀ h' b' t' k, Fr h₀ L h' m → News h₀ L h' news → KBw.bInts b' = ks.take j.toNat → Q (.bytes b' t') { s with heap := h', toks := k })
    (hs : subscripted slice false (.bytes b t) (.ref s.heap.objs.size) = operate [.ref s.heap.objs.size, .bytes b t] (getItem (.bytes b t) (.ref s.heap.objs.size)) := by with_unfolding_all rfl)
    (ht : ∀ r, letTemporaryGo value (.bytes b t) r = pure () := by intro _; with_unfolding_all rfl) :
    wpAny (model prog w) A (subscriptTail value slice (.bytes b t) (.ref s.heap.objs.size)) Q E { s with heap := s.heap.push { cls := .type "slice", data := .fields #[.none, .int j tj, .none] } } :=
  KBc.slice_K hF hN hk .none (.int j tj) hz (fun h' t' k F' N' e => h h' _ t' k F' N' (e.trans (by simp only [Option.elim, List.drop_zero, Nat.sub_zero]; rw [clip_pos h1, sl_hi]))) hs ht
theorem slice_lo (hF : Fr h₀ L s.heap m) (hN : News h₀ L s.heap news) (hk : KBw.bInts b = ks) (hz : ks.length ≤ 16777216) (h0 : 0 ≤ i)
    (h : ∀ h' b' t' k, Fr h₀ L h' m → News h₀ L h' news → KBw.bInts b' = ks.drop i.toNat → Q (.bytes b' t') { s with heap := h', toks := k })
    (hs : subscripted slice false (.bytes b t) (.ref s.heap.objs.size) = operate [.ref s.heap.objs.size, .bytes b t] (getItem (.bytes b t) (.ref s.heap.objs.size)) := by with_unfolding_all rfl)
    (ht : ∀ r, letTemporaryGo value (.bytes b t) r = pure () := by intro _; with_unfolding_all rfl) :
    wpAny (model prog w) A (subscriptTail value slice (.bytes b t) (.ref s.heap.objs.size)) Q E { s with heap := s.heap.push { cls := .type "slice", data := .fields #[.int i ti, .none, .none] } } :=
  KBc.slice_K hF hN hk (.int i ti) .none hz (fun h' t' k F' N' e => h h' _ t' k F' N' (e.trans (by simp only [Option.elim]; rw [clip_pos h0, sl_lo]))) hs ht
end
theorem word_C1_5 : True := by
  (k_with "subscriptTail" => (k_here; (with_reducible show wpAny _ _ (subscriptTail _ (Expr.Slice _ _ none _) (Value.bytes _ _) (Value.ref _)) _ _ _); (with_reducible rename Fr _ _ _ _ => F'); (with_reducible rename News _ _ _ _ => N'); (first | refine slice_both (s := ⟨_, _, _, _, _⟩) F' N' (by kba_ints) (by k_extra "my size") (by first | omega | k_extra "my size") (by first | omega | k_extra "my size") ?_ | refine slice_hi (s := ⟨_, _, _, _, _⟩) F' N' (by kba_ints) (by k_extra "my size") (by first | omega | k_extra "my size") ?_ | refine slice_lo (s := ⟨_, _, _, _, _⟩) F' N' (by kba_ints) (by k_extra "my size") (by first | omega | k_extra "my size") ?_); intro h9 b9 t9 k9 F9 N9 K9; (first | (revert h9 b9 t9 k9 F9 N9 K9; intros) | skip)))
  trivial
theorem word_C1_6 : True := by
  (k_with "subscriptTail" => (k_here; (with_reducible show wpAny _ _ (subscriptTail _ _ (Value.bytes _ _) (Value.int _ _)) _ _ _); (refine KBw.item_K (by kba_ints) (by k_extra "my size") (by first | omega | k_extra "my size") (by first | omega | k_extra "my size") ?_); intro _ _ kbaLo kbaHi; (first | (revert kbaLo kbaHi; intros) | skip)))
  trivial
theorem word_C1_7 : True := by
  (k_with "call builtin:len" => (k_here; (with_reducible show wpAny _ _ (call (Value.builtin "len") [Value.bytes _ _]) _ _ _); (refine KBw.len_K (by kba_ints) (by k_extra "my size") ?_)))
  trivial
theorem word_C1_8 : True := by
  (k_with "call ref" => (k_here; (with_reducible show wpAny _ _ (call (Value.ref _) [Value.bytes _ _, Value.str _ _]) _ _ _); kfb_any; k_dflt (refine KFB.call_big (by k_asm) (by k_mem) (by kba_ints2) (by k_extra "my size") ?_); intro _ _))
  trivial
section
variable {w : World} {b : Array UInt8} {ks : List Int} {t u u' : Tok} {i n : Int} {h : Heap}
set_option maxHeartbeats 4000000 in
theorem u16_ok (hk : KBw.bInts b = ks) (hz : ks.length ≤ 1000) (h0 : 0 ≤ i) (h1 : i + 2 ≤ ks.length) :
    Gives w 53 [.bytes b t, .int i u] (IntV (g16 ks i.toNat)) 5 h := by
  (have hkf : PySem.Challenge.rw_on0235_01 = PySem.Challenge.rw_on0235_01 ∧ kheap.heap_1 = kheap.heap_1 := by k_fill; exact ⟨rfl, rfl⟩)
  clear hkf
  w_top off
  intro dp un gd fs s Q E hs AM hdp hun rt
  have KX := AM.X
  refine AM.open ?_; intro p loose mean mg mb T
  refine' enter_pure ?k1 ?k2 ?k6 ?k7 ?k8 ?k9 ?kB ?_ ?c2 ?c3 ?c4 ?c5
  (case k1 => assumption); (case k2 => assumption); (case k6 => k_is); (case k7 => k_is); (case k8 => first | exact rec_lt (by assumption) | (simp only [recursionLimit]; omega)); (case k9 => exact rfl); (case c5 => decide); (case kB => exact locs rfl); (case c2 => exact rfl); (case c3 => exact rfl); (case c4 => exact rfl)
  k_whole; intro L1 h1 tkz F1 N1; (try dsimp only); (dsimp only [List.map, List.zip, List.zipWith, List.reverse, List.reverseAux] at F1); (try k_extra "my kf")
  (try k_extra "my env")
  k_steps
  ((try k_unfold); (try dsimp only); refine rt _ _ _ (Fr.keep (by k_asm)) ?_)
  exact ⟨_, by rw [g16, show (i + 1).toNat = i.toNat + 1 from tn_add (c := 1) h0]⟩
end
theorem word_C1_9 : True := by
  (k_with "call ref" => (k_here; (with_reducible show wpAny _ _ (call (Value.ref 53) _) _ _ _); (refine use_int (u16_ok (by kba_ints) (by k_extra "my size") (by kba_idx) (by kba_idx)) (by k_asm) (by k_asm) (by k_asm) (by k_asm) (by k_extra "my room") (by k_extra "my room") ?_); intro t9 h9 tk9 F9 N9; (first | (revert t9 h9 tk9 F9 N9; intros) | skip)))
  trivial
section
variable {w : World} {b : Array UInt8} {ks : List Int} {t u u' : Tok} {i n : Int} {h : Heap}
set_option maxHeartbeats 4000000 in
theorem u32_ok (hk : KBw.bInts b = ks) (hz : ks.length ≤ 1000) (h0 : 0 ≤ i) (h1 : i + 4 ≤ ks.length) :
    Gives w 67 [.bytes b t, .int i u] (IntV (g32 ks i.toNat)) 10 h := by
  (have hkf : PySem.Challenge.rw_on0235_01 = PySem.Challenge.rw_on0235_01 ∧ kheap.heap_1 = kheap.heap_1 := by k_fill; exact ⟨rfl, rfl⟩)
  clear hkf
  w_top off
  intro dp un gd fs s Q E hs AM hdp hun rt
  have KX := AM.X
  refine AM.open ?_; intro p loose mean mg mb T
  refine' enter_pure ?k1 ?k2 ?k6 ?k7 ?k8 ?k9 ?kB ?_ ?c2 ?c3 ?c4 ?c5
  (case k1 => assumption); (case k2 => assumption); (case k6 => k_is); (case k7 => k_is); (case k8 => first | exact rec_lt (by assumption) | (simp only [recursionLimit]; omega)); (case k9 => exact rfl); (case c5 => decide); (case kB => exact locs rfl); (case c2 => exact rfl); (case c3 => exact rfl); (case c4 => exact rfl)
  k_whole; intro L1 h1 tkz F1 N1; (try dsimp only); (dsimp only [List.map, List.zip, List.zipWith, List.reverse, List.reverseAux] at F1); (try k_extra "my kf")
  (try k_extra "my env")
  k_steps
  ((try k_unfold); (try dsimp only); refine rt _ _ _ (Fr.keep (by k_asm)) ?_)
  exact ⟨_, by rw [g32, show (i + 2).toNat = i.toNat + 2 from tn_add (c := 2) h0]⟩
set_option maxHeartbeats 4000000 in
theorem s16_ok (hk : KBw.bInts b = ks) (hz : ks.length ≤ 1000) (h0 : 0 ≤ i) (h1 : i + 2 ≤ ks.length) :
    Gives w 60 [.bytes b t, .int i u] (IntV (if 32768 ≤ g16 ks i.toNat then g16 ks i.toNat - 65536 else g16 ks i.toNat)) 10 h := by
  (have hkf : PySem.Challenge.rw_on0235_01 = PySem.Challenge.rw_on0235_01 ∧ kheap.heap_1 = kheap.heap_1 := by k_fill; exact ⟨rfl, rfl⟩)
  clear hkf
  w_top off
  intro dp un gd fs s Q E hs AM hdp hun rt
  have KX := AM.X
  refine AM.open ?_; intro p loose mean mg mb T
  refine' enter_pure ?k1 ?k2 ?k6 ?k7 ?k8 ?k9 ?kB ?_ ?c2 ?c3 ?c4 ?c5
  (case k1 => assumption); (case k2 => assumption); (case k6 => k_is); (case k7 => k_is); (case k8 => first | exact rec_lt (by assumption) | (simp only [recursionLimit]; omega)); (case k9 => exact rfl); (case c5 => decide); (case kB => exact locs rfl); (case c2 => exact rfl); (case c3 => exact rfl); (case c4 => exact rfl)
  k_whole; intro L1 h1 tkz F1 N1; (try dsimp only); (dsimp only [List.map, List.zip, List.zipWith, List.reverse, List.reverseAux] at F1); (try k_extra "my kf")
  (try k_extra "my env")
  k_steps
  · ((try k_unfold); (try dsimp only); refine rt _ _ _ (Fr.keep (by k_asm)) ?_)
    exact ⟨_, by rw [if_pos (by omega)]⟩
  · ((try k_unfold); (try dsimp only); refine rt _ _ _ (Fr.keep (by k_asm)) ?_)
    exact ⟨_, by rw [if_neg (by omega)]⟩
set_option maxHeartbeats 4000000 in
theorem put16_ok : Gives w 74 [.int n u] (BytesV (p16 n)) 5 h := by
  (have hkf : PySem.Challenge.rw_on0235_01 = PySem.Challenge.rw_on0235_01 ∧ kheap.heap_1 = kheap.heap_1 := by k_fill; exact ⟨rfl, rfl⟩)
  clear hkf
  w_top off
  intro dp un gd fs s Q E hs AM hdp hun rt
  have KX := AM.X
  refine AM.open ?_; intro p loose mean mg mb T
  refine' enter_pure ?k1 ?k2 ?k6 ?k7 ?k8 ?k9 ?kB ?_ ?c2 ?c3 ?c4 ?c5
  (case k1 => assumption); (case k2 => assumption); (case k6 => k_is); (case k7 => k_is); (case k8 => first | exact rec_lt (by assumption) | (simp only [recursionLimit]; omega)); (case k9 => exact rfl); (case c5 => decide); (case kB => exact locs rfl); (case c2 => exact rfl); (case c3 => exact rfl); (case c4 => exact rfl)
  k_whole; intro L1 h1 tkz F1 N1; (try dsimp only); (dsimp only [List.map, List.zip, List.zipWith, List.reverse, List.reverseAux] at F1); (try k_extra "my kf")
  (try k_extra "my env")
  k_steps
  ((try k_unfold); (try dsimp only); refine rt _ _ _ (Fr.keep (by k_asm)) ?_)
  refine ⟨_, _, rfl, (KBa.ints_make (ns := [_, _]) (by intro x hx; simp only [List.mem_cons, List.not_mem_nil, or_false] at hx; rcases hx with rfl | rfl <;> exact ⟨fmod_lo _ (by decide), fmod_hi _ (by decide)⟩)).trans ?_⟩
  simp only [p16, fdiv_nat _ (by decide : (0:Int) ≤ 256), fmod_nat _ (by decide : (0:Int) ≤ 256)]
end
theorem word_C1_10 : True := by
  (k_with "call ref" => (k_here; (with_reducible show wpAny _ _ (call (Value.ref 74) _) _ _ _); (refine use_bytes put16_ok (by k_asm) (by k_asm) (by k_asm) (by k_asm) (by k_extra "my room") (by k_extra "my room") ?_); intro b9 t9 h9 tk9 K9 F9 N9; (first | (revert b9 t9 h9 tk9 K9 F9 N9; intros) | skip)))
  trivial
section
variable {w : World} {b : Array UInt8} {ks : List Int} {t u u' : Tok} {i n : Int} {h : Heap}
set_option maxHeartbeats 4000000 in
theorem put32_ok : Gives w 81 [.int n u] (BytesV (p32 n)) 10 h := by
  (have hkf : PySem.Challenge.rw_on0235_01 = PySem.Challenge.rw_on0235_01 ∧ kheap.heap_1 = kheap.heap_1 := by k_fill; exact ⟨rfl, rfl⟩)
  clear hkf
  w_top off
  intro dp un gd fs s Q E hs AM hdp hun rt
  have KX := AM.X
  refine AM.open ?_; intro p loose mean mg mb T
  refine' enter_pure ?k1 ?k2 ?k6 ?k7 ?k8 ?k9 ?kB ?_ ?c2 ?c3 ?c4 ?c5
  (case k1 => assumption); (case k2 => assumption); (case k6 => k_is); (case k7 => k_is); (case k8 => first | exact rec_lt (by assumption) | (simp only [recursionLimit]; omega)); (case k9 => exact rfl); (case c5 => decide); (case kB => exact locs rfl); (case c2 => exact rfl); (case c3 => exact rfl); (case c4 => exact rfl)
  k_whole; intro L1 h1 tkz F1 N1; (try dsimp only); (dsimp only [List.map, List.zip, List.zipWith, List.reverse, List.reverseAux] at F1); (try k_extra "my kf")
  (try k_extra "my env")
  k_steps
  ((try k_unfold); (try dsimp only); refine rt _ _ _ (Fr.keep (by k_asm)) ?_)
  refine ⟨_, _, rfl, ?_⟩
  exact Eq.trans (by assumption) (by rw [fd65536]; rfl)
set_option maxHeartbeats 4000000 in
theorem part_ok (hk : KBw.bInts b = ks) (hz : ks.length ≤ 1000) (h0 : 0 ≤ i) (h1 : 0 ≤ n) (h2 : i + n ≤ ks.length) : Gives w 88 [.bytes b t, .int i u, .int n u'] (BytesV (partL ks i.toNat n.toNat)) 5 h := by
  (have hkf : PySem.Challenge.rw_on0235_01 = PySem.Challenge.rw_on0235_01 ∧ kheap.heap_1 = kheap.heap_1 := by k_fill; exact ⟨rfl, rfl⟩)
  clear hkf
  w_top off
  intro dp un gd fs s Q E hs AM hdp hun rt
  have KX := AM.X
  refine AM.open ?_; intro p loose mean mg mb T
  refine' enter_pure ?k1 ?k2 ?k6 ?k7 ?k8 ?k9 ?kB ?_ ?c2 ?c3 ?c4 ?c5
  (case k1 => assumption); (case k2 => assumption); (case k6 => k_is); (case k7 => k_is); (case k8 => first | exact rec_lt (by assumption) | (simp only [recursionLimit]; omega)); (case k9 => exact rfl); (case c5 => decide); (case kB => exact locs rfl); (case c2 => exact rfl); (case c3 => exact rfl); (case c4 => exact rfl)
  k_whole; intro L1 h1 tkz F1 N1; (try dsimp only); (dsimp only [List.map, List.zip, List.zipWith, List.reverse, List.reverseAux] at F1); (try k_extra "my kf")
  (try k_extra "my env")
  k_steps
  ((try k_unfold); (try dsimp only); refine rt _ _ _ (Fr.keep (by k_asm)) ?_)
  refine ⟨_, _, rfl, ?_⟩
  refine Eq.trans (by assumption) ?_
  rw [partL, part_sub h0 (by assumption)]
set_option maxHeartbeats 4000000 in
theorem filled_ok (hk : KBw.bInts b = ks) (hz : ks.length ≤ 1000) : Gives w 95 [.bytes b t] (BytesV (fillL ks)) 5 h := by
  (have hkf : PySem.Challenge.rw_on0235_01 = PySem.Challenge.rw_on0235_01 ∧ kheap.heap_1 = kheap.heap_1 := by k_fill; exact ⟨rfl, rfl⟩)
  clear hkf
  w_top off
  intro dp un gd fs s Q E hs AM hdp hun rt
  have KX := AM.X
  refine AM.open ?_; intro p loose mean mg mb T
  refine' enter_pure ?k1 ?k2 ?k6 ?k7 ?k8 ?k9 ?kB ?_ ?c2 ?c3 ?c4 ?c5
  (case k1 => assumption); (case k2 => assumption); (case k6 => k_is); (case k7 => k_is); (case k8 => first | exact rec_lt (by assumption) | (simp only [recursionLimit]; omega)); (case k9 => exact rfl); (case c5 => decide); (case kB => exact locs rfl); (case c2 => exact rfl); (case c3 => exact rfl); (case c4 => exact rfl)
  k_whole; intro L1 h1 tkz F1 N1; (try dsimp only); (dsimp only [List.map, List.zip, List.zipWith, List.reverse, List.reverseAux] at F1); (try k_extra "my kf")
  (try k_extra "my env")
  k_steps
  ((try k_unfold); (try dsimp only); refine rt _ _ _ (Fr.keep (by k_asm)) ?_)
  refine ⟨_, _, rfl, ?_⟩
  refine Eq.trans (by assumption) ?_
  rw [fillL, fm4, fm4, fill_tn]
set_option maxHeartbeats 4000000 in
theorem plain_ok (hk : KBw.bInts b = ks) (hz : ks.length ≤ 900) : Gives w 198 [.bytes b t] (BytesV (headL ks)) 5 h := by
  (have hkf : PySem.Challenge.rw_on0235_01 = PySem.Challenge.rw_on0235_01 ∧ kheap.heap_1 = kheap.heap_1 := by k_fill; exact ⟨rfl, rfl⟩)
  clear hkf
  w_top off
  intro dp un gd fs s Q E hs AM hdp hun rt
  have KX := AM.X
  refine AM.open ?_; intro p loose mean mg mb T
  refine' enter_pure ?k1 ?k2 ?k6 ?k7 ?k8 ?k9 ?kB ?_ ?c2 ?c3 ?c4 ?c5
  (case k1 => assumption); (case k2 => assumption); (case k6 => k_is); (case k7 => k_is); (case k8 => first | exact rec_lt (by assumption) | (simp only [recursionLimit]; omega)); (case k9 => exact rfl); (case c5 => decide); (case kB => exact locs rfl); (case c2 => exact rfl); (case c3 => exact rfl); (case c4 => exact rfl)
  k_whole; intro L1 h1 tkz F1 N1; (try dsimp only); (dsimp only [List.map, List.zip, List.zipWith, List.reverse, List.reverseAux] at F1); (try k_extra "my kf")
  (try k_extra "my env")
  k_steps
  ((try k_unfold); (try dsimp only); refine rt _ _ _ (Fr.keep (by k_asm)) ?_)
  refine ⟨_, _, rfl, ?_⟩
  refine Eq.trans (by assumption) ?_
  rfl
end
-- R2
theorem ints_at {vs : List Value} {ns : List Int} (h : IntsAre vs ns) {k : Nat} (hk : k < ns.length) : ∃ t, vs[k]? = some (.int (ns.getD k 0) t) := by
  obtain ⟨t, e⟩ := h.get k ns[k] (by simp [hk])
  exact ⟨t, by rw [e]; simp [List.getD_eq_getElem?_getD, hk]⟩
theorem item_intsK {prog : Program} {w : World} {A : Around} {E : Value → Shared → Prop} {s : Shared} {value slice : PySem.Expr} {l : Addr} {vs : List Value} {ns : List Int} {k : Int} {u : Tok} {Q : Value → Shared → Prop}
    (hl : s.heap.IsList l vs.toArray) (hi : IntsAre vs ns) (h0 : 0 ≤ k) (h1 : k < ns.length) (h2 : ns.length ≤ 1000) (h : ∀ t, Q (.int (ns.getD k.toNat 0) t) s)
    (hs : subscripted slice false (.ref l) (.int k u) = operate [.ref l, .int k u] (getItem (.ref l) (.int k u)) := by with_unfolding_all rfl) :
    wpAny (model prog w) A (subscriptTail value slice (.ref l) (.int k u)) Q E s := by
  obtain ⟨t, e⟩ := ints_at hi (k := k.toNat) (by omega)
  exact tail_any hl.typeIs slot_list_getitem.lookup (wpAny_getItem_list hl h0 (by omega) (by simpa using e) (h t)) hs
theorem word_R2_1 : True := by
  (k_with "subscriptTail" => (k_here; (with_reducible show wpAny _ _ (subscriptTail _ _ (Value.ref _) (Value.int (Int.fmod _ _) _)) _ _ _); (with_unfolding_all refine' item_intsK ?zzil ?zzii ?zzi0 ?zzi1 ?zzi2 ?_ ?zzis; (case zzil => exact News.isList (by k_asm) (by k_mem)); (case zzii => first | assumption | (repeat constructor)); (case zzi0 => exact fmod_lo _ (by decide)); (case zzi1 => exact fmod_hi _ (by decide)); (case zzi2 => decide); (case zzis => with_unfolding_all rfl); k_whole); intro t9; (first | (revert t9; intros) | skip)))
  trivial
-- R3
def StopLoop (P : Prop) : Prop := P
theorem StopLoop.mk {P : Prop} (h : StopLoop P) : P := h
section
variable {prog : Program} {w : World} {A : Around} {E : Value → Shared → Prop} {s : Shared} {env : Env} {h₀ : Heap} {x : Str} {body : List Stmt} {Q : Flow → Shared → Prop}
def LEnd (h₀ : Heap) (L : Addr) (I : Addr) (o : Obj) (J : (Str → Option Value) → List (Addr × Obj) → Prop) (s₁ s₂ : Shared) : Prop :=
  ∃ h' tk m' nx, s₂ = { s₁ with heap := h', toks := tk } ∧ Fr h₀ L h' m' ∧ News h₀ L h' ((I, o) :: nx) ∧ (∀ p ∈ nx, p.1 ≠ I) ∧ J m' nx
def LPost (h₀ : Heap) (L : Addr) (I : Addr) (o : Obj) (J : (Str → Option Value) → List (Addr × Obj) → Prop) (s₁ : Shared) (Q : Flow → Shared → Prop) (f : Flow) (s₂ : Shared) : Prop :=
  match f with
  | .ret v => Q (.ret v) s₂
  | .brk => Q .next s₂
  | _ => LEnd h₀ L I o J s₁ s₂
theorem LEnd.intro {L I : Addr} {o : Obj} {J : (Str → Option Value) → List (Addr × Obj) → Prop} {m' : Str → Option Value} {nx : List (Addr × Obj)} {s₁ : Shared} {h' : Heap} {tk : Nat} (F : Fr h₀ L h' m') (N : News h₀ L h' ((I, o) :: nx)) (hn : ∀ p ∈ nx, p.1 ≠ I)
    (hj : J m' nx) : LEnd h₀ L I o J s₁ { s₁ with heap := h', toks := tk } := ⟨h', tk, m', nx, rfl, F, N, hn, hj⟩
theorem walk_loop {I : Addr} {fp wr : List Addr} {n : Nat} {P : Nat → Value → Prop} {St : Nat → Heap → Prop} {m₀ : Str → Option Value} {news : List (Addr × Obj)} (J : Nat → (Str → Option Value) → List (Addr × Obj) → Prop)
    (W : Walks prog w A I fp wr n P St) (hLf : env.locals ∉ fp) (hwr : wr = [I]) (hI : h₀.get? I = none) (hnw : ∀ p ∈ news, p.1 ≠ I) (hIfp : I ∈ fp)
    (hfp : ∀ b ∈ fp, b = I ∨ ∃ ob, ∀ i m nx h, J i m nx → h₀.StaysIn h → News h₀ env.locals h nx → h.get? b = some ob)
    (hlive : ∀ i h, St i h → ∃ o, h.get? I = some o)
    (hst : St 0 s.heap) (F : Fr h₀ env.locals s.heap m₀) (N : News h₀ env.locals s.heap news) (hj : J 0 m₀ news)
    (turn : ∀ i v m₁ nx h tk o, i < n → P i v → (∀ p ∈ nx, p.1 ≠ I) → J i m₁ nx → Fr h₀ env.locals h (fun y => if y = x then some v else m₁ y) → News h₀ env.locals h ((I, o) :: nx) →
      wpAny (model prog w) A (execs body env) (LPost h₀ env.locals I o (J (i + 1)) { s with heap := h, toks := tk } Q) E { s with heap := h, toks := tk })
    (done : ∀ m₁ nx h tk, J n m₁ nx → Fr h₀ env.locals h m₁ → News h₀ env.locals h nx → Q .next { s with heap := h, toks := tk }) :
    LoopAtV prog w A h₀ env x body Q E (.ref I) s := by
  subst hwr
  refine ⟨I, fp, [I], n, P, St, m₀, news, J, rfl, W, hLf, (fun b hb => by rw [List.mem_singleton.mp hb]; exact hI), (fun p hp hq => hnw p hp (List.mem_singleton.mp hq)), hst, F, N, hj, ?_, ?_⟩
  · rintro i v m₁ nx s₁ own ⟨hh', tk', rfl⟩ hin hP hJ hoff hown hget hall hst' F₁ N₁
    obtain ⟨o, ho⟩ := hlive _ _ hst'
    have hm := hall I hIfp hI o ho
    have N₂ : News h₀ env.locals hh' ((I, o) :: nx) := fun p hp => by
      rcases List.mem_cons.mp hp with rfl | hp
      · exact N₁ _ (List.mem_append_left _ hm)
      · exact N₁ _ (List.mem_append_right _ hp)
    refine wpAny_mono (turn i v m₁ nx hh' tk' o hin hP (fun p hp q => hoff p hp (by rw [q]; exact List.mem_singleton.mpr rfl)) hJ F₁ N₂) (fun f s₂ p => ?_) fun _ _ e => e
    have fin : LEnd h₀ env.locals I o (J (i + 1)) { s with heap := hh', toks := tk' } s₂ → LoopStepU h₀ env.locals [I] own (J (i + 1)) { s with heap := hh', toks := tk' } .next s₂ := by
      rintro ⟨h', tk, m', nx', e, F', N', hn, hm'⟩
      refine ⟨rfl, h', tk, m', nx', e, F', fun p hp => ?_, fun p hp hq => hn p hp (List.mem_singleton.mp hq), hm'⟩
      rcases List.mem_append.mp hp with hp | hp
      · rcases hfp _ (hown p hp) with h1 | ⟨ob, h1⟩
        · have h2 := hget p hp
          rw [h1] at h2
          have h3 : p = (I, o) := Prod.ext h1 (Option.some.inj (h2.symm.trans ho))
          rw [h3]
          exact N' _ (.head _)
        · have h2 := h1 i m₁ nx hh' hJ F₁.keep (fun q hq => N₁ q (List.mem_append_right _ hq))
          have h3 := h1 (i + 1) m' nx' h' hm' F'.keep (fun q hq => N' q (.tail _ hq))
          have h4 := hget p hp
          rw [h2] at h4
          refine ⟨?_, (N₁ p (List.mem_append_left _ hp)).2⟩
          rw [h3]; exact h4
      · exact N' p (.tail _ hp)
    cases f with
    | ret v => exact .ret p
    | brk => exact .brk p
    | next => exact .next (fin p)
    | cont => exact .cont (fin p)
  · rintro h' tk m' news' F' N' _ hJ
    exact done m' news' h' tk hJ F' N'

/-- for x in range(..): J of the turn's number, the frame's map, the ledger -/
theorem range_loop {r : Addr} {a b c : Int} {t u v : Tok} {n : Nat} {m₀ : Str → Option Value} {news : List (Addr × Obj)} (J : Nat → (Str → Option Value) → List (Addr × Obj) → Prop)
    (hh : A.handled = none) (hr : IsRange s.heap r a b c t u v) (hsmall : Builtin.Range.small a b c = true) (hn : Builtin.Range.rangeSize a b c = (n : Int)) (F : Fr h₀ env.locals s.heap m₀) (N : News h₀ env.locals s.heap news) (hj : J 0 m₀ news)
    (turn : ∀ i t' m₁ nx h tk I o, i < n → (∀ p ∈ nx, p.1 ≠ I) → J i m₁ nx → Fr h₀ env.locals h (fun y => if y = x then some (.int (a + (i : Nat) * c) t') else m₁ y) → News h₀ env.locals h ((I, o) :: nx) →
      wpAny (model prog w) A (execs body env) (LPost h₀ env.locals I o (J (i + 1)) { s with heap := h, toks := tk } Q) E { s with heap := h, toks := tk })
    (done : ∀ m₁ nx h tk, J n m₁ nx → Fr h₀ env.locals h m₁ → News h₀ env.locals h nx → Q .next { s with heap := h, toks := tk }) :
    wpAny (model prog w) A (pyIter (.ref r)) (fun it s₂ => LoopAtV prog w A h₀ env x body Q E it s₂) E s := by
  refine wpAny_pyIter_range hr hsmall ?_
  have W := Walks.range (prog := prog) (w := w) (A := A) hh s.heap.objs.size a c n
  refine walk_loop J W ?_ rfl (next_is_new F) ?_ (.head _) ?_ ?_ ?_ (F.push _) (fun p hp => ⟨Heap.get?_push_of_some _ (N p hp).1, (N p hp).2⟩) hj ?_ ?_
  · intro hm
    exact absurd F.ns.lt ((List.mem_singleton.mp hm) ▸ Nat.lt_irrefl _)
  · intro p hp hI
    exact absurd (Heap.lt_size (N p hp).1) (hI ▸ Nat.lt_irrefl _)
  · intro b hb
    exact .inl (List.mem_singleton.mp hb)
  · intro i h st
    exact ⟨_, st⟩
  · show IsRangeIter _ _ _ _ _
    rw [hn]; simpa using Heap.get?_push_size _ rfl
  · rintro i v m₁ nx h tk o hi ⟨t', rfl⟩ hne hJ F' N'
    exact turn i t' m₁ nx h tk _ o hi hne hJ F' N'
  · exact done

/-- for x in a list: the list stands in the base, or J says that it stands in the ledger -/
theorem list_loop {l : Addr} {vs : List Value} {nn : Nat} {m₀ : Str → Option Value} {news : List (Addr × Obj)} (J : Nat → (Str → Option Value) → List (Addr × Obj) → Prop)
    (hh : A.handled = none) (hL : l ≠ env.locals) (hl : ∀ i m nx h, J i m nx → h₀.StaysIn h → News h₀ env.locals h nx → h.get? l = some (listOf vs.toArray nn)) (F : Fr h₀ env.locals s.heap m₀) (N : News h₀ env.locals s.heap news) (hj : J 0 m₀ news)
    (turn : ∀ i v m₁ nx h tk I o, i < vs.length → vs[i]? = some v → (∀ p ∈ nx, p.1 ≠ I) → J i m₁ nx → Fr h₀ env.locals h (fun y => if y = x then some v else m₁ y) → News h₀ env.locals h ((I, o) :: nx) →
      wpAny (model prog w) A (execs body env) (LPost h₀ env.locals I o (J (i + 1)) { s with heap := h, toks := tk } Q) E { s with heap := h, toks := tk })
    (done : ∀ m₁ nx h tk, J vs.length m₁ nx → Fr h₀ env.locals h m₁ → News h₀ env.locals h nx → Q .next { s with heap := h, toks := tk }) :
    wpAny (model prog w) A (pyIter (.ref l)) (fun it s₂ => LoopAtV prog w A h₀ env x body Q E it s₂) E s := by
  have hol := hl 0 m₀ news s.heap hj F.keep N
  have hls : s.heap.IsList l vs.toArray := ⟨_, hol, rfl, nn, rfl⟩
  have hne : l ≠ s.heap.objs.size := Nat.ne_of_lt (Heap.lt_size hol)
  refine wpAny_pyIter_list hls ?_
  have W := Walks.list (prog := prog) (w := w) hh s.heap.objs.size l hne vs.toArray
  have hlen : vs.toArray.size = vs.length := by simp
  rw [hlen] at W
  refine walk_loop J W ?_ rfl (next_is_new F) ?_ (.head _) ?_ ?_ ⟨⟨_, Heap.get?_push_size _ rfl, rfl, rfl⟩, hls.at fun o e => Heap.get?_push_of_some _ e⟩ (F.push _) (fun p hp => ⟨Heap.get?_push_of_some _ (N p hp).1, (N p hp).2⟩) hj ?_ ?_
  · intro hm
    rcases List.mem_cons.mp hm with e | hm
    · exact absurd F.ns.lt (e ▸ Nat.lt_irrefl _)
    · exact hL (List.mem_singleton.mp hm).symm
  · intro p hp hI
    exact absurd (Heap.lt_size (N p hp).1) (hI ▸ Nat.lt_irrefl _)
  · intro b hb
    rcases List.mem_cons.mp hb with e | hb
    · exact .inl e
    · refine .inr ⟨listOf vs.toArray nn, fun i m nx h hJ k N' => ?_⟩
      rw [List.mem_singleton.mp hb]
      exact hl i m nx h hJ k N'
  · rintro i h ⟨⟨o, ho, _⟩, _⟩
    exact ⟨o, ho⟩
  · rintro i v m₁ nx h tk o hi hv hne hJ F' N'
    exact turn i v m₁ nx h tk _ o hi (by simpa using hv) hne hJ F' N'
  · exact done

/-- for x in bytes -/
theorem bytes_loop {b : Array UInt8} {tb : Tok} {ks : List Int} {m₀ : Str → Option Value} {news : List (Addr × Obj)} (J : Nat → (Str → Option Value) → List (Addr × Obj) → Prop)
    (hk : KBw.bInts b = ks) (hh : A.handled = none) (F : Fr h₀ env.locals s.heap m₀) (N : News h₀ env.locals s.heap news) (hj : J 0 m₀ news)
    (turn : ∀ i k t' m₁ nx h tk I o, i < ks.length → ks[i]? = some k → 0 ≤ k → k < 256 → (∀ p ∈ nx, p.1 ≠ I) → J i m₁ nx → Fr h₀ env.locals h (fun y => if y = x then some (.int k t') else m₁ y) → News h₀ env.locals h ((I, o) :: nx) →
      wpAny (model prog w) A (execs body env) (LPost h₀ env.locals I o (J (i + 1)) { s with heap := h, toks := tk } Q) E { s with heap := h, toks := tk })
    (done : ∀ m₁ nx h tk, J ks.length m₁ nx → Fr h₀ env.locals h m₁ → News h₀ env.locals h nx → Q .next { s with heap := h, toks := tk }) :
    wpAny (model prog w) A (pyIter (.bytes b tb)) (fun it s₂ => LoopAtV prog w A h₀ env x body Q E it s₂) E s := by
  subst hk
  refine KBw.pyIter_bytes ?_
  have W := KBw.walks (prog := prog) (w := w) hh s.heap.objs.size b tb
  refine walk_loop J W ?_ rfl (next_is_new F) ?_ (.head _) ?_ ?_ ⟨_, Heap.get?_push_size _ rfl, rfl, rfl⟩ (F.push _) (fun p hp => ⟨Heap.get?_push_of_some _ (N p hp).1, (N p hp).2⟩) hj ?_ ?_
  · intro hm
    exact absurd F.ns.lt ((List.mem_singleton.mp hm) ▸ Nat.lt_irrefl _)
  · intro p hp hI
    exact absurd (Heap.lt_size (N p hp).1) (hI ▸ Nat.lt_irrefl _)
  · intro b' hb
    exact .inl (List.mem_singleton.mp hb)
  · rintro i h ⟨o, ho, _⟩
    exact ⟨o, ho⟩
  · rintro i v m₁ nx h tk o hi ⟨c, u, hc, rfl⟩ hne hJ F' N'
    have e := KBw.ints_get hc
    have hb := KBw.ints_in (List.mem_of_getElem? e)
    exact turn i _ u m₁ nx h tk _ o (by rw [KBw.ints_length]; exact hi) e hb.1 hb.2 hne hJ F' N'
  · intro m₁ nx h tk hJ F' N'
    rw [← KBw.ints_length b] at hJ
    exact done m₁ nx h tk hJ F' N'
end
-- R4
theorem map_eq1 {x y : Str} {m₁ m₀ : Str → Option Value} {v a : Option Value} (ha : m₁ y = a) (hm : ∀ z, z ≠ x → z ≠ y → m₁ z = m₀ z) :
    (fun z => if z = x then v else m₁ z) = fun z => if z = x then v else if z = y then a else m₀ z := by
  funext z
  by_cases h1 : z = x
  · simp [h1]
  · simp only [if_neg h1]
    by_cases h2 : z = y
    · subst h2; simp [ha]
    · simp only [if_neg h2]; exact hm z h1 h2
theorem map_eq2 {x y y' : Str} {m₁ m₀ : Str → Option Value} {v a a' : Option Value} (ha : m₁ y = a) (ha' : m₁ y' = a') (hm : ∀ z, z ≠ x → z ≠ y → z ≠ y' → m₁ z = m₀ z) :
    (fun z => if z = x then v else m₁ z) = fun z => if z = x then v else if z = y then a else if z = y' then a' else m₀ z := by
  funext z
  by_cases h1 : z = x
  · simp [h1]
  · simp only [if_neg h1]
    by_cases h2 : z = y
    · subst h2; simp [ha]
    · simp only [if_neg h2]
      by_cases h3 : z = y'
      · subst h3; simp [ha']
      · simp only [if_neg h3]; exact hm z h1 h2 h3
theorem map_end1 {x y : Str} {m₁ m₀ : Str → Option Value} {a : Option Value} (ha : m₁ y = a) (hm : ∀ z, z ≠ x → z ≠ y → m₁ z = m₀ z) :
    m₁ = fun z => if z = x then m₁ x else if z = y then a else m₀ z := by
  rw [← map_eq1 (v := m₁ x) ha hm]
  funext z
  by_cases h1 : z = x
  · simp [h1]
  · simp only [if_neg h1]
section
variable {prog : Program} {w : World} {A : Around} {E : Value → Shared → Prop} {s : Shared} {env : Env} {h₀ : Heap} {x : Str} {body : List Stmt} {Q : Flow → Shared → Prop}
/-- what a turn that turns the one name y leaves -/
abbrev One {α : Type} (mk : α → Tok → Value) (x y : Str) (m₀ : Str → Option Value) (news : List (Addr × Obj)) (a : α) (m' : Str → Option Value) (nx : List (Addr × Obj)) : Prop := nx = news ∧ (∃ t, m' y = some (mk a t)) ∧ ∀ z, z ≠ x → z ≠ y → m' z = m₀ z
theorem range_loop1 {α : Type} (mk : α → Tok → Value) {r : Addr} {a b c : Int} {t u v : Tok} {n : Nat} {m₀ : Str → Option Value} {news : List (Addr × Obj)} {y : Str} {t₀ : Tok} (S : Nat → α)
    (hh : A.handled = none) (hr : IsRange s.heap r a b c t u v) (hsmall : Builtin.Range.small a b c = true) (hn : Builtin.Range.rangeSize a b c = (n : Int)) (F : Fr h₀ env.locals s.heap m₀) (N : News h₀ env.locals s.heap news) (hy : m₀ y = some (mk (S 0) t₀))
    (turn : ∀ i t' ta h tk I o, i < n → (∀ p ∈ news, p.1 ≠ I) → Fr h₀ env.locals h (fun z => if z = x then some (.int (a + (i : Nat) * c) t') else if z = y then some (mk (S i) ta) else m₀ z) → News h₀ env.locals h ((I, o) :: news) →
      wpAny (model prog w) A (execs body env) (LPost h₀ env.locals I o (One mk x y m₀ news (S (i + 1))) { s with heap := h, toks := tk } Q) E { s with heap := h, toks := tk })
    (done : ∀ ux ta h tk, Fr h₀ env.locals h (fun z => if z = x then ux else if z = y then some (mk (S n) ta) else m₀ z) → News h₀ env.locals h news → Q .next { s with heap := h, toks := tk }) :
    wpAny (model prog w) A (pyIter (.ref r)) (fun it s₂ => LoopAtV prog w A h₀ env x body Q E it s₂) E s := by
  refine range_loop (fun i m nx => One mk x y m₀ news (S i) m nx) hh hr hsmall hn F N ⟨rfl, ⟨_, hy⟩, fun _ _ _ => rfl⟩ ?_ ?_
  · rintro i t' m₁ nx h tk I o hi hne ⟨rfl, ⟨ta, ha⟩, hm⟩ F' N'
    rw [map_eq1 ha hm] at F'
    exact turn i t' ta h tk I o hi hne F' N'
  · rintro m₁ nx h tk ⟨rfl, ⟨ta, ha⟩, hm⟩ F' N'
    rw [map_end1 ha hm] at F'
    exact done _ ta h tk F' N'
theorem bytes_loop1 {α : Type} (mk : α → Tok → Value) {b : Array UInt8} {tb : Tok} {ks : List Int} {m₀ : Str → Option Value} {news : List (Addr × Obj)} {y : Str} {t₀ : Tok} (S : Nat → α)
    (hk : KBw.bInts b = ks) (hh : A.handled = none) (F : Fr h₀ env.locals s.heap m₀) (N : News h₀ env.locals s.heap news) (hy : m₀ y = some (mk (S 0) t₀))
    (turn : ∀ i k t' ta h tk I o, i < ks.length → ks[i]? = some k → 0 ≤ k → k < 256 → (∀ p ∈ news, p.1 ≠ I) → Fr h₀ env.locals h (fun z => if z = x then some (.int k t') else if z = y then some (mk (S i) ta) else m₀ z) → News h₀ env.locals h ((I, o) :: news) →
      wpAny (model prog w) A (execs body env) (LPost h₀ env.locals I o (One mk x y m₀ news (S (i + 1))) { s with heap := h, toks := tk } Q) E { s with heap := h, toks := tk })
    (done : ∀ ux ta h tk, Fr h₀ env.locals h (fun z => if z = x then ux else if z = y then some (mk (S ks.length) ta) else m₀ z) → News h₀ env.locals h news → Q .next { s with heap := h, toks := tk }) :
    wpAny (model prog w) A (pyIter (.bytes b tb)) (fun it s₂ => LoopAtV prog w A h₀ env x body Q E it s₂) E s := by
  refine bytes_loop (fun i m nx => One mk x y m₀ news (S i) m nx) hk hh F N ⟨rfl, ⟨_, hy⟩, fun _ _ _ => rfl⟩ ?_ ?_
  · rintro i k t' m₁ nx h tk I o hi hik h0 h1 hne ⟨rfl, ⟨ta, ha⟩, hm⟩ F' N'
    rw [map_eq1 ha hm] at F'
    exact turn i k t' ta h tk I o hi hik h0 h1 hne F' N'
  · rintro m₁ nx h tk ⟨rfl, ⟨ta, ha⟩, hm⟩ F' N'
    rw [map_end1 ha hm] at F'
    exact done _ ta h tk F' N'
end
theorem word_R4_1 : True := by
  (k_with "pyIter ref" => ((with_reducible show wpAny _ _ (pyIter (Value.ref _)) (fun it s₂ => LoopAtV _ _ _ _ _ _ _ _ _ it s₂) _ _); refine StopLoop.mk ?_))
  trivial
theorem word_R4_2 : True := by
  (k_with "pyIter bytes" => ((with_reducible show wpAny _ _ (pyIter (Value.bytes _ _)) (fun it s₂ => LoopAtV _ _ _ _ _ _ _ _ _ it s₂) _ _); refine StopLoop.mk ?_))
  trivial
/-- the end of a turn that turned one name -/
theorem word_R4_3 : True := by
  (k_with "my turn" => (refine LEnd.intro (by k_asm) (cb_drop (by k_asm) (by first | exact fun _ h => h | exact fun _ h => .tail _ h | kcj_all)) (by first | assumption | exact fun _ h => nomatch h) ⟨rfl, ⟨_, ?_⟩, ?_⟩; rotate_left; (intro z h1 h2; simp only [if_neg h1, if_neg h2]); (first | (revert z h1 h2; intros) | skip)))
  trivial
theorem size_up {b c : Int} {n : Nat} (hc : 0 < c) (h : b = c * n) : Builtin.Range.rangeSize 0 b c = (n : Int) := by
  subst h
  unfold Builtin.Range.rangeSize
  rw [if_pos hc]
  by_cases hn : n = 0
  · subst hn; simp
  · have h1 : 0 < c * (n : Int) := Int.mul_pos hc (by omega)
    rw [if_pos h1]
    have e : c * (n : Int) - 0 - 1 = (c - 1) + c * ((n : Int) - 1) := by rw [Int.mul_sub, Int.mul_one]; omega
    rw [e, Int.add_mul_ediv_left _ _ (by omega), Int.ediv_eq_zero_of_lt (by omega) (by omega)]
    omega
theorem small_up {b c : Int} {n : Nat} (hc : 0 < c) (hc2 : c < 1000) (h : b = c * n) (hn : n < 100000) : Builtin.Range.small 0 b c = true := by
  have e := size_up hc h
  unfold Builtin.Range.small
  rw [e]
  have h2 : c * (n : Int) ≤ 1000 * 100000 := by
    have h3 : c * (n : Int) ≤ 1000 * (n : Int) := Int.mul_le_mul_of_nonneg_right (by omega) (by omega)
    omega
  have h4 : 0 ≤ c * (n : Int) := Int.mul_nonneg (by omega) (by omega)
  rw [← h] at h2 h4
  rw [if_pos hc]
  simp only [Builtin.Range.rangeFitsLong, Bool.and_eq_true, Bool.or_eq_true, decide_eq_true_eq, beq_iff_eq]
  omega
-- C2
theorem word_C2_1 : True := by
  (k_with "call ref" => (k_here; (with_reducible show wpAny _ _ (call (Value.ref 95) _) _ _ _); (refine use_bytes (filled_ok (by kba_ints) (by k_extra "my size")) (by k_asm) (by k_asm) (by k_asm) (by k_asm) (by k_extra "my room") (by k_extra "my room") ?_); intro b9 t9 h9 tk9 K9 F9 N9; (first | (revert b9 t9 h9 tk9 K9 F9 N9; intros) | skip)))
  trivial
/-- the sum of the words of ks, i words -/
def wsumN (ks : List Int) : Nat → Int
  | 0 => 0
  | i + 1 => wsumN ks i + KFB.value ((ks.drop (4 * i)).take 4)
def wsum (ks : List Int) : Int := wsumN (fillL ks) ((fillL ks).length / 4) % 4294967296
/-- the law's own sum -/
def lsumN (ks : List Int) : Nat → Int
  | 0 => 0
  | i + 1 => lsumN ks i + ks.getD i 0 * ([16777216, 65536, 256, 1] : List Int).getD (i % 4) 0
def lsum (ks : List Int) : Int := lsumN ks ks.length % 4294967296
theorem fill_mod (ks : List Int) : (fillL ks).length % 4 = 0 := by rw [fillL_len]; omega
section
variable {w : World} {b : Array UInt8} {ks : List Int} {t u u' : Tok} {i n : Int} {h : Heap}
set_option maxHeartbeats 4000000 in
theorem sum_ok (hk : KBw.bInts b = ks) (hz : ks.length ≤ 900) : Gives w 102 [.bytes b t] (IntV (wsum ks)) 20 h := by
  (have hkf : PySem.Challenge.rw_on0235_01 = PySem.Challenge.rw_on0235_01 ∧ kheap.heap_1 = kheap.heap_1 := by k_fill; exact ⟨rfl, rfl⟩)
  clear hkf
  w_top off
  intro dp un gd fs s Q E hs AM hdp hun rt
  have KX := AM.X
  refine AM.open ?_; intro p loose mean mg mb T
  refine' enter_pure ?k1 ?k2 ?k6 ?k7 ?k8 ?k9 ?kB ?_ ?c2 ?c3 ?c4 ?c5
  (case k1 => assumption); (case k2 => assumption); (case k6 => k_is); (case k7 => k_is); (case k8 => first | exact rec_lt (by assumption) | (simp only [recursionLimit]; omega)); (case k9 => exact rfl); (case c5 => decide); (case kB => exact locs rfl); (case c2 => exact rfl); (case c3 => exact rfl); (case c4 => exact rfl)
  k_whole; intro L1 h1 tkz F1 N1; (try dsimp only); (dsimp only [List.map, List.zip, List.zipWith, List.reverse, List.reverseAux] at F1); (try k_extra "my kf")
  (try k_extra "my env")
  k_steps
  unfold StopLoop
  have hm := fill_mod ks
  have hl := fillL_len ks
  refine range_loop1 (fun a t => .int a t) (n := (fillL ks).length / 4) (y := Str.ofString "total") (wsumN (fillL ks)) rfl (by assumption) ?_ ?_ (by k_asm) (by k_asm) (by exact rfl) ?_ ?_
  · exact small_up (n := (fillL ks).length / 4) (by decide) (by decide) (by omega) (by omega)
  · exact size_up (by decide) (by omega)
  · intro i t' ta h tk I o hi hne F' N'
    (try k_extra "my kf")
    k_steps
    (try k_unfold)
    refine LEnd.intro (by k_asm) (cb_drop (by k_asm) (by first | exact fun _ h => h | exact fun _ h => .tail _ h | kcj_all)) (by first | assumption | exact fun _ h => nomatch h) ⟨rfl, ⟨_, Eq.trans (if_pos rfl) (congrArg (fun a => some (Value.int a _)) ?_)⟩, fun z h1 h2 => ?_⟩
    · rw [wsumN, s44, s4]
    · simp only [if_neg h1, if_neg h2]
  · intro ux ta h tk F' N'
    k_steps
    ((try k_unfold); (try dsimp only); refine rt _ _ _ (Fr.keep (by k_asm)) ?_)
    exact ⟨_, by rw [fmod_nat _ (by decide)]; rfl⟩
set_option maxHeartbeats 4000000 in
theorem lsum_ok (hk : KBw.bInts b = ks) (hz : ks.length ≤ 900) : Gives w 245 [.bytes b t] (IntV (lsum ks)) 20 h := by
  (have hkf : PySem.Challenge.rw_on0235_01 = PySem.Challenge.rw_on0235_01 ∧ kheap.heap_1 = kheap.heap_1 := by k_fill; exact ⟨rfl, rfl⟩)
  clear hkf
  w_top off
  intro dp un gd fs s Q E hs AM hdp hun rt
  have KX := AM.X
  refine AM.open ?_; intro p loose mean mg mb T
  refine' enter_pure ?k1 ?k2 ?k6 ?k7 ?k8 ?k9 ?kB ?_ ?c2 ?c3 ?c4 ?c5
  (case k1 => assumption); (case k2 => assumption); (case k6 => k_is); (case k7 => k_is); (case k8 => first | exact rec_lt (by assumption) | (simp only [recursionLimit]; omega)); (case k9 => exact rfl); (case c5 => decide); (case kB => exact locs rfl); (case c2 => exact rfl); (case c3 => exact rfl); (case c4 => exact rfl)
  k_whole; intro L1 h1 tkz F1 N1; (try dsimp only); (dsimp only [List.map, List.zip, List.zipWith, List.reverse, List.reverseAux] at F1); (try k_extra "my kf")
  (try k_extra "my env")
  k_steps
  unfold StopLoop
  refine range_loop1 (fun a t => .int a t) (n := ks.length) (y := Str.ofString "total") (lsumN ks) rfl (by assumption) ?_ ?_ (by k_asm) (by k_asm) (by exact rfl) ?_ ?_
  · exact small_up (by decide) (by decide) (Int.one_mul _).symm (by omega)
  · exact size_up (by decide) (Int.one_mul _).symm
  · intro i t' ta h tk I o hi hne F' N'
    (try k_extra "my kf")
    k_steps
    (try k_unfold)
    refine LEnd.intro (by k_asm) (cb_drop (by k_asm) (by first | exact fun _ h => h | exact fun _ h => .tail _ h | kcj_all)) (by first | assumption | exact fun _ h => nomatch h) ⟨rfl, ⟨_, Eq.trans (if_pos rfl) (congrArg (fun a => some (Value.int a _)) ?_)⟩, fun z h1 h2 => ?_⟩
    · rw [lsumN, fm4, s1, s14]
      rfl
    · simp only [if_neg h1, if_neg h2]
  · intro ux ta h tk F' N'
    k_steps
    ((try k_unfold); (try dsimp only); refine rt _ _ _ (Fr.keep (by k_asm)) ?_)
    exact ⟨_, by rw [fmod_nat _ (by decide)]; rfl⟩
end
-- C3
theorem word_C3_1 : True := by
  (k_with "call ref" => (k_here; (with_reducible show wpAny _ _ (call (Value.ref 198) _) _ _ _); (refine use_bytes (plain_ok (by kba_ints) (by k_extra "my size")) (by k_asm) (by k_asm) (by k_asm) (by k_asm) (by k_extra "my room") (by k_extra "my room") ?_); intro b9 t9 h9 tk9 K9 F9 N9; (first | (revert b9 t9 h9 tk9 K9 F9 N9; intros) | skip)))
  trivial
theorem word_C3_2 : True := by
  (k_with "call ref" => (k_here; (with_reducible show wpAny _ _ (call (Value.ref 102) _) _ _ _); (refine use_int (sum_ok (by kba_ints) (by k_extra "my size")) (by k_asm) (by k_asm) (by k_asm) (by k_asm) (by k_extra "my room") (by k_extra "my room") ?_); intro t9 h9 tk9 F9 N9; (first | (revert t9 h9 tk9 F9 N9; intros) | skip)))
  trivial
theorem word_C3_3 : True := by
  (k_with "call ref" => (k_here; (with_reducible show wpAny _ _ (call (Value.ref 245) _) _ _ _); (refine use_int (lsum_ok (by kba_ints) (by k_extra "my size")) (by k_asm) (by k_asm) (by k_asm) (by k_asm) (by k_extra "my room") (by k_extra "my room") ?_); intro t9 h9 tk9 F9 N9; (first | (revert t9 h9 tk9 F9 N9; intros) | skip)))
  trivial
section
variable {w : World} {b : Array UInt8} {ks : List Int} {t u u' : Tok} {i n : Int} {h : Heap} {x : Str}
set_option maxHeartbeats 4000000 in
theorem tsum_ok (hk : KBw.bInts b = ks) (hz : ks.length ≤ 800) : Gives w 205 [.str x u, .bytes b t] (IntV (wsum (if x == Str.ofString "head" then headL ks else ks))) 30 h := by
  (have hkf : PySem.Challenge.rw_on0235_01 = PySem.Challenge.rw_on0235_01 ∧ kheap.heap_1 = kheap.heap_1 := by k_fill; exact ⟨rfl, rfl⟩)
  clear hkf
  w_top off
  intro dp un gd fs s Q E hs AM hdp hun rt
  have KX := AM.X
  refine AM.open ?_; intro p loose mean mg mb T
  refine' enter_pure ?k1 ?k2 ?k6 ?k7 ?k8 ?k9 ?kB ?_ ?c2 ?c3 ?c4 ?c5
  (case k1 => assumption); (case k2 => assumption); (case k6 => k_is); (case k7 => k_is); (case k8 => first | exact rec_lt (by assumption) | (simp only [recursionLimit]; omega)); (case k9 => exact rfl); (case c5 => decide); (case kB => exact locs rfl); (case c2 => exact rfl); (case c3 => exact rfl); (case c4 => exact rfl)
  k_whole; intro L1 h1 tkz F1 N1; (try dsimp only); (dsimp only [List.map, List.zip, List.zipWith, List.reverse, List.reverseAux] at F1); (try k_extra "my kf")
  (try k_extra "my env")
  k_steps
  · ((try k_unfold); (try dsimp only); refine rt _ _ _ (Fr.keep (by k_asm)) ?_)
    exact ⟨_, by rw [if_pos (by assumption)]⟩
  · ((try k_unfold); (try dsimp only); refine rt _ _ _ (Fr.keep (by k_asm)) ?_)
    exact ⟨_, by rw [if_neg (by simp only [*]; decide)]⟩
set_option maxHeartbeats 4000000 in
theorem osum_ok (hk : KBw.bInts b = ks) (hz : ks.length ≤ 800) : Gives w 252 [.str x u, .bytes b t] (IntV (lsum (if x == Str.ofString "head" then headL ks else ks))) 30 h := by
  (have hkf : PySem.Challenge.rw_on0235_01 = PySem.Challenge.rw_on0235_01 ∧ kheap.heap_1 = kheap.heap_1 := by k_fill; exact ⟨rfl, rfl⟩)
  clear hkf
  w_top off
  intro dp un gd fs s Q E hs AM hdp hun rt
  have KX := AM.X
  refine AM.open ?_; intro p loose mean mg mb T
  refine' enter_pure ?k1 ?k2 ?k6 ?k7 ?k8 ?k9 ?kB ?_ ?c2 ?c3 ?c4 ?c5
  (case k1 => assumption); (case k2 => assumption); (case k6 => k_is); (case k7 => k_is); (case k8 => first | exact rec_lt (by assumption) | (simp only [recursionLimit]; omega)); (case k9 => exact rfl); (case c5 => decide); (case kB => exact locs rfl); (case c2 => exact rfl); (case c3 => exact rfl); (case c4 => exact rfl)
  k_whole; intro L1 h1 tkz F1 N1; (try dsimp only); (dsimp only [List.map, List.zip, List.zipWith, List.reverse, List.reverseAux] at F1); (try k_extra "my kf")
  (try k_extra "my env")
  k_steps
  · ((try k_unfold); (try dsimp only); refine rt _ _ _ (Fr.keep (by k_asm)) ?_)
    exact ⟨_, by rw [if_pos (by assumption)]; rfl⟩
  · ((try k_unfold); (try dsimp only); refine rt _ _ _ (Fr.keep (by k_asm)) ?_)
    exact ⟨_, by rw [if_neg (by simp only [*]; decide)]⟩
end
-- R5
section
variable {prog : Program} {w : World} {A : Around} {s : Shared} {h₀ : Heap} {L : Addr} {m : Str → Option Value} {env : Env}
/-- the turns of a comprehension by an invariant -/
theorem comp_ind {elt : Expr} {x : Str} {scope : Scope} {cl : List (Str × Addr)} {S : List (Addr × Obj) → Prop} {P : Nat → Value → Prop} {Fin : List Value → List (Addr × Obj) → Prop} {n : Nat} (J : Nat → List Value → List (Addr × Obj) → Prop)
    (turn : ∀ i ys news v I oI C oC D m₂ h tk (E' : Value → Shared → Prop), i < n → J i ys news → P i v → LCg.NsObj oC m₂ → m₂ x = some v → Fr h₀ L h m → News h₀ L h ((I, oI) :: (C, oC) :: (D, LCg.lst ys) :: news) → LCg.Off3 I C D news → ((@Ne Nat I C) ∧ (@Ne Nat I D) ∧ (@Ne Nat C D)) →
      wpAny (model prog w) A (eval elt (compEnvC scope cl C env)) (LCg.CompEnd h₀ L m { s with heap := h, toks := tk } I oI C oC D (LCg.lst ys) S (fun y news' => J (i + 1) (ys ++ [y]) news')) E' { s with heap := h, toks := tk })
    (fin : ∀ ys news, J n ys news → Fin ys news) : ∀ (k i : Nat) (ys : List Value) (news : List (Addr × Obj)), i + k = n → J i ys news → LCg.CompRest prog w A h₀ L m env elt x scope cl s S P Fin k i ys news := by
  intro k
  induction k with
  | zero =>
    intro i ys news hi hJ
    obtain rfl : i = n := by omega
    exact fin ys news hJ
  | succ k ih =>
    intro i ys news hi hJ v I oI C oC D m₂ h tk E' hP hC hx F N off ne
    refine wpAny_mono (turn i ys news v I oI C oC D m₂ h tk E' (by omega) hJ hP hC hx F N off ne) (fun y s₂ he => ?_) fun _ _ e => e
    obtain ⟨h', tk', news', e, F', N', off', hS, hr⟩ := he
    exact ⟨h', tk', news', e, F', N', off', hS, ih (i + 1) (ys ++ [y]) news' (by omega) hr⟩
/-- the same with one test -/
theorem compT_ind {ct elt : Expr} {x : Str} {scope : Scope} {cl : List (Str × Addr)} {S : List (Addr × Obj) → Prop} {P : Nat → Value → Prop} {Fin : List Value → List (Addr × Obj) → Prop} {n : Nat} (J : Nat → List Value → List (Addr × Obj) → Prop)
    (step : ∀ k i ys news, J i ys news → i + (k + 1) = n → (∀ ys' news', J (i + 1) ys' news' → LCt.CompRestT prog w A h₀ L m env ct elt x scope cl s S P Fin k (i + 1) ys' news') → LCt.CompRestT prog w A h₀ L m env ct elt x scope cl s S P Fin (k + 1) i ys news)
    (fin : ∀ ys news, J n ys news → Fin ys news) : ∀ (k i : Nat) (ys : List Value) (news : List (Addr × Obj)), i + k = n → J i ys news → LCt.CompRestT prog w A h₀ L m env ct elt x scope cl s S P Fin k i ys news := by
  intro k
  induction k with
  | zero =>
    intro i ys news hi hJ
    obtain rfl : i = n := by omega
    exact fin ys news hJ
  | succ k ih =>
    intro i ys news hi hJ
    exact step k i ys news hJ hi fun ys' news' hJ' => ih (i + 1) ys' news' (by omega) hJ'
end
theorem word_R5_1 : True := by
  (k_with "eval ListComp" => (k_here; (first | lcg_look | lcf_look); lcg_calm; k_dflt (refine LCg.ListComp_U (F₀ := by k_asm) (by with_unfolding_all rfl) (by decide) (by rfl) (by decide) (by rfl) ?_); k_dflt lcg_toSrc))
  trivial
theorem word_R5_2 : True := by
  (k_with "exec Assign cons ListComp" => (k_here; (first | lcg_look | lcf_look); lcg_calm; k_dflt (refine LCg.Assign_ListComp_U (F₀ := by k_asm) (by rfl) (by with_unfolding_all rfl) (by with_unfolding_all rfl) (by decide) (by rfl) (by decide) (by rfl) (by rfl) (by rfl) ?_); k_dflt lcg_toSrc))
  trivial
theorem word_R5_3 : True := by
  (k_with "eval ListComp" => (k_here; lct_look; lcg_calm; k_dflt (refine LCt.ListComp_T (F₀ := by k_asm) (by with_unfolding_all rfl) (by decide) (by rfl) (by decide) (by rfl) ?_); k_dflt lct_toSrc))
  trivial
theorem word_R5_4 : True := by
  (k_with "eval ListComp" => (k_here; lcp_look; lcg_calm; k_dflt (refine LCp.ListComp_P (F₀ := by k_asm) (by with_unfolding_all rfl) (by decide) (by rfl) (by decide) (by rfl) (by rfl) (by decide) ?_); k_dflt lcp_toSrc))
  trivial
theorem word_R5_5 : True := by
  (k_with "exec Assign cons ListComp" => (k_here; lcp_look; lcg_calm; k_dflt (refine LCp.Assign_ListComp_P (F₀ := by k_asm) (by rfl) (by with_unfolding_all rfl) (by with_unfolding_all rfl) (by decide) (by rfl) (by decide) (by rfl) (by rfl) (by decide) (by rfl) (by rfl) ?_); k_dflt lcp_toSrc))
  trivial
theorem word_R5_6 : True := by
  (k_with "CompSrc" => ((with_reducible show LCg.CompSrc _ _ _ _ _ _ _ _ _ _ _ _ _ _); refine StopLoop.mk ?_))
  trivial
theorem word_R5_7 : True := by
  (k_with "CompSrcT" => ((with_reducible show LCt.CompSrcT _ _ _ _ _ _ _ _ _ _ _ _ _ _ _); refine StopLoop.mk ?_))
  trivial
theorem word_R5_8 : True := by
  (k_with "SrcLP" => ((with_reducible show LCp.SrcLP _ _ _ _ _ _ _ _ _ _ _ _ _ _ _); refine StopLoop.mk ?_))
  trivial
-- C4
theorem four_eq (n : Int) : [n / 16777216 % 256, n / 65536 % 256, n / 256 % 256, n / 1 % 256] = p32 n := by
  rw [show n / 16777216 = n / 65536 / 256 by omega, Int.ediv_one]
  rfl
section
variable {prog : Program} {w : World} {A : Around} {E : Value → Shared → Prop} {s : Shared} {K : Frag} {p : Program} {loose : List Str} {mean : ExcName → Option Value} {mg mb : Str → Option Value}
/-- enter a def some of whose names are cells, base the whole heap -/
theorem enter_cells {name qual : Str} {params : Arguments} {body : List Stmt} {scope : Scope} {dV kV doc pm cdv ct oc : Value} {an od : Option Addr} {osl : Array (Option Value)} {f : Addr} {vs : List Value} {Q : Value → Shared → Prop}
    (X : K.In s.heap) (T : Top p loose mean mg mb s.heap)
    (ho : K.lookup f = some ⟨oc, od, .func (fnOf name qual params body scope dV kV doc pm an cdv ct), osl⟩) (hcd : codeIn K cdv qual = true) (hroom : A.depth < recursionLimit)
    (hbind : bindArgs (fnOf name qual params body scope dV kV doc pm an cdv ct) ⟨vs, []⟩ = pure ((params.args.map (·.arg)).zip vs))
    (hkind : (((params.args.map (·.arg)).zip vs).all fun y => scope.names.lookup y.1 == some .local || scope.names.lookup y.1 == some .cell) = true)
    (hnd : ((cellsFrom 0 scope.names []).map (·.1)).Nodup)
    (h : ∀ L h₁ tk cells, Fr s.heap L h₁ (bindL (envOfC qual scope L f cdv).kindOf ((params.args.map (·.arg)).zip vs) fun _ => none) → News s.heap L h₁ cells →
      CellsAre (bindC (envOfC qual scope L f cdv).kindOf ((params.args.map (·.arg)).zip vs) fun _ => none) (cellsFrom (L + 1) scope.names []) cells →
      wpAny (model prog w) (A.deeper (envOfC qual scope L f cdv)) (execs body (envOfC qual scope L f cdv))
        (fun fl s' => Q (match fl with | .ret v => v | _ => .none) s')
        (fun e s' => wpAny (model prog w) (A.deeper (envOfC qual scope L f cdv)) (leaving (envOfC qual scope L f cdv) e) (fun _ s'' => E e s'') (fun e' s'' => E e' s'') s')
        { s with heap := h₁, toks := tk })
    (hco : scope.isCoroutine = false) (hgen : scope.isGenerator = false) (hk : scope.kind = .function) : wpAny (model prog w) A (call (.ref f) vs) Q E s := by
  refine wpAny_call (codeAny_call_function hroom (X _ _ ho) rfl hco hgen rfl (codeRec_of X hcd) ?_)
  rw [hbind]
  refine wpAny_pure (wpAny_newFunctionEnv_cells hk (kindsX hkind _) fun env' he s' x => ?_)
  subst he
  refine ⟨T.nolimit.keeps x.toInCall.keep, codeAny_func ?_⟩
  obtain ⟨h₁, tk, rfl, _⟩ := x.done
  have hk₁ := x.toInCall.keep
  obtain ⟨cells, NC, Y⟩ := Cl.news (h₀ := s.heap) (Nat.le_refl _) fun n c hm => ⟨x.cell n c (lookup_of_mem_nodup (cellsFrom_names scope.names 0 (s.heap.objs.size + 1) [] [] rfl ▸ hnd) hm), x.above n c hm⟩
  exact h s.heap.objs.size h₁ tk cells ⟨x.toInCall.ns, hk₁, Nat.le_refl _⟩ NC Y
end
section
variable {w : World} {b : Array UInt8} {ks : List Int} {t u u' : Tok} {i n : Int} {h : Heap} {x : Str}
set_option maxHeartbeats 4000000 in
theorem four_ok : Gives w 238 [.int n t] (BytesV (p32 n)) 20 h := by
  (have hkf : PySem.Challenge.rw_on0235_01 = PySem.Challenge.rw_on0235_01 ∧ kheap.heap_1 = kheap.heap_1 := by k_fill; exact ⟨rfl, rfl⟩)
  clear hkf
  w_top off
  intro dp un gd fs s Q E hs AM hdp hun rt
  have KX := AM.X
  refine AM.open ?_; intro p loose mean mg mb T
  refine' enter_cells ?k1 ?k2 ?k6 ?k7 ?k8 ?k9 ?kB ?kD ?_ ?c2 ?c3 ?c4
  (case k1 => assumption); (case k2 => assumption); (case k6 => k_is); (case k7 => k_is); (case k8 => first | exact rec_lt (by assumption) | (simp only [recursionLimit]; omega)); (case k9 => exact rfl); (case kB => exact rfl); (case kD => decide +kernel); (case c2 => exact rfl); (case c3 => exact rfl); (case c4 => exact rfl)
  k_whole; intro L1 h1 tk1 cells1 F1 N1 Y1; k_cells Y1; (try simp only [List.cons_append, List.nil_append] at N1); (try dsimp only); (try k_extra "my kf")
  (try k_extra "my env")
  k_steps
  unfold StopLoop
  refine LCg.CompSrc.ledger (by rfl) (by k_asm) (by k_asm) (by k_mem) (by exact Nat.le_of_ble_eq_true rfl) ?_
  intro g'; lcg_lit
  k_steps
  ((try k_unfold); (try dsimp only); refine rt _ _ _ (Fr.keep (by k_asm)) ?_)
  refine ⟨_, _, rfl, (KBa.ints_make (ns := [_, _, _, _]) (by intro x hx; simp only [List.mem_cons, List.not_mem_nil, or_false] at hx; rcases hx with rfl | rfl | rfl | rfl <;> exact ⟨fmod_lo _ (by decide), fmod_hi _ (by decide)⟩)).trans ?_⟩
  rw [← four_eq]
  simp only [fm256]
  rw [show ((2 : Int) ^ Int.toNat 24) = 16777216 from rfl, show ((2 : Int) ^ Int.toNat 16) = 65536 from rfl, show ((2 : Int) ^ Int.toNat 8) = 256 from rfl, show ((2 : Int) ^ Int.toNat 0) = 1 from rfl, fdiv_nat _ (by decide), fdiv_nat _ (by decide), fdiv_nat _ (by decide), fdiv_nat _ (by decide)]
end

theorem word_C4_1 : True := by
  (k_with "call ref" => (k_here; (with_reducible show wpAny _ _ (call (Value.ref 238) _) _ _ _); (refine use_bytes four_ok (by k_asm) (by k_asm) (by k_asm) (by k_asm) (by k_extra "my room") (by k_extra "my room") ?_); intro b9 t9 h9 tk9 K9 F9 N9; (first | (revert b9 t9 h9 tk9 K9 F9 N9; intros) | skip)))
  trivial
-- C5
theorem word_C5_1 : True := by
  (k_with "call ref" => (k_here; (with_reducible show wpAny _ _ (call (Value.ref 88) _) _ _ _); (refine use_bytes (part_ok (by kba_ints) (by k_extra "my size") (by first | omega | k_extra "my size") (by first | omega | k_extra "my size") (by first | omega | k_extra "my size")) (by k_asm) (by k_asm) (by k_asm) (by k_asm) (by k_extra "my room") (by k_extra "my room") ?_); intro b9 t9 h9 tk9 K9 F9 N9; (first | (revert b9 t9 h9 tk9 K9 F9 N9; intros) | skip)))
  trivial
/-- the text of some octets -/
def txt (ks : List Int) : Str := ⟨(ks.map Int.toNat).toArray⟩
def TagOk (ks : List Int) : Prop := ∀ k ∈ ks, 32 ≤ k ∧ k ≤ 126
theorem txt_len (ks : List Int) : (txt ks).length = ks.length := by show (List.toArray _).size = _; simp
theorem txt_app (ks ls : List Int) : txt (ks ++ ls) = txt ks ++ txt ls := by
  show Str.mk _ = Str.mk _
  simp [txt]
theorem str1_len (k : Nat) : (Str.mk #[k]).length = 1 := rfl
theorem word_C5_2 : True := by
  (k_with "binaryOp Add str str" => (k_here; (with_reducible show wpAny _ _ (binaryOp Operator.Add (Value.str _ _) (Value.str _ _)) _ _ _); (refine PyProof.Rows.add_str (hsz := (by simp only [txt_len, str1_len, List.length_take, partL_len]; rw [sizeLine_eq]; omega)) ?_); intro _ _))
  trivial
section
variable {w : World} {b : Array UInt8} {ks : List Int} {t u u' : Tok} {i n : Int} {h : Heap}
set_option maxHeartbeats 4000000 in
theorem tag_ok (hk : KBw.bInts b = ks) (hz : ks.length ≤ 1000) (h0 : 0 ≤ i) (h1 : i + 4 ≤ ks.length) (ht : TagOk (partL ks i.toNat 4)) : Gives w 109 [.bytes b t, .int i u] (StrV (txt (partL ks i.toNat 4))) 20 h := by
  (have hkf : PySem.Challenge.rw_on0235_01 = PySem.Challenge.rw_on0235_01 ∧ kheap.heap_1 = kheap.heap_1 := by k_fill; exact ⟨rfl, rfl⟩)
  clear hkf
  w_top off
  intro dp un gd fs s Q E hs AM hdp hun rt
  have KX := AM.X
  refine AM.open ?_; intro p loose mean mg mb T
  refine' enter_pure ?k1 ?k2 ?k6 ?k7 ?k8 ?k9 ?kB ?_ ?c2 ?c3 ?c4 ?c5
  (case k1 => assumption); (case k2 => assumption); (case k6 => k_is); (case k7 => k_is); (case k8 => first | exact rec_lt (by assumption) | (simp only [recursionLimit]; omega)); (case k9 => exact rfl); (case c5 => decide); (case kB => exact locs rfl); (case c2 => exact rfl); (case c3 => exact rfl); (case c4 => exact rfl)
  k_whole; intro L1 h1 tkz F1 N1; (try dsimp only); (dsimp only [List.map, List.zip, List.zipWith, List.reverse, List.reverseAux] at F1); (try k_extra "my kf")
  (try k_extra "my env")
  k_steps
  unfold StopLoop
  refine bytes_loop1 (fun (a : Str) t => .str a t) (y := Str.ofString "found") (fun j => txt ((partL ks i.toNat 4).take j)) (by assumption) rfl (by k_asm) (by k_asm) (by exact rfl) ?_ ?_
  · intro j k t' ta h tk I o hi hik k0 k1 hne F' N'
    have hk2 := ht k (List.mem_of_getElem? hik)
    k_steps
    (try k_unfold)
    refine LEnd.intro (by k_asm) (cb_drop (by k_asm) (by first | exact fun _ h => h | exact fun _ h => .tail _ h | kcj_all)) (by first | assumption | exact fun _ h => nomatch h) ⟨rfl, ⟨_, Eq.trans (if_pos rfl) (congrArg (fun a => some (Value.str a _)) ?_)⟩, fun z h1 h2 => ?_⟩
    · have hik2 : (partL ks i.toNat 4)[j]? = some k := hik
      rw [List.take_add_one, hik2, txt_app]
      rfl
    · simp only [if_neg h1, if_neg h2]
  · intro ux ta h tk F' N'
    k_steps
    ((try k_unfold); (try dsimp only); refine rt _ _ _ (Fr.keep (by k_asm)) ?_)
    exact ⟨ta, congrArg (fun a => Value.str (txt a) ta) (List.take_length (l := partL ks i.toNat 4))⟩
end
-- B2
section
variable {prog : Program} {w : World} {A : Around} {s : Shared} {K : Frag} {p : Program} {loose : List Str} {mean : ExcName → Option Value} {mg mb : Str → Option Value} {R : Result → Shared → Prop} {h₀ : Heap}
/-- enter a def with a base that is a part of the heap -/
theorem enter_base {name qual : Str} {params : Arguments} {body : List Stmt} {scope : Scope} {dV kV doc pm cdv ct oc : Value} {an od : Option Addr} {osl : Array (Option Value)} {f : Addr} {vs : List Value}
    (hk0 : h₀.StaysIn s.heap) (hz : h₀.objs.size ≤ s.heap.objs.size) (X : K.In h₀) (T : Top p loose mean mg mb h₀)
    (ho : K.lookup f = some ⟨oc, od, .func (fnOf name qual params body scope dV kV doc pm an cdv ct), osl⟩) (hcd : codeIn K cdv qual = true) (hroom : A.depth < recursionLimit)
    (hbind : bindArgs (fnOf name qual params body scope dV kV doc pm an cdv ct) ⟨vs, []⟩ = pure ((params.args.map (·.arg)).zip vs)) (hloc : ∀ y ∈ (params.args.map (·.arg)).zip vs, scope.names.lookup y.1 = some .local)
    (h : ∀ L h₁ tk, L = s.heap.objs.size → s.heap.StaysIn h₁ → Fr h₀ L h₁ (fun y => ((params.args.map (·.arg)).zip vs).reverse.lookup y) →
      wpAny (model prog w) (A.deeper (envOf qual scope L f cdv)) (execs body (envOf qual scope L f cdv))
        (fun fl s' => R (.ok (.ret (match fl with | .ret v => v | _ => .none))) s')
        (fun e s' => wpAny (model prog w) (A.deeper (envOf qual scope L f cdv)) (leaving (envOf qual scope L f cdv) e) (fun _ s'' => R (.error e) s'') (fun e' s'' => R (.error e') s'') s')
        { s with heap := h₁, toks := tk })
    (hco : scope.isCoroutine = false) (hgen : scope.isGenerator = false) (hk : scope.kind = .function)
    (hcell : ∀ x ∈ scope.names, x.2 ≠ .cell) : codeAny (model prog w) A (.call (.ref f) ⟨vs, []⟩) R s := by
  have X' := X.keeps hk0
  have T' := T.keeps hk0
  refine codeAny_call_def (fd := fnOf name qual params body scope dV kV doc pm an cdv ct) (body := body) (binds := (params.args.map (·.arg)).zip vs) hroom (X' _ _ ho) rfl T'.nolimit (codeRec_of X' hcd) rfl (.of_eq hbind) hcell hloc (fun h₁ hns hk₁ => ?_) hco hgen hk
  exact h _ h₁ _ rfl hk₁ ⟨hns, fun b o e => hk₁ b o (hk0 b o e), hz⟩
/-- the same for a def with cells -/
theorem enter_baseC {name qual : Str} {params : Arguments} {body : List Stmt} {scope : Scope} {dV kV doc pm cdv ct oc : Value} {an od : Option Addr} {osl : Array (Option Value)} {f : Addr} {vs : List Value}
    (hk0 : h₀.StaysIn s.heap) (hz : h₀.objs.size ≤ s.heap.objs.size) (X : K.In h₀) (T : Top p loose mean mg mb h₀)
    (ho : K.lookup f = some ⟨oc, od, .func (fnOf name qual params body scope dV kV doc pm an cdv ct), osl⟩) (hcd : codeIn K cdv qual = true) (hroom : A.depth < recursionLimit)
    (hbind : bindArgs (fnOf name qual params body scope dV kV doc pm an cdv ct) ⟨vs, []⟩ = pure ((params.args.map (·.arg)).zip vs))
    (hkind : (((params.args.map (·.arg)).zip vs).all fun y => scope.names.lookup y.1 == some .local || scope.names.lookup y.1 == some .cell) = true)
    (hnd : ((cellsFrom 0 scope.names []).map (·.1)).Nodup)
    (h : ∀ L h₁ tk cells, L = s.heap.objs.size → s.heap.StaysIn h₁ → Fr h₀ L h₁ (bindL (envOfC qual scope L f cdv).kindOf ((params.args.map (·.arg)).zip vs) fun _ => none) → News s.heap L h₁ cells →
      CellsAre (bindC (envOfC qual scope L f cdv).kindOf ((params.args.map (·.arg)).zip vs) fun _ => none) (cellsFrom (L + 1) scope.names []) cells →
      wpAny (model prog w) (A.deeper (envOfC qual scope L f cdv)) (execs body (envOfC qual scope L f cdv))
        (fun fl s' => R (.ok (.ret (match fl with | .ret v => v | _ => .none))) s')
        (fun e s' => wpAny (model prog w) (A.deeper (envOfC qual scope L f cdv)) (leaving (envOfC qual scope L f cdv) e) (fun _ s'' => R (.error e) s'') (fun e' s'' => R (.error e') s'') s')
        { s with heap := h₁, toks := tk })
    (hco : scope.isCoroutine = false) (hgen : scope.isGenerator = false) (hk : scope.kind = .function) : codeAny (model prog w) A (.call (.ref f) ⟨vs, []⟩) R s := by
  have X' := X.keeps hk0
  have T' := T.keeps hk0
  refine codeAny_call_function hroom (X' _ _ ho) rfl hco hgen rfl (codeRec_of X' hcd) ?_
  rw [hbind]
  refine wpAny_pure (wpAny_newFunctionEnv_cells hk (kindsX hkind _) fun env' he s' x => ?_)
  subst he
  refine ⟨T'.nolimit.keeps x.toInCall.keep, codeAny_func ?_⟩
  obtain ⟨h₁, tk, rfl, _⟩ := x.done
  have hk₁ := x.toInCall.keep
  obtain ⟨cells, NC, Y⟩ := Cl.news (h₀ := s.heap) (Nat.le_refl _) fun n c hm => ⟨x.cell n c (lookup_of_mem_nodup (cellsFrom_names scope.names 0 (s.heap.objs.size + 1) [] [] rfl ▸ hnd) hm), x.above n c hm⟩
  exact h s.heap.objs.size h₁ tk cells rfl hk₁ ⟨x.toInCall.ns, fun b o e => hk₁ b o (hk0 b o e), hz⟩ NC Y
end
-- X1
abbrev PRG : Program := PySem.Challenge.rw_on0235_01.row.prog
abbrev excO (t : Addr) : Obj := { cls := .ref 44, data := .fields #[.ref t, .none, .none, .none, .bool false, .none] }
/-- a fresh FontFault -/
def MadeFF (h h' : Heap) (e : Addr) : Prop :=
  (∀ b o, h.get? b = some o → h'.get? b = some o) ∧ h.get? e = none ∧ ∃ t dx, h'.get? e = some { cls := .ref 44, dict := some dx, data := .fields #[.ref t, .none, .none, .none, .bool false, .none] }
section
variable {w : World} {A : Around} {R : Result → Shared → Prop} {E : Value → Shared → Prop} {h : Heap} {g : Array GenState} {d : Drawn} {t : Nat} {os : OsState} {rest : List Value}
open Builtin Builtin.ObjectAttr
theorem ff_sub_exc (X : (kheap.heap_1 w.params).In h) : Looks (model PySem.Challenge.rw_on0235_01.row.prog w) h (isSubtype (.ref 44) (.type "Exception")) true := Looks.of_peek X (by kernel_rfl)
theorem ff_sub_attr (X : (kheap.heap_1 w.params).In h) : Looks (model PySem.Challenge.rw_on0235_01.row.prog w) h (isSubtype (.ref 44) (.type "AttributeError")) false := Looks.of_peek X (by kernel_rfl)
theorem ff_sub_name (X : (kheap.heap_1 w.params).In h) : Looks (model PySem.Challenge.rw_on0235_01.row.prog w) h (isSubtype (.ref 44) (.type "NameError")) false := Looks.of_peek X (by kernel_rfl)
theorem ff_sub_base (X : (kheap.heap_1 w.params).In h) : Looks (model PySem.Challenge.rw_on0235_01.row.prog w) h (isSubtype (.ref 44) (.type "BaseException")) true := Looks.of_peek X (by kernel_rfl)
theorem ff_sub_self (X : (kheap.heap_1 w.params).In h) : Looks (model PySem.Challenge.rw_on0235_01.row.prog w) h (isSubtype (.ref 44) (.ref 44)) true := Looks.of_peek X (by kernel_rfl)
theorem ff_sub_obj (X : (kheap.heap_1 w.params).In h) : Looks (model PySem.Challenge.rw_on0235_01.row.prog w) h (isSubtype (.ref 44) (.type "object")) true := Looks.of_peek X (by kernel_rfl)
theorem ff_madeBy (X : (kheap.heap_1 w.params).In h) : Looks (model PySem.Challenge.rw_on0235_01.row.prog w) h (Bind.madeBy (.ref 44)) (some "Exception.__new__") := Looks.of_peek X (by kernel_rfl)
theorem ff_madeHere (X : (kheap.heap_1 w.params).In h) : Looks (model PySem.Challenge.rw_on0235_01.row.prog w) h (Bind.madeHere "BaseException.__new__" (.ref 44)) () := Looks.of_peek X (by kernel_rfl)
theorem ff_isType (X : (kheap.heap_1 w.params).In h) : Looks (model PySem.Challenge.rw_on0235_01.row.prog w) h (isType (.ref 44)) true := Looks.of_peek X (by kernel_rfl)
theorem ff_mro (X : (kheap.heap_1 w.params).In h) : Looks (model PySem.Challenge.rw_on0235_01.row.prog w) h (mroOf (.ref 44)) [.ref 44, .ref 31, .type "Exception", .type "BaseException", .type "object"] := Looks.of_peek X (by kernel_rfl)
theorem ff_call (X : (kheap.heap_1 w.params).In h) : Looks (model PySem.Challenge.rw_on0235_01.row.prog w) h (specialOf (.ref 44) "__call__") (some (.builtin "type.__call__")) := Looks.of_peek X (by kernel_rfl)
theorem ff_init (X : (kheap.heap_1 w.params).In h) : Looks (model PySem.Challenge.rw_on0235_01.row.prog w) h (typeLookup (.ref 44) "__init__") (some (.ref 28)) := Looks.of_peek X (by kernel_rfl)
theorem ff_setattr (X : (kheap.heap_1 w.params).In h) : Looks (model PySem.Challenge.rw_on0235_01.row.prog w) h (typeLookup (.ref 44) "__setattr__") (some (.builtin "object.__setattr__")) := Looks.of_peek X (by kernel_rfl)
theorem ff_msg (X : (kheap.heap_1 w.params).In h) : Looks (model PySem.Challenge.rw_on0235_01.row.prog w) h (typeLookup (.ref 44) "message") none := Looks.of_peek X (by kernel_rfl)
theorem ff_cls (X : (kheap.heap_1 w.params).In h) : Looks (model PySem.Challenge.rw_on0235_01.row.prog w) h (classData 44) { name := Str.ofString "FontFault", bases := [.ref 31], mro := [.ref 44, .ref 31, .type "Exception", .type "BaseException", .type "object"], ns := 43, qualname := Str.ofString "FontFault" } := Looks.of_peek X (by kernel_rfl)
theorem ff_typ (X : (kheap.heap_1 w.params).In h) : Looks (model PySem.Challenge.rw_on0235_01.row.prog w) h (isInstance (.ref 44) (.type "type")) true := Looks.of_peek X (by kernel_rfl)
theorem ff_typeOf (X : (kheap.heap_1 w.params).In h) : Looks (model PySem.Challenge.rw_on0235_01.row.prog w) h (typeOf (.ref 44)) (.type "type") := Looks.of_peek X (by kernel_rfl)
theorem ff_bind (X : (kheap.heap_1 w.params).In h) (self : Value) : Looks (model PySem.Challenge.rw_on0235_01.row.prog w) h (bindSpecial (.ref 28) self) (.ref 28, [self]) := Looks.of_peek X (by kernel_rfl)
theorem ff_checkNew (X : (kheap.heap_1 w.params).In h) {v : Value} : Looks (model PySem.Challenge.rw_on0235_01.row.prog w) h (checkBuiltinCall "Exception.__new__" ⟨[.ref 44, v], []⟩) () := Looks.of_peek X (by kernel_rfl)
abbrev ffCls : ClassData := { name := Str.ofString "FontFault", bases := [.ref 31], mro := [.ref 44, .ref 31, .type "Exception", .type "BaseException", .type "object"], ns := 43, qualname := Str.ofString "FontFault" }
abbrev ffObj : Obj := ⟨.type "type", none, .cls ffCls, #[some (.ref 35), none, some (.str (Str.ofString "FontFault") 218), some (.str (Str.ofString "FontFault") 226), some (.builtin "Exception.__new__"), some (.bool true)]⟩
theorem ff_obj (X : (kheap.heap_1 w.params).In h) : h.get? 44 = some ffObj := X _ _ (by kernel_rfl)
set_option maxHeartbeats 2000000 in
theorem new_FF (X : (kheap.heap_1 w.params).In h)
    (hq : R (.ok (.ret (.ref (h.objs.size + 1)))) ⟨(h.push { cls := .type "tuple", data := .seq rest.toArray }).push (excO h.objs.size), g, d, t, os⟩) (hrest : rest.length ≤ sizeLine := by size_fits) :
    codeAny (model PySem.Challenge.rw_on0235_01.row.prog w) A (.builtin "Exception.__new__" ⟨.ref 44 :: rest, []⟩) R ⟨h, g, d, t, os⟩ := by
  have F := PySem.F.excBase_Exception
  have hends := F.ends
  have l1 := ff_isType X
  have l2 := ff_sub_exc X
  have l3 := ff_madeHere X
  have l4 := ff_sub_attr X
  have l5 := ff_sub_name X
  refine codeAny_builtinAt F.entry ?_
  unfold Builtin.«BaseException.__new__»
  refine PySem.wpAt_bind ?_
  show PySem.wpAt _ _ _ (stack >>= _) _ _ _
  refine PySem.wpAt_bind (PySem.wpAt_stack fun p below => PySem.wpAt_of_wpAny ?_)
  wp_walk
  refine PySem.wpAt_of_wpAny ?_
  rw [F.owner]
  repeat (first | with_reducible refine Looks.at (by assumption) ?_ | wp_step)
  refine wpAny_load (Heap.get?_push_of_some _ (Heap.get?_push_of_some _ (ff_obj X))) ?_
  wp_walk
  show R _ _
  rw [Heap.size_push]
  exact hq
theorem inst_ff {h : Heap} {e : Addr} {t : Addr} (he : h.get? e = some (excO t)) : W.InstAt h e (excO t) 44 none := ⟨he, rfl, rfl, trivial⟩
set_option maxHeartbeats 2000000 in
/-- self.message = v on a fresh FontFault -/
theorem store_FF (X : (kheap.heap_1 w.params).In h) {e ta : Addr} {v : Value} {Q : Unit → Shared → Prop} (he : h.get? e = some (excO ta))
    (hq : ∀ h' tk' dx, (∀ b o, b ≠ e → h.get? b = some o → h'.get? b = some o) → h'.get? e = some { cls := .ref 44, dict := some dx, data := .fields #[.ref ta, .none, .none, .none, .bool false, .none] } → Q () ⟨h', g, d, tk', os⟩) :
    wpAny (model PySem.Challenge.rw_on0235_01.row.prog w) A (setAttr (.ref e) (Str.ofString "message") v) Q E ⟨h, g, d, t, os⟩ := by
  have I := inst_ff he
  have SF := PySem.F.store_object
  refine wpAny_bind (wpAny_mkText (wpAny_bind (wpAny_bind (wpAny_bind (I.type _ _ _ _ (fun _ _ e => e) (ff_setattr X _ _ _ _ (fun _ _ e => e) (wpAny_holding ?_)))))))
  rw [SF.slot.bind]
  refine wpAny_bind (wpAny_pure (wpAny_bind (wpAny_call ?_)))
  have sub : Looks (model PySem.Challenge.rw_on0235_01.row.prog w) h (isInstance (.ref e) (.type "object")) true := I.type.andThen (ff_sub_obj X)
  refine codeAny_call_builtin SF.slot.plain SF.entry (@check_slot (model PySem.Challenge.rw_on0235_01.row.prog w) _ _ _ "object.__setattr__" "object" "__setattr__" (.ref e) [_, v] [] _ SF.kind SF.split sub (SF.args (.ref e) _ v) ?_)
  show wpAny _ _ (Builtin.«object.__setattr__» ⟨[.ref e, .str _ _, v], []⟩) _ _ _
  rw [osa_eq, refuse_eq]
  refine wpAny_bind (wpAny_bind (I.type.here (wpAny_bind ((ff_mro X).here ?_))))
  rw [refuseLoop_ref, refuseLoop_ref, PySem.F.store_Exception.passes]
  refine wpAny_pure (wpAny_bind (I.type.here (wpAny_bind ((ff_msg X).here ?_))))
  refine wpAny_bind (wpAny_of_eq (a := none) rfl ?_)
  show wpAny _ _ (storeInOwnDict (.ref e) (.ref 44) (.str (Str.ofString "message") t) (Str.ofString "message") v false) _ _ _
  refine wpAny_bind (wpAny_pure (wpAny_bind (wpAny_bind (wpAny_loadPart he (wpAny_bind ((ff_cls X).here ?_))))))
  have hx₁ : (h.push { cls := .type "dict", data := .dict #[] }).get? e = some (excO ta) := Heap.get?_push_of_some _ he
  have hxs : e ≠ h.objs.size := Nat.ne_of_lt (Heap.lt_size he)
  show wpAny _ _ (alloc { cls := .type "dict", data := .dict #[] } >>= fun d => update e (fun o => { o with dict := some d }) >>= fun _ => dictMade (.ref 44) e d) _ _ _
  refine wpAny_bind (wpAny_alloc' ?_)
  refine wpAny_bind (wpAny_update' hx₁ ?_)
  refine wpAny_pure ?_
  have hgd : ((h.push { cls := .type "dict", data := .dict #[] }).update e fun o => { o with dict := some h.objs.size }).get? h.objs.size = some { cls := .type "dict", data := .dict #[] } :=
    (Heap.get?_update_ne _ _ _ _ hxs.symm).trans (Heap.get?_push_at rfl rfl)
  have hnd : ((h.push { cls := .type "dict", data := .dict #[] }).update e fun o => { o with dict := some h.objs.size }).Ns h.objs.size (fun _ => none) :=
    ⟨_, #[], _, hgd, rfl, fun e he => absurd he (by simp), fun _ => rfl⟩
  show wpAny _ _ (storeInDict h.objs.size (.str (Str.ofString "message") t) (Str.ofString "message") v) _ _ _
  unfold storeInDict newKeyGuard
  refine wpAny_bind (wpAny_pure (wpAny_bind (wpAny_nsSet1 (Heap.Ns1.of_empty hnd) fun h' hn' hs => ?_)))
  obtain ⟨oD, esD, epD, hoD, hdD, hcD⟩ := hn'.count (Within.cons (Str.ofString "message") v Within.nil)
  refine wpAny_bind (wpAny_lookBehind hoD (by rw [hdD]; exact pastItsLine_dict (Nat.le_trans hcD (by rw [List.length_cons, List.length_nil, sizeLine_eq]; omega))) ?_)
  refine wpAny_pure ?_
  refine wpAny_pure (wpAny_pure ?_)
  refine hq h' _ h.objs.size (fun b ob hbx hb => ?_) ?_
  · exact (hs.2 b (Nat.ne_of_lt (Heap.lt_size hb))).trans ((Heap.get?_update_ne _ _ _ _ hbx).trans (Heap.get?_push_of_some _ hb))
  · exact (hs.2 e hxs).trans (Heap.get?_update_self _ hx₁ rfl)
end
-- X2
section
variable {w : World} {A : Around} {R : Result → Shared → Prop} {E : Value → Shared → Prop} {h : Heap} {g : Array GenState} {d : Drawn} {t : Nat} {os : OsState} {rest : List Value} {p : Program} {loose : List Str} {mean : ExcName → Option Value} {mg mb : Str → Option Value}
open Builtin Builtin.ObjectAttr
set_option maxHeartbeats 4000000 in
/-- MillError.__init__ on a fresh FontFault; h: the heap ahead of it -/
theorem init_FF {s : Shared} {e ta : Addr} {v : Value} (X : (kheap.heap_1 w.params).In h) (T : Top p loose mean mg mb h) (hk : h.StaysIn s.heap) (he : s.heap.get? e = some (excO ta)) (hz : h.objs.size ≤ s.heap.objs.size) (hen : h.get? e = none) (hroom : A.depth < recursionLimit)
    (hq : ∀ h' tk' dx, (∀ b o, h.get? b = some o → h'.get? b = some o) → h'.get? e = some { cls := .ref 44, dict := some dx, data := .fields #[.ref ta, .none, .none, .none, .bool false, .none] } → R (.ok (.ret .none)) { s with heap := h', toks := tk' }) :
    codeAny (model PySem.Challenge.rw_on0235_01.row.prog w) A (.call (.ref 28) ⟨[.ref e, v], []⟩) R s := by
  (have hkf : PySem.Challenge.rw_on0235_01 = PySem.Challenge.rw_on0235_01 ∧ kheap.heap_1 = kheap.heap_1 := by k_fill; exact ⟨rfl, rfl⟩)
  clear hkf
  w_top off
  refine' enter_base hk hz X T ?k6 ?k7 hroom ?k9 ?kB ?_ ?c2 ?c3 ?c4 ?c5
  (case k6 => k_is); (case k7 => k_is); (case k9 => exact rfl); (case c5 => decide); (case kB => exact locs rfl); (case c2 => exact rfl); (case c3 => exact rfl); (case c4 => exact rfl)
  intro L h₁ tkz hL hk₁ F
  (try dsimp only)
  dsimp only [List.map, List.zip, List.zipWith, List.reverse, List.reverseAux] at F
  have N : News h L h₁ [] := News.nil
  k_steps
  have he1 : h₁.get? e = some (excO ta) := hk₁ _ _ he
  refine store_FF (X.keeps F.keep) he1 fun h' tk' dx hk' hx' => ?_
  (try dsimp only)
  refine wpAny_execs_nil ?_
  exact hq h' tk' dx (fun b o hb => hk' b o (fun q => by subst q; rw [hen] at hb; cases hb) (F.keep b o hb)) hx'
end
-- X3
section
variable {w : World} {A : Around} {R : Result → Shared → Prop} {E : Value → Shared → Prop} {h : Heap} {g : Array GenState} {d : Drawn} {t : Nat} {os : OsState} {p : Program} {loose : List Str} {mean : ExcName → Option Value} {mg mb : Str → Option Value}
open Builtin Builtin.ObjectAttr
set_option maxHeartbeats 4000000 in
/-- FontFault(v) -/
theorem call_FF {v : Value} (X : (kheap.heap_1 w.params).In h) (T : Top p loose mean mg mb h) (hroom : A.depth < 950)
    (hq : ∀ h' tk' e, MadeFF h h' e → R (.ok (.ret (.ref e))) ⟨h', g, d, tk', os⟩) :
    codeAny (model PySem.Challenge.rw_on0235_01.row.prog w) A (.call (.ref 44) ⟨[v], []⟩) R ⟨h, g, d, t, os⟩ := by
  have hC := ff_obj X
  have l1 := ff_mro X
  have l3 := ff_madeBy X
  refine codeAny_of_tree ?_
  show wpAny _ _ (callAny (.ref 44) _) _ _ _
  refine nd_load hC ?_
  show wpAny _ _ (callAny.viaDunder (.ref 44) _) _ _ _
  unfold callAny.viaDunder
  refine wpAny_bind ((ff_call X).here ?_)
  (try dsimp only)
  rw [tc_bind]
  refine wpAny_bind (wpAny_pure (wpAny_bind (wpAny_pure ?_)))
  refine wpAny_pure (a := Fin.again (.call (.builtin "type.__call__") ⟨.ref 44 :: [v], []⟩)) (And.intro rfl ?_)
  refine codeAny_call_builtin_at (Code.quiet_builtin _ (by decide +kernel)) entry_typeCall (check_slot tc_kind tc_split (ff_typ X) (tc_args _ _ _) ?_)
  unfold Builtin.«type.__call__»
  repeat (first | with_reducible refine nd_load hC ?_ | simp only [Bool.false_eq_true, if_false] | with_reducible refine wpAny_call ?_ | lk)
  refine codeAny_call_builtin_code (Code.quiet_builtin _ PySem.F.excBase_Exception.quiet) ((ff_checkNew X).here ?_)
  refine new_FF X ?_
  have k : h.StaysIn ((h.push { cls := .type "tuple", data := .seq [v].toArray }).push (excO h.objs.size)) := fun b o e => Heap.get?_push_of_some _ (Heap.get?_push_of_some _ e)
  have hx : ((h.push { cls := .type "tuple", data := .seq [v].toArray }).push (excO h.objs.size)).get? (h.objs.size + 1) = some (excO h.objs.size) := by heap_get
  have t1 : Looks (model PySem.Challenge.rw_on0235_01.row.prog w) ((h.push { cls := .type "tuple", data := .seq [v].toArray }).push (excO h.objs.size)) (typeOf (.ref (h.objs.size + 1))) (.ref 44) := (Looks.ld hx).andThen .now
  have s1 := ff_sub_self (w := w) (X.keeps k)
  have i1 := ff_init (w := w) (X.keeps k)
  have b1 := ff_bind (w := w) (X.keeps k) (.ref (h.objs.size + 1))
  unfold isInstance callSpecial? specialOf
  repeat (first | with_reducible refine wpAny_call ?_ | lk)
  refine init_FF X T k hx ?_ ?_ ?_ ?_
  · simp only [Heap.size_push]; omega
  · exact Heap.get?_none_of_le (by omega)
  · show A.depth + 1 < _
    simp only [recursionLimit]; omega
  · intro h' tk' dx k' e'
    exact wpAny_pure (wpAny_pure (hq h' tk' _ ⟨k', Heap.get?_none_of_le (by omega), _, _, e'⟩))
end
-- X4
def RaiseGo (h₀ : Heap) (E : Value → Shared → Prop) (s : Shared) : Prop := h₀.StaysIn s.heap ∧ ∀ h' tk' e, MadeFF s.heap h' e → E (.ref e) { s with heap := h', toks := tk' }
theorem RaiseGo.go {h₀ h : Heap} {L : Addr} {m : Str → Option Value} {E : Value → Shared → Prop} {g : Array GenState} {d : Drawn} {t : Nat} {os : OsState} (F : Fr h₀ L h m) (q : ∀ h' tk' e, MadeFF h h' e → E (.ref e) ⟨h', g, d, tk', os⟩) : RaiseGo h₀ E ⟨h, g, d, t, os⟩ := ⟨F.keep, q⟩
section
variable {w : World} {A : Around} {E : Value → Shared → Prop} {s : Shared} {p : Program} {loose : List Str} {mean : ExcName → Option Value} {mg mb : Str → Option Value} {h₀ h : Heap} {L a : Addr} {m : Str → Option Value} {name : Str} {scope : Scope} {cd : Value} {np cpos pos : Pos} {Q : Flow → Shared → Prop}
theorem ff_keeper (X : (kheap.heap_1 w.params).In h) : Looks (model PySem.Challenge.rw_on0235_01.row.prog w) h (keeperOf (.ref 44)) .machine := Looks.of_peek X (by kernel_rfl)
set_option maxHeartbeats 2000000 in
theorem raise_stmt {env : Env} {x : Sem Value} (hh : A.handled = none) (X : (kheap.heap_1 w.params).In h₀)
    (h : wpAny (model PySem.Challenge.rw_on0235_01.row.prog w) A x (fun v s₁ => ∃ h e, v = .ref e ∧ h₀.StaysIn h ∧ MadeFF h s₁.heap e ∧ E (.ref e) s₁) E s) :
    wpAny (model PySem.Challenge.rw_on0235_01.row.prog w) A (raiseStmt env (some x) none) Q E s := by
  unfold raiseStmt
  refine wpAny_bind (wpAny_mono h (fun v s₁ h₁ => ?_) fun _ _ x => x)
  obtain ⟨h, e, rfl, k0, ⟨k1, hn, t, dx, he⟩, hE⟩ := h₁
  obtain ⟨hp, g, d, tk, os⟩ := s₁
  have X' : (kheap.heap_1 w.params).In hp := X.keeps fun b o q => k1 b o (k0 b o q)
  have t1 : Looks (model PySem.Challenge.rw_on0235_01.row.prog w) hp (typeOf (.ref e)) (.ref 44) := (Looks.ld he).andThen .now
  have l1 := ff_sub_base X'
  have hC := ff_obj X'
  repeat (first | with_reducible refine wpAny_loadPart_at he ?_ | with_reducible refine wpAny_loadPart_at hC ?_ | with_reducible refine Looks.at (by assumption) ?_ | wp_step)
  exact wpAny_raiseNew_none hh hE
theorem raise_FF {e₀ : Expr} {x : Str} (F : Fr h₀ L s.heap m) (X : (kheap.heap_1 w.params).In h₀) (T : Top p loose mean mg mb h₀) (hh : A.handled = none) (hroom : A.depth < 950) (hex : nsIn (kheap.heap_1 w.params) mainGlobals x = some (some (.ref 44)))
    (h : wpAny (model PySem.Challenge.rw_on0235_01.row.prog w) A (eval e₀ (envOf name scope L a cd)) (fun v s₂ => RaiseGo h₀ E s₂) E s)
    (he : starEach [e₀] (envOf name scope L a cd) = (false, eval e₀ (envOf name scope L a cd)) :: starEach [] (envOf name scope L a cd) := by rfl)
    (hk : scope.kind = .function := by rfl) (hx : (envOf name scope L a cd).kindOf x = some .globalImplicit := by rfl) (hd : (x == ("__debug__" : Str)) = false := by decide) :
    wpAny (model PySem.Challenge.rw_on0235_01.row.prog w) A (exec (.Raise (some (.Call (.Name x np) [e₀] [] cpos)) none pos) (envOf name scope L a cd)) Q E s := by
  rw [arm_exec_Raise]
  simp only [evalOpt, Option.map]
  refine wpAny_bind (wpAny_standAt (raise_stmt hh X (wpAny_bind (wpAny_mono (wpAny_Call_ofName (name_K F X (topRead_of T) hex ?_ hk hx hd)) (fun v s₃ h₃ => wpAny_bind (wpAny_standAt (wpAny_pure h₃))) fun _ _ x => x))))
  have hs : wpAny (model PySem.Challenge.rw_on0235_01.row.prog w) A (spliced (backTo cpos (starEach [e₀] (envOf name scope L a cd)))) (fun vs s₃ => ∃ v, vs = [v] ∧ RaiseGo h₀ E s₃) E s :=
    spliced_more (wpAny_mono h (fun v s₂ h₂ => spliced_none ⟨v, rfl, h₂⟩) fun _ _ x => x) he
  unfold callWith
  rw [he] at hs ⊢
  refine wpAny_bind (wpAny_holding (wpAny_mono (Calls.evalArgs_plain (Q := fun (a : Args) s₃ => a.kw = [] ∧ ∃ v, a.pos = [v] ∧ RaiseGo h₀ E s₃) (wpAny_mono hs (fun vs s₂ h₂ => ⟨rfl, h₂⟩) fun _ _ x => x)) (fun a s₂ h₂ => wpAny_bind (wpAny_standAt ?_)) fun _ _ x => x))
  obtain ⟨apos, akw⟩ := a
  obtain ⟨hkw, v, rfl, h₂⟩ := h₂
  obtain rfl : akw = [] := hkw
  obtain ⟨hp, g, d, tk, os⟩ := s₂
  obtain ⟨k, h₂⟩ := h₂
  refine wpAny_bind ((ff_keeper (X.keeps k)).here ?_)
  have hpl : (backTo cpos ((false, eval e₀ (envOf name scope L a cd)) :: starEach [] (envOf name scope L a cd))).any (·.1) = false := by rfl
  simp only [hpl]
  refine wpAny_bind (wpAny_call (call_FF (X.keeps k) (T.keeps k) hroom fun h' tk' e hm => wpAny_bind (wpAny_holding (wpAny_point (wpAny_pure ?_)))))
  exact ⟨hp, e, rfl, k, hm, h₂ h' tk' e hm⟩
end
-- X5
/-- a call that ends with FontFault; Bx: what stands below all frames and is kept -/
def Falls (w : World) (f : Addr) (vs : List Value) (lim : Nat) (h : Heap) : Prop :=
  ∀ (dp un : Nat) (gd : Option (List Code)) (fs : List Env) (s : Shared) (Q E : Value → Shared → Prop) (Bx : Heap), s.heap = h → Amb w s.heap → dp + lim ≤ 900 → un + 20 * lim ≤ 9000 → Bx.StaysIn s.heap → s.heap.FunFrames Bx fs →
    (∀ e h' tk' a0, Heap.FlyingW Bx fs e (.ref 44) a0 h' → s.heap.UpToSlots h' → E (.ref e) { s with heap := h', toks := tk' }) →
    wpAny (model PySem.Challenge.rw_on0235_01.row.prog w) (At dp un gd fs) (call (.ref f) vs) Q E s
theorem new_above {Bx h₀ h : Heap} {L : Addr} {m : Str → Option Value} (hb : Bx.StaysIn h₀) (F : Fr h₀ L h m) : Bx.get? L = none := by
  cases hq : Bx.get? L with
  | none => rfl
  | some o => exact absurd (Nat.lt_of_lt_of_le (Heap.lt_size (hb L o hq)) F.above) (Nat.lt_irrefl _)
theorem frames_on {Bx h₀ h : Heap} {fs : List Env} {L a : Addr} {m : Str → Option Value} {name : Str} {scope : Scope} {cd : Value} (hb : Bx.StaysIn h₀) (hf : h₀.FunFrames Bx fs) (F : Fr h₀ L h m) (hk : scope.kind = .function) : h.FunFrames Bx (envOf name scope L a cd :: fs) :=
  .cons (by show scope.kind ≠ .module; rw [hk]; decide) rfl F.ns (new_above hb F) (hf.of_keeps fun b o e _ => ⟨o, F.keep b o e, rfl⟩)
section
variable {w : World} {M : Model} {E : Value → Shared → Prop} {s' : Shared} {Bx h₀ h : Heap} {fs : List Env} {L a e : Addr} {m : Str → Option Value} {name : Str} {scope : Scope} {cd : Value} {Q : Unit → Shared → Prop} {dp un : Nat} {gd : Option (List Code)}
theorem leave_FF (hb : Bx.StaysIn h₀) (hf : h₀.FunFrames Bx fs) (F : Fr h₀ L h m) (mk : MadeFF h s'.heap e)
    (hQ : ∀ h' a0, Heap.FlyingW Bx fs e (.ref 44) a0 h' → h₀.UpToSlots h' → Q () { s' with heap := h' }) (hk : scope.kind = .function := by rfl) :
    wpAny M ((At dp un gd fs).deeper (envOf name scope L a cd)) (leaving (envOf name scope L a cd) (.ref e)) Q E s' := by
  obtain ⟨k, hn, t, dx, he⟩ := mk
  have hen : Bx.get? e = none := by
    cases q : Bx.get? e with
    | none => rfl
    | some o => have := F.keep e o (hb e o q); rw [hn] at this; cases this
  refine wpAny_leaving_firstW (a0 := .ref t) (env := envOf name scope L a cd) (outer := fs) rfl ((frames_on (a := a) (name := name) (cd := cd) hb hf F hk).of_keeps fun b o q _ => ⟨o, k b o q, rfl⟩) rfl he (fun b o q => k b o (F.keep b o (hb b o q))) hen rfl rfl rfl fun h' hL => ?_
  obtain ⟨k1, ⟨_, _, k2⟩, k3, k4⟩ := hL
  exact hQ h' _ ⟨k1, hen, k2, k3⟩ (((Heap.UpToSlots.of_keeps F.keep).trans (Heap.UpToSlots.of_keeps k)).trans k4)
theorem leave_on {cls a0 : Value} (F : Fr h₀ L h m) (fl : Heap.FlyingW Bx (envOf name scope L a cd :: fs) e cls a0 s'.heap) (up : h.UpToSlots s'.heap)
    (hQ : ∀ h', Heap.FlyingW Bx fs e cls a0 h' → h₀.UpToSlots h' → Q () { s' with heap := h' }) :
    wpAny M ((At dp un gd fs).deeper (envOf name scope L a cd)) (leaving (envOf name scope L a cd) (.ref e)) Q E s' :=
  wpAny_leaves_onW (outer := fs) rfl rfl fl fun h' x1 x2 => hQ h' x1 ((Heap.UpToSlots.of_keeps F.keep).trans (up.trans x2))
end
section
variable {w : World} {E : Value → Shared → Prop} {s : Shared} {Bx h₀ : Heap} {fs : List Env} {L a : Addr} {m : Str → Option Value} {name : Str} {scope : Scope} {cd : Value} {Q : Value → Shared → Prop} {dp un lim : Nat} {gd : Option (List Code)} {f : Addr} {vs : List Value} {p : Program} {loose : List Str} {mean : ExcName → Option Value} {mg mb : Str → Option Value}
theorem use_falls {hp : Heap} {gn : Array GenState} {dr : Drawn} {tk0 : Nat} {os : OsState} (C : Falls w f vs lim hp) (F : Fr h₀ L hp m) (X : (kheap.heap_1 w.params).In h₀) (T : Top p loose mean mg mb h₀) (hb : Bx.StaysIn h₀) (hf : h₀.FunFrames Bx fs) (hk : scope.kind = .function) (hdp : dp + 1 + lim ≤ 900) (hun : un + 3 + 20 * lim ≤ 9000)
    (hE : ∀ e h' tk' a0, Heap.FlyingW Bx (envOf name scope L a cd :: fs) e (.ref 44) a0 h' → hp.UpToSlots h' → E (.ref e) (Shared.mk h' gn dr tk' os)) :
    wpAny (model PySem.Challenge.rw_on0235_01.row.prog w) ((At dp un gd fs).deeper (envOf name scope L a cd)) (call (.ref f) vs) Q E (Shared.mk hp gn dr tk0 os) := by
  exact C _ _ _ (envOf name scope L a cd :: fs) (Shared.mk hp gn dr tk0 os) Q E Bx rfl (amb_of (s := Shared.mk hp gn dr tk0 os) F X T) hdp hun (fun b o q => F.keep b o (hb b o q)) (frames_on hb hf F hk) hE
end
theorem word_X5_1 : True := by
  (k_with "RaiseGo" => ((with_reducible show RaiseGo _ _ _); k_dflt (refine RaiseGo.go (by k_asm) ?_); intro h9 tk9 e9 mk9; (try k_unfold); (try dsimp only); (first | (revert h9 tk9 e9 mk9; intros) | skip)))
  trivial
theorem word_X5_2 : True := by
  (k_with "exec Raise some none" => (k_here; (with_reducible show wpAny _ _ (exec (Stmt.Raise (some (Expr.Call (Expr.Name _ _) [_] [] _)) none _) _) _ _ _); k_dflt (refine' raise_FF ?zzF ?zzX ?zzT ?zzhh ?zzhr ?zzhx ?_ ?zza ?zzb ?zzc ?zzd; (case zzF => k_asm); (case zzX => k_asm); (case zzT => k_asm); (case zzhh => rfl); (case zzhr => (simp only [depth_in1, depth_deeper]; omega)); (case zzhx => k_is); (case zza => rfl); (case zzb => rfl); (case zzc => rfl); (case zzd => decide))))
  trivial
theorem word_X5_3 : True := by
  (k_with "leaving ref" => (k_here; first | k_dflt (refine' leave_FF ?zzb ?zzf ?zzF ?zzmk ?_ ?zzhk; (case zzb => assumption); (case zzf => assumption); (case zzmk => assumption); (case zzF => assumption); (case zzhk => rfl); intro h8 a8 fl8 up8) | k_dflt (refine' leave_on ?zzF ?zzfl ?zzup ?_; (case zzfl => assumption); (case zzup => assumption); (case zzF => assumption); intro h8 fl8 up8); (first | (revert h8 a8 fl8 up8; intros) | skip)))
  trivial
section
variable {w : World} {b : Array UInt8} {ks : List Int} {t u u' : Tok} {i n : Int} {h : Heap}
set_option maxHeartbeats 4000000 in
theorem u16_falls (hk : KBw.bInts b = ks) (hz : ks.length ≤ 1000) (hbad : i < 0 ∨ ks.length < i + 2) : Falls w 53 [.bytes b t, .int i u] 5 h := by
  (have hkf : PySem.Challenge.rw_on0235_01 = PySem.Challenge.rw_on0235_01 ∧ kheap.heap_1 = kheap.heap_1 := by k_fill; exact ⟨rfl, rfl⟩)
  clear hkf
  w_top off
  intro dp un gd fs s Q E Bx hs AM hdp hun hbx hff rt
  have KX := AM.X
  refine AM.open ?_; intro p loose mean mg mb T
  refine' enter_pure ?k1 ?k2 ?k6 ?k7 ?k8 ?k9 ?kB ?_ ?c2 ?c3 ?c4 ?c5
  (case k1 => assumption); (case k2 => assumption); (case k6 => k_is); (case k7 => k_is); (case k8 => first | exact rec_lt (by assumption) | (simp only [recursionLimit]; omega)); (case k9 => exact rfl); (case c5 => decide); (case kB => exact locs rfl); (case c2 => exact rfl); (case c3 => exact rfl); (case c4 => exact rfl)
  k_whole; intro L1 h1 tkz F1 N1; (try dsimp only); (dsimp only [List.map, List.zip, List.zipWith, List.reverse, List.reverseAux] at F1); (try k_extra "my kf")
  k_steps
  all_goals exact rt _ _ _ _ (by assumption) (by assumption)
set_option maxHeartbeats 4000000 in
theorem part_falls (hk : KBw.bInts b = ks) (hz : ks.length ≤ 1000) (hbad : i < 0 ∨ n < 0 ∨ ks.length < i + n) : Falls w 88 [.bytes b t, .int i u, .int n u'] 5 h := by
  (have hkf : PySem.Challenge.rw_on0235_01 = PySem.Challenge.rw_on0235_01 ∧ kheap.heap_1 = kheap.heap_1 := by k_fill; exact ⟨rfl, rfl⟩)
  clear hkf
  w_top off
  intro dp un gd fs s Q E Bx hs AM hdp hun hbx hff rt
  have KX := AM.X
  refine AM.open ?_; intro p loose mean mg mb T
  refine' enter_pure ?k1 ?k2 ?k6 ?k7 ?k8 ?k9 ?kB ?_ ?c2 ?c3 ?c4 ?c5
  (case k1 => assumption); (case k2 => assumption); (case k6 => k_is); (case k7 => k_is); (case k8 => first | exact rec_lt (by assumption) | (simp only [recursionLimit]; omega)); (case k9 => exact rfl); (case c5 => decide); (case kB => exact locs rfl); (case c2 => exact rfl); (case c3 => exact rfl); (case c4 => exact rfl)
  k_whole; intro L1 h1 tkz F1 N1; (try dsimp only); (dsimp only [List.map, List.zip, List.zipWith, List.reverse, List.reverseAux] at F1); (try k_extra "my kf")
  k_steps
  all_goals exact rt _ _ _ _ (by assumption) (by assumption)
end
theorem word_X5_4 : True := by
  (k_with "my fall" => (intro e9 h9 tk9 a9 fl9 up9; (try k_unfold); (try dsimp only); (first | (revert e9 h9 tk9 a9 fl9 up9; intros) | skip)))
  trivial
theorem word_X5_5 : True := by
  (k_with "call ref" => (k_here; (with_reducible show wpAny _ _ (call (Value.ref 53) _) _ _ _); k_dflt (refine use_falls (u16_falls (by kba_ints) (by k_extra "my size") (by first | omega | k_extra "my size")) (by k_asm) (by k_asm) (by k_asm) (by assumption) (by assumption) rfl (by k_extra "my room") (by k_extra "my room") ?_); k_extra "my fall"))
  trivial
theorem word_X5_6 : True := by
  (k_with "call ref" => (k_here; (with_reducible show wpAny _ _ (call (Value.ref 88) _) _ _ _); k_dflt (refine use_falls (part_falls (by kba_ints) (by k_extra "my size") (by first | omega | k_extra "my size")) (by k_asm) (by k_asm) (by k_asm) (by assumption) (by assumption) rfl (by k_extra "my room") (by k_extra "my room") ?_); k_extra "my fall"))
  trivial
section
variable {w : World} {b : Array UInt8} {ks : List Int} {t u u' : Tok} {i n : Int} {h : Heap}
set_option maxHeartbeats 4000000 in
theorem u32_falls (hk : KBw.bInts b = ks) (hz : ks.length ≤ 1000) (hbad : i < 0 ∨ ks.length < i + 4) : Falls w 67 [.bytes b t, .int i u] 10 h := by
  (have hkf : PySem.Challenge.rw_on0235_01 = PySem.Challenge.rw_on0235_01 ∧ kheap.heap_1 = kheap.heap_1 := by k_fill; exact ⟨rfl, rfl⟩)
  clear hkf
  w_top off
  intro dp un gd fs s Q E Bx hs AM hdp hun hbx hff rt
  have KX := AM.X
  refine AM.open ?_; intro p loose mean mg mb T
  refine' enter_pure ?k1 ?k2 ?k6 ?k7 ?k8 ?k9 ?kB ?_ ?c2 ?c3 ?c4 ?c5
  (case k1 => assumption); (case k2 => assumption); (case k6 => k_is); (case k7 => k_is); (case k8 => first | exact rec_lt (by assumption) | (simp only [recursionLimit]; omega)); (case k9 => exact rfl); (case c5 => decide); (case kB => exact locs rfl); (case c2 => exact rfl); (case c3 => exact rfl); (case c4 => exact rfl)
  k_whole; intro L1 h1 tkz F1 N1; (try dsimp only); (dsimp only [List.map, List.zip, List.zipWith, List.reverse, List.reverseAux] at F1); (try k_extra "my kf")
  by_cases hc : i < 0 ∨ ks.length < i + 2
  · k_steps
    all_goals exact rt _ _ _ _ (by assumption) (by assumption)
  · k_steps
    all_goals exact rt _ _ _ _ (by assumption) (by assumption)
set_option maxHeartbeats 4000000 in
theorem tag_falls (hk : KBw.bInts b = ks) (hz : ks.length ≤ 1000) (h0 : 0 ≤ i) (hbad : ks.length < i + 4) : Falls w 109 [.bytes b t, .int i u] 20 h := by
  (have hkf : PySem.Challenge.rw_on0235_01 = PySem.Challenge.rw_on0235_01 ∧ kheap.heap_1 = kheap.heap_1 := by k_fill; exact ⟨rfl, rfl⟩)
  clear hkf
  w_top off
  intro dp un gd fs s Q E Bx hs AM hdp hun hbx hff rt
  have KX := AM.X
  refine AM.open ?_; intro p loose mean mg mb T
  refine' enter_pure ?k1 ?k2 ?k6 ?k7 ?k8 ?k9 ?kB ?_ ?c2 ?c3 ?c4 ?c5
  (case k1 => assumption); (case k2 => assumption); (case k6 => k_is); (case k7 => k_is); (case k8 => first | exact rec_lt (by assumption) | (simp only [recursionLimit]; omega)); (case k9 => exact rfl); (case c5 => decide); (case kB => exact locs rfl); (case c2 => exact rfl); (case c3 => exact rfl); (case c4 => exact rfl)
  k_whole; intro L1 h1 tkz F1 N1; (try dsimp only); (dsimp only [List.map, List.zip, List.zipWith, List.reverse, List.reverseAux] at F1); (try k_extra "my kf")
  k_steps
  all_goals exact rt _ _ _ _ (by assumption) (by assumption)
set_option maxHeartbeats 4000000 in
theorem tag_falls2 (hk : KBw.bInts b = ks) (hz : ks.length ≤ 1000) (h0 : 0 ≤ i) (h1 : i + 4 ≤ ks.length) (hbad : ¬ TagOk (partL ks i.toNat 4)) : Falls w 109 [.bytes b t, .int i u] 20 h := by
  (have hkf : PySem.Challenge.rw_on0235_01 = PySem.Challenge.rw_on0235_01 ∧ kheap.heap_1 = kheap.heap_1 := by k_fill; exact ⟨rfl, rfl⟩)
  clear hkf
  w_top off
  intro dp un gd fs s Q E Bx hs AM hdp hun hbx hff rt
  have KX := AM.X
  refine AM.open ?_; intro p loose mean mg mb T
  refine' enter_pure ?k1 ?k2 ?k6 ?k7 ?k8 ?k9 ?kB ?_ ?c2 ?c3 ?c4 ?c5
  (case k1 => assumption); (case k2 => assumption); (case k6 => k_is); (case k7 => k_is); (case k8 => first | exact rec_lt (by assumption) | (simp only [recursionLimit]; omega)); (case k9 => exact rfl); (case c5 => decide); (case kB => exact locs rfl); (case c2 => exact rfl); (case c3 => exact rfl); (case c4 => exact rfl)
  k_whole; intro L1 h1 tkz F1 N1; (try dsimp only); (dsimp only [List.map, List.zip, List.zipWith, List.reverse, List.reverseAux] at F1); (try k_extra "my kf")
  k_steps
  unfold StopLoop
  refine bytes_loop (fun j m nx => One (fun (a : Str) t => .str a t) (Str.ofString "octet") (Str.ofString "found") _ [] (txt ((partL ks i.toNat 4).take j)) m nx ∧ ∀ k ∈ (partL ks i.toNat 4).take j, 32 ≤ k ∧ k ≤ 126) (by assumption) rfl (by k_asm) (by k_asm) ⟨⟨rfl, ⟨_, rfl⟩, fun _ _ _ => rfl⟩, fun k hk => by simp at hk⟩ ?_ ?_
  · rintro j k t' m₁ nx h tk I o hi hik k0 k1 hne ⟨⟨rfl, ⟨ta, ha⟩, hm⟩, hall⟩ F' N'
    rw [map_eq1 ha hm] at F'
    k_steps
    · exact rt _ _ _ _ (by assumption) (by assumption)
    · exact rt _ _ _ _ (by assumption) (by assumption)
    (try k_unfold)
    refine LEnd.intro (by k_asm) (cb_drop (by k_asm) (by first | exact fun _ h => h | exact fun _ h => .tail _ h | kcj_all)) (by first | assumption | exact fun _ h => nomatch h) ⟨⟨rfl, ⟨_, Eq.trans (if_pos rfl) (congrArg (fun a => some (Value.str a _)) ?_)⟩, fun z h1 h2 => ?_⟩, ?_⟩
    · have hik2 : (partL ks i.toNat 4)[j]? = some k := hik
      rw [List.take_add_one, hik2, txt_app]
      rfl
    · simp only [if_neg h1, if_neg h2]
    · intro k' hk'
      have hik2 : (partL ks i.toNat 4)[j]? = some k := hik
      rw [List.take_add_one, hik2] at hk'
      rcases List.mem_append.mp hk' with q | q
      · exact hall k' q
      · obtain rfl : k' = k := by simpa using q
        omega
  · rintro m₁ nx h tk ⟨_, hall⟩ F' N'
    refine absurd (fun k hk => hall k ?_) hbad
    have q : List.take (partL ks i.toNat 4).length (partL ks i.toNat 4) = partL ks i.toNat 4 := List.take_length
    show k ∈ List.take (partL ks i.toNat 4).length (partL ks i.toNat 4)
    rw [q]; exact hk
end
-- R6
section
variable {prog : Program} {w : World} {A : Around} {E : Value → Shared → Prop} {s : Shared} {env : Env} {h₀ : Heap} {x : Str} {body : List Stmt} {Q : Flow → Shared → Prop}
/-- what a turn leaves, where a list l grows; S: the names that turn -/
abbrev GrowL (l : Addr) (S : List Str) (m₀ : Str → Option Value) (J : (Str → Option Value) → List Value → List (Addr × Obj) → Prop) (m : Str → Option Value) (nx : List (Addr × Obj)) : Prop :=
  ∃ xs k rest, nx = (l, listOf xs.toArray k) :: rest ∧ (∀ p ∈ rest, p.1 ≠ l) ∧ (∀ z, z ∉ S → m z = m₀ z) ∧ J m xs rest
/-- range loop with a growing list at the ledger's head -/
theorem range_loopL {r : Addr} {a b c : Int} {t u v : Tok} {n : Nat} {m₀ : Str → Option Value} {news : List (Addr × Obj)} {l : Addr} {nn : Nat} {xs₀ : List Value} (S : List Str) (J : Nat → (Str → Option Value) → List Value → List (Addr × Obj) → Prop)
    (hh : A.handled = none) (hr : IsRange s.heap r a b c t u v) (hsmall : Builtin.Range.small a b c = true) (hn : Builtin.Range.rangeSize a b c = (n : Int)) (F : Fr h₀ env.locals s.heap m₀) (N : News h₀ env.locals s.heap ((l, listOf xs₀.toArray nn) :: news)) (hoff : ∀ p ∈ news, p.1 ≠ l) (hj : J 0 m₀ xs₀ news)
    (turn : ∀ i t' m₁ xs k rest h tk I o, i < n → @Ne Nat l I → (∀ p ∈ rest, p.1 ≠ I) → (∀ p ∈ rest, p.1 ≠ l) → (∀ z, z ∉ S → m₁ z = m₀ z) → J i m₁ xs rest → Fr h₀ env.locals h (fun y => if y = x then some (.int (a + (i : Nat) * c) t') else m₁ y) → News h₀ env.locals h ((I, o) :: (l, listOf xs.toArray k) :: rest) →
      wpAny (model prog w) A (execs body env) (LPost h₀ env.locals I o (GrowL l S m₀ (J (i + 1))) { s with heap := h, toks := tk } Q) E { s with heap := h, toks := tk })
    (done : ∀ m₁ xs k rest h tk, (∀ z, z ∉ S → m₁ z = m₀ z) → J n m₁ xs rest → (∀ p ∈ rest, p.1 ≠ l) → Fr h₀ env.locals h m₁ → News h₀ env.locals h ((l, listOf xs.toArray k) :: rest) → Q .next { s with heap := h, toks := tk }) :
    wpAny (model prog w) A (pyIter (.ref r)) (fun it s₂ => LoopAtV prog w A h₀ env x body Q E it s₂) E s := by
  refine range_loop (fun i m nx => GrowL l S m₀ (J i) m nx) hh hr hsmall hn F N ⟨xs₀, nn, news, rfl, hoff, fun _ _ => rfl, hj⟩ ?_ ?_
  · rintro i t' m₁ nx h tk I o hi hne ⟨xs, k, rest, rfl, hoff', hm, hJ⟩ F' N'
    exact turn i t' m₁ xs k rest h tk I o hi (hne _ (.head _)) (fun p hp => hne p (.tail _ hp)) hoff' hm hJ F' N'
  · rintro m₁ nx h tk ⟨xs, k, rest, rfl, hoff', hm, hJ⟩ F' N'
    exact done m₁ xs k rest h tk hm hJ hoff' F' N'
/-- list loop with a growing list at the ledger's head -/
theorem list_loopL {ls : Addr} {vs : List Value} {ln : Nat} {m₀ : Str → Option Value} {news : List (Addr × Obj)} {l : Addr} {nn : Nat} {xs₀ : List Value} (S : List Str) (J : Nat → (Str → Option Value) → List Value → List (Addr × Obj) → Prop)
    (hh : A.handled = none) (hL : ls ≠ env.locals) (hl : ∀ i m xs k rest h, J i m xs rest → h₀.StaysIn h → News h₀ env.locals h ((l, listOf xs.toArray k) :: rest) → h.get? ls = some (listOf vs.toArray ln)) (F : Fr h₀ env.locals s.heap m₀) (N : News h₀ env.locals s.heap ((l, listOf xs₀.toArray nn) :: news)) (hoff : ∀ p ∈ news, p.1 ≠ l) (hj : J 0 m₀ xs₀ news)
    (turn : ∀ i v m₁ xs k rest h tk I o, i < vs.length → vs[i]? = some v → @Ne Nat l I → (∀ p ∈ rest, p.1 ≠ I) → (∀ p ∈ rest, p.1 ≠ l) → (∀ z, z ∉ S → m₁ z = m₀ z) → J i m₁ xs rest → Fr h₀ env.locals h (fun y => if y = x then some v else m₁ y) → News h₀ env.locals h ((I, o) :: (l, listOf xs.toArray k) :: rest) →
      wpAny (model prog w) A (execs body env) (LPost h₀ env.locals I o (GrowL l S m₀ (J (i + 1))) { s with heap := h, toks := tk } Q) E { s with heap := h, toks := tk })
    (done : ∀ m₁ xs k rest h tk, (∀ z, z ∉ S → m₁ z = m₀ z) → J vs.length m₁ xs rest → (∀ p ∈ rest, p.1 ≠ l) → Fr h₀ env.locals h m₁ → News h₀ env.locals h ((l, listOf xs.toArray k) :: rest) → Q .next { s with heap := h, toks := tk }) :
    wpAny (model prog w) A (pyIter (.ref ls)) (fun it s₂ => LoopAtV prog w A h₀ env x body Q E it s₂) E s := by
  refine list_loop (vs := vs) (nn := ln) (fun i m nx => GrowL l S m₀ (J i) m nx) hh hL ?_ F N ⟨xs₀, nn, news, rfl, hoff, fun _ _ => rfl, hj⟩ ?_ ?_
  · rintro i m nx h ⟨xs, k, rest, rfl, hoff', hm, hJ⟩ hk N'
    exact hl i m xs k rest h hJ hk N'
  · rintro i v m₁ nx h tk I o hi hv hne ⟨xs, k, rest, rfl, hoff', hm, hJ⟩ F' N'
    exact turn i v m₁ xs k rest h tk I o hi hv (hne _ (.head _)) (fun p hp => hne p (.tail _ hp)) hoff' hm hJ F' N'
  · rintro m₁ nx h tk ⟨xs, k, rest, rfl, hoff', hm, hJ⟩ F' N'
    exact done m₁ xs k rest h tk hm hJ hoff' F' N'
end
/-- the map with the turned names S written out, their values as they are in m₁ -/
def over (S : List Str) (m₁ m₀ : Str → Option Value) : Str → Option Value := match S with
  | [] => m₀
  | a :: r => fun z => if z = a then m₁ a else over r m₁ m₀ z
theorem over_eq {m₁ m₀ : Str → Option Value} : ∀ (S : List Str), (∀ z, z ∉ S → m₁ z = m₀ z) → m₁ = over S m₁ m₀
  | [], h => funext fun z => h z (fun q => nomatch q)
  | a :: r, h => by
    funext z
    show m₁ z = if z = a then m₁ a else over r m₁ m₀ z
    by_cases e : z = a
    · rw [if_pos e, e]
    · rw [if_neg e]
      have key : ∀ (r : List Str) (z : Str), (z ∉ r → m₁ z = m₀ z) → m₁ z = over r m₁ m₀ z := by
        intro r
        induction r with
        | nil => intro z h; exact h (fun q => nomatch q)
        | cons b r ih =>
          intro z h
          show m₁ z = if z = b then m₁ b else over r m₁ m₀ z
          by_cases e : z = b
          · rw [if_pos e, e]
          · rw [if_neg e]; exact ih z fun q => h fun q' => (List.mem_cons.mp q').elim e q
      exact key r z fun q => h z fun q' => (List.mem_cons.mp q').elim e q
theorem over_turn {m₁ m₀ : Str → Option Value} {x : Str} {v : Option Value} (S : List Str) (h : ∀ z, z ∉ x :: S → m₁ z = m₀ z) : (fun z => if z = x then v else m₁ z) = fun z => if z = x then v else over S m₁ m₀ z := by
  funext z
  by_cases e : z = x
  · rw [if_pos e, if_pos e]
  · rw [if_neg e, if_neg e, over_eq (x :: S) h]
    show (if z = x then _ else over S _ m₀ z) = _
    rw [if_neg e, ← over_eq (x :: S) h]
theorem map_turn1 {x a : Str} {m₁ m₀ : Str → Option Value} {v : Option Value} (hm : ∀ z, z ∉ [x, a] → m₁ z = m₀ z) : ∃ ua, (fun z => if z = x then v else m₁ z) = fun z => if z = x then v else if z = a then ua else m₀ z := ⟨_, over_turn [a] hm⟩
theorem map_turn2 {x a c : Str} {m₁ m₀ : Str → Option Value} {v : Option Value} (hm : ∀ z, z ∉ [x, a, c] → m₁ z = m₀ z) : ∃ ua uc, (fun z => if z = x then v else m₁ z) = fun z => if z = x then v else if z = a then ua else if z = c then uc else m₀ z := ⟨_, _, over_turn [a, c] hm⟩
theorem map_fin0 {x : Str} {m₁ m₀ : Str → Option Value} (hm : ∀ z, z ∉ [x] → m₁ z = m₀ z) : ∃ ux, m₁ = fun z => if z = x then ux else m₀ z := ⟨_, over_eq _ hm⟩
theorem map_fin1 {x a : Str} {m₁ m₀ : Str → Option Value} (hm : ∀ z, z ∉ [x, a] → m₁ z = m₀ z) : ∃ ux ua, m₁ = fun z => if z = x then ux else if z = a then ua else m₀ z := ⟨_, _, over_eq _ hm⟩
theorem map_fin2 {x a c : Str} {m₁ m₀ : Str → Option Value} (hm : ∀ z, z ∉ [x, a, c] → m₁ z = m₀ z) : ∃ ux ua uc, m₁ = fun z => if z = x then ux else if z = a then ua else if z = c then uc else m₀ z := ⟨_, _, _, over_eq _ hm⟩
-- D0
structure DRow where
  tag : Str
  sum : Int
  place : Int
  size : Int
abbrev rowD (w : World) (r : DRow) (k1 k2 k3 k4 t1 t2 t3 t4 : Tok) : Obj := dictOf [⟨PyData.keyHash w.params (Str.ofString "tag"), .str (Str.ofString "tag") k1, .str r.tag t1⟩, ⟨PyData.keyHash w.params (Str.ofString "told_sum"), .str (Str.ofString "told_sum") k2, .int r.sum t2⟩,
  ⟨PyData.keyHash w.params (Str.ofString "place"), .str (Str.ofString "place") k3, .int r.place t3⟩, ⟨PyData.keyHash w.params (Str.ofString "size"), .str (Str.ofString "size") k4, .int r.size t4⟩] 4
/-- a new row object -/
def RowV (w : World) (h : Heap) (r : DRow) : Heap → Value → Prop := fun h' v => ∃ x dx k1 k2 k3 k4 t1 t2 t3 t4, v = .ref x ∧ @Ne Nat dx x ∧ h'.get? x = some (instObj 173 dx) ∧ h'.get? dx = some (rowD w r k1 k2 k3 k4 t1 t2 t3 t4) ∧ h.get? x = none ∧ h.get? dx = none
section
variable {w : World} {h : Heap} {x : Str} {a b c : Int} {t1 t2 t3 t4 : Tok}
set_option maxHeartbeats 4000000 in
theorem row_ok : Gives w 173 [.str x t1, .int a t2, .int b t3, .int c t4] (RowV w h ⟨x, a, b, c⟩) 20 h := by
  intro dp un gd fs s Q E hs AM hdp hun rt
  have KX := AM.X
  refine AM.open ?_; intro p loose mean mg mb T
  (have hkf : PySem.Challenge.rw_on0235_01 = PySem.Challenge.rw_on0235_01 ∧ kheap.heap_1 = kheap.heap_1 := by k_fill; exact ⟨rfl, rfl⟩)
  clear hkf
  w_top off
  refine' wpAny_call (make_core (g := s.gens) (d := s.drawn) (t := s.toks) (os := s.os) (init := .ref 170) (makes_of (C := 173) KX ?m1) (looks_findIn KX ?m2) (fun self => bind_fn KX self ?m3) (.inl rfl) ?_)
  (case m1 => k_is); (case m2 => k_is); (case m3 => k_is)
  have hx1 : ((s.heap.push emptyDict).push (instObj 173 s.heap.objs.size)).get? (s.heap.objs.size + 1) = some (instObj 173 s.heap.objs.size) := by heap_get
  have hx2 : ((s.heap.push emptyDict).push (instObj 173 s.heap.objs.size)).get? s.heap.objs.size = some emptyDict := by heap_get
  refine' enter_base (h₀ := s.heap) ?ka ?kz KX T ?k6 ?k7 ?k8 ?k9 ?kB ?_ ?c2 ?c3 ?c4 ?c5
  (case ka => exact fun b o e => Heap.get?_push_of_some _ (Heap.get?_push_of_some _ e)); (case kz => (show _ ≤ _; rw [Heap.size_push, Heap.size_push]; omega)); (case k6 => k_is); (case k7 => k_is); (case k8 => (show dp + 1 < _; simp only [recursionLimit]; omega)); (case k9 => exact rfl); (case c5 => decide); (case kB => exact locs rfl); (case c2 => exact rfl); (case c3 => exact rfl); (case c4 => exact rfl)
  intro L h₁ tkz hL hk₁ F
  have N : News s.heap L h₁ [(s.heap.objs.size + 1, instObj 173 s.heap.objs.size), (s.heap.objs.size, dictOf [] 0)] := by
    have hl : L = s.heap.objs.size + 2 := by rw [hL]; show _ = _; rw [Heap.size_push, Heap.size_push]
    intro p hp
    rcases List.mem_cons.mp hp with rfl | hp
    · exact ⟨hk₁ _ _ hx1, by show s.heap.objs.size + 1 ≠ L; omega, Heap.get?_none_of_le (by omega)⟩
    · obtain rfl := List.mem_singleton.mp hp
      exact ⟨hk₁ _ _ hx2, by show s.heap.objs.size ≠ L; omega, Heap.get?_none_of_le (by omega)⟩
  have ne1 : @Ne Nat s.heap.objs.size (s.heap.objs.size + 1) := by omega
  clear hx1 hx2
  (try dsimp only)
  dsimp only [List.map, List.zip, List.zipWith, List.reverse, List.reverseAux] at F
  k_steps
  (with_reducible rename Fr _ _ _ _ => F9)
  (with_reducible rename News _ _ _ _ => N9)
  exact ⟨rfl, rt _ _ _ F9.keep ⟨_, _, _, _, _, _, _, _, _, _, rfl, ne1, (N9 _ (.head _)).1, (N9 _ (.tail _ (.head _))).1, hs ▸ (N9 _ (.head _)).2.2, hs ▸ (N9 _ (.tail _ (.head _))).2.2⟩⟩
end
theorem use_row {w : World} {E : Value → Shared → Prop} {hp : Heap} {gn : Array GenState} {dr : Drawn} {tk0 : Nat} {os : OsState} {p : Program} {loose : List Str} {mean : ExcName → Option Value} {mg mb : Str → Option Value} {h₀ : Heap} {L : Addr} {m : Str → Option Value} {news : List (Addr × Obj)} {f : Addr} {vs : List Value} {lim dp un : Nat} {gd : Option (List Code)} {fs : List Env} {Q : Value → Shared → Prop} {r : DRow}
    (C : Gives w f vs (RowV w hp r) lim hp) (F : Fr h₀ L hp m) (N : News h₀ L hp news) (X : (kheap.heap_1 w.params).In h₀) (T : Top p loose mean mg mb h₀) (hdp : dp + lim ≤ 900) (hun : un + 20 * lim ≤ 9000)
    (hQ : ∀ x dx k1 k2 k3 k4 t1 t2 t3 t4 h' tk', Fr h₀ L h' m → News h₀ L h' ((x, instObj 173 dx) :: (dx, rowD w r k1 k2 k3 k4 t1 t2 t3 t4) :: news) → @Ne Nat dx x → (∀ p ∈ news, p.1 ≠ x) → (∀ p ∈ news, p.1 ≠ dx) → Q (.ref x) (Shared.mk h' gn dr tk' os)) :
    wpAny (model PySem.Challenge.rw_on0235_01.row.prog w) (At dp un gd fs) (call (.ref f) vs) Q E (Shared.mk hp gn dr tk0 os) :=
  Gives.use (s := Shared.mk hp gn dr tk0 os) C F N X T hdp hun fun v h' tk' k F' N' rZ => by
    obtain ⟨x, dx, k1, k2, k3, k4, t1, t2, t3, t4, e, hne, h1, h2, h3, h4⟩ := rZ
    subst e
    have hL : ∀ {y : Addr}, hp.get? y = none → y ≠ L := fun {y} hy q => by
      obtain ⟨o, _, _, ho, _⟩ := F.ns
      rw [q, ho] at hy; cases hy
    have h0 : ∀ {y : Addr}, hp.get? y = none → h₀.get? y = none := fun {y} hy => by
      cases q : h₀.get? y with
      | none => rfl
      | some o => have := F.keep _ _ q; rw [hy] at this; cases this
    have off : ∀ {y : Addr}, hp.get? y = none → ∀ p ∈ news, p.1 ≠ y := fun {y} hy p hp q => by
      have := (N p hp).1
      rw [q, hy] at this; cases this
    refine hQ x dx k1 k2 k3 k4 t1 t2 t3 t4 h' tk' F' (fun p hp => ?_) hne (off h3) (off h4)
    rcases List.mem_cons.mp hp with rfl | hp
    · exact ⟨h1, hL h3, h0 h3⟩
    rcases List.mem_cons.mp hp with rfl | hp
    · exact ⟨h2, hL h4, h0 h4⟩
    exact N' p hp
local macro_rules | `(tactic| k_all) => `(tactic| assumption)
theorem word_D0_1 : True := by
  (k_with "call ref" => (k_here; (with_reducible show wpAny _ _ (call (Value.ref 173) [_, _, _, _]) _ _ _); k_dflt (refine use_row row_ok (by k_asm) (by k_asm) (by k_asm) (by k_asm) (by k_extra "my room") (by k_extra "my room") ?_); intro x9 dx9 j1 j2 j3 j4 u1 u2 u3 u4 h9 tk9 F9 N9 q9 e9 d9; (replace e9 := gnNe_of e9); (replace d9 := gnNe_of d9); (try simp only [GnNe, and_true] at e9 d9); (first | (revert x9 dx9 j1 j2 j3 j4 u1 u2 u3 u4 h9 tk9 F9 N9 q9 e9 d9; intros) | skip)))
  trivial
theorem str_app_len (a b : Str) : (a ++ b).length = a.length + b.length := by
  show (_ ++ _ : Array _).size = _
  simp; rfl
theorem lit1 : (Str.ofString "the table ").length = 10 := by decide +kernel
theorem lit2 : (Str.ofString " goes beyond the font").length = 21 := by decide +kernel
theorem lit3 : (Str.ofString "two tables ").length = 11 := by decide +kernel
theorem lit4 : (Str.ofString "a font without the table ").length = 25 := by decide +kernel
theorem word_D0_2 : True := by
  (k_with "binaryOp Add str str" => (k_here; (with_reducible show wpAny _ _ (binaryOp Operator.Add (Value.str _ _) (Value.str _ _)) _ _ _); (refine PyProof.Rows.add_str (hsz := (by (try dsimp only); simp only [str_app_len, lit1, lit2, lit3, lit4, txt_len, str1_len, List.length_take, partL_len]; rw [sizeLine_eq]; omega)) ?_); intro _ _))
  trivial
theorem word_D0_3 : True := by
  (k_with "call builtin:list.append" => (k_here; (with_reducible show wpAny _ _ (call (Value.builtin _) [Value.ref _, _]) _ _ _); k_dflt (refine' append_K ?zzk1 ?zzk2 ?zzk3 ?_ ?zzz; (case zzk1 => k_asm); (case zzk2 => k_asm); (case zzk3 => k_upd); (case zzz => (simp only [List.size_toArray]; rw [sizeLine_eq]; omega)); k_whole); intro h' F' N'; (try k_sweep); (first | (revert h' F' N'; intros) | skip)))
  trivial
-- D1
theorem word_D1_1 : True := by
  (k_with "call ref" => (k_here; (with_reducible show wpAny _ _ (call (Value.ref 67) _) _ _ _); k_dflt (refine use_falls (u32_falls (by kba_ints) (by k_extra "my size") (by first | omega | k_extra "my size")) (by k_asm) (by k_asm) (by k_asm) (by assumption) (by assumption) rfl (by k_extra "my room") (by k_extra "my room") ?_); k_extra "my fall"))
  trivial
theorem word_D1_2 : True := by
  (k_with "call ref" => (k_here; (with_reducible show wpAny _ _ (call (Value.ref 109) _) _ _ _); k_dflt (refine use_falls (tag_falls (by kba_ints) (by k_extra "my size") (by first | omega | k_extra "my size") (by first | omega | k_extra "my size")) (by k_asm) (by k_asm) (by k_asm) (by assumption) (by assumption) rfl (by k_extra "my room") (by k_extra "my room") ?_); k_extra "my fall"))
  trivial
theorem word_D1_3 : True := by
  (k_with "call ref" => (k_here; (with_reducible show wpAny _ _ (call (Value.ref 109) _) _ _ _); k_dflt (refine use_falls (tag_falls2 (by kba_ints) (by k_extra "my size") (by first | omega | k_extra "my size") (by first | omega | k_extra "my size") (by assumption)) (by k_asm) (by k_asm) (by k_asm) (by assumption) (by assumption) rfl (by k_extra "my room") (by k_extra "my room") ?_); k_extra "my fall"))
  trivial
theorem word_D1_4 : True := by
  (k_with "call ref" => (k_here; (with_reducible show wpAny _ _ (call (Value.ref 67) _) _ _ _); (refine use_int (u32_ok (by kba_ints) (by k_extra "my size") (by first | omega | k_extra "my size") (by first | omega | k_extra "my size")) (by k_asm) (by k_asm) (by k_asm) (by k_asm) (by k_extra "my room") (by k_extra "my room") ?_); intro t9 h9 tk9 F9 N9; (first | (revert t9 h9 tk9 F9 N9; intros) | skip)))
  trivial
theorem word_D1_5 : True := by
  (k_with "call ref" => (k_here; (with_reducible show wpAny _ _ (call (Value.ref 109) _) _ _ _); (refine use_str (tag_ok (by kba_ints) (by k_extra "my size") (by first | omega | k_extra "my size") (by first | omega | k_extra "my size") (by assumption)) (by k_asm) (by k_asm) (by k_asm) (by k_asm) (by k_extra "my room") (by k_extra "my room") ?_); intro t9 h9 tk9 F9 N9; (first | (revert t9 h9 tk9 F9 N9; intros) | skip)))
  trivial
/-- the i-th row of the directory -/
def at1 (i : Nat) : Int := 12 + 16 * (i : Int)
def rowOf (ks : List Int) (i : Nat) : DRow := ⟨txt (partL ks (12 + 16 * i) 4), g32 ks (12 + 16 * i + 4), g32 ks (12 + 16 * i + 8), g32 ks (12 + 16 * i + 12)⟩
def RowOk (ks : List Int) (i : Nat) : Prop := 12 + 16 * i + 16 ≤ ks.length ∧ TagOk (partL ks (12 + 16 * i) 4) ∧ g32 ks (12 + 16 * i + 8) + g32 ks (12 + 16 * i + 12) ≤ ks.length
def VerOk (ks : List Int) : Prop := g32 ks 0 = 65536 ∨ g32 ks 0 = 1953658213
def DirOk (ks : List Int) : Prop := 6 ≤ ks.length ∧ VerOk ks ∧ ∀ i, i < (g16 ks 4).toNat → RowOk ks i
/-- a row object stands in a ledger -/
def RowIn (w : World) (nx : List (Addr × Obj)) (v : Value) (r : DRow) : Prop := ∃ x dx k1 k2 k3 k4 t1 t2 t3 t4, v = .ref x ∧ (x, instObj 173 dx) ∈ nx ∧ (dx, rowD w r k1 k2 k3 k4 t1 t2 t3 t4) ∈ nx
theorem RowIn.mono {w : World} {nx ny : List (Addr × Obj)} {v : Value} {r : DRow} (h : RowIn w nx v r) (hs : ∀ p ∈ nx, p ∈ ny) : RowIn w ny v r := by
  obtain ⟨x, dx, k1, k2, k3, k4, t1, t2, t3, t4, e, m1, m2⟩ := h
  exact ⟨x, dx, k1, k2, k3, k4, t1, t2, t3, t4, e, hs _ m1, hs _ m2⟩
theorem RowIn.new {w : World} {nx : List (Addr × Obj)} {x dx : Addr} {r : DRow} {k1 k2 k3 k4 t1 t2 t3 t4} : RowIn w ((x, instObj 173 dx) :: (dx, rowD w r k1 k2 k3 k4 t1 t2 t3 t4) :: nx) (.ref x) r :=
  ⟨x, dx, k1, k2, k3, k4, t1, t2, t3, t4, rfl, .head _, .tail _ (.head _)⟩
theorem snoc_at {xs : List Value} {v : Value} {P : Nat → Value → Prop} (h : ∀ j u, xs[j]? = some u → P j u) (hn : P xs.length v) : ∀ j u, (xs ++ [v])[j]? = some u → P j u := by
  intro j u hv
  by_cases hji : j < xs.length
  · rw [List.getElem?_append_left hji] at hv; exact h j u hv
  · rw [List.getElem?_append_right (by omega)] at hv
    obtain ⟨hj1, hj2⟩ := List.getElem?_eq_some_iff.mp hv
    obtain rfl : j = xs.length := by simp at hj1; omega
    simp at hj2; subst hj2; exact hn
/-- the list of rows, new to h -/
def DirV (w : World) (h : Heap) (rows : Nat → DRow) (n : Nat) : Heap → Value → Prop := fun h' v => ∃ (l : Addr) (xs : List Value) (k : Nat) (rest : List (Addr × Obj)), v = .ref l ∧ xs.length = n ∧ (∀ j v, xs[j]? = some v → RowIn w rest v (rows j)) ∧ (∀ p ∈ rest, p.1 ≠ l) ∧ (∀ p ∈ (l, listOf xs.toArray k) :: rest, h'.get? p.1 = some p.2 ∧ h.get? p.1 = none)
theorem byte_of {b : Array UInt8} {ks : List Int} (hk : KBw.bInts b = ks) {j : Nat} : 0 ≤ ks.getD j 0 ∧ ks.getD j 0 < 256 := by
  subst hk
  by_cases hj : j < (KBw.bInts b).length
  · rw [List.getD_eq_getElem?_getD, List.getElem?_eq_getElem hj]
    exact KBw.ints_in (List.getElem_mem hj)
  · rw [List.getD_eq_getElem?_getD, List.getElem?_eq_none (by omega)]
    decide
theorem g16_nn {b : Array UInt8} {ks : List Int} (hk : KBw.bInts b = ks) {j : Nat} : 0 ≤ g16 ks j ∧ g16 ks j < 65536 := by
  have h1 := byte_of hk (j := j)
  have h2 := byte_of hk (j := j + 1)
  rw [g16]; omega
theorem g32_nn {b : Array UInt8} {ks : List Int} (hk : KBw.bInts b = ks) {j : Nat} : 0 ≤ g32 ks j := by
  have h1 := g16_nn hk (j := j)
  have h2 := g16_nn hk (j := j + 2)
  rw [g32]; omega
theorem pull3 {h₀ h : Heap} {L x dx I l : Addr} {ox od o ol : Obj} {rest : List (Addr × Obj)} (N : News h₀ L h ((x, ox) :: (dx, od) :: (I, o) :: (l, ol) :: rest)) : News h₀ L h ((I, o) :: (l, ol) :: (x, ox) :: (dx, od) :: rest) := fun p hp => by
  refine N p ?_
  rcases List.mem_cons.mp hp with rfl | hp
  · exact .tail _ (.tail _ (.head _))
  rcases List.mem_cons.mp hp with rfl | hp
  · exact .tail _ (.tail _ (.tail _ (.head _)))
  rcases List.mem_cons.mp hp with rfl | hp
  · exact .head _
  rcases List.mem_cons.mp hp with rfl | hp
  · exact .tail _ (.head _)
  · exact .tail _ (.tail _ (.tail _ (.tail _ hp)))
theorem push_eq {l : Addr} {xs : List Value} {v : Value} {k : Nat} {rest : List (Addr × Obj)} : (l, listOf (xs.toArray.push v) k) :: rest = (l, listOf (xs ++ [v]).toArray k) :: rest := by rw [List.push_toArray]
section
variable {w : World} {b : Array UInt8} {ks : List Int} {t u u' : Tok} {i n : Int} {h : Heap}
set_option maxHeartbeats 8000000 in
theorem dir_both (hk : KBw.bInts b = ks) (hz : ks.length ≤ 900) (dp un : Nat) (gd : Option (List Code)) (fs : List Env) (s : Shared) (Q E : Value → Shared → Prop) (Bx : Heap) (hs : s.heap = h) (AM : Amb w s.heap) (hdp : dp + 50 ≤ 900) (hun : un + 20 * 50 ≤ 9000)
    (hbf : ¬ DirOk ks → Bx.StaysIn s.heap ∧ s.heap.FunFrames Bx fs)
    (rt : DirOk ks → ∀ v h' tk', s.heap.StaysIn h' → DirV w s.heap (rowOf ks) (g16 ks 4).toNat h' v → Q v { s with heap := h', toks := tk' })
    (rtE : ¬ DirOk ks → ∀ e h' tk' a0, Heap.FlyingW Bx fs e (.ref 44) a0 h' → s.heap.UpToSlots h' → E (.ref e) { s with heap := h', toks := tk' }) :
    wpAny (model PySem.Challenge.rw_on0235_01.row.prog w) (At dp un gd fs) (call (.ref 184) [.bytes b t]) Q E s := by
  (have hkf : PySem.Challenge.rw_on0235_01 = PySem.Challenge.rw_on0235_01 ∧ kheap.heap_1 = kheap.heap_1 := by k_fill; exact ⟨rfl, rfl⟩)
  clear hkf
  w_top off
  have KX := AM.X
  refine AM.open ?_; intro p loose mean mg mb T
  by_cases c1 : ks.length < 4
  · have hbad : ¬ DirOk ks := fun q => by have := q.1; omega
    obtain ⟨hbx, hff⟩ := hbf hbad
    have rt := rtE hbad
    refine' enter_pure ?k1 ?k2 ?k6 ?k7 ?k8 ?k9 ?kB ?_ ?c2 ?c3 ?c4 ?c5
    (case k1 => assumption); (case k2 => assumption); (case k6 => k_is); (case k7 => k_is); (case k8 => first | exact rec_lt (by assumption) | (simp only [recursionLimit]; omega)); (case k9 => exact rfl); (case c5 => decide); (case kB => exact locs rfl); (case c2 => exact rfl); (case c3 => exact rfl); (case c4 => exact rfl)
    k_whole; intro L1 h1 tkz F1 N1; (try dsimp only); (dsimp only [List.map, List.zip, List.zipWith, List.reverse, List.reverseAux] at F1); (try k_extra "my kf")
    k_steps
    all_goals exact rt _ _ _ _ (by assumption) (by assumption)
  by_cases c2 : VerOk ks
  rotate_left
  · have hbad : ¬ DirOk ks := fun q => c2 q.2.1
    obtain ⟨hbx, hff⟩ := hbf hbad
    have rt := rtE hbad
    have c3 : ([65536, 1953658213] : List Int).any (fun x => x == g32 ks (Int.toNat 0)) = false := by
      rw [VerOk] at c2
      simp only [Int.toNat_zero, List.any_cons, List.any_nil, Bool.or_false, Bool.or_eq_false_iff, beq_eq_false_iff_ne]
      exact ⟨fun q => c2 (.inl q.symm), fun q => c2 (.inr q.symm)⟩
    refine' enter_pure ?k1 ?k2 ?k6 ?k7 ?k8 ?k9 ?kB ?_ ?c2 ?c3 ?c4 ?c5
    (case k1 => assumption); (case k2 => assumption); (case k6 => k_is); (case k7 => k_is); (case k8 => first | exact rec_lt (by assumption) | (simp only [recursionLimit]; omega)); (case k9 => exact rfl); (case c5 => decide); (case kB => exact locs rfl); (case c2 => exact rfl); (case c3 => exact rfl); (case c4 => exact rfl)
    k_whole; intro L1 h1 tkz F1 N1; (try dsimp only); (dsimp only [List.map, List.zip, List.zipWith, List.reverse, List.reverseAux] at F1); (try k_extra "my kf")
    k_steps
    all_goals first | exact rt _ _ _ _ (by assumption) (by assumption) | (simp_all; done) | trace_state
  have c3 : ([65536, 1953658213] : List Int).any (fun x => x == g32 ks (Int.toNat 0)) = true := by
    rcases c2 with q | q <;> simp [q]
  by_cases c4 : ks.length < 6
  · have hbad : ¬ DirOk ks := fun q => by have := q.1; omega
    obtain ⟨hbx, hff⟩ := hbf hbad
    have rt := rtE hbad
    refine' enter_pure ?k1 ?k2 ?k6 ?k7 ?k8 ?k9 ?kB ?_ ?c2 ?c3 ?c4 ?c5
    (case k1 => assumption); (case k2 => assumption); (case k6 => k_is); (case k7 => k_is); (case k8 => first | exact rec_lt (by assumption) | (simp only [recursionLimit]; omega)); (case k9 => exact rfl); (case c5 => decide); (case kB => exact locs rfl); (case c2 => exact rfl); (case c3 => exact rfl); (case c4 => exact rfl)
    k_whole; intro L1 h1 tkz F1 N1; (try dsimp only); (dsimp only [List.map, List.zip, List.zipWith, List.reverse, List.reverseAux] at F1); (try k_extra "my kf")
    k_steps
    all_goals first | exact rt _ _ _ _ (by assumption) (by assumption) | (simp_all; done) | trace_state
  have gn := g16_nn hk (j := 4)
  refine' enter_pure ?k1 ?k2 ?k6 ?k7 ?k8 ?k9 ?kB ?_ ?c2 ?c3 ?c4 ?c5
  (case k1 => assumption); (case k2 => assumption); (case k6 => k_is); (case k7 => k_is); (case k8 => first | exact rec_lt (by assumption) | (simp only [recursionLimit]; omega)); (case k9 => exact rfl); (case c5 => decide); (case kB => exact locs rfl); (case c2 => exact rfl); (case c3 => exact rfl); (case c4 => exact rfl)
  k_whole; intro L1 h1 tkz F1 N1; (try dsimp only); (dsimp only [List.map, List.zip, List.zipWith, List.reverse, List.reverseAux] at F1); (try k_extra "my kf")
  k_steps
  all_goals try (exfalso; simp_all; done)
  unfold StopLoop
  refine range_loopL (l := _) (xs₀ := []) (n := (g16 ks 4).toNat) [Str.ofString "number", Str.ofString "at", Str.ofString "row"] (fun i m xs rest => xs.length = i ∧ (∀ j, j < i → RowOk ks j) ∧ (∀ j v, xs[j]? = some v → RowIn w rest v (rowOf ks j))) rfl (by assumption) ?_ ?_ (by k_asm) (by k_asm) ?_ ⟨rfl, fun j hj => absurd hj (Nat.not_lt_zero j), fun j v hj => by cases hj⟩ ?_ ?_
  · exact small_up (n := (g16 ks 4).toNat) (by decide) (by decide) (by show g16 ks 4 = _; omega) (by omega)
  · exact size_up (by decide) (by show g16 ks 4 = _; omega)
  · k_all
  · intro i t' m₁ xs k rest h tk I o hi hlI hrI hrl hm hZ15 F' N'
    (try k_extra "my kf")
    obtain ⟨hxs, hrows, hin⟩ := hZ15
    rw [show (0 + (i : Int) * 1) = (i : Int) from by rw [Int.zero_add, Int.mul_one]] at F'
    obtain ⟨ua, uc, em⟩ := map_turn2 (v := some (Value.int (i : Int) t')) hm
    rw [em] at F'
    clear em
    have e0 : (12 + 16 * (i : Int)).toNat = 12 + 16 * i := rfl
    have e4 : (12 + 16 * (i : Int) + 4).toNat = 12 + 16 * i + 4 := rfl
    have e8 : (12 + 16 * (i : Int) + 8).toNat = 12 + 16 * i + 8 := rfl
    have e12 : (12 + 16 * (i : Int) + 12).toNat = 12 + 16 * i + 12 := rfl
    by_cases d1 : ks.length < 12 + 16 * i + 4
    · have hbad : ¬ DirOk ks := fun q => by have := (q.2.2 i hi).1; omega
      obtain ⟨hbx, hff⟩ := hbf hbad
      have rt := rtE hbad
      k_steps
      all_goals exact rt _ _ _ _ (by assumption) (by assumption)
    by_cases d2 : TagOk (partL ks (12 + 16 * (i : Int)).toNat 4)
    rotate_left
    · have hbad : ¬ DirOk ks := fun q => d2 (by rw [e0]; exact (q.2.2 i hi).2.1)
      obtain ⟨hbx, hff⟩ := hbf hbad
      have rt := rtE hbad
      k_steps
      all_goals exact rt _ _ _ _ (by assumption) (by assumption)
    by_cases d3 : ks.length < 12 + 16 * i + 8
    · have hbad : ¬ DirOk ks := fun q => by have := (q.2.2 i hi).1; omega
      obtain ⟨hbx, hff⟩ := hbf hbad
      have rt := rtE hbad
      k_steps
      all_goals exact rt _ _ _ _ (by assumption) (by assumption)
    by_cases d4 : ks.length < 12 + 16 * i + 12
    · have hbad : ¬ DirOk ks := fun q => by have := (q.2.2 i hi).1; omega
      obtain ⟨hbx, hff⟩ := hbf hbad
      have rt := rtE hbad
      k_steps
      all_goals exact rt _ _ _ _ (by assumption) (by assumption)
    by_cases d5 : ks.length < 12 + 16 * i + 16
    · have hbad : ¬ DirOk ks := fun q => by have := (q.2.2 i hi).1; omega
      obtain ⟨hbx, hff⟩ := hbf hbad
      have rt := rtE hbad
      k_steps
      all_goals exact rt _ _ _ _ (by assumption) (by assumption)
    by_cases d6 : g32 ks (12 + 16 * (i : Int) + 8).toNat + g32 ks (12 + 16 * (i : Int) + 12).toNat ≤ ks.length
    rotate_left
    · have hbad : ¬ DirOk ks := fun q => by have := (q.2.2 i hi).2.2; rw [e8, e12] at d6; omega
      obtain ⟨hbx, hff⟩ := hbf hbad
      have rt := rtE hbad
      k_steps
      all_goals exact rt _ _ _ _ (by assumption) (by assumption)
    k_steps
    (try k_unfold)
    (with_reducible rename Fr _ _ _ _ => F9)
    (with_reducible rename News _ _ _ _ => N9)
    refine LEnd.intro F9 (pull3 N9) ?_ ⟨_, _, _, push_eq, ?_, ?_, ?_, ?_, ?_⟩
    · k_all
    · k_all
    · intro z hz
      k_extra "my out"
    · rw [List.length_append, hxs]; rfl
    · intro j hj
      by_cases hji : j < i
      · exact hrows j hji
      · obtain rfl : j = i := by omega
        exact ⟨by omega, by rw [← e0]; exact d2, by rw [← e8, ← e12]; exact d6⟩
    · have er : rowOf ks xs.length = ⟨txt (partL ks (12 + 16 * (i : Int)).toNat 4), g32 ks (12 + 16 * (i : Int) + 4).toNat, g32 ks (12 + 16 * (i : Int) + 8).toNat, g32 ks (12 + 16 * (i : Int) + 12).toNat⟩ := by rw [rowOf, hxs, e0, e4, e8, e12]
      exact snoc_at (fun j v hv => (hin j v hv).mono fun p hp => .tail _ (.tail _ hp)) (er ▸ RowIn.new)
  · intro m₁ xs k rest h tk hm hZ7 hrl F' N'
    (try k_extra "my kf")
    obtain ⟨hxs, hrows, hin⟩ := hZ7
    obtain ⟨ux, ua, uc, em⟩ := map_fin2 hm
    rw [em] at F'
    k_steps
    (try k_unfold); (try dsimp only)
    refine rt ⟨by omega, c2, hrows⟩ _ _ _ (Fr.keep (by k_asm)) ?_
    exact ⟨_, xs, k, rest, rfl, hxs, hin, hrl, fun p hp => ⟨(N' p hp).1, (N' p hp).2.2⟩⟩
end
-- D2
section
variable {w : World} {b : Array UInt8} {ks : List Int} {t u u' : Tok} {i n : Int} {h : Heap}
theorem dir_ok (hk : KBw.bInts b = ks) (hz : ks.length ≤ 900) (hd : DirOk ks) : Gives w 184 [.bytes b t] (DirV w h (rowOf ks) (g16 ks 4).toNat) 50 h := by
  intro dp un gd fs s Q E hs AM hdp hun rt
  exact dir_both hk hz dp un gd fs s Q E s.heap hs AM hdp hun (fun q => absurd hd q) (fun _ v h' tk' k r => rt v h' tk' k (hs ▸ r)) fun q => absurd hd q
theorem dir_falls (hk : KBw.bInts b = ks) (hz : ks.length ≤ 900) (hd : ¬ DirOk ks) : Falls w 184 [.bytes b t] 50 h := by
  intro dp un gd fs s Q E Bx hs AM hdp hun hbx hff rt
  exact dir_both hk hz dp un gd fs s Q E Bx hs AM hdp hun (fun _ => ⟨hbx, hff⟩) (fun q => absurd q hd) fun _ => rt
end
theorem use_dir {w : World} {E : Value → Shared → Prop} {s : Shared} {p : Program} {loose : List Str} {mean : ExcName → Option Value} {mg mb : Str → Option Value} {h₀ : Heap} {L : Addr} {m : Str → Option Value} {news : List (Addr × Obj)} {f : Addr} {vs : List Value} {lim dp un : Nat} {gd : Option (List Code)} {fs : List Env} {Q : Value → Shared → Prop} {rows : Nat → DRow} {n : Nat}
    (C : Gives w f vs (DirV w s.heap rows n) lim s.heap) (F : Fr h₀ L s.heap m) (N : News h₀ L s.heap news) (X : (kheap.heap_1 w.params).In h₀) (T : Top p loose mean mg mb h₀) (hdp : dp + lim ≤ 900) (hun : un + 20 * lim ≤ 9000)
    (hQ : ∀ (l : Addr) (xs : List Value) (k : Nat) (rest : List (Addr × Obj)) h' tk', Fr h₀ L h' m → News h₀ L h' ((l, listOf xs.toArray k) :: (news ++ rest)) → xs.length = n → (∀ j v, xs[j]? = some v → RowIn w rest v (rows j)) → (∀ p ∈ rest, p.1 ≠ l) → (∀ p ∈ news, p.1 ≠ l) → (∀ p ∈ news, ∀ q ∈ rest, q.1 ≠ p.1) → @Ne Nat l L → Q (.ref l) { s with heap := h', toks := tk' }) :
    wpAny (model PySem.Challenge.rw_on0235_01.row.prog w) (At dp un gd fs) (call (.ref f) vs) Q E s :=
  C.use F N X T hdp hun fun v h' tk' k F' N' rZ => by
    obtain ⟨l, xs, k', rest, e, hx, hr, hoff, hall⟩ := rZ
    subst e
    have hL : ∀ {y : Addr}, s.heap.get? y = none → y ≠ L := fun {y} hy q => by
      obtain ⟨o, _, _, ho, _⟩ := F.ns
      rw [q, ho] at hy; cases hy
    have h0 : ∀ {y : Addr}, s.heap.get? y = none → h₀.get? y = none := fun {y} hy => by
      cases q : h₀.get? y with
      | none => rfl
      | some o => have := F.keep _ _ q; rw [hy] at this; cases this
    have off : ∀ {y : Addr}, s.heap.get? y = none → ∀ p ∈ news, p.1 ≠ y := fun {y} hy p hp q => by
      have := (N p hp).1
      rw [q, hy] at this; cases this
    refine hQ l xs k' rest h' tk' F' (fun p hp => ?_) hx hr hoff (off (hall _ (.head _)).2) (fun p hp q hq e => off (hall q (.tail _ hq)).2 p hp e.symm) (hL (hall _ (.head _)).2)
    rcases List.mem_cons.mp hp with rfl | hp
    · exact ⟨(hall _ (.head _)).1, hL (hall _ (.head _)).2, h0 (hall _ (.head _)).2⟩
    rcases List.mem_append.mp hp with hp | hp
    · exact N' p hp
    · exact ⟨(hall _ (.tail _ hp)).1, hL (hall _ (.tail _ hp)).2, h0 (hall _ (.tail _ hp)).2⟩
theorem word_D2_1 : True := by
  (k_with "call ref" => (k_here; (with_reducible show wpAny _ _ (call (Value.ref 184) _) _ _ _); k_dflt (refine use_falls (dir_falls (by kba_ints) (by k_extra "my size") (by assumption)) (by k_asm) (by k_asm) (by k_asm) (by assumption) (by assumption) rfl (by k_extra "my room") (by k_extra "my room") ?_); k_extra "my fall"))
  trivial
theorem word_D2_2 : True := by
  (k_with "call ref" => (k_here; (with_reducible show wpAny _ _ (call (Value.ref 184) _) _ _ _); k_dflt (refine use_dir (dir_ok (by kba_ints) (by k_extra "my size") (by assumption)) (by k_asm) (by k_asm) (by k_asm) (by k_asm) (by k_extra "my room") (by k_extra "my room") ?_); intro l9 xs9 k9 rest9 h9 tk9 F9 N9 xl9 xr9 lo9 ln9 nr9 lL9; (replace ln9 := gnNe_of ln9); (try simp only [GnNe, and_true] at ln9); (try simp only [List.forall_mem_cons, List.not_mem_nil, false_implies, implies_true, and_true] at nr9); (try simp only [List.cons_append, List.nil_append] at N9); (first | (revert l9 xs9 k9 rest9 h9 tk9 F9 N9 xl9 xr9 lo9 ln9 nr9 lL9; intros) | skip)))
  trivial
section
variable {w : World} {h : Heap} {d : Addr}
abbrev tabD (w : World) (d : Addr) (k : Tok) : Obj := dictOf [⟨PyData.keyHash w.params (Str.ofString "rows"), .str (Str.ofString "rows") k, .ref d⟩] 1
def TabV (w : World) (h : Heap) (d : Addr) : Heap → Value → Prop := fun h' v => ∃ x dx k, v = .ref x ∧ @Ne Nat dx x ∧ h'.get? x = some (instObj 152 dx) ∧ h'.get? dx = some (tabD w d k) ∧ h.get? x = none ∧ h.get? dx = none
set_option maxHeartbeats 4000000 in
theorem tab_ok : Gives w 152 [.ref d] (TabV w h d) 20 h := by
  intro dp un gd fs s Q E hs AM hdp hun rt
  have KX := AM.X
  refine AM.open ?_; intro p loose mean mg mb T
  (have hkf : PySem.Challenge.rw_on0235_01 = PySem.Challenge.rw_on0235_01 ∧ kheap.heap_1 = kheap.heap_1 := by k_fill; exact ⟨rfl, rfl⟩)
  clear hkf
  w_top off
  refine' wpAny_call (make_core (g := s.gens) (d := s.drawn) (t := s.toks) (os := s.os) (init := .ref 128) (makes_of (C := 152) KX ?m1) (looks_findIn KX ?m2) (fun self => bind_fn KX self ?m3) (.inl rfl) ?_)
  (case m1 => k_is); (case m2 => k_is); (case m3 => k_is)
  have hx1 : ((s.heap.push emptyDict).push (instObj 152 s.heap.objs.size)).get? (s.heap.objs.size + 1) = some (instObj 152 s.heap.objs.size) := by heap_get
  have hx2 : ((s.heap.push emptyDict).push (instObj 152 s.heap.objs.size)).get? s.heap.objs.size = some emptyDict := by heap_get
  refine' enter_base (h₀ := s.heap) ?ka ?kz KX T ?k6 ?k7 ?k8 ?k9 ?kB ?_ ?c2 ?c3 ?c4 ?c5
  (case ka => exact fun b o e => Heap.get?_push_of_some _ (Heap.get?_push_of_some _ e)); (case kz => (show _ ≤ _; rw [Heap.size_push, Heap.size_push]; omega)); (case k6 => k_is); (case k7 => k_is); (case k8 => (show dp + 1 < _; simp only [recursionLimit]; omega)); (case k9 => exact rfl); (case c5 => decide); (case kB => exact locs rfl); (case c2 => exact rfl); (case c3 => exact rfl); (case c4 => exact rfl)
  intro L h₁ tkz hL hk₁ F
  have N : News s.heap L h₁ [(s.heap.objs.size + 1, instObj 152 s.heap.objs.size), (s.heap.objs.size, dictOf [] 0)] := by
    have hl : L = s.heap.objs.size + 2 := by rw [hL]; show _ = _; rw [Heap.size_push, Heap.size_push]
    intro p hp
    rcases List.mem_cons.mp hp with rfl | hp
    · exact ⟨hk₁ _ _ hx1, by show s.heap.objs.size + 1 ≠ L; omega, Heap.get?_none_of_le (by omega)⟩
    · obtain rfl := List.mem_singleton.mp hp
      exact ⟨hk₁ _ _ hx2, by show s.heap.objs.size ≠ L; omega, Heap.get?_none_of_le (by omega)⟩
  have ne1 : @Ne Nat s.heap.objs.size (s.heap.objs.size + 1) := by omega
  clear hx1 hx2
  (try dsimp only)
  dsimp only [List.map, List.zip, List.zipWith, List.reverse, List.reverseAux] at F
  k_steps
  (with_reducible rename Fr _ _ _ _ => F9)
  (with_reducible rename News _ _ _ _ => N9)
  exact ⟨rfl, rt _ _ _ F9.keep ⟨_, _, _, rfl, ne1, (N9 _ (.head _)).1, (N9 _ (.tail _ (.head _))).1, hs ▸ (N9 _ (.head _)).2.2, hs ▸ (N9 _ (.tail _ (.head _))).2.2⟩⟩
end
theorem use_tab {w : World} {E : Value → Shared → Prop} {s : Shared} {p : Program} {loose : List Str} {mean : ExcName → Option Value} {mg mb : Str → Option Value} {h₀ : Heap} {L : Addr} {m : Str → Option Value} {news : List (Addr × Obj)} {f : Addr} {vs : List Value} {lim dp un : Nat} {gd : Option (List Code)} {fs : List Env} {Q : Value → Shared → Prop} {d : Addr}
    (C : Gives w f vs (TabV w s.heap d) lim s.heap) (F : Fr h₀ L s.heap m) (N : News h₀ L s.heap news) (X : (kheap.heap_1 w.params).In h₀) (T : Top p loose mean mg mb h₀) (hdp : dp + lim ≤ 900) (hun : un + 20 * lim ≤ 9000)
    (hQ : ∀ x dx k h' tk', Fr h₀ L h' m → News h₀ L h' ((x, instObj 152 dx) :: (dx, tabD w d k) :: news) → @Ne Nat dx x → (∀ p ∈ news, p.1 ≠ x) → (∀ p ∈ news, p.1 ≠ dx) → Q (.ref x) { s with heap := h', toks := tk' }) :
    wpAny (model PySem.Challenge.rw_on0235_01.row.prog w) (At dp un gd fs) (call (.ref f) vs) Q E s :=
  C.use F N X T hdp hun fun v h' tk' k F' N' rZ => by
    obtain ⟨x, dx, k1, e, hne, h1, h2, h3, h4⟩ := rZ
    subst e
    have hL : ∀ {y : Addr}, s.heap.get? y = none → y ≠ L := fun {y} hy q => by
      obtain ⟨o, _, _, ho, _⟩ := F.ns
      rw [q, ho] at hy; cases hy
    have h0 : ∀ {y : Addr}, s.heap.get? y = none → h₀.get? y = none := fun {y} hy => by
      cases q : h₀.get? y with
      | none => rfl
      | some o => have := F.keep _ _ q; rw [hy] at this; cases this
    have off : ∀ {y : Addr}, s.heap.get? y = none → ∀ p ∈ news, p.1 ≠ y := fun {y} hy p hp q => by
      have := (N p hp).1
      rw [q, hy] at this; cases this
    refine hQ x dx k1 h' tk' F' (fun p hp => ?_) hne (off h3) (off h4)
    rcases List.mem_cons.mp hp with rfl | hp
    · exact ⟨h1, hL h3, h0 h3⟩
    rcases List.mem_cons.mp hp with rfl | hp
    · exact ⟨h2, hL h4, h0 h4⟩
    exact N' p hp
theorem word_D2_3 : True := by
  (k_with "call ref" => (k_here; (with_reducible show wpAny _ _ (call (Value.ref 152) [_]) _ _ _); k_dflt (refine use_tab tab_ok (by k_asm) (by k_asm) (by k_asm) (by k_asm) (by k_extra "my room") (by k_extra "my room") ?_); intro x9 dx9 j1 h9 tk9 F9 N9 q9 e9 d9; (replace e9 := gnNe_of e9); (replace d9 := gnNe_of d9); (try simp only [GnNe, and_true] at e9 d9); (first | (revert x9 dx9 j1 h9 tk9 F9 N9 q9 e9 d9; intros) | skip)))
  trivial
-- D3
section
variable {prog : Program} {w : World} {A : Around} {E : Value → Shared → Prop} {s : Shared} {env : Env} {h₀ : Heap} {x : Str} {body : List Stmt} {Q : Flow → Shared → Prop}
/-- what a turn leaves, where a dict with letters for keys grows -/
abbrev GrowD (prog : Program) (w : World) (d : Addr) (S : List Str) (m₀ : Str → Option Value) (rest : List (Addr × Obj)) (J : (Str → Option Value) → List (Str × Value) → Prop) (m : Str → Option Value) (nx : List (Addr × Obj)) : Prop :=
  ∃ o kvs, nx = (d, o) :: rest ∧ o.IsDictOf (strKind prog w) kvs ∧ (∀ z, z ∉ S → m z = m₀ z) ∧ J m kvs
/-- list loop with a growing dict at the ledger's head, the rest of the ledger stays -/
theorem list_loopD {ls : Addr} {vs : List Value} {ln : Nat} {m₀ : Str → Option Value} {rest : List (Addr × Obj)} {d : Addr} {o₀ : Obj} {kvs₀ : List (Str × Value)} (S : List Str) (J : Nat → (Str → Option Value) → List (Str × Value) → Prop)
    (hh : A.handled = none) (hL : ls ≠ env.locals) (hl : (ls, listOf vs.toArray ln) ∈ rest) (F : Fr h₀ env.locals s.heap m₀) (N : News h₀ env.locals s.heap ((d, o₀) :: rest)) (hd₀ : o₀.IsDictOf (strKind prog w) kvs₀) (hj : J 0 m₀ kvs₀)
    (turn : ∀ i v m₁ o kvs h tk I oI, i < vs.length → vs[i]? = some v → @Ne Nat d I → (∀ p ∈ rest, p.1 ≠ I) → o.IsDictOf (strKind prog w) kvs → (∀ z, z ∉ S → m₁ z = m₀ z) → J i m₁ kvs → Fr h₀ env.locals h (fun y => if y = x then some v else m₁ y) → News h₀ env.locals h ((I, oI) :: (d, o) :: rest) →
      wpAny (model prog w) A (execs body env) (LPost h₀ env.locals I oI (GrowD prog w d S m₀ rest (J (i + 1))) { s with heap := h, toks := tk } Q) E { s with heap := h, toks := tk })
    (done : ∀ m₁ o kvs h tk, o.IsDictOf (strKind prog w) kvs → (∀ z, z ∉ S → m₁ z = m₀ z) → J vs.length m₁ kvs → Fr h₀ env.locals h m₁ → News h₀ env.locals h ((d, o) :: rest) → Q .next { s with heap := h, toks := tk }) :
    wpAny (model prog w) A (pyIter (.ref ls)) (fun it s₂ => LoopAtV prog w A h₀ env x body Q E it s₂) E s := by
  refine list_loop (vs := vs) (nn := ln) (fun i m nx => GrowD prog w d S m₀ rest (J i) m nx) hh hL ?_ F N ⟨o₀, kvs₀, rfl, hd₀, fun _ _ => rfl, hj⟩ ?_ ?_
  · intro i m nx h hZ4 hk N'
    (try k_extra "my kf")
    obtain ⟨o, kvs, rfl, _, _, _⟩ := hZ4
    exact (N' _ (.tail _ hl)).1
  · intro i v m₁ nx h tk I oI hi hv hne hZ11 F' N'
    (try k_extra "my kf")
    obtain ⟨o, kvs, rfl, hd, hm, hJ⟩ := hZ11
    exact turn i v m₁ o kvs h tk I oI hi hv (hne _ (.head _)) (fun p hp => hne p (.tail _ hp)) hd hm hJ F' N'
  · intro m₁ nx h tk hZ4 F' N'
    (try k_extra "my kf")
    obtain ⟨o, kvs, rfl, hd, hm, hJ⟩ := hZ4
    exact done m₁ o kvs h tk hd hm hJ F' N'
end
theorem news_swap {h₀ h : Heap} {L : Addr} {a b : Addr × Obj} {r : List (Addr × Obj)} (N : News h₀ L h (a :: b :: r)) : News h₀ L h (b :: a :: r) := fun p hp => N p (by
  rcases List.mem_cons.mp hp with rfl | hp
  · exact .tail _ (.head _)
  rcases List.mem_cons.mp hp with rfl | hp
  · exact .head _
  · exact .tail _ (.tail _ hp))
theorem news_more2 {h₀ h : Heap} {L : Addr} {a b I d l : Addr × Obj} {r : List (Addr × Obj)} (N : News h₀ L h (I :: d :: l :: r)) (ha : a ∈ r) (hb : b ∈ r) : News h₀ L h (a :: b :: I :: d :: l :: r) := fun p hp => N p (by
  rcases List.mem_cons.mp hp with rfl | hp
  · exact .tail _ (.tail _ (.tail _ ha))
  rcases List.mem_cons.mp hp with rfl | hp
  · exact .tail _ (.tail _ (.tail _ hb))
  · exact hp)
theorem map_turn0 {x : Str} {m₁ m₀ : Str → Option Value} {v : Option Value} (hm : ∀ z, z ∉ [x] → m₁ z = m₀ z) : (fun z => if z = x then v else m₁ z) = fun z => if z = x then v else m₀ z := over_turn [] hm
theorem word_D3_1 : True := by
  (k_with "compareOp In str ref" => (k_here; k_dflt (refine kda_in (knd := PySem.strKind _ _) (by k_asm) (by k_mem) (by assumption) (by assumption) (strKind_is _ _ _ _) _ (by assumption) ?_)))
  trivial
theorem word_D3_2 : True := by
  (k_with "setItem ref str" => (k_here; k_dflt (refine' kda_set (knd := PySem.strKind _ _) ?zzF ?zzN ?zzU ?zzd (strKind_is _ _ _ _) ?zzz ?_; (case zzF => k_asm); (case zzN => k_asm); (case zzU => k_updF); (case zzd => assumption); (case zzz => rw [sizeLine_eq]; omega)); intro h' o' F' N' hd'; (try dsimp only at N'); (first | (revert h' o' F' N' hd'; intros) | skip)))
  trivial
/-- the tags of a directory are unlike -/
def TabOk (ks : List Int) : Prop := DirOk ks ∧ ∀ i j, i < j → j < (g16 ks 4).toNat → (rowOf ks i).tag ≠ (rowOf ks j).tag
def TabsV (prog : Program) (w : World) (h : Heap) (n : Nat) (tag : Nat → Str) (held : Nat → List Int) : Heap → Value → Prop := fun h' v => ∃ (x dx d : Addr) (o : Obj) (kvs : List (Str × Value)) (k : Tok), v = .ref x ∧ o.IsDictOf (strKind prog w) kvs ∧ kvs.length = n ∧ (d == sysModules) = false ∧
  (∀ j, j < n → ∃ b t, kvs[j]? = some (tag j, .bytes b t) ∧ KBw.bInts b = held j) ∧ (∀ p ∈ [(x, instObj 152 dx), (dx, tabD w d k), (d, o)], h'.get? p.1 = some p.2 ∧ h.get? p.1 = none) ∧ @Ne Nat x dx ∧ @Ne Nat x d ∧ @Ne Nat dx d
section
variable {w : World} {b : Array UInt8} {ks : List Int} {t u u' : Tok} {i n : Int} {h : Heap}
set_option maxHeartbeats 8000000 in
theorem tabs_both (hk : KBw.bInts b = ks) (hz : ks.length ≤ 900) (dp un : Nat) (gd : Option (List Code)) (fs : List Env) (s : Shared) (Q E : Value → Shared → Prop) (Bx : Heap) (hs : s.heap = h) (AM : Amb w s.heap) (hdp : dp + 100 ≤ 900) (hun : un + 20 * 100 ≤ 9000)
    (hbf : ¬ TabOk ks → Bx.StaysIn s.heap ∧ s.heap.FunFrames Bx fs)
    (rt : TabOk ks → ∀ v h' tk', s.heap.StaysIn h' → TabsV PRG w s.heap (g16 ks 4).toNat (fun j => (rowOf ks j).tag) (fun j => partL ks (rowOf ks j).place.toNat (rowOf ks j).size.toNat) h' v → Q v { s with heap := h', toks := tk' })
    (rtE : ¬ TabOk ks → ∀ e h' tk' a0, Heap.FlyingW Bx fs e (.ref 44) a0 h' → s.heap.UpToSlots h' → E (.ref e) { s with heap := h', toks := tk' }) :
    wpAny (model PySem.Challenge.rw_on0235_01.row.prog w) (At dp un gd fs) (call (.ref 191) [.bytes b t]) Q E s := by
  (have hkf : PySem.Challenge.rw_on0235_01 = PySem.Challenge.rw_on0235_01 ∧ kheap.heap_1 = kheap.heap_1 := by k_fill; exact ⟨rfl, rfl⟩)
  clear hkf
  w_top off
  have KX := AM.X
  refine AM.open ?_; intro p loose mean mg mb T
  by_cases c1 : DirOk ks
  rotate_left
  · have hbad : ¬ TabOk ks := fun q => c1 q.1
    obtain ⟨hbx, hff⟩ := hbf hbad
    have rt := rtE hbad
    refine' enter_pure ?k1 ?k2 ?k6 ?k7 ?k8 ?k9 ?kB ?_ ?c2 ?c3 ?c4 ?c5
    (case k1 => assumption); (case k2 => assumption); (case k6 => k_is); (case k7 => k_is); (case k8 => first | exact rec_lt (by assumption) | (simp only [recursionLimit]; omega)); (case k9 => exact rfl); (case c5 => decide); (case kB => exact locs rfl); (case c2 => exact rfl); (case c3 => exact rfl); (case c4 => exact rfl)
    k_whole; intro L1 h1 tkz F1 N1; (try dsimp only); (dsimp only [List.map, List.zip, List.zipWith, List.reverse, List.reverseAux] at F1); (try k_extra "my kf")
    k_steps
    all_goals exact rt _ _ _ _ (by assumption) (by assumption)
  refine' enter_pure ?k1 ?k2 ?k6 ?k7 ?k8 ?k9 ?kB ?_ ?c2 ?c3 ?c4 ?c5
  (case k1 => assumption); (case k2 => assumption); (case k6 => k_is); (case k7 => k_is); (case k8 => first | exact rec_lt (by assumption) | (simp only [recursionLimit]; omega)); (case k9 => exact rfl); (case c5 => decide); (case kB => exact locs rfl); (case c2 => exact rfl); (case c3 => exact rfl); (case c4 => exact rfl)
  k_whole; intro L1 h1 tkz F1 N1; (try dsimp only); (dsimp only [List.map, List.zip, List.zipWith, List.reverse, List.reverseAux] at F1); (try k_extra "my kf")
  k_steps
  unfold StopLoop
  rename_i l9 xs9 k9 rest9 h9 tk9 F9 N9 xl9 xr9 lo9 lL9 ln9 nr9
  have hnn := g16_nn hk (j := 4)
  have N0 := news_swap N9
  refine list_loopD (kvs₀ := []) [Str.ofString "row"] (fun i m kvs => kvs.length = i ∧ (∀ j, j < i → ∃ b t, kvs[j]? = some ((rowOf ks j).tag, .bytes b t) ∧ KBw.bInts b = partL ks (rowOf ks j).place.toNat (rowOf ks j).size.toNat) ∧ (∀ a b, a < b → b < i → (rowOf ks a).tag ≠ (rowOf ks b).tag)) rfl lL9 (.head _) (by k_asm) N0 (by assumption) ⟨rfl, fun j hj => absurd hj (Nat.not_lt_zero j), fun a b _ hj => absurd hj (Nat.not_lt_zero b)⟩ ?_ ?_
  · intro i v m₁ o kvs h tk I oI hi hv hdI hrI hd hm hZ15 F' N'
    (try k_extra "my kf")
    obtain ⟨hlen, hkv, hdis⟩ := hZ15
    rw [map_turn0 hm] at F'
    obtain ⟨x, dx, k1, k2, k3, k4, t1, t2, t3, t4, rfl, mx, mdx⟩ := xr9 i v hv
    have N2 := news_more2 N' mx mdx
    have nx := neN (nr9 _ mx)
    have ndx := neN (nr9 _ mdx)
    have hrow := c1.2.2 i (by omega)
    have p1 : 0 ≤ (rowOf ks i).place := g32_nn hk
    have p2 : 0 ≤ (rowOf ks i).size := g32_nn hk
    have p3 : (rowOf ks i).place + (rowOf ks i).size ≤ ks.length := hrow.2.2
    have p4 : (rowOf ks i).tag.length ≤ 4 := by rw [rowOf]; show (txt _).length ≤ 4; rw [txt_len, partL_len]; omega
    clear N' N0
    by_cases c2 : ∃ j, j < i ∧ (rowOf ks j).tag = (rowOf ks i).tag
    · obtain ⟨j, hj, hjt⟩ := c2
      have hbad : ¬ TabOk ks := fun q => q.2 j i hj (by omega) hjt
      obtain ⟨hbx, hff⟩ := hbf hbad
      have rt := rtE hbad
      have hin : (valueAt kvs (rowOf ks i).tag).isSome = true := by
        obtain ⟨b', t', e, _⟩ := hkv j hj
        rw [valueAt_isSome_eq_any, List.any_eq_true]
        exact ⟨_, List.mem_of_getElem? e, by simp [hjt]⟩
      k_steps
      all_goals exact rt _ _ _ _ (by assumption) (by assumption)
    · have hnone : valueAt kvs (rowOf ks i).tag = none := valueAt_none_of_not_mem fun hm => by
        obtain ⟨kv, hkm, hke⟩ := List.mem_map.mp hm
        obtain ⟨j, hj, e⟩ := List.getElem_of_mem hkm
        obtain ⟨b', t', e', _⟩ := hkv j (by omega)
        rw [List.getElem?_eq_getElem hj, e] at e'
        exact c2 ⟨j, by omega, by rw [← hke]; exact (congrArg Prod.fst (Option.some.inj e')).symm⟩
      have hin : (valueAt kvs (rowOf ks i).tag).isSome = false := by rw [hnone]; rfl
      k_steps
      rename_i F8 N8 D8
      (try k_unfold)
      refine LEnd.intro F8 (fun p hp => N8 p (.tail _ (.tail _ hp))) ?_ ⟨_, _, rfl, D8, ?_, ?_, ?_, ?_⟩
      · k_all
      · intro z hz
        k_extra "my out"
      · rw [stored_absent hnone, List.length_append, hlen]; rfl
      · intro j hj
        rw [stored_absent hnone]
        by_cases hji : j < i
        · rw [List.getElem?_append_left (by omega)]; exact hkv j hji
        · obtain rfl : j = i := by omega
          rw [List.getElem?_append_right (by omega), hlen]
          exact ⟨_, _, by simp; exact ⟨rfl, rfl⟩, by assumption⟩
      · intro a b hab hb e
        by_cases hbi : b < i
        · exact hdis a b hab hbi e
        · obtain rfl : b = i := by omega
          exact c2 ⟨a, hab, e⟩
  · intro m₁ o kvs h tk hd hm hZ7 F' N'
    (try k_extra "my kf")
    obtain ⟨hlen, hkv, hdis⟩ := hZ7
    rw [xl9] at hlen hkv hdis
    obtain ⟨ux, em⟩ := map_fin0 hm
    rw [em] at F'
    clear N0
    k_steps
    rename_i x9 dx9 j1 h8 tk8 F8 N8 q9 e9 d9
    (try k_unfold); (try dsimp only)
    refine rt ⟨c1, hdis⟩ _ _ _ (Fr.keep (by k_asm)) ?_
    refine ⟨x9, dx9, _, o, kvs, j1, rfl, hd, hlen, by assumption, hkv, fun p hp => ?_, Ne.symm q9, fun e => e9.1 e.symm, fun e => d9.1 e.symm⟩
    have hp' := List.mem_append_left ((l9, listOf xs9.toArray k9) :: rest9) hp
    exact ⟨(N8 p hp').1, (N8 p hp').2.2⟩
theorem tabs_ok (hk : KBw.bInts b = ks) (hz : ks.length ≤ 900) (hd : TabOk ks) : Gives w 191 [.bytes b t] (TabsV PRG w h (g16 ks 4).toNat (fun j => (rowOf ks j).tag) (fun j => partL ks (rowOf ks j).place.toNat (rowOf ks j).size.toNat)) 100 h := by
  intro dp un gd fs s Q E hs AM hdp hun rt
  exact tabs_both hk hz dp un gd fs s Q E s.heap hs AM hdp hun (fun q => absurd hd q) (fun _ v h' tk' k r => rt v h' tk' k (hs ▸ r)) fun q => absurd hd q
theorem tabs_falls (hk : KBw.bInts b = ks) (hz : ks.length ≤ 900) (hd : ¬ TabOk ks) : Falls w 191 [.bytes b t] 100 h := by
  intro dp un gd fs s Q E Bx hs AM hdp hun hbx hff rt
  exact tabs_both hk hz dp un gd fs s Q E Bx hs AM hdp hun (fun _ => ⟨hbx, hff⟩) (fun q => absurd q hd) fun _ => rt
end
-- SS
/-- letters, rising -/
def leS (a b : Str) : Bool := !PySem.Spec.ltCps b.cps.toList a.cps.toList
def sortS (ss : List Str) : List Str := ss.mergeSort leS
theorem leS_iff (a b : Str) : leS a b = true ↔ ¬ b.cps.toList < a.cps.toList := by
  unfold leS; rw [PyProof.Rows.ltCps_eq]; simp
theorem leS_anti {a b : Str} (h1 : leS a b = true) (h2 : leS b a = true) : a = b := by
  rw [leS_iff] at h1 h2
  have e : a.cps.toList = b.cps.toList := List.le_antisymm (List.not_lt.mp h1) (List.not_lt.mp h2)
  obtain ⟨⟨a⟩⟩ := a
  obtain ⟨⟨b⟩⟩ := b
  simp at e
  rw [e]
theorem leS_trans (a b c : Str) (h1 : leS a b = true) (h2 : leS b c = true) : leS a c = true := by
  rw [leS_iff] at *
  intro h3
  have h4 := List.not_lt.mp h1
  have h5 := List.not_lt.mp h2
  exact absurd (List.lt_of_le_of_lt (List.le_trans h4 h5) h3) (List.lt_irrefl _)
theorem leS_total (a b : Str) : (leS a b || leS b a) = true := by
  by_cases h : leS a b = true
  · simp [h]
  · have h' : leS b a = true := by
      rw [leS_iff] at *
      intro h3
      exact h fun h4 => absurd (List.lt_trans h3 h4) (List.lt_irrefl _)
    simp [h']
theorem uniqS : ∀ {a b : List Str}, a.Perm b → a.Pairwise (fun x y => leS x y = true) → b.Pairwise (fun x y => leS x y = true) → a = b
  | [], b, p, _, _ => (List.nil_perm.mp p).symm
  | x :: r, [], p, _, _ => by cases List.perm_nil.mp p
  | x :: r, y :: t, p, ha, hb => by
    have e : x = y := by
      have h1 : x ∈ y :: t := p.mem_iff.mp (.head _)
      have h2 : y ∈ x :: r := p.mem_iff.mpr (.head _)
      rcases List.mem_cons.mp h1 with e | h1
      · exact e
      rcases List.mem_cons.mp h2 with e | h2
      · exact e.symm
      exact leS_anti ((List.pairwise_cons.mp ha).1 _ h2) ((List.pairwise_cons.mp hb).1 _ h1)
    subst e
    rw [uniqS (List.Perm.cons_inv p) (List.pairwise_cons.mp ha).2 (List.pairwise_cons.mp hb).2]
theorem sortedS_pair : ∀ {l : List Str}, PyProof.Rows.sortedS l = true → l.Pairwise (fun x y => leS x y = true)
  | [], _ => .nil
  | [x], _ => List.pairwise_singleton _ _
  | x :: y :: r, h => by
    have h' : (!PySem.Spec.ltCps y.cps.toList x.cps.toList && PyProof.Rows.risingS y r) = true := h
    rw [Bool.and_eq_true] at h'
    have ih := sortedS_pair (l := y :: r) h'.2
    refine List.pairwise_cons.mpr ⟨fun z hz => ?_, ih⟩
    rcases List.mem_cons.mp hz with rfl | hz
    · exact h'.1
    · exact leS_trans _ _ _ h'.1 ((List.pairwise_cons.mp ih).1 _ hz)
theorem sortS_of {a b : List Str} (p : a.Perm b) (h : PyProof.Rows.sortedS a = true) : a = sortS b :=
  uniqS (p.trans (List.mergeSort_perm _ _).symm) (sortedS_pair h) (List.pairwise_mergeSort (le := leS) leS_trans leS_total b)
theorem sortS_perm {a b : List Str} (p : a.Perm b) : sortS a = sortS b :=
  uniqS (((List.mergeSort_perm _ _).trans p).trans (List.mergeSort_perm _ _).symm) (List.pairwise_mergeSort (le := leS) leS_trans leS_total a) (List.pairwise_mergeSort (le := leS) leS_trans leS_total b)
section
variable {prog : Program} {w : World} {A : Around} {E : Value → Shared → Prop} {s : Shared} {h₀ : Heap} {L D : Addr} {m : Str → Option Value} {news : List (Addr × Obj)} {vs : List Value} {ss : List Str} {n : Nat} {g : Obj → List (Addr × Obj)}
theorem str_sort {Q : Value → Shared → Prop} (F : Fr h₀ L s.heap m) (N : News h₀ L s.heap news) (U : UpdF D (listOf vs.toArray n) news g) (hS : StrsAre vs ss) (h64 : vs.length < 64)
    (h : ∀ vs' c h', Fr h₀ L h' m → News h₀ L h' (g (listOf (List.toArray vs') c)) → StrsAre vs' (sortS ss) → Q .none { s with heap := h' }) : wpAny (model prog w) A (call (.builtin "list.sort") [.ref D]) Q E s := by
  obtain ⟨pre, post, e1, hg, a, b⟩ := U.split
  subst e1
  have z := N (D, listOf vs.toArray n) (List.mem_append.mpr (.inr (.head _)))
  have ho : s.heap.get? D = some (seqObj "list" vs.toArray n) := z.1
  refine wpAny_call_entry PyProof.Rows.slot_list_sort ⟨_, z.1, rfl⟩ PyProof.Rows.entry_list_sort (list_sort_treeK (n := n) (vs := vs) strKind_oneLt ho hS.keysOf (fun v₁ v₂ rest e => keyKind_strs (by rw [← e]; exact hS)) h64 fun st' hp hs => ⟨.none, rfl, ?_⟩) (PyProof.Rows.args_list_sort _)
  obtain ⟨ss', hS', hp', hs'⟩ := sorted_out_str hS hp hs
  have hss := sortS_of hp' hs'
  subst hss
  have F1 : Fr h₀ L (s.heap.update D (Obj.mapSeq fun _ => (#[] : Array Value))) m := F.change (Heap.SameBut.update ..) z.2.1 z.2.2
  have N1 := ki_turn (fun _ => (#[] : Array Value)) (its' := #[]) N a b rfl rfl
  have N2 := News.grown N1 fun _ _ e => Heap.get?_push_of_some (seqObj "tuple" vs.toArray 0) e
  have N3 := News.grown N2 fun _ _ e => Heap.get?_push_of_some (seqObj "list" #[] 0) e
  have N4 := ki_turn (fun _ => (arrOf st').map (·.2)) (its' := (arrOf st').map (·.2)) N3 a b rfl rfl
  have F4 : Fr h₀ L ((((s.heap.update D (Obj.mapSeq fun _ => (#[] : Array Value))).push (seqObj "tuple" vs.toArray 0)).push (seqObj "list" #[] 0)).update D (Obj.mapSeq fun _ => (arrOf st').map (·.2))) m :=
    ((F1.push (seqObj "tuple" vs.toArray 0)).push (seqObj "list" #[] 0)).change (Heap.SameBut.update ..) z.2.1 z.2.2
  refine h ((arrOf st').map (·.2)).toList ?c _ F4 ?_ hS'
  rotate_left
  rw [hg, Array.toArray_toList]
  exact N4
end
theorem add_listsK {prog : Program} {w : World} {A : Around} {E : Value → Shared → Prop} {s : Shared} {h₀ : Heap} {L : Addr} {m : Str → Option Value} {news : List (Addr × Obj)} {l b : Addr} {vs ws : List Value} {Q : Value → Shared → Prop} (F : Fr h₀ L s.heap m) (N : News h₀ L s.heap news) (hl : s.heap.IsList l vs.toArray) (hb : s.heap.IsList b ws.toArray)
    (h : ∀ l h', Fr h₀ L h' m → News h₀ L h' ((l, listOf (vs ++ ws).toArray 0) :: news) → (∀ q ∈ news, q.1 < l) → Q (.ref l) { s with heap := h' })
    (hsz : vs.length + ws.length ≤ sizeLine) : wpAny (model prog w) A (binaryOp .Add (.ref l) (.ref b)) Q E s :=
  add_lists F N hl hb (fun h' F' N' => h _ h' F' N' fun q hq => Heap.lt_size (N q hq).1) hsz
theorem word_SS_1 : True := by
  (k_with "binaryOp Add ref ref" => (k_here; k_dflt (refine' add_listsK ?zzF ?zzN ?zza ?zzb ?_ ?zzz; (case zzF => k_asm); (case zzN => k_asm); (case zza => is_list); (case zzb => is_list); (case zzz => ((try simp only [List.length_cons, List.length_nil, List.length_append]); rw [sizeLine_eq]; omega))); intro l9 h9 F9 N9 q9; (try simp only [List.cons_append, List.nil_append] at N9); (replace q9 := allLt_of q9); (try simp only [AllLt, and_true] at q9); (first | (revert l9 h9 F9 N9 q9; intros) | skip)))
  trivial
-- W1
theorem word_W1_1 : True := by
  (k_with "call ref" => (k_here; (with_reducible show wpAny _ _ (call (Value.ref 205) _) _ _ _); (refine use_int (tsum_ok (by kba_ints) (by k_extra "my size")) (by k_asm) (by k_asm) (by k_asm) (by k_asm) (by k_extra "my room") (by k_extra "my room") ?_); intro t9 h9 tk9 F9 N9; (first | (revert t9 h9 tk9 F9 N9; intros) | skip)))
  trivial
theorem strs_len_le {vs : List Value} {ss : List Str} (h : StrsAre vs (sortS ss)) : vs.length = ss.length := by rw [h.length]; exact (List.mergeSort_perm _ _).length_eq
theorem word_W1_2 : True := by
  (k_with "call builtin:list.sort" => (k_here; (with_reducible show wpAny _ _ (call (Value.builtin _) [Value.ref _]) _ _ _); k_dflt (refine' str_sort ?zzF ?zzN ?zzU ?zzi ?zzz ?_; (case zzF => k_asm); (case zzN => k_asm); (case zzU => k_updF); (case zzi => assumption); (case zzz => omega)); intro vs9 c9 h9 F9 N9 S9; (try dsimp only at N9); have z9 := strs_len_le S9; (first | (revert vs9 c9 h9 F9 N9 S9 z9; intros) | skip)))
  trivial
def headTag (x : Str) : Bool := x == Str.ofString "head"
def rowSum (ks : List Int) (r : DRow) : Int := wsum (if headTag r.tag then headL (partL ks r.place.toNat r.size.toNat) else partL ks r.place.toNat r.size.toNat)
def wrongN (ks : List Int) : Nat → List Str
  | 0 => []
  | i + 1 => wrongN ks i ++ if rowSum ks (rowOf ks i) = (rowOf ks i).sum then [] else [(rowOf ks i).tag]
def headN (ks : List Int) : Nat → Bool
  | 0 => false
  | i + 1 => headN ks i || headTag (rowOf ks i).tag
def wrongL (ks : List Int) : List Str := (if headN ks (g16 ks 4).toNat = true ∧ wsum ks ≠ 2981146554 then [Str.ofString ""] else []) ++ sortS (wrongN ks (g16 ks 4).toNat)
def StrsV (h : Heap) (ws : List Str) : Heap → Value → Prop := fun h' v => ∃ (l : Addr) (vs : List Value) (c : Nat), v = .ref l ∧ h'.get? l = some (listOf vs.toArray c) ∧ StrsAre vs ws ∧ h.get? l = none
theorem strsAre_app : ∀ {vs us : List Value} {ws xs : List Str}, StrsAre vs ws → StrsAre us xs → StrsAre (vs ++ us) (ws ++ xs)
  | _, _, _, _, .nil, h => h
  | _, _, _, _, .cons y t r, h => .cons y t (strsAre_app r h)
theorem wrongN_len (ks : List Int) : ∀ n, (wrongN ks n).length ≤ n
  | 0 => Nat.le_refl _
  | n + 1 => by
    have := wrongN_len ks n
    rw [wrongN, List.length_append]
    split <;> simp <;> omega
section
variable {w : World} {b : Array UInt8} {ks : List Int} {t u u' : Tok} {i n : Int} {h : Heap}
set_option maxHeartbeats 8000000 in
theorem wrong_ok (hk : KBw.bInts b = ks) (hz : ks.length ≤ 800) (hD : DirOk ks) : Gives w 212 [.bytes b t] (StrsV h (wrongL ks)) 120 h := by
  (have hkf : PySem.Challenge.rw_on0235_01 = PySem.Challenge.rw_on0235_01 ∧ kheap.heap_1 = kheap.heap_1 := by k_fill; exact ⟨rfl, rfl⟩)
  clear hkf
  w_top off
  intro dp un gd fs s Q E hs AM hdp hun rt
  have KX := AM.X
  refine AM.open ?_; intro p loose mean mg mb T
  refine' enter_pure ?k1 ?k2 ?k6 ?k7 ?k8 ?k9 ?kB ?_ ?c2 ?c3 ?c4 ?c5
  (case k1 => assumption); (case k2 => assumption); (case k6 => k_is); (case k7 => k_is); (case k8 => first | exact rec_lt (by assumption) | (simp only [recursionLimit]; omega)); (case k9 => exact rfl); (case c5 => decide); (case kB => exact locs rfl); (case c2 => exact rfl); (case c3 => exact rfl); (case c4 => exact rfl)
  k_whole; intro L1 h1 tkz F1 N1; (try dsimp only); (dsimp only [List.map, List.zip, List.zipWith, List.reverse, List.reverseAux] at F1); (try k_extra "my kf")
  (try k_extra "my env")
  k_steps
  unfold StopLoop
  rename_i l9 xs9 k9 rest9 h9 tk9 F9 N9 xl9 xr9 lo9 lL9 ln9 nr9
  have hnn := g16_nn hk (j := 4)
  have hn : (g16 ks 4).toNat ≤ 60 := by
    by_cases q : (g16 ks 4).toNat = 0
    · omega
    · have := (hD.2.2 ((g16 ks 4).toNat - 1) (by omega)).1
      omega
  have N0 := news_swap N9
  refine list_loopL (vs := xs9) (ln := k9) (xs₀ := []) [Str.ofString "row", Str.ofString "has_head"] (fun i m xs rest => rest = (l9, listOf xs9.toArray k9) :: rest9 ∧ m (Str.ofString "has_head") = some (.bool (headN ks i)) ∧ StrsAre xs (wrongN ks i)) rfl lL9 ?_ (by k_asm) N0 ?_ ⟨rfl, rfl, .nil⟩ ?_ ?_
  · intro i m xs k rest h hZ6 hk' N'
    (try k_extra "my kf")
    obtain ⟨rfl, _, _⟩ := hZ6
    exact (N' _ (.tail _ (.head _))).1
  · k_all
  · intro i v m₁ xs k rest h tk I oI hi hv hdI hrI hrl hm hZ16 F' N'
    (try k_extra "my kf")
    obtain ⟨rfl, hb, hS⟩ := hZ16
    have em := over_turn (v := some v) [Str.ofString "has_head"] hm
    simp only [over, hb] at em
    rw [em] at F'
    obtain ⟨x, dx, k1, k2, k3, k4, t1, t2, t3, t4, rfl, mx, mdx⟩ := xr9 i v hv
    have N2 := news_more2 N' mx mdx
    have nx := neN (nr9 _ mx)
    have ndx := neN (nr9 _ mdx)
    have hrow := hD.2.2 i (by omega)
    have p1 : 0 ≤ (rowOf ks i).place := g32_nn hk
    have p2 : 0 ≤ (rowOf ks i).size := g32_nn hk
    have p3 : (rowOf ks i).place + (rowOf ks i).size ≤ ks.length := hrow.2.2
    have p4 : xs.length ≤ 60 := by rw [hS.length]; have := wrongN_len ks i; omega
    clear N' N0
    k_steps
    all_goals (try k_unfold)
    all_goals (with_reducible rename Fr _ _ _ _ => F8); (with_reducible rename News _ _ _ _ => N8)
    all_goals first
      | (have e1 : ¬ rowSum ks (rowOf ks i) = (rowOf ks i).sum := by assumption
         refine LEnd.intro F8 (fun p hp => N8 p (.tail _ (.tail _ hp))) ?_ ⟨_, _, _, push_eq, ?_, ?_, rfl, ?_, ?_⟩
         · k_all
         · exact hrl
         · intro z hz
           k_extra "my out"
         · simp [headN, headTag, *]
         · rw [wrongN, if_neg e1]
           exact strsAre_app hS (.cons _ _ .nil))
      | (have e1 : rowSum ks (rowOf ks i) = (rowOf ks i).sum := by assumption
         refine LEnd.intro F8 (fun p hp => N8 p (.tail _ (.tail _ hp))) ?_ ⟨_, _, _, rfl, ?_, ?_, rfl, ?_, ?_⟩
         · k_all
         · exact hrl
         · intro z hz
           k_extra "my out"
         · simp [headN, headTag, *]
         · rw [wrongN, if_pos e1, List.append_nil]
           exact hS)
  · intro m₁ xs k rest h tk hm hZ7 hrl F' N'
    (try k_extra "my kf")
    obtain ⟨rfl, hb, hS⟩ := hZ7
    rw [xl9] at hb hS
    have em := over_eq _ hm
    simp only [over, hb] at em
    rw [em] at F'
    have p4 : xs.length ≤ 60 := by rw [hS.length]; have := wrongN_len ks (g16 ks 4).toNat; omega
    have p5 : (wrongN ks (g16 ks 4).toNat).length ≤ 60 := by have := wrongN_len ks (g16 ks 4).toNat; omega
    clear N0
    k_steps
    all_goals (try k_unfold)
    all_goals (try dsimp only)
    all_goals (with_reducible rename News _ _ _ _ => N8); (with_reducible rename StrsAre _ (sortS _) => S8)
    · refine rt _ _ _ (Fr.keep (by k_asm)) ⟨_, _, _, rfl, (N8 _ (.head _)).1, ?_, hs ▸ (N8 _ (.head _)).2.2⟩
      rw [wrongL, if_pos ⟨by assumption, by assumption⟩]
      exact .cons _ _ S8
    · refine rt _ _ _ (Fr.keep (by k_asm)) ⟨_, _, _, rfl, (N8 _ (.head _)).1, ?_, hs ▸ (N8 _ (.head _)).2.2⟩
      rw [wrongL, if_neg (fun q => q.2 (by assumption))]
      exact S8
    · refine rt _ _ _ (Fr.keep (by k_asm)) ⟨_, _, _, rfl, (N8 _ (.head _)).1, ?_, hs ▸ (N8 _ (.head _)).2.2⟩
      rename_i hf8
      rw [wrongL, if_neg (fun q => by rw [hf8] at q; cases q.1)]
      exact S8
end
-- EQ
def StrOkL (ws : List Str) : Prop := ∀ x ∈ ws, PyData.strOk x = true
theorem datAll_strs {news : List (Addr × Obj)} : ∀ {vs : List Value} {ws : List Str}, StrsAre vs ws → DatAll news vs (ws.map Dat.str)
  | _, _, .nil => .nil
  | _, _, .cons y t r => .cons (.str y t) (datAll_strs r)
theorem kqdOk_strs {ws : List Str} (h : StrOkL ws) : ∀ d ∈ ws.map Dat.str, kqdOk 8 d = true := fun d hd => by
  obtain ⟨x, hx, rfl⟩ := List.mem_map.mp hd
  exact h x hx
theorem map_str_inj : ∀ {a b : List Str}, a.map Dat.str = b.map Dat.str ↔ a = b
  | [], [] => by simp
  | [], _ :: _ => by simp
  | _ :: _, [] => by simp
  | x :: r, y :: t => by simp [map_str_inj (a := r) (b := t)]
section
open Classical
variable {prog : Program} {w : World} {A : Around} {E : Value → Shared → Prop} {s : Shared} {h₀ : Heap} {L a b : Addr} {m : Str → Option Value} {news : List (Addr × Obj)} {vs us : List Value} {ws xs : List Str} {ka kb : Nat} {Q : Value → Shared → Prop}
theorem eq_strs (N : News h₀ L s.heap news) (ma : (a, listOf vs.toArray ka) ∈ news) (mb : (b, listOf us.toArray kb) ∈ news) (Sa : StrsAre vs ws) (Sb : StrsAre us xs) (oa : StrOkL ws) (ob : StrOkL xs) (hu : A.units + 64 < cLine) (h : Q (.bool (decide (ws = xs))) s) :
    wpAny (model prog w) A (compareOp .Eq (.ref a) (.ref b)) Q E s :=
  kqd_eq N ma rfl rfl (datAll_strs (news := []) Sa) (fun _ h => nomatch h) mb rfl rfl (datAll_strs (news := []) Sb) (fun _ h => nomatch h) (kqdOk_strs oa) (kqdOk_strs ob) hu (by
    have e : decide (ws.map Dat.str = xs.map Dat.str) = decide (ws = xs) := by simp only [map_str_inj]
    rw [e]; exact h)
theorem ne_strs (N : News h₀ L s.heap news) (ma : (a, listOf vs.toArray ka) ∈ news) (mb : (b, listOf us.toArray kb) ∈ news) (Sa : StrsAre vs ws) (Sb : StrsAre us xs) (oa : StrOkL ws) (ob : StrOkL xs) (hu : A.units + 64 < cLine) (h : Q (.bool (!decide (ws = xs))) s) :
    wpAny (model prog w) A (compareOp .NotEq (.ref a) (.ref b)) Q E s :=
  kqd_ne N ma rfl rfl (datAll_strs (news := []) Sa) (fun _ h => nomatch h) mb rfl rfl (datAll_strs (news := []) Sb) (fun _ h => nomatch h) (kqdOk_strs oa) (kqdOk_strs ob) hu (by
    have e : decide (ws.map Dat.str = xs.map Dat.str) = decide (ws = xs) := by simp only [map_str_inj]
    rw [e]; exact h)
end
theorem txt_ok {ks : List Int} (h : ∀ k ∈ ks, k < 256) : PyData.strOk (txt ks) = true := by
  unfold PyData.strOk txt
  simp only [List.all_toArray, List.all_map, List.all_eq_true, Function.comp, decide_eq_true_eq]
  intro k hk
  have := h k hk
  omega
theorem bytes_lt {b : Array UInt8} {ks : List Int} (hk : KBw.bInts b = ks) : ∀ k ∈ ks, 0 ≤ k ∧ k < 256 := by
  subst hk; intro k h; exact KBw.ints_in h
theorem tag_strOk {ks : List Int} (hb : ∀ k ∈ ks, 0 ≤ k ∧ k < 256) (i : Nat) : PyData.strOk (rowOf ks i).tag = true :=
  txt_ok fun k hk => (hb k (List.mem_of_mem_drop (List.mem_of_mem_take hk))).2
theorem wrongN_mem {ks : List Int} {x : Str} : ∀ {n : Nat}, x ∈ wrongN ks n → ∃ i, i < n ∧ x = (rowOf ks i).tag
  | 0, h => nomatch h
  | n + 1, h => by
    rw [wrongN] at h
    rcases List.mem_append.mp h with h | h
    · obtain ⟨i, hi, e⟩ := wrongN_mem h
      exact ⟨i, by omega, e⟩
    · split at h
      · cases h
      · exact ⟨n, by omega, List.mem_singleton.mp h⟩
theorem wrongL_ok {ks : List Int} (hb : ∀ k ∈ ks, 0 ≤ k ∧ k < 256) : StrOkL (wrongL ks) := by
  intro x hx
  rcases List.mem_append.mp hx with h | h
  · split at h
    · obtain rfl := List.mem_singleton.mp h; decide +kernel
    · cases h
  · obtain ⟨i, _, rfl⟩ := wrongN_mem ((List.mergeSort_perm _ _).mem_iff.mp h)
    exact tag_strOk hb i
theorem use_strs {w : World} {E : Value → Shared → Prop} {hp : Heap} {gn : Array GenState} {dr : Drawn} {tk0 : Nat} {os : OsState} {p : Program} {loose : List Str} {mean : ExcName → Option Value} {mg mb : Str → Option Value} {h₀ : Heap} {L : Addr} {m : Str → Option Value} {news : List (Addr × Obj)} {f : Addr} {vs : List Value} {lim dp un : Nat} {gd : Option (List Code)} {fs : List Env} {Q : Value → Shared → Prop} {ws : List Str}
    (C : Gives w f vs (StrsV hp ws) lim hp) (F : Fr h₀ L hp m) (N : News h₀ L hp news) (X : (kheap.heap_1 w.params).In h₀) (T : Top p loose mean mg mb h₀) (hdp : dp + lim ≤ 900) (hun : un + 20 * lim ≤ 9000)
    (hQ : ∀ (l : Addr) (xs : List Value) (c : Nat) h' tk', Fr h₀ L h' m → News h₀ L h' ((l, listOf xs.toArray c) :: news) → StrsAre xs ws → (∀ p ∈ news, p.1 ≠ l) → Q (.ref l) (Shared.mk h' gn dr tk' os)) :
    wpAny (model PySem.Challenge.rw_on0235_01.row.prog w) (At dp un gd fs) (call (.ref f) vs) Q E (Shared.mk hp gn dr tk0 os) :=
  Gives.use (s := Shared.mk hp gn dr tk0 os) C F N X T hdp hun fun v h' tk' k F' N' rZ => by
    obtain ⟨l, xs, c, e, hl, hS, h0⟩ := rZ
    subst e
    refine hQ l xs c h' tk' F' (fun p hp => ?_) hS fun p hp q => by have := (N p hp).1; rw [q, h0] at this; cases this
    rcases List.mem_cons.mp hp with rfl | hp
    · refine ⟨hl, fun q => ?_, ?_⟩
      · obtain ⟨o, _, _, ho, _⟩ := F.ns
        have q' : l = L := q
        rw [q', ho] at h0; cases h0
      · show h₀.get? l = none
        cases q : h₀.get? l with
        | none => rfl
        | some o => have := F.keep _ _ q; rw [h0] at this; cases this
    · exact N' p hp
theorem word_EQ_1 : True := by
  (k_with "call ref" => (k_here; (with_reducible show wpAny _ _ (call (Value.ref 212) _) _ _ _); k_dflt (refine use_strs (wrong_ok (by kba_ints) (by k_extra "my size") (by assumption)) (by k_asm) (by k_asm) (by k_asm) (by k_asm) (by k_extra "my room") (by k_extra "my room") ?_); intro l9 xs9 c9 h9 tk9 F9 N9 S9 d9; (replace d9 := gnNe_of d9); (try simp only [GnNe, and_true] at d9); (first | (revert l9 xs9 c9 h9 tk9 F9 N9 S9 d9; intros) | skip)))
  trivial
theorem strOkL_nil : StrOkL [] := fun _ h => nomatch h
theorem word_EQ_2 : True := by
  (k_with "my strok" => (first | assumption | exact strOkL_nil | (apply wrongL_ok; exact bytes_lt (by kba_ints))))
  trivial
theorem word_EQ_3 : True := by
  (k_with "compareOp Eq ref ref" => (k_here; (with_reducible show wpAny _ _ (compareOp CmpOp.Eq (Value.ref _) (Value.ref _)) _ _ _); k_dflt (refine' eq_strs ?zzN ?zza ?zzb ?zzSa ?zzSb ?zzoa ?zzob ?zzu ?_; (case zzN => k_asm); (case zza => k_mem); (case zzb => k_mem); (case zzSa => first | assumption | exact StrsAre.nil); (case zzSb => first | assumption | exact StrsAre.nil); (case zzoa => k_extra "my strok"); (case zzob => k_extra "my strok"); (case zzu => (k_extra "my line")))))
  trivial
theorem word_EQ_4 : True := by
  (k_with "compareOp NotEq ref ref" => (k_here; (with_reducible show wpAny _ _ (compareOp CmpOp.NotEq (Value.ref _) (Value.ref _)) _ _ _); k_dflt (refine' ne_strs ?zzN ?zza ?zzb ?zzSa ?zzSb ?zzoa ?zzob ?zzu ?_; (case zzN => k_asm); (case zza => k_mem); (case zzb => k_mem); (case zzSa => first | assumption | exact StrsAre.nil); (case zzSb => first | assumption | exact StrsAre.nil); (case zzoa => k_extra "my strok"); (case zzob => k_extra "my strok"); (case zzu => (k_extra "my line")))))
  trivial
theorem word_EQ_5 : True := by
  (k_with "call type:bytes" => (k_here; (with_reducible show wpAny _ _ (call (Value.type "bytes") [Value.ref _]) _ _ _); k_dflt (refine' KBa.make_K ?zzF ?zzN ?zzh ?zzl ?zzi ?zzr ?zzn ?_; (case zzF => k_asm); (case zzN => k_asm); (case zzh => rfl); (case zzl => is_list); (case zzi => first | assumption | kba_listInts); (case zzr => first | kba_in | (show ∀ n ∈ _, _; decide)); (case zzn => first | kba_size | decide)); intro h9 t9 k9 F9 N9 kbaIn; (first | (revert h9 t9 k9 F9 N9 kbaIn; intros) | skip)))
  trivial
theorem ints_lit4 {a b c d : UInt8} : KBw.bInts #[a, b, c, d] = [(a.toNat : Int), b.toNat, c.toNat, d.toNat] := rfl
theorem word_EQ_6 : True := by
  (k_with "my ints" => (first | kba_ints | exact ints_lit4 | kba_ints2))
  trivial
theorem word_EQ_7 : True := by
  (k_with "binaryOp Add bytes bytes" => (k_here; (with_reducible show wpAny _ _ (binaryOp Operator.Add (Value.bytes _ _) (Value.bytes _ _)) _ _ _); (refine KBa.add_K (by k_extra "my ints") (by k_extra "my ints") (by k_extra "my size") ?_); intro _ _ kbaApp; (first | (revert kbaApp; intros) | skip)))
  trivial
-- HR
def hrPlain : List Int := (List.replicate 8 [7]).flatten ++ List.replicate 4 0 ++ [1, 2, 3, 4]
def hrAhead : List Int := p32 65536 ++ [0, 1] ++ List.replicate 6 0 ++ [104, 101, 97, 100] ++ p32 (lsum hrPlain) ++ p32 28 ++ p32 16
def hrAll : List Int := hrAhead ++ hrPlain.take 8 ++ p32 ((2981146554 - lsum (hrAhead ++ hrPlain)).fmod (2 ^ 32)) ++ hrPlain.drop 12
theorem hr_dir : DirOk hrAll := by
  refine ⟨by decide +kernel, .inl (by decide +kernel), fun i hi => ?_⟩
  have h1 : (g16 hrAll 4).toNat = 1 := by decide +kernel
  obtain rfl : i = 0 := by omega
  refine ⟨by decide +kernel, ?_, by decide +kernel⟩
  have h2 : partL hrAll (12 + 16 * 0) 4 = [104, 101, 97, 100] := by decide +kernel
  rw [h2]
  intro k hk
  simp only [List.mem_cons, List.not_mem_nil, or_false] at hk
  omega
theorem hr_wrong : wrongL hrAll = [] := by
  have h1 : (g16 hrAll 4).toNat = 1 := by decide +kernel
  have h2 : rowSum hrAll (rowOf hrAll 0) = (rowOf hrAll 0).sum := by decide +kernel
  have h3 : wsum hrAll = 2981146554 := by decide +kernel
  have h4 : wrongN hrAll 1 = [] := by rw [wrongN, if_pos h2]; rfl
  rw [wrongL, h1, h4, if_neg (fun q => q.2 h3)]
  simp [sortS]
theorem hr_bytes : ∀ k ∈ hrAll, 0 ≤ k ∧ k < 256 := by
  have h : hrAll.all (fun k => decide (0 ≤ k ∧ k < 256)) = true := by decide +kernel
  intro k hk
  exact of_decide_eq_true (List.all_eq_true.mp h k hk)
section
variable {w : World} {h : Heap}
set_option maxHeartbeats 8000000 in
theorem headright_ok : Gives w 291 [] (BoolV true) 200 h := by
  (have hkf : PySem.Challenge.rw_on0235_01 = PySem.Challenge.rw_on0235_01 ∧ kheap.heap_1 = kheap.heap_1 := by k_fill; exact ⟨rfl, rfl⟩)
  clear hkf
  w_top off
  intro dp un gd fs s Q E hs AM hdp hun rt
  have KX := AM.X
  refine AM.open ?_; intro p loose mean mg mb T
  refine' enter_pure ?k1 ?k2 ?k6 ?k7 ?k8 ?k9 ?kB ?_ ?c2 ?c3 ?c4 ?c5
  (case k1 => assumption); (case k2 => assumption); (case k6 => k_is); (case k7 => k_is); (case k8 => first | exact rec_lt (by assumption) | (simp only [recursionLimit]; omega)); (case k9 => exact rfl); (case c5 => decide); (case kB => exact locs rfl); (case c2 => exact rfl); (case c3 => exact rfl); (case c4 => exact rfl)
  k_whole; intro L1 h1 tkz F1 N1; (try dsimp only); (dsimp only [List.map, List.zip, List.zipWith, List.reverse, List.reverseAux] at F1); (try k_extra "my kf")
  (try k_extra "my env")
  have hD := hr_dir
  have hL : StrOkL (wrongL hrAll) := by rw [hr_wrong]; exact strOkL_nil
  have hz : hrAll.length = 44 := by decide +kernel
  k_steps
  (with_reducible rename KBw.bInts _ = _ => e9)
  have e8 : KBw.bInts _ = hrAll := e9
  clear e9
  k_steps
  ((try k_unfold); (try dsimp only); refine rt _ _ _ (Fr.keep (by k_asm)) ?_)
  refine Eq.trans (congrArg Value.bool ?_) rfl
  exact decide_eq_true hr_wrong
end
-- X6
/-- the callee falls at every later heap -/
def FallsM (w : World) (c : Addr) (lim : Nat) (h : Heap) : Prop := FnAt c h ∧ ∀ h', h.StaysIn h' → Falls w c [] lim h'
section
variable {w : World} {E : Value → Shared → Prop} {s s' : Shared} {Bx h : Heap} {fs : List Env} {L a e : Addr} {m : Str → Option Value} {name : Str} {scope : Scope} {cd : Value} {dp un lim : Nat} {gd : Option (List Code)} {p : Program} {loose : List Str} {mean : ExcName → Option Value} {mg mb : Str → Option Value} {b₀ : Stmt} {suite : List Stmt} {pos np : Pos} {rest : List ExceptHandler} {x : Str}
theorem ff_tuple (X : (kheap.heap_1 w.params).In h) : Looks (model PySem.Challenge.rw_on0235_01.row.prog w) h (isInstance (.ref 44) (.type "tuple")) false := Looks.of_peek X (by kernel_rfl)
theorem ff_excClass (X : (kheap.heap_1 w.params).In h) : Looks (model PySem.Challenge.rw_on0235_01.row.prog w) h (isExcClass (.ref 44)) true := Looks.of_peek X (by kernel_rfl)
theorem exc_match {A : Around} {Q : Bool → Shared → Prop} {ob : Obj} {g : Array GenState} {d : Drawn} {t : Nat} {os : OsState} (X : (kheap.heap_1 w.params).In h) (he : h.get? e = some ob) (hc : ob.cls = .ref 44) (hq : Q true ⟨h, g, d, t, os⟩) :
    wpAny (model PySem.Challenge.rw_on0235_01.row.prog w) A (excMatches (.ref e) (.ref 44)) Q E ⟨h, g, d, t, os⟩ := by
  have t1 : Looks (model PySem.Challenge.rw_on0235_01.row.prog w) h (typeOf (.ref e)) (.ref 44) := by
    have := (Looks.ld (M := model PySem.Challenge.rw_on0235_01.row.prog w) (part := none) he).andThen (β := Value) (f := fun o => pure o.cls) (b := ob.cls) .now
    rw [hc] at this
    exact this
  have l2 := ff_sub_self (w := w) X
  have l3 := ff_tuple (w := w) X
  have l4 := ff_excClass (w := w) X
  unfold excMatches
  repeat (first | with_reducible refine Looks.at (by assumption) ?_ | wp_step)
  exact hq
theorem caught_FF {a0 : Value} {Q : Flow → Shared → Prop} (F : Fr Bx L h m) (up : h.UpToSlots s'.heap) (fl : Heap.FlyingW Bx (envOf name scope L a cd :: fs) e (.ref 44) a0 s'.heap)
    (X : (kheap.heap_1 w.params).In Bx) (T : Top p loose mean mg mb Bx) (ex : nsIn (kheap.heap_1 w.params) mainGlobals x = some (some (.ref 44)))
    (k : ∀ h', Fr Bx L h' m → h.UpToSlots h' →
      wpAny (model PySem.Challenge.rw_on0235_01.row.prog w) (((At dp un gd fs).deeper (envOf name scope L a cd)).mark (some (.ref e))) (execs (b₀ :: suite) (envOf name scope L a cd)) Q E { s' with heap := h' })
    (hk : scope.kind = .function := by rfl) (hx : (envOf name scope L a cd).kindOf x = some .globalImplicit := by rfl) (hd : (x == ("__debug__" : Str)) = false := by decide)
    (hE : PassesOwnAt (model PySem.Challenge.rw_on0235_01.row.prog w) (((At dp un gd fs).deeper (envOf name scope L a cd)).mark (some (.ref e))) ((At dp un gd fs).deeper (envOf name scope L a cd)) (envOf name scope L a cd) E := by passes_own) :
    wpAny (model PySem.Challenge.rw_on0235_01.row.prog w) ((At dp un gd fs).deeper (envOf name scope L a cd)) (noteFrame (.ref e) (envOf name scope L a cd))
      (fun _ s₂ => wpAny (model PySem.Challenge.rw_on0235_01.row.prog w) ((At dp un gd fs).deeper (envOf name scope L a cd)) (setFlight (.ref e) none) (fun _ s₃ =>
        wpAny (model PySem.Challenge.rw_on0235_01.row.prog w) ((At dp un gd fs).deeper (envOf name scope L a cd)) (handleBy (.ref e) (envOf name scope L a cd) (.ExceptHandler (some (.Name x np)) none (b₀ :: suite) pos :: rest)) Q E s₃) E s₂) E s' := by
  refine wpAny_looks_onW (outer := fs) rfl rfl fl fun h₄ hheld₄ hsm₄ => ?_
  refine wpAny_landsW hheld₄ fun h₅ hheld hsm₅' => ?_
  have hsm₅ := hsm₄.trans hsm₅'
  have F₅ := F.of_stays hheld.1 (up.trans hsm₅)
  obtain ⟨ob, hob, hobc⟩ := hheld.there
  refine wpAny_handleBy_cons (codeAny_handlers_test (name_K F₅ X (topRead_of T) ex ?_ hk hx hd)) (by intro q; cases q)
  refine exc_match (X.keeps F₅.keep) hob hobc (codeAny_handlers_suite ?_)
  refine lands_againW hheld fun h₆ hfl₆ hsm₆ => ?_
  exact wpAny_passesOwnAt hE (k h₆ (F.of_stays hfl₆.1 ((up.trans hsm₅).trans hsm₆)) ((up.trans hsm₅).trans hsm₆))
end
theorem word_X6_1 : True := by
  (k_with "noteFrame ref" => (k_here; (with_reducible rename Heap.FlyingW _ _ _ _ _ _ => fl'); (with_reducible rename Heap.UpToSlots _ _ => up'); k_dflt (refine' caught_FF ?zzF up' fl' ?zzX ?zzT ?zzx ?_ ?zzhk ?zzhx ?zzhd ?zzhE; (case zzF => assumption); (case zzX => k_asm); (case zzT => k_asm); (case zzx => k_is); (case zzhk => rfl); (case zzhx => rfl); (case zzhd => decide); (case zzhE => passes_own)); (clear up' fl'; intro h9 F9 up9); (first | (revert h9 F9 up9; intros) | skip)))
  trivial
section
variable {w : World} {h : Heap} {c : Addr} {lim : Nat}
set_option maxHeartbeats 8000000 in
/-- _law_fell: the callee falls, True comes back; what lies outside the frames is kept -/
theorem fell_ok (C : FallsM w c lim h) (hlim : lim ≤ 300) (dp un : Nat) (gd : Option (List Code)) (fs : List Env) (s : Shared) (Q E : Value → Shared → Prop) (Bx : Heap) (hs : s.heap = h) (AM : Amb w Bx) (hz : Bx.objs.size ≤ s.heap.objs.size) (hdp : dp + 400 ≤ 900) (hun : un + 20 * 400 ≤ 9000)
    (hbx : Bx.StaysIn s.heap) (hff : s.heap.FunFrames Bx fs)
    (rt : ∀ h' tk', Bx.StaysIn h' → s.heap.UpToSlots h' → Q (.bool true) { s with heap := h', toks := tk' }) :
    wpAny (model PySem.Challenge.rw_on0235_01.row.prog w) (At dp un gd fs) (call (.ref 269) [.ref c]) Q E s := by
  (have hkf : PySem.Challenge.rw_on0235_01 = PySem.Challenge.rw_on0235_01 ∧ kheap.heap_1 = kheap.heap_1 := by k_fill; exact ⟨rfl, rfl⟩)
  clear hkf
  w_top off
  have KX := AM.X
  refine AM.open ?_; intro p loose mean mg mb T
  refine' wpAny_call (enter_base (h₀ := Bx) hbx hz KX T ?k6 ?k7 ?k8 ?k9 ?kB ?_ ?c2 ?c3 ?c4 ?c5)
  (case k6 => k_is); (case k7 => k_is); (case k8 => first | exact rec_lt (by assumption) | (simp only [recursionLimit]; omega)); (case k9 => exact rfl); (case c5 => decide); (case kB => exact locs rfl); (case c2 => exact rfl); (case c3 => exact rfl); (case c4 => exact rfl)
  intro L1 h1 tkz hL1 hk1 F1
  have N1 : News Bx L1 h1 [] := News.nil
  (try dsimp only)
  (dsimp only [List.map, List.zip, List.zipWith, List.reverse, List.reverseAux] at F1)
  (try k_extra "my kf")
  have hfn : FnAt c h1 := let ⟨a1, a2, a3, a4, a5⟩ := C.1; ⟨a1, a2, a3, a4, hk1 _ _ (hs ▸ a5)⟩
  k_steps
  refine callWith_F0 hfn ?_
  dsimp only [List.nil_append]
  have hfr : ∀ (nm : Str) (sc : Scope) (f : Addr) (cd : Value), sc.kind = .function → h1.FunFrames Bx (envOf nm sc L1 f cd :: fs) := fun nm sc f cd hk => .cons (by show sc.kind ≠ .module; rw [hk]; decide) rfl F1.ns (new_above (fun _ _ e => e) F1) (hff.of_keeps fun b o e _ => ⟨o, hk1 b o e, rfl⟩)
  refine C.2 h1 (hs ▸ hk1) _ _ _ _ _ _ _ Bx rfl ⟨KX.keeps F1.keep, p, loose, mean, mg, mb, T.keeps F1.keep⟩ ?_ ?_ F1.keep (hfr _ _ _ _ rfl) ?_
  · k_extra "my room"
  · k_extra "my room"
  intro e9 h9 tk9 a9 fl9 up9
  (try k_unfold); (try dsimp only)
  k_steps
  (try k_unfold); (try dsimp only)
  (with_reducible rename Fr _ _ _ _ => F8); (with_reducible rename Heap.UpToSlots h1 _ => up8)
  exact rt _ _ F8.keep ((Heap.UpToSlots.of_keeps hk1).trans up8)
end
-- S1
/-- the state of the law's draws -/
def SrcO (o : Obj) : Prop := ∃ (a b : Int) (ta tb : Tok) (n : Nat), 0 ≤ b ∧ b < 2147483647 ∧ o = listOf [.int a ta, .int b tb].toArray n
def SrcOk (h : Heap) (src : Addr) : Prop := ∃ o, h.get? src = some o ∧ SrcO o
/-- a call that stores into src alone -/
def GivesS (w : World) (f : Addr) (src : Addr) (vs : List Value) (R : Heap → Value → Prop) (lim : Nat) (h : Heap) : Prop :=
  ∀ (dp un : Nat) (gd : Option (List Code)) (fs : List Env) (s : Shared) (Q E : Value → Shared → Prop) (g : Heap), s.heap = h → Amb w g → g.StaysIn s.heap → g.get? src = none → SrcOk s.heap src → dp + lim ≤ 900 → un + 20 * lim ≤ 9000 →
    (∀ v h' tk', (∀ b o, b ≠ src → s.heap.get? b = some o → h'.get? b = some o) → SrcOk h' src → R h' v → Q v { s with heap := h', toks := tk' }) →
    wpAny (model PySem.Challenge.rw_on0235_01.row.prog w) (At dp un gd fs) (call (.ref f) vs) Q E s
theorem base_src {w : World} {g h : Heap} {src : Addr} (AM : Amb w g) (hk : g.StaysIn h) (hn : g.get? src = none) :
    ∃ B, B.StaysIn h ∧ B.objs.size ≤ h.objs.size ∧ (kheap.heap_1 w.params).In B ∧ (∃ (p : Program) (loose : List Str) (mean : ExcName → Option Value) (mg mb : Str → Option Value), Top p loose mean mg mb B) ∧ B.get? src = none ∧ (∀ b o, b ≠ src → h.get? b = some o → B.get? b = some o) := by
  have hg : g.StaysIn (hideAll h [src]) := fun b o q => hideAll_get _ (hk b o q) fun hm => by
    rw [List.mem_singleton.mp hm, hn] at q; cases q
  have A' := AM.keeps hg
  exact ⟨hideAll h [src], fun b o q => of_hideAll _ q, Nat.le_of_eq (hideAll_size _ _), A'.X, A'.T, hideAll_none _ (.head _), fun b o hb q => hideAll_get _ q fun hm => hb (List.mem_singleton.mp hm)⟩
theorem news_src {B h h₁ : Heap} {src L : Addr} {o : Obj} (ho : h.get? src = some o) (hn : B.get? src = none) (hk : h.StaysIn h₁) (hL : L = h.objs.size) : News B L h₁ [(src, o)] := fun p hp => by
  obtain rfl := List.mem_singleton.mp hp
  exact ⟨hk _ _ ho, by rw [hL]; exact Nat.ne_of_lt (Heap.lt_size ho), hn⟩
theorem fin_keep {B h h' : Heap} {src L : Addr} {m : Str → Option Value} (F : Fr B L h' m) (hr : ∀ b o, b ≠ src → h.get? b = some o → B.get? b = some o) : ∀ b o, b ≠ src → h.get? b = some o → h'.get? b = some o := fun b o hb q => F.keep b o (hr b o hb q)
theorem fin_src {B h' : Heap} {src L : Addr} {o : Obj} {news : List (Addr × Obj)} (N : News B L h' news) (hm : (src, o) ∈ news) (ho : SrcO o) : SrcOk h' src := ⟨o, (N _ hm).1, ho⟩
section
variable {w : World} {E : Value → Shared → Prop} {s : Shared} {p : Program} {loose : List Str} {mean : ExcName → Option Value} {mg mb : Str → Option Value} {h₀ : Heap} {L : Addr} {m : Str → Option Value} {news : List (Addr × Obj)} {f src : Addr} {vs : List Value} {R : Heap → Value → Prop} {lim dp un : Nat} {gd : Option (List Code)} {fs : List Env} {Q : Value → Shared → Prop} {g : Obj → List (Addr × Obj)} {o : Obj}
theorem fr_but {h h' : Heap} (F : Fr h₀ L h m) (hs : ∀ b o, b ≠ src → h.get? b = some o → h'.get? b = some o) (hn : h₀.get? src = none) (hL : src ≠ L) : Fr h₀ L h' m := by
  obtain ⟨⟨oL, es, ep, ho, r⟩, k, a⟩ := F
  refine ⟨⟨oL, es, ep, hs _ _ (fun q => hL q.symm) ho, r⟩, fun b o q => hs b o (fun e => ?_) (k b o q), a⟩
  rw [e, hn] at q; cases q
theorem use_src {hp : Heap} {gn : Array GenState} {dr : Drawn} {tk0 : Nat} {os : OsState} (C : GivesS w f src vs R lim hp) (F : Fr h₀ L hp m) (N : News h₀ L hp news) (U : UpdF src o news g) (hSO : SrcO o) (X : (kheap.heap_1 w.params).In h₀) (T : Top p loose mean mg mb h₀) (hdp : dp + lim ≤ 900) (hun : un + 20 * lim ≤ 9000)
    (hQ : ∀ v o' h' tk', Fr h₀ L h' m → News h₀ L h' (g o') → SrcO o' → R h' v → Q v (Shared.mk h' gn dr tk' os)) :
    wpAny (model PySem.Challenge.rw_on0235_01.row.prog w) (At dp un gd fs) (call (.ref f) vs) Q E (Shared.mk hp gn dr tk0 os) := by
  obtain ⟨pre, post, rfl, hg, a, b⟩ := U.split
  have hm := N (src, o) (List.mem_append_right _ (.head _))
  refine C dp un gd fs (Shared.mk hp gn dr tk0 os) Q E h₀ rfl ⟨X, p, loose, mean, mg, mb, T⟩ F.keep hm.2.2 ⟨o, hm.1, hSO⟩ hdp hun fun v h' tk' k ⟨o', ho', hSO'⟩ r => ?_
  refine hQ v o' h' tk' (fr_but F k hm.2.2 hm.2.1) ?_ hSO' r
  rw [hg]
  intro p hp
  rcases List.mem_append.mp hp with hp | hp
  · have := N p (List.mem_append_left _ hp)
    exact ⟨k _ _ (a p hp) this.1, this.2⟩
  rcases List.mem_cons.mp hp with rfl | hp
  · exact ⟨ho', hm.2⟩
  · have := N p (List.mem_append_right _ (.tail _ hp))
    exact ⟨k _ _ (b p hp) this.1, this.2⟩
end
theorem small_log2 {k : Int} (h0 : 0 < k) (h1 : k ≤ 4294967296) : k.natAbs.log2 < 9000 := by
  have h2 : k.natAbs ≠ 0 := by omega
  have h3 : k.natAbs < 2 ^ 33 := by omega
  have := (Nat.log2_lt h2).mpr h3
  omega
theorem word_S1_1 : True := by
  (k_with "binaryOp FloorDiv int int" => (k_here; k_dflt (refine floordiv_int (by omega) ?_ (Or.inl (PyProof.noPylong_of_log2 (small_log2 (by omega) (by omega)))))))
  trivial
/-- a drawn number below k -/
abbrev BelowV (k : Int) : Heap → Value → Prop := fun _ v => ∃ x t, v = .int x t ∧ 0 ≤ x ∧ x < k
section
variable {w : World} {h : Heap} {src : Addr} {k : Int} {u : Tok}
set_option maxHeartbeats 4000000 in
theorem take_ok (hk : 0 < k) (hk2 : k ≤ 4294967296) : GivesS w 226 src [.ref src, .int k u] (BelowV k) 10 h := by
  (have hkf : PySem.Challenge.rw_on0235_01 = PySem.Challenge.rw_on0235_01 ∧ kheap.heap_1 = kheap.heap_1 := by k_fill; exact ⟨rfl, rfl⟩)
  clear hkf
  w_top off
  intro dp un gd fs s Q E g hs AM hgk hgn hsrc hdp hun rt
  obtain ⟨oS, hoS, hSO⟩ := hsrc
  obtain ⟨B, hBk, hBz, KX, ⟨p, loose, mean, mg, mb, T⟩, hBn, hBr⟩ := base_src AM hgk hgn
  refine' wpAny_call (enter_base (h₀ := B) hBk hBz KX T ?k6 ?k7 ?k8 ?k9 ?kB ?_ ?c2 ?c3 ?c4 ?c5)
  (case k6 => k_is); (case k7 => k_is); (case k8 => first | exact rec_lt (by assumption) | (simp only [recursionLimit]; omega)); (case k9 => exact rfl); (case c5 => decide); (case kB => exact locs rfl); (case c2 => exact rfl); (case c3 => exact rfl); (case c4 => exact rfl)
  intro L1 h1 tkz hL1 hk1 F1
  have N1 : News B L1 h1 [(src, oS)] := news_src hoS hBn hk1 hL1
  have hL1s : src ≠ L1 := (N1 _ (.head _)).2.1
  clear hoS hBn hk1 hL1
  (try dsimp only); (dsimp only [List.map, List.zip, List.zipWith, List.reverse, List.reverseAux] at F1); (try k_extra "my kf")
  (try k_extra "my env")
  obtain ⟨a, b, ta, tb, n, hb0, hb1, rfl⟩ := hSO
  k_steps
  · ((try k_unfold); (try dsimp only); refine rt _ _ _ (fin_keep (by k_asm) hBr) (fin_src (by k_asm) (by k_mem) ?_) ?_)
    · exact ⟨_, _, _, _, _, hb0, hb1, rfl⟩
    · exact ⟨_, _, rfl, fmod_lo _ hk, fmod_hi _ hk⟩
  · ((try k_unfold); (try dsimp only); refine rt _ _ _ (fin_keep (by k_asm) hBr) (fin_src (by k_asm) (by k_mem) ?_) ?_)
    · exact ⟨_, _, _, _, _, fmod_lo _ (by decide), fmod_hi _ (by decide), rfl⟩
    · exact ⟨_, _, rfl, fmod_lo _ hk, fmod_hi _ hk⟩
end
-- S2
theorem pow32e : (2 : Int) ^ Int.toNat 32 = 4294967296 := by decide +kernel
theorem word_S2_1 : True := by
  (k_with "call ref" => (k_here; (with_reducible show wpAny _ _ (call (Value.ref 226) _) _ _ _); k_dflt (refine' use_src (take_ok ?zzhk ?zzhk2) ?zzF ?zzN ?zzU ?zzS ?zzX ?zzT ?zzhd ?zzhu ?_; (case zzhk => (first | decide +kernel | omega | k_extra "my size")); (case zzhk2 => (first | decide +kernel | omega | k_extra "my size")); (case zzF => k_asm); (case zzN => k_asm); (case zzU => k_updF); (case zzS => assumption); (case zzX => k_asm); (case zzT => k_asm); (case zzhd => k_extra "my room"); (case zzhu => k_extra "my room")); intro v9 oS9 h9 tk9 F9 N9 SO9 r9; obtain ⟨x9, t9, e9, lo9, hi9⟩ := r9; subst e9; (try simp only [List.size_toArray] at hi9); (try rw [pow32e] at hi9); (try dsimp only at N9); (first | (revert oS9 h9 tk9 F9 N9 SO9 x9 t9 lo9 hi9; intros) | skip)))
  trivial
theorem item_any {prog : Program} {w : World} {A : Around} {E : Value → Shared → Prop} {s : Shared} {value slice : PySem.Expr} {l : Addr} {vs : List Value} {k : Int} {u : Tok} {Q : Value → Shared → Prop}
    (hl : s.heap.IsList l vs.toArray) (h0 : 0 ≤ k) (h1 : k < vs.length) (h2 : vs.length ≤ 1000) (h : ∀ v, v ∈ vs → Q v s)
    (hs : subscripted slice false (.ref l) (.int k u) = operate [.ref l, .int k u] (getItem (.ref l) (.int k u)) := by with_unfolding_all rfl) :
    wpAny (model prog w) A (subscriptTail value slice (.ref l) (.int k u)) Q E s := by
  have e : vs[k.toNat]? = some (vs[k.toNat]'(by omega)) := List.getElem?_eq_getElem (by omega)
  exact tail_any hl.typeIs slot_list_getitem.lookup (wpAny_getItem_list hl h0 (by omega) (by simpa using e) (h _ (List.mem_of_getElem? e))) hs
theorem word_S2_2 : True := by
  (k_with "call builtin:len" => (k_here; (with_reducible show wpAny _ _ (call (Value.builtin "len") [Value.ref _]) _ _ _); k_dflt (refine' len_list (items := List.toArray _) ?zza ?zzb ?_; (case zza => is_list); (case zzb => (simp only [List.size_toArray]; omega)))))
  trivial
theorem word_S2_3 : True := by
  (k_with "subscriptTail" => (k_here; (with_reducible show wpAny _ _ (subscriptTail _ _ (Value.ref _) (Value.int _ _)) _ _ _); k_dflt (refine' item_any ?zza ?zzb ?zzc ?zzd ?_ ?zze; (case zza => is_list); (case zzb => omega); (case zzc => (simp only [List.size_toArray] at *; omega)); (case zzd => omega); (case zze => with_unfolding_all rfl)); intro v9 vm9; (first | (revert v9 vm9; intros) | skip)))
  trivial
section
variable {w : World} {h : Heap} {src th : Addr} {vs : List Value} {n : Nat}
set_option maxHeartbeats 4000000 in
theorem one_ok (hth : h.get? th = some (listOf vs.toArray n)) (hne : th ≠ src) (hz : vs.length ≤ 100) (hz0 : 0 < vs.length) : GivesS w 233 src [.ref src, .ref th] (fun _ v => v ∈ vs) 20 h := by
  (have hkf : PySem.Challenge.rw_on0235_01 = PySem.Challenge.rw_on0235_01 ∧ kheap.heap_1 = kheap.heap_1 := by k_fill; exact ⟨rfl, rfl⟩)
  clear hkf
  w_top off
  intro dp un gd fs s Q E g hs AM hgk hgn hsrc hdp hun rt
  obtain ⟨oS, hoS, hSO⟩ := hsrc
  obtain ⟨B, hBk, hBz, KX, ⟨p, loose, mean, mg, mb, T⟩, hBn, hBr⟩ := base_src AM hgk hgn
  refine' wpAny_call (enter_base (h₀ := B) hBk hBz KX T ?k6 ?k7 ?k8 ?k9 ?kB ?_ ?c2 ?c3 ?c4 ?c5)
  (case k6 => k_is); (case k7 => k_is); (case k8 => first | exact rec_lt (by assumption) | (simp only [recursionLimit]; omega)); (case k9 => exact rfl); (case c5 => decide); (case kB => exact locs rfl); (case c2 => exact rfl); (case c3 => exact rfl); (case c4 => exact rfl)
  intro L1 h1 tkz hL1 hk1 F1
  have N1 : News B L1 h1 [(src, oS)] := news_src hoS hBn hk1 hL1
  have hL1s : src ≠ L1 := (N1 _ (.head _)).2.1
  clear hoS hBn hk1 hL1
  (try dsimp only); (dsimp only [List.map, List.zip, List.zipWith, List.reverse, List.reverseAux] at F1); (try k_extra "my kf")
  (try k_extra "my env")
  have hBl : B.IsList th vs.toArray := ⟨_, hBr _ _ hne (hs ▸ hth), rfl, n, rfl⟩
  k_steps
  ((try k_unfold); (try dsimp only); refine rt _ _ _ (fin_keep (by k_asm) hBr) (fin_src (by k_asm) (by k_mem) ?_) ?_)
  · assumption
  · assumption
end
-- X7
theorem frames_onE {Bx h₀ h : Heap} {fs : List Env} {L : Addr} {m : Str → Option Value} {env : Env} (hb : Bx.StaysIn h₀) (hf : h.FunFrames Bx fs) (F : Fr h₀ L h m) (he : env.frame = some L) (hk : env.scope.kind = .function) : h.FunFrames Bx (env :: fs) :=
  .cons (by rw [hk]; decide) he F.ns (new_above hb F) hf
theorem base_front {w : World} {g h : Heap} (front : List (Addr × Obj)) (AM : Amb w g) (hk : g.StaysIn h) (hn : ∀ p ∈ front, g.get? p.1 = none) :
    ∃ B, B.StaysIn h ∧ B.objs.size ≤ h.objs.size ∧ (kheap.heap_1 w.params).In B ∧ (∃ (p : Program) (loose : List Str) (mean : ExcName → Option Value) (mg mb : Str → Option Value), Top p loose mean mg mb B) ∧ (∀ p ∈ front, B.get? p.1 = none) ∧ (∀ b o, (∀ p ∈ front, b ≠ p.1) → h.get? b = some o → B.get? b = some o) := by
  have hg : g.StaysIn (hideAll h (front.map (·.1))) := fun b o q => hideAll_get _ (hk b o q) fun hm => by
    obtain ⟨p, hp, rfl⟩ := List.mem_map.mp hm
    rw [hn p hp] at q; cases q
  have A' := AM.keeps hg
  exact ⟨hideAll h (front.map (·.1)), fun b o q => of_hideAll _ q, Nat.le_of_eq (hideAll_size _ _), A'.X, A'.T, fun p hp => hideAll_none _ (List.mem_map_of_mem hp), fun b o hb q => hideAll_get _ q fun hm => by
    obtain ⟨p, hp, rfl⟩ := List.mem_map.mp hm
    exact hb p hp rfl⟩
theorem news_front {B h h₁ : Heap} {L : Addr} {front : List (Addr × Obj)} (hf : ∀ p ∈ front, h.get? p.1 = some p.2) (hn : ∀ p ∈ front, B.get? p.1 = none) (hk : h.StaysIn h₁) (hL : L = h.objs.size) : News B L h₁ front := fun p hp =>
  ⟨hk _ _ (hf p hp), by rw [hL]; exact Nat.ne_of_lt (Heap.lt_size (hf p hp)), hn p hp⟩
/-- all of h is kept, if the front stands in the ledger unchanged -/
theorem all_kept {B h h' : Heap} {L : Addr} {m : Str → Option Value} {front news : List (Addr × Obj)} (hf : ∀ p ∈ front, h.get? p.1 = some p.2) (hr : ∀ b o, (∀ p ∈ front, b ≠ p.1) → h.get? b = some o → B.get? b = some o) (F : Fr B L h' m) (N : News B L h' news) (hs : ∀ p ∈ front, p ∈ news) : h.StaysIn h' := fun b o q => by
  by_cases hb : ∀ p ∈ front, b ≠ p.1
  · exact F.keep b o (hr b o hb q)
  · simp only [Classical.not_forall, Decidable.not_not] at hb
    obtain ⟨p, hp, rfl⟩ := hb
    have e := hf p hp
    rw [q] at e
    rw [Option.some.inj e]
    exact (N p (hs p hp)).1
section
variable {prog : Program} {w : World} {A : Around} {s : Shared} {E : Value → Shared → Prop} {h₀ : Heap}
/-- enter a lambda; base: a part of the heap -/
theorem enter_lam {name qual : Str} {params : Arguments} {body : Expr} {scope : Scope} {cl : List (Str × Addr)} {pm ctv : Value} {c' : Addr} {f : Addr} {vs : List Value} {binds : List (Str × Value)} {Q : Value → Shared → Prop}
    (hk0 : h₀.StaysIn s.heap) (hz : h₀.objs.size ≤ s.heap.objs.size) (hnl : s.heap.NoLimit) (ho : s.heap.get? f = some (kla_obj name qual params body scope cl pm c' ctv)) (hcd : s.heap.CodeRec (.ref c') qual) (hroom : A.depth < recursionLimit)
    (hbind : bindArgs (kla_fn name qual params body scope cl pm (.ref c') ctv) ⟨vs, []⟩ = pure binds) (hloc : ∀ y ∈ binds, scope.names.lookup y.1 = some .local)
    (h : ∀ L h₁, L = s.heap.objs.size → s.heap.StaysIn h₁ → Fr h₀ L h₁ (fun y => binds.reverse.lookup y) →
      wpAny (model prog w) (A.deeper (envX qual scope L f (.ref c') cl)) (eval body (envX qual scope L f (.ref c') cl)) Q
        (fun e s' => wpAny (model prog w) (A.deeper (envX qual scope L f (.ref c') cl)) (leaving (envX qual scope L f (.ref c') cl) e) (fun _ s'' => E e s'') (fun e' s'' => E e' s'') s')
        { s with heap := h₁, toks := s.toks + binds.length })
    (hco : scope.isCoroutine = false) (hgen : scope.isGenerator = false) (hk : scope.kind = .function) (hcell : ∀ x ∈ scope.names, x.2 ≠ .cell) : wpAny (model prog w) A (call (.ref f) vs) Q E s := by
  refine wpAny_call (kla_callFunE hroom ho rfl hco hgen rfl hcd ?_)
  rw [hbind]
  refine wpAny_pure (wpAny_newFunctionEnv hcell hloc (fun h₁ hns hsb => ⟨hnl.fresh _ hsb, ?_⟩) hk)
  show codeAny _ _ (.expr body (envX qual scope s.heap.objs.size f (.ref c') cl)) _ _
  have hk₁ : ∀ b o, s.heap.get? b = some o → h₁.get? b = some o := fun b o e => hsb.extBut b o (Nat.ne_of_lt (Heap.lt_size e)) (Heap.get?_push_of_some _ e)
  exact kla_codeExpr (h s.heap.objs.size h₁ rfl hk₁ ⟨hns, fun b o e => hk₁ b o (hk0 b o e), hz⟩)
end
section
variable {w : World} {E : Value → Shared → Prop} {s s' : Shared} {Bx h₀ h₁ h : Heap} {fs : List Env} {L e : Addr} {m : Str → Option Value} {env : Env} {dp un lim : Nat} {gd : Option (List Code)} {f : Addr} {vs : List Value} {p : Program} {loose : List Str} {mean : ExcName → Option Value} {mg mb : Str → Option Value}
theorem use_fallsE {hp : Heap} {gn : Array GenState} {dr : Drawn} {tk0 : Nat} {os : OsState} {Q : Value → Shared → Prop} (C : Falls w f vs lim hp) (F : Fr h₀ L hp m) (X : (kheap.heap_1 w.params).In h₀) (T : Top p loose mean mg mb h₀) (hb : Bx.StaysIn hp) (hf : hp.FunFrames Bx (env :: fs)) (hdp : dp + 1 + lim ≤ 900) (hun : un + 3 + 20 * lim ≤ 9000)
    (hE : ∀ e h' tk' a0, Heap.FlyingW Bx (env :: fs) e (.ref 44) a0 h' → hp.UpToSlots h' → E (.ref e) (Shared.mk h' gn dr tk' os)) :
    wpAny (model PySem.Challenge.rw_on0235_01.row.prog w) ((At dp un gd fs).deeper env) (call (.ref f) vs) Q E (Shared.mk hp gn dr tk0 os) :=
  C _ _ _ (env :: fs) (Shared.mk hp gn dr tk0 os) Q E Bx rfl (amb_of (s := Shared.mk hp gn dr tk0 os) F X T) hdp hun hb hf hE
theorem leave_onE {M : Model} {cls a0 : Value} {Q : Unit → Shared → Prop} (hfr : env.frame = some L) (fl : Heap.FlyingW Bx (env :: fs) e cls a0 s'.heap) (up : h.UpToSlots s'.heap) (hall : h₁.StaysIn h)
    (hQ : ∀ h', Heap.FlyingW Bx fs e cls a0 h' → h₁.UpToSlots h' → Q () { s' with heap := h' }) :
    wpAny M ((At dp un gd fs).deeper env) (leaving env (.ref e)) Q E s' :=
  wpAny_leaves_onW (outer := fs) rfl hfr fl fun h' x1 x2 => hQ h' x1 ((Heap.UpToSlots.of_keeps hall).trans (up.trans x2))
end
section
variable {w : World} {E : Value → Shared → Prop} {s : Shared} {h₀ : Heap} {L Lf c : Addr} {m : Str → Option Value} {env fr : Env} {dp un lim : Nat} {gd : Option (List Code)} {p : Program} {loose : List Str} {mean : ExcName → Option Value} {mg mb : Str → Option Value} {news : List (Addr × Obj)} {g : Obj → List (Addr × Obj)} {oF : Obj}
/-- _law_fell within a def that law called -/
theorem use_fell {Q : Value → Shared → Prop} (C : FallsM w c lim s.heap) (hlim : lim ≤ 300) (F : Fr h₀ L s.heap m) (N : News h₀ L s.heap news) (U : UpdF Lf oF news g) (hoF : ∀ vs, oF.data ≠ .fields vs) (X : (kheap.heap_1 w.params).In h₀) (T : Top p loose mean mg mb h₀)
    (he : env.frame = some L) (hk : env.scope.kind = .function) (hfr : fr.frame = some Lf) (hfk : fr.scope.kind = .function) (hdp : dp + 1 + 400 ≤ 900) (hun : un + 3 + 20 * 400 ≤ 9000)
    (hQ : ∀ sl h' tk', Fr h₀ L h' m → News h₀ L h' (g { oF with slots := sl }) → Q (.bool true) { s with heap := h', toks := tk' }) :
    wpAny (model PySem.Challenge.rw_on0235_01.row.prog w) ((At dp un gd [fr]).deeper env) (call (.ref 269) [.ref c]) Q E s := by
  obtain ⟨pre, post, rfl, hg, a, b⟩ := U.split
  have hm := N (Lf, oF) (List.mem_append_right _ (.head _))
  have hL0 : h₀.get? L = none := new_above (fun _ _ e => e) F
  obtain ⟨oL, es, ep, hoL, hdL, hrL⟩ := id F.ns
  obtain ⟨B, hBk, hBz, BX, BT, hBn, hBr⟩ := base_front [(L, oL), (Lf, oF)] ⟨X, p, loose, mean, mg, mb, T⟩ F.keep (by
    intro q hq
    rcases List.mem_cons.mp hq with rfl | hq
    · exact hL0
    · obtain rfl := List.mem_singleton.mp hq
      exact hm.2.2)
  have hFF : s.heap.FunFrames B [env, fr] := ⟨by rw [hk]; decide, ⟨L, oL, he, hBn (L, oL) (.head _), hoL, fun vs q => by rw [hdL] at q; cases q⟩, by rw [hfk]; decide, ⟨Lf, oF, hfr, hBn (Lf, oF) (.tail _ (.head _)), hm.1, hoF⟩, trivial⟩
  refine fell_ok C hlim _ _ _ [env, fr] s Q E B rfl ⟨BX, BT⟩ hBz hdp hun hBk hFF fun h' tk' k up => ?_
  have hkeep : ∀ b o, b ≠ L → b ≠ Lf → s.heap.get? b = some o → h'.get? b = some o := fun b o h1 h2 q => k b o (hBr b o (by
    intro p hp
    rcases List.mem_cons.mp hp with rfl | hp
    · exact h1
    · obtain rfl := List.mem_singleton.mp hp
      exact h2) q)
  obtain ⟨sl, hsl⟩ := up Lf oF hm.1 hoF
  have hst : h₀.StaysIn h' := fun b o q => hkeep b o (fun e => by rw [e, hL0] at q; cases q) (fun e => by rw [e, hm.2.2] at q; cases q) (F.keep b o q)
  refine hQ sl h' tk' (F.of_stays hst up) ?_
  rw [hg]
  intro p hp
  rcases List.mem_append.mp hp with hp | hp
  · have n := N p (List.mem_append_left _ hp)
    exact ⟨hkeep _ _ n.2.1 (a p hp) n.1, n.2⟩
  rcases List.mem_cons.mp hp with rfl | hp
  · exact ⟨hsl, hm.2⟩
  · have n := N p (List.mem_append_right _ (.tail _ hp))
    exact ⟨hkeep _ _ n.2.1 (b p hp) n.1, n.2⟩
end
section
variable {w : World} {s : Shared} {h₀ : Heap} {L : Addr} {m : Str → Option Value} {lim : Nat} {p : Program} {loose : List Str} {mean : ExcName → Option Value} {mg mb : Str → Option Value} {news : List (Addr × Obj)}
/-- a lambda whose body falls, falls; its walk is a goal of its own -/
theorem lam_falls {name qual : Str} {params : Arguments} {body : Expr} {scope : Scope} {cl : List (Str × Addr)} {pm ctv : Value} {c' f : Addr} (F : Fr h₀ L s.heap m) (N : News h₀ L s.heap news) (X : (kheap.heap_1 w.params).In h₀) (T : Top p loose mean mg mb h₀)
    (ho : (f, kla_obj name qual params body scope cl pm c' ctv) ∈ news) (hcd : s.heap.CodeRec (.ref c') qual) (hbind : bindArgs (kla_fn name qual params body scope cl pm (.ref c') ctv) ⟨[], []⟩ = pure [])
    (hco : scope.isCoroutine = false) (hgen : scope.isGenerator = false) (hk : scope.kind = .function) (hcell : ∀ x ∈ scope.names, x.2 ≠ .cell) (hlim : 0 < lim)
    (hw : ∀ (dp un : Nat) (gd : Option (List Code)) (fs : List Env) (s' : Shared) (Q E : Value → Shared → Prop) (Bx B : Heap) (L' : Addr) (p : Program) (loose : List Str) (mean : ExcName → Option Value) (mg mb : Str → Option Value), (kheap.heap_1 w.params).In B → Top p loose mean mg mb B →
      Fr B L' s'.heap (fun y => ([] : List (Str × Value)).lookup y) → News B L' s'.heap news → Bx.StaysIn s'.heap → s'.heap.FunFrames Bx (envX qual scope L' f (.ref c') cl :: fs) → dp + lim ≤ 900 → un + 20 * lim ≤ 9000 →
      (∀ e h' tk' a0, Heap.FlyingW Bx (envX qual scope L' f (.ref c') cl :: fs) e (.ref 44) a0 h' → s'.heap.UpToSlots h' → E (.ref e) { s' with heap := h', toks := tk' }) →
      wpAny (model PySem.Challenge.rw_on0235_01.row.prog w) ((At dp un gd fs).deeper (envX qual scope L' f (.ref c') cl)) (eval body (envX qual scope L' f (.ref c') cl)) Q E s') : FallsM w f lim s.heap := by
  refine ⟨FnAt.of N ho, fun hh hkk => ?_⟩
  intro dp un gd fs s' Q E Bx hs AM hdp hun hbx hff rt
  subst hs
  have hfr : ∀ p ∈ news, s'.heap.get? p.1 = some p.2 := fun p hp => hkk _ _ (N p hp).1
  obtain ⟨B, hBk, hBz, BX, ⟨p', loose', mean', mg', mb', BT⟩, hBn, hBr⟩ := base_front news ⟨X, p, loose, mean, mg, mb, T⟩ (fun b o q => hkk b o (F.keep b o q)) (fun p hp => (N p hp).2.2)
  obtain ⟨cc, oc, vs, tq, e1, e2, e3, e4⟩ := hcd
  refine enter_lam (h₀ := B) hBk hBz (BT.nolimit.keeps hBk) (hfr _ ho) ⟨cc, oc, vs, tq, e1, hkk _ _ e2, e3, e4⟩ (by simp only [recursionLimit]; omega) hbind (fun _ h => nomatch h) (fun L' h₁ hL' hk₁ F₁ => ?_) hco hgen hk hcell
  have N₁ : News B L' h₁ news := news_front hfr hBn hk₁ hL'
  refine hw dp un gd fs ⟨h₁, _, _, _, _⟩ _ _ Bx B L' p' loose' mean' mg' mb' BX BT F₁ N₁ (fun b o q => hk₁ b o (hbx b o q)) (.cons (by show scope.kind ≠ .module; rw [hk]; decide) rfl F₁.ns (by
    cases q : Bx.get? L' with
    | none => rfl
    | some o => exact absurd (Heap.lt_size (hbx _ _ q)) (by rw [hL']; exact Nat.lt_irrefl _)) (hff.of_keeps fun b o q _ => ⟨o, hk₁ b o q, rfl⟩)) hdp hun fun e h' tk' a0 fl up => ?_
  exact leave_onE (env := envX qual scope L' f (.ref c') cl) rfl fl up hk₁ fun h'' fl' up' => rt e h'' _ a0 fl' up'
end
-- R7
def CompSrcS (prog : Program) (w : World) (A : Around) (h₀ : Heap) (L : Addr) (m : Str → Option Value) (env : Env) (elt : Expr) (x : Str) (scope : Scope) (cl : List (Str × Addr)) (Fin : Shared → List Value → List (Addr × Obj) → Prop) (xv : Value) (s₁ : Shared) : Prop :=
  ∃ z t news, xv = .str z t ∧ A.handled = none ∧ Fr h₀ L s₁.heap m ∧ News h₀ L s₁.heap news ∧ z.cps.size ≤ sizeLine ∧
    ∀ g : Heap, LCg.CompRest prog w A h₀ L m env elt x scope cl { s₁ with heap := g } (fun _ => True) (SignAt z) (Fin { s₁ with heap := g }) z.cps.size 0 [] news
section
variable {prog : Program} {w : World} {A : Around} {E : Value → Shared → Prop} {s : Shared} {h₀ : Heap} {L : Addr} {m : Str → Option Value} {env : Env}
theorem str_st {kind : String} {z : Str} {t : Tok} {I : Addr} : ∀ i (h h' : Heap) (o : Obj) (nw : List (Addr × Obj)), h.IsStrIter I kind z t i → h.get? I = some o → h'.get? I = some o → (∀ b o, h₀.get? b = some o → h'.get? b = some o) → News h₀ L h' nw → True → h'.IsStrIter I kind z t i :=
  fun i h h' o nw st e e' _ _ _ => by obtain ⟨o', q, r⟩ := st; rw [e] at q; cases q; exact ⟨o, e', r⟩
theorem CompSrcS.mk' {elt : Expr} {x : Str} {scope : Scope} {cl : List (Str × Addr)} {Fin : Shared → List Value → List (Addr × Obj) → Prop} {z : Str} {t : Tok} {news : List (Addr × Obj)} {s₁ : Shared}
    (hh : A.handled = none) (F : Fr h₀ L s₁.heap m) (N : News h₀ L s₁.heap news) (hsz : z.cps.size ≤ sizeLine)
    (h : ∀ g, LCg.CompRest prog w A h₀ L m env elt x scope cl { s₁ with heap := g } (fun _ => True) (SignAt z) (Fin { s₁ with heap := g }) z.cps.size 0 [] news) :
    CompSrcS prog w A h₀ L m env elt x scope cl Fin (.str z t) s₁ := ⟨z, t, news, rfl, hh, F, N, hsz, h⟩
theorem ListComp_S {elt iter : Expr} {x : Str} {px : Pos} {scope : Scope} {cl : List (Str × Addr)} {pos : Pos} {Q : Value → Shared → Prop} (F₀ : Fr h₀ L s.heap m)
    (hclos : closureFor scope env = pure cl) (hcell : ∀ y ∈ scope.names, y.2 ≠ .cell) (hkind : scope.kind = .function)
    (hnames : ∀ y ∈ scope.names, y.2 = .local → scope.names.lookup y.1 = some .local) (hx : scope.names.lookup x = some .local)
    (h : wpAny (model prog w) A (eval iter env) (CompSrcS prog w A h₀ L m env elt x scope cl (fun s₂ => LCg.FinE h₀ L m s₂ Q)) E s)
    (hs : ∀ x, foldedSetIterable iter env x = pure x := by intro _; rfl) :
    wpAny (model prog w) A (eval (.ListComp elt [⟨.Name x px, iter, [], 0⟩] scope pos) env) Q E s := by
  rw [eval_ListComp]
  refine wpAny_comprehension_free (use := none) rfl hs hclos hkind hnames (wpAny_mono h (fun xv s₁ h₁ => ?_) fun _ _ e => e)
  obtain ⟨z, t, news, rfl, hh, F, N, hsz, R⟩ := h₁
  have fin : ∀ (kind : String) (W : Walks prog w A s₁.heap.objs.size [s₁.heap.objs.size] [s₁.heap.objs.size] z.cps.size (SignAt z) (fun i h => h.IsStrIter s₁.heap.objs.size kind z t i)) (o : Obj), (s₁.heap.push o).IsStrIter s₁.heap.objs.size kind z t 0 → wpAny (model prog w) A (newList []) (fun acc s₃ => wpAny (model prog w) A (newFunctionEnv scope env.globals cl [] env.qual none .none (some env)) (fun cenv s₄ =>
      codeAny (model prog w) A (.compStart (.ListComp elt [⟨.Name x px, iter, [], 0⟩] scope pos) 0 (.ref s₁.heap.objs.size) acc { cenv with scope := relabel scope env }) (compPost (model prog w) A E none Q acc cenv.locals) s₄) E s₃) E { s₁ with heap := s₁.heap.push o } := by
    intro kind W o st
    refine LCg.block_U W hsz (fun i h st => by obtain ⟨o, e, _⟩ := st; exact ⟨o, e⟩) str_st hcell hkind hx st (fun b hb => ?_)
      (F.keeps fun _ _ e => Heap.get?_push_of_some _ e) (N.grown fun _ _ e => Heap.get?_push_of_some _ e) (Nat.ne_of_lt F.ns.lt) (next_is_new F) (fun p hp => Nat.ne_of_lt (Heap.lt_size (N p hp).1)) trivial (R _) ?_
    · rw [List.mem_singleton.mp hb]
      show s₁.heap.objs.size < (s₁.heap.push _).objs.size
      rw [Heap.size_push]; exact Nat.lt_succ_self _
    · intro D C h tk m' ys news' F' N' o1 hn hC₀ hD₀ hCL hDL hCD offC fin
      refine ⟨m', hn, fun h'' hs'' => fin D h'' tk (F'.change hs'' hCL hC₀) (fun p hp => ?_) o1⟩
      refine ⟨hs''.extBut _ _ ?_ (N' p hp).1, (N' p hp).2⟩
      rcases List.mem_cons.mp hp with rfl | hp
      · exact Ne.symm hCD
      · exact offC p hp
  cases ha : z.cps.all (· < 128)
  · exact wpAny_pyIter_wide ha (fin "str_iterator" (Walks.strWide hh _ z t) _ ⟨_, Heap.get?_push_size _ rfl, rfl, rfl⟩)
  · exact wpAny_pyIter_ascii ha (fin "str_ascii_iterator" (Walks.strAscii hh _ z t) _ ⟨_, Heap.get?_push_size _ rfl, rfl, rfl⟩)
end
/-- letters as numbers -/
def ordL (x : Str) : List Int := x.cps.toList.map Int.ofNat
section
variable {prog : Program} {w : World} {A : Around} {s : Shared} {h₀ : Heap} {L : Addr} {m : Str → Option Value} {env : Env}
theorem ord_turns {elt : Expr} {x : Str} {scope : Scope} {cl : List (Str × Addr)} {Fin : List Value → List (Addr × Obj) → Prop} {z : Str} {news₀ : List (Addr × Obj)}
    (turn : ∀ i ys c u I oI C oC D m₂ h tk (E' : Value → Shared → Prop), z.cps[i]? = some c → IntsAre ys ((ordL z).take i) → LCg.NsObj oC m₂ → m₂ x = some (.str ⟨#[c]⟩ u) → Fr h₀ L h m → News h₀ L h ((I, oI) :: (C, oC) :: (D, LCg.lst ys) :: news₀) → LCg.Off3 I C D news₀ → ((@Ne Nat I C) ∧ (@Ne Nat I D) ∧ (@Ne Nat C D)) →
      wpAny (model prog w) A (eval elt (compEnvC scope cl C env)) (LCg.CompEnd h₀ L m { s with heap := h, toks := tk } I oI C oC D (LCg.lst ys) (fun _ => True) (fun y news' => news' = news₀ ∧ IntsAre (ys ++ [y]) ((ordL z).take (i + 1)))) E' { s with heap := h, toks := tk })
    (fin : ∀ ys, IntsAre ys (ordL z) → Fin ys news₀) : LCg.CompRest prog w A h₀ L m env elt x scope cl s (fun _ => True) (SignAt z) Fin z.cps.size 0 [] news₀ := by
  refine comp_ind (fun i ys news => news = news₀ ∧ IntsAre ys ((ordL z).take i)) ?_ ?_ _ 0 [] _ (Nat.zero_add _) ⟨rfl, .nil⟩
  · rintro i ys news v I oI C oC D m₂ h tk E' hi ⟨rfl, hI⟩ ⟨c, u, hc, rfl⟩ hC hx F N off ne
    exact turn i ys c u I oI C oC D m₂ h tk E' hc hI hC hx F N off ne
  · rintro ys news ⟨rfl, hI⟩
    refine fin ys ?_
    have e : (ordL z).take z.cps.size = ordL z := List.take_of_length_le (by simp [ordL])
    rw [e] at hI; exact hI
theorem ordL_size {z : Str} (h : (ordL z).length ≤ 16777216) : z.cps.size ≤ sizeLine := by
  rw [sizeLine_eq]; simpa [ordL] using h
theorem ints_snoc : ∀ {vs : List Value} {ns : List Int} {k : Int} {t : Tok}, IntsAre vs ns → IntsAre (vs ++ [.int k t]) (ns ++ [k])
  | _, _, _, _, .nil => .cons _ _ .nil
  | _, _, _, _, .cons a b r => .cons a b (ints_snoc r)
theorem ordL_take {z : Str} {i c : Nat} (h : z.cps[i]? = some c) : (ordL z).take (i + 1) = (ordL z).take i ++ [(c : Int)] := by
  have e : (ordL z)[i]? = some (c : Int) := by
    unfold ordL
    rw [List.getElem?_map, Array.getElem?_toList, h]; rfl
  rw [List.take_add_one, e]; rfl
end
/-- [ord(sign) for sign in tag]: the looks of it are asked by the rule -/
theorem word_R7_1 : True := by
  (k_with "eval ListComp" => (k_here; (with_reducible show wpAny _ _ (eval (Expr.ListComp (Expr.Call (Expr.Name _ _) [Expr.Name _ _] [] _) [_] _ _) _) _ _ _); k_dflt (refine ListComp_S (F₀ := by k_asm) (by with_unfolding_all rfl) (by decide) (by rfl) (by decide) (by rfl) ?_)))
  trivial
theorem word_R7_2 : True := by
  (k_with "CompSrcS" => ((with_reducible show CompSrcS _ _ _ _ _ _ _ _ _ _ _ _ _ _); refine StopLoop.mk ?_))
  trivial
theorem word_R7_3 : True := by
  (k_with "call type:bytes" => (k_here; (with_reducible show wpAny _ _ (call (Value.type "bytes") [Value.ref _]) _ _ _); k_dflt (refine' KBa.make_K ?zzF ?zzN ?zzh ?zzl ?zzi ?zzr ?zzn ?_; (case zzF => k_asm); (case zzN => k_asm); (case zzh => rfl); (case zzl => is_list); (case zzi => assumption); (case zzr => assumption); (case zzn => assumption)); intro h9 t9 k9 F9 N9 kbaIn; (first | (revert h9 t9 k9 F9 N9 kbaIn; intros) | skip)))
  trivial
section
variable {w : World} {h : Heap} {u : Tok} {x : Str}
set_option maxHeartbeats 4000000 in
theorem tagoct_ok (hx : x.length ≤ 4) (hne : (x == Str.ofString "") = false) (hin : KBa.In (ordL (x ++ Txt.mul (Str.ofString " ") (4 - (x.length : Int))))) (hl : (ordL (x ++ Txt.mul (Str.ofString " ") (4 - (x.length : Int)))).length ≤ 16777216) :
    Gives w 114 [.str x u] (BytesV (ordL (x ++ Txt.mul (Str.ofString " ") (4 - (x.length : Int))))) 20 h := by
  (have hkf : PySem.Challenge.rw_on0235_01 = PySem.Challenge.rw_on0235_01 ∧ kheap.heap_1 = kheap.heap_1 := by k_fill; exact ⟨rfl, rfl⟩)
  clear hkf
  w_top off
  intro dp un gd fs s Q E hs AM hdp hun rt
  have KX := AM.X
  refine AM.open ?_; intro p loose mean mg mb T
  refine' enter_pure ?k1 ?k2 ?k6 ?k7 ?k8 ?k9 ?kB ?_ ?c2 ?c3 ?c4 ?c5
  (case k1 => assumption); (case k2 => assumption); (case k6 => k_is); (case k7 => k_is); (case k8 => first | exact rec_lt (by assumption) | (simp only [recursionLimit]; omega)); (case k9 => exact rfl); (case c5 => decide); (case kB => exact locs rfl); (case c2 => exact rfl); (case c3 => exact rfl); (case c4 => exact rfl)
  k_whole; intro L1 h1 tkz F1 N1; (try dsimp only); (dsimp only [List.map, List.zip, List.zipWith, List.reverse, List.reverseAux] at F1); (try k_extra "my kf")
  (try k_extra "my env")
  k_steps
  unfold StopLoop
  refine CompSrcS.mk' rfl (by k_asm) (by k_asm) (ordL_size hl) fun g' => ?_
  refine ord_turns ?_ ?_
  · intro i ys c u I oI C oC D m₂ h tk E' hc hI hC hx F N off ne
    k_steps
    rw [ordL_take hc]; exact ints_snoc hI
  · intro ys hI D h tk F N off
    k_steps
    ((try k_unfold); (try dsimp only); refine rt _ _ _ (Fr.keep (by k_asm)) ?_)
    exact ⟨_, _, rfl, KBa.ints_make hin⟩
theorem tagoct_f1 : Falls w 114 [.str (Str.ofString "") u] 20 h := by
  (have hkf : PySem.Challenge.rw_on0235_01 = PySem.Challenge.rw_on0235_01 ∧ kheap.heap_1 = kheap.heap_1 := by k_fill; exact ⟨rfl, rfl⟩)
  clear hkf
  w_top off
  intro dp un gd fs s Q E Bx hs AM hdp hun hbx hff rt
  have KX := AM.X
  refine AM.open ?_; intro p loose mean mg mb T
  refine' enter_pure ?k1 ?k2 ?k6 ?k7 ?k8 ?k9 ?kB ?_ ?c2 ?c3 ?c4 ?c5
  (case k1 => assumption); (case k2 => assumption); (case k6 => k_is); (case k7 => k_is); (case k8 => first | exact rec_lt (by assumption) | (simp only [recursionLimit]; omega)); (case k9 => exact rfl); (case c5 => decide); (case kB => exact locs rfl); (case c2 => exact rfl); (case c3 => exact rfl); (case c4 => exact rfl)
  k_whole; intro L1 h1 tkz F1 N1; (try dsimp only); (dsimp only [List.map, List.zip, List.zipWith, List.reverse, List.reverseAux] at F1); (try k_extra "my kf")
  k_steps
  all_goals exact rt _ _ _ _ (by assumption) (by assumption)
theorem tagoct_f2 : Falls w 114 [.str (Str.ofString "heads") u] 20 h := by
  (have hkf : PySem.Challenge.rw_on0235_01 = PySem.Challenge.rw_on0235_01 ∧ kheap.heap_1 = kheap.heap_1 := by k_fill; exact ⟨rfl, rfl⟩)
  clear hkf
  w_top off
  intro dp un gd fs s Q E Bx hs AM hdp hun hbx hff rt
  have KX := AM.X
  refine AM.open ?_; intro p loose mean mg mb T
  refine' enter_pure ?k1 ?k2 ?k6 ?k7 ?k8 ?k9 ?kB ?_ ?c2 ?c3 ?c4 ?c5
  (case k1 => assumption); (case k2 => assumption); (case k6 => k_is); (case k7 => k_is); (case k8 => first | exact rec_lt (by assumption) | (simp only [recursionLimit]; omega)); (case k9 => exact rfl); (case c5 => decide); (case kB => exact locs rfl); (case c2 => exact rfl); (case c3 => exact rfl); (case c4 => exact rfl)
  k_whole; intro L1 h1 tkz F1 N1; (try dsimp only); (dsimp only [List.map, List.zip, List.zipWith, List.reverse, List.reverseAux] at F1); (try k_extra "my kf")
  k_steps
  all_goals exact rt _ _ _ _ (by assumption) (by assumption)
end
-- TL
section
variable {prog : Program} {w : World} {A : Around} {E : Value → Shared → Prop} {s : Shared} {env : Env} {h₀ : Heap} {target : Expr} {body : List Stmt} {Q : Flow → Shared → Prop}
/-- what a turn leaves -/
def LPostT (h₀ : Heap) (L : Addr) (I : Addr) (o : Obj) (J : (Str → Option Value) → List (Addr × Obj) → Prop) (s₁ : Shared) (f : Flow) (s₂ : Shared) : Prop :=
  match f with
  | .next => LEnd h₀ L I o J s₁ s₂
  | _ => False
theorem walk_loopT {I : Addr} {fp wr : List Addr} {n : Nat} {P : Nat → Value → Prop} {St : Nat → Heap → Prop} {m₀ : Str → Option Value} {news : List (Addr × Obj)} (J : Nat → (Str → Option Value) → List (Addr × Obj) → Prop)
    (W : Walks prog w A I fp wr n P St) (hLf : env.locals ∉ fp) (hwr : wr = [I]) (hI : h₀.get? I = none) (hnw : ∀ p ∈ news, p.1 ≠ I) (hIfp : I ∈ fp)
    (hgo : ∀ i (s' : Shared) v (Q' : Unit → Shared → Prop), St i s'.heap → Q' () s' → wpAny (model prog w) A (letOwnedTupleGo target (.ref I) v) Q' E s')
    (hfp : ∀ b ∈ fp, b = I ∨ ∃ ob, ∀ i m nx h, J i m nx → h₀.StaysIn h → News h₀ env.locals h nx → h.get? b = some ob)
    (hlive : ∀ i h, St i h → ∃ o, h.get? I = some o)
    (hst : St 0 s.heap) (F : Fr h₀ env.locals s.heap m₀) (N : News h₀ env.locals s.heap news) (hj : J 0 m₀ news)
    (turn : ∀ i v m₁ nx (s₁ : Shared) o, i < n → P i v → (∀ p ∈ nx, p.1 ≠ I) → J i m₁ nx → Fr h₀ env.locals s₁.heap m₁ → News h₀ env.locals s₁.heap ((I, o) :: nx) →
      wpAny (model prog w) A (assign target env v) (fun _ s₃ => wpAny (model prog w) A (execs body env) (LPostT h₀ env.locals I o (J (i + 1)) s₁) E s₃) E s₁)
    (done : ∀ m₁ nx h tk, J n m₁ nx → Fr h₀ env.locals h m₁ → News h₀ env.locals h nx → Q .next { s with heap := h, toks := tk }) :
    LoopAtT prog w A h₀ env target body Q E (.ref I) s := by
  subst hwr
  refine ⟨I, fp, [I], n, P, St, m₀, news, J, rfl, W, hLf, (fun b hb => by rw [List.mem_singleton.mp hb]; exact hI), (fun p hp hq => hnw p hp (List.mem_singleton.mp hq)), hst, F, N, hgo, hj, ?_, ?_⟩
  · rintro i v m₁ nx s₁ own hin hP hJ hoff hown hget hall hst' F₁ N₁
    obtain ⟨o, ho⟩ := hlive _ _ hst'
    have hm := hall I hIfp hI o ho
    have N₂ : News h₀ env.locals s₁.heap ((I, o) :: nx) := fun p hp => by
      rcases List.mem_cons.mp hp with rfl | hp
      · exact N₁ _ (List.mem_append_left _ hm)
      · exact N₁ _ (List.mem_append_right _ hp)
    refine wpAny_mono (turn i v m₁ nx s₁ o hin hP (fun p hp q => hoff p hp (by rw [q]; exact List.mem_singleton.mpr rfl)) hJ F₁ N₂) (fun _ s₃ p => wpAny_mono p (fun f s₂ p => ?_) fun _ _ e => e) fun _ _ e => e
    have fin : LEnd h₀ env.locals I o (J (i + 1)) s₁ s₂ → LoopStepU h₀ env.locals [I] own (J (i + 1)) s₁ .next s₂ := by
      rintro ⟨h', tk, m', nx', e, F', N', hn, hm'⟩
      refine ⟨rfl, h', tk, m', nx', e, F', fun p hp => ?_, fun p hp hq => hn p hp (List.mem_singleton.mp hq), hm'⟩
      rcases List.mem_append.mp hp with hp | hp
      · rcases hfp _ (hown p hp) with h1 | ⟨ob, h1⟩
        · have h2 := hget p hp
          rw [h1] at h2
          have h3 : p = (I, o) := Prod.ext h1 (Option.some.inj (h2.symm.trans ho))
          rw [h3]
          exact N' _ (.head _)
        · have h2 := h1 i m₁ nx s₁.heap hJ F₁.keep (fun q hq => N₁ q (List.mem_append_right _ hq))
          have h3 := h1 (i + 1) m' nx' h' hm' F'.keep (fun q hq => N' q (.tail _ hq))
          have h4 := hget p hp
          rw [h2] at h4
          refine ⟨?_, (N₁ p (List.mem_append_left _ hp)).2⟩
          rw [h3]; exact h4
      · exact N' p (.tail _ hp)
    cases f with
    | next => exact fin p
    | ret v => exact p.elim
    | brk => exact p.elim
    | cont => exact p.elim
  · rintro h' tk m' news' F' N' _ hJ
    exact done m' news' h' tk hJ F' N'
/-- for a, b in a list: the list stands in the base, or J says that it stands in the ledger -/
theorem list_loopT {l : Addr} {vs : List Value} {nn : Nat} {m₀ : Str → Option Value} {news : List (Addr × Obj)} (J : Nat → (Str → Option Value) → List (Addr × Obj) → Prop)
    (hh : A.handled = none) (hL : l ≠ env.locals) (hl : ∀ i m nx h, J i m nx → h₀.StaysIn h → News h₀ env.locals h nx → h.get? l = some (listOf vs.toArray nn)) (F : Fr h₀ env.locals s.heap m₀) (N : News h₀ env.locals s.heap news) (hj : J 0 m₀ news)
    (turn : ∀ i v m₁ nx (s₁ : Shared) I o, i < vs.length → vs[i]? = some v → (∀ p ∈ nx, p.1 ≠ I) → J i m₁ nx → Fr h₀ env.locals s₁.heap m₁ → News h₀ env.locals s₁.heap ((I, o) :: nx) →
      wpAny (model prog w) A (assign target env v) (fun _ s₃ => wpAny (model prog w) A (execs body env) (LPostT h₀ env.locals I o (J (i + 1)) s₁) E s₃) E s₁)
    (done : ∀ m₁ nx h tk, J vs.length m₁ nx → Fr h₀ env.locals h m₁ → News h₀ env.locals h nx → Q .next { s with heap := h, toks := tk }) :
    wpAny (model prog w) A (pyIter (.ref l)) (fun it s₂ => LoopAtT prog w A h₀ env target body Q E it s₂) E s := by
  have hol := hl 0 m₀ news s.heap hj F.keep N
  have hls : s.heap.IsList l vs.toArray := ⟨_, hol, rfl, nn, rfl⟩
  have hne : l ≠ s.heap.objs.size := Nat.ne_of_lt (Heap.lt_size hol)
  refine wpAny_pyIter_list hls ?_
  have W := Walks.list (prog := prog) (w := w) hh s.heap.objs.size l hne vs.toArray
  have hlen : vs.toArray.size = vs.length := by simp
  rw [hlen] at W
  refine walk_loopT J W ?_ rfl (next_is_new F) ?_ (.head _) (fun i s' v Q' st hQ' => letGo_listiter st.1 hQ') ?_ ?_ ⟨⟨_, Heap.get?_push_size _ rfl, rfl, rfl⟩, hls.at fun o e => Heap.get?_push_of_some _ e⟩ (F.push _) (fun p hp => ⟨Heap.get?_push_of_some _ (N p hp).1, (N p hp).2⟩) hj ?_ ?_
  · intro hm
    rcases List.mem_cons.mp hm with e | hm
    · exact absurd F.ns.lt (e ▸ Nat.lt_irrefl _)
    · exact hL (List.mem_singleton.mp hm).symm
  · intro p hp hI
    exact absurd (Heap.lt_size (N p hp).1) (hI ▸ Nat.lt_irrefl _)
  · intro b hb
    rcases List.mem_cons.mp hb with e | hb
    · exact .inl e
    · refine .inr ⟨listOf vs.toArray nn, fun i m nx h hJ k N' => ?_⟩
      rw [List.mem_singleton.mp hb]
      exact hl i m nx h hJ k N'
  · rintro i h ⟨⟨o, ho, _⟩, _⟩
    exact ⟨o, ho⟩
  · rintro i v m₁ nx s₁ o hi hv hne hJ F' N'
    exact turn i v m₁ nx s₁ _ o hi (by simpa using hv) hne hJ F' N'
  · exact done
end
theorem word_TL_1 : True := by
  (k_with "pyIter ref" => ((with_reducible show wpAny _ _ (pyIter (Value.ref _)) (fun it s₂ => LoopAtT _ _ _ _ _ _ _ _ _ it s₂) _ _); refine StopLoop.mk ?_))
  trivial
-- P1
theorem mem_ints {vs : List Value} {ns : List Int} {v : Value} (h : IntsAre vs ns) (hv : v ∈ vs) : ∃ x t, v = .int x t ∧ x ∈ ns := by
  induction h with
  | nil => cases hv
  | cons a t r ih =>
    rcases List.mem_cons.mp hv with rfl | hv
    · exact ⟨_, _, rfl, .head _⟩
    · obtain ⟨x, t', e, m⟩ := ih hv
      exact ⟨x, t', e, .tail _ m⟩
theorem item_ints {prog : Program} {w : World} {A : Around} {E : Value → Shared → Prop} {s : Shared} {value slice : PySem.Expr} {l : Addr} {vs : List Value} {ns : List Int} {k : Int} {u : Tok} {Q : Value → Shared → Prop}
    (hl : s.heap.IsList l vs.toArray) (hi : IntsAre vs ns) (h0 : 0 ≤ k) (h1 : k < vs.length) (h2 : vs.length ≤ 1000) (h : ∀ x t, x ∈ ns → Q (.int x t) s)
    (hs : subscripted slice false (.ref l) (.int k u) = operate [.ref l, .int k u] (getItem (.ref l) (.int k u)) := by with_unfolding_all rfl) :
    wpAny (model prog w) A (subscriptTail value slice (.ref l) (.int k u)) Q E s :=
  item_any hl h0 h1 h2 (fun v hv => by obtain ⟨x, t, rfl, m⟩ := mem_ints hi hv; exact h x t m) hs
theorem word_P1_1 : True := by
  (k_with "subscriptTail" => (k_here; (with_reducible show wpAny _ _ (subscriptTail _ _ (Value.ref _) (Value.int _ _)) _ _ _); k_dflt (refine' item_ints ?zza ?zzi ?zzb ?zzc ?zzd ?_ ?zze; (case zza => is_list); (case zzi => assumption); (case zzb => omega); (case zzc => (simp only [List.size_toArray] at *; omega)); (case zzd => omega); (case zze => with_unfolding_all rfl)); intro x9 t9 m9; (first | (revert x9 t9 m9; intros) | skip)))
  trivial
def PoolV (h : Heap) : Heap → Value → Prop := fun h' v => ∃ (a : Addr) (o : Obj), v = .ref a ∧ h'.get? a = some o ∧ SrcO o ∧ h.get? a = none
section
variable {w : World} {h : Heap} {sc : Addr} {vs : List Value} {ns : List Int}
set_option maxHeartbeats 8000000 in
theorem pool_ok (hl : h.IsList sc vs.toArray) (hi : IntsAre vs ns) (hz : vs.length ≤ 63) : Gives w 219 [.ref sc] (PoolV h) 20 h := by
  (have hkf : PySem.Challenge.rw_on0235_01 = PySem.Challenge.rw_on0235_01 ∧ kheap.heap_1 = kheap.heap_1 := by k_fill; exact ⟨rfl, rfl⟩)
  clear hkf
  w_top off
  intro dp un gd fs s Q E hs AM hdp hun rt
  have KX := AM.X
  refine AM.open ?_; intro p loose mean mg mb T
  refine' enter_pure ?k1 ?k2 ?k6 ?k7 ?k8 ?k9 ?kB ?_ ?c2 ?c3 ?c4 ?c5
  (case k1 => assumption); (case k2 => assumption); (case k6 => k_is); (case k7 => k_is); (case k8 => first | exact rec_lt (by assumption) | (simp only [recursionLimit]; omega)); (case k9 => exact rfl); (case c5 => decide); (case kB => exact locs rfl); (case c2 => exact rfl); (case c3 => exact rfl); (case c4 => exact rfl)
  k_whole; intro L1 h1 tkz F1 N1; (try dsimp only); (dsimp only [List.map, List.zip, List.zipWith, List.reverse, List.reverseAux] at F1); (try k_extra "my kf")
  (try k_extra "my env")
  have hsl : s.heap.IsList sc vs.toArray := by rw [hs]; exact hl
  k_steps
  all_goals (((try k_unfold); (try dsimp only); refine rt _ _ _ (Fr.keep (by k_asm)) ?_))
  all_goals (with_reducible rename News _ _ _ _ => N8)
  all_goals refine ⟨_, _, rfl, (N8 _ (.head _)).1, ⟨_, _, _, _, _, fmod_lo _ (by decide), fmod_hi _ (by decide), rfl⟩, hs ▸ (N8 _ (.head _)).2.2⟩
end
-- W2
theorem word_W2_1 : True := by
  (k_with "call ref" => (k_here; (with_reducible show wpAny _ _ (call (Value.ref 60) _) _ _ _); (refine use_int (s16_ok (by kba_ints) (by k_extra "my size") (by first | omega | k_extra "my size") (by first | omega | k_extra "my size")) (by k_asm) (by k_asm) (by k_asm) (by k_asm) (by k_extra "my room") (by k_extra "my room") ?_); intro t9 h9 tk9 F9 N9; (first | (revert t9 h9 tk9 F9 N9; intros) | skip)))
  trivial
theorem word_W2_2 : True := by
  (k_with "call ref" => (k_here; (with_reducible show wpAny _ _ (call (Value.ref 81) _) _ _ _); (refine use_bytes put32_ok (by k_asm) (by k_asm) (by k_asm) (by k_asm) (by k_extra "my room") (by k_extra "my room") ?_); intro b9 t9 h9 tk9 K9 F9 N9; (first | (revert b9 t9 h9 tk9 K9 F9 N9; intros) | skip)))
  trivial
theorem word_W2_3 : True := by
  (k_with "call ref" => (k_here; (with_reducible show wpAny _ _ (call (Value.ref 114) _) _ _ _); k_dflt (refine use_bytes (tagoct_ok (by decide +kernel) (by decide +kernel) (by (show ∀ n ∈ _, _); decide +kernel) (by decide +kernel)) (by k_asm) (by k_asm) (by k_asm) (by k_asm) (by k_extra "my room") (by k_extra "my room") ?_); intro b9 t9 h9 tk9 K9 F9 N9; (first | (revert b9 t9 h9 tk9 K9 F9 N9; intros) | skip)))
  trivial
theorem mem_bound (k : Int) {x : Int} {ns : List Int} (h : x ∈ ns) (hb : ∀ y, y ∈ ns → 0 ≤ y ∧ y ≤ k) : 0 ≤ x ∧ x ≤ k := hb x h
theorem pow32 : (2 : Int) ^ Int.toNat 32 - 1 = 4294967295 := by decide +kernel
theorem use_one {w : World} {E : Value → Shared → Prop} {hp : Heap} {gn : Array GenState} {dr : Drawn} {tk0 : Nat} {os : OsState} {p : Program} {loose : List Str} {mean : ExcName → Option Value} {mg mb : Str → Option Value} {h₀ : Heap} {L : Addr} {m : Str → Option Value} {news : List (Addr × Obj)} {src th : Addr} {dp un n : Nat} {gd : Option (List Code)} {fs : List Env} {Q : Value → Shared → Prop} {g : Obj → List (Addr × Obj)} {o : Obj} {vs : List Value} {ns : List Int}
    (F : Fr h₀ L hp m) (N : News h₀ L hp news) (hm : (th, listOf vs.toArray n) ∈ news) (hne : @Ne Nat th src) (hi : IntsAre vs ns) (hz : vs.length ≤ 100) (hz0 : 0 < vs.length) (U : UpdF src o news g) (hSO : SrcO o) (X : (kheap.heap_1 w.params).In h₀) (T : Top p loose mean mg mb h₀) (hdp : dp + 20 ≤ 900) (hun : un + 20 * 20 ≤ 9000)
    (hQ : ∀ x t o' h' tk', x ∈ ns → Fr h₀ L h' m → News h₀ L h' (g o') → SrcO o' → Q (.int x t) (Shared.mk h' gn dr tk' os)) :
    wpAny (model PySem.Challenge.rw_on0235_01.row.prog w) (At dp un gd fs) (call (.ref 233) [.ref src, .ref th]) Q E (Shared.mk hp gn dr tk0 os) :=
  use_src (hp := hp) (gn := gn) (dr := dr) (tk0 := tk0) (os := os) (one_ok (N _ hm).1 hne hz hz0) F N U hSO X T hdp hun fun v o' h' tk' F' N' S' r => by
    obtain ⟨x, t, e, m⟩ := mem_ints hi r
    subst e
    exact hQ x t o' h' tk' m F' N' S'
theorem word_W2_4 : True := by
  (k_with "call ref" => (k_here; (with_reducible show wpAny _ _ (call (Value.ref 233) [_, Value.ref _]) _ _ _); k_dflt (refine' use_one ?zzF ?zzN ?zzM ?zzne ?zzi ?zzz ?zzz0 ?zzU ?zzS ?zzX ?zzT ?zzhd ?zzhu ?_; (case zzF => k_asm); (case zzN => k_asm); (case zzM => k_mem); (case zzne => k_ne); (case zzi => first | assumption | (repeat constructor)); (case zzz => exact Nat.le_of_ble_eq_true rfl); (case zzz0 => exact Nat.succ_pos _); (case zzU => k_updF); (case zzS => assumption); (case zzX => k_asm); (case zzT => k_asm); (case zzhd => k_extra "my room"); (case zzhu => k_extra "my room")); intro x9 t9 oS9 h9 tk9 m9 F9 N9 SO9; (try rw [pow32] at m9); (first | have b9 := mem_bound 9 m9 (by intro y hy; simp only [List.mem_cons, List.not_mem_nil, or_false] at hy; omega) | have b9 := mem_bound 4294967295 m9 (by intro y hy; simp only [List.mem_cons, List.not_mem_nil, or_false] at hy; omega)); (try dsimp only at N9); (first | (revert x9 t9 oS9 h9 tk9 m9 F9 N9 SO9 b9; intros) | skip)))
  trivial
theorem word_W2_5 : True := by
  (k_with "call ref" => (k_here; (with_reducible show wpAny _ _ (call (Value.ref 53) _) _ _ _); (refine use_int (u16_ok (by kba_ints) (by k_extra "my size") (by first | omega | k_extra "my size") (by first | omega | k_extra "my size")) (by k_asm) (by k_asm) (by k_asm) (by k_asm) (by k_extra "my room") (by k_extra "my room") ?_); intro t9 h9 tk9 F9 N9; (first | (revert t9 h9 tk9 F9 N9; intros) | skip)))
  trivial
theorem ints_inj {b c : Array UInt8} (h : KBw.bInts b = KBw.bInts c) : b.toList = c.toList := by
  unfold KBw.bInts at h
  exact (List.map_inj_right (fun x y hxy => UInt8.toNat_inj.mp (Int.ofNat.inj hxy))).mp h
theorem ne_bytes_K {prog : Program} {w : World} {A : Around} {E : Value → Shared → Prop} {s : Shared} {b c : Array UInt8} {t u : Tok} {ks ls : List Int} {Q : Value → Shared → Prop} (hk : KBw.bInts b = ks) (hl : KBw.bInts c = ls) (e : ks = ls) (h : Q (.bool false) s) : wpAny (model prog w) A (compareOp .NotEq (.bytes b t) (.bytes c u)) Q E s :=
  ne_bytes (by
    have q : b.toList = c.toList := ints_inj (by rw [hk, hl, e])
    rw [q, bne_self_eq_false]; exact h)
theorem p16_sub (n : Int) : p16 (n - 65536) = p16 n := by
  unfold p16
  have h1 : (n - 65536) / 256 % 256 = n / 256 % 256 := by omega
  have h2 : (n - 65536) % 256 = n % 256 := by omega
  rw [h1, h2]
theorem word_W2_6 : True := by
  (k_with "compareOp NotEq bytes bytes" => (k_here; k_dflt (refine ne_bytes_K (by k_extra "my ints") (by k_extra "my ints") (by first | rfl | exact p16_sub _ | assumption) ?_)))
  trivial
theorem ne_strs_K {prog : Program} {w : World} {A : Around} {E : Value → Shared → Prop} {s : Shared} {h₀ : Heap} {L a b : Addr} {news : List (Addr × Obj)} {vs us : List Value} {ws xs : List Str} {ka kb : Nat} {Q : Value → Shared → Prop} (N : News h₀ L s.heap news) (ma : (a, listOf vs.toArray ka) ∈ news) (mb : (b, listOf us.toArray kb) ∈ news) (Sa : StrsAre vs ws) (Sb : StrsAre us xs) (e : ws = xs) (ob : StrOkL xs) (hu : A.units + 64 < cLine) (h : Q (.bool false) s) :
    wpAny (model prog w) A (compareOp .NotEq (.ref a) (.ref b)) Q E s :=
  ne_strs N ma mb Sa Sb (by rw [e]; exact ob) ob hu (by rw [decide_eq_true e]; exact h)
theorem word_W2_7 : True := by
  (k_with "compareOp NotEq ref ref" => (k_here; (with_reducible show wpAny _ _ (compareOp CmpOp.NotEq (Value.ref _) (Value.ref _)) _ _ _); k_dflt (refine' ne_strs_K ?zzN ?zza ?zzb ?zzSa ?zzSb ?zze ?zzob ?zzu ?_; (case zzN => k_asm); (case zza => k_mem); (case zzb => k_mem); (case zzSa => repeat constructor); (case zzSb => repeat constructor); (case zze => decide +kernel); (case zzob => (intro x hx; simp only [List.mem_cons, List.not_mem_nil, or_false] at hx; (rcases hx with e9 | e9 | e9 <;> subst e9 <;> decide +kernel))); (case zzu => (k_extra "my line")))))
  trivial
theorem word_W2_8 : True := by
  (k_with "eval ListComp" => (k_here; lcg_look; k_dflt (refine LCg.ListComp_U (F₀ := by k_asm) (by with_unfolding_all rfl) (by decide) (by rfl) (by decide) (by rfl) ?_); k_dflt lcg_toSrc))
  trivial
theorem word_W2_9 : True := by
  (k_with "eval ListComp" => (k_here; lct_look; k_dflt (refine LCt.ListComp_T (F₀ := by k_asm) (by with_unfolding_all rfl) (by decide) (by rfl) (by decide) (by rfl) ?_); k_dflt lct_toSrc))
  trivial
theorem word_W2_10 : True := by
  (k_with "call ref" => (k_here; (with_reducible show wpAny _ _ (call (Value.ref 109) _) _ _ _); (refine use_str (tag_ok (by kba_ints) (by first | decide +kernel | k_extra "my size") (by first | omega | k_extra "my size") (by first | decide +kernel | omega | k_extra "my size") (by first | assumption | ((show ∀ k ∈ _, _); decide +kernel))) (by k_asm) (by k_asm) (by k_asm) (by k_asm) (by k_extra "my room") (by k_extra "my room") ?_); intro t9 h9 tk9 F9 N9; (first | (revert t9 h9 tk9 F9 N9; intros) | skip)))
  trivial
theorem g16_words {n : Int} : g16 (9 :: p32 n) 3 = n % 65536 := by
  show (n / 256 % 256) * 256 + n % 256 = _
  omega
theorem g32_words {n : Int} (h0 : 0 ≤ n) (h1 : n ≤ 4294967295) : g32 ([9] ++ p32 n) 1 = n := by
  show ((n / 65536 / 256 % 256) * 256 + n / 65536 % 256) * 65536 + ((n / 256 % 256) * 256 + n % 256) = n
  omega
theorem words_lows {n : Int} : [g16 (9 :: p32 n) (Int.toNat 3), if 32768 ≤ g16 (9 :: p32 n) (Int.toNat 3) then g16 (9 :: p32 n) (Int.toNat 3) - 65536 else g16 (9 :: p32 n) (Int.toNat 3)] =
      [n.fmod 65536, n.fmod 65536 - 65536 * if decide (32767 < n.fmod 65536) = true then 1 else 0] := by
  rw [show Int.toNat 3 = 3 from rfl, g16_words, fm65536]
  by_cases h : 32768 ≤ n % 65536
  · rw [if_pos h, if_pos (by simp; omega)]; simp
  · rw [if_neg h, if_neg (by simp; omega)]; simp
theorem front_cells {Bx h h₁ : Heap} {L : Addr} {cells front : List (Addr × Obj)} (N : News h L h₁ cells) (hbx : Bx.StaysIn h) (hf : ∀ p ∈ front, h.get? p.1 = some p.2 ∧ Bx.get? p.1 = none) (hk : h.StaysIn h₁) (hL : L = h.objs.size) : News Bx L h₁ (cells ++ front) := fun p hp => by
  rcases List.mem_append.mp hp with hp | hp
  · have n := N p hp
    refine ⟨n.1, n.2.1, ?_⟩
    cases q : Bx.get? p.1 with
    | none => rfl
    | some o => have := hbx _ _ q; rw [n.2.2] at this; cases this
  · exact ⟨hk _ _ (hf p hp).1, by rw [hL]; exact Nat.ne_of_lt (Heap.lt_size (hf p hp).1), (hf p hp).2⟩
-- PD
def tagN : List Str := [Str.ofString "glyf", Str.ofString "a   ", Str.ofString "OS/2", Str.ofString "~~~~", Str.ofString "cmap"]
def TsOk (ts : List (Str × List Int)) : Prop := ts.length ≤ 4 ∧ (ts.map (·.1)).Nodup ∧ ∀ a ∈ ts, (a.1 ∈ tagN ∧ a.2.length ≤ 9) ∨ (a.1 = Str.ofString "head" ∧ a.2.length = 12)
def ownSum (a : Str × List Int) : Int := lsum (if headTag a.1 then headL a.2 else a.2)
/-- the sixteen octets of a row -/
def rowL (r : DRow) : List Int := ordL r.tag ++ p32 r.sum ++ p32 r.place ++ p32 r.size
/-- a row fits a table, n tables in all, body: the octets behind the directory -/
def RowFits (n : Nat) (body : List Int) (a : Str × List Int) (r : DRow) : Prop := r.tag = a.1 ∧ r.sum = ownSum a ∧ r.size = a.2.length ∧ ∃ k : Nat, r.place = 12 + 16 * (n : Int) + k ∧ k + a.2.length ≤ body.length ∧ partL body k a.2.length = a.2
def fontL (ver : Int) (rs : List DRow) (body : List Int) (z : Nat) : List Int := p32 ver ++ [0, (rs.length : Int)] ++ List.replicate 6 0 ++ (rs.flatMap rowL) ++ body ++ List.replicate z 0
/-- what the law builds -/
def FontIs (ks : List Int) (ts : List (Str × List Int)) (rs : List DRow) : Prop := ∃ (ver : Int) (body : List Int) (z : Nat), (ver = 65536 ∨ ver = 1953658213) ∧ z ≤ 3 ∧ body.length ≤ 90 ∧ KBa.In body ∧ rs.length = ts.length ∧ (∀ (i : Nat) (a : Str × List Int), ts[i]? = some a → ∃ r : DRow, rs[i]? = some r ∧ RowFits ts.length body a r) ∧ ks = fontL ver rs body z
-- PL
theorem txt_ordL (x : Str) : txt (ordL x) = x := by
  obtain ⟨⟨l⟩⟩ := x
  show Str.mk _ = Str.mk _
  simp [ordL, List.map_map, Function.comp_def]
theorem tag_facts {x : Str} (h : x ∈ tagN ∨ x = Str.ofString "head") : (ordL x).length = 4 ∧ TagOk (ordL x) := by
  have key : ∀ y ∈ Str.ofString "head" :: tagN, (ordL y).length = 4 ∧ ∀ k ∈ ordL y, 32 ≤ k ∧ k ≤ 126 := by decide +kernel
  rcases h with h | h
  · exact key x (.tail _ h)
  · exact key x (h ▸ .head _)
theorem getD_app (a b : List Int) (j : Nat) : (a ++ b).getD (a.length + j) 0 = b.getD j 0 := by
  rw [List.getD_eq_getElem?_getD, List.getElem?_append_right (Nat.le_add_right _ _), Nat.add_sub_cancel_left, List.getD_eq_getElem?_getD]
theorem getD_left {a b : List Int} {j : Nat} (h : j < a.length) : (a ++ b).getD j 0 = a.getD j 0 := by
  rw [List.getD_eq_getElem?_getD, List.getElem?_append_left h, List.getD_eq_getElem?_getD]
theorem g16_app (a b : List Int) (j : Nat) : g16 (a ++ b) (a.length + j) = g16 b j := by
  rw [g16, g16, getD_app, Nat.add_assoc, getD_app]
theorem g32_app (a b : List Int) (j : Nat) : g32 (a ++ b) (a.length + j) = g32 b j := by
  rw [g32, g32, g16_app, Nat.add_assoc, g16_app]
theorem partL_app (a b : List Int) (j n : Nat) : partL (a ++ b) (a.length + j) n = partL b j n := by
  rw [partL, partL, List.drop_append, List.drop_eq_nil_of_le (Nat.le_add_right _ _), Nat.add_sub_cancel_left, List.nil_append]
theorem partL_left {a b : List Int} {j n : Nat} (h : j + n ≤ a.length) : partL (a ++ b) j n = partL a j n := by
  rw [partL, partL, List.drop_append_of_le_length (by omega), List.take_append_of_le_length (by rw [List.length_drop]; omega)]
theorem g32_p32 {x : Int} (h0 : 0 ≤ x) (h1 : x < 4294967296) (b : List Int) : g32 (p32 x ++ b) 0 = x := by
  show (x / 65536 / 256 % 256 * 256 + x / 65536 % 256) * 65536 + (x / 256 % 256 * 256 + x % 256) = x
  omega
theorem rowL_len {r : DRow} (h : (ordL r.tag).length = 4) : (rowL r).length = 16 := by
  simp [rowL, h, p32_len]
theorem rows_len {rs : List DRow} (h : ∀ r ∈ rs, (ordL r.tag).length = 4) : (rs.flatMap rowL).length = 16 * rs.length := by
  induction rs with
  | nil => rfl
  | cons r rs ih =>
    rw [List.flatMap_cons, List.length_append, rowL_len (h r (.head _)), ih fun x hx => h x (.tail _ hx), List.length_cons]
    omega
theorem split_row {rs : List DRow} {i : Nat} {r : DRow} (h : rs[i]? = some r) : rs.flatMap rowL = (rs.take i).flatMap rowL ++ (rowL r ++ (rs.drop (i + 1)).flatMap rowL) := by
  obtain ⟨hi, e⟩ := List.getElem?_eq_some_iff.mp h
  conv => lhs; rw [← List.take_append_drop i rs, List.drop_eq_getElem_cons hi, e]
  rw [List.flatMap_append, List.flatMap_cons]
/-- the octets ahead of the rows -/
def topL (ver : Int) (n : Int) : List Int := p32 ver ++ [0, n] ++ List.replicate 6 0
theorem topL_len (ver n : Int) : (topL ver n).length = 12 := rfl
/-- a row of the text is the row that was put -/
theorem row_at {ver n : Int} {rs : List DRow} {tl : List Int} {i : Nat} {r : DRow} (h4 : ∀ r ∈ rs, (ordL r.tag).length = 4) (h : rs[i]? = some r) (s0 : 0 ≤ r.sum) (s1 : r.sum < 4294967296) (p0 : 0 ≤ r.place) (p1 : r.place < 4294967296) (z0 : 0 ≤ r.size) (z1 : r.size < 4294967296) :
    rowOf (topL ver n ++ rs.flatMap rowL ++ tl) i = r ∧ partL (topL ver n ++ rs.flatMap rowL ++ tl) (12 + 16 * i) 4 = ordL r.tag := by
  obtain ⟨hi, e⟩ := List.getElem?_eq_some_iff.mp h
  have hr := h4 r (List.mem_of_getElem? h)
  have e1 : topL ver n ++ rs.flatMap rowL ++ tl = (topL ver n ++ (rs.take i).flatMap rowL) ++ (ordL r.tag ++ (p32 r.sum ++ (p32 r.place ++ (p32 r.size ++ ((rs.drop (i + 1)).flatMap rowL ++ tl))))) := by
    rw [split_row h, rowL]; simp only [List.append_assoc]
  have e2 : (topL ver n ++ (rs.take i).flatMap rowL).length = 12 + 16 * i := by
    rw [List.length_append, topL_len, rows_len fun x hx => h4 x (List.mem_of_mem_take hx), List.length_take]; omega
  have t1 : partL (topL ver n ++ rs.flatMap rowL ++ tl) (12 + 16 * i) 4 = ordL r.tag := by
    have q := partL_app (topL ver n ++ (rs.take i).flatMap rowL) (ordL r.tag ++ (p32 r.sum ++ (p32 r.place ++ (p32 r.size ++ ((rs.drop (i + 1)).flatMap rowL ++ tl))))) 0 4
    rw [e2, ← e1, Nat.add_zero] at q
    rw [q, partL_left (by omega), partL, List.drop_zero, ← hr, List.take_length]
  have q1 : g32 (topL ver n ++ rs.flatMap rowL ++ tl) (12 + 16 * i + 4) = r.sum := by
    have q := g32_app ((topL ver n ++ (rs.take i).flatMap rowL) ++ ordL r.tag) (p32 r.sum ++ (p32 r.place ++ (p32 r.size ++ ((rs.drop (i + 1)).flatMap rowL ++ tl)))) 0
    rw [g32_p32 s0 s1, List.length_append, e2, hr, List.append_assoc, ← e1] at q
    exact q
  have q2 : g32 (topL ver n ++ rs.flatMap rowL ++ tl) (12 + 16 * i + 8) = r.place := by
    have q := g32_app ((topL ver n ++ (rs.take i).flatMap rowL) ++ (ordL r.tag ++ p32 r.sum)) (p32 r.place ++ (p32 r.size ++ ((rs.drop (i + 1)).flatMap rowL ++ tl))) 0
    rw [g32_p32 p0 p1, List.length_append, e2, List.length_append, hr, p32_len, List.append_assoc, List.append_assoc (ordL r.tag), ← e1] at q
    exact q
  have q3 : g32 (topL ver n ++ rs.flatMap rowL ++ tl) (12 + 16 * i + 12) = r.size := by
    have q := g32_app ((topL ver n ++ (rs.take i).flatMap rowL) ++ (ordL r.tag ++ (p32 r.sum ++ p32 r.place))) (p32 r.size ++ ((rs.drop (i + 1)).flatMap rowL ++ tl)) 0
    rw [g32_p32 z0 z1, List.length_append, e2, List.length_append, List.length_append, hr, p32_len, p32_len, List.append_assoc, List.append_assoc (ordL r.tag), List.append_assoc (p32 r.sum), ← e1] at q
    exact q
  refine ⟨?_, t1⟩
  rw [rowOf, t1, q1, q2, q3, txt_ordL]
/-- what read_directory and its like need of the font -/
structure FontOk (ks : List Int) (ts : List (Str × List Int)) (rs : List DRow) : Prop where
  dir : DirOk ks
  num : g16 ks 4 = ts.length
  rlen : rs.length = ts.length
  low : 12 + 16 * ts.length ≤ ks.length
  top : ks.length ≤ 200
  row : ∀ (i : Nat) (a : Str × List Int), ts[i]? = some a → rs[i]? = some (rowOf ks i) ∧ (rowOf ks i).tag = a.1 ∧ (rowOf ks i).sum = ownSum a ∧ 12 + 16 * (ts.length : Int) ≤ (rowOf ks i).place ∧ (rowOf ks i).size = a.2.length ∧ partL ks (rowOf ks i).place.toNat (rowOf ks i).size.toNat = a.2
theorem lsum_in (ks : List Int) : 0 ≤ lsum ks ∧ lsum ks < 4294967296 := by rw [lsum]; omega
theorem font_ok {ks : List Int} {ts : List (Str × List Int)} {rs : List DRow} (h : FontIs ks ts rs) (ht : TsOk ts) : FontOk ks ts rs := by
  obtain ⟨ver, body, z, hv, hz, hb, hin, hl, hf, rfl⟩ := h
  have hn := ht.1
  have htag : ∀ (i : Nat) (a : Str × List Int), ts[i]? = some a → (ordL a.1).length = 4 ∧ TagOk (ordL a.1) := fun i a ha => by
    rcases ht.2.2 a (List.mem_of_getElem? ha) with h | h
    · exact tag_facts (.inl h.1)
    · exact tag_facts (.inr h.1)
  have hsz : ∀ (i : Nat) (a : Str × List Int), ts[i]? = some a → a.2.length ≤ 12 := fun i a ha => by
    rcases ht.2.2 a (List.mem_of_getElem? ha) with h | h <;> have := h.2 <;> omega
  have h4 : ∀ r ∈ rs, (ordL r.tag).length = 4 := fun r hr => by
    obtain ⟨i, hi, e⟩ := List.getElem_of_mem hr
    obtain ⟨r', e', q⟩ := hf i ts[i] (List.getElem?_eq_getElem (hl ▸ hi))
    rw [List.getElem?_eq_getElem hi, e] at e'
    rw [Option.some.inj e', q.1]
    exact (htag i _ (List.getElem?_eq_getElem (hl ▸ hi))).1
  have e0 : fontL ver rs body z = topL ver rs.length ++ rs.flatMap rowL ++ (body ++ List.replicate z 0) := by
    rw [fontL, topL]; simp only [List.append_assoc]
  have len : (fontL ver rs body z).length = 12 + 16 * ts.length + body.length + z := by
    rw [e0, List.length_append, List.length_append, topL_len, rows_len h4, List.length_append, List.length_replicate, hl]; omega
  have num : g16 (fontL ver rs body z) 4 = ts.length := by
    rw [e0, ← hl]
    show (0 : Int) * 256 + (rs.length : Int) = _
    omega
  have row : ∀ (i : Nat) (a : Str × List Int), ts[i]? = some a → rs[i]? = some (rowOf (fontL ver rs body z) i) ∧ (rowOf (fontL ver rs body z) i).tag = a.1 ∧ (rowOf (fontL ver rs body z) i).sum = ownSum a ∧ 12 + 16 * (ts.length : Int) ≤ (rowOf (fontL ver rs body z) i).place ∧ (rowOf (fontL ver rs body z) i).size = a.2.length ∧ partL (fontL ver rs body z) (rowOf (fontL ver rs body z) i).place.toNat (rowOf (fontL ver rs body z) i).size.toNat = a.2 ∧ partL (fontL ver rs body z) (12 + 16 * i) 4 = ordL a.1 ∧ (rowOf (fontL ver rs body z) i).place + (rowOf (fontL ver rs body z) i).size ≤ (fontL ver rs body z).length := fun i a ha => by
    obtain ⟨r, hr, r1, r2, r3, k, r4, r5, r6⟩ := hf i a ha
    have b := lsum_in (if headTag a.1 then headL a.2 else a.2)
    have c := hsz i a ha
    have s : r.sum = lsum (if headTag a.1 then headL a.2 else a.2) := r2
    have q := row_at (ver := ver) (n := rs.length) (tl := body ++ List.replicate z 0) h4 hr (by omega) (by omega) (by omega) (by omega) (by omega) (by omega)
    rw [← e0] at q
    rw [q.1, q.2, r1]
    refine ⟨hr, rfl, r2, by omega, r3, ?_, rfl, by rw [len]; omega⟩
    have w1 : r.place.toNat = (topL ver rs.length ++ rs.flatMap rowL).length + k := by
      rw [List.length_append, topL_len, rows_len h4, hl]; omega
    have w2 : r.size.toNat = a.2.length := by omega
    rw [w1, w2, e0, partL_app, partL_left r5]
    exact r6
  refine ⟨⟨by omega, ?_, fun i hi => ?_⟩, num, hl, by omega, by omega, fun i a ha => ?_⟩
  · have : g32 (fontL ver rs body z) 0 = ver := by
      rw [e0, topL]; simp only [List.append_assoc]
      exact g32_p32 (by omega) (by omega) _
    rw [VerOk, this]; exact hv
  · rw [num] at hi
    have hi' : i < ts.length := by omega
    have q := row i ts[i] (List.getElem?_eq_getElem hi')
    refine ⟨by omega, ?_, ?_⟩
    · rw [q.2.2.2.2.2.2.1]
      exact (htag i _ (List.getElem?_eq_getElem hi')).2
    · exact q.2.2.2.2.2.2.2
  · have q := row i a ha
    exact ⟨q.1, q.2.1, q.2.2.1, q.2.2.2.1, q.2.2.2.2.1, q.2.2.2.2.2.1⟩
-- PS
theorem take4 : ∀ {l : List Int}, 4 ≤ l.length → l.take 4 = [l.getD 0 0, l.getD 1 0, l.getD 2 0, l.getD 3 0]
  | _ :: _ :: _ :: _ :: _, _ => rfl
  | [], h => absurd h (by decide)
  | [_], h => absurd h (by simp)
  | [_, _], h => absurd h (by simp)
  | [_, _, _], h => absurd h (by simp)
theorem getD_drop' (l : List Int) (k j : Nat) : (l.drop k).getD j 0 = l.getD (k + j) 0 := by
  rw [List.getD_eq_getElem?_getD, List.getElem?_drop, List.getD_eq_getElem?_getD]
theorem wsumN_eq {ls : List Int} : ∀ {i : Nat}, 4 * i ≤ ls.length → wsumN ls i = lsumN ls (4 * i)
  | 0, _ => rfl
  | i + 1, h => by
    have e : lsumN ls (4 * (i + 1)) = lsumN ls (4 * i) + ls.getD (4 * i) 0 * ([16777216, 65536, 256, 1] : List Int).getD (4 * i % 4) 0 + ls.getD (4 * i + 1) 0 * ([16777216, 65536, 256, 1] : List Int).getD ((4 * i + 1) % 4) 0 + ls.getD (4 * i + 2) 0 * ([16777216, 65536, 256, 1] : List Int).getD ((4 * i + 2) % 4) 0 + ls.getD (4 * i + 3) 0 * ([16777216, 65536, 256, 1] : List Int).getD ((4 * i + 3) % 4) 0 := rfl
    rw [e, show 4 * i % 4 = 0 by omega, show (4 * i + 1) % 4 = 1 by omega, show (4 * i + 2) % 4 = 2 by omega, show (4 * i + 3) % 4 = 3 by omega]
    rw [wsumN, wsumN_eq (by omega), take4 (by rw [List.length_drop]; omega)]
    simp only [getD_drop', Nat.add_zero]
    show lsumN ls (4 * i) + ((((0 * 256 + _) * 256 + _) * 256 + _) * 256 + _) = lsumN ls (4 * i) + _ * 16777216 + _ * 65536 + _ * 256 + _ * 1
    omega
theorem lsumN_left {ks z : List Int} : ∀ {j : Nat}, j ≤ ks.length → lsumN (ks ++ z) j = lsumN ks j
  | 0, _ => rfl
  | j + 1, h => by rw [lsumN, lsumN, lsumN_left (by omega), getD_left (by omega)]
theorem getD_rep (c j : Nat) : (List.replicate c (0 : Int)).getD j 0 = 0 := by
  rw [List.getD_eq_getElem?_getD, List.getElem?_replicate]; split <;> rfl
theorem lsumN_zero (ks : List Int) (c : Nat) : ∀ j, lsumN (ks ++ List.replicate c 0) (ks.length + j) = lsumN ks ks.length
  | 0 => lsumN_left (Nat.le_refl _)
  | j + 1 => by
    show lsumN (ks ++ List.replicate c 0) (ks.length + j) + (ks ++ List.replicate c 0).getD (ks.length + j) 0 * _ = _
    rw [lsumN_zero ks c j, getD_app, getD_rep, Int.zero_mul, Int.add_zero]
/-- the sum of words is the law's own sum -/
theorem wsum_eq (ks : List Int) : wsum ks = lsum ks := by
  have h := fill_mod ks
  rw [wsum, lsum, wsumN_eq (by omega), show 4 * ((fillL ks).length / 4) = (fillL ks).length by omega, fillL_len, fillL, lsumN_zero]
theorem headN_iff {ks : List Int} : ∀ {n : Nat}, headN ks n = true ↔ ∃ i, i < n ∧ headTag (rowOf ks i).tag = true
  | 0 => ⟨fun h => (by cases h), fun ⟨_, h, _⟩ => absurd h (Nat.not_lt_zero _)⟩
  | n + 1 => by
    rw [headN, Bool.or_eq_true, headN_iff]
    constructor
    · rintro (⟨i, a, b⟩ | h)
      · exact ⟨i, by omega, b⟩
      · exact ⟨n, by omega, h⟩
    · rintro ⟨i, a, b⟩
      by_cases c : i < n
      · exact .inl ⟨i, c, b⟩
      · obtain rfl : i = n := by omega
        exact .inr b
theorem wrongN_eq (ks : List Int) : ∀ n, wrongN ks n = ((List.range n).filter (fun i => decide (rowSum ks (rowOf ks i) ≠ (rowOf ks i).sum))).map (fun i => (rowOf ks i).tag)
  | 0 => rfl
  | n + 1 => by
    rw [wrongN, wrongN_eq ks n, List.range_succ, List.filter_append, List.map_append]
    congr 1
    by_cases h : rowSum ks (rowOf ks n) = (rowOf ks n).sum
    · simp [h]
    · simp [h]
theorem wrong_perm {ks : List Int} {n : Nat} {N : List Nat} (hN : N.Nodup) (hlt : ∀ i ∈ N, i < n) (h : ∀ i, i < n → (rowSum ks (rowOf ks i) ≠ (rowOf ks i).sum ↔ i ∈ N)) : (wrongN ks n).Perm (N.map fun i => (rowOf ks i).tag) := by
  rw [wrongN_eq]
  refine List.Perm.map _ ((List.perm_ext_iff_of_nodup (List.nodup_range.filter _) hN).mpr fun i => ?_)
  rw [List.mem_filter, List.mem_range]
  constructor
  · rintro ⟨a, b⟩
    exact (h i a).mp (of_decide_eq_true b)
  · intro a
    exact ⟨hlt i a, decide_eq_true ((h i (hlt i a)).mpr a)⟩
/-- whether the rows tell of a head -/
def hasHead (rs : List DRow) : Bool := rs.any fun r => headTag r.tag
theorem head_same {ks : List Int} {rs : List DRow} (h : ∀ i, i < rs.length → ∃ r, rs[i]? = some r ∧ (rowOf ks i).tag = r.tag) : headN ks rs.length = hasHead rs := by
  rw [Bool.eq_iff_iff, headN_iff, hasHead, List.any_eq_true]
  constructor
  · rintro ⟨i, a, b⟩
    obtain ⟨r, hr, e⟩ := h i a
    exact ⟨r, List.mem_of_getElem? hr, e ▸ b⟩
  · rintro ⟨r, a, b⟩
    obtain ⟨i, hi, e⟩ := List.getElem_of_mem a
    obtain ⟨r', hr, e'⟩ := h i hi
    rw [List.getElem?_eq_getElem hi, e] at hr
    exact ⟨i, hi, by rw [e', ← Option.some.inj hr]; exact b⟩
/-- the whole's word ahead -/
def wholeL (rs : List DRow) (ks : List Int) : List Str := if hasHead rs = true ∧ lsum ks ≠ 2981146554 then [Str.ofString ""] else []
section
variable {ks : List Int} {ts : List (Str × List Int)} {rs : List DRow}
theorem FontOk.get (h : FontOk ks ts rs) {i : Nat} (hi : i < ts.length) : rs[i]? = some (rowOf ks i) ∧ (rowOf ks i).tag = ts[i].1 ∧ (rowOf ks i).sum = ownSum ts[i] ∧ 12 + 16 * (ts.length : Int) ≤ (rowOf ks i).place ∧ (rowOf ks i).size = ts[i].2.length ∧ partL ks (rowOf ks i).place.toNat (rowOf ks i).size.toNat = ts[i].2 := h.row i ts[i] (List.getElem?_eq_getElem hi)
theorem FontOk.nn (h : FontOk ks ts rs) : (g16 ks 4).toNat = ts.length := by rw [h.num]; rfl
/-- the rows' sums hold -/
theorem FontOk.wrong (h : FontOk ks ts rs) : wrongL ks = wholeL rs ks := by
  have e : wrongN ks ts.length = [] := by
    have := wrong_perm (ks := ks) (n := ts.length) (N := []) .nil (fun _ h => nomatch h) (fun i hi => by
      have q := h.get hi
      refine ⟨fun c => absurd ?_ c, fun c => nomatch c⟩
      rw [rowSum, q.2.2.2.2.2, q.2.1, wsum_eq, q.2.2.1]; rfl)
    exact this.eq_nil
  have e2 : headN ks ts.length = hasHead rs := by
    rw [← h.rlen]
    exact head_same fun i hi => ⟨_, (h.get (h.rlen ▸ hi)).1, rfl⟩
  rw [wrongL, h.nn, e, e2, wsum_eq, wholeL]
  rw [show sortS [] = [] from by simp [sortS], List.append_nil]
end
/-- ks' is ks, but for the told sums of the rows in N -/
structure Bent (ks ks' : List Int) (n : Nat) (N : List Nat) : Prop where
  len : ks'.length = ks.length
  nod : N.Nodup
  lt : ∀ i ∈ N, i < n
  same : ∀ j, (∀ i ∈ N, j < 12 + 16 * i + 4 ∨ 12 + 16 * i + 8 ≤ j) → ks'.getD j 0 = ks.getD j 0
  other : ∀ i ∈ N, g32 ks' (12 + 16 * i + 4) ≠ g32 ks (12 + 16 * i + 4)
theorem g16_eq {a b : List Int} {j : Nat} (h0 : a.getD j 0 = b.getD j 0) (h1 : a.getD (j + 1) 0 = b.getD (j + 1) 0) : g16 a j = g16 b j := by rw [g16, g16, h0, h1]
theorem g32_eq {a b : List Int} {j : Nat} (h0 : a.getD j 0 = b.getD j 0) (h1 : a.getD (j + 1) 0 = b.getD (j + 1) 0) (h2 : a.getD (j + 2) 0 = b.getD (j + 2) 0) (h3 : a.getD (j + 3) 0 = b.getD (j + 3) 0) : g32 a j = g32 b j := by rw [g32, g32, g16_eq h0 h1, g16_eq h2 h3]
theorem partL_eq {a b : List Int} {j n : Nat} (hl : a.length = b.length) (h : ∀ k, j ≤ k → k < j + n → a.getD k 0 = b.getD k 0) : partL a j n = partL b j n := by
  apply List.ext_getElem?
  intro i
  rw [partL, partL, List.getElem?_take, List.getElem?_take]
  split
  · rw [List.getElem?_drop, List.getElem?_drop]
    have := h (j + i) (by omega) (by omega)
    by_cases c : j + i < a.length
    · rw [List.getD_eq_getElem?_getD, List.getD_eq_getElem?_getD, List.getElem?_eq_getElem c, List.getElem?_eq_getElem (hl ▸ c)] at this
      rw [List.getElem?_eq_getElem c, List.getElem?_eq_getElem (hl ▸ c)]
      exact congrArg some this
    · rw [List.getElem?_eq_none (by omega), List.getElem?_eq_none (by omega)]
  · rfl
section
variable {ks ks' : List Int} {ts : List (Str × List Int)} {rs : List DRow} {N : List Nat}
theorem Bent.same' (B : Bent ks ks' ts.length N) {j : Nat} (hj : j < 12 ∨ 12 + 16 * ts.length ≤ j ∨ ∃ i c, j = 12 + 16 * i + c ∧ c < 16 ∧ (c < 4 ∨ 8 ≤ c)) : ks'.getD j 0 = ks.getD j 0 := B.same j fun i hi => by
  have := B.lt i hi
  rcases hj with h | h | ⟨a, c, h, h2, h3⟩
  · omega
  · omega
  · by_cases e : a = i
    · omega
    · omega
theorem Bent.row (B : Bent ks ks' ts.length N) (i : Nat) : (rowOf ks' i).tag = (rowOf ks i).tag ∧ (rowOf ks' i).place = (rowOf ks i).place ∧ (rowOf ks' i).size = (rowOf ks i).size ∧ partL ks' (12 + 16 * i) 4 = partL ks (12 + 16 * i) 4 := by
  have e : partL ks' (12 + 16 * i) 4 = partL ks (12 + 16 * i) 4 := partL_eq B.len fun k h0 h1 => B.same' (.inr (.inr ⟨i, k - (12 + 16 * i), by omega, by omega, by omega⟩))
  have s : ∀ c, c < 16 → 8 ≤ c → ks'.getD (12 + 16 * i + c) 0 = ks.getD (12 + 16 * i + c) 0 := fun c h0 h1 => B.same' (.inr (.inr ⟨i, c, rfl, h0, .inr h1⟩))
  refine ⟨?_, ?_, ?_, e⟩
  · show txt _ = txt _; rw [e]
  · exact g32_eq (s 8 (by omega) (by omega)) (s 9 (by omega) (by omega)) (s 10 (by omega) (by omega)) (s 11 (by omega) (by omega))
  · exact g32_eq (s 12 (by omega) (by omega)) (s 13 (by omega) (by omega)) (s 14 (by omega) (by omega)) (s 15 (by omega) (by omega))
theorem Bent.num (B : Bent ks ks' ts.length N) : g16 ks' 4 = g16 ks 4 := g16_eq (B.same' (.inl (by omega))) (B.same' (.inl (by omega)))
theorem Bent.dir (B : Bent ks ks' ts.length N) (F : FontOk ks ts rs) : DirOk ks' := by
  have e0 : g32 ks' 0 = g32 ks 0 := g32_eq (B.same' (.inl (by omega))) (B.same' (.inl (by omega))) (B.same' (.inl (by omega))) (B.same' (.inl (by omega)))
  refine ⟨by rw [B.len]; exact F.dir.1, ?_, fun i hi => ?_⟩
  · have := F.dir.2.1; rw [VerOk] at this ⊢; rw [e0]; exact this
  · rw [B.num] at hi
    have q := F.dir.2.2 i hi
    have r := B.row i
    refine ⟨by rw [B.len]; exact q.1, by rw [r.2.2.2]; exact q.2.1, ?_⟩
    rw [B.len]
    have h1 : g32 ks' (12 + 16 * i + 8) = g32 ks (12 + 16 * i + 8) := r.2.1
    have h2 : g32 ks' (12 + 16 * i + 12) = g32 ks (12 + 16 * i + 12) := r.2.2.1
    rw [h1, h2]; exact q.2.2
theorem Bent.wrong (B : Bent ks ks' ts.length N) (F : FontOk ks ts rs) : wrongL ks' = wholeL rs ks' ++ sortS (N.map fun i => (rowOf ks i).tag) := by
  have nn : (g16 ks' 4).toNat = ts.length := by rw [B.num]; exact F.nn
  have e2 : headN ks' ts.length = hasHead rs := by
    rw [← F.rlen]
    exact head_same fun i hi => ⟨_, (F.get (F.rlen ▸ hi)).1, (B.row i).1⟩
  have p : (wrongN ks' ts.length).Perm (N.map fun i => (rowOf ks' i).tag) := wrong_perm B.nod B.lt fun i hi => by
    have q := F.get hi
    have r := B.row i
    have e3 : partL ks' (rowOf ks' i).place.toNat (rowOf ks' i).size.toNat = ts[i].2 := by
      rw [r.2.1, r.2.2.1, ← q.2.2.2.2.2]
      exact partL_eq B.len fun k h0 h1 => B.same' (.inr (.inl (by have := q.2.2.2.1; omega)))
    have e4 : rowSum ks' (rowOf ks' i) = (rowOf ks i).sum := by
      rw [rowSum, e3, r.1, q.2.1, wsum_eq, q.2.2.1]; rfl
    rw [e4]
    constructor
    · intro c
      apply Classical.byContradiction
      intro hN
      refine c ?_
      have s : ∀ k, k < 4 → ks'.getD (12 + 16 * i + 4 + k) 0 = ks.getD (12 + 16 * i + 4 + k) 0 := fun k hk => B.same _ fun j hj => by
        have : j ≠ i := fun e => hN (e ▸ hj)
        omega
      exact (g32_eq (s 0 (by omega)) (s 1 (by omega)) (s 2 (by omega)) (s 3 (by omega))).symm
    · intro hi c
      exact B.other i hi c.symm
  have e5 : (fun i => (rowOf ks' i).tag) = fun i => (rowOf ks i).tag := funext fun i => (B.row i).1
  rw [e5] at p
  rw [wrongL, nn, e2, wsum_eq, wholeL, sortS_perm p]
end
/-- one told sum bent -/
def bendL (ks : List Int) (j : Nat) (x : Int) : List Int := ks.take j ++ [x] ++ ks.drop (j + 1)
theorem bend_len {ks : List Int} {j : Nat} {x : Int} (h : j < ks.length) : (bendL ks j x).length = ks.length := by
  rw [bendL, List.length_append, List.length_append, List.length_take, List.length_drop]; simp; omega
theorem bend_at {ks : List Int} {j : Nat} {x : Int} (h : j < ks.length) : (bendL ks j x).getD j 0 = x := by
  have : (ks.take j).length + 0 = j := by rw [List.length_take]; omega
  rw [bendL, List.append_assoc]
  conv => lhs; arg 2; rw [← this]
  rw [getD_app]; rfl
theorem bend_off {ks : List Int} {j k : Nat} {x : Int} (h : j < ks.length) (hk : k ≠ j) : (bendL ks j x).getD k 0 = ks.getD k 0 := by
  have hj : (ks.take j).length = j := by rw [List.length_take]; omega
  rw [bendL]
  by_cases c : k < j
  · rw [List.append_assoc, getD_left (by omega), List.getD_eq_getElem?_getD, List.getElem?_take, if_pos c, List.getD_eq_getElem?_getD]
  · have e : k = (ks.take j ++ [x]).length + (k - (j + 1)) := by rw [List.length_append, hj]; show k = j + 1 + _; omega
    rw [e, getD_app, getD_drop', ← e]
    congr 1; omega
theorem Bent.nil {ks : List Int} {n : Nat} : Bent ks ks n [] := ⟨rfl, .nil, (fun _ h => nomatch h), (fun _ _ => rfl), (fun _ h => nomatch h)⟩
theorem lt4 {P : Nat → Prop} (h0 : P 0) (h1 : P 1) (h2 : P 2) (h3 : P 3) : ∀ c, c < 4 → P c
  | 0, _ => h0 | 1, _ => h1 | 2, _ => h2 | 3, _ => h3
theorem g32_pieces {a b c d a' b' c' d' : Int} (h0 : 0 ≤ a ∧ a < 256) (h1 : 0 ≤ b ∧ b < 256) (h2 : 0 ≤ c ∧ c < 256) (h3 : 0 ≤ d ∧ d < 256) (k0 : 0 ≤ a' ∧ a' < 256) (k1 : 0 ≤ b' ∧ b' < 256) (k2 : 0 ≤ c' ∧ c' < 256) (k3 : 0 ≤ d' ∧ d' < 256)
    (e : (a * 256 + b) * 65536 + (c * 256 + d) = (a' * 256 + b') * 65536 + (c' * 256 + d')) : a = a' ∧ b = b' ∧ c = c' ∧ d = d' := by omega
theorem g32_inj {u v : List Int} {p : Nat} (hu : ∀ c, c < 4 → 0 ≤ u.getD (p + c) 0 ∧ u.getD (p + c) 0 < 256) (hv : ∀ c, c < 4 → 0 ≤ v.getD (p + c) 0 ∧ v.getD (p + c) 0 < 256) (e : g32 u p = g32 v p) : ∀ c, c < 4 → u.getD (p + c) 0 = v.getD (p + c) 0 := by
  obtain ⟨e0, e1, e2, e3⟩ := g32_pieces (hu 0 (by decide)) (hu 1 (by decide)) (hu 2 (by decide)) (hu 3 (by decide)) (hv 0 (by decide)) (hv 1 (by decide)) (hv 2 (by decide)) (hv 3 (by decide)) e
  exact lt4 e0 e1 e2 e3
theorem Bent.step {ks ks' : List Int} {n i k : Nat} {x : Int} {N : List Nat} (B : Bent ks ks' n N) (hi : i < n) (hn : i ∉ N) (hk : k < 4) (hl : 12 + 16 * n ≤ ks.length) (hin : ∀ j, 0 ≤ ks'.getD j 0 ∧ ks'.getD j 0 < 256) (hx0 : 0 ≤ x) (hx1 : x < 256) (hx : x ≠ ks'.getD (12 + 16 * i + 4 + k) 0) :
    Bent ks (bendL ks' (12 + 16 * i + 4 + k) x) n (N ++ [i]) := by
  have hj : 12 + 16 * i + 4 + k < ks'.length := by rw [B.len]; omega
  have off : ∀ c, c ≠ 12 + 16 * i + 4 + k → (bendL ks' (12 + 16 * i + 4 + k) x).getD c 0 = ks'.getD c 0 := fun c hc => bend_off hj hc
  refine ⟨by rw [bend_len hj, B.len], ?_, ?_, ?_, ?_⟩
  · rw [List.nodup_append]
    exact ⟨B.nod, by simp, fun a ha b hb e => hn (by rw [← List.mem_singleton.mp hb, ← e]; exact ha)⟩
  · intro a ha
    rcases List.mem_append.mp ha with ha | ha
    · exact B.lt a ha
    · rw [List.mem_singleton.mp ha]; exact hi
  · intro j h
    rw [off j (by have := h i (List.mem_append_right _ (.head _)); omega)]
    exact B.same j fun a ha => h a (List.mem_append_left _ ha)
  · intro a ha
    by_cases e : a = i
    · subst e
      have s : ∀ c, c < 4 → ks'.getD (12 + 16 * a + 4 + c) 0 = ks.getD (12 + 16 * a + 4 + c) 0 := fun c hc => B.same _ fun b hb => by
        have : b ≠ a := fun e => hn (e ▸ hb)
        omega
      intro heq
      have hb : ∀ c, 0 ≤ (bendL ks' (12 + 16 * a + 4 + k) x).getD c 0 ∧ (bendL ks' (12 + 16 * a + 4 + k) x).getD c 0 < 256 := fun c => by
        by_cases e : c = 12 + 16 * a + 4 + k
        · rw [e, bend_at hj]; exact ⟨hx0, hx1⟩
        · rw [off c e]; exact hin c
      have hs : ∀ c, c < 4 → 0 ≤ ks.getD (12 + 16 * a + 4 + c) 0 ∧ ks.getD (12 + 16 * a + 4 + c) 0 < 256 := fun c hc => by rw [← s c hc]; exact hin _
      have q := g32_inj (fun c _ => hb _) hs heq
      exact hx (((bend_at hj).symm.trans (q k hk)).trans (s k hk).symm)
    · have ha' : a ∈ N := by
        rcases List.mem_append.mp ha with ha | ha
        · exact ha
        · exact absurd (List.mem_singleton.mp ha) e
      have := B.other a ha'
      rw [g32_eq (off _ (by omega)) (off _ (by omega)) (off _ (by omega)) (off _ (by omega))]
      exact this
-- PR
theorem ver_bad {ks : List Int} (hin : ∀ j, 0 ≤ ks.getD j 0 ∧ ks.getD j 0 < 256) : ¬ TabOk ([0, 2] ++ ks.drop 2) := by
  rintro ⟨⟨_, h, _⟩, _⟩
  have e : g32 ([0, 2] ++ ks.drop 2) 0 = 131072 + g16 (ks.drop 2) 0 := by
    show (0 * 256 + 2) * 65536 + g16 ([0, 2] ++ ks.drop 2) (([0, 2] : List Int).length + 0) = _
    rw [g16_app]; omega
  have a := hin 2
  have b := hin 3
  rw [VerOk, e, g16, getD_drop', getD_drop'] at h
  simp only [Nat.add_zero, Nat.zero_add, Nat.reduceAdd] at h
  omega
theorem getD_take {ks : List Int} {c j : Nat} (h : j < c) : (ks.take c).getD j 0 = ks.getD j 0 := by
  rw [List.getD_eq_getElem?_getD, List.getElem?_take, if_pos h, List.getD_eq_getElem?_getD]
section
variable {ks : List Int} {ts : List (Str × List Int)} {rs : List DRow}
theorem cut_bad (F : FontOk ks ts rs) {c : Nat} (hc : c < (if ts = [] then 6 else 12 + 16 * ts.length)) : ¬ TabOk (ks.take c) := by
  rintro ⟨⟨h6, _, hr⟩, _⟩
  rw [List.length_take] at h6
  split at hc
  · omega
  · rename_i hne
    have hp : 0 < ts.length := List.length_pos_iff.mpr hne
    have e : g16 (ks.take c) 4 = ts.length := by
      rw [← F.num]; exact g16_eq (getD_take (by omega)) (getD_take (by omega))
    have := (hr (ts.length - 1) (by rw [e]; omega)).1
    rw [List.length_take] at this
    omega
theorem sign_bad (F : FontOk ks ts rs) {i : Nat} (hi : i < ts.length) {x : Int} (hx : x = 31 ∨ x = 127 ∨ x = 200) : ¬ TabOk (bendL ks (12 + 16 * i + 2) x) := by
  rintro ⟨⟨_, _, hr⟩, _⟩
  have low := F.low
  have hj : 12 + 16 * i + 2 < ks.length := by omega
  have e : g16 (bendL ks (12 + 16 * i + 2) x) 4 = ts.length := by
    rw [← F.num]; exact g16_eq (bend_off hj (by omega)) (bend_off hj (by omega))
  have h := (hr i (by rw [e]; omega)).2.1
  have m : x ∈ partL (bendL ks (12 + 16 * i + 2) x) (12 + 16 * i) 4 := by
    have q := bend_at (x := x) hj
    rw [List.getD_eq_getElem?_getD, List.getElem?_eq_getElem (by rw [bend_len hj]; exact hj)] at q
    refine List.mem_of_getElem? (i := 2) ?_
    rw [partL, List.getElem?_take, if_pos (by omega), List.getElem?_drop, List.getElem?_eq_getElem (by rw [bend_len hj]; exact hj)]
    exact congrArg some q
  have := h x m
  omega
theorem far_bad (F : FontOk ks ts rs) {i : Nat} (hi : i < ts.length) : ¬ TabOk (ks.take (12 + 16 * i + 8) ++ p32 ((ks.length : Int) - 1) ++ p32 2 ++ ks.drop (12 + 16 * i + 16)) := by
  rintro ⟨⟨_, _, hr⟩, _⟩
  have low := F.low
  have top := F.top
  have hl : (ks.take (12 + 16 * i + 8)).length = 12 + 16 * i + 8 := by rw [List.length_take]; omega
  have e : g16 (ks.take (12 + 16 * i + 8) ++ p32 ((ks.length : Int) - 1) ++ p32 2 ++ ks.drop (12 + 16 * i + 16)) 4 = ts.length := by
    have q : ∀ j, j < 12 → (ks.take (12 + 16 * i + 8) ++ p32 ((ks.length : Int) - 1) ++ p32 2 ++ ks.drop (12 + 16 * i + 16)).getD j 0 = ks.getD j 0 := fun j h => by
      rw [List.append_assoc, List.append_assoc, getD_left (by omega), getD_take (by omega)]
    rw [← F.num]; exact g16_eq (q _ (by omega)) (q _ (by omega))
  have h := (hr i (by rw [e]; omega)).2.2
  have w1 : g32 (ks.take (12 + 16 * i + 8) ++ p32 ((ks.length : Int) - 1) ++ p32 2 ++ ks.drop (12 + 16 * i + 16)) (12 + 16 * i + 8) = ks.length - 1 := by
    have q := g32_app (ks.take (12 + 16 * i + 8)) (p32 ((ks.length : Int) - 1) ++ (p32 2 ++ ks.drop (12 + 16 * i + 16))) 0
    rw [g32_p32 (by omega) (by omega), hl, Nat.add_zero] at q
    rw [List.append_assoc, List.append_assoc]; exact q
  have w2 : g32 (ks.take (12 + 16 * i + 8) ++ p32 ((ks.length : Int) - 1) ++ p32 2 ++ ks.drop (12 + 16 * i + 16)) (12 + 16 * i + 12) = 2 := by
    have q := g32_app (ks.take (12 + 16 * i + 8) ++ p32 ((ks.length : Int) - 1)) (p32 2 ++ ks.drop (12 + 16 * i + 16)) 0
    rw [g32_p32 (by omega) (by omega), List.length_append, hl, p32_len, Nat.add_zero] at q
    rw [List.append_assoc (ks.take (12 + 16 * i + 8) ++ p32 ((ks.length : Int) - 1))]; exact q
  rw [w1, w2] at h
  simp only [List.length_append, hl, p32_len, List.length_drop] at h
  omega
theorem twice_bad (F : FontOk ks ts rs) (hin : ∀ j, 0 ≤ ks.getD j 0 ∧ ks.getD j 0 < 256) (hi : 0 < ts.length) (hn : ts.length ≤ 4) : ¬ TabOk (ks.take 5 ++ [ks.getD 5 0 + 1] ++ (ks.drop 6).take 6 ++ (ks.drop 12).take 16 ++ ks.drop 12) := by
  rintro ⟨_, ht⟩
  have low := F.low
  have num := F.num
  have l0 : (ks.take 5).length = 5 := by rw [List.length_take]; omega
  have l1 : ((ks.drop 6).take 6).length = 6 := by rw [List.length_take, List.length_drop]; omega
  have l2 : ((ks.drop 12).take 16).length = 16 := by rw [List.length_take, List.length_drop]; omega
  have b4 := hin 4
  have b5 := hin 5
  have e : g16 (ks.take 5 ++ [ks.getD 5 0 + 1] ++ (ks.drop 6).take 6 ++ (ks.drop 12).take 16 ++ ks.drop 12) 4 = ts.length + 1 := by
    have e1 : (ks.take 5 ++ [ks.getD 5 0 + 1] ++ (ks.drop 6).take 6 ++ (ks.drop 12).take 16 ++ ks.drop 12).getD 4 0 = ks.getD 4 0 := by
      simp only [List.append_assoc]
      rw [getD_left (by omega), getD_take (by omega)]
    have e2 : (ks.take 5 ++ [ks.getD 5 0 + 1] ++ (ks.drop 6).take 6 ++ (ks.drop 12).take 16 ++ ks.drop 12).getD 5 0 = ks.getD 5 0 + 1 := by
      have q := getD_app (ks.take 5) ([ks.getD 5 0 + 1] ++ ((ks.drop 6).take 6 ++ ((ks.drop 12).take 16 ++ ks.drop 12))) 0
      rw [l0] at q
      simp only [List.append_assoc]
      exact q
    rw [g16] at num ⊢
    simp only [Nat.reduceAdd] at num ⊢
    rw [e1, e2]
    omega
  refine ht 0 1 (by omega) (by rw [e]; omega) ?_
  show txt (partL _ 12 4) = txt (partL _ 28 4)
  congr 1
  have q1 := partL_app (ks.take 5 ++ [ks.getD 5 0 + 1] ++ (ks.drop 6).take 6) ((ks.drop 12).take 16 ++ ks.drop 12) 0 4
  have q2 := partL_app (ks.take 5 ++ [ks.getD 5 0 + 1] ++ (ks.drop 6).take 6 ++ (ks.drop 12).take 16) (ks.drop 12) 0 4
  have h1 : (ks.take 5 ++ [ks.getD 5 0 + 1] ++ (ks.drop 6).take 6).length = 12 := by simp only [List.length_append, l0, l1]; rfl
  rw [h1, Nat.add_zero, ← List.append_assoc] at q1
  rw [List.length_append, h1, l2, Nat.add_zero] at q2
  rw [q1, q2, partL_left (by omega)]
  rw [partL, partL, List.drop_zero, List.drop_zero, List.take_take]; rfl
end
-- OB
theorem cellsFrom_acc : ∀ (names : List (Str × NameKind)) (n : Nat) (acc : List (Str × Addr)), cellsFrom n names acc = cellsFrom n names [] ++ acc
  | [], _, _ => rfl
  | (name, kind) :: r, n, acc => by
    unfold cellsFrom
    split
    · rw [cellsFrom_acc r (n + 1) ((name, n) :: acc), cellsFrom_acc r (n + 1) [(name, n)], List.append_assoc]; rfl
    · exact cellsFrom_acc r n acc
theorem cellsAre_above {cm : Str → Option Value} {C : Addr} : ∀ {cs : List (Str × Addr)} {cells : List (Addr × Obj)}, CellsAre cm cs cells → (∀ n c, (n, c) ∈ cs → @LT.lt Nat _ C c) → ∀ p ∈ cells, @LT.lt Nat _ C p.1
  | _, _, .nil, _, p, h => nomatch h
  | _, _, .cons (n := n) (c := c) hd r, hb, p, h => by
    rcases List.mem_cons.mp h with rfl | h
    · exact hb n c (.head _)
    · exact cellsAre_above r (fun n c hm => hb n c (.tail _ hm)) p h
section
variable {M : Model} {A : Around} {E : Value → Shared → Prop} {s : Shared}
/-- the scope of a comprehension some of whose names are cells -/
theorem compEnv_cells {scope : Scope} {globals : Addr} {cl : List (Str × Addr)} {qual : Str} {env : Env} {Q : Env → Shared → Prop}
    (h : ∀ h₁, h₁.Ns s.heap.objs.size (fun _ => none) → (∀ b o, s.heap.get? b = some o → h₁.get? b = some o) → (∀ n c, (n, c) ∈ cellsFrom (s.heap.objs.size + 1) scope.names [] → h₁.IsCell c none ∧ @LT.lt Nat _ s.heap.objs.size c) →
      Q { scope, locals := s.heap.objs.size, globals, cells := cellsFrom (s.heap.objs.size + 1) scope.names cl, qual, func := none, code := env.code, frame := env.frame, builtins := env.builtins } { s with heap := h₁ }) :
    wpAny M A (newFunctionEnv scope globals cl [] qual none .none (some env)) Q E s := by
  simp only [newFunctionEnv, Option.isSome_some, if_true]
  refine wpAny_bind (wpAny_alloc ?_)
  refine wpAny_bind (wpAny_layCells _ (fun name kind cells => by cases hkc : kind == NameKind.cell <;> simp [hkc]) _ _ _ _ ?_)
  have ok := cellsFrom_ok scope.names (s.heap.push { cls := .type "dict", data := .dict #[] }) (s.heap.objs.size + 1) [] ⟨fun _ _ hm => (nomatch hm), List.Pairwise.nil⟩ (by rw [Heap.size_push]; exact Nat.le_refl _)
  rw [Heap.size_push] at ok
  rw [show ({ s with heap := s.heap.push { cls := .type "dict", data := .dict #[] } } : Shared).heap.objs.size = s.heap.objs.size + 1 from Heap.size_push ..]
  refine wpAny_bind ?_
  rw [List.forIn_nil]
  refine wpAny_pure (wpAny_pure ?_)
  exact h _ ((Heap.Ns.new s.heap (.type "dict")).keeps (pushCells_keeps _ _)) (fun b o e => pushCells_keeps _ _ b o (Heap.get?_push_of_some _ e)) fun n c hm => ok.empty n c hm
end
section
variable {prog : Program} {w : World} {A : Around} {E : Value → Shared → Prop} {s : Shared} {h₀ : Heap} {L : Addr} {m : Str → Option Value} {env : Env}
/-- what a turn of a comprehension leaves, where the test fails -/
def SiftEnd (h₀ : Heap) (L : Addr) (m : Str → Option Value) (s₁ : Shared) (I C D : Addr) (oI : Obj) (J : List (Addr × Obj) → Prop) (ok : Bool) (s₂ : Shared) : Prop :=
  ok = false ∧ ∃ h' tk oC mC nx, s₂ = { s₁ with heap := h', toks := tk } ∧ Fr h₀ L h' m ∧ LCg.NsObj oC mC ∧ News h₀ L h' ((I, oI) :: (C, oC) :: (D, LCg.lst []) :: nx) ∧ LCg.Off3 I C D nx ∧ J nx
/-- a comprehension over a list of the ledger, no item of which passes the test; the target is kept raw -/
theorem sift_block {ct elt target iter : Expr} {scope : Scope} {cl : List (Str × Addr)} {pos : Pos} {s₂ : Shared} {l : Addr} {vs : List Value} {nn : Nat} {news : List (Addr × Obj)} {RR : Value → Addr → Result → Shared → Prop} (J : Nat → List (Addr × Obj) → Addr → List (Str × Addr) → Prop)
    (hh : A.handled = none) (hl : ∀ i nx C CL, J i nx C CL → (l, listOf vs.toArray nn) ∈ nx)
    (F : Fr h₀ L s₂.heap m) (N : News h₀ L s₂.heap news) (hml : (l, listOf vs.toArray nn) ∈ news)
    (hJ : ∀ C cells, (∀ p ∈ news, @LT.lt Nat _ p.1 C) → CellsAre (fun _ => none) (cellsFrom (C + 1) scope.names []) cells → (∀ p ∈ cells, @LT.lt Nat _ C p.1) → J 0 (cells ++ news) C (cellsFrom (C + 1) scope.names [] ++ cl))
    (turn : ∀ i v nx I oI C oC mC D CL h tk E', i < vs.length → vs[i]? = some v → J i nx C CL → LCg.NsObj oC mC → Fr h₀ L h m → News h₀ L h ((I, oI) :: (C, oC) :: (D, LCg.lst []) :: nx) → LCg.Off3 I C D nx → ((@Ne Nat I C) ∧ (@Ne Nat I D) ∧ (@Ne Nat C D)) →
      wpAny (model prog w) A (assign target (compEnvC scope CL C env) v) (fun _ s₃ => wpAny (model prog w) A (isTrue ct (compEnvC scope CL C env) (eval ct (compEnvC scope CL C env)))
        (SiftEnd h₀ L m { s₂ with heap := h, toks := tk } I C D oI (fun nx => J (i + 1) nx C CL)) E' s₃) E' { s₂ with heap := h, toks := tk })
    (hRR : ∀ D C CL h tk m' nx, Fr h₀ L h m → News h₀ L h ((D, LCg.lst []) :: nx) → LCg.Off1 D nx → h.Ns C m' → h₀.get? C = none → h₀.get? D = none → C ≠ L → D ≠ L → C ≠ D → (∀ p ∈ nx, p.1 ≠ C) → J vs.length nx C CL → RR (.ref D) C (.ok .next) { s₂ with heap := h, toks := tk }) :
    wpAny (model prog w) A (pyIter (.ref l)) (fun it s₂' => wpAny (model prog w) A (newList []) (fun acc s₃ => wpAny (model prog w) A (newFunctionEnv scope env.globals cl [] env.qual none .none (some env)) (fun cenv s₄ =>
      codeAny (model prog w) A (.compStart (.ListComp elt [⟨target, iter, [ct], 0⟩] scope pos) 0 it acc { cenv with scope := relabel scope env }) (RR acc cenv.locals) s₄) E s₃) E s₂') E s₂ := by
  have hll : s₂.heap.IsList l vs.toArray := ⟨_, (N _ hml).1, rfl, nn, rfl⟩
  have hlt0 : @LT.lt Nat _ l s₂.heap.objs.size := Heap.lt_size (N _ hml).1
  refine wpAny_pyIter_list hll ?_
  generalize hI : s₂.heap.objs.size = I at hlt0
  refine wpAny_newObj_type (compEnv_cells fun h₁ hns₁ hk₁ hcs₁ => ?_)
  dsimp only at hns₁ hk₁ hcs₁ ⊢
  have hD : (s₂.heap.push { cls := .type "list_iterator", data := .fields #[.ref l, .int 0 0] }).objs.size = I + 1 := by rw [Heap.size_push, hI]
  rw [hD]
  have hC : ((s₂.heap.push { cls := .type "list_iterator", data := .fields #[.ref l, .int 0 0] }).push { cls := .type "list", dict := none, data := .seq #[] }).objs.size = I + 2 := by rw [Heap.size_push, hD]
  rw [hC] at hns₁ hcs₁ ⊢
  have old : ∀ b o, s₂.heap.get? b = some o → h₁.get? b = some o := fun b o e => hk₁ b o (Heap.get?_push_of_some _ (Heap.get?_push_of_some _ e))
  have lt2 : ∀ b o, s₂.heap.get? b = some o → @LT.lt Nat _ b I := fun b o e => hI ▸ Heap.lt_size e
  have hIo : h₁.get? I = some { cls := .type "list_iterator", data := .fields #[.ref l, .int 0 0] } := hk₁ _ _ (Heap.get?_push_of_some _ (by rw [← hI]; exact Heap.get?_push_size _ rfl))
  have hDo : h₁.get? (I + 1) = some (LCg.lst []) := hk₁ _ _ (by rw [← hD]; exact Heap.get?_push_size _ rfl)
  have fresh₀ : ∀ a, @LE.le Nat _ I a → h₀.get? a = none := fun a ha => by
    cases e : h₀.get? a with
    | none => rfl
    | some o' => exact absurd (lt2 a o' (F.keep a o' e)) (Nat.not_lt.mpr ha)
  have hLlt : @LT.lt Nat _ L I := hI ▸ F.ns.lt
  have hI₀ := fresh₀ I (Nat.le_refl _)
  have hC₀ := fresh₀ (I + 2) (by show I ≤ I + 2; omega)
  have hD₀ := fresh₀ (I + 1) (by show I ≤ I + 1; omega)
  obtain ⟨cells, NC, Y⟩ := Cl.news (h₀ := h₀) (L := L) (h := h₁) (cm := fun _ => none) (cs := cellsFrom (I + 2 + 1) scope.names []) F.above fun n c hm => ⟨(hcs₁ n c hm).1, by have := (hcs₁ n c hm).2; show @LT.lt Nat _ L c; omega⟩
  have hab := cellsAre_above Y fun n c hm => (hcs₁ n c hm).2
  have F₁ : Fr h₀ L h₁ m := F.keeps old
  obtain ⟨oC, heC, hoC⟩ := LCg.ns_obj hns₁
  have N₁ : News h₀ L h₁ ((I + 2, oC) :: (I + 1, LCg.lst []) :: (cells ++ news)) := fun p hp => by
    rcases List.mem_cons.mp hp with rfl | hp
    · exact ⟨heC, (by show @Ne Nat (I + 2) L; omega), hC₀⟩
    rcases List.mem_cons.mp hp with rfl | hp
    · exact ⟨hDo, (by show @Ne Nat (I + 1) L; omega), hD₀⟩
    rcases List.mem_append.mp hp with hp | hp
    · exact NC p hp
    · exact ⟨old _ _ (N p hp).1, (N p hp).2⟩
  have off₁ : LCg.Off3 I (I + 2) (I + 1) (cells ++ news) := LCg.Off3.of fun p hp => by
    rcases List.mem_append.mp hp with hp | hp
    · have := hab p hp
      exact ⟨(by show @Ne Nat p.1 I; omega), (by show @Ne Nat p.1 (I + 2); omega), (by show @Ne Nat p.1 (I + 1); omega)⟩
    · have := lt2 _ _ (N p hp).1
      exact ⟨(by show @Ne Nat p.1 I; omega), (by show @Ne Nat p.1 (I + 2); omega), (by show @Ne Nat p.1 (I + 1); omega)⟩
  have J₀ := hJ (I + 2) cells (fun p hp => by have := lt2 _ _ (N p hp).1; show @LT.lt Nat _ p.1 (I + 2); omega) Y hab
  rw [← cellsFrom_acc] at J₀
  generalize cellsFrom (I + 2 + 1) scope.names cl = CL at J₀ ⊢
  have W := Walks.list (prog := prog) (w := w) hh I l (Nat.ne_of_lt hlt0) vs.toArray
  have hIL : @Ne Nat L I := Nat.ne_of_lt hLlt
  have loop : ∀ s₃ : Shared, s₃ = { s₂ with heap := h₁ } →
      codeAny (model prog w) A (.compLoop (.ListComp elt [⟨target, iter, [ct], 0⟩] scope pos) 0 (.ref I) (.ref (I + 1)) (compEnvC scope CL (I + 2) env))
        (RR (.ref (I + 1)) (I + 2)) s₃ := by
    rintro s₃ rfl
    refine PySem.W.kct_loop
      (fun k s' => ∃ h' tk i oC mC nx, s' = { s₂ with heap := h', toks := tk } ∧ i ≤ vs.length ∧ k = vs.length + 1 - i ∧ (h'.IsListIter I l i ∧ h'.IsList l vs.toArray) ∧ Fr h₀ L h' m ∧ LCg.NsObj oC mC ∧
        News h₀ L h' ((I + 2, oC) :: (I + 1, LCg.lst []) :: nx) ∧ LCg.Off3 I (I + 2) (I + 1) nx ∧ J i nx (I + 2) CL) ?_ (vs.length + 1)
      ⟨h₁, _, 0, oC, _, cells ++ news, rfl, Nat.zero_le _, rfl, ⟨⟨_, hIo, rfl, rfl⟩, hll.at fun o e => old _ o e⟩, F₁, hoC, N₁, off₁, J₀⟩
    rintro k s' ⟨h', tk, i, oC, mC, nx, rfl, hi, rfl, hst', F', hoC', N', off', J'⟩
    have off3 := off'.mem
    by_cases hlt : i < vs.length
    · refine W.item i _ _ _ (by simpa using hlt) hst' fun v h₂ tk₂ hPv hst₂ hk₂ => ?_
      refine letGo_listiter hst₂.1 ?_
      obtain ⟨oI, heI, rI⟩ := id hst₂.1
      have F₂ : Fr h₀ L h₂ m := LCg.fr_but F' hk₂ hIL hI₀
      have N₂ : News h₀ L h₂ ((I, oI) :: (I + 2, oC) :: (I + 1, LCg.lst []) :: nx) := fun p hp => by
        rcases List.mem_cons.mp hp with rfl | hp
        · exact ⟨heI, Ne.symm hIL, hI₀⟩
        · refine LCg.news_but N' hk₂ (fun p hp => ?_) p hp
          rcases List.mem_cons.mp hp with rfl | hp
          · show @Ne Nat (I + 2) I; omega
          rcases List.mem_cons.mp hp with rfl | hp
          · show @Ne Nat (I + 1) I; omega
          · exact (off3 p hp).1
      refine wpAny_mono (turn i v nx I oI (I + 2) oC mC (I + 1) CL h₂ tk₂ _ hlt (by simpa using hPv) J' hoC' F₂ N₂ off' ⟨(by show @Ne Nat I (I + 2); omega), (by show @Ne Nat I (I + 1); omega), (by show @Ne Nat (I + 2) (I + 1); omega)⟩) (fun _ s₄ h₄ => ?_) fun _ _ e => e
      refine wpAny_mono h₄ (fun ok s₅ h₅ => ?_) fun _ _ e => e
      obtain ⟨rfl, h₆, tk₆, oC₆, mC₆, nx₆, rfl, F₆, hoC₆, N₆, off₆, J₆⟩ := h₅
      simp only [Bool.false_eq_true, if_false]
      refine ⟨vs.length + 1 - (i + 1), by omega, h₆, tk₆, i + 1, oC₆, mC₆, nx₆, rfl, hlt, rfl, ⟨⟨oI, (N₆ _ (.head _)).1, rI⟩, ⟨_, (N₆ _ (.tail _ (.tail _ (.tail _ (hl _ _ _ _ J₆))))).1, rfl, nn, rfl⟩⟩, F₆, hoC₆, fun p hp => N₆ p (.tail _ hp), off₆, J₆⟩
    · obtain rfl : i = vs.length := Nat.le_antisymm hi (Nat.not_lt.mp hlt)
      refine W.done _ _ _ (by simpa using hst') fun h₂ tk₂ hk₂ => ?_
      have N₂ : News h₀ L h₂ ((I + 2, oC) :: (I + 1, LCg.lst []) :: nx) := LCg.news_but N' hk₂ fun p hp => by
        rcases List.mem_cons.mp hp with rfl | hp
        · show @Ne Nat (I + 2) I; omega
        rcases List.mem_cons.mp hp with rfl | hp
        · show @Ne Nat (I + 1) I; omega
        · exact (off3 p hp).1
      exact hRR _ _ CL h₂ tk₂ _ nx (LCg.fr_but F' hk₂ hIL hI₀) (fun p hp => N₂ p (.tail _ hp)) off'.one (hoC'.ns (N₂ _ (.head _)).1) hC₀ hD₀ (by show @Ne Nat (I + 2) L; omega) (by show @Ne Nat (I + 1) L; omega) (by show @Ne Nat (I + 2) (I + 1); omega) (fun p hp => (off3 p hp).2.1) J'
  exact codeAny_compStart_list (loop _ rfl) (W.self 0 _ _ _ ⟨⟨_, hIo, rfl, rfl⟩, hll.at fun o e => old _ o e⟩ (loop _ rfl))
end
-- LB
/-- the same object but for its slots -/
def SlotsOf (o o' : Obj) : Prop := ∃ sl, o' = { o with slots := sl }
theorem SlotsOf.refl (o : Obj) : SlotsOf o o := ⟨o.slots, rfl⟩
theorem SlotsOf.trans {a b c : Obj} : SlotsOf a b → SlotsOf b c → SlotsOf a c := fun ⟨_, e⟩ ⟨y, e'⟩ => ⟨y, by rw [e', e]⟩
def NoFields (o : Obj) : Prop := ∀ vs, o.data ≠ .fields vs
section
variable {M : Model} {A : Around} {E : Value → Shared → Prop} {s : Shared} {h₀ : Heap} {L c P : Addr} {m mg mb : Str → Option Value} {news : List (Addr × Obj)} {g : Obj → List (Addr × Obj)}
  {p : Program} {loose : List Str} {mean : ExcName → Option Value} {params : Arguments} {body : Expr} {scope : Scope} {ps : Array Value} {pos : Pos} {clos : List (Str × Addr)} {env : Env} {Q : Value → Shared → Prop}
theorem tops_apart (F : Fr h₀ L s.heap m) (T : Top p loose mean mg mb h₀) {o : Obj} (hP : s.heap.get? P = some o) (hn : h₀.get? P = none) : mainGlobals ≠ P ∧ s.heap.BuiltinsAt mg P := by
  have key : ∀ b o, h₀.get? b = some o → b ≠ P := fun b o e q => by rw [q, hn] at e; cases e
  obtain ⟨og, es, ep, e, hd, r⟩ := id T.g
  obtain ⟨bm, ob, b1, b2, b3, b4, b5, b6⟩ := T.bmain
  refine ⟨key _ _ e, bm, ob, b1, b2, fun q => ?_, key _ _ b3, F.keep _ _ b3, b4, b5, b6⟩
  rw [q, e] at b3; cases b3; rw [hd] at b6; cases b6
/-- a lambda met for the first time, whatever the env -/
theorem lam_new (F : Fr h₀ L s.heap m) (N : News h₀ L s.heap news) (T : Top p loose mean mg mb h₀) (C : CodeHd h₀ c P) (hge : env.globals = mainGlobals) (hcd : env.code = .ref c) (hdef : defaultsOf params env = ([], [])) (U : UpdF P (tabObj ps) news g) (ht : TriplesOk ps.toList) (hnf : codeAmong pos ps.toList = none)
    (hcl : closureFor scope env = pure clos)
    (h : ∀ f c' oc vs t ctv h' tk, Fr h₀ L h' m →
      News h₀ L h' ((f, kla_obj "<lambda>" (env.qual ++ "<lambda>") params body scope clos ((mg "__name__").getD .none) c' ctv) :: (c', oc) :: g (tabObj (ps ++ #[rawInt pos.line, rawInt pos.col, .ref c']))) →
      oc.data = .fields vs → vs[1]? = some (.str (env.qual ++ "<lambda>") t) → (∀ q ∈ news, q.1 < c') → c' < f → Q (.ref f) { s with heap := h', toks := tk }) :
    wpAny M A (eval (.Lambda params body scope pos) env) Q E s := by
  obtain ⟨pre, post, rfl, hg, a, b⟩ := U.split
  have nP := N (P, tabObj ps) (List.mem_append_right _ (.head _))
  obtain ⟨hgP, hb⟩ := tops_apart F T nP.1 nP.2.2
  refine kla_eval hdef (kla_makeFunction (mg := mg) hcl hge (T.g.keeps F.keep) hcd (C.keeps F.keep) nP.1 ht hnf hgP hb fun c' ctv h' tk hx hge' hlt hrec htb => ?_)
  obtain ⟨_, oc, vs, t, e2, hoc, hd, hv⟩ := hrec
  cases e2
  have lLs : @LT.lt Nat _ L s.heap.objs.size := F.ns.lt
  have up : ∀ b o, h₀.get? b = some o → h'.get? b = some o := fun b o e => hx b o (fun q => by rw [q, nP.2.2] at e; cases e) (F.keep b o e)
  have none₀ : ∀ x, @LT.lt Nat _ L x → h₀.get? x = none := fun x hx => Heap.get?_none_of_le (Nat.le_trans F.above (Nat.le_of_lt hx))
  have lc : @LT.lt Nat _ L c' := Nat.lt_of_lt_of_le lLs hge'
  have lf : @LT.lt Nat _ L h'.objs.size := Nat.lt_trans lc hlt
  refine h h'.objs.size c' oc vs t ctv _ tk ⟨(F.ns.extBut hx (Ne.symm nP.2.1)).push _, fun b o e => Heap.get?_push_of_some _ (up b o e), F.above⟩ (fun q hq => ?_) hd hv (fun q hq => Nat.lt_of_lt_of_le (Heap.lt_size (N q hq).1) hge') hlt
  rcases List.mem_cons.mp hq with rfl | hq
  · exact ⟨Heap.get?_push_size _ rfl, Nat.ne_of_gt lf, none₀ _ lf⟩
  rcases List.mem_cons.mp hq with rfl | hq
  · exact ⟨Heap.get?_push_of_some _ hoc, Nat.ne_of_gt lc, none₀ _ lc⟩
  rw [hg] at hq
  rcases List.mem_append.mp hq with hq | hq
  · have n := N q (List.mem_append_left _ hq)
    exact ⟨Heap.get?_push_of_some _ (hx _ _ (a q hq) n.1), n.2⟩
  rcases List.mem_cons.mp hq with rfl | hq
  · exact ⟨Heap.get?_push_of_some _ htb, nP.2⟩
  · have n := N q (List.mem_append_right _ (.tail _ hq))
    exact ⟨Heap.get?_push_of_some _ (hx _ _ (b q hq) n.1), n.2⟩
/-- a lambda met again -/
theorem lam_old {c' : Addr} (F : Fr h₀ L s.heap m) (N : News h₀ L s.heap news) (T : Top p loose mean mg mb h₀) (C : CodeHd h₀ c P) (hge : env.globals = mainGlobals) (hcd : env.code = .ref c) (hdef : defaultsOf params env = ([], [])) (hm : (P, tabObj ps) ∈ news) (ht : TriplesOk ps.toList) (hf : codeAmong pos ps.toList = some (.ref c'))
    (hcl : closureFor scope env = pure clos)
    (h : ∀ f ctv h' tk, Fr h₀ L h' m → News h₀ L h' ((f, kla_obj "<lambda>" (env.qual ++ "<lambda>") params body scope clos ((mg "__name__").getD .none) c' ctv) :: news) → (∀ q ∈ news, q.1 < f) → Q (.ref f) { s with heap := h', toks := tk }) :
    wpAny M A (eval (.Lambda params body scope pos) env) Q E s := by
  have nP := N (P, tabObj ps) hm
  obtain ⟨hgP, hb⟩ := tops_apart F T nP.1 nP.2.2
  refine kla_eval hdef (kla_makeFunctionHit (mg := mg) hcl hge (T.g.keeps F.keep) hcd (C.keeps F.keep) nP.1 ht hf hb fun ctv h' tk hk hsz => ?_)
  have lf : @LT.lt Nat _ L h'.objs.size := Nat.lt_of_lt_of_le F.ns.lt hsz
  refine h h'.objs.size ctv _ tk ⟨(F.ns.keeps hk).push _, fun b o e => Heap.get?_push_of_some _ (hk b o (F.keep b o e)), F.above⟩ (fun q hq => ?_) (fun q hq => Nat.lt_of_lt_of_le (Heap.lt_size (N q hq).1) hsz)
  rcases List.mem_cons.mp hq with rfl | hq
  · exact ⟨Heap.get?_push_size _ rfl, Nat.ne_of_gt lf, Heap.get?_none_of_le (Nat.le_trans F.above (Nat.le_of_lt lf))⟩
  · exact ⟨Heap.get?_push_of_some _ (hk _ _ (N q hq).1), (N q hq).2⟩
end
section
variable {w : World} {E : Value → Shared → Prop} {s : Shared} {h₀ : Heap} {L Lf c : Addr} {m : Str → Option Value} {env fr : Env} {dp un lim : Nat} {gd : Option (List Code)} {p : Program} {loose : List Str} {mean : ExcName → Option Value} {mg mb : Str → Option Value} {news : List (Addr × Obj)} {g : Obj → List (Addr × Obj)} {oF : Obj}
theorem use_fell' {Q : Value → Shared → Prop} (C : FallsM w c lim s.heap) (hlim : lim ≤ 300) (F : Fr h₀ L s.heap m) (N : News h₀ L s.heap news) (U : UpdF Lf oF news g) (hoF : NoFields oF) (X : (kheap.heap_1 w.params).In h₀) (T : Top p loose mean mg mb h₀)
    (he : env.frame = some L) (hk : env.scope.kind = .function) (hfr : fr.frame = some Lf) (hfk : fr.scope.kind = .function) (hdp : dp + 1 + 400 ≤ 900) (hun : un + 3 + 20 * 400 ≤ 9000)
    (hQ : ∀ oF' h' tk', SlotsOf oF oF' → NoFields oF' → Fr h₀ L h' m → News h₀ L h' (g oF') → Q (.bool true) { s with heap := h', toks := tk' }) :
    wpAny (model PySem.Challenge.rw_on0235_01.row.prog w) ((At dp un gd [fr]).deeper env) (call (.ref 269) [.ref c]) Q E s :=
  use_fell C hlim F N U hoF X T he hk hfr hfk hdp hun fun sl h' tk' F' N' => hQ _ h' tk' ⟨sl, rfl⟩ hoF F' N'
end
theorem word_LB_1 : True := by
  (k_with "eval Lambda" => (k_here; (with_reducible show wpAny _ _ (eval (Expr.Lambda _ _ _ _) _) _ _ _); first | (k_dflt (refine' lam_new ?zzF ?zzN ?zzT ?zzC ?zzge ?zzcd ?zzd0 ?zzU ?zzt ?zzn ?zzcl ?_; (case zzF => k_asm); (case zzN => k_asm); (case zzT => k_asm); (case zzge => exact rfl); (case zzcd => exact rfl); (case zzd0 => exact rfl); (case zzC => assumption); (case zzU => k_updF); (case zzt => kn_triples); (case zzn => kn_among); (case zzcl => exact rfl)); intro f9 c9 oc9 vs9 t9 ct9 h9 tk9 F9 N9 d91 d92 l91 l92; (try dsimp only at N9); (try simp only [Array.empty_append, List.append_toArray, List.cons_append, List.nil_append] at N9); (try k_lt l91); (try k_lt2 l92)) | (k_dflt (refine' lam_old ?zzF ?zzN ?zzT ?zzC ?zzge ?zzcd ?zzd0 ?zzmem ?zzt ?zzn ?zzcl ?_; (case zzF => k_asm); (case zzN => k_asm); (case zzT => k_asm); (case zzge => exact rfl); (case zzcd => exact rfl); (case zzd0 => exact rfl); (case zzC => assumption); (case zzmem => k_mem); (case zzt => kn_triples); (case zzn => kn_hit); (case zzcl => exact rfl)); intro f9 ct9 h9 tk9 F9 N9 l91; (try dsimp only at N9); (try k_lt l91)); (first | (revert f9 c9 oc9 vs9 t9 ct9 h9 tk9 F9 N9 d91 d92 l91 l92; intros) | skip)))
  trivial
theorem word_LB_2 : True := by
  (k_with "call ref" => (k_here; (with_reducible show wpAny _ _ (call (Value.ref 269) [Value.ref _]) _ _ _); refine StopLoop.mk ?_))
  trivial
-- GR
abbrev tupV (vs : List Value) : Obj := { cls := .type "tuple", data := .seq vs.toArray }
/-- a pair of a tag and octets stands in the ledger -/
def TabIn (ps : List (Addr × Obj)) (v : Value) (a : Str × List Int) : Prop := ∃ (x : Addr) (b : Array UInt8) (t u : Tok), v = .ref x ∧ (x, tupV [.str a.1 t, .bytes b u]) ∈ ps ∧ KBw.bInts b = a.2
def TabsAre (ps : List (Addr × Obj)) : List Value → List (Str × List Int) → Prop
  | [], [] => True
  | v :: vs, a :: ts => TabIn ps v a ∧ TabsAre ps vs ts
  | _, _ => False
theorem tabIn_mono {ps qs : List (Addr × Obj)} {v : Value} {a : Str × List Int} (h : ∀ p ∈ ps, p ∈ qs) : TabIn ps v a → TabIn qs v a := fun ⟨x, b, t, u, e, m, r⟩ => ⟨x, b, t, u, e, h _ m, r⟩
theorem tabs_mono {ps qs : List (Addr × Obj)} (h : ∀ p ∈ ps, p ∈ qs) : ∀ {vs : List Value} {ts : List (Str × List Int)}, TabsAre ps vs ts → TabsAre qs vs ts
  | [], [], _ => trivial
  | _ :: _, _ :: _, ⟨a, b⟩ => ⟨tabIn_mono h a, tabs_mono h b⟩
  | [], _ :: _, x => x.elim
  | _ :: _, [], x => x.elim
theorem tabs_snoc {ps : List (Addr × Obj)} {v : Value} {a : Str × List Int} (hv : TabIn ps v a) : ∀ {vs : List Value} {ts : List (Str × List Int)}, TabsAre ps vs ts → TabsAre ps (vs ++ [v]) (ts ++ [a])
  | [], [], _ => ⟨hv, trivial⟩
  | _ :: _, _ :: _, ⟨x, y⟩ => ⟨x, tabs_snoc hv y⟩
  | [], _ :: _, x => x.elim
  | _ :: _, [], x => x.elim
theorem tabs_len {ps : List (Addr × Obj)} : ∀ {vs : List Value} {ts : List (Str × List Int)}, TabsAre ps vs ts → vs.length = ts.length
  | [], [], _ => rfl
  | _ :: _, _ :: _, ⟨_, y⟩ => congrArg (· + 1) (tabs_len y)
  | [], _ :: _, x => x.elim
  | _ :: _, [], x => x.elim
theorem tabs_rev {ps : List (Addr × Obj)} : ∀ {vs : List Value} {ts : List (Str × List Int)}, TabsAre ps vs ts → TabsAre ps vs.reverse ts.reverse
  | [], [], _ => trivial
  | _ :: _, _ :: _, ⟨x, y⟩ => by rw [List.reverse_cons, List.reverse_cons]; exact tabs_snoc x (tabs_rev y)
  | [], _ :: _, x => x.elim
  | _ :: _, [], x => x.elim
theorem tabs_item {ps : List (Addr × Obj)} : ∀ {vs : List Value} {ts : List (Str × List Int)}, TabsAre ps vs ts → ∀ {i : Nat} {v : Value}, vs[i]? = some v → ∃ a, ts[i]? = some a ∧ TabIn ps v a
  | [], [], _, _, _, h => by cases h
  | _ :: _, a :: _, ⟨x, _⟩, 0, _, h => ⟨a, rfl, by rw [← Option.some.inj h]; exact x⟩
  | _ :: _, _ :: _, ⟨_, y⟩, i + 1, _, h => tabs_item y (i := i) h
  | [], _ :: _, x, _, _, _ => x.elim
  | _ :: _, [], x, _, _, _ => x.elim
theorem new_of {B h s h' : Heap} {L src : Addr} {nx : List (Addr × Obj)} (N : News B L h' nx) (hBr : ∀ b o, b ≠ src → s.get? b = some o → B.get? b = some o) (hs : s = h) {p : Addr × Obj} (hp : p ∈ nx) (hne : p.1 ≠ src) : h'.get? p.1 = some p.2 ∧ h.get? p.1 = none := by
  subst hs
  refine ⟨(N p hp).1, ?_⟩
  cases e : s.get? p.1 with
  | none => rfl
  | some o => have := hBr _ _ hne e; rw [(N p hp).2.2] at this; cases this
/-- what is above the frame is new -/
theorem new_above' {h : Heap} {L a : Addr} (hL : L = h.objs.size) (hlt : @LT.lt Nat _ L a) : h.get? a = none := by
  cases e : h.get? a with
  | none => rfl
  | some o => exact absurd (Heap.lt_size e) (by rw [← hL]; exact Nat.lt_asymm hlt)
/-- a row's tuple stands in the ledger, above L -/
def TupIn (L : Addr) (ps : List (Addr × Obj)) (v : Value) (r : DRow) : Prop := ∃ (T : Addr) (t1 t2 t3 t4 : Tok), v = .ref T ∧ @LT.lt Nat _ L T ∧ (T, tupV [.str r.tag t1, .int r.sum t2, .int r.place t3, .int r.size t4]) ∈ ps
def TupsAre (L : Addr) (ps : List (Addr × Obj)) : List Value → List DRow → Prop
  | [], [] => True
  | v :: vs, a :: ts => TupIn L ps v a ∧ TupsAre L ps vs ts
  | _, _ => False
section
variable {L : Addr}
theorem tupIn_mono {ps qs : List (Addr × Obj)} {v : Value} {r : DRow} (h : ∀ p ∈ ps, p ∈ qs) : TupIn L ps v r → TupIn L qs v r := fun ⟨x, b, t, u, u2, e, lt, m⟩ => ⟨x, b, t, u, u2, e, lt, h _ m⟩
theorem tups_mono {ps qs : List (Addr × Obj)} (h : ∀ p ∈ ps, p ∈ qs) : ∀ {vs : List Value} {ts : List DRow}, TupsAre L ps vs ts → TupsAre L qs vs ts
  | [], [], _ => trivial
  | _ :: _, _ :: _, ⟨a, b⟩ => ⟨tupIn_mono h a, tups_mono h b⟩
  | [], _ :: _, x => x.elim
  | _ :: _, [], x => x.elim
theorem tups_snoc {ps : List (Addr × Obj)} {v : Value} {a : DRow} (hv : TupIn L ps v a) : ∀ {vs : List Value} {ts : List DRow}, TupsAre L ps vs ts → TupsAre L ps (vs ++ [v]) (ts ++ [a])
  | [], [], _ => ⟨hv, trivial⟩
  | _ :: _, _ :: _, ⟨x, y⟩ => ⟨x, tups_snoc hv y⟩
  | [], _ :: _, x => x.elim
  | _ :: _, [], x => x.elim
theorem tups_len {ps : List (Addr × Obj)} : ∀ {vs : List Value} {ts : List DRow}, TupsAre L ps vs ts → vs.length = ts.length
  | [], [], _ => rfl
  | _ :: _, _ :: _, ⟨_, y⟩ => congrArg (· + 1) (tups_len y)
  | [], _ :: _, x => x.elim
  | _ :: _, [], x => x.elim
theorem tups_item {ps : List (Addr × Obj)} : ∀ {vs : List Value} {ts : List DRow}, TupsAre L ps vs ts → ∀ {i : Nat} {v : Value}, vs[i]? = some v → ∃ a, ts[i]? = some a ∧ TupIn L ps v a
  | [], [], _, _, _, h => by cases h
  | _ :: _, a :: _, ⟨x, _⟩, 0, _, h => ⟨a, rfl, by rw [← Option.some.inj h]; exact x⟩
  | _ :: _, _ :: _, ⟨_, y⟩, i + 1, _, h => tups_item y (i := i) h
  | [], _ :: _, x, _, _, _ => x.elim
  | _ :: _, [], x, _, _, _ => x.elim
end
/-- a call that stores into src alone and reads what stands in fr -/
def GivesR (w : World) (f : Addr) (src : Addr) (fr : List (Addr × Obj)) (vs : List Value) (R : Heap → Value → Prop) (lim : Nat) (h : Heap) : Prop :=
  ∀ (dp un : Nat) (gd : Option (List Code)) (fs : List Env) (s : Shared) (Q E : Value → Shared → Prop) (g : Heap), s.heap = h → Amb w g → g.StaysIn s.heap → g.get? src = none → (∀ p ∈ fr, s.heap.get? p.1 = some p.2 ∧ g.get? p.1 = none ∧ p.1 ≠ src) → SrcOk s.heap src → dp + lim ≤ 900 → un + 20 * lim ≤ 9000 →
    (∀ v h' tk', (∀ b o, b ≠ src → s.heap.get? b = some o → h'.get? b = some o) → SrcOk h' src → R h' v → Q v { s with heap := h', toks := tk' }) →
    wpAny (model PySem.Challenge.rw_on0235_01.row.prog w) (At dp un gd fs) (call (.ref f) vs) Q E s
/-- the base of such a call, and its ledger -/
theorem base_read {w : World} {g h : Heap} {src : Addr} {fr : List (Addr × Obj)} (AM : Amb w g) (hk : g.StaysIn h) (hn : g.get? src = none) (hs : SrcOk h src) (hf : ∀ p ∈ fr, h.get? p.1 = some p.2 ∧ g.get? p.1 = none ∧ p.1 ≠ src) :
    ∃ B oS, SrcO oS ∧ B.StaysIn h ∧ B.objs.size ≤ h.objs.size ∧ (kheap.heap_1 w.params).In B ∧ (∃ (p : Program) (loose : List Str) (mean : ExcName → Option Value) (mg mb : Str → Option Value), Top p loose mean mg mb B) ∧ (∀ p ∈ (src, oS) :: fr, h.get? p.1 = some p.2 ∧ B.get? p.1 = none) ∧ (∀ b o, b ≠ src → (∀ p ∈ fr, b ≠ p.1) → h.get? b = some o → B.get? b = some o) := by
  obtain ⟨oS, h1, h2⟩ := hs
  obtain ⟨B, b1, b2, b3, b4, b5, b6⟩ := base_front ((src, oS) :: fr) AM hk (fun p hp => by
    rcases List.mem_cons.mp hp with rfl | hp
    · exact hn
    · exact (hf p hp).2.1)
  refine ⟨B, oS, h2, b1, b2, b3, b4, fun p hp => ⟨?_, b5 p hp⟩, fun b o hb hr q => b6 b o (fun p hp => ?_) q⟩
  · rcases List.mem_cons.mp hp with rfl | hp
    · exact h1
    · exact (hf p hp).1
  · rcases List.mem_cons.mp hp with rfl | hp
    · exact hb
    · exact hr p hp
theorem fin_read {B h h' : Heap} {src L : Addr} {m : Str → Option Value} {fr news : List (Addr × Obj)} (F : Fr B L h' m) (hr : ∀ b o, b ≠ src → (∀ p ∈ fr, b ≠ p.1) → h.get? b = some o → B.get? b = some o) (hf : ∀ p ∈ fr, h.get? p.1 = some p.2) (N : News B L h' news) (hm : ∀ p ∈ fr, p ∈ news) : ∀ b o, b ≠ src → h.get? b = some o → h'.get? b = some o := fun b o hb q => by
  by_cases hp : ∀ p ∈ fr, b ≠ p.1
  · exact F.keep b o (hr b o hb hp q)
  · simp only [Classical.not_forall, Decidable.not_not] at hp
    obtain ⟨p, hp, rfl⟩ := hp
    have e := hf p hp
    rw [q] at e
    rw [Option.some.inj e]
    exact (N p (hm p hp)).1
section
variable {w : World} {E : Value → Shared → Prop} {s : Shared} {p : Program} {loose : List Str} {mean : ExcName → Option Value} {mg mb : Str → Option Value} {h₀ : Heap} {L : Addr} {m : Str → Option Value} {news fr : List (Addr × Obj)} {f src : Addr} {vs : List Value} {R : Heap → Value → Prop} {lim dp un : Nat} {gd : Option (List Code)} {fs : List Env} {Q : Value → Shared → Prop} {g : Obj → List (Addr × Obj)} {o : Obj}
theorem use_read (C : GivesR w f src fr vs R lim s.heap) (F : Fr h₀ L s.heap m) (N : News h₀ L s.heap news) (hfr : ∀ p ∈ fr, p ∈ news ∧ p.1 ≠ src) (U : UpdF src o news g) (hSO : SrcO o) (X : (kheap.heap_1 w.params).In h₀) (T : Top p loose mean mg mb h₀) (hdp : dp + lim ≤ 900) (hun : un + 20 * lim ≤ 9000)
    (hQ : ∀ v o' h' tk', Fr h₀ L h' m → News h₀ L h' (g o') → SrcO o' → R h' v → Q v { s with heap := h', toks := tk' }) :
    wpAny (model PySem.Challenge.rw_on0235_01.row.prog w) (At dp un gd fs) (call (.ref f) vs) Q E s := by
  obtain ⟨pre, post, rfl, hg, a, b⟩ := U.split
  have hm := N (src, o) (List.mem_append_right _ (.head _))
  refine C dp un gd fs s Q E h₀ rfl ⟨X, p, loose, mean, mg, mb, T⟩ F.keep hm.2.2 (fun q hq => ⟨(N q (hfr q hq).1).1, (N q (hfr q hq).1).2.2, (hfr q hq).2⟩) ⟨o, hm.1, hSO⟩ hdp hun fun v h' tk' k ⟨o', ho', hSO'⟩ r => ?_
  refine hQ v o' h' tk' (fr_but F k hm.2.2 hm.2.1) ?_ hSO' r
  rw [hg]
  intro p hp
  rcases List.mem_append.mp hp with hp | hp
  · have := N p (List.mem_append_left _ hp)
    exact ⟨k _ _ (a p hp) this.1, this.2⟩
  rcases List.mem_cons.mp hp with rfl | hp
  · exact ⟨ho', hm.2⟩
  · have := N p (List.mem_append_right _ (.tail _ hp))
    exact ⟨k _ _ (b p hp) this.1, this.2⟩
end
/-- comprehension with a pair for target -/
theorem comp_indP {prog : Program} {w : World} {A : Around} {s : Shared} {h₀ : Heap} {L : Addr} {m : Str → Option Value} {env : Env} {elt : PySem.Expr} {x x₂ : Str} {scope : Scope} {cl : List (Str × Addr)} {S : List (Addr × Obj) → Prop} {P : Nat → Value → Prop} {Fin : List Value → List (Addr × Obj) → Prop} {n : Nat} (J : Nat → List Value → List (Addr × Obj) → Prop)
    (turn : ∀ i ys news v, i < n → J i ys news → P i v → ∃ (t : Addr) (ot : Obj) (v₁ v₂ : Value) (nt : Nat), v = .ref t ∧ (t, ot) ∈ news ∧ ot.cls = .type "tuple" ∧ ot.data = .seq #[v₁, v₂] nt ∧
      ∀ I oI C oC D m₂ h tk (E' : Value → Shared → Prop), LCg.NsObj oC m₂ → m₂ x = some v₁ → m₂ x₂ = some v₂ → Fr h₀ L h m → News h₀ L h ((I, oI) :: (C, oC) :: (D, LCg.lst ys) :: news) → LCg.Off3 I C D news → ((@Ne Nat I C) ∧ (@Ne Nat I D) ∧ (@Ne Nat C D)) →
      wpAny (model prog w) A (eval elt (compEnvC scope cl C env)) (LCg.CompEnd h₀ L m { s with heap := h, toks := tk } I oI C oC D (LCg.lst ys) S (fun y news' => J (i + 1) (ys ++ [y]) news')) E' { s with heap := h, toks := tk })
    (fin : ∀ ys news, J n ys news → Fin ys news) : ∀ (k i : Nat) (ys : List Value) (news : List (Addr × Obj)), i + k = n → J i ys news → LCp.CompRestP prog w A h₀ L m env elt x x₂ scope cl s S P Fin k i ys news := by
  intro k
  induction k with
  | zero =>
    intro i ys news hi hJ
    obtain rfl : i = n := by omega
    exact fin ys news hJ
  | succ k ih =>
    intro i ys news hi hJ v hP
    obtain ⟨t, ot, v₁, v₂, nt, e1, e2, e3, e4, tn⟩ := turn i ys news v (by omega) hJ hP
    refine ⟨t, ot, v₁, v₂, nt, e1, e2, e3, e4, fun I oI C oC D m₂ h tk E' hC hx hy F N off ne => ?_⟩
    refine wpAny_mono (tn I oI C oC D m₂ h tk E' hC hx hy F N off ne) (fun y s₂ he => ?_) fun _ _ e => e
    obtain ⟨h', tk', news', e, F', N', off', hS, hr⟩ := he
    exact ⟨h', tk', news', e, F', N', off', hS, ih (i + 1) (ys ++ [y]) news' (by omega) hr⟩
theorem reg_BG : True := by
  k_with_none
  (k_with "my cj" => (first | with_reducible assumption | (apply cl0; with_reducible assumption) | (apply cl1; with_reducible assumption) | (apply cl2; with_reducible assumption) | (apply cl3; with_reducible assumption) | (apply cl4; with_reducible assumption) | (apply cl5; with_reducible assumption) | (apply cl6; with_reducible assumption) | (apply cl7; with_reducible assumption) | (apply cl8; with_reducible assumption) | (apply cl9; with_reducible assumption) | (apply cl10; with_reducible assumption) | (apply cl11; with_reducible assumption) | (apply cl12; with_reducible assumption) | (apply cl13; with_reducible assumption) | (apply cl14; with_reducible assumption) | (apply cr1; with_reducible assumption) | (apply cr2; with_reducible assumption) | (apply cr3; with_reducible assumption) | (apply cr4; with_reducible assumption) | (apply cr5; with_reducible assumption) | (apply cr6; with_reducible assumption) | (apply cr7; with_reducible assumption) | (apply cr8; with_reducible assumption) | (apply cr9; with_reducible assumption) | (apply cr10; with_reducible assumption) | (apply cr11; with_reducible assumption) | (apply cr12; with_reducible assumption) | (apply cr13; with_reducible assumption) | (apply cr14; with_reducible assumption)))
  (k_with "my room0" => (first | (refine' room1 ?zzra ?zzrb; (case zzra => first | with_reducible assumption | assumption); (case zzrb => decide)) | (refine' roomL1 ?zzra ?zzrb; (case zzra => first | with_reducible assumption | assumption); (case zzrb => decide)) | (refine' room0 ?zzra ?zzrb; (case zzra => first | with_reducible assumption | assumption); (case zzrb => decide)) | (refine' roomL0 ?zzra ?zzrb; (case zzra => first | with_reducible assumption | assumption); (case zzrb => decide)) | (refine' room2 ?zzra ?zzrb; (case zzra => first | with_reducible assumption | assumption); (case zzrb => decide)) | (refine' roomL2 ?zzra ?zzrb; (case zzra => first | with_reducible assumption | assumption); (case zzrb => decide)) | fail "my room0"))
  (k_with "my line" => (first | (refine' line1 ?zzra ?zzrb; (case zzra => first | with_reducible assumption | assumption); (case zzrb => decide)) | (refine' line0 ?zzra ?zzrb; (case zzra => first | with_reducible assumption | assumption); (case zzrb => decide)) | ((try simp only [depth_in1, depth_deeper, units_in1, units_deeper]); rw [show cLine = 9900 from rfl]; omega)))
  (k_with "my ands" => ((repeat' with_reducible refine And.intro ?_ ?_) <;> first | with_reducible assumption | exact Int.emod_nonneg _ (by decide) | exact Int.emod_lt_of_pos _ (by decide)))
  (k_with "my closed" => (first | decide | (refine Nat.ne_of_gt (Nat.lt_succ_of_lt ?_); with_reducible assumption) | (refine Nat.ne_of_gt ?_; k_extra "my cj") | (refine' Nat.ne_of_gt (Nat.lt_trans ?zzra ?zzrb); (case zzrb => with_reducible assumption); (case zzra => k_extra "my cj")) | (refine Nat.ne_of_lt ?_; k_extra "my cj") | (refine' Nat.ne_of_lt (Nat.lt_trans ?zzra ?zzrb); (case zzrb => with_reducible assumption); (case zzra => k_extra "my cj")) | (refine' Nat.le_trans ?zzra ?zzrb; (case zzra => with_reducible assumption); (case zzrb => decide)) | fail "my closed"))
  (k_with "my env" => (refine foldA ?_; intro A1 env1))
  (k_with "my fold" => (refine fold_ ?_; intro qk ek))
  (k_with "my kf" => ((fail_if_success (fail_if_success k_fold)); refine fold_ ?_; intro qk ek))
  (k_with "binaryOp Add int int" => (with_reducible refine add_intM ?_))
  (k_with "binaryOp Sub int int" => (with_reducible refine sub_intM ?_))
  (k_with "binaryOp Mult int int" => (with_reducible refine mul_intM ?_))
  (k_with "eval Constant int" => (with_reducible refine const_intM ?_))
  (k_with "eval Constant str" => (with_reducible refine const_strM ?_))
  (k_with "execs cons" => ((fail_if_success (fail_if_success k_gentoks)); refine gen_tk ?_; intro tk))
  (k_with "eval Call Name" => ((fail_if_success (fail_if_success k_fold)); (try clear qc4); (try clear qc3); (try clear qc2); (try clear qc1); refine foldQ ?_; first | ((fail_if_success (clear_value qc1)); intro qc1) | ((fail_if_success (clear_value qc2)); intro qc2) | ((fail_if_success (clear_value qc3)); intro qc3) | ((fail_if_success (clear_value qc4)); intro qc4)))
  (k_with "eval Call Attribute" => ((fail_if_success (fail_if_success k_fold)); (try clear qc4); (try clear qc3); (try clear qc2); (try clear qc1); refine foldQ ?_; first | ((fail_if_success (clear_value qc1)); intro qc1) | ((fail_if_success (clear_value qc2)); intro qc2) | ((fail_if_success (clear_value qc3)); intro qc3) | ((fail_if_success (clear_value qc4)); intro qc4)))
  (k_with "eval BinOp" => ((fail_if_success (fail_if_success k_fold)); (try clear qc4); (try clear qc3); (try clear qc2); (try clear qc1); refine foldQ ?_; first | ((fail_if_success (clear_value qc1)); intro qc1) | ((fail_if_success (clear_value qc2)); intro qc2) | ((fail_if_success (clear_value qc3)); intro qc3) | ((fail_if_success (clear_value qc4)); intro qc4)))
  (k_with "my out" => (repeat (first | with_reducible exact rfl | (refine' ite_out (by assumption) ?_ ?_; (repeat (first | exact List.Mem.head _ | refine List.Mem.tail _ ?_))))))
  (k_with "my room" => (first | k_extra "my room0" | ((try simp only [depth_in1, depth_deeper, units_in1, units_deeper]); omega)))
  (k_with "my size" => ((try simp only [fm4, fm256, fd256, fm65536, fd65536, p16_len, p32_len, partL_len, fillL_len, headL_len, List.length_append, List.length_cons, List.length_nil, List.length_replicate, List.length_take, List.length_drop, List.length_map, List.size_toArray]); first | ((with_reducible show @LE.le Nat _ _ (@OfNat.ofNat Nat _ _)); first | k_extra "my sizes" | (with_reducible refine Nat.le_trans (Nat.min_le_left _ _) (Nat.le_trans (Nat.le_of_eq (s44 _)) ?_); decide) | fail "my size") | omega))
  (k_with "binaryOp Add bytes bytes" => (k_here; (with_reducible show wpAny _ _ (binaryOp Operator.Add (Value.bytes _ _) (Value.bytes _ _)) _ _ _); (refine KBa.add_K (by kba_ints) (by kba_ints) (by k_extra "my size") ?_); intro _ _ kbaApp; (first | (revert kbaApp; intros) | skip)))
  (k_with "call type:bytes" => (k_here; (with_reducible show wpAny _ _ (call (Value.type "bytes") [Value.bytes _ _]) _ _ _); (refine call_bytes_bytes ?_)))
  (k_with "call type:bytes" => (k_here; (with_reducible show wpAny _ _ (call (Value.type "bytes") [Value.int _ _]) _ _ _); (refine call_bytes_intK (by first | omega | kba_idx) (by first | omega | (simp only [Int.fmod_eq_emod_of_nonneg _ (by decide : (0:Int) ≤ 4)]; omega)) ?_); intro _ _ _ kbaZ; (first | (revert kbaZ; intros) | skip)))
  (k_with "subscriptTail" => (k_here; (with_reducible show wpAny _ _ (subscriptTail _ (Expr.Slice _ _ none _) (Value.bytes _ _) (Value.ref _)) _ _ _); (with_reducible rename Fr _ _ _ _ => F'); (with_reducible rename News _ _ _ _ => N'); (first | refine slice_both (s := ⟨_, _, _, _, _⟩) F' N' (by kba_ints) (by k_extra "my size") (by first | omega | k_extra "my size") (by first | omega | k_extra "my size") ?_ | refine slice_hi (s := ⟨_, _, _, _, _⟩) F' N' (by kba_ints) (by k_extra "my size") (by first | omega | k_extra "my size") ?_ | refine slice_lo (s := ⟨_, _, _, _, _⟩) F' N' (by kba_ints) (by k_extra "my size") (by first | omega | k_extra "my size") ?_); intro h9 b9 t9 k9 F9 N9 K9; (first | (revert h9 b9 t9 k9 F9 N9 K9; intros) | skip)))
  (k_with "subscriptTail" => (k_here; (with_reducible show wpAny _ _ (subscriptTail _ _ (Value.bytes _ _) (Value.int _ _)) _ _ _); (refine KBw.item_K (by kba_ints) (by k_extra "my size") (by first | omega | k_extra "my size") (by first | omega | k_extra "my size") ?_); intro _ _ kbaLo kbaHi; (first | (revert kbaLo kbaHi; intros) | skip)))
  (k_with "call builtin:len" => (k_here; (with_reducible show wpAny _ _ (call (Value.builtin "len") [Value.bytes _ _]) _ _ _); (refine KBw.len_K (by kba_ints) (by k_extra "my size") ?_)))
  (k_with "call ref" => (k_here; (with_reducible show wpAny _ _ (call (Value.ref _) [Value.bytes _ _, Value.str _ _]) _ _ _); kfb_any; k_dflt (refine KFB.call_big (by k_asm) (by k_mem) (by kba_ints2) (by k_extra "my size") ?_); intro _ _))
  (k_with "call ref" => (k_here; (with_reducible show wpAny _ _ (call (Value.ref 53) _) _ _ _); (refine use_int (u16_ok (by kba_ints) (by k_extra "my size") (by kba_idx) (by kba_idx)) (by k_asm) (by k_asm) (by k_asm) (by k_asm) (by k_extra "my room") (by k_extra "my room") ?_); intro t9 h9 tk9 F9 N9; (first | (revert t9 h9 tk9 F9 N9; intros) | skip)))
  (k_with "call ref" => (k_here; (with_reducible show wpAny _ _ (call (Value.ref 74) _) _ _ _); (refine use_bytes put16_ok (by k_asm) (by k_asm) (by k_asm) (by k_asm) (by k_extra "my room") (by k_extra "my room") ?_); intro b9 t9 h9 tk9 K9 F9 N9; (first | (revert b9 t9 h9 tk9 K9 F9 N9; intros) | skip)))
  (k_with "subscriptTail" => (k_here; (with_reducible show wpAny _ _ (subscriptTail _ _ (Value.ref _) (Value.int (Int.fmod _ _) _)) _ _ _); (with_unfolding_all refine' item_intsK ?zzil ?zzii ?zzi0 ?zzi1 ?zzi2 ?_ ?zzis; (case zzil => exact News.isList (by k_asm) (by k_mem)); (case zzii => first | assumption | (repeat constructor)); (case zzi0 => exact fmod_lo _ (by decide)); (case zzi1 => exact fmod_hi _ (by decide)); (case zzi2 => decide); (case zzis => with_unfolding_all rfl); k_whole); intro t9; (first | (revert t9; intros) | skip)))
  (k_with "pyIter ref" => ((with_reducible show wpAny _ _ (pyIter (Value.ref _)) (fun it s₂ => LoopAtV _ _ _ _ _ _ _ _ _ it s₂) _ _); refine StopLoop.mk ?_))
  (k_with "pyIter bytes" => ((with_reducible show wpAny _ _ (pyIter (Value.bytes _ _)) (fun it s₂ => LoopAtV _ _ _ _ _ _ _ _ _ it s₂) _ _); refine StopLoop.mk ?_))
  (k_with "my turn" => (refine LEnd.intro (by k_asm) (cb_drop (by k_asm) (by first | exact fun _ h => h | exact fun _ h => .tail _ h | kcj_all)) (by first | assumption | exact fun _ h => nomatch h) ⟨rfl, ⟨_, ?_⟩, ?_⟩; rotate_left; (intro z h1 h2; simp only [if_neg h1, if_neg h2]); (first | (revert z h1 h2; intros) | skip)))
  (k_with "call ref" => (k_here; (with_reducible show wpAny _ _ (call (Value.ref 95) _) _ _ _); (refine use_bytes (filled_ok (by kba_ints) (by k_extra "my size")) (by k_asm) (by k_asm) (by k_asm) (by k_asm) (by k_extra "my room") (by k_extra "my room") ?_); intro b9 t9 h9 tk9 K9 F9 N9; (first | (revert b9 t9 h9 tk9 K9 F9 N9; intros) | skip)))
  (k_with "call ref" => (k_here; (with_reducible show wpAny _ _ (call (Value.ref 198) _) _ _ _); (refine use_bytes (plain_ok (by kba_ints) (by k_extra "my size")) (by k_asm) (by k_asm) (by k_asm) (by k_asm) (by k_extra "my room") (by k_extra "my room") ?_); intro b9 t9 h9 tk9 K9 F9 N9; (first | (revert b9 t9 h9 tk9 K9 F9 N9; intros) | skip)))
  (k_with "call ref" => (k_here; (with_reducible show wpAny _ _ (call (Value.ref 102) _) _ _ _); (refine use_int (sum_ok (by kba_ints) (by k_extra "my size")) (by k_asm) (by k_asm) (by k_asm) (by k_asm) (by k_extra "my room") (by k_extra "my room") ?_); intro t9 h9 tk9 F9 N9; (first | (revert t9 h9 tk9 F9 N9; intros) | skip)))
  (k_with "call ref" => (k_here; (with_reducible show wpAny _ _ (call (Value.ref 245) _) _ _ _); (refine use_int (lsum_ok (by kba_ints) (by k_extra "my size")) (by k_asm) (by k_asm) (by k_asm) (by k_asm) (by k_extra "my room") (by k_extra "my room") ?_); intro t9 h9 tk9 F9 N9; (first | (revert t9 h9 tk9 F9 N9; intros) | skip)))
  (k_with "eval ListComp" => (k_here; (first | lcg_look | lcf_look); lcg_calm; k_dflt (refine LCg.ListComp_U (F₀ := by k_asm) (by with_unfolding_all rfl) (by decide) (by rfl) (by decide) (by rfl) ?_); k_dflt lcg_toSrc))
  (k_with "exec Assign cons ListComp" => (k_here; (first | lcg_look | lcf_look); lcg_calm; k_dflt (refine LCg.Assign_ListComp_U (F₀ := by k_asm) (by rfl) (by with_unfolding_all rfl) (by with_unfolding_all rfl) (by decide) (by rfl) (by decide) (by rfl) (by rfl) (by rfl) ?_); k_dflt lcg_toSrc))
  (k_with "eval ListComp" => (k_here; lct_look; lcg_calm; k_dflt (refine LCt.ListComp_T (F₀ := by k_asm) (by with_unfolding_all rfl) (by decide) (by rfl) (by decide) (by rfl) ?_); k_dflt lct_toSrc))
  (k_with "eval ListComp" => (k_here; lcp_look; lcg_calm; k_dflt (refine LCp.ListComp_P (F₀ := by k_asm) (by with_unfolding_all rfl) (by decide) (by rfl) (by decide) (by rfl) (by rfl) (by decide) ?_); k_dflt lcp_toSrc))
  (k_with "exec Assign cons ListComp" => (k_here; lcp_look; lcg_calm; k_dflt (refine LCp.Assign_ListComp_P (F₀ := by k_asm) (by rfl) (by with_unfolding_all rfl) (by with_unfolding_all rfl) (by decide) (by rfl) (by decide) (by rfl) (by rfl) (by decide) (by rfl) (by rfl) ?_); k_dflt lcp_toSrc))
  (k_with "CompSrc" => ((with_reducible show LCg.CompSrc _ _ _ _ _ _ _ _ _ _ _ _ _ _); refine StopLoop.mk ?_))
  (k_with "CompSrcT" => ((with_reducible show LCt.CompSrcT _ _ _ _ _ _ _ _ _ _ _ _ _ _ _); refine StopLoop.mk ?_))
  (k_with "SrcLP" => ((with_reducible show LCp.SrcLP _ _ _ _ _ _ _ _ _ _ _ _ _ _ _); refine StopLoop.mk ?_))
  (k_with "call ref" => (k_here; (with_reducible show wpAny _ _ (call (Value.ref 238) _) _ _ _); (refine use_bytes four_ok (by k_asm) (by k_asm) (by k_asm) (by k_asm) (by k_extra "my room") (by k_extra "my room") ?_); intro b9 t9 h9 tk9 K9 F9 N9; (first | (revert b9 t9 h9 tk9 K9 F9 N9; intros) | skip)))
  (k_with "call ref" => (k_here; (with_reducible show wpAny _ _ (call (Value.ref 88) _) _ _ _); (refine use_bytes (part_ok (by kba_ints) (by k_extra "my size") (by first | omega | k_extra "my size") (by first | omega | k_extra "my size") (by first | omega | k_extra "my size")) (by k_asm) (by k_asm) (by k_asm) (by k_asm) (by k_extra "my room") (by k_extra "my room") ?_); intro b9 t9 h9 tk9 K9 F9 N9; (first | (revert b9 t9 h9 tk9 K9 F9 N9; intros) | skip)))
  (k_with "binaryOp Add str str" => (k_here; (with_reducible show wpAny _ _ (binaryOp Operator.Add (Value.str _ _) (Value.str _ _)) _ _ _); (refine PyProof.Rows.add_str (hsz := (by simp only [txt_len, str1_len, List.length_take, partL_len]; rw [sizeLine_eq]; omega)) ?_); intro _ _))
  (k_with "RaiseGo" => ((with_reducible show RaiseGo _ _ _); k_dflt (refine RaiseGo.go (by k_asm) ?_); intro h9 tk9 e9 mk9; (try k_unfold); (try dsimp only); (first | (revert h9 tk9 e9 mk9; intros) | skip)))
  (k_with "exec Raise some none" => (k_here; (with_reducible show wpAny _ _ (exec (Stmt.Raise (some (Expr.Call (Expr.Name _ _) [_] [] _)) none _) _) _ _ _); k_dflt (refine' raise_FF ?zzF ?zzX ?zzT ?zzhh ?zzhr ?zzhx ?_ ?zza ?zzb ?zzc ?zzd; (case zzF => k_asm); (case zzX => k_asm); (case zzT => k_asm); (case zzhh => rfl); (case zzhr => (simp only [depth_in1, depth_deeper]; omega)); (case zzhx => k_is); (case zza => rfl); (case zzb => rfl); (case zzc => rfl); (case zzd => decide))))
  (k_with "leaving ref" => (k_here; first | k_dflt (refine' leave_FF ?zzb ?zzf ?zzF ?zzmk ?_ ?zzhk; (case zzb => assumption); (case zzf => assumption); (case zzmk => assumption); (case zzF => assumption); (case zzhk => rfl); intro h8 a8 fl8 up8) | k_dflt (refine' leave_on ?zzF ?zzfl ?zzup ?_; (case zzfl => assumption); (case zzup => assumption); (case zzF => assumption); intro h8 fl8 up8); (first | (revert h8 a8 fl8 up8; intros) | skip)))
  (k_with "my fall" => (intro e9 h9 tk9 a9 fl9 up9; (try k_unfold); (try dsimp only); (first | (revert e9 h9 tk9 a9 fl9 up9; intros) | skip)))
  (k_with "call ref" => (k_here; (with_reducible show wpAny _ _ (call (Value.ref 53) _) _ _ _); k_dflt (refine use_falls (u16_falls (by kba_ints) (by k_extra "my size") (by first | omega | k_extra "my size")) (by k_asm) (by k_asm) (by k_asm) (by assumption) (by assumption) rfl (by k_extra "my room") (by k_extra "my room") ?_); k_extra "my fall"))
  (k_with "call ref" => (k_here; (with_reducible show wpAny _ _ (call (Value.ref 88) _) _ _ _); k_dflt (refine use_falls (part_falls (by kba_ints) (by k_extra "my size") (by first | omega | k_extra "my size")) (by k_asm) (by k_asm) (by k_asm) (by assumption) (by assumption) rfl (by k_extra "my room") (by k_extra "my room") ?_); k_extra "my fall"))
  (k_with "call ref" => (k_here; (with_reducible show wpAny _ _ (call (Value.ref 173) [_, _, _, _]) _ _ _); k_dflt (refine use_row row_ok (by k_asm) (by k_asm) (by k_asm) (by k_asm) (by k_extra "my room") (by k_extra "my room") ?_); intro x9 dx9 j1 j2 j3 j4 u1 u2 u3 u4 h9 tk9 F9 N9 q9 e9 d9; (replace e9 := gnNe_of e9); (replace d9 := gnNe_of d9); (try simp only [GnNe, and_true] at e9 d9); (first | (revert x9 dx9 j1 j2 j3 j4 u1 u2 u3 u4 h9 tk9 F9 N9 q9 e9 d9; intros) | skip)))
  (k_with "binaryOp Add str str" => (k_here; (with_reducible show wpAny _ _ (binaryOp Operator.Add (Value.str _ _) (Value.str _ _)) _ _ _); (refine PyProof.Rows.add_str (hsz := (by (try dsimp only); simp only [str_app_len, lit1, lit2, lit3, lit4, txt_len, str1_len, List.length_take, partL_len]; rw [sizeLine_eq]; omega)) ?_); intro _ _))
  (k_with "call builtin:list.append" => (k_here; (with_reducible show wpAny _ _ (call (Value.builtin _) [Value.ref _, _]) _ _ _); k_dflt (refine' append_K ?zzk1 ?zzk2 ?zzk3 ?_ ?zzz; (case zzk1 => k_asm); (case zzk2 => k_asm); (case zzk3 => k_upd); (case zzz => (simp only [List.size_toArray]; rw [sizeLine_eq]; omega)); k_whole); intro h' F' N'; (try k_sweep); (first | (revert h' F' N'; intros) | skip)))
  (k_with "call ref" => (k_here; (with_reducible show wpAny _ _ (call (Value.ref 67) _) _ _ _); k_dflt (refine use_falls (u32_falls (by kba_ints) (by k_extra "my size") (by first | omega | k_extra "my size")) (by k_asm) (by k_asm) (by k_asm) (by assumption) (by assumption) rfl (by k_extra "my room") (by k_extra "my room") ?_); k_extra "my fall"))
  (k_with "call ref" => (k_here; (with_reducible show wpAny _ _ (call (Value.ref 109) _) _ _ _); k_dflt (refine use_falls (tag_falls (by kba_ints) (by k_extra "my size") (by first | omega | k_extra "my size") (by first | omega | k_extra "my size")) (by k_asm) (by k_asm) (by k_asm) (by assumption) (by assumption) rfl (by k_extra "my room") (by k_extra "my room") ?_); k_extra "my fall"))
  (k_with "call ref" => (k_here; (with_reducible show wpAny _ _ (call (Value.ref 109) _) _ _ _); k_dflt (refine use_falls (tag_falls2 (by kba_ints) (by k_extra "my size") (by first | omega | k_extra "my size") (by first | omega | k_extra "my size") (by assumption)) (by k_asm) (by k_asm) (by k_asm) (by assumption) (by assumption) rfl (by k_extra "my room") (by k_extra "my room") ?_); k_extra "my fall"))
  (k_with "call ref" => (k_here; (with_reducible show wpAny _ _ (call (Value.ref 67) _) _ _ _); (refine use_int (u32_ok (by kba_ints) (by k_extra "my size") (by first | omega | k_extra "my size") (by first | omega | k_extra "my size")) (by k_asm) (by k_asm) (by k_asm) (by k_asm) (by k_extra "my room") (by k_extra "my room") ?_); intro t9 h9 tk9 F9 N9; (first | (revert t9 h9 tk9 F9 N9; intros) | skip)))
  (k_with "call ref" => (k_here; (with_reducible show wpAny _ _ (call (Value.ref 109) _) _ _ _); (refine use_str (tag_ok (by kba_ints) (by k_extra "my size") (by first | omega | k_extra "my size") (by first | omega | k_extra "my size") (by assumption)) (by k_asm) (by k_asm) (by k_asm) (by k_asm) (by k_extra "my room") (by k_extra "my room") ?_); intro t9 h9 tk9 F9 N9; (first | (revert t9 h9 tk9 F9 N9; intros) | skip)))
  (k_with "call ref" => (k_here; (with_reducible show wpAny _ _ (call (Value.ref 184) _) _ _ _); k_dflt (refine use_falls (dir_falls (by kba_ints) (by k_extra "my size") (by assumption)) (by k_asm) (by k_asm) (by k_asm) (by assumption) (by assumption) rfl (by k_extra "my room") (by k_extra "my room") ?_); k_extra "my fall"))
  (k_with "call ref" => (k_here; (with_reducible show wpAny _ _ (call (Value.ref 184) _) _ _ _); k_dflt (refine use_dir (dir_ok (by kba_ints) (by k_extra "my size") (by assumption)) (by k_asm) (by k_asm) (by k_asm) (by k_asm) (by k_extra "my room") (by k_extra "my room") ?_); intro l9 xs9 k9 rest9 h9 tk9 F9 N9 xl9 xr9 lo9 ln9 nr9 lL9; (replace ln9 := gnNe_of ln9); (try simp only [GnNe, and_true] at ln9); (try simp only [List.forall_mem_cons, List.not_mem_nil, false_implies, implies_true, and_true] at nr9); (try simp only [List.cons_append, List.nil_append] at N9); (first | (revert l9 xs9 k9 rest9 h9 tk9 F9 N9 xl9 xr9 lo9 ln9 nr9 lL9; intros) | skip)))
  (k_with "call ref" => (k_here; (with_reducible show wpAny _ _ (call (Value.ref 152) [_]) _ _ _); k_dflt (refine use_tab tab_ok (by k_asm) (by k_asm) (by k_asm) (by k_asm) (by k_extra "my room") (by k_extra "my room") ?_); intro x9 dx9 j1 h9 tk9 F9 N9 q9 e9 d9; (replace e9 := gnNe_of e9); (replace d9 := gnNe_of d9); (try simp only [GnNe, and_true] at e9 d9); (first | (revert x9 dx9 j1 h9 tk9 F9 N9 q9 e9 d9; intros) | skip)))
  (k_with "compareOp In str ref" => (k_here; k_dflt (refine kda_in (knd := PySem.strKind _ _) (by k_asm) (by k_mem) (by assumption) (by assumption) (strKind_is _ _ _ _) _ (by assumption) ?_)))
  (k_with "setItem ref str" => (k_here; k_dflt (refine' kda_set (knd := PySem.strKind _ _) ?zzF ?zzN ?zzU ?zzd (strKind_is _ _ _ _) ?zzz ?_; (case zzF => k_asm); (case zzN => k_asm); (case zzU => k_updF); (case zzd => assumption); (case zzz => rw [sizeLine_eq]; omega)); intro h' o' F' N' hd'; (try dsimp only at N'); (first | (revert h' o' F' N' hd'; intros) | skip)))
  (k_with "binaryOp Add ref ref" => (k_here; k_dflt (refine' add_listsK ?zzF ?zzN ?zza ?zzb ?_ ?zzz; (case zzF => k_asm); (case zzN => k_asm); (case zza => is_list); (case zzb => is_list); (case zzz => ((try simp only [List.length_cons, List.length_nil, List.length_append]); rw [sizeLine_eq]; omega))); intro l9 h9 F9 N9 q9; (try simp only [List.cons_append, List.nil_append] at N9); (replace q9 := allLt_of q9); (try simp only [AllLt, and_true] at q9); (first | (revert l9 h9 F9 N9 q9; intros) | skip)))
  (k_with "call ref" => (k_here; (with_reducible show wpAny _ _ (call (Value.ref 205) _) _ _ _); (refine use_int (tsum_ok (by kba_ints) (by k_extra "my size")) (by k_asm) (by k_asm) (by k_asm) (by k_asm) (by k_extra "my room") (by k_extra "my room") ?_); intro t9 h9 tk9 F9 N9; (first | (revert t9 h9 tk9 F9 N9; intros) | skip)))
  (k_with "call builtin:list.sort" => (k_here; (with_reducible show wpAny _ _ (call (Value.builtin _) [Value.ref _]) _ _ _); k_dflt (refine' str_sort ?zzF ?zzN ?zzU ?zzi ?zzz ?_; (case zzF => k_asm); (case zzN => k_asm); (case zzU => k_updF); (case zzi => assumption); (case zzz => omega)); intro vs9 c9 h9 F9 N9 S9; (try dsimp only at N9); have z9 := strs_len_le S9; (first | (revert vs9 c9 h9 F9 N9 S9 z9; intros) | skip)))
  (k_with "call ref" => (k_here; (with_reducible show wpAny _ _ (call (Value.ref 212) _) _ _ _); k_dflt (refine use_strs (wrong_ok (by kba_ints) (by k_extra "my size") (by assumption)) (by k_asm) (by k_asm) (by k_asm) (by k_asm) (by k_extra "my room") (by k_extra "my room") ?_); intro l9 xs9 c9 h9 tk9 F9 N9 S9 d9; (replace d9 := gnNe_of d9); (try simp only [GnNe, and_true] at d9); (first | (revert l9 xs9 c9 h9 tk9 F9 N9 S9 d9; intros) | skip)))
  (k_with "my strok" => (first | assumption | exact strOkL_nil | (apply wrongL_ok; exact bytes_lt (by kba_ints))))
  (k_with "compareOp Eq ref ref" => (k_here; (with_reducible show wpAny _ _ (compareOp CmpOp.Eq (Value.ref _) (Value.ref _)) _ _ _); k_dflt (refine' eq_strs ?zzN ?zza ?zzb ?zzSa ?zzSb ?zzoa ?zzob ?zzu ?_; (case zzN => k_asm); (case zza => k_mem); (case zzb => k_mem); (case zzSa => first | assumption | exact StrsAre.nil); (case zzSb => first | assumption | exact StrsAre.nil); (case zzoa => k_extra "my strok"); (case zzob => k_extra "my strok"); (case zzu => (k_extra "my line")))))
  (k_with "compareOp NotEq ref ref" => (k_here; (with_reducible show wpAny _ _ (compareOp CmpOp.NotEq (Value.ref _) (Value.ref _)) _ _ _); k_dflt (refine' ne_strs ?zzN ?zza ?zzb ?zzSa ?zzSb ?zzoa ?zzob ?zzu ?_; (case zzN => k_asm); (case zza => k_mem); (case zzb => k_mem); (case zzSa => first | assumption | exact StrsAre.nil); (case zzSb => first | assumption | exact StrsAre.nil); (case zzoa => k_extra "my strok"); (case zzob => k_extra "my strok"); (case zzu => (k_extra "my line")))))
  (k_with "call type:bytes" => (k_here; (with_reducible show wpAny _ _ (call (Value.type "bytes") [Value.ref _]) _ _ _); k_dflt (refine' KBa.make_K ?zzF ?zzN ?zzh ?zzl ?zzi ?zzr ?zzn ?_; (case zzF => k_asm); (case zzN => k_asm); (case zzh => rfl); (case zzl => is_list); (case zzi => first | assumption | kba_listInts); (case zzr => first | kba_in | (show ∀ n ∈ _, _; decide)); (case zzn => first | kba_size | decide)); intro h9 t9 k9 F9 N9 kbaIn; (first | (revert h9 t9 k9 F9 N9 kbaIn; intros) | skip)))
  (k_with "my ints" => (first | kba_ints | exact ints_lit4 | kba_ints2))
  (k_with "binaryOp Add bytes bytes" => (k_here; (with_reducible show wpAny _ _ (binaryOp Operator.Add (Value.bytes _ _) (Value.bytes _ _)) _ _ _); (refine KBa.add_K (by k_extra "my ints") (by k_extra "my ints") (by k_extra "my size") ?_); intro _ _ kbaApp; (first | (revert kbaApp; intros) | skip)))
  (k_with "noteFrame ref" => (k_here; (with_reducible rename Heap.FlyingW _ _ _ _ _ _ => fl'); (with_reducible rename Heap.UpToSlots _ _ => up'); k_dflt (refine' caught_FF ?zzF up' fl' ?zzX ?zzT ?zzx ?_ ?zzhk ?zzhx ?zzhd ?zzhE; (case zzF => assumption); (case zzX => k_asm); (case zzT => k_asm); (case zzx => k_is); (case zzhk => rfl); (case zzhx => rfl); (case zzhd => decide); (case zzhE => passes_own)); (clear up' fl'; intro h9 F9 up9); (first | (revert h9 F9 up9; intros) | skip)))
  (k_with "binaryOp FloorDiv int int" => (k_here; k_dflt (refine floordiv_int (by omega) ?_ (Or.inl (PyProof.noPylong_of_log2 (small_log2 (by omega) (by omega)))))))
  (k_with "call ref" => (k_here; (with_reducible show wpAny _ _ (call (Value.ref 226) _) _ _ _); k_dflt (refine' use_src (take_ok ?zzhk ?zzhk2) ?zzF ?zzN ?zzU ?zzS ?zzX ?zzT ?zzhd ?zzhu ?_; (case zzhk => (first | decide +kernel | omega | k_extra "my size")); (case zzhk2 => (first | decide +kernel | omega | k_extra "my size")); (case zzF => k_asm); (case zzN => k_asm); (case zzU => k_updF); (case zzS => assumption); (case zzX => k_asm); (case zzT => k_asm); (case zzhd => k_extra "my room"); (case zzhu => k_extra "my room")); intro v9 oS9 h9 tk9 F9 N9 SO9 r9; obtain ⟨x9, t9, e9, lo9, hi9⟩ := r9; subst e9; (try simp only [List.size_toArray] at hi9); (try rw [pow32e] at hi9); (try dsimp only at N9); (first | (revert oS9 h9 tk9 F9 N9 SO9 x9 t9 lo9 hi9; intros) | skip)))
  (k_with "call builtin:len" => (k_here; (with_reducible show wpAny _ _ (call (Value.builtin "len") [Value.ref _]) _ _ _); k_dflt (refine' len_list (items := List.toArray _) ?zza ?zzb ?_; (case zza => is_list); (case zzb => (simp only [List.size_toArray]; omega)))))
  (k_with "subscriptTail" => (k_here; (with_reducible show wpAny _ _ (subscriptTail _ _ (Value.ref _) (Value.int _ _)) _ _ _); k_dflt (refine' item_any ?zza ?zzb ?zzc ?zzd ?_ ?zze; (case zza => is_list); (case zzb => omega); (case zzc => (simp only [List.size_toArray] at *; omega)); (case zzd => omega); (case zze => with_unfolding_all rfl)); intro v9 vm9; (first | (revert v9 vm9; intros) | skip)))
  (k_with "eval ListComp" => (k_here; (with_reducible show wpAny _ _ (eval (Expr.ListComp (Expr.Call (Expr.Name _ _) [Expr.Name _ _] [] _) [_] _ _) _) _ _ _); k_dflt (refine ListComp_S (F₀ := by k_asm) (by with_unfolding_all rfl) (by decide) (by rfl) (by decide) (by rfl) ?_)))
  (k_with "CompSrcS" => ((with_reducible show CompSrcS _ _ _ _ _ _ _ _ _ _ _ _ _ _); refine StopLoop.mk ?_))
  (k_with "call type:bytes" => (k_here; (with_reducible show wpAny _ _ (call (Value.type "bytes") [Value.ref _]) _ _ _); k_dflt (refine' KBa.make_K ?zzF ?zzN ?zzh ?zzl ?zzi ?zzr ?zzn ?_; (case zzF => k_asm); (case zzN => k_asm); (case zzh => rfl); (case zzl => is_list); (case zzi => assumption); (case zzr => assumption); (case zzn => assumption)); intro h9 t9 k9 F9 N9 kbaIn; (first | (revert h9 t9 k9 F9 N9 kbaIn; intros) | skip)))
  (k_with "pyIter ref" => ((with_reducible show wpAny _ _ (pyIter (Value.ref _)) (fun it s₂ => LoopAtT _ _ _ _ _ _ _ _ _ it s₂) _ _); refine StopLoop.mk ?_))
  (k_with "subscriptTail" => (k_here; (with_reducible show wpAny _ _ (subscriptTail _ _ (Value.ref _) (Value.int _ _)) _ _ _); k_dflt (refine' item_ints ?zza ?zzi ?zzb ?zzc ?zzd ?_ ?zze; (case zza => is_list); (case zzi => assumption); (case zzb => omega); (case zzc => (simp only [List.size_toArray] at *; omega)); (case zzd => omega); (case zze => with_unfolding_all rfl)); intro x9 t9 m9; (first | (revert x9 t9 m9; intros) | skip)))
  (k_with "call ref" => (k_here; (with_reducible show wpAny _ _ (call (Value.ref 60) _) _ _ _); (refine use_int (s16_ok (by kba_ints) (by k_extra "my size") (by first | omega | k_extra "my size") (by first | omega | k_extra "my size")) (by k_asm) (by k_asm) (by k_asm) (by k_asm) (by k_extra "my room") (by k_extra "my room") ?_); intro t9 h9 tk9 F9 N9; (first | (revert t9 h9 tk9 F9 N9; intros) | skip)))
  (k_with "call ref" => (k_here; (with_reducible show wpAny _ _ (call (Value.ref 81) _) _ _ _); (refine use_bytes put32_ok (by k_asm) (by k_asm) (by k_asm) (by k_asm) (by k_extra "my room") (by k_extra "my room") ?_); intro b9 t9 h9 tk9 K9 F9 N9; (first | (revert b9 t9 h9 tk9 K9 F9 N9; intros) | skip)))
  (k_with "call ref" => (k_here; (with_reducible show wpAny _ _ (call (Value.ref 114) _) _ _ _); k_dflt (refine use_bytes (tagoct_ok (by decide +kernel) (by decide +kernel) (by (show ∀ n ∈ _, _); decide +kernel) (by decide +kernel)) (by k_asm) (by k_asm) (by k_asm) (by k_asm) (by k_extra "my room") (by k_extra "my room") ?_); intro b9 t9 h9 tk9 K9 F9 N9; (first | (revert b9 t9 h9 tk9 K9 F9 N9; intros) | skip)))
  (k_with "call ref" => (k_here; (with_reducible show wpAny _ _ (call (Value.ref 233) [_, Value.ref _]) _ _ _); k_dflt (refine' use_one ?zzF ?zzN ?zzM ?zzne ?zzi ?zzz ?zzz0 ?zzU ?zzS ?zzX ?zzT ?zzhd ?zzhu ?_; (case zzF => k_asm); (case zzN => k_asm); (case zzM => k_mem); (case zzne => k_ne); (case zzi => first | assumption | (repeat constructor)); (case zzz => exact Nat.le_of_ble_eq_true rfl); (case zzz0 => exact Nat.succ_pos _); (case zzU => k_updF); (case zzS => assumption); (case zzX => k_asm); (case zzT => k_asm); (case zzhd => k_extra "my room"); (case zzhu => k_extra "my room")); intro x9 t9 oS9 h9 tk9 m9 F9 N9 SO9; (try rw [pow32] at m9); (first | have b9 := mem_bound 9 m9 (by intro y hy; simp only [List.mem_cons, List.not_mem_nil, or_false] at hy; omega) | have b9 := mem_bound 4294967295 m9 (by intro y hy; simp only [List.mem_cons, List.not_mem_nil, or_false] at hy; omega)); (try dsimp only at N9); (first | (revert x9 t9 oS9 h9 tk9 m9 F9 N9 SO9 b9; intros) | skip)))
  (k_with "call ref" => (k_here; (with_reducible show wpAny _ _ (call (Value.ref 53) _) _ _ _); (refine use_int (u16_ok (by kba_ints) (by k_extra "my size") (by first | omega | k_extra "my size") (by first | omega | k_extra "my size")) (by k_asm) (by k_asm) (by k_asm) (by k_asm) (by k_extra "my room") (by k_extra "my room") ?_); intro t9 h9 tk9 F9 N9; (first | (revert t9 h9 tk9 F9 N9; intros) | skip)))
  (k_with "compareOp NotEq bytes bytes" => (k_here; k_dflt (refine ne_bytes_K (by k_extra "my ints") (by k_extra "my ints") (by first | rfl | exact p16_sub _ | assumption) ?_)))
  (k_with "compareOp NotEq ref ref" => (k_here; (with_reducible show wpAny _ _ (compareOp CmpOp.NotEq (Value.ref _) (Value.ref _)) _ _ _); k_dflt (refine' ne_strs_K ?zzN ?zza ?zzb ?zzSa ?zzSb ?zze ?zzob ?zzu ?_; (case zzN => k_asm); (case zza => k_mem); (case zzb => k_mem); (case zzSa => repeat constructor); (case zzSb => repeat constructor); (case zze => decide +kernel); (case zzob => (intro x hx; simp only [List.mem_cons, List.not_mem_nil, or_false] at hx; (rcases hx with e9 | e9 | e9 <;> subst e9 <;> decide +kernel))); (case zzu => (k_extra "my line")))))
  (k_with "eval ListComp" => (k_here; lcg_look; k_dflt (refine LCg.ListComp_U (F₀ := by k_asm) (by with_unfolding_all rfl) (by decide) (by rfl) (by decide) (by rfl) ?_); k_dflt lcg_toSrc))
  (k_with "eval ListComp" => (k_here; lct_look; k_dflt (refine LCt.ListComp_T (F₀ := by k_asm) (by with_unfolding_all rfl) (by decide) (by rfl) (by decide) (by rfl) ?_); k_dflt lct_toSrc))
  (k_with "call ref" => (k_here; (with_reducible show wpAny _ _ (call (Value.ref 109) _) _ _ _); (refine use_str (tag_ok (by kba_ints) (by first | decide +kernel | k_extra "my size") (by first | omega | k_extra "my size") (by first | decide +kernel | omega | k_extra "my size") (by first | assumption | ((show ∀ k ∈ _, _); decide +kernel))) (by k_asm) (by k_asm) (by k_asm) (by k_asm) (by k_extra "my room") (by k_extra "my room") ?_); intro t9 h9 tk9 F9 N9; (first | (revert t9 h9 tk9 F9 N9; intros) | skip)))
  (k_with "eval Lambda" => (k_here; (with_reducible show wpAny _ _ (eval (Expr.Lambda _ _ _ _) _) _ _ _); first | (k_dflt (refine' lam_new ?zzF ?zzN ?zzT ?zzC ?zzge ?zzcd ?zzd0 ?zzU ?zzt ?zzn ?zzcl ?_; (case zzF => k_asm); (case zzN => k_asm); (case zzT => k_asm); (case zzge => exact rfl); (case zzcd => exact rfl); (case zzd0 => exact rfl); (case zzC => assumption); (case zzU => k_updF); (case zzt => kn_triples); (case zzn => kn_among); (case zzcl => exact rfl)); intro f9 c9 oc9 vs9 t9 ct9 h9 tk9 F9 N9 d91 d92 l91 l92; (try dsimp only at N9); (try simp only [Array.empty_append, List.append_toArray, List.cons_append, List.nil_append] at N9); (try k_lt l91); (try k_lt2 l92)) | (k_dflt (refine' lam_old ?zzF ?zzN ?zzT ?zzC ?zzge ?zzcd ?zzd0 ?zzmem ?zzt ?zzn ?zzcl ?_; (case zzF => k_asm); (case zzN => k_asm); (case zzT => k_asm); (case zzge => exact rfl); (case zzcd => exact rfl); (case zzd0 => exact rfl); (case zzC => assumption); (case zzmem => k_mem); (case zzt => kn_triples); (case zzn => kn_hit); (case zzcl => exact rfl)); intro f9 ct9 h9 tk9 F9 N9 l91; (try dsimp only at N9); (try k_lt l91)); (first | (revert f9 c9 oc9 vs9 t9 ct9 h9 tk9 F9 N9 d91 d92 l91 l92; intros) | skip)))
  (k_with "call ref" => (k_here; (with_reducible show wpAny _ _ (call (Value.ref 269) [Value.ref _]) _ _ _); refine StopLoop.mk ?_))
  trivial
-- BG
theorem word_BG_1 : True := by
  (k_with "my ne0" => (refine neN ?_; (try dsimp only); first | with_reducible assumption | (refine Ne.symm ?_; with_reducible assumption) | (refine Nat.ne_of_gt ?_; k_extra "my cj") | (refine' Nat.ne_of_gt (Nat.lt_trans ?zzra ?zzrb); (case zzrb => with_reducible assumption); (case zzra => k_extra "my cj")) | (refine Nat.ne_of_lt ?_; k_extra "my cj") | (refine' Nat.ne_of_lt (Nat.lt_trans ?zzra ?zzrb); (case zzrb => with_reducible assumption); (case zzra => k_extra "my cj")) | fail "my ne0"))
  trivial
def BegV (h : Heap) : Heap → Value → Prop := fun h' v => ∃ (l : Addr) (vs : List Value) (c : Nat) (ps : List (Addr × Obj)) (ts : List (Str × List Int)), v = .ref l ∧ TabsAre ps vs ts ∧ TsOk ts ∧ (∀ p ∈ ps, p.1 ≠ l) ∧ ∀ p ∈ (l, listOf vs.toArray c) :: ps, h'.get? p.1 = some p.2 ∧ h.get? p.1 = none
theorem pick_from (vs : List Value) {x : Int} (h : 0 ≤ x) : kms_pick vs.toArray.toList (some x) none = vs.drop x.toNat := by
  have e : kms_lo (some x) vs.length = min x.toNat vs.length := if_neg (by omega)
  show (vs.drop (kms_lo (some x) vs.length)).take (vs.length - kms_lo (some x) vs.length) = _
  rw [e, kmk_drop_min]
  exact List.take_of_length_le (by rw [List.length_drop]; omega)
theorem pick_to (vs : List Value) {x : Int} (h : 0 ≤ x) : kms_pick vs.toArray.toList none (some x) = vs.take x.toNat := by
  show (vs.drop 0).take ((if x < 0 then _ else min x.toNat vs.length) - 0) = _
  rw [if_neg (by omega), List.drop_zero, Nat.sub_zero, kmk_take_min]
theorem word_BG_2 : True := by
  (k_with "subscriptTail Name Slice ref ref" => (k_here; (with_reducible show wpAny _ _ (subscriptTail _ (PySem.Expr.Slice (some _) none none _) (Value.ref _) (Value.ref _)) _ _ _); k_dflt (refine' kms_slice_lit ?zzF ?zzN ?zzl ?zzp ?zzq ?zze ?_ ?zzs ?zzt ?zzz; (case zzF => k_asm); (case zzN => k_asm); (case zzl => kmk_list); (case zzp => kmk_part); (case zzq => kmk_part); (case zze => exact pick_from _ (by omega)); (case zzs => with_unfolding_all rfl); (case zzt => kmk_pure); (case zzz => first | kmk_size | (rw [sizeLine_eq, List.size_toArray]; simp only [List.length_append, List.length_drop, List.length_take, List.length_cons, List.length_nil]; omega))); intro D9 h9 F9 N9 l9; (try k_lt l9); k_sweep; (first | (revert D9 h9 F9 N9 l9; intros) | skip)))
  trivial
theorem word_BG_3 : True := by
  (k_with "subscriptTail BinOp Slice ref ref" => (k_here; (with_reducible show wpAny _ _ (subscriptTail _ (PySem.Expr.Slice (some _) none none _) (Value.ref _) (Value.ref _)) _ _ _); k_dflt (refine' kms_slice_lit ?zzF ?zzN ?zzl ?zzp ?zzq ?zze ?_ ?zzs ?zzt ?zzz; (case zzF => k_asm); (case zzN => k_asm); (case zzl => kmk_list); (case zzp => kmk_part); (case zzq => kmk_part); (case zze => exact pick_from _ (by omega)); (case zzs => with_unfolding_all rfl); (case zzt => kmk_pure); (case zzz => first | kmk_size | (rw [sizeLine_eq, List.size_toArray]; simp only [List.length_append, List.length_drop, List.length_take, List.length_cons, List.length_nil]; omega))); intro D9 h9 F9 N9 l9; (try k_lt l9); k_sweep; (first | (revert D9 h9 F9 N9 l9; intros) | skip)))
  trivial
theorem word_BG_4 : True := by
  (k_with "subscriptTail Name Slice ref ref" => (k_here; (with_reducible show wpAny _ _ (subscriptTail _ (PySem.Expr.Slice none (some _) none _) (Value.ref _) (Value.ref _)) _ _ _); k_dflt (refine' kms_slice_lit ?zzF ?zzN ?zzl ?zzp ?zzq ?zze ?_ ?zzs ?zzt ?zzz; (case zzF => k_asm); (case zzN => k_asm); (case zzl => kmk_list); (case zzp => kmk_part); (case zzq => kmk_part); (case zze => exact pick_to _ (by omega)); (case zzs => with_unfolding_all rfl); (case zzt => kmk_pure); (case zzz => first | kmk_size | (rw [sizeLine_eq, List.size_toArray]; simp only [List.length_append, List.length_drop, List.length_take, List.length_cons, List.length_nil]; omega))); intro D9 h9 F9 N9 l9; (try k_lt l9); k_sweep; (first | (revert D9 h9 F9 N9 l9; intros) | skip)))
  trivial
theorem word_BG_5 : True := by
  (k_with "subscriptTail BinOp Slice ref ref" => (k_here; (with_reducible show wpAny _ _ (subscriptTail _ (PySem.Expr.Slice none (some _) none _) (Value.ref _) (Value.ref _)) _ _ _); k_dflt (refine' kms_slice_lit ?zzF ?zzN ?zzl ?zzp ?zzq ?zze ?_ ?zzs ?zzt ?zzz; (case zzF => k_asm); (case zzN => k_asm); (case zzl => kmk_list); (case zzp => kmk_part); (case zzq => kmk_part); (case zze => exact pick_to _ (by omega)); (case zzs => with_unfolding_all rfl); (case zzt => kmk_pure); (case zzz => first | kmk_size | (rw [sizeLine_eq, List.size_toArray]; simp only [List.length_append, List.length_drop, List.length_take, List.length_cons, List.length_nil]; omega))); intro D9 h9 F9 N9 l9; (try k_lt l9); k_sweep; (first | (revert D9 h9 F9 N9 l9; intros) | skip)))
  trivial
theorem word_BG_6 : True := by
  (k_with "binaryOp Add ref ref" => (k_here; (with_reducible show wpAny _ _ (binaryOp _ (Value.ref _) (Value.ref _)) _ _ _); k_dflt (refine' kmk_add_lit ?zzF ?zzN ?zza ?zzb ?zze ?_ ?zzz; (case zzF => k_asm); (case zzN => k_asm); (case zza => kmk_list); (case zzb => kmk_list); (case zze => rfl); (case zzz => rw [sizeLine_eq]; simp; omega)); intro D9 h9 F9 N9 l9; (try k_lt l9); k_sweep; (first | (revert D9 h9 F9 N9 l9; intros) | skip)))
  trivial
theorem word_BG_7 : True := by
  (k_with "exec For Name Subscript cons nil" => (k_here; (rename Fr _ _ _ _ => lF'); (with_unfolding_all refine' For_invVF lF' ?zzk1 ?zzk2 ?_; (case zzk1 => exact rfl); (case zzk2 => exact rfl); k_whole)))
  trivial
def rotN (p c : Nat) : List Str := (tagN.drop p ++ tagN.take p).take c
theorem rot_mem {p c : Nat} {x : Str} (h : x ∈ rotN p c) : x ∈ tagN := by
  rcases List.mem_append.mp (List.mem_of_mem_take h) with h | h
  · exact List.mem_of_mem_drop h
  · exact List.mem_of_mem_take h
theorem rot_nodup : ∀ {p : Nat} (c : Nat), p < 5 → (rotN p c).Nodup := by
  intro p c h
  refine List.Nodup.sublist (List.take_sublist _ _) ?_
  have key : ∀ q : Fin 5, (tagN.drop q.val ++ tagN.take q.val).Nodup := by decide +kernel
  exact key ⟨p, h⟩
theorem rot_len (p c : Nat) : (rotN p c).length ≤ c := by rw [rotN, List.length_take]; exact Nat.min_le_left _ _
theorem tabs_ins {ps : List (Addr × Obj)} {v : Value} {a : Str × List Int} (hv : TabIn ps v a) : ∀ {vs : List Value} {ts : List (Str × List Int)} (k : Nat), TabsAre ps vs ts → TabsAre ps (vs.take k ++ v :: vs.drop k) (ts.take k ++ a :: ts.drop k)
  | [], [], k, _ => by cases k <;> exact ⟨hv, trivial⟩
  | _ :: _, _ :: _, 0, h => ⟨hv, h⟩
  | _ :: _, _ :: _, k + 1, ⟨x, y⟩ => ⟨x, tabs_ins hv k y⟩
  | [], _ :: _, _, x => x.elim
  | _ :: _, [], _, x => x.elim
theorem tabs_kl {ps : List (Addr × Obj)} {v : Value} {a : Str × List Int} {vs : List Value} {ts : List (Str × List Int)} (x : Int) (hv : TabIn ps v a) (h : TabsAre ps vs ts) : ∃ j, TabsAre ps (kl_ins vs x v) (ts.take j ++ a :: ts.drop j) := ⟨_, tabs_ins hv _ h⟩
theorem tsOk_base {ts : List (Str × List Int)} {p c i : Nat} (hp : p < 5) (hc : c ≤ 3) (h1 : ts.map (·.1) = (rotN p c).take i) (h2 : ∀ a ∈ ts, a.2.length ≤ 9) : TsOk ts := by
  refine ⟨?_, ?_, fun a ha => .inl ⟨?_, h2 a ha⟩⟩
  · have := congrArg List.length h1
    rw [List.length_map, List.length_take] at this
    have := rot_len p c
    omega
  · rw [h1]; exact (rot_nodup c hp).sublist (List.take_sublist _ _)
  · have : a.1 ∈ ts.map (·.1) := List.mem_map_of_mem ha
    rw [h1] at this
    exact rot_mem (List.mem_of_mem_take this)
theorem tsOk_head {ts : List (Str × List Int)} {p c i k : Nat} {ns : List Int} (hp : p < 5) (hc : c ≤ 3) (h1 : ts.map (·.1) = (rotN p c).take i) (h2 : ∀ a ∈ ts, a.2.length ≤ 9) (hn : ns.length = 12) : TsOk (ts.take k ++ (Str.ofString "head", ns) :: ts.drop k) := by
  have hb := tsOk_base hp hc h1 h2
  have hl : ts.length ≤ 3 := by
    have := congrArg List.length h1
    rw [List.length_map, List.length_take] at this
    have := rot_len p c
    omega
  have hpm : (ts.take k ++ (Str.ofString "head", ns) :: ts.drop k).Perm ((Str.ofString "head", ns) :: ts) := by
    have := List.perm_middle (a := (Str.ofString "head", ns)) (l₁ := ts.take k) (l₂ := ts.drop k)
    rw [List.take_append_drop] at this
    exact this
  refine ⟨?_, ?_, fun a ha => ?_⟩
  · rw [hpm.length_eq, List.length_cons]; omega
  · rw [(hpm.map _).nodup_iff, List.map_cons, List.nodup_cons]
    refine ⟨fun hm => ?_, hb.2.1⟩
    rw [h1] at hm
    have h3 : Str.ofString "head" ∈ tagN := rot_mem (List.mem_of_mem_take hm)
    exact absurd h3 (by decide +kernel)
  · rcases List.mem_cons.mp (hpm.mem_iff.mp ha) with rfl | ha
    · exact .inr ⟨rfl, hn⟩
    · exact hb.2.2 a ha
theorem word_BG_8 : True := by
  (k_with "call builtin:list.insert" => (k_here; (with_reducible show wpAny _ _ (call (Value.builtin _) [Value.ref _, Value.int _ _, _]) _ _ _); k_dflt (refine' kl_insert ?zzF ?zzN ?zzf ?zze ?zzU ?zzz ?_; (case zzF => k_asm); (case zzN => k_asm); (case zzU => k_upd); (case zzf => (simp [Builtin.List.listFitsIndex]; omega)); (case zze => exact rfl); (case zzz => rw [sizeLine_eq, Array.length_toList, List.size_toArray]; omega)); intro h9 F9 N9; (try dsimp only [List.nil_append, List.cons_append] at N9); (first | (revert h9 F9 N9; intros) | skip)))
  trivial
theorem map_turnS {x : Str} {m₁ m₀ : Str → Option Value} {v : Option Value} (hm : ∀ z, z ∉ [x] → m₁ z = m₀ z) : (fun z => if z = x then v else m₁ z) = fun z => if z = x then v else m₀ z := over_turn [] hm
/-- what the turns of the drawing leave -/
def DrawJ (src : Addr) (rest : List (Addr × Obj)) (i : Nat) (ys : List Value) (news : List (Addr × Obj)) : Prop := ∃ (oS : Obj) (ns : List Int), SrcO oS ∧ news = (src, oS) :: rest ∧ IntsAre ys ns ∧ KBa.In ns ∧ ns.length = i
theorem allNe {a I : Addr} {o : Obj} {ps : List (Addr × Obj)} (h : @Ne Nat a I) (r : ∀ p ∈ ps, p.1 ≠ I) : ∀ p ∈ (a, o) :: ps, p.1 ≠ I := fun p hp => by
  rcases List.mem_cons.mp hp with rfl | hp
  · exact h
  · exact r p hp
section
variable {w : World} {h : Heap} {src : Addr}
set_option maxHeartbeats 8000000 in
theorem begun_ok : GivesS w 257 src [.ref src] (BegV h) 60 h := by
  (have hkf : PySem.Challenge.rw_on0235_01 = PySem.Challenge.rw_on0235_01 ∧ kheap.heap_1 = kheap.heap_1 := by k_fill; exact ⟨rfl, rfl⟩)
  clear hkf
  w_top off
  intro dp un gd fs s Q E g hs AM hgk hgn hsrc hdp hun rt
  obtain ⟨oS, hoS, hSO⟩ := hsrc
  obtain ⟨B, hBk, hBz, KX, ⟨p, loose, mean, mg, mb, T⟩, hBn, hBr⟩ := base_src AM hgk hgn
  refine' wpAny_call (enter_baseC (h₀ := B) hBk hBz KX T ?k6 ?k7 ?k8 ?k9 ?kB ?kD ?_ ?c2 ?c3 ?c4)
  (case k6 => k_is); (case k7 => k_is); (case k8 => first | exact rec_lt (by assumption) | (simp only [recursionLimit]; omega)); (case k9 => exact rfl); (case kB => exact rfl); (case kD => decide +kernel); (case c2 => exact rfl); (case c3 => exact rfl); (case c4 => exact rfl)
  intro L1 h1 tk1 cells1 hL1 hk1 F1 N1 Y1
  (try k_extra "my kf")
  have hfr : ∀ p ∈ [(src, oS)], s.heap.get? p.1 = some p.2 ∧ B.get? p.1 = none := by
    intro p hp
    obtain rfl := List.mem_singleton.mp hp
    exact ⟨hoS, hBn⟩
  have N2 := front_cells N1 hBk hfr hk1 hL1
  have lt1 : @LT.lt Nat _ src L1 := by rw [hL1]; exact Heap.lt_size hoS
  clear N1 hfr
  k_cells Y1
  (try simp only [List.cons_append, List.nil_append] at N2)
  (try dsimp only); (try k_extra "my kf"); (try k_extra "my env")
  k_steps
  unfold StopLoop
  (with_reducible rename News _ _ _ _ => N3)
  (with_reducible rename Fr _ _ _ _ => F3)
  (with_reducible rename SrcO _ => SO3)
  rename_i oC3 dC3 tg3 hA ltA hB tkB oSa hC tkC SOa x3 t3 lo3 hi3 hD tkD fd3 hE ltE hF Da hG ltG Db hH ltH Dc hI ltI oS3 hJ tkJ y3 u3 lo4 hi4 D3 hK ltK
  generalize hvs : List.take y3.toNat _ = vs3 at N3
  have hS : StrsAre vs3 (rotN x3.toNat y3.toNat) := by
    rw [← hvs]
    refine StrsAre.take' (StrsAre.append' (StrsAre.drop' ?_ _) (StrsAre.take' ?_ _)) _ <;> (unfold tagN; repeat constructor)
  clear hvs
  have N4 : News B L1 hK ((fd3, listOf ([] : List Value).toArray 0) :: (src, oS3) :: (L1 + 1, oC3) :: (D3, listOf vs3.toArray 0) :: []) := cb_drop (by k_asm) (by kcj_all)
  have hn4 : vs3.length ≤ 3 := by rw [hS.length]; have := rot_len x3.toNat y3.toNat; omega
  clear N3
  refine list_loopL (vs := vs3) (ln := 0) (xs₀ := []) [Str.ofString "tag"] (fun i m xs rest => ∃ oS ps ts, SrcO oS ∧ rest = (src, oS) :: (L1 + 1, oC3) :: (D3, listOf vs3.toArray 0) :: ps ∧ (∀ p ∈ ps, p.1 ≠ src) ∧ TabsAre ps xs ts ∧ ts.map (·.1) = (rotN x3.toNat y3.toNat).take i ∧ (∀ a ∈ ts, a.2.length ≤ 9)) rfl
    (N4 _ (.tail _ (.tail _ (.tail _ (.head _))))).2.1 ?_ (by k_asm) N4 ?_ ⟨oS3, [], [], SO3, rfl, fun _ h => (nomatch h), trivial, rfl, fun _ h => (nomatch h)⟩ ?_ ?_
  · intro i m xs k rest h hZ6 _ N'
    (try k_extra "my kf")
    obtain ⟨oS, ps, ts, _, rfl, _⟩ := hZ6
    exact (N' _ (.tail _ (.tail _ (.tail _ (.head _))))).1
  · k_all
  · intro i v m₁ xs k rest h tk I o hi hv hlI hrI hrl hm hZ16 F' N'
    (try k_extra "my kf")
    obtain ⟨oS4, ps, ts, SO4, rfl, hps, hT, htn, hts⟩ := hZ16
    rw [map_turnS hm] at F'
    obtain ⟨y5, t5, rfl, hy5⟩ := hS.item i v hv
    have q1 : @Ne Nat src I := hrI (src, oS4) (.head _)
    have q2 : @Ne Nat (L1 + 1) I := hrI (L1 + 1, oC3) (.tail _ (.head _))
    have q3 : @Ne Nat D3 I := hrI (D3, listOf vs3.toArray 0) (.tail _ (.tail _ (.head _)))
    have q4 : ∀ p ∈ ps, p.1 ≠ I := fun p hp => hrI p (.tail _ (.tail _ (.tail _ hp)))
    have q5 : ∀ p ∈ ps, p.1 ≠ fd3 := fun p hp => hrl p (.tail _ (.tail _ (.tail _ hp)))
    clear N4 F3 hrI
    k_steps
    unfold StopLoop
    (with_reducible rename IsRange _ _ _ _ _ _ _ _ => hr9)
    (with_reducible rename News _ _ _ _ => N9)
    (with_reducible rename Fr _ _ _ _ => F9)
    (with_reducible rename SrcO _ => SO9)
    (with_reducible rename 0 ≤ _ ∧ _ ≤ 9 => b9)
    have N5 := N9
    refine LCg.CompSrc.range (n := Int.toNat _) rfl F9 (news := (src, _) :: (I, o) :: (fd3, listOf xs.toArray k) :: (L1 + 1, oC3) :: (D3, listOf vs3.toArray 0) :: ps) (cb_drop N9 (by kcj_all)) hr9 (small_up (by decide) (by decide) ((Int.toNat_of_nonneg b9.1).symm.trans (Int.one_mul _).symm) (by omega)) (size_up (by decide) ((Int.toNat_of_nonneg b9.1).symm.trans (Int.one_mul _).symm)) (by rw [sizeLine_eq]; omega) ?_
    intro g'
    refine comp_ind (DrawJ src _) ?_ ?_ _ 0 [] _ (Nat.zero_add _) ⟨_, [], SO9, rfl, .nil, (fun _ h => nomatch h), rfl⟩
    · intro i2 ys news v I2 oI2 C2 oC2 D2 m₂ h2 tk2 E2 hi2 hZ14 hP2 hC2 hx2 F2 N2 off2 ne2
      (try k_extra "my kf")
      obtain ⟨oS5, ns, SO5, rfl, hI5, hIn5, hl5⟩ := hZ14
      have ⟨o1, o2, o3⟩ : (@Ne Nat src I2) ∧ (@Ne Nat src C2) ∧ (@Ne Nat src D2) := off2.1
      k_steps
      (with_reducible rename News _ _ _ _ => N7)
      (with_reducible rename Fr _ _ _ _ => F7)
      (with_reducible rename SrcO _ => SO7)
      (with_reducible rename 0 ≤ _ => lo7)
      (with_reducible rename _ < 256 => hi7)
      refine LCg.CompEnd.intro F7 N7 ((src, _) :: _) (fun p hp => hp) off2 trivial ⟨_, _, SO7, rfl, ints_snoc hI5, ?_, ?_⟩
      · intro z hz
        rcases List.mem_append.mp hz with hz | hz
        · exact hIn5 z hz
        · rw [List.mem_singleton.mp hz]; exact ⟨lo7, hi7⟩
      · rw [List.length_append, hl5]; rfl
    · intro ys news hZ2
      intro D2 h2 tk2 F2 N2 off2
      (try k_extra "my kf")
      obtain ⟨oS5, ns, SO5, rfl, hI5, hIn5, hl5⟩ := hZ2
      have hn5 : ns.length ≤ 16777216 := by omega
      have o4 : @Ne Nat fd3 D2 := off2.2.2.1
      have o5 : @Ne Nat src D2 := off2.1
      have hx4 : xs.length ≤ 60 := by
        rw [tabs_len hT]
        have := congrArg List.length htn
        rw [List.length_map, List.length_take] at this
        omega
      k_steps
      (try k_unfold)
      rename_i h9 t9 k9 bi9 T9 hT9 lT9 hL9 F8 N8
      refine LEnd.intro F8 (nx := (fd3, listOf (xs.toArray.push (.ref T9)) _) :: (src, oS5) :: (L1 + 1, oC3) :: (D3, listOf vs3.toArray 0) :: (T9, tupV [.str y5 t5, .bytes (byteArr ns) t9]) :: ps) (cb_drop N8 (by kcj_all)) ?_ ⟨_, _, _, push_eq, ?_, ?_, oS5, _, ts ++ [(y5, ns)], SO5, rfl, ?_, ?_, ?_, ?_⟩
      · exact allNe hlI (allNe q1 (allNe q2 (allNe q3 (allNe (Nat.ne_of_gt lT9.2.2.1) q4))))
      · exact allNe (hrl _ (.head _)) (allNe (hrl _ (.tail _ (.head _))) (allNe (hrl _ (.tail _ (.tail _ (.head _)))) (allNe (Nat.ne_of_gt lT9.2.2.2.1) q5)))
      · intro z hz
        k_extra "my out"
      · exact allNe (Nat.ne_of_gt lT9.2.1) hps
      · exact tabs_snoc (a := (y5, ns)) ⟨T9, _, _, _, rfl, .head _, KBa.ints_make hIn5⟩ (tabs_mono (fun _ h => .tail _ h) hT)
      · rw [List.map_append, htn, List.take_add_one, hy5]; rfl
      · intro a ha
        rcases List.mem_append.mp ha with ha | ha
        · exact hts a ha
        · rw [List.mem_singleton.mp ha]; show ns.length ≤ 9; omega
  · intro m₁ xs k rest h tk hm hZ7 hrl F' N'
    (try k_extra "my kf")
    obtain ⟨oS4, ps, ts, SO4, rfl, hps, hT, htn, hts⟩ := hZ7
    obtain ⟨ux, em⟩ := map_fin0 hm
    clear hm
    subst em
    clear N4 F3
    have q5 : ∀ p ∈ ps, p.1 ≠ fd3 := fun p hp => hrl p (.tail _ (.tail _ (.tail _ hp)))
    have hx4 : xs.length ≤ 3 := by
      rw [tabs_len hT]
      have := congrArg List.length htn
      rw [List.length_map, List.length_take] at this
      omega
    k_steps
    · unfold StopLoop
      (with_reducible rename IsRange _ _ _ _ _ _ _ _ => hr9)
      (with_reducible rename News _ _ _ _ => N9)
      (with_reducible rename Fr _ _ _ _ => F9)
      (with_reducible rename SrcO _ => SO9)
      refine LCg.CompSrc.range (n := 12) rfl F9 (news := (src, _) :: (fd3, listOf xs.toArray k) :: (L1 + 1, oC3) :: (D3, listOf vs3.toArray 0) :: ps) (cb_drop N9 (by kcj_all)) hr9 (by decide +kernel) (by decide +kernel) (by rw [sizeLine_eq]; omega) ?_
      intro g'
      refine comp_ind (DrawJ src _) ?_ ?_ _ 0 [] _ (Nat.zero_add _) ⟨_, [], SO9, rfl, .nil, (fun _ h => nomatch h), rfl⟩
      · intro i2 ys news v I2 oI2 C2 oC2 D2 m₂ h2 tk2 E2 hi2 hZ14 hP2 hC2 hx2 F2 N2 off2 ne2
        (try k_extra "my kf")
        obtain ⟨oS5, ns, SO5, rfl, hI5, hIn5, hl5⟩ := hZ14
        have ⟨o1, o2, o3⟩ : (@Ne Nat src I2) ∧ (@Ne Nat src C2) ∧ (@Ne Nat src D2) := off2.1
        k_steps
        (with_reducible rename News _ _ _ _ => N7)
        (with_reducible rename Fr _ _ _ _ => F7)
        (with_reducible rename SrcO _ => SO7)
        (with_reducible rename 0 ≤ _ => lo7)
        (with_reducible rename _ < 256 => hi7)
        refine LCg.CompEnd.intro F7 N7 ((src, _) :: _) (fun p hp => hp) off2 trivial ⟨_, _, SO7, rfl, ints_snoc hI5, ?_, ?_⟩
        · intro z hz
          rcases List.mem_append.mp hz with hz | hz
          · exact hIn5 z hz
          · rw [List.mem_singleton.mp hz]; exact ⟨lo7, hi7⟩
        · rw [List.length_append, hl5]; rfl
      · intro ys news hZ2
        intro D2 h2 tk2 F2 N2 off2
        (try k_extra "my kf")
        obtain ⟨oS5, ns, SO5, rfl, hI5, hIn5, hl5⟩ := hZ2
        have hn5 : ns.length ≤ 16777216 := by omega
        have o4 : @Ne Nat fd3 D2 := off2.2.1
        have o5 : @Ne Nat src D2 := off2.1
        k_steps
        (with_reducible rename News _ _ _ _ => N8)
        rename_i D9 hx1 Fx1 Nx1 l9 hx2 F8
        obtain ⟨xI, tA, tB, kk, N9⟩ : ∃ xI tA tB kk, News B L1 hx2 ((D9, tupV [.str (Str.ofString "head") tA, .bytes (byteArr ns) tB]) :: (D2, LCg.lst ys) :: (src, oS5) :: (fd3, listOf (kl_ins xs xI (.ref D9)).toArray kk) :: (L1 + 1, oC3) :: (D3, listOf vs3.toArray 0) :: ps) := ⟨_, _, _, _, N8⟩
        obtain ⟨j, hj⟩ := tabs_kl (ps := (D9, tupV [.str (Str.ofString "head") tA, .bytes (byteArr ns) tB]) :: ps) (a := (Str.ofString "head", ns)) (v := .ref D9) xI ⟨D9, _, _, _, rfl, .head _, KBa.ints_make hIn5⟩ (tabs_mono (fun _ h => .tail _ h) hT)
        ((try k_unfold); (try dsimp only); refine rt _ _ _ (fin_keep (by k_asm) hBr) (fin_src (by k_asm) (by k_mem) ?_) ?_)
        · assumption
        · refine ⟨fd3, kl_ins xs xI (.ref D9), kk, (D9, tupV [.str (Str.ofString "head") tA, .bytes (byteArr ns) tB]) :: ps, _, rfl, hj, tsOk_head (by omega) (by omega) htn hts hl5, fun p hp => ?_, fun p hp => ?_⟩
          · rcases List.mem_cons.mp hp with rfl | hp
            · show @Ne Nat D9 fd3; omega
            · exact q5 p hp
          · refine new_of N9 hBr hs ?_ ?_
            · rcases List.mem_cons.mp hp with rfl | hp
              · exact .tail _ (.tail _ (.tail _ (.head _)))
              rcases List.mem_cons.mp hp with rfl | hp
              · exact .head _
              · exact .tail _ (.tail _ (.tail _ (.tail _ (.tail _ (.tail _ hp)))))
            · rcases List.mem_cons.mp hp with rfl | hp
              · show @Ne Nat fd3 src; omega
              rcases List.mem_cons.mp hp with rfl | hp
              · show @Ne Nat D9 src; omega
              · exact hps p hp
    · (with_reducible rename News _ _ _ _ => N8)
      ((try k_unfold); (try dsimp only); refine rt _ _ _ (fin_keep (by k_asm) hBr) (fin_src (by k_asm) (by k_mem) ?_) ?_)
      · assumption
      · refine ⟨fd3, xs, k, ps, ts, rfl, hT, tsOk_base (by omega) (by omega) htn hts, fun p hp => hrl p (.tail _ (.tail _ (.tail _ hp))), fun p hp => ?_⟩
        refine new_of N8 hBr hs ?_ ?_
        · rcases List.mem_cons.mp hp with rfl | hp
          · exact .head _
          · exact .tail _ (.tail _ (.tail _ (.tail _ hp)))
        rcases List.mem_cons.mp hp with rfl | hp
        · show @Ne Nat fd3 src; omega
        · exact hps p hp
end
-- FT
theorem word_FT_1 : True := by
  (k_with "call builtin:len" => (k_here; (with_reducible show wpAny _ _ (call (Value.builtin "len") [Value.ref _]) _ _ _); k_dflt (refine' len_list (items := List.toArray _) ?zza ?zzb ?_; (case zza => exact News.isList (by k_asm) (by k_mem)); (case zzb => (simp only [List.size_toArray]; omega)))))
  trivial
theorem word_FT_2 : True := by
  (k_with "exec For Tuple Subscript cons nil" => (k_here; (rename Fr _ _ _ _ => lF'); (with_unfolding_all refine' For_invTF lF' ?_ ?zzk1; (case zzk1 => (intro _; rfl)); k_whole)))
  trivial
theorem word_FT_3 : True := by
  (k_with "exec For Tuple Name cons nil" => (k_here; (rename Fr _ _ _ _ => lF'); (with_unfolding_all refine' For_invTF lF' ?_ ?zzk1; (case zzk1 => (intro _; rfl)); k_whole)))
  trivial
theorem word_FT_4 : True := by
  (k_with "subscriptTail Name Slice ref ref" => (k_here; (with_reducible show wpAny _ _ (subscriptTail _ (PySem.Expr.Slice none none (some _) _) (Value.ref _) (Value.ref _)) _ _ _); k_dflt (refine' krv_lit (its := List.toArray _) ?zzF ?zzN ?zzl ?zzk ?zze ?_ ?zzs ?zzt ?zzz; (case zzF => k_asm); (case zzN => k_asm); (case zzl => exact News.isList (by k_asm) (by k_mem)); (case zzk => exact IsPart.int _ _); (case zze => exact rfl); (case zzs => with_unfolding_all rfl); (case zzt => kmk_pure); (case zzz => (rw [sizeLine_eq, List.size_toArray]; omega))); intro D9 h9 F9 N9 l9; (try k_lt l9); (try k_sweep); (first | (revert D9 h9 F9 N9 l9; intros) | skip)))
  trivial
theorem word_FT_5 : True := by
  (k_with "call ref" => (k_here; (with_reducible show wpAny _ _ (call (Value.ref 252) _) _ _ _); (refine use_int (osum_ok (by kba_ints) (by k_extra "my size")) (by k_asm) (by k_asm) (by k_asm) (by k_asm) (by k_extra "my room") (by k_extra "my room") ?_); intro t9 h9 tk9 F9 N9; (first | (revert t9 h9 tk9 F9 N9; intros) | skip)))
  trivial
theorem rep_ints (n : Nat) : KBw.bInts (List.replicate n (byteArr [255]).toList).flatten.toArray = List.replicate n 255 := by
  have e : (byteArr [255]).toList = [255] := rfl
  rw [e]
  unfold KBw.bInts
  induction n with
  | zero => rfl
  | succ n ih => simp only [List.replicate_succ, List.flatten_cons, List.cons_append, List.nil_append, List.map_cons] at ih ⊢; rw [ih]; rfl
theorem word_FT_6 : True := by
  (k_with "my ints" => (exact rep_ints _))
  trivial
theorem word_FT_7 : True := by
  (k_with "subscriptTail Name Name ref str" => (k_here; k_dflt (refine kda_item (knd := PySem.strKind _ _) (by k_asm) (by k_mem) (by assumption) (strKind_is _ _ _ _) (by assumption) ?_)))
  trivial
theorem in_two {x y : Int} (hx : 0 ≤ x ∧ x < 256) (hy : 0 ≤ y ∧ y < 256) : KBa.In [x, y] := fun z hz => by
  simp only [List.mem_cons, List.not_mem_nil, or_false] at hz
  rcases hz with rfl | rfl
  · exact hx
  · exact hy
theorem word_FT_8 : True := by
  (k_with "call type:bytes" => (k_here; (with_reducible show wpAny _ _ (call (Value.type "bytes") [Value.ref _]) _ _ _); k_dflt (refine' KBa.make_K ?zzF ?zzN ?zzh ?zzl ?zzi ?zzr ?zzn ?_; (case zzF => k_asm); (case zzN => k_asm); (case zzh => rfl); (case zzl => is_list); (case zzi => first | assumption | kba_listInts); (case zzr => (refine in_two ?_ ?_ <;> ((try simp only [List.size_toArray]); omega))); (case zzn => first | kba_size | decide)); intro h9 t9 k9 F9 N9 kbaIn; (first | (revert h9 t9 k9 F9 N9 kbaIn; intros) | skip)))
  trivial
theorem word_FT_9 : True := by
  (k_with "eval ListComp" => (k_here; (with_reducible show wpAny _ _ (eval (Expr.ListComp (Expr.Call (Expr.Name _ _) [Expr.Name _ _] [] _) [_] _ _) _) _ _ _); k_dflt (refine ListComp_S (F₀ := by k_asm) (by with_unfolding_all rfl) (by decide) (by rfl) (by decide) (by rfl) ?_)))
  trivial
theorem map_fin3 {x a c d : Str} {m₁ m₀ : Str → Option Value} {v : Option Value} (hm : ∀ z, z ∉ [x, a, c, d] → m₁ z = m₀ z) (hd : m₁ d = v) : ∃ ux ua uc, m₁ = fun z => if z = x then ux else if z = a then ua else if z = c then uc else if z = d then v else m₀ z := by
  subst hd
  exact ⟨_, _, _, over_eq _ hm⟩
theorem news_put {B h : Heap} {L : Addr} {nx : List (Addr × Obj)} {a : Addr × Obj} (N : News B L h nx) (hm : a ∈ nx) : News B L h (a :: nx) := fun p hp => by
  rcases List.mem_cons.mp hp with rfl | hp
  · exact N _ hm
  · exact N p hp
theorem map_fin4 {x a c e d : Str} {m₁ m₀ : Str → Option Value} {v : Option Value} (hm : ∀ z, z ∉ [x, a, c, e, d] → m₁ z = m₀ z) (hd : m₁ d = v) : ∃ ux ua uc ue, m₁ = fun z => if z = x then ux else if z = a then ua else if z = c then uc else if z = e then ue else if z = d then v else m₀ z := by
  subst hd
  exact ⟨_, _, _, _, over_eq _ hm⟩
theorem in_of_tag {ks : List Int} (h : TagOk ks) : KBa.In ks := fun z hz => by have := h z hz; omega
/-- what the turns over the told rows leave -/
def HeadJ (led : List (Addr × Obj)) (m₀ : Str → Option Value) (H : List Int) (rs : List DRow) (i : Nat) (m : Str → Option Value) (nx : List (Addr × Obj)) : Prop := nx = led ∧ (∀ z, z ∉ [Str.ofString "size", Str.ofString "octet_place", Str.ofString "total", Str.ofString "tag", Str.ofString "head"] → m z = m₀ z) ∧ ∃ b t, m (Str.ofString "head") = some (.bytes b t) ∧ KBw.bInts b = H ++ (rs.take i).flatMap rowL
/-- what the turns over the tables leave -/
structure FontJ (w : World) (src tl rd RL L1 : Addr) (oC oT oR : Obj) (ps : List (Addr × Obj)) (ts : List (Str × List Int)) (n : Nat) (m₀ : Str → Option Value) (i : Nat) (m : Str → Option Value) (nx qs : List (Addr × Obj)) (oS oD : Obj) (kvs : List (Str × Value)) (bb : Array UInt8) (bt : Tok) (bk : List Int) : Prop where
  so : SrcO oS
  led : nx = (rd, oD) :: (L1 + 1, oC) :: (src, oS) :: (tl, oT) :: (RL, oR) :: qs
  sub : ∀ p ∈ ps, p ∈ qs
  n1 : ∀ p ∈ qs, p.1 ≠ src
  n2 : ∀ p ∈ qs, p.1 ≠ L1 + 1
  n3 : ∀ p ∈ qs, p.1 ≠ rd
  dict : oD.IsDictOf (strKind PRG w) kvs
  keys : kvs.map (·.1) = (ts.take i).map (·.1)
  mo : ∀ z, z ∉ [Str.ofString "gap", Str.ofString "octets", Str.ofString "tag", Str.ofString "body"] → m z = m₀ z
  mb : m (Str.ofString "body") = some (.bytes bb bt)
  bi : KBw.bInts bb = bk
  bl : bk.length ≤ 21 * i
  fits : ∀ a ∈ ts.take i, ∃ r v, valueAt kvs a.1 = some v ∧ TupIn L1 qs v r ∧ RowFits n bk a r
section
variable {kvs : List (Str × Value)} {k : Str} {v : Value}
theorem valueAt_old {p : Str × Value} (h : valueAt kvs k = some v) : valueAt (kvs ++ [p]) k = some v := by
  unfold valueAt at *
  rw [List.find?_append]
  cases hf : kvs.find? (fun kv => kv.1 = k) with
  | none => rw [hf] at h; cases h
  | some q => rw [hf] at h; exact h
theorem valueAt_new (h : valueAt kvs k = none) : valueAt (kvs ++ [(k, v)]) k = some v := by
  unfold valueAt at *
  rw [List.find?_append]
  cases hf : kvs.find? (fun kv => kv.1 = k) with
  | none => simp
  | some q => rw [hf] at h; cases h
end
theorem not_mem_take {l : List Str} {i : Nat} {x : Str} (hn : l.Nodup) (h : l[i]? = some x) : x ∉ l.take i := by
  obtain ⟨hi, e⟩ := List.getElem?_eq_some_iff.mp h
  rw [← List.take_append_drop i l, List.drop_eq_getElem_cons hi, e, List.nodup_append] at hn
  exact fun hm => hn.2.2 x hm x (.head _) rfl
theorem fits_mono {n : Nat} {bk g : List Int} {a : Str × List Int} {r : DRow} : RowFits n bk a r → RowFits n (bk ++ g) a r := fun ⟨h1, h2, h3, k, h4, h5, h6⟩ => ⟨h1, h2, h3, k, h4, by rw [List.length_append]; omega, by rw [partL_left h5]; exact h6⟩
theorem off1_mem {D : Addr} : ∀ {l : List (Addr × Obj)}, LCg.Off1 D l → ∀ p ∈ l, @Ne Nat p.1 D
  | [], _, _, h => nomatch h
  | _ :: _, h, p, hp => by
    rcases List.mem_cons.mp hp with rfl | hp
    · exact h.1
    · exact off1_mem h.2 p hp
theorem fontIs_of {x : Int} {ks body : List Int} {ts : List (Str × List Int)} {rs : List DRow} {z : Nat} {bb : Array UInt8} (hx : x ∈ [65536, 1953658213]) (hz : z ≤ 3) (hb : body.length ≤ 90) (bi : KBw.bInts bb = body) (hl : rs.length = ts.length) (hf : ∀ (i : Nat) (a : Str × List Int), ts[i]? = some a → ∃ r : DRow, rs[i]? = some r ∧ RowFits ts.length body a r) (e : ks = fontL x rs body z) : FontIs ks ts rs :=
  ⟨x, body, z, by simpa using hx, hz, hb, by rw [← bi]; exact fun z hz => KBw.ints_in hz, hl, hf, e⟩
theorem tups_filter {L : Addr} {ps qs : List (Addr × Obj)} (h : ∀ p ∈ ps, @LT.lt Nat _ L p.1 → p ∈ qs) : ∀ {vs : List Value} {ts : List DRow}, TupsAre L ps vs ts → TupsAre L qs vs ts
  | [], [], _ => trivial
  | _ :: _, _ :: _, ⟨⟨x, b, t, u, u2, e, lt, m⟩, r⟩ => ⟨⟨x, b, t, u, u2, e, lt, h _ m lt⟩, tups_filter h r⟩
  | [], _ :: _, x => x.elim
  | _ :: _, [], x => x.elim
def FontV (h : Heap) (ts : List (Str × List Int)) : Heap → Value → Prop := fun h' v => ∃ (l d L : Addr) (b : Array UInt8) (t : Tok) (us : List Value) (c1 c2 : Nat) (qs : List (Addr × Obj)) (rs : List DRow) (ks : List Int), v = .ref l ∧ KBw.bInts b = ks ∧ FontIs ks ts rs ∧ TupsAre L qs us rs ∧ ∀ p ∈ (l, listOf [.bytes b t, .ref d].toArray c1) :: (d, listOf us.toArray c2) :: qs, h'.get? p.1 = some p.2 ∧ h.get? p.1 = none
section
variable {w : World} {h : Heap} {src tl : Addr} {vs : List Value} {ps : List (Addr × Obj)} {ts : List (Str × List Int)} {c : Nat}
set_option maxHeartbeats 8000000 in
theorem font_gives (hT : TabsAre ps vs ts) (hts : TsOk ts) : GivesR w 262 src ((tl, listOf vs.toArray c) :: ps) [.ref src, .ref tl] (FontV h ts) 100 h := by
  (have hkf : PySem.Challenge.rw_on0235_01 = PySem.Challenge.rw_on0235_01 ∧ kheap.heap_1 = kheap.heap_1 := by k_fill; exact ⟨rfl, rfl⟩)
  clear hkf
  w_top off
  intro dp un gd fs s Q E g hs AM hgk hgn hfr hsrc hdp hun rt
  obtain ⟨B, oS, hSO, hBk, hBz, KX, ⟨p, loose, mean, mg, mb, T⟩, hf, hBr⟩ := base_read AM hgk hgn hsrc hfr
  refine' wpAny_call (enter_baseC (h₀ := B) hBk hBz KX T ?k6 ?k7 ?k8 ?k9 ?kB ?kD ?_ ?c2 ?c3 ?c4)
  (case k6 => k_is); (case k7 => k_is); (case k8 => first | exact rec_lt (by assumption) | (simp only [recursionLimit]; omega)); (case k9 => exact rfl); (case kB => exact rfl); (case kD => decide +kernel); (case c2 => exact rfl); (case c3 => exact rfl); (case c4 => exact rfl)
  intro L1 h1 tk1 cells1 hL1 hk1 F1 N1 Y1
  (try k_extra "my kf")
  have N2 := front_cells N1 hBk hf hk1 hL1
  have lt1 : @LT.lt Nat _ src L1 := by rw [hL1]; exact Heap.lt_size (hf (src, oS) (.head _)).1
  have lt2 : @LT.lt Nat _ tl L1 := by rw [hL1]; exact Heap.lt_size (hf (tl, listOf vs.toArray c) (.tail _ (.head _))).1
  have ne1 : @Ne Nat tl src := (hfr _ (.head _)).2.2
  have hps : ∀ p ∈ ps, p.1 ≠ src := fun p hp => (hfr p (.tail _ hp)).2.2
  have lps : ∀ p ∈ ps, @LT.lt Nat _ p.1 L1 := fun p hp => by rw [hL1]; exact Heap.lt_size (hf p (.tail _ (.tail _ hp))).1
  have hpc : ∀ p ∈ ps, p.1 ≠ L1 + 1 := fun p hp => Nat.ne_of_lt (Nat.lt_succ_of_lt (lps p hp))
  have hn4 : vs.length ≤ 4 := by rw [tabs_len hT]; exact hts.1
  clear N1
  k_cells Y1
  (try simp only [List.cons_append, List.nil_append] at N2)
  (try dsimp only); (try k_extra "my kf"); (try k_extra "my env")
  k_steps
  unfold StopLoop
  (with_reducible rename News _ _ _ _ => N3)
  (with_reducible rename Fr _ _ _ _ => F3)
  rename_i oC1 dC1 rd hA oR lR dS fS dI fI l1 TD hB l2 hC hD hE hF oC dC RL h9 l9
  (try clear qc4); (try clear qc3); (try clear qc2); (try clear qc1); clear dI fI dC1 fS
  have N4 : News B L1 h9 ((rd, oR) :: (L1 + 1, oC) :: (src, oS) :: (tl, listOf vs.toArray c) :: (RL, listOf vs.reverse.toArray 0) :: ps) := cb_drop N3 (by kcj_all)
  clear N3
  have hTr := tabs_rev hT
  obtain ⟨m0, hm0, F3⟩ : ∃ m0, m0 = _ ∧ Fr B L1 h9 m0 := ⟨_, rfl, F3⟩
  have q5 : ∀ p ∈ ps, p.1 ≠ rd := fun p hp => Nat.ne_of_lt (Nat.lt_trans (lps p hp) (Nat.lt_of_succ_lt l1.1))
  refine list_loopT (vs := vs.reverse) (nn := 0) (fun i m nx => ∃ qs oS oD kvs bb bt bk, FontJ w src tl rd RL L1 oC (listOf vs.toArray c) (listOf vs.reverse.toArray 0) ps ts.reverse ts.length m0 i m nx qs oS oD kvs bb bt bk) rfl
    (N4 _ (.tail _ (.tail _ (.tail _ (.tail _ (.head _)))))).2.1 ?_ F3 N4 ⟨ps, oS, oR, [], #[], _, [], hSO, rfl, fun _ h => h, hps, hpc, q5, dS, rfl, fun _ _ => rfl, by rw [hm0]; rfl, rfl, Nat.le_refl _, fun _ h => (nomatch h)⟩ ?_ ?_
  · intro i m nx h hZ4 _ N'
    (try k_extra "my kf")
    obtain ⟨qs, oS, oD, kvs, bb, bt, bk, J⟩ := hZ4
    rw [J.led] at N'
    exact (N' _ (.tail _ (.tail _ (.tail _ (.tail _ (.head _)))))).1
  · intro i v m₁ nx s₁ I o hi hv hnI hZ10 F' N'
    (try k_extra "my kf")
    obtain ⟨qs, oS4, oD, kvs, bb, bt, bk, J⟩ := hZ10
    obtain ⟨ug, uo, ut, em⟩ := map_fin3 J.mo J.mb
    subst hm0
    obtain ⟨a, ha, x, b, t, u, rfl, hx, hb⟩ := tabs_item hTr hv
    have nf := J.led
    subst nf
    rw [em] at F'
    have N5 := news_put N' (.tail _ (.tail _ (.tail _ (.tail _ (.tail _ (.tail _ (J.sub _ hx)))))))
    have x1 : @Ne Nat x src := J.n1 _ (J.sub _ hx)
    have x2 : @Ne Nat x (L1 + 1) := J.n2 _ (J.sub _ hx)
    have x3 : @Ne Nat x rd := J.n3 _ (J.sub _ hx)
    have x4 : @Ne Nat x I := hnI _ (.tail _ (.tail _ (.tail _ (.tail _ (.tail _ (J.sub _ hx))))))
    have i1 : @Ne Nat rd I := hnI _ (.head _)
    have i2 : @Ne Nat (L1 + 1) I := hnI _ (.tail _ (.head _))
    have i3 : @Ne Nat src I := hnI _ (.tail _ (.tail _ (.head _)))
    have i4 : @Ne Nat tl I := hnI _ (.tail _ (.tail _ (.tail _ (.head _))))
    have i5 : @Ne Nat RL I := hnI _ (.tail _ (.tail _ (.tail _ (.tail _ (.head _)))))
    have i6 : ∀ p ∈ qs, p.1 ≠ I := fun p hp => hnI p (.tail _ (.tail _ (.tail _ (.tail _ (.tail _ hp)))))
    have n1 := J.n1
    have n2 := J.n2
    have n3 := J.n3
    have so := J.so
    have dict := J.dict
    have bi := J.bi
    have bl := J.bl
    clear N' N4 F3 hnI
    have al : a.2.length ≤ 12 := by
      rcases hts.2.2 a (List.mem_reverse.mp (List.mem_of_getElem? ha)) with q | q <;> have := q.2 <;> omega
    have kl : kvs.length ≤ i := by
      have := congrArg List.length J.keys
      rw [List.length_map, List.length_map, List.length_take] at this
      omega
    have hi4 : i < 4 := by rw [List.length_reverse] at hi; omega
    k_steps
    rename_i x9 t9 oS8 h9 tk9 m9 SO8 b9 t8 k8 h8 tk8 t7 h7 tk7 T8 h6 l8 h5 o8 D8 tkw t6 k6 A6 t5 k5 A5 h4 F8 N8
    (try k_unfold)
    have absent : valueAt kvs a.1 = none := valueAt_none_of_not_mem (by
      rw [J.keys, List.map_take]
      refine not_mem_take ?_ (by rw [List.getElem?_map, ha]; rfl)
      rw [List.map_reverse]; exact (List.reverse_perm _).nodup_iff.mpr hts.2.1)
    have place : 12 + 16 * (vs.toArray.size : Int) + (bk.length : Int) + ((x9.toNat * (byteArr [255]).toList.length : Nat) : Int) = 12 + 16 * (ts.length : Int) + ((bk.length + x9.toNat : Nat) : Int) := by
      rw [List.size_toArray, tabs_len hT, show (byteArr [255]).toList.length = 1 from rfl]; omega
    refine LEnd.intro F8 (nx := (rd, o8) :: (L1 + 1, oC) :: (src, oS8) :: (tl, listOf vs.toArray c) :: (RL, listOf vs.reverse.toArray 0) :: (T8, _) :: qs) (cb_drop N8 (by kcj_all)) ?_ ⟨(T8, _) :: qs, oS8, o8, _, _, _, _, SO8, rfl, fun p hp => .tail _ (J.sub p hp), ?_, ?_, ?_, D8, ?_, ?_, rfl, A5, ?_, ?_⟩
    · exact allNe i1 (allNe i2 (allNe i3 (allNe i4 (allNe i5 (allNe (Nat.ne_of_gt l8.2.2.2.1) i6)))))
    · exact allNe (Nat.ne_of_gt l8.2.2.2.2.2.2.1) n1
    · exact allNe (Nat.ne_of_gt l8.2.2.2.2.2.1) n2
    · exact allNe (Nat.ne_of_gt l8.2.2.2.2.1) n3
    · rw [stored_absent absent, List.map_append, J.keys, List.take_add_one, ha]; rw [List.map_append]; rfl
    · intro z hz
      k_extra "my out"
    · rw [List.length_append, List.length_append, List.length_replicate]; omega
    · intro a' ha'
      rw [stored_absent absent]
      rw [List.take_add_one, ha] at ha'
      rcases List.mem_append.mp ha' with h | h
      · obtain ⟨r, v, e1, e2, e3⟩ := J.fits a' h
        exact ⟨r, v, valueAt_old e1, tupIn_mono (fun _ h => .tail _ h) e2, fits_mono (fits_mono e3)⟩
      · obtain rfl : a' = a := by simpa using h
        refine ⟨⟨a'.1, ownSum a', _, a'.2.length⟩, .ref T8, valueAt_new absent, ⟨T8, _, _, _, _, rfl, Nat.lt_of_succ_lt l8.2.2.2.2.2.1, .head _⟩, rfl, rfl, rfl, bk.length + x9.toNat, place, ?_, ?_⟩
        · rw [List.length_append, List.length_append, List.length_replicate]; omega
        · have q := partL_app (bk ++ List.replicate x9.toNat 255) a'.2 0 a'.2.length
          rw [List.length_append, List.length_replicate, Nat.add_zero] at q
          rw [q, partL, List.drop_zero, List.take_length]
  · intro m₁ nx h' tk hZ4 F' N'
    (try k_extra "my kf")
    obtain ⟨qs, oS4, oD, kvs, bb, bt, bk, J⟩ := hZ4
    obtain ⟨ug, uo, ut, em⟩ := map_fin3 J.mo J.mb
    subst hm0
    have nf := J.led
    subst nf
    rw [em] at F'
    have n1 := J.n1
    have n2 := J.n2
    have n3 := J.n3
    have so := J.so
    have dict := J.dict
    have bi := J.bi
    have bl := J.bl
    clear N4 F3
    k_steps
    unfold StopLoop
    have led := J.led
    have hall : ∀ a ∈ ts, ∃ r v, valueAt kvs a.1 = some v ∧ TupIn L1 qs v r ∧ RowFits ts.length bk a r := fun a ha => J.fits a (by
      rw [List.take_of_length_le (by rw [List.length_reverse, List.length_reverse, tabs_len hT]; exact Nat.le_refl _)]
      exact List.mem_reverse.mpr ha)
    have hsub := J.sub
    clear J
    have hmt : (tl, listOf vs.toArray c) ∈ (rd, oD) :: (L1 + 1, oC) :: (src, oS4) :: (tl, listOf vs.toArray c) :: (RL, listOf vs.reverse.toArray 0) :: qs := .tail _ (.tail _ (.tail _ (.head _)))
    refine LCp.SrcLP.ledger rfl F' N' hmt (by rw [sizeLine_eq, List.size_toArray]; omega) ?_
    intro g'
    refine comp_indP (fun i ys news => news = (rd, oD) :: (L1 + 1, oC) :: (src, oS4) :: (tl, listOf vs.toArray c) :: (RL, listOf vs.reverse.toArray 0) :: qs ∧ ∃ rs, TupsAre L1 qs ys rs ∧ rs.length = i ∧ ∀ (j : Nat) (a : Str × List Int), j < i → ts[j]? = some a → ∃ r : DRow, rs[j]? = some r ∧ RowFits ts.length bk a r) ?_ ?_ _ 0 [] _ (Nat.zero_add _) ⟨rfl, [], trivial, rfl, fun j _ h => absurd h (Nat.not_lt_zero j)⟩
    · intro i ys news v hi hZ5 hv
      (try k_extra "my kf")
      obtain ⟨rfl, rs, hR, hl, hfit⟩ := hZ5
      obtain ⟨a, ha, x, b, t, u, rfl, hx, hb⟩ := tabs_item hT (i := i) (v := v) (by simpa using hv)
      refine ⟨x, _, _, _, _, rfl, .tail _ (.tail _ (.tail _ (.tail _ (.tail _ (hsub _ hx))))), rfl, rfl, ?_⟩
      intro I2 oI2 C2 oC2 D2 m₂ h2 tk2 E2 hC2 hx2 hy2 F2 N2 off2 ne2
      (try k_extra "my kf")
      obtain ⟨r, v, e1, e2, e3⟩ := hall a (List.mem_of_getElem? ha)
      k_steps
      (try k_unfold)
      refine LCg.CompEnd.intro F2 N2 _ (fun p hp => hp) off2 (.inr ⟨_, hmt, rfl, _, rfl⟩) ⟨rfl, rs ++ [r], tups_snoc e2 hR, by rw [List.length_append, hl]; rfl, ?_⟩
      intro j a' hj ha'
      by_cases c : j < i
      · obtain ⟨r', q1, q2⟩ := hfit j a' c ha'
        exact ⟨r', by rw [List.getElem?_append_left (by omega)]; exact q1, q2⟩
      · obtain rfl : j = i := by omega
        rw [ha] at ha'
        obtain rfl := Option.some.inj ha'
        exact ⟨r, by rw [List.getElem?_append_right (by omega), hl, Nat.sub_self]; rfl, e3⟩
    · intro ys news hZ2
      intro D2 h2 tk2 F2 N2 off2
      (try k_extra "my kf")
      obtain ⟨rfl, rs, hR, hl, hfit⟩ := hZ2
      have ⟨o1, o2, o3, o4, o5, o6⟩ : (@Ne Nat rd D2) ∧ (@Ne Nat (L1 + 1) D2) ∧ (@Ne Nat src D2) ∧ (@Ne Nat tl D2) ∧ (@Ne Nat RL D2) ∧ _ := off2
      clear F' N'
      k_steps
      unfold StopLoop
      (with_reducible rename News _ _ _ _ => N3)
      (with_reducible rename Fr _ _ _ _ => F3)
      (with_reducible rename SrcO _ => SO3)
      (with_reducible rename (_ : Int) ∈ [65536, 1953658213] => m9)
      (with_reducible rename KBw.bInts (_ ++ _ ++ _) = _ => A9)
      clear hall
      have hrs : ∀ (i : Nat) (r : DRow), rs[i]? = some r → (ordL r.tag).length = 4 ∧ TagOk (ordL r.tag) := fun i r hr => by
        have hi : i < rs.length := (List.getElem?_eq_some_iff.mp hr).1
        have hi' : i < ts.length := by rw [← tabs_len hT]; simpa [hl] using hi
        obtain ⟨r', e, q⟩ := hfit i ts[i] (by rw [← hl]; exact hi) (List.getElem?_eq_getElem hi')
        rw [hr] at e
        rw [Option.some.inj e, q.1]
        rcases hts.2.2 ts[i] (List.getElem_mem hi') with h | h
        · exact tag_facts (.inl h.1)
        · exact tag_facts (.inr h.1)
      have hrl4 : rs.length ≤ 4 := by rw [hl, List.size_toArray]; exact hn4
      obtain ⟨m1, hm1, F4⟩ : ∃ m1, m1 = _ ∧ Fr B L1 _ m1 := ⟨_, rfl, F3⟩
      obtain ⟨oS9, SO9, N4⟩ : ∃ oS9, SrcO oS9 ∧ News B L1 _ ((D2, LCg.lst ys) :: (rd, oD) :: (L1 + 1, oC) :: (src, oS9) :: (tl, listOf vs.toArray c) :: (RL, listOf vs.reverse.toArray 0) :: qs) := ⟨_, SO3, cb_drop N3 (by kcj_all)⟩
      clear N3 F3
      refine list_loopT (vs := ys) (nn := ys.length) (HeadJ ((D2, LCg.lst ys) :: (rd, oD) :: (L1 + 1, oC) :: (src, oS9) :: (tl, listOf vs.toArray c) :: (RL, listOf vs.reverse.toArray 0) :: qs) m1 _ rs) rfl (N4 _ (.head _)).2.1 ?_ F4 N4 ⟨rfl, fun _ _ => rfl, _, _, by rw [hm1]; rfl, A9.trans (List.append_nil _).symm⟩ ?_ ?_
      · intro i m nx h hZ4 _ N'
        (try k_extra "my kf")
        obtain ⟨rfl, _⟩ := hZ4
        exact (N' _ (.head _)).1
      · intro i v m₁ nx s₁ I o hi hv hnI hZ10 F' N'
        (try k_extra "my kf")
        obtain ⟨rfl, mo, hb, ht, mb, hbi⟩ := hZ10
        obtain ⟨u1, u2, u3, u4, em⟩ := map_fin4 mo mb
        subst hm1
        obtain ⟨r, hr, Tt, t1, t2, t3, t4, rfl, ltT, mT⟩ := tups_item hR hv
        obtain ⟨r4, r5⟩ := hrs i r hr
        have r6 := in_of_tag r5
        have hyl : ys.length = rs.length := tups_len hR
        have hz : ((rs.take i).flatMap rowL).length = 16 * i := by
          rw [rows_len fun x hx => (by obtain ⟨j, hj, e⟩ := List.getElem_of_mem (List.mem_of_mem_take hx); exact (hrs j x (by rw [List.getElem?_eq_getElem hj, e])).1), List.length_take]
          omega
        rw [em] at F'
        have N5 := news_put N' (.tail _ (.tail _ (.tail _ (.tail _ (.tail _ (.tail _ (.tail _ mT)))))))
        clear N'
        k_steps
        unfold StopLoop
        refine CompSrcS.mk' rfl (by k_asm) (by k_asm) (ordL_size (by omega)) fun g' => ?_
        refine ord_turns ?_ ?_
        · intro i ys c u I oI C oC D m₂ h tk E' hc hI hC hx F N off ne
          (try k_extra "my kf")
          k_steps
          (try k_unfold)
          exact LCg.CompEnd.intro F N _ (fun p hp => hp) off trivial ⟨rfl, by rw [ordL_take hc]; exact ints_snoc hI⟩
        · intro ys9 hI9 D h9 tk9 F9 N9 off9
          (try k_extra "my kf")
          have hs9 : (ordL r.tag).length ≤ 16777216 := by omega
          k_steps
          (try k_unfold)
          (with_reducible rename News _ _ _ _ => N8)
          (with_reducible rename Fr _ _ _ _ => F8)
          (with_reducible rename KBw.bInts (_ ++ _ ++ _ ++ _ ++ _) = _ => A8)
          refine LEnd.intro F8 (nx := (D2, LCg.lst ys) :: (rd, oD) :: (L1 + 1, oC) :: (src, oS9) :: (tl, listOf vs.toArray c) :: (RL, listOf vs.reverse.toArray 0) :: qs) (cb_drop N8 (by kcj_all)) hnI ⟨rfl, ?_, _, _, rfl, A8.trans ?_⟩
          · intro z hz
            k_extra "my out"
          · rw [List.take_add_one, hr]; simp only [Option.toList, List.flatMap_append, List.flatMap_cons, List.flatMap_nil, rowL, List.append_assoc, List.append_nil]
      · intro m₁ nx h' tk hZ4 F' N'
        (try k_extra "my kf")
        obtain ⟨rfl, mo, hb, ht, mb, hbi⟩ := hZ4
        obtain ⟨u1, u2, u3, u4, em⟩ := map_fin4 mo mb
        subst hm1
        rw [em] at F'
        have hyl : ys.length = rs.length := tups_len hR
        have hz : ((rs.take ys.length).flatMap rowL).length = 16 * rs.length := by
          rw [rows_len fun x hx => (by obtain ⟨j, hj, e⟩ := List.getElem_of_mem (List.mem_of_mem_take hx); exact (hrs j x (by rw [List.getElem?_eq_getElem hj, e])).1), List.length_take]
          omega
        rw [List.length_reverse] at bl
        clear N4 F4
        k_steps
        (try k_unfold)
        (with_reducible rename News _ _ _ _ => N8)
        (with_reducible rename Fr _ _ _ _ => F8)
        (with_reducible rename SrcO _ => SO8)
        (with_reducible rename KBw.bInts (_ ++ _ ++ _) = _ => A8)
        (with_reducible rename (_ : Int) < 4 => hi4)
        have lD : ∀ p ∈ (rd, oD) :: (L1 + 1, oC) :: (src, oS4) :: (tl, listOf vs.toArray c) :: (RL, listOf vs.reverse.toArray 0) :: qs, @Ne Nat p.1 D2 := off1_mem off2
        rename_i oS8 h9b tk9b x8 t8 lo8 b8 t6 k6 Z8 t5 k5 la hb2 l8
        have hts4 : vs.toArray.size = ts.length := by rw [List.size_toArray, tabs_len hT]
        have new : ∀ a, @LT.lt Nat _ L1 a → h.get? a = none := fun a q => hs ▸ new_above' hL1 q
        refine rt _ _ _ (fin_read F8 hBr (fun p hp => (hf p (.tail _ hp)).1) N8 ?_) (fin_src N8 (by k_mem) SO8) ⟨la, D2, L1, hb ++ bb ++ b8, t5, ys, 0, ys.length, qs.filter (fun p => decide (@LT.lt Nat _ L1 p.1)), rs, _, rfl, A8, fontIs_of (z := x8.toNat) m9 (by omega) (by omega) bi (by rw [hl, hts4]) ?_ ?_, tups_filter (fun p hp hlt => List.mem_filter.mpr ⟨hp, decide_eq_true hlt⟩) hR, ?_⟩
        · intro p hp
          rcases List.mem_cons.mp hp with rfl | hp
          · exact .tail _ (.tail _ (.tail _ (.tail _ (.tail _ (.head _)))))
          · exact .tail _ (.tail _ (.tail _ (.tail _ (.tail _ (.tail _ (.tail _ (hsub p hp)))))))
        · exact fun i a ha => hfit i a (by rw [hts4]; exact (List.getElem?_eq_some_iff.mp ha).1) ha
        · rw [fontL, hl, hyl, List.take_length]; rfl
        · intro p hp
          rcases List.mem_cons.mp hp with rfl | hp
          · exact ⟨(N8 _ (.head _)).1, new _ (Nat.lt_of_succ_lt l8.2.2.1)⟩
          rcases List.mem_cons.mp hp with rfl | hp
          · refine ⟨(N8 _ (.tail _ (.head _))).1, ?_⟩
            cases e : h.get? D2 with
            | none => rfl
            | some o =>
              have n8 := (N8 _ (.tail _ (.head _))).2.2
              rw [hBr D2 o (fun q => o3 q.symm) (fun p hp q => ?_) (hs ▸ e)] at n8
              · cases n8
              · rcases List.mem_cons.mp hp with rfl | hp
                · exact o4 q.symm
                · exact lD p (.tail _ (.tail _ (.tail _ (.tail _ (.tail _ (hsub p hp)))))) q.symm
          · obtain ⟨h1, h2⟩ := List.mem_filter.mp hp
            exact ⟨(N8 _ (.tail _ (.tail _ (.tail _ (.tail _ (.tail _ (.tail _ (.tail _ h1)))))))).1, new _ (of_decide_eq_true h2)⟩
end
-- SX
/-- comprehension with a test -/
theorem comp_indT {prog : Program} {w : World} {A : Around} {s : Shared} {h₀ : Heap} {L : Addr} {m : Str → Option Value} {env : Env} {ct elt : PySem.Expr} {x : Str} {scope : Scope} {cl : List (Str × Addr)} {S : List (Addr × Obj) → Prop} {P : Nat → Value → Prop} {Fin : List Value → List (Addr × Obj) → Prop} {n : Nat} (J : Nat → List Value → List (Addr × Obj) → Prop)
    (turn : ∀ i ys news v I oI C oC D m₂ h tk (E' : Value → Shared → Prop), i < n → J i ys news → P i v → LCg.NsObj oC m₂ → m₂ x = some v → Fr h₀ L h m → News h₀ L h ((I, oI) :: (C, oC) :: (D, LCg.lst ys) :: news) → LCg.Off3 I C D news → ((@Ne Nat I C) ∧ (@Ne Nat I D) ∧ (@Ne Nat C D)) →
      wpAny (model prog w) A (isTrue ct (compEnvC scope cl C env) (eval ct (compEnvC scope cl C env))) (fun ok s' => if ok = true then
        wpAny (model prog w) A (eval elt (compEnvC scope cl C env)) (LCg.CompEnd h₀ L m { s with heap := h, toks := tk } I oI C oC D (LCg.lst ys) S (fun y news' => J (i + 1) (ys ++ [y]) news')) E' s'
        else LCg.CompEnd h₀ L m { s with heap := h, toks := tk } I oI C oC D (LCg.lst ys) S (fun _ news' => J (i + 1) ys news') Value.none s') E' { s with heap := h, toks := tk })
    (fin : ∀ ys news, J n ys news → Fin ys news) : ∀ (k i : Nat) (ys : List Value) (news : List (Addr × Obj)), i + k = n → J i ys news → LCt.CompRestT prog w A h₀ L m env ct elt x scope cl s S P Fin k i ys news := by
  intro k
  induction k with
  | zero =>
    intro i ys news hi hJ
    obtain rfl : i = n := by omega
    exact fin ys news hJ
  | succ k ih =>
    intro i ys news hi hJ v I oI C oC D m₂ h tk E' hP hC hx F N off ne
    refine wpAny_mono (turn i ys news v I oI C oC D m₂ h tk E' (by omega) hJ hP hC hx F N off ne) (fun ok s₂ he => ?_) fun _ _ e => e
    cases ok with
    | true =>
      simp only [if_true] at he ⊢
      refine wpAny_mono he (fun y s₃ he => ?_) fun _ _ e => e
      obtain ⟨h', tk', news', e, F', N', off', hS, hr⟩ := he
      exact ⟨h', tk', news', e, F', N', off', hS, ih (i + 1) (ys ++ [y]) news' (by omega) hr⟩
    | false =>
      simp only [Bool.false_eq_true, if_false] at he ⊢
      obtain ⟨h', tk', news', e, F', N', off', hS, hr⟩ := he
      exact ⟨h', tk', news', e, F', N', off', hS, ih (i + 1) ys news' (by omega) hr⟩
section
variable {prog : Program} {w : World} {A : Around} {E : Value → Shared → Prop} {s : Shared} {l b : Addr} {vs : List Value} {Q : Value → Shared → Prop}
theorem ne_empty (hl : s.heap.IsList l vs.toArray) (hb : s.heap.IsList b (#[] : Array Value)) (hu : A.units < cLine) (h : Q (.bool (!vs.isEmpty)) s) : wpAny (model prog w) A (compareOp .NotEq (.ref l) (.ref b)) Q E s := by
  cases vs with
  | nil => exact SeqAt.RcNeAt.lists (e := fun _ => true) hl hb rfl hu (fun j h1 _ => absurd h1 (Nat.not_lt_zero j)) prog w E Q h
  | cons v vs => exact SeqAt.RcNeAt.lists_lengths hl hb (by simp) hu prog w E Q h
theorem eq_empty (hl : s.heap.IsList l vs.toArray) (hb : s.heap.IsList b (#[] : Array Value)) (hu : A.units < cLine) (h : Q (.bool vs.isEmpty) s) : wpAny (model prog w) A (compareOp .Eq (.ref l) (.ref b)) Q E s := by
  cases vs with
  | nil => exact SeqAt.eq_listAt (e := fun _ => true) hl hb rfl hu (fun j h1 _ => absurd h1 (Nat.not_lt_zero j)) h
  | cons v vs => exact SeqAt.eq_list_lengthsAt hl hb (by simp) hu h
end
theorem any_take {f : DRow → Bool} {rs : List DRow} {i : Nat} {r : DRow} (h : rs[i]? = some r) : (rs.take (i + 1)).any f = ((rs.take i).any f || f r) := by
  rw [List.take_add_one, h, List.any_append]; simp
theorem xor_in {x : Int} (h0 : 0 ≤ x) (h1 : x < 256) : 0 ≤ Builtin.bitXor x 64 ∧ Builtin.bitXor x 64 < 256 ∧ Builtin.bitXor x 64 ≠ x := by
  have key : ∀ k : Fin 256, 0 ≤ Builtin.bitXor (k.val : Int) 64 ∧ Builtin.bitXor (k.val : Int) 64 < 256 ∧ Builtin.bitXor (k.val : Int) 64 ≠ (k.val : Int) := by decide +kernel
  have := key ⟨x.toNat, by omega⟩
  rwa [show ((x.toNat : Nat) : Int) = x by omega] at this
theorem word_SX_1 : True := by
  (k_with "compareOp NotEq ref ref" => (k_here; (with_reducible show wpAny _ _ (compareOp CmpOp.NotEq (Value.ref _) (Value.ref _)) _ _ _); k_dflt (refine' ne_empty ?zzl ?zzb ?zzu ?_; (case zzb => exact News.isList (by k_asm) (by k_mem)); (case zzl => is_list); (case zzu => (k_extra "my line"))); (try simp only [List.isEmpty_nil, List.isEmpty_cons, Bool.not_true, Bool.not_false])))
  trivial
theorem word_SX_2 : True := by
  (k_with "compareOp Eq ref ref" => (k_here; (with_reducible show wpAny _ _ (compareOp CmpOp.Eq (Value.ref _) (Value.ref _)) _ _ _); k_dflt (refine' eq_empty ?zzl ?zzb ?zzu ?_; (case zzb => exact News.isList (by k_asm) (by k_mem)); (case zzl => is_list); (case zzu => (k_extra "my line")))))
  trivial
theorem sorted_strsK {prog : Program} {w : World} {A : Around} {E : Value → Shared → Prop} {s : Shared} {h₀ : Heap} {L l : Addr} {m : Str → Option Value} {news : List (Addr × Obj)} {vs : List Value} {ss : List Str} {Q : Value → Shared → Prop} (F : Fr h₀ L s.heap m) (N : News h₀ L s.heap news) (hl : s.heap.IsList l vs.toArray) (hS : StrsAre vs ss) (h64 : vs.length < 64)
    (h : ∀ D vs' c h', Fr h₀ L h' m → News h₀ L h' ((D, listOf (List.toArray vs') c) :: news) → StrsAre vs' (sortS ss) → (∀ q ∈ news, q.1 < D) → Q (.ref D) { s with heap := h' }) : wpAny (model prog w) A (call (.builtin "sorted") [.ref l]) Q E s :=
  sorted_N_str F N hl hS h64 fun h' vs' ss' c F' N' S' p o => h _ vs' c h' F' N' (by rw [← sortS_of p o]; exact S') fun q hq => Nat.lt_succ_of_lt (Heap.lt_size (N q hq).1)
theorem word_SX_3 : True := by
  (k_with "call builtin:sorted" => (k_here; (with_reducible show wpAny _ _ (call (Value.builtin "sorted") [Value.ref _]) _ _ _); k_dflt (refine' sorted_strsK ?zzF ?zzN ?zzl ?zzS ?zzz ?_; (case zzF => k_asm); (case zzN => k_asm); (case zzl => is_list); (case zzS => assumption); (case zzz => omega)); intro D9 vs9 c9 h9 F9 N9 S9 q9; have z9 := strs_len_le S9; (replace q9 := allLt_of q9); (try simp only [AllLt, and_true] at q9); (first | (revert D9 vs9 c9 h9 F9 N9 S9 q9 z9; intros) | skip)))
  trivial
theorem item_at {prog : Program} {w : World} {A : Around} {E : Value → Shared → Prop} {s : Shared} {value slice : PySem.Expr} {l : Addr} {vs : List Value} {k : Nat} {u : Tok} {v : Value} {Q : Value → Shared → Prop}
    (hl : s.heap.IsList l vs.toArray) (e : vs[k]? = some v) (h2 : vs.length ≤ 1000) (h : Q v s)
    (hs : subscripted slice false (.ref l) (.int (k : Int) u) = operate [.ref l, .int (k : Int) u] (getItem (.ref l) (.int (k : Int) u)) := by with_unfolding_all rfl) :
    wpAny (model prog w) A (subscriptTail value slice (.ref l) (.int (k : Int) u)) Q E s := by
  have hk : k < vs.length := (List.getElem?_eq_some_iff.mp e).1
  exact tail_any hl.typeIs slot_list_getitem.lookup (wpAny_getItem_list hl (by omega) (by omega) (by simpa using e) h) hs
theorem word_SX_4 : True := by
  (k_with "subscriptTail Name Name ref int" => (k_here; k_dflt (refine' item_at ?zza ?zzb ?zzd ?_ ?zze; (case zza => is_list); (case zzb => assumption); (case zzd => omega); (case zze => with_unfolding_all rfl))))
  trivial
theorem word_SX_5 : True := by
  (k_with "eval IfExp" => (k_here; (with_reducible show wpAny _ _ (eval (Expr.IfExp _ _ _ _) _) _ _ _); refine StopLoop.mk ?_))
  trivial
-- SR
theorem word_SR_1 : True := by
  (k_with "my size" => ((try simp only [fm4, fm256, fd256, fm65536, fd65536, p16_len, p32_len, partL_len, fillL_len, headL_len, List.length_append, List.length_cons, List.length_nil, List.length_replicate, List.length_take, List.length_drop, List.length_map, List.size_toArray]); (first | (refine' Nat.le_trans ?zzra ?zzrb; (case zzra => (repeat' (first | with_reducible apply Nat.add_le_add | with_reducible apply Nat.le_trans (Nat.min_le_right _ _) | with_reducible apply Nat.le_trans (Nat.sub_le _ _) | with_reducible exact top | with_reducible exact Nat.le_trans (Nat.le_of_eq hbl) top | with_reducible exact Nat.le_refl _))); (case zzrb => decide)) | fail "my size")))
  trivial
/-- what joins the branches of an expression that makes a list of letters -/
def JoinP (B : Heap) (L : Addr) (m : Str → Option Value) (led : List (Addr × Obj)) (wl : List Str) (s : Shared) (v : Value) (s' : Shared) : Prop := ∃ W wv kw h' tk', v = .ref W ∧ s' = { s with heap := h', toks := tk' } ∧ Fr B L h' m ∧ News B L h' ((W, listOf (List.toArray wv) kw) :: led) ∧ StrsAre wv wl ∧ AllLt W led
theorem join_at {M : Model} {A : Around} {x : Sem Value} {K E : Value → Shared → Prop} {s : Shared} {B : Heap} {L : Addr} {m : Str → Option Value} (led : List (Addr × Obj)) (wl : List Str) (h : wpAny M A x (JoinP B L m led wl s) E s)
    (hK : ∀ W wv kw h' tk', Fr B L h' m → News B L h' ((W, listOf (List.toArray wv) kw) :: led) → StrsAre wv wl → AllLt W led → K (.ref W) { s with heap := h', toks := tk' }) : wpAny M A x K E s :=
  wpAny_mono h (fun v s₂ rZ => by obtain ⟨W, wv, kw, h', tk', e1, e2, F, N, S, q⟩ := rZ; subst e1; subst e2; exact hK W wv kw h' tk' F N S q) fun _ _ e => e
def JoinN (B : Heap) (L : Addr) (m : Str → Option Value) (led : List (Addr × Obj)) (n : Nat) (s : Shared) (v : Value) (s' : Shared) : Prop := ∃ W wv kw h' tk', ∃ ns : List Nat, v = .ref W ∧ s' = { s with heap := h', toks := tk' } ∧ Fr B L h' m ∧ News B L h' ((W, listOf (List.toArray wv) kw) :: led) ∧ IntsAre wv (ns.map fun (i : Nat) => (i : Int)) ∧ ns.Nodup ∧ (∀ i ∈ ns, i < n) ∧ ns.length ≤ 2 ∧ AllLt W led
theorem join_nums {M : Model} {A : Around} {x : Sem Value} {K E : Value → Shared → Prop} {s : Shared} {B : Heap} {L : Addr} {m : Str → Option Value} (led : List (Addr × Obj)) (n : Nat) (h : wpAny M A x (JoinN B L m led n s) E s)
    (hK : ∀ W wv kw h' tk' (ns : List Nat), Fr B L h' m → News B L h' ((W, listOf (List.toArray wv) kw) :: led) → IntsAre wv (ns.map fun (i : Nat) => (i : Int)) → ns.Nodup → (∀ i ∈ ns, i < n) → ns.length ≤ 2 → AllLt W led → K (.ref W) { s with heap := h', toks := tk' }) : wpAny M A x K E s :=
  wpAny_mono h (fun v s₂ rZ => by obtain ⟨W, wv, kw, h', tk', ns, e1, e2, F, N, S, r1, r2, r3, q⟩ := rZ; subst e1; subst e2; exact hK W wv kw h' tk' ns F N S r1 r2 r3 q) fun _ _ e => e
theorem in_one {x : Int} (h : 0 ≤ x ∧ x < 256) : KBa.In [x] := fun z hz => by rw [List.mem_singleton.mp hz]; exact h
theorem in_xor {b : Array UInt8} {ks : List Int} (hk : KBw.bInts b = ks) {j : Nat} : KBa.In [Builtin.bitXor (ks.getD j 0) 64] := in_one (by have q := byte_of hk (j := j); have := xor_in q.1 q.2; exact ⟨this.1, this.2.1⟩)
theorem word_SR_2 : True := by
  (k_with "call type:bytes" => (k_here; (with_reducible show wpAny _ _ (call (Value.type "bytes") [Value.ref _]) _ _ _); k_dflt (refine' KBa.make_K ?zzF ?zzN ?zzh ?zzl ?zzi ?zzr ?zzn ?_; (case zzF => k_asm); (case zzN => k_asm); (case zzh => rfl); (case zzl => is_list); (case zzi => first | assumption | kba_listInts); (case zzr => exact in_xor (by assumption)); (case zzn => first | kba_size | decide)); intro h9 t9 k9 F9 N9 kbaIn; (first | (revert h9 t9 k9 F9 N9 kbaIn; intros) | skip)))
  trivial
theorem map_fin2' {x a d : Str} {m₁ m₀ : Str → Option Value} {v : Option Value} (hm : ∀ z, z ∉ [x, a, d] → m₁ z = m₀ z) (hd : m₁ d = v) : ∃ ux ua, m₁ = fun z => if z = x then ux else if z = a then ua else if z = d then v else m₀ z := by
  subst hd
  exact ⟨_, _, over_eq _ hm⟩
def BentJ (led : Obj → List (Addr × Obj)) (m₀ : Str → Option Value) (ks : List Int) (n : Nat) (ns : List Nat) (i : Nat) (m : Str → Option Value) (nx : List (Addr × Obj)) : Prop := ∃ oS bb bt bk, SrcO oS ∧ nx = led oS ∧ (∀ z, z ∉ [Str.ofString "number", Str.ofString "octet_place", Str.ofString "bent"] → m z = m₀ z) ∧ m (Str.ofString "bent") = some (.bytes bb bt) ∧ KBw.bInts bb = bk ∧ Bent ks bk n (ns.take i)
theorem not_in_take {l : List Nat} {i x : Nat} (hn : l.Nodup) (h : l[i]? = some x) : x ∉ l.take i := by
  obtain ⟨hi, e⟩ := List.getElem?_eq_some_iff.mp h
  rw [← List.take_append_drop i l, List.drop_eq_getElem_cons hi, e, List.nodup_append] at hn
  exact fun hm => hn.2.2 x hm x (.head _) rfl
theorem wholeL_ok {rs : List DRow} {ks : List Int} : StrOkL (wholeL rs ks) := by
  intro x hx
  rw [wholeL] at hx
  split at hx
  · obtain rfl := List.mem_singleton.mp hx; decide +kernel
  · cases hx
theorem eq_strs_K {prog : Program} {w : World} {A : Around} {E : Value → Shared → Prop} {s : Shared} {h₀ : Heap} {L a b : Addr} {news : List (Addr × Obj)} {vs us : List Value} {ws xs : List Str} {ka kb : Nat} {Q : Value → Shared → Prop} (N : News h₀ L s.heap news) (ma : (a, listOf vs.toArray ka) ∈ news) (mb : (b, listOf us.toArray kb) ∈ news) (Sa : StrsAre vs ws) (Sb : StrsAre us xs) (e : ws = xs) (ob : StrOkL ws) (hu : A.units + 64 < cLine) (h : Q (.bool true) s) :
    wpAny (model prog w) A (compareOp .Eq (.ref a) (.ref b)) Q E s :=
  eq_strs N ma mb Sa Sb ob (by rw [← e]; exact ob) hu (by rw [decide_eq_true e]; exact h)
theorem word_SR_3 : True := by
  (k_with "compareOp NotEq ref ref" => (k_here; (with_reducible show wpAny _ _ (compareOp CmpOp.NotEq (Value.ref _) (Value.ref _)) _ _ _); k_dflt (refine' ne_strs_K ?zzN ?zza ?zzb ?zzSa ?zzSb ?zze ?zzob ?zzu ?_; (case zzN => k_asm); (case zza => k_mem); (case zzb => k_mem); (case zzSa => assumption); (case zzSb => assumption); (case zze => with_reducible exact FontOk.wrong (by assumption)); (case zzob => with_reducible exact wholeL_ok); (case zzu => (k_extra "my line")))))
  trivial
theorem word_SR_4 : True := by
  (k_with "compareOp Eq ref ref" => (k_here; (with_reducible show wpAny _ _ (compareOp CmpOp.Eq (Value.ref _) (Value.ref _)) _ _ _); k_dflt (refine' eq_strs_K ?zzN ?zza ?zzb ?zzSa ?zzSb ?zze ?zzob ?zzu ?_; (case zzN => k_asm); (case zza => k_mem); (case zzb => k_mem); (case zzSa => assumption); (case zzSb => first | assumption | exact strsAre_app (by assumption) (by assumption)); (case zze => first | (with_reducible exact FontOk.wrong (by assumption)) | with_reducible assumption); (case zzob => with_reducible exact wrongL_ok (bytes_lt (by assumption))); (case zzu => (k_extra "my line")))))
  trivial
section
variable {w : World} {h : Heap} {src tl L0 : Addr} {us : List Value} {qs : List (Addr × Obj)} {ts : List (Str × List Int)} {rs : List DRow} {ks : List Int} {c : Nat} {b : Array UInt8} {t : Tok}
set_option maxHeartbeats 8000000 in
theorem sums_gives (hk : KBw.bInts b = ks) (hF : FontOk ks ts rs) (hts : TsOk ts) (hR : TupsAre L0 qs us rs) : GivesR w 274 src ((tl, listOf us.toArray c) :: qs) [.ref src, .bytes b t, .ref tl] (BoolV true) 160 h := by
  (have hkf : PySem.Challenge.rw_on0235_01 = PySem.Challenge.rw_on0235_01 ∧ kheap.heap_1 = kheap.heap_1 := by k_fill; exact ⟨rfl, rfl⟩)
  clear hkf
  w_top off
  intro dp un gd fs s Q E g hs AM hgk hgn hfr hsrc hdp hun rt
  obtain ⟨B, oS, hSO, hBk, hBz, KX, ⟨p, loose, mean, mg, mb, T⟩, hf, hBr⟩ := base_read AM hgk hgn hsrc hfr
  refine' wpAny_call (enter_baseC (h₀ := B) hBk hBz KX T ?k6 ?k7 ?k8 ?k9 ?kB ?kD ?_ ?c2 ?c3 ?c4)
  (case k6 => k_is); (case k7 => k_is); (case k8 => first | exact rec_lt (by assumption) | (simp only [recursionLimit]; omega)); (case k9 => exact rfl); (case kB => exact rfl); (case kD => decide +kernel); (case c2 => exact rfl); (case c3 => exact rfl); (case c4 => exact rfl)
  intro L1 h1 tk1 cells1 hL1 hk1 F1 N1 Y1
  (try k_extra "my kf")
  have N2 := front_cells N1 hBk hf hk1 hL1
  have lt1 : @LT.lt Nat _ src L1 := by rw [hL1]; exact Heap.lt_size (hf (src, oS) (.head _)).1
  have lt2 : @LT.lt Nat _ tl L1 := by rw [hL1]; exact Heap.lt_size (hf (tl, listOf us.toArray c) (.tail _ (.head _))).1
  have ne1 : @Ne Nat tl src := (hfr _ (.head _)).2.2
  have hqs : ∀ p ∈ qs, p.1 ≠ src := fun p hp => (hfr p (.tail _ hp)).2.2
  have lqs : ∀ p ∈ qs, @LT.lt Nat _ p.1 L1 := fun p hp => by rw [hL1]; exact Heap.lt_size (hf p (.tail _ (.tail _ hp))).1
  have hpc : ∀ p ∈ qs, p.1 ≠ L1 + 1 := fun p hp => Nat.ne_of_lt (Nat.lt_succ_of_lt (lqs p hp))
  have hul : us.length = ts.length := by rw [tups_len hR, hF.rlen]
  have hn4 : us.length ≤ 4 := by rw [hul]; exact hts.1
  have top := hF.top
  have low := hF.low
  have dir := hF.dir
  clear N1
  k_cells Y1
  (try simp only [List.cons_append, List.nil_append] at N2)
  (try dsimp only); (try k_extra "my kf")
  k_steps
  unfold StopLoop
  rename_i oC dC
  obtain ⟨m0, hm0, F2⟩ : ∃ m0, m0 = _ ∧ Fr B L1 _ m0 := ⟨_, rfl, F1⟩
  clear F1
  refine join_at (B := B) (L := L1) (m := m0) ((L1 + 1, oC) :: (src, oS) :: (tl, listOf us.toArray c) :: qs) (wholeL rs ks) ?_ ?_
  · refine IfExp_ ?_
    subst hm0
    k_steps
    unfold StopLoop
    refine LCt.CompSrcT.ledger rfl (by k_asm) N2 (.tail _ (.tail _ (.head _))) (by rw [sizeLine_eq, List.size_toArray]; omega) ?_
    intro g'
    refine comp_indT (fun i ys news => news = (L1 + 1, oC) :: (src, oS) :: (tl, listOf us.toArray c) :: qs ∧ ys.isEmpty = !((rs.take i).any fun r => headTag r.tag) ∧ ys.length ≤ i) ?_ ?_ _ 0 [] _ (Nat.zero_add _) ⟨rfl, rfl, Nat.le_refl _⟩
    · intro i ys news v I oI C oC2 D m₂ h tk E' hi hZ14 hv hC hx F N off ne
      (try k_extra "my kf")
      obtain ⟨rfl, hy, hyl⟩ := hZ14
      obtain ⟨r, hr, Tt, t1, t2, t3, t4, rfl, ltT, mT⟩ := tups_item hR (i := i) (v := v) (by simpa using hv)
      have N5 := news_put N (.tail _ (.tail _ (.tail _ (.tail _ (.tail _ (.tail _ mT))))))
      clear N
      k_steps
      · rename_i a9
        (try k_unfold)
        refine LCg.CompEnd.intro (by k_asm) N5 _ (fun p hp => .tail _ hp) off (.inr ⟨_, .tail _ (.tail _ (.head _)), rfl, _, rfl⟩) ⟨rfl, ?_, by rw [List.length_append]; exact Nat.succ_le_succ hyl⟩
        rw [any_take hr, show headTag r.tag = true from a9]; simp
      · rename_i a9
        (try k_unfold)
        refine LCg.CompEnd.intro (by k_asm) N5 _ (fun p hp => .tail _ hp) off (.inr ⟨_, .tail _ (.tail _ (.head _)), rfl, _, rfl⟩) ⟨rfl, ?_, Nat.le_succ_of_le hyl⟩
        rw [any_take hr, show headTag r.tag = false from a9, Bool.or_false]; exact hy
    · intro ys news hZ2
      intro D2 h2 tk2 F2 N2 off2
      (try k_extra "my kf")
      obtain ⟨rfl, hy, hyl⟩ := hZ2
      rw [List.take_of_length_le (by rw [List.size_toArray, tups_len hR]; exact Nat.le_refl _)] at hy
      have hy : ys.isEmpty = !hasHead rs := hy
      cases ys with
      | nil =>
        have hh : hasHead rs = false := by cases e : hasHead rs <;> simp_all
        k_steps
        rename_i l9
        exact ⟨_, _, _, _, _, rfl, rfl, by k_asm, cb_drop (by k_asm) (by kcj_all), by rw [wholeL, if_neg (by simp [hh])]; exact .nil, l9.2.2⟩
      | cons y ys =>
        have hh : hasHead rs = true := by cases e : hasHead rs <;> simp_all
        k_steps
        · rename_i a9 l8 h8 F8 N8 l9
          exact ⟨_, _, _, _, _, rfl, rfl, by k_asm, cb_drop (by k_asm) (by kcj_all), by rw [wholeL, if_pos ⟨hh, by simpa using a9⟩]; exact .cons _ _ .nil, l9.2.2⟩
        · rename_i a9 l8 h8 F8 N8 l9
          exact ⟨_, _, _, _, _, rfl, rfl, by k_asm, cb_drop (by k_asm) (by kcj_all), by rw [wholeL, if_neg (by simpa [hh] using a9)]; exact .nil, l9.2.2⟩
  · intro W wv kw h3 tk3 F3 N3 S3 q3
    (try k_extra "my kf")
    have ⟨w1, w2, w3, w4⟩ : (@LT.lt Nat _ (L1 + 1) W) ∧ (@LT.lt Nat _ src W) ∧ (@LT.lt Nat _ tl W) ∧ AllLt W qs := q3
    clear F2 N2 q3
    subst hm0
    k_steps
    · (try k_unfold); (try dsimp only)
      refine rt _ _ _ (fin_read (by k_asm) hBr (fun p hp => (hf p (.tail _ hp)).1) (by k_asm) ?_) (fin_src (by k_asm) (by k_mem) hSO) rfl
      intro p hp
      rcases List.mem_cons.mp hp with rfl | hp <;> repeat first | exact .head _ | exact hp | refine .tail _ ?_
    · (with_reducible rename List.isEmpty _ = false => a9)
      have hpos : 0 < us.length := List.length_pos_iff.mpr (fun e => by rw [e] at a9; cases a9)
      k_steps
      unfold StopLoop
      rename_i x1 t1 lo1 hi1 oS2 h2 tk2 SO2 x2 t2 lo2 hi2 Dp h3 l3 h4 h5 h6 F6 N6
      obtain ⟨k1, rfl⟩ : ∃ k : Nat, x1 = k := ⟨x1.toNat, by omega⟩
      obtain ⟨k2, rfl⟩ : ∃ k : Nat, x2 = k := ⟨x2.toNat, by omega⟩
      obtain ⟨m1, hm1, F7⟩ : ∃ m1, m1 = _ ∧ Fr B L1 _ m1 := ⟨_, rfl, F6⟩
      clear F6
      refine join_nums (B := B) (L := L1) (m := m1) ((L1 + 1, oC) :: (src, oS2) :: (tl, listOf us.toArray c) :: qs) us.length ?_ ?_
      · refine IfExp_ ?_
        subst hm1
        k_steps
        · rename_i a9 l8 h9 F9 N9 l9
          exact ⟨_, _, _, _, _, [k1], rfl, rfl, by k_asm, cb_drop (by k_asm) (by kcj_all), .cons _ _ .nil, by simp, by intro i hi; rw [List.mem_singleton.mp hi]; omega, Nat.le_succ 1, l9.2.2.2.2⟩
        · rename_i a9 l8 h9 F9 N9 l9
          exact ⟨_, _, _, _, _, [k1, k2], rfl, rfl, by k_asm, cb_drop (by k_asm) (by kcj_all), .cons _ _ (.cons _ _ .nil), by simp; omega, by intro i hi; simp only [List.mem_cons, List.not_mem_nil, or_false] at hi; omega, by exact Nat.le_refl 2, l9.2.2.2.2⟩
      · intro Wn nv kn h8 tk8 ns F8 N8 I8 nd8 lt8 le8 q8
        (try k_extra "my kf")
        have ⟨w1, w2, w3, w4⟩ : (@LT.lt Nat _ (L1 + 1) Wn) ∧ (@LT.lt Nat _ src Wn) ∧ (@LT.lt Nat _ tl Wn) ∧ AllLt Wn qs := q8
        clear F7 N6 q8
        subst hm1
        k_steps
        unfold StopLoop
        (with_reducible rename News _ _ _ _ => N9)
        (with_reducible rename Fr _ _ _ _ => F9)
        (with_reducible rename IntsAre _ _ => I8)
        obtain ⟨m1, hm1, F9⟩ : ∃ m1, m1 = _ ∧ Fr B L1 _ m1 := ⟨_, rfl, F9⟩
        have N10 : News B L1 _ ((Wn, listOf nv.toArray kn) :: (L1 + 1, oC) :: (src, oS2) :: (tl, listOf us.toArray c) :: qs) := cb_drop N9 (by kcj_all)
        clear N9
        have hnl : nv.length = ns.length := by rw [I8.length, List.length_map]
        refine list_loop (vs := nv) (nn := kn) (BentJ (fun oS => (Wn, listOf nv.toArray kn) :: (L1 + 1, oC) :: (src, oS) :: (tl, listOf us.toArray c) :: qs) m1 ks ts.length ns) rfl (N10 _ (.head _)).2.1 ?_ F9 N10 ⟨oS2, b, t, ks, SO2, rfl, fun _ _ => rfl, by rw [hm1]; rfl, hk, .nil⟩ ?_ ?_
        · intro i m nx h hZ4 _ N'
          (try k_extra "my kf")
          obtain ⟨oS, bb, bt, bk, _, rfl, _⟩ := hZ4
          exact (N' _ (.head _)).1
        · intro i v m₁ nx h tk I o hi hv hnI hZ11 F' N'
          (try k_extra "my kf")
          obtain ⟨oS3, bb, bt, bk, SO3, rfl, mo, mb, hbk, hB⟩ := hZ11
          obtain ⟨vn, vo, em⟩ := map_fin2' mo mb
          subst hm1
          obtain ⟨x, tx, rfl, hx⟩ := I8.at i v hv
          obtain ⟨k, hk9, rfl⟩ : ∃ k : Nat, ns[i]? = some k ∧ x = (k : Int) := by
            rw [List.getElem?_map] at hx
            cases e : ns[i]? with
            | none => rw [e] at hx; cases hx
            | some k => rw [e] at hx; exact ⟨k, rfl, (Option.some.inj hx).symm⟩
          have hkn : k < ts.length := by rw [← hul]; exact lt8 k (List.mem_of_getElem? hk9)
          have hbl := hB.len
          rw [em] at F'
          have i1 : @Ne Nat Wn I := hnI _ (.head _)
          have i2 : @Ne Nat (L1 + 1) I := hnI _ (.tail _ (.head _))
          have i3 : @Ne Nat src I := hnI _ (.tail _ (.tail _ (.head _)))
          have i4 : @Ne Nat tl I := hnI _ (.tail _ (.tail _ (.tail _ (.head _))))
          have i5 : ∀ p ∈ qs, p.1 ≠ I := fun p hp => hnI p (.tail _ (.tail _ (.tail _ (.tail _ hp))))
          clear N10 F9
          k_steps
          (try k_unfold)
          (with_reducible rename SrcO _ => SO8)
          rename_i x9 u1 lo9 hi9 hh1 tkk hh2 bb1 u2 kk1 KK1 u3 kk2 Lo Hi ll hh3 l1 hh4 u4 kk3 kIn u5 kk4 A7 hh5 bb2 u6 kk5 KK2 u7 kk6 A8 hh6 F8 N8
          obtain ⟨kx, rfl⟩ : ∃ kx : Nat, x9 = kx := ⟨x9.toNat, by omega⟩
          have e1 : (12 + 16 * (k : Int) + 4 + (kx : Int)).toNat = 12 + 16 * k + 4 + kx := by omega
          have e2 : (12 + 16 * (k : Int) + 4 + (kx : Int) + 1).toNat = 12 + 16 * k + 4 + kx + 1 := by omega
          have A9 := A8
          rw [e1, e2] at A9
          have q := byte_of hbk (j := 12 + 16 * k + 4 + kx)
          have q' := xor_in q.1 q.2
          refine LEnd.intro F8 (nx := (Wn, listOf nv.toArray kn) :: (L1 + 1, oC) :: (src, _) :: (tl, listOf us.toArray c) :: qs) (cb_drop N8 (by kcj_all)) ?_ ⟨_, _, _, bendL bk (12 + 16 * k + 4 + kx) (Builtin.bitXor (bk.getD (12 + 16 * k + 4 + kx) 0) 64), SO8, rfl, ?_, rfl, A9, ?_⟩
          · exact allNe i1 (allNe i2 (allNe i3 (allNe i4 i5)))
          · intro z hz
            k_extra "my out"
          · rw [List.take_add_one, hk9]
            exact hB.step hkn (not_in_take nd8 hk9) (by omega) hF.low (fun j => byte_of hbk) q'.1 q'.2.1 q'.2.2
        · intro m₁ nx h' tk' hZ4 F' N'
          (try k_extra "my kf")
          obtain ⟨oS3, bb, bt, bk, SO3, rfl, mo, mb, hbk, hB⟩ := hZ4
          obtain ⟨vn, vo, em⟩ := map_fin2' mo mb
          subst hm1
          rw [em] at F'
          rw [List.take_of_length_le (by omega)] at hB
          have hbl := hB.len
          have hbd := hB.dir hF
          have hbw := hB.wrong hF
          clear N10 F9
          k_steps
          unfold StopLoop
          refine LCt.CompSrcT.ledger rfl F' N' (.tail _ (.tail _ (.tail _ (.head _)))) (by rw [sizeLine_eq, List.size_toArray]; omega) ?_
          intro g'
          refine comp_indT (fun i ys news => news = (Wn, listOf nv.toArray kn) :: (L1 + 1, oC) :: (src, oS3) :: (tl, listOf us.toArray c) :: qs ∧ ys.isEmpty = !((rs.take i).any fun r => headTag r.tag) ∧ ys.length ≤ i) ?_ ?_ _ 0 [] _ (Nat.zero_add _) ⟨rfl, rfl, Nat.le_refl _⟩
          · intro i ys news v I oI C oC2 D m₂ h tk E' hi hZ14 hv hC hx F N off ne
            (try k_extra "my kf")
            obtain ⟨rfl, hy, hyl⟩ := hZ14
            obtain ⟨r, hr, Tt, t1, t2, t3, t4, rfl, ltT, mT⟩ := tups_item hR (i := i) (v := v) (by simpa using hv)
            have N5 := news_put N (.tail _ (.tail _ (.tail _ (.tail _ (.tail _ (.tail _ (.tail _ mT)))))))
            clear N N' F'
            k_steps
            · rename_i a9
              (try k_unfold)
              refine LCg.CompEnd.intro (by k_asm) N5 _ (fun p hp => .tail _ hp) off (.inr ⟨_, .tail _ (.tail _ (.tail _ (.head _))), rfl, _, rfl⟩) ⟨rfl, ?_, by rw [List.length_append]; exact Nat.succ_le_succ hyl⟩
              rw [any_take hr, show headTag r.tag = true from a9]; simp
            · rename_i a9
              (try k_unfold)
              refine LCg.CompEnd.intro (by k_asm) N5 _ (fun p hp => .tail _ hp) off (.inr ⟨_, .tail _ (.tail _ (.tail _ (.head _))), rfl, _, rfl⟩) ⟨rfl, ?_, Nat.le_succ_of_le hyl⟩
              rw [any_take hr, show headTag r.tag = false from a9, Bool.or_false]; exact hy
          · intro ys news hZ2
            intro D2 h2 tk2 F2 N2 off2
            (try k_extra "my kf")
            obtain ⟨rfl, hy, hyl⟩ := hZ2
            rw [List.take_of_length_le (by rw [List.size_toArray, tups_len hR]; exact Nat.le_refl _)] at hy
            have hy : ys.isEmpty = !hasHead rs := hy
            clear F' N'
            k_steps
            unfold StopLoop
            (with_reducible rename News _ _ _ _ => N11)
            (with_reducible rename Fr _ _ _ _ => F11)
            obtain ⟨m2, hm2, F11⟩ : ∃ m2, m2 = _ ∧ Fr B L1 _ m2 := ⟨_, rfl, F11⟩
            refine join_at (B := B) (L := L1) (m := m2) ((Wn, listOf nv.toArray kn) :: (L1 + 1, oC) :: (src, oS3) :: (tl, listOf us.toArray c) :: qs) (wholeL rs bk) ?_ ?_
            · refine IfExp_ ?_
              subst hm2
              k_steps
              · rename_i a9 l8 h8 F8 N8 l9
                exact ⟨_, _, _, _, _, rfl, rfl, by k_asm, cb_drop (by k_asm) (by kcj_all), by rw [wholeL, if_neg (by rw [← Bool.not_not (hasHead rs), ← hy, a9]; simp)]; exact .nil, l9.2.2⟩
              · rename_i a9 l8 h8 F8 N8 l9
                (with_reducible rename List.isEmpty _ = false => a1)
                exact ⟨_, _, _, _, _, rfl, rfl, by k_asm, cb_drop (by k_asm) (by kcj_all), by rw [wholeL, if_pos ⟨by rw [← Bool.not_not (hasHead rs), ← hy, a1]; rfl, by simpa using a9⟩]; exact .cons _ _ .nil, l9.2.2⟩
              · rename_i a9 l8 h8 F8 N8 l9
                exact ⟨_, _, _, _, _, rfl, rfl, by k_asm, cb_drop (by k_asm) (by kcj_all), by rw [wholeL, if_neg (fun q => absurd a9 (by simpa using q.2))]; exact .nil, l9.2.2⟩
            · intro W2 wv2 kw2 h12 tk12 F12 N12 S12 q12
              (try k_extra "my kf")
              have ⟨w5, w6, w7, w8, w9⟩ : (@LT.lt Nat _ Wn W2) ∧ (@LT.lt Nat _ (L1 + 1) W2) ∧ (@LT.lt Nat _ src W2) ∧ (@LT.lt Nat _ tl W2) ∧ AllLt W2 qs := q12
              clear F11 N11 q12
              subst hm2
              k_steps
              unfold StopLoop
              (with_reducible rename News _ _ _ _ => N13)
              (with_reducible rename Fr _ _ _ _ => F13)
              obtain ⟨led, hled, N14⟩ : ∃ led, led = _ ∧ News B L1 _ led := ⟨_, rfl, N13⟩
              have hmn : (Wn, listOf nv.toArray kn) ∈ led := by rw [hled]; k_mem
              refine LCg.CompSrc.ledger rfl F13 N14 hmn (by rw [sizeLine_eq, List.size_toArray]; omega) ?_
              intro g'
              refine comp_ind (fun i ys news => news = led ∧ StrsAre ys ((ns.take i).map fun i => (rowOf ks i).tag)) ?_ ?_ _ 0 [] _ (Nat.zero_add _) ⟨rfl, .nil⟩
              · intro i ys news v I oI C oC2 D m₂ h tk E' hi hZ14 hv hC hx F N off ne
                (try k_extra "my kf")
                obtain ⟨rfl, hy9⟩ := hZ14
                subst hled
                obtain ⟨x, tx, rfl, hx9⟩ := I8.at i v (by simpa using hv)
                obtain ⟨k, hk9, rfl⟩ : ∃ k : Nat, ns[i]? = some k ∧ x = (k : Int) := by
                  rw [List.getElem?_map] at hx9
                  cases e : ns[i]? with
                  | none => rw [e] at hx9; cases hx9
                  | some k => rw [e] at hx9; exact ⟨k, rfl, (Option.some.inj hx9).symm⟩
                have hkn : k < us.length := lt8 k (List.mem_of_getElem? hk9)
                obtain ⟨r, hr, Tt, t1, t2, t3, t4, eT, ltT, mT⟩ := tups_item hR (i := k) (v := us[k]) (List.getElem?_eq_getElem hkn)
                have hu9 : us[k]? = some (.ref Tt) := by rw [List.getElem?_eq_getElem hkn, eT]
                have hrk := (hF.get (i := k) (by omega)).1
                rw [hr] at hrk
                have N5 := news_put N (a := (Tt, tupV [.str r.tag t1, .int r.sum t2, .int r.place t3, .int r.size t4])) (by (repeat (apply List.Mem.tail)); exact mT)
                clear N N13 N14 F13
                obtain rfl := Option.some.inj hrk
                k_steps
                (try k_unfold)
                refine LCg.CompEnd.intro (by k_asm) N5 _ (fun p hp => .tail _ hp) off (.inr ⟨_, hmn, rfl, _, rfl⟩) ⟨rfl, ?_⟩
                rw [List.take_add_one, hk9, List.map_append]
                exact strsAre_app hy9 (.cons _ _ .nil)
              · intro ys9 news hZ2
                intro D3 h3 tk3 F3 N3 off3
                (try k_extra "my kf")
                obtain ⟨rfl, hy9⟩ := hZ2
                subst hled
                clear F13 N13 N14
                rw [List.take_of_length_le (by rw [List.size_toArray, hnl]; exact Nat.le_refl _)] at hy9
                have z9 : ys9.length ≤ 2 := by rw [hy9.length, List.length_map]; exact le8
                have zm : (ns.map fun i => (rowOf ks i).tag).length ≤ 2 := by rw [List.length_map]; exact le8
                have zw : wv2.length ≤ 1 := by rw [S12.length, wholeL]; split <;> simp
                k_steps
                (try k_unfold); (try dsimp only)
                refine rt _ _ _ (fin_read (by k_asm) hBr (fun p hp => (hf p (.tail _ hp)).1) (by k_asm) ?_) (fin_src (by k_asm) (by k_mem) SO3) rfl
                intro p hp
                rcases List.mem_cons.mp hp with rfl | hp <;> repeat first | exact .head _ | exact hp | refine .tail _ ?_
end
-- RF
/-- octets that read_tables refuses -/
def BadV (v : Value) : Prop := ∃ b t ks, v = .bytes b t ∧ KBw.bInts b = ks ∧ ks.length ≤ 900 ∧ ¬ TabOk ks
/-- the table of a lambda's code: not met yet, or met -/
def TabSt (pos : Pos) (qual : Str) (ps : Array Value) (ex : List (Addr × Obj)) : Prop :=
  (ps = #[] ∧ ex = []) ∨ ∃ c' oc vs t, ps = #[rawInt pos.line, rawInt pos.col, .ref c'] ∧ ex = [(c', oc)] ∧ oc.data = .fields vs ∧ vs[1]? = some (.str qual t)
/-- what the turns over the wrong fonts leave -/
def RefJ (pos : Pos) (qual : Str) (x : Str) (src Lf P wl : Addr) (oS oF : Obj) (vs : List Value) (kn : Nat) (_ : Nat) (nx : List (Addr × Obj)) (C : Addr) (CL : List (Str × Addr)) : Prop :=
  ∃ c1 oc1 oF' ps ex v0, CL = [(x, c1)] ∧ nx = (c1, oc1) :: (wl, listOf vs.toArray kn) :: (src, oS) :: (Lf, oF') :: (P, tabObj ps) :: ex ∧ oc1.data = .cell v0 ∧ SlotsOf oF oF' ∧ NoFields oF' ∧ TabSt pos qual ps ex ∧
    (@Ne Nat wl c1) ∧ (@Ne Nat src c1) ∧ (@Ne Nat Lf c1) ∧ (@Ne Nat P c1) ∧ (∀ p ∈ ex, (@Ne Nat wl p.1) ∧ (@Ne Nat src p.1) ∧ (@Ne Nat Lf p.1) ∧ (@Ne Nat P p.1) ∧ (@Ne Nat c1 p.1))
/-- the limit of the law's cut -/
def cutLim (n : Nat) : Int := if n = 0 then 6 else 12 + 16 * (n : Int)
/-- what an if leaves that may lengthen the list of wrong fonts -/
def JoinW (B : Heap) (L : Addr) (src Lf wl : Addr) (oF : Obj) (s : Shared) (f : Flow) (s' : Shared) : Prop :=
  ∃ (m : Str → Option Value) (vs : List Value) (kn : Nat) (h' : Heap) (tk' : Nat) (oS : Obj), f = .next ∧ s' = { s with heap := h', toks := tk' } ∧ Fr B L h' (fun z => if z = Str.ofString "wrong" then some (.ref wl) else m z) ∧ News B L h' [(wl, listOf (List.toArray vs) kn), (src, oS), (Lf, oF), ((276 : Addr), tabObj #[])] ∧ SrcO oS ∧ vs.length ≤ 5 ∧ ∀ v ∈ vs, BadV v
theorem join_wrong {M : Model} {A : Around} {x : Sem Flow} {K : Flow → Shared → Prop} {E : Value → Shared → Prop} {s : Shared} {B : Heap} {L src Lf wl : Addr} {oF : Obj} (h : wpAny M A x (JoinW B L src Lf wl oF s) E s)
    (hK : ∀ (m : Str → Option Value) (vs : List Value) (kn : Nat) (h' : Heap) (tk' : Nat) (oS : Obj), Fr B L h' (fun z => if z = Str.ofString "wrong" then some (.ref wl) else m z) → News B L h' [(wl, listOf (List.toArray vs) kn), (src, oS), (Lf, oF), ((276 : Addr), tabObj #[])] → SrcO oS → vs.length ≤ 5 → (∀ v ∈ vs, BadV v) → K .next { s with heap := h', toks := tk' }) : wpAny M A x K E s :=
  wpAny_mono h (fun v s₂ rZ => by obtain ⟨m, vs, kn, h', tk', oS, e1, e2, F, N, S, l, b⟩ := rZ; subst e1; subst e2; exact hK m vs kn h' tk' oS F N S l b) fun _ _ e => e
theorem fr_again {B h : Heap} {L : Addr} {m : Str → Option Value} {x : Str} {v : Option Value} (F : Fr B L h m) (e : m x = v) : Fr B L h (fun z => if z = x then v else m z) := by
  have q : (fun z => if z = x then v else m z) = m := funext fun z => by by_cases c : z = x <;> simp [c, e]
  rw [q]; exact F
theorem bad_of {b : Array UInt8} {t : Tok} {ks : List Int} (hk : KBw.bInts b = ks) (hz : ks.length ≤ 900) (h : ¬ TabOk ks) : BadV (.bytes b t) := ⟨b, t, ks, rfl, hk, hz, h⟩
section
variable {ks : List Int} {ts : List (Str × List Int)} {rs : List DRow} {b : Array UInt8} {t : Tok} {x y : Int} {n : Nat}
theorem bad_sign (hF : FontOk ks ts rs) (hn : n = ts.length) (h0 : 0 ≤ x) (h1 : x < (n : Int)) (hy : y ∈ [31, 127, 200]) (hk : KBw.bInts b = ks.take (12 + 16 * x + 2).toNat ++ [y] ++ ks.drop (12 + 16 * x + 3).toNat) : BadV (.bytes b t) := by
  obtain ⟨i, rfl⟩ : ∃ i : Nat, x = i := ⟨x.toNat, by omega⟩
  have e1 : (12 + 16 * (i : Int) + 2).toNat = 12 + 16 * i + 2 := rfl
  have e2 : (12 + 16 * (i : Int) + 3).toNat = 12 + 16 * i + 2 + 1 := rfl
  rw [e1, e2] at hk
  have low := hF.low
  have top := hF.top
  refine bad_of hk ?_ (sign_bad hF (i := i) (by omega) (by simpa using hy))
  have := bend_len (x := y) (show 12 + 16 * i + 2 < ks.length by omega)
  show (bendL ks (12 + 16 * i + 2) y).length ≤ 900
  first | k_extra "my size" | omega
theorem bad_far (hF : FontOk ks ts rs) (hn : n = ts.length) (h0 : 0 ≤ x) (h1 : x < (n : Int)) (hk : KBw.bInts b = ks.take (12 + 16 * x + 8).toNat ++ p32 ((ks.length : Int) - 1) ++ p32 2 ++ ks.drop (12 + 16 * x + 16).toNat) : BadV (.bytes b t) := by
  obtain ⟨i, rfl⟩ : ∃ i : Nat, x = i := ⟨x.toNat, by omega⟩
  have e1 : (12 + 16 * (i : Int) + 8).toNat = 12 + 16 * i + 8 := rfl
  have e2 : (12 + 16 * (i : Int) + 16).toNat = 12 + 16 * i + 16 := rfl
  rw [e1, e2] at hk
  have top := hF.top
  refine bad_of hk ?_ (far_bad hF (i := i) (by omega))
  simp only [List.length_append, List.length_take, List.length_drop, p32_len]
  first | k_extra "my size" | omega
theorem bad_twice {b' : Array UInt8} (hF : FontOk ks ts rs) (hn : n = ts.length) (h0 : 0 < n) (h4 : n ≤ 4) (hb : KBw.bInts b' = ks) (hk : KBw.bInts b = ks.take 5 ++ [ks.getD 5 0 + 1] ++ (ks.drop 6).take 6 ++ (ks.drop 12).take 16 ++ ks.drop 12) : BadV (.bytes b t) := by
  have top := hF.top
  refine bad_of hk ?_ (twice_bad hF (fun j => byte_of hb) (by omega) (by omega))
  simp only [List.length_append, List.length_take, List.length_drop, List.length_cons, List.length_nil]
  first | k_extra "my size" | omega
end
def JoinI (B : Heap) (L : Addr) (m : Str → Option Value) (led : List (Addr × Obj)) (x : Int) (s : Shared) (v : Value) (s' : Shared) : Prop := ∃ t h' tk', v = .int x t ∧ s' = { s with heap := h', toks := tk' } ∧ Fr B L h' m ∧ News B L h' led
theorem join_int {M : Model} {A : Around} {x : Sem Value} {K E : Value → Shared → Prop} {s : Shared} {B : Heap} {L : Addr} {m : Str → Option Value} (led : List (Addr × Obj)) (z : Int) (h : wpAny M A x (JoinI B L m led z s) E s)
    (hK : ∀ t h' tk', Fr B L h' m → News B L h' led → K (.int z t) { s with heap := h', toks := tk' }) : wpAny M A x K E s :=
  wpAny_mono h (fun v s₂ rZ => by obtain ⟨t, h', tk', e1, e2, F, N⟩ := rZ; subst e1; subst e2; exact hK t h' tk' F N) fun _ _ e => e
theorem int_eq {x y : Int} {t : Tok} (h : x = y) : Value.int x t = Value.int y t := by rw [h]
theorem in_menu {x : Int} (h : x ∈ [31, 127, 200]) : KBa.In [x] := in_one (by simp only [List.mem_cons, List.not_mem_nil, or_false] at h; omega)
theorem in_five {b : Array UInt8} {ks : List Int} (hk : KBw.bInts b = ks) (h : ks.getD 5 0 ≤ 100) : KBa.In [ks.getD (Int.toNat 5) 0 + 1] := in_one (by have := byte_of hk (j := 5); show 0 ≤ ks.getD 5 0 + 1 ∧ ks.getD 5 0 + 1 < 256; omega)
theorem word_RF_1 : True := by
  (k_with "call type:bytes" => (k_here; (with_reducible show wpAny _ _ (call (Value.type "bytes") [Value.ref _]) _ _ _); k_dflt (refine' KBa.make_K ?zzF ?zzN ?zzh ?zzl ?zzi ?zzr ?zzn ?_; (case zzF => k_asm); (case zzN => k_asm); (case zzh => rfl); (case zzl => is_list); (case zzi => first | assumption | kba_listInts); (case zzr => first | exact in_menu (by assumption) | exact in_five (by assumption) (by assumption)); (case zzn => first | kba_size | decide)); intro h9 t9 k9 F9 N9 kbaIn; (first | (revert h9 t9 k9 F9 N9 kbaIn; intros) | skip)))
  trivial
theorem word_RF_2 : True := by
  (k_with "eval ListComp" => (k_here; (with_reducible show wpAny _ _ (eval (Expr.ListComp (Expr.Name (Str.ofString "one") _) [_] _ _) _) _ _ _); refine StopLoop.mk ?_))
  trivial
theorem word_RF_3 : True := by
  (k_with "exec If" => (k_here; (with_reducible show wpAny _ _ (exec (Stmt.If (Expr.Compare (Expr.Name (Str.ofString "told") _) _ _ _) _ _ _) _) _ _ _); refine StopLoop.mk ?_))
  trivial
theorem word_RF_4 : True := by
  (k_with "call ref" => (k_here; (with_reducible show wpAny _ _ (call (Value.ref 191) _) _ _ _); k_dflt (refine use_fallsE (tabs_falls (by kba_ints) (by k_extra "my size") (by assumption)) (by k_asm) (by k_asm) (by k_asm) (by assumption) (by assumption) (by k_extra "my room") (by k_extra "my room") ?_); k_extra "my fall"))
  trivial
theorem word_RF_5 : True := by
  (k_with "my fell" => (refine' use_fell' (lim := 150) (lam_falls ?zzF1 ?zzN1 ?zzX1 ?zzT1 ?zzho ?zzhcd ?zzhb ?zzh1 ?zzh2 ?zzh3 ?zzh4 ?zzhl ?_) ?zzhlim ?zzF ?zzN ?zzU ?zznf ?zzX ?zzT ?zzhe ?zzhk ?zzhfr ?zzhfk ?zzhd ?zzhu ?_; (case zzF1 => k_asm); (case zzN1 => k_asm); (case zzX1 => k_asm); (case zzT1 => k_asm); (case zzho => k_mem); (case zzhcd => exact codeRec_news (by k_asm) (by k_mem) (by assumption) (by assumption)); (case zzhb => exact rfl); (case zzh1 => exact rfl); (case zzh2 => exact rfl); (case zzh3 => exact rfl); (case zzh4 => decide); (case zzhl => decide); (case zzhlim => decide); (case zzF => k_asm); (case zzN => k_asm); (case zzhfr => assumption); (case zzU => k_updF); (case zznf => assumption); (case zzX => k_asm); (case zzT => k_asm); (case zzhe => exact rfl); (case zzhk => exact rfl); (case zzhfk => assumption); (case zzhd => k_extra "my room"); (case zzhu => k_extra "my room")))
  trivial
section
variable {w : World}
set_option maxHeartbeats 8000000 in
theorem refused_ok {src tl Lf : Addr} {oS oF : Obj} {fr : Env} {b : Array UInt8} {t : Tok} {ks : List Int} {ts : List (Str × List Int)} {rs : List DRow} {us : List Value} (dp un : Nat) (gd : Option (List Code)) (s : Shared) (Q E : Value → Shared → Prop) (Bx : Heap) (AM : Amb w Bx) (hz : Bx.objs.size ≤ s.heap.objs.size) (hbx : Bx.StaysIn s.heap) (hcode : CodeHd Bx 278 276)
    (hf : ∀ p ∈ [(src, oS), (Lf, oF), ((276 : Addr), tabObj #[])], s.heap.get? p.1 = some p.2 ∧ Bx.get? p.1 = none) (hSO : SrcO oS) (hfr : fr.frame = some Lf) (hfk : fr.scope.kind = .function) (hoF : NoFields oF) (n1 : @Ne Nat src Lf) (n2 : @Ne Nat src 276) (n3 : @Ne Nat Lf 276)
    (hk : KBw.bInts b = ks) (hF : FontOk ks ts rs) (hts : TsOk ts) (hul : us.length = ts.length) (hBl : Bx.IsList tl us.toArray)
    (hdp : dp + 500 ≤ 900) (hun : un + 20 * 430 ≤ 9000)
    (rt : ∀ h' tk' oF' oS', SlotsOf oF oF' → Bx.StaysIn h' → h'.get? Lf = some oF' → h'.get? src = some oS' → SrcO oS' → GrownAt 276 h' → Q (.bool true) { s with heap := h', toks := tk' }) :
    wpAny (model PySem.Challenge.rw_on0235_01.row.prog w) (At dp un gd [fr]) (call (.ref 279) [.ref src, .bytes b t, .ref tl]) Q E s := by
  (have hkf : PySem.Challenge.rw_on0235_01 = PySem.Challenge.rw_on0235_01 ∧ kheap.heap_1 = kheap.heap_1 := by k_fill; exact ⟨rfl, rfl⟩)
  clear hkf
  w_top off
  have KX := AM.X
  refine AM.open ?_; intro p loose mean mg mb T
  refine' wpAny_call (enter_base (h₀ := Bx) hbx hz KX T ?k6 ?k7 ?k8 ?k9 ?kB ?_ ?c2 ?c3 ?c4 ?c5)
  (case k6 => k_is); (case k7 => k_is); (case k8 => first | exact rec_lt (by assumption) | (simp only [recursionLimit]; omega)); (case k9 => exact rfl); (case c5 => decide); (case kB => exact locs rfl); (case c2 => exact rfl); (case c3 => exact rfl); (case c4 => exact rfl)
  intro L1 h1 tkz hL1 hk1 F1
  have N1 : News Bx L1 h1 [(src, oS), (Lf, oF), ((276 : Addr), tabObj #[])] := news_front (fun p hp => (hf p hp).1) (fun p hp => (hf p hp).2) hk1 hL1
  have lt1 : @LT.lt Nat _ src L1 := by rw [hL1]; exact Heap.lt_size (hf (src, oS) (.head _)).1
  have lt2 : @LT.lt Nat _ Lf L1 := by rw [hL1]; exact Heap.lt_size (hf (Lf, oF) (.tail _ (.head _))).1
  have lt3 : @LT.lt Nat _ 276 L1 := by rw [hL1]; exact Heap.lt_size (hf ((276 : Addr), tabObj #[]) (.tail _ (.tail _ (.head _)))).1
  have hn4 : us.length ≤ 4 := by rw [hul]; exact hts.1
  have top := hF.top
  have low := hF.low
  clear hf hk1
  dsimp only [List.map, List.zip, List.zipWith, List.reverse, List.reverseAux] at F1
  (try dsimp only); (try k_extra "my kf")
  k_steps
  unfold StopLoop
  (with_reducible rename News _ _ _ _ => N2)
  (with_reducible rename Fr _ _ _ _ => F2)
  obtain ⟨m0, hm0, F3⟩ : ∃ m0, m0 = _ ∧ Fr Bx L1 _ m0 := ⟨_, rfl, F2⟩
  have N3 : News Bx L1 _ [(src, oS), (Lf, oF), ((276 : Addr), tabObj #[])] := cb_drop N2 (by kcj_all)
  clear F2 N2
  refine join_int (B := Bx) (L := L1) (m := m0) [(src, oS), (Lf, oF), ((276 : Addr), tabObj #[])] (cutLim us.length) ?_ ?_
  · refine IfExp_ ?_
    subst hm0
    k_steps
    · rename_i a9
      have e9 : us.length = 0 := by simpa using a9
      refine ⟨_, _, _, int_eq ?_, rfl, by k_asm, cb_drop (by k_asm) (by kcj_all)⟩
      rw [e9]; rfl
    · rename_i a9
      have e9 : us.length ≠ 0 := fun q => by rw [List.length_eq_zero_iff.mp q] at a9; cases a9
      refine ⟨_, _, _, int_eq ?_, rfl, by k_asm, cb_drop (by k_asm) (by kcj_all)⟩
      rw [cutLim, if_neg e9, List.size_toArray]
  · intro tx h2 tk2 F4 N4
    subst hm0
    have c0 : 6 ≤ cutLim us.length := by unfold cutLim; split <;> omega
    have c1 : cutLim us.length ≤ 76 := by unfold cutLim; split <;> omega
    clear F3 N3
    k_steps
    unfold StopLoop
    (with_reducible rename SrcO _ => SO5)
    (with_reducible rename News _ _ _ _ => N5)
    (with_reducible rename Fr _ _ _ _ => F5)
    rename_i t0 k0 kA0 oS5 h5 tk5 x5 t5 lo5 hi5 h6 b6 t6 k6 K6 wl h7 lw h8
    have hin : ∀ j, 0 ≤ ks.getD j 0 ∧ ks.getD j 0 < 256 := fun j => byte_of hk
    have cut : x5.toNat < (if ts = [] then 6 else 12 + 16 * ts.length) := by
      unfold cutLim at hi5
      cases ts with
      | nil => rw [if_pos (by rw [hul]; rfl)] at hi5; rw [if_pos rfl]; omega
      | cons a r => rw [hul, if_neg (by simp)] at hi5; rw [if_neg (by simp)]; omega
    have bad1 := bad_of (t := t6) K6 (by rw [List.length_take]; exact Nat.le_trans (Nat.min_le_right _ _) (Nat.le_trans top (by decide))) (cut_bad hF cut)
    have bad0 := bad_of (t := t0) kA0 (by rw [List.length_append, List.length_drop]; show 2 + _ ≤ 900; first | k_extra "my size" | omega) (ver_bad hin)
    refine join_wrong (B := Bx) (L := L1) (src := src) (Lf := Lf) (wl := wl) (oF := oF) ?_ ?_
    · refine wpAny_If ?_
      k_steps
      · rename_i a9
        refine ⟨_, [.bytes (byteArr [0, 2] ++ _) t0, .bytes b6 t6], 0, _, _, oS5, rfl, rfl, by k_asm, cb_drop (by k_asm) (by kcj_all), SO5, Nat.le_of_ble_eq_true rfl, ?_⟩
        intro v hv
        simp only [List.mem_cons, List.not_mem_nil, or_false] at hv
        rcases hv with rfl | rfl
        · exact bad0
        · exact bad1
      · (with_reducible rename List.isEmpty _ = false => a9)
        have hpos : 0 < us.length := List.length_pos_iff.mpr (fun e => by rw [e] at a9; cases a9)
        have h5 : ks.getD 5 0 ≤ 100 := by
          have q := hF.num
          rw [g16] at q
          have := (byte_of hk (j := 4)).1
          simp only [Nat.reduceAdd] at q
          omega
        (with_reducible rename News _ _ _ _ => N6)
        have N7 : News Bx L1 _ [(wl, listOf #[Value.bytes (byteArr [0, 2] ++ _) t0, Value.bytes b6 t6] 0), (src, oS5), (Lf, oF), ((276 : Addr), tabObj #[])] := cb_drop N6 (by kcj_all)
        clear N6
        have x5b : x5 ≤ 76 := by omega
        clear lo5 hi5 cut
        repeat (first | (walk1; (try dsimp only)) | fail "no step")
        (with_reducible rename News _ _ _ _ => N8)
        simp only [List.push_toArray, List.cons_append, List.nil_append] at N8
        (with_reducible rename KBw.bInts (_ ++ _ ++ _) = List.take _ _ ++ [_] ++ List.drop _ _ => A3)
        (with_reducible rename KBw.bInts (_ ++ _ ++ _ ++ _) = _ ++ p32 _ ++ p32 _ ++ List.drop _ _ => A4)
        (with_reducible rename KBw.bInts (_ ++ _ ++ _ ++ _ ++ _) = _ => A5)
        refine ⟨_, [.bytes (byteArr [0, 2] ++ _) t0, .bytes b6 t6, _, _, _], _, _, _, _, rfl, rfl, fr_again (by k_asm) rfl, cb_drop N8 (by kcj_all), by assumption, Nat.le_refl 5, ?_⟩
        intro v hv
        simp only [List.mem_cons, List.not_mem_nil, or_false] at hv
        rcases hv with rfl | rfl | rfl | rfl | rfl
        · exact bad0
        · exact bad1
        · exact bad_sign hF hul (by assumption) (by assumption) (by assumption) A3
        · exact bad_far hF hul (by assumption) (by assumption) A4
        · exact bad_twice hF hul hpos hn4 hk A5
    · intro m9 vs kn h9 tk9 oS9 F9 N9 S9 l9 bad9
      (try k_extra "my kf")
      clear bad0 bad1 cut hin hi5 lo5 SO5 F5 N5 kA0 K6 h6
      k_steps
      unfold StopLoop
      rw [eval_ListComp]
      refine wpAny_comprehension_free (cl := []) (use := none) rfl (fun _ => rfl) (by with_unfolding_all rfl) rfl (by decide) ?_
      change wpAny _ _ (eval (Expr.Name _ _) _) _ _ _
      walk1
      have lw2 : @LT.lt Nat _ src wl ∧ @LT.lt Nat _ Lf wl ∧ @LT.lt Nat _ 276 wl := lw
      refine sift_block (RR := fun acc C => compPost _ _ _ none _ acc C) (vs := vs) (nn := kn) (cl := []) (RefJ { line := 176, col := 50, endLine := 176, endCol := 74 } (Str.ofString "_law_refused.<locals>." ++ Str.ofString "<lambda>") (Str.ofString "one") src Lf 276 wl oS9 oF vs kn) rfl ?_ F9 N9 (.head _) ?_ ?_ ?_
      · intro i nx C CL hZ4
        (try k_extra "my kf")
        obtain ⟨c1, oc1, oF', ps, ex, v0, rfl, rfl, _⟩ := hZ4
        exact .tail _ (.head _)
      · intro C cells hC Y hY
        have Y' : CellsAre (fun _ => none) [(Str.ofString "one", C + 1)] cells := Y
        obtain ⟨oc, rfl, hd⟩ := Y'.one
        exact ⟨C + 1, oc, oF, #[], [], none, rfl, rfl, hd, SlotsOf.refl _, hoF, .inl ⟨rfl, rfl⟩, Nat.ne_of_lt (Nat.lt_succ_of_lt (hC _ (.head _))), Nat.ne_of_lt (Nat.lt_succ_of_lt (hC _ (.tail _ (.head _)))), Nat.ne_of_lt (Nat.lt_succ_of_lt (hC _ (.tail _ (.tail _ (.head _))))), Nat.ne_of_lt (Nat.lt_succ_of_lt (hC _ (.tail _ (.tail _ (.tail _ (.head _)))))), fun _ h => nomatch h⟩
      · intro i v nx I oI C oC mC D CL h tk E' hi hv hJ hC F N off ne
        (try k_extra "my kf")
        obtain ⟨c1, oc1, oF', ps, ex, v0, rfl, rfl, hd1, hsl, hnf, hst, d1, d2, d3, d4, d5⟩ := hJ
        obtain ⟨b9, u9, k9, rfl, hb9, hz9, hbad⟩ := bad9 v (List.mem_of_getElem? hv)
        have hc1 := N _ (.tail _ (.tail _ (.tail _ (.head _))))
        refine wpAny_assign_Name (wpAny_storeName_cell rfl rfl rfl ⟨oc1, hc1.1, hd1⟩ fun h' hc' hs' => ?_)
        obtain ⟨oc2, ho2, hd2⟩ := hc'
        have off' := off
        simp only [LCg.Off3] at off'
        have F2 : Fr Bx L1 h' _ := F.change hs' hc1.2.1 hc1.2.2
        have N2 : News Bx L1 h' ((I, oI) :: (C, oC) :: (D, LCg.lst []) :: (c1, oc2) :: (wl, listOf vs.toArray kn) :: (src, oS9) :: (Lf, oF') :: (276, tabObj ps) :: ex) := News.setAt (own := [(I, oI), (C, oC), (D, LCg.lst [])]) N (by
            intro p hp
            simp only [List.mem_cons, List.not_mem_nil, or_false] at hp
            rcases hp with rfl | rfl | rfl
            · exact Ne.symm off'.1.1
            · exact Ne.symm off'.1.2.1
            · exact Ne.symm off'.1.2.2) (by
            intro p hp
            rcases List.mem_cons.mp hp with rfl | hp
            · exact d1
            rcases List.mem_cons.mp hp with rfl | hp
            · exact d2
            rcases List.mem_cons.mp hp with rfl | hp
            · exact d3
            rcases List.mem_cons.mp hp with rfl | hp
            · exact d4
            · exact Ne.symm (d5 p hp).2.2.2.2) hs' ho2
        clear F N F9 N9 hc1 hs' ho2
        have ⟨⟨o1, o2, o3⟩, ⟨o4, o5, o6⟩, ⟨o7, o8, o9⟩, ⟨oa, ob, oc⟩, ⟨od, oe, og⟩, offx⟩ := off'
        clear off'
        rcases hst with ⟨rfl, rfl⟩ | ⟨c', oc', vs', t', rfl, rfl, e1, e2⟩
        · k_steps
          unfold StopLoop
          rename_i f9 c9 oc9 vs9 t9 ct9 h8 tk8 F8 N8 d91 d92 l91 l92
          k_extra "my fell"
          · intro dp9 un9 gd9 fs9 s9 Q9 E9 Bx9 B9 L9 p9 loose9 mean9 mg9 mb9 X9 T9 F9 N9 hb9' hf9 hdp9 hun9 rt9
            (try k_extra "my kf")
            (try clear qc4); (try clear qc3); (try clear qc2); (try clear qc1); clear qk ek
            k_steps
            (try k_unfold); (try dsimp only)
            exact rt9 _ _ _ _ (by assumption) (by assumption)
          · intro oF2 h2' tk2' hs2 hn2 F9 N9
            (try k_extra "my kf")
            k_steps
            have ⟨l1, l2, l3, l4, l5, l6, l7, l8⟩ : @LT.lt Nat _ I c9 ∧ @LT.lt Nat _ C c9 ∧ @LT.lt Nat _ D c9 ∧ @LT.lt Nat _ c1 c9 ∧ @LT.lt Nat _ wl c9 ∧ @LT.lt Nat _ src c9 ∧ @LT.lt Nat _ Lf c9 ∧ @LT.lt Nat _ 276 c9 := l91
            have N9' := cb_drop (news := (I, oI) :: (C, oC) :: (D, LCg.lst []) :: (c1, oc2) :: (wl, listOf vs.toArray kn) :: (src, oS9) :: (Lf, oF2) :: (276, tabObj #[rawInt 176, rawInt 50, .ref c9]) :: [(c9, oc9)]) N9 (by kcj_all)
            refine ⟨rfl, h2', tk2', oC, mC, (c1, oc2) :: (wl, listOf vs.toArray kn) :: (src, oS9) :: (Lf, oF2) :: (276, tabObj #[rawInt 176, rawInt 50, .ref c9]) :: [(c9, oc9)], rfl, F9, hC, N9', ⟨off.1, off.2.1, off.2.2.1, off.2.2.2.1, off.2.2.2.2.1, ⟨Nat.ne_of_gt l1, Nat.ne_of_gt l2, Nat.ne_of_gt l3⟩, trivial⟩, c1, oc2, oF2, _, [(c9, oc9)], _, rfl, rfl, hd2, hsl.trans hs2, hn2, .inr ⟨c9, oc9, vs9, t9, rfl, rfl, d91, d92⟩, d1, d2, d3, d4, ?_⟩
            intro p hp
            obtain rfl := List.mem_singleton.mp hp
            exact ⟨Nat.ne_of_lt l5, Nat.ne_of_lt l6, Nat.ne_of_lt l7, Nat.ne_of_lt l8, Nat.ne_of_lt l4⟩
        · have ⟨g1, g2, g3, g4, g5⟩ : (@Ne Nat wl c') ∧ (@Ne Nat src c') ∧ (@Ne Nat Lf c') ∧ (@Ne Nat 276 c') ∧ (@Ne Nat c1 c') := d5 _ (.head _)
          have ⟨g6, g7, g8⟩ : (@Ne Nat c' I) ∧ (@Ne Nat c' C) ∧ (@Ne Nat c' D) := off.2.2.2.2.2.1
          k_steps
          unfold StopLoop
          rename_i f9 ct9 h8 tk8 F8 N8 l91
          k_extra "my fell"
          · intro dp9 un9 gd9 fs9 s9 Q9 E9 Bx9 B9 L9 p9 loose9 mean9 mg9 mb9 X9 T9 F9 N9 hb9' hf9 hdp9 hun9 rt9
            (try k_extra "my kf")
            (try clear qc4); (try clear qc3); (try clear qc2); (try clear qc1); clear qk ek
            k_steps
            (try k_unfold); (try dsimp only)
            exact rt9 _ _ _ _ (by assumption) (by assumption)
          · intro oF2 h2' tk2' hs2 hn2 F9 N9
            (try k_extra "my kf")
            k_steps
            have N9' := cb_drop (news := (I, oI) :: (C, oC) :: (D, LCg.lst []) :: (c1, oc2) :: (wl, listOf vs.toArray kn) :: (src, oS9) :: (Lf, oF2) :: (276, tabObj #[rawInt 176, rawInt 50, .ref c']) :: [(c', oc')]) N9 (by kcj_all)
            exact ⟨rfl, h2', tk2', oC, mC, (c1, oc2) :: (wl, listOf vs.toArray kn) :: (src, oS9) :: (Lf, oF2) :: (276, tabObj #[rawInt 176, rawInt 50, .ref c']) :: [(c', oc')], rfl, F9, hC, N9', off, c1, oc2, oF2, _, [(c', oc')], _, rfl, rfl, hd2, hsl.trans hs2, hn2, .inr ⟨c', oc', vs', t', rfl, rfl, e1, e2⟩, d1, d2, d3, d4, d5⟩
      · intro D C CL h tk m' nx F N off hn hC0 hD0 hCL hDL hCD offC hJ
        (try k_extra "my kf")
        obtain ⟨c1, oc1, oF', ps, ex, v0, rfl, rfl, hd1, hsl, hnf, hst, d1, d2, d3, d4, d5⟩ := hJ
        refine ⟨m', hn, fun h'' hs'' => ?_⟩
        have F2 : Fr Bx L1 h'' _ := F.change hs'' hCL hC0
        have N2 : News Bx L1 h'' [(D, LCg.lst []), (wl, listOf vs.toArray kn), (src, oS9), (Lf, oF'), (276, tabObj ps)] := fun p hp => by
          have hm : p ∈ (D, LCg.lst []) :: (c1, oc1) :: (wl, listOf vs.toArray kn) :: (src, oS9) :: (Lf, oF') :: (276, tabObj ps) :: ex := by
            simp only [List.mem_cons, List.not_mem_nil, or_false] at hp
            rcases hp with rfl | rfl | rfl | rfl | rfl <;> simp
          refine ⟨(hs''.2 _ ?_).trans (N p hm).1, (N p hm).2⟩
          rcases List.mem_cons.mp hm with rfl | hm
          · exact Ne.symm hCD
          · exact offC p hm
        clear F N F9 N9 hst d5 offC
        k_steps
        (with_reducible rename News _ _ _ _ => N8)
        exact rt _ _ oF' oS9 hsl (Fr.keep (by k_asm)) (N8 (Lf, oF') (by k_mem)).1 (N8 (src, oS9) (by k_mem)).1 S9 ⟨ps, (N8 (276, tabObj ps) (by k_mem)).1⟩
end
-- WT
/-- the tags of the law's words, and what tag_of tells of their octets -/
def pairs3 : List (Str × Str) := [(Str.ofString "a", Str.ofString "a   "), (Str.ofString "head", Str.ofString "head"), (Str.ofString "x y", Str.ofString "x y ")]
abbrev padL (x : Str) : List Int := ordL (x ++ Txt.mul (Str.ofString " ") (4 - (x.length : Int)))
theorem pairs3_ok : ∀ q ∈ pairs3, q.1.length ≤ 4 ∧ (q.1 == Str.ofString "") = false ∧ (∀ k ∈ padL q.1, 0 ≤ k ∧ k < 256) ∧ (padL q.1).length = 4 ∧ (∀ k ∈ partL (padL q.1) (Int.toNat 0) 4, 32 ≤ k ∧ k ≤ 126) ∧ txt (partL (padL q.1) (Int.toNat 0) 4) = q.2 := by decide +kernel
theorem pads_ok : StrOkL (pairs3.map (·.2)) := by
  have h : ∀ x ∈ pairs3.map (·.2), PyData.strOk x = true := by decide +kernel
  exact h
theorem word_WT_1 : True := by
  (k_with "call ref" => (k_here; (with_reducible show wpAny _ _ (call (Value.ref 114) _) _ _ _); k_dflt (refine use_bytes (tagoct_ok (by assumption) (by assumption) (by assumption) (by assumption)) (by k_asm) (by k_asm) (by k_asm) (by k_asm) (by k_extra "my room") (by k_extra "my room") ?_); intro b9 t9 h9 tk9 K9 F9 N9; (first | (revert b9 t9 h9 tk9 K9 F9 N9; intros) | skip)))
  trivial
theorem word_WT_2 : True := by
  (k_with "call ref" => (k_here; (with_reducible show wpAny _ _ (call (Value.ref 109) _) _ _ _); k_dflt (refine use_str (tag_ok (by assumption) (by omega) (by decide) (by omega) (by assumption)) (by k_asm) (by k_asm) (by k_asm) (by k_asm) (by k_extra "my room") (by k_extra "my room") ?_); intro t9 h9 tk9 F9 N9; (first | (revert t9 h9 tk9 F9 N9; intros) | skip)))
  trivial
theorem word_WT_3 : True := by
  (k_with "compareOp NotEq ref ref" => (k_here; (with_reducible show wpAny _ _ (compareOp CmpOp.NotEq (Value.ref _) (Value.ref _)) _ _ _); k_dflt (refine' ne_strs_K (ws := pairs3.map (·.2)) ?zzN ?zza ?zzb ?zzSa ?zzSb ?zze ?zzob ?zzu ?_; (case zzN => k_asm); (case zza => k_mem); (case zzb => k_mem); (case zzSa => assumption); (case zzSb => repeat constructor); (case zze => rfl); (case zzob => exact pads_ok); (case zzu => (k_extra "my line")))))
  trivial
theorem upd_app {d : Addr} {o : Obj} : ∀ {pre : List (Addr × Obj)}, (∀ p ∈ pre, p.1 ≠ d) → UpdF d o (pre ++ [(d, o)]) (fun o' => pre ++ [(d, o')])
  | [], _ => .head fun _ h => nomatch h
  | _ :: _, h => .tail (h _ (.head _)) (upd_app fun p hp => h p (.tail _ hp))
/-- a lambda that falls wherever led stands in the ledger -/
def LamIn (w : World) (f : Addr) (led : List (Addr × Obj)) : Prop := ∀ (h₀ : Heap) (L : Addr) (m : Str → Option Value) (h : Heap) (p : Program) (loose : List Str) (mean : ExcName → Option Value) (mg mb : Str → Option Value),
  Fr h₀ L h m → News h₀ L h led → (kheap.heap_1 w.params).In h₀ → Top p loose mean mg mb h₀ → FallsM w f 150 h
theorem LamIn.mono {w : World} {f : Addr} {led led' : List (Addr × Obj)} (x : LamIn w f led) (h : ∀ p ∈ led, p ∈ led') : LamIn w f led' := fun h₀ L m hh p loose mean mg mb F N X T => x h₀ L m hh p loose mean mg mb F (cb_drop N h) X T
theorem lam_in {w : World} {name qual : Str} {params : Arguments} {body : Expr} {scope : Scope} {cl : List (Str × Addr)} {pm ctv : Value} {c' f : Addr} {oc : Obj} {vs : Array Value} {tq : Tok} {led : List (Addr × Obj)}
    (hdd : oc.data = .fields vs) (hv : vs[1]? = some (.str qual tq)) (hbind : bindArgs (kla_fn name qual params body scope cl pm (.ref c') ctv) ⟨[], []⟩ = pure [])
    (hco : scope.isCoroutine = false) (hgen : scope.isGenerator = false) (hk : scope.kind = .function) (hcell : ∀ x ∈ scope.names, x.2 ≠ .cell)
    (hw : ∀ (dp un : Nat) (gd : Option (List Code)) (fs : List Env) (s' : Shared) (Q E : Value → Shared → Prop) (Bx B : Heap) (L' : Addr) (p : Program) (loose : List Str) (mean : ExcName → Option Value) (mg mb : Str → Option Value), (kheap.heap_1 w.params).In B → Top p loose mean mg mb B →
      Fr B L' s'.heap (fun y => ([] : List (Str × Value)).lookup y) → News B L' s'.heap ((f, kla_obj name qual params body scope cl pm c' ctv) :: (c', oc) :: led) → Bx.StaysIn s'.heap → s'.heap.FunFrames Bx (envX qual scope L' f (.ref c') cl :: fs) → dp + 150 ≤ 900 → un + 20 * 150 ≤ 9000 →
      (∀ e h' tk' a0, Heap.FlyingW Bx (envX qual scope L' f (.ref c') cl :: fs) e (.ref 44) a0 h' → s'.heap.UpToSlots h' → E (.ref e) { s' with heap := h', toks := tk' }) →
      wpAny (model PySem.Challenge.rw_on0235_01.row.prog w) ((At dp un gd fs).deeper (envX qual scope L' f (.ref c') cl)) (eval body (envX qual scope L' f (.ref c') cl)) Q E s') : LamIn w f ((f, kla_obj name qual params body scope cl pm c' ctv) :: (c', oc) :: led) :=
  fun h₀ L m h p loose mean mg mb F N X T => lam_falls (s := { heap := h }) F N X T (.head _) (codeRec_news N (.tail _ (.head _)) hdd hv) hbind hco hgen hk hcell (by decide) hw
theorem sub3 {a b c : Addr × Obj} {l : List (Addr × Obj)} (h1 : a ∈ l) (h2 : b ∈ l) (h3 : c ∈ l) : ∀ p ∈ [a, b, c], p ∈ l := fun p hp => by
  simp only [List.mem_cons, List.not_mem_nil, or_false] at hp
  rcases hp with rfl | rfl | rfl <;> assumption
theorem word_WT_4 : True := by
  (k_with "call ref" => (k_here; (with_reducible show wpAny _ _ (call (Value.ref 53) _) _ _ _); k_dflt (refine use_fallsE (u16_falls (by kba_ints) (by k_extra "my size") (by first | omega | k_extra "my size")) (by k_asm) (by k_asm) (by k_asm) (by assumption) (by assumption) (by k_extra "my room") (by k_extra "my room") ?_); k_extra "my fall"))
  trivial
theorem word_WT_5 : True := by
  (k_with "call ref" => (k_here; (with_reducible show wpAny _ _ (call (Value.ref 67) _) _ _ _); k_dflt (refine use_fallsE (u32_falls (by kba_ints) (by k_extra "my size") (by first | omega | k_extra "my size")) (by k_asm) (by k_asm) (by k_asm) (by assumption) (by assumption) (by k_extra "my room") (by k_extra "my room") ?_); k_extra "my fall"))
  trivial
theorem word_WT_6 : True := by
  (k_with "call ref" => (k_here; (with_reducible show wpAny _ _ (call (Value.ref 88) _) _ _ _); k_dflt (refine use_fallsE (part_falls (by kba_ints) (by k_extra "my size") (by first | omega | k_extra "my size")) (by k_asm) (by k_asm) (by k_asm) (by assumption) (by assumption) (by k_extra "my room") (by k_extra "my room") ?_); k_extra "my fall"))
  trivial
theorem word_WT_7 : True := by
  (k_with "call ref" => (k_here; (with_reducible show wpAny _ _ (call (Value.ref 114) _) _ _ _); k_dflt (refine use_fallsE tagoct_f1 (by k_asm) (by k_asm) (by k_asm) (by assumption) (by assumption) (by k_extra "my room") (by k_extra "my room") ?_); k_extra "my fall"))
  trivial
theorem word_WT_8 : True := by
  (k_with "call ref" => (k_here; (with_reducible show wpAny _ _ (call (Value.ref 114) _) _ _ _); k_dflt (refine use_fallsE tagoct_f2 (by k_asm) (by k_asm) (by k_asm) (by assumption) (by assumption) (by k_extra "my room") (by k_extra "my room") ?_); k_extra "my fall"))
  trivial
theorem lam_sub {w : World} {name qual : Str} {params : Arguments} {body : Expr} {scope : Scope} {cl : List (Str × Addr)} {pm ctv : Value} {c' f c3 : Addr} {oc o3 : Obj} {vs : Array Value} {tq : Tok} {led : List (Addr × Obj)}
    (h1 : (f, kla_obj name qual params body scope cl pm c' ctv) ∈ led) (h2 : (c', oc) ∈ led) (h3 : (c3, o3) ∈ led) (hdd : oc.data = .fields vs) (hv : vs[1]? = some (.str qual tq)) (hbind : bindArgs (kla_fn name qual params body scope cl pm (.ref c') ctv) ⟨[], []⟩ = pure [])
    (hco : scope.isCoroutine = false) (hgen : scope.isGenerator = false) (hk : scope.kind = .function) (hcell : ∀ x ∈ scope.names, x.2 ≠ .cell)
    (hw : ∀ (dp un : Nat) (gd : Option (List Code)) (fs : List Env) (s' : Shared) (Q E : Value → Shared → Prop) (Bx B : Heap) (L' : Addr) (p : Program) (loose : List Str) (mean : ExcName → Option Value) (mg mb : Str → Option Value), (kheap.heap_1 w.params).In B → Top p loose mean mg mb B →
      Fr B L' s'.heap (fun y => ([] : List (Str × Value)).lookup y) → News B L' s'.heap ((f, kla_obj name qual params body scope cl pm c' ctv) :: (c', oc) :: [(c3, o3)]) → Bx.StaysIn s'.heap → s'.heap.FunFrames Bx (envX qual scope L' f (.ref c') cl :: fs) → dp + 150 ≤ 900 → un + 20 * 150 ≤ 9000 →
      (∀ e h' tk' a0, Heap.FlyingW Bx (envX qual scope L' f (.ref c') cl :: fs) e (.ref 44) a0 h' → s'.heap.UpToSlots h' → E (.ref e) { s' with heap := h', toks := tk' }) →
      wpAny (model PySem.Challenge.rw_on0235_01.row.prog w) ((At dp un gd fs).deeper (envX qual scope L' f (.ref c') cl)) (eval body (envX qual scope L' f (.ref c') cl)) Q E s') : LamIn w f led :=
  (lam_in hdd hv hbind hco hgen hk hcell hw).mono (sub3 h1 h2 h3)
-- WD
section
variable {w : World}
set_option maxHeartbeats 8000000 in
theorem words_ok {src Lf : Addr} {oS oF : Obj} {fr : Env} (dp un : Nat) (gd : Option (List Code)) (s : Shared) (Q E : Value → Shared → Prop) (Bx : Heap) (AM : Amb w Bx) (hz : Bx.objs.size ≤ s.heap.objs.size) (hbx : Bx.StaysIn s.heap) (hcode : CodeHd Bx 283 281)
    (hf : ∀ p ∈ [(src, oS), (Lf, oF), ((281 : Addr), tabObj #[])], s.heap.get? p.1 = some p.2 ∧ Bx.get? p.1 = none) (hSO : SrcO oS) (hfr : fr.frame = some Lf) (hfk : fr.scope.kind = .function) (hoF : NoFields oF) (n1 : @Ne Nat src Lf) (n2 : @Ne Nat src 281) (n3 : @Ne Nat Lf 281)
    (hdp : dp + 500 ≤ 900) (hun : un + 20 * 430 ≤ 9000)
    (rt : ∀ h' tk' oF' oS', SlotsOf oF oF' → Bx.StaysIn h' → h'.get? Lf = some oF' → h'.get? src = some oS' → SrcO oS' → GrownAt 281 h' → Q (.bool true) { s with heap := h', toks := tk' }) :
    wpAny (model PySem.Challenge.rw_on0235_01.row.prog w) (At dp un gd [fr]) (call (.ref 284) [.ref src]) Q E s := by
  (have hkf : PySem.Challenge.rw_on0235_01 = PySem.Challenge.rw_on0235_01 ∧ kheap.heap_1 = kheap.heap_1 := by k_fill; exact ⟨rfl, rfl⟩)
  clear hkf
  w_top off
  have KX := AM.X
  refine AM.open ?_; intro p loose mean mg mb T
  refine' wpAny_call (enter_baseC (h₀ := Bx) hbx hz KX T ?k6 ?k7 ?k8 ?k9 ?kB ?kD ?_ ?c2 ?c3 ?c4)
  (case k6 => k_is); (case k7 => k_is); (case k8 => first | exact rec_lt (by assumption) | (simp only [recursionLimit]; omega)); (case k9 => exact rfl); (case kB => exact rfl); (case kD => decide +kernel); (case c2 => exact rfl); (case c3 => exact rfl); (case c4 => exact rfl)
  intro L1 h1 tk1 cells1 hL1 hk1 F1 N1 Y1
  (try k_extra "my kf")
  have N2 := front_cells N1 hbx hf hk1 hL1
  have lt1 : @LT.lt Nat _ src L1 := by rw [hL1]; exact Heap.lt_size (hf (src, oS) (.head _)).1
  have lt2 : @LT.lt Nat _ Lf L1 := by rw [hL1]; exact Heap.lt_size (hf (Lf, oF) (.tail _ (.head _))).1
  have lt3 : @LT.lt Nat _ 281 L1 := by rw [hL1]; exact Heap.lt_size (hf ((281 : Addr), tabObj #[]) (.tail _ (.tail _ (.head _)))).1
  clear N1 hf hk1
  k_cells Y1
  (try simp only [List.cons_append, List.nil_append] at N2)
  (try dsimp only); (try k_extra "my kf")
  repeat (first | (walk1; (try dsimp only)) | fail "no step")
  · rename_i a9
    exact absurd (g32_words (by omega) (by omega)) a9
  (with_reducible rename News _ _ _ _ => N3)
  (with_reducible rename SrcO _ => SO3)
  (with_reducible rename g32 _ _ = _ => a3)
  clear a3
  repeat (first | (walk1; (try dsimp only)) | fail "no step")
  rotate_left
  · rename_i a9
    exact absurd words_lows a9
  unfold StopLoop
  (with_reducible rename News _ _ _ _ => N4)
  (with_reducible rename Fr _ _ _ _ => F4)
  (with_reducible rename (_ : Obj).data = Data.cell (some (Value.bytes _ _)) => d4)
  (with_reducible rename KBw.bInts (byteArr [9] ++ _) = _ => K4)
  rename_i l3 h3 l3s
  obtain ⟨us3, hS, N5⟩ : ∃ us3 : List Value, StrsAre us3 (pairs3.map (·.1)) ∧ News Bx L1 _ ((l3, listOf us3.toArray 0) :: (L1 + 1, _) :: (src, _) :: (Lf, oF) :: [((281 : Addr), tabObj #[])]) := ⟨[Value.str (Str.ofString "a") _, Value.str (Str.ofString "head") _, Value.str (Str.ofString "x y") _], by repeat constructor, cb_drop N4 (by kcj_all)⟩
  clear N4
  have z3 : us3.length = 3 := by rw [hS.length]; rfl
  obtain ⟨led, hled, N6⟩ : ∃ led, led = _ ∧ News Bx L1 _ led := ⟨_, rfl, N5⟩
  have hml : (l3, listOf us3.toArray 0) ∈ led := by rw [hled]; exact .head _
  refine LCg.CompSrc.ledger (by rfl) F4 N6 hml (by rw [sizeLine_eq, List.size_toArray]; omega) ?_
  intro g'
  refine comp_ind (fun i ys news => news = led ∧ StrsAre ys ((pairs3.map (·.2)).take i)) ?_ ?_ _ 0 [] _ (Nat.zero_add _) ⟨rfl, .nil⟩
  · intro i ys news v I oI C oC2 D m₂ h tk E' hi hZ14 hv hC hx F N off ne
    (try k_extra "my kf")
    obtain ⟨rfl, hy9⟩ := hZ14
    obtain ⟨x, tx, rfl, hx9⟩ := hS.item i v (by simpa using hv)
    obtain ⟨q, hq, rfl⟩ : ∃ q, pairs3[i]? = some q ∧ q.1 = x := by
      rw [List.getElem?_map] at hx9
      cases e : pairs3[i]? with
      | none => rw [e] at hx9; cases hx9
      | some q => rw [e] at hx9; exact ⟨q, rfl, Option.some.inj hx9⟩
    have ⟨p1, p2, p3, p4, p5, p6⟩ := pairs3_ok q (List.mem_of_getElem? hq)
    have p3 : KBa.In (padL q.1) := p3
    have p5 : TagOk (partL (padL q.1) (Int.toNat 0) 4) := p5
    have p7 : (padL q.1).length ≤ 16777216 := by omega
    unfold padL at p3 p4 p5 p6 p7
    clear N5 N6
    subst hled
    k_steps
    (try k_unfold)
    refine LCg.CompEnd.intro (by k_asm) (by k_asm) _ (fun p hp => hp) off (.inr ⟨_, .head _, rfl, _, rfl⟩) ⟨rfl, ?_⟩
    rw [List.take_add_one, List.getElem?_map, hq]
    exact strsAre_app hy9 (by show StrsAre _ [q.2]; rw [← p6]; exact .cons _ _ .nil)
  · intro ys news hZ2
    intro D2 h2 tk2 F2 N2 off2
    (try k_extra "my kf")
    obtain ⟨rfl, hy9⟩ := hZ2
    subst hled
    have hy9 : StrsAre ys (pairs3.map (·.2)) := by
      have q : (pairs3.map (·.2)).take us3.toArray.size = pairs3.map (·.2) := List.take_of_length_le (by rw [List.size_toArray, z3]; exact Nat.le_refl 3)
      rw [q] at hy9; exact hy9
    have z9 : ys.length ≤ 3 := by rw [hy9.length]; exact Nat.le_refl 3
    have ⟨o1, o2, o3, o4, o5, _⟩ : (@Ne Nat l3 D2) ∧ (@Ne Nat (L1 + 1) D2) ∧ (@Ne Nat src D2) ∧ (@Ne Nat Lf D2) ∧ (@Ne Nat 281 D2) ∧ True := off2
    clear N5 N6 hS z3
    repeat (first | (walk1; (try dsimp only)) | fail "no step")
    unfold StopLoop
    (with_reducible rename News _ _ _ _ => N7)
    (with_reducible rename Fr _ _ _ _ => F7)
    (with_reducible rename SrcO _ => SO7)
    rename_i l7 h7a q7 h7b
    obtain ⟨led, hled, N8⟩ : ∃ led, led = _ ∧ News Bx L1 _ led := ⟨_, rfl, N7⟩
    obtain ⟨vs7, hv7, z7, hall⟩ : ∃ (vs7 : List Value), (l7, listOf vs7.toArray 0) ∈ led ∧ vs7.length ≤ 7 ∧ (∀ v ∈ vs7, ∃ f, v = .ref f ∧ LamIn w f (led.filter fun p => decide (p.1 ≠ Lf))) := by
      refine ⟨[.ref _, .ref _, .ref _, .ref _, .ref _, .ref _, .ref _], by rw [hled]; exact .head _, Nat.le_refl 7, ?_⟩
      intro v hv
      simp only [List.mem_cons, List.not_mem_nil, or_false] at hv
      rcases hv with rfl | rfl | rfl | rfl | rfl | rfl | rfl
      all_goals refine ⟨_, rfl, ?_⟩
      all_goals
        refine' lam_sub (c3 := L1 + 1) ?h1 ?h2 ?h3 ?hd ?hv ?b1 ?b2 ?b3 ?b4 ?b5 ?_
        (case h1 => (refine List.mem_filter.mpr ⟨?_, decide_eq_true (by k_ne)⟩; rw [hled]; k_mem))
        (case h2 => (refine List.mem_filter.mpr ⟨?_, decide_eq_true (by k_ne)⟩; rw [hled]; k_mem))
        (case h3 => (refine List.mem_filter.mpr ⟨?_, decide_eq_true (by k_ne)⟩; rw [hled]; k_mem))
        (case hd => assumption)
        (case hv => assumption)
        (case b1 => exact rfl)
        (case b2 => exact rfl)
        (case b3 => exact rfl)
        (case b4 => exact rfl)
        (case b5 => decide)
        intro dp9 un9 gd9 fs9 s9 Q9 E9 Bx9 B9 L9 p9 loose9 mean9 mg9 mb9 X9 T9 F9 N9 hb9' hf9 hdp9 hun9 rt9
        (try k_extra "my kf")
        k_steps
        (try k_unfold); (try dsimp only)
        exact rt9 _ _ _ _ (by assumption) (by assumption)
    have hml := List.mem_filter (p := fun p => decide (p.1 ≠ Lf)).mpr ⟨hv7, decide_eq_true (show l7 ≠ Lf by k_ne)⟩
    have hms : (src, _) ∈ led.filter (fun p => decide (p.1 ≠ Lf)) := List.mem_filter.mpr ⟨by rw [hled]; k_mem, decide_eq_true (by k_ne)⟩
    have hmp : ((281 : Addr), tabObj _) ∈ led.filter (fun p => decide (p.1 ≠ Lf)) := List.mem_filter.mpr ⟨by rw [hled]; k_mem, decide_eq_true (by k_ne)⟩
    have hmf : (Lf, oF) ∈ led := by rw [hled]; k_mem
    have hL7 : ∀ p ∈ led.filter (fun p => decide (p.1 ≠ Lf)), p.1 ≠ Lf := fun p hp => of_decide_eq_true (List.mem_filter.mp hp).2
    have N9 : News Bx L1 _ (led.filter (fun p => decide (p.1 ≠ Lf)) ++ [(Lf, oF)]) := fun p hp => N8 p (by
      rcases List.mem_append.mp hp with hp | hp
      · exact (List.mem_filter.mp hp).1
      · rw [List.mem_singleton.mp hp]; exact hmf)
    clear N7 N8 hv7 hmf hled
    generalize led.filter (fun p => decide (p.1 ≠ Lf)) = led7 at hall hml hms hmp hL7 N9
    refine LCt.CompSrcT.ledger rfl F7 N9 (List.mem_append_left _ hml) (by rw [sizeLine_eq, List.size_toArray]; omega) ?_
    intro g'
    refine comp_indT (fun i ys news => ys = [] ∧ ∃ oF', SlotsOf oF oF' ∧ NoFields oF' ∧ news = led7 ++ [(Lf, oF')]) ?_ ?_ _ 0 [] _ (Nat.zero_add _) ⟨rfl, oF, SlotsOf.refl _, hoF, rfl⟩
    · intro i ys news v I oI C oC2 D m₂ h tk E' hi hZ14 hv hC hx F N off ne
      (try k_extra "my kf")
      obtain ⟨rfl, oF', hs, hn, rfl⟩ := hZ14
      obtain ⟨f, rfl, hf7⟩ := hall v (List.mem_of_getElem? (by simpa using hv))
      have ⟨f1, f2, f3⟩ := off.mem (Lf, oF') (List.mem_append_right _ (.head _))
      k_steps
      unfold StopLoop
      refine use_fell' (lim := 150) (hf7 Bx L1 _ h p loose mean mg mb F (cb_drop N (fun p hp => .tail _ (.tail _ (.tail _ (List.mem_append_left _ hp))))) KX T) (by decide) F N (.tail (Ne.symm f1) (.tail (Ne.symm f2) (.tail (Ne.symm f3) (upd_app hL7)))) hn KX T rfl rfl hfr hfk (by k_extra "my room") (by k_extra "my room") ?_
      intro oF2 h2' tk2' hs2 hn2 F9 N9
      (try k_extra "my kf")
      k_steps
      refine LCg.CompEnd.intro F9 N9 (led7 ++ [(Lf, oF2)]) (fun p hp => hp) (LCg.Off3.of fun p hp => ?_) (.inr ⟨_, List.mem_append_left _ hml, rfl, _, rfl⟩) ⟨rfl, oF2, hs.trans hs2, hn2, rfl⟩
      rcases List.mem_append.mp hp with hp | hp
      · exact off.mem p (List.mem_append_left _ hp)
      · obtain rfl := List.mem_singleton.mp hp
        exact ⟨f1, f2, f3⟩
    · intro ys news hZ2
      intro D3 h3' tk3 F3 N3 off3
      (try k_extra "my kf")
      obtain ⟨rfl, oF', hs, hn, rfl⟩ := hZ2
      clear F7 N9
      k_steps
      (with_reducible rename News _ _ _ _ => N8)
      exact rt _ _ oF' _ hs (Fr.keep (by k_asm)) (N8 (Lf, oF') (.tail _ (.tail _ (List.mem_append_right _ (.head _))))).1 (N8 _ (.tail _ (.tail _ (List.mem_append_left _ hms)))).1 SO7 ⟨_, (N8 _ (.tail _ (.tail _ (List.mem_append_left _ hmp)))).1⟩
end
-- LA
theorem new_items {B s h' : Heap} {L : Addr} {m : Str → Option Value} {news X : List (Addr × Obj)} (F : Fr B L s m) (N : News B L s news) (hX : ∀ p ∈ X, h'.get? p.1 = some p.2 ∧ s.get? p.1 = none) : News B L h' X ∧ ∀ p ∈ X, ∀ q ∈ news, p.1 ≠ q.1 := by
  refine ⟨fun p hp => ⟨(hX p hp).1, fun q => ?_, ?_⟩, fun p hp q hq e => ?_⟩
  · obtain ⟨o, _, _, ho, _⟩ := F.ns
    have := (hX p hp).2
    rw [q, ho] at this; cases this
  · cases e : B.get? p.1 with
    | none => rfl
    | some o => have := F.keep _ _ e; rw [(hX p hp).2] at this; cases this
  · have h1 := (hX p hp).2
    rw [e, (N q hq).1] at h1; cases h1
theorem news_app {B h : Heap} {L : Addr} {X Y : List (Addr × Obj)} (N : News B L h X) (M : News B L h Y) : News B L h (X ++ Y) := fun p hp => (List.mem_append.mp hp).elim (N p) (M p)
section
variable {w : World} {E : Value → Shared → Prop} {s : Shared} {p : Program} {loose : List Str} {mean : ExcName → Option Value} {mg mb : Str → Option Value} {h₀ : Heap} {L : Addr} {m : Str → Option Value} {news : List (Addr × Obj)} {src tl sc : Addr} {dp un : Nat} {gd : Option (List Code)} {fs : List Env} {Q : Value → Shared → Prop} {g : Obj → List (Addr × Obj)} {o : Obj}
theorem use_pool {vs : List Value} {ns : List Int} (hl : s.heap.IsList sc vs.toArray) (hi : IntsAre vs ns) (hz : vs.length ≤ 63) (F : Fr h₀ L s.heap m) (N : News h₀ L s.heap news) (X : (kheap.heap_1 w.params).In h₀) (T : Top p loose mean mg mb h₀) (hdp : dp + 20 ≤ 900) (hun : un + 20 * 20 ≤ 9000)
    (hQ : ∀ a o h' tk', Fr h₀ L h' m → News h₀ L h' ((a, o) :: news) → SrcO o → (∀ q ∈ news, a ≠ q.1) → Q (.ref a) { s with heap := h', toks := tk' }) :
    wpAny (model PySem.Challenge.rw_on0235_01.row.prog w) (At dp un gd fs) (call (.ref 219) [.ref sc]) Q E s :=
  (pool_ok hl hi hz).use F N X T hdp hun fun v h' tk' k F' N' r => by
    obtain ⟨a, o, e, h1, SO, h2⟩ := r
    subst e
    have q := new_items F N (X := [(a, o)]) (h' := h') fun p hp => by obtain rfl := List.mem_singleton.mp hp; exact ⟨h1, h2⟩
    exact hQ a o h' tk' F' (news_app q.1 N') SO fun p hp => q.2 _ (.head _) p hp
theorem use_begun (F : Fr h₀ L s.heap m) (N : News h₀ L s.heap news) (U : UpdF src o news g) (hSO : SrcO o) (X : (kheap.heap_1 w.params).In h₀) (T : Top p loose mean mg mb h₀) (hdp : dp + 60 ≤ 900) (hun : un + 20 * 60 ≤ 9000)
    (hQ : ∀ l vs c ps ts o' h' tk', Fr h₀ L h' m → News h₀ L h' ((l, listOf (List.toArray vs) c) :: ps ++ g o') → SrcO o' → TabsAre ps vs ts → TsOk ts → (∀ p ∈ ps, p.1 ≠ l) → (∀ p ∈ (l, listOf (List.toArray vs) c) :: ps, ∀ q ∈ news, p.1 ≠ q.1) → Q (.ref l) { s with heap := h', toks := tk' }) :
    wpAny (model PySem.Challenge.rw_on0235_01.row.prog w) (At dp un gd fs) (call (.ref 257) [.ref src]) Q E s :=
  use_src begun_ok F N U hSO X T hdp hun fun v o' h' tk' F' N' S' r => by
    obtain ⟨l, vs, c, ps, ts, e, hT, hts, hpl, hall⟩ := r
    subst e
    have q := new_items F N hall
    exact hQ l vs c ps ts o' h' tk' F' (news_app q.1 N') S' hT hts hpl q.2
theorem use_font {vs : List Value} {ps : List (Addr × Obj)} {ts : List (Str × List Int)} {c : Nat} (hT : TabsAre ps vs ts) (hts : TsOk ts) (F : Fr h₀ L s.heap m) (N : News h₀ L s.heap news) (hfr : ∀ p ∈ (tl, listOf vs.toArray c) :: ps, p ∈ news ∧ p.1 ≠ src) (U : UpdF src o news g) (hSO : SrcO o) (X : (kheap.heap_1 w.params).In h₀) (T : Top p loose mean mg mb h₀) (hdp : dp + 100 ≤ 900) (hun : un + 20 * 100 ≤ 9000)
    (hQ : ∀ l d L2 b t us c1 c2 qs rs ks o' h' tk', Fr h₀ L h' m → News h₀ L h' ((l, listOf (List.toArray [Value.bytes b t, .ref d]) c1) :: (d, listOf (List.toArray us) c2) :: qs ++ g o') → SrcO o' → KBw.bInts b = ks → FontIs ks ts rs → TupsAre L2 qs us rs → (∀ p ∈ (l, listOf (List.toArray [Value.bytes b t, .ref d]) c1) :: (d, listOf (List.toArray us) c2) :: qs, ∀ q ∈ news, p.1 ≠ q.1) → Q (.ref l) { s with heap := h', toks := tk' }) :
    wpAny (model PySem.Challenge.rw_on0235_01.row.prog w) (At dp un gd fs) (call (.ref 262) [.ref src, .ref tl]) Q E s :=
  use_read (font_gives hT hts) F N hfr U hSO X T hdp hun fun v o' h' tk' F' N' S' r => by
    obtain ⟨l, d, L2, b, t, us, c1, c2, qs, rs, ks, e, hk, hF, hR, hall⟩ := r
    subst e
    have q := new_items F N hall
    exact hQ l d L2 b t us c1 c2 qs rs ks o' h' tk' F' (news_app q.1 N') S' hk hF hR q.2
end
def rowDat (r : DRow) : Dat := .tuple [.str r.tag, .int r.sum, .int r.place, .int r.size]
theorem tups_dat {L : Addr} {ps : List (Addr × Obj)} : ∀ {vs : List Value} {rs : List DRow}, TupsAre L ps vs rs → DatAll ps vs (rs.map rowDat)
  | [], [], _ => .nil
  | _ :: _, _ :: _, ⟨⟨_, t1, t2, t3, t4, e, _, hm⟩, r⟩ => by subst e; exact .cons (.tuple hm (.cons (.str _ t1) (.cons (.int _ t2) (.cons (.int _ t3) (.cons (.int _ t4) .nil))))) (tups_dat r)
  | [], _ :: _, x => x.elim
  | _ :: _, [], x => x.elim
theorem rows_of {ks : List Int} {ts : List (Str × List Int)} {rs : List DRow} (hF : FontOk ks ts rs) {i : Nat} {r : DRow} (h : rs[i]? = some r) : r = rowOf ks i := by
  have hi : i < ts.length := by rw [← hF.rlen]; exact (List.getElem?_eq_some_iff.mp h).1
  have := (hF.get hi).1
  rw [h] at this; exact Option.some.inj this
theorem rows_kqd {ks : List Int} {ts : List (Str × List Int)} {rs : List DRow} {b : Array UInt8} (hF : FontOk ks ts rs) (hk : KBw.bInts b = ks) : ∀ d ∈ rs.map rowDat, kqdOk 8 d = true := fun d hd => by
  obtain ⟨r, hr, rfl⟩ := List.mem_map.mp hd
  obtain ⟨i, hi, e⟩ := List.getElem_of_mem hr
  have q := rows_of hF (List.getElem?_eq_getElem hi)
  rw [e] at q
  have s := tag_strOk (bytes_lt hk) i
  rw [← q] at s
  show List.all [Dat.str r.tag, .int r.sum, .int r.place, .int r.size] (kqdOk 7) = true
  simp [kqdOk, s]
open Classical in
theorem ne_rows {prog : Program} {w : World} {A : Around} {E : Value → Shared → Prop} {s : Shared} {h₀ : Heap} {L L1 L2 a b : Addr} {news n1 n2 : List (Addr × Obj)} {vs us : List Value} {rs : List DRow} {ka kb : Nat} {Q : Value → Shared → Prop} (N : News h₀ L s.heap news) (ma : (a, listOf vs.toArray ka) ∈ news) (mb : (b, listOf us.toArray kb) ∈ news) (Sa : TupsAre L1 n1 vs rs) (sa : ∀ p ∈ n1, p ∈ news) (Sb : TupsAre L2 n2 us rs) (sb : ∀ p ∈ n2, p ∈ news) (ok : ∀ d ∈ rs.map rowDat, kqdOk 8 d = true) (hu : A.units + 64 < cLine) (h : Q (.bool false) s) :
    wpAny (model prog w) A (compareOp .NotEq (.ref a) (.ref b)) Q E s :=
  kqd_ne N ma rfl rfl (tups_dat Sa) sa mb rfl rfl (tups_dat Sb) sb ok ok hu (by rw [decide_eq_true rfl]; exact h)
theorem allLt_mem {a : Addr} : ∀ {l : List (Addr × Obj)}, AllLt a l → ∀ p ∈ l, @LT.lt Nat _ p.1 a
  | [], _, _, h => nomatch h
  | _ :: _, x, p, h => by
    rcases List.mem_cons.mp h with rfl | h
    · exact x.1
    · exact allLt_mem x.2 p h
theorem tab_of {ks : List Int} {ts : List (Str × List Int)} {rs : List DRow} (hF : FontOk ks ts rs) (hts : TsOk ts) : TabOk ks := by
  refine ⟨hF.dir, fun i j hij hj e => ?_⟩
  have hn : (g16 ks 4).toNat = ts.length := hF.nn
  have hi' : i < ts.length := by omega
  have hj' : j < ts.length := by omega
  rw [(hF.get hi').2.1, (hF.get hj').2.1] at e
  have q := List.pairwise_iff_getElem.mp hts.2.1 i j (by simpa using hi') (by simpa using hj') hij
  exact q (by simpa using e)
section
variable {w : World} {E : Value → Shared → Prop} {s : Shared} {p : Program} {loose : List Str} {mean : ExcName → Option Value} {mg mb : Str → Option Value} {h₀ : Heap} {L : Addr} {m : Str → Option Value} {news : List (Addr × Obj)} {dp un : Nat} {gd : Option (List Code)} {fs : List Env} {Q : Value → Shared → Prop} {b : Array UInt8} {t : Tok} {ks : List Int}
theorem use_tabs (hk : KBw.bInts b = ks) (hz : ks.length ≤ 900) (hTb : TabOk ks) (F : Fr h₀ L s.heap m) (N : News h₀ L s.heap news) (X : (kheap.heap_1 w.params).In h₀) (T : Top p loose mean mg mb h₀) (hdp : dp + 100 ≤ 900) (hun : un + 20 * 100 ≤ 9000)
    (hQ : ∀ x dx d o kvs k h' tk', Fr h₀ L h' m → News h₀ L h' ((x, instObj 152 dx) :: (dx, tabD w d k) :: (d, o) :: news) → o.IsDictOf (strKind PRG w) kvs → kvs.length = (g16 ks 4).toNat → (d == sysModules) = false →
      (∀ j, j < (g16 ks 4).toNat → ∃ b t, kvs[j]? = some ((rowOf ks j).tag, .bytes b t) ∧ KBw.bInts b = partL ks (rowOf ks j).place.toNat (rowOf ks j).size.toNat) → @Ne Nat x dx → @Ne Nat x d → @Ne Nat dx d →
      (∀ a ∈ [x, dx, d], ∀ q ∈ news, a ≠ q.1) → Q (.ref x) { s with heap := h', toks := tk' }) :
    wpAny (model PySem.Challenge.rw_on0235_01.row.prog w) (At dp un gd fs) (call (.ref 191) [.bytes b t]) Q E s :=
  (tabs_ok hk hz hTb).use F N X T hdp hun fun v h' tk' k F' N' r => by
    obtain ⟨x, dx, d, o, kvs, k1, e, r1, r2, r3, r4, r5, r6, r7, r8⟩ := r
    subst e
    have q := new_items F N r5
    refine hQ x dx d o kvs k1 h' tk' F' (news_app q.1 N') r1 r2 r3 r4 r6 r7 r8 fun a ha => ?_
    simp only [List.mem_cons, List.not_mem_nil, or_false] at ha
    rcases ha with rfl | rfl | rfl
    · exact q.2 _ (.head _)
    · exact q.2 _ (.tail _ (.head _))
    · exact q.2 _ (.tail _ (.tail _ (.head _)))
end
-- LT
theorem strs_of_keys : ∀ {vs : List Value} {ks : List Str}, vs.length = ks.length → (∀ (j : Nat) (v : Value), vs[j]? = some v → ∃ k t, ks[j]? = some k ∧ v = .str k t) → StrsAre vs ks
  | [], [], _, _ => .nil
  | v :: vs, k :: ks, hl, h => by
    obtain ⟨k', t, e1, e2⟩ := h 0 v rfl
    obtain rfl := Option.some.inj e1
    subst e2
    exact .cons _ t (strs_of_keys (by simpa using hl) fun j u hu => h (j + 1) u hu)
  | [], _ :: _, hl, _ => by cases hl
  | _ :: _, [], hl, _ => by cases hl
theorem sorted_dict {prog : Program} {w : World} {A : Around} {E : Value → Shared → Prop} {s : Shared} {h₀ : Heap} {L d : Addr} {m : Str → Option Value} {news : List (Addr × Obj)} {o : Obj} {kvs : List (Str × Value)} {Q : Value → Shared → Prop} (hh : A.handled = none) (F : Fr h₀ L s.heap m) (N : News h₀ L s.heap news) (hm : (d, o) ∈ news) (hK : o.IsDictOf (strKind prog w) kvs) (hs : (d == sysModules) = false) (hz : kvs.length < 64)
    (h : ∀ D vs c h' tk, Fr h₀ L h' m → News h₀ L h' ((D, listOf (List.toArray vs) c) :: news) → StrsAre vs (sortS (kvs.map (·.1))) → (∀ q ∈ news, q.1 < D) → Q (.ref D) { s with heap := h', toks := tk }) :
    wpAny (model prog w) A (call (.builtin "sorted") [.ref d]) Q E s := by
  obtain ⟨ep, hat⟩ := KdkAt.of hK
  refine kdu_sorted (kdl_dict (knd := strKind prog w) (kvs := kvs) (ep := ep) hs) hh F N (hat.dictAt (N _ hm).1) (by rw [sizeLine_eq]; omega) fun D h' tk vs F' N' lt hl hv => ?_
  have S : StrsAre vs (kvs.map (·.1)) := strs_of_keys (by rw [List.length_map]; exact hl) fun j v hj => by
    obtain ⟨k, x, e1, e2⟩ := hv j v hj
    obtain ⟨t, e3⟩ := Value.isStrOf_shape e2
    exact ⟨k, t, by rw [List.getElem?_map, e1]; rfl, e3⟩
  exact str_sort F' N' (UpdF.head fun p hp => Nat.ne_of_lt (lt p hp)) S (by omega) fun vs' c h'' F'' N'' S'' => h D vs' c h'' tk F'' N'' S'' lt
/-- a call that stores into nothing and reads what stands in fr, fr not in the base -/
def GivesF (w : World) (f : Addr) (fr : List (Addr × Obj)) (vs : List Value) (R : Heap → Value → Prop) (lim : Nat) (h : Heap) : Prop :=
  ∀ (dp un : Nat) (gd : Option (List Code)) (fs : List Env) (s : Shared) (Q E : Value → Shared → Prop) (g : Heap), s.heap = h → Amb w g → g.StaysIn s.heap → (∀ p ∈ fr, s.heap.get? p.1 = some p.2 ∧ g.get? p.1 = none) → dp + lim ≤ 900 → un + 20 * lim ≤ 9000 →
    (∀ v h' tk', s.heap.StaysIn h' → R h' v → Q v { s with heap := h', toks := tk' }) →
    wpAny (model PySem.Challenge.rw_on0235_01.row.prog w) (At dp un gd fs) (call (.ref f) vs) Q E s
theorem use_front {w : World} {E : Value → Shared → Prop} {s : Shared} {p : Program} {loose : List Str} {mean : ExcName → Option Value} {mg mb : Str → Option Value} {h₀ : Heap} {L : Addr} {m : Str → Option Value} {news fr : List (Addr × Obj)} {f : Addr} {vs : List Value} {R : Heap → Value → Prop} {lim dp un : Nat} {gd : Option (List Code)} {fs : List Env} {Q : Value → Shared → Prop}
    (C : GivesF w f fr vs R lim s.heap) (F : Fr h₀ L s.heap m) (N : News h₀ L s.heap news) (hfr : ∀ p ∈ fr, p ∈ news) (X : (kheap.heap_1 w.params).In h₀) (T : Top p loose mean mg mb h₀) (hdp : dp + lim ≤ 900) (hun : un + 20 * lim ≤ 9000)
    (hQ : ∀ v h' tk', Fr h₀ L h' m → News h₀ L h' news → R h' v → Q v { s with heap := h', toks := tk' }) :
    wpAny (model PySem.Challenge.rw_on0235_01.row.prog w) (At dp un gd fs) (call (.ref f) vs) Q E s :=
  C dp un gd fs s Q E h₀ rfl ⟨X, p, loose, mean, mg, mb, T⟩ F.keep (fun q hq => ⟨(N q (hfr q hq)).1, (N q (hfr q hq)).2.2⟩) hdp hun fun v h' tk' k r => hQ v h' tk' (F.keeps k) (N.grown k) r
theorem word_LT_1 : True := by
  (k_with "call builtin:sorted" => (k_here; (with_reducible show wpAny _ _ (call (Value.builtin "sorted") [Value.ref _]) _ _ _); k_dflt (refine' sorted_dict ?zzhh ?zzF ?zzN ?zzm ?zzK ?zzs ?zzz ?_; (case zzhh => exact rfl); (case zzF => k_asm); (case zzN => k_asm); (case zzm => k_mem); (case zzK => assumption); (case zzs => assumption); (case zzz => omega)); intro D9 vs9 c9 h9 tk9 F9 N9 S9 q9; have z9 := strs_len_le S9; (replace q9 := allLt_of q9); (try simp only [AllLt, and_true] at q9); (first | (revert D9 vs9 c9 h9 tk9 F9 N9 S9 q9 z9; intros) | skip)))
  trivial
section
variable {w : World} {h : Heap} {x dx dk : Addr} {oK : Obj} {kvs : List (Str × Value)} {kt : Tok}
set_option maxHeartbeats 4000000 in
theorem tags_ok (hK : oK.IsDictOf (strKind PRG w) kvs) (hks : (dk == sysModules) = false) (hz : kvs.length < 64) : GivesF w 135 [(x, instObj 152 dx), (dx, tabD w dk kt), (dk, oK)] [.ref x] (StrsV h (sortS (kvs.map (·.1)))) 20 h := by
  (have hkf : PySem.Challenge.rw_on0235_01 = PySem.Challenge.rw_on0235_01 ∧ kheap.heap_1 = kheap.heap_1 := by k_fill; exact ⟨rfl, rfl⟩)
  clear hkf
  w_top off
  intro dp un gd fs s Q E g hs AM hgk hfr hdp hun rt
  obtain ⟨B, hBk, hBz, KX, ⟨p, loose, mean, mg, mb, T⟩, hBn, hBr⟩ := base_front [(x, instObj 152 dx), (dx, tabD w dk kt), (dk, oK)] AM hgk (fun p hp => (hfr p hp).2)
  refine' wpAny_call (enter_base (h₀ := B) hBk hBz KX T ?k6 ?k7 ?k8 ?k9 ?kB ?_ ?c2 ?c3 ?c4 ?c5)
  (case k6 => k_is); (case k7 => k_is); (case k8 => first | exact rec_lt (by assumption) | (simp only [recursionLimit]; omega)); (case k9 => exact rfl); (case c5 => decide); (case kB => exact locs rfl); (case c2 => exact rfl); (case c3 => exact rfl); (case c4 => exact rfl)
  intro L1 h1 tkz hL1 hk1 F1
  have N1 := news_front (fun p hp => (hfr p hp).1) hBn hk1 hL1
  (try dsimp only); (dsimp only [List.map, List.zip, List.zipWith, List.reverse, List.reverseAux] at F1); (try k_extra "my kf")
  k_steps
  (try k_unfold); (try dsimp only)
  (with_reducible rename News _ _ _ _ => N8)
  (with_reducible rename Fr _ _ _ _ => F8)
  (with_reducible rename StrsAre _ _ => S8)
  rename_i D9 vs9 c9 h9 tk9 z9 q9
  have hD : h.get? D9 = none := by
    cases e : h.get? D9 with
    | none => rfl
    | some o =>
      have n8 := (N8 _ (.head _)).2.2
      rw [hBr D9 o (fun p hp q => by
        simp only [List.mem_cons, List.not_mem_nil, or_false] at hp
        have ⟨g1, g2, g3⟩ : @LT.lt Nat _ x D9 ∧ @LT.lt Nat _ dx D9 ∧ @LT.lt Nat _ dk D9 := q9
        rcases hp with rfl | rfl | rfl
        · exact Nat.ne_of_gt g1 q
        · exact Nat.ne_of_gt g2 q
        · exact Nat.ne_of_gt g3 q) (hs ▸ e)] at n8
      cases n8
  exact rt _ _ _ (all_kept (fun p hp => (hfr p hp).1) hBr F8 N8 (fun p hp => .tail _ hp)) ⟨D9, vs9, c9, rfl, (N8 _ (.head _)).1, S8, hD⟩
end
section
variable {w : World} {h : Heap} {x dx dk : Addr} {oK : Obj} {kvs : List (Str × Value)} {kt u : Tok} {y : Str} {bb : Bool}
set_option maxHeartbeats 4000000 in
theorem has_ok (hK : oK.IsDictOf (strKind PRG w) kvs) (hks : (dk == sysModules) = false) (hin : (valueAt kvs y).isSome = bb) : GivesF w 142 [(x, instObj 152 dx), (dx, tabD w dk kt), (dk, oK)] [.ref x, .str y u] (BoolV bb) 20 h := by
  (have hkf : PySem.Challenge.rw_on0235_01 = PySem.Challenge.rw_on0235_01 ∧ kheap.heap_1 = kheap.heap_1 := by k_fill; exact ⟨rfl, rfl⟩)
  clear hkf
  w_top off
  intro dp un gd fs s Q E g hs AM hgk hfr hdp hun rt
  obtain ⟨B, hBk, hBz, KX, ⟨p, loose, mean, mg, mb, T⟩, hBn, hBr⟩ := base_front [(x, instObj 152 dx), (dx, tabD w dk kt), (dk, oK)] AM hgk (fun p hp => (hfr p hp).2)
  refine' wpAny_call (enter_base (h₀ := B) hBk hBz KX T ?k6 ?k7 ?k8 ?k9 ?kB ?_ ?c2 ?c3 ?c4 ?c5)
  (case k6 => k_is); (case k7 => k_is); (case k8 => first | exact rec_lt (by assumption) | (simp only [recursionLimit]; omega)); (case k9 => exact rfl); (case c5 => decide); (case kB => exact locs rfl); (case c2 => exact rfl); (case c3 => exact rfl); (case c4 => exact rfl)
  intro L1 h1 tkz hL1 hk1 F1
  have N1 := news_front (fun p hp => (hfr p hp).1) hBn hk1 hL1
  (try dsimp only); (dsimp only [List.map, List.zip, List.zipWith, List.reverse, List.reverseAux] at F1); (try k_extra "my kf")
  k_steps
  (try k_unfold); (try dsimp only)
  exact rt _ _ _ (all_kept (fun p hp => (hfr p hp).1) hBr F1 N1 (fun p hp => hp)) rfl
end
theorem nin_dict {prog : Program} {w : World} {A : Around} {E : Value → Shared → Prop} {s : Shared} {h₀ : Heap} {L d : Addr} {news : List (Addr × Obj)} {o : Obj} {kvs : List (Str × Value)} {y : Str} {u : Tok} {b : Bool} {Q : Value → Shared → Prop} (N : News h₀ L s.heap news) (hm : (d, o) ∈ news) (hK : o.IsDictOf (strKind prog w) kvs) (hs : (d == sysModules) = false) (hb : (valueAt kvs y).isSome = b) (h : Q (.bool (!b)) { s with toks := s.toks + 1 }) :
    wpAny (model prog w) A (compareOp .NotIn (.str y u) (.ref d)) Q E s :=
  wpAny_notIn_of (strKind_is prog w y u) hs (kda_dict N hm hK).mapOf (by rw [hb]; exact h)
theorem word_LT_2 : True := by
  (k_with "subscriptTail" => (k_here; (with_reducible show wpAny _ _ (subscriptTail _ _ (Value.ref _) (Value.str _ _)) _ _ _); k_dflt (refine kda_item (knd := PySem.strKind _ _) (by k_asm) (by k_mem) (by assumption) (strKind_is _ _ _ _) (by assumption) ?_)))
  trivial
theorem word_LT_3 : True := by
  (k_with "compareOp NotIn str ref" => (k_here; k_dflt (refine nin_dict (by k_asm) (by k_mem) (by assumption) (by assumption) (by assumption) ?_)))
  trivial
section
variable {w : World} {h : Heap} {x dx dk : Addr} {oK : Obj} {kvs : List (Str × Value)} {kt u : Tok} {y : Str} {v0 : Value}
set_option maxHeartbeats 4000000 in
theorem table_ok (hK : oK.IsDictOf (strKind PRG w) kvs) (hks : (dk == sysModules) = false) (hval : valueAt kvs y = some v0) : GivesF w 149 [(x, instObj 152 dx), (dx, tabD w dk kt), (dk, oK)] [.ref x, .str y u] (fun _ r => r = v0) 20 h := by
  (have hkf : PySem.Challenge.rw_on0235_01 = PySem.Challenge.rw_on0235_01 ∧ kheap.heap_1 = kheap.heap_1 := by k_fill; exact ⟨rfl, rfl⟩)
  clear hkf
  w_top off
  intro dp un gd fs s Q E g hs AM hgk hfr hdp hun rt
  have hin : (valueAt kvs y).isSome = true := by rw [hval]; rfl
  obtain ⟨B, hBk, hBz, KX, ⟨p, loose, mean, mg, mb, T⟩, hBn, hBr⟩ := base_front [(x, instObj 152 dx), (dx, tabD w dk kt), (dk, oK)] AM hgk (fun p hp => (hfr p hp).2)
  refine' wpAny_call (enter_base (h₀ := B) hBk hBz KX T ?k6 ?k7 ?k8 ?k9 ?kB ?_ ?c2 ?c3 ?c4 ?c5)
  (case k6 => k_is); (case k7 => k_is); (case k8 => first | exact rec_lt (by assumption) | (simp only [recursionLimit]; omega)); (case k9 => exact rfl); (case c5 => decide); (case kB => exact locs rfl); (case c2 => exact rfl); (case c3 => exact rfl); (case c4 => exact rfl)
  intro L1 h1 tkz hL1 hk1 F1
  have N1 := news_front (fun p hp => (hfr p hp).1) hBn hk1 hL1
  (try dsimp only); (dsimp only [List.map, List.zip, List.zipWith, List.reverse, List.reverseAux] at F1); (try k_extra "my kf")
  k_steps
  (try k_unfold); (try dsimp only)
  refine wpAny_getItem_of (strKind_is _ _ _ _) (kda_dict N1 (by k_mem) hK).mapOf hval ?_
  k_steps
  (try k_unfold); (try dsimp only)
  exact rt _ _ _ (all_kept (fun p hp => (hfr p hp).1) hBr F1 N1 (fun p hp => hp)) rfl
end
section
variable {w : World} {E : Value → Shared → Prop} {s' : Shared} {Bx h₀ h₁ h : Heap} {fs : List Env} {L a e : Addr} {m : Str → Option Value} {name : Str} {scope : Scope} {cd : Value} {M : Model} {Q : Unit → Shared → Prop} {dp un : Nat} {gd : Option (List Code)}
/-- an exception made in this frame leaves it; the frame's base lacks what rides in the ledger -/
theorem leave_new (F : Fr h₀ L h m) (hall : h₁.StaysIn h) (hb : Bx.StaysIn h₁) (hf : h₁.FunFrames Bx fs) (hL : Bx.get? L = none) (mk : MadeFF h s'.heap e)
    (hQ : ∀ h' a0, Heap.FlyingW Bx fs e (.ref 44) a0 h' → h₁.UpToSlots h' → Q () { s' with heap := h' }) (hk : scope.kind = .function := by rfl) :
    wpAny M ((At dp un gd fs).deeper (envOf name scope L a cd)) (leaving (envOf name scope L a cd) (.ref e)) Q E s' := by
  obtain ⟨k, hn, t, dx, he⟩ := mk
  have hen : Bx.get? e = none := by
    cases q : Bx.get? e with
    | none => rfl
    | some o => have := hall e o (hb e o q); rw [hn] at this; cases this
  have hF : h.FunFrames Bx (envOf name scope L a cd :: fs) := .cons (by show scope.kind ≠ .module; rw [hk]; decide) rfl F.ns hL (hf.of_keeps fun b o q _ => ⟨o, hall b o q, rfl⟩)
  refine wpAny_leaving_firstW (a0 := .ref t) (env := envOf name scope L a cd) (outer := fs) rfl (hF.of_keeps fun b o q _ => ⟨o, k b o q, rfl⟩) rfl he (fun b o q => k b o (hall b o (hb b o q))) hen rfl rfl rfl fun h' hL => ?_
  obtain ⟨k1, ⟨_, _, k2⟩, k3, k4⟩ := hL
  exact hQ h' _ ⟨k1, hen, k2, k3⟩ (((Heap.UpToSlots.of_keeps hall).trans (Heap.UpToSlots.of_keeps k)).trans k4)
end
theorem lit5 : (Str.ofString "a font without the table ").length = 25 := by decide +kernel
theorem word_LT_4 : True := by
  (k_with "binaryOp Add str str" => (k_here; (with_reducible show wpAny _ _ (binaryOp Operator.Add (Value.str (Str.ofString "a font without the table ") _) (Value.str _ _)) _ _ _); (refine PyProof.Rows.add_str (hsz := (by (try dsimp only); simp only [lit5]; rw [sizeLine_eq]; omega)) ?_); intro _ _))
  trivial
section
variable {w : World} {h B0 : Heap} {x dx dk : Addr} {oK : Obj} {kvs : List (Str × Value)} {kt u : Tok} {y : Str}
set_option maxHeartbeats 4000000 in
theorem table_falls (AMb : Amb w B0) (hgk : B0.StaysIn h) (hfr : ∀ p ∈ [(x, instObj 152 dx), (dx, tabD w dk kt), (dk, oK)], h.get? p.1 = some p.2 ∧ B0.get? p.1 = none) (hK : oK.IsDictOf (strKind PRG w) kvs) (hks : (dk == sysModules) = false) (hval : valueAt kvs y = none) (hy : y.length ≤ 100) : Falls w 149 [.ref x, .str y u] 20 h := by
  (have hkf : PySem.Challenge.rw_on0235_01 = PySem.Challenge.rw_on0235_01 ∧ kheap.heap_1 = kheap.heap_1 := by k_fill; exact ⟨rfl, rfl⟩)
  clear hkf
  w_top off
  intro dp un gd fs s Q E Bx hs _ hdp hun hbx hff rt
  subst hs
  have hin : (valueAt kvs y).isSome = false := by rw [hval]; rfl
  obtain ⟨B, hBk, hBz, KX, ⟨p, loose, mean, mg, mb, T⟩, hBn, hBr⟩ := base_front [(x, instObj 152 dx), (dx, tabD w dk kt), (dk, oK)] AMb hgk (fun p hp => (hfr p hp).2)
  refine' wpAny_call (enter_base (h₀ := B) hBk hBz KX T ?k6 ?k7 ?k8 ?k9 ?kB ?_ ?c2 ?c3 ?c4 ?c5)
  (case k6 => k_is); (case k7 => k_is); (case k8 => first | exact rec_lt (by assumption) | (simp only [recursionLimit]; omega)); (case k9 => exact rfl); (case c5 => decide); (case kB => exact locs rfl); (case c2 => exact rfl); (case c3 => exact rfl); (case c4 => exact rfl)
  intro L1 h1 tkz hL1 hk1 F1
  have N1 := news_front (fun p hp => (hfr p hp).1) hBn hk1 hL1
  have hBL : Bx.get? L1 = none := by
    cases q : Bx.get? L1 with
    | none => rfl
    | some o => exact absurd (Heap.lt_size (hbx _ _ q)) (by rw [hL1]; exact Nat.lt_irrefl _)
  (try dsimp only); (dsimp only [List.map, List.zip, List.zipWith, List.reverse, List.reverseAux] at F1); (try k_extra "my kf")
  k_steps
  refine leave_new F1 hk1 hbx hff hBL (by assumption) (fun h8 a8 fl8 up8 => ?_) rfl
  (try k_unfold); (try dsimp only)
  exact rt _ _ _ _ fl8 up8
end
theorem use_tags {w : World} {E : Value → Shared → Prop} {s : Shared} {p : Program} {loose : List Str} {mean : ExcName → Option Value} {mg mb : Str → Option Value} {h₀ : Heap} {L : Addr} {m : Str → Option Value} {news : List (Addr × Obj)} {x dx dk : Addr} {oK : Obj} {kvs : List (Str × Value)} {kt : Tok} {dp un : Nat} {gd : Option (List Code)} {fs : List Env} {Q : Value → Shared → Prop}
    (hK : oK.IsDictOf (strKind PRG w) kvs) (hks : (dk == sysModules) = false) (hz : kvs.length < 64) (F : Fr h₀ L s.heap m) (N : News h₀ L s.heap news) (hfr : ∀ p ∈ [(x, instObj 152 dx), (dx, tabD w dk kt), (dk, oK)], p ∈ news) (X : (kheap.heap_1 w.params).In h₀) (T : Top p loose mean mg mb h₀) (hdp : dp + 20 ≤ 900) (hun : un + 20 * 20 ≤ 9000)
    (hQ : ∀ (l : Addr) (xs : List Value) (c : Nat) h' tk', Fr h₀ L h' m → News h₀ L h' ((l, listOf xs.toArray c) :: news) → StrsAre xs (sortS (kvs.map (·.1))) → (∀ q ∈ news, l ≠ q.1) → Q (.ref l) { s with heap := h', toks := tk' }) :
    wpAny (model PySem.Challenge.rw_on0235_01.row.prog w) (At dp un gd fs) (call (.ref 135) [.ref x]) Q E s :=
  use_front (tags_ok hK hks hz) F N hfr X T hdp hun fun v h' tk' F' N' r => by
    obtain ⟨l, xs, c, e, hl, hS, h0⟩ := r
    subst e
    have q := new_items F N (X := [(l, listOf xs.toArray c)]) (h' := h') fun p hp => by obtain rfl := List.mem_singleton.mp hp; exact ⟨hl, h0⟩
    exact hQ l xs c h' tk' F' (news_app q.1 N') hS fun p hp => q.2 _ (.head _) p hp
section
variable {ks : List Int} {ts : List (Str × List Int)} {rs : List DRow} {kvs : List (Str × Value)}
theorem keys_eq (hF : FontOk ks ts rs) (hl : kvs.length = (g16 ks 4).toNat) (hv : ∀ j, j < (g16 ks 4).toNat → ∃ b t, kvs[j]? = some ((rowOf ks j).tag, .bytes b t) ∧ KBw.bInts b = partL ks (rowOf ks j).place.toNat (rowOf ks j).size.toNat) : kvs.map (·.1) = ts.map (·.1) := by
  have hn := hF.nn
  refine List.ext_getElem? fun j => ?_
  rw [List.getElem?_map, List.getElem?_map]
  by_cases hj : j < ts.length
  · obtain ⟨b, t, e, _⟩ := hv j (by rw [hn]; exact hj)
    rw [e, List.getElem?_eq_getElem hj, Option.map_some, Option.map_some, (hF.get hj).2.1]
  · rw [List.getElem?_eq_none (Nat.le_of_not_lt (by rw [hl, hn]; exact hj)), List.getElem?_eq_none (Nat.le_of_not_lt hj)]; rfl
theorem tags_strOk (hF : FontOk ks ts rs) {b : Array UInt8} (hk : KBw.bInts b = ks) : StrOkL (ts.map (·.1)) := fun x hx => by
  obtain ⟨a, ha, rfl⟩ := List.mem_map.mp hx
  obtain ⟨i, hi, e⟩ := List.getElem_of_mem ha
  have q := (hF.get hi).2.1
  rw [e] at q
  rw [← q]
  exact tag_strOk (bytes_lt hk) i
theorem sort_strOk {l : List Str} (h : StrOkL l) : StrOkL (sortS l) := fun x hx => h x ((List.mergeSort_perm _ _).mem_iff.mp hx)
/-- what a tag's key leads to -/
theorem key_at (hF : FontOk ks ts rs) (hts : TsOk ts) (hl : kvs.length = (g16 ks 4).toNat) (hv : ∀ j, j < (g16 ks 4).toNat → ∃ b t, kvs[j]? = some ((rowOf ks j).tag, .bytes b t) ∧ KBw.bInts b = partL ks (rowOf ks j).place.toNat (rowOf ks j).size.toNat) {i : Nat} {a : Str × List Int} (ha : ts[i]? = some a) : ∃ b t, valueAt kvs a.1 = some (.bytes b t) ∧ KBw.bInts b = a.2 := by
  have hi : i < ts.length := (List.getElem?_eq_some_iff.mp ha).1
  have hk := keys_eq hF hl hv
  obtain ⟨b, t, e, hb⟩ := hv i (by rw [hF.nn]; exact hi)
  obtain ⟨_, q1, _, _, _, q2⟩ := hF.row i a ha
  rw [q1] at e
  rw [q2] at hb
  exact ⟨b, t, valueAt_of_get (by rw [hk]; exact hts.2.1) e, hb⟩
theorem key_none (hF : FontOk ks ts rs) (hts : TsOk ts) (hl : kvs.length = (g16 ks 4).toNat) (hv : ∀ j, j < (g16 ks 4).toNat → ∃ b t, kvs[j]? = some ((rowOf ks j).tag, .bytes b t) ∧ KBw.bInts b = partL ks (rowOf ks j).place.toNat (rowOf ks j).size.toNat) : valueAt kvs (Str.ofString "none") = none :=
  valueAt_none_of_not_mem (by rw [keys_eq hF hl hv]; intro h; obtain ⟨a, ha, e⟩ := List.mem_map.mp h; exact absurd e (((hts.2.2 a ha).elim (fun q => (show ∀ y ∈ tagN, y ≠ Str.ofString "none" by decide +kernel) _ q.1) (fun q => by rw [q.1]; decide +kernel))))
theorem ints_eq {a b : Array UInt8} (h : KBw.bInts a = KBw.bInts b) : a = b := Array.toList_inj.mp (ints_inj h)
end
-- LU
section
variable {w : World} {E : Value → Shared → Prop} {s : Shared} {h₀ : Heap} {L c : Addr} {m : Str → Option Value} {env : Env} {dp un lim : Nat} {gd : Option (List Code)} {p : Program} {loose : List Str} {mean : ExcName → Option Value} {mg mb : Str → Option Value} {news : List (Addr × Obj)}
/-- _law_fell called by law itself -/
theorem use_fell0 {Q : Value → Shared → Prop} (C : FallsM w c lim s.heap) (hlim : lim ≤ 300) (F : Fr h₀ L s.heap m) (N : News h₀ L s.heap news) (X : (kheap.heap_1 w.params).In h₀) (T : Top p loose mean mg mb h₀)
    (he : env.frame = some L) (hk : env.scope.kind = .function) (hdp : dp + 1 + 400 ≤ 900) (hun : un + 3 + 20 * 400 ≤ 9000)
    (hQ : ∀ h' tk', Fr h₀ L h' m → News h₀ L h' news → Q (.bool true) { s with heap := h', toks := tk' }) :
    wpAny (model PySem.Challenge.rw_on0235_01.row.prog w) ((At dp un gd []).deeper env) (call (.ref 269) [.ref c]) Q E s := by
  have hL0 : h₀.get? L = none := new_above (fun _ _ e => e) F
  obtain ⟨oL, es, ep, hoL, hdL, hrL⟩ := id F.ns
  obtain ⟨B, hBk, hBz, BX, BT, hBn, hBr⟩ := base_front [(L, oL)] ⟨X, p, loose, mean, mg, mb, T⟩ F.keep (by
    intro q hq
    obtain rfl := List.mem_singleton.mp hq
    exact hL0)
  have hFF : s.heap.FunFrames B [env] := ⟨by rw [hk]; decide, ⟨L, oL, he, hBn (L, oL) (.head _), hoL, fun vs q => by rw [hdL] at q; cases q⟩, trivial⟩
  refine fell_ok C hlim _ _ _ [env] s Q E B rfl ⟨BX, BT⟩ hBz hdp hun hBk hFF fun h' tk' k up => ?_
  have hkeep : ∀ b o, b ≠ L → s.heap.get? b = some o → h'.get? b = some o := fun b o h1 q => k b o (hBr b o (by
    intro p hp
    obtain rfl := List.mem_singleton.mp hp
    exact h1) q)
  have hst : h₀.StaysIn h' := fun b o q => hkeep b o (fun e => by rw [e, hL0] at q; cases q) (F.keep b o q)
  exact hQ h' tk' (F.of_stays hst up) fun q hq => ⟨hkeep _ _ (N q hq).2.1 (N q hq).1, (N q hq).2⟩
end
section
variable {w : World} {E : Value → Shared → Prop} {s : Shared} {h₀ : Heap} {L src P tl : Addr} {m : Str → Option Value} {fr : Env} {dp un : Nat} {gd : Option (List Code)} {p : Program} {loose : List Str} {mean : ExcName → Option Value} {mg mb : Str → Option Value} {rest : List (Addr × Obj)} {oS : Obj}
theorem after_own {B h h' : Heap} {oL oF' oS' tb : Obj} (F : Fr h₀ L h m) (hoL : h.get? L = some oL) (N : News h₀ L h ((src, oS) :: (P, tb) :: rest)) (n1 : ∀ p ∈ rest, p.1 ≠ src) (n2 : ∀ p ∈ rest, p.1 ≠ P)
    (hBr : ∀ b o, (∀ p ∈ [(src, oS), (L, oL), (P, tb)], b ≠ p.1) → h.get? b = some o → B.get? b = some o) (k : B.StaysIn h') (hs : SlotsOf oL oF') (h1 : h'.get? L = some oF') (h2 : h'.get? src = some oS') (hg : GrownAt P h') : Fr h₀ L h' m ∧ ∃ ps, News h₀ L h' ((src, oS') :: (P, tabObj ps) :: rest) := by
  obtain ⟨ps, hg⟩ := hg
  have hkeep : ∀ b o, b ≠ src → b ≠ L → b ≠ P → h.get? b = some o → h'.get? b = some o := fun b o g1 g2 g3 q => k b o (hBr b o (by
    intro p hp
    simp only [List.mem_cons, List.not_mem_nil, or_false] at hp
    rcases hp with rfl | rfl | rfl
    · exact g1
    · exact g2
    · exact g3) q)
  have a0 : h₀.get? L = none := new_above (fun _ _ e => e) F
  have a1 := (N _ (.head _)).2.2
  have a2 := (N _ (.tail _ (.head _))).2.2
  obtain ⟨o, es, ep, ho, hd, hr⟩ := id F.ns
  rw [hoL] at ho
  obtain rfl := Option.some.inj ho
  obtain ⟨sl, rfl⟩ := hs
  refine ⟨⟨⟨_, es, ep, h1, hd, hr⟩, fun b o q => hkeep b o (fun e => by rw [e, a1] at q; cases q) (fun e => by rw [e, a0] at q; cases q) (fun e => by rw [e, a2] at q; cases q) (F.keep b o q), F.above⟩, ps, fun q hq => ?_⟩
  rcases List.mem_cons.mp hq with rfl | hq
  · exact ⟨h2, (N _ (.head _)).2⟩
  rcases List.mem_cons.mp hq with rfl | hq
  · exact ⟨hg, (N _ (.tail _ (.head _))).2⟩
  · have n := N q (.tail _ (.tail _ hq))
    exact ⟨hkeep _ _ (n1 q hq) n.2.1 (n2 q hq) n.1, n.2⟩
theorem own_base (F : Fr h₀ L s.heap m) {oL tb : Obj} (N : News h₀ L s.heap ((src, oS) :: (P, tb) :: rest)) (X : (kheap.heap_1 w.params).In h₀) (T : Top p loose mean mg mb h₀) {c : Addr} (C : CodeHd h₀ c P) (hoL : s.heap.get? L = some oL) :
    ∃ B, B.StaysIn s.heap ∧ B.objs.size ≤ s.heap.objs.size ∧ Amb w B ∧ CodeHd B c P ∧ (∀ p ∈ [(src, oS), (L, oL), (P, tb)], s.heap.get? p.1 = some p.2 ∧ B.get? p.1 = none) ∧ (∀ b o, (∀ p ∈ [(src, oS), (L, oL), (P, tb)], b ≠ p.1) → s.heap.get? b = some o → B.get? b = some o) := by
  have hn : ∀ q ∈ [(src, oS), (L, oL), (P, tb)], s.heap.get? q.1 = some q.2 ∧ h₀.get? q.1 = none := by
    intro q hq
    simp only [List.mem_cons, List.not_mem_nil, or_false] at hq
    rcases hq with rfl | rfl | rfl
    · exact ⟨(N _ (.head _)).1, (N _ (.head _)).2.2⟩
    · exact ⟨hoL, new_above (fun _ _ e => e) F⟩
    · exact ⟨(N _ (.tail _ (.head _))).1, (N _ (.tail _ (.head _))).2.2⟩
  obtain ⟨B, b1, b2, b3, b4, b5, b6⟩ := base_front [(src, oS), (L, oL), (P, tb)] ⟨X, p, loose, mean, mg, mb, T⟩ F.keep fun q hq => (hn q hq).2
  exact ⟨B, b1, b2, ⟨b3, b4⟩, C.keeps fun b o q => b6 b o (fun p hp e => by have := (hn p hp).2; rw [← e, q] at this; cases this) (F.keep b o q), fun q hq => ⟨(hn q hq).1, b5 q hq⟩, b6⟩
theorem use_refused {b : Array UInt8} {t : Tok} {ks : List Int} {ts : List (Str × List Int)} {rs : List DRow} {us : List Value} {c : Nat} {Q : Value → Shared → Prop} (hk : KBw.bInts b = ks) (hF : FontOk ks ts rs) (hts : TsOk ts) (hul : us.length = ts.length) (hm : (tl, listOf us.toArray c) ∈ rest)
    (F : Fr h₀ L s.heap m) (N : News h₀ L s.heap ((src, oS) :: ((276 : Addr), tabObj #[]) :: rest)) (n1 : ∀ p ∈ rest, p.1 ≠ src) (n2 : ∀ p ∈ rest, p.1 ≠ 276) (n3 : @Ne Nat src 276) (hSO : SrcO oS) (C : CodeHd h₀ 278 276) (X : (kheap.heap_1 w.params).In h₀) (T : Top p loose mean mg mb h₀) (hfr : fr.frame = some L) (hfk : fr.scope.kind = .function) (hdp : dp + 1 + 500 ≤ 900) (hun : un + 3 + 20 * 430 ≤ 9000)
    (hQ : ∀ ps oS' h' tk', Fr h₀ L h' m → News h₀ L h' ((src, oS') :: ((276 : Addr), tabObj ps) :: rest) → SrcO oS' → Q (.bool true) { s with heap := h', toks := tk' }) :
    wpAny (model PySem.Challenge.rw_on0235_01.row.prog w) ((At dp un gd []).deeper fr) (call (.ref 279) [.ref src, .bytes b t, .ref tl]) Q E s := by
  obtain ⟨oL, es, ep, hoL, hdL, hrL⟩ := id F.ns
  obtain ⟨B, b1, b2, b3, b4, b5, b6⟩ := own_base F N X T C hoL
  have q1 := (N _ (.head _)).2.1
  have q2 := (N _ (.tail _ (.head _))).2.1
  have q3 := N _ (.tail _ (.tail _ hm))
  refine refused_ok _ _ _ s Q E B b3 b2 b1 b4 b5 hSO hfr hfk (fun vs q => by rw [hdL] at q; cases q) q1 n3 (Ne.symm q2) hk hF hts hul ⟨_, b6 _ _ (fun p hp => ?_) q3.1, rfl, c, rfl⟩ hdp hun fun h' tk' oF' oS' hs k h1 h2 hS hg => ?_
  · simp only [List.mem_cons, List.not_mem_nil, or_false] at hp
    rcases hp with rfl | rfl | rfl
    · exact n1 _ hm
    · exact q3.2.1
    · exact n2 _ hm
  · obtain ⟨F', ps, N'⟩ := after_own F hoL N n1 n2 b6 k hs h1 h2 hg
    exact hQ ps oS' h' tk' F' N' hS
theorem use_words {Q : Value → Shared → Prop} (F : Fr h₀ L s.heap m) (N : News h₀ L s.heap ((src, oS) :: ((281 : Addr), tabObj #[]) :: rest)) (n1 : ∀ p ∈ rest, p.1 ≠ src) (n2 : ∀ p ∈ rest, p.1 ≠ 281) (n3 : @Ne Nat src 281) (hSO : SrcO oS) (C : CodeHd h₀ 283 281) (X : (kheap.heap_1 w.params).In h₀) (T : Top p loose mean mg mb h₀) (hfr : fr.frame = some L) (hfk : fr.scope.kind = .function) (hdp : dp + 1 + 500 ≤ 900) (hun : un + 3 + 20 * 430 ≤ 9000)
    (hQ : ∀ ps oS' h' tk', Fr h₀ L h' m → News h₀ L h' ((src, oS') :: ((281 : Addr), tabObj ps) :: rest) → SrcO oS' → Q (.bool true) { s with heap := h', toks := tk' }) :
    wpAny (model PySem.Challenge.rw_on0235_01.row.prog w) ((At dp un gd []).deeper fr) (call (.ref 284) [.ref src]) Q E s := by
  obtain ⟨oL, es, ep, hoL, hdL, hrL⟩ := id F.ns
  obtain ⟨B, b1, b2, b3, b4, b5, b6⟩ := own_base F N X T C hoL
  refine words_ok _ _ _ s Q E B b3 b2 b1 b4 b5 hSO hfr hfk (fun vs q => by rw [hdL] at q; cases q) (N _ (.head _)).2.1 n3 (Ne.symm (N _ (.tail _ (.head _))).2.1) hdp hun fun h' tk' oF' oS' hs k h1 h2 hS hg => ?_
  obtain ⟨F', ps, N'⟩ := after_own F hoL N n1 n2 b6 k hs h1 h2 hg
  exact hQ ps oS' h' tk' F' N' hS
end
section
variable {α : Type} {a b c d e f g i j k u v : α} {l m n : List α}
theorem re1 : ∀ p ∈ b :: c :: a :: d :: e :: f :: l, p ∈ a :: l ++ [b, c, d, e, f] := fun p hp => by
  simp only [List.mem_cons, List.mem_append, List.not_mem_nil, or_false] at hp ⊢
  rcases hp with h | h | h | h | h | h | h <;> simp [h]
theorem re2 : ∀ p ∈ d :: b :: c :: e :: f :: g :: i :: (l ++ m), p ∈ a :: d :: l ++ (b :: c :: e :: f :: g :: i :: m) := fun p hp => by
  simp only [List.mem_cons, List.mem_append, List.not_mem_nil, or_false] at hp ⊢
  rcases hp with h | h | h | h | h | h | h | h | h <;> simp [h]
theorem re3 : ∀ p ∈ a :: b :: c :: d :: l, p ∈ d :: u :: v :: a :: b :: c :: l := fun p hp => by
  simp only [List.mem_cons] at hp ⊢
  rcases hp with h | h | h | h | h <;> simp [h]
theorem re4 : ∀ p ∈ e :: a :: b :: c :: d :: f :: g :: i :: j :: k :: l, p ∈ a :: b :: c :: u :: (d :: f :: e :: g :: i :: j :: k :: l ++ m) := fun p hp => by
  simp only [List.mem_cons, List.mem_append, List.cons_append] at hp ⊢
  rcases hp with h | h | h | h | h | h | h | h | h | h | h <;> simp [h]
theorem re5 : ∀ p ∈ k :: f :: j :: i :: a :: b :: c :: d :: e :: g :: l, p ∈ a :: b :: c :: d :: e :: f :: g :: i :: j :: k :: l := fun p hp => by
  simp only [List.mem_cons] at hp ⊢
  rcases hp with h | h | h | h | h | h | h | h | h | h | h <;> simp [h]
theorem re6 : ∀ p ∈ [a, b, c, d, u, v], p ∈ u :: v :: e :: f :: g :: i :: (a :: b :: c :: d :: l) := fun p hp => by
  simp only [List.mem_cons, List.not_mem_nil, or_false] at hp ⊢
  rcases hp with h | h | h | h | h | h <;> simp [h]
theorem re7 : ∀ p ∈ a :: b :: c :: d :: l, p ∈ u :: v :: d :: a :: b :: c :: l := fun p hp => by
  simp only [List.mem_cons] at hp ⊢
  rcases hp with h | h | h | h | h <;> simp [h]
theorem re8 : ∀ p ∈ [a, b, c], p ∈ d :: a :: b :: c :: l := fun p hp => .tail _ (by
  show p ∈ a :: b :: c :: l
  simp only [List.mem_cons, List.not_mem_nil, or_false] at hp
  rcases hp with h | h | h <;> simp [h])
theorem re9 : ∀ p ∈ a :: b :: c :: l, p ∈ a :: c :: b :: l := fun p hp => by
  simp only [List.mem_cons] at hp ⊢
  rcases hp with h | h | h | h <;> simp [h]
end
-- LW
theorem word_LW_1 : True := by
  (k_with "call ref" => (k_here; (with_reducible show wpAny _ _ (call (Value.ref 219) _) _ _ _); refine StopLoop.mk ?_))
  trivial
theorem word_LW_2 : True := by
  (k_with "call ref" => (k_here; (with_reducible show wpAny _ _ (call (Value.ref 257) _) _ _ _); refine StopLoop.mk ?_))
  trivial
theorem word_LW_3 : True := by
  (k_with "call ref" => (k_here; (with_reducible show wpAny _ _ (call (Value.ref 262) _) _ _ _); refine StopLoop.mk ?_))
  trivial
theorem word_LW_4 : True := by
  (k_with "eval ListComp" => (k_here; (with_reducible show wpAny _ _ (eval (Expr.ListComp (Expr.Tuple _ _ _) [_] _ _) _) _ _ _); refine StopLoop.mk ?_))
  trivial
theorem word_LW_5 : True := by
  (k_with "eval ListComp" => (k_here; (with_reducible show wpAny _ _ (eval (Expr.ListComp (Expr.Name _ _) [_] _ _) _) _ _ _); refine StopLoop.mk ?_))
  trivial
theorem word_LW_6 : True := by
  (k_with "compareOp NotEq ref ref" => (k_here; (with_reducible show wpAny _ _ (compareOp CmpOp.NotEq (Value.ref _) (Value.ref _)) _ _ _); refine StopLoop.mk ?_))
  trivial
def fin.tw8977769920653351613 : Unit := ()
def fin.tw12245481302400389212 : Unit := ()
def fin.tw2692977207878642823 : Unit := ()
def fin.tw11112386831996348380 : Unit := ()
def fin.tw21181905185113249 : Unit := ()
def fin.tw11033009344397558808 : Unit := ()
def fin.tw6062834198873617280 : Unit := ()
def fin.tw9402104104316801022 : Unit := ()
def fin.tw7911910378639958867 : Unit := ()
def fin.tw4006162968426922143 : Unit := ()
def fin.tw5805905742469029177 : Unit := ()
def fin.tw4898026214463823928 : Unit := ()
def fin.tw13077057902897974858 : Unit := ()
def fin.tw10829458402184033698 : Unit := ()
def fin.tw1012361349325877821 : Unit := ()
def fin.tw14568449535678555946 : Unit := ()
def fin.tw5073790198343104882 : Unit := ()
def fin.tw3004984022683251337 : Unit := ()
def fin.tw10783113805558436046 : Unit := ()
def fin.tw111200028466390044 : Unit := ()
def fin.tw7282745182861764756 : Unit := ()
def fin.tw16175276709679454751 : Unit := ()
def fin.tw251868834278440796 : Unit := ()
def fin.tw16237762584071213788 : Unit := ()
def fin.tw6515953530934532768 : Unit := ()
def fin.tw18195182924450695511 : Unit := ()
def fin.tw4326780796455107134 : Unit := ()
def fin.tw13066358836101814915 : Unit := ()
def fin.tw5320702786494000081 : Unit := ()
def fin.tw8643116662766533202 : Unit := ()
def fin.tw10925335251469727208 : Unit := ()
def fin.tw17662344363894024548 : Unit := ()
def fin.tw17717364068325071970 : Unit := ()
def fin.tw12409915417874342407 : Unit := ()
def fin.tw14365839007642131201 : Unit := ()
def fin.tw12550770813317053977 : Unit := ()
def fin.tw8589540210433840191 : Unit := ()
def fin.tw744865244796547220 : Unit := ()
def fin.tw12869217540446652890 : Unit := ()
def fin.tw13870153662132920491 : Unit := ()
def fin.tw3343445320678177929 : Unit := ()
def fin.tw11953781441336167498 : Unit := ()
def fin.tw13948639791554836966 : Unit := ()
def fin.tw9806666330580929782 : Unit := ()
def fin.tw3975253019698251321 : Unit := ()
def fin.tw2656788454239962097 : Unit := ()
def fin.tw16196181902256332553 : Unit := ()
def fin.tw4209717502836232480 : Unit := ()
def fin.tw10852849658779182186 : Unit := ()
def fin.tw14347400895652799225 : Unit := ()
def fin.tw13516622038369049944 : Unit := ()
def fin.tw876206183137641144 : Unit := ()
def fin.tw3125960719983571848 : Unit := ()
def fin.tw17896612028031085017 : Unit := ()
def fin.tw3459265974087741279 : Unit := ()
def fin.tw4928979718650693569 : Unit := ()
def fin.tw4868334931027891882 : Unit := ()
def fin.tw4769821431679368130 : Unit := ()
def fin.tw17362494058136835672 : Unit := ()
def fin.tw5734618986648460908 : Unit := ()
def fin.tw2415902012162501839 : Unit := ()
def fin.tw14814673180317915700 : Unit := ()
def fin.tw12962497063298326498 : Unit := ()
def fin.tw4924110625330727750 : Unit := ()
def fin.tw4719063310657182621 : Unit := ()
def fin.tw8559517257967667466 : Unit := ()
def fin.tw10196768644732416780 : Unit := ()
def fin.tw11336253725339858928 : Unit := ()
def fin.tw12135189313929291683 : Unit := ()
def fin.tw4640724917100965312 : Unit := ()
def fin.tw9113340658982188547 : Unit := ()
def fin.tw10891054232620793217 : Unit := ()
def fin.tw10936777179133785780 : Unit := ()
def fin.tw11079828417688620724 : Unit := ()
def fin.tw13929302177132474383 : Unit := ()
def fin.tw16530489862217454893 : Unit := ()
def fin.tw15533503492667675913 : Unit := ()
def fin.tw12237877928780879103 : Unit := ()
def fin.tw12284014389350100970 : Unit := ()
def fin.tw15201286185872193147 : Unit := ()
def fin.tw8656503046869711584 : Unit := ()
def fin.tw16510490156224867327 : Unit := ()
def fin.tw6956187926921108005 : Unit := ()
def fin.tw3105451386036433885 : Unit := ()
def fin.tw9218923581257491847 : Unit := ()
def fin.tw7613857476909055813 : Unit := ()
def fin.tw14139026862911339306 : Unit := ()
def fin.tw12696600883282566439 : Unit := ()
def fin.tw13790858721211988464 : Unit := ()
def fin.tw17861066769153400444 : Unit := ()
def fin.tw12567809125941998234 : Unit := ()
def fin.tw17628183408451194143 : Unit := ()
def fin.tw11587955951900863698 : Unit := ()
def fin.tw10895054467252067526 : Unit := ()
def fin.tw4950403968356008110 : Unit := ()
def fin.tw6766580051018981234 : Unit := ()
def fin.tw10329872625359487480 : Unit := ()
def fin.tw1613116972386908190 : Unit := ()
def fin.tw15149952090015108872 : Unit := ()
def fin.tw3683778510129048087 : Unit := ()
def fin.tw999798209818781672 : Unit := ()
def fin.tw8416529770105884409 : Unit := ()
def fin.tw10391319463526535247 : Unit := ()
def fin.tw17204297501091165112 : Unit := ()
def fin.tw16229209127682248589 : Unit := ()
def fin.tw8590288500278120515 : Unit := ()
def fin.tw428092273266315144 : Unit := ()
def fin.tw1921391257341544841 : Unit := ()
def fin.tw6707113841082798463 : Unit := ()
def fin.tw544173102793226557 : Unit := ()
set_option Elab.async true in
set_option maxHeartbeats 16000000 in
theorem fin : PySem.Challenge.rw_on0235_01.Holds := by
  (w_on; o_law; o_head (kmHook kheap.heap_1 [2, 3, 15, 22, 24, 25, 27, 28, 29, 30, 31, 32, 35, 42, 43, 44, 47, 49, 50, 52, 53, 54, 56, 57, 59, 60, 61, 63, 64, 66, 67, 68, 70, 71, 73, 74, 75, 77, 78, 80, 81, 82, 84, 85, 87, 88, 89, 91, 92, 94, 95, 96, 98, 99, 101, 102, 103, 105, 106, 108, 109, 110, 113, 114, 122, 124, 125, 127, 128, 129, 131, 132, 134, 135, 136, 138, 139, 141, 142, 143, 145, 146, 148, 149, 150, 151, 152, 153, 154, 164, 166, 167, 169, 170, 171, 172, 173, 174, 175, 178, 180, 181, 183, 184, 185, 187, 188, 190, 191, 192, 194, 195, 197, 198, 199, 201, 202, 204, 205, 206, 208, 209, 211, 212, 213, 215, 216, 218, 219, 220, 222, 223, 225, 226, 227, 229, 230, 232, 233, 234, 237, 238, 239, 241, 242, 244, 245, 246, 248, 249, 251, 252, 253, 256, 257, 258, 261, 262, 263, 265, 266, 268, 269, 270, 273, 274, 275, 278, 279, 280, 283, 284, 285, 287, 288, 290, 291, 292, 295, 296] (fun _ => by kernel_rfl) [281, 276, 293]); (case hw => w_witness2))
  k_go0
  rw [show callerA = At 301 4 (some []) [] from rfl]
  (all_goals try k_extra "my kf")
  rename_i w s₀ s₁ mg mb _ _ fa oo pm doc ho hg X V _ B TE TW hcd ns hs hlay0 hL1 hr1 hl2 wl5 wl4 sc vsS wl1 hL ra w1 r0 hI hr hc1 hc0 hD h1 tk1 oR dR X0 KX T K F0 cH1 cH2 N0 l0
  have hz : vsS.length ≤ 63 := by have := hI.length; omega
  clear hL ra w1 r0 hr hc1 hc0 hD K
  k_steps
  unfold StopLoop
  refine use_pool (lifted.at fun o e => F0.keep _ _ e) hI hz F0 N0 KX T (by decide) (by decide) ?_
  intro src oS h2 tk2 F1 N1 SO1 ns1
  (try k_extra "my kf")
  have a1 : @Ne Nat src _ := ns1 _ (.head _)
  have a2 : @Ne Nat src 281 := ns1 _ (.tail _ (.head _))
  have a3 : @Ne Nat src 276 := ns1 _ (.tail _ (.tail _ (.head _)))
  have a4 : @Ne Nat src 293 := ns1 _ (.tail _ (.tail _ (.tail _ (.head _))))
  clear F0 N0 ns1
  k_steps
  unfold StopLoop
  refine use_begun (by k_asm) (by k_asm) (by k_updF) SO1 KX T (by decide) (by decide) ?_
  intro tl vs c ps ts oS2 h3 tk3 F2 N2 SO2 hT hts hpl hne
  (try k_extra "my kf")
  have b0 : ∀ p ∈ (tl, listOf vs.toArray c) :: ps, p.1 ≠ src := fun p hp => hne p hp _ (.head _)
  have b1 : ∀ p ∈ (tl, listOf vs.toArray c) :: ps, p.1 ≠ s₁.heap.objs.size + 1 := fun p hp => hne p hp _ (.tail _ (.head _))
  have b2 : ∀ p ∈ (tl, listOf vs.toArray c) :: ps, p.1 ≠ 281 := fun p hp => hne p hp _ (.tail _ (.tail _ (.head _)))
  have b3 : ∀ p ∈ (tl, listOf vs.toArray c) :: ps, p.1 ≠ 276 := fun p hp => hne p hp _ (.tail _ (.tail _ (.tail _ (.head _))))
  have b4 : ∀ p ∈ (tl, listOf vs.toArray c) :: ps, p.1 ≠ 293 := fun p hp => hne p hp _ (.tail _ (.tail _ (.tail _ (.tail _ (.head _)))))
  clear hne
  have N3 := cb_drop (news := (src, oS2) :: (s₁.heap.objs.size + 1, oR) :: (tl, listOf vs.toArray c) :: (281, tabObj #[]) :: (276, tabObj #[]) :: (293, tabObj #[]) :: ps) N2 re1
  clear N2
  k_steps
  unfold StopLoop
  (with_reducible rename News _ _ _ _ => N4)
  refine use_font hT hts (by k_asm) N4 (fun p hp => ⟨?_, b0 p hp⟩) (.head ?_) SO2 KX T (by decide) (by decide) ?_
  · rcases List.mem_cons.mp hp with rfl | hp
    · exact .tail _ (.tail _ (.head _))
    · exact .tail _ (.tail _ (.tail _ (.tail _ (.tail _ (.tail _ hp)))))
  · intro p hp
    rcases List.mem_cons.mp hp with rfl | hp
    · exact Ne.symm a1
    rcases List.mem_cons.mp hp with rfl | hp
    · exact b0 _ (.head _)
    rcases List.mem_cons.mp hp with rfl | hp
    · exact Ne.symm a2
    rcases List.mem_cons.mp hp with rfl | hp
    · exact Ne.symm a3
    rcases List.mem_cons.mp hp with rfl | hp
    · exact Ne.symm a4
    · exact b0 _ (.tail _ hp)
  intro l d L2 b t us c1 c2 qs rs ks oS3 h5 tk5 F5 N5 SO3 hk hFI hR hnf
  (try k_extra "my kf")
  have hF := font_ok hFI hts
  have hu4 : us.length ≤ 4 := by rw [tups_len hR, hF.rlen]; exact hts.1
  have top := hF.top
  have dir := hF.dir
  clear N4
  k_steps
  unfold StopLoop
  have d0 : ∀ q ∈ (src, oS2) :: (s₁.heap.objs.size + 1, oR) :: (tl, listOf vs.toArray c) :: ((281 : Addr), tabObj #[]) :: (276, tabObj #[]) :: (293, tabObj #[]) :: ps, d ≠ q.1 := fun q hq => hnf _ (.tail _ (.head _)) q hq
  have d1 : ∀ p ∈ qs, ∀ q ∈ (src, oS2) :: (s₁.heap.objs.size + 1, oR) :: (tl, listOf vs.toArray c) :: ((281 : Addr), tabObj #[]) :: (276, tabObj #[]) :: (293, tabObj #[]) :: ps, p.1 ≠ q.1 := fun p hp q hq => hnf _ (.tail _ (.tail _ hp)) q hq
  clear hnf
  (with_reducible rename News _ _ _ _ => N6)
  have N7 := cb_drop (news := (d, listOf us.toArray c2) :: (src, oS3) :: (s₁.heap.objs.size + 1, oR) :: (tl, listOf vs.toArray c) :: (281, tabObj #[]) :: (276, tabObj #[]) :: (293, tabObj #[]) :: (qs ++ ps)) N6 re2
  clear N6
  refine LCg.ListComp_U (F₀ := by k_asm) (by with_unfolding_all rfl) (by decide) (by rfl) (by decide) (by rfl) ?_
  k_steps
  unfold StopLoop
  rename_i l9 xs9 k9 rest9 h9 tk9 F9 N9 xl9 xr9 lo9 lL9 ln9 nr9
  have xl : xs9.length = ts.length := by rw [xl9, hF.num]; rfl
  obtain ⟨led, hled, N10⟩ : ∃ led, led = _ ∧ News _ _ _ led := ⟨_, rfl, N9⟩
  have hml : (l9, listOf xs9.toArray k9) ∈ led := by rw [hled]; exact .head _
  have sub9 : ∀ p ∈ rest9, p ∈ led := fun p hp => by rw [hled]; (repeat (first | exact List.mem_append_right _ hp | refine List.Mem.tail _ ?_))
  have ceq9 : (s₁.heap.objs.size + 1, oR) ∈ led := by rw [hled]; exact .tail _ (.tail _ (.tail _ (.head _)))
  refine LCg.CompSrc.ledger rfl F9 N10 hml (by rw [sizeLine_eq, List.size_toArray, xl]; have := hts.1; omega) ?_
  intro g'
  refine comp_ind (fun i ys news => ∃ X, news = X ++ led ∧ TupsAre s₁.heap.objs.size X ys (rs.take i)) ?_ ?_ _ 0 [] _ (Nat.zero_add _) ⟨[], rfl, trivial⟩
  · intro i ys news v I oI C oC D m₂ h tk E' hi hZ14 hv hC hx F N off ne
    (try k_extra "my kf")
    obtain ⟨X, rfl, hX⟩ := hZ14
    obtain ⟨x, dx, k1, k2, k3, k4, t1, t2, t3, t4, rfl, mx, mdx⟩ := xr9 i v (by simpa using hv)
    have N2 := news_put (news_put N (.tail _ (.tail _ (.tail _ (List.mem_append_right _ (sub9 _ mdx)))))) (.tail _ (.tail _ (.tail _ (.tail _ (List.mem_append_right _ (sub9 _ mx))))))
    clear N N9 N10
    k_steps
    (with_reducible rename News _ _ _ _ => N8)
    (with_reducible rename Fr _ _ _ _ => F8)
    rename_i T9 hT9 lT9
    have hi : i < ts.length := by rw [← xl]; simpa using hi
    obtain ⟨lx, ldx, lI, lC, lD, lR⟩ : @LT.lt Nat _ x T9 ∧ @LT.lt Nat _ dx T9 ∧ @LT.lt Nat _ I T9 ∧ @LT.lt Nat _ C T9 ∧ @LT.lt Nat _ D T9 ∧ AllLt T9 (X ++ led) := lT9
    have lT : @LT.lt Nat _ s₁.heap.objs.size T9 := Nat.lt_of_succ_lt (allLt_mem lR (s₁.heap.objs.size + 1, oR) (List.mem_append_right _ ceq9))
    refine LCg.CompEnd.intro (by k_asm) N8 ((T9, tupV [.str (rowOf ks i).tag t1, .int (rowOf ks i).sum t2, .int (rowOf ks i).place t3, .int (rowOf ks i).size t4]) :: (X ++ led)) ?_ ⟨⟨Nat.ne_of_gt lI, Nat.ne_of_gt lC, Nat.ne_of_gt lD⟩, off⟩ (.inr ⟨_, .tail _ (List.mem_append_right _ hml), rfl, _, rfl⟩) ⟨(T9, tupV [.str (rowOf ks i).tag t1, .int (rowOf ks i).sum t2, .int (rowOf ks i).place t3, .int (rowOf ks i).size t4]) :: X, rfl, ?_⟩
    · exact re3
    · rw [List.take_add_one, (hF.get hi).1]
      exact tups_snoc ⟨T9, t1, t2, t3, t4, rfl, lT, .head _⟩ (tups_mono (fun _ h => .tail _ h) hX)
  · intro ys news hZ2
    intro D2 h11 tk11 F11 N11 off11
    (try k_extra "my kf")
    obtain ⟨X, rfl, hX⟩ := hZ2
    rw [List.take_of_length_le (by rw [List.size_toArray, xl, hF.rlen]; exact Nat.le_refl _)] at hX
    clear N9 N10
    k_steps
    unfold StopLoop
    refine ne_rows N11 (.head _) (.tail _ (List.mem_append_right _ (by rw [hled]; exact .tail _ (.head _)))) hX (fun p hp => .tail _ (List.mem_append_left _ hp)) hR (fun p hp => .tail _ (List.mem_append_right _ (by rw [hled]; (repeat (first | exact List.mem_append_left _ hp | exact List.mem_append_left _ (List.mem_append_left _ hp) | refine List.Mem.tail _ ?_))))) (rows_kqd hF hk) (by k_extra "my line") ?_
    k_steps
    (with_reducible rename Fr _ _ _ _ => F12)
    have hTb := tab_of hF hts
    refine use_tabs hk (by omega) hTb F12 (cb_drop N11 (news := led) fun p hp => .tail _ (List.mem_append_right _ hp)) KX T (by decide) (by decide) ?_
    intro x dx dk oK kvs kt h13 tk13 F13 N13 hKd hKl hKs hKv nx1 nx2 nx3 nxa
    (try k_extra "my kf")
    clear N11 F12 hX off11
    have e0 : ∀ q ∈ led, x ≠ q.1 ∧ dx ≠ q.1 ∧ dk ≠ q.1 := fun q hq => ⟨nxa _ (.head _) q hq, nxa _ (.tail _ (.head _)) q hq, nxa _ (.tail _ (.tail _ (.head _))) q hq⟩
    have hcell : ∀ p ∈ (x, instObj 152 dx) :: (dx, tabD w dk kt) :: (dk, oK) :: (d, listOf us.toArray c2) :: (src, oS3) :: (tl, listOf vs.toArray c) :: ((281 : Addr), tabObj #[]) :: (276, tabObj #[]) :: (293, tabObj #[]) :: (qs ++ ps), p.1 ≠ s₁.heap.objs.size + 1 := by
      have q1 : @Ne Nat 281 (s₁.heap.objs.size + 1) := by omega
      have q2 : @Ne Nat 276 (s₁.heap.objs.size + 1) := by omega
      have q3 : @Ne Nat 293 (s₁.heap.objs.size + 1) := by omega
      exact allNe (e0 _ ceq9).1 (allNe (e0 _ ceq9).2.1 (allNe (e0 _ ceq9).2.2 (allNe (d0 _ (.tail _ (.head _))) (allNe a1 (allNe (b1 _ (.head _)) (allNe q1 (allNe q2 (allNe q3 fun p hp => (List.mem_append.mp hp).elim (fun hp => d1 _ hp _ (.tail _ (.head _))) fun hp => b1 _ (.tail _ hp)))))))))
    have N14 := cb_drop (news := (s₁.heap.objs.size + 1, oR) :: (x, instObj 152 dx) :: (dx, tabD w dk kt) :: (dk, oK) :: (d, listOf us.toArray c2) :: (src, oS3) :: (tl, listOf vs.toArray c) :: ((281 : Addr), tabObj #[]) :: (276, tabObj #[]) :: (293, tabObj #[]) :: (qs ++ ps)) N13 (by rw [hled]; exact re4)
    clear N13
    have hz4 : kvs.length < 64 := by have q1 := hts.1; have q2 := hF.nn; rw [hKl, q2]; exact Nat.lt_of_le_of_lt q1 (by decide)
    k_steps
    (with_reducible rename Fr _ _ _ _ => F15)
    (with_reducible rename News _ _ _ _ => N15)
    refine use_tags hKd hKs hz4 F15 N15 (sub3 (by k_mem) (by k_mem) (by k_mem)) KX T (by decide) (by decide) ?_
    intro D9 vs9 c9 h16 tk16 F16 N16 S16 o16
    (try k_extra "my kf")
    clear N15 F15
    k_steps
    unfold StopLoop
    refine LCp.ListComp_P (F₀ := F16) (by with_unfolding_all rfl) (by decide) (by rfl) (by decide) (by rfl) (by rfl) (by decide) ?_
    k_steps
    unfold StopLoop
    obtain ⟨led2, hled2, N17⟩ : ∃ led2, led2 = _ ∧ News _ _ _ led2 := ⟨_, rfl, N16⟩
    have hmt : (tl, listOf vs.toArray c) ∈ led2 := by rw [hled2]; k_mem
    have hmd : (D9, listOf vs9.toArray c9) ∈ led2 := by rw [hled2]; k_mem
    have subp : ∀ p ∈ ps, p ∈ led2 := fun p hp => by rw [hled2]; exact .tail _ (.tail _ (.tail _ (.tail _ (.tail _ (.tail _ (.tail _ (.tail _ (.tail _ (.tail _ (.tail _ (List.mem_append_right _ hp)))))))))))
    clear N16
    refine LCp.SrcLP.ledger rfl F16 N17 hmt (by rw [sizeLine_eq, List.size_toArray, tabs_len hT]; have := hts.1; omega) ?_
    intro g2
    refine comp_indP (fun i ys news => news = led2 ∧ StrsAre ys ((ts.take i).map (·.1))) ?_ ?_ _ 0 [] _ (Nat.zero_add _) ⟨rfl, .nil⟩
    · intro i ys news v hi hZ5 hv
      (try k_extra "my kf")
      obtain ⟨rfl, hS⟩ := hZ5
      obtain ⟨a, ha, x9, b9, t9, u9, rfl, hx9, hb9⟩ := tabs_item hT (i := i) (v := v) (by simpa using hv)
      refine ⟨x9, _, _, _, _, rfl, subp _ hx9, rfl, rfl, ?_⟩
      intro I2 oI2 C2 oC2 D2' m₂ h2 tk2 E2 hC2 hx2 hy2 F2 N2 off2 ne2
      (try k_extra "my kf")
      clear N17 F16
      k_steps
      (try k_unfold)
      refine LCg.CompEnd.intro F2 N2 _ (fun p hp => hp) off2 (.inr ⟨_, hmt, rfl, _, rfl⟩) ⟨rfl, ?_⟩
      rw [List.take_add_one, ha, List.map_append]
      exact strsAre_app hS (.cons _ _ .nil)
    intro ys news hZ2
    intro D3 h17 tk17 F17 N18 off17
    (try k_extra "my kf")
    obtain ⟨rfl, hS⟩ := hZ2
    rw [List.take_of_length_le (by rw [List.size_toArray, tabs_len hT]; exact Nat.le_refl _)] at hS
    have hy4 : ys.length ≤ 4 := by rw [hS.length, List.length_map]; exact hts.1
    clear N17 F16
    k_steps
    unfold StopLoop
    (with_reducible rename News _ _ _ _ => N19)
    (with_reducible rename StrsAre _ (sortS (List.map _ ts)) => S19)
    (with_reducible rename Fr _ _ _ _ => F19)
    refine ne_strs_K N19 (.tail _ (.tail _ hmd)) (.head _) S16 S19 (by rw [keys_eq hF hKl hKv]) (sort_strOk (tags_strOk hF hk)) (by k_extra "my line") ?_
    rw [hled2] at N19
    have N20 := cb_drop N19 (fun p hp => .tail _ (.tail _ (.tail _ hp)))
    clear N19 N18 F17 S19 S16 hS hmd o16 off17 subp hmt hled2
    (with_reducible rename Obj.data _ = Data.cell (some (Value.ref x)) => hR9)
    obtain ⟨oR2, dR2, N21⟩ : ∃ oR2, Obj.data oR2 = Data.cell (some (Value.ref x)) ∧ News _ _ _ ((s₁.heap.objs.size + 1, oR2) :: (x, instObj 152 dx) :: (dx, tabD w dk kt) :: (dk, oK) :: (d, listOf us.toArray c2) :: (src, oS3) :: (tl, listOf vs.toArray c) :: (281, tabObj #[]) :: (276, tabObj #[]) :: (293, tabObj #[]) :: (qs ++ ps)) := ⟨_, hR9, N20⟩
    have away : ∀ z : Addr, (∃ oz, (z, oz) ∈ (src, oS2) :: (s₁.heap.objs.size + 1, oR) :: (tl, listOf vs.toArray c) :: ((281 : Addr), tabObj #[]) :: (276, tabObj #[]) :: (293, tabObj #[]) :: ps) → (∃ oz, (z, oz) ∈ led) → @Ne Nat (s₁.heap.objs.size + 1) z → @Ne Nat tl z → (∀ p ∈ ps, p.1 ≠ z) → ∀ p ∈ (s₁.heap.objs.size + 1, oR2) :: (x, instObj 152 dx) :: (dx, tabD w dk kt) :: (dk, oK) :: (d, listOf us.toArray c2) :: (tl, listOf vs.toArray c) :: (qs ++ ps), p.1 ≠ z := fun z ⟨oz, h1⟩ ⟨oy, h2⟩ h3 h4 h5 =>
      allNe h3 (allNe (e0 _ h2).1 (allNe (e0 _ h2).2.1 (allNe (e0 _ h2).2.2 (allNe (d0 _ h1) (allNe h4 fun p hp => (List.mem_append.mp hp).elim (fun hp => d1 p hp _ h1) (h5 p))))))
    have m1 := away src ⟨oS2, .head _⟩ ⟨oS3, by rw [hled]; exact .tail _ (.tail _ (.head _))⟩ (Ne.symm a1) (b0 _ (.head _)) (fun p hp => b0 _ (.tail _ hp))
    have m2 := away 281 ⟨tabObj #[], .tail _ (.tail _ (.tail _ (.head _)))⟩ ⟨tabObj #[], by rw [hled]; exact .tail _ (.tail _ (.tail _ (.tail _ (.tail _ (.head _)))))⟩ (by omega) (b2 _ (.head _)) (fun p hp => b2 _ (.tail _ hp))
    have m3 := away 276 ⟨tabObj #[], .tail _ (.tail _ (.tail _ (.tail _ (.head _))))⟩ ⟨tabObj #[], by rw [hled]; exact .tail _ (.tail _ (.tail _ (.tail _ (.tail _ (.tail _ (.head _))))))⟩ (by omega) (b3 _ (.head _)) (fun p hp => b3 _ (.tail _ hp))
    have m4 := away 293 ⟨tabObj #[], .tail _ (.tail _ (.tail _ (.tail _ (.tail _ (.head _)))))⟩ ⟨tabObj #[], by rw [hled]; exact .tail _ (.tail _ (.tail _ (.tail _ (.tail _ (.tail _ (.tail _ (.head _)))))))⟩ (by omega) (b4 _ (.head _)) (fun p hp => b4 _ (.tail _ hp))
    clear away d0 d1 b0 b1 b2 b3 b4 e0 nxa hcell N20 hR9 dR
    obtain ⟨R0, hR0, N23⟩ : ∃ R0, R0 = (s₁.heap.objs.size + 1, oR2) :: (x, instObj 152 dx) :: (dx, tabD w dk kt) :: (dk, oK) :: (d, listOf us.toArray c2) :: (tl, listOf vs.toArray c) :: (qs ++ ps) ∧ News _ _ _ (((293 : Addr), tabObj #[]) :: (src, oS3) :: (276, tabObj #[]) :: (281, tabObj #[]) :: R0) := ⟨_, rfl, cb_drop N21 re5⟩
    rw [← hR0] at m1 m2 m3 m4
    clear N21
    k_steps
    unfold StopLoop
    clear N23 F19
    have N25 := cb_drop (news := [(s₁.heap.objs.size + 1, oR2), (x, instObj 152 dx), (dx, tabD w dk kt), (dk, oK), (f9, _), (c9, oc9)]) N9 (by rw [hR0]; exact re6)
    obtain ⟨ps9, N9⟩ : ∃ ps9, News _ _ _ ((f9, _) :: (c9, oc9) :: ((293 : Addr), tabObj ps9) :: (src, oS3) :: (276, tabObj #[]) :: (281, tabObj #[]) :: R0) := ⟨_, N9⟩
    have n1 := allNe (o := tabObj ps9) (Ne.symm a4) m1
    have n2 := allNe (o := tabObj ps9) (show @Ne Nat 293 281 by decide) m2
    have n3 := allNe (o := tabObj ps9) (show @Ne Nat 293 276 by decide) m3
    obtain ⟨R9, hR9, N26⟩ : ∃ R9, R9 = ((293 : Addr), tabObj ps9) :: R0 ∧ News _ _ _ ((src, oS3) :: ((276 : Addr), tabObj #[]) :: (281, tabObj #[]) :: R9) := ⟨_, rfl, cb_drop N9 re7⟩
    rw [← hR9] at n1 n2 n3
    rw [hR0] at hR9
    refine use_fell0 (lim := 150) (lam_falls F9 N25 KX T (.tail _ (.tail _ (.tail _ (.tail _ (.head _))))) (codeRec_news N9 (.tail _ (.head _)) (by assumption) (by assumption)) rfl rfl rfl rfl (by decide) (by decide) ?_) (by decide) F9 N26 KX T rfl rfl (by decide) (by decide) ?_
    · intro dp9 un9 gd9 fs9 s9 Q9 E9 Bx9 B9 L9 p9 loose9 mean9 mg9 mb9 X9 T9 F10 N10 hb9 hf9 hdp9 hun9 rt9
      (try k_extra "my kf")
      clear N25 N26 N9 F9
      k_steps
      refine use_fallsE (table_falls (dx := dx) (kt := kt) ⟨X9, _, _, _, _, _, T9⟩ F10.keep (fun p hp => ?_) hKd hKs (key_none hF hts hKl hKv) (by decide +kernel)) F10 X9 T9 hb9 hf9 (by k_extra "my room") (by k_extra "my room") ?_
      · have n := N10 p (re8 p hp)
        exact ⟨n.1, n.2.2⟩
      · k_extra "my fall"
        exact rt9 _ _ _ _ (by assumption) (by assumption)
    · intro h19 tk19 F21 N27
      clear N25 N26 N9 F9 l91 l92 d91 d92 m1 m2 m3 m4 hR0
      k_steps
      unfold StopLoop
      rw [eval_ListComp]
      refine wpAny_comprehension_free (cl := [(Str.ofString "read", s₁.heap.objs.size + 1)]) (use := none) rfl (fun _ => rfl) (by with_unfolding_all rfl) rfl (by decide) ?_
      change wpAny _ _ (eval (Expr.Name _ _) _) _ _ _
      walk1
      refine sift_block (RR := fun acc C => compPost _ _ _ none _ acc C) (vs := vs) (nn := c) (cl := [(Str.ofString "read", s₁.heap.objs.size + 1)]) (fun _ nx _ CL => CL = [(Str.ofString "read", s₁.heap.objs.size + 1)] ∧ nx = (src, oS3) :: ((276 : Addr), tabObj #[]) :: (281, tabObj #[]) :: R9) rfl ?_ F21 N27 ?_ ?_ ?_ ?_
      · intro i nx C CL hZ4
        (try k_extra "my kf")
        obtain ⟨_, rfl⟩ := hZ4
        rw [hR9]; exact .tail _ (.tail _ (.tail _ (.tail _ (.tail _ (.tail _ (.tail _ (.tail _ (.tail _ (.head _)))))))))
      · rw [hR9]; exact .tail _ (.tail _ (.tail _ (.tail _ (.tail _ (.tail _ (.tail _ (.tail _ (.tail _ (.head _)))))))))
      · intro C cells hC Y hY
        have Y' : CellsAre (fun _ => none) [] cells := Y
        cases Y'
        exact ⟨rfl, rfl⟩
      · intro i v nx I oI C oC mC D CL h tk E' hi hv hZ15 hC F N off ne
        (try k_extra "my kf")
        obtain ⟨rfl, rfl⟩ := hZ15
        obtain ⟨a, ha, x9, b9, t9, u9, rfl, hx9, hb9⟩ := tabs_item hT (i := i) (v := v) hv
        obtain ⟨bv, tv, hval, hbv⟩ := key_at hF hts hKl hKv ha
        obtain rfl : bv = b9 := ints_eq (hbv.trans hb9.symm)
        have hin : (valueAt kvs a.1).isSome = true := by rw [hval]; rfl
        have hx := N (x9, tupV [.str a.1 t9, .bytes bv u9]) (.tail _ (.tail _ (.tail _ (.tail _ (.tail _ (.tail _ (show (x9, tupV [.str a.1 t9, .bytes bv u9]) ∈ R9 by rw [hR9]; exact .tail _ (.tail _ (.tail _ (.tail _ (.tail _ (.tail _ (.tail _ (List.mem_append_right _ hx9))))))))))))))
        have hCm := N (C, oC) (.tail _ (.head _))
        refine kcp_assign rfl ⟨_, hx.1, rfl, _, rfl⟩ (by rfl) (by rfl) (by rfl) (hC.ns hCm.1) fun h8 tk8 hn8 hk8 => ?_
        obtain ⟨oC2, heC, hoC2⟩ := LCg.ns_obj hn8
        have F8 := fr_but F hk8 hCm.2.2 hCm.2.1
        have N8 : News (ghostOf s₁.heap [(283, 281), (278, 276), (295, 293)]) s₁.heap.objs.size h8 ((I, oI) :: (C, oC2) :: (D, LCg.lst []) :: (src, oS3) :: ((276 : Addr), tabObj #[]) :: (281, tabObj #[]) :: R9) := by
          intro p hp
          have keep : ∀ q ∈ (I, oI) :: (C, oC) :: (D, LCg.lst []) :: (src, oS3) :: ((276 : Addr), tabObj #[]) :: (281, tabObj #[]) :: R9, q.1 ≠ C → h8.get? q.1 = some q.2 ∧ _ := fun q hq hne => ⟨hk8 _ _ hne (N q hq).1, (N q hq).2⟩
          rcases List.mem_cons.mp hp with rfl | hp
          · exact keep _ (.head _) ne.1
          rcases List.mem_cons.mp hp with rfl | hp
          · exact ⟨heC, hCm.2⟩
          rcases List.mem_cons.mp hp with rfl | hp
          · exact keep _ (.tail _ (.tail _ (.head _))) (Ne.symm ne.2.2)
          · exact keep p (.tail _ (.tail _ (.tail _ hp))) (off.mem p hp).2.1
        rw [hR9] at N8
        obtain ⟨mC2, hC2, hxt, hxh⟩ : ∃ mC2, LCg.NsObj oC2 mC2 ∧ mC2 (Str.ofString "tag") = some (.str a.1 t9) ∧ mC2 (Str.ofString "held") = some (.bytes bv u9) := ⟨_, hoC2, rfl, rfl⟩
        clear F N F21 N27 hk8 hn8 hC hoC2
        k_steps
        refine use_front (table_ok hKd hKs hval) F8 N8 (sub3 (by k_mem) (by k_mem) (by k_mem)) KX T (by decide) (by decide) ?_
        intro v40 h40 tk40 F40 N40 hv40
        (try k_extra "my kf")
        obtain rfl := hv40
        clear F8 N8
        k_steps
        refine use_front (has_ok (bb := true) hKd hKs hin) F40 N40 (sub3 (by k_mem) (by k_mem) (by k_mem)) KX T (by decide) (by decide) ?_
        intro v41 h41 tk41 F41 N41 hv41
        (try k_extra "my kf")
        obtain rfl := hv41
        clear F40 N40
        rw [← hR9] at N41
        k_steps
        (try k_unfold); (try dsimp only)
        exact ⟨rfl, h41, _, oC2, mC2, _, rfl, F41, hC2, N41, off, ⟨rfl, rfl⟩⟩
      · intro D C CL h tk m' nx F N off hn hC0 hD0 hCL hDL hCD offC hZ17
        (try k_extra "my kf")
        obtain ⟨_, rfl⟩ := hZ17
        refine ⟨m', hn, fun h'' hs'' => ?_⟩
        have F2 : Fr _ _ h'' _ := F.change hs'' hCL hC0
        have N2 : News _ _ h'' ((D, LCg.lst []) :: (src, oS3) :: ((276 : Addr), tabObj #[]) :: (281, tabObj #[]) :: R9) := fun p hp => by
          refine ⟨(hs''.2 _ ?_).trans (N p hp).1, (N p hp).2⟩
          rcases List.mem_cons.mp hp with rfl | hm
          · exact Ne.symm hCD
          · exact offC p hm
        clear F N F21 N27 offC hs'' hn
        k_steps
        unfold StopLoop
        (with_reducible rename News _ _ _ _ => N28)
        (with_reducible rename Fr _ _ _ _ => F28)
        refine ne_strs_K N28 (.tail _ (.head _)) (.head _) .nil .nil rfl strOkL_nil (by k_extra "my line") ?_
        have N29 := cb_drop (news := (src, oS3) :: ((276 : Addr), tabObj #[]) :: (281, tabObj #[]) :: R9) N28 (fun p hp => .tail _ (.tail _ hp))
        rw [hR9] at N29
        clear N28
        k_steps
        refine use_front (has_ok (bb := false) hKd hKs (by rw [key_none hF hts hKl hKv]; rfl)) F28 N29 (sub3 (by k_mem) (by k_mem) (by k_mem)) KX T (by decide) (by decide) ?_
        intro v30 h30 tk30 F30 N30 hv30
        (try k_extra "my kf")
        obtain rfl := hv30
        clear F28 N29
        rw [← hR9] at N30
        k_steps
        refine use_read (sums_gives (tl := d) (c := c2) hk hF hts hR) F30 N30 (fun p hp => ?_) (.head (allNe (Ne.symm a3) (allNe (Ne.symm a2) n1))) SO3 KX T (by decide) (by decide) ?_
        · have hp' : p ∈ R9 := by
            rw [hR9]
            rcases List.mem_cons.mp hp with rfl | hp
            · exact .tail _ (.tail _ (.tail _ (.tail _ (.tail _ (.head _)))))
            · exact .tail _ (.tail _ (.tail _ (.tail _ (.tail _ (.tail _ (.tail _ (List.mem_append_left _ hp)))))))
          exact ⟨.tail _ (.tail _ (.tail _ hp')), n1 p hp'⟩
        intro v31 oS4 h31 tk31 F31 N31 SO4 hv31
        (try k_extra "my kf")
        obtain rfl := hv31
        clear F30 N30
        k_steps
        refine use_refused hk hF hts (by rw [tups_len hR, hF.rlen]) (.tail _ (show (d, listOf us.toArray c2) ∈ R9 by rw [hR9]; exact .tail _ (.tail _ (.tail _ (.tail _ (.tail _ (.head _))))))) F31 N31 (allNe (Ne.symm a2) n1) (allNe (by decide) n3) a3 SO4 cH2 KX T rfl rfl (by decide) (by decide) ?_
        intro ps5 oS5 h32 tk32 F32 N32 SO5
        (try k_extra "my kf")
        clear F31 N31
        have N35 := cb_drop (news := (src, oS5) :: ((281 : Addr), tabObj #[]) :: (276, tabObj ps5) :: R9) N32 re9
        clear N32
        k_steps
        refine use_words F32 N35 (allNe (Ne.symm a3) n1) (allNe (by decide) n2) a2 SO5 cH1 KX T rfl rfl (by decide) (by decide) ?_
        intro ps6 oS6 h33 tk33 F33 N33 SO6
        (try k_extra "my kf")
        clear F32 N35
        k_steps
        refine use_bool headright_ok F33 N33 KX T (by decide) (by decide) ?_
        intro h34 tk34 F34 N34
        clear F33 N33
        (try dsimp only)
        refine ⟨?_, GrownAt.of N34 (.tail _ (.head _)), GrownAt.of N34 (.tail _ (.tail _ (.head _))), GrownAt.of N34 (.tail _ (.tail _ (.tail _ (by rw [hR9]; exact .head _)))), trivial⟩
        refine goodW_bool F34 hg (raisesW_false ?_) ?_
        · wrow_none_raised
        · kc_post
end Mine
theorem PySem.Challenge.cw_on0235_01_holds : PySem.Challenge.rw_on0235_01.Holds :=
  Mine.fin
