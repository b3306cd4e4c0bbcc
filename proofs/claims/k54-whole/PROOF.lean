import PyProof.Rows.All
import Wide.All
import OpenK.AllK
import Wide.FinOn
import HandS.ForMost
import HandS.Defaults
import PyProof.P3In
import PyProof.StrBlock2
import PyProof.Rows.StrMul
import PyProof.ListCopy
import HandS.Walk
import HandS.Zip
import HandS.TupAny
import HandS.IsInst
import HandS.Style
import HandS.Wide
import HandS.SortRule
import HandS.Lambda
import HandS.HeadHook4
import KE.SortKeyHeap
import KE.KStateDown
import Lean
import HandS.Head0
import HandS.Head1
import HandS.Head2
import HandS.HeadEnd
import HandS.HeadHook1
import HandS.HeadHook2
import HandS.HeadHook3
import HandS.HeadWalk
import PySem.Challenge.RW_blockdeal_k54_whole_addresses_in_one_pla
section
set_option Elab.async false
set_option linter.all false
set_option maxRecDepth 100000
namespace K54
open PySem PySem.Spec PyProof.Rows L2
def top (i : Nat) : Stmt := PySem.Challenge.pw_blockdeal_k54_whole_addresses_in_one_pla.main.body.getD i (.Pass ⟨0, 0, 0, 0⟩)
abbrev s_is_whole : Stmt := top 2
abbrev s_is_bits : Stmt := top 3
abbrev s_is_block : Stmt := top 4
abbrev s_size_of : Stmt := top 5
abbrev s_end_of : Stmt := top 6
abbrev s_holds : Stmt := top 7
abbrev s_apart : Stmt := top 8
abbrev s_halves : Stmt := top 9
abbrev s_around : Stmt := top 10
abbrev s_other_half : Stmt := top 11
abbrev s_are_apart : Stmt := top 13
abbrev s_is_patch : Stmt := top 14
abbrev s_make_one : Stmt := top 15
abbrev s_is_fewest : Stmt := top 16
abbrev s_count_of : Stmt := top 17
abbrev s_pushed : Stmt := top 18
abbrev s_fewest : Stmt := top 19
abbrev s_greatest_at : Stmt := top 20
abbrev s_stretch : Stmt := top 21
abbrev s_gaps : Stmt := top 22
abbrev s_rest_of : Stmt := top 23
abbrev s_without : Stmt := top 24
abbrev s_block_with : Stmt := top 25
abbrev s_is_name : Stmt := top 29
abbrev s_are_owned : Stmt := top 30
abbrev s_go_together : Stmt := top 31
abbrev s_is_deal : Stmt := top 32
abbrev s_kept_from : Stmt := top 33
abbrev s_free_for : Stmt := top 34
abbrev s_out_to : Stmt := top 35
abbrev s_holder : Stmt := top 36
abbrev s_l_hand : Stmt := top 38
abbrev s_l_take : Stmt := top 39
abbrev s_l_pick : Stmt := top 40
abbrev s_l_bits : Stmt := top 41
abbrev s_l_block : Stmt := top 42
abbrev s_l_near : Stmt := top 43
abbrev s_l_blocks : Stmt := top 44
abbrev s_l_patch : Stmt := top 45
abbrev s_l_names : Stmt := top 46
abbrev s_l_meet : Stmt := top 47
abbrev s_l_deal : Stmt := top 48
abbrev s_l_kept : Stmt := top 49
abbrev s_l_holder_right : Stmt := top 50
abbrev s_l_parted : Stmt := top 51
abbrev s_law : Stmt := top 52
set_option maxHeartbeats 4000000
theorem sc_is_whole : FnScope ["thing"] ["thing"] (defScope s_is_whole) := ⟨rfl, rfl, rfl, by decide +kernel, rfl, by decide +kernel, by decide +kernel⟩
theorem sc_is_bits : FnScope ["thing"] ["thing"] (defScope s_is_bits) := ⟨rfl, rfl, rfl, by decide +kernel, rfl, by decide +kernel, by decide +kernel⟩
theorem sc_is_block : FnScope ["bits", "thing"] ["bits", "thing"] (defScope s_is_block) := ⟨rfl, rfl, rfl, by decide +kernel, rfl, by decide +kernel, by decide +kernel⟩
theorem sc_size_of : FnScope ["block"] ["block"] (defScope s_size_of) := ⟨rfl, rfl, rfl, by decide +kernel, rfl, by decide +kernel, by decide +kernel⟩
theorem sc_end_of : FnScope ["block"] ["block"] (defScope s_end_of) := ⟨rfl, rfl, rfl, by decide +kernel, rfl, by decide +kernel, by decide +kernel⟩
theorem sc_holds : FnScope ["one", "other"] ["one", "other"] (defScope s_holds) := ⟨rfl, rfl, rfl, by decide +kernel, rfl, by decide +kernel, by decide +kernel⟩
theorem sc_apart : FnScope ["one", "other"] ["one", "other"] (defScope s_apart) := ⟨rfl, rfl, rfl, by decide +kernel, rfl, by decide +kernel, by decide +kernel⟩
theorem sc_halves : FnScope ["block", "begin", "height"] ["block"] (defScope s_halves) := ⟨rfl, rfl, rfl, by decide +kernel, rfl, by decide +kernel, by decide +kernel⟩
theorem sc_around : FnScope ["block", "height"] ["block", "height"] (defScope s_around) := ⟨rfl, rfl, rfl, by decide +kernel, rfl, by decide +kernel, by decide +kernel⟩
theorem sc_other_half : FnScope ["block", "lower", "upper"] ["block"] (defScope s_other_half) := ⟨rfl, rfl, rfl, by decide +kernel, rfl, by decide +kernel, by decide +kernel⟩
theorem sc_are_apart : FnScope ["blocks", "one", "other"] ["blocks"] (defScope s_are_apart) := ⟨rfl, rfl, rfl, by decide +kernel, rfl, by decide +kernel, by decide +kernel⟩
theorem sc_is_patch : FnScope ["bits", "thing", "block"] ["bits", "thing"] (defScope s_is_patch) := ⟨rfl, rfl, rfl, by decide +kernel, rfl, by decide +kernel, by decide +kernel⟩
theorem sc_make_one : FnScope ["one", "other"] ["one", "other"] (defScope s_make_one) := ⟨rfl, rfl, rfl, by decide +kernel, rfl, by decide +kernel, by decide +kernel⟩
theorem sc_is_fewest : FnScope ["patch", "one", "other"] ["patch"] (defScope s_is_fewest) := ⟨rfl, rfl, rfl, by decide +kernel, rfl, by decide +kernel, by decide +kernel⟩
theorem sc_count_of : FnScope ["patch", "block"] ["patch"] (defScope s_count_of) := ⟨rfl, rfl, rfl, by decide +kernel, rfl, by decide +kernel, by decide +kernel⟩
theorem sc_pushed : FnScope ["found", "block", "begin", "height"] ["found", "block"] (defScope s_pushed) := ⟨rfl, rfl, rfl, by decide +kernel, rfl, by decide +kernel, by decide +kernel⟩
theorem sc_fewest : FnScope ["blocks", "found", "block"] ["blocks"] (defScope s_fewest) := ⟨rfl, rfl, rfl, by decide +kernel, rfl, by decide +kernel, by decide +kernel⟩
theorem sc_greatest_at : FnScope ["low", "high", "height"] ["low", "high"] (defScope s_greatest_at) := ⟨rfl, rfl, rfl, by decide +kernel, rfl, by decide +kernel, by decide +kernel⟩
theorem sc_stretch : FnScope ["low", "high", "found", "block"] ["low", "high"] (defScope s_stretch) := ⟨rfl, rfl, rfl, by decide +kernel, rfl, by decide +kernel, by decide +kernel⟩
theorem sc_gaps : FnScope ["low", "high", "blocks", "found", "block"] ["low", "high", "blocks"] (defScope s_gaps) := ⟨rfl, rfl, rfl, by decide +kernel, rfl, by decide +kernel, by decide +kernel⟩
theorem sc_rest_of : FnScope ["bits", "patch"] ["bits", "patch"] (defScope s_rest_of) := ⟨rfl, rfl, rfl, by decide +kernel, rfl, by decide +kernel, by decide +kernel⟩
theorem sc_without : FnScope ["one", "other", "found", "block", "mine"] ["one", "other"] (defScope s_without) := ⟨rfl, rfl, rfl, by decide +kernel, rfl, by decide +kernel, by decide +kernel⟩
theorem sc_block_with : FnScope ["patch", "address", "block"] ["patch", "address"] (defScope s_block_with) := ⟨rfl, rfl, rfl, by decide +kernel, rfl, by decide +kernel, by decide +kernel⟩
theorem sc_is_name : FnScope ["thing", "sign"] ["thing"] (defScope s_is_name) := ⟨rfl, rfl, rfl, by decide +kernel, rfl, by decide +kernel, by decide +kernel⟩
theorem sc_are_owned : FnScope ["bits", "thing", "pair", "block", "name"] ["bits", "thing"] (defScope s_are_owned) := ⟨rfl, rfl, rfl, by decide +kernel, rfl, by decide +kernel, by decide +kernel⟩
theorem sc_go_together : FnScope ["outs", "kept", "block", "name", "other", "owner"] ["outs", "kept"] (defScope s_go_together) := ⟨rfl, rfl, rfl, by decide +kernel, rfl, by decide +kernel, by decide +kernel⟩
theorem sc_is_deal : FnScope ["thing"] ["thing"] (defScope s_is_deal) := ⟨rfl, rfl, rfl, by decide +kernel, rfl, by decide +kernel, by decide +kernel⟩
theorem sc_kept_from : FnScope ["deal", "name", "block", "owner"] ["deal", "name"] (defScope s_kept_from) := ⟨rfl, rfl, rfl, by decide +kernel, rfl, by decide +kernel, by decide +kernel⟩
theorem sc_free_for : FnScope ["deal", "name", "taken", "block", "owner"] ["deal", "name"] (defScope s_free_for) := ⟨rfl, rfl, rfl, by decide +kernel, rfl, by decide +kernel, by decide +kernel⟩
theorem sc_out_to : FnScope ["deal", "name", "block", "owner"] ["deal", "name"] (defScope s_out_to) := ⟨rfl, rfl, rfl, by decide +kernel, rfl, by decide +kernel, by decide +kernel⟩
theorem sc_holder : FnScope ["deal", "address", "word", "owned", "block", "name"] ["deal", "address"] (defScope s_holder) := ⟨rfl, rfl, rfl, by decide +kernel, rfl, by decide +kernel, by decide +kernel⟩
theorem sc_l_hand : FnScope ["_law_script", "_law_k", "_law_cell"] ["_law_script", "_law_k"] (defScope s_l_hand) := ⟨rfl, rfl, rfl, by decide +kernel, rfl, by decide +kernel, by decide +kernel⟩
theorem sc_l_take : FnScope ["_law_hand_here", "_law_many", "_law_turn", "_law_mixed", "_law_other", "_law_digit"] ["_law_hand_here", "_law_many"] (defScope s_l_take) := ⟨rfl, rfl, rfl, by decide +kernel, rfl, by decide +kernel, by decide +kernel⟩
theorem sc_l_pick : FnScope ["_law_hand_here", "_law_some"] ["_law_hand_here", "_law_some"] (defScope s_l_pick) := ⟨rfl, rfl, rfl, by decide +kernel, rfl, by decide +kernel, by decide +kernel⟩
theorem sc_l_bits : FnScope ["_law_hand_here"] ["_law_hand_here"] (defScope s_l_bits) := ⟨rfl, rfl, rfl, by decide +kernel, rfl, by decide +kernel, by decide +kernel⟩
theorem sc_l_block : FnScope ["_law_hand_here", "_law_bits_here", "_law_height"] ["_law_hand_here", "_law_bits_here"] (defScope s_l_block) := ⟨rfl, rfl, rfl, by decide +kernel, rfl, by decide +kernel, by decide +kernel⟩
theorem sc_l_near : FnScope ["_law_hand_here", "_law_bits_here", "_law_block_here", "_law_begin", "_law_height", "_law_size", "_law_some"] ["_law_hand_here", "_law_bits_here", "_law_block_here"] (defScope s_l_near) := ⟨rfl, rfl, rfl, by decide +kernel, rfl, by decide +kernel, by decide +kernel⟩
theorem sc_l_blocks : FnScope ["_law_hand_here", "_law_bits_here", "_law_most", "_law_found", "_law_k", "_law_block_here"] ["_law_hand_here", "_law_bits_here", "_law_most"] (defScope s_l_blocks) := ⟨rfl, rfl, rfl, by decide +kernel, rfl, by decide +kernel, by decide +kernel⟩
theorem sc_l_patch : FnScope ["_law_hand_here", "_law_bits_here", "_law_most", "_law_found", "_law_begin", "_law_height", "_law_one"] ["_law_hand_here", "_law_bits_here", "_law_most"] (defScope s_l_patch) := ⟨rfl, rfl, rfl, by decide +kernel, rfl, by decide +kernel, by decide +kernel⟩
theorem sc_l_names : FnScope ["_law_hand_here", "_law_many", "_law_letters", "_law_first", "_law_step", "_law_stem", "_law_at", "_law_k"] ["_law_hand_here", "_law_many"] (defScope s_l_names) := ⟨rfl, rfl, rfl, by decide +kernel, rfl, by decide +kernel, by decide +kernel⟩
theorem sc_l_meet : FnScope ["_law_one", "_law_other"] ["_law_one", "_law_other"] (defScope s_l_meet) := ⟨rfl, rfl, rfl, by decide +kernel, rfl, by decide +kernel, by decide +kernel⟩
theorem sc_l_deal : FnScope ["_law_hand_here", "_law_bits_here", "_law_names_here", "_law_most", "_law_outs", "_law_kept_here", "_law_block_here", "_law_there", "_law_name", "_law_one"] ["_law_hand_here", "_law_bits_here", "_law_names_here", "_law_most"] (defScope s_l_deal) := ⟨rfl, rfl, rfl, by decide +kernel, rfl, by decide +kernel, by decide +kernel⟩
theorem sc_l_kept : FnScope ["_law_deal_here", "_law_name", "_law_mine", "_law_block_here", "_law_owner"] ["_law_deal_here", "_law_name"] (defScope s_l_kept) := ⟨rfl, rfl, rfl, by decide +kernel, rfl, by decide +kernel, by decide +kernel⟩
theorem sc_l_holder_right : FnScope ["_law_deal_here", "_law_address", "_law_word", "_law_name", "_law_block_here", "_law_one", "_law_owner"] ["_law_deal_here", "_law_address"] (defScope s_l_holder_right) := ⟨rfl, rfl, rfl, by decide +kernel, rfl, by decide +kernel, by decide +kernel⟩
theorem sc_l_parted : FnScope ["_law_deal_here", "_law_names_here", "_law_parts", "_law_together", "_law_part", "_law_name", "_law_one", "_law_other"] ["_law_deal_here", "_law_names_here"] (defScope s_l_parted) := ⟨rfl, rfl, rfl, by decide +kernel, rfl, by decide +kernel, by decide +kernel⟩
theorem sc_law : FnScope ["_law_script", "_law_k", "_law_hand_here", "_law_bits_here", "_law_names_here", "_law_most", "_law_deal_here", "_law_name", "_law_some", "_law_begin", "_law_height", "_law_turn", "_law_address"] ["_law_script"] (defScope s_law) := ⟨rfl, rfl, rfl, by decide +kernel, rfl, by decide +kernel, by decide +kernel⟩
end K54
end
section
set_option autoImplicit false
set_option maxRecDepth 100000
set_option linter.all false
/-! Blocks of halves, patches, the fewest patch: plain Lean, no program. -/
namespace K54
/-- a block: where it begins, its height -/
abbrev B := Nat × Nat
def fin (b : B) : Nat := b.1 + 2 ^ b.2
/-- a block of a row of n bits -/
structure Okb (n : Nat) (b : B) : Prop where
  al : b.1 % 2 ^ b.2 = 0
  le : b.1 + 2 ^ b.2 ≤ 2 ^ n
def inB (x : Nat) (b : B) : Prop := b.1 ≤ x ∧ x < fin b
def cov (l : List B) (x : Nat) : Prop := ∃ b, b ∈ l ∧ inB x b
/-- rising, each two apart -/
def Ap (l : List B) : Prop := l.Pairwise fun a b => fin a ≤ b.1
/-- a and b are the halves of one -/
def sib (a b : B) : Prop := a.2 = b.2 ∧ a.1 % 2 ^ (a.2 + 1) = 0 ∧ b.1 = a.1 + 2 ^ a.2
instance (a b : B) : Decidable (sib a b) := by unfold sib; infer_instance
def Red (l : List B) : Prop := l.Pairwise fun a b => ¬ sib a b
theorem two_pos (n : Nat) : 0 < 2 ^ n := Nat.pow_pos (by decide)
theorem fin_gt (b : B) : b.1 < fin b := Nat.lt_add_of_pos_right (two_pos _)
theorem inB_self (b : B) : inB b.1 b := ⟨Nat.le_refl _, fin_gt b⟩
theorem Okb.ht {n : Nat} {b : B} (h : Okb n b) : b.2 ≤ n := by
  have h1 : 2 ^ b.2 ≤ 2 ^ n := Nat.le_trans (Nat.le_add_left _ _) h.le
  exact (Nat.pow_le_pow_iff_right (by decide)).mp h1
theorem Okb.lt {n : Nat} {b : B} (h : Okb n b) : b.1 < 2 ^ n := Nat.lt_of_lt_of_le (fin_gt b) h.le
/-- of two blocks one holds the other, or they are apart -/
theorem nest {a b : B} (ha : a.1 % 2 ^ a.2 = 0) (hb : b.1 % 2 ^ b.2 = 0) (h : a.2 ≤ b.2) : (b.1 ≤ a.1 ∧ fin a ≤ fin b) ∨ fin a ≤ b.1 ∨ fin b ≤ a.1 := by
  obtain ⟨i, hi⟩ : 2 ^ a.2 ∣ a.1 := Nat.dvd_of_mod_eq_zero ha
  obtain ⟨j, hj⟩ : 2 ^ b.2 ∣ b.1 := Nat.dvd_of_mod_eq_zero hb
  have hq : 2 ^ b.2 = 2 ^ a.2 * 2 ^ (b.2 - a.2) := by rw [← Nat.pow_add]; congr 1; omega
  have e1 : fin a = 2 ^ a.2 * (i + 1) := by show a.1 + 2 ^ a.2 = _; rw [hi, Nat.mul_add, Nat.mul_one]
  have e2 : b.1 = 2 ^ a.2 * (2 ^ (b.2 - a.2) * j) := by rw [hj, hq, Nat.mul_assoc]
  have e3 : fin b = 2 ^ a.2 * (2 ^ (b.2 - a.2) * j + 2 ^ (b.2 - a.2)) := by
    show b.1 + 2 ^ b.2 = _
    rw [e2, Nat.mul_add, ← hq]
  by_cases c1 : i + 1 ≤ 2 ^ (b.2 - a.2) * j
  · refine .inr (.inl ?_)
    rw [e1, e2]
    exact Nat.mul_le_mul_left _ c1
  · by_cases c2 : 2 ^ (b.2 - a.2) * j + 2 ^ (b.2 - a.2) ≤ i
    · refine .inr (.inr ?_)
      rw [e3, hi]
      exact Nat.mul_le_mul_left _ c2
    · refine .inl ⟨?_, ?_⟩
      · rw [e2, hi]
        exact Nat.mul_le_mul_left _ (by omega)
      · rw [e1, e3]
        exact Nat.mul_le_mul_left _ (by omega)
theorem pw_mem {α : Type} {R : α → α → Prop} {l : List α} (h : l.Pairwise R) {a b : α} (ha : a ∈ l) (hb : b ∈ l) : a = b ∨ R a b ∨ R b a := by
  induction l with
  | nil => cases ha
  | cons x r ih =>
    rw [List.pairwise_cons] at h
    rcases List.mem_cons.mp ha with ea | ma
    · rcases List.mem_cons.mp hb with eb | mb
      · exact .inl (ea.trans eb.symm)
      · exact .inr (.inl (by rw [ea]; exact h.1 _ mb))
    · rcases List.mem_cons.mp hb with eb | mb
      · exact .inr (.inr (by rw [eb]; exact h.1 _ ma))
      · exact ih h.2 ma mb
/-- in a rising list a common address is in one block alone -/
theorem Ap.one {l : List B} (h : Ap l) {a b : B} (ha : a ∈ l) (hb : b ∈ l) {x : Nat} (xa : inB x a) (xb : inB x b) : a = b := by
  rcases pw_mem h ha hb with e | e | e
  · exact e
  · exact absurd xb.1 (by have := xa.2; omega)
  · exact absurd xa.1 (by have := xb.2; omega)
/-- of a fewest patch: a block all of whose addresses are had lies in one of its blocks -/
theorem Red.max {l : List B} (ap : Ap l) (al : ∀ b ∈ l, b.1 % 2 ^ b.2 = 0) (red : Red l) : ∀ (h s : Nat), s % 2 ^ h = 0 → (∀ x, inB x (s, h) → cov l x) → ∃ e, e ∈ l ∧ e.1 ≤ s ∧ s + 2 ^ h ≤ fin e
  | 0, s, _, hc => by
    obtain ⟨e, he, h1, h2⟩ := hc s (inB_self (s, 0))
    exact ⟨e, he, h1, h2⟩
  | h + 1, s, hs, hc => by
    have hp : 2 ^ (h + 1) = 2 ^ h + 2 ^ h := by rw [Nat.pow_succ]; omega
    obtain ⟨k, hk⟩ : 2 ^ (h + 1) ∣ s := Nat.dvd_of_mod_eq_zero hs
    have d0 : s % 2 ^ h = 0 := by
      rw [hk, hp, ← Nat.two_mul, Nat.mul_comm 2, Nat.mul_assoc]
      exact Nat.mul_mod_right _ _
    have d1 : (s + 2 ^ h) % 2 ^ h = 0 := by rw [Nat.add_mod_right]; exact d0
    obtain ⟨e0, m0, a0, b0⟩ := Red.max ap al red h s d0 fun x hx => hc x ⟨hx.1, by have := hx.2; simp only [fin] at this ⊢; omega⟩
    obtain ⟨e1, m1, a1, b1⟩ := Red.max ap al red h (s + 2 ^ h) d1 fun x hx => hc x ⟨by have := hx.1; simp only at this ⊢; omega, by have := hx.2; simp only [fin] at this ⊢; omega⟩
    have key : ∀ e ∈ l, e.2 ≤ h ∨ (∀ t, s ≤ t → t < s + 2 ^ (h + 1) → e.1 ≤ t → t < fin e → e.1 ≤ s ∧ s + 2 ^ (h + 1) ≤ fin e) := fun e he => by
      by_cases c : e.2 ≤ h
      · exact .inl c
      · refine .inr fun t t1 t2 t3 t4 => ?_
        rcases nest (a := (s, h + 1)) (b := e) hs (al e he) (by show h + 1 ≤ e.2; omega) with q | q | q
        · exact q
        · have q' : s + 2 ^ (h + 1) ≤ e.1 := q
          omega
        · have q' : fin e ≤ s := q
          omega
    rcases key e0 m0 with c0 | c0
    · rcases key e1 m1 with c1 | c1
      · have p0 : 2 ^ e0.2 ≤ 2 ^ h := Nat.pow_le_pow_right (by decide) c0
        have p1 : 2 ^ e1.2 ≤ 2 ^ h := Nat.pow_le_pow_right (by decide) c1
        have f0 : fin e0 = e0.1 + 2 ^ e0.2 := rfl
        have f1 : fin e1 = e1.1 + 2 ^ e1.2 := rfl
        have q0 : e0.1 = s := by omega
        have q1 : e1.1 = s + 2 ^ h := by omega
        have r0 : 2 ^ e0.2 = 2 ^ h := by omega
        have r1 : 2 ^ e1.2 = 2 ^ h := by omega
        have t0 : e0.2 = h := (Nat.pow_right_inj (by decide)).mp r0
        have t1 : e1.2 = h := (Nat.pow_right_inj (by decide)).mp r1
        have sb : sib e0 e1 := ⟨by rw [t0, t1], by rw [t0, q0]; exact hs, by rw [q0, q1, t0]⟩
        have hpos := two_pos h
        have both : l.Pairwise fun a b => fin a ≤ b.1 ∧ ¬ sib a b := List.Pairwise.and ap red
        rcases pw_mem both m0 m1 with e | e | e
        · rw [e] at q0
          omega
        · exact absurd sb e.2
        · have := e.1
          omega
      · obtain ⟨u, v⟩ := c1 (s + 2 ^ h) (by omega) (by have := two_pos h; omega) a1 (by have := two_pos h; omega)
        exact ⟨e1, m1, u, v⟩
    · obtain ⟨u, v⟩ := c0 s (Nat.le_refl _) (by have := two_pos (h + 1); omega) a0 (by have := two_pos h; omega)
      exact ⟨e0, m0, u, v⟩
theorem sorted_ext : ∀ {l m : List B}, (l.Pairwise fun a b => a.1 < b.1) → (m.Pairwise fun a b => a.1 < b.1) → (∀ b, b ∈ l ↔ b ∈ m) → l = m
  | [], [], _, _, _ => rfl
  | [], b :: m, _, _, h => absurd ((h b).mpr List.mem_cons_self) (by simp)
  | a :: l, [], _, _, h => absurd ((h a).mp List.mem_cons_self) (by simp)
  | a :: l, b :: m, hl, hm, h => by
    rw [List.pairwise_cons] at hl hm
    have e : a = b := by
      rcases List.mem_cons.mp ((h a).mp List.mem_cons_self) with e | e
      · exact e
      · rcases List.mem_cons.mp ((h b).mpr List.mem_cons_self) with e' | e'
        · exact e'.symm
        · have := hm.1 a e
          have := hl.1 b e'
          omega
    subst e
    rw [sorted_ext hl.2 hm.2 fun c => ⟨fun hc => ?_, fun hc => ?_⟩]
    · rcases List.mem_cons.mp ((h c).mp (List.mem_cons_of_mem _ hc)) with e | e
      · have := hl.1 c hc
        rw [e] at this
        omega
      · exact e
    · rcases List.mem_cons.mp ((h c).mpr (List.mem_cons_of_mem _ hc)) with e | e
      · have := hm.1 c hc
        rw [e] at this
        omega
      · exact e
/-- l is the fewest patch of the addresses of which S holds -/
structure Few (n : Nat) (l : List B) (S : Nat → Prop) : Prop where
  ok : ∀ b ∈ l, Okb n b
  ap : Ap l
  red : Red l
  cov : ∀ x, cov l x ↔ S x
theorem Few.iff {n : Nat} {l : List B} {S T : Nat → Prop} (f : Few n l S) (h : ∀ x, S x ↔ T x) : Few n l T := ⟨f.ok, f.ap, f.red, fun x => (f.cov x).trans (h x)⟩
theorem few_sub {n : Nat} {l m : List B} {S : Nat → Prop} (f : Few n l S) (g : Few n m S) {b : B} (hb : b ∈ l) : b ∈ m := by
  have key : ∀ {l m : List B}, Few n l S → Few n m S → ∀ {b : B}, b ∈ l → ∃ e, e ∈ m ∧ e.1 ≤ b.1 ∧ fin b ≤ fin e := fun {l m} f g {b} hb =>
    Red.max g.ap (fun b hb => (g.ok b hb).al) g.red b.2 b.1 (f.ok b hb).al fun x hx => (g.cov x).mpr ((f.cov x).mp ⟨b, hb, hx⟩)
  obtain ⟨e, he, h1, h2⟩ := key f g hb
  obtain ⟨c, hc, h3, h4⟩ := key g f he
  have eb : b = c := f.ap.one hb hc (inB_self b) ⟨by omega, by have := fin_gt b; omega⟩
  subst eb
  have e1 : e.1 = b.1 := by omega
  have e2 : fin e = fin b := by omega
  have e3 : 2 ^ e.2 = 2 ^ b.2 := by
    have a1 : fin e = e.1 + 2 ^ e.2 := rfl
    have a2 : fin b = b.1 + 2 ^ b.2 := rfl
    omega
  have e4 : e.2 = b.2 := (Nat.pow_right_inj (by decide)).mp e3
  have e5 : e = b := Prod.ext e1 e4
  rw [← e5]
  exact he
theorem Ap.lt {l : List B} (h : Ap l) : l.Pairwise fun a b => a.1 < b.1 := h.imp fun {a b} q => Nat.lt_of_lt_of_le (fin_gt a) q
/-- there is just one fewest patch -/
theorem Few.one {n : Nat} {l m : List B} {S : Nat → Prop} (f : Few n l S) (g : Few n m S) : l = m := sorted_ext f.ap.lt g.ap.lt fun _ => ⟨few_sub f g, few_sub g f⟩
theorem cov_nil (x : Nat) : ¬ cov [] x := fun ⟨_, h, _⟩ => by cases h
theorem cov_app {l m : List B} {x : Nat} : cov (l ++ m) x ↔ cov l x ∨ cov m x := by
  constructor
  · rintro ⟨b, hb, hx⟩
    rcases List.mem_append.mp hb with h | h
    · exact .inl ⟨b, h, hx⟩
    · exact .inr ⟨b, h, hx⟩
  · rintro (⟨b, hb, hx⟩ | ⟨b, hb, hx⟩)
    · exact ⟨b, List.mem_append_left _ hb, hx⟩
    · exact ⟨b, List.mem_append_right _ hb, hx⟩
theorem cov_cons {l : List B} {b : B} {x : Nat} : cov (b :: l) x ↔ inB x b ∨ cov l x := by
  constructor
  · rintro ⟨c, hc, hx⟩
    rcases List.mem_cons.mp hc with rfl | h
    · exact .inl hx
    · exact .inr ⟨c, h, hx⟩
  · rintro (hx | ⟨c, hc, hx⟩)
    · exact ⟨b, List.mem_cons_self, hx⟩
    · exact ⟨c, List.mem_cons_of_mem _ hc, hx⟩
theorem cov_one {b : B} {x : Nat} : cov [b] x ↔ inB x b := by
  rw [cov_cons]
  exact ⟨fun h => h.elim id fun h => absurd h (cov_nil x), .inl⟩
theorem cov_mem {l m : List B} (h : ∀ b, b ∈ l ↔ b ∈ m) (x : Nat) : cov l x ↔ cov m x :=
  ⟨fun ⟨b, hb, hx⟩ => ⟨b, (h b).mp hb, hx⟩, fun ⟨b, hb, hx⟩ => ⟨b, (h b).mpr hb, hx⟩⟩
theorem few_nil (n : Nat) : Few n [] fun _ => False := ⟨fun _ h => by (cases h), List.Pairwise.nil, List.Pairwise.nil, fun x => ⟨fun h => cov_nil x h, False.elim⟩⟩
/-! ### a block put behind those of a fewest patch -/
/-- r: the blocks from the last one on -/
def pushR : List B → B → List B
  | [], b => [b]
  | a :: r, b => if sib a b then pushR r (a.1, a.2 + 1) else b :: a :: r
theorem half_mem {a b : B} (h : sib a b) (x : Nat) : inB x (a.1, a.2 + 1) ↔ inB x a ∨ inB x b := by
  obtain ⟨h1, _, h3⟩ := h
  have e : 2 ^ (a.2 + 1) = 2 ^ a.2 + 2 ^ a.2 := by rw [Nat.pow_succ]; omega
  simp only [inB, fin, h3, ← h1, e]
  omega
theorem push_ok {n : Nat} : ∀ (r : List B) (b : B), (r.Pairwise fun b a => fin a ≤ b.1) → (r.Pairwise fun b a => ¬ sib a b) → (∀ a ∈ r, Okb n a) → Okb n b → (∀ a ∈ r, fin a ≤ b.1) →
    ((pushR r b).Pairwise fun b a => fin a ≤ b.1) ∧ ((pushR r b).Pairwise fun b a => ¬ sib a b) ∧ (∀ a ∈ pushR r b, Okb n a) ∧ (∀ x, cov (pushR r b) x ↔ cov r x ∨ inB x b) ∧
    (∀ e ∈ pushR r b, ∃ a, a ∈ b :: r ∧ a.1 = e.1 ∧ a.2 ≤ e.2) ∧ (pushR r b).length ≤ r.length + 1
  | [], b, _, _, _, hb, _ => by
    refine ⟨List.pairwise_singleton _ _, List.pairwise_singleton _ _, fun a ha => ?_, fun x => ?_, fun e he => ?_, Nat.le_refl _⟩
    · rw [List.mem_singleton.mp ha]
      exact hb
    · show cov [b] x ↔ _
      rw [cov_one]
      exact ⟨.inr, fun h => h.elim (fun h => absurd h (cov_nil x)) id⟩
    · exact ⟨e, he, rfl, Nat.le_refl _⟩
  | a :: r, b, h1, h2, h3, hb, h4 => by
    unfold pushR
    by_cases c : sib a b
    · rw [if_pos c]
      have hp : 2 ^ (a.2 + 1) = 2 ^ a.2 + 2 ^ a.2 := by rw [Nat.pow_succ]; omega
      have ob : Okb n (a.1, a.2 + 1) := by
        refine ⟨c.2.1, ?_⟩
        have := hb.le
        rw [c.2.2, ← c.1] at this
        show a.1 + 2 ^ (a.2 + 1) ≤ 2 ^ n
        omega
      rw [List.pairwise_cons] at h1 h2
      obtain ⟨i1, i2, i3, i4, i5, i6⟩ := push_ok r (a.1, a.2 + 1) h1.2 h2.2 (fun a ha => h3 a (List.mem_cons_of_mem _ ha)) ob h1.1
      refine ⟨i1, i2, i3, fun x => ?_, fun e he => ?_, Nat.le_trans i6 (by simp)⟩
      · rw [i4, half_mem c, cov_cons]
        constructor
        · rintro (h | h | h)
          · exact .inl (.inr h)
          · exact .inl (.inl h)
          · exact .inr h
        · rintro ((h | h) | h)
          · exact .inr (.inl h)
          · exact .inl h
          · exact .inr (.inr h)
      · obtain ⟨z, hz, e1, e2⟩ := i5 e he
        rcases List.mem_cons.mp hz with rfl | hz
        · exact ⟨a, List.mem_cons_of_mem _ List.mem_cons_self, e1, by simp only at e2; omega⟩
        · exact ⟨z, List.mem_cons_of_mem _ (List.mem_cons_of_mem _ hz), e1, e2⟩
    · rw [if_neg c]
      refine ⟨List.pairwise_cons.mpr ⟨h4, h1⟩, List.pairwise_cons.mpr ⟨fun d hd => ?_, h2⟩, fun d hd => ?_, fun x => ?_, fun e he => ⟨e, he, rfl, Nat.le_refl _⟩, Nat.le_refl _⟩
      · rcases List.mem_cons.mp hd with rfl | hd
        · exact c
        · intro s
          have q1 := (List.pairwise_cons.mp h1).1 d hd
          have q2 := h4 a List.mem_cons_self
          have q3 := fin_gt a
          have q4 : b.1 = fin d := s.2.2
          omega
      · rcases List.mem_cons.mp hd with rfl | hd
        · exact hb
        · exact h3 d hd
      · rw [cov_cons, Or.comm]
/-- found with a block put behind -/
def push (l : List B) (b : B) : List B := (pushR l.reverse b).reverse
/-- the order in which blocks are put: by their begin, the greatest first -/
def kle (p q : B) : Prop := p.1 < q.1 ∨ (p.1 = q.1 ∧ q.2 ≤ p.2)
theorem push_few {n : Nat} {l : List B} {S : Nat → Prop} {b : B} (f : Few n l S) (hb : Okb n b) (h : ∀ a ∈ l, fin a ≤ b.1) :
    Few n (push l b) (fun x => S x ∨ inB x b) ∧ (∀ e ∈ push l b, ∃ a, (a = b ∨ a ∈ l) ∧ a.1 = e.1 ∧ a.2 ≤ e.2) ∧ (push l b).length ≤ l.length + 1 := by
  obtain ⟨i1, i2, i3, i4, i5, i6⟩ := push_ok (n := n) l.reverse b (List.pairwise_reverse.mpr f.ap) (List.pairwise_reverse.mpr f.red) (fun a ha => f.ok a (List.mem_reverse.mp ha)) hb fun a ha => h a (List.mem_reverse.mp ha)
  refine ⟨⟨fun a ha => i3 a (List.mem_reverse.mp ha), ?_, ?_, fun x => ?_⟩, fun e he => ?_, ?_⟩
  · exact List.pairwise_reverse.mpr i1
  · exact List.pairwise_reverse.mpr i2
  · have e1 : cov (push l b) x ↔ cov (pushR l.reverse b) x := cov_mem (fun c => List.mem_reverse) x
    have e2 : cov l.reverse x ↔ cov l x := cov_mem (fun c => List.mem_reverse) x
    rw [e1, i4, e2, f.cov]
  · obtain ⟨a, ha, q1, q2⟩ := i5 e (List.mem_reverse.mp he)
    refine ⟨a, ?_, q1, q2⟩
    rcases List.mem_cons.mp ha with q | q
    · exact .inl q
    · exact .inr (List.mem_reverse.mp q)
  · show (pushR l.reverse b).reverse.length ≤ _
    rw [List.length_reverse]
    rw [List.length_reverse] at i6
    exact i6
def holdsB (a b : B) : Prop := a.1 ≤ b.1 ∧ fin b ≤ fin a
instance (a b : B) : Decidable (holdsB a b) := by unfold holdsB; infer_instance
/-- a block that comes in order: the last one of found holds it, or all end ahead of it -/
theorem in_order {n : Nat} {l : List B} {S : Nat → Prop} {b : B} (f : Few n l S) (hb : Okb n b) (ho : ∀ a ∈ l, kle a b) {z : B} {l0 : List B} (e : l = l0 ++ [z]) (hn : ¬ holdsB z b) : ∀ a ∈ l, fin a ≤ b.1 := by
  subst e
  have hz : z ∈ l0 ++ [z] := by simp
  have oz := f.ok z hz
  have q : fin z ≤ b.1 := by
    by_cases c : b.2 ≤ z.2
    · rcases nest hb.al oz.al c with q | q | q
      · exact absurd q hn
      · have : z.1 ≤ b.1 := by rcases ho z hz with o | o <;> omega
        have := fin_gt b
        omega
      · exact q
    · rcases nest oz.al hb.al (by omega) with q | q | q
      · have h1 := ho z hz
        rcases h1 with o | o
        · omega
        · omega
      · exact q
      · have : z.1 ≤ b.1 := by rcases ho z hz with o | o <;> omega
        have := fin_gt b
        omega
  intro a ha
  rcases List.mem_append.mp ha with h | h
  · have := (List.pairwise_append.mp f.ap).2.2 a h z (by simp)
    have := fin_gt z
    omega
  · rw [List.mem_singleton.mp h]
    exact q
/-- one turn of fewest -/
def turn (l : List B) (b : B) : List B := match l.getLast? with
  | none => push l b
  | some z => if holdsB z b then l else push l b
theorem turn_few {n : Nat} {l : List B} {S : Nat → Prop} {b : B} (f : Few n l S) (hb : Okb n b) (ho : ∀ a ∈ l, kle a b) :
    Few n (turn l b) (fun x => S x ∨ inB x b) ∧ (∀ e ∈ turn l b, ∃ a, (a = b ∨ a ∈ l) ∧ a.1 = e.1 ∧ a.2 ≤ e.2) ∧ (turn l b).length ≤ l.length + 1 := by
  unfold turn
  cases h : l.getLast? with
  | none =>
    have e : l = [] := List.getLast?_eq_none_iff.mp h
    subst e
    exact push_few f hb fun a ha => by cases ha
  | some z =>
    obtain ⟨l0, e⟩ := List.getLast?_eq_some_iff.mp h
    by_cases c : holdsB z b
    · simp only [if_pos c]
      refine ⟨f.iff fun x => ⟨.inl, fun h => h.elim id fun hx => (f.cov x).mp ⟨z, by rw [e]; simp, ?_⟩⟩, fun e he => ⟨e, .inr he, rfl, Nat.le_refl _⟩, Nat.le_succ _⟩
      have h1 := hx.1
      have h2 := hx.2
      have h3 := c.1
      have h4 := c.2
      exact ⟨by omega, by omega⟩
    · simp only [if_neg c]
      exact push_few f hb (in_order f hb ho e c)
/-- fewest, over blocks in order -/
theorem few_fold {n : Nat} : ∀ (ss : List B) (l : List B) (S : Nat → Prop), Few n l S → (∀ b ∈ ss, Okb n b) → (ss.Pairwise kle) → (∀ a ∈ l, ∀ b ∈ ss, kle a b) →
    Few n (ss.foldl turn l) (fun x => S x ∨ cov ss x) ∧ (ss.foldl turn l).length ≤ l.length + ss.length
  | [], l, S, f, _, _, _ => ⟨f.iff fun x => ⟨.inl, fun h => h.elim id fun h => absurd h (cov_nil x)⟩, Nat.le_refl _⟩
  | b :: ss, l, S, f, h1, h2, h3 => by
    rw [List.pairwise_cons] at h2
    obtain ⟨g, g2, g3⟩ := turn_few f (h1 b List.mem_cons_self) fun a ha => h3 a ha b List.mem_cons_self
    obtain ⟨k1, k2⟩ := few_fold ss (turn l b) _ g (fun b hb => h1 b (List.mem_cons_of_mem _ hb)) h2.2 fun e he c hc => by
      obtain ⟨a, ha, e1, e2⟩ := g2 e he
      have q : kle a c := by
        rcases ha with rfl | ha
        · exact h2.1 c hc
        · exact h3 a ha c (List.mem_cons_of_mem _ hc)
      rcases q with q | q
      · exact .inl (by omega)
      · exact .inr (by omega)
    refine ⟨k1.iff fun x => ?_, ?_⟩
    · rw [cov_cons, or_assoc]
    · show (ss.foldl turn (turn l b)).length ≤ _
      rw [List.length_cons]
      omega
end K54
end
section
set_option autoImplicit false
set_option maxRecDepth 100000
set_option linter.all false
/-! Stretches, gaps, what is left, counts, the parts of a deal: plain Lean, no program. -/
namespace K54
theorem Few.app {n : Nat} {l m : List B} {S T : Nat → Prop} (f : Few n l S) (g : Few n m T) (h : ∀ a ∈ l, ∀ b ∈ m, fin a < b.1) : Few n (l ++ m) fun x => S x ∨ T x := by
  refine ⟨fun b hb => ?_, ?_, ?_, fun x => ?_⟩
  · rcases List.mem_append.mp hb with q | q
    · exact f.ok b q
    · exact g.ok b q
  · exact List.pairwise_append.mpr ⟨f.ap, g.ap, fun a ha b hb => Nat.le_of_lt (h a ha b hb)⟩
  · refine List.pairwise_append.mpr ⟨f.red, g.red, fun a ha b hb s => ?_⟩
    have q := h a ha b hb
    have e : b.1 = fin a := s.2.2
    omega
  · rw [cov_app, f.cov, g.cov]
/-- where a block of a patch lies -/
theorem Few.within {n low high : Nat} {l : List B} {S : Nat → Prop} (f : Few n l S) (h : ∀ x, S x → low ≤ x ∧ x < high) : ∀ b ∈ l, low ≤ b.1 ∧ fin b ≤ high := fun b hb => by
  have h1 := h b.1 ((f.cov _).mp ⟨b, hb, inB_self b⟩)
  have h2 := h (fin b - 1) ((f.cov _).mp ⟨b, hb, by have := fin_gt b; omega, by have := fin_gt b; omega⟩)
  have := fin_gt b
  omega
/-- the greatest block at low that ends by high has the height h -/
structure Grt (low high h : Nat) : Prop where
  al : low % 2 ^ h = 0
  le : low + 2 ^ h ≤ high
  no : ¬ (low % 2 ^ (h + 1) = 0 ∧ low + 2 ^ (h + 1) ≤ high)
/-- a stretch in the making: f has what lies between low and cur -/
structure Strv (n low cur high : Nat) (f : List B) : Prop where
  few : Few n f fun x => low ≤ x ∧ x < cur
  mx : ∀ e ∈ f, e.1 % 2 ^ (e.2 + 1) = 0 → high < e.1 + 2 ^ (e.2 + 1)
  lc : low ≤ cur
  ch : cur ≤ high
  len : (∃ a, a ≤ 65 ∧ f.length ≤ a ∧ cur % 2 ^ a = 0) ∨ ∃ c, c ≤ 64 ∧ f.length + c ≤ 130 ∧ cur % 2 ^ c = 0 ∧ high < cur + 2 ^ c
theorem Strv.start {n low high : Nat} (h : low ≤ high) : Strv n low low high [] :=
  ⟨(few_nil n).iff fun x => ⟨False.elim, fun h => by omega⟩, fun e he => (by cases he), Nat.le_refl _, h, .inl ⟨0, by omega, Nat.le_refl _, by rw [Nat.pow_zero]; exact Nat.mod_one _⟩⟩
theorem mod_of_le {s a b : Nat} (h : s % 2 ^ b = 0) (c : a ≤ b) : s % 2 ^ a = 0 :=
  Nat.mod_eq_zero_of_dvd (Nat.dvd_trans (Nat.pow_dvd_pow 2 c) (Nat.dvd_of_mod_eq_zero h))
theorem Strv.next {n low cur high h : Nat} {f : List B} (s : Strv n low cur high f) (hn : high ≤ 2 ^ n) (n64 : n ≤ 64) (g : Grt cur high h) : Strv n low (cur + 2 ^ h) high (f ++ [(cur, h)]) := by
  have hp : 2 ^ (h + 1) = 2 ^ h + 2 ^ h := by rw [Nat.pow_succ]; omega
  have pos := two_pos h
  have ob : Okb n (cur, h) := ⟨g.al, Nat.le_trans g.le hn⟩
  have hh : h ≤ 64 := Nat.le_trans ob.ht n64
  have hin : ∀ e ∈ f, fin e ≤ cur := fun e he => (s.few.within (low := low) (high := cur) (fun x h => h) e he).2
  refine ⟨⟨fun b hb => ?_, ?_, ?_, fun x => ?_⟩, fun e he => ?_, Nat.le_trans s.lc (Nat.le_add_right _ _), g.le, ?_⟩
  · rcases List.mem_append.mp hb with q | q
    · exact s.few.ok b q
    · rw [List.mem_singleton.mp q]
      exact ob
  · refine List.pairwise_append.mpr ⟨s.few.ap, List.pairwise_singleton _ _, fun a ha b hb => ?_⟩
    rw [List.mem_singleton.mp hb]
    exact hin a ha
  · refine List.pairwise_append.mpr ⟨s.few.red, List.pairwise_singleton _ _, fun a ha b hb q => ?_⟩
    rw [List.mem_singleton.mp hb] at q
    have q1 : a.2 = h := q.1
    have q3 : cur = a.1 + 2 ^ a.2 := q.2.2
    have q4 := s.mx a ha q.2.1
    have q5 := g.le
    rw [q1] at q3 q4
    omega
  · rw [cov_app, s.few.cov, cov_one]
    simp only [inB, fin]
    have := s.lc
    omega
  · rcases List.mem_append.mp he with q | q
    · exact s.mx e q
    · rw [List.mem_singleton.mp q]
      intro z
      by_cases c : cur + 2 ^ (h + 1) ≤ high
      · exact absurd ⟨z, c⟩ g.no
      · show high < cur + 2 ^ (h + 1)
        omega
  · rw [List.length_append, List.length_singleton]
    have nx : (cur + 2 ^ h) % 2 ^ h = 0 := by rw [Nat.add_mod_right]; exact g.al
    rcases s.len with ⟨a, a1, a2, a3⟩ | ⟨c, c1, c2, c3, c4⟩
    · by_cases z : cur % 2 ^ (h + 1) = 0
      · refine .inr ⟨h, hh, by omega, nx, ?_⟩
        by_cases c : cur + 2 ^ (h + 1) ≤ high
        · exact absurd ⟨z, c⟩ g.no
        · omega
      · have ha : a ≤ h := by
          by_cases c : a ≤ h
          · exact c
          · exact absurd (mod_of_le a3 (by omega)) z
        refine .inl ⟨h + 1, by omega, by omega, ?_⟩
        have d : cur % 2 ^ (h + 1) = 2 ^ h := by
          have e1 : cur % 2 ^ (h + 1) < 2 ^ (h + 1) := Nat.mod_lt _ (two_pos _)
          have e2 : cur % 2 ^ (h + 1) % 2 ^ h = 0 := by
            rw [Nat.mod_mod_of_dvd _ (Nat.pow_dvd_pow 2 (Nat.le_succ h))]
            exact g.al
          obtain ⟨k, hk⟩ := Nat.dvd_of_mod_eq_zero e2
          have k2 : k < 2 := by
            rcases Nat.lt_or_ge k 2 with q | q
            · exact q
            · have := Nat.mul_le_mul_left (2 ^ h) q
              omega
          have k1 : k = 1 := by
            rcases (show k = 0 ∨ k = 1 by omega) with q | q
            · rw [q] at hk
              omega
            · exact q
          rw [hk, k1, Nat.mul_one]
        rw [Nat.add_mod, d, Nat.mod_eq_of_lt (show 2 ^ h < 2 ^ (h + 1) by omega), ← hp]
        exact Nat.mod_self _
    · have hc : h < c := by
        rcases Nat.lt_or_ge h c with q | q
        · exact q
        · have := Nat.pow_le_pow_right (show 1 ≤ 2 by decide) q
          have := g.le
          omega
      have z : cur % 2 ^ (h + 1) = 0 := mod_of_le c3 hc
      refine .inr ⟨h, hh, by omega, nx, ?_⟩
      by_cases c : cur + 2 ^ (h + 1) ≤ high
      · exact absurd ⟨z, c⟩ g.no
      · omega
theorem Strv.len130 {n low cur high : Nat} {f : List B} (s : Strv n low cur high f) : f.length ≤ 130 := by
  rcases s.len with ⟨a, a1, a2, _⟩ | ⟨c, c1, c2, _⟩ <;> omega
/-! ### gaps -/
/-- gaps in the making -/
structure Gapv (n low cur high : Nat) (done todo : List B) (f : List B) : Prop where
  few : Few n f fun x => low ≤ x ∧ x < cur ∧ ¬ cov done x
  lt : ∀ e ∈ f, fin e < cur
  dn : ∀ b ∈ done, fin b ≤ cur
  td : ∀ b ∈ todo, cur ≤ b.1 ∧ fin b ≤ high
  ap : Ap todo
  lc : low ≤ cur
  ch : cur ≤ high
  len : f.length ≤ 130 * done.length
theorem Gapv.start {n low high : Nat} {bs : List B} (h : low ≤ high) (ap : Ap bs) (hb : ∀ b ∈ bs, low ≤ b.1 ∧ fin b ≤ high) : Gapv n low low high [] bs [] :=
  ⟨(few_nil n).iff fun x => ⟨False.elim, fun h => by omega⟩, fun e he => (by cases he), fun b hb => (by cases hb), hb, ap, Nat.le_refl _, h, Nat.zero_le _⟩
theorem Gapv.next {n low cur high : Nat} {done todo f g : List B} {b : B} (s : Gapv n low cur high done (b :: todo) f) (hg : Few n g fun x => cur ≤ x ∧ x < b.1) (gl : g.length ≤ 130) :
    Gapv n low (fin b) high (done ++ [b]) todo (f ++ g) := by
  obtain ⟨t1, t2⟩ := s.td b List.mem_cons_self
  have ap := List.pairwise_cons.mp s.ap
  have hw := hg.within (low := cur) (high := b.1) fun x h => h
  have fb := fin_gt b
  refine ⟨?_, fun e he => ?_, fun c hc => ?_, fun c hc => ?_, ap.2, by have := s.lc; omega, t2, ?_⟩
  · refine (s.few.app hg fun a ha c hc => by have := s.lt a ha; have := (hw c hc).1; omega).iff fun x => ?_
    rw [cov_app, cov_one]
    simp only [inB]
    constructor
    · rintro (⟨h1, h2, h3⟩ | ⟨h1, h2⟩)
      · exact ⟨h1, by omega, fun h => h.elim h3 fun h => by omega⟩
      · refine ⟨by have := s.lc; omega, by omega, fun h => h.elim (fun ⟨c, hc, hx⟩ => ?_) fun h => by omega⟩
        have := s.dn c hc
        have := hx.2
        omega
    · rintro ⟨h1, h2, h3⟩
      by_cases c : x < cur
      · exact .inl ⟨h1, c, fun h => h3 (.inl h)⟩
      · refine .inr ⟨by omega, ?_⟩
        rcases Nat.lt_or_ge x b.1 with q | q
        · exact q
        · exact absurd (.inr ⟨q, h2⟩) h3
  · rcases List.mem_append.mp he with q | q
    · have := s.lt e q
      omega
    · have := (hw e q).2
      omega
  · rcases List.mem_append.mp hc with q | q
    · have := s.dn c q
      omega
    · rw [List.mem_singleton.mp q]
      exact Nat.le_refl _
  · exact ⟨ap.1 c hc, (s.td c (List.mem_cons_of_mem _ hc)).2⟩
  · rw [List.length_append, List.length_append, List.length_singleton]
    have := s.len
    omega
theorem Gapv.end {n low cur high : Nat} {bs f g : List B} (s : Gapv n low cur high bs [] f) (hg : Few n g fun x => cur ≤ x ∧ x < high) (gl : g.length ≤ 130) :
    Few n (f ++ g) (fun x => low ≤ x ∧ x < high ∧ ¬ cov bs x) ∧ (f ++ g).length ≤ 130 * (bs.length + 1) := by
  have hw := hg.within (low := cur) (high := high) fun x h => h
  refine ⟨(s.few.app hg fun a ha c hc => by have := s.lt a ha; have := (hw c hc).1; omega).iff fun x => ?_, ?_⟩
  · constructor
    · rintro (⟨h1, h2, h3⟩ | ⟨h1, h2⟩)
      · exact ⟨h1, by have := s.ch; omega, h3⟩
      · refine ⟨by have := s.lc; omega, h2, fun ⟨c, hc, hx⟩ => ?_⟩
        have := s.dn c hc
        have := hx.2
        omega
    · rintro ⟨h1, h2, h3⟩
      by_cases c : x < cur
      · exact .inl ⟨h1, c, h3⟩
      · exact .inr ⟨by omega, h2⟩
  · rw [List.length_append]
    have := s.len
    omega
/-! ### one patch without another -/
theorem gaps_of {n : Nat} {b : B} {other : List B} (ob : Okb n b) (oo : ∀ c ∈ other, Okb n c) (h : ∀ c ∈ other, ¬ holdsB c b) {x : Nat} (hx : inB x b) :
    cov (other.filter fun c => decide (holdsB b c)) x ↔ cov other x := by
  constructor
  · rintro ⟨c, hc, q⟩
    exact ⟨c, (List.mem_filter.mp hc).1, q⟩
  · rintro ⟨c, hc, q⟩
    refine ⟨c, List.mem_filter.mpr ⟨hc, decide_eq_true ?_⟩, q⟩
    have h1 := hx.1
    have h2 := hx.2
    have h3 := q.1
    have h4 := q.2
    by_cases z : b.2 ≤ c.2
    · rcases nest ob.al (oo c hc).al z with y | y | y
      · exact absurd y (h c hc)
      · omega
      · omega
    · rcases nest (oo c hc).al ob.al (by omega) with y | y | y
      · exact y
      · omega
      · omega
/-- without in the making: found has what the blocks done have, without other's -/
structure Wov (n : Nat) (other done f : List B) : Prop where
  ok : ∀ b ∈ f, Okb n b
  cov : ∀ x, cov f x ↔ cov done x ∧ ¬ cov other x
  len : f.length ≤ 130 * (other.length + 1) * done.length
theorem Wov.start {n : Nat} {other : List B} : Wov n other [] [] := ⟨fun b hb => (by cases hb), fun x => ⟨fun h => absurd h (cov_nil x), fun h => absurd h.1 (cov_nil x)⟩, Nat.zero_le _⟩
theorem Wov.skip {n : Nat} {other done f : List B} {b c : B} (s : Wov n other done f) (hc : c ∈ other) (h : holdsB c b) : Wov n other (done ++ [b]) f := by
  refine ⟨s.ok, fun x => ?_, ?_⟩
  · rw [s.cov, cov_app, cov_one]
    constructor
    · rintro ⟨h1, h2⟩
      exact ⟨.inl h1, h2⟩
    · rintro ⟨h1 | h1, h2⟩
      · exact ⟨h1, h2⟩
      · refine absurd ⟨c, hc, ?_⟩ h2
        exact ⟨Nat.le_trans h.1 h1.1, Nat.lt_of_lt_of_le h1.2 h.2⟩
  · rw [List.length_append, List.length_singleton]
    exact Nat.le_trans s.len (Nat.mul_le_mul_left _ (Nat.le_succ _))
theorem Wov.add {n : Nat} {other done f g : List B} {b : B} (s : Wov n other done f) (ob : Okb n b) (oo : ∀ c ∈ other, Okb n c) (h : ∀ c ∈ other, ¬ holdsB c b)
    (hg : Few n g fun x => b.1 ≤ x ∧ x < fin b ∧ ¬ K54.cov (other.filter fun c => decide (holdsB b c)) x) (gl : g.length ≤ 130 * ((other.filter fun c => decide (holdsB b c)).length + 1)) : Wov n other (done ++ [b]) (f ++ g) := by
  refine ⟨fun c hc => ?_, fun x => ?_, ?_⟩
  · rcases List.mem_append.mp hc with q | q
    · exact s.ok c q
    · exact hg.ok c q
  · rw [cov_app, s.cov, hg.cov, cov_app, cov_one]
    constructor
    · rintro (⟨h1, h2⟩ | ⟨h1, h2, h3⟩)
      · exact ⟨.inl h1, h2⟩
      · exact ⟨.inr ⟨h1, h2⟩, fun q => h3 ((gaps_of ob oo h ⟨h1, h2⟩).mpr q)⟩
    · rintro ⟨h1 | h1, h2⟩
      · exact .inl ⟨h1, h2⟩
      · exact .inr ⟨h1.1, h1.2, fun q => h2 ((gaps_of ob oo h h1).mp q)⟩
  · rw [List.length_append, List.length_append, List.length_singleton, Nat.mul_add, Nat.mul_one]
    have h1 := s.len
    have h2 : (other.filter fun c => decide (holdsB b c)).length ≤ other.length := List.length_filter_le _ _
    have h3 : 130 * ((other.filter fun c => decide (holdsB b c)).length + 1) ≤ 130 * (other.length + 1) := Nat.mul_le_mul_left _ (by omega)
    omega
/-! ### how many addresses -/
def sizes (l : List B) : Nat := (l.map fun b => 2 ^ b.2).sum
theorem sizes_cons (b : B) (l : List B) : sizes (b :: l) = 2 ^ b.2 + sizes l := by simp [sizes]
theorem count_all : ∀ {l : List B} {low high : Nat}, Ap l → (∀ b ∈ l, low ≤ b.1 ∧ fin b ≤ high) → low ≤ high → (∀ x, low ≤ x → x < high → cov l x) → sizes l = high - low
  | [], low, high, _, _, h, hc => by
    rcases Nat.lt_or_ge low high with q | q
    · exact absurd (hc low (Nat.le_refl _) q) (cov_nil low)
    · show 0 = _
      omega
  | b :: l, low, high, ap, hb, h, hc => by
    rw [Ap, List.pairwise_cons] at ap
    obtain ⟨b1, b2⟩ := hb b List.mem_cons_self
    have fb := fin_gt b
    have e : b.1 = low := by
      obtain ⟨c, hm, q1, q2⟩ := hc low (Nat.le_refl _) (by omega)
      rcases List.mem_cons.mp hm with rfl | hm
      · omega
      · have := ap.1 c hm
        omega
    have ih := count_all (l := l) (low := fin b) (high := high) ap.2 (fun c hm => ⟨ap.1 c hm, (hb c (List.mem_cons_of_mem _ hm)).2⟩) b2 fun x h1 h2 => by
      rcases cov_cons.mp (hc x (by omega) h2) with q | q
      · have := q.2
        omega
      · exact q
    rw [sizes_cons, ih]
    have : fin b = b.1 + 2 ^ b.2 := rfl
    omega
/-! ### parts put together and sorted -/
def disj (a b : B) : Prop := fin a ≤ b.1 ∨ fin b ≤ a.1
theorem disj_comm {a b : B} (h : disj a b) : disj b a := Or.comm.mp h
theorem Ap.disj {l : List B} (h : Ap l) : l.Pairwise disj := h.imp fun {a b} q => .inl q
/-- by the begin -/
def blt (p q : B) : Prop := p.1 < q.1 ∨ (p.1 = q.1 ∧ p.2 ≤ q.2)
theorem ap_sorted {l m : List B} (hd : m.Pairwise disj) (hp : l.Perm m) (hs : l.Pairwise blt) : Ap l := by
  have h1 : l.Pairwise disj := hd.perm hp.symm fun {a b} h => disj_comm h
  refine (List.Pairwise.and h1 hs).imp fun {a b} q => ?_
  rcases q.1 with c | c
  · exact c
  · have := fin_gt a
    have := fin_gt b
    rcases q.2 with d | d <;> omega
theorem disj_of {n : Nat} {a b : B} (oa : Okb n a) (ob : Okb n b) (h : ∀ x, inB x a → inB x b → False) : disj a b := by
  by_cases z : a.2 ≤ b.2
  · rcases nest oa.al ob.al z with y | y | y
    · exact (h a.1 (inB_self a) ⟨y.1, by have := fin_gt a; omega⟩).elim
    · exact .inl y
    · exact .inr y
  · rcases nest ob.al oa.al (by omega) with y | y | y
    · exact (h b.1 ⟨y.1, by have := fin_gt b; omega⟩ (inB_self b)).elim
    · exact .inr y
    · exact .inl y
theorem disj_no {a b : B} (h : disj a b) {x : Nat} (xa : inB x a) (xb : inB x b) : False := by
  have := xa.1
  have := xa.2
  have := xb.1
  have := xb.2
  rcases h with h | h <;> omega
theorem few_row (n : Nat) : Few n [(0, n)] fun x => x < 2 ^ n := by
  refine ⟨fun b hb => ?_, List.pairwise_singleton _ _, List.pairwise_singleton _ _, fun x => ?_⟩
  · rw [List.mem_singleton.mp hb]
    exact ⟨Nat.zero_mod _, by rw [Nat.zero_add]; exact Nat.le_refl _⟩
  · rw [cov_one]
    simp only [inB, fin, Nat.zero_add]
    exact ⟨fun h => h.2, fun h => ⟨Nat.zero_le _, h⟩⟩
end K54
end
section
set_option Elab.async false
set_option linter.all false
set_option maxRecDepth 100000
/-! What stands between the hand layer and this program: data of tuples, what is kept, calls, a few rules. -/
namespace K54
open PySem PySem.Spec PyProof.Rows L2
/-! ### data made of tuples -/
mutual
inductive Tp (H : Hp) : V → PyData → Prop
  | non : Tp H .non .none
  | bl (b : Bool) : Tp H (.bl b) (.bool b)
  | int (i : Int) : Tp H (.int i) (.int i)
  | str (x : Str) : Tp H (.str x) (.str x)
  | tup {a : Addr} {xs : List V} {ds : List PyData} : H a = some (.tup xs) → TpA H xs ds → Tp H (.ref a) (.tuple ds)
inductive TpA (H : Hp) : List V → List PyData → Prop
  | nil : TpA H [] []
  | cons {v : V} {vs : List V} {d : PyData} {ds : List PyData} : Tp H v d → TpA H vs ds → TpA H (v :: vs) (d :: ds)
end
theorem Tp.intD {H : Hp} {v : V} {i : Int} (h : Tp H v (.int i)) : v = .int i := by cases h; rfl
theorem Tp.strD {H : Hp} {v : V} {x : Str} (h : Tp H v (.str x)) : v = .str x := by cases h; rfl
theorem Tp.nonD {H : Hp} {v : V} (h : Tp H v .none) : v = .non := by cases h; rfl
theorem Tp.tupD {H : Hp} {v : V} {ds : List PyData} (h : Tp H v (.tuple ds)) : ∃ a xs, v = .ref a ∧ H a = some (.tup xs) ∧ TpA H xs ds := by
  cases h with
  | tup h1 h2 => exact ⟨_, _, rfl, h1, h2⟩
theorem TpA.len : ∀ {H : Hp} {vs : List V} {ds : List PyData}, TpA H vs ds → vs.length = ds.length
  | _, _, _, .nil => rfl
  | _, _, _, .cons _ t => congrArg Nat.succ (TpA.len t)
theorem TpA.get : ∀ {H : Hp} {vs : List V} {ds : List PyData} {i : Nat} {d : PyData}, TpA H vs ds → ds[i]? = some d → ∃ v, vs[i]? = some v ∧ Tp H v d
  | _, _, _, _, _, .nil, e => by simp at e
  | _, _, _, 0, d, .cons (d := d0) h t, e => by
    have q : d0 = d := Option.some.inj (by simpa using e)
    exact ⟨_, rfl, q ▸ h⟩
  | _, _, _, i + 1, _, .cons h t, e => by
    obtain ⟨v, h1, h2⟩ := TpA.get (i := i) t (by simpa using e)
    exact ⟨v, by simpa using h1, h2⟩
theorem TpA.at : ∀ {H : Hp} {vs : List V} {ds : List PyData} {i : Nat} {v : V}, TpA H vs ds → vs[i]? = some v → ∃ d, ds[i]? = some d ∧ Tp H v d
  | _, _, _, _, _, .nil, e => by simp at e
  | _, _, _, 0, v, .cons (v := v0) h t, e => by
    have q : v0 = v := Option.some.inj (by simpa using e)
    exact ⟨_, rfl, q ▸ h⟩
  | _, _, _, i + 1, _, .cons h t, e => by
    obtain ⟨d, h1, h2⟩ := TpA.at (i := i) t (by simpa using e)
    exact ⟨d, by simpa using h1, h2⟩
theorem TpA.app : ∀ {H : Hp} {xs ys : List V} {ds es : List PyData}, TpA H xs ds → TpA H ys es → TpA H (xs ++ ys) (ds ++ es)
  | _, _, _, _, _, .nil, s => s
  | _, _, _, _, _, .cons h t, s => .cons h (TpA.app t s)
theorem TpA.take : ∀ {H : Hp} {xs : List V} {ds : List PyData} (n : Nat), TpA H xs ds → TpA H (xs.take n) (ds.take n)
  | _, _, _, 0, _ => .nil
  | _, _, _, _ + 1, .nil => .nil
  | _, _, _, n + 1, .cons h t => .cons h (TpA.take n t)
theorem TpA.drop : ∀ {H : Hp} {xs : List V} {ds : List PyData} (n : Nat), TpA H xs ds → TpA H (xs.drop n) (ds.drop n)
  | _, _, _, 0, t => t
  | _, _, _, _ + 1, .nil => .nil
  | _, _, _, n + 1, .cons h t => TpA.drop n t
theorem TpA.dropLast : ∀ {H : Hp} {xs : List V} {ds : List PyData}, TpA H xs ds → TpA H xs.dropLast ds.dropLast
  | _, _, _, .nil => .nil
  | _, _, _, .cons h .nil => .nil
  | _, _, _, .cons h (.cons h' t) => .cons h (TpA.dropLast (.cons h' t))
mutual
theorem Tp.go {H H' : Hp} (k : ∀ a xs, H a = some (.tup xs) → H' a = some (.tup xs)) : ∀ {v : V} {d : PyData}, Tp H v d → Tp H' v d
  | _, _, .non => .non
  | _, _, .bl b => .bl b
  | _, _, .int i => .int i
  | _, _, .str x => .str x
  | _, _, .tup h t => .tup (k _ _ h) (TpA.go k t)
theorem TpA.go {H H' : Hp} (k : ∀ a xs, H a = some (.tup xs) → H' a = some (.tup xs)) : ∀ {vs : List V} {ds : List PyData}, TpA H vs ds → TpA H' vs ds
  | _, _, .nil => .nil
  | _, _, .cons h t => .cons (Tp.go k h) (TpA.go k t)
end
mutual
theorem Tp.dp {K : PySem.W.Frag} {H : Hp} : ∀ {v : V} {d : PyData}, Tp H v d → Dp K H v d
  | _, _, .non => .non
  | _, _, .bl b => .bl b
  | _, _, .int i => .int i
  | _, _, .str x => .str x
  | _, _, .tup h t => .tup (SqT.of h) (TpA.dp t)
theorem TpA.dp {K : PySem.W.Frag} {H : Hp} : ∀ {vs : List V} {ds : List PyData}, TpA H vs ds → DpAll K H vs ds
  | _, _, .nil => .nil
  | _, _, .cons h t => .cons (Tp.dp h) (TpA.dp t)
end
/-- a tuple of two -/
theorem Tp.two {H : Hp} {v : V} {d e : PyData} (h : Tp H v (.tuple [d, e])) : ∃ a x y, v = .ref a ∧ H a = some (.tup [x, y]) ∧ Tp H x d ∧ Tp H y e := by
  obtain ⟨a, xs, rfl, h1, h2⟩ := h.tupD
  cases h2 with
  | cons h3 t =>
    cases t with
    | cons h4 t =>
      cases t
      exact ⟨a, _, _, rfl, h1, h3, h4⟩
theorem Tp.three {H : Hp} {v : V} {d e f : PyData} (h : Tp H v (.tuple [d, e, f])) : ∃ a x y z, v = .ref a ∧ H a = some (.tup [x, y, z]) ∧ Tp H x d ∧ Tp H y e ∧ Tp H z f := by
  obtain ⟨a, xs, rfl, h1, h2⟩ := h.tupD
  cases h2 with
  | cons h3 t =>
    cases t with
    | cons h4 t =>
      cases t with
      | cons h5 t =>
        cases t
        exact ⟨a, _, _, _, rfl, h1, h3, h4, h5⟩
/-! ### blocks, patches, owned blocks, deals as data -/
def bD (b : B) : PyData := .tuple [.int (b.1 : Nat), .int (b.2 : Nat)]
def pD (bs : List B) : PyData := .tuple (bs.map bD)
abbrev O := B × Str
def oD (o : O) : PyData := .tuple [bD o.1, .str o.2]
def osD (os : List O) : PyData := .tuple (os.map oD)
def dD (n : Nat) (outs kept : List O) : PyData := .tuple [.int (n : Nat), osD outs, osD kept]
theorem Tp.bk {H : Hp} {v : V} {b : B} (h : Tp H v (bD b)) : ∃ a, v = .ref a ∧ H a = some (.tup [.int (b.1 : Nat), .int (b.2 : Nat)]) := by
  obtain ⟨a, x, y, e, h1, h2, h3⟩ := Tp.two h
  rw [h2.intD, h3.intD] at h1
  exact ⟨a, e, h1⟩
theorem Tp.bkI {H : Hp} {a : Addr} {b : B} (h : H a = some (.tup [.int (b.1 : Nat), .int (b.2 : Nat)])) : Tp H (.ref a) (bD b) := .tup h (.cons (.int _) (.cons (.int _) .nil))
theorem Tp.ow {H : Hp} {v : V} {o : O} (h : Tp H v (oD o)) : ∃ a c, v = .ref a ∧ H a = some (.tup [.ref c, .str o.2]) ∧ H c = some (.tup [.int (o.1.1 : Nat), .int (o.1.2 : Nat)]) := by
  obtain ⟨a, x, y, e, h1, h2, h3⟩ := Tp.two h
  obtain ⟨c, rfl, h4⟩ := h2.bk
  rw [h3.strD] at h1
  exact ⟨a, c, e, h1, h4⟩
theorem Tp.pa {H : Hp} {v : V} {bs : List B} (h : Tp H v (pD bs)) : ∃ a xs, v = .ref a ∧ H a = some (.tup xs) ∧ TpA H xs (bs.map bD) := Tp.tupD h
theorem Tp.osA {H : Hp} {v : V} {os : List O} (h : Tp H v (osD os)) : ∃ a xs, v = .ref a ∧ H a = some (.tup xs) ∧ TpA H xs (os.map oD) := Tp.tupD h
theorem map_at {α β : Type} {f : α → β} {l : List α} {i : Nat} {y : β} (h : (l.map f)[i]? = some y) : ∃ x, l[i]? = some x ∧ y = f x := by
  rw [List.getElem?_map] at h
  cases e : l[i]? with
  | none => rw [e] at h; cases h
  | some x => rw [e] at h; exact ⟨x, rfl, (Option.some.inj h).symm⟩
theorem at_map {α β : Type} {f : α → β} {l : List α} {i : Nat} {x : α} (h : l[i]? = some x) : (l.map f)[i]? = some (f x) := by rw [List.getElem?_map, h]; rfl
theorem TpA.bk {H : Hp} {xs : List V} {bs : List B} {i : Nat} {v : V} (h : TpA H xs (bs.map bD)) (e : xs[i]? = some v) : ∃ b, bs[i]? = some b ∧ Tp H v (bD b) := by
  obtain ⟨d, h1, h2⟩ := h.at e
  obtain ⟨b, h3, rfl⟩ := map_at h1
  exact ⟨b, h3, h2⟩
theorem TpA.ow {H : Hp} {xs : List V} {os : List O} {i : Nat} {v : V} (h : TpA H xs (os.map oD)) (e : xs[i]? = some v) : ∃ o, os[i]? = some o ∧ Tp H v (oD o) := by
  obtain ⟨d, h1, h2⟩ := h.at e
  obtain ⟨b, h3, rfl⟩ := map_at h1
  exact ⟨b, h3, h2⟩
theorem TpA.lenB {α : Type} {f : α → PyData} {H : Hp} {xs : List V} {bs : List α} (h : TpA H xs (bs.map f)) : xs.length = bs.length := by rw [h.len, List.length_map]
theorem TpA.snoc {α : Type} {f : α → PyData} {H : Hp} {xs : List V} {bs : List α} {v : V} {b : α} (h : TpA H xs (bs.map f)) (hv : Tp H v (f b)) : TpA H (xs ++ [v]) ((bs ++ [b]).map f) := by
  rw [List.map_append]
  exact h.app (.cons hv .nil)
/-! equal data -/
theorem eqv_int (i j : Int) : PyData.eqv (.int i) (.int j) = decide (i = j) := by simp [PyData.eqv, Bool.beq_eq_decide_eq]
/-! ### the table of fewest's code object, what is kept -/
def tabAt (K : PySem.W.Frag) : Addr := (He.cT K ("fewest", none)).2
def lamQ : Str := ("fewest" : Str) ++ ".<locals>." ++ "<lambda>"
def Tb (K : PySem.W.Frag) (H : Hp) : Prop := LamX.TabS H (tabAt K) lamQ
/-- all but the lists at L, and the table, is kept -/
structure Ex (K : PySem.W.Frag) (L : List Addr) (H H' : Hp) : Prop where
  ls : ∀ l ∈ L, (∃ xs, H l = some (.lst xs)) ∧ ∃ xs, H' l = some (.lst xs)
  keep : ∀ b o, b ∉ L → H b = some o → (∀ ps, o ≠ .tbl ps) → H' b = some o
  tab : Tb K H → Tb K H'
/-- nothing that is kept stands at l -/
def Nw (H : Hp) (l : Addr) : Prop := ∀ o, H l = some o → ∃ ps, o = .tbl ps
section
variable {K : PySem.W.Frag} {L : List Addr} {H H1 H2 : Hp} {a l p : Addr} {o : HO} {xs ys : List V}
theorem Nw.of (h : H l = none) : Nw H l := fun o e => by rw [h] at e; cases e
theorem Ex.refl : Ex K [] H H := ⟨fun l hl => (by cases hl), fun _ _ _ e _ => e, id⟩
theorem Ex.reflL (h : H l = some (.lst xs)) : Ex K [l] H H := ⟨fun b hb => by rw [List.mem_singleton.mp hb]; exact ⟨⟨_, h⟩, ⟨_, h⟩⟩, fun _ _ _ e _ => e, id⟩
theorem Ex.trans (e : Ex K L H H1) (f : Ex K L H1 H2) : Ex K L H H2 := ⟨fun l hl => ⟨(e.ls l hl).1, (f.ls l hl).2⟩, fun b o hb q n => f.keep b o hb (e.keep b o hb q n) n, fun t => f.tab (e.tab t)⟩
theorem Ex.tup (e : Ex K L H H1) (h : H a = some (.tup xs)) : H1 a = some (.tup xs) := by
  refine e.keep a _ (fun hl => ?_) h fun ps q => by cases q
  obtain ⟨⟨ys, q⟩, _⟩ := e.ls a hl
  rw [h] at q
  cases q
theorem Ex.tp (e : Ex K L H H1) {v : V} {d : PyData} (h : Tp H v d) : Tp H1 v d := h.go fun _ _ q => e.tup q
theorem Ex.tpA (e : Ex K L H H1) {vs : List V} {ds : List PyData} (h : TpA H vs ds) : TpA H1 vs ds := h.go fun _ _ q => e.tup q
theorem Ex.lst (e : Ex K L H H1) (hl : l ∉ L) (h : H l = some (.lst xs)) : H1 l = some (.lst xs) := e.keep l _ hl h fun ps q => by cases q
theorem Ex.lst0 (e : Ex K [] H H1) (h : H l = some (.lst xs)) : H1 l = some (.lst xs) := e.lst (by simp) h
theorem Ex.seqL (e : Ex K [] H H1) (h : SqL K H a xs) : SqL K H1 a xs := by
  rcases h with (h | ⟨o, h⟩) | h
  · exact .inl (.inl (e.lst0 h))
  · exact .inl (.inr ⟨o, e.keep _ _ (by simp) h fun ps q => by cases q⟩)
  · exact .inr h
theorem Tb.keep (t : Tb K H) (k : ∀ b o, H b = some o → (∃ q, o = LamX.CodeO b q) ∨ (∃ ps, o = .tbl ps) → H1 b = some o) : Tb K H1 := by
  obtain ⟨ps, h1, h2, h3⟩ := t
  refine ⟨ps, k _ _ h1 (.inr ⟨ps, rfl⟩), h2, fun pos cv hc => ?_⟩
  obtain ⟨c, e1, e2⟩ := h3 pos cv hc
  exact ⟨c, e1, k _ _ e2 (.inl ⟨_, rfl⟩)⟩
theorem Tb.new (t : Tb K H) (h : H p = none) : Tb K (upd H p o) := t.keep fun b u q _ => by rw [upd_ne (ne_of_none q h)]; exact q
theorem Tb.put (t : Tb K H) (h : H l = some (.lst xs)) : Tb K (upd H l (.lst ys)) := t.keep fun b o q z => by
  have nb : b ≠ l := fun e => by
    rw [e, h] at q
    cases q
    rcases z with ⟨w, z⟩ | ⟨ps, z⟩
    · unfold LamX.CodeO at z
      cases z
    · cases z
  rw [upd_ne nb]
  exact q
theorem Ex.of_same (s : ∀ b o, H b = some o → H1 b = some o) : Ex K [] H H1 := ⟨fun l hl => (by cases hl), fun b o _ q _ => s b o q, fun t => t.keep fun b o q _ => s b o q⟩
theorem Ex.new (h : H p = none) : Ex K [] H (upd H p o) := .of_same fun b u q => by rw [upd_ne (ne_of_none q h)]; exact q
theorem Ex.newL (e : Ex K L H H1) (h : H1 p = none) : Ex K L H (upd H1 p o) :=
  ⟨fun l hl => ⟨(e.ls l hl).1, by
    obtain ⟨xs, q⟩ := (e.ls l hl).2
    exact ⟨xs, by rw [upd_ne (ne_of_none q h)]; exact q⟩⟩, fun b u hb q n => (by rw [upd_ne (ne_of_none (e.keep b u hb q n) h)]; exact e.keep b u hb q n), fun t => (e.tab t).new h⟩
/-- a list is written -/
theorem Ex.put (h : H l = some (.lst xs)) : Ex K [l] H (upd H l (.lst ys)) :=
  ⟨fun b hb => by rw [List.mem_singleton.mp hb]; exact ⟨⟨xs, h⟩, ⟨ys, upd_same⟩⟩, fun b o hb q _ => by rw [upd_ne (fun e => hb (by rw [e]; exact List.mem_singleton_self _))]; exact q, fun t => t.put h⟩
/-- a list at L is written -/
theorem Ex.putL (e : Ex K L H H1) (hl : l ∈ L) (h : H1 l = some (.lst xs)) : Ex K L H (upd H1 l (.lst ys)) := by
  refine ⟨fun b hb => ⟨(e.ls b hb).1, ?_⟩, fun b o hb q n => ?_, fun t => (e.tab t).put h⟩
  · by_cases z : b = l
    · exact ⟨ys, by rw [z]; exact upd_same⟩
    · obtain ⟨us, q⟩ := (e.ls b hb).2
      exact ⟨us, by rw [upd_ne z]; exact q⟩
  · rw [upd_ne (fun z => hb (by rw [z]; exact hl))]
    exact e.keep b o hb q n
/-- nothing kept of H stands at an address that is free later -/
theorem Ex.nw (e : Ex K L H H1) (h : H1 l = none) : Nw H l := fun o q => by
  by_cases nl : l ∈ L
  · obtain ⟨xs, z⟩ := (e.ls l nl).2
    rw [h] at z
    cases z
  · cases o with
    | tbl ps => exact ⟨ps, rfl⟩
    | _ =>
      have z := e.keep l _ nl q (fun ps z => by cases z)
      rw [h] at z
      cases z
theorem Ex.nwL (e : Ex K L H H1) (h : H1 l = none) : l ∉ L := fun nl => by
  obtain ⟨xs, z⟩ := (e.ls l nl).2
  rw [h] at z
  cases z
theorem Nw.ne (n : Nw H l) (h : H b = some (.lst xs)) : b ≠ l := fun e => by
  rw [e] at h
  obtain ⟨ps, z⟩ := n _ h
  cases z
theorem Nw.neT (n : Nw H l) (h : H b = some (.tup xs)) : b ≠ l := fun e => by
  rw [e] at h
  obtain ⟨ps, z⟩ := n _ h
  cases z
/-- what is written was not there ahead -/
theorem Ex.cut (e : Ex K L H H1) (h : Nw H l) (f : Ex K [l] H1 H2) (nl : l ∉ L) : Ex K L H H2 := by
  refine ⟨fun b hb => ⟨(e.ls b hb).1, ?_⟩, fun b o hb q n => f.keep b o (fun hm => ?_) (e.keep b o hb q n) n, fun t => f.tab (e.tab t)⟩
  · obtain ⟨xs, q⟩ := (e.ls b hb).2
    exact ⟨xs, f.lst (fun hm => nl (by rw [← List.mem_singleton.mp hm]; exact hb)) q⟩
  · rw [List.mem_singleton.mp hm] at q
    obtain ⟨ps, z⟩ := h _ q
    exact n ps z
theorem Ex.cut0 (e : Ex K [] H H1) (h : Nw H l) (f : Ex K [l] H1 H2) : Ex K [] H H2 := e.cut h f (by simp)
theorem Ex.put0 (e : Ex K [] H H1) (n : Nw H l) (h : H1 l = some (.lst xs)) : Ex K [] H (upd H1 l (.lst ys)) := e.cut0 n (Ex.put h)
theorem Ex.thenL (e : Ex K L H H1) (f : Ex K [] H1 H2) : Ex K L H H2 :=
  ⟨fun l hl => ⟨(e.ls l hl).1, let ⟨xs, q⟩ := (e.ls l hl).2; ⟨xs, f.lst0 q⟩⟩, fun b o hb q n => f.keep b o (by simp) (e.keep b o hb q n) n, fun t => f.tab (e.tab t)⟩
theorem Ex.headL (e : Ex K [] H H1) (f : Ex K L H1 H2) (h : ∀ l ∈ L, ∃ xs, H l = some (.lst xs)) : Ex K L H H2 :=
  ⟨fun l hl => ⟨h l hl, (f.ls l hl).2⟩, fun b o hb q n => f.keep b o hb (e.keep b o (by simp) q n) n, fun t => f.tab (e.tab t)⟩
end
end K54
end
section
set_option Elab.async false
set_option linter.all false
set_option maxRecDepth 100000
/-! Defs by name, their calls; some rules that the layer lacks. -/
namespace K54
open PySem PySem.Spec PyProof.Rows L2
/-! ### defs by name -/
/-- the module's name x stands for the def st of the text -/
def Def (K : PySem.W.Frag) (mg : Str → Option Value) (x : Str) (st : Stmt) : Prop := ∃ f fd, Fun K x x st f fd ∧ mg x = some (.ref f)
/-- the def x keeps the promise sp -/
def Ok (P : Program) (w : World) (K : PySem.W.Frag) (mg : Str → Option Value) (base : Heap) (k : Nat) (x : Str) (ps : List Str) (sp : Sp) : Prop :=
  ∃ f fd, FnOk P w K mg base CX0 k f fd ps sp ∧ mg x = some (.ref f) ∧ PySem.W.keepIn K (.ref f) = true ∧ Binds K fd ps []
/-- how the arguments bind -/
def BindsAs (x : Str) (st : Stmt) (ps : List Str) : Prop :=
  ∀ (kV doc pm : Value) (an : Option Addr) (cdv ct : Value) (us : List Value), us.length = ps.length → bindArgs (PySem.W.fnOf x x (defArgs st) (defBody st) (defScope st) .none kV doc pm an cdv ct) ⟨us, []⟩ = pure (ps.zip us)
section
variable {P : Program} {w : World} {K : PySem.W.Frag} {mg : Str → Option Value} {base : Heap}
theorem Def.ok {x : Str} {st : Stmt} {N ps : List Str} {k : Nat} {sp : Sp} (D : Def K mg x st) (S : FnScope N ps (defScope st)) (hb : BindsAs x st ps) (len : ∀ vs H Q E, sp vs H Q E → vs.length = ps.length)
    (hbody : ∀ (f : Addr) (cdv : Value) (A : Around) (outer : List Env) (s : Shared) (H : Hp) (vs : List V) (Q : VK) (E : XK), Room k (A.deeper (envOfC x (defScope st) s.heap.objs.size f cdv)) → sp vs H Q E →
      ∃ t, PSs (cxOf CX0 P w K mg base N x (defScope st) f cdv A outer s H E).nox (defBody st) t ∧ t { nx := fun _ H' => Q .non H', rt := Q } (start N vs) H) : Ok P w K mg base (k + 1) x ps sp := by
  obtain ⟨f, fd, F, hm⟩ := D
  exact ⟨f, fd, F.ok S len (fun cdv A outer s H vs Q E hr h => hbody f cdv A outer s H vs Q E hr h), hm, F.kp, F.binds hb⟩
end
def tCl (sp : Sp) (t : TA) : TE := fun σ H Q => t σ H fun vs H1 => sp vs H1 Q E0
section
variable {X : Cx} {x : Str} {ps : List Str} {sp : Sp} {k j : Nat} {p pos : Pos} {e : Expr} {es : List Expr} {t : TA}
/-- f(e, ..) by its promise -/
theorem cl (G : Ok X.prog X.w X.K X.mg X.base k x ps sp) (hr : Room j X.A) (ha : PA X (e :: es) t) (hg : Gl X x := by rfl) (hj : k ≤ j := by decide) (hdb : (x == ("__debug__" : Str)) = false := by decide)
    (he : starEach (e :: es) X.env = (false, eval e X.env) :: starEach es X.env := by rfl) (hpl : (backTo pos (starEach es X.env)).any (·.1) = false := by rfl) : PE X (.Call (.Name x p) (e :: es) [] pos) (tCl sp t) := by
  obtain ⟨f, fd, F, hm, hk, hb⟩ := G
  refine ⟨fun pins s σ H Q I h => ?_⟩
  refine (pe_call (dvs := []) (E := E0) F (hr.mono hj) hg hm hk hb .nil pass0 ha hdb he hpl).run pins s σ H Q I ?_
  have e1 : (fun (vs : List V) H1 => sp (vs ++ []) H1 Q E0) = fun vs H1 => sp vs H1 Q E0 := by
    funext vs H1
    rw [List.append_nil]
  show t σ H (fun vs H1 => sp (vs ++ []) H1 Q E0)
  rw [e1]
  exact h
end
/-! ### x in a tuple -/
section
variable {X : Cx}
def rInT (K : PySem.W.Frag) : R2 := fun x y H Q => ∃ d ds, Dp K H x d ∧ Dp K H y (.tuple ds) ∧ SeqAt.shaped d = true ∧ SeqAt.shaped (.tuple ds) = true ∧ Q (.bl (ds.any fun z => PyData.eqv z d)) H
theorem op_inT (hu : X.A.units + 65 < cLine) : OpR X (compareOp .In) (rInT X.K) := by
  intro pins s σ H x y v u Q I rx ry h
  obtain ⟨d, ds, hd, he, sd, se, q⟩ := h
  obtain ⟨as, r1⟩ := Dp.reads I d x v hd rx
  obtain ⟨bs, r2⟩ := Dp.reads I (.tuple ds) y u he ry
  exact SeqAt.in_tuple_reads r2 r1 (SeqAt.canLay_of_shaped se) (SeqAt.canLay_of_shaped sd) (room_in_shaped sd hu) ⟨.bl _, H, I, rfl, q⟩
/-! ### a text times a number -/
def rMulS : R2 := fun x y H Q => ∃ (z : Str) (n : Int), x = .str z ∧ y = .int n ∧ 0 ≤ n ∧ n ≤ 1000 ∧ z.length ≤ 1000 ∧ Q (.str (Txt.mul z n)) H
theorem op_mulS : OpR X (binaryOp .Mult) rMulS := by
  intro pins s σ H x y v u Q I rx ry h
  obtain ⟨z, n, rfl, rfl, h0, h1, h2, q⟩ := h
  obtain ⟨t, rfl⟩ := rx
  obtain ⟨t', rfl⟩ := ry
  exact PySem.SB.mul (mulOk_of 1000 1000 h2 (by omega) (by omega) (by decide) (by decide)) fun tk k => ⟨.str _, H, I.tok _, ⟨_, rfl⟩, q⟩
end
/-! ### a list is made longer by the items of a tuple -/
theorem ext_seq {prog : Program} {w : World} {A : Around} {P : PySem.Fin → Shared → Prop} {E : Value → Shared → Prop} {s : Shared} {S it : Addr} {res : Value} {c0 n : Nat} {o : Obj} {its its2 : Array Value}
    (hS : s.heap.get? S = some { cls := .type "list", data := .seq its c0 }) (ho : s.heap.get? it = some o) (hc : o.cls = .type "tuple") (hd : o.data = .seq its2 n) (h1 : its.size ≤ sizeLine) (h2 : its.size + its2.size ≤ sizeLine)
    (hR : P (.done (.ret res)) { s with heap := s.heap.update S (Obj.mapSeq (· ++ its2)) }) : wpAny (model prog w) A (Builtin.List.listExtendWith (.ref S) (.ref it) res) P E s := by
  unfold Builtin.List.listExtendWith
  refine wpAny_bind (wpAny_typeOf (T := "tuple") ⟨o, ho, hc⟩ ?_)
  have y : (Builtin.List.listSameRef (.ref S) (.ref it) || Value.type "tuple" == Value.type "list" || Value.type "tuple" == Value.type "tuple") = true := by simp
  have z : (!its.isEmpty && Builtin.List.listTooLong (its.size + its2.size)) = false := by rw [notLongL h2, Bool.and_false]
  simp only [y, if_true]
  refine wpAny_bind (listItems_at ho hd (wpAny_bind (listItems_at hS rfl ?_)))
  simp only [z, Bool.false_eq_true, if_false]
  exact wpAny_bind (listUpdate_at hS rfl (wpAny_pure hR) h1 (by rw [Array.size_append]; exact Nat.le_succ_of_le h2))
section
variable {X : Cx}
def rExtT : V → List V → Hp → VK → Prop := fun x vs H Q => ∃ l b xs zs, x = .ref l ∧ vs = [.ref b] ∧ H l = some (.lst xs) ∧ H b = some (.tup zs) ∧ xs.length + zs.length ≤ sizeLine ∧ Q .non (upd H l (.lst (xs ++ zs)))
theorem mt_extT : MtM X "list.extend" rExtT := by
  intro pins s σ H x vs v us Q I rx rv h
  obtain ⟨l, b, xs, zs, rfl, rfl, hH, hB, hz, q⟩ := h
  cases rx
  obtain ⟨u, rfl, ru⟩ := rv.one
  cases ru
  obtain ⟨z, its, n, r, hl, e⟩ := I.lstM hH
  obtain ⟨its2, r2, ⟨o2, ho2, hc2, n2, hd2⟩, z2⟩ := I.tuple (SqT.of hB)
  have l2 := r2.length
  refine call_meets (S := fun _ R s => s.heap.get? l = some { cls := .type "list", data := .seq its.toArray n } ∧ s.heap.get? b = some o2 ∧ R (.ok (.ret .none)) { s with heap := s.heap.update l (Obj.mapSeq (· ++ its2.toArray)) })
    PySem.F.slot_list_extend ⟨_, e, rfl⟩ PySem.F.entry_list_extend (PySem.F.args_list_extend_2 _ _) (fun prog w A R s h => ?_) ⟨e, ho2, ?_⟩
  · exact ext_seq h.1 h.2.1 hc2 hd2 (by rw [List.size_toArray]; omega) (by rw [List.size_toArray, List.size_toArray]; omega) h.2.2
  · refine ⟨.non, _, I.lset (its' := its ++ its2) (t' := s.toks) hH e (by simp) (r.append r2) ?_, rfl, q⟩
    rw [List.length_append]
    exact hz
end
/-- the items of a tuple collected -/
theorem collect_tup {prog : Program} {w : World} {A : Around} {E : Value → Shared → Prop} {s : Shared} {l : Addr} {vs : List Value} {Q : List Value → Shared → Prop} (hl : IsTup s.heap l vs.toArray) (hz : vs.length ≤ sizeLine)
    (h : Q vs { s with heap := (s.heap.push (seqObj "list" #[] 0)).update s.heap.objs.size (Obj.mapSeq (· ++ vs.toArray)) }) : wpAny (model prog w) A (collect (.ref l)) Q E s := by
  obtain ⟨o, ho, hc, n, hd⟩ := id hl
  have ho' : (s.heap.push (seqObj "list" #[] 0)).get? l = some o := Heap.get?_push_of_some _ ho
  have hn : (s.heap.push (seqObj "list" #[] 0)).get? s.heap.objs.size = some (seqObj "list" #[] 0) := Heap.get?_push_size _ rfl
  unfold collect
  refine wpAny_bind (wpAny_runValue (codeAny_builtin entry_proto_collect' ?_))
  refine wpAny_bind (wpAny_newList (wpAny_pure ⟨Code.quiet_builtin _ (by decide +kernel), codeAny_builtin entry_list_iadd' ?_⟩))
  show wpAny _ _ (Builtin.List.listExtendWith (.ref s.heap.objs.size) (.ref l) (.ref s.heap.objs.size)) _ _ { s with heap := s.heap.push (seqObj "list" #[] 0) }
  refine ext_seq (its := #[]) hn ho' hc hd (Nat.zero_le _) (by simpa using hz) ?_
  refine wpAny_bind (wpAny_load (get?_update_seq hn _) ?_)
  have e : ((#[] : Array Value) ++ vs.toArray).toList = vs := by simp
  show wpAny _ _ (pure ((#[] : Array Value) ++ vs.toArray).toList) Q E _
  rw [e]
  exact wpAny_pure h
/-! ### walks over pairs of tuples -/
theorem walk_zipT {K : PySem.W.Frag} {a b : Addr} {xs ys : List V} {n : Nat} (hn : n = min xs.length ys.length) : Walk (RZ.ItzT K a b) n (fun H => SqT K H a xs ∧ SqT K H b ys) (YPair (fun i => xs[i]?) (fun i => ys[i]?)) := by
  subst hn
  refine ⟨fun i _ hi q => ?_, fun _ q => ⟨xs, ys, q.1, q.2, by omega⟩, fun i H v H' _ q y => ?_⟩
  · have h1 : i < xs.length := by omega
    have h2 : i < ys.length := by omega
    exact ⟨xs, ys, xs[i], ys[i], q.1, q.2, by simp [h1], by simp [h2]⟩
  · obtain ⟨T, x, z, h1, h2, h3, h4, h5⟩ := y
    exact ⟨T, x, z, h1, h2, h3, h4 xs q.1, h5 ys q.2⟩
/-! ### numbers -/
theorem shl1 (h : Nat) : (1 : Int) * 2 ^ ((h : Int)).toNat = ((2 ^ h : Nat) : Int) := by
  rw [Int.one_mul, Int.toNat_natCast, Int.natCast_pow]
  rfl
/-! ### forms that come often -/
section
variable {X : Cx} {a e : Expr} {ta te : TE} {p pos : Pos} {k : Nat}
/-- b[0], b[1] of a block -/
def tAt0 (ta : TE) : TE := fun σ H Q => ta σ H fun x H1 => ∃ b : B, Tp H1 x (bD b) ∧ Q (.int (b.1 : Nat)) H1
def tAt1 (ta : TE) : TE := fun σ H Q => ta σ H fun x H1 => ∃ b : B, Tp H1 x (bD b) ∧ Q (.int (b.2 : Nat)) H1
theorem pe_at0 (ha : PE X a ta) : PE X (.Subscript a (.Constant (.int 0) k p) pos) (tAt0 ta) := by
  refine ⟨fun pins s σ H Q I h => ?_⟩
  refine Subscript_ (thn (ha.run pins s σ H _ I h) fun v s1 ⟨x, H1, I1, r1, b, hb, q⟩ => wpAny_Constant_int ?_)
  obtain ⟨c, rfl, hc⟩ := hb.bk
  exact ix_tup _ _ pins _ σ H1 _ (.int 0) v _ Q (I1.tok _) r1 ⟨_, rfl⟩ ⟨c, _, 0, _, rfl, rfl, SqT.of hc, atI_nat (j := 0) rfl, q⟩ rfl
theorem pe_at1 (ha : PE X a ta) : PE X (.Subscript a (.Constant (.int 1) k p) pos) (tAt1 ta) := by
  refine ⟨fun pins s σ H Q I h => ?_⟩
  refine Subscript_ (thn (ha.run pins s σ H _ I h) fun v s1 ⟨x, H1, I1, r1, b, hb, q⟩ => wpAny_Constant_int ?_)
  obtain ⟨c, rfl, hc⟩ := hb.bk
  exact ix_tup _ _ pins _ σ H1 _ (.int 1) v _ Q (I1.tok _) r1 ⟨_, rfl⟩ ⟨c, _, 1, _, rfl, rfl, SqT.of hc, atI_nat (j := 1) rfl, q⟩ rfl
/-- 1 << e -/
def tShl (te : TE) : TE := fun σ H Q => te σ H fun x H1 => ∃ n : Nat, x = .int (n : Nat) ∧ n ≤ 1000 ∧ Q (.int ((2 ^ n : Nat) : Int)) H1
theorem pe_shl1 (he : PE X e te) : PE X (.BinOp (.Constant (.int 1) k p) .LShift e pos) (tShl te) := by
  refine ⟨fun pins s σ H Q I h => ?_⟩
  refine wpAny_BinOp (wpAny_Constant_int (thn (he.run pins _ σ H _ (I.tok _) h) fun u s2 ⟨x, H2, I2, r2, n, ex, hn, q⟩ => ?_))
  exact op_shl pins s2 σ H2 (.int 1) x _ u Q I2 ⟨_, rfl⟩ r2 ⟨1, n, rfl, ex, ⟨by omega, by omega, by decide⟩, by show Q (.int (1 * 2 ^ ((n : Nat) : Int).toNat)) H2; rw [shl1]; exact q⟩
/-- the module's numbers and texts -/
theorem pe_globI {x : Str} {i : Int} (h : ∃ t, X.mg x = some (.int i t)) (hg : Gl X x := by rfl) (hd : (x == ("__debug__" : Str)) = false := by decide) : PE X (.Name x pos) (tC (.int i)) := by
  obtain ⟨t, h⟩ := h
  exact pe_glob hg h ⟨t, rfl⟩ hd
theorem pe_globS {x z : Str} (h : ∃ t, X.mg x = some (.str z t)) (hg : Gl X x := by rfl) (hd : (x == ("__debug__" : Str)) = false := by decide) : PE X (.Name x pos) (tC (.str z)) := by
  obtain ⟨t, h⟩ := h
  exact pe_glob hg h ⟨t, rfl⟩ hd
/-- isinstance(x, a built-in class) -/
def rIsiS (K : PySem.W.Frag) : List V → Hp → VK → Prop := fun vs H Q => ∃ (x : V) (T t : String) (b : Bool), vs = [x, .ty T] ∧ TyOf K H x (.type t) ∧ kitB t T = some b ∧ Q (.bl b) H
theorem cr_isi : CallR X (.builtin "isinstance") (rIsiS X.K) := by
  intro pins s σ H vs us Q I r h
  obtain ⟨x, T, t, b, rfl, ht, hk, q⟩ := h
  exact call_isi pins s σ H _ us Q I r ⟨x, .ty T, .type t, .type T, b, rfl, .ty T, .base ht, kit_ty hk, q⟩
end
end K54
end
section
set_option Elab.async false
set_option linter.all false
set_option maxRecDepth 100000
set_option maxHeartbeats 4000000
/-! sorted(xs, key=lambda one: (one[0], -one[1])), xs a list or a tuple of pairs of numbers. -/
namespace K54
open PySem PySem.Spec PyProof.Rows L2
abbrev lArgs (pa : Pos) : Arguments := { posonlyargs := [], args := [{ arg := "one", annotation := none, pos := pa }], vararg := none, kwonlyargs := [], kw_defaults := [], kwarg := none, defaults := [] }
abbrev lBody (k0 k1 : Nat) (k : Nat) (p1 p2 p3 p4 p5 p6 p7 p8 : Pos) : Expr :=
  .Tuple [.Subscript (.Name "one" p1) (.Constant (.int 0) k0 p2) p3, .UnaryOp .USub (.Subscript (.Name "one" p4) (.Constant (.int 1) k1 p5) p6) p7] k p8
abbrev lScope : Scope := { kind := .function, names := [(Str.ofString "one", .local)], isGenerator := false, isCoroutine := false, more := [] }
/-- a value that is a pair of numbers -/
def Pr (h : Heap) (v : Value) (b : Int × Int) : Prop := ∃ t t1 t2, v = .ref t ∧ IsTup h t #[.int b.1 t1, .int b.2 t2]
theorem Pr.keeps {h h' : Heap} {v : Value} {b : Int × Int} (p : Pr h v b) (k : ∀ a o, h.get? a = some o → h'.get? a = some o) : Pr h' v b := by
  obtain ⟨t, t1, t2, e, q⟩ := p
  exact ⟨t, t1, t2, e, q.keeps k⟩
section
variable {prog : Program} {w : World} {A : Around} {s : Shared}
/-- one[j] of a pair -/
theorem pair_at {E : Value → Shared → Prop} {Q : Value → Shared → Prop} {env : Env} {m : Str → Option Value} {t : Addr} {a b : Value} {c : Value} {j : Nat} {p1 p2 p3 : Pos} {k0 : Nat} (hk : env.scope.kind = .function) (ho : env.kindOf "one" = some .local)
    (hn : s.heap.Ns env.locals m) (hm : m "one" = some (.ref t)) (ht : IsTup s.heap t #[a, b]) (hj : (#[a, b] : Array Value)[j]? = some c) (h2 : j < 2) (h : ∀ tk, Q c { s with toks := tk }) :
    wpAny (model prog w) A (eval (.Subscript (.Name "one" p1) (.Constant (.int (j : Nat)) k0 p2) p3) env) Q E s := by
  refine Subscript_ (wpAny_Name (wpAny_loadName_local hk ho hn hm (wpAny_Constant_int ?_)) (by decide))
  refine subscriptTail_builtinR (x := c) (id := "tuple.__getitem__") (s := { s with toks := s.toks + 1 }) (T := "tuple") ht.typeIs slot_tuple_getitem.lookup ?_ rfl
  refine getItem_tuple (j := j) (s := { s with toks := s.toks + 1 }) (Q := fun r s' => r = c ∧ Q r s') ht (by omega) (by omega) ?_ hj ⟨rfl, h _⟩
  exact seqIndex_of (by omega) (by show (j : Int) < 2; omega)
/-- the key of a block: the lambda's call -/
theorem lam_key {f c' : Addr} {q : Str} {k0 k1 k : Nat} {pm ctv : Value} {pa p1 p2 p3 p4 p5 p6 p7 p8 : Pos} {v : Value} {b : Int × Int} (hroom : A.depth < recursionLimit) (hl : s.heap.NoLimit)
    (hf : s.heap.get? f = some (PySem.W.kla_obj "<lambda>" q (lArgs pa) (lBody k0 k1 k p1 p2 p3 p4 p5 p6 p7 p8) lScope [] pm c' ctv)) (hc : s.heap.CodeRec (.ref c') q) (hv : Pr s.heap v b) :
    wpAny (model prog w) A (call (.ref f) [v]) (PySem.W.KeyPure (.tuple [.int b.1, .int (-b.2)]) s) (fun _ _ => False) s := by
  obtain ⟨t, t1, t2, rfl, ht⟩ := hv
  refine wpAny_call (PySem.W.kla_callFunE hroom hf rfl rfl rfl rfl hc ?_)
  have hb : bindArgs (PySem.W.kla_fn "<lambda>" q (lArgs pa) (lBody k0 k1 k p1 p2 p3 p4 p5 p6 p7 p8) lScope [] pm (.ref c') ctv) ⟨[.ref t], []⟩ = pure [(Str.ofString "one", .ref t)] := rfl
  rw [hb]
  refine wpAny_pure (wpAny_newFunctionEnv (fun y hy => by rw [List.mem_singleton.mp hy]; decide) (fun y hy => by rw [List.mem_singleton.mp hy]; rfl) (fun h1 hns hsb => ⟨hl.fresh _ hsb, ?_⟩) rfl)
  have kp : ∀ a o, s.heap.get? a = some o → h1.get? a = some o := fun a o e => hsb.extBut a o (Nat.ne_of_lt (Heap.lt_size e)) (Heap.get?_push_of_some _ e)
  refine PySem.W.kla_codeExpr (wpAny_Tuple_spliced (Calls.spliced_cons ?_))
  refine pair_at (j := 0) (c := .int b.1 t1) (m := fun y => ([(Str.ofString "one", Value.ref t)] : List (Str × Value)).reverse.lookup y) rfl rfl hns rfl (ht.keeps kp) rfl (by decide) fun tk => ?_
  refine Calls.spliced_cons (UnaryOp_ ?_)
  refine pair_at (s := { s with heap := h1, toks := tk }) (j := 1) (c := .int b.2 t2) (m := fun y => ([(Str.ofString "one", Value.ref t)] : List (Str × Value)).reverse.lookup y) rfl rfl hns rfl (ht.keeps kp) rfl (by decide) fun tk2 => ?_
  refine neg_int (Calls.spliced_nil ⟨by show 2 ≤ sizeLine; decide, ?_⟩)
  refine ⟨_, tk2 + 1, rfl, fun a o e => Heap.get?_push_of_some _ (kp a o e), ?_⟩
  exact .tuple (Heap.get?_push_size _ rfl) rfl rfl (.cons (as := []) (bs := []) (.int _ _) (.cons (as := []) (bs := []) (.int _ _) .nil))
end
end K54
namespace K54
open PySem PySem.Spec PyProof.Rows L2
/-! ### the sorted list -/
def lkey (b : B) : PyData := .tuple [.int (b.1 : Nat), .int (-((b.2 : Nat) : Int))]
def kleB (p q : B) : Bool := decide (((p.1 : Nat) : Int) < (q.1 : Nat) ∨ (((p.1 : Nat) : Int) = (q.1 : Nat) ∧ -((p.2 : Nat) : Int) ≤ -((q.2 : Nat) : Int)))
theorem lkey_le : PySem.W.dataLe false lkey = kleB := PySem.W.dataLe_ii (fun b : B => ((b.1 : Nat) : Int)) (fun b : B => -((b.2 : Nat) : Int))
theorem kleB_iff {p q : B} : kleB p q = true ↔ kle p q := by
  unfold kleB kle
  rw [decide_eq_true_iff]
  omega
theorem kle_sort (bs : List B) : (bs.mergeSort kleB).Perm bs ∧ (bs.mergeSort kleB).Pairwise kle := by
  refine ⟨List.mergeSort_perm bs kleB, ?_⟩
  refine (List.pairwise_mergeSort (le := kleB) (fun a b c h1 h2 => ?_) (fun a b => ?_) bs).imp fun {a b} h => kleB_iff.mp h
  · rw [kleB_iff] at h1 h2 ⊢
    unfold kle at *
    omega
  · have h : kle a b ∨ kle b a := by
      unfold kle
      omega
    rcases h with h | h
    · rw [kleB_iff.mpr h]
      rfl
    · rw [kleB_iff.mpr h, Bool.or_true]
theorem lkey_alike (bs : List B) : PySem.W.AllAlike (bs.map lkey) := fun d hd d' hd' => by
  obtain ⟨b, _, rfl⟩ := List.mem_map.mp hd
  obtain ⟨c, _, rfl⟩ := List.mem_map.mp hd'
  rfl
theorem lkey_sortable (bs : List B) : PySem.W.Sortable (bs.map lkey) := .inl fun d hd => by
  obtain ⟨b, _, rfl⟩ := List.mem_map.mp hd
  exact ⟨_, _, rfl⟩
theorem lkey_depth (b : B) : (lkey b).depth = 1 := rfl
end K54
namespace K54
open PySem PySem.Spec PyProof.Rows L2
/-- the block of H at v -/
def AtB (H : Hp) (v : Value) (b : B) : Prop := ∃ a, v = .ref a ∧ H a = some (.tup [.int (b.1 : Nat), .int (b.2 : Nat)])
theorem each_of {H : Hp} : ∀ {xs : List V} {us : List Value} {bs : List B}, Vals xs us → TpA H xs (bs.map bD) → PySem.W.EachIs (AtB H) us bs
  | _, _, [], .nil, _ => .nil
  | _, _, _ :: _, .nil, t => by cases t
  | _, _, [], .cons _ _, t => by cases t
  | _, _, b :: bs, .cons r rs, t => by
    cases t with
    | cons h t =>
      obtain ⟨a, rfl, ha⟩ := h.bk
      cases r
      exact .cons ⟨a, rfl, ha⟩ (each_of rs t)
theorem of_each {H : Hp} : ∀ {us : List Value} {bs : List B}, PySem.W.EachIs (AtB H) us bs → ∃ xs, Vals xs us ∧ TpA H xs (bs.map bD)
  | _, _, .nil => ⟨[], .nil, .nil⟩
  | _, _, .cons h t => by
    obtain ⟨xs, h1, h2⟩ := of_each t
    obtain ⟨a, rfl, ha⟩ := h
    exact ⟨.ref a :: xs, .cons rfl h1, .cons (.bkI ha) h2⟩
section
variable {prog : Program} {w : World} {A : Around} {E : Value → Shared → Prop} {s : Shared}
theorem sorted_key {l f : Addr} {vs : List Value} {bs : List B} {R : Value → B → Prop} {Q : Value → Shared → Prop} (hl : s.heap.IsList l vs.toArray ∨ IsTup s.heap l vs.toArray) (e : PySem.W.EachIs R vs bs) (hL : bs.length ≤ sizeLine) (hu : A.units + 3 < cLine)
    (turn : ∀ (v : Value) (x : B), R v x → x ∈ bs → ∀ (h : Heap) (tk : Nat), (∀ b o, s.heap.get? b = some o → h.get? b = some o) →
      wpAny (model prog w) A.in1.in1 (call (.ref f) [v]) (PySem.W.KeyPure (lkey x) { s with heap := h, toks := tk }) (fun _ _ => False) { s with heap := h, toks := tk })
    (h : ∀ out c h' tk, (∀ b o, s.heap.get? b = some o → h'.get? b = some o) → h'.get? (s.heap.objs.size + 1) = some (seqObj "list" (List.toArray out) c) → out.length = bs.length → PySem.W.EachIs R out (bs.mergeSort kleB) →
      Q (.ref (s.heap.objs.size + 1)) { s with heap := h', toks := tk }) :
    wpAny (model prog w) A (call (.builtin "sorted") [.ref l] [(Str.ofString "key", .ref f)]) Q E s := by
  have hu2 : ∀ x, x ∈ bs → A.units + 2 + (lkey x).depth < cLine := fun x _ => hu
  rcases hl with hl | hl
  · refine PySem.W.sorted_key_data (b := false) (R := R) (bs := bs) lkey hl e (lkey_alike bs) (lkey_sortable bs) hL hu2 (ksk_s1 _ _) (fun _ => ksk_l1 _ _) (fun x => ksk_t1 f x) turn fun out c h' tk k1 k2 k3 k4 k5 => ?_
    rw [lkey_le] at k5
    exact h out c h' tk k1 k3 k4 k5
  · have up : ∀ {g : Heap}, PySem.W.KeepsBut (s.heap.objs.size + 1) (PySem.W.copyHeap s.heap vs) g → ∀ b o, s.heap.get? b = some o → g.get? b = some o := fun {g} kp b o q =>
      kp b o (Nat.ne_of_lt (Nat.lt_succ_of_lt (Heap.lt_size q))) (PySem.W.copyHeap_old q)
    have hsz : ((s.heap.push (seqObj "list" #[] 0)).update s.heap.objs.size (Obj.mapSeq (· ++ vs.toArray))).objs.size = s.heap.objs.size + 1 := by rw [Heap.size_update, size_push']
    have hv : vs.length ≤ sizeLine := by rw [e.length]; exact hL
    refine call_function_entry_kw kind_sorted plain_sorted entry_sorted (ksk_s1 _ _) ?_
    unfold Builtin.«sorted»
    refine wpAny_bind (m := checkCount "sorted" 1 1 _) (wpAny_pure (wpAny_bind (collect_tup hl hv (wpAny_bind (wpAny_newList ?_ hv)))))
    show wpAny _ _ _ _ _ { s with heap := PySem.W.copyHeap s.heap vs }
    rw [hsz]
    refine wpAny_bind (wpAny_holding (wpAny_call_entry_kw slot_list_sort ⟨_, PySem.W.copyHeap_at s.heap vs, rfl⟩ entry_list_sort ?body (ksk_l1 _ _)))
    case body =>
      rw [ksk_t1]
      refine PySem.W.keyH_tree (kz := bs.map lkey) (s := { s with heap := PySem.W.copyHeap s.heap vs }) (PySem.W.copyHeap_at s.heap vs) (by rw [List.length_map]; exact e.length.symm) hv (lkey_alike bs) (lkey_sortable bs) (fun d hd => ?_)
        (PySem.W.keyH_turns (s := { s with heap := PySem.W.copyHeap s.heap vs }) e fun v x hR hx h tk kp => turn v x hR hx h tk (up kp)) fun h' tk out c kp hD ko => ⟨_, rfl, wpAny_pure ⟨_, rfl, ?_⟩⟩
      · obtain ⟨x, hx, rfl⟩ := List.mem_map.mp hd
        exact hu2 x hx
      · have k5 := PySem.W.keyedOut_each lkey ko e
        rw [lkey_le] at k5
        exact h out c h' tk (up kp) hD ((ko.length (by rw [List.length_map]; exact e.length.symm)).trans e.length) k5
end
end K54
namespace K54
open PySem PySem.Spec PyProof.Rows L2
/-- sorted(e, key=lambda one: (one[0], -one[1])): a new list of the blocks in order -/
def tSortL (K : PySem.W.Frag) (t : TA) : TE := fun σ H Q => t σ H fun vs H1 => ∃ (a : Addr) (bs : List B) (xs : List V), vs = [.ref a] ∧ (SqL K H1 a xs ∨ SqT K H1 a xs) ∧ TpA H1 xs (bs.map bD) ∧ bs.length ≤ sizeLine ∧ Tb K H1 ∧
  ∀ (H2 : Hp) (p : Addr) (ys : List V) (ss : List B), Ex K [] H1 H2 → Tb K H2 → H2 p = none → ss.Perm bs → ss.Pairwise kle → TpA H2 ys (ss.map bD) → Q (.ref p) (upd H2 p (.lst ys))
section
variable {X : Cx}
theorem pe_sortL {e : Expr} {t : TA} {c : Addr} {k0 k1 k : Nat} {p pos lpos kpos pa p1 p2 p3 p4 p5 p6 p7 p8 : Pos} (hr : Room 2 X.A) (hg : Gl X "sorted") (hm : X.mg "sorted" = none) (ha : PA X [e] t) (TB : LamX.TabB X.base X.mg c (tabAt X.K)) (hcode : X.env.code = .ref c)
    (hq : X.env.qual ++ "<lambda>" = lamQ)
    (hdef : defaultsOf (lArgs pa) X.env = ([], []) := by rfl)
    (he : backTo pos (starEach [e] X.env) = (false, eval e X.env) :: backTo pos (starEach [] X.env) := by rfl) (hpl : (backTo pos (starEach [e] X.env)).any (·.1) = false := by rfl) :
    PE X (.Call (.Name "sorted" p) [e] [⟨some "key", .Lambda (lArgs pa) (lBody k0 k1 k p1 p2 p3 p4 p5 p6 p7 p8) lScope lpos, kpos⟩] pos) (tSortL X.K t) := by
  refine ⟨fun pins s σ H Q I h => ?_⟩
  refine wpAny_Call_Name_kw (ld_blt (u := .builtin "sorted") I hg hm (by decide +kernel) ?_ (by decide) (by decide))
  refine callWith_kw (thn (ha.run pos pins s σ H _ I h) fun us s1 ⟨vs, H1, I1, r1, a, bs, xs, ev, hseq, hd, hL, hT, q⟩ => ?_) he hpl rfl rfl
  subst ev
  obtain ⟨u, rfl, ru⟩ := r1.one
  cases ru
  have hT2 : LamX.Tabs [(tabAt X.K, X.env.qual ++ "<lambda>")] H1 := fun z hz => by
    rw [List.mem_singleton.mp hz, hq]
    exact hT
  refine wpAny_evalAll_cons (wpAny_bind (LamX.lam_make2 I1 TB hcode (List.mem_singleton_self _) (fun z hz _ => by rw [List.mem_singleton.mp hz]) hT2 hdef (fun y hy e => by rw [List.mem_singleton.mp hy] at e; cases e) fun f c' pm ctv H2 s' I2 eN T2 hf hfn hfr hco => ?_))
  refine wpAny_bind (wpAny_standAt (wpAny_pure (wpAny_evalAll_nil ?_)))
  have eX : Ex X.K [] H1 H2 := ⟨fun l hl => (by cases hl), fun b o _ z n => eN b o z n, fun _ => by
    have z := T2 _ (List.mem_singleton_self _)
    rw [hq] at z
    exact z⟩
  have tB : Tb X.K H2 := eX.tab hT
  have hseq2 : SqL X.K H2 a xs ∨ SqT X.K H2 a xs := by
    rcases hseq with z | z
    · exact .inl (eX.seqL z)
    · refine .inr ?_
      rcases z with (z | ⟨o, z⟩) | z
      · exact .inl (.inl (eX.tup z))
      · exact .inl (.inr ⟨o, eX.keep _ _ (by simp) z fun ps q => by cases q⟩)
      · exact .inr z
  obtain ⟨its, rv, hl⟩ : ∃ its : List Value, Vals xs its ∧ (s'.heap.IsList a its.toArray ∨ IsTup s'.heap a its.toArray) := by
    rcases hseq2 with z | z
    · obtain ⟨its, r, z, _⟩ := I2.list z
      exact ⟨its, r, .inl z.isList⟩
    · obtain ⟨its, r, z, _⟩ := I2.tuple z
      exact ⟨its, r, .inr z⟩
  have hd2 := eX.tpA hd
  obtain ⟨⟨oc, cvs, ct, hoc, hdc, hvc⟩, _, _⟩ := I2.hok c' _ hco
  have hu := hr.units
  show wpAny _ _ (call (.builtin "sorted") [.ref a] [(Str.ofString "key", .ref f)]) _ _ _
  refine sorted_key hl (each_of rv hd2) hL (by omega) (fun v b hR _ h tk kp => ?_) fun out c2 h' tk k1 k2 k3 k4 => ?_
  · obtain ⟨ta, rfl, hta⟩ := hR
    obtain ⟨_, its2, r2, ht⟩ := I2.hok _ _ hta
    obtain ⟨t1, t2, rfl⟩ := r2.int2
    refine lam_key (b := ((b.1 : Nat), (b.2 : Nat))) (s := { s' with heap := h, toks := tk }) ?_ (I2.nolimit.keeps kp) (kp _ _ hf) ⟨c', oc, cvs, ct, rfl, kp _ _ hoc, hdc, hvc⟩ ⟨ta, t1, t2, rfl, ht.keeps kp⟩
    exact (hr.in1.in1).depth
  · obtain ⟨ys, r3, hy⟩ := of_each k4
    have hn : H2 (s'.heap.objs.size + 1) = none := I2.hok.fresh (Nat.le_succ _)
    have I3 := I2.laid (a := s'.heap.objs.size + 1) (o := .lst ys) (t' := tk) k1 (Nat.le_succ _) ⟨by rw [r3.length, k3]; exact hL, out, c2, r3, k2⟩
    obtain ⟨g1, g2⟩ := kle_sort bs
    exact ⟨.ref (s'.heap.objs.size + 1), _, I3, rfl, q H2 _ ys _ eX tB hn g1 g2 hy⟩
end
end K54
end
section
set_option Elab.async false
set_option linter.all false
set_option maxRecDepth 100000
set_option maxHeartbeats 4000000
/-! Rules that speak of data: displays, slices, +, tuple(..), comprehensions. -/
namespace K54
open PySem PySem.Spec PyProof.Rows L2
def newT (K : PySem.W.Frag) (H : Hp) (ds : List PyData) (Q : VK) : Prop := ∀ H' v, Ex K [] H H' → Tp H' v (.tuple ds) → Q v H'
def newL (K : PySem.W.Frag) (H : Hp) (xs : List V) (ds : List PyData) (Q : VK) : Prop := ∀ H' p, Ex K [] H H' → H p = none → H' p = some (.lst xs) → TpA H' xs ds → Q (.ref p) H'
section
variable {K : PySem.W.Frag} {H : Hp} {xs : List V} {ds : List PyData} {Q : VK} {p : Addr}
theorem newT.at (h : newT K H ds Q) (t : TpA H xs ds) (hp : H p = none) : Q (.ref p) (upd H p (.tup xs)) := h _ _ (Ex.new hp) (.tup upd_same ((Ex.new (K := K) hp).tpA t))
theorem newL.at (h : newL K H xs ds Q) (t : TpA H xs ds) (hp : H p = none) : Q (.ref p) (upd H p (.lst xs)) := h _ _ (Ex.new hp) hp upd_same ((Ex.new (K := K) hp).tpA t)
end
theorem n1000 {n : Nat} (h : Nat.ble n 1000 = true := by rfl) : n ≤ 1000 := Nat.le_of_ble_eq_true h
theorem line_of {n : Nat} (h : n ≤ 16000000) : n ≤ sizeLine := Nat.le_trans h (by rw [sizeLine_eq]; decide)
section
variable {X : Cx} {es : List Expr} {e : Expr} {te : TE} {t : TA} {pos : Pos}
/-- (a, b, ..) -/
def tTupD (K : PySem.W.Frag) (t : TA) : TE := fun σ H Q => t σ H fun xs H1 => ∃ ds, TpA H1 xs ds ∧ ds.length ≤ 1000 ∧ newT K H1 ds Q
theorem pe_tupD {k : Nat} (h : PA X es t) : PE X (.Tuple es k pos) (tTupD X.K t) := by
  refine ⟨fun pins s σ H Q I hq => ?_⟩
  refine wpAny_Tuple_spliced (thn (h.run pos pins s σ H _ I hq) fun us s1 ⟨xs, H1, I1, r, ds, td, hl, q⟩ => ?_)
  have z : xs.length ≤ sizeLine := line_of (by rw [td.len]; omega)
  refine ⟨by rw [← r.length]; exact z, .ref s1.heap.objs.size, upd H1 s1.heap.objs.size (.tup xs), ?_, rfl, q.at td I1.fresh⟩
  exact I1.laid (t' := s1.toks) (fun b u e => Heap.get?_push_of_some _ e) (Nat.le_refl _) ⟨z, us, r, ⟨_, Heap.get?_push_size _ rfl, rfl, _, rfl⟩⟩
/-- [a, b, ..] -/
def tLstD (K : PySem.W.Frag) (t : TA) : TE := fun σ H Q => t σ H fun xs H1 => ∃ ds, TpA H1 xs ds ∧ ds.length ≤ 1000 ∧ newL K H1 xs ds Q
theorem pe_lstD (h : PA X es t) : PE X (.List es pos) (tLstD X.K t) := by
  refine ⟨fun pins s σ H Q I hq => ?_⟩
  refine wpAny_List_spliced (thn (h.run pos pins s σ H _ I hq) fun us s1 ⟨xs, H1, I1, r, ds, td, hl, q⟩ => ?_)
  have z : xs.length ≤ sizeLine := line_of (by rw [td.len]; omega)
  refine ⟨by rw [← r.length]; exact z, .ref s1.heap.objs.size, upd H1 s1.heap.objs.size (.lst xs), ?_, rfl, q.at td I1.fresh⟩
  exact I1.laid (t' := s1.toks) (fun b u e => Heap.get?_push_of_some _ e) (Nat.le_refl _) ⟨z, us, 0, r, Heap.get?_push_size _ rfl⟩
/-- tuple(a list) -/
def rTupL (K : PySem.W.Frag) : List V → Hp → VK → Prop := fun vs H Q => ∃ (a : Addr) (xs : List V) (ds : List PyData), vs = [.ref a] ∧ H a = some (.lst xs) ∧ TpA H xs ds ∧ newT K H ds Q
theorem cr_tupL : CallR X (.type "tuple") (rTupL X.K) := by
  intro pins s σ H vs us Q I r h
  obtain ⟨a, xs, ds, rfl, hl, td, q⟩ := h
  exact call_tuple_of pins s σ H _ us Q I r ⟨a, xs, rfl, .inl ⟨SqL.of hl, fun l hn => q.at td hn⟩⟩
/-- xs + ys of lists -/
def rCatD (K : PySem.W.Frag) : R2 := fun x y H Q => ∃ (l b : Addr) (xs ys : List V) (ds es : List PyData), x = .ref l ∧ y = .ref b ∧ H l = some (.lst xs) ∧ H b = some (.lst ys) ∧ TpA H xs ds ∧ TpA H ys es ∧ ds.length + es.length ≤ 16000000 ∧ newL K H (xs ++ ys) (ds ++ es) Q
theorem op_catD : OpR X (binaryOp .Add) (rCatD X.K) := by
  intro pins s σ H x y v u Q I rx ry h
  obtain ⟨l, b, xs, ys, ds, es, rfl, rfl, h1, h2, t1, t2, hz, q⟩ := h
  exact op_cat pins s σ H _ _ v u Q I rx ry ⟨l, b, xs, ys, rfl, rfl, h1, h2, line_of (by rw [t1.len, t2.len]; exact hz), fun p hp => q.at (t1.app t2) hp⟩
/-- t + u of tuples -/
def rCatT (K : PySem.W.Frag) : R2 := fun x y H Q => ∃ (ds es : List PyData), Tp H x (.tuple ds) ∧ Tp H y (.tuple es) ∧ ds.length + es.length ≤ 16000000 ∧ newT K H (ds ++ es) Q
theorem op_catTD : OpR X (binaryOp .Add) (rCatT X.K) := by
  intro pins s σ H x y v u Q I rx ry h
  obtain ⟨ds, es, t1, t2, hz, q⟩ := h
  obtain ⟨a, xs, rfl, ha, ta⟩ := t1.tupD
  obtain ⟨b, ys, rfl, hb, tb⟩ := t2.tupD
  refine op_catA pins s σ H _ _ v u Q I rx ry ⟨a, b, xs, ys, rfl, rfl, SqT.of ha, SqT.of hb, line_of (by rw [ta.len, tb.len]; exact hz), fun e => ?_, fun _ e => ?_, fun _ _ p hp => q.at (ta.app tb) hp⟩
  · subst e
    cases ta
    exact q H _ Ex.refl t2
  · subst e
    cases tb
    exact q H _ Ex.refl (by rw [List.append_nil]; exact t1)
/-- t[lo:hi] -/
def cutD (ds : List PyData) (lo hi : Option Int) : List PyData := (ds.drop (HT.sIx ds.length 0 lo)).take (HT.sIx ds.length ds.length hi - HT.sIx ds.length 0 lo)
theorem cutD_of {H : Hp} {xs : List V} {ds : List PyData} (t : TpA H xs ds) (lo hi : Option Int) : TpA H (cutV xs lo hi) (cutD ds lo hi) := by
  unfold cutV cutD
  rw [t.len]
  exact (t.drop _).take _
def rSlD (K : PySem.W.Frag) : V → Option Int → Option Int → Hp → VK → Prop := fun x lo hi H Q => ∃ ds, Tp H x (.tuple ds) ∧ newT K H (cutD ds lo hi) Q
theorem sl_tupD : SlR X (rSlD X.K) := by
  intro pins s σ H x v vl vu lo hi sl Q I rx hs pl pu h
  obtain ⟨ds, t, q⟩ := h
  obtain ⟨a, xs, rfl, ha, ta⟩ := t.tupD
  refine sl_tupA pins s σ H _ v vl vu lo hi sl Q I rx hs pl pu ⟨a, xs, rfl, SqT.of ha, fun e => ?_, fun _ p hp => q.at (cutD_of ta lo hi) hp⟩
  refine q H _ Ex.refl ?_
  have e2 : cutD ds lo hi = ds := by
    unfold cutD
    rw [← ta.len, e.1, e.2, ta.len]
    simp
  rw [e2]
  exact t
/-- xs[lo:hi] -/
def rSlLD (K : PySem.W.Frag) : V → Option Int → Option Int → Hp → VK → Prop := fun x lo hi H Q => ∃ (a : Addr) (xs : List V) (ds : List PyData), x = .ref a ∧ H a = some (.lst xs) ∧ TpA H xs ds ∧ newL K H (cutV xs lo hi) (cutD ds lo hi) Q
theorem sl_listD : SlR X (rSlLD X.K) := by
  intro pins s σ H x v vl vu lo hi sl Q I rx hs pl pu h
  obtain ⟨a, xs, ds, rfl, ha, t, q⟩ := h
  exact sl_list pins s σ H _ v vl vu lo hi sl Q I rx hs pl pu ⟨a, xs, rfl, SqL.of ha, fun p hp => q.at (cutD_of t lo hi) hp⟩
end
/-! ### comprehensions -/
section
variable {K : PySem.W.Frag} {J : It} {n : Nat} {G : Hp → Prop} {Y : Nat → Hp → V → Hp → Prop} {L : List Addr}
theorem Ex.reflLs {H : Hp} (h : ∀ l ∈ L, ∃ xs, H l = some (.lst xs)) : Ex K L H H := ⟨fun l hl => ⟨h l hl, h l hl⟩, fun _ _ _ e _ => e, id⟩
/-- over a walk: D the new list, its data so far; Jv what is known besides -/
theorem lcD (w : Walk J n G Y) {g : TG} {tt : TT} {te : TE} {vs : List Nat} {σ : L2.St} {H1 : Hp} {D : Addr} {Qd : Hp → Prop} (Jv : Nat → List PyData → Hp → Prop) (hD : H1 D = none) (hL : ∀ l ∈ L, ∃ xs, H1 l = some (.lst xs)) (hn : n ≤ 16000000)
    (j0 : ∀ H, Ex K L H1 H → Jv 0 [] H) (hJ : ∀ i ds H H', Jv i ds H → Ex K [D] H H' → Jv i ds H') (hG : ∀ H, Ex K L H1 H → G H)
    (hs : ∀ i ds x H H' (KP : VK) (SK : Hp → Prop), i < n → Ex K L H1 H → Jv i ds H → Y i H x H' → (∀ y H4 d, Ex K L H H4 → Tp H4 y d → Jv (i + 1) (ds ++ [d]) H4 → KP y H4) → (∀ H3, Ex K L H H3 → Jv (i + 1) ds H3 → SK H3) →
      g x (wipe σ vs) H' fun σ2 H2 => wipe σ2 vs = wipe σ vs ∧ tt σ2 H2 fun b H3 => if b = true then te σ2 H3 KP else SK H3)
    (hd : ∀ H xs ds, Ex K L H1 H → H D = some (.lst xs) → TpA H xs ds → ds.length ≤ n → Jv n ds H → Qd H) :
    ∃ W : Nat → Nat → Hp → Prop, (∃ m, W 0 m (upd H1 D (.lst []))) ∧ ∀ i m H, W i m H → (J.stop i H ∧ Qd H) ∨
      (J.go i H ∧ ∃ Nx : Hp → Prop, (∀ H', Nx H' → ∃ m', m' < m ∧ W (i + 1) m' H') ∧ ∀ x H', J.yld i H x H' → g x (wipe σ vs) H' fun σ2 H2 => wipe σ2 vs = wipe σ vs ∧ tt σ2 H2 fun b H3 =>
        if b = true then te σ2 H3 fun y H4 => ∃ acc, H4 D = some (.lst acc) ∧ acc.length < sizeLine ∧ Nx (upd H4 D (.lst (acc ++ [y]))) else Nx H3) := by
  have nD : D ∉ L := fun h => by
    obtain ⟨xs, q⟩ := hL D h
    rw [hD] at q
    cases q
  have e1 : Ex K L H1 (upd H1 D (.lst [])) := (Ex.reflLs hL).newL hD
  refine lc_it w (fun i H => ∃ xs ds, Ex K L H1 H ∧ H D = some (.lst xs) ∧ TpA H xs ds ∧ ds.length ≤ i ∧ Jv i ds H) ⟨[], [], e1, upd_same, .nil, Nat.le_refl _, j0 _ e1⟩ (fun i H _ ⟨_, _, e, _⟩ => hG H e) ?_ ?_
  · rintro i x H H' hi ⟨xs, ds, e, hx, td, hl, j⟩ y
    refine hs i ds x H H' _ _ hi e j y (fun z H4 d e4 tz j4 => ?_) fun H3 e3 j3 => ⟨xs, ds, e.trans e3, e3.lst nD hx, e3.tpA td, Nat.le_succ_of_le hl, j3⟩
    have h4 := e4.lst nD hx
    have ep : Ex K [D] H4 (upd H4 D (.lst (xs ++ [z]))) := Ex.put h4
    have hz : xs.length < sizeLine := Nat.lt_of_lt_of_le (show xs.length < 16000001 by rw [td.len]; omega) (by rw [sizeLine_eq]; decide)
    refine ⟨xs, h4, hz, xs ++ [z], ds ++ [d], (e.trans e4).cut (Nw.of hD) ep nD, upd_same, ep.tpA ((e4.tpA td).app (.cons tz .nil)), ?_, hJ _ _ _ _ j4 ep⟩
    rw [List.length_append, List.length_singleton]
    omega
  · rintro H ⟨xs, ds, e, hx, td, hl, j⟩
    exact hd H xs ds e hx td hl j
/-- .. without a test -/
theorem lcY (w : Walk J n G Y) {g : TG} {te : TE} {vs : List Nat} {σ : L2.St} {H1 : Hp} {D : Addr} {Qd : Hp → Prop} (Jv : Nat → List PyData → Hp → Prop) (hD : H1 D = none) (hL : ∀ l ∈ L, ∃ xs, H1 l = some (.lst xs)) (hn : n ≤ 16000000)
    (j0 : ∀ H, Ex K L H1 H → Jv 0 [] H) (hJ : ∀ i ds H H', Jv i ds H → Ex K [D] H H' → Jv i ds H') (hG : ∀ H, Ex K L H1 H → G H)
    (hs : ∀ i ds x H H' (KP : VK), i < n → Ex K L H1 H → Jv i ds H → Y i H x H' → (∀ y H4 d, Ex K L H H4 → Tp H4 y d → Jv (i + 1) (ds ++ [d]) H4 → KP y H4) → g x (wipe σ vs) H' fun σ2 H2 => wipe σ2 vs = wipe σ vs ∧ te σ2 H2 KP)
    (hd : ∀ H xs ds, Ex K L H1 H → H D = some (.lst xs) → TpA H xs ds → ds.length ≤ n → Jv n ds H → Qd H) :
    ∃ W : Nat → Nat → Hp → Prop, (∃ m, W 0 m (upd H1 D (.lst []))) ∧ ∀ i m H, W i m H → (J.stop i H ∧ Qd H) ∨
      (J.go i H ∧ ∃ Nx : Hp → Prop, (∀ H', Nx H' → ∃ m', m' < m ∧ W (i + 1) m' H') ∧ ∀ x H', J.yld i H x H' → g x (wipe σ vs) H' fun σ2 H2 => wipe σ2 vs = wipe σ vs ∧ tYes σ2 H2 fun b H3 =>
        if b = true then te σ2 H3 fun y H4 => ∃ acc, H4 D = some (.lst acc) ∧ acc.length < sizeLine ∧ Nx (upd H4 D (.lst (acc ++ [y]))) else Nx H3) :=
  lcD w Jv hD hL hn j0 hJ hG (fun i ds x H H' KP _ hi e j y hk _ => hs i ds x H H' KP hi e j y hk) hd
end
/-! lists of truths and of numbers, as data -/
theorem TpA.bools {H : Hp} : ∀ {xs : List V} {bs : List Bool}, TpA H xs (bs.map PyData.bool) → xs = bs.map V.bl
  | _, [], .nil => rfl
  | _, b :: bs, t => by
    cases t with
    | cons h t =>
      cases h
      rw [TpA.bools t]
      rfl
theorem TpA.ints {H : Hp} : ∀ {xs : List V} {ns : List Int}, TpA H xs (ns.map PyData.int) → xs = ns.map V.int
  | _, [], .nil => rfl
  | _, b :: bs, t => by
    cases t with
    | cons h t =>
      cases h
      rw [TpA.ints t]
      rfl
end K54
end
section
set_option Elab.async false
set_option linter.all false
set_option maxRecDepth 100000
set_option maxHeartbeats 4000000
/-! The defs of blocks.py. -/
namespace K54
open PySem PySem.Spec PyProof.Rows L2
/-- the names of the module that are built-in, its constants -/
structure Txt (mg : Str → Option Value) : Prop where
  isi : mg "isinstance" = none
  int : mg "int" = none
  bool : mg "bool" = none
  tuple : mg "tuple" = none
  str : mg "str" = none
  len : mg "len" = none
  all : mg "all" = none
  any : mg "any" = none
  sum : mg "sum" = none
  zip : mg "zip" = none
  sorted : mg "sorted" = none
  range : mg "range" = none
  max : mg "max" = none
  min : mg "min" = none
  bits : ∃ t, mg "MOST_BITS" = some (.int 64 t)
  signs : ∃ t, mg "MOST_SIGNS" = some (.int 8 t)
  letters : ∃ t, mg "LETTERS" = some (.str "abcdefghijklmnopqrstuvwxyz" t)
/-! ### promises -/
def spWhole : Sp := fun vs H Q _ => ∃ i : Int, vs = [.int i] ∧ Q (.bl true) H
def spBits : Sp := fun vs H Q _ => ∃ n : Nat, vs = [.int (n : Nat)] ∧ 1 ≤ n ∧ n ≤ 64 ∧ Q (.bl true) H
def spIsBlock : Sp := fun vs H Q _ => ∃ (n : Nat) (v : V) (b : B), vs = [.int (n : Nat), v] ∧ Tp H v (bD b) ∧ n ≤ 64 ∧ Okb n b ∧ Q (.bl true) H
def spSize : Sp := fun vs H Q _ => ∃ (v : V) (b : B), vs = [v] ∧ Tp H v (bD b) ∧ b.2 ≤ 900 ∧ Q (.int ((2 ^ b.2 : Nat) : Int)) H
def spEnd : Sp := fun vs H Q _ => ∃ (v : V) (b : B), vs = [v] ∧ Tp H v (bD b) ∧ b.2 ≤ 900 ∧ Q (.int ((fin b : Nat) : Int)) H
def spHolds : Sp := fun vs H Q _ => ∃ (v u : V) (a b : B), vs = [v, u] ∧ Tp H v (bD a) ∧ Tp H u (bD b) ∧ a.2 ≤ 900 ∧ b.2 ≤ 900 ∧ Q (.bl (decide (holdsB a b))) H
instance (a b : B) : Decidable (disj a b) := by unfold disj; infer_instance
def spApart : Sp := fun vs H Q _ => ∃ (v u : V) (a b : B), vs = [v, u] ∧ Tp H v (bD a) ∧ Tp H u (bD b) ∧ a.2 ≤ 900 ∧ b.2 ≤ 900 ∧ Q (.bl (decide (disj a b))) H
def spHalves (K : PySem.W.Frag) : Sp := fun vs H Q _ => ∃ (v : V) (s h : Nat), vs = [v] ∧ Tp H v (bD (s, h + 1)) ∧ h ≤ 900 ∧ ∀ H' u, Ex K [] H H' → Tp H' u (.tuple [bD (s, h), bD (s + 2 ^ h, h)]) → Q u H'
def spAround (K : PySem.W.Frag) : Sp := fun vs H Q _ => ∃ (v : V) (b : B) (h : Nat), vs = [v, .int (h : Nat)] ∧ Tp H v (bD b) ∧ h ≤ 901 ∧ ∀ H' u, Ex K [] H H' → Tp H' u (bD (b.1 - b.1 % 2 ^ h, h)) → Q u H'
def otherH (b : B) : B := if (b.1 - b.1 % 2 ^ (b.2 + 1), b.2) = b then (b.1 - b.1 % 2 ^ (b.2 + 1) + 2 ^ b.2, b.2) else (b.1 - b.1 % 2 ^ (b.2 + 1), b.2)
def spOther (K : PySem.W.Frag) : Sp := fun vs H Q _ => ∃ (v : V) (b : B), vs = [v] ∧ Tp H v (bD b) ∧ b.2 ≤ 900 ∧ ∀ H' u, Ex K [] H H' → Tp H' u (bD (otherH b)) → Q u H'
/-! ### answers -/
theorem ifT {c A B : Prop} [Decidable c] (h : c) (a : A) : if decide c = true then A else B := by rw [if_pos (decide_eq_true h)]; exact a
theorem ifF {c A B : Prop} [Decidable c] (h : ¬ c) (b : B) : if decide c = true then A else B := by rw [if_neg (by rw [decide_eq_false h]; decide)]; exact b
theorem if2 {c A B : Prop} [Decidable c] (a : c → A) (b : ¬ c → B) : if decide c = true then A else B := by
  by_cases h : c
  · exact ifT h (a h)
  · exact ifF h (b h)
theorem blI {p q : Prop} [Decidable p] [Decidable q] {Q : VK} {H : Hp} (h : Q (.bl (decide q)) H) (e : p ↔ q) : Q (.bl (decide p)) H := by
  rw [show decide p = decide q from decide_eq_decide.mpr e]
  exact h
theorem blT {p : Prop} [Decidable p] {Q : VK} {H : Hp} (h : Q (.bl true) H) (e : p) : Q (.bl (decide p)) H := by rw [decide_eq_true e]; exact h
theorem blF {p : Prop} [Decidable p] {Q : VK} {H : Hp} (h : Q (.bl false) H) (e : ¬ p) : Q (.bl (decide p)) H := by rw [decide_eq_false e]; exact h
theorem Okb.h900 {n : Nat} {b : B} (h : Okb n b) (hn : n ≤ 64) : b.2 ≤ 900 := Nat.le_trans h.ht (by omega)
theorem bD_eqv (a b : B) : PyData.eqv (bD a) (bD b) = decide (a = b) := by
  have e : PyData.eqv (bD a) (bD b) = ((((a.1 : Nat) : Int) == ((b.1 : Nat) : Int)) && ((((a.2 : Nat) : Int) == ((b.2 : Nat) : Int)) && true)) := by simp only [bD, PyData.eqv, PyData.eqvAll]
  rw [e]
  by_cases h1 : a.1 = b.1
  · by_cases h2 : a.2 = b.2
    · rw [decide_eq_true (Prod.ext h1 h2), h1, h2]
      simp
    · have q : (((a.2 : Nat) : Int) == ((b.2 : Nat) : Int)) = false := beq_eq_false_iff_ne.mpr (by omega)
      rw [q, decide_eq_false (fun z => h2 (congrArg Prod.snd z))]
      simp
  · have q : (((a.1 : Nat) : Int) == ((b.1 : Nat) : Int)) = false := beq_eq_false_iff_ne.mpr (by omega)
    rw [q, decide_eq_false (fun z => h1 (congrArg Prod.fst z))]
    rfl
theorem bD_shaped (b : B) : SeqAt.shaped (bD b) = true := rfl
section
variable {P : Program} {w : World} {K : PySem.W.Frag} {mg : Str → Option Value} {base : Heap}
/-! ### is_whole, is_bits, is_block -/
theorem ok_is_whole (T : Txt mg) (D : Def K mg "is_whole" s_is_whole) : Ok P w K mg base 1 "is_whole" ["thing"] spWhole := by
  refine D.ok sc_is_whole (fun _ _ _ _ _ _ us hl => match us, hl with | [_], _ => rfl) (fun vs H Q E h => ?_) (fun f cdv A outer s H vs Q E hr h => ?_)
  · obtain ⟨i, rfl, _⟩ := h
    rfl
  · obtain ⟨i, rfl, q⟩ := h
    refine ⟨_, (pss_one (ps_ret (pe_and (pe_callB cr_isi (by rfl) T.isi (by decide +kernel) (pa_cons (pv 0) (pa_cons (pe_bltn (v := .ty "int") (by rfl) T.int (by decide +kernel) rfl) pa_nil))) (pe_one (pe_not (pe_callB cr_isi (by rfl) T.isi (by decide +kernel) (pa_cons (pv 0) (pa_cons (pe_bltn (v := .ty "bool") (by rfl) T.bool (by decide +kernel) rfl) pa_nil)))))))), ?_⟩
    exact ⟨_, rfl, _, _, _, true, rfl, .int i, by decide +kernel, _, rfl, iteT ⟨_, rfl, _, _, _, false, rfl, .int i, by decide +kernel, _, rfl, q⟩⟩
theorem ok_is_bits (T : Txt mg) (D : Def K mg "is_bits" s_is_bits) (g_is_whole : Ok P w K mg base 1 "is_whole" ["thing"] spWhole) : Ok P w K mg base 2 "is_bits" ["thing"] spBits := by
  refine D.ok sc_is_bits (fun _ _ _ _ _ _ us hl => match us, hl with | [_], _ => rfl) (fun vs H Q E h => ?_) (fun f cdv A outer s H vs Q E hr h => ?_)
  · obtain ⟨i, rfl, _⟩ := h
    rfl
  · obtain ⟨n, rfl, h1, h2, q⟩ := h
    refine ⟨_, (pss_one (ps_ret (pe_and (cl g_is_whole hr (pa_cons (pv 0) pa_nil)) (pe_one (pe_chain op_le op_le pe_int (pv 0) (pe_globI T.bits)))))), ?_⟩
    refine ⟨_, rfl, _, rfl, _, rfl, iteT ⟨_, rfl, _, _, rfl, rfl, _, rfl, ifT (by omega) ⟨_, _, rfl, rfl, blT q (by omega)⟩⟩⟩
theorem ok_is_block (T : Txt mg) (D : Def K mg "is_block" s_is_block) (g_is_whole : Ok P w K mg base 1 "is_whole" ["thing"] spWhole) : Ok P w K mg base 2 "is_block" ["bits", "thing"] spIsBlock := by
  refine D.ok sc_is_block (fun _ _ _ _ _ _ us hl => match us, hl with | [_, _], _ => rfl) (fun vs H Q E h => ?_) (fun f cdv A outer s H vs Q E hr h => ?_)
  · obtain ⟨n, v, b, rfl, _⟩ := h
    rfl
  · obtain ⟨n, v, b, rfl, hb, h1, ob, q⟩ := h
    obtain ⟨a, rfl, ha⟩ := hb.bk
    have hh := ob.ht
    have hl := ob.lt
    refine ⟨_, (pss_cons (ps_if (PW.pt (pw_or (pt_not (pt_val (pe_callB cr_isi (by rfl) T.isi (by decide +kernel) (pa_cons (pv 1) (pa_cons (pe_bltn (v := .ty "tuple") (by rfl) T.tuple (by decide +kernel) rfl) pa_nil))))) (pw_or (pt_cmp (pc_neI (pe_callB call_len_seq (by rfl) T.len (by decide +kernel) (pa_cons (pv 1) pa_nil)) pe_int)) (pw_or (pt_not (pt_val (cl g_is_whole hr (pa_cons (pe_at0 (pv 1)) pa_nil)))) (pw_or1 (pt_not (pt_val (cl g_is_whole hr (pa_cons (pe_at1 (pv 1)) pa_nil))))))))) (pss_one (ps_ret pe_bl)) pss_nil)
      (pss_cons (ps_if (PW.pt (pw_or (pt_not (pt_chain op_le op_le pe_int (pe_at1 (pv 1)) (pv 0))) (pw_or1 (pt_not (pt_chain op_le op_lt pe_int (pe_at0 (pv 1)) (pe_shl1 (pv 0))))))) (pss_one (ps_ret pe_bl)) pss_nil)
      (pss_one (ps_ret (pe_cmp (pc_eqI (pe_op op_mod (pe_at0 (pv 1)) (pe_shl1 (pe_at1 (pv 1)))) pe_int)))))), ?_⟩
    refine ⟨_, rfl, _, _, _, true, rfl, .tup ha, by decide +kernel, _, rfl, iteF ⟨_, rfl, a, _, rfl, .inr (SqT.of ha), _, _, rfl, rfl, _, rfl, ?_⟩⟩
    refine iteF ⟨_, rfl, b, hb, _, rfl, _, rfl, iteF ⟨_, rfl, b, hb, _, rfl, _, rfl, iteF ?_⟩⟩
    refine ⟨_, rfl, b, hb, _, _, rfl, rfl, _, rfl, ifT (by omega) ⟨_, rfl, _, _, rfl, rfl, _, rfl, ?_⟩⟩
    rw [decide_eq_true (show ((b.2 : Nat) : Int) ≤ ((n : Nat) : Int) by omega)]
    refine iteF ⟨_, rfl, b, hb, _, _, rfl, rfl, _, rfl, ifT (by omega) ⟨_, rfl, n, rfl, by omega, _, _, rfl, rfl, _, rfl, ?_⟩⟩
    rw [decide_eq_true (show ((b.1 : Nat) : Int) < ((2 ^ n : Nat) : Int) by omega)]
    refine iteF ⟨_, rfl, b, hb, _, rfl, b, hb, b.2, rfl, by omega, _, _, rfl, rfl, ?_, _, _, rfl, rfl, ?_⟩
    · have := two_pos b.2
      omega
    · refine blT q ?_
      have e := ob.al
      omega
/-! ### size_of, end_of, holds, apart -/
theorem ok_size_of (D : Def K mg "size_of" s_size_of) : Ok P w K mg base 1 "size_of" ["block"] spSize := by
  refine D.ok sc_size_of (fun _ _ _ _ _ _ us hl => match us, hl with | [_], _ => rfl) (fun vs H Q E h => ?_) (fun f cdv A outer s H vs Q E hr h => ?_)
  · obtain ⟨v, b, rfl, _⟩ := h
    rfl
  · obtain ⟨v, b, rfl, hb, h1, q⟩ := h
    refine ⟨_, (pss_one (ps_ret (pe_shl1 (pe_at1 (pv 0))))), ?_⟩
    exact ⟨_, rfl, b, hb, b.2, rfl, by omega, q⟩
theorem ok_end_of (D : Def K mg "end_of" s_end_of) : Ok P w K mg base 1 "end_of" ["block"] spEnd := by
  refine D.ok sc_end_of (fun _ _ _ _ _ _ us hl => match us, hl with | [_], _ => rfl) (fun vs H Q E h => ?_) (fun f cdv A outer s H vs Q E hr h => ?_)
  · obtain ⟨v, b, rfl, _⟩ := h
    rfl
  · obtain ⟨v, b, rfl, hb, h1, q⟩ := h
    refine ⟨_, (pss_one (ps_ret (pe_op op_add (pe_at0 (pv 0)) (pe_shl1 (pe_at1 (pv 0)))))), ?_⟩
    exact ⟨_, rfl, b, hb, _, rfl, b, hb, b.2, rfl, by omega, _, _, rfl, rfl, q⟩
theorem ok_holds (D : Def K mg "holds" s_holds) (g_end_of : Ok P w K mg base 1 "end_of" ["block"] spEnd) : Ok P w K mg base 2 "holds" ["one", "other"] spHolds := by
  refine D.ok sc_holds (fun _ _ _ _ _ _ us hl => match us, hl with | [_, _], _ => rfl) (fun vs H Q E h => ?_) (fun f cdv A outer s H vs Q E hr h => ?_)
  · obtain ⟨v, u, a, b, rfl, _⟩ := h
    rfl
  · obtain ⟨v, u, a, b, rfl, ha, hb, h1, h2, q⟩ := h
    refine ⟨_, (pss_one (ps_ret (pe_and (pe_cmp (pc_le (pe_at0 (pv 0)) (pe_at0 (pv 1)))) (pe_one (pe_cmp (pc_le (cl g_end_of hr (pa_cons (pv 1) pa_nil)) (cl g_end_of hr (pa_cons (pv 0) pa_nil)))))))), ?_⟩
    refine ⟨_, rfl, a, ha, _, rfl, b, hb, _, _, rfl, rfl, _, rfl, if2 (fun c => ?_) fun c => ?_⟩
    · refine ⟨_, rfl, _, b, rfl, hb, h2, _, rfl, _, a, rfl, ha, h1, _, _, rfl, rfl, blI q ?_⟩
      unfold holdsB
      omega
    · have e : ¬ holdsB a b := fun z => by
        have := z.1
        omega
      rw [decide_eq_false e] at q
      exact q
theorem ok_apart (D : Def K mg "apart" s_apart) (g_end_of : Ok P w K mg base 1 "end_of" ["block"] spEnd) : Ok P w K mg base 2 "apart" ["one", "other"] spApart := by
  refine D.ok sc_apart (fun _ _ _ _ _ _ us hl => match us, hl with | [_, _], _ => rfl) (fun vs H Q E h => ?_) (fun f cdv A outer s H vs Q E hr h => ?_)
  · obtain ⟨v, u, a, b, rfl, _⟩ := h
    rfl
  · obtain ⟨v, u, a, b, rfl, ha, hb, h1, h2, q⟩ := h
    refine ⟨_, (pss_one (ps_ret (pe_or (pe_cmp (pc_le (cl g_end_of hr (pa_cons (pv 0) pa_nil)) (pe_at0 (pv 1)))) (pe_one (pe_cmp (pc_le (cl g_end_of hr (pa_cons (pv 1) pa_nil)) (pe_at0 (pv 0)))))))), ?_⟩
    refine ⟨_, rfl, _, a, rfl, ha, h1, _, rfl, b, hb, _, _, rfl, rfl, _, rfl, if2 (fun c => ?_) fun c => ?_⟩
    · have e : disj a b := .inl (by omega)
      rw [decide_eq_true e] at q
      exact q
    · refine ⟨_, rfl, _, b, rfl, hb, h2, _, rfl, a, ha, _, _, rfl, rfl, blI q ?_⟩
      unfold disj
      omega
/-! ### halves, around, other_half -/
theorem ok_halves (D : Def K mg "halves" s_halves) : Ok P w K mg base 1 "halves" ["block"] (spHalves K) := by
  refine D.ok sc_halves (fun _ _ _ _ _ _ us hl => match us, hl with | [_], _ => rfl) (fun vs H Q E h => ?_) (fun f cdv A outer s H vs Q E hr h => ?_)
  · obtain ⟨v, b, h, rfl, _⟩ := h
    rfl
  · obtain ⟨v, b, h, rfl, hb, h1, q⟩ := h
    obtain ⟨a, rfl, ha⟩ := hb.bk
    refine ⟨_, (pss_cons (ps_asg (pv 0) (pg_tup rfl (pgs_cons (pg_name (i := 1) sc_halves.nd rfl (.inl rfl)) (pgs_cons (pg_name (i := 2) sc_halves.nd rfl (.inl rfl)) pgs_nil))))
      (pss_one (ps_ret (pe_tupD (pa_cons (pe_tupD (pa_cons (pv 1) (pa_cons (pe_op op_sub (pv 2) pe_int) pa_nil))) (pa_cons (pe_tupD (pa_cons (pe_op op_add (pv 1) (pe_shl1 (pe_op op_sub (pv 2) pe_int))) (pa_cons (pe_op op_sub (pv 2) pe_int) pa_nil))) pa_nil)))))), ?_⟩
    have e : (((h + 1 : Nat) : Int) - 1) = ((h : Nat) : Int) := by omega
    refine ⟨_, rfl, a, _, rfl, SqT.of ha, rfl, _, _, rfl, _, _, rfl, rfl, ?_⟩
    refine ⟨_, rfl, _, rfl, _, _, rfl, rfl, [.int (b : Nat), .int (h : Nat)], .cons (.int _) (.cons ?_ .nil), n1000, fun H1 v1 e1 t1 => ?_⟩
    · show Tp _ (.int (((h + 1 : Nat) : Int) - 1)) _
      rw [e]
      exact .int _
    refine ⟨_, rfl, _, rfl, _, _, rfl, rfl, h, congrArg V.int e, by omega, _, _, rfl, rfl, _, rfl, _, _, rfl, rfl, [.int ((b + 2 ^ h : Nat) : Int), .int (h : Nat)], .cons ?_ (.cons ?_ .nil), n1000, fun H2 v2 e2 t2 => ?_⟩
    · exact .int _
    · show Tp _ (.int (((h + 1 : Nat) : Int) - 1)) _
      rw [e]
      exact .int _
    exact ⟨[bD (b, h), bD (b + 2 ^ h, h)], .cons (e2.tp t1) (.cons t2 .nil), n1000, fun H3 v3 e3 t3 => q _ _ ((e1.trans e2).trans e3) t3⟩
theorem ok_around (D : Def K mg "around" s_around) : Ok P w K mg base 1 "around" ["block", "height"] (spAround K) := by
  refine D.ok sc_around (fun _ _ _ _ _ _ us hl => match us, hl with | [_, _], _ => rfl) (fun vs H Q E h => ?_) (fun f cdv A outer s H vs Q E hr h => ?_)
  · obtain ⟨v, b, h, rfl, _⟩ := h
    rfl
  · obtain ⟨v, b, h, rfl, hb, h1, q⟩ := h
    refine ⟨_, (pss_one (ps_ret (pe_tupD (pa_cons (pe_op op_sub (pe_at0 (pv 0)) (pe_op op_mod (pe_at0 (pv 0)) (pe_shl1 (pv 1)))) (pa_cons (pv 1) pa_nil))))), ?_⟩
    have e : (((b.1 : Nat) : Int) - ((b.1 : Nat) : Int) % ((2 ^ h : Nat) : Int)) = ((b.1 - b.1 % 2 ^ h : Nat) : Int) := by
      have := Nat.mod_le b.1 (2 ^ h)
      omega
    refine ⟨_, rfl, b, hb, _, rfl, b, hb, _, rfl, h, rfl, by omega, _, _, rfl, rfl, ?_, _, _, rfl, rfl, _, rfl, [.int ((b.1 - b.1 % 2 ^ h : Nat) : Int), .int (h : Nat)], .cons ?_ (.cons (.int _) .nil), n1000, q⟩
    · have := two_pos h
      omega
    · show Tp _ (.int (((b.1 : Nat) : Int) - ((b.1 : Nat) : Int) % ((2 ^ h : Nat) : Int))) _
      rw [e]
      exact .int _
theorem ok_other_half (D : Def K mg "other_half" s_other_half) (g_halves : Ok P w K mg base 1 "halves" ["block"] (spHalves K)) (g_around : Ok P w K mg base 1 "around" ["block", "height"] (spAround K)) :
    Ok P w K mg base 2 "other_half" ["block"] (spOther K) := by
  refine D.ok sc_other_half (fun _ _ _ _ _ _ us hl => match us, hl with | [_], _ => rfl) (fun vs H Q E h => ?_) (fun f cdv A outer s H vs Q E hr h => ?_)
  · obtain ⟨v, b, rfl, _⟩ := h
    rfl
  · obtain ⟨v, b, rfl, hb, h1, q⟩ := h
    refine ⟨_, (pss_cons (ps_asg (cl g_halves hr (pa_cons (cl g_around hr (pa_cons (pv 0) (pa_cons (pe_op op_add (pe_at1 (pv 0)) pe_int) pa_nil))) pa_nil)) (pg_tup rfl (pgs_cons (pg_name (i := 1) sc_other_half.nd rfl (.inl rfl)) (pgs_cons (pg_name (i := 2) sc_other_half.nd rfl (.inl rfl)) pgs_nil))))
      (pss_cons (ps_if (pt_cmpR (op_eqD hr.units) (pv 1) (pv 0) (nomark _)) (pss_one (ps_ret (pv 2))) pss_nil)
      (pss_one (ps_ret (pv 1))))), ?_⟩
    refine ⟨_, rfl, _, rfl, b, hb, _, _, rfl, rfl, v, b, b.2 + 1, rfl, hb, by omega, fun H1 u1 e1 t1 => ?_⟩
    refine ⟨u1, b.1 - b.1 % 2 ^ (b.2 + 1), b.2, rfl, t1, by omega, fun H2 u2 e2 t2 => ?_⟩
    obtain ⟨a2, x, y, rfl, ha2, hx, hy⟩ := t2.two
    have hb2 := (e1.trans e2).tp hb
    refine ⟨a2, _, rfl, SqT.of ha2, rfl, x, _, rfl, y, _, rfl, rfl, ?_⟩
    refine ⟨_, rfl, _, rfl, _, _, hx.dp, hb2.dp, bD_shaped _, bD_shaped _, _, rfl, ?_⟩
    rw [bD_eqv]
    refine if2 (fun c => ⟨_, rfl, q _ _ (e1.trans e2) ?_⟩) fun c => ⟨_, rfl, q _ _ (e1.trans e2) ?_⟩
    · unfold otherH
      rw [if_pos c]
      exact hy
    · unfold otherH
      rw [if_neg c]
      exact hx
end
end K54
end
section
set_option Elab.async false
set_option linter.all false
set_option maxRecDepth 100000
set_option maxHeartbeats 4000000
/-! The defs of patches.py, first part. -/
namespace K54
open PySem PySem.Spec PyProof.Rows L2
theorem sib_iff {a b : B} : a.2 = b.2 ∧ a.1 < b.1 ∧ otherH a = b ↔ sib a b := by
  have hp := two_pos a.2
  have hm := Nat.mod_le a.1 (2 ^ (a.2 + 1))
  unfold otherH
  constructor
  · rintro ⟨h1, h2, h3⟩
    by_cases c : (a.1 - a.1 % 2 ^ (a.2 + 1), a.2) = a
    · rw [if_pos c] at h3
      have c1 : a.1 - a.1 % 2 ^ (a.2 + 1) = a.1 := congrArg Prod.fst c
      have e1 : a.1 - a.1 % 2 ^ (a.2 + 1) + 2 ^ a.2 = b.1 := congrArg Prod.fst h3
      exact ⟨h1, by omega, by omega⟩
    · rw [if_neg c] at h3
      have e1 : a.1 - a.1 % 2 ^ (a.2 + 1) = b.1 := congrArg Prod.fst h3
      omega
  · rintro ⟨h1, h2, h3⟩
    have c : (a.1 - a.1 % 2 ^ (a.2 + 1), a.2) = a := by rw [h2, Nat.sub_zero]
    rw [if_pos c, h2, Nat.sub_zero, ← h3, h1]
    exact ⟨rfl, by omega, rfl⟩
/-! ### promises -/
def spMakeOne (K : PySem.W.Frag) : Sp := fun vs H Q _ => ∃ (v u : V) (a b : B), vs = [v, u] ∧ Tp H v (bD a) ∧ Tp H u (bD b) ∧ a.2 ≤ 900 ∧ b.2 ≤ 900 ∧ ∀ H', Ex K [] H H' → Q (.bl (decide (sib a b))) H'
def spAreApart (K : PySem.W.Frag) : Sp := fun vs H Q _ => ∃ (v : V) (bs : List B), vs = [v] ∧ Tp H v (pD bs) ∧ (∀ b ∈ bs, b.2 ≤ 900) ∧ bs.length ≤ 15000000 ∧ Ap bs ∧ ∀ H', Ex K [] H H' → Q (.bl true) H'
def spIsPatch (K : PySem.W.Frag) : Sp := fun vs H Q _ => ∃ (n : Nat) (v : V) (bs : List B), vs = [.int (n : Nat), v] ∧ Tp H v (pD bs) ∧ n ≤ 64 ∧ (∀ b ∈ bs, Okb n b) ∧ bs.length ≤ 15000000 ∧ Ap bs ∧ ∀ H', Ex K [] H H' → Q (.bl true) H'
def spIsFewest (K : PySem.W.Frag) : Sp := fun vs H Q _ => ∃ (v : V) (bs : List B), vs = [v] ∧ Tp H v (pD bs) ∧ (∀ b ∈ bs, b.2 ≤ 900) ∧ bs.length ≤ 15000000 ∧ Red bs ∧ ∀ H', Ex K [] H H' → Q (.bl true) H'
def spCount (K : PySem.W.Frag) : Sp := fun vs H Q _ => ∃ (v : V) (bs : List B), vs = [v] ∧ Tp H v (pD bs) ∧ (∀ b ∈ bs, b.2 ≤ 900) ∧ bs.length ≤ 15000000 ∧ ∀ H', Ex K [] H H' → Q (.int ((sizes bs : Nat) : Int)) H'
theorem drop_at {α : Type} {l : List α} {i : Nat} {x : α} (h : (l.drop 1)[i]? = some x) : l[i + 1]? = some x := by
  rw [List.getElem?_drop, Nat.add_comm] at h
  exact h
theorem pw_at {α : Type} {R : α → α → Prop} {l : List α} (h : l.Pairwise R) {i : Nat} {a b : α} (ha : l[i]? = some a) (hb : l[i + 1]? = some b) : R a b := by
  obtain ⟨h1, e1⟩ := List.getElem?_eq_some_iff.mp ha
  obtain ⟨h2, e2⟩ := List.getElem?_eq_some_iff.mp hb
  rw [← e1, ← e2]
  exact List.pairwise_iff_getElem.mp h i (i + 1) h1 h2 (Nat.lt_succ_self i)
theorem mem_at {α : Type} {l : List α} {i : Nat} {a : α} (h : l[i]? = some a) : a ∈ l := List.mem_of_getElem? h
/-- the tail of a tuple of blocks -/
theorem cut1 (ds : List PyData) : cutD ds (some 1) none = ds.drop 1 := by
  unfold cutD
  rw [show HT.sIx ds.length 0 (some 1) = min 1 ds.length from HT.sIx_nat ds.length 0 1, HT.sIx_none]
  cases ds with
  | nil => rfl
  | cons x r =>
    rw [show min 1 (x :: r).length = 1 by rw [List.length_cons]; omega]
    show List.take ((x :: r).length - 1) r = r
    rw [List.length_cons, Nat.add_sub_cancel, List.take_length]
section
variable {P : Program} {w : World} {K : PySem.W.Frag} {mg : Str → Option Value} {base : Heap}
theorem ok_make_one (D : Def K mg "make_one" s_make_one) (g_other_half : Ok P w K mg base 2 "other_half" ["block"] (spOther K)) : Ok P w K mg base 3 "make_one" ["one", "other"] (spMakeOne K) := by
  refine D.ok sc_make_one (fun _ _ _ _ _ _ us hl => match us, hl with | [_, _], _ => rfl) (fun vs H Q E h => ?_) (fun f cdv A outer s H vs Q E hr h => ?_)
  · obtain ⟨v, u, a, b, rfl, _⟩ := h
    rfl
  · obtain ⟨v, u, a, b, rfl, ha, hb, h1, h2, q⟩ := h
    refine ⟨_, (pss_one (ps_ret (pe_and (pe_cmp (pc_eqI (pe_at1 (pv 0)) (pe_at1 (pv 1)))) (pe_and (pe_cmp (pc_lt (pe_at0 (pv 0)) (pe_at0 (pv 1)))) (pe_one (pe_cmpR (op_eqD hr.units) (cl g_other_half hr (pa_cons (pv 0) pa_nil)) (pv 1) (nomark _))))))), ?_⟩
    refine ⟨_, rfl, a, ha, _, rfl, b, hb, _, _, rfl, rfl, _, rfl, if2 (fun c1 => ?_) fun c1 => ?_⟩
    · refine ⟨_, rfl, a, ha, _, rfl, b, hb, _, _, rfl, rfl, _, rfl, if2 (fun c2 => ?_) fun c2 => ?_⟩
      · refine ⟨_, rfl, v, a, rfl, ha, h1, fun H1 u1 e1 t1 => ?_⟩
        refine ⟨_, rfl, _, _, t1.dp, (e1.tp hb).dp, bD_shaped _, bD_shaped _, ?_⟩
        rw [bD_eqv]
        refine blI (q H1 e1) (Iff.trans ⟨fun z => ?_, fun z => ?_⟩ sib_iff)
        · exact ⟨by omega, by omega, z⟩
        · exact z.2.2
      · have z := q H Ex.refl
        rw [decide_eq_false (fun y => c2 (by have := (sib_iff.mpr y).2.1; omega))] at z
        exact z
    · have z := q H Ex.refl
      rw [decide_eq_false (fun y => c1 (by have := (sib_iff.mpr y).1; omega))] at z
      exact z
theorem rep_snoc {α : Type} (i : Nat) (b : α) : List.replicate i b ++ [b] = List.replicate (i + 1) b := by rw [List.replicate_succ']
theorem all_true (n : Nat) : (List.replicate n true).all id = true := by simp
theorem any_false (n : Nat) : (List.replicate n false).any id = false := by simp
theorem ok_are_apart (T : Txt mg) (D : Def K mg "are_apart" s_are_apart) (g_end_of : Ok P w K mg base 1 "end_of" ["block"] spEnd) : Ok P w K mg base 2 "are_apart" ["blocks"] (spAreApart K) := by
  refine D.ok sc_are_apart (fun _ _ _ _ _ _ us hl => match us, hl with | [_], _ => rfl) (fun vs H Q E h => ?_) (fun f cdv A outer s H vs Q E hr h => ?_)
  · obtain ⟨v, bs, rfl, _⟩ := h
    rfl
  · obtain ⟨v, bs, rfl, hb, h9, hz, ap, q⟩ := h
    obtain ⟨a, xs, rfl, ha, tx⟩ := hb.pa
    refine ⟨_, (pss_one (ps_ret (pe_callB (cr_all rfl) (by rfl) T.all (by decide +kernel) (pa_cons (pe_lc (own := [("one", 1), ("other", 2)]) (g := gTup K 2 (gCons (gName 1) (gCons (gName 2) gNil))) (tt := tYes) rfl sc_are_apart.nd (RZ.pi_zipA (by rfl) T.zip (pa_cons (pv 0) (pa_cons (pe_slice sl_tupD (pv 0) (po_some pe_int) po_none) pa_nil))) (blkOk_by (N := ["blocks", "one", "other"]) (sc := defScope s_are_apart) (by decide +kernel)) (fun _ _ _ _ _ => (pg_tup rfl (pgs_cons (pg_name (i := 1) sc_are_apart.nd rfl (.inl rfl)) (pgs_cons (pg_name (i := 2) sc_are_apart.nd rfl (.inl rfl)) pgs_nil)))) (fun _ _ _ _ _ => pts_nil) (fun _ _ _ _ _ => (pe_cmp (pc_le (cl g_end_of hr (pa_cons (pv 1) pa_nil)) (pe_at0 (pv 2)))))) pa_nil)))), ?_⟩
    refine ⟨_, rfl, _, rfl, _, rfl, bs.map bD, hb, fun H1 v1 e1 t1 => ?_⟩
    obtain ⟨a1, ys, rfl, ha1, ty⟩ := t1.tupD
    rw [cut1, ← List.map_drop] at ty
    have lx := tx.lenB
    refine ⟨a, a1, xs, ys, rfl, .inr ⟨SqT.of (e1.tup ha), SqT.of ha1, fun D hD => ?_⟩⟩
    refine lcY (K := K) (L := []) (walk_zipT rfl) (fun i ds _ => ds = (List.replicate i true).map PyData.bool) hD (by simp) (by omega) (fun _ _ => rfl) (fun _ _ _ _ h _ => h) (fun H e => ⟨SqT.of (e.tup (e1.tup ha)), SqT.of (e.tup ha1)⟩) ?_ ?_
    · rintro i ds x H2 H3 KP hi e2 rfl ⟨Tt, x1, x2, rfl, nT, rfl, hx1, hx2⟩ hK
      obtain ⟨b1, hb1, t1'⟩ := tx.bk hx1
      obtain ⟨b2, hb2, t2'⟩ := ty.bk hx2
      have e3 : Ex K [] H2 (upd H2 Tt (.tup [x1, x2])) := Ex.new nT
      have e4 := (e1.trans e2).trans e3
      have hlt := pw_at ap hb1 (drop_at hb2)
      refine ⟨Tt, [x1, x2], rfl, SqT.of upd_same, rfl, x1, _, rfl, x2, _, rfl, rfl, rfl, ?_⟩
      refine ⟨x1, rfl, x1, b1, rfl, e4.tp t1', h9 _ (mem_at hb1), x2, rfl, b2, (e2.trans e3).tp t2', _, _, rfl, rfl, ?_⟩
      exact blT (Q := KP) (hK _ _ (.bool true) e3 (.bl true) (by rw [← rep_snoc, List.map_append]; rfl)) (show ((fin b1 : Nat) : Int) ≤ ((b2.1 : Nat) : Int) by omega)
    · rintro H2 ls ds e2 hD2 td hl rfl
      refine ⟨D, List.replicate _ true, rfl, SqL.of (by rw [← td.bools]; exact hD2), ?_⟩
      rw [all_true]
      exact q _ (e1.trans (e2))
theorem ok_is_patch (T : Txt mg) (D : Def K mg "is_patch" s_is_patch) (g_is_block : Ok P w K mg base 2 "is_block" ["bits", "thing"] spIsBlock) (g_are_apart : Ok P w K mg base 2 "are_apart" ["blocks"] (spAreApart K)) :
    Ok P w K mg base 3 "is_patch" ["bits", "thing"] (spIsPatch K) := by
  refine D.ok sc_is_patch (fun _ _ _ _ _ _ us hl => match us, hl with | [_, _], _ => rfl) (fun vs H Q E h => ?_) (fun f cdv A outer s H vs Q E hr h => ?_)
  · obtain ⟨n, v, bs, rfl, _⟩ := h
    rfl
  · obtain ⟨n, v, bs, rfl, hb, h64, ok, hz, ap, q⟩ := h
    obtain ⟨a, xs, rfl, ha, tx⟩ := hb.pa
    have lx := tx.lenB
    refine ⟨_, (pss_cons (ps_if (PW.pt (pw_or (pt_not (pt_val (pe_callB cr_isi (by rfl) T.isi (by decide +kernel) (pa_cons (pv 1) (pa_cons (pe_bltn (v := .ty "tuple") (by rfl) T.tuple (by decide +kernel) rfl) pa_nil))))) (pw_or1 (pt_not (pt_val (pe_callB (cr_all rfl) (by rfl) T.all (by decide +kernel) (pa_cons (pe_lc (own := [("block", 2)]) (g := gName 2) (tt := tYes) rfl sc_is_patch.nd (pi_tup (pv 1)) (blkOk_by (N := ["bits", "thing", "block"]) (sc := defScope s_is_patch) (by decide +kernel)) (fun _ _ _ _ _ => (pg_name (i := 2) sc_is_patch.nd rfl (.inl rfl))) (fun _ _ _ _ _ => pts_nil) (fun _ _ _ _ _ => (cl g_is_block hr (pa_cons (pv 0) (pa_cons (pv 2) pa_nil))))) pa_nil))))))) (pss_one (ps_ret pe_bl)) pss_nil)
      (pss_one (ps_ret (cl g_are_apart hr (pa_cons (pv 1) pa_nil))))), ?_⟩
    refine ⟨_, rfl, _, _, _, true, rfl, .tup ha, by decide +kernel, _, rfl, iteF ?_⟩
    refine ⟨_, rfl, a, rfl, ⟨_, SqT.of ha⟩, fun D hD => ?_⟩
    refine lcY (K := K) (L := []) walk_tup (fun i ds _ => ds = (List.replicate i true).map PyData.bool) hD (by simp) (by omega) (fun _ _ => rfl) (fun _ _ _ _ h _ => h) (fun H e => SqT.of (e.tup ha)) ?_ ?_
    · rintro i ds x H2 H3 KP hi e2 rfl ⟨rfl, hx⟩ hK
      obtain ⟨b1, hb1, t1'⟩ := tx.bk hx
      refine ⟨rfl, _, rfl, _, rfl, n, x, b1, rfl, e2.tp t1', h64, ok _ (mem_at hb1), ?_⟩
      exact hK _ _ (.bool true) Ex.refl (.bl true) (by rw [← rep_snoc, List.map_append]; rfl)
    · rintro H2 ls ds e2 hD2 td hl rfl
      refine ⟨D, List.replicate _ true, rfl, SqL.of (by rw [← td.bools]; exact hD2), ?_⟩
      rw [all_true]
      exact ⟨_, rfl, iteF ⟨_, rfl, .ref a, bs, rfl, e2.tp hb, fun b hm => (ok b hm).h900 h64, hz, ap, fun H3 e3 => q _ (e2.trans e3)⟩⟩
theorem ok_is_fewest (T : Txt mg) (D : Def K mg "is_fewest" s_is_fewest) (g_make_one : Ok P w K mg base 3 "make_one" ["one", "other"] (spMakeOne K)) : Ok P w K mg base 4 "is_fewest" ["patch"] (spIsFewest K) := by
  refine D.ok sc_is_fewest (fun _ _ _ _ _ _ us hl => match us, hl with | [_], _ => rfl) (fun vs H Q E h => ?_) (fun f cdv A outer s H vs Q E hr h => ?_)
  · obtain ⟨v, bs, rfl, _⟩ := h
    rfl
  · obtain ⟨v, bs, rfl, hb, h9, hz, red, q⟩ := h
    obtain ⟨a, xs, rfl, ha, tx⟩ := hb.pa
    refine ⟨_, (pss_one (ps_ret (pe_not (pe_callB (cr_any rfl) (by rfl) T.any (by decide +kernel) (pa_cons (pe_lc (own := [("one", 1), ("other", 2)]) (g := gTup K 2 (gCons (gName 1) (gCons (gName 2) gNil))) (tt := tYes) rfl sc_is_fewest.nd (RZ.pi_zipA (by rfl) T.zip (pa_cons (pv 0) (pa_cons (pe_slice sl_tupD (pv 0) (po_some pe_int) po_none) pa_nil))) (blkOk_by (N := ["patch", "one", "other"]) (sc := defScope s_is_fewest) (by decide +kernel)) (fun _ _ _ _ _ => (pg_tup rfl (pgs_cons (pg_name (i := 1) sc_is_fewest.nd rfl (.inl rfl)) (pgs_cons (pg_name (i := 2) sc_is_fewest.nd rfl (.inl rfl)) pgs_nil)))) (fun _ _ _ _ _ => pts_nil) (fun _ _ _ _ _ => (cl g_make_one hr (pa_cons (pv 1) (pa_cons (pv 2) pa_nil))))) pa_nil))))), ?_⟩
    refine ⟨_, rfl, _, rfl, _, rfl, bs.map bD, hb, fun H1 v1 e1 t1 => ?_⟩
    obtain ⟨a1, ys, rfl, ha1, ty⟩ := t1.tupD
    rw [cut1, ← List.map_drop] at ty
    have lx := tx.lenB
    refine ⟨a, a1, xs, ys, rfl, .inr ⟨SqT.of (e1.tup ha), SqT.of ha1, fun D hD => ?_⟩⟩
    refine lcY (K := K) (L := []) (walk_zipT rfl) (fun i ds _ => ds = (List.replicate i false).map PyData.bool) hD (by simp) (by omega) (fun _ _ => rfl) (fun _ _ _ _ h _ => h) (fun H e => ⟨SqT.of (e.tup (e1.tup ha)), SqT.of (e.tup ha1)⟩) ?_ ?_
    · rintro i ds x H2 H3 KP hi e2 rfl ⟨Tt, x1, x2, rfl, nT, rfl, hx1, hx2⟩ hK
      obtain ⟨b1, hb1, t1'⟩ := tx.bk hx1
      obtain ⟨b2, hb2, t2'⟩ := ty.bk hx2
      have e3 : Ex K [] H2 (upd H2 Tt (.tup [x1, x2])) := Ex.new nT
      have e4 := (e1.trans e2).trans e3
      refine ⟨Tt, [x1, x2], rfl, SqT.of upd_same, rfl, x1, _, rfl, x2, _, rfl, rfl, rfl, ?_⟩
      refine ⟨x1, rfl, x2, rfl, x1, x2, b1, b2, rfl, e4.tp t1', (e2.trans e3).tp t2', h9 _ (mem_at hb1), h9 _ (mem_at (drop_at hb2)), fun H5 e5 => ?_⟩
      rw [decide_eq_false (pw_at red hb1 (drop_at hb2))]
      exact hK _ _ (.bool false) (e3.trans e5) (.bl false) (by rw [← rep_snoc, List.map_append]; rfl)
    · rintro H2 ls ds e2 hD2 td hl rfl
      refine ⟨D, List.replicate _ false, rfl, SqL.of (by rw [← td.bools]; exact hD2), ?_⟩
      rw [any_false]
      exact ⟨_, rfl, q _ (e1.trans e2)⟩
theorem ok_count_of (T : Txt mg) (D : Def K mg "count_of" s_count_of) (g_size_of : Ok P w K mg base 1 "size_of" ["block"] spSize) : Ok P w K mg base 2 "count_of" ["patch"] (spCount K) := by
  refine D.ok sc_count_of (fun _ _ _ _ _ _ us hl => match us, hl with | [_], _ => rfl) (fun vs H Q E h => ?_) (fun f cdv A outer s H vs Q E hr h => ?_)
  · obtain ⟨v, bs, rfl, _⟩ := h
    rfl
  · obtain ⟨v, bs, rfl, hb, h9, hz, q⟩ := h
    obtain ⟨a, xs, rfl, ha, tx⟩ := hb.pa
    have lx := tx.lenB
    refine ⟨_, (pss_one (ps_ret (pe_callB (cr_sum rfl) (by rfl) T.sum (by decide +kernel) (pa_cons (pe_lc (own := [("block", 1)]) (g := gName 1) (tt := tYes) rfl sc_count_of.nd (pi_tup (pv 0)) (blkOk_by (N := ["patch", "block"]) (sc := defScope s_count_of) (by decide +kernel)) (fun _ _ _ _ _ => (pg_name (i := 1) sc_count_of.nd rfl (.inl rfl))) (fun _ _ _ _ _ => pts_nil) (fun _ _ _ _ _ => (cl g_size_of hr (pa_cons (pv 1) pa_nil)))) pa_nil)))), ?_⟩
    refine ⟨_, rfl, a, rfl, ⟨_, SqT.of ha⟩, fun D hD => ?_⟩
    refine lcY (K := K) (L := []) walk_tup (fun i ds _ => ds = ((bs.take i).map fun b => ((2 ^ b.2 : Nat) : Int)).map PyData.int) hD (by simp) (by omega) (fun _ _ => rfl) (fun _ _ _ _ h _ => h) (fun H e => SqT.of (e.tup ha)) ?_ ?_
    · rintro i ds x H2 H3 KP hi e2 rfl ⟨rfl, hx⟩ hK
      obtain ⟨b1, hb1, t1'⟩ := tx.bk hx
      refine ⟨rfl, _, rfl, x, b1, rfl, e2.tp t1', h9 _ (mem_at hb1), ?_⟩
      exact hK _ _ (.int ((2 ^ b1.2 : Nat) : Int)) Ex.refl (.int _) (by rw [List.take_add_one, hb1]; simp)
    · rintro H2 ls ds e2 hD2 td hl rfl
      rw [lx, List.take_length] at td
      refine ⟨D, bs.map fun b => ((2 ^ b.2 : Nat) : Int), rfl, SqL.of (by rw [← td.ints]; exact hD2), ?_⟩
      have e : (bs.map fun b => ((2 ^ b.2 : Nat) : Int)).sum = ((sizes bs : Nat) : Int) := by
        clear q tx lx hb h9 hz td hl
        induction bs with
        | nil => rfl
        | cons b bs ih => rw [List.map_cons, List.sum_cons, ih, sizes_cons]; rfl
      rw [e]
      exact q _ e2
end
end K54
end
section
set_option Elab.async false
set_option linter.all false
set_option maxRecDepth 100000
set_option maxHeartbeats 4000000
/-! The defs of patches.py, second part: pushed, fewest. -/
namespace K54
open PySem PySem.Spec PyProof.Rows L2
theorem sib_ok {n : Nat} {a c : B} (h : sib a c) (oc : Okb n c) : Okb n (a.1, a.2 + 1) := by
  have hp : 2 ^ (a.2 + 1) = 2 ^ a.2 + 2 ^ a.2 := by rw [Nat.pow_succ]; omega
  have q := oc.le
  rw [h.2.2, ← h.1] at q
  exact ⟨h.2.1, by show a.1 + 2 ^ (a.2 + 1) ≤ 2 ^ n; omega⟩
theorem TpA.unapp {H : Hp} : ∀ {ds es : List PyData} {xs : List V}, TpA H xs (ds ++ es) → ∃ ys zs, xs = ys ++ zs ∧ TpA H ys ds ∧ TpA H zs es
  | [], es, xs, t => ⟨[], xs, rfl, .nil, t⟩
  | d :: ds, es, xs, t => by
    cases t with
    | cons h t =>
      obtain ⟨ys, zs, rfl, t1, t2⟩ := TpA.unapp t
      exact ⟨_ :: ys, zs, rfl, .cons h t1, t2⟩
theorem TpA.one {H : Hp} {xs : List V} {d : PyData} (t : TpA H xs [d]) : ∃ x, xs = [x] ∧ Tp H x d := by
  cases t with
  | cons h t =>
    cases t
    exact ⟨_, rfl, h⟩
theorem TpA.unsnoc {H : Hp} {ds : List PyData} {d : PyData} {xs : List V} (t : TpA H xs (ds ++ [d])) : ∃ ys x, xs = ys ++ [x] ∧ TpA H ys ds ∧ Tp H x d := by
  obtain ⟨ys, zs, rfl, t1, t2⟩ := t.unapp
  obtain ⟨x, rfl, h⟩ := t2.one
  exact ⟨ys, x, rfl, t1, h⟩
theorem at_m2 {α : Type} (l : List α) (x y : α) : atI (l ++ [x] ++ [y]) (-2) = some x := by
  have hl : (l ++ [x] ++ [y]).length = l.length + 2 := by simp
  have e : ixN (l ++ [x] ++ [y]).length (-2) = some l.length := by
    unfold ixN
    rw [if_neg (by omega), if_pos (by omega), hl]
    congr 1
    omega
  unfold atI
  rw [e]
  show (l ++ [x] ++ [y])[l.length]? = some x
  simp
theorem Ex.head1 {K : PySem.W.Frag} {H H1 H2 : Hp} {l : Addr} {xs : List V} (e : Ex K [] H H1) (h : H l = some (.lst xs)) (f : Ex K [l] H1 H2) : Ex K [l] H H2 :=
  e.headL f fun b hb => ⟨xs, by rw [List.mem_singleton.mp hb]; exact h⟩
theorem pop_at {α : Type} (l : List α) (x : α) : (l ++ [x])[(l ++ [x]).length - 1]? = some x := by simp
theorem h15 {n : Nat} (h : n ≤ 15000001) : n < sizeLine := Nat.lt_of_le_of_lt h (by rw [sizeLine_eq]; decide)
/-! ### promises -/
def spPushed (K : PySem.W.Frag) : Sp := fun vs H Q _ => ∃ (l : Addr) (u : V) (xs : List V) (n : Nat) (bs : List B) (S : Nat → Prop) (b : B), vs = [.ref l, u] ∧ H l = some (.lst xs) ∧ TpA H xs (bs.map bD) ∧ Tp H u (bD b) ∧ n ≤ 64 ∧ Few n bs S ∧ Okb n b ∧ (∀ a ∈ bs, fin a ≤ b.1) ∧ bs.length ≤ 15000000 ∧
  ∀ H' xs', Ex K [l] H H' → H' l = some (.lst xs') → TpA H' xs' ((push bs b).map bD) → Q .non H'
section
variable {P : Program} {w : World} {K : PySem.W.Frag} {mg : Str → Option Value} {base : Heap}
theorem ok_pushed (T : Txt mg) (D : Def K mg "pushed" s_pushed) (g_make_one : Ok P w K mg base 3 "make_one" ["one", "other"] (spMakeOne K)) : Ok P w K mg base 4 "pushed" ["found", "block"] (spPushed K) := by
  refine D.ok sc_pushed (fun _ _ _ _ _ _ us hl => match us, hl with | [_, _], _ => rfl) (fun vs H Q E h => ?_) (fun f cdv A outer s H vs Q E hr h => ?_)
  · obtain ⟨l, u, xs, n, bs, S, b, rfl, _⟩ := h
    rfl
  · obtain ⟨l, u, xs, n, bs, S, b, rfl, hl, tx, tu, h64, fw, ob, hin, hz, q⟩ := h
    refine ⟨_, (pss_cons (ps_expr (pe_bm PySem.F.plainAttrs_list PySem.F.slot_list_append PySem.F.type_list_append mt_append (pv 0) (pa_cons (pv 1) pa_nil)))
      (pss_one (ps_while PassesOwn.never (PW.pt (pw_and (pt_cmp (pc_gt (pe_callB call_len_seq (by rfl) T.len (by decide +kernel) (pa_cons (pv 0) pa_nil)) pe_int)) (pw_and1 (pt_val (cl g_make_one hr (pa_cons (pe_ix ix_list (pv 0) (pe_un un_neg pe_int) (fun _ _ => rfl)) (pa_cons (pe_ix ix_list (pv 0) (pe_un un_neg pe_int) (fun _ _ => rfl)) pa_nil)))))))
        (pss_cons (ps_expr (pe_bm0 PySem.F.plainAttrs_list PySem.F.slot_list_pop PySem.F.type_list_pop mt_pop (pv 0)))
        (pss_cons (ps_asg (pe_bm0 PySem.F.plainAttrs_list PySem.F.slot_list_pop PySem.F.type_list_pop mt_pop (pv 0)) (pg_tup rfl (pgs_cons (pg_name (i := 2) sc_pushed.nd rfl (.inl rfl)) (pgs_cons (pg_name (i := 3) sc_pushed.nd rfl (.inl rfl)) pgs_nil))))
        (pss_one (ps_expr (pe_bm PySem.F.plainAttrs_list PySem.F.slot_list_append PySem.F.type_list_append mt_append (pv 0) (pa_cons (pe_tupD (pa_cons (pv 2) (pa_cons (pe_op op_add (pv 3) pe_int) pa_nil))) pa_nil))))))))), ?_⟩
    refine ⟨_, rfl, .inl ⟨rfl, _, SqL.of hl⟩, _, rfl, l, _, _, rfl, rfl, hl, h15 (by rw [tx.lenB]; omega), ?_⟩
    have ep : Ex K [l] H (upd H l (.lst (xs ++ [u]))) := Ex.put hl
    refine ⟨fun m σ Hc => ∃ (r : List B) (c : B) (xs : List V) (s2 s3 : Option V), σ = [some (.ref l), some u, s2, s3] ∧ Ex K [l] H Hc ∧ Hc l = some (.lst xs) ∧ TpA Hc xs ((c :: r).reverse.map bD) ∧ pushR r c = pushR bs.reverse b ∧
        (r.Pairwise fun b a => fin a ≤ b.1) ∧ (r.Pairwise fun b a => ¬ sib a b) ∧ (∀ a ∈ r, Okb n a) ∧ Okb n c ∧ (∀ a ∈ r, fin a ≤ c.1) ∧ r.length ≤ 15000000 ∧ m = r.length,
      ⟨_, bs.reverse, b, xs ++ [u], none, none, rfl, ep, upd_same, ?_, rfl, List.pairwise_reverse.mpr fw.ap, List.pairwise_reverse.mpr fw.red, fun a ha => fw.ok a (List.mem_reverse.mp ha), ob, fun a ha => hin a (List.mem_reverse.mp ha), by rw [List.length_reverse]; exact hz, rfl⟩, ?_⟩
    · rw [List.reverse_cons, List.reverse_reverse]
      exact ep.tpA (tx.snoc tu)
    rintro m σ Hc ⟨r, c, xs, s2, s3, rfl, ec, hlc, tc, epush, p1, p2, ok, oc, hin, hz, rfl⟩
    have lx := tc.lenB
    rw [List.length_reverse, List.length_cons] at lx
    refine ⟨_, rfl, l, xs, rfl, .inl (SqL.of hlc), _, _, rfl, rfl, _, rfl, ?_⟩
    cases r with
    | nil =>
      refine ifF (by rw [lx]; decide) (q _ xs ec hlc ?_)
      unfold push
      rw [← epush]
      exact tc
    | cons a r =>
      refine ifT (by rw [lx, List.length_cons]; omega) ?_
      rw [List.reverse_cons, List.reverse_cons, List.map_append, List.map_append] at tc
      obtain ⟨ys1, x2, rfl, t1, tx2⟩ := tc.unsnoc
      obtain ⟨ys, x1, rfl, t0, tx1⟩ := t1.unsnoc
      have oa := ok a List.mem_cons_self
      refine ⟨_, rfl, _, rfl, l, _, _, x1, rfl, rfl, SqL.of hlc, at_m2 ys x1 x2, _, rfl, _, rfl, l, _, _, x2, rfl, rfl, SqL.of hlc, atI_last _ _, ?_⟩
      refine ⟨x1, x2, a, c, rfl, tx1, tx2, oa.h900 h64, oc.h900 h64, fun H1 e1 => ⟨_, rfl, if2 (fun sb => ?_) fun sb => ?_⟩⟩
      · refine ⟨_, fun _ _ h => h, ?_⟩
        have hl1 := e1.lst0 hlc
        have ec1 := ec.thenL e1
        refine ⟨_, rfl, .inl ⟨rfl, _, SqL.of hl1⟩, l, _, x2, rfl, rfl, hl1, pop_at _ _, ?_⟩
        rw [List.dropLast_concat]
        have ec2 := ec1.putL (ys := ys ++ [x1]) (List.mem_singleton_self l) hl1
        have e12 : Ex K [l] Hc (upd H1 l (.lst (ys ++ [x1]))) := e1.head1 hlc (Ex.put hl1)
        obtain ⟨ta, rfl, hta⟩ := tx1.bk
        refine ⟨_, rfl, .inl ⟨rfl, _, SqL.of upd_same⟩, l, _, .ref ta, rfl, rfl, upd_same, pop_at _ _, ?_⟩
        rw [List.dropLast_concat, upd_upd]
        have e13 : Ex K [l] Hc (upd H1 l (.lst ys)) := e1.head1 hlc (Ex.put hl1)
        refine ⟨ta, _, rfl, SqT.of (e13.tup hta), rfl, _, _, rfl, _, _, rfl, rfl, ?_⟩
        refine ⟨_, rfl, .inl ⟨rfl, _, SqL.of upd_same⟩, _, rfl, _, rfl, _, _, rfl, rfl, [.int ((a.1 : Nat) : Int), .int ((a.2 + 1 : Nat) : Int)], .cons (.int _) (.cons (.int _) .nil), n1000, fun H2 v e2 t2 => ?_⟩
        have hl2 : H2 l = some (.lst ys) := e2.lst0 upd_same
        have e14 := e13.thenL e2
        refine ⟨l, ys, v, rfl, rfl, hl2, h15 (by have := t0.lenB; rw [List.length_reverse] at this; rw [List.length_cons] at hz; omega), ?_⟩
        have e15 := e14.putL (ys := ys ++ [v]) (List.mem_singleton_self l) hl2
        have rc := (List.pairwise_cons.mp p1)
        refine ⟨r.length, by simp, r, (a.1, a.2 + 1), ys ++ [v], _, _, rfl, ec.trans e15, upd_same, ?_, ?_, rc.2, (List.pairwise_cons.mp p2).2, fun b hb => ok b (List.mem_cons_of_mem _ hb), sib_ok sb oc, rc.1, by rw [List.length_cons] at hz; omega, rfl⟩
        · rw [List.reverse_cons]
          exact (e15.tpA t0).snoc ((Ex.put (K := K) hl2).tp t2)
        · rw [← epush]
          show _ = (if sib a c then pushR r (a.1, a.2 + 1) else c :: a :: r)
          rw [if_pos sb]
      · refine q _ _ (ec.thenL e1) (e1.lst0 hlc) ?_
        unfold push
        rw [← epush]
        show TpA H1 _ ((if sib a c then pushR r (a.1, a.2 + 1) else c :: a :: r).reverse.map bD)
        rw [if_neg sb, List.reverse_cons, List.reverse_cons, List.map_append, List.map_append]
        exact e1.tpA ((t0.app (.cons tx1 .nil)).app (.cons tx2 .nil))
end
end K54
end
section
set_option Elab.async false
set_option linter.all false
set_option maxRecDepth 100000
set_option maxHeartbeats 4000000
/-! fewest. -/
namespace K54
open PySem PySem.Spec PyProof.Rows L2
theorem bDs_lay : ∀ bs : List B, PyData.canLayAll0 (bs.map bD) = true
  | [] => by simp [PyData.canLayAll0]
  | b :: bs => by
    have h : (bD b).canLay0 = true := rfl
    simp [PyData.canLayAll0, h, bDs_lay bs]
theorem bDs_depth : ∀ bs : List B, PyData.depthAll (bs.map bD) ≤ 1
  | [] => by simp [PyData.depthAll]
  | b :: bs => by
    have h1 := bDs_depth bs
    have h2 : (bD b).depth = 1 := rfl
    simp only [List.map_cons, PyData.depthAll]
    omega
theorem shaped_of {d : PyData} (h1 : d.canLay0 = true) (h2 : d.depth ≤ 64) : SeqAt.shaped d = true := by
  show (d.canLay0 && decide (d.depth ≤ 64)) = true
  rw [h1, decide_eq_true h2]
  rfl
theorem bl_shaped (bs : List B) : SeqAt.shaped (.list (bs.map bD)) = true := by
  have := bDs_depth bs
  exact shaped_of (by simp only [PyData.canLay0]; exact bDs_lay bs) (by simp only [PyData.depth]; omega)
theorem bt_shaped (bs : List B) : SeqAt.shaped (pD bs) = true := by
  have := bDs_depth bs
  exact shaped_of (by simp only [pD, PyData.canLay0]; exact bDs_lay bs) (by simp only [pD, PyData.depth]; omega)
theorem eqv_nil (ds : List PyData) : PyData.eqv (.list ds) (.list []) = decide (ds = []) := by
  cases ds with
  | nil => simp [PyData.eqv, PyData.eqvAll]
  | cons d ds => simp [PyData.eqv, PyData.eqvAll]
theorem turn_nil (b : B) : turn [] b = push [] b := rfl
theorem turn_last (l : List B) (z b : B) : turn (l ++ [z]) b = if holdsB z b then l ++ [z] else push (l ++ [z]) b := by
  unfold turn
  rw [List.getLast?_concat]
theorem snoc_of {α : Type} {l : List α} (h : l ≠ []) : ∃ l0 z, l = l0 ++ [z] := ⟨l.dropLast, l.getLast h, (List.dropLast_concat_getLast h).symm⟩
def spFewest (K : PySem.W.Frag) : Sp := fun vs H Q _ => ∃ (a : Addr) (xs : List V) (n : Nat) (bs : List B), vs = [.ref a] ∧ (H a = some (.lst xs) ∨ H a = some (.tup xs)) ∧ TpA H xs (bs.map bD) ∧ n ≤ 64 ∧ (∀ b ∈ bs, Okb n b) ∧ bs.length ≤ 15000000 ∧ Tb K H ∧
  ∀ H' u fs, Ex K [] H H' → Tp H' u (pD fs) → Few n fs (cov bs) → fs.length ≤ bs.length → Q u H'
/-- fewest, where its code object's table is known -/
def DefF (K : PySem.W.Frag) (mg : Str → Option Value) : Prop := ∃ fd, Fun K "fewest" "fewest" s_fewest (He.fAd K ("fewest", none)) fd ∧ mg "fewest" = some (.ref (He.fAd K ("fewest", none)))
section
variable {P : Program} {w : World} {K : PySem.W.Frag} {mg : Str → Option Value} {base : Heap}
theorem ok_fewest (T : Txt mg) (D : DefF K mg) (TB0 : LamX.TabB base mg (He.cT K ("fewest", none)).1 (He.cT K ("fewest", none)).2) (g_holds : Ok P w K mg base 2 "holds" ["one", "other"] spHolds) (g_pushed : Ok P w K mg base 4 "pushed" ["found", "block"] (spPushed K)) :
    Ok P w K mg base 5 "fewest" ["blocks"] (spFewest K) := by
  obtain ⟨fd, F, hm⟩ := D
  have hb := F.binds (ps := ["blocks"]) fun _ _ _ _ _ _ us hl => match us, hl with | [_], _ => rfl
  refine ⟨_, fd, ?_, hm, F.kp, hb⟩
  obtain ⟨oc, od, kV, doc, pm, an, cdv, ct, osl, rfl, lk, hcd⟩ := F.ex
  obtain ⟨c, rfl⟩ := He.codeIn_ref hcd
  have ec : He.codeOf K ("fewest", none) = c := He.codeOf_eq lk rfl
  have TB : LamX.TabB base mg c (tabAt K) := by
    rw [← ec]
    exact TB0
  refine fn_of lk hcd sc_fewest (fun vs H Q E h => ?_) (fun A outer s H vs Q E hr h => ?_)
  · obtain ⟨a, xs, n, bs, rfl, _⟩ := h
    rfl
  have hr0 : Room 2 _ := hr.mono (by decide : 2 ≤ 4)
  suffices hs : ∃ t, PSs (cxOf CX0 P w K mg base ["blocks", "found", "block"] "fewest" (defScope s_fewest) (He.fAd K ("fewest", none)) (.ref c) A outer s H E).nox (defBody s_fewest) t ∧ t { nx := fun _ H' => Q .non H', rt := Q } (start ["blocks", "found", "block"] vs) H by
    obtain ⟨t, h1, h2⟩ := hs
    exact ⟨t, h1.nox, h2⟩
  obtain ⟨a, xs, n, bs, rfl, ha, tx, h64, ok, hz, tb, q⟩ := h
  refine ⟨_, (pss_cons (ps_set (i := 1) sc_fewest.nd rfl (.inl rfl) (pe_lstD pa_nil))
      (pss_cons (ps_for PassesOwn.never rfl (pi_list (pe_sortL hr0 (by rfl) T.sorted (pa_cons (pv 0) pa_nil) TB rfl rfl)) (pg_name (i := 2) sc_fewest.nd rfl (.inl rfl))
        (pss_one (ps_if (PW.pt (pw_or (pt_cmpR (op_eqD hr.units) (pv 1) (pe_lstD pa_nil) (nomark _)) (pw_or1 (pt_not (pt_val (cl g_holds hr (pa_cons (pe_ix ix_list (pv 1) (pe_un un_neg pe_int) (fun _ _ => rfl)) (pa_cons (pv 2) pa_nil)))))))) (pss_one (ps_expr (cl g_pushed hr (pa_cons (pv 1) (pa_cons (pv 2) pa_nil))))) pss_nil)))
      (pss_one (ps_ret (pe_callTy cr_tupL (by rfl) T.tuple (by decide +kernel) (pa_cons (pv 1) pa_nil)))))), ?_⟩
  refine ⟨[], .nil, n1000, fun H1 p e1 n1 h1 _ => ?_⟩
  have seq1 : SqL K H1 a xs ∨ SqT K H1 a xs := ha.imp (fun z => SqL.of (e1.lst0 z)) fun z => SqT.of (e1.tup z)
  refine ⟨_, rfl, a, bs, xs, rfl, seq1, e1.tpA tx, line_of (by omega), e1.tab tb, fun H2 p2 ys ss e2 tb2 n2 perm srt ty => ⟨p2, rfl, ⟨ys, SqL.of upd_same⟩, ?_⟩⟩
  have hp2 := e2.lst0 h1
  have npp : p ≠ p2 := ne_of_none hp2 n2
  have e3 : Ex K [] H2 (upd H2 p2 (.lst ys)) := Ex.new n2
  have hp3 := e3.lst0 hp2
  have ls := ty.lenB
  have lp := perm.length_eq
  refine for_it (walk_list (K := K) (a := p2) (xs := ys)) (fun i σ Hc => ∃ fs xs y2, σ = [some (.ref a), some (.ref p), y2] ∧ Ex K [p] (upd H2 p2 (.lst ys)) Hc ∧ Hc p = some (.lst xs) ∧ TpA Hc xs (fs.map bD) ∧ Few n fs (cov (ss.take i)) ∧ fs.length ≤ i ∧ ∀ e ∈ fs, ∀ b ∈ ss.drop i, kle e b)
    ⟨[], [], none, rfl, Ex.reflL hp3, hp3, .nil, few_nil n |>.iff fun x => ⟨False.elim, fun h => cov_nil x h⟩, Nat.le_refl _, fun e he => (by cases he)⟩ ?_ ?_ ?_
  · rintro i σ Hc _ ⟨fs, xs, y2, rfl, e4, _⟩
    exact SqL.of (e4.lst (by simpa using npp.symm) upd_same)
  · rintro i x σ Hc H' hi ⟨fs, xs4, y2, rfl, e4, h4, t4, fw, hl, ko⟩ ⟨rfl, hx⟩
    obtain ⟨b, hb, tb0⟩ := ty.bk hx
    have tbx : Tp H' x (bD b) := e4.tp (e3.tp tb0)
    have obb : Okb n b := ok b (perm.mem_iff.mp (mem_at hb))
    have hds : ss.drop i = b :: ss.drop (i + 1) := by
      obtain ⟨h5, h6⟩ := List.getElem?_eq_some_iff.mp hb
      rw [List.drop_eq_getElem_cons h5, h6]
    have hts : ss.take (i + 1) = ss.take i ++ [b] := by rw [List.take_add_one, hb]; rfl
    have ob := ko
    rw [hds] at ob
    have hkb : ∀ e ∈ fs, kle e b := fun e he => ob e he b List.mem_cons_self
    obtain ⟨tf1, tf2, tf3⟩ := turn_few fw obb hkb
    have fin4 : ∀ (H5 : Hp) (xs5 : List V), Ex K [p] H' H5 → H5 p = some (.lst xs5) → TpA H5 xs5 ((turn fs b).map bD) →
        ∃ fs xs y2, [some (V.ref a), some (V.ref p), some x] = [some (V.ref a), some (V.ref p), y2] ∧ Ex K [p] (upd H2 p2 (.lst ys)) H5 ∧ H5 p = some (.lst xs) ∧ TpA H5 xs (fs.map bD) ∧ Few n fs (cov (ss.take (i + 1))) ∧ fs.length ≤ i + 1 ∧ ∀ e ∈ fs, ∀ b ∈ ss.drop (i + 1), kle e b := fun H5 xs5 e5 h5 t5 => by
      refine ⟨turn fs b, xs5, some x, rfl, e4.trans e5, h5, t5, tf1.iff fun y => ?_, by omega, fun e he d hd => ?_⟩
      · rw [hts, cov_app, cov_one]
      · obtain ⟨z, hz, q1, q2⟩ := tf2 e he
        have kz : kle z d := by
          rcases hz with rfl | hz
          · have ps := List.pairwise_iff_getElem.mp srt
            obtain ⟨h5, h6⟩ := List.getElem?_eq_some_iff.mp hb
            obtain ⟨j, h7, h8⟩ := List.mem_iff_getElem.mp hd
            rw [List.length_drop] at h7
            rw [List.getElem_drop] at h8
            rw [← h6, ← h8]
            exact ps _ _ _ _ (by omega)
          · exact ob z hz d (List.mem_cons_of_mem _ hd)
        rcases kz with k | k
        · exact .inl (by omega)
        · exact .inr (by omega)
    have spush : ∀ (H5 : Hp), Ex K [] H' H5 → (∀ a ∈ fs, fin a ≤ b.1) → turn fs b = push fs b → spPushed K [.ref p, x] H5 (fun _ H6 => ∃ fs xs y2, [some (V.ref a), some (V.ref p), some x] = [some (V.ref a), some (V.ref p), y2] ∧ Ex K [p] (upd H2 p2 (.lst ys)) H6 ∧ H6 p = some (.lst xs) ∧ TpA H6 xs (fs.map bD) ∧ Few n fs (cov (ss.take (i + 1))) ∧ fs.length ≤ i + 1 ∧ ∀ e ∈ fs, ∀ b ∈ ss.drop (i + 1), kle e b) E0 := fun H5 e5 hin et => by
      refine ⟨p, x, xs4, n, fs, _, b, rfl, e5.lst0 h4, e5.tpA t4, e5.tp tbx, h64, fw, obb, hin, by omega, fun H6 xs6 e6 h6 t6 => fin4 H6 xs6 (e5.head1 h4 e6) h6 (by rw [et]; exact t6)⟩
    refine ⟨_, rfl, [], .nil, n1000, fun H5 p5 e5 n5 h5 _ => ?_⟩
    refine ⟨.list (fs.map bD), .list [], .lst (SqL.of (e5.lst0 h4)) (e5.tpA t4).dp, .lst (SqL.of h5) .nil, bl_shaped fs, rfl, _, rfl, ?_⟩
    rw [eqv_nil]
    refine if2 (fun c1 => ?_) fun c1 => ?_
    · have f0 : fs = [] := List.map_eq_nil_iff.mp c1
      subst f0
      exact ⟨_, rfl, _, rfl, spush H5 e5 (fun a ha => by cases ha) rfl⟩
    · have ne : fs ≠ [] := fun e => c1 (by rw [e]; rfl)
      obtain ⟨f0, z, rfl⟩ := snoc_of ne
      have t4' := t4
      rw [List.map_append] at t4'
      obtain ⟨zs, x1, rfl, t6, tz⟩ := t4'.unsnoc
      have oz := fw.ok z (by simp)
      refine ⟨_, rfl, _, rfl, p, _, _, x1, rfl, rfl, SqL.of (e5.lst0 h4), atI_last _ _, _, rfl, x1, x, z, b, rfl, e5.tp tz, e5.tp tbx, oz.h900 h64, obb.h900 h64, _, rfl, ?_⟩
      by_cases c2 : holdsB z b
      · rw [decide_eq_true c2]
        exact iteF (fin4 H5 _ (e5.head1 h4 (Ex.reflL (e5.lst0 h4))) (e5.lst0 h4) (by rw [turn_last, if_pos c2]; exact e5.tpA t4))
      · rw [decide_eq_false c2]
        exact iteT ⟨_, rfl, _, rfl, spush H5 e5 (in_order fw obb hkb rfl c2) (by rw [turn_last, if_neg c2])⟩
  · rintro σ Hc ⟨fs, xs4, y2, rfl, e4, h4, t4, fw, hl, _⟩
    refine ⟨_, rfl, p, xs4, fs.map bD, rfl, h4, t4, fun H6 v e6 t6 => ?_⟩
    refine q H6 v fs ((((e1.trans e2).trans e3).cut0 (Nw.of n1) e4).trans e6) t6 (fw.iff fun x => ?_) (by omega)
    rw [ls, List.take_length]
    exact cov_mem (fun b => perm.mem_iff) x
end
end K54
end
section
set_option Elab.async false
set_option linter.all false
set_option maxRecDepth 100000
set_option maxHeartbeats 4000000
/-! greatest_at, stretch, gaps, rest_of, block_with. -/
namespace K54
open PySem PySem.Spec PyProof.Rows L2
def spGreat (K : PySem.W.Frag) : Sp := fun vs H Q _ => ∃ (low high : Nat), vs = [.int (low : Nat), .int (high : Nat)] ∧ low < high ∧ high ≤ 2 ^ 64 ∧ ∀ H' u h, Ex K [] H H' → Tp H' u (bD (low, h)) → Grt low high h → Q u H'
def spStretch (K : PySem.W.Frag) : Sp := fun vs H Q _ => ∃ (low high n : Nat), vs = [.int (low : Nat), .int (high : Nat)] ∧ low ≤ high ∧ high ≤ 2 ^ n ∧ n ≤ 64 ∧
  ∀ H' q xs fs, Ex K [] H H' → Nw H q → H' q = some (.lst xs) → TpA H' xs (fs.map bD) → Few n fs (fun x => low ≤ x ∧ x < high) → fs.length ≤ 130 → Q (.ref q) H'
def spGaps (K : PySem.W.Frag) : Sp := fun vs H Q _ => ∃ (low high n : Nat) (a : Addr) (xs : List V) (bs : List B), vs = [.int (low : Nat), .int (high : Nat), .ref a] ∧ (H a = some (.lst xs) ∨ H a = some (.tup xs)) ∧ TpA H xs (bs.map bD) ∧
  low ≤ high ∧ high ≤ 2 ^ n ∧ n ≤ 64 ∧ Ap bs ∧ (∀ b ∈ bs, Okb n b) ∧ (∀ b ∈ bs, low ≤ b.1 ∧ fin b ≤ high) ∧ bs.length ≤ 100000 ∧
  ∀ H' q xs fs, Ex K [] H H' → Nw H q → H' q = some (.lst xs) → TpA H' xs (fs.map bD) → Few n fs (fun x => low ≤ x ∧ x < high ∧ ¬ cov bs x) → fs.length ≤ 130 * (bs.length + 1) → Q (.ref q) H'
def spRest (K : PySem.W.Frag) : Sp := fun vs H Q _ => ∃ (n : Nat) (v : V) (bs : List B), vs = [.int (n : Nat), v] ∧ Tp H v (pD bs) ∧ n ≤ 64 ∧ Ap bs ∧ (∀ b ∈ bs, Okb n b) ∧ bs.length ≤ 100000 ∧
  ∀ H' u fs, Ex K [] H H' → Tp H' u (pD fs) → Few n fs (fun x => x < 2 ^ n ∧ ¬ cov bs x) → fs.length ≤ 130 * (bs.length + 1) → Q u H'
def spBlockWith : Sp := fun vs H Q _ => ∃ (v : V) (x : Nat) (bs : List B), vs = [v, .int (x : Nat)] ∧ Tp H v (pD bs) ∧ (∀ b ∈ bs, b.2 ≤ 900) ∧ (∀ b u, b ∈ bs → inB x b → Tp H u (bD b) → Q u H) ∧ ((∀ b ∈ bs, ¬ inB x b) → Q .non H)
theorem drop_head {α : Type} {l : List α} {i : Nat} {b : α} (h : l[i]? = some b) : l.drop i = b :: l.drop (i + 1) := by
  obtain ⟨h5, h6⟩ := List.getElem?_eq_some_iff.mp h
  rw [List.drop_eq_getElem_cons h5, h6]
theorem take_snoc {α : Type} {l : List α} {i : Nat} {b : α} (h : l[i]? = some b) : l.take (i + 1) = l.take i ++ [b] := by rw [List.take_add_one, h]; rfl
section
variable {P : Program} {w : World} {K : PySem.W.Frag} {mg : Str → Option Value} {base : Heap}
theorem ok_greatest_at (D : Def K mg "greatest_at" s_greatest_at) : Ok P w K mg base 1 "greatest_at" ["low", "high"] (spGreat K) := by
  refine D.ok sc_greatest_at (fun _ _ _ _ _ _ us hl => match us, hl with | [_, _], _ => rfl) (fun vs H Q E h => ?_) (fun f cdv A outer s H vs Q E hr h => ?_)
  · obtain ⟨low, high, rfl, _⟩ := h
    rfl
  · obtain ⟨low, high, rfl, hlt, h64, q⟩ := h
    refine ⟨_, (pss_cons (ps_set (i := 2) sc_greatest_at.nd rfl (.inl rfl) pe_int)
      (pss_cons (ps_while PassesOwn.never (PW.pt (pw_and (pt_cmp (pc_eqI (pe_op op_mod (pv 0) (pe_shl1 (pe_op op_add (pv 2) pe_int))) pe_int)) (pw_and1 (pt_cmp (pc_le (pe_op op_add (pv 0) (pe_shl1 (pe_op op_add (pv 2) pe_int))) (pv 1))))))
        (pss_one (ps_aug (i := 2) sc_greatest_at.nd rfl (.inl rfl) pe_int ip_add)))
      (pss_one (ps_ret (pe_tupD (pa_cons (pv 0) (pa_cons (pv 2) pa_nil))))))), ?_⟩
    refine ⟨fun m σ Hc => ∃ h : Nat, σ = [some (.int (low : Nat)), some (.int (high : Nat)), some (.int (h : Nat))] ∧ Hc = H ∧ low % 2 ^ h = 0 ∧ low + 2 ^ h ≤ high ∧ h ≤ 64 ∧ m = 65 - h,
      ⟨65, 0, rfl, rfl, by rw [Nat.pow_zero]; exact Nat.mod_one _, by rw [Nat.pow_zero]; exact hlt, Nat.zero_le _, rfl⟩, ?_⟩
    rintro m σ Hc ⟨h, rfl, rfl, h1, h2, hh, rfl⟩
    have pos := two_pos (h + 1)
    have fin3 : ¬ (low % 2 ^ (h + 1) = 0 ∧ low + 2 ^ (h + 1) ≤ high) → tRet (tTupD K (tCons (tVar 0) (tCons (tVar 2) tNil))) { nx := fun _ H' => Q .non H', rt := Q } [some (.int (low : Nat)), some (.int (high : Nat)), some (.int (h : Nat))] Hc := fun no =>
      ⟨_, rfl, _, rfl, [.int (low : Nat), .int (h : Nat)], .cons (.int _) (.cons (.int _) .nil), n1000, fun H1 v e1 t1 => q H1 v h e1 t1 ⟨h1, h2, no⟩⟩
    refine ⟨_, rfl, _, rfl, _, _, rfl, rfl, h + 1, rfl, by omega, _, _, rfl, rfl, by omega, _, _, rfl, rfl, _, rfl, if2 (fun c1 => ?_) fun c1 => ?_⟩
    · refine ⟨_, rfl, _, rfl, _, _, rfl, rfl, h + 1, rfl, by omega, _, _, rfl, rfl, _, rfl, _, _, rfl, rfl, _, rfl, if2 (fun c2 => ?_) fun c2 => ?_⟩
      · have c3 : low + 2 ^ (h + 1) ≤ high := by omega
        have c4 : h + 1 ≤ 64 := (Nat.pow_le_pow_iff_right (show 1 < 2 by decide)).mp (Nat.le_trans (Nat.le_add_left _ _) (Nat.le_trans c3 h64))
        exact ⟨_, fun _ _ h => h, _, rfl, _, _, rfl, rfl, 65 - (h + 1), by omega, h + 1, rfl, rfl, by omega, c3, c4, rfl⟩
      · exact fin3 fun z => c2 (by have := z.2; omega)
    · exact iteF (fin3 fun z => c1 (by have := z.1; omega))
theorem ok_stretch (D : Def K mg "stretch" s_stretch) (g_greatest_at : Ok P w K mg base 1 "greatest_at" ["low", "high"] (spGreat K)) (g_end_of : Ok P w K mg base 1 "end_of" ["block"] spEnd) : Ok P w K mg base 2 "stretch" ["low", "high"] (spStretch K) := by
  refine D.ok sc_stretch (fun _ _ _ _ _ _ us hl => match us, hl with | [_, _], _ => rfl) (fun vs H Q E h => ?_) (fun f cdv A outer s H vs Q E hr h => ?_)
  · obtain ⟨low, high, n, rfl, _⟩ := h
    rfl
  · obtain ⟨low, high, n, rfl, hle, h2, h64, q⟩ := h
    have hp64 : 2 ^ n ≤ 2 ^ 64 := Nat.pow_le_pow_right (by decide) h64
    refine ⟨_, (pss_cons (ps_set (i := 2) sc_stretch.nd rfl (.inl rfl) (pe_lstD pa_nil))
      (pss_cons (ps_while PassesOwn.never (pt_cmp (pc_lt (pv 0) (pv 1)))
        (pss_cons (ps_set (i := 3) sc_stretch.nd rfl (.inl rfl) (cl g_greatest_at hr (pa_cons (pv 0) (pa_cons (pv 1) pa_nil))))
        (pss_cons (ps_expr (pe_bm PySem.F.plainAttrs_list PySem.F.slot_list_append PySem.F.type_list_append mt_append (pv 2) (pa_cons (pv 3) pa_nil)))
        (pss_one (ps_set (i := 0) sc_stretch.nd rfl (.inl rfl) (cl g_end_of hr (pa_cons (pv 3) pa_nil)))))))
      (pss_one (ps_ret (pv 2))))), ?_⟩
    refine ⟨[], .nil, n1000, fun H1 p e1 n1 h1 _ => ?_⟩
    refine ⟨fun m σ Hc => ∃ (cur : Nat) (fs : List B) (xs : List V) (y3 : Option V), σ = [some (.int (cur : Nat)), some (.int (high : Nat)), some (.ref p), y3] ∧ Ex K [p] H1 Hc ∧ Hc p = some (.lst xs) ∧ TpA Hc xs (fs.map bD) ∧ Strv n low cur high fs ∧ m = high - cur,
      ⟨_, low, [], [], none, rfl, Ex.reflL h1, h1, .nil, Strv.start hle, rfl⟩, ?_⟩
    rintro m σ Hc ⟨cur, fs, xs, y3, rfl, e2, h3, t3, sv, rfl⟩
    refine ⟨_, rfl, _, rfl, _, _, rfl, rfl, _, rfl, if2 (fun c1 => ?_) fun c1 => ?_⟩
    · refine ⟨_, fun _ _ h => h, ?_⟩
      refine ⟨_, rfl, _, rfl, cur, high, rfl, by omega, by omega, fun H3 u h e3 t4 g => ?_⟩
      have h4 := e3.lst0 h3
      have l130 := sv.len130
      refine ⟨_, rfl, .inl ⟨rfl, _, SqL.of h4⟩, _, rfl, p, xs, u, rfl, rfl, h4, h15 (by rw [t3.lenB]; omega), ?_⟩
      have e5 : Ex K [p] Hc (upd H3 p (.lst (xs ++ [u]))) := e3.head1 h3 (Ex.put h4)
      have t5 := (Ex.put (K := K) (ys := xs ++ [u]) h4).tp t4
      have hh : h ≤ 900 := Nat.le_trans (Okb.ht (n := n) (b := (cur, h)) ⟨g.al, Nat.le_trans g.le h2⟩) (by omega)
      refine ⟨_, rfl, u, (cur, h), rfl, t5, hh, high - (cur + 2 ^ h), ?_, cur + 2 ^ h, fs ++ [(cur, h)], xs ++ [u], _, rfl, e2.trans e5, upd_same, (e5.tpA t3).snoc t5, sv.next h2 h64 g, rfl⟩
      have := two_pos h
      have := g.le
      omega
    · have ec : cur = high := by
        have := sv.ch
        omega
      subst ec
      exact ⟨_, rfl, q Hc p xs fs (e1.cut0 (Nw.of n1) e2) (Nw.of n1) h3 t3 sv.few sv.len130⟩
theorem ok_gaps (D : Def K mg "gaps" s_gaps) (g_stretch : Ok P w K mg base 2 "stretch" ["low", "high"] (spStretch K)) (g_end_of : Ok P w K mg base 1 "end_of" ["block"] spEnd) : Ok P w K mg base 3 "gaps" ["low", "high", "blocks"] (spGaps K) := by
  refine D.ok sc_gaps (fun _ _ _ _ _ _ us hl => match us, hl with | [_, _, _], _ => rfl) (fun vs H Q E h => ?_) (fun f cdv A outer s H vs Q E hr h => ?_)
  · obtain ⟨low, high, n, a, xs, bs, rfl, _⟩ := h
    rfl
  · obtain ⟨low, high, n, a, xs, bs, rfl, ha, tx, hle, h2, h64, ap, okb, hin, hz, q⟩ := h
    have lx := tx.lenB
    rcases ha with ha | ha

    · refine ⟨_, (pss_cons (ps_set (i := 3) sc_gaps.nd rfl (.inl rfl) (pe_lstD pa_nil))
      (pss_cons (ps_for PassesOwn.never rfl (pi_list (pv 2)) (pg_name (i := 4) sc_gaps.nd rfl (.inl rfl))
        (pss_cons (ps_expr (pe_bm PySem.F.plainAttrs_list PySem.F.slot_list_extend PySem.F.type_list_extend mt_extend (pv 3) (pa_cons (cl g_stretch hr (pa_cons (pv 0) (pa_cons (pe_at0 (pv 4)) pa_nil))) pa_nil)))
        (pss_one (ps_set (i := 0) sc_gaps.nd rfl (.inl rfl) (cl g_end_of hr (pa_cons (pv 4) pa_nil))))))
      (pss_one (ps_ret (pe_op op_catD (pv 3) (cl g_stretch hr (pa_cons (pv 0) (pa_cons (pv 1) pa_nil)))))))), ?_⟩
      refine ⟨[], .nil, n1000, fun H1 p e1 n1 h1 _ => ?_⟩
      have nap : a ≠ p := ne_of_none ha n1
      refine ⟨_, rfl, a, rfl, ⟨xs, SqL.of (e1.lst0 ha)⟩, ?_⟩
      refine for_it (walk_list (K := K) (a := a) (xs := xs)) (fun i σ Hc => ∃ (cur : Nat) (fs : List B) (ys : List V) (y4 : Option V), σ = [some (.int (cur : Nat)), some (.int (high : Nat)), some (.ref a), some (.ref p), y4] ∧ Ex K [p] H1 Hc ∧ Hc p = some (.lst ys) ∧ TpA Hc ys (fs.map bD) ∧ Gapv n low cur high (bs.take i) (bs.drop i) fs)
        ⟨low, [], [], none, rfl, Ex.reflL h1, h1, .nil, by rw [List.take_zero, List.drop_zero]; exact Gapv.start hle ap hin⟩ ?_ ?_ ?_
      · rintro i σ Hc _ ⟨cur, fs, ys, y4, rfl, e2, _⟩
        exact SqL.of (e2.lst (by simpa using nap) (e1.lst0 ha))
      · rintro i x σ Hc H' hi ⟨cur, fs, ys, y4, rfl, e2, h3, t3, gv⟩ ⟨rfl, hx⟩
        obtain ⟨b, hb, tb⟩ := tx.bk hx
        have tb2 := e2.tp (e1.tp tb)
        rw [drop_head hb] at gv
        have hcb := gv.td b List.mem_cons_self
        have fb := fin_gt b
        refine ⟨_, rfl, .inl ⟨rfl, _, SqL.of h3⟩, _, rfl, _, rfl, b, tb2, cur, b.1, n, rfl, hcb.1, by omega, h64, fun H5 q5 xs5 fs5 e5 nw5 h5 t5 f5 l5 => ?_⟩
        have h6 := e5.lst0 h3
        have lf := gv.len
        rw [List.length_take] at lf
        refine ⟨p, q5, ys, xs5, rfl, rfl, h6, h5, line_of (by rw [t3.lenB, t5.lenB]; omega), ?_⟩
        have e7 : Ex K [p] H' (upd H5 p (.lst (ys ++ xs5))) := e5.head1 h3 (Ex.put h6)
        have e8 := Ex.put (K := K) (ys := ys ++ xs5) h6
        refine ⟨_, rfl, x, b, rfl, e7.tp tb2, (okb b (mem_at hb)).h900 h64, fin b, fs ++ fs5, ys ++ xs5, _, rfl, e2.trans e7, upd_same, ?_, ?_⟩
        · rw [List.map_append]
          exact (e7.tpA t3).app (e8.tpA t5)
        · rw [take_snoc hb]
          exact gv.next f5 l5
      · rintro σ Hc ⟨cur, fs, ys, y4, rfl, e2, h3, t3, gv⟩
        rw [lx, List.take_length, List.drop_length] at gv
        refine ⟨_, rfl, _, rfl, _, rfl, cur, high, n, rfl, gv.ch, h2, h64, fun H5 q5 xs5 fs5 e5 nw5 h5 t5 f5 l5 => ?_⟩
        have h6 := e5.lst0 h3
        have lf := gv.len
        have t35 := (e5.tpA t3).app t5
        obtain ⟨r1, r2⟩ := gv.end f5 l5
        refine ⟨p, q5, ys, xs5, fs.map bD, fs5.map bD, rfl, rfl, h6, h5, e5.tpA t3, t5, by rw [List.length_map, List.length_map]; omega, fun H6 p6 e6 n6 h7 t6 => ?_⟩
        have e05 := (e1.cut0 (Nw.of n1) e2).trans e5
        rw [← List.map_append] at t6
        exact q H6 p6 _ _ (e05.trans e6) (e05.nw n6) h7 t6 r1 r2

    · refine ⟨_, (pss_cons (ps_set (i := 3) sc_gaps.nd rfl (.inl rfl) (pe_lstD pa_nil))
      (pss_cons (ps_for PassesOwn.never rfl (pi_tup (pv 2)) (pg_name (i := 4) sc_gaps.nd rfl (.inl rfl))
        (pss_cons (ps_expr (pe_bm PySem.F.plainAttrs_list PySem.F.slot_list_extend PySem.F.type_list_extend mt_extend (pv 3) (pa_cons (cl g_stretch hr (pa_cons (pv 0) (pa_cons (pe_at0 (pv 4)) pa_nil))) pa_nil)))
        (pss_one (ps_set (i := 0) sc_gaps.nd rfl (.inl rfl) (cl g_end_of hr (pa_cons (pv 4) pa_nil))))))
      (pss_one (ps_ret (pe_op op_catD (pv 3) (cl g_stretch hr (pa_cons (pv 0) (pa_cons (pv 1) pa_nil)))))))), ?_⟩
      refine ⟨[], .nil, n1000, fun H1 p e1 n1 h1 _ => ?_⟩
      have nap : a ≠ p := ne_of_none ha n1
      refine ⟨_, rfl, a, rfl, ⟨xs, SqT.of (e1.tup ha)⟩, ?_⟩
      refine for_it (walk_tup (K := K) (a := a) (xs := xs)) (fun i σ Hc => ∃ (cur : Nat) (fs : List B) (ys : List V) (y4 : Option V), σ = [some (.int (cur : Nat)), some (.int (high : Nat)), some (.ref a), some (.ref p), y4] ∧ Ex K [p] H1 Hc ∧ Hc p = some (.lst ys) ∧ TpA Hc ys (fs.map bD) ∧ Gapv n low cur high (bs.take i) (bs.drop i) fs)
        ⟨low, [], [], none, rfl, Ex.reflL h1, h1, .nil, by rw [List.take_zero, List.drop_zero]; exact Gapv.start hle ap hin⟩ ?_ ?_ ?_
      · rintro i σ Hc _ ⟨cur, fs, ys, y4, rfl, e2, _⟩
        exact SqT.of (e2.tup (e1.tup ha))
      · rintro i x σ Hc H' hi ⟨cur, fs, ys, y4, rfl, e2, h3, t3, gv⟩ ⟨rfl, hx⟩
        obtain ⟨b, hb, tb⟩ := tx.bk hx
        have tb2 := e2.tp (e1.tp tb)
        rw [drop_head hb] at gv
        have hcb := gv.td b List.mem_cons_self
        have fb := fin_gt b
        refine ⟨_, rfl, .inl ⟨rfl, _, SqL.of h3⟩, _, rfl, _, rfl, b, tb2, cur, b.1, n, rfl, hcb.1, by omega, h64, fun H5 q5 xs5 fs5 e5 nw5 h5 t5 f5 l5 => ?_⟩
        have h6 := e5.lst0 h3
        have lf := gv.len
        rw [List.length_take] at lf
        refine ⟨p, q5, ys, xs5, rfl, rfl, h6, h5, line_of (by rw [t3.lenB, t5.lenB]; omega), ?_⟩
        have e7 : Ex K [p] H' (upd H5 p (.lst (ys ++ xs5))) := e5.head1 h3 (Ex.put h6)
        have e8 := Ex.put (K := K) (ys := ys ++ xs5) h6
        refine ⟨_, rfl, x, b, rfl, e7.tp tb2, (okb b (mem_at hb)).h900 h64, fin b, fs ++ fs5, ys ++ xs5, _, rfl, e2.trans e7, upd_same, ?_, ?_⟩
        · rw [List.map_append]
          exact (e7.tpA t3).app (e8.tpA t5)
        · rw [take_snoc hb]
          exact gv.next f5 l5
      · rintro σ Hc ⟨cur, fs, ys, y4, rfl, e2, h3, t3, gv⟩
        rw [lx, List.take_length, List.drop_length] at gv
        refine ⟨_, rfl, _, rfl, _, rfl, cur, high, n, rfl, gv.ch, h2, h64, fun H5 q5 xs5 fs5 e5 nw5 h5 t5 f5 l5 => ?_⟩
        have h6 := e5.lst0 h3
        have lf := gv.len
        have t35 := (e5.tpA t3).app t5
        obtain ⟨r1, r2⟩ := gv.end f5 l5
        refine ⟨p, q5, ys, xs5, fs.map bD, fs5.map bD, rfl, rfl, h6, h5, e5.tpA t3, t5, by rw [List.length_map, List.length_map]; omega, fun H6 p6 e6 n6 h7 t6 => ?_⟩
        have e05 := (e1.cut0 (Nw.of n1) e2).trans e5
        rw [← List.map_append] at t6
        exact q H6 p6 _ _ (e05.trans e6) (e05.nw n6) h7 t6 r1 r2

theorem ok_rest_of (T : Txt mg) (D : Def K mg "rest_of" s_rest_of) (g_gaps : Ok P w K mg base 3 "gaps" ["low", "high", "blocks"] (spGaps K)) : Ok P w K mg base 4 "rest_of" ["bits", "patch"] (spRest K) := by
  refine D.ok sc_rest_of (fun _ _ _ _ _ _ us hl => match us, hl with | [_, _], _ => rfl) (fun vs H Q E h => ?_) (fun f cdv A outer s H vs Q E hr h => ?_)
  · obtain ⟨n, v, bs, rfl, _⟩ := h
    rfl
  · obtain ⟨n, v, bs, rfl, hv, h64, ap, okb, hz, q⟩ := h
    obtain ⟨a, xs, rfl, ha, tx⟩ := hv.pa
    refine ⟨_, (pss_one (ps_ret (pe_callTy cr_tupL (by rfl) T.tuple (by decide +kernel) (pa_cons (cl g_gaps hr (pa_cons pe_int (pa_cons (pe_shl1 (pv 0)) (pa_cons (pv 1) pa_nil)))) pa_nil)))), ?_⟩
    refine ⟨_, rfl, n, rfl, by omega, _, rfl, 0, 2 ^ n, n, a, xs, bs, rfl, .inr ha, tx, Nat.zero_le _, Nat.le_refl _, h64, ap, okb, fun b hb => ⟨Nat.zero_le _, (okb b hb).le⟩, hz, fun H1 p ys fs e1 nw h1 t1 fw hl => ?_⟩
    exact ⟨p, ys, fs.map bD, rfl, h1, t1, fun H2 u e2 t2 => q H2 u fs (e1.trans e2) t2 (fw.iff fun x => ⟨fun h => h.2, fun h => ⟨Nat.zero_le _, h⟩⟩) hl⟩
theorem ok_block_with (D : Def K mg "block_with" s_block_with) (g_end_of : Ok P w K mg base 1 "end_of" ["block"] spEnd) : Ok P w K mg base 2 "block_with" ["patch", "address"] spBlockWith := by
  refine D.ok sc_block_with (fun _ _ _ _ _ _ us hl => match us, hl with | [_, _], _ => rfl) (fun vs H Q E h => ?_) (fun f cdv A outer s H vs Q E hr h => ?_)
  · obtain ⟨v, x, bs, rfl, _⟩ := h
    rfl
  · obtain ⟨v, x, bs, rfl, hv, h9, q1, q2⟩ := h
    obtain ⟨a, xs, rfl, ha, tx⟩ := hv.pa
    have lx := tx.lenB
    refine ⟨_, (pss_cons (ps_for PassesOwn.never rfl (pi_tup (pv 0)) (pg_name (i := 2) sc_block_with.nd rfl (.inl rfl))
        (pss_one (ps_if (pt_chain op_le op_lt (pe_at0 (pv 2)) (pv 1) (cl g_end_of hr (pa_cons (pv 2) pa_nil))) (pss_one (ps_ret (pv 2))) pss_nil)))
      (pss_one (ps_ret pe_non))), ?_⟩
    refine ⟨_, rfl, a, rfl, ⟨xs, SqT.of ha⟩, ?_⟩
    refine for_it (walk_tup (K := K) (a := a) (xs := xs)) (fun i σ Hc => ∃ y2, σ = [some (.ref a), some (.int (x : Nat)), y2] ∧ Hc = H ∧ ∀ b ∈ bs.take i, ¬ inB x b) ⟨none, rfl, rfl, fun b hb => (by cases hb)⟩ ?_ ?_ ?_
    · rintro i σ Hc _ ⟨y2, rfl, rfl, _⟩
      exact SqT.of ha
    · rintro i y σ Hc H' hi ⟨y2, rfl, rfl, no⟩ ⟨rfl, hx⟩
      obtain ⟨b, hb, tb⟩ := tx.bk hx
      have nxt : ¬ inB x b → ∀ c ∈ bs.take (i + 1), ¬ inB x c := fun z c hc => by
        rw [take_snoc hb] at hc
        rcases List.mem_append.mp hc with h | h
        · exact no c h
        · rw [List.mem_singleton.mp h]
          exact z
      refine ⟨_, rfl, b, tb, _, rfl, _, _, rfl, rfl, _, rfl, if2 (fun c1 => ?_) fun c1 => ?_⟩
      · refine ⟨_, rfl, y, b, rfl, tb, h9 b (mem_at hb), _, _, rfl, rfl, _, rfl, if2 (fun c2 => ?_) fun c2 => ?_⟩
        · exact ⟨_, rfl, q1 b y (mem_at hb) ⟨by omega, by omega⟩ tb⟩
        · exact ⟨_, rfl, rfl, nxt fun z => c2 (by have := z.2; omega)⟩
      · exact ⟨_, rfl, iteF ⟨_, rfl, rfl, nxt fun z => c1 (by have := z.1; omega)⟩⟩
    · rintro σ Hc ⟨y2, rfl, rfl, no⟩
      rw [lx, List.take_length] at no
      exact q2 no
end
end K54
end
section
set_option Elab.async false
set_option linter.all false
set_option maxRecDepth 100000
set_option maxHeartbeats 4000000
/-! without; is_name, are_owned, go_together, is_deal. -/
namespace K54
open PySem PySem.Spec PyProof.Rows L2
def spWithout (K : PySem.W.Frag) : Sp := fun vs H Q _ => ∃ (v u : V) (n : Nat) (one other : List B), vs = [v, u] ∧ Tp H v (pD one) ∧ Tp H u (pD other) ∧ n ≤ 64 ∧ (∀ b ∈ one, Okb n b) ∧ (∀ b ∈ other, Okb n b) ∧ Ap other ∧ one.length ≤ 100 ∧ other.length ≤ 100 ∧ Tb K H ∧
  ∀ H' t fs, Ex K [] H H' → Tp H' t (pD fs) → Few n fs (fun x => cov one x ∧ ¬ cov other x) → fs.length ≤ 1313000 → Q t H'
def letters : Str := "abcdefghijklmnopqrstuvwxyz"
/-- a name -/
structure Nm (z : Str) : Prop where
  l1 : 1 ≤ z.length
  l8 : z.length ≤ 8
  all : ∀ c ∈ z.cps.toList, c ∈ letters.cps.toList
def spName (K : PySem.W.Frag) : Sp := fun vs H Q _ => ∃ z : Str, vs = [.str z] ∧ Nm z ∧ ∀ H', Ex K [] H H' → Q (.bl true) H'
def blks (os : List O) : List B := os.map (·.1)
def spOwned (K : PySem.W.Frag) : Sp := fun vs H Q _ => ∃ (n : Nat) (v : V) (os : List O), vs = [.int (n : Nat), v] ∧ Tp H v (osD os) ∧ n ≤ 64 ∧ (∀ o ∈ os, Okb n o.1) ∧ (∀ o ∈ os, Nm o.2) ∧ Ap (blks os) ∧ os.length ≤ 100 ∧ ∀ H', Ex K [] H H' → Q (.bl true) H'
def Tog (outs kept : List O) : Prop := ∀ o ∈ outs, ∀ k ∈ kept, o.2 = k.2 ∨ disj o.1 k.1
def spTog : Sp := fun vs H Q _ => ∃ (v u : V) (outs kept : List O), vs = [v, u] ∧ Tp H v (osD outs) ∧ Tp H u (osD kept) ∧ (∀ o ∈ outs, o.1.2 ≤ 900) ∧ (∀ o ∈ kept, o.1.2 ≤ 900) ∧ Tog outs kept ∧ Q (.bl true) H
/-- a deal -/
structure Deal (n : Nat) (outs kept : List O) : Prop where
  n1 : 1 ≤ n
  n64 : n ≤ 64
  oo : ∀ o ∈ outs, Okb n o.1
  ko : ∀ o ∈ kept, Okb n o.1
  om : ∀ o ∈ outs, Nm o.2
  km : ∀ o ∈ kept, Nm o.2
  oa : Ap (blks outs)
  ka : Ap (blks kept)
  tog : Tog outs kept
  ol : outs.length ≤ 100
  kl : kept.length ≤ 100
def spIsDeal (K : PySem.W.Frag) : Sp := fun vs H Q _ => ∃ (v : V) (n : Nat) (outs kept : List O), vs = [v] ∧ Tp H v (dD n outs kept) ∧ Deal n outs kept ∧ ∀ H', Ex K [] H H' → Q (.bl true) H'
theorem any_holds {other : List B} {b : B} : ((other.map fun c => decide (holdsB c b)).any id) = decide (∃ c, c ∈ other ∧ holdsB c b) := by
  rw [Bool.eq_iff_iff, List.any_map, List.any_eq_true, decide_eq_true_iff]
  constructor
  · rintro ⟨c, hc, h⟩
    exact ⟨c, hc, of_decide_eq_true h⟩
  · rintro ⟨c, hc, h⟩
    exact ⟨c, hc, decide_eq_true h⟩
theorem map_take_succ {α β : Type} {f : α → β} {l : List α} {i : Nat} {x : α} (h : l[i]? = some x) : (l.take (i + 1)).map f = (l.take i).map f ++ [f x] := by rw [take_snoc h, List.map_append]; rfl
section
variable {P : Program} {w : World} {K : PySem.W.Frag} {mg : Str → Option Value} {base : Heap}
theorem ok_without (T : Txt mg) (D : Def K mg "without" s_without) (g_holds : Ok P w K mg base 2 "holds" ["one", "other"] spHolds) (g_gaps : Ok P w K mg base 3 "gaps" ["low", "high", "blocks"] (spGaps K)) (g_end_of : Ok P w K mg base 1 "end_of" ["block"] spEnd)
    (g_fewest : Ok P w K mg base 5 "fewest" ["blocks"] (spFewest K)) : Ok P w K mg base 6 "without" ["one", "other"] (spWithout K) := by
  refine D.ok sc_without (fun _ _ _ _ _ _ us hl => match us, hl with | [_, _], _ => rfl) (fun vs H Q E h => ?_) (fun f cdv A outer s H vs Q E hr h => ?_)
  · obtain ⟨v, u, n, one, other, rfl, _⟩ := h
    rfl
  · obtain ⟨v, u, n, one, other, rfl, hv, hu, h64, ok1, ok2, ap, l1, l2, tb, q⟩ := h
    obtain ⟨a, xs, rfl, ha, tx⟩ := hv.pa
    obtain ⟨a2, zs, rfl, ha2, tz⟩ := hu.pa
    have lx := tx.lenB
    have lz := tz.lenB
    refine ⟨_, (pss_cons (ps_set (i := 2) sc_without.nd rfl (.inl rfl) (pe_lstD pa_nil))
      (pss_cons (ps_for PassesOwn.never rfl (pi_tup (pv 0)) (pg_name (i := 3) sc_without.nd rfl (.inr rfl))
        (pss_one (ps_if (pt_not (pt_val (pe_callB (cr_any rfl) (by rfl) T.any (by decide +kernel) (pa_cons (pe_lc (own := [("mine", 4)]) (g := gName 4) (tt := tYes) rfl sc_without.nd (pi_tup (pv 1)) (blkOk_by (N := ["one", "other", "found", "block", "mine"]) (sc := defScope s_without) (by decide +kernel)) (fun _ _ _ _ _ => (pg_name (i := 4) sc_without.nd rfl (.inl rfl))) (fun _ _ _ _ _ => pts_nil) (fun _ _ _ _ _ => (cl g_holds hr (pa_cons (pv 4) (pa_cons (pv 3) pa_nil))))) pa_nil)))) (pss_one (ps_expr (pe_bm PySem.F.plainAttrs_list PySem.F.slot_list_extend PySem.F.type_list_extend mt_extend (pv 2) (pa_cons (cl g_gaps hr (pa_cons (pe_at0 (pv 3)) (pa_cons (cl g_end_of hr (pa_cons (pv 3) pa_nil)) (pa_cons (pe_lc (own := [("mine", 4)]) (g := gName 4) rfl sc_without.nd (pi_tup (pv 1)) (blkOk_by (N := ["one", "other", "found", "block", "mine"]) (sc := defScope s_without) (by decide +kernel)) (fun _ _ _ _ _ => (pg_name (i := 4) sc_without.nd rfl (.inl rfl))) (fun _ _ _ _ _ => pts_one (pt_val (cl g_holds hr (pa_cons (pv 3) (pa_cons (pv 4) pa_nil))))) (fun _ _ _ _ _ => (pv 4))) pa_nil)))) pa_nil)))) pss_nil)))
      (pss_one (ps_ret (cl g_fewest hr (pa_cons (pv 2) pa_nil)))))), ?_⟩
    refine ⟨[], .nil, n1000, fun H1 p e1 n1 h1 _ => ?_⟩
    refine ⟨_, rfl, a, rfl, ⟨xs, SqT.of (e1.tup ha)⟩, ?_⟩
    refine for_it (walk_tup (K := K) (a := a) (xs := xs)) (fun i σ Hc => ∃ (fs : List B) (ys : List V) (y3 y4 : Option V), σ = [some (.ref a), some (.ref a2), some (.ref p), y3, y4] ∧ Ex K [p] H1 Hc ∧ Hc p = some (.lst ys) ∧ TpA Hc ys (fs.map bD) ∧ Wov n other (one.take i) fs)
      ⟨[], [], none, none, rfl, Ex.reflL h1, h1, .nil, Wov.start⟩ ?_ ?_ ?_
    · rintro i σ Hc _ ⟨fs, ys, y3, y4, rfl, e2, _⟩
      exact SqT.of (e2.tup (e1.tup ha))
    · rintro i x σ Hc H' hi ⟨fs, ys, y3, y4, rfl, e2, h3, t3, wv⟩ ⟨rfl, hx⟩
      obtain ⟨b, hb, tb0⟩ := tx.bk hx
      have tbx := e2.tp (e1.tp tb0)
      have ob := ok1 b (mem_at hb)
      have ho2 := e2.tup (e1.tup ha2)
      refine ⟨_, rfl, a2, rfl, ⟨zs, SqT.of ho2⟩, fun D hD => ?_⟩
      refine lcY (K := K) (L := []) (walk_tup (K := K) (a := a2) (xs := zs)) (fun i ds _ => ds = ((other.take i).map fun c => decide (holdsB c b)).map PyData.bool) hD (by simp) (by omega) (fun _ _ => rfl) (fun _ _ _ _ h _ => h) (fun H e => SqT.of (e.tup ho2)) ?_ ?_
      · rintro j ds z H2 H3 KP hj e3 rfl ⟨rfl, hz⟩ hK
        obtain ⟨c, hc, tc⟩ := tz.bk hz
        refine ⟨rfl, _, rfl, _, rfl, z, x, c, b, rfl, (e3.tp (e2.tp (e1.tp tc))), e3.tp tbx, (ok2 c (mem_at hc)).h900 h64, ob.h900 h64, ?_⟩
        exact hK _ _ (.bool _) Ex.refl (.bl _) (by rw [map_take_succ hc, List.map_append]; rfl)
      · rintro H2 ls ds e3 hD2 td hl rfl
        rw [lz, List.take_length] at td
        refine ⟨D, other.map fun c => decide (holdsB c b), rfl, SqL.of (by rw [← td.bools]; exact hD2), _, rfl, ?_⟩
        rw [any_holds]
        have hp2 := e3.lst0 h3
        have e23 : Ex K [p] H' H2 := e3.head1 h3 (Ex.reflL hp2)
        by_cases hh : ∃ c, c ∈ other ∧ holdsB c b
        · rw [decide_eq_true hh]
          obtain ⟨c, hc, hcb⟩ := hh
          refine iteF ⟨fs, ys, _, _, rfl, e2.trans e23, hp2, e3.tpA t3, ?_⟩
          rw [take_snoc hb]
          exact wv.skip hc hcb
        · rw [decide_eq_false hh]
          refine iteT ⟨_, rfl, .inl ⟨rfl, _, SqL.of hp2⟩, _, rfl, b, e3.tp tbx, _, rfl, x, b, rfl, e3.tp tbx, ob.h900 h64, ?_⟩
          refine ⟨_, rfl, a2, rfl, ⟨zs, SqT.of (e3.tup ho2)⟩, fun D2 hD2 => ?_⟩
          refine lcD (K := K) (L := []) (walk_tup (K := K) (a := a2) (xs := zs)) (fun i ds _ => ds = ((other.take i).filter fun c => decide (holdsB b c)).map bD) hD2 (by simp) (by omega) (fun _ _ => rfl) (fun _ _ _ _ h _ => h) (fun H e => SqT.of (e.tup (e3.tup ho2))) ?_ ?_
          · rintro j ds z H4 H5 KP SK hj e4 rfl ⟨rfl, hz⟩ hK hS
            obtain ⟨c, hc, tc⟩ := tz.bk hz
            have tcz := e4.tp (e3.tp (e2.tp (e1.tp tc)))
            refine ⟨rfl, _, rfl, _, rfl, x, z, b, c, rfl, e4.tp (e3.tp tbx), tcz, ob.h900 h64, (ok2 c (mem_at hc)).h900 h64, _, rfl, if2 (fun c1 => ?_) fun c1 => ?_⟩
            · refine ⟨_, rfl, hK _ _ (bD c) Ex.refl tcz ?_⟩
              have e : [c].filter (fun c => decide (holdsB b c)) = [c] := by simp [c1]
              rw [take_snoc hc, List.filter_append, e, List.map_append]
              rfl
            · refine hS _ Ex.refl ?_
              have e : [c].filter (fun c => decide (holdsB b c)) = [] := by simp [c1]
              rw [take_snoc hc, List.filter_append, e, List.append_nil]
          · rintro H4 ls2 ds e4 hD4 td4 hl4 rfl
            rw [lz, List.take_length] at td4
            have e34 := e3.trans e4
            refine ⟨b.1, fin b, n, D2, ls2, _, rfl, .inl hD4, td4, Nat.le_of_lt (fin_gt b), ob.le, h64, ap.filter _, fun c hc => ok2 c (List.mem_filter.mp hc).1, fun c hc => ?_, Nat.le_trans (List.length_filter_le _ _) (by omega), fun H5 q5 xs5 gs e5 nw5 h5 t5 f5 l5 => ?_⟩
            · exact of_decide_eq_true (List.mem_filter.mp hc).2
            · have e35 := e34.trans e5
              have h6 := e35.lst0 h3
              have lw := wv.len
              have lt := List.length_take_le i one
              have lm : 130 * (other.length + 1) * (one.take i).length ≤ 1313000 := by
                refine Nat.le_trans (Nat.mul_le_mul (Nat.mul_le_mul_left 130 (show other.length + 1 ≤ 101 by omega)) (show (one.take i).length ≤ 100 by rw [List.length_take]; omega)) (by decide)
              have lg : gs.length ≤ 13130 := by
                have lf := List.length_filter_le (fun c => decide (holdsB b c)) other
                omega
              refine ⟨p, q5, ys, xs5, rfl, rfl, h6, h5, line_of (by rw [t3.lenB, t5.lenB]; omega), ?_⟩
              have e7 : Ex K [p] H' (upd H5 p (.lst (ys ++ xs5))) := e35.head1 h3 (Ex.put h6)
              refine ⟨fs ++ gs, ys ++ xs5, _, _, rfl, e2.trans e7, upd_same, ?_, ?_⟩
              · rw [List.map_append]
                exact (e7.tpA t3).app ((Ex.put (K := K) (ys := ys ++ xs5) h6).tpA t5)
              · rw [take_snoc hb]
                exact wv.add ob ok2 (fun c hc z => hh ⟨c, hc, z⟩) f5 l5
    · rintro σ Hc ⟨fs, ys, y3, y4, rfl, e2, h3, t3, wv⟩
      rw [lx, List.take_length] at wv
      have lm : 130 * (other.length + 1) * one.length ≤ 1313000 := Nat.le_trans (Nat.mul_le_mul (Nat.mul_le_mul_left 130 (show other.length + 1 ≤ 101 by omega)) l1) (by decide)
      have lw := wv.len
      have e12 := e1.cut0 (Nw.of n1) e2
      refine ⟨_, rfl, p, ys, n, fs, rfl, .inl h3, t3, h64, wv.ok, by omega, e12.tab tb, fun H' u gs e3 t4 fw l4 => q H' u gs (e12.trans e3) t4 (fw.iff wv.cov) (by omega)⟩
theorem ok_is_name (T : Txt mg) (D : Def K mg "is_name" s_is_name) : Ok P w K mg base 1 "is_name" ["thing"] (spName K) := by
  refine D.ok sc_is_name (fun _ _ _ _ _ _ us hl => match us, hl with | [_], _ => rfl) (fun vs H Q E h => ?_) (fun f cdv A outer s H vs Q E hr h => ?_)
  · obtain ⟨z, rfl, _⟩ := h
    rfl
  · obtain ⟨z, rfl, nm, q⟩ := h
    have h1 := nm.l1
    have h8 := nm.l8
    refine ⟨_, (pss_one (ps_ret (pe_and (pe_callB cr_isi (by rfl) T.isi (by decide +kernel) (pa_cons (pv 0) (pa_cons (pe_bltn (v := .ty "str") (by rfl) T.str (by decide +kernel) rfl) pa_nil))) (pe_and (pe_chain op_le op_le pe_int (pe_callB call_len_str (by rfl) T.len (by decide +kernel) (pa_cons (pv 0) pa_nil)) (pe_globI T.signs)) (pe_one (pe_callB (cr_all rfl) (by rfl) T.all (by decide +kernel) (pa_cons (pe_lc (own := [("sign", 1)]) (g := gName 1) (tt := tYes) rfl sc_is_name.nd (pi_str (pv 0)) (blkOk_by (N := ["thing", "sign"]) (sc := defScope s_is_name) (by decide +kernel)) (fun _ _ _ _ _ => (pg_name (i := 1) sc_is_name.nd rfl (.inl rfl))) (fun _ _ _ _ _ => pts_nil) (fun _ _ _ _ _ => (pe_cmpR op_in_sign (pv 1) (pe_globS T.letters) (by rfl)))) pa_nil))))))), ?_⟩
    refine ⟨_, rfl, _, _, _, true, rfl, .str z, by decide +kernel, _, rfl, iteT ?_⟩
    refine ⟨_, rfl, z, rfl, line_of (by omega), _, _, rfl, rfl, _, rfl, ifT (by omega) ⟨_, _, rfl, rfl, _, rfl, ifT (by omega) ?_⟩⟩
    refine ⟨_, rfl, z, rfl, fun D hD => ?_⟩
    refine lcY (K := K) (L := []) walk_str (fun i ds _ => ds = (List.replicate i true).map PyData.bool) hD (by simp) (show z.cps.size ≤ 16000000 from Nat.le_trans h8 (by decide)) (fun _ _ => rfl) (fun _ _ _ _ h _ => h) (fun H e => trivial) ?_ ?_
    · rintro i ds x H2 H3 KP hi e2 rfl ⟨rfl, c, hc, rfl⟩ hK
      refine ⟨rfl, _, rfl, c, letters, rfl, rfl, ?_⟩
      have hm : c ∈ letters.cps.toList := nm.all c (by
        rw [← Array.getElem?_toList] at hc
        exact List.mem_of_getElem? hc)
      rw [decide_eq_true hm]
      exact hK _ _ (.bool true) Ex.refl (.bl true) (by rw [← rep_snoc, List.map_append]; rfl)
    · rintro H2 ls ds e2 hD2 td hl rfl
      refine ⟨D, List.replicate _ true, rfl, SqL.of (by rw [← td.bools]; exact hD2), ?_⟩
      rw [all_true]
      exact q _ e2
end
end K54
end
section
set_option Elab.async false
set_option linter.all false
set_option maxRecDepth 100000
set_option maxHeartbeats 4000000
/-! are_owned, go_together, is_deal, kept_from, free_for, out_to, holder. -/
namespace K54
open PySem PySem.Spec PyProof.Rows L2
theorem if2N {c A B : Prop} [Decidable c] (a : ¬ c → A) (b : c → B) : if (!decide c) = true then A else B := by
  by_cases h : c
  · rw [decide_eq_true h]
    exact iteF (b h)
  · rw [decide_eq_false h]
    exact iteT (a h)
def nmV : Option Str → V | none => .non | some z => .str z
def nmD : Option Str → PyData | none => .none | some z => .str z
theorem nmT (H : Hp) : ∀ nm : Option Str, Tp H (nmV nm) (nmD nm)
  | none => .non
  | some z => .str z
def keepN (nm : Option Str) (o : O) : Bool := match nm with | none => true | some z => !decide (o.2 = z)
theorem keepN_of (nm : Option Str) (o : O) : (!decide (V.str o.2 = nmV nm)) = keepN nm o := by
  cases nm with
  | none => simp [nmV, keepN]
  | some z => simp [nmV, keepN]
theorem scalN (z : Str) (nm : Option Str) : scal (.str z) (nmV nm) = true := by cases nm <;> rfl
def notN (kept : List O) (nm : Option Str) : List B := blks (kept.filter (keepN nm))
def ofN (outs : List O) (z : Str) : List B := blks (outs.filter fun o => decide (o.2 = z))
theorem blks_len (os : List O) : (blks os).length = os.length := List.length_map _
theorem blks_take {os : List O} {i : Nat} {o : O} (h : os[i]? = some o) : blks (os.take (i + 1)) = blks (os.take i) ++ [o.1] := map_take_succ h
theorem notN_len (kept : List O) (nm : Option Str) : (notN kept nm).length ≤ kept.length := by rw [notN, blks_len]; exact List.length_filter_le _ _
theorem ofN_len (kept : List O) (z : Str) : (ofN kept z).length ≤ kept.length := by rw [ofN, blks_len]; exact List.length_filter_le _ _
theorem notN_mem {kept : List O} {nm : Option Str} {b : B} : b ∈ notN kept nm ↔ ∃ o, o ∈ kept ∧ keepN nm o = true ∧ o.1 = b := by
  unfold notN blks
  rw [List.mem_map]
  exact ⟨fun ⟨o, h, e⟩ => ⟨o, (List.mem_filter.mp h).1, (List.mem_filter.mp h).2, e⟩, fun ⟨o, h, k, e⟩ => ⟨o, List.mem_filter.mpr ⟨h, k⟩, e⟩⟩
theorem ofN_mem {kept : List O} {z : Str} {b : B} : b ∈ ofN kept z ↔ ∃ o, o ∈ kept ∧ o.2 = z ∧ o.1 = b := by
  unfold ofN blks
  rw [List.mem_map]
  exact ⟨fun ⟨o, h, e⟩ => ⟨o, (List.mem_filter.mp h).1, of_decide_eq_true (List.mem_filter.mp h).2, e⟩, fun ⟨o, h, k, e⟩ => ⟨o, List.mem_filter.mpr ⟨h, decide_eq_true k⟩, e⟩⟩
def spKeptFrom (K : PySem.W.Frag) : Sp := fun vs H Q _ => ∃ (v : V) (nm : Option Str) (n : Nat) (outs kept : List O), vs = [v, nmV nm] ∧ Tp H v (dD n outs kept) ∧ kept.length ≤ 100000 ∧ ∀ H' p xs, Ex K [] H H' → H' p = some (.lst xs) → TpA H' xs ((notN kept nm).map bD) → Q (.ref p) H'
def freeS (n : Nat) (outs kept : List O) (nm : Option Str) (x : Nat) : Prop := x < 2 ^ n ∧ ¬ cov (blks outs ++ notN kept nm) x
def spFree (K : PySem.W.Frag) : Sp := fun vs H Q _ => ∃ (v : V) (nm : Option Str) (n : Nat) (outs kept : List O), vs = [v, nmV nm] ∧ Tp H v (dD n outs kept) ∧ Deal n outs kept ∧ Tb K H ∧ ∀ H' u fs, Ex K [] H H' → Tp H' u (pD fs) → Few n fs (freeS n outs kept nm) → fs.length ≤ 26130 → Q u H'
def spOut (K : PySem.W.Frag) : Sp := fun vs H Q _ => ∃ (v : V) (z : Str) (n : Nat) (outs kept : List O), vs = [v, .str z] ∧ Tp H v (dD n outs kept) ∧ Deal n outs kept ∧ Tb K H ∧ ∀ H' u fs, Ex K [] H H' → Tp H' u (pD fs) → Few n fs (cov (ofN outs z)) → fs.length ≤ 100 → Q u H'
/-- what holder says -/
def HoldR (n : Nat) (outs kept : List O) (x : Nat) (word : Str) (nm : Option Str) (b : B) : Prop :=
  inB x b ∧ ((word = "out" ∧ ∃ z, nm = some z ∧ (b, z) ∈ outs) ∨ ((∀ o ∈ outs, ¬ inB x o.1) ∧ ((word = "kept" ∧ ∃ z, nm = some z ∧ (b, z) ∈ kept) ∨ (word = "free" ∧ nm = none ∧ ∃ fs, Few n fs (freeS n outs kept none) ∧ b ∈ fs))))
def spHolder (K : PySem.W.Frag) : Sp := fun vs H Q _ => ∃ (v : V) (x n : Nat) (outs kept : List O), vs = [v, .int (x : Nat)] ∧ Tp H v (dD n outs kept) ∧ Deal n outs kept ∧ Tb K H ∧ x < 2 ^ n ∧
  ∀ H' u word nm b, Ex K [] H H' → Tp H' u (.tuple [.str word, nmD nm, bD b]) → HoldR n outs kept x word nm b → Q u H'
section
variable {P : Program} {w : World} {K : PySem.W.Frag} {mg : Str → Option Value} {base : Heap}
theorem ok_are_owned (T : Txt mg) (D : Def K mg "are_owned" s_are_owned) (g_is_block : Ok P w K mg base 2 "is_block" ["bits", "thing"] spIsBlock) (g_is_name : Ok P w K mg base 1 "is_name" ["thing"] (spName K)) (g_is_patch : Ok P w K mg base 3 "is_patch" ["bits", "thing"] (spIsPatch K)) :
    Ok P w K mg base 4 "are_owned" ["bits", "thing"] (spOwned K) := by
  refine D.ok sc_are_owned (fun _ _ _ _ _ _ us hl => match us, hl with | [_, _], _ => rfl) (fun vs H Q E h => ?_) (fun f cdv A outer s H vs Q E hr h => ?_)
  · obtain ⟨n, v, os, rfl, _⟩ := h
    rfl
  · obtain ⟨n, v, os, rfl, hv, h64, oo, om, oa, ol, q⟩ := h
    obtain ⟨a, xs, rfl, ha, tx⟩ := hv.osA
    have lx := tx.lenB
    refine ⟨_, (pss_cons (ps_if (pt_not (pt_val (pe_callB cr_isi (by rfl) T.isi (by decide +kernel) (pa_cons (pv 1) (pa_cons (pe_bltn (v := .ty "tuple") (by rfl) T.tuple (by decide +kernel) rfl) pa_nil))))) (pss_one (ps_ret pe_bl)) pss_nil)
      (pss_cons (ps_for PassesOwn.never rfl (pi_tup (pv 1)) (pg_name (i := 2) sc_are_owned.nd rfl (.inl rfl))
        (pss_one (ps_if (PW.pt (pw_or (pt_not (pt_val (pe_callB cr_isi (by rfl) T.isi (by decide +kernel) (pa_cons (pv 2) (pa_cons (pe_bltn (v := .ty "tuple") (by rfl) T.tuple (by decide +kernel) rfl) pa_nil))))) (pw_or (pt_cmp (pc_neI (pe_callB call_len_seq (by rfl) T.len (by decide +kernel) (pa_cons (pv 2) pa_nil)) pe_int)) (pw_or (pt_not (pt_val (cl g_is_block hr (pa_cons (pv 0) (pa_cons (pe_ix ix_tup (pv 2) pe_int (fun _ _ => rfl)) pa_nil))))) (pw_or1 (pt_not (pt_val (cl g_is_name hr (pa_cons (pe_ix ix_tup (pv 2) pe_int (fun _ _ => rfl)) pa_nil))))))))) (pss_one (ps_ret pe_bl)) pss_nil)))
      (pss_one (ps_ret (cl g_is_patch hr (pa_cons (pv 0) (pa_cons (pe_callTy cr_tupL (by rfl) T.tuple (by decide +kernel) (pa_cons (pe_lc (own := [("block", 3), ("name", 4)]) (g := gTup K 2 (gCons (gName 3) (gCons (gName 4) gNil))) (tt := tYes) rfl sc_are_owned.nd (pi_tup (pv 1)) (blkOk_by (N := ["bits", "thing", "pair", "block", "name"]) (sc := defScope s_are_owned) (by decide +kernel)) (fun _ _ _ _ _ => (pg_tup rfl (pgs_cons (pg_name (i := 3) sc_are_owned.nd rfl (.inl rfl)) (pgs_cons (pg_name (i := 4) sc_are_owned.nd rfl (.inl rfl)) pgs_nil)))) (fun _ _ _ _ _ => pts_nil) (fun _ _ _ _ _ => (pv 3))) pa_nil)) pa_nil))))))), ?_⟩
    refine ⟨_, rfl, _, _, _, true, rfl, .tup ha, by decide +kernel, _, rfl, iteF ?_⟩
    refine ⟨_, rfl, a, rfl, ⟨xs, SqT.of ha⟩, ?_⟩
    refine for_it (walk_tup (K := K) (a := a) (xs := xs)) (fun i σ Hc => ∃ (y2 y3 y4 : Option V), σ = [some (.int (n : Nat)), some (.ref a), y2, y3, y4] ∧ Ex K [] H Hc) ⟨none, none, none, rfl, Ex.refl⟩ ?_ ?_ ?_
    · rintro i σ Hc _ ⟨y2, y3, y4, rfl, e2⟩
      exact SqT.of (e2.tup ha)
    · rintro i x σ Hc H' hi ⟨y2, y3, y4, rfl, e2⟩ ⟨rfl, hx⟩
      obtain ⟨o, ho, to⟩ := tx.ow hx
      obtain ⟨c, d, rfl, hc, hd⟩ := to.ow
      have hc2 := e2.tup hc
      have ob := oo o (mem_at ho)
      refine ⟨_, rfl, _, _, _, true, rfl, .tup hc2, by decide +kernel, _, rfl, iteF ?_⟩
      refine ⟨_, rfl, c, _, rfl, .inr (SqT.of hc2), _, _, rfl, rfl, _, rfl, ?_⟩
      refine iteF ⟨_, rfl, _, rfl, c, _, 0, _, rfl, rfl, SqT.of hc2, atI_nat (j := 0) rfl, n, _, o.1, rfl, e2.tp (Tp.bkI hd), h64, ob, _, rfl, iteF ?_⟩
      refine ⟨_, rfl, c, _, 1, _, rfl, rfl, SqT.of hc2, atI_nat (j := 1) rfl, o.2, rfl, om o (mem_at ho), fun H3 e3 => ?_⟩
      exact ⟨_, rfl, iteF ⟨_, _, _, rfl, e2.trans e3⟩⟩
    · rintro σ Hc ⟨y2, y3, y4, rfl, e2⟩
      have ha2 := e2.tup ha
      refine ⟨_, rfl, _, rfl, a, rfl, ⟨xs, SqT.of ha2⟩, fun D hD => ?_⟩
      refine lcY (K := K) (L := []) (walk_tup (K := K) (a := a) (xs := xs)) (fun i ds _ => ds = (blks (os.take i)).map bD) hD (by simp) (by omega) (fun _ _ => rfl) (fun _ _ _ _ h _ => h) (fun H e => SqT.of (e.tup ha2)) ?_ ?_
      · rintro i ds x H2 H3 KP hi e3 rfl ⟨rfl, hx⟩ hK
        obtain ⟨o, ho, to⟩ := tx.ow hx
        obtain ⟨c, d, rfl, hc, hd⟩ := to.ow
        have e23 := e2.trans e3
        refine ⟨c, _, rfl, SqT.of (e23.tup hc), rfl, _, _, rfl, _, _, rfl, rfl, rfl, _, rfl, ?_⟩
        exact hK _ _ (bD o.1) Ex.refl (e23.tp (Tp.bkI hd)) (by rw [blks_take ho, List.map_append]; rfl)
      · rintro H2 ls ds e3 hD2 td hl rfl
        rw [lx, List.take_length] at td
        refine ⟨D, ls, _, rfl, hD2, td, fun H4 u e4 t4 => ?_⟩
        refine ⟨n, u, blks os, rfl, t4, h64, fun b hb => ?_, by rw [blks_len]; omega, oa, fun H5 e5 => q H5 (((e2.trans e3).trans e4).trans e5)⟩
        obtain ⟨o, hm, rfl⟩ := List.mem_map.mp hb
        exact oo o hm
theorem ok_go_together (D : Def K mg "go_together" s_go_together) (g_apart : Ok P w K mg base 2 "apart" ["one", "other"] spApart) : Ok P w K mg base 3 "go_together" ["outs", "kept"] spTog := by
  refine D.ok sc_go_together (fun _ _ _ _ _ _ us hl => match us, hl with | [_, _], _ => rfl) (fun vs H Q E h => ?_) (fun f cdv A outer s H vs Q E hr h => ?_)
  · obtain ⟨v, u, outs, kept, rfl, _⟩ := h
    rfl
  · obtain ⟨v, u, outs, kept, rfl, hv, hu, h1, h2, tg, q⟩ := h
    obtain ⟨a, xs, rfl, ha, tx⟩ := hv.osA
    obtain ⟨b, ys, rfl, hb, ty⟩ := hu.osA
    refine ⟨_, (pss_cons (ps_for PassesOwn.never rfl (pi_tup (pv 0)) (pg_tup rfl (pgs_cons (pg_name (i := 2) sc_go_together.nd rfl (.inl rfl)) (pgs_cons (pg_name (i := 3) sc_go_together.nd rfl (.inl rfl)) pgs_nil)))
        (pss_one (ps_for PassesOwn.never rfl (pi_tup (pv 1)) (pg_tup rfl (pgs_cons (pg_name (i := 4) sc_go_together.nd rfl (.inl rfl)) (pgs_cons (pg_name (i := 5) sc_go_together.nd rfl (.inl rfl)) pgs_nil)))
          (pss_one (ps_if (PW.pt (pw_and (pt_cmpR op_ne (pv 3) (pv 5) (nomark _)) (pw_and1 (pt_not (pt_val (cl g_apart hr (pa_cons (pv 2) (pa_cons (pv 4) pa_nil)))))))) (pss_one (ps_ret pe_bl)) pss_nil)))))
      (pss_one (ps_ret pe_bl))), ?_⟩
    refine ⟨_, rfl, a, rfl, ⟨xs, SqT.of ha⟩, ?_⟩
    refine for_it (walk_tup (K := K) (a := a) (xs := xs)) (fun i σ Hc => ∃ (y2 y3 y4 y5 : Option V), σ = [some (.ref a), some (.ref b), y2, y3, y4, y5] ∧ Hc = H) ⟨none, none, none, none, rfl, rfl⟩ ?_ ?_ ?_
    · rintro i σ Hc _ ⟨y2, y3, y4, y5, rfl, rfl⟩
      exact SqT.of ha
    · rintro i x σ Hc H' hi ⟨y2, y3, y4, y5, rfl, rfl⟩ ⟨rfl, hx⟩
      obtain ⟨o, ho, to⟩ := tx.ow hx
      obtain ⟨c, d, rfl, hc, hd⟩ := to.ow
      refine ⟨c, _, rfl, SqT.of hc, rfl, _, _, rfl, _, _, rfl, rfl, ?_⟩
      refine ⟨_, rfl, b, rfl, ⟨ys, SqT.of hb⟩, ?_⟩
      refine for_it (walk_tup (K := K) (a := b) (xs := ys)) (fun i σ Hc => ∃ (y4 y5 : Option V), σ = [some (.ref a), some (.ref b), some (.ref d), some (.str o.2), y4, y5] ∧ Hc = H') ⟨_, _, rfl, rfl⟩ ?_ ?_ ?_
      · rintro j σ Hc _ ⟨y4, y5, rfl, rfl⟩
        exact SqT.of hb
      · rintro j x σ Hc H2 hj ⟨y4, y5, rfl, rfl⟩ ⟨rfl, hx⟩
        obtain ⟨k, hk, tk⟩ := ty.ow hx
        obtain ⟨c2, d2, rfl, hc2, hd2⟩ := tk.ow
        refine ⟨c2, _, rfl, SqT.of hc2, rfl, _, _, rfl, _, _, rfl, rfl, ?_⟩
        refine ⟨_, rfl, _, rfl, rfl, _, rfl, if2N (fun ne => ?_) fun _ => ⟨_, _, rfl, rfl⟩⟩
        have dj : disj o.1 k.1 := (tg o (mem_at ho) k (mem_at hk)).resolve_left fun e => ne (congrArg V.str e)
        refine ⟨_, rfl, _, rfl, _, _, o.1, k.1, rfl, Tp.bkI hd, Tp.bkI hd2, h1 o (mem_at ho), h2 k (mem_at hk), _, rfl, ?_⟩
        rw [decide_eq_true dj]
        exact iteF ⟨_, _, rfl, rfl⟩
      · rintro σ Hc ⟨y4, y5, rfl, rfl⟩
        exact ⟨_, _, _, _, rfl, rfl⟩
    · rintro σ Hc ⟨y2, y3, y4, y5, rfl, rfl⟩
      exact q
theorem ok_is_deal (T : Txt mg) (D : Def K mg "is_deal" s_is_deal) (g_is_bits : Ok P w K mg base 2 "is_bits" ["thing"] spBits) (g_are_owned : Ok P w K mg base 4 "are_owned" ["bits", "thing"] (spOwned K)) (g_go_together : Ok P w K mg base 3 "go_together" ["outs", "kept"] spTog) :
    Ok P w K mg base 5 "is_deal" ["thing"] (spIsDeal K) := by
  refine D.ok sc_is_deal (fun _ _ _ _ _ _ us hl => match us, hl with | [_], _ => rfl) (fun vs H Q E h => ?_) (fun f cdv A outer s H vs Q E hr h => ?_)
  · obtain ⟨v, n, outs, kept, rfl, _⟩ := h
    rfl
  · obtain ⟨v, n, outs, kept, rfl, hv, dl, q⟩ := h
    obtain ⟨a, x0, x1, x2, rfl, ha, t0, t1, t2⟩ := hv.three
    have e0 := t0.intD
    subst e0
    refine ⟨_, (pss_cons (ps_if (PW.pt (pw_or (pt_not (pt_val (pe_callB cr_isi (by rfl) T.isi (by decide +kernel) (pa_cons (pv 0) (pa_cons (pe_bltn (v := .ty "tuple") (by rfl) T.tuple (by decide +kernel) rfl) pa_nil))))) (pw_or (pt_cmp (pc_neI (pe_callB call_len_seq (by rfl) T.len (by decide +kernel) (pa_cons (pv 0) pa_nil)) pe_int)) (pw_or1 (pt_not (pt_val (cl g_is_bits hr (pa_cons (pe_ix ix_tup (pv 0) pe_int (fun _ _ => rfl)) pa_nil)))))))) (pss_one (ps_ret pe_bl)) pss_nil)
      (pss_cons (ps_if (PW.pt (pw_or (pt_not (pt_val (cl g_are_owned hr (pa_cons (pe_ix ix_tup (pv 0) pe_int (fun _ _ => rfl)) (pa_cons (pe_ix ix_tup (pv 0) pe_int (fun _ _ => rfl)) pa_nil))))) (pw_or1 (pt_not (pt_val (cl g_are_owned hr (pa_cons (pe_ix ix_tup (pv 0) pe_int (fun _ _ => rfl)) (pa_cons (pe_ix ix_tup (pv 0) pe_int (fun _ _ => rfl)) pa_nil)))))))) (pss_one (ps_ret pe_bl)) pss_nil)
      (pss_one (ps_ret (cl g_go_together hr (pa_cons (pe_ix ix_tup (pv 0) pe_int (fun _ _ => rfl)) (pa_cons (pe_ix ix_tup (pv 0) pe_int (fun _ _ => rfl)) pa_nil))))))), ?_⟩
    refine ⟨_, rfl, _, _, _, true, rfl, .tup ha, by decide +kernel, _, rfl, iteF ?_⟩
    refine ⟨_, rfl, a, _, rfl, .inr (SqT.of ha), _, _, rfl, rfl, _, rfl, iteF ?_⟩
    refine ⟨_, rfl, a, _, 0, _, rfl, rfl, SqT.of ha, atI_nat (j := 0) rfl, n, rfl, dl.n1, dl.n64, _, rfl, iteF ?_⟩
    refine ⟨_, rfl, a, _, 0, _, rfl, rfl, SqT.of ha, atI_nat (j := 0) rfl, _, rfl, a, _, 1, _, rfl, rfl, SqT.of ha, atI_nat (j := 1) rfl, n, x1, outs, rfl, t1, dl.n64, dl.oo, dl.om, dl.oa, dl.ol, fun H1 e1 => ⟨_, rfl, iteF ?_⟩⟩
    have ha1 := e1.tup ha
    refine ⟨_, rfl, a, _, 0, _, rfl, rfl, SqT.of ha1, atI_nat (j := 0) rfl, _, rfl, a, _, 2, _, rfl, rfl, SqT.of ha1, atI_nat (j := 2) rfl, n, x2, kept, rfl, e1.tp t2, dl.n64, dl.ko, dl.km, dl.ka, dl.kl, fun H2 e2 => ⟨_, rfl, iteF ?_⟩⟩
    have e12 := e1.trans e2
    have ha2 := e12.tup ha
    exact ⟨_, rfl, a, _, 1, _, rfl, rfl, SqT.of ha2, atI_nat (j := 1) rfl, _, rfl, a, _, 2, _, rfl, rfl, SqT.of ha2, atI_nat (j := 2) rfl, x1, x2, outs, kept, rfl, e12.tp t1, e12.tp t2, fun o h => (dl.oo o h).h900 dl.n64, fun o h => (dl.ko o h).h900 dl.n64, dl.tog, q _ e12⟩
theorem ok_kept_from (D : Def K mg "kept_from" s_kept_from) : Ok P w K mg base 1 "kept_from" ["deal", "name"] (spKeptFrom K) := by
  refine D.ok sc_kept_from (fun _ _ _ _ _ _ us hl => match us, hl with | [_, _], _ => rfl) (fun vs H Q E h => ?_) (fun f cdv A outer s H vs Q E hr h => ?_)
  · obtain ⟨v, nm, n, outs, kept, rfl, _⟩ := h
    rfl
  · obtain ⟨v, nm, n, outs, kept, rfl, hv, kl, q⟩ := h
    obtain ⟨a, x0, x1, x2, rfl, ha, t0, t1, t2⟩ := hv.three
    obtain ⟨b, ys, rfl, hb, ty⟩ := t2.osA
    have ly := ty.lenB
    refine ⟨_, (pss_one (ps_ret (pe_lc (own := [("block", 2), ("owner", 3)]) (g := gTup K 2 (gCons (gName 2) (gCons (gName 3) gNil))) rfl sc_kept_from.nd (pi_tup (pe_ix ix_tup (pv 0) pe_int (fun _ _ => rfl))) (blkOk_by (N := ["deal", "name", "block", "owner"]) (sc := defScope s_kept_from) (by decide +kernel)) (fun _ _ _ _ _ => (pg_tup rfl (pgs_cons (pg_name (i := 2) sc_kept_from.nd rfl (.inl rfl)) (pgs_cons (pg_name (i := 3) sc_kept_from.nd rfl (.inl rfl)) pgs_nil)))) (fun _ _ _ _ _ => pts_one (pt_cmpR op_ne (pv 3) (pv 1) (nomark _))) (fun _ _ _ _ _ => (pv 2))))), ?_⟩
    refine ⟨_, rfl, a, _, 2, _, rfl, rfl, SqT.of ha, atI_nat (j := 2) rfl, b, rfl, ⟨ys, SqT.of hb⟩, fun D hD => ?_⟩
    refine lcD (K := K) (L := []) (walk_tup (K := K) (a := b) (xs := ys)) (fun i ds _ => ds = (notN (kept.take i) nm).map bD) hD (by simp) (by omega) (fun _ _ => rfl) (fun _ _ _ _ h _ => h) (fun H e => SqT.of (e.tup hb)) ?_ ?_
    · rintro j ds z H4 H5 KP SK hj e4 rfl ⟨rfl, hz⟩ hK hS
      obtain ⟨o, ho, to⟩ := ty.ow hz
      obtain ⟨c, d, rfl, hc, hd⟩ := to.ow
      refine ⟨c, _, rfl, SqT.of (e4.tup hc), rfl, _, _, rfl, _, _, rfl, rfl, rfl, _, rfl, _, rfl, scalN _ _, _, rfl, ?_⟩
      rw [keepN_of nm o]
      have et : notN (kept.take (j + 1)) nm = notN (kept.take j) nm ++ blks ([o].filter (keepN nm)) := by
        unfold notN blks
        rw [take_snoc ho, List.filter_append, List.map_append]
      cases hk : keepN nm o with
      | true =>
        refine iteT ⟨_, rfl, hK _ _ (bD o.1) Ex.refl (e4.tp (Tp.bkI hd)) ?_⟩
        rw [et, List.map_append]
        simp [hk, blks]
      | false =>
        refine iteF (hS _ Ex.refl ?_)
        rw [et, List.map_append]
        simp [hk, blks]
    · rintro H2 ls ds e3 hD2 td hl rfl
      rw [ly, List.take_length] at td
      exact q _ _ _ e3 hD2 td
theorem ok_free_for (D : Def K mg "free_for" s_free_for) (g_kept_from : Ok P w K mg base 1 "kept_from" ["deal", "name"] (spKeptFrom K)) (g_rest_of : Ok P w K mg base 4 "rest_of" ["bits", "patch"] (spRest K)) (g_fewest : Ok P w K mg base 5 "fewest" ["blocks"] (spFewest K)) :
    Ok P w K mg base 6 "free_for" ["deal", "name"] (spFree K) := by
  refine D.ok sc_free_for (fun _ _ _ _ _ _ us hl => match us, hl with | [_, _], _ => rfl) (fun vs H Q E h => ?_) (fun f cdv A outer s H vs Q E hr h => ?_)
  · obtain ⟨v, nm, n, outs, kept, rfl, _⟩ := h
    rfl
  · obtain ⟨v, nm, n, outs, kept, rfl, hv, dl, tb, q⟩ := h
    obtain ⟨a, x0, x1, x2, rfl, ha, t0, t1, t2⟩ := hv.three
    obtain ⟨b, ys, rfl, hb, ty⟩ := t1.osA
    have e0 := t0.intD
    subst e0
    have ly := ty.lenB
    have ol := dl.ol
    have kl := dl.kl
    refine ⟨_, (pss_cons (ps_set (i := 2) sc_free_for.nd rfl (.inl rfl) (pe_op op_catD (pe_lc (own := [("block", 3), ("owner", 4)]) (g := gTup K 2 (gCons (gName 3) (gCons (gName 4) gNil))) (tt := tYes) rfl sc_free_for.nd (pi_tup (pe_ix ix_tup (pv 0) pe_int (fun _ _ => rfl))) (blkOk_by (N := ["deal", "name", "taken", "block", "owner"]) (sc := defScope s_free_for) (by decide +kernel)) (fun _ _ _ _ _ => (pg_tup rfl (pgs_cons (pg_name (i := 3) sc_free_for.nd rfl (.inl rfl)) (pgs_cons (pg_name (i := 4) sc_free_for.nd rfl (.inl rfl)) pgs_nil)))) (fun _ _ _ _ _ => pts_nil) (fun _ _ _ _ _ => (pv 3))) (cl g_kept_from hr (pa_cons (pv 0) (pa_cons (pv 1) pa_nil)))))
      (pss_one (ps_ret (cl g_rest_of hr (pa_cons (pe_ix ix_tup (pv 0) pe_int (fun _ _ => rfl)) (pa_cons (cl g_fewest hr (pa_cons (pv 2) pa_nil)) pa_nil)))))), ?_⟩
    refine ⟨_, rfl, a, _, 1, _, rfl, rfl, SqT.of ha, atI_nat (j := 1) rfl, b, rfl, ⟨ys, SqT.of hb⟩, fun D hD => ?_⟩
    refine lcY (K := K) (L := []) (walk_tup (K := K) (a := b) (xs := ys)) (fun i ds _ => ds = (blks (outs.take i)).map bD) hD (by simp) (by omega) (fun _ _ => rfl) (fun _ _ _ _ h _ => h) (fun H e => SqT.of (e.tup hb)) ?_ ?_
    · rintro i ds x H2 H3 KP hi e3 rfl ⟨rfl, hx⟩ hK
      obtain ⟨o, ho, to⟩ := ty.ow hx
      obtain ⟨c, d, rfl, hc, hd⟩ := to.ow
      refine ⟨c, _, rfl, SqT.of (e3.tup hc), rfl, _, _, rfl, _, _, rfl, rfl, rfl, _, rfl, ?_⟩
      exact hK _ _ (bD o.1) Ex.refl (e3.tp (Tp.bkI hd)) (by rw [blks_take ho, List.map_append]; rfl)
    · rintro H2 ls ds e2 hD2 td hl rfl
      rw [ly, List.take_length] at td
      have nl := notN_len kept nm
      refine ⟨_, rfl, _, rfl, .ref a, nm, n, outs, kept, rfl, e2.tp hv, by omega, fun H3 p xs e3 hp tp => ?_⟩
      refine ⟨D, p, ls, xs, _, _, rfl, rfl, e3.lst0 hD2, hp, e3.tpA td, tp, by rw [List.length_map, List.length_map, blks_len]; omega, fun H4 p4 e4 _ h4 t4 => ?_⟩
      rw [← List.map_append] at t4
      have e24 := (e2.trans e3).trans e4
      have ha4 := e24.tup ha
      refine ⟨_, rfl, a, _, 0, _, rfl, rfl, SqT.of ha4, atI_nat (j := 0) rfl, _, rfl, p4, _, n, blks outs ++ notN kept nm, rfl, .inl h4, t4, dl.n64, fun b hb => ?_, by rw [List.length_append, blks_len]; omega, e24.tab tb, fun H5 u5 fs e5 t5 fw l5 => ?_⟩
      · rcases List.mem_append.mp hb with h | h
        · obtain ⟨o, hm, rfl⟩ := List.mem_map.mp h
          exact dl.oo o hm
        · obtain ⟨o, hm, _, rfl⟩ := notN_mem.mp h
          exact dl.ko o hm
      · rw [List.length_append, blks_len] at l5
        refine ⟨n, u5, fs, rfl, t5, dl.n64, fw.ap, fw.ok, by omega, fun H6 u6 gs e6 t6 gw l6 => q H6 u6 gs ((e24.trans e5).trans e6) t6 (gw.iff fun x => ?_) (by omega)⟩
        show _ ↔ freeS n outs kept nm x
        unfold freeS
        rw [fw.cov]
theorem ok_out_to (D : Def K mg "out_to" s_out_to) (g_fewest : Ok P w K mg base 5 "fewest" ["blocks"] (spFewest K)) : Ok P w K mg base 6 "out_to" ["deal", "name"] (spOut K) := by
  refine D.ok sc_out_to (fun _ _ _ _ _ _ us hl => match us, hl with | [_, _], _ => rfl) (fun vs H Q E h => ?_) (fun f cdv A outer s H vs Q E hr h => ?_)
  · obtain ⟨v, nm, n, outs, kept, rfl, _⟩ := h
    rfl
  · obtain ⟨v, nm, n, outs, kept, rfl, hv, dl, tb, q⟩ := h
    obtain ⟨a, x0, x1, x2, rfl, ha, t0, t1, t2⟩ := hv.three
    obtain ⟨b, ys, rfl, hb, ty⟩ := t1.osA
    have ly := ty.lenB
    have ol := dl.ol
    refine ⟨_, (pss_one (ps_ret (cl g_fewest hr (pa_cons (pe_lc (own := [("block", 2), ("owner", 3)]) (g := gTup K 2 (gCons (gName 2) (gCons (gName 3) gNil))) rfl sc_out_to.nd (pi_tup (pe_ix ix_tup (pv 0) pe_int (fun _ _ => rfl))) (blkOk_by (N := ["deal", "name", "block", "owner"]) (sc := defScope s_out_to) (by decide +kernel)) (fun _ _ _ _ _ => (pg_tup rfl (pgs_cons (pg_name (i := 2) sc_out_to.nd rfl (.inl rfl)) (pgs_cons (pg_name (i := 3) sc_out_to.nd rfl (.inl rfl)) pgs_nil)))) (fun _ _ _ _ _ => pts_one (pt_cmpR op_eq (pv 3) (pv 1) (nomark _))) (fun _ _ _ _ _ => (pv 2))) pa_nil)))), ?_⟩
    refine ⟨_, rfl, a, _, 1, _, rfl, rfl, SqT.of ha, atI_nat (j := 1) rfl, b, rfl, ⟨ys, SqT.of hb⟩, fun D hD => ?_⟩
    refine lcD (K := K) (L := []) (walk_tup (K := K) (a := b) (xs := ys)) (fun i ds _ => ds = (ofN (outs.take i) nm).map bD) hD (by simp) (by omega) (fun _ _ => rfl) (fun _ _ _ _ h _ => h) (fun H e => SqT.of (e.tup hb)) ?_ ?_
    · rintro j ds z H4 H5 KP SK hj e4 rfl ⟨rfl, hz⟩ hK hS
      obtain ⟨o, ho, to⟩ := ty.ow hz
      obtain ⟨c, d, rfl, hc, hd⟩ := to.ow
      refine ⟨c, _, rfl, SqT.of (e4.tup hc), rfl, _, _, rfl, _, _, rfl, rfl, rfl, _, rfl, _, rfl, rfl, _, rfl, ?_⟩
      have et : ofN (outs.take (j + 1)) nm = ofN (outs.take j) nm ++ blks ([o].filter fun o => decide (o.2 = nm)) := by
        unfold ofN blks
        rw [take_snoc ho, List.filter_append, List.map_append]
      refine if2 (fun hk => ⟨_, rfl, hK _ _ (bD o.1) Ex.refl (e4.tp (Tp.bkI hd)) ?_⟩) fun hk => hS _ Ex.refl ?_
      · have hk : o.2 = nm := V.str.inj hk
        rw [et, List.map_append]
        simp [hk, blks]
      · have hk : ¬ o.2 = nm := fun e => hk (congrArg V.str e)
        rw [et, List.map_append]
        simp [hk, blks]
    · rintro H2 ls ds e2 hD2 td hl rfl
      rw [ly, List.take_length] at td
      have nl := ofN_len outs nm
      refine ⟨D, ls, n, ofN outs nm, rfl, .inl hD2, td, dl.n64, fun b hb => ?_, by omega, e2.tab tb, fun H5 u5 fs e5 t5 fw l5 => q _ _ _ (e2.trans e5) t5 fw (by omega)⟩
      obtain ⟨o, hm, _, rfl⟩ := ofN_mem.mp hb
      exact dl.oo o hm
theorem ok_holder (D : Def K mg "holder" s_holder) (g_end_of : Ok P w K mg base 1 "end_of" ["block"] spEnd) (g_block_with : Ok P w K mg base 2 "block_with" ["patch", "address"] spBlockWith) (g_free_for : Ok P w K mg base 6 "free_for" ["deal", "name"] (spFree K)) :
    Ok P w K mg base 7 "holder" ["deal", "address"] (spHolder K) := by
  refine D.ok sc_holder (fun _ _ _ _ _ _ us hl => match us, hl with | [_, _], _ => rfl) (fun vs H Q E h => ?_) (fun f cdv A outer s H vs Q E hr h => ?_)
  · obtain ⟨v, x, n, outs, kept, rfl, _⟩ := h
    rfl
  · obtain ⟨v, x, n, outs, kept, rfl, hv, dl, tb, hx, q⟩ := h
    obtain ⟨a, x0, x1, x2, rfl, ha, t0, t1, t2⟩ := hv.three
    obtain ⟨b1, ys1, rfl, hb1, ty1⟩ := t1.osA
    obtain ⟨b2, ys2, rfl, hb2, ty2⟩ := t2.osA
    refine ⟨_, (pss_cons (ps_for PassesOwn.never rfl (pi_tup (pe_tupD (pa_cons (pe_tupD (pa_cons pe_str (pa_cons (pe_ix ix_tup (pv 0) pe_int (fun _ _ => rfl)) pa_nil))) (pa_cons (pe_tupD (pa_cons pe_str (pa_cons (pe_ix ix_tup (pv 0) pe_int (fun _ _ => rfl)) pa_nil))) pa_nil)))) (pg_tup rfl (pgs_cons (pg_name (i := 2) sc_holder.nd rfl (.inl rfl)) (pgs_cons (pg_name (i := 3) sc_holder.nd rfl (.inl rfl)) pgs_nil)))
        (pss_one (ps_for PassesOwn.never rfl (pi_tup (pv 3)) (pg_tup rfl (pgs_cons (pg_name (i := 4) sc_holder.nd rfl (.inl rfl)) (pgs_cons (pg_name (i := 5) sc_holder.nd rfl (.inl rfl)) pgs_nil)))
          (pss_one (ps_if (pt_chain op_le op_lt (pe_at0 (pv 4)) (pv 1) (cl g_end_of hr (pa_cons (pv 4) pa_nil))) (pss_one (ps_ret (pe_tupD (pa_cons (pv 2) (pa_cons (pv 5) (pa_cons (pv 4) pa_nil)))))) pss_nil)))))
      (pss_one (ps_ret (pe_tupD (pa_cons pe_str (pa_cons pe_non (pa_cons (cl g_block_with hr (pa_cons (cl g_free_for hr (pa_cons (pv 0) (pa_cons pe_non pa_nil))) (pa_cons (pv 1) pa_nil))) pa_nil))))))), ?_⟩
    refine ⟨_, rfl, a, _, 1, _, rfl, rfl, SqT.of ha, atI_nat (j := 1) rfl, [.str "out", osD outs], .cons (.str _) (.cons t1 .nil), n1000, fun H1 u1 e1 w1 => ?_⟩
    have ha1 := e1.tup ha
    refine ⟨_, rfl, a, _, 2, _, rfl, rfl, SqT.of ha1, atI_nat (j := 2) rfl, [.str "kept", osD kept], .cons (.str _) (.cons (e1.tp t2) .nil), n1000, fun H2 u2 e2 w2 => ?_⟩
    refine ⟨[.tuple [.str "out", osD outs], .tuple [.str "kept", osD kept]], .cons (e2.tp w1) (.cons w2 .nil), n1000, fun H3 u3 e3 w3 => ?_⟩
    have e13 := (e1.trans e2).trans e3
    obtain ⟨c, zs, rfl, hc, tz⟩ := w3.tupD
    refine ⟨c, rfl, ⟨zs, SqT.of hc⟩, ?_⟩
    have hlen : zs.length = 2 := tz.len
    refine for_it (walk_tup (K := K) (a := c) (xs := zs)) (fun i σ Hc => ∃ (y2 y3 y4 y5 : Option V), σ = [some (.ref a), some (.int (x : Nat)), y2, y3, y4, y5] ∧ Hc = H3 ∧ (1 ≤ i → ∀ o ∈ outs, ¬ inB x o.1) ∧ (2 ≤ i → ∀ o ∈ kept, ¬ inB x o.1)) ⟨none, none, none, none, rfl, rfl, fun h => by omega, fun h => by omega⟩ ?_ ?_ ?_
    · rintro i σ Hc _ ⟨y2, y3, y4, y5, rfl, rfl, _⟩
      exact SqT.of hc
    · rintro i z σ Hc H' hi ⟨y2, y3, y4, y5, rfl, rfl, no1, no2⟩ ⟨rfl, hz⟩
      obtain ⟨d, hd, tzd⟩ := tz.at hz
      have key : ∃ (word : Str) (os : List O), d = .tuple [.str word, osD os] ∧ (∀ o ∈ os, Okb n o.1) ∧ (∀ o ∈ os, inB x o.1 → HoldR n outs kept x word (some o.2) o.1) ∧
          ((∀ o ∈ os, ¬ inB x o.1) → (1 ≤ i + 1 → ∀ o ∈ outs, ¬ inB x o.1) ∧ (2 ≤ i + 1 → ∀ o ∈ kept, ¬ inB x o.1)) := by
        rcases (show i = 0 ∨ i = 1 by omega) with rfl | rfl
        · refine ⟨"out", outs, (Option.some.inj hd).symm, dl.oo, fun o ho hx => ⟨hx, .inl ⟨rfl, o.2, rfl, ho⟩⟩, fun h => ⟨fun _ => h, fun h => by omega⟩⟩
        · refine ⟨"kept", kept, (Option.some.inj hd).symm, dl.ko, fun o ho hx => ⟨hx, .inr ⟨no1 (by omega), .inl ⟨rfl, o.2, rfl, ho⟩⟩⟩, fun h => ⟨fun _ => no1 (by omega), fun _ => h⟩⟩
      obtain ⟨word, os, rfl, oos, hyes, hno⟩ := key
      obtain ⟨c1, p1, p2, rfl, hc1, tp1, tp2⟩ := tzd.two
      have ep := tp1.strD
      subst ep
      obtain ⟨b, ys, rfl, hb, ty⟩ := tp2.osA
      have ly := ty.lenB
      refine ⟨c1, _, rfl, SqT.of hc1, rfl, _, _, rfl, _, _, rfl, rfl, ?_⟩
      refine ⟨_, rfl, b, rfl, ⟨ys, SqT.of hb⟩, ?_⟩
      refine for_it (walk_tup (K := K) (a := b) (xs := ys)) (fun j σ Hc => ∃ (y4 y5 : Option V), σ = [some (.ref a), some (.int (x : Nat)), some (.str word), some (.ref b), y4, y5] ∧ Hc = H' ∧ ∀ o ∈ os.take j, ¬ inB x o.1) ⟨_, _, rfl, rfl, fun b hb => (by cases hb)⟩ ?_ ?_ ?_
      · rintro j σ Hc _ ⟨y4, y5, rfl, rfl, _⟩
        exact SqT.of hb
      · rintro j y σ Hc H2 hj ⟨y4, y5, rfl, rfl, no⟩ ⟨rfl, hy⟩
        obtain ⟨o, ho, to⟩ := ty.ow hy
        obtain ⟨c2, d2, rfl, hc2, hd2⟩ := to.ow
        have nxt : ¬ inB x o.1 → ∀ k ∈ os.take (j + 1), ¬ inB x k.1 := fun z k hk => by
          rw [take_snoc ho] at hk
          rcases List.mem_append.mp hk with h | h
          · exact no k h
          · rw [List.mem_singleton.mp h]
            exact z
        refine ⟨c2, _, rfl, SqT.of hc2, rfl, _, _, rfl, _, _, rfl, rfl, ?_⟩
        have tb0 := Tp.bkI (H := H2) (b := o.1) hd2
        refine ⟨_, rfl, o.1, tb0, _, rfl, _, _, rfl, rfl, _, rfl, if2 (fun z1 => ?_) fun z1 => ?_⟩
        · refine ⟨_, rfl, _, o.1, rfl, tb0, (oos o (mem_at ho)).h900 dl.n64, _, _, rfl, rfl, _, rfl, if2 (fun z2 => ?_) fun z2 => ?_⟩
          · refine ⟨_, rfl, _, rfl, _, rfl, [.str word, .str o.2, bD o.1], .cons (.str _) (.cons (.str _) (.cons tb0 .nil)), n1000, fun H5 u5 e5 t5 => ?_⟩
            exact q H5 u5 word (some o.2) o.1 (e13.trans e5) t5 (hyes o (mem_at ho) ⟨by omega, by omega⟩)
          · exact ⟨_, _, rfl, rfl, nxt fun z => z2 (by have := z.2; omega)⟩
        · exact ⟨_, rfl, iteF ⟨_, _, rfl, rfl, nxt fun z => z1 (by have := z.1; omega)⟩⟩
      · rintro σ Hc ⟨y4, y5, rfl, rfl, no⟩
        rw [ly, List.take_length] at no
        obtain ⟨n1, n2⟩ := hno no
        exact ⟨_, _, _, _, rfl, rfl, n1, n2⟩
    · rintro σ Hc ⟨y2, y3, y4, y5, rfl, rfl, no1, no2⟩
      have n1 := no1 (by omega)
      have n2 := no2 (by omega)
      refine ⟨_, rfl, .ref a, none, n, outs, kept, rfl, e13.tp hv, dl, e13.tab tb, fun H5 u5 fs e5 t5 fw l5 => ?_⟩
      have hcv : cov fs x := (fw.cov x).mpr ⟨hx, fun h => by
        rcases cov_app.mp h with ⟨b, hb, hi⟩ | ⟨b, hb, hi⟩
        · obtain ⟨o, hm, rfl⟩ := List.mem_map.mp hb
          exact n1 o hm hi
        · obtain ⟨o, hm, _, rfl⟩ := notN_mem.mp hb
          exact n2 o hm hi⟩
      refine ⟨_, rfl, u5, x, fs, rfl, t5, fun b hb => (fw.ok b hb).h900 dl.n64, fun b u hb hi tu => ?_, fun h => ?_⟩
      · refine ⟨[.str "free", .none, bD b], .cons (.str _) (.cons .non (.cons tu .nil)), n1000, fun H6 u6 e6 t6 => ?_⟩
        exact q H6 u6 "free" none b ((e13.trans e5).trans e6) t6 ⟨hi, .inr ⟨n1, .inr ⟨rfl, rfl, fs, fw, hb⟩⟩⟩
      · obtain ⟨b, hb, hi⟩ := hcv
        exact absurd hi (h b hb)
end
end K54
end
section
set_option Elab.async false
set_option linter.all false
set_option maxRecDepth 100000
set_option maxHeartbeats 4000000
/-! The law's hand: hand, take, pick, bits, block. -/
namespace K54
open PySem PySem.Spec PyProof.Rows L2
/-- the hand at l, with at most t turns so far -/
def Hand (H : Hp) (l : Addr) (t : Nat) : Prop := ∃ (a b : Int) (t0 : Nat), H l = some (.lst [.int a, .int b, .int (t0 : Nat)]) ∧ 0 ≤ a ∧ 0 ≤ b ∧ b < 2 ^ 62 ∧ t0 ≤ t
theorem Hand.mono {H : Hp} {l : Addr} {t t' : Nat} (h : Hand H l t) (e : t ≤ t') : Hand H l t' := by
  obtain ⟨a, b, t0, h1, h2, h3, h4, h5⟩ := h
  exact ⟨a, b, t0, h1, h2, h3, h4, Nat.le_trans h5 e⟩
theorem Hand.is {H : Hp} {l : Addr} {t : Nat} (h : Hand H l t) : ∃ xs, H l = some (.lst xs) := by
  obtain ⟨a, b, t0, h1, _⟩ := h
  exact ⟨_, h1⟩
theorem Hand.go {K : PySem.W.Frag} {L : List Addr} {H H' : Hp} {l : Addr} {t : Nat} (h : Hand H l t) (e : Ex K L H H') (hl : l ∉ L) : Hand H' l t := by
  obtain ⟨a, b, t0, h1, h2⟩ := h
  exact ⟨a, b, t0, e.lst hl h1, h2⟩
theorem Hand.go0 {K : PySem.W.Frag} {H H' : Hp} {l : Addr} {t : Nat} (h : Hand H l t) (e : Ex K [] H H') : Hand H' l t := h.go e (by simp)
theorem Hand.ne {H : Hp} {l p : Addr} {t : Nat} (h : Hand H l t) (hp : H p = none) : p ≠ l := by
  obtain ⟨xs, e⟩ := h.is
  exact (ne_of_none e hp).symm
theorem Hand.hL {H : Hp} {l : Addr} {t : Nat} (h : Hand H l t) : ∀ a ∈ [l], ∃ xs, H a = some (.lst xs) := fun a ha => by
  rw [List.mem_singleton.mp ha]
  exact h.is
theorem Hand.ex {K : PySem.W.Frag} {H H' : Hp} {l : Addr} {t : Nat} (h : Hand H l t) (e : Ex K [] H H') : Ex K [l] H H' := (Ex.reflLs h.hL).thenL e
theorem Hand.refl {K : PySem.W.Frag} {H : Hp} {l : Addr} {t : Nat} (h : Hand H l t) : Ex K [l] H H := Ex.reflLs h.hL
theorem notin1 {p l : Addr} (h : p ≠ l) : p ∉ [l] := fun m => h (List.mem_singleton.mp m)
theorem mid2 {A : Prop} {N : L2.St → Hp → Prop} {σ : L2.St} {H : Hp} {b : Bool} (I : L2.St → Hp → Prop) (hN : ∀ σ' H', I σ' H' → N σ' H') (h : (∀ σ' H', I σ' H' → N σ' H') → (if b = true then A else N σ H)) : if b = true then A else N σ H := h hN
def spHand (K : PySem.W.Frag) : Sp := fun vs H Q _ => ∃ (a : Addr) (ns : List Int) (k : Nat), vs = [.ref a, .int (k : Nat)] ∧ SqL K H a (ns.map V.int) ∧ ns.length ≤ sizeLine ∧ k ≤ 1000 ∧ ∀ H' p, Ex K [] H H' → H p = none → Hand H' p 0 → Q (.ref p) H'
def spTake (K : PySem.W.Frag) : Sp := fun vs H Q _ => ∃ (l : Addr) (t m : Nat), vs = [.ref l, .int (m : Nat)] ∧ Hand H l t ∧ t ≤ 100000 ∧ 1 ≤ m ∧ m ≤ 2 ^ 64 ∧ ∀ H' d, Ex K [l] H H' → Hand H' l (t + 1) → d < m → Q (.int (d : Nat)) H'
def spPick (K : PySem.W.Frag) : Sp := fun vs H Q _ => ∃ (l p : Addr) (t : Nat) (xs : List V), vs = [.ref l, .ref p] ∧ Hand H l t ∧ t ≤ 100000 ∧ H p = some (.lst xs) ∧ p ≠ l ∧ 1 ≤ xs.length ∧ xs.length ≤ 100000 ∧
  ∀ (H' : Hp) (i : Nat) (x : V), Ex K [l] H H' → Hand H' l (t + 1) → xs[i]? = some x → Q x H'
def spLBits (K : PySem.W.Frag) : Sp := fun vs H Q _ => ∃ (l : Addr) (t : Nat), vs = [.ref l] ∧ Hand H l t ∧ t ≤ 100000 ∧ ∀ H' n, Ex K [l] H H' → Hand H' l (t + 1) → 1 ≤ n → n ≤ 64 → Q (.int (n : Nat)) H'
def spLBlock (K : PySem.W.Frag) : Sp := fun vs H Q _ => ∃ (l : Addr) (t n : Nat), vs = [.ref l, .int (n : Nat)] ∧ Hand H l t ∧ t ≤ 90000 ∧ 1 ≤ n ∧ n ≤ 64 ∧ ∀ H' u b, Ex K [l] H H' → Hand H' l (t + 3) → Tp H' u (bD b) → Okb n b → Q u H'
section
variable {P : Program} {w : World} {K : PySem.W.Frag} {mg : Str → Option Value} {base : Heap}
theorem ok_l_take (T : Txt mg) (D : Def K mg "_law_take" s_l_take) : Ok P w K mg base 1 "_law_take" ["_law_hand_here", "_law_many"] (spTake K) := by
  refine D.ok sc_l_take (fun _ _ _ _ _ _ us hl => match us, hl with | [_, _], _ => rfl) (fun vs H Q E h => ?_) (fun f cdv A outer s H vs Q E hr h => ?_)
  · obtain ⟨l, t, m, rfl, _⟩ := h
    rfl
  · obtain ⟨l, t, m, rfl, ⟨a, b, t0, hl, a0, b0, b62, ht⟩, t5, m1, m64, q⟩ := h
    refine ⟨_, (pss_cons (ps_if (pt_cmp (pc_gt (pe_ix ix_list (pv 0) pe_int (fun _ _ => rfl)) pe_int)) (pss_cons (ps_set (i := 5) sc_l_take.nd rfl (.inl rfl) (pe_op op_mod (pe_ix ix_list (pv 0) pe_int (fun _ _ => rfl)) (pv 1)))
        (pss_cons (ps_asg (pe_op op_fdivW (pe_ix ix_list (pv 0) pe_int (fun _ _ => rfl)) (pv 1)) (pg_sub (pv 0) pe_int set_list))
        (pss_one (ps_ret (pv 5))))) pss_nil)
      (pss_cons (ps_asg (pe_op op_add (pe_ix ix_list (pv 0) pe_int (fun _ _ => rfl)) pe_int) (pg_sub (pv 0) pe_int set_list))
      (pss_cons (ps_set (i := 2) sc_l_take.nd rfl (.inl rfl) (pe_ix ix_list (pv 0) pe_int (fun _ _ => rfl)))
      (pss_cons (ps_set (i := 3) sc_l_take.nd rfl (.inl rfl) (pe_op op_mod (pe_op op_mul (pe_ix ix_list (pv 0) pe_int (fun _ _ => rfl)) (pe_op op_add (pe_op op_add pe_int (pe_op op_mul (pe_op op_mul pe_int (pv 2)) (pv 2))) (pe_op op_mul pe_int (pv 2)))) pe_int))
      (pss_cons (ps_set (i := 4) sc_l_take.nd rfl (.inl rfl) (pe_op op_add (pe_op op_add (pe_op op_mod (pv 3) pe_int) (pe_op op_mul (pv 2) pe_int)) pe_int))
      (pss_cons (ps_set (i := 3) sc_l_take.nd rfl (.inl rfl) (pe_op op_mod (pe_op op_mul (pv 3) (pv 4)) pe_int))
      (pss_one (ps_ret (pe_op op_mod (pe_op op_add (pe_op op_fdivW (pv 3) pe_int) (pe_op op_fdivW (pv 3) pe_int)) (pv 1)))))))))), ?_⟩
    refine ⟨_, rfl, l, _, 0, _, rfl, rfl, SqL.of hl, atI_nat (j := 0) rfl, _, _, rfl, rfl, _, rfl, if2 (fun c => ?_) fun c => ?_⟩
    · have hlog : (((m : Nat) : Int)).natAbs.log2 < 9000 := PySem.Flt.log2_lt_of (by decide) (Nat.lt_of_le_of_lt (show ((m : Nat) : Int).natAbs ≤ 2 ^ 64 by omega) (Nat.pow_lt_pow_right (by decide) (by decide)))
      refine ⟨_, rfl, l, _, 0, _, rfl, rfl, SqL.of hl, atI_nat (j := 0) rfl, _, rfl, _, _, rfl, rfl, by show (0 : Int) < (m : Nat); omega, ?_⟩
      refine ⟨_, rfl, l, _, 0, _, rfl, rfl, SqL.of hl, atI_nat (j := 0) rfl, _, rfl, _, _, rfl, rfl, ⟨by omega, hlog⟩, ?_⟩
      refine ⟨_, rfl, l, _, 0, 0, rfl, rfl, hl, rfl, ?_⟩
      have hm0 : 0 ≤ a % ((m : Nat) : Int) := Int.emod_nonneg _ (by omega)
      have hm1 : a % ((m : Nat) : Int) < ((m : Nat) : Int) := Int.emod_lt_of_pos _ (by omega)
      refine ⟨_, rfl, ?_⟩
      have z := q (upd H l (.lst [.int (a / ((m : Nat) : Int)), .int b, .int (t0 : Nat)])) (a % ((m : Nat) : Int)).toNat (Ex.put hl) ⟨_, b, t0, upd_same, Int.ediv_nonneg a0 (by omega), b0, b62, by omega⟩ (by omega)
      rw [Int.toNat_of_nonneg hm0] at z
      exact z
    · refine ⟨_, rfl, l, _, 2, _, rfl, rfl, SqL.of hl, atI_nat (j := 2) rfl, _, _, rfl, rfl, ?_⟩
      refine ⟨_, rfl, l, _, 2, 2, rfl, rfl, hl, rfl, ?_⟩
      have hl2 : (upd H l (.lst [.int a, .int b, .int (((t0 : Nat) : Int) + 1)])) l = some (.lst [.int a, .int b, .int (((t0 : Nat) : Int) + 1)]) := upd_same
      refine ⟨_, rfl, l, _, 2, _, rfl, rfl, SqL.of hl2, atI_nat (j := 2) rfl, ?_⟩
      refine ⟨_, rfl, l, _, 1, _, rfl, rfl, SqL.of hl2, atI_nat (j := 1) rfl, ?_⟩
      refine ⟨_, rfl, _, _, rfl, rfl, .inl ⟨by decide, by decide⟩, ?_⟩
      refine ⟨_, rfl, _, _, rfl, rfl, .inl ⟨by omega, by omega⟩, ?_⟩
      refine ⟨_, _, rfl, rfl, ?_⟩
      refine ⟨_, rfl, _, _, rfl, rfl, .inl ⟨by decide, by decide⟩, ?_⟩
      refine ⟨_, _, rfl, rfl, ?_⟩
      refine ⟨_, _, rfl, rfl, .inl ⟨by omega, by omega⟩, ?_⟩
      refine ⟨_, _, rfl, rfl, (show (0 : Int) < 2305843009213693921 by decide), ?_⟩
      have x0 : ∀ z : Int, -(2 ^ 64) < z % 2305843009213693921 ∧ z % 2305843009213693921 < 2 ^ 64 := fun z => by omega
      refine ⟨_, rfl, _, _, rfl, rfl, (show (0 : Int) < 1000003 by decide), ?_⟩
      refine ⟨_, rfl, _, _, rfl, rfl, .inl ⟨by omega, by omega⟩, ?_⟩
      refine ⟨_, _, rfl, rfl, ?_⟩
      refine ⟨_, _, rfl, rfl, ?_⟩
      refine ⟨_, rfl, _, rfl, _, _, rfl, rfl, .inl (x0 _), ?_⟩
      refine ⟨_, _, rfl, rfl, (show (0 : Int) < _ by decide), ?_⟩
      have y0 : ∀ z : Int, 0 ≤ (z % 2305843009213693907) / 97 + (z % 2305843009213693907) / 1000033 := fun z => by omega
      refine ⟨_, rfl, _, _, rfl, rfl, ⟨by decide, by decide⟩, ?_⟩
      refine ⟨_, rfl, _, _, rfl, rfl, ⟨by decide, by decide⟩, ?_⟩
      refine ⟨_, _, rfl, rfl, ?_⟩
      refine ⟨_, rfl, _, _, rfl, rfl, by show (0 : Int) < (m : Nat); omega, ?_⟩
      generalize hz : b * (48271 + 2 * (((t0 : Nat) : Int) + 1) * (((t0 : Nat) : Int) + 1) + 65537 * (((t0 : Nat) : Int) + 1)) % 2305843009213693921 * (b * (48271 + 2 * (((t0 : Nat) : Int) + 1) * (((t0 : Nat) : Int) + 1) + 65537 * (((t0 : Nat) : Int) + 1)) % 2305843009213693921 % 1000003 + (((t0 : Nat) : Int) + 1) * 99991 + 11) = z at *
      have hm0 : 0 ≤ ((z % 2305843009213693907) / 97 + (z % 2305843009213693907) / 1000033) % ((m : Nat) : Int) := Int.emod_nonneg _ (by omega)
      have hm1 : ((z % 2305843009213693907) / 97 + (z % 2305843009213693907) / 1000033) % ((m : Nat) : Int) < ((m : Nat) : Int) := Int.emod_lt_of_pos _ (by omega)
      have u := q (upd H l (.lst [.int a, .int b, .int (((t0 : Nat) : Int) + 1)])) (((z % 2305843009213693907) / 97 + (z % 2305843009213693907) / 1000033) % ((m : Nat) : Int)).toNat (Ex.put hl) ⟨a, b, t0 + 1, hl2, a0, b0, b62, by omega⟩ (by omega)
      rw [Int.toNat_of_nonneg hm0] at u
      exact u
theorem ok_l_hand (T : Txt mg) (D : Def K mg "_law_hand" s_l_hand) : Ok P w K mg base 1 "_law_hand" ["_law_script", "_law_k"] (spHand K) := by
  refine D.ok sc_l_hand (fun _ _ _ _ _ _ us hl => match us, hl with | [_, _], _ => rfl) (fun vs H Q E h => ?_) (fun f cdv A outer s H vs Q E hr h => ?_)
  · obtain ⟨a, ns, k, rfl, _⟩ := h
    rfl
  · obtain ⟨a, ns, k, rfl, ha, hz, hk, q⟩ := h
    refine ⟨_, (pss_cons (ps_set (i := 2) sc_l_hand.nd rfl (.inl rfl) pe_int)
      (pss_cons (ps_if (pt_cmp (pc_lt (pv 1) (pe_callB call_len_seq (by rfl) T.len (by decide +kernel) (pa_cons (pv 0) pa_nil)))) (pss_one (ps_set (i := 2) sc_l_hand.nd rfl (.inl rfl) (pe_ix ix_list (pv 0) (pv 1) (fun _ _ => rfl)))) pss_nil)
      (pss_one (ps_ret (pe_lstD (pa_cons (pe_op op_mul (pv 2) (pe_callTy call_int1 (by rfl) T.int (by decide +kernel) (pa_cons (pe_cmp (pc_ge (pv 2) (pe_op op_pow pe_int pe_int))) pa_nil))) (pa_cons (pe_op op_add (pe_op op_add (pe_op op_mod (pv 2) pe_int) (pe_op op_mul pe_int (pv 1))) pe_int) (pa_cons pe_int pa_nil)))))))), ?_⟩
    refine ⟨_, rfl, _, rfl, a, _, rfl, .inl ha, _, _, rfl, rfl, _, rfl, ?_⟩
    refine mid2 (I := fun σ Hc => ∃ c : Int, σ = [some (.ref a), some (.int (k : Nat)), some (.int c)] ∧ Hc = H) ?_ fun key => if2 (fun c1 => ?_) fun _ => key _ _ ⟨0, rfl, rfl⟩
    · rintro σ Hc ⟨c, rfl, rfl⟩
      refine ⟨_, rfl, _, rfl, _, _, rfl, rfl, ⟨by decide, by decide, by decide⟩, ?_⟩
      refine ⟨_, _, rfl, rfl, .inr ⟨_, rfl, ?_⟩⟩
      refine ⟨_, _, rfl, rfl, .inr ?_, ?_⟩
      · split <;> exact ⟨by decide, by decide⟩
      refine ⟨_, rfl, _, _, rfl, rfl, (show (0 : Int) < 2305843009213693951 by decide), ?_⟩
      refine ⟨_, rfl, _, _, rfl, rfl, .inl ⟨by decide, by decide⟩, ?_⟩
      refine ⟨_, _, rfl, rfl, ?_⟩
      refine ⟨_, _, rfl, rfl, ?_⟩
      refine ⟨[.int _, .int _, .int _], .cons (.int _) (.cons (.int _) (.cons (.int _) .nil)), n1000, fun H1 p e1 hn hp _ => ?_⟩
      refine q H1 p e1 hn ⟨_, _, 0, hp, ?_, ?_, ?_, Nat.le_refl _⟩
      · show 0 ≤ c * (if decide ((10 : Int) ^ 18 ≤ c) = true then 1 else 0)
        by_cases z : (10 : Int) ^ 18 ≤ c
        · rw [if_pos (decide_eq_true z)]
          omega
        · rw [if_neg (by rw [decide_eq_false z]; decide), Int.mul_zero]
          exact Int.le_refl _
      · omega
      · omega
    · have hlt : k < ns.length := by
        have e : (ns.map V.int).length = ns.length := List.length_map _
        omega
      have hx : (ns.map V.int)[k]? = some (.int ns[k]) := by rw [List.getElem?_map, List.getElem?_eq_getElem hlt]; rfl
      exact ⟨_, rfl, _, rfl, a, _, _, _, rfl, rfl, ha, atI_nat hx, key _ _ ⟨ns[k], rfl, rfl⟩⟩
theorem ok_l_pick (T : Txt mg) (D : Def K mg "_law_pick" s_l_pick) (g_l_take : Ok P w K mg base 1 "_law_take" ["_law_hand_here", "_law_many"] (spTake K)) : Ok P w K mg base 2 "_law_pick" ["_law_hand_here", "_law_some"] (spPick K) := by
  refine D.ok sc_l_pick (fun _ _ _ _ _ _ us hl => match us, hl with | [_, _], _ => rfl) (fun vs H Q E h => ?_) (fun f cdv A outer s H vs Q E hr h => ?_)
  · obtain ⟨l, p, t, xs, rfl, _⟩ := h
    rfl
  · obtain ⟨l, p, t, xs, rfl, hd, ht, hp, ne, l1, l2, q⟩ := h
    refine ⟨_, (pss_one (ps_ret (pe_ix ix_list (pv 1) (cl g_l_take hr (pa_cons (pv 0) (pa_cons (pe_callB call_len_seq (by rfl) T.len (by decide +kernel) (pa_cons (pv 1) pa_nil)) pa_nil))) (fun _ _ => rfl)))), ?_⟩
    refine ⟨_, rfl, _, rfl, _, rfl, p, xs, rfl, .inl (SqL.of hp), l, t, xs.length, rfl, hd, ht, l1, by omega, fun H' d e hd' hlt => ?_⟩
    obtain ⟨x, hx⟩ : ∃ x, xs[d]? = some x := ⟨xs[d], List.getElem?_eq_getElem hlt⟩
    exact ⟨p, xs, _, x, rfl, rfl, SqL.of (e.lst (notin1 ne) hp), atI_nat hx, q H' d x e hd' hx⟩
theorem ok_l_bits (D : Def K mg "_law_bits" s_l_bits) (g_l_pick : Ok P w K mg base 2 "_law_pick" ["_law_hand_here", "_law_some"] (spPick K)) : Ok P w K mg base 3 "_law_bits" ["_law_hand_here"] (spLBits K) := by
  refine D.ok sc_l_bits (fun _ _ _ _ _ _ us hl => match us, hl with | [_], _ => rfl) (fun vs H Q E h => ?_) (fun f cdv A outer s H vs Q E hr h => ?_)
  · obtain ⟨l, t, rfl, _⟩ := h
    rfl
  · obtain ⟨l, t, rfl, hd, ht, q⟩ := h
    refine ⟨_, (pss_one (ps_ret (cl g_l_pick hr (pa_cons (pv 0) (pa_cons (pe_lstD (pa_cons pe_int (pa_cons pe_int (pa_cons pe_int (pa_cons pe_int (pa_cons pe_int (pa_cons pe_int (pa_cons pe_int (pa_cons pe_int (pa_cons pe_int (pa_cons pe_int pa_nil))))))))))) pa_nil))))), ?_⟩
    refine ⟨_, rfl, [3, 4, 5, 1, 2, 8, 16, 64, 6, 33].map PyData.int, .cons (.int _) (.cons (.int _) (.cons (.int _) (.cons (.int _) (.cons (.int _) (.cons (.int _) (.cons (.int _) (.cons (.int _) (.cons (.int _) (.cons (.int _) .nil))))))))), n1000, fun H1 p e1 hn hp _ => ?_⟩
    refine ⟨l, p, t, _, rfl, hd.go0 e1, ht, hp, hd.ne hn, by decide, by decide, fun H2 i x e2 hd2 hx => ?_⟩
    have hm := mem_at hx
    have e12 := (hd.ex e1).trans e2
    simp only [List.mem_cons, List.not_mem_nil, or_false] at hm
    rcases hm with rfl | rfl | rfl | rfl | rfl | rfl | rfl | rfl | rfl | rfl
    · exact q H2 3 e12 hd2 (by decide) (by decide)
    · exact q H2 4 e12 hd2 (by decide) (by decide)
    · exact q H2 5 e12 hd2 (by decide) (by decide)
    · exact q H2 1 e12 hd2 (by decide) (by decide)
    · exact q H2 2 e12 hd2 (by decide) (by decide)
    · exact q H2 8 e12 hd2 (by decide) (by decide)
    · exact q H2 16 e12 hd2 (by decide) (by decide)
    · exact q H2 64 e12 hd2 (by decide) (by decide)
    · exact q H2 6 e12 hd2 (by decide) (by decide)
    · exact q H2 33 e12 hd2 (by decide) (by decide)
theorem ok_l_block (T : Txt mg) (D : Def K mg "_law_block" s_l_block) (g_l_take : Ok P w K mg base 1 "_law_take" ["_law_hand_here", "_law_many"] (spTake K)) (g_l_pick : Ok P w K mg base 2 "_law_pick" ["_law_hand_here", "_law_some"] (spPick K)) :
    Ok P w K mg base 3 "_law_block" ["_law_hand_here", "_law_bits_here"] (spLBlock K) := by
  refine D.ok sc_l_block (fun _ _ _ _ _ _ us hl => match us, hl with | [_, _], _ => rfl) (fun vs H Q E h => ?_) (fun f cdv A outer s H vs Q E hr h => ?_)
  · obtain ⟨l, t, n, rfl, _⟩ := h
    rfl
  · obtain ⟨l, t, n, rfl, hd, ht, n1, n64, q⟩ := h
    have p64 : 2 ^ n ≤ 2 ^ 64 := Nat.pow_le_pow_right (by decide) n64
    refine ⟨_, (pss_cons (ps_set (i := 2) sc_l_block.nd rfl (.inl rfl) (pe_callB (call_min2 rfl) (by rfl) T.min (by decide +kernel) (pa_cons (pv 1) (pa_cons (cl g_l_pick hr (pa_cons (pv 0) (pa_cons (pe_lstD (pa_cons pe_int (pa_cons pe_int (pa_cons pe_int (pa_cons pe_int (pa_cons pe_int (pa_cons pe_int (pa_cons (cl g_l_take hr (pa_cons (pv 0) (pa_cons (pe_op op_add (pv 1) pe_int) pa_nil))) (pa_cons (pv 1) pa_nil))))))))) pa_nil))) pa_nil))))
      (pss_one (ps_ret (pe_tupD (pa_cons (pe_op op_mul (cl g_l_take hr (pa_cons (pv 0) (pa_cons (pe_shl1 (pe_op op_sub (pv 1) (pv 2))) pa_nil))) (pe_shl1 (pv 2))) (pa_cons (pv 2) pa_nil)))))), ?_⟩
    refine ⟨_, rfl, _, rfl, _, rfl, _, rfl, _, _, rfl, rfl, l, t, n + 1, rfl, hd, by omega, by omega, by omega, fun H1 d e1 hd1 hlt => ?_⟩
    refine ⟨_, rfl, [0, 0, 1, 1, 2, 3, ((d : Nat) : Int), ((n : Nat) : Int)].map PyData.int, .cons (.int _) (.cons (.int _) (.cons (.int _) (.cons (.int _) (.cons (.int _) (.cons (.int _) (.cons (.int _) (.cons (.int _) .nil))))))), n1000, fun H2 p e2 hn hp _ => ?_⟩
    refine ⟨l, p, t + 1, _, rfl, hd1.go0 e2, by omega, hp, hd1.ne hn, (show (1 : Nat) ≤ 8 by decide), (show (8 : Nat) ≤ 100000 by decide), fun H3 i x e3 hd3 hx => ?_⟩
    have e13 := (e1.thenL e2).trans e3
    obtain ⟨h, rfl⟩ : ∃ h : Nat, x = .int (h : Nat) := by
      have hm := mem_at hx
      simp only [List.mem_cons, List.not_mem_nil, or_false] at hm
      rcases hm with rfl | rfl | rfl | rfl | rfl | rfl | rfl | rfl
      · exact ⟨0, rfl⟩
      · exact ⟨0, rfl⟩
      · exact ⟨1, rfl⟩
      · exact ⟨1, rfl⟩
      · exact ⟨2, rfl⟩
      · exact ⟨3, rfl⟩
      · exact ⟨d, rfl⟩
      · exact ⟨n, rfl⟩
    obtain ⟨g, hg, hgn⟩ : ∃ g : Nat, (if ((h : Nat) : Int) < ((n : Nat) : Int) then ((h : Nat) : Int) else ((n : Nat) : Int)) = ((g : Nat) : Int) ∧ g ≤ n := by
      by_cases c : h < n
      · exact ⟨h, by rw [if_pos (by omega)], by omega⟩
      · exact ⟨n, by rw [if_neg (by omega)], by omega⟩
    refine ⟨_, _, rfl, ?_⟩
    rw [hg]
    have pn : 2 ^ (n - g) ≤ 2 ^ n := Nat.pow_le_pow_right (by decide) (by omega)
    refine ⟨_, rfl, _, rfl, _, rfl, _, _, rfl, rfl, n - g, congrArg V.int (by omega), by omega, l, t + 2, 2 ^ (n - g), rfl, hd3, by omega, two_pos _, by omega, fun H4 d4 e4 hd4 hlt4 => ?_⟩
    refine ⟨_, rfl, g, rfl, by omega, _, _, rfl, rfl, .inl ⟨by omega, by omega⟩, _, rfl, [.int ((d4 * 2 ^ g : Nat) : Int), .int (g : Nat)], .cons ?_ (.cons (.int _) .nil), n1000, fun H5 u5 e5 t5 => ?_⟩
    · rw [Int.natCast_mul]
      exact .int _
    · refine q H5 u5 (d4 * 2 ^ g, g) ((e13.trans e4).thenL e5) (hd4.go0 e5) t5 ⟨Nat.mul_mod_left _ _, ?_⟩
      show d4 * 2 ^ g + 2 ^ g ≤ 2 ^ n
      have e : d4 * 2 ^ g + 2 ^ g = (d4 + 1) * 2 ^ g := by rw [Nat.add_mul, Nat.one_mul]
      have f : 2 ^ n = 2 ^ (n - g) * 2 ^ g := by rw [← Nat.pow_add]; congr 1; omega
      rw [e, f]
      exact Nat.mul_le_mul_right _ hlt4
end
end K54
end
section
set_option Elab.async false
set_option linter.all false
set_option maxRecDepth 100000
set_option maxHeartbeats 4000000
/-! The law's near, blocks. -/
namespace K54
open PySem PySem.Spec PyProof.Rows L2
theorem ok_of_lt {n s h : Nat} (h1 : s % 2 ^ h = 0) (h2 : s < 2 ^ n) (h3 : h ≤ n) : Okb n (s, h) := by
  refine ⟨h1, ?_⟩
  obtain ⟨k, hk⟩ := Nat.dvd_of_mod_eq_zero h1
  have f : 2 ^ n = 2 ^ h * 2 ^ (n - h) := by rw [← Nat.pow_add]; congr 1; omega
  have hlt : k < 2 ^ (n - h) := by
    rcases Nat.lt_or_ge k (2 ^ (n - h)) with q | q
    · exact q
    · have := Nat.mul_le_mul_left (2 ^ h) q
      omega
  show s + 2 ^ h ≤ 2 ^ n
  have e : s + 2 ^ h = 2 ^ h * (k + 1) := by rw [hk, Nat.mul_add, Nat.mul_one]
  rw [e, f]
  exact Nat.mul_le_mul_left _ hlt
theorem xor_cast (a b : Nat) : Builtin.bitXor ((a : Nat) : Int) ((b : Nat) : Int) = ((a ^^^ b : Nat) : Int) := Bits.bitXor_pp (Int.natCast_nonneg a) (Int.natCast_nonneg b)
theorem xor_ok {n : Nat} {b : B} (ob : Okb n b) (h : b.2 < n) : Okb n (b.1 ^^^ 2 ^ b.2, b.2) := by
  refine ok_of_lt ?_ (Nat.xor_lt_two_pow ob.lt (Nat.pow_lt_pow_right (by decide) h)) ob.ht
  rw [Nat.xor_mod_two_pow, ob.al, Nat.mod_self]
  rfl
theorem up_ok {n : Nat} {b : B} (ob : Okb n b) (h : b.2 < n) : Okb n (b.1 - b.1 % 2 ^ (b.2 + 1), b.2 + 1) := by
  refine ok_of_lt ?_ (Nat.lt_of_le_of_lt (Nat.sub_le _ _) ob.lt) h
  have e := Nat.div_add_mod b.1 (2 ^ (b.2 + 1))
  have e2 : b.1 - b.1 % 2 ^ (b.2 + 1) = 2 ^ (b.2 + 1) * (b.1 / 2 ^ (b.2 + 1)) := by omega
  rw [e2]
  exact Nat.mul_mod_right _ _
theorem lo_ok {n : Nat} {b : B} (ob : Okb n b) : Okb n (b.1, b.2 - 1) :=
  ⟨mod_of_le ob.al (Nat.sub_le _ _), Nat.le_trans (Nat.add_le_add_left (Nat.pow_le_pow_right (by decide) (Nat.sub_le _ _)) _) ob.le⟩
theorem hi_ok {n : Nat} {b : B} (ob : Okb n b) (h : 0 < b.2) : Okb n (b.1 + 2 ^ b.2 / 2, b.2 - 1) := by
  obtain ⟨s, k⟩ := b
  obtain ⟨j, rfl⟩ : ∃ j, k = j + 1 := ⟨k - 1, by simp only at h; omega⟩
  have e : 2 ^ (j + 1) = 2 ^ j + 2 ^ j := by rw [Nat.pow_succ]; omega
  have e2 : 2 ^ (j + 1) / 2 = 2 ^ j := by omega
  have ob1 := ob.al
  have ob2 := ob.le
  simp only at ob1 ob2
  show Okb n (s + 2 ^ (j + 1) / 2, j)
  rw [e2]
  exact ⟨by show (s + 2 ^ j) % 2 ^ j = 0; rw [Nat.add_mod_right]; exact mod_of_le ob1 (Nat.le_succ j), by show s + 2 ^ j + 2 ^ j ≤ 2 ^ n; omega⟩
theorem nx_ok {n : Nat} {b : B} (ob : Okb n b) (h : b.1 + 2 * 2 ^ b.2 ≤ 2 ^ n) : Okb n (b.1 + 2 ^ b.2, b.2) :=
  ⟨by show (b.1 + 2 ^ b.2) % 2 ^ b.2 = 0; rw [Nat.add_mod_right]; exact ob.al, by show b.1 + 2 ^ b.2 + 2 ^ b.2 ≤ 2 ^ n; omega⟩
/-- a list of blocks in the making, beside the hand -/
structure Bag (K : PySem.W.Frag) (H H' : Hp) (l p : Addr) (t n M : Nat) (xs : List V) (cs : List B) : Prop where
  e : Ex K [l] H H'
  hd : Hand H' l t
  hp : H' p = some (.lst xs)
  tx : TpA H' xs (cs.map bD)
  ok : ∀ c ∈ cs, Okb n c
  len : cs.length ≤ M
theorem Bag.add {K : PySem.W.Frag} {H H' H1 : Hp} {l p : Addr} {t t' n M : Nat} {xs : List V} {cs : List B} {u : V} {c : B} (g : Bag K H H' l p t n M xs cs) (nw : Nw H p) (ne : p ≠ l) (e1 : Ex K [l] H' H1) (h1 : Hand H1 l t') (tu : Tp H1 u (bD c)) (oc : Okb n c) :
    H1 p = some (.lst xs) ∧ Bag K H (upd H1 p (.lst (xs ++ [u]))) l p t' n (M + 1) (xs ++ [u]) (cs ++ [c]) := by
  have hp1 := e1.lst (notin1 ne) g.hp
  have ep : Ex K [p] H1 (upd H1 p (.lst (xs ++ [u]))) := Ex.put hp1
  refine ⟨hp1, (g.e.trans e1).cut nw ep (notin1 ne), h1.go ep (notin1 ne.symm), upd_same, (ep.tpA (e1.tpA g.tx)).snoc (ep.tp tu), fun d hd => ?_, ?_⟩
  · rcases List.mem_append.mp hd with h | h
    · exact g.ok d h
    · rw [List.mem_singleton.mp h]
      exact oc
  · rw [List.length_append, List.length_singleton]
    have := g.len
    omega
theorem Bag.go {K : PySem.W.Frag} {H H' H1 : Hp} {l p : Addr} {t t' n M : Nat} {xs : List V} {cs : List B} (g : Bag K H H' l p t n M xs cs) (ne : p ≠ l) (e1 : Ex K [l] H' H1) (h1 : Hand H1 l t') : Bag K H H1 l p t' n M xs cs :=
  ⟨g.e.trans e1, h1, e1.lst (notin1 ne) g.hp, e1.tpA g.tx, g.ok, g.len⟩
theorem mid3 {A B : Prop} {N : L2.St → Hp → Prop} {σ : L2.St} {H : Hp} {b : Bool} (I : L2.St → Hp → Prop) (hN : ∀ σ' H', I σ' H' → N σ' H') (h : (∀ σ' H', I σ' H' → N σ' H') → (if b = true then B else if false = true then A else N σ H)) : if b = true then B else if false = true then A else N σ H := h hN
def spNear (K : PySem.W.Frag) : Sp := fun vs H Q _ => ∃ (l : Addr) (t n : Nat) (v : V) (b : B), vs = [.ref l, .int (n : Nat), v] ∧ Hand H l t ∧ t ≤ 89000 ∧ 1 ≤ n ∧ n ≤ 64 ∧ Tp H v (bD b) ∧ Okb n b ∧
  ∀ H' u c, Ex K [l] H H' → Hand H' l (t + 7) → Tp H' u (bD c) → Okb n c → Q u H'
def spLBlocks (K : PySem.W.Frag) : Sp := fun vs H Q _ => ∃ (l : Addr) (t n m : Nat), vs = [.ref l, .int (n : Nat), .int (m : Nat)] ∧ Hand H l t ∧ t ≤ 80000 ∧ 1 ≤ n ∧ n ≤ 64 ∧ m ≤ 40 ∧
  ∀ H' p xs cs, Nw H p → p ≠ l → Bag K H H' l p (t + 600) n 40 xs cs → Q (.ref p) H'
section
variable {P : Program} {w : World} {K : PySem.W.Frag} {mg : Str → Option Value} {base : Heap}
theorem ok_l_near (T : Txt mg) (D : Def K mg "_law_near" s_l_near) (g_l_pick : Ok P w K mg base 2 "_law_pick" ["_law_hand_here", "_law_some"] (spPick K)) (g_l_block : Ok P w K mg base 3 "_law_block" ["_law_hand_here", "_law_bits_here"] (spLBlock K)) :
    Ok P w K mg base 4 "_law_near" ["_law_hand_here", "_law_bits_here", "_law_block_here"] (spNear K) := by
  refine D.ok sc_l_near (fun _ _ _ _ _ _ us hl => match us, hl with | [_, _, _], _ => rfl) (fun vs H Q E h => ?_) (fun f cdv A outer s H vs Q E hr h => ?_)
  · obtain ⟨l, t, n, v, b, rfl, _⟩ := h
    rfl
  · obtain ⟨l, t, n, v, b, rfl, hd, ht, n1, n64, hv, ob, q⟩ := h
    obtain ⟨a, rfl, ha⟩ := hv.bk
    have hh := ob.ht
    refine ⟨_, (pss_cons (ps_asg (pv 2) (pg_tup rfl (pgs_cons (pg_name (i := 3) sc_l_near.nd rfl (.inl rfl)) (pgs_cons (pg_name (i := 4) sc_l_near.nd rfl (.inl rfl)) pgs_nil))))
      (pss_cons (ps_set (i := 5) sc_l_near.nd rfl (.inl rfl) (pe_shl1 (pv 4)))
      (pss_cons (ps_set (i := 6) sc_l_near.nd rfl (.inl rfl) (pe_lstD (pa_cons (pv 2) (pa_cons (pe_tupD (pa_cons (pv 3) (pa_cons (pe_callB (call_max2 rfl) (by rfl) T.max (by decide +kernel) (pa_cons pe_int (pa_cons (pe_op op_sub (pv 4) pe_int) pa_nil))) pa_nil))) (pa_cons (cl g_l_block hr (pa_cons (pv 0) (pa_cons (pv 1) pa_nil))) (pa_cons (cl g_l_block hr (pa_cons (pv 0) (pa_cons (pv 1) pa_nil))) pa_nil))))))
      (pss_cons (ps_if (pt_cmp (pc_gt (pv 4) pe_int)) (pss_one (ps_expr (pe_bm PySem.F.plainAttrs_list PySem.F.slot_list_append PySem.F.type_list_append mt_append (pv 6) (pa_cons (pe_tupD (pa_cons (pe_op op_add (pv 3) (pe_op op_fdivW (pv 5) pe_int)) (pa_cons (pe_op op_sub (pv 4) pe_int) pa_nil))) pa_nil)))) pss_nil)
      (pss_cons (ps_if (pt_cmp (pc_lt (pv 4) (pv 1))) (pss_cons (ps_expr (pe_bm PySem.F.plainAttrs_list PySem.F.slot_list_append PySem.F.type_list_append mt_append (pv 6) (pa_cons (pe_tupD (pa_cons (pe_op op_sub (pv 3) (pe_op op_mod (pv 3) (pe_op op_mul pe_int (pv 5)))) (pa_cons (pe_op op_add (pv 4) pe_int) pa_nil))) pa_nil)))
        (pss_one (ps_expr (pe_bm PySem.F.plainAttrs_list PySem.F.slot_list_append PySem.F.type_list_append mt_append (pv 6) (pa_cons (pe_tupD (pa_cons (pe_op op_xor (pv 3) (pv 5)) (pa_cons (pv 4) pa_nil))) pa_nil))))) pss_nil)
      (pss_cons (ps_if (pt_cmp (pc_le (pe_op op_add (pv 3) (pe_op op_mul pe_int (pv 5))) (pe_shl1 (pv 1)))) (pss_one (ps_expr (pe_bm PySem.F.plainAttrs_list PySem.F.slot_list_append PySem.F.type_list_append mt_append (pv 6) (pa_cons (pe_tupD (pa_cons (pe_op op_add (pv 3) (pv 5)) (pa_cons (pv 4) pa_nil))) pa_nil)))) pss_nil)
      (pss_one (ps_ret (cl g_l_pick hr (pa_cons (pv 0) (pa_cons (pv 6) pa_nil))))))))))), ?_⟩
    refine ⟨_, rfl, a, _, rfl, SqT.of ha, rfl, _, _, rfl, _, _, rfl, rfl, ?_⟩
    refine ⟨_, rfl, b.2, rfl, by omega, ?_⟩
    refine ⟨_, rfl, _, rfl, _, rfl, _, _, rfl, rfl, _, _, rfl, [.int (b.1 : Nat), .int ((b.2 - 1 : Nat) : Int)], .cons (.int _) (.cons ?_ .nil), n1000, fun H1 u1 e1 w1 => ?_⟩
    · have e : (if ((b.2 : Nat) : Int) - 1 > 0 then ((b.2 : Nat) : Int) - 1 else 0) = ((b.2 - 1 : Nat) : Int) := by split <;> omega
      show Tp _ (.int (if ((b.2 : Nat) : Int) - 1 > 0 then ((b.2 : Nat) : Int) - 1 else 0)) _
      rw [e]
      exact .int _
    have hd1 := hd.go0 e1
    refine ⟨_, rfl, _, rfl, l, t, n, rfl, hd1, by omega, n1, n64, fun H2 u2 c2 e2 hd2 w2 o2 => ?_⟩
    refine ⟨_, rfl, _, rfl, l, t + 3, n, rfl, hd2, by omega, n1, n64, fun H3 u3 c3 e3 hd3 w3 o3 => ?_⟩
    have e13 := e2.trans e3
    have e03 := (hd.ex e1).trans e13
    refine ⟨[bD b, bD (b.1, b.2 - 1), bD c2, bD c3], .cons (e03.tp hv) (.cons (e13.tp w1) (.cons (e3.tp w2) (.cons w3 .nil))), n1000, fun H4 p e4 hn hp4 t4 => ?_⟩
    have nw : Nw H p := e03.nw hn
    have ne : p ≠ l := hd3.ne hn
    have g0 : Bag K H H4 l p (t + 6) n 4 [.ref a, u1, u2, u3] [b, (b.1, b.2 - 1), c2, c3] := ⟨e03.thenL e4, hd3.go0 e4, hp4, t4, fun c hc => by
      simp only [List.mem_cons, List.not_mem_nil, or_false] at hc
      rcases hc with rfl | rfl | rfl | rfl
      · exact ob
      · exact lo_ok ob
      · exact o2
      · exact o3, Nat.le_refl 4⟩
    have hz : ∀ {H' : Hp} {M : Nat} {xs : List V} {cs : List B}, Bag K H H' l p (t + 6) n M xs cs → M ≤ 8 → xs.length ≤ 8 := fun {H' M xs cs} g hM => by
      rw [g.tx.lenB]
      have := g.len
      omega
    refine ⟨_, rfl, _, _, rfl, rfl, _, rfl, ?_⟩
    refine mid2 (I := fun σ H' => ∃ xs cs, σ = [some (.ref l), some (.int (n : Nat)), some (.ref a), some (.int (b.1 : Nat)), some (.int (b.2 : Nat)), some (.int ((2 ^ b.2 : Nat) : Int)), some (.ref p)] ∧ Bag K H H' l p (t + 6) n 5 xs cs ∧ 1 ≤ xs.length) ?_ fun key => ?_
    · rintro σ H5 ⟨xs, cs, rfl, g, lx⟩
      refine ⟨_, rfl, _, rfl, _, _, rfl, rfl, _, rfl, ?_⟩
      refine mid2 (I := fun σ H' => ∃ xs cs, σ = [some (.ref l), some (.int (n : Nat)), some (.ref a), some (.int (b.1 : Nat)), some (.int (b.2 : Nat)), some (.int ((2 ^ b.2 : Nat) : Int)), some (.ref p)] ∧ Bag K H H' l p (t + 6) n 7 xs cs ∧ 1 ≤ xs.length) ?_ fun key => ?_
      · rintro σ H5 ⟨xs, cs, rfl, g, lx⟩
        refine ⟨_, rfl, _, rfl, _, _, rfl, rfl, .inl ⟨by decide, by decide⟩, _, _, rfl, rfl, _, rfl, n, rfl, by omega, _, _, rfl, rfl, _, rfl, ?_⟩
        refine mid2 (I := fun σ H' => ∃ xs cs, σ = [some (.ref l), some (.int (n : Nat)), some (.ref a), some (.int (b.1 : Nat)), some (.int (b.2 : Nat)), some (.int ((2 ^ b.2 : Nat) : Int)), some (.ref p)] ∧ Bag K H H' l p (t + 6) n 8 xs cs ∧ 1 ≤ xs.length) ?_ fun key => ?_
        · rintro σ H5 ⟨xs, cs, rfl, g, lx⟩
          have := hz g (by decide)
          refine ⟨_, rfl, _, rfl, l, p, t + 6, xs, rfl, g.hd, by omega, g.hp, ne, lx, by omega, fun H6 i x e6 hd6 hx => ?_⟩
          obtain ⟨c, hc, tc⟩ := g.tx.bk hx
          exact q H6 x c (g.e.trans e6) hd6 (e6.tp tc) (g.ok c (mem_at hc))
        · refine if2 (fun c1 => ?_) fun c1 => key _ _ ⟨xs, cs, rfl, ⟨g.e, g.hd, g.hp, g.tx, g.ok, Nat.le_succ_of_le g.len⟩, lx⟩
          have c1' : b.1 + 2 * 2 ^ b.2 ≤ 2 ^ n := by omega
          have := hz g (by decide)
          refine ⟨_, rfl, .inl ⟨rfl, _, SqL.of g.hp⟩, _, rfl, _, rfl, _, _, rfl, rfl, _, rfl, [.int ((b.1 + 2 ^ b.2 : Nat) : Int), .int (b.2 : Nat)], .cons (.int _) (.cons (.int _) .nil), n1000, fun H6 u6 e6 w6 => ?_⟩
          obtain ⟨h6, g6⟩ := g.add nw ne (g.hd.ex e6) (g.hd.go0 e6) w6 (nx_ok ob c1')
          exact ⟨p, xs, u6, rfl, rfl, h6, h15 (by omega), key _ _ ⟨_, _, rfl, g6, by rw [List.length_append]; omega⟩⟩
      · refine if2 (fun c1 => ?_) fun c1 => key _ _ ⟨xs, cs, rfl, ⟨g.e, g.hd, g.hp, g.tx, g.ok, Nat.le_trans g.len (by decide)⟩, lx⟩
        have c1' : b.2 < n := by omega
        have z0 := hz g (by decide)
        have hp2 : 2 * 2 ^ b.2 = 2 ^ (b.2 + 1) := by rw [Nat.pow_succ, Nat.mul_comm]
        have hpos := two_pos (b.2 + 1)
        have hmle := Nat.mod_le b.1 (2 ^ (b.2 + 1))
        refine ⟨_, rfl, .inl ⟨rfl, _, SqL.of g.hp⟩, _, rfl, _, rfl, _, rfl, _, _, rfl, rfl, .inl ⟨by decide, by decide⟩, _, _, rfl, rfl, ?_, _, _, rfl, rfl, _, rfl, _, _, rfl, rfl, [.int ((b.1 - b.1 % 2 ^ (b.2 + 1) : Nat) : Int), .int ((b.2 + 1 : Nat) : Int)], .cons ?_ (.cons (.int _) .nil), n1000, fun H6 u6 e6 w6 => ?_⟩
        · show (0 : Int) < 2 * ((2 ^ b.2 : Nat) : Int)
          omega
        · have e : ((b.1 : Nat) : Int) - ((b.1 : Nat) : Int) % (2 * ((2 ^ b.2 : Nat) : Int)) = ((b.1 - b.1 % 2 ^ (b.2 + 1) : Nat) : Int) := by
            have e3 : (2 * ((2 ^ b.2 : Nat) : Int)) = ((2 ^ (b.2 + 1) : Nat) : Int) := by rw [← hp2]; omega
            rw [e3]
            omega
          show Tp _ (.int (((b.1 : Nat) : Int) - ((b.1 : Nat) : Int) % (2 * ((2 ^ b.2 : Nat) : Int)))) _
          rw [e]
          exact .int _
        obtain ⟨h6, g6⟩ := g.add nw ne (g.hd.ex e6) (g.hd.go0 e6) w6 (up_ok ob c1')
        refine ⟨p, xs, u6, rfl, rfl, h6, h15 (by omega), ?_⟩
        refine ⟨_, rfl, .inl ⟨rfl, _, SqL.of g6.hp⟩, _, rfl, _, rfl, _, _, rfl, rfl, _, rfl, [.int ((b.1 ^^^ 2 ^ b.2 : Nat) : Int), .int (b.2 : Nat)], .cons ?_ (.cons (.int _) .nil), n1000, fun H7 u7 e7 w7 => ?_⟩
        · show Tp _ (.int (Builtin.bitXor ((b.1 : Nat) : Int) ((2 ^ b.2 : Nat) : Int))) _
          rw [xor_cast]
          exact .int _
        obtain ⟨h7, g7⟩ := g6.add nw ne (g6.hd.ex e7) (g6.hd.go0 e7) w7 (xor_ok ob c1')
        have z6 := hz g6 (by decide)
        exact ⟨p, _, u7, rfl, rfl, h7, h15 (by omega), key _ _ ⟨_, _, rfl, g7, by rw [List.length_append]; simp⟩⟩
    · refine if2 (fun c1 => ?_) fun c1 => key _ _ ⟨_, _, rfl, ⟨g0.e, g0.hd, g0.hp, g0.tx, g0.ok, Nat.le_succ_of_le g0.len⟩, by simp⟩
      have c1' : 0 < b.2 := by omega
      refine ⟨_, rfl, .inl ⟨rfl, _, SqL.of g0.hp⟩, _, rfl, _, rfl, _, _, rfl, rfl, ⟨by decide, by decide⟩, _, _, rfl, rfl, _, rfl, _, _, rfl, rfl, [.int ((b.1 + 2 ^ b.2 / 2 : Nat) : Int), .int ((b.2 - 1 : Nat) : Int)], .cons ?_ (.cons ?_ .nil), n1000, fun H6 u6 e6 w6 => ?_⟩
      · have e : ((b.1 : Nat) : Int) + ((2 ^ b.2 : Nat) : Int) / 2 = ((b.1 + 2 ^ b.2 / 2 : Nat) : Int) := by omega
        show Tp _ (.int (((b.1 : Nat) : Int) + ((2 ^ b.2 : Nat) : Int) / 2)) _
        rw [e]
        exact .int _
      · have e : ((b.2 : Nat) : Int) - 1 = ((b.2 - 1 : Nat) : Int) := by omega
        show Tp _ (.int (((b.2 : Nat) : Int) - 1)) _
        rw [e]
        exact .int _
      obtain ⟨h6, g6⟩ := g0.add nw ne (g0.hd.ex e6) (g0.hd.go0 e6) w6 (hi_ok ob c1')
      exact ⟨p, _, u6, rfl, rfl, h6, h15 (by simp), key _ _ ⟨_, _, rfl, g6, by simp⟩⟩
theorem ok_l_blocks (T : Txt mg) (D : Def K mg "_law_blocks" s_l_blocks) (g_l_take : Ok P w K mg base 1 "_law_take" ["_law_hand_here", "_law_many"] (spTake K)) (g_l_pick : Ok P w K mg base 2 "_law_pick" ["_law_hand_here", "_law_some"] (spPick K)) (g_l_block : Ok P w K mg base 3 "_law_block" ["_law_hand_here", "_law_bits_here"] (spLBlock K))
    (g_l_near : Ok P w K mg base 4 "_law_near" ["_law_hand_here", "_law_bits_here", "_law_block_here"] (spNear K)) : Ok P w K mg base 5 "_law_blocks" ["_law_hand_here", "_law_bits_here", "_law_most"] (spLBlocks K) := by
  refine D.ok sc_l_blocks (fun _ _ _ _ _ _ us hl => match us, hl with | [_, _, _], _ => rfl) (fun vs H Q E h => ?_) (fun f cdv A outer s H vs Q E hr h => ?_)
  · obtain ⟨l, t, n, m, rfl, _⟩ := h
    rfl
  · obtain ⟨l, t, n, m, rfl, hd, ht, n1, n64, m40, q⟩ := h
    refine ⟨_, (pss_cons (ps_set (i := 3) sc_l_blocks.nd rfl (.inl rfl) (pe_lstD pa_nil))
      (pss_cons (ps_for PassesOwn.never rfl (pi_range1 (by rfl) T.range (pa_cons (cl g_l_take hr (pa_cons (pv 0) (pa_cons (pe_op op_add (pv 2) pe_int) pa_nil))) pa_nil)) (pg_name (i := 4) sc_l_blocks.nd rfl (.inl rfl))
        (pss_cons (ps_set (i := 5) sc_l_blocks.nd rfl (.inl rfl) (cl g_l_block hr (pa_cons (pv 0) (pa_cons (pv 1) pa_nil))))
        (pss_cons (ps_if (PW.pt (pw_and (pt_cmpR (op_neD hr.units) (pv 3) (pe_lstD pa_nil) (nomark _)) (pw_and1 (pt_cmp (pc_gt (cl g_l_take hr (pa_cons (pv 0) (pa_cons pe_int pa_nil))) pe_int))))) (pss_one (ps_set (i := 5) sc_l_blocks.nd rfl (.inl rfl) (cl g_l_near hr (pa_cons (pv 0) (pa_cons (pv 1) (pa_cons (cl g_l_pick hr (pa_cons (pv 0) (pa_cons (pv 3) pa_nil))) pa_nil)))))) pss_nil)
        (pss_one (ps_expr (pe_bm PySem.F.plainAttrs_list PySem.F.slot_list_append PySem.F.type_list_append mt_append (pv 3) (pa_cons (pv 5) pa_nil)))))))
      (pss_one (ps_ret (pv 3))))), ?_⟩
    refine ⟨[], .nil, n1000, fun H1 p e1 hn hp _ => ?_⟩
    have nw : Nw H p := Nw.of hn
    have ne : p ≠ l := hd.ne hn
    refine ⟨_, rfl, _, rfl, _, _, rfl, rfl, l, t, m + 1, rfl, hd.go0 e1, by omega, by omega, by omega, fun H2 d e2 hd2 hlt => ⟨_, rfl, by omega, by omega, ?_⟩⟩
    have g2 : Bag K H H2 l p (t + 1) n 0 [] [] := ⟨(hd.ex e1).trans e2, hd2, e2.lst (notin1 ne) hp, .nil, fun c hc => (by cases hc), Nat.le_refl _⟩
    refine for_it walk_range (fun i σ Hc => ∃ (xs : List V) (cs : List B) (y4 y5 : Option V), σ = [some (.ref l), some (.int (n : Nat)), some (.int (m : Nat)), some (.ref p), y4, y5] ∧ Bag K H Hc l p (t + 1 + 12 * i) n i xs cs) ⟨[], [], none, none, rfl, g2⟩ ?_ ?_ ?_
    · exact fun _ _ _ _ _ => trivial
    · rintro i x σ Hc H' hi ⟨xs, cs, y4, y5, rfl, g⟩ ⟨rfl, rfl⟩
      have hi' : i < d := by omega
      have lc := g.len
      have lx := g.tx.lenB
      refine ⟨_, rfl, _, rfl, l, t + 1 + 12 * i, n, rfl, g.hd, by omega, n1, n64, fun H3 u3 c3 e3 hd3 w3 o3 => ?_⟩
      have g3 := g.go ne e3 hd3
      refine ⟨_, rfl, [], .nil, n1000, fun H4 p4 e4 hn4 hp4 _ => ?_⟩
      have g4 := g3.go ne (g3.hd.ex e4) (g3.hd.go0 e4)
      refine ⟨.list (cs.map bD), .list [], .lst (SqL.of g4.hp) g4.tx.dp, .lst (SqL.of hp4) .nil, bl_shaped cs, rfl, _, rfl, ?_⟩
      rw [eqv_nil]
      refine mid3 (I := fun σ H' => ∃ (u : V) (c : B) (y4 : Option V), σ = [some (.ref l), some (.int (n : Nat)), some (.int (m : Nat)), some (.ref p), y4, some u] ∧ Bag K H H' l p (t + 1 + 12 * (i + 1)) n i xs cs ∧ Tp H' u (bD c) ∧ Okb n c) ?_ fun key => ?_
      · rintro σ H5 ⟨u, c, y4, rfl, g5, w5, o5⟩
        obtain ⟨h6, g6⟩ := g5.add nw ne g5.hd.refl g5.hd w5 o5
        exact ⟨_, rfl, .inl ⟨rfl, _, SqL.of g5.hp⟩, _, rfl, p, xs, u, rfl, rfl, h6, h15 (by omega), _, _, _, _, rfl, g6⟩
      · refine if2N (fun c1 => ?_) fun c1 => iteF (key _ _ ⟨u3, c3, _, rfl, ⟨g4.e, g4.hd.mono (by omega), g4.hp, g4.tx, g4.ok, g4.len⟩, e4.tp w3, o3⟩)
        have hne : 1 ≤ xs.length := by
          cases cs with
          | nil => exact absurd rfl c1
          | cons c cs => rw [lx]; simp
        refine ⟨_, rfl, l, _, 3, rfl, g4.hd, by omega, by decide, by decide, fun H5 d5 e5 hd5 _ => ?_⟩
        have g5 := g4.go ne e5 hd5
        refine ⟨_, _, rfl, rfl, _, rfl, if2 (fun c2 => ?_) fun c2 => key _ _ ⟨u3, c3, _, rfl, ⟨g5.e, g5.hd.mono (by omega), g5.hp, g5.tx, g5.ok, g5.len⟩, e5.tp (e4.tp w3), o3⟩⟩
        refine ⟨_, rfl, _, rfl, _, rfl, _, rfl, l, p, _, xs, rfl, g5.hd, by omega, g5.hp, ne, hne, by omega, fun H6 j x e6 hd6 hx => ?_⟩
        obtain ⟨c, hc, tc⟩ := g5.tx.bk hx
        refine ⟨l, _, n, x, c, rfl, hd6, by omega, n1, n64, e6.tp tc, g.ok c (mem_at hc), fun H7 u7 c7 e7 hd7 w7 o7 => ?_⟩
        exact key _ _ ⟨u7, c7, _, rfl, g5.go ne (e6.trans e7) (hd7.mono (by omega)), w7, o7⟩
    · rintro σ Hc ⟨xs, cs, y4, y5, rfl, g⟩
      have hd' : (((d : Nat) : Int)).toNat = d := by omega
      refine ⟨_, rfl, q Hc p xs cs nw ne ⟨g.e, g.hd.mono (by omega), g.hp, g.tx, g.ok, Nat.le_trans g.len (by omega)⟩⟩
end
end K54
end
section
set_option Elab.async false
set_option linter.all false
set_option maxRecDepth 100000
set_option maxHeartbeats 4000000
/-! The law's patch, meet, names. -/
namespace K54
open PySem PySem.Spec PyProof.Rows L2
/-! ### sorted pairs -/
def kOf (H : Hp) (x : V) : Int × Int := match x with
  | .ref a => (match H a with | some (.tup [.int i, .int j]) => (i, j) | _ => (0, 0))
  | _ => (0, 0)
theorem kOf_bk {H : Hp} {x : V} {b : B} (h : Tp H x (bD b)) : kOf H x = (((b.1 : Nat) : Int), ((b.2 : Nat) : Int)) := by
  obtain ⟨a, rfl, ha⟩ := h.bk
  simp [kOf, ha]
def bOf (H : Hp) (x : V) : B := ((kOf H x).1.toNat, (kOf H x).2.toNat)
theorem bOf_bk {H : Hp} {x : V} {b : B} (h : Tp H x (bD b)) : bOf H x = b := by
  unfold bOf
  rw [kOf_bk h]
  rfl
theorem bOf_all {H : Hp} : ∀ {xs : List V} {bs : List B}, TpA H xs (bs.map bD) → xs.map (bOf H) = bs ∧ ∀ x ∈ xs, Tp H x (bD (bOf H x))
  | [], [], .nil => ⟨rfl, fun x hx => by cases hx⟩
  | _, b :: bs, t => by
    cases t with
    | cons h t =>
      obtain ⟨h1, h2⟩ := bOf_all t
      refine ⟨by rw [List.map_cons, bOf_bk h, h1], fun x hx => ?_⟩
      rcases List.mem_cons.mp hx with rfl | hx
      · rw [bOf_bk h]
        exact h
      · exact h2 x hx
theorem tpa_of {H : Hp} : ∀ {xs : List V}, (∀ x ∈ xs, Tp H x (bD (bOf H x))) → TpA H xs ((xs.map (bOf H)).map bD)
  | [], _ => .nil
  | x :: xs, h => .cons (h x List.mem_cons_self) (tpa_of fun y hy => h y (List.mem_cons_of_mem _ hy))
theorem keys_of {H : Hp} {xs : List V} {bs : List B} (t : TpA H xs (bs.map bD)) : ∀ x ∈ xs, ∃ a, x = V.ref a ∧ H a = some (.tup [.int (kOf H x).1, .int (kOf H x).2]) := fun x hx => by
  have h := (bOf_all t).2 x hx
  rw [kOf_bk h]
  exact h.bk
theorem sorted_of {H : Hp} {xs zs : List V} {bs : List B} (t : TpA H xs (bs.map bD)) (h1 : SrtO.Srtd (ltP (kOf H)) zs) (h2 : SrtO.Stb (ltP (kOf H)) zs xs) : ∃ gs : List B, TpA H zs (gs.map bD) ∧ gs.Perm bs ∧ gs.Pairwise blt := by
  obtain ⟨e, h⟩ := bOf_all t
  have hz : ∀ z ∈ zs, Tp H z (bD (bOf H z)) := fun z hz => h z (h2.perm.mem_iff.mp hz)
  refine ⟨zs.map (bOf H), tpa_of hz, by rw [← e]; exact h2.perm.map _, List.pairwise_map.mpr (h1.imp_of_mem fun {a b} ma mb q => ?_)⟩
  have q2 := SrtO.lexB_no.mp q
  have ka := kOf_bk (hz a ma)
  have kb := kOf_bk (hz b mb)
  rw [ka, kb] at q2
  simp only at q2
  unfold blt
  omega
theorem all_disj {fs : List B} {b : B} : ((fs.map fun e => decide (disj b e)).all id) = decide (∀ e ∈ fs, disj b e) := by
  rw [Bool.eq_iff_iff, List.all_map, List.all_eq_true, decide_eq_true_iff]
  exact ⟨fun h e he => of_decide_eq_true (h e he), fun h e he => decide_eq_true (h e he)⟩
theorem TpA.strs {H : Hp} : ∀ {xs : List V} {ns : List Str}, TpA H xs (ns.map PyData.str) → xs = ns.map V.str
  | _, [], .nil => rfl
  | _, b :: bs, t => by
    cases t with
    | cons h t =>
      cases h
      rw [TpA.strs t]
      rfl
theorem TpA.ofStrs {H : Hp} : ∀ (ns : List Str), TpA H (ns.map V.str) (ns.map PyData.str)
  | [] => .nil
  | n :: ns => .cons (.str n) (TpA.ofStrs ns)
/-! ### names -/
def lets : List Nat := letters.cps.toList
theorem lets_len : lets.length = 26 := by decide +kernel
theorem lets_nd : lets.Nodup := by decide +kernel
theorem lets_at {d : Nat} (h : d < 26) : ∃ c, lets[d]? = some c ∧ c ∈ lets := by
  have h1 : d < lets.length := by rw [lets_len]; exact h
  exact ⟨lets[d], List.getElem?_eq_getElem h1, List.getElem_mem h1⟩
/-- the name: a stem with a letter put in -/
def nameOf (L : List Nat) (a d : Nat) : Str := ⟨(L.take a ++ (lets[d]?.toList ++ L.drop a)).toArray⟩
theorem nameOf_nm {L : List Nat} {a d : Nat} (h1 : L.length ≤ 7) (h2 : ∀ c ∈ L, c ∈ lets) (hd : d < 26) : Nm (nameOf L a d) := by
  obtain ⟨c, hc, hm⟩ := lets_at hd
  have e : nameOf L a d = ⟨(L.take a ++ ([c] ++ L.drop a)).toArray⟩ := by unfold nameOf; rw [hc]; rfl
  have hl : (nameOf L a d).length = (L.take a ++ ([c] ++ L.drop a)).length := by rw [e]; exact List.size_toArray
  have hl2 : (L.take a ++ ([c] ++ L.drop a)).length = L.length + 1 := by
    rw [List.length_append, List.length_append, List.length_take, List.length_drop, List.length_singleton]
    omega
  refine ⟨by omega, by omega, fun x hx => ?_⟩
  rw [e] at hx
  have hx' : x ∈ L.take a ++ ([c] ++ L.drop a) := by simpa using hx
  rcases List.mem_append.mp hx' with h | h
  · exact h2 x (List.mem_of_mem_take h)
  · rcases List.mem_append.mp h with h | h
    · rw [List.mem_singleton.mp h]
      exact hm
    · exact h2 x (List.mem_of_mem_drop h)
theorem nameOf_inj {L : List Nat} {a d e : Nat} (hd : d < 26) (he : e < 26) (h : nameOf L a d = nameOf L a e) : d = e := by
  obtain ⟨c, hc, _⟩ := lets_at hd
  obtain ⟨c', hc', _⟩ := lets_at he
  have h1 : (L.take a ++ (lets[d]?.toList ++ L.drop a)).toArray = (L.take a ++ (lets[e]?.toList ++ L.drop a)).toArray := congrArg Str.cps h
  have h2 := congrArg Array.toList h1
  simp only [] at h2
  have h3 := List.append_cancel_left h2
  rw [hc, hc'] at h3
  have h4 : c = c' := (List.cons.inj h3).1
  have n := lets_nd
  have hd1 : d < lets.length := by rw [lets_len]; exact hd
  have he1 : e < lets.length := by rw [lets_len]; exact he
  have q1 : lets[d] = c := Option.some.inj ((List.getElem?_eq_getElem hd1).symm.trans hc)
  have q2 : lets[e] = c' := Option.some.inj ((List.getElem?_eq_getElem he1).symm.trans hc')
  have ee : lets[d] = lets[e] := by rw [q1, q2, h4]
  have pw := List.pairwise_iff_getElem.mp n
  rcases Nat.lt_trichotomy d e with h | h | h
  · exact absurd ee (pw d e hd1 he1 h)
  · exact h
  · exact absurd ee.symm (pw e d he1 hd1 h)
def stepOk (s : Nat) : Prop := s = 1 ∨ s = 3 ∨ s = 5 ∨ s = 7 ∨ s = 9 ∨ s = 11
theorem step_inj {f s i j : Nat} (h : stepOk s) (hi : i < 26) (hj : j < 26) (e : (f + s * i) % 26 = (f + s * j) % 26) : i = j := by
  rcases h with rfl | rfl | rfl | rfl | rfl | rfl <;> omega
theorem names_nd {L : List Nat} {a f s m : Nat} (hs : stepOk s) (hm : m ≤ 26) : ((List.range m).map fun k => nameOf L a ((f + s * k) % 26)).Nodup := by
  refine List.pairwise_map.mpr (List.Pairwise.imp_of_mem (R := fun a b => a ≠ b) (fun {i j} hi hj ne h => ?_) List.nodup_range)
  have hi := List.mem_range.mp hi
  have hj := List.mem_range.mp hj
  exact ne (step_inj hs (by omega) (by omega) (nameOf_inj (Nat.mod_lt _ (by decide)) (Nat.mod_lt _ (by decide)) h))
theorem cut_lo (z : Str) (a : Nat) (h : a ≤ z.length) : cutS z none (some ((a : Nat) : Int)) = ⟨(z.cps.toList.take a).toArray⟩ := by
  unfold cutS
  rw [HT.sIx_none, HT.sIx_nat, Nat.min_eq_left h]
  rfl
theorem cut_hi (z : Str) (a : Nat) (h : a ≤ z.length) : cutS z (some ((a : Nat) : Int)) none = ⟨(z.cps.toList.drop a).toArray⟩ := by
  unfold cutS
  rw [HT.sIx_none, HT.sIx_nat, Nat.min_eq_left h]
  have e : (z.cps.toList.drop a).take (z.length - a) = z.cps.toList.drop a := by
    refine List.take_of_length_le ?_
    rw [List.length_drop, Array.length_toList]
    exact Nat.le_refl _
  rw [e]
theorem name_eq {z : Str} {a d c : Nat} (h : a ≤ z.length) (hc : lets[d]? = some c) : cutS z none (some ((a : Nat) : Int)) ++ ⟨#[c]⟩ ++ cutS z (some ((a : Nat) : Int)) none = nameOf z.cps.toList a d := by
  rw [cut_lo z a h, cut_hi z a h]
  unfold nameOf
  rw [hc]
  show Str.mk (((z.cps.toList.take a).toArray ++ #[c]) ++ (z.cps.toList.drop a).toArray) = _
  congr 1
  simp
/-! ### promises -/
def spPatch (K : PySem.W.Frag) : Sp := fun vs H Q _ => ∃ (l : Addr) (t n m : Nat), vs = [.ref l, .int (n : Nat), .int (m : Nat)] ∧ Hand H l t ∧ t ≤ 70000 ∧ 1 ≤ n ∧ n ≤ 64 ∧ m ≤ 40 ∧
  ∀ H' u bs, Ex K [l] H H' → Hand H' l (t + 600) → Tp H' u (pD bs) → Ap bs → (∀ b ∈ bs, Okb n b) → bs.length ≤ 40 → Q u H'
def spMeet : Sp := fun vs H Q _ => ∃ (v u : V) (a b : B), vs = [v, u] ∧ Tp H v (bD a) ∧ Tp H u (bD b) ∧ a.2 ≤ 900 ∧ b.2 ≤ 900 ∧ Q (.bl (!decide (disj a b))) H
def spNames (K : PySem.W.Frag) : Sp := fun vs H Q _ => ∃ (l : Addr) (t m : Nat), vs = [.ref l, .int (m : Nat)] ∧ Hand H l t ∧ t ≤ 70000 ∧ m ≤ 20 ∧
  ∀ H' p (zs : List Str), Ex K [l] H H' → Hand H' l (t + 10) → Nw H p → p ≠ l → H' p = some (.lst (zs.map V.str)) → zs.length = m → zs.Nodup → (∀ z ∈ zs, Nm z) → Q (.ref p) H'
section
variable {P : Program} {w : World} {K : PySem.W.Frag} {mg : Str → Option Value} {base : Heap}
theorem ok_l_patch (T : Txt mg) (D : Def K mg "_law_patch" s_l_patch) (g_l_blocks : Ok P w K mg base 5 "_law_blocks" ["_law_hand_here", "_law_bits_here", "_law_most"] (spLBlocks K)) : Ok P w K mg base 6 "_law_patch" ["_law_hand_here", "_law_bits_here", "_law_most"] (spPatch K) := by
  refine D.ok sc_l_patch (fun _ _ _ _ _ _ us hl => match us, hl with | [_, _, _], _ => rfl) (fun vs H Q E h => ?_) (fun f cdv A outer s H vs Q E hr h => ?_)
  · obtain ⟨l, t, n, m, rfl, _⟩ := h
    rfl
  · obtain ⟨l, t, n, m, rfl, hd, ht, n1, n64, m40, q⟩ := h
    refine ⟨_, (pss_cons (ps_set (i := 3) sc_l_patch.nd rfl (.inl rfl) (pe_lstD pa_nil))
      (pss_cons (ps_for PassesOwn.never rfl (pi_list (cl g_l_blocks hr (pa_cons (pv 0) (pa_cons (pv 1) (pa_cons (pv 2) pa_nil))))) (pg_tup rfl (pgs_cons (pg_name (i := 4) sc_l_patch.nd rfl (.inr rfl)) (pgs_cons (pg_name (i := 5) sc_l_patch.nd rfl (.inr rfl)) pgs_nil)))
        (pss_one (ps_if (pt_val (pe_callB (cr_all rfl) (by rfl) T.all (by decide +kernel) (pa_cons (pe_lc (own := [("_law_one", 6)]) (g := gName 6) (tt := tYes) rfl sc_l_patch.nd (pi_list (pv 3)) (blkOk_by (N := ["_law_hand_here", "_law_bits_here", "_law_most", "_law_found", "_law_begin", "_law_height", "_law_one"]) (sc := defScope s_l_patch) (by decide +kernel)) (fun _ _ _ _ _ => (pg_name (i := 6) sc_l_patch.nd rfl (.inl rfl))) (fun _ _ _ _ _ => pts_nil) (fun _ _ _ _ _ => (pe_or (pe_cmp (pc_le (pe_op op_add (pv 4) (pe_shl1 (pv 5))) (pe_at0 (pv 6)))) (pe_one (pe_cmp (pc_le (pe_op op_add (pe_at0 (pv 6)) (pe_shl1 (pe_at1 (pv 6)))) (pv 4))))))) pa_nil))) (pss_one (ps_expr (pe_bm PySem.F.plainAttrs_list PySem.F.slot_list_append PySem.F.type_list_append mt_append (pv 3) (pa_cons (pe_tupD (pa_cons (pv 4) (pa_cons (pv 5) pa_nil))) pa_nil)))) pss_nil)))
      (pss_one (ps_ret (pe_callTy cr_tupL (by rfl) T.tuple (by decide +kernel) (pa_cons (pe_callB cr_sortedPO (by rfl) T.sorted (by decide +kernel) (pa_cons (pv 3) pa_nil)) pa_nil)))))), ?_⟩
    refine ⟨[], .nil, n1000, fun H1 p e1 hn hp _ => ?_⟩
    have nw : Nw H p := Nw.of hn
    have ne : p ≠ l := hd.ne hn
    refine ⟨_, rfl, _, rfl, _, rfl, l, t, n, m, rfl, hd.go0 e1, by omega, n1, n64, m40, fun H2 q2 xs cs nq neq g => ⟨q2, rfl, ⟨xs, SqL.of g.hp⟩, ?_⟩⟩
    have hp2 := g.e.lst (notin1 ne) hp
    have pq : p ≠ q2 := nq.ne hp
    have lx := g.tx.lenB
    have lc := g.len
    refine for_it (walk_list (K := K) (a := q2) (xs := xs)) (fun i σ Hc => ∃ (ys : List V) (fs : List B) (y4 y5 : Option V), σ = [some (.ref l), some (.int (n : Nat)), some (.int (m : Nat)), some (.ref p), y4, y5, none] ∧ Ex K [p] H2 Hc ∧ Hc p = some (.lst ys) ∧ TpA Hc ys (fs.map bD) ∧ (∀ c ∈ fs, c ∈ cs) ∧ fs.Pairwise disj ∧ fs.length ≤ i)
      ⟨[], [], none, none, rfl, Ex.reflL hp2, hp2, .nil, fun c hc => (by cases hc), .nil, Nat.le_refl _⟩ ?_ ?_ ?_
    · rintro i σ Hc _ ⟨ys, fs, y4, y5, rfl, e2, _⟩
      exact SqL.of (e2.lst (notin1 pq.symm) g.hp)
    · rintro i x σ Hc H' hi ⟨ys, fs, y4, y5, rfl, e2, h3, t3, sub, dj, lf⟩ ⟨rfl, hx⟩
      obtain ⟨b, hb, tb0⟩ := g.tx.bk hx
      have tb := e2.tp tb0
      obtain ⟨c, rfl, hc⟩ := tb.bk
      have ob := g.ok b (mem_at hb)
      have hh := ob.h900 n64
      have ly := t3.lenB
      refine ⟨c, _, rfl, SqT.of hc, rfl, _, _, rfl, _, _, rfl, rfl, ?_⟩
      refine ⟨_, rfl, p, rfl, ⟨ys, SqL.of h3⟩, fun D hD => ?_⟩
      refine lcY (K := K) (L := []) (walk_list (K := K) (a := p) (xs := ys)) (fun i ds _ => ds = ((fs.take i).map fun e => decide (disj b e)).map PyData.bool) hD (by simp) (by omega) (fun _ _ => rfl) (fun _ _ _ _ h _ => h) (fun H e => SqL.of (e.lst0 h3)) ?_ ?_
      · rintro j ds z H4 H5 KP hj e4 rfl ⟨rfl, hz⟩ hK
        obtain ⟨e, he, te0⟩ := t3.bk hz
        have te := e4.tp te0
        have oe := (g.ok e (sub e (mem_at he))).h900 n64
        have fb : fin b = b.1 + 2 ^ b.2 := rfl
        have fe : fin e = e.1 + 2 ^ e.2 := rfl
        have kk : ∀ r : Bool, r = decide (disj b e) → KP (.bl r) H5 := fun r hr => hK _ _ (.bool r) Ex.refl (.bl r) (by rw [hr, map_take_succ he, List.map_append]; rfl)
        refine ⟨rfl, _, rfl, _, rfl, b.2, rfl, by omega, _, _, rfl, rfl, _, rfl, e, te, _, _, rfl, rfl, _, rfl, if2 (fun c1 => ?_) fun c1 => ?_⟩
        · exact kk _ (decide_eq_true (show disj b e from .inl (by omega))).symm
        · refine ⟨_, rfl, e, te, _, rfl, e, te, e.2, rfl, by omega, _, _, rfl, rfl, _, rfl, _, _, rfl, rfl, ?_⟩
          refine kk _ ?_
          rw [decide_eq_decide]
          unfold disj
          omega
      · rintro H4 ls ds e4 hD4 td hl rfl
        rw [ly, List.take_length] at td
        refine ⟨D, fs.map fun e => decide (disj b e), rfl, SqL.of (by rw [← td.bools]; exact hD4), _, rfl, ?_⟩
        rw [all_disj]
        have hp4 := e4.lst0 h3
        refine if2 (fun c1 => ?_) fun c1 => ?_
        · refine ⟨_, rfl, .inl ⟨rfl, _, SqL.of hp4⟩, _, rfl, _, rfl, [.int (b.1 : Nat), .int (b.2 : Nat)], .cons (.int _) (.cons (.int _) .nil), n1000, fun H5 u5 e5 w5 => ?_⟩
          have hp5 := e5.lst0 hp4
          have e6 : Ex K [p] H' (upd H5 p (.lst (ys ++ [u5]))) := (e4.trans e5).head1 h3 (Ex.put hp5)
          refine ⟨p, ys, u5, rfl, rfl, hp5, h15 (by omega), ys ++ [u5], fs ++ [b], _, _, rfl, e2.trans e6, upd_same, (e6.tpA t3).snoc ((Ex.put (K := K) hp5).tp w5), fun d hd => ?_, List.pairwise_append.mpr ⟨dj, List.pairwise_singleton _ _, fun d hd d' hd' => ?_⟩, by rw [List.length_append, List.length_singleton]; omega⟩
          · rcases List.mem_append.mp hd with h | h
            · exact sub d h
            · rw [List.mem_singleton.mp h]
              exact mem_at hb
          · rw [List.mem_singleton.mp hd']
            exact disj_comm (c1 d hd)
        · exact ⟨ys, fs, _, _, rfl, e2.trans (e4.head1 h3 (Ex.reflL hp4)), hp4, e4.tpA t3, sub, dj, Nat.le_succ_of_le lf⟩
    · rintro σ Hc ⟨ys, fs, y4, y5, rfl, e2, h3, t3, sub, dj, lf⟩
      refine ⟨_, rfl, p, ys, kOf Hc, rfl, SqL.of h3, keys_of t3, fun zs p' srt stb hp' => ?_⟩
      obtain ⟨gs, tz, pm, sb⟩ := sorted_of t3 srt stb
      have e4 : Ex K [] Hc (upd Hc p' (.lst zs)) := Ex.new hp'
      refine ⟨p', zs, _, rfl, upd_same, e4.tpA tz, fun H5 u5 e5 t5 => ?_⟩
      have e02 : Ex K [l] H H2 := (hd.ex e1).trans g.e
      have e0c : Ex K [l] H Hc := e02.cut nw e2 (notin1 ne)
      refine q H5 u5 gs ((e0c.thenL e4).thenL e5) (((g.hd.go e2 (notin1 ne.symm)).go0 e4).go0 e5) t5 (ap_sorted dj pm sb) (fun b hb => g.ok b (sub b (pm.mem_iff.mp hb))) (by rw [pm.length_eq]; omega)
theorem ok_l_meet (D : Def K mg "_law_meet" s_l_meet) : Ok P w K mg base 1 "_law_meet" ["_law_one", "_law_other"] spMeet := by
  refine D.ok sc_l_meet (fun _ _ _ _ _ _ us hl => match us, hl with | [_, _], _ => rfl) (fun vs H Q E h => ?_) (fun f cdv A outer s H vs Q E hr h => ?_)
  · obtain ⟨v, u, a, b, rfl, _⟩ := h
    rfl
  · obtain ⟨v, u, a, b, rfl, ha, hb, h1, h2, q⟩ := h
    have fa : fin a = a.1 + 2 ^ a.2 := rfl
    have fb : fin b = b.1 + 2 ^ b.2 := rfl
    refine ⟨_, (pss_one (ps_ret (pe_and (pe_cmp (pc_lt (pe_at0 (pv 0)) (pe_op op_add (pe_at0 (pv 1)) (pe_shl1 (pe_at1 (pv 1)))))) (pe_one (pe_cmp (pc_lt (pe_at0 (pv 1)) (pe_op op_add (pe_at0 (pv 0)) (pe_shl1 (pe_at1 (pv 0)))))))))), ?_⟩
    refine ⟨_, rfl, a, ha, _, rfl, b, hb, _, rfl, b, hb, b.2, rfl, by omega, _, _, rfl, rfl, _, _, rfl, rfl, _, rfl, if2 (fun c1 => ?_) fun c1 => ?_⟩
    · refine ⟨_, rfl, b, hb, _, rfl, a, ha, _, rfl, a, ha, a.2, rfl, by omega, _, _, rfl, rfl, _, _, rfl, rfl, ?_⟩
      have e : decide (((b.1 : Nat) : Int) < ((a.1 : Nat) : Int) + ((2 ^ a.2 : Nat) : Int)) = !decide (disj a b) := by
        rw [Bool.eq_iff_iff, Bool.not_eq_true', decide_eq_true_iff, decide_eq_false_iff_not]
        unfold disj
        omega
      rw [← e] at q
      exact q
    · rw [decide_eq_true (show disj a b from .inr (by omega))] at q
      exact q
theorem ok_l_names (T : Txt mg) (D : Def K mg "_law_names" s_l_names) (g_l_take : Ok P w K mg base 1 "_law_take" ["_law_hand_here", "_law_many"] (spTake K)) (g_l_pick : Ok P w K mg base 2 "_law_pick" ["_law_hand_here", "_law_some"] (spPick K)) :
    Ok P w K mg base 3 "_law_names" ["_law_hand_here", "_law_many"] (spNames K) := by
  refine D.ok sc_l_names (fun _ _ _ _ _ _ us hl => match us, hl with | [_, _], _ => rfl) (fun vs H Q E h => ?_) (fun f cdv A outer s H vs Q E hr h => ?_)
  · obtain ⟨l, t, m, rfl, _⟩ := h
    rfl
  · obtain ⟨l, t, m, rfl, hd, ht, hm, q⟩ := h
    refine ⟨_, (pss_cons (ps_set (i := 2) sc_l_names.nd rfl (.inr rfl) pe_str)
      (pss_cons (ps_asg (pe_tupD (pa_cons (cl g_l_take hr (pa_cons (pv 0) (pa_cons pe_int pa_nil))) (pa_cons (cl g_l_pick hr (pa_cons (pv 0) (pa_cons (pe_lstD (pa_cons pe_int (pa_cons pe_int (pa_cons pe_int (pa_cons pe_int (pa_cons pe_int (pa_cons pe_int pa_nil))))))) pa_nil))) pa_nil))) (pg_tup rfl (pgs_cons (pg_name (i := 3) sc_l_names.nd rfl (.inr rfl)) (pgs_cons (pg_name (i := 4) sc_l_names.nd rfl (.inr rfl)) pgs_nil))))
      (pss_cons (ps_set (i := 5) sc_l_names.nd rfl (.inr rfl) (pe_op op_mulS (pe_ix ix_str (pv 2) (cl g_l_take hr (pa_cons (pv 0) (pa_cons pe_int pa_nil))) (fun _ _ => rfl)) (cl g_l_pick hr (pa_cons (pv 0) (pa_cons (pe_lstD (pa_cons pe_int (pa_cons pe_int (pa_cons pe_int (pa_cons pe_int (pa_cons pe_int pa_nil)))))) pa_nil)))))
      (pss_cons (ps_set (i := 6) sc_l_names.nd rfl (.inr rfl) (cl g_l_take hr (pa_cons (pv 0) (pa_cons (pe_op op_add (pe_callB call_len_str (by rfl) T.len (by decide +kernel) (pa_cons (pv 5) pa_nil)) pe_int) pa_nil))))
      (pss_one (ps_ret (pe_lc (own := [("_law_k", 7)]) (g := gName 7) (tt := tYes) rfl sc_l_names.nd (pi_range1 (by rfl) T.range (pa_cons (pv 1) pa_nil)) (blkOk_by (N := ["_law_hand_here", "_law_many", "_law_letters", "_law_first", "_law_step", "_law_stem", "_law_at", "_law_k"]) (sc := defScope s_l_names) (by decide +kernel)) (fun _ _ _ _ _ => (pg_name (i := 7) sc_l_names.nd rfl (.inl rfl))) (fun _ _ _ _ _ => pts_nil) (fun _ _ _ _ _ => (pe_op op_add_str (pe_op op_add_str (pe_slice sl_str (pv 5) po_none (po_some (pv 6))) (pe_ix ix_str (pv 2) (pe_op op_mod (pe_op op_add (pv 3) (pe_op op_mul (pv 4) (pv 7))) pe_int) (fun _ _ => rfl))) (pe_slice sl_str (pv 5) (po_some (pv 6)) po_none)))))))))), ?_⟩
    refine ⟨_, rfl, l, t, 26, rfl, hd, by omega, by decide, by decide, fun H1 f e1 hd1 hf => ?_⟩
    refine ⟨_, rfl, [1, 3, 5, 7, 9, 11].map PyData.int, .cons (.int _) (.cons (.int _) (.cons (.int _) (.cons (.int _) (.cons (.int _) (.cons (.int _) .nil))))), n1000, fun H2 p2 e2 n2 hp2 _ => ?_⟩
    refine ⟨l, p2, _, _, rfl, hd1.go0 e2, by omega, hp2, hd1.ne n2, (show (1 : Nat) ≤ 6 by decide), (show (6 : Nat) ≤ 100000 by decide), fun H3 i x e3 hd3 hx => ?_⟩
    obtain ⟨s, rfl, hs⟩ : ∃ s : Nat, x = .int (s : Nat) ∧ stepOk s := by
      have hm := mem_at hx
      simp only [List.mem_cons, List.not_mem_nil, or_false] at hm
      rcases hm with rfl | rfl | rfl | rfl | rfl | rfl
      · exact ⟨1, rfl, by simp [stepOk]⟩
      · exact ⟨3, rfl, by simp [stepOk]⟩
      · exact ⟨5, rfl, by simp [stepOk]⟩
      · exact ⟨7, rfl, by simp [stepOk]⟩
      · exact ⟨9, rfl, by simp [stepOk]⟩
      · exact ⟨11, rfl, by simp [stepOk]⟩
    have e03 := (e1.thenL e2).trans e3
    refine ⟨[.int (f : Nat), .int (s : Nat)], .cons (.int _) (.cons (.int _) .nil), n1000, fun H4 u4 e4 w4 => ?_⟩
    obtain ⟨c4, x4, y4, rfl, hc4, tx4, ty4⟩ := Tp.two w4
    have ex4 := tx4.intD
    have ey4 := ty4.intD
    subst ex4 ey4
    refine ⟨c4, _, rfl, SqT.of hc4, rfl, _, _, rfl, _, _, rfl, rfl, ?_⟩
    have hd4 := hd3.go0 e4
    refine ⟨_, rfl, _, rfl, l, _, 26, rfl, hd4, by omega, by decide, by decide, fun H5 d e5 hd5 hlt => ?_⟩
    obtain ⟨c, hc, hcm⟩ := lets_at hlt
    have llen : letters.length ≤ sizeLine := line_of (by show letters.cps.size ≤ 16000000; decide +kernel)
    refine ⟨letters, _, c, rfl, rfl, llen, atI_nat hc, ?_⟩
    refine ⟨_, rfl, [0, 1, 0, 3, 7].map PyData.int, .cons (.int _) (.cons (.int _) (.cons (.int _) (.cons (.int _) (.cons (.int _) .nil)))), n1000, fun H6 p6 e6 n6 hp6 _ => ?_⟩
    refine ⟨l, p6, _, _, rfl, hd5.go0 e6, by omega, hp6, hd5.ne n6, (show (1 : Nat) ≤ 5 by decide), (show (5 : Nat) ≤ 100000 by decide), fun H7 j x e7 hd7 hx => ?_⟩
    obtain ⟨k, rfl, k0, k1, sl, sm⟩ : ∃ k : Int, x = .int k ∧ 0 ≤ k ∧ k ≤ 1000 ∧ (Txt.mul ⟨#[c]⟩ k).length ≤ 7 ∧ ∀ y ∈ (Txt.mul ⟨#[c]⟩ k).cps.toList, y ∈ lets := by
      have hm := mem_at hx
      simp only [List.mem_cons, List.not_mem_nil, or_false] at hm
      have c0 : ∀ y ∈ (Txt.mul ⟨#[c]⟩ 0).cps.toList, y ∈ lets := fun y hy => by
        have hy : y ∈ ([] : List Nat) := hy
        cases hy
      rcases hm with rfl | rfl | rfl | rfl | rfl
      · exact ⟨0, rfl, by decide, by decide, (show (0 : Nat) ≤ 7 by decide), c0⟩
      · refine ⟨1, rfl, by decide, by decide, (show (1 : Nat) ≤ 7 by decide), fun y hy => ?_⟩
        have hy : y ∈ [c] := hy
        simp only [List.mem_cons, List.not_mem_nil, or_false, or_self] at hy
        rw [hy]
        exact hcm
      · exact ⟨0, rfl, by decide, by decide, (show (0 : Nat) ≤ 7 by decide), c0⟩
      · refine ⟨3, rfl, by decide, by decide, (show (3 : Nat) ≤ 7 by decide), fun y hy => ?_⟩
        have hy : y ∈ [c, c, c] := hy
        simp only [List.mem_cons, List.not_mem_nil, or_false, or_self] at hy
        rw [hy]
        exact hcm
      · refine ⟨7, rfl, by decide, by decide, (show (7 : Nat) ≤ 7 by decide), fun y hy => ?_⟩
        have hy : y ∈ [c, c, c, c, c, c, c] := hy
        simp only [List.mem_cons, List.not_mem_nil, or_false, or_self] at hy
        rw [hy]
        exact hcm
    refine ⟨⟨#[c]⟩, k, rfl, rfl, k0, k1, (show (1 : Nat) ≤ 1000 by decide), ?_⟩
    generalize hst : Txt.mul ⟨#[c]⟩ k = st at *
    refine ⟨_, rfl, _, rfl, st, rfl, line_of (by omega), _, _, rfl, rfl, l, _, st.length + 1, rfl, hd7, by omega, by omega, by omega, fun H8 a e8 hd8 ha => ?_⟩
    have e08 : Ex K [l] H H8 := (((((e03.thenL e4).trans e5).thenL e6).trans e7).trans e8)
    have ha' : a ≤ st.length := by omega
    refine ⟨_, rfl, _, rfl, by omega, by omega, fun D hD => ?_⟩
    refine lcY (K := K) (L := []) walk_range (fun i ds _ => ds = ((List.range i).map fun k => nameOf st.cps.toList a ((f + s * k) % 26)).map PyData.str) hD (by simp) (by omega) (fun _ _ => rfl) (fun _ _ _ _ h _ => h) (fun _ _ => trivial) ?_ ?_
    · rintro i ds x H9 H10 KP hi e9 rfl ⟨rfl, rfl⟩ hK
      obtain ⟨c', hc', _⟩ := lets_at (Nat.mod_lt (f + s * i) (show 0 < 26 by decide))
      have ei : (((f : Nat) : Int) + ((s : Nat) : Int) * (0 + ((i : Nat) : Int))) % 26 = (((f + s * i) % 26 : Nat) : Int) := by
        rw [Int.zero_add, ← Int.natCast_mul]
        omega
      have s12 : s ≤ 11 := by
        rcases hs with rfl | rfl | rfl | rfl | rfl | rfl <;> decide
      have l1 := cutS_length st none (some ((a : Nat) : Int))
      have l2 := cutS_length st (some ((a : Nat) : Int)) none
      refine ⟨rfl, _, rfl, _, rfl, _, rfl, st, rfl, line_of (by omega), ?_⟩
      refine ⟨_, rfl, _, rfl, _, rfl, _, rfl, _, _, rfl, rfl, .inl ⟨by omega, by omega⟩, _, _, rfl, rfl, _, _, rfl, rfl, (show (0 : Int) < 26 by decide), ?_⟩
      refine ⟨letters, _, c', rfl, rfl, llen, ?_, _, _, rfl, rfl, ?_, ?_⟩
      · show atI letters.cps.toList ((((f : Nat) : Int) + ((s : Nat) : Int) * (0 + ((i : Nat) : Int))) % 26) = some c'
        rw [ei]
        exact atI_nat hc'
      · refine line_of ?_
        show _ + 1 ≤ 16000000
        omega
      · refine ⟨_, rfl, _, rfl, _, rfl, st, rfl, line_of (by omega), _, _, rfl, rfl, ?_, ?_⟩
        · refine line_of ?_
          have : (cutS st none (some ((a : Nat) : Int)) ++ (⟨#[c']⟩ : Str)).length = (cutS st none (some ((a : Nat) : Int))).length + 1 := by
            show (_ ++ #[c']).size = _
            rw [Array.size_append]
            rfl
          omega
        · have en := name_eq ha' hc'
          rw [en]
          exact hK _ _ (.str _) Ex.refl (.str _) (by rw [List.range_succ, List.map_append, List.map_append]; rfl)
    · rintro H9 ls ds e9 hD9 td hl rfl
      rw [Int.toNat_natCast] at td
      have el := td.strs
      subst el
      refine q H9 D _ (e08.thenL e9) ((hd8.go0 e9).mono (by omega)) (e08.nw hD) (hd8.ne hD) hD9 (by rw [List.length_map, List.length_range]) (names_nd hs (by omega)) fun z hz => ?_
      obtain ⟨k', _, rfl⟩ := List.mem_map.mp hz
      refine nameOf_nm ?_ sm (Nat.mod_lt _ (by decide))
      rw [Array.length_toList]
      exact sl
end
end K54
end
section
set_option Elab.async false
set_option linter.all false
set_option maxRecDepth 100000
set_option maxHeartbeats 4000000
/-! The law's deal, kept. -/
namespace K54
open PySem PySem.Spec PyProof.Rows L2
section
variable {K : PySem.W.Frag} {J : It} {n : Nat} {G : Hp → Prop} {Y : Nat → Hp → V → Hp → Prop} {L : List Addr}
/-- over a walk: D the new list, its data so far; Jv what is known besides -/
theorem lcE (w : Walk J n G Y) {g : TG} {tt : TT} {te : TE} {vs : List Nat} {σ : L2.St} {H1 : Hp} {D : Addr} {Qd : Hp → Prop} (Jv : Nat → List PyData → Hp → Prop) (hD : H1 D = none) (hL : ∀ l ∈ L, ∃ xs, H1 l = some (.lst xs)) (hn : n ≤ 16000000)
    (j0 : Jv 0 [] (upd H1 D (.lst []))) (hJ : ∀ i ds H H', Jv i ds H → Ex K [D] H H' → Jv i ds H') (hG : ∀ H, Ex K L H1 H → G H)
    (hs : ∀ i ds x H H' (KP : VK) (SK : Hp → Prop), i < n → Ex K L H1 H → Jv i ds H → Y i H x H' → (∀ y H4 d, Ex K L H H4 → Tp H4 y d → Jv (i + 1) (ds ++ [d]) H4 → KP y H4) → (∀ H3, Ex K L H H3 → Jv (i + 1) ds H3 → SK H3) →
      g x (wipe σ vs) H' fun σ2 H2 => wipe σ2 vs = wipe σ vs ∧ tt σ2 H2 fun b H3 => if b = true then te σ2 H3 KP else SK H3)
    (hd : ∀ H xs ds, Ex K L H1 H → H D = some (.lst xs) → TpA H xs ds → ds.length ≤ n → Jv n ds H → Qd H) :
    ∃ W : Nat → Nat → Hp → Prop, (∃ m, W 0 m (upd H1 D (.lst []))) ∧ ∀ i m H, W i m H → (J.stop i H ∧ Qd H) ∨
      (J.go i H ∧ ∃ Nx : Hp → Prop, (∀ H', Nx H' → ∃ m', m' < m ∧ W (i + 1) m' H') ∧ ∀ x H', J.yld i H x H' → g x (wipe σ vs) H' fun σ2 H2 => wipe σ2 vs = wipe σ vs ∧ tt σ2 H2 fun b H3 =>
        if b = true then te σ2 H3 fun y H4 => ∃ acc, H4 D = some (.lst acc) ∧ acc.length < sizeLine ∧ Nx (upd H4 D (.lst (acc ++ [y]))) else Nx H3) := by
  have nD : D ∉ L := fun h => by
    obtain ⟨xs, q⟩ := hL D h
    rw [hD] at q
    cases q
  have e1 : Ex K L H1 (upd H1 D (.lst [])) := (Ex.reflLs hL).newL hD
  refine lc_it w (fun i H => ∃ xs ds, Ex K L H1 H ∧ H D = some (.lst xs) ∧ TpA H xs ds ∧ ds.length ≤ i ∧ Jv i ds H) ⟨[], [], e1, upd_same, .nil, Nat.le_refl _, j0⟩ (fun i H _ ⟨_, _, e, _⟩ => hG H e) ?_ ?_
  · rintro i x H H' hi ⟨xs, ds, e, hx, td, hl, j⟩ y
    refine hs i ds x H H' _ _ hi e j y (fun z H4 d e4 tz j4 => ?_) fun H3 e3 j3 => ⟨xs, ds, e.trans e3, e3.lst nD hx, e3.tpA td, Nat.le_succ_of_le hl, j3⟩
    have h4 := e4.lst nD hx
    have ep : Ex K [D] H4 (upd H4 D (.lst (xs ++ [z]))) := Ex.put h4
    have hz : xs.length < sizeLine := Nat.lt_of_lt_of_le (show xs.length < 16000001 by rw [td.len]; omega) (by rw [sizeLine_eq]; decide)
    refine ⟨xs, h4, hz, xs ++ [z], ds ++ [d], (e.trans e4).cut (Nw.of hD) ep nD, upd_same, ep.tpA ((e4.tpA td).app (.cons tz .nil)), ?_, hJ _ _ _ _ j4 ep⟩
    rw [List.length_append, List.length_singleton]
    omega
  · rintro H ⟨xs, ds, e, hx, td, hl, j⟩
    exact hd H xs ds e hx td hl j
theorem lcZ (w : Walk J n G Y) {g : TG} {te : TE} {vs : List Nat} {σ : L2.St} {H1 : Hp} {D : Addr} {Qd : Hp → Prop} (Jv : Nat → List PyData → Hp → Prop) (hD : H1 D = none) (hL : ∀ l ∈ L, ∃ xs, H1 l = some (.lst xs)) (hn : n ≤ 16000000)
    (j0 : Jv 0 [] (upd H1 D (.lst []))) (hJ : ∀ i ds H H', Jv i ds H → Ex K [D] H H' → Jv i ds H') (hG : ∀ H, Ex K L H1 H → G H)
    (hs : ∀ i ds x H H' (KP : VK), i < n → Ex K L H1 H → Jv i ds H → Y i H x H' → (∀ y H4 d, Ex K L H H4 → Tp H4 y d → Jv (i + 1) (ds ++ [d]) H4 → KP y H4) → g x (wipe σ vs) H' fun σ2 H2 => wipe σ2 vs = wipe σ vs ∧ te σ2 H2 KP)
    (hd : ∀ H xs ds, Ex K L H1 H → H D = some (.lst xs) → TpA H xs ds → ds.length ≤ n → Jv n ds H → Qd H) :
    ∃ W : Nat → Nat → Hp → Prop, (∃ m, W 0 m (upd H1 D (.lst []))) ∧ ∀ i m H, W i m H → (J.stop i H ∧ Qd H) ∨
      (J.go i H ∧ ∃ Nx : Hp → Prop, (∀ H', Nx H' → ∃ m', m' < m ∧ W (i + 1) m' H') ∧ ∀ x H', J.yld i H x H' → g x (wipe σ vs) H' fun σ2 H2 => wipe σ2 vs = wipe σ vs ∧ tYes σ2 H2 fun b H3 =>
        if b = true then te σ2 H3 fun y H4 => ∃ acc, H4 D = some (.lst acc) ∧ acc.length < sizeLine ∧ Nx (upd H4 D (.lst (acc ++ [y]))) else Nx H3) :=
  lcE w Jv hD hL hn j0 hJ hG (fun i ds x H H' KP _ hi e j y hk _ => hs i ds x H H' KP hi e j y hk) hd
end
theorem nm_ok {z : Str} (h : Nm z) : PyData.strOk z = true := by
  have hb : ∀ c ∈ letters.cps.toList, c < 0x110000 := by decide +kernel
  unfold PyData.strOk
  rw [← Array.all_toList, List.all_eq_true]
  exact fun c hc => decide_eq_true (hb c (h.all c hc))
theorem strs_lay : ∀ ns : List Str, (∀ z ∈ ns, Nm z) → PyData.canLayAll0 (ns.map PyData.str) = true
  | [], _ => by simp [PyData.canLayAll0]
  | b :: bs, hn => by
    have h : (PyData.str b).canLay0 = true := by
      simp only [PyData.canLay0]
      exact nm_ok (hn b List.mem_cons_self)
    simp [PyData.canLayAll0, h, strs_lay bs fun z hz => hn z (List.mem_cons_of_mem _ hz)]
theorem strs_depth : ∀ ns : List Str, PyData.depthAll (ns.map PyData.str) ≤ 0
  | [] => by simp [PyData.depthAll]
  | b :: bs => by
    have h1 := strs_depth bs
    have h2 : (PyData.str b).depth = 0 := by simp [PyData.depth]
    simp only [List.map_cons, PyData.depthAll]
    omega
theorem strs_shaped (ns : List Str) (hn : ∀ z ∈ ns, Nm z) : SeqAt.shaped (.list (ns.map PyData.str)) = true := by
  have := strs_depth ns
  exact shaped_of (by simp only [PyData.canLay0]; exact strs_lay ns hn) (by simp only [PyData.depth]; omega)
structure KeptI (outs : List O) (zs : List Str) (ks : List O) (done : List B) : Prop where
  sub : (blks ks).Sublist done
  tog : Tog outs ks
  nm : ∀ k ∈ ks, k.2 ∈ zs
theorem KeptI.skip {outs : List O} {zs : List Str} {ks : List O} {done : List B} (h : KeptI outs zs ks done) (b : B) : KeptI outs zs ks (done ++ [b]) := ⟨h.sub.trans (List.sublist_append_left _ _), h.tog, h.nm⟩
theorem KeptI.add {outs : List O} {zs : List Str} {ks : List O} {done : List B} {b : B} {z : Str} (h : KeptI outs zs ks done) (hz : z ∈ zs) (ht : ∀ o ∈ outs, o.2 = z ∨ disj o.1 b) : KeptI outs zs (ks ++ [(b, z)]) (done ++ [b]) := by
  refine ⟨?_, fun o ho k hk => ?_, fun k hk => ?_⟩
  · unfold blks
    rw [List.map_append]
    exact h.sub.append (List.Sublist.refl _)
  · rcases List.mem_append.mp hk with q | q
    · exact h.tog o ho k q
    · rw [List.mem_singleton.mp q]
      exact ht o ho
  · rcases List.mem_append.mp hk with q | q
    · exact h.nm k q
    · rw [List.mem_singleton.mp q]
      exact hz
def mineB (nm : Option Str) (o : O) : Bool := match nm with | none => true | some z => decide (o.2 = z)
def mineN (kept : List O) (nm : Option Str) : List B := blks (kept.filter (mineB nm))
theorem mineN_len (kept : List O) (nm : Option Str) : (mineN kept nm).length ≤ kept.length := by rw [mineN, blks_len]; exact List.length_filter_le _ _
theorem mineN_mem {kept : List O} {nm : Option Str} {b : B} : b ∈ mineN kept nm ↔ ∃ o, o ∈ kept ∧ mineB nm o = true ∧ o.1 = b := by
  unfold mineN blks
  rw [List.mem_map]
  exact ⟨fun ⟨o, h, e⟩ => ⟨o, (List.mem_filter.mp h).1, (List.mem_filter.mp h).2, e⟩, fun ⟨o, h, k, e⟩ => ⟨o, List.mem_filter.mpr ⟨h, k⟩, e⟩⟩
def keptS (outs kept : List O) (nm : Option Str) (x : Nat) : Prop := cov (mineN kept nm) x ∧ ¬ cov (blks outs) x
def spDeal (K : PySem.W.Frag) : Sp := fun vs H Q _ => ∃ (l nl : Addr) (t n m : Nat) (zs : List Str), vs = [.ref l, .int (n : Nat), .ref nl, .int (m : Nat)] ∧ Hand H l t ∧ t ≤ 60000 ∧ 1 ≤ n ∧ n ≤ 64 ∧ m ≤ 40 ∧ H nl = some (.lst (zs.map V.str)) ∧ nl ≠ l ∧ 1 ≤ zs.length ∧ zs.length ≤ 20 ∧ (∀ z ∈ zs, Nm z) ∧
  ∀ H' u outs kept, Ex K [l] H H' → Hand H' l (t + 2000) → Tp H' u (dD n outs kept) → Deal n outs kept → outs.length ≤ 40 → kept.length ≤ 40 → (∀ o ∈ outs, o.2 ∈ zs) → (∀ o ∈ kept, o.2 ∈ zs) → Q u H'
def spLKept (K : PySem.W.Frag) : Sp := fun vs H Q _ => ∃ (v : V) (nm : Option Str) (n : Nat) (outs kept : List O), vs = [v, nmV nm] ∧ Tp H v (dD n outs kept) ∧ Deal n outs kept ∧ Tb K H ∧
  ∀ H' u fs, Ex K [] H H' → Tp H' u (pD fs) → Few n fs (keptS outs kept nm) → fs.length ≤ 1313000 → Q u H'
section
variable {P : Program} {w : World} {K : PySem.W.Frag} {mg : Str → Option Value} {base : Heap}
theorem ok_l_deal (T : Txt mg) (D : Def K mg "_law_deal" s_l_deal) (g_l_pick : Ok P w K mg base 2 "_law_pick" ["_law_hand_here", "_law_some"] (spPick K)) (g_l_patch : Ok P w K mg base 6 "_law_patch" ["_law_hand_here", "_law_bits_here", "_law_most"] (spPatch K)) (g_l_meet : Ok P w K mg base 1 "_law_meet" ["_law_one", "_law_other"] spMeet) :
    Ok P w K mg base 7 "_law_deal" ["_law_hand_here", "_law_bits_here", "_law_names_here", "_law_most"] (spDeal K) := by
  refine D.ok sc_l_deal (fun _ _ _ _ _ _ us hl => match us, hl with | [_, _, _, _], _ => rfl) (fun vs H Q E h => ?_) (fun f cdv A outer s H vs Q E hr h => ?_)
  · obtain ⟨l, nl, t, n, m, zs, rfl, _⟩ := h
    rfl
  · obtain ⟨l, nl, t, n, m, zs, rfl, hd, ht, n1, n64, m40, hnl, nel, z1, z20, zn, q⟩ := h
    refine ⟨_, (pss_cons (ps_setLc (i := 4) (own := [("_law_block_here", 6)]) (g := gName 6) (tt := tYes) (te := tTupD K _) rfl sc_l_deal.nd rfl rfl (sw_true rfl rfl rfl (by decide +kernel)) (pi_tup (cl g_l_patch hr (pa_cons (pv 0) (pa_cons (pv 1) (pa_cons (pv 3) pa_nil))))) (blkOk_by (N := ["_law_hand_here", "_law_bits_here", "_law_names_here", "_law_most", "_law_outs", "_law_kept_here", "_law_block_here", "_law_there", "_law_name", "_law_one"]) (sc := defScope s_l_deal) (by decide +kernel)) (fun _ _ _ _ _ => (pg_name (i := 6) sc_l_deal.nd rfl (.inl rfl))) (fun _ _ _ _ _ => pts_nil) (fun _ _ _ _ _ => (pe_tupD (pa_cons (pv 6) (pa_cons (cl g_l_pick hr (pa_cons (pv 0) (pa_cons (pv 2) pa_nil))) pa_nil)))))
      (pss_cons (ps_set (i := 5) sc_l_deal.nd rfl (.inl rfl) (pe_lstD pa_nil))
      (pss_cons (ps_for PassesOwn.never rfl (pi_tup (cl g_l_patch hr (pa_cons (pv 0) (pa_cons (pv 1) (pa_cons (pv 3) pa_nil))))) (pg_name (i := 6) sc_l_deal.nd rfl (.inr rfl))
        (pss_cons (ps_setLc (i := 7) (own := [("_law_one", 9), ("_law_name", 8)]) (g := gTup K 2 (gCons (gName 9) (gCons (gName 8) gNil))) rfl sc_l_deal.nd rfl rfl (sw_true rfl rfl rfl (by decide +kernel)) (pi_list (pv 4)) (blkOk_by (N := ["_law_hand_here", "_law_bits_here", "_law_names_here", "_law_most", "_law_outs", "_law_kept_here", "_law_block_here", "_law_there", "_law_name", "_law_one"]) (sc := defScope s_l_deal) (by decide +kernel)) (fun _ _ _ _ _ => (pg_tup rfl (pgs_cons (pg_name (i := 9) sc_l_deal.nd rfl (.inl rfl)) (pgs_cons (pg_name (i := 8) sc_l_deal.nd rfl (.inl rfl)) pgs_nil)))) (fun _ _ _ _ _ => pts_one (pt_val (cl g_l_meet hr (pa_cons (pv 9) (pa_cons (pv 6) pa_nil))))) (fun _ _ _ _ _ => (pv 8)))
        (pss_cons (ps_set (i := 8) sc_l_deal.nd rfl (.inr rfl) (pe_ix ix_list (pe_op op_catD (pv 7) (pe_lstD (pa_cons (cl g_l_pick hr (pa_cons (pv 0) (pa_cons (pv 2) pa_nil))) pa_nil))) pe_int (fun _ _ => rfl)))
        (pss_one (ps_if (pt_cmpR (op_eqD hr.units) (pe_lc (own := [("_law_one", 9)]) (g := gName 9) rfl sc_l_deal.nd (pi_list (pv 7)) (blkOk_by (N := ["_law_hand_here", "_law_bits_here", "_law_names_here", "_law_most", "_law_outs", "_law_kept_here", "_law_block_here", "_law_there", "_law_name", "_law_one"]) (sc := defScope s_l_deal) (by decide +kernel)) (fun _ _ _ _ _ => (pg_name (i := 9) sc_l_deal.nd rfl (.inl rfl))) (fun _ _ _ _ _ => pts_one (pt_cmpR op_ne (pv 9) (pv 8) (nomark _))) (fun _ _ _ _ _ => (pv 9))) (pe_lstD pa_nil) (nomark _)) (pss_one (ps_expr (pe_bm PySem.F.plainAttrs_list PySem.F.slot_list_append PySem.F.type_list_append mt_append (pv 5) (pa_cons (pe_tupD (pa_cons (pv 6) (pa_cons (pv 8) pa_nil))) pa_nil)))) pss_nil)))))
      (pss_one (ps_ret (pe_tupD (pa_cons (pv 1) (pa_cons (pe_callTy cr_tupL (by rfl) T.tuple (by decide +kernel) (pa_cons (pv 4) pa_nil)) (pa_cons (pe_callTy cr_tupL (by rfl) T.tuple (by decide +kernel) (pa_cons (pv 5) pa_nil)) pa_nil))))))))), ?_⟩
    have lz : (zs.map V.str).length = zs.length := List.length_map _
    refine ⟨_, rfl, _, rfl, _, rfl, l, t, n, m, rfl, hd, by omega, n1, n64, m40, fun H1 u1 bs1 e1 hd1 t1 ap1 ok1 l1 => ?_⟩
    obtain ⟨a1, xs1, rfl, ha1, tx1⟩ := t1.pa
    have lx1 := tx1.lenB
    refine ⟨a1, rfl, ⟨xs1, SqT.of ha1⟩, fun D hD => ?_⟩
    refine lcZ (K := K) (L := [l]) (walk_tup (K := K) (a := a1) (xs := xs1)) (fun i ds Hc => ∃ os : List O, ds = os.map oD ∧ blks os = bs1.take i ∧ (∀ o ∈ os, o.2 ∈ zs) ∧ Hand Hc l (t + 600 + i)) hD hd1.hL (by omega) ⟨[], rfl, rfl, fun o ho => (by cases ho), hd1.go0 (Ex.new (K := K) hD)⟩ (fun i ds Hc Hd ⟨os, h1, h2, h3, h4⟩ e => ⟨os, h1, h2, h3, h4.go e (notin1 (hd1.ne hD).symm)⟩) (fun Hc e => SqT.of (e.tup ha1)) ?_ ?_
    · rintro i ds x H2 H3 KP hi e2 ⟨os, rfl, hb, hm, hd2⟩ ⟨rfl, hx⟩ hK
      obtain ⟨b, hb2, tb0⟩ := tx1.bk hx
      have tb := e2.tp tb0
      refine ⟨rfl, _, rfl, _, rfl, _, rfl, l, nl, _, zs.map V.str, rfl, hd2, by omega, (e1.trans e2).lst (notin1 nel) hnl, nel, by omega, by omega, fun H4 j y e4 hd4 hy => ?_⟩
      obtain ⟨z, hz, rfl⟩ := map_at hy
      refine ⟨[bD b, .str z], .cons (e4.tp tb) (.cons (.str z) .nil), n1000, fun H5 u5 e5 w5 => ?_⟩
      refine hK _ _ (oD (b, z)) (e4.thenL e5) w5 ⟨os ++ [(b, z)], by rw [List.map_append]; rfl, ?_, fun o ho => ?_, hd4.go0 e5⟩
      · unfold blks at hb ⊢
        rw [List.map_append, hb, take_snoc hb2]
        rfl
      · rcases List.mem_append.mp ho with h | h
        · exact hm o h
        · rw [List.mem_singleton.mp h]
          exact mem_at hz
    · rintro H2 xs ds e2 hD2 td hl ⟨outs, rfl, hbl, hom, hd2⟩
      rw [lx1, List.take_length] at hbl
      have ol : outs.length = bs1.length := by rw [← blks_len, hbl]
      have nlD : D ≠ l := hd1.ne hD
      have lxs := td.lenB
      have e02 := e1.trans e2
      have oo : ∀ o ∈ outs, Okb n o.1 := fun o ho => ok1 o.1 (by rw [← hbl]; exact List.mem_map_of_mem ho)
      refine ⟨[], .nil, n1000, fun H3 p e3 hn3 hp3 _ => ?_⟩
      have nwp : Nw H2 p := Nw.of hn3
      have nep : p ≠ l := hd2.ne hn3
      have npD : p ≠ D := (ne_of_none hD2 hn3).symm
      have hd3 := hd2.go0 e3
      refine ⟨_, rfl, _, rfl, _, rfl, l, _, n, m, rfl, hd3, by omega, n1, n64, m40, fun H4 u4 bs4 e4 hd4 t4 ap4 ok4 l4 => ?_⟩
      obtain ⟨a4, xs4, rfl, ha4, tx4⟩ := t4.pa
      have lx4 := tx4.lenB
      refine ⟨a4, rfl, ⟨xs4, SqT.of ha4⟩, ?_⟩
      refine for_it (walk_tup (K := K) (a := a4) (xs := xs4)) (fun i σ Hc => ∃ (ys : List V) (ks : List O) (y6 y7 y8 : Option V), σ = [some (.ref l), some (.int (n : Nat)), some (.ref nl), some (.int (m : Nat)), some (.ref D), some (.ref p), y6, y7, y8, none] ∧
          Ex K [l] H2 Hc ∧ Hand Hc l (t + 600 + bs1.length + 600 + i) ∧ Hc p = some (.lst ys) ∧ TpA Hc ys (ks.map oD) ∧ Hc a4 = some (.tup xs4) ∧ TpA Hc xs4 (bs4.map bD) ∧ KeptI outs zs ks (bs4.take i))
        ⟨[], [], none, none, none, rfl, (hd2.ex e3).trans e4, hd4.mono (by rw [lx1]; omega), e4.lst (notin1 nep) hp3, .nil, ha4, tx4, ⟨List.Sublist.refl _, fun o ho k hk => (by cases hk), fun k hk => (by cases hk)⟩⟩ ?_ ?_ ?_
      · rintro i σ Hc _ ⟨ys, ks, y6, y7, y8, rfl, _, _, _, _, h, _⟩
        exact SqT.of h
      · rintro i x σ Hc H' hi ⟨ys, ks, y6, y7, y8, rfl, e5, hd5, hp5, tp5, ha5, tx5, ki⟩ ⟨rfl, hx⟩
        obtain ⟨b, hb, tb⟩ := tx5.bk hx
        have ob := ok4 b (mem_at hb)
        have hD5 := e5.lst (notin1 nlD) hD2
        have td5 := e5.tpA td
        have hks : ks.length ≤ 40 := by
          have h1 := ki.sub.length_le
          rw [blks_len, List.length_take] at h1
          omega
        refine ⟨_, rfl, D, rfl, ⟨xs, SqL.of hD5⟩, fun D2 hD2' => ?_⟩
        refine lcD (K := K) (L := []) (walk_list (K := K) (a := D) (xs := xs)) (fun j ds _ => ds = (((outs.take j).filter fun o => !decide (disj o.1 b)).map (·.2)).map PyData.str) hD2' (by simp) (by omega) (fun _ _ => rfl) (fun _ _ _ _ h _ => h) (fun H e => SqL.of (e.lst0 hD5)) ?_ ?_
        · rintro j ds z H6 H7 KP SK hj e6 rfl ⟨rfl, hz⟩ hK hS
          obtain ⟨o, ho, to⟩ := td5.ow hz
          obtain ⟨c, d, rfl, hc, hd'⟩ := to.ow
          refine ⟨c, _, rfl, SqT.of (e6.tup hc), rfl, _, _, rfl, _, _, rfl, rfl, rfl, _, rfl, _, rfl, _, _, o.1, b, rfl, e6.tp (Tp.bkI hd'), e6.tp tb, (oo o (mem_at ho)).h900 n64, ob.h900 n64, _, rfl, if2N (fun c1 => ?_) fun c1 => ?_⟩
          · refine ⟨_, rfl, hK _ _ (.str o.2) Ex.refl (.str _) ?_⟩
            have e : [o].filter (fun o => !decide (disj o.1 b)) = [o] := by simp [c1]
            rw [take_snoc ho, List.filter_append, e, List.map_append, List.map_append]
            rfl
          · refine hS _ Ex.refl ?_
            have e : [o].filter (fun o => !decide (disj o.1 b)) = [] := by simp [c1]
            rw [take_snoc ho, List.filter_append, e, List.append_nil]
        · rintro H6 ls ds e6 hD6 td6 hl6 rfl
          rw [lxs, List.take_length] at td6
          have el := td6.strs
          subst el
          generalize hws : (outs.filter fun o => !decide (disj o.1 b)).map (·.2) = ws at *
          have wsz : ∀ z ∈ ws, z ∈ zs := fun z hz => by
            rw [← hws] at hz
            obtain ⟨o, ho, rfl⟩ := List.mem_map.mp hz
            exact hom o (List.mem_filter.mp ho).1
          have lw : ws.length ≤ 40 := by
            have h1 := List.length_filter_le (fun o : O => !decide (disj o.1 b)) outs
            rw [← hws, List.length_map]
            omega
          have e56 := e5.thenL e6
          refine ⟨_, rfl, _, rfl, _, rfl, l, nl, _, zs.map V.str, rfl, hd5.go0 e6, by omega, (e02.trans e56).lst (notin1 nel) hnl, nel, by omega, by omega, fun H7 j y e7 hd7 hy => ?_⟩
          obtain ⟨z, hz, rfl⟩ := map_at hy
          refine ⟨[.str z], .cons (.str _) .nil, n1000, fun H8 p8 e8 n8 hp8 t8 => ?_⟩
          have hD7 := e7.lst (notin1 (hd5.ne hD2')) hD6
          refine ⟨D2, p8, _, _, _, _, rfl, rfl, e8.lst0 hD7, hp8, e8.tpA (e7.tpA td6), t8, by rw [List.length_map]; simp; omega, fun H9 p9 e9 n9 hp9 _ => ?_⟩
          obtain ⟨nmz, hn0, hnz⟩ : ∃ nmz, (ws.map V.str ++ [V.str z])[0]? = some (V.str nmz) ∧ nmz ∈ zs := by
            cases ws with
            | nil => exact ⟨z, rfl, mem_at hz⟩
            | cons w ws => exact ⟨w, rfl, wsz w List.mem_cons_self⟩
          refine ⟨p9, _, 0, _, rfl, rfl, SqL.of hp9, atI_nat (j := 0) hn0, ?_⟩
          have e69 : Ex K [l] H6 H9 := (e7.thenL e8).thenL e9
          have hD9 := e9.lst0 (e8.lst0 hD7)
          refine ⟨_, rfl, D2, rfl, ⟨_, SqL.of hD9⟩, fun D3 hD3 => ?_⟩
          refine lcD (K := K) (L := []) (walk_list (K := K) (a := D2) (xs := ws.map V.str)) (fun j ds _ => ds = ((ws.take j).filter fun v => !decide (v = nmz)).map PyData.str) hD3 (by simp) (by rw [List.length_map]; omega) (fun _ _ => rfl) (fun _ _ _ _ h _ => h) (fun H e => SqL.of (e.lst0 hD9)) ?_ ?_
          · rintro j ds y H10 H11 KP SK hj e10 rfl ⟨rfl, hy⟩ hK hS
            obtain ⟨v, hv, rfl⟩ := map_at hy
            refine ⟨rfl, _, rfl, _, rfl, rfl, _, rfl, if2N (fun c1 => ?_) fun c1 => ?_⟩
            · refine ⟨_, rfl, hK _ _ (.str v) Ex.refl (.str _) ?_⟩
              have c2 : ¬ v = nmz := fun e => c1 (congrArg V.str e)
              have e : [v].filter (fun v => !decide (v = nmz)) = [v] := by simp [c2]
              rw [take_snoc hv, List.filter_append, e, List.map_append]
              rfl
            · refine hS _ Ex.refl ?_
              have c2 : v = nmz := V.str.inj c1
              have e : [v].filter (fun v => !decide (v = nmz)) = [] := by simp [c2]
              rw [take_snoc hv, List.filter_append, e, List.append_nil]
          · rintro H10 ls ds e10 hD10 td10 hl10 rfl
            rw [List.length_map, List.take_length] at td10
            refine ⟨[], .nil, n1000, fun H11 p11 e11 n11 hp11 _ => ?_⟩
            refine ⟨.list _, .list [], .lst (SqL.of (e11.lst0 hD10)) (e11.tpA td10).dp, .lst (SqL.of hp11) .nil, strs_shaped _ (fun v hv => zn v (wsz v (List.mem_filter.mp hv).1)), rfl, _, rfl, ?_⟩
            rw [eqv_nil]
            have e511 : Ex K [l] H' H11 := ((((hd5.ex e6).trans e69).thenL e10).thenL e11)
            have hd11 : Hand H11 l (t + 600 + bs1.length + 600 + (i + 1)) := (((hd7.go0 e8).go0 e9).go0 e10).go0 e11
            have hp11' := e511.lst (notin1 nep) hp5
            refine if2 (fun c1 => ?_) fun c1 => ?_
            · have c2 := List.filter_eq_nil_iff.mp (List.map_eq_nil_iff.mp c1)
              refine ⟨_, rfl, .inl ⟨rfl, _, SqL.of hp11'⟩, _, rfl, _, rfl, [bD b, .str nmz], .cons (e511.tp tb) (.cons (.str _) .nil), n1000, fun H12 u e12 w12 => ?_⟩
              have hp12 := e12.lst0 hp11'
              have e5b := (e511.thenL e12)
              have ep : Ex K [p] H12 (upd H12 p (.lst (ys ++ [u]))) := Ex.put hp12
              have lys := tp5.lenB
              refine ⟨p, ys, u, rfl, rfl, hp12, h15 (by omega), ys ++ [u], ks ++ [(b, nmz)], _, _, _, rfl, (e5.trans e5b).cut nwp ep (notin1 nep), (hd11.go0 e12).go ep (notin1 nep.symm), upd_same, (ep.tpA (e5b.tpA tp5)).snoc (ep.tp w12), ep.tup (e5b.tup ha5), ep.tpA (e5b.tpA tx5), ?_⟩
              rw [take_snoc hb]
              refine ki.add hnz fun o ho => ?_
              by_cases dj : disj o.1 b
              · exact .inr dj
              · refine .inl ?_
                have hm : o.2 ∈ ws := by
                  rw [← hws]
                  exact List.mem_map_of_mem (f := fun o : O => o.2) (List.mem_filter.mpr ⟨ho, by simp [dj]⟩)
                have h1 := c2 o.2 hm
                simpa using h1
            · refine ⟨ys, ks, _, _, _, rfl, e5.trans e511, hd11, hp11', e511.tpA tp5, e511.tup ha5, e511.tpA tx5, ?_⟩
              rw [take_snoc hb]
              exact ki.skip b
      · rintro σ Hc ⟨ys, ks, y6, y7, y8, rfl, e5, hd5, hp5, tp5, _, _, ki⟩
        have kb : ∀ k ∈ ks, k.1 ∈ bs4 := fun k hk => List.mem_of_mem_take (ki.sub.mem (List.mem_map_of_mem hk))
        have klen : ks.length ≤ 40 := by
          have h1 := ki.sub.length_le
          rw [blks_len, List.length_take] at h1
          omega
        refine ⟨_, rfl, _, rfl, D, xs, _, rfl, e5.lst (notin1 nlD) hD2, e5.tpA td, fun H6 u6 e6 w6 => ?_⟩
        refine ⟨_, rfl, p, ys, _, rfl, e6.lst0 hp5, e6.tpA tp5, fun H7 u7 e7 w7 => ?_⟩
        refine ⟨[.int (n : Nat), osD outs, osD ks], .cons (.int _) (.cons (e7.tp w6) (.cons w7 .nil)), n1000, fun H8 u8 e8 w8 => ?_⟩
        refine q H8 u8 outs ks ((((e02.trans e5).thenL e6).thenL e7).thenL e8) ((((hd5.go0 e6).go0 e7).go0 e8).mono (by omega)) w8 ?_ (by omega) klen hom ki.nm
        exact ⟨n1, n64, oo, fun k hk => ok4 k.1 (kb k hk), fun o ho => zn _ (hom o ho), fun k hk => zn _ (ki.nm k hk), by rw [hbl]; exact ap1, ap4.sublist (ki.sub.trans (List.take_sublist _ _)), ki.tog, by omega, by omega⟩
theorem ok_l_kept (D : Def K mg "_law_kept" s_l_kept) (g_fewest : Ok P w K mg base 5 "fewest" ["blocks"] (spFewest K)) (g_without : Ok P w K mg base 6 "without" ["one", "other"] (spWithout K)) : Ok P w K mg base 7 "_law_kept" ["_law_deal_here", "_law_name"] (spLKept K) := by
  refine D.ok sc_l_kept (fun _ _ _ _ _ _ us hl => match us, hl with | [_, _], _ => rfl) (fun vs H Q E h => ?_) (fun f cdv A outer s H vs Q E hr h => ?_)
  · obtain ⟨v, nm, n, outs, kept, rfl, _⟩ := h
    rfl
  · obtain ⟨v, nm, n, outs, kept, rfl, hv, dl, tb, q⟩ := h
    obtain ⟨a, x0, x1, x2, rfl, ha, t0, t1, t2⟩ := hv.three
    obtain ⟨b1, ys1, rfl, hb1, ty1⟩ := t1.osA
    obtain ⟨b2, ys2, rfl, hb2, ty2⟩ := t2.osA
    have ly1 := ty1.lenB
    have ly2 := ty2.lenB
    have ol := dl.ol
    have kl := dl.kl
    refine ⟨_, (pss_cons (ps_set (i := 2) sc_l_kept.nd rfl (.inl rfl) (cl g_fewest hr (pa_cons (pe_lc (own := [("_law_block_here", 3), ("_law_owner", 4)]) (g := gTup K 2 (gCons (gName 3) (gCons (gName 4) gNil))) rfl sc_l_kept.nd (pi_tup (pe_ix ix_tup (pv 0) pe_int (fun _ _ => rfl))) (blkOk_by (N := ["_law_deal_here", "_law_name", "_law_mine", "_law_block_here", "_law_owner"]) (sc := defScope s_l_kept) (by decide +kernel)) (fun _ _ _ _ _ => (pg_tup rfl (pgs_cons (pg_name (i := 3) sc_l_kept.nd rfl (.inl rfl)) (pgs_cons (pg_name (i := 4) sc_l_kept.nd rfl (.inl rfl)) pgs_nil)))) (fun _ _ _ _ _ => pts_one (PW.pt (pw_or (pt_cmpR op_isN (pv 1) pe_non (nomark _)) (pw_or1 (pt_cmpR op_eq (pv 4) (pv 1) (nomark _)))))) (fun _ _ _ _ _ => (pv 3))) pa_nil)))
      (pss_one (ps_ret (cl g_without hr (pa_cons (pv 2) (pa_cons (cl g_fewest hr (pa_cons (pe_lc (own := [("_law_block_here", 3), ("_law_owner", 4)]) (g := gTup K 2 (gCons (gName 3) (gCons (gName 4) gNil))) (tt := tYes) rfl sc_l_kept.nd (pi_tup (pe_ix ix_tup (pv 0) pe_int (fun _ _ => rfl))) (blkOk_by (N := ["_law_deal_here", "_law_name", "_law_mine", "_law_block_here", "_law_owner"]) (sc := defScope s_l_kept) (by decide +kernel)) (fun _ _ _ _ _ => (pg_tup rfl (pgs_cons (pg_name (i := 3) sc_l_kept.nd rfl (.inl rfl)) (pgs_cons (pg_name (i := 4) sc_l_kept.nd rfl (.inl rfl)) pgs_nil)))) (fun _ _ _ _ _ => pts_nil) (fun _ _ _ _ _ => (pv 3))) pa_nil)) pa_nil)))))), ?_⟩
    refine ⟨_, rfl, a, _, 2, _, rfl, rfl, SqT.of ha, atI_nat (j := 2) rfl, b2, rfl, ⟨ys2, SqT.of hb2⟩, fun D hD => ?_⟩
    refine lcD (K := K) (L := []) (walk_tup (K := K) (a := b2) (xs := ys2)) (fun i ds _ => ds = (mineN (kept.take i) nm).map bD) hD (by simp) (by omega) (fun _ _ => rfl) (fun _ _ _ _ h _ => h) (fun H e => SqT.of (e.tup hb2)) ?_ ?_
    · rintro j ds z H4 H5 KP SK hj e4 rfl ⟨rfl, hz⟩ hK hS
      obtain ⟨o, ho, to⟩ := ty2.ow hz
      obtain ⟨c, d, rfl, hc, hd⟩ := to.ow
      have et : mineN (kept.take (j + 1)) nm = mineN (kept.take j) nm ++ blks ([o].filter (mineB nm)) := by
        unfold mineN blks
        rw [take_snoc ho, List.filter_append, List.map_append]
      have yes : mineB nm o = true → KP (.ref d) H5 := fun hk => hK _ _ (bD o.1) Ex.refl (e4.tp (Tp.bkI hd)) (by
        rw [et, List.map_append]
        simp [hk, blks])
      have no : mineB nm o = false → SK H5 := fun hk => hS _ Ex.refl (by
        rw [et, List.map_append]
        simp [hk, blks])
      refine ⟨c, _, rfl, SqT.of (e4.tup hc), rfl, _, _, rfl, _, _, rfl, rfl, rfl, _, rfl, rfl, _, rfl, ?_⟩
      cases nm with
      | none => exact iteT (iteT ⟨_, rfl, yes rfl⟩)
      | some z =>
        refine ifF (by simp [nmV]) ⟨_, rfl, _, rfl, rfl, _, rfl, ?_⟩
        have e : decide (V.str o.2 = nmV (some z)) = mineB (some z) o := by simp [nmV, mineB]
        rw [e]
        cases hk : mineB (some z) o with
        | true => exact iteT ⟨_, rfl, yes hk⟩
        | false => exact iteF (no hk)
    · rintro H2 ls ds e2 hD2 td hl rfl
      rw [ly2, List.take_length] at td
      have nl := mineN_len kept nm
      refine ⟨D, ls, n, mineN kept nm, rfl, .inl hD2, td, dl.n64, fun b hb => ?_, by omega, e2.tab tb, fun H3 u3 fs e3 t3 fw l3 => ?_⟩
      · obtain ⟨o, hm, _, rfl⟩ := mineN_mem.mp hb
        exact dl.ko o hm
      · have e23 := e2.trans e3
        have hb1' := e23.tup hb1
        refine ⟨_, rfl, _, rfl, a, _, 1, _, rfl, rfl, SqT.of (e23.tup ha), atI_nat (j := 1) rfl, b1, rfl, ⟨ys1, SqT.of hb1'⟩, fun D2 hD2' => ?_⟩
        refine lcY (K := K) (L := []) (walk_tup (K := K) (a := b1) (xs := ys1)) (fun i ds _ => ds = (blks (outs.take i)).map bD) hD2' (by simp) (by omega) (fun _ _ => rfl) (fun _ _ _ _ h _ => h) (fun H e => SqT.of (e.tup hb1')) ?_ ?_
        · rintro i ds x H4 H5 KP hi e4 rfl ⟨rfl, hx⟩ hK
          obtain ⟨o, ho, to⟩ := ty1.ow hx
          obtain ⟨c, d, rfl, hc, hd⟩ := to.ow
          have e24 := e23.trans e4
          refine ⟨c, _, rfl, SqT.of (e24.tup hc), rfl, _, _, rfl, _, _, rfl, rfl, rfl, _, rfl, ?_⟩
          exact hK _ _ (bD o.1) Ex.refl (e24.tp (Tp.bkI hd)) (by rw [blks_take ho, List.map_append]; rfl)
        · rintro H4 ls2 ds2 e4 hD4 td4 hl4 rfl
          rw [ly1, List.take_length] at td4
          have e24 := e23.trans e4
          have lb := blks_len outs
          refine ⟨D2, ls2, n, blks outs, rfl, .inl hD4, td4, dl.n64, fun b hb => ?_, by omega, e24.tab tb, fun H5 u5 gs e5 t5 gw l5 => ?_⟩
          · obtain ⟨o, hm, rfl⟩ := List.mem_map.mp hb
            exact dl.oo o hm
          · have e25 := e24.trans e5
            refine ⟨u3, u5, n, fs, gs, rfl, (e4.trans e5).tp t3, t5, dl.n64, fw.ok, gw.ok, gw.ap, by omega, by omega, e25.tab tb, fun H6 u6 hs e6 t6 hw l6 => q H6 u6 hs (e25.trans e6) t6 (hw.iff fun x => ?_) l6⟩
            unfold keptS
            rw [fw.cov, gw.cov]
end
end K54
end
section
set_option Elab.async false
set_option linter.all false
set_option maxRecDepth 100000
set_option maxHeartbeats 4000000
/-! Parts of a deal; the law's holder_right, parted. -/
namespace K54
open PySem PySem.Spec PyProof.Rows L2
/-! ### plain: the parts -/
theorem own_one {os : List O} (h : Ap (blks os)) {o k : O} (ho : o ∈ os) (hk : k ∈ os) {x : Nat} (xo : inB x o.1) (xk : inB x k.1) : o = k := by
  have h2 : os.Pairwise fun a b => fin a.1 ≤ b.1.1 := List.pairwise_map.mp h
  rcases pw_mem h2 ho hk with e | e | e
  · exact e
  · have := xo.2
    have := xk.1
    omega
  · have := xk.2
    have := xo.1
    omega
theorem cov_blks {os : List O} {x : Nat} : cov (blks os) x ↔ ∃ o, o ∈ os ∧ inB x o.1 := by
  constructor
  · rintro ⟨b, hb, hx⟩
    obtain ⟨o, ho, rfl⟩ := List.mem_map.mp hb
    exact ⟨o, ho, hx⟩
  · rintro ⟨o, ho, hx⟩
    exact ⟨o.1, List.mem_map_of_mem ho, hx⟩
theorem cov_of {os : List O} {z : Str} {x : Nat} : cov (ofN os z) x ↔ ∃ o, o ∈ os ∧ o.2 = z ∧ inB x o.1 := by
  constructor
  · rintro ⟨b, hb, hx⟩
    obtain ⟨o, ho, e, rfl⟩ := ofN_mem.mp hb
    exact ⟨o, ho, e, hx⟩
  · rintro ⟨o, ho, e, hx⟩
    exact ⟨o.1, ofN_mem.mpr ⟨o, ho, e, rfl⟩, hx⟩
theorem cov_not {os : List O} {nm : Option Str} {x : Nat} : cov (notN os nm) x ↔ ∃ o, o ∈ os ∧ keepN nm o = true ∧ inB x o.1 := by
  constructor
  · rintro ⟨b, hb, hx⟩
    obtain ⟨o, ho, e, rfl⟩ := notN_mem.mp hb
    exact ⟨o, ho, e, hx⟩
  · rintro ⟨o, ho, e, hx⟩
    exact ⟨o.1, notN_mem.mpr ⟨o, ho, e, rfl⟩, hx⟩
theorem cov_mine {os : List O} {nm : Option Str} {x : Nat} : cov (mineN os nm) x ↔ ∃ o, o ∈ os ∧ mineB nm o = true ∧ inB x o.1 := by
  constructor
  · rintro ⟨b, hb, hx⟩
    obtain ⟨o, ho, e, rfl⟩ := mineN_mem.mp hb
    exact ⟨o, ho, e, hx⟩
  · rintro ⟨o, ho, e, hx⟩
    exact ⟨o.1, mineN_mem.mpr ⟨o, ho, e, rfl⟩, hx⟩
theorem inB_lt {n : Nat} {b : B} {x : Nat} (ob : Okb n b) (h : inB x b) : x < 2 ^ n := by
  have h1 := h.2
  have h2 := ob.le
  have h3 : fin b = b.1 + 2 ^ b.2 := rfl
  omega
/-- what is free for a name: what is free for all, and what is kept for it -/
theorem free_split {n : Nat} {outs kept : List O} (dl : Deal n outs kept) (z : Str) (x : Nat) : freeS n outs kept (some z) x ↔ freeS n outs kept none x ∨ keptS outs kept (some z) x := by
  unfold freeS keptS
  rw [cov_app, cov_app, cov_not, cov_not, cov_mine]
  constructor
  · rintro ⟨h1, h2⟩
    by_cases c : ∃ o, o ∈ kept ∧ inB x o.1
    · obtain ⟨o, ho, hx⟩ := c
      refine .inr ⟨⟨o, ho, ?_, hx⟩, fun h => h2 (.inl h)⟩
      by_cases e : o.2 = z
      · exact decide_eq_true e
      · exact absurd (.inr ⟨o, ho, by simp [keepN, e], hx⟩) h2
    · exact .inl ⟨h1, fun h => h.elim (fun h => h2 (.inl h)) fun ⟨o, ho, _, hx⟩ => c ⟨o, ho, hx⟩⟩
  · rintro (⟨h1, h2⟩ | ⟨⟨o, ho, hm, hx⟩, h2⟩)
    · exact ⟨h1, fun h => h.elim (fun h => h2 (.inl h)) fun ⟨o, ho, _, hx⟩ => h2 (.inr ⟨o, ho, rfl, hx⟩)⟩
    · refine ⟨inB_lt (dl.ko o ho) hx, fun h => h.elim h2 fun ⟨k, hk, hn, hxk⟩ => ?_⟩
      have e := own_one dl.ka ho hk hx hxk
      subst e
      have e1 : o.2 = z := of_decide_eq_true hm
      simp [keepN, e1] at hn
/-- the parts of what is out, in the making -/
structure PartsI (n : Nat) (outs : List O) (done : List Str) (ps : List (List B)) : Prop where
  few : ∀ p ∈ ps, ∃ z, z ∈ done ∧ Few n p (cov (ofN outs z))
  all : ∀ z ∈ done, ∃ p, p ∈ ps ∧ Few n p (cov (ofN outs z))
  dj : ps.Pairwise fun p q => ∀ x, cov p x → cov q x → False
  len : ps.flatten.length ≤ 100 * done.length
  num : ps.length = done.length
theorem PartsI.start {n : Nat} {outs : List O} : PartsI n outs [] [] := ⟨fun p h => (by cases h), fun p h => (by cases h), .nil, Nat.le_refl _, rfl⟩
theorem PartsI.add {n : Nat} {outs : List O} {done : List Str} {ps : List (List B)} {z : Str} {p : List B} (oa : Ap (blks outs)) (h : PartsI n outs done ps) (hz : z ∉ done) (f : Few n p (cov (ofN outs z))) (hl : p.length ≤ 100) : PartsI n outs (done ++ [z]) (ps ++ [p]) := by
  refine ⟨fun q hq => ?_, fun y hy => ?_, List.pairwise_append.mpr ⟨h.dj, List.pairwise_singleton _ _, fun q hq r hr x hx hx2 => ?_⟩, ?_, by rw [List.length_append, List.length_append, h.num]; rfl⟩
  · rcases List.mem_append.mp hq with m | m
    · obtain ⟨y, hy, g⟩ := h.few q m
      exact ⟨y, List.mem_append_left _ hy, g⟩
    · rw [List.mem_singleton.mp m]
      exact ⟨z, by simp, f⟩
  · rcases List.mem_append.mp hy with m | m
    · obtain ⟨q, hq, g⟩ := h.all y m
      exact ⟨q, List.mem_append_left _ hq, g⟩
    · rw [List.mem_singleton.mp m]
      exact ⟨p, by simp, f⟩
  · rw [List.mem_singleton.mp hr] at hx2
    obtain ⟨y, hy, g⟩ := h.few q hq
    obtain ⟨o, ho, eo, xo⟩ := cov_of.mp ((g.cov x).mp hx)
    obtain ⟨k, hk, ek, xk⟩ := cov_of.mp ((f.cov x).mp hx2)
    have e := own_one oa ho hk xo xk
    subst e
    exact hz (by rw [← ek, eo]; exact hy)
  · rw [List.flatten_append, List.length_append, List.length_append]
    have := h.len
    simp only [List.flatten_cons, List.flatten_nil, List.append_nil, List.length_singleton]
    omega
/-- all parts of a deal -/
structure PartsA (n : Nat) (ps : List (List B)) : Prop where
  few : ∀ p ∈ ps, ∃ S, Few n p S
  dj : ps.Pairwise fun p q => ∀ x, cov p x → cov q x → False
  cv : ∀ x, (∃ p, p ∈ ps ∧ cov p x) ↔ x < 2 ^ n
  len : ps.flatten.length ≤ 1350000
theorem parts_all {n : Nat} {outs kept : List O} {zs : List Str} {ps : List (List B)} {pk pf : List B} (dl : Deal n outs kept) (h : PartsI n outs zs ps) (h20 : zs.length ≤ 20) (ho : ∀ o ∈ outs, o.2 ∈ zs) (fk : Few n pk (keptS outs kept none)) (ff : Few n pf (freeS n outs kept none))
    (lk : pk.length ≤ 1313000) (lf : pf.length ≤ 26130) : PartsA n (ps ++ [pk, pf]) := by
  refine ⟨fun p hp => ?_, List.pairwise_append.mpr ⟨h.dj, ?_, fun p hp q hq x hx hx2 => ?_⟩, fun x => ?_, ?_⟩
  · rcases List.mem_append.mp hp with m | m
    · obtain ⟨z, _, f⟩ := h.few p m
      exact ⟨_, f⟩
    · simp only [List.mem_cons, List.not_mem_nil, or_false] at m
      rcases m with rfl | rfl
      · exact ⟨_, fk⟩
      · exact ⟨_, ff⟩
  · refine List.pairwise_cons.mpr ⟨fun q hq x hx hx2 => ?_, List.pairwise_singleton _ _⟩
    rw [List.mem_singleton.mp hq] at hx2
    have a := (fk.cov x).mp hx
    have b := (ff.cov x).mp hx2
    obtain ⟨o, ho, _, xo⟩ := cov_mine.mp a.1
    exact b.2 (cov_app.mpr (.inr (cov_not.mpr ⟨o, ho, rfl, xo⟩)))
  · obtain ⟨z, _, f⟩ := h.few p hp
    obtain ⟨o, ho, _, xo⟩ := cov_of.mp ((f.cov x).mp hx)
    have hc : cov (blks outs) x := cov_blks.mpr ⟨o, ho, xo⟩
    simp only [List.mem_cons, List.not_mem_nil, or_false] at hq
    rcases hq with rfl | rfl
    · exact ((fk.cov x).mp hx2).2 hc
    · exact ((ff.cov x).mp hx2).2 (cov_app.mpr (.inl hc))
  · constructor
    · rintro ⟨p, hp, hx⟩
      rcases List.mem_append.mp hp with m | m
      · obtain ⟨z, _, f⟩ := h.few p m
        obtain ⟨o, ho, _, xo⟩ := cov_of.mp ((f.cov x).mp hx)
        exact inB_lt (dl.oo o ho) xo
      · simp only [List.mem_cons, List.not_mem_nil, or_false] at m
        rcases m with rfl | rfl
        · obtain ⟨o, ho, _, xo⟩ := cov_mine.mp ((fk.cov x).mp hx).1
          exact inB_lt (dl.ko o ho) xo
        · exact ((ff.cov x).mp hx).1
    · intro hx
      by_cases c : cov (blks outs) x
      · obtain ⟨o, hm, xo⟩ := cov_blks.mp c
        obtain ⟨p, hp, f⟩ := h.all o.2 (ho o hm)
        exact ⟨p, List.mem_append_left _ hp, (f.cov x).mpr (cov_of.mpr ⟨o, hm, rfl, xo⟩)⟩
      · by_cases c2 : cov (mineN kept none) x
        · exact ⟨pk, by simp, (fk.cov x).mpr ⟨c2, c⟩⟩
        · refine ⟨pf, by simp, (ff.cov x).mpr ⟨hx, fun h => (cov_app.mp h).elim c fun h => c2 ?_⟩⟩
          obtain ⟨o, ho, _, xo⟩ := cov_not.mp h
          exact cov_mine.mpr ⟨o, ho, rfl, xo⟩
  · have := h.len
    rw [List.flatten_append, List.length_append]
    simp only [List.flatten_cons, List.flatten_nil, List.append_nil, List.length_append]
    omega
theorem PartsA.ok {n : Nat} {ps : List (List B)} (h : PartsA n ps) : ∀ b ∈ ps.flatten, Okb n b := fun b hb => by
  obtain ⟨p, hp, hm⟩ := List.mem_flatten.mp hb
  obtain ⟨S, f⟩ := h.few p hp
  exact f.ok b hm
theorem PartsA.disj {n : Nat} {ps : List (List B)} (h : PartsA n ps) : ps.flatten.Pairwise K54.disj := by
  rw [List.pairwise_flatten]
  refine ⟨fun p hp => ?_, h.dj.imp_of_mem fun {p q} hp hq d a ha b hb => ?_⟩
  · obtain ⟨S, f⟩ := h.few p hp
    exact f.ap.disj
  · obtain ⟨S, f⟩ := h.few p hp
    obtain ⟨S2, g⟩ := h.few q hq
    exact disj_of (f.ok a ha) (g.ok b hb) fun x xa xb => d x ⟨a, ha, xa⟩ ⟨b, hb, xb⟩
theorem PartsA.cov {n : Nat} {ps : List (List B)} (h : PartsA n ps) (x : Nat) : K54.cov ps.flatten x ↔ x < 2 ^ n := by
  rw [← h.cv x]
  constructor
  · rintro ⟨b, hb, hx⟩
    obtain ⟨p, hp, hm⟩ := List.mem_flatten.mp hb
    exact ⟨p, hp, b, hm, hx⟩
  · rintro ⟨p, hp, b, hb, hx⟩
    exact ⟨b, List.mem_flatten.mpr ⟨p, hp, hb⟩, hx⟩
/-- the parts in one list, in order -/
structure Whole (n : Nat) (gs : List B) : Prop where
  ok : ∀ b ∈ gs, Okb n b
  ap : Ap gs
  cv : ∀ x, cov gs x ↔ x < 2 ^ n
  sz : sizes gs = 2 ^ n
theorem PartsA.whole {n : Nat} {ps : List (List B)} (h : PartsA n ps) {gs : List B} (pm : gs.Perm ps.flatten) (sb : gs.Pairwise blt) : Whole n gs := by
  have ok : ∀ b ∈ gs, Okb n b := fun b hb => h.ok b (pm.mem_iff.mp hb)
  have ap : Ap gs := ap_sorted h.disj pm sb
  have cv : ∀ x, K54.cov gs x ↔ x < 2 ^ n := fun x => (cov_mem (fun b => pm.mem_iff) x).trans (h.cov x)
  refine ⟨ok, ap, cv, ?_⟩
  rw [count_all ap (low := 0) (high := 2 ^ n) (fun b hb => ⟨Nat.zero_le _, (ok b hb).le⟩) (Nat.zero_le _) fun x _ hx => (cv x).mpr hx, Nat.sub_zero]
theorem Whole.row {n : Nat} {gs fs : List B} (h : Whole n gs) (f : Few n fs (cov gs)) : fs = [(0, n)] := (f.iff h.cv).one (few_row n)
/-! ### data of owned blocks -/
theorem oD_lay {o : O} (h : Nm o.2) : (oD o).canLay0 = true := by
  simp only [oD, bD, PyData.canLay0, PyData.canLayAll0, Bool.and_true, Bool.true_and]
  exact nm_ok h
theorem os_lay : ∀ os : List O, (∀ o ∈ os, Nm o.2) → PyData.canLayAll0 (os.map oD) = true
  | [], _ => by simp [PyData.canLayAll0]
  | o :: os, h => by
    simp [PyData.canLayAll0, oD_lay (h o List.mem_cons_self), os_lay os fun z hz => h z (List.mem_cons_of_mem _ hz)]
theorem oD_depth (o : O) : (oD o).depth = 2 := by simp [oD, bD, PyData.depth, PyData.depthAll]
theorem os_depth : ∀ os : List O, PyData.depthAll (os.map oD) ≤ 2
  | [] => by simp [PyData.depthAll]
  | o :: os => by
    have h1 := os_depth os
    have h2 := oD_depth o
    simp only [List.map_cons, PyData.depthAll]
    omega
theorem os_shaped {os : List O} (h : ∀ o ∈ os, Nm o.2) : SeqAt.shaped (osD os) = true := by
  have := os_depth os
  exact shaped_of (by simp only [osD, PyData.canLay0]; exact os_lay os h) (by simp only [osD, PyData.depth]; omega)
theorem oD_shaped {o : O} (h : Nm o.2) : SeqAt.shaped (oD o) = true := shaped_of (oD_lay h) (by rw [oD_depth]; decide)
theorem in_os {os : List O} {o : O} (h : o ∈ os) (hn : Nm o.2) : ((os.map oD).any fun z => PyData.eqv z (oD o)) = true := by
  rw [List.any_eq_true]
  exact ⟨oD o, List.mem_map_of_mem h, SeqAt.eqv_refl _ (oD_lay hn)⟩
theorem in_pa {bs : List B} {b : B} (h : b ∈ bs) : ((bs.map bD).any fun z => PyData.eqv z (bD b)) = true := by
  rw [List.any_eq_true]
  exact ⟨bD b, List.mem_map_of_mem h, by rw [bD_eqv]; exact decide_eq_true rfl⟩
theorem room65 {k : Nat} {A : Around} (r : Room k A) : A.units + 65 < cLine := by
  have := r.un
  omega
def spRight (K : PySem.W.Frag) : Sp := fun vs H Q _ => ∃ (v : V) (x n : Nat) (outs kept : List O), vs = [v, .int (x : Nat)] ∧ Tp H v (dD n outs kept) ∧ Deal n outs kept ∧ Tb K H ∧ x < 2 ^ n ∧ ∀ H', Ex K [] H H' → Q (.bl true) H'
def spParted (K : PySem.W.Frag) : Sp := fun vs H Q _ => ∃ (v : V) (nl : Addr) (n : Nat) (outs kept : List O) (zs : List Str), vs = [v, .ref nl] ∧ Tp H v (dD n outs kept) ∧ H nl = some (.lst (zs.map V.str)) ∧ Deal n outs kept ∧ Tb K H ∧ zs.Nodup ∧ zs.length ≤ 20 ∧ (∀ o ∈ outs, o.2 ∈ zs) ∧
  ∀ H', Ex K [] H H' → Q (.bl true) H'
section
variable {P : Program} {w : World} {K : PySem.W.Frag} {mg : Str → Option Value} {base : Heap}
theorem ok_l_holder_right (T : Txt mg) (D : Def K mg "_law_holder_right" s_l_holder_right) (g_holder : Ok P w K mg base 7 "holder" ["deal", "address"] (spHolder K)) (g_block_with : Ok P w K mg base 2 "block_with" ["patch", "address"] spBlockWith)
    (g_free_for : Ok P w K mg base 6 "free_for" ["deal", "name"] (spFree K)) : Ok P w K mg base 8 "_law_holder_right" ["_law_deal_here", "_law_address"] (spRight K) := by
  refine D.ok sc_l_holder_right (fun _ _ _ _ _ _ us hl => match us, hl with | [_, _], _ => rfl) (fun vs H Q E h => ?_) (fun f cdv A outer s H vs Q E hr h => ?_)
  · obtain ⟨v, x, n, outs, kept, rfl, _⟩ := h
    rfl
  · obtain ⟨v, x, n, outs, kept, rfl, hv, dl, tb, hx, q⟩ := h
    have hu65 := room65 hr
    obtain ⟨a, x0, x1, x2, rfl, ha, t0, t1, t2⟩ := hv.three
    obtain ⟨b1, ys1, rfl, hb1, ty1⟩ := t1.osA
    have ly1 := ty1.lenB
    have ol := dl.ol
    refine ⟨_, (pss_cons (ps_asg (cl g_holder hr (pa_cons (pv 0) (pa_cons (pv 1) pa_nil))) (pg_tup rfl (pgs_cons (pg_name (i := 2) sc_l_holder_right.nd rfl (.inl rfl)) (pgs_cons (pg_name (i := 3) sc_l_holder_right.nd rfl (.inl rfl)) (pgs_cons (pg_name (i := 4) sc_l_holder_right.nd rfl (.inl rfl)) pgs_nil)))))
      (pss_cons (ps_if (pt_not (pt_chain op_le op_lt (pe_at0 (pv 4)) (pv 1) (pe_op op_add (pe_at0 (pv 4)) (pe_shl1 (pe_at1 (pv 4)))))) (pss_one (ps_ret pe_bl)) pss_nil)
      (pss_cons (ps_if (pt_cmpR op_eq (pv 2) pe_str (nomark _)) (pss_one (ps_ret (pe_cmpR (op_inT hu65) (pe_tupD (pa_cons (pv 4) (pa_cons (pv 3) pa_nil))) (pe_ix ix_tup (pv 0) pe_int (fun _ _ => rfl)) (by rfl)))) pss_nil)
      (pss_cons (ps_if (pt_cmpR op_notN (cl g_block_with hr (pa_cons (pe_callTy cr_tupL (by rfl) T.tuple (by decide +kernel) (pa_cons (pe_lc (own := [("_law_one", 5), ("_law_owner", 6)]) (g := gTup K 2 (gCons (gName 5) (gCons (gName 6) gNil))) (tt := tYes) rfl sc_l_holder_right.nd (pi_tup (pe_ix ix_tup (pv 0) pe_int (fun _ _ => rfl))) (blkOk_by (N := ["_law_deal_here", "_law_address", "_law_word", "_law_name", "_law_block_here", "_law_one", "_law_owner"]) (sc := defScope s_l_holder_right) (by decide +kernel)) (fun _ _ _ _ _ => (pg_tup rfl (pgs_cons (pg_name (i := 5) sc_l_holder_right.nd rfl (.inl rfl)) (pgs_cons (pg_name (i := 6) sc_l_holder_right.nd rfl (.inl rfl)) pgs_nil)))) (fun _ _ _ _ _ => pts_nil) (fun _ _ _ _ _ => (pv 5))) pa_nil)) (pa_cons (pv 1) pa_nil))) pe_non (nomark _)) (pss_one (ps_ret pe_bl)) pss_nil)
      (pss_cons (ps_if (pt_cmpR op_eq (pv 2) pe_str (nomark _)) (pss_one (ps_ret (pe_cmpR (op_inT hu65) (pe_tupD (pa_cons (pv 4) (pa_cons (pv 3) pa_nil))) (pe_ix ix_tup (pv 0) pe_int (fun _ _ => rfl)) (by rfl)))) pss_nil)
      (pss_one (ps_ret (pe_and (pe_cmpR op_eq (pv 2) pe_str (nomark _)) (pe_and (pe_cmpR op_isN (pv 3) pe_non (nomark _)) (pe_one (pe_cmpR (op_inT hu65) (pv 4) (cl g_free_for hr (pa_cons (pv 0) (pa_cons pe_non pa_nil))) (by rfl)))))))))))), ?_⟩
    refine ⟨_, rfl, _, rfl, .ref a, x, n, outs, kept, rfl, hv, dl, tb, hx, fun H1 u1 word nm b e1 w1 hr1 => ?_⟩
    obtain ⟨c1, p1, p2, p3, rfl, hc1, tp1, tp2, tp3⟩ := w1.three
    have ep1 := tp1.strD
    subst ep1
    have ep2 : p2 = nmV nm := by
      cases nm with
      | none => exact tp2.nonD
      | some z => exact tp2.strD
    subst ep2
    obtain ⟨hin, hcase⟩ := hr1
    have fb : fin b = b.1 + 2 ^ b.2 := rfl
    have hi1 := hin.1
    have hi2 := hin.2
    have hb900 : b.2 ≤ 900 := by
      have key : ∃ m, m ≤ 64 ∧ Okb m b := by
        rcases hcase with ⟨_, z, _, hm⟩ | ⟨_, ⟨_, z, _, hm⟩ | ⟨_, _, fs, fw, hm⟩⟩
        · exact ⟨n, dl.n64, dl.oo _ hm⟩
        · exact ⟨n, dl.n64, dl.ko _ hm⟩
        · exact ⟨n, dl.n64, fw.ok b hm⟩
      obtain ⟨m, hm, ob⟩ := key
      exact ob.h900 hm
    refine ⟨c1, _, rfl, SqT.of hc1, rfl, _, _, rfl, _, _, rfl, _, _, rfl, rfl, ?_⟩
    refine ⟨_, rfl, b, tp3, _, rfl, _, _, rfl, rfl, _, rfl, ifT (by omega) ⟨_, rfl, b, tp3, _, rfl, b, tp3, b.2, rfl, by omega, _, _, rfl, rfl, _, _, rfl, rfl, _, rfl, ?_⟩⟩
    rw [decide_eq_true (show ((x : Nat) : Int) < ((b.1 : Nat) : Int) + ((2 ^ b.2 : Nat) : Int) by omega)]
    refine iteF ?_
    have ha1 := e1.tup ha
    have tv1 := e1.tp hv
    rcases hcase with ⟨rfl, z, rfl, hm⟩ | ⟨hno, hcase⟩
    · refine ⟨_, rfl, rfl, _, rfl, if2 (fun _ => ?_) fun c => absurd rfl c⟩
      refine ⟨_, rfl, _, rfl, [bD b, .str z], .cons tp3 (.cons (.str z) .nil), n1000, fun H2 u2 e2 w2 => ?_⟩
      refine ⟨_, rfl, a, _, 1, _, rfl, rfl, SqT.of (e2.tup ha1), atI_nat (j := 1) rfl, oD (b, z), outs.map oD, w2.dp, (e2.tp (e1.tp t1)).dp, oD_shaped (dl.om _ hm), os_shaped dl.om, ?_⟩
      rw [in_os hm (dl.om _ hm)]
      exact q H2 (e1.trans e2)
    · have w0 : ¬ V.str word = V.str "out" := fun e => by
        have e2 : word = "out" := V.str.inj e
        rcases hcase with ⟨rfl, _⟩ | ⟨rfl, _⟩
        · exact absurd e2 (by decide +kernel)
        · exact absurd e2 (by decide +kernel)
      refine ⟨_, rfl, rfl, _, rfl, if2 (fun c => absurd c w0) fun _ => ?_⟩
      have hb1' := e1.tup hb1
      refine ⟨_, rfl, a, _, 1, _, rfl, rfl, SqT.of ha1, atI_nat (j := 1) rfl, b1, rfl, ⟨ys1, SqT.of hb1'⟩, fun D hD => ?_⟩
      refine lcY (K := K) (L := []) (walk_tup (K := K) (a := b1) (xs := ys1)) (fun i ds _ => ds = (blks (outs.take i)).map bD) hD (by simp) (by omega) (fun _ _ => rfl) (fun _ _ _ _ h _ => h) (fun H e => SqT.of (e.tup hb1')) ?_ ?_
      · rintro i ds y H2 H3 KP hi e3 rfl ⟨rfl, hy⟩ hK
        obtain ⟨o, ho, to⟩ := ty1.ow hy
        obtain ⟨c, d, rfl, hc, hd⟩ := to.ow
        have e13 := e1.trans e3
        refine ⟨c, _, rfl, SqT.of (e13.tup hc), rfl, _, _, rfl, _, _, rfl, rfl, rfl, _, rfl, ?_⟩
        exact hK _ _ (bD o.1) Ex.refl (e13.tp (Tp.bkI hd)) (by rw [blks_take ho, List.map_append]; rfl)
      · rintro H2 ls ds e2 hD2 td hl rfl
        rw [ly1, List.take_length] at td
        refine ⟨D, ls, _, rfl, hD2, td, fun H3 u3 e3 w3 => ?_⟩
        have e13 := (e1.trans e2).trans e3
        refine ⟨_, rfl, u3, x, blks outs, rfl, w3, fun c hc => ?_, fun c u hc hi _ => ?_, fun _ => ?_⟩
        · obtain ⟨o, hm, rfl⟩ := List.mem_map.mp hc
          exact (dl.oo o hm).h900 dl.n64
        · obtain ⟨o, hm, rfl⟩ := List.mem_map.mp hc
          exact absurd hi (hno o hm)
        · refine ⟨rfl, _, rfl, if2N (fun c => absurd rfl c) fun _ => ?_⟩
          have tp3' := (e2.trans e3).tp tp3
          have ha3 := e13.tup ha
          rcases hcase with ⟨rfl, z, rfl, hm⟩ | ⟨rfl, rfl, fs, fw, hm⟩
          · refine ⟨_, rfl, rfl, _, rfl, if2 (fun _ => ?_) fun c => absurd rfl c⟩
            refine ⟨_, rfl, _, rfl, [bD b, .str z], .cons tp3' (.cons (.str z) .nil), n1000, fun H4 u4 e4 w4 => ?_⟩
            refine ⟨_, rfl, a, _, 2, _, rfl, rfl, SqT.of (e4.tup ha3), atI_nat (j := 2) rfl, oD (b, z), kept.map oD, w4.dp, (e4.tp (e13.tp t2)).dp, oD_shaped (dl.km _ hm), os_shaped dl.km, ?_⟩
            rw [in_os hm (dl.km _ hm)]
            exact q H4 (e13.trans e4)
          · refine ⟨_, rfl, rfl, _, rfl, if2 (fun c => ?_) fun _ => ?_⟩
            · have e2 : (Str.ofString "free") = Str.ofString "kept" := V.str.inj c
              exact absurd e2 (by decide +kernel)
            · refine ⟨_, rfl, rfl, _, rfl, if2 (fun _ => ?_) fun c => absurd rfl c⟩
              refine ⟨_, rfl, rfl, _, rfl, if2 (fun _ => ?_) fun c => absurd rfl c⟩
              refine ⟨_, rfl, _, rfl, .ref a, none, n, outs, kept, rfl, e13.tp hv, dl, e13.tab tb, fun H4 u4 gs e4 w4 gw l4 => ?_⟩
              have eg := fw.one gw
              subst eg
              refine ⟨bD b, fs.map bD, (e4.tp tp3').dp, w4.dp, bD_shaped b, bt_shaped fs, ?_⟩
              rw [in_pa hm]
              exact q H4 (e13.trans e4)
theorem ok_l_parted (T : Txt mg) (D : Def K mg "_law_parted" s_l_parted) (g_out_to : Ok P w K mg base 6 "out_to" ["deal", "name"] (spOut K)) (g_l_kept : Ok P w K mg base 7 "_law_kept" ["_law_deal_here", "_law_name"] (spLKept K)) (g_free_for : Ok P w K mg base 6 "free_for" ["deal", "name"] (spFree K))
    (g_is_fewest : Ok P w K mg base 4 "is_fewest" ["patch"] (spIsFewest K)) (g_apart : Ok P w K mg base 2 "apart" ["one", "other"] spApart) (g_count_of : Ok P w K mg base 2 "count_of" ["patch"] (spCount K)) (g_fewest : Ok P w K mg base 5 "fewest" ["blocks"] (spFewest K)) :
    Ok P w K mg base 8 "_law_parted" ["_law_deal_here", "_law_names_here"] (spParted K) := by
  refine D.ok sc_l_parted (fun _ _ _ _ _ _ us hl => match us, hl with | [_, _], _ => rfl) (fun vs H Q E h => ?_) (fun f cdv A outer s H vs Q E hr h => ?_)
  · obtain ⟨v, nl, n, outs, kept, zs, rfl, _⟩ := h
    rfl
  · obtain ⟨v, nl, n, outs, kept, zs, rfl, hv, hnl, dl, tb, znd, z20, ho, q⟩ := h
    obtain ⟨a, x0, x1, x2, rfl, ha, t0, t1, t2⟩ := hv.three
    have e0 := t0.intD
    subst e0
    have lz : (zs.map V.str).length = zs.length := List.length_map _
    refine ⟨_, (pss_cons (ps_set (i := 2) sc_l_parted.nd rfl (.inl rfl) (pe_op op_catD (pe_lc (own := [("_law_name", 5)]) (g := gName 5) (tt := tYes) rfl sc_l_parted.nd (pi_list (pv 1)) (blkOk_by (N := ["_law_deal_here", "_law_names_here", "_law_parts", "_law_together", "_law_part", "_law_name", "_law_one", "_law_other"]) (sc := defScope s_l_parted) (by decide +kernel)) (fun _ _ _ _ _ => (pg_name (i := 5) sc_l_parted.nd rfl (.inl rfl))) (fun _ _ _ _ _ => pts_nil) (fun _ _ _ _ _ => (cl g_out_to hr (pa_cons (pv 0) (pa_cons (pv 5) pa_nil))))) (pe_lstD (pa_cons (cl g_l_kept hr (pa_cons (pv 0) (pa_cons pe_non pa_nil))) (pa_cons (cl g_free_for hr (pa_cons (pv 0) (pa_cons pe_non pa_nil))) pa_nil)))))
      (pss_cons (ps_if (pt_not (pt_val (pe_callB (cr_all rfl) (by rfl) T.all (by decide +kernel) (pa_cons (pe_lc (own := [("_law_part", 4)]) (g := gName 4) (tt := tYes) rfl sc_l_parted.nd (pi_list (pv 2)) (blkOk_by (N := ["_law_deal_here", "_law_names_here", "_law_parts", "_law_together", "_law_part", "_law_name", "_law_one", "_law_other"]) (sc := defScope s_l_parted) (by decide +kernel)) (fun _ _ _ _ _ => (pg_name (i := 4) sc_l_parted.nd rfl (.inl rfl))) (fun _ _ _ _ _ => pts_nil) (fun _ _ _ _ _ => (pe_cmpR op_isBl (cl g_is_fewest hr (pa_cons (pv 4) pa_nil)) pe_bl (nomark _)))) pa_nil)))) (pss_one (ps_ret pe_bl)) pss_nil)
      (pss_cons (ps_set (i := 3) sc_l_parted.nd rfl (.inl rfl) (pe_lstD pa_nil))
      (pss_cons (ps_for PassesOwn.never rfl (pi_list (pv 2)) (pg_name (i := 4) sc_l_parted.nd rfl (.inl rfl))
        (pss_one (ps_expr (pe_bm PySem.F.plainAttrs_list PySem.F.slot_list_extend PySem.F.type_list_extend mt_extT (pv 3) (pa_cons (pv 4) pa_nil)))))
      (pss_cons (ps_set (i := 3) sc_l_parted.nd rfl (.inl rfl) (pe_callB cr_sortedPO (by rfl) T.sorted (by decide +kernel) (pa_cons (pv 3) pa_nil)))
      (pss_cons (ps_if (pt_not (pt_val (pe_callB (cr_all rfl) (by rfl) T.all (by decide +kernel) (pa_cons (pe_lc (own := [("_law_one", 6), ("_law_other", 7)]) (g := gTup K 2 (gCons (gName 6) (gCons (gName 7) gNil))) (tt := tYes) rfl sc_l_parted.nd (pi_zip (by rfl) T.zip (pa_cons (pv 3) (pa_cons (pe_slice sl_listD (pv 3) (po_some pe_int) po_none) pa_nil))) (blkOk_by (N := ["_law_deal_here", "_law_names_here", "_law_parts", "_law_together", "_law_part", "_law_name", "_law_one", "_law_other"]) (sc := defScope s_l_parted) (by decide +kernel)) (fun _ _ _ _ _ => (pg_tup rfl (pgs_cons (pg_name (i := 6) sc_l_parted.nd rfl (.inl rfl)) (pgs_cons (pg_name (i := 7) sc_l_parted.nd rfl (.inl rfl)) pgs_nil)))) (fun _ _ _ _ _ => pts_nil) (fun _ _ _ _ _ => (cl g_apart hr (pa_cons (pv 6) (pa_cons (pv 7) pa_nil))))) pa_nil)))) (pss_one (ps_ret pe_bl)) pss_nil)
      (pss_one (ps_ret (pe_and (pe_cmp (pc_eqI (cl g_count_of hr (pa_cons (pe_callTy cr_tupL (by rfl) T.tuple (by decide +kernel) (pa_cons (pv 3) pa_nil)) pa_nil)) (pe_shl1 (pe_ix ix_tup (pv 0) pe_int (fun _ _ => rfl))))) (pe_one (pe_cmpR (op_eqD hr.units) (cl g_fewest hr (pa_cons (pv 3) pa_nil)) (pe_tupD (pa_cons (pe_tupD (pa_cons pe_int (pa_cons (pe_ix ix_tup (pv 0) pe_int (fun _ _ => rfl)) pa_nil))) pa_nil)) (nomark _)))))))))))), ?_⟩
    refine ⟨_, rfl, nl, rfl, ⟨_, SqL.of hnl⟩, fun D hD => ?_⟩
    refine lcY (K := K) (L := []) (walk_list (K := K) (a := nl) (xs := zs.map V.str)) (fun i ds _ => ∃ ps : List (List B), ds = ps.map pD ∧ PartsI n outs (zs.take i) ps) hD (by simp) (by omega) (fun _ _ => ⟨[], rfl, PartsI.start⟩) (fun _ _ _ _ h _ => h) (fun H e => SqL.of (e.lst0 hnl)) ?_ ?_
    · rintro i ds y H2 H3 KP hi e2 ⟨ps, rfl, pi⟩ ⟨rfl, hy⟩ hK
      obtain ⟨z, hz, rfl⟩ := map_at hy
      refine ⟨rfl, _, rfl, _, rfl, .ref a, z, n, outs, kept, rfl, e2.tp hv, dl, e2.tab tb, fun H4 u p e4 w4 f l4 => ?_⟩
      refine hK _ _ (pD p) e4 w4 ⟨ps ++ [p], by rw [List.map_append]; rfl, ?_⟩
      rw [take_snoc hz]
      refine pi.add dl.oa (fun hm => ?_) f l4
      obtain ⟨hi1, e1⟩ := List.getElem?_eq_some_iff.mp hz
      have h3 := znd
      rw [show zs = zs.take i ++ zs.drop i from (List.take_append_drop i zs).symm, List.nodup_append] at h3
      refine h3.2.2 z hm z ?_ rfl
      rw [List.drop_eq_getElem_cons hi1, e1]
      exact List.mem_cons_self
    · rintro H2 ls ds e2 hD2 td hl ⟨ps, rfl, pi⟩
      rw [lz, List.take_length] at pi
      have hls := td.lenB
      have hpn := pi.num
      refine ⟨_, rfl, .ref a, none, n, outs, kept, rfl, e2.tp hv, dl, e2.tab tb, fun H3 uk pk e3 wk fk lk => ?_⟩
      have e23 := e2.trans e3
      refine ⟨_, rfl, .ref a, none, n, outs, kept, rfl, e23.tp hv, dl, e23.tab tb, fun H4 uf pf e4 wf ff lf => ?_⟩
      refine ⟨[pD pk, pD pf], .cons (e4.tp wk) (.cons wf .nil), n1000, fun H5 p5 e5 n5 hp5 t5 => ?_⟩
      have e35 := (e3.trans e4).trans e5
      refine ⟨D, p5, ls, [uk, uf], ps.map pD, [pD pk, pD pf], rfl, rfl, e35.lst0 hD2, hp5, e35.tpA td, t5, by rw [List.length_map]; simp; omega, fun H6 p6 e6 n6 hp6 t6 => ?_⟩
      have pa := parts_all dl pi z20 ho fk ff lk lf
      have e06 : Ex K [] H H6 := (e2.trans e35).trans e6
      have t6 : TpA H6 (ls ++ [uk, uf]) ((ps ++ [pk, pf]).map pD) := by
        rw [List.map_append]
        exact t6
      have hnp : (ps ++ [pk, pf]).length ≤ 30 := by
        rw [List.length_append]
        simp
        omega
      clear pi hpn hls td hl fk ff lk lf wk wf t5 hp5
      generalize ps ++ [pk, pf] = parts at *
      generalize ls ++ [uk, uf] = xsP at *
      have lP := t6.lenB
      refine ⟨_, rfl, p6, rfl, ⟨_, SqL.of hp6⟩, fun D2 hD2' => ?_⟩
      refine lcY (K := K) (L := []) (walk_list (K := K) (a := p6) (xs := xsP)) (fun i ds _ => ds = (List.replicate i true).map PyData.bool) hD2' (by simp) (by omega) (fun _ _ => rfl) (fun _ _ _ _ h _ => h) (fun H e => SqL.of (e.lst0 hp6)) ?_ ?_
      · rintro i ds y H7 H8 KP hi e7 rfl ⟨rfl, hy⟩ hK
        obtain ⟨d, hd, ty⟩ := t6.at hy
        obtain ⟨p, hp, rfl⟩ := map_at hd
        obtain ⟨S, f⟩ := pa.few p (mem_at hp)
        have lp : p.length ≤ 1350000 := by
          have h1 := (List.sublist_flatten_of_mem (mem_at hp)).length_le
          have h2 := pa.len
          omega
        refine ⟨rfl, _, rfl, y, p, rfl, e7.tp ty, fun b hb => (f.ok b hb).h900 dl.n64, by omega, f.red, fun H9 e9 => ?_⟩
        exact ⟨true, true, rfl, rfl, hK _ _ (.bool true) e9 (.bl true) (by rw [← rep_snoc, List.map_append]; rfl)⟩
      · rintro H7 ls2 ds2 e7 hD7 td7 hl7 rfl
        refine ⟨D2, List.replicate _ true, rfl, SqL.of (by rw [← td7.bools]; exact hD7), _, rfl, ?_⟩
        rw [all_true]
        refine iteF ⟨[], .nil, n1000, fun H8 p8 e8 n8 hp8 _ => ?_⟩
        have e78 := e7.trans e8
        have hp68 := e78.lst0 hp6
        have ne : p6 ≠ p8 := ne_of_none (e7.lst0 hp6) n8
        refine ⟨_, rfl, p6, rfl, ⟨_, SqL.of hp68⟩, ?_⟩
        refine for_it (walk_list (K := K) (a := p6) (xs := xsP)) (fun i σ Hc => ∃ (ys : List V) (y4 : Option V), σ = [some (.ref a), some (.ref nl), some (.ref p6), some (.ref p8), y4, none, none, none] ∧ Ex K [p8] H8 Hc ∧ Hc p8 = some (.lst ys) ∧ TpA Hc ys ((parts.take i).flatten.map bD))
          ⟨[], none, rfl, Ex.reflL hp8, hp8, .nil⟩ ?_ ?_ ?_
        · rintro i σ Hc _ ⟨ys, y4, rfl, e9, _⟩
          exact SqL.of (e9.lst (notin1 ne) hp68)
        · rintro i x σ Hc H' hi ⟨ys, y4, rfl, e9, h9, t9⟩ ⟨rfl, hx⟩
          obtain ⟨d, hd, tx⟩ := t6.at hx
          obtain ⟨p, hp, rfl⟩ := map_at hd
          obtain ⟨c, zv, rfl, hc, tz⟩ := (e9.tp (e78.tp tx)).pa
          have hfl : (parts.take (i + 1)).flatten = (parts.take i).flatten ++ p := by
            rw [take_snoc hp, List.flatten_append]
            simp
          have hlen : parts.flatten.length = (parts.take (i + 1)).flatten.length + (parts.drop (i + 1)).flatten.length := by
            rw [← List.length_append, ← List.flatten_append, List.take_append_drop]
          have hl2 := pa.len
          rw [hfl, List.length_append] at hlen
          have ep : Ex K [p8] H' (upd H' p8 (.lst (ys ++ zv))) := Ex.put h9
          refine ⟨_, rfl, .inl ⟨rfl, _, SqL.of h9⟩, _, rfl, p8, c, ys, zv, rfl, rfl, h9, hc, line_of (by rw [t9.lenB, tz.lenB]; omega), ys ++ zv, _, rfl, e9.trans ep, upd_same, ?_⟩
          rw [hfl, List.map_append]
          exact (ep.tpA t9).app (ep.tpA tz)
        · rintro σ Hc ⟨ys, y4, rfl, e9, h9, t9⟩
          rw [lP, List.take_length] at t9
          refine ⟨_, rfl, p8, ys, kOf Hc, rfl, SqL.of h9, keys_of t9, fun zs' p9 srt stb hp9 => ?_⟩
          obtain ⟨gs, tz, pm, sb⟩ := sorted_of t9 srt stb
          have W := pa.whole pm sb
          have lg : gs.length ≤ 1350000 := by
            rw [pm.length_eq]
            exact pa.len
          have e09 : Ex K [] H (upd Hc p9 (.lst zs')) := ((e06.trans e78).cut0 ((e06.trans e7).nw n8) e9).trans (Ex.new hp9)
          have tz9 := (Ex.new (K := K) (o := .lst zs') hp9).tpA tz
          have lz9 := tz9.lenB
          refine ⟨_, rfl, _, rfl, _, rfl, p9, zs', _, rfl, upd_same, tz9, fun H10 p10 e10 n10 hp10 t10 => ?_⟩
          rw [cut1, ← List.map_drop] at t10
          have hp9' := e10.lst0 (upd_same (H := Hc) (a := p9) (o := .lst zs'))
          refine ⟨p9, p10, zs', _, rfl, SqL.of hp9', SqL.of hp10, fun D3 hD3 => ?_⟩
          refine lcY (K := K) (L := []) (walk_zip rfl) (fun i ds _ => ds = (List.replicate i true).map PyData.bool) hD3 (by simp) (by omega) (fun _ _ => rfl) (fun _ _ _ _ h _ => h) (fun H e => ⟨SqL.of (e.lst0 hp9'), SqL.of (e.lst0 hp10)⟩) ?_ ?_
          · rintro i ds x H11 H12 KP hi e11 rfl ⟨Tt, y1, y2, rfl, nT, rfl, hy1, hy2⟩ hK
            obtain ⟨b1, hb1, tb1⟩ := tz9.bk hy1
            obtain ⟨b2, hb2, tb2⟩ := t10.bk hy2
            have e12 : Ex K [] H11 (upd H11 Tt (.tup [y1, y2])) := Ex.new nT
            have hlt := pw_at W.ap hb1 (drop_at hb2)
            refine ⟨Tt, [y1, y2], rfl, SqT.of upd_same, rfl, y1, _, rfl, y2, _, rfl, rfl, rfl, ?_⟩
            refine ⟨_, rfl, _, rfl, y1, y2, b1, b2, rfl, ((e10.trans e11).trans e12).tp tb1, (e11.trans e12).tp tb2, (W.ok _ (mem_at hb1)).h900 dl.n64, (W.ok _ (mem_at (drop_at hb2))).h900 dl.n64, ?_⟩
            rw [decide_eq_true (show disj b1 b2 from .inl hlt)]
            exact hK _ _ (.bool true) e12 (.bl true) (by rw [← rep_snoc, List.map_append]; rfl)
          · rintro H11 ls3 ds3 e11 hD11 td11 hl11 rfl
            refine ⟨D3, List.replicate _ true, rfl, SqL.of (by rw [← td11.bools]; exact hD11), _, rfl, ?_⟩
            rw [all_true]
            have e1011 := e10.trans e11
            have hp11 := e11.lst0 hp9'
            have t11 := e1011.tpA tz9
            have e011 := e09.trans e1011
            refine iteF ⟨_, rfl, p9, zs', _, rfl, hp11, t11, fun H12 u12 e12 w12 => ?_⟩
            refine ⟨u12, gs, rfl, w12, fun b hb => (W.ok b hb).h900 dl.n64, by omega, fun H13 e13 => ?_⟩
            have e013 := (e011.trans e12).trans e13
            have n64 := dl.n64
            refine ⟨_, rfl, a, _, 0, _, rfl, rfl, SqT.of (e013.tup ha), atI_nat (j := 0) rfl, n, rfl, by omega, _, _, rfl, rfl, _, rfl, ifT (by rw [W.sz]) ?_⟩
            refine ⟨_, rfl, p9, zs', n, gs, rfl, .inl ((e12.trans e13).lst0 hp11), (e12.trans e13).tpA t11, n64, W.ok, by omega, e013.tab tb, fun H14 u14 fs e14 w14 fw l14 => ?_⟩
            have e014 := e013.trans e14
            refine ⟨_, rfl, a, _, 0, _, rfl, rfl, SqT.of (e014.tup ha), atI_nat (j := 0) rfl, [.int ((0 : Nat) : Int), .int (n : Nat)], .cons (.int _) (.cons (.int _) .nil), n1000, fun H15 u15 e15 w15 => ?_⟩
            refine ⟨[bD (0, n)], .cons w15 .nil, n1000, fun H16 u16 e16 w16 => ?_⟩
            have ef := W.row fw
            subst ef
            refine ⟨pD [(0, n)], pD [(0, n)], ((e15.trans e16).tp w14).dp, w16.dp, bt_shaped _, bt_shaped _, ?_⟩
            rw [SeqAt.eqv_refl _ rfl]
            exact q H16 ((e014.trans e15).trans e16)
end
end K54
end
section
set_option Elab.async false
set_option linter.all false
set_option maxRecDepth 100000
set_option maxHeartbeats 8000000
/-! The law's body. -/
namespace K54
open PySem PySem.Spec PyProof.Rows L2
theorem cells (L : Nat) : -(2 ^ 62) ≤ (if (if ((L : Nat) : Int) < 5 then ((L : Nat) : Int) else 5) > 2 then (if ((L : Nat) : Int) < 5 then ((L : Nat) : Int) else 5) else 2) ∧ (if (if ((L : Nat) : Int) < 5 then ((L : Nat) : Int) else 5) > 2 then (if ((L : Nat) : Int) < 5 then ((L : Nat) : Int) else 5) else 2) < 2 ^ 62 ∧
    (if (if ((L : Nat) : Int) < 5 then ((L : Nat) : Int) else 5) > 2 then (if ((L : Nat) : Int) < 5 then ((L : Nat) : Int) else 5) else 2).toNat ≤ 5 := by
  split <;> split <;> omega
theorem ifm {Q : VK} {H : Hp} {b : Bool} {σ : L2.St} {m i : Nat} (hm : m ≤ 40) (hσ : σ[i]? = some (some (.int (m : Nat)))) (h : ∀ k : Nat, k ≤ 40 → Q (.int (k : Nat)) H) : if b = true then tVar i σ H Q else tC (.int 6) σ H Q := by
  cases b with
  | true => exact iteT ⟨_, hσ, h m hm⟩
  | false => exact iteF (h 6 (by decide))
theorem pick38 (b : Bool) : ∃ c : Nat, c ≤ 8 ∧ atI [V.int 3, V.int 8] (if b = true then 1 else 0) = some (V.int (c : Nat)) := by
  cases b with
  | true => exact ⟨8, by decide, rfl⟩
  | false => exact ⟨3, by decide, rfl⟩
theorem pick15 {d : Nat} (h : d < 3) : ∃ m : Nat, m ≤ 40 ∧ [V.int 15, V.int 15, V.int 40][d]? = some (V.int (m : Nat)) := by
  rcases (show d = 0 ∨ d = 1 ∨ d = 2 by omega) with rfl | rfl | rfl
  · exact ⟨15, by decide, rfl⟩
  · exact ⟨15, by decide, rfl⟩
  · exact ⟨40, by decide, rfl⟩
theorem cutN (ds : List PyData) (k : Nat) : cutD ds none (some ((k : Nat) : Int)) = ds.take k := by
  unfold cutD
  rw [HT.sIx_none, HT.sIx_nat, List.drop_zero, Nat.sub_zero]
  rcases Nat.le_total k ds.length with h | h
  · rw [Nat.min_eq_left h]
  · rw [Nat.min_eq_right h, List.take_length, List.take_of_length_le h]
def iD (x : Nat) : PyData := .int (x : Nat)
def spLaw (K : PySem.W.Frag) : Sp := fun vs H Q _ => ∃ (a : Addr) (ns : List Int), vs = [.ref a] ∧ SqL K H a (ns.map V.int) ∧ ns.length ≤ 100000 ∧ Tb K H ∧ ∀ H', Q (.bl true) H'
section
variable {P : Program} {w : World} {K : PySem.W.Frag} {mg : Str → Option Value} {base : Heap}
theorem ok_law {f : Addr} {fd : FuncData} (T : Txt mg) (D : Fun K "law" "law" s_law f fd) (g_l_hand : Ok P w K mg base 1 "_law_hand" ["_law_script", "_law_k"] (spHand K)) (g_l_take : Ok P w K mg base 1 "_law_take" ["_law_hand_here", "_law_many"] (spTake K)) (g_l_bits : Ok P w K mg base 3 "_law_bits" ["_law_hand_here"] (spLBits K))
    (g_l_names : Ok P w K mg base 3 "_law_names" ["_law_hand_here", "_law_many"] (spNames K)) (g_l_deal : Ok P w K mg base 7 "_law_deal" ["_law_hand_here", "_law_bits_here", "_law_names_here", "_law_most"] (spDeal K)) (g_is_deal : Ok P w K mg base 5 "is_deal" ["thing"] (spIsDeal K))
    (g_l_parted : Ok P w K mg base 8 "_law_parted" ["_law_deal_here", "_law_names_here"] (spParted K)) (g_free_for : Ok P w K mg base 6 "free_for" ["deal", "name"] (spFree K)) (g_fewest : Ok P w K mg base 5 "fewest" ["blocks"] (spFewest K)) (g_l_kept : Ok P w K mg base 7 "_law_kept" ["_law_deal_here", "_law_name"] (spLKept K))
    (g_l_holder_right : Ok P w K mg base 8 "_law_holder_right" ["_law_deal_here", "_law_address"] (spRight K)) : FnOk P w K mg base CX0 9 f fd ["_law_script"] (spLaw K) := by
  refine D.ok sc_law (fun vs H Q E h => ?_) (fun cdv A outer s H vs Q E hr h => ?_)
  · obtain ⟨a, ns, rfl, _⟩ := h
    rfl
  · obtain ⟨a, ns, rfl, ha, ln, tb, q⟩ := h
    have lns : (ns.map V.int).length = ns.length := List.length_map _
    obtain ⟨cb1, cb2, cb3⟩ := cells (ns.map V.int).length
    refine ⟨_, (pss_cons (ps_for PassesOwn.never rfl (pi_range1 (by rfl) T.range (pa_cons (pe_callB (call_max2 rfl) (by rfl) T.max (by decide +kernel) (pa_cons pe_int (pa_cons (pe_callB (call_min2 rfl) (by rfl) T.min (by decide +kernel) (pa_cons pe_int (pa_cons (pe_callB call_len_seq (by rfl) T.len (by decide +kernel) (pa_cons (pv 0) pa_nil)) pa_nil))) pa_nil))) pa_nil)) (pg_name (i := 1) sc_law.nd rfl (.inl rfl))
        (pss_cons (ps_set (i := 2) sc_law.nd rfl (.inr rfl) (cl g_l_hand hr (pa_cons (pv 0) (pa_cons (pv 1) pa_nil))))
        (pss_cons (ps_set (i := 3) sc_law.nd rfl (.inr rfl) (cl g_l_bits hr (pa_cons (pv 2) pa_nil)))
        (pss_cons (ps_set (i := 4) sc_law.nd rfl (.inl rfl) (cl g_l_names hr (pa_cons (pv 2) (pa_cons (pe_op op_add pe_int (cl g_l_take hr (pa_cons (pv 2) (pa_cons pe_int pa_nil)))) pa_nil))))
        (pss_cons (ps_set (i := 5) sc_law.nd rfl (.inl rfl) (pe_ix ix_list (pe_lstD (pa_cons pe_int (pa_cons pe_int (pa_cons pe_int pa_nil)))) (cl g_l_take hr (pa_cons (pv 2) (pa_cons pe_int pa_nil))) (fun _ _ => rfl)))
        (pss_cons (ps_set (i := 6) sc_law.nd rfl (.inr rfl) (cl g_l_deal hr (pa_cons (pv 2) (pa_cons (pv 3) (pa_cons (pv 4) (pa_cons (pe_ifExp (pt_cmp (pc_le (pv 3) pe_int)) (pv 5) pe_int) pa_nil))))))
        (pss_cons (ps_if (PW.pt (pw_or (pt_cmpR op_notBl (cl g_is_deal hr (pa_cons (pv 6) pa_nil)) pe_bl (nomark _)) (pw_or1 (pt_not (pt_val (cl g_l_parted hr (pa_cons (pv 6) (pa_cons (pv 4) pa_nil)))))))) (pss_one (ps_ret pe_bl)) pss_nil)
        (pss_cons (ps_for PassesOwn.never rfl (pi_list (pe_slice sl_listD (pv 4) po_none (po_some pe_int))) (pg_name (i := 7) sc_law.nd rfl (.inl rfl))
          (pss_one (ps_if (pt_cmpR (op_neD hr.units) (cl g_free_for hr (pa_cons (pv 6) (pa_cons (pv 7) pa_nil))) (cl g_fewest hr (pa_cons (pe_op op_catTD (cl g_free_for hr (pa_cons (pv 6) (pa_cons pe_non pa_nil))) (cl g_l_kept hr (pa_cons (pv 6) (pa_cons (pv 7) pa_nil)))) pa_nil)) (nomark _)) (pss_one (ps_ret pe_bl)) pss_nil)))
        (pss_cons (ps_set (i := 8) sc_law.nd rfl (.inl rfl) (pe_op op_catD (pe_lstD (pa_cons pe_int (pa_cons (pe_op op_sub (pe_shl1 (pv 3)) pe_int) pa_nil))) (pe_lc (own := [("_law_turn", 11)]) (g := gName 11) (tt := tYes) rfl sc_law.nd (pi_range1 (by rfl) T.range (pa_cons (pe_ix ix_list (pe_lstD (pa_cons pe_int (pa_cons pe_int pa_nil))) (pe_callTy call_int1 (by rfl) T.int (by decide +kernel) (pa_cons (pe_cmp (pc_le (pv 3) pe_int)) pa_nil)) (fun _ _ => rfl)) pa_nil)) (blkOk_by (N := ["_law_script", "_law_k", "_law_hand_here", "_law_bits_here", "_law_names_here", "_law_most", "_law_deal_here", "_law_name", "_law_some", "_law_begin", "_law_height", "_law_turn", "_law_address"]) (sc := defScope s_law) (by decide +kernel)) (fun _ _ _ _ _ => (pg_name (i := 11) sc_law.nd rfl (.inl rfl))) (fun _ _ _ _ _ => pts_nil) (fun _ _ _ _ _ => (cl g_l_take hr (pa_cons (pv 2) (pa_cons (pe_shl1 (pv 3)) pa_nil)))))))
        (pss_cons (ps_for PassesOwn.never rfl (pi_tup (pe_op op_catTD (pe_slice sl_tupD (pe_ix ix_tup (pv 6) pe_int (fun _ _ => rfl)) po_none (po_some pe_int)) (pe_slice sl_tupD (pe_ix ix_tup (pv 6) pe_int (fun _ _ => rfl)) po_none (po_some pe_int)))) (pg_tup rfl (pgs_cons (pg_tup rfl (pgs_cons (pg_name (i := 9) sc_law.nd rfl (.inl rfl)) (pgs_cons (pg_name (i := 10) sc_law.nd rfl (.inl rfl)) pgs_nil))) (pgs_cons (pg_name (i := 7) sc_law.nd rfl (.inl rfl)) pgs_nil)))
          (pss_one (ps_expr (pe_bm PySem.F.plainAttrs_list PySem.F.slot_list_extend PySem.F.type_list_extend mt_extend (pv 8) (pa_cons (pe_lstD (pa_cons (pv 9) (pa_cons (pe_op op_sub (pe_op op_add (pv 9) (pe_shl1 (pv 10))) pe_int) pa_nil))) pa_nil)))))
        (pss_one (ps_if (pt_not (pt_val (pe_callB (cr_all rfl) (by rfl) T.all (by decide +kernel) (pa_cons (pe_lc (own := [("_law_address", 12)]) (g := gName 12) (tt := tYes) rfl sc_law.nd (pi_list (pv 8)) (blkOk_by (N := ["_law_script", "_law_k", "_law_hand_here", "_law_bits_here", "_law_names_here", "_law_most", "_law_deal_here", "_law_name", "_law_some", "_law_begin", "_law_height", "_law_turn", "_law_address"]) (sc := defScope s_law) (by decide +kernel)) (fun _ _ _ _ _ => (pg_name (i := 12) sc_law.nd rfl (.inl rfl))) (fun _ _ _ _ _ => pts_nil) (fun _ _ _ _ _ => (cl g_l_holder_right hr (pa_cons (pv 6) (pa_cons (pv 12) pa_nil))))) pa_nil)))) (pss_one (ps_ret pe_bl)) pss_nil))))))))))))
      (pss_one (ps_ret pe_bl))), ?_⟩
    refine ⟨_, rfl, a, _, rfl, .inl ha, _, _, rfl, _, _, rfl, _, rfl, cb1, cb2, ?_⟩
    refine for_it walk_range (fun i σ Hc => ∃ y1 y2 y3 y4 y5 y6 y7 y8 y9 y10, σ = [some (.ref a), y1, y2, y3, y4, y5, y6, y7, y8, y9, y10, none, none] ∧ Ex K [] H Hc) ⟨none, none, none, none, none, none, none, none, none, none, rfl, Ex.refl⟩ (fun _ _ _ _ _ => trivial) ?_ ?_
    · rintro i x σ Hc H' hi ⟨y1, y2, y3, y4, y5, y6, y7, y8, y9, y10, rfl, e0⟩ ⟨rfl, rfl⟩
      have hi5 : i < 5 := Nat.lt_of_lt_of_le hi cb3
      refine ⟨_, rfl, _, rfl, a, ns, i, by simp, e0.seqL ha, line_of (by omega), by omega, fun H1 l e1 hl hd1 => ?_⟩
      refine ⟨_, rfl, l, 0, rfl, hd1, by omega, fun H2 n e2 hd2 n1 n64 => ?_⟩
      refine ⟨_, rfl, _, rfl, l, 1, 9, rfl, hd2, by omega, by decide, by decide, fun H3 d e3 hd3 hlt => ?_⟩
      refine ⟨_, _, rfl, rfl, l, 2, 1 + d, rfl, hd3, by omega, by omega, fun H4 nl zs e4 hd4 nwn nen hnl lz znd znm => ?_⟩
      refine ⟨[.int 15, .int 15, .int 40], .cons (.int _) (.cons (.int _) (.cons (.int _) .nil)), n1000, fun H5 p5 e5 n5 hp5 _ => ?_⟩
      refine ⟨_, rfl, l, 12, 3, rfl, hd4.go0 e5, by omega, by decide, by decide, fun H6 d6 e6 hd6 hlt6 => ?_⟩
      obtain ⟨m, m40, hm⟩ := pick15 hlt6
      refine ⟨p5, _, _, _, rfl, rfl, SqL.of (e6.lst (notin1 (hd4.ne n5)) hp5), atI_nat hm, ?_⟩
      refine ⟨_, rfl, _, rfl, _, rfl, _, rfl, _, _, rfl, rfl, _, rfl, ifm m40 rfl fun m2 m240 => ?_⟩
      have e46 := (hd4.ex e5).trans e6
      have hnl6 := e46.lst (notin1 nen) hnl
      refine ⟨l, nl, 13, n, m2, zs, rfl, hd6, by omega, n1, n64, m240, hnl6, nen, by omega, by omega, znm, fun H7 u outs kept e7 hd7 w7 dl ol kl hom hkm => ?_⟩
      have e17 : Ex K [l] H1 H7 := (((e2.trans e3).trans e4).trans e46).trans e7
      have tb7 : Tb K H7 := e17.tab (e1.tab (e0.tab tb))
      have hnl7 := e7.lst (notin1 nen) hnl6
      refine ⟨_, rfl, u, n, outs, kept, rfl, w7, dl, fun H8 e8 => ⟨true, true, rfl, rfl, _, rfl, if2N (fun c => absurd rfl c) fun _ => ?_⟩⟩
      refine ⟨_, rfl, _, rfl, u, nl, n, outs, kept, zs, rfl, e8.tp w7, e8.lst0 hnl7, dl, e8.tab tb7, znd, by omega, hom, fun H9 e9 => ⟨_, rfl, iteF ?_⟩⟩
      have e79 := e8.trans e9
      refine ⟨_, rfl, _, rfl, nl, _, zs.map PyData.str, rfl, e79.lst0 hnl7, TpA.ofStrs zs, fun H10 p10 e10 n10 hp10 t10 => ?_⟩
      have c3 : cutD (zs.map PyData.str) none (some 3) = (zs.take 3).map PyData.str := by
        rw [List.map_take]
        exact cutN _ 3
      rw [c3] at t10
      generalize cutV (zs.map V.str) none (some 3) = xs3 at *
      have ex3 := t10.strs
      subst ex3
      have lx3 : ((zs.take 3).map V.str).length ≤ 20 := by
        rw [List.length_map, List.length_take]
        omega
      have e710 := e79.trans e10
      have w10 := e710.tp w7
      have tb10 := e710.tab tb7
      refine ⟨p10, rfl, ⟨_, SqL.of hp10⟩, ?_⟩
      refine for_it (walk_list (K := K) (a := p10) (xs := (zs.take 3).map V.str)) (fun i2 σ Hc2 => ∃ y1 y5 y7 y8 y9 y10, σ = [some (.ref a), y1, some (.ref l), some (.int (n : Nat)), some (.ref nl), y5, some u, y7, y8, y9, y10, none, none] ∧ Ex K [] H10 Hc2) ⟨_, _, _, _, _, _, rfl, Ex.refl⟩ ?_ ?_ ?_
      · rintro j σ Hc2 _ ⟨z1, z5, z7, z8, z9, z10, rfl, e11⟩
        exact SqL.of (e11.lst0 hp10)
      · rintro j x σ Hc2 H' hj ⟨z1, z5, z7, z8, z9, z10, rfl, e11⟩ ⟨rfl, hx⟩
        obtain ⟨z, hz, rfl⟩ := map_at hx
        have w11 := e11.tp w10
        have tb11 := e11.tab tb10
        refine ⟨_, rfl, _, rfl, u, some z, n, outs, kept, rfl, w11, dl, tb11, fun H12 u12 fs e12 w12 fw l12 => ?_⟩
        refine ⟨_, rfl, u, none, n, outs, kept, rfl, e12.tp w11, dl, e12.tab tb11, fun H13 u13 gs e13 w13 gw l13 => ?_⟩
        have e1213 := e12.trans e13
        refine ⟨_, rfl, _, rfl, u, some z, n, outs, kept, rfl, e1213.tp w11, dl, e1213.tab tb11, fun H14 u14 ks e14 w14 kw l14 => ?_⟩
        have e1214 := e1213.trans e14
        refine ⟨gs.map bD, ks.map bD, e14.tp w13, w14, by rw [List.length_map, List.length_map]; omega, fun H15 u15 e15 w15 => ?_⟩
        rw [← List.map_append] at w15
        obtain ⟨a15, xs15, rfl, h15', t15⟩ := w15.tupD
        have e1215 := e1214.trans e15
        refine ⟨a15, xs15, n, gs ++ ks, rfl, .inr h15', t15, n64, fun b hb => ?_, by rw [List.length_append]; omega, e1215.tab tb11, fun H16 u16 hs e16 w16 hw l16 => ?_⟩
        · rcases List.mem_append.mp hb with h | h
          · exact gw.ok b h
          · exact kw.ok b h
        · have eh : hs = fs := hw.one (fw.iff fun x => by rw [free_split dl z x, cov_app, gw.cov, kw.cov])
          subst eh
          refine ⟨pD hs, pD hs, ((((e13.trans e14).trans e15).trans e16).tp w12).dp, w16.dp, bt_shaped _, bt_shaped _, _, rfl, ?_⟩
          rw [SeqAt.eqv_refl _ (by simp only [pD, PyData.canLay0]; exact bDs_lay hs)]
          exact iteF ⟨_, _, _, _, _, _, rfl, e11.trans (e1215.trans e16)⟩
      · rintro σ Hc2 ⟨z1, z5, z7, z8, z9, z10, rfl, e11⟩
        have e711 := e710.trans e11
        have w11 := e711.tp w7
        have tb11 := e711.tab tb7
        have hd11 := hd7.go0 e711
        have pos := two_pos n
        have p64 : 2 ^ n ≤ 2 ^ 64 := Nat.pow_le_pow_right (by decide) n64
        refine ⟨_, rfl, n, rfl, by omega, _, _, rfl, rfl, [0, 2 ^ n - 1].map iD, .cons (.int _) (.cons ?_ .nil), n1000, fun H12 p12 e12 n12 hp12 t12 => ?_⟩
        · have e : ((2 ^ n : Nat) : Int) - 1 = ((2 ^ n - 1 : Nat) : Int) := by omega
          show Tp _ (.int (((2 ^ n : Nat) : Int) - 1)) _
          rw [e]
          exact .int _
        have hd12 := hd11.go0 e12
        refine ⟨[.int 3, .int 8], .cons (.int _) (.cons (.int _) .nil), n1000, fun H13 p13 e13 n13 hp13 _ => ?_⟩
        obtain ⟨c, c8, hc⟩ := pick38 (decide (((n : Nat) : Int) ≤ 16))
        refine ⟨_, rfl, _, _, rfl, rfl, .inr ⟨_, rfl, p13, _, _, _, rfl, rfl, SqL.of hp13, hc, _, rfl, by omega, by omega, fun D hD => ?_⟩⟩
        have hd13 := hd12.go0 e13
        have nl12 : p12 ≠ l := hd11.ne n12
        refine lcZ (K := K) (L := [l]) walk_range (fun i ds Hc => ∃ xs : List Nat, ds = xs.map iD ∧ (∀ x ∈ xs, x < 2 ^ n) ∧ Hand Hc l (3000 + i)) hD hd13.hL (by omega) ⟨[], rfl, fun x hx => (by cases hx), (hd13.go0 (Ex.new (K := K) hD)).mono (by omega)⟩ (fun i ds Ha Hb ⟨xs, h1, h2, h3⟩ e => ⟨xs, h1, h2, h3.go e (notin1 (hd13.ne hD).symm)⟩) (fun _ _ => trivial) ?_ ?_
        · rintro j ds x Ha Hb KP hj ea ⟨xs, rfl, hxs, hda⟩ ⟨rfl, rfl⟩ hK
          refine ⟨rfl, _, rfl, _, rfl, n, rfl, by omega, l, _, 2 ^ n, rfl, hda, by omega, pos, p64, fun H4 d e4 hd4 hlt => ?_⟩
          refine hK _ _ (.int (d : Nat)) e4 (.int _) ⟨xs ++ [d], by rw [List.map_append]; rfl, fun x hx => ?_, hd4⟩
          rcases List.mem_append.mp hx with h | h
          · exact hxs x h
          · rw [List.mem_singleton.mp h]
            exact hlt
        · rintro H14 ls ds e14 hD14 td hl14 ⟨xs, rfl, hxs, hd14⟩
          have hp12' := e14.lst (notin1 nl12) (e13.lst0 hp12)
          have lxs : xs.length ≤ 8 := by
            rw [List.length_map] at hl14
            omega
          refine ⟨p12, D, _, ls, _, _, rfl, rfl, hp12', hD14, e14.tpA (e13.tpA t12), td, by rw [List.length_map, List.length_map]; simp; omega, fun H15 p15 e15 n15 hp15 t15 => ?_⟩
          rw [← List.map_append] at t15
          have hxs2 : ∀ x ∈ [0, 2 ^ n - 1] ++ xs, x < 2 ^ n := fun x hx => by
            rcases List.mem_append.mp hx with h | h
            · simp only [List.mem_cons, List.not_mem_nil, or_false] at h
              rcases h with rfl | rfl <;> omega
            · exact hxs x h
          have lxs2 : ([0, 2 ^ n - 1] ++ xs).length ≤ 10 := by
            rw [List.length_append]
            simp
            omega
          generalize [0, 2 ^ n - 1] ++ xs = as0 at *
          have e12' : Ex K [l] Hc2 H14 := (((hd11.ex e12).thenL e13).trans e14)
          have e115 : Ex K [l] H1 H15 := ((e17.thenL e711).trans e12').thenL e15
          have nw15 : Nw H1 p15 := ((e17.thenL e711).trans e12').nw n15
          have nl15 : p15 ≠ l := hd14.ne n15
          have e715 : Ex K [l] Hc2 H15 := e12'.thenL e15
          have w15 := e715.tp w11
          obtain ⟨a6, x0, x1, x2, rfl, ha6, t60, t61, t62⟩ := w15.three
          refine ⟨_, rfl, a6, _, 1, _, rfl, rfl, SqT.of ha6, atI_nat (j := 1) rfl, _, rfl, outs.map oD, t61, fun H16 u16 e16 w16 => ?_⟩
          refine ⟨_, rfl, a6, _, 2, _, rfl, rfl, SqT.of (e16.tup ha6), atI_nat (j := 2) rfl, _, rfl, kept.map oD, e16.tp t62, fun H17 u17 e17' w17 => ?_⟩
          have c9 : ∀ os : List O, cutD (os.map oD) none (some 9) = (os.take 9).map oD := fun os => by
            rw [List.map_take]
            exact cutN _ 9
          rw [c9] at w16 w17
          refine ⟨_, _, e17'.tp w16, w17, by rw [List.length_map, List.length_map, List.length_take, List.length_take]; omega, fun H18 u18 e18 w18 => ?_⟩
          rw [← List.map_append] at w18
          have hos : ∀ o ∈ outs.take 9 ++ kept.take 9, Okb n o.1 := fun o ho => by
            rcases List.mem_append.mp ho with h | h
            · exact dl.oo o (List.mem_of_mem_take h)
            · exact dl.ko o (List.mem_of_mem_take h)
          have los : (outs.take 9 ++ kept.take 9).length ≤ 18 := by
            rw [List.length_append, List.length_take, List.length_take]
            omega
          generalize outs.take 9 ++ kept.take 9 = os at *
          obtain ⟨a18, xs18, rfl, h18, t18⟩ := w18.tupD
          have l18 := t18.lenB
          have e1518 := (e16.trans e17').trans e18
          have hp18 := e1518.lst0 hp15
          refine ⟨a18, rfl, ⟨xs18, SqT.of h18⟩, ?_⟩
          refine for_it (walk_tup (K := K) (a := a18) (xs := xs18)) (fun i2 σ Hc3 => ∃ y1 y5 y7 y9 y10 ys as, σ = [some (.ref a), y1, some (.ref l), some (.int (n : Nat)), some (.ref nl), y5, some (.ref a6), y7, some (.ref p15), y9, y10, none, none] ∧ Ex K [p15] H18 Hc3 ∧ Hc3 p15 = some (.lst ys) ∧ TpA Hc3 ys (List.map iD as) ∧ (∀ x ∈ as, x < 2 ^ n) ∧ as.length ≤ 10 + 2 * i2)
            ⟨_, _, _, _, _, _, as0, rfl, Ex.reflL hp18, hp18, e1518.tpA t15, hxs2, by omega⟩ ?_ ?_ ?_
          · rintro j σ Hc3 _ ⟨z1, z5, z7, z9, z10, ys, as, rfl, e19, _⟩
            exact SqT.of (e19.tup h18)
          · rintro j x σ Hc3 H' hj ⟨z1, z5, z7, z9, z10, ys, as, rfl, e19, hq, tq, has, las⟩ ⟨rfl, hx⟩
            obtain ⟨o, ho, to⟩ := t18.ow hx
            obtain ⟨c1, d1, rfl, hc1, hdd1⟩ := (e19.tp to).ow
            have ob := hos o (mem_at ho)
            have hh := ob.ht
            have ole := ob.le
            have opos := two_pos o.1.2
            have lq := tq.lenB
            refine ⟨c1, _, rfl, SqT.of hc1, rfl, _, _, rfl, d1, _, rfl, SqT.of hdd1, rfl, _, _, rfl, _, _, rfl, rfl, _, _, rfl, rfl, ?_⟩
            refine ⟨_, rfl, .inl ⟨rfl, _, SqL.of hq⟩, _, rfl, _, rfl, _, rfl, o.1.2, rfl, by omega, _, _, rfl, rfl, _, _, rfl, rfl, [o.1.1, o.1.1 + 2 ^ o.1.2 - 1].map iD, .cons (.int _) (.cons ?_ .nil), n1000, fun H20 p20 e20 n20 hp20 t20 => ?_⟩
            · have e : ((o.1.1 : Nat) : Int) + ((2 ^ o.1.2 : Nat) : Int) - 1 = ((o.1.1 + 2 ^ o.1.2 - 1 : Nat) : Int) := by omega
              show Tp _ (.int (((o.1.1 : Nat) : Int) + ((2 ^ o.1.2 : Nat) : Int) - 1)) _
              rw [e]
              exact .int _
            have hq20 := e20.lst0 hq
            have eq : Ex K [p15] H20 (upd H20 p15 (.lst (ys ++ [.int (o.1.1 : Nat), .int (((o.1.1 : Nat) : Int) + ((2 ^ o.1.2 : Nat) : Int) - 1)]))) := Ex.put hq20
            have e1920 : Ex K [p15] H18 H20 := e19.trans (e20.head1 hq (Ex.reflL hq20))
            refine ⟨p15, p20, ys, _, rfl, rfl, hq20, hp20, line_of (by rw [lq]; simp; omega), _, _, _, _, _, _, as ++ [o.1.1, o.1.1 + 2 ^ o.1.2 - 1], rfl, e1920.trans eq, upd_same, ?_, fun x hx => ?_, ?_⟩
            · rw [List.map_append]
              exact (eq.tpA (e20.tpA tq)).app (eq.tpA t20)
            · rcases List.mem_append.mp hx with h | h
              · exact has x h
              · simp only [List.mem_cons, List.not_mem_nil, or_false] at h
                rcases h with rfl | rfl <;> omega
            · rw [List.length_append]
              simp
              omega
          · rintro σ Hc3 ⟨z1, z5, z7, z9, z10, ys, as, rfl, e19, hq, tq, has, las⟩
            have lq := tq.lenB
            have w19 := e19.tp (e1518.tp w15)
            have tb19 : Tb K Hc3 := e19.tab (e1518.tab (e715.tab tb11))
            refine ⟨_, rfl, p15, rfl, ⟨_, SqL.of hq⟩, fun D2 hD2 => ?_⟩
            refine lcY (K := K) (L := []) (walk_list (K := K) (a := p15) (xs := ys)) (fun i ds _ => ds = (List.replicate i true).map PyData.bool) hD2 (by simp) (by omega) (fun _ _ => rfl) (fun _ _ _ _ h _ => h) (fun H e => SqL.of (e.lst0 hq)) ?_ ?_
            · rintro j ds y H20 H21 KP hj e20 rfl ⟨rfl, hy⟩ hK
              obtain ⟨dd, hdd, ty⟩ := tq.at hy
              obtain ⟨x, hx, rfl⟩ := map_at hdd
              have ey := ty.intD
              subst ey
              refine ⟨rfl, _, rfl, _, rfl, .ref a6, x, n, outs, kept, rfl, e20.tp w19, dl, e20.tab tb19, has x (mem_at hx), fun H22 e22 => ?_⟩
              exact hK _ _ (.bool true) e22 (.bl true) (by rw [← rep_snoc, List.map_append]; rfl)
            · rintro H20 ls2 ds2 e20 hD20 td20 hl20 rfl
              refine ⟨D2, List.replicate _ true, rfl, SqL.of (by rw [← td20.bools]; exact hD20), _, rfl, ?_⟩
              rw [all_true]
              refine iteF ⟨_, _, _, _, _, _, _, _, _, _, rfl, ?_⟩
              have e1 : Ex K [] H' H1 := e1
              exact e0.trans ((e1.cut0 (Nw.of hl) ((e115.thenL e1518).cut nw15 e19 (notin1 nl15))).trans e20)
    · rintro σ Hc ⟨y1, y2, y3, y4, y5, y6, y7, y8, y9, y10, rfl, e0⟩
      exact q Hc
end
end K54
end
section
set_option Elab.async false
set_option linter.all false
set_option maxRecDepth 100000
set_option maxHeartbeats 0
namespace K54
open PySem PySem.Spec PyProof.Rows L2

def d_is_whole : He.DefD := ⟨("is_whole", none), "is_whole", "is_whole", defArgs s_is_whole, defBody s_is_whole, defScope s_is_whole, [], []⟩
def d_is_bits : He.DefD := ⟨("is_bits", none), "is_bits", "is_bits", defArgs s_is_bits, defBody s_is_bits, defScope s_is_bits, [], []⟩
def d_is_block : He.DefD := ⟨("is_block", none), "is_block", "is_block", defArgs s_is_block, defBody s_is_block, defScope s_is_block, [], []⟩
def d_size_of : He.DefD := ⟨("size_of", none), "size_of", "size_of", defArgs s_size_of, defBody s_size_of, defScope s_size_of, [], []⟩
def d_end_of : He.DefD := ⟨("end_of", none), "end_of", "end_of", defArgs s_end_of, defBody s_end_of, defScope s_end_of, [], []⟩
def d_holds : He.DefD := ⟨("holds", none), "holds", "holds", defArgs s_holds, defBody s_holds, defScope s_holds, [], []⟩
def d_apart : He.DefD := ⟨("apart", none), "apart", "apart", defArgs s_apart, defBody s_apart, defScope s_apart, [], []⟩
def d_halves : He.DefD := ⟨("halves", none), "halves", "halves", defArgs s_halves, defBody s_halves, defScope s_halves, [], []⟩
def d_around : He.DefD := ⟨("around", none), "around", "around", defArgs s_around, defBody s_around, defScope s_around, [], []⟩
def d_other_half : He.DefD := ⟨("other_half", none), "other_half", "other_half", defArgs s_other_half, defBody s_other_half, defScope s_other_half, [], []⟩
def d_are_apart : He.DefD := ⟨("are_apart", none), "are_apart", "are_apart", defArgs s_are_apart, defBody s_are_apart, defScope s_are_apart, [], []⟩
def d_is_patch : He.DefD := ⟨("is_patch", none), "is_patch", "is_patch", defArgs s_is_patch, defBody s_is_patch, defScope s_is_patch, [], []⟩
def d_make_one : He.DefD := ⟨("make_one", none), "make_one", "make_one", defArgs s_make_one, defBody s_make_one, defScope s_make_one, [], []⟩
def d_is_fewest : He.DefD := ⟨("is_fewest", none), "is_fewest", "is_fewest", defArgs s_is_fewest, defBody s_is_fewest, defScope s_is_fewest, [], []⟩
def d_count_of : He.DefD := ⟨("count_of", none), "count_of", "count_of", defArgs s_count_of, defBody s_count_of, defScope s_count_of, [], []⟩
def d_pushed : He.DefD := ⟨("pushed", none), "pushed", "pushed", defArgs s_pushed, defBody s_pushed, defScope s_pushed, [], []⟩
def d_fewest : He.DefD := ⟨("fewest", none), "fewest", "fewest", defArgs s_fewest, defBody s_fewest, defScope s_fewest, [], []⟩
def d_greatest_at : He.DefD := ⟨("greatest_at", none), "greatest_at", "greatest_at", defArgs s_greatest_at, defBody s_greatest_at, defScope s_greatest_at, [], []⟩
def d_stretch : He.DefD := ⟨("stretch", none), "stretch", "stretch", defArgs s_stretch, defBody s_stretch, defScope s_stretch, [], []⟩
def d_gaps : He.DefD := ⟨("gaps", none), "gaps", "gaps", defArgs s_gaps, defBody s_gaps, defScope s_gaps, [], []⟩
def d_rest_of : He.DefD := ⟨("rest_of", none), "rest_of", "rest_of", defArgs s_rest_of, defBody s_rest_of, defScope s_rest_of, [], []⟩
def d_without : He.DefD := ⟨("without", none), "without", "without", defArgs s_without, defBody s_without, defScope s_without, [], []⟩
def d_block_with : He.DefD := ⟨("block_with", none), "block_with", "block_with", defArgs s_block_with, defBody s_block_with, defScope s_block_with, [], []⟩
def d_is_name : He.DefD := ⟨("is_name", none), "is_name", "is_name", defArgs s_is_name, defBody s_is_name, defScope s_is_name, [], []⟩
def d_are_owned : He.DefD := ⟨("are_owned", none), "are_owned", "are_owned", defArgs s_are_owned, defBody s_are_owned, defScope s_are_owned, [], []⟩
def d_go_together : He.DefD := ⟨("go_together", none), "go_together", "go_together", defArgs s_go_together, defBody s_go_together, defScope s_go_together, [], []⟩
def d_is_deal : He.DefD := ⟨("is_deal", none), "is_deal", "is_deal", defArgs s_is_deal, defBody s_is_deal, defScope s_is_deal, [], []⟩
def d_kept_from : He.DefD := ⟨("kept_from", none), "kept_from", "kept_from", defArgs s_kept_from, defBody s_kept_from, defScope s_kept_from, [], []⟩
def d_free_for : He.DefD := ⟨("free_for", none), "free_for", "free_for", defArgs s_free_for, defBody s_free_for, defScope s_free_for, [], []⟩
def d_out_to : He.DefD := ⟨("out_to", none), "out_to", "out_to", defArgs s_out_to, defBody s_out_to, defScope s_out_to, [], []⟩
def d_holder : He.DefD := ⟨("holder", none), "holder", "holder", defArgs s_holder, defBody s_holder, defScope s_holder, [], []⟩
def d_l_hand : He.DefD := ⟨("_law_hand", none), "_law_hand", "_law_hand", defArgs s_l_hand, defBody s_l_hand, defScope s_l_hand, [], []⟩
def d_l_take : He.DefD := ⟨("_law_take", none), "_law_take", "_law_take", defArgs s_l_take, defBody s_l_take, defScope s_l_take, [], []⟩
def d_l_pick : He.DefD := ⟨("_law_pick", none), "_law_pick", "_law_pick", defArgs s_l_pick, defBody s_l_pick, defScope s_l_pick, [], []⟩
def d_l_bits : He.DefD := ⟨("_law_bits", none), "_law_bits", "_law_bits", defArgs s_l_bits, defBody s_l_bits, defScope s_l_bits, [], []⟩
def d_l_block : He.DefD := ⟨("_law_block", none), "_law_block", "_law_block", defArgs s_l_block, defBody s_l_block, defScope s_l_block, [], []⟩
def d_l_near : He.DefD := ⟨("_law_near", none), "_law_near", "_law_near", defArgs s_l_near, defBody s_l_near, defScope s_l_near, [], []⟩
def d_l_blocks : He.DefD := ⟨("_law_blocks", none), "_law_blocks", "_law_blocks", defArgs s_l_blocks, defBody s_l_blocks, defScope s_l_blocks, [], []⟩
def d_l_patch : He.DefD := ⟨("_law_patch", none), "_law_patch", "_law_patch", defArgs s_l_patch, defBody s_l_patch, defScope s_l_patch, [], []⟩
def d_l_names : He.DefD := ⟨("_law_names", none), "_law_names", "_law_names", defArgs s_l_names, defBody s_l_names, defScope s_l_names, [], []⟩
def d_l_meet : He.DefD := ⟨("_law_meet", none), "_law_meet", "_law_meet", defArgs s_l_meet, defBody s_l_meet, defScope s_l_meet, [], []⟩
def d_l_deal : He.DefD := ⟨("_law_deal", none), "_law_deal", "_law_deal", defArgs s_l_deal, defBody s_l_deal, defScope s_l_deal, [], []⟩
def d_l_kept : He.DefD := ⟨("_law_kept", none), "_law_kept", "_law_kept", defArgs s_l_kept, defBody s_l_kept, defScope s_l_kept, [], []⟩
def d_l_holder_right : He.DefD := ⟨("_law_holder_right", none), "_law_holder_right", "_law_holder_right", defArgs s_l_holder_right, defBody s_l_holder_right, defScope s_l_holder_right, [], []⟩
def d_l_parted : He.DefD := ⟨("_law_parted", none), "_law_parted", "_law_parted", defArgs s_l_parted, defBody s_l_parted, defScope s_l_parted, [], []⟩
def d_law : He.DefD := ⟨("law", none), "law", "law", defArgs s_law, defBody s_law, defScope s_law, [], []⟩
def fn : List He.DefD := [d_is_whole, d_is_bits, d_is_block, d_size_of, d_end_of, d_holds, d_apart, d_halves, d_around, d_other_half, d_are_apart, d_is_patch, d_make_one, d_is_fewest, d_count_of, d_pushed, d_fewest, d_greatest_at, d_stretch, d_gaps, d_rest_of, d_without, d_block_with, d_is_name, d_are_owned, d_go_together, d_is_deal, d_kept_from, d_free_for, d_out_to, d_holder, d_l_hand, d_l_take, d_l_pick, d_l_bits, d_l_block, d_l_near, d_l_blocks, d_l_patch, d_l_names, d_l_meet, d_l_deal, d_l_kept, d_l_holder_right, d_l_parted, d_law]

def gnames : List PySem.Str := (["MOST_BITS", "is_whole", "is_bits", "is_block", "size_of", "end_of", "holds", "apart", "halves", "around", "other_half", "are_apart", "is_patch", "make_one", "is_fewest", "count_of", "pushed", "fewest", "greatest_at", "stretch", "gaps", "rest_of", "without", "block_with", "LETTERS", "MOST_SIGNS", "is_name", "are_owned", "go_together", "is_deal"] : List PySem.Str) ++ (["kept_from", "free_for", "out_to", "holder", "_law_hand", "_law_take", "_law_pick", "_law_bits", "_law_block", "_law_near", "_law_blocks", "_law_patch", "_law_names", "_law_meet", "_law_deal", "_law_kept", "_law_holder_right", "_law_parted"] : List PySem.Str)
def fa : List He.Fa := ([.glo "is_whole", .glo "is_bits", .glo "is_block", .glo "size_of", .glo "end_of", .glo "holds", .glo "apart", .glo "halves", .glo "around", .glo "other_half", .glo "are_apart", .glo "is_patch", .glo "make_one", .glo "is_fewest", .glo "count_of", .glo "pushed", .glo "fewest", .glo "greatest_at", .glo "stretch", .glo "gaps", .glo "rest_of", .glo "without", .glo "block_with", .glo "is_name", .glo "are_owned", .glo "go_together", .glo "is_deal", .glo "kept_from", .glo "free_for", .glo "out_to"] : List He.Fa) ++ ([.glo "holder", .glo "_law_hand", .glo "_law_take", .glo "_law_pick", .glo "_law_bits", .glo "_law_block", .glo "_law_near", .glo "_law_blocks", .glo "_law_patch", .glo "_law_names", .glo "_law_meet", .glo "_law_deal", .glo "_law_kept", .glo "_law_holder_right", .glo "_law_parted", .glo "law"] : List He.Fa) ++ ([.free "isinstance", .free "int", .free "bool", .free "tuple", .free "str", .free "len", .free "all", .free "any", .free "sum", .free "zip", .free "sorted", .free "range", .free "max", .free "min", .int "MOST_BITS" 64, .int "MOST_SIGNS" 8, .str "LETTERS" "abcdefghijklmnopqrstuvwxyz"] : List He.Fa)
def tf : List He.Defn := [("fewest", none)]
abbrev RR : PySem.W.OpenRow := PySem.W.OpenLaw.row PySem.Challenge.rw_blockdeal_k54_whole_addresses_in_one_pla
abbrev hk : PySem.W.Hook := He.hookX 4 fa fn [] tf (fun _ => true)
def ob (s : PySem.W.SharedT) : He.AlX := He.obsX 4 fa fn [] tf (fun _ => true) (HandSHeadRun.getT s)
theorem ob_eq (s : PySem.W.SharedT) : ob s = hk.obs s.abs := He.obsX_eq (HandSHeadRun.getT_eq s)
theorem run (w : World) : HandSHeadRun.RunEq RR (PySem.W.view RR.prog [52]) hk ob 2000 gnames w := by
  intro os
  kernel_rfl
end K54
end
section
set_option Elab.async false
set_option linter.all false
set_option maxRecDepth 100000
set_option maxHeartbeats 4000000
/-! The end: all defs behind the head. -/
namespace K54
open PySem PySem.Spec PyProof.Rows L2
theorem fun_of {K : PySem.W.Frag} {x : Str} {st : Stmt} {f : Addr} {fd : FuncData} (F : FunD K x x (defArgs st) (defBody st) (defScope st) [] [] f fd) : Fun K x x st f fd := by
  obtain ⟨oc, od, dV, kV, doc, pm, an, cdv, ct, osl, e, lk, hc, dv, _⟩ := F.ex
  have e0 : dV = .none := by
    rcases dv with ⟨_, h⟩ | ⟨h, _⟩
    · exact h
    · exact absurd rfl h
  subst e0
  exact ⟨⟨oc, od, kV, doc, pm, an, cdv, ct, osl, e, lk, hc⟩, F.kp⟩
theorem fun_binds {K : PySem.W.Frag} {x qual : Str} {st : Stmt} {f : Addr} {fd : FuncData} {ps : List Str} (F : Fun K x qual st f fd)
    (h : ∀ (kV doc pm : Value) (an : Option Addr) (cdv ct : Value) (us : List Value), us.length = ps.length → bindArgs (PySem.W.fnOf x qual (defArgs st) (defBody st) (defScope st) .none kV doc pm an cdv ct) ⟨us, []⟩ = pure (ps.zip us)) (s : Shared) (us : List Value) (hl : us.length = ps.length) : BindsTo s fd ⟨us, []⟩ (ps.zip us) := by
  obtain ⟨oc, od, kV, doc, pm, an, cdv, ct, osl, rfl, lk, hcd⟩ := F.ex
  exact .of_eq (h kV doc pm an cdv ct us hl)
theorem def_of {K : PySem.W.Frag} {h : Heap} {mg : Str → Option Value} {x : Str} {st : Stmt} (X : K.In h) (G : h.Ns mainGlobals mg) (c : He.SaysD fa fn K) (i j : Nat) (hi : fn[i]? = some ⟨(x, none), x, x, defArgs st, defBody st, defScope st, [], []⟩) (hj : fa[j]? = some (.glo x)) : Def K mg x st := by
  obtain ⟨fd, F⟩ := c.def_ i (d := ⟨(x, none), x, x, defArgs st, defBody st, defScope st, [], []⟩) hi
  exact ⟨_, fd, fun_of F, He.glo_ok X G (c.fact j (f := .glo x) hj)⟩
theorem facts {P : Program} {w : World} {K : PySem.W.Frag} {h : Heap} {mg : Str → Option Value} (X : K.In h) (G : h.Ns mainGlobals mg) (c : He.SaysX fa fn [] tf (fun _ => true) w h K) :
    ∃ f fd, mg ("law" : Str) = some (.ref f) ∧ Fun K "law" "law" s_law f fd ∧ ∀ base : Heap, (∀ p ∈ [He.cT K ("fewest", none)], LamX.TabB base mg p.1 p.2) → FnOk P w K mg base CX0 9 f fd ["_law_script"] (spLaw K) := by
  have cd := c.t.d
  have T : Txt mg := ⟨He.free_ok X G (cd.fact 46 (f := .free "isinstance") rfl), He.free_ok X G (cd.fact 47 (f := .free "int") rfl), He.free_ok X G (cd.fact 48 (f := .free "bool") rfl), He.free_ok X G (cd.fact 49 (f := .free "tuple") rfl), He.free_ok X G (cd.fact 50 (f := .free "str") rfl), He.free_ok X G (cd.fact 51 (f := .free "len") rfl), He.free_ok X G (cd.fact 52 (f := .free "all") rfl), He.free_ok X G (cd.fact 53 (f := .free "any") rfl), He.free_ok X G (cd.fact 54 (f := .free "sum") rfl), He.free_ok X G (cd.fact 55 (f := .free "zip") rfl), He.free_ok X G (cd.fact 56 (f := .free "sorted") rfl), He.free_ok X G (cd.fact 57 (f := .free "range") rfl), He.free_ok X G (cd.fact 58 (f := .free "max") rfl), He.free_ok X G (cd.fact 59 (f := .free "min") rfl), He.int_ok X G (cd.fact 60 (f := .int "MOST_BITS" 64) rfl), He.int_ok X G (cd.fact 61 (f := .int "MOST_SIGNS" 8) rfl), He.str_ok X G (cd.fact 62 (f := .str "LETTERS" "abcdefghijklmnopqrstuvwxyz") rfl)⟩
  have D_is_whole : Def K mg "is_whole" s_is_whole := def_of X G cd 0 0 rfl rfl
  have D_is_bits : Def K mg "is_bits" s_is_bits := def_of X G cd 1 1 rfl rfl
  have D_is_block : Def K mg "is_block" s_is_block := def_of X G cd 2 2 rfl rfl
  have D_size_of : Def K mg "size_of" s_size_of := def_of X G cd 3 3 rfl rfl
  have D_end_of : Def K mg "end_of" s_end_of := def_of X G cd 4 4 rfl rfl
  have D_holds : Def K mg "holds" s_holds := def_of X G cd 5 5 rfl rfl
  have D_apart : Def K mg "apart" s_apart := def_of X G cd 6 6 rfl rfl
  have D_halves : Def K mg "halves" s_halves := def_of X G cd 7 7 rfl rfl
  have D_around : Def K mg "around" s_around := def_of X G cd 8 8 rfl rfl
  have D_other_half : Def K mg "other_half" s_other_half := def_of X G cd 9 9 rfl rfl
  have D_make_one : Def K mg "make_one" s_make_one := def_of X G cd 12 12 rfl rfl
  have D_are_apart : Def K mg "are_apart" s_are_apart := def_of X G cd 10 10 rfl rfl
  have D_is_patch : Def K mg "is_patch" s_is_patch := def_of X G cd 11 11 rfl rfl
  have D_is_fewest : Def K mg "is_fewest" s_is_fewest := def_of X G cd 13 13 rfl rfl
  have D_count_of : Def K mg "count_of" s_count_of := def_of X G cd 14 14 rfl rfl
  have D_pushed : Def K mg "pushed" s_pushed := def_of X G cd 15 15 rfl rfl
  have D_greatest_at : Def K mg "greatest_at" s_greatest_at := def_of X G cd 17 17 rfl rfl
  have D_stretch : Def K mg "stretch" s_stretch := def_of X G cd 18 18 rfl rfl
  have D_gaps : Def K mg "gaps" s_gaps := def_of X G cd 19 19 rfl rfl
  have D_rest_of : Def K mg "rest_of" s_rest_of := def_of X G cd 20 20 rfl rfl
  have D_block_with : Def K mg "block_with" s_block_with := def_of X G cd 22 22 rfl rfl
  have D_without : Def K mg "without" s_without := def_of X G cd 21 21 rfl rfl
  have D_is_name : Def K mg "is_name" s_is_name := def_of X G cd 23 23 rfl rfl
  have D_are_owned : Def K mg "are_owned" s_are_owned := def_of X G cd 24 24 rfl rfl
  have D_go_together : Def K mg "go_together" s_go_together := def_of X G cd 25 25 rfl rfl
  have D_is_deal : Def K mg "is_deal" s_is_deal := def_of X G cd 26 26 rfl rfl
  have D_kept_from : Def K mg "kept_from" s_kept_from := def_of X G cd 27 27 rfl rfl
  have D_free_for : Def K mg "free_for" s_free_for := def_of X G cd 28 28 rfl rfl
  have D_out_to : Def K mg "out_to" s_out_to := def_of X G cd 29 29 rfl rfl
  have D_holder : Def K mg "holder" s_holder := def_of X G cd 30 30 rfl rfl
  have D_l_take : Def K mg "_law_take" s_l_take := def_of X G cd 32 32 rfl rfl
  have D_l_hand : Def K mg "_law_hand" s_l_hand := def_of X G cd 31 31 rfl rfl
  have D_l_pick : Def K mg "_law_pick" s_l_pick := def_of X G cd 33 33 rfl rfl
  have D_l_bits : Def K mg "_law_bits" s_l_bits := def_of X G cd 34 34 rfl rfl
  have D_l_block : Def K mg "_law_block" s_l_block := def_of X G cd 35 35 rfl rfl
  have D_l_near : Def K mg "_law_near" s_l_near := def_of X G cd 36 36 rfl rfl
  have D_l_blocks : Def K mg "_law_blocks" s_l_blocks := def_of X G cd 37 37 rfl rfl
  have D_l_patch : Def K mg "_law_patch" s_l_patch := def_of X G cd 38 38 rfl rfl
  have D_l_meet : Def K mg "_law_meet" s_l_meet := def_of X G cd 40 40 rfl rfl
  have D_l_names : Def K mg "_law_names" s_l_names := def_of X G cd 39 39 rfl rfl
  have D_l_deal : Def K mg "_law_deal" s_l_deal := def_of X G cd 41 41 rfl rfl
  have D_l_kept : Def K mg "_law_kept" s_l_kept := def_of X G cd 42 42 rfl rfl
  have D_l_holder_right : Def K mg "_law_holder_right" s_l_holder_right := def_of X G cd 43 43 rfl rfl
  have D_l_parted : Def K mg "_law_parted" s_l_parted := def_of X G cd 44 44 rfl rfl
  have D_fewest : DefF K mg := by
    obtain ⟨fd, F⟩ := cd.def_ 16 (d := d_fewest) rfl
    exact ⟨fd, fun_of F, He.glo_ok X G (cd.fact 16 (f := .glo "fewest") rfl)⟩
  obtain ⟨f0, fd0, F0, m0⟩ : Def K mg "law" s_law := def_of X G cd 45 45 rfl rfl
  have D_law := F0
  refine ⟨f0, fd0, m0, F0, fun base TB => ?_⟩
  have TB0 := TB _ (List.mem_singleton_self _)
  have g_is_whole := ok_is_whole (P := P) (w := w) (base := base) T D_is_whole
  have g_is_bits := ok_is_bits (P := P) (w := w) (base := base) T D_is_bits g_is_whole
  have g_is_block := ok_is_block (P := P) (w := w) (base := base) T D_is_block g_is_whole
  have g_size_of := ok_size_of (P := P) (w := w) (base := base) D_size_of
  have g_end_of := ok_end_of (P := P) (w := w) (base := base) D_end_of
  have g_holds := ok_holds (P := P) (w := w) (base := base) D_holds g_end_of
  have g_apart := ok_apart (P := P) (w := w) (base := base) D_apart g_end_of
  have g_halves := ok_halves (P := P) (w := w) (base := base) D_halves
  have g_around := ok_around (P := P) (w := w) (base := base) D_around
  have g_other_half := ok_other_half (P := P) (w := w) (base := base) D_other_half g_halves g_around
  have g_make_one := ok_make_one (P := P) (w := w) (base := base) D_make_one g_other_half
  have g_are_apart := ok_are_apart (P := P) (w := w) (base := base) T D_are_apart g_end_of
  have g_is_patch := ok_is_patch (P := P) (w := w) (base := base) T D_is_patch g_is_block g_are_apart
  have g_is_fewest := ok_is_fewest (P := P) (w := w) (base := base) T D_is_fewest g_make_one
  have g_count_of := ok_count_of (P := P) (w := w) (base := base) T D_count_of g_size_of
  have g_pushed := ok_pushed (P := P) (w := w) (base := base) T D_pushed g_make_one
  have g_fewest := ok_fewest (P := P) (w := w) (base := base) T D_fewest TB0 g_holds g_pushed
  have g_greatest_at := ok_greatest_at (P := P) (w := w) (base := base) D_greatest_at
  have g_stretch := ok_stretch (P := P) (w := w) (base := base) D_stretch g_greatest_at g_end_of
  have g_gaps := ok_gaps (P := P) (w := w) (base := base) D_gaps g_stretch g_end_of
  have g_rest_of := ok_rest_of (P := P) (w := w) (base := base) T D_rest_of g_gaps
  have g_block_with := ok_block_with (P := P) (w := w) (base := base) D_block_with g_end_of
  have g_without := ok_without (P := P) (w := w) (base := base) T D_without g_holds g_gaps g_end_of g_fewest
  have g_is_name := ok_is_name (P := P) (w := w) (base := base) T D_is_name
  have g_are_owned := ok_are_owned (P := P) (w := w) (base := base) T D_are_owned g_is_block g_is_name g_is_patch
  have g_go_together := ok_go_together (P := P) (w := w) (base := base) D_go_together g_apart
  have g_is_deal := ok_is_deal (P := P) (w := w) (base := base) T D_is_deal g_is_bits g_are_owned g_go_together
  have g_kept_from := ok_kept_from (P := P) (w := w) (base := base) D_kept_from
  have g_free_for := ok_free_for (P := P) (w := w) (base := base) D_free_for g_kept_from g_rest_of g_fewest
  have g_out_to := ok_out_to (P := P) (w := w) (base := base) D_out_to g_fewest
  have g_holder := ok_holder (P := P) (w := w) (base := base) D_holder g_end_of g_block_with g_free_for
  have g_l_take := ok_l_take (P := P) (w := w) (base := base) T D_l_take
  have g_l_hand := ok_l_hand (P := P) (w := w) (base := base) T D_l_hand
  have g_l_pick := ok_l_pick (P := P) (w := w) (base := base) T D_l_pick g_l_take
  have g_l_bits := ok_l_bits (P := P) (w := w) (base := base) D_l_bits g_l_pick
  have g_l_block := ok_l_block (P := P) (w := w) (base := base) T D_l_block g_l_take g_l_pick
  have g_l_near := ok_l_near (P := P) (w := w) (base := base) T D_l_near g_l_pick g_l_block
  have g_l_blocks := ok_l_blocks (P := P) (w := w) (base := base) T D_l_blocks g_l_take g_l_pick g_l_block g_l_near
  have g_l_patch := ok_l_patch (P := P) (w := w) (base := base) T D_l_patch g_l_blocks
  have g_l_meet := ok_l_meet (P := P) (w := w) (base := base) D_l_meet
  have g_l_names := ok_l_names (P := P) (w := w) (base := base) T D_l_names g_l_take g_l_pick
  have g_l_deal := ok_l_deal (P := P) (w := w) (base := base) T D_l_deal g_l_pick g_l_patch g_l_meet
  have g_l_kept := ok_l_kept (P := P) (w := w) (base := base) D_l_kept g_fewest g_without
  have g_l_holder_right := ok_l_holder_right (P := P) (w := w) (base := base) T D_l_holder_right g_holder g_block_with g_free_for
  have g_l_parted := ok_l_parted (P := P) (w := w) (base := base) T D_l_parted g_out_to g_l_kept g_free_for g_is_fewest g_apart g_count_of g_fewest
  have g_law := ok_law (P := P) (w := w) (base := base) T D_law g_l_hand g_l_take g_l_bits g_l_names g_l_deal g_is_deal g_l_parted g_free_for g_fewest g_l_kept g_l_holder_right
  exact g_law
end K54
end
section
set_option Elab.async false
set_option linter.all false
set_option maxRecDepth 100000
set_option maxHeartbeats 4000000
open PySem PySem.W PySem.Calls PyProof.Rows
theorem PySem.Challenge.cw_blockdeal_k54_whole_addresses_in_one_pla_holds : PySem.Challenge.rw_blockdeal_k54_whole_addresses_in_one_pla.Holds := by
  w_on; o_law
  refine HandSHeadRun.head_any (r := OpenLaw.row PySem.Challenge.rw_blockdeal_k54_whole_addresses_in_one_pla) (q := view (OpenLaw.row PySem.Challenge.rw_blockdeal_k54_whole_addresses_in_one_pla).prog [52]) (H := K54.hk) (ob := K54.ob) (M := 2000) (loose := K54.gnames) (d := HandSHeadRun.topDef (OpenLaw.row PySem.Challenge.rw_blockdeal_k54_whole_addresses_in_one_pla).prog 52) (kwd := []) K54.ob_eq
    (by kernel_rfl) (fun s => by kernel_rfl) K54.run (by kernel_rfl) (by kernel_rfl) (by kernel_rfl) (by rfl) (by first | assumption | decide +kernel) (by decide +kernel) ⟨rfl, rfl, rfl, rfl, rfl, by decide +kernel⟩ ?hw ?hc
  case hw => w_witness2
  case hc =>
    refine LamX.walk_ofTsE (l := PySem.Challenge.rw_blockdeal_k54_whole_addresses_in_one_pla) (n := 63) (k := 9) (x := "_law_script") (CX := fun _ => L2.CX0) rfl (by decide) (by kernel_rfl) ⟨rfl, by decide, by decide⟩ ?F (fun _ _ _ _ _ z => z)
    intro w mg fa h Y G hmg0
    obtain ⟨K, KX, c⟩ := Y
    have hmg : mg ("law" : PySem.Str) = some (.ref fa) := by
      have e : (HandSHeadRun.topDef (OpenLaw.row PySem.Challenge.rw_blockdeal_k54_whole_addresses_in_one_pla).prog 52).name = ("law" : PySem.Str) := by kernel_rfl
      rw [← e]
      exact hmg0
    obtain ⟨f, fd, hm, F, hF⟩ := K54.facts (P := (PySem.Challenge.rw_blockdeal_k54_whole_addresses_in_one_pla).prog) (w := w) KX G c
    have ef := hmg.symm.trans hm
    cases ef
    have mem : (("fewest", none) : He.Defn) ∈ K54.tf := List.mem_singleton_self _
    refine ⟨K, KX, fd, [He.cT K ("fewest", none)], K54.spLaw K, fun p hp => ?_, fun p hp => ?_, fun p hp => ?_, ?_, fun H a ns hl _ hT hS => ?_, fun base _ _ TB => hF base TB⟩
    · rw [List.mem_singleton.mp hp]
      exact c.empty _ mem
    · rw [List.mem_singleton.mp hp]
      exact c.out _ mem
    · rw [List.mem_singleton.mp hp]
      exact PySem.W.codeHd_of_K KX (c.hd _ mem)
    · exact fun s u => K54.fun_binds (ps := ["_law_script"]) F (fun _ _ _ _ _ _ us hl => match us, hl with | [_], _ => rfl) s [u] rfl
    · exact ⟨a, ns, rfl, hS, Nat.le_trans hl (by decide), LamX.TabS.nil (hT _ (List.mem_singleton_self _)), fun _ => rfl⟩
end
