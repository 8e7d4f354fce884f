import PyProof.Rows.All
import Wide.All
import OpenK.AllK
import Wide.FinOn
import Lean
import PySem.Challenge.RW_nz0177_01
open PySem PySem.W PyProof.Rows
set_option Elab.async false
set_option linter.all false
set_option compiler.extract_closed false
namespace Mine
set_option maxRecDepth 100000 in
set_option maxHeartbeats 8000000 in
open_top hd for PySem.Challenge.rw_nz0177_01
section PartBs
/-! ## signs -/
def isS (c : Nat) : Bool := decide (97 ≤ c) && decide (c ≤ 122)
def isG (c : Nat) : Bool := decide (65 ≤ c) && decide (c ≤ 90)
def isD (c : Nat) : Bool := decide (48 ≤ c) && decide (c ≤ 57)
def isL (c : Nat) : Bool := isS c || isG c
def isB (c : Nat) : Bool := c == 32 || c == 9 || c == 10 || c == 13 || c == 12 || c == 11
def sg (x : Str) (i : Int) : Nat := x.cps.toList.getD i.toNat 0
theorem item_sg {x : Str} {i : Int} (h0 : 0 ≤ i) (h1 : i < x.length) : Txt.item x i = ⟨#[sg x i]⟩ := by
  rw [PyProof.Rows.item_at h0 h1 rfl]
  unfold sg
  congr 1
  have h : i.toNat < x.cps.size := by
    have : (x.length : Int) = x.cps.size := rfl
    omega
  simp [Array.getD, h]
theorem occ_dig (c : Nat) : (Builtin.Str.occurrences (Str.ofString "0123456789") ⟨#[c]⟩ 0 (Str.ofString "0123456789").length 1).isEmpty = !isD c := by
  have h := StrLaws.found_one (Str.ofString "0123456789") c
  rw [← Bool.not_not (Builtin.Str.occurrences _ _ _ _ _).isEmpty, h]
  congr 1
  rw [show (Str.ofString "0123456789").cps.toList = [48,49,50,51,52,53,54,55,56,57] from by decide +kernel]
  rw [Bool.eq_iff_iff]
  simp [isD]
  omega
theorem occ_small (c : Nat) : (Builtin.Str.occurrences (Str.ofString "abcdefghijklmnopqrstuvwxyz") ⟨#[c]⟩ 0 (Str.ofString "abcdefghijklmnopqrstuvwxyz").length 1).isEmpty = !isS c := by
  have h := StrLaws.found_one (Str.ofString "abcdefghijklmnopqrstuvwxyz") c
  rw [← Bool.not_not (Builtin.Str.occurrences _ _ _ _ _).isEmpty, h]
  congr 1
  rw [show (Str.ofString "abcdefghijklmnopqrstuvwxyz").cps.toList = List.range' 97 26 from by decide +kernel]
  rw [Bool.eq_iff_iff]
  simp [isS, List.mem_range'_1]
  omega
theorem occ_great (c : Nat) : (Builtin.Str.occurrences (Str.ofString "ABCDEFGHIJKLMNOPQRSTUVWXYZ") ⟨#[c]⟩ 0 (Str.ofString "ABCDEFGHIJKLMNOPQRSTUVWXYZ").length 1).isEmpty = !isG c := by
  have h := StrLaws.found_one (Str.ofString "ABCDEFGHIJKLMNOPQRSTUVWXYZ") c
  rw [← Bool.not_not (Builtin.Str.occurrences _ _ _ _ _).isEmpty, h]
  congr 1
  rw [show (Str.ofString "ABCDEFGHIJKLMNOPQRSTUVWXYZ").cps.toList = List.range' 65 26 from by decide +kernel]
  rw [Bool.eq_iff_iff]
  simp [isG, List.mem_range'_1]
  omega
theorem occ_blank (c : Nat) : (Builtin.Str.occurrences (Str.ofString " \t\n\x0d\x0c\x0b") ⟨#[c]⟩ 0 (Str.ofString " \t\n\x0d\x0c\x0b").length 1).isEmpty = !isB c := by
  have h := StrLaws.found_one (Str.ofString " \t\n\x0d\x0c\x0b") c
  rw [← Bool.not_not (Builtin.Str.occurrences _ _ _ _ _).isEmpty, h]
  congr 1
  rw [show (Str.ofString " \t\n\x0d\x0c\x0b").cps.toList = [32, 9, 10, 13, 12, 11] from by decide +kernel]
  rw [Bool.eq_iff_iff]
  simp [isB]
  omega
theorem occ_dig_i {x : Str} {i : Int} (h0 : 0 ≤ i) (h1 : i < x.length) : (Builtin.Str.occurrences (Str.ofString "0123456789") (Txt.item x i) 0 (Str.ofString "0123456789").length 1).isEmpty = !isD (sg x i) := by rw [item_sg h0 h1, occ_dig]
theorem occ_small_i {x : Str} {i : Int} (h0 : 0 ≤ i) (h1 : i < x.length) : (Builtin.Str.occurrences (Str.ofString "abcdefghijklmnopqrstuvwxyz") (Txt.item x i) 0 (Str.ofString "abcdefghijklmnopqrstuvwxyz").length 1).isEmpty = !isS (sg x i) := by rw [item_sg h0 h1, occ_small]
theorem occ_great_i {x : Str} {i : Int} (h0 : 0 ≤ i) (h1 : i < x.length) : (Builtin.Str.occurrences (Str.ofString "ABCDEFGHIJKLMNOPQRSTUVWXYZ") (Txt.item x i) 0 (Str.ofString "ABCDEFGHIJKLMNOPQRSTUVWXYZ").length 1).isEmpty = !isG (sg x i) := by rw [item_sg h0 h1, occ_great]
theorem occ_blank_i {x : Str} {i : Int} (h0 : 0 ≤ i) (h1 : i < x.length) : (Builtin.Str.occurrences (Str.ofString " \t\n\x0d\x0c\x0b") (Txt.item x i) 0 (Str.ofString " \t\n\x0d\x0c\x0b").length 1).isEmpty = !isB (sg x i) := by rw [item_sg h0 h1, occ_blank]
/-! ## prefixes -/
/-- every sign from a up to b has p -/
def run (p : Nat → Bool) (x : Str) (a b : Int) : Prop := ∀ i : Int, a ≤ i → i < b → p (sg x i) = true
theorem run_nil (p : Nat → Bool) (x : Str) (a : Int) : run p x a a := fun i h1 h2 => by omega
theorem run_snoc {p : Nat → Bool} {x : Str} {a b : Int} (h : run p x a b) (h2 : p (sg x b) = true) : run p x a (b + 1) := fun i h3 h4 => by
  by_cases e : i = b
  · rw [e]; exact h2
  · exact h i h3 (by omega)
/-- how many signs of l lead with p -/
def lead (p : Nat → Bool) : List Nat → Nat
  | [] => 0
  | c :: r => if p c then lead p r + 1 else 0
theorem lead_le (p : Nat → Bool) : ∀ l : List Nat, lead p l ≤ l.length
  | [] => Nat.le_refl _
  | c :: r => by
    unfold lead
    split
    · exact Nat.succ_le_succ (lead_le p r)
    · exact Nat.zero_le _
theorem lead_eq {p : Nat → Bool} : ∀ {l : List Nat} {k : Nat}, k ≤ l.length → (∀ i, i < k → p (l.getD i 0) = true) → (k = l.length ∨ p (l.getD k 0) = false) → lead p l = k
  | [], k, h, _, _ => by
    have : k = 0 := by simpa using h
    rw [this]; rfl
  | c :: r, 0, _, _, h2 => by
    unfold lead
    rcases h2 with h2 | h2
    · simp at h2
    · have h2' : p c = false := h2
      rw [h2']; rfl
  | c :: r, k + 1, h, h1, h2 => by
    unfold lead
    have h0 : p c = true := h1 0 (Nat.succ_pos _)
    rw [if_pos h0]
    congr 1
    refine lead_eq (by simpa using h) (fun i hi => by simpa using h1 (i + 1) (by omega)) ?_
    rcases h2 with h2 | h2
    · left; simpa using h2
    · right; simpa using h2
/-- from a on -/
def leadAt (p : Nat → Bool) (x : Str) (a : Nat) : Nat := lead p (x.cps.toList.drop a)
theorem leadAt_eq {p : Nat → Bool} {x : Str} {a b : Int} (h0 : 0 ≤ a) (h1 : a ≤ b) (h2 : b ≤ x.length) (h3 : run p x a b) (h4 : b = x.length ∨ p (sg x b) = false) : ((leadAt p x a.toNat : Nat) : Int) = b - a := by
  have hl : x.length = x.cps.toList.length := rfl
  have e : leadAt p x a.toNat = (b - a).toNat := by
    unfold leadAt
    refine lead_eq (by rw [List.length_drop]; omega) (fun i hi => ?_) ?_
    · have := h3 (a + i) (by omega) (by omega)
      unfold sg at this
      rw [List.getD_eq_getElem?_getD, List.getElem?_drop, ← List.getD_eq_getElem?_getD]
      rw [show a.toNat + i = (a + (i : Int)).toNat from by omega]
      exact this
    · rcases h4 with h4 | h4
      · left; rw [List.length_drop]; omega
      · right
        unfold sg at h4
        rw [List.getD_eq_getElem?_getD, List.getElem?_drop, ← List.getD_eq_getElem?_getD]
        rw [show a.toNat + (b - a).toNat = b.toNat from by omega]
        exact h4
  rw [e]; omega
/-! ## is_magic_text -/
def magicB (x : Str) : Bool := decide (0 < leadAt isL x 0) && decide (leadAt isL x 0 + leadAt isD x (leadAt isL x 0) = x.length)
theorem magic_of {x : Str} {k j : Int} (h0 : 0 ≤ k) (h1 : k ≤ x.length) (h2 : run isL x 0 k) (h3 : k = x.length ∨ isL (sg x k) = false)
    (h4 : k ≤ j) (h5 : j ≤ x.length) (h6 : run isD x k j) (h7 : j = x.length ∨ isD (sg x j) = false) : magicB x = (decide (0 < k) && (j == (x.length : Int))) := by
  have e1 := leadAt_eq (Int.le_refl 0) h0 h1 h2 h3
  have e2 := leadAt_eq h0 h4 h5 h6 h7
  have e3 : leadAt isL x 0 = k.toNat := by
    have : (0 : Int).toNat = 0 := rfl
    rw [this] at e1; omega
  unfold magicB
  rw [e3, Bool.eq_iff_iff]
  simp only [Bool.and_eq_true, decide_eq_true_eq, beq_iff_eq]
  omega
theorem magic_pos {x : Str} {k j : Int} (h2 : run isL x 0 k) (h6 : run isD x k j) (h8 : 0 < k) (h0 : 0 ≤ k) (h1 : k ≤ x.length) (h3 : k = x.length ∨ isL (sg x k) = false)
    (h4 : k ≤ j) (h5 : j ≤ x.length) (h7 : j = x.length ∨ isD (sg x j) = false) : (j == (x.length : Int)) = magicB x := by
  rw [magic_of h0 h1 h2 h3 h4 h5 h6 h7, decide_eq_true h8, Bool.true_and]
theorem magic_neg {x : Str} {k j : Int} (h2 : run isL x 0 k) (h6 : run isD x k j) (h8 : ¬ 0 < k) (h0 : 0 ≤ k) (h1 : k ≤ x.length) (h3 : k = x.length ∨ isL (sg x k) = false)
    (h4 : k ≤ j) (h5 : j ≤ x.length) (h7 : j = x.length ∨ isD (sg x j) = false) : decide (0 < k) = magicB x := by
  rw [magic_of h0 h1 h2 h3 h4 h5 h6 h7, decide_eq_false h8, Bool.false_and]
theorem run_dig {x : Str} {a b : Int} (h : run isD x a b) (h0 : 0 ≤ b) (h1 : b < x.length) (h2 : (Builtin.Str.occurrences (Str.ofString "0123456789") (Txt.item x b) 0 (Str.ofString "0123456789").length 1).isEmpty = false) : run isD x a (b + 1) :=
  run_snoc h (by rw [occ_dig_i h0 h1] at h2; simpa using h2)
theorem run_small {x : Str} {a b : Int} (h : run isL x a b) (h0 : 0 ≤ b) (h1 : b < x.length) (h2 : (Builtin.Str.occurrences (Str.ofString "abcdefghijklmnopqrstuvwxyz") (Txt.item x b) 0 (Str.ofString "abcdefghijklmnopqrstuvwxyz").length 1).isEmpty = false) : run isL x a (b + 1) :=
  run_snoc h (by rw [occ_small_i h0 h1] at h2; unfold isL; rw [Bool.or_eq_true]; left; simpa using h2)
theorem run_great {x : Str} {a b : Int} (h : run isL x a b) (h0 : 0 ≤ b) (h1 : b < x.length) (h2 : (Builtin.Str.occurrences (Str.ofString "ABCDEFGHIJKLMNOPQRSTUVWXYZ") (Txt.item x b) 0 (Str.ofString "ABCDEFGHIJKLMNOPQRSTUVWXYZ").length 1).isEmpty = false) : run isL x a (b + 1) :=
  run_snoc h (by rw [occ_great_i h0 h1] at h2; unfold isL; rw [Bool.or_eq_true]; right; simpa using h2)
theorem run_blank {x : Str} {a b : Int} (h : run isB x a b) (h0 : 0 ≤ b) (h1 : b < x.length) (h2 : (Builtin.Str.occurrences (Str.ofString " \t\n\x0d\x0c\x0b") (Txt.item x b) 0 (Str.ofString " \t\n\x0d\x0c\x0b").length 1).isEmpty = false) : run isB x a (b + 1) :=
  run_snoc h (by rw [occ_blank_i h0 h1] at h2; simpa using h2)
theorem not_let {x : Str} {b : Int} (h0 : 0 ≤ b) (h1 : b < x.length) (h2 : (Builtin.Str.occurrences (Str.ofString "abcdefghijklmnopqrstuvwxyz") (Txt.item x b) 0 (Str.ofString "abcdefghijklmnopqrstuvwxyz").length 1).isEmpty = true)
    (h3 : (Builtin.Str.occurrences (Str.ofString "ABCDEFGHIJKLMNOPQRSTUVWXYZ") (Txt.item x b) 0 (Str.ofString "ABCDEFGHIJKLMNOPQRSTUVWXYZ").length 1).isEmpty = true) : isL (sg x b) = false := by
  rw [occ_small_i h0 h1] at h2
  rw [occ_great_i h0 h1] at h3
  unfold isL
  rw [Bool.or_eq_false_iff]
  exact ⟨by simpa using h2, by simpa using h3⟩
theorem not_dig {x : Str} {b : Int} (h0 : 0 ≤ b) (h1 : b < x.length) (h2 : (Builtin.Str.occurrences (Str.ofString "0123456789") (Txt.item x b) 0 (Str.ofString "0123456789").length 1).isEmpty = true) : isD (sg x b) = false := by
  rw [occ_dig_i h0 h1] at h2
  simpa using h2
theorem not_blank {x : Str} {b : Int} (h0 : 0 ≤ b) (h1 : b < x.length) (h2 : (Builtin.Str.occurrences (Str.ofString " \t\n\x0d\x0c\x0b") (Txt.item x b) 0 (Str.ofString " \t\n\x0d\x0c\x0b").length 1).isEmpty = true) : isB (sg x b) = false := by
  rw [occ_blank_i h0 h1] at h2
  simpa using h2
/-! ## rows of signs -/
def isA (c : Nat) : Bool := isL c || isD c
def alS (y : Str) : Prop := ∃ c, y = ⟨#[c]⟩ ∧ isA c = true
def rowOf (c : Nat) : Str := if isD c then Str.ofString "0123456789" else if isS c then Str.ofString "abcdefghijklmnopqrstuvwxyz" else Str.ofString "ABCDEFGHIJKLMNOPQRSTUVWXYZ"
def rowS (y : Str) : Str := rowOf (y.cps.toList.getD 0 0)
def base (c : Nat) : Nat := if isD c then 10 else 26
def fst0 (c : Nat) : Nat := if isD c then 48 else if isS c then 97 else 65
def idx (c : Nat) : Nat := c - fst0 c
def isLast (c : Nat) : Bool := c == 57 || c == 122 || c == 90
theorem str_one {y : Str} (h : y.length = 1) : ∃ c, y = ⟨#[c]⟩ := by
  obtain ⟨l⟩ := y
  have h' : l.size = 1 := h
  obtain ⟨a, rfl⟩ := Array.size_eq_one_iff.mp h'
  exact ⟨a, rfl⟩
theorem rowS_one (c : Nat) : rowS ⟨#[c]⟩ = rowOf c := rfl
theorem rowS_len (y : Str) : 10 ≤ (rowS y).length ∧ (rowS y).length ≤ 26 := by
  unfold rowS rowOf
  repeat' split
  all_goals decide +kernel
theorem isA_lt {c : Nat} (h : isA c = true) : c < 123 := by
  simp [isA, isL, isS, isG, isD] at h
  omega
theorem row_tab : ∀ c, c < 123 → isA c = true → (Txt.find (rowOf c) ⟨#[c]⟩ = (idx c : Int) ∧ idx c < (rowOf c).length ∧ (rowOf c).length = base c ∧ Txt.item (rowOf c) 0 = ⟨#[fst0 c]⟩ ∧ (isLast c = decide (idx c + 1 = base c)) ∧ fst0 c + idx c = c) := by decide +kernel
theorem row_tab2 : ∀ c, c < 123 → isA c = true → isLast c = false → Txt.item (rowOf c) ((idx c : Int) + 1) = ⟨#[c + 1]⟩ ∧ isA (c + 1) = true ∧ base (c + 1) = base c ∧ fst0 (c + 1) = fst0 c ∧ isD (c + 1) = isD c ∧ isS (c + 1) = isS c := by decide +kernel
theorem find_row {y : Str} (h : alS y) : 0 ≤ Txt.find (rowS y) y ∧ Txt.find (rowS y) y < (rowS y).length := by
  obtain ⟨c, rfl, hc⟩ := h
  obtain ⟨h1, h2, _⟩ := row_tab c (isA_lt hc) hc
  rw [rowS_one, h1]
  omega
/-! ## magic_increment -/
/-- one step from the right: is there a carry, the signs -/
def incC : List Nat → Bool × List Nat
  | [] => (true, [])
  | c :: r => if (incC r).1 then (if isLast c then (true, fst0 c :: (incC r).2) else (false, (c + 1) :: (incC r).2)) else (false, c :: (incC r).2)
def incL (l : List Nat) : List Nat := if (incC l).1 then (match l with | [] => [] | c :: _ => (if isD c then 49 else fst0 c) :: (incC l).2) else (incC l).2
def T (l : List Nat) : Str := ⟨l.toArray⟩
def cs (x : Str) : List Nat := x.cps.toList
theorem T_cs (x : Str) : T (cs x) = x := rfl
theorem cs_T (l : List Nat) : cs (T l) = l := by simp [cs, T]
theorem cs_len (x : Str) : (cs x).length = x.length := rfl
theorem T_len (l : List Nat) : (T l).length = l.length := by simp [T, Str.length]
theorem T_app (a b : List Nat) : T a ++ T b = T (a ++ b) := Str.ext' (Array.toList_inj.mp (by rw [Str.cps_append, Array.toList_append]; simp [T]))
def incS (x : Str) : Str := T (incL (cs x))
def bhd (x : Str) (a : Int) : Str := T (((cs x).drop a.toNat).map fst0)
theorem incC_all : ∀ {l : List Nat}, (∀ c ∈ l, isLast c = true) → incC l = (true, l.map fst0)
  | [], _ => rfl
  | c :: r, h => by
    have ih := incC_all (l := r) fun d hd => h d (.tail _ hd)
    unfold incC
    rw [ih, if_pos rfl, if_pos (h c (.head _))]
    rfl
theorem incC_at {c : Nat} {b : List Nat} (hc : isLast c = false) (hb : ∀ d ∈ b, isLast d = true) : ∀ a : List Nat, incC (a ++ c :: b) = (false, a ++ (c + 1) :: b.map fst0)
  | [] => by
    show incC (c :: b) = _
    unfold incC
    rw [incC_all hb, if_pos rfl, if_neg (by rw [hc]; exact Bool.false_ne_true)]
    rfl
  | d :: a => by
    show incC (d :: (a ++ c :: b)) = _
    unfold incC
    rw [incC_at hc hb a, if_neg Bool.false_ne_true]
    rfl
theorem sg_eq {x : Str} {i : Int} (h0 : 0 ≤ i) (h1 : i < x.length) : (cs x)[i.toNat]? = some (sg x i) := by
  have h : i.toNat < (cs x).length := by rw [cs_len]; omega
  unfold sg
  rw [List.getD_eq_getElem?_getD]
  show (cs x)[i.toNat]? = some ((cs x)[i.toNat]?.getD 0)
  rw [List.getElem?_eq_getElem h]
  rfl
theorem drop_sg {x : Str} {i : Int} (h0 : 0 ≤ i) (h1 : i < x.length) : (cs x).drop i.toNat = sg x i :: (cs x).drop (i + 1).toNat := by
  have h : i.toNat < (cs x).length := by rw [cs_len]; omega
  rw [List.drop_eq_getElem_cons h]
  have e := sg_eq h0 h1
  rw [List.getElem?_eq_getElem h] at e
  rw [Option.some.inj e, show (i + 1).toNat = i.toNat + 1 from by omega]
theorem bhd_end (x : Str) : bhd x x.length = Str.ofString "" := by
  unfold bhd
  rw [show ((x.length : Int).toNat) = (cs x).length from by rw [cs_len]; omega, List.drop_length]
  decide +kernel
theorem bhd_step {x : Str} {a : Int} (h0 : 0 ≤ a) (h1 : a < x.length) (hA : alS (Txt.item x a)) : Txt.item (rowS (Txt.item x a)) 0 ++ bhd x (a + 1) = bhd x a := by
  rw [item_sg h0 h1] at hA ⊢
  obtain ⟨c, e, hc⟩ := hA
  cases e
  obtain ⟨_, _, _, h4, _⟩ := row_tab _ (isA_lt hc) hc
  rw [rowS_one, h4]
  unfold bhd
  rw [drop_sg h0 h1, List.map_cons]
  show T [_] ++ _ = _
  rw [T_app]
  rfl
theorem last_row {y : Str} (h : alS y) : (∃ c, y = ⟨#[c]⟩ ∧ isLast c = decide (¬ (Txt.find (rowS y) y + 1 < (rowS y).length))) := by
  obtain ⟨c, rfl, hc⟩ := h
  obtain ⟨h1, h2, h3, _, h5, _⟩ := row_tab c (isA_lt hc) hc
  refine ⟨c, rfl, ?_⟩
  rw [rowS_one, h1, h5, Bool.eq_iff_iff]
  simp only [decide_eq_true_eq]
  omega
theorem run_last {x : Str} {a b : Int} (h : run isLast x (a + 1) b) (h0 : 0 ≤ a) (h1 : a < x.length) (hA : alS (Txt.item x a)) (hn : ¬ (Txt.find (rowS (Txt.item x a)) (Txt.item x a) + 1 < (rowS (Txt.item x a)).length)) : run isLast x a b := by
  intro i h2 h3
  by_cases e : i = a
  · subst e
    obtain ⟨c, e, hl⟩ := last_row hA
    rw [item_sg h0 h1] at e
    cases e
    rw [hl, decide_eq_true hn]
  · exact h i (by omega) h3
theorem slice_to {x : Str} {j : Int} (h0 : 0 ≤ j) (h1 : j ≤ x.length) : Txt.slice x none (some j) = T ((cs x).take j.toNat) := by
  have h := slice_closes_to (x := x) (j := j) ⟨h0, by show j ≤ ((cs x).length : Int); rw [cs_len]; exact h1⟩
  rw [eq_of_beq h]
  show T (((cs x).drop (0 : Int).toNat).take (j - 0).toNat) = _
  rw [show (0 : Int).toNat = 0 from rfl, List.drop_zero, Int.sub_zero]
theorem all_of_run {x : Str} {p : Nat → Bool} {a : Int} (h0 : 0 ≤ a) (h : run p x a x.length) : ∀ c ∈ (cs x).drop a.toNat, p c = true := by
  intro c hc
  obtain ⟨i, hi, e⟩ := List.mem_iff_getElem.mp hc
  rw [List.getElem_drop] at e
  rw [List.length_drop, cs_len] at hi
  have h1 := h (a + i) (by omega) (by omega)
  have h2 := sg_eq (x := x) (i := a + i) (by omega) (by omega)
  have h3 : (a + (i : Int)).toNat = a.toNat + i := by omega
  rw [h3, List.getElem?_eq_getElem (by rw [cs_len]; omega), e] at h2
  rw [Option.some.inj h2]; exact h1
theorem inc_turn {x b : Str} {a : Int} (h0 : 0 < a) (h1 : a ≤ x.length) (hl : (b.length : Int) + a = x.length) (hb : b = bhd x a) (hr : run isLast x a x.length) (hA : alS (Txt.item x (a - 1)))
    (hn : ¬ (Txt.find (rowS (Txt.item x (a - 1))) (Txt.item x (a - 1)) + 1 < (rowS (Txt.item x (a - 1))).length)) :
    0 ≤ a - 1 ∧ a - 1 ≤ x.length ∧ ((Txt.item (rowS (Txt.item x (a - 1))) 0 ++ b).length : Int) + (a - 1) = x.length ∧ Txt.item (rowS (Txt.item x (a - 1))) 0 ++ b = bhd x (a - 1) ∧ run isLast x (a - 1) x.length := by
  have e : a = (a - 1) + 1 := by omega
  refine ⟨by omega, by omega, ?_, ?_, ?_⟩
  · rw [Str.length_append]
    have : (Txt.item (rowS (Txt.item x (a - 1))) 0).length = 1 := rfl
    omega
  · rw [hb, e, show a - 1 + 1 - 1 = a - 1 from by omega]
    exact bhd_step (by omega) (by omega) hA
  · rw [e] at hr
    exact run_last hr (by omega) (by omega) hA hn
theorem inc_start (x : Str) : 0 ≤ (x.length : Int) ∧ (x.length : Int) ≤ x.length ∧ ((Str.ofString "").length : Int) + x.length = x.length ∧ Str.ofString "" = bhd x x.length ∧ run isLast x x.length x.length :=
  ⟨by omega, by omega, by rw [show (Str.ofString "").length = 0 from by decide +kernel]; omega, (bhd_end x).symm, run_nil _ _ _⟩
theorem inc_mid {x b : Str} {a : Int} (h0 : 0 < a) (h1 : a ≤ x.length) (hb : b = bhd x a) (hr : run isLast x a x.length) (hA : alS (Txt.item x (a - 1)))
    (hn : Txt.find (rowS (Txt.item x (a - 1))) (Txt.item x (a - 1)) + 1 < (rowS (Txt.item x (a - 1))).length) :
    Txt.slice x none (some (a - 1)) ++ Txt.item (rowS (Txt.item x (a - 1))) (Txt.find (rowS (Txt.item x (a - 1))) (Txt.item x (a - 1)) + 1) ++ b = incS x := by
  obtain ⟨c, e, hl⟩ := last_row hA
  have hi := item_sg (x := x) (i := a - 1) (by omega) (by omega)
  rw [decide_eq_false (by omega)] at hl
  obtain ⟨c', e', hc⟩ := hA
  rw [e] at e'
  cases e'
  rw [e] at hi
  have hcs : c = sg x (a - 1) := by cases hi; rfl
  obtain ⟨h2, _⟩ := row_tab2 c (isA_lt hc) hc hl
  obtain ⟨h3, _⟩ := row_tab c (isA_lt hc) hc
  rw [e, rowS_one, h3, h2, slice_to (by omega) (by omega), hb]
  unfold bhd incS
  show T _ ++ T [c + 1] ++ T _ = _
  rw [T_app, T_app]
  have hd := drop_sg (x := x) (i := a - 1) (by omega) (by omega)
  rw [show a - 1 + 1 = a from by omega, ← hcs] at hd
  have hsp : cs x = (cs x).take (a - 1).toNat ++ c :: (cs x).drop a.toNat := by
    rw [← hd, List.take_append_drop]
  have hi := incC_at (b := (cs x).drop a.toNat) hl (all_of_run (by omega) hr) ((cs x).take (a - 1).toNat)
  rw [← hsp] at hi
  unfold incL
  rw [hi, if_neg (by exact Bool.false_ne_true)]
  rw [List.append_assoc]
  rfl
theorem inc_end {x b : Str} (h0 : 0 < x.length) (hb : b = bhd x 0) (hr : run isLast x 0 x.length) (c : Nat) (hc : sg x 0 = c) : T ((if isD c then 49 else fst0 c) :: []) ++ b = incS x := by
  have hall := all_of_run (by omega) hr
  rw [show (0 : Int).toNat = 0 from rfl, List.drop_zero] at hall
  have e := drop_sg (x := x) (i := 0) (by omega) (by omega)
  rw [show (0 : Int).toNat = 0 from rfl, List.drop_zero, hc] at e
  rw [hb]
  unfold bhd incS incL
  rw [incC_all hall, if_pos rfl, T_app, show (0 : Int).toNat = 0 from rfl, List.drop_zero]
  rw [e]
  rfl
theorem inc_endD {x b : Str} {a : Int} (h0 : 0 < x.length) (ha : 0 ≤ a) (hn : ¬ 0 < a) (hb : b = bhd x a) (hr : run isLast x a x.length)
    (h : (Builtin.Str.occurrences (Str.ofString "0123456789") (Txt.item x 0) 0 (Str.ofString "0123456789").length 1).isEmpty = false) : Str.ofString "1" ++ b = incS x := by
  have e : a = 0 := by omega
  subst e
  rw [occ_dig_i (by omega) (by omega)] at h
  have h' : isD (sg x 0) = true := by simpa using h
  have := inc_end h0 hb hr _ rfl
  rw [if_pos h'] at this
  rw [← this]
  congr 1
theorem inc_endL {x b : Str} {a : Int} (h0 : 0 < x.length) (ha : 0 ≤ a) (hn : ¬ 0 < a) (hb : b = bhd x a) (hr : run isLast x a x.length)
    (h : (Builtin.Str.occurrences (Str.ofString "0123456789") (Txt.item x 0) 0 (Str.ofString "0123456789").length 1).isEmpty = true) : Txt.item b 0 ++ b = incS x := by
  have e : a = 0 := by omega
  subst e
  rw [occ_dig_i (by omega) (by omega)] at h
  have h' : isD (sg x 0) = false := by simpa using h
  have := inc_end h0 hb hr _ rfl
  rw [if_neg (by rw [h']; exact Bool.false_ne_true)] at this
  rw [← this]
  congr 1
  have hd := drop_sg (x := x) (i := 0) (by omega) (by omega)
  have hb' : b = T (fst0 (sg x 0) :: ((cs x).drop (0 + 1 : Int).toNat).map fst0) := by
    rw [hb]; unfold bhd; rw [hd, List.map_cons]
  have hbl : 0 < b.length := by rw [hb', T_len]; exact Nat.succ_pos _
  rw [item_sg (by omega) (by omega)]
  have hs : sg b 0 = fst0 (sg x 0) := by
    rw [hb']
    rfl
  rw [hs]
  rfl
/-! ## number_head -/
theorem slice_over {x : Str} {i j : Int} (h0 : 0 ≤ i) (h1 : i ≤ x.length) (h2 : i ≤ j) : Txt.slice x (some i) (some j) = T (((cs x).drop i.toNat).take (j - i).toNat) := by
  have key : ∀ k : Int, i ≤ k → k ≤ x.length → Txt.slice x (some i) (some k) = T (((cs x).drop i.toNat).take (k - i).toNat) := fun k a b =>
    eq_of_beq (slice_closes (x := x) (i := i) (j := k) ⟨h0, a, by show k ≤ ((cs x).length : Int); rw [cs_len]; exact b⟩)
  by_cases h : j ≤ x.length
  · exact key j h2 h
  · have e : Txt.slice x (some i) (some j) = Txt.slice x (some i) (some (x.length : Int)) := by
      have e2 : Builtin.Str.strSliceIndices (some i) (some j) 1 x.length = Builtin.Str.strSliceIndices (some i) (some (x.length : Int)) 1 x.length := by
        unfold Builtin.Str.strSliceIndices
        simp only [show (1 : Int) > 0 from by decide, if_true]
        congr 1
        have a1 : ¬ j < 0 := by omega
        have a2 : ¬ ((x.length : Int) < 0) := by omega
        rw [if_neg a1, if_neg a2]
        omega
      unfold Txt.slice
      rw [e2]
    rw [e, key _ h1 (Int.le_refl _)]
    congr 1
    rw [List.take_of_length_le, List.take_of_length_le]
    · rw [List.length_drop, cs_len]; omega
    · rw [List.length_drop, cs_len]; omega
theorem slice1 {x : Str} {a : Int} (h0 : 0 ≤ a) (h1 : a < x.length) : Txt.slice x (some a) (some (a + 1)) = ⟨#[sg x a]⟩ := by
  rw [slice_over h0 (by omega) (by omega), drop_sg h0 h1, show (a + 1 - a).toNat = 1 from by omega]
  rfl
theorem slice1_none {x y : Str} {a : Int} (h0 : a = 0) (h1 : ¬ a < x.length) (h2 : (Txt.slice x (some a) (some (a + 1))).length ≤ x.length) (h3 : (Txt.slice x (some a) (some (a + 1)) == y) = true) (h4 : y.length = 1) : False := by
  rw [eq_of_beq h3, h4] at h2
  omega
def signP (x : Str) (g : Int) : Prop := g = if 0 < x.length ∧ (sg x 0 = 43 ∨ sg x 0 = 45) then 1 else 0
theorem plus_is : Str.ofString "+" = ⟨#[43]⟩ := by decide +kernel
theorem minus_is : Str.ofString "-" = ⟨#[45]⟩ := by decide +kernel
theorem one_beq (a b : Nat) : (((⟨#[a]⟩ : Str) == ⟨#[b]⟩) = true) ↔ a = b := by
  rw [beq_iff_eq]
  constructor
  · intro h; injection h with h; injection h with h; injection h
  · intro h; rw [h]
theorem signP_plus {x : Str} {a : Int} (h0 : a = 0) (h1 : a < x.length) (h2 : (Txt.slice x (some a) (some (a + 1)) == Str.ofString "+") = true) : signP x (a + 1) := by
  subst h0
  rw [slice1 (by omega) h1, plus_is, one_beq] at h2
  unfold signP
  rw [if_pos ⟨by omega, .inl h2⟩]; rfl
theorem signP_minus {x : Str} {a : Int} (h0 : a = 0) (h1 : a < x.length) (h2 : (Txt.slice x (some a) (some (a + 1)) == Str.ofString "-") = true) : signP x (a + 1) := by
  subst h0
  rw [slice1 (by omega) h1, minus_is, one_beq] at h2
  unfold signP
  rw [if_pos ⟨by omega, .inr h2⟩]; rfl
theorem signP_none {x : Str} {a : Int} (h0 : a = 0) (h1 : a < x.length) (h2 : (Txt.slice x (some a) (some (a + 1)) == Str.ofString "+") = false) (h3 : (Txt.slice x (some a) (some (a + 1)) == Str.ofString "-") = false) : signP x a := by
  subst h0
  rw [slice1 (by omega) h1] at h2 h3
  rw [plus_is] at h2
  rw [minus_is] at h3
  unfold signP
  rw [if_neg]
  rintro ⟨_, h | h⟩
  · rw [(one_beq _ _).mpr h] at h2; cases h2
  · rw [(one_beq _ _).mpr h] at h3; cases h3
theorem signP_empty {x : Str} {a : Int} (h0 : a = 0) (h1 : ¬ a < x.length) : signP x a := by
  unfold signP
  rw [if_neg (fun h => by omega)]; exact h0
/-- where the number ends that x opens with (0: none) -/
def headE (x : Str) : Int :=
  let g : Nat := if 0 < x.length ∧ (sg x 0 = 43 ∨ sg x 0 = 45) then 1 else 0
  if leadAt isD x g = 0 then 0 else (g : Int) + leadAt isD x g
theorem signP_nat {x : Str} {g : Int} (h : signP x g) : g = ((if 0 < x.length ∧ (sg x 0 = 43 ∨ sg x 0 = 45) then 1 else 0 : Nat) : Int) := by
  unfold signP at h
  rw [h]
  split <;> rfl
theorem head_is {x : Str} {g k : Int} (hg : signP x g) (h3 : run isD x g k) (h1 : g ≤ k) (h2 : k ≤ x.length) (h4 : k = x.length ∨ isD (sg x k) = false) : headE x = if k = g then 0 else k := by
  have hn := signP_nat hg
  have h0 : 0 ≤ g := by omega
  have e := leadAt_eq h0 h1 h2 h3 h4
  unfold headE
  dsimp only
  rw [show g.toNat = (if 0 < x.length ∧ (sg x 0 = 43 ∨ sg x 0 = 45) then 1 else 0) from by omega] at e
  generalize (if 0 < x.length ∧ (sg x 0 = 43 ∨ sg x 0 = 45) then 1 else 0) = G at *
  by_cases hk : k = g
  · rw [if_pos hk, if_pos (by omega)]
  · rw [if_neg hk, if_neg (by omega), e]; omega
theorem head_eq0 {x : Str} {g k a : Int} (ha : a = 0) (hg : signP x g) (h3 : run isD x g k) (h1 : g ≤ k) (h2 : k ≤ x.length) (h4 : k = x.length ∨ isD (sg x k) = false) (h5 : k = g) : a = headE x := by
  rw [head_is hg h3 h1 h2 h4, if_pos h5, ha]
theorem head_eq1 {x : Str} {g k : Int} (hg : signP x g) (h3 : run isD x g k) (h1 : g ≤ k) (h2 : k ≤ x.length) (h4 : k = x.length ∨ isD (sg x k) = false) (h5 : k ≠ g) : k = headE x := by
  rw [head_is hg h3 h1 h2 h4, if_neg h5]
theorem blank_no {x : Str} {a : Int} {P : Prop} (hb : isB (sg x 0) = false) (h0 : a = 0) (h1 : a < x.length) (h2 : (Builtin.Str.occurrences (Str.ofString " \t\n\x0d\x0c\x0b") (Txt.item x a) 0 (Str.ofString " \t\n\x0d\x0c\x0b").length 1).isEmpty = false) : P := by
  subst h0
  rw [occ_blank_i (by omega) h1] at h2
  rw [hb] at h2; cases h2
theorem plus_no {x : Str} {a : Int} {P : Prop} (hp : sg x 0 ≠ 43) (h0 : a = 0) (h1 : a < x.length) (h2 : (Txt.slice x (some a) (some (a + 1)) == Str.ofString "+") = true) : P := by
  subst h0
  rw [slice1 (by omega) h1, plus_is, one_beq] at h2
  exact absurd h2 hp
/-! ## numeric_text -/
def numF (l : List Int) : Int := l.foldl (fun a c => if isD c.toNat then (a * 10 + (c - 48)) % 18446744073709551616 else a) 0
def numT (x : Str) : Int := numF (KStt.codes (Txt.slice x (some 0) (some (headE x))))
theorem numF_snoc (l : List Int) (n : Nat) : numF (l ++ [(n : Int)]) = if isD n then (numF l * 10 + ((n : Int) - 48)) % 18446744073709551616 else numF l := by
  unfold numF
  rw [List.foldl_append]
  rfl
theorem num_start : (0 : Int) ≤ 0 ∧ (0 : Int) < 18446744073709551616 ∧ 0 = numF [] := ⟨by decide, by decide, rfl⟩
theorem num_skip {f : Int} {l : List Int} {n : Nat} (h : (Builtin.Str.occurrences (Str.ofString "0123456789") ⟨#[n]⟩ 0 (Str.ofString "0123456789").length 1).isEmpty = true) (h0 : 0 ≤ f) (h1 : f < 18446744073709551616) (h2 : f = numF l) :
    0 ≤ f ∧ f < 18446744073709551616 ∧ f = numF (l ++ [(n : Int)]) := by
  rw [occ_dig] at h
  refine ⟨h0, h1, ?_⟩
  rw [numF_snoc, if_neg (by rw [Bool.not_eq_true]; simpa using h), h2]
theorem find_dig {n : Nat} (h : isD n = true) : Txt.find (Str.ofString "0123456789") ⟨#[n]⟩ = (n : Int) - 48 := by
  have hA : isA n = true := by unfold isA; rw [h, Bool.or_true]
  obtain ⟨h1, _, _, _, _, h6⟩ := row_tab n (isA_lt hA) hA
  unfold rowOf at h1
  rw [if_pos h] at h1
  rw [h1]
  unfold fst0 at h6
  rw [if_pos h] at h6
  omega
theorem num_dig {f : Int} {l : List Int} {n : Nat} (h : (Builtin.Str.occurrences (Str.ofString "0123456789") ⟨#[n]⟩ 0 (Str.ofString "0123456789").length 1).isEmpty = false) (h2 : f = numF l) :
    0 ≤ (f * 10 + Txt.find (Str.ofString "0123456789") ⟨#[n]⟩).fmod (1 * 2 ^ Int.toNat 64) ∧ (f * 10 + Txt.find (Str.ofString "0123456789") ⟨#[n]⟩).fmod (1 * 2 ^ Int.toNat 64) < 18446744073709551616 ∧
      (f * 10 + Txt.find (Str.ofString "0123456789") ⟨#[n]⟩).fmod (1 * 2 ^ Int.toNat 64) = numF (l ++ [(n : Int)]) := by
  rw [occ_dig] at h
  have h' : isD n = true := by simpa using h
  rw [show (1 * 2 ^ Int.toNat 64 : Int) = 18446744073709551616 from by decide, Int.fmod_eq_emod_of_nonneg _ (by decide), find_dig h', numF_snoc, if_pos h', h2]
  refine ⟨Int.emod_nonneg _ (by decide), Int.emod_lt_of_pos _ (by decide), rfl⟩
theorem minus_no {x : Str} {P : Prop} (hm : sg x 0 = 45 → headE x = 0) (h0 : 0 < headE x) (hn : 0 < x.length) (h : (Txt.item x 0 == Str.ofString "-") = true) : P := by
  rw [item_sg (by omega) (by omega), minus_is, one_beq] at h
  have := hm h
  omega
theorem magic_al {x : Str} (h : magicB x = true) : ∀ i : Int, 0 ≤ i → i < x.length → alS (Txt.item x i) := by
  unfold magicB at h
  simp only [Bool.and_eq_true, decide_eq_true_eq] at h
  obtain ⟨_, h2⟩ := h
  have lp : ∀ (p : Nat → Bool) (l : List Nat) (i : Nat), i < lead p l → p (l.getD i 0) = true := by
    intro p l
    induction l with
    | nil => intro i hi; exact absurd hi (Nat.not_lt_zero _)
    | cons c r ih =>
      intro i hi
      unfold lead at hi
      by_cases hc : p c = true
      · rw [if_pos hc] at hi
        cases i with
        | zero => exact hc
        | succ i => exact ih i (by omega)
      · rw [if_neg hc] at hi
        exact absurd hi (Nat.not_lt_zero _)
  intro i h0 h1
  rw [item_sg h0 h1]
  refine ⟨_, rfl, ?_⟩
  unfold isA
  rw [Bool.or_eq_true]
  by_cases hi : i.toNat < leadAt isL x 0
  · left
    have := lp isL ((cs x).drop 0) i.toNat hi
    rw [List.drop_zero] at this
    exact this
  · right
    have := lp isD ((cs x).drop (leadAt isL x 0)) (i.toNat - leadAt isL x 0) (by show _ < leadAt isD x _; omega)
    rw [List.getD_eq_getElem?_getD, List.getElem?_drop, ← List.getD_eq_getElem?_getD, show leadAt isL x 0 + (i.toNat - leadAt isL x 0) = i.toNat from by omega] at this
    exact this
theorem lrow_dig {c : Nat} (h : (Builtin.Str.occurrences (Str.ofString "0123456789") ⟨#[c]⟩ 0 (Str.ofString "0123456789").length 1).isEmpty = false) : Str.ofString "0123456789" = rowS ⟨#[c]⟩ := by
  rw [occ_dig] at h
  rw [rowS_one]; unfold rowOf
  rw [if_pos (by simpa using h)]
theorem lrow_small {c : Nat} (h : (Builtin.Str.occurrences (Str.ofString "0123456789") ⟨#[c]⟩ 0 (Str.ofString "0123456789").length 1).isEmpty = true) (h2 : (Builtin.Str.occurrences (Str.ofString "abcdefghijklmnopqrstuvwxyz") ⟨#[c]⟩ 0 (Str.ofString "abcdefghijklmnopqrstuvwxyz").length 1).isEmpty = false) : Str.ofString "abcdefghijklmnopqrstuvwxyz" = rowS ⟨#[c]⟩ := by
  rw [occ_dig] at h
  rw [occ_small] at h2
  rw [rowS_one]; unfold rowOf
  rw [if_neg (by simpa using h), if_pos (by simpa using h2)]
theorem lrow_great {c : Nat} (h : (Builtin.Str.occurrences (Str.ofString "0123456789") ⟨#[c]⟩ 0 (Str.ofString "0123456789").length 1).isEmpty = true) (h2 : (Builtin.Str.occurrences (Str.ofString "abcdefghijklmnopqrstuvwxyz") ⟨#[c]⟩ 0 (Str.ofString "abcdefghijklmnopqrstuvwxyz").length 1).isEmpty = true) : Str.ofString "ABCDEFGHIJKLMNOPQRSTUVWXYZ" = rowS ⟨#[c]⟩ := by
  rw [occ_dig] at h
  rw [occ_small] at h2
  rw [rowS_one]; unfold rowOf
  rw [if_neg (by simpa using h), if_neg (by simpa using h2)]
theorem lrow_none {c : Nat} {P : Prop} (hc : isA c = true) (h : (Builtin.Str.occurrences (Str.ofString "0123456789") ⟨#[c]⟩ 0 (Str.ofString "0123456789").length 1).isEmpty = true) (h2 : (Builtin.Str.occurrences (Str.ofString "abcdefghijklmnopqrstuvwxyz") ⟨#[c]⟩ 0 (Str.ofString "abcdefghijklmnopqrstuvwxyz").length 1).isEmpty = true) (h3 : (Builtin.Str.occurrences (Str.ofString "ABCDEFGHIJKLMNOPQRSTUVWXYZ") ⟨#[c]⟩ 0 (Str.ofString "ABCDEFGHIJKLMNOPQRSTUVWXYZ").length 1).isEmpty = true) : P := by
  rw [occ_dig] at h
  rw [occ_small] at h2
  rw [occ_great] at h3
  unfold isA isL at hc
  simp_all
/-! ## _law_behind -/
def valL (l : List Nat) : Int := l.foldl (fun a c => a * (base c : Int) + (idx c : Int)) 0
def roomL (l : List Nat) : Int := l.foldl (fun a c => a * (base c : Int)) 1
theorem valL_snoc (l : List Nat) (c : Nat) : valL (l ++ [c]) = valL l * (base c : Int) + (idx c : Int) := by unfold valL; rw [List.foldl_append]; rfl
theorem roomL_snoc (l : List Nat) (c : Nat) : roomL (l ++ [c]) = roomL l * (base c : Int) := by unfold roomL; rw [List.foldl_append]; rfl
theorem row_base (c : Nat) : (rowOf c).length = base c := by
  unfold rowOf base
  repeat' split
  all_goals decide +kernel
theorem base_two (c : Nat) : base c = 10 ∨ base c = 26 := by unfold base; split <;> simp
theorem snoc_ind {p : List Nat → Prop} (h0 : p []) (hs : ∀ l c, p l → p (l ++ [c])) (l : List Nat) : p l := by
  have h : ∀ r : List Nat, p r.reverse := by
    intro r
    induction r with
    | nil => exact h0
    | cons c r ih => rw [List.reverse_cons]; exact hs _ _ ih
  have := h l.reverse
  rwa [List.reverse_reverse] at this
theorem room_pos (l : List Nat) : 0 < roomL l := by
  refine snoc_ind (p := fun l => 0 < roomL l) (by decide) (fun l c ih => ?_) l
  show 0 < roomL (l ++ [c])
  rw [roomL_snoc]
  rcases base_two c with h | h <;> rw [h] <;> omega
theorem val_in {l : List Nat} (h : ∀ c ∈ l, isA c = true) : 0 ≤ valL l ∧ valL l < roomL l := by
  revert h
  refine snoc_ind (p := fun l => (∀ c ∈ l, isA c = true) → 0 ≤ valL l ∧ valL l < roomL l) (fun _ => by decide) (fun l c ih h => ?_) l
  obtain ⟨h1, h2⟩ := ih fun d hd => h d (List.mem_append_left _ hd)
  have hc := h c (List.mem_append_right _ (.head _))
  obtain ⟨_, h3, h4, _⟩ := row_tab c (isA_lt hc) hc
  rw [h4] at h3
  rw [valL_snoc, roomL_snoc]
  rcases base_two c with e | e <;> rw [e] at h3 ⊢ <;> constructor <;> omega
theorem room_le : ∀ (k : Nat) (l : List Nat), l.length = k → roomL l ≤ 26 ^ k := by
  intro k l h
  subst h
  refine snoc_ind (p := fun l => roomL l ≤ 26 ^ l.length) (by decide) (fun l c ih => ?_) l
  show roomL (l ++ [c]) ≤ 26 ^ (l ++ [c]).length
  rw [roomL_snoc, List.length_append, List.length_singleton, Int.pow_succ]
  have := room_pos l
  rcases base_two c with e | e <;> rw [e] <;> omega
theorem room_le9 {l : List Nat} (h : l.length ≤ 9) : roomL l ≤ 10000000000000 := by
  refine Int.le_trans (room_le _ l rfl) ?_
  have : l.length = 0 ∨ l.length = 1 ∨ l.length = 2 ∨ l.length = 3 ∨ l.length = 4 ∨ l.length = 5 ∨ l.length = 6 ∨ l.length = 7 ∨ l.length = 8 ∨ l.length = 9 := by omega
  rcases this with e | e | e | e | e | e | e | e | e | e <;> rw [e] <;> decide
theorem room_ge {l : List Nat} (h : l ≠ []) : 10 ≤ roomL l := by
  revert h
  refine snoc_ind (p := fun l => l ≠ [] → 10 ≤ roomL l) (fun h => absurd rfl h) (fun l c ih _ => ?_) l
  rw [roomL_snoc]
  have := room_pos l
  rcases base_two c with e | e <;> rw [e] <;> omega
/-- the signs from behind: (what is written, what is left) -/
def digF (l : List Nat) (t : Int) : List Nat × Int := l.foldl (fun p d => ((fst0 d + (p.2 % (base d : Int)).toNat) :: p.1, p.2 / (base d : Int))) ([], t)
def digs (l : List Nat) (t : Int) : List Nat := (digF l.reverse t).1
theorem digF_snoc (l : List Nat) (d : Nat) (t : Int) : digF (l ++ [d]) t = ((fst0 d + ((digF l t).2 % (base d : Int)).toNat) :: (digF l t).1, (digF l t).2 / (base d : Int)) := by
  unfold digF; rw [List.foldl_append]; rfl
def behindL (l : List Nat) (n : Int) : List Nat :=
  if valL l + n < roomL l then digs l (valL l + n) else digs (l.headD 0 :: l) (valL l + n - roomL l)
def behindS (x : Str) (n : Int) : Str := T (behindL (cs x) n)
theorem mem_sg {x : Str} {k : Int} (h0 : 0 ≤ k) (h1 : k < x.length) : sg x k ∈ cs x := List.mem_of_getElem? (sg_eq h0 h1)
theorem idx_at {x : Str} {k : Int} (hal : ∀ c ∈ cs x, isA c = true) (h0 : 0 ≤ k) (h1 : k < x.length) : Txt.find (rowOf ((cs x).getD k.toNat 0)) (Txt.item x k) = (idx (sg x k) : Int) := by
  rw [item_sg h0 h1]
  have hc := hal _ (mem_sg h0 h1)
  exact (row_tab _ (isA_lt hc) hc).1
theorem idx_no {x : Str} {k : Int} {P : Prop} (hal : ∀ c ∈ cs x, isA c = true) (h : Txt.find (rowOf ((cs x).getD k.toNat 0)) (Txt.item x k) = -1) (h0 : 0 ≤ k) (h1 : k < x.length) : P := by
  rw [idx_at hal h0 h1] at h; omega
theorem val_start (x : Str) : 0 ≤ (0 : Int) ∧ (0 : Int) ≤ 10000000000000 ∧ (0 : Int) = valL ((cs x).take ([] : List Int).length) := ⟨by decide, by decide, rfl⟩
theorem val_turn {x : Str} {k a : Int} {pre : List Int} (hx : x.length ≤ 8) (hal : ∀ c ∈ cs x, isA c = true) (h0 : 0 ≤ k) (h1 : k < x.length) (hk : k = pre.length) (ha : a = valL ((cs x).take pre.length)) :
    0 ≤ a * ((rowOf ((cs x).getD k.toNat 0)).length : Int) + Txt.find (rowOf ((cs x).getD k.toNat 0)) (Txt.item x k) ∧ a * ((rowOf ((cs x).getD k.toNat 0)).length : Int) + Txt.find (rowOf ((cs x).getD k.toNat 0)) (Txt.item x k) ≤ 10000000000000 ∧
      a * ((rowOf ((cs x).getD k.toNat 0)).length : Int) + Txt.find (rowOf ((cs x).getD k.toNat 0)) (Txt.item x k) = valL ((cs x).take (pre ++ [k]).length) := by
  have e : (cs x).take (pre ++ [k]).length = (cs x).take pre.length ++ [sg x k] := by
    rw [List.length_append, List.length_singleton, List.take_add_one]
    have := sg_eq h0 h1
    rw [show k.toNat = pre.length from by omega] at this
    rw [this]; rfl
  have hv : a * ((rowOf ((cs x).getD k.toNat 0)).length : Int) + Txt.find (rowOf ((cs x).getD k.toNat 0)) (Txt.item x k) = valL ((cs x).take (pre ++ [k]).length) := by
    rw [idx_at hal h0 h1, e, valL_snoc, ha, row_base]; rfl
  rw [hv]
  have hin := val_in (l := (cs x).take (pre ++ [k]).length) fun c hc => hal c (List.mem_of_mem_take hc)
  have hr := room_le9 (l := (cs x).take (pre ++ [k]).length) (by rw [List.length_take, cs_len]; omega)
  exact ⟨hin.1, by omega, rfl⟩
theorem room_start : (1 : Int) = roomL [] ∧ 0 < (1 : Int) ∧ (1 : Int) ≤ 10000000000000 := ⟨rfl, by decide, by decide⟩
theorem room_turn {pre post : List Nat} {d : Nat} {a : Int} {ds : List Nat} (e : ds = pre ++ d :: post) (hd : ds.length ≤ 9) (h : a = roomL pre) : a * ((rowOf d).length : Int) = roomL (pre ++ [d]) ∧ 0 < a * ((rowOf d).length : Int) ∧ a * ((rowOf d).length : Int) ≤ 10000000000000 := by
  have e1 : a * ((rowOf d).length : Int) = roomL (pre ++ [d]) := by rw [roomL_snoc, row_base, h]
  rw [e1]
  refine ⟨rfl, room_pos _, room_le9 ?_⟩
  rw [e] at hd
  simp only [List.length_append, List.length_cons, List.length_nil] at hd ⊢
  omega
theorem pre_le {ds pre post : List Nat} {d : Nat} (e : ds = pre ++ d :: post) (h : ds.length ≤ 100) : pre.length ≤ 100 := by
  rw [e] at h
  simp only [List.length_append, List.length_cons] at h
  omega
theorem row_item {d : Nat} {j : Int} (h0 : 0 ≤ j) (h1 : j < base d) : Txt.item (rowOf d) j = ⟨#[fst0 d + j.toNat]⟩ := by
  have e : j = (j.toNat : Int) := by omega
  have key : (∀ k : Nat, k < 10 → Txt.item (Str.ofString "0123456789") (k : Int) = ⟨#[48 + k]⟩) ∧ (∀ k : Nat, k < 26 → Txt.item (Str.ofString "abcdefghijklmnopqrstuvwxyz") (k : Int) = ⟨#[97 + k]⟩) ∧ (∀ k : Nat, k < 26 → Txt.item (Str.ofString "ABCDEFGHIJKLMNOPQRSTUVWXYZ") (k : Int) = ⟨#[65 + k]⟩) := by decide +kernel
  have h2 : j.toNat < base d := by omega
  rw [e, Int.toNat_natCast]
  unfold rowOf fst0
  unfold base at h2
  by_cases hD : isD d = true
  · rw [if_pos hD] at h2
    rw [if_pos hD, if_pos hD]; exact key.1 _ h2
  · rw [if_neg hD] at h2
    rw [if_neg hD, if_neg hD]
    by_cases hS : isS d = true
    · rw [if_pos hS, if_pos hS]; exact key.2.1 _ h2
    · rw [if_neg hS, if_neg hS]; exact key.2.2 _ h2
theorem fmod_row (t : Int) (d : Nat) : 0 ≤ t.fmod ((rowOf d).length : Int) ∧ t.fmod ((rowOf d).length : Int) < ((rowOf d).length : Int) := by
  have h := rowS_len ⟨#[d]⟩
  rw [rowS_one] at h
  rw [Int.fmod_eq_emod_of_nonneg _ (by omega)]
  exact ⟨Int.emod_nonneg _ (by omega), Int.emod_lt_of_pos _ (by omega)⟩
theorem dig_start (t : Int) (h0 : 0 ≤ t) (h1 : t ≤ 100000000000000) : Str.ofString "" = T (digF [] t).1 ∧ t = (digF [] t).2 ∧ (Str.ofString "").length = ([] : List Nat).length ∧ 0 ≤ t ∧ t ≤ 100000000000000 := ⟨(by decide +kernel : Str.ofString "" = T []), rfl, by decide +kernel, h0, h1⟩
theorem dig_turn {pre : List Nat} {d : Nat} {t₀ t : Int} {o : Str} (ho : o = T (digF pre t₀).1) (ht : t = (digF pre t₀).2) (hl : o.length = pre.length) (h0 : 0 ≤ t) (h1 : t ≤ 100000000000000) :
    Txt.item (rowOf d) (t.fmod ((rowOf d).length : Int)) ++ o = T (digF (pre ++ [d]) t₀).1 ∧ t.fdiv ((rowOf d).length : Int) = (digF (pre ++ [d]) t₀).2 ∧ (Txt.item (rowOf d) (t.fmod ((rowOf d).length : Int)) ++ o).length = (pre ++ [d]).length ∧
      0 ≤ t.fdiv ((rowOf d).length : Int) ∧ t.fdiv ((rowOf d).length : Int) ≤ 100000000000000 := by
  have hb := base_two d
  have hm := fmod_row t d
  have e1 : t.fmod ((rowOf d).length : Int) = t % (base d : Int) := by rw [row_base, Int.fmod_eq_emod_of_nonneg _ (by omega)]
  have e2 : t.fdiv ((rowOf d).length : Int) = t / (base d : Int) := by rw [row_base, Int.fdiv_eq_ediv_of_nonneg _ (by omega)]
  rw [e2, e1]
  rw [e1, row_base] at hm
  rw [row_item hm.1 hm.2, digF_snoc, ho, ← ht]
  refine ⟨?_, rfl, ?_, ?_, ?_⟩
  · show T [_] ++ T _ = _
    rw [T_app]; rfl
  · rw [ho] at hl
    rw [Str.length_append, hl, List.length_append]
    show 1 + _ = _
    rw [Nat.add_comm]; rfl
  · rcases hb with e | e <;> rw [e] <;> omega
  · rcases hb with e | e <;> rw [e] <;> omega
theorem rowOf_len (c : Nat) : 10 ≤ (rowOf c).length ∧ (rowOf c).length ≤ 26 := rowS_len ⟨#[c]⟩
theorem al_of {x : Str} {c : Nat} (hal : ∀ c ∈ cs x, isA c = true) (h : c ∈ cs x) : alS ⟨#[c]⟩ := ⟨c, rfl, hal c h⟩
theorem val_fin {x : Str} {v : Int} (h : v = valL ((cs x).take (rangeKs 0 ((x.length : Int) - 0).toNat).length)) : v = valL (cs x) := by
  rw [rangeKs_length, List.take_of_length_le (by rw [cs_len]; omega)] at h
  exact h
theorem no_second {x : Str} {v a n : Int} {M : Nat} (h : v = valL ((cs x).take (rangeKs 0 ((x.length : Int) - 0).toNat).length)) (ha : a = roomL (cs x)) (hal : ∀ c ∈ cs x, isA c = true) (hx0 : 0 < x.length) (hL : 10 ≤ M ∧ M ≤ 26) (hn : n ≤ 30) : decide (a * (M : Int) ≤ v + n - a) = false := by
  have h1 := val_fin h
  have h2 := val_in hal
  have h3 := room_ge (l := cs x) (fun e => by have := cs_len x; rw [e] at this; simp at this; omega)
  rw [← h1, ← ha] at h2
  rw [← ha] at h3
  have h4 : a * 10 ≤ a * (M : Int) := Int.mul_le_mul_of_nonneg_left (by omega) (by omega)
  rw [decide_eq_false_iff_not]
  omega
theorem beh_le {x : Str} {a n v : Int} (h : v = valL ((cs x).take (rangeKs 0 ((x.length : Int) - 0).toNat).length)) (ha : a = roomL (cs x)) (hn : ¬ a ≤ v + n) {o : Str} (ho : o = T (digF (cs x).reverse (v + n)).1) : o = behindS x n := by
  have h1 := val_fin h
  unfold behindS behindL
  rw [← h1, ← ha, if_pos (by omega), ho]; rfl
theorem beh_gt {x : Str} {a n v : Int} (h : v = valL ((cs x).take (rangeKs 0 ((x.length : Int) - 0).toNat).length)) (ha : a = roomL (cs x)) (hn : a ≤ v + n) {o : Str} (ho : o = T (digF ([(cs x).getD (Int.toNat 0) 0] ++ cs x).reverse (v + n - a)).1) : o = behindS x n := by
  have h1 := val_fin h
  have e : (cs x).getD (Int.toNat 0) 0 = (cs x).headD 0 := by cases cs x <;> rfl
  unfold behindS behindL
  rw [← h1, ← ha, if_neg (by omega), ho, e]; rfl
/-! ## _law_text -/
theorem place_in {r : Int} (h0 : 0 ≤ r) (h1 : r < 156) : 0 ≤ [25, 24, r.fdiv 6, 25, 23, r.fdiv 6].getD (r.fmod 6).toNat 0 ∧ [25, 24, r.fdiv 6, 25, 23, r.fdiv 6].getD (r.fmod 6).toNat 0 < 26 := by
  rw [Int.fdiv_eq_ediv_of_nonneg _ (by decide), Int.fmod_eq_emod_of_nonneg _ (by decide)]
  have h : (r % 6).toNat = 0 ∨ (r % 6).toNat = 1 ∨ (r % 6).toNat = 2 ∨ (r % 6).toNat = 3 ∨ (r % 6).toNat = 4 ∨ (r % 6).toNat = 5 := by omega
  rcases h with h | h | h | h | h | h <;> rw [h] <;> simp only [List.getD_cons_zero, List.getD_cons_succ] <;> omega
theorem place_lo {r : Int} (h0 : 0 ≤ r) (h1 : r < 156) : -((26 : Nat) : Int) ≤ [25, 24, r.fdiv 6, 25, 23, r.fdiv 6].getD (r.fmod 6).toNat 0 := by
  have := (place_in h0 h1).1; omega
theorem cs_app (a b : Str) : cs (a ++ b) = cs a ++ cs b := by unfold cs; rw [Str.cps_append, Array.toList_append]
def lets (x : Str) : Prop := ∀ c ∈ cs x, isL c = true
def wf2 (x : Str) (j : Nat) : Prop := ∃ a b, cs x = a ++ b ∧ a ≠ [] ∧ b.length = j ∧ (∀ c ∈ a, isL c = true) ∧ ∀ c ∈ b, isD c = true
theorem lets_snoc {x y : Str} {c : Nat} (h : lets x) (e : y = ⟨#[c]⟩) (hc : isL c = true) : lets (x ++ y) := by
  subst e
  intro d hd
  rw [cs_app] at hd
  rcases List.mem_append.mp hd with hd | hd
  · exact h d hd
  · rw [List.mem_singleton.mp hd]; exact hc
theorem small_at {p : Int} (h0 : 0 ≤ p) (h1 : p < 26) : Txt.item (Str.ofString "abcdefghijklmnopqrstuvwxyz") p = ⟨#[97 + p.toNat]⟩ ∧ isL (97 + p.toNat) = true := by
  have h := row_item (d := 97) h0 (by show p < 26; exact h1)
  refine ⟨h, ?_⟩
  unfold isL isS
  rw [Bool.or_eq_true]; left
  rw [Bool.and_eq_true, decide_eq_true_eq, decide_eq_true_eq]; omega
theorem great_at {p : Int} (h0 : 0 ≤ p) (h1 : p < 26) : Txt.item (Str.ofString "ABCDEFGHIJKLMNOPQRSTUVWXYZ") p = ⟨#[65 + p.toNat]⟩ ∧ isL (65 + p.toNat) = true := by
  have h := row_item (d := 65) h0 (by show p < 26; exact h1)
  refine ⟨h, ?_⟩
  unfold isL isG
  rw [Bool.or_eq_true]; right
  rw [Bool.and_eq_true, decide_eq_true_eq, decide_eq_true_eq]; omega
theorem dig_at {p : Int} (h0 : 0 ≤ p) (h1 : p < 10) : Txt.item (Str.ofString "0123456789") p = ⟨#[48 + p.toNat]⟩ ∧ isD (48 + p.toNat) = true := by
  have h := row_item (d := 48) h0 (by show p < 10; exact h1)
  refine ⟨h, ?_⟩
  unfold isD
  rw [Bool.and_eq_true, decide_eq_true_eq, decide_eq_true_eq]; omega
theorem t1_start : (Str.ofString "").length = ([] : List Int).length ∧ lets (Str.ofString "") := ⟨by decide +kernel, fun c hc => by
  have e : cs (Str.ofString "") = [] := by decide +kernel
  rw [e] at hc; exact nomatch hc⟩
theorem t1_small {x : Str} {pre : List Int} {k r : Int} (h0 : 0 ≤ r) (h1 : r < 156) (hl : x.length = pre.length) (h : lets x) :
    (x ++ Txt.item (Str.ofString "abcdefghijklmnopqrstuvwxyz") ([25, 24, r.fdiv 6, 25, 23, r.fdiv 6].getD (r.fmod 6).toNat 0)).length = (pre ++ [k]).length ∧ lets (x ++ Txt.item (Str.ofString "abcdefghijklmnopqrstuvwxyz") ([25, 24, r.fdiv 6, 25, 23, r.fdiv 6].getD (r.fmod 6).toNat 0)) := by
  have hp := place_in h0 h1
  refine ⟨?_, lets_snoc h (small_at hp.1 hp.2).1 (small_at hp.1 hp.2).2⟩
  rw [Str.length_append, List.length_append, hl]; rfl
theorem t1_great {x : Str} {pre : List Int} {k r : Int} (h0 : 0 ≤ r) (h1 : r < 156) (hl : x.length = pre.length) (h : lets x) :
    (x ++ Txt.item (Str.ofString "ABCDEFGHIJKLMNOPQRSTUVWXYZ") ([25, 24, r.fdiv 6, 25, 23, r.fdiv 6].getD (r.fmod 6).toNat 0)).length = (pre ++ [k]).length ∧ lets (x ++ Txt.item (Str.ofString "ABCDEFGHIJKLMNOPQRSTUVWXYZ") ([25, 24, r.fdiv 6, 25, 23, r.fdiv 6].getD (r.fmod 6).toNat 0)) := by
  have hp := place_in h0 h1
  refine ⟨?_, lets_snoc h (great_at hp.1 hp.2).1 (great_at hp.1 hp.2).2⟩
  rw [Str.length_append, List.length_append, hl]; rfl
theorem t2_start {x : Str} {r : Int} (hl : x.length = (rangeKs 0 (1 + r - 0).toNat).length) (h0 : 0 ≤ r) (h1 : r < 5) (h : lets x) : x.length ≤ 5 + ([] : List Int).length ∧ wf2 x ([] : List Int).length := by
  rw [rangeKs_length] at hl
  refine ⟨by simp only [List.length_nil]; omega, cs x, [], (List.append_nil _).symm, fun e => ?_, rfl, h, fun c hc => nomatch hc⟩
  have := cs_len x
  rw [e] at this
  simp only [List.length_nil] at this
  omega
theorem wf2_snoc {x y : Str} {c j : Nat} (h : wf2 x j) (e : y = ⟨#[c]⟩) (hc : isD c = true) : wf2 (x ++ y) (j + 1) := by
  subst e
  obtain ⟨a, b, h1, h2, h3, h4, h5⟩ := h
  refine ⟨a, b ++ [c], ?_, h2, by rw [List.length_append, h3]; rfl, h4, fun d hd => ?_⟩
  · rw [cs_app, h1, List.append_assoc]; rfl
  · rcases List.mem_append.mp hd with hd | hd
    · exact h5 d hd
    · rw [List.mem_singleton.mp hd]; exact hc
theorem t2_nine {x : Str} {pre : List Int} {k : Int} (hl : x.length ≤ 5 + pre.length) (h : wf2 x pre.length) : (x ++ Str.ofString "9").length ≤ 5 + (pre ++ [k]).length ∧ wf2 (x ++ Str.ofString "9") (pre ++ [k]).length := by
  have e : Str.ofString "9" = ⟨#[57]⟩ := by decide +kernel
  have e2 : (pre ++ [k]).length = pre.length + 1 := by rw [List.length_append]; rfl
  rw [e2]
  refine ⟨?_, wf2_snoc h e (by decide)⟩
  rw [Str.length_append, e]
  show _ + 1 ≤ _
  omega
theorem t2_dig {x : Str} {pre : List Int} {k r : Int} (h0 : 0 ≤ r) (h1 : ¬ 9 < r) (hl : x.length ≤ 5 + pre.length) (h : wf2 x pre.length) : (x ++ Txt.item (Str.ofString "0123456789") r).length ≤ 5 + (pre ++ [k]).length ∧ wf2 (x ++ Txt.item (Str.ofString "0123456789") r) (pre ++ [k]).length := by
  have hd := dig_at h0 (by omega)
  have e2 : (pre ++ [k]).length = pre.length + 1 := by rw [List.length_append]; rfl
  rw [e2]
  refine ⟨?_, wf2_snoc h hd.1 hd.2⟩
  rw [Str.length_append, hd.1]
  show _ + 1 ≤ _
  omega
theorem lead_app {p : Nat → Bool} {b : List Nat} : ∀ {a : List Nat}, (∀ c ∈ a, p c = true) → (∀ c ∈ b.head?, p c = false) → lead p (a ++ b) = a.length
  | [], _, hb => by
    cases b with
    | nil => rfl
    | cons c r =>
      show (if p c then _ else 0) = 0
      rw [hb c rfl, if_neg Bool.false_ne_true]
  | c :: a, ha, hb => by
    show (if p c then lead p (a ++ b) + 1 else 0) = a.length + 1
    rw [if_pos (ha c (.head _)), lead_app (fun d hd => ha d (.tail _ hd)) hb]
theorem lead_full {p : Nat → Bool} {a : List Nat} (ha : ∀ c ∈ a, p c = true) : lead p a = a.length := by
  have := lead_app (b := []) ha (fun c hc => nomatch hc)
  rwa [List.append_nil] at this
theorem isD_notL {c : Nat} (h : isD c = true) : isL c = false := by
  simp [isD, isL, isS, isG] at h ⊢
  omega
theorem isL_notD {c : Nat} (h : isL c = true) : isD c = false := by
  simp [isD, isL, isS, isG] at h ⊢
  omega
theorem wf2_magic {x : Str} {j : Nat} (h : wf2 x j) : magicB x = true := by
  obtain ⟨a, b, h1, h2, h3, h4, h5⟩ := h
  have e1 : leadAt isL x 0 = a.length := by
    unfold leadAt
    rw [List.drop_zero]
    show lead isL (cs x) = _
    rw [h1]
    refine lead_app h4 fun c hc => isD_notL (h5 c ?_)
    cases b with
    | nil => exact nomatch hc
    | cons d r => cases hc; exact .head _
  have e2 : leadAt isD x a.length = b.length := by
    unfold leadAt
    show lead isD ((cs x).drop _) = _
    rw [h1, List.drop_left]
    exact lead_full h5
  have e3 : x.length = a.length + b.length := by rw [← cs_len, h1, List.length_append]
  have h6 : 0 < a.length := List.length_pos_iff.mpr h2
  unfold magicB
  rw [e1, e2, e3]
  simp [h6]
theorem t2_fin {x : Str} {r : Int} (hl : x.length ≤ 5 + (rangeKs 0 (r - 0).toNat).length) (h1 : r < 4) (h : wf2 x (rangeKs 0 (r - 0).toNat).length) : magicB x = true ∧ x.length ≤ 8 := by
  refine ⟨wf2_magic h, ?_⟩
  rw [rangeKs_length] at hl
  omega
/-! ## the six bent texts -/
theorem sg0_head {x : Str} {c : Nat} {l : List Nat} (h : cs x = c :: l) : sg x 0 = c := by
  unfold sg
  show (cs x).getD (0 : Int).toNat 0 = c
  rw [h]; rfl
theorem sg1_head {x : Str} {c d : Nat} {l : List Nat} (h : cs x = c :: d :: l) : sg x 1 = d := by
  unfold sg
  show (cs x).getD (1 : Int).toNat 0 = d
  rw [h]; rfl
theorem isL_plain {c : Nat} (h : isL c = true) : isB c = false ∧ c ≠ 43 ∧ c ≠ 45 ∧ isD c = false := by
  refine ⟨?_, ?_, ?_, isL_notD h⟩
  · simp [isB, isL, isS, isG] at h ⊢; omega
  · rintro rfl; exact absurd h (by decide)
  · rintro rfl; exact absurd h (by decide)
theorem numF_nil : numF [] = 0 := rfl
theorem num_none {x : Str} (h : headE x = 0) : numF (KStt.codes (Txt.slice x (some 0) (some (headE x)))) = 0 := by
  rw [h, slice_over (Int.le_refl _) (by omega) (Int.le_refl _)]
  rfl
/-- a text that opens with a letter: no number -/
theorem head_letter {x : Str} (h : isL (sg x 0) = true) (h0 : 0 < x.length) : headE x = 0 := by
  have hp := isL_plain h
  refine (head_eq0 (a := 0) (g := 0) (k := 0) rfl ?_ (run_nil _ _ _) (Int.le_refl _) (by omega) (Or.inr hp.2.2.2) rfl).symm
  unfold signP
  rw [if_neg]
  rintro ⟨_, e | e⟩
  · exact hp.2.1 e
  · exact hp.2.2.1 e
/-- a minus, then a letter: no number -/
theorem head_minus {x : Str} (h : sg x 0 = 45) (h1 : isL (sg x 1) = true) (h0 : 1 < x.length) : headE x = 0 := by
  have hp := isL_plain h1
  refine (head_eq0 (a := 0) (g := 1) (k := 1) rfl ?_ (run_nil _ _ _) (Int.le_refl _) (by omega) (Or.inr hp.2.2.2) rfl).symm
  unfold signP
  rw [if_pos ⟨by omega, .inr h⟩]
/-- a figure, then a letter -/
theorem head_fig {x : Str} (h : isD (sg x 0) = true) (h1 : isL (sg x 1) = true) (h0 : 1 < x.length) : headE x = 1 := by
  have hp := isL_plain h1
  refine (head_eq1 (g := 0) (k := 1) ?_ (fun i h2 h3 => ?_) (by omega) (by omega) (Or.inr hp.2.2.2) (by omega)).symm
  · unfold signP
    rw [if_neg]
    rintro ⟨_, e | e⟩ <;> rw [e] at h <;> exact absurd h (by decide)
  · have e : i = 0 := by omega
    rw [e]; exact h
theorem num_fig {x : Str} {l : List Nat} (he : headE x = 1) (h : cs x = 55 :: l) : numF (KStt.codes (Txt.slice x (some 0) (some (headE x)))) = 7 := by
  have hl : 0 < x.length := by rw [← cs_len, h]; exact Nat.succ_pos _
  rw [he, slice_over (Int.le_refl _) (by omega) (by omega), h]
  rfl
theorem magic_wf {x : Str} (h : magicB x = true) : ∃ a b, cs x = a ++ b ∧ a ≠ [] ∧ (∀ c ∈ a, isL c = true) ∧ ∀ c ∈ b, isD c = true := by
  have tk : ∀ (p : Nat → Bool) (l : List Nat), ∀ c ∈ l.take (lead p l), p c = true := by
    intro p l
    induction l with
    | nil => intro c hc; rw [List.take_nil] at hc; exact nomatch hc
    | cons d r ih =>
      intro c hc
      unfold lead at hc
      by_cases hd : p d = true
      · rw [if_pos hd, List.take_succ_cons] at hc
        rcases List.mem_cons.mp hc with rfl | hc
        · exact hd
        · exact ih c hc
      · rw [if_neg hd, List.take_zero] at hc; exact nomatch hc
  unfold magicB at h
  simp only [Bool.and_eq_true, decide_eq_true_eq] at h
  obtain ⟨h1, h2⟩ := h
  refine ⟨(cs x).take (leadAt isL x 0), (cs x).drop (leadAt isL x 0), (List.take_append_drop _ _).symm, fun e => ?_, ?_, ?_⟩
  · have := congrArg List.length e
    rw [List.length_take, cs_len, List.length_nil] at this
    omega
  · have := tk isL ((cs x).drop 0)
    rw [List.drop_zero] at this
    exact this
  · have h3 := tk isD ((cs x).drop (leadAt isL x 0))
    rw [List.take_of_length_le] at h3
    · exact h3
    · rw [List.length_drop, cs_len]
      show x.length - leadAt isL x 0 ≤ leadAt isD x (leadAt isL x 0)
      omega
theorem magic_pos0 {x : Str} (h : magicB x = true) : 0 < x.length := by
  obtain ⟨a, b, h1, h2, _, _⟩ := magic_wf h
  have : 0 < a.length := List.length_pos_iff.mpr h2
  rw [← cs_len, h1, List.length_append]; omega
theorem magic_sg0 {x : Str} (h : magicB x = true) : ∃ c l, cs x = c :: l ∧ isL c = true := by
  obtain ⟨a, b, h1, h2, h3, _⟩ := magic_wf h
  cases a with
  | nil => exact absurd rfl h2
  | cons c a => exact ⟨c, a ++ b, h1, h3 c (.head _)⟩
theorem not_magic_head {x : Str} (h : cs x = [] ∨ ∃ c l, cs x = c :: l ∧ isL c = false) : magicB x = false := by
  have e : leadAt isL x 0 = 0 := by
    unfold leadAt
    rw [List.drop_zero]
    show lead isL (cs x) = 0
    rcases h with h | ⟨c, l, h, hc⟩
    · rw [h]; rfl
    · rw [h]; unfold lead; rw [if_neg (by rw [hc]; exact Bool.false_ne_true)]
  unfold magicB
  rw [e]; rfl
theorem not_magic_tail {x : Str} {a b r : List Nat} {d : Nat} (h : cs x = a ++ (b ++ d :: r)) (ha : ∀ c ∈ a, isL c = true) (hb : ∀ c ∈ b, isD c = true) (hd : isD d = false) (hn : b ≠ [] ∨ isL d = false) : magicB x = false := by
  have e1 : leadAt isL x 0 = a.length := by
    unfold leadAt
    rw [List.drop_zero]
    show lead isL (cs x) = _
    rw [h]
    refine lead_app ha fun c hc => ?_
    cases b with
    | nil =>
      cases hc
      rcases hn with hn | hn
      · exact absurd rfl hn
      · exact hn
    | cons e b => cases hc; exact isD_notL (hb _ (.head _))
  have e2 : leadAt isD x a.length = b.length := by
    unfold leadAt
    show lead isD ((cs x).drop _) = _
    rw [h, List.drop_left]
    exact lead_app hb fun c hc => by cases hc; exact hd
  have e3 : x.length = a.length + (b.length + (r.length + 1)) := by rw [← cs_len, h, List.length_append, List.length_append, List.length_cons]
  unfold magicB
  rw [e1, e2, e3, Bool.and_eq_false_iff]
  right
  rw [decide_eq_false_iff_not]; omega
theorem cs_minus : cs (Str.ofString "-") = [45] := by decide +kernel
theorem cs_seven : cs (Str.ofString "7") = [55] := by decide +kernel
theorem cs_z : cs (Str.ofString "z") = [122] := by decide +kernel
theorem cs_0a : cs (Str.ofString "0a") = [48, 97] := by decide +kernel
/-- text and a minus -/
theorem m1 {x : Str} (h : magicB x = true) : magicB (x ++ Str.ofString "-") = false := by
  obtain ⟨a, b, h1, _, h3, h4⟩ := magic_wf h
  exact not_magic_tail (a := a) (b := b) (d := 45) (r := []) (by rw [cs_app, h1, cs_minus, List.append_assoc]) h3 h4 (by decide) (.inr (by decide))
theorem m2 (x : Str) : magicB (Str.ofString "-" ++ x) = false := not_magic_head (.inr ⟨45, cs x, by rw [cs_app, cs_minus]; rfl, by decide⟩)
theorem m5 (x : Str) : magicB (Str.ofString "7" ++ x) = false := not_magic_head (.inr ⟨55, cs x, by rw [cs_app, cs_seven]; rfl, by decide⟩)
theorem m3b {x : Str} (h : magicB x = true) : magicB (x ++ Str.ofString "0a") = false := by
  obtain ⟨a, b, h1, _, h3, h4⟩ := magic_wf h
  refine not_magic_tail (a := a) (b := b ++ [48]) (d := 97) (r := []) (by rw [cs_app, h1, cs_0a]; simp) h3 (fun c hc => ?_) (by decide) (.inl (by simp))
  rcases List.mem_append.mp hc with hc | hc
  · exact h4 c hc
  · rw [List.mem_singleton.mp hc]; decide
theorem m3a {x : Str} (h : magicB x = true) (hl : (Builtin.Str.occurrences (Str.ofString "0123456789") (Txt.item x (-1)) 0 (Str.ofString "0123456789").length 1).isEmpty = false) : magicB (x ++ Str.ofString "z") = false := by
  obtain ⟨a, b, h1, h2, h3, h4⟩ := magic_wf h
  have h0 := magic_pos0 h
  refine not_magic_tail (a := a) (b := b) (d := 122) (r := []) (by rw [cs_app, h1, cs_z, List.append_assoc]) h3 h4 (by decide) (.inl fun e => ?_)
  have hit := eq_of_beq (item_closes_neg (x := x) (i := -1) (j := (x.length : Int) - 1) (by omega) (by omega) (by omega))
  have hs := sg_eq (x := x) (i := (x.length : Int) - 1) (by omega) (by omega)
  have hx : x.cps.getD ((x.length : Int) - 1).toNat 0 = sg x ((x.length : Int) - 1) := by
    have hlt : ((x.length : Int) - 1).toNat < x.cps.size := by
      have : (x.length : Int) = x.cps.size := rfl
      omega
    have key : ∀ n, n < x.cps.size → x.cps.getD n 0 = x.cps.toList.getD n 0 := fun n hn => by simp [Array.getD, hn]
    exact key _ hlt
  rw [hit, hx, occ_dig] at hl
  have hm := List.mem_of_getElem? hs
  rw [h1, e, List.append_nil] at hm
  have := isL_notD (h3 _ hm)
  rw [this] at hl
  cases hl
theorem m4 : magicB (Str.ofString "12") = false := by decide +kernel
theorem m6 : magicB (Str.ofString "") = false := by decide +kernel
end PartBs
section PartMt
/-! ## the law's reckoning -/
theorem roomL_cons (c : Nat) (l : List Nat) : roomL (c :: l) = (base c : Int) * roomL l := by
  refine snoc_ind (p := fun l => roomL (c :: l) = (base c : Int) * roomL l) ?_ (fun l d ih => ?_) l
  · show (1 : Int) * (base c : Int) = (base c : Int) * 1
    omega
  · show roomL ((c :: l) ++ [d]) = _
    rw [roomL_snoc, roomL_snoc, ih, Int.mul_assoc]
theorem valL_cons (c : Nat) (l : List Nat) : valL (c :: l) = (idx c : Int) * roomL l + valL l := by
  refine snoc_ind (p := fun l => valL (c :: l) = (idx c : Int) * roomL l + valL l) ?_ (fun l d ih => ?_) l
  · show (0 : Int) * (base c : Int) + (idx c : Int) = (idx c : Int) * 1 + 0
    omega
  · show valL ((c :: l) ++ [d]) = _
    rw [valL_snoc, ih, roomL_snoc, valL_snoc, Int.add_mul, Int.mul_assoc, Int.add_assoc]
theorem digF_rest (l : List Nat) (t : Int) : (digF l.reverse t).2 = t / roomL l := by
  induction l with
  | nil => show t = t / 1; rw [Int.ediv_one]
  | cons c r ih =>
    have hr := room_pos r
    rw [List.reverse_cons, digF_snoc, ih, roomL_cons, Int.mul_comm]
    show t / roomL r / (base c : Int) = _
    rw [Int.ediv_ediv, if_neg (fun h => by have := h.1; omega), Int.sub_zero]
theorem digs_cons (c : Nat) (r : List Nat) (t : Int) : digs (c :: r) t = (fst0 c + ((t / roomL r) % (base c : Int)).toNat) :: digs r t := by
  unfold digs
  rw [List.reverse_cons, digF_snoc, digF_rest]
theorem digs_nil (t : Int) : digs [] t = [] := rfl
theorem base_pos (c : Nat) : (0 : Int) < base c := by rcases base_two c with e | e <;> rw [e] <;> decide
/-- turns of the whole room change no sign -/
theorem digs_turn (l : List Nat) : ∀ (t q : Int), digs l (t + q * roomL l) = digs l t := by
  induction l with
  | nil => intro t q; rfl
  | cons c r ih =>
    intro t q
    have hr := room_pos r
    rw [digs_cons, digs_cons, roomL_cons]
    have e1 : t + q * ((base c : Int) * roomL r) = t + (q * (base c : Int)) * roomL r := by rw [Int.mul_assoc]
    rw [e1, ih, Int.add_mul_ediv_right _ _ (by omega), Int.add_mul_emod_self_right]
/-- a sign of the same row -/
def sameRow (c d : Nat) : Prop := isD c = isD d ∧ isS c = isS d
theorem same_base {c d : Nat} (h : sameRow c d) : base c = base d ∧ fst0 c = fst0 d := by
  unfold base fst0
  rw [h.1, h.2]
  exact ⟨rfl, rfl⟩
inductive Same : List Nat → List Nat → Prop
  | nil : Same [] []
  | cons {c d cs ds} : sameRow c d → Same cs ds → Same (c :: cs) (d :: ds)
theorem Same.room : ∀ {a b}, Same a b → roomL a = roomL b
  | _, _, .nil => rfl
  | _, _, .cons h r => by rw [roomL_cons, roomL_cons, r.room, (same_base h).1]
theorem Same.digs : ∀ {a b}, Same a b → ∀ t, digs a t = digs b t
  | _, _, .nil, _ => rfl
  | _, _, .cons h r, t => by rw [digs_cons, digs_cons, r.digs, r.room, (same_base h).1, (same_base h).2]
theorem Same.length : ∀ {a b}, Same a b → a.length = b.length
  | _, _, .nil => rfl
  | _, _, .cons _ r => congrArg (· + 1) r.length
/-- the sign at a place of its row -/
theorem sign_tab : ∀ c, c < 123 → isA c = true → ∀ j, j < base c → isA (fst0 c + j) = true ∧ isD (fst0 c + j) = isD c ∧ isS (fst0 c + j) = isS c ∧ isL (fst0 c + j) = isL c ∧ idx (fst0 c + j) = j := by decide +kernel
theorem digs_same : ∀ {l : List Nat}, (∀ c ∈ l, isA c = true) → ∀ t, Same (digs l t) l ∧ (∀ c ∈ digs l t, isA c = true) ∧ ((digs l t).map isL = l.map isL)
  | [], _, t => ⟨.nil, (fun c hc => by rw [digs_nil] at hc; exact nomatch hc), rfl⟩
  | c :: r, h, t => by
    have hc := h c (.head _)
    have hb := base_pos c
    have hj : ((t / roomL r) % (base c : Int)).toNat < base c := by
      have h1 := Int.emod_nonneg (t / roomL r) (show (base c : Int) ≠ 0 by omega)
      have h2 := Int.emod_lt_of_pos (t / roomL r) hb
      omega
    obtain ⟨h1, h2, h3, h4, _⟩ := sign_tab c (isA_lt hc) hc _ hj
    obtain ⟨i1, i2, i3⟩ := digs_same (l := r) (fun d hd => h d (.tail _ hd)) t
    rw [digs_cons]
    refine ⟨.cons ⟨h2, h3⟩ i1, fun d hd => ?_, ?_⟩
    · rcases List.mem_cons.mp hd with rfl | hd
      · exact h1
      · exact i2 d hd
    · rw [List.map_cons, List.map_cons, i3, h4]
theorem digs_val : ∀ {l : List Nat}, (∀ c ∈ l, isA c = true) → ∀ t, 0 ≤ t → t < roomL l → valL (digs l t) = t
  | [], _, t, h0, h1 => by
    have : roomL [] = 1 := rfl
    rw [this] at h1
    show (0 : Int) = t
    omega
  | c :: r, h, t, h0, h1 => by
    have hc := h c (.head _)
    have hb := base_pos c
    have hr := room_pos r
    have hr' : ∀ d ∈ r, isA d = true := fun d hd => h d (.tail _ hd)
    rw [roomL_cons] at h1
    have hq0 : 0 ≤ t / roomL r := Int.ediv_nonneg h0 (by omega)
    have hq1 : t / roomL r < base c := Int.ediv_lt_of_lt_mul hr h1
    have em : (t / roomL r) % (base c : Int) = t / roomL r := Int.emod_eq_of_lt hq0 hq1
    have hj : ((t / roomL r) % (base c : Int)).toNat < base c := by rw [em]; omega
    obtain ⟨_, _, _, _, h5⟩ := sign_tab c (isA_lt hc) hc _ hj
    rw [digs_cons, valL_cons, h5, (digs_same hr' t).1.room]
    have ht : t = t % roomL r + (t / roomL r) * roomL r := by
      have := Int.emod_add_mul_ediv t (roomL r)
      rw [Int.mul_comm (roomL r)] at this
      omega
    have hd : digs r t = digs r (t % roomL r) := by
      have := digs_turn r (t % roomL r) (t / roomL r)
      rw [← ht] at this
      exact this
    rw [hd, digs_val hr' _ (Int.emod_nonneg _ (by omega)) (Int.emod_lt_of_pos _ hr), em, Int.toNat_of_nonneg hq0]
    omega
theorem digs_self : ∀ {l : List Nat}, (∀ c ∈ l, isA c = true) → digs l (valL l) = l
  | [], _ => rfl
  | c :: r, h => by
    have hc := h c (.head _)
    have hr := room_pos r
    have hr' : ∀ d ∈ r, isA d = true := fun d hd => h d (.tail _ hd)
    have hv := val_in hr'
    obtain ⟨_, h2, h3, _, _, h6⟩ := row_tab c (isA_lt hc) hc
    rw [digs_cons, valL_cons]
    have e1 : ((idx c : Int) * roomL r + valL r) / roomL r = (idx c : Int) := by
      rw [Int.add_comm, Int.add_mul_ediv_right _ _ (by omega), Int.ediv_eq_zero_of_lt hv.1 hv.2, Int.zero_add]
    have e2 : (idx c : Int) % (base c : Int) = (idx c : Int) := Int.emod_eq_of_lt (by omega) (by rw [h3] at h2; omega)
    have e3 : digs r ((idx c : Int) * roomL r + valL r) = digs r (valL r) := by rw [Int.add_comm]; exact digs_turn r _ _
    rw [e1, e2, e3, digs_self hr', Int.toNat_natCast, h6]
/-- one step on signs is one step on numbers -/
theorem incC_val : ∀ {l : List Nat}, (∀ c ∈ l, isA c = true) → (valL l + 1 < roomL l ∧ incC l = (false, digs l (valL l + 1))) ∨ (valL l + 1 = roomL l ∧ incC l = (true, digs l 0))
  | [], _ => .inr ⟨rfl, rfl⟩
  | c :: r, h => by
    have hc := h c (.head _)
    have hr := room_pos r
    have hb := base_pos c
    have hr' : ∀ d ∈ r, isA d = true := fun d hd => h d (.tail _ hd)
    have hv := val_in hr'
    obtain ⟨_, h2, h3, _, h5, h6⟩ := row_tab c (isA_lt hc) hc
    rw [h3] at h2
    have hi : (idx c : Int) + 1 ≤ base c := by omega
    have hmul : ((idx c : Int) + 1) * roomL r ≤ (base c : Int) * roomL r := Int.mul_le_mul_of_nonneg_right hi (by omega)
    rw [Int.add_mul, Int.one_mul] at hmul
    unfold incC
    rw [valL_cons, roomL_cons]
    rcases incC_val hr' with ⟨h7, h8⟩ | ⟨h7, h8⟩
    · left
      rw [h8, if_neg Bool.false_ne_true]
      refine ⟨by omega, ?_⟩
      rw [digs_cons]
      have e1 : ((idx c : Int) * roomL r + valL r + 1) / roomL r = (idx c : Int) := by
        rw [Int.add_assoc, Int.add_comm, Int.add_mul_ediv_right _ _ (by omega), Int.ediv_eq_zero_of_lt (by omega) h7, Int.zero_add]
      have e2 : (idx c : Int) % (base c : Int) = (idx c : Int) := Int.emod_eq_of_lt (by omega) (by omega)
      have e3 : digs r ((idx c : Int) * roomL r + valL r + 1) = digs r (valL r + 1) := by
        rw [Int.add_assoc, Int.add_comm]; exact digs_turn r _ _
      rw [e1, e2, e3, Int.toNat_natCast, h6]
    · rw [h8, if_pos rfl]
      have e0 : (idx c : Int) * roomL r + valL r + 1 = ((idx c : Int) + 1) * roomL r := by rw [Int.add_mul, Int.one_mul]; omega
      by_cases hl : isLast c = true
      · right
        rw [if_pos hl]
        rw [hl] at h5
        have h9 : idx c + 1 = base c := of_decide_eq_true h5.symm
        refine ⟨?_, ?_⟩
        · rw [e0, ← h9]
          rfl
        · rw [digs_cons, Int.zero_ediv, Int.zero_emod]
          rfl
      · left
        rw [if_neg hl]
        have hl' : isLast c = false := by simpa using hl
        rw [hl'] at h5
        have h9 : idx c + 1 ≠ base c := of_decide_eq_false h5.symm
        have h10 : (idx c : Int) + 1 < base c := by omega
        refine ⟨?_, ?_⟩
        · rw [e0]
          exact Int.mul_lt_mul_of_pos_right h10 hr
        · rw [e0, digs_cons, Int.mul_ediv_cancel _ (by omega), Int.emod_eq_of_lt (by omega) h10]
          have e3 : digs r (((idx c : Int) + 1) * roomL r) = digs r 0 := by
            have := digs_turn r 0 ((idx c : Int) + 1)
            rw [Int.zero_add] at this; exact this
          rw [e3]
          have e4 : ((idx c : Int) + 1).toNat = idx c + 1 := by omega
          rw [e4, ← Nat.add_assoc, h6]
def wfL (l : List Nat) : Prop := ∃ a b, l = a ++ b ∧ a ≠ [] ∧ (∀ c ∈ a, isL c = true) ∧ ∀ c ∈ b, isD c = true
theorem wfL_of {x : Str} (h : magicB x = true) : wfL (cs x) := magic_wf h
theorem magic_ofL {x : Str} (h : wfL (cs x)) : magicB x = true := by
  obtain ⟨a, b, h1, h2, h3, h4⟩ := h
  exact wf2_magic (j := b.length) ⟨a, b, h1, h2, rfl, h3, h4⟩
theorem wfL_all {l : List Nat} (h : wfL l) : ∀ c ∈ l, isA c = true := by
  obtain ⟨a, b, h1, _, h3, h4⟩ := h
  intro c hc
  rw [h1] at hc
  unfold isA
  rw [Bool.or_eq_true]
  rcases List.mem_append.mp hc with hc | hc
  · exact .inl (h3 c hc)
  · exact .inr (h4 c hc)
theorem wfL_head {l : List Nat} (h : wfL l) : ∃ c r, l = c :: r ∧ isL c = true := by
  obtain ⟨a, b, h1, h2, h3, _⟩ := h
  cases a with
  | nil => exact absurd rfl h2
  | cons c a => exact ⟨c, a ++ b, h1, h3 c (.head _)⟩
theorem wfL_cons {l : List Nat} {c : Nat} (h : wfL l) (hc : isL c = true) : wfL (c :: l) := by
  obtain ⟨a, b, h1, h2, h3, h4⟩ := h
  refine ⟨c :: a, b, by rw [h1]; rfl, by simp, fun d hd => ?_, h4⟩
  rcases List.mem_cons.mp hd with rfl | hd
  · exact hc
  · exact h3 d hd
theorem wfL_map {l l' : List Nat} (h : wfL l) (hm : l'.map isL = l.map isL) (ha : ∀ c ∈ l', isA c = true) : wfL l' := by
  obtain ⟨a, b, h1, h2, h3, h4⟩ := h
  rw [h1, List.map_append] at hm
  obtain ⟨l1, l2, e, e1, e2⟩ := List.map_eq_append_iff.mp hm
  refine ⟨l1, l2, e, fun e0 => ?_, fun c hc => ?_, fun c hc => ?_⟩
  · rw [e0] at e1
    exact h2 (List.map_eq_nil_iff.mp e1.symm)
  · have : isL c ∈ l1.map isL := List.mem_map_of_mem hc
    rw [e1] at this
    obtain ⟨d, hd, e3⟩ := List.mem_map.mp this
    rw [← e3]; exact h3 d hd
  · have : isL c ∈ l2.map isL := List.mem_map_of_mem hc
    rw [e2] at this
    obtain ⟨d, hd, e3⟩ := List.mem_map.mp this
    have hn : isL c = false := by rw [← e3]; exact isD_notL (h4 d hd)
    have hA := ha c (by rw [e]; exact List.mem_append_right _ hc)
    unfold isA at hA
    rw [hn, Bool.false_or] at hA
    exact hA
theorem wfL_digs {l : List Nat} (h : wfL l) (t : Int) : wfL (digs l t) := by
  obtain ⟨_, h2, h3⟩ := digs_same (wfL_all h) t
  exact wfL_map h h3 h2
theorem digs_len (l : List Nat) (t : Int) : (digs l t).length = l.length := by
  induction l with
  | nil => rfl
  | cons c r ih => rw [digs_cons, List.length_cons, List.length_cons, ih]
theorem digs_zero_cons (c : Nat) (l : List Nat) : digs (c :: l) 0 = fst0 c :: digs l 0 := by
  rw [digs_cons, Int.zero_ediv, Int.zero_emod]; rfl
theorem isL_base {c : Nat} (h : isL c = true) : base c = 26 := by
  unfold base
  rw [isL_notD h, if_neg Bool.false_ne_true]
/-- one step, by its number -/
theorem incL_val {l : List Nat} {c : Nat} {r : List Nat} (h : wfL l) (hl : l = c :: r) (hc : isL c = true) :
    (valL l + 1 < roomL l ∧ incL l = digs l (valL l + 1)) ∨ (valL l + 1 = roomL l ∧ incL l = digs (c :: l) 0) := by
  rcases incC_val (wfL_all h) with ⟨h1, h2⟩ | ⟨h1, h2⟩
  · left
    refine ⟨h1, ?_⟩
    unfold incL
    rw [h2, if_neg (by exact Bool.false_ne_true)]
  · right
    refine ⟨h1, ?_⟩
    unfold incL
    rw [h2, if_pos rfl, digs_zero_cons, hl]
    show (if isD c then 49 else fst0 c) :: _ = _
    rw [if_neg (by rw [isL_notD hc]; exact Bool.false_ne_true)]
theorem incL_digs {l : List Nat} {c : Nat} {r : List Nat} (h : wfL l) (hl : l = c :: r) (hc : isL c = true) {t : Int} (h0 : 0 ≤ t) (h1 : t < roomL l) :
    incL (digs l t) = if t + 1 < roomL l then digs l (t + 1) else digs (c :: l) 0 := by
  have hA := wfL_all h
  obtain ⟨s1, _, s3⟩ := digs_same hA t
  have hw := wfL_digs h t
  obtain ⟨c', r', e, hc'⟩ := wfL_head hw
  have hv := digs_val hA t h0 h1
  have hr := s1.room
  rcases incL_val hw e hc' with ⟨h2, h3⟩ | ⟨h2, h3⟩
  · rw [hv, hr] at h2
    rw [if_pos h2, h3, hv, s1.digs]
  · rw [hv, hr] at h2
    rw [if_neg (by omega), h3, digs_zero_cons, digs_zero_cons, s1.digs]
    congr 1
    rw [e, hl] at s1
    cases s1 with
    | cons a _ => exact (same_base a).2
theorem behind_succ {l : List Nat} (h : wfL l) {k : Int} (h0 : 0 ≤ k) (h1 : k ≤ 100) : incL (behindL l k) = behindL l (k + 1) := by
  obtain ⟨c, r, hl, hc⟩ := wfL_head h
  have hA := wfL_all h
  have hv := val_in hA
  have hh : l.headD 0 = c := by rw [hl]; rfl
  unfold behindL
  rw [hh]
  by_cases h2 : valL l + k < roomL l
  · rw [if_pos h2, incL_digs h hl hc (by omega) h2]
    by_cases h3 : valL l + k + 1 < roomL l
    · rw [if_pos h3, if_pos (by omega), Int.add_assoc]
    · rw [if_neg h3, if_neg (by omega)]
      congr 1
      omega
  · rw [if_neg h2, if_neg (by omega)]
    have hr : 10 ≤ roomL l := room_ge (by rw [hl]; simp)
    have hr2 : roomL (c :: l) = 26 * roomL l := by rw [roomL_cons, isL_base hc]; rfl
    have hk : valL l + k - roomL l + 1 < roomL (c :: l) := by omega
    rw [incL_digs (wfL_cons h hc) rfl hc (by omega) (by omega), if_pos hk]
    congr 1
    omega
theorem behind_zero {l : List Nat} (h : wfL l) : behindL l 0 = l := by
  have hv := val_in (wfL_all h)
  unfold behindL
  rw [Int.add_zero, if_pos hv.2, digs_self (wfL_all h)]
theorem incL_wf {l : List Nat} (h : wfL l) : wfL (incL l) ∧ ((incL l).length = l.length ∨ (incL l).length = l.length + 1) := by
  obtain ⟨c, r, hl, hc⟩ := wfL_head h
  rcases incL_val h hl hc with ⟨_, e⟩ | ⟨_, e⟩
  · rw [e]
    exact ⟨wfL_digs h _, .inl (digs_len _ _)⟩
  · rw [e]
    exact ⟨wfL_digs (wfL_cons h hc) _, .inr (by rw [digs_len]; rfl)⟩
/-- a list's places, from the first on, are less -/
inductive LexI : List Int → List Int → Prop
  | head {a b x y} : a < b → LexI (a :: x) (b :: y)
  | tail {a x y} : LexI x y → LexI (a :: x) (a :: y)
theorem lex_val : ∀ {a b : List Nat}, Same a b → (∀ c ∈ a, isA c = true) → (∀ c ∈ b, isA c = true) → valL a < valL b → LexI (a.map fun c => (idx c : Int)) (b.map fun c => (idx c : Int))
  | _, _, .nil, _, _, h => absurd h (by decide)
  | c :: r, d :: q, .cons hr hs, ha, hb, h => by
    have h1 := val_in (l := r) fun e he => ha e (.tail _ he)
    have h2 := val_in (l := q) fun e he => hb e (.tail _ he)
    rw [valL_cons, valL_cons, hs.room] at h
    rw [hs.room] at h1
    have hR := room_pos q
    by_cases e1 : (idx c : Int) < idx d
    · exact .head e1
    · by_cases e2 : (idx c : Int) = idx d
      · rw [List.map_cons, List.map_cons, e2]
        refine .tail (lex_val hs (fun e he => ha e (.tail _ he)) (fun e he => hb e (.tail _ he)) ?_)
        rw [e2] at h
        omega
      · exfalso
        have h3 : (idx d : Int) + 1 ≤ idx c := by omega
        have h4 := Int.mul_le_mul_of_nonneg_right h3 (Int.le_of_lt hR)
        rw [Int.add_mul, Int.one_mul] at h4
        omega
theorem Same.symm : ∀ {a b}, Same a b → Same b a
  | _, _, .nil => .nil
  | _, _, .cons h r => .cons ⟨h.1.symm, h.2.symm⟩ r.symm
theorem incL_lex {l : List Nat} (h : wfL l) (he : (incL l).length = l.length) : LexI (l.map fun c => (idx c : Int)) ((incL l).map fun c => (idx c : Int)) := by
  obtain ⟨c, r, hl, hc⟩ := wfL_head h
  have hA := wfL_all h
  have hv := val_in hA
  rcases incL_val h hl hc with ⟨h1, e⟩ | ⟨_, e⟩
  · rw [e]
    obtain ⟨s1, s2, _⟩ := digs_same hA (valL l + 1)
    refine lex_val s1.symm hA s2 ?_
    rw [digs_val hA _ (by omega) h1]
    omega
  · rw [e, digs_len, List.length_cons] at he
    omega
/-! ### upon texts -/
theorem incS_magic {x : Str} (h : magicB x = true) : magicB (incS x) = true := magic_ofL (by unfold incS; rw [cs_T]; exact (incL_wf (wfL_of h)).1)
theorem incS_len {x : Str} (h : magicB x = true) : (incS x).length = x.length ∨ (incS x).length = x.length + 1 := by
  unfold incS
  rw [T_len, ← cs_len x]
  exact (incL_wf (wfL_of h)).2
theorem incS_lex {x : Str} (h : magicB x = true) (he : (incS x).length = x.length) : LexI ((cs x).map fun c => (idx c : Int)) ((cs (incS x)).map fun c => (idx c : Int)) := by
  unfold incS at he ⊢
  rw [T_len, ← cs_len x] at he
  rw [cs_T]
  exact incL_lex (wfL_of h) he
theorem behS_zero {x : Str} (h : magicB x = true) : behindS x 0 = x := by
  unfold behindS
  rw [behind_zero (wfL_of h), T_cs]
theorem behS_succ {x : Str} {k : Int} (h : magicB x = true) (h0 : 0 ≤ k) (h1 : k ≤ 100) : incS (behindS x k) = behindS x (k + 1) := by
  unfold behindS incS
  rw [cs_T, behind_succ (wfL_of h) h0 h1]
end PartMt
section PartCl
open PySem PySem.W PyProof.Rows PySem.Calls PySem.Spec
open PySem.MeetsSeq PySem.MeetsSeq2 PySem.MeetsSeq3 PySem.SeqAt
set_option maxRecDepth 100000
theorem le_loopAt (l b : Addr) (items items2 : Array Value) (n n2 : Nat) (dd dd2 : Option Addr) (sl sl2 : Array (Option Value)) :
    ∀ (B A' : List Int), LexI B A' → ∀ (i : Nat), IntsAre (items.toList.drop i) A' → IntsAre (items2.toList.drop i) B → Meets (Builtin.«list.__eq__.loop» ⟨[.ref l, .ref b, rawInt i, rawInt 1], []⟩)
      (fun _ R s => s.heap.get? l = some { cls := .type "list", dict := dd, data := .seq items n, slots := sl } ∧ s.heap.get? b = some { cls := .type "list", dict := dd2, data := .seq items2 n2, slots := sl2 } ∧
        R (.ok (.ret (.bool false))) s) := by
  intro B A' hL
  induction hL with
  | @head a c x y hac =>
    intro i h1 h2 prog w A R s h
    obtain ⟨hp, g, d, tk, os⟩ := s; obtain ⟨hl, hb, h⟩ := h
    generalize e1 : items.toList.drop i = q1 at h1
    generalize e2 : items2.toList.drop i = q2 at h2
    cases h1 with | cons _ t1 _ =>
    cases h2 with | cons _ t2 _ =>
    have hi1 : items[((i : Nat) : Int).toNat]? = some (.int c t1) := by
      have := congrArg (fun l => l[0]?) e1
      simpa using this
    have hi2 : items2[((i : Nat) : Int).toNat]? = some (.int a t2) := by
      have := congrArg (fun l => l[0]?) e2
      simpa using this
    wp_walk using AutoSeq1.wpAny_loadPart' hl, AutoSeq1.wpAny_loadPart' hb
    rw [hi1, hi2]
    refine wpAny_bind (EqGives.int c a t1 t2 _ _ _ _ _ _ ?_)
    have hne : (c == a) = false := beq_false_of_ne (by omega)
    rw [hne]
    wp_walk using AutoSeq1.wpAny_loadPart' hl, AutoSeq1.wpAny_loadPart' hb
    rw [hi1, hi2]
    refine wpAny_bind (PyProof.Rows.le_int ?_)
    have hle : decide (c ≤ a) = false := decide_eq_false (by omega)
    rw [hle]
    wp_walk
    exact h
  | @tail a x y hL ih =>
    intro i h1 h2 prog w A R s h
    obtain ⟨hp, g, d, tk, os⟩ := s; obtain ⟨hl, hb, h⟩ := h
    generalize e1 : items.toList.drop i = q1 at h1
    generalize e2 : items2.toList.drop i = q2 at h2
    cases h1 with | cons _ t1 r1 =>
    cases h2 with | cons _ t2 r2 =>
    have hi1 : items[((i : Nat) : Int).toNat]? = some (.int a t1) := by
      have := congrArg (fun l => l[0]?) e1
      simpa using this
    have hi2 : items2[((i : Nat) : Int).toNat]? = some (.int a t2) := by
      have := congrArg (fun l => l[0]?) e2
      simpa using this
    have hd1 := congrArg (List.drop 1) e1
    have hd2 := congrArg (List.drop 1) e2
    rw [List.drop_drop] at hd1 hd2
    have hc : ((i : Int) + 1) = ((i + 1 : Nat) : Int) := by push_cast; rfl
    wp_walk using AutoSeq1.wpAny_loadPart' hl, AutoSeq1.wpAny_loadPart' hb
    rw [hi1, hi2]
    refine wpAny_bind (EqGives.int a a t1 t2 _ _ _ _ _ _ ?_)
    rw [beq_self_eq_true]
    wp_walk
    rw [hc]
    exact ⟨plainId_quiet plain_eq_loop _, codeAny_builtin entry_eq_loop (by
      rw [Around.under_plainId plain_eq_loop _]
      exact ih (i + 1) (by rw [hd1]; exact r1) (by rw [hd2]; exact r2) prog w A R _ ⟨hl, hb, h⟩)⟩
theorem list_leAt (l b : Addr) (items items2 : Array Value) (n n2 : Nat) (dd dd2 : Option Addr) (sl sl2 : Array (Option Value)) {B A' : List Int} (hL : LexI B A') (h1 : IntsAre items.toList A') (h2 : IntsAre items2.toList B) :
    Meets (Builtin.«list.__le__» ⟨[.ref l, .ref b], []⟩)
      (fun _ R s => s.heap.get? l = some { cls := .type "list", dict := dd, data := .seq items n, slots := sl } ∧ s.heap.get? b = some { cls := .type "list", dict := dd2, data := .seq items2 n2, slots := sl2 } ∧
        R (.ok (.ret (.bool false))) s) := by
  intro prog w A R s h
  obtain ⟨hp, g, d, tk, os⟩ := s; obtain ⟨hl, hb, h⟩ := h
  have f3 := AutoSeq1.sub_list_list
  wp_walk using AutoSeq1.wpAny_loadPart' hl, AutoSeq1.wpAny_loadPart' hb
  exact ⟨plainId_quiet plain_eq_loop _, codeAny_builtin entry_eq_loop (by
    rw [Around.under_plainId plain_eq_loop _]
    exact le_loopAt l b items items2 n n2 dd dd2 sl sl2 _ _ hL 0 h1 h2 prog w A R _ ⟨hl, hb, h⟩)⟩
theorem le_lists {prog : Program} {w : World} {A : Around} {E : Value → Shared → Prop} {s : Shared} {l b : Addr} {xs ys : List Value} {B A' : List Int} {Q : Value → Shared → Prop} {h₀ : Heap} {L : Addr} {news : List (Addr × Obj)}
    (N : News h₀ L s.heap news) (hl : (l, LCg.lst xs) ∈ news) (hb : (b, LCg.lst ys) ∈ news) (h1 : IntsAre xs A') (h2 : IntsAre ys B) (hL : LexI B A') (hu : A.units < cLine) (h : Q (.bool false) s) : wpAny (model prog w) A (compareOp .LtE (.ref l) (.ref b)) Q E s := by
  have g1 := (N _ hl).1
  have g2 := (N _ hb).1
  show wpAny _ _ (richCompare .LtE (.ref l) (.ref b)) Q E s
  exact richCompare_meets_room (op := .LtE) ⟨_, g1, rfl⟩ ⟨_, g2, rfl⟩ F.slot_list_le F.entry_list_le (F.args_list_le_2 _ _) (list_leAt l b xs.toArray ys.toArray _ _ _ _ _ _ hL h1 h2)
    ⟨g1, g2, show Value.bool false ≠ Value.notImplemented ∧ Q (.bool false) s from ⟨(fun x => nomatch x), h⟩⟩ hu
end PartCl
section PartCb
theorem fillK : (PySem.Challenge.rw_nz0177_01.prog, Mine.hd.heap_39) = (PySem.Challenge.rw_nz0177_01.prog, Mine.hd.heap_39) := by
  k_fill
  rfl
/-- a call of the def at f hands back R, at most d frames deep; what stood stands -/
def Claim (w : World) (f : Addr) (d : Nat) (vs : List Value) (R : Tok → Value) : Prop :=
  ∀ (news : List (Addr × Obj)) (p : Program) (loose : List Str) (mean : ExcName → Option Value) (mg mb : Str → Option Value)
    (dp un : Nat) (gd : Option (List Code)) (cn : Str) (cs : Scope) (a : Addr) (ccd : Value) (cl : List (Str × Addr)) (outer : List Env) (A₀ : Around) (base h₀ : Heap) (L : Addr) (m : Str → Option Value) (s : Shared) (Q E : Value → Shared → Prop),
    Below A₀ base outer h₀ → Fr h₀ L s.heap m → (hd.heap_39 w.params).In h₀ → News h₀ L s.heap news → Top p loose mean mg mb h₀ → cs.kind = .function →
    dp + d < recursionLimit → un + 8 * d < cLine → CbRet h₀ L m news s Q R →
      wpAny (model PySem.Challenge.rw_nz0177_01.row.prog w) (ktrTop dp un gd cn cs L a ccd cl outer) (call (.ref f) vs) Q E s
theorem Claim.use {w : World} {f : Addr} {d : Nat} {vs : List Value} {R : Tok → Value} (C : Claim w f d vs R)
    {news : List (Addr × Obj)} {p : Program} {loose : List Str} {mean : ExcName → Option Value} {mg mb : Str → Option Value}
    {dp un : Nat} {gd : Option (List Code)} {cn : Str} {cs : Scope} {a : Addr} {ccd : Value} {cl : List (Str × Addr)} {outer : List Env} {A₀ : Around} {base h₀ : Heap} {L : Addr} {m : Str → Option Value} {s : Shared} {Q E : Value → Shared → Prop}
    (B : Below A₀ base outer h₀) (F : Fr h₀ L s.heap m) (X : (hd.heap_39 w.params).In h₀) (N : News h₀ L s.heap news) (T : Top p loose mean mg mb h₀) (hk : cs.kind = .function)
    (hd : dp + d < recursionLimit) (hu : un + 8 * d < cLine) (ret : CbRet h₀ L m news s Q R) :
      wpAny (model PySem.Challenge.rw_nz0177_01.row.prog w) (ktrTop dp un gd cn cs L a ccd cl outer) (call (.ref f) vs) Q E s :=
  C _ _ _ _ _ _ _ _ _ _ _ _ _ _ _ _ _ _ _ _ _ _ _ B F X N T hk hd hu ret
/-- a call of the def at f hands back a new object that bears R -/
def ClaimO (w : World) (f : Addr) (d : Nat) (vs : List Value) (R : Obj → Prop) : Prop :=
  ∀ (news : List (Addr × Obj)) (p : Program) (loose : List Str) (mean : ExcName → Option Value) (mg mb : Str → Option Value)
    (dp un : Nat) (gd : Option (List Code)) (cn : Str) (cs : Scope) (a : Addr) (ccd : Value) (cl : List (Str × Addr)) (outer : List Env) (A₀ : Around) (base h₀ : Heap) (L : Addr) (m : Str → Option Value) (s : Shared) (Q E : Value → Shared → Prop),
    Below A₀ base outer h₀ → Fr h₀ L s.heap m → (hd.heap_39 w.params).In h₀ → News h₀ L s.heap news → Top p loose mean mg mb h₀ → cs.kind = .function →
    dp + d < recursionLimit → un + 8 * d < cLine →
    (∀ (y : Addr) (o : Obj) (h' : Heap) (tk' : Nat), R o → (∀ q ∈ news, q.1 ≠ y) → Fr h₀ L h' m → News h₀ L h' ((y, o) :: news) → Q (.ref y) { s with heap := h', toks := tk' }) →
      wpAny (model PySem.Challenge.rw_nz0177_01.row.prog w) (ktrTop dp un gd cn cs L a ccd cl outer) (call (.ref f) vs) Q E s
theorem ClaimO.use {w : World} {f : Addr} {d : Nat} {vs : List Value} {R : Obj → Prop} (C : ClaimO w f d vs R)
    {news : List (Addr × Obj)} {p : Program} {loose : List Str} {mean : ExcName → Option Value} {mg mb : Str → Option Value}
    {dp un : Nat} {gd : Option (List Code)} {cn : Str} {cs : Scope} {a : Addr} {ccd : Value} {cl : List (Str × Addr)} {outer : List Env} {A₀ : Around} {base h₀ : Heap} {L : Addr} {m : Str → Option Value} {s : Shared} {Q E : Value → Shared → Prop}
    (B : Below A₀ base outer h₀) (F : Fr h₀ L s.heap m) (X : (hd.heap_39 w.params).In h₀) (N : News h₀ L s.heap news) (T : Top p loose mean mg mb h₀) (hk : cs.kind = .function)
    (hd : dp + d < recursionLimit) (hu : un + 8 * d < cLine)
    (ret : ∀ (y : Addr) (o : Obj) (h' : Heap) (tk' : Nat), R o → (∀ q ∈ news, q.1 ≠ y) → Fr h₀ L h' m → News h₀ L h' ((y, o) :: news) → Q (.ref y) { s with heap := h', toks := tk' }) :
      wpAny (model PySem.Challenge.rw_nz0177_01.row.prog w) (ktrTop dp un gd cn cs L a ccd cl outer) (call (.ref f) vs) Q E s :=
  C _ _ _ _ _ _ _ _ _ _ _ _ _ _ _ _ _ _ _ _ _ _ _ B F X N T hk hd hu ret
def pairObj (a b : Int) (o : Obj) : Prop := ∃ t u, o = { cls := .type "tuple", data := .seq #[.int a t, .int b u] }
theorem pair_mk {a b a' b' : Int} {t u : Tok} (h1 : a = a') (h2 : b = b') : pairObj a' b' { cls := .type "tuple", data := .seq #[.int a t, .int b u] } := by subst h1; subst h2; exact ⟨t, u, rfl⟩
theorem news_tail {h₀ h : Heap} {L : Addr} {q : Addr × Obj} {news : List (Addr × Obj)} (N : News h₀ L h (q :: news)) : News h₀ L h news := fun p hp => N p (.tail _ hp)
theorem lt_ne {news : List (Addr × Obj)} {y : Addr} (h : ∀ q ∈ news, q.1 < y) : ∀ q ∈ news, q.1 ≠ y := fun q hq => Nat.ne_of_lt (h q hq)
/-- a call of the def at f hands back R, where the ledger bears Pn -/
def ClaimN (w : World) (f : Addr) (d : Nat) (vs : List Value) (Pn : List (Addr × Obj) → Prop) (R : Tok → Value) : Prop :=
  ∀ (news : List (Addr × Obj)) (p : Program) (loose : List Str) (mean : ExcName → Option Value) (mg mb : Str → Option Value)
    (dp un : Nat) (gd : Option (List Code)) (cn : Str) (cs : Scope) (a : Addr) (ccd : Value) (cl : List (Str × Addr)) (outer : List Env) (A₀ : Around) (base h₀ : Heap) (L : Addr) (m : Str → Option Value) (s : Shared) (Q E : Value → Shared → Prop),
    Pn news → Below A₀ base outer h₀ → Fr h₀ L s.heap m → (hd.heap_39 w.params).In h₀ → News h₀ L s.heap news → Top p loose mean mg mb h₀ → cs.kind = .function →
    dp + d < recursionLimit → un + 8 * d < cLine → CbRet h₀ L m news s Q R →
      wpAny (model PySem.Challenge.rw_nz0177_01.row.prog w) (ktrTop dp un gd cn cs L a ccd cl outer) (call (.ref f) vs) Q E s
theorem ClaimN.use {w : World} {f : Addr} {d : Nat} {vs : List Value} {Pn : List (Addr × Obj) → Prop} {R : Tok → Value} (C : ClaimN w f d vs Pn R)
    {news : List (Addr × Obj)} {p : Program} {loose : List Str} {mean : ExcName → Option Value} {mg mb : Str → Option Value}
    {dp un : Nat} {gd : Option (List Code)} {cn : Str} {cs : Scope} {a : Addr} {ccd : Value} {cl : List (Str × Addr)} {outer : List Env} {A₀ : Around} {base h₀ : Heap} {L : Addr} {m : Str → Option Value} {s : Shared} {Q E : Value → Shared → Prop}
    (B : Below A₀ base outer h₀) (F : Fr h₀ L s.heap m) (X : (hd.heap_39 w.params).In h₀) (N : News h₀ L s.heap news) (T : Top p loose mean mg mb h₀) (hk : cs.kind = .function)
    (hd : dp + d < recursionLimit) (hu : un + 8 * d < cLine) (hP : Pn news) (ret : CbRet h₀ L m news s Q R) :
      wpAny (model PySem.Challenge.rw_nz0177_01.row.prog w) (ktrTop dp un gd cn cs L a ccd cl outer) (call (.ref f) vs) Q E s :=
  C _ _ _ _ _ _ _ _ _ _ _ _ _ _ _ _ _ _ _ _ _ _ _ hP B F X N T hk hd hu ret
abbrev limD (h1 h2 h3 h4 h5 : Int) (k1 k2 k3 k4 k5 t1 : Tok) (v2 v3 v4 v5 : Value) : Obj :=
  dictOf [⟨h1, .str (Str.ofString "width") k1, .int 64 t1⟩, ⟨h2, .str (Str.ofString "depth") k2, v2⟩, ⟨h3, .str (Str.ofString "steps") k3, v3⟩, ⟨h4, .str (Str.ofString "text") k4, v4⟩, ⟨h5, .str (Str.ofString "items") k5, v5⟩] 5
/-- a Limits object stands at lx -/
def LimIn (lx : Addr) (news : List (Addr × Obj)) : Prop :=
  ∃ (ld : Addr) (h1 h2 h3 h4 h5 : Int) (k1 k2 k3 k4 k5 t1 : Tok) (v2 v3 v4 v5 : Value), (lx, instObj 117 ld) ∈ news ∧ (ld, limD h1 h2 h3 h4 h5 k1 k2 k3 k4 k5 t1 v2 v3 v4 v5) ∈ news
/-- a call of the def at f that reads the script hands back a value that bears R -/
def ClaimS (w : World) (f : Addr) (d : Nat) (l : Addr) (us : List Value) (vs : List Value) (R : Value → Prop) : Prop :=
  ∀ (news : List (Addr × Obj)) (p : Program) (loose : List Str) (mean : ExcName → Option Value) (mg mb : Str → Option Value)
    (dp un : Nat) (gd : Option (List Code)) (cn : Str) (cs : Scope) (a : Addr) (ccd : Value) (cl : List (Str × Addr)) (outer : List Env) (A₀ : Around) (base h₀ : Heap) (L : Addr) (m : Str → Option Value) (s : Shared) (Q E : Value → Shared → Prop),
    base.IsList l us.toArray → Below A₀ base outer h₀ → Fr h₀ L s.heap m → (hd.heap_39 w.params).In h₀ → News h₀ L s.heap news → Top p loose mean mg mb h₀ → cs.kind = .function →
    dp + d < recursionLimit → un + 8 * d < cLine → (∀ (v : Value) (h' : Heap) (tk' : Nat), R v → Fr h₀ L h' m → News h₀ L h' news → Q v { s with heap := h', toks := tk' }) →
      wpAny (model PySem.Challenge.rw_nz0177_01.row.prog w) (ktrTop dp un gd cn cs L a ccd cl outer) (call (.ref f) vs) Q E s
theorem ClaimS.use {w : World} {f : Addr} {d : Nat} {l : Addr} {us : List Value} {vs : List Value} {R : Value → Prop} (C : ClaimS w f d l us vs R)
    {news : List (Addr × Obj)} {p : Program} {loose : List Str} {mean : ExcName → Option Value} {mg mb : Str → Option Value}
    {dp un : Nat} {gd : Option (List Code)} {cn : Str} {cs : Scope} {a : Addr} {ccd : Value} {cl : List (Str × Addr)} {outer : List Env} {A₀ : Around} {base h₀ : Heap} {L : Addr} {m : Str → Option Value} {s : Shared} {Q E : Value → Shared → Prop}
    (B : Below A₀ base outer h₀) (F : Fr h₀ L s.heap m) (X : (hd.heap_39 w.params).In h₀) (N : News h₀ L s.heap news) (T : Top p loose mean mg mb h₀) (hk : cs.kind = .function)
    (hd : dp + d < recursionLimit) (hu : un + 8 * d < cLine) (hl : base.IsList l us.toArray) (ret : ∀ (v : Value) (h' : Heap) (tk' : Nat), R v → Fr h₀ L h' m → News h₀ L h' news → Q v { s with heap := h', toks := tk' }) :
      wpAny (model PySem.Challenge.rw_nz0177_01.row.prog w) (ktrTop dp un gd cn cs L a ccd cl outer) (call (.ref f) vs) Q E s :=
  C _ _ _ _ _ _ _ _ _ _ _ _ _ _ _ _ _ _ _ _ _ _ _ hl B F X N T hk hd hu ret
def inRange (b : Int) (v : Value) : Prop := ∃ r t, v = .int r t ∧ 0 ≤ r ∧ r < b
theorem in_fmod {x b : Int} {t : Tok} (h : 0 < b) : inRange b (.int (x.fmod b) t) :=
  ⟨_, _, rfl, by rw [Int.fmod_eq_emod_of_nonneg _ (by omega)]; exact Int.emod_nonneg _ (by omega), by rw [Int.fmod_eq_emod_of_nonneg _ (by omega)]; exact Int.emod_lt_of_pos _ h⟩
end PartCb
section PartC9
set_option maxRecDepth 100000 in
set_option maxHeartbeats 8000000 in
theorem c_take (w : World) (l : Addr) (us : List Value) (ns : List Int) (hI : IntsAre us ns) (hn : ns.length ≤ 63) (a b : Int) (t u : Tok) (h0 : 0 ≤ a) (h1 : a ≤ 100) (h2 : 0 < b) (h3 : b ≤ 1000) : ClaimS w 128 1 l us [.ref l, .int a t, .int b u] (inRange b) := by
  k_with_none
  w_top off
  unfold ClaimS
  intros; rename_i hret
  refine wpAny_call ?_
  k_dflt cell_enter
  k_steps
  all_goals exact hret _ _ _ (in_fmod h2) (by assumption) (by assumption)
local macro_rules | `(tactic| walk_at "eval Call") => `(tactic| (k_here; (with_reducible show wpAny _ _ (eval (PySem.Expr.Call (PySem.Expr.Name _ _) _ [] _) _) _ _ _); k_dflt (refine Call_ ?_)))
local macro_rules | `(tactic| walk_at "call ref") => `(tactic| (k_here; (with_reducible show wpAny _ _ (call (Value.ref 128) [Value.ref _, Value.int _ _, Value.int _ _]) _ _ _); k_dflt (refine' ClaimS.use (c_take _ _ _ _ ?k6 ?k7 _ _ _ _ ?q0 ?q1 ?q2 ?q3) ?k1 ?k2 ?k3 ?k4 ?k5 ?kK ?kd ?ku ?kl ?_; (case k6 => assumption); (case k7 => assumption); (case q0 => omega); (case q1 => omega); (case q2 => omega); (case q3 => omega); (case k1 => k_asm); (case k2 => k_asm); (case k3 => k_asm); (case k4 => k_asm); (case k5 => k_asm); (case kK => first | exact rfl | assumption); (case kd => ktr_room); (case ku => ktr_units); (case kl => assumption); k_whole); intro v9 h9 tk9 hR9 F9 N9; k_dflt (obtain ⟨r9, t9, hR9, hr9, hs9⟩ := hR9; subst hR9); (try dsimp only); (try k_fold)))
local macro_rules | `(tactic| walk_at "subscriptTail") => `(tactic| (k_here; (with_reducible show wpAny _ _ (subscriptTail _ _ (Value.str _ _) (Value.int (List.getD [25, 24, _, 25, 23, _] _ _) _)) _ _ _); (refine KXi.item (n := 26) (by kxi_len) (place_lo (by assumption) (by assumption)) (place_in (by assumption) (by assumption)).2 (by decide) ?_); intro kxiE))
set_option maxRecDepth 100000 in
set_option maxHeartbeats 8000000 in
theorem c_text (w : World) (l : Addr) (us : List Value) (ns : List Int) (hI : IntsAre us ns) (hn : ns.length ≤ 63) : ClaimS w 135 2 l us [.ref l] (fun v => ∃ x t, v = .str x t ∧ magicB x = true ∧ x.length ≤ 8) := by
  k_with_none
  w_top off
  k_with "pyIter ref" => k_state (fun pre text => text.length = pre.length ∧ lets text) "text"
  k_with "pyIter ref" => k_state (fun pre text => text.length ≤ 5 + pre.length ∧ wf2 text pre.length) "text"
  k_with "state" => first | with_reducible exact t1_start | with_reducible exact t2_start (by assumption) (by assumption) (by assumption) (by assumption) | with_reducible exact t1_small (by assumption) (by assumption) (by assumption) (by assumption) | with_reducible exact t1_great (by assumption) (by assumption) (by assumption) (by assumption) | with_reducible exact t2_nine (by assumption) (by assumption) | with_reducible exact t2_dig (by assumption) (by assumption) (by assumption) (by assumption)
  unfold ClaimS
  intros; rename_i hret
  refine wpAny_call ?_
  k_dflt cell_enter
  k_steps
  all_goals (
    refine hret _ _ _ ⟨_, _, rfl, ?_⟩ (by assumption) (by first | assumption | exact news_tail (by assumption))
    exact t2_fin (by assumption) (by assumption) (by assumption))
end PartC9
section PartC6
local macro_rules | `(tactic| walk_at "pyIter ref") => `(tactic| ((with_reducible show wpAny _ _ (pyIter (Value.ref _)) (fun it s₂ => LoopAtV _ _ _ _ _ _ _ _ _ it s₂) _ _); (rename Fr _ _ _ _ => lF'); (rename News _ _ _ _ => lN'); (with_unfolding_all refine iter_listUnr (by rfl) lF' lN' (List.Mem.head _) (by rfl) (by rfl) ?_); clear lF'; intro i' l1))
local macro_rules | `(tactic| walk_at "UnrEnd") => `(tactic| ((rename News _ _ _ _ => lN'); (refine UnrEnd.intro (by assumption) lN' _ (fun p hp => hp) (lt_ne (by assumption)) ⟨List.Mem.head _, ?_⟩)))
set_option maxRecDepth 100000 in
set_option maxHeartbeats 8000000 in
theorem c_lrow (w : World) (y : Str) (t : Tok) (hA : alS y) : Claim w 142 1 [.str y t] (fun u => .str (rowS y) u) := by
  k_with_none
  w_top off
  obtain ⟨c, rfl, hc⟩ := hA
  unfold Claim
  dsimp only [CbRet]; intros; rename_i hret
  refine wpAny_call ?_
  k_dflt cell_enter
  k_steps
  all_goals first
    | exact lrow_none hc (by assumption) (by assumption) (by assumption)
    | (refine cb_retS hret ?_ (by assumption) (by first | assumption | exact news_tail (by assumption) | exact news_tail (news_tail (by assumption)))
       first | exact lrow_great (by assumption) (by assumption) | exact lrow_small (by assumption) (by assumption) | exact lrow_dig (by assumption))
end PartC6
section PartCp
open PySem PySem.W PyProof.Rows PySem.Calls PySem.Spec
set_option maxRecDepth 100000
open PyProof.Rows.LCg
section
variable {prog : Program} {w : World} {A : Around} {E : Value → Shared → Prop} {s : Shared} {h₀ : Heap} {L : Addr} {m : Str → Option Value} {env : Env}
/-- a text that a block goes over -/
def SrcT (prog : Program) (w : World) (A : Around) (h₀ : Heap) (L : Addr) (m : Str → Option Value) (env : Env) (elt : PySem.Expr) (x : Str) (scope : Scope) (cl : List (Str × Addr)) (Fin : Shared → List Value → List (Addr × Obj) → Prop) (xv : Value) (s₁ : Shared) : Prop :=
  ∃ (xt : Str) (tx : Tok) (news : List (Addr × Obj)), xv = .str xt tx ∧ A.handled = none ∧ Fr h₀ L s₁.heap m ∧ News h₀ L s₁.heap news ∧ xt.cps.size ≤ sizeLine ∧
    ∀ s₂ : Shared, (∃ h, s₂ = { s₁ with heap := h }) → CompRest prog w A h₀ L m env elt x scope cl s₂ (fun _ => True) (SignAt xt) (Fin s₂) xt.cps.size 0 [] news
theorem walks_same {I : Addr} {n : Nat} {P : Nat → Value → Prop} {St : Nat → Heap → Prop} (W : Walks prog w A I [I] [I] n P St) :
    ∀ i (h h' : Heap) (o : Obj) (nw : List (Addr × Obj)), St i h → h.get? I = some o → h'.get? I = some o → (∀ b o, h₀.get? b = some o → h'.get? b = some o) → News h₀ L h' nw → True → St i h' :=
  fun i h h' o _ st e e' _ _ _ => W.frame i h h' st fun b hb o' eo => by
    rw [List.mem_singleton.mp hb] at eo ⊢
    rw [e] at eo
    rw [e', eo]
theorem iter_T {xt : Str} {tx : Tok} {Q : Value → Shared → Prop}
    (hQ : ∀ (o : Obj) (St : Nat → Heap → Prop), (∀ A' : Around, A'.handled = none → Walks prog w A' s.heap.objs.size [s.heap.objs.size] [s.heap.objs.size] xt.cps.size (SignAt xt) St) → (∀ i h, St i h → ∃ o, h.get? s.heap.objs.size = some o) → St 0 (s.heap.push o) →
      Q (.ref s.heap.objs.size) { s with heap := s.heap.push o }) : wpAny (model prog w) A (pyIter (.str xt tx)) Q E s := by
  cases ha : xt.cps.all (· < 128)
  · exact wpAny_pyIter_wide ha (hQ _ _ (fun A' hA => Walks.strWide hA _ xt tx) (fun i h st => let ⟨o, e, _⟩ := st; ⟨o, e⟩) ⟨_, Heap.get?_push_size _ rfl, rfl, rfl⟩)
  · exact wpAny_pyIter_ascii ha (hQ _ _ (fun A' hA => Walks.strAscii hA _ xt tx) (fun i h st => let ⟨o, e, _⟩ := st; ⟨o, e⟩) ⟨_, Heap.get?_push_size _ rfl, rfl, rfl⟩)
theorem ListComp_T {elt iter : PySem.Expr} {x : Str} {px : Pos} {scope : Scope} {cl : List (Str × Addr)} {pos : Pos} {Q : Value → Shared → Prop} (F₀ : Fr h₀ L s.heap m)
    (hclos : closureFor scope env = pure cl) (hcell : ∀ y ∈ scope.names, y.2 ≠ .cell) (hkind : scope.kind = .function)
    (hnames : ∀ y ∈ scope.names, y.2 = .local → scope.names.lookup y.1 = some .local) (hx : scope.names.lookup x = some .local)
    (h : wpAny (model prog w) A (eval iter env) (SrcT prog w A h₀ L m env elt x scope cl (fun s₂ => FinE h₀ L m s₂ Q)) E s)
    (hs : ∀ x, foldedSetIterable iter env x = pure x := by intro _; rfl) :
    wpAny (model prog w) A (eval (.ListComp elt [⟨.Name x px, iter, [], 0⟩] scope pos) env) Q E s := by
  rw [eval_ListComp]
  refine wpAny_comprehension_free (use := none) rfl hs hclos hkind hnames (wpAny_mono h (fun xv s₁ h₁ => ?_) fun _ _ e => e)
  obtain ⟨xt, tx, news, rfl, hh, F, N, hsz, R⟩ := h₁
  refine iter_T fun o St hW hIo hst => ?_
  refine block_U (hW A hh) hsz hIo (walks_same (hW A hh)) hcell hkind hx hst (fun b hb => ?_)
    (F.keeps fun _ _ e => Heap.get?_push_of_some _ e) (N.grown fun _ _ e => Heap.get?_push_of_some _ e) (Nat.ne_of_lt F.ns.lt) (next_is_new F) (fun p hp => Nat.ne_of_lt (Heap.lt_size (N p hp).1)) trivial (R _ ⟨_, rfl⟩) ?_
  · rw [List.mem_singleton.mp hb]
    show s₁.heap.objs.size < (s₁.heap.push _).objs.size
    rw [Heap.size_push]; exact Nat.lt_succ_self _
  · intro D C h tk m' ys news' F' N' o1 hn hC₀ hD₀ hCL hDL hCD offC fin
    refine ⟨m', hn, fun h'' hs'' => fin D h'' tk (F'.change hs'' hCL hC₀) (fun p hp => ?_) o1⟩
    refine ⟨hs''.extBut _ _ ?_ (N' p hp).1, (N' p hp).2⟩
    rcases List.mem_cons.mp hp with rfl | hp
    · exact Ne.symm hCD
    · exact offC p hp
theorem Assign_ListComp_T {elt iter : PySem.Expr} {x y : Str} {px py : Pos} {scope : Scope} {cl : List (Str × Addr)} {pos spos : Pos} {Q : Flow → Shared → Prop} (F₀ : Fr h₀ L s.heap m) (hLe : env.locals = L)
    (hsw : swapsWith (.ListComp elt [⟨.Name x px, iter, [], 0⟩] scope pos) (some (.Name y py)) spos.line env = pure true)
    (hclos : closureFor scope env = pure cl) (hcell : ∀ z ∈ scope.names, z.2 ≠ .cell) (hkind : scope.kind = .function)
    (hnames : ∀ z ∈ scope.names, z.2 = .local → scope.names.lookup z.1 = some .local) (hx : scope.names.lookup x = some .local)
    (hy : env.kindOf y = some .local) (hp : (env.scope.kind == .class || (env.scope.kind == .module && env.locals != env.globals)) = false)
    (h : wpAny (model prog w) A (eval iter env) (SrcT prog w A h₀ L m env elt x scope cl (fun s₂ => FinA h₀ L m s₂ y Q)) E s)
    (hs : ∀ x, foldedSetIterable iter env x = pure x := by intro _; rfl) :
    wpAny (model prog w) A (exec (.Assign [.Name y py] (.ListComp elt [⟨.Name x px, iter, [], 0⟩] scope pos) spos) env) Q E s := by
  subst hLe
  rw [exec_Assign_Name_used _ _ _ _ hsw]
  refine wpAny_bind (wpAny_standAt (wpAny_bind ?_))
  show wpAny _ A (do let _ ← comprehension (.ListComp elt [⟨.Name x px, iter, [], 0⟩] scope pos) scope env _ (newList []) false (eval iter env) (some (assign (.Name y py) env))) _ _ s
  refine wpAny_bind (wpAny_mono (wpAny_comprehension_free (use := some (assign (.Name y py) env)) (Q := fun _ s' => Q .next s') rfl hs hclos hkind hnames
    (wpAny_mono h (fun xv s₁ h₁ => ?_) fun _ _ e => e)) (fun _ s' hq => wpAny_pure (wpAny_pure hq)) fun _ _ e => e)
  obtain ⟨xt, tx, news, rfl, hh, F, N, hsz, R⟩ := h₁
  refine iter_T fun o St hW hIo hst => ?_
  refine block_U (hW A hh) hsz hIo (walks_same (hW A hh)) hcell hkind hx hst (fun b hb => ?_)
    (F.keeps fun _ _ e => Heap.get?_push_of_some _ e) (N.grown fun _ _ e => Heap.get?_push_of_some _ e) (Nat.ne_of_lt F.ns.lt) (next_is_new F) (fun p hp => Nat.ne_of_lt (Heap.lt_size (N p hp).1)) trivial (R _ ⟨_, rfl⟩) ?_
  · rw [List.mem_singleton.mp hb]
    show s₁.heap.objs.size < (s₁.heap.push _).objs.size
    rw [Heap.size_push]; exact Nat.lt_succ_self _
  · intro D C h' tk m' ys news' F' N' o1 hn hC₀ hD₀ hCL hDL hCD offC fin
    show wpAny _ A (assign (.Name y py) env (.ref D)) _ _ _
    refine wpAny_assign_Name (wpAny_storeName_local hy F'.ns (fun h₂ hn₂ hs₂ => ?_) hp)
    have hL₀ : h₀.get? env.locals = none := Heap.get?_none_of_le F'.above
    have F₂ : Fr h₀ env.locals h₂ (fun z => if z = y then some (.ref D) else m z) := ⟨hn₂, fun b o e => hs₂.extBut b o (fun q => by rw [q, hL₀] at e; cases e) (F'.keep b o e), F'.above⟩
    refine ⟨m', hn.sameBut hs₂ hCL, fun h'' hs'' => fin D h'' _ (F₂.change hs'' hCL hC₀) (fun p hp => ?_) o1⟩
    have z : h₂.get? p.1 = some p.2 := hs₂.extBut _ _ (N' p hp).2.1 (N' p hp).1
    refine ⟨hs''.extBut _ _ ?_ z, (N' p hp).2⟩
    rcases List.mem_cons.mp hp with rfl | hp
    · exact Ne.symm hCD
    · exact offC p hp
/-- value by value -/
inductive All2 (G : Nat → Value → Prop) : List Nat → List Value → Prop
  | nil : All2 G [] []
  | cons {c v cs vs} : G c v → All2 G cs vs → All2 G (c :: cs) (v :: vs)
theorem All2.snoc {G : Nat → Value → Prop} {c : Nat} {v : Value} (hg : G c v) : ∀ {cs vs}, All2 G cs vs → All2 G (cs ++ [c]) (vs ++ [v])
  | _, _, .nil => .cons hg .nil
  | _, _, .cons h r => .cons h (r.snoc hg)
theorem All2.ints {f : Nat → Int} : ∀ {cs vs}, All2 (fun c v => ∃ t, v = .int (f c) t) cs vs → IntsAre vs (cs.map f)
  | _, _, .nil => .nil
  | _, _, .cons ⟨t, e⟩ r => by subst e; exact .cons _ t r.ints
theorem All2.strs {f : Nat → Str} : ∀ {cs vs}, All2 (fun c v => ∃ t, v = .str (f c) t) cs vs → StrsAre vs (cs.map f)
  | _, _, .nil => .nil
  | _, _, .cons ⟨t, e⟩ r => by subst e; exact .cons _ t r.strs
/-- an element of the block: the ledger as it was, G of the sign and the value -/
def ElT (G : Nat → Value → Prop) (news : List (Addr × Obj)) (c : Nat) (y : Value) (news' : List (Addr × Obj)) : Prop := news' = news ∧ G c y
theorem rest_T {elt : PySem.Expr} {x : Str} {scope : Scope} {cl : List (Str × Addr)} {Fin : List Value → List (Addr × Obj) → Prop} {news : List (Addr × Obj)} {xt : Str} (G : Nat → Value → Prop)
    (turn : ∀ c t I oI C oC D m₂ ys h tk (E' : Value → Shared → Prop), c ∈ cs xt → LCg.NsObj oC m₂ → m₂ x = some (.str ⟨#[c]⟩ t) → Fr h₀ L h m → News h₀ L h ((I, oI) :: (C, oC) :: (D, LCg.lst ys) :: news) → LCg.Off3 I C D news → ((@Ne Nat I C) ∧ (@Ne Nat I D) ∧ (@Ne Nat C D)) →
      wpAny (model prog w) A (eval elt (compEnvC scope cl C env)) (LCg.CompEnd h₀ L m { s with heap := h, toks := tk } I oI C oC D (LCg.lst ys) (fun _ => True) (ElT G news c)) E' { s with heap := h, toks := tk })
    (fin : ∀ ys, All2 G (cs xt) ys → Fin ys news) : LCg.CompRest prog w A h₀ L m env elt x scope cl s (fun _ => True) (SignAt xt) Fin xt.cps.size 0 [] news := by
  have hsz : xt.cps.size = (cs xt).length := by simp [cs]
  have key : ∀ (j i : Nat) (ys : List Value), i + j = xt.cps.size → All2 G ((cs xt).take i) ys → LCg.CompRest prog w A h₀ L m env elt x scope cl s (fun _ => True) (SignAt xt) Fin j i ys news := by
    intro j
    induction j with
    | zero =>
      intro i ys hi hy
      have e : i = (cs xt).length := by omega
      subst e
      rw [List.take_length] at hy
      exact LCg.CompRest.zero (fin ys hy)
    | succ j ih =>
      intro i ys hi hy
      refine LCg.CompRest.succ ?_
      intro v I oI C oC D m₂ h tk E' hv hC hx F N off ne
      obtain ⟨c, t, hc, hv'⟩ := hv
      rw [hv'] at hx
      have hc' : (cs xt)[i]? = some c := by unfold cs; rw [Array.getElem?_toList]; exact hc
      refine wpAny_mono (turn c t I oI C oC D m₂ ys h tk E' (List.mem_of_getElem? hc') hC hx F N off ne) (fun y s₂ hq => ?_) fun _ _ e => e
      obtain ⟨h', tk', nw, e, F', N', off', hS, hn, hg⟩ := hq
      rw [hn] at N' off'
      refine ⟨h', tk', news, e, F', N', off', hS, ?_⟩
      refine ih (i + 1) _ (by omega) ?_
      rw [List.take_add_one, hc']
      exact hy.snoc hg
  exact key _ 0 [] (by omega) (by rw [List.take_zero]; exact .nil)
end
theorem off1_mem {D : Addr} : ∀ {l : List (Addr × Obj)}, LCg.Off1 D l → ∀ q ∈ l, q.1 ≠ D
  | [], _, _, h => nomatch h
  | _ :: _, x, q, h => by
    rcases List.mem_cons.mp h with rfl | h
    · exact x.1
    · exact off1_mem x.2 q h
theorem find_idx {c : Nat} (hc : isA c = true) : Txt.find (rowS ⟨#[c]⟩) ⟨#[c]⟩ = (idx c : Int) := by
  rw [rowS_one]; exact (row_tab c (isA_lt hc) hc).1
theorem find_absurd {c : Nat} {P : Prop} (hc : isA c = true) (h : Txt.find (rowS ⟨#[c]⟩) ⟨#[c]⟩ = -1) : P := by
  rw [find_idx hc] at h; omega
theorem el_idx {news : List (Addr × Obj)} {c : Nat} {t : Tok} (hc : isA c = true) : ElT (fun c y => ∃ t, y = .int (idx c : Int) t) news c (.int (Txt.find (rowS ⟨#[c]⟩) ⟨#[c]⟩) t) news := by
  rw [find_idx hc]; exact ⟨rfl, _, rfl⟩
theorem el_row {news : List (Addr × Obj)} {c : Nat} {t : Tok} : ElT (fun c y => ∃ t, y = .str (rowOf c) t) news c (.str (rowS ⟨#[c]⟩) t) news := ⟨rfl, _, rfl⟩
end PartCp
section PartC7
local macro_rules | `(tactic| walk_at "call ref") => `(tactic| (k_here; (with_reducible show wpAny _ _ (call (Value.ref 142) [Value.str _ _]) _ _ _); k_dflt (refine' Claim.use (c_lrow _ _ _ ?k0) ?k1 ?k2 ?k3 ?k4 ?k5 ?kK ?kd ?ku ?_; (case k0 => first | assumption | ((rename (∀ c ∈ cs _, isA c = true) => hal9); exact ⟨_, rfl, hal9 _ (by assumption)⟩)); (case k1 => k_asm); (case k2 => k_asm); (case k3 => k_asm); (case k4 => k_asm); (case k5 => k_asm); (case kK => first | exact rfl | assumption); (case kd => ktr_room); (case ku => ktr_units); k_whole); intro t9 h9 tk9 F9 N9; (try dsimp only); (try k_fold)))
local macro_rules | `(tactic| walk_at "eval ListComp") => `(tactic| (k_here; k_dflt (refine ListComp_T (F₀ := by k_asm) (by with_unfolding_all rfl) (by decide) (by rfl) (by decide) (by rfl) ?_)))
local macro_rules | `(tactic| walk_at "SrcT") => `(tactic| (k_here; k_dflt (refine ⟨_, _, _, rfl, by rfl, by k_asm, by k_asm, by first | assumption | (rw [PySem.sizeLine_eq]; exact Nat.le_trans (by assumption) (by decide)), ?_⟩; intro s2' hs2'; obtain ⟨g', hs2'⟩ := hs2'; subst hs2'; refine rest_T (fun c y => ∃ t, y = .int (idx c) t) (fun c' t' I' oI' C' oC' D' m' ys' h' tk' E' hc' hC' hx' F' N' off' ne' => ?_) ?_)))
set_option maxRecDepth 100000 in
set_option maxHeartbeats 8000000 in
theorem c_places (w : World) (x : Str) (t : Tok) (hx : x.length ≤ 1000) (hal : ∀ c ∈ cs x, isA c = true) : ClaimO w 152 2 [.str x t] (fun o => ∃ ys, o = LCg.lst ys ∧ IntsAre ys ((cs x).map fun c => (idx c : Int))) := by
  k_with_none
  w_top off
  unfold ClaimO
  intros; rename_i hret
  refine wpAny_call ?_
  k_dflt cell_enter
  k_steps
  all_goals first
    | exact find_absurd (hal _ (by assumption)) (by assumption)
    | (rename News _ _ _ _ => lN'
       exact LCg.CompEnd.intro (by assumption) lN' _ (fun p hp => hp) (by assumption) True.intro (el_idx (hal _ (by assumption))))
    | exact hret _ _ _ _ ⟨_, rfl, All2.ints (by assumption)⟩ (off1_mem (by assumption)) (by assumption) (by assumption)
end PartC7
section PartCk
open PySem PySem.W PyProof.Rows PySem.Calls PySem.Spec
set_option maxRecDepth 100000
theorem All2.length {G : Nat → Value → Prop} : ∀ {cs vs}, All2 G cs vs → vs.length = cs.length
  | _, _, .nil => rfl
  | _, _, .cons _ r => congrArg (· + 1) r.length
theorem All2.get {G : Nat → Value → Prop} : ∀ {cs vs}, All2 G cs vs → ∀ i, i < cs.length → ∃ v, vs[i]? = some v ∧ G (cs.getD i 0) v
  | _, _, .nil, i, h => absurd h (Nat.not_lt_zero _)
  | _, _, .cons g r, 0, _ => ⟨_, rfl, g⟩
  | _, _, .cons g r, i + 1, h => by
    obtain ⟨v, h1, h2⟩ := r.get i (Nat.lt_of_succ_lt_succ h)
    exact ⟨v, by simpa using h1, by simpa using h2⟩
theorem All2.app {G : Nat → Value → Prop} {cs' vs'} (h' : All2 G cs' vs') : ∀ {cs vs}, All2 G cs vs → All2 G (cs ++ cs') (vs ++ vs')
  | _, _, .nil => h'
  | _, _, .cons g r => .cons g (All2.app h' r)
theorem All2.rev {G : Nat → Value → Prop} : ∀ {cs vs}, All2 G cs vs → All2 G cs.reverse vs.reverse
  | _, _, .nil => .nil
  | _, _, .cons g r => by rw [List.reverse_cons, List.reverse_cons]; exact r.rev.snoc g
abbrev isRow (c : Nat) (y : Value) : Prop := ∃ t, y = .str (rowOf c) t
section
variable {prog : Program} {w : World} {A : Around} {E : Value → Shared → Prop} {s : Shared} {env : Env} {h₀ : Heap} {x : Str} {body : List Stmt} {Q : Flow → Shared → Prop}
/-- what stands at a turn's end -/
def ValEnd {σ : Type} (news : List (Addr × Obj)) (ps : σ → List (Str × Value)) (x : Str) (stored : List Str) (m₀ : Str → Option Value) (P : σ → Prop) (m' : Str → Option Value) (n' : List (Addr × Obj)) : Prop :=
  n' = news ∧ ∃ c : σ, P c ∧ (∀ p ∈ ps c, m' p.1 = some p.2) ∧ ∀ z, z ≠ x → (∀ p ∈ ps c, z ≠ p.1) → stored.contains z = false → m' z = m₀ z
theorem ValEnd.mk {σ : Type} {news : List (Addr × Obj)} {ps : σ → List (Str × Value)} {stored : List Str} {m₀ m' : Str → Option Value} {P : σ → Prop} (c : σ) (h1 : ∀ p ∈ ps c, m' p.1 = some p.2) (h2 : ∀ z, z ≠ x → (∀ p ∈ ps c, z ≠ p.1) → stored.contains z = false → m' z = m₀ z) (h : P c) :
    ValEnd news ps x stored m₀ P m' news := ⟨rfl, c, h, h1, h2⟩
theorem iter_all2 {σ : Type} {ax : Addr} {lo : Obj} {vs : List Value} {nn : Nat} {m₀ : Str → Option Value} {news : List (Addr × Obj)} {G : Nat → Value → Prop} {ds : List Nat}
    (ps : σ → List (Str × Value)) (stored : List Str) (P : σ → List Nat → σ → Prop) (c₀ : σ)
    (hh : A.handled = none) (F : Fr h₀ env.locals s.heap m₀) (N : News h₀ env.locals s.heap news) (hm : (ax, lo) ∈ news) (hc : lo.cls = .type "list") (hd : lo.data = .seq vs.toArray nn) (ha : All2 G ds vs)
    (hk : ∀ p ∈ ps c₀, m₀ p.1 = some p.2) (hp : P c₀ [] c₀)
    (turn : ∀ (pre post : List Nat) (d : Nat) (v : Value) (c : σ) (u : Str → Option Value) (I : Addr) (it : Obj) (h : Heap) (tk : Nat), ds = pre ++ d :: post → G d v → P c₀ pre c → (∀ p ∈ news, p.1 < I) →
      Fr h₀ env.locals h (fun y => if y = x then some v else kstB (fun z => if stored.contains z then u z else m₀ z) (ps c) y) → News h₀ env.locals h ((I, it) :: news) →
      wpAny (model prog w) A (execs body env) (UnrPost h₀ env.locals { s with heap := h, toks := tk } I it (ValEnd news ps x stored m₀ (P c₀ (pre ++ [d]))) Q) E { s with heap := h, toks := tk })
    (done : ∀ (c : σ) (u : Str → Option Value) (h : Heap) (tk : Nat), P c₀ ds c → Fr h₀ env.locals h (fun y => if y = x then u y else kstB (fun z => if stored.contains z then u z else m₀ z) (ps c) y) → News h₀ env.locals h news → Q .next { s with heap := h, toks := tk }) :
    wpAny (model prog w) A (pyIter (.ref ax)) (fun it s₂ => LoopAtV prog w A h₀ env x body Q E it s₂) E s := by
  refine iter_listUnr hh F N hm hc hd fun I hI => ?_
  have key : ∀ (post : List Nat) (ws : List Value) (pre : List Nat) (m : Str → Option Value), ds = pre ++ post → All2 G post ws →
      ValEnd news ps x stored m₀ (P c₀ pre) m news → ListRest prog w A E h₀ env x body Q s I (ax, lo) ws m news := by
    intro post
    induction post with
    | nil =>
      rintro ws pre m e ha' ⟨_, c, hp', h1, h2⟩
      cases ha'
      refine ListRest.zero fun h tk F' N' => ?_
      rw [List.append_nil] at e
      subst e
      exact done c m h tk hp' (kst_frOut h1 h2 F') N'
    | cons d post ih =>
      rintro ws pre m e ha' ⟨_, c, hp', h1, h2⟩
      cases ha' with
      | @cons _ v _ ws' g r =>
      refine ListRest.succ fun it h tk _ F' N' => ?_
      refine wpAny_mono (turn pre post d _ c m I it h tk e g hp' hI (kst_fr h1 h2 F') N') (fun f s₂ q => ?_) fun _ _ e => e
      have up : UnrEnd h₀ env.locals { s with heap := h, toks := tk } I it (ValEnd news ps x stored m₀ (P c₀ (pre ++ [d]))) s₂ →
          UnrEnd h₀ env.locals { s with heap := h, toks := tk } I it (fun m' n' => (ax, lo) ∈ n' ∧ ListRest prog w A E h₀ env x body Q s I (ax, lo) ws' m' n') s₂ := by
        rintro ⟨h', tk', m', news', e', F'', N'', off, hv⟩
        have hn := hv.1
        subst hn
        exact ⟨h', tk', m', _, e', F'', N'', off, hm, ih ws' (pre ++ [d]) m' (by rw [e]; simp) r hv⟩
      cases f with
      | ret v => exact q
      | brk => exact q
      | next => exact up q
      | cont => exact up q
  exact key ds vs [] m₀ rfl ha ⟨rfl, c₀, hp, hk, fun _ _ _ _ => rfl⟩
theorem item_row {value slice : PySem.Expr} {D : Addr} {ys : List Value} {nn : Nat} {ds : List Nat} {k : Int} {u : Tok} {L : Addr} {news : List (Addr × Obj)} {Q : Value → Shared → Prop} (N : News h₀ L s.heap news) (hm : (D, listOf ys.toArray nn) ∈ news)
    (ha : All2 isRow ds ys) (h0 : 0 ≤ k) (h1 : k < ds.length) (hl : ds.length ≤ 100000) (h : ∀ t, (10 ≤ (rowOf (ds.getD k.toNat 0)).length ∧ (rowOf (ds.getD k.toNat 0)).length ≤ 26) → Q (.str (rowOf (ds.getD k.toNat 0)) t) s)
    (hs : subscripted slice false (.ref D) (.int k u) = operate [.ref D, .int k u] (getItem (.ref D) (.int k u)) := by with_unfolding_all rfl) :
    wpAny (model prog w) A (subscriptTail value slice (.ref D) (.int k u)) Q E s := by
  have hL := N.isList hm
  obtain ⟨v, h2, t, h3⟩ := ha.get k.toNat (by omega)
  subst h3
  exact tail_any hL.typeIs slot_list_getitem.lookup (wpAny_getItem_list hL h0 (by omega) (by simpa using h2) (h t (rowS_len ⟨#[_]⟩))) hs
theorem rows_rev {value slice : PySem.Expr} {l L : Addr} {m : Str → Option Value} {vs : List Value} {nn : Nat} {ds : List Nat} {vk : Value} {ops : List Value} {news : List (Addr × Obj)} {Q : Value → Shared → Prop} (F : Fr h₀ L s.heap m) (N : News h₀ L s.heap news) (hm : (l, listOf vs.toArray nn) ∈ news)
    (ha : All2 isRow ds vs) (hl : ds.length ≤ 100000) (pk : IsPart vk (some (-1)))
    (h : ∀ D h', Fr h₀ L h' m → News h₀ L h' ((D, listOf vs.reverse.toArray 0) :: news) → (∀ p ∈ news, p.1 < D) → All2 isRow ds.reverse vs.reverse → Q (.ref D) { s with heap := h' })
    (hs : subscripted slice false (.ref l) (.ref s.heap.objs.size) = operate ops (getItem (.ref l) (.ref s.heap.objs.size)) := by with_unfolding_all rfl) (ht : ∀ r, letTemporaryGo value (.ref l) r = pure () := by intro _; with_unfolding_all rfl) :
    wpAny (model prog w) A (subscriptTail value slice (.ref l) (.ref s.heap.objs.size)) Q E { s with heap := s.heap.push { cls := .type "slice", data := .fields #[.none, .none, vk] } } :=
  krv_lit (its := vs.toArray) (zs := vs.reverse) F N (N.isList hm) pk rfl (fun D h' F' N' l1 => h D h' F' N' l1 ha.rev) hs ht (by
    rw [List.size_toArray, ha.length, PySem.sizeLine_eq]; omega)
theorem rows_add {l b L : Addr} {m : Str → Option Value} {us vs : List Value} {n1 n2 : Nat} {es ds : List Nat} {news : List (Addr × Obj)} {Q : Value → Shared → Prop} (F : Fr h₀ L s.heap m) (N : News h₀ L s.heap news) (h1 : (l, listOf us.toArray n1) ∈ news) (h2 : (b, listOf vs.toArray n2) ∈ news)
    (ha : All2 isRow es us) (hb : All2 isRow ds vs) (hl : es.length + ds.length ≤ 100000)
    (h : ∀ X h', Fr h₀ L h' m → News h₀ L h' ((X, listOf (us ++ vs).toArray 0) :: news) → (∀ p ∈ news, p.1 < X) → All2 isRow (es ++ ds) (us ++ vs) → Q (.ref X) { s with heap := h' }) :
    wpAny (model prog w) A (binaryOp .Add (.ref l) (.ref b)) Q E s :=
  add_arrays (its := us.toArray) (its2 := vs.toArray) F N (N.isList h1) (N.isList h2) (fun h' F' N' => h _ h' F' N' (fun p hp => Heap.lt_size (N p hp).1) (All2.app hb ha)) (by
    rw [List.size_toArray, List.size_toArray, ha.length, hb.length, PySem.sizeLine_eq]; omega)
end
end PartCk
section PartC8
local macro_rules | `(tactic| walk_at "call ref") => `(tactic| (k_here; (with_reducible show wpAny _ _ (call (Value.ref 142) [Value.str _ _]) _ _ _); k_dflt (refine' Claim.use (c_lrow _ _ _ ?k0) ?k1 ?k2 ?k3 ?k4 ?k5 ?kK ?kd ?ku ?_; (case k0 => first | assumption | exact al_of (by assumption) (by assumption)); (case k1 => k_asm); (case k2 => k_asm); (case k3 => k_asm); (case k4 => k_asm); (case k5 => k_asm); (case kK => first | exact rfl | assumption); (case kd => ktr_room); (case ku => ktr_units); k_whole); intro t9 h9 tk9 F9 N9; (try dsimp only); (try k_fold)))
local macro_rules | `(tactic| walk_at "exec Assign cons ListComp") => `(tactic| (k_here; k_dflt (refine Assign_ListComp_T (F₀ := by k_asm) (by rfl) (by with_unfolding_all rfl) (by with_unfolding_all rfl) (by decide) (by rfl) (by decide) (by rfl) (by rfl) (by rfl) ?_)))
local macro_rules | `(tactic| walk_at "SrcT") => `(tactic| (k_here; k_dflt (refine ⟨_, _, _, rfl, by rfl, by k_asm, by k_asm, by first | assumption | (rw [PySem.sizeLine_eq]; exact Nat.le_trans (by assumption) (by decide)), ?_⟩; intro s2' hs2'; obtain ⟨g', hs2'⟩ := hs2'; subst hs2'; refine rest_T (fun c y => ∃ t, y = .str (rowOf c) t) (fun c' t' I' oI' C' oC' D' m' ys' h' tk' E' hc' hC' hx' F' N' off' ne' => ?_) ?_)))
local macro_rules | `(tactic| walk_at "CompEnd") => `(tactic| ((rename News _ _ _ _ => lN'); exact LCg.CompEnd.intro (by assumption) lN' _ (fun p hp => hp) (by assumption) True.intro el_row))
local macro_rules | `(tactic| walk_at "subscriptTail") => `(tactic| (k_here; (with_reducible show wpAny _ _ (subscriptTail _ _ (Value.ref _) (Value.int _ _)) _ _ _); k_dflt (refine item_row (by k_asm) (by k_mem) (by assumption) (by omega) (by first | ((simp only [List.length_cons, cs_len]); omega) | omega) (by first | ((simp only [List.length_cons, cs_len]); omega) | omega) ?_); intro t9 hl9))
local macro_rules | `(tactic| walk_at "call builtin:str.index") => `(tactic| (k_here; (refine index_or (by rfl) (by intros; exact idx_no (by assumption) (by assumption) (by omega) (by omega)) ?_); intros))
local macro_rules | `(tactic| walk_at "pyIter ref") => `(tactic| ((with_reducible show wpAny _ _ (pyIter (Value.ref _)) (fun it s₂ => LoopAtV _ _ _ _ _ (Str.ofString "row") _ _ _ it s₂) _ _); k_here; (rename Fr _ _ _ _ => lF'); (rename News _ _ _ _ => lN'); (with_unfolding_all refine iter_all2 (σ := Int × Tok) (fun c => [(Str.ofString "room", Value.int c.1 c.2)]) [] (fun _ pre c => c.1 = roomL pre ∧ 0 < c.1 ∧ c.1 ≤ 10000000000000) (_, _) (by rfl) lF' lN' (by k_mem) (by rfl) (by rfl) (by assumption) (by kst_all) (by exact room_start) (fun pre' post' d' v' c' u' I' it' h' tk' he' hg' hP' hl' F' N' => ?_) (fun c' u' h' tk' hP' F' N' => ?_)); (all_goals (try clear lF' lN')); (all_goals (obtain ⟨a', ta'⟩ := c'; obtain ⟨hP1', hP2', hP3'⟩ := hP'; dsimp only at hP1' hP2' hP3'; dsimp only [kstB] at F')); (all_goals (try (obtain ⟨t', hg'⟩ := hg'; subst hg'; (have hl9 := rowOf_len d')))); (all_goals (try k_fold))))
local macro_rules | `(tactic| walk_at "UnrEnd") => `(tactic| ((rename News _ _ _ _ => lN'); first | ((refine UnrEnd.intro (by assumption) lN' _ (fun p hp => hp) (lt_ne (by assumption)) (ValEnd.mk (_, _) (by kst_all) (by kst_same) ?_)); exact room_turn (by assumption) (by rw [cs_len]; omega) (by assumption)) | ((refine UnrEnd.intro (by assumption) lN' _ (fun p hp => hp) (lt_ne (by assumption)) (ValEnd.mk (_, _, _, _) (by kst_all) (by kst_same) ?_)); exact dig_turn (by assumption) (by assumption) (by assumption) (by assumption) (by assumption))))
local macro_rules | `(tactic| walk_at "exec For Name Subscript cons nil") => `(tactic| (k_here; (rename Fr _ _ _ _ => lF'); (with_unfolding_all refine' For_invVF lF' ?k1 ?k2 ?_; (case k1 => exact rfl); (case k2 => exact rfl); k_whole)))
local macro_rules | `(tactic| walk_at "subscriptTail Name Slice ref ref") => `(tactic| (k_here; (with_reducible show wpAny _ _ (subscriptTail _ (PySem.Expr.Slice none none (some _) _) (Value.ref _) (Value.ref _)) _ _ _); k_dflt (refine rows_rev (by k_asm) (by k_asm) (by k_mem) (by assumption) (by simp only [List.length_append, List.length_cons, List.length_nil, cs_len]; omega) (IsPart.int _ _) ?_); intro D' h' F' N' l1 hA'))
local macro_rules | `(tactic| walk_at "binaryOp Add ref ref") => `(tactic| (k_here; (with_reducible show wpAny _ _ (binaryOp _ (Value.ref _) (Value.ref _)) _ _ _); k_dflt (refine rows_add (by k_asm) (by k_asm) (by k_mem) (by k_mem) (All2.cons ⟨_, rfl⟩ .nil) (by assumption) (by simp only [List.length_append, List.length_cons, List.length_nil, cs_len]; omega) ?_); intro D' h' F' N' l1 hA'))
local macro_rules | `(tactic| walk_at "pyIter ref") => `(tactic| ((with_reducible show wpAny _ _ (pyIter (Value.ref _)) (fun it s₂ => LoopAtV _ _ _ _ _ (Str.ofString "row") _ _ _ it s₂) _ _); k_here; (rename Fr _ _ _ _ => lF'); (rename News _ _ _ _ => lN'); (with_unfolding_all refine iter_all2 (σ := Str × Tok × Int × Tok) (fun c => [(Str.ofString "out", Value.str c.1 c.2.1), (Str.ofString "total", Value.int c.2.2.1 c.2.2.2)]) [] (fun c₀ pre c => c.1 = T (digF pre c₀.2.2.1).1 ∧ c.2.2.1 = (digF pre c₀.2.2.1).2 ∧ c.1.length = pre.length ∧ 0 ≤ c.2.2.1 ∧ c.2.2.1 ≤ 100000000000000) (_, _, _, _) (by rfl) lF' lN' (by k_mem) (by rfl) (by rfl) (by assumption) (by kst_all) (by exact dig_start _ (by dsimp only; omega) (by dsimp only; omega)) (fun pre' post' d' v' c' u' I' it' h' tk' he' hg' hP' hl' F' N' => ?_) (fun c' u' h' tk' hP' F' N' => ?_)); (all_goals (try clear lF' lN')); (all_goals (obtain ⟨a', ta', b', tb'⟩ := c'; obtain ⟨hP1', hP2', hP3', hP4', hP5'⟩ := hP'; dsimp only at hP1' hP2' hP3' hP4' hP5'; dsimp only [kstB] at F')); (all_goals (try (obtain ⟨t', hg'⟩ := hg'; subst hg'; (have hl9 := rowOf_len d'); (have hm9 := fmod_row b' d'); (have hp9 := pre_le he' (by simp only [List.length_reverse, List.length_append, List.length_cons, List.length_nil, cs_len]; omega))))); (all_goals (try k_fold))))
local macro_rules | `(tactic| walk_at "exec While Compare cons nil") => `(tactic| (k_here; k_dflt (refine whl_start 3 (whl_turn (by passes_own) ?_))))
local macro_rules | `(tactic| walk_at "WhlIf") => `(tactic| (unfold WhlIf))
local macro_rules | `(tactic| walk_at "WhlIf") => `(tactic| (refine WhlIf.no (no_second (by assumption) (by assumption) (by assumption) (by assumption) (by assumption) (by assumption)) ?_))
local macro_rules | `(tactic| walk_at "WhlPost") => `(tactic| (dsimp only [WhlPost]))
local macro_rules | `(tactic| walk_at "WhlRest") => `(tactic| (k_dflt (refine whl_turn (by passes_own) ?_)))
set_option maxRecDepth 100000 in
set_option maxHeartbeats 8000000 in
theorem c_beh (w : World) (x : Str) (n : Int) (t u : Tok) (hx : x.length ≤ 8) (hx0 : 0 < x.length) (h0 : 0 ≤ n) (h1 : n ≤ 30) (hal : ∀ c ∈ cs x, isA c = true) : Claim w 147 2 [.str x t, .int n u] (fun u => .str (behindS x n) u) := by
  k_with_none
  w_top off
  k_with "pyIter ref" => k_state (fun pre total => 0 ≤ total ∧ total ≤ 10000000000000 ∧ total = valL ((cs x).take pre.length)) "total"
  k_with "state" => first | exact val_start x | exact val_turn hx (by assumption) (by omega) (by omega) (by omega) (by assumption)
  unfold Claim
  dsimp only [CbRet]
  intros; rename_i hret
  refine wpAny_call ?_
  k_dflt cell_enter
  k_steps
  all_goals (
    refine cb_retS hret ?_ (by assumption) (by first | exact news_tail (news_tail (by assumption)) | exact news_tail (news_tail (news_tail (news_tail (by assumption)))) | exact news_tail (news_tail (news_tail (by assumption))))
    first
      | exact beh_le (by assumption) (by assumption) (by assumption) (by assumption)
      | exact beh_gt (by assumption) (by assumption) (by assumption) (by assumption))
end PartC8
section PartC1
set_option maxRecDepth 100000 in
set_option maxHeartbeats 8000000 in
theorem c_magic (w : World) (x : Str) (t : Tok) (hx : x.length ≤ 1000) : Claim w 78 1 [.str x t] (fun _ => .bool (magicB x)) := by
  k_with_none
  w_top off
  k_with "exec While BoolOp cons nil" => k_while (fun _ at_ => 0 ≤ at_ ∧ at_ ≤ x.length ∧ run isL x 0 at_) (fun _ at_ => x.length - at_.toNat) "at"
  k_with "exec While BoolOp cons nil" => k_while_given ["letters"] (fun k _ at_ => k ≤ at_ ∧ at_ ≤ x.length ∧ run isD x k at_) (fun _ _ at_ => x.length - at_.toNat) "at"
  k_with "state" => (refine ⟨by omega, by omega, ?_⟩; first | exact run_nil _ _ _ | exact run_dig (by assumption) (by omega) (by omega) (by assumption) | exact run_small (by assumption) (by omega) (by omega) (by assumption) | exact run_great (by assumption) (by omega) (by omega) (by assumption))
  unfold Claim
  dsimp only [CbRet]; intros; rename_i hret
  refine wpAny_call ?_
  k_dflt cell_enter
  k_steps
  all_goals (
    refine cb_retB hret ?_ (by assumption) (by assumption)
    first
      | refine magic_pos (by assumption) (by assumption) (by assumption) ?_ ?_ ?_ ?_ ?_ ?_
      | refine magic_neg (by assumption) (by assumption) (by assumption) ?_ ?_ ?_ ?_ ?_ ?_
    all_goals first | omega | exact Or.inl (by omega) | exact Or.inr (not_let (by omega) (by omega) (by assumption) (by assumption)) | exact Or.inr (not_dig (by omega) (by omega) (by assumption)))
end PartC1
section PartC2
set_option maxRecDepth 100000 in
set_option maxHeartbeats 8000000 in
theorem c_row (w : World) (y : Str) (t : Tok) (hy : y.length = 1) : Claim w 85 1 [.str y t] (fun u => .str (rowS y) u) := by
  k_with_none
  w_top off
  obtain ⟨c, rfl⟩ := str_one hy
  unfold Claim
  dsimp only [CbRet]; intros; rename_i hret
  refine wpAny_call ?_
  k_dflt cell_enter
  k_steps
  all_goals (
    refine cb_retS hret ?_ (by assumption) (by assumption)
    simp_all [rowS, rowOf, occ_dig, occ_small, occ_great])
theorem use_row {w : World} {y : Str} {t : Tok} (hy : y.length = 1)
    {news : List (Addr × Obj)} {p : Program} {loose : List Str} {mean : ExcName → Option Value} {mg mb : Str → Option Value}
    {dp un : Nat} {gd : Option (List Code)} {cn : Str} {cs : Scope} {a : Addr} {ccd : Value} {cl : List (Str × Addr)} {outer : List Env} {A₀ : Around} {base h₀ : Heap} {L : Addr} {m : Str → Option Value} {s : Shared} {Q E : Value → Shared → Prop}
    (B : Below A₀ base outer h₀) (F : Fr h₀ L s.heap m) (X : (hd.heap_39 w.params).In h₀) (N : News h₀ L s.heap news) (T : Top p loose mean mg mb h₀) (hk : cs.kind = .function)
    (hd : dp + 1 < recursionLimit) (hu : un + 8 * 1 < cLine) (hA : alS y)
    (ret : (10 ≤ (rowS y).length ∧ (rowS y).length ≤ 26) → (0 ≤ Txt.find (rowS y) y ∧ Txt.find (rowS y) y < (rowS y).length) → CbRet h₀ L m news s Q (fun u => .str (rowS y) u)) :
      wpAny (model PySem.Challenge.rw_nz0177_01.row.prog w) (ktrTop dp un gd cn cs L a ccd cl outer) (call (.ref 85) [.str y t]) Q E s :=
  (c_row w y t hy).use B F X N T hk hd hu (ret (rowS_len y) (find_row hA))
local macro_rules | `(tactic| walk_at "call ref") => `(tactic| (k_here; (with_reducible show wpAny _ _ (call (Value.ref 85) [Value.str _ _]) _ _ _); k_dflt (refine' use_row ?k0 ?k1 ?k2 ?k3 ?k4 ?k5 ?kK ?kd ?ku ?kA ?_; (case k0 => rfl); (case k1 => k_asm); (case k2 => k_asm); (case k3 => k_asm); (case k4 => k_asm); (case k5 => k_asm); (case kK => first | exact rfl | assumption); (case kd => ktr_room); (case ku => ktr_units); (case kA => ((rename (∀ i : Int, 0 ≤ i → i < _ → alS (Txt.item _ i)) => hal9); exact hal9 _ (by omega) (by omega))); k_whole); intro hR9 hF9 t9 h9 tk9 F9 N9; (try dsimp only); (try k_fold)))
set_option maxRecDepth 100000 in
set_option maxHeartbeats 8000000 in
theorem c_inc (w : World) (x : Str) (t : Tok) (hx : x.length ≤ 1000) (h0 : 0 < x.length) (hal : ∀ i : Int, 0 ≤ i → i < x.length → alS (Txt.item x i)) : Claim w 92 2 [.str x t] (fun u => .str (incS x) u) := by
  k_with_none
  w_top off
  k_with "exec While Compare cons nil" => k_while (fun _ at_ b => 0 ≤ at_ ∧ at_ ≤ x.length ∧ b.length + at_ = x.length ∧ b = bhd x at_ ∧ run isLast x at_ x.length) (fun _ at_ _ => at_.toNat) "at" "behind"
  k_with "state" => first | exact inc_start _ | exact inc_turn (by assumption) (by assumption) (by assumption) (by assumption) (by assumption) (hal _ (by omega) (by omega)) (by assumption)
  unfold Claim
  dsimp only [CbRet]; intros; rename_i hret
  refine wpAny_call ?_
  k_dflt cell_enter
  k_steps
  all_goals (
    refine cb_retS hret ?_ (by assumption) (by assumption)
    first
      | exact inc_mid (by assumption) (by assumption) (by assumption) (by assumption) (hal _ (by omega) (by omega)) (by assumption)
      | exact inc_endD h0 (by assumption) (by assumption) (by assumption) (by assumption) (by assumption)
      | exact inc_endL h0 (by assumption) (by assumption) (by assumption) (by assumption) (by assumption))
end PartC2
section PartC3
set_option maxRecDepth 100000 in
set_option maxHeartbeats 8000000 in
theorem c_wrap (w : World) (n : Int) (t u : Tok) (h0 : 0 ≤ n) (h1 : n < 1000000) : Claim w 21 1 [.int n t, .int 64 u] (fun u => .int n u) := by
  k_with_none
  w_top off
  unfold Claim
  dsimp only [CbRet]; intros; rename_i hret
  refine wpAny_call ?_
  k_dflt cell_enter
  k_steps
  all_goals (
    have e1 : n.fmod (1 * 2 ^ Int.toNat 64) = n := by
      rw [Int.fmod_eq_emod_of_nonneg _ (by decide)]
      exact Int.emod_eq_of_lt h0 (Int.lt_trans h1 (by decide))
    have e2 : n.fdiv (2 ^ (64 - 1 : Int).toNat) = 0 := by
      rw [Int.fdiv_eq_ediv_of_nonneg _ (by decide)]
      exact Int.ediv_eq_zero_of_lt h0 (Int.lt_trans h1 (by decide))
    first
      | (exfalso; rename (Int.fdiv _ _ ≠ 0) => hne; rw [e1] at hne; exact hne e2)
      | exact cb_retI hret e1 (by assumption) (by assumption))
local macro_rules | `(tactic| walk_at "exec AugAssign") => `(tactic| (k_here; (rename (sg _ 0 ≠ 43) => hp9); exact plus_no hp9 (by assumption) (by omega) (by assumption)))
local macro_rules | `(tactic| walk_at "exec AugAssign") => `(tactic| (k_here; (rename (isB (sg _ 0) = false) => hb9); exact blank_no hb9 (by assumption) (by omega) (by assumption)))
set_option maxRecDepth 100000 in
set_option maxHeartbeats 8000000 in
theorem c_head (w : World) (x : Str) (t : Tok) (hx : x.length ≤ 1000) (hn : 0 < x.length) (hb : isB (sg x 0) = false) (hp : sg x 0 ≠ 43) : ClaimO w 35 1 [.str x t] (pairObj 0 (headE x)) := by
  k_with_none
  w_top off
  unfold ClaimO
  k_with "exec While BoolOp cons nil" => k_while (fun _ at_ => at_ = 0) (fun _ at_ => 0) "at"
  k_with "exec While BoolOp cons nil" => k_while_given ["first"] (fun k _ at_ => k ≤ at_ ∧ at_ ≤ x.length ∧ run isD x k at_) (fun _ _ at_ => x.length - at_.toNat) "end"
  k_with "state" => (refine ⟨by omega, by omega, ?_⟩; first | exact run_nil _ _ _ | exact run_dig (by assumption) (by omega) (by omega) (by assumption))
  intros; rename_i hret
  refine wpAny_call ?_
  k_dflt cell_enter
  k_steps
  all_goals (
    refine hret _ _ _ _ (pair_mk ?_ ?_) (lt_ne (by assumption)) (by assumption) (by assumption)
    all_goals first
      | assumption
      | exact head_eq0 (by assumption) (signP_minus (by assumption) (by omega) (by assumption)) (by assumption) (by omega) (by omega) (by first | exact Or.inl (by omega) | exact Or.inr (not_dig (by omega) (by omega) (by assumption))) (by assumption)
      | exact head_eq0 (by assumption) (signP_none (by assumption) (by omega) (by assumption) (by assumption)) (by assumption) (by omega) (by omega) (by first | exact Or.inl (by omega) | exact Or.inr (not_dig (by omega) (by omega) (by assumption))) (by assumption)
      | exact head_eq1 (signP_minus (by assumption) (by omega) (by assumption)) (by assumption) (by omega) (by omega) (by first | exact Or.inl (by omega) | exact Or.inr (not_dig (by omega) (by omega) (by assumption))) (by assumption)
      | exact head_eq1 (signP_none (by assumption) (by omega) (by assumption) (by assumption)) (by assumption) (by omega) (by omega) (by first | exact Or.inl (by omega) | exact Or.inr (not_dig (by omega) (by omega) (by assumption))) (by assumption))
set_option maxRecDepth 100000 in
set_option maxHeartbeats 8000000 in
theorem c_head0 (w : World) (t : Tok) : ClaimO w 35 1 [.str (Str.ofString "") t] (pairObj 0 0) := by
  k_with_none
  w_top off
  unfold ClaimO
  intros; rename_i hret
  refine wpAny_call ?_
  k_dflt cell_enter
  k_steps
  all_goals (
    refine hret _ _ _ _ (pair_mk ?_ ?_) (lt_ne (by assumption)) (by assumption) (by assumption)
    all_goals rfl)
end PartC3
section PartC4
local macro_rules | `(tactic| walk_at "call ref") => `(tactic| k_extra "call ref")
local macro_rules | `(tactic| walk_at "exec For Name Subscript cons nil") => `(tactic| (k_here; kstt_has; (rename Fr _ _ _ _ => lF'); (with_unfolding_all refine' For_invVF lF' ?k1 ?k2 ?_; (case k1 => exact rfl); (case k2 => exact rfl); k_whole)))
local macro_rules | `(tactic| walk_at "exec Assign") => `(tactic| (k_here; (rename (sg _ 0 = 45 → headE _ = 0) => hm9); exact minus_no hm9 (by assumption) (by assumption) (by assumption)))
set_option maxRecDepth 100000 in
set_option maxHeartbeats 8000000 in
theorem c_num (w : World) (x : Str) (t u : Tok) (hx : x.length ≤ 1000) (hn : 0 < x.length) (hb : isB (sg x 0) = false) (hp : sg x 0 ≠ 43) (hm : sg x 0 = 45 → headE x = 0) (h0 : 0 ≤ headE x) (h1 : headE x ≤ x.length)
    (hv : numF (KStt.codes (Txt.slice x (some 0) (some (headE x)))) < 1000000) : Claim w 42 2 [.str x t, .int 64 u] (fun v => .int (numT x) v) := by
  k_with_none
  w_top off
  k_with "call ref" => (k_here; (with_reducible show wpAny _ _ (call (Value.ref 21) [Value.int _ _, Value.int 64 _]) _ _ _); k_dflt (refine' Claim.use (c_wrap _ _ _ _ ?k0 ?k9) ?k1 ?k2 ?k3 ?k4 ?k5 ?kK ?kd ?ku ?_; (case k0 => first | assumption | omega); (case k9 => first | assumption | omega); (case k1 => k_asm); (case k2 => k_asm); (case k3 => k_asm); (case k4 => k_asm); (case k5 => k_asm); (case kK => first | exact rfl | assumption); (case kd => ktr_room); (case ku => ktr_units); k_whole); intro t9 h9 tk9 F9 N9; (try dsimp only); (try k_fold))
  k_with "call ref" => (k_here; (with_reducible show wpAny _ _ (call (Value.ref 35) [Value.str _ _]) _ _ _); k_dflt (refine' ClaimO.use (c_head _ _ _ ?k0 ?k6 ?k7 ?k8) ?k1 ?k2 ?k3 ?k4 ?k5 ?kK ?kd ?ku ?_; (case k0 => assumption); (case k6 => assumption); (case k7 => assumption); (case k8 => assumption); (case k1 => k_asm); (case k2 => k_asm); (case k3 => k_asm); (case k4 => k_asm); (case k5 => k_asm); (case kK => first | exact rfl | assumption); (case kd => ktr_room); (case ku => ktr_units); k_whole); intro y9 o9 h9 tk9 hR9 hne9 F9 N9; obtain ⟨ta9, tb9, hR9⟩ := hR9; subst hR9; (try dsimp only); (try k_fold))
  k_with "pyIter str" => k_state (fun pre n => 0 ≤ n ∧ n < 18446744073709551616 ∧ n = numF pre) "n"
  k_with "state" => first | exact num_start | exact num_skip (by assumption) (by assumption) (by assumption) (by assumption) | exact num_dig (by assumption) (by assumption)
  unfold Claim
  dsimp only [CbRet]; intros; rename_i hret
  refine wpAny_call ?_
  k_dflt cell_enter
  k_steps
  all_goals exact cb_retI hret (by assumption) (by assumption) (news_tail (by assumption))
set_option maxRecDepth 100000 in
set_option maxHeartbeats 8000000 in
theorem c_add (w : World) (a b : Int) (t u v : Tok) (h0 : 0 ≤ a + b) (h1 : a + b < 1000000) : Claim w 28 2 [.int a t, .int b u, .int 64 v] (fun v => .int (a + b) v) := by
  k_with_none
  w_top off
  k_with "call ref" => (k_here; (with_reducible show wpAny _ _ (call (Value.ref 21) [Value.int _ _, Value.int 64 _]) _ _ _); k_dflt (refine' Claim.use (c_wrap _ _ _ _ ?k0 ?k9) ?k1 ?k2 ?k3 ?k4 ?k5 ?kK ?kd ?ku ?_; (case k0 => first | assumption | omega); (case k9 => first | assumption | omega); (case k1 => k_asm); (case k2 => k_asm); (case k3 => k_asm); (case k4 => k_asm); (case k5 => k_asm); (case kK => first | exact rfl | assumption); (case kd => ktr_room); (case ku => ktr_units); k_whole); intro t9 h9 tk9 F9 N9; (try dsimp only); (try k_fold))
  k_with "call ref" => (k_here; (with_reducible show wpAny _ _ (call (Value.ref 35) [Value.str _ _]) _ _ _); k_dflt (refine' ClaimO.use (c_head _ _ _ ?k0 ?k6 ?k7 ?k8) ?k1 ?k2 ?k3 ?k4 ?k5 ?kK ?kd ?ku ?_; (case k0 => assumption); (case k6 => assumption); (case k7 => assumption); (case k8 => assumption); (case k1 => k_asm); (case k2 => k_asm); (case k3 => k_asm); (case k4 => k_asm); (case k5 => k_asm); (case kK => first | exact rfl | assumption); (case kd => ktr_room); (case ku => ktr_units); k_whole); intro y9 o9 h9 tk9 hR9 hne9 F9 N9; obtain ⟨ta9, tb9, hR9⟩ := hR9; subst hR9; (try dsimp only); (try k_fold))
  unfold Claim
  dsimp only [CbRet]; intros; rename_i hret
  refine wpAny_call ?_
  k_dflt cell_enter
  k_steps
  all_goals exact cb_retI hret rfl (by assumption) (by assumption)
end PartC4
section PartC5
theorem c_magicT (w : World) (x : Str) (t : Tok) (hx : x.length ≤ 1000) (hM : magicB x = true) : Claim w 78 1 [.str x t] (fun _ => .bool true) := by
  rw [← hM]; exact c_magic w x t hx
theorem c_magicF (w : World) (x : Str) (t : Tok) (hx : x.length ≤ 1000) (hM : magicB x = false) : Claim w 78 1 [.str x t] (fun _ => .bool false) := by
  rw [← hM]; exact c_magic w x t hx
theorem c_incT (w : World) (x : Str) (t : Tok) (hx : x.length ≤ 1000) (hM : magicB x = true) : Claim w 92 2 [.str x t] (fun u => .str (incS x) u) :=
  c_inc w x t hx (by
    unfold magicB at hM
    simp only [Bool.and_eq_true, decide_eq_true_eq] at hM
    omega) (magic_al hM)
local macro_rules | `(tactic| walk_at "call ref") => `(tactic| k_extra "call ref")
set_option maxRecDepth 100000 in
set_option maxHeartbeats 8000000 in
theorem c_ton (w : World) (x : Str) (t : Tok) (lx : Addr) (v : Int) (hC : ∀ (t u : Tok), Claim w 42 2 [.str x t, .int 64 u] (fun s => .int v s)) : ClaimN w 71 3 [.str x t, .ref lx] (LimIn lx) (fun s => .int v s) := by
  k_with_none
  w_top off
  k_with "call ref" => (k_here; (with_reducible show wpAny _ _ (call (Value.ref 78) [Value.str _ _]) _ _ _); k_dflt (refine' Claim.use (c_magicT _ _ _ ?k0 ?k9) ?k1 ?k2 ?k3 ?k4 ?k5 ?kK ?kd ?ku ?_; (case k9 => assumption); (case k0 => first | assumption | omega); (case k1 => k_asm); (case k2 => k_asm); (case k3 => k_asm); (case k4 => k_asm); (case k5 => k_asm); (case kK => first | exact rfl | assumption); (case kd => ktr_room); (case ku => ktr_units); k_whole); intro t9 h9 tk9 F9 N9; (try dsimp only); (try k_fold))
  k_with "call ref" => (k_here; (with_reducible show wpAny _ _ (call (Value.ref 78) [Value.str _ _]) _ _ _); k_dflt (refine' Claim.use (c_magicF _ _ _ ?k0 ?k9) ?k1 ?k2 ?k3 ?k4 ?k5 ?kK ?kd ?ku ?_; (case k9 => assumption); (case k0 => first | assumption | omega); (case k1 => k_asm); (case k2 => k_asm); (case k3 => k_asm); (case k4 => k_asm); (case k5 => k_asm); (case kK => first | exact rfl | assumption); (case kd => ktr_room); (case ku => ktr_units); k_whole); intro t9 h9 tk9 F9 N9; (try dsimp only); (try k_fold))
  k_with "call ref" => (k_here; (with_reducible show wpAny _ _ (call (Value.ref 92) [Value.str _ _]) _ _ _); k_dflt (refine' Claim.use (c_incT _ _ _ ?k0 ?k9) ?k1 ?k2 ?k3 ?k4 ?k5 ?kK ?kd ?ku ?_; (case k9 => assumption); (case k0 => first | assumption | omega); (case k1 => k_asm); (case k2 => k_asm); (case k3 => k_asm); (case k4 => k_asm); (case k5 => k_asm); (case kK => first | exact rfl | assumption); (case kd => ktr_room); (case ku => ktr_units); k_whole); intro t9 h9 tk9 F9 N9; (try dsimp only); (try k_fold))
  k_with "call ref" => (k_here; (with_reducible show wpAny _ _ (call (Value.ref 42) [Value.str _ _, Value.int 64 _]) _ _ _); (rename (∀ (t u : Tok), Claim _ 42 2 _ _) => hC9); k_dflt (refine' Claim.use (hC9 _ _) ?k1 ?k2 ?k3 ?k4 ?k5 ?kK ?kd ?ku ?_; (case k1 => k_asm); (case k2 => k_asm); (case k3 => k_asm); (case k4 => k_asm); (case k5 => k_asm); (case kK => first | exact rfl | assumption); (case kd => ktr_room); (case ku => ktr_units); k_whole); intro t9 h9 tk9 F9 N9; (try dsimp only); (try k_fold))
  k_with "call ref" => (k_here; (with_reducible show wpAny _ _ (call (Value.ref 28) [Value.int _ _, Value.int _ _, Value.int 64 _]) _ _ _); k_dflt (refine' Claim.use (c_add _ _ _ _ _ _ ?k0 ?k9) ?k1 ?k2 ?k3 ?k4 ?k5 ?kK ?kd ?ku ?_; (case k0 => first | assumption | omega); (case k9 => first | assumption | omega); (case k1 => k_asm); (case k2 => k_asm); (case k3 => k_asm); (case k4 => k_asm); (case k5 => k_asm); (case kK => first | exact rfl | assumption); (case kd => ktr_room); (case ku => ktr_units); k_whole); intro t9 h9 tk9 F9 N9; (try dsimp only); (try k_fold))
  unfold ClaimN
  dsimp only [CbRet]; intros; rename_i hl _ _ _ _ _ _ _ _ hret
  obtain ⟨ld, h1, h2, h3, h4, h5, k1, k2, k3, k4, k5, t1, v2, v3, v4, v5, hm1, hm2⟩ := hl
  refine wpAny_call ?_
  k_dflt cell_enter
  k_steps
  all_goals exact cb_retI hret rfl (by assumption) (by assumption)
set_option maxRecDepth 100000 in
set_option maxHeartbeats 8000000 in
theorem c_ivN (w : World) (x : Str) (t : Tok) (lx : Addr) (v : Int) (hx : x.length ≤ 1000) (hM : magicB x = false) (h0 : 0 ≤ v + 1) (h1 : v + 1 < 1000000) (hC : ∀ (t u : Tok), Claim w 42 2 [.str x t, .int 64 u] (fun s => .int v s)) : ClaimN w 99 4 [.str x t, .ref lx] (LimIn lx) (fun s => .int (v + 1) s) := by
  k_with_none
  w_top off
  k_with "call ref" => (k_here; (with_reducible show wpAny _ _ (call (Value.ref 78) [Value.str _ _]) _ _ _); k_dflt (refine' Claim.use (c_magicT _ _ _ ?k0 ?k9) ?k1 ?k2 ?k3 ?k4 ?k5 ?kK ?kd ?ku ?_; (case k9 => assumption); (case k0 => first | assumption | omega); (case k1 => k_asm); (case k2 => k_asm); (case k3 => k_asm); (case k4 => k_asm); (case k5 => k_asm); (case kK => first | exact rfl | assumption); (case kd => ktr_room); (case ku => ktr_units); k_whole); intro t9 h9 tk9 F9 N9; (try dsimp only); (try k_fold))
  k_with "call ref" => (k_here; (with_reducible show wpAny _ _ (call (Value.ref 78) [Value.str _ _]) _ _ _); k_dflt (refine' Claim.use (c_magicF _ _ _ ?k0 ?k9) ?k1 ?k2 ?k3 ?k4 ?k5 ?kK ?kd ?ku ?_; (case k9 => assumption); (case k0 => first | assumption | omega); (case k1 => k_asm); (case k2 => k_asm); (case k3 => k_asm); (case k4 => k_asm); (case k5 => k_asm); (case kK => first | exact rfl | assumption); (case kd => ktr_room); (case ku => ktr_units); k_whole); intro t9 h9 tk9 F9 N9; (try dsimp only); (try k_fold))
  k_with "call ref" => (k_here; (with_reducible show wpAny _ _ (call (Value.ref 92) [Value.str _ _]) _ _ _); k_dflt (refine' Claim.use (c_incT _ _ _ ?k0 ?k9) ?k1 ?k2 ?k3 ?k4 ?k5 ?kK ?kd ?ku ?_; (case k9 => assumption); (case k0 => first | assumption | omega); (case k1 => k_asm); (case k2 => k_asm); (case k3 => k_asm); (case k4 => k_asm); (case k5 => k_asm); (case kK => first | exact rfl | assumption); (case kd => ktr_room); (case ku => ktr_units); k_whole); intro t9 h9 tk9 F9 N9; (try dsimp only); (try k_fold))
  k_with "call ref" => (k_here; (with_reducible show wpAny _ _ (call (Value.ref 42) [Value.str _ _, Value.int 64 _]) _ _ _); (rename (∀ (t u : Tok), Claim _ 42 2 _ _) => hC9); k_dflt (refine' Claim.use (hC9 _ _) ?k1 ?k2 ?k3 ?k4 ?k5 ?kK ?kd ?ku ?_; (case k1 => k_asm); (case k2 => k_asm); (case k3 => k_asm); (case k4 => k_asm); (case k5 => k_asm); (case kK => first | exact rfl | assumption); (case kd => ktr_room); (case ku => ktr_units); k_whole); intro t9 h9 tk9 F9 N9; (try dsimp only); (try k_fold))
  k_with "call ref" => (k_here; (with_reducible show wpAny _ _ (call (Value.ref 28) [Value.int _ _, Value.int _ _, Value.int 64 _]) _ _ _); k_dflt (refine' Claim.use (c_add _ _ _ _ _ _ ?k0 ?k9) ?k1 ?k2 ?k3 ?k4 ?k5 ?kK ?kd ?ku ?_; (case k0 => first | assumption | omega); (case k9 => first | assumption | omega); (case k1 => k_asm); (case k2 => k_asm); (case k3 => k_asm); (case k4 => k_asm); (case k5 => k_asm); (case kK => first | exact rfl | assumption); (case kd => ktr_room); (case ku => ktr_units); k_whole); intro t9 h9 tk9 F9 N9; (try dsimp only); (try k_fold))
  k_with "call ref" => (k_here; (with_reducible show wpAny _ _ (call (Value.ref 71) [Value.str _ _, Value.ref _]) _ _ _); (rename (∀ (t u : Tok), Claim _ 42 2 _ _) => hC9); k_dflt (refine' ClaimN.use (c_ton _ _ _ _ _ hC9) ?k1 ?k2 ?k3 ?k4 ?k5 ?kK ?kd ?ku ?kP ?_; (case k1 => k_asm); (case k2 => k_asm); (case k3 => k_asm); (case k4 => k_asm); (case k5 => k_asm); (case kK => first | exact rfl | assumption); (case kd => ktr_room); (case ku => ktr_units); (case kP => exact ⟨_, _, _, _, _, _, _, _, _, _, _, _, _, _, _, _, by assumption, by assumption⟩); k_whole); intro t9 h9 tk9 F9 N9; (try dsimp only); (try k_fold))
  unfold ClaimN
  dsimp only [CbRet]; intros; rename_i hl _ _ _ _ _ _ _ _ hret
  obtain ⟨ld, h1, h2, h3, h4, h5, k1, k2, k3, k4, k5, t1, v2, v3, v4, v5, hm1, hm2⟩ := hl
  refine wpAny_call ?_
  k_dflt cell_enter
  k_steps
  all_goals exact cb_retI hret rfl (by assumption) (by assumption)
set_option maxRecDepth 100000 in
set_option maxHeartbeats 8000000 in
theorem c_ivM (w : World) (x : Str) (t : Tok) (lx : Addr) (hx : x.length ≤ 1000) (hM : magicB x = true) : Claim w 99 4 [.str x t, .ref lx] (fun s => .str (incS x) s) := by
  k_with_none
  w_top off
  k_with "call ref" => (k_here; (with_reducible show wpAny _ _ (call (Value.ref 78) [Value.str _ _]) _ _ _); k_dflt (refine' Claim.use (c_magicT _ _ _ ?k0 ?k9) ?k1 ?k2 ?k3 ?k4 ?k5 ?kK ?kd ?ku ?_; (case k9 => assumption); (case k0 => first | assumption | omega); (case k1 => k_asm); (case k2 => k_asm); (case k3 => k_asm); (case k4 => k_asm); (case k5 => k_asm); (case kK => first | exact rfl | assumption); (case kd => ktr_room); (case ku => ktr_units); k_whole); intro t9 h9 tk9 F9 N9; (try dsimp only); (try k_fold))
  k_with "call ref" => (k_here; (with_reducible show wpAny _ _ (call (Value.ref 78) [Value.str _ _]) _ _ _); k_dflt (refine' Claim.use (c_magicF _ _ _ ?k0 ?k9) ?k1 ?k2 ?k3 ?k4 ?k5 ?kK ?kd ?ku ?_; (case k9 => assumption); (case k0 => first | assumption | omega); (case k1 => k_asm); (case k2 => k_asm); (case k3 => k_asm); (case k4 => k_asm); (case k5 => k_asm); (case kK => first | exact rfl | assumption); (case kd => ktr_room); (case ku => ktr_units); k_whole); intro t9 h9 tk9 F9 N9; (try dsimp only); (try k_fold))
  k_with "call ref" => (k_here; (with_reducible show wpAny _ _ (call (Value.ref 92) [Value.str _ _]) _ _ _); k_dflt (refine' Claim.use (c_incT _ _ _ ?k0 ?k9) ?k1 ?k2 ?k3 ?k4 ?k5 ?kK ?kd ?ku ?_; (case k9 => assumption); (case k0 => first | assumption | omega); (case k1 => k_asm); (case k2 => k_asm); (case k3 => k_asm); (case k4 => k_asm); (case k5 => k_asm); (case kK => first | exact rfl | assumption); (case kd => ktr_room); (case ku => ktr_units); k_whole); intro t9 h9 tk9 F9 N9; (try dsimp only); (try k_fold))
  k_with "call ref" => (k_here; (with_reducible show wpAny _ _ (call (Value.ref 42) [Value.str _ _, Value.int 64 _]) _ _ _); (rename (∀ (t u : Tok), Claim _ 42 2 _ _) => hC9); k_dflt (refine' Claim.use (hC9 _ _) ?k1 ?k2 ?k3 ?k4 ?k5 ?kK ?kd ?ku ?_; (case k1 => k_asm); (case k2 => k_asm); (case k3 => k_asm); (case k4 => k_asm); (case k5 => k_asm); (case kK => first | exact rfl | assumption); (case kd => ktr_room); (case ku => ktr_units); k_whole); intro t9 h9 tk9 F9 N9; (try dsimp only); (try k_fold))
  k_with "call ref" => (k_here; (with_reducible show wpAny _ _ (call (Value.ref 28) [Value.int _ _, Value.int _ _, Value.int 64 _]) _ _ _); k_dflt (refine' Claim.use (c_add _ _ _ _ _ _ ?k0 ?k9) ?k1 ?k2 ?k3 ?k4 ?k5 ?kK ?kd ?ku ?_; (case k0 => first | assumption | omega); (case k9 => first | assumption | omega); (case k1 => k_asm); (case k2 => k_asm); (case k3 => k_asm); (case k4 => k_asm); (case k5 => k_asm); (case kK => first | exact rfl | assumption); (case kd => ktr_room); (case ku => ktr_units); k_whole); intro t9 h9 tk9 F9 N9; (try dsimp only); (try k_fold))
  k_with "call ref" => (k_here; (with_reducible show wpAny _ _ (call (Value.ref 71) [Value.str _ _, Value.ref _]) _ _ _); (rename (∀ (t u : Tok), Claim _ 42 2 _ _) => hC9); k_dflt (refine' ClaimN.use (c_ton _ _ _ _ _ hC9) ?k1 ?k2 ?k3 ?k4 ?k5 ?kK ?kd ?ku ?kP ?_; (case k1 => k_asm); (case k2 => k_asm); (case k3 => k_asm); (case k4 => k_asm); (case k5 => k_asm); (case kK => first | exact rfl | assumption); (case kd => ktr_room); (case ku => ktr_units); (case kP => exact ⟨_, _, _, _, _, _, _, _, _, _, _, _, _, _, _, _, by assumption, by assumption⟩); k_whole); intro t9 h9 tk9 F9 N9; (try dsimp only); (try k_fold))
  unfold Claim
  dsimp only [CbRet]; intros; rename_i hret
  refine wpAny_call ?_
  k_dflt cell_enter
  k_steps
  all_goals exact cb_retS hret rfl (by assumption) (by assumption)
end PartC5
section PartC10
local macro_rules | `(tactic| walk_at "call ref") => `(tactic| k_extra "call ref")
local macro_rules | `(tactic| walk_at "exec For Name Subscript cons nil") => `(tactic| (k_here; kstt_has; (rename Fr _ _ _ _ => lF'); (with_unfolding_all refine' For_invVF lF' ?k1 ?k2 ?_; (case k1 => exact rfl); (case k2 => exact rfl); k_whole)))
theorem slice_e : numF (KStt.codes (Txt.slice (Str.ofString "") (some 0) (some 0))) = 0 := by decide +kernel
theorem num_e {f : Int} (h : f = numF (KStt.codes (Txt.slice (Str.ofString "") (some 0) (some 0)))) : f = 0 := by rw [h, slice_e]
set_option maxRecDepth 100000 in
set_option maxHeartbeats 8000000 in
theorem c_num0 (w : World) (t u : Tok) : Claim w 42 2 [.str (Str.ofString "") t, .int 64 u] (fun v => .int 0 v) := by
  k_with_none
  w_top off
  k_with "call ref" => (k_here; (with_reducible show wpAny _ _ (call (Value.ref 21) [Value.int _ _, Value.int 64 _]) _ _ _); k_dflt (refine' Claim.use (c_wrap _ _ _ _ ?k0 ?k9) ?k1 ?k2 ?k3 ?k4 ?k5 ?kK ?kd ?ku ?_; (case k0 => first | assumption | omega); (case k9 => first | assumption | omega); (case k1 => k_asm); (case k2 => k_asm); (case k3 => k_asm); (case k4 => k_asm); (case k5 => k_asm); (case kK => first | exact rfl | assumption); (case kd => ktr_room); (case ku => ktr_units); k_whole); intro t9 h9 tk9 F9 N9; (try dsimp only); (try k_fold))
  k_with "call ref" => (k_here; (with_reducible show wpAny _ _ (call (Value.ref 35) [Value.str (Str.ofString "") _]) _ _ _); k_dflt (refine' ClaimO.use (c_head0 _ _) ?k1 ?k2 ?k3 ?k4 ?k5 ?kK ?kd ?ku ?_; (case k1 => k_asm); (case k2 => k_asm); (case k3 => k_asm); (case k4 => k_asm); (case k5 => k_asm); (case kK => first | exact rfl | assumption); (case kd => ktr_room); (case ku => ktr_units); k_whole); intro y9 o9 h9 tk9 hR9 hne9 F9 N9; obtain ⟨ta9, tb9, hR9⟩ := hR9; subst hR9; (try dsimp only); (try k_fold))
  have hv9 := slice_e
  k_with "pyIter str" => k_state (fun pre n => 0 ≤ n ∧ n < 18446744073709551616 ∧ n = numF pre) "n"
  k_with "state" => first | exact num_start | exact num_skip (by assumption) (by assumption) (by assumption) (by assumption) | exact num_dig (by assumption) (by assumption)
  unfold Claim
  dsimp only [CbRet]; intros; rename_i hret
  refine wpAny_call ?_
  k_dflt cell_enter
  k_steps
  all_goals exact cb_retI hret (num_e (by assumption)) (by assumption) (news_tail (by assumption))
theorem num_letter {w : World} {x : Str} {c : Nat} {l : List Nat} (hx : x.length ≤ 1000) (h : cs x = c :: l) (hc : isL c = true) : ∀ (t u : Tok), Claim w 42 2 [.str x t, .int 64 u] (fun s => .int 0 s) := fun t u => by
  have h0 : 0 < x.length := by rw [← cs_len, h]; exact Nat.succ_pos _
  have hs := sg0_head h
  have hp := isL_plain hc
  have he := head_letter (x := x) (by rw [hs]; exact hc) h0
  have hn := num_none he
  have := c_num w x t u hx h0 (by rw [hs]; exact hp.1) (by rw [hs]; exact hp.2.1) (fun _ => he) (by omega) (by omega) (by rw [hn]; decide)
  unfold numT at this
  rw [hn] at this
  exact this
theorem num_minus {w : World} {x : Str} {c : Nat} {l : List Nat} (hx : x.length ≤ 1000) (h : cs x = 45 :: c :: l) (hc : isL c = true) : ∀ (t u : Tok), Claim w 42 2 [.str x t, .int 64 u] (fun s => .int 0 s) := fun t u => by
  have h0 : 1 < x.length := by rw [← cs_len, h, List.length_cons, List.length_cons]; omega
  have hs := sg0_head h
  have hs1 := sg1_head h
  have he := head_minus hs (by rw [hs1]; exact hc) h0
  have hn := num_none he
  have := c_num w x t u hx (by omega) (by rw [hs]; decide) (by rw [hs]; decide) (fun _ => he) (by omega) (by omega) (by rw [hn]; decide)
  unfold numT at this
  rw [hn] at this
  exact this
theorem num_seven {w : World} {x : Str} {c : Nat} {l : List Nat} (hx : x.length ≤ 1000) (h : cs x = 55 :: c :: l) (hc : isL c = true) : ∀ (t u : Tok), Claim w 42 2 [.str x t, .int 64 u] (fun s => .int 7 s) := fun t u => by
  have h0 : 1 < x.length := by rw [← cs_len, h, List.length_cons, List.length_cons]; omega
  have hs := sg0_head h
  have hs1 := sg1_head h
  have he := head_fig (by rw [hs]; decide) (by rw [hs1]; exact hc) h0
  have hn := num_fig he h
  have := c_num w x t u hx (by omega) (by rw [hs]; decide) (by rw [hs]; decide) (fun e => by rw [hs] at e; exact absurd e (by decide)) (by omega) (by omega) (by rw [hn]; decide)
  unfold numT at this
  rw [hn] at this
  exact this
theorem num_12 {w : World} : ∀ (t u : Tok), Claim w 42 2 [.str (Str.ofString "12") t, .int 64 u] (fun s => .int 12 s) := fun t u => by
  have hn : numF (KStt.codes (Txt.slice (Str.ofString "12") (some 0) (some (headE (Str.ofString "12"))))) = 12 := by decide +kernel
  have := c_num w (Str.ofString "12") t u (by decide +kernel) (by decide +kernel) (by decide +kernel) (by decide +kernel) (by decide +kernel) (by decide +kernel) (by decide +kernel) (by rw [hn]; decide)
  unfold numT at this
  rw [hn] at this
  exact this
theorem b1 {w : World} {x : Str} {t : Tok} {lx : Addr} (hx : x.length ≤ 900) (h : magicB x = true) : ClaimN w 99 4 [.str (x ++ Str.ofString "-") t, .ref lx] (LimIn lx) (fun s => .int 1 s) := by
  obtain ⟨c, l, h1, h2⟩ := magic_sg0 h
  have hl : (x ++ Str.ofString "-").length ≤ 1000 := by rw [Str.length_append, ← cs_len (Str.ofString "-"), cs_minus]; show _ + 1 ≤ _; omega
  exact c_ivN w _ t lx 0 hl (m1 h) (by decide) (by decide) (num_letter hl (by rw [cs_app, h1]; rfl) h2)
theorem b2 {w : World} {x : Str} {t : Tok} {lx : Addr} (hx : x.length ≤ 900) (h : magicB x = true) : ClaimN w 99 4 [.str (Str.ofString "-" ++ x) t, .ref lx] (LimIn lx) (fun s => .int 1 s) := by
  obtain ⟨c, l, h1, h2⟩ := magic_sg0 h
  have hl : (Str.ofString "-" ++ x).length ≤ 1000 := by rw [Str.length_append, ← cs_len (Str.ofString "-"), cs_minus]; show 1 + _ ≤ _; omega
  exact c_ivN w _ t lx 0 hl (m2 x) (by decide) (by decide) (num_minus hl (by rw [cs_app, h1, cs_minus]; rfl) h2)
theorem b3a {w : World} {x : Str} {t : Tok} {lx : Addr} (hx : x.length ≤ 900) (h : magicB x = true) (hz : (Builtin.Str.occurrences (Str.ofString "0123456789") (Txt.item x (-1)) 0 (Str.ofString "0123456789").length 1).isEmpty = false) : ClaimN w 99 4 [.str (x ++ Str.ofString "z") t, .ref lx] (LimIn lx) (fun s => .int 1 s) := by
  obtain ⟨c, l, h1, h2⟩ := magic_sg0 h
  have hl : (x ++ Str.ofString "z").length ≤ 1000 := by rw [Str.length_append, ← cs_len (Str.ofString "z"), cs_z]; show _ + 1 ≤ _; omega
  exact c_ivN w _ t lx 0 hl (m3a h hz) (by decide) (by decide) (num_letter hl (by rw [cs_app, h1]; rfl) h2)
theorem b3b {w : World} {x : Str} {t : Tok} {lx : Addr} (hx : x.length ≤ 900) (h : magicB x = true) : ClaimN w 99 4 [.str (x ++ Str.ofString "0a") t, .ref lx] (LimIn lx) (fun s => .int 1 s) := by
  obtain ⟨c, l, h1, h2⟩ := magic_sg0 h
  have hl : (x ++ Str.ofString "0a").length ≤ 1000 := by rw [Str.length_append, ← cs_len (Str.ofString "0a"), cs_0a]; show _ + 2 ≤ _; omega
  exact c_ivN w _ t lx 0 hl (m3b h) (by decide) (by decide) (num_letter hl (by rw [cs_app, h1]; rfl) h2)
theorem b4 {w : World} {t : Tok} {lx : Addr} : ClaimN w 99 4 [.str (Str.ofString "12") t, .ref lx] (LimIn lx) (fun s => .int 13 s) :=
  c_ivN w _ t lx 12 (by decide +kernel) m4 (by decide) (by decide) num_12
theorem b5 {w : World} {x : Str} {t : Tok} {lx : Addr} (hx : x.length ≤ 900) (h : magicB x = true) : ClaimN w 99 4 [.str (Str.ofString "7" ++ x) t, .ref lx] (LimIn lx) (fun s => .int 8 s) := by
  obtain ⟨c, l, h1, h2⟩ := magic_sg0 h
  have hl : (Str.ofString "7" ++ x).length ≤ 1000 := by rw [Str.length_append, ← cs_len (Str.ofString "7"), cs_seven]; show 1 + _ ≤ _; omega
  exact c_ivN w _ t lx 7 hl (m5 x) (by decide) (by decide) (num_seven hl (by rw [cs_app, h1, cs_seven]; rfl) h2)
theorem b6 {w : World} {t : Tok} {lx : Addr} : ClaimN w 99 4 [.str (Str.ofString "") t, .ref lx] (LimIn lx) (fun s => .int 1 s) :=
  c_ivN w _ t lx 0 (by decide +kernel) m6 (by decide) (by decide) (c_num0 w)
end PartC10
section PartLw
theorem Claim.use2 {w : World} {f : Addr} {d : Nat} {vs : List Value} {R : Tok → Value} (C : Claim w f d vs R)
    {news : List (Addr × Obj)} {p : Program} {loose : List Str} {mean : ExcName → Option Value} {mg mb : Str → Option Value}
    {dp un : Nat} {gd : Option (List Code)} {cn : Str} {cs : Scope} {a : Addr} {ccd : Value} {cl : List (Str × Addr)} {outer : List Env} {A₀ : Around} {base h₀ : Heap} {L : Addr} {m : Str → Option Value} {s : Shared} {Q E : Value → Shared → Prop}
    (U : Below A₀ base outer h₀ ∧ Fr h₀ L s.heap m ∧ (hd.heap_39 w.params).In h₀ ∧ News h₀ L s.heap news ∧ Top p loose mean mg mb h₀ ∧ cs.kind = .function ∧ dp + d < recursionLimit ∧ un + 8 * d < cLine)
    (ret : CbRet h₀ L m news s Q R) :
      wpAny (model PySem.Challenge.rw_nz0177_01.row.prog w) (ktrTop dp un gd cn cs L a ccd cl outer) (call (.ref f) vs) Q E s :=
  C.use U.1 U.2.1 U.2.2.1 U.2.2.2.1 U.2.2.2.2.1 U.2.2.2.2.2.1 U.2.2.2.2.2.2.1 U.2.2.2.2.2.2.2 ret
theorem ClaimN.use2 {w : World} {f : Addr} {d : Nat} {vs : List Value} {Pn : List (Addr × Obj) → Prop} {R : Tok → Value} (C : ClaimN w f d vs Pn R)
    {news : List (Addr × Obj)} {p : Program} {loose : List Str} {mean : ExcName → Option Value} {mg mb : Str → Option Value}
    {dp un : Nat} {gd : Option (List Code)} {cn : Str} {cs : Scope} {a : Addr} {ccd : Value} {cl : List (Str × Addr)} {outer : List Env} {A₀ : Around} {base h₀ : Heap} {L : Addr} {m : Str → Option Value} {s : Shared} {Q E : Value → Shared → Prop}
    (U : Below A₀ base outer h₀ ∧ Fr h₀ L s.heap m ∧ (hd.heap_39 w.params).In h₀ ∧ News h₀ L s.heap news ∧ Top p loose mean mg mb h₀ ∧ cs.kind = .function ∧ dp + d < recursionLimit ∧ un + 8 * d < cLine)
    (hP : Pn news) (ret : CbRet h₀ L m news s Q R) :
      wpAny (model PySem.Challenge.rw_nz0177_01.row.prog w) (ktrTop dp un gd cn cs L a ccd cl outer) (call (.ref f) vs) Q E s :=
  C.use U.1 U.2.1 U.2.2.1 U.2.2.2.1 U.2.2.2.2.1 U.2.2.2.2.2.1 U.2.2.2.2.2.2.1 U.2.2.2.2.2.2.2 hP ret
theorem ClaimO.use2 {w : World} {f : Addr} {d : Nat} {vs : List Value} {R : Obj → Prop} (C : ClaimO w f d vs R)
    {news : List (Addr × Obj)} {p : Program} {loose : List Str} {mean : ExcName → Option Value} {mg mb : Str → Option Value}
    {dp un : Nat} {gd : Option (List Code)} {cn : Str} {cs : Scope} {a : Addr} {ccd : Value} {cl : List (Str × Addr)} {outer : List Env} {A₀ : Around} {base h₀ : Heap} {L : Addr} {m : Str → Option Value} {s : Shared} {Q E : Value → Shared → Prop}
    (U : Below A₀ base outer h₀ ∧ Fr h₀ L s.heap m ∧ (hd.heap_39 w.params).In h₀ ∧ News h₀ L s.heap news ∧ Top p loose mean mg mb h₀ ∧ cs.kind = .function ∧ dp + d < recursionLimit ∧ un + 8 * d < cLine)
    (ret : ∀ (y : Addr) (o : Obj) (h' : Heap) (tk' : Nat), R o → (∀ q ∈ news, q.1 ≠ y) → Fr h₀ L h' m → News h₀ L h' ((y, o) :: news) → Q (.ref y) { s with heap := h', toks := tk' }) :
      wpAny (model PySem.Challenge.rw_nz0177_01.row.prog w) (ktrTop dp un gd cn cs L a ccd cl outer) (call (.ref f) vs) Q E s :=
  C.use U.1 U.2.1 U.2.2.1 U.2.2.2.1 U.2.2.2.2.1 U.2.2.2.2.2.1 U.2.2.2.2.2.2.1 U.2.2.2.2.2.2.2 ret
theorem ClaimS.use2 {w : World} {f : Addr} {d : Nat} {l : Addr} {us : List Value} {vs : List Value} {R : Value → Prop} (C : ClaimS w f d l us vs R)
    {news : List (Addr × Obj)} {p : Program} {loose : List Str} {mean : ExcName → Option Value} {mg mb : Str → Option Value}
    {dp un : Nat} {gd : Option (List Code)} {cn : Str} {cs : Scope} {a : Addr} {ccd : Value} {cl : List (Str × Addr)} {outer : List Env} {A₀ : Around} {base h₀ : Heap} {L : Addr} {m : Str → Option Value} {s : Shared} {Q E : Value → Shared → Prop}
    (U : Below A₀ base outer h₀ ∧ Fr h₀ L s.heap m ∧ (hd.heap_39 w.params).In h₀ ∧ News h₀ L s.heap news ∧ Top p loose mean mg mb h₀ ∧ cs.kind = .function ∧ dp + d < recursionLimit ∧ un + 8 * d < cLine)
    (hl : base.IsList l us.toArray) (ret : ∀ (v : Value) (h' : Heap) (tk' : Nat), R v → Fr h₀ L h' m → News h₀ L h' news → Q v { s with heap := h', toks := tk' }) :
      wpAny (model PySem.Challenge.rw_nz0177_01.row.prog w) (ktrTop dp un gd cn cs L a ccd cl outer) (call (.ref f) vs) Q E s :=
  C.use U.1 U.2.1 U.2.2.1 U.2.2.2.1 U.2.2.2.2.1 U.2.2.2.2.2.1 U.2.2.2.2.2.2.1 U.2.2.2.2.2.2.2 hl ret
theorem magic_all {x : Str} (h : magicB x = true) : ∀ c ∈ cs x, isA c = true := by
  obtain ⟨a, b, h1, _, h3, h4⟩ := magic_wf h
  intro c hc
  rw [h1] at hc
  unfold isA
  rw [Bool.or_eq_true]
  rcases List.mem_append.mp hc with hc | hc
  · exact .inl (h3 c hc)
  · exact .inr (h4 c hc)
theorem len_app {x y : Str} (hx : x.length ≤ 8) (hy : y.length ≤ 8) : (x ++ y).length ≤ 1000 := by
  rw [Str.length_append]; omega
theorem len_lit {x : String} (h : (Str.ofString x).length ≤ 1000) : (Str.ofString x).length ≤ 1000 := h
theorem add_q {prog : Program} {w : World} {A : Around} {E : Value → Shared → Prop} {s : Shared} {x y : Str} {t u : Tok} {Q : Value → Shared → Prop} (hx : x.length ≤ 8) (hy : y.length ≤ 8) (h : ∀ t' k, Q (.str (x ++ y) t') { s with toks := k }) :
    wpAny (model prog w) A (binaryOp .Add (.str x t) (.str y u)) Q E s := KXadd.add hx hy (by decide) fun t' k _ => h t' k
theorem with_inc {w : World} {f : Around} {x : Str} {t : Tok} {l : Addr} {s : Shared} {Q E : Value → Shared → Prop} (hM : magicB x = true)
    (k : magicB (incS x) = true → ((incS x).length = x.length ∨ (incS x).length = x.length + 1) → wpAny (model PySem.Challenge.rw_nz0177_01.row.prog w) f (call (.ref 99) [.str x t, .ref l]) Q E s) :
    wpAny (model PySem.Challenge.rw_nz0177_01.row.prog w) f (call (.ref 99) [.str x t, .ref l]) Q E s := k (incS_magic hM) (incS_len hM)
theorem range_end {x h : Str} {r : Int} (h0 : 0 ≤ r) (e : h = behindS x ((rangeKs 0 (r - 0).toNat).length : Int)) : h = behindS x r := by
  rw [e, rangeKs_length]; congr 1; omega
theorem state0 {x : Str} (h : magicB x = true) (hL : x.length ≤ 8) : magicB x = true ∧ x.length ≤ 8 + ([] : List Int).length ∧ x = behindS x ((([] : List Int).length : Nat) : Int) := ⟨h, hL, (behS_zero h).symm⟩
theorem turn_end {x h : Str} {k : List Int} {j : Int} {r : Int} (h1 : magicB x = true) (h2 : magicB h = true) (h3 : h.length ≤ 8 + k.length) (h4 : h = behindS x (k.length : Int)) (h5 : k.length < (r - 0).toNat) (h6 : r < 31) :
    magicB (incS h) = true ∧ (incS h).length ≤ 8 + (k ++ [j]).length ∧ incS h = behindS x ((k ++ [j]).length : Int) := by
  refine ⟨incS_magic h2, ?_, ?_⟩
  · have := incS_len h2
    rw [List.length_append, List.length_singleton]; omega
  · rw [h4, behS_succ h1 (by omega) (by omega), List.length_append, List.length_singleton]; congr 1
local macro_rules | `(tactic| walk_at "eval Call") => `(tactic| k_extra "eval Call")
local macro_rules | `(tactic| walk_at "binaryOp Add str str") => `(tactic| k_extra "binaryOp Add str str")
local macro_rules | `(tactic| walk_at "call ref") => `(tactic| k_extra "call ref")
local macro_rules | `(tactic| walk_at "compareOp LtE ref ref") => `(tactic| k_extra "compareOp LtE ref ref")
set_option maxRecDepth 100000 in
set_option maxHeartbeats 20000000 in
theorem law : PySem.Challenge.rw_nz0177_01.Holds := hd (by
  k_with_none
  w_top off
  k_with "eval Call" => (k_here; (with_reducible show wpAny _ _ (eval (PySem.Expr.Call (PySem.Expr.Name _ _) _ [] _) _) _ _ _); k_dflt (refine Call_ ?_))
  k_with "binaryOp Add str str" => (k_here; (with_reducible show wpAny _ _ (binaryOp Operator.Add (Value.str _ _) (Value.str _ _)) _ _ _); (refine add_q ?k1 ?k2 ?_; (case k1 => first | with_reducible assumption | decide +kernel); (case k2 => first | with_reducible assumption | decide +kernel)); intro _ _)
  k_with "mine use" => (refine' ⟨?k1, ?k2, ?k3, ?k4, ?k5, ?kK, ?kd, ?ku⟩; (case k1 => k_asm); (case k2 => k_asm); (case k3 => k_asm); (case k4 => k_asm); (case k5 => k_asm); (case kK => first | exact rfl | assumption); (case kd => ktr_room); (case ku => ktr_units))
  k_with "call ref" => (k_here; (with_reducible show wpAny _ _ (call (Value.ref 135) [Value.ref _]) _ _ _); k_dflt (refine' ClaimS.use2 (c_text _ _ _ _ ?k6 ?k7) ?u ?kl ?_; (case k6 => assumption); (case k7 => omega); (case u => k_extra "mine use"); (case kl => assumption); k_whole); intro v9 h9 tk9 hR9 F9 N9; obtain ⟨x9, t9, hR9, hM9, hL9⟩ := hR9; subst hR9; (have hp9 := magic_pos0 hM9); (try dsimp only); (try k_fold))
  k_with "call ref" => (k_here; (with_reducible show wpAny _ _ (call (Value.ref 128) [Value.ref _, Value.int _ _, Value.int _ _]) _ _ _); k_dflt (refine' ClaimS.use2 (c_take _ _ _ _ ?k6 ?k7 _ _ _ _ ?q0 ?q1 ?q2 ?q3) ?u ?kl ?_; (case k6 => assumption); (case k7 => omega); (case q0 => omega); (case q1 => omega); (case q2 => omega); (case q3 => omega); (case u => k_extra "mine use"); (case kl => assumption); k_whole); intro v9 h9 tk9 hR9 F9 N9; k_dflt (obtain ⟨r9, t9, hR9, hr9, hs9⟩ := hR9; subst hR9); (try dsimp only); (try k_fold))
  k_with "call ref" => (k_here; (with_reducible show wpAny _ _ (call (Value.ref 78) [Value.str _ _]) _ _ _); k_dflt (refine' Claim.use2 (c_magicT _ _ _ ?k0 ?k9) ?u ?_; (case k9 => with_reducible assumption); (case k0 => first | with_reducible assumption | ((with_reducible refine len_app ?_ ?_) <;> first | with_reducible assumption | decide +kernel) | (with_reducible exact len_lit (by decide +kernel)) | omega); (case u => k_extra "mine use"); k_whole); intro t9 h9 tk9 F9 N9; (try dsimp only); (try k_fold))
  k_with "call ref" => (k_here; (with_reducible show wpAny _ _ (call (Value.ref 92) [Value.str _ _]) _ _ _); k_dflt (refine' Claim.use2 (c_incT _ _ _ ?k0 ?k9) ?u ?_; (case k9 => with_reducible assumption); (case k0 => first | with_reducible assumption | ((with_reducible refine len_app ?_ ?_) <;> first | with_reducible assumption | decide +kernel) | (with_reducible exact len_lit (by decide +kernel)) | omega); (case u => k_extra "mine use"); k_whole); intro t9 h9 tk9 F9 N9; (try dsimp only); (try k_fold))
  k_with "call ref" => (k_here; (with_reducible show wpAny _ _ (call (Value.ref 99) [Value.str _ _, Value.ref _]) _ _ _); refine with_inc (by with_reducible assumption) ?_; intro hM9 hl9; k_dflt (refine' Claim.use2 (c_ivM _ _ _ _ ?k0 ?k9) ?u ?_; (case k9 => with_reducible assumption); (case k0 => first | with_reducible assumption | ((with_reducible refine len_app ?_ ?_) <;> first | with_reducible assumption | decide +kernel) | (with_reducible exact len_lit (by decide +kernel)) | omega); (case u => k_extra "mine use"); k_whole); intro t9 h9 tk9 F9 N9; (try dsimp only); (try k_fold))
  k_with "call ref" => (k_here; (with_reducible show wpAny _ _ (call (Value.ref 152) [Value.str _ _]) _ _ _); k_dflt (refine' ClaimO.use2 (c_places _ _ _ ?k0 ?k9) ?u ?_; (case k9 => exact magic_all (by with_reducible assumption)); (case k0 => first | with_reducible assumption | ((with_reducible refine len_app ?_ ?_) <;> first | with_reducible assumption | decide +kernel) | (with_reducible exact len_lit (by decide +kernel)) | omega); (case u => k_extra "mine use"); k_whole); intro y9 o9 h9 tk9 hR9 hne9 F9 N9; obtain ⟨ys9, hR9, hI9⟩ := hR9; subst hR9; (try dsimp only); (try k_fold))
  k_with "call ref" => (k_here; (with_reducible show wpAny _ _ (call (Value.ref 147) [Value.str _ _, Value.int _ _]) _ _ _); k_dflt (refine' Claim.use2 (c_beh _ _ _ _ _ ?k0 ?k6 ?k7 ?k8 ?k9) ?u ?_; (case k9 => exact magic_all (by with_reducible assumption)); (case k0 => assumption); (case k6 => exact magic_pos0 (by with_reducible assumption)); (case k7 => omega); (case k8 => omega); (case u => k_extra "mine use"); k_whole); intro t9 h9 tk9 F9 N9; (have he9 := range_end (by assumption) (by with_reducible assumption)); subst he9; (try dsimp only); (try k_fold))
  k_with "call ref" => (k_here; (with_reducible show wpAny _ _ (call (Value.ref 78) [Value.str _ _]) _ _ _); k_dflt (refine' Claim.use2 (c_magicF _ _ _ ?k0 ?k9) ?u ?_; (case k9 => with_reducible first | exact m1 (by with_reducible assumption) | exact m2 _ | exact m3a (by with_reducible assumption) (by assumption) | exact m3b (by with_reducible assumption) | exact m4 | exact m5 _ | exact m6); (case k0 => first | with_reducible assumption | ((with_reducible refine len_app ?_ ?_) <;> first | with_reducible assumption | decide +kernel) | (with_reducible exact len_lit (by decide +kernel)) | omega); (case u => k_extra "mine use"); k_whole); intro t9 h9 tk9 F9 N9; (try dsimp only); (try k_fold))
  k_with "call ref" => (k_here; (with_reducible show wpAny _ _ (call (Value.ref 99) [Value.str _ _, Value.ref _]) _ _ _); k_dflt (refine' ClaimN.use2 ?c ?u ?kP ?_; (case c => with_reducible first | exact b1 (by omega) (by with_reducible assumption) | exact b2 (by omega) (by with_reducible assumption) | exact b3a (by omega) (by with_reducible assumption) (by assumption) | exact b3b (by omega) (by with_reducible assumption) | exact b4 | exact b5 (by omega) (by with_reducible assumption) | exact b6); (case u => k_extra "mine use"); (case kP => exact ⟨_, _, _, _, _, _, _, _, _, _, _, _, _, _, _, _, by k_mem, by k_mem⟩); k_whole); intro t9 h9 tk9 F9 N9; (try dsimp only); (try k_fold))
  k_with "compareOp LtE ref ref" => (k_here; (with_reducible show wpAny _ _ (compareOp CmpOp.LtE (Value.ref _) (Value.ref _)) _ _ _); k_dflt (refine' le_lists ?zqN ?zqa ?zqb ?zqc ?zqd ?zqe ?zqu ?_; (case zqN => k_asm); (case zqa => k_mem); (case zqb => k_mem); (case zqc => assumption); (case zqd => assumption); (case zqe => exact incS_lex (by with_reducible assumption) (by omega)); (case zqu => ktr_units); k_whole))
  k_with "pyIter ref" => k_state_given ["text"] (fun text pre here => magicB here = true ∧ here.length ≤ 8 + pre.length ∧ here = behindS text (pre.length : Int)) "here"
  k_with "state" => first | exact state0 (by with_reducible assumption) (by with_reducible assumption) | (refine' turn_end ?h1 ?h2 ?h3 ?h4 ?h5 ?h6; (case h1 => with_reducible assumption); (case h2 => with_reducible assumption); (case h3 => with_reducible assumption); (case h4 => with_reducible assumption); (case h5 => with_reducible assumption); (case h6 => with_reducible assumption))
  k_go0; (all_goals try k_fold); k_steps)
end PartLw
end Mine
set_option maxRecDepth 100000 in
set_option maxHeartbeats 8000000 in
theorem PySem.Challenge.cw_nz0177_01_holds : PySem.Challenge.rw_nz0177_01.Holds := by
  exact Mine.law
