import PyProof.Rows.All
import Wide.All
import OpenK.AllK
import Wide.FinOn
import HandS.ForMost
import HandS.TupSets
import HandS.DictComp
import HandS.Zip
import HandS.Wide
import HandS.IsInst
import HandS.SetKeys
import HandS.Deep
import HandS.Conv
import HandS.Strs
import HandS.TupLe
import HandS.TupAny
import HandS.More
import KE.SortData
import HandS.Walk
import KE.GoesEnum
import PySem.Challenge.RW_sharebags_k63_whole_shapes
import HandS.Set
import HandS.SetFor
import KE.KeyNested
set_option Elab.async false
set_option linter.all false
set_option maxRecDepth 100000
set_option maxHeartbeats 4000000
/-! MA: sorting by insertion, the order of lists of numbers (plain Lean). -/
namespace Sb

/-! ### insertion sort -/
section
variable {α : Type}
def ins (le : α → α → Bool) (x : α) : List α → List α
  | [] => [x]
  | y :: l => if le x y then x :: y :: l else y :: ins le x l
def isort (le : α → α → Bool) : List α → List α
  | [] => []
  | x :: l => ins le x (isort le l)
variable {le : α → α → Bool}
theorem ins_perm (x : α) : ∀ l, (ins le x l).Perm (x :: l)
  | [] => List.Perm.refl _
  | y :: l => by
    unfold ins
    split
    · exact List.Perm.refl _
    · exact ((ins_perm x l).cons y).trans (List.Perm.swap x y l)
theorem isort_perm : ∀ l : List α, (isort le l).Perm l
  | [] => List.Perm.refl _
  | x :: l => (ins_perm x _).trans ((isort_perm l).cons x)
structure Ord (le : α → α → Bool) : Prop where
  tot : ∀ x y, le x y = true ∨ le y x = true
  trans : ∀ x y z, le x y = true → le y z = true → le x z = true
  anti : ∀ x y, le x y = true → le y x = true → x = y
theorem ins_sorted (o : Ord le) (x : α) : ∀ l : List α, l.Pairwise (fun a b => le a b = true) → (ins le x l).Pairwise (fun a b => le a b = true)
  | [], _ => by
    show List.Pairwise _ [x]
    exact List.pairwise_singleton ..
  | y :: l, h => by
    obtain ⟨h1, h2⟩ := List.pairwise_cons.mp h
    unfold ins
    split
    · rename_i hxy
      refine List.pairwise_cons.mpr ⟨fun z hz => ?_, h⟩
      rcases List.mem_cons.mp hz with rfl | hz
      · exact hxy
      · exact o.trans _ _ _ hxy (h1 z hz)
    · rename_i hxy
      refine List.pairwise_cons.mpr ⟨fun z hz => ?_, ins_sorted o x l h2⟩
      rcases List.mem_cons.mp ((ins_perm x l).mem_iff.mp hz) with rfl | hz
      · exact (o.tot _ _).resolve_left hxy
      · exact h1 z hz
theorem isort_sorted (o : Ord le) : ∀ l : List α, (isort le l).Pairwise (fun a b => le a b = true)
  | [] => List.Pairwise.nil
  | x :: l => ins_sorted o x _ (isort_sorted o l)
/-- two sorted lists of the same things are one -/
theorem sorted_uniq (o : Ord le) : ∀ {l l' : List α}, l.Perm l' → l.Pairwise (fun a b => le a b = true) → l'.Pairwise (fun a b => le a b = true) → l = l' := by
  intro l
  induction l with
  | nil => intro l' p _ _; exact (List.nil_perm.mp p).symm
  | cons x l ih =>
    intro l' p h h'
    cases l' with
    | nil => exact absurd (List.perm_nil.mp p) (by simp)
    | cons y l' =>
      obtain ⟨h1, h2⟩ := List.pairwise_cons.mp h
      obtain ⟨h1', h2'⟩ := List.pairwise_cons.mp h'
      have e : x = y := by
        have a : x ∈ y :: l' := p.mem_iff.mp List.mem_cons_self
        have b : y ∈ x :: l := p.mem_iff.mpr List.mem_cons_self
        rcases List.mem_cons.mp a with q | q
        · exact q
        · rcases List.mem_cons.mp b with r | r
          · exact r.symm
          · exact o.anti _ _ (h1 y r) (h1' x q)
      subst e
      rw [ih (List.Perm.cons_inv p) h2 h2']
theorem isort_eq (o : Ord le) {l l' : List α} (p : l.Perm l') (h : l'.Pairwise (fun a b => le a b = true)) : isort le l = l' :=
  sorted_uniq o ((isort_perm l).trans p) (isort_sorted o l) h
theorem isort_congr (o : Ord le) {l l' : List α} (p : l.Perm l') : isort le l = isort le l' :=
  isort_eq o (p.trans (isort_perm l').symm) (isort_sorted o l')
theorem isort_id (o : Ord le) {l : List α} (h : l.Pairwise (fun a b => le a b = true)) : isort le l = l := isort_eq o (List.Perm.refl _) h
theorem isort_length (l : List α) : (isort le l).length = l.length := (isort_perm l).length_eq
theorem mem_isort {l : List α} {x : α} : x ∈ isort le l ↔ x ∈ l := (isort_perm l).mem_iff
end

/-! ### numbers -/
def sortN : List Nat → List Nat := isort fun a b => Nat.ble a b
theorem ordN : Ord fun a b : Nat => Nat.ble a b where
  tot := fun x y => by
    rcases Nat.le_total x y with h | h
    · exact .inl (Nat.ble_eq.mpr h)
    · exact .inr (Nat.ble_eq.mpr h)
  trans := fun x y z h1 h2 => Nat.ble_eq.mpr (Nat.le_trans (Nat.ble_eq.mp h1) (Nat.ble_eq.mp h2))
  anti := fun x y h1 h2 => Nat.le_antisymm (Nat.ble_eq.mp h1) (Nat.ble_eq.mp h2)
theorem sortN_perm (l : List Nat) : (sortN l).Perm l := isort_perm l
theorem sortN_congr {l l' : List Nat} (p : l.Perm l') : sortN l = sortN l' := isort_congr ordN p
theorem pw_ble {l : List Nat} : l.Pairwise (fun a b => Nat.ble a b = true) ↔ l.Pairwise (· ≤ ·) :=
  ⟨fun h => h.imp fun q => Nat.ble_eq.mp q, fun h => h.imp fun q => Nat.ble_eq.mpr q⟩
theorem sortN_eq {l l' : List Nat} (p : l.Perm l') (h : l'.Pairwise (· ≤ ·)) : sortN l = l' := isort_eq ordN p (pw_ble.mpr h)
theorem sortN_sorted (l : List Nat) : (sortN l).Pairwise (· ≤ ·) := pw_ble.mp (isort_sorted ordN l)
theorem sortN_length (l : List Nat) : (sortN l).length = l.length := (sortN_perm l).length_eq
theorem sortN_id {l : List Nat} (h : l.Pairwise (· ≤ ·)) : sortN l = l := sortN_eq (List.Perm.refl _) h
theorem lt_of_le_nodup {l : List Nat} (h : l.Pairwise (· ≤ ·)) (n : l.Nodup) : l.Pairwise (· < ·) :=
  (List.pairwise_and_iff.mpr ⟨h, n⟩).imp fun ⟨a, b⟩ => Nat.lt_of_le_of_ne a b
theorem le_of_lt_pw {l : List Nat} (h : l.Pairwise (· < ·)) : l.Pairwise (· ≤ ·) := h.imp Nat.le_of_lt
theorem nodup_of_lt {l : List Nat} (h : l.Pairwise (· < ·)) : l.Nodup := h.imp Nat.ne_of_lt

/-! ### lists of numbers, by the first that differs -/
def lexLt : List Nat → List Nat → Bool
  | _, [] => false
  | [], _ :: _ => true
  | x :: xs, y :: ys => if Nat.beq x y then lexLt xs ys else Nat.blt x y
def lexLe (a b : List Nat) : Bool := !lexLt b a
theorem lexLt_irrefl : ∀ a, lexLt a a = false
  | [] => rfl
  | x :: xs => by
    unfold lexLt
    rw [if_pos (Nat.beq_refl x)]
    exact lexLt_irrefl xs
theorem lexLt_cons (x y : Nat) (xs ys : List Nat) : lexLt (x :: xs) (y :: ys) = true ↔ x < y ∨ (x = y ∧ lexLt xs ys = true) := by
  show (if Nat.beq x y then lexLt xs ys else Nat.blt x y) = true ↔ _
  by_cases h : Nat.beq x y = true
  · rw [if_pos h]
    have e := Nat.eq_of_beq_eq_true h
    constructor
    · exact fun q => .inr ⟨e, q⟩
    · rintro (q | q)
      · omega
      · exact q.2
  · rw [if_neg h]
    have e : x ≠ y := fun q => h (by rw [q]; exact Nat.beq_refl y)
    have hb : Nat.blt x y = true ↔ x < y := by
      unfold Nat.blt
      rw [Nat.ble_eq]
      exact Iff.rfl
    rw [hb]
    constructor
    · exact .inl
    · rintro (q | q)
      · exact q
      · exact absurd q.1 e
theorem lexLt_trans : ∀ a b c, lexLt a b = true → lexLt b c = true → lexLt a c = true
  | a, b, [], _, h => by cases b <;> cases h
  | [], b, z :: zs, _, _ => rfl
  | x :: xs, [], z :: zs, h, _ => by cases h
  | x :: xs, y :: ys, z :: zs, h1, h2 => by
    rw [lexLt_cons] at h1 h2 ⊢
    rcases h1 with h1 | ⟨rfl, h1⟩
    · rcases h2 with h2 | ⟨rfl, h2⟩
      · exact .inl (Nat.lt_trans h1 h2)
      · exact .inl h1
    · rcases h2 with h2 | ⟨rfl, h2⟩
      · exact .inl h2
      · exact .inr ⟨rfl, lexLt_trans xs ys zs h1 h2⟩
theorem lexLt_tri : ∀ a b, lexLt a b = true ∨ a = b ∨ lexLt b a = true
  | [], [] => .inr (.inl rfl)
  | [], _ :: _ => .inl rfl
  | _ :: _, [] => .inr (.inr rfl)
  | x :: xs, y :: ys => by
    rw [lexLt_cons, lexLt_cons]
    rcases Nat.lt_trichotomy x y with h | rfl | h
    · exact .inl (.inl h)
    · rcases lexLt_tri xs ys with h | rfl | h
      · exact .inl (.inr ⟨rfl, h⟩)
      · exact .inr (.inl rfl)
      · exact .inr (.inr (.inr ⟨rfl, h⟩))
    · exact .inr (.inr (.inl h))
theorem lexLt_asymm {a b : List Nat} (h : lexLt a b = true) : lexLt b a = false := by
  cases q : lexLt b a with
  | false => rfl
  | true =>
    have r := lexLt_trans _ _ _ h q
    rw [lexLt_irrefl] at r
    cases r
theorem lexLe_iff {a b : List Nat} : lexLe a b = true ↔ lexLt a b = true ∨ a = b := by
  unfold lexLe
  rw [Bool.not_eq_true']
  constructor
  · intro h
    rcases lexLt_tri a b with q | q | q
    · exact .inl q
    · exact .inr q
    · rw [h] at q; cases q
  · rintro (h | rfl)
    · exact lexLt_asymm h
    · exact lexLt_irrefl _
theorem ordL : Ord lexLe where
  tot := fun x y => by
    rcases lexLt_tri x y with h | h | h
    · exact .inl (lexLe_iff.mpr (.inl h))
    · exact .inl (lexLe_iff.mpr (.inr h))
    · exact .inr (lexLe_iff.mpr (.inl h))
  trans := fun x y z h1 h2 => by
    rw [lexLe_iff] at h1 h2 ⊢
    rcases h1 with h1 | rfl
    · rcases h2 with h2 | rfl
      · exact .inl (lexLt_trans _ _ _ h1 h2)
      · exact .inl h1
    · exact h2
  anti := fun x y h1 h2 => by
    rw [lexLe_iff] at h1 h2
    rcases h1 with h1 | h1
    · rcases h2 with h2 | h2
      · rw [lexLt_asymm h1] at h2; cases h2
      · exact h2.symm
    · exact h1
def sortL : List (List Nat) → List (List Nat) := isort lexLe
theorem sortL_perm (l : List (List Nat)) : (sortL l).Perm l := isort_perm l
theorem sortL_congr {l l' : List (List Nat)} (p : l.Perm l') : sortL l = sortL l' := isort_congr ordL p
theorem sortL_eq {l l' : List (List Nat)} (p : l.Perm l') (h : l'.Pairwise (fun a b => lexLe a b = true)) : sortL l = l' := isort_eq ordL p h
theorem sortL_sorted (l : List (List Nat)) : (sortL l).Pairwise (fun a b => lexLe a b = true) := isort_sorted ordL l
theorem sortL_length (l : List (List Nat)) : (sortL l).length = l.length := (sortL_perm l).length_eq
theorem lexLt_of_nodup {l : List (List Nat)} (h : l.Pairwise (fun a b => lexLe a b = true)) (n : l.Nodup) : l.Pairwise (fun a b => lexLt a b = true) :=
  (List.pairwise_and_iff.mpr ⟨h, n⟩).imp fun ⟨a, b⟩ => (lexLe_iff.mp a).resolve_right b
theorem nodup_of_lexLt {l : List (List Nat)} (h : l.Pairwise (fun a b => lexLt a b = true)) : l.Nodup :=
  h.imp fun {a b} q e => by rw [e, lexLt_irrefl] at q; cases q
theorem lexLe_of_lt {l : List (List Nat)} (h : l.Pairwise (fun a b => lexLt a b = true)) : l.Pairwise (fun a b => lexLe a b = true) := h.imp fun q => lexLe_iff.mpr (.inl q)
end Sb

/-! MB: trees of beads and bags (plain Lean). -/
namespace Sb

/-! ### products, factorials, different things -/
def prodN (l : List Nat) : Nat := l.foldl (· * ·) 1
theorem foldl_mul (l : List Nat) : ∀ a : Nat, l.foldl (· * ·) a = a * prodN l := by
  induction l with
  | nil => intro a; exact (Nat.mul_one a).symm
  | cons x l ih =>
    intro a
    show l.foldl (· * ·) (a * x) = a * l.foldl (· * ·) (1 * x)
    rw [ih, ih (1 * x), Nat.one_mul, Nat.mul_assoc]
theorem prodN_nil : prodN [] = 1 := rfl
theorem prodN_cons (x : Nat) (l : List Nat) : prodN (x :: l) = x * prodN l := by
  show l.foldl (· * ·) (1 * x) = _
  rw [foldl_mul, Nat.one_mul]
theorem prodN_append (l l' : List Nat) : prodN (l ++ l') = prodN l * prodN l' := by
  show (l ++ l').foldl (· * ·) 1 = _
  rw [List.foldl_append, foldl_mul]
  rfl
theorem prodN_snoc (l : List Nat) (x : Nat) : prodN (l ++ [x]) = prodN l * x := by
  rw [prodN_append, prodN_cons, prodN_nil, Nat.mul_one]
theorem prodN_perm {l l' : List Nat} (p : l.Perm l') : prodN l = prodN l' := by
  induction p with
  | nil => rfl
  | cons x _ ih => rw [prodN_cons, prodN_cons, ih]
  | swap x y l => rw [prodN_cons, prodN_cons, prodN_cons, prodN_cons, Nat.mul_left_comm]
  | trans _ _ h1 h2 => exact h1.trans h2
def fact : Nat → Nat
  | 0 => 1
  | n + 1 => fact n * (n + 1)
theorem fact_pos : ∀ n, 0 < fact n
  | 0 => Nat.one_pos
  | n + 1 => Nat.mul_pos (fact_pos n) (Nat.succ_pos n)
theorem fact_le : ∀ n N, n ≤ N → fact n ≤ N ^ n
  | 0, _, _ => Nat.le_refl _
  | n + 1, N, h => by
    rw [Nat.pow_succ]
    exact Nat.mul_le_mul (fact_le n N (Nat.le_of_succ_le h)) h
def uniqA {α : Type} [DecidableEq α] : List α → List α → List α
  | acc, [] => acc
  | acc, x :: l => if x ∈ acc then uniqA acc l else uniqA (acc ++ [x]) l
def uniq {α : Type} [DecidableEq α] (l : List α) : List α := uniqA [] l
section
variable {α : Type} [DecidableEq α]
theorem mem_uniqA {x : α} : ∀ (l acc : List α), x ∈ uniqA acc l ↔ x ∈ acc ∨ x ∈ l
  | [], acc => by simp [uniqA]
  | y :: l, acc => by
    unfold uniqA
    split
    · rename_i h
      rw [mem_uniqA l acc, List.mem_cons]
      constructor
      · rintro (q | q)
        · exact .inl q
        · exact .inr (.inr q)
      · rintro (q | rfl | q)
        · exact .inl q
        · exact .inl h
        · exact .inr q
    · rw [mem_uniqA l, List.mem_append, List.mem_singleton, List.mem_cons, or_assoc]
theorem nodup_snoc {l : List α} {x : α} (h : l.Nodup) (hx : x ∉ l) : (l ++ [x]).Nodup := by
  refine List.nodup_append.mpr ⟨h, by simp, fun a ha b hb e => ?_⟩
  rw [List.mem_singleton] at hb
  subst hb; subst e
  exact hx ha
theorem nodup_uniqA : ∀ (l acc : List α), acc.Nodup → (uniqA acc l).Nodup
  | [], acc, h => h
  | y :: l, acc, h => by
    unfold uniqA
    split
    · exact nodup_uniqA l acc h
    · exact nodup_uniqA l _ (nodup_snoc h (by assumption))
theorem mem_uniq {x : α} {l : List α} : x ∈ uniq l ↔ x ∈ l := by simp [uniq, mem_uniqA]
theorem nodup_uniq (l : List α) : (uniq l).Nodup := nodup_uniqA l [] List.nodup_nil
theorem uniqA_append : ∀ (l acc l' : List α), uniqA acc (l ++ l') = uniqA (uniqA acc l) l'
  | [], acc, l' => rfl
  | y :: l, acc, l' => by
    show (if y ∈ acc then uniqA acc (l ++ l') else uniqA (acc ++ [y]) (l ++ l')) = uniqA (if y ∈ acc then uniqA acc l else uniqA (acc ++ [y]) l) l'
    split
    · exact uniqA_append l acc l'
    · exact uniqA_append l _ l'
theorem uniq_snoc (l : List α) (x : α) : uniq (l ++ [x]) = if x ∈ uniq l then uniq l else uniq l ++ [x] := by
  unfold uniq
  rw [uniqA_append]
  show (if x ∈ uniqA [] l then uniqA (uniqA [] l) [] else uniqA (uniqA [] l ++ [x]) []) = _
  split <;> rfl
theorem uniq_perm {l l' : List α} (h : ∀ x, x ∈ l ↔ x ∈ l') : (uniq l).Perm (uniq l') :=
  (List.perm_ext_iff_of_nodup (nodup_uniq l) (nodup_uniq l')).mpr fun x => by rw [mem_uniq, mem_uniq, h]
theorem uniq_length_congr {l l' : List α} (h : ∀ x, x ∈ l ↔ x ∈ l') : (uniq l).length = (uniq l').length := (uniq_perm h).length_eq
end
def swaps (ts : List (List Nat)) : Nat := prodN ((uniq ts).map fun t => fact (ts.count t))
theorem swaps_perm {ts ts' : List (List Nat)} (p : ts.Perm ts') : swaps ts = swaps ts' := by
  unfold swaps
  have e : (fun t => fact (ts.count t)) = fun t => fact (ts'.count t) := by
    funext t
    rw [p.count_eq]
  rw [e]
  exact prodN_perm ((uniq_perm fun x => p.mem_iff).map _)

/-! ### the text of a tree that hangs -/
/-- neighbors: of a bead (true) the bags' indexes, of a bag (false) the beads -/
abbrev Nb := Bool → Nat → List Nat
def ch (nb : Nb) (k : Bool) (v : Nat) (u : Option Nat) : List Nat := (nb k v).filter fun w => decide (u ≠ some w)
def txOf (k : Bool) (r : List (List Nat × Nat)) : List Nat × Nat :=
  ((if k then 40 else 91) :: ((sortL (r.map (·.1))).flatten ++ [if k then 41 else 93]), prodN (r.map (·.2)) * swaps (r.map (·.1)))
theorem txOf_perm {k : Bool} {r r' : List (List Nat × Nat)} (p : r.Perm r') : txOf k r = txOf k r' := by
  unfold txOf
  rw [sortL_congr (p.map (·.1)), prodN_perm (p.map (·.2)), swaps_perm (p.map (·.1))]
def tx (nb : Nb) : Nat → Bool → Nat → Option Nat → List Nat × Nat
  | 0, _, _, _ => ([], 1)
  | d + 1, k, v, u => txOf k ((ch nb k v u).map fun w => tx nb d (!k) w (some v))
def hgt (nb : Nb) : Nat → Bool → Nat → Option Nat → Prop
  | 0, _, _, _ => False
  | d + 1, k, v, u => ∀ w ∈ ch nb k v u, hgt nb d (!k) w (some v)
def vl (nb : Nb) : Nat → Bool → Nat → Option Nat → List (Bool × Nat)
  | 0, _, _, _ => []
  | d + 1, k, v, u => (k, v) :: (ch nb k v u).flatMap fun w => vl nb d (!k) w (some v)
theorem mem_ch {nb : Nb} {k : Bool} {v w : Nat} {u : Option Nat} : w ∈ ch nb k v u ↔ w ∈ nb k v ∧ u ≠ some w := by
  unfold ch
  rw [List.mem_filter, decide_eq_true_eq]
theorem hgt_succ {nb : Nb} : ∀ (d : Nat) (k : Bool) (v : Nat) (u : Option Nat), hgt nb d k v u → hgt nb (d + 1) k v u ∧ vl nb (d + 1) k v u = vl nb d k v u ∧ tx nb (d + 1) k v u = tx nb d k v u
  | 0, _, _, _, h => h.elim
  | d + 1, k, v, u, h => by
    have ih : ∀ w ∈ ch nb k v u, _ := fun w hw => hgt_succ d (!k) w (some v) (h w hw)
    refine ⟨fun w hw => (ih w hw).1, ?_, ?_⟩
    · show (k, v) :: (ch nb k v u).flatMap (fun w => vl nb (d + 1) (!k) w (some v)) = (k, v) :: (ch nb k v u).flatMap fun w => vl nb d (!k) w (some v)
      congr 1
      rw [List.flatMap_def, List.flatMap_def]
      congr 1
      exact List.map_congr_left fun w hw => (ih w hw).2.1
    · have e : ((ch nb k v u).map fun w => tx nb (d + 1) (!k) w (some v)) = (ch nb k v u).map fun w => tx nb d (!k) w (some v) := List.map_congr_left fun w hw => (ih w hw).2.2
      show txOf k _ = txOf k _
      rw [e]
theorem hgt_mono {nb : Nb} {d d' : Nat} {k : Bool} {v : Nat} {u : Option Nat} (h : hgt nb d k v u) (hd : d ≤ d') : hgt nb d' k v u ∧ vl nb d' k v u = vl nb d k v u ∧ tx nb d' k v u = tx nb d k v u := by
  induction d' with
  | zero =>
    have e : d = 0 := Nat.le_zero.mp hd
    subst e
    exact h.elim
  | succ d' ih =>
    rcases Nat.lt_or_ge d (d' + 1) with q | q
    · obtain ⟨a, b, c⟩ := ih (Nat.le_of_lt_succ q)
      obtain ⟨a', b', c'⟩ := hgt_succ _ _ _ _ a
      exact ⟨a', b'.trans b, c'.trans c⟩
    · have e : d = d' + 1 := Nat.le_antisymm hd q
      subst e
      exact ⟨h, rfl, rfl⟩
theorem sum_map_mul (c : Nat) {α : Type} (f : α → Nat) : ∀ l : List α, (l.map fun x => c * f x).sum = c * (l.map f).sum
  | [] => by simp
  | x :: l => by rw [List.map_cons, List.sum_cons, List.map_cons, List.sum_cons, sum_map_mul c f l, Nat.mul_add]
theorem sum_perm {l l' : List Nat} (p : l.Perm l') : l.sum = l'.sum := by
  induction p with
  | nil => rfl
  | cons x _ ih => rw [List.sum_cons, List.sum_cons, ih]
  | swap x y l => simp only [List.sum_cons]; omega
  | trans _ _ h1 h2 => exact h1.trans h2
theorem tx_len (nb : Nb) : ∀ (d : Nat) (k : Bool) (v : Nat) (u : Option Nat), (tx nb d k v u).1.length = 2 * (vl nb d k v u).length
  | 0, _, _, _ => rfl
  | d + 1, k, v, u => by
    show ((if k then 40 else 91) :: ((sortL (((ch nb k v u).map fun w => tx nb d (!k) w (some v)).map (·.1))).flatten ++ [if k then 41 else 93])).length = 2 * ((k, v) :: (ch nb k v u).flatMap fun w => vl nb d (!k) w (some v)).length
    rw [List.length_cons, List.length_append, List.length_singleton, List.length_cons, List.length_flatten, List.length_flatMap]
    have e : (List.map List.length (sortL (List.map (fun x => x.1) ((ch nb k v u).map fun w => tx nb d (!k) w (some v))))).sum = (((ch nb k v u).map fun w => 2 * (vl nb d (!k) w (some v)).length)).sum := by
      rw [sum_perm ((sortL_perm _).map List.length), List.map_map, List.map_map]
      congr 1
      exact List.map_congr_left fun w _ => tx_len nb d (!k) w (some v)
    rw [e, sum_map_mul 2 (fun w => (vl nb d (!k) w (some v)).length)]
    omega
theorem prodN_le {α : Type} (N : Nat) (f e : α → Nat) : ∀ l : List α, (∀ x ∈ l, f x ≤ N ^ e x) → prodN (l.map f) ≤ N ^ (l.map e).sum
  | [], _ => Nat.le_refl _
  | x :: l, h => by
    rw [List.map_cons, List.map_cons, prodN_cons, List.sum_cons, Nat.pow_add]
    exact Nat.mul_le_mul (h x List.mem_cons_self) (prodN_le N f e l fun y hy => h y (List.mem_cons_of_mem _ hy))
theorem length_filter_le_count {α : Type} [DecidableEq α] [BEq α] [LawfulBEq α] (x : α) (l : List α) : (l.filter fun y => decide (y ≠ x)).length + l.count x = l.length := by
  induction l with
  | nil => rfl
  | cons y l ih =>
    by_cases h : y = x
    · subst h
      rw [List.filter_cons_of_neg (by simp), List.count_cons_self, List.length_cons]
      omega
    · rw [List.filter_cons_of_pos (by simpa using h), List.count_cons_of_ne h, List.length_cons, List.length_cons]
      omega
theorem count_filter_ne {α : Type} [DecidableEq α] [BEq α] [LawfulBEq α] {x y : α} (h : y ≠ x) (l : List α) : (l.filter fun z => decide (z ≠ x)).count y = l.count y := by
  induction l with
  | nil => rfl
  | cons z l ih =>
    by_cases hz : z = x
    · subst hz
      rw [List.filter_cons_of_neg (by simp), ih, List.count_cons_of_ne (Ne.symm h)]
    · rw [List.filter_cons_of_pos (by simpa using hz), List.count_cons, List.count_cons, ih]
/-- the counts of different things are no more than all -/
theorem sum_count_le {α : Type} [DecidableEq α] [BEq α] [LawfulBEq α] : ∀ (us l : List α), us.Nodup → (us.map fun u => l.count u).sum ≤ l.length
  | [], l, _ => Nat.zero_le _
  | u :: us, l, h => by
    obtain ⟨h1, h2⟩ := List.nodup_cons.mp h
    have ih := sum_count_le us (l.filter fun y => decide (y ≠ u)) h2
    have e : (us.map fun u' => (l.filter fun y => decide (y ≠ u)).count u') = us.map fun u' => l.count u' := List.map_congr_left fun u' hu' => count_filter_ne (fun e => h1 (by rw [← e]; exact hu')) l
    rw [e] at ih
    have q := length_filter_le_count u l
    rw [List.map_cons, List.sum_cons]
    omega
theorem pow_le_of {N a b : Nat} (hN : 1 ≤ N) (h : a ≤ b) : N ^ a ≤ N ^ b := Nat.pow_le_pow_right hN h
theorem swaps_le {N : Nat} {ts : List (List Nat)} (h : ts.length ≤ N) (hN : 1 ≤ N) : swaps ts ≤ N ^ ts.length := by
  have q := prodN_le N (fun t => fact (ts.count t)) (fun t => ts.count t) (uniq ts) fun t _ => fact_le _ _ (Nat.le_trans List.count_le_length h)
  exact Nat.le_trans q (pow_le_of hN (sum_count_le _ _ (nodup_uniq ts)))
theorem vl_pos {nb : Nb} {d : Nat} {k : Bool} {v : Nat} {u : Option Nat} : 1 ≤ (vl nb (d + 1) k v u).length := by
  show 1 ≤ ((k, v) :: _).length
  rw [List.length_cons]
  omega
theorem mem_le_sum {l : List Nat} {x : Nat} (h : x ∈ l) : x ≤ l.sum := by
  induction l with
  | nil => cases h
  | cons y l ih =>
    rw [List.sum_cons]
    rcases List.mem_cons.mp h with rfl | h
    · omega
    · have := ih h; omega
theorem sum_ones {α : Type} (f : α → Nat) : ∀ l : List α, (∀ x ∈ l, 1 ≤ f x) → l.length + (l.map fun x => f x - 1).sum = (l.map f).sum
  | [], _ => rfl
  | x :: l, h => by
    have ih := sum_ones f l fun y hy => h y (List.mem_cons_of_mem _ hy)
    have hx := h x List.mem_cons_self
    rw [List.map_cons, List.map_cons, List.sum_cons, List.sum_cons, List.length_cons]
    omega
theorem tx_ways {nb : Nb} {N : Nat} (hN : 1 ≤ N) : ∀ (d : Nat) (k : Bool) (v : Nat) (u : Option Nat), hgt nb d k v u → (vl nb d k v u).length ≤ N → (tx nb d k v u).2 ≤ N ^ ((vl nb d k v u).length - 1)
  | 0, _, _, _, h, _ => h.elim
  | d + 1, k, v, u, h, hl => by
    have hl' : 1 + ((ch nb k v u).map fun w => (vl nb d (!k) w (some v)).length).sum ≤ N := by
      have q : ((k, v) :: (ch nb k v u).flatMap fun w => vl nb d (!k) w (some v)).length ≤ N := hl
      rw [List.length_cons, List.length_flatMap] at q
      omega
    have h1 : ∀ w ∈ ch nb k v u, 1 ≤ (vl nb d (!k) w (some v)).length := fun w hw => by
      cases d with
      | zero => exact (h w hw).elim
      | succ d => exact vl_pos
    have ones := sum_ones (fun w => (vl nb d (!k) w (some v)).length) (ch nb k v u) h1
    have a : prodN (((ch nb k v u).map fun w => tx nb d (!k) w (some v)).map (·.2)) ≤ N ^ ((ch nb k v u).map fun w => (vl nb d (!k) w (some v)).length - 1).sum := by
      rw [List.map_map]
      refine prodN_le N _ _ _ fun w hw => tx_ways hN d (!k) w (some v) (h w hw) ?_
      have := mem_le_sum (l := (ch nb k v u).map fun w => (vl nb d (!k) w (some v)).length) (List.mem_map.mpr ⟨w, hw, rfl⟩)
      omega
    have b : swaps (((ch nb k v u).map fun w => tx nb d (!k) w (some v)).map (·.1)) ≤ N ^ (ch nb k v u).length := by
      have q := swaps_le (N := N) (ts := ((ch nb k v u).map fun w => tx nb d (!k) w (some v)).map (·.1)) (by rw [List.length_map, List.length_map]; omega) hN
      rw [List.length_map, List.length_map] at q
      exact q
    have e : (vl nb (d + 1) k v u).length - 1 = ((ch nb k v u).map fun w => (vl nb d (!k) w (some v)).length - 1).sum + (ch nb k v u).length := by
      show ((k, v) :: (ch nb k v u).flatMap fun w => vl nb d (!k) w (some v)).length - 1 = _
      rw [List.length_cons, List.length_flatMap]
      omega
    rw [e, Nat.pow_add]
    exact Nat.mul_le_mul a b
end Sb

/-! MC: a tree grown leaf by leaf: what holds of it (plain Lean). -/
namespace Sb
theorem bne (k : Bool) : (!k) ≠ k := by cases k <;> decide
theorem bne' (k : Bool) : k ≠ (!k) := by cases k <;> decide
theorem bnn (k : Bool) : (!(!k)) = k := by cases k <;> rfl
theorem beq_or (k j : Bool) : j = k ∨ j = (!k) := by cases k <;> cases j <;> simp
def deg (nb : Nb) (L : Bool → Nat → Bool) (k : Bool) (v : Nat) : Nat := ((nb k v).filter (L (!k))).length
def ssum (f : Nat → Nat) (n : Nat) : Nat := ((List.range n).map f).sum
def dsum (nb : Nb) (c : Bool → Nat) (L : Bool → Nat → Bool) (k : Bool) : Nat := ssum (fun v => if L k v then deg nb L k v else 0) (c k)
def lcard (c : Bool → Nat) (L : Bool → Nat → Bool) (k : Bool) : Nat := ssum (fun v => if L k v then 1 else 0) (c k)
abbrev e2 (nb : Nb) (c : Bool → Nat) (L : Bool → Nat → Bool) : Nat := dsum nb c L true + dsum nb c L false
abbrev card (c : Bool → Nat) (L : Bool → Nat → Bool) : Nat := lcard c L true + lcard c L false
abbrev tot (c : Bool → Nat) : Nat := c true + c false
def lall : Bool → Nat → Bool := fun _ _ => true

structure TreeP (nb : Nb) (c : Bool → Nat) : Prop where
  inb : ∀ k v w, v < c k → w ∈ nb k v → w < c (!k)
  sym : ∀ k v w, v < c k → w ∈ nb k v → v ∈ nb (!k) w
  nd : ∀ k v, v < c k → (nb k v).Nodup
  forest : ∀ L, 1 ≤ card c L → e2 nb c L + 2 ≤ 2 * card c L
  full : e2 nb c lall + 2 = 2 * tot c
  hg : ∀ k v u, v < c k → hgt nb (2 * tot c) k v u
  ct : ∀ k v u z, v < c k → (vl nb (2 * tot c) k v u).count z ≤ 1

/-! ### sums over a range -/
theorem ssum_zero (f : Nat → Nat) : ssum f 0 = 0 := rfl
theorem ssum_succ (f : Nat → Nat) (n : Nat) : ssum f (n + 1) = ssum f n + f n := by
  unfold ssum
  rw [List.range_succ, List.map_append, List.sum_append]
  simp
theorem ssum_congr {f g : Nat → Nat} : ∀ {n : Nat}, (∀ i, i < n → f i = g i) → ssum f n = ssum g n
  | 0, _ => rfl
  | n + 1, h => by
    rw [ssum_succ, ssum_succ, ssum_congr fun i hi => h i (Nat.lt_succ_of_lt hi), h n (Nat.lt_succ_self n)]
theorem ssum_add (f g : Nat → Nat) : ∀ n, ssum (fun i => f i + g i) n = ssum f n + ssum g n
  | 0 => rfl
  | n + 1 => by
    rw [ssum_succ, ssum_succ, ssum_succ, ssum_add f g n]
    omega
theorem ssum_const0 : ∀ n, ssum (fun _ => 0) n = 0
  | 0 => rfl
  | n + 1 => by rw [ssum_succ, ssum_const0 n]
theorem ssum_point (y d : Nat) : ∀ n, y < n → ssum (fun i => if i = y then d else 0) n = d
  | 0, h => absurd h (Nat.not_lt_zero _)
  | n + 1, h => by
    rw [ssum_succ]
    rcases Nat.lt_or_ge y n with q | q
    · rw [ssum_point y d n q, if_neg (by omega), Nat.add_zero]
    · have e : y = n := by omega
      subst e
      rw [if_pos rfl, ssum_congr (g := fun _ => 0) fun i hi => if_neg (by omega), ssum_const0, Nat.zero_add]
theorem ssum_plus_point (f : Nat → Nat) {y d n : Nat} (h : y < n) : ssum (fun i => f i + if i = y then d else 0) n = ssum f n + d := by
  rw [ssum_add, ssum_point y d n h]
theorem ssum_le {f g : Nat → Nat} : ∀ {n : Nat}, (∀ i, i < n → f i ≤ g i) → ssum f n ≤ ssum g n
  | 0, _ => Nat.le_refl _
  | n + 1, h => by
    rw [ssum_succ, ssum_succ]
    exact Nat.add_le_add (ssum_le fun i hi => h i (Nat.lt_succ_of_lt hi)) (h n (Nat.lt_succ_self n))
theorem ssum_mem {f : Nat → Nat} : ∀ {n i : Nat}, i < n → f i ≤ ssum f n
  | 0, _, h => absurd h (Nat.not_lt_zero _)
  | n + 1, i, h => by
    rw [ssum_succ]
    rcases Nat.lt_or_ge i n with q | q
    · have := ssum_mem (f := f) q; omega
    · have e : i = n := by omega
      subst e; omega
theorem ssum_pos {f : Nat → Nat} : ∀ {n : Nat}, 1 ≤ ssum f n → ∃ i, i < n ∧ 1 ≤ f i
  | 0, h => absurd h (by rw [ssum_zero]; decide)
  | n + 1, h => by
    rw [ssum_succ] at h
    rcases Nat.lt_or_ge 0 (ssum f n) with q | q
    · obtain ⟨i, hi, hf⟩ := ssum_pos q
      exact ⟨i, Nat.lt_succ_of_lt hi, hf⟩
    · exact ⟨n, Nat.lt_succ_self n, by omega⟩
theorem ssum_zero_of {f : Nat → Nat} {n : Nat} (h : ssum f n = 0) {i : Nat} (hi : i < n) : f i = 0 := by
  have := ssum_mem (f := f) hi; omega
theorem ssum_one : ∀ n, ssum (fun _ => 1) n = n
  | 0 => rfl
  | n + 1 => by rw [ssum_succ, ssum_one n]
/-- a sum over a range, its turns renamed -/
theorem ssum_perm {f : Nat → Nat} {p : Nat → Nat} {n : Nat} (h : ((List.range n).map p).Perm (List.range n)) : ssum (fun i => f (p i)) n = ssum f n := by
  unfold ssum
  have q := sum_perm (h.map f)
  rw [List.map_map] at q
  exact q

/-! ### a leaf -/
def addL (nb : Nb) (k : Bool) (x y : Nat) : Nb := fun j v => if j = k ∧ v = x then [y] else if j = (!k) ∧ v = y then nb j v ++ [x] else nb j v
def cup (c : Bool → Nat) (k : Bool) : Bool → Nat := fun j => if j = k then c j + 1 else c j
theorem cup_self (c : Bool → Nat) (k : Bool) : cup c k k = c k + 1 := if_pos rfl
theorem cup_ne (c : Bool → Nat) (k : Bool) : cup c k (!k) = c (!k) := if_neg (bne k)
theorem tot_cup (c : Bool → Nat) (k : Bool) : tot (cup c k) = tot c + 1 := by
  cases k <;> simp [tot, cup] <;> omega
theorem sum_two (f : Bool → Nat) (k : Bool) : f true + f false = f k + f (!k) := by cases k <;> simp <;> omega

section
variable {nb : Nb} {c : Bool → Nat} {k : Bool} {y : Nat}
theorem addL_x {nb : Nb} {k : Bool} {x y : Nat} : addL nb k x y k x = [y] := if_pos ⟨rfl, rfl⟩
theorem addL_y {nb : Nb} {k : Bool} {x y : Nat} : addL nb k x y (!k) y = nb (!k) y ++ [x] := by
  unfold addL
  rw [if_neg (fun h => bne k h.1), if_pos ⟨rfl, rfl⟩]
theorem addL_k {nb : Nb} {k : Bool} {x y v : Nat} (h : v ≠ x) : addL nb k x y k v = nb k v := by
  unfold addL
  rw [if_neg (fun q => h q.2), if_neg (fun q => bne' k q.1)]
theorem addL_nk {nb : Nb} {k : Bool} {x y v : Nat} (h : v ≠ y) : addL nb k x y (!k) v = nb (!k) v := by
  unfold addL
  rw [if_neg (fun q => bne k q.1), if_neg (fun q => h q.2)]

/-- what hangs at an old node, behind the leaf -/
theorem grow1 (inb : ∀ k v w, v < c k → w ∈ nb k v → w < c (!k)) (hy : y < c (!k)) : ∀ (d : Nat) (j : Bool) (v : Nat) (u : Option Nat), v < c j → ¬ (j = (!k) ∧ v = y ∧ u = some (c k)) → hgt nb d j v u →
    hgt (addL nb k (c k) y) (d + 1) j v u ∧ (∀ z, z ≠ (k, c k) → (vl (addL nb k (c k) y) (d + 1) j v u).count z = (vl nb d j v u).count z) ∧
      (vl (addL nb k (c k) y) (d + 1) j v u).count (k, c k) = (vl nb d j v u).count (!k, y)
  | 0, _, _, _, _, _, h => h.elim
  | d + 1, j, v, u, hv, hn, h => by
    have ih : ∀ w ∈ ch nb j v u, _ := fun w hw => grow1 inb hy d (!j) w (some v) (inb j v w hv (mem_ch.mp hw).1) (fun ⟨e1, e2, e3⟩ => by
      have e3 : v = c k := Option.some.inj e3
      have e4 : j = k := by rw [← bnn j, e1, bnn]
      subst e4
      omega) (h w hw)
    have hleaf : hgt (addL nb k (c k) y) (d + 1) k (c k) (some y) ∧ vl (addL nb k (c k) y) (d + 1) k (c k) (some y) = [(k, c k)] := by
      have e : ch (addL nb k (c k) y) k (c k) (some y) = [] := by
        unfold ch
        rw [addL_x]
        simp
      constructor
      · intro w hw
        rw [e] at hw
        cases hw
      · show (k, c k) :: (ch (addL nb k (c k) y) k (c k) (some y)).flatMap _ = _
        rw [e]
        rfl
    have cnt1 : ∀ z, z ≠ (k, c k) → ((ch nb j v u).map fun w => (vl (addL nb k (c k) y) (d + 1) (!j) w (some v)).count z).sum = ((ch nb j v u).map fun w => (vl nb d (!j) w (some v)).count z).sum := fun z hz => by
      congr 1
      exact List.map_congr_left fun w hw => (ih w hw).2.1 z hz
    have cnt2 : ((ch nb j v u).map fun w => (vl (addL nb k (c k) y) (d + 1) (!j) w (some v)).count (k, c k)).sum = ((ch nb j v u).map fun w => (vl nb d (!j) w (some v)).count (!k, y)).sum := by
      congr 1
      exact List.map_congr_left fun w hw => (ih w hw).2.2
    by_cases hjy : j = (!k) ∧ v = y
    · obtain ⟨rfl, rfl⟩ := hjy
      have hu : u ≠ some (c k) := fun e => hn ⟨rfl, rfl, e⟩
      have ec : ch (addL nb k (c k) v) (!k) v u = ch nb (!k) v u ++ [c k] := by
        unfold ch
        rw [addL_y, List.filter_append]
        congr 1
        rw [List.filter_cons_of_pos (by simpa using hu), List.filter_nil]
      have hl2 : vl (addL nb k (c k) v) (d + 2) (!k) v u = (!k, v) :: ((ch nb (!k) v u).flatMap (fun w => vl (addL nb k (c k) v) (d + 1) (!(!k)) w (some v)) ++ [(k, c k)]) := by
        show (!k, v) :: (ch (addL nb k (c k) v) (!k) v u).flatMap (fun w => vl (addL nb k (c k) v) (d + 1) (!(!k)) w (some v)) = _
        rw [ec, List.flatMap_append]
        congr 2
        rw [List.flatMap_cons, List.flatMap_nil, List.append_nil, bnn]
        exact hleaf.2
      refine ⟨fun w hw => ?_, fun z hz => ?_, ?_⟩
      · rw [ec] at hw
        rcases List.mem_append.mp hw with hw | hw
        · exact (ih w hw).1
        · rw [List.mem_singleton.mp hw, bnn]
          exact hleaf.1
      · rw [hl2]
        show _ = ((!k, v) :: (ch nb (!k) v u).flatMap fun w => vl nb d (!(!k)) w (some v)).count z
        rw [List.count_cons, List.count_cons, List.count_append, List.count_flatMap, List.count_flatMap]
        have e0 : List.count z [(k, c k)] = 0 := by
          rw [List.count_singleton]
          simp [Ne.symm hz]
        have := cnt1 z hz
        simp only [Function.comp_def] at *
        omega
      · rw [hl2]
        show _ = ((!k, v) :: (ch nb (!k) v u).flatMap fun w => vl nb d (!(!k)) w (some v)).count (!k, v)
        rw [List.count_cons, List.count_cons_self, List.count_append, List.count_flatMap, List.count_flatMap]
        have e0 : List.count (k, c k) [(k, c k)] = 1 := by simp
        have e1 : ((!k, v) == (k, c k)) = false := by
          rw [beq_eq_false_iff_ne]
          intro q
          exact bne k (Prod.mk.inj q).1
        simp only [Function.comp_def] at *
        rw [e1]
        simp only [Bool.false_eq_true, if_false]
        omega
    · have ec : ch (addL nb k (c k) y) j v u = ch nb j v u := by
        unfold ch
        rcases beq_or k j with rfl | rfl
        · rw [addL_k (by omega)]
        · rw [addL_nk (fun e => hjy ⟨rfl, e⟩)]
      have hl2 : vl (addL nb k (c k) y) (d + 2) j v u = (j, v) :: (ch nb j v u).flatMap (fun w => vl (addL nb k (c k) y) (d + 1) (!j) w (some v)) := by
        show (j, v) :: (ch (addL nb k (c k) y) j v u).flatMap (fun w => vl (addL nb k (c k) y) (d + 1) (!j) w (some v)) = _
        rw [ec]
      refine ⟨fun w hw => ?_, fun z hz => ?_, ?_⟩
      · rw [ec] at hw
        exact (ih w hw).1
      · rw [hl2]
        show _ = ((j, v) :: (ch nb j v u).flatMap fun w => vl nb d (!j) w (some v)).count z
        rw [List.count_cons, List.count_cons, List.count_flatMap, List.count_flatMap]
        have := cnt1 z hz
        simp only [Function.comp_def] at *
        omega
      · rw [hl2]
        show _ = ((j, v) :: (ch nb j v u).flatMap fun w => vl nb d (!j) w (some v)).count (!k, y)
        rw [List.count_cons, List.count_cons, List.count_flatMap, List.count_flatMap]
        have e1 : ((j, v) == (k, c k)) = false := by
          rw [beq_eq_false_iff_ne]
          intro q
          obtain ⟨rfl, e⟩ := Prod.mk.inj q
          omega
        have e3 : ((j, v) == (!k, y)) = false := by
          rw [beq_eq_false_iff_ne]
          intro q
          obtain ⟨e, e'⟩ := Prod.mk.inj q
          exact hjy ⟨e, e'⟩
        simp only [Function.comp_def] at *
        rw [e1, e3]
        simp only [Bool.false_eq_true, if_false]
        omega

/-- .. at the leaf's neighbor, come from the leaf -/
theorem grow2 (inb : ∀ k v w, v < c k → w ∈ nb k v → w < c (!k)) (hy : y < c (!k)) {d : Nat} (h : hgt nb d (!k) y none) :
    hgt (addL nb k (c k) y) (d + 1) (!k) y (some (c k)) ∧ (∀ z, z ≠ (k, c k) → (vl (addL nb k (c k) y) (d + 1) (!k) y (some (c k))).count z = (vl nb d (!k) y none).count z) ∧
      (vl (addL nb k (c k) y) (d + 1) (!k) y (some (c k))).count (k, c k) + 1 = (vl nb d (!k) y none).count (!k, y) := by
  cases d with
  | zero => exact h.elim
  | succ d =>
    have e0 : ch nb (!k) y none = nb (!k) y := by
      unfold ch
      simp
    have hx : c k ∉ nb (!k) y := fun q => by
      have := inb (!k) y _ hy q
      rw [bnn] at this
      omega
    have ec : ch (addL nb k (c k) y) (!k) y (some (c k)) = nb (!k) y := by
      unfold ch
      rw [addL_y, List.filter_append, List.filter_cons_of_neg (by simp), List.filter_nil, List.append_nil]
      refine List.filter_eq_self.mpr fun w hw => ?_
      simp only [decide_eq_true_eq, ne_eq, Option.some.injEq]
      exact fun q => hx (q ▸ hw)
    have hc : ∀ w ∈ nb (!k) y, hgt nb d (!(!k)) w (some y) := fun w hw => h w (by rw [e0]; exact hw)
    have ih : ∀ w ∈ nb (!k) y, _ := fun w hw => grow1 inb hy d (!(!k)) w (some y) (inb _ _ _ hy hw) (fun ⟨e1, _⟩ => by
      rw [bnn] at e1
      exact bne k e1.symm) (hc w hw)
    have cnt1 : ∀ z, z ≠ (k, c k) → ((nb (!k) y).map fun w => (vl (addL nb k (c k) y) (d + 1) (!(!k)) w (some y)).count z).sum = ((nb (!k) y).map fun w => (vl nb d (!(!k)) w (some y)).count z).sum := fun z hz => by
      congr 1
      exact List.map_congr_left fun w hw => (ih w hw).2.1 z hz
    have cnt2 : ((nb (!k) y).map fun w => (vl (addL nb k (c k) y) (d + 1) (!(!k)) w (some y)).count (k, c k)).sum = ((nb (!k) y).map fun w => (vl nb d (!(!k)) w (some y)).count (!k, y)).sum := by
      congr 1
      exact List.map_congr_left fun w hw => (ih w hw).2.2
    have l1 : vl (addL nb k (c k) y) (d + 2) (!k) y (some (c k)) = (!k, y) :: (nb (!k) y).flatMap (fun w => vl (addL nb k (c k) y) (d + 1) (!(!k)) w (some y)) := by
      show (!k, y) :: (ch (addL nb k (c k) y) (!k) y (some (c k))).flatMap (fun w => vl (addL nb k (c k) y) (d + 1) (!(!k)) w (some y)) = _
      rw [ec]
    have l2 : vl nb (d + 1) (!k) y none = (!k, y) :: (nb (!k) y).flatMap (fun w => vl nb d (!(!k)) w (some y)) := by
      show (!k, y) :: (ch nb (!k) y none).flatMap (fun w => vl nb d (!(!k)) w (some y)) = _
      rw [e0]
    refine ⟨fun w hw => ?_, fun z hz => ?_, ?_⟩
    · rw [ec] at hw
      exact (ih w hw).1
    · rw [l1, l2, List.count_cons, List.count_cons, List.count_flatMap, List.count_flatMap]
      have := cnt1 z hz
      simp only [Function.comp_def] at *
      omega
    · rw [l1, l2, List.count_cons, List.count_cons_self, List.count_flatMap, List.count_flatMap]
      have e1 : ((!k, y) == (k, c k)) = false := by
        rw [beq_eq_false_iff_ne]
        intro q
        exact bne k (Prod.mk.inj q).1
      simp only [Function.comp_def] at *
      rw [e1]
      simp only [Bool.false_eq_true, if_false]
      omega

/-- sums behind the leaf -/
theorem deg_x {L : Bool → Nat → Bool} {x : Nat} : deg (addL nb k x y) L k x = if L (!k) y then 1 else 0 := by
  unfold deg
  rw [addL_x]
  cases h : L (!k) y <;> simp [h]
theorem deg_k {L : Bool → Nat → Bool} {x v : Nat} (h : v ≠ x) : deg (addL nb k x y) L k v = deg nb L k v := by
  unfold deg
  rw [addL_k h]
theorem deg_nk {L : Bool → Nat → Bool} {x v : Nat} : deg (addL nb k x y) L (!k) v = deg nb L (!k) v + if v = y then (if L k x then 1 else 0) else 0 := by
  unfold deg
  by_cases e : v = y
  · subst e
    rw [addL_y, List.filter_append, List.length_append, if_pos rfl]
    congr 1
    rw [bnn]
    cases h : L k x <;> simp [h]
  · rw [addL_nk e, if_neg e, Nat.add_zero]
theorem dsum_leaf (hy : y < c (!k)) (L : Bool → Nat → Bool) : e2 (addL nb k (c k) y) (cup c k) L = e2 nb c L + 2 * (if L k (c k) then (if L (!k) y then 1 else 0) else 0) := by
  have a : dsum (addL nb k (c k) y) (cup c k) L k = dsum nb c L k + if L k (c k) then (if L (!k) y then 1 else 0) else 0 := by
    unfold dsum
    rw [cup_self, ssum_succ, deg_x]
    congr 1
    exact ssum_congr fun i hi => by rw [deg_k (by omega)]
  have b : dsum (addL nb k (c k) y) (cup c k) L (!k) = dsum nb c L (!k) + if L k (c k) then (if L (!k) y then 1 else 0) else 0 := by
    unfold dsum
    rw [cup_ne]
    rw [← ssum_plus_point (f := fun v => if L (!k) v then deg nb L (!k) v else 0) hy]
    refine ssum_congr fun i hi => ?_
    rw [deg_nk]
    by_cases e : i = y
    · subst e
      cases h : L (!k) i <;> cases h' : L k (c k) <;> simp
    · rw [if_neg e, if_neg e, Nat.add_zero, Nat.add_zero]
  show dsum _ _ L true + dsum _ _ L false = dsum _ _ L true + dsum _ _ L false + _
  rw [sum_two (dsum (addL nb k (c k) y) (cup c k) L) k, sum_two (dsum nb c L) k, a, b]
  omega
theorem card_leaf (L : Bool → Nat → Bool) : card (cup c k) L = card c L + if L k (c k) then 1 else 0 := by
  have a : lcard (cup c k) L k = lcard c L k + if L k (c k) then 1 else 0 := by
    unfold lcard
    rw [cup_self, ssum_succ]
  have b : lcard (cup c k) L (!k) = lcard c L (!k) := by
    unfold lcard
    rw [cup_ne]
  show lcard _ L true + lcard _ L false = lcard _ L true + lcard _ L false + _
  rw [sum_two (lcard (cup c k) L) k, sum_two (lcard c L) k, a, b]
  omega
theorem card_zero_e2 {L : Bool → Nat → Bool} (h : card c L = 0) : e2 nb c L = 0 := by
  have z : ∀ j, lcard c L j = 0 → dsum nb c L j = 0 := fun j hj => by
    unfold dsum
    rw [ssum_congr (g := fun _ => 0) fun i hi => ?_, ssum_const0]
    have := ssum_zero_of hj hi
    cases q : L j i
    · simp
    · rw [q] at this; simp at this
  have h0 : lcard c L true + lcard c L false = 0 := h
  have h1 : lcard c L true = 0 := by omega
  have h2 : lcard c L false = 0 := by omega
  show dsum _ _ _ _ + dsum _ _ _ _ = 0
  rw [z _ h1, z _ h2]
theorem lcard_zero {L : Bool → Nat → Bool} (h : card c L = 0) {j : Bool} {v : Nat} (hv : v < c j) : L j v = false := by
  have h0 : lcard c L true + lcard c L false = 0 := h
  have hj : lcard c L j = 0 := by
    have : lcard c L true = 0 ∧ lcard c L false = 0 := ⟨by omega, by omega⟩
    cases j
    · exact this.2
    · exact this.1
  have := ssum_zero_of hj hv
  cases q : L j v
  · rfl
  · rw [q] at this; simp at this

theorem TreeP.leaf (T : TreeP nb c) (hy : y < c (!k)) : TreeP (addL nb k (c k) y) (cup c k) := by
  have hxn : ∀ v, v < c (!k) → c k ∉ nb (!k) v := fun v hv q => by
    have := T.inb (!k) v _ hv q
    rw [bnn] at this
    omega
  have hD : 2 * tot (cup c k) = 2 * tot c + 2 := by rw [tot_cup]; omega
  refine ⟨?_, ?_, ?_, ?_, ?_, ?_, ?_⟩
  · intro j v w hv hw
    rcases beq_or k j with rfl | rfl
    · rw [cup_self] at hv
      rw [cup_ne]
      by_cases e : v = c j
      · subst e
        rw [addL_x, List.mem_singleton] at hw
        rw [hw]; exact hy
      · rw [addL_k e] at hw
        exact T.inb _ _ _ (by omega) hw
    · rw [cup_ne] at hv
      rw [bnn, cup_self]
      by_cases e : v = y
      · subst e
        rw [addL_y] at hw
        rcases List.mem_append.mp hw with hw | hw
        · have := T.inb _ _ _ hv hw
          rw [bnn] at this
          omega
        · rw [List.mem_singleton.mp hw]; omega
      · rw [addL_nk e] at hw
        have := T.inb _ _ _ hv hw
        rw [bnn] at this
        omega
  · intro j v w hv hw
    rcases beq_or k j with rfl | rfl
    · rw [cup_self] at hv
      by_cases e : v = c j
      · subst e
        rw [addL_x, List.mem_singleton] at hw
        subst hw
        rw [addL_y]
        exact List.mem_append_right _ (List.mem_singleton.mpr rfl)
      · rw [addL_k e] at hw
        have q := T.sym _ _ _ (by omega) hw
        by_cases e' : w = y
        · subst e'
          rw [addL_y]
          exact List.mem_append_left _ q
        · rw [addL_nk e']
          exact q
    · rw [cup_ne] at hv
      rw [bnn]
      by_cases e : v = y
      · subst e
        rw [addL_y] at hw
        rcases List.mem_append.mp hw with hw | hw
        · have q := T.sym _ _ _ hv hw
          have q2 := T.inb _ _ _ hv hw
          rw [bnn] at q q2
          rw [addL_k (by omega)]
          exact q
        · rw [List.mem_singleton.mp hw, addL_x]
          exact List.mem_singleton.mpr rfl
      · rw [addL_nk e] at hw
        have q := T.sym _ _ _ hv hw
        have q2 := T.inb _ _ _ hv hw
        rw [bnn] at q q2
        rw [addL_k (by omega)]
        exact q
  · intro j v hv
    rcases beq_or k j with rfl | rfl
    · rw [cup_self] at hv
      by_cases e : v = c j
      · subst e
        rw [addL_x]
        simp
      · rw [addL_k e]
        exact T.nd _ _ (by omega)
    · rw [cup_ne] at hv
      by_cases e : v = y
      · subst e
        rw [addL_y]
        exact nodup_snoc (T.nd _ _ hv) (hxn v hv)
      · rw [addL_nk e]
        exact T.nd _ _ hv
  · intro L hL
    rw [card_leaf] at hL ⊢
    rw [dsum_leaf hy]
    rcases Nat.eq_zero_or_pos (card c L) with z | z
    · rw [card_zero_e2 z, z, lcard_zero z hy]
      rw [z] at hL
      cases q : L k (c k)
      · rw [q] at hL; simp at hL
      · simp
    · have := T.forest L z
      cases L k (c k) <;> cases L (!k) y <;> simp <;> omega
  · rw [dsum_leaf hy, tot_cup]
    have := T.full
    have e1 : lall k (c k) = true := rfl
    have e2' : lall (!k) y = true := rfl
    rw [e1, e2', if_pos rfl, if_pos rfl]
    omega
  · intro j v u hv
    rw [hD]
    rcases beq_or k j with rfl | rfl
    · rw [cup_self] at hv
      by_cases e : v = c j
      · subst e
        intro w hw
        have hw' := (mem_ch.mp hw).1
        rw [addL_x, List.mem_singleton] at hw'
        subst hw'
        exact (grow2 T.inb hy (T.hg _ _ _ hy)).1
      · exact (hgt_succ _ _ _ _ (grow1 T.inb hy _ _ _ _ (by omega) (fun q => bne' j q.1) (T.hg _ _ _ (by omega))).1).1
    · rw [cup_ne] at hv
      by_cases e : v = y ∧ u = some (c k)
      · obtain ⟨rfl, rfl⟩ := e
        exact (hgt_succ _ _ _ _ (grow2 T.inb hy (T.hg _ _ _ hy)).1).1
      · exact (hgt_succ _ _ _ _ (grow1 T.inb hy _ _ _ _ hv (fun q => e q.2) (T.hg _ _ _ hv)).1).1
  · intro j v u z hv
    rw [hD]
    rcases beq_or k j with rfl | rfl
    · rw [cup_self] at hv
      by_cases e : v = c j
      · subst e
        obtain ⟨g1, g2, g3⟩ := grow2 T.inb hy (T.hg _ _ none hy)
        have c1 := T.ct (!j) y none z hy
        have c2 := T.ct (!j) y none (!j, y) hy
        have lx : vl (addL nb j (c j) y) (2 * tot c + 2) j (c j) u = (j, c j) :: (ch (addL nb j (c j) y) j (c j) u).flatMap fun w => vl (addL nb j (c j) y) (2 * tot c + 1) (!j) w (some (c j)) := rfl
        rw [lx, List.count_cons]
        by_cases hu : u = some y
        · have ec : ch (addL nb j (c j) y) j (c j) u = [] := by
            unfold ch
            rw [addL_x, hu]
            simp
          rw [ec, List.flatMap_nil, List.count_nil]
          split <;> omega
        · have ec : ch (addL nb j (c j) y) j (c j) u = [y] := by
            unfold ch
            rw [addL_x, List.filter_cons_of_pos (by simpa using hu), List.filter_nil]
          rw [ec, List.flatMap_cons, List.flatMap_nil, List.append_nil]
          by_cases hz : z = (j, c j)
          · subst hz
            rw [if_pos (beq_self_eq_true _)]
            omega
          · rw [if_neg (by rw [beq_iff_eq]; exact Ne.symm hz), g2 z hz]
            omega
      · have hg := T.hg j v u (by omega)
        obtain ⟨g1, g2, g3⟩ := grow1 T.inb hy _ _ _ _ (by omega) (fun q => bne' j q.1) hg
        rw [(hgt_succ _ _ _ _ g1).2.1]
        by_cases hz : z = (j, c j)
        · subst hz
          rw [g3]
          exact T.ct _ _ _ _ (by omega)
        · rw [g2 z hz]
          exact T.ct _ _ _ _ (by omega)
    · rw [cup_ne] at hv
      by_cases e : v = y ∧ u = some (c k)
      · obtain ⟨rfl, rfl⟩ := e
        obtain ⟨g1, g2, g3⟩ := grow2 T.inb hy (T.hg _ _ none hy)
        rw [(hgt_succ _ _ _ _ g1).2.1]
        by_cases hz : z = (k, c k)
        · subst hz
          have := T.ct (!k) v none (!k, v) hy
          omega
        · rw [g2 z hz]
          exact T.ct _ _ _ _ hy
      · have hg := T.hg (!k) v u hv
        obtain ⟨g1, g2, g3⟩ := grow1 T.inb hy _ _ _ _ hv (fun q => e q.2) hg
        rw [(hgt_succ _ _ _ _ g1).2.1]
        by_cases hz : z = (k, c k)
        · subst hz
          rw [g3]
          exact T.ct _ _ _ _ hv
        · rw [g2 z hz]
          exact T.ct _ _ _ _ hv
end
/-- one bead alone -/
def nb0 : Nb := fun _ _ => []
def c0 : Bool → Nat := fun k => if k then 1 else 0
theorem dsum_one (L : Bool → Nat → Bool) : e2 nb0 c0 L = 0 := by
  have h : ∀ k, dsum nb0 c0 L k = 0 := fun k => by
    unfold dsum
    rw [ssum_congr (g := fun _ => 0) fun i _ => ?_, ssum_const0]
    split <;> rfl
  show dsum _ _ _ _ + dsum _ _ _ _ = 0
  rw [h, h]
theorem TreeP.one : TreeP nb0 c0 where
  inb := fun k v w _ h => by cases h
  sym := fun k v w _ h => by cases h
  nd := fun k v _ => List.nodup_nil
  forest := fun L hL => by
    rw [dsum_one]
    omega
  full := by
    rw [dsum_one]
    rfl
  hg := fun k v u hv => by
    intro w hw
    cases hw
  ct := fun k v u z hv => by
    show List.count z ((k, v) :: (ch nb0 k v u).flatMap _) ≤ 1
    have e : ch nb0 k v u = [] := rfl
    rw [e, List.flatMap_nil, List.count_cons, List.count_nil]
    split <;> omega
end Sb

/-! MD: families as lists of bags; renaming; what stays (plain Lean). -/
namespace Sb

/-! ### lists -/
theorem perm_of_nodup_len {α : Type} [DecidableEq α] : ∀ (l r : List α), l.Nodup → (∀ x ∈ l, x ∈ r) → r.length ≤ l.length → l.Perm r
  | [], r, _, _, h => by
    have e : r = [] := List.eq_nil_of_length_eq_zero (Nat.le_zero.mp h)
    rw [e]
  | x :: l, r, hn, hs, h => by
    obtain ⟨h1, h2⟩ := List.nodup_cons.mp hn
    have hx : x ∈ r := hs x List.mem_cons_self
    have p := List.perm_cons_erase hx
    have hl : (r.erase x).length + 1 = r.length := by
      have := p.length_eq
      rw [List.length_cons] at this
      omega
    have ih := perm_of_nodup_len l (r.erase x) h2 (fun y hy => by
      have hyx : y ≠ x := fun e => h1 (by rw [← e]; exact hy)
      exact (List.mem_erase_of_ne hyx).mpr (hs y (List.mem_cons_of_mem _ hy))) (by rw [List.length_cons] at h; omega)
    exact (ih.cons x).trans p.symm
theorem nodup_map_on {α β : Type} {f : α → β} {l : List α} (h : l.Nodup) (inj : ∀ x ∈ l, ∀ y ∈ l, f x = f y → x = y) : (l.map f).Nodup :=
  List.pairwise_map.mpr (List.Pairwise.imp_of_mem (fun {a b} ha hb hab e => hab (inj a ha b hb e)) h)
theorem perm_range_of_inj {p : Nat → Nat} {n : Nat} (lt : ∀ i, i < n → p i < n) (inj : ∀ i j, i < n → j < n → p i = p j → i = j) : ((List.range n).map p).Perm (List.range n) :=
  perm_of_nodup_len _ _ (nodup_map_on List.nodup_range fun x hx y hy e => inj x y (List.mem_range.mp hx) (List.mem_range.mp hy) e) (fun x hx => by
    obtain ⟨i, hi, rfl⟩ := List.mem_map.mp hx
    exact List.mem_range.mpr (lt i (List.mem_range.mp hi))) (by rw [List.length_map]; exact Nat.le_refl _)

/-! ### two trees alike -/
structure Iso (nb nb' : Nb) (c : Bool → Nat) (φ : Bool → Nat → Nat) : Prop where
  lt : ∀ k v, v < c k → φ k v < c k
  inj : ∀ k v w, v < c k → w < c k → φ k v = φ k w → v = w
  adj : ∀ k v, v < c k → (nb' k (φ k v)).Perm ((nb k v).map (φ (!k)))
section
variable {nb nb' : Nb} {c : Bool → Nat} {φ : Bool → Nat → Nat}
theorem Iso.perm (I : Iso nb nb' c φ) (k : Bool) : ((List.range (c k)).map (φ k)).Perm (List.range (c k)) :=
  perm_range_of_inj (fun i hi => I.lt k i hi) fun i j hi hj e => I.inj k i j hi hj e
theorem Iso.surj (I : Iso nb nb' c φ) {k : Bool} {v : Nat} (h : v < c k) : ∃ w, w < c k ∧ φ k w = v := by
  have q := (I.perm k).mem_iff.mpr (List.mem_range.mpr h)
  obtain ⟨w, hw, e⟩ := List.mem_map.mp q
  exact ⟨w, List.mem_range.mp hw, e⟩
theorem Iso.ch (I : Iso nb nb' c φ) (inb : ∀ k v w, v < c k → w ∈ nb k v → w < c (!k)) {k : Bool} {v : Nat} {u : Option Nat} (hv : v < c k) (hu : ∀ w, u = some w → w < c (!k)) :
    (ch nb' k (φ k v) (u.map (φ (!k)))).Perm ((ch nb k v u).map (φ (!k))) := by
  unfold Sb.ch
  refine ((I.adj k v hv).filter _).trans ?_
  rw [List.filter_map]
  have e : (nb k v).filter ((fun w => decide (u.map (φ (!k)) ≠ some w)) ∘ φ (!k)) = (nb k v).filter fun w => decide (u ≠ some w) := by
    refine List.filter_congr fun w hw => ?_
    have hw' := inb k v w hv hw
    show decide (u.map (φ (!k)) ≠ some (φ (!k) w)) = decide (u ≠ some w)
    cases u with
    | none => simp
    | some x =>
      have hx := hu x rfl
      by_cases exw : x = w
      · subst exw; simp
      · have : φ (!k) x ≠ φ (!k) w := fun q => exw (I.inj _ _ _ hx hw' q)
        simp [this, exw]
  rw [e]
theorem Iso.tx (I : Iso nb nb' c φ) (inb : ∀ k v w, v < c k → w ∈ nb k v → w < c (!k)) : ∀ (d : Nat) (k : Bool) (v : Nat) (u : Option Nat), v < c k → (∀ w, u = some w → w < c (!k)) →
    tx nb' d k (φ k v) (u.map (φ (!k))) = tx nb d k v u
  | 0, _, _, _, _, _ => rfl
  | d + 1, k, v, u, hv, hu => by
    have p := I.ch inb hv hu
    have r : ((Sb.ch nb' k (φ k v) (u.map (φ (!k)))).map fun w => Sb.tx nb' d (!k) w (some (φ k v))).Perm ((Sb.ch nb k v u).map fun w => Sb.tx nb d (!k) w (some v)) := by
      refine (p.map _).trans (List.Perm.of_eq ?_)
      rw [List.map_map]
      refine List.map_congr_left fun w hw => ?_
      have := Iso.tx I inb d (!k) w (some v) (inb k v w hv (mem_ch.mp hw).1) (fun x e => by rw [bnn]; exact (Option.some.inj e) ▸ hv)
      rw [bnn] at this
      exact this
    exact txOf_perm r
theorem Iso.hgt (I : Iso nb nb' c φ) (inb : ∀ k v w, v < c k → w ∈ nb k v → w < c (!k)) : ∀ (d : Nat) (k : Bool) (v : Nat) (u : Option Nat), v < c k → (∀ w, u = some w → w < c (!k)) →
    hgt nb d k v u → hgt nb' d k (φ k v) (u.map (φ (!k)))
  | 0, _, _, _, _, _, h => h
  | d + 1, k, v, u, hv, hu, h => by
    have p := I.ch inb hv hu
    intro w' hw'
    obtain ⟨w, hw, rfl⟩ := List.mem_map.mp (p.mem_iff.mp hw')
    have := Iso.hgt I inb d (!k) w (some v) (inb k v w hv (mem_ch.mp hw).1) (fun x e => by rw [bnn]; exact (Option.some.inj e) ▸ hv) (h w hw)
    rw [bnn] at this
    exact this
theorem flatMap_congr' {α β : Type} {l : List α} {f g : α → List β} (h : ∀ x ∈ l, (f x).Perm (g x)) : (l.flatMap f).Perm (l.flatMap g) := by
  induction l with
  | nil => exact List.Perm.refl _
  | cons x l ih =>
    rw [List.flatMap_cons, List.flatMap_cons]
    exact (h x List.mem_cons_self).append (ih fun y hy => h y (List.mem_cons_of_mem _ hy))
theorem Iso.vl (I : Iso nb nb' c φ) (inb : ∀ k v w, v < c k → w ∈ nb k v → w < c (!k)) : ∀ (d : Nat) (k : Bool) (v : Nat) (u : Option Nat), v < c k → (∀ w, u = some w → w < c (!k)) →
    (vl nb' d k (φ k v) (u.map (φ (!k)))).Perm ((vl nb d k v u).map fun z => (z.1, φ z.1 z.2))
  | 0, _, _, _, _, _ => List.Perm.refl _
  | d + 1, k, v, u, hv, hu => by
    have p := I.ch inb hv hu
    show ((k, φ k v) :: (Sb.ch nb' k (φ k v) (u.map (φ (!k)))).flatMap fun w => Sb.vl nb' d (!k) w (some (φ k v))).Perm (((k, v) :: (Sb.ch nb k v u).flatMap fun w => Sb.vl nb d (!k) w (some v)).map fun z => (z.1, φ z.1 z.2))
    rw [List.map_cons]
    refine List.Perm.cons _ ?_
    refine (p.flatMap_right _).trans ?_
    rw [List.flatMap_map, List.map_flatMap]
    refine flatMap_congr' fun w hw => ?_
    have := Iso.vl I inb d (!k) w (some v) (inb k v w hv (mem_ch.mp hw).1) (fun x e => by rw [bnn]; exact (Option.some.inj e) ▸ hv)
    rw [bnn] at this
    exact this
theorem vl_in (inb : ∀ k v w, v < c k → w ∈ nb k v → w < c (!k)) : ∀ (d : Nat) (k : Bool) (v : Nat) (u : Option Nat), v < c k → ∀ z ∈ vl nb d k v u, z.2 < c z.1
  | 0, _, _, _, _, _, h => by cases h
  | d + 1, k, v, u, hv, z, hz => by
    rcases List.mem_cons.mp hz with rfl | hz
    · exact hv
    · obtain ⟨w, hw, hz⟩ := List.mem_flatMap.mp hz
      exact vl_in inb d (!k) w (some v) (inb k v w hv (mem_ch.mp hw).1) z hz
theorem Iso.deg (I : Iso nb nb' c φ) {k : Bool} {v : Nat} (hv : v < c k) (L : Bool → Nat → Bool) : deg nb' L k (φ k v) = deg nb (fun j w => L j (φ j w)) k v := by
  unfold Sb.deg
  rw [((I.adj k v hv).filter _).length_eq, List.filter_map, List.length_map]
  rfl
theorem Iso.e2 (I : Iso nb nb' c φ) (L : Bool → Nat → Bool) : e2 nb' c L = e2 nb c fun j w => L j (φ j w) := by
  have h : ∀ k, dsum nb' c L k = dsum nb c (fun j w => L j (φ j w)) k := fun k => by
    unfold dsum
    rw [← ssum_perm (f := fun v => if L k v then Sb.deg nb' L k v else 0) (I.perm k)]
    refine ssum_congr fun i hi => ?_
    rw [I.deg hi]
  show dsum _ _ _ _ + dsum _ _ _ _ = dsum _ _ _ _ + dsum _ _ _ _
  rw [h, h]
theorem Iso.card (I : Iso nb nb' c φ) (L : Bool → Nat → Bool) : card c L = card c fun j w => L j (φ j w) := by
  have h : ∀ k, lcard c L k = lcard c (fun j w => L j (φ j w)) k := fun k => by
    unfold lcard
    rw [← ssum_perm (f := fun v => if L k v then 1 else 0) (I.perm k)]
  show lcard _ _ _ + lcard _ _ _ = lcard _ _ _ + lcard _ _ _
  rw [h, h]
theorem ch_none {k : Bool} {v w : Nat} (h : w ∉ nb k v) : ch nb k v (some w) = ch nb k v none := by
  unfold ch
  refine List.filter_congr fun x hx => ?_
  have : w ≠ x := fun e => h (by rw [e]; exact hx)
  simp [this]
theorem Iso.tree (I : Iso nb nb' c φ) (T : TreeP nb c) : TreeP nb' c := by
  have mem : ∀ {k v' w'}, v' < c k → w' ∈ nb' k v' → ∃ v w, v < c k ∧ w ∈ nb k v ∧ v' = φ k v ∧ w' = φ (!k) w := fun {k v' w'} hv hw => by
    obtain ⟨v, hv0, rfl⟩ := I.surj hv
    obtain ⟨w, hw0, rfl⟩ := List.mem_map.mp ((I.adj k v hv0).mem_iff.mp hw)
    exact ⟨v, w, hv0, hw0, rfl, rfl⟩
  have inb' : ∀ k v w, v < c k → w ∈ nb' k v → w < c (!k) := fun k v w hv hw => by
    obtain ⟨v0, w0, h1, h2, rfl, rfl⟩ := mem hv hw
    exact I.lt _ _ (T.inb _ _ _ h1 h2)
  have red : ∀ {k v' u'}, v' < c k → ∃ v u, v < c k ∧ (∀ w, u = some w → w < c (!k)) ∧ v' = φ k v ∧ Sb.ch nb' k v' u' = Sb.ch nb' k (φ k v) (u.map (φ (!k))) := fun {k v' u'} hv => by
    obtain ⟨v, hv0, rfl⟩ := I.surj hv
    cases u' with
    | none => exact ⟨v, none, hv0, fun w e => (by cases e), rfl, rfl⟩
    | some w' =>
      rcases Nat.lt_or_ge w' (c (!k)) with h | h
      · obtain ⟨w, hw0, rfl⟩ := I.surj h
        exact ⟨v, some w, hv0, fun x e => (Option.some.inj e) ▸ hw0, rfl, rfl⟩
      · refine ⟨v, none, hv0, fun w e => (by cases e), rfl, ?_⟩
        refine ch_none fun hm => ?_
        have := inb' _ _ _ hv hm
        omega
  have pos : ∀ {k v}, v < c k → 1 ≤ tot c := fun {k v} hv => by
    have := sum_two c k
    show 1 ≤ c true + c false
    omega
  refine ⟨inb', ?_, ?_, ?_, ?_, ?_, ?_⟩
  · intro k v w hv hw
    obtain ⟨v0, w0, h1, h2, rfl, rfl⟩ := mem hv hw
    have hw0 := T.inb _ _ _ h1 h2
    refine ((I.adj (!k) w0 hw0).mem_iff).mpr (List.mem_map.mpr ⟨v0, T.sym _ _ _ h1 h2, by rw [bnn]⟩)
  · intro k v hv
    obtain ⟨v0, hv0, rfl⟩ := I.surj hv
    refine ((I.adj k v0 hv0).nodup_iff).mpr (nodup_map_on (T.nd _ _ hv0) fun x hx y hy e => ?_)
    exact I.inj _ _ _ (T.inb _ _ _ hv0 hx) (T.inb _ _ _ hv0 hy) e
  · intro L hL
    rw [I.card] at hL ⊢
    rw [I.e2]
    exact T.forest _ hL
  · rw [I.e2]
    exact T.full
  · intro k v u hv
    obtain ⟨v0, u0, hv0, hu0, rfl, e⟩ := red (u' := u) hv
    have h := I.hgt T.inb _ k v0 u0 hv0 hu0 (T.hg k v0 u0 hv0)
    have hp := pos hv
    obtain ⟨d, hd⟩ : ∃ d, 2 * tot c = d + 1 := ⟨2 * tot c - 1, by omega⟩
    rw [hd] at h ⊢
    intro w hw
    rw [e] at hw
    exact h w hw
  · intro k v u z hv
    obtain ⟨v0, u0, hv0, hu0, rfl, e⟩ := red (u' := u) hv
    have h := I.vl T.inb (2 * tot c) k v0 u0 hv0 hu0
    have hp := pos hv
    have e2 : Sb.vl nb' (2 * tot c) k (φ k v0) u = Sb.vl nb' (2 * tot c) k (φ k v0) (u0.map (φ (!k))) := by
      obtain ⟨d, hd⟩ : ∃ d, 2 * tot c = d + 1 := ⟨2 * tot c - 1, by omega⟩
      rw [hd]
      show (k, φ k v0) :: (Sb.ch nb' k (φ k v0) u).flatMap _ = (k, φ k v0) :: (Sb.ch nb' k (φ k v0) (u0.map (φ (!k)))).flatMap _
      rw [e]
    rw [e2]
    have n0 : (Sb.vl nb (2 * tot c) k v0 u0).Nodup := List.nodup_iff_count.mpr fun z => T.ct k v0 u0 z hv0
    have n1 : (Sb.vl nb' (2 * tot c) k (φ k v0) (u0.map (φ (!k)))).Nodup := (h.nodup_iff).mpr (nodup_map_on n0 fun x hx y hy e => by
      have hx' := vl_in T.inb _ _ _ _ hv0 x hx
      have hy' := vl_in T.inb _ _ _ _ hv0 y hy
      obtain ⟨x1, x2⟩ := x
      obtain ⟨y1, y2⟩ := y
      obtain ⟨e1, e2⟩ := Prod.mk.inj e
      have e1 : x1 = y1 := e1
      subst e1
      have e3 := I.inj _ _ _ hx' hy' e2
      have e3 : x2 = y2 := e3
      rw [e3])
    exact List.nodup_iff_count.mp n1 z
end

/-! ### families -/
abbrev Fam := List (List Nat)
def bagAt (F : Fam) (i : Nat) : List Nat := F.getD i []
def idxs (F : Fam) (b : Nat) : List Nat := (List.range F.length).filter fun i => decide (b ∈ bagAt F i)
def nbOf (F : Fam) : Nb := fun k v => if k then idxs F v else bagAt F v
def cOf (n m : Nat) : Bool → Nat := fun k => if k then n else m
theorem mem_idxs {F : Fam} {b i : Nat} : i ∈ idxs F b ↔ i < F.length ∧ b ∈ bagAt F i := by
  unfold idxs
  rw [List.mem_filter, List.mem_range, decide_eq_true_eq]
theorem nodup_idxs (F : Fam) (b : Nat) : (idxs F b).Nodup := List.nodup_range.filter _
theorem bagAt_lt {F : Fam} {i : Nat} (h : i < F.length) : F[i]? = some (bagAt F i) := by
  unfold bagAt
  rw [List.getElem?_eq_getElem h, List.getD_eq_getElem?_getD, List.getElem?_eq_getElem h]
  rfl
theorem bagAt_mem {F : Fam} {i : Nat} (h : i < F.length) : bagAt F i ∈ F := List.mem_of_getElem? (bagAt_lt h)
theorem bagAt_ge {F : Fam} {i : Nat} (h : F.length ≤ i) : bagAt F i = [] := by
  unfold bagAt
  rw [List.getD_eq_getElem?_getD, List.getElem?_eq_none h]
  rfl
theorem mem_bagAt {F : Fam} {bag : List Nat} (h : bag ∈ F) : ∃ i, i < F.length ∧ bagAt F i = bag := by
  obtain ⟨i, hi, e⟩ := List.getElem_of_mem h
  refine ⟨i, hi, ?_⟩
  have := bagAt_lt hi
  rw [List.getElem?_eq_getElem hi, e] at this
  exact (Option.some.inj this).symm
theorem bagAt_some {F : Fam} {i : Nat} {bag : List Nat} (h : F[i]? = some bag) : bagAt F i = bag := by
  have hi := (List.getElem?_eq_some_iff.mp h).1
  have := bagAt_lt hi
  rw [h] at this
  exact (Option.some.inj this).symm

/-- a family but for the order of its bags -/
structure Pre (n : Nat) (F : Fam) : Prop where
  two : 2 ≤ n
  bags : ∀ bag ∈ F, bag.Pairwise (· < ·) ∧ 2 ≤ bag.length ∧ ∀ b ∈ bag, b < n
  nd : F.Nodup
  cover : ∀ b, b < n → ∃ bag ∈ F, b ∈ bag
  sum : (F.map List.length).sum + 1 = n + F.length
  tree : TreeP (nbOf F) (cOf n F.length)
structure IsFam (n : Nat) (F : Fam) : Prop extends Pre n F where
  rise : F.Pairwise fun a b => lexLt a b = true

/-! ### grown families -/
inductive Grown : Nat → Fam → Prop
  | base : Grown 2 [[0, 1]]
  | app {n : Nat} {G : Fam} {i : Nat} : Grown n G → i < G.length → Grown (n + 1) (G.set i (bagAt G i ++ [n]))
  | new {n : Nat} {G : Fam} {p : Nat} : Grown n G → p < n → Grown (n + 1) (G ++ [[p, n]])
theorem sum_set' : ∀ {l : List Nat} {i x : Nat}, i < l.length → (l.set i x).sum + l.getD i 0 = l.sum + x
  | [], i, x, h => by cases h
  | a :: l, 0, x, _ => by
    rw [List.set_cons_zero, List.sum_cons, List.sum_cons, List.getD_cons_zero]
    omega
  | a :: l, i + 1, x, h => by
    have ih := sum_set' (l := l) (i := i) (x := x) (Nat.lt_of_succ_lt_succ h)
    rw [List.set_cons_succ, List.sum_cons, List.sum_cons, List.getD_cons_succ]
    omega
theorem bagAt_set {F : Fam} {i j : Nat} {bag : List Nat} (h : i < F.length) : bagAt (F.set i bag) j = if j = i then bag else bagAt F j := by
  unfold bagAt
  rw [List.getD_eq_getElem?_getD, List.getD_eq_getElem?_getD, List.getElem?_set]
  by_cases e : i = j
  · subst e
    rw [if_pos rfl, if_pos h, if_pos rfl]
    rfl
  · rw [if_neg e, if_neg (Ne.symm e)]
theorem bagAt_snoc {F : Fam} {j : Nat} {bag : List Nat} : bagAt (F ++ [bag]) j = if j = F.length then bag else bagAt F j := by
  unfold bagAt
  rw [List.getD_eq_getElem?_getD, List.getD_eq_getElem?_getD]
  rcases Nat.lt_trichotomy j F.length with h | h | h
  · rw [if_neg (by omega), List.getElem?_append_left h]
  · subst h
    rw [if_pos rfl, List.getElem?_append_right (Nat.le_refl _), Nat.sub_self]
    rfl
  · rw [if_neg (by omega), List.getElem?_eq_none (by rw [List.length_append, List.length_singleton]; omega), List.getElem?_eq_none (by omega)]
theorem filter_range_eq {p : Nat → Bool} {i : Nat} : ∀ {n : Nat}, i < n → (∀ j, j < n → (p j = true ↔ j = i)) → (List.range n).filter p = [i]
  | 0, h, _ => absurd h (Nat.not_lt_zero _)
  | n + 1, h, hp => by
    rw [List.range_succ, List.filter_append]
    rcases Nat.lt_or_ge i n with q | q
    · rw [filter_range_eq q fun j hj => hp j (Nat.lt_succ_of_lt hj), List.filter_cons_of_neg (fun z => by
        have := (hp n (Nat.lt_succ_self n)).mp z
        omega), List.filter_nil, List.append_nil]
    · have e : i = n := by omega
      subst e
      have e0 : (List.range i).filter p = [] := List.filter_eq_nil_iff.mpr fun j hj z => by
        have hj := List.mem_range.mp hj
        have := (hp j (Nat.lt_succ_of_lt hj)).mp z
        omega
      rw [e0, List.filter_cons_of_pos ((hp i (Nat.lt_succ_self i)).mpr rfl), List.filter_nil, List.nil_append]
theorem Grown.pre {n : Nat} {G : Fam} (g : Grown n G) : Pre n G := by
  induction g with
  | base =>
    refine ⟨Nat.le_refl _, ?_, by simp, ?_, rfl, ?_⟩
    · intro bag hb
      rw [List.mem_singleton] at hb
      subst hb
      refine ⟨by simp, Nat.le_refl _, fun b hb => ?_⟩
      simp at hb
      omega
    · intro b hb
      refine ⟨[0, 1], List.mem_singleton.mpr rfl, ?_⟩
      have : b = 0 ∨ b = 1 := by omega
      simpa using this
    · have t1 := TreeP.one.leaf (k := false) (y := 0) (by decide)
      have t2 := t1.leaf (k := true) (y := 0) (by decide)
      have e1 : nbOf [[0, 1]] = addL (addL nb0 false (c0 false) 0) true (cup c0 false true) 0 := by
        funext k v
        cases k
        · match v with
          | 0 => rfl
          | v + 1 => rfl
        · match v with
          | 0 => rfl
          | 1 => rfl
          | v + 2 => rfl
      have e2 : cOf 2 [[0, 1]].length = cup (cup c0 false) true := by
        funext k
        cases k <;> rfl
      rw [e1, e2]
      exact t2
  | @app n G i g hi P =>
    have hn : ∀ bag ∈ G, n ∉ bag := fun bag hb h => Nat.lt_irrefl _ ((P.bags bag hb).2.2 n h)
    have hbm := bagAt_mem hi
    have mem : ∀ bag ∈ G.set i (bagAt G i ++ [n]), bag = bagAt G i ++ [n] ∨ bag ∈ G := fun bag hb => by
      rcases List.mem_or_eq_of_mem_set hb with h | h
      · exact .inr h
      · exact .inl h
    refine ⟨Nat.le_succ_of_le P.two, fun bag hb => ?_, ?_, fun b hb => ?_, ?_, ?_⟩
    · rcases mem bag hb with rfl | hb
      · obtain ⟨b1, b2, b3⟩ := P.bags _ hbm
        refine ⟨List.pairwise_append.mpr ⟨b1, by simp, fun a ha b hb => ?_⟩, by rw [List.length_append]; omega, fun b hb => ?_⟩
        · rw [List.mem_singleton.mp hb]
          exact b3 a ha
        · rcases List.mem_append.mp hb with hb | hb
          · exact Nat.lt_succ_of_lt (b3 b hb)
          · rw [List.mem_singleton.mp hb]; exact Nat.lt_succ_self n
      · obtain ⟨b1, b2, b3⟩ := P.bags _ hb
        exact ⟨b1, b2, fun b hb => Nat.lt_succ_of_lt (b3 b hb)⟩
    · refine List.pairwise_iff_getElem.mpr fun a b ha hb hab e => ?_
      rw [List.getElem_set, List.getElem_set] at e
      rw [List.length_set] at ha hb
      split at e
      · split at e
        · omega
        · have hm : G[b] ∈ G := List.getElem_mem ..
          rw [← e] at hm
          exact hn _ hm (List.mem_append_right _ (List.mem_singleton.mpr rfl))
      · split at e
        · have hm : G[a] ∈ G := List.getElem_mem ..
          rw [e] at hm
          exact hn _ hm (List.mem_append_right _ (List.mem_singleton.mpr rfl))
        · exact List.pairwise_iff_getElem.mp P.nd a b ha hb hab e
    · have hself : bagAt G i ++ [n] ∈ G.set i (bagAt G i ++ [n]) := List.mem_set hi _
      by_cases e : b = n
      · subst e
        exact ⟨_, hself, List.mem_append_right _ (List.mem_singleton.mpr rfl)⟩
      · obtain ⟨bag, h1, h2⟩ := P.cover b (by omega)
        obtain ⟨j, hj, ej⟩ := mem_bagAt h1
        by_cases eij : j = i
        · subst eij
          exact ⟨_, hself, List.mem_append_left _ (by rw [ej]; exact h2)⟩
        · have e2 := bagAt_set (bag := bagAt G i ++ [n]) (j := j) hi
          rw [if_neg eij, ej] at e2
          refine ⟨bag, ?_, h2⟩
          rw [← e2]
          exact bagAt_mem (by rw [List.length_set]; exact hj)
    · rw [List.map_set, List.length_set]
      have q := sum_set' (l := G.map List.length) (i := i) (x := (bagAt G i ++ [n]).length) (by rw [List.length_map]; exact hi)
      have e : (G.map List.length).getD i 0 = (bagAt G i).length := by
        rw [List.getD_eq_getElem?_getD, List.getElem?_map, bagAt_lt hi]
        rfl
      have hx : (bagAt G i ++ [n]).length = (bagAt G i).length + 1 := by rw [List.length_append, List.length_singleton]
      rw [e] at q
      rw [hx] at q ⊢
      have := P.sum
      omega
    · have t := P.tree.leaf (k := true) (y := i) (by exact hi)
      have e1 : nbOf (G.set i (bagAt G i ++ [n])) = addL (nbOf G) true (cOf n G.length true) i := by
        funext k v
        cases k
        · by_cases e : v = i <;> simp [addL, nbOf, bagAt_set hi, e, cOf]
        · show idxs (G.set i _) v = if true = true ∧ v = n then [i] else if true = (!true) ∧ v = i then _ else idxs G v
          rw [if_neg (c := true = (!true) ∧ v = i) (fun q => Bool.false_ne_true q.1.symm)]
          unfold idxs
          rw [List.length_set]
          by_cases e : v = n
          · subst e
            rw [if_pos ⟨rfl, rfl⟩]
            refine filter_range_eq hi fun j hj => ?_
            rw [decide_eq_true_eq, bagAt_set hi]
            by_cases e : j = i
            · subst e
              simp
            · rw [if_neg e]
              exact ⟨fun h => absurd h (hn _ (bagAt_mem hj)), fun h => absurd h e⟩
          · rw [if_neg (fun q => e q.2)]
            refine List.filter_congr fun j hj => ?_
            rw [bagAt_set hi]
            by_cases e2 : j = i
            · subst e2
              rw [if_pos rfl]
              simp [e]
            · rw [if_neg e2]
      have e2 : cOf (n + 1) (G.set i (bagAt G i ++ [n])).length = cup (cOf n G.length) true := by
        funext k
        rw [List.length_set]
        cases k <;> rfl
      rw [e1, e2]
      exact t
  | @new n G p g hp P =>
    have hn : ∀ bag ∈ G, n ∉ bag := fun bag hb h => Nat.lt_irrefl _ ((P.bags bag hb).2.2 n h)
    refine ⟨Nat.le_succ_of_le P.two, fun bag hb => ?_, ?_, fun b hb => ?_, ?_, ?_⟩
    · rcases List.mem_append.mp hb with hb | hb
      · obtain ⟨b1, b2, b3⟩ := P.bags _ hb
        exact ⟨b1, b2, fun b hb => Nat.lt_succ_of_lt (b3 b hb)⟩
      · rw [List.mem_singleton.mp hb]
        refine ⟨by simpa using hp, Nat.le_refl _, fun b hb => ?_⟩
        simp at hb
        omega
    · refine nodup_snoc P.nd fun h => hn _ h ?_
      simp
    · by_cases e : b = n
      · exact ⟨[p, n], List.mem_append_right _ (List.mem_singleton.mpr rfl), by rw [e]; simp⟩
      · obtain ⟨bag, h1, h2⟩ := P.cover b (by omega)
        exact ⟨bag, List.mem_append_left _ h1, h2⟩
    · rw [List.map_append, List.sum_append, List.length_append]
      have := P.sum
      simp
      omega
    · have t1 := P.tree.leaf (k := false) (y := p) (by exact hp)
      have t2 := t1.leaf (k := true) (y := G.length) (by
        show G.length < cup (cOf n G.length) false false
        rw [cup_self]
        exact Nat.lt_succ_self _)
      have cn : cup (cOf n G.length) false true = n := cup_ne (cOf n G.length) false
      have e1 : nbOf (G ++ [[p, n]]) = addL (addL (nbOf G) false (cOf n G.length false) p) true (cup (cOf n G.length) false true) G.length := by
        rw [cn]
        funext k v
        cases k
        · show bagAt (G ++ [[p, n]]) v = if false = true ∧ _ then _ else if false = (!true) ∧ v = G.length then (if false = false ∧ v = G.length then [p] else if false = (!false) ∧ v = p then _ else bagAt G v) ++ [n] else (if false = false ∧ v = G.length then [p] else if false = (!false) ∧ v = p then _ else bagAt G v)
          rw [bagAt_snoc, if_neg (c := false = true ∧ v = n) (fun q => Bool.false_ne_true q.1)]
          by_cases e : v = G.length
          · rw [if_pos e, if_pos ⟨rfl, e⟩, if_pos ⟨rfl, e⟩]
            rfl
          · rw [if_neg e, if_neg (fun q => e q.2), if_neg (fun q => e q.2), if_neg (fun q => Bool.false_ne_true q.1)]
        · show idxs (G ++ [[p, n]]) v = if true = true ∧ v = n then [G.length] else if true = (!true) ∧ v = G.length then _ else (if true = false ∧ v = G.length then _ else if true = (!false) ∧ v = p then idxs G v ++ [G.length] else idxs G v)
          rw [if_neg (c := true = (!true) ∧ v = G.length) (fun q => Bool.false_ne_true q.1.symm), if_neg (c := true = false ∧ v = G.length) (fun q => Bool.false_ne_true q.1.symm)]
          unfold idxs
          rw [List.length_append, List.length_singleton, List.range_succ, List.filter_append]
          have old : (List.range G.length).filter (fun i => decide (v ∈ bagAt (G ++ [[p, n]]) i)) = (List.range G.length).filter fun i => decide (v ∈ bagAt G i) := by
            refine List.filter_congr fun j hj => ?_
            have hj := List.mem_range.mp hj
            rw [bagAt_snoc, if_neg (by omega)]
          have new : [G.length].filter (fun i => decide (v ∈ bagAt (G ++ [[p, n]]) i)) = if v = p ∨ v = n then [G.length] else [] := by
            rw [List.filter_cons, bagAt_snoc, if_pos rfl]
            simp
          rw [old, new]
          by_cases e : v = n
          · subst e
            rw [if_pos (.inr rfl), if_pos ⟨rfl, rfl⟩]
            have z : (List.range G.length).filter (fun i => decide (v ∈ bagAt G i)) = [] := List.filter_eq_nil_iff.mpr fun j hj h => by
              rw [decide_eq_true_eq] at h
              exact hn _ (bagAt_mem (List.mem_range.mp hj)) h
            rw [z]
            rfl
          · rw [if_neg (c := true = true ∧ v = n) (fun q => e q.2)]
            by_cases e2 : v = p
            · rw [if_pos (.inl e2), if_pos ⟨rfl, e2⟩]
            · rw [if_neg (by rintro (q | q); exact e2 q; exact e q), if_neg (fun q => e2 q.2), List.append_nil]
      have e2 : cOf (n + 1) (G ++ [[p, n]]).length = cup (cup (cOf n G.length) false) true := by
        funext k
        rw [List.length_append]
        cases k <;> rfl
      rw [e1, e2]
      exact t2

/-! ### renaming -/
def nm (σ : List Nat) (bag : List Nat) : List Nat := sortN (bag.map fun b => σ.getD b 0)
def named (F : Fam) (σ : List Nat) : Fam := sortL (F.map (nm σ))
def IsPerm (n : Nat) (σ : List Nat) : Prop := σ.Perm (List.range n)
section
variable {n : Nat} {σ : List Nat} {F : Fam}
theorem IsPerm.len (p : IsPerm n σ) : σ.length = n := by
  have := List.Perm.length_eq p
  rw [List.length_range] at this
  exact this
theorem IsPerm.get (p : IsPerm n σ) {b : Nat} (h : b < n) : σ[b]? = some (σ.getD b 0) := by
  have hl : b < σ.length := by rw [p.len]; exact h
  rw [List.getD_eq_getElem?_getD, List.getElem?_eq_getElem hl]
  rfl
theorem IsPerm.lt (p : IsPerm n σ) {b : Nat} (h : b < n) : σ.getD b 0 < n :=
  List.mem_range.mp ((List.Perm.mem_iff p).mp (List.mem_of_getElem? (p.get h)))
theorem IsPerm.nodup (p : IsPerm n σ) : σ.Nodup := (List.Perm.nodup_iff p).mpr List.nodup_range
theorem IsPerm.inj (p : IsPerm n σ) {a b : Nat} (ha : a < n) (hb : b < n) (e : σ.getD a 0 = σ.getD b 0) : a = b := by
  have h1 := p.get ha
  have h2 := p.get hb
  rw [e] at h1
  exact (List.getElem?_inj (by rw [p.len]; exact ha) p.nodup).mp (h1.trans h2.symm)
theorem nm_perm {bag : List Nat} : (nm σ bag).Perm (bag.map fun b => σ.getD b 0) := sortN_perm _
theorem nm_length {bag : List Nat} : (nm σ bag).length = bag.length := by
  unfold nm
  rw [sortN_length, List.length_map]
theorem mem_nm {bag : List Nat} {x : Nat} : x ∈ nm σ bag ↔ ∃ b ∈ bag, σ.getD b 0 = x := by
  rw [(nm_perm (σ := σ) (bag := bag)).mem_iff, List.mem_map]
theorem mem_nm_at (p : IsPerm n σ) {bag : List Nat} (hb : ∀ b ∈ bag, b < n) {b : Nat} (h : b < n) : σ.getD b 0 ∈ nm σ bag ↔ b ∈ bag := by
  rw [mem_nm]
  constructor
  · rintro ⟨a, ha, e⟩
    rw [← p.inj (hb a ha) h e]
    exact ha
  · exact fun q => ⟨b, q, rfl⟩
theorem sorted_lt_ext : ∀ {l l' : List Nat}, l.Pairwise (· < ·) → l'.Pairwise (· < ·) → (∀ x, x ∈ l ↔ x ∈ l') → l = l' := fun {l l'} h h' e =>
  sorted_uniq ordN ((List.perm_ext_iff_of_nodup (nodup_of_lt h) (nodup_of_lt h')).mpr e) (pw_ble.mpr (le_of_lt_pw h)) (pw_ble.mpr (le_of_lt_pw h'))
theorem nm_inj (p : IsPerm n σ) {a b : List Nat} (ha : a.Pairwise (· < ·)) (hb : b.Pairwise (· < ·)) (ha' : ∀ x ∈ a, x < n) (hb' : ∀ x ∈ b, x < n) (e : nm σ a = nm σ b) : a = b := by
  refine sorted_lt_ext ha hb fun x => ⟨fun hx => ?_, fun hx => ?_⟩
  · have := (mem_nm_at p ha' (ha' x hx)).mpr hx
    rw [e] at this
    exact (mem_nm_at p hb' (ha' x hx)).mp this
  · have := (mem_nm_at p hb' (hb' x hx)).mpr hx
    rw [← e] at this
    exact (mem_nm_at p ha' (hb' x hx)).mp this
theorem nm_lt (p : IsPerm n σ) {a : List Nat} (ha : a.Pairwise (· < ·)) (ha' : ∀ x ∈ a, x < n) : (nm σ a).Pairwise (· < ·) := by
  refine lt_of_le_nodup (sortN_sorted _) ((nm_perm (σ := σ) (bag := a)).nodup_iff.mpr (nodup_map_on (nodup_of_lt ha) fun x hx y hy e => ?_))
  exact p.inj (ha' x hx) (ha' y hy) e
theorem named_perm (F : Fam) (σ : List Nat) : (named F σ).Perm (F.map (nm σ)) := sortL_perm _
theorem named_length : (named F σ).length = F.length := by
  rw [(named_perm F σ).length_eq, List.length_map]
def phi (F : Fam) (σ : List Nat) : Bool → Nat → Nat := fun k v => if k then σ.getD v 0 else (named F σ).idxOf (nm σ (bagAt F v))
theorem Pre.bag (P : Pre n F) {i : Nat} (h : i < F.length) : (bagAt F i).Pairwise (· < ·) ∧ 2 ≤ (bagAt F i).length ∧ ∀ b ∈ bagAt F i, b < n := P.bags _ (bagAt_mem h)
theorem Pre.inj (P : Pre n F) {i j : Nat} (hi : i < F.length) (hj : j < F.length) (e : bagAt F i = bagAt F j) : i = j := by
  have h1 := bagAt_lt hi
  have h2 := bagAt_lt hj
  rw [e] at h1
  exact (List.getElem?_inj hi P.nd).mp (h1.trans h2.symm)
theorem Pre.named_nd (P : Pre n F) (p : IsPerm n σ) : (named F σ).Nodup :=
  (named_perm F σ).nodup_iff.mpr (nodup_map_on P.nd fun a ha b hb e => nm_inj p (P.bags a ha).1 (P.bags b hb).1 (P.bags a ha).2.2 (P.bags b hb).2.2 e)
theorem Pre.phi_at (P : Pre n F) (p : IsPerm n σ) {i : Nat} (h : i < F.length) : phi F σ false i < F.length ∧ bagAt (named F σ) (phi F σ false i) = nm σ (bagAt F i) := by
  have hm : nm σ (bagAt F i) ∈ named F σ := (named_perm F σ).mem_iff.mpr (List.mem_map.mpr ⟨_, bagAt_mem h, rfl⟩)
  have hl : (named F σ).idxOf (nm σ (bagAt F i)) < (named F σ).length := List.idxOf_lt_length_of_mem hm
  refine ⟨by rw [← named_length (F := F) (σ := σ)]; exact hl, ?_⟩
  refine bagAt_some ?_
  show (named F σ)[(named F σ).idxOf (nm σ (bagAt F i))]? = _
  rw [List.getElem?_eq_getElem hl]
  congr 1
  exact List.getElem_idxOf hl
theorem Pre.iso (P : Pre n F) (p : IsPerm n σ) : Iso (nbOf F) (nbOf (named F σ)) (cOf n F.length) (phi F σ) where
  lt := fun k v hv => by
    cases k
    · exact (P.phi_at p hv).1
    · exact p.lt hv
  inj := fun k v w hv hw e => by
    cases k
    · have h1 := (P.phi_at p hv).2
      have h2 := (P.phi_at p hw).2
      rw [e] at h1
      have e2 : nm σ (bagAt F v) = nm σ (bagAt F w) := h1.symm.trans h2
      exact P.inj hv hw (nm_inj p (P.bag hv).1 (P.bag hw).1 (P.bag hv).2.2 (P.bag hw).2.2 e2)
    · exact p.inj hv hw e
  adj := fun k v hv => by
    cases k
    · show (bagAt (named F σ) (phi F σ false v)).Perm _
      rw [(P.phi_at p hv).2]
      exact nm_perm
    · have hv : v < n := hv
      show (idxs (named F σ) (σ.getD v 0)).Perm ((idxs F v).map (phi F σ false))
      refine (List.perm_ext_iff_of_nodup (nodup_idxs _ _) (nodup_map_on (nodup_idxs _ _) fun x hx y hy e => ?_)).mpr fun j => ?_
      · have hx := (mem_idxs.mp hx).1
        have hy := (mem_idxs.mp hy).1
        have h1 := (P.phi_at p hx).2
        have h2 := (P.phi_at p hy).2
        rw [e] at h1
        have e2 : nm σ (bagAt F x) = nm σ (bagAt F y) := h1.symm.trans h2
        exact P.inj hx hy (nm_inj p (P.bag hx).1 (P.bag hy).1 (P.bag hx).2.2 (P.bag hy).2.2 e2)
      · rw [mem_idxs, List.mem_map]
        constructor
        · rintro ⟨hj, hm⟩
          have hb := bagAt_mem hj
          obtain ⟨bag, hbag, e⟩ := List.mem_map.mp ((named_perm F σ).mem_iff.mp hb)
          obtain ⟨i, hi, ei⟩ := mem_bagAt hbag
          refine ⟨i, mem_idxs.mpr ⟨hi, ?_⟩, ?_⟩
          · rw [← e, ← ei] at hm
            exact (mem_nm_at p (P.bag hi).2.2 hv).mp hm
          · obtain ⟨q1, q2⟩ := P.phi_at p hi
            rw [← named_length (F := F) (σ := σ)] at q1
            have h1 := bagAt_lt q1
            have h2 := bagAt_lt hj
            rw [q2, ei, e] at h1
            exact (List.getElem?_inj q1 (P.named_nd p)).mp (h1.trans h2.symm)
        · rintro ⟨i, hi, rfl⟩
          obtain ⟨hi1, hi2⟩ := mem_idxs.mp hi
          obtain ⟨q1, q2⟩ := P.phi_at p hi1
          rw [named_length, q2]
          exact ⟨q1, (mem_nm_at p (P.bag hi1).2.2 hv).mpr hi2⟩
/-- a renamed family is a family -/
theorem Pre.named (P : Pre n F) (p : IsPerm n σ) : IsFam n (named F σ) where
  two := P.two
  bags := fun bag hb => by
    obtain ⟨a, ha, rfl⟩ := List.mem_map.mp ((named_perm F σ).mem_iff.mp hb)
    obtain ⟨b1, b2, b3⟩ := P.bags a ha
    refine ⟨nm_lt p b1 b3, by rw [nm_length]; exact b2, fun x hx => ?_⟩
    obtain ⟨b, hb, rfl⟩ := mem_nm.mp hx
    exact p.lt (b3 b hb)
  nd := P.named_nd p
  cover := fun b hb => by
    obtain ⟨c, hc, e⟩ := (P.iso p).surj (k := true) (v := b) (by exact hb)
    have hc : c < n := hc
    obtain ⟨bag, h1, h2⟩ := P.cover c hc
    refine ⟨nm σ bag, (named_perm F σ).mem_iff.mpr (List.mem_map.mpr ⟨bag, h1, rfl⟩), ?_⟩
    rw [← e]
    exact (mem_nm_at p (P.bags bag h1).2.2 hc).mpr h2
  sum := by
    rw [sum_perm ((named_perm F σ).map List.length), List.map_map, named_length]
    have e : (F.map (List.length ∘ nm σ)) = F.map List.length := List.map_congr_left fun a _ => nm_length
    rw [e]
    exact P.sum
  tree := by
    rw [named_length]
    exact (P.iso p).tree P.tree
  rise := lexLt_of_nodup (sortL_sorted _) (P.named_nd p)
end
end Sb

/-! ME: the middle of a tree; the shape; it stays under renaming (plain Lean). -/
namespace Sb

/-! ### counting -/
theorem length_eq_ssum {l : List Nat} {n : Nat} (hn : l.Nodup) (hl : ∀ x ∈ l, x < n) : l.length = ssum (fun w => if w ∈ l then 1 else 0) n := by
  have p : l.Perm ((List.range n).filter fun w => decide (w ∈ l)) := (List.perm_ext_iff_of_nodup hn (List.nodup_range.filter _)).mpr fun x => by
    rw [List.mem_filter, List.mem_range, decide_eq_true_eq]
    exact ⟨fun h => ⟨hl x h, h⟩, fun h => h.2⟩
  rw [p.length_eq]
  have key : ∀ m, ((List.range m).filter fun w => decide (w ∈ l)).length = ssum (fun w => if w ∈ l then 1 else 0) m := by
    intro m
    induction m with
    | zero => rfl
    | succ m ih =>
      rw [List.range_succ, List.filter_append, List.length_append, ih, ssum_succ]
      congr 1
      by_cases h : m ∈ l <;> simp [h]
  exact key n
theorem lcard_eq (c : Bool → Nat) (L : Bool → Nat → Bool) (k : Bool) : lcard c L k = ((List.range (c k)).filter (L k)).length := by
  unfold lcard
  generalize c k = m
  induction m with
  | zero => rfl
  | succ m ih =>
    rw [List.range_succ, List.filter_append, List.length_append, ssum_succ, ih]
    congr 1
    cases h : L k m <;> simp [h]
theorem filter_del {l : List Nat} (hn : l.Nodup) (p : Nat → Bool) (v : Nat) : (l.filter fun w => p w && decide (w ≠ v)).length + (if v ∈ l ∧ p v = true then 1 else 0) = (l.filter p).length := by
  induction l with
  | nil => simp
  | cons x l ih =>
    obtain ⟨h1, h2⟩ := List.nodup_cons.mp hn
    have ih := ih h2
    by_cases e : x = v
    · subst e
      rw [List.filter_cons_of_neg (by simp)]
      have e0 : (if x ∈ l ∧ p x = true then 1 else 0) = 0 := if_neg fun q => h1 q.1
      rw [e0] at ih
      cases hp : p x
      · rw [List.filter_cons_of_neg (by simp [hp]), if_neg (by simp)]
        exact ih
      · rw [List.filter_cons_of_pos hp, if_pos ⟨List.mem_cons_self, rfl⟩, List.length_cons]
        omega
    · have e1 : (if v ∈ x :: l ∧ p v = true then 1 else 0) = if v ∈ l ∧ p v = true then 1 else 0 := by
        have : (v ∈ x :: l) ↔ v ∈ l := by
          rw [List.mem_cons]
          exact ⟨fun q => q.resolve_left (Ne.symm e), .inr⟩
        simp [this]
      rw [e1]
      cases hp : p x
      · rw [List.filter_cons_of_neg (by simp [hp]), List.filter_cons_of_neg (by simp [hp])]
        exact ih
      · rw [List.filter_cons_of_pos (by simp [hp, e]), List.filter_cons_of_pos hp, List.length_cons, List.length_cons]
        omega

/-! ### taking nodes away -/
def del (L : Bool → Nat → Bool) (k : Bool) (v : Nat) : Bool → Nat → Bool := fun j w => L j w && !(decide (j = k) && decide (w = v))
theorem del_self {L : Bool → Nat → Bool} {k : Bool} {v : Nat} : del L k v k v = false := by simp [del]
theorem del_ne {L : Bool → Nat → Bool} {k : Bool} {v w : Nat} (h : w ≠ v) : del L k v k w = L k w := by simp [del, h]
theorem del_nk {L : Bool → Nat → Bool} {k : Bool} {v w : Nat} : del L k v (!k) w = L (!k) w := by simp [del, bne k]
section
variable {nb : Nb} {c : Bool → Nat} {L : Bool → Nat → Bool} {k : Bool} {v : Nat}
theorem deg_del_k {w : Nat} : deg nb (del L k v) k w = deg nb L k w := by
  unfold deg
  have e : (del L k v (!k)) = L (!k) := by funext w; exact del_nk
  rw [e]
theorem deg_del_nk (hn : (nb (!k) w).Nodup) (hL : L k v = true) : deg nb (del L k v) (!k) w + (if v ∈ nb (!k) w then 1 else 0) = deg nb L (!k) w := by
  unfold deg
  rw [bnn]
  have e : (del L k v k) = fun w => L k w && decide (w ≠ v) := by
    funext w
    unfold del
    by_cases h : w = v <;> simp [h]
  rw [e]
  have q := filter_del hn (L k) v
  have e2 : (if v ∈ nb (!k) w ∧ L k v = true then 1 else 0) = if v ∈ nb (!k) w then 1 else 0 := by simp [hL]
  rw [e2] at q
  exact q
theorem lcard_del (hv : v < c k) (hL : L k v = true) : card c (del L k v) + 1 = card c L := by
  have a : lcard c (del L k v) k + 1 = lcard c L k := by
    unfold lcard
    rw [← ssum_plus_point (f := fun w => if del L k v k w then 1 else 0) hv]
    refine ssum_congr fun i hi => ?_
    by_cases e : i = v
    · subst e
      rw [del_self, hL]
      simp
    · rw [del_ne e, if_neg e, Nat.add_zero]
  have b : lcard c (del L k v) (!k) = lcard c L (!k) := by
    unfold lcard
    exact ssum_congr fun i hi => by rw [del_nk]
  show lcard _ _ true + lcard _ _ false + 1 = lcard _ _ true + lcard _ _ false
  rw [sum_two (lcard c (del L k v)) k, sum_two (lcard c L) k]
  omega
theorem TreeP.deg_sum (T : TreeP nb c) (hv : v < c k) : deg nb L k v = ssum (fun w => if L (!k) w then (if v ∈ nb (!k) w then 1 else 0) else 0) (c (!k)) := by
  unfold deg
  rw [length_eq_ssum (n := c (!k)) ((T.nd k v hv).filter _) fun x hx => T.inb _ _ _ hv (List.mem_filter.mp hx).1]
  refine ssum_congr fun w hw => ?_
  have e : w ∈ nb k v ↔ v ∈ nb (!k) w := ⟨fun h => T.sym _ _ _ hv h, fun h => by
    have := T.sym _ _ _ hw h
    rw [bnn] at this
    exact this⟩
  by_cases h1 : L (!k) w = true
  · rw [if_pos h1]
    by_cases h2 : v ∈ nb (!k) w
    · rw [if_pos h2, if_pos (List.mem_filter.mpr ⟨e.mpr h2, h1⟩)]
    · rw [if_neg h2, if_neg fun q => h2 (e.mp (List.mem_filter.mp q).1)]
  · rw [if_neg h1, if_neg fun q => h1 (List.mem_filter.mp q).2]
theorem TreeP.e2_del (T : TreeP nb c) (hv : v < c k) (hL : L k v = true) : e2 nb c (del L k v) + 2 * deg nb L k v = e2 nb c L := by
  have a : dsum nb c (del L k v) k + deg nb L k v = dsum nb c L k := by
    unfold dsum
    rw [← ssum_plus_point (f := fun w => if del L k v k w then deg nb (del L k v) k w else 0) hv]
    refine ssum_congr fun i hi => ?_
    by_cases e : i = v
    · subst e
      rw [del_self, hL]
      simp
    · rw [del_ne e, if_neg e, Nat.add_zero, deg_del_k]
  have b : dsum nb c (del L k v) (!k) + deg nb L k v = dsum nb c L (!k) := by
    rw [T.deg_sum hv]
    unfold dsum
    rw [← ssum_add]
    refine ssum_congr fun i hi => ?_
    rw [del_nk]
    by_cases h : L (!k) i = true
    · rw [if_pos h, if_pos h, if_pos h]
      exact deg_del_nk (T.nd _ _ hi) hL
    · rw [if_neg h, if_neg h, if_neg h]
  show dsum _ _ _ true + dsum _ _ _ false + _ = dsum _ _ _ true + dsum _ _ _ false
  rw [sum_two (dsum nb c (del L k v)) k, sum_two (dsum nb c L) k]
  omega
/-- what is left is a tree -/
def Left (nb : Nb) (c : Bool → Nat) (L : Bool → Nat → Bool) : Prop := e2 nb c L + 2 = 2 * card c L
theorem Left.pos (h : Left nb c L) : 1 ≤ card c L := by
  unfold Left at h
  omega
theorem Left.deg (T : TreeP nb c) (h : Left nb c L) (hv : v < c k) (hL : L k v = true) (h2 : 2 ≤ card c L) : 1 ≤ deg nb L k v := by
  have a := T.e2_del hv hL
  have b := lcard_del hv hL
  have f := T.forest (del L k v) (by omega)
  unfold Left at h
  omega
theorem Left.del (T : TreeP nb c) (h : Left nb c L) (hv : v < c k) (hL : L k v = true) (h2 : 2 ≤ card c L) (hd : Sb.deg nb L k v < 2) : Left nb c (del L k v) := by
  have a := T.e2_del hv hL
  have b := lcard_del hv hL
  have g := h.deg T hv hL h2
  unfold Left at h ⊢
  omega
theorem card_congr {L L' : Bool → Nat → Bool} (h : ∀ k v, v < c k → L k v = L' k v) : card c L = card c L' := by
  have e : ∀ k, lcard c L k = lcard c L' k := fun k => ssum_congr fun i hi => by rw [h k i hi]
  show lcard _ _ _ + lcard _ _ _ = lcard _ _ _ + lcard _ _ _
  rw [e, e]
theorem deg_congr (inb : ∀ k v w, v < c k → w ∈ nb k v → w < c (!k)) {L L' : Bool → Nat → Bool} (h : ∀ k v, v < c k → L k v = L' k v) (hv : v < c k) : deg nb L k v = deg nb L' k v := by
  unfold Sb.deg
  rw [List.filter_congr fun w hw => h (!k) w (inb _ _ _ hv hw)]
theorem e2_congr (inb : ∀ k v w, v < c k → w ∈ nb k v → w < c (!k)) {L L' : Bool → Nat → Bool} (h : ∀ k v, v < c k → L k v = L' k v) : e2 nb c L = e2 nb c L' := by
  have e : ∀ k, dsum nb c L k = dsum nb c L' k := fun k => ssum_congr fun i hi => by rw [h k i hi, deg_congr inb h hi]
  show dsum _ _ _ _ + dsum _ _ _ _ = dsum _ _ _ _ + dsum _ _ _ _
  rw [e, e]
theorem card_lall : card c lall = tot c := by
  show ssum (fun _ => 1) (c true) + ssum (fun _ => 1) (c false) = _
  rw [ssum_one, ssum_one]
theorem left_lall (T : TreeP nb c) : Left nb c lall := by
  unfold Left
  rw [T.full, card_lall]

/-! ### a round -/
def small (nb : Nb) (L : Bool → Nat → Bool) (k : Bool) (v : Nat) : Bool := decide (deg nb L k v < 2)
/-- without some nodes of one kind -/
def sub (L : Bool → Nat → Bool) (k : Bool) (p : Nat → Bool) : Bool → Nat → Bool := fun j w => L j w && !(decide (j = k) && p w)
theorem sub_nk {p : Nat → Bool} {w : Nat} : sub L k p (!k) w = L (!k) w := by simp [sub, bne k]
theorem sub_k {p : Nat → Bool} {w : Nat} : sub L k p k w = (L k w && !p w) := by simp [sub]
def round (nb : Nb) (c : Bool → Nat) (L : Bool → Nat → Bool) : Bool → Nat → Bool :=
  let L1 := sub L true (small nb L true)
  if card c L1 ≤ 1 then L1 else sub L1 false (small nb L false)
def peel (nb : Nb) (c : Bool → Nat) : Nat → (Bool → Nat → Bool) → Bool → Nat → Bool
  | 0, L => L
  | d + 1, L => if card c L ≤ 1 then L else peel nb c d (round nb c L)
/-- the nodes of one kind that are taken away, one after another: those of a list -/
def subL (L : Bool → Nat → Bool) (k : Bool) (l : List Nat) : Bool → Nat → Bool := sub L k fun w => decide (w ∈ l)
theorem subL_nil : subL L k [] = L := by
  funext j w
  simp [subL, sub]
theorem subL_snoc {l : List Nat} {x : Nat} : subL L k (l ++ [x]) = del (subL L k l) k x := by
  funext j w
  simp only [subL, sub, del, List.mem_append, List.mem_singleton]
  by_cases h1 : j = k <;> by_cases h2 : w ∈ l <;> by_cases h3 : w = x <;> simp [h1, h2, h3]
theorem subL_range {p : Nat → Bool} : ∀ j w, w < c j → subL L k ((List.range (c k)).filter fun v => L k v && p v) j w = sub L k p j w := by
  intro j w hw
  rcases beq_or k j with rfl | rfl
  · show sub L j _ j w = _
    rw [sub_k, sub_k]
    cases h1 : L j w <;> cases h2 : p w <;> simp [h1, h2, List.mem_filter, hw]
  · show sub L k _ (!k) w = _
    rw [sub_nk, sub_nk]
theorem deg_subL_k {l : List Nat} {w : Nat} : deg nb (subL L k l) k w = deg nb L k w := by
  unfold Sb.deg
  have e : (subL L k l (!k)) = L (!k) := by funext w; exact sub_nk
  rw [e]
/-- ends of one kind go, one after another -/
theorem Left.subL (T : TreeP nb c) (h : Left nb c L) : ∀ (l : List Nat), l.Nodup → (∀ x ∈ l, x < c k ∧ L k x = true ∧ Sb.deg nb L k x < 2 ∧ 1 ≤ Sb.deg nb L k x) → Left nb c (subL L k l) ∧ card c (Sb.subL L k l) + l.length = card c L := by
  intro l
  generalize hr : l.reverse = r
  have hl : l = r.reverse := by rw [← hr, List.reverse_reverse]
  subst hl
  clear hr
  induction r with
  | nil => intro _ _; rw [List.reverse_nil, subL_nil]; exact ⟨h, rfl⟩
  | cons x r ih =>
    rw [List.reverse_cons]
    intro hn hx
    obtain ⟨n1, _, n3⟩ := List.nodup_append.mp hn
    obtain ⟨ih1, ih2⟩ := ih n1 fun y hy => hx y (List.mem_append_left _ hy)
    obtain ⟨x1, x2, x3, x4⟩ := hx x (List.mem_append_right _ (List.mem_singleton.mpr rfl))
    have hxr : x ∉ r.reverse := fun q => n3 x q x (List.mem_singleton.mpr rfl) rfl
    have hLx : Sb.subL L k r.reverse k x = true := by
      show sub L k _ k x = true
      rw [sub_k, x2, decide_eq_false hxr]
      rfl
    have hdx : Sb.deg nb (Sb.subL L k r.reverse) k x = Sb.deg nb L k x := deg_subL_k
    -- a neighbor is left, so there are two
    have h2 : 2 ≤ card c (Sb.subL L k r.reverse) := by
      have b := lcard_del (L := Sb.subL L k r.reverse) x1 hLx
      have a := T.e2_del (L := Sb.subL L k r.reverse) x1 hLx
      have i : e2 nb c (Sb.subL L k r.reverse) + 2 = 2 * card c (Sb.subL L k r.reverse) := ih1
      omega
    rw [subL_snoc]
    refine ⟨ih1.del T x1 hLx h2 (by rw [hdx]; exact x3), ?_⟩
    have b := lcard_del (L := Sb.subL L k r.reverse) x1 hLx
    rw [List.length_append, List.length_singleton]
    omega
theorem Left.sub (T : TreeP nb c) (h : Left nb c L) {p : Nat → Bool} (hp : ∀ x, x < c k → L k x = true → p x = true → Sb.deg nb L k x < 2 ∧ 1 ≤ Sb.deg nb L k x) :
    Left nb c (sub L k p) ∧ card c (Sb.sub L k p) + ((List.range (c k)).filter fun v => L k v && p v).length = card c L := by
  have q := h.subL T (k := k) ((List.range (c k)).filter fun v => L k v && p v) (List.nodup_range.filter _) fun x hx => by
    obtain ⟨x1, x2⟩ := List.mem_filter.mp hx
    have x1 := List.mem_range.mp x1
    rw [Bool.and_eq_true] at x2
    exact ⟨x1, x2.1, hp x x1 x2.1 x2.2⟩
  have e := subL_range (c := c) (L := L) (k := k) (p := p)
  have e1 : card c (Sb.subL L k ((List.range (c k)).filter fun v => L k v && p v)) = card c (Sb.sub L k p) := card_congr e
  have e3 : e2 nb c (Sb.subL L k ((List.range (c k)).filter fun v => L k v && p v)) = e2 nb c (Sb.sub L k p) := e2_congr T.inb e
  unfold Left at q ⊢
  rw [e1, e3] at q
  exact q
/-- there is an end -/
theorem Left.ends (h : Left nb c L) : ∃ k v, v < c k ∧ L k v = true ∧ Sb.deg nb L k v < 2 := by
  apply Classical.byContradiction
  intro no
  have a : ∀ k, 2 * lcard c L k ≤ dsum nb c L k := fun k => by
    have e : 2 * lcard c L k = ssum (fun v => (if L k v then 1 else 0) + if L k v then 1 else 0) (c k) := by
      rw [ssum_add]
      show 2 * ssum _ _ = _
      omega
    rw [e]
    refine ssum_le fun i hi => ?_
    cases q : L k i
    · simp
    · have : ¬ Sb.deg nb L k i < 2 := fun z => no ⟨k, i, hi, q, z⟩
      simp
      omega
  have h1 := a true
  have h2 := a false
  have h3 : dsum nb c L true + dsum nb c L false + 2 = 2 * (lcard c L true + lcard c L false) := h
  omega
theorem round_left (T : TreeP nb c) (h : Left nb c L) (h2 : 2 ≤ card c L) : Left nb c (round nb c L) ∧ card c (round nb c L) < card c L := by
  obtain ⟨a1, a2⟩ := h.sub T (k := true) (p := small nb L true) fun x hx hL hp => ⟨of_decide_eq_true hp, h.deg T hx hL h2⟩
  unfold round
  dsimp only
  split
  · rename_i h1
    exact ⟨a1, by omega⟩
  · rename_i h1
    -- bags: their numbers of neighbors now
    have dd : ∀ x, x < c false → L false x = true → small nb L false x = true → Sb.deg nb (Sb.sub L true (small nb L true)) false x < 2 ∧ 1 ≤ Sb.deg nb (Sb.sub L true (small nb L true)) false x := fun x hx hL hp => by
      have hL' : Sb.sub L true (small nb L true) false x = true := by
        have := sub_nk (L := L) (k := true) (p := small nb L true) (w := x)
        exact this.trans hL
      refine ⟨?_, a1.deg T (k := false) hx hL' (by omega)⟩
      have hp : Sb.deg nb L false x < 2 := of_decide_eq_true hp
      refine Nat.lt_of_le_of_lt ?_ hp
      unfold Sb.deg
      have e : ∀ l : List Nat, (l.filter (Sb.sub L true (small nb L true) true)).length ≤ (l.filter (L true)).length := fun l => by
        induction l with
        | nil => exact Nat.le_refl _
        | cons y l ih =>
          have e1 : Sb.sub L true (small nb L true) true y = (L true y && !small nb L true y) := sub_k
          rw [List.filter_cons, List.filter_cons, e1]
          cases L true y <;> cases small nb L true y <;> simp <;> omega
      exact e _
    obtain ⟨b1, b2⟩ := a1.sub T (k := false) (p := small nb L false) fun x hx hL hp => by
      have e : Sb.sub L true (small nb L true) false x = L false x := sub_nk (L := L) (k := true)
      exact dd x hx (e.symm.trans hL) hp
    refine ⟨b1, ?_⟩
    have e0 : ((List.range (c false)).filter fun v => Sb.sub L true (small nb L true) false v && small nb L false v) = (List.range (c false)).filter fun v => L false v && small nb L false v := by
      refine List.filter_congr fun v _ => ?_
      rw [show Sb.sub L true (small nb L true) false v = L false v from sub_nk (L := L) (k := true)]
    rw [e0] at b2
    obtain ⟨k, v, hv, hL, hd⟩ := h.ends
    have pos : 1 ≤ ((List.range (c k)).filter fun v => L k v && small nb L k v).length := by
      refine List.length_pos_of_mem (a := v) (List.mem_filter.mpr ⟨List.mem_range.mpr hv, ?_⟩)
      rw [hL]
      exact decide_eq_true hd
    cases k
    · omega
    · omega
theorem peel_fuel (T : TreeP nb c) : ∀ (d : Nat) (L : Bool → Nat → Bool), Left nb c L → card c L ≤ d → peel nb c d L = peel nb c (card c L) L := by
  intro d
  induction d using Nat.strongRecOn with
  | ind d ih =>
    intro L h hd
    cases d with
    | zero =>
      have := h.pos
      omega
    | succ d =>
      obtain ⟨m, hm⟩ : ∃ m, card c L = m + 1 := ⟨card c L - 1, by have := h.pos; omega⟩
      rw [hm]
      show (if card c L ≤ 1 then L else peel nb c d (round nb c L)) = if card c L ≤ 1 then L else peel nb c m (round nb c L)
      split
      · rfl
      · rename_i h1
        obtain ⟨r1, r2⟩ := round_left T h (by omega)
        rw [ih d (Nat.lt_succ_self d) _ r1 (by omega), ih m (by omega) _ r1 (by omega)]
theorem peel_step (T : TreeP nb c) (h : Left nb c L) (h2 : 2 ≤ card c L) : peel nb c (card c L) L = peel nb c (card c (round nb c L)) (round nb c L) := by
  obtain ⟨m, hm⟩ : ∃ m, card c L = m + 1 := ⟨card c L - 1, by omega⟩
  obtain ⟨r1, r2⟩ := round_left T h h2
  rw [hm]
  show (if card c L ≤ 1 then L else peel nb c m (round nb c L)) = _
  rw [if_neg (by omega)]
  exact peel_fuel T m _ r1 (by omega)
theorem peel_end (h : card c L = 1) : peel nb c (card c L) L = L := by
  rw [h]
  show (if card c L ≤ 1 then L else _) = L
  rw [if_pos (by omega)]
theorem peel_left (T : TreeP nb c) : ∀ (d : Nat) (L : Bool → Nat → Bool), Left nb c L → card c L ≤ d → Left nb c (peel nb c d L) ∧ card c (peel nb c d L) = 1
  | 0, L, h, hd => by have := h.pos; omega
  | d + 1, L, h, hd => by
    show Left nb c (if card c L ≤ 1 then L else peel nb c d (round nb c L)) ∧ card c (if card c L ≤ 1 then L else peel nb c d (round nb c L)) = 1
    split
    · rename_i h1
      have := h.pos
      exact ⟨h, by omega⟩
    · rename_i h1
      obtain ⟨r1, r2⟩ := round_left T h (by omega)
      exact peel_left T d _ r1 (by omega)
end

/-! ### the heart -/
def fin (nb : Nb) (c : Bool → Nat) : Bool → Nat → Bool := peel nb c (tot c) lall
def heartOf (c : Bool → Nat) (L : Bool → Nat → Bool) : Bool × Nat := match (List.range (c true)).filter (L true) with
  | v :: _ => (true, v)
  | [] => (false, ((List.range (c false)).filter (L false)).headD 0)
section
variable {nb nb' : Nb} {c : Bool → Nat} {φ : Bool → Nat → Nat} {L L' : Bool → Nat → Bool}
theorem fin_one (T : TreeP nb c) : card c (fin nb c) = 1 := (peel_left T _ _ (left_lall T) (Nat.le_of_eq card_lall)).2
/-- it is there -/
theorem heart_at (h : card c L = 1) : (heartOf c L).2 < c (heartOf c L).1 ∧ ∀ k v, v < c k → L k v = true → (k, v) = heartOf c L := by
  have h0 : lcard c L true + lcard c L false = 1 := h
  rw [lcard_eq, lcard_eq] at h0
  have one : ∀ {l : List Nat} {x y : Nat}, l.length = 1 → x ∈ l → y ∈ l → x = y := fun {l x y} hl hx hy => by
    obtain ⟨z, rfl⟩ := List.length_eq_one_iff.mp hl
    rw [List.mem_singleton.mp hx, List.mem_singleton.mp hy]
  unfold heartOf
  cases q : (List.range (c true)).filter (L true) with
  | cons v r =>
    rw [q, List.length_cons] at h0
    have hv : v ∈ (List.range (c true)).filter (L true) := by rw [q]; exact List.mem_cons_self
    refine ⟨List.mem_range.mp (List.mem_filter.mp hv).1, fun k w hw hLw => ?_⟩
    cases k
    · have : w ∈ (List.range (c false)).filter (L false) := List.mem_filter.mpr ⟨List.mem_range.mpr hw, hLw⟩
      have := List.length_pos_of_mem this
      omega
    · have hw' : w ∈ (List.range (c true)).filter (L true) := List.mem_filter.mpr ⟨List.mem_range.mpr hw, hLw⟩
      rw [one (by rw [q, List.length_cons]; omega) hw' hv]
  | nil =>
    rw [q, List.length_nil, Nat.zero_add] at h0
    obtain ⟨z, hz⟩ := List.length_eq_one_iff.mp h0
    have hzm : z ∈ (List.range (c false)).filter (L false) := by rw [hz]; exact List.mem_cons_self
    rw [hz]
    refine ⟨List.mem_range.mp (List.mem_filter.mp hzm).1, fun k w hw hLw => ?_⟩
    cases k
    · have hw' : w ∈ (List.range (c false)).filter (L false) := List.mem_filter.mpr ⟨List.mem_range.mpr hw, hLw⟩
      rw [one h0 hw' hzm]
      rfl
    · have hw' : w ∈ (List.range (c true)).filter (L true) := List.mem_filter.mpr ⟨List.mem_range.mpr hw, hLw⟩
      rw [q] at hw'
      cases hw'
theorem heart_live (h : card c L = 1) : L (heartOf c L).1 (heartOf c L).2 = true := by
  have h0 : lcard c L true + lcard c L false = 1 := h
  rw [lcard_eq, lcard_eq] at h0
  unfold heartOf
  cases q : (List.range (c true)).filter (L true) with
  | cons v r =>
    have hv : v ∈ (List.range (c true)).filter (L true) := by rw [q]; exact List.mem_cons_self
    exact (List.mem_filter.mp hv).2
  | nil =>
    rw [q, List.length_nil, Nat.zero_add] at h0
    obtain ⟨z, hz⟩ := List.length_eq_one_iff.mp h0
    have hzm : z ∈ (List.range (c false)).filter (L false) := by rw [hz]; exact List.mem_cons_self
    rw [hz]
    exact (List.mem_filter.mp hzm).2
/-- a renaming takes rounds to rounds -/
def Corr (c : Bool → Nat) (φ : Bool → Nat → Nat) (L L' : Bool → Nat → Bool) : Prop := ∀ k v, v < c k → L' k (φ k v) = L k v
theorem Corr.card (I : Iso nb nb' c φ) (h : Corr c φ L L') : card c L' = card c L := (I.card L').trans (card_congr h)
theorem Corr.deg (I : Iso nb nb' c φ) (inb : ∀ k v w, v < c k → w ∈ nb k v → w < c (!k)) (h : Corr c φ L L') {k : Bool} {v : Nat} (hv : v < c k) : deg nb' L' k (φ k v) = deg nb L k v :=
  (I.deg hv L').trans (deg_congr inb h hv)
theorem Corr.sub (h : Corr c φ L L') {k : Bool} {p p' : Nat → Bool} (hp : ∀ v, v < c k → p' (φ k v) = p v) : Corr c φ (sub L k p) (sub L' k p') := fun j v hv => by
  rcases beq_or k j with rfl | rfl
  · rw [sub_k, sub_k, h j v hv, hp v hv]
  · rw [sub_nk, sub_nk, h _ v hv]
theorem Corr.round (I : Iso nb nb' c φ) (inb : ∀ k v w, v < c k → w ∈ nb k v → w < c (!k)) (h : Corr c φ L L') : Corr c φ (round nb c L) (round nb' c L') := by
  have sm : ∀ k v, v < c k → small nb' L' k (φ k v) = small nb L k v := fun k v hv => by
    unfold small
    rw [h.deg I inb hv]
  have a := h.sub (k := true) (sm true)
  have ac := a.card I
  unfold Sb.round
  dsimp only
  rw [ac]
  split
  · exact a
  · exact a.sub (sm false)
theorem Corr.peel (I : Iso nb nb' c φ) (inb : ∀ k v w, v < c k → w ∈ nb k v → w < c (!k)) : ∀ (d : Nat) (L L' : Bool → Nat → Bool), Corr c φ L L' → Corr c φ (peel nb c d L) (peel nb' c d L')
  | 0, _, _, h => h
  | d + 1, L, L', h => by
    have hc := h.card I
    unfold Sb.peel
    rw [hc]
    split
    · exact h
    · exact Corr.peel I inb d _ _ (h.round I inb)
theorem heart_iso (I : Iso nb nb' c φ) (T : TreeP nb c) : heartOf c (fin nb' c) = ((heartOf c (fin nb c)).1, φ (heartOf c (fin nb c)).1 (heartOf c (fin nb c)).2) := by
  have C : Corr c φ (fin nb c) (fin nb' c) := Corr.peel I T.inb _ _ _ fun k v hv => rfl
  have h1 := fin_one T
  have h2 := fin_one (I.tree T)
  obtain ⟨a1, _⟩ := heart_at h1
  have a2 := heart_live h1
  refine ((heart_at h2).2 _ _ (I.lt _ _ a1) ?_).symm
  rw [C _ _ a1]
  exact a2
def shapeT (nb : Nb) (c : Bool → Nat) : List Nat × Nat := tx nb (2 * tot c) (heartOf c (fin nb c)).1 (heartOf c (fin nb c)).2 none
theorem shape_iso (I : Iso nb nb' c φ) (T : TreeP nb c) : shapeT nb' c = shapeT nb c := by
  unfold shapeT
  rw [heart_iso I T]
  exact I.tx T.inb _ _ _ none (heart_at (fin_one T)).1 fun w e => by cases e
end
/-- the shape of a family: its text and how many renamings keep it -/
def shapeOf (n : Nat) (F : Fam) : List Nat × Nat := shapeT (nbOf F) (cOf n F.length)
/-- what hangs at a bead -/
def beadText (n : Nat) (F : Fam) (b : Nat) : List Nat := (tx (nbOf F) (2 * tot (cOf n F.length)) true b none).1
theorem shape_named {n : Nat} {F : Fam} {σ : List Nat} (P : Pre n F) (p : IsPerm n σ) : shapeOf n (named F σ) = shapeOf n F := by
  unfold shapeOf
  rw [named_length]
  exact shape_iso (P.iso p) P.tree
theorem beadText_named {n : Nat} {F : Fam} {σ : List Nat} (P : Pre n F) (p : IsPerm n σ) {b : Nat} (hb : b < n) : beadText n (named F σ) (σ.getD b 0) = beadText n F b := by
  unfold beadText
  rw [named_length]
  have q := (P.iso p).tx P.tree.inb (2 * tot (cOf n F.length)) true b none hb fun w e => by cases e
  exact congrArg Prod.fst q
end Sb

/-! MF: counts of a family. -/
namespace Sb
theorem sum_ge {c : Nat} : ∀ {F : Fam}, (∀ bag ∈ F, c ≤ bag.length) → c * F.length ≤ (F.map List.length).sum
  | [], _ => by simp
  | b :: F, h => by
    have h1 := h b (List.mem_cons_self ..)
    have h2 := sum_ge (c := c) (F := F) fun bag hb => h bag (List.mem_cons_of_mem _ hb)
    rw [List.map_cons, List.sum_cons, List.length_cons, Nat.mul_succ]
    omega
theorem Pre.len {n : Nat} {F : Fam} (P : Pre n F) : F.length + 1 ≤ n := by
  have h1 := sum_ge (c := 2) (F := F) fun bag hb => (P.bags bag hb).2.1
  have h2 := P.sum
  omega
theorem Pre.pos {n : Nat} {F : Fam} (P : Pre n F) : 1 ≤ F.length := by
  obtain ⟨bag, hb, _⟩ := P.cover 0 (by have := P.two; omega)
  exact List.length_pos_of_mem hb
theorem nodup_len {l : List Nat} {n : Nat} (h : l.Nodup) (hl : ∀ x ∈ l, x < n) : l.length ≤ n := by
  rw [length_eq_ssum h hl]
  refine Nat.le_trans (ssum_le (g := fun _ => 1) fun i _ => ?_) (Nat.le_of_eq (ssum_one n))
  split <;> omega
theorem Pre.blen {n : Nat} {F : Fam} (P : Pre n F) {bag : List Nat} (h : bag ∈ F) : bag.length ≤ n :=
  nodup_len (nodup_of_lt (P.bags bag h).1) (P.bags bag h).2.2
theorem lastD {l : List Nat} (h : l ≠ []) : l.getLastD 0 ∈ l := by
  cases l with
  | nil => exact absurd rfl h
  | cons a l => rw [List.getLastD_eq_getLast?, List.getLast?_eq_some_getLast (by simp)]; exact List.getLast_mem (by simp)
theorem last_ge : ∀ {l : List Nat}, l.Pairwise (· < ·) → ∀ x ∈ l, x ≤ l.getLastD 0
  | [], _, x, hx => by cases hx
  | [a], _, x, hx => by
    rw [List.mem_singleton.mp hx]
    exact Nat.le_refl _
  | a :: b :: l, h, x, hx => by
    have h' := List.pairwise_cons.mp h
    have ih := last_ge h'.2
    show x ≤ (b :: l).getLastD a
    have e : (b :: l).getLastD a = (b :: l).getLastD 0 := rfl
    rw [e]
    rcases List.mem_cons.mp hx with rfl | hx
    · exact Nat.le_trans (Nat.le_of_lt (h'.1 b (List.mem_cons_self ..))) (ih b (List.mem_cons_self ..))
    · exact ih x hx
/-- the greatest bead -/
theorem Pre.top {n : Nat} {F : Fam} (P : Pre n F) {m : Nat} (h1 : m ∈ F.map fun bag => bag.getLastD 0) (h2 : ∀ y ∈ F.map fun bag => bag.getLastD 0, y ≤ m) : m + 1 = n := by
  obtain ⟨bag, hb, rfl⟩ := List.mem_map.mp h1
  have hB := P.bags bag hb
  have hm := hB.2.2 _ (lastD (l := bag) (fun e => by rw [e] at hB; simp at hB))
  have h0 := P.two
  obtain ⟨bag', hb', hx⟩ := P.cover (n - 1) (by omega)
  have q1 := last_ge (P.bags bag' hb').1 _ hx
  have q2 := h2 _ (List.mem_map.mpr ⟨bag', hb', rfl⟩)
  omega
end Sb

/-! MG: two bags share at most one bead; all bags hang together. -/
namespace Sb
theorem two_le {l : List Nat} {i j : Nat} (hi : i ∈ l) (hj : j ∈ l) (h : i ≠ j) : 2 ≤ l.length := by
  match l, hi, hj with
  | [a], hi, hj => rw [List.mem_singleton] at hi hj; exact absurd (hi.trans hj.symm) h
  | _ :: _ :: _, _, _ => simp
theorem le_two {l : List Nat} {x y : Nat} (hn : l.Nodup) (h : ∀ z ∈ l, z = x ∨ z = y) : l.length ≤ 2 := by
  rcases Nat.lt_or_ge 2 l.length with q | q
  · have p := perm_of_nodup_len l [x, y] hn (fun z hz => by simpa using h z hz) (by simp; omega)
    have := p.length_eq
    simp at this
    omega
  · exact q
theorem ssum_two {f : Nat → Nat} {a b : Nat} (h : a ≠ b) : ∀ {n : Nat}, a < n → b < n → f a + f b ≤ ssum f n
  | 0, ha, _ => by cases ha
  | n + 1, ha, hb => by
    rw [ssum_succ]
    by_cases e1 : a = n
    · subst e1
      have := ssum_mem (f := f) (n := a) (i := b) (by omega)
      omega
    · by_cases e2 : b = n
      · subst e2
        have := ssum_mem (f := f) (n := b) (i := a) (by omega)
        omega
      · have := ssum_two (f := f) h (n := n) (by omega) (by omega)
        omega
section
variable {n : Nat} {F : Fam}
/-- two bags share no two beads -/
theorem Pre.share (P : Pre n F) {i j : Nat} (hi : i < F.length) (hj : j < F.length) (hij : i ≠ j) : ((bagAt F i).filter fun b => decide (b ∈ bagAt F j)).length ≤ 1 := by
  refine Nat.le_of_not_lt fun q => ?_
  have hnd : ((bagAt F i).filter fun b => decide (b ∈ bagAt F j)).Nodup := (nodup_of_lt (P.bag hi).1).filter _
  obtain ⟨x, y, l, e⟩ : ∃ x y l, (bagAt F i).filter (fun b => decide (b ∈ bagAt F j)) = x :: y :: l := by
    match h : (bagAt F i).filter fun b => decide (b ∈ bagAt F j) with
    | [] => rw [h] at q; simp at q
    | [a] => rw [h] at q; simp at q
    | a :: b :: l => exact ⟨a, b, l, rfl⟩
  rw [e] at hnd
  have hxy : x ≠ y := fun z => by simp [z] at hnd
  have hx : x ∈ bagAt F i ∧ x ∈ bagAt F j := by
    have : x ∈ (bagAt F i).filter fun b => decide (b ∈ bagAt F j) := by rw [e]; simp
    simpa using List.mem_filter.mp this
  have hy : y ∈ bagAt F i ∧ y ∈ bagAt F j := by
    have : y ∈ (bagAt F i).filter fun b => decide (b ∈ bagAt F j) := by rw [e]; simp
    simpa using List.mem_filter.mp this
  have xn := (P.bag hi).2.2 x hx.1
  have yn := (P.bag hi).2.2 y hy.1
  let L : Bool → Nat → Bool := fun k v => if k then decide (v = x ∨ v = y) else decide (v = i ∨ v = j)
  have T := P.tree
  have c1 : lcard (cOf n F.length) L true ≤ 2 := by
    rw [lcard_eq]
    refine le_two (x := x) (y := y) (List.nodup_range.filter _) fun z hz => ?_
    simpa [L] using (List.mem_filter.mp hz).2
  have c2 : lcard (cOf n F.length) L false ≤ 2 := by
    rw [lcard_eq]
    refine le_two (x := i) (y := j) (List.nodup_range.filter _) fun z hz => ?_
    simpa [L] using (List.mem_filter.mp hz).2
  have ix : ∀ {b k : Nat}, k < F.length → b ∈ bagAt F k → k ∈ idxs F b := fun hk hb => mem_idxs.mpr ⟨hk, hb⟩
  have dx : ∀ b, b ∈ bagAt F i → b ∈ bagAt F j → 2 ≤ deg (nbOf F) L true b := fun b h1 h2 => by
    refine two_le (i := i) (j := j) ?_ ?_ hij
    · exact List.mem_filter.mpr ⟨ix hi h1, by simp [L]⟩
    · exact List.mem_filter.mpr ⟨ix hj h2, by simp [L]⟩
  have dy : ∀ k, x ∈ bagAt F k → y ∈ bagAt F k → 2 ≤ deg (nbOf F) L false k := fun k h1 h2 => by
    refine two_le (i := x) (j := y) ?_ ?_ hxy
    · exact List.mem_filter.mpr ⟨h1, by simp [L]⟩
    · exact List.mem_filter.mpr ⟨h2, by simp [L]⟩
  have s1 : 4 ≤ dsum (nbOf F) (cOf n F.length) L true := by
    have q := ssum_two (f := fun v => if L true v then deg (nbOf F) L true v else 0) hxy (n := n) xn yn
    have a1 := dx x hx.1 hx.2
    have a2 := dx y hy.1 hy.2
    have e1 : L true x = true := by simp [L]
    have e2 : L true y = true := by simp [L]
    simp only [e1, e2, if_true] at q
    exact Nat.le_trans (by omega) q
  have s2 : 4 ≤ dsum (nbOf F) (cOf n F.length) L false := by
    have q := ssum_two (f := fun v => if L false v then deg (nbOf F) L false v else 0) hij (n := F.length) hi hj
    have a1 := dy i hx.1 hy.1
    have a2 := dy j hx.2 hy.2
    have e1 : L false i = true := by simp [L]
    have e2 : L false j = true := by simp [L]
    simp only [e1, e2, if_true] at q
    exact Nat.le_trans (by omega) q
  have pos : 1 ≤ card (cOf n F.length) L := by
    rcases Nat.eq_zero_or_pos (card (cOf n F.length) L) with z | z
    · have := card_zero_e2 (nb := nbOf F) z
      have : e2 (nbOf F) (cOf n F.length) L = dsum (nbOf F) (cOf n F.length) L true + dsum (nbOf F) (cOf n F.length) L false := rfl
      omega
    · exact z
  have fo := T.forest L pos
  have e1 : e2 (nbOf F) (cOf n F.length) L = dsum (nbOf F) (cOf n F.length) L true + dsum (nbOf F) (cOf n F.length) L false := rfl
  have e2' : card (cOf n F.length) L = lcard (cOf n F.length) L true + lcard (cOf n F.length) L false := rfl
  omega
/-- a closed set of bags that has one has all -/
theorem Pre.closed (P : Pre n F) {p : Nat → Bool} {i0 : Nat} (h0 : i0 < F.length) (hp0 : p i0 = true) (hcl : ∀ i j b, i < F.length → j < F.length → p i = true → b ∈ bagAt F i → b ∈ bagAt F j → p j = true) :
    ∀ i, i < F.length → p i = true := by
  intro i1 h1
  cases hp1 : p i1 with
  | true => rfl
  | false =>
    exfalso
    have T := P.tree
    let L : Bool → Nat → Bool := fun k v => if k then (idxs F v).any p else p v
    let M : Bool → Nat → Bool := fun k v => !L k v
    have hL : ∀ k v w, v < cOf n F.length k → w ∈ nbOf F k v → L (!k) w = L k v := by
      have key : ∀ b i, i < F.length → b ∈ bagAt F i → (idxs F b).any p = p i := fun b i hi hb => by
        cases e : p i with
        | true => exact List.any_eq_true.mpr ⟨i, mem_idxs.mpr ⟨hi, hb⟩, e⟩
        | false =>
          cases q : (idxs F b).any p with
          | false => rfl
          | true =>
            obtain ⟨j, hj, hpj⟩ := List.any_eq_true.mp q
            obtain ⟨hj1, hj2⟩ := mem_idxs.mp hj
            rw [hcl j i b hj1 hi hpj hj2 hb] at e
            exact e
      intro k v w hv hw
      cases k with
      | true =>
        obtain ⟨a1, a2⟩ := mem_idxs.mp hw
        exact (key v w a1 a2).symm
      | false => exact key w v hv hw
    have dg : ∀ (X : Bool → Nat → Bool), (∀ k v w, v < cOf n F.length k → w ∈ nbOf F k v → X (!k) w = X k v) → ∀ k v, v < cOf n F.length k → X k v = true → deg (nbOf F) X k v = deg (nbOf F) lall k v := fun X hX k v hv hx => by
      unfold deg
      congr 1
      refine List.filter_congr fun w hw => ?_
      rw [hX k v w hv hw, hx]
      rfl
    have hM : ∀ k v w, v < cOf n F.length k → w ∈ nbOf F k v → M (!k) w = M k v := fun k v w hv hw => congrArg (! ·) (hL k v w hv hw)
    have ds : ∀ k, dsum (nbOf F) (cOf n F.length) L k + dsum (nbOf F) (cOf n F.length) M k = dsum (nbOf F) (cOf n F.length) lall k := fun k => by
      unfold dsum
      rw [← ssum_add]
      refine ssum_congr fun v hv => ?_
      cases e : L k v with
      | true =>
        have e' : M k v = false := by show (!L k v) = false; rw [e]; rfl
        rw [e', dg L hL k v hv e]
        simp [lall]
      | false =>
        have e' : M k v = true := by show (!L k v) = true; rw [e]; rfl
        rw [e', dg M hM k v hv e']
        simp [lall]
    have cs : ∀ k, lcard (cOf n F.length) L k + lcard (cOf n F.length) M k = lcard (cOf n F.length) lall k := fun k => by
      unfold lcard
      rw [← ssum_add]
      refine ssum_congr fun v hv => ?_
      cases e : L k v with
      | true =>
        have e' : M k v = false := by show (!L k v) = false; rw [e]; rfl
        rw [e']
        simp [lall]
      | false =>
        have e' : M k v = true := by show (!L k v) = true; rw [e]; rfl
        rw [e']
        simp [lall]
    have ps : ∀ (X : Bool → Nat → Bool) (i : Nat), i < F.length → X false i = true → 1 ≤ card (cOf n F.length) X := fun X i hi hx => by
      have q := ssum_mem (f := fun v => if X false v then 1 else 0) (n := F.length) hi
      simp only [hx, if_true] at q
      have : lcard (cOf n F.length) X false = ssum (fun v => if X false v then 1 else 0) F.length := rfl
      show 1 ≤ lcard (cOf n F.length) X true + lcard (cOf n F.length) X false
      omega
    have f1 := T.forest L (ps L i0 h0 hp0)
    have f2 := T.forest M (ps M i1 h1 (by show (!p i1) = true; rw [hp1]; rfl))
    have fu := T.full
    have d1 := ds true
    have d2 := ds false
    have c1 := cs true
    have c2 := cs false
    have ca := card_lall (c := cOf n F.length)
    have u1 : ∀ X, e2 (nbOf F) (cOf n F.length) X = dsum (nbOf F) (cOf n F.length) X true + dsum (nbOf F) (cOf n F.length) X false := fun _ => rfl
    have u2 : ∀ X, card (cOf n F.length) X = lcard (cOf n F.length) X true + lcard (cOf n F.length) X false := fun _ => rfl
    have a1 := u1 L
    have a2 := u1 M
    have a3 := u1 lall
    have b1 := u2 L
    have b2 := u2 M
    have b3 := u2 lall
    omega
end
end Sb

/-! MH: the loops of a round. -/
namespace Sb
section
variable {nb : Nb} {c : Bool → Nat} {L : Bool → Nat → Bool} {k : Bool}
theorem deg_lall {v : Nat} : deg nb lall k v = (nb k v).length := by
  unfold deg
  congr 1
  exact List.filter_eq_self.mpr fun _ _ => rfl
theorem prefix_two (T : TreeP nb c) (h : Left nb c L) {l : List Nat} (nd : l.Nodup) (hx : ∀ x ∈ l, x < c k ∧ L k x = true ∧ deg nb L k x < 2 ∧ 1 ≤ deg nb L k x) {j x : Nat} (hj : l[j]? = some x) :
    2 ≤ card c (subL L k (l.take j)) ∧ subL L k (l.take j) k x = true := by
  have hm : x ∉ l.take j := fun m => by
    have q : (l.take (j + 1)).Nodup := nd.sublist (List.take_sublist _ _)
    rw [List.take_add_one, hj] at q
    exact (List.nodup_append.mp q).2.2 x m x (List.mem_singleton_self x) rfl
  have hxl := List.mem_of_getElem? hj
  have e1 : subL L k (l.take j) k x = true := by
    show sub L k _ k x = true
    rw [sub_k, (hx x hxl).2.1, decide_eq_false hm]
    rfl
  refine ⟨?_, e1⟩
  obtain ⟨_, b1⟩ := h.subL T (l.take j) (nd.sublist (List.take_sublist _ _)) fun y hy => hx y (List.mem_of_mem_take hy)
  obtain ⟨a2, b2⟩ := h.subL T (l.take (j + 1)) (nd.sublist (List.take_sublist _ _)) fun y hy => hx y (List.mem_of_mem_take hy)
  have p := Left.pos a2
  have hl : (l.take (j + 1)).length = (l.take j).length + 1 := by
    rw [List.take_add_one, hj, List.length_append]
    rfl
  omega
theorem last_ok (T : TreeP nb c) (h : Left nb c L) (h2 : 2 ≤ card c L) (h1 : ¬ card c (sub L true (small nb L true)) ≤ 1) {x : Nat} (hx : x < c false) (hL : L false x = true) (hp : small nb L false x = true) :
    sub L true (small nb L true) false x = true ∧ deg nb (sub L true (small nb L true)) false x < 2 ∧ 1 ≤ deg nb (sub L true (small nb L true)) false x := by
  obtain ⟨a1, a2⟩ := h.sub T (k := true) (p := small nb L true) fun x hx hL hp => ⟨of_decide_eq_true hp, h.deg T hx hL h2⟩
  have hL' : sub L true (small nb L true) false x = true := by
    have := sub_nk (L := L) (k := true) (p := small nb L true) (w := x)
    exact this.trans hL
  refine ⟨hL', ?_, a1.deg T (k := false) hx hL' (by omega)⟩
  have hp : deg nb L false x < 2 := of_decide_eq_true hp
  refine Nat.lt_of_le_of_lt ?_ hp
  unfold deg
  have e : ∀ l : List Nat, (l.filter (sub L true (small nb L true) true)).length ≤ (l.filter (L true)).length := fun l => by
    induction l with
    | nil => exact Nat.le_refl _
    | cons y l ih =>
      have e1 : sub L true (small nb L true) true y = (L true y && !small nb L true y) := sub_k
      rw [List.filter_cons, List.filter_cons, e1]
      cases L true y <;> cases small nb L true y <;> simp <;> omega
  exact e _
end
end Sb

/-! MI: sizes of texts; ways are not none. -/
namespace Sb
theorem vl_code {nb : Nb} {c : Bool → Nat} (T : TreeP nb c) {k : Bool} {v : Nat} {u : Option Nat} (hv : v < c k) : (vl nb (2 * tot c) k v u).length ≤ tot c := by
  have h1 := T.ct k v u
  have h2 := vl_in T.inb (2 * tot c) k v u hv
  have nd : (vl nb (2 * tot c) k v u).Nodup := by
    refine List.nodup_iff_count.mpr fun z => ?_
    exact h1 z hv
  let f : Bool × Nat → Nat := fun z => if z.1 then z.2 else c true + z.2
  have nf : ((vl nb (2 * tot c) k v u).map f).Nodup := by
    refine nodup_map_on nd fun x hx y hy e => ?_
    have a1 := h2 x hx
    have a2 := h2 y hy
    obtain ⟨x1, x2⟩ := x
    obtain ⟨y1, y2⟩ := y
    simp only [f] at e
    cases x1 <;> cases y1 <;> simp at e a1 a2
    · rw [e]
    · omega
    · omega
    · rw [e]
  have q := nodup_len (n := tot c) nf fun x hx => by
    obtain ⟨z, hz, rfl⟩ := List.mem_map.mp hx
    have a := h2 z hz
    obtain ⟨z1, z2⟩ := z
    cases z1 <;> simp [f, tot] at a ⊢ <;> omega
  rw [List.length_map] at q
  exact q
theorem prodN_pos {l : List Nat} (h : ∀ x ∈ l, 0 < x) : 0 < prodN l := by
  induction l with
  | nil => exact Nat.one_pos
  | cons a l ih =>
    rw [prodN_cons]
    exact Nat.mul_pos (h a (List.mem_cons_self ..)) (ih fun x hx => h x (List.mem_cons_of_mem _ hx))
theorem tx_pos {nb : Nb} : ∀ (d : Nat) (k : Bool) (v : Nat) (u : Option Nat), 0 < (tx nb d k v u).2
  | 0, _, _, _ => Nat.one_pos
  | d + 1, k, v, u => by
    show 0 < prodN _ * swaps _
    refine Nat.mul_pos (prodN_pos fun x hx => ?_) (prodN_pos fun x hx => ?_)
    · obtain ⟨y, hy, rfl⟩ := List.mem_map.mp hx
      obtain ⟨w, _, rfl⟩ := List.mem_map.mp hy
      exact tx_pos d (!k) w (some v)
    · obtain ⟨y, hy, rfl⟩ := List.mem_map.mp hx
      exact fact_pos _
/-- what the calls of the texts want, at depth 120 -/
theorem Pre.text {n : Nat} {F : Fam} (P : Pre n F) (hn : n ≤ 30) {k : Bool} {v : Nat} {u : Option Nat} (hv : v < cOf n F.length k) :
    hgt (nbOf F) 120 k v u ∧ (vl (nbOf F) 120 k v u).length ≤ 60 ∧ tx (nbOf F) 120 k v u = tx (nbOf F) (2 * tot (cOf n F.length)) k v u := by
  have h1 := P.tree.hg k v u hv
  have h2 := P.len
  have ht : tot (cOf n F.length) = n + F.length := rfl
  obtain ⟨a, b, c⟩ := hgt_mono (d' := 120) h1 (by omega)
  have h3 := vl_code P.tree (u := u) hv
  exact ⟨a, by rw [b]; omega, c⟩
theorem Pre.heart {n : Nat} {F : Fam} (P : Pre n F) : (heartOf (cOf n F.length) (fin (nbOf F) (cOf n F.length))).2 < cOf n F.length (heartOf (cOf n F.length) (fin (nbOf F) (cOf n F.length))).1 :=
  (heart_at (fin_one P.tree)).1
theorem shape_ways {n : Nat} {F : Fam} (P : Pre n F) (hn : n ≤ 30) : 0 < (shapeOf n F).2 ∧ (shapeOf n F).2 ≤ 64 ^ 63 := by
  refine ⟨tx_pos _ _ _ _, ?_⟩
  obtain ⟨a, b, c⟩ := P.text hn (u := none) P.heart
  have e : shapeOf n F = tx (nbOf F) 120 (heartOf (cOf n F.length) (fin (nbOf F) (cOf n F.length))).1 (heartOf (cOf n F.length) (fin (nbOf F) (cOf n F.length))).2 none := c.symm
  rw [e]
  exact Nat.le_trans (tx_ways (N := 64) (by decide) _ _ _ _ a (by omega)) (Nat.pow_le_pow_right (by decide) (by omega))
/-- the beads of one text together -/
def kindsOf (n : Nat) (F : Fam) : Fam := sortL ((uniq ((List.range n).map (beadText n F))).map fun t => (List.range n).filter fun b => decide (beadText n F b = t))
end Sb

/-! MJ: orders, pours, parts as they are computed. -/
namespace Sb
def addAt (one : Nat) (told : List Nat) : List (List Nat) := (List.range (told.length + 1)).map fun at_ => told.take at_ ++ [one] ++ told.drop at_
def ordersOf (l : List Nat) : List (List Nat) := l.foldl (fun found one => found.flatMap (addAt one)) [[]]
def shares (F : Fam) (i j : Nat) : Bool := (bagAt F i).any fun b => decide (b ∈ bagAt F j)
def poursOf (F : Fam) : List (Nat × Nat) := (List.range F.length).flatMap fun i => ((List.range (F.length - (i + 1))).map fun k => (i, i + 1 + k)).filter fun p => shares F p.1 p.2
def pourF (F : Fam) (i j : Nat) : Fam := sortL (((List.range F.length).filter fun k => !(decide (k = i) || decide (k = j))).map (bagAt F) ++ [sortN (uniq (bagAt F i ++ bagAt F j))])
def partF (F : Fam) (at_ : Nat) (m : List Nat) (cut : Nat) : Fam := sortL ((F.take at_ ++ F.drop (at_ + 1)) ++ [sortN (m.take cut), sortN ([m.headD 0] ++ m.drop cut)])
theorem mem_addAt {one : Nat} {told z : List Nat} : z ∈ addAt one told ↔ ∃ k, k ≤ told.length ∧ z = told.take k ++ [one] ++ told.drop k := by
  unfold addAt
  rw [List.mem_map]
  constructor
  · rintro ⟨k, hk, rfl⟩
    exact ⟨k, by have := List.mem_range.mp hk; omega, rfl⟩
  · rintro ⟨k, hk, rfl⟩
    exact ⟨k, List.mem_range.mpr (by omega), rfl⟩
theorem ordersOf_snoc (l : List Nat) (x : Nat) : ordersOf (l ++ [x]) = (ordersOf l).flatMap (addAt x) := by
  unfold ordersOf
  rw [List.foldl_append]
  rfl
theorem addAt_perm {one : Nat} {told z : List Nat} (h : z ∈ addAt one told) : z.Perm (told ++ [one]) := by
  obtain ⟨k, _, rfl⟩ := mem_addAt.mp h
  have h1 : (told.take k ++ [one] ++ told.drop k).Perm (told.take k ++ told.drop k ++ [one]) := by
    rw [List.append_assoc, List.append_assoc]
    exact (List.perm_append_comm).append_left _
  rw [List.take_append_drop] at h1
  exact h1
theorem orders_perm : ∀ (r : List Nat) (z : List Nat), z ∈ ordersOf r.reverse → z.Perm r.reverse
  | [], z, h => by
    have : z ∈ [[]] := h
    rw [List.mem_singleton.mp this]
    exact List.Perm.refl _
  | x :: r, z, h => by
    rw [List.reverse_cons] at h ⊢
    rw [ordersOf_snoc] at h
    obtain ⟨t, ht, hz⟩ := List.mem_flatMap.mp h
    exact (addAt_perm hz).trans ((orders_perm r t ht).append_right _)
theorem perm_orders : ∀ (r : List Nat) (z : List Nat), z.Perm r.reverse → z ∈ ordersOf r.reverse
  | [], z, h => by
    have e : z = [] := List.Perm.eq_nil h
    rw [e]
    exact List.mem_singleton.mpr rfl
  | x :: r, z, h => by
    rw [List.reverse_cons] at h ⊢
    rw [ordersOf_snoc]
    have hx : x ∈ z := h.mem_iff.mpr (by simp)
    obtain ⟨a, b, rfl⟩ := List.append_of_mem hx
    have h2 : (a ++ b).Perm r.reverse := by
      have h3 : (x :: (a ++ b)).Perm (x :: r.reverse) := (List.perm_middle.symm.trans h).trans (List.perm_append_comm (l₁ := r.reverse) (l₂ := [x]))
      exact List.Perm.cons_inv h3
    refine List.mem_flatMap.mpr ⟨a ++ b, perm_orders r _ h2, mem_addAt.mpr ⟨a.length, by simp, ?_⟩⟩
    simp
theorem mem_orders {l z : List Nat} : z ∈ ordersOf l ↔ z.Perm l := by
  have h1 := orders_perm l.reverse z
  have h2 := perm_orders l.reverse z
  rw [List.reverse_reverse] at h1 h2
  exact ⟨h1, h2⟩
theorem orders_len (r : List Nat) : (ordersOf r.reverse).length = fact r.length := by
  induction r with
  | nil => rfl
  | cons x r ih =>
    rw [List.reverse_cons, ordersOf_snoc, List.length_flatMap]
    have e : ∀ t ∈ ordersOf r.reverse, (addAt x t).length = r.length + 1 := fun t ht => by
      unfold addAt
      rw [List.length_map, List.length_range, (orders_perm r t ht).length_eq, List.length_reverse]
    have e2 : ((ordersOf r.reverse).map fun t => (addAt x t).length) = (ordersOf r.reverse).map fun _ => r.length + 1 := List.map_congr_left e
    rw [e2, List.map_const', List.sum_replicate_nat, ih]
    rfl
theorem mem_poursOf {F : Fam} {p : Nat × Nat} : p ∈ poursOf F ↔ p.1 < p.2 ∧ p.2 < F.length ∧ shares F p.1 p.2 = true := by
  unfold poursOf
  rw [List.mem_flatMap]
  constructor
  · rintro ⟨i, hi, h⟩
    obtain ⟨h1, h2⟩ := List.mem_filter.mp h
    obtain ⟨k, hk, rfl⟩ := List.mem_map.mp h1
    have := List.mem_range.mp hk
    have := List.mem_range.mp hi
    exact ⟨by simp only; omega, by simp only; omega, h2⟩
  · rintro ⟨h1, h2, h3⟩
    refine ⟨p.1, List.mem_range.mpr (by omega), List.mem_filter.mpr ⟨List.mem_map.mpr ⟨p.2 - (p.1 + 1), List.mem_range.mpr (by omega), ?_⟩, h3⟩⟩
    have : p.1 + 1 + (p.2 - (p.1 + 1)) = p.2 := by omega
    rw [this]
end Sb

/-! MK: renamings one after another. -/
namespace Sb
def mulP (τ σ : List Nat) : List Nat := τ.map fun x => σ.getD x 0
def invP (n : Nat) (τ : List Nat) : List Nat := (List.range n).map fun b => τ.idxOf b
section
variable {n : Nat} {F : Fam} {σ τ ρ : List Nat}
theorem IsPerm.mul (p : IsPerm n τ) (q : IsPerm n σ) : IsPerm n (mulP τ σ) := by
  unfold IsPerm mulP
  refine List.Perm.trans (p.map _) ?_
  exact perm_range_of_inj (fun i hi => q.lt hi) fun i j hi hj e => q.inj hi hj e
theorem mulP_get (p : IsPerm n τ) {b : Nat} (h : b < n) : (mulP τ σ).getD b 0 = σ.getD (τ.getD b 0) 0 := by
  unfold mulP
  rw [List.getD_eq_getElem?_getD, List.getElem?_map, p.get h]
  rfl
theorem perm_ext (p : IsPerm n σ) (q : IsPerm n τ) (h : ∀ b, b < n → σ.getD b 0 = τ.getD b 0) : σ = τ := by
  refine List.ext_getElem? fun i => ?_
  by_cases hi : i < n
  · rw [p.get hi, q.get hi, h i hi]
  · rw [List.getElem?_eq_none (by rw [p.len]; omega), List.getElem?_eq_none (by rw [q.len]; omega)]
theorem isPerm_id : IsPerm n (List.range n) := List.Perm.refl _
theorem range_getD {b : Nat} (h : b < n) : (List.range n).getD b 0 = b := by
  rw [List.getD_eq_getElem?_getD, List.getElem?_range h]
  rfl
theorem idx_getD (p : IsPerm n τ) {b : Nat} (h : b < n) : τ.getD (τ.idxOf b) 0 = b ∧ τ.idxOf b < n := by
  have hm : b ∈ τ := (List.Perm.mem_iff p).mpr (List.mem_range.mpr h)
  have hl := List.idxOf_lt_length_of_mem hm
  rw [p.len] at hl
  refine ⟨?_, hl⟩
  have key : ∀ (l : List Nat), b ∈ l → l.getD (l.idxOf b) 0 = b := by
    intro l
    induction l with
    | nil => intro h; cases h
    | cons a l ih =>
      intro h
      by_cases e : a = b
      · subst e
        simp [List.idxOf_cons]
      · have e2 : (a == b) = false := by simp [e]
        have ih := ih ((List.mem_cons.mp h).resolve_left fun z => e z.symm)
        simp only [List.idxOf_cons, e2, cond_false, List.getD_cons_succ]
        exact ih
  exact key τ hm
theorem inv_get (p : IsPerm n τ) {b : Nat} (h : b < n) : (invP n τ).getD b 0 = τ.idxOf b := by
  unfold invP
  rw [List.getD_eq_getElem?_getD, List.getElem?_map, List.getElem?_range h]
  rfl
theorem IsPerm.inv (p : IsPerm n τ) : IsPerm n (invP n τ) := by
  unfold invP
  refine perm_range_of_inj (fun i hi => (idx_getD p hi).2) fun i j hi hj e => ?_
  have h1 := (idx_getD p hi).1
  have h2 := (idx_getD p hj).1
  rw [e] at h1
  exact h1.symm.trans h2
theorem mul_inv (p : IsPerm n τ) : mulP τ (invP n τ) = List.range n := by
  refine perm_ext (p.mul p.inv) isPerm_id fun b hb => ?_
  rw [mulP_get p hb, inv_get p (p.lt hb), range_getD hb]
  exact p.inj (idx_getD p (p.lt hb)).2 hb (idx_getD p (p.lt hb)).1
theorem inv_mul (p : IsPerm n τ) : mulP (invP n τ) τ = List.range n := by
  refine perm_ext (p.inv.mul p) isPerm_id fun b hb => ?_
  rw [mulP_get p.inv hb, inv_get p hb, range_getD hb]
  exact (idx_getD p hb).1
theorem mul_assoc (p : IsPerm n τ) (q : IsPerm n σ) (r : IsPerm n ρ) : mulP (mulP τ σ) ρ = mulP τ (mulP σ ρ) := by
  refine perm_ext ((p.mul q).mul r) (p.mul (q.mul r)) fun b hb => ?_
  rw [mulP_get (p.mul q) hb, mulP_get p hb, mulP_get p hb, mulP_get q (p.lt hb)]
theorem mul_one (p : IsPerm n τ) : mulP τ (List.range n) = τ := by
  refine perm_ext (p.mul isPerm_id) p fun b hb => ?_
  rw [mulP_get p hb, range_getD (p.lt hb)]
theorem one_mul (p : IsPerm n τ) : mulP (List.range n) τ = τ := by
  refine perm_ext (isPerm_id.mul p) p fun b hb => ?_
  rw [mulP_get isPerm_id hb, range_getD hb]
theorem nm_nm (p : IsPerm n τ) {bag : List Nat} (hb : ∀ b ∈ bag, b < n) : nm σ (nm τ bag) = nm (mulP τ σ) bag := by
  unfold nm
  refine sortN_congr ?_
  refine List.Perm.trans ((sortN_perm _).map _) ?_
  rw [List.map_map]
  have e : (bag.map ((fun b => σ.getD b 0) ∘ fun b => τ.getD b 0)) = bag.map fun b => (mulP τ σ).getD b 0 := List.map_congr_left fun b hbm => (mulP_get p (hb b hbm)).symm
  rw [e]
theorem named_named (P : Pre n F) (p : IsPerm n τ) : named (named F τ) σ = named F (mulP τ σ) := by
  unfold named
  refine sortL_congr ?_
  refine List.Perm.trans ((sortL_perm _).map _) ?_
  rw [List.map_map]
  have e : F.map (nm σ ∘ nm τ) = F.map (nm (mulP τ σ)) := List.map_congr_left fun bag hb => nm_nm p (P.bags bag hb).2.2
  rw [e]
theorem nm_id {bag : List Nat} (h : bag.Pairwise (· < ·)) (hb : ∀ b ∈ bag, b < n) : nm (List.range n) bag = bag := by
  unfold nm
  have e : bag.map (fun b => (List.range n).getD b 0) = bag := (List.map_congr_left (g := id) fun b hbm => range_getD (hb b hbm)).trans (List.map_id bag)
  rw [e]
  exact sortN_id (le_of_lt_pw h)
theorem named_id (P : Pre n F) : named F (List.range n) = sortL F := by
  unfold named
  have e : F.map (nm (List.range n)) = F := (List.map_congr_left (g := id) fun bag hb => nm_id (P.bags bag hb).1 (P.bags bag hb).2.2).trans (List.map_id F)
  rw [e]
theorem named_id_fam (I : IsFam n F) : named F (List.range n) = F := by
  rw [named_id I.toPre]
  exact sortL_eq (List.Perm.refl _) (lexLe_of_lt I.rise)
theorem named_sort (P : Pre n F) (p : IsPerm n σ) : named (sortL F) σ = named F σ := by
  rw [← named_id P, named_named P isPerm_id, one_mul p]
/-- all renamings -/
def ords (n : Nat) : List (List Nat) := ordersOf (List.range n)
theorem mem_ords : σ ∈ ords n ↔ IsPerm n σ := mem_orders
end
end Sb

/-! ML: all families on at most five beads. -/
namespace Sb
def eqL : List Nat → List Nat → Bool
  | [], [] => true
  | a :: l, b :: m => Nat.beq a b && eqL l m
  | _, _ => false
def eqF : Fam → Fam → Bool
  | [], [] => true
  | a :: l, b :: m => eqL a b && eqF l m
  | _, _ => false
def memF (F : Fam) : List Fam → Bool
  | [] => false
  | G :: l => eqF F G || memF F l
theorem eqL_iff : ∀ {a b : List Nat}, eqL a b = true ↔ a = b
  | [], [] => by simp [eqL]
  | [], _ :: _ => by simp [eqL]
  | _ :: _, [] => by simp [eqL]
  | a :: l, b :: m => by
    have ih := eqL_iff (a := l) (b := m)
    rw [eqL, Bool.and_eq_true, ih, Nat.beq_eq]
    simp
theorem eqF_iff : ∀ {a b : Fam}, eqF a b = true ↔ a = b
  | [], [] => by simp [eqF]
  | [], _ :: _ => by simp [eqF]
  | _ :: _, [] => by simp [eqF]
  | a :: l, b :: m => by
    have ih := eqF_iff (a := l) (b := m)
    rw [eqF, Bool.and_eq_true, ih, eqL_iff]
    simp
theorem memF_iff {F : Fam} : ∀ {l : List Fam}, memF F l = true ↔ F ∈ l
  | [] => by simp [memF]
  | G :: l => by
    have ih := memF_iff (F := F) (l := l)
    rw [memF, Bool.or_eq_true, ih, eqF_iff, List.mem_cons]
def reps2 : List Fam := [[[0,1]]]
def certs2 : List (Nat × List Nat) := [(0,[0,1])]
def all2 : List Fam := [[[0,1]]]
def reps3 : List Fam := [[[0,1,2]],[[0,1],[0,2]]]
def certs3 : List (Nat × List Nat) := [(1,[0,1,2]),(1,[1,0,2]),(0,[0,1,2]),(1,[2,0,1])]
def all3 : List Fam := [[[0,1],[0,2]],[[0,1],[1,2]],[[0,1,2]],[[0,2],[1,2]]]
def reps4 : List Fam := [[[0,1,2,3]],[[0,1,2],[0,3]],[[0,1],[0,2],[0,3]],[[0,1],[0,2],[1,3]]]
def certs4 : List (Nat × List Nat) := [(2,[0,1,2,3]),(3,[0,1,2,3]),(3,[0,2,1,3]),(1,[0,2,3,1]),(3,[0,1,3,2]),(3,[0,3,1,2]),(2,[1,0,2,3]),(3,[1,2,0,3]),(1,[1,2,3,0]),(3,[1,3,0,2]),(1,[0,1,2,3]),(1,[1,0,2,3]),(1,[2,0,1,3]),(0,[0,1,2,3]),(1,[0,1,3,2]),(1,[1,0,3,2]),(1,[3,0,1,2]),(3,[0,2,3,1]),(3,[0,3,2,1]),(3,[1,2,3,0]),(2,[2,0,1,3]),(1,[2,1,3,0]),(3,[2,3,0,1]),(1,[2,0,3,1]),(1,[3,0,2,1]),(3,[1,3,2,0]),(3,[2,3,1,0]),(1,[3,1,2,0]),(2,[3,0,1,2])]
def all4 : List Fam := [[[0,1],[0,2],[0,3]],[[0,1],[0,2],[1,3]],[[0,1],[0,2],[2,3]],[[0,1],[0,2,3]],[[0,1],[0,3],[1,2]],[[0,1],[0,3],[2,3]],[[0,1],[1,2],[1,3]],[[0,1],[1,2],[2,3]],[[0,1],[1,2,3]],[[0,1],[1,3],[2,3]],[[0,1,2],[0,3]],[[0,1,2],[1,3]],[[0,1,2],[2,3]],[[0,1,2,3]],[[0,1,3],[0,2]],[[0,1,3],[1,2]],[[0,1,3],[2,3]],[[0,2],[0,3],[1,2]],[[0,2],[0,3],[1,3]],[[0,2],[1,2],[1,3]],[[0,2],[1,2],[2,3]],[[0,2],[1,2,3]],[[0,2],[1,3],[2,3]],[[0,2,3],[1,2]],[[0,2,3],[1,3]],[[0,3],[1,2],[1,3]],[[0,3],[1,2],[2,3]],[[0,3],[1,2,3]],[[0,3],[1,3],[2,3]]]
def reps5 : List Fam := [[[0,1,2,3,4]],[[0,1,2,3],[0,4]],[[0,1,2],[0,3,4]],[[0,1,2],[0,3],[0,4]],[[0,1,2],[0,3],[1,4]],[[0,1,2],[0,3],[3,4]],[[0,1],[0,2],[0,3],[0,4]],[[0,1],[0,2],[0,3],[1,4]],[[0,1],[0,2],[1,3],[2,4]]]
def certs5 : List (Nat × List Nat) := [(6,[0,1,2,3,4]),(7,[0,1,2,3,4]),(7,[0,2,1,3,4]),(7,[0,3,1,2,4]),(3,[0,3,4,1,2]),(7,[0,1,2,4,3]),(7,[0,2,1,4,3]),(7,[0,4,1,2,3]),(7,[1,0,3,4,2]),(8,[0,1,2,3,4]),(8,[1,0,3,2,4]),(5,[1,3,4,0,2]),(8,[0,1,2,4,3]),(8,[1,0,4,2,3]),(7,[2,0,3,4,1]),(8,[2,0,3,1,4]),(5,[2,3,4,0,1]),(8,[2,0,4,1,3]),(3,[0,2,3,1,4]),(5,[0,2,3,1,4]),(4,[0,2,3,1,4]),(4,[0,3,2,1,4]),(1,[0,2,3,4,1]),(3,[0,2,4,1,3]),(5,[0,2,4,1,3]),(4,[0,2,4,1,3]),(4,[0,4,2,1,3]),(7,[0,1,3,4,2]),(7,[0,3,1,4,2]),(7,[0,4,1,3,2]),(7,[1,0,2,4,3]),(8,[1,0,2,3,4]),(8,[0,1,3,2,4]),(5,[1,2,4,0,3]),(8,[0,1,3,4,2]),(8,[1,0,4,3,2]),(8,[3,0,2,1,4]),(7,[3,0,2,4,1]),(5,[3,2,4,0,1]),(8,[3,0,4,1,2]),(5,[0,3,4,1,2]),(4,[0,3,4,1,2]),(4,[0,4,3,1,2]),(7,[1,0,2,3,4]),(8,[1,0,2,4,3]),(8,[0,1,4,2,3]),(5,[1,2,3,0,4]),(8,[1,0,3,4,2]),(8,[0,1,4,3,2]),(8,[4,0,2,1,3]),(8,[4,0,3,1,2]),(5,[4,2,3,0,1]),(7,[4,0,2,3,1]),(6,[1,0,2,3,4]),(7,[1,2,0,3,4]),(7,[1,3,0,2,4]),(3,[1,3,4,0,2]),(7,[1,2,0,4,3]),(7,[1,4,0,2,3]),(7,[2,1,3,4,0]),(8,[2,1,3,0,4]),(5,[2,3,4,1,0]),(8,[2,1,4,0,3]),(3,[1,2,3,0,4]),(4,[1,2,3,0,4]),(4,[1,3,2,0,4]),(1,[1,2,3,4,0]),(3,[1,2,4,0,3]),(4,[1,2,4,0,3]),(4,[1,4,2,0,3]),(7,[1,3,0,4,2]),(7,[1,4,0,3,2]),(8,[3,1,2,0,4]),(7,[3,1,2,4,0]),(5,[3,2,4,1,0]),(8,[3,1,4,0,2]),(4,[1,3,4,0,2]),(4,[1,4,3,0,2]),(8,[4,1,2,0,3]),(8,[4,1,3,0,2]),(5,[4,2,3,1,0]),(7,[4,1,2,3,0]),(3,[0,1,2,3,4]),(4,[0,1,2,3,4]),(4,[0,2,1,3,4]),(5,[0,1,2,3,4]),(2,[0,1,2,3,4]),(4,[0,1,2,4,3]),(4,[0,2,1,4,3]),(5,[0,1,2,4,3]),(3,[1,0,2,3,4]),(4,[1,2,0,3,4]),(5,[1,0,2,3,4]),(2,[1,0,2,3,4]),(4,[1,2,0,4,3]),(5,[1,0,2,4,3]),(3,[2,0,1,3,4]),(5,[2,0,1,3,4]),(2,[2,0,1,3,4]),(5,[2,0,1,4,3]),(1,[0,1,2,3,4]),(1,[1,0,2,3,4]),(1,[2,0,1,3,4]),(1,[3,0,1,2,4]),(0,[0,1,2,3,4]),(1,[0,1,2,4,3]),(1,[1,0,2,4,3]),(1,[2,0,1,4,3]),(1,[4,0,1,2,3]),(3,[0,1,3,2,4]),(4,[0,1,3,2,4]),(5,[0,1,3,2,4]),(4,[0,3,1,2,4]),(2,[0,1,3,2,4]),(4,[0,1,3,4,2]),(4,[0,3,1,4,2]),(5,[0,1,3,4,2]),(3,[1,0,3,2,4]),(5,[1,0,3,2,4]),(4,[1,3,0,2,4]),(2,[1,0,3,2,4]),(4,[1,3,0,4,2]),(5,[1,0,3,4,2]),(5,[3,0,1,2,4]),(3,[3,0,1,2,4]),(2,[3,0,1,2,4]),(5,[3,0,1,4,2]),(1,[0,1,3,4,2]),(1,[1,0,3,4,2]),(1,[3,0,1,4,2]),(1,[4,0,1,3,2]),(3,[0,1,4,2,3]),(4,[0,1,4,2,3]),(5,[0,1,4,2,3]),(4,[0,4,1,2,3]),(2,[0,1,4,2,3]),(4,[0,1,4,3,2]),(5,[0,1,4,3,2]),(4,[0,4,1,3,2]),(3,[1,0,4,2,3]),(5,[1,0,4,2,3]),(4,[1,4,0,2,3]),(2,[1,0,4,2,3]),(5,[1,0,4,3,2]),(4,[1,4,0,3,2]),(5,[4,0,1,2,3]),(5,[4,0,1,3,2]),(2,[4,0,1,2,3]),(3,[4,0,1,2,3]),(7,[0,2,3,4,1]),(7,[0,3,2,4,1]),(7,[0,4,2,3,1]),(8,[2,0,1,3,4]),(7,[2,0,1,4,3]),(8,[0,2,3,1,4]),(5,[2,1,4,0,3]),(8,[3,0,1,2,4]),(8,[0,2,3,4,1]),(7,[3,0,1,4,2]),(5,[3,1,4,0,2]),(8,[2,0,4,3,1]),(8,[3,0,4,2,1]),(5,[0,3,4,2,1]),(4,[0,3,4,2,1]),(4,[0,4,3,2,1]),(8,[2,0,1,4,3]),(7,[2,0,1,3,4]),(8,[0,2,4,1,3]),(5,[2,1,3,0,4]),(8,[4,0,1,2,3]),(8,[2,0,3,4,1]),(8,[4,0,3,2,1]),(5,[4,1,3,0,2]),(8,[0,2,4,3,1]),(7,[4,0,1,3,2]),(7,[1,2,3,4,0]),(7,[2,1,0,4,3]),(8,[1,2,3,0,4]),(5,[1,3,4,2,0]),(7,[2,1,0,3,4]),(8,[1,2,4,0,3]),(6,[2,0,1,3,4]),(7,[2,3,0,1,4]),(3,[2,3,4,0,1]),(7,[2,4,0,1,3]),(4,[1,2,3,4,0]),(3,[2,1,3,0,4]),(4,[2,3,1,0,4]),(1,[2,1,3,4,0]),(4,[1,2,4,3,0]),(3,[2,1,4,0,3]),(4,[2,4,1,0,3]),(8,[3,1,2,4,0]),(8,[4,1,2,3,0]),(7,[2,3,0,4,1]),(7,[3,2,1,4,0]),(4,[2,3,4,0,1]),(8,[4,2,3,0,1]),(5,[3,1,4,2,0]),(5,[4,1,3,2,0]),(7,[2,4,0,3,1]),(8,[3,2,4,0,1]),(4,[2,4,3,0,1]),(7,[4,2,1,3,0]),(4,[0,2,3,4,1]),(4,[0,3,2,4,1]),(5,[0,2,3,4,1]),(5,[2,0,3,1,4]),(3,[2,0,3,1,4]),(4,[2,3,0,1,4]),(2,[2,0,3,1,4]),(5,[3,0,2,1,4]),(4,[2,3,0,4,1]),(3,[3,0,2,1,4]),(2,[3,0,2,1,4]),(5,[2,0,3,4,1]),(5,[3,0,2,4,1]),(1,[2,0,3,4,1]),(1,[3,0,2,4,1]),(1,[4,0,2,3,1]),(4,[0,2,4,3,1]),(5,[0,2,4,3,1]),(4,[0,4,2,3,1]),(5,[2,0,4,1,3]),(3,[2,0,4,1,3]),(4,[2,4,0,1,3]),(2,[2,0,4,1,3]),(5,[4,0,2,1,3]),(5,[2,0,4,3,1]),(5,[4,0,2,3,1]),(2,[4,0,2,1,3]),(4,[2,4,0,3,1]),(3,[4,0,2,1,3]),(8,[3,0,1,4,2]),(8,[4,0,1,3,2]),(8,[3,0,2,4,1]),(8,[4,0,2,3,1]),(5,[3,1,2,0,4]),(5,[4,1,2,0,3]),(7,[3,0,1,2,4]),(8,[0,3,4,1,2]),(8,[0,3,4,2,1]),(7,[4,0,1,2,3]),(7,[1,3,2,4,0]),(8,[1,2,3,4,0]),(7,[3,1,0,4,2]),(4,[1,3,4,2,0]),(8,[2,1,3,4,0]),(8,[4,1,3,2,0]),(7,[2,3,1,4,0]),(7,[3,2,0,4,1]),(4,[2,3,4,1,0]),(8,[4,2,3,1,0]),(4,[1,3,2,4,0]),(4,[2,3,1,4,0]),(3,[3,1,2,0,4]),(1,[3,1,2,4,0]),(5,[1,2,4,3,0]),(5,[2,1,4,3,0]),(5,[4,1,2,3,0]),(7,[3,1,0,2,4]),(8,[1,3,4,0,2]),(7,[3,2,0,1,4]),(6,[3,0,1,2,4]),(3,[3,2,4,0,1]),(7,[3,4,0,1,2]),(3,[3,1,4,0,2]),(4,[3,4,1,0,2]),(8,[2,3,4,0,1]),(7,[3,4,0,2,1]),(4,[3,4,2,0,1]),(7,[4,3,1,2,0]),(5,[3,0,4,1,2]),(5,[4,0,3,1,2]),(5,[3,0,4,2,1]),(5,[4,0,3,2,1]),(2,[3,0,4,1,2]),(2,[4,0,3,1,2]),(3,[3,0,4,1,2]),(4,[3,4,0,1,2]),(4,[3,4,0,2,1]),(3,[4,0,3,1,2]),(7,[1,4,2,3,0]),(8,[2,1,4,3,0]),(8,[3,1,4,2,0]),(4,[1,4,3,2,0]),(8,[1,2,4,3,0]),(7,[4,1,0,3,2]),(7,[2,4,1,3,0]),(8,[3,2,4,1,0]),(4,[2,4,3,1,0]),(7,[4,2,0,3,1]),(5,[1,2,3,4,0]),(5,[2,1,3,4,0]),(5,[3,1,2,4,0]),(1,[4,1,2,3,0]),(4,[1,4,2,3,0]),(4,[2,4,1,3,0]),(3,[4,1,2,0,3]),(8,[1,3,4,2,0]),(7,[4,1,0,2,3]),(8,[2,3,4,1,0]),(7,[3,4,1,2,0]),(4,[3,4,2,1,0]),(7,[4,3,0,2,1]),(4,[3,4,1,2,0]),(3,[4,1,3,0,2]),(7,[4,2,0,1,3]),(7,[4,3,0,1,2]),(3,[4,2,3,0,1]),(6,[4,0,1,2,3])]
def all5 : List Fam := [[[0,1],[0,2],[0,3],[0,4]],[[0,1],[0,2],[0,3],[1,4]],[[0,1],[0,2],[0,3],[2,4]],[[0,1],[0,2],[0,3],[3,4]],[[0,1],[0,2],[0,3,4]],[[0,1],[0,2],[0,4],[1,3]],[[0,1],[0,2],[0,4],[2,3]],[[0,1],[0,2],[0,4],[3,4]],[[0,1],[0,2],[1,3],[1,4]],[[0,1],[0,2],[1,3],[2,4]],[[0,1],[0,2],[1,3],[3,4]],[[0,1],[0,2],[1,3,4]],[[0,1],[0,2],[1,4],[2,3]],[[0,1],[0,2],[1,4],[3,4]],[[0,1],[0,2],[2,3],[2,4]],[[0,1],[0,2],[2,3],[3,4]],[[0,1],[0,2],[2,3,4]],[[0,1],[0,2],[2,4],[3,4]],[[0,1],[0,2,3],[0,4]],[[0,1],[0,2,3],[1,4]],[[0,1],[0,2,3],[2,4]],[[0,1],[0,2,3],[3,4]],[[0,1],[0,2,3,4]],[[0,1],[0,2,4],[0,3]],[[0,1],[0,2,4],[1,3]],[[0,1],[0,2,4],[2,3]],[[0,1],[0,2,4],[3,4]],[[0,1],[0,3],[0,4],[1,2]],[[0,1],[0,3],[0,4],[2,3]],[[0,1],[0,3],[0,4],[2,4]],[[0,1],[0,3],[1,2],[1,4]],[[0,1],[0,3],[1,2],[2,4]],[[0,1],[0,3],[1,2],[3,4]],[[0,1],[0,3],[1,2,4]],[[0,1],[0,3],[1,4],[2,3]],[[0,1],[0,3],[1,4],[2,4]],[[0,1],[0,3],[2,3],[2,4]],[[0,1],[0,3],[2,3],[3,4]],[[0,1],[0,3],[2,3,4]],[[0,1],[0,3],[2,4],[3,4]],[[0,1],[0,3,4],[1,2]],[[0,1],[0,3,4],[2,3]],[[0,1],[0,3,4],[2,4]],[[0,1],[0,4],[1,2],[1,3]],[[0,1],[0,4],[1,2],[2,3]],[[0,1],[0,4],[1,2],[3,4]],[[0,1],[0,4],[1,2,3]],[[0,1],[0,4],[1,3],[2,3]],[[0,1],[0,4],[1,3],[2,4]],[[0,1],[0,4],[2,3],[2,4]],[[0,1],[0,4],[2,3],[3,4]],[[0,1],[0,4],[2,3,4]],[[0,1],[0,4],[2,4],[3,4]],[[0,1],[1,2],[1,3],[1,4]],[[0,1],[1,2],[1,3],[2,4]],[[0,1],[1,2],[1,3],[3,4]],[[0,1],[1,2],[1,3,4]],[[0,1],[1,2],[1,4],[2,3]],[[0,1],[1,2],[1,4],[3,4]],[[0,1],[1,2],[2,3],[2,4]],[[0,1],[1,2],[2,3],[3,4]],[[0,1],[1,2],[2,3,4]],[[0,1],[1,2],[2,4],[3,4]],[[0,1],[1,2,3],[1,4]],[[0,1],[1,2,3],[2,4]],[[0,1],[1,2,3],[3,4]],[[0,1],[1,2,3,4]],[[0,1],[1,2,4],[1,3]],[[0,1],[1,2,4],[2,3]],[[0,1],[1,2,4],[3,4]],[[0,1],[1,3],[1,4],[2,3]],[[0,1],[1,3],[1,4],[2,4]],[[0,1],[1,3],[2,3],[2,4]],[[0,1],[1,3],[2,3],[3,4]],[[0,1],[1,3],[2,3,4]],[[0,1],[1,3],[2,4],[3,4]],[[0,1],[1,3,4],[2,3]],[[0,1],[1,3,4],[2,4]],[[0,1],[1,4],[2,3],[2,4]],[[0,1],[1,4],[2,3],[3,4]],[[0,1],[1,4],[2,3,4]],[[0,1],[1,4],[2,4],[3,4]],[[0,1,2],[0,3],[0,4]],[[0,1,2],[0,3],[1,4]],[[0,1,2],[0,3],[2,4]],[[0,1,2],[0,3],[3,4]],[[0,1,2],[0,3,4]],[[0,1,2],[0,4],[1,3]],[[0,1,2],[0,4],[2,3]],[[0,1,2],[0,4],[3,4]],[[0,1,2],[1,3],[1,4]],[[0,1,2],[1,3],[2,4]],[[0,1,2],[1,3],[3,4]],[[0,1,2],[1,3,4]],[[0,1,2],[1,4],[2,3]],[[0,1,2],[1,4],[3,4]],[[0,1,2],[2,3],[2,4]],[[0,1,2],[2,3],[3,4]],[[0,1,2],[2,3,4]],[[0,1,2],[2,4],[3,4]],[[0,1,2,3],[0,4]],[[0,1,2,3],[1,4]],[[0,1,2,3],[2,4]],[[0,1,2,3],[3,4]],[[0,1,2,3,4]],[[0,1,2,4],[0,3]],[[0,1,2,4],[1,3]],[[0,1,2,4],[2,3]],[[0,1,2,4],[3,4]],[[0,1,3],[0,2],[0,4]],[[0,1,3],[0,2],[1,4]],[[0,1,3],[0,2],[2,4]],[[0,1,3],[0,2],[3,4]],[[0,1,3],[0,2,4]],[[0,1,3],[0,4],[1,2]],[[0,1,3],[0,4],[2,3]],[[0,1,3],[0,4],[2,4]],[[0,1,3],[1,2],[1,4]],[[0,1,3],[1,2],[2,4]],[[0,1,3],[1,2],[3,4]],[[0,1,3],[1,2,4]],[[0,1,3],[1,4],[2,3]],[[0,1,3],[1,4],[2,4]],[[0,1,3],[2,3],[2,4]],[[0,1,3],[2,3],[3,4]],[[0,1,3],[2,3,4]],[[0,1,3],[2,4],[3,4]],[[0,1,3,4],[0,2]],[[0,1,3,4],[1,2]],[[0,1,3,4],[2,3]],[[0,1,3,4],[2,4]],[[0,1,4],[0,2],[0,3]],[[0,1,4],[0,2],[1,3]],[[0,1,4],[0,2],[2,3]],[[0,1,4],[0,2],[3,4]],[[0,1,4],[0,2,3]],[[0,1,4],[0,3],[1,2]],[[0,1,4],[0,3],[2,3]],[[0,1,4],[0,3],[2,4]],[[0,1,4],[1,2],[1,3]],[[0,1,4],[1,2],[2,3]],[[0,1,4],[1,2],[3,4]],[[0,1,4],[1,2,3]],[[0,1,4],[1,3],[2,3]],[[0,1,4],[1,3],[2,4]],[[0,1,4],[2,3],[2,4]],[[0,1,4],[2,3],[3,4]],[[0,1,4],[2,3,4]],[[0,1,4],[2,4],[3,4]],[[0,2],[0,3],[0,4],[1,2]],[[0,2],[0,3],[0,4],[1,3]],[[0,2],[0,3],[0,4],[1,4]],[[0,2],[0,3],[1,2],[1,4]],[[0,2],[0,3],[1,2],[2,4]],[[0,2],[0,3],[1,2],[3,4]],[[0,2],[0,3],[1,2,4]],[[0,2],[0,3],[1,3],[1,4]],[[0,2],[0,3],[1,3],[2,4]],[[0,2],[0,3],[1,3],[3,4]],[[0,2],[0,3],[1,3,4]],[[0,2],[0,3],[1,4],[2,4]],[[0,2],[0,3],[1,4],[3,4]],[[0,2],[0,3,4],[1,2]],[[0,2],[0,3,4],[1,3]],[[0,2],[0,3,4],[1,4]],[[0,2],[0,4],[1,2],[1,3]],[[0,2],[0,4],[1,2],[2,3]],[[0,2],[0,4],[1,2],[3,4]],[[0,2],[0,4],[1,2,3]],[[0,2],[0,4],[1,3],[1,4]],[[0,2],[0,4],[1,3],[2,3]],[[0,2],[0,4],[1,3],[3,4]],[[0,2],[0,4],[1,3,4]],[[0,2],[0,4],[1,4],[2,3]],[[0,2],[0,4],[1,4],[3,4]],[[0,2],[1,2],[1,3],[1,4]],[[0,2],[1,2],[1,3],[2,4]],[[0,2],[1,2],[1,3],[3,4]],[[0,2],[1,2],[1,3,4]],[[0,2],[1,2],[1,4],[2,3]],[[0,2],[1,2],[1,4],[3,4]],[[0,2],[1,2],[2,3],[2,4]],[[0,2],[1,2],[2,3],[3,4]],[[0,2],[1,2],[2,3,4]],[[0,2],[1,2],[2,4],[3,4]],[[0,2],[1,2,3],[1,4]],[[0,2],[1,2,3],[2,4]],[[0,2],[1,2,3],[3,4]],[[0,2],[1,2,3,4]],[[0,2],[1,2,4],[1,3]],[[0,2],[1,2,4],[2,3]],[[0,2],[1,2,4],[3,4]],[[0,2],[1,3],[1,4],[2,3]],[[0,2],[1,3],[1,4],[2,4]],[[0,2],[1,3],[2,3],[2,4]],[[0,2],[1,3],[2,3],[3,4]],[[0,2],[1,3],[2,3,4]],[[0,2],[1,3],[2,4],[3,4]],[[0,2],[1,3,4],[2,3]],[[0,2],[1,3,4],[2,4]],[[0,2],[1,4],[2,3],[2,4]],[[0,2],[1,4],[2,3],[3,4]],[[0,2],[1,4],[2,3,4]],[[0,2],[1,4],[2,4],[3,4]],[[0,2,3],[0,4],[1,2]],[[0,2,3],[0,4],[1,3]],[[0,2,3],[0,4],[1,4]],[[0,2,3],[1,2],[1,4]],[[0,2,3],[1,2],[2,4]],[[0,2,3],[1,2],[3,4]],[[0,2,3],[1,2,4]],[[0,2,3],[1,3],[1,4]],[[0,2,3],[1,3],[2,4]],[[0,2,3],[1,3],[3,4]],[[0,2,3],[1,3,4]],[[0,2,3],[1,4],[2,4]],[[0,2,3],[1,4],[3,4]],[[0,2,3,4],[1,2]],[[0,2,3,4],[1,3]],[[0,2,3,4],[1,4]],[[0,2,4],[0,3],[1,2]],[[0,2,4],[0,3],[1,3]],[[0,2,4],[0,3],[1,4]],[[0,2,4],[1,2],[1,3]],[[0,2,4],[1,2],[2,3]],[[0,2,4],[1,2],[3,4]],[[0,2,4],[1,2,3]],[[0,2,4],[1,3],[1,4]],[[0,2,4],[1,3],[2,3]],[[0,2,4],[1,3],[3,4]],[[0,2,4],[1,3,4]],[[0,2,4],[1,4],[2,3]],[[0,2,4],[1,4],[3,4]],[[0,3],[0,4],[1,2],[1,3]],[[0,3],[0,4],[1,2],[1,4]],[[0,3],[0,4],[1,2],[2,3]],[[0,3],[0,4],[1,2],[2,4]],[[0,3],[0,4],[1,2,3]],[[0,3],[0,4],[1,2,4]],[[0,3],[0,4],[1,3],[2,3]],[[0,3],[0,4],[1,3],[2,4]],[[0,3],[0,4],[1,4],[2,3]],[[0,3],[0,4],[1,4],[2,4]],[[0,3],[1,2],[1,3],[1,4]],[[0,3],[1,2],[1,3],[2,4]],[[0,3],[1,2],[1,3],[3,4]],[[0,3],[1,2],[1,3,4]],[[0,3],[1,2],[1,4],[2,3]],[[0,3],[1,2],[1,4],[3,4]],[[0,3],[1,2],[2,3],[2,4]],[[0,3],[1,2],[2,3],[3,4]],[[0,3],[1,2],[2,3,4]],[[0,3],[1,2],[2,4],[3,4]],[[0,3],[1,2,3],[1,4]],[[0,3],[1,2,3],[2,4]],[[0,3],[1,2,3],[3,4]],[[0,3],[1,2,3,4]],[[0,3],[1,2,4],[1,3]],[[0,3],[1,2,4],[2,3]],[[0,3],[1,2,4],[3,4]],[[0,3],[1,3],[1,4],[2,3]],[[0,3],[1,3],[1,4],[2,4]],[[0,3],[1,3],[2,3],[2,4]],[[0,3],[1,3],[2,3],[3,4]],[[0,3],[1,3],[2,3,4]],[[0,3],[1,3],[2,4],[3,4]],[[0,3],[1,3,4],[2,3]],[[0,3],[1,3,4],[2,4]],[[0,3],[1,4],[2,3],[2,4]],[[0,3],[1,4],[2,3],[3,4]],[[0,3],[1,4],[2,3,4]],[[0,3],[1,4],[2,4],[3,4]],[[0,3,4],[1,2],[1,3]],[[0,3,4],[1,2],[1,4]],[[0,3,4],[1,2],[2,3]],[[0,3,4],[1,2],[2,4]],[[0,3,4],[1,2,3]],[[0,3,4],[1,2,4]],[[0,3,4],[1,3],[2,3]],[[0,3,4],[1,3],[2,4]],[[0,3,4],[1,4],[2,3]],[[0,3,4],[1,4],[2,4]],[[0,4],[1,2],[1,3],[1,4]],[[0,4],[1,2],[1,3],[2,4]],[[0,4],[1,2],[1,3],[3,4]],[[0,4],[1,2],[1,3,4]],[[0,4],[1,2],[1,4],[2,3]],[[0,4],[1,2],[1,4],[3,4]],[[0,4],[1,2],[2,3],[2,4]],[[0,4],[1,2],[2,3],[3,4]],[[0,4],[1,2],[2,3,4]],[[0,4],[1,2],[2,4],[3,4]],[[0,4],[1,2,3],[1,4]],[[0,4],[1,2,3],[2,4]],[[0,4],[1,2,3],[3,4]],[[0,4],[1,2,3,4]],[[0,4],[1,2,4],[1,3]],[[0,4],[1,2,4],[2,3]],[[0,4],[1,2,4],[3,4]],[[0,4],[1,3],[1,4],[2,3]],[[0,4],[1,3],[1,4],[2,4]],[[0,4],[1,3],[2,3],[2,4]],[[0,4],[1,3],[2,3],[3,4]],[[0,4],[1,3],[2,3,4]],[[0,4],[1,3],[2,4],[3,4]],[[0,4],[1,3,4],[2,3]],[[0,4],[1,3,4],[2,4]],[[0,4],[1,4],[2,3],[2,4]],[[0,4],[1,4],[2,3],[3,4]],[[0,4],[1,4],[2,3,4]],[[0,4],[1,4],[2,4],[3,4]]]

def repsN : Nat → List Fam
  | 2 => reps2
  | 3 => reps3
  | 4 => reps4
  | 5 => reps5
  | _ => []
def certsN : Nat → List (Nat × List Nat)
  | 2 => certs2
  | 3 => certs3
  | 4 => certs4
  | 5 => certs5
  | _ => []
def allN : Nat → List Fam
  | 2 => all2
  | 3 => all3
  | 4 => all4
  | 5 => all5
  | _ => []
def grownL : Nat → List Fam
  | 0 => []
  | n + 1 => if Nat.beq n 1 then [[[0, 1]]] else (grownL n).flatMap fun G => ((List.range G.length).map fun i => G.set i (bagAt G i ++ [n])) ++ (List.range n).map fun p => G ++ [[p, n]]
def eqFs : List Fam → List Fam → Bool
  | [], [] => true
  | a :: l, b :: m => eqF a b && eqFs l m
  | _, _ => false
theorem eqFs_iff : ∀ {a b : List Fam}, eqFs a b = true → a = b
  | [], [], _ => rfl
  | [], _ :: _, h => by simp [eqFs] at h
  | _ :: _, [], h => by simp [eqFs] at h
  | a :: l, b :: m, h => by
    rw [eqFs, Bool.and_eq_true, eqF_iff] at h
    rw [h.1, eqFs_iff h.2]
/-- where each comes from -/
def chkCert (n : Nat) : Bool := eqFs ((certsN n).map fun c => named ((repsN n).getD c.1 []) c.2) (allN n) && (certsN n).all fun c => eqL (sortN c.2) (List.range n) && Nat.blt c.1 (repsN n).length
/-- representatives are grown -/
def chkRep (n : Nat) : Bool := (repsN n).all fun r => (grownL n).any fun G => eqF (sortL G) r
def chkGrown (n : Nat) : Bool := (grownL n).all fun G => (repsN n).any fun r => (ords n).any fun τ => eqF (named r τ) (sortL G)
def chkImg (n : Nat) : Bool := (repsN n).all fun r => (ords n).all fun τ => memF (named r τ) (allN n)
def chkPour (n : Nat) : Bool := (allN n).all fun F => (poursOf F).all fun p => memF (pourF F p.1 p.2) (allN n)
def chkPart (n : Nat) : Bool := (allN n).all fun F => (List.range F.length).all fun a => if Nat.blt 2 (bagAt F a).length then (ordersOf (bagAt F a)).all fun m => (List.range (bagAt F a).length).all fun c => if Nat.ble 2 c then memF (partF F a m c) (allN n) else true else true
end Sb

namespace Sb
def chkG (n : Nat) : Bool := (grownL n).all fun G => memF (sortL G) (allN n)
def stab (n : Nat) (r : Fam) : List (List Nat) := (ords n).filter fun κ => eqF (named r κ) r
def chkStab (n : Nat) : Bool := (repsN n).all fun r => Nat.beq (stab n r).length (shapeOf n r).2
def uniqFA : List Fam → List Fam → List Fam
  | acc, [] => acc
  | acc, F :: l => uniqFA (if memF F acc then acc else acc ++ [F]) l
def chkDist (n : Nat) : Bool := (repsN n).all fun r => Nat.beq (uniqFA [] ((ords n).map (named r))).length (fact n / (shapeOf n r).2) && Nat.ble (fact n / (shapeOf n r).2) 60
def chkOrb (n : Nat) : Bool := (repsN n).all fun r => (List.range n).all fun b => eqL (sortN (uniq ((stab n r).map fun κ => κ.getD b 0))) ((List.range n).filter fun c => eqL (beadText n r c) (beadText n r b))
def ndL : List (List Nat) → Bool
  | [] => true
  | a :: l => (l.all fun b => !eqL a b) && ndL l
def chkNd (n : Nat) : Bool := ndL (ords n)
def chkText (n : Nat) : Bool := (List.range (repsN n).length).all fun i => (List.range (repsN n).length).all fun j => Nat.beq i j || !eqL (shapeOf n ((repsN n).getD i [])).1 (shapeOf n ((repsN n).getD j [])).1
end Sb

/-! MO: the checks. -/
namespace Sb
theorem okCert2 : chkCert 2 = true := by decide +kernel
theorem okCert3 : chkCert 3 = true := by decide +kernel
theorem okCert4 : chkCert 4 = true := by decide +kernel
theorem okCert5 : chkCert 5 = true := by decide +kernel
theorem okCert {n : Nat} (h2 : 2 ≤ n) (h5 : n ≤ 5) : chkCert n = true := by
  rcases (show n = 2 ∨ n = 3 ∨ n = 4 ∨ n = 5 by omega) with rfl | rfl | rfl | rfl
  · exact okCert2
  · exact okCert3
  · exact okCert4
  · exact okCert5
theorem okRep2 : chkRep 2 = true := by decide +kernel
theorem okRep3 : chkRep 3 = true := by decide +kernel
theorem okRep4 : chkRep 4 = true := by decide +kernel
theorem okRep5 : chkRep 5 = true := by decide +kernel
theorem okRep {n : Nat} (h2 : 2 ≤ n) (h5 : n ≤ 5) : chkRep n = true := by
  rcases (show n = 2 ∨ n = 3 ∨ n = 4 ∨ n = 5 by omega) with rfl | rfl | rfl | rfl
  · exact okRep2
  · exact okRep3
  · exact okRep4
  · exact okRep5
theorem okG2 : chkG 2 = true := by decide +kernel
theorem okG3 : chkG 3 = true := by decide +kernel
theorem okG4 : chkG 4 = true := by decide +kernel
theorem okG5 : chkG 5 = true := by decide +kernel
theorem okG {n : Nat} (h2 : 2 ≤ n) (h5 : n ≤ 5) : chkG n = true := by
  rcases (show n = 2 ∨ n = 3 ∨ n = 4 ∨ n = 5 by omega) with rfl | rfl | rfl | rfl
  · exact okG2
  · exact okG3
  · exact okG4
  · exact okG5
theorem okImg2 : chkImg 2 = true := by decide +kernel
theorem okImg3 : chkImg 3 = true := by decide +kernel
theorem okImg4 : chkImg 4 = true := by decide +kernel
theorem okImg5 : chkImg 5 = true := by decide +kernel
theorem okImg {n : Nat} (h2 : 2 ≤ n) (h5 : n ≤ 5) : chkImg n = true := by
  rcases (show n = 2 ∨ n = 3 ∨ n = 4 ∨ n = 5 by omega) with rfl | rfl | rfl | rfl
  · exact okImg2
  · exact okImg3
  · exact okImg4
  · exact okImg5
theorem okStab2 : chkStab 2 = true := by decide +kernel
theorem okStab3 : chkStab 3 = true := by decide +kernel
theorem okStab4 : chkStab 4 = true := by decide +kernel
theorem okStab5 : chkStab 5 = true := by decide +kernel
theorem okStab {n : Nat} (h2 : 2 ≤ n) (h5 : n ≤ 5) : chkStab n = true := by
  rcases (show n = 2 ∨ n = 3 ∨ n = 4 ∨ n = 5 by omega) with rfl | rfl | rfl | rfl
  · exact okStab2
  · exact okStab3
  · exact okStab4
  · exact okStab5
theorem okDist2 : chkDist 2 = true := by decide +kernel
theorem okDist3 : chkDist 3 = true := by decide +kernel
theorem okDist4 : chkDist 4 = true := by decide +kernel
theorem okDist5 : chkDist 5 = true := by decide +kernel
theorem okDist {n : Nat} (h2 : 2 ≤ n) (h5 : n ≤ 5) : chkDist n = true := by
  rcases (show n = 2 ∨ n = 3 ∨ n = 4 ∨ n = 5 by omega) with rfl | rfl | rfl | rfl
  · exact okDist2
  · exact okDist3
  · exact okDist4
  · exact okDist5
theorem okOrb2 : chkOrb 2 = true := by decide +kernel
theorem okOrb3 : chkOrb 3 = true := by decide +kernel
theorem okOrb4 : chkOrb 4 = true := by decide +kernel
theorem okOrb5 : chkOrb 5 = true := by decide +kernel
theorem okOrb {n : Nat} (h2 : 2 ≤ n) (h5 : n ≤ 5) : chkOrb n = true := by
  rcases (show n = 2 ∨ n = 3 ∨ n = 4 ∨ n = 5 by omega) with rfl | rfl | rfl | rfl
  · exact okOrb2
  · exact okOrb3
  · exact okOrb4
  · exact okOrb5
theorem okNd2 : chkNd 2 = true := by decide +kernel
theorem okNd3 : chkNd 3 = true := by decide +kernel
theorem okNd4 : chkNd 4 = true := by decide +kernel
theorem okNd5 : chkNd 5 = true := by decide +kernel
theorem okNd {n : Nat} (h2 : 2 ≤ n) (h5 : n ≤ 5) : chkNd n = true := by
  rcases (show n = 2 ∨ n = 3 ∨ n = 4 ∨ n = 5 by omega) with rfl | rfl | rfl | rfl
  · exact okNd2
  · exact okNd3
  · exact okNd4
  · exact okNd5
theorem okText2 : chkText 2 = true := by decide +kernel
theorem okText3 : chkText 3 = true := by decide +kernel
theorem okText4 : chkText 4 = true := by decide +kernel
theorem okText5 : chkText 5 = true := by decide +kernel
theorem okText {n : Nat} (h2 : 2 ≤ n) (h5 : n ≤ 5) : chkText n = true := by
  rcases (show n = 2 ∨ n = 3 ∨ n = 4 ∨ n = 5 by omega) with rfl | rfl | rfl | rfl
  · exact okText2
  · exact okText3
  · exact okText4
  · exact okText5
end Sb

/-! MO2: more checks. -/
namespace Sb
theorem okPour2 : chkPour 2 = true := by decide +kernel
theorem okPour3 : chkPour 3 = true := by decide +kernel
theorem okPour4 : chkPour 4 = true := by decide +kernel
theorem okPour5 : chkPour 5 = true := by decide +kernel
theorem okPour {n : Nat} (h2 : 2 ≤ n) (h5 : n ≤ 5) : chkPour n = true := by
  rcases (show n = 2 ∨ n = 3 ∨ n = 4 ∨ n = 5 by omega) with rfl | rfl | rfl | rfl
  · exact okPour2
  · exact okPour3
  · exact okPour4
  · exact okPour5
theorem okPart2 : chkPart 2 = true := by decide +kernel
theorem okPart3 : chkPart 3 = true := by decide +kernel
theorem okPart4 : chkPart 4 = true := by decide +kernel
theorem okPart5 : chkPart 5 = true := by decide +kernel
theorem okPart {n : Nat} (h2 : 2 ≤ n) (h5 : n ≤ 5) : chkPart n = true := by
  rcases (show n = 2 ∨ n = 3 ∨ n = 4 ∨ n = 5 by omega) with rfl | rfl | rfl | rfl
  · exact okPart2
  · exact okPart3
  · exact okPart4
  · exact okPart5
end Sb

/-! MM: what the checks say of every family. -/
namespace Sb
section
variable {n : Nat} {F r G : Fam} {σ τ : List Nat}
theorem mem_grownL {n : Nat} {G : Fam} (h2 : 2 ≤ n) : G ∈ grownL n ↔ Grown n G := by
  constructor
  · intro h
    induction n generalizing G with
    | zero => omega
    | succ n ih =>
      unfold grownL at h
      by_cases e : n = 1
      · subst e
        rw [if_pos (show Nat.beq 1 1 = true from rfl)] at h
        rw [List.mem_singleton.mp h]
        exact .base
      · rw [if_neg (fun q => e (Nat.eq_of_beq_eq_true q))] at h
        obtain ⟨G0, h0, h1⟩ := List.mem_flatMap.mp h
        have g0 := ih (by omega) h0
        rcases List.mem_append.mp h1 with h1 | h1
        · obtain ⟨i, hi, rfl⟩ := List.mem_map.mp h1
          exact .app g0 (List.mem_range.mp hi)
        · obtain ⟨p, hp, rfl⟩ := List.mem_map.mp h1
          exact .new g0 (List.mem_range.mp hp)
  · intro h
    induction h with
    | base => exact List.mem_singleton.mpr rfl
    | @app n G i g hi ih =>
      have hn := g.pre.two
      unfold grownL
      rw [if_neg (fun q => by have := Nat.eq_of_beq_eq_true q; omega)]
      exact List.mem_flatMap.mpr ⟨G, ih hn, List.mem_append_left _ (List.mem_map.mpr ⟨i, List.mem_range.mpr hi, rfl⟩)⟩
    | @new n G p g hp ih =>
      have hn := g.pre.two
      unfold grownL
      rw [if_neg (fun q => by have := Nat.eq_of_beq_eq_true q; omega)]
      exact List.mem_flatMap.mpr ⟨G, ih hn, List.mem_append_right _ (List.mem_map.mpr ⟨p, List.mem_range.mpr hp, rfl⟩)⟩
theorem repFam (h2 : 2 ≤ n) (h5 : n ≤ 5) (h : r ∈ repsN n) : IsFam n r := by
  obtain ⟨G, hG, e⟩ := List.any_eq_true.mp (List.all_eq_true.mp (okRep h2 h5) r h)
  have g := ((mem_grownL h2).mp hG).pre
  rw [← eqF_iff.mp e, ← named_id g]
  exact g.named isPerm_id
theorem isPerm_of (h : sortN σ = List.range n) : IsPerm n σ := by
  unfold IsPerm
  rw [← h]
  exact (sortN_perm σ).symm
theorem all_cert (h2 : 2 ≤ n) (h5 : n ≤ 5) (h : F ∈ allN n) : ∃ r τ, r ∈ repsN n ∧ IsPerm n τ ∧ F = named r τ := by
  have c := okCert h2 h5
  unfold chkCert at c
  rw [Bool.and_eq_true] at c
  rw [← eqFs_iff c.1] at h
  obtain ⟨q, hq, rfl⟩ := List.mem_map.mp h
  have c2 := List.all_eq_true.mp c.2 q hq
  rw [Bool.and_eq_true] at c2
  have hl : q.1 < (repsN n).length := by
    have := c2.2
    unfold Nat.blt at this
    rw [Nat.ble_eq] at this
    exact this
  refine ⟨_, q.2, ?_, isPerm_of (eqL_iff.mp c2.1), rfl⟩
  rw [List.getD_eq_getElem?_getD, List.getElem?_eq_getElem hl]
  exact List.getElem_mem hl
theorem all_img (h2 : 2 ≤ n) (h5 : n ≤ 5) (h : r ∈ repsN n) (p : IsPerm n τ) : named r τ ∈ allN n :=
  memF_iff.mp (List.all_eq_true.mp (List.all_eq_true.mp (okImg h2 h5) r h) τ (mem_ords.mpr p))
theorem all_fam (h2 : 2 ≤ n) (h5 : n ≤ 5) (h : F ∈ allN n) : IsFam n F := by
  obtain ⟨r, τ, hr, p, rfl⟩ := all_cert h2 h5 h
  exact (repFam h2 h5 hr).toPre.named p
theorem all_grown (h5 : n ≤ 5) (g : Grown n G) (p : IsPerm n σ) : named G σ ∈ allN n := by
  have h2 := g.pre.two
  have h := memF_iff.mp (List.all_eq_true.mp (okG h2 h5) G ((mem_grownL h2).mpr g))
  obtain ⟨r, τ, hr, q, e⟩ := all_cert h2 h5 h
  rw [← named_sort g.pre p, e, named_named (repFam h2 h5 hr).toPre q]
  exact all_img h2 h5 hr (q.mul p)
/-! ### the renamings that keep a family -/
def keepers (n : Nat) (F : Fam) : List (List Nat) := (ords n).filter fun σ => decide (named F σ = F)
def cj (n : Nat) (τ σ : List Nat) : List Nat := mulP (mulP τ σ) (invP n τ)
theorem cj_perm (p : IsPerm n τ) (q : IsPerm n σ) : IsPerm n (cj n τ σ) := (p.mul q).mul p.inv
theorem cj_get (p : IsPerm n τ) (q : IsPerm n σ) {b : Nat} (hb : b < n) : τ.getD ((cj n τ σ).getD b 0) 0 = σ.getD (τ.getD b 0) 0 := by
  unfold cj
  rw [mulP_get (p.mul q) hb, mulP_get p hb, inv_get p (q.lt (p.lt hb))]
  exact (idx_getD p (q.lt (p.lt hb))).1
theorem cj_inj (p : IsPerm n τ) {σ' : List Nat} (q : IsPerm n σ) (q' : IsPerm n σ') (e : cj n τ σ = cj n τ σ') : σ = σ' := by
  refine perm_ext q q' fun b hb => ?_
  obtain ⟨h1, h2⟩ := idx_getD p hb
  have e1 := cj_get p q h2
  have e2 := cj_get p q' h2
  rw [h1] at e1 e2
  rw [← e1, ← e2, e]
theorem cj_keep (I : IsFam n r) (p : IsPerm n τ) (q : IsPerm n σ) : named (named r τ) σ = named r τ ↔ named r (cj n τ σ) = r := by
  rw [named_named I.toPre p]
  constructor
  · intro e
    have e2 := congrArg (fun F => named F (invP n τ)) e
    rw [named_named I.toPre (p.mul q), named_named I.toPre p, mul_inv p, named_id_fam I] at e2
    exact e2
  · intro e
    have e2 := congrArg (fun F => named F τ) e
    rw [named_named I.toPre (cj_perm p q)] at e2
    have e3 : mulP (cj n τ σ) τ = mulP τ σ := by
      unfold cj
      rw [mul_assoc (p.mul q) p.inv p, inv_mul p, mul_one (p.mul q)]
    rw [e3] at e2
    exact e2
theorem ndL_iff : ∀ {l : List (List Nat)}, ndL l = true → l.Nodup
  | [], _ => List.nodup_nil
  | a :: l, h => by
    rw [ndL, Bool.and_eq_true] at h
    refine List.nodup_cons.mpr ⟨fun m => ?_, ndL_iff h.2⟩
    have := List.all_eq_true.mp h.1 a m
    rw [eqL_iff.mpr rfl] at this
    cases this
theorem cj_all (h2 : 2 ≤ n) (h5 : n ≤ 5) (p : IsPerm n τ) : ((ords n).map (cj n τ)).Perm (ords n) := by
  have nd := ndL_iff (okNd h2 h5)
  refine perm_of_nodup_len _ _ (nodup_map_on nd fun x hx y hy e => cj_inj p (mem_ords.mp hx) (mem_ords.mp hy) e) (fun x hx => ?_) (by rw [List.length_map]; exact Nat.le_refl _)
  obtain ⟨σ, hσ, rfl⟩ := List.mem_map.mp hx
  exact mem_ords.mpr (cj_perm p (mem_ords.mp hσ))
theorem keepers_len (h2 : 2 ≤ n) (h5 : n ≤ 5) (h : F ∈ allN n) : (keepers n F).length = (shapeOf n F).2 := by
  obtain ⟨r, τ, hr, p, rfl⟩ := all_cert h2 h5 h
  have I := repFam h2 h5 hr
  rw [shape_named I.toPre p]
  have c := Nat.eq_of_beq_eq_true (List.all_eq_true.mp (okStab h2 h5) r hr)
  rw [← c]
  have e1 : keepers n (named r τ) = (ords n).filter fun σ => eqF (named r (cj n τ σ)) r := by
    refine List.filter_congr fun σ hσ => ?_
    have k := cj_keep I p (mem_ords.mp hσ)
    by_cases e : named (named r τ) σ = named r τ
    · rw [decide_eq_true e, eqF_iff.mpr (k.mp e)]
    · rw [decide_eq_false e]
      cases q : eqF (named r (cj n τ σ)) r with
      | false => rfl
      | true => exact absurd (k.mpr (eqF_iff.mp q)) e
  rw [e1]
  have e2 : ((ords n).filter fun σ => eqF (named r (cj n τ σ)) r).length = (((ords n).map (cj n τ)).filter fun κ => eqF (named r κ) r).length := by
    rw [List.filter_map, List.length_map]
    rfl
  rw [e2]
  exact ((cj_all h2 h5 p).filter _).length_eq
theorem count_keepers : ((ords n).map (named F)).count F = (keepers n F).length := by
  unfold keepers
  rw [List.count_eq_length_filter, List.filter_map, List.length_map]
  congr 1
  refine List.filter_congr fun σ _ => ?_
  show (named F σ == F) = decide (named F σ = F)
  by_cases e : named F σ = F
  · rw [e]
    simp
  · rw [decide_eq_false e]
    exact beq_eq_false_iff_ne.mpr e
/-! ### all that it may be named to -/
theorem mem_every (I : IsFam n r) (p : IsPerm n τ) (X : Fam) : X ∈ (ords n).map (named (named r τ)) ↔ X ∈ (ords n).map (named r) := by
  rw [List.mem_map, List.mem_map]
  constructor
  · rintro ⟨σ, hσ, rfl⟩
    exact ⟨mulP τ σ, mem_ords.mpr (p.mul (mem_ords.mp hσ)), (named_named I.toPre p).symm⟩
  · rintro ⟨ρ, hρ, rfl⟩
    have q := mem_ords.mp hρ
    refine ⟨mulP (invP n τ) ρ, mem_ords.mpr (p.inv.mul q), ?_⟩
    rw [named_named I.toPre p, ← mul_assoc p p.inv q, mul_inv p, one_mul q]
theorem uniqFA_eq : ∀ (l acc : List Fam), uniqFA acc l = uniqA acc l
  | [], _ => rfl
  | F :: l, acc => by
    rw [uniqFA, uniqA]
    by_cases m : F ∈ acc
    · rw [if_pos m, if_pos (memF_iff.mpr m)]
      exact uniqFA_eq l _
    · rw [if_neg m, if_neg (fun q => m (memF_iff.mp q))]
      exact uniqFA_eq l _
theorem every_len (h2 : 2 ≤ n) (h5 : n ≤ 5) (h : F ∈ allN n) : (uniq ((ords n).map (named F))).length = fact n / (shapeOf n F).2 ∧ fact n / (shapeOf n F).2 ≤ 60 := by
  obtain ⟨r, τ, hr, p, rfl⟩ := all_cert h2 h5 h
  have I := repFam h2 h5 hr
  rw [shape_named I.toPre p]
  have c := List.all_eq_true.mp (okDist h2 h5) r hr
  rw [Bool.and_eq_true] at c
  have c1 := Nat.eq_of_beq_eq_true c.1
  rw [uniqFA_eq] at c1
  refine ⟨?_, Nat.ble_eq.mp c.2⟩
  rw [← c1]
  exact uniq_length_congr fun X => mem_every I p X
theorem shape_iff (h2 : 2 ≤ n) (h5 : n ≤ 5) (h : F ∈ allN n) (h' : G ∈ allN n) : (shapeOf n F).1 = (shapeOf n G).1 ↔ G ∈ (ords n).map (named F) := by
  obtain ⟨r, τ, hr, p, rfl⟩ := all_cert h2 h5 h
  obtain ⟨r', τ', hr', p', rfl⟩ := all_cert h2 h5 h'
  have I := repFam h2 h5 hr
  have I' := repFam h2 h5 hr'
  rw [mem_every I p, shape_named I.toPre p, shape_named I'.toPre p']
  constructor
  · intro e
    obtain ⟨i, hi, ei⟩ := List.getElem_of_mem hr
    obtain ⟨j, hj, ej⟩ := List.getElem_of_mem hr'
    have c := List.all_eq_true.mp (List.all_eq_true.mp (okText h2 h5) i (List.mem_range.mpr hi)) j (List.mem_range.mpr hj)
    rw [List.getD_eq_getElem?_getD, List.getElem?_eq_getElem hi, List.getD_eq_getElem?_getD, List.getElem?_eq_getElem hj] at c
    simp only [Option.getD_some] at c
    rw [ei, ej, e, eqL_iff.mpr rfl] at c
    have hij : i = j := by
      cases q : Nat.beq i j with
      | true => exact Nat.eq_of_beq_eq_true q
      | false => rw [q] at c; cases c
    subst hij
    rw [ei] at ej
    subst ej
    exact List.mem_map.mpr ⟨τ', mem_ords.mpr p', rfl⟩
  · intro e
    obtain ⟨ρ, hρ, e⟩ := List.mem_map.mp e
    rw [← shape_named I.toPre (mem_ords.mp hρ), e, shape_named I'.toPre p']
/-! ### kinds -/
def grp (n : Nat) (F : Fam) (b : Nat) : List Nat := sortN (uniq ((keepers n F).map fun σ => σ.getD b 0))
def cls (n : Nat) (F : Fam) (b : Nat) : List Nat := (List.range n).filter fun c => decide (beadText n F c = beadText n F b)
theorem grp_cls (h2 : 2 ≤ n) (h5 : n ≤ 5) (h : F ∈ allN n) {b : Nat} (hb : b < n) : grp n F b = cls n F b := by
  obtain ⟨r, τ, hr, p, rfl⟩ := all_cert h2 h5 h
  have I := repFam h2 h5 hr
  unfold grp cls
  have s1 : (sortN (uniq ((keepers n (named r τ)).map fun σ => σ.getD b 0))).Pairwise (· < ·) := lt_of_le_nodup (sortN_sorted _) ((sortN_perm _).nodup_iff.mpr (nodup_uniq _))
  have s2 : ((List.range n).filter fun c => decide (beadText n (named r τ) c = beadText n (named r τ) b)).Pairwise (· < ·) := List.pairwise_lt_range.filter _
  refine sorted_lt_ext s1 s2 fun x => ?_
  rw [(sortN_perm _).mem_iff, mem_uniq, List.mem_map, List.mem_filter, List.mem_range, decide_eq_true_eq]
  obtain ⟨hb1, hb2⟩ := idx_getD p hb
  have c := eqL_iff.mp (List.all_eq_true.mp (List.all_eq_true.mp (okOrb h2 h5) r hr) (τ.idxOf b) (List.mem_range.mpr hb2))
  have tb : beadText n (named r τ) b = beadText n r (τ.idxOf b) := by
    have := beadText_named I.toPre p hb2
    rw [hb1] at this
    exact this
  have mem_stab : ∀ {y : Nat}, (∃ κ, IsPerm n κ ∧ named r κ = r ∧ κ.getD (τ.idxOf b) 0 = y) ↔ y < n ∧ beadText n r y = beadText n r (τ.idxOf b) := fun {y} => by
    have hy : y ∈ sortN (uniq ((stab n r).map fun κ => κ.getD (τ.idxOf b) 0)) ↔ ∃ κ, IsPerm n κ ∧ named r κ = r ∧ κ.getD (τ.idxOf b) 0 = y := by
      rw [(sortN_perm _).mem_iff, mem_uniq, List.mem_map]
      unfold stab
      constructor
      · rintro ⟨κ, hκ, e⟩
        obtain ⟨k1, k2⟩ := List.mem_filter.mp hκ
        exact ⟨κ, mem_ords.mp k1, eqF_iff.mp k2, e⟩
      · rintro ⟨κ, k1, k2, e⟩
        exact ⟨κ, List.mem_filter.mpr ⟨mem_ords.mpr k1, eqF_iff.mpr k2⟩, e⟩
    rw [← hy, c, List.mem_filter, List.mem_range, eqL_iff]
  constructor
  · rintro ⟨σ, hσ, rfl⟩
    obtain ⟨k1, k2⟩ := List.mem_filter.mp hσ
    have q := mem_ords.mp k1
    have k3 := (cj_keep I p q).mp (of_decide_eq_true k2)
    have e1 := cj_get p q hb2
    rw [hb1] at e1
    have pc := cj_perm p q
    obtain ⟨y1, y2⟩ := mem_stab.mp ⟨cj n τ σ, pc, k3, rfl⟩
    refine ⟨q.lt hb, ?_⟩
    rw [tb, ← e1, beadText_named I.toPre p y1, y2]
  · rintro ⟨hx, e⟩
    obtain ⟨hx1, hx2⟩ := idx_getD p hx
    have tx : beadText n (named r τ) x = beadText n r (τ.idxOf x) := by
      have := beadText_named I.toPre p hx2
      rw [hx1] at this
      exact this
    obtain ⟨κ, k1, k2, k3⟩ := mem_stab.mpr ⟨hx2, by rw [← tx, e, tb]⟩
    -- back: σ = inverse, κ, forth
    have q : IsPerm n (mulP (mulP (invP n τ) κ) τ) := (p.inv.mul k1).mul p
    refine ⟨mulP (mulP (invP n τ) κ) τ, List.mem_filter.mpr ⟨mem_ords.mpr q, decide_eq_true ?_⟩, ?_⟩
    · rw [named_named I.toPre p, mul_assoc p.inv k1 p, ← mul_assoc p p.inv (k1.mul p), mul_inv p, one_mul (k1.mul p), ← named_named I.toPre k1, k2]
    · rw [mulP_get (p.inv.mul k1) hb, mulP_get p.inv hb, inv_get p hb, k3, hx1]
theorem kinds_eq (h2 : 2 ≤ n) (h5 : n ≤ 5) (h : F ∈ allN n) : kindsOf n F = sortL (uniq ((List.range n).map (grp n F))) := by
  have e1 : (List.range n).map (grp n F) = (List.range n).map (cls n F) := List.map_congr_left fun b hb => grp_cls h2 h5 h (List.mem_range.mp hb)
  rw [e1]
  unfold kindsOf
  refine sortL_congr ?_
  refine (List.perm_ext_iff_of_nodup ?_ (nodup_uniq _)).mpr fun x => ?_
  · refine nodup_map_on (nodup_uniq _) fun t ht u hu e => ?_
    obtain ⟨b, hb, rfl⟩ := List.mem_map.mp (mem_uniq.mp ht)
    have : b ∈ (List.range n).filter fun c => decide (beadText n F c = beadText n F b) := List.mem_filter.mpr ⟨hb, by simp⟩
    rw [e] at this
    exact of_decide_eq_true (List.mem_filter.mp this).2
  · rw [mem_uniq, List.mem_map, List.mem_map]
    constructor
    · rintro ⟨t, ht, rfl⟩
      obtain ⟨b, hb, rfl⟩ := List.mem_map.mp (mem_uniq.mp ht)
      exact ⟨b, hb, rfl⟩
    · rintro ⟨b, hb, rfl⟩
      exact ⟨beadText n F b, mem_uniq.mpr (List.mem_map.mpr ⟨b, hb, rfl⟩), rfl⟩
end
end Sb

/-! MN: pours and parts stay among them. -/
namespace Sb
theorem all_pour {n : Nat} {F : Fam} (h2 : 2 ≤ n) (h5 : n ≤ 5) (h : F ∈ allN n) {p : Nat × Nat} (hp : p ∈ poursOf F) : pourF F p.1 p.2 ∈ allN n :=
  memF_iff.mp (List.all_eq_true.mp (List.all_eq_true.mp (okPour h2 h5) F h) p hp)
theorem all_part {n : Nat} {F : Fam} (h2 : 2 ≤ n) (h5 : n ≤ 5) (h : F ∈ allN n) {a c : Nat} {m : List Nat} (ha : a < F.length) (hl : 2 < (bagAt F a).length) (hm : m.Perm (bagAt F a)) (hc : 2 ≤ c) (hc2 : c < m.length) : partF F a m c ∈ allN n := by
  have k := List.all_eq_true.mp (List.all_eq_true.mp (okPart h2 h5) F h) a (List.mem_range.mpr ha)
  rw [if_pos (by unfold Nat.blt; rw [Nat.ble_eq]; exact hl)] at k
  have k2 := List.all_eq_true.mp (List.all_eq_true.mp k m (mem_orders.mpr hm)) c (List.mem_range.mpr (by rw [← hm.length_eq]; exact hc2))
  rw [if_pos (Nat.ble_eq.mpr hc)] at k2
  exact memF_iff.mp k2
end Sb

/-! R1: values as data of numbers; sorting. -/
namespace Sb
open PySem L2

/-! ### values -/
def iv (l : List Nat) : List V := l.map fun n : Nat => V.int (n : Int)
def S (t : List Nat) : Str := ⟨t.toArray⟩
def sv (ts : List (List Nat)) : List V := ts.map fun t => V.str (S t)
def TupN (H : Hp) (v : V) (l : List Nat) : Prop := ∃ a, v = .ref a ∧ H a = some (.tup (iv l))
def LstN (H : Hp) (v : V) (l : List Nat) : Prop := ∃ a, v = .ref a ∧ H a = some (.lst (iv l))
def FamT (H : Hp) (v : V) (F : Fam) : Prop := ∃ a vs, v = .ref a ∧ H a = some (.tup vs) ∧ Paired (TupN H) vs F
theorem iv_length (l : List Nat) : (iv l).length = l.length := by
  unfold iv
  exact List.length_map _
theorem iv_append (l l' : List Nat) : iv (l ++ l') = iv l ++ iv l' := by
  unfold iv
  exact List.map_append
theorem iv_get {l : List Nat} {i x : Nat} (h : l[i]? = some x) : (iv l)[i]? = some (V.int (x : Int)) := by
  unfold iv
  rw [List.getElem?_map, h]
  rfl
theorem of_iv_get {l : List Nat} {i : Nat} {v : V} (h : (iv l)[i]? = some v) : ∃ x, l[i]? = some x ∧ v = V.int (x : Int) := by
  unfold iv at h
  rw [List.getElem?_map] at h
  cases e : l[i]? with
  | none => rw [e] at h; cases h
  | some x => rw [e] at h; exact ⟨x, rfl, (Option.some.inj h).symm⟩
theorem iv_int (l : List Nat) : iv l = (l.map fun n : Nat => (n : Int)).map V.int := by
  unfold iv
  rw [List.map_map]
  rfl
theorem TupN.mono {H H' : Hp} (e : Same H H') {v : V} {l : List Nat} (h : TupN H v l) : TupN H' v l := let ⟨a, e1, e2⟩ := h; ⟨a, e1, e a _ e2⟩
theorem LstN.mono {H H' : Hp} (e : Same H H') {v : V} {l : List Nat} (h : LstN H v l) : LstN H' v l := let ⟨a, e1, e2⟩ := h; ⟨a, e1, e a _ e2⟩
theorem pmono {α β : Type} {R R' : α → β → Prop} (f : ∀ a b, R a b → R' a b) {l : List α} {l' : List β} (h : Paired R l l') : Paired R' l l' := Paired.mapP h f
theorem FamT.mono {H H' : Hp} (e : Same H H') {v : V} {F : Fam} (h : FamT H v F) : FamT H' v F := let ⟨a, vs, e1, e2, p⟩ := h; ⟨a, vs, e1, e a _ e2, pmono (fun _ _ q => q.mono e) p⟩
theorem plen {α β : Type} {R : α → β → Prop} {l : List α} {l' : List β} (h : Paired R l l') : l.length = l'.length := Paired.length h
theorem pget {α β : Type} {R : α → β → Prop} {l : List α} {l' : List β} (h : Paired R l l') : ∀ {i : Nat} {a : α}, l[i]? = some a → ∃ b, l'[i]? = some b ∧ R a b := fun {i a} e => L2.paired_get h e
theorem pget' {α β : Type} {R : α → β → Prop} {l : List α} {l' : List β} (h : Paired R l l') : ∀ {i : Nat} {b : β}, l'[i]? = some b → ∃ a, l[i]? = some a ∧ R a b := by
  induction h with
  | nil => intro i b e; simp at e
  | cons r t ih =>
    intro i b e
    cases i with
    | zero => simp at e; subst e; exact ⟨_, rfl, r⟩
    | succ i => simp at e; obtain ⟨a, h1, h2⟩ := ih e; exact ⟨a, by simpa using h1, h2⟩
theorem Same.new {H : Hp} {p : Addr} (h : H p = none) (o : HO) : Same H (upd H p o) := fun b u q => by rw [upd_ne (ne_of_none q h)]; exact q
theorem ptake {α β : Type} {R : α → β → Prop} {l : List α} {l' : List β} (h : Paired R l l') : ∀ n, Paired R (l.take n) (l'.take n) := by
  induction h with
  | nil => intro n; rw [List.take_nil, List.take_nil]; exact .nil
  | cons r t ih =>
    intro n
    cases n with
    | zero => exact .nil
    | succ n => exact .cons r (ih n)
theorem pdrop {α β : Type} {R : α → β → Prop} {l : List α} {l' : List β} (h : Paired R l l') : ∀ n, Paired R (l.drop n) (l'.drop n) := by
  induction h with
  | nil => intro n; rw [List.drop_nil, List.drop_nil]; exact .nil
  | cons r t ih =>
    intro n
    cases n with
    | zero => exact .cons r t
    | succ n => exact ih n
theorem pappend {α β : Type} {R : α → β → Prop} {l m : List α} {l' m' : List β} (h : Paired R l l') (h' : Paired R m m') : Paired R (l ++ m) (l' ++ m') := by
  induction h with
  | nil => exact h'
  | cons r t ih => exact .cons r ih

/-! ### as data -/
def dI (n : Nat) : PyData := .int (n : Int)
def dT (l : List Nat) : PyData := .tuple (l.map dI)
def dF (F : Fam) : PyData := .tuple (F.map dT)
def dS (t : List Nat) : PyData := .str (S t)
theorem dpAll_iv {K : PySem.W.Frag} {H : Hp} : ∀ l : List Nat, DpAll K H (iv l) (l.map dI)
  | [] => .nil
  | n :: l => .cons (.int _) (dpAll_iv l)
theorem TupN.dp {K : PySem.W.Frag} {H : Hp} {v : V} {l : List Nat} (h : TupN H v l) : Dp K H v (dT l) := by
  obtain ⟨a, rfl, e⟩ := h
  exact .tup (SqT.of e) (dpAll_iv l)
theorem dpAll_of {K : PySem.W.Frag} {H : Hp} {β : Type} {R : V → β → Prop} {enc : β → PyData} (f : ∀ v b, R v b → Dp K H v (enc b)) {vs : List V} {bs : List β} (h : Paired R vs bs) : DpAll K H vs (bs.map enc) := by
  induction h with
  | nil => exact .nil
  | cons r t ih => exact .cons (f _ _ r) ih
theorem FamT.dp {K : PySem.W.Frag} {H : Hp} {v : V} {F : Fam} (h : FamT H v F) : Dp K H v (dF F) := by
  obtain ⟨a, vs, rfl, e, p⟩ := h
  exact .tup (SqT.of e) (dpAll_of (fun _ _ q => TupN.dp q) p)
theorem eqv_I (a b : Nat) : PyData.eqv (dI a) (dI b) = decide (a = b) := by
  show ((a : Int) == (b : Int)) = _
  by_cases h : a = b
  · subst h; simp
  · rw [decide_eq_false h]
    exact beq_eq_false_iff_ne.mpr (by omega)
theorem eqvAll_map {β : Type} [DecidableEq β] {enc : β → PyData} (h : ∀ a b, PyData.eqv (enc a) (enc b) = decide (a = b)) : ∀ l l' : List β, PyData.eqvAll (l.map enc) (l'.map enc) = decide (l = l')
  | [], [] => by simp [PyData.eqvAll]
  | [], _ :: _ => by simp [PyData.eqvAll]
  | _ :: _, [] => by simp [PyData.eqvAll]
  | a :: l, b :: l' => by
    rw [List.map_cons, List.map_cons, PyData.eqvAll, h, eqvAll_map h l l']
    by_cases e1 : a = b <;> by_cases e2 : l = l' <;> simp [e1, e2]
theorem eqv_tuple (xs ys : List PyData) : PyData.eqv (.tuple xs) (.tuple ys) = PyData.eqvAll xs ys := by simp only [PyData.eqv]
theorem eqv_list (xs ys : List PyData) : PyData.eqv (.list xs) (.list ys) = PyData.eqvAll xs ys := by simp only [PyData.eqv]
theorem eqv_T (a b : List Nat) : PyData.eqv (dT a) (dT b) = decide (a = b) := by
  unfold dT
  rw [eqv_tuple, eqvAll_map eqv_I]
theorem eqv_F (a b : Fam) : PyData.eqv (dF a) (dF b) = decide (a = b) := by
  unfold dF
  rw [eqv_tuple, eqvAll_map eqv_T]
theorem layAll_map {β : Type} {enc : β → PyData} (h : ∀ a, (enc a).canLay0 = true) : ∀ l : List β, PyData.canLayAll0 (l.map enc) = true
  | [] => by simp [PyData.canLayAll0]
  | a :: l => by rw [List.map_cons, PyData.canLayAll0, h, layAll_map h l]; rfl
theorem depthAll_map {β : Type} {enc : β → PyData} {n : Nat} (h : ∀ a, (enc a).depth ≤ n) : ∀ l : List β, PyData.depthAll (l.map enc) ≤ n
  | [] => by simp [PyData.depthAll]
  | a :: l => by
    have h1 := h a
    have h2 := depthAll_map h l
    rw [List.map_cons, PyData.depthAll]
    omega
theorem lay_T (a : List Nat) : (dT a).canLay0 = true := by
  unfold dT
  rw [PyData.canLay0]
  exact layAll_map (fun _ => by simp [dI, PyData.canLay0]) a
theorem lay_F (a : Fam) : (dF a).canLay0 = true := by
  unfold dF
  rw [PyData.canLay0]
  exact layAll_map lay_T a
theorem depth_T (a : List Nat) : (dT a).depth ≤ 1 := by
  unfold dT
  rw [PyData.depth]
  have := depthAll_map (enc := dI) (n := 0) (fun _ => by simp [dI, PyData.depth]) a
  omega
theorem depth_F (a : Fam) : (dF a).depth ≤ 2 := by
  unfold dF
  rw [PyData.depth]
  have := depthAll_map depth_T a
  omega
theorem shaped_of {d : PyData} {n : Nat} (h1 : d.canLay0 = true) (h2 : d.depth ≤ n) (h3 : n ≤ 64) : SeqAt.shaped d = true := by
  show (d.canLay0 && decide (d.depth ≤ 64)) = true
  rw [Bool.and_eq_true]
  exact ⟨h1, decide_eq_true (by omega)⟩
theorem shaped_T (a : List Nat) : SeqAt.shaped (dT a) = true := shaped_of (lay_T a) (depth_T a) (by decide)
theorem shaped_F (a : Fam) : SeqAt.shaped (dF a) = true := shaped_of (lay_F a) (depth_F a) (by decide)
theorem shaped_L {β : Type} {enc : β → PyData} {n : Nat} (h1 : ∀ a, (enc a).canLay0 = true) (h2 : ∀ a, (enc a).depth ≤ n) (h3 : n ≤ 63) (l : List β) : SeqAt.shaped (.list (l.map enc)) = true := by
  refine shaped_of (n := n + 1) ?_ ?_ (by omega)
  · rw [PyData.canLay0]
    exact layAll_map h1 l
  · rw [PyData.depth]
    have := depthAll_map h2 l
    omega

/-! ### the order of data -/
theorem alike_T (a b : List Nat) : PySem.W.alike (dT a) (dT b) = true := by
  unfold dT
  have key : ∀ xs ys : List Nat, PySem.W.alikeAll (xs.map dI) (ys.map dI) = true := by
    intro xs
    induction xs with
    | nil => intro ys; simp [PySem.W.alikeAll]
    | cons x xs ih =>
      intro ys
      cases ys with
      | nil => simp [PySem.W.alikeAll]
      | cons y ys => rw [List.map_cons, List.map_cons, PySem.W.alikeAll, ih]; simp [dI, PySem.W.alike]
  rw [PySem.W.alike]
  exact key a b
theorem alike_S (a b : List Nat) : PySem.W.alike (dS a) (dS b) = true := by simp [dS, PySem.W.alike]
theorem lt_ints : ∀ a b : List Nat, decide ((a.map fun n : Nat => (n : Int)) < b.map fun n : Nat => (n : Int)) = lexLt a b
  | _, [] => by
    rw [List.map_nil]
    simp [lexLt, List.not_lt_nil]
  | [], y :: ys => by
    rw [List.map_nil, List.map_cons]
    simp [lexLt]
  | x :: xs, y :: ys => by
    have ih := lt_ints xs ys
    rw [List.map_cons, List.map_cons]
    show _ = if Nat.beq x y then lexLt xs ys else Nat.blt x y
    by_cases e : x = y
    · subst e
      rw [if_pos (Nat.beq_refl x), ← ih]
      simp [List.cons_lt_cons_iff]
    · rw [if_neg (fun h => e (Nat.eq_of_beq_eq_true h))]
      have e1 : (x : Int) ≠ (y : Int) := by omega
      by_cases h : x < y
      · have : Nat.blt x y = true := by unfold Nat.blt; rw [Nat.ble_eq]; exact h
        rw [this]
        simp [List.cons_lt_cons_iff]
        omega
      · have : Nat.blt x y = false := by
          cases q : Nat.blt x y
          · rfl
          · unfold Nat.blt at q
            rw [Nat.ble_eq] at q
            exact absurd q h
        rw [this]
        simp [List.cons_lt_cons_iff]
        omega
theorem dataLe_T : PySem.W.dataLe false dT = lexLe := by
  funext a b
  rw [PySem.W.dataLe_eq]
  show (!PySem.W.dataLt (dT b) (dT a)) = !lexLt b a
  congr 1
  unfold dT
  rw [PySem.W.dataLt_tuple]
  have e : ∀ l : List Nat, l.map dI = (l.map fun n : Nat => (n : Int)).map PyData.int := fun l => by
    rw [List.map_map]
    rfl
  rw [e, e]
  have q := PySem.W.dataLt_ints (b.map fun n : Nat => (n : Int)) (a.map fun n : Nat => (n : Int))
  unfold PySem.W.rowLt at q
  rw [q]
  exact lt_ints b a
theorem lt_nats : ∀ a b : List Nat, decide (a < b) = lexLt a b
  | _, [] => by simp [lexLt, List.not_lt_nil]
  | [], y :: ys => by simp [lexLt]
  | x :: xs, y :: ys => by
    have ih := lt_nats xs ys
    show _ = if Nat.beq x y then lexLt xs ys else Nat.blt x y
    by_cases e : x = y
    · subst e
      rw [if_pos (Nat.beq_refl x), ← ih]
      simp [List.cons_lt_cons_iff]
    · rw [if_neg (fun h => e (Nat.eq_of_beq_eq_true h))]
      by_cases h : x < y
      · have : Nat.blt x y = true := by unfold Nat.blt; rw [Nat.ble_eq]; exact h
        rw [this]
        simp [List.cons_lt_cons_iff]
        omega
      · have : Nat.blt x y = false := by
          cases q : Nat.blt x y
          · rfl
          · unfold Nat.blt at q
            rw [Nat.ble_eq] at q
            exact absurd q h
        rw [this]
        simp [List.cons_lt_cons_iff]
        omega
theorem dataLe_S : PySem.W.dataLe false dS = lexLe := by
  funext a b
  rw [PySem.W.dataLe_eq]
  show (!PySem.W.dataLt (dS b) (dS a)) = !lexLt b a
  congr 1
  unfold dS
  rw [PySem.W.dataLt_str]
  show decide (b.toArray.toList < a.toArray.toList) = _
  rw [List.toList_toArray, List.toList_toArray]
  exact lt_nats b a
theorem mergeSort_eq (l : List (List Nat)) : l.mergeSort lexLe = sortL l := by
  refine (sortL_eq (List.mergeSort_perm l lexLe).symm ?_).symm
  exact List.pairwise_mergeSort (fun a b c => ordL.trans a b c) (fun a b => by
    rcases ordL.tot a b with h | h
    · rw [h]; rfl
    · rw [h, Bool.or_true]) l

/-! ### sorted(xs), xs data -/
theorem CallR.imp {X : Cx} {f : Value} {r r' : List V → Hp → VK → Prop} (h : CallR X f r) (i : ∀ vs H Q, r' vs H Q → r vs H Q) : CallR X f r' :=
  fun pins s σ H xs us Q I rs q => h pins s σ H xs us Q I rs (i _ _ _ q)
theorem each_of_paired {α β : Type} {R : α → β → Prop} : ∀ {l : List α} {l' : List β}, Paired R l l' → PySem.W.EachIs R l l'
  | _, _, .nil => .nil
  | _, _, .cons r t => .cons r (each_of_paired t)
theorem each_dp {X : Cx} {pins : List (Addr × Obj)} {σ : L2.St} {H : Hp} {s : Shared} (I : Inv X pins σ H s) {β : Type} {enc : β → PyData} {R : V → β → Prop} (f : ∀ x b, R x b → Dp X.K H x (enc b)) : ∀ {bs : List β} {xs : List V} {us : List Value}, Paired R xs bs → Vals xs us →
    PySem.W.EachIs (fun v b => (∃ x, RelV x v ∧ R x b) ∧ ∃ as, Reads s.heap v (enc b) as) us bs
  | _, _, _, .nil, r => by
    cases r
    exact .nil
  | _, _, _, .cons h1 h2, r => by
    cases r with
    | cons r1 r2 => exact .cons ⟨⟨_, r1, h1⟩, Dp.reads I _ _ _ (f _ _ h1) r1⟩ (each_dp I f h2 r2)
theorem each_mono {α β : Type} {R R' : α → β → Prop} (f : ∀ a b, R a b → R' a b) : ∀ {l : List α} {l' : List β}, PySem.W.EachIs R l l' → PySem.W.EachIs R' l l'
  | _, _, .nil => .nil
  | _, _, .cons r t => .cons (f _ _ r) (each_mono f t)
theorem each_back {β : Type} {R : V → β → Prop} : ∀ {us : List Value} {bs : List β}, PySem.W.EachIs (fun v b => ∃ x, RelV x v ∧ R x b) us bs → ∃ xs, Vals xs us ∧ Paired R xs bs
  | _, _, .nil => ⟨[], .nil, .nil⟩
  | _, _, .cons ⟨x, r, d⟩ t => by
    obtain ⟨xs, h1, h2⟩ := each_back t
    exact ⟨x :: xs, .cons r h1, .cons d h2⟩
def rSortD (K : PySem.W.Frag) {β : Type} (enc : β → PyData) (n : Nat) : List V → Hp → VK → Prop := fun vs H Q => ∃ (R : V → β → Prop) (a : Addr) (xs : List V) (bs : List β), (∀ x b, R x b → Dp K H x (enc b)) ∧ vs = [V.ref a] ∧ SqL K H a xs ∧ Paired R xs bs ∧ PySem.W.AllAlike (bs.map enc) ∧
  PySem.W.Sortable (bs.map enc) ∧ bs.length ≤ 10000 ∧ (∀ b ∈ bs, (enc b).depth ≤ n) ∧ ∀ ys p, Paired R ys (bs.mergeSort (PySem.W.dataLe false enc)) → H p = none → Q (.ref p) (upd H p (.lst ys))
theorem cr_sortD {X : Cx} {β : Type} {enc : β → PyData} {n : Nat} (hu : X.A.units + 2 + n < cLine) : CallR X (.builtin "sorted") (rSortD X.K enc n) := by
  intro pins s σ H vs us Q I r h
  obtain ⟨R, a, xs, bs, f, rfl, hs, hd, hal, hk, hl, hdep, q⟩ := h
  obtain ⟨its, rv, pl, _⟩ := I.list hs
  rw [Vals.ref1 r]
  have e := each_dp I f hd rv
  refine PySem.W.sorted_data (enc := enc) (R := fun v b => ∃ x, RelV x v ∧ R x b) pl.isList (each_mono (fun _ _ z => z.1) e) (each_mono (fun _ _ z => z.2) e) hal hk (by rw [sizeLine_eq]; omega) (fun b hb => by have := hdep b hb; omega) fun out ho eo => ?_
  obtain ⟨ys, h1, h2⟩ := each_back eo
  obtain ⟨ep, he'⟩ := PyProof.Rows.sortedAll_at s.heap its out.toArray
  have hy : ys.length = bs.length := by rw [h1.length]; exact ho
  have hlen : ys.length ≤ sizeLine := by rw [sizeLine_eq]; omega
  exact ⟨.ref _, upd H (s.heap.objs.size + 1) (.lst ys), I.laid (t' := s.toks) (fun _ _ => PyProof.Rows.sortedAll_old) (Nat.le_succ _) ⟨hlen, out, ep, h1, he'⟩, rfl, q ys _ h2 (I.hok.fresh (Nat.le_succ _))⟩
/-- texts -/
def rSortS (K : PySem.W.Frag) : List V → Hp → VK → Prop := fun vs H Q => ∃ (a : Addr) (ts : List (List Nat)), vs = [V.ref a] ∧ SqL K H a (sv ts) ∧ ts.length ≤ 10000 ∧ ∀ p, H p = none → Q (.ref p) (upd H p (.lst (sv (sortL ts))))
theorem paired_sv : ∀ ts : List (List Nat), Paired (fun x t => x = V.str (S t)) (sv ts) ts
  | [] => .nil
  | t :: ts => .cons rfl (paired_sv ts)
theorem of_paired_sv : ∀ {ys : List V} {ts : List (List Nat)}, Paired (fun x t => x = V.str (S t)) ys ts → ys = sv ts
  | _, _, .nil => rfl
  | _, _, .cons h1 h2 => by
    rw [h1, of_paired_sv h2]
    rfl
theorem cr_sortS {X : Cx} {k : Nat} (hr : Room k X.A) : CallR X (.builtin "sorted") (rSortS X.K) :=
  CallR.imp (cr_sortD (enc := dS) (n := 0) (by have := hr.units; omega)) fun vs H Q h => by
    obtain ⟨a, ts, rfl, hs, hl, q⟩ := h
    refine ⟨fun x t => x = V.str (S t), a, sv ts, ts, fun x b e => by rw [e]; exact .str _, rfl, hs, paired_sv ts, PySem.W.AllAlike.of alike_S, PySem.W.Sortable.others (fun b => ⟨fun z => (nomatch z), fun xs z => (nomatch z)⟩), hl, fun b _ => by simp [dS, PyData.depth], fun ys p hy hp => ?_⟩
    rw [dataLe_S, mergeSort_eq] at hy
    rw [of_paired_sv hy]
    exact q p hp
/-- tuples of numbers, of any lengths but 0, that stand tracked -/
def rSortT (K : PySem.W.Frag) : List V → Hp → VK → Prop := fun vs H Q => ∃ (a : Addr) (xs : List V) (F : Fam), vs = [V.ref a] ∧ SqL K H a xs ∧ Paired (TupN H) xs F ∧ (∀ b ∈ F, b ≠ []) ∧ F.length ≤ 10000 ∧
  ∀ ys p, Paired (TupN H) ys (sortL F) → H p = none → Q (.ref p) (upd H p (.lst ys))
theorem cr_sortTF {X : Cx} {k : Nat} (hr : Room k X.A) : CallR X (.builtin "sorted") (rSortT X.K) :=
  CallR.imp (cr_sortD (enc := dT) (n := 1) (by have := hr.units; omega)) fun vs H Q h => by
    obtain ⟨a, xs, F, rfl, hs, hp, hne, hl, q⟩ := h
    refine ⟨TupN H, a, xs, F, fun x b e => e.dp, rfl, hs, hp, PySem.W.AllAlike.of alike_T, .inl fun d hd => ?_, hl, fun b _ => depth_T b, fun ys p hy hp => ?_⟩
    · obtain ⟨b, hb, rfl⟩ := List.mem_map.mp hd
      cases b with
      | nil => exact absurd rfl (hne _ hb)
      | cons x r => exact ⟨_, _, rfl⟩
    · rw [dataLe_T, mergeSort_eq] at hy
      exact q ys p hy hp
/-- numbers -/
def rSortN (K : PySem.W.Frag) : List V → Hp → VK → Prop := fun vs H Q => ∃ (a : Addr) (l : List Nat), vs = [V.ref a] ∧ SqL K H a (iv l) ∧ l.length < 64 ∧ ∀ p, H p = none → Q (.ref p) (upd H p (.lst (iv (sortN l))))
theorem nats_of_perm {l : List Nat} {is : List Int} (p : is.Perm (l.map fun n : Nat => (n : Int))) : ∃ l' : List Nat, is = l'.map fun n : Nat => (n : Int) := by
  refine ⟨is.map Int.toNat, ?_⟩
  rw [List.map_map]
  refine ((List.map_congr_left (g := id) fun i hi => ?_).trans (List.map_id is)).symm
  obtain ⟨n, _, rfl⟩ := List.mem_map.mp (p.mem_iff.mp hi)
  show (((n : Int).toNat : Nat) : Int) = (n : Int)
  rw [Int.toNat_natCast]
theorem cast_inj {l l' : List Nat} (h : (l.map fun n : Nat => (n : Int)) = l'.map fun n : Nat => (n : Int)) : l = l' := by
  have q := congrArg (List.map Int.toNat) h
  rw [List.map_map, List.map_map] at q
  have e : ∀ l : List Nat, l.map (Int.toNat ∘ fun n : Nat => (n : Int)) = l := fun l => List.map_id'' (fun i => Int.toNat_natCast i) l
  rw [e, e] at q
  exact q
theorem perm_nats {l l' : List Nat} (p : (l.map fun n : Nat => (n : Int)).Perm (l'.map fun n : Nat => (n : Int))) : l.Perm l' := by
  have q := p.map Int.toNat
  rw [List.map_map, List.map_map] at q
  have e : ∀ l : List Nat, l.map (Int.toNat ∘ fun n : Nat => (n : Int)) = l := fun l => List.map_id'' (fun i => Int.toNat_natCast i) l
  rw [e, e] at q
  exact q
theorem sorted_nats {l : List Nat} {is : List Int} (p : is.Perm (l.map fun n : Nat => (n : Int))) (h : is.Pairwise (· ≤ ·)) : is = (sortN l).map fun n : Nat => (n : Int) := by
  obtain ⟨l', rfl⟩ := nats_of_perm p
  rw [sortN_eq (perm_nats p).symm ((List.pairwise_map.mp h).imp fun q => by omega)]
theorem cr_sortN {X : Cx} : CallR X (.builtin "sorted") (rSortN X.K) :=
  CallR.imp cr_sorted fun vs H Q h => by
    obtain ⟨a, l, rfl, hs, hl, q⟩ := h
    refine ⟨a, l.map fun n : Nat => (n : Int), rfl, by rw [← iv_int]; exact hs, by rw [List.length_map]; exact hl, fun is p hp hsd hn => ?_⟩
    rw [sorted_nats hp hsd, ← iv_int]
    exact q p hn
end Sb

/-! R2: comprehensions over any walk, their elements told. -/
namespace Sb
open PySem L2

/-! ### what stays when a list grows -/
theorem Same.upd_ {H0 H : Hp} (e : Same H0 H) {D : Addr} (h : H0 D = none) (o : HO) : Same H0 (upd H D o) := fun b u q => by
  rw [upd_ne (ne_of_none q h)]
  exact e b u q
theorem TupN.upd {H : Hp} {v : V} {l : List Nat} {D : Addr} {acc : List V} {o : HO} (h : TupN H v l) (hD : H D = some (.lst acc)) : TupN (upd H D o) v l := by
  obtain ⟨a, rfl, e⟩ := h
  exact ⟨a, rfl, by rw [upd_ne (ne_of e hD (by intro q; cases q))]; exact e⟩
theorem FamT.upd {H : Hp} {v : V} {F : Fam} {D : Addr} {acc : List V} {o : HO} (h : FamT H v F) (hD : H D = some (.lst acc)) : FamT (upd H D o) v F := by
  obtain ⟨a, vs, rfl, e, p⟩ := h
  exact ⟨a, vs, rfl, by rw [upd_ne (ne_of e hD (by intro q; cases q))]; exact e, pmono (fun _ _ q => q.upd hD) p⟩

/-! ### over a list or a tuple -/
def iSel (K : PySem.W.Frag) (H1 : Hp) (a : Addr) (R : It → Hp → Prop) : Prop := ((∃ xs, SqL K H1 a xs) ∧ R (Itl K a) H1) ∨ ((∃ xs, SqT K H1 a xs) ∧ R (Itt K a) H1)
def iSeq (K : PySem.W.Frag) (tl : TE) : TI := fun σ H R => tl σ H fun x H1 => ∃ a, x = .ref a ∧ iSel K H1 a R
theorem pi_seq {X : Cx} {tg l : Expr} {tl : TE} (hl : PE X l tl) : PI X tg l (iSeq X.K tl) := by
  constructor
  intro pins s σ H R I h
  refine thn (hl.run pins s σ H _ I h) ?_
  rintro v s1 ⟨x, H1, I1, r1, a, rfl, q⟩
  cases r1
  have fresh : ∀ b ∈ [s1.heap.objs.size], FpOk X pins H1 b := by
    intro b hb
    rw [List.mem_singleton.mp hb]
    exact I1.fpOk (Nat.le_refl _) (I1.hok.fresh (Nat.le_refl _))
  rcases q with ⟨⟨xs, hq⟩, q⟩ | ⟨⟨xs, hq⟩, q⟩
  · obtain ⟨its, _, p, _⟩ := I1.list hq
    refine wpAny_pyIter_list p.isList ⟨s1.heap.objs.size, [s1.heap.objs.size], _, _, H1, rfl, ?_, turn_list a _, ?_, fresh, q⟩
    · exact I1.kept (t' := s1.toks) fun b o e => Heap.get?_push_of_some _ e
    · exact ⟨_, Heap.get?_push_size _ rfl, rfl, rfl⟩
  · obtain ⟨its, _, p, _⟩ := I1.tuple hq
    have p' : s1.heap.IsTuple a its.toArray := p
    refine wpAny_pyIter_tuple p' ⟨s1.heap.objs.size, [s1.heap.objs.size], _, _, H1, rfl, ?_, turn_tuple a _, ?_, fresh, q⟩
    · exact I1.kept (t' := s1.toks) fun b o e => Heap.get?_push_of_some _ e
    · exact ⟨_, Heap.get?_push_size _ rfl, rfl, rfl⟩

/-! ### a comprehension: some turns give an element -/
theorem filterMap_range_succ {β : Type} (f : Nat → Option β) (n : Nat) : (List.range (n + 1)).filterMap f = (List.range n).filterMap f ++ (match f n with | some b => [b] | none => []) := by
  rw [List.range_succ, List.filterMap_append]
  congr 1
  cases h : f n with
  | none => rw [List.filterMap_cons_none h]; rfl
  | some b => rw [List.filterMap_cons_some h]; rfl
theorem filterMap_range_len {β : Type} (f : Nat → Option β) (n : Nat) : ((List.range n).filterMap f).length ≤ n := by
  have := List.length_filterMap_le f (List.range n)
  rw [List.length_range] at this
  exact this
theorem lc_fm {J : It} {n : Nat} {G : Hp → Prop} {Y : Nat → Hp → V → Hp → Prop} (w : Walk J n G Y) {β : Type} (R : Hp → V → β → Prop) (f : Nat → Option β) {g : TG} {tt : TT} {te : TE} {vs : List Nat} {σ : L2.St} {H1 : Hp} {D : Addr} {Qd : Hp → Prop}
    (hD : H1 D = none) (hG : ∀ H, Same H1 H → G H) (hY : ∀ i H x H', Y i H x H' → Same H H') (R1 : ∀ H H' v b, Same H H' → R H v b → R H' v b) (R2 : ∀ H v b acc acc', H D = some (.lst acc) → R H v b → R (upd H D (.lst acc')) v b) (hn : n ≤ 100000)
    (hs : ∀ i x H H' (Q1 : V → Hp → Prop) (Q0 : Hp → Prop), i < n → Same H1 H → Y i H x H' → (∀ y H4 b, f i = some b → Same H' H4 → R H4 y b → Q1 y H4) → (f i = none → ∀ H3, Same H' H3 → Q0 H3) →
      g x (wipe σ vs) H' fun σ2 H2 => wipe σ2 vs = wipe σ vs ∧ tt σ2 H2 fun b H3 => if b = true then te σ2 H3 Q1 else Q0 H3)
    (hd : ∀ H ys, Same H1 H → H D = some (.lst ys) → Paired (R H) ys ((List.range n).filterMap f) → Qd H) :
    ∃ W : Nat → Nat → Hp → Prop, (∃ m, W 0 m (upd H1 D (.lst []))) ∧ ∀ i m H, W i m H →
      (J.stop i H ∧ Qd H) ∨ (J.go i H ∧ ∃ Nx : Hp → Prop, (∀ H', Nx H' → ∃ m', m' < m ∧ W (i + 1) m' H') ∧ ∀ x H', J.yld i H x H' → g x (wipe σ vs) H' fun σ2 H2 => wipe σ2 vs = wipe σ vs ∧ tt σ2 H2 fun b H3 =>
        if b = true then te σ2 H3 fun y H4 => ∃ acc, H4 D = some (.lst acc) ∧ acc.length < sizeLine ∧ Nx (upd H4 D (.lst (acc ++ [y]))) else Nx H3) := by
  refine lc_it w (fun i H => Same H1 H ∧ ∃ ys, H D = some (.lst ys) ∧ Paired (R H) ys ((List.range i).filterMap f)) ⟨Same.new hD _, [], upd_same, .nil⟩ (fun i H _ p => hG H p.1) ?_ ?_
  · rintro i x H H' hi ⟨s, ys, hDy, hp⟩ hy
    have s' := hY _ _ _ _ hy
    refine hs i x H H' _ _ hi s hy ?_ ?_
    · intro y H4 b hb s4 r
      have hD4 : H4 D = some (.lst ys) := s4 _ _ (s' _ _ hDy)
      refine ⟨ys, hD4, ?_, Same.upd_ (s.trans (s'.trans s4)) hD _, ys ++ [y], upd_same, ?_⟩
      · rw [plen hp, sizeLine_eq]
        have := filterMap_range_len f i
        omega
      · rw [filterMap_range_succ, hb]
        refine pappend (pmono (fun v b r => R2 _ _ _ _ _ hD4 (R1 _ _ _ _ (s'.trans s4) r)) hp) (.cons (R2 _ _ _ _ _ hD4 r) .nil)
    · intro hb H3 s3
      refine ⟨s.trans (s'.trans s3), ys, s3 _ _ (s' _ _ hDy), ?_⟩
      rw [filterMap_range_succ, hb, List.append_nil]
      exact pmono (fun v b r => R1 _ _ _ _ (s'.trans s3) r) hp
  · rintro H ⟨s, ys, hDy, hp⟩
    exact hd H ys s hDy hp
/-- values that stand by themselves -/
def RV0 {β : Type} (f : β → V) : Hp → V → β → Prop := fun _ v b => v = f b
theorem rv0_list {β : Type} {f : β → V} {H : Hp} : ∀ {ys : List V} {bs : List β}, Paired (RV0 f H) ys bs → ys = bs.map f
  | _, _, .nil => rfl
  | _, _, .cons h t => by rw [h, rv0_list t]; rfl
theorem YAt.same {xs : List V} : ∀ i H x H', YAt xs i H x H' → Same H H' := fun _ _ _ _ y => by rw [y.1]; exact Same.refl _
theorem YFn.same {f : Nat → V} : ∀ i H x H', YFn f i H x H' → Same H H' := fun _ _ _ _ y => by rw [y.1]; exact Same.refl _
theorem YPair.same {xs ys : Nat → Option V} : ∀ i H x H', YPair xs ys i H x H' → Same H H' := fun _ _ _ _ y => by
  obtain ⟨T, a, b, _, hT, e, _⟩ := y
  rw [e]
  exact Same.new hT _
/-- what a sequence's walk asks -/
theorem seq_sel {K : PySem.W.Frag} {H : Hp} {a : Addr} {us : List V} (h : H a = some (.lst us) ∨ H a = some (.tup us)) : ∃ J, Walk J us.length (Same H) (YAt us) ∧
    ∀ R : It → Hp → Prop, R J H → iSel K H a R := by
  rcases h with h | h
  · exact ⟨Itl K a, (walk_list (K := K)).mono (fun H' e => SqL.of (e _ _ h)) (fun _ _ _ _ _ _ y => y), fun R r => .inl ⟨⟨_, SqL.of h⟩, r⟩⟩
  · exact ⟨Itt K a, (walk_tup (K := K)).mono (fun H' e => SqT.of (e _ _ h)) (fun _ _ _ _ _ _ y => y), fun R r => .inr ⟨⟨_, SqT.of h⟩, r⟩⟩
theorem tupn_m {H H' : Hp} {v : V} {b : List Nat} (e : Same H H') (h : TupN H v b) : TupN H' v b := h.mono e
theorem range_map_some {β γ : Type} {l : List β} {f : Nat → Option γ} {g : β → γ} (h : ∀ i b, l[i]? = some b → f i = some (g b)) : (List.range l.length).filterMap f = l.map g := by
  have key : ∀ n, n ≤ l.length → (List.range n).filterMap f = (l.take n).map g := by
    intro n
    induction n with
    | zero => intro _; rw [List.take_zero]; rfl
    | succ n ih =>
      intro hn
      have e : l[n]? = some l[n] := List.getElem?_eq_getElem hn
      rw [filterMap_range_succ, ih (Nat.le_of_lt hn), h n _ e, List.take_add_one, e, List.map_append]
      rfl
  have q := key l.length (Nat.le_refl _)
  rw [List.take_length] at q
  exact q
theorem range_filter_some {β γ : Type} {l : List β} {f : Nat → Option γ} {g : β → γ} {p : β → Bool} (h : ∀ i b, l[i]? = some b → f i = if p b then some (g b) else none) : (List.range l.length).filterMap f = (l.filter p).map g := by
  have key : ∀ n, n ≤ l.length → (List.range n).filterMap f = ((l.take n).filter p).map g := by
    intro n
    induction n with
    | zero => intro _; rw [List.take_zero]; rfl
    | succ n ih =>
      intro hn
      have e : l[n]? = some l[n] := List.getElem?_eq_getElem hn
      rw [filterMap_range_succ, ih (Nat.le_of_lt hn), h n _ e, List.take_add_one, e]
      show _ = ((l.take n ++ [l[n]]).filter p).map g
      rw [List.filter_append, List.map_append]
      congr 1
      cases hp : p l[n] <;> simp [hp]
  have q := key l.length (Nat.le_refl _)
  rw [List.take_length] at q
  exact q
end Sb

/-! R3: short words: calls by name, indexes, with the written part told. -/
namespace Sb
open PySem L2
section
variable {X : Cx} {e e1 e2 : Expr} {te t1 t2 : TE} {p pos : Pos}
theorem pTuple {r : List V → Hp → VK → Prop} (hc : CallR X (.type "tuple") r) (hm : X.mg "tuple" = none) (he : PE X e te) (hg : Gl X "tuple" := by rfl) (hst : starEach [e] X.env = (false, eval e X.env) :: starEach [] X.env := by rfl) :
    PE X (.Call (.Name "tuple" p) [e] [] pos) (tCB r (tCons te tNil)) := pe_callTy hc hg hm (by decide +kernel) (pa_cons he pa_nil hst) (by decide) (by decide) hst rfl
theorem pList {r : List V → Hp → VK → Prop} (hc : CallR X (.type "list") r) (hm : X.mg "list" = none) (he : PE X e te) (hg : Gl X "list" := by rfl) (hst : starEach [e] X.env = (false, eval e X.env) :: starEach [] X.env := by rfl) :
    PE X (.Call (.Name "list" p) [e] [] pos) (tCB r (tCons te tNil)) := pe_callTy hc hg hm (by decide +kernel) (pa_cons he pa_nil hst) (by decide) (by decide) hst rfl
theorem pSet {r : List V → Hp → VK → Prop} (hc : CallR X (.type "set") r) (hm : X.mg "set" = none) (he : PE X e te) (hg : Gl X "set" := by rfl) (hst : starEach [e] X.env = (false, eval e X.env) :: starEach [] X.env := by rfl) :
    PE X (.Call (.Name "set" p) [e] [] pos) (tCB r (tCons te tNil)) := pe_callTy hc hg hm (by decide +kernel) (pa_cons he pa_nil hst) (by decide) (by decide) hst rfl
theorem pInt {r : List V → Hp → VK → Prop} (hc : CallR X (.type "int") r) (hm : X.mg "int" = none) (he : PE X e te) (hg : Gl X "int" := by rfl) (hst : starEach [e] X.env = (false, eval e X.env) :: starEach [] X.env := by rfl) :
    PE X (.Call (.Name "int" p) [e] [] pos) (tCB r (tCons te tNil)) := pe_callTy hc hg hm (by decide +kernel) (pa_cons he pa_nil hst) (by decide) (by decide) hst rfl
theorem pSorted {r : List V → Hp → VK → Prop} (hc : CallR X (.builtin "sorted") r) (hm : X.mg "sorted" = none) (he : PE X e te) (hg : Gl X "sorted" := by rfl) (hst : starEach [e] X.env = (false, eval e X.env) :: starEach [] X.env := by rfl) :
    PE X (.Call (.Name "sorted" p) [e] [] pos) (tCB r (tCons te tNil)) := pe_callB hc hg hm (by decide +kernel) (pa_cons he pa_nil hst) (by decide) (by decide) hst rfl
theorem pLen {r : List V → Hp → VK → Prop} (hc : CallR X (.builtin "len") r) (hm : X.mg "len" = none) (he : PE X e te) (hg : Gl X "len" := by rfl) (hst : starEach [e] X.env = (false, eval e X.env) :: starEach [] X.env := by rfl) :
    PE X (.Call (.Name "len" p) [e] [] pos) (tCB r (tCons te tNil)) := pe_callB hc hg hm (by decide +kernel) (pa_cons he pa_nil hst) (by decide) (by decide) hst rfl
theorem pSum {r : List V → Hp → VK → Prop} (hc : CallR X (.builtin "sum") r) (hm : X.mg "sum" = none) (he : PE X e te) (hg : Gl X "sum" := by rfl) (hst : starEach [e] X.env = (false, eval e X.env) :: starEach [] X.env := by rfl) :
    PE X (.Call (.Name "sum" p) [e] [] pos) (tCB r (tCons te tNil)) := pe_callB hc hg hm (by decide +kernel) (pa_cons he pa_nil hst) (by decide) (by decide) hst rfl
theorem pMax {r : List V → Hp → VK → Prop} (hc : CallR X (.builtin "max") r) (hm : X.mg "max" = none) (he : PE X e te) (hg : Gl X "max" := by rfl) (hst : starEach [e] X.env = (false, eval e X.env) :: starEach [] X.env := by rfl) :
    PE X (.Call (.Name "max" p) [e] [] pos) (tCB r (tCons te tNil)) := pe_callB hc hg hm (by decide +kernel) (pa_cons he pa_nil hst) (by decide) (by decide) hst rfl
theorem pAll {r : List V → Hp → VK → Prop} (hc : CallR X (.builtin "all") r) (hm : X.mg "all" = none) (he : PE X e te) (hg : Gl X "all" := by rfl) (hst : starEach [e] X.env = (false, eval e X.env) :: starEach [] X.env := by rfl) :
    PE X (.Call (.Name "all" p) [e] [] pos) (tCB r (tCons te tNil)) := pe_callB hc hg hm (by decide +kernel) (pa_cons he pa_nil hst) (by decide) (by decide) hst rfl
theorem pIsinst {r : List V → Hp → VK → Prop} (hc : CallR X (.builtin "isinstance") r) (hm : X.mg "isinstance" = none) (h1 : PE X e1 t1) (h2 : PE X e2 t2) (hg : Gl X "isinstance" := by rfl) (hs1 : starEach [e1, e2] X.env = (false, eval e1 X.env) :: starEach [e2] X.env := by rfl) (hs2 : starEach [e2] X.env = (false, eval e2 X.env) :: starEach [] X.env := by rfl) (hpl : (backTo pos (starEach [e2] X.env)).any (·.1) = false := by rfl) :
    PE X (.Call (.Name "isinstance" p) [e1, e2] [] pos) (tCB r (tCons t1 (tCons t2 tNil))) := pe_callB hc hg hm (by decide +kernel) (pa_cons h1 (pa_cons h2 pa_nil hs2) hs1) (by decide) (by decide) hs1 hpl
/-- a built-in class as a value -/
theorem pTy {x : Str} {T : String} (hm : X.mg x = none) (hv : bootBuiltins x = some (.type T)) (hg : Gl X x := by rfl) (hn : x ≠ "__name__" := by decide) (hd : (x == ("__debug__" : Str)) = false := by decide) : PE X (.Name x pos) (tC (.ty T)) := pe_bltn hg hm hv rfl hn hd
/-! ### rules with K told -/
variable (K : PySem.W.Frag)
def rTup : List V → Hp → VK → Prop := fun xs H Q => ∃ p ys, xs = [V.ref p] ∧ ((SqL K H p ys ∧ ∀ l, H l = none → Q (.ref l) (upd H l (.tup ys))) ∨ (SqT K H p ys ∧ Q (.ref p) H))
theorem cTup (hK : X.K = K := by rfl) : CallR X (.type "tuple") (rTup K) := by subst hK; exact call_tuple_of
def rLst : List V → Hp → VK → Prop := fun xs H Q => ∃ p ys, xs = [V.ref p] ∧ (SqL K H p ys ∨ SqT K H p ys) ∧ ∀ l, H l = none → Q (.ref l) (upd H l (.lst ys))
theorem cLst (hK : X.K = K := by rfl) : CallR X (.type "list") (rLst K) := by subst hK; exact call_list_of
def rLenS : List V → Hp → VK → Prop := fun xs H Q => ∃ p ys, xs = [V.ref p] ∧ (SqL K H p ys ∨ SqT K H p ys) ∧ Q (.int ys.length) H
theorem cLen (hK : X.K = K := by rfl) : CallR X (.builtin "len") (rLenS K) := by subst hK; exact call_len_seq
theorem cSortT {k : Nat} (hr : Room k X.A) (hK : X.K = K := by rfl) : CallR X (.builtin "sorted") (rSortT K) := by subst hK; exact cr_sortTF hr
theorem cSortS {k : Nat} (hr : Room k X.A) (hK : X.K = K := by rfl) : CallR X (.builtin "sorted") (rSortS K) := by subst hK; exact cr_sortS hr
theorem cSortN (hK : X.K = K := by rfl) : CallR X (.builtin "sorted") (rSortN K) := by subst hK; exact cr_sortN
theorem cSum (hK : X.K = K := by rfl) (hc : X.calm = true := by rfl) : CallR X (.builtin "sum") (rSum K) := by subst hK; exact cr_sum hc
theorem cMax (hK : X.K = K := by rfl) (hc : X.calm = true := by rfl) : CallR X (.builtin "max") (rMax K) := by subst hK; exact cr_max hc
theorem cAll (hK : X.K = K := by rfl) (hc : X.calm = true := by rfl) : CallR X (.builtin "all") (rAll K) := by subst hK; exact cr_all hc
theorem cIsi (hK : X.K = K := by rfl) : CallR X (.builtin "isinstance") (rIsi K) := by subst hK; exact call_isi
theorem cIsiT (hK : X.K = K := by rfl) : CallR X (.builtin "isinstance") (rIsiT K) := by subst hK; exact call_isiT
/-- an item of a list or of a tuple -/
def rIxA : R2 := fun x y H Q => ∃ p xs i v, x = .ref p ∧ y = .int i ∧ (SqL K H p xs ∨ SqT K H p xs) ∧ atI xs i = some v ∧ Q v H
theorem ix_any (hK : X.K = K := by rfl) : IxR X (rIxA K) := by
  subst hK
  intro a b pins s σ H x y v u Q I rx ry h
  obtain ⟨p, xs, i, z, e1, e2, hs, ha, q⟩ := h
  rcases hs with hs | hs
  · exact ix_list a b pins s σ H x y v u Q I rx ry ⟨p, xs, i, z, e1, e2, hs, ha, q⟩
  · exact ix_tup a b pins s σ H x y v u Q I rx ry ⟨p, xs, i, z, e1, e2, hs, ha, q⟩
theorem pIx (ha : PE X e1 t1) (hb : PE X e2 t2) (hs : PlainIx e2 := by exact fun _ _ => rfl) (hK : X.K = K := by rfl) : PE X (.Subscript e1 e2 pos) (tOp (rIxA K) t1 t2) := pe_ix (ix_any K hK) ha hb hs
theorem piSeq {tg l : Expr} {tl : TE} (hl : PE X l tl) (hK : X.K = K := by rfl) : PI X tg l (iSeq K tl) := by subst hK; exact pi_seq hl
theorem oEqD {k : Nat} (hr : Room k X.A) (hK : X.K = K := by rfl) : OpR X (compareOp .Eq) (rEqD K) := by subst hK; exact op_eqD hr.units
theorem oNeD {k : Nat} (hr : Room k X.A) (hK : X.K = K := by rfl) : OpR X (compareOp .NotEq) (rNeD K) := by subst hK; exact op_neD hr.units
end
section
variable {X : Cx} {elt iter : Expr} {ifs : List Expr} {scope : Scope} {tp lp : Pos} {wi : TI} {te : TE} {x : Str}
/-- [elt for x in iter], x in slot i -/
theorem pLc (i : Nat) {N : List Str} {sc : Scope} (nd : X.N.Nodup) (hi : PI X (.Name x tp) iter wi) (ok : blkC N sc scope [(x, i)] = true) (he : ∀ (s : Shared) (H : Hp) (C : Addr) (cl : List (Str × Addr)) (fp : List Addr), PE (X.blk s H scope (compEnvC scope cl C X.env) fp) elt te)
    (hN : X.N = N := by rfl) (hsc : X.env.scope = sc := by rfl) (hx : N[i]? = some x := by rfl) (hl : scope.names.lookup x = some .local := by rfl) (hc : X.calm = true := by rfl) (hs : ∀ x, foldedSetIterable iter X.env x = pure x := by intro _; rfl) :
    PE X (.ListComp elt [⟨.Name x tp, iter, [], 0⟩] scope lp) (tLc wi (gName i) tYes te [i]) := by
  subst hN hsc
  exact pe_lc (own := [(x, i)]) hc nd hi (blkOk_by ok) (fun _ _ _ _ _ => pg_name nd hx (Or.inl (lookup_relabel_local hl)) (Or.inr (lookup_relabel_local hl))) (fun _ _ _ _ _ => pts_nil) he hs
/-- [elt for x in iter if c] -/
theorem pLcIf (i : Nat) {N : List Str} {sc : Scope} {c : Expr} {tc : TT} (nd : X.N.Nodup) (hi : PI X (.Name x tp) iter wi) (ok : blkC N sc scope [(x, i)] = true) (hcnd : ∀ (s : Shared) (H : Hp) (C : Addr) (cl : List (Str × Addr)) (fp : List Addr), PT (X.blk s H scope (compEnvC scope cl C X.env) fp) c tc) (he : ∀ (s : Shared) (H : Hp) (C : Addr) (cl : List (Str × Addr)) (fp : List Addr), PE (X.blk s H scope (compEnvC scope cl C X.env) fp) elt te)
    (hN : X.N = N := by rfl) (hsc : X.env.scope = sc := by rfl) (hx : N[i]? = some x := by rfl) (hl : scope.names.lookup x = some .local := by rfl) (hc : X.calm = true := by rfl) (hs : ∀ x, foldedSetIterable iter X.env x = pure x := by intro _; rfl) :
    PE X (.ListComp elt [⟨.Name x tp, iter, [c], 0⟩] scope lp) (tLc wi (gName i) tc te [i]) := by
  subst hN hsc
  exact pe_lc (own := [(x, i)]) hc nd hi (blkOk_by ok) (fun _ _ _ _ _ => pg_name nd hx (Or.inl (lookup_relabel_local hl)) (Or.inr (lookup_relabel_local hl))) (fun s H C cl fp => pts_one (hcnd s H C cl fp)) he hs
end
end Sb

/-! R4: enumerate over tuples; zip of tuples as a walk. -/
namespace Sb
open PySem PySem.Spec PyProof.Rows L2
open Sem (wp)
open AutoSeq1 (wpAny_loadPart')
set_option maxHeartbeats 1000000 in
theorem enumNewT (t : Addr) (items : Array Value) :
    Meets (Builtin.«enumerate.__new__» ⟨[.type "enumerate", .ref t], []⟩) (fun _ R s => s.heap.IsTuple t items ∧
      R (.ok (.ret (.ref (s.heap.push { cls := .type "tuple_iterator", data := .fields #[.ref t, .int 0 0] }).objs.size)))
        { s with heap := (s.heap.push { cls := .type "tuple_iterator", data := .fields #[.ref t, .int 0 0] }).push { cls := .type "enumerate", data := .fields #[.none, .bool false, .ref s.heap.objs.size, rawInt 0, .none, .none] } }) :=
  .of_wp fun prog w A R s h => by
    obtain ⟨hp, g, d, tk, os⟩ := s; obtain ⟨h1, h⟩ := h
    have hsub := sub_enumerate
    have q1 : ∀ {A' : Around} {E : Value → Shared → Prop} {Q : Value → Shared → Prop}, Q (.ref hp.objs.size) ⟨hp.push { cls := .type "tuple_iterator", data := .fields #[.ref t, .int 0 0] }, g, d, tk, os⟩ → wpAny (model prog w) A' (pyIter (.ref t)) Q E ⟨hp, g, d, tk, os⟩ :=
      fun q => wpAny_pyIter_tuple (s := ⟨hp, g, d, tk, os⟩) h1 q
    wp_walk using q1
    refine wpAny_stack_any fun st => wpAny_pure ?_
    split
    · rename_i c _ _ _ _ _
      cases (c == Value.type "enumerate")
      · wp_walk using q1
        exact ⟨_, rfl, h⟩
      · wp_walk using q1
        exact ⟨_, rfl, h⟩
    · wp_walk using q1
      exact ⟨_, rfl, h⟩
theorem call_enumT {prog : Program} {w : World} {A : Around} {E : Value → Shared → Prop} {s : Shared} {l : Addr} {items : Array Value} {Q : Value → Shared → Prop} (hL : s.heap.IsTuple l items)
    (h : ∀ h', IsEnum h' (s.heap.objs.size + 1) s.heap.objs.size 0 .none → h'.IsTupleIter s.heap.objs.size l 0 → h'.objs.size = s.heap.objs.size + 2 →
      (∀ b o, s.heap.get? b = some o → h'.get? b = some o) → Q (.ref (s.heap.objs.size + 1)) { s with heap := h' }) :
    wpAny (model prog w) A (call (.type "enumerate") [.ref l]) Q E s := by
  refine callType_new F.called_enumerate (by decide) (F.typeCall_enumerate_1 _) (F.newCall_enumerate_1 _) (fun obj => F.args_object_init_2 obj _) F.entry_enumerate_new
    (enumNewT l items) ⟨hL, ?_⟩
  have hz : (s.heap.push { cls := .type "tuple_iterator", data := .fields #[.ref l, .int 0 0] }).objs.size = s.heap.objs.size + 1 := Heap.size_push ..
  show _ ∧ _
  rw [hz]
  have he : IsEnum ((s.heap.push { cls := .type "tuple_iterator", data := .fields #[.ref l, .int 0 0] }).push
      { cls := .type "enumerate", data := .fields #[.none, .bool false, .ref s.heap.objs.size, rawInt 0, .none, .none] }) (s.heap.objs.size + 1) s.heap.objs.size 0 .none := by
    have := Heap.get?_push_size (s.heap.push { cls := .type "tuple_iterator", data := .fields #[.ref l, .int 0 0] })
      (o := { cls := .type "enumerate", data := .fields #[.none, .bool false, .ref s.heap.objs.size, rawInt 0, .none, .none] }) rfl
    rw [hz] at this; exact this
  refine ⟨⟨_, he, rfl⟩, h _ he ⟨_, Heap.get?_push_of_some _ (Heap.get?_push_size _ rfl), rfl, rfl⟩ (by rw [Heap.size_push, hz]) fun b o x => Heap.get?_push_of_some _ (Heap.get?_push_of_some _ x)⟩
/-- the tuple at a as it stands at each turn, each item in a new pair -/
def IteT (K : PySem.W.Frag) (a : Addr) : It :=
  ⟨fun i H => ∃ (xs : List V) (x : V), SqT K H a xs ∧ xs[i]? = some x, fun i H v H' => ∃ T x, v = .ref T ∧ H T = none ∧ H' = upd H T (.tup [.int (i : Nat), x]) ∧ ∀ xs, SqT K H a xs → xs[i]? = some x, fun i H => ∃ xs : List V, SqT K H a xs ∧ xs.length = i⟩
theorem turn_enumT {P : Program} {w : World} {K : PySem.W.Frag} {elts : List Expr} {kk : Nat} {tpos : Pos} (a e it : Addr) :
    Turn P w K (.Tuple elts kk tpos) (IteT K a) [e, it] e (fun i h => (∃ old, IsEnum h e it ((i : Nat) : Int) old) ∧ h.IsTupleIter it a i ∧ e ≠ it ∧ a ≠ e ∧ a ≠ it) where
  mem := by simp
  obj := fun i h st b hb => by
    obtain ⟨⟨old, he⟩, ⟨o, ho, hc, hd⟩, _⟩ := st
    have e' : b = e ∨ b = it := by simpa using hb
    rcases e' with z | z
    · rw [z]; exact ⟨_, he, fun v q => nomatch q⟩
    · rw [z]; exact ⟨o, ho, fun v q => by rw [hd] at q; cases q⟩
  keep := fun i h h' st k => let ⟨⟨old, he⟩, hi, hne⟩ := st; ⟨⟨old, k e (by simp) _ he⟩, hi.at fun o q => k it (by simp) o q, hne⟩
  item := by
    intro X hP hw hK hc i pins s σ H E I hf st hg
    subst hP hw hK
    obtain ⟨⟨old, he⟩, hit, hne, ha1, ha2⟩ := st
    obtain ⟨xs, x, hq, hx⟩ := hg
    obtain ⟨its, rv, p, hz⟩ := I.tuple hq
    obtain ⟨u, hu, ru⟩ := rv.get hx
    have hel : e < s.heap.objs.size := Heap.lt_size he
    have hil : it < s.heap.objs.size := by obtain ⟨_, q, _⟩ := hit; exact Heap.lt_size q
    have hil' : i < its.toArray.size := by
      have := (List.getElem?_eq_some_iff.mp hu).1
      simpa using this
    have D := Draws.tuple (prog := X.prog) (w := X.w) (A := X.A.in1) (show X.A.in1.handled = none from I.ok.hd hc) it a ha2 its.toArray
    refine wpAny_pyNext_enum_itemD D he (show Heap.IsTupleIter s.heap it a i ∧ s.heap.IsTuple a its.toArray from ⟨hit, p⟩) hil' hne (by simp [hne, Ne.symm ha1]) fun u' h' tk hu' ho hit' hT hsz hk => ?_
    have eu : u' = u := by
      have h1 : its[i]? = some u' := by simpa using hu'
      rw [hu] at h1
      exact (Option.some.inj h1).symm
    subst eu
    refine ⟨_, rfl, wpAny_letOwnedTupleGo_enum (s := { s with heap := h', toks := tk + 1 }) ho fun h'' he' sb => ?_⟩
    have hT2 : h''.get? s.heap.objs.size = some { cls := .type "tuple", data := .seq #[.int i tk, u'] } := (sb.2 _ (Nat.ne_of_gt hel)).trans hT
    have new : ObjOk X.prog X.w (upd H s.heap.objs.size (.tup [.int (i : Nat), x])) h'' s.heap.objs.size (.tup [.int (i : Nat), x]) :=
      ⟨by show 2 ≤ sizeLine; decide, [.int i tk, u'], .cons ⟨_, rfl⟩ (.cons ru .nil), ⟨_, hT2, rfl, _, rfl⟩⟩
    have I1 : Inv X pins σ (upd H s.heap.objs.size (.tup [.int (i : Nat), x])) { s with heap := h'', toks := tk + 1 } :=
      I.turnedNew (ch := [e, it]) (fun b ob hb q => (sb.2 b (fun z => hb (by simp [z]))).trans (hk b ob (fun z => hb (by simp [z])) (fun z => hb (by simp [z])) q)) hf (Nat.le_refl _) new
    refine ⟨.ref s.heap.objs.size, _, I1, rfl, ⟨_, x, rfl, I.hok.fresh (Nat.le_refl _), rfl, fun ys hy => by rw [I.tuple_inj hy hq]; exact hx⟩, ⟨⟨u', ?_⟩, hit'.1.at fun o q => (sb.2 it (Ne.symm hne)).trans q, hne, ha1, ha2⟩, fun b hb => ?_⟩
    · have e1 : ((i + 1 : Nat) : Int) = (i : Int) + 1 := by omega
      rw [e1]; exact he'
    · have hb' : b < s.heap.objs.size := by
        have e' : b = e ∨ b = it := by simpa using hb
        rcases e' with z | z
        · rw [z]; exact hel
        · rw [z]; exact hil
      rw [upd_ne (Nat.ne_of_lt hb')]
      exact (hf b hb).1
  done := by
    intro X hP hw hK hc i pins s σ H E I hf st hg
    subst hP hw hK
    obtain ⟨⟨old, he⟩, hit, hne, ha1, ha2⟩ := st
    obtain ⟨xs, hq, hx⟩ := hg
    obtain ⟨its, rv, p, hz⟩ := I.tuple hq
    obtain ⟨f0, f1, f2, f3, f4, f5⟩ := hf it (by simp)
    have hl := rv.length
    have D := Draws.tuple (prog := X.prog) (w := X.w) (A := X.A.in1) (show X.A.in1.handled = none from I.ok.hd hc) it a ha2 its.toArray
    have ei : i = its.toArray.size := by simp; omega
    subst ei
    exact wpAny_pyNext_enum_endD D he (show Heap.IsTupleIter s.heap it a _ ∧ s.heap.IsTuple a its.toArray from ⟨hit, p⟩) fun h' eb => ⟨rfl, I.turned (t' := s.toks) (fun b o hb q => eb b o hb q) f0 f1 f3 f4 f5⟩
  self := fun A i s Q E st h => let ⟨⟨_, he⟩, _⟩ := st; wpAny_pyIter_enum he h
def iEnumT (K : PySem.W.Frag) (ta : TA) : TI := fun σ H R => ta σ H fun vs H1 => ∃ a xs, vs = [.ref a] ∧ SqT K H1 a xs ∧ R (IteT K a) H1
theorem pi_enumT {X : Cx} {e : Expr} {ta : TA} {p pos tpos : Pos} {elts : List Expr} {kk : Nat} (hg : Gl X "enumerate") (hm : X.mg "enumerate" = none) (ha : PA X [e] ta) (hs : starEach [e] X.env = [(false, eval e X.env)] := by rfl) :
    PI X (.Tuple elts kk tpos) (.Call (.Name "enumerate" p) [e] [] pos) (iEnumT X.K ta) := by
  refine ⟨fun pins s σ H R I h => ?_⟩
  refine Call_ (ld_blt I hg hm boot_enumerate (PyProof.Rows.callWith_type1 (thn (ha.run pos pins s σ H _ I h) fun us s1 ⟨vs, H1, I1, r1, q1⟩ => ?_) hs rfl))
  obtain ⟨a, xs, ex, hq, q⟩ := q1
  subst ex
  cases r1 with
  | cons r rr =>
    cases rr
    cases r
    obtain ⟨its, rv, p', hz⟩ := I1.tuple hq
    have p'' : s1.heap.IsTuple a its.toArray := p'
    obtain ⟨oa, hoa, _⟩ := id p''
    have hal : a < s1.heap.objs.size := Heap.lt_size hoa
    refine call_enumT p'' fun h' he hit hsz hk => wpAny_pyIter_enum he ?_
    have I2 : Inv X pins σ H1 { s1 with heap := h' } := I1.kept (t' := s1.toks) hk
    refine ⟨s1.heap.objs.size + 1, [s1.heap.objs.size + 1, s1.heap.objs.size], _, _, H1, rfl, I2, turn_enumT a (s1.heap.objs.size + 1) s1.heap.objs.size, ⟨⟨.none, he⟩, hit, Nat.succ_ne_self _, Nat.ne_of_lt (Nat.lt_succ_of_lt hal), Nat.ne_of_lt hal⟩, fun b hb => ?_, q⟩
    have e' : b = s1.heap.objs.size + 1 ∨ b = s1.heap.objs.size := by simpa using hb
    have hle : s1.heap.objs.size ≤ b := by
      rcases e' with z | z
      · rw [z]; exact Nat.le_add_right _ _
      · rw [z]; exact Nat.le_refl _
    exact I1.fpOk hle (I1.hok.fresh hle)
theorem walk_enumT {K : PySem.W.Frag} {a : Addr} {xs : List V} : Walk (IteT K a) xs.length (fun H => SqT K H a xs) (YPair (fun i => some (.int (i : Nat))) (fun i => xs[i]?)) := by
  refine ⟨fun i _ hi q => ⟨xs, xs[i], q, by simp [hi]⟩, fun _ q => ⟨xs, q, rfl⟩, fun i H v H' _ q y => ?_⟩
  obtain ⟨T, x, h1, h2, h3, h4⟩ := y
  exact ⟨T, .int (i : Nat), x, h1, h2, h3, rfl, h4 xs q⟩
theorem walk_zipT {K : PySem.W.Frag} {a b : Addr} {xs ys : List V} {n : Nat} (hn : n = min xs.length ys.length) : Walk (RZ.ItzT K a b) n (fun H => SqT K H a xs ∧ SqT K H b ys) (YPair (fun i => xs[i]?) (fun i => ys[i]?)) := by
  subst hn
  refine ⟨fun i _ hi q => ?_, fun _ q => ⟨xs, ys, q.1, q.2, by omega⟩, fun i H v H' _ q y => ?_⟩
  · have h1 : i < xs.length := by omega
    have h2 : i < ys.length := by omega
    exact ⟨xs, ys, xs[i], ys[i], q.1, q.2, by simp [h1], by simp [h2]⟩
  · obtain ⟨T, x, z, h1, h2, h3, h4, h5⟩ := y
    exact ⟨T, x, z, h1, h2, h3, h4 xs q.1, h5 ys q.2⟩
end Sb

/-! R5: defs by their promise; comprehensions as values and statements; fresh dicts walked. -/
namespace Sb
open PySem L2
/-- the built-ins stand -/
structure Bi (mg : Str → Option Value) : Prop where
  tuple : mg "tuple" = none
  list : mg "list" = none
  set : mg "set" = none
  int : mg "int" = none
  bool : mg "bool" = none
  str : mg "str" = none
  sorted : mg "sorted" = none
  len : mg "len" = none
  sum : mg "sum" = none
  max : mg "max" = none
  all : mg "all" = none
  isinstance : mg "isinstance" = none
  range : mg "range" = none
  enumerate : mg "enumerate" = none
  zip : mg "zip" = none
/-- a def that stands at the top -/
structure At (K : PySem.W.Frag) (mg : Str → Option Value) (x : Str) (st : Stmt) (ps : List Str) : Prop where
  ex : ∃ f fd, Fun K x x st f fd ∧ mg x = some (.ref f) ∧ Binds K fd ps []
/-- .. and keeps a promise -/
structure DefAt (P : Program) (w : World) (K : PySem.W.Frag) (mg : Str → Option Value) (base : Heap) (k : Nat) (x : Str) (ps : List Str) (sp : Sp) : Prop where
  ex : ∃ f fd, FnOk P w K mg base CX0 k f fd ps sp ∧ mg x = some (.ref f) ∧ PySem.W.keepIn K (.ref f) = true ∧ Binds K fd ps []
theorem At.mk' {P : Program} {w : World} {K : PySem.W.Frag} {mg : Str → Option Value} {base : Heap} {k : Nat} {x : Str} {st : Stmt} {ps : List Str} {sp : Sp} (A : At K mg x st ps)
    (h : ∀ f fd, Fun K x x st f fd → FnOk P w K mg base CX0 k f fd ps sp) : DefAt P w K mg base k x ps sp := by
  obtain ⟨f, fd, F, m, b⟩ := A.ex
  exact ⟨f, fd, h f fd F, m, F.kp, b⟩
def EX0 : XK := fun _ _ _ => False
section
variable {X : Cx} {e : Expr} {es : List Expr} {t : TA} {te : TE} {p pos : Pos} {x : Str}
theorem pCall {k : Nat} {ps : List Str} {sp : Sp} (D : DefAt X.prog X.w X.K X.mg X.base k x ps sp) (hr : Room k X.A) (ha : PA X (e :: es) t) (hg : Gl X x := by rfl) (hd : (x == ("__debug__" : Str)) = false := by decide)
    (hs : starEach (e :: es) X.env = (false, eval e X.env) :: starEach es X.env := by rfl) (hpl : (backTo pos (starEach es X.env)).any (·.1) = false := by rfl) :
    PE X (.Call (.Name x p) (e :: es) [] pos) (tCall sp [] EX0 t) := by
  obtain ⟨f, fd, F, m, kp, b⟩ := D.ex
  exact pe_call F hr hg m kp b .nil pass0 ha hd hs hpl
/-- what an expression gives is locked -/
def tFrz (te : TE) : TE := fun σ H Q => te σ H fun x H1 => ∃ d u, x = .ref d ∧ H1 d = some u ∧ Mut (some u) ∧ ∀ od, Q x (upd H1 d (.frz od u))
theorem pe_frz (he : PE X e te) : PE X e (tFrz te) := by
  refine ⟨fun pins s σ H Q I h => ?_⟩
  refine thn (he.run pins s σ H _ I h) fun v s1 ⟨y, H1, I1, r1, d, u, e1, hd, mu, q⟩ => ?_
  obtain ⟨od, I2⟩ := I1.lock hd mu
  exact ⟨y, _, I2, r1, q od⟩
/-- two dicts of unlike sizes -/
def rNeL : R2 := fun x y H Q => ∃ a b ks ls, x = .ref a ∧ y = .ref b ∧ H a = some (.dK ks) ∧ H b = some (.dK ls) ∧ Q (.bl (!(ks.length == 0))) H ∧ ls = []
theorem op_neL (hu : X.A.units < cLine) : OpR X (compareOp .NotEq) rNeL := by
  intro pins s σ H x y v u Q I rx ry h
  obtain ⟨a, b, ks, ls, rfl, rfl, ea, eb, q, rfl⟩ := h
  obtain rfl : v = Value.ref a := rx
  obtain rfl : u = Value.ref b := ry
  obtain ⟨_, ya, va, ra, da⟩ := (show ObjOk X.prog X.w H s.heap a (.dK ks) from I.hok a _ ea)
  obtain ⟨_, yb, vb, rb, db⟩ := (show ObjOk X.prog X.w H s.heap b (.dK []) from I.hok b _ eb)
  cases rb
  have hl : ks.length = va.length := ra.length
  refine PySem.W.keq_ne (knd := mixKind X.prog X.w) (r := true) ya yb da db hu (fun e => ?_) (fin_bl I q (by simp [hl]))
  have e0 : ks = [] := List.eq_nil_of_length_eq_zero (by rw [hl]; exact e)
  subst e0
  exact hits_all (kvs := ([] : List (Key × V))) .nil ra (fun p hp => by simp at hp)
/-- a target of one name, of two -/
theorem pgN {X : Cx} {s : Shared} {H : Hp} {scope : Scope} {env : Env} {fp : List Addr} {tp : Pos} (i : Nat) (nd : X.N.Nodup) (hx : X.N[i]? = some x := by rfl) (hl : scope.names.lookup x = some .local := by rfl) {cl : List (Str × Addr)} {C : Addr} : PG (X.blk s H scope (compEnvC scope cl C env) fp) (.Name x tp) (gName i) :=
  pg_name nd hx (Or.inl (lookup_relabel_local hl)) (Or.inr (lookup_relabel_local hl))
theorem pgT {es : List Expr} {k : Nat} {t : TGs} (K : PySem.W.Frag) (n : Nat) (hc : X.calm = true) (h : PGs X es t)
    (hn : (assignEach es X.env).length = n := by rfl) (hst : (assignEach es X.env).findIdx? (·.1) = none := by rfl) (hK : X.K = K := by rfl) : PG X (.Tuple es k pos) (gTup K n t) := by
  subst hK
  exact pg_tup hc h hn hst
end
section
variable {X : Cx} {elt iter tg kx vx : Expr} {ifs : List Expr} {scope : Scope} {tp lp sp py : Pos} {wi : TI} {g : TG} {tt : TT} {te tk tv : TE} {x y : Str}
/-- [elt for tg in iter if ..] -/
theorem pLcX (own : List (Str × Nat)) {N : List Str} {sc : Scope} (nd : X.N.Nodup) (hi : PI X tg iter wi) (ok : blkC N sc scope own = true)
    (hg : ∀ (s : Shared) (H : Hp) (C : Addr) (cl : List (Str × Addr)) (fp : List Addr), PG (X.blk s H scope (compEnvC scope cl C X.env) fp) tg g) (ht : ∀ (s : Shared) (H : Hp) (C : Addr) (cl : List (Str × Addr)) (fp : List Addr), PTs (X.blk s H scope (compEnvC scope cl C X.env) fp) ifs tt)
    (he : ∀ (s : Shared) (H : Hp) (C : Addr) (cl : List (Str × Addr)) (fp : List Addr), PE (X.blk s H scope (compEnvC scope cl C X.env) fp) elt te)
    (hN : X.N = N := by rfl) (hsc : X.env.scope = sc := by rfl) (hc : X.calm = true := by rfl) (hs : ∀ x, foldedSetIterable iter X.env x = pure x := by intro _; rfl) :
    PE X (.ListComp elt [⟨tg, iter, ifs, 0⟩] scope lp) (tLc wi g tt te (own.map (·.2))) := by
  subst hN hsc
  exact pe_lc hc nd hi (blkOk_by ok) hg ht he hs
/-- y = [elt for tg in iter if ..] -/
theorem sLcX (i : Nat) (own : List (Str × Nat)) {N : List Str} {sc : Scope} (nd : X.N.Nodup) (hi : PI X tg iter wi) (ok : blkC N sc scope own = true)
    (hg : ∀ (s : Shared) (H : Hp) (C : Addr) (cl : List (Str × Addr)) (fp : List Addr), PG (X.blk s H scope (compEnvC scope cl C X.env) fp) tg g) (ht : ∀ (s : Shared) (H : Hp) (C : Addr) (cl : List (Str × Addr)) (fp : List Addr), PTs (X.blk s H scope (compEnvC scope cl C X.env) fp) ifs tt)
    (he : ∀ (s : Shared) (H : Hp) (C : Addr) (cl : List (Str × Addr)) (fp : List Addr), PE (X.blk s H scope (compEnvC scope cl C X.env) fp) elt te)
    (ha : (scope.names.any fun (n, k) => n == y && (k == .local || k == .cell)) = false) (hl : (py.line == lp.line) = true := by rfl)
    (hN : X.N = N := by rfl) (hsc : X.env.scope = sc := by rfl) (hy : X.N[i]? = some y := by rfl) (hyl : X.env.scope.names.lookup y = some .local := by rfl) (hk : X.env.scope.kind = .function := by rfl) (hc : X.calm = true := by rfl) (hs : ∀ x, foldedSetIterable iter X.env x = pure x := by intro _; rfl) :
    PS X (.Assign [.Name y py] (.ListComp elt [⟨tg, iter, ifs, 0⟩] scope lp) sp) (tAsg (tLc wi g tt te (own.map (·.2))) (gName i)) := by
  subst hN hsc
  exact ps_setLc hc nd hy hyl (sw_true hk hyl hl ha) hi (blkOk_by ok) hg ht he hs
/-- {k: v for tg in iter if ..} -/
theorem pDcX (own : List (Str × Nat)) {N : List Str} {sc : Scope} (nd : X.N.Nodup) (hi : PI X tg iter wi) (ok : blkC N sc scope own = true)
    (hg : ∀ (s : Shared) (H : Hp) (C : Addr) (cl : List (Str × Addr)) (fp : List Addr), PG (X.blk s H scope (compEnvC scope cl C X.env) fp) tg g) (ht : ∀ (s : Shared) (H : Hp) (C : Addr) (cl : List (Str × Addr)) (fp : List Addr), PTs (X.blk s H scope (compEnvC scope cl C X.env) fp) ifs tt)
    (hk : ∀ (s : Shared) (H : Hp) (C : Addr) (cl : List (Str × Addr)) (fp : List Addr), PE (X.blk s H scope (compEnvC scope cl C X.env) fp) kx tk)
    (he : ∀ (s : Shared) (H : Hp) (C : Addr) (cl : List (Str × Addr)) (fp : List Addr), PE (X.blk s H scope (compEnvC scope cl C X.env) fp) vx tv)
    (hN : X.N = N := by rfl) (hsc : X.env.scope = sc := by rfl) (hc : X.calm = true := by rfl) (hs : ∀ x, foldedSetIterable iter X.env x = pure x := by intro _; rfl) :
    PE X (.DictComp kx vx [⟨tg, iter, ifs, 0⟩] scope lp) (tDc wi g tt tk tv (own.map (·.2))) := by
  subst hN hsc
  exact pe_dc hc nd hi (blkOk_by ok) hg ht hk he hs
theorem sw_trueD {gs : List Comprehension} {l : Nat} {env : Env} (hk : env.scope.kind = .function) (hy : env.scope.names.lookup y = some .local) (hl : (py.line == lp.line) = true)
    (ha : (scope.names.any fun (n, k) => n == y && (k == .local || k == .cell)) = false) : swapsWith (.DictComp kx vx gs scope lp) (some (.Name y py)) l env = pure true := by
  have ky : env.kindOf y = some .local := hy
  have hb : env.blockKind = .function := by unfold Env.blockKind; rw [hk]; rfl
  unfold swapsWith
  simp only [hb, ky, ha, Expr.pos, hl]
  rfl
/-- y = {k: v for tg in iter if ..} -/
theorem sDcX (i : Nat) (own : List (Str × Nat)) {N : List Str} {sc : Scope} (nd : X.N.Nodup) (hi : PI X tg iter wi) (ok : blkC N sc scope own = true)
    (hg : ∀ (s : Shared) (H : Hp) (C : Addr) (cl : List (Str × Addr)) (fp : List Addr), PG (X.blk s H scope (compEnvC scope cl C X.env) fp) tg g) (ht : ∀ (s : Shared) (H : Hp) (C : Addr) (cl : List (Str × Addr)) (fp : List Addr), PTs (X.blk s H scope (compEnvC scope cl C X.env) fp) ifs tt)
    (hk : ∀ (s : Shared) (H : Hp) (C : Addr) (cl : List (Str × Addr)) (fp : List Addr), PE (X.blk s H scope (compEnvC scope cl C X.env) fp) kx tk)
    (he : ∀ (s : Shared) (H : Hp) (C : Addr) (cl : List (Str × Addr)) (fp : List Addr), PE (X.blk s H scope (compEnvC scope cl C X.env) fp) vx tv)
    (ha : (scope.names.any fun (n, k) => n == y && (k == .local || k == .cell)) = false) (hl : (py.line == lp.line) = true := by rfl)
    (hN : X.N = N := by rfl) (hsc : X.env.scope = sc := by rfl) (hy : X.N[i]? = some y := by rfl) (hyl : X.env.scope.names.lookup y = some .local := by rfl) (hkd : X.env.scope.kind = .function := by rfl) (hc : X.calm = true := by rfl) (hs : ∀ x, foldedSetIterable iter X.env x = pure x := by intro _; rfl) :
    PS X (.Assign [.Name y py] (.DictComp kx vx [⟨tg, iter, ifs, 0⟩] scope lp) sp) (tAsg (tDc wi g tt tk tv (own.map (·.2))) (gName i)) := by
  subst hN hsc
  refine ⟨fun pins s σ H D I h => ?_⟩
  rw [exec_Assign_Name_used _ _ _ _ (sw_trueD hkd hyl hl ha)]
  refine wpAny_bind (wpAny_standAt (wpAny_bind ?_))
  show wpAny _ X.A (do let _ ← comprehension (.DictComp kx vx [⟨tg, iter, ifs, 0⟩] scope lp) scope X.env (firstIterPos [⟨tg, iter, ifs, 0⟩] lp) newDict false (eval iter X.env) (some (assign (.Name y py) X.env))) _ _ s
  have h : tDc wi g tt tk tv (own.map (·.2)) σ H (fun x H1 => gName i x σ H1 D.nx) := h
  refine wpAny_bind (thn (dc_core (Qf := fun _ s' => SP X pins D .next s') hc nd I hi (blkOk_by ok) hg ht hk he hs h fun L C s' m H' I' q hn f => ?_) fun _ s' hq => wpAny_pure (wpAny_pure hq))
  show wpAny _ _ (assign (.Name y py) X.env (.ref L)) _ _ _
  refine wpAny_assign_Name (store_ok2 (v := V.ref L) I' nd hy (.inl hyl) rfl (fun s2 I2 ⟨a, sb, ha⟩ => ?_) (.inr hyl))
  obtain ⟨f0, f1, f2, f3, f4, f5⟩ := f
  have haC : C ≠ a := by
    rcases ha with z | z
    · rw [z]; exact f1
    · exact fun e => f4 y a z e.symm
  refine ⟨m, hn.sameBut sb haC, fun h3 sb3 => ?_⟩
  exact ⟨_, H', I2.turned (t' := s2.toks) (fun b o hb e => (sb3.2 b hb).trans e) f0 f1 f3 f4 f5, q⟩
end
end Sb

/-! R6: the top's statements; short readings. -/
namespace Sb
open PySem L2
def topS (i : Nat) : Stmt := PySem.Challenge.pw_sharebags_k63_whole_shapes.main.body.getD i (.Pass ⟨0, 0, 0, 0⟩)
section
variable {X : Cx}
def iEnT (K : PySem.W.Frag) (ta : TA) : TI := fun σ H R => ta σ H fun vs H1 => ∃ a xs, vs = [.ref a] ∧ SqT K H1 a xs ∧ R (IteT K a) H1
theorem pEnumT {e : Expr} {ta : TA} {p pos tpos : Pos} {elts : List Expr} {kk : Nat} (K : PySem.W.Frag) (hg : Gl X "enumerate") (hm : X.mg "enumerate" = none) (ha : PA X [e] ta) (hs : starEach [e] X.env = [(false, eval e X.env)] := by rfl) (hK : X.K = K := by rfl) :
    PI X (.Tuple elts kk tpos) (.Call (.Name "enumerate" p) [e] [] pos) (iEnT K ta) := by subst hK; exact pi_enumT hg hm ha hs
theorem pEnumL {e : Expr} {ta : TA} {p pos tpos : Pos} {elts : List Expr} {kk : Nat} (K : PySem.W.Frag) (hg : Gl X "enumerate") (hm : X.mg "enumerate" = none) (ha : PA X [e] ta) (hs : starEach [e] X.env = [(false, eval e X.env)] := by rfl) (hK : X.K = K := by rfl) :
    PI X (.Tuple elts kk tpos) (.Call (.Name "enumerate" p) [e] [] pos) (iEnum K ta) := by subst hK; exact pi_enum hg hm ha hs
theorem pZipA {e e2 : Expr} {ta : TA} {p pos tpos : Pos} {elts : List Expr} {kk : Nat} (K : PySem.W.Frag) (hm : X.mg "zip" = none) (ha : PA X [e, e2] ta) (hg : Gl X "zip" := by rfl)
    (hs : starEach [e, e2] X.env = (false, eval e X.env) :: starEach [e2] X.env := by rfl) (hpl : (backTo pos (starEach [e2] X.env)).any (·.1) = false := by rfl) (hK : X.K = K := by rfl) :
    PI X (.Tuple elts kk tpos) (.Call (.Name "zip" p) [e, e2] [] pos) (RZ.iZipA K ta) := by subst hK; exact RZ.pi_zipA hg hm ha hs hpl
theorem oInS (K : PySem.W.Frag) (hK : X.K = K := by rfl) : OpR X (compareOp .In) (rIn K false) := by subst hK; exact op_in_seq
theorem oNotInS (K : PySem.W.Frag) (hK : X.K = K := by rfl) : OpR X (compareOp .NotIn) (rIn K true) := by subst hK; exact op_notIn_seq
theorem sTupA (K : PySem.W.Frag) (hK : X.K = K := by rfl) : SlR X (rSlA K) := by subst hK; exact sl_tupA
theorem sLstA (K : PySem.W.Frag) (hK : X.K = K := by rfl) : SlR X (rSlL K) := by subst hK; exact sl_list
theorem oCatT (K : PySem.W.Frag) (hK : X.K = K := by rfl) : OpR X (binaryOp .Add) (rCatA K) := by subst hK; exact op_catA
end
theorem isi_of {K : PySem.W.Frag} {H : Hp} {Q : VK} {x : V} {T t : String} {b : Bool} (ty : TyX K H x (.type t)) (h : PySem.W.kitOne K (.type t) (.type T) = some b) (q : Q (.bl b) H) : rIsi K [x, .ty T] H Q :=
  ⟨x, _, _, _, b, rfl, .ty T, ty, h, q⟩
end Sb

/-! R7: dicts with keys from a list; rows of lists; dict comprehensions over any walk. -/
namespace Sb
open PySem L2
def kI (b : Nat) : Key := Sum.inl (b : Int)
theorem kI_inj {a b : Nat} : kI a = kI b ↔ a = b := by
  constructor
  · intro e
    have : (a : Int) = b := Sum.inl.inj e
    omega
  · intro e; rw [e]
/-- the dict of f over the keys in l -/
def dk (l : List Nat) (f : Nat → V) : List (Key × V) := l.map fun b => (kI b, f b)
theorem dk_length {l : List Nat} {f : Nat → V} : (dk l f).length = l.length := List.length_map _
theorem valV_dk {f : Nat → V} {b : Nat} : ∀ {l : List Nat}, valV (dk l f) (kI b) = if b ∈ l then some (f b) else none
  | [] => rfl
  | a :: l => by
    have ih := valV_dk (f := f) (b := b) (l := l)
    show valV ((kI a, f a) :: dk l f) (kI b) = _
    by_cases e : a = b
    · subst e
      rw [valV_pos rfl, if_pos (List.mem_cons_self ..)]
    · rw [valV_neg (fun z => e (kI_inj.mp z)), ih]
      have e' : ¬ b = a := fun z => e z.symm
      simp [List.mem_cons, e']
theorem dk_congr {l : List Nat} {f g : Nat → V} (h : ∀ b ∈ l, f b = g b) : dk l f = dk l g := List.map_congr_left fun b hb => by rw [h b hb]
theorem putK_dk_new {l : List Nat} {f : Nat → V} {b : Nat} (h : b ∉ l) : putK (dk l f) (kI b) (f b) = dk (l ++ [b]) f := by
  rw [putK_new _ (by rw [valV_dk, if_neg h])]
  unfold dk
  rw [List.map_append]
  rfl
theorem putK_dk_old {l : List Nat} {f : Nat → V} {b : Nat} {v : V} (h : b ∈ l) : putK (dk l f) (kI b) v = dk l fun c => if c = b then v else f c := by
  have e : ((dk l f).any fun kv => decide (kv.1 = kI b)) = true := List.any_eq_true.mpr ⟨(kI b, f b), List.mem_map.mpr ⟨b, h, rfl⟩, by simp⟩
  unfold putK
  rw [if_pos e]
  unfold dk
  rw [List.map_map]
  refine List.map_congr_left fun c _ => ?_
  show (if kI c = kI b then (kI c, v) else (kI c, f c)) = (kI c, if c = b then v else f c)
  by_cases q : c = b
  · subst q
    rw [if_pos rfl, if_pos rfl]
  · rw [if_neg (fun z => q (kI_inj.mp z)), if_neg q]
theorem dropK_dk {l : List Nat} {f : Nat → V} {b : Nat} : dropK (dk l f) (kI b) = dk (l.filter fun c => decide (c ≠ b)) f := by
  unfold dropK dk
  rw [List.filter_map]
  congr 1
  refine List.filter_congr fun c _ => ?_
  show decide (kI c ≠ kI b) = decide (c ≠ b)
  by_cases q : c = b
  · simp [q]
  · rw [decide_eq_true (p := kI c ≠ kI b) (fun z => q (kI_inj.mp z)), decide_eq_true (p := c ≠ b) q]
/-- a dict comprehension over any walk -/
theorem dc_it {J : It} {n : Nat} {G : Hp → Prop} {Y : Nat → Hp → V → Hp → Prop} (w : Walk J n G Y) {g : TG} {tt : TT} {tk tv : TE} {vs : List Nat} {σ : L2.St} {H1 : Hp} {D : Addr} {Qd : Hp → Prop} (Pv : Nat → Hp → Prop) (h0 : Pv 0 (upd H1 D (.dK []))) (hG : ∀ i H, i ≤ n → Pv i H → G H)
    (hs : ∀ i x H H', i < n → Pv i H → Y i H x H' → g x (wipe σ vs) H' fun σ2 H2 => wipe σ2 vs = wipe σ vs ∧ tt σ2 H2 fun b H3 =>
      if b = true then tk σ2 H3 fun y H4 => tv σ2 H4 fun z H5 => ∃ kvs k, y = kV k ∧ H5 D = some (.dK kvs) ∧ kvs.length < sizeLine ∧ Pv (i + 1) (upd H5 D (.dK (putK kvs k z))) else Pv (i + 1) H3) (hd : ∀ H, Pv n H → Qd H) :
    ∃ W : Nat → Nat → Hp → Prop, (∃ m, W 0 m (upd H1 D (.dK []))) ∧ ∀ i m H, W i m H →
      (J.stop i H ∧ Qd H) ∨ (J.go i H ∧ ∃ Nx : Hp → Prop, (∀ H', Nx H' → ∃ m', m' < m ∧ W (i + 1) m' H') ∧ ∀ x H', J.yld i H x H' → g x (wipe σ vs) H' fun σ2 H2 => wipe σ2 vs = wipe σ vs ∧ tt σ2 H2 fun b H3 =>
        if b = true then tk σ2 H3 fun y H4 => tv σ2 H4 fun z H5 => ∃ kvs k, y = kV k ∧ H5 D = some (.dK kvs) ∧ kvs.length < sizeLine ∧ Nx (upd H5 D (.dK (putK kvs k z))) else Nx H3) := by
  refine ⟨fun i m H => m = n - i ∧ i ≤ n ∧ Pv i H, ⟨n, by simp, Nat.zero_le _, h0⟩, ?_⟩
  rintro i m H ⟨rfl, hi, p⟩
  have q := hG i H hi p
  by_cases hlt : i < n
  · refine .inr ⟨w.goes i H hlt q, Pv (i + 1), fun H' p' => ⟨n - (i + 1), by omega, rfl, hlt, p'⟩, fun x H' y => hs i x H H' hlt p (w.yields i H x H' hlt q y)⟩
  · have e : i = n := by omega
    subst e
    exact .inl ⟨w.stops H q, hd H p⟩
theorem nd_inj {α : Type} {l : List α} (n : l.Nodup) {i j : Nat} {a : α} (hi : l[i]? = some a) (hj : l[j]? = some a) : i = j := by
  obtain ⟨l1, e1⟩ := List.getElem?_eq_some_iff.mp hi
  obtain ⟨l2, e2⟩ := List.getElem?_eq_some_iff.mp hj
  rcases Nat.lt_trichotomy i j with h | h | h
  · exact absurd (e1.trans e2.symm) (List.pairwise_iff_getElem.mp n i j l1 l2 h)
  · exact h
  · exact absurd (e2.trans e1.symm) (List.pairwise_iff_getElem.mp n j i l2 l1 h)
/-- at p a list of lists, each at its own new place, g telling what they hold -/
structure Rows (H0 H : Hp) (p : Addr) (cs : List Addr) (g : Nat → List Nat) : Prop where
  at_ : H p = some (.lst (cs.map V.ref))
  np : H0 p = none
  nd : cs.Nodup
  ne : ∀ c ∈ cs, c ≠ p ∧ H0 c = none
  row : ∀ i c, cs[i]? = some c → H c = some (.lst (iv (g i)))
theorem Rows.mono {H0 H H' : Hp} {p : Addr} {cs : List Addr} {g : Nat → List Nat} (R : Rows H0 H p cs g) (e : Same H H') : Rows H0 H' p cs g := ⟨e _ _ R.at_, R.np, R.nd, R.ne, fun i c h => e _ _ (R.row i c h)⟩
theorem Rows.congr {H0 H : Hp} {p : Addr} {cs : List Addr} {g g' : Nat → List Nat} (R : Rows H0 H p cs g) (h : ∀ i, i < cs.length → g i = g' i) : Rows H0 H p cs g' := ⟨R.at_, R.np, R.nd, R.ne, fun i c q => by rw [← h i (List.getElem?_eq_some_iff.mp q).1]; exact R.row i c q⟩
theorem Rows.put {H0 H : Hp} {p : Addr} {cs : List Addr} {g : Nat → List Nat} (R : Rows H0 H p cs g) {i : Nat} {c : Addr} (hc : cs[i]? = some c) (l : List Nat) : Rows H0 (upd H c (.lst (iv l))) p cs fun j => if j = i then l else g j := by
  have hcm := List.mem_of_getElem? hc
  refine ⟨by rw [upd_ne (R.ne c hcm).1.symm]; exact R.at_, R.np, R.nd, R.ne, fun j c' hj => ?_⟩
  by_cases e : j = i
  · subst e
    rw [hc] at hj
    rw [← Option.some.inj hj, upd_same, if_pos rfl]
  · have hne : c' ≠ c := fun z => by
      subst z
      exact e (nd_inj R.nd hj hc)
    rw [upd_ne hne, if_neg e]
    exact R.row j c' hj
/-- homes of beads -/
def HomesL (H : Hp) (v : V) (n : Nat) (F : Fam) : Prop := ∃ (p : Addr) (cs : List Addr), v = .ref p ∧ H p = some (.lst (cs.map V.ref)) ∧ cs.length = n ∧ ∀ b c, cs[b]? = some c → H c = some (.lst (iv (idxs F b)))
theorem HomesL.mono {H H' : Hp} (e : Same H H') {v : V} {n : Nat} {F : Fam} (h : HomesL H v n F) : HomesL H' v n F := by
  obtain ⟨p, cs, e1, e2, e3, e4⟩ := h
  exact ⟨p, cs, e1, e _ _ e2, e3, fun b c hc => e _ _ (e4 b c hc)⟩
theorem HomesL.get {H : Hp} {v : V} {n : Nat} {F : Fam} (h : HomesL H v n F) {b : Nat} (hb : b < n) : ∃ p xs c, v = .ref p ∧ H p = some (.lst xs) ∧ xs[b]? = some (.ref c) ∧ xs.length = n ∧ H c = some (.lst (iv (idxs F b))) := by
  obtain ⟨p, cs, e1, e2, e3, e4⟩ := h
  have hb' : b < cs.length := by omega
  refine ⟨p, _, cs[b], e1, e2, by simp [hb'], by rw [List.length_map]; exact e3, e4 b _ (by simp [hb'])⟩
end Sb

/-! R8: texts; dicts with texts as keys. -/
namespace Sb
open PySem L2
theorem S_inj {a b : List Nat} : S a = S b ↔ a = b := by
  constructor
  · intro e
    have : a.toArray = b.toArray := congrArg Str.cps e
    have q := congrArg Array.toList this
    simpa using q
  · intro e; rw [e]
theorem S_app (a b : List Nat) : S a ++ S b = S (a ++ b) := by
  show Str.mk (a.toArray ++ b.toArray) = ⟨(a ++ b).toArray⟩
  rw [List.append_toArray]
theorem S_len (a : List Nat) : (S a).length = a.length := by
  show a.toArray.size = _
  exact List.size_toArray
theorem S_join : ∀ ts : List (List Nat), Txt.join (S []) (ts.map S) = S ts.flatten := by
  intro ts
  rw [TL.join_eq]
  induction ts with
  | nil => rfl
  | cons t ts ih =>
    cases ts with
    | nil => simp [Str.join]
    | cons u r =>
      show S t ++ S [] ++ Str.join (S []) ((u :: r).map S) = _
      rw [ih, S_app, S_app]
      simp
theorem sv_eq (ts : List (List Nat)) : sv ts = (ts.map S).map V.str := by
  unfold sv
  rw [List.map_map]
  rfl
def kS (t : List Nat) : Key := Sum.inr (S t)
theorem kS_inj {a b : List Nat} : kS a = kS b ↔ a = b := by
  constructor
  · intro e
    exact S_inj.mp (Sum.inr.inj e)
  · intro e; rw [e]
/-- the dict of f over the texts in l -/
def dks (l : List (List Nat)) (f : List Nat → V) : List (Key × V) := l.map fun b => (kS b, f b)
theorem dks_length {l : List (List Nat)} {f : List Nat → V} : (dks l f).length = l.length := List.length_map _
theorem valV_dks {f : List Nat → V} {b : List Nat} : ∀ {l : List (List Nat)}, valV (dks l f) (kS b) = if b ∈ l then some (f b) else none
  | [] => rfl
  | a :: l => by
    have ih := valV_dks (f := f) (b := b) (l := l)
    show valV ((kS a, f a) :: dks l f) (kS b) = _
    by_cases e : a = b
    · subst e
      rw [valV_pos rfl, if_pos (List.mem_cons_self ..)]
    · rw [valV_neg (fun z => e (kS_inj.mp z)), ih]
      have e' : ¬ b = a := fun z => e z.symm
      simp [List.mem_cons, e']
theorem putK_dks_new {l : List (List Nat)} {f : List Nat → V} {b : List Nat} (h : b ∉ l) : putK (dks l f) (kS b) (f b) = dks (l ++ [b]) f := by
  rw [putK_new _ (by rw [valV_dks, if_neg h])]
  unfold dks
  rw [List.map_append]
  rfl
theorem putK_dks_old {l : List (List Nat)} {f : List Nat → V} {b : List Nat} (h : b ∈ l) {v : V} (hv : f b = v) : putK (dks l f) (kS b) v = dks l f := by
  have e : ((dks l f).any fun kv => decide (kv.1 = kS b)) = true := List.any_eq_true.mpr ⟨(kS b, f b), List.mem_map.mpr ⟨b, h, rfl⟩, by simp⟩
  unfold putK
  rw [if_pos e]
  unfold dks
  rw [List.map_map]
  refine List.map_congr_left fun c _ => ?_
  show (if kS c = kS b then (kS c, v) else (kS c, f c)) = (kS c, f c)
  by_cases q : c = b
  · subst q
    rw [if_pos rfl, hv]
  · rw [if_neg (fun z => q (kS_inj.mp z))]
theorem of_sv_get {ts : List (List Nat)} {i : Nat} {v : V} (h : (sv ts)[i]? = some v) : ∃ t, ts[i]? = some t ∧ v = V.str (S t) := by
  unfold sv at h
  rw [List.getElem?_map] at h
  cases e : ts[i]? with
  | none => rw [e] at h; cases h
  | some x => rw [e] at h; exact ⟨x, rfl, (Option.some.inj h).symm⟩
theorem sv_length (ts : List (List Nat)) : (sv ts).length = ts.length := List.length_map _
end Sb

/-! R9: two dicts that count neighbors, one node taken away. -/
namespace Sb
open PySem L2
def live (c : Bool → Nat) (L : Bool → Nat → Bool) (k : Bool) : List Nat := (List.range (c k)).filter (L k)
def Keeps (D : Bool → Addr) (A B : Hp) : Prop := ∀ b o, (∀ k, b ≠ D k) → A b = some o → B b = some o
theorem Keeps.refl {D : Bool → Addr} {A : Hp} : Keeps D A A := fun _ _ _ h => h
theorem Keeps.trans {D : Bool → Addr} {A B C : Hp} (h : Keeps D A B) (h' : Keeps D B C) : Keeps D A C := fun b o n q => h' b o n (h b o n q)
theorem Keeps.of {D : Bool → Addr} {A B : Hp} (h : Same A B) : Keeps D A B := fun b o _ q => h b o q
theorem Keeps.put {D : Bool → Addr} {A B : Hp} (h : Keeps D A B) (k : Bool) (o : HO) : Keeps D A (upd B (D k) o) := fun b o' n q => by
  rw [upd_ne (n k)]
  exact h b o' n q
theorem Keeps.same {D : Bool → Addr} {A B : Hp} (h : Keeps D A B) (n : ∀ k, A (D k) = none) : Same A B := fun b o q => h b o (fun k z => by rw [z, n k] at q; cases q) q
theorem mem_live {c : Bool → Nat} {L : Bool → Nat → Bool} {k : Bool} {v : Nat} : v ∈ live c L k ↔ v < c k ∧ L k v = true := by
  unfold live
  rw [List.mem_filter, List.mem_range]
theorem live_card {c : Bool → Nat} {L : Bool → Nat → Bool} : (live c L true).length + (live c L false).length = card c L := by
  show _ = lcard c L true + lcard c L false
  rw [lcard_eq, lcard_eq]
  rfl
theorem live_le {c : Bool → Nat} {L : Bool → Nat → Bool} {k : Bool} : (live c L k).length ≤ c k := by
  have := List.length_filter_le (L k) (List.range (c k))
  rw [List.length_range] at this
  exact this
theorem live_del {c : Bool → Nat} {L : Bool → Nat → Bool} {k : Bool} {v : Nat} : (live c L k).filter (fun w => decide (w ≠ v)) = live c (del L k v) k := by
  unfold live
  rw [List.filter_filter]
  refine List.filter_congr fun w _ => ?_
  by_cases e : w = v
  · subst e; rw [del_self]; simp
  · rw [del_ne e]; simp [e]
theorem live_del_nk {c : Bool → Nat} {L : Bool → Nat → Bool} {k : Bool} {v : Nat} : live c (del L k v) (!k) = live c L (!k) := List.filter_congr fun w _ => del_nk
def dgv (nb : Nb) (L : Bool → Nat → Bool) (k : Bool) : Nat → V := fun v => .int (deg nb L k v : Nat)
/-- both dicts stand -/
structure HS (H0 H : Hp) (D : Bool → Addr) (nb : Nb) (c : Bool → Nat) (L : Bool → Nat → Bool) : Prop where
  kp : Keeps D H0 H
  ne : D true ≠ D false
  d : ∀ k, H (D k) = some (.dK (dk (live c L k) (dgv nb L k)))
def half (nb : Nb) (L : Bool → Nat → Bool) (k : Bool) (v t : Nat) : Nat → V := fun w => .int ((deg nb L (!k) w : Int) - if w ∈ (nb k v).take t then 1 else 0)
/-- one node is gone, its first t neighbors have been told -/
structure HT (H0 H : Hp) (D : Bool → Addr) (nb : Nb) (c : Bool → Nat) (L : Bool → Nat → Bool) (k : Bool) (v t : Nat) : Prop where
  kp : Keeps D H0 H
  ne : D true ≠ D false
  d1 : H (D k) = some (.dK (dk (live c (del L k v) k) (dgv nb (del L k v) k)))
  d2 : H (D (!k)) = some (.dK (dk (live c L (!k)) (half nb L k v t)))
section
variable {H0 H : Hp} {D : Bool → Addr} {nb : Nb} {c : Bool → Nat} {L : Bool → Nat → Bool} {k : Bool} {v t : Nat}
theorem ne_k (h : D true ≠ D false) : D k ≠ D (!k) := by
  cases k
  · exact h.symm
  · exact h
theorem HS.congr {L' : Bool → Nat → Bool} (S : HS H0 H D nb c L) (inb : ∀ k v w, v < c k → w ∈ nb k v → w < c (!k)) (e : ∀ k v, v < c k → L k v = L' k v) : HS H0 H D nb c L' := by
  refine ⟨S.kp, S.ne, fun k => ?_⟩
  rw [S.d k]
  have e1 : live c L k = live c L' k := List.filter_congr fun w hw => e k w (List.mem_range.mp hw)
  rw [← e1]
  congr 2
  refine dk_congr fun b hb => ?_
  unfold dgv
  rw [deg_congr inb e (mem_live.mp hb).1]
theorem HS.keep {H1 : Hp} (S : HS H1 H D nb c L) (h : Keeps D H0 H1) : HS H0 H D nb c L := ⟨h.trans S.kp, S.ne, S.d⟩
theorem HS.new {H' : Hp} (S : HS H0 H D nb c L) (h : Same H H') : HS H0 H' D nb c L := ⟨S.kp.trans (.of h), S.ne, fun k => h _ _ (S.d k)⟩
theorem HS.start (S : HS H0 H D nb c L) : HT H0 (upd H (D k) (.dK (dropK (dk (live c L k) (dgv nb L k)) (kI v)))) D nb c L k v 0 := by
  refine ⟨S.kp.put k _, S.ne, ?_, ?_⟩
  · rw [upd_same, dropK_dk, live_del]
    congr 2
    refine dk_congr fun b _ => ?_
    unfold dgv
    rw [deg_del_k]
  · rw [upd_ne (ne_k S.ne).symm, S.d (!k)]
    refine congrArg (fun z => some (HO.dK z)) (dk_congr fun b _ => ?_)
    unfold dgv half
    simp
theorem HT.step_out {w : Nat} (S : HT H0 H D nb c L k v t) (hw : (nb k v)[t]? = some w) (hl : w ∉ live c L (!k)) : HT H0 H D nb c L k v (t + 1) := by
  refine ⟨S.kp, S.ne, S.d1, ?_⟩
  rw [S.d2]
  congr 2
  refine dk_congr fun b hb => ?_
  unfold half
  have e : (nb k v).take (t + 1) = (nb k v).take t ++ [w] := by rw [List.take_add_one, hw]; rfl
  have hbw : b ≠ w := fun z => hl (z ▸ hb)
  rw [e]
  simp [hbw]
theorem HT.step_in {w : Nat} (S : HT H0 H D nb c L k v t) (nd : (nb k v).Nodup) (hw : (nb k v)[t]? = some w) (hl : w ∈ live c L (!k)) {x : Int} (hx : half nb L k v t w = .int x) :
    HT H0 (upd H (D (!k)) (.dK (putK (dk (live c L (!k)) (half nb L k v t)) (kI w) (.int (x - 1))))) D nb c L k v (t + 1) := by
  have e : (nb k v).take (t + 1) = (nb k v).take t ++ [w] := by rw [List.take_add_one, hw]; rfl
  have hn : w ∉ (nb k v).take t := fun m => by
    have q : ((nb k v).take (t + 1)).Nodup := nd.sublist (List.take_sublist _ _)
    rw [e] at q
    exact (List.nodup_append.mp q).2.2 w m w (List.mem_singleton_self w) rfl
  refine ⟨S.kp.put _ _, S.ne, ?_, ?_⟩
  · rw [upd_ne (ne_k S.ne)]
    exact S.d1
  · rw [upd_same, putK_dk_old hl]
    congr 2
    refine dk_congr fun b hb => ?_
    unfold half at hx ⊢
    rw [if_neg hn] at hx
    have hx' := V.int.inj hx
    by_cases q : b = w
    · subst q
      rw [if_pos rfl, e, if_pos (by simp)]
      congr 1
      omega
    · rw [if_neg q, e]
      simp [q]
theorem HT.done (S : HT H0 H D nb c L k v t) (T : TreeP nb c) (hv : v < c k) (hL : L k v = true) (ht : (nb k v).length ≤ t) : HS H0 H D nb c (del L k v) := by
  refine ⟨S.kp, S.ne, fun j => ?_⟩
  rcases beq_or k j with rfl | rfl
  · exact S.d1
  · rw [S.d2, live_del_nk]
    congr 2
    refine dk_congr fun b hb => ?_
    have hb' := mem_live.mp hb
    unfold half dgv
    rw [List.take_of_length_le ht]
    have q := deg_del_nk (nb := nb) (L := L) (k := k) (v := v) (w := b) (T.nd _ _ hb'.1) hL
    have sy : v ∈ nb (!k) b ↔ b ∈ nb k v := by
      constructor
      · intro h
        have := T.sym _ _ _ hb'.1 h
        rw [bnn] at this
        exact this
      · intro h
        exact T.sym _ _ _ hv h
    congr 1
    by_cases m : b ∈ nb k v
    · rw [if_pos m]
      rw [if_pos (sy.mpr m)] at q
      omega
    · rw [if_neg m]
      rw [if_neg (fun z => m (sy.mp z))] at q
      omega
end
theorem seq_sel3 {K : PySem.W.Frag} {D : Bool → Addr} {H0 : Hp} {a : Addr} {us : List V} (h : H0 a = some (.lst us) ∨ H0 a = some (.tup us)) (hne : ∀ k, a ≠ D k) : ∃ J, Walk J us.length (Keeps D H0) (YAt us) ∧
    ∀ H, Keeps D H0 H → ∀ R : It → Hp → Prop, R J H → iSel K H a R := by
  rcases h with h | h
  · exact ⟨Itl K a, (walk_list (K := K)).mono (fun H' e => SqL.of (e _ _ hne h)) (fun _ _ _ _ _ _ y => y), fun H e R r => .inl ⟨⟨_, SqL.of (e _ _ hne h)⟩, r⟩⟩
  · exact ⟨Itt K a, (walk_tup (K := K)).mono (fun H' e => SqT.of (e _ _ hne h)) (fun _ _ _ _ _ _ y => y), fun H e R r => .inr ⟨⟨_, SqT.of (e _ _ hne h)⟩, r⟩⟩
end Sb

/-! R10: sorted of a tuple of numbers. -/
namespace Sb
open PySem PySem.Spec PyProof.Rows L2
section
variable {prog : Program} {w : World} {A : Around} {E : Value → Shared → Prop} {s : Shared}
theorem collectT {l : Addr} {vs : List Value} {Q : List Value → Shared → Prop} (hl : s.heap.IsTuple l vs.toArray) (hsz : vs.length ≤ sizeLine)
    (h : ∀ s1 : Shared, (∀ b o, s.heap.get? b = some o → s1.heap.get? b = some o) → s.heap.objs.size ≤ s1.heap.objs.size → s1.gens = s.gens → s1.os = s.os → Q vs s1) :
    wpAny (model prog w) A (collect (.ref l)) Q E s := by
  obtain ⟨o, ho, hc, n, hd⟩ := id hl
  have ho' : (s.heap.push (seqObj "list" #[] 0)).get? l = some o := Heap.get?_push_of_some _ ho
  have hnew : (s.heap.push (seqObj "list" #[] 0)).get? s.heap.objs.size = some (seqObj "list" #[] 0) := Heap.get?_push_size _ rfl
  have ht : (Value.type "tuple" == Value.type "tuple") = true := by rfl
  unfold collect
  refine wpAny_bind (wpAny_runValue (codeAny_builtin entry_proto_collect' ?_))
  show wpAny _ _ (do again (.builtin "list.__iadd__" ⟨[← newList [], .ref l], []⟩)) _ _ s
  refine wpAny_bind (wpAny_newList (wpAny_pure ⟨Code.quiet_builtin _ (by decide +kernel), codeAny_builtin entry_list_iadd' ?_⟩))
  show wpAny _ _ (Builtin.List.listExtendWith (.ref s.heap.objs.size) (.ref l) (.ref s.heap.objs.size)) _ _ { s with heap := s.heap.push (seqObj "list" #[] 0) }
  unfold Builtin.List.listExtendWith
  refine wpAny_bind (wpAny_typeOf (T := "tuple") ⟨o, ho', hc⟩ ?_)
  rw [if_pos (by rw [ht]; simp)]
  refine wpAny_bind (listItems_at ho' hd (wpAny_bind (listItems_at (xs := #[]) (n := 0) hnew rfl ?_)))
  rw [if_neg (by simp)]
  refine wpAny_bind (listUpdate_at (xs := #[]) (n := 0) hnew rfl ?_ (Nat.zero_le _) (by show (#[] ++ vs.toArray).size ≤ sizeLine + 1; simp only [Array.size_append, List.size_toArray, List.length_nil]; omega))
  refine wpAny_pure ?_
  show wpAny (model prog w) A (do
      let o ← load s.heap.objs.size
      match o.data with
      | .seq xs _ => pure xs.toList
      | _ => unsupported "internal:collect") Q E { s with heap := (s.heap.push (seqObj "list" #[] 0)).update s.heap.objs.size (Obj.mapSeq (· ++ vs.toArray)) }
  refine wpAny_bind (wpAny_load (get?_update_seq hnew _) ?_)
  show wpAny _ _ (pure ((#[] : Array Value) ++ vs.toArray).toList) Q E _
  have e : ((#[] : Array Value) ++ vs.toArray).toList = vs := by simp
  rw [e]
  refine wpAny_pure (h _ (fun b u q => ?_) ?_ rfl rfl)
  · show ((s.heap.push (seqObj "list" #[] 0)).update s.heap.objs.size (Obj.mapSeq (· ++ vs.toArray))).get? b = some u
    rw [Heap.get?_update_ne _ _ _ _ (Nat.ne_of_lt (Heap.lt_size q))]
    exact Heap.get?_push_of_some _ q
  · show s.heap.objs.size ≤ ((s.heap.push (seqObj "list" #[] 0)).update s.heap.objs.size (Obj.mapSeq (· ++ vs.toArray))).objs.size
    rw [Heap.size_update, size_push']
    exact Nat.le_succ _
theorem sortedTI {l : Addr} {vs : List Value} {ns : List Int} {Q : Value → Shared → Prop} (hl : s.heap.IsTuple l vs.toArray) (hI : IntsAre vs ns) (h64 : vs.length < 64)
    (hQ : ∀ s' p (out : Array Value) (c : Nat) (ns' : List Int), (∀ b o, s.heap.get? b = some o → s'.heap.get? b = some o) → s'.gens = s.gens → s'.os = s.os → s.heap.objs.size ≤ p →
      s'.heap.get? p = some (seqObj "list" out c) → IntsAre out.toList ns' → ns'.Perm ns → ns'.Pairwise (· ≤ ·) → Q (.ref p) s') :
    wpAny (model prog w) A (call (.builtin "sorted") [.ref l]) Q E s := by
  refine Calls.call_function_entry kind_sorted plain_sorted entry_sorted (args_sorted1 _) ?_
  unfold Builtin.«sorted»
  refine wpAny_bind (m := checkCount "sorted" 1 1 _) (wpAny_pure ?_)
  refine wpAny_bind (collectT (A := A.in1) hl (by rw [sizeLine_eq]; omega) fun s1 k1 hz g1 o1 => ?_)
  refine wpAny_bind (wpAny_newList ?_ (by rw [sizeLine_eq]; omega))
  have hoL : (s1.heap.push (seqObj "list" vs.toArray 0)).get? s1.heap.objs.size = some (seqObj "list" vs.toArray 0) := Heap.get?_push_size _ rfl
  refine wpAny_bind (wpAny_holding (wpAny_call_entry slot_list_sort ⟨_, hoL, rfl⟩ entry_list_sort (list_sort_tree hoL hI h64 fun out ns' a1 a2 a3 => ⟨_, rfl, ?_⟩) (args_list_sort _)))
  obtain ⟨c, hc⟩ := sortedHeap_at (vs := vs) (out := out) hoL
  refine wpAny_pure ⟨_, rfl, hQ _ s1.heap.objs.size out c ns' (fun b u e => ?_) g1 o1 hz hc a1 a2 a3⟩
  have q := k1 b u e
  have hlt := Heap.lt_size q
  show (sortedHeap (s1.heap.push (seqObj "list" vs.toArray 0)) s1.heap.objs.size vs out).get? b = some u
  rw [sortedHeap_old (Nat.ne_of_lt hlt) (by rw [size_push']; exact Nat.lt_succ_of_lt hlt)]
  exact Heap.get?_push_of_some _ q
end
def rSortTN (K : PySem.W.Frag) : List V → Hp → VK → Prop := fun vs H Q => ∃ (a : Addr) (l : List Nat), vs = [.ref a] ∧ SqT K H a (iv l) ∧ l.length < 64 ∧ ∀ p, H p = none → Q (.ref p) (upd H p (.lst (iv (sortN l))))
theorem cr_sortTN {X : Cx} : CallR X (.builtin "sorted") (rSortTN X.K) := by
  intro pins s σ H vs us Q I r h
  obtain ⟨a, l, rfl, hs, h64, q⟩ := h
  obtain ⟨its, rv, pl, _⟩ := I.tuple hs
  rw [Vals.ref1 r]
  rw [iv_int] at rv
  have hi := rv.ints
  have hil : its.length = l.length := by rw [hi.length, List.length_map]
  refine sortedTI (show s.heap.IsTuple a its.toArray from pl) hi (by omega) fun s' p out c ns k g o hp hg hi' hpm hsd => ?_
  have en := sorted_nats hpm hsd
  subst en
  have hlen : (((sortN l).map fun n : Nat => (n : Int)).map V.int).length ≤ sizeLine := by rw [List.length_map, List.length_map, sortN_length, sizeLine_eq]; omega
  have hn : H p = none := I.hok.fresh hp
  have J : Inv X pins σ (upd H p (.lst (((sortN l).map fun n : Nat => (n : Int)).map V.int))) { s with heap := s'.heap, gens := s'.gens, drawn := s'.drawn, toks := s'.toks } :=
    I.call (ch := []) (Un.laid k hp hn) (I.hok.laid k hp ⟨hlen, out.toList, c, vals_of_ints hi', hg⟩) (by rw [g]; exact I.bare) (fun _ z => nomatch z)
  have e : s' = { s with heap := s'.heap, gens := s'.gens, drawn := s'.drawn, toks := s'.toks } := by
    cases s'
    cases s
    cases o
    rfl
  rw [e]
  exact ⟨.ref p, _, J, rfl, by rw [← iv_int]; exact q p hn⟩
theorem cSortTN {X : Cx} (K : PySem.W.Frag) (hK : X.K = K := by rfl) : CallR X (.builtin "sorted") (rSortTN K) := by subst hK; exact cr_sortTN
end Sb

/-! R11: sorted(set(t)) of a tuple of numbers. -/
namespace Sb
open PySem PySem.Spec PyProof.Rows L2
def rSetTI (K : PySem.W.Frag) (w : World) : List V → Hp → VK → Prop := fun vs H Q => ∃ (a : Addr) (l : List Nat), vs = [.ref a] ∧ SqT K H a (iv l) ∧ l.length ≤ 1000 ∧
  ∀ p c, H p = none → c ≤ l.length → Q (.ref p) (upd H p (SetO w p (fun j => decide (j ∈ l.map fun n : Nat => (n : Int))) c))
theorem cr_setTI {X : Cx} (hc : X.calm = true) : CallR X (.type "set") (rSetTI X.K X.w) := by
  intro pins s σ H vs us Q I r h
  obtain ⟨a, l, rfl, hs, hl, q⟩ := h
  obtain ⟨its, rv, pl, _⟩ := I.tuple hs
  rw [Vals.ref1 r]
  rw [iv_int] at rv
  have hi := rv.ints
  refine call_set_tupI (l.map fun n : Nat => (n : Int)) (I.ok.hd hc) (show s.heap.IsTuple a its.toArray from pl) (by simpa using hi) (by rw [List.length_map]; unfold scanBound; omega) fun h' tk c hS hcl hk => ?_
  rw [List.length_map] at hcl
  exact ⟨.ref _, upd H s.heap.objs.size (SetO X.w s.heap.objs.size (fun j => decide (j ∈ l.map fun n : Nat => (n : Int))) c), I.laid (t' := tk) (fun b u e => hk b u e) (Nat.le_refl _) (setO_new hS), rfl, q _ c (I.hok.fresh (Nat.le_refl _)) hcl⟩
theorem cSetTI {X : Cx} (K : PySem.W.Frag) (w : World) (hc : X.calm = true := by rfl) (hK : X.K = K := by rfl) (hw : X.w = w := by rfl) : CallR X (.type "set") (rSetTI K w) := by subst hK hw; exact cr_setTI hc
theorem cSortSet {X : Cx} (w : World) (hc : X.calm = true := by rfl) (hw : X.w = w := by rfl) : CallR X (.builtin "sorted") (rSortedSet w) := by subst hw; exact cr_sortedSet hc
/-- what the sorted set holds -/
theorem sorted_set_nats {l : List Nat} {ns : List Int} (h : ns.Pairwise (· < ·)) (m : ∀ k : Int, k ∈ ns ↔ decide (k ∈ l.map fun n : Nat => (n : Int)) = true) : ns = (sortN (uniq l)).map fun n : Nat => (n : Int) := by
  have hm : ∀ k : Int, k ∈ ns ↔ ∃ n ∈ l, (n : Int) = k := fun k => by
    rw [m k, decide_eq_true_eq, List.mem_map]
  obtain ⟨l', rfl⟩ : ∃ l' : List Nat, ns = l'.map fun n : Nat => (n : Int) := by
    refine ⟨ns.map Int.toNat, ?_⟩
    rw [List.map_map]
    refine ((List.map_congr_left (g := id) fun i hi => ?_).trans (List.map_id ns)).symm
    obtain ⟨n, _, rfl⟩ := (hm i).mp hi
    show (((n : Int).toNat : Nat) : Int) = (n : Int)
    rw [Int.toNat_natCast]
  have h' : l'.Pairwise (· < ·) := (List.pairwise_map.mp h).imp fun q => by omega
  have hs : (sortN (uniq l)).Pairwise (· < ·) := lt_of_le_nodup (sortN_sorted _) ((sortN_perm _).nodup_iff.mpr (nodup_uniq _))
  congr 1
  refine sorted_lt_ext h' hs fun x => ?_
  rw [(sortN_perm _).mem_iff, mem_uniq]
  constructor
  · intro hx
    obtain ⟨n, hn, e⟩ := (hm x).mp (List.mem_map.mpr ⟨x, hx, rfl⟩)
    have : n = x := by omega
    exact this ▸ hn
  · intro hx
    obtain ⟨n, hn, e⟩ := List.mem_map.mp ((hm x).mpr ⟨x, hx, rfl⟩)
    have : n = x := by omega
    exact this ▸ hn
end Sb

/-! R12: list.count of data; sorted of a set of tuples of any lengths. -/
namespace Sb
open PySem PySem.Spec PyProof.Rows L2
def rCountD (K : PySem.W.Frag) : V → List V → Hp → VK → Prop := fun x xs H Q => ∃ (a : Addr) (y : V) (d : PyData) (ds : List PyData), x = V.ref a ∧ xs = [y] ∧ Dp K H (V.ref a) (.list ds) ∧ Dp K H y d ∧
  SeqAt.shaped (.list ds) = true ∧ SeqAt.shaped d = true ∧ Q (.int (ds.countP (fun z => PyData.eqv z d) : Nat)) H
theorem mt_countD {X : Cx} (hu : X.A.units + 65 < cLine) : MtR X "list.count" (rCountD X.K) := by
  intro pins s σ H x xs v us Q I rx rxs h
  obtain ⟨a, y, d, ds, rfl, rfl, hl, hy, sl, sd, q⟩ := h
  cases rx
  obtain ⟨uy, rfl, ry⟩ := rxs.one
  obtain ⟨bs, r1⟩ := Dp.reads I d y uy hy ry
  have hxs : PyData.canLayAll0 ds = true := SeqAt.canLay_of_shaped sl
  have hroom : X.A.units + 1 + min (PyData.depthAll ds) d.depth < cLine := room_in_shaped sd hu
  cases hl with
  | lst hs ha =>
    obtain ⟨its, rv, ⟨⟨cls, dd, data, sls⟩, n, ho, hc, hdn, hdt⟩, hlen⟩ := I.list hs
    simp only at hc hdt
    subst hc hdt
    obtain ⟨as, h4⟩ := Dp.readsAll I ds _ its ha rv
    have hmap : its.map (SeqAt.readOf s.heap) = ds := SeqAt.readsAll_map ds its as hxs h4
    refine call_meets PySem.F.slot_list_count ⟨_, ho, rfl⟩ PySem.F.entry_list_count (PySem.F.args_list_count_2 _ _)
      (SeqAt.list_countAt a its.toArray n dd sls uy (fun u => PyData.eqv (SeqAt.readOf s.heap u) d)) ⟨ho, SeqAt.items_eqAt (vs := its.toArray) (show ReadsAll s.heap its.toArray.toList ds as from h4) r1 hxs (SeqAt.canLay_of_shaped sd) hroom, ?_⟩
    refine ⟨.int (ds.countP (fun z => PyData.eqv z d) : Nat), H, I.tok _, ⟨s.toks, ?_⟩, q⟩
    show Value.int ((its.toArray.toList.countP fun u => PyData.eqv (SeqAt.readOf s.heap u) d : Nat) : Int) s.toks = _
    rw [← hmap, List.countP_map]
    rfl
theorem mCountD {X : Cx} (K : PySem.W.Frag) {k : Nat} (hr : Room k X.A) (hK : X.K = K := by rfl) : MtR X "list.count" (rCountD K) := by
  subst hK
  exact mt_countD (by have := hr.un; omega)
theorem oInD {X : Cx} (K : PySem.W.Frag) {k : Nat} (hr : Room k X.A) (hK : X.K = K := by rfl) : OpR X (compareOp .In) (rInD K) := by
  subst hK
  exact op_inD (by have := hr.un; omega)
section
variable {prog : Program} {w : World} {A : Around} {E : Value → Shared → Prop} {s : Shared} {β : Type} {enc : β → PyData} {R : Value → β → Prop}
theorem each_perm {R : Value → β → Prop} {us vs : List Value} (p : us.Perm vs) : ∀ {bs : List β}, PySem.W.EachIs R us bs → ∃ bs', bs'.Perm bs ∧ PySem.W.EachIs R vs bs' := by
  induction p with
  | nil =>
    intro bs e
    exact ⟨bs, List.Perm.refl _, e⟩
  | cons x _ ih =>
    intro bs e
    cases e with
    | cons h t =>
      obtain ⟨bs', p1, e1⟩ := ih t
      exact ⟨_ :: bs', p1.cons _, .cons h e1⟩
  | swap x y l =>
    intro bs e
    cases e with
    | cons h t =>
      cases t with
      | cons h2 t2 => exact ⟨_ :: _ :: _, List.Perm.swap .., .cons h2 (.cons h t2)⟩
  | trans _ _ h1 h2 =>
    intro bs e
    obtain ⟨b1, p1, e1⟩ := h1 e
    obtain ⟨b2, p2, e2⟩ := h2 e1
    exact ⟨b2, p2.trans p1, e2⟩
theorem eachLen {α γ : Type} {R : α → γ → Prop} : ∀ {l : List α} {l' : List γ}, PySem.W.EachIs R l l' → l.length = l'.length
  | _, _, .nil => rfl
  | _, _, .cons _ t => congrArg (· + 1) (eachLen t)
/-- sorted of whatever gives its items in some order -/
theorem sortedAny {v : Value} {us : List Value} {bs : List β}
    (hcol : ∀ (Q' : List Value → Shared → Prop) (E' : Value → Shared → Prop), (∀ s1 vs, (∀ b o, s.heap.get? b = some o → s1.heap.get? b = some o) → s.heap.objs.size ≤ s1.heap.objs.size → s1.gens = s.gens → s1.os = s.os → us.Perm vs → Q' vs s1) → wpAny (model prog w) A.in1 (collect v) Q' E' s)
    (er : PySem.W.EachIs (fun u b => R u b ∧ ∃ as, Reads s.heap u (enc b) as) us bs) (hal : ∀ a b, PySem.W.alike (enc a) (enc b) = true) (hk : ∀ bs' : List β, bs'.Perm bs → PySem.W.Sortable (bs'.map enc)) (hL : bs.length ≤ 10000)
    (hu : ∀ b, A.units + 2 + (enc b).depth < cLine) {Q : Value → Shared → Prop}
    (hQ : ∀ s' p (out : List Value) (c : Nat) (bs' : List β), (∀ b o, s.heap.get? b = some o → s'.heap.get? b = some o) → s'.gens = s.gens → s'.os = s.os → s.heap.objs.size ≤ p → s'.heap.get? p = some (seqObj "list" out.toArray c) → bs'.Perm bs →
      PySem.W.EachIs R out (bs'.mergeSort (PySem.W.dataLe false enc)) → Q (.ref p) s') :
    wpAny (model prog w) A (call (.builtin "sorted") [v]) Q E s := by
  refine Calls.call_function_entry kind_sorted plain_sorted entry_sorted (args_sorted1 _) ?_
  unfold Builtin.«sorted»
  refine wpAny_bind (m := checkCount "sorted" 1 1 _) (wpAny_pure ?_)
  refine wpAny_bind (hcol _ _ fun s1 vs k1 hz g1 o1 pm => ?_)
  obtain ⟨bs', pb, ev⟩ := each_perm pm er
  have hvl : vs.length = bs.length := by rw [← pm.length_eq, eachLen er]
  have hvL : vs.length ≤ sizeLine := by rw [sizeLine_eq]; omega
  refine wpAny_bind (wpAny_newList ?_ hvL)
  have hoL : (s1.heap.push (seqObj "list" vs.toArray 0)).get? s1.heap.objs.size = some (seqObj "list" vs.toArray 0) := Heap.get?_push_size _ rfl
  have kk : ∀ b o, s.heap.get? b = some o → (PySem.W.sortingHeap (s1.heap.push (seqObj "list" vs.toArray 0)) s1.heap.objs.size vs).get? b = some o := fun b o q => by
    have q1 := k1 b o q
    exact PySem.W.sortingHeap_old (Nat.ne_of_lt (Heap.lt_size q1)) (Heap.get?_push_of_some _ q1)
  have er' : PySem.W.EachIs (fun u b => ∃ as, Reads (PySem.W.sortingHeap (s1.heap.push (seqObj "list" vs.toArray 0)) s1.heap.objs.size vs) u (enc b) as) vs bs' := each_mono (fun _ _ ⟨_, as, r⟩ => ⟨as, PyProof.Rows.Reads.keeps kk r⟩) ev
  have hal' : PySem.W.AllAlike (bs'.map enc) := PySem.W.AllAlike.of hal
  have so := PySem.W.SortsAt.data (prog := prog) (w := w) (A := A.in1.in1) (s := { s1 with heap := PySem.W.sortingHeap (s1.heap.push (seqObj "list" vs.toArray 0)) s1.heap.objs.size vs }) (PySem.W.each_map (R := fun u d => ∃ as, Reads (PySem.W.sortingHeap (s1.heap.push (seqObj "list" vs.toArray 0)) s1.heap.objs.size vs) u d as) enc er') hal' (hk bs' pb) (PySem.W.bound_map fun b _ => by
    have := hu b
    show A.units + 2 + (enc b).depth < cLine
    exact this)
  refine wpAny_bind (wpAny_holding (wpAny_call_entry slot_list_sort ⟨_, hoL, rfl⟩ entry_list_sort (PySem.W.list_sort_vals (s := { s1 with heap := s1.heap.push (seqObj "list" vs.toArray 0) }) hoL so hvL ⟨_, rfl, ?_⟩) (args_list_sort _)))
  have eo := PySem.W.sortVals_data false (each_mono (fun _ _ z => z.1) ev) er' hal'
  obtain ⟨c, hc⟩ := sortedHeap_at (vs := vs) (out := (PySem.W.sortVals (PySem.W.dataKind (PySem.W.sortingHeap (s1.heap.push (seqObj "list" vs.toArray 0)) s1.heap.objs.size vs) (bs'.map enc)) false vs vs).toArray) hoL
  refine wpAny_pure ⟨_, rfl, hQ _ s1.heap.objs.size _ c bs' (fun b u e => ?_) g1 o1 hz hc pb eo⟩
  have q := k1 b u e
  have hlt := Heap.lt_size q
  show (sortedHeap (s1.heap.push (seqObj "list" vs.toArray 0)) s1.heap.objs.size vs _).get? b = some u
  rw [sortedHeap_old (Nat.ne_of_lt hlt) (by rw [size_push']; exact Nat.lt_succ_of_lt hlt)]
  exact Heap.get?_push_of_some _ q
end
/-- sorted(set), tuples of numbers -/
def rSortedTV (K : PySem.W.Frag) (P : Program) (w : World) : List V → Hp → VK → Prop := fun vs H Q => ∃ (a : Addr) (L : List (Addr × List Int)) (Lz : List (Addr × List Nat)), vs = [V.ref a] ∧ H a = some (SetTO P w a L) ∧ L = Lz.map (fun p => (p.1, p.2.map fun n : Nat => (n : Int))) ∧ (∀ p ∈ Lz, TupN H (.ref p.1) p.2 ∧ p.2 ≠ []) ∧ Lz.length < 64 ∧
  ∀ ys p, Paired (TupN H) ys (sortL (Lz.map (·.2))) → (Lz.map (·.2)).Nodup → H p = none → Q (.ref p) (upd H p (.lst ys))
theorem dataLe_P : PySem.W.dataLe false (fun p : Addr × List Nat => dT p.2) = fun p q => lexLe p.2 q.2 := by
  funext p q
  have e := congrFun (congrFun dataLe_T p.2) q.2
  rw [← e, PySem.W.dataLe_eq, PySem.W.dataLe_eq]
theorem sort_snd (L : List (Addr × List Nat)) : (L.mergeSort (fun p q => lexLe p.2 q.2)).map (·.2) = sortL (L.map (·.2)) := by
  refine (sortL_eq ((List.mergeSort_perm L _).map (·.2)).symm ?_).symm
  exact List.pairwise_map.mpr (List.pairwise_mergeSort (le := fun p q : Addr × List Nat => lexLe p.2 q.2) (fun a b c => ordL.trans a.2 b.2 c.2) (fun a b => by
    rcases ordL.tot a.2 b.2 with h | h
    · rw [h]; rfl
    · rw [h, Bool.or_true]) L)
theorem cr_sortedTV {X : Cx} {k : Nat} (hr : Room k X.A) (hc : X.calm = true) : CallR X (.builtin "sorted") (rSortedTV X.K X.prog X.w) := by
  intro pins s σ H vs us Q I r h
  obtain ⟨a, L, Lz, rfl, ha, rfl, hk, hf, q⟩ := h
  have R0 : SetT0 X.prog X.w s.heap a _ := (I.hok a _ ha).1
  obtain ⟨es, ep, t, RR⟩ := R0.full fun p hp => by
    obtain ⟨p2, hp2, rfl⟩ := List.mem_map.mp hp
    obtain ⟨b, e1, e2⟩ := (hk p2 hp2).1
    have e3 : p2.1 = b := V.ref.inj e1
    refine I.isT (SqT.of ?_)
    show H p2.1 = _
    rw [e3, e2, iv_int]
  have hsz := RR.size
  rw [List.length_map] at hsz
  rw [Vals.ref1 r]
  obtain ⟨o, ho, hex, hd⟩ := RR.ob
  have hes : es.toList.map (·.2) = Lz.map fun p => Value.ref p.1 := by
    rw [RR.rows]
    unfold rowsOf
    rw [List.map_map, List.map_map]
    rfl
  have er : PySem.W.EachIs (fun u b => u = Value.ref b.1 ∧ ∃ as, Reads s.heap u (dT b.2) as) (Lz.map fun p => Value.ref p.1) Lz := by
    have key : ∀ l : List (Addr × List Nat), (∀ p ∈ l, TupN H (.ref p.1) p.2) → PySem.W.EachIs (fun u b => u = Value.ref b.1 ∧ ∃ as, Reads s.heap u (dT b.2) as) (l.map fun p => Value.ref p.1) l := by
      intro l
      induction l with
      | nil => intro _; exact .nil
      | cons p l ih =>
        intro hl
        refine .cons ⟨rfl, ?_⟩ (ih fun q hq => hl q (List.mem_cons_of_mem _ hq))
        exact Dp.reads I _ _ _ (TupN.dp (hl p (List.mem_cons_self ..))) rfl
    exact key Lz fun p hp => (hk p hp).1
  have hroom := hr.un
  refine sortedAny (R := fun u (b : Addr × List Nat) => u = Value.ref b.1) (enc := fun b : Addr × List Nat => dT b.2) (us := Lz.map fun p => Value.ref p.1) (bs := Lz) (fun Q' E' hQ' => ?_) er (fun a b => alike_T _ _) (fun bs' pb => .inl fun d hd => ?_) (by omega) (fun b => by have := depth_T b.2; omega) fun s' p out c bs' k g o' hp hg pb eo => ?_
  · refine collect_set (A := X.A.in1) (I.ok.hd hc) ⟨o, ho, hex.1, hd⟩ RR.fits (by unfold scanBound; omega) RR.tab.ris RR.led fun s1 vs k1 hz g1 o1 pm => ?_
    rw [hes] at pm
    exact hQ' s1 vs k1 hz g1 o1 pm.symm
  · obtain ⟨b, hb, rfl⟩ := List.mem_map.mp hd
    have hne := (hk b (pb.mem_iff.mp hb)).2
    cases hb2 : b.2 with
    | nil => exact absurd hb2 hne
    | cons x r => exact ⟨_, _, rfl⟩
  · rw [dataLe_P] at eo
    have hn : H p = none := I.hok.fresh hp
    have ems : (bs'.mergeSort fun p q => lexLe p.2 q.2).map (·.2) = sortL (Lz.map (·.2)) := by
      rw [sort_snd]
      exact sortL_congr (pb.map (·.2))
    have hmem : ∀ b ∈ bs'.mergeSort (fun p q => lexLe p.2 q.2), b ∈ Lz := fun b hb => pb.mem_iff.mp ((List.mergeSort_perm bs' _).mem_iff.mp hb)
    have pv : ∀ (out : List Value) (l : List (Addr × List Nat)), PySem.W.EachIs (fun u (b : Addr × List Nat) => u = Value.ref b.1) out l → (∀ b ∈ l, b ∈ Lz) → ∃ ys, Vals ys out ∧ Paired (TupN H) ys (l.map (·.2)) := by
      intro out l e
      induction e with
      | nil => intro _; exact ⟨[], .nil, .nil⟩
      | @cons u b us l h t ih =>
        intro hl
        obtain ⟨ys, h1, h2⟩ := ih fun b hb => hl b (List.mem_cons_of_mem _ hb)
        refine ⟨V.ref b.1 :: ys, .cons h h1, .cons (hk b (hl b (List.mem_cons_self ..))).1 h2⟩
    obtain ⟨ys, hv, hy⟩ := pv out _ eo hmem
    rw [ems] at hy
    have hlen : ys.length ≤ sizeLine := by
      rw [plen hy, sortL_length, List.length_map, sizeLine_eq]
      omega
    have nd : (Lz.map (·.2)).Nodup := by
      have h0 := RR.nd
      rw [List.map_map] at h0
      have h1 : ((Lz.map (·.2)).map fun l : List Nat => l.map fun n : Nat => (n : Int)).Nodup := by
        rw [List.map_map]
        exact h0
      exact List.Pairwise.of_map _ (fun _ _ hne e => hne (congrArg _ e)) h1
    have J : Inv X pins σ (upd H p (.lst ys)) { s with heap := s'.heap, gens := s'.gens, drawn := s'.drawn, toks := s'.toks } :=
      I.call (ch := []) (Un.laid k hp hn) (I.hok.laid k hp ⟨hlen, out, c, hv, hg⟩) (by rw [g]; exact I.bare) (fun _ z => nomatch z)
    have e : s' = { s with heap := s'.heap, gens := s'.gens, drawn := s'.drawn, toks := s'.toks } := by
      cases s'
      cases s
      cases o'
      rfl
    rw [e]
    exact ⟨.ref p, _, J, rfl, q ys p hy nd hn⟩
end Sb

/-! R13: sets of things that stand at addresses, whatever they are. -/
namespace Sb
open PySem PySem.Spec PyProof.Rows L2
/-- a kind of thing that a set may hold: told by a key -/
structure Th (P : Program) (w : World) (κ : Type) [DecidableEq κ] where
  is : Heap → κ → Addr → Prop
  hash : κ → Int
  stay : ∀ {h h' : Heap} {k : κ} {a : Addr}, is h k a → (∀ b o vs n, h.get? b = some o → o.data = .seq vs n → h'.get? b = some o) → is h' k a
  eqB : ∀ {A : Around} {E : Value → Shared → Prop} {s : Shared} {x y : κ} {a b : Addr} {Q : Bool → Shared → Prop}, A.units + 16 < cLine → is s.heap x a → is s.heap y b → Q (decide (x = y)) s → wpAny (model P w) A (eqBool (.ref a) (.ref b)) Q E s
  seen : ∀ {A : Around} {E : Value → Shared → Prop} {s : Shared} {k : κ} {b : Addr} {ys : List Value} {Q : Bool → Shared → Prop}, is s.heap k b → (∀ y ∈ ys, ∃ k' c, y = Value.ref c ∧ is s.heap k' c) → Q false s → wpAny (model P w) A (searchCouldBeSeen (.ref b) ys) Q E s
  byVal : ∀ {A : Around} {E : Value → Shared → Prop} {s : Shared} {k : κ} {b : Addr} {Q : Bool → Shared → Prop}, is s.heap k b → Q true s → wpAny (model P w) A (hashByValue 8 (.ref b)) Q E s
  hashP : ∀ {A : Around} {E : Value → Shared → Prop} {s : Shared} {k : κ} {b : Addr} {Q : Int → Shared → Prop}, A.units + 16 < cLine → is s.heap k b → (∀ tk, s.toks ≤ tk → Q (hash k) { s with toks := tk }) → wpAny (model P w) A (pyHash (.ref b)) Q E s
section
variable {P : Program} {w : World} {κ : Type} [DecidableEq κ] (T : Th P w κ)
def Th.rows (L : List (Addr × κ)) : List (Int × Value) := L.map fun p => (T.hash p.2, Value.ref p.1)
def Th.hs (L : List (Addr × κ)) : List Int := L.map fun p => T.hash p.2
/-- the set at a holds L, in its own order -/
structure Th.Set (h : Heap) (a : Addr) (L : List (Addr × κ)) (es : Array (Int × Value)) (ep : Nat) (t : SetTable) : Prop where
  ob : ∃ o, h.get? a = some o ∧ o.ExactSet ∧ o.data = .set es ep t
  rw_ : es.toList = T.rows L
  tab : TabOk t (T.hs L)
  nd : (L.map (·.2)).Nodup
  all : ∀ p ∈ L, T.is h p.2 p.1
  plain : t.plain = true
  led : w.params.followText "set-order" = true ∨ t.led = true
  room : L.length * 5 < t.mask * 3
  few : L.length < 64
variable {T} {A : Around} {E : Value → Shared → Prop} {s : Shared} {a : Addr} {L : List (Addr × κ)} {es : Array (Int × Value)} {ep : Nat} {t : SetTable}
theorem hs_len : (T.hs L).length = L.length := List.length_map _
theorem rows_len : (T.rows L).length = L.length := List.length_map _
theorem es_len (h : es.toList = T.rows L) : es.size = L.length := by
  have q := congrArg List.length h
  rw [Array.length_toList, rows_len] at q
  exact q
theorem es_get (h : es.toList = T.rows L) {i : Nat} {p : Addr × κ} (hp : L[i]? = some p) : es[i]? = some (T.hash p.2, Value.ref p.1) := by
  rw [← Array.getElem?_toList, h]
  unfold Th.rows
  rw [List.getElem?_map, hp]
  rfl
theorem fits_of {n : Nat} (sz : t.place.size = n) (dm : t.dummies = #[]) (hl : n ≤ t.mask) : t.fits n = true := by
  unfold SetTable.fits SetTable.fill
  rw [dm, Bool.and_eq_true, beq_iff_eq, decide_eq_true_eq]
  exact ⟨sz, by show t.place.size + 0 ≤ t.mask; omega⟩
theorem Th.Set.fits (R : T.Set s.heap a L es ep t) : t.fits es.size = true := by
  have h1 := R.tab.sz
  rw [hs_len] at h1
  have h2 := R.room
  rw [es_len R.rw_]
  exact fits_of h1 R.tab.dm (by omega)
theorem Th.Set.gw (R : T.Set s.heap a L es ep t) : ¬ t.gaveWay = true := by
  unfold SetTable.gaveWay
  rw [mask_odd R.tab.mok]
  decide
theorem Th.Set.keep {h h' : Heap} (R : T.Set h a L es ep t) (ha : ∀ o, h.get? a = some o → h'.get? a = some o) (hl : ∀ p ∈ L, T.is h' p.2 p.1) : T.Set h' a L es ep t := by
  obtain ⟨o, ho, r⟩ := R.ob
  exact ⟨⟨o, ha o ho, r⟩, R.rw_, R.tab, R.nd, hl, R.plain, R.led, R.room, R.few⟩
theorem nth_nodummy (m : Nat) : ∀ (n : Nat) (p : SetTable.Probe), p.dummy = none → (nth m p n).dummy = none
  | 0, _, h => h
  | n + 1, p, h => nth_nodummy m n (adv m p) (by unfold adv; split <;> exact h)
/-- a thing is no set -/
theorem Th.but {h h' : Heap} {k : κ} {b : Addr} {o : Obj} (hb : T.is h k b) (ho : h.get? a = some o) (hd : o.data = .set es ep t) (hs : Heap.SameBut a h h') : T.is h' k b :=
  T.stay hb fun c u vs n hc hv => (hs.2 c fun e => by
    subst e
    rw [ho] at hc
    cases hc
    rw [hd] at hv
    cases hv).trans hc
/-- where the way of k stands at its c-th step -/
abbrev stepAt (t : SetTable) (g : Int) (c : Nat) : SetTable.Probe := nth t.mask (runAt t.mask (SetTable.bits g % (t.mask + 1)) (SetTable.bits g)) c
theorem searched (R : T.Set s.heap a L es ep t) {x : Addr} {k : κ} (hx : T.is s.heap k x) (hu : A.units + 16 < cLine) {K : Nat} (hKf : K < 10 * SetTable.turns t.mask)
    (hK : way t.mask (T.hash k) K ∉ t.place.toList) (hKb : ∀ c, c < K → way t.mask (T.hash k) c ∈ t.place.toList) {Q : SetFound → Shared → Prop}
    (hin : k ∈ L.map (·.2) → Q (.there none) s) (hout : k ∉ L.map (·.2) → Q (.free (way t.mask (T.hash k) K) false) s) (f : Nat) :
    ∀ (c : Nat) (stand : Option SetTable.Probe), stand.getD (t.probeStart (T.hash k)) = stepAt t (T.hash k) c → c ≤ K → K - c < f →
      (∀ (i : Nat) p, L[i]? = some p → p.2 = k → ∃ c', c ≤ c' ∧ c' < K ∧ t.place.toList[i]? = some (way t.mask (T.hash k) c')) →
      wpAny (model P w) A (setSearchFrom a (.ref x) (T.hash k) true f stand) Q E s := by
  obtain ⟨o, ho, hex, hd⟩ := R.ob
  induction f with
  | zero => intro c stand _ _ hf _; omega
  | succ f ih =>
    intro c stand hst hc hf hre
    rw [setSearchFrom_succ]
    refine wpAny_bind (wpAny_setState_of ho hd R.fits ?_)
    dsimp only
    refine wp_if_neg R.gw ?_
    try refine wpAny_bind (wpAny_pure ?_)
    have sh : ∀ q, nth t.mask (stepAt t (T.hash k) c) q = stepAt t (T.hash k) (c + q) := fun q => (nth_add t.mask c _ q).symm
    have ej : ∀ q, (nth t.mask (stepAt t (T.hash k) c) q).j = way t.mask (T.hash k) (c + q) := fun q => congrArg SetTable.Probe.j (sh q)
    have back : c + (K - c) = K := by omega
    have spec := go_spec t R.tab.ris R.tab.dm (fun i => (es[i]?.map (·.1)).getD 0) (T.hash k) (10 * SetTable.turns t.mask) (K - c) (stepAt t (T.hash k) c) (nth_nodummy _ _ _ rfl) (by omega)
      (fun q hq => by rw [ej]; exact hKb (c + q) (by omega)) (by rw [ej, back]; exact hK)
    have hAt : ∀ (i : Nat) p, L[i]? = some p → p.2 = k → (es[i]?.map (·.1)).getD 0 = T.hash k := fun i p hp e => by rw [es_get R.rw_ hp, e]; rfl
    rw [hst]
    rcases spec with ⟨q, i, hq, hi, _, hno, hpr⟩ | ⟨hno, hpr⟩
    · have hpr' : t.probe (fun i => (es[i]?.map (·.1)).getD 0) (T.hash k) (stepAt t (T.hash k) c) = some (.candidate (way t.mask (T.hash k) (c + q)) i (stepAt t (T.hash k) (c + (q + 1)))) := by
        rw [← ej, ← sh]
        exact hpr
      rw [hpr']
      dsimp only
      rw [ej] at hi
      have hil : i < L.length := by
        have h1 := (List.getElem?_eq_some_iff.mp hi).1
        have h2 := R.tab.sz
        rw [hs_len] at h2
        rw [Array.length_toList] at h1
        omega
      obtain ⟨p, hp⟩ : ∃ p, L[i]? = some p := ⟨_, List.getElem?_eq_getElem hil⟩
      have hmem := List.mem_of_getElem? hp
      have rest : wpAny (model P w) A (searchRest a (.ref x) (T.hash k) true f es t (way t.mask (T.hash k) (c + q)) i (stepAt t (T.hash k) (c + (q + 1)))) Q E s := by
        unfold searchRest
        rw [es_get R.rw_ hp]
        dsimp only
        refine wpAny_bind (wpAny_holding (T.eqB hu (R.all p hmem) hx (wpAny_bind (wpAny_setState_of ho hd R.fits ?_))))
        dsimp only
        by_cases e : p.2 = k
        · refine wp_if_pos (by simp [e]) (wpAny_pure (hin (List.mem_map.mpr ⟨p, hmem, e⟩)))
        · refine wp_if_neg (by simp [e]) ?_
          try refine wpAny_bind (wpAny_pure ?_)
          rw [sameMem]
          dsimp only
          have hsl : t.slot (way t.mask (T.hash k) (c + q)) = .live i := slot_live R.tab.ris hi
          simp only [if_true, hsl, es_get R.rw_ hp]
          refine wpAny_bind (wpAny_isSame_ref_self (wpAny_bind (wpAny_pure ?_)))
          simp only [if_true]
          refine wp_if_neg (by simp [e]) (ih (c + (q + 1)) _ rfl (by omega) (by omega) fun i0 p0 h0 e0 => ?_)
          obtain ⟨c', a1, a2, a3⟩ := hre i0 p0 h0 e0
          refine ⟨c', Nat.le_of_not_lt fun le => ?_, a2, a3⟩
          rcases Nat.lt_or_ge c' (c + q) with y | y
          · refine hno (c' - c) i0 (by omega) ?_ (hAt i0 p0 h0 e0)
            rw [ej, show c + (c' - c) = c' by omega]
            exact a3
          · have ec : c' = c + q := by omega
            rw [ec] at a3
            have s0 := slot_live R.tab.ris a3
            rw [hsl] at s0
            injection s0 with s0
            rw [← s0, hp] at h0
            cases h0
            exact e e0
      by_cases hl : t.led = true
      · refine wp_if_neg (by simp [hl]) ?_
        try refine wpAny_bind (wpAny_pure ?_)
        exact rest
      · refine wp_if_pos (by simp [hl]) (wpAny_bind (T.seen hx (fun y hy => ?_) ?_))
        · obtain ⟨e, he, ee⟩ := List.mem_map.mp hy
          have he2 : e ∈ es.toList := by
            have h0 : e ∈ es ∧ e.1 = T.hash k := by simpa using he
            simpa using h0.1
          rw [R.rw_] at he2
          obtain ⟨p2, hp2, e2⟩ := List.mem_map.mp he2
          exact ⟨p2.2, p2.1, by rw [← ee, ← e2], R.all p2 hp2⟩
        · refine wp_if_neg (by decide) ?_
          try refine wpAny_bind (wpAny_pure ?_)
          exact rest
    · have hpr' : t.probe (fun i => (es[i]?.map (·.1)).getD 0) (T.hash k) (stepAt t (T.hash k) c) = some (.empty (way t.mask (T.hash k) K) none) := by
        have e2 := ej (K - c)
        rw [back] at e2
        rw [← e2]
        exact hpr
      rw [hpr']
      dsimp only
      refine wpAny_pure (hout fun hm => ?_)
      obtain ⟨p0, h0, e0⟩ := List.mem_map.mp hm
      obtain ⟨i0, h00⟩ := List.getElem?_of_mem h0
      obtain ⟨c', a1, a2, a3⟩ := hre i0 p0 h00 e0
      refine hno (c' - c) i0 (by omega) ?_ (hAt i0 p0 h00 e0)
      rw [ej, show c + (c' - c) = c' by omega]
      exact a3
theorem search_it (R : T.Set s.heap a L es ep t) {x : Addr} {k : κ} (hx : T.is s.heap k x) (hu : A.units + 16 < cLine) {Q : SetFound → Shared → Prop} (hin : k ∈ L.map (·.2) → Q (.there none) s)
    (hout : ∀ K, k ∉ L.map (·.2) → way t.mask (T.hash k) K ∉ t.place.toList → (∀ c, c < K → way t.mask (T.hash k) c ∈ t.place.toList) → Q (.free (way t.mask (T.hash k) K) false) s) :
    wpAny (model P w) A (setSearch a (.ref x) (T.hash k) true) Q E s := by
  have hroom := R.room
  obtain ⟨K, hKf, hK, hKb⟩ := R.tab.first (by rw [hs_len]; omega) (T.hash k)
  have hbig : 10 * SetTable.turns t.mask ≤ 1420 := by
    unfold SetTable.turns
    rcases R.tab.mok with e | e | e <;> omega
  unfold setSearch
  refine searched R hx hu hKf hK hKb hin (fun hn => hout K hn hK hKb) 100000 0 none rfl (Nat.zero_le _) (by omega) fun i p hp e => ?_
  have hi : (T.hs L)[i]? = some (T.hash k) := by
    unfold Th.hs
    rw [List.getElem?_map, hp, ← e]
    rfl
  have hil : i < t.place.toList.length := by
    have h1 := (List.getElem?_eq_some_iff.mp hp).1
    have h2 := R.tab.sz
    rw [hs_len] at h2
    rw [Array.length_toList]
    omega
  obtain ⟨c, hc, ec⟩ := R.tab.before hK hi (List.getElem?_eq_getElem hil)
  exact ⟨c, Nat.zero_le _, hc, by rw [List.getElem?_eq_getElem hil, ec]⟩
/-- the rows in another order -/
theorem reorder (h : es.toList = T.rows L) {order : Array Nat} (hp : order.toList.Perm (List.range L.length)) :
    ∃ M : List (Addr × κ), M.Perm L ∧ (order.filterMap (es[·]?)).toList = T.rows M ∧ T.hs M = order.toList.map fun i => (es.map (·.1)).getD i 0 := by
  have hlt : ∀ i ∈ order.toList, i < L.length := fun i hi => List.mem_range.mp (hp.mem_iff.mp hi)
  have key : ∀ l : List Nat, (∀ i ∈ l, i < L.length) → l.filterMap (fun i => es[i]?) = T.rows (l.filterMap fun i => L[i]?) ∧ T.hs (l.filterMap fun i => L[i]?) = l.map fun i => (es.map (·.1)).getD i 0 := by
    intro l
    induction l with
    | nil => intro _; exact ⟨rfl, rfl⟩
    | cons i l ih =>
      intro hl
      have hi := hl i (List.mem_cons_self ..)
      obtain ⟨e1, e2⟩ := ih fun j hj => hl j (List.mem_cons_of_mem _ hj)
      have g := List.getElem?_eq_getElem hi
      have ge := es_get h g
      constructor
      · rw [List.filterMap_cons_some ge, List.filterMap_cons_some g, e1]
        rfl
      · rw [List.filterMap_cons_some g, List.map_cons, ← e2]
        have e5 : (es.map (·.1))[i]? = some (T.hash (L[i]).2) := by rw [Array.getElem?_map, ge]; rfl
        have e4 : (es.map (·.1)).getD i 0 = T.hash (L[i]).2 := by simp [Array.getD_eq_getD_getElem?, e5]
        rw [e4]
        rfl
  obtain ⟨e1, e2⟩ := key order.toList hlt
  refine ⟨order.toList.filterMap fun i => L[i]?, ?_, by first | (rw [Array.toList_filterMap]; exact e1) | simpa using e1, e2⟩
  refine List.Perm.trans (hp.filterMap _) ?_
  have e3 : (List.range L.length).filterMap (fun i => L[i]?) = L := by
    have := range_map_some (l := L) (f := fun i => L[i]?) (g := id) fun i b hb => hb
    rw [List.map_id] at this
    exact this
  rw [e3]
end
end Sb

/-! R14: a thing goes into a set of things; set(list) for any kind of item. -/
namespace Sb
open PySem PySem.Spec PyProof.Rows L2
section
variable {P : Program} {w : World} {κ : Type} [DecidableEq κ] {T : Th P w κ} {A : Around} {E : Value → Shared → Prop} {s : Shared} {a : Addr} {L : List (Addr × κ)} {es : Array (Int × Value)} {ep : Nat} {t : SetTable}
theorem Th.relay {o : Obj} (ho : s.heap.get? a = some o) (hex : o.ExactSet) (hd : o.data = .set es ep t) (hr : es.toList = T.rows L) (tb : TabOk t (T.hs L)) (nd : (L.map (·.2)).Nodup) (all : ∀ p ∈ L, T.is s.heap p.2 p.1)
    (pl : t.plain = true) (ld : w.params.followText "set-order" = true ∨ t.led = true) (few : L.length < 64) (hfl : L.length ≤ t.mask) {wanted M : Nat} (hw : SetTable.sizeAbove wanted = M + 1) (hM : MaskOk M) (hn : L.length * 5 < M * 3) {Q : Unit → Shared → Prop}
    (hQ : ∀ h' L' es' ep' t', Heap.SameBut a s.heap h' → T.Set h' a L' es' ep' t' → L'.Perm L → Q () { s with heap := h' }) : wpAny (model P w) A (setRelay a wanted) Q E s := by
  have hz : es.size = L.length := es_len hr
  have hM2 : M ≤ 127 := by rcases hM with e | e | e <;> omega
  have hsz := tb.sz
  rw [hs_len] at hsz
  obtain ⟨t', order, e, hp, tb', em, el, epl, ed⟩ := relaid_ok t (hs := es.map (·.1)) (wanted := wanted) (by omega) hM (by rw [Array.size_map, hz]; omega)
  rw [Array.size_map, hz] at hp
  obtain ⟨N, pm, r1, r2⟩ := reorder hr hp
  rw [← r2] at tb'
  have hz2 : (order.filterMap (es[·]?)).size = L.length := by rw [es_len r1, pm.length_eq]
  rw [setRelay_eq]
  refine wpAny_bind (wpAny_setState_of ho hd (by rw [hz]; exact fits_of hsz tb.dm hfl) ?_)
  dsimp only
  refine wp_if_neg (by rw [hw, sizeLine_eq]; omega) ?_
  try refine wpAny_bind (wpAny_pure ?_)
  rw [e]
  dsimp only
  refine wpAny_bind ?_
  refine wp_if_neg (by rw [hz2, hz]; simp) ?_
  try refine wpAny_bind (wpAny_pure ?_)
  refine wpAny_pure ?_
  dsimp only
  refine wpAny_storeSet_of ho hd ?_ (by rw [hz2, sizeLine_eq]; omega)
  have sb : Heap.SameBut a s.heap (s.heap.update a (Obj.putSet (order.filterMap (es[·]?)) t')) := Heap.SameBut.update ..
  refine hQ _ N _ (ep + 1) t' sb ⟨⟨_, store_at ho hd, ⟨hex.1, hex.2.1, hex.2.2⟩, rfl⟩, r1, tb', (pm.map (·.2)).nodup_iff.mpr nd, fun p hp => Th.but (all p (pm.mem_iff.mp hp)) ho hd sb, by rw [epl]; exact pl, by rw [el]; exact ld, ?_, by rw [pm.length_eq]; exact few⟩ pm
  rw [pm.length_eq, em]
  exact hn
theorem Th.add (R : T.Set s.heap a L es ep t) {x : Addr} {k : κ} (hx : T.is s.heap k x) (hu : A.units + 16 < cLine) (hfew : L.length + 1 < 64) {Q : Bool → Shared → Prop}
    (hQ : ∀ b h' L' es' ep' t', Heap.SameBut a s.heap h' → T.Set h' a L' es' ep' t' → (if k ∈ L.map (·.2) then L' = L else L'.Perm ((x, k) :: L)) → Q b { s with heap := h' }) :
    wpAny (model P w) A (setAddHashed a (.ref x) (T.hash k)) Q E s := by
  obtain ⟨o, ho, hex, hd⟩ := R.ob
  have hroom := R.room
  have hz : es.size = L.length := es_len R.rw_
  unfold setAddHashed
  refine wpAny_holding ?_
  rw [show (100000 : Nat) = 99999 + 1 from rfl, setAddHashedIn_succ]
  refine wpAny_bind (wpAny_setState_of ho hd R.fits ?_)
  dsimp only
  refine wp_if_neg (by simp [byScan, Value.scannable]) ?_
  try refine wpAny_bind (wpAny_pure ?_)
  refine wpAny_bind (search_it R hx hu (fun hm => ?_) fun K hm hK hb => ?_)
  · dsimp only
    exact wpAny_pure (hQ false s.heap L es ep t (Heap.SameBut.refl a s.heap) R (by rw [if_pos hm]))
  · dsimp only
    refine wpAny_bind (wpAny_setState_of ho hd R.fits ?_)
    dsimp only
    obtain ⟨q1, q2, q3, q4, q5, q6, q7, q8, q9⟩ := R.tab.put hK hb
    rw [hs_len] at q9
    have hpl : (t.put (way t.mask (T.hash k) K)).1.plain = true := by rw [q6]; exact R.plain
    generalize t.put (way t.mask (T.hash k) K) = pt at q1 q3 q4 q5 q6 q7 q8 q9 hpl ⊢
    obtain ⟨t1, p⟩ := pt
    dsimp only at q1 q3 q4 q5 q6 q7 q8 q9 hpl ⊢
    subst q1
    first
      | (refine wpAny_bind ?_; refine wp_if_pos hpl ?_; refine T.byVal hx ?_)
      | refine wp_if_pos hpl (wpAny_bind (T.byVal hx ?_))
    simp only [if_true]
    have pm := put_perm L (SetTable.below t.place (way t.mask (T.hash k) K)) (x, k)
    have hr1 : (SetTable.insertAt es (SetTable.below t.place (way t.mask (T.hash k) K)) (T.hash k, Value.ref x)).toList = T.rows (L.take (SetTable.below t.place (way t.mask (T.hash k) K)) ++ (x, k) :: L.drop (SetTable.below t.place (way t.mask (T.hash k) K))) := by
      rw [SetTable.toList_insertAt, R.rw_]
      unfold Th.rows
      rw [List.map_append, List.map_cons, List.map_take, List.map_drop]
    have hh1 : T.hs (L.take (SetTable.below t.place (way t.mask (T.hash k) K)) ++ (x, k) :: L.drop (SetTable.below t.place (way t.mask (T.hash k) K))) = (T.hs L).take (SetTable.below t.place (way t.mask (T.hash k) K)) ++ T.hash k :: (T.hs L).drop (SetTable.below t.place (way t.mask (T.hash k) K)) := by
      unfold Th.hs
      rw [List.map_append, List.map_cons, List.map_take, List.map_drop]
    rw [← hh1] at q3
    generalize SetTable.below t.place (way t.mask (T.hash k) K) = p at q2 q3 hr1 hh1 pm ⊢
    generalize SetTable.insertAt es p (T.hash k, Value.ref x) = es1 at hr1 ⊢
    generalize L.take p ++ (x, k) :: L.drop p = L1 at pm q3 hr1 hh1
    have hl1 : L1.length = L.length + 1 := pm.length_eq
    have hz1 : es1.size = L.length + 1 := by rw [es_len hr1, hl1]
    have nd1 : (L1.map (·.2)).Nodup := (pm.map (·.2)).nodup_iff.mpr (List.nodup_cons.mpr ⟨hm, R.nd⟩)
    refine wpAny_bind (wpAny_storeSet_of ho hd ?_ (by rw [hz1, sizeLine_eq]; omega))
    have sb : Heap.SameBut a s.heap (s.heap.update a (Obj.putSet es1 t1)) := Heap.SameBut.update ..
    have ho1 := store_at (es' := es1) (t' := t1) ho hd
    generalize s.heap.update a (Obj.putSet es1 t1) = h1 at sb ho1 ⊢
    have all1 : ∀ p ∈ L1, T.is h1 p.2 p.1 := fun p hp => by
      rcases List.mem_cons.mp (pm.mem_iff.mp hp) with e | hp
      · rw [e]; exact Th.but hx ho hd sb
      · exact Th.but (R.all p hp) ho hd sb
    have ld1 : w.params.followText "set-order" = true ∨ t1.led = true := by rw [q5]; exact R.led
    have fin : ∀ L2 : List (Addr × κ), L2.Perm L1 → (if k ∈ L.map (·.2) then L2 = L else L2.Perm ((x, k) :: L)) := fun L2 p2 => by rw [if_neg hm]; exact p2.trans pm
    by_cases hf : t1.tooFull = true
    · first
        | (refine wpAny_bind ?_; refine wp_if_pos (by simp [hf]) ?_)
        | (refine wp_if_pos (by simp [hf]) ?_; refine wpAny_bind ?_)
      have hfull := hf
      unfold SetTable.tooFull at hfull
      rw [decide_eq_true_eq, q9] at hfull
      rw [hz]
      have two : (t.mask = 7 ∧ L.length = 4) ∨ (t.mask = 31 ∧ L.length = 18) := by
        rcases R.tab.mok with e | e | e
        · exact .inl ⟨e, by rw [q4, e] at hfull; rw [e] at hroom; omega⟩
        · exact .inr ⟨e, by rw [q4, e] at hfull; rw [e] at hroom; omega⟩
        · exfalso; rw [q4, e] at hfull; omega
      have hMM : ∃ M, SetTable.sizeAbove (SetTable.grown (L.length + 1)) = M + 1 ∧ MaskOk M ∧ L1.length * 5 < M * 3 := by
        rcases two with ⟨_, e⟩ | ⟨_, e⟩
        · exact ⟨31, by rw [e, size_20], .inr (.inl rfl), by omega⟩
        · exact ⟨127, by rw [e, size_76], .inr (.inr rfl), by omega⟩
      obtain ⟨M, m1, m2, m3⟩ := hMM
      refine Th.relay (T := T) (s := { s with heap := h1 }) ho1 ⟨hex.1, hex.2.1, hex.2.2⟩ rfl hr1 q3 nd1 all1 hpl ld1 (by omega) (by rw [q4]; rcases two with ⟨e, _⟩ | ⟨e, _⟩ <;> omega) m1 m2 m3 fun h2 L2 es2 ep2 t2 sb2 R2 p2 => ?_
      exact wpAny_pure (hQ true h2 L2 es2 ep2 t2 (sb.trans sb2) R2 (fin L2 p2))
    · first
        | refine wp_if_neg (by simp [hf]) ?_
        | (refine wpAny_bind ?_; refine wp_if_neg (by simp [hf]) ?_; refine wpAny_pure ?_)
      refine wpAny_pure (hQ true h1 L1 es1 (ep + 1) t1 sb ⟨⟨_, ho1, ⟨hex.1, hex.2.1, hex.2.2⟩, rfl⟩, hr1, q3, nd1, all1, hpl, ld1, ?_, by omega⟩ (fin L1 (List.Perm.refl _)))
      unfold SetTable.tooFull at hf
      rw [decide_eq_true_eq, q9] at hf
      omega
end
end Sb

/-! R15: set(list) for any kind of item. -/
namespace Sb
open PySem PySem.Spec PyProof.Rows L2
/-- how a set fills: T i h says what S has got of the first i items -/
structure Fill (P : Program) (w : World) (h0 : Heap) (S : Addr) (items : Array Value) (T : Nat → Heap → Prop) : Prop where
  keep : ∀ {i : Nat} {h h' : Heap}, T i h → (∀ o, h.get? S = some o → h'.get? S = some o) → (∀ b o, h0.get? b = some o → h'.get? b = some o) → T i h'
  put : ∀ {i : Nat} {v : Value} {s : Shared} {A : Around} {E : Value → Shared → Prop} {Q : Bool → Shared → Prop}, A.units + 16 < cLine → items[i]? = some v → T i s.heap → (∀ b o, h0.get? b = some o → s.heap.get? b = some o) →
    (∀ b h' tk, s.toks ≤ tk → Heap.SameBut S s.heap h' → T (i + 1) h' → Q b { s with heap := h', toks := tk }) → wpAny (model P w) A (setAdd S v) Q E s
section
variable {P : Program} {w : World} {A : Around} {E : Value → Shared → Prop} {s : Shared} {h0 : Heap} {S : Addr} {items : Array Value} {T : Nat → Heap → Prop}
theorem fill_loop {I : Addr} {fp wr : List Addr} {G : Array GenState → Array GenState → Prop} {n : Nat} {Pv : Nat → Value → Prop} {St : Nat → Shared → Prop} {R : Result → Shared → Prop}
    (W : WalksS P w A.in1 I fp wr G n Pv St) (B : Fill P w h0 S items T) (hSf : S ∉ fp) (hval : ∀ i v, Pv i v → items[i]? = some v) (hS0 : h0.get? S = none) (hw0 : ∀ b ∈ wr, h0.get? b = none) (hu : A.in1.units + 16 < cLine) :
    ∀ (k i : Nat) (s : Shared), n - i = k → i ≤ n → St i s → (∀ b o, h0.get? b = some o → s.heap.get? b = some o) → T i s.heap →
      (∀ s', Moved (S :: wr) G s s' → T n s'.heap → (∀ b o, h0.get? b = some o → s'.heap.get? b = some o) → R (.ok (.ret .none)) s') →
      codeAny (model P w) A (.builtin "set.update.loop" ⟨[.ref S, .ref I], []⟩) R s := by
  have hSw : S ∉ wr := fun h => hSf (W.sub _ h)
  have hsub : ∀ b ∈ wr, b ∈ S :: wr := fun b hb => List.mem_cons_of_mem _ hb
  have old : ∀ {s s' : Shared}, Moved wr G s s' → (∀ b o, h0.get? b = some o → s.heap.get? b = some o) → ∀ b o, h0.get? b = some o → s'.heap.get? b = some o := fun hm hk b o e =>
    hm.heap b o (fun hb => by rw [hw0 b hb] at e; cases e) (hk b o e)
  intro k
  induction k with
  | zero =>
    intro i s hk hi hst ho hT hR
    obtain rfl : i = n := by omega
    refine codeAny_builtin F.entry_set_update_loop ?_
    rw [Around.under_plainId F.plain_set_update_loop _]
    show wpAny _ A.in1 (pyNext (.ref I) >>= _) _ _ s
    refine wpAny_bind (W.done s _ _ hst fun s' hm => ?_)
    show wpAny _ A.in1 (ret Value.none) _ _ s'
    have ho' := old hm ho
    exact wpAny_pure (hR s' (hm.mono hsub) (B.keep hT (fun o e => hm.heap S o hSw e) ho') ho')
  | succ k ih =>
    intro i s hk hi hst ho hT hR
    have hlt : i < n := by omega
    refine codeAny_builtin F.entry_set_update_loop ?_
    rw [Around.under_plainId F.plain_set_update_loop _]
    show wpAny _ A.in1 (pyNext (.ref I) >>= _) _ _ s
    refine wpAny_bind (W.item i s _ _ hlt hst fun v s' hP hst' hm => ?_)
    have ho' := old hm ho
    have hT' : T i s'.heap := B.keep hT (fun o e => hm.heap S o hSw e) ho'
    show wpAny _ A.in1 (holding [v] (setAdd S v) >>= _) _ _ s'
    refine wpAny_bind (wpAny_holding ?_)
    refine B.put hu (hval i v hP) hT' ho' fun b h' tk htk hsb hT2 => ?_
    have ho2 : ∀ b o, h0.get? b = some o → h'.get? b = some o := fun b o e => (hsb.2 b (fun z => by rw [z, hS0] at e; cases e)).trans (ho' b o e)
    refine wpAny_pure ⟨plainId_quiet F.plain_set_update_loop _, ih (i + 1) _ (by omega) hlt (W.frame _ s' _ _ hst' htk fun b hb o e => ?_) ho2 hT2 fun s'' hm2 hT3 ho3 => ?_⟩
    · rw [hsb.2 b (fun h : b = S => hSf (by rw [← h]; exact hb))]; exact e
    · refine hR s'' (Moved.trans W.gtrans ((hm.mono hsub).then_heap htk fun b o hb e => ?_) hm2) hT3 ho3
      rw [hsb.2 b (fun h : b = S => hb (by rw [h]; exact List.mem_cons_self))]; exact e
abbrev freshSet (w : World) : Obj := { cls := .type "set", dict := none, data := .set #[] 0 (.fresh 0 0 (!w.params.followText "set-order")) }
/-- set(xs) of a list -/
theorem set_of_list {l : Addr} {Q : Value → Shared → Prop} (hh : A.handled = none) (hl : s.heap.IsList l items) (hu : A.units + 40 < cLine)
    (B : Fill P w s.heap s.heap.objs.size items T) (h0 : ∀ h : Heap, h.get? s.heap.objs.size = some (freshSet w) → (∀ b o, s.heap.get? b = some o → h.get? b = some o) → T 0 h)
    (h : ∀ (h' : Heap) (tk : Nat), T items.size h' → (∀ b o, s.heap.get? b = some o → h'.get? b = some o) → Q (.ref s.heap.objs.size) { s with heap := h', toks := tk }) :
    wpAny (model P w) A (call (.type "set") [.ref l]) Q E s := by
  obtain ⟨c, tl, hmro⟩ := F.called_set.mro
  have hmade := F.called_set.made
  have hsub := F.called_set.sub
  refine wpAny_call (codeAny_of_tree ?_)
  show wpAny _ _ (callAny (.type "set") _) _ _ _
  refine wpAny_pure ⟨Code.quiet_builtin _ (by decide +kernel), codeAny_builtin F.entry_type_call ?_⟩
  rw [Around.under_plain (weight_type_call_type "set" [.ref l] []) rfl]
  have h1 := F.called_set.notType
  have h2 := F.called_set.canCreate
  have hct := F.typeCall_set_1 (.ref l)
  repeat (any_goals (first | assumption | wp_step))
  refine codeAny_mono (code_set_led1 (.ref l) (E := E) (Q₁ := fun obj s₁ => obj = .ref s.heap.objs.size ∧ s₁ = { s with heap := s.heap.push (freshSet w) }) ⟨rfl, rfl⟩) fun r s₁ hr => ?_
  cases r with
  | error e => exact hr
  | ok fl =>
    cases fl with
    | ret obj =>
      obtain ⟨rfl, rfl⟩ := hr
      have hS : (s.heap.push (freshSet w)).get? s.heap.objs.size = some (freshSet w) := Heap.get?_push_size _ rfl
      have hT : Shared.TypeIs { s with heap := s.heap.push (freshSet w) } (.ref s.heap.objs.size) "set" := ⟨_, hS, rfl⟩
      have hli := F.called_set.init.lookup
      have hbi := F.called_set.init.bind (.ref s.heap.objs.size)
      repeat (any_goals (first | assumption | wp_step))
      refine codeAny_mono (codeAny_call_builtin (R := wants (fun r s₂ => r = .none ∧ ∃ h' tk, s₂ = { s with heap := h', toks := tk } ∧ T items.size h' ∧ (∀ b o, s.heap.get? b = some o → h'.get? b = some o)) E) F.called_set.init.plain F.entry_set_init (check_set_init_1 hT ?_)) fun r₂ s₂ hr₂ => ?_
      · obtain ⟨ol, hol, hcl, nl, hdl⟩ := hl
        obtain ⟨ocls, odict, odata, oslots⟩ := ol
        simp only at hcl hdl
        subst hcl; subst hdl
        have hol' : (s.heap.push (freshSet w)).get? l = some { cls := .type "list", dict := odict, data := .seq items nl, slots := oslots } := Heap.get?_push_of_some _ hol
        have hsls := F.sub_list_set
        have hslf := F.sub_list_frozenset
        have hne : (Value.type "list" == Value.type "dict") = false := by decide
        have hl1 : (s.heap.push (freshSet w)).IsList l items := ⟨_, hol', rfl, nl, rfl⟩
        unfold Builtin.«set.__init__» noKeywords Builtin.Frozenset.updateFrom
        generalize hPI : pyIter = PI
        wp_walk
        subst hPI
        refine wpAny_pyIter_list hl1 ?_
        refine wpAny_bind (wpAny_runValue ?_)
        have hlS : l < s.heap.objs.size := Heap.lt_size hol
        have hh3 : A.in1.in1.in1.handled = none := by simp [hh]
        have hz1 : (s.heap.push (freshSet w)).objs.size = s.heap.objs.size + 1 := Heap.size_push ..
        have none_of : ∀ b, s.heap.objs.size ≤ b → s.heap.get? b = none := fun b hb => by
          cases q : s.heap.get? b with
          | none => rfl
          | some o => exact absurd (Nat.lt_of_lt_of_le (Heap.lt_size q) hb) (Nat.lt_irrefl _)
        refine fill_loop ((Walks.list hh3 _ l (by rw [hz1]; exact Nat.ne_of_lt (Nat.lt_succ_of_lt hlS)) items).toS) B ?_ (fun i v e => e) (none_of _ (Nat.le_refl _)) (fun b hb => none_of b (by
            rw [List.mem_singleton.mp hb, hz1]
            exact Nat.le_succ _)) (show A.units + 3 + 16 < cLine by omega) (items.size - 0) 0 _ (by omega) (Nat.zero_le _)
          ⟨⟨_, Heap.get?_push_size _ rfl, rfl, rfl⟩, (hl1.push _)⟩ (fun b o e => Heap.get?_push_of_some _ (Heap.get?_push_of_some _ e)) ?_ ?_
        · rw [hz1]
          simp only [List.mem_cons, List.not_mem_nil, or_false, not_or]
          exact ⟨Nat.ne_of_lt (Nat.lt_succ_self _), Nat.ne_of_gt hlS⟩
        · exact h0 _ (Heap.get?_push_of_some _ hS) fun b o e => Heap.get?_push_of_some _ (Heap.get?_push_of_some _ e)
        · intro s' hm hT' ho'
          obtain ⟨h', g2, d', tk', os'⟩ := s'
          have eg : g2 = s.gens := hm.gens
          have ed : d' = s.drawn := hm.drawn
          have eo : os' = s.os := hm.os
          subst eg; subst ed; subst eo
          show wpAny _ _ _ _ _ _
          refine wpAny_pure ?_
          show wpAny _ _ (ret Value.none) _ _ _
          exact wpAny_pure ⟨rfl, h', tk', rfl, hT', ho'⟩
      · cases r₂ with
        | error e => exact hr₂
        | ok fl₂ =>
          cases fl₂ with
          | ret r =>
            obtain ⟨rfl, h', tk, rfl, hT', hk'⟩ := hr₂
            repeat (any_goals (first | assumption | wp_step))
            exact h _ _ hT' hk'
          | _ => exact hr₂.elim
    | _ => exact hr.elim
end
end Sb

/-! R16: sets of families; sets of numbers from a list. -/
namespace Sb
open PySem PySem.Spec PyProof.Rows L2
theorem sub_len {α : Type} [DecidableEq α] : ∀ (l r : List α), l.Nodup → (∀ x ∈ l, x ∈ r) → l.length ≤ r.length
  | [], _, _, _ => Nat.zero_le _
  | x :: l, r, n, h => by
    have hx := h x (List.mem_cons_self ..)
    have nn := List.nodup_cons.mp n
    have ih := sub_len l (r.erase x) nn.2 fun y hy => (List.mem_erase_of_ne (by intro e; subst e; exact nn.1 hy)).mpr (h y (List.mem_cons_of_mem _ hy))
    rw [List.length_erase_of_mem hx] at ih
    have := List.length_pos_of_mem hx
    rw [List.length_cons]
    omega
def TupAt (h : Heap) (b : Addr) (us : List Value) : Prop := ∃ o vs n, h.get? b = some o ∧ o.cls = .type "tuple" ∧ o.data = .seq vs n ∧ vs.toList = us
def BagAt (h : Heap) (u : Value) (l : List Nat) : Prop := ∃ b us, u = .ref b ∧ TupAt h b us ∧ Paired (fun v (n : Nat) => ∃ t, v = Value.int (n : Int) t) us l
def FamAt (h : Heap) (F : Fam) (a : Addr) : Prop := ∃ us, TupAt h a us ∧ Paired (BagAt h) us F
def nkB (l : List Nat) : NestedKey := .tup (l.map fun n : Nat => NestedKey.num (n : Int))
def nkF (F : Fam) : NestedKey := .tup (F.map nkB)
section
variable {P : Program} {w : World} {A : Around} {E : Value → Shared → Prop} {s : Shared}
theorem TupAt.stay {h h' : Heap} {b : Addr} {us : List Value} (x : TupAt h b us) (k : ∀ b o vs n, h.get? b = some o → o.data = .seq vs n → h'.get? b = some o) : TupAt h' b us := by
  obtain ⟨o, vs, n, h1, h2, h3, h4⟩ := x
  exact ⟨o, vs, n, k _ _ _ _ h1 h3, h2, h3, h4⟩
theorem BagAt.stay {h h' : Heap} {u : Value} {l : List Nat} (x : BagAt h u l) (k : ∀ b o vs n, h.get? b = some o → o.data = .seq vs n → h'.get? b = some o) : BagAt h' u l := by
  obtain ⟨b, us, h1, h2, h3⟩ := x
  exact ⟨b, us, h1, h2.stay k, h3⟩
theorem FamAt.stay {h h' : Heap} {F : Fam} {a : Addr} (x : FamAt h F a) (k : ∀ b o vs n, h.get? b = some o → o.data = .seq vs n → h'.get? b = some o) : FamAt h' F a := by
  obtain ⟨us, h1, h2⟩ := x
  exact ⟨us, h1.stay k, pmono (fun _ _ q => BagAt.stay q k) h2⟩
theorem BagAt.nested {h : Heap} {u : Value} {l : List Nat} (x : BagAt h u l) : NestedIs h (nkB l) u := by
  obtain ⟨b, us, rfl, ⟨o, vs, n, h1, h2, h3, rfl⟩, p⟩ := x
  refine .tup h1 h2 h3 ?_
  generalize vs.toList = ws at p
  induction p with
  | nil => exact .nil
  | cons r _ ih =>
    obtain ⟨t, rfl⟩ := r
    exact .cons (.int _ t) ih
theorem FamAt.nested {h : Heap} {F : Fam} {a : Addr} (x : FamAt h F a) : NestedIs h (nkF F) (.ref a) := by
  obtain ⟨us, ⟨o, vs, n, h1, h2, h3, rfl⟩, p⟩ := x
  refine .tup h1 h2 h3 ?_
  generalize vs.toList = ws at p
  induction p with
  | nil => exact .nil
  | cons r _ ih => exact .cons r.nested ih
theorem nkB_inj {l l' : List Nat} (h : nkB l = nkB l') : l = l' := by
  injection h with h
  refine (List.map_inj_right fun a b e => ?_).mp h
  injection e with e
  omega
theorem nkF_inj {F G : Fam} (h : nkF F = nkF G) : F = G := by
  injection h with h
  exact (List.map_inj_right fun a b e => nkB_inj e).mp h
theorem depthB (l : List Nat) : NestedKey.depthAll (l.map fun n : Nat => NestedKey.num (n : Int)) = 0 := by
  induction l with
  | nil => rfl
  | cons n l ih =>
    rw [List.map_cons, NestedKey.depthAll, ih]
    rfl
theorem depthF (F : Fam) : (nkF F).depth ≤ 2 := by
  have h : NestedKey.depthAll (F.map nkB) ≤ 1 := by
    induction F with
    | nil => exact Nat.zero_le _
    | cons l F ih =>
      rw [List.map_cons, NestedKey.depthAll]
      have e : (nkB l).depth = 1 := by
        unfold nkB
        rw [NestedKey.depth, depthB]
      rw [e]
      omega
  unfold nkF
  rw [NestedKey.depth]
  omega
/-- asking a tuple whose items answer no -/
theorem ofA_tup {m : Nat} {b : Addr} {us : List Value} {Q : Bool → Shared → Prop} (x : TupAt s.heap b us) (hi : ∀ v ∈ us, ∀ Q' : Bool → Shared → Prop, Q' false s → wpAny (model P w) A (ofAClassStatement m v) Q' E s) (h : Q false s) : wpAny (model P w) A (ofAClassStatement (m + 1) (.ref b)) Q E s := by
  obtain ⟨o, vs, n, ho, hc, hd, rfl⟩ := x
  have hT : s.TypeIs (.ref b) "tuple" := ⟨o, ho, hc⟩
  unfold ofAClassStatement
  refine wpAny_bind (wpAny_typeOf hT ?_)
  dsimp only
  have e : (("tuple" : String) == "tuple") = true := by decide
  simp only [e, if_true, Bool.not_true, Bool.false_eq_true, if_false]
  try refine wpAny_bind (wpAny_pure ?_)
  try simp only [Bool.not_true, Bool.false_eq_true, if_false]
  show wpAny _ _ (seqItems? (.ref b) >>= _) _ _ s
  refine wpAny_bind (wpAny_seqItems ho hd ?_)
  dsimp only
  refine wpAny_bind ?_
  show wpAny _ _ (forIn vs _ _) _ _ s
  rw [← Array.forIn_toList]
  refine wpAny_forIn_list _ (fun rest r s' => r.1 = none ∧ s' = s ∧ ∀ v ∈ rest, v ∈ vs.toList) _ ?_ ?_ _ _ ⟨rfl, rfl, fun v hv => hv⟩
  · rintro v rest r s' ⟨hr, rfl, hall⟩
    refine wpAny_bind (hi v (hall v (List.mem_cons_self ..)) _ ?_)
    simp only [Bool.false_eq_true, if_false]
    exact wpAny_pure ⟨rfl, rfl, fun u hu => hall u (List.mem_cons_of_mem _ hu)⟩
  · rintro ⟨r1, r2⟩ s' ⟨hr, rfl, _⟩
    simp only at hr
    subst hr
    exact wpAny_pure h
theorem hashV_tup {m : Nat} {b : Addr} {us : List Value} {Q : Bool → Shared → Prop} (x : TupAt s.heap b us) (hi : ∀ v ∈ us, ∀ Q' : Bool → Shared → Prop, Q' true s → wpAny (model P w) A (hashByValue m v) Q' E s) (h : Q true s) : wpAny (model P w) A (hashByValue (m + 1) (.ref b)) Q E s := by
  obtain ⟨o, vs, n, ho, hc, hd, rfl⟩ := x
  have hT : s.TypeIs (.ref b) "tuple" := ⟨o, ho, hc⟩
  unfold hashByValue
  refine wpAny_bind (wpAny_specialOf hT F.slot_tuple_hash.lookup ?_)
  show wpAny _ _ (seqItems? (.ref b) >>= _) _ _ s
  refine wpAny_bind (wpAny_seqItems ho hd ?_)
  refine wpAny_bind ?_
  show wpAny _ _ (forIn vs _ _) _ _ s
  rw [← Array.forIn_toList]
  refine wpAny_forIn_list _ (fun rest r s' => r.1 = none ∧ s' = s ∧ ∀ v ∈ rest, v ∈ vs.toList) _ ?_ ?_ _ _ ⟨rfl, rfl, fun v hv => hv⟩
  · rintro v rest r s' ⟨hr, rfl, hall⟩
    refine wpAny_bind (hi v (hall v (List.mem_cons_self ..)) _ ?_)
    simp only [Bool.not_true, Bool.false_eq_true, if_false]
    exact wpAny_pure ⟨rfl, rfl, fun u hu => hall u (List.mem_cons_of_mem _ hu)⟩
  · rintro ⟨r1, r2⟩ s' ⟨hr, rfl, _⟩
    simp only at hr
    subst hr
    exact wpAny_pure h
theorem paired_mem {α β : Type} {R : α → β → Prop} {l : List α} {l' : List β} (h : Paired R l l') : ∀ v ∈ l, ∃ b ∈ l', R v b := by
  induction h with
  | nil => intro v hv; cases hv
  | cons r _ ih =>
    intro v hv
    rcases List.mem_cons.mp hv with e | hv
    · subst e; exact ⟨_, List.mem_cons_self .., r⟩
    · obtain ⟨b, h1, h2⟩ := ih v hv
      exact ⟨b, List.mem_cons_of_mem _ h1, h2⟩
theorem BagAt.ofA {m : Nat} {u : Value} {l : List Nat} {Q : Bool → Shared → Prop} (x : BagAt s.heap u l) (h : Q false s) : wpAny (model P w) A (ofAClassStatement (m + 1) u) Q E s := by
  obtain ⟨b, us, rfl, ht, p⟩ := x
  refine ofA_tup ht (fun v hv Q' q => ?_) h
  obtain ⟨n, _, t, rfl⟩ := paired_mem p v hv
  rw [ofAClass_int]
  exact wpAny_pure q
theorem FamAt.ofA {F : Fam} {a : Addr} {Q : Bool → Shared → Prop} (x : FamAt s.heap F a) (h : Q false s) : wpAny (model P w) A (ofAClassStatement 8 (.ref a)) Q E s := by
  obtain ⟨us, ht, p⟩ := x
  refine ofA_tup ht (fun v hv Q' q => ?_) h
  obtain ⟨l, _, hb⟩ := paired_mem p v hv
  exact hb.ofA q
theorem BagAt.hashV {m : Nat} {u : Value} {l : List Nat} {Q : Bool → Shared → Prop} (x : BagAt s.heap u l) (h : Q true s) : wpAny (model P w) A (hashByValue (m + 1) u) Q E s := by
  obtain ⟨b, us, rfl, ht, p⟩ := x
  refine hashV_tup ht (fun v hv Q' q => ?_) h
  obtain ⟨n, _, t, rfl⟩ := paired_mem p v hv
  rw [hashBy_int]
  exact wpAny_pure q
theorem FamAt.hashV {F : Fam} {a : Addr} {Q : Bool → Shared → Prop} (x : FamAt s.heap F a) (h : Q true s) : wpAny (model P w) A (hashByValue 8 (.ref a)) Q E s := by
  obtain ⟨us, ht, p⟩ := x
  refine hashV_tup ht (fun v hv Q' q => ?_) h
  obtain ⟨l, _, hb⟩ := paired_mem p v hv
  exact hb.hashV q
theorem FamAt.quiet {F : Fam} {a : Addr} {Q : Bool → Shared → Prop} (x : FamAt s.heap F a) (h : Q true s) : wpAny (model P w) A (eqIsQuiet 8 (.ref a)) Q E s :=
  quiet_key (nkF F) _ 8 s x.nested (Nat.le_trans (depthF F) (by decide)) A E Q h
theorem fam_seen {F : Fam} {b : Addr} {Q : Bool → Shared → Prop} (hk : FamAt s.heap F b) {ys : List Value} (hy : ∀ y ∈ ys, ∃ G c, y = Value.ref c ∧ FamAt s.heap G c) (h : Q false s) :
    wpAny (model P w) A (searchCouldBeSeen (.ref b) ys) Q E s := by
  unfold searchCouldBeSeen
  refine wpAny_bind ?_
  refine wpAny_forIn_list _ (fun rest r s' => r.1 = none ∧ s' = s ∧ ∀ y ∈ rest, ∃ G c, y = Value.ref c ∧ FamAt s.heap G c) _ ?_ ?_ _ _ ⟨rfl, rfl, hy⟩
  · rintro v rest r s' ⟨hr, rfl, hall⟩
    obtain ⟨G, c, rfl, hc⟩ := hall v (List.mem_cons_self ..)
    have rest' : ∀ y ∈ rest, ∃ G c, y = Value.ref c ∧ FamAt s'.heap G c := fun u hu' => hall u (List.mem_cons_of_mem _ hu')
    dsimp only
    by_cases hv : (b == c || (carriedByValue (.ref b) && carriedByValue (.ref c))) = true
    · refine wp_if_pos hv ?_
      exact wpAny_pure ⟨rfl, rfl, rest'⟩
    · refine wp_if_neg hv ?_
      refine wpAny_bind (hk.quiet ?_)
      simp only [Bool.not_true, Bool.false_eq_true, if_false]
      refine wpAny_bind (hc.quiet ?_)
      simp only [Bool.not_true, Bool.false_eq_true, if_false]
      refine wpAny_bind (hk.ofA ?_)
      simp only [Bool.false_eq_true, if_false]
      refine wpAny_bind (hc.ofA ?_)
      simp only [Bool.false_eq_true, if_false]
      exact wpAny_pure ⟨rfl, rfl, rest'⟩
  · rintro ⟨r1, r2⟩ s' ⟨hr, rfl, _⟩
    simp only at hr
    subst hr
    exact wpAny_pure h
end
/-- families as things -/
def famTh (P : Program) (w : World) : Th P w Fam where
  is := FamAt
  hash := fun F => (nkF F).hash w
  stay := fun x k => x.stay k
  eqB := fun {A E s x y a b Q} hu hx hy h => eqAt_key (nkF x) (nkF y) A s _ _ hx.nested hy.nested (by have := depthF x; omega) _ _ _ _ (by
    have e : NestedKey.beq (nkF x) (nkF y) = decide (x = y) := by
      rw [← NestedKey.decide_eq]
      exact decide_eq_decide.mpr ⟨nkF_inj, fun e => congrArg nkF e⟩
    rw [e]
    exact h)
  seen := fun hk hy h => fam_seen hk hy h
  byVal := fun hk h => hk.hashV h
  hashP := fun {A E s k b Q} hu hk h => pyHash_key (nkF k) _ A s _ hk.nested (by have := depthF k; omega) (h _ (Nat.le_add_right _ _))
theorem fresh_Set {P : Program} {w : World} {κ : Type} [DecidableEq κ] {T : Th P w κ} {h : Heap} {a : Addr} (ho : h.get? a = some (freshSet w)) : T.Set h a [] #[] 0 (.fresh 0 0 (!w.params.followText "set-order")) where
  ob := ⟨_, ho, ⟨rfl, rfl, rfl⟩, rfl⟩
  rw_ := rfl
  tab := ⟨List.Pairwise.nil, rfl, rfl, .inl rfl, fun x hx => (by cases hx), fun i h j hi => (by simp [Th.hs] at hi)⟩
  nd := List.nodup_nil
  all := fun p hp => (by cases hp)
  plain := rfl
  led := by
    show _ ∨ (!w.params.followText "set-order") = true
    cases w.params.followText "set-order"
    · exact .inr rfl
    · exact .inl rfl
  room := by
    show 0 * 5 < 7 * 3
    decide
  few := by
    show 0 < 64
    decide
/-- what the set has got of the first i things -/
def GotTh {P : Program} {w : World} {κ : Type} [DecidableEq κ] (T : Th P w κ) (h0 : Heap) (S : Addr) (ks : List κ) (i : Nat) (h : Heap) : Prop :=
  ∃ L es ep t, T.Set h S L es ep t ∧ (∀ p ∈ L, T.is h0 p.2 p.1) ∧ (∀ k, k ∈ L.map (·.2) ↔ k ∈ ks.take i)
theorem fill_th {P : Program} {w : World} {κ : Type} [DecidableEq κ] (T : Th P w κ) {h0 : Heap} {S : Addr} {items : Array Value} {ks : List κ} (hi : Paired (fun v k => ∃ b, v = Value.ref b ∧ T.is h0 k b) items.toList ks) (hf : (uniq ks).length < 63) : Fill P w h0 S items (GotTh T h0 S ks) where
  keep := fun {i h h'} ⟨L, es, ep, t, R, hL, g⟩ hS ho => ⟨L, es, ep, t, R.keep hS fun p hp => T.stay (hL p hp) fun b o vs n e _ => ho b o e, hL, g⟩
  put := fun {i v s A E Q} hu hv ⟨L, es, ep, t, R, hL, g⟩ ho hQ => by
    obtain ⟨k, hk, b, rfl, hb⟩ := pget hi (i := i) (by rw [Array.getElem?_toList]; exact hv)
    have hb' : T.is s.heap k b := T.stay hb fun b o vs n e _ => ho b o e
    have lL : L.length ≤ (uniq ks).length := by
      have := sub_len (L.map (·.2)) (uniq ks) R.nd fun x hx => mem_uniq.mpr (List.mem_of_mem_take ((g x).mp hx))
      rw [List.length_map] at this
      exact this
    have tk : ks.take (i + 1) = ks.take i ++ [k] := take_next hk
    unfold setAdd
    refine wpAny_holding (wpAny_bind (T.hashP hu hb' fun tk htk => ?_))
    refine Th.add (T := T) (s := { s with toks := tk }) R hb' hu (by omega) fun r h' L' es' ep' t' sb R' c => hQ r h' tk htk sb ?_
    by_cases hm : k ∈ L.map (·.2)
    · rw [if_pos hm] at c
      subst c
      refine ⟨L', es', ep', t', R', hL, fun x => ?_⟩
      rw [g x, ‹ks.take (i + 1) = ks.take i ++ [k]›, List.mem_append, List.mem_singleton]
      exact ⟨.inl, fun z => z.elim id fun z => by rw [z]; exact (g k).mp hm⟩
    · rw [if_neg hm] at c
      refine ⟨L', es', ep', t', R', fun p hp => ?_, fun x => ?_⟩
      · rcases List.mem_cons.mp (c.mem_iff.mp hp) with e | hp
        · rw [e]; exact hb
        · exact hL p hp
      · rw [(c.map (·.2)).mem_iff, List.map_cons, List.mem_cons, g x, ‹ks.take (i + 1) = ks.take i ++ [k]›, List.mem_append, List.mem_singleton, or_comm]
/-- a set of n things -/
def SzO (a : Addr) (n : Nat) : HO := .ext fun h => ∃ (es : Array (Int × Value)) (ep : Nat) (t : SetTable), (∃ o, h.get? a = some o ∧ o.ExactSet ∧ o.data = .set es ep t) ∧ t.fits es.size = true ∧ es.size = n
theorem szO_new {P : Program} {w : World} {H : Hp} {h : Heap} {a : Addr} {n : Nat} (R : ∃ (es : Array (Int × Value)) (ep : Nat) (t : SetTable), (∃ o, h.get? a = some o ∧ o.ExactSet ∧ o.data = .set es ep t) ∧ t.fits es.size = true ∧ es.size = n) : ObjOk P w H h a (SzO a n) := by
  have ⟨es, ep, t, ⟨o, ho, r⟩, q⟩ := R
  refine ⟨R, ⟨o, ho⟩, fun h1 h2 p k => ?_⟩
  have ⟨es', ep', t', ⟨o', ho', r'⟩, q'⟩ := p
  exact ⟨es', ep', t', ⟨o', k o' ho', r'⟩, q'⟩
section
variable {X : Cx} {pins : List (Addr × Obj)} {σ : L2.St} {H : Hp} {s : Shared}
theorem tupAt (I : Inv X pins σ H s) {a : Addr} {xs : List V} (h : H a = some (.tup xs)) : ∃ us, TupAt s.heap a us ∧ Vals xs us := by
  obtain ⟨its, rv, ⟨o, ho, hc, n, hd⟩, _⟩ := I.tuple (SqT.of h)
  exact ⟨its, ⟨o, _, n, ho, hc, hd, rfl⟩, rv⟩
theorem nats_of_vals : ∀ {l : List Nat} {us : List Value}, Vals (iv l) us → Paired (fun v (n : Nat) => ∃ t, v = Value.int (n : Int) t) us l
  | [], _, .nil => .nil
  | n :: l, _, .cons r t => .cons r (nats_of_vals t)
theorem TupN.bag (I : Inv X pins σ H s) {v : V} {u : Value} {l : List Nat} (h : TupN H v l) (r : RelV v u) : BagAt s.heap u l := by
  obtain ⟨a, rfl, e⟩ := h
  cases r
  obtain ⟨us, ht, rv⟩ := tupAt I e
  exact ⟨a, us, rfl, ht, nats_of_vals rv⟩
theorem paired_trans {α β γ : Type} {R : α → β → Prop} {R' : α → γ → Prop} {R'' : γ → β → Prop} (f : ∀ a b c, R a b → R' a c → R'' c b) : ∀ {l : List α} {m : List β} {n : List γ}, Paired R l m → Paired R' l n → Paired R'' n m
  | _, _, _, .nil, .nil => .nil
  | _, _, _, .cons r t, .cons r' t' => .cons (f _ _ _ r r') (paired_trans f t t')
theorem FamT.famAt (I : Inv X pins σ H s) {v : V} {u : Value} {F : Fam} (h : FamT H v F) (r : RelV v u) : ∃ b, u = Value.ref b ∧ FamAt s.heap F b := by
  obtain ⟨a, vs, rfl, e, p⟩ := h
  cases r
  obtain ⟨us, ht, rv⟩ := tupAt I e
  exact ⟨a, rfl, us, ht, paired_trans (fun a b c q r => q.bag I r) p rv⟩
end
/-- set(xs), xs a list of families -/
def rSetF (K : PySem.W.Frag) : List V → Hp → VK → Prop := fun xs H Q => ∃ (l : Addr) (vs : List V) (Fs : List Fam), xs = [V.ref l] ∧ SqL K H l vs ∧ Paired (FamT H) vs Fs ∧ (uniq Fs).length < 63 ∧
  ∀ p, H p = none → Q (.ref p) (upd H p (SzO p (uniq Fs).length))
theorem cr_setF {X : Cx} {k : Nat} (hr : Room k X.A) (hc : X.calm = true) : CallR X (.type "set") (rSetF X.K) := by
  intro pins s σ H xs us Q I r h
  obtain ⟨l, vs, Fs, rfl, hl, hp, hf, q⟩ := h
  rw [Vals.ref1 r]
  obtain ⟨its, rv, pl, hz⟩ := I.list hl
  have hi : Paired (fun v k => ∃ b, v = Value.ref b ∧ (famTh X.prog X.w).is s.heap k b) its.toArray.toList Fs := by
    rw [List.toList_toArray]
    exact paired_trans (R := FamT H) (R' := L2.RelV) (fun a b c q r => FamT.famAt I q r) hp rv
  have hlen : its.toArray.size = Fs.length := by
    have := plen hi
    rw [Array.length_toList] at this
    exact this
  refine set_of_list (P := X.prog) (w := X.w) (T := GotTh (famTh X.prog X.w) s.heap s.heap.objs.size Fs) (I.ok.hd hc) pl.isList (by have := hr.un; omega) (fill_th _ hi hf) (fun h e _ => ⟨[], _, _, _, fresh_Set e, fun p hp => (by cases hp), fun k => by simp⟩) fun h' tk ⟨L, es, ep, t, R, hL, g⟩ hk => ?_
  rw [hlen, List.take_length] at g
  have hn : es.size = (uniq Fs).length := by
    rw [es_len R.rw_]
    have h1 := sub_len (L.map (·.2)) (uniq Fs) R.nd fun x hx => mem_uniq.mpr ((g x).mp hx)
    have h2 := sub_len (uniq Fs) (L.map (·.2)) (nodup_uniq Fs) fun x hx => (g x).mpr (mem_uniq.mp hx)
    rw [List.length_map] at h1 h2
    omega
  exact ⟨.ref s.heap.objs.size, upd H s.heap.objs.size (SzO s.heap.objs.size (uniq Fs).length), I.laid (t' := tk) hk (Nat.le_refl _) (szO_new ⟨es, ep, t, R.ob, Th.Set.fits (s := { s with heap := h' }) R, hn⟩), rfl, q _ (I.hok.fresh (Nat.le_refl _))⟩
/-- len(set) -/
def rLenSz : List V → Hp → VK → Prop := fun xs H Q => ∃ (a : Addr) (n : Nat), xs = [V.ref a] ∧ H a = some (SzO a n) ∧ n < 1000 ∧ Q (.int (n : Int)) H
theorem cr_lenSz {X : Cx} : CallR X (.builtin "len") rLenSz := by
  intro pins s σ H xs us Q I r h
  obtain ⟨a, n, rfl, ha, hn, q⟩ := h
  rw [Vals.ref1 r]
  obtain ⟨es, ep, t, ⟨o, ho, hex, hd⟩, hf, hz⟩ := (I.hok a _ ha).1
  refine call_len_set ho hex hd hf (by rw [hz]; omega) ⟨.int (n : Int), H, I.tok _, ⟨_, by rw [hz]⟩, q⟩
/-- set(xs), xs a list of numbers -/
def rSetLI (K : PySem.W.Frag) (w : World) : List V → Hp → VK → Prop := fun xs H Q => ∃ (a : Addr) (l : List Nat), xs = [V.ref a] ∧ SqL K H a (iv l) ∧ l.length ≤ 1000 ∧
  ∀ p c, H p = none → c ≤ (uniq l).length → Q (.ref p) (upd H p (SetO w p (fun j => decide (j ∈ l.map fun n : Nat => (n : Int))) c))
theorem setR_fresh {w : World} {h : Heap} {a : Addr} (ho : h.get? a = some (freshSet w)) : SetR w h a (fun _ => false) 0 := (setR_new_at (ns := []) ho).congr fun k => by simp
def GotI (w : World) (S : Addr) (l : List Nat) (i : Nat) (h : Heap) : Prop := ∃ c, c = (uniq (l.take i)).length ∧ SetR w h S (fun j => decide (j ∈ (l.take i).map fun n : Nat => (n : Int))) c
theorem fill_ints {P : Program} {w : World} {h0 : Heap} {S : Addr} {items : Array Value} {l : List Nat} (hi : Paired (fun v (n : Nat) => ∃ t, v = Value.int (n : Int) t) items.toList l) (hl : l.length ≤ 1000) : Fill P w h0 S items (GotI w S l) where
  keep := fun {i h h'} ⟨c, hc, R⟩ hS ho => ⟨c, hc, R.at hS⟩
  put := fun {i v s A E Q} hu hv ⟨c, hc, R⟩ ho hQ => by
    obtain ⟨n, hn, t, rfl⟩ := pget hi (i := i) (by rw [Array.getElem?_toList]; exact hv)
    have tk : l.take (i + 1) = l.take i ++ [n] := take_next hn
    have hcl : c ≤ l.length := by
      rw [hc]
      exact sub_len _ _ (nodup_uniq _) fun x hx => List.mem_of_mem_take (mem_uniq.mp hx)
    unfold setAdd
    refine wpAny_holding (wpAny_bind ((intKind P w).pyHash (k := (n : Int)) (intKind_is _ _ _ _) ?_))
    refine setR_add_hashed (s := { s with toks := s.toks + 1 }) R (by unfold scanBound; omega) fun h' sb R' => hQ _ h' _ (Nat.le_succ _) sb ⟨_, ?_, R'.congr fun j => ?_⟩
    · rw [tk, uniq_snoc, hc]
      have e : decide ((n : Int) ∈ (l.take i).map fun n : Nat => (n : Int)) = decide (n ∈ l.take i) := decide_eq_decide.mpr ⟨fun q => by
        obtain ⟨m, hm, e⟩ := List.mem_map.mp q
        have : m = n := by omega
        exact this ▸ hm, fun q => List.mem_map_of_mem q⟩
      rw [e]
      by_cases h : n ∈ l.take i <;> simp [h, mem_uniq]
    · rw [tk, List.map_append]
      simp [List.mem_append]
theorem cr_setLI {X : Cx} {k : Nat} (hr : Room k X.A) (hc : X.calm = true) : CallR X (.type "set") (rSetLI X.K X.w) := by
  intro pins s σ H xs us Q I r h
  obtain ⟨a, l, rfl, hs, hl, q⟩ := h
  obtain ⟨its, rv, pl, _⟩ := I.list hs
  rw [Vals.ref1 r]
  have hi : Paired (fun v (n : Nat) => ∃ t, v = Value.int (n : Int) t) its.toArray.toList l := by
    rw [List.toList_toArray]
    exact nats_of_vals rv
  have hlen : its.toArray.size = l.length := by
    have := plen hi
    rw [Array.length_toList] at this
    exact this
  refine set_of_list (P := X.prog) (w := X.w) (T := GotI X.w s.heap.objs.size l) (I.ok.hd hc) pl.isList (by have := hr.un; omega) (fill_ints hi hl) (fun h e _ => ⟨0, rfl, (setR_fresh e).congr fun k => by simp⟩) fun h' tk ⟨c, hcc, R⟩ hk => ?_
  rw [hlen, List.take_length] at hcc R
  exact ⟨.ref _, upd H s.heap.objs.size (SetO X.w s.heap.objs.size (fun j => decide (j ∈ l.map fun n : Nat => (n : Int))) c), I.laid (t' := tk) hk (Nat.le_refl _) (setO_new R), rfl, q _ c (I.hok.fresh (Nat.le_refl _)) (Nat.le_of_eq hcc)⟩
theorem cSetF {X : Cx} (K : PySem.W.Frag) {k : Nat} (hr : Room k X.A) (hc : X.calm = true := by rfl) (hK : X.K = K := by rfl) : CallR X (.type "set") (rSetF K) := by subst hK; exact cr_setF hr hc
theorem cSetLI {X : Cx} (K : PySem.W.Frag) (w : World) {k : Nat} (hr : Room k X.A) (hc : X.calm = true := by rfl) (hK : X.K = K := by rfl) (hw : X.w = w := by rfl) : CallR X (.type "set") (rSetLI K w) := by subst hK hw; exact cr_setLI hr hc
end Sb

/-! W1: is_int .. need_bags, size_of. -/
namespace Sb
open PySem L2
/-- one of two rules -/
theorem opOr {X : Cx} {f : Value → Value → Sem Value} {r r' : R2} (h : OpR X f r) (h' : OpR X f r') : OpR X f (fun x y H Q => r x y H Q ∨ r' x y H Q) := by
  intro pins s σ H x y v u Q I rx ry q
  rcases q with q | q
  · exact h pins s σ H x y v u Q I rx ry q
  · exact h' pins s σ H x y v u Q I rx ry q
def rLtB (K : PySem.W.Frag) : R2 := fun x y H Q => rLtT K x y H Q ∨ ∃ i j, x = .int i ∧ y = .int j ∧ Q (.bl (decide (i < j))) H
def rLtI : R2 := fun x y H Q => ∃ i j, x = .int i ∧ y = .int j ∧ Q (.bl (decide (i < j))) H
theorem oLtB {X : Cx} (K : PySem.W.Frag) {k : Nat} (hr : Room k X.A) (hK : X.K = K := by rfl) : OpR X (compareOp .Lt) (rLtB K) := by
  subst hK
  have h2 : OpR X (compareOp .Lt) rLtI := fun pins s σ H x y v u Q I rx ry q => by
    exact op_lt pins s σ H x y v u Q I rx ry q
  exact opOr (op_ltT (by have := hr.units; omega)) h2
theorem htLt : ∀ a b : List Nat, HT.lexLt (a.map fun n : Nat => (n : Int)) (b.map fun n : Nat => (n : Int)) = lexLt a b
  | [], [] => rfl
  | [], _ :: _ => rfl
  | _ :: _, [] => rfl
  | x :: xs, y :: ys => by
    have ih := htLt xs ys
    rw [List.map_cons, List.map_cons, HT.lexLt_cons, ih]
    show _ = if Nat.beq x y then lexLt xs ys else Nat.blt x y
    by_cases e : x = y
    · subst e
      rw [if_pos rfl, if_pos (Nat.beq_refl x)]
    · rw [if_neg (by omega), if_neg (fun h => e (Nat.eq_of_beq_eq_true h))]
      by_cases h : x < y
      · have : Nat.blt x y = true := by unfold Nat.blt; rw [Nat.ble_eq]; exact h
        rw [this]
        exact decide_eq_true (by omega)
      · have : Nat.blt x y = false := by
          cases q : Nat.blt x y
          · rfl
          · unfold Nat.blt at q
            rw [Nat.ble_eq] at q
            exact absurd q h
        rw [this]
        exact decide_eq_false (by omega)
def LtV (H : Hp) (x y : V) : Prop := (∃ i j : Int, x = .int i ∧ y = .int j ∧ i < j) ∨ ∃ l l' : List Nat, TupN H x l ∧ TupN H y l' ∧ lexLt l l' = true
theorem LtV.mono {H H' : Hp} (e : Same H H') {x y : V} (h : LtV H x y) : LtV H' x y := by
  rcases h with h | ⟨l, l', h1, h2, h3⟩
  · exact .inl h
  · exact .inr ⟨l, l', h1.mono e, h2.mono e, h3⟩
theorem LtV.rule {K : PySem.W.Frag} {H : Hp} {x y : V} (h : LtV H x y) {Q : VK} (q : Q (.bl true) H) : rLtB K x y H Q := by
  rcases h with ⟨i, j, rfl, rfl, h⟩ | ⟨l, l', ⟨a, rfl, ha⟩, ⟨b, rfl, hb⟩, h⟩
  · exact .inr ⟨i, j, rfl, rfl, by rw [decide_eq_true h]; exact q⟩
  · refine .inl ⟨a, b, l.map fun n : Nat => (n : Int), l'.map fun n : Nat => (n : Int), rfl, rfl, SqT.of (by rw [← iv_int]; exact ha), SqT.of (by rw [← iv_int]; exact hb), ?_⟩
    rw [htLt, h]
    exact q
def spIsInt : Sp := fun vs H Q _ => ∃ i, vs = [.int i] ∧ Q (.bl true) H
def spIsIn : Sp := fun vs H Q _ => ∃ i a b, vs = [.int i, .int a, .int b] ∧ a ≤ i ∧ i ≤ b ∧ Q (.bl true) H
def spRising : Sp := fun vs H Q _ => ∃ a xs, vs = [.ref a] ∧ H a = some (.tup xs) ∧ 1 ≤ xs.length ∧ xs.length ≤ 1000 ∧ (∀ i x y, xs[i]? = some x → xs[i + 1]? = some y → LtV H x y) ∧ ∀ H', Same H H' → Q (.bl true) H'
def spIsBag : Sp := fun vs H Q _ => ∃ l, ∃ v, vs = [v] ∧ TupN H v l ∧ l.Pairwise (· < ·) ∧ 2 ≤ l.length ∧ (∀ b ∈ l, b < 60) ∧ ∀ H', Same H H' → Q (.bl true) H'
def spFam (z : V) : Sp := fun vs H Q _ => ∃ n F v, vs = [v] ∧ FamT H v F ∧ IsFam n F ∧ n ≤ 60 ∧ ∀ H', Same H H' → Q z H'
theorem all_true {n : Nat} {bs : List Bool} (h : ∀ b ∈ bs, b = true) : bs.all id = true := List.all_eq_true.mpr h
abbrev sIsInt : Stmt := topS 7
theorem scIsInt : FnScope ["value"] ["value"] (defScope sIsInt) := ⟨rfl, rfl, rfl, by decide +kernel, rfl, by decide +kernel, by decide +kernel⟩
abbrev sIsIn : Stmt := topS 8
theorem scIsIn : FnScope ["value", "least", "most"] ["value", "least", "most"] (defScope sIsIn) := ⟨rfl, rfl, rfl, by decide +kernel, rfl, by decide +kernel, by decide +kernel⟩
abbrev sIsRising : Stmt := topS 9
theorem scIsRising : FnScope ["value", "one", "other"] ["value"] (defScope sIsRising) := ⟨rfl, rfl, rfl, by decide +kernel, rfl, by decide +kernel, by decide +kernel⟩
section
variable {P : Program} {w : World} {K : PySem.W.Frag} {mg : Str → Option Value} {base : Heap}
theorem d_is_int (A : At K mg "is_int" sIsInt ["value"]) (T : Bi mg) : DefAt P w K mg base 1 "is_int" ["value"] spIsInt := A.mk' fun f fd F => by
  refine F.ok scIsInt (fun vs H Q E h => ?_) (fun cdv A outer s H vs Q E hr h => ?_)
  · obtain ⟨i, rfl, _⟩ := h; rfl
  · obtain ⟨i, rfl, q⟩ := h
    refine ⟨_, (pss_one (ps_ret (pe_and (pIsinst (cIsi K) T.isinstance (pv 0) (pTy T.int rfl)) (pe_one (pe_not (pIsinst (cIsi K) T.isinstance (pv 0) (pTy T.bool rfl))))))), ?_⟩
    refine ⟨_, rfl, _, _, _, _, true, rfl, .ty _, .base (.int i), kit_ty (by decide +kernel), true, rfl, ?_⟩
    exact ⟨_, rfl, _, _, _, _, false, rfl, .ty _, .base (.int i), kit_ty (by decide +kernel), false, rfl, q⟩
theorem d_is_in (A : At K mg "is_in" sIsIn ["value", "least", "most"]) (D_is_int : DefAt P w K mg base 1 "is_int" ["value"] spIsInt) : DefAt P w K mg base 2 "is_in" ["value", "least", "most"] spIsIn := A.mk' fun f fd F => by
  refine F.ok scIsIn (fun vs H Q E h => ?_) (fun cdv A outer s H vs Q E hr h => ?_)
  · obtain ⟨i, a, b, rfl, _⟩ := h; rfl
  · obtain ⟨i, a, b, rfl, h1, h2, q⟩ := h
    refine ⟨_, (pss_one (ps_ret (pe_and (pCall D_is_int (hr.mono (by decide)) (pa_cons (pv 0) pa_nil)) (pe_one (pe_chain op_le op_le (pv 1) (pv 0) (pv 2)))))), ?_⟩
    refine ⟨_, rfl, i, rfl, true, rfl, ?_⟩
    refine ⟨_, rfl, _, rfl, _, _, rfl, rfl, true, congrArg V.bl (decide_eq_true h1), ?_⟩
    refine ⟨_, rfl, _, _, rfl, rfl, ?_⟩
    show Q (.bl (decide (i ≤ b))) H
    rw [decide_eq_true h2]
    exact q
theorem d_is_rising (A : At K mg "is_rising" sIsRising ["value"]) (T : Bi mg) : DefAt P w K mg base 1 "is_rising" ["value"] spRising := A.mk' fun f fd F => by
  refine F.ok scIsRising (fun vs H Q E h => ?_) (fun cdv A outer s H vs Q E hr h => ?_)
  · obtain ⟨a, xs, rfl, _⟩ := h; rfl
  · obtain ⟨a, xs, rfl, ha, h1, hl, hlt, q⟩ := h
    refine ⟨_, (pss_one (ps_ret (pAll (cAll K) T.all (pLcX [("one", 1), ("other", 2)] scIsRising.nd (pZipA K T.zip (pa_cons (pv 0) (pa_cons (pe_slice (sTupA K) (pv 0) (po_some pe_int) po_none) pa_nil))) (N := ["value", "one", "other"]) (sc := (defScope sIsRising)) (by decide +kernel) (fun _ _ _ _ _ => (pgT K 2 rfl (pgs_cons (pgN 1 scIsRising.nd) (pgs_cons (pgN 2 scIsRising.nd) pgs_nil)))) (fun _ _ _ _ _ => pts_nil) (fun _ _ _ _ _ => (pe_cmpR (oLtB K hr) (pv 1) (pv 2) (nomark _))))))), ?_⟩
    have hl2 : HT.sIx xs.length 0 (some 1) = 1 := by
      rw [show (1 : Int) = ((1 : Nat) : Int) from rfl, HT.sIx_nat]; omega
    refine ⟨_, rfl, _, rfl, 1, rfl, a, xs, rfl, SqT.of ha, fun z => ?_, fun _ p np => ?_⟩
    · rw [hl2] at z; omega
    have hcut : cutV xs (some 1) none = xs.drop 1 := by
      unfold cutV
      rw [hl2, HT.sIx_none]
      exact List.take_of_length_le (by rw [List.length_drop]; omega)
    rw [hcut]
    have e1 := Same.new (H := H) np (.tup (xs.drop 1))
    have hp : upd H p (.tup (xs.drop 1)) p = some (.tup (xs.drop 1)) := upd_same
    refine ⟨a, p, xs, _, rfl, .inr ⟨SqT.of (e1 _ _ ha), SqT.of hp, fun D hD => lc_fm ((walk_zipT (K := K) (a := a) (b := p) (xs := xs) (ys := xs.drop 1) (n := xs.length - 1) (by rw [List.length_drop]; omega)).mono (G' := Same (upd H p (.tup (xs.drop 1)))) (fun H' e => ⟨SqT.of (e _ _ (e1 _ _ ha)), SqT.of (e _ _ hp)⟩) (fun _ _ _ _ _ _ y => y)) (RV0 V.bl) (fun i => some true) hD (fun _ e => e) YPair.same (fun _ _ _ _ _ r => r) (fun _ _ _ _ _ _ r => r) (by omega) ?_ ?_⟩⟩
    · rintro i x H1 H2 Q1 Q0 hi s1 ⟨T', x1, x2, rfl, hT, rfl, hx1, hx2⟩ k1 k0
      refine ⟨T', _, rfl, SqT.of upd_same, rfl, _, _, rfl, _, _, rfl, rfl, rfl, ?_⟩
      have hx2 : (xs.drop 1)[i]? = some x2 := hx2
      rw [List.getElem?_drop, Nat.add_comm] at hx2
      have l1 := ((hlt i x1 x2 hx1 hx2).mono (e1.trans s1)).mono (Same.new hT (.tup [x1, x2]))
      exact ⟨_, rfl, _, rfl, l1.rule (k1 _ _ _ rfl (Same.refl _) rfl)⟩
    · intro H1 ys s1 hD1 hy
      have e := rv0_list hy
      subst e
      refine ⟨D, _, rfl, SqL.of hD1, ?_⟩
      rw [all_true (n := 0) (fun b hb => by
        obtain ⟨i, _, e⟩ := List.mem_filterMap.mp hb
        exact (Option.some.inj e).symm)]
      exact q _ (e1.trans s1)
end
end Sb

/-! W2: is_bag, need_bags, size_of. -/
namespace Sb
open PySem L2
abbrev sIsBag : Stmt := topS 10
theorem scIsBag : FnScope ["value", "bead"] ["value"] (defScope sIsBag) := ⟨rfl, rfl, rfl, by decide +kernel, rfl, by decide +kernel, by decide +kernel⟩
abbrev sNeedBags : Stmt := topS 11
theorem scNeedBags : FnScope ["value", "bag"] ["value"] (defScope sNeedBags) := ⟨rfl, rfl, rfl, by decide +kernel, rfl, by decide +kernel, by decide +kernel⟩
abbrev sSizeOf : Stmt := topS 12
theorem scSizeOf : FnScope ["bags", "bag"] ["bags"] (defScope sSizeOf) := ⟨rfl, rfl, rfl, by decide +kernel, rfl, by decide +kernel, by decide +kernel⟩
theorem all_some {n : Nat} {f : Nat → Option Bool} (h : ∀ i, f i = some true) : ((List.range n).filterMap f).all id = true := List.all_eq_true.mpr fun b hb => by
  obtain ⟨i, _, e⟩ := List.mem_filterMap.mp hb
  rw [h] at e
  exact (Option.some.inj e).symm
theorem rV_map {H : Hp} {β : Type} {f : β → V} {ys : List V} {bs : List β} (h : Paired (RV0 f H) ys bs) : ys = bs.map f := rv0_list h
theorem iv_last {l : List Nat} (h : l ≠ []) : atI (iv l) (-1) = some (V.int (l.getLastD 0 : Nat)) := by
  have e : iv l = iv l.dropLast ++ [V.int (l.getLastD 0 : Nat)] := by
    have q := List.dropLast_concat_getLast h
    have q2 : l.getLastD 0 = l.getLast h := by rw [List.getLastD_eq_getLast?, List.getLast?_eq_some_getLast h]; rfl
    rw [q2]
    show iv l = iv l.dropLast ++ iv [l.getLast h]
    rw [← iv_append, q]
  rw [e]
  exact atI_last _ _
section
variable {P : Program} {w : World} {K : PySem.W.Frag} {mg : Str → Option Value} {base : Heap}
theorem d_is_bag (A : At K mg "is_bag" sIsBag ["value"]) (T : Bi mg) (mM : ∃ t, mg "MOST_BEADS" = some (.int 60 t)) (D_is_in : DefAt P w K mg base 2 "is_in" ["value", "least", "most"] spIsIn) (D_is_rising : DefAt P w K mg base 1 "is_rising" ["value"] spRising) :
    DefAt P w K mg base 3 "is_bag" ["value"] spIsBag := A.mk' fun f fd F => by
  obtain ⟨tM, mM⟩ := mM
  refine F.ok scIsBag (fun vs H Q E h => ?_) (fun cdv A outer s H vs Q E hr h => ?_)
  · obtain ⟨l, v, rfl, _⟩ := h; rfl
  · obtain ⟨l, v, rfl, ⟨a, rfl, ha⟩, hl, h2, h60, q⟩ := h
    refine ⟨_, (pss_cons (ps_if (PW.pt (pw_or (pt_not (pt_val (pIsinst (cIsi K) T.isinstance (pv 0) (pTy T.tuple rfl)))) (pw_or1 (pt_cmpR (op_lt) (pLen (cLen K) T.len (pv 0)) pe_int (nomark _))))) (pss_one (ps_ret pe_bl)) pss_nil)
    (pss_one (ps_ret (pe_and (pAll (cAll K) T.all (pLcX [("bead", 1)] scIsBag.nd (piSeq K (pv 0)) (N := ["value", "bead"]) (sc := (defScope sIsBag)) (by decide +kernel) (fun _ _ _ _ _ => (pgN 1 scIsBag.nd)) (fun _ _ _ _ _ => pts_nil) (fun _ _ _ _ _ => (pCall D_is_in (hr.mono (by decide)) (pa_cons (pv 1) (pa_cons pe_int (pa_cons (pe_op op_sub (pe_glob (v := .int 60) rfl mM ⟨_, rfl⟩) pe_int) pa_nil))))))) (pe_one (pCall D_is_rising (hr.mono (by decide)) (pa_cons (pv 0) pa_nil))))))), ?_⟩
    have hb : l.length ≤ 60 := nodup_len (nodup_of_lt hl) h60
    refine ⟨_, rfl, _, _, _, _, true, rfl, .ty _, .base (.tup ha), kit_ty (by decide +kernel), true, rfl, ?_⟩
    refine ⟨_, rfl, a, _, rfl, .inr (SqT.of ha), _, _, rfl, rfl, false, congrArg V.bl (decide_eq_false (by rw [iv_length]; omega)), ?_⟩
    obtain ⟨J, hw, sel⟩ := seq_sel (K := K) (.inr ha)
    refine ⟨_, rfl, a, rfl, sel _ fun D hD => lc_fm hw (RV0 V.bl) (fun i => some true) hD (fun _ e => e) YAt.same (fun _ _ _ _ _ r => r) (fun _ _ _ _ _ _ r => r) (by rw [iv_length]; omega) ?_ ?_⟩
    · rintro i x H1 H2 Q1 Q0 hi s1 ⟨rfl, hx⟩ k1 k0
      obtain ⟨b, hb', rfl⟩ := of_iv_get hx
      have hb60 := h60 b (List.mem_of_getElem? hb')
      exact ⟨rfl, _, rfl, _, _, rfl, rfl, _, _, _, rfl, by omega, by omega, k1 _ _ _ rfl (Same.refl _) rfl⟩
    · intro H1 ys s1 hD1 hy
      rw [rV_map hy] at hD1
      refine ⟨D, _, rfl, SqL.of hD1, true, by rw [all_some fun _ => rfl], ?_⟩
      refine ⟨_, rfl, a, iv l, rfl, s1 _ _ ha, by rw [iv_length]; omega, by rw [iv_length]; omega, fun i x y hx hy => ?_, fun H' e => q _ (s1.trans e)⟩
      obtain ⟨b, hb1, rfl⟩ := of_iv_get hx
      obtain ⟨c, hc1, rfl⟩ := of_iv_get hy
      refine .inl ⟨_, _, rfl, rfl, ?_⟩
      obtain ⟨l1, e1⟩ := List.getElem?_eq_some_iff.mp hb1
      obtain ⟨l2, e2⟩ := List.getElem?_eq_some_iff.mp hc1
      have := List.pairwise_iff_getElem.mp hl i (i + 1) l1 l2 (by omega)
      omega
theorem d_need_bags (A : At K mg "need_bags" sNeedBags ["value"]) (T : Bi mg) (D_is_bag : DefAt P w K mg base 3 "is_bag" ["value"] spIsBag) (D_is_rising : DefAt P w K mg base 1 "is_rising" ["value"] spRising) :
    DefAt P w K mg base 4 "need_bags" ["value"] (spFam .non) := A.mk' fun f fd F => by
  refine F.ok scNeedBags (fun vs H Q E h => ?_) (fun cdv A outer s H vs Q E hr h => ?_)
  · obtain ⟨n, FF, v, rfl, _⟩ := h; rfl
  · obtain ⟨n, FF, v, rfl, ⟨a, us, rfl, ha, hp⟩, I, hn, q⟩ := h
    refine ⟨_, (pss_cons (ps_if (PW.pt (pw_or (pt_not (pt_val (pIsinst (cIsi K) T.isinstance (pv 0) (pTy T.tuple rfl)))) (pw_or (pt_cmpR (oEqD K hr) (pv 0) (pe_tup pa_nil) (nomark _)) (pw_or1 (pt_not (pt_val (pAll (cAll K) T.all (pLcX [("bag", 1)] scNeedBags.nd (piSeq K (pv 0)) (N := ["value", "bag"]) (sc := (defScope sNeedBags)) (by decide +kernel) (fun _ _ _ _ _ => (pgN 1 scNeedBags.nd)) (fun _ _ _ _ _ => pts_nil) (fun _ _ _ _ _ => (pCall D_is_bag (hr.mono (by decide)) (pa_cons (pv 1) pa_nil))))))))))) (pss_one ps_never) pss_nil)
    (pss_one (ps_if (pt_not (pt_val (pCall D_is_rising (hr.mono (by decide)) (pa_cons (pv 0) pa_nil)))) (pss_one ps_never) pss_nil))), ?_⟩
    have hu : us.length = FF.length := plen hp
    have hlen := I.len
    have hpos := I.pos
    refine ⟨_, rfl, _, _, _, _, true, rfl, .ty _, .base (.tup ha), kit_ty (by decide +kernel), true, rfl, ?_⟩
    refine ⟨_, rfl, (by decide), fun t nt => ?_⟩
    have st := Same.new (H := H) nt (.tup [])
    refine ⟨dF FF, dF [], (FamT.mono st ⟨a, us, rfl, ha, hp⟩).dp, .tup (SqT.of upd_same) .nil, shaped_F _, shaped_F _, false, ?_, ?_⟩
    · rw [eqv_F]
      exact congrArg V.bl (decide_eq_false fun e => by rw [e] at hpos; simp at hpos)
    have ha1 := st _ _ ha
    obtain ⟨J, hw, sel⟩ := seq_sel (K := K) (.inr ha1)
    refine ⟨_, rfl, a, rfl, sel _ fun D hD => lc_fm hw (RV0 V.bl) (fun i => some true) hD (fun _ e => e) YAt.same (fun _ _ _ _ _ r => r) (fun _ _ _ _ _ _ r => r) (by omega) ?_ ?_⟩
    · rintro i x H1 H2 Q1 Q0 hi s1 ⟨rfl, hx⟩ k1 k0
      obtain ⟨bag, hbag, htn⟩ := pget hp hx
      have hB := I.bags bag (List.mem_of_getElem? hbag)
      exact ⟨rfl, _, rfl, bag, _, rfl, (htn.mono st).mono s1, hB.1, hB.2.1, fun b hb => Nat.lt_of_lt_of_le (hB.2.2 b hb) hn, fun H' e => k1 _ _ _ rfl e rfl⟩
    · intro H1 ys s1 hD1 hy
      rw [rV_map hy] at hD1
      refine ⟨D, _, rfl, SqL.of hD1, true, by rw [all_some fun _ => rfl], ?_⟩
      refine ⟨_, rfl, a, us, rfl, s1 _ _ ha1, by omega, by omega, fun i x y hx hy => ?_, fun H' e => ⟨true, rfl, q _ (st.trans (s1.trans e))⟩⟩
      obtain ⟨b1, hb1, t1⟩ := pget hp hx
      obtain ⟨b2, hb2, t2⟩ := pget hp hy
      refine .inr ⟨b1, b2, (t1.mono st).mono s1, (t2.mono st).mono s1, ?_⟩
      obtain ⟨l1, e1⟩ := List.getElem?_eq_some_iff.mp hb1
      obtain ⟨l2, e2⟩ := List.getElem?_eq_some_iff.mp hb2
      have := List.pairwise_iff_getElem.mp I.rise i (i + 1) l1 l2 (by omega)
      rw [e1, e2] at this
      exact this
/-- 1 + max of the last beads -/
def spSize : Sp := fun vs H Q _ => ∃ n F v, vs = [v] ∧ FamT H v F ∧ Pre n F ∧ n ≤ 60 ∧ ∀ H', Same H H' → Q (.int (n : Nat)) H'
theorem d_size_of (A : At K mg "size_of" sSizeOf ["bags"]) (T : Bi mg) : DefAt P w K mg base 1 "size_of" ["bags"] spSize := A.mk' fun f fd F => by
  refine F.ok scSizeOf (fun vs H Q E h => ?_) (fun cdv A outer s H vs Q E hr h => ?_)
  · obtain ⟨n, FF, v, rfl, _⟩ := h; rfl
  · obtain ⟨n, FF, v, rfl, ⟨a, us, rfl, ha, hp⟩, I, hn, q⟩ := h
    refine ⟨_, (pss_one (ps_ret (pe_op op_add pe_int (pMax (cMax K) T.max (pLcX [("bag", 1)] scSizeOf.nd (piSeq K (pv 0)) (N := ["bags", "bag"]) (sc := (defScope sSizeOf)) (by decide +kernel) (fun _ _ _ _ _ => (pgN 1 scSizeOf.nd)) (fun _ _ _ _ _ => pts_nil) (fun _ _ _ _ _ => (pIx K (pv 1) (pe_un un_neg pe_int)))))))), ?_⟩
    have hu : us.length = FF.length := plen hp
    have hlen := I.len
    have hpos := I.pos
    obtain ⟨J, hw, sel⟩ := seq_sel (K := K) (.inr ha)
    refine ⟨_, rfl, a, rfl, sel _ fun D hD => lc_fm hw (RV0 fun i : Int => V.int i) (fun i => (FF[i]?).map fun bag => ((bag.getLastD 0 : Nat) : Int)) hD (fun _ e => e) YAt.same (fun _ _ _ _ _ r => r) (fun _ _ _ _ _ _ r => r) (by omega) ?_ ?_⟩
    · rintro i x H1 H2 Q1 Q0 hi s1 ⟨rfl, hx⟩ k1 k0
      obtain ⟨bag, hbag, c, rfl, hc⟩ := pget hp hx
      have hB := I.bags bag (List.mem_of_getElem? hbag)
      refine ⟨rfl, _, rfl, _, rfl, c, _, _, _, rfl, rfl, .inr (SqT.of (s1 _ _ hc)), iv_last (fun e => by rw [e] at hB; simp at hB), ?_⟩
      exact k1 _ _ _ (by rw [hbag]; rfl) (Same.refl _) rfl
    · intro H1 ys s1 hD1 hy
      have e := rV_map hy
      rw [hu, range_map_some (g := fun bag => ((bag.getLastD 0 : Nat) : Int)) (fun i b hb => by rw [hb]; rfl)] at e
      subst e
      refine ⟨D, _, rfl, SqL.of hD1, by rw [List.length_map]; omega, fun m hm hle => ?_⟩
      obtain ⟨bag, hb, rfl⟩ := List.mem_map.mp hm
      have e := I.top (m := bag.getLastD 0) (List.mem_map.mpr ⟨bag, hb, rfl⟩) fun y hy => by
        obtain ⟨bag', hb', rfl⟩ := List.mem_map.mp hy
        have := hle _ (List.mem_map.mpr ⟨bag', hb', rfl⟩)
        omega
      refine ⟨_, _, rfl, rfl, ?_⟩
      have e2 : (1 : Int) + ((bag.getLastD 0 : Nat) : Int) = (n : Nat) := by omega
      show Q (.int (1 + ((bag.getLastD 0 : Nat) : Int))) H1
      rw [e2]
      exact q _ s1
end
end Sb

/-! W3: shared_by, homes_of. -/
namespace Sb
open PySem L2
abbrev sSharedBy : Stmt := topS 13
theorem scSharedBy : FnScope ["one", "other", "told", "bead"] ["one", "other"] (defScope sSharedBy) := ⟨rfl, rfl, rfl, by decide +kernel, rfl, by decide +kernel, by decide +kernel⟩
abbrev sHomesOf : Stmt := topS 14
theorem scHomesOf : FnScope ["bags", "bead", "found", "index", "bag"] ["bags"] (defScope sHomesOf) := ⟨rfl, rfl, rfl, by decide +kernel, rfl, by decide +kernel, by decide +kernel⟩
theorem seq_sel2 {K : PySem.W.Frag} {H0 : Hp} {a : Addr} {us : List V} (h : H0 a = some (.lst us) ∨ H0 a = some (.tup us)) : ∃ J, Walk J us.length (Same H0) (YAt us) ∧
    ∀ H, Same H0 H → ∀ R : It → Hp → Prop, R J H → iSel K H a R := by
  rcases h with h | h
  · exact ⟨Itl K a, (walk_list (K := K)).mono (fun H' e => SqL.of (e _ _ h)) (fun _ _ _ _ _ _ y => y), fun H e R r => .inl ⟨⟨_, SqL.of (e _ _ h)⟩, r⟩⟩
  · exact ⟨Itt K a, (walk_tup (K := K)).mono (fun H' e => SqT.of (e _ _ h)) (fun _ _ _ _ _ _ y => y), fun H e R r => .inr ⟨⟨_, SqT.of (e _ _ h)⟩, r⟩⟩
def spShared : Sp := fun vs H Q _ => ∃ v v' l l', vs = [v, v'] ∧ TupN H v l ∧ TupN H v' l' ∧ l.length ≤ 60 ∧ l'.length ≤ 60 ∧ l'.Nodup ∧ ∀ z H', Same H H' → LstN H' z (l.filter fun b => decide (b ∈ l')) → Q z H'
def spHomes : Sp := fun vs H Q _ => ∃ n F v, vs = [v] ∧ FamT H v F ∧ Pre n F ∧ n ≤ 60 ∧ ∀ z H', Same H H' → HomesL H' z n F → Q z H'
section
variable {P : Program} {w : World} {K : PySem.W.Frag} {mg : Str → Option Value} {base : Heap}
theorem d_shared_by (A : At K mg "shared_by" sSharedBy ["one", "other"]) (T : Bi mg) : DefAt P w K mg base 1 "shared_by" ["one", "other"] spShared := A.mk' fun f fd F => by
  refine F.ok scSharedBy (fun vs H Q E h => ?_) (fun cdv A outer s H vs Q E hr h => ?_)
  · obtain ⟨v, v', l, l', rfl, _⟩ := h; rfl
  · obtain ⟨v, v', l, l', rfl, ⟨a, rfl, ha⟩, ⟨b, rfl, hb⟩, hl, hl', nd, q⟩ := h
    refine ⟨_, (pss_cons (ps_set (i := 2) scSharedBy.nd rfl (.inr rfl) (pDcX [("bead", 3)] scSharedBy.nd (piSeq K (pv 1)) (N := ["one", "other", "told", "bead"]) (sc := (defScope sSharedBy)) (by decide +kernel) (fun _ _ _ _ _ => (pgN 3 scSharedBy.nd)) (fun _ _ _ _ _ => pts_nil) (fun _ _ _ _ _ => (pv 3)) (fun _ _ _ _ _ => pe_bl)))
    (pss_one (ps_ret (pLcX [("bead", 3)] scSharedBy.nd (piSeq K (pv 0)) (N := ["one", "other", "told", "bead"]) (sc := (defScope sSharedBy)) (by decide +kernel) (fun _ _ _ _ _ => (pgN 3 scSharedBy.nd)) (fun _ _ _ _ _ => pts_one (pt_cmp (pc_din (hu_of hr) (pv 3) (pv 2)))) (fun _ _ _ _ _ => (pv 3)))))), ?_⟩
    obtain ⟨J, hw, sel⟩ := seq_sel (K := K) (.inr hb)
    refine ⟨_, rfl, b, rfl, sel _ fun D hD => dc_it hw (fun i H' => Same H H' ∧ H' D = some (.dK (dk (l'.take i) fun _ => .bl true))) ⟨Same.new hD _, upd_same⟩ (fun _ _ _ p => p.1) ?_ ?_⟩
    · rintro i x H1 H2 hi ⟨s1, hd⟩ ⟨rfl, hx⟩
      obtain ⟨c, hc, rfl⟩ := of_iv_get hx
      have hlt : i < l'.length := (List.getElem?_eq_some_iff.mp hc).1
      have e : l'.take (i + 1) = l'.take i ++ [c] := by rw [List.take_add_one, hc]; rfl
      have hn : c ∉ l'.take i := fun m => by
        have q : (l'.take (i + 1)).Nodup := nd.sublist (List.take_sublist _ _)
        rw [e] at q
        exact (List.nodup_append.mp q).2.2 c m c (List.mem_singleton_self c) rfl
      refine ⟨rfl, _, rfl, _, kI c, rfl, hd, by rw [dk_length, List.length_take, sizeLine_eq]; omega, Same.upd_ s1 hD _, ?_⟩
      rw [upd_same, e]
      exact congrArg (fun z => some (HO.dK z)) (putK_dk_new (f := fun _ => V.bl true) hn)
    · rintro H1 ⟨s1, hd⟩
      rw [iv_length, List.take_length] at hd
      obtain ⟨J2, hw2, sel2⟩ := seq_sel (K := K) (.inr (s1 _ _ ha))
      refine ⟨_, rfl, a, rfl, sel2 _ fun D2 hD2 => lc_fm hw2 (RV0 fun x : Nat => V.int (x : Int)) (fun i => (l[i]?).bind fun x => if x ∈ l' then some x else none) hD2 (fun _ e => e) YAt.same (fun _ _ _ _ _ r => r) (fun _ _ _ _ _ _ r => r) (by rw [iv_length]; omega) ?_ ?_⟩
      · rintro i x H2 H3 Q1 Q0 hi s2 ⟨rfl, hx⟩ k1 k0
        obtain ⟨c, hc, rfl⟩ := of_iv_get hx
        refine ⟨rfl, _, rfl, _, rfl, D, _, rfl, DGet.k (k := kI c) (s2 _ _ hd), _, rfl, ?_⟩
        rw [valV_dk]
        by_cases m : c ∈ l'
        · rw [if_pos m]
          exact ⟨_, rfl, k1 _ _ c (by rw [hc]; exact if_pos m) (Same.refl _) rfl⟩
        · rw [if_neg m]
          exact k0 (by rw [hc]; exact if_neg m) _ (Same.refl _)
      · intro H2 ys s2 hD3 hy
        have e := rV_map hy
        rw [iv_length, range_filter_some (g := id) (p := fun x => decide (x ∈ l')) (fun i x hx => by rw [hx]; simp)] at e
        subst e
        exact q _ _ (s1.trans s2) ⟨D2, rfl, by rw [hD3, List.map_id]; rfl⟩
theorem Rows.same {H0 H : Hp} {p : Addr} {cs : List Addr} {g : Nat → List Nat} (R : Rows H0 H p cs g) (e : Same H0 H) {i : Nat} {c : Addr} (hc : cs[i]? = some c) (o : HO) : Same H0 (upd H c o) := Same.upd_ e (R.ne c (List.mem_of_getElem? hc)).2 o
theorem d_homes_of (A : At K mg "homes_of" sHomesOf ["bags"]) (T : Bi mg) (D_size_of : DefAt P w K mg base 1 "size_of" ["bags"] spSize) : DefAt P w K mg base 2 "homes_of" ["bags"] spHomes := A.mk' fun f fd F => by
  refine F.ok scHomesOf (fun vs H Q E h => ?_) (fun cdv A outer s H vs Q E hr h => ?_)
  · obtain ⟨n, FF, v, rfl, _⟩ := h; rfl
  · obtain ⟨n, FF, v, rfl, hF, I, hn, q⟩ := h
    refine ⟨_, (pss_cons (sLcX 2 [("bead", 1)] scHomesOf.nd (pi_range1 rfl T.range (pa_cons (pCall D_size_of (hr.mono (by decide)) (pa_cons (pv 0) pa_nil)) pa_nil)) (N := ["bags", "bead", "found", "index", "bag"]) (sc := (defScope sHomesOf)) (by decide +kernel) (fun _ _ _ _ _ => (pgN 1 scHomesOf.nd)) (fun _ _ _ _ _ => pts_nil) (fun _ _ _ _ _ => (pe_lst pa_nil)) (by decide +kernel))
    (pss_cons (ps_for PassesOwn.never rfl (pEnumT K rfl T.enumerate (pa_cons (pv 0) pa_nil)) (pgT K 2 rfl (pgs_cons (pg_name (i := 3) scHomesOf.nd rfl (Or.inl rfl)) (pgs_cons (pg_name (i := 4) scHomesOf.nd rfl (Or.inl rfl)) pgs_nil)))
      (pss_one (ps_for PassesOwn.never rfl (piSeq K (pv 4)) (pg_name (i := 1) scHomesOf.nd rfl (Or.inl rfl))
        (pss_one (ps_expr (pe_bm PySem.F.plainAttrs_list PySem.F.slot_list_append PySem.F.type_list_append mt_append (pIx K (pv 2) (pv 1)) (pa_cons (pv 3) pa_nil)))))))
    (pss_one (ps_ret (pv 2))))), ?_⟩
    obtain ⟨a, us, rfl, ha, hp⟩ := id hF
    have hu : us.length = FF.length := plen hp
    have hlen := I.len
    refine ⟨_, rfl, n, FF, _, rfl, hF, I, hn, fun H0 s0 => ⟨n, rfl, by omega, by omega, fun D hD => lc_it (walk_range (lo := 0) (n := n)) (fun i H' => Same H0 H' ∧ ∃ cs, cs.length = i ∧ Rows H0 H' D cs fun _ => []) ⟨Same.new hD _, [], rfl, upd_same, hD, List.nodup_nil, by simp, by simp⟩ (fun _ _ _ _ => trivial) ?_ ?_⟩⟩
    · rintro i x H1 H2 hi ⟨s1, cs, hc, R⟩ ⟨rfl, rfl⟩
      refine ⟨rfl, Nat.zero_le _, fun l hl => ⟨cs.map V.ref, ?_, ?_, Same.upd_ (Same.upd_ s1 ?_ _) hD _, cs ++ [l], by rw [List.length_append, hc]; rfl, ?_⟩⟩
      · rw [upd_ne (ne_of_none R.at_ hl)]
        exact R.at_
      · rw [List.length_map, hc, sizeLine_eq]; omega
      · cases e : H0 l with
        | none => rfl
        | some o => rw [s1 _ _ e] at hl; cases hl
      · have h0l : H0 l = none := by
          cases e : H0 l with
          | none => rfl
          | some o => rw [s1 _ _ e] at hl; cases hl
        have nlD : l ≠ D := (ne_of_none R.at_ hl).symm
        have nlc : ∀ c ∈ cs, c ≠ l := fun c hcm z => by
          obtain ⟨j, hj⟩ := List.getElem?_of_mem hcm
          have := R.row j c hj
          rw [z, hl] at this
          cases this
        refine ⟨by rw [upd_same, List.map_append]; rfl, hD, ?_, fun c hcm => ?_, fun j c hj => ?_⟩
        · exact List.nodup_append.mpr ⟨R.nd, by simp, fun x hx y hy => by rw [List.mem_singleton.mp hy]; exact nlc x hx⟩
        · rcases List.mem_append.mp hcm with h | h
          · exact R.ne c h
          · rw [List.mem_singleton.mp h]
            exact ⟨nlD, h0l⟩
        · rw [List.getElem?_append] at hj
          split at hj
          · have hcm := List.mem_of_getElem? hj
            rw [upd_ne (R.ne c hcm).1, upd_ne (nlc c hcm)]
            exact R.row j c hj
          · have e : c = l := by
              have h1 := List.mem_of_getElem? hj
              exact List.mem_singleton.mp h1
            rw [e, upd_ne nlD, upd_same]
            rfl
    · rintro H1 ⟨s1, cs, hc, R⟩
      refine ⟨_, rfl, a, us, rfl, SqT.of (s1 _ _ (s0 _ _ ha)), for_it ((walk_enumT (K := K) (a := a) (xs := us)).mono (G' := Same H0) (fun H' e => SqT.of (e _ _ (s0 _ _ ha))) (fun _ _ _ _ _ _ y => y))
        (fun i σ H' => ∃ a1 a2 a3, σ = [some (.ref a), a1, some (.ref D), a2, a3] ∧ Same H0 H' ∧ Rows H0 H' D cs fun b => (List.range i).filter fun k => decide (b ∈ bagAt FF k))
        ⟨_, _, _, rfl, s1, R⟩ (fun i σ H' _ ⟨_, _, _, _, e, _⟩ => e) ?_ ?_⟩
      · rintro i x σ H2 H3 hi ⟨a1, a2, a3, rfl, s2, R2⟩ ⟨T', x1, x2, rfl, hT, rfl, hx1, hx2⟩
        cases hx1
        refine ⟨T', _, rfl, SqT.of upd_same, rfl, _, _, rfl, _, _, rfl, rfl, ?_⟩
        obtain ⟨bag, hbag, htn⟩ := pget hp hx2
        have eb : bagAt FF i = bag := bagAt_some hbag
        have hB := I.bags bag (List.mem_of_getElem? hbag)
        obtain ⟨c, rfl, hcb⟩ := htn
        have nT := Same.new hT (.tup [.int (i : Nat), .ref c])
        obtain ⟨J, hw, sel⟩ := seq_sel2 (K := K) (.inr (s0 _ _ hcb))
        have s3 := s2.trans nT
        refine ⟨_, rfl, c, rfl, sel _ s3 _ (for_it hw (fun j σ H' => ∃ a1, σ = [some (.ref a), a1, some (.ref D), some (.int (i : Nat)), some (.ref c)] ∧ Same H0 H' ∧ Rows H0 H' D cs fun b => (List.range i).filter (fun k => decide (b ∈ bagAt FF k)) ++ if b ∈ bag.take j then [i] else [])
          ⟨_, rfl, s3, (R2.mono nT).congr fun b _ => by simp⟩ (fun _ _ _ _ ⟨_, _, e, _⟩ => e) ?_ ?_)⟩
        · rintro j y σ H4 H5 hj ⟨b1, rfl, s4, R4⟩ ⟨rfl, hy⟩
          obtain ⟨b, hb, rfl⟩ := of_iv_get hy
          have hbn := hB.2.2 b (List.mem_of_getElem? hb)
          have hbc : b < cs.length := by omega
          have hcs : cs[b]? = some cs[b] := List.getElem?_eq_getElem hbc
          have hrow := R4.row b _ hcs
          refine ⟨_, rfl, _, rfl, D, _, _, V.ref cs[b], rfl, rfl, .inl (SqL.of R4.at_), atI_nat (j := b) (by rw [List.getElem?_map, hcs]; rfl), .inl ⟨rfl, _, SqL.of hrow⟩, _, rfl, cs[b], _, _, rfl, rfl, hrow, ?_, _, rfl, R4.same s4 hcs _, ?_⟩
          · rw [iv_length, List.length_append, sizeLine_eq]
            have h1 := List.length_filter_le (fun k => decide (b ∈ bagAt FF k)) (List.range i)
            rw [List.length_range] at h1
            have h2 : (if b ∈ bag.take j then [i] else []).length ≤ 1 := by split <;> simp
            omega
          · have hnb : b ∉ bag.take j := fun m => by
              have nd : (bag.take (j + 1)).Nodup := (nodup_of_lt hB.1).sublist (List.take_sublist _ _)
              rw [List.take_add_one, hb] at nd
              exact (List.nodup_append.mp nd).2.2 b m b (List.mem_singleton_self b) rfl
            have e := R4.put hcs ((List.range i).filter (fun k => decide (b ∈ bagAt FF k)) ++ (if b ∈ bag.take j then [i] else []) ++ [i])
            rw [iv_append] at e
            refine e.congr fun d _ => ?_
            have et : bag.take (j + 1) = bag.take j ++ [b] := by rw [List.take_add_one, hb]; rfl
            by_cases hd : d = b
            · subst hd
              rw [if_pos rfl, if_neg hnb, et, if_pos (by simp), List.append_nil]
            · rw [if_neg hd, et]
              simp [hd]
        · rintro σ H4 ⟨b1, rfl, s4, R4⟩
          refine ⟨_, _, _, rfl, s4, R4.congr fun b _ => ?_⟩
          rw [iv_length, List.take_length, List.range_succ, List.filter_append]
          congr 1
          rw [List.filter_cons, List.filter_nil, eb]
          by_cases m : b ∈ bag
          · simp [m]
          · simp [m]
      · rintro σ H2 ⟨a1, a2, a3, rfl, s2, R2⟩
        refine ⟨_, rfl, q _ _ (s0.trans s2) ⟨D, cs, rfl, R2.at_, hc, fun b c h => ?_⟩⟩
        rw [R2.row b c h, hu]
        rfl
end
end Sb

/-! W4: reached_from, bar_of, need_family. -/
namespace Sb
open PySem L2
abbrev sReachedFrom : Stmt := topS 15
theorem scReachedFrom : FnScope ["bags", "homes", "first", "found", "rim", "bead", "index"] ["bags", "homes", "first"] (defScope sReachedFrom) := ⟨rfl, rfl, rfl, by decide +kernel, rfl, by decide +kernel, by decide +kernel⟩
def tt1 : Nat → V := fun _ => .bl true
/-- what stands while the bags are reached -/
structure RB (H0 H : Hp) (d r : Addr) (m : Nat) (S R : List Nat) : Prop where
  s : Same H0 H
  d0 : H0 d = none
  r0 : H0 r = none
  dr : d ≠ r
  hd : H d = some (.dK (dk S tt1))
  hr : H r = some (.lst (iv R))
  nd : S.Nodup
  lt : ∀ i ∈ S, i < m
  z : 0 ∈ S
  sub : ∀ i ∈ R, i ∈ S
  len : R.length ≤ S.length
theorem RB.le {H0 H : Hp} {d r : Addr} {m : Nat} {S R : List Nat} (B : RB H0 H d r m S R) : S.length ≤ m := nodup_len B.nd B.lt
/-- closed but at e -/
def Cl (F : Fam) (S : List Nat) (e : Nat → Prop) : Prop := ∀ i ∈ S, ¬ e i → ∀ j b, j < F.length → b ∈ bagAt F i → b ∈ bagAt F j → j ∈ S
def rmu (m : Nat) (d r : Addr) (H : Hp) : Nat := match H d, H r with
  | some (.dK ks), some (.lst xs) => 2 * (m - ks.length) + xs.length
  | _, _ => 0
theorem RB.mu {H0 H : Hp} {d r : Addr} {m : Nat} {S R : List Nat} (B : RB H0 H d r m S R) : rmu m d r H = 2 * (m - S.length) + R.length := by
  unfold rmu
  rw [B.hd, B.hr]
  simp only [dk_length, iv_length]
theorem RB.push {H0 H : Hp} {d r : Addr} {m : Nat} {S R : List Nat} (B : RB H0 H d r m S R) {k : Nat} (hk : k < m) (hn : k ∉ S) (hm : m ≤ 60) :
    RB H0 (upd (upd H d (.dK (putK (dk S tt1) (kI k) (.bl true)))) r (.lst (iv R ++ [.int (k : Int)]))) d r m (S ++ [k]) (R ++ [k]) := by
  refine ⟨Same.upd_ (Same.upd_ B.s B.d0 _) B.r0 _, B.d0, B.r0, B.dr, ?_, by rw [upd_same, iv_append]; rfl, nodup_snoc B.nd hn, fun i hi => ?_, List.mem_append_left _ B.z, fun i hi => ?_, by have := B.len; simp; omega⟩
  · rw [upd_ne B.dr, upd_same]
    exact congrArg (fun z => some (HO.dK z)) (putK_dk_new (f := tt1) hn)
  · rcases List.mem_append.mp hi with h | h
    · exact B.lt i h
    · rw [List.mem_singleton.mp h]; exact hk
  · rcases List.mem_append.mp hi with h | h
    · exact List.mem_append_left _ (B.sub i h)
    · exact List.mem_append_right _ h
theorem RB.pop {H0 H : Hp} {d r : Addr} {m : Nat} {S R : List Nat} (B : RB H0 H d r m S R) : RB H0 (upd H r (.lst (iv R.dropLast))) d r m S R.dropLast :=
  ⟨Same.upd_ B.s B.r0 _, B.d0, B.r0, B.dr, by rw [upd_ne B.dr]; exact B.hd, upd_same, B.nd, B.lt, B.z, fun i hi => B.sub i ((List.dropLast_sublist R).subset hi), by have := B.len; rw [List.length_dropLast]; omega⟩
theorem RB.new {H0 H : Hp} {d r : Addr} {m : Nat} {S R : List Nat} (B : RB H0 H d r m S R) {p : Addr} (hp : H p = none) (o : HO) : RB H0 (upd H p o) d r m S R := by
  have e := Same.new hp o
  exact ⟨B.s.trans e, B.d0, B.r0, B.dr, e _ _ B.hd, e _ _ B.hr, B.nd, B.lt, B.z, B.sub, B.len⟩
def spReach : Sp := fun vs H Q _ => ∃ n F v hv, vs = [v, hv, .int 0] ∧ FamT H v F ∧ HomesL H hv n F ∧ Pre n F ∧ n ≤ 60 ∧ ∀ d kvs H', Same H H' → H' d = some (.dK kvs) → kvs.length = F.length → Q (.ref d) H'
def spBar : Sp := fun vs H Q _ => ∃ n F v, vs = [v] ∧ FamT H v F ∧ Pre n F ∧ n ≤ 60 ∧ ∀ H', Same H H' → Q .non H'
theorem iv_dropLast (l : List Nat) : (iv l).dropLast = iv l.dropLast := by
  unfold iv
  exact (List.map_dropLast ..).symm
section
variable {P : Program} {w : World} {K : PySem.W.Frag} {mg : Str → Option Value} {base : Heap}
theorem d_reached_from (A : At K mg "reached_from" sReachedFrom ["bags", "homes", "first"]) (T : Bi mg) : DefAt P w K mg base 1 "reached_from" ["bags", "homes", "first"] spReach := A.mk' fun f fd F => by
  refine F.ok scReachedFrom (fun vs H Q E h => ?_) (fun cdv A outer s H vs Q E hr h => ?_)
  · obtain ⟨n, FF, v, hv, rfl, _⟩ := h; rfl
  · obtain ⟨n, FF, v, hv, rfl, ⟨a, us, rfl, ha, hp⟩, hH, I, hn, q⟩ := h
    have hu : us.length = FF.length := plen hp
    have hlen := I.len
    have hpos := I.pos
    obtain ⟨ph, cs, rfl, hph, hcs, hrow⟩ := id hH
    refine ⟨_, (pss_cons (ps_par (i := 3) (j := 4) rfl scReachedFrom.nd rfl rfl (by decide) rfl rfl (pa_cons (pe_disp (pps_cons (pv 2) pe_bl pps_nil) (by rfl) (by rfl) (fun z => by cases z) (by decide)) (pa_cons (pe_lst (pa_cons (pv 2) pa_nil)) pa_nil)) rfl)
    (pss_cons (ps_while PassesOwn.never (pt_cmpR (oNeD K hr) (pv 4) (pe_lst pa_nil) (nomark _))
      (pss_one (ps_for PassesOwn.never rfl (piSeq K (pIx K (pv 0) (pe_bm0 PySem.F.plainAttrs_list PySem.F.slot_list_pop PySem.F.type_list_pop mt_pop (pv 4)))) (pg_name (i := 5) scReachedFrom.nd rfl (Or.inl rfl))
        (pss_one (ps_for PassesOwn.never rfl (piSeq K (pIx K (pv 1) (pv 5))) (pg_name (i := 6) scReachedFrom.nd rfl (Or.inl rfl))
          (pss_one (ps_if (pt_cmp (pc_dnotin (hu_of hr) (pv 6) (pv 3))) (pss_cons (ps_dput (hu_of hr) (pv 3) (pv 6) pe_bl rfl)
            (pss_one (ps_expr (pe_bm PySem.F.plainAttrs_list PySem.F.slot_list_append PySem.F.type_list_append mt_append (pv 4) (pa_cons (pv 6) pa_nil))))) pss_nil)))))))
    (pss_one (ps_ret (pv 3))))), ?_⟩
    refine fun d hd => ⟨_, rfl, upd_same, [(kI 0, .bl true)], rfl, by decide, _, rfl, by decide, fun r hr => ⟨_, _, rfl, ?_⟩⟩
    have e1 : upd (upd H d (.dK [])) d (.dK (mergeK [] [(kI 0, V.bl true)])) = upd H d (.dK (dk [0] tt1)) := by
      funext z
      by_cases e : z = d
      · rw [e, upd_same, upd_same]; rfl
      · rw [upd_ne e, upd_ne e, upd_ne e]
    have hr' : upd H d (.dK (dk [0] tt1)) r = none := by rw [← e1]; exact hr
    rw [e1]
    have ndr : d ≠ r := fun z => by rw [z, upd_same] at hr'; cases hr'
    have r0 : H r = none := by rw [upd_ne ndr.symm] at hr'; exact hr'
    have B0 : RB H (upd (upd H d (.dK (dk [0] tt1))) r (.lst (iv [0]))) d r FF.length [0] [0] :=
      ⟨Same.upd_ (Same.new hd _) r0 _, hd, r0, ndr, by rw [upd_ne ndr, upd_same], upd_same, by simp, fun i hi => by rw [List.mem_singleton.mp hi]; omega, by simp, fun i hi => hi, Nat.le_refl _⟩
    refine while_by (fun σ H' => ∃ S R a5 a6, σ = [some (.ref a), some (.ref ph), some (.int 0), some (.ref d), some (.ref r), a5, a6] ∧ RB H H' d r FF.length S R ∧ Cl FF S fun i => i ∈ R) (fun σ H' => rmu FF.length d r H') ⟨[0], [0], none, none, rfl, B0, fun i hi h => absurd hi h⟩ ?_ ?_
    · rintro σ H1 ⟨S, R, a5, a6, rfl, B, C⟩
      refine ⟨_, rfl, Nat.zero_le _, fun t nt => ?_⟩
      have B1 := B.new nt (.lst [])
      refine ⟨.list (R.map dI), .list [], .lst (SqL.of B1.hr) (dpAll_iv R), .lst (SqL.of upd_same) .nil, shaped_L (n := 0) (fun _ => by simp [dI, PyData.canLay0]) (fun _ => by simp [dI, PyData.depth]) (by decide) R, shaped_of (n := 1) (by simp [PyData.canLay0, PyData.canLayAll0]) (by simp [PyData.depth, PyData.depthAll]) (by decide), _, rfl, ?_⟩
      cases hR : R with
      | nil =>
        subst hR
        have all := I.closed (p := fun i => decide (i ∈ S)) (i0 := 0) hpos (decide_eq_true B.z) fun i j b hi hj h1 h2 h3 => decide_eq_true (C i (of_decide_eq_true h1) (by simp) j b hj h2 h3)
        have hl : S.length = FF.length := by
          have p := perm_of_nodup_len (List.range FF.length) S List.nodup_range (fun x hx => of_decide_eq_true (all x (List.mem_range.mp hx))) (by rw [List.length_range]; exact B.le)
          rw [← p.length_eq, List.length_range]
        exact ⟨_, rfl, q d _ _ B1.s B1.hd (by rw [dk_length, hl])⟩
      | cons x0 R0 =>
        subst hR
        have hne : x0 :: R0 ≠ [] := by simp
        generalize hRR : x0 :: R0 = R at *
        have hRl : 1 ≤ R.length := by rw [← hRR]; simp
        have eqf : (!PyData.eqv (.list (R.map dI)) (.list [])) = true := by rw [← hRR]; rfl
        rw [eqf]
        have hy : ∃ y, R[R.length - 1]? = some y := ⟨R[R.length - 1], List.getElem?_eq_getElem (by omega)⟩
        obtain ⟨y, hy⟩ := hy
        have hyR := List.mem_of_getElem? hy
        have hyS := B.sub y hyR
        have hym := B.lt y hyS
        obtain ⟨bag, hbag, c, hc0, hcb⟩ : ∃ bag, FF[y]? = some bag ∧ ∃ c, us[y]? = some (.ref c) ∧ H c = some (.tup (iv bag)) := by
          obtain ⟨x, hx, c, e2, e3⟩ := pget' hp (bagAt_lt hym)
          exact ⟨_, bagAt_lt hym, c, by rw [hx, e2], e3⟩
        have eb : bagAt FF y = bag := bagAt_some hbag
        have hB := I.bags bag (List.mem_of_getElem? hbag)
        have B2 := B1.pop
        obtain ⟨J, hw, sel⟩ := seq_sel2 (K := K) (.inr hcb)
        refine ⟨_, rfl, _, rfl, .inl ⟨rfl, _, SqL.of B1.hr⟩, r, _, .int (y : Nat), rfl, rfl, B1.hr, by rw [iv_length]; exact iv_get hy, a, _, _, .ref c, rfl, rfl, .inr (by rw [iv_dropLast]; exact SqT.of (B2.s _ _ ha)), atI_nat hc0, c, rfl, ?_⟩
        rw [iv_dropLast]
        have M0 := B.mu
        refine sel _ B2.s _ (for_it hw (fun j σ H' => ∃ S' R' a5 a6, σ = [some (.ref a), some (.ref ph), some (.int 0), some (.ref d), some (.ref r), a5, a6] ∧ RB H H' d r FF.length S' R' ∧ Cl FF S' (fun i => i ∈ R' ∨ i = y) ∧ (∀ b ∈ bag.take j, ∀ k, k < FF.length → b ∈ bagAt FF k → k ∈ S') ∧ y ∈ S' ∧ 2 * (FF.length - S'.length) + R'.length + 1 ≤ rmu FF.length d r H1)
          ⟨S, R.dropLast, a5, a6, rfl, B2, fun i hi h j b hj h1 h2 => C i hi (fun m => ?_) j b hj h1 h2, by simp, hyS, by rw [M0, List.length_dropLast]; omega⟩ (fun _ _ _ _ ⟨_, _, _, _, _, B', _⟩ => B'.s) ?_ ?_)
        · have e : R = R.dropLast ++ [y] := by
            have e2 := List.dropLast_concat_getLast (l := R) (by rw [← hRR]; simp)
            have e3 : R.getLast (by rw [← hRR]; simp) = y := by
              rw [List.getLast_eq_getElem]
              obtain ⟨_, e4⟩ := List.getElem?_eq_some_iff.mp hy
              exact e4
            rw [e3] at e2
            exact e2.symm
          rw [e] at m
          rcases List.mem_append.mp m with z | z
          · exact h (.inl z)
          · exact h (.inr (List.mem_singleton.mp z))
        · rintro j x σ H2 H3 hj ⟨S', R', b5, b6, rfl, B3, C3, D3, y3, M3⟩ ⟨rfl, hx⟩
          obtain ⟨b, hb, rfl⟩ := of_iv_get hx
          have hbn := hB.2.2 b (List.mem_of_getElem? hb)
          have hbc : b < cs.length := by omega
          have hcs' : cs[b]? = some cs[b] := List.getElem?_eq_getElem hbc
          have hrw := hrow b _ hcs'
          obtain ⟨J2, hw2, sel2⟩ := seq_sel2 (K := K) (.inl hrw)
          refine ⟨_, rfl, _, rfl, ph, _, _, .ref cs[b], rfl, rfl, .inl (SqL.of (B3.s _ _ hph)), atI_nat (j := b) (by rw [List.getElem?_map, hcs']; rfl), _, rfl, sel2 _ B3.s _ (for_it hw2
            (fun t σ H' => ∃ S' R' a6, σ = [some (.ref a), some (.ref ph), some (.int 0), some (.ref d), some (.ref r), some (.int (b : Nat)), a6] ∧ RB H H' d r FF.length S' R' ∧ Cl FF S' (fun i => i ∈ R' ∨ i = y) ∧ (∀ b ∈ bag.take j, ∀ k, k < FF.length → b ∈ bagAt FF k → k ∈ S') ∧ (∀ k ∈ (idxs FF b).take t, k ∈ S') ∧ y ∈ S' ∧ 2 * (FF.length - S'.length) + R'.length + 1 ≤ rmu FF.length d r H1)
            ⟨S', R', b6, rfl, B3, C3, D3, by simp, y3, M3⟩ (fun _ _ _ _ ⟨_, _, _, _, B', _⟩ => B'.s) ?_ ?_)⟩
          · rintro t x σ H4 H5 ht ⟨S2, R2, c6, rfl, B4, C4, D4, E4, y4, M4⟩ ⟨rfl, hx⟩
            obtain ⟨k, hk, rfl⟩ := of_iv_get hx
            have hkm := (mem_idxs.mp (List.mem_of_getElem? hk)).1
            have et : (idxs FF b).take (t + 1) = (idxs FF b).take t ++ [k] := by rw [List.take_add_one, hk]; rfl
            refine ⟨_, rfl, _, rfl, d, _, rfl, DGet.k (k := kI k) B4.hd, _, rfl, ?_⟩
            rw [valV_dk]
            by_cases m : k ∈ S2
            · rw [if_pos m]
              refine ⟨S2, R2, _, rfl, B4, C4, D4, fun z hz => ?_, y4, M4⟩
              rw [et] at hz
              rcases List.mem_append.mp hz with h | h
              · exact E4 z h
              · rw [List.mem_singleton.mp h]; exact m
            · rw [if_neg m]
              have B5 := B4.push hkm m (by omega)
              have le5 := B5.le
              have l4 := B4.len
              refine ⟨_, rfl, _, rfl, d, _, rfl, DPut.k (k := kI k) B4.hd (by rw [dk_length, sizeLine_eq]; have := B4.le; omega), ?_⟩
              refine ⟨_, rfl, .inl ⟨rfl, _, SqL.of (by rw [upd_ne B4.dr.symm]; exact B4.hr)⟩, _, rfl, r, _, _, rfl, rfl, (by rw [upd_ne B4.dr.symm]; exact B4.hr), by rw [iv_length, sizeLine_eq]; have := B4.le; omega, ?_⟩
              refine ⟨S2 ++ [k], R2 ++ [k], _, rfl, B5, fun i hi h j' b' hj' h1 h2 => ?_, fun b' hb' k' hk' h => List.mem_append_left _ (D4 b' hb' k' hk' h), fun z hz => ?_, List.mem_append_left _ y4, ?_⟩
              · refine List.mem_append_left _ (C4 i ?_ (fun z => h ?_) j' b' hj' h1 h2)
                · rcases List.mem_append.mp hi with z | z
                  · exact z
                  · exact absurd (.inl (List.mem_append_right _ z)) h
                · rcases z with z | z
                  · exact .inl (List.mem_append_left _ z)
                  · exact .inr z
              · rw [et] at hz
                rcases List.mem_append.mp hz with h | h
                · exact List.mem_append_left _ (E4 z h)
                · exact List.mem_append_right _ h
              · rw [List.length_append, List.length_singleton] at le5
                simp only [List.length_append, List.length_singleton]
                omega
          · rintro σ H4 ⟨S2, R2, c6, rfl, B4, C4, D4, E4, y4, M4⟩
            refine ⟨S2, R2, _, _, rfl, B4, C4, fun b' hb' k hk h => ?_, y4, M4⟩
            rw [List.take_add_one, hb] at hb'
            rcases List.mem_append.mp hb' with z | z
            · exact D4 b' z k hk h
            · have e : b' = b := List.mem_singleton.mp z
              rw [e] at h
              rw [iv_length, List.take_length] at E4
              exact E4 k (mem_idxs.mpr ⟨hk, h⟩)
        · rintro σ H2 ⟨S', R', b5, b6, rfl, B3, C3, D3, y3, M3⟩
          refine ⟨⟨S', R', _, _, rfl, B3, fun i hi h j b hj h1 h2 => ?_⟩, by have e := B3.mu; show rmu _ _ _ _ < rmu _ _ _ _; omega⟩
          by_cases e : i = y
          · subst e
            rw [iv_length, List.take_length] at D3
            rw [eb] at h1
            exact D3 b h1 j hj h2
          · exact C3 i hi (fun z => z.elim h e) j b hj h1 h2
    · intro σ H Q Q' imp h
      obtain ⟨x, e, h0, h⟩ := h
      exact ⟨x, e, h0, fun t nt => by
        obtain ⟨d1, d2, a1, a2, a3, a4, k, e2, h⟩ := h t nt
        exact ⟨d1, d2, a1, a2, a3, a4, k, e2, imp _ _ h⟩⟩
end
end Sb

/-! W5: bar_of, need_family. -/
namespace Sb
open PySem L2
abbrev sBarOf : Stmt := topS 16
theorem scBarOf : FnScope ["bags", "homes", "bead", "told", "at", "one", "spot", "bag"] ["bags"] (defScope sBarOf) := ⟨rfl, rfl, rfl, by decide +kernel, rfl, by decide +kernel, by decide +kernel⟩
abbrev sNeedFamily : Stmt := topS 18
theorem scNeedFamily : FnScope ["value"] ["value"] (defScope sNeedFamily) := ⟨rfl, rfl, rfl, by decide +kernel, rfl, by decide +kernel, by decide +kernel⟩
theorem shaped_iv (l : List Nat) : SeqAt.shaped (.list (l.map dI)) = true := shaped_L (n := 0) (fun _ => by simp [dI, PyData.canLay0]) (fun _ => by simp [dI, PyData.depth]) (by decide) l
theorem shaped_nil : SeqAt.shaped (.list []) = true := shaped_of (n := 1) (by simp [PyData.canLay0, PyData.canLayAll0]) (by simp [PyData.depth, PyData.depthAll]) (by decide)
theorem eqv_ne_nil {l : List Nat} (h : l ≠ []) : PyData.eqv (.list (l.map dI)) (.list []) = false := by
  cases l with
  | nil => exact absurd rfl h
  | cons a l => rfl
theorem sum_pred {F : Fam} (h : ∀ bag ∈ F, 1 ≤ bag.length) : (F.map fun bag => ((bag.length : Int) - 1)).sum + (F.length : Int) = (((F.map List.length).sum : Nat) : Int) := by
  induction F with
  | nil => rfl
  | cons b F ih =>
    have := ih fun bag hb => h bag (List.mem_cons_of_mem _ hb)
    simp only [List.map_cons, List.sum_cons, List.length_cons]
    omega
section
variable {P : Program} {w : World} {K : PySem.W.Frag} {mg : Str → Option Value} {base : Heap}
theorem d_bar_of (A : At K mg "bar_of" sBarOf ["bags"]) (T : Bi mg) (D_homes_of : DefAt P w K mg base 2 "homes_of" ["bags"] spHomes) (D_shared_by : DefAt P w K mg base 1 "shared_by" ["one", "other"] spShared) (D_reached_from : DefAt P w K mg base 1 "reached_from" ["bags", "homes", "first"] spReach) :
    DefAt P w K mg base 3 "bar_of" ["bags"] spBar := A.mk' fun f fd F => by
  refine F.ok scBarOf (fun vs H Q E h => ?_) (fun cdv A outer s H vs Q E hr h => ?_)
  · obtain ⟨n, FF, v, rfl, _⟩ := h; rfl
  · obtain ⟨n, FF, v, rfl, hF, I, hn, q⟩ := h
    refine ⟨_, (pss_cons (ps_set (i := 1) scBarOf.nd rfl (.inl rfl) (pCall D_homes_of (hr.mono (by decide)) (pa_cons (pv 0) pa_nil)))
    (pss_cons (ps_for PassesOwn.never rfl (pEnumL K rfl T.enumerate (pa_cons (pv 1) pa_nil)) (pgT K 2 rfl (pgs_cons (pg_name (i := 2) scBarOf.nd rfl (Or.inl rfl)) (pgs_cons (pg_name (i := 3) scBarOf.nd rfl (Or.inl rfl)) pgs_nil)))
      (pss_one (ps_if (pt_cmpR (oEqD K hr) (pv 3) (pe_lst pa_nil) (nomark _)) (pss_one ps_never) pss_nil)))
    (pss_cons (ps_for PassesOwn.never rfl (pEnumT K rfl T.enumerate (pa_cons (pv 0) pa_nil)) (pgT K 2 rfl (pgs_cons (pg_name (i := 4) scBarOf.nd rfl (Or.inl rfl)) (pgs_cons (pg_name (i := 5) scBarOf.nd rfl (Or.inl rfl)) pgs_nil)))
      (pss_one (ps_for PassesOwn.never rfl (pi_range1 rfl T.range (pa_cons (pv 4) pa_nil)) (pg_name (i := 6) scBarOf.nd rfl (Or.inl rfl))
        (pss_one (ps_if (pt_cmpR (op_gt) (pLen (cLen K) T.len (pCall D_shared_by (hr.mono (by decide)) (pa_cons (pIx K (pv 0) (pv 6)) (pa_cons (pv 5) pa_nil)))) pe_int (nomark _)) (pss_one ps_never) pss_nil)))))
    (pss_cons (ps_if (pt_cmpR (op_lt) (pLen call_lenD T.len (pCall D_reached_from (hr.mono (by decide)) (pa_cons (pv 0) (pa_cons (pv 1) (pa_cons pe_int pa_nil))))) (pLen (cLen K) T.len (pv 0)) (nomark _)) (pss_one ps_never) pss_nil)
    (pss_cons (ps_if (pt_cmpR (op_gt) (pSum (cSum K) T.sum (pLcX [("bag", 7)] scBarOf.nd (piSeq K (pv 0)) (N := ["bags", "homes", "bead", "told", "at", "one", "spot", "bag"]) (sc := (defScope sBarOf)) (by decide +kernel) (fun _ _ _ _ _ => (pgN 7 scBarOf.nd)) (fun _ _ _ _ _ => pts_nil) (fun _ _ _ _ _ => (pe_op op_sub (pLen (cLen K) T.len (pv 7)) pe_int)))) (pe_op op_sub (pLen (cLen K) T.len (pv 1)) pe_int) (nomark _)) (pss_one ps_never) pss_nil)
    (pss_one (ps_ret pe_non))))))), ?_⟩
    obtain ⟨a, us, rfl, ha, hp⟩ := id hF
    have hu : us.length = FF.length := plen hp
    have hlen := I.len
    have hpos := I.pos
    refine ⟨_, rfl, n, FF, _, rfl, hF, I, hn, fun z H0 s0 hH => ?_⟩
    obtain ⟨ph, cs, rfl, hph, hcs, hrow⟩ := id hH
    refine ⟨_, rfl, ph, _, rfl, SqL.of hph, for_it ((walk_enum (K := K) (a := ph) (xs := cs.map V.ref)).mono (G' := Same H0) (fun H' e => SqL.of (e _ _ hph)) (fun _ _ _ _ _ _ y => y))
      (fun i σ H' => ∃ a2 a3, σ = [some (.ref a), some (.ref ph), a2, a3, none, none, none, none] ∧ Same H0 H') ⟨_, _, rfl, Same.refl _⟩ (fun _ _ _ _ ⟨_, _, _, e⟩ => e) ?_ ?_⟩
    · rintro i x σ H2 H3 hi ⟨a2, a3, rfl, s2⟩ ⟨T', x1, x2, rfl, hT, rfl, hx1, hx2⟩
      cases hx1
      have hx2 : (cs.map V.ref)[i]? = some x2 := hx2
      rw [List.length_map] at hi
      rw [List.getElem?_map, List.getElem?_eq_getElem hi] at hx2
      cases hx2
      have hr1 := hrow i cs[i] (List.getElem?_eq_getElem hi)
      have nT := Same.new hT (.tup [.int (i : Nat), V.ref cs[i]])
      refine ⟨T', _, rfl, SqT.of upd_same, rfl, _, _, rfl, _, _, rfl, rfl, ?_⟩
      refine ⟨_, rfl, Nat.zero_le _, fun t nt => ?_⟩
      have nt2 := Same.new nt (.lst [])
      have s3 := (s2.trans nT).trans nt2
      have hne : idxs FF i ≠ [] := fun e => by
        obtain ⟨bag, hb, hm⟩ := I.cover i (by omega)
        obtain ⟨j, hj, rfl⟩ := mem_bagAt hb
        have := mem_idxs.mpr ⟨hj, hm⟩
        rw [e] at this
        cases this
      refine ⟨.list ((idxs FF i).map dI), .list [], .lst (SqL.of (s3 _ _ hr1)) (dpAll_iv _), .lst (SqL.of upd_same) .nil, shaped_iv _, shaped_nil, false, by rw [eqv_ne_nil hne], ?_⟩
      exact ⟨_, _, rfl, s3⟩
    rintro σ H1 ⟨a2, a3, rfl, s1⟩
    have hF1 : FamT H1 (.ref a) FF := (hF.mono s0).mono s1
    have ha1 := s1 _ _ (s0 _ _ ha)
    refine ⟨_, rfl, a, us, rfl, SqT.of ha1, for_it ((walk_enumT (K := K) (a := a) (xs := us)).mono (G' := Same H1) (fun H' e => SqT.of (e _ _ ha1)) (fun _ _ _ _ _ _ y => y))
      (fun i σ H' => ∃ a2 a3 a4 a5 a6, σ = [some (.ref a), some (.ref ph), a2, a3, a4, a5, a6, none] ∧ Same H1 H') ⟨_, _, _, _, _, rfl, Same.refl _⟩ (fun _ _ _ _ ⟨_, _, _, _, _, _, e⟩ => e) ?_ ?_⟩
    · rintro i x σ H2 H3 hi ⟨b2, b3, b4, b5, b6, rfl, s2⟩ ⟨T', x1, x2, rfl, hT, rfl, hx1, hx2⟩
      cases hx1
      obtain ⟨bag, hbag, htn⟩ := pget hp hx2
      have eb : bagAt FF i = bag := bagAt_some hbag
      have him : i < FF.length := by omega
      have nT := Same.new hT (.tup [.int (i : Nat), x2])
      have s3 := s2.trans nT
      refine ⟨T', _, rfl, SqT.of upd_same, rfl, _, _, rfl, _, _, rfl, rfl, ?_⟩
      refine ⟨_, rfl, i, rfl, by omega, by omega, for_it (walk_range (lo := 0) (n := i)) (fun j σ H' => ∃ a6, σ = [some (.ref a), some (.ref ph), b2, b3, some (.int (i : Nat)), some x2, a6, none] ∧ Same H1 H') ⟨_, rfl, s3⟩ (fun _ _ _ _ _ => trivial) ?_ ?_⟩
      · rintro j x σ H4 H5 hj ⟨c6, rfl, s4⟩ ⟨rfl, rfl⟩
        have hjm : j < FF.length := by omega
        obtain ⟨x3, hx3, htn3⟩ := pget' hp (bagAt_lt hjm)
        have hBi := I.bag him
        have hBj := I.bag hjm
        rw [eb] at hBi
        have sa := s1.trans s4
        refine ⟨_, rfl, _, rfl, a, us, _, x3, rfl, rfl, .inr (SqT.of (s4 _ _ ha1)), by rw [Int.zero_add]; exact atI_nat hx3, _, rfl, x3, x2, bagAt FF j, bag, rfl, (htn3.mono s0).mono sa, (htn.mono s0).mono sa, ?_, ?_, nodup_of_lt hBi.1, ?_⟩
        · have := I.blen (bagAt_mem hjm); omega
        · have := I.blen (List.mem_of_getElem? hbag); omega
        rintro z H6 s6 ⟨pz, rfl, hz⟩
        have hs := I.share hjm him (by omega)
        rw [eb] at hs
        refine ⟨pz, _, rfl, .inl (SqL.of hz), _, _, rfl, rfl, false, congrArg V.bl (decide_eq_false (by rw [iv_length]; omega)), ?_⟩
        exact ⟨_, rfl, s4.trans s6⟩
      · rintro σ H4 ⟨c6, rfl, s4⟩
        exact ⟨_, _, _, _, _, rfl, s4⟩
    · rintro σ H2 ⟨b2, b3, b4, b5, b6, rfl, s2⟩
      have hF2 := hF1.mono s2
      have hH2 := (hH.mono s1).mono s2
      refine ⟨_, rfl, _, rfl, n, FF, _, _, rfl, hF2, hH2, I, hn, fun d kvs H3 s3 hd hl => ?_⟩
      refine ⟨d, kvs, rfl, hd, _, rfl, a, us, rfl, .inr (SqT.of (s3 _ _ (s2 _ _ ha1))), _, _, rfl, rfl, false, congrArg V.bl (decide_eq_false (by omega)), ?_⟩
      have ha3 := s3 _ _ (s2 _ _ ha1)
      obtain ⟨J, hw, sel⟩ := seq_sel (K := K) (.inr ha3)
      refine ⟨_, rfl, a, rfl, sel _ fun D hD => lc_fm hw (RV0 fun i : Int => V.int i) (fun i => (FF[i]?).map fun bag => ((bag.length : Int) - 1)) hD (fun _ e => e) YAt.same (fun _ _ _ _ _ r => r) (fun _ _ _ _ _ _ r => r) (by omega) ?_ ?_⟩
      · rintro i x H4 H5 Q1 Q0 hi s4 ⟨rfl, hx⟩ k1 k0
        obtain ⟨bag, hbag, c, rfl, hc⟩ := pget hp hx
        refine ⟨rfl, _, rfl, c, _, rfl, .inr (SqT.of (s4 _ _ (s3 _ _ (s2 _ _ (s1 _ _ (s0 _ _ hc)))))), _, _, rfl, rfl, ?_⟩
        exact k1 _ _ _ (by rw [hbag]; rfl) (Same.refl _) (by rw [iv_length]; rfl)
      · intro H4 ys s4 hD4 hy
        have e := rV_map hy
        rw [hu, range_map_some (g := fun bag => ((bag.length : Int) - 1)) (fun i b hb => by rw [hb]; rfl)] at e
        subst e
        refine ⟨D, _, rfl, SqL.of hD4, _, rfl, ph, _, rfl, .inl (SqL.of (s4 _ _ (s3 _ _ (s2 _ _ (s1 _ _ hph))))), _, _, rfl, rfl, _, _, rfl, rfl, false, congrArg V.bl (decide_eq_false ?_), ?_⟩
        · have e1 := sum_pred (F := FF) fun bag hb => by have := (I.bags bag hb).2.1; omega
          have e2 := I.sum
          rw [List.length_map]
          omega
        · exact q _ ((s0.trans s1).trans ((s2.trans s3).trans s4))
theorem d_need_family (A : At K mg "need_family" sNeedFamily ["value"]) (D_need_bags : DefAt P w K mg base 4 "need_bags" ["value"] (spFam .non)) (D_bar_of : DefAt P w K mg base 3 "bar_of" ["bags"] spBar) :
    DefAt P w K mg base 5 "need_family" ["value"] (spFam .non) := A.mk' fun f fd F => by
  refine F.ok scNeedFamily (fun vs H Q E h => ?_) (fun cdv A outer s H vs Q E hr h => ?_)
  · obtain ⟨n, FF, v, rfl, _⟩ := h; rfl
  · obtain ⟨n, FF, v, rfl, hF, I, hn, q⟩ := h
    refine ⟨_, (pss_cons (ps_expr (pCall D_need_bags (hr.mono (by decide)) (pa_cons (pv 0) pa_nil)))
    (pss_one (ps_if (pt_cmpR (op_notN) (pCall D_bar_of (hr.mono (by decide)) (pa_cons (pv 0) pa_nil)) pe_non (nomark _)) (pss_one ps_never) pss_nil))), ?_⟩
    refine ⟨_, rfl, n, FF, v, rfl, hF, I, hn, fun H1 s1 => ?_⟩
    refine ⟨_, rfl, n, FF, v, rfl, hF.mono s1, I.toPre, hn, fun H2 s2 => ?_⟩
    exact ⟨rfl, false, rfl, q _ (s1.trans s2)⟩
end
end Sb

/-! W6: product_to, ways_to_swap. -/
namespace Sb
open PySem L2
abbrev sProductTo : Stmt := topS 20
theorem scProductTo : FnScope ["number", "found", "more"] ["number"] (defScope sProductTo) := ⟨rfl, rfl, rfl, by decide +kernel, rfl, by decide +kernel, by decide +kernel⟩
abbrev sWaysToSwap : Stmt := topS 24
theorem scWaysToSwap : FnScope ["texts", "found", "text", "one"] ["texts"] (defScope sWaysToSwap) := ⟨rfl, rfl, rfl, by decide +kernel, rfl, by decide +kernel, by decide +kernel⟩
def spProd : Sp := fun vs H Q _ => ∃ k : Nat, vs = [.int (k : Int)] ∧ k ≤ 60 ∧ Q (.int (fact k : Nat)) H
def spSwap : Sp := fun vs H Q _ => ∃ a ts, vs = [.ref a] ∧ H a = some (.lst (sv ts)) ∧ ts.length ≤ 60 ∧ ∀ H', Same H H' → Q (.int (swaps ts : Nat)) H'
theorem pow64 (k : Nat) : (64 : Nat) ^ k = 2 ^ (6 * k) := by rw [Nat.pow_mul]
theorem fact_lt {k : Nat} (h : k ≤ 62) : fact k < 2 ^ 400 := by
  have h1 := fact_le k 64 (by omega)
  rw [pow64] at h1
  exact Nat.lt_of_le_of_lt h1 (Nat.pow_lt_pow_right (by decide) (by omega))
theorem mulW {a b x y : Nat} (hx : x < 2 ^ a) (hy : y < 2 ^ b) (h0 : 0 < a) (h1 : 0 < b) (h : a + b ≤ 1000000) : CMulW ((x : Nat) : Int) ((y : Nat) : Int) :=
  wide_mul (a := a) (b := b) (by rw [Int.natAbs_natCast]; exact hx) (by rw [Int.natAbs_natCast]; exact hy) h0 h1 h
theorem count_map_one {ts : List (List Nat)} {t : List Nat} : (((List.range ts.length).filterMap fun i => (ts[i]?).bind fun x => if x = t then some (1 : Nat) else none)).length = ts.count t := by
  have e := range_filter_some (l := ts) (f := fun i => (ts[i]?).bind fun x => if x = t then some (1 : Nat) else none) (g := fun _ => 1) (p := fun x => decide (x = t)) fun i x hx => by rw [hx]; simp
  rw [e, List.length_map, List.count_eq_length_filter]
  congr 1
  exact List.filter_congr fun x _ => by by_cases h : x = t <;> simp [h]
section
variable {P : Program} {w : World} {K : PySem.W.Frag} {mg : Str → Option Value} {base : Heap}
theorem d_product_to (A : At K mg "product_to" sProductTo ["number"]) (T : Bi mg) : DefAt P w K mg base 1 "product_to" ["number"] spProd := A.mk' fun f fd F => by
  refine F.ok scProductTo (fun vs H Q E h => ?_) (fun cdv A outer s H vs Q E hr h => ?_)
  · obtain ⟨k, rfl, _⟩ := h; rfl
  · obtain ⟨k, rfl, hk, q⟩ := h
    refine ⟨_, (pss_cons (ps_set (i := 1) scProductTo.nd rfl (.inl rfl) pe_int)
    (pss_cons (ps_for PassesOwn.never rfl (pi_range2 rfl T.range (pa_cons pe_int (pa_cons (pe_op op_add (pv 0) pe_int) pa_nil))) (pg_name (i := 2) scProductTo.nd rfl (Or.inl rfl))
      (pss_one (ps_set (i := 1) scProductTo.nd rfl (.inl rfl) (pe_op op_mulW (pv 1) (pv 2)))))
    (pss_one (ps_ret (pv 1))))), ?_⟩
    refine ⟨_, rfl, _, _, rfl, rfl, 2, _, rfl, by omega, for_it (walk_range (lo := 2) (n := ((k : Int) + 1 - 2).toNat)) (fun i σ H' => H' = H ∧ ∃ a2 z, σ = [some (.int (k : Int)), some (.int z), a2] ∧ z = ((fact (i + 1) : Nat) : Int)) ⟨rfl, _, _, rfl, rfl⟩ (fun _ _ _ _ _ => trivial) ?_ ?_⟩
    · rintro i x σ H1 H2 hi ⟨rfl, a2, z, rfl, rfl⟩ ⟨rfl, rfl⟩
      have hi' : i + 1 < k := by omega
      have e2 : (2 : Int) + (i : Int) = ((i + 2 : Nat) : Int) := by omega
      refine ⟨_, rfl, _, rfl, _, _, rfl, rfl, ?_, rfl, _, _, rfl, ?_⟩
      · rw [e2]
        exact mulW (a := 400) (b := 7) (fact_lt (by omega)) (Nat.lt_of_le_of_lt (m := 64) (by omega) (by decide : 64 < 2 ^ 7)) (by decide) (by decide) (by decide)
      · show ((fact (i + 1) : Nat) : Int) * (2 + (i : Int)) = _
        rw [e2, ← Int.natCast_mul]
        rfl
    · rintro σ H1 ⟨rfl, a2, z, rfl, rfl⟩
      refine ⟨_, rfl, ?_⟩
      have e : fact (((k : Int) + 1 - 2).toNat + 1) = fact k := by
        cases k with
        | zero => rfl
        | succ k =>
          have e1 : (((k + 1 : Nat) : Int) + 1 - 2).toNat = k := by omega
          rw [e1]
      show Q (.int (fact (((k : Int) + 1 - 2).toNat + 1) : Nat)) _
      rw [e]
      exact q
theorem d_ways_to_swap (A : At K mg "ways_to_swap" sWaysToSwap ["texts"]) (T : Bi mg) (D_product_to : DefAt P w K mg base 1 "product_to" ["number"] spProd) : DefAt P w K mg base 2 "ways_to_swap" ["texts"] spSwap := A.mk' fun f fd F => by
  refine F.ok scWaysToSwap (fun vs H Q E h => ?_) (fun cdv A outer s H vs Q E hr h => ?_)
  · obtain ⟨a, ts, rfl, _⟩ := h; rfl
  · obtain ⟨a, ts, rfl, ha, hl, q⟩ := h
    refine ⟨_, (pss_cons (ps_set (i := 1) scWaysToSwap.nd rfl (.inl rfl) pe_int)
    (pss_cons (ps_for PassesOwn.never rfl (pi_keys (pe_frz (pDcX [("one", 3)] scWaysToSwap.nd (piSeq K (pv 0)) (N := ["texts", "found", "text", "one"]) (sc := (defScope sWaysToSwap)) (by decide +kernel) (fun _ _ _ _ _ => (pgN 3 scWaysToSwap.nd)) (fun _ _ _ _ _ => pts_nil) (fun _ _ _ _ _ => (pv 3)) (fun _ _ _ _ _ => pe_bl)))) (pg_name (i := 2) scWaysToSwap.nd rfl (Or.inr rfl))
      (pss_one (ps_set (i := 1) scWaysToSwap.nd rfl (.inl rfl) (pe_op op_mulW (pv 1) (pCall D_product_to (hr.mono (by decide)) (pa_cons (pLen (cLen K) T.len (pLcX [("one", 3)] scWaysToSwap.nd (piSeq K (pv 0)) (N := ["texts", "found", "text", "one"]) (sc := (defScope sWaysToSwap)) (by decide +kernel) (fun _ _ _ _ _ => (pgN 3 scWaysToSwap.nd)) (fun _ _ _ _ _ => pts_one (pt_cmpR (op_eq) (pv 3) (pv 2) (nomark _))) (fun _ _ _ _ _ => pe_int))) pa_nil))))))
    (pss_one (ps_ret (pv 1))))), ?_⟩
    obtain ⟨J, hw, sel⟩ := seq_sel (K := K) (.inl ha)
    refine ⟨_, rfl, a, rfl, sel _ fun D hD => dc_it hw (fun i H' => Same H H' ∧ H' D = some (.dK (dks (uniq (ts.take i)) fun _ => .bl true))) ⟨Same.new hD _, upd_same⟩ (fun _ _ _ p => p.1) ?_ ?_⟩
    · rintro i x H1 H2 hi ⟨s1, hd⟩ ⟨rfl, hx⟩
      obtain ⟨t, ht, rfl⟩ := of_sv_get hx
      have e : ts.take (i + 1) = ts.take i ++ [t] := by rw [List.take_add_one, ht]; rfl
      have hul : (uniq (ts.take i)).length ≤ 60 := by
        have h1 := sum_count_le (uniq (ts.take i)) (ts.take i) (nodup_uniq _)
        have h2 := List.length_take_le i ts
        have h3 : (uniq (ts.take i)).length ≤ ((uniq (ts.take i)).map fun u => (ts.take i).count u).sum := by
          have q1 := sum_ones (fun u => (ts.take i).count u) (uniq (ts.take i)) fun x hx => List.count_pos_iff.mpr (mem_uniq.mp hx)
          omega
        have h4 : (ts.take i).length ≤ ts.length := by rw [List.length_take]; omega
        omega
      refine ⟨rfl, _, rfl, _, kS t, rfl, hd, by rw [dks_length, sizeLine_eq]; omega, Same.upd_ s1 hD _, ?_⟩
      rw [upd_same, e, uniq_snoc]
      by_cases m : t ∈ uniq (ts.take i)
      · rw [if_pos m]
        exact congrArg (fun z => some (HO.dK z)) (putK_dks_old (f := fun _ => V.bl true) m rfl)
      · rw [if_neg m]
        exact congrArg (fun z => some (HO.dK z)) (putK_dks_new (f := fun _ => V.bl true) m)
    · rintro H1 ⟨s1, hd⟩
      rw [sv_length, List.take_length] at hd
      refine ⟨D, _, rfl, hd, trivial, fun od => ?_⟩
      have s2 : Same H (upd H1 D (.frz od (.dK (dks (uniq ts) fun _ => .bl true)))) := Same.upd_ s1 hD _
      refine ⟨D, od, rfl, .inl ⟨_, upd_same, for_it (walk_keys (d := D) (o := od) (kvs := dks (uniq ts) fun _ => .bl true))
        (fun i σ H' => ∃ a2 a3 z, σ = [some (.ref a), some (.int z), a2, a3] ∧ z = ((prodN (((uniq ts).take i).map fun t => fact (ts.count t)) : Nat) : Int) ∧ Same H H' ∧ H' D = some (.frz od (.dK (dks (uniq ts) fun _ => .bl true)))) ⟨_, _, _, rfl, rfl, s2, upd_same⟩ (fun _ _ _ _ ⟨_, _, _, _, _, _, e⟩ => e) ?_ ?_⟩⟩
      · rintro i x σ H2 H3 hi ⟨a2, a3, z, rfl, rfl, s3, hd3⟩ ⟨rfl, k, v, hk, rfl⟩
        obtain ⟨t, ht, rfl⟩ : ∃ t, (uniq ts)[i]? = some t ∧ k = kS t := by
          unfold dks at hk
          rw [List.getElem?_map] at hk
          cases e : (uniq ts)[i]? with
          | none => rw [e] at hk; cases hk
          | some t => rw [e] at hk; cases hk; exact ⟨t, rfl, rfl⟩
        obtain ⟨J2, hw2, sel2⟩ := seq_sel (K := K) (.inl (s3 _ _ ha))
        refine ⟨_, rfl, _, rfl, a, rfl, sel2 _ fun D2 hD2 => lc_fm hw2 (RV0 fun x : Nat => V.int (x : Int)) (fun i => (ts[i]?).bind fun x => if x = t then some (1 : Nat) else none) hD2 (fun _ e => e) YAt.same (fun _ _ _ _ _ r => r) (fun _ _ _ _ _ _ r => r) (by rw [sv_length]; omega) ?_ ?_⟩
        · rintro j x H4 H5 Q1 Q0 hj s4 ⟨rfl, hx⟩ k1 k0
          obtain ⟨u, hu, rfl⟩ := of_sv_get hx
          refine ⟨rfl, _, rfl, _, rfl, rfl, _, rfl, ?_⟩
          by_cases m : u = t
          · subst m
            rw [decide_eq_true (p := V.str (S u) = kV (kS u)) rfl]
            exact k1 _ _ 1 (by rw [hu]; exact if_pos rfl) (Same.refl _) rfl
          · rw [decide_eq_false (p := V.str (S u) = kV (kS t)) (fun z => m (S_inj.mp (V.str.inj z)))]
            exact k0 (by rw [hu]; exact if_neg m) _ (Same.refl _)
        · intro H4 ys s4 hD4 hy
          have e := rV_map hy
          have el : ys.length = ts.count t := by
            rw [e, List.length_map, sv_length]
            exact count_map_one
          have hc : ts.count t ≤ 60 := Nat.le_trans List.count_le_length hl
          refine ⟨D2, _, rfl, .inl (SqL.of hD4), ts.count t, by rw [el]; rfl, hc, _, _, rfl, rfl, ?_, ?_⟩
          · refine mulW (a := 400) (b := 400) ?_ (fact_lt (by omega)) (by decide) (by decide) (by decide)
            have h1 := prodN_le 64 (fun t => fact (ts.count t)) (fun t => ts.count t) ((uniq ts).take i) fun x _ => fact_le _ 64 (by have := List.count_le_length (a := x) (l := ts); omega)
            have h2 := sum_count_le ((uniq ts).take i) ts ((nodup_uniq ts).sublist (List.take_sublist _ _))
            rw [pow64] at h1
            exact Nat.lt_of_le_of_lt h1 (Nat.pow_lt_pow_right (by decide) (by omega))
          · refine ⟨_, _, _, rfl, ?_, s3.trans s4, s4 _ _ hd3⟩
            rw [List.take_add_one, ht]
            show ((prodN (((uniq ts).take i).map fun t => fact (ts.count t)) : Nat) : Int) * ((fact (ts.count t) : Nat) : Int) = _
            rw [← Int.natCast_mul, Option.toList_some, List.map_append, List.map_singleton, prodN_snoc]
      · rintro σ H2 ⟨a2, a3, z, rfl, rfl, s3, hd3⟩
        refine ⟨_, rfl, ?_⟩
        rw [dks_length, List.take_length]
        exact q _ s3
end
end Sb

/-! W7: text_under and bag_text, by levels. -/
namespace Sb
open PySem L2
abbrev sTextUnder : Stmt := topS 22
theorem scTextUnder : FnScope ["family", "homes", "bead", "above", "found", "ways", "index", "told", "many"] ["family", "homes", "bead", "above"] (defScope sTextUnder) := ⟨rfl, rfl, rfl, by decide +kernel, rfl, by decide +kernel, by decide +kernel⟩
abbrev sBagText : Stmt := topS 23
theorem scBagText : FnScope ["family", "homes", "index", "above", "found", "ways", "bead", "told", "many"] ["family", "homes", "index", "above"] (defScope sBagText) := ⟨rfl, rfl, rfl, by decide +kernel, rfl, by decide +kernel, by decide +kernel⟩
def TxAt (H : Hp) (z : V) (r : List Nat × Nat) : Prop := ∃ t, z = .ref t ∧ H t = some (.tup [.str (S r.1), .int (r.2 : Nat)])
def aboveV : Option Nat → V
  | none => .non
  | some w => .int (w : Int)
def spTx (d : Nat) (k : Bool) : Sp := fun vs H Q _ => ∃ n F fv hv, ∃ (v : Nat) (u : Option Nat), vs = [fv, hv, .int (v : Int), aboveV u] ∧ FamT H fv F ∧ HomesL H hv n F ∧ Pre n F ∧ n ≤ 60 ∧ v < cOf n F.length k ∧
  hgt (nbOf F) d k v u ∧ (vl (nbOf F) d k v u).length ≤ 64 ∧ ∀ z H', Same H H' → TxAt H' z (tx (nbOf F) d k v u) → Q z H'
theorem sum_le_mul {α : Type} {B : Nat} {f : α → Nat} : ∀ {l : List α}, (∀ x ∈ l, f x ≤ B) → (l.map f).sum ≤ B * l.length
  | [], _ => by simp
  | a :: l, h => by
    have h1 := h a (List.mem_cons_self ..)
    have h2 := sum_le_mul (f := f) (l := l) fun x hx => h x (List.mem_cons_of_mem _ hx)
    rw [List.map_cons, List.sum_cons, List.length_cons, Nat.mul_succ]
    omega
theorem prod_le {α : Type} {B : Nat} {f : α → Nat} : ∀ {l : List α}, (∀ x ∈ l, f x ≤ B) → prodN (l.map f) ≤ B ^ l.length
  | [], _ => by simp [prodN_nil]
  | a :: l, h => by
    have h1 := h a (List.mem_cons_self ..)
    have h2 := prod_le (f := f) (l := l) fun x hx => h x (List.mem_cons_of_mem _ hx)
    rw [List.map_cons, prodN_cons, List.length_cons, Nat.pow_succ, Nat.mul_comm]
    exact Nat.mul_le_mul h2 h1
/-- what is known of the parts of a text -/
structure Parts (r : List (List Nat × Nat)) : Prop where
  len : r.length ≤ 60
  txt : ∀ x ∈ r, x.1.length ≤ 128
  way : ∀ x ∈ r, x.2 ≤ 2 ^ 384
theorem Parts.prod {r : List (List Nat × Nat)} (h : Parts r) : prodN (r.map (·.2)) < 2 ^ 24000 := by
  have h1 := prod_le (f := fun x : List Nat × Nat => x.2) h.way
  rw [← Nat.pow_mul] at h1
  exact Nat.lt_of_le_of_lt h1 (Nat.pow_lt_pow_right (by decide) (by have := h.len; omega))
theorem Parts.swaps {r : List (List Nat × Nat)} (h : Parts r) : swaps (r.map (·.1)) < 2 ^ 400 := by
  have h1 := swaps_le (N := 64) (ts := r.map (·.1)) (by rw [List.length_map]; have := h.len; omega) (by decide)
  rw [pow64, List.length_map] at h1
  exact Nat.lt_of_le_of_lt h1 (Nat.pow_lt_pow_right (by decide) (by have := h.len; omega))
theorem Parts.sum {r : List (List Nat × Nat)} (h : Parts r) : (sortL (r.map (·.1))).flatten.length ≤ 7680 := by
  rw [List.length_flatten]
  have h1 := sum_le_mul (f := List.length) (B := 128) (l := sortL (r.map (·.1))) fun x hx => by
    obtain ⟨y, hy, rfl⟩ := List.mem_map.mp ((sortL_perm _).mem_iff.mp hx)
    exact h.txt y hy
  rw [sortL_length, List.length_map] at h1
  have := h.len
  omega
theorem nb_len {n : Nat} {F : Fam} (I : Pre n F) (hn : n ≤ 60) {k : Bool} {v : Nat} (hv : v < cOf n F.length k) : (nbOf F k v).length ≤ 60 := by
  have h1 := I.tree.nd k v hv
  have h2 := I.tree.inb k v
  have h3 := nodup_len h1 fun x hx => h2 x hv hx
  have h4 := I.len
  have h5 : cOf n F.length (!k) ≤ 60 := by cases k <;> simp [cOf] <;> omega
  omega
theorem parts_of {n : Nat} {F : Fam} {k nk : Bool} (ek : (!k) = nk) (I : Pre n F) (hn : n ≤ 60) {d : Nat} {v : Nat} {u : Option Nat} (hv : v < cOf n F.length k) (hg : hgt (nbOf F) (d + 1) k v u) (hl : (vl (nbOf F) (d + 1) k v u).length ≤ 64) (j : Nat) :
    Parts ((((nbOf F k v).take j).filter fun w => decide (u ≠ some w)).map fun w => tx (nbOf F) d nk w (some v)) := by
  subst ek
  have hc : ∀ w, w ∈ ((nbOf F k v).take j).filter (fun w => decide (u ≠ some w)) → w ∈ ch (nbOf F) k v u := fun w hw => by
    obtain ⟨h1, h2⟩ := List.mem_filter.mp hw
    exact List.mem_filter.mpr ⟨List.mem_of_mem_take h1, h2⟩
  have hvl : ∀ w, w ∈ ch (nbOf F) k v u → (vl (nbOf F) d (!k) w (some v)).length ≤ 64 := fun w hw => by
    have h1 : (vl (nbOf F) (d + 1) k v u).length = 1 + ((ch (nbOf F) k v u).map fun w => (vl (nbOf F) d (!k) w (some v)).length).sum := by
      show ((k, v) :: (ch (nbOf F) k v u).flatMap fun w => vl (nbOf F) d (!k) w (some v)).length = _
      rw [List.length_cons, List.length_flatMap, Nat.add_comm]
    have h2 := mem_le_sum (l := (ch (nbOf F) k v u).map fun w => (vl (nbOf F) d (!k) w (some v)).length) (List.mem_map.mpr ⟨w, hw, rfl⟩)
    omega
  refine ⟨?_, fun x hx => ?_, fun x hx => ?_⟩
  · rw [List.length_map]
    have h1 := List.length_filter_le (fun w => decide (u ≠ some w)) ((nbOf F k v).take j)
    have h2 : ((nbOf F k v).take j).length ≤ (nbOf F k v).length := by rw [List.length_take]; omega
    have h3 := nb_len I hn hv
    omega
  · obtain ⟨w, hw, rfl⟩ := List.mem_map.mp hx
    have := hvl w (hc w hw)
    rw [tx_len]
    omega
  · obtain ⟨w, hw, rfl⟩ := List.mem_map.mp hx
    have h1 := tx_ways (N := 64) (by decide) d (!k) w (some v) (hg w (hc w hw)) (hvl w (hc w hw))
    rw [pow64] at h1
    exact Nat.le_trans h1 (Nat.pow_le_pow_right (by decide) (by have := hvl w (hc w hw); omega))
theorem vl_child {F : Fam} {d : Nat} {k : Bool} {v w : Nat} {u : Option Nat} (hw : w ∈ ch (nbOf F) k v u) : (vl (nbOf F) d (!k) w (some v)).length ≤ (vl (nbOf F) (d + 1) k v u).length := by
  have h1 : (vl (nbOf F) (d + 1) k v u).length = 1 + ((ch (nbOf F) k v u).map fun w => (vl (nbOf F) d (!k) w (some v)).length).sum := by
    show ((k, v) :: (ch (nbOf F) k v u).flatMap fun w => vl (nbOf F) d (!k) w (some v)).length = _
    rw [List.length_cons, List.length_flatMap, Nat.add_comm]
  have h2 := mem_le_sum (l := (ch (nbOf F) k v u).map fun w => (vl (nbOf F) d (!k) w (some v)).length) (List.mem_map.mpr ⟨w, hw, rfl⟩)
  omega
section
variable {P : Program} {w : World} {K : PySem.W.Frag} {mg : Str → Option Value} {base : Heap}
theorem d_text_under_s (d : Nat) (A : At K mg "text_under" sTextUnder ["family", "homes", "bead", "above"]) (T : Bi mg) (D_ways_to_swap : DefAt P w K mg base 2 "ways_to_swap" ["texts"] spSwap) (D_bag_text : DefAt P w K mg base (d + 3) "bag_text" ["family", "homes", "index", "above"] (spTx d false)) :
    DefAt P w K mg base (d + 4) "text_under" ["family", "homes", "bead", "above"] (spTx (d + 1) true) := A.mk' fun f fd F => by
  refine F.ok scTextUnder (fun vs H Q E h => ?_) (fun cdv A outer s H vs Q E hr h => ?_)
  · obtain ⟨n, FF, fv, hv, v, u, rfl, _⟩ := h; rfl
  · obtain ⟨n, FF, fv, hv, v, u, rfl, hF, hH, I, hn, hvn, hg, hvl, q⟩ := h
    refine ⟨_, (pss_cons (ps_par (i := 4) (j := 5) rfl scTextUnder.nd rfl rfl (by decide) rfl rfl (pa_cons (pe_lst pa_nil) (pa_cons pe_int pa_nil)) rfl)
    (pss_cons (ps_for PassesOwn.never rfl (piSeq K (pIx K (pv 1) (pv 2))) (pg_name (i := 6) scTextUnder.nd rfl (Or.inl rfl))
      (pss_one (ps_if (pt_cmpR (op_ne) (pv 6) (pv 3) (nomark _)) (pss_cons (ps_asg (pCall D_bag_text (hr) (pa_cons (pv 0) (pa_cons (pv 1) (pa_cons (pv 6) (pa_cons (pv 2) pa_nil))))) (pgT K 2 rfl (pgs_cons (pg_name (i := 7) scTextUnder.nd rfl (Or.inl rfl)) (pgs_cons (pg_name (i := 8) scTextUnder.nd rfl (Or.inl rfl)) pgs_nil))))
        (pss_cons (ps_expr (pe_bm PySem.F.plainAttrs_list PySem.F.slot_list_append PySem.F.type_list_append mt_append (pv 4) (pa_cons (pv 7) pa_nil)))
        (pss_one (ps_set (i := 5) scTextUnder.nd rfl (.inl rfl) (pe_op op_mulW (pv 5) (pv 8)))))) pss_nil)))
    (pss_one (ps_ret (pe_tup (pa_cons (pe_op op_add_str (pe_op op_add_str pe_str (pe_join pe_str (pSorted (cSortS K hr) T.sorted (pv 4)))) pe_str) (pa_cons (pe_op op_mulW (pv 5) (pCall D_ways_to_swap (hr.mono (by omega)) (pa_cons (pv 4) pa_nil))) pa_nil))))))), ?_⟩
    refine ⟨Nat.zero_le _, fun L hL => ⟨_, _, rfl, ?_⟩⟩
    have nL := Same.new hL (.lst [])
    obtain ⟨p, xs, c, rfl, hsq, hxc, hcl⟩ : ∃ p xs c, hv = V.ref p ∧ (SqL K (upd H L (.lst [])) p xs ∨ SqT K (upd H L (.lst [])) p xs) ∧ xs[v]? = some (V.ref c) ∧ (H c = some (.lst (iv (nbOf FF true v))) ∨ H c = some (.tup (iv (nbOf FF true v)))) := by
      obtain ⟨p, xs, c, e1, e2, e3, e4, e5⟩ := hH.get hvn
      exact ⟨p, xs, c, e1, .inl (SqL.of (nL _ _ e2)), e3, .inl e5⟩
    obtain ⟨J, hw, sel⟩ := seq_sel2 (K := K) (H0 := H) hcl
    refine ⟨_, rfl, _, rfl, p, xs, _, .ref c, rfl, rfl, hsq, atI_nat hxc, c, rfl, sel _ nL _ (for_it hw
      (fun j σ H' => ∃ a6 a7 a8 z, σ = [some fv, some (.ref p), some (.int (v : Int)), some (aboveV u), some (.ref L), some (.int z), a6, a7, a8] ∧ Same H H' ∧ H' L = some (.lst (sv (((((nbOf FF true v).take j).filter fun w => decide (u ≠ some w)).map fun w => tx (nbOf FF) d false w (some v)).map (·.1)))) ∧ z = ((prodN (((((nbOf FF true v).take j).filter fun w => decide (u ≠ some w)).map fun w => tx (nbOf FF) d false w (some v)).map (·.2)) : Nat) : Int))
      ⟨_, _, _, _, rfl, nL, upd_same, rfl⟩ (fun _ _ _ _ ⟨_, _, _, _, _, e, _⟩ => e) ?_ ?_)⟩
    · rintro j x σ H1 H2 hj ⟨a6, a7, a8, z, rfl, s1, hL1, rfl⟩ ⟨rfl, hx⟩
      obtain ⟨y, hy, rfl⟩ := of_iv_get hx
      have et : (nbOf FF true v).take (j + 1) = (nbOf FF true v).take j ++ [y] := by rw [List.take_add_one, hy]; rfl
      have P0 := parts_of (k := true) (nk := false) rfl I hn hvn hg hvl j
      have P1 := parts_of (k := true) (nk := false) rfl I hn hvn hg hvl (j + 1)
      rw [et, List.filter_append] at P1
      rw [et, List.filter_append]
      refine ⟨_, rfl, _, rfl, by cases u <;> rfl, _, rfl, ?_⟩
      by_cases e : u = some y
      · subst e
        have e1 : (!decide (V.int (y : Int) = aboveV (some y))) = false := by rw [decide_eq_true (p := V.int (y : Int) = aboveV (some y)) rfl]; rfl
        rw [e1]
        have e2 : [y].filter (fun w => decide (some y ≠ some w)) = [] := by simp
        rw [e2, List.append_nil]
        exact ⟨_, _, _, _, rfl, s1, hL1, rfl⟩
      · have e1 : (!decide (V.int (y : Int) = aboveV u)) = true := by
          rw [decide_eq_false]
          · rfl
          · intro z
            cases u with
            | none => cases z
            | some w =>
              have : (y : Int) = w := V.int.inj z
              exact e (by rw [Int.ofNat_inj.mp this])
        rw [e1]
        have e2 : [y].filter (fun w => decide (u ≠ some w)) = [y] := by simp [e]
        rw [e2, List.map_append, List.map_append, List.map_append, prodN_append]
        rw [e2, List.map_append] at P1
        have hyc : y ∈ ch (nbOf FF) true v u := mem_ch.mpr ⟨List.mem_of_getElem? hy, e⟩
        have hyn := I.tree.inb true v y hvn (List.mem_of_getElem? hy)
        refine ⟨_, rfl, _, rfl, _, rfl, _, rfl, n, FF, _, _, y, some v, rfl, hF.mono s1, hH.mono s1, I, hn, hyn, hg y hyc, Nat.le_trans (vl_child hyc) hvl, ?_⟩
        rintro z H3 s3 ⟨t, rfl, ht⟩
        have hL3 := s3 _ _ hL1
        refine ⟨t, _, rfl, SqT.of ht, rfl, _, _, rfl, _, _, rfl, rfl, ?_⟩
        refine ⟨_, rfl, .inl ⟨rfl, _, SqL.of hL3⟩, _, rfl, L, _, _, rfl, rfl, hL3, by rw [sv_length, List.length_map, sizeLine_eq]; have := P0.len; omega, ?_⟩
        refine ⟨_, rfl, _, rfl, _, _, rfl, rfl, mulW (a := 24000) (b := 400) P0.prod ?_ (by decide) (by decide) (by decide), ?_⟩
        · exact Nat.lt_of_le_of_lt (P1.way _ (List.mem_append_right _ (List.mem_singleton_self _))) (Nat.pow_lt_pow_right (by decide) (by decide))
        · refine ⟨_, _, _, _, rfl, Same.upd_ (s1.trans s3) hL _, ?_, ?_⟩
          · rw [upd_same]
            unfold sv
            rw [List.map_append]
            rfl
          · show ((_ : Nat) : Int) * ((_ : Nat) : Int) = _
            rw [← Int.natCast_mul]
            simp [prodN_cons, prodN_nil]
    · rintro σ H1 ⟨a6, a7, a8, z, rfl, s1, hL1, rfl⟩
      have P0 := parts_of (k := true) (nk := false) rfl I hn hvn hg hvl (iv (nbOf FF true v)).length
      rw [iv_length, List.take_length] at P0 hL1 ⊢
      have er : ((nbOf FF true v).filter fun w => decide (u ≠ some w)) = ch (nbOf FF) true v u := rfl
      rw [er] at P0 hL1 ⊢
      have hq : tx (nbOf FF) (d + 1) true v u = txOf true ((ch (nbOf FF) true v u).map fun w => tx (nbOf FF) d false w (some v)) := rfl
      rw [hq] at q
      generalize ((ch (nbOf FF) true v u).map fun w => tx (nbOf FF) d false w (some v)) = r at P0 hL1 q ⊢
      have hlen := P0.len
      refine ⟨⟨_, rfl⟩, _, rfl, L, _, rfl, SqL.of hL1, by rw [List.length_map]; omega, fun p2 np2 => ?_⟩
      have hsum := P0.sum
      refine ⟨_, p2, (sortL (r.map (·.1))).map S, rfl, rfl, .inl (SqL.of (by rw [upd_same, sv_eq])), ?_, ?_⟩
      · rw [List.map_map]
        have e1 : ((sortL (r.map (·.1))).map (Str.length ∘ S)).sum = (sortL (r.map (·.1))).flatten.length := by
          rw [List.length_flatten]
          rfl
        rw [e1, List.length_map, sortL_length, List.length_map]
        have e2 : Str.length (Str.ofString "") = 0 := by decide +kernel
        rw [e2]
        omega
      have ea : (Str.ofString "" : Str) = S [] := by decide +kernel
      have eb : (Str.ofString "(" : Str) = S [40] := by decide +kernel
      have ec : (Str.ofString ")" : Str) = S [41] := by decide +kernel
      rw [ea, S_join]
      refine ⟨_, _, rfl, rfl, ?_, ?_⟩
      · rw [eb, S_len, S_len, sizeLine_eq]; simp only [List.length_append, List.length_cons, List.length_nil]; omega
      refine ⟨_, _, rfl, rfl, ?_, ?_⟩
      · rw [eb, ec, S_app, S_len, S_len, sizeLine_eq]; simp only [List.length_append, List.length_cons, List.length_nil]; omega
      rw [eb, ec, S_app, S_app]
      have s2 := Same.new np2 (.lst (sv (sortL (r.map (·.1)))))
      refine ⟨_, rfl, _, rfl, L, _, rfl, s2 _ _ hL1, by rw [List.length_map]; omega, fun H2 s3 => ?_⟩
      refine ⟨_, _, rfl, rfl, mulW (a := 24000) (b := 400) P0.prod P0.swaps (by decide) (by decide) (by decide), (by show 2 ≤ sizeLine; decide), fun t nt => ?_⟩
      refine q _ _ ((s1.trans s2).trans (s3.trans (Same.new nt _))) ⟨t, rfl, ?_⟩
      rw [upd_same]
      show some (HO.tup [V.str (S _), V.int (((_ : Nat) : Int) * ((_ : Nat) : Int))]) = _
      rw [← Int.natCast_mul]
      rfl
theorem d_bag_text_s (d : Nat) (A : At K mg "bag_text" sBagText ["family", "homes", "index", "above"]) (T : Bi mg) (D_ways_to_swap : DefAt P w K mg base 2 "ways_to_swap" ["texts"] spSwap) (D_text_under : DefAt P w K mg base (d + 3) "text_under" ["family", "homes", "bead", "above"] (spTx d true)) :
    DefAt P w K mg base (d + 4) "bag_text" ["family", "homes", "index", "above"] (spTx (d + 1) false) := A.mk' fun f fd F => by
  refine F.ok scBagText (fun vs H Q E h => ?_) (fun cdv A outer s H vs Q E hr h => ?_)
  · obtain ⟨n, FF, fv, hv, v, u, rfl, _⟩ := h; rfl
  · obtain ⟨n, FF, fv, hv, v, u, rfl, hF, hH, I, hn, hvn, hg, hvl, q⟩ := h
    refine ⟨_, (pss_cons (ps_par (i := 4) (j := 5) rfl scBagText.nd rfl rfl (by decide) rfl rfl (pa_cons (pe_lst pa_nil) (pa_cons pe_int pa_nil)) rfl)
    (pss_cons (ps_for PassesOwn.never rfl (piSeq K (pIx K (pv 0) (pv 2))) (pg_name (i := 6) scBagText.nd rfl (Or.inl rfl))
      (pss_one (ps_if (pt_cmpR (op_ne) (pv 6) (pv 3) (nomark _)) (pss_cons (ps_asg (pCall D_text_under (hr) (pa_cons (pv 0) (pa_cons (pv 1) (pa_cons (pv 6) (pa_cons (pv 2) pa_nil))))) (pgT K 2 rfl (pgs_cons (pg_name (i := 7) scBagText.nd rfl (Or.inl rfl)) (pgs_cons (pg_name (i := 8) scBagText.nd rfl (Or.inl rfl)) pgs_nil))))
        (pss_cons (ps_expr (pe_bm PySem.F.plainAttrs_list PySem.F.slot_list_append PySem.F.type_list_append mt_append (pv 4) (pa_cons (pv 7) pa_nil)))
        (pss_one (ps_set (i := 5) scBagText.nd rfl (.inl rfl) (pe_op op_mulW (pv 5) (pv 8)))))) pss_nil)))
    (pss_one (ps_ret (pe_tup (pa_cons (pe_op op_add_str (pe_op op_add_str pe_str (pe_join pe_str (pSorted (cSortS K hr) T.sorted (pv 4)))) pe_str) (pa_cons (pe_op op_mulW (pv 5) (pCall D_ways_to_swap (hr.mono (by omega)) (pa_cons (pv 4) pa_nil))) pa_nil))))))), ?_⟩
    refine ⟨Nat.zero_le _, fun L hL => ⟨_, _, rfl, ?_⟩⟩
    have nL := Same.new hL (.lst [])
    obtain ⟨p, xs, c, rfl, hsq, hxc, hcl⟩ : ∃ p xs c, fv = V.ref p ∧ (SqL K (upd H L (.lst [])) p xs ∨ SqT K (upd H L (.lst [])) p xs) ∧ xs[v]? = some (V.ref c) ∧ (H c = some (.lst (iv (nbOf FF false v))) ∨ H c = some (.tup (iv (nbOf FF false v)))) := by
      obtain ⟨a, us, e1, e2, e3⟩ := id hF
      obtain ⟨x, hx, c, rfl, hc⟩ := pget' e3 (bagAt_lt hvn)
      exact ⟨a, us, c, e1, .inr (SqT.of (nL _ _ e2)), hx, .inr hc⟩
    obtain ⟨J, hw, sel⟩ := seq_sel2 (K := K) (H0 := H) hcl
    refine ⟨_, rfl, _, rfl, p, xs, _, .ref c, rfl, rfl, hsq, atI_nat hxc, c, rfl, sel _ nL _ (for_it hw
      (fun j σ H' => ∃ a6 a7 a8 z, σ = [some (.ref p), some hv, some (.int (v : Int)), some (aboveV u), some (.ref L), some (.int z), a6, a7, a8] ∧ Same H H' ∧ H' L = some (.lst (sv (((((nbOf FF false v).take j).filter fun w => decide (u ≠ some w)).map fun w => tx (nbOf FF) d true w (some v)).map (·.1)))) ∧ z = ((prodN (((((nbOf FF false v).take j).filter fun w => decide (u ≠ some w)).map fun w => tx (nbOf FF) d true w (some v)).map (·.2)) : Nat) : Int))
      ⟨_, _, _, _, rfl, nL, upd_same, rfl⟩ (fun _ _ _ _ ⟨_, _, _, _, _, e, _⟩ => e) ?_ ?_)⟩
    · rintro j x σ H1 H2 hj ⟨a6, a7, a8, z, rfl, s1, hL1, rfl⟩ ⟨rfl, hx⟩
      obtain ⟨y, hy, rfl⟩ := of_iv_get hx
      have et : (nbOf FF false v).take (j + 1) = (nbOf FF false v).take j ++ [y] := by rw [List.take_add_one, hy]; rfl
      have P0 := parts_of (k := false) (nk := true) rfl I hn hvn hg hvl j
      have P1 := parts_of (k := false) (nk := true) rfl I hn hvn hg hvl (j + 1)
      rw [et, List.filter_append] at P1
      rw [et, List.filter_append]
      refine ⟨_, rfl, _, rfl, by cases u <;> rfl, _, rfl, ?_⟩
      by_cases e : u = some y
      · subst e
        have e1 : (!decide (V.int (y : Int) = aboveV (some y))) = false := by rw [decide_eq_true (p := V.int (y : Int) = aboveV (some y)) rfl]; rfl
        rw [e1]
        have e2 : [y].filter (fun w => decide (some y ≠ some w)) = [] := by simp
        rw [e2, List.append_nil]
        exact ⟨_, _, _, _, rfl, s1, hL1, rfl⟩
      · have e1 : (!decide (V.int (y : Int) = aboveV u)) = true := by
          rw [decide_eq_false]
          · rfl
          · intro z
            cases u with
            | none => cases z
            | some w =>
              have : (y : Int) = w := V.int.inj z
              exact e (by rw [Int.ofNat_inj.mp this])
        rw [e1]
        have e2 : [y].filter (fun w => decide (u ≠ some w)) = [y] := by simp [e]
        rw [e2, List.map_append, List.map_append, List.map_append, prodN_append]
        rw [e2, List.map_append] at P1
        have hyc : y ∈ ch (nbOf FF) false v u := mem_ch.mpr ⟨List.mem_of_getElem? hy, e⟩
        have hyn := I.tree.inb false v y hvn (List.mem_of_getElem? hy)
        refine ⟨_, rfl, _, rfl, _, rfl, _, rfl, n, FF, _, _, y, some v, rfl, hF.mono s1, hH.mono s1, I, hn, hyn, hg y hyc, Nat.le_trans (vl_child hyc) hvl, ?_⟩
        rintro z H3 s3 ⟨t, rfl, ht⟩
        have hL3 := s3 _ _ hL1
        refine ⟨t, _, rfl, SqT.of ht, rfl, _, _, rfl, _, _, rfl, rfl, ?_⟩
        refine ⟨_, rfl, .inl ⟨rfl, _, SqL.of hL3⟩, _, rfl, L, _, _, rfl, rfl, hL3, by rw [sv_length, List.length_map, sizeLine_eq]; have := P0.len; omega, ?_⟩
        refine ⟨_, rfl, _, rfl, _, _, rfl, rfl, mulW (a := 24000) (b := 400) P0.prod ?_ (by decide) (by decide) (by decide), ?_⟩
        · exact Nat.lt_of_le_of_lt (P1.way _ (List.mem_append_right _ (List.mem_singleton_self _))) (Nat.pow_lt_pow_right (by decide) (by decide))
        · refine ⟨_, _, _, _, rfl, Same.upd_ (s1.trans s3) hL _, ?_, ?_⟩
          · rw [upd_same]
            unfold sv
            rw [List.map_append]
            rfl
          · show ((_ : Nat) : Int) * ((_ : Nat) : Int) = _
            rw [← Int.natCast_mul]
            simp [prodN_cons, prodN_nil]
    · rintro σ H1 ⟨a6, a7, a8, z, rfl, s1, hL1, rfl⟩
      have P0 := parts_of (k := false) (nk := true) rfl I hn hvn hg hvl (iv (nbOf FF false v)).length
      rw [iv_length, List.take_length] at P0 hL1 ⊢
      have er : ((nbOf FF false v).filter fun w => decide (u ≠ some w)) = ch (nbOf FF) false v u := rfl
      rw [er] at P0 hL1 ⊢
      have hq : tx (nbOf FF) (d + 1) false v u = txOf false ((ch (nbOf FF) false v u).map fun w => tx (nbOf FF) d true w (some v)) := rfl
      rw [hq] at q
      generalize ((ch (nbOf FF) false v u).map fun w => tx (nbOf FF) d true w (some v)) = r at P0 hL1 q ⊢
      have hlen := P0.len
      refine ⟨⟨_, rfl⟩, _, rfl, L, _, rfl, SqL.of hL1, by rw [List.length_map]; omega, fun p2 np2 => ?_⟩
      have hsum := P0.sum
      refine ⟨_, p2, (sortL (r.map (·.1))).map S, rfl, rfl, .inl (SqL.of (by rw [upd_same, sv_eq])), ?_, ?_⟩
      · rw [List.map_map]
        have e1 : ((sortL (r.map (·.1))).map (Str.length ∘ S)).sum = (sortL (r.map (·.1))).flatten.length := by
          rw [List.length_flatten]
          rfl
        rw [e1, List.length_map, sortL_length, List.length_map]
        have e2 : Str.length (Str.ofString "") = 0 := by decide +kernel
        rw [e2]
        omega
      have ea : (Str.ofString "" : Str) = S [] := by decide +kernel
      have eb : (Str.ofString "[" : Str) = S [91] := by decide +kernel
      have ec : (Str.ofString "]" : Str) = S [93] := by decide +kernel
      rw [ea, S_join]
      refine ⟨_, _, rfl, rfl, ?_, ?_⟩
      · rw [eb, S_len, S_len, sizeLine_eq]; simp only [List.length_append, List.length_cons, List.length_nil]; omega
      refine ⟨_, _, rfl, rfl, ?_, ?_⟩
      · rw [eb, ec, S_app, S_len, S_len, sizeLine_eq]; simp only [List.length_append, List.length_cons, List.length_nil]; omega
      rw [eb, ec, S_app, S_app]
      have s2 := Same.new np2 (.lst (sv (sortL (r.map (·.1)))))
      refine ⟨_, rfl, _, rfl, L, _, rfl, s2 _ _ hL1, by rw [List.length_map]; omega, fun H2 s3 => ?_⟩
      refine ⟨_, _, rfl, rfl, mulW (a := 24000) (b := 400) P0.prod P0.swaps (by decide) (by decide) (by decide), (by show 2 ≤ sizeLine; decide), fun t nt => ?_⟩
      refine q _ _ ((s1.trans s2).trans (s3.trans (Same.new nt _))) ⟨t, rfl, ?_⟩
      rw [upd_same]
      show some (HO.tup [V.str (S _), V.int (((_ : Nat) : Int) * ((_ : Nat) : Int))]) = _
      rw [← Int.natCast_mul]
      rfl
theorem d_text_0 {k : Bool} {x : Str} {st : Stmt} {N : List Str} (A : At K mg x st ["family", "homes", "bead", "above"]) (S0 : FnScope N ["family", "homes", "bead", "above"] (defScope st)) : DefAt P w K mg base 3 x ["family", "homes", "bead", "above"] (spTx 0 k) := A.mk' fun f fd F => by
  refine F.ok S0 (fun vs H Q E h => ?_) (fun cdv A outer s H vs Q E hr h => ?_)
  · obtain ⟨n, FF, fv, hv, v, u, _, _, _, _, _, _, hg, _⟩ := h
    exact False.elim hg
  · obtain ⟨n, FF, fv, hv, v, u, _, _, _, _, _, _, hg, _⟩ := h
    exact False.elim hg
theorem d_text_0b {k : Bool} {x : Str} {st : Stmt} {N : List Str} (A : At K mg x st ["family", "homes", "index", "above"]) (S0 : FnScope N ["family", "homes", "index", "above"] (defScope st)) : DefAt P w K mg base 3 x ["family", "homes", "index", "above"] (spTx 0 k) := A.mk' fun f fd F => by
  refine F.ok S0 (fun vs H Q E h => ?_) (fun cdv A outer s H vs Q E hr h => ?_)
  · obtain ⟨n, FF, fv, hv, v, u, _, _, _, _, _, _, hg, _⟩ := h
    exact False.elim hg
  · obtain ⟨n, FF, fv, hv, v, u, _, _, _, _, _, _, hg, _⟩ := h
    exact False.elim hg
theorem d_texts (A1 : At K mg "text_under" sTextUnder ["family", "homes", "bead", "above"]) (A2 : At K mg "bag_text" sBagText ["family", "homes", "index", "above"]) (T : Bi mg) (D_ways_to_swap : DefAt P w K mg base 2 "ways_to_swap" ["texts"] spSwap) : ∀ d : Nat,
    DefAt P w K mg base (d + 3) "text_under" ["family", "homes", "bead", "above"] (spTx d true) ∧ DefAt P w K mg base (d + 3) "bag_text" ["family", "homes", "index", "above"] (spTx d false)
  | 0 => ⟨d_text_0 A1 scTextUnder, d_text_0b A2 scBagText⟩
  | d + 1 => ⟨d_text_under_s d A1 T D_ways_to_swap (d_texts A1 A2 T D_ways_to_swap d).2, d_bag_text_s d A2 T D_ways_to_swap (d_texts A1 A2 T D_ways_to_swap d).1⟩
end
end Sb

/-! W8: hearts_of. -/
namespace Sb
open PySem L2
abbrev sHeartsOf : Stmt := topS 25
theorem scHeartsOf : FnScope ["family", "homes", "bead", "beads", "index", "bags", "ends", "lasts", "told", "bag", "many"] ["family"] (defScope sHeartsOf) := ⟨rfl, rfl, rfl, by decide +kernel, rfl, by decide +kernel, by decide +kernel⟩
def dab (a b : Addr) : Bool → Addr
  | true => a
  | false => b
def spHearts : Sp := fun vs H Q _ => ∃ n F v, vs = [v] ∧ FamT H v F ∧ Pre n F ∧ n ≤ 60 ∧ ∀ t H', Same H H' → H' t = some (.tup [.bl (heartOf (cOf n F.length) (fin (nbOf F) (cOf n F.length))).1, .int ((heartOf (cOf n F.length) (fin (nbOf F) (cOf n F.length))).2 : Nat)]) → Q (.ref t) H'
theorem HS.relock {Hb H H' : Hp} {D : Bool → Addr} {nb : Nb} {c : Bool → Nat} {L : Bool → Nat → Bool} (S : HS Hb H D nb c L) (k : Bool) {od : Obj} (e : Same (upd H (D k) (.frz od (.dK (dk (live c L k) (dgv nb L k))))) H') : HS Hb (upd H' (D k) (.dK (dk (live c L k) (dgv nb L k)))) D nb c L := by
  refine ⟨fun b o n q => ?_, S.ne, fun j => ?_⟩
  · rw [upd_ne (n k)]
    exact e _ _ (by rw [upd_ne (n k)]; exact S.kp b o n q)
  · rcases beq_or k j with rfl | rfl
    · rw [upd_same]
    · rw [upd_ne (ne_k S.ne).symm]
      exact e _ _ (by rw [upd_ne (ne_k S.ne).symm]; exact S.d _)
def hmu (a b : Addr) (H : Hp) : Nat := match H a, H b with
  | some (.dK x), some (.dK y) => x.length + y.length
  | _, _ => 0
theorem HS.mu {Hb H : Hp} {a b : Addr} {nb : Nb} {c : Bool → Nat} {L : Bool → Nat → Bool} (S : HS Hb H (dab a b) nb c L) : hmu a b H = card c L := by
  unfold hmu
  have h1 : H a = _ := S.d true
  have h2 : H b = _ := S.d false
  rw [h1, h2]
  simp only [dk_length]
  exact live_card
theorem live_small {nb : Nb} {c : Bool → Nat} {L : Bool → Nat → Bool} {k : Bool} : (List.range (live c L k).length).filterMap (fun i => ((live c L k)[i]?).bind fun v => if deg nb L k v < 2 then some v else none) = (List.range (c k)).filter fun v => L k v && small nb L k v := by
  rw [range_filter_some (g := id) (p := small nb L k) (fun i b hb => by
    rw [hb]
    unfold small
    simp), List.map_id]
  unfold live
  rw [List.filter_filter]
  refine List.filter_congr fun v _ => ?_
  rw [Bool.and_comm]
section
variable {P : Program} {w : World} {K : PySem.W.Frag} {mg : Str → Option Value} {base : Heap}
theorem d_hearts_of (A : At K mg "hearts_of" sHeartsOf ["family"]) (T : Bi mg) (D_homes_of : DefAt P w K mg base 2 "homes_of" ["bags"] spHomes) : DefAt P w K mg base 3 "hearts_of" ["family"] spHearts := A.mk' fun f fd F => by
  refine F.ok scHeartsOf (fun vs H Q E h => ?_) (fun cdv A outer s H vs Q E hr h => ?_)
  · obtain ⟨n, FF, v, rfl, _⟩ := h; rfl
  · obtain ⟨n, FF, v, rfl, hF, I, hn, q⟩ := h
    refine ⟨_, (pss_cons (ps_set (i := 1) scHeartsOf.nd rfl (.inl rfl) (pCall D_homes_of (hr.mono (by decide)) (pa_cons (pv 0) pa_nil)))
    (pss_cons (sDcX 3 [("bead", 2), ("told", 8)] scHeartsOf.nd (pEnumL K rfl T.enumerate (pa_cons (pv 1) pa_nil)) (N := ["family", "homes", "bead", "beads", "index", "bags", "ends", "lasts", "told", "bag", "many"]) (sc := (defScope sHeartsOf)) (by decide +kernel) (fun _ _ _ _ _ => (pgT K 2 rfl (pgs_cons (pgN 2 scHeartsOf.nd) (pgs_cons (pgN 8 scHeartsOf.nd) pgs_nil)))) (fun _ _ _ _ _ => pts_nil) (fun _ _ _ _ _ => (pv 2)) (fun _ _ _ _ _ => (pLen (cLen K) T.len (pv 8))) (by decide +kernel))
    (pss_cons (sDcX 5 [("index", 4), ("bag", 9)] scHeartsOf.nd (pEnumT K rfl T.enumerate (pa_cons (pv 0) pa_nil)) (N := ["family", "homes", "bead", "beads", "index", "bags", "ends", "lasts", "told", "bag", "many"]) (sc := (defScope sHeartsOf)) (by decide +kernel) (fun _ _ _ _ _ => (pgT K 2 rfl (pgs_cons (pgN 4 scHeartsOf.nd) (pgs_cons (pgN 9 scHeartsOf.nd) pgs_nil)))) (fun _ _ _ _ _ => pts_nil) (fun _ _ _ _ _ => (pv 4)) (fun _ _ _ _ _ => (pLen (cLen K) T.len (pv 9))) (by decide +kernel))
    (pss_cons (ps_while PassesOwn.never (pt_cmpR (op_gt) (pe_op op_add (pLen call_lenD T.len (pv 3)) (pLen call_lenD T.len (pv 5))) pe_int (nomark _))
      (pss_cons (ps_lock (sLcX 6 [("bead", 2), ("many", 10)] scHeartsOf.nd (pi_items (pv 3)) (N := ["family", "homes", "bead", "beads", "index", "bags", "ends", "lasts", "told", "bag", "many"]) (sc := (defScope sHeartsOf)) (by decide +kernel) (fun _ _ _ _ _ => (pgT K 2 rfl (pgs_cons (pgN 2 scHeartsOf.nd) (pgs_cons (pgN 10 scHeartsOf.nd) pgs_nil)))) (fun _ _ _ _ _ => pts_one (pt_cmpR (op_lt) (pv 10) pe_int (nomark _))) (fun _ _ _ _ _ => (pv 2)) (by decide +kernel)))
      (pss_cons (ps_lock (sLcX 7 [("index", 4), ("many", 10)] scHeartsOf.nd (pi_items (pv 5)) (N := ["family", "homes", "bead", "beads", "index", "bags", "ends", "lasts", "told", "bag", "many"]) (sc := (defScope sHeartsOf)) (by decide +kernel) (fun _ _ _ _ _ => (pgT K 2 rfl (pgs_cons (pgN 4 scHeartsOf.nd) (pgs_cons (pgN 10 scHeartsOf.nd) pgs_nil)))) (fun _ _ _ _ _ => pts_one (pt_cmpR (op_lt) (pv 10) pe_int (nomark _))) (fun _ _ _ _ _ => (pv 4)) (by decide +kernel)))
      (pss_cons (ps_for PassesOwn.never rfl (piSeq K (pv 6)) (pg_name (i := 2) scHeartsOf.nd rfl (Or.inl rfl))
        (pss_cons (ps_ddel (pv 3) (pv 2))
        (pss_one (ps_for PassesOwn.never rfl (piSeq K (pIx K (pv 1) (pv 2))) (pg_name (i := 4) scHeartsOf.nd rfl (Or.inl rfl))
          (pss_one (ps_if (pt_cmp (pc_din (hu_of hr) (pv 4) (pv 5))) (pss_one (ps_daug (hu_of hr) (pv 5) (pv 4) pe_int in_sub (fun _ _ _ => rfl))) pss_nil))))))
      (pss_one (ps_for PassesOwn.never rfl (piSeq K (pv 7)) (pg_name (i := 4) scHeartsOf.nd rfl (Or.inl rfl))
        (pss_one (ps_if (pt_cmpR (op_gt) (pe_op op_add (pLen call_lenD T.len (pv 5)) (pLen call_lenD T.len (pv 3))) pe_int (nomark _)) (pss_cons (ps_ddel (pv 5) (pv 4))
          (pss_one (ps_for PassesOwn.never rfl (piSeq K (pIx K (pv 0) (pv 4))) (pg_name (i := 2) scHeartsOf.nd rfl (Or.inl rfl))
            (pss_one (ps_if (pt_cmp (pc_din (hu_of hr) (pv 2) (pv 3))) (pss_one (ps_daug (hu_of hr) (pv 3) (pv 2) pe_int in_sub (fun _ _ _ => rfl))) pss_nil))))) pss_nil))))))))
    (pss_cons (ps_if (pt_cmpR (op_neL (Nat.lt_of_le_of_lt (Nat.le_add_right _ _) hr.units)) (pv 3) pe_dnewK (nomark _)) (pss_one (ps_ret (pe_tup (pa_cons pe_bl (pa_cons (pIx K (pList (call_list_dK rfl) T.list (pv 3)) pe_int) pa_nil))))) pss_nil)
    (pss_one (ps_ret (pe_tup (pa_cons pe_bl (pa_cons (pIx K (pList (call_list_dK rfl) T.list (pv 5)) pe_int) pa_nil)))))))))), ?_⟩
    obtain ⟨a, us, rfl, ha, hp⟩ := id hF
    have hu : us.length = FF.length := plen hp
    have hlen := I.len
    have TT := I.tree
    refine ⟨_, rfl, n, FF, _, rfl, hF, I, hn, fun z H0 s0 hH => ?_⟩
    obtain ⟨ph, cs, rfl, hph, hcs, hrow⟩ := id hH
    have ha0 := s0 _ _ ha
    generalize hnb : nbOf FF = nb at *
    generalize hc : cOf n FF.length = c at *
    have hct : c true = n := by rw [← hc]; rfl
    have hcf : c false = FF.length := by rw [← hc]; rfl
    have hnt : ∀ b, nb true b = idxs FF b := fun b => by rw [← hnb]; rfl
    have hnf : ∀ b, nb false b = bagAt FF b := fun b => by rw [← hnb]; rfl
    have hcap : ∀ k, c k ≤ 60 := fun k => by cases k <;> omega
    -- beads = {..}
    refine ⟨_, rfl, ph, _, rfl, SqL.of hph, fun db hdb => dc_it ((walk_enum (K := K) (a := ph) (xs := cs.map V.ref)).mono (G' := Same H0) (fun H' e => SqL.of (e _ _ hph)) (fun _ _ _ _ _ _ y => y))
      (fun i H' => Same H0 H' ∧ H' db = some (.dK (dk (List.range i) (dgv nb lall true)))) ⟨Same.new hdb _, upd_same⟩ (fun _ _ _ e => e.1) ?_ ?_⟩
    · rintro i x H2 H3 hi ⟨s2, hd2⟩ ⟨T', x1, x2, rfl, hT, rfl, hx1, hx2⟩
      cases hx1
      have hx2 : (cs.map V.ref)[i]? = some x2 := hx2
      rw [List.length_map] at hi
      rw [List.getElem?_map, List.getElem?_eq_getElem hi] at hx2
      cases hx2
      have hr1 := hrow i cs[i] (List.getElem?_eq_getElem hi)
      have nT := Same.new hT (.tup [.int (i : Nat), V.ref cs[i]])
      refine ⟨T', _, rfl, SqT.of upd_same, rfl, _, _, rfl, _, _, rfl, rfl, rfl, ?_⟩
      refine ⟨_, rfl, _, rfl, cs[i], _, rfl, .inl (SqL.of (nT _ _ (s2 _ _ hr1))), _, kI i, rfl, nT _ _ hd2, by rw [dk_length, List.length_range, sizeLine_eq]; omega, Same.upd_ (s2.trans nT) hdb _, ?_⟩
      rw [upd_same, List.range_succ]
      have e1 : V.int ((iv (idxs FF i)).length : Nat) = dgv nb lall true i := by
        unfold dgv
        rw [deg_lall, hnt, iv_length]
      rw [e1]
      exact congrArg (fun z => some (HO.dK z)) (putK_dk_new (by simp))
    rintro H1 ⟨s1, hd1⟩
    rw [List.length_map, hcs] at hd1
    -- bags = {..}
    have ha1 := s1 _ _ ha0
    refine ⟨_, rfl, a, us, rfl, SqT.of ha1, fun dg hdg => dc_it ((walk_enumT (K := K) (a := a) (xs := us)).mono (G' := Same H1) (fun H' e => SqT.of (e _ _ ha1)) (fun _ _ _ _ _ _ y => y))
      (fun i H' => Same H1 H' ∧ H' dg = some (.dK (dk (List.range i) (dgv nb lall false)))) ⟨Same.new hdg _, upd_same⟩ (fun _ _ _ e => e.1) ?_ ?_⟩
    · rintro i x H2 H3 hi ⟨s2, hd2⟩ ⟨T', x1, x2, rfl, hT, rfl, hx1, hx2⟩
      cases hx1
      obtain ⟨bag, hbag, cb, rfl, hcb⟩ := pget hp hx2
      have eb : bagAt FF i = bag := bagAt_some hbag
      have nT := Same.new hT (.tup [.int (i : Nat), V.ref cb])
      refine ⟨T', _, rfl, SqT.of upd_same, rfl, _, _, rfl, _, _, rfl, rfl, rfl, ?_⟩
      refine ⟨_, rfl, _, rfl, cb, _, rfl, .inr (SqT.of (nT _ _ (s2 _ _ (s1 _ _ (s0 _ _ hcb))))), _, kI i, rfl, nT _ _ hd2, by rw [dk_length, List.length_range, sizeLine_eq]; omega, Same.upd_ (s2.trans nT) hdg _, ?_⟩
      rw [upd_same, List.range_succ]
      have e1 : V.int ((iv bag).length : Nat) = dgv nb lall false i := by
        unfold dgv
        rw [deg_lall, hnf, iv_length, eb]
      rw [e1]
      exact congrArg (fun z => some (HO.dK z)) (putK_dk_new (by simp))
    rintro H2 ⟨s2, hd2⟩
    rw [hu] at hd2
    have hdb2 := s2 _ _ hd1
    have hdg0 : H0 dg = none := by
      cases e : H0 dg with
      | none => rfl
      | some o => rw [s1 _ _ e] at hdg; cases hdg
    have ndd : db ≠ dg := ne_of_none hd1 hdg
    have hn0 : ∀ k, H0 (dab db dg k) = none := fun k => by cases k; exact hdg0; exact hdb
    have nD : ∀ {b : Addr} {o : HO}, H0 b = some o → ∀ k, b ≠ dab db dg k := fun e k => ne_of_none e (hn0 k)
    have S0 : HS H0 H2 (dab db dg) nb c lall := ⟨.of (s1.trans s2), ndd, fun k => by
      have e : live c lall k = List.range (c k) := List.filter_eq_self.mpr fun _ _ => rfl
      rw [e]
      cases k
      · rw [hcf]; exact hd2
      · rw [hct]; exact hdb2⟩
    refine while_by (fun σ H' => ∃ L a2 a4 a6 a7, σ = [some (.ref a), some (.ref ph), a2, some (.ref db), a4, some (.ref dg), a6, a7, none, none, none] ∧ HS H0 H' (dab db dg) nb c L ∧ Left nb c L ∧ fin nb c = peel nb c (card c L) L) (fun σ H' => hmu db dg H')
      ⟨lall, none, none, none, none, rfl, S0, left_lall TT, by unfold fin; rw [card_lall]⟩ ?_ ?_
    · rintro σ H3 ⟨L, a2, a4, a6, a7, rfl, S3, hLeft, hfin⟩
      have hcard : (live c L true).length + (live c L false).length = card c L := live_card
      have hpos := Left.pos hLeft
      refine ⟨_, rfl, db, _, rfl, S3.d true, _, rfl, dg, _, rfl, S3.d false, _, _, rfl, rfl, _, _, rfl, rfl, _, rfl, ?_⟩
      rw [dk_length, dk_length]
      by_cases h2 : 2 ≤ card c L
      · rw [decide_eq_true (p := ((live c L true).length : Int) + ((live c L false).length : Int) > 1) (by omega)]
        -- ends = [..]
        refine ⟨db, _, S3.d true, trivial, fun od => ⟨_, rfl, db, od, _, rfl, upd_same, fun e6 he6 => lc_fm ((walk_items (d := db) (o := od) (kvs := dk (live c L true) (dgv nb L true))).mono (G' := Same (upd H3 db (.frz od (.dK (dk (live c L true) (dgv nb L true)))))) (fun H' e => e _ _ upd_same) (fun _ _ _ _ _ _ y => y))
          (RV0 fun x : Nat => V.int (x : Int)) (fun i => ((live c L true)[i]?).bind fun v => if deg nb L true v < 2 then some v else none) he6 (fun _ e => e) YPair.same (fun _ _ _ _ _ r => r) (fun _ _ _ _ _ _ r => r) (by rw [dk_length]; have := live_le (c := c) (L := L) (k := true); have := hcap true; omega) ?_ ?_⟩⟩
        · rintro i x H4 H5 Q1 Q0 hi s4 ⟨T', x1, x2, rfl, hT, rfl, hx1, hx2⟩ k1 k0
          obtain ⟨v, hv⟩ : ∃ v, (live c L true)[i]? = some v := by rw [dk_length] at hi; exact ⟨_, List.getElem?_eq_getElem hi⟩
          have hx1 : ((dk (live c L true) (dgv nb L true))[i]?).map (fun kv => kV kv.1) = some x1 := hx1
          have hx2 : ((dk (live c L true) (dgv nb L true))[i]?).map Prod.snd = some x2 := hx2
          unfold dk at hx1 hx2
          rw [List.getElem?_map, hv] at hx1 hx2
          cases hx1
          cases hx2
          refine ⟨T', _, rfl, SqT.of upd_same, rfl, _, _, rfl, _, _, rfl, rfl, rfl, ?_⟩
          refine ⟨_, rfl, _, _, rfl, rfl, _, rfl, ?_⟩
          by_cases m : deg nb L true v < 2
          · rw [decide_eq_true (p := ((deg nb L true v : Nat) : Int) < 2) (by omega)]
            exact ⟨_, rfl, k1 _ _ v (by rw [hv]; exact if_pos m) (Same.refl _) rfl⟩
          · rw [decide_eq_false (p := ((deg nb L true v : Nat) : Int) < 2) (by omega)]
            exact k0 (by rw [hv]; exact if_neg m) _ (Same.refl _)
        rintro H4 ys s4 hd4 hy
        have ey := rV_map hy
        rw [dk_length, live_small] at ey
        subst ey
        refine ⟨s4 _ _ upd_same, ?_⟩
        have S4 := S3.relock true s4
        have ne6 : ∀ k, e6 ≠ dab db dg k := fun k z => by
          have q1 : upd H3 db (.frz od (.dK (dk (live c L true) (dgv nb L true)))) (dab db dg k) ≠ none := by
            cases k
            · show upd _ db _ dg ≠ none
              rw [upd_ne ndd.symm, show H3 dg = some _ from S3.d false]
              simp
            · show upd _ db _ db ≠ none
              rw [upd_same]
              simp
          exact q1 (by rw [← z]; exact he6)
        have hE : upd H4 db (.dK (dk (live c L true) (dgv nb L true))) e6 = some (.lst (iv ((List.range (c true)).filter fun v => L true v && small nb L true v))) := by
          rw [upd_ne (show e6 ≠ db from ne6 true)]
          exact hd4
        have S4 : HS H0 (upd H4 db (.dK (dk (live c L true) (dgv nb L true)))) (dab db dg) nb c L := S4
        generalize upd H4 db (.dK (dk (live c L true) (dgv nb L true))) = H5 at S4 hE
        clear s4 hd4 hy
        -- lasts = [..]
        refine ⟨dg, _, S4.d false, trivial, fun od2 => ⟨_, rfl, dg, od2, _, rfl, upd_same, fun e7 he7 => lc_fm ((walk_items (d := dg) (o := od2) (kvs := dk (live c L false) (dgv nb L false))).mono (G' := Same (upd H5 dg (.frz od2 (.dK (dk (live c L false) (dgv nb L false)))))) (fun H' e => e _ _ upd_same) (fun _ _ _ _ _ _ y => y))
          (RV0 fun x : Nat => V.int (x : Int)) (fun i => ((live c L false)[i]?).bind fun v => if deg nb L false v < 2 then some v else none) he7 (fun _ e => e) YPair.same (fun _ _ _ _ _ r => r) (fun _ _ _ _ _ _ r => r) (by rw [dk_length]; have := live_le (c := c) (L := L) (k := false); have := hcap false; omega) ?_ ?_⟩⟩
        · rintro i x H6 H7 Q1 Q0 hi s4 ⟨T', x1, x2, rfl, hT, rfl, hx1, hx2⟩ k1 k0
          obtain ⟨v, hv⟩ : ∃ v, (live c L false)[i]? = some v := by rw [dk_length] at hi; exact ⟨_, List.getElem?_eq_getElem hi⟩
          have hx1 : ((dk (live c L false) (dgv nb L false))[i]?).map (fun kv => kV kv.1) = some x1 := hx1
          have hx2 : ((dk (live c L false) (dgv nb L false))[i]?).map Prod.snd = some x2 := hx2
          unfold dk at hx1 hx2
          rw [List.getElem?_map, hv] at hx1 hx2
          cases hx1
          cases hx2
          refine ⟨T', _, rfl, SqT.of upd_same, rfl, _, _, rfl, _, _, rfl, rfl, rfl, ?_⟩
          refine ⟨_, rfl, _, _, rfl, rfl, _, rfl, ?_⟩
          by_cases m : deg nb L false v < 2
          · rw [decide_eq_true (p := ((deg nb L false v : Nat) : Int) < 2) (by omega)]
            exact ⟨_, rfl, k1 _ _ v (by rw [hv]; exact if_pos m) (Same.refl _) rfl⟩
          · rw [decide_eq_false (p := ((deg nb L false v : Nat) : Int) < 2) (by omega)]
            exact k0 (by rw [hv]; exact if_neg m) _ (Same.refl _)
        rintro H6 ys s6 hd6 hy
        have ey := rV_map hy
        rw [dk_length, live_small] at ey
        subst ey
        refine ⟨s6 _ _ upd_same, ?_⟩
        have S6 : HS H0 (upd H6 dg (.dK (dk (live c L false) (dgv nb L false)))) (dab db dg) nb c L := S4.relock false s6
        have ne7 : ∀ k, e7 ≠ dab db dg k := fun k z => by
          have q1 : upd H5 dg (.frz od2 (.dK (dk (live c L false) (dgv nb L false)))) (dab db dg k) ≠ none := by
            cases k
            · show upd _ dg _ dg ≠ none
              rw [upd_same]
              simp
            · show upd _ dg _ db ≠ none
              rw [upd_ne ndd, show H5 db = some _ from S4.d true]
              simp
          exact q1 (by rw [← z]; exact he7)
        have hE7 : upd H6 dg (.dK (dk (live c L false) (dgv nb L false))) e7 = some (.lst (iv ((List.range (c false)).filter fun v => L false v && small nb L false v))) := by
          rw [upd_ne (show e7 ≠ dg from ne7 false)]
          exact hd6
        have hE6 : upd H6 dg (.dK (dk (live c L false) (dgv nb L false))) e6 = some (.lst (iv ((List.range (c true)).filter fun v => L true v && small nb L true v))) := by
          rw [upd_ne (show e6 ≠ dg from ne6 false)]
          exact s6 _ _ (by rw [upd_ne (show e6 ≠ dg from ne6 false)]; exact hE)
        generalize upd H6 dg (.dK (dk (live c L false) (dgv nb L false))) = H7 at S6 hE7 hE6
        clear s6 hd6 hy hE S4 he7
        have kp7 := S6.kp
        have B7 : HS H7 H7 (dab db dg) nb c L := ⟨.refl, S6.ne, S6.d⟩
        have ha7 : H7 a = some (.tup us) := kp7 _ _ (nD ha0) ha0
        have hph7 : H7 ph = some (.lst (cs.map V.ref)) := kp7 _ _ (nD hph) hph
        have hE1 : ∀ x ∈ (List.range (c true)).filter (fun v => L true v && small nb L true v), x < c true ∧ L true x = true ∧ deg nb L true x < 2 ∧ 1 ≤ deg nb L true x := fun x hx => by
          obtain ⟨x1, x2⟩ := List.mem_filter.mp hx
          rw [Bool.and_eq_true] at x2
          have x1 := List.mem_range.mp x1
          exact ⟨x1, x2.1, of_decide_eq_true x2.2, hLeft.deg TT x1 x2.1 h2⟩
        have ndE : ((List.range (c true)).filter fun v => L true v && small nb L true v).Nodup := List.nodup_range.filter _
        have hends : subL L true ((List.range (c true)).filter fun v => L true v && small nb L true v) = _ := rfl
        have hpt := subL_range (c := c) (L := L) (k := true) (p := small nb L true)
        generalize hee : (List.range (c true)).filter (fun v => L true v && small nb L true v) = ee at *
        obtain ⟨J, hw, sel⟩ := seq_sel3 (K := K) (D := dab db dg) (.inl hE6) ne6
        refine ⟨_, rfl, e6, rfl, sel _ B7.kp _ (for_it hw (fun j σ H' => ∃ a2 a4, σ = [some (.ref a), some (.ref ph), a2, some (.ref db), a4, some (.ref dg), some (.ref e6), some (.ref e7), none, none, none] ∧ HS H7 H' (dab db dg) nb c (subL L true (ee.take j)))
          ⟨_, _, rfl, by rw [List.take_zero, subL_nil]; exact B7⟩ (fun _ _ _ _ ⟨_, _, _, e⟩ => e.kp) ?_ ?_)⟩
        · rintro j x σ H8 H9 hj ⟨b2, b4, rfl, S8⟩ ⟨rfl, hx⟩
          obtain ⟨v, hv, rfl⟩ := of_iv_get hx
          have hvE := hE1 v (List.mem_of_getElem? hv)
          have hpre := prefix_two TT hLeft ndE hE1 hv
          have et : subL L true (ee.take (j + 1)) = del (subL L true (ee.take j)) true v := by rw [List.take_add_one, hv]; exact subL_snoc
          rw [et]
          generalize subL L true (ee.take j) = Lj at S8 hpre
          have hvm : v ∈ live c Lj true := mem_live.mpr ⟨hvE.1, hpre.2⟩
          have hvc : v < cs.length := by omega
          have hcs' : cs[v]? = some cs[v] := List.getElem?_eq_getElem hvc
          have hrw := hrow v _ hcs'
          have hrw7 : H7 cs[v] = some (.lst (iv (idxs FF v))) := kp7 _ _ (nD hrw) hrw
          refine ⟨_, rfl, _, rfl, db, _, kI v, rfl, S8.d true, rfl, by rw [valV_dk, if_pos hvm]; rfl, ?_⟩
          have S9 := S8.start (k := true) (v := v)
          obtain ⟨J2, hw2, sel2⟩ := seq_sel3 (K := K) (D := dab db dg) (.inl hrw7) (nD hrw)
          refine ⟨_, rfl, _, rfl, ph, _, _, .ref cs[v], rfl, rfl, .inl (SqL.of (S9.kp _ _ (nD hph) hph7)), atI_nat (j := v) (by rw [List.getElem?_map, hcs']; rfl), _, rfl, sel2 _ S9.kp _ (for_it hw2
            (fun t σ H' => ∃ a4, σ = [some (.ref a), some (.ref ph), some (.int (v : Nat)), some (.ref db), a4, some (.ref dg), some (.ref e6), some (.ref e7), none, none, none] ∧ HT H7 H' (dab db dg) nb c Lj true v t) ⟨_, rfl, S9⟩ (fun _ _ _ _ ⟨_, _, e⟩ => e.kp) ?_ ?_)⟩
          · rintro t x σ H10 H11 ht ⟨c4, rfl, S10⟩ ⟨rfl, hx⟩
            obtain ⟨y, hy, rfl⟩ := of_iv_get hx
            have hy' : (nb true v)[t]? = some y := by rw [hnt]; exact hy
            refine ⟨_, rfl, _, rfl, dg, _, rfl, DGet.k (k := kI y) S10.d2, _, rfl, ?_⟩
            rw [valV_dk]
            by_cases m : y ∈ live c Lj (!true)
            · rw [if_pos m]
              have g := DGet.k (k := kI y) S10.d2
              rw [valV_dk, if_pos m] at g
              refine ⟨_, rfl, _, rfl, dg, _, rfl, g, _, _, rfl, rfl, _, DPut.k (k := kI y) S10.d2 (by rw [dk_length, sizeLine_eq]; have := live_le (c := c) (L := Lj) (k := !true); have := hcap (!true); omega), ?_⟩
              exact ⟨_, rfl, S10.step_in (TT.nd true v hvE.1) hy' m rfl⟩
            · rw [if_neg m]
              exact ⟨_, rfl, S10.step_out hy' m⟩
          · rintro σ H10 ⟨c4, rfl, S10⟩
            exact ⟨_, _, rfl, S10.done TT hvE.1 hpre.2 (by rw [hnt, iv_length]; exact Nat.le_refl _)⟩
        rintro σ H8 ⟨b2, b4, rfl, S8⟩
        rw [iv_length, List.take_length] at S8
        have S8 : HS H7 H8 (dab db dg) nb c (sub L true (small nb L true)) := S8.congr TT.inb fun k v hv => hpt k v hv
        obtain ⟨r1, r2⟩ := round_left TT hLeft h2
        have hstep := peel_step TT hLeft h2
        have fin_step : ∀ H' : Hp, HS H7 H' (dab db dg) nb c (round nb c L) → ∀ σ' : L2.St, (∃ a2 a4 a6 a7, σ' = [some (.ref a), some (.ref ph), a2, some (.ref db), a4, some (.ref dg), a6, a7, none, none, none]) →
            (∃ L a2 a4 a6 a7, σ' = [some (.ref a), some (.ref ph), a2, some (.ref db), a4, some (.ref dg), a6, a7, none, none, none] ∧ HS H0 H' (dab db dg) nb c L ∧ Left nb c L ∧ fin nb c = peel nb c (card c L) L) ∧ hmu db dg H' < hmu db dg H3 := fun H' S' σ' hσ => by
          obtain ⟨a2, a4, a6, a7, hσ⟩ := hσ
          refine ⟨⟨round nb c L, a2, a4, a6, a7, hσ, S'.keep kp7, r1, hfin.trans hstep⟩, ?_⟩
          rw [S'.mu, S3.mu]
          exact r2
        by_cases h1 : card c (sub L true (small nb L true)) ≤ 1
        · have er : round nb c L = sub L true (small nb L true) := by unfold round; exact if_pos h1
          obtain ⟨J, hw, sel⟩ := seq_sel3 (K := K) (D := dab db dg) (.inl hE7) ne7
          refine ⟨_, rfl, e7, rfl, sel _ S8.kp _ (for_it hw (fun j σ H' => ∃ a2 a4, σ = [some (.ref a), some (.ref ph), a2, some (.ref db), a4, some (.ref dg), some (.ref e6), some (.ref e7), none, none, none] ∧ HS H7 H' (dab db dg) nb c (sub L true (small nb L true)))
            ⟨_, _, rfl, S8⟩ (fun _ _ _ _ ⟨_, _, _, e⟩ => e.kp) ?_ ?_)⟩
          · rintro j x σ H9 H10 hj ⟨c2, c4, rfl, S9⟩ ⟨rfl, hx⟩
            have hc9 := live_card (c := c) (L := sub L true (small nb L true))
            refine ⟨_, rfl, dg, _, rfl, S9.d false, _, rfl, db, _, rfl, S9.d true, _, _, rfl, rfl, _, _, rfl, rfl, _, rfl, ?_⟩
            rw [dk_length, dk_length, decide_eq_false (p := ((live c (sub L true (small nb L true)) false).length : Int) + ((live c (sub L true (small nb L true)) true).length : Int) > 1) (by omega)]
            exact ⟨_, _, rfl, S9⟩
          · rintro σ H9 ⟨c2, c4, rfl, S9⟩
            exact fin_step _ (by rw [er]; exact S9) _ ⟨_, _, _, _, rfl⟩
        · have er : round nb c L = sub (sub L true (small nb L true)) false (small nb L false) := by unfold round; exact if_neg h1
          have hLeft1 : Left nb c (sub L true (small nb L true)) := (hLeft.sub TT (k := true) (p := small nb L true) fun x hx hL hp => ⟨of_decide_eq_true hp, hLeft.deg TT hx hL h2⟩).1
          have hE2 : ∀ x ∈ (List.range (c false)).filter (fun v => L false v && small nb L false v), x < c false ∧ sub L true (small nb L true) false x = true ∧ deg nb (sub L true (small nb L true)) false x < 2 ∧ 1 ≤ deg nb (sub L true (small nb L true)) false x := fun x hx => by
            obtain ⟨x1, x2⟩ := List.mem_filter.mp hx
            rw [Bool.and_eq_true] at x2
            have x1 := List.mem_range.mp x1
            exact ⟨x1, last_ok TT hLeft h2 h1 x1 x2.1 x2.2⟩
          have ndE2 : ((List.range (c false)).filter fun v => L false v && small nb L false v).Nodup := List.nodup_range.filter _
          have hpt2 := subL_range (c := c) (L := sub L true (small nb L true)) (k := false) (p := small nb L false)
          have e0 : ((List.range (c false)).filter fun v => sub L true (small nb L true) false v && small nb L false v) = (List.range (c false)).filter fun v => L false v && small nb L false v := by
            refine List.filter_congr fun v _ => ?_
            rw [show sub L true (small nb L true) false v = L false v from sub_nk (L := L) (k := true)]
          rw [e0] at hpt2
          rw [er] at fin_step
          generalize sub L true (small nb L true) = M at *
          generalize hll : (List.range (c false)).filter (fun v => L false v && small nb L false v) = ll at *
          obtain ⟨J, hw, sel⟩ := seq_sel3 (K := K) (D := dab db dg) (.inl hE7) ne7
          refine ⟨_, rfl, e7, rfl, sel _ S8.kp _ (for_it hw (fun j σ H' => ∃ a2 a4, σ = [some (.ref a), some (.ref ph), a2, some (.ref db), a4, some (.ref dg), some (.ref e6), some (.ref e7), none, none, none] ∧ HS H7 H' (dab db dg) nb c (subL M false (ll.take j)))
            ⟨_, _, rfl, by rw [List.take_zero, subL_nil]; exact S8⟩ (fun _ _ _ _ ⟨_, _, _, e⟩ => e.kp) ?_ ?_)⟩
          · rintro j x σ H9 H10 hj ⟨c2, c4, rfl, S9⟩ ⟨rfl, hx⟩
            obtain ⟨v, hv, rfl⟩ := of_iv_get hx
            have hvE := hE2 v (List.mem_of_getElem? hv)
            have hpre := prefix_two TT hLeft1 ndE2 hE2 hv
            have et : subL M false (ll.take (j + 1)) = del (subL M false (ll.take j)) false v := by rw [List.take_add_one, hv]; exact subL_snoc
            rw [et]
            generalize subL M false (ll.take j) = Lj at S9 hpre
            have hc9 := live_card (c := c) (L := Lj)
            have hvm : v ∈ live c Lj false := mem_live.mpr ⟨hvE.1, hpre.2⟩
            refine ⟨_, rfl, dg, _, rfl, S9.d false, _, rfl, db, _, rfl, S9.d true, _, _, rfl, rfl, _, _, rfl, rfl, _, rfl, ?_⟩
            rw [dk_length, dk_length, decide_eq_true (p := ((live c Lj false).length : Int) + ((live c Lj true).length : Int) > 1) (by omega)]
            have hvF : v < FF.length := by rw [← hcf]; exact hvE.1
            obtain ⟨xb, hxb, cb, rfl, hcb⟩ := pget' hp (bagAt_lt hvF)
            have hcb0 := s0 _ _ hcb
            have hcb7 : H7 cb = some (.tup (iv (bagAt FF v))) := kp7 _ _ (nD hcb0) hcb0
            refine ⟨_, rfl, _, rfl, dg, _, kI v, rfl, S9.d false, rfl, by rw [valV_dk, if_pos hvm]; rfl, ?_⟩
            have S10 := S9.start (k := false) (v := v)
            obtain ⟨J2, hw2, sel2⟩ := seq_sel3 (K := K) (D := dab db dg) (.inr hcb7) (nD hcb0)
            refine ⟨_, rfl, _, rfl, a, us, _, .ref cb, rfl, rfl, .inr (SqT.of (S10.kp _ _ (nD ha0) ha7)), atI_nat (j := v) hxb, _, rfl, sel2 _ S10.kp _ (for_it hw2
              (fun t σ H' => ∃ a2, σ = [some (.ref a), some (.ref ph), a2, some (.ref db), some (.int (v : Nat)), some (.ref dg), some (.ref e6), some (.ref e7), none, none, none] ∧ HT H7 H' (dab db dg) nb c Lj false v t) ⟨_, rfl, S10⟩ (fun _ _ _ _ ⟨_, _, e⟩ => e.kp) ?_ ?_)⟩
            · rintro t x σ H11 H12 ht ⟨d2, rfl, S11⟩ ⟨rfl, hx⟩
              obtain ⟨y, hy, rfl⟩ := of_iv_get hx
              have hy' : (nb false v)[t]? = some y := by rw [hnf]; exact hy
              refine ⟨_, rfl, _, rfl, db, _, rfl, DGet.k (k := kI y) S11.d2, _, rfl, ?_⟩
              rw [valV_dk]
              by_cases m : y ∈ live c Lj (!false)
              · rw [if_pos m]
                have g := DGet.k (k := kI y) S11.d2
                rw [valV_dk, if_pos m] at g
                refine ⟨_, rfl, _, rfl, db, _, rfl, g, _, _, rfl, rfl, _, DPut.k (k := kI y) S11.d2 (by rw [dk_length, sizeLine_eq]; have := live_le (c := c) (L := Lj) (k := !false); have := hcap (!false); omega), ?_⟩
                exact ⟨_, rfl, S11.step_in (TT.nd false v hvE.1) hy' m rfl⟩
              · rw [if_neg m]
                exact ⟨_, rfl, S11.step_out hy' m⟩
            · rintro σ H11 ⟨d2, rfl, S11⟩
              exact ⟨_, _, rfl, S11.done TT hvE.1 hpre.2 (by rw [hnf, iv_length]; exact Nat.le_refl _)⟩
          · rintro σ H9 ⟨c2, c4, rfl, S9⟩
            rw [iv_length, List.take_length] at S9
            exact fin_step _ (S9.congr TT.inb fun k v hv => hpt2 k v hv) _ ⟨_, _, _, _, rfl⟩
      · have h1 : card c L = 1 := by omega
        rw [decide_eq_false (p := ((live c L true).length : Int) + ((live c L false).length : Int) > 1) (by omega)]
        have hfL : fin nb c = L := by rw [hfin]; exact peel_end h1
        rw [hfL] at q
        have s3 := S3.kp.same hn0
        refine ⟨_, rfl, fun d hd => ⟨db, d, dk (live c L true) (dgv nb L true), [], rfl, rfl, Same.new hd (.dK []) _ _ (S3.d true), upd_same, ⟨_, rfl, ?_⟩, rfl⟩⟩
        have n1 := Same.new hd (.dK [])
        rw [dk_length]
        have hheart : heartOf c L = match live c L true with | v :: _ => (true, v) | [] => (false, (live c L false).headD 0) := rfl
        cases hl : live c L true with
        | nil =>
          rw [hl] at hheart hcard
          obtain ⟨v, hv⟩ : ∃ v, live c L false = [v] := List.length_eq_one_iff.mp (by simp at hcard; omega)
          rw [hheart, hv] at q
          refine ⟨_, rfl, dg, _, rfl, n1 _ _ (S3.d false), fun p np => ⟨p, _, _, V.int (v : Nat), rfl, rfl, .inl (SqL.of upd_same), ?_, (by show 2 ≤ sizeLine; decide), fun t nt => ?_⟩⟩
          · rw [hv]; rfl
          · exact q _ _ ((s0.trans s3).trans (n1.trans ((Same.new np _).trans (Same.new nt _)))) upd_same
        | cons v r =>
          rw [hl] at hheart hcard
          rw [hheart] at q
          refine ⟨_, rfl, db, _, rfl, n1 _ _ (S3.d true), fun p np => ⟨p, _, _, V.int (v : Nat), rfl, rfl, .inl (SqL.of upd_same), ?_, (by show 2 ≤ sizeLine; decide), fun t nt => ?_⟩⟩
          · rw [hl]; exact atI_nat (j := 0) rfl
          · exact q _ _ ((s0.trans s3).trans (n1.trans ((Same.new np _).trans (Same.new nt _)))) upd_same
    · intro σ H Q Q' imp h
      obtain ⟨a1, a2, a3, a4, a5, a6, a7, a8, a9, b1, b2, b3, b4, b5, b6, b7, b8, b9, c1, c2, c3, c4, h⟩ := h
      exact ⟨a1, a2, a3, a4, a5, a6, a7, a8, a9, b1, b2, b3, b4, b5, b6, b7, b8, b9, c1, c2, c3, c4, imp _ _ h⟩
end
end Sb

/-! W9: shape_of, shape, same_shape, renamings, copies. -/
namespace Sb
open PySem L2
abbrev sShapeOf : Stmt := topS 26
theorem scShapeOf : FnScope ["family", "homes", "is_bead", "heart"] ["family"] (defScope sShapeOf) := ⟨rfl, rfl, rfl, by decide +kernel, rfl, by decide +kernel, by decide +kernel⟩
abbrev sShape : Stmt := topS 27
theorem scShape : FnScope ["family"] ["family"] (defScope sShape) := ⟨rfl, rfl, rfl, by decide +kernel, rfl, by decide +kernel, by decide +kernel⟩
abbrev sSameShape : Stmt := topS 28
theorem scSameShape : FnScope ["one", "other"] ["one", "other"] (defScope sSameShape) := ⟨rfl, rfl, rfl, by decide +kernel, rfl, by decide +kernel, by decide +kernel⟩
abbrev sRenamings : Stmt := topS 29
theorem scRenamings : FnScope ["family"] ["family"] (defScope sRenamings) := ⟨rfl, rfl, rfl, by decide +kernel, rfl, by decide +kernel, by decide +kernel⟩
abbrev sCopies : Stmt := topS 30
theorem scCopies : FnScope ["family"] ["family"] (defScope sCopies) := ⟨rfl, rfl, rfl, by decide +kernel, rfl, by decide +kernel, by decide +kernel⟩
def spShapeOf : Sp := fun vs H Q _ => ∃ n F v, vs = [v] ∧ FamT H v F ∧ Pre n F ∧ n ≤ 30 ∧ ∀ z H', Same H H' → TxAt H' z (shapeOf n F) → Q z H'
def spShape : Sp := fun vs H Q _ => ∃ n F v, vs = [v] ∧ FamT H v F ∧ IsFam n F ∧ n ≤ 30 ∧ ∀ H', Same H H' → Q (.str (S (shapeOf n F).1)) H'
def spSame : Sp := fun vs H Q _ => ∃ n F v m G u, vs = [v, u] ∧ FamT H v F ∧ IsFam n F ∧ n ≤ 30 ∧ FamT H u G ∧ IsFam m G ∧ m ≤ 30 ∧ ∀ H', Same H H' → Q (.bl (decide ((shapeOf n F).1 = (shapeOf m G).1))) H'
def spRen : Sp := fun vs H Q _ => ∃ n F v, vs = [v] ∧ FamT H v F ∧ IsFam n F ∧ n ≤ 30 ∧ ∀ H', Same H H' → Q (.int ((shapeOf n F).2 : Nat)) H'
def spCopies : Sp := fun vs H Q _ => ∃ n F v, vs = [v] ∧ FamT H v F ∧ IsFam n F ∧ n ≤ 30 ∧ ∀ H', Same H H' → Q (.int ((fact n / (shapeOf n F).2 : Nat) : Int)) H'
section
variable {P : Program} {w : World} {K : PySem.W.Frag} {mg : Str → Option Value} {base : Heap}
theorem d_shape_of (A : At K mg "shape_of" sShapeOf ["family"]) (T : Bi mg) (D_homes_of : DefAt P w K mg base 2 "homes_of" ["bags"] spHomes) (D_hearts_of : DefAt P w K mg base 3 "hearts_of" ["family"] spHearts)
    (D_text_under : DefAt P w K mg base 123 "text_under" ["family", "homes", "bead", "above"] (spTx 120 true)) (D_bag_text : DefAt P w K mg base 123 "bag_text" ["family", "homes", "index", "above"] (spTx 120 false)) :
    DefAt P w K mg base 124 "shape_of" ["family"] spShapeOf := A.mk' fun f fd F => by
  refine F.ok scShapeOf (fun vs H Q E h => ?_) (fun cdv A outer s H vs Q E hr h => ?_)
  · obtain ⟨n, FF, v, rfl, _⟩ := h; rfl
  · obtain ⟨n, FF, v, rfl, hF, I, hn, q⟩ := h
    refine ⟨_, (pss_cons (ps_asg (pe_tup (pa_cons (pCall D_homes_of (hr.mono (by decide)) (pa_cons (pv 0) pa_nil)) (pa_cons (pCall D_hearts_of (hr.mono (by decide)) (pa_cons (pv 0) pa_nil)) pa_nil))) (pgT K 2 rfl (pgs_cons (pg_name (i := 1) scShapeOf.nd rfl (Or.inl rfl)) (pgs_cons (pgT K 2 rfl (pgs_cons (pg_name (i := 2) scShapeOf.nd rfl (Or.inl rfl)) (pgs_cons (pg_name (i := 3) scShapeOf.nd rfl (Or.inl rfl)) pgs_nil))) pgs_nil))))
    (pss_cons (ps_if (pt_val (pv 2)) (pss_one (ps_ret (pCall D_text_under (hr.mono (by decide)) (pa_cons (pv 0) (pa_cons (pv 1) (pa_cons (pv 3) (pa_cons pe_non pa_nil))))))) pss_nil)
    (pss_one (ps_ret (pCall D_bag_text (hr.mono (by decide)) (pa_cons (pv 0) (pa_cons (pv 1) (pa_cons (pv 3) (pa_cons pe_non pa_nil))))))))), ?_⟩
    refine ⟨_, rfl, n, FF, _, rfl, hF, I, by omega, fun z H0 s0 hH => ?_⟩
    refine ⟨_, rfl, n, FF, _, rfl, hF.mono s0, I, by omega, fun t H1 s1 ht => ?_⟩
    refine ⟨(by show 2 ≤ sizeLine; decide), fun t2 nt2 => ?_⟩
    have n2 := Same.new nt2 (.tup [z, .ref t])
    have hk := I.heart
    refine ⟨t2, _, rfl, SqT.of upd_same, rfl, _, _, rfl, _, _, rfl, ⟨t, _, rfl, SqT.of (n2 _ _ ht), rfl, _, _, rfl, _, _, rfl, rfl, ?_⟩⟩
    have hF2 := hF.mono ((s0.trans s1).trans n2)
    have hH2 := (hH.mono s1).mono n2
    have h2 := I.text hn (u := none) hk
    have e : shapeOf n FF = tx (nbOf FF) 120 (heartOf (cOf n FF.length) (fin (nbOf FF) (cOf n FF.length))).1 (heartOf (cOf n FF.length) (fin (nbOf FF) (cOf n FF.length))).2 none := h2.2.2.symm
    rw [e] at q
    refine ⟨rfl, _, rfl, _, rfl, ?_⟩
    generalize heartOf (cOf n FF.length) (fin (nbOf FF) (cOf n FF.length)) = hh at *
    obtain ⟨k, v'⟩ := hh
    cases k with
    | true => exact ⟨_, rfl, _, rfl, _, rfl, n, FF, _, _, v', none, rfl, hF2, hH2, I, by omega, hk, h2.1, Nat.le_trans h2.2.1 (by decide), fun z H3 s3 hz => q z _ (((s0.trans s1).trans n2).trans s3) hz⟩
    | false => exact ⟨_, rfl, _, rfl, _, rfl, n, FF, _, _, v', none, rfl, hF2, hH2, I, by omega, hk, h2.1, Nat.le_trans h2.2.1 (by decide), fun z H3 s3 hz => q z _ (((s0.trans s1).trans n2).trans s3) hz⟩
theorem d_shape (A : At K mg "shape" sShape ["family"]) (D_need_family : DefAt P w K mg base 5 "need_family" ["value"] (spFam .non)) (D_shape_of : DefAt P w K mg base 124 "shape_of" ["family"] spShapeOf) :
    DefAt P w K mg base 125 "shape" ["family"] spShape := A.mk' fun f fd F => by
  refine F.ok scShape (fun vs H Q E h => ?_) (fun cdv A outer s H vs Q E hr h => ?_)
  · obtain ⟨n, FF, v, rfl, _⟩ := h; rfl
  · obtain ⟨n, FF, v, rfl, hF, I, hn, q⟩ := h
    refine ⟨_, (pss_cons (ps_expr (pCall D_need_family (hr.mono (by decide)) (pa_cons (pv 0) pa_nil)))
    (pss_one (ps_ret (pIx K (pCall D_shape_of (hr.mono (by decide)) (pa_cons (pv 0) pa_nil)) pe_int)))), ?_⟩
    refine ⟨_, rfl, n, FF, _, rfl, hF, I, by omega, fun H0 s0 => ?_⟩
    refine ⟨_, rfl, n, FF, _, rfl, hF.mono s0, I.toPre, hn, fun z H1 s1 ⟨t, hz, ht⟩ => ?_⟩
    subst hz
    exact ⟨t, _, _, .str (S (shapeOf n FF).1), rfl, rfl, .inr (SqT.of ht), rfl, q _ (s0.trans s1)⟩
theorem d_renamings (A : At K mg "renamings" sRenamings ["family"]) (D_need_family : DefAt P w K mg base 5 "need_family" ["value"] (spFam .non)) (D_shape_of : DefAt P w K mg base 124 "shape_of" ["family"] spShapeOf) :
    DefAt P w K mg base 125 "renamings" ["family"] spRen := A.mk' fun f fd F => by
  refine F.ok scRenamings (fun vs H Q E h => ?_) (fun cdv A outer s H vs Q E hr h => ?_)
  · obtain ⟨n, FF, v, rfl, _⟩ := h; rfl
  · obtain ⟨n, FF, v, rfl, hF, I, hn, q⟩ := h
    refine ⟨_, (pss_cons (ps_expr (pCall D_need_family (hr.mono (by decide)) (pa_cons (pv 0) pa_nil)))
    (pss_one (ps_ret (pIx K (pCall D_shape_of (hr.mono (by decide)) (pa_cons (pv 0) pa_nil)) pe_int)))), ?_⟩
    refine ⟨_, rfl, n, FF, _, rfl, hF, I, by omega, fun H0 s0 => ?_⟩
    refine ⟨_, rfl, n, FF, _, rfl, hF.mono s0, I.toPre, hn, fun z H1 s1 ⟨t, hz, ht⟩ => ?_⟩
    subst hz
    exact ⟨t, _, _, .int ((shapeOf n FF).2 : Nat), rfl, rfl, .inr (SqT.of ht), rfl, q _ (s0.trans s1)⟩
theorem d_same_shape (A : At K mg "same_shape" sSameShape ["one", "other"]) (D_need_family : DefAt P w K mg base 5 "need_family" ["value"] (spFam .non)) (D_shape_of : DefAt P w K mg base 124 "shape_of" ["family"] spShapeOf) :
    DefAt P w K mg base 125 "same_shape" ["one", "other"] spSame := A.mk' fun f fd F => by
  refine F.ok scSameShape (fun vs H Q E h => ?_) (fun cdv A outer s H vs Q E hr h => ?_)
  · obtain ⟨n, FF, v, m, G, u, rfl, _⟩ := h; rfl
  · obtain ⟨n, FF, v, m, G, u, rfl, hF, I, hn, hG, J, hm, q⟩ := h
    refine ⟨_, (pss_cons (ps_expr (pCall D_need_family (hr.mono (by decide)) (pa_cons (pv 0) pa_nil)))
    (pss_cons (ps_expr (pCall D_need_family (hr.mono (by decide)) (pa_cons (pv 1) pa_nil)))
    (pss_one (ps_ret (pe_cmpR (op_eq) (pIx K (pCall D_shape_of (hr.mono (by decide)) (pa_cons (pv 0) pa_nil)) pe_int) (pIx K (pCall D_shape_of (hr.mono (by decide)) (pa_cons (pv 1) pa_nil)) pe_int) (nomark _)))))), ?_⟩
    refine ⟨_, rfl, n, FF, _, rfl, hF, I, by omega, fun H0 s0 => ?_⟩
    refine ⟨_, rfl, m, G, _, rfl, hG.mono s0, J, by omega, fun H1 s1 => ?_⟩
    refine ⟨_, rfl, n, FF, _, rfl, (hF.mono s0).mono s1, I.toPre, hn, fun z H2 s2 ⟨t, hz, ht⟩ => ?_⟩
    subst hz
    refine ⟨t, _, _, .str (S (shapeOf n FF).1), rfl, rfl, .inr (SqT.of ht), rfl, ?_⟩
    refine ⟨_, rfl, m, G, _, rfl, ((hG.mono s0).mono s1).mono s2, J.toPre, hm, fun z H3 s3 ⟨t2, hz, ht2⟩ => ?_⟩
    subst hz
    refine ⟨t2, _, _, .str (S (shapeOf m G).1), rfl, rfl, .inr (SqT.of ht2), rfl, rfl, ?_⟩
    have e : decide (V.str (S (shapeOf n FF).1) = V.str (S (shapeOf m G).1)) = decide ((shapeOf n FF).1 = (shapeOf m G).1) := by
      by_cases c : (shapeOf n FF).1 = (shapeOf m G).1
      · rw [decide_eq_true c, c]
        exact decide_eq_true rfl
      · rw [decide_eq_false c]
        exact decide_eq_false fun z => c (S_inj.mp (V.str.inj z))
    rw [e]
    exact q _ ((s0.trans s1).trans (s2.trans s3))
theorem d_copies (A : At K mg "copies" sCopies ["family"]) (D_need_family : DefAt P w K mg base 5 "need_family" ["value"] (spFam .non)) (D_shape_of : DefAt P w K mg base 124 "shape_of" ["family"] spShapeOf) (D_size_of : DefAt P w K mg base 1 "size_of" ["bags"] spSize) (D_product_to : DefAt P w K mg base 1 "product_to" ["number"] spProd) :
    DefAt P w K mg base 125 "copies" ["family"] spCopies := A.mk' fun f fd F => by
  refine F.ok scCopies (fun vs H Q E h => ?_) (fun cdv A outer s H vs Q E hr h => ?_)
  · obtain ⟨n, FF, v, rfl, _⟩ := h; rfl
  · obtain ⟨n, FF, v, rfl, hF, I, hn, q⟩ := h
    refine ⟨_, (pss_cons (ps_expr (pCall D_need_family (hr.mono (by decide)) (pa_cons (pv 0) pa_nil)))
    (pss_one (ps_ret (pe_op op_fdivW (pCall D_product_to (hr.mono (by decide)) (pa_cons (pCall D_size_of (hr.mono (by decide)) (pa_cons (pv 0) pa_nil)) pa_nil)) (pIx K (pCall D_shape_of (hr.mono (by decide)) (pa_cons (pv 0) pa_nil)) pe_int))))), ?_⟩
    refine ⟨_, rfl, n, FF, _, rfl, hF, I, by omega, fun H0 s0 => ?_⟩
    refine ⟨_, rfl, n, FF, _, rfl, hF.mono s0, I.toPre, by omega, fun H1 s1 => ⟨n, rfl, by omega, ?_⟩⟩
    refine ⟨_, rfl, n, FF, _, rfl, (hF.mono s0).mono s1, I.toPre, hn, fun z H2 s2 ⟨t, hz, ht⟩ => ?_⟩
    subst hz
    obtain ⟨w1, w2⟩ := shape_ways I.toPre hn
    refine ⟨t, _, _, .int ((shapeOf n FF).2 : Nat), rfl, rfl, .inr (SqT.of ht), rfl, _, _, rfl, rfl, wide_div (b := 400) (by omega) ?_ (by decide) (by decide), ?_⟩
    · rw [Int.natAbs_natCast]
      rw [pow64] at w2
      exact Nat.lt_of_le_of_lt w2 (Nat.pow_lt_pow_right (by decide) (by decide))
    · show Q (.int (((fact n : Nat) : Int) / ((shapeOf n FF).2 : Nat))) H2
      rw [← Int.natCast_ediv]
      exact q _ ((s0.trans s1).trans s2)
end
end Sb

/-! W10: renamed, kinds. -/
namespace Sb
open PySem L2
abbrev sRenamed : Stmt := topS 31
theorem scRenamed : FnScope ["family", "names", "bead", "bag"] ["family", "names"] (defScope sRenamed) := ⟨rfl, rfl, rfl, by decide +kernel, rfl, by decide +kernel, by decide +kernel⟩
abbrev sKinds : Stmt := topS 32
theorem scKinds : FnScope ["family", "homes", "found", "bead", "some"] ["family"] (defScope sKinds) := ⟨rfl, rfl, rfl, by decide +kernel, rfl, by decide +kernel, by decide +kernel⟩
def spRenamed : Sp := fun vs H Q _ => ∃ n F v u σ, vs = [v, u] ∧ FamT H v F ∧ IsFam n F ∧ n ≤ 30 ∧ TupN H u σ ∧ IsPerm n σ ∧ ∀ z H', Same H H' → FamT H' z (named F σ) → Q z H'
def spKinds : Sp := fun vs H Q _ => ∃ n F v, vs = [v] ∧ FamT H v F ∧ IsFam n F ∧ n ≤ 30 ∧ ∀ z H', Same H H' → FamT H' z (kindsOf n F) → Q z H'
theorem rgV_nat (n : Nat) : rgV 0 (n : Int) = iv (List.range n) := by
  unfold rgV iv
  refine List.map_congr_left fun i _ => ?_
  rw [Int.zero_add]
theorem sort_perm {n : Nat} {σ : List Nat} (p : IsPerm n σ) : sortN σ = List.range n := sortN_eq p (List.pairwise_lt_range.imp Nat.le_of_lt)
theorem tupn_upd2 {H : Hp} {v : V} {l : List Nat} {d : Addr} {o' : Obj} {u : HO} (h : TupN H v l) (hd : H d = some (.frz o' u)) (o : HO) : TupN (upd H d o) v l := by
  obtain ⟨a, rfl, e⟩ := h
  exact ⟨a, rfl, by rw [upd_ne (ne_of e hd (by intro q; cases q))]; exact e⟩
section
variable {P : Program} {w : World} {K : PySem.W.Frag} {mg : Str → Option Value} {base : Heap}
theorem d_renamed (A : At K mg "renamed" sRenamed ["family", "names"]) (T : Bi mg) (D_need_family : DefAt P w K mg base 5 "need_family" ["value"] (spFam .non)) (D_is_int : DefAt P w K mg base 1 "is_int" ["value"] spIsInt) (D_size_of : DefAt P w K mg base 1 "size_of" ["bags"] spSize) :
    DefAt P w K mg base 6 "renamed" ["family", "names"] spRenamed := A.mk' fun f fd F => by
  refine F.ok scRenamed (fun vs H Q E h => ?_) (fun cdv A outer s H vs Q E hr h => ?_)
  · obtain ⟨n, FF, v, u, σ, rfl, _⟩ := h; rfl
  · obtain ⟨n, FF, v, u, σ, rfl, hF, I, hn, ⟨b, rfl, hb⟩, hσ, q⟩ := h
    refine ⟨_, (pss_cons (ps_expr (pCall D_need_family (hr.mono (by decide)) (pa_cons (pv 0) pa_nil)))
    (pss_cons (ps_if (PW.pt (pw_or (pt_not (pt_val (pIsinst (cIsi K) T.isinstance (pv 1) (pTy T.tuple rfl)))) (pw_or1 (pt_not (pt_val (pAll (cAll K) T.all (pLcX [("bead", 2)] scRenamed.nd (piSeq K (pv 1)) (N := ["family", "names", "bead", "bag"]) (sc := (defScope sRenamed)) (by decide +kernel) (fun _ _ _ _ _ => (pgN 2 scRenamed.nd)) (fun _ _ _ _ _ => pts_nil) (fun _ _ _ _ _ => (pCall D_is_int (hr.mono (by decide)) (pa_cons (pv 2) pa_nil)))))))))) (pss_one ps_never) pss_nil)
    (pss_cons (ps_if (pt_cmpR (oNeD K hr) (pSorted (cSortTN K) T.sorted (pv 1)) (pe_listRg rfl rfl T.list (prg_1 rfl T.range (pCall D_size_of (hr.mono (by decide)) (pa_cons (pv 0) pa_nil)))) (nomark _)) (pss_one ps_never) pss_nil)
    (pss_one (ps_ret (pTuple (cTup K) T.tuple (pSorted (cSortT K hr) T.sorted (pLcX [("bag", 3)] scRenamed.nd (piSeq K (pv 0)) (N := ["family", "names", "bead", "bag"]) (sc := (defScope sRenamed)) (by decide +kernel) (fun _ _ _ _ _ => (pgN 3 scRenamed.nd)) (fun _ _ _ _ _ => pts_nil) (fun _ _ _ _ _ => (pTuple (cTup K) T.tuple (pSorted (cSortN K) T.sorted (pLcX [("bead", 2)] scRenamed.nd (piSeq K (pv 3)) (N := ["family", "names", "bead", "bag"]) (sc := ⟨.function, [(".0", .local), ("bag", .local), ("tuple", .globalImplicit), ("sorted", .globalImplicit), ("names", .cell)], false, false, []⟩) (by decide +kernel) (fun _ _ _ _ _ => (pgN 2 scRenamed.nd)) (fun _ _ _ _ _ => pts_nil) (fun _ _ _ _ _ => (pIx K (pv 1) (pv 2))))))))))))))), ?_⟩
    have hsl := hσ.len
    refine ⟨_, rfl, n, FF, _, rfl, hF, I, by omega, fun H0 s0 => ?_⟩
    have hb0 := s0 _ _ hb
    refine ⟨_, rfl, _, _, _, _, true, rfl, .ty _, .base (.tup hb0), kit_ty (by decide +kernel), true, rfl, ?_⟩
    obtain ⟨J, hw, sel⟩ := seq_sel (K := K) (.inr hb0)
    refine ⟨_, rfl, b, rfl, sel _ fun D hD => lc_fm hw (RV0 V.bl) (fun i => some true) hD (fun _ e => e) YAt.same (fun _ _ _ _ _ r => r) (fun _ _ _ _ _ _ r => r) (by rw [iv_length]; omega) ?_ ?_⟩
    · rintro i x H1 H2 Q1 Q0 hi s1 ⟨rfl, hx⟩ k1 k0
      obtain ⟨c, hc, rfl⟩ := of_iv_get hx
      exact ⟨rfl, _, rfl, _, rfl, k1 _ _ _ rfl (Same.refl _) rfl⟩
    intro H1 ys s1 hD1 hy
    rw [rV_map hy] at hD1
    refine ⟨D, _, rfl, SqL.of hD1, true, by rw [all_some fun _ => rfl], ?_⟩
    have hb1 := s1 _ _ hb0
    refine ⟨_, rfl, b, σ, rfl, SqT.of hb1, by omega, fun p np => ?_⟩
    have n1 := Same.new np (.lst (iv (sortN σ)))
    refine ⟨_, rfl, n, FF, _, rfl, (hF.mono s0).mono (s1.trans n1), I.toPre, by omega, fun H2 s2 => ⟨n, rfl, RgOk.of_le (by omega) (by omega) (by omega) (by omega), fun p2 np2 => ?_⟩⟩
    rw [rgV_nat]
    have n2 := Same.new np2 (.lst (iv (List.range n)))
    refine ⟨.list ((sortN σ).map dI), .list ((List.range n).map dI), .lst (SqL.of (n2 _ _ (s2 _ _ upd_same))) (dpAll_iv _), .lst (SqL.of upd_same) (dpAll_iv _), shaped_iv _, shaped_iv _, false, ?_, ?_⟩
    · rw [sort_perm hσ, eqv_list, eqvAll_map eqv_I, decide_eq_true rfl]
      rfl
    have s3 : Same H (upd H2 p2 (.lst (iv (List.range n)))) := (s0.trans s1).trans (n1.trans (s2.trans n2))
    have hF3 := hF.mono s3
    generalize upd H2 p2 (.lst (iv (List.range n))) = H3 at s3 hF3
    obtain ⟨a, us, rfl, ha, hp⟩ := hF3
    have hb3 := s3 _ _ hb
    have hul : us.length = FF.length := plen hp
    have hlen := I.len
    obtain ⟨J1, hw1, sel1⟩ := seq_sel (K := K) (.inr ha)
    refine ⟨_, rfl, a, rfl, sel1 _ fun D hD => lc_fm hw1 TupN (fun i => (FF[i]?).map (nm σ)) hD (fun _ e => e) YAt.same (fun _ _ _ _ e r => r.mono e) (fun _ _ _ _ _ hD r => r.upd hD) (by omega) ?_ ?_⟩
    · rintro i x H4 H5 Q1 Q0 hi s4 ⟨rfl, hx⟩ k1 k0
      refine ⟨rfl, ?_⟩
      obtain ⟨bag, hbag, c, rfl, hc⟩ := pget hp hx
      have hbm := List.mem_of_getElem? hbag
      have hB := I.bags bag hbm
      have hbl := I.blen hbm
      obtain ⟨J', hw', sel'⟩ := seq_sel (K := K) (.inr (s4 _ _ hc))
      refine ⟨_, rfl, c, rfl, sel' _ fun D' hD' => lc_fm hw' (RV0 fun b : Nat => V.int (b : Int)) (fun i => (bag[i]?).map fun b => σ.getD b 0) hD' (fun _ e => e) YAt.same (fun _ _ _ _ _ r => r) (fun _ _ _ _ _ _ r => r) (by rw [iv_length]; omega) ?_ ?_⟩
      · rintro j y H6 H7 Q3 Q4 hj s6 ⟨rfl, hy⟩ k3 k4
        refine ⟨rfl, ?_⟩
        obtain ⟨b', hb', rfl⟩ := of_iv_get hy
        have hbn : b' < n := hB.2.2 b' (List.mem_of_getElem? hb')
        refine ⟨_, rfl, _, rfl, b, _, _, _, rfl, rfl, .inr (SqT.of (s6 _ _ (s4 _ _ hb3))), atI_nat (iv_get (hσ.get hbn)), ?_⟩
        exact k3 _ _ _ (by rw [hb']; rfl) (Same.refl _) rfl
      · intro H6 ys s6 hDy hy
        have e := rv0_list hy
        rw [iv_length, range_map_some (g := fun b => σ.getD b 0) (fun i b hb => by rw [hb]; rfl)] at e
        have e' : ys = iv (bag.map fun b => σ.getD b 0) := e
        subst e'
        refine ⟨D', _, rfl, SqL.of hDy, by rw [List.length_map]; omega, fun p np => ⟨p, _, rfl, .inl ⟨SqL.of upd_same, fun t nt => ?_⟩⟩⟩
        refine k1 _ _ (nm σ bag) (by rw [hbag]; rfl) ?_ ⟨t, rfl, upd_same⟩
        exact s6.trans ((Same.new np _).trans (Same.new nt _))
    · intro H4 ys s4 hDy hy
      rw [hul, range_map_some (g := nm σ) (fun i b hb => by rw [hb]; rfl)] at hy
      refine ⟨D, ys, FF.map (nm σ), rfl, SqL.of hDy, hy, fun b hb => ?_, by rw [List.length_map]; omega, fun zs p hz np => ⟨p, zs, rfl, .inl ⟨SqL.of upd_same, fun t nt => ?_⟩⟩⟩
      · obtain ⟨bag, hbm, rfl⟩ := List.mem_map.mp hb
        intro e
        have := nm_length (σ := σ) (bag := bag)
        rw [e] at this
        have hB := (I.bags bag hbm).2.1
        simp at this
        omega
      · have s5 := Same.new np (.lst zs)
        have s6 := Same.new nt (.tup zs)
        exact q _ _ (s3.trans (s4.trans (s5.trans s6))) ⟨t, zs, rfl, upd_same, pmono (fun _ _ r => (r.mono s5).mono s6) hz⟩
/-- the groups: at d the dict of texts to lists, g telling what the lists hold -/
structure Grp (H0 H : Hp) (d : Addr) (us : List (List Nat)) (cs : List Addr) (g : List Nat → List Nat) : Prop where
  s : Same H0 H
  d0 : H0 d = none
  hd : H d = some (.dK ((us.zip cs).map fun p => (kS p.1, V.ref p.2)))
  len : cs.length = us.length
  nd : cs.Nodup
  un : us.Nodup
  ne : ∀ c ∈ cs, H0 c = none
  row : ∀ (i : Nat) (t : List Nat) (c : Addr), us[i]? = some t → cs[i]? = some c → H c = some (.lst (iv (g t)))
theorem get_idxOf {t : List Nat} : ∀ {us : List (List Nat)}, t ∈ us → us[us.idxOf t]? = some t
  | [], h => by cases h
  | u :: us, h => by
    by_cases e : u = t
    · subst e
      simp [List.idxOf_cons]
    · have e2 : (u == t) = false := by simp [e]
      have ih := get_idxOf (t := t) (us := us) ((List.mem_cons.mp h).resolve_left fun z => e z.symm)
      simp [List.idxOf_cons, e2, ih]
theorem valV_zip {us : List (List Nat)} {cs : List Addr} {t : List Nat} : ∀ (hl : cs.length = us.length), valV ((us.zip cs).map fun p => (kS p.1, V.ref p.2)) (kS t) = if t ∈ us then (cs[us.idxOf t]?).map V.ref else none := by
  induction us generalizing cs with
  | nil => intro _; rfl
  | cons u us ih =>
    intro hl
    cases cs with
    | nil => simp at hl
    | cons c cs =>
      have hl' : cs.length = us.length := by simpa using hl
      show valV ((kS u, V.ref c) :: (us.zip cs).map fun p => (kS p.1, V.ref p.2)) (kS t) = _
      by_cases e : u = t
      · subst e
        rw [valV_pos rfl]
        simp
      · rw [valV_neg (fun z => e (kS_inj.mp z)), ih hl']
        have e' : ¬ t = u := fun z => e z.symm
        have e2 : (u == t) = false := by simp [e]
        simp [List.mem_cons, e', List.idxOf_cons, e2]
theorem d_kinds (A : At K mg "kinds" sKinds ["family"]) (T : Bi mg) (D_need_family : DefAt P w K mg base 5 "need_family" ["value"] (spFam .non)) (D_homes_of : DefAt P w K mg base 2 "homes_of" ["bags"] spHomes) (D_size_of : DefAt P w K mg base 1 "size_of" ["bags"] spSize)
    (D_text_under : DefAt P w K mg base 123 "text_under" ["family", "homes", "bead", "above"] (spTx 120 true)) :
    DefAt P w K mg base 124 "kinds" ["family"] spKinds := A.mk' fun f fd F => by
  refine F.ok scKinds (fun vs H Q E h => ?_) (fun cdv A outer s H vs Q E hr h => ?_)
  · obtain ⟨n, FF, v, rfl, _⟩ := h; rfl
  · obtain ⟨n, FF, v, rfl, hF, I, hn, q⟩ := h
    refine ⟨_, (pss_cons (ps_expr (pCall D_need_family (hr.mono (by decide)) (pa_cons (pv 0) pa_nil)))
    (pss_cons (ps_par (i := 1) (j := 2) rfl scKinds.nd rfl rfl (by decide) rfl rfl (pa_cons (pCall D_homes_of (hr.mono (by decide)) (pa_cons (pv 0) pa_nil)) (pa_cons pe_dnewK pa_nil)) rfl)
    (pss_cons (ps_for PassesOwn.never rfl (pi_range1 rfl T.range (pa_cons (pCall D_size_of (hr.mono (by decide)) (pa_cons (pv 0) pa_nil)) pa_nil)) (pg_name (i := 3) scKinds.nd rfl (Or.inl rfl))
      (pss_one (ps_expr (pe_bm PySem.F.plainAttrs_list PySem.F.slot_list_append PySem.F.type_list_append mt_append (pe_dsetd (pv 2) (pIx K (pCall D_text_under (hr) (pa_cons (pv 0) (pa_cons (pv 1) (pa_cons (pv 3) (pa_cons pe_non pa_nil))))) pe_int) (pe_lst pa_nil) ⟨by rfl, by rfl, by rfl, by rfl⟩) (pa_cons (pv 3) pa_nil)))))
    (pss_one (ps_ret (pTuple (cTup K) T.tuple (pSorted (cSortT K hr) T.sorted (pe_lock (pLcX [("some", 4)] scKinds.nd (pi_values (pv 2)) (N := ["family", "homes", "found", "bead", "some"]) (sc := (defScope sKinds)) (by decide +kernel) (fun _ _ _ _ _ => (pgN 4 scKinds.nd)) (fun _ _ _ _ _ => pts_nil) (fun _ _ _ _ _ => (pTuple (cTup K) T.tuple (pv 4)))))))))))), ?_⟩
    refine ⟨_, rfl, n, FF, _, rfl, hF, I, by omega, fun H0 s0 => ?_⟩
    refine ⟨_, rfl, n, FF, _, rfl, hF.mono s0, I.toPre, by omega, fun hz H1 s1 hH => ?_⟩
    refine fun d hd => ⟨_, _, rfl, ?_⟩
    have nd := Same.new hd (.dK [])
    have hF1 := hF.mono (s0.trans s1)
    refine ⟨_, rfl, n, FF, _, rfl, hF1.mono nd, I.toPre, by omega, fun H2 s2 => ⟨n, rfl, by omega, by omega, for_it (walk_range (lo := 0) (n := n))
      (fun i σ H' => ∃ a3, σ = [some v, some hz, some (.ref d), a3, none] ∧ ∃ cs, Grp H1 H' d (uniq ((List.range i).map (beadText n FF))) cs fun t => (List.range i).filter fun b => decide (beadText n FF b = t))
      ⟨_, rfl, [], nd.trans s2, hd, s2 _ _ upd_same, rfl, List.nodup_nil, List.nodup_nil, by simp, fun i t c h => by cases h⟩ (fun _ _ _ _ _ => trivial) ?_ ?_⟩⟩
    · rintro i x σ H3 H4 hi ⟨a3, rfl, cs, G⟩ ⟨rfl, rfl⟩
      have ei : (0 : Int) + (i : Int) = (i : Nat) := Int.zero_add _
      show gName 3 (V.int (0 + (i : Int))) _ _ _
      rw [ei]
      have ht := I.toPre.text hn (k := true) (v := i) (u := none) hi
      have etx : beadText n FF i = (tx (nbOf FF) 120 true i none).1 := by unfold beadText; rw [ht.2.2]
      refine ⟨_, rfl, d, rfl, .inl ⟨_, .inl G.hd⟩, ?_⟩
      refine ⟨_, rfl, _, rfl, _, rfl, n, FF, _, _, i, none, rfl, hF1.mono G.s, hH.mono G.s, I.toPre, by omega, hi, ht.1, Nat.le_trans ht.2.1 (by decide), fun z H5 s5 ⟨t, hz', htz⟩ => ?_⟩
      subst hz'
      refine ⟨t, _, _, .str (S (beadText n FF i)), rfl, rfl, .inr (SqT.of htz), by rw [etx]; rfl, Nat.zero_le _, fun l hl => ?_⟩
      have s6 := s5.trans (Same.new hl (.lst []))
      have hd6 := s6 _ _ G.hd
      have hul : (uniq ((List.range i).map (beadText n FF))).length ≤ i := by
        have h1 := sum_count_le (uniq ((List.range i).map (beadText n FF))) ((List.range i).map (beadText n FF)) (nodup_uniq _)
        have h3 := sum_ones (fun u => ((List.range i).map (beadText n FF)).count u) (uniq ((List.range i).map (beadText n FF))) fun x hx => List.count_pos_iff.mpr (mem_uniq.mp hx)
        rw [List.length_map, List.length_range] at h1
        omega
      have eu : uniq ((List.range (i + 1)).map (beadText n FF)) = if beadText n FF i ∈ uniq ((List.range i).map (beadText n FF)) then uniq ((List.range i).map (beadText n FF)) else uniq ((List.range i).map (beadText n FF)) ++ [beadText n FF i] := by
        rw [List.range_succ, List.map_append]
        by_cases m : beadText n FF i ∈ uniq ((List.range i).map (beadText n FF))
        · rw [if_pos m]
          exact (uniq_snoc ((List.range i).map (beadText n FF)) (beadText n FF i)).trans (if_pos m)
        · rw [if_neg m]
          exact (uniq_snoc ((List.range i).map (beadText n FF)) (beadText n FF i)).trans (if_neg m)
      have ef : ∀ t, (List.range (i + 1)).filter (fun b => decide (beadText n FF b = t)) = (List.range i).filter (fun b => decide (beadText n FF b = t)) ++ if beadText n FF i = t then [i] else [] := fun t => by
        rw [List.range_succ, List.filter_append]
        congr 1
        by_cases c : beadText n FF i = t <;> simp [c]
      have hgl : ∀ t, ((List.range i).filter fun b => decide (beadText n FF b = t)).length ≤ i := fun t => by
        have := List.length_filter_le (fun b => decide (beadText n FF b = t)) (List.range i)
        rw [List.length_range] at this
        exact this
      refine ⟨_, kS (beadText n FF i), hd6, rfl, by rw [List.length_map, List.length_zip, G.len, sizeLine_eq]; omega, fun v' hv' => ?_, fun hv' => ?_⟩
      · -- the text is known
        rw [valV_zip G.len] at hv'
        by_cases m : beadText n FF i ∈ uniq ((List.range i).map (beadText n FF))
        · rw [if_pos m] at hv'
          obtain ⟨c, hc, rfl⟩ := Option.map_eq_some_iff.mp hv'
          have hti : (uniq ((List.range i).map (beadText n FF)))[(uniq ((List.range i).map (beadText n FF))).idxOf (beadText n FF i)]? = some (beadText n FF i) := get_idxOf m
          have hrow := s6 _ _ (G.row _ _ _ hti hc)
          have hcm := List.mem_of_getElem? hc
          refine ⟨.inl ⟨rfl, _, SqL.of hrow⟩, _, rfl, c, _, _, rfl, rfl, hrow, by rw [iv_length, sizeLine_eq]; have := hgl (beadText n FF i); omega, ?_⟩
          refine ⟨_, rfl, cs, ?_⟩
          rw [eu, if_pos m]
          have hdc : d ≠ c := ne_of hd6 hrow (by intro q; cases q)
          refine ⟨Same.upd_ (G.s.trans s6) (G.ne c hcm) _, G.d0, by rw [upd_ne hdc]; exact hd6, G.len, G.nd, G.un, G.ne, fun j t' c' h1 h2 => ?_⟩
          rw [ef t']
          by_cases e : beadText n FF i = t'
          · subst e
            have hj : j = (uniq ((List.range i).map (beadText n FF))).idxOf (beadText n FF i) := nd_inj G.un h1 hti
            subst hj
            rw [hc] at h2
            rw [← Option.some.inj h2, upd_same, if_pos rfl, iv_append]
            rfl
          · have hne : c' ≠ c := fun z => by
              subst z
              have hj := nd_inj G.nd h2 hc
              subst hj
              rw [hti] at h1
              exact e (Option.some.inj h1)
            rw [upd_ne hne, if_neg e, List.append_nil]
            exact s6 _ _ (G.row j t' c' h1 h2)
        · rw [if_neg m] at hv'
          cases hv'
      · -- a new text
        rw [valV_zip G.len] at hv'
        have m : beadText n FF i ∉ uniq ((List.range i).map (beadText n FF)) := fun m => by
          rw [if_pos m] at hv'
          have hlt : (uniq ((List.range i).map (beadText n FF))).idxOf (beadText n FF i) < cs.length := by rw [G.len]; exact List.idxOf_lt_length_of_mem m
          rw [List.getElem?_eq_getElem hlt] at hv'
          cases hv'
        have hdl : d ≠ l := ne_of_none (s5 _ _ G.hd) hl
        have h0l : H1 l = none := by
          cases e : H1 l with
          | none => rfl
          | some o => rw [s5 _ _ (G.s _ _ e)] at hl; cases hl
        have hrow : upd (upd H5 l (.lst [])) d (.dK (putK ((((uniq ((List.range i).map (beadText n FF))).zip cs)).map fun p => (kS p.1, V.ref p.2)) (kS (beadText n FF i)) (.ref l))) l = some (.lst []) := by
          rw [upd_ne hdl.symm, upd_same]
        refine ⟨.inl ⟨rfl, _, SqL.of hrow⟩, _, rfl, l, _, _, rfl, rfl, hrow, by show 0 < sizeLine; rw [sizeLine_eq]; decide, ?_⟩
        refine ⟨_, rfl, cs ++ [l], ?_⟩
        rw [eu, if_neg m]
        have hlen1 : (cs ++ [l]).length = (uniq ((List.range i).map (beadText n FF)) ++ [beadText n FF i]).length := by rw [List.length_append, List.length_append, G.len]; rfl
        have nlc : ∀ c ∈ cs, c ≠ l := fun c hcm z => by
          obtain ⟨j, hj⟩ := List.getElem?_of_mem hcm
          have hjl := (List.getElem?_eq_some_iff.mp hj).1
          have hju : j < (uniq ((List.range i).map (beadText n FF))).length := by rw [← G.len]; exact hjl
          have := s5 _ _ (G.row j _ c (List.getElem?_eq_getElem hju) hj)
          rw [z, hl] at this
          cases this
        refine ⟨Same.upd_ (Same.upd_ (G.s.trans s6) G.d0 _) h0l _, G.d0, ?_, hlen1, ?_, ?_, fun c hc => ?_, fun j t' c' h1 h2 => ?_⟩
        · rw [upd_ne hdl, upd_same, putK_new _ (by rw [valV_zip G.len, if_neg m]), List.zip_append G.len.symm, List.map_append]
          rfl
        · exact List.nodup_append.mpr ⟨G.nd, by simp, fun x hx y hy => by rw [List.mem_singleton.mp hy]; exact nlc x hx⟩
        · exact nodup_snoc G.un m
        · rcases List.mem_append.mp hc with h | h
          · exact G.ne c h
          · rw [List.mem_singleton.mp h]; exact h0l
        · rw [ef t']
          rw [List.getElem?_append] at h1 h2
          by_cases hj : j < cs.length
          · rw [if_pos (by rw [← G.len]; exact hj)] at h1
            rw [if_pos hj] at h2
            have hcm := List.mem_of_getElem? h2
            have hrw := s5 _ _ (G.row j t' c' h1 h2)
            have hne : beadText n FF i ≠ t' := fun z => m (z ▸ List.mem_of_getElem? h1)
            have hcd : c' ≠ d := ne_of hrw (s5 _ _ G.hd) (by intro q; cases q)
            rw [upd_ne (nlc c' hcm), upd_ne hcd, upd_ne (nlc c' hcm), if_neg hne, List.append_nil]
            exact hrw
          · rw [if_neg (by rw [← G.len]; exact hj)] at h1
            rw [if_neg hj] at h2
            have e1 : t' = beadText n FF i := List.mem_singleton.mp (List.mem_of_getElem? h1)
            have e2 : c' = l := List.mem_singleton.mp (List.mem_of_getElem? h2)
            subst e1 e2
            rw [upd_same, if_pos rfl]
            have e3 : (List.range i).filter (fun b => decide (beadText n FF b = beadText n FF i)) = [] := List.filter_eq_nil_iff.mpr fun b hb => by
              have hb' := List.mem_range.mp hb
              intro z
              exact m (mem_uniq.mpr (List.mem_map.mpr ⟨b, hb, of_decide_eq_true z⟩))
            rw [e3]
            rfl
    · rintro σ H3 ⟨a3, rfl, cs, G⟩
      have hul : (uniq ((List.range n).map (beadText n FF))).length ≤ n := by
        have h1 := sum_count_le (uniq ((List.range n).map (beadText n FF))) ((List.range n).map (beadText n FF)) (nodup_uniq _)
        have h3 := sum_ones (fun u => ((List.range n).map (beadText n FF)).count u) (uniq ((List.range n).map (beadText n FF))) fun x hx => List.count_pos_iff.mpr (mem_uniq.mp hx)
        rw [List.length_map, List.length_range] at h1
        omega
      generalize hus : uniq ((List.range n).map (beadText n FF)) = us at G hul
      have hzl : (((us.zip cs).map fun p => (kS p.1, V.ref p.2))).length = us.length := by rw [List.length_map, List.length_zip, G.len, Nat.min_self]
      refine ⟨d, _, G.hd, trivial, fun od => ⟨_, rfl, d, od, _, rfl, upd_same, fun D hD => lc_fm ((walk_values (d := d) (o := od) (kvs := (us.zip cs).map fun p => (kS p.1, V.ref p.2))).mono (G' := Same (upd H3 d (.frz od (.dK ((us.zip cs).map fun p => (kS p.1, V.ref p.2)))))) (fun H' e => e _ _ upd_same) (fun _ _ _ _ _ _ y => y))
        TupN (fun i => (us[i]?).map fun t => (List.range n).filter fun b => decide (beadText n FF b = t)) hD (fun _ e => e) (fun i H x H' y => by rw [y.1]; exact Same.refl _) (fun _ _ _ _ e r => r.mono e) (fun _ _ _ _ _ hD r => r.upd hD) (by rw [hzl]; omega) ?_ ?_⟩⟩
      · rintro i x H4 H5 Q1 Q0 hi s4 ⟨rfl, k, hk⟩ k1 k0
        rw [hzl] at hi
        have hic : i < cs.length := by rw [G.len]; exact hi
        have h1 : us[i]? = some us[i] := List.getElem?_eq_getElem hi
        have h2 : cs[i]? = some cs[i] := List.getElem?_eq_getElem hic
        have hz2 : (us.zip cs)[i]? = some (us[i], cs[i]) := by rw [List.getElem?_zip_eq_some]; exact ⟨h1, h2⟩
        rw [List.getElem?_map, hz2] at hk
        cases hk
        have hrow := G.row i _ _ h1 h2
        have hne : cs[i] ≠ d := ne_of hrow G.hd (by intro q; cases q)
        have hrow2 := s4 _ _ (by rw [upd_ne hne]; exact hrow)
        refine ⟨rfl, _, rfl, cs[i], _, rfl, .inl ⟨SqL.of hrow2, fun t nt => ?_⟩⟩
        exact k1 _ _ _ (by rw [h1]; rfl) (Same.new nt _) ⟨t, rfl, upd_same⟩
      · intro H4 ys s4 hDy hy
        have hd4 := s4 _ _ upd_same
        refine ⟨hd4, ?_⟩
        rw [hzl, range_map_some (g := fun t => (List.range n).filter fun b => decide (beadText n FF b = t)) (fun i b hb => by rw [hb]; rfl)] at hy
        have hDd : D ≠ d := fun z => by
          rw [z, upd_same] at hD
          cases hD
        have s5 : Same H1 (upd H4 d (.dK ((us.zip cs).map fun p => (kS p.1, V.ref p.2)))) := Same.upd_ ((Same.upd_ G.s G.d0 _).trans s4) G.d0 _
        refine ⟨D, ys, _, rfl, SqL.of (by rw [upd_ne hDd]; exact hDy), pmono (fun _ _ r => tupn_upd2 r hd4 _) hy, fun b hb => ?_, by rw [List.length_map]; omega, fun zs p hz' np => ⟨p, zs, rfl, .inl ⟨SqL.of upd_same, fun t nt => ?_⟩⟩⟩
        · obtain ⟨t, ht, rfl⟩ := List.mem_map.mp hb
          rw [← hus] at ht
          obtain ⟨b, hb2, rfl⟩ := List.mem_map.mp (mem_uniq.mp ht)
          intro e
          have : b ∈ (List.range n).filter fun b' => decide (beadText n FF b' = beadText n FF b) := List.mem_filter.mpr ⟨hb2, by simp⟩
          rw [e] at this
          cases this
        · have s6 := Same.new np (.lst zs)
          have s7 := Same.new nt (.tup zs)
          have e : kindsOf n FF = sortL (us.map fun t => (List.range n).filter fun b => decide (beadText n FF b = t)) := by unfold kindsOf; rw [hus]
          refine q _ _ ((s0.trans s1).trans (s5.trans (s6.trans s7))) ?_
          rw [e]
          exact ⟨t, zs, rfl, upd_same, pmono (fun _ _ r => (r.mono s6).mono s7) hz'⟩
end
end Sb

/-! W11: the draws. -/
namespace Sb
open PySem L2
abbrev sLawTaken : Stmt := topS 34
theorem scLawTaken : FnScope ["_law_row", "_law_many", "_law_found", "_law_cell"] ["_law_row", "_law_many"] (defScope sLawTaken) := ⟨rfl, rfl, rfl, by decide +kernel, rfl, by decide +kernel, by decide +kernel⟩
abbrev sLawPick : Stmt := topS 35
theorem scLawPick : FnScope ["_law_row", "_law_things"] ["_law_row", "_law_things"] (defScope sLawPick) := ⟨rfl, rfl, rfl, by decide +kernel, rfl, by decide +kernel, by decide +kernel⟩
abbrev sLawMixed : Stmt := topS 37
theorem scLawMixed : FnScope ["_law_row", "_law_some", "_law_left", "_law_found", "_law_turn"] ["_law_row", "_law_some"] (defScope sLawMixed) := ⟨rfl, rfl, rfl, by decide +kernel, rfl, by decide +kernel, by decide +kernel⟩
abbrev sLawSize : Stmt := topS 40
theorem scLawSize : FnScope ["_law_family_here", "_law_bag"] ["_law_family_here"] (defScope sLawSize) := ⟨rfl, rfl, rfl, by decide +kernel, rfl, by decide +kernel, by decide +kernel⟩
/-- all stays but what is at r -/
def SameB (r : Addr) (H H' : Hp) : Prop := ∀ b o, b ≠ r → H b = some o → H' b = some o
theorem SameB.refl {r : Addr} {H : Hp} : SameB r H H := fun _ _ _ h => h
theorem SameB.trans {r : Addr} {A B C : Hp} (h : SameB r A B) (h' : SameB r B C) : SameB r A C := fun b o n q => h' b o n (h b o n q)
theorem SameB.of {r : Addr} {A B : Hp} (h : Same A B) : SameB r A B := fun b o _ q => h b o q
theorem SameB.put {r : Addr} {A B : Hp} (h : SameB r A B) (o : HO) : SameB r A (upd B r o) := fun b o' n q => by
  rw [upd_ne n]
  exact h b o' n q
theorem SameB.get {r : Addr} {A B : Hp} (h : SameB r A B) {b : Addr} {o : HO} (q : A b = some o) (hr : A r ≠ some o) : B b = some o := h b o (fun z => hr (by rw [← z]; exact q)) q
theorem SameB.free {r : Addr} {A B : Hp} (h : SameB r A B) {p : Addr} (hp : B p = none) : p = r ∨ A p = none := by
  by_cases e : p = r
  · exact .inl e
  · refine .inr ?_
    cases q : A p with
    | none => rfl
    | some o => rw [h p o e q] at hp; cases hp
/-- the row of draws, over the script at s -/
structure Row (K : PySem.W.Frag) (H : Hp) (r s : Addr) (ns : List Int) : Prop where
  row : ∃ (i : Nat) (seed rest : Int), 0 ≤ seed ∧ seed < 2147483647 ∧ 0 ≤ rest ∧ H r = some (.lst [.ref s, .int (i : Int), .int seed, .int rest])
  scr : SqL K H s (ns.map V.int)
  ne : s ≠ r
theorem seqL_sameB {K : PySem.W.Frag} {r a : Addr} {H H' : Hp} {xs : List V} (h : SameB r H H') (n : a ≠ r) (q : SqL K H a xs) : SqL K H' a xs := by
  rcases q with (q | ⟨o, q⟩) | q
  · exact .inl (.inl (h _ _ n q))
  · exact .inl (.inr ⟨o, h _ _ n q⟩)
  · exact .inr q
theorem Row.same {K : PySem.W.Frag} {H H' : Hp} {r s : Addr} {ns : List Int} (R : Row K H r s ns) (e : Same H H') : Row K H' r s ns := by
  obtain ⟨i, sd, rs, h1, h2, h3, h4⟩ := R.row
  exact ⟨⟨i, sd, rs, h1, h2, h3, e _ _ h4⟩, e.seq R.scr, R.ne⟩
theorem Row.put {K : PySem.W.Frag} {H : Hp} {r s : Addr} {ns : List Int} (R : Row K H r s ns) {i : Nat} {seed rest : Int} (h1 : 0 ≤ seed) (h2 : seed < 2147483647) (h3 : 0 ≤ rest) : Row K (upd H r (.lst [.ref s, .int (i : Int), .int seed, .int rest])) r s ns :=
  ⟨⟨i, seed, rest, h1, h2, h3, upd_same⟩, seqL_sameB (SameB.refl.put _) R.ne R.scr, R.ne⟩
theorem TupN.sameB {r : Addr} {H H' : Hp} {v : V} {l : List Nat} (h : TupN H v l) (e : SameB r H H') {xs : List V} (hr : H r = some (.lst xs)) : TupN H' v l := by
  obtain ⟨a, rfl, q⟩ := h
  exact ⟨a, rfl, e _ _ (ne_of q hr (by intro z; cases z)) q⟩
theorem FamT.sameB {r : Addr} {H H' : Hp} {v : V} {F : Fam} (h : FamT H v F) (e : SameB r H H') {xs : List V} (hr : H r = some (.lst xs)) : FamT H' v F := by
  obtain ⟨a, vs, rfl, q, p⟩ := h
  exact ⟨a, vs, rfl, e _ _ (ne_of q hr (by intro z; cases z)) q, pmono (fun _ _ z => z.sameB e hr) p⟩
def spTaken (K : PySem.W.Frag) : Sp := fun vs H Q _ => ∃ r s ns, ∃ many : Nat, vs = [.ref r, .int (many : Int)] ∧ Row K H r s ns ∧ 1 ≤ many ∧ many ≤ 1000 ∧ ∀ (t : Nat) H', t < many → SameB r H H' → Row K H' r s ns → Q (.int (t : Int)) H'
theorem emod_nat {i : Int} {m : Nat} (h : 1 ≤ m) : ∃ t : Nat, i % (m : Int) = (t : Int) ∧ t < m := by
  have h1 := Int.emod_nonneg i (b := (m : Int)) (by omega)
  have h2 := Int.emod_lt_of_pos i (b := (m : Int)) (by omega)
  exact ⟨(i % (m : Int)).toNat, by omega, by omega⟩
theorem seed_mul {x : Int} (h1 : 0 ≤ x) (h2 : x < 2147483647) : CMulW x 48271 := by
  refine wide_mul (a := 31) (b := 16) ?_ (by decide) (by decide) (by decide) (by decide)
  have : (2 : Nat) ^ 31 = 2147483648 := by decide
  omega
theorem seed_mod (x : Int) : 0 ≤ x % 2147483647 ∧ x % 2147483647 < 2147483647 := ⟨Int.emod_nonneg x (by decide), Int.emod_lt_of_pos x (by decide)⟩
section
variable {P : Program} {w : World} {K : PySem.W.Frag} {mg : Str → Option Value} {base : Heap}
theorem d_taken (A : At K mg "_law_taken" sLawTaken ["_law_row", "_law_many"]) (T : Bi mg) : DefAt P w K mg base 1 "_law_taken" ["_law_row", "_law_many"] (spTaken K) := A.mk' fun f fd F => by
  refine F.ok scLawTaken (fun vs H Q E h => ?_) (fun cdv A outer s H vs Q E hr h => ?_)
  · obtain ⟨r, s, ns, many, rfl, _⟩ := h; rfl
  · obtain ⟨r, z, ns, many, rfl, R, hm1, hm2, q⟩ := h
    refine ⟨_, (pss_cons (ps_if (pt_cmpR (op_gt) (pIx K (pv 0) pe_int) pe_int (nomark _)) (pss_cons (ps_set (i := 2) scLawTaken.nd rfl (.inl rfl) (pe_op op_mod (pInt call_int1 T.int (pIx K (pv 0) pe_int)) (pv 1)))
      (pss_cons (ps_asg (pe_op op_fdivW (pIx K (pv 0) pe_int) (pv 1)) (pg_sub (pv 0) pe_int set_list))
      (pss_one (ps_ret (pv 2))))) pss_nil)
    (pss_cons (ps_asg (pe_op op_add (pIx K (pv 0) pe_int) pe_int) (pg_sub (pv 0) pe_int set_list))
    (pss_cons (ps_if (pt_cmpR (op_gt) (pIx K (pv 0) pe_int) (pLen (cLen K) T.len (pIx K (pv 0) pe_int)) (nomark _)) (pss_cons (ps_asg (pe_op op_mod (pInt call_int1 T.int (pe_op op_add (pe_op op_mulW (pIx K (pv 0) pe_int) pe_int) pe_int)) pe_int) (pg_sub (pv 0) pe_int set_list))
      (pss_one (ps_ret (pe_op op_mod (pInt call_int1 T.int (pe_op op_fdivW (pIx K (pv 0) pe_int) pe_int)) (pv 1))))) pss_nil)
    (pss_cons (ps_set (i := 3) scLawTaken.nd rfl (.inl rfl) (pIx K (pIx K (pv 0) pe_int) (pe_op op_sub (pIx K (pv 0) pe_int) pe_int)))
    (pss_cons (ps_asg (pe_op op_mod (pInt call_int1 T.int (pe_op op_add (pe_op op_add (pe_op op_mulW (pIx K (pv 0) pe_int) pe_int) (pv 3)) pe_int)) pe_int) (pg_sub (pv 0) pe_int set_list))
    (pss_cons (ps_if (pt_cmpR (op_ge) (pv 3) (pe_op op_pow pe_int pe_int) (nomark _)) (pss_one (ps_asg (pe_op op_fdivW (pv 3) (pv 1)) (pg_sub (pv 0) pe_int set_list))) pss_nil)
    (pss_one (ps_ret (pe_op op_mod (pInt call_int1 T.int (pv 3)) (pv 1)))))))))), ?_⟩
    obtain ⟨i, seed, rest, h0, h1, h2, hrow⟩ := R.row
    have hdiv : CDivW rest (many : Int) := wide_div (b := 10) (by omega) (by rw [Int.natAbs_natCast]; exact Nat.lt_of_le_of_lt hm2 (by decide)) (by decide) (by decide)
    refine ⟨_, rfl, r, _, _, .int rest, rfl, rfl, .inl (SqL.of hrow), rfl, _, _, rfl, rfl, _, rfl, ?_⟩
    by_cases c : rest > 0
    · rw [decide_eq_true c]
      obtain ⟨t, ht, htm⟩ := emod_nat (i := rest) hm1
      refine ⟨_, rfl, r, _, _, .int rest, rfl, rfl, .inl (SqL.of hrow), rfl, .inl ⟨_, rfl, _, rfl, _, _, rfl, rfl, (by show (0 : Int) < many; omega), ?_⟩⟩
      refine ⟨_, rfl, r, _, _, .int rest, rfl, rfl, .inl (SqL.of hrow), rfl, _, rfl, _, _, rfl, rfl, hdiv, _, rfl, r, _, _, _, rfl, rfl, hrow, rfl, _, rfl, ?_⟩
      show Q (.int (rest % (many : Int))) _
      rw [ht]
      exact q t _ htm (SameB.refl.put _) (R.put h0 h1 (Int.ediv_nonneg h2 (by omega)))
    rw [decide_eq_false c]
    refine ⟨_, rfl, r, _, _, .int (i : Int), rfl, rfl, .inl (SqL.of hrow), rfl, _, _, rfl, rfl, _, rfl, r, _, _, _, rfl, rfl, hrow, rfl, ?_⟩
    have R1 : Row K (upd H r (.lst [.ref z, .int ((i + 1 : Nat) : Int), .int seed, .int rest])) r z ns := R.put h0 h1 h2
    have b1 : SameB r H (upd H r (.lst [.ref z, .int ((i + 1 : Nat) : Int), .int seed, .int rest])) := SameB.refl.put _
    have hrow1 : upd H r (.lst [.ref z, .int ((i + 1 : Nat) : Int), .int seed, .int rest]) r = some (.lst [.ref z, .int ((i + 1 : Nat) : Int), .int seed, .int rest]) := upd_same
    show tSeq _ _ _ _ (upd H r (.lst [.ref z, .int ((i : Int) + 1), .int seed, .int rest]))
    have ei : ((i : Int) + 1) = ((i + 1 : Nat) : Int) := by omega
    rw [ei]
    generalize upd H r (.lst [.ref z, .int ((i + 1 : Nat) : Int), .int seed, .int rest]) = H1 at R1 b1 hrow1 ⊢
    refine ⟨_, rfl, r, _, _, .int ((i + 1 : Nat) : Int), rfl, rfl, .inl (SqL.of hrow1), rfl, _, rfl, r, _, _, .ref z, rfl, rfl, .inl (SqL.of hrow1), rfl, z, _, rfl, .inl R1.scr, _, _, rfl, rfl, _, rfl, ?_⟩
    rw [List.length_map]
    by_cases c2 : ((i + 1 : Nat) : Int) > (ns.length : Int)
    · rw [decide_eq_true c2]
      obtain ⟨sd1, sd2⟩ := seed_mod (seed * 48271 + 11)
      obtain ⟨t, ht, htm⟩ := emod_nat (i := (seed * 48271 + 11) % 2147483647 / 7) hm1
      refine ⟨_, rfl, r, _, _, .int seed, rfl, rfl, .inl (SqL.of hrow1), rfl, _, _, rfl, rfl, seed_mul h0 h1, _, _, rfl, rfl, .inl ⟨_, rfl, _, _, rfl, rfl, (by show (0 : Int) < 2147483647; decide), _, rfl, r, _, _, _, rfl, rfl, hrow1, rfl, ?_⟩⟩
      refine ⟨_, rfl, r, _, _, .int ((seed * 48271 + 11) % 2147483647), rfl, rfl, .inl (SqL.of upd_same), rfl, _, _, rfl, rfl, wide_div (b := 10) (by decide) (by decide) (by decide) (by decide), .inl ⟨_, rfl, _, rfl, _, _, rfl, rfl, (by show (0 : Int) < many; omega), ?_⟩⟩
      show Q (.int ((seed * 48271 + 11) % 2147483647 / 7 % (many : Int))) _
      rw [ht]
      exact q t _ htm (b1.put _) (R1.put sd1 sd2 h2)
    rw [decide_eq_false c2]
    have hil : i < ns.length := by omega
    have hcell : (ns.map V.int)[i]? = some (V.int ns[i]) := by rw [List.getElem?_map, List.getElem?_eq_getElem hil]; rfl
    have ei2 : ((i + 1 : Nat) : Int) - 1 = (i : Int) := by omega
    refine ⟨_, rfl, r, _, _, .ref z, rfl, rfl, .inl (SqL.of hrow1), rfl, _, rfl, r, _, _, .int ((i + 1 : Nat) : Int), rfl, rfl, .inl (SqL.of hrow1), rfl, _, _, rfl, rfl, z, _, _, .int ns[i], rfl, rfl, .inl R1.scr, by rw [ei2]; exact atI_nat hcell, ?_⟩
    generalize ns[i] = cell
    obtain ⟨sd1, sd2⟩ := seed_mod (seed * 48271 + cell + 11)
    refine ⟨_, rfl, r, _, _, .int seed, rfl, rfl, .inl (SqL.of hrow1), rfl, _, _, rfl, rfl, seed_mul h0 h1, _, rfl, _, _, rfl, rfl, _, _, rfl, rfl, .inl ⟨_, rfl, _, _, rfl, rfl, (by show (0 : Int) < 2147483647; decide), _, rfl, r, _, _, _, rfl, rfl, hrow1, rfl, ?_⟩⟩
    obtain ⟨t, ht, htm⟩ := emod_nat (i := cell) hm1
    refine ⟨_, rfl, _, _, rfl, rfl, ⟨by decide, by decide, by decide⟩, _, _, rfl, rfl, _, rfl, ?_⟩
    by_cases c3 : cell ≥ (10 : Int) ^ (18 : Int).toNat
    · rw [decide_eq_true c3]
      have hc0 : 0 ≤ cell := Int.le_trans (by decide) c3
      refine ⟨_, rfl, _, rfl, _, _, rfl, rfl, wide_div (b := 10) (by omega) (by rw [Int.natAbs_natCast]; exact Nat.lt_of_le_of_lt hm2 (by decide)) (by decide) (by decide), _, rfl, r, _, _, _, rfl, rfl, upd_same, rfl, _, rfl, .inl ⟨_, rfl, _, rfl, _, _, rfl, rfl, (by show (0 : Int) < many; omega), ?_⟩⟩
      show Q (.int (cell % (many : Int))) _
      rw [ht]
      exact q t _ htm ((b1.put _).put _) ((R1.put sd1 sd2 h2).put sd1 sd2 (Int.ediv_nonneg hc0 (by omega)))
    · rw [decide_eq_false c3]
      refine ⟨_, rfl, .inl ⟨_, rfl, _, rfl, _, _, rfl, rfl, (by show (0 : Int) < many; omega), ?_⟩⟩
      show Q (.int (cell % (many : Int))) _
      rw [ht]
      exact q t _ htm (b1.put _) (R1.put sd1 sd2 h2)
def spPick (K : PySem.W.Frag) : Sp := fun vs H Q _ => ∃ r s ns a xs, vs = [.ref r, .ref a] ∧ Row K H r s ns ∧ SqL K H a xs ∧ a ≠ r ∧ 1 ≤ xs.length ∧ xs.length ≤ 1000 ∧ ∀ (t : Nat) v H', xs[t]? = some v → SameB r H H' → Row K H' r s ns → Q v H'
theorem d_pick (A : At K mg "_law_pick" sLawPick ["_law_row", "_law_things"]) (T : Bi mg) (D__law_taken : DefAt P w K mg base 1 "_law_taken" ["_law_row", "_law_many"] (spTaken K)) : DefAt P w K mg base 2 "_law_pick" ["_law_row", "_law_things"] (spPick K) := A.mk' fun f fd F => by
  refine F.ok scLawPick (fun vs H Q E h => ?_) (fun cdv A outer s H vs Q E hr h => ?_)
  · obtain ⟨r, s, ns, a, xs, rfl, _⟩ := h; rfl
  · obtain ⟨r, z, ns, a, xs, rfl, R, ha, hne, h1, h2, q⟩ := h
    refine ⟨_, (pss_one (ps_ret (pIx K (pv 1) (pCall D__law_taken (hr.mono (by decide)) (pa_cons (pv 0) (pa_cons (pLen (cLen K) T.len (pv 1)) pa_nil)))))), ?_⟩
    refine ⟨_, rfl, _, rfl, _, rfl, a, xs, rfl, .inl ha, r, z, ns, xs.length, rfl, R, h1, h2, fun t H1 ht b1 R1 => ?_⟩
    exact ⟨a, xs, _, xs[t], rfl, rfl, .inl (seqL_sameB b1 hne ha), atI_nat (List.getElem?_eq_getElem ht), q t _ _ (List.getElem?_eq_getElem ht) b1 R1⟩
/-- the items drawn in some order: from a list or tuple that is not the row -/
def spMixed (K : PySem.W.Frag) : Sp := fun vs H Q _ => ∃ r s ns, ∃ a : Addr, ∃ l : List Nat, vs = [.ref r, .ref a] ∧ Row K H r s ns ∧ (SqL K H a (iv l) ∨ SqT K H a (iv l)) ∧ l.length ≤ 1000 ∧ ∀ m v H', m.Perm l → LstN H' v m → (∀ p, v = .ref p → p ≠ r ∧ H p = none) → SameB r H H' → Row K H' r s ns → Q v H'
theorem iv_eraseIdx : ∀ (l : List Nat) (k : Nat), (iv l).eraseIdx k = iv (l.eraseIdx k)
  | [], _ => rfl
  | _ :: _, 0 => rfl
  | a :: l, k + 1 => congrArg (V.int (a : Nat) :: ·) (iv_eraseIdx l k)
theorem seqIx {n k : Nat} (h : k < n) : seqIndex? (k : Int) n = some k := by
  unfold seqIndex?
  simp
  omega
theorem perm_erase {l : List Nat} {k x : Nat} (h : l[k]? = some x) : l.Perm (x :: l.eraseIdx k) := by
  induction l generalizing k with
  | nil => cases h
  | cons a l ih =>
    cases k with
    | zero =>
      cases h
      exact List.Perm.refl _
    | succ k =>
      have := ih (k := k) h
      exact (this.cons a).trans (List.Perm.swap x a _)
theorem d_mixed (A : At K mg "_law_mixed" sLawMixed ["_law_row", "_law_some"]) (T : Bi mg) (D__law_taken : DefAt P w K mg base 1 "_law_taken" ["_law_row", "_law_many"] (spTaken K)) : DefAt P w K mg base 2 "_law_mixed" ["_law_row", "_law_some"] (spMixed K) := A.mk' fun f fd F => by
  refine F.ok scLawMixed (fun vs H Q E h => ?_) (fun cdv A outer s H vs Q E hr h => ?_)
  · obtain ⟨r, s, ns, a, l, rfl, _⟩ := h; rfl
  · obtain ⟨r, z, ns, a, l, rfl, R, ha, hl, q⟩ := h
    refine ⟨_, (pss_cons (ps_par (i := 2) (j := 3) rfl scLawMixed.nd rfl rfl (by decide) rfl rfl (pa_cons (pList (cLst K) T.list (pv 1)) (pa_cons (pe_lst pa_nil) pa_nil)) rfl)
    (pss_cons (ps_for PassesOwn.never rfl (pi_range1 rfl T.range (pa_cons (pLen (cLen K) T.len (pv 2)) pa_nil)) (pg_name (i := 4) scLawMixed.nd rfl (Or.inl rfl))
      (pss_one (ps_expr (pe_bm PySem.F.plainAttrs_list PySem.F.slot_list_append PySem.F.type_list_append mt_append (pv 3) (pa_cons (pe_bm PySem.F.plainAttrs_list PySem.F.slot_list_pop PySem.F.type_list_pop mt_popAt (pv 2) (pa_cons (pCall D__law_taken (hr.mono (by decide)) (pa_cons (pv 0) (pa_cons (pLen (cLen K) T.len (pv 2)) pa_nil))) pa_nil)) pa_nil)))))
    (pss_one (ps_ret (pv 3))))), ?_⟩
    refine ⟨_, rfl, a, _, rfl, ha, fun p1 np1 => ⟨Nat.zero_le _, fun p2 np2 => ⟨_, _, rfl, ?_⟩⟩⟩
    have n1 := Same.new np1 (.lst (iv l))
    have n2 := Same.new np2 (.lst [])
    have hr0 : ∃ xs, H r = some (.lst xs) := by obtain ⟨i, sd, rs, _, _, _, h⟩ := R.row; exact ⟨_, h⟩
    obtain ⟨rx, hrx⟩ := hr0
    have p1r : p1 ≠ r := (ne_of_none hrx np1).symm
    have p2r : p2 ≠ r := (ne_of_none (n1 _ _ hrx) np2).symm
    have p12 : p1 ≠ p2 := ne_of_none upd_same np2
    have np2' : H p2 = none := by
      rw [upd_ne p12.symm] at np2
      exact np2
    refine ⟨_, rfl, p1, _, rfl, .inl (SqL.of (n2 _ _ upd_same)), (iv l).length, rfl, by omega, by rw [iv_length]; omega, for_it (walk_range (lo := 0) (n := (iv l).length))
      (fun i σ H' => ∃ a4 m m', σ = [some (.ref r), some (.ref a), some (.ref p1), some (.ref p2), a4] ∧ (m ++ m').Perm l ∧ m.length = i ∧ H' p1 = some (.lst (iv m')) ∧ H' p2 = some (.lst (iv m)) ∧ Row K H' r z ns ∧ SameB r H H')
      ⟨_, [], l, rfl, List.Perm.refl _, rfl, n2 _ _ upd_same, upd_same, (R.same n1).same n2, .of (n1.trans n2)⟩ (fun _ _ _ _ _ => trivial) ?_ ?_⟩
    · rintro i x σ H1 H2 hi ⟨a4, m, m', rfl, hp, hm, h1, h2, R1, b1⟩ ⟨rfl, rfl⟩
      rw [iv_length] at hi
      have hml := hp.length_eq
      rw [List.length_append] at hml
      refine ⟨_, rfl, .inl ⟨rfl, _, SqL.of h2⟩, _, rfl, .inl ⟨rfl, _, SqL.of h1⟩, _, rfl, _, rfl, p1, _, rfl, .inl (SqL.of h1), r, z, ns, m'.length, by rw [iv_length]; rfl, R1, by omega, by omega, fun t H3 ht b3 R3 => ?_⟩
      have h13 := b3 _ _ p1r h1
      have h23 := b3 _ _ p2r h2
      have hx : m'[t]? = some m'[t] := List.getElem?_eq_getElem ht
      refine ⟨p1, _, _, t, .int (m'[t] : Nat), rfl, rfl, h13, by omega, by omega, by rw [iv_length]; exact seqIx ht, iv_get hx, ?_⟩
      refine ⟨p2, _, _, rfl, rfl, by rw [upd_ne p12.symm]; exact h23, by rw [iv_length, sizeLine_eq]; omega, ?_⟩
      have R4 : Row K (upd H3 p1 (.lst ((iv m').eraseIdx t))) r z ns := by
        obtain ⟨i, sd, rs, e1, e2, e3, e4⟩ := R3.row
        have hz : z ≠ p1 ∨ True := .inr trivial
        refine ⟨⟨i, sd, rs, e1, e2, e3, by rw [upd_ne p1r.symm]; exact e4⟩, ?_, R3.ne⟩
        have sc0 : SqL K H z (ns.map V.int) := R.scr
        have bb : SameB r H (upd H3 p1 (.lst ((iv m').eraseIdx t))) := fun b o nb qb => by
          rw [upd_ne (ne_of_none qb np1)]
          exact (b1.trans b3) b o nb qb
        exact seqL_sameB bb R.ne sc0
      refine ⟨_, m ++ [m'[t]], m'.eraseIdx t, rfl, ?_, by rw [List.length_append, hm]; rfl, ?_, ?_, ?_, ?_⟩
      · rw [List.append_assoc]
        exact ((perm_erase hx).symm.append_left m).trans hp
      · rw [upd_ne p12, upd_same, iv_eraseIdx]
      · rw [upd_same, iv_append]
        rfl
      · obtain ⟨i, sd, rs, e1, e2, e3, e4⟩ := R4.row
        refine ⟨⟨i, sd, rs, e1, e2, e3, by rw [upd_ne p2r.symm]; exact e4⟩, ?_, R4.ne⟩
        have bb : SameB r H (upd (upd H3 p1 (.lst ((iv m').eraseIdx t))) p2 (.lst (iv m ++ [V.int (m'[t] : Nat)]))) := fun b o nb qb => by
          rw [upd_ne (ne_of_none qb np2'), upd_ne (ne_of_none qb np1)]
          exact (b1.trans b3) b o nb qb
        exact seqL_sameB bb R.ne R.scr
      · intro b o nb qb
        rw [upd_ne (ne_of_none qb np2'), upd_ne (ne_of_none qb np1)]
        exact (b1.trans b3) b o nb qb
    · rintro σ H1 ⟨a4, m, m', rfl, hp, hm, h1, h2, R1, b1⟩
      rw [iv_length] at hm
      have hml := hp.length_eq
      rw [List.length_append] at hml
      have e : m' = [] := List.eq_nil_of_length_eq_zero (by omega)
      subst e
      rw [List.append_nil] at hp
      exact ⟨_, rfl, q m _ _ hp ⟨p2, rfl, h2⟩ (fun p e => by cases e; exact ⟨p2r, np2'⟩) b1 R1⟩
end
end Sb

/-! W12: named, size, family. -/
namespace Sb
open PySem L2
abbrev sLawNamed : Stmt := topS 38
theorem scLawNamed : FnScope ["_law_bags", "_law_names", "_law_bag", "_law_bead"] ["_law_bags", "_law_names"] (defScope sLawNamed) := ⟨rfl, rfl, rfl, by decide +kernel, rfl, by decide +kernel, by decide +kernel⟩
abbrev sLawFamily : Stmt := topS 39
theorem scLawFamily : FnScope ["_law_row", "_law_most", "_law_size_here", "_law_often", "_law_bags", "_law_bead"] ["_law_row", "_law_most"] (defScope sLawFamily) := ⟨rfl, rfl, rfl, by decide +kernel, rfl, by decide +kernel, by decide +kernel⟩
/-- a list, a tuple of lists, of tuples -/
def SeqN (H : Hp) (v : V) (l : List Nat) : Prop := ∃ a, v = .ref a ∧ (H a = some (.lst (iv l)) ∨ H a = some (.tup (iv l)))
def SeqF (H : Hp) (a : Addr) (vs : List V) : Prop := H a = some (.lst vs) ∨ H a = some (.tup vs)
theorem SeqN.mono {H H' : Hp} (e : Same H H') {v : V} {l : List Nat} (h : SeqN H v l) : SeqN H' v l := by
  obtain ⟨a, e1, e2 | e2⟩ := h
  · exact ⟨a, e1, .inl (e a _ e2)⟩
  · exact ⟨a, e1, .inr (e a _ e2)⟩
def spNamed : Sp := fun vs H Q _ => ∃ (n : Nat) (a b : Addr) (F : Fam) (σ : List Nat) (us : List V), vs = [.ref a, .ref b] ∧ SeqF H a us ∧ Paired (SeqN H) us F ∧ H b = some (.lst (iv σ)) ∧ IsPerm n σ ∧ (∀ bag ∈ F, (∀ b ∈ bag, b < n) ∧ bag ≠ []) ∧ n ≤ 60 ∧ F.length ≤ 60 ∧ (∀ bag ∈ F, bag.length ≤ 60) ∧
  ∀ v H', Same H H' → FamT H' v (named F σ) → Q v H'
/-- the bags that grow: at B a list of lists, each at its own new place -/
structure BagsAt (H0 H : Hp) (r B : Addr) (cs : List Addr) (G : Fam) : Prop where
  at_ : H B = some (.lst (cs.map V.ref))
  b0 : H0 B = none
  br : B ≠ r
  len : cs.length = G.length
  nd : cs.Nodup
  ne : ∀ c ∈ cs, c ≠ B ∧ c ≠ r ∧ H0 c = none
  row : ∀ i c, cs[i]? = some c → H c = some (.lst (iv (bagAt G i)))
theorem BagsAt.same {H0 H H' : Hp} {r B : Addr} {cs : List Addr} {G : Fam} (X : BagsAt H0 H r B cs G) (e : SameB r H H') : BagsAt H0 H' r B cs G :=
  ⟨e _ _ X.br X.at_, X.b0, X.br, X.len, X.nd, X.ne, fun i c h => e _ _ (X.ne c (List.mem_of_getElem? h)).2.1 (X.row i c h)⟩
theorem BagsAt.app {H0 H : Hp} {r B : Addr} {cs : List Addr} {G : Fam} (X : BagsAt H0 H r B cs G) {i : Nat} {c : Addr} (hc : cs[i]? = some c) (n : Nat) :
    BagsAt H0 (upd H c (.lst (iv (bagAt G i) ++ [.int (n : Int)]))) r B cs (G.set i (bagAt G i ++ [n])) := by
  have hcm := List.mem_of_getElem? hc
  have hi : i < G.length := by rw [← X.len]; exact (List.getElem?_eq_some_iff.mp hc).1
  refine ⟨by rw [upd_ne (X.ne c hcm).1.symm]; exact X.at_, X.b0, X.br, by rw [List.length_set]; exact X.len, X.nd, X.ne, fun j c' hj => ?_⟩
  rw [bagAt_set hi]
  by_cases e : j = i
  · subst e
    rw [hc] at hj
    rw [← Option.some.inj hj, upd_same, if_pos rfl, iv_append]
    rfl
  · have hne : c' ≠ c := fun z => by
      subst z
      exact e (nd_inj X.nd hj hc)
    rw [upd_ne hne, if_neg e]
    exact X.row j c' hj
theorem BagsAt.new {H0 H : Hp} {r B : Addr} {cs : List Addr} {G : Fam} (X : BagsAt H0 H r B cs G) {l : Addr} (hl : H l = none) (h0 : H0 l = none) (hr : l ≠ r) (bag : List Nat) :
    BagsAt H0 (upd (upd H l (.lst (iv bag))) B (.lst (cs.map V.ref ++ [.ref l]))) r B (cs ++ [l]) (G ++ [bag]) := by
  have nlB : l ≠ B := (ne_of_none X.at_ hl).symm
  have nlc : ∀ c ∈ cs, c ≠ l := fun c hcm z => by
    obtain ⟨j, hj⟩ := List.getElem?_of_mem hcm
    have := X.row j c hj
    rw [z, hl] at this
    cases this
  refine ⟨by rw [upd_same, List.map_append]; rfl, X.b0, X.br, by rw [List.length_append, List.length_append, X.len]; rfl, ?_, fun c hc => ?_, fun j c hj => ?_⟩
  · exact List.nodup_append.mpr ⟨X.nd, by simp, fun x hx y hy => by rw [List.mem_singleton.mp hy]; exact nlc x hx⟩
  · rcases List.mem_append.mp hc with h | h
    · exact X.ne c h
    · rw [List.mem_singleton.mp h]
      exact ⟨nlB, hr, h0⟩
  · rw [bagAt_snoc]
    rw [List.getElem?_append] at hj
    split at hj
    · rename_i hlt
      have hcm := List.mem_of_getElem? hj
      rw [upd_ne (X.ne c hcm).1, upd_ne (nlc c hcm), if_neg (by rw [← X.len]; omega)]
      exact X.row j c hj
    · rename_i hlt
      have h1 := List.mem_of_getElem? hj
      have e : c = l := List.mem_singleton.mp h1
      have hjl := (List.getElem?_eq_some_iff.mp hj).1
      have ej : j = G.length := by rw [← X.len]; simp at hjl; omega
      rw [e, upd_ne nlB, upd_same, if_pos ej]
def spFamily (K : PySem.W.Frag) : Sp := fun vs H Q _ => ∃ r s ns, ∃ most : Nat, vs = [.ref r, .int (most : Int)] ∧ Row K H r s ns ∧ 2 ≤ most ∧ most ≤ 30 ∧ ∀ n G σ v H', Grown n G → IsPerm n σ → n ≤ most → FamT H' v (named G σ) → SameB r H H' → Row K H' r s ns → Q v H'
section
variable {P : Program} {w : World} {K : PySem.W.Frag} {mg : Str → Option Value} {base : Heap}
theorem d_named (A : At K mg "_law_named" sLawNamed ["_law_bags", "_law_names"]) (T : Bi mg) : DefAt P w K mg base 1 "_law_named" ["_law_bags", "_law_names"] spNamed := A.mk' fun f fd F => by
  refine F.ok scLawNamed (fun vs H Q E h => ?_) (fun cdv A outer s H vs Q E hr h => ?_)
  · obtain ⟨n, a, b, F, σ, us, rfl, _⟩ := h
    rfl
  · obtain ⟨n, a, b, F, σ, us, rfl, hF, hp, hb, hσ, hbags, hn, hl, hl2, q⟩ := h
    refine ⟨_, (pss_one (ps_ret (pTuple (cTup K) T.tuple (pSorted (cSortT K hr) T.sorted (pLcX [("_law_bag", 2)] scLawNamed.nd (piSeq K (pv 0)) (N := ["_law_bags", "_law_names", "_law_bag", "_law_bead"]) (sc := (defScope sLawNamed)) (by decide +kernel) (fun _ _ _ _ _ => (pgN 2 scLawNamed.nd)) (fun _ _ _ _ _ => pts_nil) (fun _ _ _ _ _ => (pTuple (cTup K) T.tuple (pSorted (cSortN K) T.sorted (pLcX [("_law_bead", 3)] scLawNamed.nd (piSeq K (pv 2)) (N := ["_law_bags", "_law_names", "_law_bag", "_law_bead"]) (sc := ⟨.function, [(".0", .local), ("_law_bag", .local), ("tuple", .globalImplicit), ("sorted", .globalImplicit), ("_law_names", .cell)], false, false, []⟩) (by decide +kernel) (fun _ _ _ _ _ => (pgN 3 scLawNamed.nd)) (fun _ _ _ _ _ => pts_nil) (fun _ _ _ _ _ => (pIx K (pv 1) (pv 3)))))))))))), ?_⟩
    obtain ⟨J, hw, sel⟩ := seq_sel (K := K) hF
    have hul : us.length = F.length := plen hp
    refine ⟨_, rfl, a, rfl, sel _ fun D hD => lc_fm hw TupN (fun i => (F[i]?).map (nm σ)) hD (fun _ e => e) YAt.same (fun _ _ _ _ e r => r.mono e) (fun _ _ _ _ _ hD r => r.upd hD) (by omega) ?_ ?_⟩
    · rintro i x H1 H2 Q1 Q0 hi s1 ⟨rfl, hx⟩ k1 k0
      refine ⟨rfl, ?_⟩
      obtain ⟨bag, hbag, c, rfl, hc⟩ := pget hp hx
      have hbm := List.mem_of_getElem? hbag
      have hc1 : H2 c = some (.lst (iv bag)) ∨ H2 c = some (.tup (iv bag)) := hc.imp (s1 _ _) (s1 _ _)
      obtain ⟨J', hw', sel'⟩ := seq_sel (K := K) hc1
      have hbl := hl2 bag hbm
      refine ⟨_, rfl, c, rfl, sel' _ fun D' hD' => lc_fm hw' (RV0 fun b : Nat => V.int (b : Int)) (fun i => (bag[i]?).map fun b => σ.getD b 0) hD' (fun _ e => e) YAt.same (fun _ _ _ _ _ r => r) (fun _ _ _ _ _ _ r => r) (by rw [iv_length]; omega) ?_ ?_⟩
      · rintro j y H3 H4 Q3 Q4 hj s3 ⟨rfl, hy⟩ k3 k4
        refine ⟨rfl, ?_⟩
        obtain ⟨b', hb', rfl⟩ := of_iv_get hy
        have hbn : b' < n := (hbags bag hbm).1 b' (List.mem_of_getElem? hb')
        refine ⟨_, rfl, _, rfl, b, _, _, _, rfl, rfl, .inl (SqL.of (s3 _ _ (s1 _ _ hb))), atI_nat (iv_get (hσ.get hbn)), ?_⟩
        exact k3 _ _ _ (by rw [hb']; rfl) (Same.refl _) rfl
      · intro H3 ys s3 hDy hy
        have e := rv0_list hy
        rw [iv_length, range_map_some (g := fun b => σ.getD b 0) (fun i b hb => by rw [hb]; rfl)] at e
        have e' : ys = iv (bag.map fun b => σ.getD b 0) := e
        subst e'
        refine ⟨D', _, rfl, SqL.of hDy, by rw [List.length_map]; omega, fun p np => ⟨p, _, rfl, .inl ⟨SqL.of upd_same, fun t nt => ?_⟩⟩⟩
        refine k1 _ _ (nm σ bag) (by rw [hbag]; rfl) ?_ ⟨t, rfl, upd_same⟩
        exact s3.trans ((Same.new np _).trans (Same.new nt _))
    · intro H1 ys s1 hDy hy
      rw [hul, range_map_some (g := nm σ) (fun i b hb => by rw [hb]; rfl)] at hy
      refine ⟨D, ys, F.map (nm σ), rfl, SqL.of hDy, hy, fun b hb => ?_, by rw [List.length_map]; omega, fun zs p hz np => ⟨p, zs, rfl, .inl ⟨SqL.of upd_same, fun t nt => ?_⟩⟩⟩
      · obtain ⟨bag, hbm, rfl⟩ := List.mem_map.mp hb
        intro e
        have := nm_length (σ := σ) (bag := bag)
        rw [e] at this
        exact (hbags bag hbm).2 (List.eq_nil_of_length_eq_zero this.symm)
      · have s2 := Same.new np (.lst zs)
        have s3 := Same.new nt (.tup zs)
        exact q _ _ (s1.trans (s2.trans s3)) ⟨t, zs, rfl, upd_same, pmono (fun _ _ r => (r.mono s2).mono s3) hz⟩
theorem d_family (A : At K mg "_law_family" sLawFamily ["_law_row", "_law_most"]) (T : Bi mg) (D__law_taken : DefAt P w K mg base 1 "_law_taken" ["_law_row", "_law_many"] (spTaken K)) (D__law_pick : DefAt P w K mg base 2 "_law_pick" ["_law_row", "_law_things"] (spPick K))
    (D__law_mixed : DefAt P w K mg base 2 "_law_mixed" ["_law_row", "_law_some"] (spMixed K)) (D__law_named : DefAt P w K mg base 1 "_law_named" ["_law_bags", "_law_names"] spNamed) :
    DefAt P w K mg base 3 "_law_family" ["_law_row", "_law_most"] (spFamily K) := A.mk' fun f fd F => by
  refine F.ok scLawFamily (fun vs H Q E h => ?_) (fun cdv A outer s H vs Q E hr h => ?_)
  · obtain ⟨r, s, ns, most, rfl, _⟩ := h; rfl
  · obtain ⟨r, z, ns, most, rfl, R, h1, h2, q⟩ := h
    refine ⟨_, (pss_cons (ps_par (i := 2) (j := 3) rfl scLawFamily.nd rfl rfl (by decide) rfl rfl (pa_cons (pe_op op_add pe_int (pCall D__law_taken (hr.mono (by decide)) (pa_cons (pv 0) (pa_cons (pe_op op_sub (pv 1) pe_int) pa_nil)))) (pa_cons (pCall D__law_pick (hr.mono (by decide)) (pa_cons (pv 0) (pa_cons (pe_lst (pa_cons pe_int (pa_cons pe_int (pa_cons pe_int (pa_cons pe_int (pa_cons pe_int pa_nil)))))) pa_nil))) pa_nil)) rfl)
    (pss_cons (ps_set (i := 4) scLawFamily.nd rfl (.inl rfl) (pe_lst (pa_cons (pe_lst (pa_cons pe_int (pa_cons pe_int pa_nil))) pa_nil)))
    (pss_cons (ps_for PassesOwn.never rfl (pi_range2 rfl T.range (pa_cons pe_int (pa_cons (pv 2) pa_nil))) (pg_name (i := 5) scLawFamily.nd rfl (Or.inl rfl))
      (pss_one (ps_if (pt_cmpR (op_eq) (pCall D__law_taken (hr.mono (by decide)) (pa_cons (pv 0) (pa_cons (pv 3) pa_nil))) pe_int (nomark _)) (pss_one (ps_expr (pe_bm PySem.F.plainAttrs_list PySem.F.slot_list_append PySem.F.type_list_append mt_append (pIx K (pv 4) (pCall D__law_taken (hr.mono (by decide)) (pa_cons (pv 0) (pa_cons (pLen (cLen K) T.len (pv 4)) pa_nil)))) (pa_cons (pv 5) pa_nil)))) (pss_one (ps_expr (pe_bm PySem.F.plainAttrs_list PySem.F.slot_list_append PySem.F.type_list_append mt_append (pv 4) (pa_cons (pe_lst (pa_cons (pCall D__law_taken (hr.mono (by decide)) (pa_cons (pv 0) (pa_cons (pv 5) pa_nil))) (pa_cons (pv 5) pa_nil))) pa_nil)))))))
    (pss_one (ps_ret (pCall D__law_named (hr.mono (by decide)) (pa_cons (pv 4) (pa_cons (pCall D__law_mixed (hr.mono (by decide)) (pa_cons (pv 0) (pa_cons (pe_listRg rfl rfl T.list (prg_1 rfl T.range (pv 2))) pa_nil))) pa_nil)))))))), ?_⟩
    have em : (most : Int) - 1 = ((most - 1 : Nat) : Int) := by omega
    refine ⟨_, rfl, _, rfl, _, _, rfl, rfl, r, z, ns, most - 1, congrArg (fun x : Int => [V.ref r, V.int x]) em, R, by omega, by omega, fun t H1 ht b1 R1 => ⟨_, _, rfl, rfl, ?_⟩⟩
    have hr1 : ∃ xs, H1 r = some (.lst xs) := by obtain ⟨i, sd, rs, _, _, _, h⟩ := R1.row; exact ⟨_, h⟩
    obtain ⟨rx1, hrx1⟩ := hr1
    have hr0 : ∃ xs, H r = some (.lst xs) := by obtain ⟨i, sd, rs, _, _, _, h⟩ := R.row; exact ⟨_, h⟩
    obtain ⟨rx, hrx⟩ := hr0
    have fr : ∀ {H' : Hp} {p : Addr}, SameB r H H' → Row K H' r z ns → H' p = none → p ≠ r ∧ H p = none := fun {H' p} e R' hp => by
      obtain ⟨i, sd, rs, _, _, _, h⟩ := R'.row
      have hne : p ≠ r := fun y => by rw [y, h] at hp; cases hp
      exact ⟨hne, (e.free hp).resolve_left hne⟩
    refine ⟨_, rfl, (by decide), fun p np => ⟨r, z, ns, p, _, rfl, R1.same (Same.new np _), SqL.of upd_same, (fr b1 R1 np).1, by decide, by decide, fun t2 v H2 hv b2 R2 => ?_⟩⟩
    obtain ⟨often, rfl, ho1, ho2⟩ : ∃ often : Nat, v = .int (often : Int) ∧ 1 ≤ often ∧ often ≤ 9 := by
      have hm := List.mem_of_getElem? hv
      simp only [List.mem_cons, List.not_mem_nil, or_false] at hm
      rcases hm with rfl | rfl | rfl | rfl | rfl
      · exact ⟨2, rfl, by decide, by decide⟩
      · exact ⟨3, rfl, by decide, by decide⟩
      · exact ⟨3, rfl, by decide, by decide⟩
      · exact ⟨4, rfl, by decide, by decide⟩
      · exact ⟨9, rfl, by decide, by decide⟩
    have c2 : SameB r H H2 := b1.trans ((SameB.of (Same.new np _)).trans b2)
    clear b2
    have esz : (2 : Int) + (t : Int) = ((t + 2 : Nat) : Int) := by omega
    refine ⟨V.int ((t + 2 : Nat) : Int), V.int (often : Int), congrArg (fun x : Int => [V.int x, V.int (often : Int)]) esz, ?_⟩
    refine ⟨(by show 2 ≤ sizeLine; decide), fun l nl => ⟨(by show 1 ≤ sizeLine; decide), fun B nB => ?_⟩⟩
    have R3 := (R2.same (Same.new nl (.lst [.int 0, .int 1]))).same (Same.new nB (.lst [.ref l]))
    have hB2 : H2 B = none := by
      cases e : H2 B with
      | none => rfl
      | some o => rw [Same.new nl (.lst [.int 0, .int 1]) _ _ e] at nB; cases nB
    have f1 := fr c2 R2 nl
    have f2 := fr c2 R2 hB2
    have nBl : B ≠ l := fun y => by rw [y, upd_same] at nB; cases nB
    have c3 : SameB r H (upd (upd H2 l (.lst [.int 0, .int 1])) B (.lst [.ref l])) := c2.trans (.of ((Same.new nl _).trans (Same.new nB _)))
    have X0 : BagsAt H (upd (upd H2 l (.lst [.int 0, .int 1])) B (.lst [.ref l])) r B [l] [[0, 1]] :=
      ⟨upd_same, f2.2, f2.1, rfl, by simp, fun c hc => by rw [List.mem_singleton.mp hc]; exact ⟨nBl.symm, f1.1, f1.2⟩, fun i c hc => by
        cases i with
        | zero =>
          cases hc
          rw [upd_ne nBl.symm, upd_same]
          rfl
        | succ i => cases hc⟩
    refine ⟨_, rfl, 2, ((t + 2 : Nat) : Int), rfl, by omega, for_it (walk_range (lo := 2) (n := (((t + 2 : Nat) : Int) - 2).toNat))
      (fun i σ H' => ∃ a5 cs G, σ = [some (.ref r), some (.int (most : Int)), some (.int ((t + 2 : Nat) : Int)), some (.int (often : Int)), some (.ref B), a5] ∧ Grown (2 + i) G ∧ BagsAt H H' r B cs G ∧ Row K H' r z ns ∧ SameB r H H')
      ⟨_, [l], [[0, 1]], rfl, .base, X0, R3, c3⟩ (fun _ _ _ _ _ => trivial) ?_ ?_⟩
    · rintro i x σ H4 H5 hi ⟨a5, cs, G, rfl, hG, X4, R4, c4⟩ ⟨rfl, rfl⟩
      have hi' : i < t := by omega
      have I := hG.pre
      have hGl := I.len
      have hGp := I.pos
      have eb : (2 : Int) + (i : Int) = ((2 + i : Nat) : Int) := by omega
      show gName 5 (V.int (2 + (i : Int))) _ _ _
      rw [eb]
      refine ⟨_, rfl, _, rfl, r, z, ns, often, rfl, R4, ho1, by omega, fun t5 H5 ht5 b5 R5 => ⟨rfl, _, rfl, ?_⟩⟩
      have X5 := X4.same b5
      have c5 := c4.trans b5
      by_cases e5 : t5 = 0
      · subst e5
        rw [decide_eq_true (p := V.int ((0 : Nat) : Int) = V.int 0) rfl]
        refine ⟨_, rfl, _, rfl, _, rfl, B, _, rfl, .inl (SqL.of X5.at_), r, z, ns, cs.length, by rw [List.length_map]; rfl, R5, by rw [X5.len]; exact hGp, by rw [X5.len]; omega, fun t6 H6 ht6 b6 R6 => ?_⟩
        have X6 := X5.same b6
        have c6 := c5.trans b6
        have hcs : cs[t6]? = some cs[t6] := List.getElem?_eq_getElem ht6
        have hrow := X6.row _ _ hcs
        have hcm := List.mem_of_getElem? hcs
        have ht6' : t6 < G.length := by rw [← X6.len]; exact ht6
        refine ⟨B, _, _, .ref cs[t6], rfl, rfl, .inl (SqL.of X6.at_), atI_nat (by rw [List.getElem?_map, hcs]; rfl), .inl ⟨rfl, _, SqL.of hrow⟩, _, rfl, cs[t6], _, _, rfl, rfl, hrow, ?_, ?_⟩
        · rw [iv_length, sizeLine_eq]
          have := I.blen (bagAt_mem ht6')
          omega
        · refine ⟨_, cs, _, rfl, .app hG ht6', X6.app hcs (2 + i), ?_, fun b o nb qb => ?_⟩
          · obtain ⟨i', sd, rs, e1, e2, e3, e4⟩ := R6.row
            refine ⟨⟨i', sd, rs, e1, e2, e3, by rw [upd_ne (X6.ne _ hcm).2.1.symm]; exact e4⟩, ?_, R6.ne⟩
            exact seqL_sameB (r := r) (H := H) (fun b o nb qb => by rw [upd_ne (ne_of_none qb (X6.ne _ hcm).2.2)]; exact c6 b o nb qb) R6.ne R.scr
          · rw [upd_ne (ne_of_none qb (X6.ne _ hcm).2.2)]
            exact c6 b o nb qb
      · rw [decide_eq_false (p := V.int ((t5 : Nat) : Int) = V.int 0) (fun y => e5 (by have := V.int.inj y; omega))]
        refine ⟨_, rfl, .inl ⟨rfl, _, SqL.of X5.at_⟩, _, rfl, _, rfl, r, z, ns, 2 + i, rfl, R5, by omega, by omega, fun t6 H6 ht6 b6 R6 => ?_⟩
        have X6 := X5.same b6
        have c6 := c5.trans b6
        refine ⟨_, rfl, (by show 2 ≤ sizeLine; decide), fun l6 nl6 => ?_⟩
        have f6 := fr c6 R6 nl6
        have n6 := Same.new nl6 (.lst [.int (t6 : Nat), .int ((2 + i : Nat) : Int)])
        refine ⟨B, _, _, rfl, rfl, n6 _ _ X6.at_, by rw [List.length_map, X6.len, sizeLine_eq]; omega, ?_⟩
        refine ⟨_, cs ++ [l6], _, rfl, .new hG ht6, X6.new nl6 f6.2 f6.1 [t6, 2 + i], ?_, fun b o nb qb => ?_⟩
        · obtain ⟨i', sd, rs, e1, e2, e3, e4⟩ := (R6.same n6).row
          refine ⟨⟨i', sd, rs, e1, e2, e3, by rw [upd_ne X6.br.symm]; exact e4⟩, ?_, R6.ne⟩
          exact seqL_sameB (r := r) (H := H) (fun b o nb qb => by rw [upd_ne (ne_of_none qb X6.b0)]; exact n6 _ _ (c6 b o nb qb)) R6.ne R.scr
        · rw [upd_ne (ne_of_none qb X6.b0)]
          exact n6 _ _ (c6 b o nb qb)
    · rintro σ H4 ⟨a5, cs, G, rfl, hG, X4, R4, c4⟩
      have en : 2 + (((t + 2 : Nat) : Int) - 2).toNat = t + 2 := by omega
      rw [en] at hG
      have I := hG.pre
      have hGl := I.len
      refine ⟨_, rfl, _, rfl, _, rfl, _, rfl, RgOk.of_le (by omega) (by omega) (by omega) (by omega), fun p5 np5 => ?_⟩
      rw [rgV_nat]
      have n5 := Same.new np5 (.lst (iv (List.range (t + 2))))
      have f5 := fr c4 R4 np5
      refine ⟨r, z, ns, p5, List.range (t + 2), rfl, R4.same n5, .inl (SqL.of upd_same), by rw [List.length_range]; omega, fun m v H5 hm hv hvr b5 R5 => ?_⟩
      obtain ⟨pm, rfl, hpm⟩ := hv
      have X5 := (X4.same (.of n5)).same b5
      have c5 := (c4.trans (.of n5)).trans b5
      refine ⟨t + 2, B, pm, G, m, cs.map V.ref, rfl, .inl X5.at_, ?_, hpm, hm, fun bag hb => ⟨(I.bags bag hb).2.2, fun e => by have := (I.bags bag hb).2.1; rw [e] at this; simp at this⟩, by omega, by omega, fun bag hb => by have := I.blen hb; omega, fun v H6 s6 hv6 => ?_⟩
      · have key : ∀ (cs : List Addr) (G : Fam), cs.length = G.length → (∀ i c, cs[i]? = some c → H5 c = some (.lst (iv (bagAt G i)))) → Paired (SeqN H5) (cs.map V.ref) G := by
          intro cs
          induction cs with
          | nil =>
            intro G hl _
            cases G with
            | nil => exact .nil
            | cons _ _ => simp at hl
          | cons c cs ih =>
            intro G hl hrw
            cases G with
            | nil => simp at hl
            | cons g G =>
              refine .cons ⟨c, rfl, .inl (hrw 0 c rfl)⟩ (ih G (by simpa using hl) fun i c' hc' => ?_)
              exact hrw (i + 1) c' (by simpa using hc')
        exact key cs G X5.len X5.row
      · exact q (t + 2) G m v H6 hG hm (by omega) hv6 (c5.trans (.of s6)) (R5.same s6)
end
end Sb

/-! W13: size, alike, orders, pours. -/
namespace Sb
open PySem L2
abbrev sLawSizeB : Stmt := topS 40
theorem scLawSizeB : FnScope ["_law_family_here", "_law_bag"] ["_law_family_here"] (defScope sLawSizeB) := ⟨rfl, rfl, rfl, by decide +kernel, rfl, by decide +kernel, by decide +kernel⟩
abbrev sLawAlike : Stmt := topS 36
theorem scLawAlike : FnScope ["_law_found", "_law_due", "_law_k"] ["_law_found", "_law_due"] (defScope sLawAlike) := ⟨rfl, rfl, rfl, by decide +kernel, rfl, by decide +kernel, by decide +kernel⟩


def AlikeV : Nat → Hp → V → V → Prop
  | 0, _, x, y => (∃ i : Int, x = .int i ∧ y = .int i) ∨ ∃ b : Bool, x = .bl b ∧ y = .bl b
  | d + 1, H, x, y => ((∃ i : Int, x = .int i ∧ y = .int i) ∨ ∃ b : Bool, x = .bl b ∧ y = .bl b) ∨ ∃ a b xs ys, x = .ref a ∧ y = .ref b ∧ H a = some (.tup xs) ∧ H b = some (.tup ys) ∧ xs.length = ys.length ∧ xs.length ≤ 1000 ∧ ∀ (i : Nat) u v, xs[i]? = some u → ys[i]? = some v → AlikeV d H u v
theorem AlikeV.mono {H H' : Hp} (e : Same H H') : ∀ {d : Nat} {x y : V}, AlikeV d H x y → AlikeV d H' x y
  | 0, _, _, h => h
  | d + 1, _, _, .inl h => .inl h
  | d + 1, _, _, .inr ⟨a, b, xs, ys, h1, h2, h3, h4, h5, h6, h7⟩ => .inr ⟨a, b, xs, ys, h1, h2, e _ _ h3, e _ _ h4, h5, h6, fun i u v q1 q2 => AlikeV.mono e (h7 i u v q1 q2)⟩
theorem AlikeV.sc {H : Hp} {d : Nat} {x y : V} (h : (∃ i : Int, x = .int i ∧ y = .int i) ∨ ∃ b : Bool, x = .bl b ∧ y = .bl b) : AlikeV d H x y := by
  cases d with
  | zero => exact h
  | succ d => exact .inl h
def spAl : Nat → Sp
  | 0 => fun _ _ _ _ => False
  | d + 1 => fun vs H Q _ => ∃ x y, vs = [x, y] ∧ AlikeV d H x y ∧ ∀ H', Same H H' → Q (.bl true) H'
theorem TupN.alike {H : Hp} {x y : V} {l : List Nat} (h : TupN H x l) (h' : TupN H y l) (hl : l.length ≤ 1000) : AlikeV 1 H x y := by
  obtain ⟨a, rfl, e1⟩ := h
  obtain ⟨b, rfl, e2⟩ := h'
  refine .inr ⟨a, b, _, _, rfl, rfl, e1, e2, rfl, by rw [iv_length]; exact hl, fun i u v q1 q2 => ?_⟩
  rw [q1] at q2
  cases q2
  obtain ⟨n, _, rfl⟩ := of_iv_get q1
  exact .inl ⟨_, rfl, rfl⟩
theorem FamT.alike {H : Hp} {x y : V} {F : Fam} (h : FamT H x F) (h' : FamT H y F) (hl : F.length ≤ 1000) (hb : ∀ bag ∈ F, bag.length ≤ 1000) : AlikeV 2 H x y := by
  obtain ⟨a, us, rfl, e1, p1⟩ := h
  obtain ⟨b, vs, rfl, e2, p2⟩ := h'
  refine .inr ⟨a, b, _, _, rfl, rfl, e1, e2, by rw [plen p1, plen p2], by rw [plen p1]; exact hl, fun i u v q1 q2 => ?_⟩
  obtain ⟨bag, hb1, t1⟩ := pget p1 q1
  obtain ⟨bag', hb2, t2⟩ := pget p2 q2
  rw [hb1] at hb2
  cases hb2
  exact t1.alike t2 (hb bag (List.mem_of_getElem? hb1))
theorem kit2 {K : PySem.W.Frag} {t : String} {b : Bool} (h : (kitB t "tuple" = some true ∧ b = true) ∨ (kitB t "tuple" = some false ∧ kitB t "list" = some b)) : PySem.W.kitAny K (.type t) [.type "tuple", .type "list"] = some b := by
  rcases h with ⟨h, rfl⟩ | ⟨h1, h2⟩
  · exact kitAny_cons (b := true) (kit_ty h) (fun z => nomatch z) fun _ => rfl
  · refine kitAny_cons (b := false) (kit_ty h1) (fun _ => ?_) fun z => nomatch z
    cases b with
    | true => exact kitAny_cons (b := true) (kit_ty h2) (fun z => nomatch z) fun _ => rfl
    | false => exact kitAny_cons (b := false) (kit_ty h2) (fun _ => kitAny_nil) fun z => nomatch z
theorem clsTL : Paired ClsV [V.ty "tuple", V.ty "list"] [.type "tuple", .type "list"] := .cons (.ty _) (.cons (.ty _) .nil)
theorem inV_iv {x : Nat} : ∀ {l : List Nat}, inV (.int (x : Int)) (iv l) = decide (x ∈ l)
  | [] => rfl
  | a :: l => by
    have ih := inV_iv (x := x) (l := l)
    show (eqV (.int (a : Int)) (.int (x : Int)) || inV (.int (x : Int)) (iv l)) = _
    rw [ih]
    show (((a : Int) == (x : Int)) || decide (x ∈ l)) = _
    by_cases e : a = x
    · subst e
      simp
    · have e1 : ((a : Int) == (x : Int)) = false := beq_eq_false_iff_ne.mpr (by omega)
      have e2 : ¬ x = a := fun z => e z.symm
      simp [e1, e2]
theorem flat_iv (l : List Nat) : (iv l).all flatV = true := List.all_eq_true.mpr fun v hv => by
  unfold iv at hv
  obtain ⟨n, _, rfl⟩ := List.mem_map.mp hv
  rfl
def OrdL (H : Hp) (v : V) (L : List (List Nat)) : Prop := ∃ p vs, v = .ref p ∧ H p = some (.lst vs) ∧ Paired (LstN H) vs L
theorem OrdL.mono {H H' : Hp} (e : Same H H') {v : V} {L : List (List Nat)} (h : OrdL H v L) : OrdL H' v L := by
  obtain ⟨p, vs, e1, e2, e3⟩ := h
  exact ⟨p, vs, e1, e _ _ e2, pmono (fun _ _ q => q.mono e) e3⟩
def spOrders : Sp := fun vs H Q _ => ∃ a : Addr, ∃ l : List Nat, vs = [.ref a] ∧ H a = some (.lst (iv l)) ∧ l.length ≤ 5 ∧ ∀ v H', Same H H' → OrdL H' v (ordersOf l) → Q v H'
def PairsL (H : Hp) (v : V) (L : List (Nat × Nat)) : Prop := ∃ p vs, v = .ref p ∧ H p = some (.lst vs) ∧ Paired (fun x q => TupN H x [q.1, q.2]) vs L
def spPours : Sp := fun vs H Q _ => ∃ n F v, vs = [v] ∧ FamT H v F ∧ Pre n F ∧ n ≤ 30 ∧ ∀ z H', Same H H' → PairsL H' z (poursOf F) → Q z H'
theorem fact_mono {a b : Nat} (h : a ≤ b) : fact a ≤ fact b := by
  induction b with
  | zero => rw [Nat.le_zero.mp h]; exact Nat.le_refl _
  | succ b ih =>
    by_cases e : a = b + 1
    · rw [e]; exact Nat.le_refl _
    · exact Nat.le_trans (ih (by omega)) (Nat.le_mul_of_pos_right _ (Nat.succ_pos _))
theorem orders_len' (l : List Nat) : (ordersOf l).length = fact l.length := by
  have h := orders_len l.reverse
  rw [List.reverse_reverse, List.length_reverse] at h
  exact h
theorem LstN.upd_ {H : Hp} {v : V} {l : List Nat} {D : Addr} {o : HO} (h : LstN H v l) (hD : ∀ p, v = .ref p → p ≠ D) : LstN (L2.upd H D o) v l := by
  obtain ⟨a, rfl, e⟩ := h
  exact ⟨a, rfl, by rw [upd_ne (hD a rfl)]; exact e⟩
theorem cut_take {l : List Nat} {k : Nat} (h : k ≤ l.length) : cutV (iv l) none (some (k : Int)) = iv (l.take k) := by
  unfold cutV
  rw [HT.sIx_none, HT.sIx_nat, List.drop_zero, Nat.sub_zero, iv_length, Nat.min_eq_left h]
  unfold iv
  rw [List.map_take]
theorem cut_drop {l : List Nat} {k : Nat} (h : k ≤ l.length) : cutV (iv l) (some (k : Int)) none = iv (l.drop k) := by
  unfold cutV
  rw [HT.sIx_none, HT.sIx_nat, iv_length, Nat.min_eq_left h, List.take_of_length_le (by rw [List.length_drop, iv_length]; omega)]
  unfold iv
  rw [List.map_drop]
section
variable {P : Program} {w : World} {K : PySem.W.Frag} {mg : Str → Option Value} {base : Heap}
theorem d_law_size (A : At K mg "_law_size" sLawSizeB ["_law_family_here"]) (T : Bi mg) : DefAt P w K mg base 1 "_law_size" ["_law_family_here"] spSize := A.mk' fun f fd F => by
  refine F.ok scLawSizeB (fun vs H Q E h => ?_) (fun cdv A outer s H vs Q E hr h => ?_)
  · obtain ⟨n, FF, v, rfl, _⟩ := h; rfl
  · obtain ⟨n, FF, v, rfl, ⟨a, us, rfl, ha, hp⟩, I, hn, q⟩ := h
    refine ⟨_, (pss_one (ps_ret (pe_op op_add pe_int (pMax (cMax K) T.max (pLcX [("_law_bag", 1)] scLawSizeB.nd (piSeq K (pv 0)) (N := ["_law_family_here", "_law_bag"]) (sc := (defScope sLawSizeB)) (by decide +kernel) (fun _ _ _ _ _ => (pgN 1 scLawSizeB.nd)) (fun _ _ _ _ _ => pts_nil) (fun _ _ _ _ _ => (pIx K (pv 1) (pe_un un_neg pe_int)))))))), ?_⟩
    have hu : us.length = FF.length := plen hp
    have hlen := I.len
    have hpos := I.pos
    obtain ⟨J, hw, sel⟩ := seq_sel (K := K) (.inr ha)
    refine ⟨_, rfl, a, rfl, sel _ fun D hD => lc_fm hw (RV0 fun i : Int => V.int i) (fun i => (FF[i]?).map fun bag => ((bag.getLastD 0 : Nat) : Int)) hD (fun _ e => e) YAt.same (fun _ _ _ _ _ r => r) (fun _ _ _ _ _ _ r => r) (by omega) ?_ ?_⟩
    · rintro i x H1 H2 Q1 Q0 hi s1 ⟨rfl, hx⟩ k1 k0
      obtain ⟨bag, hbag, c, rfl, hc⟩ := pget hp hx
      have hB := I.bags bag (List.mem_of_getElem? hbag)
      refine ⟨rfl, _, rfl, _, rfl, c, _, _, _, rfl, rfl, .inr (SqT.of (s1 _ _ hc)), iv_last (fun e => by rw [e] at hB; simp at hB), ?_⟩
      exact k1 _ _ _ (by rw [hbag]; rfl) (Same.refl _) rfl
    · intro H1 ys s1 hD1 hy
      have e := rV_map hy
      rw [hu, range_map_some (g := fun bag => ((bag.getLastD 0 : Nat) : Int)) (fun i b hb => by rw [hb]; rfl)] at e
      subst e
      refine ⟨D, _, rfl, SqL.of hD1, by rw [List.length_map]; omega, fun m hm hle => ?_⟩
      obtain ⟨bag, hb, rfl⟩ := List.mem_map.mp hm
      have e := I.top (m := bag.getLastD 0) (List.mem_map.mpr ⟨bag, hb, rfl⟩) fun y hy => by
        obtain ⟨bag', hb', rfl⟩ := List.mem_map.mp hy
        have := hle _ (List.mem_map.mpr ⟨bag', hb', rfl⟩)
        omega
      refine ⟨_, _, rfl, rfl, ?_⟩
      have e2 : (1 : Int) + ((bag.getLastD 0 : Nat) : Int) = (n : Nat) := by omega
      show Q (.int (1 + ((bag.getLastD 0 : Nat) : Int))) H1
      rw [e2]
      exact q _ s1
theorem d_alike_s (d : Nat) (A : At K mg "_law_alike" sLawAlike ["_law_found", "_law_due"]) (T : Bi mg) (D__law_alike : DefAt P w K mg base (d + 1) "_law_alike" ["_law_found", "_law_due"] (spAl d)) :
    DefAt P w K mg base (d + 2) "_law_alike" ["_law_found", "_law_due"] (spAl (d + 1)) := A.mk' fun f fd F => by
  refine F.ok scLawAlike (fun vs H Q E h => ?_) (fun cdv A outer s H vs Q E hr h => ?_)
  · obtain ⟨x, y, rfl, _⟩ := h; rfl
  · obtain ⟨x, y, rfl, hxy, q⟩ := h
    refine ⟨_, (pss_cons (ps_if (pt_val (pIsinst (cIsiT K) T.isinstance (pv 1) (pe_tup (pa_cons (pTy T.tuple rfl) (pa_cons (pTy T.list rfl) pa_nil))))) (pss_cons (ps_if (PW.pt (pw_or (pt_not (pt_val (pIsinst (cIsiT K) T.isinstance (pv 0) (pe_tup (pa_cons (pTy T.tuple rfl) (pa_cons (pTy T.list rfl) pa_nil)))))) (pw_or1 (pt_cmpR (op_ne) (pIsinst (cIsi K) T.isinstance (pv 0) (pTy T.list rfl)) (pIsinst (cIsi K) T.isinstance (pv 1) (pTy T.list rfl)) (nomark _))))) (pss_one (ps_ret pe_bl)) pss_nil)
      (pss_cons (ps_if (pt_cmpR (op_ne) (pLen (cLen K) T.len (pv 0)) (pLen (cLen K) T.len (pv 1)) (nomark _)) (pss_one (ps_ret pe_bl)) pss_nil)
      (pss_one (ps_ret (pe_cmpR (oEqD K hr) (pLcX [("_law_k", 2)] scLawAlike.nd (pi_range1 rfl T.range (pa_cons (pLen (cLen K) T.len (pv 1)) pa_nil)) (N := ["_law_found", "_law_due", "_law_k"]) (sc := (defScope sLawAlike)) (by decide +kernel) (fun _ _ _ _ _ => (pgN 2 scLawAlike.nd)) (fun _ _ _ _ _ => pts_one (pt_not (pt_val (pCall D__law_alike (hr) (pa_cons (pIx K (pv 0) (pv 2)) (pa_cons (pIx K (pv 1) (pv 2)) pa_nil)))))) (fun _ _ _ _ _ => (pv 2))) (pe_lst pa_nil) (nomark _)))))) pss_nil)
    (pss_cons (ps_if (PW.pt (pw_or (pt_cmpR (op_isN) (pv 1) pe_non (nomark _)) (pw_or1 (pt_val (pIsinst (cIsi K) T.isinstance (pv 1) (pTy T.str rfl)))))) (pss_one (ps_ret (pe_and (pe_cmpR (op_eq) (pv 0) (pv 1) (nomark _)) (pe_one (pe_cmpR (op_eq) (pIsinst (cIsi K) T.isinstance (pv 0) (pTy T.str rfl)) (pIsinst (cIsi K) T.isinstance (pv 1) (pTy T.str rfl)) (nomark _)))))) pss_nil)
    (pss_one (ps_ret (pe_and (pIsinst (cIsi K) T.isinstance (pv 0) (pTy T.int rfl)) (pe_and (pe_cmpR (op_eq) (pIsinst (cIsi K) T.isinstance (pv 0) (pTy T.bool rfl)) (pIsinst (cIsi K) T.isinstance (pv 1) (pTy T.bool rfl)) (nomark _)) (pe_one (pe_cmpR (op_eq) (pv 0) (pv 1) (nomark _))))))))), ?_⟩
    have cases2 : ((∃ i : Int, x = .int i ∧ y = .int i) ∨ ∃ b : Bool, x = .bl b ∧ y = .bl b) ∨ ∃ d' a b xs ys, d = d' + 1 ∧ x = .ref a ∧ y = .ref b ∧ H a = some (.tup xs) ∧ H b = some (.tup ys) ∧ xs.length = ys.length ∧ xs.length ≤ 1000 ∧ ∀ (i : Nat) u v, xs[i]? = some u → ys[i]? = some v → AlikeV d' H u v := by
      cases d with
      | zero => exact .inl hxy
      | succ d =>
        rcases hxy with h | ⟨a, b, xs, ys, h⟩
        · exact .inl h
        · exact .inr ⟨d, a, b, xs, ys, rfl, h⟩
    rcases cases2 with (⟨i, rfl, rfl⟩ | ⟨b, rfl, rfl⟩) | ⟨d', a, b, xs, ys, rfl, rfl, rfl, ha, hb, hl, hl2, hall⟩
    · refine ⟨_, rfl, (by show 2 ≤ sizeLine; decide), fun t nt => ⟨_, t, _, _, _, false, rfl, upd_same, clsTL, .base (.int i), kit2 (.inr ⟨by decide +kernel, by decide +kernel⟩), false, rfl, ?_⟩⟩
      have n1 := Same.new nt (.tup [V.ty "tuple", V.ty "list"])
      refine ⟨_, rfl, rfl, _, rfl, ?_⟩
      refine ⟨_, rfl, _, _, _, _, false, rfl, .ty _, .base (.int i), kit_ty (by decide +kernel), false, rfl, ?_⟩
      refine ⟨_, rfl, _, _, _, _, true, rfl, .ty _, .base (.int i), kit_ty (by decide +kernel), true, rfl, ?_⟩
      refine ⟨_, rfl, _, _, _, _, false, rfl, .ty _, .base (.int i), kit_ty (by decide +kernel), _, rfl, _, _, _, _, false, rfl, .ty _, .base (.int i), kit_ty (by decide +kernel), rfl, true, rfl, ?_⟩
      refine ⟨_, rfl, _, rfl, rfl, ?_⟩
      rw [decide_eq_true rfl]
      exact q _ n1
    · refine ⟨_, rfl, (by show 2 ≤ sizeLine; decide), fun t nt => ⟨_, t, _, _, _, false, rfl, upd_same, clsTL, .base (.bl b), kit2 (.inr ⟨by decide +kernel, by decide +kernel⟩), false, rfl, ?_⟩⟩
      have n1 := Same.new nt (.tup [V.ty "tuple", V.ty "list"])
      refine ⟨_, rfl, rfl, _, rfl, ?_⟩
      refine ⟨_, rfl, _, _, _, _, false, rfl, .ty _, .base (.bl b), kit_ty (by decide +kernel), false, rfl, ?_⟩
      refine ⟨_, rfl, _, _, _, _, true, rfl, .ty _, .base (.bl b), kit_ty (by decide +kernel), true, rfl, ?_⟩
      refine ⟨_, rfl, _, _, _, _, true, rfl, .ty _, .base (.bl b), kit_ty (by decide +kernel), _, rfl, _, _, _, _, true, rfl, .ty _, .base (.bl b), kit_ty (by decide +kernel), rfl, true, rfl, ?_⟩
      refine ⟨_, rfl, _, rfl, by cases b <;> rfl, ?_⟩
      rw [decide_eq_true rfl]
      exact q _ n1
    · refine ⟨_, rfl, (by show 2 ≤ sizeLine; decide), fun t nt => ?_⟩
      have n1 := Same.new nt (.tup [V.ty "tuple", V.ty "list"])
      refine ⟨_, t, _, _, _, true, rfl, upd_same, clsTL, .base (.tup (n1 _ _ hb)), kit2 (.inl ⟨by decide +kernel, rfl⟩), true, rfl, ?_⟩
      refine ⟨_, rfl, (by show 2 ≤ sizeLine; decide), fun t2 nt2 => ?_⟩
      have n2 := Same.new nt2 (.tup [V.ty "tuple", V.ty "list"])
      have ha2 := n2 _ _ (n1 _ _ ha)
      have hb2 := n2 _ _ (n1 _ _ hb)
      refine ⟨_, t2, _, _, _, true, rfl, upd_same, clsTL, .base (.tup ha2), kit2 (.inl ⟨by decide +kernel, rfl⟩), true, rfl, ?_⟩
      refine ⟨_, rfl, _, _, _, _, false, rfl, .ty _, .base (.tup ha2), kit_ty (by decide +kernel), _, rfl, _, _, _, _, false, rfl, .ty _, .base (.tup hb2), kit_ty (by decide +kernel), rfl, false, rfl, ?_⟩
      refine ⟨_, rfl, a, _, rfl, .inr (SqT.of ha2), _, rfl, b, _, rfl, .inr (SqT.of hb2), rfl, false, by rw [hl, decide_eq_true rfl]; rfl, ?_⟩
      refine ⟨_, rfl, b, _, rfl, .inr (SqT.of hb2), ys.length, rfl, by omega, by omega, fun D hD => lc_fm (walk_range (lo := 0) (n := ys.length)) (RV0 fun x : Nat => V.int (x : Int)) (fun _ => none) hD (fun _ _ => trivial) YFn.same (fun _ _ _ _ _ r => r) (fun _ _ _ _ _ _ r => r) (by omega) ?_ ?_⟩
      · rintro i x H1 H2 Q1 Q0 hi s1 ⟨rfl, rfl⟩ k1 k0
        have hx := List.getElem?_eq_getElem (l := xs) (i := i) (by omega)
        have hy := List.getElem?_eq_getElem (l := ys) (i := i) hi
        have ei : (0 : Int) + (i : Int) = (i : Int) := Int.zero_add _
        show gName 2 (V.int (0 + (i : Int))) _ _ _
        rw [ei]
        refine ⟨rfl, _, rfl, _, rfl, a, _, _, xs[i], rfl, rfl, .inr (SqT.of (s1 _ _ ha2)), atI_nat hx, _, rfl, _, rfl, b, _, _, ys[i], rfl, rfl, .inr (SqT.of (s1 _ _ hb2)), atI_nat hy, ?_⟩
        refine ⟨_, _, rfl, (hall i _ _ hx hy).mono ((n1.trans n2).trans s1), fun H3 s3 => ⟨true, rfl, ?_⟩⟩
        exact k0 rfl _ s3
      · intro H1 ys' s1 hD1 hy
        have e := rV_map hy
        have e2 : (List.range ys.length).filterMap (fun _ => (none : Option Nat)) = [] := List.filterMap_eq_nil_iff.mpr fun _ _ => rfl
        rw [e2] at e
        subst e
        refine ⟨Nat.zero_le _, fun p np => ⟨.list [], .list [], .lst (SqL.of (Same.new np _ _ _ hD1)) .nil, .lst (SqL.of upd_same) .nil, shaped_nil, shaped_nil, ?_⟩⟩
        exact q _ ((n1.trans n2).trans (s1.trans (Same.new np _)))
theorem d_alike (A : At K mg "_law_alike" sLawAlike ["_law_found", "_law_due"]) (T : Bi mg) : ∀ d : Nat, DefAt P w K mg base (d + 1) "_law_alike" ["_law_found", "_law_due"] (spAl d)
  | 0 => A.mk' fun f fd F => by
    refine F.ok scLawAlike (fun vs H Q E h => h.elim) (fun cdv A outer s H vs Q E hr h => h.elim)
  | d + 1 => d_alike_s d A T (d_alike A T d)
end
end Sb

/-! W14: orders, pours. -/
namespace Sb
open PySem L2
abbrev sLawOrders : Stmt := topS 46
theorem scLawOrders : FnScope ["_law_some", "_law_found", "_law_one", "_law_longer", "_law_told", "_law_at"] ["_law_some"] (defScope sLawOrders) := ⟨rfl, rfl, rfl, by decide +kernel, rfl, by decide +kernel, by decide +kernel⟩
abbrev sLawPours : Stmt := topS 41
theorem scLawPours : FnScope ["_law_family_here", "_law_found", "_law_one", "_law_other", "_law_bead"] ["_law_family_here"] (defScope sLawPours) := ⟨rfl, rfl, rfl, by decide +kernel, rfl, by decide +kernel, by decide +kernel⟩
/-- lc_fm, where a turn may know that the new list stands -/
theorem lc_fm2 {J : It} {n : Nat} {G : Hp → Prop} {Y : Nat → Hp → V → Hp → Prop} (w : Walk J n G Y) {β : Type} (R : Hp → V → β → Prop) (f : Nat → Option β) {g : TG} {tt : TT} {te : TE} {vs : List Nat} {σ : L2.St} {H1 : Hp} {D : Addr} {Qd : Hp → Prop}
    (hD : H1 D = none) (hG : ∀ H, Same H1 H → G H) (hY : ∀ i H x H', Y i H x H' → Same H H') (R1 : ∀ H H' v b, Same H H' → R H v b → R H' v b) (R2 : ∀ H v b acc acc', H D = some (.lst acc) → R H v b → R (upd H D (.lst acc')) v b) (hn : n ≤ 100000)
    (hs : ∀ i x H H' (Q1 : V → Hp → Prop) (Q0 : Hp → Prop), i < n → Same H1 H → (∃ ys, H D = some (.lst ys)) → Y i H x H' → (∀ y H4 b, f i = some b → Same H' H4 → R H4 y b → Q1 y H4) → (f i = none → ∀ H3, Same H' H3 → Q0 H3) →
      g x (wipe σ vs) H' fun σ2 H2 => wipe σ2 vs = wipe σ vs ∧ tt σ2 H2 fun b H3 => if b = true then te σ2 H3 Q1 else Q0 H3)
    (hd : ∀ H ys, Same H1 H → H D = some (.lst ys) → Paired (R H) ys ((List.range n).filterMap f) → Qd H) :
    ∃ W : Nat → Nat → Hp → Prop, (∃ m, W 0 m (upd H1 D (.lst []))) ∧ ∀ i m H, W i m H →
      (J.stop i H ∧ Qd H) ∨ (J.go i H ∧ ∃ Nx : Hp → Prop, (∀ H', Nx H' → ∃ m', m' < m ∧ W (i + 1) m' H') ∧ ∀ x H', J.yld i H x H' → g x (wipe σ vs) H' fun σ2 H2 => wipe σ2 vs = wipe σ vs ∧ tt σ2 H2 fun b H3 =>
        if b = true then te σ2 H3 fun y H4 => ∃ acc, H4 D = some (.lst acc) ∧ acc.length < sizeLine ∧ Nx (upd H4 D (.lst (acc ++ [y]))) else Nx H3) := by
  refine lc_it w (fun i H => Same H1 H ∧ ∃ ys, H D = some (.lst ys) ∧ Paired (R H) ys ((List.range i).filterMap f)) ⟨Same.new hD _, [], upd_same, .nil⟩ (fun i H _ p => hG H p.1) ?_ ?_
  · rintro i x H H' hi ⟨s, ys, hDy, hp⟩ hy
    have s' := hY _ _ _ _ hy
    refine hs i x H H' _ _ hi s ⟨ys, hDy⟩ hy ?_ ?_
    · intro y H4 b hb s4 r
      have hD4 : H4 D = some (.lst ys) := s4 _ _ (s' _ _ hDy)
      refine ⟨ys, hD4, ?_, Same.upd_ (s.trans (s'.trans s4)) hD _, ys ++ [y], upd_same, ?_⟩
      · rw [plen hp, sizeLine_eq]
        have := filterMap_range_len f i
        omega
      · rw [filterMap_range_succ, hb]
        refine pappend (pmono (fun v b r => R2 _ _ _ _ _ hD4 (R1 _ _ _ _ (s'.trans s4) r)) hp) (.cons (R2 _ _ _ _ _ hD4 r) .nil)
    · intro hb H3 s3
      refine ⟨s.trans (s'.trans s3), ys, s3 _ _ (s' _ _ hDy), ?_⟩
      rw [filterMap_range_succ, hb, List.append_nil]
      exact pmono (fun v b r => R1 _ _ _ _ (s'.trans s3) r) hp
  · rintro H ⟨s, ys, hDy, hp⟩
    exact hd H ys s hDy hp
def LstD (D : Addr) (H : Hp) (v : V) (l : List Nat) : Prop := ∃ a, v = .ref a ∧ a ≠ D ∧ H a = some (.lst (iv l))
theorem LstD.mono {D : Addr} {H H' : Hp} (e : Same H H') {v : V} {l : List Nat} (h : LstD D H v l) : LstD D H' v l := let ⟨a, e1, n, e2⟩ := h; ⟨a, e1, n, e a _ e2⟩
theorem LstD.upd_ {D : Addr} {H : Hp} {v : V} {l : List Nat} (h : LstD D H v l) (o : HO) : LstD D (L2.upd H D o) v l := let ⟨a, e1, n, e2⟩ := h; ⟨a, e1, n, by rw [upd_ne n]; exact e2⟩
theorem LstD.lst {D : Addr} {H : Hp} {v : V} {l : List Nat} (h : LstD D H v l) : LstN H v l := let ⟨a, e1, _, e2⟩ := h; ⟨a, e1, e2⟩
theorem range_some {β : Type} {n : Nat} {g : Nat → β} : (List.range n).filterMap (fun i => some (g i)) = (List.range n).map g := by
  rw [← List.filterMap_eq_map]
  rfl
section
variable {P : Program} {w : World} {K : PySem.W.Frag} {mg : Str → Option Value} {base : Heap}
theorem d_orders (A : At K mg "_law_orders" sLawOrders ["_law_some"]) (T : Bi mg) : DefAt P w K mg base 1 "_law_orders" ["_law_some"] spOrders := A.mk' fun f fd F => by
  refine F.ok scLawOrders (fun vs H Q E h => ?_) (fun cdv A outer s H vs Q E hr h => ?_)
  · obtain ⟨a, l, rfl, _⟩ := h; rfl
  · obtain ⟨a, l, rfl, ha, hl, q⟩ := h
    refine ⟨_, (pss_cons (ps_set (i := 1) scLawOrders.nd rfl (.inl rfl) (pe_lst (pa_cons (pe_lst pa_nil) pa_nil)))
    (pss_cons (ps_for PassesOwn.never rfl (piSeq K (pv 0)) (pg_name (i := 2) scLawOrders.nd rfl (Or.inr rfl))
      (pss_cons (ps_set (i := 3) scLawOrders.nd rfl (.inl rfl) (pe_lst pa_nil))
      (pss_cons (ps_for PassesOwn.never rfl (piSeq K (pv 1)) (pg_name (i := 4) scLawOrders.nd rfl (Or.inr rfl))
        (pss_one (ps_set (i := 3) scLawOrders.nd rfl (.inl rfl) (pe_op op_cat (pv 3) (pLcX [("_law_at", 5)] scLawOrders.nd (pi_range1 rfl T.range (pa_cons (pe_op op_add (pLen (cLen K) T.len (pv 4)) pe_int) pa_nil)) (N := ["_law_some", "_law_found", "_law_one", "_law_longer", "_law_told", "_law_at"]) (sc := (defScope sLawOrders)) (by decide +kernel) (fun _ _ _ _ _ => (pgN 5 scLawOrders.nd)) (fun _ _ _ _ _ => pts_nil) (fun _ _ _ _ _ => (pe_op op_cat (pe_op op_cat (pe_slice (sLstA K) (pv 4) po_none (po_some (pv 5))) (pe_lst (pa_cons (pv 2) pa_nil))) (pe_slice (sLstA K) (pv 4) (po_some (pv 5)) po_none))))))))
      (pss_one (ps_set (i := 1) scLawOrders.nd rfl (.inl rfl) (pv 3))))))
    (pss_one (ps_ret (pv 1))))), ?_⟩
    refine ⟨Nat.zero_le _, fun p0 np0 => ⟨(by show 1 ≤ sizeLine; decide), fun p1 np1 => ?_⟩⟩
    have n0 := Same.new np0 (.lst [])
    have n1 := Same.new np1 (.lst [.ref p0])
    refine ⟨_, rfl, a, rfl, .inl ⟨⟨_, SqL.of (n1 _ _ (n0 _ _ ha))⟩, for_it ((walk_list (K := K) (a := a) (xs := iv l)).mono (G' := Same H) (fun H' e => SqL.of (e _ _ ha)) (fun _ _ _ _ _ _ y => y))
      (fun i σ H' => ∃ v1 a2 a3 a4, σ = [some (.ref a), some v1, a2, a3, a4, none] ∧ Same H H' ∧ OrdL H' v1 (ordersOf (l.take i))) ⟨_, _, _, _, rfl, n0.trans n1, p1, [.ref p0], rfl, upd_same, .cons ⟨p0, rfl, by rw [n1 _ _ upd_same]; rfl⟩ .nil⟩ (fun _ _ _ _ ⟨_, _, _, _, _, e, _⟩ => e) ?_ ?_⟩⟩
    · rintro i x σ H1 H2 hi ⟨v1, a2, a3, a4, rfl, s1, O1⟩ ⟨rfl, hx⟩
      obtain ⟨one, hone, rfl⟩ := of_iv_get hx
      obtain ⟨pf, vsf, rfl, hpf, hpd⟩ := O1
      rw [iv_length] at hi
      have hfl : vsf.length = fact i := by rw [plen hpd, orders_len', List.length_take, Nat.min_eq_left (by omega)]
      have hf120 : fact i ≤ 120 := Nat.le_trans (fact_mono (show i ≤ 5 by omega)) (by decide)
      have hll : ∀ t ∈ ordersOf (l.take i), t.length = i := fun t ht => by
        rw [(mem_orders.mp ht).length_eq, List.length_take, Nat.min_eq_left (by omega)]
      refine ⟨Nat.zero_le _, fun p2 np2 => ?_⟩
      have n2 := Same.new np2 (.lst [])
      refine ⟨_, rfl, pf, rfl, .inl ⟨⟨_, SqL.of (n2 _ _ hpf)⟩, for_it ((walk_list (K := K) (a := pf) (xs := vsf)).mono (G' := Same H2) (fun H' e => SqL.of (e _ _ hpf)) (fun _ _ _ _ _ _ y => y))
        (fun j σ H' => ∃ v3 a4, σ = [some (.ref a), some (.ref pf), some (.int (one : Nat)), some v3, a4, none] ∧ Same H2 H' ∧ OrdL H' v3 (((ordersOf (l.take i)).take j).flatMap (addAt one))) ⟨_, _, rfl, n2, p2, [], rfl, upd_same, .nil⟩ (fun _ _ _ _ ⟨_, _, _, e, _⟩ => e) ?_ ?_⟩⟩
      · rintro j x σ H3 H4 hj ⟨v3, a4, rfl, s3, pl, vsl, rfl, hpl, hpdl⟩ ⟨rfl, hx⟩
        obtain ⟨told, htold, at_, rfl, hat⟩ := pget hpd hx
        have htl := hll told (List.mem_of_getElem? htold)
        have hat3 := s3 _ _ hat
        refine ⟨_, rfl, _, rfl, at_, _, rfl, .inl (SqL.of hat3), _, _, rfl, rfl, ((i + 1 : Nat) : Int), ?_, by omega, by omega, fun D hD => lc_fm2 (walk_range (lo := 0) (n := i + 1)) (LstD D) (fun k => some (told.take k ++ [one] ++ told.drop k)) hD (fun _ _ => trivial) YFn.same (fun _ _ _ _ e r => r.mono e) (fun _ _ _ _ _ _ r => r.upd_ _) (by omega) ?_ ?_⟩
        · rw [iv_length, htl]
          rfl
        · rintro k x H5 H6 Q1 Q0 hk s5 ⟨ys, hys⟩ ⟨rfl, rfl⟩ k1 k0
          have ek : (0 : Int) + (k : Int) = (k : Int) := Int.zero_add _
          show gName 5 (V.int (0 + (k : Int))) _ _ _
          rw [ek]
          have hat5 := s5 _ _ hat3
          refine ⟨rfl, _, rfl, _, rfl, _, rfl, at_, _, rfl, SqL.of hat5, fun q1 nq1 => ?_⟩
          rw [cut_take (by omega)]
          have m1 := Same.new nq1 (.lst (iv (told.take k)))
          refine ⟨_, rfl, (by show 1 ≤ sizeLine; decide), fun q2 nq2 => ?_⟩
          have m2 := Same.new nq2 (.lst [.int (one : Nat)])
          refine ⟨q1, q2, _, _, rfl, rfl, m2 _ _ upd_same, upd_same, by rw [iv_length, List.length_take, sizeLine_eq]; simp; omega, fun q3 nq3 => ?_⟩
          have m3 := Same.new nq3 (.lst (iv (told.take k) ++ [.int (one : Nat)]))
          refine ⟨_, rfl, _, rfl, _, rfl, at_, _, rfl, SqL.of (m3 _ _ (m2 _ _ (m1 _ _ hat5))), fun q4 nq4 => ?_⟩
          rw [cut_drop (by omega)]
          have m4 := Same.new nq4 (.lst (iv (told.drop k)))
          refine ⟨q3, q4, _, _, rfl, rfl, m4 _ _ upd_same, upd_same, by rw [iv_length, List.length_append, iv_length, List.length_take, List.length_drop, sizeLine_eq]; simp; omega, fun q5 nq5 => ?_⟩
          have m5 := Same.new nq5 (.lst (iv (told.take k) ++ [.int (one : Nat)] ++ iv (told.drop k)))
          refine k1 _ _ _ rfl (m1.trans (m2.trans (m3.trans (m4.trans m5)))) ⟨q5, rfl, ?_, ?_⟩
          · have := m4 _ _ (m3 _ _ (m2 _ _ (m1 _ _ hys)))
            exact (ne_of_none this nq5).symm
          · rw [upd_same, iv_append, iv_append]
            rfl
        · intro H5 ys s5 hD5 hy
          rw [range_some] at hy
          have hyl : ys.length = i + 1 := by rw [plen hy, List.length_map, List.length_range]
          have hvl : vsl.length ≤ 720 := by
            have e := plen hpdl
            rw [List.length_flatMap] at e
            have e2 : ((((ordersOf (l.take i)).take j).map fun t => (addAt one t).length)).sum ≤ 6 * ((ordersOf (l.take i)).take j).length := sum_le_mul fun t ht => by
              unfold addAt
              rw [List.length_map, List.length_range, hll t (List.mem_of_mem_take ht)]
              omega
            have e3 : ((ordersOf (l.take i)).take j).length ≤ 120 := by
              rw [List.length_take, ← plen hpd, hfl]
              omega
            omega
          refine ⟨pl, D, vsl, ys, rfl, rfl, s5 _ _ hpl, hD5, by rw [sizeLine_eq]; omega, fun q1 nq1 => ?_⟩
          have m1 := Same.new nq1 (.lst (vsl ++ ys))
          refine ⟨_, _, rfl, (s3.trans s5).trans m1, q1, _, rfl, upd_same, ?_⟩
          rw [List.take_add_one, htold, Option.toList_some, List.flatMap_append]
          refine pappend (pmono (fun _ _ r => (r.mono s5).mono m1) hpdl) ?_
          have e : [told].flatMap (addAt one) = (List.range (i + 1)).map fun k => told.take k ++ [one] ++ told.drop k := by
            rw [List.flatMap_singleton]
            unfold addAt
            rw [htl]
          rw [e]
          exact pmono (fun _ _ r => r.lst.mono m1) hy
      · rintro σ H3 ⟨v3, a4, rfl, s3, O3⟩
        refine ⟨_, rfl, _, _, _, _, rfl, s1.trans s3, ?_⟩
        have e : l.take (i + 1) = l.take i ++ [one] := by rw [List.take_add_one, hone]; rfl
        rw [e, ordersOf_snoc]
        rw [plen hpd, List.take_length] at O3
        exact O3
    · rintro σ H1 ⟨v1, a2, a3, a4, rfl, s1, O1⟩
      rw [iv_length, List.take_length] at O1
      exact ⟨_, rfl, q _ _ s1 O1⟩
theorem d_pours (A : At K mg "_law_pours" sLawPours ["_law_family_here"]) (T : Bi mg) : DefAt P w K mg base 1 "_law_pours" ["_law_family_here"] spPours := A.mk' fun f fd F => by
  refine F.ok scLawPours (fun vs H Q E h => ?_) (fun cdv A outer s H vs Q E hr h => ?_)
  · obtain ⟨n, FF, v, rfl, _⟩ := h; rfl
  · obtain ⟨n, FF, v, rfl, ⟨a, us, rfl, ha, hp⟩, I, hn, q⟩ := h
    refine ⟨_, (pss_cons (ps_set (i := 1) scLawPours.nd rfl (.inl rfl) (pe_lst pa_nil))
    (pss_cons (ps_for PassesOwn.never rfl (pi_range1 rfl T.range (pa_cons (pLen (cLen K) T.len (pv 0)) pa_nil)) (pg_name (i := 2) scLawPours.nd rfl (Or.inl rfl))
      (pss_one (ps_for PassesOwn.never rfl (pi_range2 rfl T.range (pa_cons (pe_op op_add (pv 2) pe_int) (pa_cons (pLen (cLen K) T.len (pv 0)) pa_nil))) (pg_name (i := 3) scLawPours.nd rfl (Or.inr rfl))
        (pss_one (ps_if (pt_cmpR (oNeD K hr) (pLcX [("_law_bead", 4)] scLawPours.nd (piSeq K (pIx K (pv 0) (pv 2))) (N := ["_law_family_here", "_law_found", "_law_one", "_law_other", "_law_bead"]) (sc := (defScope sLawPours)) (by decide +kernel) (fun _ _ _ _ _ => (pgN 4 scLawPours.nd)) (fun _ _ _ _ _ => pts_one (pt_cmpR (oInS K) (pv 4) (pIx K (pv 0) (pv 3)) rfl)) (fun _ _ _ _ _ => (pv 4))) (pe_lst pa_nil) (nomark _)) (pss_one (ps_expr (pe_bm PySem.F.plainAttrs_list PySem.F.slot_list_append PySem.F.type_list_append mt_append (pv 1) (pa_cons (pe_tup (pa_cons (pv 2) (pa_cons (pv 3) pa_nil))) pa_nil)))) pss_nil)))))
    (pss_one (ps_ret (pv 1))))), ?_⟩
    have hu : us.length = FF.length := plen hp
    have hlen := I.len
    refine ⟨Nat.zero_le _, fun p np => ?_⟩
    have n0 := Same.new np (.lst [])
    refine ⟨_, rfl, a, _, rfl, .inr (SqT.of (n0 _ _ ha)), us.length, rfl, by omega, by omega, for_it (walk_range (lo := 0) (n := us.length))
      (fun i σ H' => ∃ a2 a3, σ = [some (.ref a), some (.ref p), a2, a3, none] ∧ Same H H' ∧ ∃ vs, H' p = some (.lst vs) ∧ Paired (fun x q => TupN H' x [q.1, q.2]) vs ((List.range i).flatMap fun i => ((List.range (FF.length - (i + 1))).map fun k => (i, i + 1 + k)).filter fun p => shares FF p.1 p.2))
      ⟨_, _, rfl, n0, [], upd_same, .nil⟩ (fun _ _ _ _ _ => trivial) ?_ ?_⟩
    · rintro i x σ H1 H2 hi ⟨a2, a3, rfl, s1, vs, hvs, hpv⟩ ⟨rfl, rfl⟩
      have ei : (0 : Int) + (i : Int) = (i : Int) := Int.zero_add _
      show gName 2 (V.int (0 + (i : Int))) _ _ _
      rw [ei]
      have hvl : vs.length ≤ 900 := by
        have e := plen hpv
        rw [List.length_flatMap] at e
        have e2 : ((List.range i).map fun i => (((List.range (FF.length - (i + 1))).map fun k => (i, i + 1 + k)).filter fun p => shares FF p.1 p.2).length).sum ≤ 30 * (List.range i).length := sum_le_mul fun t ht => by
          have := List.length_filter_le (fun p : Nat × Nat => shares FF p.1 p.2) ((List.range (FF.length - (t + 1))).map fun k => (t, t + 1 + k))
          rw [List.length_map, List.length_range] at this
          omega
        rw [List.length_range] at e2
        omega
      have em : (((us.length : Int)) - ((i : Int) + 1)).toNat = FF.length - (i + 1) := by omega
      refine ⟨_, rfl, _, _, rfl, rfl, _, rfl, a, _, rfl, .inr (SqT.of (s1 _ _ ha)), _, _, rfl, by omega, for_it (walk_range (lo := (i : Int) + 1) (n := (((us.length : Int)) - ((i : Int) + 1)).toNat))
        (fun k σ H' => ∃ a3, σ = [some (.ref a), some (.ref p), some (.int (i : Nat)), a3, none] ∧ Same H H' ∧ ∃ ws, H' p = some (.lst (vs ++ ws)) ∧ Paired (fun x q => TupN H' x [q.1, q.2]) (vs ++ ws) (((List.range i).flatMap fun i => ((List.range (FF.length - (i + 1))).map fun k => (i, i + 1 + k)).filter fun p => shares FF p.1 p.2) ++ ((List.range k).map fun k => (i, i + 1 + k)).filter fun p => shares FF p.1 p.2) ∧ ws.length ≤ k)
        ⟨_, rfl, s1, [], by rw [List.append_nil]; exact hvs, by rw [List.append_nil]; simpa using hpv, Nat.le_refl _⟩ (fun _ _ _ _ _ => trivial) ?_ ?_⟩
      · rintro k x σ H3 H4 hk ⟨a3, rfl, s3, ws, hws, hpw, hwl⟩ ⟨rfl, rfl⟩
        have hkm : i + 1 + k < FF.length := by omega
        have him : i < FF.length := by omega
        have ek : (i : Int) + 1 + (k : Int) = ((i + 1 + k : Nat) : Int) := by omega
        show gName 3 (V.int ((i : Int) + 1 + (k : Int))) _ _ _
        rw [ek]
        obtain ⟨x1, hx1, c1, rfl, hc1⟩ := pget' hp (bagAt_lt him)
        obtain ⟨x2, hx2, c2, rfl, hc2⟩ := pget' hp (bagAt_lt hkm)
        have ha3 := s3 _ _ ha
        obtain ⟨J, hw, sel⟩ := seq_sel (K := K) (.inr (s3 _ _ hc1))
        have hb1 := I.blen (bagAt_mem him)
        refine ⟨_, rfl, _, rfl, a, us, _, .ref c1, rfl, rfl, .inr (SqT.of ha3), atI_nat hx1, c1, rfl, sel _ fun D hD => lc_fm hw (RV0 fun x : Nat => V.int (x : Int)) (fun t => ((bagAt FF i)[t]?).bind fun b => if b ∈ bagAt FF (i + 1 + k) then some b else none) hD (fun _ e => e) YAt.same (fun _ _ _ _ _ r => r) (fun _ _ _ _ _ _ r => r) (by rw [iv_length]; omega) ?_ ?_⟩
        · rintro t x H5 H6 Q1 Q0 ht s5 ⟨rfl, hx⟩ k1 k0
          obtain ⟨b, hb, rfl⟩ := of_iv_get hx
          refine ⟨rfl, _, rfl, _, rfl, _, rfl, a, us, _, .ref c2, rfl, rfl, .inr (SqT.of (s5 _ _ ha3)), atI_nat hx2, c2, _, rfl, .inr (SqT.of (s5 _ _ (s3 _ _ hc2))), rfl, flat_iv _, ?_⟩
          refine ⟨_, rfl, ?_⟩
          rw [inV_iv]
          by_cases m : b ∈ bagAt FF (i + 1 + k)
          · rw [decide_eq_true m]
            exact ⟨_, rfl, k1 _ _ b (by rw [hb]; exact if_pos m) (Same.refl _) rfl⟩
          · rw [decide_eq_false m]
            exact k0 (by rw [hb]; exact if_neg m) _ (Same.refl _)
        · intro H5 ys s5 hD5 hy
          have e := rV_map hy
          rw [iv_length, range_filter_some (g := id) (p := fun b => decide (b ∈ bagAt FF (i + 1 + k))) (fun t b hb => by rw [hb]; simp), List.map_id] at e
          have hD5 : H5 D = some (.lst (iv ((bagAt FF i).filter fun b => decide (b ∈ bagAt FF (i + 1 + k))))) := by rw [hD5, e]; rfl
          refine ⟨Nat.zero_le _, fun t nt => ?_⟩
          have nt1 := Same.new nt (.lst [])
          have s6 := (s3.trans s5).trans nt1
          refine ⟨.list (((bagAt FF i).filter fun b => decide (b ∈ bagAt FF (i + 1 + k))).map dI), .list [], .lst (SqL.of (nt1 _ _ hD5)) (dpAll_iv _), .lst (SqL.of upd_same) .nil, shaped_iv _, shaped_nil, _, rfl, ?_⟩
          have hws5 := nt1 _ _ (s5 _ _ hws)
          have hpw5 := pmono (fun _ _ (r : TupN H4 _ _) => (r.mono s5).mono nt1) hpw
          have er : ((List.range (k + 1)).map fun k => (i, i + 1 + k)).filter (fun p => shares FF p.1 p.2) = ((List.range k).map fun k => (i, i + 1 + k)).filter (fun p => shares FF p.1 p.2) ++ if shares FF i (i + 1 + k) then [(i, i + 1 + k)] else [] := by
            rw [List.range_succ, List.map_append, List.filter_append]
            congr 1
            cases h : shares FF i (i + 1 + k) <;> simp [h]
          by_cases c : shares FF i (i + 1 + k) = true
          · have hne : (bagAt FF i).filter (fun b => decide (b ∈ bagAt FF (i + 1 + k))) ≠ [] := fun z => by
              obtain ⟨b, hb1, hb2⟩ := List.any_eq_true.mp c
              have : b ∈ (bagAt FF i).filter fun b => decide (b ∈ bagAt FF (i + 1 + k)) := List.mem_filter.mpr ⟨hb1, hb2⟩
              rw [z] at this
              cases this
            rw [eqv_ne_nil hne]
            refine ⟨_, rfl, .inl ⟨rfl, _, SqL.of hws5⟩, _, rfl, _, rfl, (by show 2 ≤ sizeLine; decide), fun t2 nt2 => ?_⟩
            have nt22 := Same.new nt2 (.tup [.int (i : Nat), .int ((i + 1 + k : Nat) : Int)])
            have hws6 := nt22 _ _ hws5
            refine ⟨p, _, _, rfl, rfl, hws6, by rw [List.length_append, sizeLine_eq]; omega, ?_⟩
            refine ⟨_, rfl, Same.upd_ (s6.trans nt22) np _, ws ++ [.ref t2], by rw [upd_same, List.append_assoc], ?_, by rw [List.length_append]; simp; omega⟩
            rw [er, if_pos c, ← List.append_assoc, ← List.append_assoc]
            refine pappend (pmono (fun _ _ (r : TupN _ _ _) => (r.mono nt22).upd hws6) hpw5) (.cons ?_ .nil)
            exact TupN.upd ⟨t2, rfl, upd_same⟩ hws6
          · have c' : shares FF i (i + 1 + k) = false := by cases h : shares FF i (i + 1 + k) with | true => exact absurd h c | false => rfl
            have hnil : (bagAt FF i).filter (fun b => decide (b ∈ bagAt FF (i + 1 + k))) = [] := List.filter_eq_nil_iff.mpr fun b hb z => c (List.any_eq_true.mpr ⟨b, hb, z⟩)
            rw [hnil]
            refine ⟨_, rfl, s6, ws, hws5, ?_, by omega⟩
            rw [er, c', if_neg (by decide), List.append_nil]
            exact hpw5
      · rintro σ H3 ⟨a3, rfl, s3, ws, hws, hpw, hwl⟩
        refine ⟨_, _, rfl, s3, _, hws, ?_⟩
        rw [em] at hpw
        rw [List.range_succ, List.flatMap_append, List.flatMap_singleton]
        exact hpw
    · rintro σ H1 ⟨a2, a3, rfl, s1, vs, hvs, hpv⟩
      rw [hu] at hpv
      exact ⟨_, rfl, q _ _ s1 ⟨p, vs, rfl, hvs, hpv⟩⟩
end
end Sb

/-! W15: pour, part. -/
namespace Sb
open PySem L2
abbrev sLawPour : Stmt := topS 42
theorem scLawPour : FnScope ["_law_family_here", "_law_one", "_law_other", "_law_rest", "_law_at"] ["_law_family_here", "_law_one", "_law_other"] (defScope sLawPour) := ⟨rfl, rfl, rfl, by decide +kernel, rfl, by decide +kernel, by decide +kernel⟩
def spPour : Sp := fun vs H Q _ => ∃ n F v, ∃ i j : Nat, vs = [v, .int (i : Int), .int (j : Int)] ∧ FamT H v F ∧ Pre n F ∧ n ≤ 30 ∧ i < F.length ∧ j < F.length ∧ ∀ z H', Same H H' → FamT H' z (pourF F i j) → Q z H'
def spPart (K : PySem.W.Frag) : Sp := fun vs H Q _ => ∃ r s ns n F v, vs = [.ref r, v] ∧ Row K H r s ns ∧ FamT H v F ∧ Pre n F ∧ n ≤ 30 ∧
  ∀ z H' G, (G = F ∨ ∃ (at_ : Nat) (m : List Nat) (cut : Nat), at_ < F.length ∧ 2 < (bagAt F at_).length ∧ m.Perm (bagAt F at_) ∧ 2 ≤ cut ∧ cut < m.length ∧ G = partF F at_ m cut) → SameB r H H' → Row K H' r s ns → FamT H' z G → Q z H'
theorem cutT_take {l : List V} {k : Nat} (h : k ≤ l.length) : cutV l none (some (k : Int)) = l.take k := by
  unfold cutV
  rw [HT.sIx_none, HT.sIx_nat, List.drop_zero, Nat.sub_zero, Nat.min_eq_left h]
theorem cutT_drop {l : List V} {k : Nat} (h : k ≤ l.length) : cutV l (some (k : Int)) none = l.drop k := by
  unfold cutV
  rw [HT.sIx_none, HT.sIx_nat, Nat.min_eq_left h, List.take_of_length_le (by rw [List.length_drop]; omega)]
section
variable {P : Program} {w : World} {K : PySem.W.Frag} {mg : Str → Option Value} {base : Heap}
theorem d_pour (A : At K mg "_law_pour" sLawPour ["_law_family_here", "_law_one", "_law_other"]) (T : Bi mg) : DefAt P w K mg base 1 "_law_pour" ["_law_family_here", "_law_one", "_law_other"] spPour := A.mk' fun f fd F => by
  refine F.ok scLawPour (fun vs H Q E h => ?_) (fun cdv A outer s H vs Q E hr h => ?_)
  · obtain ⟨n, FF, v, i, j, rfl, _⟩ := h; rfl
  · obtain ⟨n, FF, v, i, j, rfl, ⟨a, us, rfl, ha, hp⟩, I, hn, hi, hj, q⟩ := h
    refine ⟨_, (pss_cons (sLcX 3 [("_law_at", 4)] scLawPour.nd (pi_range1 rfl T.range (pa_cons (pLen (cLen K) T.len (pv 0)) pa_nil)) (N := ["_law_family_here", "_law_one", "_law_other", "_law_rest", "_law_at"]) (sc := (defScope sLawPour)) (by decide +kernel) (fun _ _ _ _ _ => (pgN 4 scLawPour.nd)) (fun _ _ _ _ _ => pts_one (pt_cmpR (oNotInS K) (pv 4) (pe_tup (pa_cons (pv 1) (pa_cons (pv 2) pa_nil))) rfl)) (fun _ _ _ _ _ => (pIx K (pv 0) (pv 4))) (by decide +kernel))
    (pss_one (ps_ret (pTuple (cTup K) T.tuple (pSorted (cSortT K hr) T.sorted (pe_op op_cat (pv 3) (pe_lst (pa_cons (pTuple (cTup K) T.tuple (pSorted (cSortSet w) T.sorted (pSet (cSetTI K w) T.set (pe_op (oCatT K) (pIx K (pv 0) (pv 1)) (pIx K (pv 0) (pv 2)))))) pa_nil)))))))), ?_⟩
    have hu : us.length = FF.length := plen hp
    have hlen := I.len
    have hf : (List.range us.length).filterMap (fun k => if (decide (k = i) || decide (k = j)) = true then none else some (bagAt FF k)) = ((List.range FF.length).filter fun k => !(decide (k = i) || decide (k = j))).map (bagAt FF) := by
      rw [hu]
      have e := range_filter_some (l := List.range FF.length) (f := fun k => if (decide (k = i) || decide (k = j)) = true then none else some (bagAt FF k)) (g := bagAt FF) (p := fun k => !(decide (k = i) || decide (k = j))) (fun k b hb => by
        have hk := (List.getElem?_eq_some_iff.mp hb).1
        rw [List.length_range] at hk
        rw [List.getElem?_range hk] at hb
        cases hb
        cases decide (k = i) || decide (k = j) <;> rfl)
      rw [List.length_range] at e
      exact e
    refine ⟨_, rfl, a, us, rfl, .inr (SqT.of ha), us.length, rfl, by omega, by omega, fun D hD => lc_fm (walk_range (lo := 0) (n := us.length)) TupN (fun k => if (decide (k = i) || decide (k = j)) = true then none else some (bagAt FF k)) hD (fun _ _ => trivial) YFn.same (fun _ _ _ _ e r => r.mono e) (fun _ _ _ _ _ hD r => r.upd hD) (by omega) ?_ ?_⟩
    · rintro k x H1 H2 Q1 Q0 hk s1 ⟨rfl, rfl⟩ k1 k0
      have ek : (0 : Int) + (k : Int) = (k : Int) := Int.zero_add _
      show gName 4 (V.int (0 + (k : Int))) _ _ _
      rw [ek]
      refine ⟨rfl, _, rfl, _, rfl, _, rfl, (by show 2 ≤ sizeLine; decide), fun t nt => ?_⟩
      have nt1 := Same.new nt (.tup [.int (i : Nat), .int (j : Nat)])
      refine ⟨t, _, rfl, .inr (SqT.of upd_same), rfl, rfl, ?_⟩
      have ein : inV (.int (k : Int)) [.int (i : Nat), .int (j : Nat)] = (decide (k = i) || decide (k = j)) := by
        have e := inV_iv (x := k) (l := [i, j])
        have e2 : (iv [i, j]) = [V.int (i : Nat), V.int (j : Nat)] := rfl
        rw [e2] at e
        rw [e]
        by_cases h1 : k = i <;> by_cases h2 : k = j <;> simp [h1, h2]
      refine ⟨_, rfl, ?_⟩
      rw [ein]
      obtain ⟨x1, hx1, tn⟩ := pget' hp (bagAt_lt (F := FF) (i := k) (by omega))
      cases hc : (decide (k = i) || decide (k = j)) with
      | true => exact k0 (if_pos hc) _ nt1
      | false =>
        refine ⟨_, rfl, _, rfl, a, us, _, x1, rfl, rfl, .inr (SqT.of (nt1 _ _ (s1 _ _ ha))), atI_nat hx1, ?_⟩
        exact k1 _ _ (bagAt FF k) (if_neg (by rw [hc]; decide)) nt1 ((tn.mono s1).mono nt1)
    · intro H1 ys s1 hD1 hy
      rw [hf] at hy
      have ha1 := s1 _ _ ha
      obtain ⟨x1, hx1, c1, rfl, hc1⟩ := pget' hp (bagAt_lt hi)
      obtain ⟨x2, hx2, c2, rfl, hc2⟩ := pget' hp (bagAt_lt hj)
      have hB1 := I.bag hi
      have hB2 := I.bag hj
      have hb1 := I.blen (bagAt_mem hi)
      have hb2 := I.blen (bagAt_mem hj)
      have nz1 : iv (bagAt FF i) ≠ [] := fun e => by have h0 := congrArg List.length e; rw [iv_length, List.length_nil] at h0; omega
      have nz2 : iv (bagAt FF j) ≠ [] := fun e => by have h0 := congrArg List.length e; rw [iv_length, List.length_nil] at h0; omega
      refine ⟨_, rfl, _, rfl, _, rfl, a, us, _, .ref c1, rfl, rfl, .inr (SqT.of ha1), atI_nat hx1, _, rfl, _, rfl, a, us, _, .ref c2, rfl, rfl, .inr (SqT.of ha1), atI_nat hx2, c1, c2, _, _, rfl, rfl, SqT.of (s1 _ _ hc1), SqT.of (s1 _ _ hc2), by rw [iv_length, iv_length, sizeLine_eq]; omega, fun z => absurd z nz1, fun _ z => absurd z nz2, fun _ _ p np => ?_⟩
      have n1 := Same.new np (.tup (iv (bagAt FF i) ++ iv (bagAt FF j)))
      refine ⟨p, bagAt FF i ++ bagAt FF j, rfl, SqT.of (by rw [iv_append]; exact upd_same), by rw [List.length_append]; omega, fun p2 c np2 hcl => ?_⟩
      refine ⟨p2, _, c, rfl, upd_same, by rw [List.length_append] at hcl; omega, fun ns p3 hpw hmem hl np3 => ?_⟩
      have en := sorted_set_nats hpw hmem
      subst en
      rw [← iv_int]
      have n2 := Same.new np2 (SetO w p2 (fun j_1 => decide (j_1 ∈ (bagAt FF i ++ bagAt FF j).map fun n : Nat => (n : Int))) c)
      have n3 := Same.new np3 (.lst (iv (sortN (uniq (bagAt FF i ++ bagAt FF j)))))
      refine ⟨p3, _, rfl, .inl ⟨SqL.of upd_same, fun p4 np4 => ?_⟩⟩
      have n4 := Same.new np4 (.tup (iv (sortN (uniq (bagAt FF i ++ bagAt FF j)))))
      refine ⟨(by show 1 ≤ sizeLine; decide), fun p5 np5 => ?_⟩
      have n5 := Same.new np5 (.lst [.ref p4])
      have s2 := ((n1.trans n2).trans (n3.trans n4)).trans n5
      have hyl : ys.length ≤ 60 := by
        have e := plen hy
        rw [List.length_map] at e
        have := List.length_filter_le (fun k => !(decide (k = i) || decide (k = j))) (List.range FF.length)
        rw [List.length_range] at this
        omega
      refine ⟨D, p5, _, _, rfl, rfl, s2 _ _ hD1, upd_same, by rw [sizeLine_eq]; simp; omega, fun p6 np6 => ?_⟩
      have n6 := Same.new np6 (.lst (ys ++ [.ref p4]))
      have hall : Paired (TupN _) (ys ++ [V.ref p4]) (((List.range FF.length).filter fun k => !(decide (k = i) || decide (k = j))).map (bagAt FF) ++ [sortN (uniq (bagAt FF i ++ bagAt FF j))]) :=
        pappend (pmono (fun _ _ r => (r.mono s2).mono n6) hy) (.cons ⟨p4, rfl, n6 _ _ (n5 _ _ upd_same)⟩ .nil)
      refine ⟨p6, _, _, rfl, SqL.of upd_same, hall, fun b hb => ?_, by rw [← plen hall, List.length_append]; simp; omega, fun zs p7 hz np7 => ⟨p7, zs, rfl, .inl ⟨SqL.of upd_same, fun p8 np8 => ?_⟩⟩⟩
      · intro e
        subst e
        rcases List.mem_append.mp hb with h | h
        · obtain ⟨k, hk, e⟩ := List.mem_map.mp h
          have hkm := List.mem_range.mp (List.mem_filter.mp hk).1
          have := (I.bag hkm).2.1
          rw [e] at this
          simp at this
        · have e := List.mem_singleton.mp h
          have hx : (bagAt FF i).headD 0 ∈ sortN (uniq (bagAt FF i ++ bagAt FF j)) := by
            rw [(sortN_perm _).mem_iff, mem_uniq]
            refine List.mem_append_left _ ?_
            cases hb : bagAt FF i with
            | nil => rw [hb] at hB1; simp at hB1
            | cons x r => simp
          rw [← e] at hx
          cases hx
      · have n7 := Same.new np7 (.lst zs)
        have n8 := Same.new np8 (.tup zs)
        exact q _ _ ((s1.trans s2).trans (n6.trans (n7.trans n8))) ⟨p8, zs, rfl, upd_same, pmono (fun _ _ r => (r.mono n7).mono n8) hz⟩
end
end Sb

/-! W16: part. -/
namespace Sb
open PySem L2
abbrev sLawPart : Stmt := topS 43
theorem scLawPart : FnScope ["_law_row", "_law_family_here", "_law_at", "_law_some", "_law_mixed_here", "_law_cut", "_law_rest"] ["_law_row", "_law_family_here"] (defScope sLawPart) := ⟨rfl, rfl, rfl, by decide +kernel, rfl, by decide +kernel, by decide +kernel⟩
theorem sameB_free {K : PySem.W.Frag} {r z : Addr} {ns : List Int} {H H' : Hp} {p : Addr} (e : SameB r H H') (R : Row K H' r z ns) (hp : H' p = none) : p ≠ r ∧ H p = none := by
  obtain ⟨i, sd, rs, _, _, _, h⟩ := R.row
  have hne : p ≠ r := fun y => by rw [y, h] at hp; cases hp
  exact ⟨hne, (e.free hp).resolve_left hne⟩
theorem Row.lst {K : PySem.W.Frag} {r z : Addr} {ns : List Int} {H : Hp} (R : Row K H r z ns) : ∃ xs, H r = some (.lst xs) := by
  obtain ⟨i, sd, rs, _, _, _, h⟩ := R.row
  exact ⟨_, h⟩
theorem fam_take {H : Hp} {us : List V} {F : Fam} (h : Paired (TupN H) us F) (k : Nat) : Paired (TupN H) (us.take k ++ us.drop (k + 1)) (F.take k ++ F.drop (k + 1)) := pappend (ptake h k) (pdrop h (k + 1))
section
variable {P : Program} {w : World} {K : PySem.W.Frag} {mg : Str → Option Value} {base : Heap}
theorem d_part (A : At K mg "_law_part" sLawPart ["_law_row", "_law_family_here"]) (T : Bi mg) (D__law_taken : DefAt P w K mg base 1 "_law_taken" ["_law_row", "_law_many"] (spTaken K)) (D__law_pick : DefAt P w K mg base 2 "_law_pick" ["_law_row", "_law_things"] (spPick K))
    (D__law_mixed : DefAt P w K mg base 2 "_law_mixed" ["_law_row", "_law_some"] (spMixed K)) : DefAt P w K mg base 3 "_law_part" ["_law_row", "_law_family_here"] (spPart K) := A.mk' fun f fd F => by
  refine F.ok scLawPart (fun vs H Q E h => ?_) (fun cdv A outer s H vs Q E hr h => ?_)
  · obtain ⟨r, s, ns, n, FF, v, rfl, _⟩ := h; rfl
  · obtain ⟨r, z, ns, n, FF, v, rfl, R, hF, I, hn, q⟩ := h
    obtain ⟨a, us, rfl, ha, hp⟩ := id hF
    refine ⟨_, (pss_cons (sLcX 3 [("_law_at", 2)] scLawPart.nd (pi_range1 rfl T.range (pa_cons (pLen (cLen K) T.len (pv 1)) pa_nil)) (N := ["_law_row", "_law_family_here", "_law_at", "_law_some", "_law_mixed_here", "_law_cut", "_law_rest"]) (sc := (defScope sLawPart)) (by decide +kernel) (fun _ _ _ _ _ => (pgN 2 scLawPart.nd)) (fun _ _ _ _ _ => pts_one (pt_cmpR (op_gt) (pLen (cLen K) T.len (pIx K (pv 1) (pv 2))) pe_int (nomark _))) (fun _ _ _ _ _ => (pv 2)) (by decide +kernel))
    (pss_cons (ps_if (pt_cmpR (oEqD K hr) (pv 3) (pe_lst pa_nil) (nomark _)) (pss_one (ps_ret (pv 1))) pss_nil)
    (pss_cons (ps_set (i := 2) scLawPart.nd rfl (.inl rfl) (pCall D__law_pick (hr.mono (by decide)) (pa_cons (pv 0) (pa_cons (pv 3) pa_nil))))
    (pss_cons (ps_set (i := 4) scLawPart.nd rfl (.inl rfl) (pCall D__law_mixed (hr.mono (by decide)) (pa_cons (pv 0) (pa_cons (pIx K (pv 1) (pv 2)) pa_nil))))
    (pss_cons (ps_set (i := 5) scLawPart.nd rfl (.inl rfl) (pe_op op_add pe_int (pCall D__law_taken (hr.mono (by decide)) (pa_cons (pv 0) (pa_cons (pe_op op_sub (pLen (cLen K) T.len (pv 4)) pe_int) pa_nil)))))
    (pss_cons (ps_set (i := 6) scLawPart.nd rfl (.inl rfl) (pList (cLst K) T.list (pe_op (oCatT K) (pe_slice (sTupA K) (pv 1) po_none (po_some (pv 2))) (pe_slice (sTupA K) (pv 1) (po_some (pe_op op_add (pv 2) pe_int)) po_none))))
    (pss_one (ps_ret (pTuple (cTup K) T.tuple (pSorted (cSortT K hr) T.sorted (pe_op op_cat (pv 6) (pe_lst (pa_cons (pTuple (cTup K) T.tuple (pSorted (cSortN K) T.sorted (pe_slice (sLstA K) (pv 4) po_none (po_some (pv 5))))) (pa_cons (pTuple (cTup K) T.tuple (pSorted (cSortN K) T.sorted (pe_op op_cat (pe_lst (pa_cons (pIx K (pv 4) pe_int) pa_nil)) (pe_slice (sLstA K) (pv 4) (po_some (pv 5)) po_none)))) pa_nil)))))))))))))), ?_⟩
    have hu : us.length = FF.length := plen hp
    have hlen := I.len
    obtain ⟨rx, hrx⟩ := R.lst
    refine ⟨_, rfl, a, us, rfl, .inr (SqT.of ha), us.length, rfl, by omega, by omega, fun D hD => lc_fm (walk_range (lo := 0) (n := us.length)) (RV0 fun x : Nat => V.int (x : Int)) (fun k => if 2 < (bagAt FF k).length then some k else none) hD (fun _ _ => trivial) YFn.same (fun _ _ _ _ _ r => r) (fun _ _ _ _ _ _ r => r) (by omega) ?_ ?_⟩
    · rintro k x H1 H2 Q1 Q0 hk s1 ⟨rfl, rfl⟩ k1 k0
      have ek : (0 : Int) + (k : Int) = (k : Int) := Int.zero_add _
      show gName 2 (V.int (0 + (k : Int))) _ _ _
      rw [ek]
      obtain ⟨x1, hx1, c1, rfl, hc1⟩ := pget' hp (bagAt_lt (F := FF) (i := k) (by omega))
      refine ⟨rfl, _, rfl, _, rfl, a, us, _, .ref c1, rfl, rfl, .inr (SqT.of (s1 _ _ ha)), atI_nat hx1, c1, _, rfl, .inr (SqT.of (s1 _ _ hc1)), _, _, rfl, rfl, _, rfl, ?_⟩
      rw [iv_length]
      by_cases c : 2 < (bagAt FF k).length
      · rw [decide_eq_true (p := ((bagAt FF k).length : Int) > 2) (by omega)]
        exact ⟨_, rfl, k1 _ _ k (if_pos c) (Same.refl _) rfl⟩
      · rw [decide_eq_false (p := ((bagAt FF k).length : Int) > 2) (by omega)]
        exact k0 (if_neg c) _ (Same.refl _)
    intro H1 ys s1 hD1 hy
    have ey := rV_map hy
    have hf : (List.range us.length).filterMap (fun k => if 2 < (bagAt FF k).length then some k else none) = (List.range FF.length).filter fun k => decide (2 < (bagAt FF k).length) := by
      rw [hu]
      have e := range_filter_some (l := List.range FF.length) (f := fun k => if 2 < (bagAt FF k).length then some k else none) (g := id) (p := fun k => decide (2 < (bagAt FF k).length)) (fun k b hb => by
        have hk := (List.getElem?_eq_some_iff.mp hb).1
        rw [List.length_range] at hk
        rw [List.getElem?_range hk] at hb
        cases hb
        by_cases c : 2 < (bagAt FF k).length <;> simp [c])
      rw [List.length_range, List.map_id] at e
      exact e
    rw [hf] at ey
    have hD1 : H1 D = some (.lst (iv ((List.range FF.length).filter fun k => decide (2 < (bagAt FF k).length)))) := by rw [hD1, ey]; rfl
    have hsl : ((List.range FF.length).filter fun k => decide (2 < (bagAt FF k).length)).length ≤ FF.length := by
      have := List.length_filter_le (fun k => decide (2 < (bagAt FF k).length)) (List.range FF.length)
      rw [List.length_range] at this
      exact this
    have hsm : ∀ k ∈ (List.range FF.length).filter (fun k => decide (2 < (bagAt FF k).length)), k < FF.length ∧ 2 < (bagAt FF k).length := fun k hk => by
      obtain ⟨h1, h2⟩ := List.mem_filter.mp hk
      exact ⟨List.mem_range.mp h1, of_decide_eq_true h2⟩
    generalize (List.range FF.length).filter (fun k => decide (2 < (bagAt FF k).length)) = so at hD1 hsl hsm
    refine ⟨_, rfl, Nat.zero_le _, fun t nt => ?_⟩
    have nt1 := Same.new nt (.lst [])
    refine ⟨.list (so.map dI), .list [], .lst (SqL.of (nt1 _ _ hD1)) (dpAll_iv _), .lst (SqL.of upd_same) .nil, shaped_iv _, shaped_nil, _, rfl, ?_⟩
    have s2 := s1.trans nt1
    have hD2 := nt1 _ _ hD1
    have R2 := R.same s2
    by_cases hso : so = []
    · subst hso
      exact ⟨_, rfl, q _ _ FF (.inl rfl) (.of s2) R2 (hF.mono s2)⟩
    rw [eqv_ne_nil hso]
    have hDr : D ≠ r := (ne_of_none hrx hD).symm
    have hsp : 1 ≤ so.length := List.length_pos_iff.mpr hso
    generalize upd H1 t (.lst []) = H2 at s2 hD2 R2
    clear nt1
    refine ⟨_, rfl, _, rfl, r, z, ns, D, iv so, rfl, R2, SqL.of hD2, hDr, by rw [iv_length]; exact hsp, by rw [iv_length]; omega, fun k v H3 hv b3 R3 => ?_⟩
    obtain ⟨at_, hat, rfl⟩ := of_iv_get hv
    obtain ⟨hatl, hat2⟩ := hsm at_ (List.mem_of_getElem? hat)
    obtain ⟨x1, hx1, c1, rfl, hc1⟩ := pget' hp (bagAt_lt hatl)
    have c3 : SameB r H H3 := (SameB.of s2).trans b3
    have har : a ≠ r := ne_of ha hrx (by intro z; cases z)
    have hcr : c1 ≠ r := ne_of hc1 hrx (by intro z; cases z)
    have ha3 := c3 _ _ har ha
    have hc3 := c3 _ _ hcr hc1
    have hbl := I.blen (bagAt_mem hatl)
    refine ⟨_, rfl, _, rfl, _, rfl, a, us, _, .ref c1, rfl, rfl, .inr (SqT.of ha3), atI_nat hx1, r, z, ns, c1, bagAt FF at_, rfl, R3, .inr (SqT.of hc3), by omega, fun m vm H4 hm hvm hvr b4 R4 => ?_⟩
    obtain ⟨pm, rfl, hpm⟩ := hvm
    have hpmr := hvr pm rfl
    have hml := hm.length_eq
    have c4 := c3.trans b4
    have em : ((m.length : Int)) - 2 = ((m.length - 2 : Nat) : Int) := by omega
    refine ⟨_, rfl, _, rfl, pm, _, rfl, .inl (SqL.of hpm), _, _, rfl, rfl, r, z, ns, m.length - 2, by rw [iv_length]; exact congrArg (fun x : Int => [V.ref r, V.int x]) em, R4, by omega, by omega, fun t5 H5 ht5 b5 R5 => ⟨_, _, rfl, rfl, ?_⟩⟩
    have c5 := c4.trans b5
    have hpm5 := b5 _ _ hpmr.1 hpm
    have ha5 := c5 _ _ har ha
    have ec : (2 : Int) + (t5 : Int) = ((t5 + 2 : Nat) : Int) := by omega
    show gName 5 (V.int (2 + (t5 : Int))) _ _ _
    rw [ec]
    have hp5 : Paired (TupN H5) us FF := pmono (fun _ _ r => r.sameB c5 hrx) hp
    clear b3 b4 b5 c3 c4 R3 R4 ha3 hc3 hpm
    -- rest = list(F[:at] + F[at + 1:])
    have sx1 : HT.sIx us.length us.length (some (at_ : Int)) = at_ := by rw [HT.sIx_nat]; omega
    refine ⟨_, rfl, _, rfl, _, rfl, a, us, rfl, SqT.of ha5, fun z => by rw [sx1] at z; omega, fun _ p6 np6 => ?_⟩
    rw [cutT_take (by omega)]
    have n6 := Same.new np6 (.tup (us.take at_))
    have e6 : (at_ : Int) + 1 = ((at_ + 1 : Nat) : Int) := by omega
    have sx2 : HT.sIx us.length 0 (some ((at_ : Int) + 1)) = at_ + 1 := by rw [e6, HT.sIx_nat]; omega
    refine ⟨_, rfl, _, rfl, _, _, rfl, rfl, _, rfl, a, us, rfl, SqT.of (n6 _ _ ha5), fun z => by rw [sx2] at z; omega, fun _ p7 np7 => ?_⟩
    have ecd : cutV us (some ((at_ : Int) + 1)) none = us.drop (at_ + 1) := by rw [e6]; exact cutT_drop (by omega)
    rw [show cutV us (some ((fun i j => i + j) (at_ : Int) 1)) none = us.drop (at_ + 1) from ecd]
    have n7 := Same.new np7 (.tup (us.drop (at_ + 1)))
    have c7 : SameB r H (upd (upd H5 p6 (.tup (us.take at_))) p7 (.tup (us.drop (at_ + 1)))) := c5.trans (.of (n6.trans n7))
    have R7 := R5.same (n6.trans n7)
    have hp7 : Paired (TupN _) us FF := pmono (fun _ _ r => (r.mono n6).mono n7) hp5
    have hpm7 := n7 _ _ (n6 _ _ hpm5)
    have h67 : upd (upd H5 p6 (.tup (us.take at_))) p7 (.tup (us.drop (at_ + 1))) p6 = some (.tup (us.take at_)) := n7 _ _ upd_same
    have h77 : upd (upd H5 p6 (.tup (us.take at_))) p7 (.tup (us.drop (at_ + 1))) p7 = some (.tup (us.drop (at_ + 1))) := upd_same
    generalize upd (upd H5 p6 (.tup (us.take at_))) p7 (.tup (us.drop (at_ + 1))) = H7 at c7 R7 hp7 hpm7 h67 h77 ⊢
    clear n6 n7 np6 np7 hp5 c5 R5 ha5
    have hfam := fam_take hp7 at_
    have hmne : m ≠ [] := fun e => by rw [e] at hml; simp at hml; omega
    obtain ⟨m0, mr, rfl⟩ : ∃ x l, m = x :: l := by
      cases m with
      | nil => exact absurd rfl hmne
      | cons x l => exact ⟨x, l, rfl⟩
    have hcut : t5 + 2 < (m0 :: mr).length := by omega
    have key : ∀ (rt : Addr) (H8 : Hp), Same H7 H8 → H8 rt = some (.tup (us.take at_ ++ us.drop (at_ + 1))) → ∀ p9, H8 p9 = none →
        tRet (tCB (rTup K) (tCons (tCB (rSortT K) (tCons (tOp rCat (tVar 6) (tLst (tCons (tCB (rTup K) (tCons (tCB (rSortN K) (tCons (tSl (rSlL K) (tVar 4) (fun _ H Q => Q none H) (fun σ H Q => tVar 5 σ H fun x H1 => ∃ i, x = .int i ∧ Q (some i) H1)) tNil)) tNil)) (tCons (tCB (rTup K) (tCons (tCB (rSortN K) (tCons (tOp rCat (tLst (tCons (tOp (rIxA K) (tVar 4) (tC (V.int 0))) tNil)) (tSl (rSlL K) (tVar 4) (fun σ H Q => tVar 5 σ H fun x H1 => ∃ i, x = .int i ∧ Q (some i) H1) (fun _ H Q => Q none H))) tNil)) tNil)) tNil)))) tNil)) tNil))
          { nx := fun _ H' => Q .non H', rt := Q } [some (.ref r), some (.ref a), some (.int (at_ : Int)), some (.ref D), some (.ref pm), some (.int ((t5 + 2 : Nat) : Int)), some (.ref p9)] (upd H8 p9 (.lst (us.take at_ ++ us.drop (at_ + 1)))) := by
      intro rt H8 s8 hrt p9 np9
      have n9 := Same.new np9 (.lst (us.take at_ ++ us.drop (at_ + 1)))
      have hpm9 := n9 _ _ (s8 _ _ hpm7)
      refine ⟨_, rfl, _, rfl, _, rfl, _, rfl, pm, _, rfl, SqL.of hpm9, fun q1 nq1 => ?_⟩
      rw [cut_take (by omega)]
      have m1 := Same.new nq1 (.lst (iv ((m0 :: mr).take (t5 + 2))))
      refine ⟨q1, _, rfl, SqL.of upd_same, by rw [List.length_take]; omega, fun q2 nq2 => ⟨q2, _, rfl, .inl ⟨SqL.of upd_same, fun q3 nq3 => ?_⟩⟩⟩
      have m2 := Same.new nq2 (.lst (iv (sortN ((m0 :: mr).take (t5 + 2)))))
      have m3 := Same.new nq3 (.tup (iv (sortN ((m0 :: mr).take (t5 + 2)))))
      have hpm3 := m3 _ _ (m2 _ _ (m1 _ _ hpm9))
      refine ⟨_, rfl, pm, _, _, .int (m0 : Nat), rfl, rfl, .inl (SqL.of hpm3), atI_nat (j := 0) rfl, (by show 1 ≤ sizeLine; decide), fun q4 nq4 => ?_⟩
      have m4 := Same.new nq4 (.lst [.int (m0 : Nat)])
      refine ⟨_, rfl, _, rfl, _, rfl, pm, _, rfl, SqL.of (m4 _ _ hpm3), fun q5 nq5 => ?_⟩
      rw [cut_drop (by omega)]
      have m5 := Same.new nq5 (.lst (iv ((m0 :: mr).drop (t5 + 2))))
      refine ⟨q4, q5, _, _, rfl, rfl, m5 _ _ upd_same, upd_same, by rw [iv_length, List.length_drop, sizeLine_eq]; simp only [List.length_cons, List.length_nil] at hml ⊢; omega, fun q6 nq6 => ?_⟩
      have m6 := Same.new nq6 (.lst ([.int (m0 : Nat)] ++ iv ((m0 :: mr).drop (t5 + 2))))
      refine ⟨q6, [m0] ++ (m0 :: mr).drop (t5 + 2), rfl, SqL.of (by rw [iv_append]; exact upd_same), by rw [List.length_append, List.length_drop]; simp; simp at hml hcut; omega, fun q7 nq7 => ⟨q7, _, rfl, .inl ⟨SqL.of upd_same, fun q8 nq8 => ?_⟩⟩⟩
      have m7 := Same.new nq7 (.lst (iv (sortN ([m0] ++ (m0 :: mr).drop (t5 + 2)))))
      have m8 := Same.new nq8 (.tup (iv (sortN ([m0] ++ (m0 :: mr).drop (t5 + 2)))))
      refine ⟨(by show 2 ≤ sizeLine; decide), fun q9 nq9 => ?_⟩
      have m9 := Same.new nq9 (.lst [.ref q3, .ref q8])
      have sA := ((m1.trans m2).trans (m3.trans m4)).trans (((m5.trans m6).trans (m7.trans m8)).trans m9)
      have hl9 : (us.take at_ ++ us.drop (at_ + 1)).length ≤ 60 := by rw [List.length_append, List.length_take, List.length_drop]; omega
      refine ⟨p9, q9, _, _, rfl, rfl, sA _ _ upd_same, upd_same, by rw [sizeLine_eq]; simp at hl9 ⊢; omega, fun g1 ng1 => ?_⟩
      have l1 := Same.new ng1 (.lst (us.take at_ ++ us.drop (at_ + 1) ++ [.ref q3, .ref q8]))
      have hq3 := m9 _ _ (m8 _ _ (m7 _ _ (m6 _ _ (m5 _ _ (m4 _ _ (upd_same (H := _) (a := q3) (o := HO.tup (iv (sortN ((m0 :: mr).take (t5 + 2)))))))))))
      have hall : Paired (TupN _) (us.take at_ ++ us.drop (at_ + 1) ++ [V.ref q3, V.ref q8]) (FF.take at_ ++ FF.drop (at_ + 1) ++ [sortN ((m0 :: mr).take (t5 + 2)), sortN ([m0] ++ (m0 :: mr).drop (t5 + 2))]) :=
        pappend (pmono (fun _ _ r => (((r.mono s8).mono n9).mono sA).mono l1) hfam) (.cons ⟨q3, rfl, l1 _ _ hq3⟩ (.cons ⟨q8, rfl, l1 _ _ (m9 _ _ upd_same)⟩ .nil))
      refine ⟨g1, _, _, rfl, SqL.of upd_same, hall, fun b hb e => ?_, by rw [← plen hall, List.length_append]; simp at hl9 ⊢; omega, fun zs g2 hz ng2 => ⟨g2, zs, rfl, .inl ⟨SqL.of upd_same, fun g3 ng3 => ?_⟩⟩⟩
      · subst e
        rcases List.mem_append.mp hb with h | h
        · have h2 : ([] : List Nat) ∈ FF := by
            rcases List.mem_append.mp h with h | h
            · exact List.mem_of_mem_take h
            · exact List.mem_of_mem_drop h
          have := (I.bags _ h2).2.1
          simp at this
        · rcases List.mem_cons.mp h with e | h
          · have := congrArg List.length e
            rw [sortN_length, List.length_take] at this
            simp at this
            omega
          · have e := List.mem_singleton.mp h
            have := congrArg List.length e
            rw [sortN_length, List.length_append] at this
            simp at this
            omega
      · have l2 := Same.new ng2 (.lst zs)
        have l3 := Same.new ng3 (.tup zs)
        refine q _ _ (partF FF at_ (m0 :: mr) (t5 + 2)) (.inr ⟨at_, m0 :: mr, t5 + 2, hatl, hat2, hm, by omega, hcut, rfl⟩) (c7.trans (.of ((s8.trans n9).trans (sA.trans (l1.trans (l2.trans l3)))))) (R7.same ((s8.trans n9).trans (sA.trans (l1.trans (l2.trans l3))))) ⟨g3, zs, rfl, upd_same, pmono (fun _ _ r => (r.mono l2).mono l3) hz⟩
    refine ⟨p6, p7, _, _, rfl, rfl, SqT.of h67, SqT.of h77, by rw [List.length_take, List.length_drop, sizeLine_eq]; omega, fun e0 => ?_, fun e0 e1 => ?_, fun e0 e1 p8 np8 => ?_⟩
    · refine ⟨p7, _, rfl, .inr (SqT.of h77), fun p9 np9 => ?_⟩
      have k9 := key p7 H7 (Same.refl _) (by rw [h77, e0, List.nil_append]) p9 np9
      rw [e0, List.nil_append] at k9
      exact k9
    · refine ⟨p6, _, rfl, .inr (SqT.of h67), fun p9 np9 => ?_⟩
      have k9 := key p6 H7 (Same.refl _) (by rw [h67, e1, List.append_nil]) p9 np9
      rw [e1, List.append_nil] at k9
      exact k9
    · refine ⟨p8, _, rfl, .inr (SqT.of upd_same), fun p9 np9 => ?_⟩
      exact key p8 _ (Same.new np8 _) upd_same p9 np9
end
end Sb

/-! W17: coarse, moved. -/
namespace Sb
open PySem L2
abbrev sLawCoarse : Stmt := topS 44
theorem scLawCoarse : FnScope ["_law_row", "_law_family_here", "_law_most", "_law_turn", "_law_some", "_law_one", "_law_other"] ["_law_row", "_law_family_here", "_law_most"] (defScope sLawCoarse) := ⟨rfl, rfl, rfl, by decide +kernel, rfl, by decide +kernel, by decide +kernel⟩
abbrev sLawMoved : Stmt := topS 45
theorem scLawMoved : FnScope ["_law_row", "_law_family_here", "_law_most", "_law_turn"] ["_law_row", "_law_family_here", "_law_most"] (defScope sLawMoved) := ⟨rfl, rfl, rfl, by decide +kernel, rfl, by decide +kernel, by decide +kernel⟩
/-- a family among all, moved to one among all -/
def spMove (K : PySem.W.Frag) : Sp := fun vs H Q _ => ∃ r s ns n F v, ∃ most : Nat, vs = [.ref r, v, .int (most : Int)] ∧ Row K H r s ns ∧ FamT H v F ∧ F ∈ allN n ∧ 2 ≤ n ∧ n ≤ 5 ∧ most ≤ 10 ∧
  ∀ z H' G, G ∈ allN n → SameB r H H' → Row K H' r s ns → FamT H' z G → Q z H'
theorem shaped_pairs (L : List (Nat × Nat)) : SeqAt.shaped (.list (L.map fun q => dT [q.1, q.2])) = true := shaped_L (enc := fun q : Nat × Nat => dT [q.1, q.2]) (n := 1) (fun _ => lay_T _) (fun _ => depth_T _) (by decide) L
theorem PairsL.dp {K : PySem.W.Frag} {H : Hp} {v : V} {L : List (Nat × Nat)} (h : PairsL H v L) : Dp K H v (.list (L.map fun q => dT [q.1, q.2])) := by
  obtain ⟨p, vs, rfl, e, hp⟩ := h
  exact .lst (SqL.of e) (dpAll_of (enc := fun q : Nat × Nat => dT [q.1, q.2]) (fun _ _ q => TupN.dp q) hp)
theorem eqv_pairs_nil {L : List (Nat × Nat)} (h : L ≠ []) : PyData.eqv (.list (L.map fun q => dT [q.1, q.2])) (.list []) = false := by
  cases L with
  | nil => exact absurd rfl h
  | cons a l => rfl
section
variable {P : Program} {w : World} {K : PySem.W.Frag} {mg : Str → Option Value} {base : Heap}
theorem d_coarse (A : At K mg "_law_coarse" sLawCoarse ["_law_row", "_law_family_here", "_law_most"]) (T : Bi mg) (D__law_taken : DefAt P w K mg base 1 "_law_taken" ["_law_row", "_law_many"] (spTaken K)) (D__law_pick : DefAt P w K mg base 2 "_law_pick" ["_law_row", "_law_things"] (spPick K))
    (D__law_pours : DefAt P w K mg base 1 "_law_pours" ["_law_family_here"] spPours) (D__law_pour : DefAt P w K mg base 1 "_law_pour" ["_law_family_here", "_law_one", "_law_other"] spPour) :
    DefAt P w K mg base 3 "_law_coarse" ["_law_row", "_law_family_here", "_law_most"] (spMove K) := A.mk' fun f fd F => by
  refine F.ok scLawCoarse (fun vs H Q E h => ?_) (fun cdv A outer s H vs Q E hr h => ?_)
  · obtain ⟨r, s, ns, n, FF, v, most, rfl, _⟩ := h; rfl
  · obtain ⟨r, z, ns, n, FF, v, most, rfl, R, hF, hA, h2, h5, hm, q⟩ := h
    refine ⟨_, (pss_cons (ps_for PassesOwn.never rfl (pi_range1 rfl T.range (pa_cons (pCall D__law_taken (hr.mono (by decide)) (pa_cons (pv 0) (pa_cons (pe_op op_add (pv 2) pe_int) pa_nil))) pa_nil)) (pg_name (i := 3) scLawCoarse.nd rfl (Or.inl rfl))
      (pss_cons (ps_set (i := 4) scLawCoarse.nd rfl (.inl rfl) (pCall D__law_pours (hr.mono (by decide)) (pa_cons (pv 1) pa_nil)))
      (pss_one (ps_if (pt_cmpR (oNeD K hr) (pv 4) (pe_lst pa_nil) (nomark _)) (pss_cons (ps_asg (pCall D__law_pick (hr.mono (by decide)) (pa_cons (pv 0) (pa_cons (pv 4) pa_nil))) (pgT K 2 rfl (pgs_cons (pg_name (i := 5) scLawCoarse.nd rfl (Or.inl rfl)) (pgs_cons (pg_name (i := 6) scLawCoarse.nd rfl (Or.inl rfl)) pgs_nil))))
        (pss_one (ps_set (i := 1) scLawCoarse.nd rfl (.inl rfl) (pCall D__law_pour (hr.mono (by decide)) (pa_cons (pv 1) (pa_cons (pv 5) (pa_cons (pv 6) pa_nil))))))) pss_nil))))
    (pss_one (ps_ret (pv 1)))), ?_⟩
    have em : (most : Int) + 1 = ((most + 1 : Nat) : Int) := by omega
    refine ⟨_, rfl, _, rfl, _, _, rfl, rfl, r, z, ns, most + 1, congrArg (fun x : Int => [V.ref r, V.int x]) em, R, by omega, by omega, fun t H1 ht b1 R1 => ⟨t, rfl, by omega, by omega, for_it (walk_range (lo := 0) (n := t))
      (fun i σ H' => ∃ v' a3 a4 a5 a6 G, σ = [some (.ref r), some v', some (.int (most : Int)), a3, a4, a5, a6] ∧ G ∈ allN n ∧ FamT H' v' G ∧ Row K H' r z ns ∧ SameB r H H') ⟨_, _, _, _, _, FF, rfl, hA, ?_, R1, b1⟩ (fun _ _ _ _ _ => trivial) ?_ ?_⟩⟩
    · obtain ⟨rx, hrx⟩ := R.lst
      exact hF.sameB b1 hrx
    · rintro i x σ H2 H3 hi ⟨v', a3, a4, a5, a6, G, rfl, hG, hFG, R2, b2⟩ ⟨rfl, rfl⟩
      have I := all_fam h2 h5 hG
      obtain ⟨rx2, hrx2⟩ := R2.lst
      refine ⟨_, rfl, n, G, v', rfl, hFG, I.toPre, by omega, fun vp H4 s4 hP => ?_⟩
      have R4 := R2.same s4
      have hF4 := hFG.mono s4
      obtain ⟨pp, vps, rfl, hpp, hpl⟩ := id hP
      refine ⟨_, rfl, Nat.zero_le _, fun t5 nt5 => ?_⟩
      have n5 := Same.new nt5 (.lst [])
      have hP5 : PairsL (upd H4 t5 (.lst [])) (.ref pp) (poursOf G) := ⟨pp, vps, rfl, n5 _ _ hpp, pmono (fun _ _ q => q.mono n5) hpl⟩
      refine ⟨_, _, hP5.dp, .lst (SqL.of upd_same) .nil, shaped_pairs _, shaped_nil, _, rfl, ?_⟩
      by_cases e : poursOf G = []
      · rw [e]
        exact ⟨v', _, _, _, _, G, rfl, hG, hF4.mono n5, R4.same n5, b2.trans (.of (s4.trans n5))⟩
      rw [eqv_pairs_nil e]
      have hrx4 := n5 _ _ (s4 _ _ hrx2)
      have hppr : pp ≠ r := fun y => by
        rw [y, s4 _ _ hrx2] at hpp
        cases hpp
        obtain ⟨i', sd, rs, _, _, _, h⟩ := R2.row
        rw [hrx2] at h
        cases h
        cases hq : poursOf G with
        | nil => exact e hq
        | cons q0 ql =>
          rw [hq] at hpl
          cases hpl with
          | cons t0 tl =>
            cases tl with
            | cons t1 _ =>
              obtain ⟨_, e1, _⟩ := t1
              cases e1
      have hvl : vps.length = (poursOf G).length := plen hpl
      have hpos : 1 ≤ (poursOf G).length := List.length_pos_iff.mpr e
      have hsm : (poursOf G).length ≤ 900 := by
        have h1 : (poursOf G).length ≤ 30 * (List.range G.length).length := by
          unfold poursOf
          rw [List.length_flatMap]
          refine sum_le_mul fun t ht => ?_
          have := List.length_filter_le (fun p : Nat × Nat => shares G p.1 p.2) ((List.range (G.length - (t + 1))).map fun k => (t, t + 1 + k))
          rw [List.length_map, List.length_range] at this
          have := I.len
          omega
        rw [List.length_range] at h1
        have := I.len
        omega
      refine ⟨_, rfl, _, rfl, r, z, ns, pp, vps, rfl, R4.same n5, SqL.of (n5 _ _ hpp), hppr, by omega, by omega, fun k vk H6 hk b6 R6 => ?_⟩
      obtain ⟨q0, hq0, tq⟩ := pget hpl hk
      obtain ⟨tq1, rfl, htq⟩ := tq
      have htq5 := n5 _ _ htq
      have htq6 : H6 tq1 = some (.tup (iv [q0.1, q0.2])) := b6 _ _ (ne_of htq5 hrx4 (by intro y; cases y)) htq5
      refine ⟨tq1, _, rfl, SqT.of htq6, rfl, _, _, rfl, _, _, rfl, rfl, ?_⟩
      have hF6 := (hF4.mono n5).sameB b6 hrx4
      have hmem := List.mem_of_getElem? hq0
      have hp3 := mem_poursOf.mp hmem
      refine ⟨_, rfl, _, rfl, _, rfl, n, G, v', q0.1, q0.2, rfl, hF6, I.toPre, by omega, by omega, hp3.2.1, fun vz H7 s7 hz => ?_⟩
      exact ⟨vz, _, _, _, _, _, rfl, all_pour h2 h5 hG hmem, hz, R6.same s7, (b2.trans (.of (s4.trans n5))).trans (b6.trans (.of s7))⟩
    · rintro σ H2 ⟨v', a3, a4, a5, a6, G, rfl, hG, hFG, R2, b2⟩
      exact ⟨_, rfl, q v' H2 G hG b2 R2 hFG⟩
theorem d_moved (A : At K mg "_law_moved" sLawMoved ["_law_row", "_law_family_here", "_law_most"]) (T : Bi mg) (D__law_taken : DefAt P w K mg base 1 "_law_taken" ["_law_row", "_law_many"] (spTaken K)) (D__law_coarse : DefAt P w K mg base 3 "_law_coarse" ["_law_row", "_law_family_here", "_law_most"] (spMove K))
    (D__law_part : DefAt P w K mg base 3 "_law_part" ["_law_row", "_law_family_here"] (spPart K)) :
    DefAt P w K mg base 4 "_law_moved" ["_law_row", "_law_family_here", "_law_most"] (spMove K) := A.mk' fun f fd F => by
  refine F.ok scLawMoved (fun vs H Q E h => ?_) (fun cdv A outer s H vs Q E hr h => ?_)
  · obtain ⟨r, s, ns, n, FF, v, most, rfl, _⟩ := h; rfl
  · obtain ⟨r, z, ns, n, FF, v, most, rfl, R, hF, hA, h2, h5, hm, q⟩ := h
    refine ⟨_, (pss_cons (ps_for PassesOwn.never rfl (pi_range1 rfl T.range (pa_cons (pCall D__law_taken (hr.mono (by decide)) (pa_cons (pv 0) (pa_cons (pe_op op_add (pv 2) pe_int) pa_nil))) pa_nil)) (pg_name (i := 3) scLawMoved.nd rfl (Or.inl rfl))
      (pss_one (ps_set (i := 1) scLawMoved.nd rfl (.inl rfl) (pe_ifExp (pt_cmpR (op_eq) (pCall D__law_taken (hr.mono (by decide)) (pa_cons (pv 0) (pa_cons pe_int pa_nil))) pe_int (nomark _)) (pCall D__law_coarse (hr.mono (by decide)) (pa_cons (pv 0) (pa_cons (pv 1) (pa_cons pe_int pa_nil)))) (pCall D__law_part (hr.mono (by decide)) (pa_cons (pv 0) (pa_cons (pv 1) pa_nil)))))))
    (pss_one (ps_ret (pv 1)))), ?_⟩
    have em : (most : Int) + 1 = ((most + 1 : Nat) : Int) := by omega
    refine ⟨_, rfl, _, rfl, _, _, rfl, rfl, r, z, ns, most + 1, congrArg (fun x : Int => [V.ref r, V.int x]) em, R, by omega, by omega, fun t H1 ht b1 R1 => ⟨t, rfl, by omega, by omega, for_it (walk_range (lo := 0) (n := t))
      (fun i σ H' => ∃ v' a3 G, σ = [some (.ref r), some v', some (.int (most : Int)), a3] ∧ G ∈ allN n ∧ FamT H' v' G ∧ Row K H' r z ns ∧ SameB r H H') ⟨_, _, FF, rfl, hA, ?_, R1, b1⟩ (fun _ _ _ _ _ => trivial) ?_ ?_⟩⟩
    · obtain ⟨rx, hrx⟩ := R.lst
      exact hF.sameB b1 hrx
    · rintro i x σ H2 H3 hi ⟨v', a3, G, rfl, hG, hFG, R2, b2⟩ ⟨rfl, rfl⟩
      have I := all_fam h2 h5 hG
      obtain ⟨rx2, hrx2⟩ := R2.lst
      refine ⟨_, rfl, r, z, ns, 2, rfl, R2, by decide, by decide, fun t4 H4 ht4 b4 R4 => ⟨rfl, _, rfl, ?_⟩⟩
      have hF4 := hFG.sameB b4 hrx2
      by_cases e : t4 = 0
      · subst e
        rw [decide_eq_true (p := V.int ((0 : Nat) : Int) = V.int 0) rfl]
        refine ⟨_, rfl, _, rfl, r, z, ns, n, G, v', 1, rfl, R4, hF4, hG, h2, h5, by decide, fun vz H5 G' hG' b5 R5 hF5 => ?_⟩
        exact ⟨vz, _, G', rfl, hG', hF5, R5, (b2.trans b4).trans b5⟩
      · rw [decide_eq_false (p := V.int ((t4 : Nat) : Int) = V.int 0) (fun y => e (by have := V.int.inj y; omega))]
        refine ⟨_, rfl, _, rfl, r, z, ns, n, G, v', rfl, R4, hF4, I.toPre, by omega, fun vz H5 G' hG' b5 R5 hF5 => ?_⟩
        refine ⟨vz, _, G', rfl, ?_, hF5, R5, (b2.trans b4).trans b5⟩
        rcases hG' with rfl | ⟨at_, m, cut, k1, k2, k3, k4, k5, rfl⟩
        · exact hG
        · exact all_part h2 h5 hG k1 k2 k3 k4 k5
    · rintro σ H2 ⟨v', a3, G, rfl, hG, hFG, R2, b2⟩
      exact ⟨_, rfl, q v' H2 G hG b2 R2 hFG⟩
end
end Sb

/-! W18: the law. -/
namespace Sb
open PySem L2
abbrev sLaw : Stmt := topS 47
theorem scLaw : FnScope ["_law_script", "_law_row", "_law_family_here", "_law_size_here", "_law_orders_here", "_law_names", "_law_every", "_law_groups", "_law_bead", "_law_other", "_law_wide", "_law_order"] ["_law_script"] (defScope sLaw) := ⟨rfl, rfl, rfl, by decide +kernel, rfl, by decide +kernel, by decide +kernel⟩
theorem cSetOfT {X : Cx} (K : PySem.W.Frag) (P : Program) (w : World) {k : Nat} (hr : Room k X.A) (hc : X.calm = true := by rfl) (hK : X.K = K := by rfl) (hP : X.prog = P := by rfl) (hw : X.w = w := by rfl) : CallR X (.type "set") (rSetOfT K P w) := by
  subst hK hP hw
  exact cr_setOfT hc (by have := hr.un; omega)
theorem cSortedTV {X : Cx} (K : PySem.W.Frag) (P : Program) (w : World) {k : Nat} (hr : Room k X.A) (hc : X.calm = true := by rfl) (hK : X.K = K := by rfl) (hP : X.prog = P := by rfl) (hw : X.w = w := by rfl) : CallR X (.builtin "sorted") (rSortedTV K P w) := by
  subst hK hP hw
  exact cr_sortedTV hr hc
/-- a list display, at an address that is none of the known -/
def tLstK (K : PySem.W.Frag) (t : TA) : TE := fun σ H Q => t σ H fun xs H1 => xs.length ≤ sizeLine ∧ ∀ p, H1 p = none → K.lookup p = none → Q (.ref p) (upd H1 p (.lst xs))
theorem pe_lstK {X : Cx} (K : PySem.W.Frag) {es : List Expr} {t : TA} {pos : Pos} (h : PA X es t) (hK : X.K = K := by rfl) : PE X (.List es pos) (tLstK K t) := by
  subst hK
  refine ⟨fun pins s σ H Q I hq => ?_⟩
  refine wpAny_List_spliced (thn (h.run pos pins s σ H _ I hq) fun us s1 ⟨xs, H1, I1, r, z, q⟩ => ⟨by rw [← r.length]; exact z, ?_⟩)
  have hf : H1 s1.heap.objs.size = none := I1.hok.fresh (Nat.le_refl _)
  have hk : X.K.lookup s1.heap.objs.size = none := by
    cases e : X.K.lookup s1.heap.objs.size with
    | none => rfl
    | some o => exact absurd (Heap.lt_size (I1.kIn _ o e)) (Nat.lt_irrefl _)
  refine ⟨.ref s1.heap.objs.size, upd H1 s1.heap.objs.size (.lst xs), I1.laid (t' := s1.toks) (fun b u e => Heap.get?_push_of_some _ e) (Nat.le_refl _) ?_, rfl, q _ hf hk⟩
  exact ⟨z, us, 0, r, Heap.get?_push_size _ rfl⟩
/-- the law answers True -/
def spLaw (K : PySem.W.Frag) : Sp := fun vs H Q _ => ∃ a, ∃ ns : List Int, vs = [.ref a] ∧ SqL K H a (ns.map V.int) ∧ ∀ H', Q (.bl true) H'
theorem FamT.named_ok {H : Hp} {v : V} {F : Fam} (h : FamT H v F) : ∃ a us, v = .ref a ∧ SeqF H a us ∧ Paired (SeqN H) us F := by
  obtain ⟨a, us, rfl, ha, hp⟩ := h
  exact ⟨a, us, rfl, .inr ha, pmono (fun _ _ ⟨b, e1, e2⟩ => ⟨b, e1, .inr e2⟩) hp⟩
theorem call_named {H : Hp} {v u : V} {F : Fam} {n : Nat} {σ : List Nat} {Q : VK} {E : XK} (h : FamT H v F) (I : Pre n F) (hn : n ≤ 30) (hu : LstN H u σ) (p : IsPerm n σ) (q : ∀ v' H', Same H H' → FamT H' v' (named F σ) → Q v' H') : spNamed [v, u] H Q E := by
  obtain ⟨a, us, rfl, h1, h2⟩ := h.named_ok
  obtain ⟨b, rfl, hb⟩ := hu
  refine ⟨n, a, b, F, σ, us, rfl, h1, h2, hb, p, fun bag hm => ⟨(I.bags bag hm).2.2, fun e => ?_⟩, by omega, by have := I.len; omega, fun bag hm => by have := I.blen hm; omega, q⟩
  have := (I.bags bag hm).2.1
  rw [e] at this
  exact absurd this (by decide)
theorem count_dF (F : Fam) (L : List Fam) : (L.map dF).countP (fun z => PyData.eqv z (dF F)) = L.count F := by
  rw [List.countP_map, List.count_eq_countP]
  congr 1
  funext G
  show PyData.eqv (dF G) (dF F) = (G == F)
  rw [eqv_F]
  by_cases h : G = F <;> simp [h]
theorem shaped_every (L : List Fam) : SeqAt.shaped (.list (L.map dF)) = true := shaped_L (enc := dF) (n := 2) lay_F depth_F (by decide) L
theorem any_dF (G : Fam) (L : List Fam) : (L.map dF).any (fun z => PyData.eqv z (dF G)) = decide (G ∈ L) := by
  rw [Bool.eq_iff_iff, List.any_eq_true, decide_eq_true_eq]
  constructor
  · rintro ⟨z, hz, e⟩
    obtain ⟨F, hF, rfl⟩ := List.mem_map.mp hz
    rw [eqv_F] at e
    exact of_decide_eq_true e ▸ hF
  · intro h
    exact ⟨dF G, List.mem_map_of_mem h, by rw [eqv_F]; exact decide_eq_true rfl⟩
theorem LstN.sameB {K : PySem.W.Frag} {r z : Addr} {ns : List Int} {H H' : Hp} {v : V} {l : List Nat} (h : LstN H v l) (e : SameB r H H') (R : Row K H r z ns) : LstN H' v l := by
  obtain ⟨a, rfl, ha⟩ := h
  refine ⟨a, rfl, e _ _ (fun y => ?_) ha⟩
  obtain ⟨i, sd, rs, _, _, _, hr⟩ := R.row
  rw [y, hr] at ha
  cases l with
  | nil => injection ha with ha; injection ha with ha; cases ha
  | cons x l => injection ha with ha; injection ha with ha; injection ha with ha _; cases ha
theorem OrdL.sameB {K : PySem.W.Frag} {r z : Addr} {ns : List Int} {H H' : Hp} {v : V} {L : List (List Nat)} (h : OrdL H v L) (e : SameB r H H') (R : Row K H r z ns) : OrdL H' v L := by
  obtain ⟨p, vs, rfl, hp, hl⟩ := h
  refine ⟨p, vs, rfl, e _ _ (fun y => ?_) hp, pmono (fun _ _ q => LstN.sameB q e R) hl⟩
  obtain ⟨i, sd, rs, _, _, _, hr⟩ := R.row
  rw [y, hr] at hp
  injection hp with hp
  injection hp with hp
  subst hp
  cases hl with
  | cons _ t =>
    cases t with
    | cons u _ =>
      obtain ⟨_, e, _⟩ := u
      cases e
theorem fams_ne {K : PySem.W.Frag} {r z D : Addr} {ns : List Int} {H : Hp} {vs : List V} {L : List Fam} (hl : Paired (FamT H) vs L) (hD : H D = some (.lst vs)) (R : Row K H r z ns) : D ≠ r := fun y => by
  obtain ⟨i, sd, rs, _, _, _, hr⟩ := R.row
  rw [y, hr] at hD
  injection hD with hD
  injection hD with hD
  subst hD
  cases hl with
  | cons _ t =>
    cases t with
    | cons u _ =>
      obtain ⟨_, _, e, _⟩ := u
      cases e
def rSortedTV2 (K : PySem.W.Frag) (P : Program) (w : World) : List V → Hp → VK → Prop := fun vs H Q => ∃ (a : Addr) (L : List (Addr × List Int)) (Lz : List (Addr × List Nat)), vs = [V.ref a] ∧ H a = some (SetTO P w a L) ∧ L = Lz.map (fun p => (p.1, p.2.map fun n : Nat => (n : Int))) ∧ (∀ p ∈ Lz, TupN H (.ref p.1) p.2 ∧ p.2 ≠ []) ∧
  ∀ ys p, Paired (TupN H) ys (sortL (Lz.map (·.2))) → (Lz.map (·.2)).Nodup → H p = none → Q (.ref p) (upd H p (.lst ys))
theorem cSortedTV2 {X : Cx} (K : PySem.W.Frag) (P : Program) (w : World) {k : Nat} (hr : Room k X.A) (hc : X.calm = true := by rfl) (hK : X.K = K := by rfl) (hP : X.prog = P := by rfl) (hw : X.w = w := by rfl) : CallR X (.builtin "sorted") (rSortedTV2 K P w) := by
  intro pins s σ H vs us Q I r h
  obtain ⟨a, L, Lz, rfl, ha, rfl, hk, q⟩ := h
  subst hK hP hw
  obtain ⟨es, ep, t, _, _, _, _, _, _, _, few⟩ := (show SetT0 X.prog X.w s.heap a _ from (I.hok a _ ha).1).ex
  exact cr_sortedTV hr hc pins s σ H _ us Q I r ⟨a, _, Lz, rfl, ha, rfl, hk, by rw [List.length_map] at few; exact few, q⟩
theorem zips {H : Hp} {vs : List V} {Gs : List (List Nat)} (h : Paired (TupN H) vs Gs) : ∃ kz : List (Addr × List Nat), vs = kz.map (fun p => V.ref p.1) ∧ Gs = kz.map (·.2) ∧ ∀ p ∈ kz, TupN H (.ref p.1) p.2 := by
  induction h with
  | nil => exact ⟨[], rfl, rfl, fun p hp => (by cases hp)⟩
  | @cons v l vs Gs r _ ih =>
    obtain ⟨kz, rfl, rfl, h⟩ := ih
    obtain ⟨a, rfl, e⟩ := r
    refine ⟨(a, l) :: kz, rfl, rfl, fun p hp => ?_⟩
    rcases List.mem_cons.mp hp with rfl | hp
    · exact ⟨a, rfl, e⟩
    · exact h p hp
theorem nat_int_nat (l : List Nat) : (l.map fun n : Nat => (n : Int)).map Int.toNat = l := by
  rw [List.map_map]
  exact (List.map_congr_left fun i _ => rfl).trans (List.map_id l)
theorem groups_sorted {K : PySem.W.Frag} {P : Program} {w : World} {H : Hp} {g : Addr} {vs : List V} {Gs : List (List Nat)} (hg : H g = some (.lst vs)) (hp : Paired (TupN H) vs Gs) (hne : ∀ x ∈ Gs, x ≠ []) (hl : Gs.length < 64) :
    ∃ ks : List (Addr × List Int), SqL K H g (ks.map fun p => V.ref p.1) ∧ (∀ p ∈ ks, SqT K H p.1 (p.2.map V.int)) ∧ ks.length < 64 ∧
      ∀ (a : Addr) (L : List (Addr × List Int)), H a = none → (∀ p ∈ L, p ∈ ks) → (∀ p ∈ ks, p.2 ∈ L.map (·.2)) →
        ∃ Lz : List (Addr × List Nat), L = Lz.map (fun p => (p.1, p.2.map fun n : Nat => (n : Int))) ∧ (∀ p ∈ Lz, TupN (upd H a (SetTO P w a L)) (.ref p.1) p.2 ∧ p.2 ≠ []) ∧ ((Lz.map (·.2)).Nodup → sortL (Lz.map (·.2)) = sortL (uniq Gs)) := by
  obtain ⟨kz, rfl, rfl, hk⟩ := zips hp
  refine ⟨kz.map fun p => (p.1, p.2.map fun n : Nat => (n : Int)), SqL.of (by rw [List.map_map]; exact hg), fun p hp => ?_, by rw [List.length_map] at hl ⊢; exact hl, fun a L na hs hc => ?_⟩
  · obtain ⟨q, hq, rfl⟩ := List.mem_map.mp hp
    obtain ⟨b, e, hb⟩ := hk q hq
    cases e
    exact SqT.of (by rw [hb, iv_int])
  have n1 := Same.new na (SetTO P w a L)
  have back : ∀ p ∈ L, (p.1, p.2.map Int.toNat) ∈ kz ∧ (p.1, (p.2.map Int.toNat).map fun n : Nat => (n : Int)) = p := fun p hp => by
    obtain ⟨q, hq, rfl⟩ := List.mem_map.mp (hs p hp)
    show (q.1, (q.2.map fun n : Nat => (n : Int)).map Int.toNat) ∈ kz ∧ _
    rw [nat_int_nat]
    exact ⟨hq, rfl⟩
  have eL : L = (L.map fun p => (p.1, p.2.map Int.toNat)).map (fun p => (p.1, p.2.map fun n : Nat => (n : Int))) := by
    rw [List.map_map]
    exact ((List.map_congr_left (g := id) fun p hp => (back p hp).2).trans (List.map_id L)).symm
  refine ⟨L.map fun p => (p.1, p.2.map Int.toNat), eL, fun p hp => ?_, fun hnd => ?_⟩
  · obtain ⟨q, hq, rfl⟩ := List.mem_map.mp hp
    have h := (back q hq).1
    exact ⟨(hk _ h).mono n1, hne _ (List.mem_map.mpr ⟨_, h, rfl⟩)⟩
  · refine sortL_congr ((List.perm_ext_iff_of_nodup hnd (nodup_uniq _)).mpr fun x => ?_)
    rw [mem_uniq]
    constructor
    · intro h
      obtain ⟨p, hp, rfl⟩ := List.mem_map.mp h
      obtain ⟨q, hq, rfl⟩ := List.mem_map.mp hp
      exact List.mem_map.mpr ⟨_, (back q hq).1, rfl⟩
    · intro h
      obtain ⟨p, hp, rfl⟩ := List.mem_map.mp h
      obtain ⟨q, hq, e⟩ := List.mem_map.mp (hc _ (List.mem_map.mpr ⟨p, hp, rfl⟩))
      refine List.mem_map.mpr ⟨_, List.mem_map.mpr ⟨q, hq, rfl⟩, ?_⟩
      show q.2.map Int.toNat = p.2
      rw [e]
      exact nat_int_nat _
theorem keep_vals {n : Nat} {F : Fam} (L : List (List Nat)) (hL : ∀ σ ∈ L, IsPerm n σ) {b : Nat} (hb : b < n) : ∀ x ∈ L.map (·.getD b 0), x < n := fun x hx => by
  obtain ⟨σ, hσ, rfl⟩ := List.mem_map.mp hx
  have p := hL σ hσ
  have hl : b < σ.length := by rw [p.len]; exact hb
  have e : σ.getD b 0 = σ[b] := by rw [List.getD_eq_getElem?_getD, List.getElem?_eq_getElem hl]; rfl
  rw [e]
  exact List.mem_range.mp (List.Perm.mem_iff p |>.mp (List.getElem_mem hl))
theorem grp_ne {n : Nat} {F : Fam} (h2 : 2 ≤ n) (h5 : n ≤ 5) (h : F ∈ allN n) {b : Nat} (hb : b < n) : grp n F b ≠ [] ∧ (grp n F b).length ≤ n := by
  rw [grp_cls h2 h5 h hb]
  constructor
  · intro e
    have : b ∈ cls n F b := List.mem_filter.mpr ⟨List.mem_range.mpr hb, decide_eq_true rfl⟩
    rw [e] at this
    cases this
  · have := List.length_filter_le (fun c => decide (beadText n F c = beadText n F b)) (List.range n)
    rw [List.length_range] at this
    exact this
theorem kinds_small {n : Nat} {F : Fam} (h2 : 2 ≤ n) (h5 : n ≤ 5) (h : F ∈ allN n) : (kindsOf n F).length ≤ 1000 ∧ ∀ bag ∈ kindsOf n F, bag.length ≤ 1000 := by
  rw [kinds_eq h2 h5 h]
  constructor
  · rw [sortL_length]
    have := sub_len (uniq ((List.range n).map (grp n F))) ((List.range n).map (grp n F)) (nodup_uniq _) fun x hx => mem_uniq.mp hx
    rw [List.length_map, List.length_range] at this
    omega
  · intro bag hb
    obtain ⟨b, hb', rfl⟩ := List.mem_map.mp (mem_uniq.mp ((sortL_perm _).mem_iff.mp hb))
    have := (grp_ne h2 h5 h (List.mem_range.mp hb')).2
    omega
section
variable {P : Program} {w : World} {K : PySem.W.Frag} {mg : Str → Option Value} {base : Heap}
theorem ok_law {f : Addr} {fd : FuncData} (FF : Fun K "law" "law" sLaw f fd) (T : Bi mg) (D__law_family : DefAt P w K mg base 3 "_law_family" ["_law_row", "_law_most"] (spFamily K)) (D__law_size : DefAt P w K mg base 1 "_law_size" ["_law_family_here"] spSize)
    (D__law_orders : DefAt P w K mg base 1 "_law_orders" ["_law_some"] spOrders) (D__law_named : DefAt P w K mg base 1 "_law_named" ["_law_bags", "_law_names"] spNamed) (D__law_alike : DefAt P w K mg base 4 "_law_alike" ["_law_found", "_law_due"] (spAl 3))
    (D__law_mixed : DefAt P w K mg base 2 "_law_mixed" ["_law_row", "_law_some"] (spMixed K)) (D__law_moved : DefAt P w K mg base 4 "_law_moved" ["_law_row", "_law_family_here", "_law_most"] (spMove K))
    (D_renamings : DefAt P w K mg base 125 "renamings" ["family"] spRen) (D_copies : DefAt P w K mg base 125 "copies" ["family"] spCopies) (D_renamed : DefAt P w K mg base 6 "renamed" ["family", "names"] spRenamed)
    (D_shape : DefAt P w K mg base 125 "shape" ["family"] spShape) (D_kinds : DefAt P w K mg base 124 "kinds" ["family"] spKinds) (D_same_shape : DefAt P w K mg base 125 "same_shape" ["one", "other"] spSame) :
    FnOk P w K mg base CX0 126 f fd ["_law_script"] (spLaw K) := by
  refine FF.ok scLaw (fun vs H Q E h => ?_) (fun cdv A outer s H vs Q E hr h => ?_)
  · obtain ⟨a, ns, rfl, _⟩ := h; rfl
  · obtain ⟨z, ns, rfl, hz, q⟩ := h
    refine ⟨_, (pss_cons (ps_set (i := 1) scLaw.nd rfl (.inl rfl) (pe_lstK K (pa_cons (pv 0) (pa_cons pe_int (pa_cons pe_int (pa_cons pe_int pa_nil))))))
    (pss_cons (ps_set (i := 2) scLaw.nd rfl (.inr rfl) (pCall D__law_family (hr.mono (by decide)) (pa_cons (pv 1) (pa_cons pe_int pa_nil))))
    (pss_cons (ps_set (i := 3) scLaw.nd rfl (.inl rfl) (pCall D__law_size (hr.mono (by decide)) (pa_cons (pv 2) pa_nil)))
    (pss_cons (ps_set (i := 4) scLaw.nd rfl (.inl rfl) (pCall D__law_orders (hr.mono (by decide)) (pa_cons (pe_listRg rfl rfl T.list (prg_1 rfl T.range (pv 3))) pa_nil)))
    (pss_cons (sLcX 6 [("_law_names", 5)] scLaw.nd (piSeq K (pv 4)) (N := ["_law_script", "_law_row", "_law_family_here", "_law_size_here", "_law_orders_here", "_law_names", "_law_every", "_law_groups", "_law_bead", "_law_other", "_law_wide", "_law_order"]) (sc := (defScope sLaw)) (by decide +kernel) (fun _ _ _ _ _ => (pgN 5 scLaw.nd)) (fun _ _ _ _ _ => pts_nil) (fun _ _ _ _ _ => (pCall D__law_named (hr.mono (by decide)) (pa_cons (pv 2) (pa_cons (pv 5) pa_nil)))) (by decide +kernel))
    (pss_cons (ps_if (PW.pt (pw_or (pt_not (pt_val (pCall D__law_alike (hr.mono (by decide)) (pa_cons (pCall D_renamings (hr.mono (by decide)) (pa_cons (pv 2) pa_nil)) (pa_cons (pe_bm PySem.F.plainAttrs_list PySem.F.slot_list_count PySem.F.type_list_count (mCountD K hr) (pv 6) (pa_cons (pv 2) pa_nil)) pa_nil))))) (pw_or1 (pt_not (pt_val (pCall D__law_alike (hr.mono (by decide)) (pa_cons (pCall D_copies (hr.mono (by decide)) (pa_cons (pv 2) pa_nil)) (pa_cons (pLen cr_lenSz T.len (pSet (cSetF K hr) T.set (pv 6))) pa_nil)))))))) (pss_one (ps_ret pe_bl)) pss_nil)
    (pss_cons (ps_set (i := 5) scLaw.nd rfl (.inl rfl) (pCall D__law_mixed (hr.mono (by decide)) (pa_cons (pv 1) (pa_cons (pe_listRg rfl rfl T.list (prg_1 rfl T.range (pv 3))) pa_nil))))
    (pss_cons (ps_if (PW.pt (pw_or (pt_not (pt_val (pCall D__law_alike (hr.mono (by decide)) (pa_cons (pCall D_renamed (hr.mono (by decide)) (pa_cons (pv 2) (pa_cons (pTuple (cTup K) T.tuple (pv 5)) pa_nil))) (pa_cons (pCall D__law_named (hr.mono (by decide)) (pa_cons (pv 2) (pa_cons (pv 5) pa_nil))) pa_nil))))) (pw_or1 (pt_cmpR (op_ne) (pCall D_shape (hr.mono (by decide)) (pa_cons (pCall D__law_named (hr.mono (by decide)) (pa_cons (pv 2) (pa_cons (pv 5) pa_nil))) pa_nil)) (pCall D_shape (hr.mono (by decide)) (pa_cons (pv 2) pa_nil)) (nomark _))))) (pss_one (ps_ret pe_bl)) pss_nil)
    (pss_cons (ps_set (i := 7) scLaw.nd rfl (.inl rfl) (pe_lst pa_nil))
    (pss_cons (ps_for PassesOwn.never rfl (pi_range1 rfl T.range (pa_cons (pv 3) pa_nil)) (pg_name (i := 8) scLaw.nd rfl (Or.inr rfl))
      (pss_one (ps_expr (pe_bm PySem.F.plainAttrs_list PySem.F.slot_list_append PySem.F.type_list_append mt_append (pv 7) (pa_cons (pTuple (cTup K) T.tuple (pSorted (cSortSet w) T.sorted (pSet (cSetLI K w hr) T.set (pLcX [("_law_order", 11)] scLaw.nd (piSeq K (pv 4)) (N := ["_law_script", "_law_row", "_law_family_here", "_law_size_here", "_law_orders_here", "_law_names", "_law_every", "_law_groups", "_law_bead", "_law_other", "_law_wide", "_law_order"]) (sc := (defScope sLaw)) (by decide +kernel) (fun _ _ _ _ _ => (pgN 11 scLaw.nd)) (fun _ _ _ _ _ => pts_one (pt_cmpR (oEqD K hr) (pCall D__law_named (hr.mono (by decide)) (pa_cons (pv 2) (pa_cons (pv 11) pa_nil))) (pv 2) (nomark _))) (fun _ _ _ _ _ => (pIx K (pv 11) (pv 8))))))) pa_nil)))))
    (pss_cons (ps_if (pt_not (pt_val (pCall D__law_alike (hr.mono (by decide)) (pa_cons (pCall D_kinds (hr.mono (by decide)) (pa_cons (pv 2) pa_nil)) (pa_cons (pTuple (cTup K) T.tuple (pSorted (cSortedTV2 K P w hr) T.sorted (pSet (cSetOfT K P w hr) T.set (pv 7)))) pa_nil))))) (pss_one (ps_ret pe_bl)) pss_nil)
    (pss_cons (ps_set (i := 9) scLaw.nd rfl (.inl rfl) (pCall D__law_moved (hr.mono (by decide)) (pa_cons (pv 1) (pa_cons (pv 2) (pa_cons pe_int pa_nil)))))
    (pss_cons (ps_if (PW.pt (pw_or (pt_not (pt_val (pCall D__law_alike (hr.mono (by decide)) (pa_cons (pCall D_same_shape (hr.mono (by decide)) (pa_cons (pv 2) (pa_cons (pv 9) pa_nil))) (pa_cons (pe_cmpR (oInD K hr) (pv 9) (pv 6) rfl) pa_nil))))) (pw_or1 (pt_cmpR (op_ne) (pe_cmpR (op_eq) (pCall D_shape (hr.mono (by decide)) (pa_cons (pv 2) pa_nil)) (pCall D_shape (hr.mono (by decide)) (pa_cons (pv 9) pa_nil)) (nomark _)) (pe_cmpR (oInD K hr) (pv 9) (pv 6) rfl) (nomark _))))) (pss_one (ps_ret pe_bl)) pss_nil)
    (pss_cons (ps_set (i := 10) scLaw.nd rfl (.inl rfl) (pCall D__law_family (hr.mono (by decide)) (pa_cons (pv 1) (pa_cons pe_int pa_nil))))
    (pss_one (ps_ret (pe_cmpR (op_is_bl) (pCall D_same_shape (hr.mono (by decide)) (pa_cons (pv 10) (pa_cons (pCall D__law_named (hr.mono (by decide)) (pa_cons (pv 10) (pa_cons (pCall D__law_mixed (hr.mono (by decide)) (pa_cons (pv 1) (pa_cons (pe_listRg rfl rfl T.list (prg_1 rfl T.range (pCall D__law_size (hr.mono (by decide)) (pa_cons (pv 10) pa_nil)))) pa_nil))) pa_nil))) pa_nil))) pe_bl (nomark _)))))))))))))))))), ?_⟩
    refine ⟨_, rfl, (by show 4 ≤ sizeLine; decide), fun r nr kr => ?_⟩
    have hrz : z ≠ r := fun e => by
      subst e
      rcases hz with (h | ⟨o, h⟩) | ⟨o, _, _, h, _⟩
      · rw [nr] at h; cases h
      · rw [nr] at h; cases h
      · rw [kr] at h; cases h
    have n0 := Same.new nr (.lst [.ref z, .int 0, .int 5263, .int 0])
    have R0 : Row K (upd H r (.lst [.ref z, .int 0, .int 5263, .int 0])) r z ns := ⟨⟨0, 5263, 0, by decide, by decide, by decide, upd_same⟩, n0.seq hz, hrz⟩
    generalize upd H r (.lst [.ref z, .int 0, .int 5263, .int 0]) = H0 at n0 R0
    refine ⟨_, rfl, r, z, ns, 5, rfl, R0, by decide, by decide, fun n G τ v H1 hG hτ h5 hF _ R1 => ?_⟩
    have h2 := hG.pre.two
    have hA := all_grown h5 hG hτ
    generalize named G τ = F at hF hA
    clear hG hτ
    have I := all_fam h2 h5 hA
    refine ⟨_, rfl, n, F, v, rfl, hF, I.toPre, by omega, fun H2 s2 => ?_⟩
    refine ⟨_, rfl, n, rfl, RgOk.of_le (by omega) (by omega) (by omega) (by omega), fun p np => ?_⟩
    rw [rgV_nat]
    have n3 := Same.new np (.lst (iv (List.range n)))
    refine ⟨p, List.range n, rfl, upd_same, by rw [List.length_range]; omega, fun vo H3 s3 ho => ?_⟩
    have e3 : Same H1 H3 := s2.trans (n3.trans s3)
    have hF3 := hF.mono e3
    have R3 := R1.same e3
    clear n3 s3 s2 np
    have ho : OrdL H3 vo (ords n) := ho
    obtain ⟨po, vos, rfl, hpo, hpl⟩ := ho
    have hol : vos.length = (ords n).length := plen hpl
    have hof : (ords n).length = fact n := by unfold ords; rw [orders_len', List.length_range]
    have h120 : fact n ≤ 120 := fact_mono (b := 5) h5
    obtain ⟨J1, hw1, sel1⟩ := seq_sel (K := K) (.inl hpo)
    refine ⟨_, rfl, po, rfl, sel1 _ fun D hD => lc_fm hw1 FamT (fun i => ((ords n)[i]?).map (named F)) hD (fun _ e => e) YAt.same (fun _ _ _ _ e r => r.mono e) (fun _ _ _ _ _ hD r => r.upd hD) (by omega) ?_ ?_⟩
    · rintro i x H4 H5 Q1 Q0 hi s4 ⟨rfl, hx⟩ k1 k0
      obtain ⟨σ, hσ, hxs⟩ := pget hpl hx
      refine ⟨rfl, _, rfl, _, rfl, call_named (E := E) (hF3.mono s4) I.toPre (by omega) (hxs.mono s4) (mem_ords.mp (List.mem_of_getElem? hσ)) fun v' H6 s6 h' => k1 _ _ _ (by rw [hσ]; rfl) s6 h'⟩
    intro H5 ys s5 hD5 hy
    rw [hol, range_map_some (g := named F) (fun i b hb => by rw [hb]; rfl)] at hy
    have hF5 := hF3.mono s5
    have R5 := R3.same s5
    have hO5 : OrdL H5 (.ref po) (ords n) := ⟨po, vos, rfl, s5 _ _ hpo, pmono (fun _ _ q => q.mono s5) hpl⟩
    refine ⟨_, rfl, n, F, v, rfl, hF5, I, by omega, fun H6 s6 => ?_⟩
    have hE6 : Dp K H6 (.ref D) (.list (((ords n).map (named F)).map dF)) := .lst (SqL.of (s6 _ _ hD5)) (dpAll_of (enc := dF) (fun _ _ q => FamT.dp q) (pmono (fun _ _ q => q.mono s6) hy))
    have hF6 := hF5.mono s6
    have ek : ((ords n).map (named F)).count F = (shapeOf n F).2 := count_keepers.trans (keepers_len h2 h5 hA)
    refine ⟨_, rfl, .inl ⟨rfl, _, SqL.of (s6 _ _ hD5)⟩, _, rfl, D, v, dF F, _, rfl, rfl, hE6, hF6.dp, shaped_every _, shaped_F F, ?_⟩
    rw [count_dF, ek]
    refine ⟨_, _, rfl, AlikeV.sc (.inl ⟨_, rfl, rfl⟩), fun H7 s7 => ⟨true, rfl, ?_⟩⟩
    have s67 := s6.trans s7
    refine ⟨_, rfl, n, F, v, rfl, hF5.mono s67, I, by omega, fun H8 s8 => ?_⟩
    have s68 := s67.trans s8
    have hu := every_len h2 h5 hA
    refine ⟨_, rfl, D, ys, (ords n).map (named F), rfl, SqL.of (s68 _ _ hD5), pmono (fun _ _ q => q.mono s68) hy, by omega, fun p8 np8 => ?_⟩
    refine ⟨p8, _, rfl, upd_same, by omega, ?_⟩
    rw [hu.1]
    refine ⟨_, _, rfl, AlikeV.sc (.inl ⟨_, rfl, rfl⟩), fun H9 s9 => ⟨true, rfl, ?_⟩⟩
    have s59 := s68.trans ((Same.new np8 _).trans s9)
    have hF9 := hF5.mono s59
    have R9 := R5.same s59
    have hO9 := hO5.mono s59
    have hD9 : H9 D = some (.lst ys) := s59 _ _ hD5
    have hE9 : Paired (FamT H9) ys ((ords n).map (named F)) := pmono (fun _ _ q => q.mono s59) hy
    clear hE6 hF6 s67 s68 np8 s8 s7 s6 hF5 R5 hO5 s5 hF3 R3 hpo hpl hw1 sel1
    refine ⟨_, rfl, _, rfl, n, rfl, RgOk.of_le (by omega) (by omega) (by omega) (by omega), fun p np => ?_⟩
    rw [rgV_nat]
    have n9 := Same.new np (.lst (iv (List.range n)))
    refine ⟨r, z, ns, p, List.range n, rfl, R9.same n9, .inl (SqL.of upd_same), by rw [List.length_range]; omega, fun m vm H10 hm hvm _ b10 R10 => ?_⟩
    have hm : IsPerm n m := hm
    obtain ⟨rx9, hrx9⟩ := R9.lst
    have hF10 := (hF9.mono n9).sameB b10 (n9 _ _ hrx9)
    have hO10 := (hO9.mono n9).sameB b10 (R9.same n9)
    have hDr : D ≠ r := fams_ne hE9 hD9 R9
    have hD10 : H10 D = some (.lst ys) := b10 _ _ hDr (n9 _ _ hD9)
    have hE10 : Paired (FamT H10) ys ((ords n).map (named F)) := pmono (fun _ _ q => (FamT.mono n9 q).sameB b10 (n9 _ _ hrx9)) hE9
    clear b10 n9 np hF9 R9 hO9 hD9 hE9 hrx9
    obtain ⟨pm, rfl, hpm⟩ := id hvm
    have J := I.toPre.named hm
    have hJl := J.len
    refine ⟨_, rfl, _, rfl, pm, _, rfl, .inl ⟨SqL.of hpm, fun t nt => ?_⟩⟩
    have n11 := Same.new nt (.tup (iv m))
    refine ⟨n, F, v, .ref t, m, rfl, hF10.mono n11, I, by omega, ⟨t, rfl, upd_same⟩, hm, fun v1 H11 s11 h1 => ?_⟩
    have s1011 := n11.trans s11
    refine ⟨_, rfl, _, rfl, call_named (E := E) (hF10.mono s1011) I.toPre (by omega) (hvm.mono s1011) hm fun v2 H12 s12 h2' => ?_⟩
    refine ⟨v1, v2, rfl, (h1.mono s12).alike h2' (by omega) (fun bag hb => by have := J.blen hb; omega), fun H13 s13 => ⟨true, rfl, ?_⟩⟩
    have s1013 := s1011.trans (s12.trans s13)
    refine ⟨_, rfl, _, rfl, call_named (E := E) (hF10.mono s1013) I.toPre (by omega) (hvm.mono s1013) hm fun v3 H14 s14 h3 => ?_⟩
    refine ⟨n, named F m, v3, rfl, h3, J, by omega, fun H15 s15 => ?_⟩
    have s1015 := s1013.trans (s14.trans s15)
    refine ⟨_, rfl, n, F, v, rfl, hF10.mono s1015, I, by omega, fun H16 s16 => ⟨rfl, _, rfl, ?_⟩⟩
    rw [shape_named I.toPre hm, decide_eq_true (p := V.str (S (shapeOf n F).1) = V.str (S (shapeOf n F).1)) rfl]
    have s1016 := s1015.trans s16
    have hF16 := hF10.mono s1016
    have R16 := R10.same s1016
    have hO16 := hO10.mono s1016
    have hD16 := s1016 _ _ hD10
    have hE16 : Paired (FamT H16) ys ((ords n).map (named F)) := pmono (fun _ _ q => q.mono s1016) hE10
    clear s1016 s1015 s1013 s1011 s11 n11 nt s12 s13 s14 s15 s16 h1 h2' h3 hF10 R10 hO10 hD10 hE10 hJl
    refine ⟨Nat.zero_le _, fun g ng => ?_⟩
    have n17 := Same.new ng (.lst [])
    have hG17 : (upd H16 g (.lst [])) g = some (.lst []) := upd_same
    refine ⟨_, rfl, n, rfl, by omega, by omega, for_it (walk_range (lo := 0) (n := n))
      (fun i σ H' => ∃ a8 vs, σ = [some (.ref z), some (.ref r), some v, some (.int (n : Int)), some (.ref po), some (.ref pm), some (.ref D), some (.ref g), a8, none, none, none] ∧ Same H16 H' ∧ H' g = some (.lst vs) ∧ Paired (TupN H') vs ((List.range i).map (grp n F)))
      ⟨_, [], rfl, n17, hG17, .nil⟩ (fun _ _ _ _ _ => trivial) ?_ ?_⟩
    · rintro b x σ H2 H3 hb ⟨a8, vs, rfl, s2, hg2, hv2⟩ ⟨rfl, rfl⟩
      show gName 8 (V.int (0 + (b : Int))) _ _ _
      rw [Int.zero_add]
      obtain ⟨po', vos, e, hpo, hpl⟩ := hO16.mono s2
      cases e
      have hol : vos.length = (ords n).length := plen hpl
      have hF2 := hF16.mono s2
      obtain ⟨J2, hw2, sel2⟩ := seq_sel (K := K) (.inl hpo)
      refine ⟨_, rfl, .inl ⟨rfl, _, SqL.of hg2⟩, _, rfl, po, rfl, sel2 _ fun D2 hD2 => lc_fm hw2 (RV0 fun k : Nat => V.int (k : Int)) (fun j => ((ords n)[j]?).bind fun σ => if decide (named F σ = F) = true then some (σ.getD b 0) else none) hD2 (fun _ e => e) YAt.same (fun _ _ _ _ _ r => r) (fun _ _ _ _ _ _ r => r) (by omega) ?_ ?_⟩
      · rintro j x H4 H5 Q1 Q0 hj s4 ⟨rfl, hx⟩ k1 k0
        obtain ⟨σ, hσ, hxs⟩ := pget hpl hx
        have hp := mem_ords.mp (List.mem_of_getElem? hσ)
        refine ⟨rfl, _, rfl, _, rfl, call_named (E := E) (hF2.mono s4) I.toPre (by omega) (hxs.mono s4) hp fun v' H6 s6 h' => ?_⟩
        have s46 := s4.trans s6
        refine ⟨_, rfl, dF (named F σ), dF F, h'.dp, (hF2.mono s46).dp, shaped_F _, shaped_F _, _, rfl, ?_⟩
        rw [eqv_F]
        by_cases e : named F σ = F
        · rw [decide_eq_true e]
          obtain ⟨c, rfl, hc⟩ := hxs.mono s46
          have hbl : b < σ.length := by rw [hp.len]; exact hb
          have e2 : σ[b]? = some (σ.getD b 0) := by rw [List.getD_eq_getElem?_getD, List.getElem?_eq_getElem hbl]; rfl
          refine ⟨_, rfl, _, rfl, c, _, _, _, rfl, rfl, .inl (SqL.of hc), atI_nat (iv_get e2), ?_⟩
          exact k1 _ _ _ (by rw [hσ]; exact if_pos (decide_eq_true e)) s6 rfl
        · rw [decide_eq_false e]
          exact k0 (by rw [hσ]; exact if_neg (by rw [decide_eq_false e]; decide)) _ s6
      · intro H4 zs s4 hD4 hz4
        have ef : (List.range vos.length).filterMap (fun j => ((ords n)[j]?).bind fun σ => if decide (named F σ = F) = true then some (σ.getD b 0) else none) = (keepers n F).map (·.getD b 0) := by
          rw [hol]
          exact range_filter_some (l := ords n) (g := fun σ => σ.getD b 0) (p := fun σ => decide (named F σ = F)) fun i σ e => by rw [e]; rfl
        rw [ef] at hz4
        rw [rV_map hz4] at hD4
        have hkl : ((keepers n F).map (·.getD b 0)).length ≤ 120 := by
          rw [List.length_map]
          have := List.length_filter_le (fun σ => decide (named F σ = F)) (ords n)
          unfold keepers
          omega
        have hlt := keep_vals (F := F) (keepers n F) (fun σ hσ => mem_ords.mp (List.mem_filter.mp hσ).1) hb
        have hun := nodup_len (nodup_uniq ((keepers n F).map (·.getD b 0))) fun x hx => hlt x (mem_uniq.mp hx)
        refine ⟨D2, _, rfl, SqL.of hD4, by omega, fun p5 c np5 hc => ?_⟩
        refine ⟨p5, _, c, rfl, upd_same, by omega, fun nss p6 hpw hmem hl np6 => ?_⟩
        have en := sorted_set_nats hpw hmem
        subst en
        rw [← iv_int]
        have n5 := Same.new np5 (SetO w p5 (fun j_1 => decide (j_1 ∈ ((keepers n F).map (·.getD b 0)).map fun n : Nat => (n : Int))) c)
        have n6 := Same.new np6 (.lst (iv (grp n F b)))
        refine ⟨p6, _, rfl, .inl ⟨SqL.of upd_same, fun p7 np7 => ?_⟩⟩
        have n7 := Same.new np7 (.tup (iv (grp n F b)))
        have s57 := s4.trans (n5.trans (n6.trans n7))
        have hvl : vs.length = b := by rw [plen hv2, List.length_map, List.length_range]
        have hg7 := s57 _ _ hg2
        refine ⟨g, vs, .ref p7, rfl, rfl, hg7, by rw [hvl, sizeLine_eq]; omega, ?_⟩
        refine ⟨_, vs ++ [.ref p7], rfl, fun c o h => ?_, upd_same, ?_⟩
        · rw [upd_ne (ne_of_none h ng)]
          exact (s2.trans s57) _ _ h
        · rw [List.range_succ, List.map_append]
          exact pappend (pmono (fun _ _ q => (TupN.mono s57 q).upd hg7) hv2) (.cons (TupN.upd ⟨p7, rfl, upd_same⟩ hg7) .nil)
    · rintro σ H2 ⟨a8, vs, rfl, s2, hg2, hv2⟩
      have hgs : ∀ x ∈ (List.range n).map (grp n F), x ≠ [] := fun x hx => by
        obtain ⟨b, hb, rfl⟩ := List.mem_map.mp hx
        exact (grp_ne h2 h5 hA (List.mem_range.mp hb)).1
      refine ⟨_, rfl, n, F, v, rfl, hF16.mono s2, I, by omega, fun vk H18 s18 hk => ?_⟩
      obtain ⟨kk, k1, k2, k3, k4⟩ := groups_sorted (K := K) (P := P) (w := w) (s18 _ _ hg2) (pmono (fun _ _ q => q.mono s18) hv2) hgs (by rw [List.length_map, List.length_range]; omega)
      refine ⟨_, rfl, g, kk, rfl, k1, k2, k3, fun a1 L1 na1 hs1 hc1 => ?_⟩
      obtain ⟨Lz, l1, l2, l3⟩ := k4 a1 L1 na1 hs1 hc1
      refine ⟨a1, L1, Lz, rfl, upd_same, l1, l2, fun ys' p hy19 hnd np => ?_⟩
      rw [l3 hnd] at hy19
      have m1 := Same.new na1 (SetTO P w a1 L1)
      have m2 := Same.new np (.lst ys')
      have s19 := m1.trans m2
      refine ⟨p, _, rfl, .inl ⟨SqL.of upd_same, fun t nt => ?_⟩⟩
      have hy19 := pmono (fun _ _ q => TupN.mono m2 q) hy19
      have n19 := Same.new nt (.tup ys')
      rw [← kinds_eq h2 h5 hA] at hy19
      have ks := kinds_small h2 h5 hA
      refine ⟨vk, .ref t, rfl, (hk.mono (s19.trans n19)).alike ⟨t, ys', rfl, upd_same, pmono (fun _ _ q => q.mono n19) hy19⟩ ks.1 ks.2, fun H20 s20 => ⟨true, rfl, ?_⟩⟩
      have s1620 := s2.trans (s18.trans (s19.trans (n19.trans s20)))
      have hF20 := hF16.mono s1620
      have R20 := R16.same s1620
      have hD20 := s1620 _ _ hD16
      have hE20 : Paired (FamT H20) ys ((ords n).map (named F)) := pmono (fun _ _ q => q.mono s1620) hE16
      clear s1620 s20 n19 nt hy19 hk s18 hv2 hg2 s2 n17 hG17 hD16 hE16 R16 hF16 hO16 ng
      refine ⟨_, rfl, _, rfl, r, z, ns, n, F, v, 3, rfl, R20, hF20, hA, h2, h5, by decide, fun vq H21 G hGA b21 R21 hG21 => ?_⟩
      obtain ⟨rx20, hrx20⟩ := R20.lst
      have hF21 := hF20.sameB b21 hrx20
      have hD21 := b21 _ _ (fams_ne hE20 hD20 R20) hD20
      have hE21 : Paired (FamT H21) ys ((ords n).map (named F)) := pmono (fun _ _ q => FamT.sameB q b21 hrx20) hE20
      have IG := all_fam h2 h5 hGA
      have siff := shape_iff h2 h5 hA hGA
      refine ⟨_, rfl, _, rfl, n, F, v, n, G, vq, rfl, hF21, I, by omega, hG21, IG, by omega, fun H22 s22 => ?_⟩
      have dpE : ∀ {H' : Hp}, Same H21 H' → Dp K H' (.ref D) (.list (((ords n).map (named F)).map dF)) := fun e => .lst (SqL.of (e _ _ hD21)) (dpAll_of (enc := dF) (fun _ _ q => FamT.dp q) (pmono (fun _ _ q => FamT.mono e q) hE21))
      refine ⟨_, rfl, _, rfl, dF G, _, (hG21.mono s22).dp, dpE s22, shaped_F G, shaped_every _, ?_⟩
      rw [any_dF]
      have eb : decide ((shapeOf n F).1 = (shapeOf n G).1) = decide (G ∈ (ords n).map (named F)) := decide_eq_decide.mpr siff
      rw [eb]
      refine ⟨_, _, rfl, AlikeV.sc (.inr ⟨_, rfl, rfl⟩), fun H23 s23 => ⟨true, rfl, ?_⟩⟩
      have s2123 := s22.trans s23
      refine ⟨_, rfl, n, F, v, rfl, hF21.mono s2123, I, by omega, fun H24 s24 => ?_⟩
      have s2124 := s2123.trans s24
      refine ⟨_, rfl, n, G, vq, rfl, hG21.mono s2124, IG, by omega, fun H25 s25 => ⟨rfl, ?_⟩⟩
      have s2125 := s2124.trans s25
      refine ⟨_, rfl, _, rfl, dF G, _, (hG21.mono s2125).dp, dpE s2125, shaped_F G, shaped_every _, ?_⟩
      rw [any_dF]
      have est : decide (V.str (S (shapeOf n F).1) = V.str (S (shapeOf n G).1)) = decide (G ∈ (ords n).map (named F)) := decide_eq_decide.mpr ⟨fun q => siff.mp (S_inj.mp (V.str.inj q)), fun q => by rw [siff.mpr q]⟩
      refine ⟨rfl, _, rfl, ?_⟩
      rw [est, decide_eq_true (p := V.bl (decide (G ∈ (ords n).map (named F))) = V.bl (decide (G ∈ (ords n).map (named F)))) rfl]
      refine ⟨_, rfl, r, z, ns, 30, rfl, R21.same s2125, by decide, by decide, fun n' G' τ' v' H26 hG' hτ' hn' hF26 _ R26 => ?_⟩
      have IW := hG'.pre.named hτ'
      generalize named G' τ' = F' at hF26 IW
      refine ⟨_, rfl, _, rfl, _, rfl, _, rfl, n', F', v', rfl, hF26, IW.toPre, by omega, fun H27 s27 => ?_⟩
      refine ⟨n', rfl, RgOk.of_le (by omega) (by omega) (by omega) (by omega), fun p np => ?_⟩
      rw [rgV_nat]
      have n28 := Same.new np (.lst (iv (List.range n')))
      have R28 := (R26.same s27).same n28
      obtain ⟨rx28, hrx28⟩ := R28.lst
      refine ⟨r, z, ns, p, List.range n', rfl, R28, .inl (SqL.of upd_same), by rw [List.length_range]; omega, fun m2 vm2 H29 hm2 hvm2 _ b29 R29 => ?_⟩
      have hm2 : IsPerm n' m2 := hm2
      have hF29 := (hF26.mono (s27.trans n28)).sameB b29 hrx28
      refine call_named (E := E) hF29 IW.toPre hn' hvm2 hm2 fun v4 H30 s30 h4 => ?_
      refine ⟨n', F', v', n', named F' m2, v4, rfl, hF29.mono s30, IW, hn', h4, IW.toPre.named hm2, hn', fun H31 s31 => ?_⟩
      rw [shape_named IW.toPre hm2, decide_eq_true (p := (shapeOf n' F').1 = (shapeOf n' F').1) rfl]
      exact ⟨true, true, rfl, rfl, q _⟩
end
end Sb

/-! W19: the head. -/
namespace Sb
open PySem L2
set_option maxHeartbeats 0 in
theorem all_mk {l : PySem.W.OpenLaw} {w : World} {K : PySem.W.Frag} {mg : Str → Option Value} {h : Heap} {fa : Addr}
    {f1 f2 f3 f4 f5 f6 f7 f8 f9 f10 f11 f12 f13 f14 f15 f16 f17 f18 f19 f20 f21 f22 f23 f24 f25 f26 f27 f28 f29 f30 f31 f32 f33 f34 f35 f36 f37 : Addr} {oc1 oc2 oc3 oc4 oc5 oc6 oc7 oc8 oc9 oc10 oc11 oc12 oc13 oc14 oc15 oc16 oc17 oc18 oc19 oc20 oc21 oc22 oc23 oc24 oc25 oc26 oc27 oc28 oc29 oc30 oc31 oc32 oc33 oc34 oc35 oc36 oc37 kV1 kV2 kV3 kV4 kV5 kV6 kV7 kV8 kV9 kV10 kV11 kV12 kV13 kV14 kV15 kV16 kV17 kV18 kV19 kV20 kV21 kV22 kV23 kV24 kV25 kV26 kV27 kV28 kV29 kV30 kV31 kV32 kV33 kV34 kV35 kV36 kV37 dc1 dc2 dc3 dc4 dc5 dc6 dc7 dc8 dc9 dc10 dc11 dc12 dc13 dc14 dc15 dc16 dc17 dc18 dc19 dc20 dc21 dc22 dc23 dc24 dc25 dc26 dc27 dc28 dc29 dc30 dc31 dc32 dc33 dc34 dc35 dc36 dc37 pm1 pm2 pm3 pm4 pm5 pm6 pm7 pm8 pm9 pm10 pm11 pm12 pm13 pm14 pm15 pm16 pm17 pm18 pm19 pm20 pm21 pm22 pm23 pm24 pm25 pm26 pm27 pm28 pm29 pm30 pm31 pm32 pm33 pm34 pm35 pm36 pm37 cd1 cd2 cd3 cd4 cd5 cd6 cd7 cd8 cd9 cd10 cd11 cd12 cd13 cd14 cd15 cd16 cd17 cd18 cd19 cd20 cd21 cd22 cd23 cd24 cd25 cd26 cd27 cd28 cd29 cd30 cd31 cd32 cd33 cd34 cd35 cd36 cd37 ct1 ct2 ct3 ct4 ct5 ct6 ct7 ct8 ct9 ct10 ct11 ct12 ct13 ct14 ct15 ct16 ct17 ct18 ct19 ct20 ct21 ct22 ct23 ct24 ct25 ct26 ct27 ct28 ct29 ct30 ct31 ct32 ct33 ct34 ct35 ct36 ct37 : Value} {od1 od2 od3 od4 od5 od6 od7 od8 od9 od10 od11 od12 od13 od14 od15 od16 od17 od18 od19 od20 od21 od22 od23 od24 od25 od26 od27 od28 od29 od30 od31 od32 od33 od34 od35 od36 od37 an1 an2 an3 an4 an5 an6 an7 an8 an9 an10 an11 an12 an13 an14 an15 an16 an17 an18 an19 an20 an21 an22 an23 an24 an25 an26 an27 an28 an29 an30 an31 an32 an33 an34 an35 an36 an37 : Option Addr} {sl1 sl2 sl3 sl4 sl5 sl6 sl7 sl8 sl9 sl10 sl11 sl12 sl13 sl14 sl15 sl16 sl17 sl18 sl19 sl20 sl21 sl22 sl23 sl24 sl25 sl26 sl27 sl28 sl29 sl30 sl31 sl32 sl33 sl34 sl35 sl36 sl37 : Array (Option Value)} {tM : Tok}
    (X : K.In h) (G : h.Ns mainGlobals mg) (hfa : mg "law" = some (.ref fa))
    (a1 : PySem.W.nsIn K mainGlobals "_law_taken" = some (some (.ref f1))) (l1 : K.lookup f1 = some ⟨oc1, od1, .func (PySem.W.fnOf "_law_taken" "_law_taken" (defArgs sLawTaken) (defBody sLawTaken) (defScope sLawTaken) .none kV1 dc1 pm1 an1 cd1 ct1), sl1⟩) (c1 : PySem.W.codeIn K cd1 "_law_taken" = true) (k1 : PySem.W.keepIn K (.ref f1) = true)
    (a2 : PySem.W.nsIn K mainGlobals "_law_pick" = some (some (.ref f2))) (l2 : K.lookup f2 = some ⟨oc2, od2, .func (PySem.W.fnOf "_law_pick" "_law_pick" (defArgs sLawPick) (defBody sLawPick) (defScope sLawPick) .none kV2 dc2 pm2 an2 cd2 ct2), sl2⟩) (c2 : PySem.W.codeIn K cd2 "_law_pick" = true) (k2 : PySem.W.keepIn K (.ref f2) = true)
    (a3 : PySem.W.nsIn K mainGlobals "_law_mixed" = some (some (.ref f3))) (l3 : K.lookup f3 = some ⟨oc3, od3, .func (PySem.W.fnOf "_law_mixed" "_law_mixed" (defArgs sLawMixed) (defBody sLawMixed) (defScope sLawMixed) .none kV3 dc3 pm3 an3 cd3 ct3), sl3⟩) (c3 : PySem.W.codeIn K cd3 "_law_mixed" = true) (k3 : PySem.W.keepIn K (.ref f3) = true)
    (a4 : PySem.W.nsIn K mainGlobals "_law_named" = some (some (.ref f4))) (l4 : K.lookup f4 = some ⟨oc4, od4, .func (PySem.W.fnOf "_law_named" "_law_named" (defArgs sLawNamed) (defBody sLawNamed) (defScope sLawNamed) .none kV4 dc4 pm4 an4 cd4 ct4), sl4⟩) (c4 : PySem.W.codeIn K cd4 "_law_named" = true) (k4 : PySem.W.keepIn K (.ref f4) = true)
    (a5 : PySem.W.nsIn K mainGlobals "_law_family" = some (some (.ref f5))) (l5 : K.lookup f5 = some ⟨oc5, od5, .func (PySem.W.fnOf "_law_family" "_law_family" (defArgs sLawFamily) (defBody sLawFamily) (defScope sLawFamily) .none kV5 dc5 pm5 an5 cd5 ct5), sl5⟩) (c5 : PySem.W.codeIn K cd5 "_law_family" = true) (k5 : PySem.W.keepIn K (.ref f5) = true)
    (a6 : PySem.W.nsIn K mainGlobals "_law_size" = some (some (.ref f6))) (l6 : K.lookup f6 = some ⟨oc6, od6, .func (PySem.W.fnOf "_law_size" "_law_size" (defArgs sLawSizeB) (defBody sLawSizeB) (defScope sLawSizeB) .none kV6 dc6 pm6 an6 cd6 ct6), sl6⟩) (c6 : PySem.W.codeIn K cd6 "_law_size" = true) (k6 : PySem.W.keepIn K (.ref f6) = true)
    (a7 : PySem.W.nsIn K mainGlobals "_law_orders" = some (some (.ref f7))) (l7 : K.lookup f7 = some ⟨oc7, od7, .func (PySem.W.fnOf "_law_orders" "_law_orders" (defArgs sLawOrders) (defBody sLawOrders) (defScope sLawOrders) .none kV7 dc7 pm7 an7 cd7 ct7), sl7⟩) (c7 : PySem.W.codeIn K cd7 "_law_orders" = true) (k7 : PySem.W.keepIn K (.ref f7) = true)
    (a8 : PySem.W.nsIn K mainGlobals "_law_alike" = some (some (.ref f8))) (l8 : K.lookup f8 = some ⟨oc8, od8, .func (PySem.W.fnOf "_law_alike" "_law_alike" (defArgs sLawAlike) (defBody sLawAlike) (defScope sLawAlike) .none kV8 dc8 pm8 an8 cd8 ct8), sl8⟩) (c8 : PySem.W.codeIn K cd8 "_law_alike" = true) (k8 : PySem.W.keepIn K (.ref f8) = true)
    (a9 : PySem.W.nsIn K mainGlobals "_law_pours" = some (some (.ref f9))) (l9 : K.lookup f9 = some ⟨oc9, od9, .func (PySem.W.fnOf "_law_pours" "_law_pours" (defArgs sLawPours) (defBody sLawPours) (defScope sLawPours) .none kV9 dc9 pm9 an9 cd9 ct9), sl9⟩) (c9 : PySem.W.codeIn K cd9 "_law_pours" = true) (k9 : PySem.W.keepIn K (.ref f9) = true)
    (a10 : PySem.W.nsIn K mainGlobals "_law_pour" = some (some (.ref f10))) (l10 : K.lookup f10 = some ⟨oc10, od10, .func (PySem.W.fnOf "_law_pour" "_law_pour" (defArgs sLawPour) (defBody sLawPour) (defScope sLawPour) .none kV10 dc10 pm10 an10 cd10 ct10), sl10⟩) (c10 : PySem.W.codeIn K cd10 "_law_pour" = true) (k10 : PySem.W.keepIn K (.ref f10) = true)
    (a11 : PySem.W.nsIn K mainGlobals "_law_coarse" = some (some (.ref f11))) (l11 : K.lookup f11 = some ⟨oc11, od11, .func (PySem.W.fnOf "_law_coarse" "_law_coarse" (defArgs sLawCoarse) (defBody sLawCoarse) (defScope sLawCoarse) .none kV11 dc11 pm11 an11 cd11 ct11), sl11⟩) (c11 : PySem.W.codeIn K cd11 "_law_coarse" = true) (k11 : PySem.W.keepIn K (.ref f11) = true)
    (a12 : PySem.W.nsIn K mainGlobals "_law_part" = some (some (.ref f12))) (l12 : K.lookup f12 = some ⟨oc12, od12, .func (PySem.W.fnOf "_law_part" "_law_part" (defArgs sLawPart) (defBody sLawPart) (defScope sLawPart) .none kV12 dc12 pm12 an12 cd12 ct12), sl12⟩) (c12 : PySem.W.codeIn K cd12 "_law_part" = true) (k12 : PySem.W.keepIn K (.ref f12) = true)
    (a13 : PySem.W.nsIn K mainGlobals "_law_moved" = some (some (.ref f13))) (l13 : K.lookup f13 = some ⟨oc13, od13, .func (PySem.W.fnOf "_law_moved" "_law_moved" (defArgs sLawMoved) (defBody sLawMoved) (defScope sLawMoved) .none kV13 dc13 pm13 an13 cd13 ct13), sl13⟩) (c13 : PySem.W.codeIn K cd13 "_law_moved" = true) (k13 : PySem.W.keepIn K (.ref f13) = true)
    (a14 : PySem.W.nsIn K mainGlobals "is_int" = some (some (.ref f14))) (l14 : K.lookup f14 = some ⟨oc14, od14, .func (PySem.W.fnOf "is_int" "is_int" (defArgs sIsInt) (defBody sIsInt) (defScope sIsInt) .none kV14 dc14 pm14 an14 cd14 ct14), sl14⟩) (c14 : PySem.W.codeIn K cd14 "is_int" = true) (k14 : PySem.W.keepIn K (.ref f14) = true)
    (a15 : PySem.W.nsIn K mainGlobals "is_in" = some (some (.ref f15))) (l15 : K.lookup f15 = some ⟨oc15, od15, .func (PySem.W.fnOf "is_in" "is_in" (defArgs sIsIn) (defBody sIsIn) (defScope sIsIn) .none kV15 dc15 pm15 an15 cd15 ct15), sl15⟩) (c15 : PySem.W.codeIn K cd15 "is_in" = true) (k15 : PySem.W.keepIn K (.ref f15) = true)
    (a16 : PySem.W.nsIn K mainGlobals "is_rising" = some (some (.ref f16))) (l16 : K.lookup f16 = some ⟨oc16, od16, .func (PySem.W.fnOf "is_rising" "is_rising" (defArgs sIsRising) (defBody sIsRising) (defScope sIsRising) .none kV16 dc16 pm16 an16 cd16 ct16), sl16⟩) (c16 : PySem.W.codeIn K cd16 "is_rising" = true) (k16 : PySem.W.keepIn K (.ref f16) = true)
    (a17 : PySem.W.nsIn K mainGlobals "is_bag" = some (some (.ref f17))) (l17 : K.lookup f17 = some ⟨oc17, od17, .func (PySem.W.fnOf "is_bag" "is_bag" (defArgs sIsBag) (defBody sIsBag) (defScope sIsBag) .none kV17 dc17 pm17 an17 cd17 ct17), sl17⟩) (c17 : PySem.W.codeIn K cd17 "is_bag" = true) (k17 : PySem.W.keepIn K (.ref f17) = true)
    (a18 : PySem.W.nsIn K mainGlobals "need_bags" = some (some (.ref f18))) (l18 : K.lookup f18 = some ⟨oc18, od18, .func (PySem.W.fnOf "need_bags" "need_bags" (defArgs sNeedBags) (defBody sNeedBags) (defScope sNeedBags) .none kV18 dc18 pm18 an18 cd18 ct18), sl18⟩) (c18 : PySem.W.codeIn K cd18 "need_bags" = true) (k18 : PySem.W.keepIn K (.ref f18) = true)
    (a19 : PySem.W.nsIn K mainGlobals "size_of" = some (some (.ref f19))) (l19 : K.lookup f19 = some ⟨oc19, od19, .func (PySem.W.fnOf "size_of" "size_of" (defArgs sSizeOf) (defBody sSizeOf) (defScope sSizeOf) .none kV19 dc19 pm19 an19 cd19 ct19), sl19⟩) (c19 : PySem.W.codeIn K cd19 "size_of" = true) (k19 : PySem.W.keepIn K (.ref f19) = true)
    (a20 : PySem.W.nsIn K mainGlobals "homes_of" = some (some (.ref f20))) (l20 : K.lookup f20 = some ⟨oc20, od20, .func (PySem.W.fnOf "homes_of" "homes_of" (defArgs sHomesOf) (defBody sHomesOf) (defScope sHomesOf) .none kV20 dc20 pm20 an20 cd20 ct20), sl20⟩) (c20 : PySem.W.codeIn K cd20 "homes_of" = true) (k20 : PySem.W.keepIn K (.ref f20) = true)
    (a21 : PySem.W.nsIn K mainGlobals "shared_by" = some (some (.ref f21))) (l21 : K.lookup f21 = some ⟨oc21, od21, .func (PySem.W.fnOf "shared_by" "shared_by" (defArgs sSharedBy) (defBody sSharedBy) (defScope sSharedBy) .none kV21 dc21 pm21 an21 cd21 ct21), sl21⟩) (c21 : PySem.W.codeIn K cd21 "shared_by" = true) (k21 : PySem.W.keepIn K (.ref f21) = true)
    (a22 : PySem.W.nsIn K mainGlobals "reached_from" = some (some (.ref f22))) (l22 : K.lookup f22 = some ⟨oc22, od22, .func (PySem.W.fnOf "reached_from" "reached_from" (defArgs sReachedFrom) (defBody sReachedFrom) (defScope sReachedFrom) .none kV22 dc22 pm22 an22 cd22 ct22), sl22⟩) (c22 : PySem.W.codeIn K cd22 "reached_from" = true) (k22 : PySem.W.keepIn K (.ref f22) = true)
    (a23 : PySem.W.nsIn K mainGlobals "bar_of" = some (some (.ref f23))) (l23 : K.lookup f23 = some ⟨oc23, od23, .func (PySem.W.fnOf "bar_of" "bar_of" (defArgs sBarOf) (defBody sBarOf) (defScope sBarOf) .none kV23 dc23 pm23 an23 cd23 ct23), sl23⟩) (c23 : PySem.W.codeIn K cd23 "bar_of" = true) (k23 : PySem.W.keepIn K (.ref f23) = true)
    (a24 : PySem.W.nsIn K mainGlobals "need_family" = some (some (.ref f24))) (l24 : K.lookup f24 = some ⟨oc24, od24, .func (PySem.W.fnOf "need_family" "need_family" (defArgs sNeedFamily) (defBody sNeedFamily) (defScope sNeedFamily) .none kV24 dc24 pm24 an24 cd24 ct24), sl24⟩) (c24 : PySem.W.codeIn K cd24 "need_family" = true) (k24 : PySem.W.keepIn K (.ref f24) = true)
    (a25 : PySem.W.nsIn K mainGlobals "hearts_of" = some (some (.ref f25))) (l25 : K.lookup f25 = some ⟨oc25, od25, .func (PySem.W.fnOf "hearts_of" "hearts_of" (defArgs sHeartsOf) (defBody sHeartsOf) (defScope sHeartsOf) .none kV25 dc25 pm25 an25 cd25 ct25), sl25⟩) (c25 : PySem.W.codeIn K cd25 "hearts_of" = true) (k25 : PySem.W.keepIn K (.ref f25) = true)
    (a26 : PySem.W.nsIn K mainGlobals "product_to" = some (some (.ref f26))) (l26 : K.lookup f26 = some ⟨oc26, od26, .func (PySem.W.fnOf "product_to" "product_to" (defArgs sProductTo) (defBody sProductTo) (defScope sProductTo) .none kV26 dc26 pm26 an26 cd26 ct26), sl26⟩) (c26 : PySem.W.codeIn K cd26 "product_to" = true) (k26 : PySem.W.keepIn K (.ref f26) = true)
    (a27 : PySem.W.nsIn K mainGlobals "ways_to_swap" = some (some (.ref f27))) (l27 : K.lookup f27 = some ⟨oc27, od27, .func (PySem.W.fnOf "ways_to_swap" "ways_to_swap" (defArgs sWaysToSwap) (defBody sWaysToSwap) (defScope sWaysToSwap) .none kV27 dc27 pm27 an27 cd27 ct27), sl27⟩) (c27 : PySem.W.codeIn K cd27 "ways_to_swap" = true) (k27 : PySem.W.keepIn K (.ref f27) = true)
    (a28 : PySem.W.nsIn K mainGlobals "text_under" = some (some (.ref f28))) (l28 : K.lookup f28 = some ⟨oc28, od28, .func (PySem.W.fnOf "text_under" "text_under" (defArgs sTextUnder) (defBody sTextUnder) (defScope sTextUnder) .none kV28 dc28 pm28 an28 cd28 ct28), sl28⟩) (c28 : PySem.W.codeIn K cd28 "text_under" = true) (k28 : PySem.W.keepIn K (.ref f28) = true)
    (a29 : PySem.W.nsIn K mainGlobals "bag_text" = some (some (.ref f29))) (l29 : K.lookup f29 = some ⟨oc29, od29, .func (PySem.W.fnOf "bag_text" "bag_text" (defArgs sBagText) (defBody sBagText) (defScope sBagText) .none kV29 dc29 pm29 an29 cd29 ct29), sl29⟩) (c29 : PySem.W.codeIn K cd29 "bag_text" = true) (k29 : PySem.W.keepIn K (.ref f29) = true)
    (a30 : PySem.W.nsIn K mainGlobals "shape_of" = some (some (.ref f30))) (l30 : K.lookup f30 = some ⟨oc30, od30, .func (PySem.W.fnOf "shape_of" "shape_of" (defArgs sShapeOf) (defBody sShapeOf) (defScope sShapeOf) .none kV30 dc30 pm30 an30 cd30 ct30), sl30⟩) (c30 : PySem.W.codeIn K cd30 "shape_of" = true) (k30 : PySem.W.keepIn K (.ref f30) = true)
    (a31 : PySem.W.nsIn K mainGlobals "renamings" = some (some (.ref f31))) (l31 : K.lookup f31 = some ⟨oc31, od31, .func (PySem.W.fnOf "renamings" "renamings" (defArgs sRenamings) (defBody sRenamings) (defScope sRenamings) .none kV31 dc31 pm31 an31 cd31 ct31), sl31⟩) (c31 : PySem.W.codeIn K cd31 "renamings" = true) (k31 : PySem.W.keepIn K (.ref f31) = true)
    (a32 : PySem.W.nsIn K mainGlobals "copies" = some (some (.ref f32))) (l32 : K.lookup f32 = some ⟨oc32, od32, .func (PySem.W.fnOf "copies" "copies" (defArgs sCopies) (defBody sCopies) (defScope sCopies) .none kV32 dc32 pm32 an32 cd32 ct32), sl32⟩) (c32 : PySem.W.codeIn K cd32 "copies" = true) (k32 : PySem.W.keepIn K (.ref f32) = true)
    (a33 : PySem.W.nsIn K mainGlobals "renamed" = some (some (.ref f33))) (l33 : K.lookup f33 = some ⟨oc33, od33, .func (PySem.W.fnOf "renamed" "renamed" (defArgs sRenamed) (defBody sRenamed) (defScope sRenamed) .none kV33 dc33 pm33 an33 cd33 ct33), sl33⟩) (c33 : PySem.W.codeIn K cd33 "renamed" = true) (k33 : PySem.W.keepIn K (.ref f33) = true)
    (a34 : PySem.W.nsIn K mainGlobals "shape" = some (some (.ref f34))) (l34 : K.lookup f34 = some ⟨oc34, od34, .func (PySem.W.fnOf "shape" "shape" (defArgs sShape) (defBody sShape) (defScope sShape) .none kV34 dc34 pm34 an34 cd34 ct34), sl34⟩) (c34 : PySem.W.codeIn K cd34 "shape" = true) (k34 : PySem.W.keepIn K (.ref f34) = true)
    (a35 : PySem.W.nsIn K mainGlobals "kinds" = some (some (.ref f35))) (l35 : K.lookup f35 = some ⟨oc35, od35, .func (PySem.W.fnOf "kinds" "kinds" (defArgs sKinds) (defBody sKinds) (defScope sKinds) .none kV35 dc35 pm35 an35 cd35 ct35), sl35⟩) (c35 : PySem.W.codeIn K cd35 "kinds" = true) (k35 : PySem.W.keepIn K (.ref f35) = true)
    (a36 : PySem.W.nsIn K mainGlobals "same_shape" = some (some (.ref f36))) (l36 : K.lookup f36 = some ⟨oc36, od36, .func (PySem.W.fnOf "same_shape" "same_shape" (defArgs sSameShape) (defBody sSameShape) (defScope sSameShape) .none kV36 dc36 pm36 an36 cd36 ct36), sl36⟩) (c36 : PySem.W.codeIn K cd36 "same_shape" = true) (k36 : PySem.W.keepIn K (.ref f36) = true)
    (a37 : PySem.W.nsIn K mainGlobals "law" = some (some (.ref f37))) (l37 : K.lookup f37 = some ⟨oc37, od37, .func (PySem.W.fnOf "law" "law" (defArgs sLaw) (defBody sLaw) (defScope sLaw) .none kV37 dc37 pm37 an37 cd37 ct37), sl37⟩) (c37 : PySem.W.codeIn K cd37 "law" = true) (k37 : PySem.W.keepIn K (.ref f37) = true)
    (zM : PySem.W.nsIn K mainGlobals "MOST_BEADS" = some (some (.int 60 tM)))
    (ztuple : PySem.W.nsIn K mainGlobals "tuple" = some none) (zlist : PySem.W.nsIn K mainGlobals "list" = some none) (zset : PySem.W.nsIn K mainGlobals "set" = some none) (zint : PySem.W.nsIn K mainGlobals "int" = some none) (zbool : PySem.W.nsIn K mainGlobals "bool" = some none) (zstr : PySem.W.nsIn K mainGlobals "str" = some none) (zsorted : PySem.W.nsIn K mainGlobals "sorted" = some none) (zlen : PySem.W.nsIn K mainGlobals "len" = some none) (zsum : PySem.W.nsIn K mainGlobals "sum" = some none) (zmax : PySem.W.nsIn K mainGlobals "max" = some none) (zall : PySem.W.nsIn K mainGlobals "all" = some none) (zisinstance : PySem.W.nsIn K mainGlobals "isinstance" = some none) (zrange : PySem.W.nsIn K mainGlobals "range" = some none) (zenumerate : PySem.W.nsIn K mainGlobals "enumerate" = some none) (zzip : PySem.W.nsIn K mainGlobals "zip" = some none) :
    ∃ fd : FuncData, (∀ (s : Shared) (v : Value), BindsTo s fd ⟨[v], []⟩ [("_law_script", v)]) ∧ ∀ base : Heap, K.In base → base.Ns mainGlobals mg → FnOk l.prog w K mg base CX0 126 fa fd ["_law_script"] (spLaw K) := by
  have e := hfa.symm.trans (PySem.W.mg_of X G a37)
  cases e
  have T : Bi mg := ⟨PySem.W.mg_none_of X G ztuple, PySem.W.mg_none_of X G zlist, PySem.W.mg_none_of X G zset, PySem.W.mg_none_of X G zint, PySem.W.mg_none_of X G zbool, PySem.W.mg_none_of X G zstr, PySem.W.mg_none_of X G zsorted, PySem.W.mg_none_of X G zlen, PySem.W.mg_none_of X G zsum, PySem.W.mg_none_of X G zmax, PySem.W.mg_none_of X G zall, PySem.W.mg_none_of X G zisinstance, PySem.W.mg_none_of X G zrange, PySem.W.mg_none_of X G zenumerate, PySem.W.mg_none_of X G zzip⟩
  have mM : ∃ t, mg "MOST_BEADS" = some (.int 60 t) := ⟨tM, PySem.W.mg_of X G zM⟩
  have F1 := fun_mk (st := sLawTaken) l1 c1 k1
  have A__law_taken : At K mg "_law_taken" sLawTaken ["_law_row", "_law_many"] := ⟨_, _, F1, PySem.W.mg_of X G a1, F1.binds (ps := ["_law_row", "_law_many"]) fun _ _ _ _ _ _ us hl => match us, hl with | [_, _], _ => rfl⟩
  have F2 := fun_mk (st := sLawPick) l2 c2 k2
  have A__law_pick : At K mg "_law_pick" sLawPick ["_law_row", "_law_things"] := ⟨_, _, F2, PySem.W.mg_of X G a2, F2.binds (ps := ["_law_row", "_law_things"]) fun _ _ _ _ _ _ us hl => match us, hl with | [_, _], _ => rfl⟩
  have F3 := fun_mk (st := sLawMixed) l3 c3 k3
  have A__law_mixed : At K mg "_law_mixed" sLawMixed ["_law_row", "_law_some"] := ⟨_, _, F3, PySem.W.mg_of X G a3, F3.binds (ps := ["_law_row", "_law_some"]) fun _ _ _ _ _ _ us hl => match us, hl with | [_, _], _ => rfl⟩
  have F4 := fun_mk (st := sLawNamed) l4 c4 k4
  have A__law_named : At K mg "_law_named" sLawNamed ["_law_bags", "_law_names"] := ⟨_, _, F4, PySem.W.mg_of X G a4, F4.binds (ps := ["_law_bags", "_law_names"]) fun _ _ _ _ _ _ us hl => match us, hl with | [_, _], _ => rfl⟩
  have F5 := fun_mk (st := sLawFamily) l5 c5 k5
  have A__law_family : At K mg "_law_family" sLawFamily ["_law_row", "_law_most"] := ⟨_, _, F5, PySem.W.mg_of X G a5, F5.binds (ps := ["_law_row", "_law_most"]) fun _ _ _ _ _ _ us hl => match us, hl with | [_, _], _ => rfl⟩
  have F6 := fun_mk (st := sLawSizeB) l6 c6 k6
  have A__law_size : At K mg "_law_size" sLawSizeB ["_law_family_here"] := ⟨_, _, F6, PySem.W.mg_of X G a6, F6.binds (ps := ["_law_family_here"]) fun _ _ _ _ _ _ us hl => match us, hl with | [_], _ => rfl⟩
  have F7 := fun_mk (st := sLawOrders) l7 c7 k7
  have A__law_orders : At K mg "_law_orders" sLawOrders ["_law_some"] := ⟨_, _, F7, PySem.W.mg_of X G a7, F7.binds (ps := ["_law_some"]) fun _ _ _ _ _ _ us hl => match us, hl with | [_], _ => rfl⟩
  have F8 := fun_mk (st := sLawAlike) l8 c8 k8
  have A__law_alike : At K mg "_law_alike" sLawAlike ["_law_found", "_law_due"] := ⟨_, _, F8, PySem.W.mg_of X G a8, F8.binds (ps := ["_law_found", "_law_due"]) fun _ _ _ _ _ _ us hl => match us, hl with | [_, _], _ => rfl⟩
  have F9 := fun_mk (st := sLawPours) l9 c9 k9
  have A__law_pours : At K mg "_law_pours" sLawPours ["_law_family_here"] := ⟨_, _, F9, PySem.W.mg_of X G a9, F9.binds (ps := ["_law_family_here"]) fun _ _ _ _ _ _ us hl => match us, hl with | [_], _ => rfl⟩
  have F10 := fun_mk (st := sLawPour) l10 c10 k10
  have A__law_pour : At K mg "_law_pour" sLawPour ["_law_family_here", "_law_one", "_law_other"] := ⟨_, _, F10, PySem.W.mg_of X G a10, F10.binds (ps := ["_law_family_here", "_law_one", "_law_other"]) fun _ _ _ _ _ _ us hl => match us, hl with | [_, _, _], _ => rfl⟩
  have F11 := fun_mk (st := sLawCoarse) l11 c11 k11
  have A__law_coarse : At K mg "_law_coarse" sLawCoarse ["_law_row", "_law_family_here", "_law_most"] := ⟨_, _, F11, PySem.W.mg_of X G a11, F11.binds (ps := ["_law_row", "_law_family_here", "_law_most"]) fun _ _ _ _ _ _ us hl => match us, hl with | [_, _, _], _ => rfl⟩
  have F12 := fun_mk (st := sLawPart) l12 c12 k12
  have A__law_part : At K mg "_law_part" sLawPart ["_law_row", "_law_family_here"] := ⟨_, _, F12, PySem.W.mg_of X G a12, F12.binds (ps := ["_law_row", "_law_family_here"]) fun _ _ _ _ _ _ us hl => match us, hl with | [_, _], _ => rfl⟩
  have F13 := fun_mk (st := sLawMoved) l13 c13 k13
  have A__law_moved : At K mg "_law_moved" sLawMoved ["_law_row", "_law_family_here", "_law_most"] := ⟨_, _, F13, PySem.W.mg_of X G a13, F13.binds (ps := ["_law_row", "_law_family_here", "_law_most"]) fun _ _ _ _ _ _ us hl => match us, hl with | [_, _, _], _ => rfl⟩
  have F14 := fun_mk (st := sIsInt) l14 c14 k14
  have A_is_int : At K mg "is_int" sIsInt ["value"] := ⟨_, _, F14, PySem.W.mg_of X G a14, F14.binds (ps := ["value"]) fun _ _ _ _ _ _ us hl => match us, hl with | [_], _ => rfl⟩
  have F15 := fun_mk (st := sIsIn) l15 c15 k15
  have A_is_in : At K mg "is_in" sIsIn ["value", "least", "most"] := ⟨_, _, F15, PySem.W.mg_of X G a15, F15.binds (ps := ["value", "least", "most"]) fun _ _ _ _ _ _ us hl => match us, hl with | [_, _, _], _ => rfl⟩
  have F16 := fun_mk (st := sIsRising) l16 c16 k16
  have A_is_rising : At K mg "is_rising" sIsRising ["value"] := ⟨_, _, F16, PySem.W.mg_of X G a16, F16.binds (ps := ["value"]) fun _ _ _ _ _ _ us hl => match us, hl with | [_], _ => rfl⟩
  have F17 := fun_mk (st := sIsBag) l17 c17 k17
  have A_is_bag : At K mg "is_bag" sIsBag ["value"] := ⟨_, _, F17, PySem.W.mg_of X G a17, F17.binds (ps := ["value"]) fun _ _ _ _ _ _ us hl => match us, hl with | [_], _ => rfl⟩
  have F18 := fun_mk (st := sNeedBags) l18 c18 k18
  have A_need_bags : At K mg "need_bags" sNeedBags ["value"] := ⟨_, _, F18, PySem.W.mg_of X G a18, F18.binds (ps := ["value"]) fun _ _ _ _ _ _ us hl => match us, hl with | [_], _ => rfl⟩
  have F19 := fun_mk (st := sSizeOf) l19 c19 k19
  have A_size_of : At K mg "size_of" sSizeOf ["bags"] := ⟨_, _, F19, PySem.W.mg_of X G a19, F19.binds (ps := ["bags"]) fun _ _ _ _ _ _ us hl => match us, hl with | [_], _ => rfl⟩
  have F20 := fun_mk (st := sHomesOf) l20 c20 k20
  have A_homes_of : At K mg "homes_of" sHomesOf ["bags"] := ⟨_, _, F20, PySem.W.mg_of X G a20, F20.binds (ps := ["bags"]) fun _ _ _ _ _ _ us hl => match us, hl with | [_], _ => rfl⟩
  have F21 := fun_mk (st := sSharedBy) l21 c21 k21
  have A_shared_by : At K mg "shared_by" sSharedBy ["one", "other"] := ⟨_, _, F21, PySem.W.mg_of X G a21, F21.binds (ps := ["one", "other"]) fun _ _ _ _ _ _ us hl => match us, hl with | [_, _], _ => rfl⟩
  have F22 := fun_mk (st := sReachedFrom) l22 c22 k22
  have A_reached_from : At K mg "reached_from" sReachedFrom ["bags", "homes", "first"] := ⟨_, _, F22, PySem.W.mg_of X G a22, F22.binds (ps := ["bags", "homes", "first"]) fun _ _ _ _ _ _ us hl => match us, hl with | [_, _, _], _ => rfl⟩
  have F23 := fun_mk (st := sBarOf) l23 c23 k23
  have A_bar_of : At K mg "bar_of" sBarOf ["bags"] := ⟨_, _, F23, PySem.W.mg_of X G a23, F23.binds (ps := ["bags"]) fun _ _ _ _ _ _ us hl => match us, hl with | [_], _ => rfl⟩
  have F24 := fun_mk (st := sNeedFamily) l24 c24 k24
  have A_need_family : At K mg "need_family" sNeedFamily ["value"] := ⟨_, _, F24, PySem.W.mg_of X G a24, F24.binds (ps := ["value"]) fun _ _ _ _ _ _ us hl => match us, hl with | [_], _ => rfl⟩
  have F25 := fun_mk (st := sHeartsOf) l25 c25 k25
  have A_hearts_of : At K mg "hearts_of" sHeartsOf ["family"] := ⟨_, _, F25, PySem.W.mg_of X G a25, F25.binds (ps := ["family"]) fun _ _ _ _ _ _ us hl => match us, hl with | [_], _ => rfl⟩
  have F26 := fun_mk (st := sProductTo) l26 c26 k26
  have A_product_to : At K mg "product_to" sProductTo ["number"] := ⟨_, _, F26, PySem.W.mg_of X G a26, F26.binds (ps := ["number"]) fun _ _ _ _ _ _ us hl => match us, hl with | [_], _ => rfl⟩
  have F27 := fun_mk (st := sWaysToSwap) l27 c27 k27
  have A_ways_to_swap : At K mg "ways_to_swap" sWaysToSwap ["texts"] := ⟨_, _, F27, PySem.W.mg_of X G a27, F27.binds (ps := ["texts"]) fun _ _ _ _ _ _ us hl => match us, hl with | [_], _ => rfl⟩
  have F28 := fun_mk (st := sTextUnder) l28 c28 k28
  have A_text_under : At K mg "text_under" sTextUnder ["family", "homes", "bead", "above"] := ⟨_, _, F28, PySem.W.mg_of X G a28, F28.binds (ps := ["family", "homes", "bead", "above"]) fun _ _ _ _ _ _ us hl => match us, hl with | [_, _, _, _], _ => rfl⟩
  have F29 := fun_mk (st := sBagText) l29 c29 k29
  have A_bag_text : At K mg "bag_text" sBagText ["family", "homes", "index", "above"] := ⟨_, _, F29, PySem.W.mg_of X G a29, F29.binds (ps := ["family", "homes", "index", "above"]) fun _ _ _ _ _ _ us hl => match us, hl with | [_, _, _, _], _ => rfl⟩
  have F30 := fun_mk (st := sShapeOf) l30 c30 k30
  have A_shape_of : At K mg "shape_of" sShapeOf ["family"] := ⟨_, _, F30, PySem.W.mg_of X G a30, F30.binds (ps := ["family"]) fun _ _ _ _ _ _ us hl => match us, hl with | [_], _ => rfl⟩
  have F31 := fun_mk (st := sRenamings) l31 c31 k31
  have A_renamings : At K mg "renamings" sRenamings ["family"] := ⟨_, _, F31, PySem.W.mg_of X G a31, F31.binds (ps := ["family"]) fun _ _ _ _ _ _ us hl => match us, hl with | [_], _ => rfl⟩
  have F32 := fun_mk (st := sCopies) l32 c32 k32
  have A_copies : At K mg "copies" sCopies ["family"] := ⟨_, _, F32, PySem.W.mg_of X G a32, F32.binds (ps := ["family"]) fun _ _ _ _ _ _ us hl => match us, hl with | [_], _ => rfl⟩
  have F33 := fun_mk (st := sRenamed) l33 c33 k33
  have A_renamed : At K mg "renamed" sRenamed ["family", "names"] := ⟨_, _, F33, PySem.W.mg_of X G a33, F33.binds (ps := ["family", "names"]) fun _ _ _ _ _ _ us hl => match us, hl with | [_, _], _ => rfl⟩
  have F34 := fun_mk (st := sShape) l34 c34 k34
  have A_shape : At K mg "shape" sShape ["family"] := ⟨_, _, F34, PySem.W.mg_of X G a34, F34.binds (ps := ["family"]) fun _ _ _ _ _ _ us hl => match us, hl with | [_], _ => rfl⟩
  have F35 := fun_mk (st := sKinds) l35 c35 k35
  have A_kinds : At K mg "kinds" sKinds ["family"] := ⟨_, _, F35, PySem.W.mg_of X G a35, F35.binds (ps := ["family"]) fun _ _ _ _ _ _ us hl => match us, hl with | [_], _ => rfl⟩
  have F36 := fun_mk (st := sSameShape) l36 c36 k36
  have A_same_shape : At K mg "same_shape" sSameShape ["one", "other"] := ⟨_, _, F36, PySem.W.mg_of X G a36, F36.binds (ps := ["one", "other"]) fun _ _ _ _ _ _ us hl => match us, hl with | [_, _], _ => rfl⟩
  have F37 := fun_mk (st := sLaw) l37 c37 k37
  refine ⟨PySem.W.fnOf "law" "law" (defArgs sLaw) (defBody sLaw) (defScope sLaw) .none kV37 dc37 pm37 an37 cd37 ct37, fun s v => .of_eq rfl, fun base _ _ => ?_⟩
  have D__law_taken := d_taken (P := l.prog) (w := w) (base := base) A__law_taken T
  have D__law_pick := d_pick (P := l.prog) (w := w) (base := base) A__law_pick T D__law_taken
  have D__law_mixed := d_mixed (P := l.prog) (w := w) (base := base) A__law_mixed T D__law_taken
  have D__law_named := d_named (P := l.prog) (w := w) (base := base) A__law_named T
  have D__law_family := d_family (P := l.prog) (w := w) (base := base) A__law_family T D__law_taken D__law_pick D__law_mixed D__law_named
  have D__law_size := d_law_size (P := l.prog) (w := w) (base := base) A__law_size T
  have D__law_orders := d_orders (P := l.prog) (w := w) (base := base) A__law_orders T
  have D__law_alike := d_alike (P := l.prog) (w := w) (base := base) A__law_alike T 3
  have D__law_pours := d_pours (P := l.prog) (w := w) (base := base) A__law_pours T
  have D__law_pour := d_pour (P := l.prog) (w := w) (base := base) A__law_pour T
  have D__law_coarse := d_coarse (P := l.prog) (w := w) (base := base) A__law_coarse T D__law_taken D__law_pick D__law_pours D__law_pour
  have D__law_part := d_part (P := l.prog) (w := w) (base := base) A__law_part T D__law_taken D__law_pick D__law_mixed
  have D__law_moved := d_moved (P := l.prog) (w := w) (base := base) A__law_moved T D__law_taken D__law_coarse D__law_part
  have D_is_int := d_is_int (P := l.prog) (w := w) (base := base) A_is_int T
  have D_is_in := d_is_in (P := l.prog) (w := w) (base := base) A_is_in D_is_int
  have D_is_rising := d_is_rising (P := l.prog) (w := w) (base := base) A_is_rising T
  have D_is_bag := d_is_bag (P := l.prog) (w := w) (base := base) A_is_bag T mM D_is_in D_is_rising
  have D_need_bags := d_need_bags (P := l.prog) (w := w) (base := base) A_need_bags T D_is_bag D_is_rising
  have D_size_of := d_size_of (P := l.prog) (w := w) (base := base) A_size_of T
  have D_homes_of := d_homes_of (P := l.prog) (w := w) (base := base) A_homes_of T D_size_of
  have D_shared_by := d_shared_by (P := l.prog) (w := w) (base := base) A_shared_by T
  have D_reached_from := d_reached_from (P := l.prog) (w := w) (base := base) A_reached_from T
  have D_bar_of := d_bar_of (P := l.prog) (w := w) (base := base) A_bar_of T D_homes_of D_shared_by D_reached_from
  have D_need_family := d_need_family (P := l.prog) (w := w) (base := base) A_need_family D_need_bags D_bar_of
  have D_hearts_of := d_hearts_of (P := l.prog) (w := w) (base := base) A_hearts_of T D_homes_of
  have D_product_to := d_product_to (P := l.prog) (w := w) (base := base) A_product_to T
  have D_ways_to_swap := d_ways_to_swap (P := l.prog) (w := w) (base := base) A_ways_to_swap T D_product_to
  have TX := d_texts (P := l.prog) (w := w) (base := base) A_text_under A_bag_text T D_ways_to_swap 120
  have D_text_under := TX.1
  have D_bag_text := TX.2
  have D_shape_of := d_shape_of (P := l.prog) (w := w) (base := base) A_shape_of T D_homes_of D_hearts_of D_text_under D_bag_text
  have D_renamings := d_renamings (P := l.prog) (w := w) (base := base) A_renamings D_need_family D_shape_of
  have D_copies := d_copies (P := l.prog) (w := w) (base := base) A_copies D_need_family D_shape_of D_size_of D_product_to
  have D_renamed := d_renamed (P := l.prog) (w := w) (base := base) A_renamed T D_need_family D_is_int D_size_of
  have D_shape := d_shape (P := l.prog) (w := w) (base := base) A_shape D_need_family D_shape_of
  have D_kinds := d_kinds (P := l.prog) (w := w) (base := base) A_kinds T D_need_family D_homes_of D_size_of D_text_under
  have D_same_shape := d_same_shape (P := l.prog) (w := w) (base := base) A_same_shape D_need_family D_shape_of
  exact ok_law (P := l.prog) (w := w) (base := base) F37 T D__law_family D__law_size D__law_orders D__law_named D__law_alike D__law_mixed D__law_moved D_renamings D_copies D_renamed D_shape D_kinds D_same_shape
theorem walk {l : PySem.W.OpenLaw} {q : Program} {loose : List Str} {XP : (Str → Option Value) → Heap → Prop} {YP : World → Heap → Prop} {d : DefRec} {K : Params → PySem.W.Frag} (hn : l.most = some 63) (hdf : d.params.defaults = [])
    (hY : ∀ (w : World) (h : Heap), YP w h → (K w.params).In h)
    (F : ∀ (w : World) (mg : Str → Option Value) (fa : Addr) (h : Heap), (K w.params).In h → h.Ns mainGlobals mg → mg d.name = some (.ref fa) →
      ∃ fd : FuncData, (∀ (s : Shared) (u : Value), BindsTo s fd ⟨[u], []⟩ [("_law_script", u)]) ∧ ∀ base : Heap, (K w.params).In base → base.Ns mainGlobals mg → FnOk l.prog w (K w.params) mg base CX0 126 fa fd ["_law_script"] (spLaw (K w.params))) :
    PySem.W.WalkO q loose XP YP l.row.toRowW d [] (fun f vs => PySem.call f vs) :=
  L2.walk_of (n := 63) (k := 126) (x := "_law_script") (CX := fun _ => CX0) (sp := fun w => spLaw (K w.params)) hn (by decide) hdf ⟨rfl, by decide, by decide⟩ hY F (fun _ _ a ns hl _ hS => ⟨a, ns, rfl, hS, fun _ => rfl⟩) fun _ _ _ _ _ z => z
end Sb
open PySem PySem.W PyProof.Rows in
set_option maxRecDepth 100000 in
set_option maxHeartbeats 0 in
theorem PySem.Challenge.cw_sharebags_k63_whole_shapes_holds : PySem.Challenge.rw_sharebags_k63_whole_shapes.Holds := by
  w_on; o_law; k_head; (case hw => w_witness2)
  k_fill
  refine Sb.walk (l := PySem.Challenge.rw_sharebags_k63_whole_shapes) rfl rfl (fun w h Y => PySem.W.kIn_of Y) ?F
  case F =>
    intro w mg fa h KX G hmg
    refine' Sb.all_mk KX G hmg ?a1 ?l1 ?c1 ?k1 ?a2 ?l2 ?c2 ?k2 ?a3 ?l3 ?c3 ?k3 ?a4 ?l4 ?c4 ?k4 ?a5 ?l5 ?c5 ?k5 ?a6 ?l6 ?c6 ?k6 ?a7 ?l7 ?c7 ?k7 ?a8 ?l8 ?c8 ?k8 ?a9 ?l9 ?c9 ?k9 ?a10 ?l10 ?c10 ?k10 ?a11 ?l11 ?c11 ?k11 ?a12 ?l12 ?c12 ?k12 ?a13 ?l13 ?c13 ?k13 ?a14 ?l14 ?c14 ?k14 ?a15 ?l15 ?c15 ?k15 ?a16 ?l16 ?c16 ?k16 ?a17 ?l17 ?c17 ?k17 ?a18 ?l18 ?c18 ?k18 ?a19 ?l19 ?c19 ?k19 ?a20 ?l20 ?c20 ?k20 ?a21 ?l21 ?c21 ?k21 ?a22 ?l22 ?c22 ?k22 ?a23 ?l23 ?c23 ?k23 ?a24 ?l24 ?c24 ?k24 ?a25 ?l25 ?c25 ?k25 ?a26 ?l26 ?c26 ?k26 ?a27 ?l27 ?c27 ?k27 ?a28 ?l28 ?c28 ?k28 ?a29 ?l29 ?c29 ?k29 ?a30 ?l30 ?c30 ?k30 ?a31 ?l31 ?c31 ?k31 ?a32 ?l32 ?c32 ?k32 ?a33 ?l33 ?c33 ?k33 ?a34 ?l34 ?c34 ?k34 ?a35 ?l35 ?c35 ?k35 ?a36 ?l36 ?c36 ?k36 ?a37 ?l37 ?c37 ?k37 ?zM ?ztuple ?zlist ?zset ?zint ?zbool ?zstr ?zsorted ?zlen ?zsum ?zmax ?zall ?zisinstance ?zrange ?zenumerate ?zzip
    (case a1 => k_is)
    (case l1 => k_is)
    (case c1 => k_is)
    (case k1 => k_is)
    (case a2 => k_is)
    (case l2 => k_is)
    (case c2 => k_is)
    (case k2 => k_is)
    (case a3 => k_is)
    (case l3 => k_is)
    (case c3 => k_is)
    (case k3 => k_is)
    (case a4 => k_is)
    (case l4 => k_is)
    (case c4 => k_is)
    (case k4 => k_is)
    (case a5 => k_is)
    (case l5 => k_is)
    (case c5 => k_is)
    (case k5 => k_is)
    (case a6 => k_is)
    (case l6 => k_is)
    (case c6 => k_is)
    (case k6 => k_is)
    (case a7 => k_is)
    (case l7 => k_is)
    (case c7 => k_is)
    (case k7 => k_is)
    (case a8 => k_is)
    (case l8 => k_is)
    (case c8 => k_is)
    (case k8 => k_is)
    (case a9 => k_is)
    (case l9 => k_is)
    (case c9 => k_is)
    (case k9 => k_is)
    (case a10 => k_is)
    (case l10 => k_is)
    (case c10 => k_is)
    (case k10 => k_is)
    (case a11 => k_is)
    (case l11 => k_is)
    (case c11 => k_is)
    (case k11 => k_is)
    (case a12 => k_is)
    (case l12 => k_is)
    (case c12 => k_is)
    (case k12 => k_is)
    (case a13 => k_is)
    (case l13 => k_is)
    (case c13 => k_is)
    (case k13 => k_is)
    (case a14 => k_is)
    (case l14 => k_is)
    (case c14 => k_is)
    (case k14 => k_is)
    (case a15 => k_is)
    (case l15 => k_is)
    (case c15 => k_is)
    (case k15 => k_is)
    (case a16 => k_is)
    (case l16 => k_is)
    (case c16 => k_is)
    (case k16 => k_is)
    (case a17 => k_is)
    (case l17 => k_is)
    (case c17 => k_is)
    (case k17 => k_is)
    (case a18 => k_is)
    (case l18 => k_is)
    (case c18 => k_is)
    (case k18 => k_is)
    (case a19 => k_is)
    (case l19 => k_is)
    (case c19 => k_is)
    (case k19 => k_is)
    (case a20 => k_is)
    (case l20 => k_is)
    (case c20 => k_is)
    (case k20 => k_is)
    (case a21 => k_is)
    (case l21 => k_is)
    (case c21 => k_is)
    (case k21 => k_is)
    (case a22 => k_is)
    (case l22 => k_is)
    (case c22 => k_is)
    (case k22 => k_is)
    (case a23 => k_is)
    (case l23 => k_is)
    (case c23 => k_is)
    (case k23 => k_is)
    (case a24 => k_is)
    (case l24 => k_is)
    (case c24 => k_is)
    (case k24 => k_is)
    (case a25 => k_is)
    (case l25 => k_is)
    (case c25 => k_is)
    (case k25 => k_is)
    (case a26 => k_is)
    (case l26 => k_is)
    (case c26 => k_is)
    (case k26 => k_is)
    (case a27 => k_is)
    (case l27 => k_is)
    (case c27 => k_is)
    (case k27 => k_is)
    (case a28 => k_is)
    (case l28 => k_is)
    (case c28 => k_is)
    (case k28 => k_is)
    (case a29 => k_is)
    (case l29 => k_is)
    (case c29 => k_is)
    (case k29 => k_is)
    (case a30 => k_is)
    (case l30 => k_is)
    (case c30 => k_is)
    (case k30 => k_is)
    (case a31 => k_is)
    (case l31 => k_is)
    (case c31 => k_is)
    (case k31 => k_is)
    (case a32 => k_is)
    (case l32 => k_is)
    (case c32 => k_is)
    (case k32 => k_is)
    (case a33 => k_is)
    (case l33 => k_is)
    (case c33 => k_is)
    (case k33 => k_is)
    (case a34 => k_is)
    (case l34 => k_is)
    (case c34 => k_is)
    (case k34 => k_is)
    (case a35 => k_is)
    (case l35 => k_is)
    (case c35 => k_is)
    (case k35 => k_is)
    (case a36 => k_is)
    (case l36 => k_is)
    (case c36 => k_is)
    (case k36 => k_is)
    (case a37 => k_is)
    (case l37 => k_is)
    (case c37 => k_is)
    (case k37 => k_is)
    (case zM => k_is)
    (case ztuple => k_is)
    (case zlist => k_is)
    (case zset => k_is)
    (case zint => k_is)
    (case zbool => k_is)
    (case zstr => k_is)
    (case zsorted => k_is)
    (case zlen => k_is)
    (case zsum => k_is)
    (case zmax => k_is)
    (case zall => k_is)
    (case zisinstance => k_is)
    (case zrange => k_is)
    (case zenumerate => k_is)
    (case zzip => k_is)
