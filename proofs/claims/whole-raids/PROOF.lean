import PyProof.Rows.All
import Wide.All
import OpenK.AllK
import Wide.FinOn
import HandS.ForMost
import HandS.Conv
import HandS.DictTup
import KE.GoesDict
import KE.KDictDisplayH
import HandS.SortKw
import HandS.IsInst
import HandS.Codes
import PySem.Challenge.RW_barebough_k44_whole_raids
/-! The plain law: size lists, best plucks, rows of raids, binomials. No program in sight. -/
namespace WR

/-- a size list: descending, no entry 0 -/
def Ok (w : List Nat) : Prop := w.Pairwise (fun a b => b ≤ a) ∧ ∀ x ∈ w, 1 ≤ x

/-- the size list after a largest entry is lowered -/
def kee : List Nat → List Nat
  | [] => []
  | [a] => if a ≤ 1 then [] else [a - 1]
  | a :: b :: s => if b = a then a :: kee (b :: s) else (a - 1) :: b :: s
/-- the size list after a smallest entry is lowered -/
def rai : List Nat → List Nat
  | [] => []
  | [a] => if a ≤ 1 then [] else [a - 1]
  | a :: b :: s => a :: rai (b :: s)

theorem kee_two (a b : Nat) (s : List Nat) : kee (a :: b :: s) = if b = a then a :: kee (b :: s) else (a - 1) :: b :: s := by
  rw [kee]
theorem ok_nil : Ok [] := ⟨.nil, fun _ h => nomatch h⟩
theorem ok_cons {a : Nat} {w : List Nat} : Ok (a :: w) ↔ (1 ≤ a ∧ (∀ b ∈ w, b ≤ a) ∧ Ok w) := by
  unfold Ok
  rw [List.pairwise_cons]
  constructor
  · rintro ⟨⟨h1, h2⟩, h3⟩
    exact ⟨h3 a List.mem_cons_self, h1, h2, fun x hx => h3 x (List.mem_cons_of_mem _ hx)⟩
  · rintro ⟨h1, h2, h3, h4⟩
    refine ⟨⟨h2, h3⟩, fun x hx => ?_⟩
    rcases List.mem_cons.mp hx with rfl | hx
    · exact h1
    · exact h4 x hx

theorem kee_le : ∀ (w : List Nat) (m : Nat), (∀ x ∈ w, x ≤ m) → ∀ x ∈ kee w, x ≤ m
  | [], _, _ => fun _ h => nomatch h
  | [a], m, h => fun x hx => by
    have ha := h a List.mem_cons_self
    unfold kee at hx
    split at hx
    · exact nomatch hx
    · have e : x = a - 1 := by simpa using hx
      omega
  | a :: b :: s, m, h => fun x hx => by
    have ha := h a List.mem_cons_self
    unfold kee at hx
    split at hx
    · rcases List.mem_cons.mp hx with rfl | hx
      · exact ha
      · exact kee_le (b :: s) m (fun y hy => h y (List.mem_cons_of_mem _ hy)) x hx
    · rcases List.mem_cons.mp hx with rfl | hx
      · omega
      · exact h x (List.mem_cons_of_mem _ hx)
theorem rai_le : ∀ (w : List Nat) (m : Nat), (∀ x ∈ w, x ≤ m) → ∀ x ∈ rai w, x ≤ m
  | [], _, _ => fun _ h => nomatch h
  | [a], m, h => fun x hx => by
    have ha := h a List.mem_cons_self
    unfold rai at hx
    split at hx
    · exact nomatch hx
    · have e : x = a - 1 := by simpa using hx
      omega
  | a :: b :: s, m, h => fun x hx => by
    unfold rai at hx
    rcases List.mem_cons.mp hx with rfl | hx
    · exact h x List.mem_cons_self
    · exact rai_le (b :: s) m (fun y hy => h y (List.mem_cons_of_mem _ hy)) x hx

theorem ok_kee : ∀ {w : List Nat}, Ok w → Ok (kee w)
  | [], h => h
  | [a], h => by
    unfold kee
    split
    · exact ok_nil
    · exact ok_cons.mpr ⟨by omega, (fun _ z => nomatch z), ok_nil⟩
  | a :: b :: s, h => by
    obtain ⟨h1, h2, h3⟩ := ok_cons.mp h
    unfold kee
    split
    · exact ok_cons.mpr ⟨h1, kee_le _ _ h2, ok_kee h3⟩
    · obtain ⟨h4, h5, h6⟩ := ok_cons.mp h3
      have hb := h2 b List.mem_cons_self
      refine ok_cons.mpr ⟨by omega, fun x hx => ?_, h3⟩
      rcases List.mem_cons.mp hx with rfl | hx
      · omega
      · have := h5 x hx
        omega
theorem ok_rai : ∀ {w : List Nat}, Ok w → Ok (rai w)
  | [], h => h
  | [a], h => by
    unfold rai
    split
    · exact ok_nil
    · exact ok_cons.mpr ⟨by omega, (fun _ z => nomatch z), ok_nil⟩
  | a :: b :: s, h => by
    obtain ⟨h1, h2, h3⟩ := ok_cons.mp h
    unfold rai
    exact ok_cons.mpr ⟨h1, rai_le _ _ h2, ok_rai h3⟩

theorem kee_sum : ∀ {w : List Nat}, Ok w → w ≠ [] → (kee w).sum + 1 = w.sum
  | [], _, h => absurd rfl h
  | [a], h, _ => by
    obtain ⟨h1, _⟩ := ok_cons.mp h
    unfold kee
    split
    · simp; omega
    · simp; omega
  | a :: b :: s, h, _ => by
    obtain ⟨h1, h2, h3⟩ := ok_cons.mp h
    unfold kee
    split
    · have := kee_sum h3 (by simp)
      simp only [List.sum_cons] at this ⊢
      omega
    · simp only [List.sum_cons]
      omega
theorem rai_sum : ∀ {w : List Nat}, Ok w → w ≠ [] → (rai w).sum + 1 = w.sum
  | [], _, h => absurd rfl h
  | [a], h, _ => by
    obtain ⟨h1, _⟩ := ok_cons.mp h
    unfold rai
    split
    · simp; omega
    · simp; omega
  | a :: b :: s, h, _ => by
    obtain ⟨h1, h2, h3⟩ := ok_cons.mp h
    unfold rai
    have := rai_sum h3 (by simp)
    simp only [List.sum_cons] at this ⊢
    omega
theorem ok_sum_pos {w : List Nat} (h : Ok w) (hn : w ≠ []) : 1 ≤ w.sum := by
  have := kee_sum h hn
  omega
theorem ok_nil_of_sum {w : List Nat} (h : Ok w) (e : w.sum = 0) : w = [] := by
  cases w with
  | nil => rfl
  | cons a r =>
    have := ok_sum_pos h (by simp)
    omega
theorem ne_nil_of_sum {w : List Nat} {n : Nat} (e : w.sum = n + 1) : w ≠ [] := by
  rintro rfl
  simp at e

/-- all entries are equal -/
def allEq : List Nat → Prop
  | [] => True
  | [_] => True
  | a :: b :: s => b = a ∧ allEq (b :: s)
instance decAllEq : ∀ w, Decidable (allEq w)
  | [] => .isTrue trivial
  | [_] => .isTrue trivial
  | a :: b :: s => by
    unfold allEq
    have := decAllEq (b :: s)
    exact inferInstance
theorem kee_eq_rai : ∀ {w : List Nat}, allEq w → kee w = rai w
  | [], _ => rfl
  | [a], _ => rfl
  | a :: b :: s, h => by
    obtain ⟨e, h⟩ := h
    unfold kee rai
    rw [if_pos e, kee_eq_rai h]
theorem kee_cons_lt {a : Nat} {w : List Nat} (h1 : 1 < a) (h : ∀ x ∈ w, x < a) : kee (a :: w) = (a - 1) :: w := by
  cases w with
  | nil =>
    unfold kee
    rw [if_neg (by omega)]
  | cons b s =>
    have := h b List.mem_cons_self
    unfold kee
    rw [if_neg (by omega)]
theorem rai_cons {a : Nat} {w : List Nat} (h : w ≠ []) : rai (a :: w) = a :: rai w := by
  cases w with
  | nil => exact absurd rfl h
  | cons b s => rfl
theorem rai_kee : ∀ {w : List Nat}, Ok w → ¬ allEq w → rai (kee w) = kee (rai w)
  | [], _, h => absurd trivial h
  | [a], _, h => absurd trivial h
  | a :: b :: s, h, hne => by
    obtain ⟨h1, h2, h3⟩ := ok_cons.mp h
    have hb : b ≤ a := h2 b List.mem_cons_self
    have hr : rai (a :: b :: s) = a :: rai (b :: s) := rfl
    rw [hr]
    by_cases e : b = a
    · have hk : kee (a :: b :: s) = a :: kee (b :: s) := by
        rw [kee_two, if_pos e]
      have hne' : ¬ allEq (b :: s) := fun z => hne ⟨e, z⟩
      have ih := rai_kee h3 hne'
      cases s with
      | nil => exact absurd trivial hne'
      | cons c t =>
        have hkn : kee (b :: c :: t) ≠ [] := by
          unfold kee
          split <;> simp
        rw [hk, rai_cons hkn, ih]
        have hr2 : rai (b :: c :: t) = b :: rai (c :: t) := rfl
        rw [hr2]
        show a :: kee (b :: rai (c :: t)) = kee (a :: b :: rai (c :: t))
        rw [kee_two a b, if_pos e]
    · have hk : kee (a :: b :: s) = (a - 1) :: b :: s := by
        unfold kee
        rw [if_neg e]
      have hb1 : 1 ≤ b := (ok_cons.mp h3).1
      rw [hk]
      show (a - 1) :: rai (b :: s) = kee (a :: rai (b :: s))
      rw [kee_cons_lt (by omega)]
      intro x hx
      have := rai_le (b :: s) b (fun y hy => by
        rcases List.mem_cons.mp hy with rfl | hy
        · exact Nat.le_refl _
        · exact (ok_cons.mp h3).2.1 y hy) x hx
      omega

/-- n times -/
def itr (f : List Nat → List Nat) : Nat → List Nat → List Nat
  | 0, w => w
  | n + 1, w => f (itr f n w)
theorem ok_itr {f : List Nat → List Nat} (hf : ∀ w, Ok w → Ok (f w)) {w : List Nat} (h : Ok w) : ∀ n, Ok (itr f n w)
  | 0 => h
  | n + 1 => hf _ (ok_itr hf h n)
theorem itr_itr (f : List Nat → List Nat) (w : List Nat) (n : Nat) : ∀ m, itr f m (itr f n w) = itr f (m + n) w
  | 0 => by rw [Nat.zero_add]; rfl
  | m + 1 => by
    rw [Nat.add_right_comm]
    show f (itr f m (itr f n w)) = f (itr f (m + n) w)
    rw [itr_itr f w n m]
theorem rai_itr : ∀ (j : Nat) {w : List Nat}, Ok w → ∃ a b, a + b = j ∧ rai (itr kee j w) = itr kee a (itr rai (b + 1) w) := by
  intro j
  induction j using Nat.strongRecOn with
  | ind j ih =>
    intro w h
    cases j with
    | zero => exact ⟨0, 0, rfl, rfl⟩
    | succ j =>
      have hy := ok_itr (f := kee) (fun w => ok_kee) h j
      obtain ⟨a, b, hab, e⟩ := ih j (Nat.lt_succ_self j) h
      by_cases he : allEq (itr kee j w)
      · have e1 : itr kee (j + 1) w = rai (itr kee j w) := kee_eq_rai he
        rw [e1, e]
        have hx := ok_itr (f := rai) (fun w => ok_rai) h (b + 1)
        obtain ⟨a', b', hab', e'⟩ := ih a (by omega) hx
        refine ⟨a', b' + b + 1, by omega, ?_⟩
        rw [e', itr_itr, show b' + 1 + (b + 1) = b' + b + 1 + 1 by omega]
      · refine ⟨a + 1, b, by omega, ?_⟩
        show rai (kee (itr kee j w)) = kee (itr kee a (itr rai (b + 1) w))
        rw [rai_kee hy he, e]

/-! ### the layers -/
def insK (ks : List (List Nat)) (k : List Nat) : List (List Nat) := if k ∈ ks then ks else ks ++ [k]
/-- what Keeper's and Raider's best pluck lead to -/
def succs (w : List Nat) : List (List Nat) := if w.length = 1 then [kee w] else [kee w, rai w]
def insAll (ks more : List (List Nat)) : List (List Nat) := more.foldl insK ks
def nextW (ws : List (List Nat)) : List (List Nat) := insAll [] (ws.flatMap succs)
def layW (w : List Nat) : Nat → List (List Nat)
  | 0 => [w]
  | i + 1 => nextW (layW w i)
theorem mem_insK {ks : List (List Nat)} {k x : List Nat} : x ∈ insK ks k ↔ x ∈ ks ∨ x = k := by
  unfold insK
  split
  · rename_i h
    constructor
    · exact .inl
    · rintro (h' | rfl)
      · exact h'
      · exact h
  · simp
theorem nodup_insK {ks : List (List Nat)} {k : List Nat} (h : ks.Nodup) : (insK ks k).Nodup := by
  unfold insK
  split
  · exact h
  · rename_i hk
    rw [List.nodup_append]
    exact ⟨h, by simp, fun a ha b hb => by
      have : b = k := by simpa using hb
      subst this
      exact fun e => hk (e ▸ ha)⟩
theorem mem_insAll {x : List Nat} : ∀ {more ks : List (List Nat)}, x ∈ insAll ks more ↔ x ∈ ks ∨ x ∈ more
  | [], ks => by simp [insAll]
  | k :: r, ks => by
    have ih := mem_insAll (x := x) (more := r) (ks := insK ks k)
    show x ∈ insAll (insK ks k) r ↔ _
    rw [ih, mem_insK, List.mem_cons, or_assoc]
theorem nodup_insAll : ∀ {more ks : List (List Nat)}, ks.Nodup → (insAll ks more).Nodup
  | [], _, h => h
  | _ :: r, _, h => nodup_insAll (more := r) (nodup_insK h)
theorem insAll_append (ks a b : List (List Nat)) : insAll ks (a ++ b) = insAll (insAll ks a) b := by
  unfold insAll
  rw [List.foldl_append]
theorem mem_nextW {ws : List (List Nat)} {x : List Nat} : x ∈ nextW ws ↔ ∃ w ∈ ws, x ∈ succs w := by
  unfold nextW
  rw [mem_insAll, List.mem_flatMap]
  simp
theorem nodup_layW (w : List Nat) : ∀ i, (layW w i).Nodup
  | 0 => by simp [layW]
  | i + 1 => nodup_insAll .nil
theorem layW_ok {w : List Nat} (h : Ok w) : ∀ {i : Nat} {x : List Nat}, i ≤ w.sum → x ∈ layW w i → Ok x ∧ x.sum + i = w.sum
  | 0, x, _, hx => by
    have : x = w := by simpa [layW] using hx
    subst this
    exact ⟨h, rfl⟩
  | i + 1, x, hi, hx => by
    obtain ⟨y, hy, hs⟩ := mem_nextW.mp hx
    obtain ⟨h1, h2⟩ := layW_ok h (by omega) hy
    have hn : y ≠ [] := by
      rintro rfl
      simp at h2
      omega
    have e1 := kee_sum h1 hn
    have e2 := rai_sum h1 hn
    unfold succs at hs
    split at hs
    · have : x = kee y := by simpa using hs
      subst this
      exact ⟨ok_kee h1, by omega⟩
    · rcases List.mem_cons.mp hs with rfl | hs
      · exact ⟨ok_kee h1, by omega⟩
      · have : x = rai y := by simpa using hs
        subst this
        exact ⟨ok_rai h1, by omega⟩
/-- each word of a layer is reached by some letters R and then letters K -/
theorem layW_form {w : List Nat} (h : Ok w) : ∀ {i : Nat} {x : List Nat}, x ∈ layW w i → ∃ a b, a + b = i ∧ x = itr kee a (itr rai b w)
  | 0, x, hx => by
    have : x = w := by simpa [layW] using hx
    subst this
    exact ⟨0, 0, rfl, rfl⟩
  | i + 1, x, hx => by
    obtain ⟨y, hy, hs⟩ := mem_nextW.mp hx
    obtain ⟨a, b, hab, rfl⟩ := layW_form h hy
    have hk : ∃ a' b', a' + b' = i + 1 ∧ kee (itr kee a (itr rai b w)) = itr kee a' (itr rai b' w) := ⟨a + 1, b, by omega, rfl⟩
    have hr : ∃ a' b', a' + b' = i + 1 ∧ rai (itr kee a (itr rai b w)) = itr kee a' (itr rai b' w) := by
      obtain ⟨a', b', h1, h2⟩ := rai_itr a (ok_itr (f := rai) (fun w => ok_rai) h b)
      refine ⟨a', b' + 1 + b, by omega, ?_⟩
      rw [h2, itr_itr]
    unfold succs at hs
    split at hs
    · rw [List.mem_singleton.mp hs]
      exact hk
    · rcases List.mem_cons.mp hs with e | hs
      · rw [e]
        exact hk
      · rw [List.mem_singleton.mp hs]
        exact hr
theorem layW_length {w : List Nat} (h : Ok w) (i : Nat) : (layW w i).length ≤ i + 1 := by
  have hs : layW w i ⊆ (List.range (i + 1)).map fun a => itr kee a (itr rai (i - a) w) := fun x hx => by
    obtain ⟨a, b, hab, rfl⟩ := layW_form h hx
    refine List.mem_map.mpr ⟨a, List.mem_range.mpr (by omega), ?_⟩
    have e : i - a = b := by omega
    rw [e]
  have := (nodup_layW w i).length_le_of_subset hs
  rw [List.length_map, List.length_range] at this
  exact this
theorem layW_last {w : List Nat} (h : Ok w) {x : List Nat} (hx : x ∈ layW w w.sum) : x = [] := by
  obtain ⟨h1, h2⟩ := layW_ok h (Nat.le_refl _) hx
  exact ok_nil_of_sum h1 (by omega)

/-! ### the rows -/
/-- a list, shifted by one, added place by place; the first list is the longer by one -/
def addS (k r : List Nat) : List Nat := List.zipWith (· + ·) k (0 :: r)
/-- the numbers of orders by their letters R, for a list with the sum n -/
def rowL : Nat → List Nat → List Nat
  | 0, _ => [1]
  | n + 1, w => if w.length = 1 then rowL n (kee w) ++ [0] else addS (rowL n (kee w) ++ [0]) (rowL n (rai w))
theorem rowL_length : ∀ (n : Nat) (w : List Nat), (rowL n w).length = n + 1
  | 0, _ => rfl
  | n + 1, w => by
    unfold rowL
    split
    · rw [List.length_append, rowL_length n]
      rfl
    · unfold addS
      have h1 := rowL_length n (kee w)
      have h2 := rowL_length n (rai w)
      simp only [List.length_zipWith, List.length_append, List.length_cons, List.length_nil]
      omega
def rw_ (n : Nat) (w : List Nat) (e : Nat) : Nat := (rowL n w).getD e 0
theorem rw_out {n e : Nat} {w : List Nat} (h : n < e) : rw_ n w e = 0 := by
  unfold rw_
  rw [List.getD_eq_getElem?_getD, List.getElem?_eq_none (by rw [rowL_length]; omega)]
  rfl
theorem rw_app (n : Nat) (w : List Nat) (e : Nat) : (rowL n w ++ [0]).getD e 0 = rw_ n w e := by
  unfold rw_
  rw [List.getD_eq_getElem?_getD, List.getD_eq_getElem?_getD]
  by_cases h : e < (rowL n w).length
  · rw [List.getElem?_append_left h]
  · rw [List.getElem?_append_right (by omega), List.getElem?_eq_none (l := rowL n w) (by omega)]
    cases e - (rowL n w).length with
    | zero => rfl
    | succ _ => rfl
theorem rw_one {n : Nat} {w : List Nat} (h : w.length = 1) (e : Nat) : rw_ (n + 1) w e = rw_ n (kee w) e := by
  conv => lhs; unfold rw_ rowL
  rw [if_pos h]
  exact rw_app n (kee w) e
theorem addS_getD {k r : List Nat} (h : k.length = r.length + 1) (e : Nat) : (addS k r).getD e 0 = k.getD e 0 + (0 :: r).getD e 0 := by
  unfold addS
  rw [List.getD_eq_getElem?_getD, List.getD_eq_getElem?_getD, List.getD_eq_getElem?_getD, List.getElem?_zipWith]
  by_cases hl : e < k.length
  · rw [List.getElem?_eq_getElem hl, List.getElem?_eq_getElem (show e < (0 :: r).length by rw [List.length_cons]; omega)]
    rfl
  · rw [List.getElem?_eq_none (show k.length ≤ e by omega), List.getElem?_eq_none (show (0 :: r).length ≤ e by rw [List.length_cons]; omega)]
    rfl
theorem rw_zero {n : Nat} {w : List Nat} (h : w.length ≠ 1) : rw_ (n + 1) w 0 = rw_ n (kee w) 0 := by
  conv => lhs; unfold rw_ rowL
  rw [if_neg h, addS_getD (by rw [List.length_append, rowL_length, rowL_length]; rfl), rw_app]
  rfl
theorem rw_succ {n e : Nat} {w : List Nat} (h : w.length ≠ 1) : rw_ (n + 1) w (e + 1) = rw_ n (kee w) (e + 1) + rw_ n (rai w) e := by
  conv => lhs; unfold rw_ rowL
  rw [if_neg h, addS_getD (by rw [List.length_append, rowL_length, rowL_length]; rfl), rw_app]
  rfl

/-! ### binomials -/
def ch : Nat → Nat → Nat
  | _, 0 => 1
  | 0, _ + 1 => 0
  | n + 1, k + 1 => ch n k + ch n (k + 1)
theorem ch_zero (n : Nat) : ch n 0 = 1 := by cases n <;> rfl
theorem ch_succ (n k : Nat) : ch (n + 1) (k + 1) = ch n k + ch n (k + 1) := rfl
theorem ch_out : ∀ {n k : Nat}, n < k → ch n k = 0
  | 0, k + 1, _ => rfl
  | n + 1, k + 1, h => by
    rw [ch_succ, ch_out (by omega), ch_out (by omega)]
theorem ch_pos : ∀ {n k : Nat}, k ≤ n → 0 < ch n k
  | n, 0, _ => by rw [ch_zero]; omega
  | n + 1, k + 1, h => by
    have := ch_pos (n := n) (k := k) (by omega)
    rw [ch_succ]
    omega
theorem ch_self : ∀ n : Nat, ch n n = 1
  | 0 => rfl
  | n + 1 => by rw [ch_succ, ch_self n, ch_out (Nat.lt_succ_self n)]

/-! ### entries behind the first -/
def behind (w : List Nat) : Nat := w.tail.sum
theorem kee_length : ∀ {w : List Nat}, Ok w → 2 ≤ w.length → (w.length ≤ (kee w).length + 1) ∧ ((kee w).length ≤ w.length) ∧ (behind w < w.length → True)
  | [], _, h => by simp at h
  | [a], _, h => by simp at h
  | [a, b], h, _ => by
    refine ⟨?_, ?_, fun _ => trivial⟩
    · unfold kee
      split
      · simp
      · simp
    · unfold kee
      split
      · unfold kee
        split <;> simp
      · simp
  | a :: b :: c :: t, h, _ => by
    obtain ⟨_, _, h3⟩ := ok_cons.mp h
    obtain ⟨i1, i2, _⟩ := kee_length h3 (by simp)
    refine ⟨?_, ?_, fun _ => trivial⟩
    · unfold kee
      split
      · simp only [List.length_cons] at i1 ⊢
        omega
      · simp
    · unfold kee
      split
      · simp only [List.length_cons] at i2 ⊢
        omega
      · simp
/-- no entry is lost where not all are 1 -/
theorem kee_length_eq : ∀ {w : List Nat}, Ok w → w.length < w.sum → (kee w).length = w.length
  | [], _, h => by simp at h
  | [a], _, h => by
    have h' : 1 < a := by simpa using h
    unfold kee
    rw [if_neg (by omega)]
    simp
  | a :: b :: s, h, hl => by
    obtain ⟨h1, h2, h3⟩ := ok_cons.mp h
    unfold kee
    split
    · rename_i e
      rw [List.length_cons, List.length_cons]
      congr 1
      refine kee_length_eq h3 ?_
      by_cases h1' : a = 1
      · exfalso
        have hs : ∀ w : List Nat, (∀ x ∈ w, x ≤ 1) → w.sum ≤ w.length := by
          intro w
          induction w with
          | nil => intro _; simp
          | cons x r ih =>
            intro hx
            have i1 := ih fun y hy => hx y (List.mem_cons_of_mem _ hy)
            have i2 := hx x List.mem_cons_self
            rw [List.sum_cons, List.length_cons]
            omega
        have := hs (a :: b :: s) (fun x hx => by
          rcases List.mem_cons.mp hx with rfl | hx
          · omega
          · have := h2 x hx
            omega)
        omega
      · have hs : ∀ w : List Nat, (∀ x ∈ w, 1 ≤ x) → w.length ≤ w.sum := by
          intro w
          induction w with
          | nil => intro _; simp
          | cons x r ih =>
            intro hx
            have i1 := ih fun y hy => hx y (List.mem_cons_of_mem _ hy)
            have i2 := hx x List.mem_cons_self
            rw [List.sum_cons, List.length_cons]
            omega
        have h4 := hs s (ok_cons.mp h3).2.2.2
        simp only [List.sum_cons, List.length_cons]
        omega
    · simp
theorem length_le_sum : ∀ {w : List Nat}, Ok w → w.length ≤ w.sum
  | [], _ => by simp
  | a :: r, h => by
    obtain ⟨h1, _, h3⟩ := ok_cons.mp h
    have := length_le_sum h3
    rw [List.sum_cons, List.length_cons]
    omega
theorem rai_length : ∀ {w : List Nat}, w.length ≤ (rai w).length + 1
  | [] => by simp
  | [a] => by simp
  | a :: b :: s => by
    have := rai_length (w := b :: s)
    show (a :: b :: s).length ≤ (a :: rai (b :: s)).length + 1
    simp only [List.length_cons] at this ⊢
    omega
/-- Raider's pluck takes one from the entries behind the first -/
theorem rai_behind {w : List Nat} (h : Ok w) (hl : w.length ≠ 1) (hn : w ≠ []) : behind (rai w) + 1 = behind w := by
  cases w with
  | nil => exact absurd rfl hn
  | cons a r =>
    cases r with
    | nil => exact absurd rfl hl
    | cons b s =>
      have := rai_sum (ok_cons.mp h).2.2 (by simp)
      show (rai (b :: s)).sum + 1 = (b :: s).sum
      exact this
theorem kee_behind {w : List Nat} (h : Ok w) (hn : w ≠ []) : behind (kee w) ≤ behind w := by
  cases w with
  | nil => exact absurd rfl hn
  | cons a r =>
    cases r with
    | nil =>
      unfold kee
      split <;> simp [behind]
    | cons b s =>
      unfold kee
      split
      · have := kee_sum (ok_cons.mp h).2.2 (by simp)
        show (kee (b :: s)).sum ≤ (b :: s).sum
        omega
      · exact Nat.le_refl _
theorem behind_lt {w : List Nat} (h : Ok w) (hn : w ≠ []) : behind w + 1 ≤ w.sum := by
  cases w with
  | nil => exact absurd rfl hn
  | cons a r =>
    have := (ok_cons.mp h).1
    show r.sum + 1 ≤ _
    rw [List.sum_cons]
    omega

/-! ### what a row holds -/
structure RowOk (n : Nat) (w : List Nat) : Prop where
  full : ∀ e, e ≤ n → (e = 0 ∨ e < w.length) → rw_ (n + 1) w e = ch n e
  none : ∀ e, behind w < e → rw_ (n + 1) w e = 0
  some : ∀ e, e ≤ behind w → 0 < rw_ (n + 1) w e
  less : ∀ e, 1 ≤ e → e ≤ n → w.length ≤ e → rw_ (n + 1) w e < ch n e
theorem rowOk : ∀ (n : Nat) {w : List Nat}, Ok w → w.sum = n + 1 → RowOk n w
  | 0, w, h, hs => by
    have hn : w ≠ [] := ne_nil_of_sum hs
    have hl : w.length = 1 := by
      have h1 := length_le_sum h
      have h2 : w.length ≠ 0 := fun e => hn (List.length_eq_zero_iff.mp e)
      omega
    have hb := behind_lt h hn
    have hk : kee w = [] := ok_nil_of_sum (ok_kee h) (by have := kee_sum h hn; omega)
    have e0 : rw_ 1 w 0 = 1 := by
      rw [rw_one hl, hk]
      rfl
    have e1 : ∀ e, 0 < e → rw_ 1 w e = 0 := fun e he => by
      rw [rw_one hl]
      exact rw_out he
    refine ⟨fun e he _ => ?_, fun e he => e1 e (by omega), fun e he => ?_, fun e h1 h2 _ => by omega⟩
    · have : e = 0 := by omega
      subst this
      rw [e0, ch_zero]
    · have : e = 0 := by omega
      subst this
      rw [e0]
      omega
  | n + 1, w, h, hs => by
    have hn : w ≠ [] := ne_nil_of_sum hs
    have hb := behind_lt h hn
    have hk := kee_sum h hn
    have IK := rowOk n (ok_kee h) (by omega)
    have hkb := kee_behind h hn
    by_cases hl : w.length = 1
    · -- one entry
      have hb0 : behind w = 0 := by
        cases w with
        | nil => exact absurd rfl hn
        | cons a r =>
          have : r = [] := List.length_eq_zero_iff.mp (by simpa using hl)
          subst this
          rfl
      have hk0 : ∀ e, 0 < e → rw_ (n + 2) w e = 0 := fun e he => by
        rw [rw_one hl]
        exact IK.none e (by omega)
      have hz : rw_ (n + 2) w 0 = 1 := by
        rw [rw_one hl, IK.full 0 (by omega) (.inl rfl), ch_zero]
      refine ⟨fun e he h' => ?_, fun e he => hk0 e (by omega), fun e he => ?_, fun e h1 h2 _ => ?_⟩
      · have : e = 0 := by omega
        subst this
        rw [hz, ch_zero]
      · have : e = 0 := by omega
        subst this
        rw [hz]
        omega
      · rw [hk0 e (by omega)]
        exact ch_pos h2
    · have h2 : 2 ≤ w.length := by
        have : w.length ≠ 0 := fun e => hn (List.length_eq_zero_iff.mp e)
        omega
      have hr := rai_sum h hn
      have IR := rowOk n (ok_rai h) (by omega)
      have hrb := rai_behind h hl hn
      have hrl := rai_length (w := w)
      obtain ⟨kl1, kl2, _⟩ := kee_length h h2
      -- what each part holds at most
      have ub : ∀ {v : List Nat}, RowOk n v → Ok v → v.sum = n + 1 → ∀ e, rw_ (n + 1) v e ≤ ch n e := fun {v} I hv hvs e => by
        have hv' := behind_lt hv (ne_nil_of_sum hvs)
        by_cases he : e ≤ n
        · by_cases hf : e = 0 ∨ e < v.length
          · exact Nat.le_of_eq (I.full e he hf)
          · exact Nat.le_of_lt (I.less e (by omega) he (by omega))
        · rw [I.none e (by omega)]
          exact Nat.zero_le _
      refine ⟨fun e he h' => ?_, fun e he => ?_, fun e he => ?_, fun e h1 h3 h4 => ?_⟩
      · cases e with
        | zero => rw [rw_zero hl, IK.full 0 (by omega) (.inl rfl), ch_zero, ch_zero]
        | succ e =>
          have hlt : e + 1 < w.length := by omega
          rw [rw_succ hl, ch_succ, IR.full e (by omega) (by omega), Nat.add_comm]
          congr 1
          by_cases hk1 : e + 1 < (kee w).length
          · have hle := length_le_sum (ok_kee h)
            exact IK.full (e + 1) (by omega) (.inr hk1)
          · -- all entries are 1, and e + 1 is the last place
            have hlen : ¬ w.length < w.sum := fun z => by
              rw [kee_length_eq h z] at hk1
              omega
            have hle := length_le_sum h
            have e3 : n + 1 = e + 1 := by omega
            have hkb2 := behind_lt (ok_kee h) (ne_nil_of_sum (w := kee w) (n := n) (by omega))
            rw [IK.none (e + 1) (by omega), ch_out (by omega)]
      · cases e with
        | zero => omega
        | succ e => rw [rw_succ hl, IK.none _ (by omega), IR.none _ (by omega)]
      · cases e with
        | zero =>
          rw [rw_zero hl]
          exact IK.some 0 (Nat.zero_le _)
        | succ e =>
          rw [rw_succ hl]
          have := IR.some e (by omega)
          omega
      · cases e with
        | zero => omega
        | succ e =>
          rw [rw_succ hl, ch_succ]
          have u2 := ub IR (ok_rai h) (by omega) e
          by_cases hbe : e + 1 ≤ n
          · have hlt : rw_ (n + 1) (kee w) (e + 1) < ch n (e + 1) := IK.less (e + 1) (by omega) hbe (by omega)
            omega
          · -- the last place: a number of the second part only
            have e4 : e = n := by omega
            subst e4
            have hkb2 := behind_lt (ok_kee h) (ne_nil_of_sum (w := kee w) (n := e) (by omega))
            rw [IK.none (e + 1) (by omega), ch_out (by omega : e < e + 1)]
            have hrb2 := behind_lt (ok_rai h) (ne_nil_of_sum (w := rai w) (n := e) (by omega))
            by_cases hre : behind (rai w) < e
            · rw [IR.none e hre]
              have := ch_pos (n := e) (k := e) (Nat.le_refl _)
              omega
            · exfalso
              -- then the first entry is 1, so all are
              have hbw : behind w + 1 = w.sum := by omega
              have : w.length = w.sum := by
                cases w with
                | nil => exact absurd rfl hn
                | cons a r =>
                  obtain ⟨g1, g2, g3⟩ := ok_cons.mp h
                  have ea : a = 1 := by
                    have : r.sum + 1 = a + r.sum := by
                      rw [← List.sum_cons]
                      exact hbw
                    omega
                  have hs1 : ∀ v : List Nat, Ok v → (∀ x ∈ v, x ≤ 1) → v.length = v.sum := by
                    intro v
                    induction v with
                    | nil => intro _ _; simp
                    | cons x r ih =>
                      intro hv hx
                      obtain ⟨v1, _, v3⟩ := ok_cons.mp hv
                      have i1 := ih v3 fun y hy => hx y (List.mem_cons_of_mem _ hy)
                      have i2 := hx x List.mem_cons_self
                      rw [List.sum_cons, List.length_cons]
                      omega
                  exact hs1 _ h fun x hx => by
                    rcases List.mem_cons.mp hx with rfl | hx
                    · omega
                    · have := g2 x hx
                      omega
              omega

end WR

set_option Elab.async false
set_option linter.all false
set_option maxRecDepth 100000
/-! Rules that the layer lacks: values and items of a dict with tuple keys, a list's item as the old value of an augmented store, a display of one pair with a tuple key, a for over any iterator by its turns. -/
namespace WR
open PySem PySem.Spec PyProof.Rows L2

/-! ### an item read for an augmented store -/
theorem get_list {X : Cx} : PGet X (rIxL X.K) := by
  intro pins s σ H o i ov iv Q I ro ri h
  obtain ⟨p, xs, k, z, rfl, rfl, hq, he, q⟩ := h
  cases ro
  obtain ⟨t, rfl⟩ := ri
  obtain ⟨its, r, pl, hz⟩ := I.list hq
  obtain ⟨j, h1, h2, h3, h4, h5⟩ := atI_get he
  obtain ⟨u, eu, ru⟩ := r.get h2
  have big := line63
  have len := r.length
  have fin : EP X pins σ Q u s := ⟨z, H, I, ru, q⟩
  rcases Int.lt_or_le k 0 with neg | nn
  · have at_ : (k + (its.toArray.size : Int)).toNat = j := by
      have e := seqIndex_neg neg h4
      rw [e] at h1
      have e1 := Option.some.inj h1
      simp only [List.size_toArray]
      omega
    refine wpAny_getItem_list_neg pl.isList neg ?_ ?_ ?_ fin
    · simp only [List.size_toArray]
      omega
    · omega
    · rw [at_]
      simpa using eu
  · have at_ : k.toNat = j := by
      have e := seqIndex_of nn h5
      rw [e] at h1
      exact Option.some.inj h1
    refine wpAny_getItem_list pl.isList nn (by omega) ?_ fin
    rw [at_]
    simpa using eu

/-! ### a for by its turns, whatever is walked -/
theorem for_by {J : It} {g : TG} {tb : TS} {D : Ends} {σ : L2.St} {H : Hp} (n : Nat) (G : Nat → L2.St → Hp → Prop) (start : G 0 σ H) (can : ∀ i σ H, i < n → G i σ H → J.go i H) (ends : ∀ σ H, G n σ H → J.stop n H)
    (turn : ∀ i σ H x H', i < n → G i σ H → J.yld i H x H' → g x σ H' fun σ2 H2 => tb { D with nx := G (i + 1), ct := G (i + 1), bk := D.nx } σ2 H2) (done : ∀ σ H, G n σ H → D.nx σ H) :
    ∃ W : Nat → Nat → L2.St → Hp → Prop, (∃ m, W 0 m σ H) ∧ ∀ i m σ H, W i m σ H →
      (J.stop i H ∧ D.nx σ H) ∨ (J.go i H ∧ ∃ N : L2.St → Hp → Prop, (∀ σ' H', N σ' H' → ∃ m', m' < m ∧ W (i + 1) m' σ' H') ∧ ∀ x H', J.yld i H x H' → g x σ H' fun σ2 H2 => tb { D with nx := N, ct := N, bk := D.nx } σ2 H2) := by
  refine ⟨fun i m σ H => i + m = n ∧ G i σ H, ⟨n, Nat.zero_add n, start⟩, fun i m σ H ⟨e, q⟩ => ?_⟩
  cases m with
  | zero =>
    obtain rfl : i = n := e
    exact .inl ⟨ends σ H q, done σ H q⟩
  | succ m => exact .inr ⟨can i σ H (by omega) q, G (i + 1), fun σ' H' q' => ⟨m, Nat.lt_succ_self m, by omega, q'⟩, fun x H' y => turn i σ H x H' (by omega) q y⟩

/-! ### a locked dict with tuple keys: its entries -/
section
variable {X : Cx} {pins : List (Addr × Obj)} {σ : L2.St} {H : Hp} {s : Shared} {d : Addr} {o : Obj}
theorem lockedT {kvs : List (List L2.Key × V)} (I : Inv X pins σ H s) (h : H d = some (.frz o (.dT kvs))) :
    (d == sysModules) = false ∧ ∃ (es : Array DictEntry) (ep : Nat), o.data = .dict es ep ∧ s.heap.DictRaw d es ep ∧ es.size = kvs.length ∧
      ∀ (i : Nat) (hi : i < es.size) (k : List L2.Key) (v : V), kvs[i]? = some (k, v) → RelV v es[i].val ∧ ∃ q, es[i].key = .ref q ∧ H q = some (.tup (k.map kV)) := by
  obtain ⟨stands, _, low, xs, rel, o', es, ep, there, exact_, data, ents, _⟩ := I.hok d _ h
  obtain rfl : o = o' := Option.some.inj (stands.symm.trans there)
  have len : es.size = xs.length := size_of_entries ents
  refine ⟨low, es, ep, data, ⟨o, there, exact_, data⟩, len.trans (Paired.length rel).symm, fun i hi k v e => ?_⟩
  obtain ⟨⟨k', q, u⟩, hx, e1, e2, e3⟩ := paired_get rel e
  have en := entry_at ents i
  rw [hx, Array.getElem?_eq_getElem hi] at en
  have en' := Option.some.inj en
  refine ⟨?_, q, ?_, e2⟩
  · rw [en']
    exact e3
  · rw [en']
    rfl
end

/-- the values of the locked dict at d, in order -/
def ItVal (d : Addr) (o : Obj) (kvs : List (List L2.Key × V)) : It where
  go := fun i H => i < kvs.length ∧ H d = some (.frz o (.dT kvs))
  yld := fun i H x H' => H' = H ∧ ∃ k, kvs[i]? = some (k, x)
  stop := fun i H => kvs.length ≤ i ∧ H d = some (.frz o (.dT kvs))
/-- its items: each a new pair of the key's own tuple and the value -/
def ItItm (d : Addr) (o : Obj) (kvs : List (List L2.Key × V)) : It where
  go := fun i H => i < kvs.length ∧ H d = some (.frz o (.dT kvs))
  yld := fun i H x H' => ∃ (T q : Addr) (k : List L2.Key) (v : V), kvs[i]? = some (k, v) ∧ H q = some (.tup (k.map kV)) ∧ H T = none ∧ x = .ref T ∧ H' = upd H T (.tup [.ref q, v])
  stop := fun i H => kvs.length ≤ i ∧ H d = some (.frz o (.dT kvs))

section
variable {P : Program} {w : World} {K : PySem.W.Frag} {d : Addr} {o : Obj} {es : Array DictEntry} {ep : Nat} {kvs : List (List L2.Key × V)}
theorem same_table {o : Obj} {a b : Array DictEntry} {m n : Nat} (h : o.data = .dict a m) (h' : o.data = .dict b n) : b = a ∧ n = m := by
  have e := h.symm.trans h'
  injection e with e1 e2
  exact ⟨e1.symm, e2.symm⟩
theorem turnVal {tg : Expr} (it : Addr) (data : o.data = .dict es ep) : Turn P w K tg (ItVal d o kvs) [it] it (fun i h => h.IsValIter it d i kvs.length ep) where
  mem := List.mem_singleton.mpr rfl
  obj := fun i h st b hb => by
    obtain rfl := List.mem_singleton.mp hb
    obtain ⟨ob, e, _, dd⟩ := st
    exact ⟨ob, e, fun v z => nomatch dd.symm.trans z⟩
  keep := fun i h h' st kp => st.at fun ob e => kp it (List.mem_singleton.mpr rfl) ob e
  item := by
    rintro X rfl rfl rfl calm i pins s σ H E I own st ⟨lt, lk⟩
    obtain ⟨low, es', ep', data', raw, len, ent⟩ := lockedT I lk
    obtain ⟨rfl, rfl⟩ := same_table data data'
    obtain ⟨f0, f1, _, f3, f4, f5⟩ := own it (List.mem_singleton.mpr rfl)
    have lt' : i < es'.size := by rw [len]; exact lt
    obtain ⟨⟨k, v⟩, hkv⟩ : ∃ p, kvs[i]? = some p := ⟨_, List.getElem?_eq_getElem lt⟩
    rw [← len] at st
    refine wpAny_pyNext_values_item_raw st raw lt' fun h' st' sb => ?_
    have I' : Inv X pins σ H { s with heap := h' } := I.turned (t' := s.toks) (fun b ob hb e => (sb.2 b hb).trans e) f0 f1 f3 f4 f5
    obtain ⟨ob, e, c, dd⟩ := id st'
    rw [len] at st'
    exact ⟨_, rfl, go_of (s := { s with heap := h' }) e c dd (by decide) ⟨v, H, I', (ent i lt' k v hkv).1, ⟨rfl, k, hkv⟩, st', fun b hb => (own b hb).1⟩⟩
  done := by
    rintro X rfl rfl rfl calm i pins s σ H E I own st ⟨ge, lk⟩
    obtain ⟨low, es', ep', data', raw, len, ent⟩ := lockedT I lk
    obtain ⟨rfl, rfl⟩ := same_table data data'
    obtain ⟨f0, f1, _, f3, f4, f5⟩ := own it (List.mem_singleton.mpr rfl)
    rw [← len] at st
    exact wpAny_pyNext_values_end_raw (I.ok.hd calm) st raw (by rw [len]; exact ge) fun h' eb => ⟨rfl, I.turned (t' := s.toks) (fun b ob hb e => eb b ob hb e) f0 f1 f3 f4 f5⟩
  self := fun A i s Q E st h => wpAny_pyIter_valiter st h
theorem turnItm {elts : List Expr} {kk : Nat} {tpos : Pos} (it : Addr) (data : o.data = .dict es ep) :
    Turn P w K (.Tuple elts kk tpos) (ItItm d o kvs) [it] it (fun i h => ∃ a b, IsItemIter h it d i kvs.length ep a b) where
  mem := List.mem_singleton.mpr rfl
  obj := fun i h ⟨_, _, e⟩ b hb => by
    obtain rfl := List.mem_singleton.mp hb
    exact ⟨_, e, fun v z => nomatch z⟩
  keep := fun i h h' ⟨a, b, e⟩ kp => ⟨a, b, kp it (List.mem_singleton.mpr rfl) _ e⟩
  item := by
    rintro X rfl rfl rfl calm i pins s σ H E I own ⟨a, b, st⟩ ⟨lt, lk⟩
    obtain ⟨low, es', ep', data', raw, len, ent⟩ := lockedT I lk
    obtain ⟨rfl, rfl⟩ := same_table data data'
    have lt' : i < es'.size := by rw [len]; exact lt
    obtain ⟨⟨k, v⟩, hkv⟩ : ∃ p, kvs[i]? = some p := ⟨_, List.getElem?_eq_getElem lt⟩
    obtain ⟨rv, q, ek, hq⟩ := ent i lt' k v hkv
    rw [← len] at st
    have young : it < s.heap.objs.size := Heap.lt_size st
    refine wpAny_pyNext_items_item_raw st raw lt' fun h1 out pair size old => ⟨_, rfl, wpAny_letOwnedTupleGo_items (s := { s with heap := h1 }) out fun h2 st2 sb => ?_⟩
    have pair2 := (sb.2 _ (Nat.ne_of_gt young)).trans pair
    have ok2 : ObjOk X.prog X.w (upd H s.heap.objs.size (.tup [.ref q, v])) h2 s.heap.objs.size (.tup [.ref q, v]) :=
      ⟨(by decide : 2 ≤ sizeLine), [_, _], .cons ek (.cons rv .nil), _, pair2, rfl, _, rfl⟩
    have I2 : Inv X pins σ (upd H s.heap.objs.size (.tup [.ref q, v])) { s with heap := h2 } := by
      refine I.turnedNew (t' := s.toks) (ch := [it]) (fun c ob hc e => ?_) own (Nat.le_refl _) ok2
      have hc' : c ≠ it := fun z => hc (List.mem_singleton.mpr z)
      exact (sb.2 c hc').trans (old c ob hc' e)
    rw [len] at st2
    refine ⟨.ref s.heap.objs.size, _, I2, rfl, ⟨_, q, k, v, hkv, hq, I.hok.fresh (Nat.le_refl _), rfl, rfl⟩, ⟨_, _, st2⟩, fun c hc => ?_⟩
    obtain rfl := List.mem_singleton.mp hc
    rw [upd_ne (Nat.ne_of_lt young)]
    exact (own c hc).1
  done := by
    rintro X rfl rfl rfl calm i pins s σ H E I own ⟨a, b, st⟩ ⟨ge, lk⟩
    obtain ⟨low, es', ep', data', raw, len, ent⟩ := lockedT I lk
    obtain ⟨rfl, rfl⟩ := same_table data data'
    obtain ⟨f0, f1, _, f3, f4, f5⟩ := own it (List.mem_singleton.mpr rfl)
    rw [← len] at st
    exact wpAny_pyNext_items_end_raw (I.ok.hd calm) st raw (by rw [len]; exact ge) fun h' eb => ⟨rfl, I.turned (t' := s.toks) (fun b ob hb e => eb b ob hb e) f0 f1 f3 f4 f5⟩
  self := fun A i s Q E st h => let ⟨_, _, e⟩ := st; PySem.W.kcp_self e h
end

/-- what d.values(), d.items() of a locked dict with tuple keys asks -/
def iOf (J : Addr → Obj → List (List L2.Key × V) → It) (td : TE) : TI := fun σ H R => td σ H fun x H1 => ∃ d o kvs, x = .ref d ∧ H1 d = some (.frz o (.dT kvs)) ∧ R (J d o kvs) H1
section
variable {X : Cx} {e : Expr} {td : TE} {apos cpos : Pos}
theorem pi_valT {tg : Expr} (he : PE X e td) (hb : attributeBase e "values" X.env (eval e X.env) = eval e X.env := by rfl) (hl : (apos.endLine == cpos.line) = true := by rfl) :
    PI X tg (.Call (.Attribute e "values" apos) [] [] cpos) (iOf ItVal td) := by
  refine ⟨fun pins s σ H R I h => wpAny_Call_method (T := "dict") (id := "dict.values") hb rfl hl F.plainAttrs_dict F.slot_dict_values F.type_dict_values (thn (he.run pins s σ H _ I h) fun u s1 ⟨x, H1, I1, rx, d, o, kvs, ex, lk, q⟩ => ?_)⟩
  subst ex
  obtain rfl : u = Value.ref d := rx
  obtain ⟨low, es, ep, data, raw, len, ent⟩ := lockedT I1 lk
  obtain ⟨ob, h1, h2, _⟩ := id raw
  refine ⟨raw.typeIs, fun b z => ?_, ?_⟩
  · cases z
    exact ⟨ob, h1, h2.2.1⟩
  · have I2 : Inv X pins σ H1 { s1 with heap := s1.heap.push { cls := .type "dict_values", data := .fields #[.ref d] } } := I1.kept (t' := s1.toks) fun b ob z => Heap.get?_push_of_some _ z
    refine method_meetsIn F.slot_dict_values F.entry_dict_values rfl (PySem.evalArgs_none ⟨rfl, raw.typeIs, F.args_dict_values_1 _, _, meets_dict_values_raw d low, ⟨es, ep, raw⟩, ?_⟩)
    refine wpAny_pyIter_values_raw (d := d) ⟨_, Heap.get?_push_size _ rfl, rfl, rfl⟩ (raw.at fun _ z => Heap.get?_push_of_some _ z) (pi_one (tk := s1.toks) I2 _ (turnVal _ data) ⟨_, Heap.get?_push_size _ rfl, rfl, ?_⟩ q)
    rw [len]
    rfl
theorem pi_itmT {elts : List Expr} {kk : Nat} {tpos : Pos} (he : PE X e td) (hb : attributeBase e "items" X.env (eval e X.env) = eval e X.env := by rfl) (hl : (apos.endLine == cpos.line) = true := by rfl) :
    PI X (.Tuple elts kk tpos) (.Call (.Attribute e "items" apos) [] [] cpos) (iOf ItItm td) := by
  refine ⟨fun pins s σ H R I h => wpAny_Call_method (T := "dict") (id := "dict.items") hb rfl hl F.plainAttrs_dict F.slot_dict_items F.type_dict_items (thn (he.run pins s σ H _ I h) fun u s1 ⟨x, H1, I1, rx, d, o, kvs, ex, lk, q⟩ => ?_)⟩
  subst ex
  obtain rfl : u = Value.ref d := rx
  obtain ⟨low, es, ep, data, raw, len, ent⟩ := lockedT I1 lk
  obtain ⟨ob, h1, h2, _⟩ := id raw
  refine ⟨raw.typeIs, fun b z => ?_, ?_⟩
  · cases z
    exact ⟨ob, h1, h2.2.1⟩
  · have I2 : Inv X pins σ H1 { s1 with heap := s1.heap.push { cls := .type "dict_items", data := .fields #[.ref d] } } := I1.kept (t' := s1.toks) fun b ob z => Heap.get?_push_of_some _ z
    refine method_meetsIn F.slot_dict_items F.entry_dict_items rfl (PySem.evalArgs_none ⟨rfl, raw.typeIs, F.args_dict_items_1 _, _, meets_dict_items_raw d low, ⟨es, ep, raw⟩, ?_⟩)
    refine wpAny_pyIter_items_raw (d := d) ⟨_, Heap.get?_push_size _ rfl, rfl, rfl⟩ (raw.at fun _ z => Heap.get?_push_of_some _ z) (pi_one (tk := s1.toks) I2 _ (turnItm _ data) ⟨.none, .none, ?_⟩ q)
    rw [← len]
    exact Heap.get?_push_size _ rfl
end

/-! ### {k: v} with one pair, the key a tuple -/
theorem storedNew {k : List L2.Key} {b : Addr} {u : Value} : storedAllH [] [(k, b, u)] = [(k, b, u)] := rfl
def tDisp1 (tk tv : TE) : TE := fun σ H Q => ∀ p, H p = none → tPairs [(tk, tv)] σ (upd H p (.dT [])) fun ps H2 => ∃ k b y, ps = [(.ref b, y)] ∧ H2 b = some (.tup (k.map kV)) ∧ H2 p = some (.dT []) ∧ Q (.ref p) (upd H2 p (.dT [(k, y)]))
theorem pe_disp1 {X : Cx} {k v : Expr} {tk tv : TE} {pos : Pos} (hu : X.A.units + 1 < cLine) (hk : PE X k tk) (hv : PE X v tv) : PE X (.Dict [some k] [v] pos) (tDisp1 tk tv) := by
  refine ⟨fun pins s σ H Q I h => ?_⟩
  have free := I.hok.fresh (Nat.le_refl s.heap.objs.size)
  have I1 := I.laid (a := s.heap.objs.size) (o := .dT []) (h' := s.heap.push { cls := .type "dict", data := .dict #[] }) (t' := s.toks) (fun _ _ z => Heap.get?_push_of_some _ z) (Nat.le_refl _) (dt_empty s.heap I.big)
  have P := (pps_cons (pos := pos) hk hv pps_nil).run pins _ σ _ _ I1 (h _ free)
  rw [arm_eval_Dict, zip_pairTrees [some k] [v] X.env pos rfl rfl, dictDisplay_pairs (pairTrees [some k] [v] X.env pos) (by simp [pairTrees]) (by simp [pairTrees])]
  refine wpAny_bind (wpAny_standAt (wpAny_bind (wpAny_subDictH (knd := tupleKind (mixKind X.prog X.w)) (Nat.lt_of_succ_lt hu) (by simp [pairTrees]) (thn P fun us s2 ⟨ps, H2, I2, rel, k, b, y, eps, hb, hp, q⟩ => ?_))))
  subst eps
  obtain ⟨c1, c2, rfl, r1, r2⟩ : ∃ c1 c2, us = [(c1, c2)] ∧ RelV (.ref b) c1 ∧ RelV y c2 := by
    cases rel with
    | cons r rr =>
      cases rr
      exact ⟨_, _, rfl, r.1, r.2⟩
  obtain rfl : c1 = Value.ref b := r1
  obtain ⟨_, low, xs, kt, dd⟩ := dt_of I2.hok hp
  cases kt
  refine ⟨[(k, b, c2)], ⟨rfl, rfl, key_of I2.hok hb, trivial⟩, dd, fun h' tk' dd' sb => wpAny_pure ?_⟩
  have there : ∃ z, h'.get? s.heap.objs.size = some z := let ⟨z, _, _, hz, _⟩ := dd'; ⟨z, hz⟩
  obtain ⟨ob, es, ep, g1, g2, g3, g4, _, g5⟩ := dd'
  rw [storedNew] at g4 g5
  refine ⟨.ref s.heap.objs.size, _, d_write (ob := .dT [(k, y)]) I2 (by rw [hp]; trivial) sb there ⟨(by decide : 1 ≤ sizeLine), low, [(k, b, c2)], .cons ⟨rfl, ?_, r2⟩ .nil, ob, es, ep, g1, g2, g3, g4, g5⟩, rfl, q⟩
  show upd H2 s.heap.objs.size _ b = _
  rw [upd_ne (ne_of hb hp fun z => nomatch z)]
  exact hb
end WR

set_option Elab.async false
set_option linter.all false
set_option maxRecDepth 100000
set_option maxHeartbeats 1000000
/-! Dict comprehensions whose keys are tuples: one clause, two clauses. A clause is a loop by itself (Clause); what it does with an item that passed its tests is an emission (Emit); the second clause is the first one's emission. -/
namespace WR
open PySem PySem.Spec PyProof.Rows L2

abbrev Nov : Value → Shared → Prop := fun _ _ => False
theorem free_of {α : Type} {t : Sem α} {Q Q' : α → Shared → Prop} {M : Model} {A : Around} {E E' : Value → Shared → Prop} {s : Shared} (hE : E = Nov) (h : wpAny M A t Q E s) (hQ : ∀ a s, Q a s → Q' a s) : wpAny M A t Q' E' s :=
  wpAny_mono h hQ fun _ _ z => by
    rw [hE] at z
    exact z.elim

/-- the tests of a clause, as the machine runs them -/
abbrev testsOn (ifs : List Expr) (env : Env) : Sem Bool := forIn ifs true fun c r => if r = true then do let ok ← isTrue c env (eval c env); pure (ForInStep.yield ok) else pure (ForInStep.yield r)

/-- the d-th clause of the comprehension e, walked by an iterator: em is what is done with an item that passes -/
structure Clause (prog : Program) (w : World) (A : Around) (env : Env) (e : Expr) (d : Nat) (acc : Value) (tg : Expr) (ifs : List Expr) (em : (Shared → Prop) → Shared → Prop) : Prop where
  rule : ∀ (it : Value) (R : Shared → Prop) (G : Nat → Shared → Prop),
    (∀ n s, G n s → wpAny (model prog w) A (pyNext it) (fun r s1 => match r with
      | none => R s1
      | some v => wpAny (model prog w) A (letOwnedTupleGo tg it v) (fun _ s2 => wpAny (model prog w) A (assign tg env v) (fun _ s3 => wpAny (model prog w) A (testsOn ifs env) (fun ok s4 =>
          if ok = true then em (fun s' => ∃ m, m < n ∧ G m s') s4 else ∃ m, m < n ∧ G m s4) Nov s3) Nov s2) Nov s1) Nov s) →
    ∀ n s, G n s → codeAny (model prog w) A (.compLoop e d it acc env) (fun r s' => r = .ok .next ∧ R s') s

section
variable {prog : Program} {w : World} {A : Around} {env : Env} {kx vx t0 i0 t1 i1 : Expr} {ifs0 ifs1 : List Expr} {scope : Scope} {pos : Pos} {D : Addr} {acc : Value}
/-- the pair made and stored -/
def emPair (prog : Program) (w : World) (A : Around) (env : Env) (kx vx : Expr) (D : Addr) (Q : Shared → Prop) (s : Shared) : Prop :=
  wpAny (model prog w) A (eval kx env) (fun kv s1 => wpAny (model prog w) A (eval vx env) (fun vv s2 => wpAny (model prog w) A (dictSet D kv vv) (fun _ s3 => Q s3) Nov s2) Nov s1) Nov s
/-- the next clause, over its own source -/
def emNext (prog : Program) (w : World) (A : Around) (env : Env) (e i1 : Expr) (acc : Value) (Q : Shared → Prop) (s : Shared) : Prop :=
  wpAny (model prog w) A (eval i1 env) (fun x s1 => wpAny (model prog w) A (pyIter x) (fun it s2 => codeAny (model prog w) A (.compStart e 1 it acc env) (fun r s3 => r = .ok .next ∧ Q s3) s2) Nov s1) Nov s

theorem turnLast1 (it : Value) : compTurn (.DictComp kx vx [⟨t0, i0, ifs0, 0⟩] scope pos) 0 it (.ref D) env = (do
    standAt i0.pos
    match ← pyNext it with
    | none => pure (.done .next)
    | some v =>
      letOwnedTupleGo t0 it v
      assign t0 env v
      if ← testsOn ifs0 env then
        (do
          let a ← eval kx env
          let b ← holding [a] (eval vx env)
          standAt { kx.pos with endLine := vx.pos.endLine, endCol := vx.pos.endCol }
          holding [a, b] (dictSet D a b))
      again (.compLoop (.DictComp kx vx [⟨t0, i0, ifs0, 0⟩] scope pos) 0 it (.ref D) env)) := by rfl
theorem turnLast2 (it : Value) : compTurn (.DictComp kx vx [⟨t0, i0, ifs0, 0⟩, ⟨t1, i1, ifs1, 0⟩] scope pos) 1 it (.ref D) env = (do
    standAt i1.pos
    match ← pyNext it with
    | none => pure (.done .next)
    | some v =>
      letOwnedTupleGo t1 it v
      assign t1 env v
      if ← testsOn ifs1 env then
        (do
          let a ← eval kx env
          let b ← holding [a] (eval vx env)
          standAt { kx.pos with endLine := vx.pos.endLine, endCol := vx.pos.endCol }
          holding [a, b] (dictSet D a b))
      again (.compLoop (.DictComp kx vx [⟨t0, i0, ifs0, 0⟩, ⟨t1, i1, ifs1, 0⟩] scope pos) 1 it (.ref D) env)) := by rfl
theorem turnFirst2 (it : Value) : compTurn (.DictComp kx vx [⟨t0, i0, ifs0, 0⟩, ⟨t1, i1, ifs1, 0⟩] scope pos) 0 it acc env = (do
    standAt i0.pos
    match ← pyNext it with
    | none => pure (.done .next)
    | some v =>
      letOwnedTupleGo t0 it v
      assign t0 env v
      if ← testsOn ifs0 env then
        let x ← eval i1 env
        standAt i1.pos
        let x ← foldedSetIterable i1 env x
        let _ ← runOwn (.compStart (.DictComp kx vx [⟨t0, i0, ifs0, 0⟩, ⟨t1, i1, ifs1, 0⟩] scope pos) 1 (← holding [x] (pyIter x)) acc env) env
      again (.compLoop (.DictComp kx vx [⟨t0, i0, ifs0, 0⟩, ⟨t1, i1, ifs1, 0⟩] scope pos) 0 it acc env)) := by rfl

/-- one turn, as any clause has it: the frame around what is done with the item -/
theorem clause_of {e : Expr} {d : Nat} {tg : Expr} {ifs : List Expr} {em : (Shared → Prop) → Shared → Prop} {p : Pos} {body : Sem PySem.Fin → Sem PySem.Fin}
    (quiet : ∀ it, (Code.compLoop e d it acc env).quiet = true) (own : ∀ it, (model prog w).den (.compLoop e d it acc env) = (compTurn e d it acc env).onRaise (fun x => do noteFrame x env; theTreesLotGoes x))
    (under : ∀ it, A.under (.compLoop e d it acc env) = A)
    (form : ∀ it, compTurn e d it acc env = (do
      standAt p
      match ← pyNext it with
      | none => pure (.done .next)
      | some v =>
        letOwnedTupleGo tg it v
        assign tg env v
        if ← testsOn ifs env then body (again (.compLoop e d it acc env)) else again (.compLoop e d it acc env)))
    (does : ∀ (k : Sem PySem.Fin) (Q : Shared → Prop) (R : PySem.Fin → Shared → Prop) (s : Shared), (∀ s', Q s' → wpAny (model prog w) A k R Nov s') → em Q s → wpAny (model prog w) A (body k) R Nov s) : Clause prog w A env e d acc tg ifs em := by
  refine ⟨fun it R G turn n s g => codeAny_loop (quiet it) G (fun n s g => ?_) n g⟩
  rw [own it, under it, form it]
  refine wpAny_noted (wpAny_mono (E := Nov) (wpAny_bind (wpAny_standAt (wpAny_bind (wpAny_mono (turn n s g) (fun r s1 h1 => ?_) fun _ _ z => z)))) (fun _ _ q => q) fun _ _ z => z.elim)
  cases r with
  | none => exact wpAny_pure ⟨rfl, h1⟩
  | some v =>
    refine wpAny_bind (wpAny_mono h1 (fun _ s2 h2 => wpAny_bind (wpAny_mono h2 (fun _ s3 h3 => wpAny_bind (wpAny_mono h3 (fun ok s4 h4 => ?_) fun _ _ z => z)) fun _ _ z => z)) fun _ _ z => z)
    cases ok with
    | true => exact does _ _ _ s4 (fun s' q => wpAny_pure ⟨rfl, q⟩) h4
    | false => exact wpAny_pure ⟨rfl, h4⟩

theorem clauseLast1 : Clause prog w A env (.DictComp kx vx [⟨t0, i0, ifs0, 0⟩] scope pos) 0 (.ref D) t0 ifs0 (emPair prog w A env kx vx D) := by
  refine clause_of (p := i0.pos) (body := fun k => (do
      let a ← eval kx env
      let b ← holding [a] (eval vx env)
      standAt { kx.pos with endLine := vx.pos.endLine, endCol := vx.pos.endCol }
      holding [a, b] (dictSet D a b)) >>= fun _ => k) (fun _ => rfl) (fun _ => rfl) (fun _ => rfl) (fun it => turnLast1 it) fun k Q R s go h => ?_
  exact wpAny_bind (wpAny_bind (wpAny_mono h (fun a s1 h1 => wpAny_bind (wpAny_holding (wpAny_mono h1 (fun b s2 h2 => wpAny_bind (wpAny_standAt (wpAny_holding (wpAny_mono h2 (fun _ s3 q => go s3 q) fun _ _ z => z)))) fun _ _ z => z))) fun _ _ z => z))
theorem clauseLast2 : Clause prog w A env (.DictComp kx vx [⟨t0, i0, ifs0, 0⟩, ⟨t1, i1, ifs1, 0⟩] scope pos) 1 (.ref D) t1 ifs1 (emPair prog w A env kx vx D) := by
  refine clause_of (p := i1.pos) (body := fun k => (do
      let a ← eval kx env
      let b ← holding [a] (eval vx env)
      standAt { kx.pos with endLine := vx.pos.endLine, endCol := vx.pos.endCol }
      holding [a, b] (dictSet D a b)) >>= fun _ => k) (fun _ => rfl) (fun _ => rfl) (fun _ => rfl) (fun it => turnLast2 it) fun k Q R s go h => ?_
  exact wpAny_bind (wpAny_bind (wpAny_mono h (fun a s1 h1 => wpAny_bind (wpAny_holding (wpAny_mono h1 (fun b s2 h2 => wpAny_bind (wpAny_standAt (wpAny_holding (wpAny_mono h2 (fun _ s3 q => go s3 q) fun _ _ z => z)))) fun _ _ z => z))) fun _ _ z => z))
theorem clauseFirst2 (plain : ∀ x, foldedSetIterable i1 env x = pure x) :
    Clause prog w A env (.DictComp kx vx [⟨t0, i0, ifs0, 0⟩, ⟨t1, i1, ifs1, 0⟩] scope pos) 0 acc t0 ifs0 (emNext prog w A env (.DictComp kx vx [⟨t0, i0, ifs0, 0⟩, ⟨t1, i1, ifs1, 0⟩] scope pos) i1 acc) := by
  refine clause_of (p := i0.pos) (body := fun k => (do
      let x ← eval i1 env
      standAt i1.pos
      let x ← foldedSetIterable i1 env x
      let _ ← runOwn (.compStart (.DictComp kx vx [⟨t0, i0, ifs0, 0⟩, ⟨t1, i1, ifs1, 0⟩] scope pos) 1 (← holding [x] (pyIter x)) acc env) env
      k)) (fun _ => rfl) (fun _ => rfl) (fun _ => rfl) (fun it => turnFirst2 it) fun k Q R s go h => ?_
  refine wpAny_bind (wpAny_mono h (fun x s1 h1 => wpAny_bind (wpAny_standAt (wpAny_bind (wpAny_of_eq (plain x) (wpAny_bind (wpAny_holding (wpAny_mono h1 (fun it s2 h2 => wpAny_bind (wpAny_runOwn ?_)) fun _ _ z => z))))))) fun _ _ z => z)
  rw [Around.mark_none]
  refine codeAny_mono h2 fun r s3 q => ?_
  obtain ⟨rfl, q⟩ := q
  exact go s3 q
/-- where the second clause begins -/
theorem start2 {it : Value} {R : Result → Shared → Prop} {s : Shared} (h0 : codeAny (model prog w) A (.compLoop (.DictComp kx vx [⟨t0, i0, ifs0, 0⟩, ⟨t1, i1, ifs1, 0⟩] scope pos) 1 it acc env) R s)
    (self : ∀ Q : Value → Shared → Prop, Q it s → wpAny (model prog w) A (pyIter it) Q Nov s) :
    codeAny (model prog w) A (.compStart (.DictComp kx vx [⟨t0, i0, ifs0, 0⟩, ⟨t1, i1, ifs1, 0⟩] scope pos) 1 it acc env) R s := by
  refine codeAny_of_tree ?_
  show wpAny _ _ ((compStart (.DictComp kx vx [⟨t0, i0, ifs0, 0⟩, ⟨t1, i1, ifs1, 0⟩] scope pos) 1 it acc env).onRaise (fun x => do noteFrame x env; standAt theWindowsPlace)) _ _ s
  refine wpAny_notedAt (wpAny_mono (E := Nov) ?_ (fun _ _ q => q) fun _ _ z => z.elim)
  unfold compStart
  refine wpAny_bind (wpAny_askSetting (wpAny_ite ?_))
  split
  · exact wpAny_bind (wpAny_pure (wpAny_pure ⟨rfl, h0⟩))
  · refine wpAny_bind (wpAny_rule ?_)
    show wpAny _ _ (standAt i1.pos >>= _) _ _ s
    exact wpAny_bind (wpAny_standAt (wpAny_bind (self _ (wpAny_pure ⟨rfl, h0⟩))))
end

/-! ### a clause by the layer's readings -/
/-- what is done with an item: from the slots σ to any slots that still know what σ knew beside vs -/
def Emit (B : Cx) (vs : List Nat) (em : (Shared → Prop) → Shared → Prop) (t : L2.St → Hp → (Hp → Prop) → Prop) : Prop :=
  ∀ (pins : List (Addr × Obj)) (s : Shared) (σ : L2.St) (H : Hp) (Q : Hp → Prop) (S : Shared → Prop), Inv B pins σ H s → t σ H Q →
    (∀ s' σ' H', Inv B pins σ' H' s' → σ'.length = σ.length → (∀ (j : Nat) v, (wipe σ vs)[j]? = some (some v) → σ'[j]? = some (some v)) → Q H' → S s') → em S s
/-- a clause's reading: W by the turn and a measure -/
def tClause (J : It) (g : TG) (tt : TT) (tem : L2.St → Hp → (Hp → Prop) → Prop) (vs : List Nat) : L2.St → Hp → (Hp → Prop) → Prop := fun σ H Q => ∃ W : Nat → Nat → Hp → Prop, (∃ m, W 0 m H) ∧ ∀ i m H, W i m H →
  (J.stop i H ∧ Q H) ∨ (J.go i H ∧ ∃ N : Hp → Prop, (∀ H', N H' → ∃ m', m' < m ∧ W (i + 1) m' H') ∧ ∀ x H', J.yld i H x H' → g x (wipe σ vs) H' fun σ2 H2 => wipe σ2 vs = wipe σ vs ∧ tt σ2 H2 fun b H3 => if b = true then tem σ2 H3 N else N H3)
/-- .. by an invariant over the turn, n turns -/
theorem clause_by {J : It} {g : TG} {tt : TT} {tem : L2.St → Hp → (Hp → Prop) → Prop} {vs : List Nat} {σ : L2.St} {H : Hp} {Q : Hp → Prop} (n : Nat) (G : Nat → Hp → Prop) (start : G 0 H) (can : ∀ i H, i < n → G i H → J.go i H) (ends : ∀ H, G n H → J.stop n H)
    (turn : ∀ i H x H', i < n → G i H → J.yld i H x H' → g x (wipe σ vs) H' fun σ2 H2 => wipe σ2 vs = wipe σ vs ∧ tt σ2 H2 fun b H3 => if b = true then tem σ2 H3 (G (i + 1)) else G (i + 1) H3) (done : ∀ H, G n H → Q H) : tClause J g tt tem vs σ H Q := by
  refine ⟨fun i m H => i + m = n ∧ G i H, ⟨n, Nat.zero_add n, start⟩, fun i m H ⟨e, q⟩ => ?_⟩
  cases m with
  | zero =>
    obtain rfl : i = n := e
    exact .inl ⟨ends H q, done H q⟩
  | succ m => exact .inr ⟨can i H (by omega) q, G (i + 1), fun H' q' => ⟨m, Nat.lt_succ_self m, by omega, q'⟩, fun x H' y => turn i H x H' (by omega) q y⟩

section
variable {B : Cx}
theorem clause_run (hx : B.xe = Nov) (calm : B.calm = true) {e : Expr} {d : Nat} {acc : Value} {tg : Expr} {ifs : List Expr} {em : (Shared → Prop) → Shared → Prop} (C : Clause B.prog B.w B.A B.env e d acc tg ifs em)
    {J : It} {fp : List Addr} {it : Addr} {tn : Nat → Heap → Prop} (T : Turn B.prog B.w B.K tg J fp it tn) {g : TG} {tt : TT} {tem : L2.St → Hp → (Hp → Prop) → Prop} {vs : List Nat} (pg : PG B tg g) (pt : PTs B ifs tt) (pe : Emit B vs em tem)
    {pins : List (Addr × Obj)} {σ : L2.St} {H : Hp} {s : Shared} {Q : Hp → Prop} {S : Shared → Prop} (I : Inv B pins (wipe σ vs) H s) (st : tn 0 s.heap) (own : ∀ b ∈ fp, FpOk B pins H b) (h : tClause J g tt tem vs σ H Q)
    (fin : ∀ s' H', Inv B pins (wipe σ vs) H' s' → Q H' → S s') : codeAny (model B.prog B.w) B.A (.compLoop e d (.ref it) acc B.env) (fun r s' => r = .ok .next ∧ S s') s := by
  obtain ⟨W, ⟨m0, w0⟩, turn⟩ := h
  have mine : ∀ {H' : Hp}, (∀ b ∈ fp, H' b = none) → ∀ b ∈ fp, FpOk B pins H' b := fun hn b hb => ⟨hn b hb, (own b hb).2⟩
  refine C.rule _ S (fun n s' => ∃ i H', Inv B pins (wipe σ vs) H' s' ∧ tn i s'.heap ∧ (∀ b ∈ fp, H' b = none) ∧ W i n H') (fun n s1 ⟨i, H1, I1, st1, n1, w1⟩ => ?_) m0 s ⟨0, H, I, st, fun b hb => (own b hb).1, w0⟩
  rcases turn i n H1 w1 with ⟨stop, q⟩ | ⟨go, N, more, step⟩
  · refine free_of (E := Nov) rfl (T.done B rfl rfl rfl calm i pins s1 (wipe σ vs) H1 Nov I1 (mine n1) st1 stop) fun r s2 ⟨er, I2⟩ => ?_
    subst er
    exact fin s2 H1 I2 q
  · refine free_of (E := Nov) rfl (T.item B rfl rfl rfl calm i pins s1 (wipe σ vs) H1 Nov I1 (mine n1) st1 go) fun r s2 ⟨u, er, h2⟩ => ?_
    subst er
    refine free_of (E := Nov) rfl h2 fun _ s3 ⟨x, H3, I3, r3, y3, st3, n3⟩ => ?_
    have I3' := I3.pinned (mine n3) (T.obj _ _ st3)
    refine free_of hx (pg.run _ s3 _ H3 x u _ I3' r3 (step x H3 y3)) fun _ s4 ⟨σ4, H4, I4, w4, q4⟩ => ?_
    refine free_of hx (pt.run _ s4 σ4 H4 _ I4 q4) fun b s5 ⟨H5, I5, q5⟩ => ?_
    have len4 : (wipe σ vs).length = σ4.length := by rw [← w4, wipe_length]
    have again_ : ∀ (s' : Shared) (σ' : L2.St) (H' : Hp), Inv B (pins ++ pinsAt fp s3.heap) σ' H' s' → σ'.length = σ4.length → (∀ (j : Nat) v, (wipe σ4 vs)[j]? = some (some v) → σ'[j]? = some (some v)) → N H' →
        ∃ m, m < n ∧ ∃ i H', Inv B pins (wipe σ vs) H' s' ∧ tn i s'.heap ∧ (∀ b ∈ fp, H' b = none) ∧ W i m H' := fun s' σ' H' I' hl hk nx => by
      obtain ⟨m', lt, w'⟩ := more H' nx
      have stay : ∀ b ∈ fp, ∀ o, s3.heap.get? b = some o → s'.heap.get? b = some o ∧ H' b = none := fun b hb o eo => by
        have z := I'.pin (b, o) (List.mem_append_right _ (List.mem_append_right _ (mem_pinsAt hb eo)))
        exact ⟨z.1, z.2.1⟩
      refine ⟨m', lt, i + 1, H', (Inv.unpinned (pins := pins) I').weak (len4.trans hl.symm) fun j v ej => hk j v (by rw [w4]; exact ej), T.keep _ _ _ st3 fun b hb o eo => (stay b hb o eo).1, fun b hb => ?_, w'⟩
      obtain ⟨o, eo, _⟩ := T.obj _ _ st3 b hb
      exact (stay b hb o eo).2
    cases b with
    | false =>
      rw [if_neg Bool.false_ne_true] at q5 ⊢
      exact again_ s5 σ4 H5 I5 rfl (fun j v ej => (wipe_some ej).1) q5
    | true =>
      rw [if_pos rfl] at q5 ⊢
      exact pe _ s5 σ4 H5 N _ I5 q5 again_

/-- the pair's reading: D is the dict that is made -/
def tPairIn (tk tv : TE) (D : Addr) : L2.St → Hp → (Hp → Prop) → Prop := fun σ H Q => tk σ H fun y H1 => tv σ H1 fun z H2 => ∃ kvs k b, y = .ref b ∧ H2 b = some (.tup (k.map kV)) ∧ H2 D = some (.dT kvs) ∧ kvs.length < sizeLine ∧ Q (upd H2 D (.dT (putK kvs k z)))
theorem dictSetT {X : Cx} {pins : List (Addr × Obj)} {σ : L2.St} {H : Hp} {s : Shared} {E : Value → Shared → Prop} {D b : Addr} {kvs : List (List L2.Key × V)} {k : List L2.Key} {z : V} {r : Value} {Q : Unit → Shared → Prop} (hu : X.A.units < cLine) (I : Inv X pins σ H s)
    (hD : H D = some (.dT kvs)) (hb : H b = some (.tup (k.map kV))) (lt : kvs.length < sizeLine) (rz : RelV z r) (h : ∀ s', Inv X pins σ (upd H D (.dT (putK kvs k z))) s' → Q () s') : wpAny (model X.prog X.w) X.A (dictSet D (.ref b) r) Q E s := by
  obtain ⟨_, low, xs, kt, dd⟩ := dt_of I.hok hD
  have len := Paired.length kt
  refine wpAny_dictSet_heap (knd := tupleKind (mixKind X.prog X.w)) (hsz := by omega) hu (key_of I.hok hb) dd fun h' dd' sb => h _ ?_
  have there : ∃ q, h'.get? D = some q := let ⟨q, _, _, hq, _⟩ := dd'; ⟨q, hq⟩
  obtain ⟨q, es, ep, g1, g2, g3, g4, _, g5⟩ := dd'
  have len' := length_putK kvs k z
  refine d_write I (by rw [hD]; exact True.intro) sb there ⟨by omega, low, _, KT.keeps (kt.put k hb rz) fun c ys ec => ?_, q, es, ep, g1, g2, g3, g4, g5⟩
  rw [upd_ne (ne_of ec hD fun e => nomatch e)]
  exact ec
theorem emit_pair (hx : B.xe = Nov) (hu : B.A.units < cLine) {kx vx : Expr} {tk tv : TE} {vs : List Nat} {D : Addr} (hk : PE B kx tk) (hv : PE B vx tv) : Emit B vs (emPair B.prog B.w B.A B.env kx vx D) (tPairIn tk tv D) := by
  intro pins s σ H Q S I h go
  refine free_of hx (hk.run pins s σ H _ I h) fun u s1 ⟨y, H1, I1, r1, q1⟩ => ?_
  refine free_of hx (hv.run pins s1 σ H1 _ I1 q1) fun r s2 ⟨z, H2, I2, r2, kvs, k, b, ey, hb, hD, lt, q2⟩ => ?_
  subst ey
  obtain rfl : u = Value.ref b := r1
  exact dictSetT hu I2 hD hb lt r2 fun s3 I3 => go s3 σ _ I3 rfl (fun j v ej => (wipe_some ej).1) q2
/-- the next clause's reading -/
def tNextIn (wi : TI) (g : TG) (tt : TT) (tem : L2.St → Hp → (Hp → Prop) → Prop) (vs : List Nat) : L2.St → Hp → (Hp → Prop) → Prop := fun σ H Q => wi σ H fun J H1 => tClause J g tt tem vs σ H1 Q
theorem emit_next (hx : B.xe = Nov) (calm : B.calm = true) {kx vx t0 i0 t1 i1 : Expr} {ifs0 ifs1 : List Expr} {scope : Scope} {pos : Pos} {acc : Value} {em : (Shared → Prop) → Shared → Prop}
    (C : Clause B.prog B.w B.A B.env (.DictComp kx vx [⟨t0, i0, ifs0, 0⟩, ⟨t1, i1, ifs1, 0⟩] scope pos) 1 acc t1 ifs1 em) {wi : TI} {g : TG} {tt : TT} {tem : L2.St → Hp → (Hp → Prop) → Prop} {vs vs1 : List Nat} (sub : ∀ j ∈ vs1, j ∈ vs)
    (pi : PI B t1 i1 wi) (pg : PG B t1 g) (pt : PTs B ifs1 tt) (pe : Emit B vs1 em tem) :
    Emit B vs (emNext B.prog B.w B.A B.env (.DictComp kx vx [⟨t0, i0, ifs0, 0⟩, ⟨t1, i1, ifs1, 0⟩] scope pos) i1 acc) (tNextIn wi g tt tem vs1) := by
  intro pins s σ H Q S I h go
  refine free_of hx (pi.run pins s σ H _ I h) fun xv s1 h1 => free_of hx h1 fun itv s2 h2 => ?_
  obtain ⟨it, fp, tn, J, H2, ei, I2, T, st2, own, q2⟩ := h2
  subst ei
  refine start2 (clause_run hx calm C T pg pt pe (I2.weak (wipe_length _ _) fun j v ej => (wipe_some ej).1) st2 own q2 fun s' H' I' q => go s' _ H' I' (wipe_length _ _) (fun j v ej => ?_) q) fun Q' hq => T.self B.A 0 s2 Q' Nov st2 hq
  obtain ⟨e1, e2⟩ := wipe_some ej
  rw [wipe_out fun z => e2 (sub j z)]
  exact e1
end

/-! ### the whole comprehension -/
section
variable {X : Cx}
def tDictT (wi : TI) (g : TG) (tt : TT) (tem : Addr → L2.St → Hp → (Hp → Prop) → Prop) (vs : List Nat) : TE := fun σ H Q => wi σ H fun J H1 => ∀ D, H1 D = none → tClause J g tt (tem D) vs σ (upd H1 D (.dT [])) fun H' => Q (.ref D) H'
/-- the block's frame -/
abbrev blkEnv (X : Cx) (scope : Scope) (C : Addr) : Env := compEnvC scope (cellsFrom (C + 1) scope.names (cloFrom X.env.cells scope.names [])) C X.env
theorem dictT_core {kx vx tg iter : Expr} {ifs : List Expr} {gs : List Comprehension} {scope : Scope} {own : List (Str × Nat)} {pos pos' : Pos} {wi : TI} {g : TG} {tt : TT} {tem : Addr → L2.St → Hp → (Hp → Prop) → Prop} {em : Addr → Env → (Shared → Prop) → Shared → Prop}
    {pins : List (Addr × Obj)} {s : Shared} {σ : L2.St} {H : Hp} {Q : VK} {use : Option (Value → Sem Unit)} {Qf : Value → Shared → Prop} (I : Inv X pins σ H s)
    (calm : X.calm = true) (nd : X.N.Nodup) (hi : PI X tg iter wi) (ok : BlkOk X.N X.env.scope scope own)
    (hg : ∀ (s : Shared) (H : Hp) (C : Addr) (fp : List Addr), PG (X.blk s H scope (blkEnv X scope C) fp) tg g)
    (ht : ∀ (s : Shared) (H : Hp) (C : Addr) (fp : List Addr), PTs (X.blk s H scope (blkEnv X scope C) fp) ifs tt)
    (hc : ∀ (C D : Addr), Clause X.prog X.w X.A (blkEnv X scope C) (.DictComp kx vx (⟨tg, iter, ifs, 0⟩ :: gs) scope pos) 0 (.ref D) tg ifs (em D (blkEnv X scope C)))
    (he : ∀ (s : Shared) (H : Hp) (C : Addr) (fp : List Addr) (D : Addr), Emit (X.blk s H scope (blkEnv X scope C) fp) (own.map (·.2)) (em D (blkEnv X scope C)) (tem D))
    (plain : ∀ x, foldedSetIterable iter X.env x = pure x) (h : tDictT wi g tt tem (own.map (·.2)) σ H Q)
    (out : ∀ D C s' m H', Inv X pins σ H' s' → Q (.ref D) H' → s'.heap.Ns C m → FpOk X pins H' C → compPost (model X.prog X.w) X.A X.xe use Qf (.ref D) C (.ok .next) s') :
    wpAny (model X.prog X.w) X.A (comprehension (.DictComp kx vx (⟨tg, iter, ifs, 0⟩ :: gs) scope pos) scope X.env pos' newDict false (eval iter X.env) use) Qf X.xe s := by
  have closed : ∀ y ∈ scope.names, y.2 = .free → ∃ c, X.env.cells.lookup y.1 = some c := fun y hy e => I.ok.has _ (ok.free y hy e)
  refine wpAny_comprehension_free (use := use) rfl plain (closure_ok closed) ok.kind (fun y hy e => by rw [ok.uniq y hy, e]) (thn (hi.run pins s σ H _ I h) fun xv s1 h1 => thn h1 fun itv s2 h2 => ?_)
  obtain ⟨it, fp, tn, J, H2, ei, I2, T, st2, f2, q2⟩ := h2
  subst ei
  refine wpAny_newObj_type (newEnv_comp ?_)
  -- the new dict, and the block's frame behind it
  have fresh := I2.hok.fresh (Nat.le_refl s2.heap.objs.size)
  have I3 := I2.laid (a := s2.heap.objs.size) (o := .dT []) (h' := s2.heap.push { cls := .type "dict", data := .dict #[] }) (t' := s2.toks) (fun _ _ z => Heap.get?_push_of_some _ z) (Nat.le_refl _) (dt_empty s2.heap I2.big)
  have young : ∀ b ∈ fp, b < s2.heap.objs.size := fun b hb => by
    obtain ⟨o, e, _⟩ := T.obj _ _ st2 b hb
    exact Heap.lt_size e
  have f3 : ∀ b ∈ fp, FpOk X pins (upd H2 s2.heap.objs.size (.dT [])) b ∧ b < (s2.heap.push { cls := .type "dict", data := .dict #[] }).objs.size := fun b hb => by
    refine ⟨⟨?_, (f2 b hb).2⟩, ?_⟩
    · rw [upd_ne (Nat.ne_of_lt (young b hb))]
      exact (f2 b hb).1
    · rw [Heap.size_push]
      exact Nat.lt_succ_of_lt (young b hb)
  have I4 := block_start I3 ok nd f3
  have st4 : tn 0 (pushCells ((s2.heap.push { cls := .type "dict", data := .dict #[] }).push { cls := .type "dict", data := .dict #[] }) scope.names) :=
    T.keep _ _ _ st2 fun b _ o e => pushCells_keeps _ _ _ _ (Heap.get?_push_of_some _ (Heap.get?_push_of_some _ e))
  have q4 := q2 s2.heap.objs.size fresh
  have loop := clause_run (B := X.blk { s2 with heap := s2.heap.push { cls := .type "dict", data := .dict #[] } } (upd H2 s2.heap.objs.size (.dT [])) scope (blkEnv X scope (s2.heap.push { cls := .type "dict", data := .dict #[] }).objs.size) fp) rfl calm
    (hc _ s2.heap.objs.size) T (hg _ _ _ _) (ht _ _ _ _) (he _ _ _ _ _) I4 st4 (fun b hb => ⟨(f3 b hb).1.1, (I4.ok.exf b hb).1, I4.ok.exfs b hb, .inl hb, fun x c e => (I4.ok.exf b hb).2 x c e, fun p hp => nomatch hp⟩) q4
    (S := fun s' => compPost (model X.prog X.w) X.A X.xe use Qf (.ref s2.heap.objs.size) (s2.heap.push { cls := .type "dict", data := .dict #[] }).objs.size (.ok .next) s') fun s' H' I' q => ?_
  · refine codeAny_compStart_dict (codeAny_mono loop fun r s' ⟨er, q⟩ => ?_) (T.self X.A 0 _ _ _ st4 (codeAny_mono loop fun r s' ⟨er, q⟩ => ?_))
    · subst er
      exact q
    · subst er
      exact q
  · have back : Inv X pins σ H' s' := I3.call' (ch := fp) I'.os I'.base I'.hok I'.bare fun b hb => ⟨(f3 b hb).1.2.2.2.1, (f3 b hb).1.2.1, (f3 b hb).1.2.2.2.2.1, (f3 b hb).1.2.2.2.2.2⟩
    have gone : H' (s2.heap.push { cls := .type "dict", data := .dict #[] }).objs.size = none := I'.free
    obtain ⟨m, hn, _⟩ := I'.loc
    exact out _ _ s' m H' back q hn (I3.fpOk (Nat.le_refl _) gone)
theorem pe_dictT {kx vx tg iter : Expr} {ifs : List Expr} {gs : List Comprehension} {scope : Scope} {own : List (Str × Nat)} {pos : Pos} {wi : TI} {g : TG} {tt : TT} {tem : Addr → L2.St → Hp → (Hp → Prop) → Prop} {em : Addr → Env → (Shared → Prop) → Shared → Prop}
    (calm : X.calm = true) (nd : X.N.Nodup) (hi : PI X tg iter wi) (ok : BlkOk X.N X.env.scope scope own)
    (hg : ∀ (s : Shared) (H : Hp) (C : Addr) (fp : List Addr), PG (X.blk s H scope (blkEnv X scope C) fp) tg g)
    (ht : ∀ (s : Shared) (H : Hp) (C : Addr) (fp : List Addr), PTs (X.blk s H scope (blkEnv X scope C) fp) ifs tt)
    (hc : ∀ (C D : Addr), Clause X.prog X.w X.A (blkEnv X scope C) (.DictComp kx vx (⟨tg, iter, ifs, 0⟩ :: gs) scope pos) 0 (.ref D) tg ifs (em D (blkEnv X scope C)))
    (he : ∀ (s : Shared) (H : Hp) (C : Addr) (fp : List Addr) (D : Addr), Emit (X.blk s H scope (blkEnv X scope C) fp) (own.map (·.2)) (em D (blkEnv X scope C)) (tem D))
    (plain : ∀ x, foldedSetIterable iter X.env x = pure x := by intro _; rfl) :
    PE X (.DictComp kx vx (⟨tg, iter, ifs, 0⟩ :: gs) scope pos) (tDictT wi g tt tem (own.map (·.2))) := by
  refine ⟨fun pins s σ H Q I h => ?_⟩
  rw [arm_eval_DictComp]
  refine dictT_core (use := none) I calm nd hi ok hg ht hc he plain h fun D C s' m H' back q hn f => ⟨m, hn, fun h'' sb => ?_⟩
  obtain ⟨g0, g1, g2, g3, g4, g5⟩ := f
  exact ⟨.ref D, H', back.turned (t' := s'.toks) (fun b o hb e => (sb.2 b hb).trans e) g0 g1 g3 g4 g5, rfl, q⟩
/-- name = {..} on one line, the name a local -/
theorem ps_setDictT {i : Nat} {y : Str} {py spos : Pos} {kx vx tg iter : Expr} {ifs : List Expr} {gs : List Comprehension} {scope : Scope} {own : List (Str × Nat)} {pos : Pos} {wi : TI} {g : TG} {tt : TT} {tem : Addr → L2.St → Hp → (Hp → Prop) → Prop} {em : Addr → Env → (Shared → Prop) → Shared → Prop}
    (calm : X.calm = true) (nd : X.N.Nodup) (hy : X.N[i]? = some y) (hyl : X.env.scope.names.lookup y = some .local) (hfun : X.env.scope.kind = .function) (line : (py.line == pos.line) = true)
    (notIn : (scope.names.any fun (n, k) => n == y && (k == .local || k == .cell)) = false) (hi : PI X tg iter wi) (ok : BlkOk X.N X.env.scope scope own)
    (hg : ∀ (s : Shared) (H : Hp) (C : Addr) (fp : List Addr), PG (X.blk s H scope (blkEnv X scope C) fp) tg g)
    (ht : ∀ (s : Shared) (H : Hp) (C : Addr) (fp : List Addr), PTs (X.blk s H scope (blkEnv X scope C) fp) ifs tt)
    (hc : ∀ (C D : Addr), Clause X.prog X.w X.A (blkEnv X scope C) (.DictComp kx vx (⟨tg, iter, ifs, 0⟩ :: gs) scope pos) 0 (.ref D) tg ifs (em D (blkEnv X scope C)))
    (he : ∀ (s : Shared) (H : Hp) (C : Addr) (fp : List Addr) (D : Addr), Emit (X.blk s H scope (blkEnv X scope C) fp) (own.map (·.2)) (em D (blkEnv X scope C)) (tem D))
    (plain : ∀ x, foldedSetIterable iter X.env x = pure x := by intro _; rfl) :
    PS X (.Assign [.Name y py] (.DictComp kx vx (⟨tg, iter, ifs, 0⟩ :: gs) scope pos) spos) (tAsg (tDictT wi g tt tem (own.map (·.2))) (gName i)) := by
  have swap : swapsWith (.DictComp kx vx (⟨tg, iter, ifs, 0⟩ :: gs) scope pos) (some (.Name y py)) spos.line X.env = pure true := by
    have e1 : X.env.blockKind = .function := by
      unfold Env.blockKind
      rw [hfun]
      rfl
    have e2 : X.env.kindOf y = some .local := hyl
    unfold swapsWith
    simp only [e1, e2, notIn, Expr.pos, line]
    rfl
  refine ⟨fun pins s σ H D I h => ?_⟩
  rw [exec_Assign_Name_used _ _ _ _ swap]
  refine wpAny_bind (wpAny_standAt (wpAny_bind (thn (Q := fun _ s' => SP X pins D .next s') ?_ fun _ s' hq => wpAny_pure hq)))
  show wpAny _ X.A (do let _ ← comprehension (.DictComp kx vx (⟨tg, iter, ifs, 0⟩ :: gs) scope pos) scope X.env (firstIterPos (⟨tg, iter, ifs, 0⟩ :: gs) pos) newDict false (eval iter X.env) (some (assign (.Name y py) X.env))) _ _ s
  refine wpAny_bind (thn (Q := fun _ s' => SP X pins D .next s') (dictT_core (Q := fun x H1 => gName i x σ H1 D.nx) I calm nd hi ok hg ht hc he plain h fun L C s' m H' back q hn f => ?_) fun _ s' hq => wpAny_pure hq)
  obtain ⟨g0, g1, g2, g3, g4, g5⟩ := f
  refine wpAny_assign_Name (store_ok2 (v := V.ref L) back nd hy (.inl hyl) rfl (fun s2 I2 ⟨a, sb, ha⟩ => ?_) (.inr hyl))
  have apart : C ≠ a := fun e => by
    rcases ha with z | z
    · exact g1 (e.trans z)
    · exact g4 y a z e.symm
  exact ⟨m, hn.sameBut sb apart, fun h3 sb3 => ⟨_, H', I2.turned (t' := s2.toks) (fun b o hb e => (sb3.2 b hb).trans e) g0 g1 g3 g4 g5, q⟩⟩

/-- {k: v for target in source if ..}, the keys tuples -/
theorem pe_dict1T {kx vx tg iter : Expr} {ifs : List Expr} {scope : Scope} {own : List (Str × Nat)} {pos : Pos} {wi : TI} {g : TG} {tt : TT} {tk tv : TE} (calm : X.calm = true) (hu : X.A.units < cLine) (nd : X.N.Nodup) (hi : PI X tg iter wi) (ok : BlkOk X.N X.env.scope scope own)
    (hg : ∀ (s : Shared) (H : Hp) (C : Addr) (fp : List Addr), PG (X.blk s H scope (blkEnv X scope C) fp) tg g) (ht : ∀ (s : Shared) (H : Hp) (C : Addr) (fp : List Addr), PTs (X.blk s H scope (blkEnv X scope C) fp) ifs tt)
    (hk : ∀ (s : Shared) (H : Hp) (C : Addr) (fp : List Addr), PE (X.blk s H scope (blkEnv X scope C) fp) kx tk) (hv : ∀ (s : Shared) (H : Hp) (C : Addr) (fp : List Addr), PE (X.blk s H scope (blkEnv X scope C) fp) vx tv)
    (plain : ∀ x, foldedSetIterable iter X.env x = pure x := by intro _; rfl) :
    PE X (.DictComp kx vx [⟨tg, iter, ifs, 0⟩] scope pos) (tDictT wi g tt (fun D => tPairIn tk tv D) (own.map (·.2))) :=
  pe_dictT (em := fun D env => emPair X.prog X.w X.A env kx vx D) calm nd hi ok hg ht (fun C D => clauseLast1) (fun s H C fp D => emit_pair (B := X.blk s H scope (blkEnv X scope C) fp) rfl hu (hk s H C fp) (hv s H C fp)) plain
/-- {k: v for target in source if .. for target1 in source1 if ..} -/
theorem pe_dict2T {kx vx tg iter tg1 iter1 : Expr} {ifs ifs1 : List Expr} {scope : Scope} {own : List (Str × Nat)} {vs1 : List Nat} {pos : Pos} {wi wi1 : TI} {g g1 : TG} {tt tt1 : TT} {tk tv : TE} (calm : X.calm = true) (hu : X.A.units < cLine) (nd : X.N.Nodup) (hi : PI X tg iter wi)
    (ok : BlkOk X.N X.env.scope scope own) (sub : ∀ j ∈ vs1, j ∈ own.map (·.2))
    (hg : ∀ (s : Shared) (H : Hp) (C : Addr) (fp : List Addr), PG (X.blk s H scope (blkEnv X scope C) fp) tg g) (ht : ∀ (s : Shared) (H : Hp) (C : Addr) (fp : List Addr), PTs (X.blk s H scope (blkEnv X scope C) fp) ifs tt)
    (hi1 : ∀ (s : Shared) (H : Hp) (C : Addr) (fp : List Addr), PI (X.blk s H scope (blkEnv X scope C) fp) tg1 iter1 wi1)
    (hg1 : ∀ (s : Shared) (H : Hp) (C : Addr) (fp : List Addr), PG (X.blk s H scope (blkEnv X scope C) fp) tg1 g1) (ht1 : ∀ (s : Shared) (H : Hp) (C : Addr) (fp : List Addr), PTs (X.blk s H scope (blkEnv X scope C) fp) ifs1 tt1)
    (hk : ∀ (s : Shared) (H : Hp) (C : Addr) (fp : List Addr), PE (X.blk s H scope (blkEnv X scope C) fp) kx tk) (hv : ∀ (s : Shared) (H : Hp) (C : Addr) (fp : List Addr), PE (X.blk s H scope (blkEnv X scope C) fp) vx tv)
    (plain : ∀ x, foldedSetIterable iter X.env x = pure x := by intro _; rfl) (plain1 : ∀ env x, foldedSetIterable iter1 env x = pure x := by intro _ _; rfl) :
    PE X (.DictComp kx vx [⟨tg, iter, ifs, 0⟩, ⟨tg1, iter1, ifs1, 0⟩] scope pos) (tDictT wi g tt (fun D => tNextIn wi1 g1 tt1 (tPairIn tk tv D) vs1) (own.map (·.2))) :=
  pe_dictT (em := fun D env => emNext X.prog X.w X.A env (.DictComp kx vx [⟨tg, iter, ifs, 0⟩, ⟨tg1, iter1, ifs1, 0⟩] scope pos) iter1 (.ref D)) calm nd hi ok hg ht (fun C D => clauseFirst2 (plain1 _))
    (fun s H C fp D => emit_next (B := X.blk s H scope (blkEnv X scope C) fp) rfl calm clauseLast2 sub (hi1 s H C fp) (hg1 s H C fp) (ht1 s H C fp) (emit_pair (B := X.blk s H scope (blkEnv X scope C) fp) rfl hu (hk s H C fp) (hv s H C fp))) plain
/-- name = {k: v for target in source if ..} -/
theorem ps_dict1T {i : Nat} {y : Str} {py spos : Pos} {kx vx tg iter : Expr} {ifs : List Expr} {scope : Scope} {own : List (Str × Nat)} {pos : Pos} {wi : TI} {g : TG} {tt : TT} {tk tv : TE} (calm : X.calm = true) (hu : X.A.units < cLine) (nd : X.N.Nodup) (hy : X.N[i]? = some y)
    (hyl : X.env.scope.names.lookup y = some .local) (hfun : X.env.scope.kind = .function) (line : (py.line == pos.line) = true) (notIn : (scope.names.any fun (n, k) => n == y && (k == .local || k == .cell)) = false) (hi : PI X tg iter wi) (ok : BlkOk X.N X.env.scope scope own)
    (hg : ∀ (s : Shared) (H : Hp) (C : Addr) (fp : List Addr), PG (X.blk s H scope (blkEnv X scope C) fp) tg g) (ht : ∀ (s : Shared) (H : Hp) (C : Addr) (fp : List Addr), PTs (X.blk s H scope (blkEnv X scope C) fp) ifs tt)
    (hk : ∀ (s : Shared) (H : Hp) (C : Addr) (fp : List Addr), PE (X.blk s H scope (blkEnv X scope C) fp) kx tk) (hv : ∀ (s : Shared) (H : Hp) (C : Addr) (fp : List Addr), PE (X.blk s H scope (blkEnv X scope C) fp) vx tv)
    (plain : ∀ x, foldedSetIterable iter X.env x = pure x := by intro _; rfl) :
    PS X (.Assign [.Name y py] (.DictComp kx vx [⟨tg, iter, ifs, 0⟩] scope pos) spos) (tAsg (tDictT wi g tt (fun D => tPairIn tk tv D) (own.map (·.2))) (gName i)) :=
  ps_setDictT (em := fun D env => emPair X.prog X.w X.A env kx vx D) calm nd hy hyl hfun line notIn hi ok hg ht (fun C D => clauseLast1) (fun s H C fp D => emit_pair (B := X.blk s H scope (blkEnv X scope C) fp) rfl hu (hk s H C fp) (hv s H C fp)) plain
end
end WR

set_option Elab.async false
set_option linter.all false
set_option maxRecDepth 100000
set_option maxHeartbeats 4000000
/-! The defs of sizes and best_plucks. -/
namespace WR
open PySem PySem.Spec PyProof.Rows L2

/-! ### the text -/
def topS (i : Nat) : Stmt := PySem.Challenge.pw_barebough_k44_whole_raids.main.body.getD i (.Pass ⟨0, 0, 0, 0⟩)
abbrev sNormal : Stmt := topS 1
abbrev sTake : Stmt := topS 2
abbrev sLarge : Stmt := topS 3
abbrev sSmall : Stmt := topS 4
abbrev sBest : Stmt := topS 6
theorem scNormal : FnScope ["values", "value"] ["values"] (defScope sNormal) := ⟨rfl, rfl, rfl, by decide +kernel, rfl, by decide +kernel, by decide +kernel⟩
theorem scTake : FnScope ["sizes", "place", "lowered"] ["sizes", "place"] (defScope sTake) := ⟨rfl, rfl, rfl, by decide +kernel, rfl, by decide +kernel, by decide +kernel⟩
theorem scLarge : FnScope ["sizes"] ["sizes"] (defScope sLarge) := ⟨rfl, rfl, rfl, by decide +kernel, rfl, by decide +kernel, by decide +kernel⟩
theorem scSmall : FnScope ["sizes"] ["sizes"] (defScope sSmall) := ⟨rfl, rfl, rfl, by decide +kernel, rfl, by decide +kernel, by decide +kernel⟩
theorem scBest : FnScope ["word", "after_keeper"] ["word"] (defScope sBest) := ⟨rfl, rfl, rfl, by decide +kernel, rfl, by decide +kernel, by decide +kernel⟩

/-! ### heaps, values -/
theorem same_new {H : Hp} {p : Addr} {o : HO} (h : H p = none) : Same H (upd H p o) := fun b x e => by
  rw [upd_ne (ne_of_none e h)]
  exact e
theorem same_keep {H H' : Hp} {p : Addr} {o : HO} (s : Same H H') (h : H p = none) : Same H (upd H' p o) := fun b x e => by
  rw [upd_ne (ne_of_none e h)]
  exact s b x e
theorem Same.tupS {K : PySem.W.Frag} {H H' : Hp} {a : Addr} {xs : List V} (e : Same H H') (h : SqT K H a xs) : SqT K H' a xs := by
  rcases h with (h | ⟨o, h⟩) | h
  · exact .inl (.inl (e _ _ h))
  · exact .inl (.inr ⟨o, e _ _ h⟩)
  · exact .inr h
/-- whole numbers of the text -/
def vi (w : List Nat) : List Int := w.map fun (n : Nat) => (n : Int)
abbrev vN (w : List Nat) : List V := (vi w).map V.int
theorem vi_length (w : List Nat) : (vi w).length = w.length := List.length_map _
theorem vN_length (w : List Nat) : (vN w).length = w.length := by
  rw [List.length_map, vi_length]
theorem vN_get {w : List Nat} {i n : Nat} (h : w[i]? = some n) : (vN w)[i]? = some (.int n) := by
  show ((w.map fun (n : Nat) => (n : Int)).map V.int)[i]? = _
  rw [List.getElem?_map, List.getElem?_map, h]
  rfl
theorem small {n : Nat} (h : n ≤ 1000) : n ≤ sizeLine := Nat.le_of_lt (small1000 h)

/-! ### what a size list becomes -/
theorem desc_unique {a b : List Int} (p : a.Perm b) (ha : a.Pairwise (· ≥ ·)) (hb : b.Pairwise (· ≥ ·)) : a = b :=
  p.eq_of_pairwise (fun x y _ _ h1 h2 => Int.le_antisymm h2 h1) ha hb
theorem vi_desc {w : List Nat} (h : Ok w) : (vi w).Pairwise (· ≥ ·) := by
  refine List.pairwise_map.mpr (h.1.imp fun {a b} e => ?_)
  show (b : Int) ≤ (a : Int)
  omega
abbrev nz (x : Int) : Bool := decide (x ≠ 0)
theorem nz_all : ∀ {w : List Nat}, (∀ x ∈ w, 1 ≤ x) → (vi w).filter nz = vi w
  | [], _ => rfl
  | a :: r, h => by
    have ha := h a List.mem_cons_self
    have ih := nz_all (w := r) fun x hx => h x (List.mem_cons_of_mem _ hx)
    show ((a : Int) :: vi r).filter nz = (a : Int) :: vi r
    rw [List.filter_cons_of_pos (by simp only [nz, decide_eq_true_eq]; omega), ih]
theorem kee_perm : ∀ {a : Nat} {r : List Nat}, Ok (a :: r) → (vi (kee (a :: r))).Perm ((((a : Int) - 1) :: vi r).filter nz)
  | a, [], h => by
    have h1 := (ok_cons.mp h).1
    by_cases e : a = 1
    · subst e
      exact .nil
    · have e1 : kee [a] = [a - 1] := by
        rw [kee]
        exact if_neg (by omega)
      have e2 : ((a - 1 : Nat) : Int) = (a : Int) - 1 := by omega
      rw [e1, List.filter_cons_of_pos (by simp only [nz, decide_eq_true_eq]; omega)]
      show List.Perm [((a - 1 : Nat) : Int)] _
      rw [e2]
      exact .refl _
  | a, b :: s, h => by
    obtain ⟨h1, h2, h3⟩ := ok_cons.mp h
    have hb := h2 b List.mem_cons_self
    have hb1 := (ok_cons.mp h3).1
    rw [kee_two]
    by_cases e : b = a
    · subst e
      rw [if_pos rfl]
      have ih := kee_perm h3
      have e1 : (((b : Int) - 1) :: vi (b :: s)).filter nz = (((b : Int) - 1) :: (b : Int) :: vi s).filter nz := rfl
      have e2 : vi (b :: kee (b :: s)) = (b : Int) :: vi (kee (b :: s)) := rfl
      rw [e1, e2]
      refine (List.Perm.cons (b : Int) ih).trans ?_
      have e3 : ((b : Int) :: (((b : Int) - 1) :: vi s).filter nz) = ((b : Int) :: ((b : Int) - 1) :: vi s).filter nz := by
        rw [List.filter_cons_of_pos (a := (b : Int)) (by simp only [nz, decide_eq_true_eq]; omega)]
      rw [e3]
      exact (List.Perm.swap _ _ _).filter _
    · rw [if_neg e]
      have e2 : ((a - 1 : Nat) : Int) = (a : Int) - 1 := by omega
      have e3 : vi ((a - 1) :: b :: s) = ((a : Int) - 1) :: vi (b :: s) := by
        show ((a - 1 : Nat) : Int) :: vi (b :: s) = _
        rw [e2]
      rw [e3, List.filter_cons_of_pos (by simp only [nz, decide_eq_true_eq]; omega), nz_all fun x hx => (h.2 x (List.mem_cons_of_mem _ hx))]
theorem rai_eq : ∀ {w : List Nat} {x : Nat}, Ok w → w[w.length - 1]? = some x → vi (rai w) = ((vi w).set (w.length - 1) ((x : Int) - 1)).filter nz
  | [], _, _, h => by simp at h
  | [a], x, h, hx => by
    have e : a = x := by simpa using hx
    subst e
    have h1 := (ok_cons.mp h).1
    show vi (rai [a]) = [(a : Int) - 1].filter nz
    by_cases e : a = 1
    · subst e
      rfl
    · have e1 : rai [a] = [a - 1] := by
        rw [rai]
        exact if_neg (by omega)
      have e2 : ((a - 1 : Nat) : Int) = (a : Int) - 1 := by omega
      rw [e1, List.filter_cons_of_pos (by simp only [nz, decide_eq_true_eq]; omega)]
      show [((a - 1 : Nat) : Int)] = _
      rw [e2]
      rfl
  | a :: b :: s, x, h, hx => by
    obtain ⟨h1, _, h3⟩ := ok_cons.mp h
    have hl : (a :: b :: s).length - 1 = ((b :: s).length - 1) + 1 := by simp
    rw [hl] at hx ⊢
    have ih := rai_eq h3 (by simpa using hx)
    show (a : Int) :: vi (rai (b :: s)) = ((a : Int) :: (vi (b :: s)).set ((b :: s).length - 1) ((x : Int) - 1)).filter nz
    rw [List.filter_cons_of_pos (by simp only [nz, decide_eq_true_eq]; omega), ih]

section
variable {P : Program} {w : World} {K : PySem.W.Frag} {mg : Str → Option Value} {base : Heap}

/-! ### normal -/
def spNormal (K : PySem.W.Frag) : Sp := fun vs H Q _ => ∃ (a : Addr) (xs : List Int), vs = [.ref a] ∧ SqL K H a (xs.map V.int) ∧ xs.length ≤ 1000 ∧
  ∀ (H' : Hp) (p : Addr) (ns : List Int), Same H H' → H p = none → ns.Perm (xs.filter nz) → ns.Pairwise (· ≥ ·) → H' p = some (.lst (ns.map V.int)) → Q (.ref p) H'
theorem ok_normal {f : Addr} {fd : FuncData} {k : Nat} (F : Fun K "normal" "normal" sNormal f fd) (ms : mg "sorted" = none) : FnOk P w K mg base CX0 (k + 1) f fd ["values"] (spNormal K) := by
  refine F.ok scNormal (fun vs H Q E h => ?_) (fun cdv A outer s H vs Q E hr h => ?_)
  · obtain ⟨a, xs, rfl, _⟩ := h
    rfl
  · obtain ⟨a, xs, rfl, hS, hlen, q⟩ := h
    refine ⟨_, pss_one (ps_ret (pe_callBK (cr_sortedRev (b := true)) (by rfl) ms (by decide +kernel)
      (pa_cons (pe_lc (own := [("value", 1)]) (g := gName 1) (by rfl) scNormal.nd (pi_list (pv 0)) (blkOk_by (own := [("value", 1)]) (N := ["values", "value"]) (sc := defScope sNormal) (by decide +kernel))
        (fun _ _ _ _ _ => pg_name (i := 1) scNormal.nd rfl (Or.inl rfl)) (fun _ _ _ _ _ => pts_one (pt_cmpR op_ne (pv 1) pe_int (nomark _))) (fun _ _ _ _ _ => pv 1)) pa_nil)
      (pk_cons pe_bl pk_nil))), ?_⟩
    refine ⟨.ref a, rfl, a, rfl, ⟨_, hS⟩, fun D hD => lc_list (K := K) (a := a) (xs := xs.map V.int) (fun i H3 => H3 = upd H D (.lst (((xs.take i).filter nz).map V.int))) rfl ?_ ?_ ?_⟩
    · rintro i H3 _ rfl
      exact (same_new hD).seq hS
    · rintro i x H3 hx rfl
      rw [List.getElem?_map] at hx
      obtain ⟨n, hn, rfl⟩ := Option.map_eq_some_iff.mp hx
      refine ⟨rfl, .int n, rfl, rfl, _, rfl, ?_⟩
      have tk : xs.take (i + 1) = xs.take i ++ [n] := by
        rw [List.take_add_one, hn]
        rfl
      by_cases h0 : n = 0
      · subst h0
        show upd H D _ = upd H D _
        rw [tk, List.filter_append]
        simp
      · have e1 : (!decide (V.int n = V.int 0)) = true := by
          simp [h0]
        rw [e1]
        refine ⟨.int n, rfl, _, upd_same, ?_, ?_⟩
        · rw [List.length_map]
          refine small1000 (Nat.le_trans (List.length_filter_le _ _) ?_)
          rw [List.length_take]
          omega
        · rw [upd_upd, tk, List.filter_append, List.filter_cons_of_pos (by simp [h0])]
          simp
    · rintro H3 rfl
      rw [List.length_map, List.take_length]
      refine ⟨D, xs.filter nz, rfl, rfl, .inl (.inl upd_same), fun ns p hp hs hn => q _ p ns (same_keep (same_new hD) ((same_new hD).free hn)) ((same_new hD).free hn) hp ?_ upd_same⟩
      exact hs

/-! ### take -/
def spTake (K : PySem.W.Frag) : Sp := fun vs H Q _ => ∃ (a : Addr) (xs : List Int) (j : Nat) (x : Int), vs = [.ref a, .int j] ∧ SqL K H a (xs.map V.int) ∧ xs.length ≤ 1000 ∧ xs[j]? = some x ∧
  ∀ (H' : Hp) (p : Addr) (ns : List Int), Same H H' → H p = none → ns.Perm ((xs.set j (x - 1)).filter nz) → ns.Pairwise (· ≥ ·) → H' p = some (.lst (ns.map V.int)) → Q (.ref p) H'
theorem ok_take {f fN : Addr} {fd fdN : FuncData} {k : Nat} (F : Fun K "take" "take" sTake f fd) (FN : Fun K "normal" "normal" sNormal fN fdN) (bN : Binds K fdN ["values"] []) (gN : mg "normal" = some (.ref fN)) (ml : mg "list" = none) (ms : mg "sorted" = none) :
    FnOk P w K mg base CX0 (k + 2) f fd ["sizes", "place"] (spTake K) := by
  have GN : FnOk P w K mg base CX0 (k + 1) fN fdN ["values"] (spNormal K) := ok_normal FN ms
  refine F.ok scTake (fun vs H Q E h => ?_) (fun cdv A outer s H vs Q E hr h => ?_)
  · obtain ⟨a, xs, j, x, rfl, _⟩ := h
    rfl
  · obtain ⟨a, xs, j, x, rfl, hS, hlen, hx, q⟩ := h
    refine ⟨_, pss_cons (ps_set (i := 2) scTake.nd rfl (.inl rfl) (pe_callTy call_list_of (by rfl) ml (by decide +kernel) (pa_cons (pv 0) pa_nil)))
      (pss_cons (ps_augS (pv 2) (pv 1) get_list pe_int ip_sub set_list)
      (pss_one (ps_ret (pe_call GN hr (by rfl) gN FN.kp bN .nil pass0 (pa_cons (pv 2) pa_nil))))), ?_⟩
    have hj : j < xs.length := (List.getElem?_eq_some_iff.mp hx).1
    have gx : (xs.map V.int)[j]? = some (.int x) := by
      rw [List.getElem?_map, hx]
      rfl
    refine ⟨.ref a, rfl, a, _, rfl, .inl hS, fun l hl => ?_⟩
    refine ⟨.ref l, rfl, .int j, rfl, l, _, j, .int x, rfl, rfl, .inl (.inl upd_same), atI_nat gx, x, 1, rfl, rfl, l, _, j, j, rfl, rfl, upd_same, ?_, ?_⟩
    · rw [List.length_map]
      unfold ixN
      rw [if_pos (by omega), if_pos (by omega), Int.toNat_natCast]
    · rw [upd_upd, ← List.map_set]
      refine ⟨.ref l, rfl, l, xs.set j (x - 1), rfl, .inl (.inl upd_same), by rw [List.length_set]; exact hlen, fun H' p ns sm hp hperm hs e => q H' p ns ((same_new hl).trans sm) ((same_new hl).free hp) hperm hs e⟩

/-! ### take_largest, take_smallest -/
def spOne (K : PySem.W.Frag) (g : List Nat → List Nat) : Sp := fun vs H Q _ => ∃ (a : Addr) (w : List Nat), vs = [.ref a] ∧ SqL K H a (vN w) ∧ w.length ≤ 1000 ∧ Ok w ∧ w ≠ [] ∧
  ∀ (H' : Hp) (p : Addr), Same H H' → H p = none → H' p = some (.lst (vN (g w))) → Q (.ref p) H'
theorem ok_large {f fT fN : Addr} {fd fdT fdN : FuncData} {k : Nat} (F : Fun K "take_largest" "take_largest" sLarge f fd) (GT : FnOk P w K mg base CX0 (k + 2) fT fdT ["sizes", "place"] (spTake K)) (kT : PySem.W.keepIn K (.ref fT) = true) (bT : Binds K fdT ["sizes", "place"] []) (gT : mg "take" = some (.ref fT)) :
    FnOk P w K mg base CX0 (k + 3) f fd ["sizes"] (spOne K kee) := by
  refine F.ok scLarge (fun vs H Q E h => ?_) (fun cdv A outer s H vs Q E hr h => ?_)
  · obtain ⟨a, w, rfl, _⟩ := h
    rfl
  · obtain ⟨a, w, rfl, hS, hlen, hok, hne, q⟩ := h
    refine ⟨_, pss_one (ps_ret (pe_call GT hr (by rfl) gT kT bT .nil pass0 (pa_cons (pv 0) (pa_cons pe_int pa_nil)))), ?_⟩
    cases w with
    | nil => exact absurd rfl hne
    | cons b r =>
      refine ⟨.ref a, rfl, a, vi (b :: r), 0, b, rfl, hS, by rw [vi_length]; exact hlen, rfl, fun H' p ns sm hp hperm hs e => ?_⟩
      have en : ns = vi (kee (b :: r)) := desc_unique (hperm.trans (kee_perm hok).symm) hs (vi_desc (ok_kee hok))
      subst en
      exact q H' p sm hp e
theorem ok_small {f fT : Addr} {fd fdT : FuncData} {k : Nat} (F : Fun K "take_smallest" "take_smallest" sSmall f fd) (GT : FnOk P w K mg base CX0 (k + 2) fT fdT ["sizes", "place"] (spTake K)) (kT : PySem.W.keepIn K (.ref fT) = true) (bT : Binds K fdT ["sizes", "place"] []) (gT : mg "take" = some (.ref fT)) (ml : mg "len" = none) :
    FnOk P w K mg base CX0 (k + 3) f fd ["sizes"] (spOne K rai) := by
  refine F.ok scSmall (fun vs H Q E h => ?_) (fun cdv A outer s H vs Q E hr h => ?_)
  · obtain ⟨a, w, rfl, _⟩ := h
    rfl
  · obtain ⟨a, w, rfl, hS, hlen, hok, hne, q⟩ := h
    refine ⟨_, pss_one (ps_ret (pe_call GT hr (by rfl) gT kT bT .nil pass0 (pa_cons (pv 0) (pa_cons (pe_op op_sub (pe_callB call_len_seq (by rfl) ml PySem.boot_len (pa_cons (pv 0) pa_nil)) pe_int) pa_nil)))), ?_⟩
    have hl : w.length ≠ 0 := fun z => hne (List.length_eq_zero_iff.mp z)
    have hlt : w.length - 1 < w.length := by omega
    have hx : w[w.length - 1]? = some w[w.length - 1] := List.getElem?_eq_getElem hlt
    refine ⟨.ref a, rfl, .ref a, rfl, a, _, rfl, .inl hS, _, 1, rfl, rfl, ?_⟩
    refine ⟨a, vi w, w.length - 1, (w[w.length - 1] : Nat), ?_, hS, by rw [vi_length]; exact hlen, ?_, fun H' p ns sm hp hperm hs e => ?_⟩
    · have e : ((vN w).length : Int) - 1 = ((w.length - 1 : Nat) : Int) := by
        rw [vN_length]
        omega
      show [V.ref a, V.int (((vN w).length : Int) - 1)] ++ [] = _
      rw [e]
      rfl
    · show (w.map fun (n : Nat) => (n : Int))[w.length - 1]? = _
      rw [List.getElem?_map, hx]
      rfl
    · rw [← rai_eq hok hx] at hperm
      have en : ns = vi (rai w) := desc_unique hperm hs (vi_desc (ok_rai hok))
      subst en
      exact q H' p sm hp e

/-! ### best_plucks -/
/-- at p: the pair of the lists after Keeper's and after Raider's best pluck -/
def PairAt (H : Hp) (p : Addr) (w : List Nat) : Prop := ∃ (a : Addr) (b : V), H p = some (.tup [.ref a, b]) ∧ H a = some (.tup (vN (kee w))) ∧
  ((w.length = 1 ∧ b = .non) ∨ (w.length ≠ 1 ∧ ∃ r, b = .ref r ∧ H r = some (.tup (vN (rai w)))))
theorem PairAt.mono {H H' : Hp} {p : Addr} {w : List Nat} (h : PairAt H p w) (t : ∀ b xs, H b = some (.tup xs) → H' b = some (.tup xs)) : PairAt H' p w := by
  obtain ⟨a, b, h1, h2, h3⟩ := h
  refine ⟨a, b, t _ _ h1, t _ _ h2, ?_⟩
  rcases h3 with h3 | ⟨h3, r, e, h4⟩
  · exact .inl h3
  · exact .inr ⟨h3, r, e, t _ _ h4⟩
def spBest (K : PySem.W.Frag) : Sp := fun vs H Q _ => ∃ (a : Addr) (w : List Nat), vs = [.ref a] ∧ SqT K H a (vN w) ∧ w.length ≤ 1000 ∧ Ok w ∧ w ≠ [] ∧
  ∀ (H' : Hp) (p : Addr), Same H H' → H p = none → PairAt H' p w → Q (.ref p) H'
theorem ok_best {f fL fS : Addr} {fd fdL fdS : FuncData} {k : Nat} (F : Fun K "best_plucks" "best_plucks" sBest f fd) (GL : FnOk P w K mg base CX0 (k + 3) fL fdL ["sizes"] (spOne K kee)) (kL : PySem.W.keepIn K (.ref fL) = true) (bL : Binds K fdL ["sizes"] []) (gL : mg "take_largest" = some (.ref fL))
    (GS : FnOk P w K mg base CX0 (k + 3) fS fdS ["sizes"] (spOne K rai)) (kS : PySem.W.keepIn K (.ref fS) = true) (bS : Binds K fdS ["sizes"] []) (gS : mg "take_smallest" = some (.ref fS)) (ml : mg "list" = none) (mt : mg "tuple" = none) (mn : mg "len" = none) :
    FnOk P w K mg base CX0 (k + 4) f fd ["word"] (spBest K) := by
  refine F.ok scBest (fun vs H Q E h => ?_) (fun cdv A outer s H vs Q E hr h => ?_)
  · obtain ⟨a, w, rfl, _⟩ := h
    rfl
  · obtain ⟨a, w, rfl, hS, hlen, hok, hne, q⟩ := h
    refine ⟨_, pss_cons (ps_set (i := 1) scBest.nd rfl (.inl rfl) (pe_tupleOf (by rfl) mt (pe_call GL hr (by rfl) gL kL bL .nil pass0 (pa_cons (pe_callTy call_list_of (by rfl) ml (by decide +kernel) (pa_cons (pv 0) pa_nil)) pa_nil))))
      (pss_cons (ps_if (pt_cmpR op_eq (pe_callB call_len_seq (by rfl) mn PySem.boot_len (pa_cons (pv 0) pa_nil)) pe_int (nomark _))
        (pss_one (ps_ret (pe_tup (pa_cons (pv 1) (pa_cons pe_non pa_nil))))) pss_nil)
      (pss_one (ps_ret (pe_tup (pa_cons (pv 1) (pa_cons (pe_tupleOf (by rfl) mt (pe_call GS hr (by rfl) gS kS bS .nil pass0 (pa_cons (pe_callTy call_list_of (by rfl) ml (by decide +kernel) (pa_cons (pv 0) pa_nil)) pa_nil))) pa_nil)))))), ?_⟩
    refine ⟨.ref a, rfl, a, _, rfl, .inr hS, fun l hl => ?_⟩
    refine ⟨l, w, rfl, .inl (.inl upd_same), hlen, hok, hne, fun H1 p1 sm1 hp1 e1 => .inl ⟨p1, _, rfl, .inl (.inl e1), fun t1 ht1 => ?_⟩⟩
    have sA : Same H H1 := (same_new hl).trans sm1
    have sB : Same H (upd H1 t1 (.tup (vN (kee w)))) := same_keep sA (sA.free ht1)
    have tB : upd H1 t1 (.tup (vN (kee w))) t1 = some (.tup (vN (kee w))) := upd_same
    generalize upd H1 t1 (.tup (vN (kee w))) = H2 at sB tB
    refine ⟨.ref a, rfl, a, _, rfl, .inr (Same.tupS sB hS), rfl, _, rfl, ite2 (fun e => ?_) (fun e => ?_)⟩
    · have e1 : w.length = 1 := by
        have := V.int.inj (of_decide_eq_true e)
        rw [vN_length] at this
        omega
      refine ⟨.ref t1, rfl, (by show 2 ≤ sizeLine; decide), fun p hp => q _ p (same_keep sB (sB.free hp)) (sB.free hp) ⟨t1, .non, upd_same, ?_, .inl ⟨e1, rfl⟩⟩⟩
      rw [upd_ne (ne_of_none tB hp)]
      exact tB
    · have e1 : w.length ≠ 1 := fun z => e (decide_eq_true (by rw [vN_length, z]; rfl))
      refine ⟨.ref t1, rfl, .ref a, rfl, a, _, rfl, .inr (Same.tupS sB hS), fun l2 hl2 => ?_⟩
      have sC := same_keep (o := .lst (vN w)) sB (sB.free hl2)
      have tC : upd H2 l2 (.lst (vN w)) t1 = some (.tup (vN (kee w))) := by
        rw [upd_ne (ne_of_none tB hl2)]
        exact tB
      have lC : upd H2 l2 (.lst (vN w)) l2 = some (.lst (vN w)) := upd_same
      generalize upd H2 l2 (.lst (vN w)) = H3 at sC tC lC
      refine ⟨l2, w, rfl, .inl (.inl lC), hlen, hok, hne, fun H4 p4 sm4 hp4 e4 => .inl ⟨p4, _, rfl, .inl (.inl e4), fun t2 ht2 => ?_⟩⟩
      have sD : Same H H4 := sC.trans sm4
      have sE : Same H (upd H4 t2 (.tup (vN (rai w)))) := same_keep sD (sD.free ht2)
      have tE : upd H4 t2 (.tup (vN (rai w))) t2 = some (.tup (vN (rai w))) := upd_same
      have tE1 : upd H4 t2 (.tup (vN (rai w))) t1 = some (.tup (vN (kee w))) := by
        rw [upd_ne (ne_of_none (sm4 _ _ tC) ht2)]
        exact sm4 _ _ tC
      refine ⟨(by show 2 ≤ sizeLine; decide), fun p hp => q _ p (same_keep sE (sE.free hp)) (sE.free hp) ⟨t1, .ref t2, upd_same, ?_, .inr ⟨e1, t2, rfl, ?_⟩⟩⟩
      · rw [upd_ne (ne_of_none tE1 hp)]
        exact tE1
      · rw [upd_ne (ne_of_none tE hp)]
        exact tE
end
end WR

set_option Elab.async false
set_option linter.all false
set_option maxRecDepth 100000
set_option maxHeartbeats 4000000
/-! play_layers. -/
namespace WR
open PySem PySem.Spec PyProof.Rows L2

abbrev sPlay : Stmt := topS 7
abbrev nPlay : List Str := ["starts", "layers", "words", "_", "layer", "sizes", "word", "pair", "after"]
theorem scPlay : FnScope nPlay ["starts"] (defScope sPlay) := ⟨rfl, rfl, rfl, by decide +kernel, rfl, by decide +kernel, by decide +kernel⟩

/-! ### keys -/
def kw (w : List Nat) : List L2.Key := (vi w).map Sum.inl
theorem kw_kV (w : List Nat) : (kw w).map kV = vN w := by
  unfold kw
  rw [List.map_map]
  rfl
theorem vi_inj : ∀ {a b : List Nat}, vi a = vi b → a = b
  | [], [], _ => rfl
  | [], _ :: _, e => nomatch e
  | _ :: _, [], e => nomatch e
  | x :: a, y :: b, e => by
    have e' : (x : Int) :: vi a = (y : Int) :: vi b := e
    injection e' with e1 e2
    rw [vi_inj e2, Int.ofNat_inj.mp e1]
theorem kw_inj {a b : List Nat} (e : kw a = kw b) : a = b := by
  have e2 : vN a = vN b := by rw [← kw_kV, ← kw_kV, e]
  refine vi_inj ?_
  have h : ∀ (x y : List Int), x.map V.int = y.map V.int → x = y := by
    intro x
    induction x with
    | nil =>
      intro y h
      cases y with
      | nil => rfl
      | cons _ _ => exact nomatch h
    | cons i x ih =>
      intro y h
      cases y with
      | nil => exact nomatch h
      | cons j y =>
        rw [List.map_cons, List.map_cons] at h
        injection h with h1 h2
        rw [V.int.inj h1, ih y h2]
  exact h _ _ e2
theorem valV_none {kvs : List (List L2.Key × V)} {k : List L2.Key} : valV kvs k = none ↔ k ∉ kvs.map (·.1) := by
  unfold valV
  rw [Option.map_eq_none_iff, List.find?_eq_none]
  constructor
  · intro h hm
    obtain ⟨kv, hk, e⟩ := List.mem_map.mp hm
    exact h kv hk (decide_eq_true e)
  · intro h kv hk e
    exact h (List.mem_map.mpr ⟨kv, hk, of_decide_eq_true e⟩)
theorem keys_put {kvs : List (List L2.Key × V)} {ws : List (List Nat)} {w : List Nat} {v : V} (e : kvs.map (·.1) = ws.map kw) : (putK kvs (kw w) v).map (·.1) = (insK ws w).map kw := by
  unfold insK
  by_cases h : w ∈ ws
  · rw [if_pos h]
    have hin : ¬ valV kvs (kw w) = none := fun z => valV_none.mp z (by rw [e]; exact List.mem_map.mpr ⟨w, h, rfl⟩)
    unfold putK
    rw [if_pos (by rw [valV_any]; exact Option.isSome_iff_ne_none.mpr hin), List.map_map, ← e]
    refine List.map_congr_left fun kv _ => ?_
    show (if kv.1 = kw w then (kv.1, v) else kv).1 = kv.1
    split <;> rfl
  · rw [if_neg h]
    have hn : valV kvs (kw w) = none := valV_none.mpr fun z => by
      rw [e] at z
      obtain ⟨x, hx, ex⟩ := List.mem_map.mp z
      exact h (kw_inj ex ▸ hx)
    rw [putK_new v hn, List.map_append, List.map_append, e]
    rfl

/-! ### what stands at the end of a layer's making -/
abbrev PRel (H : Hp) (w : List Nat) (kv : List L2.Key × V) : Prop := kv.1 = kw w ∧ ∃ p, kv.2 = .ref p ∧ PairAt H p w
def LayerAt (H : Hp) (d : Addr) (ws : List (List Nat)) : Prop := ∃ kvs, H d = some (.dT kvs) ∧ Paired (PRel H) ws kvs
def WordsAt (H : Hp) (ws : List (List Nat)) (bs : List Addr) : Prop := Paired (fun w b => H b = some (.tup (vN w))) ws bs
theorem PRel.mono {H H' : Hp} {w : List Nat} {kv : List L2.Key × V} (t : ∀ b xs, H b = some (.tup xs) → H' b = some (.tup xs)) (h : PRel H w kv) : PRel H' w kv :=
  ⟨h.1, let ⟨p, e, q⟩ := h.2; ⟨p, e, q.mono t⟩⟩
theorem prel_keys {H : Hp} : ∀ {ws : List (List Nat)} {kvs : List (List L2.Key × V)}, Paired (PRel H) ws kvs → kvs.map (·.1) = ws.map kw
  | _, _, .nil => rfl
  | _, _, .cons r t => by rw [List.map_cons, List.map_cons, prel_keys t, r.1]
theorem LayerAt.mono {H H' : Hp} {d : Addr} {ws : List (List Nat)} (h : LayerAt H d ws) (s : Same H H') : LayerAt H' d ws :=
  let ⟨kvs, e, r⟩ := h; ⟨kvs, s _ _ e, Paired.mapP r fun _ _ q => q.mono fun b xs e => s _ _ e⟩
theorem LayerAt.upd {H : Hp} {d p : Addr} {o : HO} {ws : List (List Nat)} (h : LayerAt H d ws) (hd : d ≠ p) (ht : ∀ xs, H p ≠ some (.tup xs)) : LayerAt (upd H p o) d ws := by
  obtain ⟨kvs, e, r⟩ := h
  refine ⟨kvs, by rw [upd_ne hd]; exact e, Paired.mapP r fun _ _ q => q.mono fun b xs eb => ?_⟩
  rw [upd_ne fun z => by rw [z] at eb; exact ht xs eb]
  exact eb
theorem succs_length (w : List Nat) : (succs w).length ≤ 2 := by
  unfold succs
  split <;> simp
theorem flat_length : ∀ ws : List (List Nat), (ws.flatMap succs).length ≤ 2 * ws.length
  | [] => by simp
  | w :: r => by
    have h1 := flat_length r
    have h2 := succs_length w
    rw [List.flatMap_cons, List.length_append, List.length_cons]
    omega
theorem insK_length (ks : List (List Nat)) (k : List Nat) : (insK ks k).length ≤ ks.length + 1 := by
  unfold insK
  split
  · omega
  · rw [List.length_append]
    simp
theorem insAll_length : ∀ (more ks : List (List Nat)), (insAll ks more).length ≤ ks.length + more.length
  | [], ks => by show ks.length ≤ ks.length + 0; omega
  | k :: r, ks => by
    have h1 := insAll_length r (insK ks k)
    have h2 := insK_length ks k
    show (insAll (insK ks k) r).length ≤ _
    rw [List.length_cons]
    omega
theorem words_of_keys {H : Hp} : ∀ {ws : List (List Nat)} {kvs : List (List L2.Key × V)} {bs : List Addr}, kvs.map (·.1) = ws.map kw → IsKeys H kvs bs → WordsAt H ws bs
  | [], [], _, _, .nil => .nil
  | _ :: _, [], _, e, _ => nomatch e
  | [], _ :: _, _, e, _ => nomatch e
  | w :: ws, kv :: kvs, _, e, .cons r t => by
    rw [List.map_cons, List.map_cons] at e
    injection e with e1 e2
    refine .cons ?_ (words_of_keys e2 t)
    rw [← kw_kV, ← e1]
    exact r

section
variable {P : Program} {w : World} {K : PySem.W.Frag} {mg : Str → Option Value} {base : Heap}
/-- S layers, each a dict of its words with their pairs -/
def spPlay (K : PySem.W.Frag) : Sp := fun vs H Q _ => ∃ (a b : Addr) (w : List Nat), vs = [.ref a] ∧ SqL K H a [.ref b] ∧ SqL K H b (vN w) ∧ Ok w ∧ w.sum ≤ 200 ∧
  ∀ (H' : Hp) (p : Addr) (ds : List Addr), Same H H' → H p = none → H' p = some (.lst (ds.map V.ref)) → ds.length = w.sum → (∀ (j : Nat) (d : Addr), ds[j]? = some d → LayerAt H' d (layW w j) ∧ H d = none) → Q (.ref p) H'

theorem vi_sum : ∀ w : List Nat, (vi w).sum = (w.sum : Int)
  | [] => rfl
  | a :: r => by
    show ((a : Int) :: vi r).sum = _
    rw [List.sum_cons, List.sum_cons, vi_sum r]
    omega
theorem WordsAt.mono {H H' : Hp} {ws : List (List Nat)} {bs : List Addr} (h : WordsAt H ws bs) (s : Same H H') : WordsAt H' ws bs := Paired.mapP h fun _ _ e => s _ _ e
theorem refs_get {bs : List Addr} {j : Nat} {b : Addr} (h : bs[j]? = some b) : (bs.map V.ref)[j]? = some (.ref b) := by
  rw [List.getElem?_map, h]
  rfl
theorem take_snoc {α : Type} {l : List α} {j : Nat} {x : α} (h : l[j]? = some x) : l.take (j + 1) = l.take j ++ [x] := by
  rw [List.take_add_one, h]
  rfl
theorem ok_play {f fB : Addr} {fd fdB : FuncData} {k : Nat} (F : Fun K "play_layers" "play_layers" sPlay f fd) (GB : FnOk P w K mg base CX0 (k + 4) fB fdB ["word"] (spBest K)) (kB : PySem.W.keepIn K (.ref fB) = true) (bB : Binds K fdB ["word"] []) (gB : mg "best_plucks" = some (.ref fB))
    (ml : mg "list" = none) (mt : mg "tuple" = none) (mr : mg "range" = none) (ms : mg "sum" = none) : FnOk P w K mg base CX0 (k + 5) f fd ["starts"] (spPlay K) := by
  refine F.ok scPlay (fun vs H Q E h => ?_) (fun cdv A outer s H vs Q E hr h => ?_)
  · obtain ⟨a, b, w, rfl, _⟩ := h
    rfl
  · obtain ⟨a, b, w, rfl, hA, hB, hok, hsum, q⟩ := h
    refine ⟨_, pss_cons (ps_set (i := 1) scPlay.nd rfl (.inl rfl) (pe_lst pa_nil))
      (pss_cons (ps_setLc (i := 2) (te := tThen (tVar 5) (kTup K)) (own := [("sizes", 5)]) (g := gName 5) (by rfl) scPlay.nd rfl rfl (sw_true rfl rfl rfl (by decide +kernel)) (pi_list (pv 0)) (blkOk_by (own := [("sizes", 5)]) (N := nPlay) (sc := defScope sPlay) (by decide +kernel))
        (fun _ _ _ _ _ => pg_name (i := 5) scPlay.nd rfl (Or.inl rfl)) (fun _ _ _ _ _ => pts_nil) (fun _ _ _ _ _ => pe_tupleOf (by rfl) mt (pv 5)))
      (pss_cons (ps_for PassesOwn.never rfl (pi_range1 (by rfl) mr (pa_cons (pe_callB (cr_sum rfl) (by rfl) ms (by decide +kernel) (pa_cons (pe_ix ix_list (pv 0) pe_int (fun _ _ => rfl)) pa_nil)) pa_nil)) (pg_name (i := 3) scPlay.nd rfl (.inl rfl))
        (pss_cons (ps_dict1T (i := 4) (own := [("word", 6)]) (g := gName 6) (by rfl) (Nat.lt_of_succ_lt (hu_of hr)) scPlay.nd rfl rfl rfl rfl (by decide +kernel) (pi_list (pv 2)) (blkOk_by (own := [("word", 6)]) (N := nPlay) (sc := defScope sPlay) (by decide +kernel))
            (fun _ _ _ _ => pg_name (i := 6) scPlay.nd rfl (Or.inl rfl)) (fun _ _ _ _ => pts_nil) (fun _ _ _ _ => pv 6) (fun _ _ _ _ => pe_call GB hr (by rfl) gB kB bB .nil pass0 (pa_cons (pv 6) pa_nil)))
        (pss_cons (ps_expr (pe_bm PySem.F.plainAttrs_list PySem.F.slot_list_append PySem.F.type_list_append mt_append (pv 1) (pa_cons (pv 4) pa_nil)))
        (pss_one (ps_set (i := 2) scPlay.nd rfl (.inl rfl) (pe_callTy (call_list_dT (by rfl)) (by rfl) ml (by decide +kernel) (pa_cons (pe_lock (pe_dict2T (wi1 := iTup K (tVar 7)) (own := [("pair", 7), ("after", 8)]) (vs1 := [8]) (g := gName 7) (g1 := gName 8) (by rfl) (Nat.lt_of_succ_lt (hu_of hr)) scPlay.nd (pi_valT (pv 4))
            (blkOk_by (own := [("pair", 7), ("after", 8)]) (N := nPlay) (sc := defScope sPlay) (by decide +kernel)) (by decide)
            (fun _ _ _ _ => pg_name (i := 7) scPlay.nd rfl (Or.inl rfl)) (fun _ _ _ _ => pts_nil) (fun _ _ _ _ => pi_tup (pv 7)) (fun _ _ _ _ => pg_name (i := 8) scPlay.nd rfl (Or.inl rfl))
            (fun _ _ _ _ => pts_one (pt_cmpR op_notN (pv 8) pe_non (nomark _))) (fun _ _ _ _ => pv 8) (fun _ _ _ _ => pe_bl))) pa_nil)))))))
      (pss_one (ps_ret (pv 1))))), ?_⟩
    -- layers = []
    refine ⟨Nat.zero_le _, fun L hL => ?_⟩
    have s1 : Same H (upd H L (.lst [])) := same_new hL
    have eL : upd H L (.lst []) L = some (.lst []) := upd_same
    generalize upd H L (.lst []) = H1 at s1 eL
    -- words = [tuple(sizes) for sizes in starts]
    refine ⟨.ref a, rfl, a, rfl, ⟨_, s1.seq hA⟩, fun W hW => lc_list (K := K) (a := a) (xs := [.ref b]) (fun i H3 => Same H1 H3 ∧ ((i = 0 ∧ H3 W = some (.lst [])) ∨ (i = 1 ∧ ∃ t, H3 W = some (.lst [.ref t]) ∧ H3 t = some (.tup (vN w)))))
      ⟨same_new hW, .inl ⟨rfl, upd_same⟩⟩ (fun i H3 _ h => h.1.seq (s1.seq hA)) ?_ ?_⟩
    · rintro i x H3 hx ⟨sm, h⟩
      rcases h with ⟨rfl, eW⟩ | ⟨rfl, _⟩
      · have ex : x = .ref b := (Option.some.inj hx).symm
        subst ex
        refine ⟨rfl, .ref b, rfl, .inl ⟨b, _, rfl, sm.seq (s1.seq hB), fun t ht => ⟨[], ?_, (by decide : 0 < sizeLine), same_keep (same_keep sm (sm.free ht)) hW, .inr ⟨rfl, t, upd_same, ?_⟩⟩⟩⟩
        · rw [upd_ne (ne_of_none eW ht)]
          exact eW
        · rw [upd_ne (Ne.symm (ne_of_none eW ht))]
          exact upd_same
      · exact nomatch hx
    · rintro H2 ⟨s2, h⟩
      rcases h with ⟨e, _⟩ | ⟨_, t, eW, et⟩
      · exact nomatch e
      have sA : Same H H2 := s1.trans s2
      -- for _ in range(sum(starts[0]))
      refine ⟨.ref a, rfl, a, [.ref b], 0, .ref b, rfl, rfl, sA.seq hA, atI_nat (j := 0) rfl, b, vi w, rfl, sA.seq hB, (vi w).sum, rfl, ?_, ?_, ?_⟩
      · rw [vi_sum]
        omega
      · rw [vi_sum]
        omega
      rw [vi_sum, Int.toNat_natCast]
      refine for_range (lo := 0) (n := w.sum) (fun i σ H3 => ∃ (W : Addr) (y3 y4 : Option V) (ds bs : List Addr), σ = [some (.ref a), some (.ref L), some (.ref W), y3, y4, none, none, none, none] ∧ Same H H3 ∧ H3 L = some (.lst (ds.map V.ref)) ∧ ds.length = i ∧
          (∀ (j : Nat) (d : Addr), ds[j]? = some d → LayerAt H3 d (layW w j) ∧ H d = none) ∧ H3 W = some (.lst (bs.map V.ref)) ∧ WordsAt H3 (layW w i) bs)
        ⟨W, none, none, [], [t], rfl, sA, s2 _ _ eL, rfl, (fun j d h => nomatch h), eW, .cons et .nil⟩ ?_ ?_
      · rintro i σ H3 hi ⟨W, y3, y4, ds, bs, rfl, s3, e3L, hds, hlay, e3W, hw⟩
        have hn := layW_length hok i
        have hbl : (layW w i).length = bs.length := Paired.length hw
        -- layer = {word: best_plucks(word) for word in words}
        refine ⟨.ref W, rfl, W, rfl, ⟨_, .inl (.inl e3W)⟩, fun D hD => clause_by (layW w i).length (fun j H4 => Same H3 H4 ∧ ∃ kvs, H4 D = some (.dT kvs) ∧ Paired (PRel H4) ((layW w i).take j) kvs)
          ⟨same_new hD, [], upd_same, .nil⟩ ?_ ?_ ?_ ?_⟩
        · rintro j H4 hj ⟨s4, _⟩
          exact ⟨bs.map V.ref, .ref (bs[j]'(by omega)), .inl (.inl (s4 _ _ e3W)), refs_get (List.getElem?_eq_getElem (by omega))⟩
        · rintro H4 ⟨s4, _⟩
          exact ⟨bs.map V.ref, .inl (.inl (s4 _ _ e3W)), by rw [List.length_map]; omega⟩
        · rintro j H4 x H4' hj ⟨s4, kvs, eD, rel⟩ ⟨rfl, hx⟩
          obtain ⟨wd, hwd⟩ : ∃ wd, (layW w i)[j]? = some wd := ⟨_, List.getElem?_eq_getElem hj⟩
          obtain ⟨bd, hbd, etd⟩ := paired_get hw hwd
          have ex : x = .ref bd := Option.some.inj ((hx _ (.inl (.inl (s4 _ _ e3W)))).symm.trans (refs_get hbd))
          subst ex
          obtain ⟨wok, wsum⟩ := layW_ok hok (by omega) (List.mem_of_getElem? hwd)
          refine ⟨rfl, .ref bd, rfl, .ref bd, rfl, bd, wd, rfl, .inl (.inl (s4 _ _ etd)), ?_, wok, ne_nil_of_sum (n := w.sum - i - 1) (by omega), fun H5 p sm hp pair => ⟨kvs, kw wd, bd, rfl, ?_, sm _ _ eD, ?_, ?_⟩⟩
          · have := length_le_sum wok
            omega
          · rw [kw_kV]
            exact sm _ _ (s4 _ _ etd)
          · have := Paired.length rel
            rw [List.length_take] at this
            exact small1000 (by omega)
          · have new : valV kvs (kw wd) = none := valV_none.mpr fun z => by
              rw [prel_keys rel] at z
              obtain ⟨x, hx, ex⟩ := List.mem_map.mp z
              rw [kw_inj ex] at hx
              obtain ⟨m, hm, em⟩ := List.mem_take_iff_getElem.mp hx
              have h1 : (layW w i)[m]? = some wd := by rw [← em]; exact List.getElem?_eq_getElem (by omega)
              have := nd_ix (nodup_layW w i) h1 hwd
              omega
            rw [putK_new _ new, take_snoc hwd]
            have keep : ∀ c xs, H5 c = some (.tup xs) → upd H5 D (.dT (kvs ++ [(kw wd, V.ref p)])) c = some (.tup xs) := fun c xs ec => by
              rw [upd_ne fun z => by rw [z, sm _ _ eD] at ec; exact nomatch ec]
              exact ec
            refine ⟨same_keep (s4.trans sm) hD, _, upd_same, ?_⟩
            exact Paired.snoc (Paired.mapP rel fun _ _ r => r.mono fun c xs ec => keep c xs (sm _ _ ec)) ⟨rfl, p, rfl, pair.mono keep⟩
        · rintro H4 ⟨s4, kvs, eD, rel⟩
          rw [List.take_length] at rel
          -- layers.append(layer)
          refine ⟨.ref L, rfl, .inl ⟨rfl, _, .inl (.inl (s4 _ _ e3L))⟩, .ref D, rfl, L, _, .ref D, rfl, rfl, s4 _ _ e3L, ?_, ?_⟩
          · rw [List.length_map, hds]
            exact small1000 (by omega)
          have hLt : ∀ xs, H4 L ≠ some (.tup xs) := fun xs z => by
            rw [s4 _ _ e3L] at z
            exact nomatch z
          have nDL : D ≠ L := ne_of eD (s4 _ _ e3L) fun z => nomatch z
          have lay5 : ∀ (j : Nat) (d : Addr), (ds ++ [D])[j]? = some d → LayerAt (upd H4 L (.lst (ds.map V.ref ++ [.ref D]))) d (layW w j) ∧ H d = none := fun j d hd => by
            rcases Nat.lt_trichotomy j ds.length with lt | eq | gt
            · rw [List.getElem?_append_left lt] at hd
              have l4 := (hlay j d hd).1.mono s4
              refine ⟨l4.upd ?_ hLt, (hlay j d hd).2⟩
              obtain ⟨kv, e, _⟩ := l4
              exact ne_of e (s4 _ _ e3L) fun z => nomatch z
            · rw [eq, List.getElem?_append_right (Nat.le_refl _), Nat.sub_self] at hd
              obtain rfl : D = d := Option.some.inj hd
              rw [eq, hds]
              exact ⟨LayerAt.upd ⟨kvs, eD, rel⟩ nDL hLt, s3.free hD⟩
            · rw [List.getElem?_eq_none (by rw [List.length_append, List.length_singleton]; omega)] at hd
              exact nomatch hd
          have s5 : Same H (upd H4 L (.lst (ds.map V.ref ++ [.ref D]))) := same_keep (s3.trans s4) hL
          have e5L : upd H4 L (.lst (ds.map V.ref ++ [.ref D])) L = some (.lst ((ds ++ [D]).map V.ref)) := by
            rw [upd_same, List.map_append]
            rfl
          have e5D : upd H4 L (.lst (ds.map V.ref ++ [.ref D])) D = some (.dT kvs) := by
            rw [upd_ne nDL]
            exact eD
          have rel5 : Paired (PRel (upd H4 L (.lst (ds.map V.ref ++ [.ref D])))) (layW w i) kvs := Paired.mapP rel fun _ _ r => r.mono fun c xs ec => by
            rw [upd_ne fun z => by rw [z] at ec; exact hLt xs ec]
            exact ec
          generalize upd H4 L (.lst (ds.map V.ref ++ [.ref D])) = H5 at lay5 s5 e5L e5D rel5
          -- words = list({after: True for pair in layer.values() for after in pair if after is not None})
          refine ⟨D, .dT kvs, e5D, trivial, fun od => ?_⟩
          have hHLD : upd H5 D (.frz od (.dT kvs)) D = some (.frz od (.dT kvs)) := upd_same
          have hHL : ∀ c o, c ≠ D → H5 c = some o → upd H5 D (.frz od (.dT kvs)) c = some o := fun c o hc e => by
            rw [upd_ne hc]
            exact e
          have relL : Paired (PRel (upd H5 D (.frz od (.dT kvs)))) (layW w i) kvs := Paired.mapP rel5 fun _ _ r => r.mono fun c xs ec => hHL _ _ (ne_of ec e5D fun z => nomatch z) ec
          generalize upd H5 D (.frz od (.dT kvs)) = HL at hHLD hHL relL
          have hkl : (layW w i).length = kvs.length := Paired.length relL
          refine ⟨.ref D, rfl, D, od, kvs, rfl, hHLD, fun D2 hD2 => clause_by kvs.length (fun j H6 => Same HL H6 ∧ ∃ kvs2, H6 D2 = some (.dT kvs2) ∧ kvs2.map (·.1) = (insAll [] (((layW w i).take j).flatMap succs)).map kw)
            ⟨same_new hD2, [], upd_same, rfl⟩ ?_ ?_ ?_ ?_⟩
          · rintro j H6 hj ⟨s6, _⟩
            exact ⟨hj, s6 _ _ hHLD⟩
          · rintro H6 ⟨s6, _⟩
            exact ⟨Nat.le_refl _, s6 _ _ hHLD⟩
          · rintro j H6 x H6' hj ⟨s6, kvs2, e2, k2⟩ ⟨rfl, ke, hke⟩
            obtain ⟨wd, hwd⟩ : ∃ wd, (layW w i)[j]? = some wd := ⟨_, List.getElem?_eq_getElem (by omega)⟩
            obtain ⟨kv, hkv, _, p, ep, pa, pb, ept, epa, epb⟩ := paired_get relL hwd
            rw [hke] at hkv
            obtain rfl : (ke, x) = kv := Option.some.inj hkv
            obtain rfl : x = .ref p := ep
            have len2 : ∀ {kvs3 : List (List L2.Key × V)} {ws : List (List Nat)}, kvs3.map (·.1) = ws.map kw → ws.length ≤ 600 → kvs3.length < sizeLine := fun {kvs3 ws} e hl => by
              have := congrArg List.length e
              rw [List.length_map, List.length_map] at this
              exact small1000 (by omega)
            have hfl : (insAll [] (((layW w i).take j).flatMap succs)).length ≤ 402 := by
              have h1 := insAll_length (((layW w i).take j).flatMap succs) []
              have h2 := flat_length ((layW w i).take j)
              rw [List.length_take] at h2
              rw [List.length_nil] at h1
              omega
            generalize hdone : insAll [] (((layW w i).take j).flatMap succs) = done_ at k2 hfl
            -- for after in pair
            refine ⟨rfl, .ref p, rfl, p, rfl, ⟨_, .inl (.inl (s6 _ _ ept))⟩, clause_by 2 (fun m H7 => Same HL H7 ∧ ∃ kvs3, H7 D2 = some (.dT kvs3) ∧ kvs3.map (·.1) = (insAll done_ ((succs wd).take m)).map kw) ⟨s6, kvs2, e2, k2⟩ ?_ ?_ ?_ ?_⟩
            · rintro m H7 hm ⟨s7, _⟩
              exact ⟨[.ref pa, pb], _, .inl (.inl (s7 _ _ ept)), List.getElem?_eq_getElem (by simpa using hm)⟩
            · rintro H7 ⟨s7, _⟩
              exact ⟨[.ref pa, pb], .inl (.inl (s7 _ _ ept)), by simp⟩
            · rintro m H7 x H7' hm ⟨s7, kvs3, e3, k3⟩ ⟨rfl, hx⟩
              have hx := hx _ (.inl (.inl (s7 _ _ ept)))
              have put : ∀ (c : Addr) (wn : List Nat) (ws : List (List Nat)), HL c = some (.tup (vN wn)) → kvs3.map (·.1) = ws.map kw → H7' c = some (.tup ((kw wn).map kV)) ∧ Same HL (upd H7' D2 (.dT (putK kvs3 (kw wn) (.bl true)))) ∧
                  (putK kvs3 (kw wn) (.bl true)).map (·.1) = (insK ws wn).map kw := fun c wn ws ec ek => ⟨by rw [kw_kV]; exact s7 _ _ ec, same_keep s7 hD2, keys_put ek⟩
              have hl3 : kvs3.length < sizeLine := by
                refine len2 k3 ?_
                have h1 := insAll_length ((succs wd).take m) done_
                have h2 := succs_length wd
                rw [List.length_take] at h1
                omega
              cases m with
              | zero =>
                obtain rfl : V.ref pa = x := Option.some.inj hx
                obtain ⟨p1, p2, p3⟩ := put pa (kee wd) done_ epa k3
                refine ⟨rfl, .ref pa, rfl, rfl, _, rfl, iteT ⟨.ref pa, rfl, kvs3, kw (kee wd), pa, rfl, p1, e3, hl3, p2, _, upd_same, ?_⟩⟩
                rw [p3]
                unfold succs
                split <;> rfl
              | succ m =>
                obtain rfl : m = 0 := by omega
                obtain rfl : pb = x := Option.some.inj hx
                rcases epb with ⟨h1, rfl⟩ | ⟨h1, r, rfl, er⟩
                · refine ⟨rfl, .non, rfl, rfl, _, rfl, iteF ⟨s7, kvs3, e3, ?_⟩⟩
                  rw [k3]
                  unfold succs
                  rw [if_pos h1]
                  rfl
                · have k3' : kvs3.map (·.1) = (insK done_ (kee wd)).map kw := by
                    rw [k3]
                    unfold succs
                    rw [if_neg h1]
                    rfl
                  obtain ⟨p1, p2, p3⟩ := put r (rai wd) _ er k3'
                  refine ⟨rfl, .ref r, rfl, rfl, _, rfl, iteT ⟨.ref r, rfl, kvs3, kw (rai wd), r, rfl, p1, e3, hl3, p2, _, upd_same, ?_⟩⟩
                  rw [p3]
                  unfold succs
                  rw [if_neg h1]
                  rfl
            · rintro H7 ⟨s7, kvs3, e3, k3⟩
              refine ⟨s7, kvs3, e3, ?_⟩
              rw [k3, take_snoc hwd, List.flatMap_append, insAll_append, hdone, List.take_of_length_le (succs_length wd)]
              simp
          · rintro H6 ⟨s6, kvs2, e2, k2⟩
            refine ⟨s6 _ _ hHLD, ?_⟩
            rw [← hkl, List.take_length] at k2
            have s56 : Same H5 (upd H6 D (.dT kvs)) := fun c o e => by
              by_cases hc : c = D
              · subst hc
                rw [upd_same, ← e5D, e]
              · rw [upd_ne hc]
                exact s6 _ _ (hHL c o hc e)
            have e62 : upd H6 D (.dT kvs) D2 = some (.dT kvs2) := by
              rw [upd_ne (Ne.symm (ne_of_none hHLD hD2))]
              exact e2
            generalize upd H6 D (.dT kvs) = H7 at s56 e62
            refine ⟨D2, kvs2, rfl, .inl e62, fun W2 bs2 hW2 keys2 => ?_⟩
            have s7 : Same H5 (upd H7 W2 (.lst (bs2.map V.ref))) := s56.trans (same_new hW2)
            exact ⟨W2, _, _, ds ++ [D], bs2, rfl, s5.trans s7, s7 _ _ e5L, by rw [List.length_append, hds]; rfl, fun j d hd => ⟨(lay5 j d hd).1.mono s7, (lay5 j d hd).2⟩, upd_same, (words_of_keys k2 keys2).mono (same_new hW2)⟩
      · rintro σ H3 ⟨W, y3, y4, ds, bs, rfl, s3, e3L, hds, hlay, e3W, hw⟩
        exact ⟨.ref L, rfl, q H3 L ds s3 hL e3L hds hlay⟩
end
end WR

set_option Elab.async false
set_option linter.all false
set_option maxRecDepth 100000
set_option maxHeartbeats 4000000
/-! raid_counts. -/
namespace WR
open PySem PySem.Spec PyProof.Rows L2

abbrev sRaid : Stmt := topS 8
abbrev nRaid : List Str := ["sizes", "counts", "layer", "longer", "word", "after_keeper", "after_raider", "row", "raids", "count"]
theorem scRaid : FnScope nRaid ["sizes"] (defScope sRaid) := ⟨rfl, rfl, rfl, by decide +kernel, rfl, by decide +kernel, by decide +kernel⟩

/-! ### a row added place by place -/
def addT (k r : List Nat) : Nat → List Nat
  | 0 => k
  | t + 1 => (addT k r t).set (t + 1) ((addT k r t).getD (t + 1) 0 + r.getD t 0)
theorem addT_length (k r : List Nat) : ∀ t, (addT k r t).length = k.length
  | 0 => rfl
  | t + 1 => by
    show ((addT k r t).set (t + 1) _).length = _
    rw [List.length_set, addT_length k r t]
theorem addT_get (k r : List Nat) : ∀ (t : Nat) (e : Nat), e < k.length → (addT k r t).getD e 0 = k.getD e 0 + if 1 ≤ e ∧ e ≤ t then r.getD (e - 1) 0 else 0
  | 0, e, _ => by
    rw [if_neg (by omega)]
    rfl
  | t + 1, e, he => by
    have ih := addT_get k r t
    have hl := addT_length k r t
    show ((addT k r t).set (t + 1) _).getD e 0 = _
    by_cases h : e = t + 1
    · subst h
      rw [List.getD_eq_getElem?_getD, List.getElem?_set_self (by omega), Option.getD_some, ih _ he, if_neg (by omega), if_pos (by omega)]
      simp
    · rw [List.getD_eq_getElem?_getD, List.getElem?_set_ne (Ne.symm h), ← List.getD_eq_getElem?_getD, ih e he]
      by_cases h2 : 1 ≤ e ∧ e ≤ t
      · rw [if_pos h2, if_pos (by omega)]
      · rw [if_neg h2, if_neg (by omega)]
theorem addT_all {k r : List Nat} (h : k.length = r.length + 1) : addT k r r.length = addS k r := by
  have hl : (addS k r).length = k.length := by
    unfold addS
    rw [List.length_zipWith, List.length_cons]
    omega
  apply List.ext_getElem?
  intro e
  by_cases he : e < k.length
  · have h1 := addT_get k r r.length e he
    have h2 := addS_getD h e
    rw [List.getD_eq_getElem?_getD, List.getElem?_eq_getElem (by rw [addT_length]; exact he), Option.getD_some] at h1
    rw [List.getD_eq_getElem?_getD, List.getElem?_eq_getElem (by omega), Option.getD_some] at h2
    rw [List.getElem?_eq_getElem (by rw [addT_length]; exact he), List.getElem?_eq_getElem (by omega), h1, h2]
    congr 2
    cases e with
    | zero => rfl
    | succ e =>
      rw [if_pos (by omega)]
      rfl
  · rw [List.getElem?_eq_none (by rw [addT_length]; omega), List.getElem?_eq_none (by omega)]
theorem vN_app (a : List Nat) (n : Nat) : vN (a ++ [n]) = vN a ++ [.int n] := by
  show ((a ++ [n]).map fun (n : Nat) => (n : Int)).map V.int = _
  rw [List.map_append, List.map_append]
  rfl
theorem vN_set (a : List Nat) (i n : Nat) : (vN a).set i (.int n) = vN (a.set i n) := by
  show ((a.map fun (n : Nat) => (n : Int)).map V.int).set i (.int n) = ((a.set i n).map fun (n : Nat) => (n : Int)).map V.int
  rw [List.map_set, List.map_set]

/-- at c: a dict that has for each of the words the list of its numbers; the lists are no older than H0 -/
def CountsAt (H0 H : Hp) (c : Addr) (n : Nat) (ws : List (List Nat)) : Prop := ∃ kvs, H c = some (.dT kvs) ∧ ∀ v ∈ ws, ∃ q, valV kvs (kw v) = some (.ref q) ∧ H q = some (.lst (vN (rowL n v))) ∧ H0 q = none
theorem CountsAt.mono {H0 H H' : Hp} {c : Addr} {n : Nat} {ws : List (List Nat)} (h : CountsAt H0 H c n ws) (s : Same H H') : CountsAt H0 H' c n ws :=
  let ⟨kvs, e, f⟩ := h; ⟨kvs, s _ _ e, fun v hv => let ⟨q, a, b, d⟩ := f v hv; ⟨q, a, s _ _ b, d⟩⟩

section
variable {P : Program} {w : World} {K : PySem.W.Frag} {mg : Str → Option Value} {base : Heap}
def spRaid (K : PySem.W.Frag) : Sp := fun vs H Q _ => ∃ (a : Addr) (w : List Nat), vs = [.ref a] ∧ SqL K H a (vN w) ∧ Ok w ∧ w.sum ≤ 200 ∧
  ∀ (H' : Hp) (p : Addr), Same H H' → H p = none → H' p = some (.lst (vN (rowL w.sum w))) → Q (.ref p) H'

theorem ok_raid {f fP : Addr} {fd fdP : FuncData} {k : Nat} (F : Fun K "raid_counts" "raid_counts" sRaid f fd) (GP : FnOk P w K mg base CX0 (k + 5) fP fdP ["starts"] (spPlay K)) (kP : PySem.W.keepIn K (.ref fP) = true) (bP : Binds K fdP ["starts"] []) (gP : mg "play_layers" = some (.ref fP))
    (mv : mg "reversed" = none) (me : mg "enumerate" = none) (mt : mg "tuple" = none) : FnOk P w K mg base CX0 (k + 6) f fd ["sizes"] (spRaid K) := by
  refine F.ok scRaid (fun vs H Q E h => ?_) (fun cdv A outer s H vs Q E hr h => ?_)
  · obtain ⟨a, w, rfl, _⟩ := h
    rfl
  · obtain ⟨a, w, rfl, hA, hok, hsum, q⟩ := h
    refine ⟨_, pss_cons (ps_set (i := 1) scRaid.nd rfl (.inl rfl) (pe_disp1 (hu_of hr) (pe_tup pa_nil) (pe_lst (pa_cons pe_int pa_nil))))
      (pss_cons (ps_for PassesOwn.never rfl (pi_reversed (by rfl) mv (pa_cons (pe_call GP hr (by rfl) gP kP bP .nil pass0 (pa_cons (pe_lst (pa_cons (pv 0) pa_nil)) pa_nil)) pa_nil)) (pg_name (i := 2) scRaid.nd rfl (.inl rfl))
        (pss_cons (ps_set (i := 3) scRaid.nd rfl (.inl rfl) pe_dnewT)
        (pss_cons (ps_lock (ps_for PassesOwn.never rfl (pi_itmT (pv 2)) (pg_tup rfl (pgs_cons (pg_name (i := 4) scRaid.nd rfl (.inl rfl)) (pgs_cons (pg_tup rfl (pgs_cons (pg_name (i := 5) scRaid.nd rfl (.inl rfl)) (pgs_cons (pg_name (i := 6) scRaid.nd rfl (.inl rfl)) pgs_nil))) pgs_nil)))
            (pss_cons (ps_set (i := 7) scRaid.nd rfl (.inl rfl) (pe_op op_cat (pe_dget (hu_of hr) (pv 1) (pv 5) (fun _ _ => rfl)) (pe_lst (pa_cons pe_int pa_nil))))
            (pss_cons (ps_if (pt_cmpR op_notN (pv 6) pe_non (nomark _))
                (pss_one (ps_for PassesOwn.never rfl (pi_enum (by rfl) me (pa_cons (pe_dget (hu_of hr) (pv 1) (pv 6) (fun _ _ => rfl)) pa_nil)) (pg_tup rfl (pgs_cons (pg_name (i := 8) scRaid.nd rfl (.inl rfl)) (pgs_cons (pg_name (i := 9) scRaid.nd rfl (.inl rfl)) pgs_nil)))
                  (pss_one (ps_augS (pv 7) (pe_op op_add (pv 8) pe_int) get_list (pv 9) ip_add set_list)))) pss_nil)
            (pss_one (ps_dput (hu_of hr) (pv 3) (pv 4) (pv 7) rfl))))))
        (pss_one (ps_set (i := 1) scRaid.nd rfl (.inl rfl) (pv 3))))))
      (pss_one (ps_ret (pe_dget (hu_of hr) (pv 1) (pe_tupleOf (by rfl) mt (pv 0)) (fun _ _ => rfl))))), ?_⟩
    -- counts = {(): [1]}
    refine fun c0 hc0 => ⟨Nat.zero_le _, fun t0 ht0 => ⟨(by decide : 1 ≤ sizeLine), fun q0 hq0 => ⟨kw [], t0, _, rfl, ?_, ?_, ?_⟩⟩⟩
    · rw [upd_ne (ne_of_none upd_same hq0)]
      exact upd_same
    · rw [upd_ne (ne_of_none (show upd (upd H c0 (.dT [])) t0 (.tup []) c0 = some (.dT []) by rw [upd_ne (ne_of_none upd_same ht0)]; exact upd_same) hq0), upd_ne (ne_of_none upd_same ht0)]
      exact upd_same
    generalize eH1 : upd (upd (upd (upd H c0 (.dT [])) t0 (.tup [])) q0 (.lst [.int 1])) c0 (.dT [(kw [], .ref q0)]) = H1
    have n1 : upd (upd H c0 (.dT [])) t0 (.tup []) c0 = some (.dT []) := by
      rw [upd_ne (ne_of_none upd_same ht0)]
      exact upd_same
    have nq : q0 ≠ c0 := Ne.symm (ne_of_none n1 hq0)
    have z1 : Same H (upd H c0 (.dT [])) := same_new hc0
    have z2 : Same H (upd (upd H c0 (.dT [])) t0 (.tup [])) := same_keep z1 (z1.free ht0)
    have fq : H q0 = none := z2.free hq0
    have s1 : Same H H1 := by
      rw [← eH1]
      exact same_keep (same_keep z2 fq) hc0
    have e1c : H1 c0 = some (.dT [(kw [], .ref q0)]) := by
      rw [← eH1]
      exact upd_same
    have e1q : H1 q0 = some (.lst (vN [1])) := by
      rw [← eH1, upd_ne nq]
      exact upd_same
    clear eH1 z1 z2 n1
    -- for layer in reversed(play_layers([sizes]))
    refine ⟨.ref a, rfl, (by decide : 1 ≤ sizeLine), fun b hb => ?_⟩
    refine ⟨b, a, w, rfl, .inl (.inl upd_same), (s1.trans (same_new hb)).seq hA, hok, hsum, fun H2 p ds sm hp ep hdl hlay => ⟨p, ds.map V.ref, rfl, .inl (.inl ep), ?_⟩⟩
    have s12 : Same H1 H2 := (same_new hb).trans sm
    have s2 : Same H H2 := s1.trans s12
    have apart0 : ∀ d ∈ ds, d ≠ c0 := fun d hd z => by
      obtain ⟨j, hj⟩ := List.mem_iff_getElem?.mp hd
      have := (hlay j d hj).2
      rw [z, upd_ne (ne_of_none e1c hb), e1c] at this
      exact nomatch this
    have lay : ∀ (j : Nat) (d : Addr), ds[j]? = some d → LayerAt H2 d (layW w j) := fun j d hd => (hlay j d hd).1
    rw [List.length_map, hdl]
    refine for_by w.sum (fun i σ H3 => ∃ (c : Addr) (y2 y3 y4 y5 y6 y7 y8 y9 : Option V), σ = [some (.ref a), some (.ref c), y2, y3, y4, y5, y6, y7, y8, y9] ∧ Same H2 H3 ∧ CountsAt H H3 c i (layW w (w.sum - i)) ∧ ∀ d ∈ ds, d ≠ c)
      ⟨c0, none, none, none, none, none, none, none, none, rfl, Same.refl _, ⟨_, s12 _ _ e1c, fun v hv => ⟨q0, ?_, ?_, fq⟩⟩, apart0⟩ ?_ ?_ ?_ ?_
    · rw [layW_last hok hv]
      exact valV_pos rfl
    · exact s12 _ _ e1q
    · rintro i σ H3 hi ⟨c, y2, y3, y4, y5, y6, y7, y8, y9, rfl, s3, _, _⟩
      exact ⟨hi, ds.map V.ref, .ref (ds[w.sum - 1 - i]'(by omega)), .inl (.inl (s3 _ _ ep)), refs_get (List.getElem?_eq_getElem (by omega))⟩
    · rintro σ H3 _
      exact Nat.le_refl _
    · rintro i σ H3 x H3' hi ⟨c, y2, y3, y4, y5, y6, y7, y8, y9, rfl, s3, hc, hcd⟩ ⟨rfl, hx⟩
      obtain ⟨d, hd⟩ : ∃ d, ds[w.sum - 1 - i]? = some d := ⟨_, List.getElem?_eq_getElem (by omega)⟩
      obtain rfl : V.ref d = x := Option.some.inj ((refs_get hd).symm.trans (hx _ (.inl (.inl (s3 _ _ ep)))))
      have hld := (lay _ d hd).mono s3
      have ej : w.sum - i = w.sum - 1 - i + 1 := by omega
      rw [ej] at hc
      have hjs : w.sum - 1 - i + (i + 1) = w.sum := by omega
      have ei : w.sum - (i + 1) = w.sum - 1 - i := by omega
      rw [ei]
      generalize w.sum - 1 - i = j at hd hld hc hjs
      have hcd' : d ≠ c := hcd d (List.mem_of_getElem? hd)
      -- longer = {}
      refine fun g hg => ?_
      obtain ⟨kvs, ed, rel⟩ := hld
      have ndg : d ≠ g := ne_of_none ed hg
      -- for word, (after_keeper, after_raider) in layer.items()
      refine ⟨d, .dT kvs, by rw [upd_ne ndg]; exact ed, trivial, fun od => ?_⟩
      have eZd : upd H3' d (.frz od (.dT kvs)) d = some (.frz od (.dT kvs)) := upd_same
      have toZ : ∀ x o, x ≠ d → H3' x = some o → upd H3' d (.frz od (.dT kvs)) x = some o := fun x o hx e => by
        rw [upd_ne hx]
        exact e
      have ofZ : ∀ x o, x ≠ d → upd H3' d (.frz od (.dT kvs)) x = some o → H3' x = some o := fun x o hx e => by
        rw [upd_ne hx] at e
        exact e
      have gZ : upd H3' d (.frz od (.dT kvs)) g = none := by
        rw [upd_ne (Ne.symm ndg)]
        exact hg
      have sZL : Same (upd H3' d (.frz od (.dT kvs))) (upd (upd H3' g (.dT [])) d (.frz od (.dT kvs))) := fun x o e => by
        by_cases hx : x = d
        · subst hx
          rw [upd_same] at e ⊢
          exact e
        · rw [upd_ne hx, upd_ne (ne_of_none (ofZ x o hx e) hg)]
          exact ofZ x o hx e
      have sHZ : ∀ x, upd H3' d (.frz od (.dT kvs)) x = none → H x = none := fun x e => by
        by_cases hx : x = d
        · rw [hx, eZd] at e
          exact nomatch e
        · rw [upd_ne hx] at e
          exact (s2.trans s3).free e
      obtain ⟨kc, ec3, hrows3⟩ := hc
      have ecZ := toZ _ _ (Ne.symm hcd') ec3
      have relZ : Paired (PRel (upd H3' d (.frz od (.dT kvs)))) (layW w j) kvs := Paired.mapP rel fun _ _ r => r.mono fun x xs ex => toZ _ _ (ne_of ex ed fun z => nomatch z) ex
      have rowsZ : ∀ v ∈ layW w (j + 1), ∃ q, valV kc (kw v) = some (.ref q) ∧ upd H3' d (.frz od (.dT kvs)) q = some (.lst (vN (rowL i v))) := fun v hv => by
        obtain ⟨q, e1, e2, _⟩ := hrows3 v hv
        exact ⟨q, e1, toZ _ _ (ne_of e2 ed fun z => nomatch z) e2⟩
      have eLg : upd (upd H3' g (.dT [])) d (.frz od (.dT kvs)) g = some (.dT []) := by
        rw [upd_ne (Ne.symm ndg)]
        exact upd_same
      have back : ∀ H5 : Hp, Same (upd H3' d (.frz od (.dT kvs))) H5 → Same H3' (upd H5 d (.dT kvs)) := fun H5 s5 x o e => by
        by_cases hx : x = d
        · rw [hx, upd_same, ← ed, ← e, hx]
        · rw [upd_ne hx]
          exact s5 _ _ (toZ _ _ hx e)
      generalize upd H3' d (.frz od (.dT kvs)) = HZ at eZd gZ sZL sHZ ecZ relZ rowsZ back
      clear toZ ofZ
      generalize upd (upd H3' g (.dT [])) d (.frz od (.dT kvs)) = HL at sZL eLg
      have hkl : (layW w j).length = kvs.length := Paired.length relZ
      refine ⟨.ref d, rfl, d, od, kvs, rfl, sZL _ _ eZd, for_by kvs.length (fun t σ H5 => ∃ y4 y5 y6 y7 y8 y9 : Option V, σ = [some (.ref a), some (.ref c), some (.ref d), some (.ref g), y4, y5, y6, y7, y8, y9] ∧ Same HZ H5 ∧
        ∃ kg, H5 g = some (.dT kg) ∧ kg.length ≤ t ∧ ∀ v ∈ (layW w j).take t, ∃ q, valV kg (kw v) = some (.ref q) ∧ H5 q = some (.lst (vN (rowL (i + 1) v))) ∧ H q = none)
        ⟨y4, y5, y6, y7, y8, y9, rfl, sZL, [], eLg, Nat.le_refl _, fun v hv => nomatch hv⟩ ?_ ?_ ?_ ?_⟩
      · rintro t σ H5 ht ⟨y4, y5, y6, y7, y8, y9, rfl, s5, _⟩
        exact ⟨ht, s5 _ _ eZd⟩
      · rintro σ H5 ⟨y4, y5, y6, y7, y8, y9, rfl, s5, _⟩
        exact ⟨Nat.le_refl _, s5 _ _ eZd⟩
      · rintro t σ H5 x H5' ht ⟨y4, y5, y6, y7, y8, y9, rfl, s5, kg, eg, lg, rg⟩ ⟨T, q1, kk, v1, hkv, hq1, hT, rfl, rfl⟩
        obtain ⟨wd, hwd⟩ : ∃ wd, (layW w j)[t]? = some wd := ⟨_, List.getElem?_eq_getElem (by omega)⟩
        obtain ⟨kv, hkv2, ek, p2, ep2, pa, pb, ept, epa, epb⟩ := paired_get relZ hwd
        rw [hkv] at hkv2
        obtain rfl : (kk, v1) = kv := Option.some.inj hkv2
        obtain rfl : kk = kw wd := ek
        obtain rfl : v1 = .ref p2 := ep2
        have hwm := List.mem_of_getElem? hwd
        obtain ⟨wok, wsum⟩ := layW_ok hok (by omega) hwm
        have mk : kee wd ∈ layW w (j + 1) := mem_nextW.mpr ⟨wd, hwm, by unfold succs; split <;> simp⟩
        have mr : wd.length ≠ 1 → rai wd ∈ layW w (j + 1) := fun h => mem_nextW.mpr ⟨wd, hwm, by unfold succs; rw [if_neg h]; simp⟩
        have s6 : Same HZ (upd H5 T (.tup [.ref q1, .ref p2])) := same_keep s5 (s5.free hT)
        have e6 : ∀ x o, H5 x = some o → upd H5 T (.tup [.ref q1, .ref p2]) x = some o := same_new hT
        refine ⟨T, [.ref q1, .ref p2], rfl, .inl (.inl upd_same), rfl, .ref q1, [.ref p2], rfl, .ref p2, [], rfl, p2, [.ref pa, pb], rfl, .inl (.inl (s6 _ _ ept)), rfl, .ref pa, [pb], rfl, pb, [], rfl, rfl, rfl, ?_⟩
        generalize upd H5 T (.tup [.ref q1, .ref p2]) = H6 at s6 e6
        -- row = counts[after_keeper] + [0]
        obtain ⟨qk, vk, ek⟩ := rowsZ _ mk
        refine ⟨.ref c, rfl, .ref pa, rfl, c, .ref qk, rfl, ?_, (by decide : 1 ≤ sizeLine), fun z hz => ⟨qk, z, _, _, rfl, rfl, same_new hz _ _ (s6 _ _ ek), upd_same, ?_, fun r hr2 => ?_⟩⟩
        · rw [← vk]
          exact .t (s6 _ _ ecZ) (by rw [kw_kV]; exact s6 _ _ epa)
        · rw [vN_length, rowL_length]
          exact small (by show i + 1 + 1 ≤ 1000; omega)
        have s7 : Same H6 (upd (upd H6 z (.lst [.int 0])) r (.lst (vN (rowL i (kee wd)) ++ [.int 0]))) := same_keep (same_new hz) ((same_new hz).free hr2)
        have r7 : H6 r = none := (same_new hz).free hr2
        have e7r : upd (upd H6 z (.lst [.int 0])) r (.lst (vN (rowL i (kee wd)) ++ [.int 0])) r = some (.lst (vN (rowL i (kee wd) ++ [0]))) := by
          rw [upd_same, vN_app]
          rfl
        generalize upd (upd H6 z (.lst [.int 0])) r (.lst (vN (rowL i (kee wd)) ++ [.int 0])) = H7 at s7 e7r
        have rZ : HZ r = none := s6.free r7
        have fin : ∀ H8 : Hp, (∀ x o, x ≠ r → H7 x = some o → H8 x = some o) → H8 r = some (.lst (vN (rowL (i + 1) wd))) → H8 g = some (.dT kg) ∧ H8 q1 = some (.tup ((kw wd).map kV)) ∧ kg.length < sizeLine ∧
            Same HZ (upd H8 g (.dT (putK kg (kw wd) (.ref r)))) ∧ ∃ kg', upd H8 g (.dT (putK kg (kw wd) (.ref r))) g = some (.dT kg') ∧ kg'.length ≤ t + 1 ∧
              ∀ v ∈ (layW w j).take (t + 1), ∃ q, valV kg' (kw v) = some (.ref q) ∧ upd H8 g (.dT (putK kg (kw wd) (.ref r))) q = some (.lst (vN (rowL (i + 1) v))) ∧ H q = none := fun H8 s8 e8 => by
          have up : ∀ x o, H5 x = some o → H8 x = some o := fun x o e => s8 _ _ (ne_of_none (e6 _ _ e) r7) (s7 _ _ (e6 _ _ e))
          have sZ8 : Same HZ H8 := fun x o e => s8 _ _ (ne_of_none (s6 _ _ e) r7) (s7 _ _ (s6 _ _ e))
          have h1 := layW_length hok j
          refine ⟨up _ _ eg, up _ _ hq1, small1000 (by omega), same_keep sZ8 gZ, _, upd_same, Nat.le_trans (length_putK _ _ _) (by omega), fun v hv => ?_⟩
          have rg' : r ≠ g := Ne.symm (ne_of (up _ _ eg) e8 fun z => nomatch z)
          rw [valV_put]
          by_cases hvw : v = wd
          · subst hvw
            refine ⟨r, if_pos rfl, ?_, sHZ r rZ⟩
            rw [upd_ne rg']
            exact e8
          · rw [take_snoc hwd] at hv
            rcases List.mem_append.mp hv with hv | hv
            · obtain ⟨q, e1, e2, e3⟩ := rg v hv
              refine ⟨q, by rw [if_neg fun z => hvw (kw_inj z)]; exact e1, ?_, e3⟩
              rw [upd_ne (ne_of (up _ _ e2) (up _ _ eg) fun z => nomatch z)]
              exact up _ _ e2
            · exact absurd (List.mem_singleton.mp hv) hvw
        -- if after_raider is not None
        rcases epb with ⟨h1, rfl⟩ | ⟨h1, rr, rfl, err⟩
        · refine ⟨.non, rfl, rfl, _, rfl, iteF ?_⟩
          have erow : rowL (i + 1) wd = rowL i (kee wd) ++ [0] := by
            rw [rowL, if_pos h1]
          obtain ⟨f1, f2, f3, f4, f5⟩ := fin H7 (fun x o _ e => e) (by rw [erow]; exact e7r)
          exact ⟨.ref r, rfl, .ref g, rfl, .ref q1, rfl, g, _, rfl, .t f1 f2 f3, _, _, _, _, _, _, rfl, f4, f5⟩
        · refine ⟨.ref rr, rfl, rfl, _, rfl, iteT ?_⟩
          obtain ⟨qr, vr, eqr⟩ := rowsZ _ (mr h1)
          have erow : rowL (i + 1) wd = addS (rowL i (kee wd) ++ [0]) (rowL i (rai wd)) := by
            rw [rowL, if_neg h1]
          have nqr : qr ≠ r := ne_of_none (s6 _ _ eqr) r7
          have lk : (rowL i (kee wd) ++ [0]).length = (rowL i (rai wd)).length + 1 := by
            rw [List.length_append, rowL_length, rowL_length]
            rfl
          have lr := rowL_length i (rai wd)
          rw [← addT_all lk] at erow
          generalize rowL i (kee wd) ++ [0] = kk at lk erow e7r
          -- for raids, count in enumerate(counts[after_raider])
          refine ⟨.ref c, rfl, .ref rr, rfl, c, .ref qr, rfl, ?_, qr, vN (rowL i (rai wd)), rfl, .inl (.inl (s7 _ _ (s6 _ _ eqr))), for_by (rowL i (rai wd)).length (fun m σ H8 => ∃ y8 y9 : Option V, σ = [some (.ref a), some (.ref c), some (.ref d), some (.ref g), some (.ref q1), some (.ref pa), some (.ref rr), some (.ref r), y8, y9] ∧
              (∀ x o, x ≠ r → H7 x = some o → H8 x = some o) ∧ H8 r = some (.lst (vN (addT kk (rowL i (rai wd)) m)))) ⟨y8, y9, rfl, fun _ _ _ e => e, e7r⟩ ?_ ?_ ?_ ?_⟩
          · rw [← vr]
            exact .t (s7 _ _ (s6 _ _ ecZ)) (by rw [kw_kV]; exact s7 _ _ (s6 _ _ err))
          · rintro m σ H8 hm ⟨y8, y9, rfl, s8, e8⟩
            exact ⟨_, _, .inl (.inl (s8 _ _ nqr (s7 _ _ (s6 _ _ eqr)))), List.getElem?_eq_getElem (by rw [vN_length]; exact hm)⟩
          · rintro σ H8 ⟨y8, y9, rfl, s8, e8⟩
            exact ⟨_, .inl (.inl (s8 _ _ nqr (s7 _ _ (s6 _ _ eqr)))), by rw [vN_length]; exact Nat.le_refl _⟩
          · rintro m σ H8 x H8' hm ⟨y8, y9, rfl, s8, e8⟩ ⟨T2, x2, rfl, hT2, rfl, hx2⟩
            have gm : (rowL i (rai wd))[m]? = some (rowL i (rai wd))[m] := List.getElem?_eq_getElem hm
            obtain rfl : V.int ((rowL i (rai wd))[m] : Nat) = x2 := Option.some.inj ((vN_get gm).symm.trans (hx2 _ (.inl (.inl (s8 _ _ nqr (s7 _ _ (s6 _ _ eqr)))))))
            have e9 : upd H8 T2 (.tup [.int (m : Nat), .int ((rowL i (rai wd))[m] : Nat)]) r = some (.lst (vN (addT kk (rowL i (rai wd)) m))) := same_new hT2 _ _ e8
            have lm : m + 1 < (addT kk (rowL i (rai wd)) m).length := by
              rw [addT_length]
              omega
            have gs : (addT kk (rowL i (rai wd)) m)[m + 1]? = some (addT kk (rowL i (rai wd)) m)[m + 1] := List.getElem?_eq_getElem lm
            refine ⟨T2, [.int (m : Nat), .int ((rowL i (rai wd))[m] : Nat)], rfl, .inl (.inl upd_same), rfl, .int (m : Nat), [.int ((rowL i (rai wd))[m] : Nat)], rfl, .int ((rowL i (rai wd))[m] : Nat), [], rfl, rfl, ?_⟩
            refine ⟨.ref r, rfl, .int (m : Nat), rfl, m, 1, rfl, rfl, r, _, ((m + 1 : Nat) : Int), _, rfl, rfl, .inl (.inl e9), atI_nat (vN_get gs), .int ((rowL i (rai wd))[m] : Nat), rfl, _, _, rfl, rfl, r, _, ((m + 1 : Nat) : Int), m + 1, rfl, rfl, e9, ?_, _, _, rfl, ?_, ?_⟩
            · unfold ixN
              rw [if_pos (by omega), if_pos (by rw [vN_length]; omega), Int.toNat_natCast]
            · intro x o hx e
              rw [upd_ne hx]
              exact same_new hT2 _ _ (s8 _ _ hx e)
            · rw [upd_same]
              have es : addT kk (rowL i (rai wd)) (m + 1) = (addT kk (rowL i (rai wd)) m).set (m + 1) ((addT kk (rowL i (rai wd)) m)[m + 1] + (rowL i (rai wd))[m]) := by
                show (addT kk (rowL i (rai wd)) m).set (m + 1) ((addT kk (rowL i (rai wd)) m).getD (m + 1) 0 + (rowL i (rai wd)).getD m 0) = _
                rw [List.getD_eq_getElem?_getD, List.getD_eq_getElem?_getD, gs, gm]
                rfl
              rw [es, ← vN_set]
              rfl
          · rintro σ H8 ⟨y8, y9, rfl, s8, e8⟩
            obtain ⟨f1, f2, f3, f4, f5⟩ := fin H8 s8 (by rw [erow]; exact e8)
            exact ⟨.ref r, rfl, .ref g, rfl, .ref q1, rfl, g, _, rfl, .t f1 f2 f3, _, _, _, _, _, _, rfl, f4, f5⟩
      · rintro σ H5 ⟨y4, y5, y6, y7, y8, y9, rfl, s5, kg, eg, lg, rg⟩
        rw [← hkl, List.take_length] at rg
        refine ⟨s5 _ _ eZd, ?_⟩
        have s6 := back H5 s5
        refine ⟨.ref g, rfl, g, _, _, _, _, _, _, _, _, rfl, s3.trans s6, ⟨kg, ?_, fun v hv => ?_⟩, fun d' hd' z => ?_⟩
        · rw [upd_ne (Ne.symm ndg)]
          exact eg
        · obtain ⟨q, e1, e2, e3⟩ := rg v hv
          refine ⟨q, e1, ?_, e3⟩
          rw [upd_ne (ne_of e2 (s5 _ _ eZd) fun z => nomatch z)]
          exact e2
        · obtain ⟨m, hm⟩ := List.mem_iff_getElem?.mp hd'
          obtain ⟨_, e, _⟩ := (lay m d' hm).mono s3
          rw [z, hg] at e
          exact nomatch e
    · rintro σ H3 ⟨c, y2, y3, y4, y5, y6, y7, y8, y9, rfl, s3, ⟨kvs, ec, hrows⟩, _⟩
      -- return counts[tuple(sizes)]
      obtain ⟨q1, hv, hq, fr⟩ := hrows w (by rw [Nat.sub_self]; exact List.mem_singleton.mpr rfl)
      refine ⟨.ref c, rfl, .ref a, rfl, .inl ⟨a, _, rfl, (s2.trans s3).seq hA, fun t1 ht1 => ⟨c, .ref q1, rfl, ?_, q _ q1 (same_keep (s2.trans s3) ((s2.trans s3).free ht1)) fr ?_⟩⟩⟩
      · rw [← hv]
        refine .t ?_ ?_
        · rw [upd_ne (ne_of_none ec ht1)]
          exact ec
        · rw [upd_same, kw_kV]
      · rw [upd_ne (ne_of_none hq ht1)]
        exact hq
end
end WR

set_option Elab.async false
set_option linter.all false
set_option maxRecDepth 100000
set_option maxHeartbeats 4000000
/-! The law's own readers: a cell, the mixing, the draws, the comparison. -/
namespace WR
open PySem PySem.Spec PyProof.Rows L2

abbrev sCell : Stmt := topS 10
abbrev sMixed : Stmt := topS 11
abbrev sDraws : Stmt := topS 12
abbrev sLike : Stmt := topS 13
theorem scCell : FnScope ["_law_script", "_law_k"] ["_law_script", "_law_k"] (defScope sCell) := ⟨rfl, rfl, rfl, by decide +kernel, rfl, by decide +kernel, by decide +kernel⟩
theorem scMixed : FnScope ["_law_cell_here", "_law_k", "_law_size", "_law_mixed_here"] ["_law_cell_here", "_law_k", "_law_size"] (defScope sMixed) := ⟨rfl, rfl, rfl, by decide +kernel, rfl, by decide +kernel, by decide +kernel⟩
abbrev nDraws : List Str := ["_law_cell_here", "_law_menu", "_law_found", "_law_rest", "_law_k"]
theorem scDraws : FnScope nDraws ["_law_cell_here", "_law_menu"] (defScope sDraws) := ⟨rfl, rfl, rfl, by decide +kernel, rfl, by decide +kernel, by decide +kernel⟩
abbrev nLike : List Str := ["_law_actual", "_law_due", "_law_k"]
theorem scLike : FnScope nLike ["_law_actual", "_law_due"] (defScope sLike) := ⟨rfl, rfl, rfl, by decide +kernel, rfl, by decide +kernel, by decide +kernel⟩

/-- a number or an object is no bool -/
theorem op_isNoB {X : Cx} : OpR X (compareOp .Is) (fun x y H Q => ∃ b, y = .bl b ∧ ((∃ i, x = .int i) ∨ ∃ a, x = .ref a) ∧ Q (.bl false) H) := by
  intro pins s σ H x y v u Q I rx ry h
  obtain ⟨b, rfl, hx, q⟩ := h
  obtain rfl : u = Value.bool b := ry
  have fin : EP X pins σ Q (.bool false) s := ⟨.bl false, H, I, rfl, q⟩
  rcases hx with ⟨i, rfl⟩ | ⟨a, rfl⟩
  · obtain ⟨t, rfl⟩ := rx
    exact wpAny_pure fin
  · obtain rfl : v = Value.ref a := rx
    exact wpAny_pure fin

section
variable {P : Program} {w : World} {K : PySem.W.Frag} {mg : Str → Option Value} {base : Heap}

/-! ### _law_cell -/
def spCell (K : PySem.W.Frag) : Sp := fun vs H Q _ => ∃ (a : Addr) (ns : List Int) (j : Nat), vs = [.ref a, .int j] ∧ SqL K H a (ns.map V.int) ∧ ∀ c : Int, 0 ≤ c → Q (.int c) H
theorem ok_cell {f : Addr} {fd : FuncData} {k : Nat} (F : Fun K "_law_cell" "_law_cell" sCell f fd) (ml : mg "len" = none) (ma : mg "abs" = none) (mi : mg "int" = none) : FnOk P w K mg base CX0 (k + 1) f fd ["_law_script", "_law_k"] (spCell K) := by
  refine F.ok scCell (fun vs H Q E h => ?_) (fun cdv A outer s H vs Q E hr h => ?_)
  · obtain ⟨a, ns, j, rfl, _⟩ := h
    rfl
  · obtain ⟨a, ns, j, rfl, hS, q⟩ := h
    refine ⟨_, pss_cons (ps_if (pt_cmpR op_lt (pv 1) (pe_callB call_len_seq (by rfl) ml PySem.boot_len (pa_cons (pv 0) pa_nil)) (nomark _))
        (pss_one (ps_ret (pe_callB call_abs (by rfl) ma (by decide +kernel) (pa_cons (pe_callTy call_int1 (by rfl) mi (by decide +kernel) (pa_cons (pe_ix ix_list (pv 0) (pv 1) (fun _ _ => rfl)) pa_nil)) pa_nil)))) pss_nil)
      (pss_one (ps_ret pe_int)), ?_⟩
    refine ⟨.int j, rfl, .ref a, rfl, a, _, rfl, .inl hS, _, _, rfl, rfl, _, rfl, ite2 (fun e => ?_) (fun e => ?_)⟩
    · have hj : j < ns.length := by
        have := of_decide_eq_true e
        rw [List.length_map] at this
        omega
      have g : (ns.map V.int)[j]? = some (.int ns[j]) := by
        rw [List.getElem?_map, List.getElem?_eq_getElem hj]
        rfl
      refine ⟨.ref a, rfl, .int j, rfl, a, _, j, _, rfl, rfl, hS, atI_nat g, .inl ⟨ns[j], rfl, ns[j], rfl, q _ ?_⟩⟩
      split <;> omega
    · exact q 0 (Int.le_refl _)

/-! ### _law_mixed -/
def spMixed : Sp := fun vs H Q _ => ∃ (c i n : Int), vs = [.int c, .int i, .int n] ∧ 0 ≤ c ∧ 0 ≤ i ∧ 0 < n ∧ ∀ r : Int, 0 ≤ r → r < n → Q (.int r) H
theorem ok_mixed {f : Addr} {fd : FuncData} {k : Nat} (F : Fun K "_law_mixed" "_law_mixed" sMixed f fd) (mi : mg "int" = none) : FnOk P w K mg base CX0 (k + 1) f fd ["_law_cell_here", "_law_k", "_law_size"] spMixed := by
  refine F.ok scMixed (fun vs H Q E h => ?_) (fun cdv A outer s H vs Q E hr h => ?_)
  · obtain ⟨c, i, n, rfl, _⟩ := h
    rfl
  · obtain ⟨c, i, n, rfl, hc, hi, hn, q⟩ := h
    refine ⟨_, pss_cons (ps_set (i := 3) scMixed.nd rfl (.inl rfl) (pe_op op_mod (pe_callTy call_int1 (by rfl) mi (by decide +kernel) (pa_cons (pe_op op_add (pe_op op_add (pv 0) (pe_op op_mul pe_int (pv 1))) pe_int) pa_nil)) pe_int))
      (pss_cons (ps_set (i := 3) scMixed.nd rfl (.inl rfl) (pe_op op_mod (pe_callTy call_int1 (by rfl) mi (by decide +kernel) (pa_cons (pe_op op_mul (pv 3) (pe_op op_add (pv 3) pe_int)) pa_nil)) pe_int))
      (pss_cons (ps_set (i := 3) scMixed.nd rfl (.inl rfl) (pe_op op_mod (pe_callTy call_int1 (by rfl) mi (by decide +kernel) (pa_cons (pe_op op_add (pe_op op_mul (pv 3) (pe_op op_add (pv 3) pe_int)) (pe_op op_mul pe_int (pv 1))) pa_nil)) pe_int))
      (pss_one (ps_ret (pe_op op_mod (pe_callTy call_int1 (by rfl) mi (by decide +kernel) (pa_cons (pe_op op_fdiv (pv 3) pe_int) pa_nil)) (pv 2)))))), ?_⟩
    refine ⟨.int c, rfl, .int i, rfl, 7919, i, rfl, rfl, .inl ⟨by decide, by decide⟩, c, _, rfl, rfl, _, 13, rfl, rfl, .inl ⟨_, rfl, _, 2147483647, rfl, rfl, (by show (0 : Int) < 2147483647; decide), ?_⟩⟩
    have b1 : 0 ≤ (c + 7919 * i + 13) % 2147483647 ∧ (c + 7919 * i + 13) % 2147483647 < 2147483647 := ⟨Int.emod_nonneg _ (by decide), Int.emod_lt_of_pos _ (by decide)⟩
    dsimp only
    generalize (c + 7919 * i + 13) % 2147483647 = m1 at b1 ⊢
    refine ⟨.int m1, rfl, .int m1, rfl, m1, 48271, rfl, rfl, m1, _, rfl, rfl, .inl ⟨by omega, by omega⟩, .inl ⟨_, rfl, _, 2147483629, rfl, rfl, (by show (0 : Int) < 2147483629; decide), ?_⟩⟩
    have b2 : 0 ≤ (m1 * (m1 + 48271)) % 2147483629 ∧ (m1 * (m1 + 48271)) % 2147483629 < 2147483629 := ⟨Int.emod_nonneg _ (by decide), Int.emod_lt_of_pos _ (by decide)⟩
    dsimp only
    generalize (m1 * (m1 + 48271)) % 2147483629 = m2 at b2 ⊢
    refine ⟨.int m2, rfl, .int m2, rfl, m2, 69621, rfl, rfl, m2, _, rfl, rfl, .inl ⟨by omega, by omega⟩, .int i, rfl, 31, i, rfl, rfl, .inl ⟨by decide, by decide⟩, _, _, rfl, rfl, .inl ⟨_, rfl, _, 2147483647, rfl, rfl, (by show (0 : Int) < 2147483647; decide), ?_⟩⟩
    dsimp only
    generalize (m2 * (m2 + 69621) + 31 * i) % 2147483647 = m3
    refine ⟨.int m3, rfl, m3, 9, rfl, rfl, ⟨by decide, by decide⟩, .inl ⟨_, rfl, .int n, rfl, _, n, rfl, rfl, hn, ?_⟩⟩
    exact q _ (Int.emod_nonneg _ (by omega)) (Int.emod_lt_of_pos _ hn)

/-! ### _law_draws -/
/-- each drawn number below its own entry -/
def Below (rs ms : List Int) : Prop := rs.length = ms.length ∧ ∀ (i : Nat) (r m : Int), rs[i]? = some r → ms[i]? = some m → 0 ≤ r ∧ r < m
def spDraws (K : PySem.W.Frag) : Sp := fun vs H Q _ => ∃ (c : Int) (a : Addr) (ms : List Int), vs = [.int c, .ref a] ∧ 0 ≤ c ∧ SqL K H a (ms.map V.int) ∧ ms.length ≤ 1000 ∧ (∀ m ∈ ms, 0 < m ∧ m ≤ 1000) ∧
  ∀ (H' : Hp) (p : Addr) (rs : List Int), Same H H' → H p = none → H' p = some (.lst (rs.map V.int)) → Below rs ms → Q (.ref p) H'
theorem ok_draws {f fM : Addr} {fd fdM : FuncData} {k : Nat} (F : Fun K "_law_draws" "_law_draws" sDraws f fd) (GM : FnOk P w K mg base CX0 (k + 1) fM fdM ["_law_cell_here", "_law_k", "_law_size"] spMixed) (kM : PySem.W.keepIn K (.ref fM) = true) (bM : Binds K fdM ["_law_cell_here", "_law_k", "_law_size"] [])
    (gM : mg "_law_mixed" = some (.ref fM)) (ml : mg "len" = none) (mr : mg "range" = none) (mi : mg "int" = none) : FnOk P w K mg base CX0 (k + 2) f fd ["_law_cell_here", "_law_menu"] (spDraws K) := by
  refine F.ok scDraws (fun vs H Q E h => ?_) (fun cdv A outer s H vs Q E hr h => ?_)
  · obtain ⟨c, a, ms, rfl, _⟩ := h
    rfl
  · obtain ⟨c, a, ms, rfl, hc, hS, hlen, hms, q⟩ := h
    refine ⟨_, pss_cons (ps_set (i := 2) scDraws.nd rfl (.inl rfl) (pe_lst pa_nil))
      (pss_cons (ps_set (i := 3) scDraws.nd rfl (.inl rfl) (pv 0))
      (pss_cons (ps_for PassesOwn.never rfl (pi_range1 (by rfl) mr (pa_cons (pe_callB call_len_seq (by rfl) ml PySem.boot_len (pa_cons (pv 1) pa_nil)) pa_nil)) (pg_name (i := 4) scDraws.nd rfl (.inl rfl))
        (pss_one (ps_if (PW.pt (pw_and (pt_cmpR op_ge (pv 0) (pe_op op_pow pe_int pe_int) (nomark _)) (pw_and1 (pt_cmpR op_gt (pv 3) pe_int (nomark _)))))
          (pss_cons (ps_expr (pe_bm PySem.F.plainAttrs_list PySem.F.slot_list_append PySem.F.type_list_append mt_append (pv 2) (pa_cons (pe_op op_mod (pe_callTy call_int1 (by rfl) mi (by decide +kernel) (pa_cons (pv 3) pa_nil)) (pe_ix ix_list (pv 1) (pv 4) (fun _ _ => rfl))) pa_nil)))
            (pss_one (ps_set (i := 3) scDraws.nd rfl (.inl rfl) (pe_op op_fdiv (pv 3) (pe_ix ix_list (pv 1) (pv 4) (fun _ _ => rfl))))))
          (pss_one (ps_expr (pe_bm PySem.F.plainAttrs_list PySem.F.slot_list_append PySem.F.type_list_append mt_append (pv 2) (pa_cons (pe_call GM hr (by rfl) gM kM bM .nil pass0 (pa_cons (pv 0) (pa_cons (pv 4) (pa_cons (pe_ix ix_list (pv 1) (pv 4) (fun _ _ => rfl)) pa_nil)))) pa_nil)))))))
      (pss_one (ps_ret (pv 2))))), ?_⟩
    refine ⟨Nat.zero_le _, fun L hL => ?_⟩
    have s1 : Same H (upd H L (.lst [])) := same_new hL
    have eL : upd H L (.lst []) L = some (.lst []) := upd_same
    generalize upd H L (.lst []) = H1 at s1 eL
    refine ⟨.int c, rfl, .ref a, rfl, a, _, rfl, .inl (s1.seq hS), ((ms.map V.int).length : Nat), rfl, ?_, ?_, ?_⟩
    · omega
    · rw [List.length_map]
      omega
    rw [Int.toNat_natCast, List.length_map]
    refine for_range (lo := 0) (n := ms.length) (fun i σ H3 => ∃ (rest : Int) (y4 : Option V) (rs : List Int), σ = [some (.int c), some (.ref a), some (.ref L), some (.int rest), y4] ∧ Same H H3 ∧ H3 L = some (.lst (rs.map V.int)) ∧ Below rs (ms.take i))
      ⟨c, none, [], rfl, s1, eL, rfl, fun i r m h => nomatch h⟩ ?_ ?_
    · rintro i σ H3 hi ⟨rest, y4, rs, rfl, s3, e3, hb⟩
      have gm : ms[i]? = some ms[i] := List.getElem?_eq_getElem hi
      have gv : (ms.map V.int)[i]? = some (.int ms[i]) := by
        rw [List.getElem?_map, gm]
        rfl
      have hm := hms _ (List.getElem_mem hi)
      have ez : (0 : Int) + ((i : Nat) : Int) = ((i : Nat) : Int) := by omega
      have hl : rs.length = i := by
        rw [hb.1, List.length_take]
        omega
      have put : ∀ r : Int, 0 ≤ r → r < ms[i] → Below (rs ++ [r]) (ms.take (i + 1)) := fun r r0 r1 => by
        rw [take_snoc gm]
        refine ⟨by rw [List.length_append, List.length_append, hb.1]; rfl, fun j x m hx hmj => ?_⟩
        have hl2 : (ms.take i).length = i := by rw [← hb.1]; exact hl
        rcases Nat.lt_trichotomy j i with lt | eq | gt
        · rw [List.getElem?_append_left (by omega)] at hx hmj
          exact hb.2 j x m hx hmj
        · subst eq
          rw [List.getElem?_append_right (by omega), hl, Nat.sub_self] at hx
          rw [List.getElem?_append_right (by omega), hl2, Nat.sub_self] at hmj
          cases hx
          cases hmj
          exact ⟨r0, r1⟩
        · rw [List.getElem?_eq_none (by rw [List.length_append, List.length_singleton]; omega)] at hx
          exact nomatch hx
      have szL : (rs.map V.int).length < sizeLine := by
        rw [List.length_map, hl]
        exact small1000 (by omega)
      have after : ∀ r : Int, upd H3 L (.lst (rs.map V.int ++ [.int r])) L = some (.lst ((rs ++ [r]).map V.int)) := fun r => by
        rw [upd_same, List.map_append]
        rfl
      show tIfS _ _ _ _ [some (.int c), some (.ref a), some (.ref L), some (.int rest), some (.int (0 + ((i : Nat) : Int)))] H3
      rw [ez]
      refine ⟨.int c, rfl, 10, 18, rfl, rfl, ⟨by decide, by decide, by decide⟩, _, _, rfl, rfl, _, rfl, ite2 (fun _ => ⟨.int rest, rfl, _, 0, rfl, rfl, _, rfl, ite2 (fun _ => ?_) (fun _ => ?_)⟩) (fun _ => iteF ?_)⟩
      · refine ⟨.ref L, rfl, .inl ⟨rfl, _, .inl (.inl e3)⟩, .int rest, rfl, .inl ⟨rest, rfl, .ref a, rfl, .int i, rfl, a, _, i, _, rfl, rfl, s3.seq hS, atI_nat gv, rest, ms[i], rfl, rfl, hm.1, L, _, _, rfl, rfl, e3, szL, ?_⟩⟩
        refine ⟨.int rest, rfl, .ref a, rfl, .int i, rfl, a, _, i, _, rfl, rfl, (same_keep s3 hL).seq hS, atI_nat gv, rest, ms[i], rfl, rfl, ⟨hm.1, by omega⟩, _, _, _, rfl, same_keep s3 hL, after _, put _ (Int.emod_nonneg _ (by omega)) (Int.emod_lt_of_pos _ hm.1)⟩
      · refine ⟨.ref L, rfl, .inl ⟨rfl, _, .inl (.inl e3)⟩, .int c, rfl, .int i, rfl, .ref a, rfl, .int i, rfl, a, _, i, _, rfl, rfl, s3.seq hS, atI_nat gv, c, i, ms[i], rfl, hc, by omega, hm.1, fun r r0 r1 => ⟨L, _, _, rfl, rfl, e3, szL, _, _, _, rfl, same_keep s3 hL, after _, put r r0 r1⟩⟩
      · refine ⟨.ref L, rfl, .inl ⟨rfl, _, .inl (.inl e3)⟩, .int c, rfl, .int i, rfl, .ref a, rfl, .int i, rfl, a, _, i, _, rfl, rfl, s3.seq hS, atI_nat gv, c, i, ms[i], rfl, hc, by omega, hm.1, fun r r0 r1 => ⟨L, _, _, rfl, rfl, e3, szL, _, _, _, rfl, same_keep s3 hL, after _, put r r0 r1⟩⟩
    · rintro σ H3 ⟨rest, y4, rs, rfl, s3, e3, hb⟩
      rw [List.take_length] at hb
      exact ⟨.ref L, rfl, q H3 L rs s3 hL e3 hb⟩
end
end WR

set_option Elab.async false
set_option linter.all false
set_option maxRecDepth 100000
set_option maxHeartbeats 4000000
/-! The law's comparison: two numbers, two lists of numbers. -/
namespace WR
open PySem PySem.Spec PyProof.Rows L2
section
variable {P : Program} {w : World} {K : PySem.W.Frag} {mg : Str → Option Value} {base : Heap}
/-- the names that the comparison leans on are the built-in ones -/
structure LikeNames (mg : Str → Option Value) : Prop where
  isi : mg "isinstance" = none
  str : mg "str" = none
  int : mg "int" = none
  bool : mg "bool" = none
  list : mg "list" = none
  tuple : mg "tuple" = none
  len : mg "len" = none
  range : mg "range" = none
def spLikeI : Sp := fun vs H Q _ => ∃ x y : Int, vs = [.int x, .int y] ∧ Q (.bl (decide (V.int x = V.int y))) H
theorem ok_likeI {f : Addr} {fd : FuncData} {k : Nat} (F : Fun K "_law_like" "_law_like" sLike f fd) (m : LikeNames mg) : FnOk P w K mg base CX0 (k + 1) f fd ["_law_actual", "_law_due"] spLikeI := by
  refine F.ok scLike (fun vs H Q E h => ?_) (fun cdv A outer s H vs Q E hr h => ?_)
  · obtain ⟨x, y, rfl, _⟩ := h
    rfl
  · obtain ⟨x, y, rfl, q⟩ := h
    refine ⟨_, pss_cons (ps_if (pt_cmpR op_isN (pv 1) pe_non (nomark _)) pss_never pss_nil)
      (pss_cons (ps_if (pt_cmpR op_isNoB (pv 1) pe_bl (nomark _)) pss_never pss_nil)
      (pss_cons (ps_if (pt_cmpR op_isNoB (pv 1) pe_bl (nomark _)) pss_never pss_nil)
      (pss_cons (ps_if (pt_val (pe_callB call_isi (by rfl) m.isi (by decide +kernel) (pa_cons (pv 1) (pa_cons (pe_bltn (v := .ty "str") (by rfl) m.str (by decide +kernel) rfl) pa_nil)))) pss_never pss_nil)
      (pss_cons (ps_if (pt_val (pe_callB call_isi (by rfl) m.isi (by decide +kernel) (pa_cons (pv 1) (pa_cons (pe_bltn (v := .ty "int") (by rfl) m.int (by decide +kernel) rfl) pa_nil))))
          (pss_one (ps_ret (pe_and (pe_callB call_isi (by rfl) m.isi (by decide +kernel) (pa_cons (pv 0) (pa_cons (pe_bltn (v := .ty "int") (by rfl) m.int (by decide +kernel) rfl) pa_nil)))
            (pe_and (pe_not (pe_callB call_isi (by rfl) m.isi (by decide +kernel) (pa_cons (pv 0) (pa_cons (pe_bltn (v := .ty "bool") (by rfl) m.bool (by decide +kernel) rfl) pa_nil)))) (pe_one (pe_cmpR op_eq (pv 0) (pv 1) (nomark _))))))) pss_nil)
      pss_never)))), ?_⟩
    refine ⟨.int y, rfl, rfl, _, rfl, iteF ?_⟩
    refine ⟨.int y, rfl, true, rfl, .inl ⟨y, rfl⟩, _, rfl, iteF ?_⟩
    refine ⟨.int y, rfl, false, rfl, .inl ⟨y, rfl⟩, _, rfl, iteF ?_⟩
    refine ⟨.int y, rfl, .int y, .ty "str", .type "int", .type "str", false, rfl, .ty _, .base (.int y), kit_ty (by decide +kernel), _, rfl, iteF ?_⟩
    refine ⟨.int y, rfl, .int y, .ty "int", .type "int", .type "int", true, rfl, .ty _, .base (.int y), kit_ty (by decide +kernel), _, rfl, iteT ?_⟩
    refine ⟨.int x, rfl, .int x, .ty "int", .type "int", .type "int", true, rfl, .ty _, .base (.int x), kit_ty (by decide +kernel), _, rfl, iteT ?_⟩
    refine ⟨.int x, rfl, .int x, .ty "bool", .type "int", .type "bool", false, rfl, .ty _, .base (.int x), kit_ty (by decide +kernel), _, rfl, _, rfl, iteT ?_⟩
    exact ⟨.int x, rfl, .int y, rfl, rfl, q⟩

/-- two lists of the same numbers -/
def spLikeL : Sp := fun vs H Q _ => ∃ (a b : Addr) (xs : List Int), vs = [.ref a, .ref b] ∧ H a = some (.lst (xs.map V.int)) ∧ H b = some (.lst (xs.map V.int)) ∧ xs.length ≤ 1000 ∧ Q (.bl true) H
theorem ok_likeL {f : Addr} {fd : FuncData} {k : Nat} (F : Fun K "_law_like" "_law_like" sLike f fd) (m : LikeNames mg) (bF : Binds K fd ["_law_actual", "_law_due"] []) (gF : mg "_law_like" = some (.ref f)) : FnOk P w K mg base CX0 (k + 2) f fd ["_law_actual", "_law_due"] spLikeL := by
  have GI : FnOk P w K mg base CX0 (k + 1) f fd ["_law_actual", "_law_due"] spLikeI := ok_likeI F m
  refine F.ok scLike (fun vs H Q E h => ?_) (fun cdv A outer s H vs Q E hr h => ?_)
  · obtain ⟨a, b, xs, rfl, _⟩ := h
    rfl
  · obtain ⟨a, b, xs, rfl, ea, eb, hlen, q⟩ := h
    refine ⟨_, pss_cons (ps_if (pt_cmpR op_isN (pv 1) pe_non (nomark _)) pss_never pss_nil)
      (pss_cons (ps_if (pt_cmpR op_isNoB (pv 1) pe_bl (nomark _)) pss_never pss_nil)
      (pss_cons (ps_if (pt_cmpR op_isNoB (pv 1) pe_bl (nomark _)) pss_never pss_nil)
      (pss_cons (ps_if (pt_val (pe_callB call_isi (by rfl) m.isi (by decide +kernel) (pa_cons (pv 1) (pa_cons (pe_bltn (v := .ty "str") (by rfl) m.str (by decide +kernel) rfl) pa_nil)))) pss_never pss_nil)
      (pss_cons (ps_if (pt_val (pe_callB call_isi (by rfl) m.isi (by decide +kernel) (pa_cons (pv 1) (pa_cons (pe_bltn (v := .ty "int") (by rfl) m.int (by decide +kernel) rfl) pa_nil)))) pss_never pss_nil)
      (pss_cons (ps_if (pt_val (pe_callB call_isi (by rfl) m.isi (by decide +kernel) (pa_cons (pv 1) (pa_cons (pe_bltn (v := .ty "list") (by rfl) m.list (by decide +kernel) rfl) pa_nil))))
          (pss_one (ps_if (PW.pt (pw_or (pt_not (pt_val (pe_callB call_isi (by rfl) m.isi (by decide +kernel) (pa_cons (pv 0) (pa_cons (pe_bltn (v := .ty "list") (by rfl) m.list (by decide +kernel) rfl) pa_nil)))))
            (pw_or1 (pt_cmpR op_ne (pe_callB call_len_seq (by rfl) m.len PySem.boot_len (pa_cons (pv 0) pa_nil)) (pe_callB call_len_seq (by rfl) m.len PySem.boot_len (pa_cons (pv 1) pa_nil)) (nomark _))))) pss_never pss_nil)) pss_never)
      (pss_cons (ps_for PassesOwn.never rfl (pi_range1 (by rfl) m.range (pa_cons (pe_callB call_len_seq (by rfl) m.len PySem.boot_len (pa_cons (pv 1) pa_nil)) pa_nil)) (pg_name (i := 2) scLike.nd rfl (.inl rfl))
        (pss_one (ps_if (pt_not (pt_val (pe_call GI hr (by rfl) gF F.kp bF .nil pass0 (pa_cons (pe_ix ix_list (pv 0) (pv 2) (fun _ _ => rfl)) (pa_cons (pe_ix ix_list (pv 1) (pv 2) (fun _ _ => rfl)) pa_nil))))) pss_never pss_nil)))
      (pss_one (ps_ret pe_bl)))))))), ?_⟩
    have sa : SqL K H a (xs.map V.int) := .inl (.inl ea)
    have sb : SqL K H b (xs.map V.int) := .inl (.inl eb)
    refine ⟨.ref b, rfl, rfl, _, rfl, iteF ?_⟩
    refine ⟨.ref b, rfl, true, rfl, .inr ⟨b, rfl⟩, _, rfl, iteF ?_⟩
    refine ⟨.ref b, rfl, false, rfl, .inr ⟨b, rfl⟩, _, rfl, iteF ?_⟩
    refine ⟨.ref b, rfl, .ref b, .ty "str", .type "list", .type "str", false, rfl, .ty _, .base (.lst eb), kit_ty (by decide +kernel), _, rfl, iteF ?_⟩
    refine ⟨.ref b, rfl, .ref b, .ty "int", .type "list", .type "int", false, rfl, .ty _, .base (.lst eb), kit_ty (by decide +kernel), _, rfl, iteF ?_⟩
    refine ⟨.ref b, rfl, .ref b, .ty "list", .type "list", .type "list", true, rfl, .ty _, .base (.lst eb), kit_ty (by decide +kernel), _, rfl, iteT ?_⟩
    refine ⟨.ref a, rfl, .ref a, .ty "list", .type "list", .type "list", true, rfl, .ty _, .base (.lst ea), kit_ty (by decide +kernel), _, rfl, iteF ?_⟩
    refine ⟨.ref a, rfl, a, _, rfl, .inl sa, .ref b, rfl, b, _, rfl, .inl sb, rfl, _, rfl, iteNS rfl ?_⟩
    refine ⟨.ref b, rfl, b, _, rfl, .inl sb, ((xs.map V.int).length : Nat), rfl, ?_, ?_, ?_⟩
    · omega
    · rw [List.length_map]
      omega
    rw [Int.toNat_natCast, List.length_map]
    refine for_range (lo := 0) (n := xs.length) (fun i σ H3 => ∃ y2 : Option V, σ = [some (.ref a), some (.ref b), y2] ∧ H3 = H) ⟨none, rfl, rfl⟩ ?_ ?_
    · rintro i σ H3 hi ⟨y2, rfl, rfl⟩
      have ez : (0 : Int) + ((i : Nat) : Int) = ((i : Nat) : Int) := by omega
      have gv : (xs.map V.int)[i]? = some (.int xs[i]) := by
        rw [List.getElem?_map, List.getElem?_eq_getElem hi]
        rfl
      show tIfS _ _ _ _ [some (.ref a), some (.ref b), some (.int (0 + ((i : Nat) : Int)))] H3
      rw [ez]
      refine ⟨.ref a, rfl, .int i, rfl, a, _, i, _, rfl, rfl, sa, atI_nat gv, .ref b, rfl, .int i, rfl, b, _, i, _, rfl, rfl, sb, atI_nat gv, xs[i], xs[i], rfl, _, rfl, ?_⟩
      rw [decide_eq_true rfl]
      exact iteF ⟨_, rfl, rfl⟩
    · rintro σ H3 ⟨y2, rfl, rfl⟩
      exact q
end
end WR

set_option Elab.async false
set_option linter.all false
set_option maxRecDepth 100000
set_option maxHeartbeats 4000000
/-! The law's triangle, its span and its lists. -/
namespace WR
open PySem PySem.Spec PyProof.Rows L2

abbrev sList : Stmt := topS 14
abbrev sTri : Stmt := topS 15
abbrev sSpan : Stmt := topS 16
abbrev nList : List Str := ["_law_cell_here", "_law_total", "_law_head", "_law_draws_here", "_law_found", "_law_rest", "_law_k", "_law_part"]
theorem scList : FnScope nList ["_law_cell_here", "_law_total"] (defScope sList) := ⟨rfl, rfl, rfl, by decide +kernel, rfl, by decide +kernel, by decide +kernel⟩
abbrev nTri : List Str := ["_law_size", "_law_row", "_law_k", "_law_j"]
theorem scTri : FnScope nTri ["_law_size"] (defScope sTri) := ⟨rfl, rfl, rfl, by decide +kernel, rfl, by decide +kernel, by decide +kernel⟩
theorem scSpan : FnScope ["_law_sizes", "_law_k", "_law_every"] ["_law_sizes", "_law_k", "_law_every"] (defScope sSpan) := ⟨rfl, rfl, rfl, by decide +kernel, rfl, by decide +kernel, by decide +kernel⟩

/-! ### Pascal's rows -/
def tri (n : Nat) : List Nat := (List.range (n + 1)).map (ch n)
theorem tri_length (n : Nat) : (tri n).length = n + 1 := by
  unfold tri
  rw [List.length_map, List.length_range]
theorem tri_get {n j : Nat} (h : j ≤ n) : (tri n)[j]? = some (ch n j) := by
  unfold tri
  rw [List.getElem?_map, List.getElem?_range (by omega)]
  rfl
theorem tri_step (k : Nat) : tri (k + 1) = [1] ++ (List.range k).map (fun j => ch k j + ch k (j + 1)) ++ [1] := by
  unfold tri
  rw [List.range_succ_eq_map, List.map_cons, ch_zero, List.map_map, List.range_succ, List.map_append]
  have e : ((ch (k + 1)) ∘ Nat.succ) = fun j => ch k j + ch k (j + 1) := by
    funext j
    rfl
  rw [e]
  show 1 :: (_ ++ [ch k k + ch k (k + 1)]) = _
  rw [ch_self, ch_out (Nat.lt_succ_self k)]
  rfl
section
variable {P : Program} {w : World} {K : PySem.W.Frag} {mg : Str → Option Value} {base : Heap}
def spTri : Sp := fun vs H Q _ => ∃ n : Nat, vs = [.int n] ∧ n ≤ 500 ∧ ∀ (H' : Hp) (p : Addr), Same H H' → H p = none → H' p = some (.lst (vN (tri n))) → Q (.ref p) H'
theorem ok_tri {f : Addr} {fd : FuncData} {k : Nat} (F : Fun K "_law_triangle" "_law_triangle" sTri f fd) (mr : mg "range" = none) : FnOk P w K mg base CX0 (k + 1) f fd ["_law_size"] spTri := by
  refine F.ok scTri (fun vs H Q E h => ?_) (fun cdv A outer s H vs Q E hr h => ?_)
  · obtain ⟨n, rfl, _⟩ := h
    rfl
  · obtain ⟨n, rfl, hn, q⟩ := h
    refine ⟨_, pss_cons (ps_set (i := 1) scTri.nd rfl (.inr rfl) (pe_lst (pa_cons pe_int pa_nil)))
      (pss_cons (ps_for PassesOwn.never rfl (pi_range1 (by rfl) mr (pa_cons (pv 0) pa_nil)) (pg_name (i := 2) scTri.nd rfl (.inl rfl))
        (pss_one (ps_set (i := 1) scTri.nd rfl (.inr rfl) (pe_op op_cat (pe_op op_cat (pe_lst (pa_cons pe_int pa_nil))
          (pe_lc (own := [("_law_j", 3)]) (g := gName 3) (te := tOp (rI0 fun i j => .int (i + j)) (tOp (rIxL K) (tVar 1) (tVar 3)) (tOp (rIxL K) (tVar 1) (tOp (rI0 fun i j => .int (i + j)) (tVar 3) (tC (.int 1))))) (by rfl) scTri.nd (pi_range1 (by rfl) mr (pa_cons (pv 2) pa_nil))
            (blkOk_by (own := [("_law_j", 3)]) (N := nTri) (sc := defScope sTri) (by decide +kernel)) (fun _ _ _ _ _ => pg_name (i := 3) scTri.nd rfl (Or.inl rfl)) (fun _ _ _ _ _ => pts_nil)
            (fun _ _ _ _ _ => pe_op op_add (pe_ix ix_list (pv 1) (pv 3) (fun _ _ => rfl)) (pe_ix ix_list (pv 1) (pe_op op_add (pv 3) pe_int) (fun _ _ => rfl))))) (pe_lst (pa_cons pe_int pa_nil))))))
      (pss_one (ps_ret (pv 1)))), ?_⟩
    refine ⟨(by decide : 1 ≤ sizeLine), fun L hL => ?_⟩
    have s1 : Same H (upd H L (.lst [.int 1])) := same_new hL
    have eL : upd H L (.lst [.int 1]) L = some (.lst (vN (tri 0))) := upd_same
    generalize upd H L (.lst [.int 1]) = H1 at s1 eL
    refine ⟨.int n, rfl, n, rfl, by omega, by omega, ?_⟩
    rw [Int.toNat_natCast]
    refine for_range (lo := 0) (n := n) (fun i σ H3 => ∃ (L : Addr) (y2 : Option V), σ = [some (.int n), some (.ref L), y2, none] ∧ Same H H3 ∧ H L = none ∧ H3 L = some (.lst (vN (tri i)))) ⟨L, none, rfl, s1, hL, eL⟩ ?_ ?_
    · rintro i σ H3 hi ⟨L, y2, rfl, s3, hL, e3⟩
      have ez : (0 : Int) + ((i : Nat) : Int) = ((i : Nat) : Int) := by omega
      show tAsg _ _ _ [some (.int n), some (.ref L), some (.int (0 + ((i : Nat) : Int))), none] H3
      rw [ez]
      refine ⟨(by decide : 1 ≤ sizeLine), fun p1 h1 => ?_⟩
      have s4 := same_new (o := .lst [.int 1]) h1
      have e41 : upd H3 p1 (.lst [.int 1]) p1 = some (.lst [.int 1]) := upd_same
      generalize upd H3 p1 (.lst [.int 1]) = H4 at s4 e41
      refine ⟨.int i, rfl, i, rfl, by omega, by omega, fun D hD => ?_⟩
      rw [Int.toNat_natCast]
      refine lc_range (lo := 0) (n := i) (fun j H5 => H5 = upd H4 D (.lst (vN ((List.range j).map fun j => ch i j + ch i (j + 1))))) rfl ?_ ?_
      · rintro j H5 hj rfl
        have e5 : upd H4 D (.lst (vN ((List.range j).map fun j => ch i j + ch i (j + 1)))) L = some (.lst (vN (tri i))) := same_new hD _ _ (s4 _ _ e3)
        have ej : (0 : Int) + ((j : Nat) : Int) = ((j : Nat) : Int) := by omega
        show gName 3 (.int (0 + ((j : Nat) : Int))) _ _ _
        rw [ej]
        refine ⟨rfl, .ref L, rfl, .int j, rfl, L, _, j, _, rfl, rfl, .inl (.inl e5), atI_nat (vN_get (tri_get (by omega))), .ref L, rfl, .int j, rfl, j, 1, rfl, rfl, L, _, ((j + 1 : Nat) : Int), _, rfl, rfl, .inl (.inl e5), atI_nat (vN_get (tri_get (by omega))), _, _, rfl, rfl, _, upd_same, ?_, ?_⟩
        · rw [vN_length, List.length_map, List.length_range]
          exact small1000 (by omega)
        · rw [upd_upd, List.range_succ, List.map_append]
          show _ = upd H4 D (.lst (vN (_ ++ [ch i j + ch i (j + 1)])))
          rw [vN_app]
          rfl
      · rintro H5 rfl
        refine ⟨p1, D, _, _, rfl, rfl, same_new hD _ _ e41, upd_same, ?_, fun p2 h2 => ?_⟩
        · rw [vN_length, List.length_map, List.length_range]
          exact small (by show 1 + i ≤ 1000; omega)
        have s5 := same_keep (o := .lst (vN ((List.range i).map fun j => ch i j + ch i (j + 1)))) s4 (s4.free hD)
        have e62 : upd (upd H4 D (.lst (vN ((List.range i).map fun j => ch i j + ch i (j + 1))))) p2 (.lst ([.int 1] ++ vN ((List.range i).map fun j => ch i j + ch i (j + 1)))) p2 = some (.lst (vN ([1] ++ (List.range i).map fun j => ch i j + ch i (j + 1)))) := upd_same
        have s6 := same_keep (o := .lst ([.int 1] ++ vN ((List.range i).map fun j => ch i j + ch i (j + 1)))) s5 (s5.free h2)
        generalize upd (upd H4 D (.lst (vN ((List.range i).map fun j => ch i j + ch i (j + 1))))) p2 (.lst ([.int 1] ++ vN ((List.range i).map fun j => ch i j + ch i (j + 1)))) = H6 at e62 s6
        refine ⟨(by decide : 1 ≤ sizeLine), fun p3 h3 => ⟨p2, p3, _, _, rfl, rfl, same_new h3 _ _ e62, upd_same, ?_, fun p4 h4 => ?_⟩⟩
        · rw [vN_length, List.length_append, List.length_map, List.length_range]
          exact small (by show 1 + i + 1 ≤ 1000; omega)
        have s7 := same_keep (o := .lst [.int 1]) s6 (s6.free h3)
        have fr : H3 p4 = none := s7.free h4
        refine ⟨p4, _, rfl, s3.trans (same_keep s7 fr), s3.free fr, ?_⟩
        rw [upd_same, tri_step, vN_app]
        rfl
    · rintro σ H3 ⟨L, y2, rfl, s3, hL, e3⟩
      exact ⟨.ref L, rfl, q H3 L s3 hL e3⟩

/-! ### _law_span -/
theorem cut_tail (xs : List V) : cutV xs (some 1) none = xs.drop 1 := by
  unfold cutV
  have e : HT.sIx xs.length 0 (some 1) = min 1 xs.length := HT.sIx_nat xs.length 0 1
  rw [e, HT.sIx_none]
  cases xs with
  | nil => rfl
  | cons x r =>
    have e1 : min 1 (x :: r).length = 1 := by
      rw [List.length_cons]
      omega
    rw [e1, List.length_cons, Nat.add_sub_cancel]
    exact List.take_of_length_le (Nat.le_refl _)
def spSpan (K : PySem.W.Frag) : Sp := fun vs H Q _ => ∃ (a b : Addr) (w : List Nat) (n k : Nat), vs = [.ref a, .int k, .ref b] ∧ SqL K H a (vN w) ∧ SqL K H b (vN (tri n)) ∧ Ok w ∧ w.sum = n + 1 ∧ k ≤ n + 1 ∧ n ≤ 500 ∧
  ∀ (H' : Hp) (p : Addr) (lo hi : Int), Same H H' → H p = none → H' p = some (.tup [.int lo, .int hi]) → lo ≤ (rw_ (n + 1) w k : Nat) → ((rw_ (n + 1) w k : Nat) : Int) ≤ hi → Q (.ref p) H'
theorem ok_span {f : Addr} {fd : FuncData} {k : Nat} (F : Fun K "_law_span" "_law_span" sSpan f fd) (ml : mg "len" = none) (ms : mg "sum" = none) : FnOk P w K mg base CX0 (k + 1) f fd ["_law_sizes", "_law_k", "_law_every"] (spSpan K) := by
  refine F.ok scSpan (fun vs H Q E h => ?_) (fun cdv A outer s H vs Q E hr h => ?_)
  · obtain ⟨a, b, w, n, k, rfl, _⟩ := h
    rfl
  · obtain ⟨a, b, w, n, k, rfl, hA, hB, hok, hs, hk, hn, q⟩ := h
    refine ⟨_, pss_cons (ps_if (PW.pt (pw_or (pt_cmpR op_eq (pv 1) (pe_callB call_len_seq (by rfl) ml PySem.boot_len (pa_cons (pv 2) pa_nil)) (nomark _))
          (pw_or1 (pt_cmpR op_gt (pv 1) (pe_callB (cr_sum rfl) (by rfl) ms (by decide +kernel) (pa_cons (pe_slice sl_list (pv 0) (po_some pe_int) po_none) pa_nil)) (nomark _)))))
        (pss_one (ps_ret (pe_tup (pa_cons pe_int (pa_cons pe_int pa_nil))))) pss_nil)
      (pss_cons (ps_if (PW.pt (pw_or (pt_cmpR op_eq (pv 1) pe_int (nomark _)) (pw_or1 (pt_cmpR op_gt (pe_callB call_len_seq (by rfl) ml PySem.boot_len (pa_cons (pv 0) pa_nil)) (pv 1) (nomark _)))))
        (pss_one (ps_ret (pe_tup (pa_cons (pe_ix ix_list (pv 2) (pv 1) (fun _ _ => rfl)) (pa_cons (pe_ix ix_list (pv 2) (pv 1) (fun _ _ => rfl)) pa_nil))))) pss_nil)
      (pss_one (ps_ret (pe_tup (pa_cons pe_int (pa_cons (pe_op op_sub (pe_ix ix_list (pv 2) (pv 1) (fun _ _ => rfl)) pe_int) pa_nil)))))), ?_⟩
    have R := rowOk n hok hs
    have hb := behind_lt hok (ne_nil_of_sum hs)
    have zero : rw_ (n + 1) w k = 0 → ∀ H' p, Same H H' → H' p = none → Q (.ref p) (upd H' p (.tup [.int 0, .int 0])) := fun z H' p sm hp => q _ p 0 0 (same_keep sm (sm.free hp)) (sm.free hp) upd_same (by rw [z]; exact Int.le_refl _) (by rw [z]; exact Int.le_refl _)
    refine ⟨.int k, rfl, .ref b, rfl, b, _, rfl, .inl hB, rfl, _, rfl, ite2 (fun e => ?_) (fun e => ?_)⟩
    · have ek := V.int.inj (of_decide_eq_true e)
      rw [vN_length, tri_length] at ek
      exact iteT ⟨(by decide : 2 ≤ sizeLine), fun p hp => zero (R.none k (by omega)) H p (Same.refl _) hp⟩
    · have ek : k ≠ n + 1 := fun z => e (decide_eq_true (by rw [vN_length, tri_length, z]))
      refine ⟨.int k, rfl, .ref a, rfl, 1, rfl, a, _, rfl, hA, fun c hc => ?_⟩
      have s1 := same_new (o := .lst (cutV (vN w) (some 1) none)) hc
      have e1 : upd H c (.lst (cutV (vN w) (some 1) none)) c = some (.lst (vN w.tail)) := by
        rw [upd_same, cut_tail]
        show some (HO.lst (((w.map fun (n : Nat) => (n : Int)).map V.int).drop 1)) = some (.lst ((w.tail.map fun (n : Nat) => (n : Int)).map V.int))
        rw [List.drop_one, ← List.map_tail, ← List.map_tail]
      generalize upd H c (.lst (cutV (vN w) (some 1) none)) = H1 at s1 e1
      refine ⟨c, vi w.tail, rfl, .inl (.inl e1), _, _, rfl, rfl, _, rfl, ite2 (fun e2 => ?_) (fun e2 => ?_)⟩
      · have e3 := of_decide_eq_true e2
        rw [vi_sum] at e3
        exact ⟨(by decide : 2 ≤ sizeLine), fun p hp => zero (R.none k (by show w.tail.sum < k; omega)) H1 p s1 hp⟩
      · have e3 : k ≤ behind w := by
          have : ¬ ((vi w.tail).sum < (k : Int)) := fun z => e2 (decide_eq_true z)
          rw [vi_sum] at this
          show k ≤ w.tail.sum
          omega
        have sB := s1.seq hB
        have gk : atI (vN (tri n)) (k : Int) = some (.int (ch n k : Nat)) := atI_nat (vN_get (tri_get (by omega)))
        have full : (k = 0 ∨ k < w.length) → ∀ p, H1 p = none → Q (.ref p) (upd H1 p (.tup [.int (ch n k : Nat), .int (ch n k : Nat)])) := fun c p hp => by
          have e4 := R.full k (by omega) c
          exact q _ p _ _ (same_keep s1 (s1.free hp)) (s1.free hp) upd_same (by rw [e4]; exact Int.le_refl _) (by rw [e4]; exact Int.le_refl _)
        refine ⟨.int k, rfl, rfl, _, rfl, ite2 (fun e4 => ?_) (fun e4 => ?_)⟩
        · have e5 : k = 0 := by
            have := V.int.inj (of_decide_eq_true e4)
            omega
          exact iteT ⟨.ref b, rfl, .int k, rfl, b, _, k, _, rfl, rfl, sB, gk, .ref b, rfl, .int k, rfl, b, _, k, _, rfl, rfl, sB, gk, (by decide : 2 ≤ sizeLine), fun p hp => full (.inl e5) p hp⟩
        · have e5 : k ≠ 0 := fun z => e4 (decide_eq_true (by rw [z]; rfl))
          refine ⟨.ref a, rfl, a, _, rfl, .inl (s1.seq hA), .int k, rfl, _, _, rfl, rfl, _, rfl, ite2 (fun e6 => ?_) (fun e6 => ?_)⟩
          · have e7 := of_decide_eq_true e6
            rw [vN_length] at e7
            exact ⟨.ref b, rfl, .int k, rfl, b, _, k, _, rfl, rfl, sB, gk, .ref b, rfl, .int k, rfl, b, _, k, _, rfl, rfl, sB, gk, (by decide : 2 ≤ sizeLine), fun p hp => full (.inr (by omega)) p hp⟩
          · have e7 : w.length ≤ k := by
              have : ¬ ((k : Int) < (vN w).length) := fun z => e6 (decide_eq_true z)
              rw [vN_length] at this
              omega
            refine ⟨.ref b, rfl, .int k, rfl, b, _, k, _, rfl, rfl, sB, gk, _, _, rfl, rfl, (by decide : 2 ≤ sizeLine), fun p hp => q _ p _ _ (same_keep s1 (s1.free hp)) (s1.free hp) upd_same ?_ ?_⟩
            · have := R.some k e3
              omega
            · have := R.less k (by omega) (by omega) e7
              omega
end
end WR

set_option Elab.async false
set_option linter.all false
set_option maxRecDepth 100000
set_option maxHeartbeats 4000000
/-! The law's lists. -/
namespace WR
open PySem PySem.Spec PyProof.Rows L2
theorem sum_pos_len : ∀ {xs : List Int}, (∀ x ∈ xs, 1 ≤ x) → (xs.length : Int) ≤ xs.sum
  | [], _ => by simp
  | a :: r, h => by
    have h1 := h a List.mem_cons_self
    have h2 := sum_pos_len (xs := r) fun x hx => h x (List.mem_cons_of_mem _ hx)
    rw [List.sum_cons, List.length_cons]
    omega
theorem perm_sum {a b : List Int} (p : a.Perm b) : a.sum = b.sum := by
  induction p with
  | nil => rfl
  | cons x _ ih => rw [List.sum_cons, List.sum_cons, ih]
  | swap x y l =>
    rw [List.sum_cons, List.sum_cons, List.sum_cons, List.sum_cons]
    omega
  | trans _ _ h1 h2 => rw [h1, h2]
/-- whole numbers from 1 on as a size list -/
theorem as_sizes {xs : List Int} (h : ∀ x ∈ xs, 1 ≤ x) (d : xs.Pairwise (· ≥ ·)) : ∃ w, vi w = xs ∧ Ok w := by
  refine ⟨xs.map Int.toNat, ?_, ?_, ?_⟩
  · unfold vi
    rw [List.map_map]
    refine (List.map_congr_left fun x hx => ?_).trans (List.map_id _)
    have := h x hx
    show ((x.toNat : Nat) : Int) = x
    omega
  · rw [List.pairwise_map]
    refine d.imp fun {a b} e => ?_
    omega
  · intro x hx
    obtain ⟨y, hy, rfl⟩ := List.mem_map.mp hx
    have := h y hy
    omega

theorem rep_flat {α : Type} (x : α) : ∀ n : Nat, (List.replicate n [x]).flatten = List.replicate n x
  | 0 => rfl
  | n + 1 => by
    rw [List.replicate_succ, List.flatten_cons, rep_flat x n, List.replicate_succ]
    rfl
section
variable {P : Program} {w : World} {K : PySem.W.Frag} {mg : Str → Option Value} {base : Heap}
structure ListNames (mg : Str → Option Value) : Prop where
  max : mg "max" = none
  min : mg "min" = none
  range : mg "range" = none
  int : mg "int" = none
  sorted : mg "sorted" = none
def spList : Sp := fun vs H Q _ => ∃ (c : Int) (n : Nat), vs = [.int c, .int n] ∧ 0 ≤ c ∧ 1 ≤ n ∧ n ≤ 100 ∧ ∀ (H' : Hp) (p : Addr) (w : List Nat), Same H H' → H p = none → Ok w → w.sum = n → H' p = some (.lst (vN w)) → Q (.ref p) H'
theorem ok_list {f fD : Addr} {fd fdD : FuncData} {k : Nat} (F : Fun K "_law_list" "_law_list" sList f fd) (GD : FnOk P w K mg base CX0 (k + 2) fD fdD ["_law_cell_here", "_law_menu"] (spDraws K)) (kD : PySem.W.keepIn K (.ref fD) = true) (bD : Binds K fdD ["_law_cell_here", "_law_menu"] [])
    (gD : mg "_law_draws" = some (.ref fD)) (m : ListNames mg) : FnOk P w K mg base CX0 (k + 3) f fd ["_law_cell_here", "_law_total"] spList := by
  refine F.ok scList (fun vs H Q E h => ?_) (fun cdv A outer s H vs Q E hr h => ?_)
  · obtain ⟨c, n, rfl, _⟩ := h
    rfl
  · obtain ⟨c, n, rfl, hc, hn1, hn2, q⟩ := h
    refine ⟨_, pss_cons (ps_set (i := 2) scList.nd rfl (.inl rfl) (pe_call GD hr (by rfl) gD kD bD .nil pass0 (pa_cons (pv 0) (pa_cons (pe_lst (pa_cons pe_int (pa_cons pe_int pa_nil))) pa_nil))))
      (pss_cons (ps_set (i := 3) scList.nd rfl (.inl rfl) (pe_call GD hr (by rfl) gD kD bD .nil pass0 (pa_cons (pv 0) (pa_cons (pe_op op_cat (pe_lst (pa_cons pe_int (pa_cons pe_int pa_nil)))
          (pe_op op_rep (pe_lst (pa_cons (pe_callB (call_max2 rfl) (by rfl) m.max (by decide +kernel) (pa_cons pe_int (pa_cons (pv 1) pa_nil))) pa_nil)) (pv 1))) pa_nil))))
      (pss_cons (ps_set (i := 4) scList.nd rfl (.inl rfl) (pe_lst pa_nil))
      (pss_cons (ps_set (i := 5) scList.nd rfl (.inl rfl) (pv 1))
      (pss_cons (ps_for PassesOwn.never rfl (pi_range1 (by rfl) m.range (pa_cons (pv 1) pa_nil)) (pg_name (i := 6) scList.nd rfl (.inl rfl))
        (pss_one (ps_if (pt_cmpR op_gt (pv 5) pe_int (nomark _))
          (pss_cons (ps_set (i := 7) scList.nd rfl (.inl rfl) (pe_op op_add pe_int (pe_op op_mod (pe_callTy call_int1 (by rfl) m.int (by decide +kernel) (pa_cons (pe_ix ix_list (pv 3) (pe_op op_add pe_int (pv 6)) (fun _ _ => rfl)) pa_nil)) (pv 5))))
          (C8.pss_cut (ps_if (pt_cmpR op_eq (pe_ix ix_list (pv 2) pe_int (fun _ _ => rfl)) pe_int (nomark _))
            (pss_one (ps_set (i := 7) scList.nd rfl (.inl rfl) (pe_op op_add pe_int (pe_op op_mod (pe_callTy call_int1 (by rfl) m.int (by decide +kernel) (pa_cons (pe_ix ix_list (pv 3) (pe_op op_add pe_int (pv 6)) (fun _ _ => rfl)) pa_nil))
              (pe_callB (call_min2 rfl) (by rfl) m.min (by decide +kernel) (pa_cons (pv 5) (pa_cons pe_int pa_nil))))))) pss_nil)
          (C8.pss_cut (ps_if (pt_cmpR op_eq (pe_ix ix_list (pv 2) pe_int (fun _ _ => rfl)) pe_int (nomark _))
            (pss_one (ps_set (i := 7) scList.nd rfl (.inl rfl) (pe_callB (call_min2 rfl) (by rfl) m.min (by decide +kernel) (pa_cons (pv 5) (pa_cons (pe_op op_add (pe_op op_add pe_int (pe_ix ix_list (pv 2) pe_int (fun _ _ => rfl)))
              (pe_op op_mod (pe_callTy call_int1 (by rfl) m.int (by decide +kernel) (pa_cons (pe_ix ix_list (pv 3) (pe_op op_add pe_int (pv 6)) (fun _ _ => rfl)) pa_nil)) pe_int)) pa_nil))))) pss_nil)
          (C8.pss_cut (ps_if (PW.pt (pw_and (pt_cmpR op_eq (pe_ix ix_list (pv 2) pe_int (fun _ _ => rfl)) pe_int (nomark _)) (pw_and1 (pt_cmpR op_gt (pv 6) pe_int (nomark _)))))
            (pss_one (ps_set (i := 7) scList.nd rfl (.inl rfl) pe_int)) pss_nil)
          (pss_cons (ps_expr (pe_bm PySem.F.plainAttrs_list PySem.F.slot_list_append PySem.F.type_list_append mt_append (pv 4) (pa_cons (pv 7) pa_nil)))
          (pss_one (ps_set (i := 5) scList.nd rfl (.inl rfl) (pe_op op_sub (pv 5) (pv 7)))))))))
          pss_nil)))
      (pss_one (ps_ret (pe_callBK (cr_sortedRev (b := true)) (by rfl) m.sorted (by decide +kernel) (pa_cons (pv 4) pa_nil) (pk_cons pe_bl pk_nil)))))))), ?_⟩
    -- the head
    refine ⟨.int c, rfl, (by decide : 2 ≤ sizeLine), fun p0 h0 => ?_⟩
    have s0 := same_new (o := .lst [.int 4, .int 9]) h0
    refine ⟨c, p0, [4, 9], rfl, hc, .inl (.inl upd_same), (by decide), (by decide), fun H1 hd r0 sm1 hp1 e1 b1 => ?_⟩
    obtain ⟨h0, h1, rfl⟩ : ∃ h0 h1, r0 = [h0, h1] := by
      have := b1.1
      match r0, this with
      | [x, y], _ => exact ⟨x, y, rfl⟩
    have g0 := b1.2 0 h0 4 rfl rfl
    have g1 := b1.2 1 h1 9 rfl rfl
    have s1 : Same H H1 := s0.trans sm1
    have e1 : H1 hd = some (.lst [.int h0, .int h1]) := e1
    clear sm1 b1 s0 hp1
    -- the draws
    refine ⟨.int c, rfl, (by decide : 2 ≤ sizeLine), fun p1 h2 => ⟨.int n, rfl, 1, n, rfl, (by decide : 1 ≤ sizeLine), fun p2 h3 => ?_⟩⟩
    have mx : (0 : Int) < (if (n : Int) > 1 then (n : Int) else 1) ∧ (if (n : Int) > 1 then (n : Int) else 1) ≤ 1000 := by
      split <;> omega
    generalize (if (n : Int) > 1 then (n : Int) else 1) = mx_ at mx h3
    have s2 := same_keep (o := .lst [.int 4, .int 9]) s1 (s1.free h2)
    have e21 : upd H1 p1 (.lst [.int 4, .int 9]) p1 = some (.lst [.int 4, .int 9]) := upd_same
    have k2 := same_new (o := .lst [.int 4, .int 9]) h2
    generalize upd H1 p1 (.lst [.int 4, .int 9]) = H2 at s2 e21 k2 h3
    refine ⟨.int n, rfl, p2, n, [.int mx_], rfl, rfl, upd_same, by omega, by omega, ?_, fun p3 h4 => ?_⟩
    · rw [Int.toNat_natCast, List.length_singleton, Nat.one_mul]
      exact small (by omega)
    have s3 := same_keep (o := .lst [.int mx_]) s2 (s2.free h3)
    have k3 := k2.trans (same_new (o := .lst [.int mx_]) h3)
    have e31 := same_new (o := .lst [.int mx_]) h3 _ _ e21
    rw [Int.toNat_natCast, rep_flat]
    generalize upd H2 p2 (.lst [.int mx_]) = H3 at s3 e31 k3 h4
    refine ⟨p1, p3, _, _, rfl, rfl, same_new h4 _ _ e31, upd_same, ?_, fun p4 h5 => ?_⟩
    · rw [List.length_replicate]
      exact small (by show 2 + n ≤ 1000; omega)
    have s4 := same_keep (o := .lst (List.replicate n (V.int mx_))) s3 (s3.free h4)
    have k4 := k3.trans (same_new (o := .lst (List.replicate n (V.int mx_))) h4)
    generalize upd H3 p3 (.lst (List.replicate n (V.int mx_))) = H4 at s4 k4 h5
    have emenu : [V.int 4, V.int 9] ++ List.replicate n (V.int mx_) = ([4, 9] ++ List.replicate n mx_ : List Int).map V.int := by
      rw [List.map_append, List.map_replicate]
      rfl
    rw [emenu]
    have k5 := k4.trans (same_new (o := .lst (([4, 9] ++ List.replicate n mx_ : List Int).map V.int)) h5)
    have s5 := same_keep (o := .lst (([4, 9] ++ List.replicate n mx_ : List Int).map V.int)) s4 (s4.free h5)
    refine ⟨c, p4, [4, 9] ++ List.replicate n mx_, rfl, hc, .inl (.inl upd_same), ?_, fun x hx => ?_, fun H6 dr rs sm6 hp6 e6 b6 => ?_⟩
    · rw [List.length_append, List.length_replicate]
      show 2 + n ≤ 1000
      omega
    · rcases List.mem_append.mp hx with hx | hx
      · rcases List.mem_cons.mp hx with rfl | hx
        · decide
        · rw [List.mem_singleton.mp hx]
          decide
      · rw [List.eq_of_mem_replicate hx]
        exact mx
    have lrs : rs.length = 2 + n := by
      rw [b6.1, List.length_append, List.length_replicate]
      rfl
    have s6 := s5.trans sm6
    have e6h : H6 hd = some (.lst [.int h0, .int h1]) := sm6 _ _ (k5 _ _ e1)
    clear k2 k3 k4 k5 s2 s3 s4 s5 sm6 b6 e31 e21 emenu mx
    -- found = [], rest = total
    refine ⟨Nat.zero_le _, fun L hL => ?_⟩
    have s7 := same_keep (o := .lst []) s6 (s6.free hL)
    have k7 := same_new (o := .lst []) hL
    have eL : upd H6 L (.lst []) L = some (.lst []) := upd_same
    have fL : H L = none := s6.free hL
    have nhL : hd ≠ L := ne_of_none e6h hL
    have ndL : dr ≠ L := ne_of_none e6 hL
    have e7h := k7 _ _ e6h
    have e7d := k7 _ _ e6
    generalize upd H6 L (.lst []) = H7 at s7 k7 eL e7h e7d
    refine ⟨.int n, rfl, .int n, rfl, n, rfl, by omega, by omega, ?_⟩
    rw [Int.toNat_natCast]
    refine for_range (lo := 0) (n := n) (fun i σ H8 => ∃ (rest : Int) (y6 y7 : Option V) (fs : List Int), σ = [some (.int c), some (.int n), some (.ref hd), some (.ref dr), some (.ref L), some (.int rest), y6, y7] ∧ Same H H8 ∧ H8 hd = some (.lst [.int h0, .int h1]) ∧ H8 dr = some (.lst (rs.map V.int)) ∧
        H8 L = some (.lst (fs.map V.int)) ∧ (∀ x ∈ fs, 1 ≤ x) ∧ fs.sum + rest = n ∧ 0 ≤ rest ∧ rest ≤ (n : Int) - i)
      ⟨n, none, none, [], rfl, s7, e7h, e7d, eL, (fun x hx => nomatch hx), by simp, by omega, by omega⟩ ?_ ?_
    · rintro i σ H8 hi ⟨rest, y6, y7, fs, rfl, s8, e8h, e8d, e8L, hfs, hsum, hr0, hr1⟩
      have ez : (0 : Int) + ((i : Nat) : Int) = ((i : Nat) : Int) := by omega
      show tIfS _ _ _ _ [some (.int c), some (.int n), some (.ref hd), some (.ref dr), some (.ref L), some (.int rest), some (.int (0 + ((i : Nat) : Int))), y7] H8
      rw [ez]
      obtain ⟨dv, hdv⟩ : ∃ dv, rs[2 + i]? = some dv := ⟨_, List.getElem?_eq_getElem (by omega)⟩
      have gd : atI (rs.map V.int) (2 + (i : Int)) = some (.int dv) := at_of (j := 2 + i) (by omega) (by rw [List.getElem?_map, hdv]; rfl)
      have sh : SqL K H8 hd [.int h0, .int h1] := .inl (.inl e8h)
      have sd : SqL K H8 dr (rs.map V.int) := .inl (.inl e8d)
      refine ⟨.int rest, rfl, _, 0, rfl, rfl, _, rfl, ite2 (fun e => ?_) (fun e => ?_)⟩
      · have hp : 0 < rest := of_decide_eq_true e
        -- the first part
        refine ⟨.ref dr, rfl, .int i, rfl, 2, i, rfl, rfl, dr, _, _, _, rfl, rfl, sd, gd, .inl ⟨dv, rfl, .int rest, rfl, dv, rest, rfl, rfl, hp, 1, _, rfl, rfl, ?_⟩⟩
        have p1 : 1 ≤ 1 + dv % rest ∧ 1 + dv % rest ≤ rest := by
          have h1 := Int.emod_nonneg dv (show rest ≠ 0 by omega)
          have h2 := Int.emod_lt_of_pos dv hp
          omega
        dsimp only
        generalize 1 + dv % rest = part at p1 ⊢
        refine ⟨fun σ' H' => ∃ part : Int, σ' = [some (.int c), some (.int n), some (.ref hd), some (.ref dr), some (.ref L), some (.int rest), some (.int i), some (.int part)] ∧ H' = H8 ∧ 1 ≤ part ∧ part ≤ rest, ?_, ?_⟩
        · refine ⟨.ref hd, rfl, hd, _, 0, _, rfl, rfl, sh, atI_nat (j := 0) rfl, rfl, _, rfl, ite2 (fun _ => ?_) (fun _ => ⟨part, rfl, rfl, p1.1, p1.2⟩)⟩
          refine ⟨.ref dr, rfl, .int i, rfl, 2, i, rfl, rfl, dr, _, _, _, rfl, rfl, sd, gd, .inl ⟨dv, rfl, .int rest, rfl, rest, 3, rfl, ?_⟩⟩
          have hm : 0 < (if (3 : Int) < rest then 3 else rest) ∧ (if (3 : Int) < rest then 3 else rest) ≤ rest := by
            split <;> omega
          generalize (if (3 : Int) < rest then 3 else rest) = mn at hm ⊢
          refine ⟨dv, mn, rfl, rfl, hm.1, 1, _, rfl, rfl, _, rfl, rfl, ?_, ?_⟩
          · have h1 := Int.emod_nonneg dv (show mn ≠ 0 by omega)
            omega
          · have h2 := Int.emod_lt_of_pos dv hm.1
            omega
        · rintro σ' H' ⟨part, rfl, rfl, p1⟩
          refine ⟨fun σ' H9 => ∃ part : Int, σ' = [some (.int c), some (.int n), some (.ref hd), some (.ref dr), some (.ref L), some (.int rest), some (.int i), some (.int part)] ∧ H9 = H' ∧ 1 ≤ part ∧ part ≤ rest, ?_, ?_⟩
          · refine ⟨.ref hd, rfl, hd, _, 0, _, rfl, rfl, sh, atI_nat (j := 0) rfl, rfl, _, rfl, ite2 (fun _ => ?_) (fun _ => ⟨part, rfl, rfl, p1.1, p1.2⟩)⟩
            refine ⟨.int rest, rfl, .ref hd, rfl, hd, _, 1, _, rfl, rfl, sh, atI_nat (j := 1) rfl, 1, h1, rfl, rfl, .ref dr, rfl, .int i, rfl, 2, i, rfl, rfl, dr, _, _, _, rfl, rfl, sd, gd, .inl ⟨dv, rfl, dv, 2, rfl, rfl, (by show (0 : Int) < 2; decide), _, _, rfl, rfl, rest, _, rfl, _, rfl, rfl, ?_⟩⟩
            have h1 := Int.emod_nonneg dv (show (2 : Int) ≠ 0 by decide)
            split <;> omega
          · rintro σ' H9 ⟨part, rfl, rfl, p1⟩
            refine ⟨fun σ' H8 => ∃ part : Int, σ' = [some (.int c), some (.int n), some (.ref hd), some (.ref dr), some (.ref L), some (.int rest), some (.int i), some (.int part)] ∧ H8 = H9 ∧ 1 ≤ part ∧ part ≤ rest, ?_, ?_⟩
            · refine ⟨.ref hd, rfl, hd, _, 0, _, rfl, rfl, sh, atI_nat (j := 0) rfl, rfl, _, rfl, ite2 (fun _ => ⟨.int i, rfl, _, 0, rfl, rfl, _, rfl, ite2 (fun _ => ⟨1, rfl, rfl, by omega, by omega⟩) (fun _ => ⟨part, rfl, rfl, p1.1, p1.2⟩)⟩) (fun _ => iteF ⟨part, rfl, rfl, p1.1, p1.2⟩)⟩
            · rintro σ' H8 ⟨part, rfl, rfl, p1, p2⟩
              have hfl := sum_pos_len hfs
              refine ⟨.ref L, rfl, .inl ⟨rfl, _, .inl (.inl e8L)⟩, .int part, rfl, L, _, _, rfl, rfl, e8L, ?_, ?_⟩
              · rw [List.length_map]
                exact small1000 (by omega)
              refine ⟨.int rest, rfl, .int part, rfl, rest, part, rfl, rfl, rest - part, _, _, fs ++ [part], rfl, same_keep s8 fL, ?_, ?_, ?_, ?_, ?_, by omega, by omega⟩
              · rw [upd_ne nhL]
                exact e8h
              · rw [upd_ne ndL]
                exact e8d
              · rw [upd_same, List.map_append]
                rfl
              · intro x hx
                rcases List.mem_append.mp hx with hx | hx
                · exact hfs x hx
                · rw [List.mem_singleton.mp hx]
                  exact p1
              · rw [List.sum_append]
                simp
                omega
      · have h0 : rest = 0 := by
          have : ¬ (0 < rest) := fun z => e (decide_eq_true z)
          omega
        exact ⟨rest, _, _, fs, rfl, s8, e8h, e8d, e8L, hfs, hsum, hr0, by omega⟩
    · rintro σ H8 ⟨rest, y6, y7, fs, rfl, s8, e8h, e8d, e8L, hfs, hsum, hr0, hr1⟩
      refine ⟨.ref L, rfl, L, fs, rfl, rfl, .inl (.inl e8L), fun ns p hp hd hn => ?_⟩
      obtain ⟨w, ew, hw⟩ := as_sizes (fun x hx => hfs x (hp.mem_iff.mp hx)) (show ns.Pairwise (· ≥ ·) from hd)
      have hws : w.sum = n := by
        have h1 := perm_sum hp
        have h2 := vi_sum w
        rw [ew] at h2
        omega
      refine q _ p w (same_keep s8 (s8.free hn)) (s8.free hn) hw hws ?_
      rw [upd_same, ← ew]
end
end WR

set_option Elab.async false
set_option linter.all false
set_option maxRecDepth 100000
set_option maxHeartbeats 4000000
/-! The law. -/
namespace WR
open PySem PySem.Spec PyProof.Rows L2
abbrev sLaw : Stmt := topS 17
abbrev nLaw : List Str := ["_law_script", "_law_head", "_law_sizes", "_law_total", "_law_every", "_law_given", "_law_told", "_law_k", "_law_span_here", "_law_first"]
theorem scLaw : FnScope nLaw ["_law_script"] (defScope sLaw) := ⟨rfl, rfl, rfl, by decide +kernel, rfl, by decide +kernel, by decide +kernel⟩
section
variable {P : Program} {w : World} {K : PySem.W.Frag} {mg : Str → Option Value} {base : Heap}
/-- the built-in names of the law's own body -/
structure LawNames (mg : Str → Option Value) : Prop where
  sum : mg "sum" = none
  list : mg "list" = none
  isi : mg "isinstance" = none
  len : mg "len" = none
  range : mg "range" = none
  int : mg "int" = none
  bool : mg "bool" = none
/-- a def that keeps its promise, and how it is called -/
structure Has (P : Program) (w : World) (K : PySem.W.Frag) (mg : Str → Option Value) (base : Heap) (k : Nat) (x : Str) (ps : List Str) (sp : Sp) where
  f : Addr
  fd : FuncData
  ok : FnOk P w K mg base CX0 k f fd ps sp
  kp : PySem.W.keepIn K (.ref f) = true
  bd : Binds K fd ps []
  at_ : mg x = some (.ref f)
theorem line_ok (a n : Nat) (h : 1 ≤ a) : Ok (a :: List.replicate n 1) := by
  refine ok_cons.mpr ⟨h, fun b hb => ?_, ?_, fun x hx => ?_⟩
  · rw [List.eq_of_mem_replicate hb]
    exact h
  · exact List.pairwise_replicate.mpr (.inr (Nat.le_refl _))
  · rw [List.eq_of_mem_replicate hx]
    exact Nat.le_refl _
theorem line_sum (a n : Nat) : (a :: List.replicate n 1).sum = a + n := by
  rw [List.sum_cons, List.sum_replicate_nat]
  simp
def spLaw (K : PySem.W.Frag) : Sp := fun vs H Q _ => ∃ (a : Addr) (ns : List Int), vs = [.ref a] ∧ SqL K H a (ns.map V.int) ∧ ∀ H' : Hp, Q (.bl true) H'
theorem ok_law {f : Addr} {fd : FuncData} (F : Fun K "law" "law" sLaw f fd) (m : LawNames mg)
    (hCell : Has P w K mg base 6 "_law_cell" ["_law_script", "_law_k"] (spCell K)) (hDraws : Has P w K mg base 6 "_law_draws" ["_law_cell_here", "_law_menu"] (spDraws K)) (hList : Has P w K mg base 6 "_law_list" ["_law_cell_here", "_law_total"] spList)
    (hTri : Has P w K mg base 6 "_law_triangle" ["_law_size"] spTri) (hRaid : Has P w K mg base 6 "raid_counts" ["sizes"] (spRaid K)) (hLike : Has P w K mg base 6 "_law_like" ["_law_actual", "_law_due"] spLikeL)
    (hSpan : Has P w K mg base 6 "_law_span" ["_law_sizes", "_law_k", "_law_every"] (spSpan K)) : FnOk P w K mg base CX0 7 f fd ["_law_script"] (spLaw K) := by
  refine F.ok scLaw (fun vs H Q E h => ?_) (fun cdv A outer s H vs Q E hr h => ?_)
  · obtain ⟨a, ns, rfl, _⟩ := h
    rfl
  · obtain ⟨a, ns, rfl, hS, q⟩ := h
    refine ⟨_, pss_cons (ps_set (i := 1) scLaw.nd rfl (.inl rfl) (pe_call hDraws.ok hr (by rfl) hDraws.at_ hDraws.kp hDraws.bd .nil pass0 (pa_cons (pe_call hCell.ok hr (by rfl) hCell.at_ hCell.kp hCell.bd .nil pass0 (pa_cons (pv 0) (pa_cons pe_int pa_nil)))
        (pa_cons (pe_lst (pa_cons pe_int (pa_cons pe_int (pa_cons pe_int (pa_cons pe_int (pa_cons pe_int (pa_cons pe_int (pa_cons pe_int pa_nil)))))))) pa_nil))))
      (C8.pss_cut (ps_if (pt_cmpR op_eq (pe_ix ix_list (pv 1) pe_int (fun _ _ => rfl)) pe_int (nomark _))
          (pss_one (ps_set (i := 2) scLaw.nd rfl (.inl rfl) (pe_op op_cat (pe_lst (pa_cons (pe_op op_add pe_int (pe_ix ix_list (pv 1) pe_int (fun _ _ => rfl))) pa_nil)) (pe_op op_rep (pe_lst (pa_cons pe_int pa_nil)) (pe_ix ix_list (pv 1) pe_int (fun _ _ => rfl))))))
          (pss_one (ps_if (pt_cmpR op_eq (pe_ix ix_list (pv 1) pe_int (fun _ _ => rfl)) pe_int (nomark _))
            (pss_one (ps_set (i := 2) scLaw.nd rfl (.inl rfl) (pe_call hList.ok hr (by rfl) hList.at_ hList.kp hList.bd .nil pass0 (pa_cons (pe_call hCell.ok hr (by rfl) hCell.at_ hCell.kp hCell.bd .nil pass0 (pa_cons (pv 0) (pa_cons pe_int pa_nil))) (pa_cons (pe_op op_add pe_int (pe_ix ix_list (pv 1) pe_int (fun _ _ => rfl))) pa_nil)))))
            (pss_one (ps_set (i := 2) scLaw.nd rfl (.inl rfl) (pe_call hList.ok hr (by rfl) hList.at_ hList.kp hList.bd .nil pass0 (pa_cons (pe_call hCell.ok hr (by rfl) hCell.at_ hCell.kp hCell.bd .nil pass0 (pa_cons (pv 0) (pa_cons pe_int pa_nil))) (pa_cons (pe_op op_add pe_int (pe_ix ix_list (pv 1) pe_int (fun _ _ => rfl))) pa_nil))))))))
      (pss_cons (ps_set (i := 3) scLaw.nd rfl (.inl rfl) (pe_callB (cr_sum rfl) (by rfl) m.sum (by decide +kernel) (pa_cons (pv 2) pa_nil)))
      (pss_cons (ps_set (i := 4) scLaw.nd rfl (.inl rfl) (pe_call hTri.ok hr (by rfl) hTri.at_ hTri.kp hTri.bd .nil pass0 (pa_cons (pe_op op_sub (pv 3) pe_int) pa_nil)))
      (pss_cons (ps_set (i := 5) scLaw.nd rfl (.inl rfl) (pe_callTy call_list_of (by rfl) m.list (by decide +kernel) (pa_cons (pv 2) pa_nil)))
      (pss_cons (ps_set (i := 6) scLaw.nd rfl (.inl rfl) (pe_call hRaid.ok hr (by rfl) hRaid.at_ hRaid.kp hRaid.bd .nil pass0 (pa_cons (pv 5) pa_nil)))
      (pss_cons (ps_if (PW.pt (pw_or (pt_not (pt_val (pe_call hLike.ok hr (by rfl) hLike.at_ hLike.kp hLike.bd .nil pass0 (pa_cons (pv 5) (pa_cons (pv 2) pa_nil)))))
          (pw_or (pt_not (pt_val (pe_callB call_isi (by rfl) m.isi (by decide +kernel) (pa_cons (pv 6) (pa_cons (pe_bltn (v := .ty "list") (by rfl) m.list (by decide +kernel) rfl) pa_nil)))))
            (pw_or1 (pt_cmpR op_ne (pe_callB call_len_seq (by rfl) m.len PySem.boot_len (pa_cons (pv 6) pa_nil)) (pe_op op_add (pv 3) pe_int) (nomark _)))))) pss_never pss_nil)
      (pss_cons (ps_for PassesOwn.never rfl (pi_range1 (by rfl) m.range (pa_cons (pe_op op_add (pv 3) pe_int) pa_nil)) (pg_name (i := 7) scLaw.nd rfl (.inl rfl))
        (pss_cons (ps_if (PW.pt (pw_or (pt_not (pt_val (pe_callB call_isi (by rfl) m.isi (by decide +kernel) (pa_cons (pe_ix ix_list (pv 6) (pv 7) (fun _ _ => rfl)) (pa_cons (pe_bltn (v := .ty "int") (by rfl) m.int (by decide +kernel) rfl) pa_nil)))))
            (pw_or1 (pt_val (pe_callB call_isi (by rfl) m.isi (by decide +kernel) (pa_cons (pe_ix ix_list (pv 6) (pv 7) (fun _ _ => rfl)) (pa_cons (pe_bltn (v := .ty "bool") (by rfl) m.bool (by decide +kernel) rfl) pa_nil))))))) pss_never pss_nil)
        (pss_cons (ps_set (i := 8) scLaw.nd rfl (.inl rfl) (pe_call hSpan.ok hr (by rfl) hSpan.at_ hSpan.kp hSpan.bd .nil pass0 (pa_cons (pv 2) (pa_cons (pv 7) (pa_cons (pv 4) pa_nil)))))
        (pss_one (ps_if (pt_not (pt_chain op_le op_le (pe_ix ix_tup (pv 8) pe_int (fun _ _ => rfl)) (pe_ix ix_list (pv 6) (pv 7) (fun _ _ => rfl)) (pe_ix ix_tup (pv 8) pe_int (fun _ _ => rfl)) (by rfl))) pss_never pss_nil)))))
      (pss_cons (ps_if (pt_cmpR op_eq (pe_ix ix_list (pv 1) pe_int (fun _ _ => rfl)) pe_int (nomark _))
          (pss_cons (ps_set (i := 9) scLaw.nd rfl (.inl rfl) (pe_callTy call_list_of (by rfl) m.list (by decide +kernel) (pa_cons (pv 6) pa_nil)))
          (pss_cons (ps_expr (pe_bm PySem.F.plainAttrs_list PySem.F.slot_list_append PySem.F.type_list_append mt_append (pv 5) (pa_cons pe_int pa_nil)))
          (pss_cons (ps_asg (pe_op op_add (pe_ix ix_list (pv 6) pe_int (fun _ _ => rfl)) pe_int) (pg_sub (pv 6) pe_int set_list))
          (pss_cons (ps_expr (pe_bm PySem.F.plainAttrs_list PySem.F.slot_list_append PySem.F.type_list_append mt_append (pv 6) (pa_cons pe_int pa_nil)))
          (pss_one (ps_ret (pe_call hLike.ok hr (by rfl) hLike.at_ hLike.kp hLike.bd .nil pass0 (pa_cons (pe_call hRaid.ok hr (by rfl) hRaid.at_ hRaid.kp hRaid.bd .nil pass0 (pa_cons (pe_callTy call_list_of (by rfl) m.list (by decide +kernel) (pa_cons (pv 2) pa_nil)) pa_nil)) (pa_cons (pv 9) pa_nil))))))))) pss_nil)
      (pss_one (ps_ret pe_bl)))))))))), ?_⟩
    -- head
    refine ⟨.ref a, rfl, a, ns, 0, rfl, hS, fun c0 hc0 => ⟨(by decide : 7 ≤ sizeLine), fun p0 h0 => ?_⟩⟩
    refine ⟨c0, p0, [2, 20, 6, 40, 24, 21, 3], rfl, hc0, .inl (.inl upd_same), (by decide), (by decide), fun H1 hd r0 sm1 hp1 e1 b1 => ?_⟩
    obtain ⟨x0, x1, x2, x3, x4, x5, x6, rfl⟩ : ∃ x0 x1 x2 x3 x4 x5 x6, r0 = [x0, x1, x2, x3, x4, x5, x6] := by
      have := b1.1
      match r0, this with
      | [x0, x1, x2, x3, x4, x5, x6], _ => exact ⟨x0, x1, x2, x3, x4, x5, x6, rfl⟩
    have g1 := b1.2 1 x1 20 rfl rfl
    have g3 := b1.2 3 x3 40 rfl rfl
    have g4 := b1.2 4 x4 24 rfl rfl
    have g5 := b1.2 5 x5 21 rfl rfl
    have s1 : Same H H1 := (same_new h0).trans sm1
    have e1 : H1 hd = some (.lst ([x0, x1, x2, x3, x4, x5, x6].map V.int)) := e1
    have sh : SqL K H1 hd ([x0, x1, x2, x3, x4, x5, x6].map V.int) := .inl (.inl e1)
    clear sm1 b1 hp1
    -- the sizes
    refine ⟨fun σ H2 => ∃ (p : Addr) (w : List Nat), σ = [some (.ref a), some (.ref hd), some (.ref p), none, none, none, none, none, none, none] ∧ Same H1 H2 ∧ H2 p = some (.lst (vN w)) ∧ Ok w ∧ 1 ≤ w.sum ∧ w.sum ≤ 100, ?_, ?_⟩
    · refine ⟨.ref hd, rfl, hd, _, 0, _, rfl, rfl, sh, atI_nat (j := 0) rfl, rfl, _, rfl, ite2 (fun _ => ?_) (fun _ => ?_)⟩
      · -- one entry, and ones
        obtain ⟨n4, rfl⟩ : ∃ n : Nat, x4 = n := ⟨x4.toNat, by omega⟩
        obtain ⟨n5, rfl⟩ : ∃ n : Nat, x5 = n := ⟨x5.toNat, by omega⟩
        refine ⟨.ref hd, rfl, hd, _, 4, _, rfl, rfl, sh, atI_nat (j := 4) rfl, 1, _, rfl, rfl, (by decide : 1 ≤ sizeLine), fun p1 h1 => ?_⟩
        have s2 := same_new (o := .lst [.int (1 + (n4 : Int))]) h1
        have e2 : upd H1 p1 (.lst [.int (1 + (n4 : Int))]) p1 = some (.lst [.int (1 + (n4 : Int))]) := upd_same
        generalize upd H1 p1 (.lst [.int (1 + (n4 : Int))]) = H2 at s2 e2
        refine ⟨(by decide : 1 ≤ sizeLine), fun p2 h2 => ?_⟩
        have s3 := s2.trans (same_new (o := .lst [.int 1]) h2)
        have e3 := same_new (o := .lst [.int 1]) h2 _ _ e2
        have e32 : upd H2 p2 (.lst [.int 1]) p2 = some (.lst [.int 1]) := upd_same
        generalize upd H2 p2 (.lst [.int 1]) = H3 at s3 e3 e32
        refine ⟨.ref hd, rfl, hd, _, 5, _, rfl, rfl, s3.seq sh, atI_nat (j := 5) rfl, p2, n5, [.int 1], rfl, rfl, e32, by omega, by omega, ?_, fun p3 h3 => ?_⟩
        · rw [Int.toNat_natCast, List.length_singleton, Nat.one_mul]
          exact small (by omega)
        rw [Int.toNat_natCast, rep_flat]
        have s4 := s3.trans (same_new (o := .lst (List.replicate n5 (V.int 1))) h3)
        have e4 := same_new (o := .lst (List.replicate n5 (V.int 1))) h3 _ _ e3
        refine ⟨p1, p3, _, _, rfl, rfl, e4, upd_same, ?_, fun p4 h4 => ?_⟩
        · rw [List.length_replicate]
          exact small (by show 1 + n5 ≤ 1000; omega)
        refine ⟨p4, (1 + n4) :: List.replicate n5 1, rfl, s4.trans (same_new h4), ?_, line_ok _ _ (by omega), ?_, ?_⟩
        · rw [upd_same]
          show some (HO.lst (V.int (1 + (n4 : Int)) :: List.replicate n5 (V.int 1))) = some (.lst (V.int ((1 + n4 : Nat) : Int) :: ((List.replicate n5 1).map fun (n : Nat) => (n : Int)).map V.int))
          rw [List.map_replicate, List.map_replicate, Int.natCast_add]
          rfl
        · rw [line_sum]
          omega
        · rw [line_sum]
          omega
      · refine ⟨.ref hd, rfl, hd, _, 2, _, rfl, rfl, sh, atI_nat (j := 2) rfl, rfl, _, rfl, ite2 (fun _ => ?_) (fun _ => ?_)⟩
        · obtain ⟨n3, rfl⟩ : ∃ n : Nat, x3 = n := ⟨x3.toNat, by omega⟩
          refine ⟨.ref a, rfl, a, ns, 1, rfl, s1.seq hS, fun c1 hc1 => ⟨.ref hd, rfl, hd, _, 3, _, rfl, rfl, sh, atI_nat (j := 3) rfl, 1, _, rfl, rfl, c1, 1 + n3, ?_, hc1, by omega, by omega, fun H2 p w sm hp hw hs e => ⟨p, w, rfl, sm, e, hw, by omega, by omega⟩⟩⟩
          rw [Int.natCast_add]
          rfl
        · obtain ⟨n1, rfl⟩ : ∃ n : Nat, x1 = n := ⟨x1.toNat, by omega⟩
          refine ⟨.ref a, rfl, a, ns, 1, rfl, s1.seq hS, fun c1 hc1 => ⟨.ref hd, rfl, hd, _, 1, _, rfl, rfl, sh, atI_nat (j := 1) rfl, 1, _, rfl, rfl, c1, 1 + n1, ?_, hc1, by omega, by omega, fun H2 p w sm hp hw hs e => ⟨p, w, rfl, sm, e, hw, by omega, by omega⟩⟩⟩
          rw [Int.natCast_add]
          rfl
    rintro σ H2 ⟨p, w, rfl, s2, ep, hok, hw1, hw2⟩
    obtain ⟨n, hn⟩ : ∃ n, w.sum = n + 1 := ⟨w.sum - 1, by omega⟩
    have e2h := s2 _ _ e1
    clear s1 e1 sh g1 g3 g4 g5 s2
    have lw := length_le_sum hok
    -- total, every
    refine ⟨.ref p, rfl, p, vi w, rfl, .inl (.inl ep), ?_⟩
    rw [vi_sum, hn]
    refine ⟨.int ((n + 1 : Nat) : Int), rfl, ((n + 1 : Nat) : Int), 1, rfl, rfl, n, ?_, by omega, fun H3 ev sm3 hv3 e3 => ?_⟩
    · have e : ((n + 1 : Nat) : Int) - 1 = (n : Int) := by omega
      show [V.int (((n + 1 : Nat) : Int) - 1)] ++ [] = _
      rw [e]
      rfl
    have e3p := sm3 _ _ ep
    have e3h := sm3 _ _ e2h
    -- given, told
    refine ⟨.ref p, rfl, p, _, rfl, .inl (.inl (.inl e3p)), fun g hg => ?_⟩
    have npg : p ≠ g := ne_of_none e3p hg
    have s4 := same_new (o := .lst (vN w)) hg
    have e4g : upd H3 g (.lst (vN w)) g = some (.lst (vN w)) := upd_same
    generalize upd H3 g (.lst (vN w)) = H4 at s4 e4g
    refine ⟨.ref g, rfl, g, w, rfl, .inl (.inl e4g), hok, by omega, fun H5 t sm5 ht5 e5t => ?_⟩
    rw [hn] at e5t
    have ngt : g ≠ t := ne_of_none e4g ht5
    have npt : p ≠ t := ne_of_none (s4 _ _ e3p) ht5
    have e5p := sm5 _ _ (s4 _ _ e3p)
    have e5h := sm5 _ _ (s4 _ _ e3h)
    have e5v := sm5 _ _ (s4 _ _ e3)
    have e5g := sm5 _ _ e4g
    clear sm3 hv3 e3 e3p e3h s4 e4g sm5 ht5 hg e2h ep
    have lrow : (rowL (n + 1) w).length = n + 2 := rowL_length _ _
    -- the first look
    refine ⟨.ref g, rfl, .ref p, rfl, g, p, vi w, rfl, e5g, e5p, by rw [vi_length]; omega, _, rfl, iteF ?_⟩
    refine ⟨.ref t, rfl, .ref t, .ty "list", .type "list", .type "list", true, rfl, .ty _, .base (.lst e5t), kit_ty (by decide +kernel), _, rfl, iteF ?_⟩
    refine ⟨.ref t, rfl, t, _, rfl, .inl (.inl (.inl e5t)), .int ((n + 1 : Nat) : Int), rfl, ((n + 1 : Nat) : Int), 1, rfl, rfl, rfl, _, rfl, iteNS ?_ ?_⟩
    · rw [vN_length, lrow]
      rfl
    -- every number
    refine ⟨.int ((n + 1 : Nat) : Int), rfl, ((n + 1 : Nat) : Int), 1, rfl, rfl, ((n + 1 : Nat) : Int) + 1, rfl, by omega, by omega, ?_⟩
    have en : (((n + 1 : Nat) : Int) + 1).toNat = n + 2 := by omega
    rw [en]
    refine for_range (lo := 0) (n := n + 2) (fun i σ H6 => ∃ y7 y8 : Option V, σ = [some (.ref a), some (.ref hd), some (.ref p), some (.int ((n + 1 : Nat) : Int)), some (.ref ev), some (.ref g), some (.ref t), y7, y8, none] ∧ Same H5 H6) ⟨none, none, rfl, Same.refl _⟩ ?_ ?_
    · rintro i σ H6 hi ⟨y7, y8, rfl, s6⟩
      have ez : (0 : Int) + ((i : Nat) : Int) = ((i : Nat) : Int) := by omega
      show tSeq _ _ _ [some (.ref a), some (.ref hd), some (.ref p), some (.int ((n + 1 : Nat) : Int)), some (.ref ev), some (.ref g), some (.ref t), some (.int (0 + ((i : Nat) : Int))), y8, none] H6
      rw [ez]
      have er : (rowL (n + 1) w)[i]? = some (rw_ (n + 1) w i) := by
        unfold rw_
        rw [List.getD_eq_getElem?_getD, List.getElem?_eq_getElem (by omega)]
        rfl
      have gt : atI (vN (rowL (n + 1) w)) (i : Int) = some (.int (rw_ (n + 1) w i : Nat)) := atI_nat (vN_get er)
      have st : SqL K H6 t (vN (rowL (n + 1) w)) := .inl (.inl (s6 _ _ e5t))
      refine ⟨.ref t, rfl, .int i, rfl, t, _, i, _, rfl, rfl, st, gt, .int (rw_ (n + 1) w i : Nat), .ty "int", .type "int", .type "int", true, rfl, .ty _, .base (.int _), kit_ty (by decide +kernel), _, rfl, iteF ?_⟩
      refine ⟨.ref t, rfl, .int i, rfl, t, _, i, _, rfl, rfl, st, gt, .int (rw_ (n + 1) w i : Nat), .ty "bool", .type "int", .type "bool", false, rfl, .ty _, .base (.int _), kit_ty (by decide +kernel), _, rfl, iteF ?_⟩
      refine ⟨.ref p, rfl, .int i, rfl, .ref ev, rfl, p, ev, w, n, i, rfl, .inl (.inl (s6 _ _ e5p)), .inl (.inl (s6 _ _ e5v)), hok, hn, by omega, by omega, fun H7 sp lo hi sm7 hp7 e7 hlo hhi => ?_⟩
      have st7 : SqL K H7 t (vN (rowL (n + 1) w)) := sm7.seq st
      have ss : SqT K H7 sp [.int lo, .int hi] := .inl (.inl e7)
      refine ⟨.ref sp, rfl, sp, _, 0, _, rfl, rfl, ss, atI_nat (j := 0) rfl, .ref t, rfl, .int i, rfl, t, _, i, _, rfl, rfl, st7, gt, lo, _, rfl, rfl, _, rfl, ?_⟩
      rw [decide_eq_true hlo]
      refine iteT ⟨.ref sp, rfl, sp, _, 1, _, rfl, rfl, ss, atI_nat (j := 1) rfl, _, hi, rfl, rfl, _, rfl, ?_⟩
      rw [decide_eq_true hhi]
      exact iteF ⟨_, _, rfl, s6.trans sm7⟩
    · rintro σ H6 ⟨y7, y8, rfl, s6⟩
      have sh : SqL K H6 hd ([x0, x1, x2, x3, x4, x5, x6].map V.int) := .inl (.inl (s6 _ _ e5h))
      refine ⟨.ref hd, rfl, hd, _, 6, _, rfl, rfl, sh, atI_nat (j := 6) rfl, rfl, _, rfl, ite2 (fun _ => ?_) (fun _ => q _)⟩
      -- first = list(told)
      refine ⟨.ref t, rfl, t, _, rfl, .inl (.inl (.inl (s6 _ _ e5t))), fun f1 hf => ?_⟩
      have nfp : p ≠ f1 := ne_of_none (s6 _ _ e5p) hf
      have nfg : f1 ≠ g := Ne.symm (ne_of_none (s6 _ _ e5g) hf)
      have nft : f1 ≠ t := Ne.symm (ne_of_none (s6 _ _ e5t) hf)
      have s7 := same_new (o := .lst (vN (rowL (n + 1) w))) hf
      have e7f : upd H6 f1 (.lst (vN (rowL (n + 1) w))) f1 = some (.lst (vN (rowL (n + 1) w))) := upd_same
      have e7g := s7 _ _ (s6 _ _ e5g)
      have e7t := s7 _ _ (s6 _ _ e5t)
      have e7p := s7 _ _ (s6 _ _ e5p)
      generalize upd H6 f1 (.lst (vN (rowL (n + 1) w))) = H7 at e7f e7g e7t e7p
      -- given.append(1)
      refine ⟨.ref g, rfl, .inl ⟨rfl, _, .inl (.inl e7g)⟩, g, _, .int 1, rfl, rfl, e7g, ?_, ?_⟩
      · rw [vN_length]
        exact small1000 (by omega)
      have e8f : upd H7 g (.lst (vN w ++ [.int 1])) f1 = some (.lst (vN (rowL (n + 1) w))) := by rw [upd_ne nfg]; exact e7f
      have e8t : upd H7 g (.lst (vN w ++ [.int 1])) t = some (.lst (vN (rowL (n + 1) w))) := by rw [upd_ne (Ne.symm ngt)]; exact e7t
      have e8p : upd H7 g (.lst (vN w ++ [.int 1])) p = some (.lst (vN w)) := by rw [upd_ne npg]; exact e7p
      generalize upd H7 g (.lst (vN w ++ [.int 1])) = H8 at e8f e8t e8p
      -- told[0] = told[0] + 1
      have er : (rowL (n + 1) w)[0]? = some (rw_ (n + 1) w 0) := by
        unfold rw_
        rw [List.getD_eq_getElem?_getD, List.getElem?_eq_getElem (by omega)]
        rfl
      refine ⟨.ref t, rfl, t, _, 0, _, rfl, rfl, .inl (.inl e8t), atI_nat (j := 0) (vN_get er), _, 1, rfl, rfl, .ref t, rfl, t, _, 0, 0, rfl, rfl, e8t, ?_, ?_⟩
      · unfold ixN
        rw [if_pos (by decide), if_pos (by rw [vN_length, lrow]; omega)]
        rfl
      have e9f : upd H8 t (.lst ((vN (rowL (n + 1) w)).set 0 (.int ((rw_ (n + 1) w 0 : Nat) + 1)))) f1 = some (.lst (vN (rowL (n + 1) w))) := by rw [upd_ne nft]; exact e8f
      have e9t : upd H8 t (.lst ((vN (rowL (n + 1) w)).set 0 (.int ((rw_ (n + 1) w 0 : Nat) + 1)))) t = some (.lst ((vN (rowL (n + 1) w)).set 0 (.int ((rw_ (n + 1) w 0 : Nat) + 1)))) := upd_same
      have e9p : upd H8 t (.lst ((vN (rowL (n + 1) w)).set 0 (.int ((rw_ (n + 1) w 0 : Nat) + 1)))) p = some (.lst (vN w)) := by rw [upd_ne npt]; exact e8p
      -- told.append(5)
      refine ⟨.ref t, rfl, .inl ⟨rfl, _, .inl (.inl e9t)⟩, t, _, .int 5, rfl, rfl, e9t, ?_, ?_⟩
      · rw [List.length_set, vN_length, lrow]
        exact small1000 (by omega)
      -- the same again
      refine ⟨.ref p, rfl, p, vN w, rfl, .inl (.inl (.inl ?_)), fun g2 hg2 => ⟨g2, w, rfl, .inl (.inl upd_same), hok, by omega, fun H11 t2 sm11 ht2 e11 => ⟨.ref f1, rfl, t2, f1, vi (rowL (n + 1) w), rfl, by rw [hn] at e11; exact e11, sm11 _ _ (same_new hg2 _ _ ?_), by rw [vi_length, lrow]; omega, q _⟩⟩⟩
      · rw [upd_ne npt]
        exact e9p
      · rw [upd_ne nft]
        exact e9f
end
end WR

set_option Elab.async false
set_option linter.all false
set_option maxRecDepth 100000
set_option maxHeartbeats 4000000
/-! The end: what the top has left, and the statement. -/
namespace WR
open PySem PySem.Spec PyProof.Rows L2
section
theorem all_mk {l : PySem.W.OpenLaw} {w : World} {K : PySem.W.Frag} {h : Heap} {mg : Str → Option Value} {fa f1 f2 f3 f4 f5 f6 f7 f8 f9 f10 f11 f12 f13 f14 f15 : Addr} (X : K.In h) (G : h.Ns mainGlobals mg) (hfa : mg "law" = some (.ref fa))
    {od1 an1 : Option Addr} {sl1 : Array (Option Value)} {oc1 kV1 dc1 pm1 cd1 ct1 : Value}
    {od2 an2 : Option Addr} {sl2 : Array (Option Value)} {oc2 kV2 dc2 pm2 cd2 ct2 : Value}
    {od3 an3 : Option Addr} {sl3 : Array (Option Value)} {oc3 kV3 dc3 pm3 cd3 ct3 : Value}
    {od4 an4 : Option Addr} {sl4 : Array (Option Value)} {oc4 kV4 dc4 pm4 cd4 ct4 : Value}
    {od5 an5 : Option Addr} {sl5 : Array (Option Value)} {oc5 kV5 dc5 pm5 cd5 ct5 : Value}
    {od6 an6 : Option Addr} {sl6 : Array (Option Value)} {oc6 kV6 dc6 pm6 cd6 ct6 : Value}
    {od7 an7 : Option Addr} {sl7 : Array (Option Value)} {oc7 kV7 dc7 pm7 cd7 ct7 : Value}
    {od8 an8 : Option Addr} {sl8 : Array (Option Value)} {oc8 kV8 dc8 pm8 cd8 ct8 : Value}
    {od9 an9 : Option Addr} {sl9 : Array (Option Value)} {oc9 kV9 dc9 pm9 cd9 ct9 : Value}
    {od10 an10 : Option Addr} {sl10 : Array (Option Value)} {oc10 kV10 dc10 pm10 cd10 ct10 : Value}
    {od11 an11 : Option Addr} {sl11 : Array (Option Value)} {oc11 kV11 dc11 pm11 cd11 ct11 : Value}
    {od12 an12 : Option Addr} {sl12 : Array (Option Value)} {oc12 kV12 dc12 pm12 cd12 ct12 : Value}
    {od13 an13 : Option Addr} {sl13 : Array (Option Value)} {oc13 kV13 dc13 pm13 cd13 ct13 : Value}
    {od14 an14 : Option Addr} {sl14 : Array (Option Value)} {oc14 kV14 dc14 pm14 cd14 ct14 : Value}
    {od15 an15 : Option Addr} {sl15 : Array (Option Value)} {oc15 kV15 dc15 pm15 cd15 ct15 : Value}
    (a1 : PySem.W.nsIn K mainGlobals "normal" = some (some (.ref f1))) (l1 : K.lookup f1 = some ⟨oc1, od1, .func (PySem.W.fnOf "normal" "normal" (defArgs sNormal) (defBody sNormal) (defScope sNormal) .none kV1 dc1 pm1 an1 cd1 ct1), sl1⟩) (c1 : PySem.W.codeIn K cd1 "normal" = true) (k1 : PySem.W.keepIn K (.ref f1) = true)
    (a2 : PySem.W.nsIn K mainGlobals "take" = some (some (.ref f2))) (l2 : K.lookup f2 = some ⟨oc2, od2, .func (PySem.W.fnOf "take" "take" (defArgs sTake) (defBody sTake) (defScope sTake) .none kV2 dc2 pm2 an2 cd2 ct2), sl2⟩) (c2 : PySem.W.codeIn K cd2 "take" = true) (k2 : PySem.W.keepIn K (.ref f2) = true)
    (a3 : PySem.W.nsIn K mainGlobals "take_largest" = some (some (.ref f3))) (l3 : K.lookup f3 = some ⟨oc3, od3, .func (PySem.W.fnOf "take_largest" "take_largest" (defArgs sLarge) (defBody sLarge) (defScope sLarge) .none kV3 dc3 pm3 an3 cd3 ct3), sl3⟩) (c3 : PySem.W.codeIn K cd3 "take_largest" = true) (k3 : PySem.W.keepIn K (.ref f3) = true)
    (a4 : PySem.W.nsIn K mainGlobals "take_smallest" = some (some (.ref f4))) (l4 : K.lookup f4 = some ⟨oc4, od4, .func (PySem.W.fnOf "take_smallest" "take_smallest" (defArgs sSmall) (defBody sSmall) (defScope sSmall) .none kV4 dc4 pm4 an4 cd4 ct4), sl4⟩) (c4 : PySem.W.codeIn K cd4 "take_smallest" = true) (k4 : PySem.W.keepIn K (.ref f4) = true)
    (a5 : PySem.W.nsIn K mainGlobals "best_plucks" = some (some (.ref f5))) (l5 : K.lookup f5 = some ⟨oc5, od5, .func (PySem.W.fnOf "best_plucks" "best_plucks" (defArgs sBest) (defBody sBest) (defScope sBest) .none kV5 dc5 pm5 an5 cd5 ct5), sl5⟩) (c5 : PySem.W.codeIn K cd5 "best_plucks" = true) (k5 : PySem.W.keepIn K (.ref f5) = true)
    (a6 : PySem.W.nsIn K mainGlobals "play_layers" = some (some (.ref f6))) (l6 : K.lookup f6 = some ⟨oc6, od6, .func (PySem.W.fnOf "play_layers" "play_layers" (defArgs sPlay) (defBody sPlay) (defScope sPlay) .none kV6 dc6 pm6 an6 cd6 ct6), sl6⟩) (c6 : PySem.W.codeIn K cd6 "play_layers" = true) (k6 : PySem.W.keepIn K (.ref f6) = true)
    (a7 : PySem.W.nsIn K mainGlobals "raid_counts" = some (some (.ref f7))) (l7 : K.lookup f7 = some ⟨oc7, od7, .func (PySem.W.fnOf "raid_counts" "raid_counts" (defArgs sRaid) (defBody sRaid) (defScope sRaid) .none kV7 dc7 pm7 an7 cd7 ct7), sl7⟩) (c7 : PySem.W.codeIn K cd7 "raid_counts" = true) (k7 : PySem.W.keepIn K (.ref f7) = true)
    (a8 : PySem.W.nsIn K mainGlobals "_law_cell" = some (some (.ref f8))) (l8 : K.lookup f8 = some ⟨oc8, od8, .func (PySem.W.fnOf "_law_cell" "_law_cell" (defArgs sCell) (defBody sCell) (defScope sCell) .none kV8 dc8 pm8 an8 cd8 ct8), sl8⟩) (c8 : PySem.W.codeIn K cd8 "_law_cell" = true) (k8 : PySem.W.keepIn K (.ref f8) = true)
    (a9 : PySem.W.nsIn K mainGlobals "_law_mixed" = some (some (.ref f9))) (l9 : K.lookup f9 = some ⟨oc9, od9, .func (PySem.W.fnOf "_law_mixed" "_law_mixed" (defArgs sMixed) (defBody sMixed) (defScope sMixed) .none kV9 dc9 pm9 an9 cd9 ct9), sl9⟩) (c9 : PySem.W.codeIn K cd9 "_law_mixed" = true) (k9 : PySem.W.keepIn K (.ref f9) = true)
    (a10 : PySem.W.nsIn K mainGlobals "_law_draws" = some (some (.ref f10))) (l10 : K.lookup f10 = some ⟨oc10, od10, .func (PySem.W.fnOf "_law_draws" "_law_draws" (defArgs sDraws) (defBody sDraws) (defScope sDraws) .none kV10 dc10 pm10 an10 cd10 ct10), sl10⟩) (c10 : PySem.W.codeIn K cd10 "_law_draws" = true) (k10 : PySem.W.keepIn K (.ref f10) = true)
    (a11 : PySem.W.nsIn K mainGlobals "_law_like" = some (some (.ref f11))) (l11 : K.lookup f11 = some ⟨oc11, od11, .func (PySem.W.fnOf "_law_like" "_law_like" (defArgs sLike) (defBody sLike) (defScope sLike) .none kV11 dc11 pm11 an11 cd11 ct11), sl11⟩) (c11 : PySem.W.codeIn K cd11 "_law_like" = true) (k11 : PySem.W.keepIn K (.ref f11) = true)
    (a12 : PySem.W.nsIn K mainGlobals "_law_list" = some (some (.ref f12))) (l12 : K.lookup f12 = some ⟨oc12, od12, .func (PySem.W.fnOf "_law_list" "_law_list" (defArgs sList) (defBody sList) (defScope sList) .none kV12 dc12 pm12 an12 cd12 ct12), sl12⟩) (c12 : PySem.W.codeIn K cd12 "_law_list" = true) (k12 : PySem.W.keepIn K (.ref f12) = true)
    (a13 : PySem.W.nsIn K mainGlobals "_law_triangle" = some (some (.ref f13))) (l13 : K.lookup f13 = some ⟨oc13, od13, .func (PySem.W.fnOf "_law_triangle" "_law_triangle" (defArgs sTri) (defBody sTri) (defScope sTri) .none kV13 dc13 pm13 an13 cd13 ct13), sl13⟩) (c13 : PySem.W.codeIn K cd13 "_law_triangle" = true) (k13 : PySem.W.keepIn K (.ref f13) = true)
    (a14 : PySem.W.nsIn K mainGlobals "_law_span" = some (some (.ref f14))) (l14 : K.lookup f14 = some ⟨oc14, od14, .func (PySem.W.fnOf "_law_span" "_law_span" (defArgs sSpan) (defBody sSpan) (defScope sSpan) .none kV14 dc14 pm14 an14 cd14 ct14), sl14⟩) (c14 : PySem.W.codeIn K cd14 "_law_span" = true) (k14 : PySem.W.keepIn K (.ref f14) = true)
    (a15 : PySem.W.nsIn K mainGlobals "law" = some (some (.ref f15))) (l15 : K.lookup f15 = some ⟨oc15, od15, .func (PySem.W.fnOf "law" "law" (defArgs sLaw) (defBody sLaw) (defScope sLaw) .none kV15 dc15 pm15 an15 cd15 ct15), sl15⟩) (c15 : PySem.W.codeIn K cd15 "law" = true) (k15 : PySem.W.keepIn K (.ref f15) = true)
    (z1 : PySem.W.nsIn K mainGlobals "len" = some none)
    (z2 : PySem.W.nsIn K mainGlobals "abs" = some none)
    (z3 : PySem.W.nsIn K mainGlobals "int" = some none)
    (z4 : PySem.W.nsIn K mainGlobals "range" = some none)
    (z5 : PySem.W.nsIn K mainGlobals "isinstance" = some none)
    (z6 : PySem.W.nsIn K mainGlobals "str" = some none)
    (z7 : PySem.W.nsIn K mainGlobals "bool" = some none)
    (z8 : PySem.W.nsIn K mainGlobals "list" = some none)
    (z9 : PySem.W.nsIn K mainGlobals "tuple" = some none)
    (z10 : PySem.W.nsIn K mainGlobals "sum" = some none)
    (z11 : PySem.W.nsIn K mainGlobals "max" = some none)
    (z12 : PySem.W.nsIn K mainGlobals "min" = some none)
    (z13 : PySem.W.nsIn K mainGlobals "sorted" = some none)
    (z14 : PySem.W.nsIn K mainGlobals "reversed" = some none)
    (z15 : PySem.W.nsIn K mainGlobals "enumerate" = some none)
    : ∃ fd : FuncData, (∀ (s : Shared) (v : Value), BindsTo s fd ⟨[v], []⟩ [("_law_script", v)]) ∧ ∀ base : Heap, K.In base → base.Ns mainGlobals mg → FnOk l.prog w K mg base CX0 7 fa fd ["_law_script"] (spLaw K) := by
  have e := hfa.symm.trans (PySem.W.mg_of X G a15)
  cases e
  have F1 := fun_mk (st := sNormal) l1 c1 k1
  have G1 := PySem.W.mg_of X G a1
  have b1 : L2.Binds K _ ["values"] [] := F1.binds (ps := ["values"]) fun _ _ _ _ _ _ us hl => match us, hl with | [_], _ => rfl
  have F2 := fun_mk (st := sTake) l2 c2 k2
  have G2 := PySem.W.mg_of X G a2
  have b2 : L2.Binds K _ ["sizes", "place"] [] := F2.binds (ps := ["sizes", "place"]) fun _ _ _ _ _ _ us hl => match us, hl with | [_, _], _ => rfl
  have F3 := fun_mk (st := sLarge) l3 c3 k3
  have G3 := PySem.W.mg_of X G a3
  have b3 : L2.Binds K _ ["sizes"] [] := F3.binds (ps := ["sizes"]) fun _ _ _ _ _ _ us hl => match us, hl with | [_], _ => rfl
  have F4 := fun_mk (st := sSmall) l4 c4 k4
  have G4 := PySem.W.mg_of X G a4
  have b4 : L2.Binds K _ ["sizes"] [] := F4.binds (ps := ["sizes"]) fun _ _ _ _ _ _ us hl => match us, hl with | [_], _ => rfl
  have F5 := fun_mk (st := sBest) l5 c5 k5
  have G5 := PySem.W.mg_of X G a5
  have b5 : L2.Binds K _ ["word"] [] := F5.binds (ps := ["word"]) fun _ _ _ _ _ _ us hl => match us, hl with | [_], _ => rfl
  have F6 := fun_mk (st := sPlay) l6 c6 k6
  have G6 := PySem.W.mg_of X G a6
  have b6 : L2.Binds K _ ["starts"] [] := F6.binds (ps := ["starts"]) fun _ _ _ _ _ _ us hl => match us, hl with | [_], _ => rfl
  have F7 := fun_mk (st := sRaid) l7 c7 k7
  have G7 := PySem.W.mg_of X G a7
  have b7 : L2.Binds K _ ["sizes"] [] := F7.binds (ps := ["sizes"]) fun _ _ _ _ _ _ us hl => match us, hl with | [_], _ => rfl
  have F8 := fun_mk (st := sCell) l8 c8 k8
  have G8 := PySem.W.mg_of X G a8
  have b8 : L2.Binds K _ ["_law_script", "_law_k"] [] := F8.binds (ps := ["_law_script", "_law_k"]) fun _ _ _ _ _ _ us hl => match us, hl with | [_, _], _ => rfl
  have F9 := fun_mk (st := sMixed) l9 c9 k9
  have G9 := PySem.W.mg_of X G a9
  have b9 : L2.Binds K _ ["_law_cell_here", "_law_k", "_law_size"] [] := F9.binds (ps := ["_law_cell_here", "_law_k", "_law_size"]) fun _ _ _ _ _ _ us hl => match us, hl with | [_, _, _], _ => rfl
  have F10 := fun_mk (st := sDraws) l10 c10 k10
  have G10 := PySem.W.mg_of X G a10
  have b10 : L2.Binds K _ ["_law_cell_here", "_law_menu"] [] := F10.binds (ps := ["_law_cell_here", "_law_menu"]) fun _ _ _ _ _ _ us hl => match us, hl with | [_, _], _ => rfl
  have F11 := fun_mk (st := sLike) l11 c11 k11
  have G11 := PySem.W.mg_of X G a11
  have b11 : L2.Binds K _ ["_law_actual", "_law_due"] [] := F11.binds (ps := ["_law_actual", "_law_due"]) fun _ _ _ _ _ _ us hl => match us, hl with | [_, _], _ => rfl
  have F12 := fun_mk (st := sList) l12 c12 k12
  have G12 := PySem.W.mg_of X G a12
  have b12 : L2.Binds K _ ["_law_cell_here", "_law_total"] [] := F12.binds (ps := ["_law_cell_here", "_law_total"]) fun _ _ _ _ _ _ us hl => match us, hl with | [_, _], _ => rfl
  have F13 := fun_mk (st := sTri) l13 c13 k13
  have G13 := PySem.W.mg_of X G a13
  have b13 : L2.Binds K _ ["_law_size"] [] := F13.binds (ps := ["_law_size"]) fun _ _ _ _ _ _ us hl => match us, hl with | [_], _ => rfl
  have F14 := fun_mk (st := sSpan) l14 c14 k14
  have G14 := PySem.W.mg_of X G a14
  have b14 : L2.Binds K _ ["_law_sizes", "_law_k", "_law_every"] [] := F14.binds (ps := ["_law_sizes", "_law_k", "_law_every"]) fun _ _ _ _ _ _ us hl => match us, hl with | [_, _, _], _ => rfl
  have F15 := fun_mk (st := sLaw) l15 c15 k15
  have G15 := PySem.W.mg_of X G a15
  have b15 : L2.Binds K _ ["_law_script"] [] := F15.binds (ps := ["_law_script"]) fun _ _ _ _ _ _ us hl => match us, hl with | [_], _ => rfl
  have m1 := PySem.W.mg_none_of X G z1
  have m2 := PySem.W.mg_none_of X G z2
  have m3 := PySem.W.mg_none_of X G z3
  have m4 := PySem.W.mg_none_of X G z4
  have m5 := PySem.W.mg_none_of X G z5
  have m6 := PySem.W.mg_none_of X G z6
  have m7 := PySem.W.mg_none_of X G z7
  have m8 := PySem.W.mg_none_of X G z8
  have m9 := PySem.W.mg_none_of X G z9
  have m10 := PySem.W.mg_none_of X G z10
  have m11 := PySem.W.mg_none_of X G z11
  have m12 := PySem.W.mg_none_of X G z12
  have m13 := PySem.W.mg_none_of X G z13
  have m14 := PySem.W.mg_none_of X G z14
  have m15 := PySem.W.mg_none_of X G z15
  refine ⟨PySem.W.fnOf "law" "law" (defArgs sLaw) (defBody sLaw) (defScope sLaw) .none kV15 dc15 pm15 an15 cd15 ct15, fun s v => .of_eq rfl, fun base _ _ => ?_⟩
  have NT : FnOk l.prog w K mg base CX0 2 f2 _ ["sizes", "place"] (spTake K) := ok_take (k := 0) F2 F1 b1 G1 m8 m13
  have NL : FnOk l.prog w K mg base CX0 3 f3 _ ["sizes"] (spOne K kee) := ok_large (k := 0) (fN := f1) (fdN := (PySem.W.fnOf "law" "law" (defArgs sLaw) (defBody sLaw) (defScope sLaw) .none kV15 dc15 pm15 an15 cd15 ct15)) F3 NT k2 b2 G2
  have NS : FnOk l.prog w K mg base CX0 3 f4 _ ["sizes"] (spOne K rai) := ok_small (k := 0) F4 NT k2 b2 G2 m1
  have NB : FnOk l.prog w K mg base CX0 4 f5 _ ["word"] (spBest K) := ok_best (k := 0) F5 NL k3 b3 G3 NS k4 b4 G4 m8 m9 m1
  have NP : FnOk l.prog w K mg base CX0 5 f6 _ ["starts"] (spPlay K) := ok_play (k := 0) F6 NB k5 b5 G5 m8 m9 m4 m10
  have NR : FnOk l.prog w K mg base CX0 6 f7 _ ["sizes"] (spRaid K) := ok_raid (k := 0) F7 NP k6 b6 G6 m14 m15 m9
  have NC : FnOk l.prog w K mg base CX0 6 f8 _ ["_law_script", "_law_k"] (spCell K) := ok_cell (k := 5) F8 m1 m2 m3
  have NM : FnOk l.prog w K mg base CX0 1 f9 _ ["_law_cell_here", "_law_k", "_law_size"] spMixed := ok_mixed (k := 0) F9 m3
  have ND : FnOk l.prog w K mg base CX0 2 f10 _ ["_law_cell_here", "_law_menu"] (spDraws K) := ok_draws (k := 0) F10 NM k9 b9 G9 m1 m4 m3
  have NK : FnOk l.prog w K mg base CX0 6 f11 _ ["_law_actual", "_law_due"] spLikeL := ok_likeL (k := 4) F11 ⟨m5, m6, m3, m7, m8, m9, m1, m4⟩ b11 G11
  have NI : FnOk l.prog w K mg base CX0 3 f12 _ ["_law_cell_here", "_law_total"] spList := ok_list (k := 0) F12 ND k10 b10 G10 ⟨m11, m12, m4, m3, m13⟩
  have NA : FnOk l.prog w K mg base CX0 6 f13 _ ["_law_size"] spTri := ok_tri (k := 5) F13 m4
  have NN : FnOk l.prog w K mg base CX0 6 f14 _ ["_law_sizes", "_law_k", "_law_every"] (spSpan K) := ok_span (k := 5) F14 m1 m10
  exact ok_law F15 ⟨m10, m8, m5, m1, m4, m3, m7⟩ ⟨_, _, NC, k8, b8, G8⟩ ⟨_, _, ND.mono (by decide), k10, b10, G10⟩ ⟨_, _, NI.mono (by decide), k12, b12, G12⟩ ⟨_, _, NA, k13, b13, G13⟩ ⟨_, _, NR, k7, b7, G7⟩ ⟨_, _, NK, k11, b11, G11⟩ ⟨_, _, NN, k14, b14, G14⟩
end
end WR
open PySem PySem.W PyProof.Rows
set_option maxHeartbeats 0 in
theorem PySem.Challenge.cw_barebough_k44_whole_raids_holds : PySem.Challenge.rw_barebough_k44_whole_raids.Holds := by
  w_on; o_law; k_head; (case hw => w_witness2)
  k_fill
  refine L2.walk_of (l := PySem.Challenge.rw_barebough_k44_whole_raids) (n := 63) (k := 7) (x := "_law_script") (CX := fun _ => L2.CX0) (sp := fun w => WR.spLaw _) rfl (by decide) rfl ⟨rfl, by decide, by decide⟩ (fun w h Y => PySem.W.kIn_of Y) ?F (fun _ _ a ns hl _ hS => ⟨a, ns, rfl, hS, fun _ => rfl⟩) (fun _ _ _ _ _ h => h)
  case F =>
    intro w mg fa h KX G hmg
    refine' WR.all_mk KX G hmg ?a1 ?l1 ?c1 ?k1 ?a2 ?l2 ?c2 ?k2 ?a3 ?l3 ?c3 ?k3 ?a4 ?l4 ?c4 ?k4 ?a5 ?l5 ?c5 ?k5 ?a6 ?l6 ?c6 ?k6 ?a7 ?l7 ?c7 ?k7 ?a8 ?l8 ?c8 ?k8 ?a9 ?l9 ?c9 ?k9 ?a10 ?l10 ?c10 ?k10 ?a11 ?l11 ?c11 ?k11 ?a12 ?l12 ?c12 ?k12 ?a13 ?l13 ?c13 ?k13 ?a14 ?l14 ?c14 ?k14 ?a15 ?l15 ?c15 ?k15 ?z1 ?z2 ?z3 ?z4 ?z5 ?z6 ?z7 ?z8 ?z9 ?z10 ?z11 ?z12 ?z13 ?z14 ?z15
    (case a1 => k_is)
    (case l1 => k_is)
    (case c1 => k_is)
    (case k1 => k_is)
    (case a2 => k_is)
    (case l2 => k_is)
    (case c2 => k_is)
    (case k2 => k_is)
    (case a3 => k_is)
    (case l3 => k_is)
    (case c3 => k_is)
    (case k3 => k_is)
    (case a4 => k_is)
    (case l4 => k_is)
    (case c4 => k_is)
    (case k4 => k_is)
    (case a5 => k_is)
    (case l5 => k_is)
    (case c5 => k_is)
    (case k5 => k_is)
    (case a6 => k_is)
    (case l6 => k_is)
    (case c6 => k_is)
    (case k6 => k_is)
    (case a7 => k_is)
    (case l7 => k_is)
    (case c7 => k_is)
    (case k7 => k_is)
    (case a8 => k_is)
    (case l8 => k_is)
    (case c8 => k_is)
    (case k8 => k_is)
    (case a9 => k_is)
    (case l9 => k_is)
    (case c9 => k_is)
    (case k9 => k_is)
    (case a10 => k_is)
    (case l10 => k_is)
    (case c10 => k_is)
    (case k10 => k_is)
    (case a11 => k_is)
    (case l11 => k_is)
    (case c11 => k_is)
    (case k11 => k_is)
    (case a12 => k_is)
    (case l12 => k_is)
    (case c12 => k_is)
    (case k12 => k_is)
    (case a13 => k_is)
    (case l13 => k_is)
    (case c13 => k_is)
    (case k13 => k_is)
    (case a14 => k_is)
    (case l14 => k_is)
    (case c14 => k_is)
    (case k14 => k_is)
    (case a15 => k_is)
    (case l15 => k_is)
    (case c15 => k_is)
    (case k15 => k_is)
    (case z1 => k_is)
    (case z2 => k_is)
    (case z3 => k_is)
    (case z4 => k_is)
    (case z5 => k_is)
    (case z6 => k_is)
    (case z7 => k_is)
    (case z8 => k_is)
    (case z9 => k_is)
    (case z10 => k_is)
    (case z11 => k_is)
    (case z12 => k_is)
    (case z13 => k_is)
    (case z14 => k_is)
    (case z15 => k_is)
