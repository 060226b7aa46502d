import PyProof.Rows.All
import Wide.All
import OpenK.AllK
import Wide.FinOn
import HandS.ForMost
import HandS.ForExc
import HandS.TupAny
import HandS.TupMul
import HandS.IsInst
import HandS.Conv
import HandS.SetFor
import HandS.ExcCtx
import HandS.HotCalls
import HandS.ExcIs
import HandS.Style
import HandS.SortInts
import KE.DatumOrd
import KE.RegKIsAll
import PySem.Challenge.RW_healring_k01_able
set_option Elab.async false
set_option linter.all false
set_option maxRecDepth 100000
set_option maxHeartbeats 4000000
namespace HR
/-- the value of machine k -/
abbrev at0 (r : List Int) (k : Nat) : Int := r.getD k 0
def may (r : List Int) (k : Nat) : Bool :=
  if k = 0 then decide (at0 r 0 = at0 r (r.length - 1)) else decide (¬ at0 r k = at0 r (k - 1))
def able (r : List Int) : List Nat := (List.range r.length).filter (may r)
def moved (m : Int) (r : List Int) (k : Nat) : List Int :=
  r.set k (if k = 0 then (at0 r 0 + 1) % m else at0 r (k - 1))
structure Ring (n : Nat) (m : Int) (r : List Int) : Prop where
  len : r.length = n
  n2 : 2 ≤ n
  m2 : 2 ≤ m
  lo : ∀ k, k < n → 0 ≤ at0 r k
  hi : ∀ k, k < n → at0 r k < m

theorem at0_set {r : List Int} {k j : Nat} {v : Int} (h : k < r.length) : at0 (r.set k v) j = if j = k then v else at0 r j := by
  unfold at0
  rw [List.getD_eq_getElem?_getD, List.getD_eq_getElem?_getD, List.getElem?_set]
  by_cases e : j = k
  · subst e; simp [h]
  · have e2 : ¬ k = j := fun q => e q.symm
    simp [e, e2]

theorem moved_len (m : Int) (r : List Int) (k : Nat) : (moved m r k).length = r.length := by
  unfold moved; exact List.length_set

theorem at0_moved {m : Int} {r : List Int} {k j : Nat} (h : k < r.length) :
    at0 (moved m r k) j = if j = k then (if k = 0 then (at0 r 0 + 1) % m else at0 r (k - 1)) else at0 r j := by
  unfold moved; exact at0_set h

theorem Ring.moved {n : Nat} {m : Int} {r : List Int} (R : Ring n m r) {k : Nat} (hk : k < n) : Ring n m (moved m r k) := by
  have hl : k < r.length := by rw [R.len]; exact hk
  have hm : 0 < m := by have := R.m2; omega
  refine ⟨by rw [moved_len, R.len], R.n2, R.m2, fun j hj => ?_, fun j hj => ?_⟩
  · rw [at0_moved hl]
    split
    · split
      · exact Int.emod_nonneg _ (by omega)
      · exact R.lo _ (by omega)
    · exact R.lo _ hj
  · rw [at0_moved hl]
    split
    · split
      · exact Int.emod_lt_of_pos _ hm
      · exact R.hi _ (by omega)
    · exact R.hi _ hj

theorem mem_able {r : List Int} {k : Nat} : k ∈ able r ↔ k < r.length ∧ may r k = true := by
  unfold able; rw [List.mem_filter, List.mem_range]

theorem may_zero {r : List Int} : may r 0 = true ↔ at0 r 0 = at0 r (r.length - 1) := by
  unfold may; simp
theorem may_pos {r : List Int} {k : Nat} (h : 0 < k) : may r k = true ↔ ¬ at0 r k = at0 r (k - 1) := by
  unfold may; rw [if_neg (by omega)]; simp

/-- all equal up to k, where none of 1 .. k may step -/
theorem alike_of {r : List Int} : ∀ k, (∀ j, 0 < j → j ≤ k → may r j = false) → at0 r k = at0 r 0
  | 0, _ => rfl
  | k + 1, h => by
    have ih := alike_of k fun j h1 h2 => h j h1 (by omega)
    have q := h (k + 1) (by omega) (Nat.le_refl _)
    by_cases e : at0 r (k + 1) = at0 r k
    · rw [e, ih]
    · have := (may_pos (r := r) (k := k + 1) (by omega)).mpr (by simpa using e)
      rw [q] at this; cases this

theorem able_ne {r : List Int} (h : 0 < r.length) : able r ≠ [] := by
  intro e
  have no : ∀ k, k < r.length → may r k = false := fun k hk => by
    cases q : may r k with
    | false => rfl
    | true =>
      have : k ∈ able r := mem_able.mpr ⟨hk, q⟩
      rw [e] at this; cases this
  have a := alike_of (r := r) (r.length - 1) fun j _ h2 => no j (by omega)
  have b := may_zero.mpr a.symm
  rw [no 0 h] at b; cases b

theorem able_pos {r : List Int} (h : 0 < r.length) : 0 < (able r).length := by
  cases e : able r with
  | nil => exact absurd e (able_ne h)
  | cons _ _ => simp

theorem nodup_able (r : List Int) : (able r).Nodup := List.Nodup.sublist List.filter_sublist List.nodup_range

/-- a list without doubles whose members are just k -/
theorem one_of {l : List Nat} {k : Nat} (nd : l.Nodup) (h : ∀ j, j ∈ l ↔ j = k) : l = [k] := by
  match l, nd, h with
  | [], _, h => have := (h k).mpr rfl; cases this
  | [a], _, h => have := (h a).mp (by simp); rw [this]
  | a :: b :: t, nd, h =>
    have e1 := (h a).mp (by simp)
    have e2 := (h b).mp (by simp)
    rw [e1, e2] at nd
    simp at nd

theorem able_one {r : List Int} {k : Nat} (hk : k < r.length) (h : ∀ j, j < r.length → (may r j = true ↔ j = k)) : able r = [k] := by
  refine one_of (nodup_able r) fun j => ?_
  rw [mem_able]
  constructor
  · intro ⟨a, b⟩; exact (h j a).mp b
  · intro e; subst e; exact ⟨hk, (h _ hk).mpr rfl⟩

theorem may_moved_self {n : Nat} {m : Int} {r : List Int} (R : Ring n m r) {k : Nat} (hk : k < n) (hm : may r k = true) : may (HR.moved m r k) k = false := by
  have hl : k < r.length := by rw [R.len]; exact hk
  have n2 := R.n2
  have m2 := R.m2
  cases q : may (HR.moved m r k) k with
  | false => rfl
  | true =>
    by_cases e : k = 0
    · subst e
      have a := may_zero.mp q
      rw [moved_len, at0_moved hl, at0_moved hl, if_pos rfl, if_pos rfl, if_neg (by rw [R.len]; omega)] at a
      have b := may_zero.mp hm
      rw [← b] at a
      have lo := R.lo 0 hk
      have hi := R.hi 0 hk
      exfalso
      by_cases c : at0 r 0 + 1 = m
      · rw [c, Int.emod_self] at a; omega
      · rw [Int.emod_eq_of_lt (by omega) (by omega)] at a; omega
    · have a := (may_pos (by omega)).mp q
      rw [at0_moved hl, at0_moved hl, if_pos rfl, if_neg e, if_neg (by omega)] at a
      exact absurd rfl a

/-- the machine behind k -/
def nxt (n k : Nat) : Nat := if k + 1 = n then 0 else k + 1
theorem nxt_lt {n k : Nat} (h : k < n) : nxt n k < n := by unfold nxt; split <;> omega

theorem may_moved_other {n : Nat} {m : Int} {r : List Int} (R : Ring n m r) {k j : Nat} (hk : k < n) (hj : j < n) (h1 : j ≠ k) (h2 : j ≠ nxt n k) : may (HR.moved m r k) j = may r j := by
  have hl : k < r.length := by rw [R.len]; exact hk
  have n2 := R.n2
  unfold nxt at h2
  unfold may
  by_cases e : j = 0
  · subst e
    rw [if_pos rfl, if_pos rfl, moved_len, at0_moved hl, at0_moved hl, if_neg h1, if_neg]
    rw [R.len]
    intro q
    rw [if_pos (by omega)] at h2
    exact h2 rfl
  · rw [if_neg e, if_neg e, at0_moved hl, at0_moved hl, if_neg h1, if_neg]
    intro q
    split at h2 <;> omega

theorem able_moved_one {n : Nat} {m : Int} {r : List Int} (R : Ring n m r) {k : Nat} (h : able r = [k]) : able (HR.moved m r k) = [nxt n k] ∧ k < n ∧ may r k = true := by
  have hk : k ∈ able r := by rw [h]; simp
  obtain ⟨hl, hm⟩ := mem_able.mp hk
  have hn : k < n := by rw [← R.len]; exact hl
  have R' := R.moved hn
  refine ⟨?_, hn, hm⟩
  have only : ∀ j, j ∈ able (HR.moved m r k) → j = nxt n k := fun j hj => by
    obtain ⟨a, b⟩ := mem_able.mp hj
    rw [moved_len, R.len] at a
    by_cases e2 : j = nxt n k
    · exact e2
    · by_cases e1 : j = k
      · subst e1
        rw [may_moved_self R hn hm] at b; cases b
      · rw [may_moved_other R hn a e1 e2] at b
        have : j ∈ able r := mem_able.mpr ⟨by rw [R.len]; exact a, b⟩
        rw [h] at this
        exact absurd (by simpa using this) e1
  have ne : able (HR.moved m r k) ≠ [] := able_ne (by rw [R'.len]; have := R.n2; omega)
  refine one_of (nodup_able _) fun j => ⟨only j, fun e => ?_⟩
  subst e
  cases q : able (HR.moved m r k) with
  | nil => exact absurd q ne
  | cons a t =>
    have := only a (by rw [q]; simp)
    rw [← this]; simp

/-- an order that can be gone from r, and where it leads -/
inductive Ex (n : Nat) (m : Int) (r : List Int) : List Nat → List Int → Prop
  | nil : Ex n m r [] r
  | snoc {ks : List Nat} {r' : List Int} {k : Nat} : Ex n m r ks r' → k < n → may r' k = true → Ex n m r (ks ++ [k]) (moved m r' k)

theorem Ex.ring {n : Nat} {m : Int} {r r' : List Int} {ks : List Nat} (R : Ring n m r) (x : Ex n m r ks r') : Ring n m r' := by
  induction x with
  | nil => exact R
  | snoc _ hk _ ih => exact ih.moved hk

theorem count_snoc (ks : List Nat) (k j : Nat) : (ks ++ [k]).count j = ks.count j + (if k = j then 1 else 0) := by
  rw [List.count_append, List.count_singleton]
  by_cases e : k = j <;> simp [e]

theorem Ex.cnt {n : Nat} {m : Int} {r r' : List Int} {ks : List Nat} (R : Ring n m r) (x : Ex n m r ks r') :
    ∀ k, 0 < k → k < n → ks.count k ≤ ks.count (k - 1) + 1 ∧ (ks.count k = ks.count (k - 1) + 1 → at0 r' k = at0 r' (k - 1)) := by
  induction x with
  | nil => intro k h1 h2; simp
  | @snoc ks r' i x hi hm ih =>
    intro k h1 h2
    have R' := x.ring R
    have hl : i < r'.length := by rw [R'.len]; exact hi
    obtain ⟨a, b⟩ := ih k h1 h2
    rw [count_snoc, count_snoc, at0_moved hl, at0_moved hl]
    by_cases e : i = k
    · subst e
      have z := (may_pos h1).mp hm
      rw [if_pos rfl, if_neg (show ¬ i = i - 1 by omega), if_pos rfl, if_neg (show ¬ i = 0 by omega), if_neg (show ¬ i - 1 = i by omega)]
      refine ⟨?_, fun _ => rfl⟩
      have : ¬ ks.count i = ks.count (i - 1) + 1 := fun q => z (b q)
      omega
    · rw [if_neg e, if_neg (show ¬ k = i from fun q => e q.symm)]
      by_cases e2 : i = k - 1
      · rw [if_pos e2]
        constructor
        · omega
        · intro q; exfalso; omega
      · rw [if_neg e2, if_neg (show ¬ k - 1 = i from fun q => e2 q.symm)]
        exact ⟨by omega, fun q => b (by omega)⟩

/-- no list without doubles is longer than one that holds its members -/
theorem le_of_sub {α : Type} [BEq α] [LawfulBEq α] : ∀ (l m : List α), l.Nodup → (∀ x ∈ l, x ∈ m) → l.length ≤ m.length
  | [], _, _, _ => Nat.zero_le _
  | a :: l, m, nd, h => by
    have ha := h a (by simp)
    have q := le_of_sub l (m.erase a) (List.nodup_cons.mp nd).2 fun x hx => by
      have ne : x ≠ a := fun e => (List.nodup_cons.mp nd).1 (e ▸ hx)
      exact (List.mem_erase_of_ne ne).mpr (h x (by simp [hx]))
    have e := List.length_erase_of_mem ha
    have pos : 0 < m.length := List.length_pos_of_mem ha
    rw [List.length_cons]
    omega

theorem emod_inj {m a : Int} {i j : Nat} (hi : (i : Int) < m) (hj : (j : Int) < m) (e : (a + i) % m = (a + j) % m) : i = j := by
  have h : (a + i - (a + j)) % m = 0 := Int.emod_eq_emod_iff_emod_sub_eq_zero.mp e
  have h2 : m ∣ (a + i - (a + j)) := Int.dvd_of_emod_eq_zero h
  obtain ⟨c, hc⟩ := h2
  have : (i : Int) - j = m * c := by omega
  by_cases c0 : c = 0
  · rw [c0] at this; omega
  · exfalso
    by_cases cp : 0 < c
    · have : m * 1 ≤ m * c := Int.mul_le_mul_of_nonneg_left (by omega) (by omega)
      omega
    · have : m * c ≤ m * (-1) := Int.mul_le_mul_of_nonneg_left (by omega) (by omega)
      omega

/-- a number that machine 0 comes to within n - 1 steps and that none of the others holds -/
theorem fresh {n : Nat} {m : Int} {r : List Int} (R : Ring n m r) (hm : (n : Int) ≤ m) : ∃ j, j < n ∧ ∀ i, 0 < i → i < n → at0 r i ≠ (at0 r 0 + j) % m := by
  have n2 := R.n2
  apply Classical.byContradiction
  intro no
  have all : ∀ j, j < n → ∃ i, 0 < i ∧ i < n ∧ at0 r i = (at0 r 0 + j) % m := fun j hj => by
    apply Classical.byContradiction
    intro q
    exact no ⟨j, hj, fun i h1 h2 e => q ⟨i, h1, h2, e⟩⟩
  let L : List Int := (List.range n).map fun (j : Nat) => (at0 r 0 + (j : Int)) % m
  have nd : L.Nodup := by
    refine List.nodup_iff_pairwise_ne.mpr ?_
    refine List.pairwise_map.mpr ?_
    refine List.Pairwise.imp_of_mem (R := fun a b => a ≠ b) (fun {a b} ha hb h e => ?_) (List.nodup_iff_pairwise_ne.mp List.nodup_range)
    have ha := List.mem_range.mp ha
    have hb := List.mem_range.mp hb
    exact h (emod_inj (by omega) (by omega) e)
  have sub : ∀ x ∈ L, x ∈ r.tail := fun x hx => by
    obtain ⟨j, hj, rfl⟩ := List.mem_map.mp hx
    obtain ⟨i, h1, h2, e⟩ := all j (List.mem_range.mp hj)
    rw [← e]
    have hl : i < r.length := by rw [R.len]; exact h2
    match r, i, h1, hl with
    | a :: t, i + 1, _, hl =>
      show (a :: t).getD (i + 1) 0 ∈ t
      have hlt : i < t.length := by simpa using hl
      rw [List.getD_cons_succ, List.getD_eq_getElem?_getD, List.getElem?_eq_getElem hlt]
      exact List.getElem_mem hlt
  have z := le_of_sub L r.tail nd sub
  rw [List.length_map, List.length_range, List.length_tail, R.len] at z
  omega

/-- an order each of whose steps is taken in a ring that is not healed -/
inductive Un (n : Nat) (m : Int) (r : List Int) : List Nat → List Int → Prop
  | nil : Un n m r [] r
  | snoc {ks : List Nat} {r' : List Int} {k : Nat} : Un n m r ks r' → k < n → may r' k = true → (able r').length ≠ 1 → Un n m r (ks ++ [k]) (moved m r' k)
theorem Un.ex {n : Nat} {m : Int} {r r' : List Int} {ks : List Nat} (x : Un n m r ks r') : Ex n m r ks r' := by
  induction x with
  | nil => exact .nil
  | snoc _ h1 h2 _ ih => exact ih.snoc h1 h2

theorem healed_alike {n : Nat} {m : Int} {r : List Int} (R : Ring n m r) (h : ∀ i, i < n → at0 r i = at0 r 0) : (able r).length = 1 := by
  have n2 := R.n2
  rw [able_one (k := 0) (by rw [R.len]; omega) fun j hj => ?_]
  · rfl
  · rw [R.len] at hj
    constructor
    · intro q
      apply Classical.byContradiction
      intro ne
      have := (may_pos (by omega)).mp q
      rw [h j hj, h (j - 1) (by omega)] at this
      exact this rfl
    · intro e
      subst e
      exact may_zero.mpr (by rw [R.len, h (n - 1) (by omega)])

theorem Un.zero {n : Nat} {m : Int} {r r' : List Int} {ks : List Nat} (R : Ring n m r) (hm : (n : Int) ≤ m) (x : Un n m r ks r') : ks.count 0 < n := by
  obtain ⟨j, hj, hf⟩ := fresh R hm
  have n2 := R.n2
  have key : ks.count 0 ≤ j ∧ at0 r' 0 = (at0 r 0 + (ks.count 0 : Nat)) % m ∧
      ((ks.count 0 < j ∧ ∀ i, i < n → at0 r' i ≠ (at0 r 0 + j) % m) ∨ (ks.count 0 = j ∧ ∃ p, 0 < p ∧ p ≤ n ∧ (∀ i, i < p → at0 r' i = (at0 r 0 + j) % m) ∧ ∀ i, p ≤ i → i < n → at0 r' i ≠ (at0 r 0 + j) % m)) := by
    have lo := R.lo 0 (by omega)
    have hi := R.hi 0 (by omega)
    induction x with
    | nil =>
      have e0 : at0 r 0 = (at0 r 0 + ((([] : List Nat).count 0 : Nat) : Int)) % m := by
        show _ = (at0 r 0 + 0) % m
        rw [Int.add_zero, Int.emod_eq_of_lt lo hi]
      refine ⟨Nat.zero_le _, e0, ?_⟩
      by_cases c : j = 0
      · refine .inr ⟨c.symm, 1, by omega, by omega, fun i hi => ?_, fun i h1 h2 => hf i (by omega) h2⟩
        have : i = 0 := by omega
        rw [this, c]; exact e0
      · refine .inl ⟨by show 0 < j; omega, fun i hi => ?_⟩
        by_cases ci : i = 0
        · rw [ci]
          intro q
          have q2 : (at0 r 0 + ((0 : Nat) : Int)) % m = (at0 r 0 + (j : Int)) % m := e0.symm.trans q
          have := emod_inj (by omega) (by omega) q2
          omega
        · exact hf i (by omega) hi
    | @snoc ks r' k x hk hmay hun ih =>
      have R' := x.ex.ring R
      have hl : k < r'.length := by rw [R'.len]; exact hk
      obtain ⟨a, b, c⟩ := ih
      rw [count_snoc]
      by_cases k0 : k = 0
      · subst k0
        rw [if_pos rfl]
        have e1 : at0 (HR.moved m r' 0) 0 = (at0 r 0 + ((ks.count 0 + 1 : Nat) : Int)) % m := by
          rw [at0_moved hl, if_pos rfl, if_pos rfl, b, Int.emod_add_emod]
          congr 1; omega
        rcases c with ⟨c1, c2⟩ | ⟨c1, p, p1, p2, p3, p4⟩
        · refine ⟨by omega, e1, ?_⟩
          by_cases cj : ks.count 0 + 1 = j
          · refine .inr ⟨cj, 1, by omega, by omega, fun i hi => ?_, fun i h1 h2 => ?_⟩
            · have : i = 0 := by omega
              rw [this, e1, cj]
            · rw [at0_moved hl, if_neg (by omega)]; exact c2 i h2
          · refine .inl ⟨by omega, fun i hi => ?_⟩
            by_cases ci : i = 0
            · rw [ci, e1]
              intro q
              have := emod_inj (by omega) (by omega) q
              omega
            · rw [at0_moved hl, if_neg ci]; exact c2 i hi
        · exfalso
          have z := may_zero.mp hmay
          rw [R'.len] at z
          have z0 := p3 0 p1
          have pn : p = n := by
            apply Classical.byContradiction
            intro ne
            have := p4 (n - 1) (by omega) (by omega)
            rw [← z, z0] at this
            exact this rfl
          subst pn
          exact hun (healed_alike R' fun i hi => by rw [p3 i hi, z0])
      · rw [if_neg k0, Nat.add_zero]
        have e1 : at0 (HR.moved m r' k) 0 = at0 r' 0 := by rw [at0_moved hl, if_neg (by omega)]
        refine ⟨a, by rw [e1]; exact b, ?_⟩
        rcases c with ⟨c1, c2⟩ | ⟨c1, p, p1, p2, p3, p4⟩
        · refine .inl ⟨c1, fun i hi => ?_⟩
          rw [at0_moved hl]
          by_cases ci : i = k
          · rw [if_pos ci, if_neg k0]; exact c2 _ (by omega)
          · rw [if_neg ci]; exact c2 i hi
        · have mk := (may_pos (by omega)).mp hmay
          have hkp : p ≤ k := by
            apply Classical.byContradiction
            intro q
            rw [p3 k (by omega), p3 (k - 1) (by omega)] at mk
            exact mk rfl
          by_cases ck : k = p
          · refine .inr ⟨c1, p + 1, by omega, by omega, fun i hi => ?_, fun i h1 h2 => ?_⟩
            · rw [at0_moved hl]
              by_cases ci : i = k
              · rw [if_pos ci, if_neg k0]; exact p3 _ (by omega)
              · rw [if_neg ci]; exact p3 _ (by omega)
            · rw [at0_moved hl, if_neg (by omega)]; exact p4 i (by omega) h2
          · refine .inr ⟨c1, p, p1, p2, fun i hi => ?_, fun i h1 h2 => ?_⟩
            · rw [at0_moved hl, if_neg (by omega)]; exact p3 i hi
            · rw [at0_moved hl]
              by_cases ci : i = k
              · rw [if_pos ci, if_neg k0]; exact p4 _ (by omega) (by omega)
              · rw [if_neg ci]; exact p4 i h1 h2
  omega

theorem sum_ind (x : Nat) : ∀ n, ((List.range n).map fun k => if x = k then 1 else 0).sum = if x < n then 1 else 0
  | 0 => by simp
  | n + 1 => by
    rw [List.range_succ, List.map_append, List.sum_append, sum_ind x n]
    simp only [List.map_cons, List.map_nil, List.sum_cons, List.sum_nil]
    by_cases a : x < n
    · rw [if_pos a, if_neg (by omega), if_pos (by omega)]; rfl
    · rw [if_neg a]
      by_cases b : x = n
      · rw [if_pos b, if_pos (by omega)]; rfl
      · rw [if_neg b, if_neg (by omega)]; rfl

theorem sum_add (f g : Nat → Nat) : ∀ l : List Nat, (l.map fun k => f k + g k).sum = (l.map f).sum + (l.map g).sum
  | [] => rfl
  | a :: l => by simp only [List.map_cons, List.sum_cons, sum_add f g l]; omega

theorem len_counts (n : Nat) : ∀ ks : List Nat, (∀ x ∈ ks, x < n) → ks.length = ((List.range n).map fun k => ks.count k).sum
  | [], _ => by
    have : ∀ l : List Nat, (l.map fun k => ([] : List Nat).count k).sum = 0 := fun l => by
      induction l with
      | nil => rfl
      | cons a l ih => rw [List.map_cons, List.sum_cons, ih]; rfl
    rw [this]; rfl
  | x :: ks, h => by
    have ih := len_counts n ks fun y hy => h y (by simp [hy])
    have e : (fun k => (x :: ks).count k) = fun k => ks.count k + if x = k then 1 else 0 := by
      funext k
      rw [List.count_cons]
      by_cases q : x = k <;> simp [q]
    rw [e, sum_add, ← ih, sum_ind, if_pos (h x (by simp)), List.length_cons]

theorem sum_le {f : Nat → Nat} {c : Nat} : ∀ n, (∀ k, k < n → f k ≤ c + k) → 2 * ((List.range n).map f).sum + n ≤ 2 * (n * c) + n * n
  | 0, _ => by simp
  | n + 1, h => by
    have ih := sum_le n fun k hk => h k (by omega)
    have q := h n (by omega)
    rw [List.range_succ, List.map_append, List.sum_append]
    simp only [List.map_cons, List.map_nil, List.sum_cons, List.sum_nil]
    have e1 : (n + 1) * c = n * c + c := Nat.succ_mul n c
    have e2 : (n + 1) * (n + 1) = n * n + n + n + 1 := by rw [Nat.succ_mul, Nat.mul_succ]; omega
    rw [e1, e2]
    omega

theorem Ex.small {n : Nat} {m : Int} {r r' : List Int} {ks : List Nat} (x : Ex n m r ks r') : ∀ k ∈ ks, k < n := by
  induction x with
  | nil => intro k hk; cases hk
  | snoc _ h _ ih =>
    intro k hk
    rcases List.mem_append.mp hk with q | q
    · exact ih k q
    · rw [List.mem_singleton.mp q]; exact h

def most (n : Nat) : Nat := 3 * n * (n - 1) / 2

theorem two_most (n : Nat) : 2 * most n = 3 * n * (n - 1) := by
  unfold most
  have : 3 * n * (n - 1) % 2 = 0 := by
    rcases Nat.mod_two_eq_zero_or_one n with h | h
    · rw [Nat.mul_mod, Nat.mul_mod 3 n, h]; simp
    · have : (n - 1) % 2 = 0 := by omega
      rw [Nat.mul_mod, this]; simp
  omega

theorem Un.bound {n : Nat} {m : Int} {r r' : List Int} {ks : List Nat} (R : Ring n m r) (hm : (n : Int) ≤ m) (x : Un n m r ks r') : ks.length ≤ most n := by
  have z := x.zero R hm
  have n2 := R.n2
  have c := x.ex.cnt R
  have all : ∀ k, k < n → ks.count k ≤ (n - 1) + k := fun k => by
    induction k with
    | zero => intro _; omega
    | succ k ih =>
      intro h
      have := (c (k + 1) (by omega) h).1
      have := ih (by omega)
      simp only [Nat.add_sub_cancel] at *
      omega
  have s := sum_le n all
  rw [← len_counts n ks x.ex.small] at s
  have t := two_most n
  have e1 : n * (n - 1) + n = n * n := by
    rw [← Nat.mul_succ]
    congr 1; omega
  have e2 : 3 * n * (n - 1) = n * (n - 1) + n * (n - 1) + n * (n - 1) := by
    rw [Nat.mul_assoc, Nat.succ_mul, Nat.succ_mul, Nat.one_mul]
  omega

/-- where as many steps are gone as can be, the ring is healed -/
theorem Un.done {n : Nat} {m : Int} {r r' : List Int} {ks : List Nat} (R : Ring n m r) (hm : (n : Int) ≤ m) (x : Un n m r ks r') (h : most n ≤ ks.length) : (able r').length = 1 := by
  apply Classical.byContradiction
  intro ne
  have R' := x.ex.ring R
  have n2 := R.n2
  cases q : able r' with
  | nil => exact able_ne (by rw [R'.len]; omega) q
  | cons k t =>
    have hk : k ∈ able r' := by rw [q]; simp
    obtain ⟨a, b⟩ := mem_able.mp hk
    have := (x.snoc (by rw [← R'.len]; exact a) b ne).bound R hm
    rw [List.length_append, List.length_singleton] at this
    omega
end HR
namespace HW
open PySem PySem.Spec PyProof.Rows L2 HR
/-! ### own words over the layer -/
/-- built-in names that the program leaves as they are -/
structure Bt (mg : Str → Option Value) : Prop where
  len : mg "len" = none
  range : mg "range" = none
  min : mg "min" = none
  max : mg "max" = none
  isinstance : mg "isinstance" = none
  int : mg "int" = none
  bool : mg "bool" = none
  tuple : mg "tuple" = none
  list : mg "list" = none
  sorted : mg "sorted" = none
  abs : mg "abs" = none
  verr : mg "ValueError" = none
/-- a def of the text: where it stands, how it is called -/
structure Df (K : PySem.W.Frag) (mg : Str → Option Value) (x : Str) (st : Stmt) (ps : List Str) (f : Addr) (fd : FuncData) : Prop where
  F : Fun K x x st f fd
  g : mg x = some (.ref f)
  b : Binds K fd ps []
/-- an own exception class without own __init__ -/
structure Cl (K : PySem.W.Frag) (mg : Str → Option Value) (x : Str) (C : Addr) : Prop where
  g : mg x = some (.ref C)
  x : PySem.W.excIn K C [.type "ValueError", .type "Exception", .type "BaseException", .type "object"] "ValueError.__new__" = true
  k : PySem.W.keepIn K (.ref C) = true
  b : PySem.W.subIn K (.ref C) (.type "BaseException") = some true
  t : PySem.W.typeIn K (.ref C) = some (.type "type")
/-- the numbers that stand at the top -/
structure Nums (mg : Str → Option Value) : Prop where
  least : ∃ t, mg "LEAST" = some (.int 2 t)
  most : ∃ t, mg "MOST" = some (.int 12 t)
  numbers : ∃ t, mg "MOST_NUMBERS" = some (.int 100 t)
/-- where nothing is let out -/
theorem passN {X : Cx} : Passes (L2N.CX X.prog X.w) X E0 := fun _ _ _ _ _ _ _ h => by
  obtain ⟨_, _, _, _, _, _, _, _, _, _, _, _, z⟩ := h
  exact z.elim
theorem takesN {X : Cx} : L2N.Takes X (fun _ _ _ _ => False) := fun _ _ x => by
  obtain ⟨_, _, _, _, _, _, _, _, _, _, _, _, _, _, _, _, z⟩ := x
  exact z.elim
/-- a def that may raise, its errors' contexts told -/
theorem Fun.okN {P : Program} {w : World} {K : PySem.W.Frag} {mg : Str → Option Value} {base : Heap} {x qual : Str} {st : Stmt} {f : Addr} {fd : FuncData} {N ps : List Str} {k : Nat} {sp : Sp} (F : Fun K x qual st f fd) (S : FnScope N ps (defScope st)) (len : ∀ vs H Q E, sp vs H Q E → vs.length = ps.length)
    (hbody : ∀ (cdv : Value) (A : Around) (outer : List Env) (s : Shared) (H : Hp) (vs : List V) (Q : VK) (E : XK), Room k (A.deeper (envOfC qual (defScope st) s.heap.objs.size f cdv)) → sp vs H Q E →
      ∃ t, PSs (cxOf (L2N.CX P w) P w K mg base N qual (defScope st) f cdv A outer s H E) (defBody st) t ∧ t { nx := fun _ H' => Q .non H', rt := Q } (L2.start N vs) H) : FnOk P w K mg base (L2N.CX P w) (k + 1) f fd ps sp := by
  obtain ⟨oc, od, kV, doc, pm, an, cdv, ct, osl, rfl, lk, hcd⟩ := F.ex
  exact fn_of lk hcd S len fun A outer s H vs Q E hr hsp => hbody cdv A outer s H vs Q E hr hsp
abbrev I (r : List Int) : List V := r.map V.int
abbrev N (l : List Nat) : List V := l.map fun (k : Nat) => V.int (k : Int)

theorem _root_.L2.Same.tup {K : PySem.W.Frag} {H H' : Hp} {a : Addr} {xs : List V} (e : Same H H') (h : SqT K H a xs) : SqT K H' a xs := by
  rcases h with (h | ⟨o, h⟩) | h
  · exact .inl (.inl (e _ _ h))
  · exact .inl (.inr ⟨o, e _ _ h⟩)
  · exact .inr h
theorem same_upd {H : Hp} {p : Addr} {o : HO} (h : H p = none) : Same H (upd H p o) := fun b x e => by
  rw [upd_ne (ne_of_none e h)]
  exact e
theorem tupOf {K : PySem.W.Frag} {H : Hp} {a : Addr} {xs : List V} (h : H a = some (.tup xs)) : SqT K H a xs := .inl (.inl h)
theorem lstOf {K : PySem.W.Frag} {H : Hp} {a : Addr} {xs : List V} (h : H a = some (.lst xs)) : SqL K H a xs := .inl (.inl h)
theorem big {n : Nat} (h : n ≤ 1000) : n ≤ sizeLine := Nat.le_of_lt (small1000 h)

section
variable {X : Cx}
/-- t + u, whatever object comes of it -/
def rCatS (K : PySem.W.Frag) : R2 := fun x y H Q => ∃ a b xs ys, x = .ref a ∧ y = .ref b ∧ SqT K H a xs ∧ SqT K H b ys ∧ xs.length + ys.length ≤ sizeLine ∧
  ∀ p H', Same H H' → SqT K H' p (xs ++ ys) → Q (.ref p) H'
theorem op_catS : OpR X (binaryOp .Add) (rCatS X.K) := by
  intro pins s σ H x y v u Q I rx ry h
  obtain ⟨a, b, xs, ys, ex, ey, ha, hb, hz, q⟩ := h
  refine op_catA pins s σ H x y v u Q I rx ry ⟨a, b, xs, ys, ex, ey, ha, hb, hz, fun e => ?_, fun _ e => ?_, fun _ _ p hp => ?_⟩
  · subst e
    exact q b H (Same.refl H) hb
  · subst e
    refine q a H (Same.refl H) ?_
    rw [List.append_nil]
    exact ha
  · exact q p _ (same_upd hp) (tupOf upd_same)
/-- t[lo:hi], whatever object comes of it -/
def rSlS (K : PySem.W.Frag) : V → Option Int → Option Int → Hp → VK → Prop := fun x lo hi H Q => ∃ a xs, x = .ref a ∧ SqT K H a xs ∧
  ∀ p H', Same H H' → SqT K H' p (cutV xs lo hi) → Q (.ref p) H'
theorem sl_tupS : SlR X (rSlS X.K) := by
  intro pins s σ H x v vl vu lo hi sl Q I rx hs pl pu h
  obtain ⟨a, xs, ex, ha, q⟩ := h
  refine sl_tupA pins s σ H x v vl vu lo hi sl Q I rx hs pl pu ⟨a, xs, ex, ha, fun e => ?_, fun _ p hp => ?_⟩
  · refine q a H (Same.refl H) ?_
    unfold cutV
    rw [e.1, e.2, List.drop_zero, Nat.sub_zero, List.take_length]
    exact ha
  · exact q p _ (same_upd hp) (tupOf upd_same)
end
/-- the items of a list of ints by place -/
theorem atI_I {r : List Int} {z : Int} {k : Nat} (e : z = (k : Int)) (h : k < r.length) : atI (I r) z = some (.int (at0 r k)) := by
  refine at_of e ?_
  rw [List.getElem?_map, List.getElem?_eq_getElem h]
  unfold at0
  rw [List.getD_eq_getElem?_getD, List.getElem?_eq_getElem h]
  rfl
theorem atI_neg {α : Type} {xs : List α} {v : α} (h : xs[xs.length - 1]? = some v) : atI xs (-1) = some v := by
  have hl : xs.length - 1 < xs.length := (List.getElem?_eq_some_iff.mp h).1
  have e : ixN xs.length (-1) = some (xs.length - 1) := by
    unfold ixN
    rw [if_neg (by decide), if_pos (by omega)]
    congr 1
    omega
  unfold atI
  rw [e]
  exact h
theorem atI_I1 {r : List Int} (h : 0 < r.length) : atI (I r) (-1) = some (.int (at0 r (r.length - 1))) := by
  refine atI_neg ?_
  rw [List.length_map, List.getElem?_map, List.getElem?_eq_getElem (by omega)]
  unfold at0
  rw [List.getD_eq_getElem?_getD, List.getElem?_eq_getElem (by omega)]
  rfl
theorem len_I (r : List Int) : (I r).length = r.length := List.length_map _
theorem len_N (r : List Nat) : (N r).length = r.length := List.length_map _
theorem atI_N {r : List Nat} {z : Int} {k : Nat} (e : z = (k : Int)) (h : k < r.length) : atI (N r) z = some (.int ((r.getD k 0 : Nat) : Int)) := by
  refine at_of e ?_
  rw [List.getElem?_map, List.getElem?_eq_getElem h, List.getD_eq_getElem?_getD, List.getElem?_eq_getElem h]
  rfl
theorem dec_int (i j : Int) : decide (V.int i = V.int j) = decide (i = j) := by
  by_cases h : i = j
  · subst h; simp
  · rw [decide_eq_false h, decide_eq_false fun e => h (V.int.inj e)]
/-- for over range(n) -/
theorem for_r0 {n : Nat} {g : TG} {tb : TS} {D : Ends} {σ : L2.St} {H : Hp} (Pv : Nat → L2.St → Hp → Prop) (h0 : Pv 0 σ H)
    (hs : ∀ i σ H, i < n → Pv i σ H → g (.int (i : Int)) σ H fun σ2 H2 => tb { D with nx := Pv (i + 1), ct := Pv (i + 1), bk := D.nx } σ2 H2) (hd : ∀ σ H, Pv n σ H → D.nx σ H) :
    ∃ W : Nat → Nat → L2.St → Hp → Prop, (∃ m, W 0 m σ H) ∧ ∀ i m σ H, W i m σ H →
      ((Itr 0 n).stop i H ∧ D.nx σ H) ∨ ((Itr 0 n).go i H ∧ ∃ N : L2.St → Hp → Prop, (∀ σ' H', N σ' H' → ∃ m', m' < m ∧ W (i + 1) m' σ' H') ∧ ∀ x H', (Itr 0 n).yld i H x H' → g x σ H' fun σ2 H2 => tb { D with nx := N, ct := N, bk := D.nx } σ2 H2) :=
  for_range (lo := 0) Pv h0 (fun i σ H hi p => by rw [Int.zero_add]; exact hs i σ H hi p) hd
/-- what a comprehension makes of its first i places -/
def kept (f : Nat → Bool) (v : Nat → V) (i : Nat) : List V := ((List.range i).filter f).map v
theorem kept_yes {f : Nat → Bool} {v : Nat → V} {i : Nat} (h : f i = true) : kept f v (i + 1) = kept f v i ++ [v i] := by
  unfold kept
  rw [List.range_succ, List.filter_append, List.map_append]
  simp [h]
theorem kept_no {f : Nat → Bool} {v : Nat → V} {i : Nat} (h : f i = false) : kept f v (i + 1) = kept f v i := by
  unfold kept
  rw [List.range_succ, List.filter_append, List.map_append]
  simp [h]
theorem kept_len (f : Nat → Bool) (v : Nat → V) (i : Nat) : (kept f v i).length ≤ i := by
  unfold kept
  rw [List.length_map]
  exact Nat.le_trans (List.length_filter_le _ _) (by rw [List.length_range]; exact Nat.le_refl _)
/-- [v(i) for i in range(n) if f(i)]: a turn leaves all that was tracked -/
theorem lc_r0 {n : Nat} {g : TG} {tt : TT} {te : TE} {vs : List Nat} {σ : L2.St} {H1 : Hp} {D : Addr} {Qd : Hp → Prop} (f : Nat → Bool) (v : Nat → V) (hD : H1 D = none) (hn : n ≤ 1000)
    (hs : ∀ i H, i < n → Same H1 H → ∀ (Z : V → Hp → Prop) (M : Hp → Prop), (f i = true → ∀ H', Same H H' → Z (v i) H') → (f i = false → ∀ H', Same H H' → M H') →
      g (.int (i : Int)) (wipe σ vs) H fun σ2 H2 => wipe σ2 vs = wipe σ vs ∧ tt σ2 H2 fun b H3 => if b = true then te σ2 H3 Z else M H3)
    (hd : ∀ H, Same H1 H → H D = some (.lst (kept f v n)) → Qd H) :
    ∃ W : Nat → Nat → Hp → Prop, (∃ m, W 0 m (upd H1 D (.lst []))) ∧ ∀ i m H, W i m H →
      ((Itr 0 n).stop i H ∧ Qd H) ∨ ((Itr 0 n).go i H ∧ ∃ Nx : Hp → Prop, (∀ H', Nx H' → ∃ m', m' < m ∧ W (i + 1) m' H') ∧ ∀ x H', (Itr 0 n).yld i H x H' → g x (wipe σ vs) H' fun σ2 H2 => wipe σ2 vs = wipe σ vs ∧ tt σ2 H2 fun b H3 =>
        if b = true then te σ2 H3 fun y H4 => ∃ acc, H4 D = some (.lst acc) ∧ acc.length < sizeLine ∧ Nx (upd H4 D (.lst (acc ++ [y]))) else Nx H3) := by
  refine lc_range (lo := 0) (fun i H => Same H1 H ∧ H D = some (.lst (kept f v i))) ⟨same_upd hD, upd_same⟩ (fun i H hi ⟨sm, hd⟩ => ?_) fun H ⟨sm, e⟩ => hd H sm e
  rw [Int.zero_add]
  refine hs i H hi sm _ _ (fun hf H' s' => ?_) fun hf H' s' => ?_
  · refine ⟨_, s' _ _ hd, small1000 (Nat.le_trans (kept_len f v i) (by omega)), fun b o e => ?_, ?_⟩
    · rw [upd_ne (ne_of_none e hD)]
      exact s' _ _ (sm _ _ e)
    · rw [upd_same, kept_yes hf]
  · refine ⟨sm.trans s', ?_⟩
    rw [kept_no hf]
    exact s' _ _ hd
/-- [v(i) for i in range(n)] -/
theorem lc_m0 {n : Nat} {g : TG} {te : TE} {vs : List Nat} {σ : L2.St} {H1 : Hp} {D : Addr} {Qd : Hp → Prop} (v : Nat → V) (hD : H1 D = none) (hn : n ≤ 1000)
    (hs : ∀ i H, i < n → Same H1 H → ∀ (Z : V → Hp → Prop), (∀ H', Same H H' → Z (v i) H') → g (.int (i : Int)) (wipe σ vs) H fun σ2 H2 => wipe σ2 vs = wipe σ vs ∧ te σ2 H2 Z)
    (hd : ∀ H, Same H1 H → H D = some (.lst ((List.range n).map v)) → Qd H) :
    ∃ W : Nat → Nat → Hp → Prop, (∃ m, W 0 m (upd H1 D (.lst []))) ∧ ∀ i m H, W i m H →
      ((Itr 0 n).stop i H ∧ Qd H) ∨ ((Itr 0 n).go i H ∧ ∃ Nx : Hp → Prop, (∀ H', Nx H' → ∃ m', m' < m ∧ W (i + 1) m' H') ∧ ∀ x H', (Itr 0 n).yld i H x H' → g x (wipe σ vs) H' fun σ2 H2 => wipe σ2 vs = wipe σ vs ∧ tYes σ2 H2 fun b H3 =>
        if b = true then te σ2 H3 fun y H4 => ∃ acc, H4 D = some (.lst acc) ∧ acc.length < sizeLine ∧ Nx (upd H4 D (.lst (acc ++ [y]))) else Nx H3) :=
  lc_r0 (tt := tYes) (fun _ => true) v hD hn (fun i H hi sm Z M hz _ => hs i H hi sm Z (hz rfl)) fun H sm e => hd H sm (by
    rw [e]
    unfold kept
    rw [List.filter_eq_self.mpr (fun _ _ => rfl)])
end HW
namespace HW
open PySem PySem.Spec PyProof.Rows L2 HR
/-! ### what each def of the program promises -/
def Good (r : List Int) (m : Int) : Prop := 2 ≤ r.length ∧ r.length ≤ 12 ∧ ∀ x ∈ r, 0 ≤ x ∧ x < m
instance (r : List Int) (m : Int) : Decidable (Good r m) := by unfold Good; infer_instance
theorem Good.ring {r : List Int} {m : Int} (g : Good r m) (h : 2 ≤ m) : Ring r.length m r := by
  obtain ⟨h1, h2, h3⟩ := g
  refine ⟨rfl, h1, h, fun k hk => ?_, fun k hk => ?_⟩
  all_goals
    have e : at0 r k = r[k] := by
      unfold at0
      rw [List.getD_eq_getElem?_getD, List.getElem?_eq_getElem hk]
      rfl
    rw [e]
    have := h3 _ (List.getElem_mem hk)
    omega
theorem good_of {n : Nat} {r : List Int} {m : Int} (R : Ring n m r) (h : n ≤ 12) : Good r m := by
  refine ⟨by rw [R.len]; exact R.n2, by rw [R.len]; exact h, fun x hx => ?_⟩
  obtain ⟨k, hk, rfl⟩ := List.getElem_of_mem hx
  have e : at0 r k = r[k] := by
    unfold at0
    rw [List.getD_eq_getElem?_getD, List.getElem?_eq_getElem hk]
    rfl
  rw [← e]
  rw [R.len] at hk
  exact ⟨R.lo k hk, R.hi k hk⟩
def sp_need_numbers (cN : Addr) : Sp := fun vs H Q E => ∃ m : Int, vs = [.int m] ∧ (m < 2 ∨ 100 < m → E (.ref cN) none H) ∧ (2 ≤ m → m ≤ 100 → Q .non H)
def sp_need_machines (cR : Addr) : Sp := fun vs H Q E => ∃ m : Int, vs = [.int m] ∧ (m < 2 ∨ 12 < m → E (.ref cR) none H) ∧ (2 ≤ m → m ≤ 12 → Q .non H)
/-- what a ring and many that are handed in are worth: Z where both are right -/
def Held (cN cR : Addr) (r : List Int) (m : Int) (H : Hp) (E : XK) (Z : Prop) : Prop :=
  (m < 2 ∨ 100 < m → E (.ref cN) none H) ∧ (2 ≤ m → m ≤ 100 → ¬ Good r m → E (.ref cR) none H) ∧ (2 ≤ m → m ≤ 100 → Good r m → Z)
theorem Held.of {cN cR : Addr} {r : List Int} {m : Int} {H : Hp} {E : XK} {Z : Prop} {n : Nat} (R : Ring n m r) (hn : n ≤ 12) (hm : m ≤ 100) (z : Z) : Held cN cR r m H E Z := by
  have := R.m2
  exact ⟨fun h => by omega, fun _ _ h => absurd (good_of R hn) h, fun _ _ _ => z⟩
theorem Held.imp {cN cR : Addr} {r : List Int} {m : Int} {H : Hp} {E : XK} {Z Z' : Prop} (h : Held cN cR r m H E Z) (k : 2 ≤ m → m ≤ 100 → Good r m → Z → Z') : Held cN cR r m H E Z' :=
  ⟨h.1, h.2.1, fun a b c => k a b c (h.2.2 a b c)⟩
def sp_need_ring (K : PySem.W.Frag) (cN cR : Addr) : Sp := fun vs H Q E => ∃ (a : Addr) (r : List Int) (m : Int), vs = [.ref a, .int m] ∧ SqT K H a (I r) ∧ Held cN cR r m H E (Q .non H)
def sp_may (K : PySem.W.Frag) : Sp := fun vs H Q _ => ∃ (a : Addr) (r : List Int) (k : Nat), vs = [.ref a, .int (k : Int)] ∧ SqT K H a (I r) ∧ k < r.length ∧ Q (.bl (may r k)) H
def sp_able_of (K : PySem.W.Frag) : Sp := fun vs H Q _ => ∃ (a : Addr) (r : List Int), vs = [.ref a] ∧ SqT K H a (I r) ∧ r.length ≤ 1000 ∧
  ∀ H' p, Same H H' → H p = none → H' p = some (.lst (N (able r))) → Q (.ref p) H'
def sp_able (K : PySem.W.Frag) (cN cR : Addr) : Sp := fun vs H Q E => ∃ (a : Addr) (r : List Int) (m : Int), vs = [.ref a, .int m] ∧ SqT K H a (I r) ∧
  Held cN cR r m H E (∀ H' p, Same H H' → H p = none → H' p = some (.lst (N (able r))) → Q (.ref p) H')
def sp_moved (K : PySem.W.Frag) : Sp := fun vs H Q _ => ∃ (a : Addr) (r : List Int) (m : Int) (k : Nat), vs = [.ref a, .int m, .int (k : Int)] ∧ SqT K H a (I r) ∧ k < r.length ∧ r.length ≤ 1000 ∧ 0 < m ∧
  ∀ H' p, Same H H' → SqT K H' p (I (moved m r k)) → Q (.ref p) H'
/-- the machine that numbers draw as the t-th one -/
def nextOf (r ns : List Int) (t : Nat) : Nat := (able r).getD (if ns = [] then 0 else (at0 ns (t % ns.length) % ((able r).length : Int)).toNat) 0
def sp_next_of (K : PySem.W.Frag) : Sp := fun vs H Q _ => ∃ (a b : Addr) (r ns : List Int) (t : Nat), vs = [.ref a, .ref b, .int (t : Int)] ∧ SqT K H a (I r) ∧ SqL K H b (I ns) ∧ 0 < r.length ∧ r.length ≤ 1000 ∧
  ∀ H', Same H H' → Q (.int ((nextOf r ns t : Nat) : Int)) H'
/-- t steps that numbers draw: the order, the ring behind it -/
def draws (m : Int) (ns r : List Int) : Nat → List Nat × List Int
  | 0 => ([], r)
  | t + 1 => ((draws m ns r t).1 ++ [nextOf (draws m ns r t).2 ns t], HR.moved m (draws m ns r t).2 (nextOf (draws m ns r t).2 ns t))
theorem nextOf_mem {r ns : List Int} (t : Nat) (h : 0 < r.length) : nextOf r ns t ∈ able r := by
  have p := able_pos h
  unfold nextOf
  have key : ∀ i, i < (able r).length → (able r).getD i 0 ∈ able r := fun i hi => by
    rw [List.getD_eq_getElem?_getD, List.getElem?_eq_getElem hi]
    exact List.getElem_mem hi
  split
  · exact key 0 p
  · refine key _ ?_
    have a := Int.emod_nonneg (at0 ns (t % ns.length)) (show ((able r).length : Int) ≠ 0 by omega)
    have b := Int.emod_lt_of_pos (at0 ns (t % ns.length)) (show 0 < ((able r).length : Int) by omega)
    omega
theorem nextOf_lt {r ns : List Int} (t : Nat) (h : 0 < r.length) : nextOf r ns t < r.length := (mem_able.mp (nextOf_mem t h)).1
theorem draws_len (m : Int) (ns r : List Int) : ∀ t, (draws m ns r t).1.length = t
  | 0 => rfl
  | t + 1 => by
    show ((draws m ns r t).1 ++ [_]).length = t + 1
    rw [List.length_append, draws_len m ns r t]
    rfl
theorem draws_rlen (m : Int) (ns r : List Int) : ∀ t, (draws m ns r t).2.length = r.length
  | 0 => rfl
  | t + 1 => by
    show (HR.moved m (draws m ns r t).2 _).length = r.length
    rw [moved_len, draws_rlen m ns r t]
theorem draws_ex {n : Nat} {m : Int} {ns r : List Int} (R : Ring n m r) : ∀ t, Ex n m r (draws m ns r t).1 (draws m ns r t).2
  | 0 => .nil
  | t + 1 => by
    have ih := draws_ex (ns := ns) R t
    have R' := ih.ring R
    have q := mem_able.mp (nextOf_mem (ns := ns) t (r := (draws m ns r t).2) (by rw [R'.len]; have := R.n2; omega))
    exact ih.snoc (by rw [← R'.len]; exact q.1) q.2
def sp_drawn (K : PySem.W.Frag) (cN cR : Addr) : Sp := fun vs H Q E => ∃ (a b : Addr) (r ns : List Int) (m : Int) (t : Nat), vs = [.ref a, .int m, .ref b, .int (t : Int)] ∧ SqT K H a (I r) ∧ SqL K H b (I ns) ∧ t ≤ 1000 ∧
  Held cN cR r m H E (∀ H' p, Same H H' → H p = none → H' p = some (.lst (N (draws m ns r t).1)) → Q (.ref p) H')
end HW
namespace HW
open PySem PySem.Spec PyProof.Rows L2 HR
/-- one step that is asked of any machine: true: there is none such; false: it may not step -/
def stepR (m : Int) (r : List Int) (z : Int) : Except Bool (List Int) :=
  if z < 0 ∨ (r.length : Int) ≤ z then .error true else if may r z.toNat = true then .ok (HR.moved m r z.toNat) else .error false
theorem stepR_len {m : Int} {r r' : List Int} {z : Int} (h : stepR m r z = .ok r') : r'.length = r.length := by
  unfold stepR at h
  split at h
  · cases h
  · split at h
    · cases h
      exact moved_len _ _ _
    · cases h
def bad (cM cW : Addr) (b : Bool) : Value := .ref (if b = true then cM else cW)
/-- what a step is worth to who asks it -/
def Stp (K : PySem.W.Frag) (cM cW : Addr) (m : Int) (r : List Int) (z : Int) (H : Hp) (Q : VK) (E : XK) : Prop :=
  (∀ b, stepR m r z = .error b → E (bad cM cW b) none H) ∧ ∀ r', stepR m r z = .ok r' → ∀ H' p, Same H H' → SqT K H' p (I r') → Q (.ref p) H'
def sp_step_of (K : PySem.W.Frag) (cM cW : Addr) : Sp := fun vs H Q E => ∃ (a : Addr) (r : List Int) (m z : Int), vs = [.ref a, .int m, .int z] ∧ SqT K H a (I r) ∧ r.length ≤ 1000 ∧ 0 < m ∧ Stp K cM cW m r z H Q E
def sp_stepped (K : PySem.W.Frag) (cN cR cM cW : Addr) : Sp := fun vs H Q E => ∃ (a : Addr) (r : List Int) (m z : Int), vs = [.ref a, .int m, .int z] ∧ SqT K H a (I r) ∧ Held cN cR r m H E (Stp K cM cW m r z H Q E)
/-- a list of rings -/
def Tups (K : PySem.W.Frag) (H : Hp) (xs : List V) (rs : List (List Int)) : Prop := Paired (fun (v : V) (r : List Int) => ∃ a, v = .ref a ∧ SqT K H a (I r)) xs rs
theorem Tups.same {K : PySem.W.Frag} {H H' : Hp} (s : ∀ b o xs, H b = some o → (o = .tup xs ∨ ∃ ob, o = .frz ob (.tup xs)) → H' b = some o) : ∀ {xs : List V} {rs : List (List Int)}, Tups K H xs rs → Tups K H' xs rs
  | _, _, .nil => .nil
  | _, _, .cons ⟨a, e, h⟩ t => by
    refine .cons ⟨a, e, ?_⟩ (Tups.same s t)
    rcases h with (h | ⟨o, h⟩) | h
    · exact .inl (.inl (s _ _ _ h (.inl rfl)))
    · exact .inl (.inr ⟨o, s _ _ _ h (.inr ⟨o, rfl⟩)⟩)
    · exact .inr h
theorem Tups.of {K : PySem.W.Frag} {H H' : Hp} (s : Same H H') {xs : List V} {rs : List (List Int)} (h : Tups K H xs rs) : Tups K H' xs rs := h.same fun b o _ e _ => s b o e
/-- behind a store to a list -/
theorem Tups.upd {K : PySem.W.Frag} {H : Hp} {p : Addr} {ys : List V} {o : HO} (hp : H p = some (.lst ys)) {xs : List V} {rs : List (List Int)} (h : Tups K H xs rs) : Tups K (upd H p o) xs rs := h.same fun b u zs e k => by
  rw [upd_ne]
  · exact e
  · intro q
    rw [q, hp] at e
    cases e
    rcases k with k | ⟨_, k⟩ <;> cases k
theorem Tups.get {K : PySem.W.Frag} {H : Hp} : ∀ {xs : List V} {rs : List (List Int)} {i : Nat} {r : List Int}, Tups K H xs rs → rs[i]? = some r → ∃ a, xs[i]? = some (.ref a) ∧ SqT K H a (I r)
  | _, _, _, _, .nil, e => by simp at e
  | _, _, 0, _, .cons ⟨a, e, h⟩ _, q => by
    cases q
    exact ⟨a, by rw [e]; rfl, h⟩
  | _, _, i + 1, r, .cons _ t, q => Tups.get (i := i) (r := r) t (by simpa using q)
/-- the rings that are gone through, behind those of rs; the last one is r -/
def goneA (m : Int) (rs : List (List Int)) (r : List Int) : List Int → Except Bool (List (List Int))
  | [] => .ok rs
  | z :: zs => match stepR m r z with
    | .error b => .error b
    | .ok r' => goneA m (rs ++ [r']) r' zs
def Lists (K : PySem.W.Frag) (H : Hp) (p : Addr) (rs : List (List Int)) : Prop := ∃ xs, H p = some (.lst xs) ∧ Tups K H xs rs
def sp_gone (K : PySem.W.Frag) (cN cR cM cW : Addr) : Sp := fun vs H Q E => ∃ (a b : Addr) (r zs : List Int) (m : Int), vs = [.ref a, .int m, .ref b] ∧ SqT K H a (I r) ∧ SqL K H b (I zs) ∧ zs.length ≤ 1000 ∧ Held cN cR r m H E (
  (∀ c H', goneA m [r] r zs = .error c → Same H H' → E (bad cM cW c) none H') ∧ ∀ rs H' p, goneA m [r] r zs = .ok rs → Same H H' → H p = none → Lists K H' p rs → Q (.ref p) H')
/-- marks carried on -/
def tracedA (m : Int) (fs : List Int) (fr : Int) (r : List Int) : List Int → Except Bool (List Int)
  | [] => .ok fs
  | z :: zs => match stepR m r z with
    | .error b => .error b
    | .ok r' => if z = 0 then tracedA m (fs.set 0 fr) (fr + 1) r' zs else tracedA m (fs.set z.toNat (at0 fs (z.toNat - 1))) fr r' zs
def marks (n : Nat) : List Int := (List.range n).map fun (k : Nat) => (k : Int)
def sp_traced (K : PySem.W.Frag) (cN cR cM cW : Addr) : Sp := fun vs H Q E => ∃ (a b : Addr) (r zs : List Int) (m : Int), vs = [.ref a, .int m, .ref b] ∧ SqT K H a (I r) ∧ SqL K H b (I zs) ∧ zs.length ≤ 1000 ∧ Held cN cR r m H E (
  (∀ c H', tracedA m (marks r.length) r.length r zs = .error c → Same H H' → E (bad cM cW c) none H') ∧ ∀ fs H' p, tracedA m (marks r.length) r.length r zs = .ok fs → Same H H' → H p = none → H' p = some (.lst (I fs)) → Q (.ref p) H')
def counts (zs : List Int) (n : Nat) : List Int := (List.range n).map fun (k : Nat) => ((zs.count (k : Int) : Nat) : Int)
def sp_counted (K : PySem.W.Frag) (cR cM : Addr) : Sp := fun vs H Q E => ∃ (b : Addr) (zs : List Int) (m : Int), vs = [.ref b, .int m] ∧ SqL K H b (I zs) ∧ zs.length ≤ 1000 ∧ (m < 2 ∨ 12 < m → E (.ref cR) none H) ∧
  (2 ≤ m → m ≤ 12 → (∃ z ∈ zs, z < 0 ∨ m ≤ z) → ∀ H', Same H H' → E (.ref cM) none H') ∧
  (2 ≤ m → m ≤ 12 → (∀ z ∈ zs, 0 ≤ z ∧ z < m) → ∀ H' p, Same H H' → H p = none → H' p = some (.lst (I (counts zs m.toNat))) → Q (.ref p) H')
def sp_most (cR : Addr) : Sp := fun vs H Q E => ∃ m : Int, vs = [.int m] ∧ (m < 2 ∨ 12 < m → E (.ref cR) none H) ∧ (2 ≤ m → m ≤ 12 → Q (.int ((most m.toNat : Nat) : Int)) H)
def sp_healed (K : PySem.W.Frag) (cN cR : Addr) : Sp := fun vs H Q E => ∃ (a : Addr) (r : List Int) (m : Int), vs = [.ref a, .int m] ∧ SqT K H a (I r) ∧ Held cN cR r m H E (∀ H', Same H H' → Q (.bl (decide ((able r).length = 1))) H')
/-- up to the first healed ring, at most u steps, the next one the t-th -/
def healA (m : Int) (ns : List Int) (o : List Nat) (r : List Int) (t : Nat) : Nat → List Nat
  | 0 => o
  | u + 1 => if (able r).length = 1 then o else healA m ns (o ++ [nextOf r ns t]) (HR.moved m r (nextOf r ns t)) (t + 1) u
def sp_healing (K : PySem.W.Frag) (cN cR : Addr) : Sp := fun vs H Q E => ∃ (a b : Addr) (r ns : List Int) (m : Int), vs = [.ref a, .int m, .ref b] ∧ SqT K H a (I r) ∧ SqL K H b (I ns) ∧ Held cN cR r m H E (
  (m < r.length → E (.ref cN) none H) ∧ ((r.length : Int) ≤ m → ∀ H' p, Same H H' → H p = none → H' p = some (.lst (N (healA m ns [] r 0 (most r.length)))) → Q (.ref p) H'))
/-- the machines from k on, once round -/
def roundOf (n k : Nat) : List Nat := List.range' k (n - k) ++ List.range k
def sp_turns (K : PySem.W.Frag) (cN cR cH : Addr) : Sp := fun vs H Q E => ∃ (a : Addr) (r : List Int) (m : Int), vs = [.ref a, .int m] ∧ SqT K H a (I r) ∧ Held cN cR r m H E (
  ((able r).length ≠ 1 → ∀ H', Same H H' → E (.ref cH) none H') ∧ ∀ k, able r = [k] → ∀ H' p, Same H H' → H p = none → H' p = some (.lst (N (roundOf r.length k))) → Q (.ref p) H')
theorem tupUpd {K : PySem.W.Frag} {H : Hp} {p c : Addr} {ys xs : List V} {o : HO} (hp : H p = some (.lst ys)) (h2 : SqT K H c xs) : SqT K (L2.upd H p o) c xs := by
  rcases h2 with (h2 | ⟨o, h2⟩) | h2
  · refine .inl (.inl ?_)
    rw [upd_ne (ne_of h2 hp (by intro q; cases q))]
    exact h2
  · refine .inl (.inr ⟨o, ?_⟩)
    rw [upd_ne (ne_of h2 hp (by intro q; cases q))]
    exact h2
  · exact .inr h2
theorem flat_one {n : Nat} : (List.replicate n [V.int 0]).flatten = List.replicate n (V.int 0) := by
  induction n with
  | zero => rfl
  | succ n ih =>
    rw [List.replicate_succ, List.flatten_cons, ih, List.replicate_succ]
    rfl
theorem counts_snoc {zs : List Int} {k n : Nat} (h : k < n) : counts (zs ++ [(k : Int)]) n = (counts zs n).set k (at0 (counts zs n) k + 1) := by
  have lc : ∀ l : List Int, (counts l n).length = n := fun l => by unfold counts; rw [List.length_map, List.length_range]
  have gt : ∀ (l : List Int) (i : Nat), i < n → (counts l n)[i]? = some ((l.count (i : Int) : Nat) : Int) := fun l i hi => by
    unfold counts
    rw [List.getElem?_map, List.getElem?_range hi]
    rfl
  refine List.ext_getElem? fun i => ?_
  by_cases hi : i < n
  · rw [gt _ i hi, List.getElem?_set, lc]
    by_cases e : k = i
    · subst e
      rw [if_pos rfl, if_pos hi]
      unfold at0
      rw [List.getD_eq_getElem?_getD, gt _ k hi, List.count_append]
      simp
    · rw [if_neg e, gt _ i hi, List.count_append, List.count_singleton]
      have : ¬ ((k : Int) == (i : Int)) = true := by simp; omega
      simp [this]
  · rw [List.getElem?_eq_none (by rw [lc]; omega), List.getElem?_eq_none (by rw [List.length_set, lc]; omega)]
theorem most_le {n : Nat} (h : n ≤ 12) : most n ≤ 198 := by
  have key : ∀ n : Fin 13, most n.1 ≤ 198 := by decide
  exact key ⟨n, by omega⟩
theorem rg_round {n k : Nat} (h : k ≤ n) : rgV (k : Int) (n : Int) ++ rgV 0 (k : Int) = N (roundOf n k) := by
  unfold rgV roundOf N
  rw [List.map_append, Int.sub_zero, Int.toNat_natCast, show ((n : Int) - (k : Int)).toNat = n - k by omega]
  congr 1
  · rw [List.range'_eq_map_range, List.map_map]
    refine List.map_congr_left fun i _ => ?_
    show V.int ((k : Int) + (i : Int)) = V.int (((k + i : Nat)) : Int)
    rw [Int.natCast_add]
  · refine List.map_congr_left fun i _ => ?_
    rw [Int.zero_add]
theorem healA_zero (m : Int) (ns : List Int) (o : List Nat) (r : List Int) (t : Nat) : healA m ns o r t 0 = o := rfl
theorem healA_succ (m : Int) (ns : List Int) (o : List Nat) (r : List Int) (t u : Nat) : healA m ns o r t (u + 1) = if (able r).length = 1 then o else healA m ns (o ++ [nextOf r ns t]) (HR.moved m r (nextOf r ns t)) (t + 1) u := rfl
theorem SqL.same {K : PySem.W.Frag} {H H' : Hp} {a : Addr} {xs : List V} (s : Same H H') (h : SqL K H a xs) : SqL K H' a xs := s.seq h
end HW
namespace HW
open PySem PySem.Spec PyProof.Rows L2 HR
theorem mul_once (l : Addr) (items : Array Value) (n : Nat) (dd : Option Addr) (sl : Array (Option Value)) (u : Tok) :
    Meets (Builtin.«tuple.__mul__» ⟨[.ref l, .int 1 u], []⟩) (fun _ R s => s.heap.get? l = some { cls := .type "tuple", dict := dd, data := .seq items n, slots := sl } ∧ R (.ok (.ret (Value.ref l))) s) :=
  .of_wp fun prog w A R s h => by
    obtain ⟨hp, g, d, tk, os⟩ := s
    obtain ⟨hl, h⟩ := h
    have f1 := AutoSeq1.idx_int
    have c1 : (items.isEmpty || (1 : Int) == 1) = true := by simp
    wp_walk using wpAny_loadPart' hl
    repeat (first
      | (refine wpAny_ite_false (by decide) ?_; wp_walk using wpAny_loadPart' hl)
      | (refine wpAny_ite_true c1 ?_; wp_walk using wpAny_loadPart' hl)
      | (refine wpAny_ite_true (decide_eq_true c1) ?_; wp_walk using wpAny_loadPart' hl))
    exact ⟨_, rfl, h⟩
theorem mul_none (l : Addr) (items : Array Value) (n : Nat) (dd : Option Addr) (sl : Array (Option Value)) (u : Tok) (hne : items.isEmpty = false) :
    Meets (Builtin.«tuple.__mul__» ⟨[.ref l, .int 0 u], []⟩) (fun _ R s => s.heap.get? l = some { cls := .type "tuple", dict := dd, data := .seq items n, slots := sl } ∧
      R (.ok (.ret (Value.ref s.heap.objs.size))) { s with heap := s.heap.push { cls := Value.type "tuple", data := Data.seq #[] }, toks := s.toks }) :=
  .of_wp fun prog w A R s h => by
    obtain ⟨hp, g, d, tk, os⟩ := s
    obtain ⟨hl, h⟩ := h
    have f1 := AutoSeq1.idx_int
    have c1 : (items.isEmpty || (0 : Int) == 1) = false := by simp [hne]
    have c2 : (decide ((0 : Int) ≤ 0) || items.isEmpty) = true := by simp
    wp_walk using wpAny_loadPart' hl
    repeat (first
      | (refine wpAny_ite_false (decide_eq_false (by rw [c1]; exact Bool.false_ne_true)) ?_; wp_walk using wpAny_loadPart' hl)
      | (refine wpAny_ite_true (decide_eq_true c2) ?_; wp_walk using wpAny_loadPart' hl))
    exact ⟨_, rfl, h⟩
section
variable {X : Cx}
/-- t * k, k from nought on, whatever object comes of it -/
def rRepS (K : PySem.W.Frag) : R2 := fun x y H Q => ∃ (l : Addr) (k : Nat) (xs : List V), x = .ref l ∧ y = .int (k : Int) ∧ SqT K H l xs ∧ xs ≠ [] ∧ k ≤ 1000 ∧ xs.length ≤ 1000 ∧ ∀ p H', Same H H' → SqT K H' p (List.replicate k xs).flatten → Q (.ref p) H'
theorem op_repS : OpR X (binaryOp .Mult) (rRepS X.K) := by
  intro pins s σ H x y v u Q I rx ry h
  obtain ⟨l, k, xs, rfl, rfl, hT, hne, hk, hz, q⟩ := h
  by_cases k2 : 2 ≤ k
  · refine op_repT pins s σ H _ _ v u Q I rx ry ⟨l, (k : Int), xs, rfl, rfl, hT, hne, by omega, by omega, hz, fun p hp => q p _ (same_upd hp) (tupOf ?_)⟩
    rw [upd_same, Int.toNat_natCast]
  cases rx
  obtain ⟨t, rfl⟩ := ry
  obtain ⟨its, r, ⟨⟨cls, dd, data, sl⟩, ho, hc, n, hd⟩, hs⟩ := I.tuple hT
  simp only at hc hd
  subst hc hd
  have hi : its.toArray.isEmpty = false := by
    cases its with
    | nil =>
      have := r.length
      exact absurd (List.eq_nil_of_length_eq_zero this) hne
    | cons a b => rfl
  by_cases k1 : k = 1
  · subst k1
    refine wpAny_binaryOp_repeat_ref (T := "tuple") (U := "int") (by decide) ⟨_, ho, rfl⟩ (fun s' => typeIs_int s' _ t) noFill_tuple_mul F.fills_int_mul F.slot_int_rmul repeat_tuple F.slot_int_index.lookup
      (call_meets F.slot_int_rmul (typeIs_int s _ t) F.entry_int_rmul (F.args_int_rmul_2 _ _) (int_rmul_tuple _ t l its.toArray n dd sl)
        ⟨ho, rfl, ⟨_, ho, rfl⟩, call_meets F.slot_tuple_mul ⟨_, ho, rfl⟩ F.entry_tuple_mul (F.args_tuple_mul_2 _ _) (mul_once l its.toArray n dd sl t) ⟨ho, ?_⟩⟩)
    refine ⟨.ref l, H, I, rfl, q l H (Same.refl H) ?_⟩
    have e : (List.replicate 1 xs).flatten = xs := by simp
    rw [e]
    exact hT
  · have k0 : k = 0 := by omega
    subst k0
    refine wpAny_binaryOp_repeat_ref (T := "tuple") (U := "int") (by decide) ⟨_, ho, rfl⟩ (fun s' => typeIs_int s' _ t) noFill_tuple_mul F.fills_int_mul F.slot_int_rmul repeat_tuple F.slot_int_index.lookup
      (call_meets F.slot_int_rmul (typeIs_int s _ t) F.entry_int_rmul (F.args_int_rmul_2 _ _) (int_rmul_tuple _ t l its.toArray n dd sl)
        ⟨ho, rfl, ⟨_, ho, rfl⟩, call_meets F.slot_tuple_mul ⟨_, ho, rfl⟩ F.entry_tuple_mul (F.args_tuple_mul_2 _ _) (mul_none l its.toArray n dd sl t hi) ⟨ho, ?_⟩⟩)
    have fr := I.hok.fresh (Nat.le_refl s.heap.objs.size)
    refine ⟨.ref s.heap.objs.size, _, I.laid (t' := s.toks) (o := .tup []) (fun b ob z => Heap.get?_push_of_some _ z) (Nat.le_refl _) ?_, rfl, q _ _ (same_upd fr) (tupOf upd_same)⟩
    exact ⟨Nat.zero_le _, [], .nil, IsTup.new _ _⟩
end
end HW
namespace HW
open PySem PySem.Spec PyProof.Rows L2 HR
/-! ### what each helper of the laws promises -/
def sp_law_cell_at (K : PySem.W.Frag) : Sp := fun vs H Q _ => ∃ (a : Addr) (ns : List Int) (k : Nat), vs = [.ref a, .int (k : Int)] ∧ SqL K H a (I ns) ∧ Q (.int (at0 ns k)) H
def mixed1 (c k : Int) : Int := (c % 1000003 + 1) * (k * 48271 + 11) % 1000003
def mixed (c k : Int) : Int := let y := (mixed1 c k * mixed1 c k + k * 7919 + c / 1000003) % 1000003; y * y % 1000003
theorem mixed_nonneg (c k : Int) : 0 ≤ mixed c k := Int.emod_nonneg _ (by decide)
def sp_law_mixed : Sp := fun vs H Q _ => ∃ c k : Int, vs = [.int c, .int k] ∧ Q (.int (mixed c k)) H
def sizeI (ns : List Int) : Int := 2 + at0 ns 0 % (6 + 5 * (if at0 ns 0 / 1009 % 6 = 1 then 1 else 0))
def sizeF (ns : List Int) : Nat := (sizeI ns).toNat
theorem sizeI_is (ns : List Int) : sizeI ns = ((sizeF ns : Nat) : Int) ∧ 2 ≤ sizeF ns ∧ sizeF ns ≤ 12 := by
  have h : 2 ≤ sizeI ns ∧ sizeI ns ≤ 12 := by
    unfold sizeI
    split
    · have a := Int.emod_nonneg (at0 ns 0) (show (6 + 5 * 1 : Int) ≠ 0 by decide)
      have b := Int.emod_lt_of_pos (at0 ns 0) (show (0 : Int) < 6 + 5 * 1 by decide)
      omega
    · have a := Int.emod_nonneg (at0 ns 0) (show (6 + 5 * 0 : Int) ≠ 0 by decide)
      have b := Int.emod_lt_of_pos (at0 ns 0) (show (0 : Int) < 6 + 5 * 0 by decide)
      omega
  unfold sizeF
  omega
def sp_law_size (K : PySem.W.Frag) : Sp := fun vs H Q _ => ∃ (a : Addr) (ns : List Int), vs = [.ref a] ∧ SqL K H a (I ns) ∧ Q (.int ((sizeF ns : Nat) : Int)) H
def maxI (i j : Int) : Int := if j > i then j else i
def minI (i j : Int) : Int := if j < i then j else i
def manyF (ns : List Int) (n : Int) : Int :=
  at0 [n + at0 ns 1 / 5 % 4, 2 + at0 ns 1 / 5 % 99, n, maxI 2 (n - 1), 2 + at0 ns 1 / 5 % 3] (at0 ns 1 % 5).toNat
theorem manyF_in (ns : List Int) {n : Int} (h1 : 2 ≤ n) (h2 : n ≤ 12) : 2 ≤ manyF ns n ∧ manyF ns n ≤ 100 := by
  unfold manyF maxI
  have a := Int.emod_nonneg (at0 ns 1) (show (5 : Int) ≠ 0 by decide)
  have b := Int.emod_lt_of_pos (at0 ns 1) (show (0 : Int) < 5 by decide)
  obtain ⟨i, hi⟩ : ∃ i, i = (at0 ns 1 % 5).toNat := ⟨_, rfl⟩
  rw [← hi]
  have hi5 : i < 5 := by omega
  match i, hi5 with
  | 0, _ => show 2 ≤ n + at0 ns 1 / 5 % 4 ∧ n + at0 ns 1 / 5 % 4 ≤ 100; omega
  | 1, _ => show 2 ≤ 2 + at0 ns 1 / 5 % 99 ∧ 2 + at0 ns 1 / 5 % 99 ≤ 100; omega
  | 2, _ => show 2 ≤ n ∧ n ≤ 100; omega
  | 3, _ =>
    show 2 ≤ (if n - 1 > 2 then n - 1 else 2) ∧ (if n - 1 > 2 then n - 1 else 2) ≤ 100
    split <;> omega
  | 4, _ => show 2 ≤ 2 + at0 ns 1 / 5 % 3 ∧ 2 + at0 ns 1 / 5 % 3 ≤ 100; omega
def sp_law_many (K : PySem.W.Frag) : Sp := fun vs H Q _ => ∃ (a : Addr) (ns : List Int) (n : Int), vs = [.ref a, .int n] ∧ SqL K H a (I ns) ∧ ∀ H', Same H H' → Q (.int (manyF ns n)) H'
def runs (n : Nat) (g : Nat → Int) : List Int := (List.range n).map g
theorem runs_len (n : Nat) (g : Nat → Int) : (runs n g).length = n := by unfold runs; rw [List.length_map, List.length_range]
theorem runs_at (n : Nat) (g : Nat → Int) {k : Nat} (h : k < n) : at0 (runs n g) k = g k := by
  unfold at0 runs
  rw [List.getD_eq_getElem?_getD, List.getElem?_map, List.getElem?_range h]
  rfl
def ringF (ns : List Int) (n : Nat) (m : Int) : List Int :=
  if at0 ns 2 % 5 = 0 then runs n fun k => at0 ns (4 + k) % m
  else if at0 ns 2 % 5 = 1 then runs n fun k => mixed (at0 ns 2) k % minI m (2 + at0 ns 2 / 5 % 3)
  else if at0 ns 2 % 5 = 2 then List.replicate (at0 ns 2 / 5 % ((n : Int) + 1)).toNat (at0 ns 2 / 50 % m) ++ List.replicate (n - (at0 ns 2 / 5 % ((n : Int) + 1)).toNat) (at0 ns 2 / 5000 % m)
  else if at0 ns 2 % 5 = 3 then runs n fun k => (at0 ns 2 / 5 + (k : Int) * (1 + at0 ns 2 / 500 % 3)) % m
  else runs n fun k => mixed (at0 ns 2) k % m
theorem ring_of_runs {n : Nat} {m : Int} (hn : 2 ≤ n) (hm : 2 ≤ m) {g : Nat → Int} (h : ∀ k, k < n → 0 ≤ g k ∧ g k < m) : Ring n m (runs n g) :=
  ⟨runs_len n g, hn, hm, fun k hk => by rw [runs_at n g hk]; exact (h k hk).1, fun k hk => by rw [runs_at n g hk]; exact (h k hk).2⟩
theorem ringF_ring (ns : List Int) {n : Nat} {m : Int} (hn : 2 ≤ n) (hm : 2 ≤ m) : Ring n m (ringF ns n m) := by
  have md : ∀ x : Int, 0 ≤ x % m ∧ x % m < m := fun x => ⟨Int.emod_nonneg _ (by omega), Int.emod_lt_of_pos _ (by omega)⟩
  unfold ringF
  split
  · exact ring_of_runs hn hm fun k _ => md _
  split
  · refine ring_of_runs hn hm fun k _ => ?_
    have h : 0 < minI m (2 + at0 ns 2 / 5 % 3) ∧ minI m (2 + at0 ns 2 / 5 % 3) ≤ m := by
      unfold minI
      split <;> omega
    have a := Int.emod_nonneg (mixed (at0 ns 2) k) (show minI m (2 + at0 ns 2 / 5 % 3) ≠ 0 by omega)
    have b := Int.emod_lt_of_pos (mixed (at0 ns 2) k) h.1
    omega
  split
  · have a := Int.emod_nonneg (at0 ns 2 / 5) (show (n : Int) + 1 ≠ 0 by omega)
    have b := Int.emod_lt_of_pos (at0 ns 2 / 5) (show (0 : Int) < (n : Int) + 1 by omega)
    obtain ⟨i, hi⟩ : ∃ i, i = (at0 ns 2 / 5 % ((n : Int) + 1)).toNat := ⟨_, rfl⟩
    rw [← hi]
    have hin : i ≤ n := by omega
    have key : ∀ k, k < n → 0 ≤ at0 (List.replicate i (at0 ns 2 / 50 % m) ++ List.replicate (n - i) (at0 ns 2 / 5000 % m)) k ∧ at0 (List.replicate i (at0 ns 2 / 50 % m) ++ List.replicate (n - i) (at0 ns 2 / 5000 % m)) k < m := fun k hk => by
      unfold at0
      rw [List.getD_eq_getElem?_getD]
      by_cases c : k < i
      · rw [List.getElem?_append_left (by rw [List.length_replicate]; exact c), List.getElem?_replicate, if_pos c]
        exact md _
      · rw [List.getElem?_append_right (by rw [List.length_replicate]; omega), List.getElem?_replicate, List.length_replicate, if_pos (by omega)]
        exact md _
    refine ⟨?_, hn, hm, fun k hk => (key k hk).1, fun k hk => (key k hk).2⟩
    rw [List.length_append, List.length_replicate, List.length_replicate]
    omega
  split
  · exact ring_of_runs hn hm fun k _ => md _
  · exact ring_of_runs hn hm fun k _ => md _
def sp_law_ring (K : PySem.W.Frag) : Sp := fun vs H Q _ => ∃ (a : Addr) (ns : List Int) (n : Nat) (m : Int), vs = [.ref a, .int (n : Int), .int m] ∧ SqL K H a (I ns) ∧ 2 ≤ n ∧ n ≤ 12 ∧ 2 ≤ m ∧ m ≤ 100 ∧
  ∀ H' p, Same H H' → SqT K H' p (I (ringF ns n m)) → Q (.ref p) H'
/-- a sequence of ints, a tuple or a list -/
def Sq (K : PySem.W.Frag) (H : Hp) (a : Addr) (xs : List V) : Prop := SqL K H a xs ∨ SqT K H a xs
theorem Sq.same {K : PySem.W.Frag} {H H' : Hp} {a : Addr} {xs : List V} (s : Same H H') (h : Sq K H a xs) : Sq K H' a xs := h.elim (fun h => .inl (s.seq h)) fun h => .inr (s.tup h)
section
variable {X : Cx}
def rIxSq (K : PySem.W.Frag) : R2 := fun x y H Q => ∃ p xs i v, x = .ref p ∧ y = .int i ∧ Sq K H p xs ∧ atI xs i = some v ∧ Q v H
theorem ix_sq : IxR X (rIxSq X.K) := by
  intro value slice pins s σ H x y v u Q I rx ry h hs
  obtain ⟨p, xs, i, z, ex, ey, hq, he, q⟩ := h
  rcases hq with hq | hq
  · exact ix_list value slice pins s σ H x y v u Q I rx ry ⟨p, xs, i, z, ex, ey, hq, he, q⟩ hs
  · exact ix_tup value slice pins s σ H x y v u Q I rx ry ⟨p, xs, i, z, ex, ey, hq, he, q⟩ hs
end
def sp_law_able (K : PySem.W.Frag) : Sp := fun vs H Q _ => ∃ (a : Addr) (r : List Int), vs = [.ref a] ∧ Sq K H a (I r) ∧ r.length ≤ 1000 ∧
  ∀ H' p, Same H H' → H p = none → H' p = some (.lst (N (able r))) → Q (.ref p) H'
def sp_law_step (K : PySem.W.Frag) : Sp := fun vs H Q _ => ∃ (a : Addr) (r : List Int) (m : Int) (k : Nat), vs = [.ref a, .int m, .int (k : Int)] ∧ SqT K H a (I r) ∧ k < r.length ∧ r.length ≤ 1000 ∧ 0 < m ∧
  ∀ H' p, Same H H' → SqT K H' p (I (HR.moved m r k)) → Q (.ref p) H'
end HW
namespace HW
open PySem PySem.Spec PyProof.Rows L2 HR
/-! ### == of lists and tuples of ints -/
def dI (r : List Int) : List PyData := r.map PyData.int
theorem eqv_dI : ∀ r s : List Int, PyData.eqvAll (dI r) (dI s) = decide (r = s)
  | [], [] => rfl
  | [], _ :: _ => rfl
  | _ :: _, [] => rfl
  | x :: r, y :: s => by
    show (PyData.eqv (.int x) (.int y) && PyData.eqvAll (dI r) (dI s)) = decide (x :: r = y :: s)
    rw [eqv_dI r s]
    show ((x == y) && decide (r = s)) = decide (x :: r = y :: s)
    by_cases h1 : x = y
    · subst h1
      by_cases h2 : r = s
      · subst h2; simp
      · simp [h2]
    · simp [h1]
theorem can_dI : ∀ r : List Int, PyData.canLayAll0 (dI r) = true
  | [] => rfl
  | x :: r => by
    show (PyData.canLay0 (.int x) && PyData.canLayAll0 (dI r)) = true
    rw [can_dI r]
    rfl
theorem depth_dI : ∀ r : List Int, PyData.depthAll (dI r) = 0
  | [] => rfl
  | x :: r => by
    show max (PyData.depth (.int x)) (PyData.depthAll (dI r)) = 0
    rw [depth_dI r]
    rfl
theorem shaped_L (r : List Int) : SeqAt.shaped (.list (dI r)) = true := by
  unfold SeqAt.shaped
  show (PyData.canLayAll0 (dI r) && decide (PyData.depthAll (dI r) + 1 ≤ 64)) = true
  rw [can_dI, depth_dI]
  rfl
theorem shaped_T (r : List Int) : SeqAt.shaped (.tuple (dI r)) = true := by
  unfold SeqAt.shaped
  show (PyData.canLayAll0 (dI r) && decide (PyData.depthAll (dI r) + 1 ≤ 64)) = true
  rw [can_dI, depth_dI]
  rfl
theorem dp_I {K : PySem.W.Frag} {H : Hp} : ∀ r : List Int, DpAll K H (I r) (dI r)
  | [] => .nil
  | x :: r => .cons (.int x) (dp_I r)
theorem dp_L {K : PySem.W.Frag} {H : Hp} {a : Addr} {r : List Int} (h : SqL K H a (I r)) : Dp K H (.ref a) (.list (dI r)) := .lst h (dp_I r)
theorem dp_T {K : PySem.W.Frag} {H : Hp} {a : Addr} {r : List Int} (h : SqT K H a (I r)) : Dp K H (.ref a) (.tuple (dI r)) := .tup h (dp_I r)
/-- ints by places -/
abbrev Z (l : List Nat) : List Int := l.map fun (k : Nat) => (k : Int)
theorem N_Z (l : List Nat) : N l = I (Z l) := by
  unfold N I Z
  rw [List.map_map]
  rfl
theorem Z_inj : ∀ {k l : List Nat}, Z k = Z l ↔ k = l
  | [], [] => ⟨fun _ => rfl, fun _ => rfl⟩
  | [], _ :: _ => ⟨(fun h => nomatch h), (fun h => nomatch h)⟩
  | _ :: _, [] => ⟨(fun h => nomatch h), (fun h => nomatch h)⟩
  | a :: k, b :: l => by
    constructor
    · intro h
      have h1 : ((a : Int)) = (b : Int) := (List.cons.inj h).1
      have h2 := (Z_inj (k := k) (l := l)).mp (List.cons.inj h).2
      rw [h2, show a = b by omega]
    · intro h; rw [h]
section
variable {X : Cx}
def rEqI (K : PySem.W.Frag) (g : Bool → Bool) : R2 := fun x y H Q => ∃ (a b : Addr) (r s : List Int), x = .ref a ∧ y = .ref b ∧ ((SqL K H a (I r) ∧ SqL K H b (I s)) ∨ (SqT K H a (I r) ∧ SqT K H b (I s))) ∧ Q (.bl (g (decide (r = s)))) H
theorem op_eqI (hu : X.A.units + 64 < cLine) : OpR X (compareOp .Eq) (rEqI X.K fun b => b) := by
  intro pins s σ H x y v u Q I rx ry h
  obtain ⟨a, b, r, s', ex, ey, hs, q⟩ := h
  subst ex ey
  rcases hs with ⟨h1, h2⟩ | ⟨h1, h2⟩
  · refine op_eqD hu pins s σ H _ _ v u Q I rx ry ⟨_, _, dp_L h1, dp_L h2, shaped_L _, shaped_L _, ?_⟩
    show Q (.bl (PyData.eqvAll (dI r) (dI s'))) H
    rw [eqv_dI]
    exact q
  · refine op_eqD hu pins s σ H _ _ v u Q I rx ry ⟨_, _, dp_T h1, dp_T h2, shaped_T _, shaped_T _, ?_⟩
    show Q (.bl (PyData.eqvAll (dI r) (dI s'))) H
    rw [eqv_dI]
    exact q
theorem op_neI (hu : X.A.units + 64 < cLine) : OpR X (compareOp .NotEq) (rEqI X.K fun b => !b) := by
  intro pins s σ H x y v u Q I rx ry h
  obtain ⟨a, b, r, s', ex, ey, hs, q⟩ := h
  subst ex ey
  rcases hs with ⟨h1, h2⟩ | ⟨h1, h2⟩
  · refine op_neD hu pins s σ H _ _ v u Q I rx ry ⟨_, _, dp_L h1, dp_L h2, shaped_L _, shaped_L _, ?_⟩
    show Q (.bl (!PyData.eqvAll (dI r) (dI s'))) H
    rw [eqv_dI]
    exact q
  · refine op_neD hu pins s σ H _ _ v u Q I rx ry ⟨_, _, dp_T h1, dp_T h2, shaped_T _, shaped_T _, ?_⟩
    show Q (.bl (!PyData.eqvAll (dI r) (dI s'))) H
    rw [eqv_dI]
    exact q
end
theorem inV_I {z : Int} : ∀ {r : List Int}, inV (.int z) (I r) = decide (z ∈ r)
  | [] => rfl
  | x :: r => by
    show ((x == z) || inV (.int z) (I r)) = decide (z ∈ x :: r)
    rw [inV_I (r := r)]
    by_cases h1 : x = z
    · subst h1; simp
    · have h2 : ¬ z = x := fun e => h1 e.symm
      simp [h1, h2]
theorem flat_I : ∀ r : List Int, (I r).all flatV = true
  | [] => rfl
  | x :: r => by
    show (flatV (.int x) && (I r).all flatV) = true
    rw [flat_I r]
    rfl
theorem mem_Z {z : Int} {l : List Nat} : z ∈ Z l ↔ 0 ≤ z ∧ z.toNat ∈ l := by
  unfold Z
  rw [List.mem_map]
  constructor
  · rintro ⟨k, hk, rfl⟩
    exact ⟨by omega, by simpa using hk⟩
  · rintro ⟨h1, h2⟩
    exact ⟨z.toNat, h2, by omega⟩
/-! ### isinstance -/
theorem ty_T {K : PySem.W.Frag} {H : Hp} {a : Addr} {xs : List V} (h : SqT K H a xs) : TyX K H (.ref a) (.type "tuple") := by
  rcases h with (h | ⟨o, h⟩) | ⟨o, _, _, e, c, _⟩
  · exact .base (.tup h)
  · exact .fTuple h
  · exact .kTuple e c
theorem ty_L {K : PySem.W.Frag} {H : Hp} {a : Addr} {xs : List V} (h : SqL K H a xs) : TyX K H (.ref a) (.type "list") := by
  rcases h with (h | ⟨o, h⟩) | ⟨o, _, _, e, c, _⟩
  · exact .base (.lst h)
  · exact .base (.frz h)
  · exact .kList e c
theorem ty_I {K : PySem.W.Frag} {H : Hp} {i : Int} : TyX K H (.int i) (.type "int") := .base (.int i)
theorem ty_B {K : PySem.W.Frag} {H : Hp} {b : Bool} : TyX K H (.bl b) (.type "bool") := .base (.bl b)
theorem kt_TT {K : PySem.W.Frag} : PySem.W.kitOne K (.type "tuple") (.type "tuple") = some true := kit_ty (by decide +kernel)
theorem kt_IT {K : PySem.W.Frag} : PySem.W.kitOne K (.type "int") (.type "tuple") = some false := kit_ty (by decide +kernel)
theorem kt_LT {K : PySem.W.Frag} : PySem.W.kitOne K (.type "list") (.type "tuple") = some false := kit_ty (by decide +kernel)
theorem kt_IB {K : PySem.W.Frag} : PySem.W.kitOne K (.type "int") (.type "bool") = some false := kit_ty (by decide +kernel)
theorem kt_BB {K : PySem.W.Frag} : PySem.W.kitOne K (.type "bool") (.type "bool") = some true := kit_ty (by decide +kernel)
theorem kt_II {K : PySem.W.Frag} : PySem.W.kitOne K (.type "int") (.type "int") = some true := kit_ty (by decide +kernel)
theorem kt_LL {K : PySem.W.Frag} : PySem.W.kitOne K (.type "list") (.type "list") = some true := kit_ty (by decide +kernel)
theorem kt_IL {K : PySem.W.Frag} : PySem.W.kitOne K (.type "int") (.type "list") = some false := kit_ty (by decide +kernel)
theorem kt_TL {K : PySem.W.Frag} : PySem.W.kitOne K (.type "tuple") (.type "list") = some false := kit_ty (by decide +kernel)
theorem kt_LI {K : PySem.W.Frag} : PySem.W.kitOne K (.type "list") (.type "int") = some false := kit_ty (by decide +kernel)
theorem b_tuple : bootBuiltins "tuple" = some (.type "tuple") := by decide +kernel
theorem b_list : bootBuiltins "list" = some (.type "list") := by decide +kernel
theorem b_bool : bootBuiltins "bool" = some (.type "bool") := by decide +kernel
theorem b_int : bootBuiltins "int" = some (.type "int") := by decide +kernel
/-- the class T as a value -/
theorem pty {X : Cx} {x : Str} {T : String} {pos : Pos} (hg : Gl X x) (hm : X.mg x = none) (hv : bootBuiltins x = some (.type T)) (hn : x ≠ "__name__" := by decide) (hd : (x == ("__debug__" : Str)) = false := by decide) : PE X (.Name x pos) (tC (.ty T)) :=
  pe_bltn hg hm hv rfl hn hd
/-! ### alike -/
/-- what told and due are read as -/
abbrev Rd1 (α : Type) := Hp → V → α → Prop
def RI : Rd1 Int := fun _ x i => x = .int i
def RT {α : Type} (K : PySem.W.Frag) (R : Rd1 α) : Rd1 (List α) := fun H x l => ∃ a xs, x = .ref a ∧ SqT K H a xs ∧ Paired (R H) xs l ∧ l.length ≤ 1000
def Stay {α : Type} (R : Rd1 α) : Prop := ∀ H H' x u, Same H H' → R H x u → R H' x u
theorem stay_RI : Stay RI := fun _ _ _ _ _ h => h
theorem paired_imp {α β : Type} {F G : α → β → Prop} (h : ∀ a b, F a b → G a b) : ∀ {l : List α} {m : List β}, Paired F l m → Paired G l m
  | _, _, .nil => .nil
  | _, _, .cons a t => .cons (h _ _ a) (paired_imp h t)
theorem paired_get {α β : Type} {F : α → β → Prop} : ∀ {l : List α} {m : List β} {i : Nat} {b : β}, Paired F l m → m[i]? = some b → ∃ a, l[i]? = some a ∧ F a b
  | _, _, _, _, .nil, e => by simp at e
  | _, _, 0, _, .cons h _, e => by
    simp at e
    subst e
    exact ⟨_, rfl, h⟩
  | _, _, i + 1, b, .cons _ t, e => by
    obtain ⟨a, h1, h2⟩ := paired_get (i := i) (b := b) t (by simpa using e)
    exact ⟨a, by simpa using h1, h2⟩
theorem stay_RT {α : Type} {K : PySem.W.Frag} {R : Rd1 α} (h : Stay R) : Stay (RT K R) := fun H H' x l s ⟨a, xs, e, hT, hp, hl⟩ => ⟨a, xs, e, s.tup hT, paired_imp (fun v u q => h H H' v u s q) hp, hl⟩
def sp_law_alike {α : Type} [DecidableEq α] (R : Rd1 α) : Sp := fun vs H Q _ => ∃ (x y : V) (u v : α), vs = [x, y] ∧ R H x u ∧ R H y v ∧ ∀ H', Same H H' → Q (.bl (decide (u = v))) H'
def spNo : Sp := fun _ _ _ _ => False
theorem paired_I {H : Hp} : ∀ r : List Int, Paired (RI H) (I r) r
  | [] => .nil
  | x :: r => .cons rfl (paired_I r)
theorem RT_I {K : PySem.W.Frag} {H : Hp} {a : Addr} {r : List Int} (h : SqT K H a (I r)) (hl : r.length ≤ 1000) : RT K RI H (.ref a) r := ⟨a, _, rfl, h, paired_I r, hl⟩
theorem kept_nil {f : Nat → Bool} {v : Nat → V} {n : Nat} : ((List.range n).filter f) = [] ↔ ∀ i, i < n → f i = false := by
  rw [List.filter_eq_nil_iff]
  constructor
  · intro h i hi
    simpa using h i (List.mem_range.mpr hi)
  · intro h i hi
    simpa using h i (List.mem_range.mp hi)
theorem alike_lists {α : Type} [DecidableEq α] {l m : List α} (hl : l.length = m.length) : decide (Z ((List.range m.length).filter fun i => !decide (l[i]? = m[i]?)) = []) = decide (l = m) := by
  by_cases e : l = m
  · subst e
    rw [decide_eq_true rfl]
    refine decide_eq_true ?_
    have : (List.range l.length).filter (fun i => !decide (l[i]? = l[i]?)) = [] := by
      rw [List.filter_eq_nil_iff]
      intro i _
      simp
    rw [this]
    rfl
  · rw [decide_eq_false e]
    refine decide_eq_false fun q => e ?_
    have q2 : (List.range m.length).filter (fun i => !decide (l[i]? = m[i]?)) = [] := List.map_eq_nil_iff.mp q
    rw [List.filter_eq_nil_iff] at q2
    refine List.ext_getElem? fun i => ?_
    by_cases hi : i < m.length
    · have := q2 i (List.mem_range.mpr hi)
      simpa using this
    · rw [List.getElem?_eq_none (by omega), List.getElem?_eq_none (by omega)]
/-- told and due as lists of ints -/
def sp_law_listed (K : PySem.W.Frag) : Sp := fun vs H Q _ => ∃ (a b : Addr) (r s : List Int), vs = [.ref a, .ref b] ∧ SqL K H a (I r) ∧ SqL K H b (I s) ∧ r.length ≤ 1000 ∧ s.length ≤ 1000 ∧ ∀ H', Same H H' → Q (.bl (decide (r = s))) H'
end HW
namespace HW
open PySem PySem.Spec PyProof.Rows L2 HR
/-! ### a def that is handed the error which is being handled -/
section
variable {X : Cx}
/-- how often one truth stands in a list of truths -/
def tr (b : Bool) (v : Value) : Bool := match v with
  | .bool c => c == b
  | _ => false
theorem tr_at {A : Around} {s : Shared} {b : Bool} : ∀ {bs : List Bool} {us : List Value}, Vals (bs.map V.bl) us → ∀ y ∈ us, SeqAt.EqAt A s y (.bool b) (tr b y)
  | [], us, h, y, hy => by
    cases h
    cases hy
  | c :: bs, us, h, y, hy => by
    cases h with
    | cons h1 h2 =>
      cases h1
      rcases List.mem_cons.mp hy with e | e
      · subst e
        exact SeqAt.EqAt.bool_bool c b
      · exact tr_at h2 y e
theorem tr_count {b : Bool} : ∀ {bs : List Bool} {us : List Value}, Vals (bs.map V.bl) us → us.countP (tr b) = bs.count b
  | [], us, h => by
    cases h
    rfl
  | c :: bs, us, h => by
    cases h with
    | cons h1 h2 =>
      cases h1
      rw [List.countP_cons, List.count_cons, tr_count h2] <;> rfl
def rCntB (K : PySem.W.Frag) : V → List V → Hp → VK → Prop := fun x xs H Q => ∃ (p : Addr) (bs : List Bool) (b : Bool), x = .ref p ∧ xs = [.bl b] ∧ SqL K H p (bs.map V.bl) ∧ Q (.int (bs.count b : Nat)) H
theorem mt_bcount : MtR X "list.count" (rCntB X.K) := by
  intro pins s σ H x xs v us Q I rx rxs h
  obtain ⟨p, bs, b, rfl, rfl, hs, q⟩ := h
  cases rx
  obtain ⟨u, rfl, ru⟩ := rxs.one
  cases ru
  obtain ⟨its, rv, ⟨⟨cls, dd, data, sl⟩, n, ho, hc, hdn, hd⟩, hlen⟩ := I.list hs
  simp only at hc hd
  subst hc hd
  refine call_meets PySem.F.slot_list_count ⟨_, ho, rfl⟩ PySem.F.entry_list_count (PySem.F.args_list_count_2 _ _)
    (SeqAt.list_countAt p its.toArray n dd sl (.bool b) (tr b)) ⟨ho, fun y hy => tr_at rv y (by simpa using hy), ?_⟩
  have ec : its.toArray.toList.countP (tr b) = bs.count b := tr_count rv
  refine ⟨.int (bs.count b : Nat), H, I.tok _, ⟨s.toks, ?_⟩, q⟩
  rw [← ec]
end
/-- what is asked of the class of an error that is told apart -/
structure Kd (K : PySem.W.Frag) (cs : List Addr) (cE D : Addr) (j : Nat) : Prop where
  e : ExcC K D
  i : ∀ (i : Nat) (c : Addr), cs[i]? = some c → PySem.W.kitOne K (.ref D) (.ref c) = some (decide (i = j))
  h : PySem.W.kitOne K (.ref D) (.ref cE) = some true
  v : PySem.W.kitOne K (.ref D) (.type "ValueError") = some true
  m : PySem.W.exmOne K (.ref D) (.ref cE) = some true
section
variable {X : Cx}
/-- isinstance(e, c), e the error that the frame's caller handles -/
theorem call_isP {a D : Addr} {oe : Obj} (C : ExcC X.K D) (hp : (a, oe) ∈ X.pn) (hz : Zc (.ref D) none oe) (hf : ∃ vs, oe.data = .fields vs) : CallR X (.builtin "isinstance") (rIsE X.K D a) := by
  intro pins s σ H xs us Q I r h
  obtain ⟨c, cv, b, rfl, hcv, e, q⟩ := h
  obtain ⟨u1, u2, rfl, r1, r2⟩ := vals2 r
  cases r1
  have ec := hcv _ r2
  subst ec
  have hget := (I.pin (a, oe) (List.mem_append_left _ hp)).1
  obtain ⟨vs, hv⟩ := hf
  have J : PySem.W.InstAt s.heap a oe D none := by
    obtain ⟨oc, od, oda, osl⟩ := oe
    obtain ⟨h1, h2⟩ := hz
    dsimp only at h1 h2 hv
    subst h1 h2 hv
    exact ⟨hget, rfl, rfl, trivial⟩
  exact PySem.W.kia_one (PySem.W.handS_kitx_exc C.hg C.hk C.hs C.hd C.ha C.hn C.ht C.hm) I.kIn J e (fun z => nomatch z) fun tk => ⟨.bl b, H, I.kept (t' := tk) fun _ _ z => z, rfl, q⟩
end
theorem b_verr : bootBuiltins "ValueError" = some (.type "ValueError") := by decide +kernel
/-- a def whose caller handles the error at a, of the class cls -/
structure FnE (P : Program) (w : World) (K : PySem.W.Frag) (mg : Str → Option Value) (base : Heap) (k : Nat) (f : Addr) (fd : FuncData) (ps : List Str) (sp : Value → Option Addr → Addr → Sp) : Prop where
  len : ∀ cls d a vs H Q E, sp cls d a vs H Q E → vs.length = ps.length
  run : ∀ (A : Around) (outer : List Env) (s : Shared) (H : Hp) (args : Args) (us : List Value) (vs : List V) (Q : VK) (E : XK) (a : Addr) (oe : Obj) (cls : Value) (d : Option Addr), L2H.RoomH k A → Zc cls d oe → (∃ vs, oe.data = .fields vs) → L2H.PinOk outer H s (a, oe) →
    Env0 P w K mg base A outer s H → BindsTo s fd args (ps.zip us) → Vals vs us → sp cls d a vs H Q E → codeAny (model P w) A (.call (.ref f) args) (CR L2.CX0 outer P w H s Q E) s
theorem Fun.okE {P : Program} {w : World} {K : PySem.W.Frag} {mg : Str → Option Value} {base : Heap} {x qual : Str} {st : Stmt} {f : Addr} {fd : FuncData} {N ps : List Str} {k : Nat} {sp : Value → Option Addr → Addr → Sp} (F : Fun K x qual st f fd) (S : FnScope N ps (defScope st))
    (len : ∀ cls d a vs H Q E, sp cls d a vs H Q E → vs.length = ps.length)
    (hbody : ∀ (cdv : Value) (A : Around) (outer : List Env) (s : Shared) (H : Hp) (vs : List V) (Q : VK) (E : XK) (a : Addr) (oe : Obj) (cls : Value) (d : Option Addr), Zc cls d oe → (∃ vs, oe.data = .fields vs) → L2H.RoomH k (A.deeper (envOfC qual (defScope st) s.heap.objs.size f cdv)) → sp cls d a vs H Q E →
      ∃ t, PSs (L2H.cxH L2.CX0 P w K mg base N qual (defScope st) f cdv A outer s H E (a, oe)) (defBody st) t ∧ t { nx := fun _ H' => Q .non H', rt := Q } (L2.start N vs) H) : FnE P w K mg base (k + 1) f fd ps sp := by
  obtain ⟨oc, od, kV, doc, pm, an, cdv, ct, osl, rfl, lk, hcd⟩ := F.ex
  refine ⟨len, fun A outer s H args us vs Q E a oe cls d hr hz hf hpin e0 hb r hsp => ?_⟩
  have hl := len _ _ _ _ _ _ _ hsp
  have KX : K.In s.heap := e0.mod.kin.keeps fun b o e => (e0.bs b o e).1
  have lim : s.heap.NoLimit := e0.mod.nolimit.keeps fun b o e => (e0.bs b o e).1
  have hkind : ∀ y ∈ ps.zip us, (defScope st).names.lookup y.1 = some .local ∨ ((defScope st).names.lookup y.1 = some .cell ∧ ((cellsFrom (s.heap.objs.size + 1) (defScope st).names []).lookup y.1).isSome = true) := fun ⟨n, v⟩ hy => by
    rcases S.par n (List.of_mem_zip hy).1 with q | q
    · exact .inl q
    · exact .inr ⟨q, PySem.W.cellsFrom_some _ _ _ (.inl q)⟩
  refine codeAny_call_function hr.depth (KX _ _ lk) rfl S.co S.gen rfl (PySem.W.codeRec_of KX hcd) (hb _ _ _ _ ?_)
  refine wpAny_newFunctionEnv_cells S.kind hkind fun env he s1 y => ?_
  subst he
  refine ⟨lim.keeps y.toInCall.keep, codeAny_func ?_⟩
  obtain ⟨t, ht, hq⟩ := hbody cdv A outer s H vs Q E a oe cls d hz hf (hr.deeper _) hsp
  have I0 := L2H.inv_startH (CX := L2.CX0) (P := P) (w := w) (K := K) (mg := mg) (base := base) (qual := qual) (f := f) (cd := cdv) (E := E) S hpin e0 hl r y
  refine wpAny_mono (ht.run [] s1 (L2.start N vs) H _ I0 hq) (fun fl s' hs => ?_) fun e s' hs => hs
  cases fl with
  | ret u =>
    obtain ⟨v, σ', H', J, rv, q⟩ := hs
    exact ⟨v, H', J.os, J.bare, J.base, J.hok, rv, q⟩
  | next =>
    obtain ⟨σ', H', J, q⟩ := hs
    exact ⟨V.non, H', J.os, J.bare, J.base, J.hok, rfl, q⟩
  | brk =>
    obtain ⟨_, _, _, q⟩ := hs
    exact False.elim q
  | cont =>
    obtain ⟨_, _, _, q⟩ := hs
    exact False.elim q
section
variable {X : Cx} {k : Nat} {f a : Addr} {oe : Obj} {cls : Value} {d : Option Addr} {fd : FuncData} {ps : List Str} {sp : Value → Option Addr → Addr → Sp} {x : Str} {p pos : Pos} {e : Expr} {es : List Expr} {t : TA}
def tCallE (sp : Sp) (t : TA) : TE := fun σ H Q => t σ H fun vs H1 => sp vs H1 Q fun _ _ _ => False
theorem pe_callE (F : FnE X.prog X.w X.K X.mg X.base k f fd ps sp) (hr : L2H.RoomH k X.A) (hp : (a, oe) ∈ X.pn) (hz : Zc cls d oe) (hf : ∃ vs, oe.data = .fields vs) (hg : Gl X x) (hm : X.mg x = some (.ref f)) (hk : PySem.W.keepIn X.K (.ref f) = true) (hb : Binds X.K fd ps [])
    (ha : PA X (e :: es) t) (hdb : (x == ("__debug__" : Str)) = false := by decide) (he : starEach (e :: es) X.env = (false, eval e X.env) :: starEach es X.env := by rfl) (hpl : (backTo pos (starEach es X.env)).any (·.1) = false := by rfl) :
    PE X (.Call (.Name x p) (e :: es) [] pos) (tCallE (sp cls d a) t) := by
  refine ⟨fun pins s σ H Q I h => ?_⟩
  refine wpAny_Call_Name_kw (ld_glob I hg hm ?_ hdb)
  refine PySem.W.callWith_K (h₀ := X.base) I.ok.mod.kin hk (thn (ha.run pos pins s σ H _ I h) fun us s1 ⟨vs, H1, I1, r, q⟩ => ⟨I1.kIn, ?_⟩) he hpl
  have hl : us.length = ps.length := by rw [← r.length]; exact F.len _ _ _ _ _ _ _ q
  have b := hb s1 us I1.kIn (by rw [List.append_nil]; exact hl)
  rw [List.append_nil] at b
  have P1 := I1.pin (a, oe) (List.mem_append_left _ hp)
  have hpin : L2H.PinOk X.stack H1 s1 (a, oe) := ⟨P1.1, P1.2.1, fun hm => (List.mem_cons.mp (I1.stkSub a hm)).elim P1.2.2.1 P1.2.2.2.1, P1.2.2.2.2⟩
  refine wpAny_call (codeAny_mono (F.run X.A X.stack s1 H1 ⟨us, []⟩ us vs Q _ a oe cls d hr hz hf hpin I1.env0 b r q) fun r s' hq => ?_)
  cases r with
  | error e => exact hq.elim
  | ok fl =>
    cases fl with
    | ret u => exact I1.after hq
    | next => exact False.elim hq
    | brk => exact False.elim hq
    | cont => exact False.elim hq
end
theorem hot_of {X : Cx} {a : Addr} {oe : Obj} {cls : Value} {d : Option Addr} {pn : List (Addr × Obj)} (hz : L2N.Zn cls d oe) (hf : ∃ vs, oe.data = .fields vs) : L2H.HotC (X.suite a ((a, oe) :: pn)) := by
  obtain ⟨vs, hv⟩ := hf
  exact ⟨(a, oe), ⟨rfl, vs, hv, hz.2.2 vs hv⟩, List.mem_cons_self⟩
theorem pi_range2H {X : Cx} {tg a b : Expr} {ta : TA} {p pos : Pos} (hg : Gl X "range") (hm : X.mg "range" = none) (ha : PA X [a, b] ta) (hs : starEach [a, b] X.env = [(false, eval a X.env), (false, eval b X.env)] := by rfl) (hs2 : starEach [b] X.env = [(false, eval b X.env)] := by rfl) :
    L2H.PIH X tg (.Call (.Name "range" p) [a, b] [] pos) (iRng2 ta) := by
  refine ⟨fun pins s σ H R I h => ?_⟩
  refine Call_ (ld_blt I hg hm boot_range (PyProof.Rows.callWith_type1 (thn (ha.run pos pins s σ H _ I h) fun us s1 ⟨vs, H1, I1, r1, q1⟩ => ?_) (by rw [hs, hs2]) (by rw [hs2]; rfl)))
  obtain ⟨i, j, e, ⟨q1, q2, q3, q4⟩, q⟩ := q1
  subst e
  obtain ⟨u1, u2, eu, ri, rj⟩ := vals2 r1
  subst eu
  obtain ⟨t, rfl⟩ := ri
  obtain ⟨t', rfl⟩ := rj
  exact call_range_2 (L2H.range_itH I1 q1 q2 q3 q4 q)
/-- _law_only(e, at): is e of the class at the place at, and of no other -/
def sp_law_only (K : PySem.W.Frag) (cs : List Addr) (cE : Addr) : Value → Option Addr → Addr → Sp := fun cls d a vs H Q _ => ∃ (D : Addr) (j i : Nat), cls = .ref D ∧ d = none ∧ Kd K cs cE D j ∧ j < 6 ∧ vs = [.ref a, .int (i : Int)] ∧ i < 6 ∧ cs.length = 6 ∧ ∀ H', Same H H' → Q (.bl (decide (i = j))) H'
end HW
namespace HW
open PySem PySem.Spec PyProof.Rows L2 HR
/-- an order that the law draws -/
def sp_law_order (K : PySem.W.Frag) : Sp := fun vs H Q _ => ∃ (a c : Addr) (ns r : List Int) (m : Int) (n t : Nat), vs = [.ref a, .ref c, .int m, .int (t : Int)] ∧ SqL K H a (I ns) ∧ SqT K H c (I r) ∧ Ring n m r ∧ n ≤ 12 ∧ t ≤ 1000 ∧
  ∀ H' p ks r', Same H H' → H p = none → H' p = some (.lst (N ks)) → Ex n m r ks r' → ks.length = t → Q (.ref p) H'
/-- the rings on the way, or a number for what is wrong -/
def sp_law_rings (K : PySem.W.Frag) : Sp := fun vs H Q _ => ∃ (a b : Addr) (r zs : List Int) (m : Int) (n : Nat), vs = [.ref a, .int m, .ref b] ∧ SqT K H a (I r) ∧ SqL K H b (I zs) ∧ zs.length ≤ 1000 ∧ Ring n m r ∧ n ≤ 12 ∧ m ≤ 100 ∧
  (∀ c H', goneA m [r] r zs = .error c → Same H H' → Q (.int (if c = true then 2 else 3)) H') ∧ ∀ rs H' p, goneA m [r] r zs = .ok rs → Same H H' → H p = none → Lists K H' p rs → Q (.ref p) H'
/-- told and due as lists of rings -/
def sp_law_listed2 (K : PySem.W.Frag) : Sp := fun vs H Q _ => ∃ (a b : Addr) (rs ss : List (List Int)), vs = [.ref a, .ref b] ∧ Lists K H a rs ∧ Lists K H b ss ∧ rs.length ≤ 1000 ∧ ss.length ≤ 1000 ∧ (∀ r ∈ rs, r.length ≤ 1000) ∧ (∀ r ∈ ss, r.length ≤ 1000) ∧ ∀ H', Same H H' → Q (.bl (decide (rs = ss))) H'
theorem paired_R {K : PySem.W.Frag} {H : Hp} : ∀ {xs : List V} {rs : List (List Int)}, Tups K H xs rs → (∀ r ∈ rs, r.length ≤ 1000) → Paired (RT K RI H) xs rs
  | _, _, .nil, _ => .nil
  | _, _, .cons ⟨a, e, h⟩ t, hl => .cons (by rw [e]; exact RT_I h (hl _ List.mem_cons_self)) (paired_R t fun r hr => hl r (List.mem_cons_of_mem _ hr))
theorem cut_I (r : List Int) (lo hi : Option Int) : ∃ s, cutV (I r) lo hi = I s := by
  refine ⟨(r.drop (HT.sIx (I r).length 0 lo)).take (HT.sIx (I r).length (I r).length hi - HT.sIx (I r).length 0 lo), ?_⟩
  unfold cutV I
  rw [List.map_take, List.map_drop]
theorem goneA_cons (m : Int) (rs : List (List Int)) (r : List Int) (z : Int) (zs : List Int) : goneA m rs r (z :: zs) = (match stepR m r z with
    | .error b => .error b
    | .ok r' => goneA m (rs ++ [r']) r' zs) := rfl
theorem goneA_len {m : Int} {n : Nat} : ∀ {zs : List Int} {rs ss : List (List Int)} {r : List Int}, r.length = n → (∀ x ∈ rs, x.length = n) → goneA m rs r zs = .ok ss → ss.length = rs.length + zs.length ∧ ∀ x ∈ ss, x.length = n
  | [], rs, ss, r, _, h2, h => by
    have e : rs = ss := by
      have q : Except.ok (ε := Bool) rs = .ok ss := h
      cases q
      rfl
    subst e
    exact ⟨rfl, h2⟩
  | z :: zs, rs, ss, r, h1, h2, h => by
    unfold goneA at h
    cases e : stepR m r z with
    | error b => rw [e] at h; cases h
    | ok r' =>
      rw [e] at h
      have h1' : r'.length = n := (stepR_len e).trans h1
      obtain ⟨q1, q2⟩ := goneA_len (zs := zs) (rs := rs ++ [r']) (ss := ss) (r := r') h1' (fun x hx => by
        rcases List.mem_append.mp hx with hx | hx
        · exact h2 x hx
        · rw [List.mem_singleton.mp hx]; exact h1') h
      refine ⟨?_, q2⟩
      rw [q1, List.length_append, List.length_cons]
      show rs.length + 1 + zs.length = rs.length + (zs.length + 1)
      omega
end HW
namespace HW
open PySem PySem.Spec PyProof.Rows L2 HR
/-- [v(lo + i) for i in range(lo, lo + n) if f(i)] -/
theorem lc_rl {lo : Int} {n : Nat} {g : TG} {tt : TT} {te : TE} {vs : List Nat} {σ : L2.St} {H1 : Hp} {D : Addr} {Qd : Hp → Prop} (f : Nat → Bool) (v : Nat → V) (hD : H1 D = none) (hn : n ≤ 1000)
    (hs : ∀ i H, i < n → Same H1 H → ∀ (Z : V → Hp → Prop) (M : Hp → Prop), (f i = true → ∀ H', Same H H' → Z (v i) H') → (f i = false → ∀ H', Same H H' → M H') →
      g (.int (lo + (i : Int))) (wipe σ vs) H fun σ2 H2 => wipe σ2 vs = wipe σ vs ∧ tt σ2 H2 fun b H3 => if b = true then te σ2 H3 Z else M H3)
    (hd : ∀ H, Same H1 H → H D = some (.lst (kept f v n)) → Qd H) :
    ∃ W : Nat → Nat → Hp → Prop, (∃ m, W 0 m (upd H1 D (.lst []))) ∧ ∀ i m H, W i m H →
      ((Itr lo n).stop i H ∧ Qd H) ∨ ((Itr lo n).go i H ∧ ∃ Nx : Hp → Prop, (∀ H', Nx H' → ∃ m', m' < m ∧ W (i + 1) m' H') ∧ ∀ x H', (Itr lo n).yld i H x H' → g x (wipe σ vs) H' fun σ2 H2 => wipe σ2 vs = wipe σ vs ∧ tt σ2 H2 fun b H3 =>
        if b = true then te σ2 H3 fun y H4 => ∃ acc, H4 D = some (.lst acc) ∧ acc.length < sizeLine ∧ Nx (upd H4 D (.lst (acc ++ [y]))) else Nx H3) := by
  refine lc_range (lo := lo) (fun i H => Same H1 H ∧ H D = some (.lst (kept f v i))) ⟨same_upd hD, upd_same⟩ (fun i H hi ⟨sm, hd⟩ => ?_) fun H ⟨sm, e⟩ => hd H sm e
  refine hs i H hi sm _ _ (fun hf H' s' => ?_) fun hf H' s' => ?_
  · refine ⟨_, s' _ _ hd, small1000 (Nat.le_trans (kept_len f v i) (by omega)), fun b o e => ?_, ?_⟩
    · rw [upd_ne (ne_of_none e hD)]
      exact s' _ _ (sm _ _ e)
    · rw [upd_same, kept_yes hf]
  · refine ⟨sm.trans s', ?_⟩
    rw [kept_no hf]
    exact s' _ _ hd
/-- [v(z) for z in zs if f(z)], zs a list of ints -/
theorem lc_l0 {K : PySem.W.Frag} {a : Addr} {zs : List Int} {g : TG} {tt : TT} {te : TE} {vs : List Nat} {σ : L2.St} {H1 : Hp} {D : Addr} {Qd : Hp → Prop} (f : Int → Bool) (v : Int → V) (hD : H1 D = none) (hn : zs.length ≤ 1000) (hl : SqL K H1 a (I zs))
    (hs : ∀ z H, z ∈ zs → Same H1 H → ∀ (Z : V → Hp → Prop) (M : Hp → Prop), (f z = true → ∀ H', Same H H' → Z (v z) H') → (f z = false → ∀ H', Same H H' → M H') →
      g (.int z) (wipe σ vs) H fun σ2 H2 => wipe σ2 vs = wipe σ vs ∧ tt σ2 H2 fun b H3 => if b = true then te σ2 H3 Z else M H3)
    (hd : ∀ H, Same H1 H → H D = some (.lst ((zs.filter f).map v)) → Qd H) :
    ∃ W : Nat → Nat → Hp → Prop, (∃ m, W 0 m (upd H1 D (.lst []))) ∧ ∀ i m H, W i m H →
      ((Itl K a).stop i H ∧ Qd H) ∨ ((Itl K a).go i H ∧ ∃ Nx : Hp → Prop, (∀ H', Nx H' → ∃ m', m' < m ∧ W (i + 1) m' H') ∧ ∀ x H', (Itl K a).yld i H x H' → g x (wipe σ vs) H' fun σ2 H2 => wipe σ2 vs = wipe σ vs ∧ tt σ2 H2 fun b H3 =>
        if b = true then te σ2 H3 fun y H4 => ∃ acc, H4 D = some (.lst acc) ∧ acc.length < sizeLine ∧ Nx (upd H4 D (.lst (acc ++ [y]))) else Nx H3) := by
  refine lc_list (K := K) (a := a) (xs := I zs) (fun i H => Same H1 H ∧ H D = some (.lst (((zs.take i).filter f).map v))) ⟨same_upd hD, upd_same⟩ (fun i H _ p => p.1.seq hl) (fun i x H hi ⟨sm, hd⟩ => ?_) fun H ⟨sm, e⟩ => hd H sm (by rw [e, len_I, List.take_length])
  rw [List.getElem?_map] at hi
  cases ei : zs[i]? with
  | none => rw [ei] at hi; cases hi
  | some z =>
    rw [ei] at hi
    cases hi
    have tk : zs.take (i + 1) = zs.take i ++ [z] := by rw [List.take_add_one, ei]; rfl
    refine hs z H (List.mem_of_getElem? ei) sm _ _ (fun hf H' s' => ?_) fun hf H' s' => ?_
    · refine ⟨_, s' _ _ hd, small1000 ?_, fun b o e => ?_, ?_⟩
      · rw [List.length_map]
        exact Nat.le_trans (List.length_filter_le _ _) (by rw [List.length_take]; omega)
      · rw [upd_ne (ne_of_none e hD)]
        exact s' _ _ (sm _ _ e)
      · rw [upd_same, tk, List.filter_append, List.map_append]
        simp [hf]
    · refine ⟨sm.trans s', ?_⟩
      rw [s' _ _ hd, tk, List.filter_append]
      simp [hf]
theorem most_alt {M : Int} (h1 : 2 ≤ M) (h2 : M ≤ 12) : ((most M.toNat : Nat) : Int) = 3 * (M * (M - 1) / 2) := by
  have key : ∀ k : _root_.Fin 13, ((most k.1 : Nat) : Int) = 3 * ((k.1 : Int) * ((k.1 : Int) - 1) / 2) := by decide
  have := key ⟨M.toNat, by omega⟩
  rw [this]
  show 3 * (((M.toNat : Nat) : Int) * (((M.toNat : Nat) : Int) - 1) / 2) = _
  rw [Int.toNat_of_nonneg (by omega)]
theorem kept_none {f : Nat → Bool} {v : Nat → V} {n : Nat} (h : ∀ i, i < n → f i = false) : kept f v n = [] := by
  unfold kept
  rw [List.filter_eq_nil_iff.mpr fun i hi => by rw [h i (List.mem_range.mp hi)]; exact Bool.false_ne_true]
  rfl
theorem counts_Z {n : Nat} {m : Int} {r r' : List Int} {ks : List Nat} (R : Ring n m r) (x : Ex n m r ks r') {k : Nat} (h0 : 0 < k) (hk : k < n) : at0 (counts (Z ks) n) k ≤ at0 (counts (Z ks) n) (k - 1) + 1 := by
  have cz : ∀ j : Nat, (Z ks).count ((j : Nat) : Int) = ks.count j := fun j => by
    unfold Z
    induction ks with
    | nil => rfl
    | cons a l ih =>
      rw [List.map_cons, List.count_cons, List.count_cons]
      have ih' : (l.map fun (k : Nat) => (k : Int)).count ((j : Nat) : Int) = l.count j := by
        clear ih x
        induction l with
        | nil => rfl
        | cons b l ih =>
          rw [List.map_cons, List.count_cons, List.count_cons, ih]
          by_cases e : b = j
          · subst e; simp
          · have : ¬ (b : Int) = (j : Int) := by omega
            simp [e, this]
      rw [ih']
      by_cases e : a = j
      · subst e; simp
      · have : ¬ (a : Int) = (j : Int) := by omega
        simp [e, this]
  have at1 : ∀ j, j < n → at0 (counts (Z ks) n) j = ((ks.count j : Nat) : Int) := fun j hj => by
    unfold at0 counts
    rw [List.getD_eq_getElem?_getD, List.getElem?_map, List.getElem?_range hj]
    show (((Z ks).count ((j : Nat) : Int) : Nat) : Int) = _
    rw [cz]
  rw [at1 k hk, at1 (k - 1) (by omega)]
  have := (x.cnt R k h0 hk).1
  omega
end HW
namespace HW
open PySem PySem.Spec PyProof.Rows L2 HR
/-! ### marks carried on -/
def mkStep (p : List Int × Int) (k : Nat) : List Int × Int := if k = 0 then (p.1.set 0 p.2, p.2 + 1) else (p.1.set k (at0 p.1 (k - 1)), p.2)
def mkF (n : Nat) (ks : List Nat) : List Int × Int := ks.foldl mkStep (marks n, (n : Int))
theorem mkF_snoc (n : Nat) (ks : List Nat) (k : Nat) : mkF n (ks ++ [k]) = mkStep (mkF n ks) k := by
  unfold mkF
  rw [List.foldl_append]
  rfl
theorem tracedA_cons (m : Int) (fs : List Int) (fr : Int) (r : List Int) (z : Int) (zs : List Int) : tracedA m fs fr r (z :: zs) = (match stepR m r z with
    | .error b => .error b
    | .ok r' => if z = 0 then tracedA m (fs.set 0 fr) (fr + 1) r' zs else tracedA m (fs.set z.toNat (at0 fs (z.toNat - 1))) fr r' zs) := rfl
theorem stepR_yes {m : Int} {r : List Int} {k : Nat} (hk : k < r.length) (h : may r k = true) : stepR m r (k : Int) = .ok (HR.moved m r k) := by
  unfold stepR
  rw [if_neg (by omega), Int.toNat_natCast, if_pos h]
theorem traced_ex {n : Nat} {m : Int} {r r' : List Int} {ks : List Nat} (R : Ring n m r) (x : Ex n m r ks r') : ∀ zs, tracedA m (marks n) n r (Z ks ++ zs) = tracedA m (mkF n ks).1 (mkF n ks).2 r' zs := by
  induction x with
  | nil => intro zs; rfl
  | @snoc ks r' k x hk hm ih =>
    intro zs
    have R' := x.ring R
    have e : Z (ks ++ [k]) ++ zs = Z ks ++ ((k : Int) :: zs) := by
      unfold Z
      rw [List.map_append, List.append_assoc]
      rfl
    rw [e, ih, tracedA_cons, stepR_yes (by rw [R'.len]; exact hk) hm, mkF_snoc]
    unfold mkStep
    by_cases c : k = 0
    · subst c
      rw [if_pos rfl]
      rfl
    · have c2 : ¬ (k : Int) = 0 := by omega
      rw [if_neg c]
      show (if (k : Int) = 0 then _ else _) = _
      rw [if_neg c2, Int.toNat_natCast]
def due (r : List Int) (n : Nat) (m mk : Int) : Int := if (n : Int) ≤ mk then (at0 r 0 + 1 + mk - n) % m else at0 r mk.toNat
def age (n : Nat) (mk : Int) : Int := if (n : Int) ≤ mk then mk else 0 - mk
structure Mk (n : Nat) (m : Int) (r r' fs : List Int) (fr : Int) : Prop where
  len : fs.length = n
  fr0 : (n : Int) ≤ fr
  top : at0 r' 0 = (at0 r 0 + (fr - n)) % m
  nn : ∀ k, k < n → 0 ≤ at0 fs k ∧ at0 fs k < fr
  val : ∀ k, k < n → at0 r' k = due r n m (at0 fs k)
  age : ∀ k, 0 < k → k < n → age n (at0 fs k) ≤ age n (at0 fs (k - 1))
theorem marks_len (n : Nat) : (marks n).length = n := by unfold marks; rw [List.length_map, List.length_range]
theorem marks_at {n k : Nat} (h : k < n) : at0 (marks n) k = (k : Int) := by
  unfold at0 marks
  rw [List.getD_eq_getElem?_getD, List.getElem?_map, List.getElem?_range h]
  rfl
theorem mk_ex {n : Nat} {m : Int} {r r' : List Int} {ks : List Nat} (R : Ring n m r) (x : Ex n m r ks r') : Mk n m r r' (mkF n ks).1 (mkF n ks).2 := by
  have n2 := R.n2
  induction x with
  | nil =>
    refine ⟨marks_len n, Int.le_refl _, ?_, fun k hk => ?_, fun k hk => ?_, fun k h0 hk => ?_⟩
    · show at0 r 0 = (at0 r 0 + ((n : Int) - n)) % m
      rw [Int.sub_self, Int.add_zero, Int.emod_eq_of_lt (R.lo 0 (by omega)) (R.hi 0 (by omega))]
    · show 0 ≤ at0 (marks n) k ∧ at0 (marks n) k < (n : Int)
      rw [marks_at hk]
      omega
    · show at0 r k = due r n m (at0 (marks n) k)
      rw [marks_at hk]
      unfold due
      rw [if_neg (by omega), Int.toNat_natCast]
    · show HW.age n (at0 (marks n) k) ≤ HW.age n (at0 (marks n) (k - 1))
      rw [marks_at hk, marks_at (by omega)]
      unfold HW.age
      rw [if_neg (by omega), if_neg (by omega)]
      omega
  | @snoc ks r' k x hk hm ih =>
    have R' := x.ring R
    have hl : k < r'.length := by rw [R'.len]; exact hk
    obtain ⟨i1, i2, i3, i4, i5, i6⟩ := ih
    rw [mkF_snoc]
    unfold mkStep
    by_cases c : k = 0
    · subst c
      rw [if_pos rfl]
      have hs : ∀ j, at0 ((mkF n ks).1.set 0 (mkF n ks).2) j = if j = 0 then (mkF n ks).2 else at0 (mkF n ks).1 j := fun j => at0_set (by rw [i1]; exact hk)
      have em : at0 (HR.moved m r' 0) 0 = (at0 r 0 + ((mkF n ks).2 + 1 - n)) % m := by
        rw [at0_moved hl, if_pos rfl, if_pos rfl, i3, Int.emod_add_emod]
        congr 1
        omega
      refine ⟨by show ((mkF n ks).1.set 0 _).length = n; rw [List.length_set, i1], by show (n : Int) ≤ (mkF n ks).2 + 1; omega, em, fun j hj => ?_, fun j hj => ?_, fun j h0 hj => ?_⟩
      · show 0 ≤ at0 ((mkF n ks).1.set 0 _) j ∧ at0 ((mkF n ks).1.set 0 _) j < (mkF n ks).2 + 1
        rw [hs]
        split
        · omega
        · have := i4 j hj
          omega
      · show at0 (HR.moved m r' 0) j = due r n m (at0 ((mkF n ks).1.set 0 _) j)
        rw [hs]
        by_cases cj : j = 0
        · subst cj
          rw [if_pos rfl, em]
          unfold due
          rw [if_pos i2]
          congr 1
          omega
        · rw [if_neg cj, at0_moved hl, if_neg cj]
          exact i5 j hj
      · show HW.age n (at0 ((mkF n ks).1.set 0 _) j) ≤ HW.age n (at0 ((mkF n ks).1.set 0 _) (j - 1))
        rw [hs, hs, if_neg (by omega)]
        by_cases cj : j - 1 = 0
        · rw [if_pos cj]
          have := i4 j hj
          unfold HW.age
          rw [if_pos i2]
          split <;> omega
        · rw [if_neg cj]
          exact i6 j h0 hj
    · rw [if_neg c]
      have hs : ∀ j, at0 ((mkF n ks).1.set k (at0 (mkF n ks).1 (k - 1))) j = if j = k then at0 (mkF n ks).1 (k - 1) else at0 (mkF n ks).1 j := fun j => at0_set (by rw [i1]; exact hk)
      refine ⟨by show ((mkF n ks).1.set k _).length = n; rw [List.length_set, i1], i2, by rw [at0_moved hl, if_neg (by omega)]; exact i3, fun j hj => ?_, fun j hj => ?_, fun j h0 hj => ?_⟩
      · show 0 ≤ at0 ((mkF n ks).1.set k _) j ∧ at0 ((mkF n ks).1.set k _) j < (mkF n ks).2
        rw [hs]
        split
        · exact i4 _ (by omega)
        · exact i4 j hj
      · show at0 (HR.moved m r' k) j = due r n m (at0 ((mkF n ks).1.set k _) j)
        rw [hs, at0_moved hl]
        by_cases cj : j = k
        · rw [if_pos cj, if_pos cj, if_neg c]
          exact i5 _ (by omega)
        · rw [if_neg cj, if_neg cj]
          exact i5 j hj
      · show HW.age n (at0 ((mkF n ks).1.set k _) j) ≤ HW.age n (at0 ((mkF n ks).1.set k _) (j - 1))
        rw [hs, hs]
        by_cases cj : j = k
        · subst cj
          rw [if_pos rfl, if_neg (by omega)]
          exact Int.le_refl _
        · rw [if_neg cj]
          by_cases cj2 : j - 1 = k
          · rw [if_pos cj2]
            have e1 := i6 j h0 hj
            rw [cj2] at e1
            have e2 := i6 k (by omega) hk
            omega
          · rw [if_neg cj2]
            exact i6 j h0 hj
/-- value and mark of each machine -/
def prs (r fs : List Int) (n : Nat) : List (List Int) := (List.range n).map fun k => [at0 r k, at0 fs k]
theorem prs_len (r fs : List Int) (n : Nat) : (prs r fs n).length = n := by unfold prs; rw [List.length_map, List.length_range]
theorem prs_at {r fs : List Int} {n k : Nat} (h : k < n) : (prs r fs n)[k]? = some [at0 r k, at0 fs k] := by
  unfold prs
  rw [List.getElem?_map, List.getElem?_range h]
  rfl
theorem prs_set {r fs r2 fs2 : List Int} {n k : Nat} (hk : k < n) (h : ∀ j, j < n → j ≠ k → at0 r2 j = at0 r j ∧ at0 fs2 j = at0 fs j) : (prs r fs n).set k [at0 r2 k, at0 fs2 k] = prs r2 fs2 n := by
  refine List.ext_getElem? fun j => ?_
  rw [List.getElem?_set, prs_len]
  by_cases hj : j < n
  · by_cases e : k = j
    · subst e
      rw [if_pos rfl, if_pos hk, prs_at hk]
    · rw [if_neg e, prs_at hj, prs_at hj, (h j hj (fun q => e q.symm)).1, (h j hj (fun q => e q.symm)).2]
  · rw [if_neg (by omega), List.getElem?_eq_none (by rw [prs_len]; omega), List.getElem?_eq_none (by rw [prs_len]; omega)]
theorem Tups.len {K : PySem.W.Frag} {H : Hp} {xs : List V} {rs : List (List Int)} (h : Tups K H xs rs) : xs.length = rs.length := Paired.length h
theorem Tups.set {K : PySem.W.Frag} {H : Hp} : ∀ {xs : List V} {rs : List (List Int)} {p : Addr} {r : List Int} (k : Nat), Tups K H xs rs → SqT K H p (I r) → Tups K H (xs.set k (.ref p)) (rs.set k r)
  | _, _, _, _, _, .nil, _ => .nil
  | _, _, p, r, 0, .cons _ t, h => .cons ⟨p, rfl, h⟩ t
  | _, _, _, _, k + 1, .cons a t, h => .cons a (Tups.set k t h)
/-- [a tuple for i in range(n)] -/
theorem lc_rT {K : PySem.W.Frag} {n : Nat} {g : TG} {te : TE} {vs : List Nat} {σ : L2.St} {H1 : Hp} {D : Addr} {Qd : Hp → Prop} (rows : Nat → List Int) (hD : H1 D = none) (hn : n ≤ 1000)
    (hs : ∀ i H, i < n → Same H1 H → ∀ (Zc : V → Hp → Prop), (∀ H' p, Same H H' → SqT K H' p (I (rows i)) → Zc (.ref p) H') → g (.int (i : Int)) (wipe σ vs) H fun σ2 H2 => wipe σ2 vs = wipe σ vs ∧ te σ2 H2 Zc)
    (hd : ∀ H xs, Same H1 H → H D = some (.lst xs) → Tups K H xs ((List.range n).map rows) → Qd H) :
    ∃ W : Nat → Nat → Hp → Prop, (∃ m, W 0 m (upd H1 D (.lst []))) ∧ ∀ i m H, W i m H →
      ((Itr 0 n).stop i H ∧ Qd H) ∨ ((Itr 0 n).go i H ∧ ∃ Nx : Hp → Prop, (∀ H', Nx H' → ∃ m', m' < m ∧ W (i + 1) m' H') ∧ ∀ x H', (Itr 0 n).yld i H x H' → g x (wipe σ vs) H' fun σ2 H2 => wipe σ2 vs = wipe σ vs ∧ tYes σ2 H2 fun b H3 =>
        if b = true then te σ2 H3 fun y H4 => ∃ acc, H4 D = some (.lst acc) ∧ acc.length < sizeLine ∧ Nx (upd H4 D (.lst (acc ++ [y]))) else Nx H3) := by
  refine lc_range (lo := 0) (tt := tYes) (fun i H => Same H1 H ∧ ∃ xs, H D = some (.lst xs) ∧ xs.length = i ∧ Tups K H xs ((List.range i).map rows)) ⟨same_upd hD, [], upd_same, rfl, .nil⟩ (fun i H hi ⟨sm, xs, hx, hl, ht⟩ => ?_) fun H ⟨sm, xs, hx, hl, ht⟩ => hd H xs sm hx ht
  rw [Int.zero_add]
  refine hs i H hi sm _ fun H' p s' hp => ?_
  have hx' := s' _ _ hx
  refine ⟨_, hx', small1000 (by omega), fun b o e => ?_, _, upd_same, by rw [List.length_append, hl]; rfl, ?_⟩
  · rw [upd_ne (ne_of_none e hD)]
    exact s' _ _ (sm _ _ e)
  · rw [List.range_succ, List.map_append]
    exact Paired.snoc ((ht.of s').upd hx') ⟨p, rfl, tupUpd hx' hp⟩
/-- [v(i) for x in xs], xs a list -/
theorem lc_lm {K : PySem.W.Frag} {a : Addr} {xs : List V} {g : TG} {te : TE} {vs : List Nat} {σ : L2.St} {H1 : Hp} {D : Addr} {Qd : Hp → Prop} (v : Nat → V) (hD : H1 D = none) (hn : xs.length ≤ 1000) (hl : SqL K H1 a xs)
    (hs : ∀ i x H, xs[i]? = some x → Same H1 H → ∀ (Zc : V → Hp → Prop), (∀ H', Same H H' → Zc (v i) H') → g x (wipe σ vs) H fun σ2 H2 => wipe σ2 vs = wipe σ vs ∧ te σ2 H2 Zc)
    (hd : ∀ H, Same H1 H → H D = some (.lst ((List.range xs.length).map v)) → Qd H) :
    ∃ W : Nat → Nat → Hp → Prop, (∃ m, W 0 m (upd H1 D (.lst []))) ∧ ∀ i m H, W i m H →
      ((Itl K a).stop i H ∧ Qd H) ∨ ((Itl K a).go i H ∧ ∃ Nx : Hp → Prop, (∀ H', Nx H' → ∃ m', m' < m ∧ W (i + 1) m' H') ∧ ∀ x H', (Itl K a).yld i H x H' → g x (wipe σ vs) H' fun σ2 H2 => wipe σ2 vs = wipe σ vs ∧ tYes σ2 H2 fun b H3 =>
        if b = true then te σ2 H3 fun y H4 => ∃ acc, H4 D = some (.lst acc) ∧ acc.length < sizeLine ∧ Nx (upd H4 D (.lst (acc ++ [y]))) else Nx H3) := by
  refine lc_list (K := K) (a := a) (xs := xs) (tt := tYes) (fun i H => Same H1 H ∧ H D = some (.lst ((List.range i).map v))) ⟨same_upd hD, upd_same⟩ (fun i H _ p => p.1.seq hl) (fun i x H hi ⟨sm, hd⟩ => ?_) fun H ⟨sm, e⟩ => hd H sm e
  have hil := (List.getElem?_eq_some_iff.mp hi).1
  refine hs i x H hi sm _ fun H' s' => ?_
  refine ⟨_, s' _ _ hd, small1000 (by rw [List.length_map, List.length_range]; omega), fun b o e => ?_, ?_⟩
  · rw [upd_ne (ne_of_none e hD)]
    exact s' _ _ (sm _ _ e)
  · rw [upd_same, List.range_succ, List.map_append]
    rfl
theorem row_eq (r : List Int) : (List.range r.length).map (at0 r) = r := by
  refine List.ext_getElem? fun i => ?_
  rw [List.getElem?_map]
  by_cases h : i < r.length
  · rw [List.getElem?_range h, List.getElem?_eq_getElem h]
    show some (at0 r i) = _
    unfold at0
    rw [List.getD_eq_getElem?_getD, List.getElem?_eq_getElem h]
    rfl
  · rw [List.getElem?_eq_none (by rw [List.length_range]; omega), List.getElem?_eq_none (by omega)]
    rfl
theorem mapI (n : Nat) (g : Nat → Int) : (List.range n).map (fun i => V.int (g i)) = I ((List.range n).map g) := by
  unfold I
  rw [List.map_map]
  rfl
theorem at0_mem {l : List Int} {j : Nat} (h : j < l.length) : at0 l j ∈ l := by
  unfold at0
  rw [List.getD_eq_getElem?_getD, List.getElem?_eq_getElem h]
  exact List.getElem_mem h
end HW
namespace HW
open PySem PySem.Spec PyProof.Rows L2 HR
def orb (n k : Nat) : Nat → Nat
  | 0 => k
  | i + 1 => HR.nxt n (orb n k i)
theorem orb_mod {n k : Nat} (h : k < n) (i : Nat) : orb n k i = (k + i) % n := by
  induction i with
  | zero => exact (Nat.mod_eq_of_lt h).symm
  | succ i ih =>
    show HR.nxt n (orb n k i) = _
    have l : (k + i) % n < n := Nat.mod_lt _ (by omega)
    rw [ih, show k + (i + 1) = (k + i) + 1 from rfl, ← Nat.mod_add_mod (k + i) n 1]
    unfold HR.nxt
    split
    · rename_i e
      rw [e, Nat.mod_self]
    · exact (Nat.mod_eq_of_lt (by omega)).symm
theorem round_orb {n k : Nat} (h : k < n) (t : Nat) : (List.range n).map (fun i => orb n k (t * n + i)) = roundOf n k := by
  unfold roundOf
  refine List.ext_getElem ?_ fun i h1 h2 => ?_
  · rw [List.length_map, List.length_range, List.length_append, List.length_range', List.length_range]
    omega
  · rw [List.length_map, List.length_range] at h1
    rw [List.getElem_map, List.getElem_range, orb_mod h, show k + (t * n + i) = (k + i) + n * t by rw [Nat.mul_comm]; omega, Nat.add_mul_mod_self_left]
    by_cases c : i < n - k
    · rw [List.getElem_append_left (by rw [List.length_range']; exact c), List.getElem_range', Nat.mod_eq_of_lt (by omega)]
      omega
    · rw [List.getElem_append_right (by rw [List.length_range']; omega), List.getElem_range, List.length_range', Nat.mod_eq_sub_mod (by omega), Nat.mod_eq_of_lt (by omega)]
      omega
theorem orbs_two (n k : Nat) (h : k < n) : (List.range (2 * n)).map (orb n k) = roundOf n k ++ roundOf n k := by
  rw [Nat.two_mul, List.range_add, List.map_append, List.map_map]
  have e1 := round_orb h 0
  have e2 := round_orb h 1
  simp only [Nat.zero_mul, Nat.zero_add, Nat.one_mul] at e1 e2
  congr 1
theorem round_len (n k : Nat) (h : k < n) : (roundOf n k).length = n := by
  unfold roundOf
  rw [List.length_append, List.length_range', List.length_range]
  omega
theorem cut_take (xs : List V) (k : Nat) (h : k ≤ xs.length) : cutV xs none (some (k : Int)) = xs.take k := by
  unfold cutV
  rw [HT.sIx_none, HT.sIx_nat, Nat.min_eq_left h, List.drop_zero, Nat.sub_zero]
theorem cut_drop (xs : List V) (k : Nat) (h : k ≤ xs.length) : cutV xs (some (k : Int)) none = xs.drop k := by
  unfold cutV
  rw [HT.sIx_none, HT.sIx_nat, Nat.min_eq_left h]
  exact List.take_of_length_le (by rw [List.length_drop]; exact Nat.le_refl _)
theorem ex_inv {n : Nat} {m : Int} {r r2 : List Int} {ks : List Nat} {k : Nat} (x : Ex n m r (ks ++ [k]) r2) : ∃ r', Ex n m r ks r' ∧ k < n ∧ may r' k = true ∧ r2 = HR.moved m r' k := by
  generalize e : ks ++ [k] = l at x
  cases x with
  | nil => exact absurd e (by simp)
  | snoc x hk hm =>
    obtain ⟨e1, e2⟩ := List.append_inj' e rfl
    cases e2
    subst e1
    exact ⟨_, x, hk, hm, rfl⟩
theorem ex_take {n : Nat} {m : Int} {r r2 : List Int} {ks : List Nat} (x : Ex n m r ks r2) (i : Nat) : ∃ r', Ex n m r (ks.take i) r' := by
  induction x with
  | nil => exact ⟨r, by rw [List.take_nil]; exact .nil⟩
  | @snoc ks r' k x hk hm ih =>
    by_cases c : i ≤ ks.length
    · rw [List.take_append_of_le_length c]
      exact ih
    · rw [List.take_of_length_le (by rw [List.length_append]; show ks.length + 1 ≤ i; omega)]
      exact ⟨_, x.snoc hk hm⟩
theorem ex_det {n : Nat} {m : Int} {r a b : List Int} {ks : List Nat} (x : Ex n m r ks a) : Ex n m r ks b → a = b := by
  induction x generalizing b with
  | nil =>
    intro y
    generalize e : ([] : List Nat) = l at y
    cases y with
    | nil => rfl
    | snoc _ _ _ => exact absurd e (by simp)
  | snoc x hk hm ih =>
    intro y
    obtain ⟨r', y1, _, _, e⟩ := ex_inv y
    rw [e, ih y1]
theorem ex_step {n : Nat} {m : Int} {r r1 r2 : List Int} {ks : List Nat} {i : Nat} (x : Ex n m r ks r2) (hi : i < ks.length) (a : Ex n m r (ks.take i) r1) : ks[i] < n ∧ may r1 ks[i] = true := by
  obtain ⟨r', y⟩ := ex_take x (i + 1)
  rw [List.take_succ_eq_append_getElem hi] at y
  obtain ⟨r3, z, hk, hm, _⟩ := ex_inv y
  rw [ex_det a z]
  exact ⟨hk, hm⟩
end HW
namespace HW
open PySem PySem.Spec PyProof.Rows L2 HR
/-- [v for x in xs if f], by places -/
theorem lc_lf {K : PySem.W.Frag} {a : Addr} {xs : List V} {g : TG} {tt : TT} {te : TE} {vs : List Nat} {σ : L2.St} {H1 : Hp} {D : Addr} {Qd : Hp → Prop} (f : Nat → Bool) (v : Nat → V) (hD : H1 D = none) (hn : xs.length ≤ 1000) (hl : SqL K H1 a xs)
    (hs : ∀ i x H, xs[i]? = some x → Same H1 H → ∀ (Zc : V → Hp → Prop) (M : Hp → Prop), (f i = true → ∀ H', Same H H' → Zc (v i) H') → (f i = false → ∀ H', Same H H' → M H') →
      g x (wipe σ vs) H fun σ2 H2 => wipe σ2 vs = wipe σ vs ∧ tt σ2 H2 fun b H3 => if b = true then te σ2 H3 Zc else M H3)
    (hd : ∀ H, Same H1 H → H D = some (.lst (kept f v xs.length)) → Qd H) :
    ∃ W : Nat → Nat → Hp → Prop, (∃ m, W 0 m (upd H1 D (.lst []))) ∧ ∀ i m H, W i m H →
      ((Itl K a).stop i H ∧ Qd H) ∨ ((Itl K a).go i H ∧ ∃ Nx : Hp → Prop, (∀ H', Nx H' → ∃ m', m' < m ∧ W (i + 1) m' H') ∧ ∀ x H', (Itl K a).yld i H x H' → g x (wipe σ vs) H' fun σ2 H2 => wipe σ2 vs = wipe σ vs ∧ tt σ2 H2 fun b H3 =>
        if b = true then te σ2 H3 fun y H4 => ∃ acc, H4 D = some (.lst acc) ∧ acc.length < sizeLine ∧ Nx (upd H4 D (.lst (acc ++ [y]))) else Nx H3) := by
  refine lc_list (K := K) (a := a) (xs := xs) (fun i H => Same H1 H ∧ H D = some (.lst (kept f v i))) ⟨same_upd hD, upd_same⟩ (fun i H _ p => p.1.seq hl) (fun i x H hi ⟨sm, hd⟩ => ?_) fun H ⟨sm, e⟩ => hd H sm e
  have hil := (List.getElem?_eq_some_iff.mp hi).1
  refine hs i x H hi sm _ _ (fun hf H' s' => ?_) fun hf H' s' => ?_
  · refine ⟨_, s' _ _ hd, small1000 (Nat.le_trans (kept_len f v i) (by omega)), fun b o e => ?_, ?_⟩
    · rw [upd_ne (ne_of_none e hD)]
      exact s' _ _ (sm _ _ e)
    · rw [upd_same, kept_yes hf]
  · refine ⟨sm.trans s', ?_⟩
    rw [kept_no hf]
    exact s' _ _ hd
theorem count_Z (j : Nat) : ∀ ks : List Nat, (Z ks).count ((j : Nat) : Int) = ks.count j
  | [] => rfl
  | a :: l => by
    have ih := count_Z j l
    unfold Z at ih ⊢
    rw [List.map_cons, List.count_cons, List.count_cons, ih]
    by_cases e : a = j
    · subst e; simp
    · have : ¬ (a : Int) = (j : Int) := by omega
      simp [e, this]
theorem counts_at {n j : Nat} (ks : List Nat) (h : j < n) : at0 (counts (Z ks) n) j = ((ks.count j : Nat) : Int) := by
  unfold at0 counts
  rw [List.getD_eq_getElem?_getD, List.getElem?_map, List.getElem?_range h, ← count_Z]
  rfl
theorem heal_un {n : Nat} {m : Int} {r : List Int} (R : Ring n m r) (hm : (n : Int) ≤ m) (qs : List Int) : ∀ (u : Nat) (o : List Nat) (r' : List Int) (t : Nat), Un n m r o r' → u = most n - o.length →
    ∃ r2, Un n m r (healA m qs o r' t u) r2 ∧ (able r2).length = 1
  | 0, o, r', t, x, e => by
    refine ⟨r', x, Classical.byContradiction fun ne => ?_⟩
    have rl := (x.ex.ring R).len
    have n2 := R.n2
    obtain ⟨y, hy⟩ : ∃ y, y ∈ able r' := ⟨_, List.getElem_mem (able_pos (r := r') (by omega))⟩
    obtain ⟨y1, y2⟩ := mem_able.mp hy
    have b := (x.snoc (by omega) y2 ne).bound R hm
    rw [List.length_append] at b
    have b : o.length + 1 ≤ most n := b
    omega
  | u + 1, o, r', t, x, e => by
    rw [healA_succ]
    have rl := (x.ex.ring R).len
    have n2 := R.n2
    by_cases one : (able r').length = 1
    · rw [if_pos one]
      exact ⟨r', x, one⟩
    · rw [if_neg one]
      obtain ⟨y1, y2⟩ := mem_able.mp (nextOf_mem (r := r') (ns := qs) t (by omega))
      refine heal_un R hm qs u _ _ _ (x.snoc (by omega) y2 one) ?_
      rw [List.length_append]
      show u = most n - (o.length + 1)
      omega
theorem Z_snoc (ks : List Nat) (k : Nat) (zs : List Int) : Z (ks ++ [k]) ++ zs = Z ks ++ ((k : Int) :: zs) := by
  unfold Z
  rw [List.map_append, List.append_assoc]
  rfl
/-- the rings on the way -/
theorem gone_un {n : Nat} {m : Int} {r r' : List Int} {o : List Nat} (R : Ring n m r) (x : Un n m r o r') : ∃ rs : List (List Int), rs.length = o.length ∧ (∀ y ∈ rs, Ring n m y ∧ (able y).length ≠ 1) ∧ ∀ zs, goneA m [r] r (Z o ++ zs) = goneA m (rs ++ [r']) r' zs := by
  induction x with
  | nil => exact ⟨[], rfl, fun y hy => by (cases hy), fun zs => rfl⟩
  | @snoc ks r' k x hk hm one ih =>
    obtain ⟨rs, h1, h2, h3⟩ := ih
    have R' := x.ex.ring R
    refine ⟨rs ++ [r'], by rw [List.length_append, List.length_append, h1]; rfl, fun y hy => ?_, fun zs => ?_⟩
    · rcases List.mem_append.mp hy with h | h
      · exact h2 y h
      · rw [List.mem_singleton.mp h]
        exact ⟨R', one⟩
    · rw [Z_snoc, h3, goneA_cons, stepR_yes (by rw [R'.len]; exact hk) hm]
theorem sIx_m1 (n d : Nat) (h : 0 < n) : HT.sIx n d (some (-1)) = n - 1 := by
  unfold HT.sIx
  simp only [show (-1 : Int) < 0 by decide, if_true]
  omega
theorem cut_init (xs : List V) (h : 0 < xs.length) : cutV xs none (some (-1)) = xs.take (xs.length - 1) := by
  unfold cutV
  rw [HT.sIx_none, sIx_m1 _ _ h, List.drop_zero, Nat.sub_zero]
end HW
namespace HW
open PySem PySem.Spec PyProof.Rows L2 HR
theorem nxt_mod {n j : Nat} (h : j < n) : ((j : Nat) : Int) + 1 - (n : Int) * 0 = ((j : Nat) : Int) + 1 ∧ (((j : Nat) : Int) + 1) % (n : Int) = ((HR.nxt n j : Nat) : Int) := by
  refine ⟨by omega, ?_⟩
  unfold HR.nxt
  split
  · rename_i q
    rw [show ((j : Nat) : Int) + 1 = (n : Int) by omega, Int.emod_self]
    rfl
  · rw [Int.emod_eq_of_lt (by omega) (by omega)]
    omega
theorem orb_lt {n k : Nat} (h : k < n) (i : Nat) : orb n k i < n := by
  rw [orb_mod h]
  exact Nat.mod_lt _ (by omega)
theorem orbs_three (n k : Nat) (h : k < n) : (List.range (3 * n)).map (orb n k) = roundOf n k ++ roundOf n k ++ roundOf n k := by
  rw [show 3 * n = 2 * n + n by omega, List.range_add, List.map_append, List.map_map, orbs_two n k h]
  congr 1
  exact round_orb h 2
theorem draws_orb {n : Nat} {m : Int} {r : List Int} {k : Nat} (R : Ring n m r) (hk : able r = [k]) (qs : List Int) : ∀ t, (draws m qs r t).1 = (List.range t).map (orb n k) ∧ able (draws m qs r t).2 = [orb n k t] ∧ Ring n m (draws m qs r t).2
  | 0 => ⟨rfl, hk, R⟩
  | t + 1 => by
    obtain ⟨h1, h2, h3⟩ := draws_orb R hk qs t
    obtain ⟨o1, o2, o3⟩ := able_moved_one h3 h2
    have e : nextOf (draws m qs r t).2 qs t = orb n k t := by
      have := nextOf_mem (r := (draws m qs r t).2) (ns := qs) t (by rw [h3.len]; omega)
      rw [h2] at this
      exact List.mem_singleton.mp this
    refine ⟨?_, ?_, ?_⟩
    · show (draws m qs r t).1 ++ [nextOf (draws m qs r t).2 qs t] = _
      rw [e, h1, List.range_succ, List.map_append]
      rfl
    · show able (HR.moved m (draws m qs r t).2 (nextOf (draws m qs r t).2 qs t)) = _
      rw [e]
      exact o1
    · show Ring n m (HR.moved m (draws m qs r t).2 (nextOf (draws m qs r t).2 qs t))
      rw [e]
      exact h3.moved o2
theorem gone_orb {n : Nat} {m : Int} {r : List Int} {k : Nat} (R : Ring n m r) (hk : able r = [k]) : ∀ t, ∃ (rs : List (List Int)) (r' : List Int), rs.length = t ∧ (∀ y ∈ rs, Ring n m y ∧ (able y).length = 1) ∧ Ring n m r' ∧ able r' = [orb n k t] ∧ ∀ zs, goneA m [r] r (Z ((List.range t).map (orb n k)) ++ zs) = goneA m (rs ++ [r']) r' zs
  | 0 => ⟨[], r, rfl, fun y hy => (by cases hy), R, hk, fun zs => rfl⟩
  | t + 1 => by
    obtain ⟨rs, r', h1, h2, h3, h4, h5⟩ := gone_orb R hk t
    obtain ⟨o1, o2, o3⟩ := able_moved_one h3 h4
    refine ⟨rs ++ [r'], _, by rw [List.length_append, h1]; rfl, fun y hy => ?_, h3.moved o2, o1, fun zs => ?_⟩
    · rcases List.mem_append.mp hy with h | h
      · exact h2 y h
      · rw [List.mem_singleton.mp h]
        exact ⟨h3, by rw [h4]; rfl⟩
    · rw [List.range_succ, List.map_append]
      show goneA m [r] r (Z ((List.range t).map (orb n k) ++ [orb n k t]) ++ zs) = _
      rw [Z_snoc, h5, goneA_cons, stepR_yes (by rw [h3.len]; exact o2) o3]
theorem sort_round {n k : Nat} (h : k < n) {ns : List Int} (hp : ns.Perm (Z (roundOf n k))) (hs : ns.Pairwise (· ≤ ·)) : ns = Z (List.range n) := by
  refine List.Perm.eq_of_pairwise (fun a b _ _ h1 h2 => Int.le_antisymm h1 h2) hs ?_ (hp.trans ?_)
  · unfold Z
    rw [List.pairwise_map]
    exact List.pairwise_le_range.imp fun h => by omega
  · unfold Z
    refine List.Perm.map _ ?_
    unfold roundOf
    refine List.perm_append_comm.trans ?_
    rw [List.range_eq_range', List.range_eq_range']
    have e := List.range'_append_1 (s := 0) (m := k) (n := n - k)
    rw [Nat.zero_add, show k + (n - k) = n by omega] at e
    rw [e]
end HW
namespace HW
open PySem PySem.Spec PyProof.Rows L2 HR
theorem at0_map {t : Nat} (g : Nat → Nat) {i : Nat} (h : i < t) : at0 (Z ((List.range t).map g)) i = ((g i : Nat) : Int) := by
  unfold at0 Z
  rw [List.getD_eq_getElem?_getD, List.map_map, List.getElem?_map, List.getElem?_range h]
  rfl
theorem rgV0 (n : Nat) : rgV 0 (n : Int) = I (Z (List.range n)) := by
  unfold rgV I Z
  rw [List.map_map, Int.sub_zero, Int.toNat_natCast]
  refine List.map_congr_left fun i _ => ?_
  show V.int (0 + (i : Int)) = V.int (i : Int)
  rw [Int.zero_add]
theorem three_times (l : List Nat) : (List.replicate (3 : Int).toNat (N l)).flatten = I (Z (l ++ l ++ l)) := by
  show [N l, N l, N l].flatten = _
  rw [← N_Z]
  unfold N
  simp [List.flatten]
end HW
namespace HW
open PySem PySem.Spec PyProof.Rows L2 HR
theorem holds_ints {h : Heap} : ∀ {ns : List Int} {its : List Value}, Vals (I ns) its → PySem.W.HoldAll h its ns
  | [], _, r => by
    cases r
    exact .nil
  | z :: ns, _, r => by
    cases r with
    | cons r rs =>
      obtain ⟨t, rfl⟩ := r
      exact .cons ⟨_, .int z t⟩ (holds_ints rs)
theorem minOf_is (x : Int) : ∀ xs : List Int, PySem.W.minOf x xs ∈ x :: xs ∧ ∀ y ∈ x :: xs, PySem.W.minOf x xs ≤ y
  | [] => ⟨List.mem_cons_self, fun y hy => by rw [List.mem_singleton.mp hy]; exact Int.le_refl _⟩
  | z :: xs => by
    have e : PySem.W.minOf x (z :: xs) = PySem.W.minOf (if decide (z < x) = true then z else x) xs := rfl
    rw [e]
    by_cases c : z < x
    · rw [if_pos (decide_eq_true c)]
      obtain ⟨h1, h2⟩ := minOf_is z xs
      refine ⟨List.mem_cons_of_mem _ h1, fun y hy => ?_⟩
      rcases List.mem_cons.mp hy with h | h
      · have := h2 z List.mem_cons_self
        omega
      · exact h2 y h
    · rw [if_neg (by simpa using c)]
      obtain ⟨h1, h2⟩ := minOf_is x xs
      refine ⟨?_, fun y hy => ?_⟩
      · rcases List.mem_cons.mp h1 with h | h
        · rw [h]; exact List.mem_cons_self
        · exact List.mem_cons_of_mem _ (List.mem_cons_of_mem _ h)
      · rcases List.mem_cons.mp hy with h | h
        · rw [h]; exact h2 x List.mem_cons_self
        · rcases List.mem_cons.mp h with h | h
          · have := h2 x List.mem_cons_self
            omega
          · exact h2 y (List.mem_cons_of_mem _ h)
theorem maxOf_is (x : Int) : ∀ xs : List Int, PySem.W.maxOf x xs ∈ x :: xs ∧ ∀ y ∈ x :: xs, y ≤ PySem.W.maxOf x xs
  | [] => ⟨List.mem_cons_self, fun y hy => by rw [List.mem_singleton.mp hy]; exact Int.le_refl _⟩
  | z :: xs => by
    have e : PySem.W.maxOf x (z :: xs) = PySem.W.maxOf (if decide (x < z) = true then z else x) xs := rfl
    rw [e]
    by_cases c : x < z
    · rw [if_pos (decide_eq_true c)]
      obtain ⟨h1, h2⟩ := maxOf_is z xs
      refine ⟨List.mem_cons_of_mem _ h1, fun y hy => ?_⟩
      rcases List.mem_cons.mp hy with h | h
      · have := h2 z List.mem_cons_self
        omega
      · exact h2 y h
    · rw [if_neg (by simpa using c)]
      obtain ⟨h1, h2⟩ := maxOf_is x xs
      refine ⟨?_, fun y hy => ?_⟩
      · rcases List.mem_cons.mp h1 with h | h
        · rw [h]; exact List.mem_cons_self
        · exact List.mem_cons_of_mem _ (List.mem_cons_of_mem _ h)
      · rcases List.mem_cons.mp hy with h | h
        · rw [h]; exact h2 x List.mem_cons_self
        · rcases List.mem_cons.mp h with h | h
          · have := h2 x List.mem_cons_self
            omega
          · exact h2 y (List.mem_cons_of_mem _ h)
section
variable {X : Cx}
/-- min(t), max(t), t a tuple of ints -/
def rMinT (K : PySem.W.Frag) : List V → Hp → VK → Prop := fun vs H Q => ∃ (a : Addr) (ns : List Int), vs = [.ref a] ∧ SqT K H a (I ns) ∧ 0 < ns.length ∧ ∀ m, m ∈ ns → (∀ y, y ∈ ns → m ≤ y) → Q (.int m) H
def rMaxT (K : PySem.W.Frag) : List V → Hp → VK → Prop := fun vs H Q => ∃ (a : Addr) (ns : List Int), vs = [.ref a] ∧ SqT K H a (I ns) ∧ 0 < ns.length ∧ ∀ m, m ∈ ns → (∀ y, y ∈ ns → y ≤ m) → Q (.int m) H
theorem cr_minT (hc : X.calm = true) (hu : X.A.units + 64 < cLine) : CallR X (.builtin "min") (rMinT X.K) := by
  intro pins s σ H vs us Q I r h
  obtain ⟨a, ns, rfl, hs, hne, q⟩ := h
  obtain ⟨its, rv, hl, _⟩ := I.tuple hs
  rw [Vals.ref1 r]
  cases ns with
  | nil => exact absurd hne (by simp)
  | cons x xs =>
    have e := minOf_is x xs
    refine PySem.W.min_tuple_datum (α := Int) (x := x) (xs := xs) (I.ok.hd hc) hl (show PySem.W.HoldAll s.heap its (x :: xs) from holds_ints rv) (by show X.A.units + 1 + 0 < cLine; omega) fun i v h' tk hi hv hk => ?_
    obtain ⟨as, hr⟩ := hv
    cases hr with
    | int _ t => exact ⟨.int _, H, I.kept hk, ⟨_, rfl⟩, q _ e.1 e.2⟩
theorem cr_maxT (hc : X.calm = true) (hu : X.A.units + 64 < cLine) : CallR X (.builtin "max") (rMaxT X.K) := by
  intro pins s σ H vs us Q I r h
  obtain ⟨a, ns, rfl, hs, hne, q⟩ := h
  obtain ⟨its, rv, hl, _⟩ := I.tuple hs
  rw [Vals.ref1 r]
  cases ns with
  | nil => exact absurd hne (by simp)
  | cons x xs =>
    have e := maxOf_is x xs
    refine PySem.W.max_tuple_datum (α := Int) (x := x) (xs := xs) (I.ok.hd hc) hl (show PySem.W.HoldAll s.heap its (x :: xs) from holds_ints rv) (by show X.A.units + 1 + 0 < cLine; omega) fun i v h' tk hi hv hk => ?_
    obtain ⟨as, hr⟩ := hv
    cases hr with
    | int _ t => exact ⟨.int _, H, I.kept hk, ⟨_, rfl⟩, q _ e.1 e.2⟩
end
end HW
namespace HW
open PySem PySem.Spec PyProof.Rows L2 HR
theorem pi_range1H {X : Cx} {tg a : Expr} {ta : TA} {p pos : Pos} (hg : Gl X "range") (hm : X.mg "range" = none) (ha : PA X [a] ta) (hs : starEach [a] X.env = [(false, eval a X.env)] := by rfl) :
    L2H.PIH X tg (.Call (.Name "range" p) [a] [] pos) (iRng1 ta) := by
  refine ⟨fun pins s σ H R I h => ?_⟩
  refine Call_ (ld_blt I hg hm boot_range (PyProof.Rows.callWith_type1 (thn (ha.run pos pins s σ H _ I h) fun us s1 ⟨vs, H1, I1, r1, q1⟩ => ?_) hs rfl))
  obtain ⟨j, e, q1, q2, q⟩ := q1
  subst e
  cases r1 with
  | cons r rr =>
    cases rr
    obtain ⟨t, rfl⟩ := r
    exact call_range_1 (L2H.range_itH I1 (by omega) (by omega) q1 q2 (by simpa using q))
theorem cutI_len (r : List Int) (lo hi : Option Int) : ∃ s : List Int, cutV (I r) lo hi = I s ∧ s.length ≤ r.length := by
  obtain ⟨s, e⟩ := cut_I r lo hi
  refine ⟨s, e, ?_⟩
  have := cutV_length (I r) lo hi
  rw [e, len_I, len_I] at this
  exact this
end HW
namespace HW
open PySem PySem.Spec PyProof.Rows L2 HR
def topS (i : Nat) : Stmt := PySem.Challenge.pw_healring_k01_able.main.body.getD i (.Pass ⟨0, 0, 0, 0⟩)
abbrev s_need_numbers : Stmt := topS 12
abbrev p_need_numbers : List Str := ["many"]
abbrev n_need_numbers : List Str := ["many"]
theorem sc_need_numbers : FnScope n_need_numbers p_need_numbers (defScope s_need_numbers) :=
  ⟨rfl, rfl, rfl, by decide +kernel, rfl, by decide +kernel, by decide +kernel⟩
abbrev s_need_machines : Stmt := topS 13
abbrev p_need_machines : List Str := ["machines"]
abbrev n_need_machines : List Str := ["machines"]
theorem sc_need_machines : FnScope n_need_machines p_need_machines (defScope s_need_machines) :=
  ⟨rfl, rfl, rfl, by decide +kernel, rfl, by decide +kernel, by decide +kernel⟩
abbrev s_need_ring : Stmt := topS 14
abbrev p_need_ring : List Str := ["ring", "many"]
abbrev n_need_ring : List Str := ["ring", "many", "number"]
theorem sc_need_ring : FnScope n_need_ring p_need_ring (defScope s_need_ring) :=
  ⟨rfl, rfl, rfl, by decide +kernel, rfl, by decide +kernel, by decide +kernel⟩
abbrev s_may : Stmt := topS 15
abbrev p_may : List Str := ["ring", "machine"]
abbrev n_may : List Str := ["ring", "machine", "alike"]
theorem sc_may : FnScope n_may p_may (defScope s_may) :=
  ⟨rfl, rfl, rfl, by decide +kernel, rfl, by decide +kernel, by decide +kernel⟩
abbrev s_able_of : Stmt := topS 16
abbrev p_able_of : List Str := ["ring"]
abbrev n_able_of : List Str := ["ring", "machine"]
theorem sc_able_of : FnScope n_able_of p_able_of (defScope s_able_of) :=
  ⟨rfl, rfl, rfl, by decide +kernel, rfl, by decide +kernel, by decide +kernel⟩
abbrev s_able : Stmt := topS 17
abbrev p_able : List Str := ["ring", "many"]
abbrev n_able : List Str := ["ring", "many"]
theorem sc_able : FnScope n_able p_able (defScope s_able) :=
  ⟨rfl, rfl, rfl, by decide +kernel, rfl, by decide +kernel, by decide +kernel⟩
abbrev s_moved : Stmt := topS 18
abbrev p_moved : List Str := ["ring", "many", "machine"]
abbrev n_moved : List Str := ["ring", "many", "machine", "number"]
theorem sc_moved : FnScope n_moved p_moved (defScope s_moved) :=
  ⟨rfl, rfl, rfl, by decide +kernel, rfl, by decide +kernel, by decide +kernel⟩
abbrev s_step_of : Stmt := topS 19
abbrev p_step_of : List Str := ["ring", "many", "machine"]
abbrev n_step_of : List Str := ["ring", "many", "machine"]
theorem sc_step_of : FnScope n_step_of p_step_of (defScope s_step_of) :=
  ⟨rfl, rfl, rfl, by decide +kernel, rfl, by decide +kernel, by decide +kernel⟩
abbrev s_stepped : Stmt := topS 20
abbrev p_stepped : List Str := ["ring", "many", "machine"]
abbrev n_stepped : List Str := ["ring", "many", "machine"]
theorem sc_stepped : FnScope n_stepped p_stepped (defScope s_stepped) :=
  ⟨rfl, rfl, rfl, by decide +kernel, rfl, by decide +kernel, by decide +kernel⟩
abbrev s_gone : Stmt := topS 21
abbrev p_gone : List Str := ["ring", "many", "order"]
abbrev n_gone : List Str := ["ring", "many", "order", "rings", "machine"]
theorem sc_gone : FnScope n_gone p_gone (defScope s_gone) :=
  ⟨rfl, rfl, rfl, by decide +kernel, rfl, by decide +kernel, by decide +kernel⟩
abbrev s_next_of : Stmt := topS 23
abbrev p_next_of : List Str := ["ring", "numbers", "k"]
abbrev n_next_of : List Str := ["ring", "numbers", "k", "free", "place"]
theorem sc_next_of : FnScope n_next_of p_next_of (defScope s_next_of) :=
  ⟨rfl, rfl, rfl, by decide +kernel, rfl, by decide +kernel, by decide +kernel⟩
abbrev s_drawn : Stmt := topS 24
abbrev p_drawn : List Str := ["ring", "many", "numbers", "steps"]
abbrev n_drawn : List Str := ["ring", "many", "numbers", "steps", "order", "k", "machine"]
theorem sc_drawn : FnScope n_drawn p_drawn (defScope s_drawn) :=
  ⟨rfl, rfl, rfl, by decide +kernel, rfl, by decide +kernel, by decide +kernel⟩
abbrev s_traced : Stmt := topS 25
abbrev p_traced : List Str := ["ring", "many", "order"]
abbrev n_traced : List Str := ["ring", "many", "order", "found", "fresh", "machine"]
theorem sc_traced : FnScope n_traced p_traced (defScope s_traced) :=
  ⟨rfl, rfl, rfl, by decide +kernel, rfl, by decide +kernel, by decide +kernel⟩
abbrev s_healed : Stmt := topS 27
abbrev p_healed : List Str := ["ring", "many"]
abbrev n_healed : List Str := ["ring", "many"]
theorem sc_healed : FnScope n_healed p_healed (defScope s_healed) :=
  ⟨rfl, rfl, rfl, by decide +kernel, rfl, by decide +kernel, by decide +kernel⟩
abbrev s_healing : Stmt := topS 28
abbrev p_healing : List Str := ["ring", "many", "numbers"]
abbrev n_healing : List Str := ["ring", "many", "numbers", "order", "k", "machine"]
theorem sc_healing : FnScope n_healing p_healing (defScope s_healing) :=
  ⟨rfl, rfl, rfl, by decide +kernel, rfl, by decide +kernel, by decide +kernel⟩
abbrev s_most : Stmt := topS 29
abbrev p_most : List Str := ["machines"]
abbrev n_most : List Str := ["machines"]
theorem sc_most : FnScope n_most p_most (defScope s_most) :=
  ⟨rfl, rfl, rfl, by decide +kernel, rfl, by decide +kernel, by decide +kernel⟩
abbrev s_turns : Stmt := topS 30
abbrev p_turns : List Str := ["ring", "many"]
abbrev n_turns : List Str := ["ring", "many", "free"]
theorem sc_turns : FnScope n_turns p_turns (defScope s_turns) :=
  ⟨rfl, rfl, rfl, by decide +kernel, rfl, by decide +kernel, by decide +kernel⟩
abbrev s_law_cell_at : Stmt := topS 32
abbrev p_law_cell_at : List Str := ["_law_script", "_law_k"]
abbrev n_law_cell_at : List Str := ["_law_script", "_law_k"]
theorem sc_law_cell_at : FnScope n_law_cell_at p_law_cell_at (defScope s_law_cell_at) :=
  ⟨rfl, rfl, rfl, by decide +kernel, rfl, by decide +kernel, by decide +kernel⟩
abbrev s_law_mixed : Stmt := topS 33
abbrev p_law_mixed : List Str := ["_law_cell", "_law_k"]
abbrev n_law_mixed : List Str := ["_law_cell", "_law_k", "_law_one", "_law_other"]
theorem sc_law_mixed : FnScope n_law_mixed p_law_mixed (defScope s_law_mixed) :=
  ⟨rfl, rfl, rfl, by decide +kernel, rfl, by decide +kernel, by decide +kernel⟩
abbrev s_law_size : Stmt := topS 34
abbrev p_law_size : List Str := ["_law_script"]
abbrev n_law_size : List Str := ["_law_script"]
theorem sc_law_size : FnScope n_law_size p_law_size (defScope s_law_size) :=
  ⟨rfl, rfl, rfl, by decide +kernel, rfl, by decide +kernel, by decide +kernel⟩
abbrev s_law_many : Stmt := topS 35
abbrev p_law_many : List Str := ["_law_script", "_law_size_here"]
abbrev n_law_many : List Str := ["_law_script", "_law_size_here", "_law_cell"]
theorem sc_law_many : FnScope n_law_many p_law_many (defScope s_law_many) :=
  ⟨rfl, rfl, rfl, by decide +kernel, rfl, by decide +kernel, by decide +kernel⟩
abbrev s_law_ring : Stmt := topS 36
abbrev p_law_ring : List Str := ["_law_script", "_law_size_here", "_law_many_here"]
abbrev n_law_ring : List Str := ["_law_script", "_law_size_here", "_law_many_here", "_law_cell", "_law_way", "_law_k", "_law_at", "_law_low"]
theorem sc_law_ring : FnScope n_law_ring p_law_ring (defScope s_law_ring) :=
  ⟨rfl, rfl, rfl, by decide +kernel, rfl, by decide +kernel, by decide +kernel⟩
abbrev s_law_able : Stmt := topS 37
abbrev p_law_able : List Str := ["_law_ring_here"]
abbrev n_law_able : List Str := ["_law_ring_here", "_law_found", "_law_k"]
theorem sc_law_able : FnScope n_law_able p_law_able (defScope s_law_able) :=
  ⟨rfl, rfl, rfl, by decide +kernel, rfl, by decide +kernel, by decide +kernel⟩
abbrev s_law_step : Stmt := topS 38
abbrev p_law_step : List Str := ["_law_ring_here", "_law_many_here", "_law_k"]
abbrev n_law_step : List Str := ["_law_ring_here", "_law_many_here", "_law_k", "_law_told_here"]
theorem sc_law_step : FnScope n_law_step p_law_step (defScope s_law_step) :=
  ⟨rfl, rfl, rfl, by decide +kernel, rfl, by decide +kernel, by decide +kernel⟩
abbrev s_law_listed : Stmt := topS 39
abbrev p_law_listed : List Str := ["_law_told_here", "_law_due_here"]
abbrev n_law_listed : List Str := ["_law_told_here", "_law_due_here"]
theorem sc_law_listed : FnScope n_law_listed p_law_listed (defScope s_law_listed) :=
  ⟨rfl, rfl, rfl, by decide +kernel, rfl, by decide +kernel, by decide +kernel⟩
abbrev s_law_alike : Stmt := topS 40
abbrev p_law_alike : List Str := ["_law_told_here", "_law_due_here"]
abbrev n_law_alike : List Str := ["_law_told_here", "_law_due_here", "_law_k"]
theorem sc_law_alike : FnScope n_law_alike p_law_alike (defScope s_law_alike) :=
  ⟨rfl, rfl, rfl, by decide +kernel, rfl, by decide +kernel, by decide +kernel⟩
abbrev s_law_only : Stmt := topS 41
abbrev p_law_only : List Str := ["_law_e", "_law_at"]
abbrev n_law_only : List Str := ["_law_e", "_law_at", "_law_found"]
theorem sc_law_only : FnScope n_law_only p_law_only (defScope s_law_only) :=
  ⟨rfl, rfl, rfl, by decide +kernel, rfl, by decide +kernel, by decide +kernel⟩
abbrev s_law_wrong : Stmt := topS 42
abbrev p_law_wrong : List Str := ["_law_ring_here", "_law_many_here", "_law_cell"]
abbrev n_law_wrong : List Str := ["_law_ring_here", "_law_many_here", "_law_cell", "_law_way", "_law_far", "_law_at"]
theorem sc_law_wrong : FnScope n_law_wrong p_law_wrong (defScope s_law_wrong) :=
  ⟨rfl, rfl, rfl, by decide +kernel, rfl, by decide +kernel, by decide +kernel⟩
abbrev s_law_due : Stmt := topS 43
abbrev p_law_due : List Str := ["_law_ring_here", "_law_many_here"]
abbrev n_law_due : List Str := ["_law_ring_here", "_law_many_here"]
theorem sc_law_due : FnScope n_law_due p_law_due (defScope s_law_due) :=
  ⟨rfl, rfl, rfl, by decide +kernel, rfl, by decide +kernel, by decide +kernel⟩
abbrev s_law_asked : Stmt := topS 44
abbrev p_law_asked : List Str := ["_law_ring_here", "_law_many_here", "_law_way", "_law_machine"]
abbrev n_law_asked : List Str := ["_law_ring_here", "_law_many_here", "_law_way", "_law_machine"]
theorem sc_law_asked : FnScope n_law_asked p_law_asked (defScope s_law_asked) :=
  ⟨rfl, rfl, rfl, by decide +kernel, rfl, by decide +kernel, by decide +kernel⟩
abbrev s_law_told : Stmt := topS 45
abbrev p_law_told : List Str := ["_law_ring_here", "_law_many_here", "_law_way", "_law_machine"]
abbrev n_law_told : List Str := ["_law_ring_here", "_law_many_here", "_law_way", "_law_machine", "_law_e", "_law_at"]
theorem sc_law_told : FnScope n_law_told p_law_told (defScope s_law_told) :=
  ⟨rfl, rfl, rfl, by decide +kernel, rfl, by decide +kernel, by decide +kernel⟩
abbrev s_law : Stmt := topS 46
abbrev p_law : List Str := ["_law_script"]
abbrev n_law : List Str := ["_law_script", "_law_size_here", "_law_many_here", "_law_ring_here", "_law_due_here", "_law_machine", "_law_way"]
theorem sc_law : FnScope n_law p_law (defScope s_law) :=
  ⟨rfl, rfl, rfl, by decide +kernel, rfl, by decide +kernel, by decide +kernel⟩
end HW
namespace HW
open PySem PySem.Spec PyProof.Rows L2 HR
section
variable {P : Program} {w : World} {K : PySem.W.Frag} {mg : Str → Option Value} {base : Heap} {f f1 f2 f3 f4 f5 f6 f7 f8 f9 f10 f11 f12 f13 f14 f15 f16 cN cR cM cW cH cG cE : Addr} {fd fd1 fd2 fd3 fd4 fd5 fd6 fd7 fd8 fd9 fd10 fd11 fd12 fd13 fd14 fd15 fd16 : FuncData}
theorem ok_need_numbers (D : Df K mg "need_numbers" s_need_numbers p_need_numbers f fd) (M1 : ∃ t, mg "LEAST" = some (.int 2 t)) (M3 : ∃ t, mg "MOST_NUMBERS" = some (.int 100 t)) (CN : Cl K mg "NoNumbers" cN) :
    FnOk P w K mg base (L2N.CX P w) 1 f fd p_need_numbers (sp_need_numbers cN) := by
  obtain ⟨t1, m1⟩ := M1
  obtain ⟨t3, m3⟩ := M3
  refine Fun.okN D.F sc_need_numbers (fun vs H Q E h => ?_) (fun cdv A outer s H vs Q E hr h => ?_)
  · obtain ⟨m, rfl, _⟩ := h
    rfl
  · obtain ⟨m, rfl, hE, hQ⟩ := h
    refine ⟨_, pss_one (ps_if (PW.pt (pw_or (pt_cmpR op_lt (pv 0) (pe_glob (v := .int 2) rfl m1 ⟨_, rfl⟩) (nomark _)) (pw_or1 (pt_cmpR op_gt (pv 0) (pe_glob (v := .int 100) rfl m3 ⟨_, rfl⟩) (nomark _)))))
      (pss_one (L2N.ps_raise rfl (L2N.takes_of rfl rfl rfl rfl) (L2N.pmk_own PySem.F.excBase_ValueError CN.x CN.g CN.k (raises_own CN.b CN.t) rfl))) pss_nil), ?_⟩
    refine ⟨_, rfl, _, _, rfl, rfl, _, rfl, ite2 (fun e => ?_) (fun e => ?_)⟩
    · have e := of_decide_eq_true e
      exact iteT (hE (.inl e))
    · have e : ¬ m < 2 := fun z => e (decide_eq_true z)
      refine ⟨_, rfl, _, _, rfl, rfl, _, rfl, ite2 (fun e2 => ?_) (fun e2 => ?_)⟩
      · exact hE (.inr (of_decide_eq_true e2))
      · have e2 : ¬ 100 < m := fun z => e2 (decide_eq_true z)
        exact hQ (by omega) (by omega)
theorem ok_need_machines (D : Df K mg "need_machines" s_need_machines p_need_machines f fd) (M1 : ∃ t, mg "LEAST" = some (.int 2 t)) (M2 : ∃ t, mg "MOST" = some (.int 12 t)) (CR : Cl K mg "NoRing" cR) :
    FnOk P w K mg base (L2N.CX P w) 1 f fd p_need_machines (sp_need_machines cR) := by
  obtain ⟨t1, m1⟩ := M1
  obtain ⟨t2, m2⟩ := M2
  refine Fun.okN D.F sc_need_machines (fun vs H Q E h => ?_) (fun cdv A outer s H vs Q E hr h => ?_)
  · obtain ⟨m, rfl, _⟩ := h
    rfl
  · obtain ⟨m, rfl, hE, hQ⟩ := h
    refine ⟨_, pss_one (ps_if (PW.pt (pw_or (pt_cmpR op_lt (pv 0) (pe_glob (v := .int 2) rfl m1 ⟨_, rfl⟩) (nomark _)) (pw_or1 (pt_cmpR op_gt (pv 0) (pe_glob (v := .int 12) rfl m2 ⟨_, rfl⟩) (nomark _)))))
      (pss_one (L2N.ps_raise rfl (L2N.takes_of rfl rfl rfl rfl) (L2N.pmk_own PySem.F.excBase_ValueError CR.x CR.g CR.k (raises_own CR.b CR.t) rfl))) pss_nil), ?_⟩
    refine ⟨_, rfl, _, _, rfl, rfl, _, rfl, ite2 (fun e => ?_) (fun e => ?_)⟩
    · have e := of_decide_eq_true e
      exact iteT (hE (.inl e))
    · have e : ¬ m < 2 := fun z => e (decide_eq_true z)
      refine ⟨_, rfl, _, _, rfl, rfl, _, rfl, ite2 (fun e2 => ?_) (fun e2 => ?_)⟩
      · exact hE (.inr (of_decide_eq_true e2))
      · have e2 : ¬ 12 < m := fun z => e2 (decide_eq_true z)
        exact hQ (by omega) (by omega)
theorem ok_need_ring {f1 f2 : Addr} {fd1 fd2 : FuncData} (D : Df K mg "need_ring" s_need_ring p_need_ring f fd) (B : Bt mg) (CR : Cl K mg "NoRing" cR)
    (D1 : Df K mg "need_numbers" s_need_numbers p_need_numbers f1 fd1) (G1 : FnOk P w K mg base (L2N.CX P w) 1 f1 fd1 p_need_numbers (sp_need_numbers cN))
    (D2 : Df K mg "need_machines" s_need_machines p_need_machines f2 fd2) (G2 : FnOk P w K mg base (L2N.CX P w) 1 f2 fd2 p_need_machines (sp_need_machines cR)) :
    FnOk P w K mg base (L2N.CX P w) 2 f fd p_need_ring (sp_need_ring K cN cR) := by
  refine Fun.okN D.F sc_need_ring (fun vs H Q E h => ?_) (fun cdv A outer s H vs Q E hr h => ?_)
  · obtain ⟨a, r, m, rfl, _⟩ := h
    rfl
  · obtain ⟨a, r, m, rfl, hT, hN, hR, hQ⟩ := h
    refine ⟨_, pss_cons (ps_expr (pe_call G1 hr (by rfl) D1.g D1.F.kp D1.b .nil (L2N.passes_call (L2N.takes_of rfl rfl rfl rfl) (fun _ _ _ _ h => h)) (pa_cons (pv 1) pa_nil)))
      (pss_cons (ps_expr (pe_call G2 hr (by rfl) D2.g D2.F.kp D2.b .nil (L2N.passes_call (L2N.takes_of rfl rfl rfl rfl) (fun _ _ _ _ h => h)) (pa_cons (pe_callB call_len_seq (by rfl) B.len PySem.boot_len (pa_cons (pv 0) pa_nil)) pa_nil)))
      (pss_one (ps_for (passes_of rfl) rfl (pi_tup (pv 0)) (pg_name (i := 2) sc_need_ring.nd rfl (.inl rfl))
        (pss_one (ps_if (PW.pt (pw_or (pt_cmpR op_lt (pv 2) pe_int (nomark _)) (pw_or1 (pt_cmpR op_ge (pv 2) (pv 1) (nomark _)))))
          (pss_one (L2N.ps_raise rfl (L2N.takes_of rfl rfl rfl rfl) (L2N.pmk_own PySem.F.excBase_ValueError CR.x CR.g CR.k (raises_own CR.b CR.t) rfl))) pss_nil))))), ?_⟩
    refine ⟨_, rfl, m, rfl, hN, fun h1 h2 => ?_⟩
    have hQ := hQ h1 h2
    have hR := hR h1 h2
    refine ⟨_, rfl, a, _, rfl, .inr hT, _, rfl, fun h3 => ?_, fun h3 h4 => ?_⟩
    · rw [len_I] at h3
      exact hR fun g => by have := g.1; have := g.2.1; omega
    · rw [len_I] at h3 h4
      refine ⟨_, rfl, a, rfl, ⟨_, hT⟩, for_tup (K := K) (a := a) (xs := I r) (fun i σ H' => H' = H ∧ (∃ y, σ = [some (.ref a), some (.int m), y]) ∧ ∀ j, j < i → ∀ x, r[j]? = some x → 0 ≤ x ∧ x < m)
        ⟨rfl, ⟨none, rfl⟩, fun j hj => by omega⟩ (fun i σ H' _ ⟨e, _⟩ => e ▸ hT) ?_ ?_⟩
      · rintro i x σ H' hi ⟨rfl, ⟨y, rfl⟩, hall⟩
        rw [List.getElem?_map] at hi
        cases ei : r[i]? with
        | none => rw [ei] at hi; cases hi
        | some z =>
          rw [ei] at hi
          cases hi
          have hz : z ∈ r := List.mem_of_getElem? ei
          have bad : ¬ (0 ≤ z ∧ z < m) → E (.ref cR) none H' := fun n => hR fun g => n (g.2.2 z hz)
          refine ⟨_, rfl, z, 0, rfl, rfl, _, rfl, ite2 (fun e => ?_) (fun e => ?_)⟩
          · have e := of_decide_eq_true e
            exact iteT (bad fun q => by omega)
          · have e : ¬ z < 0 := fun q => e (decide_eq_true q)
            refine ⟨_, rfl, _, rfl, z, m, rfl, rfl, _, rfl, ite2 (fun e2 => ?_) (fun e2 => ?_)⟩
            · have e2 := of_decide_eq_true e2
              exact bad fun q => by omega
            · have e2 : ¬ m ≤ z := fun q => e2 (decide_eq_true q)
              refine ⟨rfl, ⟨_, rfl⟩, fun j hj x hx => ?_⟩
              by_cases c : j = i
              · subst c
                rw [ei] at hx
                cases hx
                omega
              · exact hall j (by omega) x hx
      · rintro σ H' ⟨rfl, ⟨y, rfl⟩, hall⟩
        rw [len_I] at hall
        refine hQ ⟨by omega, by omega, fun x hx => ?_⟩
        obtain ⟨j, hj, e⟩ := List.getElem_of_mem hx
        exact hall j hj x (by rw [List.getElem?_eq_getElem hj, e])
theorem ok_may (D : Df K mg "may" s_may p_may f fd) : FnOk P w K mg base (L2N.CX P w) 1 f fd p_may (sp_may K) := by
  refine Fun.okN D.F sc_may (fun vs H Q E h => ?_) (fun cdv A outer s H vs Q E hr h => ?_)
  · obtain ⟨a, r, k, rfl, _⟩ := h
    rfl
  · obtain ⟨a, r, k, rfl, hT, hk, hQ⟩ := h
    refine ⟨_, pss_cons (ps_set (i := 2) sc_may.nd rfl (.inl rfl) (pe_cmpR op_eq (pe_ix ix_tup (pv 0) (pv 1) (fun _ _ => rfl)) (pe_ix ix_tup (pv 0) (pe_op op_sub (pv 1) pe_int) (fun _ _ => rfl)) (nomark _)))
      (pss_cons (ps_if (pt_cmpR op_eq (pv 1) pe_int (nomark _)) (pss_one (ps_ret (pv 2))) pss_nil)
      (pss_one (ps_ret (pe_not (pv 2))))), ?_⟩
    refine ⟨_, rfl, _, rfl, a, _, k, _, rfl, rfl, hT, atI_I rfl hk, ?_⟩
    by_cases c : k = 0
    · subst c
      refine ⟨_, rfl, _, rfl, _, _, rfl, rfl, a, _, _, _, rfl, rfl, hT, atI_I1 hk, rfl, ?_⟩
      refine ⟨_, rfl, rfl, _, rfl, ite2 (fun e => ?_) (fun e => absurd (decide_eq_true rfl) e)⟩
      refine ⟨_, rfl, ?_⟩
      rw [dec_int]
      unfold may at hQ
      rw [if_pos rfl] at hQ
      exact hQ
    · refine ⟨_, rfl, _, rfl, _, _, rfl, rfl, a, _, _, _, rfl, rfl, hT, atI_I (k := k - 1) (by omega) (by omega), rfl, ?_⟩
      refine ⟨_, rfl, rfl, _, rfl, ite2 (fun e => ?_) (fun e => ?_)⟩
      · have e := V.int.inj (of_decide_eq_true e)
        exact absurd (show k = 0 by omega) c
      · refine ⟨_, rfl, _, rfl, ?_⟩
        rw [dec_int]
        unfold may at hQ
        rw [if_neg c, decide_not] at hQ
        exact hQ
theorem ok_able_of {f1 : Addr} {fd1 : FuncData} (D : Df K mg "able_of" s_able_of p_able_of f fd) (B : Bt mg)
    (D1 : Df K mg "may" s_may p_may f1 fd1) (G1 : FnOk P w K mg base (L2N.CX P w) 1 f1 fd1 p_may (sp_may K)) :
    FnOk P w K mg base (L2N.CX P w) 2 f fd p_able_of (sp_able_of K) := by
  refine Fun.okN D.F sc_able_of (fun vs H Q E h => ?_) (fun cdv A outer s H vs Q E hr h => ?_)
  · obtain ⟨a, r, rfl, _⟩ := h
    rfl
  · obtain ⟨a, r, rfl, hT, hl, hQ⟩ := h
    refine ⟨_, pss_one (ps_ret (pe_lc (own := [("machine", 1)]) (g := gName 1) rfl sc_able_of.nd (pi_range1 rfl B.range (pa_cons (pe_callB call_len_seq (by rfl) B.len PySem.boot_len (pa_cons (pv 0) pa_nil)) pa_nil))
      (blkOk_by (N := n_able_of) (sc := defScope s_able_of) (by decide +kernel)) (fun _ _ _ _ _ => pg_name (i := 1) sc_able_of.nd rfl (Or.inl rfl))
      (fun _ _ _ _ _ => pts_one (pt_val (pe_call G1 hr (by rfl) D1.g D1.F.kp D1.b .nil passN (pa_cons (pv 0) (pa_cons (pv 1) pa_nil))))) (fun _ _ _ _ _ => pv 1))), ?_⟩
    refine ⟨_, rfl, a, _, rfl, .inr hT, _, rfl, by omega, by rw [len_I]; omega, fun D hD => ?_⟩
    rw [len_I]
    refine lc_r0 (fun k => may r k) (fun k => V.int (k : Int)) hD (by omega) (fun i H1 hi sm Z M hz hm => ?_) fun H1 sm e => hQ H1 D sm hD e
    rw [Int.toNat_natCast] at hi
    refine ⟨rfl, _, rfl, _, rfl, a, r, i, rfl, sm.tup hT, hi, _, rfl, ite2 (fun e => ?_) (fun e => ?_)⟩
    · exact ⟨_, rfl, hz e _ (Same.refl _)⟩
    · exact hm (by simpa using e) _ (Same.refl _)
theorem ok_able (D : Df K mg "able" s_able p_able f fd)
    (D1 : Df K mg "need_ring" s_need_ring p_need_ring f1 fd1) (G1 : FnOk P w K mg base (L2N.CX P w) 2 f1 fd1 p_need_ring (sp_need_ring K cN cR))
    (D2 : Df K mg "able_of" s_able_of p_able_of f2 fd2) (G2 : FnOk P w K mg base (L2N.CX P w) 2 f2 fd2 p_able_of (sp_able_of K)) :
    FnOk P w K mg base (L2N.CX P w) 3 f fd p_able (sp_able K cN cR) := by
  refine Fun.okN D.F sc_able (fun vs H Q E h => ?_) (fun cdv A outer s H vs Q E hr h => ?_)
  · obtain ⟨a, r, m, rfl, _⟩ := h
    rfl
  · obtain ⟨a, r, m, rfl, hT, hH⟩ := h
    refine ⟨_, pss_cons (ps_expr (pe_call G1 hr (by rfl) D1.g D1.F.kp D1.b .nil (L2N.passes_call (L2N.takes_of rfl rfl rfl rfl) (fun _ _ _ _ h => h)) (pa_cons (pv 0) (pa_cons (pv 1) pa_nil))))
      (pss_one (ps_ret (pe_call G2 hr (by rfl) D2.g D2.F.kp D2.b .nil passN (pa_cons (pv 0) pa_nil)))), ?_⟩
    refine ⟨_, rfl, _, rfl, a, r, m, rfl, hT, hH.imp fun _ _ g hQ => ?_⟩
    exact ⟨_, rfl, a, r, rfl, hT, by have := g.2.1; omega, fun H' p sm hp e => hQ H' p sm hp e⟩
theorem ok_moved (D : Df K mg "moved" s_moved p_moved f fd) : FnOk P w K mg base (L2N.CX P w) 1 f fd p_moved (sp_moved K) := by
  refine Fun.okN D.F sc_moved (fun vs H Q E h => ?_) (fun cdv A outer s H vs Q E hr h => ?_)
  · obtain ⟨a, r, m, k, rfl, _⟩ := h
    rfl
  · obtain ⟨a, r, m, k, rfl, hT, hk, hl, hm, hQ⟩ := h
    refine ⟨_, pss_cons (ps_set (i := 3) sc_moved.nd rfl (.inl rfl) (pe_ix ix_tup (pv 0) (pe_op op_sub (pv 2) pe_int) (fun _ _ => rfl)))
      (pss_cons (ps_if (pt_cmpR op_eq (pv 2) pe_int (nomark _)) (pss_one (ps_set (i := 3) sc_moved.nd rfl (.inl rfl) (pe_op op_mod (pe_op op_add (pe_ix ix_tup (pv 0) pe_int (fun _ _ => rfl)) pe_int) (pv 1)))) pss_nil)
      (pss_one (ps_ret (pe_op op_catS (pe_op op_catS (pe_slice sl_tupS (pv 0) po_none (po_some (pv 2))) (pe_tup (pa_cons (pv 3) pa_nil))) (pe_slice sl_tupS (pv 0) (po_some (pe_op op_add (pv 2) pe_int)) po_none))))), ?_⟩
    have fin : ∀ v : Int, v = (if k = 0 then (at0 r 0 + 1) % m else at0 r (k - 1)) → ∀ H' p, Same H H' → SqT K H' p (((I r).take k ++ [V.int v]) ++ (I r).drop (k + 1)) → Q (.ref p) H' := fun v ev H' p sm hs => by
      refine hQ H' p sm ?_
      have e : I (HR.moved m r k) = ((I r).take k ++ [V.int v]) ++ (I r).drop (k + 1) := by
        unfold HR.moved I
        rw [List.set_eq_take_append_cons_drop, if_pos hk, ← ev, List.map_append, List.map_take, List.map_cons, List.map_drop, List.append_assoc]
        rfl
      rw [e]
      exact hs
    have hlen : (I r).length = r.length := len_I r
    have c1 : cutV (I r) none (some (k : Int)) = (I r).take k := by
      unfold cutV
      rw [HT.sIx_none, HT.sIx_nat, hlen, Nat.min_eq_left (by omega), List.drop_zero, Nat.sub_zero]
    have c2 : cutV (I r) (some ((k : Int) + 1)) none = (I r).drop (k + 1) := by
      unfold cutV
      rw [HT.sIx_none, show ((k : Int) + 1) = ((k + 1 : Nat) : Int) by omega, HT.sIx_nat, hlen, Nat.min_eq_left (by omega)]
      exact List.take_of_length_le (by rw [List.length_drop, hlen]; exact Nat.le_refl _)
    have two : ∀ v : Int, v = (if k = 0 then (at0 r 0 + 1) % m else at0 r (k - 1)) → ∀ q1 H1, Same H H1 → SqT K H1 q1 ((I r).take k) → ∀ q, H1 q = none → ∀ q2 H2, Same (upd H1 q (.tup [V.int v])) H2 → SqT K H2 q2 ((I r).take k ++ [V.int v]) →
        ∀ q3 H3, Same H2 H3 → SqT K H3 q3 ((I r).drop (k + 1)) → ∃ a b xs ys, V.ref q2 = .ref a ∧ V.ref q3 = .ref b ∧ SqT K H3 a xs ∧ SqT K H3 b ys ∧ xs.length + ys.length ≤ sizeLine ∧ ∀ p H', Same H3 H' → SqT K H' p (xs ++ ys) → Q (.ref p) H' := fun v ev q1 H1 s1 h1 q hq q2 H2 s2 h2 q3 H3 s3 h3 => by
      refine ⟨q2, q3, _, _, rfl, rfl, s3.tup h2, h3, big ?_, fun p H' s4 h4 => fin v ev H' p (s1.trans ((same_upd hq).trans (s2.trans (s3.trans s4)))) h4⟩
      rw [List.length_append, List.length_take, List.length_drop, hlen]
      show min k r.length + 1 + (r.length - (k + 1)) ≤ 1000
      omega
    by_cases c : k = 0
    · subst c
      refine ⟨_, rfl, _, rfl, _, _, rfl, rfl, a, _, _, _, rfl, rfl, hT, atI_I1 hk, ?_⟩
      refine ⟨_, rfl, rfl, _, rfl, ite2 (fun e => ?_) (fun e => absurd (decide_eq_true rfl) e)⟩
      refine ⟨_, rfl, a, _, _, _, rfl, rfl, hT, atI_I (k := 0) rfl hk, _, _, rfl, rfl, _, rfl, _, _, rfl, rfl, hm, ?_⟩
      refine ⟨_, rfl, _, rfl, _, rfl, a, _, rfl, hT, fun q1 H1 s1 h1 => ⟨_, rfl, big (by show 1 ≤ 1000; omega), fun q hq => ?_⟩⟩
      rw [c1] at h1
      refine ⟨q1, q, _, _, rfl, rfl, (same_upd hq).tup h1, tupOf upd_same, big ?_, fun q2 H2 s2 h2 => ?_⟩
      · show 0 + 1 ≤ 1000
        omega
      refine ⟨_, rfl, _, rfl, _, _, rfl, rfl, _, rfl, a, _, rfl, s2.tup ((same_upd hq).tup (s1.tup hT)), fun q3 H3 s3 h3 => ?_⟩
      rw [c2] at h3
      exact two _ (by rw [if_pos rfl]) q1 H1 s1 h1 q hq q2 H2 s2 h2 q3 H3 s3 h3
    · refine ⟨_, rfl, _, rfl, _, _, rfl, rfl, a, _, _, _, rfl, rfl, hT, atI_I (k := k - 1) (by omega) (by omega), ?_⟩
      refine ⟨_, rfl, rfl, _, rfl, ite2 (fun e => ?_) (fun e => ?_)⟩
      · have e := V.int.inj (of_decide_eq_true e)
        exact absurd (show k = 0 by omega) c
      refine ⟨_, rfl, _, rfl, _, rfl, a, _, rfl, hT, fun q1 H1 s1 h1 => ⟨_, rfl, big (by show 1 ≤ 1000; omega), fun q hq => ?_⟩⟩
      rw [c1] at h1
      refine ⟨q1, q, _, _, rfl, rfl, (same_upd hq).tup h1, tupOf upd_same, big ?_, fun q2 H2 s2 h2 => ?_⟩
      · rw [List.length_take, hlen]
        show min k r.length + 1 ≤ 1000
        omega
      refine ⟨_, rfl, _, rfl, _, _, rfl, rfl, _, rfl, a, _, rfl, s2.tup ((same_upd hq).tup (s1.tup hT)), fun q3 H3 s3 h3 => ?_⟩
      rw [c2] at h3
      exact two _ (by rw [if_neg c]) q1 H1 s1 h1 q hq q2 H2 s2 h2 q3 H3 s3 h3
theorem ok_step_of (D : Df K mg "step_of" s_step_of p_step_of f fd) (B : Bt mg) (CM : Cl K mg "NoMachine" cM) (CW : Cl K mg "NotNow" cW)
    (D1 : Df K mg "may" s_may p_may f1 fd1) (G1 : FnOk P w K mg base (L2N.CX P w) 1 f1 fd1 p_may (sp_may K))
    (D2 : Df K mg "moved" s_moved p_moved f2 fd2) (G2 : FnOk P w K mg base (L2N.CX P w) 1 f2 fd2 p_moved (sp_moved K)) :
    FnOk P w K mg base (L2N.CX P w) 2 f fd p_step_of (sp_step_of K cM cW) := by
  refine Fun.okN D.F sc_step_of (fun vs H Q E h => ?_) (fun cdv A outer s H vs Q E hr h => ?_)
  · obtain ⟨a, r, m, z, rfl, _⟩ := h
    rfl
  · obtain ⟨a, r, m, z, rfl, hT, hl, hm, hE, hQ⟩ := h
    refine ⟨_, pss_cons (ps_if (PW.pt (pw_or (pt_cmpR op_lt (pv 2) pe_int (nomark _)) (pw_or1 (pt_cmpR op_ge (pv 2) (pe_callB call_len_seq (by rfl) B.len PySem.boot_len (pa_cons (pv 0) pa_nil)) (nomark _)))))
        (pss_one (L2N.ps_raise rfl (L2N.takes_of rfl rfl rfl rfl) (L2N.pmk_own PySem.F.excBase_ValueError CM.x CM.g CM.k (raises_own CM.b CM.t) rfl))) pss_nil)
      (pss_cons (ps_if (pt_not (pt_val (pe_call G1 hr (by rfl) D1.g D1.F.kp D1.b .nil passN (pa_cons (pv 0) (pa_cons (pv 2) pa_nil)))))
        (pss_one (L2N.ps_raise rfl (L2N.takes_of rfl rfl rfl rfl) (L2N.pmk_own PySem.F.excBase_ValueError CW.x CW.g CW.k (raises_own CW.b CW.t) rfl))) pss_nil)
      (pss_one (ps_ret (pe_call G2 hr (by rfl) D2.g D2.F.kp D2.b .nil passN (pa_cons (pv 0) (pa_cons (pv 1) (pa_cons (pv 2) pa_nil))))))), ?_⟩
    refine ⟨_, rfl, _, _, rfl, rfl, _, rfl, ite2 (fun e => ?_) (fun e => ?_)⟩
    · have e := of_decide_eq_true e
      refine iteT (hE true ?_)
      unfold stepR
      rw [if_pos (.inl e)]
    · have e : ¬ z < 0 := fun q => e (decide_eq_true q)
      refine ⟨_, rfl, _, rfl, a, _, rfl, .inr hT, _, _, rfl, rfl, _, rfl, ite2 (fun e2 => ?_) (fun e2 => ?_)⟩
      · have e2 := of_decide_eq_true e2
        rw [len_I] at e2
        refine hE true ?_
        unfold stepR
        rw [if_pos (.inr e2)]
      · have e2 : ¬ ((I r).length : Int) ≤ z := fun q => e2 (decide_eq_true q)
        rw [len_I] at e2
        have no : ¬ (z < 0 ∨ (r.length : Int) ≤ z) := by omega
        refine ⟨_, rfl, _, rfl, a, r, z.toNat, by rw [Int.toNat_of_nonneg (by omega)]; rfl, hT, by omega, _, rfl, ite2 (fun e3 => ?_) (fun e3 => ?_)⟩
        · refine hE false ?_
          unfold stepR
          rw [if_neg no, if_neg (by simpa using e3)]
        · have e3 : may r z.toNat = true := by simpa using e3
          refine ⟨_, rfl, _, rfl, _, rfl, a, r, m, z.toNat, by rw [Int.toNat_of_nonneg (by omega)]; rfl, hT, by omega, hl, hm, fun H' p sm hs => hQ _ ?_ H' p sm hs⟩
          unfold stepR
          rw [if_neg no, if_pos e3]
theorem ok_stepped (D : Df K mg "stepped" s_stepped p_stepped f fd)
    (D1 : Df K mg "need_ring" s_need_ring p_need_ring f1 fd1) (G1 : FnOk P w K mg base (L2N.CX P w) 2 f1 fd1 p_need_ring (sp_need_ring K cN cR))
    (D2 : Df K mg "step_of" s_step_of p_step_of f2 fd2) (G2 : FnOk P w K mg base (L2N.CX P w) 2 f2 fd2 p_step_of (sp_step_of K cM cW)) :
    FnOk P w K mg base (L2N.CX P w) 3 f fd p_stepped (sp_stepped K cN cR cM cW) := by
  refine Fun.okN D.F sc_stepped (fun vs H Q E h => ?_) (fun cdv A outer s H vs Q E hr h => ?_)
  · obtain ⟨a, r, m, z, rfl, _⟩ := h
    rfl
  · obtain ⟨a, r, m, z, rfl, hT, hH⟩ := h
    refine ⟨_, pss_cons (ps_expr (pe_call G1 hr (by rfl) D1.g D1.F.kp D1.b .nil (L2N.passes_call (L2N.takes_of rfl rfl rfl rfl) (fun _ _ _ _ h => h)) (pa_cons (pv 0) (pa_cons (pv 1) pa_nil))))
      (pss_one (ps_ret (pe_call G2 hr (by rfl) D2.g D2.F.kp D2.b .nil (L2N.passes_call (L2N.takes_of rfl rfl rfl rfl) (fun _ _ _ _ h => h)) (pa_cons (pv 0) (pa_cons (pv 1) (pa_cons (pv 2) pa_nil)))))), ?_⟩
    refine ⟨_, rfl, _, rfl, a, r, m, rfl, hT, hH.imp fun h1 _ g hS => ?_⟩
    exact ⟨_, rfl, _, rfl, _, rfl, a, r, m, z, rfl, hT, by have := g.2.1; omega, by omega, hS⟩
theorem ok_gone (D : Df K mg "gone" s_gone p_gone f fd)
    (D1 : Df K mg "need_ring" s_need_ring p_need_ring f1 fd1) (G1 : FnOk P w K mg base (L2N.CX P w) 2 f1 fd1 p_need_ring (sp_need_ring K cN cR))
    (D2 : Df K mg "step_of" s_step_of p_step_of f2 fd2) (G2 : FnOk P w K mg base (L2N.CX P w) 2 f2 fd2 p_step_of (sp_step_of K cM cW)) :
    FnOk P w K mg base (L2N.CX P w) 3 f fd p_gone (sp_gone K cN cR cM cW) := by
  refine Fun.okN D.F sc_gone (fun vs H Q E h => ?_) (fun cdv A outer s H vs Q E hr h => ?_)
  · obtain ⟨a, b, r, zs, m, rfl, _⟩ := h
    rfl
  · obtain ⟨a, b, r, zs, m, rfl, hT, hO, hz, hH⟩ := h
    refine ⟨_, pss_cons (ps_expr (pe_call G1 hr (by rfl) D1.g D1.F.kp D1.b .nil (L2N.passes_call (L2N.takes_of rfl rfl rfl rfl) (fun _ _ _ _ h => h)) (pa_cons (pv 0) (pa_cons (pv 1) pa_nil))))
      (pss_cons (ps_set (i := 3) sc_gone.nd rfl (.inl rfl) (pe_lst (pa_cons (pv 0) pa_nil)))
      (pss_cons (ps_for (passes_of rfl) rfl (pi_list (pv 2)) (pg_name (i := 4) sc_gone.nd rfl (.inl rfl))
        (pss_cons (ps_set (i := 0) sc_gone.nd rfl (.inl rfl) (pe_call G2 hr (by rfl) D2.g D2.F.kp D2.b .nil (L2N.passes_call (L2N.takes_of rfl rfl rfl rfl) (fun _ _ _ _ h => h)) (pa_cons (pv 0) (pa_cons (pv 1) (pa_cons (pv 4) pa_nil)))))
        (pss_one (ps_expr (pe_bm PySem.F.plainAttrs_list PySem.F.slot_list_append PySem.F.type_list_append mt_append (pv 3) (pa_cons (pv 0) pa_nil))))))
      (pss_one (ps_ret (pv 3))))), ?_⟩
    refine ⟨_, rfl, _, rfl, a, r, m, rfl, hT, hH.imp fun h1 _ g hS => ?_⟩
    obtain ⟨hE, hQ⟩ := hS
    refine ⟨_, rfl, big (by show 1 ≤ 1000; omega), fun p hp => ?_⟩
    have s1 : Same H (upd H p (.lst [V.ref a])) := same_upd hp
    refine ⟨_, rfl, b, rfl, ⟨_, s1.seq hO⟩, for_list (K := K) (a := b) (xs := I zs)
      (fun i σ H' => ∃ (c : Addr) (rs : List (List Int)) (r' : List Int) (xs : List V) (y : Option V), σ = [some (.ref c), some (.int m), some (.ref b), some (.ref p), y] ∧ Same H H' ∧ SqT K H' c (I r') ∧ r'.length = r.length ∧
        H' p = some (.lst xs) ∧ Tups K H' xs rs ∧ xs.length = i + 1 ∧ goneA m [r] r zs = goneA m rs r' (zs.drop i))
      ⟨a, [r], r, _, none, rfl, s1, s1.tup hT, rfl, upd_same, .cons ⟨a, rfl, s1.tup hT⟩ .nil, rfl, rfl⟩
      (fun i σ H' _ ⟨_, _, _, _, _, _, s5, _⟩ => s5.seq hO) ?_ ?_⟩
    · rintro i x σ H' hi ⟨c, rs, r', xs, y, rfl, sm, hc, hrl, hxs, hrs, hlen, hg⟩
      have hil : i < zs.length := by
        have := (List.getElem?_eq_some_iff.mp hi).1
        rw [len_I] at this
        exact this
      have ex : x = .int zs[i] := by
        rw [List.getElem?_map, List.getElem?_eq_getElem hil] at hi
        exact (Option.some.inj hi).symm
      subst ex
      rw [List.drop_eq_getElem_cons hil] at hg
      refine ⟨_, rfl, _, rfl, _, rfl, c, r', m, zs[i], rfl, hc, by have := g.2.1; omega, by omega, fun d hd => ?_, fun r2 hr2 H2 p2 s2 h2 => ?_⟩
      · refine hE d H' ?_ sm
        rw [hg]
        unfold goneA
        rw [hd]
      · have e2 : goneA m [r] r zs = goneA m (rs ++ [r2]) r2 (zs.drop (i + 1)) := by
          rw [hg]
          conv => lhs; unfold goneA
          rw [hr2]
        have hp2 := s2 _ _ hxs
        refine ⟨_, rfl, .inl ⟨rfl, _, lstOf hp2⟩, _, rfl, p, _, _, rfl, rfl, hp2, small1000 (by omega), ?_⟩
        have pne : ∀ b o, H b = some o → b ≠ p := fun b o e => ne_of_none e hp
        have s3 : ∀ b o xs, H2 b = some o → (o = .tup xs ∨ ∃ ob, o = .frz ob (.tup xs)) → (upd H2 p (.lst (xs ++ [V.ref p2]))) b = some o := fun b o xs e k => by
          rw [upd_ne]
          · exact e
          · intro q
            rw [q, hp2] at e
            cases e
            rcases k with k | ⟨_, k⟩ <;> cases k
        have tp2 : SqT K (upd H2 p (.lst (xs ++ [V.ref p2]))) p2 (I r2) := by
          rcases h2 with (h2 | ⟨o, h2⟩) | h2
          · refine .inl (.inl ?_)
            rw [upd_ne (ne_of h2 hp2 (by intro q; cases q))]
            exact h2
          · refine .inl (.inr ⟨o, ?_⟩)
            rw [upd_ne (ne_of h2 hp2 (by intro q; cases q))]
            exact h2
          · exact .inr h2
        refine ⟨p2, rs ++ [r2], r2, _, _, rfl, fun b o e => ?_, tp2, (stepR_len hr2).trans hrl, upd_same, Paired.snoc ((hrs.of s2).upd hp2) ⟨p2, rfl, tp2⟩, ?_, e2⟩
        · rw [upd_ne (pne b o e)]
          exact s2 _ _ (sm _ _ e)
        · rw [List.length_append, hlen]
          rfl
    · rintro σ H' ⟨c, rs, r', xs, y, rfl, sm, hc, hrl, hxs, hrs, hlen, hg⟩
      rw [len_I, List.drop_length] at hg
      exact ⟨_, rfl, hQ rs H' p hg sm hp ⟨xs, hxs, hrs⟩⟩
theorem ok_next_of (D : Df K mg "next_of" s_next_of p_next_of f fd) (B : Bt mg)
    (D1 : Df K mg "able_of" s_able_of p_able_of f1 fd1) (G1 : FnOk P w K mg base (L2N.CX P w) 2 f1 fd1 p_able_of (sp_able_of K)) :
    FnOk P w K mg base (L2N.CX P w) 3 f fd p_next_of (sp_next_of K) := by
  refine Fun.okN D.F sc_next_of (fun vs H Q E h => ?_) (fun cdv A outer s H vs Q E hr h => ?_)
  · obtain ⟨a, b, r, ns, t, rfl, _⟩ := h
    rfl
  · obtain ⟨a, b, r, ns, t, rfl, hT, hN, h0, hl, hQ⟩ := h
    refine ⟨_, pss_cons (ps_set (i := 3) sc_next_of.nd rfl (.inl rfl) (pe_call G1 hr (by rfl) D1.g D1.F.kp D1.b .nil passN (pa_cons (pv 0) pa_nil)))
      (pss_cons (ps_set (i := 4) sc_next_of.nd rfl (.inl rfl) pe_int)
      (pss_cons (ps_if (pt_cmpR op_gt (pe_callB call_len_seq (by rfl) B.len PySem.boot_len (pa_cons (pv 1) pa_nil)) pe_int (nomark _))
        (pss_one (ps_set (i := 4) sc_next_of.nd rfl (.inl rfl) (pe_op op_mod (pe_ix ix_list (pv 1) (pe_op op_mod (pv 2) (pe_callB call_len_seq (by rfl) B.len PySem.boot_len (pa_cons (pv 1) pa_nil))) (fun _ _ => rfl)) (pe_callB call_len_seq (by rfl) B.len PySem.boot_len (pa_cons (pv 3) pa_nil))))) pss_nil)
      (pss_one (ps_ret (pe_ix ix_list (pv 3) (pv 4) (fun _ _ => rfl)))))), ?_⟩
    refine ⟨_, rfl, a, r, rfl, hT, hl, fun H1 p s1 hp e1 => ?_⟩
    have pos := able_pos h0
    have hN1 : SqL K H1 b (I ns) := s1.seq hN
    have hL : SqL K H1 p (N (able r)) := lstOf e1
    refine ⟨_, rfl, b, _, rfl, .inl hN1, _, _, rfl, rfl, _, rfl, ?_⟩
    rw [len_I]
    refine ite2 (fun e => ?_) (fun e => ?_)
    · have e := of_decide_eq_true e
      have hn : 0 < ns.length := by omega
      have ne : ns ≠ [] := fun q => by rw [q] at hn; exact absurd hn (by decide)
      have hb : t % ns.length < ns.length := Nat.mod_lt _ hn
      refine ⟨_, rfl, _, rfl, _, rfl, b, _, rfl, .inl hN1, _, _, rfl, rfl, by rw [len_I]; omega, b, _, _, _, rfl, rfl, hN1, atI_I (k := t % ns.length) (by rw [len_I]; rfl) hb, ?_⟩
      refine ⟨_, rfl, p, _, rfl, .inl hL, _, _, rfl, rfl, by rw [len_N]; omega, ?_⟩
      rw [len_N]
      have q1 := Int.emod_nonneg (at0 ns (t % ns.length)) (show ((able r).length : Int) ≠ 0 by omega)
      have q2 := Int.emod_lt_of_pos (at0 ns (t % ns.length)) (show 0 < ((able r).length : Int) by omega)
      refine ⟨_, rfl, _, rfl, p, _, _, _, rfl, rfl, hL, atI_N (k := (at0 ns (t % ns.length) % ((able r).length : Int)).toNat) (by omega) (by omega), ?_⟩
      have z := hQ H1 s1
      unfold nextOf at z
      rw [if_neg ne] at z
      exact z
    · have e : ns = [] := by
        cases ns with
        | nil => rfl
        | cons x l => exact absurd (decide_eq_true (by show (0 : Int) < ((l.length + 1 : Nat) : Int); omega)) e
      refine ⟨_, rfl, _, rfl, p, _, _, _, rfl, rfl, hL, atI_N (k := 0) rfl pos, ?_⟩
      have z := hQ H1 s1
      unfold nextOf at z
      rw [if_pos e] at z
      exact z
theorem ok_drawn (D : Df K mg "drawn" s_drawn p_drawn f fd) (B : Bt mg)
    (D1 : Df K mg "need_ring" s_need_ring p_need_ring f1 fd1) (G1 : FnOk P w K mg base (L2N.CX P w) 2 f1 fd1 p_need_ring (sp_need_ring K cN cR))
    (D2 : Df K mg "next_of" s_next_of p_next_of f2 fd2) (G2 : FnOk P w K mg base (L2N.CX P w) 3 f2 fd2 p_next_of (sp_next_of K))
    (D3 : Df K mg "moved" s_moved p_moved f3 fd3) (G3 : FnOk P w K mg base (L2N.CX P w) 1 f3 fd3 p_moved (sp_moved K)) :
    FnOk P w K mg base (L2N.CX P w) 4 f fd p_drawn (sp_drawn K cN cR) := by
  refine Fun.okN D.F sc_drawn (fun vs H Q E h => ?_) (fun cdv A outer s H vs Q E hr h => ?_)
  · obtain ⟨a, b, r, ns, m, t, rfl, _⟩ := h
    rfl
  · obtain ⟨a, b, r, ns, m, t, rfl, hT, hN, ht, hH⟩ := h
    refine ⟨_, pss_cons (ps_expr (pe_call G1 (hr.mono (by decide)) (by rfl) D1.g D1.F.kp D1.b .nil (L2N.passes_call (L2N.takes_of rfl rfl rfl rfl) (fun _ _ _ _ h => h)) (pa_cons (pv 0) (pa_cons (pv 1) pa_nil))))
      (pss_cons (ps_set (i := 4) sc_drawn.nd rfl (.inl rfl) (pe_lst pa_nil))
      (pss_cons (ps_for (passes_of rfl) rfl (pi_range1 rfl B.range (pa_cons (pv 3) pa_nil)) (pg_name (i := 5) sc_drawn.nd rfl (.inl rfl))
        (pss_cons (ps_set (i := 6) sc_drawn.nd rfl (.inl rfl) (pe_call G2 (hr.mono (by decide)) (by rfl) D2.g D2.F.kp D2.b .nil passN (pa_cons (pv 0) (pa_cons (pv 2) (pa_cons (pv 5) pa_nil)))))
        (pss_cons (ps_expr (pe_bm PySem.F.plainAttrs_list PySem.F.slot_list_append PySem.F.type_list_append mt_append (pv 4) (pa_cons (pv 6) pa_nil)))
        (pss_one (ps_set (i := 0) sc_drawn.nd rfl (.inl rfl) (pe_call G3 (hr.mono (by decide)) (by rfl) D3.g D3.F.kp D3.b .nil passN (pa_cons (pv 0) (pa_cons (pv 1) (pa_cons (pv 6) pa_nil)))))))))
      (pss_one (ps_ret (pv 4))))), ?_⟩
    refine ⟨_, rfl, _, rfl, a, r, m, rfl, hT, hH.imp fun h1 _ g hQ => ?_⟩
    refine ⟨big (by show 0 ≤ 1000; omega), fun p hp => ?_⟩
    have s1 : Same H (upd H p (.lst [])) := same_upd hp
    have g2 := g.2.1
    have g1 := g.1
    refine ⟨_, rfl, _, rfl, by omega, by omega, ?_⟩
    rw [Int.toNat_natCast]
    refine for_r0 (fun i σ H' => ∃ (c : Addr) (y z : Option V), σ = [some (.ref c), some (.int m), some (.ref b), some (.int (t : Int)), some (.ref p), y, z] ∧ Same H H' ∧ SqT K H' c (I (draws m ns r i).2) ∧ H' p = some (.lst (N (draws m ns r i).1)))
      ⟨a, none, none, rfl, s1, s1.tup hT, upd_same⟩ ?_ ?_
    · rintro i σ H' hi ⟨c, y, z, rfl, sm, hc, hp1⟩
      have hrl := draws_rlen m ns r i
      have hdl := draws_len m ns r i
      refine ⟨_, rfl, _, rfl, _, rfl, c, b, (draws m ns r i).2, ns, i, rfl, hc, sm.seq hN, by omega, by omega, fun H2 s2 => ?_⟩
      have hp2 := s2 _ _ hp1
      refine ⟨_, rfl, .inl ⟨rfl, _, lstOf hp2⟩, _, rfl, p, _, _, rfl, rfl, hp2, small1000 (by rw [len_N]; omega), ?_⟩
      have sm2 : Same H (upd H2 p (.lst (N (draws m ns r i).1 ++ [V.int ((nextOf (draws m ns r i).2 ns i : Nat) : Int)]))) := fun b o e => by
        rw [upd_ne (ne_of_none e hp)]
        exact s2 _ _ (sm _ _ e)
      have hc2 : SqT K (upd H2 p (.lst (N (draws m ns r i).1 ++ [V.int ((nextOf (draws m ns r i).2 ns i : Nat) : Int)]))) c (I (draws m ns r i).2) := tupUpd hp2 (s2.tup hc)
      refine ⟨_, rfl, _, rfl, _, rfl, c, (draws m ns r i).2, m, _, rfl, hc2, nextOf_lt i (by omega), by omega, by omega, fun H3 p3 s3 h3 => ?_⟩
      refine ⟨p3, _, _, rfl, sm2.trans s3, h3, ?_⟩
      rw [s3 _ _ upd_same]
      show some (HO.lst _) = some (HO.lst (N ((draws m ns r i).1 ++ [_])))
      unfold N
      rw [List.map_append]
      rfl
    · rintro σ H' ⟨c, y, z, rfl, sm, hc, hp1⟩
      exact ⟨_, rfl, hQ H' p sm hp hp1⟩
theorem ok_traced (D : Df K mg "traced" s_traced p_traced f fd) (B : Bt mg)
    (D1 : Df K mg "need_ring" s_need_ring p_need_ring f1 fd1) (G1 : FnOk P w K mg base (L2N.CX P w) 2 f1 fd1 p_need_ring (sp_need_ring K cN cR))
    (D2 : Df K mg "step_of" s_step_of p_step_of f2 fd2) (G2 : FnOk P w K mg base (L2N.CX P w) 2 f2 fd2 p_step_of (sp_step_of K cM cW)) :
    FnOk P w K mg base (L2N.CX P w) 3 f fd p_traced (sp_traced K cN cR cM cW) := by
  refine Fun.okN D.F sc_traced (fun vs H Q E h => ?_) (fun cdv A outer s H vs Q E hr h => ?_)
  · obtain ⟨a, b, r, zs, m, rfl, _⟩ := h
    rfl
  · obtain ⟨a, b, r, zs, m, rfl, hT, hO, hz, hH⟩ := h
    refine ⟨_, pss_cons (ps_expr (pe_call G1 hr (by rfl) D1.g D1.F.kp D1.b .nil (L2N.passes_call (L2N.takes_of rfl rfl rfl rfl) (fun _ _ _ _ h => h)) (pa_cons (pv 0) (pa_cons (pv 1) pa_nil))))
      (pss_cons (ps_set (i := 3) sc_traced.nd rfl (.inl rfl) (pe_listRg rfl (by rfl) B.list (prg_1 (by rfl) B.range (pe_callB call_len_seq (by rfl) B.len PySem.boot_len (pa_cons (pv 0) pa_nil)))))
      (pss_cons (ps_set (i := 4) sc_traced.nd rfl (.inl rfl) (pe_callB call_len_seq (by rfl) B.len PySem.boot_len (pa_cons (pv 0) pa_nil)))
      (pss_cons (ps_for (passes_of rfl) rfl (pi_list (pv 2)) (pg_name (i := 5) sc_traced.nd rfl (.inl rfl))
        (pss_cons (ps_set (i := 0) sc_traced.nd rfl (.inl rfl) (pe_call G2 hr (by rfl) D2.g D2.F.kp D2.b .nil (L2N.passes_call (L2N.takes_of rfl rfl rfl rfl) (fun _ _ _ _ h => h)) (pa_cons (pv 0) (pa_cons (pv 1) (pa_cons (pv 5) pa_nil)))))
        (pss_one (ps_if (pt_cmpR op_eq (pv 5) pe_int (nomark _))
          (pss_cons (ps_asg (pv 4) (pg_sub (pv 3) pe_int set_list)) (pss_one (ps_set (i := 4) sc_traced.nd rfl (.inl rfl) (pe_op op_add (pv 4) pe_int))))
          (pss_one (ps_asg (pe_ix ix_list (pv 3) (pe_op op_sub (pv 5) pe_int) (fun _ _ => rfl)) (pg_sub (pv 3) (pv 5) set_list)))))))
      (pss_one (ps_ret (pv 3)))))), ?_⟩
    refine ⟨_, rfl, _, rfl, a, r, m, rfl, hT, hH.imp fun h1 _ g hS => ?_⟩
    obtain ⟨hE, hQ⟩ := hS
    have g1 := g.1
    have g2 := g.2.1
    refine ⟨_, rfl, a, _, rfl, .inr hT, _, rfl, ?_⟩
    rw [len_I]
    refine ⟨RgOk.of_le (by omega) (by omega) (by omega) (by omega), fun p hp => ?_⟩
    have s1 : Same H (upd H p (.lst (rgV 0 (r.length : Int)))) := same_upd hp
    have e0 : rgV 0 (r.length : Int) = I (marks r.length) := by
      unfold rgV I marks
      rw [Int.sub_zero, Int.toNat_natCast, List.map_map]
      refine List.map_congr_left fun k _ => ?_
      show V.int (0 + (k : Int)) = V.int (k : Int)
      rw [Int.zero_add]
    refine ⟨_, rfl, a, _, rfl, .inr (s1.tup hT), ?_⟩
    rw [len_I]
    have lm : (marks r.length).length = r.length := by unfold marks; rw [List.length_map, List.length_range]
    refine ⟨_, rfl, b, rfl, ⟨_, s1.seq hO⟩, for_list (K := K) (a := b) (xs := I zs)
      (fun i σ H' => ∃ (c : Addr) (r' fs : List Int) (fr : Int) (y : Option V), σ = [some (.ref c), some (.int m), some (.ref b), some (.ref p), some (.int fr), y] ∧ Same H H' ∧ SqT K H' c (I r') ∧ r'.length = r.length ∧
        H' p = some (.lst (I fs)) ∧ fs.length = r.length ∧ tracedA m (marks r.length) r.length r zs = tracedA m fs fr r' (zs.drop i))
      ⟨a, r, marks r.length, r.length, none, rfl, s1, s1.tup hT, rfl, by rw [upd_same, e0], lm, rfl⟩
      (fun i σ H' _ ⟨_, _, _, _, _, _, s5, _⟩ => s5.seq hO) ?_ ?_⟩
    · rintro i x σ H' hi ⟨c, r', fs, fr, y, rfl, sm, hc, hrl, hp1, hfl, hg⟩
      have hil : i < zs.length := by
        have := (List.getElem?_eq_some_iff.mp hi).1
        rw [len_I] at this
        exact this
      have ex : x = .int zs[i] := by
        rw [List.getElem?_map, List.getElem?_eq_getElem hil] at hi
        exact (Option.some.inj hi).symm
      subst ex
      rw [List.drop_eq_getElem_cons hil] at hg
      refine ⟨_, rfl, _, rfl, _, rfl, c, r', m, zs[i], rfl, hc, by omega, by omega, fun d hd => ?_, fun r2 hr2 H2 p2 s2 h2 => ?_⟩
      · refine hE d H' ?_ sm
        rw [hg]
        unfold tracedA
        rw [hd]
      · have e2 : tracedA m (marks r.length) r.length r zs = (if zs[i] = 0 then tracedA m (fs.set 0 fr) (fr + 1) r2 (zs.drop (i + 1)) else tracedA m (fs.set zs[i].toNat (at0 fs (zs[i].toNat - 1))) fr r2 (zs.drop (i + 1))) := by
          rw [hg]
          conv => lhs; unfold tracedA
          rw [hr2]
        have in1 : 0 ≤ zs[i] ∧ zs[i] < r'.length := by
          unfold stepR at hr2
          split at hr2
          · cases hr2
          · omega
        have hp2 := s2 _ _ hp1
        have s3 : ∀ o, Same H (upd H2 p o) := fun o b u e => by
          rw [upd_ne (ne_of_none e hp)]
          exact s2 _ _ (sm _ _ e)
        refine ⟨_, rfl, rfl, _, rfl, ite2 (fun e => ?_) (fun e => ?_)⟩
        · have e := V.int.inj (of_decide_eq_true e)
          rw [if_pos e] at e2
          refine ⟨_, rfl, _, rfl, p, _, _, 0, rfl, rfl, hp2, ?_, ?_⟩
          · rw [len_I, hfl]
            unfold ixN
            rw [if_pos (by omega), if_pos (by omega)]
            rfl
          refine ⟨_, rfl, _, _, rfl, rfl, ?_⟩
          refine ⟨p2, r2, fs.set 0 fr, fr + 1, _, rfl, s3 _, tupUpd hp2 h2, (stepR_len hr2).trans hrl, ?_, ?_, e2⟩
          · rw [upd_same]
            unfold I
            rw [List.map_set]
          · rw [List.length_set, hfl]
        · have e : ¬ zs[i] = 0 := fun q => e (decide_eq_true (by rw [q]))
          rw [if_neg e] at e2
          refine ⟨_, rfl, _, rfl, _, _, rfl, rfl, p, _, _, _, rfl, rfl, lstOf hp2, atI_I (k := zs[i].toNat - 1) (by omega) (by omega), ?_⟩
          refine ⟨_, rfl, _, rfl, p, _, _, zs[i].toNat, rfl, rfl, hp2, ?_, ?_⟩
          · rw [len_I, hfl]
            unfold ixN
            rw [if_pos in1.1, if_pos (by omega)]
          · refine ⟨p2, r2, _, fr, _, rfl, s3 _, tupUpd hp2 h2, (stepR_len hr2).trans hrl, ?_, ?_, e2⟩
            · rw [upd_same]
              unfold I
              rw [List.map_set]
            · rw [List.length_set, hfl]
    · rintro σ H' ⟨c, r', fs, fr, y, rfl, sm, hc, hrl, hp1, hfl, hg⟩
      rw [len_I, List.drop_length] at hg
      exact ⟨_, rfl, hQ fs H' p hg sm hp hp1⟩
theorem ok_most (D : Df K mg "most" s_most p_most f fd)
    (D1 : Df K mg "need_machines" s_need_machines p_need_machines f1 fd1) (G1 : FnOk P w K mg base (L2N.CX P w) 1 f1 fd1 p_need_machines (sp_need_machines cR)) :
    FnOk P w K mg base (L2N.CX P w) 2 f fd p_most (sp_most cR) := by
  refine Fun.okN D.F sc_most (fun vs H Q E h => ?_) (fun cdv A outer s H vs Q E hr h => ?_)
  · obtain ⟨m, rfl, _⟩ := h
    rfl
  · obtain ⟨m, rfl, hE, hQ⟩ := h
    refine ⟨_, pss_cons (ps_expr (pe_call G1 hr (by rfl) D1.g D1.F.kp D1.b .nil (L2N.passes_call (L2N.takes_of rfl rfl rfl rfl) (fun _ _ _ _ h => h)) (pa_cons (pv 0) pa_nil)))
      (pss_one (ps_ret (pe_op op_fdiv (pe_op op_mul (pe_op op_mul pe_int (pv 0)) (pe_op op_sub (pv 0) pe_int)) pe_int))), ?_⟩
    refine ⟨_, rfl, m, rfl, hE, fun h1 h2 => ?_⟩
    have hQ := hQ h1 h2
    refine ⟨_, rfl, _, _, rfl, rfl, .inl (by decide), _, rfl, _, _, rfl, rfl, _, _, rfl, rfl, .inl (by constructor <;> omega), _, _, rfl, rfl, ⟨by decide, by decide⟩, ?_⟩
    have e : 3 * m * (m - 1) / 2 = ((most m.toNat : Nat) : Int) := by
      obtain ⟨n, rfl⟩ : ∃ n : Nat, m = (n : Int) := ⟨m.toNat, by omega⟩
      unfold most
      rw [Int.toNat_natCast, Int.natCast_ediv, Int.natCast_mul, Int.natCast_mul, Int.natCast_sub (by omega)]
      rfl
    show Q (.int (3 * m * (m - 1) / 2)) H
    rw [e]
    exact hQ
theorem ok_healed (D : Df K mg "healed" s_healed p_healed f fd) (B : Bt mg)
    (D1 : Df K mg "need_ring" s_need_ring p_need_ring f1 fd1) (G1 : FnOk P w K mg base (L2N.CX P w) 2 f1 fd1 p_need_ring (sp_need_ring K cN cR))
    (D2 : Df K mg "able_of" s_able_of p_able_of f2 fd2) (G2 : FnOk P w K mg base (L2N.CX P w) 2 f2 fd2 p_able_of (sp_able_of K)) :
    FnOk P w K mg base (L2N.CX P w) 3 f fd p_healed (sp_healed K cN cR) := by
  refine Fun.okN D.F sc_healed (fun vs H Q E h => ?_) (fun cdv A outer s H vs Q E hr h => ?_)
  · obtain ⟨a, r, m, rfl, _⟩ := h
    rfl
  · obtain ⟨a, r, m, rfl, hT, hH⟩ := h
    refine ⟨_, pss_cons (ps_expr (pe_call G1 hr (by rfl) D1.g D1.F.kp D1.b .nil (L2N.passes_call (L2N.takes_of rfl rfl rfl rfl) (fun _ _ _ _ h => h)) (pa_cons (pv 0) (pa_cons (pv 1) pa_nil))))
      (pss_one (ps_ret (pe_cmpR op_eq (pe_callB call_len_seq (by rfl) B.len PySem.boot_len (pa_cons (pe_call G2 hr (by rfl) D2.g D2.F.kp D2.b .nil passN (pa_cons (pv 0) pa_nil)) pa_nil)) pe_int (nomark _)))), ?_⟩
    refine ⟨_, rfl, _, rfl, a, r, m, rfl, hT, hH.imp fun _ _ g hQ => ?_⟩
    refine ⟨_, rfl, a, r, rfl, hT, by have := g.2.1; omega, fun H' p sm hp e => ?_⟩
    refine ⟨p, _, rfl, .inl (lstOf e), rfl, ?_⟩
    rw [len_N, dec_int]
    have q := hQ H' sm
    have e2 : decide (((able r).length : Int) = 1) = decide ((able r).length = 1) := by
      by_cases c : (able r).length = 1
      · rw [decide_eq_true c, decide_eq_true (by omega)]
      · rw [decide_eq_false c, decide_eq_false (by omega)]
    rw [e2]
    exact q
theorem ok_healing (D : Df K mg "healing" s_healing p_healing f fd) (B : Bt mg) (CN : Cl K mg "NoNumbers" cN)
    (D1 : Df K mg "need_ring" s_need_ring p_need_ring f1 fd1) (G1 : FnOk P w K mg base (L2N.CX P w) 2 f1 fd1 p_need_ring (sp_need_ring K cN cR))
    (D2 : Df K mg "most" s_most p_most f2 fd2) (G2 : FnOk P w K mg base (L2N.CX P w) 2 f2 fd2 p_most (sp_most cR))
    (D3 : Df K mg "able_of" s_able_of p_able_of f3 fd3) (G3 : FnOk P w K mg base (L2N.CX P w) 2 f3 fd3 p_able_of (sp_able_of K))
    (D4 : Df K mg "next_of" s_next_of p_next_of f4 fd4) (G4 : FnOk P w K mg base (L2N.CX P w) 3 f4 fd4 p_next_of (sp_next_of K))
    (D5 : Df K mg "moved" s_moved p_moved f5 fd5) (G5 : FnOk P w K mg base (L2N.CX P w) 1 f5 fd5 p_moved (sp_moved K)) :
    FnOk P w K mg base (L2N.CX P w) 4 f fd p_healing (sp_healing K cN cR) := by
  refine Fun.okN D.F sc_healing (fun vs H Q E h => ?_) (fun cdv A outer s H vs Q E hr h => ?_)
  · obtain ⟨a, b, r, ns, m, rfl, _⟩ := h
    rfl
  · obtain ⟨a, b, r, ns, m, rfl, hT, hN, hH⟩ := h
    refine ⟨_, pss_cons (ps_expr (pe_call G1 (hr.mono (by decide)) (by rfl) D1.g D1.F.kp D1.b .nil (L2N.passes_call (L2N.takes_of rfl rfl rfl rfl) (fun _ _ _ _ h => h)) (pa_cons (pv 0) (pa_cons (pv 1) pa_nil))))
      (pss_cons (ps_if (pt_cmpR op_lt (pv 1) (pe_callB call_len_seq (by rfl) B.len PySem.boot_len (pa_cons (pv 0) pa_nil)) (nomark _))
        (pss_one (L2N.ps_raise rfl (L2N.takes_of rfl rfl rfl rfl) (L2N.pmk_own PySem.F.excBase_ValueError CN.x CN.g CN.k (raises_own CN.b CN.t) rfl))) pss_nil)
      (pss_cons (ps_set (i := 3) sc_healing.nd rfl (.inl rfl) (pe_lst pa_nil))
      (pss_cons (ps_for (passes_of rfl) rfl (pi_range1 rfl B.range (pa_cons (pe_call G2 (hr.mono (by decide)) (by rfl) D2.g D2.F.kp D2.b .nil passN (pa_cons (pe_callB call_len_seq (by rfl) B.len PySem.boot_len (pa_cons (pv 0) pa_nil)) pa_nil)) pa_nil)) (pg_name (i := 4) sc_healing.nd rfl (.inl rfl))
        (pss_cons (ps_if (pt_cmpR op_eq (pe_callB call_len_seq (by rfl) B.len PySem.boot_len (pa_cons (pe_call G3 (hr.mono (by decide)) (by rfl) D3.g D3.F.kp D3.b .nil passN (pa_cons (pv 0) pa_nil)) pa_nil)) pe_int (nomark _)) (pss_one (ps_ret (pv 3))) pss_nil)
        (pss_cons (ps_set (i := 5) sc_healing.nd rfl (.inl rfl) (pe_call G4 (hr.mono (by decide)) (by rfl) D4.g D4.F.kp D4.b .nil passN (pa_cons (pv 0) (pa_cons (pv 2) (pa_cons (pv 4) pa_nil)))))
        (pss_cons (ps_expr (pe_bm PySem.F.plainAttrs_list PySem.F.slot_list_append PySem.F.type_list_append mt_append (pv 3) (pa_cons (pv 5) pa_nil)))
        (pss_one (ps_set (i := 0) sc_healing.nd rfl (.inl rfl) (pe_call G5 (hr.mono (by decide)) (by rfl) D5.g D5.F.kp D5.b .nil passN (pa_cons (pv 0) (pa_cons (pv 1) (pa_cons (pv 5) pa_nil))))))))))
      (pss_one (ps_ret (pv 3)))))), ?_⟩
    refine ⟨_, rfl, _, rfl, a, r, m, rfl, hT, hH.imp fun h1 _ g hS => ?_⟩
    obtain ⟨hE, hQ⟩ := hS
    have g1 := g.1
    have g2 := g.2.1
    refine ⟨_, rfl, _, rfl, a, _, rfl, .inr hT, _, _, rfl, rfl, _, rfl, ?_⟩
    rw [len_I]
    refine ite2 (fun e => ?_) (fun e => ?_)
    · exact hE (of_decide_eq_true e)
    have e : (r.length : Int) ≤ m := by
      have : ¬ m < (r.length : Int) := fun q => e (decide_eq_true q)
      omega
    have hQ := hQ e
    refine ⟨big (by show 0 ≤ 1000; omega), fun p hp => ?_⟩
    have s1 : Same H (upd H p (.lst [])) := same_upd hp
    refine ⟨_, rfl, a, _, rfl, .inr (s1.tup hT), (r.length : Int), by rw [len_I]; rfl, fun q => by omega, fun _ _ => ?_⟩
    rw [Int.toNat_natCast]
    have mb : most r.length ≤ 198 := most_le g2
    refine ⟨_, rfl, by omega, by omega, ?_⟩
    rw [Int.toNat_natCast]
    refine for_r0 (fun i σ H' => ∃ (c : Addr) (r' : List Int) (o : List Nat) (y z : Option V), σ = [some (.ref c), some (.int m), some (.ref b), some (.ref p), y, z] ∧ Same H H' ∧ SqT K H' c (I r') ∧ r'.length = r.length ∧ H' p = some (.lst (N o)) ∧ o.length ≤ i ∧
        i ≤ most r.length ∧ healA m ns [] r 0 (most r.length) = healA m ns o r' i (most r.length - i))
      ⟨a, r, [], none, none, rfl, s1, s1.tup hT, rfl, upd_same, Nat.le_refl _, Nat.zero_le _, rfl⟩ ?_ ?_
    · rintro i σ H' hi ⟨c, r', o, y, z, rfl, sm, hc, hrl, hp1, hol, hile, hh⟩
      obtain ⟨u, hu⟩ : ∃ u, most r.length - i = u + 1 := ⟨most r.length - i - 1, by omega⟩
      rw [hu, healA_succ] at hh
      refine ⟨_, rfl, c, r', rfl, hc, by omega, fun H2 q2 s2 hq2 e2 => ?_⟩
      refine ⟨q2, _, rfl, .inl (lstOf e2), rfl, _, rfl, ?_⟩
      rw [len_N]
      have hp2 := s2 _ _ hp1
      refine ite2 (fun ee => ?_) (fun ee => ?_)
      · have ee := V.int.inj (of_decide_eq_true ee)
        rw [if_pos (by omega)] at hh
        refine ⟨_, rfl, hQ H2 p (sm.trans s2) hp ?_⟩
        rw [hh]
        exact hp2
      · have ee : ¬ (able r').length = 1 := fun q => ee (decide_eq_true (by rw [q]; rfl))
        rw [if_neg ee] at hh
        refine ⟨_, rfl, _, rfl, _, rfl, c, b, r', ns, i, rfl, s2.tup hc, (sm.trans s2).seq hN, by omega, by omega, fun H3 s3 => ?_⟩
        have hp3 := s3 _ _ hp2
        refine ⟨_, rfl, .inl ⟨rfl, _, lstOf hp3⟩, _, rfl, p, _, _, rfl, rfl, hp3, small1000 (by rw [len_N]; omega), ?_⟩
        have hc3 : SqT K (upd H3 p (.lst (N o ++ [V.int ((nextOf r' ns i : Nat) : Int)]))) c (I r') := tupUpd hp3 ((s2.trans s3).tup hc)
        refine ⟨_, rfl, _, rfl, _, rfl, c, r', m, _, rfl, hc3, nextOf_lt i (by omega), by omega, by omega, fun H4 p4 s4 h4 => ?_⟩
        refine ⟨p4, _, o ++ [nextOf r' ns i], _, _, rfl, fun b o e => s4 _ _ ?_, h4, (moved_len _ _ _).trans hrl, ?_, ?_, by omega, ?_⟩
        · rw [upd_ne (ne_of_none e hp)]
          exact s3 _ _ (s2 _ _ (sm _ _ e))
        · rw [s4 _ _ upd_same]
          unfold N
          rw [List.map_append]
          rfl
        · rw [List.length_append]
          show o.length + 1 ≤ i + 1
          omega
        · rw [hh, show most r.length - (i + 1) = u by omega]
    · rintro σ H' ⟨c, r', o, y, z, rfl, sm, hc, hrl, hp1, hol, hile, hh⟩
      rw [Nat.sub_self, healA_zero] at hh
      refine ⟨_, rfl, hQ H' p sm hp ?_⟩
      rw [hh]
      exact hp1
theorem ok_turns (D : Df K mg "turns" s_turns p_turns f fd) (B : Bt mg) (CH : Cl K mg "NotHealed" cH)
    (D1 : Df K mg "need_ring" s_need_ring p_need_ring f1 fd1) (G1 : FnOk P w K mg base (L2N.CX P w) 2 f1 fd1 p_need_ring (sp_need_ring K cN cR))
    (D2 : Df K mg "able_of" s_able_of p_able_of f2 fd2) (G2 : FnOk P w K mg base (L2N.CX P w) 2 f2 fd2 p_able_of (sp_able_of K)) :
    FnOk P w K mg base (L2N.CX P w) 3 f fd p_turns (sp_turns K cN cR cH) := by
  refine Fun.okN D.F sc_turns (fun vs H Q E h => ?_) (fun cdv A outer s H vs Q E hr h => ?_)
  · obtain ⟨a, r, m, rfl, _⟩ := h
    rfl
  · obtain ⟨a, r, m, rfl, hT, hH⟩ := h
    refine ⟨_, pss_cons (ps_expr (pe_call G1 hr (by rfl) D1.g D1.F.kp D1.b .nil (L2N.passes_call (L2N.takes_of rfl rfl rfl rfl) (fun _ _ _ _ h => h)) (pa_cons (pv 0) (pa_cons (pv 1) pa_nil))))
      (pss_cons (ps_set (i := 2) sc_turns.nd rfl (.inl rfl) (pe_call G2 hr (by rfl) D2.g D2.F.kp D2.b .nil passN (pa_cons (pv 0) pa_nil)))
      (pss_cons (ps_if (pt_cmpR op_ne (pe_callB call_len_seq (by rfl) B.len PySem.boot_len (pa_cons (pv 2) pa_nil)) pe_int (nomark _))
        (pss_one (L2N.ps_raise rfl (L2N.takes_of rfl rfl rfl rfl) (L2N.pmk_own PySem.F.excBase_ValueError CH.x CH.g CH.k (raises_own CH.b CH.t) rfl))) pss_nil)
      (pss_one (ps_ret (pe_op op_cat (pe_listRg rfl (by rfl) B.list (prg_2 (by rfl) B.range (pe_ix ix_list (pv 2) pe_int (fun _ _ => rfl)) (pe_callB call_len_seq (by rfl) B.len PySem.boot_len (pa_cons (pv 0) pa_nil))))
        (pe_listRg rfl (by rfl) B.list (prg_1 (by rfl) B.range (pe_ix ix_list (pv 2) pe_int (fun _ _ => rfl))))))))), ?_⟩
    refine ⟨_, rfl, _, rfl, a, r, m, rfl, hT, hH.imp fun _ _ g hS => ?_⟩
    obtain ⟨hE, hQ⟩ := hS
    have g1 := g.1
    have g2 := g.2.1
    refine ⟨_, rfl, a, r, rfl, hT, by omega, fun H1 p s1 hp e1 => ?_⟩
    refine ⟨_, rfl, p, _, rfl, .inl (lstOf e1), rfl, _, rfl, ?_⟩
    rw [len_N]
    by_cases c : (able r).length = 1
    · obtain ⟨k, hk⟩ : ∃ k, able r = [k] := by
        cases q : able r with
        | nil => rw [q] at c; cases c
        | cons x l =>
          rw [q] at c
          cases l with
          | nil => exact ⟨x, rfl⟩
          | cons _ _ => simp at c
      have hkr : k < r.length := (mem_able.mp (by rw [hk]; simp)).1
      refine iteNS (by rw [c]; rfl) ?_
      rw [hk] at e1
      have at1 : atI (N [k]) 0 = some (.int (k : Int)) := atI_nat (j := 0) rfl
      refine ⟨_, rfl, p, _, 0, _, rfl, rfl, lstOf e1, at1, _, rfl, a, _, rfl, .inr (s1.tup hT), _, _, rfl, rfl, ?_⟩
      rw [len_I]
      refine ⟨RgOk.of_le (by omega) (by omega) (by omega) (by omega), fun q1 hq1 => ?_⟩
      have e2 : (upd H1 q1 (.lst (rgV (k : Int) (r.length : Int)))) p = some (.lst (N [k])) := (same_upd hq1) _ _ e1
      refine ⟨_, rfl, p, _, 0, _, rfl, rfl, lstOf e2, at1, _, rfl, RgOk.of_le (by omega) (by omega) (by omega) (by omega), fun q2 hq2 => ?_⟩
      have s3 := (same_upd (o := .lst (rgV (k : Int) (r.length : Int))) hq1).trans (same_upd (o := .lst (rgV 0 (k : Int))) hq2)
      refine ⟨q1, q2, _, _, rfl, rfl, (same_upd hq2) _ _ upd_same, upd_same, big ?_, fun q3 hq3 => ?_⟩
      · rw [rgV_length, rgV_length]
        omega
      · refine hQ k hk _ q3 (s1.trans (s3.trans (same_upd hq3))) (s1.free (s3.free hq3)) ?_
        rw [upd_same, rg_round (by omega)]
    · have c2 : ¬ (V.int ((able r).length : Int) = V.int 1) := fun q => c (by have := V.int.inj q; omega)
      rw [decide_eq_false c2]
      exact hE c H1 s1
theorem ok_law_cell_at (D : Df K mg "_law_cell_at" s_law_cell_at p_law_cell_at f fd) (B : Bt mg) : FnOk P w K mg base (L2N.CX P w) 1 f fd p_law_cell_at (sp_law_cell_at K) := by
  refine Fun.okN D.F sc_law_cell_at (fun vs H Q E h => ?_) (fun cdv A outer s H vs Q E hr h => ?_)
  · obtain ⟨a, ns, k, rfl, _⟩ := h
    rfl
  · obtain ⟨a, ns, k, rfl, hS, hQ⟩ := h
    refine ⟨_, pss_cons (ps_if (pt_cmpR op_lt (pv 1) (pe_callB call_len_seq (by rfl) B.len PySem.boot_len (pa_cons (pv 0) pa_nil)) (nomark _))
        (pss_one (ps_ret (pe_ix ix_list (pv 0) (pv 1) (fun _ _ => rfl)))) pss_nil)
      (pss_one (ps_ret pe_int)), ?_⟩
    refine ⟨_, rfl, _, rfl, a, _, rfl, .inl hS, _, _, rfl, rfl, _, rfl, ?_⟩
    rw [len_I]
    refine ite2 (fun e => ?_) (fun e => ?_)
    · have e := of_decide_eq_true e
      exact ⟨_, rfl, _, rfl, a, _, _, _, rfl, rfl, hS, atI_I rfl (by omega), hQ⟩
    · have e : ¬ (k : Int) < (ns.length : Int) := fun q => e (decide_eq_true q)
      have z : at0 ns k = 0 := by
        unfold at0
        rw [List.getD_eq_getElem?_getD, List.getElem?_eq_none (by omega)]
        rfl
      rw [z] at hQ
      exact hQ
theorem ok_law_mixed (D : Df K mg "_law_mixed" s_law_mixed p_law_mixed f fd) : FnOk P w K mg base (L2N.CX P w) 1 f fd p_law_mixed sp_law_mixed := by
  refine Fun.okN D.F sc_law_mixed (fun vs H Q E h => ?_) (fun cdv A outer s H vs Q E hr h => ?_)
  · obtain ⟨c, k, rfl, _⟩ := h
    rfl
  · obtain ⟨c, k, rfl, hQ⟩ := h
    refine ⟨_, pss_cons (ps_set (i := 2) sc_law_mixed.nd rfl (.inl rfl) (pe_op op_mod (pe_op op_mul (pe_op op_add (pe_op op_mod (pv 0) pe_int) pe_int) (pe_op op_add (pe_op op_mul (pv 1) pe_int) pe_int)) pe_int))
      (pss_cons (ps_set (i := 3) sc_law_mixed.nd rfl (.inl rfl) (pe_op op_mod (pe_op op_add (pe_op op_add (pe_op op_mul (pv 2) (pv 2)) (pe_op op_mul (pv 1) pe_int)) (pe_op op_fdiv (pv 0) pe_int)) pe_int))
      (pss_one (ps_ret (pe_op op_mod (pe_op op_mul (pv 3) (pv 3)) pe_int)))), ?_⟩
    have p0 : (0 : Int) < 1000003 := by decide
    have b1 := Int.emod_nonneg c (show (1000003 : Int) ≠ 0 by decide)
    have b2 := Int.emod_lt_of_pos c p0
    refine ⟨_, rfl, _, _, rfl, rfl, p0, _, _, rfl, rfl, _, rfl, _, _, rfl, rfl, .inr ⟨by decide, by decide⟩, _, _, rfl, rfl, _, _, rfl, rfl, .inl ⟨by omega, by omega⟩, _, _, rfl, rfl, p0, ?_⟩
    have a1 := Int.emod_nonneg ((c % 1000003 + 1) * (k * 48271 + 11)) (show (1000003 : Int) ≠ 0 by decide)
    have a2 := Int.emod_lt_of_pos ((c % 1000003 + 1) * (k * 48271 + 11)) p0
    refine ⟨_, rfl, _, rfl, _, _, rfl, rfl, .inl ⟨by omega, by omega⟩, _, rfl, _, _, rfl, rfl, .inr ⟨by decide, by decide⟩, _, _, rfl, rfl, _, rfl, _, _, rfl, rfl, ⟨by decide, by decide⟩, _, _, rfl, rfl, _, _, rfl, rfl, p0, ?_⟩
    obtain ⟨y, hy⟩ : ∃ y, y = (mixed1 c k * mixed1 c k + k * 7919 + c / 1000003) % 1000003 := ⟨_, rfl⟩
    have c1 := Int.emod_nonneg (mixed1 c k * mixed1 c k + k * 7919 + c / 1000003) (show (1000003 : Int) ≠ 0 by decide)
    have c2 := Int.emod_lt_of_pos (mixed1 c k * mixed1 c k + k * 7919 + c / 1000003) p0
    exact ⟨_, rfl, _, rfl, _, _, rfl, rfl, .inl ⟨Int.lt_of_lt_of_le (by decide) c1, Int.lt_trans c2 (by decide)⟩, _, _, rfl, rfl, p0, hQ⟩
theorem ok_law_size (D : Df K mg "_law_size" s_law_size p_law_size f fd) (B : Bt mg)
    (D1 : Df K mg "_law_cell_at" s_law_cell_at p_law_cell_at f1 fd1) (G1 : FnOk P w K mg base (L2N.CX P w) 1 f1 fd1 p_law_cell_at (sp_law_cell_at K)) :
    FnOk P w K mg base (L2N.CX P w) 2 f fd p_law_size (sp_law_size K) := by
  refine Fun.okN D.F sc_law_size (fun vs H Q E h => ?_) (fun cdv A outer s H vs Q E hr h => ?_)
  · obtain ⟨a, ns, rfl, _⟩ := h
    rfl
  · obtain ⟨a, ns, rfl, hS, hQ⟩ := h
    refine ⟨_, pss_one (ps_ret (pe_op op_add pe_int (pe_op op_mod (pe_call G1 hr (by rfl) D1.g D1.F.kp D1.b .nil passN (pa_cons (pv 0) (pa_cons pe_int pa_nil)))
      (pe_op op_add pe_int (pe_op op_mul pe_int (pe_callTy call_int1 (by rfl) B.int (by decide +kernel) (pa_cons (pe_cmpR op_eq (pe_op op_mod (pe_op op_fdiv (pe_call G1 hr (by rfl) D1.g D1.F.kp D1.b .nil passN (pa_cons (pv 0) (pa_cons pe_int pa_nil))) pe_int) pe_int) pe_int (nomark _)) pa_nil))))))), ?_⟩
    refine ⟨_, rfl, a, ns, 0, rfl, hS, _, rfl, a, ns, 0, rfl, hS, _, _, rfl, rfl, ⟨by decide, by decide⟩, _, _, rfl, rfl, (by show (0 : Int) < 6; decide), rfl, ?_⟩
    refine .inr ⟨_, rfl, _, _, rfl, rfl, .inl ⟨by decide, by decide⟩, _, _, rfl, rfl, _, _, rfl, rfl, ?_, _, _, rfl, rfl, ?_⟩
    · show (0 : Int) < 6 + 5 * _
      split <;> omega
    · have e := (sizeI_is ns).1
      unfold sizeI at e
      rw [dec_int]
      have e2 : (if decide (at0 ns 0 / 1009 % 6 = 1) = true then (1 : Int) else 0) = if at0 ns 0 / 1009 % 6 = 1 then 1 else 0 := by
        by_cases c : at0 ns 0 / 1009 % 6 = 1
        · rw [decide_eq_true c, if_pos rfl, if_pos c]
        · rw [decide_eq_false c, if_neg Bool.false_ne_true, if_neg c]
      rw [e2]
      show Q (.int (2 + at0 ns 0 % (6 + 5 * (if at0 ns 0 / 1009 % 6 = 1 then 1 else 0)))) H
      rw [e]
      exact hQ
theorem ok_law_many (D : Df K mg "_law_many" s_law_many p_law_many f fd) (B : Bt mg)
    (D1 : Df K mg "_law_cell_at" s_law_cell_at p_law_cell_at f1 fd1) (G1 : FnOk P w K mg base (L2N.CX P w) 1 f1 fd1 p_law_cell_at (sp_law_cell_at K)) :
    FnOk P w K mg base (L2N.CX P w) 2 f fd p_law_many (sp_law_many K) := by
  refine Fun.okN D.F sc_law_many (fun vs H Q E h => ?_) (fun cdv A outer s H vs Q E hr h => ?_)
  · obtain ⟨a, ns, n, rfl, _⟩ := h
    rfl
  · obtain ⟨a, ns, n, rfl, hS, hQ⟩ := h
    refine ⟨_, pss_cons (ps_set (i := 2) sc_law_many.nd rfl (.inl rfl) (pe_call G1 hr (by rfl) D1.g D1.F.kp D1.b .nil passN (pa_cons (pv 0) (pa_cons pe_int pa_nil))))
      (pss_one (ps_ret (pe_ix ix_list (pe_lst (pa_cons (pe_op op_add (pv 1) (pe_op op_mod (pe_op op_fdiv (pv 2) pe_int) pe_int)) (pa_cons (pe_op op_add pe_int (pe_op op_mod (pe_op op_fdiv (pv 2) pe_int) pe_int)) (pa_cons (pv 1)
        (pa_cons (pe_callB (call_max2 rfl) (by rfl) B.max (by decide +kernel) (pa_cons pe_int (pa_cons (pe_op op_sub (pv 1) pe_int) pa_nil))) (pa_cons (pe_op op_add pe_int (pe_op op_mod (pe_op op_fdiv (pv 2) pe_int) pe_int)) pa_nil))))))
        (pe_op op_mod (pv 2) pe_int) (fun _ _ => rfl)))), ?_⟩
    refine ⟨_, rfl, a, ns, 1, rfl, hS, ?_⟩
    have p5 : (0 : Int) < 5 := by decide
    refine ⟨_, rfl, _, rfl, _, _, rfl, rfl, ⟨by decide, by decide⟩, _, _, rfl, rfl, (by show (0 : Int) < 4; decide), _, _, rfl, rfl, ?_⟩
    refine ⟨_, rfl, _, _, rfl, rfl, ⟨by decide, by decide⟩, _, _, rfl, rfl, (by show (0 : Int) < 99; decide), _, _, rfl, rfl, _, rfl, _, rfl, _, _, rfl, rfl, _, _, rfl, ?_⟩
    refine ⟨_, rfl, _, _, rfl, rfl, ⟨by decide, by decide⟩, _, _, rfl, rfl, (by show (0 : Int) < 3; decide), _, _, rfl, rfl, big (by show 5 ≤ 1000; decide), fun p hp => ?_⟩
    have b1 := Int.emod_nonneg (at0 ns 1) (show (5 : Int) ≠ 0 by decide)
    have b2 := Int.emod_lt_of_pos (at0 ns 1) p5
    refine ⟨_, rfl, _, _, rfl, rfl, p5, p, _, _, _, rfl, rfl, lstOf upd_same, atI_I (r := [n + at0 ns 1 / 5 % 4, 2 + at0 ns 1 / 5 % 99, n, maxI 2 (n - 1), 2 + at0 ns 1 / 5 % 3]) (k := (at0 ns 1 % 5).toNat) (by omega) (by show _ < 5; omega), ?_⟩
    exact hQ _ (same_upd hp)
theorem ok_law_ring (D : Df K mg "_law_ring" s_law_ring p_law_ring f fd) (B : Bt mg)
    (D1 : Df K mg "_law_cell_at" s_law_cell_at p_law_cell_at f1 fd1) (G1 : FnOk P w K mg base (L2N.CX P w) 1 f1 fd1 p_law_cell_at (sp_law_cell_at K))
    (D2 : Df K mg "_law_mixed" s_law_mixed p_law_mixed f2 fd2) (G2 : FnOk P w K mg base (L2N.CX P w) 1 f2 fd2 p_law_mixed sp_law_mixed) :
    FnOk P w K mg base (L2N.CX P w) 2 f fd p_law_ring (sp_law_ring K) := by
  refine Fun.okN D.F sc_law_ring (fun vs H Q E h => ?_) (fun cdv A outer s H vs Q E hr h => ?_)
  · obtain ⟨a, ns, n, m, rfl, _⟩ := h
    rfl
  · obtain ⟨a, ns, n, m, rfl, hS, hn2, hn12, hm2, hm100, hQ⟩ := h
    refine ⟨_, pss_cons (ps_set (i := 3) sc_law_ring.nd rfl (.inr rfl) (pe_call G1 hr (by rfl) D1.g D1.F.kp D1.b .nil passN (pa_cons (pv 0) (pa_cons pe_int pa_nil))))
      (pss_cons (ps_set (i := 4) sc_law_ring.nd rfl (.inl rfl) (pe_op op_mod (pv 3) pe_int))
      (pss_cons (ps_if (pt_cmpR op_eq (pv 4) pe_int (nomark _))
        (pss_one (ps_ret (pe_callTy call_tuple_of (by rfl) B.tuple (by decide +kernel) (pa_cons (pe_lc (own := [("_law_k", 5)]) (g := gName 5) (tt := tYes) rfl sc_law_ring.nd (pi_range1 rfl B.range (pa_cons (pv 1) pa_nil))
          (blkOk_by (N := n_law_ring) (sc := defScope s_law_ring) (by decide +kernel)) (fun _ _ _ _ _ => pg_name (i := 5) sc_law_ring.nd rfl (Or.inl rfl)) (fun _ _ _ _ _ => pts_nil)
          (fun _ _ _ _ _ => pe_op op_mod (pe_call G1 hr (by rfl) D1.g D1.F.kp D1.b .nil passN (pa_cons (pv 0) (pa_cons (pe_op op_add pe_int (pv 5)) pa_nil))) (pv 2))) pa_nil)))) pss_nil)
      (pss_cons (ps_if (pt_cmpR op_eq (pv 4) pe_int (nomark _))
        (pss_one (ps_ret (pe_callTy call_tuple_of (by rfl) B.tuple (by decide +kernel) (pa_cons (pe_lc (own := [("_law_k", 5)]) (g := gName 5) (tt := tYes) rfl sc_law_ring.nd (pi_range1 rfl B.range (pa_cons (pv 1) pa_nil))
          (blkOk_by (N := n_law_ring) (sc := defScope s_law_ring) (by decide +kernel)) (fun _ _ _ _ _ => pg_name (i := 5) sc_law_ring.nd rfl (Or.inl rfl)) (fun _ _ _ _ _ => pts_nil)
          (fun _ _ _ _ _ => pe_op op_mod (pe_call G2 hr (by rfl) D2.g D2.F.kp D2.b .nil passN (pa_cons (pv 3) (pa_cons (pv 5) pa_nil))) (pe_callB (call_min2 rfl) (by rfl) B.min (by decide +kernel) (pa_cons (pv 2) (pa_cons (pe_op op_add pe_int (pe_op op_mod (pe_op op_fdiv (pv 3) pe_int) pe_int)) pa_nil))))) pa_nil)))) pss_nil)
      (pss_cons (ps_if (pt_cmpR op_eq (pv 4) pe_int (nomark _))
        (pss_cons (ps_set (i := 6) sc_law_ring.nd rfl (.inl rfl) (pe_op op_mod (pe_op op_fdiv (pv 3) pe_int) (pe_op op_add (pv 1) pe_int)))
        (pss_cons (ps_set (i := 7) sc_law_ring.nd rfl (.inl rfl) (pe_op op_mod (pe_op op_fdiv (pv 3) pe_int) (pv 2)))
        (pss_one (ps_ret (pe_op op_catS (pe_op op_repS (pe_tup (pa_cons (pv 7) pa_nil)) (pv 6)) (pe_op op_repS (pe_tup (pa_cons (pe_op op_mod (pe_op op_fdiv (pv 3) pe_int) (pv 2)) pa_nil)) (pe_op op_sub (pv 1) (pv 6)))))))) pss_nil)
      (pss_cons (ps_if (pt_cmpR op_eq (pv 4) pe_int (nomark _))
        (pss_one (ps_ret (pe_callTy call_tuple_of (by rfl) B.tuple (by decide +kernel) (pa_cons (pe_lc (own := [("_law_k", 5)]) (g := gName 5) (tt := tYes) rfl sc_law_ring.nd (pi_range1 rfl B.range (pa_cons (pv 1) pa_nil))
          (blkOk_by (N := n_law_ring) (sc := defScope s_law_ring) (by decide +kernel)) (fun _ _ _ _ _ => pg_name (i := 5) sc_law_ring.nd rfl (Or.inl rfl)) (fun _ _ _ _ _ => pts_nil)
          (fun _ _ _ _ _ => pe_op op_mod (pe_op op_add (pe_op op_fdiv (pv 3) pe_int) (pe_op op_mul (pv 5) (pe_op op_add pe_int (pe_op op_mod (pe_op op_fdiv (pv 3) pe_int) pe_int)))) (pv 2))) pa_nil)))) pss_nil)
      (pss_one (ps_ret (pe_callTy call_tuple_of (by rfl) B.tuple (by decide +kernel) (pa_cons (pe_lc (own := [("_law_k", 5)]) (g := gName 5) (tt := tYes) rfl sc_law_ring.nd (pi_range1 rfl B.range (pa_cons (pv 1) pa_nil))
          (blkOk_by (N := n_law_ring) (sc := defScope s_law_ring) (by decide +kernel)) (fun _ _ _ _ _ => pg_name (i := 5) sc_law_ring.nd rfl (Or.inl rfl)) (fun _ _ _ _ _ => pts_nil)
          (fun _ _ _ _ _ => pe_op op_mod (pe_call G2 hr (by rfl) D2.g D2.F.kp D2.b .nil passN (pa_cons (pv 3) (pa_cons (pv 5) pa_nil))) (pv 2))) pa_nil))))))))), ?_⟩
    obtain ⟨c, hc⟩ : ∃ c, c = at0 ns 2 := ⟨_, rfl⟩
    refine ⟨_, rfl, a, ns, 2, rfl, hS, ?_⟩
    rw [← hc]
    refine ⟨_, rfl, _, _, rfl, rfl, (by show (0 : Int) < 5; decide), ?_⟩
    have hmod : ∀ x : Int, 0 ≤ x % m ∧ x % m < m := fun x => ⟨Int.emod_nonneg _ (by omega), Int.emod_lt_of_pos _ (by omega)⟩
    obtain ⟨R, hR⟩ : ∃ R, R = ringF ns n m := ⟨_, rfl⟩
    rw [← hR] at hQ
    have rf := hR
    unfold ringF at rf
    rw [← hc] at rf
    have fin : ∀ g : Nat → Int, R = runs n g → ∀ H1 D, H D = none → Same H H1 → H1 D = some (.lst ((List.range n).map fun k => V.int (g k))) →
        ∃ p ys, [V.ref D] = [V.ref p] ∧ ((SqL K H1 p ys ∧ ∀ l, H1 l = none → Q (.ref l) (upd H1 l (.tup ys))) ∨ (SqT K H1 p ys ∧ Q (.ref p) H1)) := fun g eg H1 D hD sm e => by
      refine ⟨D, _, rfl, .inl ⟨lstOf e, fun l hl => hQ _ l (sm.trans (same_upd hl)) (tupOf ?_)⟩⟩
      rw [upd_same, eg]
      unfold runs I
      rw [List.map_map]
      rfl
    refine ⟨_, rfl, rfl, _, rfl, ite2 (fun e => ?_) (fun e => ?_)⟩
    · have e := V.int.inj (of_decide_eq_true e)
      rw [if_pos e] at rf
      refine ⟨_, rfl, (n : Int), rfl, by omega, by omega, fun D hD => ?_⟩
      rw [Int.toNat_natCast]
      refine lc_m0 (fun k => V.int (at0 ns (4 + k) % m)) hD (by omega) (fun i H1 hi sm Z hz => ?_) fun H1 sm e => fin _ rf H1 D hD sm e
      exact ⟨rfl, ⟨_, rfl, _, rfl, _, _, rfl, rfl, a, ns, 4 + i, (by rw [Int.natCast_add]; rfl), sm.seq hS, _, rfl, _, _, rfl, rfl, by omega, hz H1 (Same.refl _)⟩⟩
    have e : ¬ c % 5 = 0 := fun q => e (decide_eq_true (by show V.int (c % 5) = V.int 0; rw [q]))
    rw [if_neg e] at rf
    refine ⟨_, rfl, rfl, _, rfl, ite2 (fun e => ?_) (fun e => ?_)⟩
    · have e := V.int.inj (of_decide_eq_true e)
      rw [if_pos e] at rf
      refine ⟨_, rfl, (n : Int), rfl, by omega, by omega, fun D hD => ?_⟩
      rw [Int.toNat_natCast]
      refine lc_m0 (fun k => V.int (mixed c k % minI m (2 + c / 5 % 3))) hD (by omega) (fun i H1 hi sm Z hz => ?_) fun H1 sm e => fin _ rf H1 D hD sm e
      have pos : 0 < minI m (2 + c / 5 % 3) := by
        unfold minI
        split <;> omega
      exact ⟨rfl, ⟨_, rfl, _, rfl, _, _, rfl, _, rfl, _, rfl, _, _, rfl, rfl, ⟨by decide, by decide⟩, _, _, rfl, rfl, (by show (0 : Int) < 3; decide), _, _, rfl, rfl, _, _, rfl, _, _, rfl, rfl, pos, hz H1 (Same.refl _)⟩⟩
    have e : ¬ c % 5 = 1 := fun q => e (decide_eq_true (by show V.int (c % 5) = V.int 1; rw [q]))
    rw [if_neg e] at rf
    refine ⟨_, rfl, rfl, _, rfl, ite2 (fun e => ?_) (fun e => ?_)⟩
    · have e := V.int.inj (of_decide_eq_true e)
      rw [if_pos e] at rf
      have b1 := Int.emod_nonneg (c / 5) (show (n : Int) + 1 ≠ 0 by omega)
      have b2 := Int.emod_lt_of_pos (c / 5) (show (0 : Int) < (n : Int) + 1 by omega)
      obtain ⟨i, hi⟩ : ∃ i : Nat, c / 5 % ((n : Int) + 1) = (i : Int) := ⟨(c / 5 % ((n : Int) + 1)).toNat, by omega⟩
      rw [hi, Int.toNat_natCast] at rf
      refine ⟨_, rfl, _, _, rfl, rfl, ⟨by decide, by decide⟩, _, rfl, _, _, rfl, rfl, _, _, rfl, rfl, (by show (0 : Int) < (n : Int) + 1; omega), ?_⟩
      refine ⟨_, rfl, _, _, rfl, rfl, ⟨by decide, by decide⟩, _, rfl, _, _, rfl, rfl, (by show (0 : Int) < m; omega), ?_⟩
      refine ⟨_, rfl, big (by show 1 ≤ 1000; decide), fun p1 hp1 => ?_⟩
      refine ⟨_, rfl, p1, i, _, rfl, ?_, tupOf upd_same, by simp, by omega, (by show 1 ≤ 1000; decide), fun q1 H1 s1 h1 => ?_⟩
      · show V.int (c / 5 % ((n : Int) + 1)) = V.int (i : Int)
        rw [hi]
      refine ⟨_, rfl, _, _, rfl, rfl, ⟨by decide, by decide⟩, _, rfl, _, _, rfl, rfl, (by show (0 : Int) < m; omega), big (by show 1 ≤ 1000; decide), fun p2 hp2 => ?_⟩
      refine ⟨_, rfl, _, rfl, _, _, rfl, rfl, p2, n - i, _, rfl, ?_, tupOf upd_same, by simp, by omega, (by show 1 ≤ 1000; decide), fun q2 H2 s2 h2 => ?_⟩
      · show V.int ((n : Int) - c / 5 % ((n : Int) + 1)) = V.int ((n - i : Nat) : Int)
        rw [hi]
        congr 1
        omega
      have fl : ∀ (k : Nat) (x : Int), (List.replicate k [V.int x]).flatten = I (List.replicate k x) := fun k x => by
        induction k with
        | zero => rfl
        | succ k ih =>
          rw [List.replicate_succ, List.flatten_cons, ih, List.replicate_succ]
          rfl
      rw [fl] at h1 h2
      refine ⟨q1, q2, _, _, rfl, rfl, s2.tup ((same_upd hp2).tup h1), h2, big ?_, fun p H' s3 h3 => ?_⟩
      · rw [len_I, len_I, List.length_replicate, List.length_replicate]
        omega
      · refine hQ H' p ((same_upd hp1).trans (s1.trans ((same_upd hp2).trans (s2.trans s3)))) ?_
        rw [rf]
        unfold I at h3 ⊢
        rw [List.map_append]
        exact h3
    have e : ¬ c % 5 = 2 := fun q => e (decide_eq_true (by show V.int (c % 5) = V.int 2; rw [q]))
    rw [if_neg e] at rf
    refine ⟨_, rfl, rfl, _, rfl, ite2 (fun e => ?_) (fun e => ?_)⟩
    · have e := V.int.inj (of_decide_eq_true e)
      rw [if_pos e] at rf
      refine ⟨_, rfl, (n : Int), rfl, by omega, by omega, fun D hD => ?_⟩
      rw [Int.toNat_natCast]
      refine lc_m0 (fun k => V.int ((c / 5 + (k : Int) * (1 + c / 500 % 3)) % m)) hD (by omega) (fun i H1 hi sm Z hz => ?_) fun H1 sm e => fin _ rf H1 D hD sm e
      exact ⟨rfl, ⟨_, rfl, _, _, rfl, rfl, ⟨by decide, by decide⟩, _, rfl, _, rfl, _, _, rfl, rfl, ⟨by decide, by decide⟩, _, _, rfl, rfl, (by show (0 : Int) < 3; decide), _, _, rfl, rfl, _, _, rfl, rfl, .inl ⟨by omega, by omega⟩, _, _, rfl, rfl, _, rfl, _, _, rfl, rfl, (by show (0 : Int) < m; omega), hz H1 (Same.refl _)⟩⟩
    have e : ¬ c % 5 = 3 := fun q => e (decide_eq_true (by show V.int (c % 5) = V.int 3; rw [q]))
    rw [if_neg e] at rf
    refine ⟨_, rfl, (n : Int), rfl, by omega, by omega, fun D hD => ?_⟩
    rw [Int.toNat_natCast]
    refine lc_m0 (fun k => V.int (mixed c k % m)) hD (by omega) (fun i H1 hi sm Z hz => ?_) fun H1 sm e => fin _ rf H1 D hD sm e
    exact ⟨rfl, ⟨_, rfl, _, rfl, _, _, rfl, _, rfl, _, _, rfl, rfl, (by show (0 : Int) < m; omega), hz H1 (Same.refl _)⟩⟩
theorem ok_law_able (D : Df K mg "_law_able" s_law_able p_law_able f fd) (B : Bt mg) : FnOk P w K mg base (L2N.CX P w) 1 f fd p_law_able (sp_law_able K) := by
  refine Fun.okN D.F sc_law_able (fun vs H Q E h => ?_) (fun cdv A outer s H vs Q E hr h => ?_)
  · obtain ⟨a, r, rfl, _⟩ := h
    rfl
  · obtain ⟨a, r, rfl, hS, hl, hQ⟩ := h
    refine ⟨_, pss_cons (ps_set (i := 1) sc_law_able.nd rfl (.inl rfl) (pe_lst pa_nil))
      (pss_cons (ps_for (passes_of rfl) rfl (pi_range1 rfl B.range (pa_cons (pe_callB call_len_seq (by rfl) B.len PySem.boot_len (pa_cons (pv 0) pa_nil)) pa_nil)) (pg_name (i := 2) sc_law_able.nd rfl (.inl rfl))
        (pss_one (ps_if (PW.pt (pw_or (PW.pt (pw_and (pt_cmpR op_eq (pv 2) pe_int (nomark _)) (pw_and1 (pt_cmpR op_eq (pe_ix ix_sq (pv 0) pe_int (fun _ _ => rfl)) (pe_ix ix_sq (pv 0) (pe_un un_neg pe_int) (fun _ _ => rfl)) (nomark _)))))
            (pw_or1 (PW.pt (pw_and (pt_cmpR op_gt (pv 2) pe_int (nomark _)) (pw_and1 (pt_cmpR op_ne (pe_ix ix_sq (pv 0) (pv 2) (fun _ _ => rfl)) (pe_ix ix_sq (pv 0) (pe_op op_sub (pv 2) pe_int) (fun _ _ => rfl)) (nomark _))))))))
          (pss_one (ps_expr (pe_bm PySem.F.plainAttrs_list PySem.F.slot_list_append PySem.F.type_list_append mt_append (pv 1) (pa_cons (pv 2) pa_nil)))) pss_nil)))
      (pss_one (ps_ret (pv 1)))), ?_⟩
    refine ⟨big (by show 0 ≤ 1000; decide), fun p hp => ?_⟩
    have s1 : Same H (upd H p (.lst [])) := same_upd hp
    have hS1 : Sq K (upd H p (.lst [])) a (I r) := hS.same s1
    refine ⟨_, rfl, a, _, rfl, hS1, _, rfl, by omega, by rw [len_I]; omega, ?_⟩
    rw [len_I, Int.toNat_natCast]
    refine for_r0 (fun i σ H' => ∃ y : Option V, σ = [some (.ref a), some (.ref p), y] ∧ Same H H' ∧ H' p = some (.lst (N ((List.range i).filter (may r))))) ⟨none, rfl, s1, upd_same⟩ ?_ ?_
    · rintro i σ H' hi ⟨y, rfl, sm, hp1⟩
      have hS2 := hS.same sm
      have yes : may r i = true → ∃ x, [some (V.ref a), some (V.ref p), some (V.int (i : Int))][1]? = some (some x) ∧ tyV K "list" x H' ∧ ∃ x1, [some (V.ref a), some (V.ref p), some (V.int (i : Int))][2]? = some (some x1) ∧ ∃ l xs, ∃ y, x = V.ref l ∧ [x1] = [y] ∧ H' l = some (HO.lst xs) ∧ xs.length < sizeLine ∧
          ∃ z : Option V, [some (V.ref a), some (V.ref p), some (V.int (i : Int))] = [some (.ref a), some (.ref p), z] ∧ Same H (upd H' l (.lst (xs ++ [y]))) ∧ (upd H' l (.lst (xs ++ [y]))) p = some (.lst (N ((List.range (i + 1)).filter (may r)))) := fun hm => by
        refine ⟨_, rfl, .inl ⟨rfl, _, lstOf hp1⟩, _, rfl, p, _, _, rfl, rfl, hp1, small1000 ?_, _, rfl, fun b o e => ?_, ?_⟩
        · rw [len_N]
          exact Nat.le_trans (List.length_filter_le _ _) (by rw [List.length_range]; omega)
        · rw [upd_ne (ne_of_none e hp)]
          exact sm _ _ e
        · rw [upd_same, List.range_succ, List.filter_append]
          unfold N
          rw [List.map_append]
          simp [hm]
      have no : may r i = false → ∃ z : Option V, [some (V.ref a), some (V.ref p), some (V.int (i : Int))] = [some (.ref a), some (.ref p), z] ∧ Same H H' ∧ H' p = some (.lst (N ((List.range (i + 1)).filter (may r)))) := fun hm => by
        refine ⟨_, rfl, sm, ?_⟩
        rw [List.range_succ, List.filter_append, hp1]
        simp [hm]
      by_cases c : i = 0
      · subst c
        refine ⟨_, rfl, rfl, _, rfl, iteT ?_⟩
        refine ⟨_, rfl, a, _, 0, _, rfl, rfl, hS2, atI_I (k := 0) rfl hi, _, rfl, 1, rfl, a, _, _, _, rfl, rfl, hS2, atI_I1 hi, rfl, _, rfl, ?_⟩
        rw [dec_int]
        have em : may r 0 = decide (at0 r 0 = at0 r (r.length - 1)) := by unfold may; rw [if_pos rfl]
        rw [← em]
        refine ite2 (fun e => ?_) (fun e => ?_)
        · exact iteT (yes e)
        · refine ⟨_, rfl, _, _, rfl, rfl, _, rfl, iteF (iteF (no (by simpa using e)))⟩
      · refine ⟨_, rfl, rfl, _, rfl, ite2 (fun e => absurd (V.int.inj (of_decide_eq_true e)) (by omega)) (fun _ => ?_)⟩
        refine iteF ⟨_, rfl, _, _, rfl, rfl, _, rfl, ite2 (fun _ => ?_) (fun e => absurd (decide_eq_true (show (0 : Int) < (i : Int) by omega)) e)⟩
        refine ⟨_, rfl, _, rfl, a, _, _, _, rfl, rfl, hS2, atI_I (k := i) rfl hi, _, rfl, _, rfl, _, _, rfl, rfl, a, _, _, _, rfl, rfl, hS2, atI_I (k := i - 1) (by omega) (by omega), rfl, _, rfl, ?_⟩
        rw [dec_int]
        have em : may r i = !decide (at0 r i = at0 r (i - 1)) := by unfold may; rw [if_neg c, decide_not]
        rw [← em]
        refine ite2 (fun e => yes e) (fun e => no (by simpa using e))
    · rintro σ H' ⟨y, rfl, sm, hp1⟩
      exact ⟨_, rfl, hQ H' p sm hp hp1⟩
theorem ok_law_step (D : Df K mg "_law_step" s_law_step p_law_step f fd) (B : Bt mg) : FnOk P w K mg base (L2N.CX P w) 1 f fd p_law_step (sp_law_step K) := by
  refine Fun.okN D.F sc_law_step (fun vs H Q E h => ?_) (fun cdv A outer s H vs Q E hr h => ?_)
  · obtain ⟨a, r, m, k, rfl, _⟩ := h
    rfl
  · obtain ⟨a, r, m, k, rfl, hT, hk, hl, hm, hQ⟩ := h
    refine ⟨_, pss_cons (ps_set (i := 3) sc_law_step.nd rfl (.inl rfl) (pe_callTy call_list_of (by rfl) B.list (by decide +kernel) (pa_cons (pv 0) pa_nil)))
      (pss_cons (ps_if (pt_cmpR op_eq (pv 2) pe_int (nomark _))
        (pss_one (ps_asg (pe_op op_mod (pe_op op_add (pe_ix ix_tup (pv 0) pe_int (fun _ _ => rfl)) pe_int) (pv 1)) (pg_sub (pv 3) pe_int set_list)))
        (pss_one (ps_asg (pe_ix ix_tup (pv 0) (pe_op op_sub (pv 2) pe_int) (fun _ _ => rfl)) (pg_sub (pv 3) (pv 2) set_list))))
      (pss_one (ps_ret (pe_callTy call_tuple_of (by rfl) B.tuple (by decide +kernel) (pa_cons (pv 3) pa_nil))))), ?_⟩
    refine ⟨_, rfl, a, _, rfl, .inr hT, fun p hp => ?_⟩
    have s1 : Same H (upd H p (.lst (I r))) := same_upd hp
    have fin : ∀ v, v = (if k = 0 then (at0 r 0 + 1) % m else at0 r (k - 1)) → ∀ q, (upd (upd H p (.lst (I r))) p (.lst ((I r).set k (V.int v)))) q = none → Q (.ref q) (upd (upd (upd H p (.lst (I r))) p (.lst ((I r).set k (V.int v)))) q (.tup ((I r).set k (V.int v)))) := fun v ev q hq => by
      refine hQ _ q (fun b o e => ?_) (tupOf ?_)
      · have nq : b ≠ q := by
          intro z
          rw [z] at e
          rw [upd_upd] at hq
          have := (same_upd (o := .lst ((I r).set k (V.int v))) hp) _ _ e
          rw [hq] at this
          cases this
        rw [upd_ne nq, upd_ne (ne_of_none e hp), upd_ne (ne_of_none e hp)]
        exact e
      · rw [upd_same]
        unfold HR.moved I
        rw [List.map_set, ← ev]
    by_cases c : k = 0
    · subst c
      refine ⟨_, rfl, rfl, _, rfl, ite2 (fun _ => ?_) (fun e => absurd (decide_eq_true rfl) e)⟩
      refine ⟨_, rfl, a, _, _, _, rfl, rfl, s1.tup hT, atI_I (k := 0) rfl hk, _, _, rfl, rfl, _, rfl, _, _, rfl, rfl, hm, ?_⟩
      refine ⟨_, rfl, p, _, _, 0, rfl, rfl, upd_same, ?_, ?_⟩
      · rw [len_I]
        unfold ixN
        rw [if_pos (by omega), if_pos (by omega)]
        rfl
      · exact ⟨_, rfl, p, _, rfl, .inl ⟨lstOf upd_same, fin _ (by rw [if_pos rfl])⟩⟩
    · refine ⟨_, rfl, rfl, _, rfl, ite2 (fun e => absurd (V.int.inj (of_decide_eq_true e)) (by omega)) (fun _ => ?_)⟩
      refine ⟨_, rfl, _, rfl, _, _, rfl, rfl, a, _, _, _, rfl, rfl, s1.tup hT, atI_I (k := k - 1) (by omega) (by omega), ?_⟩
      refine ⟨_, rfl, _, rfl, p, _, _, k, rfl, rfl, upd_same, ?_, ?_⟩
      · rw [len_I]
        unfold ixN
        rw [if_pos (by omega), if_pos (by omega), Int.toNat_natCast]
      · exact ⟨_, rfl, p, _, rfl, .inl ⟨lstOf upd_same, fin _ (by rw [if_neg c])⟩⟩
theorem ok_law_alike0 (D : Df K mg "_law_alike" s_law_alike p_law_alike f fd) (B : Bt mg) : FnOk P w K mg base (L2N.CX P w) 1 f fd p_law_alike (sp_law_alike RI) := by
  have G : FnOk P w K mg base (L2N.CX P w) 0 f fd p_law_alike spNo := ⟨fun _ _ _ _ h => False.elim h, fun _ _ _ _ _ _ _ _ _ _ _ _ _ h => False.elim h⟩
  refine Fun.okN D.F sc_law_alike (fun vs H Q E h => ?_) (fun cdv A outer s H vs Q E hr h => ?_)
  · obtain ⟨x, y, u, v, rfl, _⟩ := h
    rfl
  · obtain ⟨x, y, u, v, rfl, hx, hy, hQ⟩ := h
    refine ⟨_, pss_cons (ps_if (pt_val (pe_callB call_isi (by rfl) B.isinstance (by decide +kernel) (pa_cons (pv 1) (pa_cons (pty (by rfl) B.tuple b_tuple) pa_nil))))
        (pss_cons (ps_if (PW.pt (pw_or (pt_not (pt_val (pe_callB call_isi (by rfl) B.isinstance (by decide +kernel) (pa_cons (pv 0) (pa_cons (pty (by rfl) B.tuple b_tuple) pa_nil)))))
            (pw_or1 (pt_cmpR op_ne (pe_callB call_len_seq (by rfl) B.len PySem.boot_len (pa_cons (pv 0) pa_nil)) (pe_callB call_len_seq (by rfl) B.len PySem.boot_len (pa_cons (pv 1) pa_nil)) (nomark _)))))
          (pss_one (ps_ret pe_bl)) pss_nil)
        (pss_one (ps_ret (pe_cmpR (op_eqI hr.units) (pe_lc (own := [("_law_k", 2)]) (g := gName 2) rfl sc_law_alike.nd (pi_range1 rfl B.range (pa_cons (pe_callB call_len_seq (by rfl) B.len PySem.boot_len (pa_cons (pv 1) pa_nil)) pa_nil))
            (blkOk_by (N := n_law_alike) (sc := defScope s_law_alike) (by decide +kernel)) (fun _ _ _ _ _ => pg_name (i := 2) sc_law_alike.nd rfl (Or.inl rfl))
            (fun _ _ _ _ _ => pts_one (pt_not (pt_val (pe_call G hr (by rfl) D.g D.F.kp D.b .nil passN (pa_cons (pe_ix (r := rIxT K) ix_tup (pv 0) (pv 2) (fun _ _ => rfl)) (pa_cons (pe_ix (r := rIxT K) ix_tup (pv 1) (pv 2) (fun _ _ => rfl)) pa_nil)))))) (fun _ _ _ _ _ => pv 2))
          (pe_lst pa_nil) (nomark _))))) pss_nil)
      (pss_one (ps_ret (pe_and (pe_cmpR op_eq (pe_callB call_isi (by rfl) B.isinstance (by decide +kernel) (pa_cons (pv 0) (pa_cons (pty (by rfl) B.bool b_bool) pa_nil)))
          (pe_callB call_isi (by rfl) B.isinstance (by decide +kernel) (pa_cons (pv 1) (pa_cons (pty (by rfl) B.bool b_bool) pa_nil))) (nomark _)) (pe_one (pe_cmpR op_eq (pv 0) (pv 1) (nomark _)))))), ?_⟩
    have ex : x = .int u := hx
    have ey : y = .int v := hy
    subst ex ey
    refine ⟨_, rfl, _, _, _, _, _, rfl, .ty _, ty_I, kt_IT, _, rfl, iteF ?_⟩
    refine ⟨_, rfl, _, _, _, _, _, rfl, .ty _, ty_I, kt_IB, _, rfl, _, _, _, _, _, rfl, .ty _, ty_I, kt_IB, rfl, _, rfl, iteT ⟨_, rfl, _, rfl, rfl, ?_⟩⟩
    rw [dec_int]
    exact hQ H (Same.refl H)
theorem ok_law_alikeT {α : Type} [DecidableEq α] {R : Rd1 α} {k : Nat} (hs : Stay R) (D : Df K mg "_law_alike" s_law_alike p_law_alike f fd) (B : Bt mg)
    (G : FnOk P w K mg base (L2N.CX P w) k f fd p_law_alike (sp_law_alike R)) : FnOk P w K mg base (L2N.CX P w) (k + 1) f fd p_law_alike (sp_law_alike (RT K R)) := by
  refine Fun.okN D.F sc_law_alike (fun vs H Q E h => ?_) (fun cdv A outer s H vs Q E hr h => ?_)
  · obtain ⟨x, y, u, v, rfl, _⟩ := h
    rfl
  · obtain ⟨x, y, u, v, rfl, hx, hy, hQ⟩ := h
    refine ⟨_, pss_cons (ps_if (pt_val (pe_callB call_isi (by rfl) B.isinstance (by decide +kernel) (pa_cons (pv 1) (pa_cons (pty (by rfl) B.tuple b_tuple) pa_nil))))
        (pss_cons (ps_if (PW.pt (pw_or (pt_not (pt_val (pe_callB call_isi (by rfl) B.isinstance (by decide +kernel) (pa_cons (pv 0) (pa_cons (pty (by rfl) B.tuple b_tuple) pa_nil)))))
            (pw_or1 (pt_cmpR op_ne (pe_callB call_len_seq (by rfl) B.len PySem.boot_len (pa_cons (pv 0) pa_nil)) (pe_callB call_len_seq (by rfl) B.len PySem.boot_len (pa_cons (pv 1) pa_nil)) (nomark _)))))
          (pss_one (ps_ret pe_bl)) pss_nil)
        (pss_one (ps_ret (pe_cmpR (op_eqI hr.units) (pe_lc (own := [("_law_k", 2)]) (g := gName 2) rfl sc_law_alike.nd (pi_range1 rfl B.range (pa_cons (pe_callB call_len_seq (by rfl) B.len PySem.boot_len (pa_cons (pv 1) pa_nil)) pa_nil))
            (blkOk_by (N := n_law_alike) (sc := defScope s_law_alike) (by decide +kernel)) (fun _ _ _ _ _ => pg_name (i := 2) sc_law_alike.nd rfl (Or.inl rfl))
            (fun _ _ _ _ _ => pts_one (pt_not (pt_val (pe_call G hr (by rfl) D.g D.F.kp D.b .nil passN (pa_cons (pe_ix (r := rIxT K) ix_tup (pv 0) (pv 2) (fun _ _ => rfl)) (pa_cons (pe_ix (r := rIxT K) ix_tup (pv 1) (pv 2) (fun _ _ => rfl)) pa_nil)))))) (fun _ _ _ _ _ => pv 2))
          (pe_lst pa_nil) (nomark _))))) pss_nil)
      (pss_one (ps_ret (pe_and (pe_cmpR op_eq (pe_callB call_isi (by rfl) B.isinstance (by decide +kernel) (pa_cons (pv 0) (pa_cons (pty (by rfl) B.bool b_bool) pa_nil)))
          (pe_callB call_isi (by rfl) B.isinstance (by decide +kernel) (pa_cons (pv 1) (pa_cons (pty (by rfl) B.bool b_bool) pa_nil))) (nomark _)) (pe_one (pe_cmpR op_eq (pv 0) (pv 1) (nomark _)))))), ?_⟩
    obtain ⟨a, xs, rfl, hT1, hp1, hl1⟩ := hx
    obtain ⟨b, ys, rfl, hT2, hp2, hl2⟩ := hy
    have e1 := Paired.length hp1
    have e2 := Paired.length hp2
    refine ⟨_, rfl, _, _, _, _, _, rfl, .ty _, ty_T hT2, kt_TT, _, rfl, iteT ?_⟩
    refine ⟨_, rfl, _, _, _, _, _, rfl, .ty _, ty_T hT1, kt_TT, _, rfl, iteF ?_⟩
    refine ⟨_, rfl, a, _, rfl, .inr hT1, _, rfl, b, _, rfl, .inr hT2, rfl, _, rfl, ?_⟩
    by_cases c : u.length = v.length
    · refine iteNS (by rw [e1, e2, c]) ?_
      refine ⟨_, rfl, b, _, rfl, .inr hT2, (v.length : Int), by rw [e2], by omega, by omega, fun L hL => ?_⟩
      rw [Int.toNat_natCast]
      refine lc_r0 (fun i => !decide (u[i]? = v[i]?)) (fun i => V.int (i : Int)) hL (by omega) (fun i H1 hi sm Z M hz hm => ?_) fun H1 sm e => ?_
      · obtain ⟨x1, g1, r1⟩ := paired_get hp1 (List.getElem?_eq_getElem (show i < u.length by omega))
        obtain ⟨y1, g2, r2⟩ := paired_get hp2 (List.getElem?_eq_getElem (show i < v.length by omega))
        have q0 : decide (u[i]? = v[i]?) = decide (u[i]'(by omega) = v[i]'(by omega)) := by
          rw [List.getElem?_eq_getElem (show i < u.length by omega), List.getElem?_eq_getElem (show i < v.length by omega)]
          by_cases z : u[i]'(by omega) = v[i]'(by omega)
          · rw [decide_eq_true z, z]; simp
          · rw [decide_eq_false z]; simp [z]
        refine ⟨rfl, _, rfl, _, rfl, a, _, _, _, rfl, rfl, sm.tup hT1, atI_nat g1, _, rfl, _, rfl, b, _, _, _, rfl, rfl, sm.tup hT2, atI_nat g2, x1, y1, _, _, rfl, hs _ _ _ _ sm r1, hs _ _ _ _ sm r2, fun H2 s2 => ⟨_, rfl, ?_⟩⟩
        rw [← q0]
        refine ite2 (fun e => ?_) (fun e => ?_)
        · exact ⟨_, rfl, hz e H2 s2⟩
        · exact hm (by simpa using e) H2 s2
      · have e3 : H1 L = some (.lst (I (Z ((List.range v.length).filter fun i => !decide (u[i]? = v[i]?))))) := by
          rw [e, ← N_Z]
          rfl
        refine ⟨big (by show 0 ≤ 1000; decide), fun M hM => ⟨L, M, _, [], rfl, rfl, .inl ⟨lstOf ((same_upd hM) _ _ e3), lstOf upd_same⟩, ?_⟩⟩
        rw [alike_lists c]
        exact hQ _ (sm.trans (same_upd hM))
    · have nd : ¬ (V.int (xs.length : Int) = V.int (ys.length : Int)) := fun q => c (by have := V.int.inj q; omega)
      rw [decide_eq_false nd]
      have z := hQ H (Same.refl H)
      rw [decide_eq_false (fun q => c (by rw [q]))] at z
      exact z
theorem ok_law_listed (D : Df K mg "_law_listed" s_law_listed p_law_listed f fd) (B : Bt mg)
    (D1 : Df K mg "_law_alike" s_law_alike p_law_alike f1 fd1) (G1 : FnOk P w K mg base (L2N.CX P w) 2 f1 fd1 p_law_alike (sp_law_alike (RT K RI))) :
    FnOk P w K mg base (L2N.CX P w) 3 f fd p_law_listed (sp_law_listed K) := by
  refine Fun.okN D.F sc_law_listed (fun vs H Q E h => ?_) (fun cdv A outer s H vs Q E hr h => ?_)
  · obtain ⟨a, b, r, s, rfl, _⟩ := h
    rfl
  · obtain ⟨a, b, r, s, rfl, h1, h2, l1, l2, hQ⟩ := h
    refine ⟨_, pss_one (ps_ret (pe_and (pe_callB call_isi (by rfl) B.isinstance (by decide +kernel) (pa_cons (pv 0) (pa_cons (pty (by rfl) B.list b_list) pa_nil)))
      (pe_one (pe_call G1 hr (by rfl) D1.g D1.F.kp D1.b .nil passN (pa_cons (pe_callTy call_tuple_of (by rfl) B.tuple (by decide +kernel) (pa_cons (pv 0) pa_nil)) (pa_cons (pe_callTy call_tuple_of (by rfl) B.tuple (by decide +kernel) (pa_cons (pv 1) pa_nil)) pa_nil)))))), ?_⟩
    refine ⟨_, rfl, _, _, _, _, _, rfl, .ty _, ty_L h1, kt_LL, _, rfl, iteT ?_⟩
    refine ⟨_, rfl, a, _, rfl, .inl ⟨h1, fun p hp => ?_⟩⟩
    refine ⟨_, rfl, b, _, rfl, .inl ⟨(same_upd hp).seq h2, fun q hq => ?_⟩⟩
    exact ⟨_, _, r, s, rfl, RT_I (tupOf ((same_upd hq) _ _ upd_same)) l1, RT_I (tupOf upd_same) l2, fun H' sm => hQ H' ((same_upd hp).trans ((same_upd hq).trans sm))⟩
theorem ok_law_listed2 (D : Df K mg "_law_listed" s_law_listed p_law_listed f fd) (B : Bt mg)
    (D1 : Df K mg "_law_alike" s_law_alike p_law_alike f1 fd1) (G1 : FnOk P w K mg base (L2N.CX P w) 3 f1 fd1 p_law_alike (sp_law_alike (RT K (RT K RI)))) :
    FnOk P w K mg base (L2N.CX P w) 4 f fd p_law_listed (sp_law_listed2 K) := by
  refine Fun.okN D.F sc_law_listed (fun vs H Q E h => ?_) (fun cdv A outer s H vs Q E hr h => ?_)
  · obtain ⟨a, b, r, s, rfl, _⟩ := h
    rfl
  · obtain ⟨a, b, rs, ss, rfl, ⟨xs, h1, t1⟩, ⟨ys, h2, t2⟩, l1, l2, r1, r2, hQ⟩ := h
    refine ⟨_, pss_one (ps_ret (pe_and (pe_callB call_isi (by rfl) B.isinstance (by decide +kernel) (pa_cons (pv 0) (pa_cons (pty (by rfl) B.list b_list) pa_nil)))
      (pe_one (pe_call G1 hr (by rfl) D1.g D1.F.kp D1.b .nil passN (pa_cons (pe_callTy call_tuple_of (by rfl) B.tuple (by decide +kernel) (pa_cons (pv 0) pa_nil)) (pa_cons (pe_callTy call_tuple_of (by rfl) B.tuple (by decide +kernel) (pa_cons (pv 1) pa_nil)) pa_nil)))))), ?_⟩
    refine ⟨_, rfl, _, _, _, _, _, rfl, .ty _, ty_L (lstOf h1), kt_LL, _, rfl, iteT ?_⟩
    refine ⟨_, rfl, a, _, rfl, .inl ⟨lstOf h1, fun p hp => ?_⟩⟩
    refine ⟨_, rfl, b, _, rfl, .inl ⟨lstOf ((same_upd hp) _ _ h2), fun q hq => ?_⟩⟩
    have S := (same_upd (o := .tup xs) hp).trans (same_upd (o := .tup ys) hq)
    exact ⟨_, _, rs, ss, rfl, ⟨p, xs, rfl, tupOf ((same_upd hq) _ _ upd_same), paired_R (t1.of S) r1, l1⟩, ⟨q, ys, rfl, tupOf upd_same, paired_R (t2.of S) r2, l2⟩, fun H' sm => hQ H' (S.trans sm)⟩
theorem ok_law_only {c0 c1 c2 c3 c4 c5 : Addr} (D : Df K mg "_law_only" s_law_only p_law_only f fd) (B : Bt mg) (CE : Cl K mg "HealError" cE) (C0 : Cl K mg "NoNumbers" c0) (C1 : Cl K mg "NoRing" c1) (C2 : Cl K mg "NoMachine" c2)
    (C3 : Cl K mg "NotNow" c3) (C4 : Cl K mg "NotHealed" c4) (C5 : Cl K mg "TooGreat" c5) : FnE P w K mg base 1 f fd p_law_only (sp_law_only K [c0, c1, c2, c3, c4, c5] cE) := by
  refine Fun.okE D.F sc_law_only (fun cls d a vs H Q E h => ?_) (fun cdv A outer s H vs Q E a oe cls d hz hf hr h => ?_)
  · obtain ⟨D0, j, i, _, _, _, _, rfl, _⟩ := h
    rfl
  · obtain ⟨D0, j, i, rfl, rfl, kd, hj, rfl, hi, _, hQ⟩ := h
    have hp : ∀ (l : List (Addr × Obj)), (a, oe) ∈ (a, oe) :: l := fun _ => List.mem_cons_self
    refine ⟨_, pss_cons (ps_set (i := 2) sc_law_only.nd rfl (.inl rfl) (pe_lst (pa_cons (pe_callB (call_isP kd.e (hp []) hz hf) (by rfl) B.isinstance (by decide +kernel) (pa_cons (pv 0) (pa_cons (pe_glob (v := .ref c0) rfl C0.g rfl) pa_nil)))
        (pa_cons (pe_callB (call_isP kd.e (hp []) hz hf) (by rfl) B.isinstance (by decide +kernel) (pa_cons (pv 0) (pa_cons (pe_glob (v := .ref c1) rfl C1.g rfl) pa_nil)))
        (pa_cons (pe_callB (call_isP kd.e (hp []) hz hf) (by rfl) B.isinstance (by decide +kernel) (pa_cons (pv 0) (pa_cons (pe_glob (v := .ref c2) rfl C2.g rfl) pa_nil)))
        (pa_cons (pe_callB (call_isP kd.e (hp []) hz hf) (by rfl) B.isinstance (by decide +kernel) (pa_cons (pv 0) (pa_cons (pe_glob (v := .ref c3) rfl C3.g rfl) pa_nil))) pa_nil))))))
      (pss_cons (ps_set (i := 2) sc_law_only.nd rfl (.inl rfl) (pe_op op_cat (pv 2) (pe_lst (pa_cons (pe_callB (call_isP kd.e (hp []) hz hf) (by rfl) B.isinstance (by decide +kernel) (pa_cons (pv 0) (pa_cons (pe_glob (v := .ref c4) rfl C4.g rfl) pa_nil)))
        (pa_cons (pe_callB (call_isP kd.e (hp []) hz hf) (by rfl) B.isinstance (by decide +kernel) (pa_cons (pv 0) (pa_cons (pe_glob (v := .ref c5) rfl C5.g rfl) pa_nil))) pa_nil)))))
      (pss_one (ps_ret (pe_and (pe_cmpR op_eq (pe_bm PySem.F.plainAttrs_list PySem.F.slot_list_count PySem.F.type_list_count mt_bcount (pv 2) (pa_cons pe_bl pa_nil)) pe_int (nomark _))
        (pe_and (pe_ix ix_list (pv 2) (pv 1) (fun _ _ => rfl))
        (pe_and (pe_callB (call_isP kd.e (hp []) hz hf) (by rfl) B.isinstance (by decide +kernel) (pa_cons (pv 0) (pa_cons (pe_glob (v := .ref cE) rfl CE.g rfl) pa_nil)))
        (pe_one (pe_callB (call_isP kd.e (hp []) hz hf) (by rfl) B.isinstance (by decide +kernel) (pa_cons (pv 0) (pa_cons (pty (by rfl) B.verr b_verr) pa_nil)))))))))), ?_⟩
    have k0 := kd.i 0 c0 rfl
    have k1 := kd.i 1 c1 rfl
    have k2 := kd.i 2 c2 rfl
    have k3 := kd.i 3 c3 rfl
    have k4 := kd.i 4 c4 rfl
    have k5 := kd.i 5 c5 rfl
    refine ⟨_, rfl, _, _, _, rfl, (fun u e => e), k0, _, rfl, _, _, _, rfl, (fun u e => e), k1, _, rfl, _, _, _, rfl, (fun u e => e), k2, _, rfl, _, _, _, rfl, (fun u e => e), k3, big (by show 4 ≤ 1000; decide), fun p hp => ?_⟩
    refine ⟨_, rfl, _, rfl, _, _, _, rfl, (fun u e => e), k4, _, rfl, _, _, _, rfl, (fun u e => e), k5, big (by show 2 ≤ 1000; decide), fun q hq => ?_⟩
    refine ⟨p, q, _, _, rfl, rfl, (same_upd hq) _ _ upd_same, upd_same, big (by show 4 + 2 ≤ 1000; decide), fun t ht => ?_⟩
    obtain ⟨bs, hbs⟩ : ∃ bs : List Bool, bs = [decide (0 = j), decide (1 = j), decide (2 = j), decide (3 = j), decide (4 = j), decide (5 = j)] := ⟨_, rfl⟩
    have sm : ∀ o, Same H (upd (upd (upd H p (.lst [V.bl (decide (0 = j)), V.bl (decide (1 = j)), V.bl (decide (2 = j)), V.bl (decide (3 = j))])) q (.lst [V.bl (decide (4 = j)), V.bl (decide (5 = j))])) t o) := fun o => (same_upd hp).trans ((same_upd hq).trans (same_upd ht))
    have cnt : bs.count true = 1 ∧ ∀ i, i < 6 → (bs.map V.bl)[i]? = some (V.bl (decide (i = j))) := by
      rw [hbs]
      have h6 : ∀ j : _root_.Fin 6, ([decide (0 = j.1), decide (1 = j.1), decide (2 = j.1), decide (3 = j.1), decide (4 = j.1), decide (5 = j.1)] : List Bool).count true = 1 := by decide
      refine ⟨h6 ⟨j, hj⟩, fun i hi => ?_⟩
      match i, hi with
      | 0, _ => rfl
      | 1, _ => rfl
      | 2, _ => rfl
      | 3, _ => rfl
      | 4, _ => rfl
      | 5, _ => rfl
    have hl : (upd (upd (upd H p (.lst [V.bl (decide (0 = j)), V.bl (decide (1 = j)), V.bl (decide (2 = j)), V.bl (decide (3 = j))])) q (.lst [V.bl (decide (4 = j)), V.bl (decide (5 = j))])) t (.lst (bs.map V.bl))) t = some (.lst (bs.map V.bl)) := upd_same
    have fin := hQ _ (sm (.lst (bs.map V.bl)))
    rw [hbs] at hl fin cnt
    refine ⟨_, rfl, .inl ⟨rfl, _, lstOf hl⟩, t, _, true, rfl, rfl, lstOf hl, ?_⟩
    rw [cnt.1]
    refine ⟨rfl, _, rfl, iteT ⟨_, rfl, _, rfl, t, _, _, _, rfl, rfl, lstOf hl, atI_nat (cnt.2 i hi), _, rfl, ?_⟩⟩
    by_cases c : i = j
    · rw [decide_eq_true c] at fin ⊢
      exact iteT ⟨_, rfl, _, _, _, rfl, (fun u e => e), kd.h, _, rfl, iteT ⟨_, rfl, _, _, _, rfl, (fun u e => e), kd.v, fin⟩⟩
    · rw [decide_eq_false c] at fin ⊢
      exact iteF fin
def sp_law_wrong (K : PySem.W.Frag) : Sp := fun vs H Q _ => ∃ (a : Addr) (r : List Int) (m c : Int) (n : Nat), vs = [.ref a, .int m, .int c] ∧ SqT K H a (I r) ∧ r.length = n ∧ 0 < n ∧ n ≤ 12 ∧
  ∀ H' t p r2 m2, Same H H' → SqT K H' t [.ref p, .int m2] → SqT K H' p (I r2) → r2.length ≤ 1000 → Q (.ref t) H'
theorem ok_law_wrong (D : Df K mg "_law_wrong" s_law_wrong p_law_wrong f fd) (B : Bt mg)
    (D1 : Df K mg "_law_mixed" s_law_mixed p_law_mixed f1 fd1) (G1 : FnOk P w K mg base (L2N.CX P w) 1 f1 fd1 p_law_mixed sp_law_mixed) :
    FnOk P w K mg base (L2N.CX P w) 2 f fd p_law_wrong (sp_law_wrong K) := by
  refine Fun.okN D.F sc_law_wrong (fun vs H Q E h => ?_) (fun cdv A outer s H vs Q E hr h => ?_)
  · obtain ⟨a, r, m, c, n, rfl, _⟩ := h
    rfl
  · obtain ⟨a, r, m, c, n, rfl, hT, rl, n0, hn, hQ⟩ := h
    refine ⟨_, pss_cons (ps_set (i := 3) sc_law_wrong.nd rfl (.inl rfl) (pe_op op_mod (pe_call G1 hr (by rfl) D1.g D1.F.kp D1.b .nil passN (pa_cons (pv 2) (pa_cons pe_int pa_nil))) pe_int))
      (pss_cons (ps_set (i := 4) sc_law_wrong.nd rfl (.inl rfl) (pe_op op_mod (pe_op op_fdiv (pv 2) pe_int) (pe_op op_pow pe_int pe_int)))
      (pss_cons (ps_set (i := 5) sc_law_wrong.nd rfl (.inl rfl) (pe_op op_mod (pe_call G1 hr (by rfl) D1.g D1.F.kp D1.b .nil passN (pa_cons (pv 2) (pa_cons pe_int pa_nil))) (pe_callB call_len_seq (by rfl) B.len PySem.boot_len (pa_cons (pv 0) pa_nil))))
      (pss_cons (ps_if (pt_cmpR op_lt (pv 3) pe_int (nomark _)) (pss_one (ps_ret (pe_tup (pa_cons (pv 0) (pa_cons (pe_ix ix_list (pe_lst (pa_cons pe_int (pa_cons (pe_op op_add pe_int (pv 4)) (pa_cons (pe_op op_sub pe_int (pv 4)) pa_nil)))) (pv 3) (fun _ _ => rfl)) pa_nil))))) pss_nil)
      (pss_cons (ps_if (pt_cmpR op_eq (pv 3) pe_int (nomark _)) (pss_one (ps_ret (pe_tup (pa_cons (pe_slice sl_tupS (pv 0) po_none (po_some pe_int)) (pa_cons (pv 1) pa_nil))))) pss_nil)
      (pss_cons (ps_if (pt_cmpR op_eq (pv 3) pe_int (nomark _)) (pss_one (ps_ret (pe_tup (pa_cons (pe_tup pa_nil) (pa_cons (pv 1) pa_nil))))) pss_nil)
      (pss_cons (ps_if (pt_cmpR op_eq (pv 3) pe_int (nomark _)) (pss_one (ps_ret (pe_tup (pa_cons (pe_slice sl_tupS (pe_op op_repS (pv 0) pe_int) po_none (po_some pe_int)) (pa_cons (pv 1) pa_nil))))) pss_nil)
      (pss_cons (ps_if (pt_cmpR op_eq (pv 3) pe_int (nomark _)) (pss_one (ps_ret (pe_tup (pa_cons (pe_op op_catS (pe_op op_catS (pe_slice sl_tupS (pv 0) po_none (po_some (pv 5))) (pe_tup (pa_cons (pe_op op_sub (pe_un un_neg pe_int) (pv 4)) pa_nil))) (pe_slice sl_tupS (pv 0) (po_some (pe_op op_add (pv 5) pe_int)) po_none)) (pa_cons (pv 1) pa_nil))))) pss_nil)
      (pss_cons (ps_if (pt_cmpR op_eq (pv 3) pe_int (nomark _)) (pss_one (ps_ret (pe_tup (pa_cons (pe_op op_catS (pe_op op_catS (pe_slice sl_tupS (pv 0) po_none (po_some (pv 5))) (pe_tup (pa_cons (pe_op op_add (pv 1) (pe_op op_mul (pv 4) (pe_op op_mod (pe_call G1 hr (by rfl) D1.g D1.F.kp D1.b .nil passN (pa_cons (pv 2) (pa_cons pe_int pa_nil))) pe_int))) pa_nil))) (pe_slice sl_tupS (pv 0) (po_some (pe_op op_add (pv 5) pe_int)) po_none)) (pa_cons (pv 1) pa_nil))))) pss_nil)
      (pss_one (ps_ret (pe_tup (pa_cons (pe_op op_catS (pe_op op_catS (pe_slice sl_tupS (pv 0) po_none (po_some (pv 5))) (pe_tup (pa_cons (pv 1) pa_nil))) (pe_slice sl_tupS (pv 0) (po_some (pe_op op_add (pv 5) pe_int)) po_none)) (pa_cons pe_int pa_nil))))))))))))), ?_⟩
    have fin : ∀ H1 p r2 m2, Same H H1 → SqT K H1 p (I r2) → r2.length ≤ 1000 → ([.ref p, .int m2] : List V).length ≤ sizeLine ∧ ∀ t, H1 t = none → Q (.ref t) (upd H1 t (.tup [.ref p, .int m2])) := fun H1 p r2 m2 sm h hl =>
      ⟨big (by show 2 ≤ 1000; decide), fun t ht => hQ _ t p r2 m2 (sm.trans (same_upd ht)) (tupOf upd_same) ((same_upd ht).tup h) hl⟩
    have w0 := Int.emod_nonneg (mixed c 1) (show (9 : Int) ≠ 0 by decide)
    refine ⟨_, rfl, _, _, rfl, _, _, rfl, rfl, (by show (0 : Int) < 9; decide), ?_⟩
    refine ⟨_, rfl, _, _, rfl, rfl, ⟨by decide, by decide⟩, _, _, rfl, rfl, ⟨by decide, by decide, by decide⟩, _, _, rfl, rfl, (by show (0 : Int) < 10 ^ 20; decide), ?_⟩
    refine ⟨_, rfl, _, _, rfl, _, rfl, a, _, rfl, .inr hT, ?_⟩
    rw [len_I, rl]
    refine ⟨_, _, rfl, rfl, (by show (0 : Int) < (n : Int); omega), ?_⟩
    have mid : ∀ (H1 : Hp) (p1 : Addr) (s1 : List Int) (v : Int) (Z : VK), Same H H1 → SqT K H1 p1 (I s1) → s1.length ≤ 12 → (∀ H' p r2, Same H H' → SqT K H' p (I r2) → r2.length ≤ 1000 → Z (.ref p) H') →
        ([V.int v] : List V).length ≤ sizeLine ∧ ∀ q, H1 q = none → rCatS K (.ref p1) (.ref q) (upd H1 q (.tup [.int v])) fun x H2 => tSl (rSlS K) (tVar 0) (tPart (tOp (rI0 fun i j => .int (i + j)) (tVar 5) (tC (.int 1)))) tNoPart
          [some (.ref a), some (.int m), some (.int c), some (.int (mixed c 1 % 9)), some (.int (c / 9 % 10 ^ 20)), some (.int (mixed c 2 % (n : Int)))] H2 fun y H3 => rCatS K x y H3 Z := fun H1 p1 s1 v Z sm h1 l1 hZ => by
      refine ⟨big (by show 1 ≤ 1000; decide), fun q hq => ?_⟩
      have t1 := same_upd (o := .tup [V.int v]) hq
      refine ⟨p1, q, _, _, rfl, rfl, t1.tup h1, tupOf upd_same, big (by rw [len_I]; show s1.length + 1 ≤ 1000; omega), fun p2 H2 s2 h2 => ?_⟩
      have S2 := sm.trans (t1.trans s2)
      refine ⟨_, rfl, _, rfl, _, _, rfl, rfl, _, rfl, a, _, rfl, S2.tup hT, fun p3 H3 s3 h3 => ?_⟩
      obtain ⟨s4, e4, l4⟩ := cutI_len r (some (mixed c 2 % (n : Int) + 1)) none
      have e5 : I s1 ++ [V.int v] ++ I s4 = I (s1 ++ [v] ++ s4) := by
        unfold I
        rw [List.map_append, List.map_append]
        rfl
      rw [e4] at h3
      refine ⟨p2, p3, _, _, rfl, rfl, s3.tup h2, h3, big (by rw [List.length_append, len_I, len_I]; show s1.length + 1 + s4.length ≤ 1000; omega), fun p4 H4 s5 h5 => ?_⟩
      rw [e5] at h5
      exact hZ H4 p4 _ (S2.trans (s3.trans s5)) h5 (by rw [List.length_append, List.length_append]; show s1.length + 1 + s4.length ≤ 1000; omega)
    refine ⟨_, rfl, _, _, rfl, rfl, _, rfl, ite2 (fun e => ?_) (fun _ => ?_)⟩
    · have e := of_decide_eq_true e
      refine ⟨_, rfl, _, rfl, _, _, rfl, rfl, _, rfl, _, _, rfl, rfl, big (by show 3 ≤ 1000; decide), fun q hq => ?_⟩
      refine ⟨_, rfl, q, _, _, _, rfl, rfl, lstOf upd_same, atI_I (r := [1, 101 + c / 9 % 10 ^ 20, 0 - c / 9 % 10 ^ 20]) (k := (mixed c 1 % 9).toNat) (by omega) (by show _ < 3; omega), ?_⟩
      exact fin _ a r _ (same_upd hq) ((same_upd hq).tup hT) (by omega)
    refine ⟨_, rfl, rfl, _, rfl, ite2 (fun e => ?_) (fun _ => ?_)⟩
    · refine ⟨_, rfl, _, rfl, a, _, rfl, hT, fun p1 H1 s1 h1 => ?_⟩
      obtain ⟨s4, e4, l4⟩ := cutI_len r none (some 1)
      rw [e4] at h1
      exact ⟨_, rfl, fin H1 p1 s4 m s1 h1 (by omega)⟩
    refine ⟨_, rfl, rfl, _, rfl, ite2 (fun e => ?_) (fun _ => ?_)⟩
    · exact ⟨big (by show 0 ≤ 1000; decide), fun q hq => ⟨_, rfl, fin _ q [] m (same_upd hq) (tupOf upd_same) (by show 0 ≤ 1000; decide)⟩⟩
    refine ⟨_, rfl, rfl, _, rfl, ite2 (fun e => ?_) (fun _ => ?_)⟩
    · refine ⟨_, rfl, a, 7, I r, rfl, rfl, hT, fun q => ?_, by decide, by rw [len_I]; omega, fun p1 H1 s1 h1 => ?_⟩
      · have := len_I r
        rw [q] at this
        simp at this
        omega
      have e7 : (List.replicate 7 (I r)).flatten = I (List.replicate 7 r).flatten := by
        unfold I
        rw [List.map_flatten, List.map_replicate]
      rw [e7] at h1
      refine ⟨_, rfl, p1, _, rfl, h1, fun p2 H2 s2 h2 => ?_⟩
      obtain ⟨s4, e4, l4⟩ := cutI_len (List.replicate 7 r).flatten none (some 13)
      rw [e4] at h2
      have l7 : (List.replicate 7 r).flatten.length = 7 * r.length := by rw [List.length_flatten, List.map_replicate, List.sum_replicate_nat]
      exact ⟨_, rfl, fin H2 p2 s4 m (s1.trans s2) h2 (by omega)⟩
    refine ⟨_, rfl, rfl, _, rfl, ite2 (fun e => ?_) (fun _ => ?_)⟩
    · refine ⟨_, rfl, _, rfl, _, rfl, a, _, rfl, hT, fun p1 H1 s1 h1 => ?_⟩
      obtain ⟨s4, e4, l4⟩ := cutI_len r none (some (mixed c 2 % (n : Int)))
      rw [e4] at h1
      refine ⟨_, rfl, _, rfl, _, _, rfl, rfl, mid H1 p1 s4 _ _ s1 h1 (by omega) fun H' p r2 sm h hl => ⟨_, rfl, fin H' p r2 m sm h hl⟩⟩
    refine ⟨_, rfl, rfl, _, rfl, ite2 (fun e => ?_) (fun _ => ?_)⟩
    · refine ⟨_, rfl, _, rfl, _, rfl, a, _, rfl, hT, fun p1 H1 s1 h1 => ?_⟩
      obtain ⟨s4, e4, l4⟩ := cutI_len r none (some (mixed c 2 % (n : Int)))
      rw [e4] at h1
      have m1 := Int.emod_nonneg (mixed c 3) (show (2 : Int) ≠ 0 by decide)
      have m2 := Int.emod_lt_of_pos (mixed c 3) (show (0 : Int) < 2 by decide)
      refine ⟨_, rfl, _, rfl, _, rfl, _, _, rfl, _, _, rfl, rfl, (by show (0 : Int) < 2; decide), _, _, rfl, rfl, .inr ⟨by omega, by omega⟩, _, _, rfl, rfl, mid H1 p1 s4 _ _ s1 h1 (by omega) fun H' p r2 sm h hl => ⟨_, rfl, fin H' p r2 m sm h hl⟩⟩
    refine ⟨_, rfl, _, rfl, _, rfl, a, _, rfl, hT, fun p1 H1 s1 h1 => ?_⟩
    obtain ⟨s4, e4, l4⟩ := cutI_len r none (some (mixed c 2 % (n : Int)))
    rw [e4] at h1
    exact ⟨_, rfl, mid H1 p1 s4 _ _ s1 h1 (by omega) fun H' p r2 sm h hl => fin H' p r2 1 sm h hl⟩
def dueI (r : List Int) (m : Int) : Int := if m < 2 ∨ 100 < m then 0 else if Good r m then 7 else 1
def sp_law_due (K : PySem.W.Frag) : Sp := fun vs H Q _ => ∃ (a : Addr) (r : List Int) (m : Int), vs = [.ref a, .int m] ∧ SqT K H a (I r) ∧ r.length ≤ 1000 ∧ Q (.int (dueI r m)) H
theorem ok_law_due (D : Df K mg "_law_due" s_law_due p_law_due f fd) (B : Bt mg) : FnOk P w K mg base (L2N.CX P w) 1 f fd p_law_due (sp_law_due K) := by
  refine Fun.okN D.F sc_law_due (fun vs H Q E h => ?_) (fun cdv A outer s H vs Q E hr h => ?_)
  · obtain ⟨a, r, m, rfl, _⟩ := h
    rfl
  · obtain ⟨a, r, m, rfl, hT, hl, hQ⟩ := h
    refine ⟨_, pss_cons (ps_if (PW.pt (pw_or (pt_cmpR op_lt (pv 1) pe_int (nomark _)) (pw_or1 (pt_cmpR op_gt (pv 1) pe_int (nomark _))))) (pss_one (ps_ret pe_int)) pss_nil)
      (pss_cons (ps_if (PW.pt (pw_or (pt_cmpR op_lt (pe_callB call_len_seq (by rfl) B.len PySem.boot_len (pa_cons (pv 0) pa_nil)) pe_int (nomark _)) (pw_or (pt_cmpR op_gt (pe_callB call_len_seq (by rfl) B.len PySem.boot_len (pa_cons (pv 0) pa_nil)) pe_int (nomark _))
        (pw_or (pt_cmpR op_lt (pe_callB (cr_minT rfl hr.units) (by rfl) B.min (by decide +kernel) (pa_cons (pv 0) pa_nil)) pe_int (nomark _)) (pw_or1 (pt_cmpR op_ge (pe_callB (cr_maxT rfl hr.units) (by rfl) B.max (by decide +kernel) (pa_cons (pv 0) pa_nil)) (pv 1) (nomark _))))))) (pss_one (ps_ret pe_int)) pss_nil)
      (pss_one (ps_ret pe_int))), ?_⟩
    have bad0 : m < 2 ∨ 100 < m → Q (.int 0) H := fun h => by
      unfold dueI at hQ
      rw [if_pos h] at hQ
      exact hQ
    refine ⟨_, rfl, _, _, rfl, rfl, _, rfl, ite2 (fun e => iteT (bad0 (.inl (of_decide_eq_true e)))) (fun e => ?_)⟩
    have m1 : ¬ m < 2 := fun q => e (decide_eq_true q)
    refine ⟨_, rfl, _, _, rfl, rfl, _, rfl, ite2 (fun e => bad0 (.inr (of_decide_eq_true e))) (fun e => ?_)⟩
    have m2 : ¬ 100 < m := fun q => e (decide_eq_true q)
    unfold dueI at hQ
    rw [if_neg (by omega)] at hQ
    have bad1 : ¬ Good r m → Q (.int 1) H := fun h => by
      rw [if_neg h] at hQ
      exact hQ
    refine ⟨_, rfl, a, _, rfl, .inr hT, _, _, rfl, rfl, _, rfl, ?_⟩
    rw [len_I]
    refine ite2 (fun e => iteT (bad1 fun g => ?_)) (fun e => ?_)
    · have e := of_decide_eq_true e
      have := g.1
      omega
    have l1 : ¬ (r.length : Int) < 2 := fun q => e (decide_eq_true q)
    refine ⟨_, rfl, a, _, rfl, .inr hT, _, _, rfl, rfl, _, rfl, ?_⟩
    rw [len_I]
    refine ite2 (fun e => iteT (bad1 fun g => ?_)) (fun e => ?_)
    · have e := of_decide_eq_true e
      have := g.2.1
      omega
    have l2 : ¬ 12 < (r.length : Int) := fun q => e (decide_eq_true q)
    refine ⟨_, rfl, a, r, rfl, hT, by omega, fun x hx1 hx2 => ⟨_, _, rfl, rfl, _, rfl, ite2 (fun e => iteT (bad1 fun g => ?_)) (fun e => ?_)⟩⟩
    · have e := of_decide_eq_true e
      have := (g.2.2 x hx1).1
      omega
    have x0 : ¬ x < 0 := fun q => e (decide_eq_true q)
    refine ⟨_, rfl, a, r, rfl, hT, by omega, fun y hy1 hy2 => ⟨_, rfl, _, _, rfl, rfl, _, rfl, ite2 (fun e => bad1 fun g => ?_) (fun e => ?_)⟩⟩
    · have e := of_decide_eq_true e
      have := (g.2.2 y hy1).2
      omega
    have y0 : ¬ m ≤ y := fun q => e (decide_eq_true q)
    rw [if_pos ⟨by omega, by omega, fun z hz => by have := hx2 z hz; have := hy2 z hz; omega⟩] at hQ
    exact hQ
def sp_law_asked (K : PySem.W.Frag) (cN cR : Addr) : Sp := fun vs H Q E => ∃ (a : Addr) (r : List Int) (m wy mc : Int), vs = [.ref a, .int m, .int wy, .int mc] ∧ SqT K H a (I r) ∧
  ∀ H', Same H H' → Held cN cR r m H' E (wy = 0 ∧ ∀ H2, Same H' H2 → Q .non H2)
theorem ok_law_asked (D : Df K mg "_law_asked" s_law_asked p_law_asked f fd)
    (D1 : Df K mg "able" s_able p_able f1 fd1) (G1 : FnOk P w K mg base (L2N.CX P w) 3 f1 fd1 p_able (sp_able K cN cR))
    (D2 : Df K mg "stepped" s_stepped p_stepped f2 fd2) (G2 : FnOk P w K mg base (L2N.CX P w) 3 f2 fd2 p_stepped (sp_stepped K cN cR cM cW))
    (D3 : Df K mg "gone" s_gone p_gone f3 fd3) (G3 : FnOk P w K mg base (L2N.CX P w) 3 f3 fd3 p_gone (sp_gone K cN cR cM cW))
    (D4 : Df K mg "drawn" s_drawn p_drawn f4 fd4) (G4 : FnOk P w K mg base (L2N.CX P w) 4 f4 fd4 p_drawn (sp_drawn K cN cR))
    (D5 : Df K mg "traced" s_traced p_traced f5 fd5) (G5 : FnOk P w K mg base (L2N.CX P w) 3 f5 fd5 p_traced (sp_traced K cN cR cM cW))
    (D6 : Df K mg "healed" s_healed p_healed f6 fd6) (G6 : FnOk P w K mg base (L2N.CX P w) 3 f6 fd6 p_healed (sp_healed K cN cR))
    (D7 : Df K mg "healing" s_healing p_healing f7 fd7) (G7 : FnOk P w K mg base (L2N.CX P w) 4 f7 fd7 p_healing (sp_healing K cN cR))
    (D8 : Df K mg "turns" s_turns p_turns f8 fd8) (G8 : FnOk P w K mg base (L2N.CX P w) 3 f8 fd8 p_turns (sp_turns K cN cR cH)) :
    FnOk P w K mg base (L2N.CX P w) 5 f fd p_law_asked (sp_law_asked K cN cR) := by
  refine Fun.okN D.F sc_law_asked (fun vs H Q E h => ?_) (fun cdv A outer s H vs Q E hr h => ?_)
  · obtain ⟨a, r, m, wy, mc, rfl, _⟩ := h
    rfl
  · obtain ⟨a, r, m, wy, mc, rfl, hT, hH⟩ := h
    have hr3 : Room 3 _ := hr.mono (by decide)
    refine ⟨_, pss_one (ps_if (pt_cmpR op_eq (pv 2) pe_int (nomark _)) (pss_one (ps_expr (pe_call G1 hr3 (by rfl) D1.g D1.F.kp D1.b .nil (L2N.passes_call (L2N.takes_of rfl rfl rfl rfl) (fun _ _ _ _ h => h)) (pa_cons (pv 0) (pa_cons (pv 1) pa_nil)))))
      (pss_one (ps_if (pt_cmpR op_eq (pv 2) pe_int (nomark _)) (pss_one (ps_expr (pe_call G2 hr3 (by rfl) D2.g D2.F.kp D2.b .nil (L2N.passes_call (L2N.takes_of rfl rfl rfl rfl) (fun _ _ _ _ h => h)) (pa_cons (pv 0) (pa_cons (pv 1) (pa_cons (pv 3) pa_nil))))))
      (pss_one (ps_if (pt_cmpR op_eq (pv 2) pe_int (nomark _)) (pss_one (ps_expr (pe_call G3 hr3 (by rfl) D3.g D3.F.kp D3.b .nil (L2N.passes_call (L2N.takes_of rfl rfl rfl rfl) (fun _ _ _ _ h => h)) (pa_cons (pv 0) (pa_cons (pv 1) (pa_cons (pe_lst (pa_cons (pv 3) pa_nil)) pa_nil))))))
      (pss_one (ps_if (pt_cmpR op_eq (pv 2) pe_int (nomark _)) (pss_one (ps_expr (pe_call G4 hr (by rfl) D4.g D4.F.kp D4.b .nil (L2N.passes_call (L2N.takes_of rfl rfl rfl rfl) (fun _ _ _ _ h => h)) (pa_cons (pv 0) (pa_cons (pv 1) (pa_cons (pe_lst (pa_cons pe_int pa_nil)) (pa_cons pe_int pa_nil)))))))
      (pss_one (ps_if (pt_cmpR op_eq (pv 2) pe_int (nomark _)) (pss_one (ps_expr (pe_call G5 hr3 (by rfl) D5.g D5.F.kp D5.b .nil (L2N.passes_call (L2N.takes_of rfl rfl rfl rfl) (fun _ _ _ _ h => h)) (pa_cons (pv 0) (pa_cons (pv 1) (pa_cons (pe_lst (pa_cons (pv 3) pa_nil)) pa_nil))))))
      (pss_one (ps_if (pt_cmpR op_eq (pv 2) pe_int (nomark _)) (pss_one (ps_expr (pe_call G6 hr3 (by rfl) D6.g D6.F.kp D6.b .nil (L2N.passes_call (L2N.takes_of rfl rfl rfl rfl) (fun _ _ _ _ h => h)) (pa_cons (pv 0) (pa_cons (pv 1) pa_nil)))))
      (pss_one (ps_if (pt_cmpR op_eq (pv 2) pe_int (nomark _)) (pss_one (ps_expr (pe_call G7 hr (by rfl) D7.g D7.F.kp D7.b .nil (L2N.passes_call (L2N.takes_of rfl rfl rfl rfl) (fun _ _ _ _ h => h)) (pa_cons (pv 0) (pa_cons (pv 1) (pa_cons (pe_lst (pa_cons pe_int pa_nil)) pa_nil))))))
      (pss_one (ps_expr (pe_call G8 hr3 (by rfl) D8.g D8.F.kp D8.b .nil (L2N.passes_call (L2N.takes_of rfl rfl rfl rfl) (fun _ _ _ _ h => h)) (pa_cons (pv 0) (pa_cons (pv 1) pa_nil)))))))))))))))))), ?_⟩
    have no : ∀ (k : Int) (Z : Prop), V.int wy = V.int k → k ≠ 0 → wy = 0 → Z := fun k Z e k0 z => absurd ((V.int.inj e).symm.trans z) k0
    refine ⟨_, rfl, rfl, _, rfl, ite2 (fun e => ?_) (fun e0 => ?_)⟩
    · exact ⟨_, rfl, _, rfl, a, r, m, rfl, hT, (hH H (Same.refl H)).imp fun _ _ _ z H' p s1 _ _ => z.2 H' s1⟩
    refine ⟨_, rfl, rfl, _, rfl, ite2 (fun e => ?_) (fun _ => ?_)⟩
    · exact ⟨_, rfl, _, rfl, _, rfl, a, r, m, mc, rfl, hT, (hH H (Same.refl H)).imp fun _ _ _ z => no 1 _ (of_decide_eq_true e) (by decide) z.1⟩
    refine ⟨_, rfl, rfl, _, rfl, ite2 (fun e => ?_) (fun _ => ?_)⟩
    · exact ⟨_, rfl, _, rfl, _, rfl, big (by show 1 ≤ 1000; decide), fun q hq => ⟨a, q, r, [mc], m, rfl, (same_upd hq).tup hT, lstOf upd_same, (by show 1 ≤ 1000; decide), (hH _ (same_upd hq)).imp fun _ _ _ z => no 2 _ (of_decide_eq_true e) (by decide) z.1⟩⟩
    refine ⟨_, rfl, rfl, _, rfl, ite2 (fun e => ?_) (fun _ => ?_)⟩
    · exact ⟨_, rfl, _, rfl, big (by show 1 ≤ 1000; decide), fun q hq => ⟨a, q, r, [1], m, 3, rfl, (same_upd hq).tup hT, lstOf upd_same, (by show 3 ≤ 1000; decide), (hH _ (same_upd hq)).imp fun _ _ _ z => no 3 _ (of_decide_eq_true e) (by decide) z.1⟩⟩
    refine ⟨_, rfl, rfl, _, rfl, ite2 (fun e => ?_) (fun _ => ?_)⟩
    · exact ⟨_, rfl, _, rfl, _, rfl, big (by show 1 ≤ 1000; decide), fun q hq => ⟨a, q, r, [mc], m, rfl, (same_upd hq).tup hT, lstOf upd_same, (by show 1 ≤ 1000; decide), (hH _ (same_upd hq)).imp fun _ _ _ z => no 4 _ (of_decide_eq_true e) (by decide) z.1⟩⟩
    refine ⟨_, rfl, rfl, _, rfl, ite2 (fun e => ?_) (fun _ => ?_)⟩
    · exact ⟨_, rfl, _, rfl, a, r, m, rfl, hT, (hH H (Same.refl H)).imp fun _ _ _ z => no 5 _ (of_decide_eq_true e) (by decide) z.1⟩
    refine ⟨_, rfl, rfl, _, rfl, ite2 (fun e => ?_) (fun _ => ?_)⟩
    · exact ⟨_, rfl, _, rfl, big (by show 1 ≤ 1000; decide), fun q hq => ⟨a, q, r, [1], m, rfl, (same_upd hq).tup hT, lstOf upd_same, (hH _ (same_upd hq)).imp fun _ _ _ z => no 6 _ (of_decide_eq_true e) (by decide) z.1⟩⟩
    exact ⟨_, rfl, _, rfl, a, r, m, rfl, hT, (hH H (Same.refl H)).imp fun _ _ _ z => absurd (decide_eq_true (show V.int wy = V.int 0 by rw [z.1])) e0⟩
def sp_law_told (K : PySem.W.Frag) : Sp := fun vs H Q _ => ∃ (a : Addr) (r : List Int) (m wy mc : Int), vs = [.ref a, .int m, .int wy, .int mc] ∧ SqT K H a (I r) ∧ (2 ≤ m → m ≤ 100 → Good r m → wy = 0) ∧
  ∀ H', Same H H' → Q (.int (dueI r m)) H'
theorem ok_law_told {c0 c1 c2 c3 c4 c5 : Addr} (D : Df K mg "_law_told" s_law_told p_law_told f fd) (B : Bt mg) (CE : Cl K mg "HealError" cE) (KN : Kd K [c0, c1, c2, c3, c4, c5] cE c0 0) (KR : Kd K [c0, c1, c2, c3, c4, c5] cE c1 1)
    (D1 : Df K mg "_law_asked" s_law_asked p_law_asked f1 fd1) (G1 : FnOk P w K mg base (L2N.CX P w) 5 f1 fd1 p_law_asked (sp_law_asked K c0 c1))
    (D2 : Df K mg "_law_only" s_law_only p_law_only f2 fd2) (G2 : FnE P w K mg base 1 f2 fd2 p_law_only (sp_law_only K [c0, c1, c2, c3, c4, c5] cE)) :
    FnOk P w K mg base (L2N.CX P w) 6 f fd p_law_told (sp_law_told K) := by
  refine Fun.okN D.F sc_law_told (fun vs H Q E h => ?_) (fun cdv A outer s H vs Q E hr h => ?_)
  · obtain ⟨a, r, m, wy, mc, rfl, _⟩ := h
    rfl
  · obtain ⟨a, r, m, wy, mc, rfl, hT, hg, hQ⟩ := h
    refine ⟨_, pss_cons (L2N.ps_try_as (i := 4) (tb := fun W => tDrop (tCallS (sp_law_asked K c0 c1) (WE W) (tCons (tVar 0) (tCons (tVar 1) (tCons (tVar 2) (tCons (tVar 3) tNil))))))
        (ts := fun a cls d => tSeq (tFor (iRng1 (tCons (tC (.int 2)) tNil)) (gName 5) (tIfS (tB (tCallE (sp_law_only K [c0, c1, c2, c3, c4, c5] cE cls d a) (tCons (tVar 4) (tCons (tVar 5) tNil)))) (tRet (tVar 5)) tNext)) (tRet (tUn (rU fun i => .int (-i)) (tC (.int 1)))))
        (Wout := fun _ _ _ _ => False) rfl rfl sc_law_told.nd rfl rfl ⟨rfl, by decide, .inl CE.g⟩ takesN
        (fun W pn xe tk _ => pss_one (ps_expr (by exact pe_callS G1 hr rfl D1.g D1.F.kp D1.b (fun σ => L2N.passAt tk σ) (by exact pa_cons (pv 0) (pa_cons (pv 1) (pa_cons (pv 2) (pa_cons (pv 3) pa_nil)))))))
        (fun a oe cls d pn hz hf => pss_cons (L2H.ps_forH PassesOwn.never (hot_of hz hf) (pi_range1H rfl B.range (pa_cons pe_int pa_nil)) (pg_name (i := 5) sc_law_told.nd rfl (.inl rfl))
          (pss_one (ps_if (pt_val (by exact pe_callE G2 ⟨(L2H.roomH_of (hr.mono (by decide) : Room 1 _)).dp, (L2H.roomH_of (hr.mono (by decide) : Room 1 _)).un⟩ List.mem_cons_self hz.zc hf rfl D2.g D2.F.kp D2.b (pa_cons (pv 4) (pa_cons (pv 5) pa_nil))))
            (pss_one (ps_ret (pv 5))) pss_nil))) (pss_one (ps_ret (pe_un un_neg pe_int)))))
      (pss_one (ps_ret pe_int)), ?_⟩
    have key : ∀ (D0 : Addr) (j : Nat) (H1 : Hp), Same H H1 → Kd K [c0, c1, c2, c3, c4, c5] cE D0 j → j < 2 → dueI r m = (j : Int) →
        wAs K (.ref cE) 4 (fun a cls d => tSeq (tFor (iRng1 (tCons (tC (.int 2)) tNil)) (gName 5) (tIfS (tB (tCallE (sp_law_only K [c0, c1, c2, c3, c4, c5] cE cls d a) (tCons (tVar 4) (tCons (tVar 5) tNil)))) (tRet (tVar 5)) tNext)) (tRet (tUn (rU fun i => .int (-i)) (tC (.int 1))))) (fun _ _ _ _ => False)
          { nx := fun σ' H' => tRet (tC (.int 7)) { nx := fun _ H' => Q .non H', rt := Q } σ' H', rt := Q } (.ref D0) none [some (.ref a), some (.int m), some (.int wy), some (.int mc), none, none] H1 := fun D0 j H1 s1 kd h2 ej => by
      refine ⟨true, kd.m, fun _ a0 ha0 => ?_, fun q => nomatch q⟩
      refine ⟨2, rfl, by decide, by decide, for_range (lo := 0) (n := 2) (fun i σ H' => ∃ y, σ = [some (.ref a), some (.int m), some (.int wy), some (.int mc), some (.ref a0), y] ∧ Same H H' ∧ ∀ i', i' < i → i' ≠ j) ⟨none, rfl, s1, fun i' h => by omega⟩ ?_ ?_⟩
      · rintro i σ H' hi ⟨y, rfl, sm, hno⟩
        refine ⟨_, rfl, _, rfl, D0, j, i, rfl, rfl, kd, by omega, by rw [Int.zero_add], by omega, rfl, fun H2 s2 => ⟨_, rfl, ite2 (fun e => ?_) (fun e => ?_)⟩⟩
        · have e := of_decide_eq_true e
          refine ⟨_, rfl, ?_⟩
          have := hQ H2 (sm.trans s2)
          rw [ej, ← e] at this
          rw [Int.zero_add]
          exact this
        · refine ⟨_, rfl, sm.trans s2, fun i' h => ?_⟩
          by_cases c : i' = i
          · subst c
            exact fun q => e (decide_eq_true q)
          · exact hno i' (by omega)
      · rintro σ H' ⟨y, rfl, sm, hno⟩
        have q1 := hno 0 (by decide)
        have q2 := hno 1 (by decide)
        omega
    refine ⟨_, rfl, _, rfl, _, rfl, _, rfl, a, r, m, wy, mc, rfl, hT, fun H1 s1 => ⟨fun h0 => key c0 0 H1 s1 KN (by decide) ?_, fun h1 h2 ng => key c1 1 H1 s1 KR (by decide) ?_, fun h1 h2 g => ⟨hg h1 h2 g, fun H2 s2 => ?_⟩⟩⟩
    · unfold dueI
      rw [if_pos h0]
      rfl
    · unfold dueI
      rw [if_neg (by omega), if_neg ng]
      rfl
    · have := hQ H2 (s1.trans s2)
      unfold dueI at this
      rw [if_neg (by omega), if_pos g] at this
      exact this
def sp_law (K : PySem.W.Frag) : Sp := fun vs H Q _ => ∃ (a : Addr) (ns : List Int), vs = [.ref a] ∧ SqL K H a (I ns) ∧ ∀ H', Q (.bl true) H'
theorem ok_law (D : Df K mg "law" s_law p_law f fd) (B : Bt mg)
    (D1 : Df K mg "_law_size" s_law_size p_law_size f1 fd1) (G1 : FnOk P w K mg base (L2N.CX P w) 2 f1 fd1 p_law_size (sp_law_size K))
    (D2 : Df K mg "_law_many" s_law_many p_law_many f2 fd2) (G2 : FnOk P w K mg base (L2N.CX P w) 2 f2 fd2 p_law_many (sp_law_many K))
    (D3 : Df K mg "_law_ring" s_law_ring p_law_ring f3 fd3) (G3 : FnOk P w K mg base (L2N.CX P w) 2 f3 fd3 p_law_ring (sp_law_ring K))
    (D4 : Df K mg "_law_wrong" s_law_wrong p_law_wrong f4 fd4) (G4 : FnOk P w K mg base (L2N.CX P w) 2 f4 fd4 p_law_wrong (sp_law_wrong K))
    (D5 : Df K mg "_law_due" s_law_due p_law_due f5 fd5) (G5 : FnOk P w K mg base (L2N.CX P w) 1 f5 fd5 p_law_due (sp_law_due K))
    (D6 : Df K mg "_law_told" s_law_told p_law_told f6 fd6) (G6 : FnOk P w K mg base (L2N.CX P w) 6 f6 fd6 p_law_told (sp_law_told K))
    (D7 : Df K mg "able" s_able p_able f7 fd7) (G7 : FnOk P w K mg base (L2N.CX P w) 3 f7 fd7 p_able (sp_able K cN cR))
    (D8 : Df K mg "_law_listed" s_law_listed p_law_listed f8 fd8) (G8 : FnOk P w K mg base (L2N.CX P w) 3 f8 fd8 p_law_listed (sp_law_listed K))
    (D9 : Df K mg "_law_able" s_law_able p_law_able f9 fd9) (G9 : FnOk P w K mg base (L2N.CX P w) 1 f9 fd9 p_law_able (sp_law_able K))
    (D10 : Df K mg "_law_cell_at" s_law_cell_at p_law_cell_at f10 fd10) (G10 : FnOk P w K mg base (L2N.CX P w) 1 f10 fd10 p_law_cell_at (sp_law_cell_at K)) :
    FnOk P w K mg base (L2N.CX P w) 7 f fd p_law (sp_law K) := by
  refine Fun.okN D.F sc_law (fun vs H Q E h => ?_) (fun cdv A outer s H vs Q E hr h => ?_)
  · obtain ⟨a, ns, rfl, _⟩ := h
    rfl
  · obtain ⟨a, ns, rfl, hS, hQ⟩ := h
    have hr1 : Room 1 _ := hr.mono (by decide)
    have hr2 : Room 2 _ := hr.mono (by decide)
    have hr3 : Room 3 _ := hr.mono (by decide)
    obtain ⟨T, hT, hrest⟩ : ∃ T, PSs (cxOf (L2N.CX P w) P w K mg base n_law "law" (defScope s_law) f cdv A outer s H E) ((defBody s_law).drop 4) T ∧ ∀ (n : Nat) (m : Int) (r : List Int) (c2 : Addr) (H3 : Hp), r.length ≤ 1000 →
        Same H H3 → SqT K H3 c2 (I r) → T { nx := fun _ H' => Q .non H', rt := Q } [some (.ref a), some (.int (n : Int)), some (.int m), some (.ref c2), none, none, none] H3 := by
      refine ⟨_, pss_cons (ps_set (i := 4) sc_law.nd rfl (.inr rfl) (pe_call G5 hr1 (by rfl) D5.g D5.F.kp D5.b .nil passN (pa_cons (pv 3) (pa_cons (pv 2) pa_nil))))
        (pss_cons (ps_if (pt_cmpR op_ne (pv 4) pe_int (nomark _))
          (pss_cons (ps_set (i := 5) sc_law.nd rfl (.inr rfl) (pe_ix ix_list (pe_lst (pa_cons pe_int (pa_cons (pe_un un_neg pe_int) (pa_cons pe_int (pa_cons pe_int pa_nil))))) (pe_op op_mod (pe_call G10 hr1 (by rfl) D10.g D10.F.kp D10.b .nil passN (pa_cons (pv 0) (pa_cons pe_int pa_nil))) pe_int) (fun _ _ => rfl)))
          (pss_one (ps_ret (pe_cmpR (op_eqI hr.units) (pe_lc (own := [("_law_way", 6)]) (g := gName 6) rfl sc_law.nd (pi_range1 rfl B.range (pa_cons pe_int pa_nil)) (blkOk_by (N := n_law) (sc := defScope s_law) (by decide +kernel)) (fun _ _ _ _ _ => pg_name (i := 6) sc_law.nd rfl (Or.inl rfl))
            (fun _ _ _ _ _ => pts_one (pt_cmpR op_ne (pe_call G6 hr (by rfl) D6.g D6.F.kp D6.b .nil passN (pa_cons (pv 3) (pa_cons (pv 2) (pa_cons (pv 6) (pa_cons (pv 5) pa_nil))))) (pv 4) (nomark _))) (fun _ _ _ _ _ => pv 6)) (pe_lst pa_nil) (nomark _))))) pss_nil)
        (pss_cons (ps_if (pt_cmpR op_ne (pe_call G6 hr (by rfl) D6.g D6.F.kp D6.b .nil passN (pa_cons (pv 3) (pa_cons (pv 2) (pa_cons pe_int (pa_cons pe_int pa_nil))))) pe_int (nomark _)) (pss_one (ps_ret pe_bl)) pss_nil)
        (pss_one (ps_ret (pe_and (pe_call G8 hr3 (by rfl) D8.g D8.F.kp D8.b .nil passN (pa_cons (pe_call G7 hr3 (by rfl) D7.g D7.F.kp D7.b .nil passN (pa_cons (pv 3) (pa_cons (pv 2) pa_nil))) (pa_cons (pe_call G9 hr1 (by rfl) D9.g D9.F.kp D9.b .nil passN (pa_cons (pv 3) pa_nil)) pa_nil)))
          (pe_one (pe_cmpR (op_neI hr.units) (pe_call G7 hr3 (by rfl) D7.g D7.F.kp D7.b .nil passN (pa_cons (pv 3) (pa_cons (pv 2) pa_nil))) (pe_lst pa_nil) (nomark _)))))))), fun n m r c2 H3 hl s3 h2 => ?_⟩
      refine ⟨_, rfl, _, rfl, c2, r, m, rfl, h2, hl, ?_⟩
      refine ⟨_, rfl, rfl, _, rfl, ite2 (fun e => ?_) (fun e => ?_)⟩
      · have ne : dueI r m ≠ 7 := fun q => by rw [q, decide_eq_true rfl] at e; exact absurd e (by decide)
        have hg : 2 ≤ m → m ≤ 100 → ¬ Good r m := fun h1 h2 g => ne (by unfold dueI; rw [if_neg (by omega), if_pos g])
        refine ⟨_, rfl, big (by show 4 ≤ 1000; decide), fun q hq => ?_⟩
        have t1 := same_upd (o := .lst [V.int 0, V.int (-1), V.int 99, V.int 1]) hq
        have b1 := Int.emod_nonneg (at0 ns 17) (show (4 : Int) ≠ 0 by decide)
        have b2 := Int.emod_lt_of_pos (at0 ns 17) (show (0 : Int) < 4 by decide)
        refine ⟨_, rfl, a, ns, 17, rfl, (s3.trans t1).seq hS, _, _, rfl, rfl, (by show (0 : Int) < 4; decide), q, _, _, _, rfl, rfl, lstOf upd_same, atI_I (r := [0, -1, 99, 1]) (k := (at0 ns 17 % 4).toNat) (by omega) (by show _ < 4; omega), ?_⟩
        refine ⟨8, rfl, by decide, by decide, fun L hL => ?_⟩
        refine lc_r0 (n := 8) (fun _ => false) (fun i => V.int (i : Int)) hL (by decide) (fun i H5 hi s5 Zc Mx hz hx => ?_) fun H5 s5 e5 => ?_
        · refine ⟨rfl, _, rfl, _, rfl, _, rfl, _, rfl, c2, r, m, _, _, rfl, s5.tup (t1.tup h2), fun h1 h2 g => absurd g (hg h1 h2), fun H6 s6 => ⟨_, rfl, rfl, _, rfl, ?_⟩⟩
          rw [decide_eq_true rfl]
          exact iteF (hx rfl H6 s6)
        rw [kept_none fun _ _ => rfl] at e5
        refine ⟨big (by show 0 ≤ 1000; decide), fun L4 hL4 => ⟨L, L4, [], [], rfl, rfl, .inl ⟨lstOf ((same_upd hL4) _ _ e5), lstOf upd_same⟩, ?_⟩⟩
        rw [decide_eq_true rfl]
        exact hQ _
      · have e7 : dueI r m = 7 := Classical.byContradiction fun ne => e (by rw [decide_eq_false fun q => ne (V.int.inj q)]; rfl)
        have hg : (2 ≤ m ∧ m ≤ 100) ∧ Good r m := by
          unfold dueI at e7
          by_cases c1 : m < 2 ∨ 100 < m
          · rw [if_pos c1] at e7
            exact absurd e7 (by decide)
          · rw [if_neg c1] at e7
            by_cases g : Good r m
            · exact ⟨by omega, g⟩
            · rw [if_neg g] at e7
              exact absurd e7 (by decide)
        obtain ⟨⟨m1, m2⟩, g⟩ := hg
        have held : ∀ {H : Hp} {E : XK} {Z : Prop}, Z → Held cN cR r m H E Z := fun z => ⟨fun h => by omega, fun _ _ h => absurd g h, fun _ _ _ => z⟩
        have g1 := g.1
        have g2 := g.2.1
        refine ⟨_, rfl, _, rfl, c2, r, m, 0, 0, rfl, h2, fun _ _ _ => rfl, fun H4 s4 => ⟨rfl, _, rfl, ?_⟩⟩
        rw [e7, decide_eq_true rfl]
        refine iteF ?_
        have h4 := s4.tup h2
        have al : (able r).length ≤ r.length := Nat.le_trans (List.length_filter_le _ _) (by rw [List.length_range]; exact Nat.le_refl _)
        refine ⟨_, rfl, _, rfl, c2, r, m, rfl, h4, held fun H5 p5 s5 hp5 e5 => ?_⟩
        have h5 := s5.tup h4
        refine ⟨_, rfl, c2, r, rfl, .inr h5, by omega, fun H6 p6 s6 hp6 e6 => ?_⟩
        have e56 := s6 _ _ e5
        rw [N_Z] at e56 e6
        refine ⟨p5, p6, Z (able r), Z (able r), rfl, lstOf e56, lstOf e6, by rw [List.length_map]; omega, by rw [List.length_map]; omega, fun H7 s7 => ?_⟩
        rw [decide_eq_true rfl]
        refine ⟨_, rfl, iteT ⟨_, rfl, _, rfl, c2, r, m, rfl, (s6.trans s7).tup h5, held fun H8 p8 s8 hp8 e8 => ?_⟩⟩
        rw [N_Z] at e8
        refine ⟨big (by show 0 ≤ 1000; decide), fun q hq => ⟨p8, q, Z (able r), [], rfl, rfl, .inl ⟨lstOf ((same_upd hq) _ _ e8), lstOf upd_same⟩, ?_⟩⟩
        have ne : Z (able r) ≠ [] := fun q => able_ne (r := r) (by omega) (List.map_eq_nil_iff.mp q)
        rw [decide_eq_false ne]
        exact hQ _
    refine ⟨_, pss_cons (ps_set (i := 1) sc_law.nd rfl (.inl rfl) (pe_call G1 hr2 (by rfl) D1.g D1.F.kp D1.b .nil passN (pa_cons (pv 0) pa_nil)))
      (pss_cons (ps_set (i := 2) sc_law.nd rfl (.inr rfl) (pe_call G2 hr2 (by rfl) D2.g D2.F.kp D2.b .nil passN (pa_cons (pv 0) (pa_cons (pv 1) pa_nil))))
      (pss_cons (ps_set (i := 3) sc_law.nd rfl (.inr rfl) (pe_call G3 hr2 (by rfl) D3.g D3.F.kp D3.b .nil passN (pa_cons (pv 0) (pa_cons (pv 1) (pa_cons (pv 2) pa_nil)))))
      (pss_cons (ps_if (pt_cmpR op_eq (pe_op op_mod (pe_call G10 hr1 (by rfl) D10.g D10.F.kp D10.b .nil passN (pa_cons (pv 0) (pa_cons pe_int pa_nil))) pe_int) pe_int (nomark _))
        (pss_one (ps_asg (pe_call G4 hr2 (by rfl) D4.g D4.F.kp D4.b .nil passN (pa_cons (pv 3) (pa_cons (pv 2) (pa_cons (pe_op op_fdiv (pe_call G10 hr1 (by rfl) D10.g D10.F.kp D10.b .nil passN (pa_cons (pv 0) (pa_cons pe_int pa_nil))) pe_int) pa_nil))))
          (pg_tup rfl (pgs_cons (pg_name (i := 3) sc_law.nd rfl (.inr rfl)) (pgs_cons (pg_name (i := 2) sc_law.nd rfl (.inr rfl)) pgs_nil))))) pss_nil)
      hT))), ?_⟩
    obtain ⟨_, hn2, hn12⟩ := sizeI_is ns
    obtain ⟨n, hn⟩ : ∃ n, n = sizeF ns := ⟨_, rfl⟩
    rw [← hn] at hn2 hn12
    refine ⟨_, rfl, a, ns, rfl, hS, ?_⟩
    rw [← hn]
    obtain ⟨m, hm⟩ : ∃ m, m = manyF ns (n : Int) := ⟨_, rfl⟩
    obtain ⟨hm2, hm100⟩ := manyF_in ns (n := (n : Int)) (by omega) (by omega)
    rw [← hm] at hm2 hm100
    refine ⟨_, rfl, _, rfl, a, ns, (n : Int), rfl, hS, fun H1 s1 => ?_⟩
    rw [← hm]
    refine ⟨_, rfl, _, rfl, _, rfl, a, ns, n, m, rfl, s1.seq hS, hn2, hn12, hm2, hm100, fun H2 c2 s2 h2 => ?_⟩
    have S2 := s1.trans s2
    obtain ⟨r, hrr⟩ : ∃ r, r = ringF ns n m := ⟨_, rfl⟩
    have R : Ring n m r := by rw [hrr]; exact ringF_ring ns hn2 hm2
    have rl := R.len
    rw [← hrr] at h2
    refine ⟨_, rfl, a, ns, 3, rfl, S2.seq hS, _, _, rfl, rfl, (by show (0 : Int) < 2; decide), rfl, _, rfl, ite2 (fun _ => ?_) (fun _ => ?_)⟩
    · refine ⟨_, rfl, _, rfl, _, rfl, a, ns, 3, rfl, S2.seq hS, _, _, rfl, rfl, ⟨by decide, by decide⟩, c2, r, m, _, n, rfl, h2, rl, by omega, hn12, fun H4 t p r2 m2 s4 ht hp hl => ?_⟩
      exact ⟨t, _, rfl, ht, rfl, _, _, rfl, _, _, rfl, rfl, hrest n m2 r2 p H4 hl (S2.trans s4) hp⟩
    · exact hrest n m r c2 H2 (by omega) S2 h2
end
end HW
namespace HW
open PySem PySem.Spec PyProof.Rows L2 HR
theorem all_mk {l : PySem.W.OpenLaw} {w : World} {K : PySem.W.Frag} {h : Heap} {mg : Str → Option Value} {fa : Addr} (X : K.In h) (G : h.Ns mainGlobals mg) (hfa : mg "law" = some (.ref fa))
    {f_need_numbers : Addr} {od_need_numbers an_need_numbers : Option Addr} {sl_need_numbers : Array (Option Value)} {oc_need_numbers kV_need_numbers dc_need_numbers pm_need_numbers cd_need_numbers ct_need_numbers : Value}
    {f_need_machines : Addr} {od_need_machines an_need_machines : Option Addr} {sl_need_machines : Array (Option Value)} {oc_need_machines kV_need_machines dc_need_machines pm_need_machines cd_need_machines ct_need_machines : Value}
    {f_need_ring : Addr} {od_need_ring an_need_ring : Option Addr} {sl_need_ring : Array (Option Value)} {oc_need_ring kV_need_ring dc_need_ring pm_need_ring cd_need_ring ct_need_ring : Value}
    {f_may : Addr} {od_may an_may : Option Addr} {sl_may : Array (Option Value)} {oc_may kV_may dc_may pm_may cd_may ct_may : Value}
    {f_able_of : Addr} {od_able_of an_able_of : Option Addr} {sl_able_of : Array (Option Value)} {oc_able_of kV_able_of dc_able_of pm_able_of cd_able_of ct_able_of : Value}
    {f_able : Addr} {od_able an_able : Option Addr} {sl_able : Array (Option Value)} {oc_able kV_able dc_able pm_able cd_able ct_able : Value}
    {f_moved : Addr} {od_moved an_moved : Option Addr} {sl_moved : Array (Option Value)} {oc_moved kV_moved dc_moved pm_moved cd_moved ct_moved : Value}
    {f_step_of : Addr} {od_step_of an_step_of : Option Addr} {sl_step_of : Array (Option Value)} {oc_step_of kV_step_of dc_step_of pm_step_of cd_step_of ct_step_of : Value}
    {f_stepped : Addr} {od_stepped an_stepped : Option Addr} {sl_stepped : Array (Option Value)} {oc_stepped kV_stepped dc_stepped pm_stepped cd_stepped ct_stepped : Value}
    {f_gone : Addr} {od_gone an_gone : Option Addr} {sl_gone : Array (Option Value)} {oc_gone kV_gone dc_gone pm_gone cd_gone ct_gone : Value}
    {f_next_of : Addr} {od_next_of an_next_of : Option Addr} {sl_next_of : Array (Option Value)} {oc_next_of kV_next_of dc_next_of pm_next_of cd_next_of ct_next_of : Value}
    {f_drawn : Addr} {od_drawn an_drawn : Option Addr} {sl_drawn : Array (Option Value)} {oc_drawn kV_drawn dc_drawn pm_drawn cd_drawn ct_drawn : Value}
    {f_traced : Addr} {od_traced an_traced : Option Addr} {sl_traced : Array (Option Value)} {oc_traced kV_traced dc_traced pm_traced cd_traced ct_traced : Value}
    {f_healed : Addr} {od_healed an_healed : Option Addr} {sl_healed : Array (Option Value)} {oc_healed kV_healed dc_healed pm_healed cd_healed ct_healed : Value}
    {f_healing : Addr} {od_healing an_healing : Option Addr} {sl_healing : Array (Option Value)} {oc_healing kV_healing dc_healing pm_healing cd_healing ct_healing : Value}
    {f_most : Addr} {od_most an_most : Option Addr} {sl_most : Array (Option Value)} {oc_most kV_most dc_most pm_most cd_most ct_most : Value}
    {f_turns : Addr} {od_turns an_turns : Option Addr} {sl_turns : Array (Option Value)} {oc_turns kV_turns dc_turns pm_turns cd_turns ct_turns : Value}
    {f_law_cell_at : Addr} {od_law_cell_at an_law_cell_at : Option Addr} {sl_law_cell_at : Array (Option Value)} {oc_law_cell_at kV_law_cell_at dc_law_cell_at pm_law_cell_at cd_law_cell_at ct_law_cell_at : Value}
    {f_law_mixed : Addr} {od_law_mixed an_law_mixed : Option Addr} {sl_law_mixed : Array (Option Value)} {oc_law_mixed kV_law_mixed dc_law_mixed pm_law_mixed cd_law_mixed ct_law_mixed : Value}
    {f_law_size : Addr} {od_law_size an_law_size : Option Addr} {sl_law_size : Array (Option Value)} {oc_law_size kV_law_size dc_law_size pm_law_size cd_law_size ct_law_size : Value}
    {f_law_many : Addr} {od_law_many an_law_many : Option Addr} {sl_law_many : Array (Option Value)} {oc_law_many kV_law_many dc_law_many pm_law_many cd_law_many ct_law_many : Value}
    {f_law_ring : Addr} {od_law_ring an_law_ring : Option Addr} {sl_law_ring : Array (Option Value)} {oc_law_ring kV_law_ring dc_law_ring pm_law_ring cd_law_ring ct_law_ring : Value}
    {f_law_able : Addr} {od_law_able an_law_able : Option Addr} {sl_law_able : Array (Option Value)} {oc_law_able kV_law_able dc_law_able pm_law_able cd_law_able ct_law_able : Value}
    {f_law_listed : Addr} {od_law_listed an_law_listed : Option Addr} {sl_law_listed : Array (Option Value)} {oc_law_listed kV_law_listed dc_law_listed pm_law_listed cd_law_listed ct_law_listed : Value}
    {f_law_alike : Addr} {od_law_alike an_law_alike : Option Addr} {sl_law_alike : Array (Option Value)} {oc_law_alike kV_law_alike dc_law_alike pm_law_alike cd_law_alike ct_law_alike : Value}
    {f_law_only : Addr} {od_law_only an_law_only : Option Addr} {sl_law_only : Array (Option Value)} {oc_law_only kV_law_only dc_law_only pm_law_only cd_law_only ct_law_only : Value}
    {f_law_wrong : Addr} {od_law_wrong an_law_wrong : Option Addr} {sl_law_wrong : Array (Option Value)} {oc_law_wrong kV_law_wrong dc_law_wrong pm_law_wrong cd_law_wrong ct_law_wrong : Value}
    {f_law_due : Addr} {od_law_due an_law_due : Option Addr} {sl_law_due : Array (Option Value)} {oc_law_due kV_law_due dc_law_due pm_law_due cd_law_due ct_law_due : Value}
    {f_law_asked : Addr} {od_law_asked an_law_asked : Option Addr} {sl_law_asked : Array (Option Value)} {oc_law_asked kV_law_asked dc_law_asked pm_law_asked cd_law_asked ct_law_asked : Value}
    {f_law_told : Addr} {od_law_told an_law_told : Option Addr} {sl_law_told : Array (Option Value)} {oc_law_told kV_law_told dc_law_told pm_law_told cd_law_told ct_law_told : Value}
    {f_law : Addr} {od_law an_law : Option Addr} {sl_law : Array (Option Value)} {oc_law kV_law dc_law pm_law cd_law ct_law : Value}
    {C_HealError : Addr}
    {C_NoNumbers : Addr}
    {C_NoRing : Addr}
    {C_NoMachine : Addr}
    {C_NotNow : Addr}
    {C_NotHealed : Addr}
    {C_TooGreat : Addr}
    {t_LEAST : Tok}
    {t_MOST : Tok}
    {t_MOST_NUMBERS : Tok}
    (a_need_numbers : PySem.W.nsIn K mainGlobals "need_numbers" = some (some (.ref f_need_numbers))) (l_need_numbers : K.lookup f_need_numbers = some ⟨oc_need_numbers, od_need_numbers, .func (PySem.W.fnOf "need_numbers" "need_numbers" (defArgs s_need_numbers) (defBody s_need_numbers) (defScope s_need_numbers) .none kV_need_numbers dc_need_numbers pm_need_numbers an_need_numbers cd_need_numbers ct_need_numbers), sl_need_numbers⟩) (c_need_numbers : PySem.W.codeIn K cd_need_numbers "need_numbers" = true) (k_need_numbers : PySem.W.keepIn K (.ref f_need_numbers) = true)
    (a_need_machines : PySem.W.nsIn K mainGlobals "need_machines" = some (some (.ref f_need_machines))) (l_need_machines : K.lookup f_need_machines = some ⟨oc_need_machines, od_need_machines, .func (PySem.W.fnOf "need_machines" "need_machines" (defArgs s_need_machines) (defBody s_need_machines) (defScope s_need_machines) .none kV_need_machines dc_need_machines pm_need_machines an_need_machines cd_need_machines ct_need_machines), sl_need_machines⟩) (c_need_machines : PySem.W.codeIn K cd_need_machines "need_machines" = true) (k_need_machines : PySem.W.keepIn K (.ref f_need_machines) = true)
    (a_need_ring : PySem.W.nsIn K mainGlobals "need_ring" = some (some (.ref f_need_ring))) (l_need_ring : K.lookup f_need_ring = some ⟨oc_need_ring, od_need_ring, .func (PySem.W.fnOf "need_ring" "need_ring" (defArgs s_need_ring) (defBody s_need_ring) (defScope s_need_ring) .none kV_need_ring dc_need_ring pm_need_ring an_need_ring cd_need_ring ct_need_ring), sl_need_ring⟩) (c_need_ring : PySem.W.codeIn K cd_need_ring "need_ring" = true) (k_need_ring : PySem.W.keepIn K (.ref f_need_ring) = true)
    (a_may : PySem.W.nsIn K mainGlobals "may" = some (some (.ref f_may))) (l_may : K.lookup f_may = some ⟨oc_may, od_may, .func (PySem.W.fnOf "may" "may" (defArgs s_may) (defBody s_may) (defScope s_may) .none kV_may dc_may pm_may an_may cd_may ct_may), sl_may⟩) (c_may : PySem.W.codeIn K cd_may "may" = true) (k_may : PySem.W.keepIn K (.ref f_may) = true)
    (a_able_of : PySem.W.nsIn K mainGlobals "able_of" = some (some (.ref f_able_of))) (l_able_of : K.lookup f_able_of = some ⟨oc_able_of, od_able_of, .func (PySem.W.fnOf "able_of" "able_of" (defArgs s_able_of) (defBody s_able_of) (defScope s_able_of) .none kV_able_of dc_able_of pm_able_of an_able_of cd_able_of ct_able_of), sl_able_of⟩) (c_able_of : PySem.W.codeIn K cd_able_of "able_of" = true) (k_able_of : PySem.W.keepIn K (.ref f_able_of) = true)
    (a_able : PySem.W.nsIn K mainGlobals "able" = some (some (.ref f_able))) (l_able : K.lookup f_able = some ⟨oc_able, od_able, .func (PySem.W.fnOf "able" "able" (defArgs s_able) (defBody s_able) (defScope s_able) .none kV_able dc_able pm_able an_able cd_able ct_able), sl_able⟩) (c_able : PySem.W.codeIn K cd_able "able" = true) (k_able : PySem.W.keepIn K (.ref f_able) = true)
    (a_moved : PySem.W.nsIn K mainGlobals "moved" = some (some (.ref f_moved))) (l_moved : K.lookup f_moved = some ⟨oc_moved, od_moved, .func (PySem.W.fnOf "moved" "moved" (defArgs s_moved) (defBody s_moved) (defScope s_moved) .none kV_moved dc_moved pm_moved an_moved cd_moved ct_moved), sl_moved⟩) (c_moved : PySem.W.codeIn K cd_moved "moved" = true) (k_moved : PySem.W.keepIn K (.ref f_moved) = true)
    (a_step_of : PySem.W.nsIn K mainGlobals "step_of" = some (some (.ref f_step_of))) (l_step_of : K.lookup f_step_of = some ⟨oc_step_of, od_step_of, .func (PySem.W.fnOf "step_of" "step_of" (defArgs s_step_of) (defBody s_step_of) (defScope s_step_of) .none kV_step_of dc_step_of pm_step_of an_step_of cd_step_of ct_step_of), sl_step_of⟩) (c_step_of : PySem.W.codeIn K cd_step_of "step_of" = true) (k_step_of : PySem.W.keepIn K (.ref f_step_of) = true)
    (a_stepped : PySem.W.nsIn K mainGlobals "stepped" = some (some (.ref f_stepped))) (l_stepped : K.lookup f_stepped = some ⟨oc_stepped, od_stepped, .func (PySem.W.fnOf "stepped" "stepped" (defArgs s_stepped) (defBody s_stepped) (defScope s_stepped) .none kV_stepped dc_stepped pm_stepped an_stepped cd_stepped ct_stepped), sl_stepped⟩) (c_stepped : PySem.W.codeIn K cd_stepped "stepped" = true) (k_stepped : PySem.W.keepIn K (.ref f_stepped) = true)
    (a_gone : PySem.W.nsIn K mainGlobals "gone" = some (some (.ref f_gone))) (l_gone : K.lookup f_gone = some ⟨oc_gone, od_gone, .func (PySem.W.fnOf "gone" "gone" (defArgs s_gone) (defBody s_gone) (defScope s_gone) .none kV_gone dc_gone pm_gone an_gone cd_gone ct_gone), sl_gone⟩) (c_gone : PySem.W.codeIn K cd_gone "gone" = true) (k_gone : PySem.W.keepIn K (.ref f_gone) = true)
    (a_next_of : PySem.W.nsIn K mainGlobals "next_of" = some (some (.ref f_next_of))) (l_next_of : K.lookup f_next_of = some ⟨oc_next_of, od_next_of, .func (PySem.W.fnOf "next_of" "next_of" (defArgs s_next_of) (defBody s_next_of) (defScope s_next_of) .none kV_next_of dc_next_of pm_next_of an_next_of cd_next_of ct_next_of), sl_next_of⟩) (c_next_of : PySem.W.codeIn K cd_next_of "next_of" = true) (k_next_of : PySem.W.keepIn K (.ref f_next_of) = true)
    (a_drawn : PySem.W.nsIn K mainGlobals "drawn" = some (some (.ref f_drawn))) (l_drawn : K.lookup f_drawn = some ⟨oc_drawn, od_drawn, .func (PySem.W.fnOf "drawn" "drawn" (defArgs s_drawn) (defBody s_drawn) (defScope s_drawn) .none kV_drawn dc_drawn pm_drawn an_drawn cd_drawn ct_drawn), sl_drawn⟩) (c_drawn : PySem.W.codeIn K cd_drawn "drawn" = true) (k_drawn : PySem.W.keepIn K (.ref f_drawn) = true)
    (a_traced : PySem.W.nsIn K mainGlobals "traced" = some (some (.ref f_traced))) (l_traced : K.lookup f_traced = some ⟨oc_traced, od_traced, .func (PySem.W.fnOf "traced" "traced" (defArgs s_traced) (defBody s_traced) (defScope s_traced) .none kV_traced dc_traced pm_traced an_traced cd_traced ct_traced), sl_traced⟩) (c_traced : PySem.W.codeIn K cd_traced "traced" = true) (k_traced : PySem.W.keepIn K (.ref f_traced) = true)
    (a_healed : PySem.W.nsIn K mainGlobals "healed" = some (some (.ref f_healed))) (l_healed : K.lookup f_healed = some ⟨oc_healed, od_healed, .func (PySem.W.fnOf "healed" "healed" (defArgs s_healed) (defBody s_healed) (defScope s_healed) .none kV_healed dc_healed pm_healed an_healed cd_healed ct_healed), sl_healed⟩) (c_healed : PySem.W.codeIn K cd_healed "healed" = true) (k_healed : PySem.W.keepIn K (.ref f_healed) = true)
    (a_healing : PySem.W.nsIn K mainGlobals "healing" = some (some (.ref f_healing))) (l_healing : K.lookup f_healing = some ⟨oc_healing, od_healing, .func (PySem.W.fnOf "healing" "healing" (defArgs s_healing) (defBody s_healing) (defScope s_healing) .none kV_healing dc_healing pm_healing an_healing cd_healing ct_healing), sl_healing⟩) (c_healing : PySem.W.codeIn K cd_healing "healing" = true) (k_healing : PySem.W.keepIn K (.ref f_healing) = true)
    (a_most : PySem.W.nsIn K mainGlobals "most" = some (some (.ref f_most))) (l_most : K.lookup f_most = some ⟨oc_most, od_most, .func (PySem.W.fnOf "most" "most" (defArgs s_most) (defBody s_most) (defScope s_most) .none kV_most dc_most pm_most an_most cd_most ct_most), sl_most⟩) (c_most : PySem.W.codeIn K cd_most "most" = true) (k_most : PySem.W.keepIn K (.ref f_most) = true)
    (a_turns : PySem.W.nsIn K mainGlobals "turns" = some (some (.ref f_turns))) (l_turns : K.lookup f_turns = some ⟨oc_turns, od_turns, .func (PySem.W.fnOf "turns" "turns" (defArgs s_turns) (defBody s_turns) (defScope s_turns) .none kV_turns dc_turns pm_turns an_turns cd_turns ct_turns), sl_turns⟩) (c_turns : PySem.W.codeIn K cd_turns "turns" = true) (k_turns : PySem.W.keepIn K (.ref f_turns) = true)
    (a_law_cell_at : PySem.W.nsIn K mainGlobals "_law_cell_at" = some (some (.ref f_law_cell_at))) (l_law_cell_at : K.lookup f_law_cell_at = some ⟨oc_law_cell_at, od_law_cell_at, .func (PySem.W.fnOf "_law_cell_at" "_law_cell_at" (defArgs s_law_cell_at) (defBody s_law_cell_at) (defScope s_law_cell_at) .none kV_law_cell_at dc_law_cell_at pm_law_cell_at an_law_cell_at cd_law_cell_at ct_law_cell_at), sl_law_cell_at⟩) (c_law_cell_at : PySem.W.codeIn K cd_law_cell_at "_law_cell_at" = true) (k_law_cell_at : PySem.W.keepIn K (.ref f_law_cell_at) = true)
    (a_law_mixed : PySem.W.nsIn K mainGlobals "_law_mixed" = some (some (.ref f_law_mixed))) (l_law_mixed : K.lookup f_law_mixed = some ⟨oc_law_mixed, od_law_mixed, .func (PySem.W.fnOf "_law_mixed" "_law_mixed" (defArgs s_law_mixed) (defBody s_law_mixed) (defScope s_law_mixed) .none kV_law_mixed dc_law_mixed pm_law_mixed an_law_mixed cd_law_mixed ct_law_mixed), sl_law_mixed⟩) (c_law_mixed : PySem.W.codeIn K cd_law_mixed "_law_mixed" = true) (k_law_mixed : PySem.W.keepIn K (.ref f_law_mixed) = true)
    (a_law_size : PySem.W.nsIn K mainGlobals "_law_size" = some (some (.ref f_law_size))) (l_law_size : K.lookup f_law_size = some ⟨oc_law_size, od_law_size, .func (PySem.W.fnOf "_law_size" "_law_size" (defArgs s_law_size) (defBody s_law_size) (defScope s_law_size) .none kV_law_size dc_law_size pm_law_size an_law_size cd_law_size ct_law_size), sl_law_size⟩) (c_law_size : PySem.W.codeIn K cd_law_size "_law_size" = true) (k_law_size : PySem.W.keepIn K (.ref f_law_size) = true)
    (a_law_many : PySem.W.nsIn K mainGlobals "_law_many" = some (some (.ref f_law_many))) (l_law_many : K.lookup f_law_many = some ⟨oc_law_many, od_law_many, .func (PySem.W.fnOf "_law_many" "_law_many" (defArgs s_law_many) (defBody s_law_many) (defScope s_law_many) .none kV_law_many dc_law_many pm_law_many an_law_many cd_law_many ct_law_many), sl_law_many⟩) (c_law_many : PySem.W.codeIn K cd_law_many "_law_many" = true) (k_law_many : PySem.W.keepIn K (.ref f_law_many) = true)
    (a_law_ring : PySem.W.nsIn K mainGlobals "_law_ring" = some (some (.ref f_law_ring))) (l_law_ring : K.lookup f_law_ring = some ⟨oc_law_ring, od_law_ring, .func (PySem.W.fnOf "_law_ring" "_law_ring" (defArgs s_law_ring) (defBody s_law_ring) (defScope s_law_ring) .none kV_law_ring dc_law_ring pm_law_ring an_law_ring cd_law_ring ct_law_ring), sl_law_ring⟩) (c_law_ring : PySem.W.codeIn K cd_law_ring "_law_ring" = true) (k_law_ring : PySem.W.keepIn K (.ref f_law_ring) = true)
    (a_law_able : PySem.W.nsIn K mainGlobals "_law_able" = some (some (.ref f_law_able))) (l_law_able : K.lookup f_law_able = some ⟨oc_law_able, od_law_able, .func (PySem.W.fnOf "_law_able" "_law_able" (defArgs s_law_able) (defBody s_law_able) (defScope s_law_able) .none kV_law_able dc_law_able pm_law_able an_law_able cd_law_able ct_law_able), sl_law_able⟩) (c_law_able : PySem.W.codeIn K cd_law_able "_law_able" = true) (k_law_able : PySem.W.keepIn K (.ref f_law_able) = true)
    (a_law_listed : PySem.W.nsIn K mainGlobals "_law_listed" = some (some (.ref f_law_listed))) (l_law_listed : K.lookup f_law_listed = some ⟨oc_law_listed, od_law_listed, .func (PySem.W.fnOf "_law_listed" "_law_listed" (defArgs s_law_listed) (defBody s_law_listed) (defScope s_law_listed) .none kV_law_listed dc_law_listed pm_law_listed an_law_listed cd_law_listed ct_law_listed), sl_law_listed⟩) (c_law_listed : PySem.W.codeIn K cd_law_listed "_law_listed" = true) (k_law_listed : PySem.W.keepIn K (.ref f_law_listed) = true)
    (a_law_alike : PySem.W.nsIn K mainGlobals "_law_alike" = some (some (.ref f_law_alike))) (l_law_alike : K.lookup f_law_alike = some ⟨oc_law_alike, od_law_alike, .func (PySem.W.fnOf "_law_alike" "_law_alike" (defArgs s_law_alike) (defBody s_law_alike) (defScope s_law_alike) .none kV_law_alike dc_law_alike pm_law_alike an_law_alike cd_law_alike ct_law_alike), sl_law_alike⟩) (c_law_alike : PySem.W.codeIn K cd_law_alike "_law_alike" = true) (k_law_alike : PySem.W.keepIn K (.ref f_law_alike) = true)
    (a_law_only : PySem.W.nsIn K mainGlobals "_law_only" = some (some (.ref f_law_only))) (l_law_only : K.lookup f_law_only = some ⟨oc_law_only, od_law_only, .func (PySem.W.fnOf "_law_only" "_law_only" (defArgs s_law_only) (defBody s_law_only) (defScope s_law_only) .none kV_law_only dc_law_only pm_law_only an_law_only cd_law_only ct_law_only), sl_law_only⟩) (c_law_only : PySem.W.codeIn K cd_law_only "_law_only" = true) (k_law_only : PySem.W.keepIn K (.ref f_law_only) = true)
    (a_law_wrong : PySem.W.nsIn K mainGlobals "_law_wrong" = some (some (.ref f_law_wrong))) (l_law_wrong : K.lookup f_law_wrong = some ⟨oc_law_wrong, od_law_wrong, .func (PySem.W.fnOf "_law_wrong" "_law_wrong" (defArgs s_law_wrong) (defBody s_law_wrong) (defScope s_law_wrong) .none kV_law_wrong dc_law_wrong pm_law_wrong an_law_wrong cd_law_wrong ct_law_wrong), sl_law_wrong⟩) (c_law_wrong : PySem.W.codeIn K cd_law_wrong "_law_wrong" = true) (k_law_wrong : PySem.W.keepIn K (.ref f_law_wrong) = true)
    (a_law_due : PySem.W.nsIn K mainGlobals "_law_due" = some (some (.ref f_law_due))) (l_law_due : K.lookup f_law_due = some ⟨oc_law_due, od_law_due, .func (PySem.W.fnOf "_law_due" "_law_due" (defArgs s_law_due) (defBody s_law_due) (defScope s_law_due) .none kV_law_due dc_law_due pm_law_due an_law_due cd_law_due ct_law_due), sl_law_due⟩) (c_law_due : PySem.W.codeIn K cd_law_due "_law_due" = true) (k_law_due : PySem.W.keepIn K (.ref f_law_due) = true)
    (a_law_asked : PySem.W.nsIn K mainGlobals "_law_asked" = some (some (.ref f_law_asked))) (l_law_asked : K.lookup f_law_asked = some ⟨oc_law_asked, od_law_asked, .func (PySem.W.fnOf "_law_asked" "_law_asked" (defArgs s_law_asked) (defBody s_law_asked) (defScope s_law_asked) .none kV_law_asked dc_law_asked pm_law_asked an_law_asked cd_law_asked ct_law_asked), sl_law_asked⟩) (c_law_asked : PySem.W.codeIn K cd_law_asked "_law_asked" = true) (k_law_asked : PySem.W.keepIn K (.ref f_law_asked) = true)
    (a_law_told : PySem.W.nsIn K mainGlobals "_law_told" = some (some (.ref f_law_told))) (l_law_told : K.lookup f_law_told = some ⟨oc_law_told, od_law_told, .func (PySem.W.fnOf "_law_told" "_law_told" (defArgs s_law_told) (defBody s_law_told) (defScope s_law_told) .none kV_law_told dc_law_told pm_law_told an_law_told cd_law_told ct_law_told), sl_law_told⟩) (c_law_told : PySem.W.codeIn K cd_law_told "_law_told" = true) (k_law_told : PySem.W.keepIn K (.ref f_law_told) = true)
    (a_law : PySem.W.nsIn K mainGlobals "law" = some (some (.ref f_law))) (l_law : K.lookup f_law = some ⟨oc_law, od_law, .func (PySem.W.fnOf "law" "law" (defArgs s_law) (defBody s_law) (defScope s_law) .none kV_law dc_law pm_law an_law cd_law ct_law), sl_law⟩) (c_law : PySem.W.codeIn K cd_law "law" = true) (k_law : PySem.W.keepIn K (.ref f_law) = true)
    (g_HealError : PySem.W.nsIn K mainGlobals "HealError" = some (some (.ref C_HealError))) (x_HealError : PySem.W.excIn K C_HealError [.type "ValueError", .type "Exception", .type "BaseException", .type "object"] "ValueError.__new__" = true) (k_HealError : PySem.W.keepIn K (.ref C_HealError) = true) (b_HealError : PySem.W.subIn K (.ref C_HealError) (.type "BaseException") = some true) (t_HealError : PySem.W.typeIn K (.ref C_HealError) = some (.type "type"))
    (g_NoNumbers : PySem.W.nsIn K mainGlobals "NoNumbers" = some (some (.ref C_NoNumbers))) (x_NoNumbers : PySem.W.excIn K C_NoNumbers [.type "ValueError", .type "Exception", .type "BaseException", .type "object"] "ValueError.__new__" = true) (k_NoNumbers : PySem.W.keepIn K (.ref C_NoNumbers) = true) (b_NoNumbers : PySem.W.subIn K (.ref C_NoNumbers) (.type "BaseException") = some true) (t_NoNumbers : PySem.W.typeIn K (.ref C_NoNumbers) = some (.type "type"))
    (g_NoRing : PySem.W.nsIn K mainGlobals "NoRing" = some (some (.ref C_NoRing))) (x_NoRing : PySem.W.excIn K C_NoRing [.type "ValueError", .type "Exception", .type "BaseException", .type "object"] "ValueError.__new__" = true) (k_NoRing : PySem.W.keepIn K (.ref C_NoRing) = true) (b_NoRing : PySem.W.subIn K (.ref C_NoRing) (.type "BaseException") = some true) (t_NoRing : PySem.W.typeIn K (.ref C_NoRing) = some (.type "type"))
    (g_NoMachine : PySem.W.nsIn K mainGlobals "NoMachine" = some (some (.ref C_NoMachine))) (x_NoMachine : PySem.W.excIn K C_NoMachine [.type "ValueError", .type "Exception", .type "BaseException", .type "object"] "ValueError.__new__" = true) (k_NoMachine : PySem.W.keepIn K (.ref C_NoMachine) = true) (b_NoMachine : PySem.W.subIn K (.ref C_NoMachine) (.type "BaseException") = some true) (t_NoMachine : PySem.W.typeIn K (.ref C_NoMachine) = some (.type "type"))
    (g_NotNow : PySem.W.nsIn K mainGlobals "NotNow" = some (some (.ref C_NotNow))) (x_NotNow : PySem.W.excIn K C_NotNow [.type "ValueError", .type "Exception", .type "BaseException", .type "object"] "ValueError.__new__" = true) (k_NotNow : PySem.W.keepIn K (.ref C_NotNow) = true) (b_NotNow : PySem.W.subIn K (.ref C_NotNow) (.type "BaseException") = some true) (t_NotNow : PySem.W.typeIn K (.ref C_NotNow) = some (.type "type"))
    (g_NotHealed : PySem.W.nsIn K mainGlobals "NotHealed" = some (some (.ref C_NotHealed))) (x_NotHealed : PySem.W.excIn K C_NotHealed [.type "ValueError", .type "Exception", .type "BaseException", .type "object"] "ValueError.__new__" = true) (k_NotHealed : PySem.W.keepIn K (.ref C_NotHealed) = true) (b_NotHealed : PySem.W.subIn K (.ref C_NotHealed) (.type "BaseException") = some true) (t_NotHealed : PySem.W.typeIn K (.ref C_NotHealed) = some (.type "type"))
    (g_TooGreat : PySem.W.nsIn K mainGlobals "TooGreat" = some (some (.ref C_TooGreat))) (x_TooGreat : PySem.W.excIn K C_TooGreat [.type "ValueError", .type "Exception", .type "BaseException", .type "object"] "ValueError.__new__" = true) (k_TooGreat : PySem.W.keepIn K (.ref C_TooGreat) = true) (b_TooGreat : PySem.W.subIn K (.ref C_TooGreat) (.type "BaseException") = some true) (t_TooGreat : PySem.W.typeIn K (.ref C_TooGreat) = some (.type "type"))
    (n_LEAST : PySem.W.nsIn K mainGlobals "LEAST" = some (some (.int 2 t_LEAST)))
    (n_MOST : PySem.W.nsIn K mainGlobals "MOST" = some (some (.int 12 t_MOST)))
    (n_MOST_NUMBERS : PySem.W.nsIn K mainGlobals "MOST_NUMBERS" = some (some (.int 100 t_MOST_NUMBERS)))
    (z_len : PySem.W.nsIn K mainGlobals "len" = some none)
    (z_range : PySem.W.nsIn K mainGlobals "range" = some none)
    (z_min : PySem.W.nsIn K mainGlobals "min" = some none)
    (z_max : PySem.W.nsIn K mainGlobals "max" = some none)
    (z_isinstance : PySem.W.nsIn K mainGlobals "isinstance" = some none)
    (z_int : PySem.W.nsIn K mainGlobals "int" = some none)
    (z_bool : PySem.W.nsIn K mainGlobals "bool" = some none)
    (z_tuple : PySem.W.nsIn K mainGlobals "tuple" = some none)
    (z_list : PySem.W.nsIn K mainGlobals "list" = some none)
    (z_sorted : PySem.W.nsIn K mainGlobals "sorted" = some none)
    (z_abs : PySem.W.nsIn K mainGlobals "abs" = some none)
    (z_ValueError : PySem.W.nsIn K mainGlobals "ValueError" = some none)
    (hn_ : PySem.W.specialIn K (.builtin "object.__class__") "__get__" = some (some (.builtin "getset_descriptor.__get__"))) (ht_ : PySem.W.takesIn K (.builtin "object.__class__") = some true) (hd_HealError : PySem.W.hasDictIn K C_HealError = true)
    (hg_NoNumbers : PySem.W.findIn K (.ref C_NoNumbers) "__getattribute__" = some (some (.builtin "BaseException.__getattribute__"))) (hk_NoNumbers : PySem.W.findIn K (.ref C_NoNumbers) "__getattr__" = some none) (hd_NoNumbers : PySem.W.hasDictIn K C_NoNumbers = true) (ha_NoNumbers : PySem.W.findIn K (.ref C_NoNumbers) "__class__" = some (some (.builtin "object.__class__"))) (hm_NoNumbers : PySem.W.mroIn K C_NoNumbers (.type "object") = some true)
    (i0_NoNumbers : PySem.W.kitOne K (.ref C_NoNumbers) (.ref C_NoNumbers) = some true)
    (i1_NoNumbers : PySem.W.kitOne K (.ref C_NoNumbers) (.ref C_NoRing) = some false)
    (i2_NoNumbers : PySem.W.kitOne K (.ref C_NoNumbers) (.ref C_NoMachine) = some false)
    (i3_NoNumbers : PySem.W.kitOne K (.ref C_NoNumbers) (.ref C_NotNow) = some false)
    (i4_NoNumbers : PySem.W.kitOne K (.ref C_NoNumbers) (.ref C_NotHealed) = some false)
    (i5_NoNumbers : PySem.W.kitOne K (.ref C_NoNumbers) (.ref C_TooGreat) = some false)
    (ih_NoNumbers : PySem.W.kitOne K (.ref C_NoNumbers) (.ref C_HealError) = some true) (iv_NoNumbers : PySem.W.kitOne K (.ref C_NoNumbers) (.type "ValueError") = some true) (se_NoNumbers : PySem.W.subIn K (.ref C_NoNumbers) (.ref C_HealError) = some true)
    (hg_NoRing : PySem.W.findIn K (.ref C_NoRing) "__getattribute__" = some (some (.builtin "BaseException.__getattribute__"))) (hk_NoRing : PySem.W.findIn K (.ref C_NoRing) "__getattr__" = some none) (hd_NoRing : PySem.W.hasDictIn K C_NoRing = true) (ha_NoRing : PySem.W.findIn K (.ref C_NoRing) "__class__" = some (some (.builtin "object.__class__"))) (hm_NoRing : PySem.W.mroIn K C_NoRing (.type "object") = some true)
    (i0_NoRing : PySem.W.kitOne K (.ref C_NoRing) (.ref C_NoNumbers) = some false)
    (i1_NoRing : PySem.W.kitOne K (.ref C_NoRing) (.ref C_NoRing) = some true)
    (i2_NoRing : PySem.W.kitOne K (.ref C_NoRing) (.ref C_NoMachine) = some false)
    (i3_NoRing : PySem.W.kitOne K (.ref C_NoRing) (.ref C_NotNow) = some false)
    (i4_NoRing : PySem.W.kitOne K (.ref C_NoRing) (.ref C_NotHealed) = some false)
    (i5_NoRing : PySem.W.kitOne K (.ref C_NoRing) (.ref C_TooGreat) = some false)
    (ih_NoRing : PySem.W.kitOne K (.ref C_NoRing) (.ref C_HealError) = some true) (iv_NoRing : PySem.W.kitOne K (.ref C_NoRing) (.type "ValueError") = some true) (se_NoRing : PySem.W.subIn K (.ref C_NoRing) (.ref C_HealError) = some true) :
    ∃ fd : FuncData, (∀ (s : Shared) (v : Value), BindsTo s fd ⟨[v], []⟩ [("_law_script", v)]) ∧ ∀ base : Heap, K.In base → base.Ns mainGlobals mg → FnOk l.prog w K mg base (L2N.CX l.prog w) 7 fa fd p_law (sp_law K) := by
  have e := hfa.symm.trans (PySem.W.mg_of X G a_law)
  cases e
  have B : Bt mg := ⟨PySem.W.mg_none_of X G z_len, PySem.W.mg_none_of X G z_range, PySem.W.mg_none_of X G z_min, PySem.W.mg_none_of X G z_max, PySem.W.mg_none_of X G z_isinstance, PySem.W.mg_none_of X G z_int, PySem.W.mg_none_of X G z_bool, PySem.W.mg_none_of X G z_tuple, PySem.W.mg_none_of X G z_list, PySem.W.mg_none_of X G z_sorted, PySem.W.mg_none_of X G z_abs, PySem.W.mg_none_of X G z_ValueError⟩
  have CHealError : Cl K mg "HealError" C_HealError := ⟨PySem.W.mg_of X G g_HealError, x_HealError, k_HealError, b_HealError, t_HealError⟩
  have CNoNumbers : Cl K mg "NoNumbers" C_NoNumbers := ⟨PySem.W.mg_of X G g_NoNumbers, x_NoNumbers, k_NoNumbers, b_NoNumbers, t_NoNumbers⟩
  have CNoRing : Cl K mg "NoRing" C_NoRing := ⟨PySem.W.mg_of X G g_NoRing, x_NoRing, k_NoRing, b_NoRing, t_NoRing⟩
  have CNoMachine : Cl K mg "NoMachine" C_NoMachine := ⟨PySem.W.mg_of X G g_NoMachine, x_NoMachine, k_NoMachine, b_NoMachine, t_NoMachine⟩
  have CNotNow : Cl K mg "NotNow" C_NotNow := ⟨PySem.W.mg_of X G g_NotNow, x_NotNow, k_NotNow, b_NotNow, t_NotNow⟩
  have CNotHealed : Cl K mg "NotHealed" C_NotHealed := ⟨PySem.W.mg_of X G g_NotHealed, x_NotHealed, k_NotHealed, b_NotHealed, t_NotHealed⟩
  have CTooGreat : Cl K mg "TooGreat" C_TooGreat := ⟨PySem.W.mg_of X G g_TooGreat, x_TooGreat, k_TooGreat, b_TooGreat, t_TooGreat⟩
  have M : Nums mg := ⟨⟨_, PySem.W.mg_of X G n_LEAST⟩, ⟨_, PySem.W.mg_of X G n_MOST⟩, ⟨_, PySem.W.mg_of X G n_MOST_NUMBERS⟩⟩
  have NLEAST : ∃ t, mg "LEAST" = some (.int 2 t) := ⟨_, PySem.W.mg_of X G n_LEAST⟩
  have NMOST : ∃ t, mg "MOST" = some (.int 12 t) := ⟨_, PySem.W.mg_of X G n_MOST⟩
  have NMOST_NUMBERS : ∃ t, mg "MOST_NUMBERS" = some (.int 100 t) := ⟨_, PySem.W.mg_of X G n_MOST_NUMBERS⟩
  have F_need_numbers := fun_mk (st := s_need_numbers) l_need_numbers c_need_numbers k_need_numbers
  have D_need_numbers : Df K mg "need_numbers" s_need_numbers p_need_numbers f_need_numbers _ := ⟨F_need_numbers, PySem.W.mg_of X G a_need_numbers, F_need_numbers.binds (ps := p_need_numbers) fun _ _ _ _ _ _ us hl => match us, hl with | [_], _ => rfl⟩
  have F_need_machines := fun_mk (st := s_need_machines) l_need_machines c_need_machines k_need_machines
  have D_need_machines : Df K mg "need_machines" s_need_machines p_need_machines f_need_machines _ := ⟨F_need_machines, PySem.W.mg_of X G a_need_machines, F_need_machines.binds (ps := p_need_machines) fun _ _ _ _ _ _ us hl => match us, hl with | [_], _ => rfl⟩
  have F_need_ring := fun_mk (st := s_need_ring) l_need_ring c_need_ring k_need_ring
  have D_need_ring : Df K mg "need_ring" s_need_ring p_need_ring f_need_ring _ := ⟨F_need_ring, PySem.W.mg_of X G a_need_ring, F_need_ring.binds (ps := p_need_ring) fun _ _ _ _ _ _ us hl => match us, hl with | [_, _], _ => rfl⟩
  have F_may := fun_mk (st := s_may) l_may c_may k_may
  have D_may : Df K mg "may" s_may p_may f_may _ := ⟨F_may, PySem.W.mg_of X G a_may, F_may.binds (ps := p_may) fun _ _ _ _ _ _ us hl => match us, hl with | [_, _], _ => rfl⟩
  have F_able_of := fun_mk (st := s_able_of) l_able_of c_able_of k_able_of
  have D_able_of : Df K mg "able_of" s_able_of p_able_of f_able_of _ := ⟨F_able_of, PySem.W.mg_of X G a_able_of, F_able_of.binds (ps := p_able_of) fun _ _ _ _ _ _ us hl => match us, hl with | [_], _ => rfl⟩
  have F_able := fun_mk (st := s_able) l_able c_able k_able
  have D_able : Df K mg "able" s_able p_able f_able _ := ⟨F_able, PySem.W.mg_of X G a_able, F_able.binds (ps := p_able) fun _ _ _ _ _ _ us hl => match us, hl with | [_, _], _ => rfl⟩
  have F_moved := fun_mk (st := s_moved) l_moved c_moved k_moved
  have D_moved : Df K mg "moved" s_moved p_moved f_moved _ := ⟨F_moved, PySem.W.mg_of X G a_moved, F_moved.binds (ps := p_moved) fun _ _ _ _ _ _ us hl => match us, hl with | [_, _, _], _ => rfl⟩
  have F_step_of := fun_mk (st := s_step_of) l_step_of c_step_of k_step_of
  have D_step_of : Df K mg "step_of" s_step_of p_step_of f_step_of _ := ⟨F_step_of, PySem.W.mg_of X G a_step_of, F_step_of.binds (ps := p_step_of) fun _ _ _ _ _ _ us hl => match us, hl with | [_, _, _], _ => rfl⟩
  have F_stepped := fun_mk (st := s_stepped) l_stepped c_stepped k_stepped
  have D_stepped : Df K mg "stepped" s_stepped p_stepped f_stepped _ := ⟨F_stepped, PySem.W.mg_of X G a_stepped, F_stepped.binds (ps := p_stepped) fun _ _ _ _ _ _ us hl => match us, hl with | [_, _, _], _ => rfl⟩
  have F_gone := fun_mk (st := s_gone) l_gone c_gone k_gone
  have D_gone : Df K mg "gone" s_gone p_gone f_gone _ := ⟨F_gone, PySem.W.mg_of X G a_gone, F_gone.binds (ps := p_gone) fun _ _ _ _ _ _ us hl => match us, hl with | [_, _, _], _ => rfl⟩
  have F_next_of := fun_mk (st := s_next_of) l_next_of c_next_of k_next_of
  have D_next_of : Df K mg "next_of" s_next_of p_next_of f_next_of _ := ⟨F_next_of, PySem.W.mg_of X G a_next_of, F_next_of.binds (ps := p_next_of) fun _ _ _ _ _ _ us hl => match us, hl with | [_, _, _], _ => rfl⟩
  have F_drawn := fun_mk (st := s_drawn) l_drawn c_drawn k_drawn
  have D_drawn : Df K mg "drawn" s_drawn p_drawn f_drawn _ := ⟨F_drawn, PySem.W.mg_of X G a_drawn, F_drawn.binds (ps := p_drawn) fun _ _ _ _ _ _ us hl => match us, hl with | [_, _, _, _], _ => rfl⟩
  have F_traced := fun_mk (st := s_traced) l_traced c_traced k_traced
  have D_traced : Df K mg "traced" s_traced p_traced f_traced _ := ⟨F_traced, PySem.W.mg_of X G a_traced, F_traced.binds (ps := p_traced) fun _ _ _ _ _ _ us hl => match us, hl with | [_, _, _], _ => rfl⟩
  have F_healed := fun_mk (st := s_healed) l_healed c_healed k_healed
  have D_healed : Df K mg "healed" s_healed p_healed f_healed _ := ⟨F_healed, PySem.W.mg_of X G a_healed, F_healed.binds (ps := p_healed) fun _ _ _ _ _ _ us hl => match us, hl with | [_, _], _ => rfl⟩
  have F_healing := fun_mk (st := s_healing) l_healing c_healing k_healing
  have D_healing : Df K mg "healing" s_healing p_healing f_healing _ := ⟨F_healing, PySem.W.mg_of X G a_healing, F_healing.binds (ps := p_healing) fun _ _ _ _ _ _ us hl => match us, hl with | [_, _, _], _ => rfl⟩
  have F_most := fun_mk (st := s_most) l_most c_most k_most
  have D_most : Df K mg "most" s_most p_most f_most _ := ⟨F_most, PySem.W.mg_of X G a_most, F_most.binds (ps := p_most) fun _ _ _ _ _ _ us hl => match us, hl with | [_], _ => rfl⟩
  have F_turns := fun_mk (st := s_turns) l_turns c_turns k_turns
  have D_turns : Df K mg "turns" s_turns p_turns f_turns _ := ⟨F_turns, PySem.W.mg_of X G a_turns, F_turns.binds (ps := p_turns) fun _ _ _ _ _ _ us hl => match us, hl with | [_, _], _ => rfl⟩
  have F_law_cell_at := fun_mk (st := s_law_cell_at) l_law_cell_at c_law_cell_at k_law_cell_at
  have D_law_cell_at : Df K mg "_law_cell_at" s_law_cell_at p_law_cell_at f_law_cell_at _ := ⟨F_law_cell_at, PySem.W.mg_of X G a_law_cell_at, F_law_cell_at.binds (ps := p_law_cell_at) fun _ _ _ _ _ _ us hl => match us, hl with | [_, _], _ => rfl⟩
  have F_law_mixed := fun_mk (st := s_law_mixed) l_law_mixed c_law_mixed k_law_mixed
  have D_law_mixed : Df K mg "_law_mixed" s_law_mixed p_law_mixed f_law_mixed _ := ⟨F_law_mixed, PySem.W.mg_of X G a_law_mixed, F_law_mixed.binds (ps := p_law_mixed) fun _ _ _ _ _ _ us hl => match us, hl with | [_, _], _ => rfl⟩
  have F_law_size := fun_mk (st := s_law_size) l_law_size c_law_size k_law_size
  have D_law_size : Df K mg "_law_size" s_law_size p_law_size f_law_size _ := ⟨F_law_size, PySem.W.mg_of X G a_law_size, F_law_size.binds (ps := p_law_size) fun _ _ _ _ _ _ us hl => match us, hl with | [_], _ => rfl⟩
  have F_law_many := fun_mk (st := s_law_many) l_law_many c_law_many k_law_many
  have D_law_many : Df K mg "_law_many" s_law_many p_law_many f_law_many _ := ⟨F_law_many, PySem.W.mg_of X G a_law_many, F_law_many.binds (ps := p_law_many) fun _ _ _ _ _ _ us hl => match us, hl with | [_, _], _ => rfl⟩
  have F_law_ring := fun_mk (st := s_law_ring) l_law_ring c_law_ring k_law_ring
  have D_law_ring : Df K mg "_law_ring" s_law_ring p_law_ring f_law_ring _ := ⟨F_law_ring, PySem.W.mg_of X G a_law_ring, F_law_ring.binds (ps := p_law_ring) fun _ _ _ _ _ _ us hl => match us, hl with | [_, _, _], _ => rfl⟩
  have F_law_able := fun_mk (st := s_law_able) l_law_able c_law_able k_law_able
  have D_law_able : Df K mg "_law_able" s_law_able p_law_able f_law_able _ := ⟨F_law_able, PySem.W.mg_of X G a_law_able, F_law_able.binds (ps := p_law_able) fun _ _ _ _ _ _ us hl => match us, hl with | [_], _ => rfl⟩
  have F_law_listed := fun_mk (st := s_law_listed) l_law_listed c_law_listed k_law_listed
  have D_law_listed : Df K mg "_law_listed" s_law_listed p_law_listed f_law_listed _ := ⟨F_law_listed, PySem.W.mg_of X G a_law_listed, F_law_listed.binds (ps := p_law_listed) fun _ _ _ _ _ _ us hl => match us, hl with | [_, _], _ => rfl⟩
  have F_law_alike := fun_mk (st := s_law_alike) l_law_alike c_law_alike k_law_alike
  have D_law_alike : Df K mg "_law_alike" s_law_alike p_law_alike f_law_alike _ := ⟨F_law_alike, PySem.W.mg_of X G a_law_alike, F_law_alike.binds (ps := p_law_alike) fun _ _ _ _ _ _ us hl => match us, hl with | [_, _], _ => rfl⟩
  have F_law_only := fun_mk (st := s_law_only) l_law_only c_law_only k_law_only
  have D_law_only : Df K mg "_law_only" s_law_only p_law_only f_law_only _ := ⟨F_law_only, PySem.W.mg_of X G a_law_only, F_law_only.binds (ps := p_law_only) fun _ _ _ _ _ _ us hl => match us, hl with | [_, _], _ => rfl⟩
  have F_law_wrong := fun_mk (st := s_law_wrong) l_law_wrong c_law_wrong k_law_wrong
  have D_law_wrong : Df K mg "_law_wrong" s_law_wrong p_law_wrong f_law_wrong _ := ⟨F_law_wrong, PySem.W.mg_of X G a_law_wrong, F_law_wrong.binds (ps := p_law_wrong) fun _ _ _ _ _ _ us hl => match us, hl with | [_, _, _], _ => rfl⟩
  have F_law_due := fun_mk (st := s_law_due) l_law_due c_law_due k_law_due
  have D_law_due : Df K mg "_law_due" s_law_due p_law_due f_law_due _ := ⟨F_law_due, PySem.W.mg_of X G a_law_due, F_law_due.binds (ps := p_law_due) fun _ _ _ _ _ _ us hl => match us, hl with | [_, _], _ => rfl⟩
  have F_law_asked := fun_mk (st := s_law_asked) l_law_asked c_law_asked k_law_asked
  have D_law_asked : Df K mg "_law_asked" s_law_asked p_law_asked f_law_asked _ := ⟨F_law_asked, PySem.W.mg_of X G a_law_asked, F_law_asked.binds (ps := p_law_asked) fun _ _ _ _ _ _ us hl => match us, hl with | [_, _, _, _], _ => rfl⟩
  have F_law_told := fun_mk (st := s_law_told) l_law_told c_law_told k_law_told
  have D_law_told : Df K mg "_law_told" s_law_told p_law_told f_law_told _ := ⟨F_law_told, PySem.W.mg_of X G a_law_told, F_law_told.binds (ps := p_law_told) fun _ _ _ _ _ _ us hl => match us, hl with | [_, _, _, _], _ => rfl⟩
  have F_law := fun_mk (st := s_law) l_law c_law k_law
  have D_law : Df K mg "law" s_law p_law fa _ := ⟨F_law, PySem.W.mg_of X G a_law, F_law.binds (ps := p_law) fun _ _ _ _ _ _ us hl => match us, hl with | [_], _ => rfl⟩
  have KD_NoNumbers : Kd K [C_NoNumbers, C_NoRing, C_NoMachine, C_NotNow, C_NotHealed, C_TooGreat] C_HealError C_NoNumbers 0 := ⟨⟨hg_NoNumbers, hk_NoNumbers, b_NoNumbers, hd_NoNumbers, ha_NoNumbers, hn_, ht_, hm_NoNumbers⟩, (fun i c h => by
    match i, h with
    | 0, h => cases h; exact i0_NoNumbers
    | 1, h => cases h; exact i1_NoNumbers
    | 2, h => cases h; exact i2_NoNumbers
    | 3, h => cases h; exact i3_NoNumbers
    | 4, h => cases h; exact i4_NoNumbers
    | 5, h => cases h; exact i5_NoNumbers
    | _ + 6, h => cases h), ih_NoNumbers, iv_NoNumbers, PySem.W.exm_ref b_HealError hd_HealError t_HealError se_NoNumbers⟩
  have KD_NoRing : Kd K [C_NoNumbers, C_NoRing, C_NoMachine, C_NotNow, C_NotHealed, C_TooGreat] C_HealError C_NoRing 1 := ⟨⟨hg_NoRing, hk_NoRing, b_NoRing, hd_NoRing, ha_NoRing, hn_, ht_, hm_NoRing⟩, (fun i c h => by
    match i, h with
    | 0, h => cases h; exact i0_NoRing
    | 1, h => cases h; exact i1_NoRing
    | 2, h => cases h; exact i2_NoRing
    | 3, h => cases h; exact i3_NoRing
    | 4, h => cases h; exact i4_NoRing
    | 5, h => cases h; exact i5_NoRing
    | _ + 6, h => cases h), ih_NoRing, iv_NoRing, PySem.W.exm_ref b_HealError hd_HealError t_HealError se_NoRing⟩
  refine ⟨PySem.W.fnOf "law" "law" (defArgs s_law) (defBody s_law) (defScope s_law) .none kV_law dc_law pm_law an_law cd_law ct_law, fun s v => .of_eq rfl, fun base _ _ => ?_⟩
  have G_law_cell_at := ok_law_cell_at (P := l.prog) (w := w) (base := base) D_law_cell_at B
  have G_law_size := ok_law_size (P := l.prog) (w := w) (base := base) D_law_size B D_law_cell_at G_law_cell_at
  have G_law_many := ok_law_many (P := l.prog) (w := w) (base := base) D_law_many B D_law_cell_at G_law_cell_at
  have G_law_mixed := ok_law_mixed (P := l.prog) (w := w) (base := base) D_law_mixed
  have G_law_ring := ok_law_ring (P := l.prog) (w := w) (base := base) D_law_ring B D_law_cell_at G_law_cell_at D_law_mixed G_law_mixed
  have G_law_wrong := ok_law_wrong (P := l.prog) (w := w) (base := base) D_law_wrong B D_law_mixed G_law_mixed
  have G_law_due := ok_law_due (P := l.prog) (w := w) (base := base) D_law_due B
  have G_need_numbers := ok_need_numbers (P := l.prog) (w := w) (base := base) D_need_numbers NLEAST NMOST_NUMBERS CNoNumbers
  have G_need_machines := ok_need_machines (P := l.prog) (w := w) (base := base) D_need_machines NLEAST NMOST CNoRing
  have G_need_ring := ok_need_ring (P := l.prog) (w := w) (base := base) D_need_ring B CNoRing D_need_numbers G_need_numbers D_need_machines G_need_machines
  have G_may := ok_may (P := l.prog) (w := w) (base := base) D_may
  have G_able_of := ok_able_of (P := l.prog) (w := w) (base := base) D_able_of B D_may G_may
  have G_able := ok_able (P := l.prog) (w := w) (base := base) D_able D_need_ring G_need_ring D_able_of G_able_of
  have G_moved := ok_moved (P := l.prog) (w := w) (base := base) D_moved
  have G_step_of := ok_step_of (P := l.prog) (w := w) (base := base) D_step_of B CNoMachine CNotNow D_may G_may D_moved G_moved
  have G_stepped := ok_stepped (P := l.prog) (w := w) (base := base) D_stepped D_need_ring G_need_ring D_step_of G_step_of
  have G_gone := ok_gone (P := l.prog) (w := w) (base := base) D_gone D_need_ring G_need_ring D_step_of G_step_of
  have G_next_of := ok_next_of (P := l.prog) (w := w) (base := base) D_next_of B D_able_of G_able_of
  have G_drawn := ok_drawn (P := l.prog) (w := w) (base := base) D_drawn B D_need_ring G_need_ring D_next_of G_next_of D_moved G_moved
  have G_traced := ok_traced (P := l.prog) (w := w) (base := base) D_traced B D_need_ring G_need_ring D_step_of G_step_of
  have G_healed := ok_healed (P := l.prog) (w := w) (base := base) D_healed B D_need_ring G_need_ring D_able_of G_able_of
  have G_most := ok_most (P := l.prog) (w := w) (base := base) D_most D_need_machines G_need_machines
  have G_healing := ok_healing (P := l.prog) (w := w) (base := base) D_healing B CNoNumbers D_need_ring G_need_ring D_most G_most D_able_of G_able_of D_next_of G_next_of D_moved G_moved
  have G_turns := ok_turns (P := l.prog) (w := w) (base := base) D_turns B CNotHealed D_need_ring G_need_ring D_able_of G_able_of
  have G_law_asked := ok_law_asked (P := l.prog) (w := w) (base := base) D_law_asked D_able G_able D_stepped G_stepped D_gone G_gone D_drawn G_drawn D_traced G_traced D_healed G_healed D_healing G_healing D_turns G_turns
  have G_law_only := ok_law_only (P := l.prog) (w := w) (base := base) D_law_only B CHealError CNoNumbers CNoRing CNoMachine CNotNow CNotHealed CTooGreat
  have G_law_told := ok_law_told (P := l.prog) (w := w) (base := base) D_law_told B CHealError KD_NoNumbers KD_NoRing D_law_asked G_law_asked D_law_only G_law_only
  have G_law_listed := ok_law_listed (P := l.prog) (w := w) (base := base) D_law_listed B D_law_alike (ok_law_alikeT stay_RI D_law_alike B (ok_law_alike0 (P := l.prog) (w := w) (base := base) D_law_alike B))
  have G_law_able := ok_law_able (P := l.prog) (w := w) (base := base) D_law_able B
  exact ok_law D_law B D_law_size G_law_size D_law_many G_law_many D_law_ring G_law_ring D_law_wrong G_law_wrong D_law_due G_law_due D_law_told G_law_told D_able G_able D_law_listed G_law_listed D_law_able G_law_able D_law_cell_at G_law_cell_at
end HW
open PySem PySem.W PyProof.Rows
set_option maxRecDepth 100000 in
set_option maxHeartbeats 0 in
theorem PySem.Challenge.cw_healring_k01_able_holds : PySem.Challenge.rw_healring_k01_able.Holds := by
  w_on; o_law; k_head; (case hw => w_witness2)
  k_fill
  refine L2.walk_of (l := PySem.Challenge.rw_healring_k01_able) (n := 63) (k := 7) (x := "_law_script") (CX := fun w => L2N.CX (PySem.Challenge.rw_healring_k01_able).prog w) (sp := fun w => HW.sp_law _) rfl (by decide) rfl ⟨rfl, by decide, by decide⟩ (fun w h Y => PySem.W.kIn_of Y) ?F (fun _ _ a ns hl _ hS => ⟨a, ns, rfl, hS, fun _ => rfl⟩) (fun _ _ _ _ _ h => by obtain ⟨_, _, _, _, _, _, _, _, _, _, _, _, z⟩ := h; exact z)
  case F =>
    intro w mg fa h KX G hmg
    refine' HW.all_mk KX G hmg ?a_need_numbers ?l_need_numbers ?c_need_numbers ?k_need_numbers ?a_need_machines ?l_need_machines ?c_need_machines ?k_need_machines ?a_need_ring ?l_need_ring ?c_need_ring ?k_need_ring ?a_may ?l_may ?c_may ?k_may ?a_able_of ?l_able_of ?c_able_of ?k_able_of ?a_able ?l_able ?c_able ?k_able ?a_moved ?l_moved ?c_moved ?k_moved ?a_step_of ?l_step_of ?c_step_of ?k_step_of ?a_stepped ?l_stepped ?c_stepped ?k_stepped ?a_gone ?l_gone ?c_gone ?k_gone ?a_next_of ?l_next_of ?c_next_of ?k_next_of ?a_drawn ?l_drawn ?c_drawn ?k_drawn ?a_traced ?l_traced ?c_traced ?k_traced ?a_healed ?l_healed ?c_healed ?k_healed ?a_healing ?l_healing ?c_healing ?k_healing ?a_most ?l_most ?c_most ?k_most ?a_turns ?l_turns ?c_turns ?k_turns ?a_law_cell_at ?l_law_cell_at ?c_law_cell_at ?k_law_cell_at ?a_law_mixed ?l_law_mixed ?c_law_mixed ?k_law_mixed ?a_law_size ?l_law_size ?c_law_size ?k_law_size ?a_law_many ?l_law_many ?c_law_many ?k_law_many ?a_law_ring ?l_law_ring ?c_law_ring ?k_law_ring ?a_law_able ?l_law_able ?c_law_able ?k_law_able ?a_law_listed ?l_law_listed ?c_law_listed ?k_law_listed ?a_law_alike ?l_law_alike ?c_law_alike ?k_law_alike ?a_law_only ?l_law_only ?c_law_only ?k_law_only ?a_law_wrong ?l_law_wrong ?c_law_wrong ?k_law_wrong ?a_law_due ?l_law_due ?c_law_due ?k_law_due ?a_law_asked ?l_law_asked ?c_law_asked ?k_law_asked ?a_law_told ?l_law_told ?c_law_told ?k_law_told ?a_law ?l_law ?c_law ?k_law ?g_HealError ?x_HealError ?k_HealError ?b_HealError ?t_HealError ?g_NoNumbers ?x_NoNumbers ?k_NoNumbers ?b_NoNumbers ?t_NoNumbers ?g_NoRing ?x_NoRing ?k_NoRing ?b_NoRing ?t_NoRing ?g_NoMachine ?x_NoMachine ?k_NoMachine ?b_NoMachine ?t_NoMachine ?g_NotNow ?x_NotNow ?k_NotNow ?b_NotNow ?t_NotNow ?g_NotHealed ?x_NotHealed ?k_NotHealed ?b_NotHealed ?t_NotHealed ?g_TooGreat ?x_TooGreat ?k_TooGreat ?b_TooGreat ?t_TooGreat ?n_LEAST ?n_MOST ?n_MOST_NUMBERS ?z_len ?z_range ?z_min ?z_max ?z_isinstance ?z_int ?z_bool ?z_tuple ?z_list ?z_sorted ?z_abs ?z_ValueError ?hn_ ?ht_ ?hd_HealError ?hg_NoNumbers ?hk_NoNumbers ?hd_NoNumbers ?ha_NoNumbers ?hm_NoNumbers ?i0_NoNumbers ?i1_NoNumbers ?i2_NoNumbers ?i3_NoNumbers ?i4_NoNumbers ?i5_NoNumbers ?ih_NoNumbers ?iv_NoNumbers ?se_NoNumbers ?hg_NoRing ?hk_NoRing ?hd_NoRing ?ha_NoRing ?hm_NoRing ?i0_NoRing ?i1_NoRing ?i2_NoRing ?i3_NoRing ?i4_NoRing ?i5_NoRing ?ih_NoRing ?iv_NoRing ?se_NoRing
    (case a_need_numbers => k_is)
    (case l_need_numbers => k_is)
    (case c_need_numbers => k_is)
    (case k_need_numbers => k_is)
    (case a_need_machines => k_is)
    (case l_need_machines => k_is)
    (case c_need_machines => k_is)
    (case k_need_machines => k_is)
    (case a_need_ring => k_is)
    (case l_need_ring => k_is)
    (case c_need_ring => k_is)
    (case k_need_ring => k_is)
    (case a_may => k_is)
    (case l_may => k_is)
    (case c_may => k_is)
    (case k_may => k_is)
    (case a_able_of => k_is)
    (case l_able_of => k_is)
    (case c_able_of => k_is)
    (case k_able_of => k_is)
    (case a_able => k_is)
    (case l_able => k_is)
    (case c_able => k_is)
    (case k_able => k_is)
    (case a_moved => k_is)
    (case l_moved => k_is)
    (case c_moved => k_is)
    (case k_moved => k_is)
    (case a_step_of => k_is)
    (case l_step_of => k_is)
    (case c_step_of => k_is)
    (case k_step_of => k_is)
    (case a_stepped => k_is)
    (case l_stepped => k_is)
    (case c_stepped => k_is)
    (case k_stepped => k_is)
    (case a_gone => k_is)
    (case l_gone => k_is)
    (case c_gone => k_is)
    (case k_gone => k_is)
    (case a_next_of => k_is)
    (case l_next_of => k_is)
    (case c_next_of => k_is)
    (case k_next_of => k_is)
    (case a_drawn => k_is)
    (case l_drawn => k_is)
    (case c_drawn => k_is)
    (case k_drawn => k_is)
    (case a_traced => k_is)
    (case l_traced => k_is)
    (case c_traced => k_is)
    (case k_traced => k_is)
    (case a_healed => k_is)
    (case l_healed => k_is)
    (case c_healed => k_is)
    (case k_healed => k_is)
    (case a_healing => k_is)
    (case l_healing => k_is)
    (case c_healing => k_is)
    (case k_healing => k_is)
    (case a_most => k_is)
    (case l_most => k_is)
    (case c_most => k_is)
    (case k_most => k_is)
    (case a_turns => k_is)
    (case l_turns => k_is)
    (case c_turns => k_is)
    (case k_turns => k_is)
    (case a_law_cell_at => k_is)
    (case l_law_cell_at => k_is)
    (case c_law_cell_at => k_is)
    (case k_law_cell_at => k_is)
    (case a_law_mixed => k_is)
    (case l_law_mixed => k_is)
    (case c_law_mixed => k_is)
    (case k_law_mixed => k_is)
    (case a_law_size => k_is)
    (case l_law_size => k_is)
    (case c_law_size => k_is)
    (case k_law_size => k_is)
    (case a_law_many => k_is)
    (case l_law_many => k_is)
    (case c_law_many => k_is)
    (case k_law_many => k_is)
    (case a_law_ring => k_is)
    (case l_law_ring => k_is)
    (case c_law_ring => k_is)
    (case k_law_ring => k_is)
    (case a_law_able => k_is)
    (case l_law_able => k_is)
    (case c_law_able => k_is)
    (case k_law_able => k_is)
    (case a_law_listed => k_is)
    (case l_law_listed => k_is)
    (case c_law_listed => k_is)
    (case k_law_listed => k_is)
    (case a_law_alike => k_is)
    (case l_law_alike => k_is)
    (case c_law_alike => k_is)
    (case k_law_alike => k_is)
    (case a_law_only => k_is)
    (case l_law_only => k_is)
    (case c_law_only => k_is)
    (case k_law_only => k_is)
    (case a_law_wrong => k_is)
    (case l_law_wrong => k_is)
    (case c_law_wrong => k_is)
    (case k_law_wrong => k_is)
    (case a_law_due => k_is)
    (case l_law_due => k_is)
    (case c_law_due => k_is)
    (case k_law_due => k_is)
    (case a_law_asked => k_is)
    (case l_law_asked => k_is)
    (case c_law_asked => k_is)
    (case k_law_asked => k_is)
    (case a_law_told => k_is)
    (case l_law_told => k_is)
    (case c_law_told => k_is)
    (case k_law_told => k_is)
    (case a_law => k_is)
    (case l_law => k_is)
    (case c_law => k_is)
    (case k_law => k_is)
    (case g_HealError => k_is)
    (case x_HealError => k_exc)
    (case k_HealError => k_is)
    (case b_HealError => k_is)
    (case t_HealError => k_is)
    (case g_NoNumbers => k_is)
    (case x_NoNumbers => k_exc)
    (case k_NoNumbers => k_is)
    (case b_NoNumbers => k_is)
    (case t_NoNumbers => k_is)
    (case g_NoRing => k_is)
    (case x_NoRing => k_exc)
    (case k_NoRing => k_is)
    (case b_NoRing => k_is)
    (case t_NoRing => k_is)
    (case g_NoMachine => k_is)
    (case x_NoMachine => k_exc)
    (case k_NoMachine => k_is)
    (case b_NoMachine => k_is)
    (case t_NoMachine => k_is)
    (case g_NotNow => k_is)
    (case x_NotNow => k_exc)
    (case k_NotNow => k_is)
    (case b_NotNow => k_is)
    (case t_NotNow => k_is)
    (case g_NotHealed => k_is)
    (case x_NotHealed => k_exc)
    (case k_NotHealed => k_is)
    (case b_NotHealed => k_is)
    (case t_NotHealed => k_is)
    (case g_TooGreat => k_is)
    (case x_TooGreat => k_exc)
    (case k_TooGreat => k_is)
    (case b_TooGreat => k_is)
    (case t_TooGreat => k_is)
    (case n_LEAST => k_is)
    (case n_MOST => k_is)
    (case n_MOST_NUMBERS => k_is)
    (case z_len => k_is)
    (case z_range => k_is)
    (case z_min => k_is)
    (case z_max => k_is)
    (case z_isinstance => k_is)
    (case z_int => k_is)
    (case z_bool => k_is)
    (case z_tuple => k_is)
    (case z_list => k_is)
    (case z_sorted => k_is)
    (case z_abs => k_is)
    (case z_ValueError => k_is)
    (case hn_ => k_is)
    (case ht_ => k_is)
    (case hd_HealError => k_is)
    (case hg_NoNumbers => k_is)
    (case hk_NoNumbers => k_is)
    (case hd_NoNumbers => k_is)
    (case ha_NoNumbers => k_is)
    (case hm_NoNumbers => k_is)
    (case i0_NoNumbers => kit_is)
    (case i1_NoNumbers => kit_is)
    (case i2_NoNumbers => kit_is)
    (case i3_NoNumbers => kit_is)
    (case i4_NoNumbers => kit_is)
    (case i5_NoNumbers => kit_is)
    (case ih_NoNumbers => kit_is)
    (case iv_NoNumbers => kit_is)
    (case se_NoNumbers => k_is)
    (case hg_NoRing => k_is)
    (case hk_NoRing => k_is)
    (case hd_NoRing => k_is)
    (case ha_NoRing => k_is)
    (case hm_NoRing => k_is)
    (case i0_NoRing => kit_is)
    (case i1_NoRing => kit_is)
    (case i2_NoRing => kit_is)
    (case i3_NoRing => kit_is)
    (case i4_NoRing => kit_is)
    (case i5_NoRing => kit_is)
    (case ih_NoRing => kit_is)
    (case iv_NoRing => kit_is)
    (case se_NoRing => k_is)
#print axioms PySem.Challenge.cw_healring_k01_able_holds

