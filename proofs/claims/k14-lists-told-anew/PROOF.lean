import PyProof.Rows.All
import Wide.All
import OpenK.AllK
import Wide.FinOn
import HandS.ForMost
import HandS.ForExc
import HandS.TupAny
import HandS.TupMul
import HandS.IsInst
import HandS.Conv
import HandS.SetFor
import HandS.ExcCtx
import HandS.HotCalls
import HandS.ExcIs
import HandS.Style
import HandS.SortInts
import KE.DatumOrd
import HandS.DictTup
import HandS.Dict
import HandS.TupLen
import HandS.Walk
import HandS.ForDict
import PyProof.P3Eq
import HandS.Deep
import KE.RegKIsAll
import PySem.Challenge.RW_healring_k14_lists_told_anew
set_option Elab.async false
set_option linter.all false
set_option maxRecDepth 100000
set_option maxHeartbeats 4000000
namespace HR
/-- the value of machine k -/
abbrev at0 (r : List Int) (k : Nat) : Int := r.getD k 0
def may (r : List Int) (k : Nat) : Bool :=
  if k = 0 then decide (at0 r 0 = at0 r (r.length - 1)) else decide (¬ at0 r k = at0 r (k - 1))
def able (r : List Int) : List Nat := (List.range r.length).filter (may r)
def moved (m : Int) (r : List Int) (k : Nat) : List Int :=
  r.set k (if k = 0 then (at0 r 0 + 1) % m else at0 r (k - 1))
structure Ring (n : Nat) (m : Int) (r : List Int) : Prop where
  len : r.length = n
  n2 : 2 ≤ n
  m2 : 2 ≤ m
  lo : ∀ k, k < n → 0 ≤ at0 r k
  hi : ∀ k, k < n → at0 r k < m

theorem at0_set {r : List Int} {k j : Nat} {v : Int} (h : k < r.length) : at0 (r.set k v) j = if j = k then v else at0 r j := by
  unfold at0
  rw [List.getD_eq_getElem?_getD, List.getD_eq_getElem?_getD, List.getElem?_set]
  by_cases e : j = k
  · subst e; simp [h]
  · have e2 : ¬ k = j := fun q => e q.symm
    simp [e, e2]

theorem moved_len (m : Int) (r : List Int) (k : Nat) : (moved m r k).length = r.length := by
  unfold moved; exact List.length_set

theorem at0_moved {m : Int} {r : List Int} {k j : Nat} (h : k < r.length) :
    at0 (moved m r k) j = if j = k then (if k = 0 then (at0 r 0 + 1) % m else at0 r (k - 1)) else at0 r j := by
  unfold moved; exact at0_set h

theorem Ring.moved {n : Nat} {m : Int} {r : List Int} (R : Ring n m r) {k : Nat} (hk : k < n) : Ring n m (moved m r k) := by
  have hl : k < r.length := by rw [R.len]; exact hk
  have hm : 0 < m := by have := R.m2; omega
  refine ⟨by rw [moved_len, R.len], R.n2, R.m2, fun j hj => ?_, fun j hj => ?_⟩
  · rw [at0_moved hl]
    split
    · split
      · exact Int.emod_nonneg _ (by omega)
      · exact R.lo _ (by omega)
    · exact R.lo _ hj
  · rw [at0_moved hl]
    split
    · split
      · exact Int.emod_lt_of_pos _ hm
      · exact R.hi _ (by omega)
    · exact R.hi _ hj

theorem mem_able {r : List Int} {k : Nat} : k ∈ able r ↔ k < r.length ∧ may r k = true := by
  unfold able; rw [List.mem_filter, List.mem_range]

theorem may_zero {r : List Int} : may r 0 = true ↔ at0 r 0 = at0 r (r.length - 1) := by
  unfold may; simp
theorem may_pos {r : List Int} {k : Nat} (h : 0 < k) : may r k = true ↔ ¬ at0 r k = at0 r (k - 1) := by
  unfold may; rw [if_neg (by omega)]; simp

/-- all equal up to k, where none of 1 .. k may step -/
theorem alike_of {r : List Int} : ∀ k, (∀ j, 0 < j → j ≤ k → may r j = false) → at0 r k = at0 r 0
  | 0, _ => rfl
  | k + 1, h => by
    have ih := alike_of k fun j h1 h2 => h j h1 (by omega)
    have q := h (k + 1) (by omega) (Nat.le_refl _)
    by_cases e : at0 r (k + 1) = at0 r k
    · rw [e, ih]
    · have := (may_pos (r := r) (k := k + 1) (by omega)).mpr (by simpa using e)
      rw [q] at this; cases this

theorem able_ne {r : List Int} (h : 0 < r.length) : able r ≠ [] := by
  intro e
  have no : ∀ k, k < r.length → may r k = false := fun k hk => by
    cases q : may r k with
    | false => rfl
    | true =>
      have : k ∈ able r := mem_able.mpr ⟨hk, q⟩
      rw [e] at this; cases this
  have a := alike_of (r := r) (r.length - 1) fun j _ h2 => no j (by omega)
  have b := may_zero.mpr a.symm
  rw [no 0 h] at b; cases b

theorem able_pos {r : List Int} (h : 0 < r.length) : 0 < (able r).length := by
  cases e : able r with
  | nil => exact absurd e (able_ne h)
  | cons _ _ => simp

theorem nodup_able (r : List Int) : (able r).Nodup := List.Nodup.sublist List.filter_sublist List.nodup_range

/-- a list without doubles whose members are just k -/
theorem one_of {l : List Nat} {k : Nat} (nd : l.Nodup) (h : ∀ j, j ∈ l ↔ j = k) : l = [k] := by
  match l, nd, h with
  | [], _, h => have := (h k).mpr rfl; cases this
  | [a], _, h => have := (h a).mp (by simp); rw [this]
  | a :: b :: t, nd, h =>
    have e1 := (h a).mp (by simp)
    have e2 := (h b).mp (by simp)
    rw [e1, e2] at nd
    simp at nd

theorem able_one {r : List Int} {k : Nat} (hk : k < r.length) (h : ∀ j, j < r.length → (may r j = true ↔ j = k)) : able r = [k] := by
  refine one_of (nodup_able r) fun j => ?_
  rw [mem_able]
  constructor
  · intro ⟨a, b⟩; exact (h j a).mp b
  · intro e; subst e; exact ⟨hk, (h _ hk).mpr rfl⟩

theorem may_moved_self {n : Nat} {m : Int} {r : List Int} (R : Ring n m r) {k : Nat} (hk : k < n) (hm : may r k = true) : may (HR.moved m r k) k = false := by
  have hl : k < r.length := by rw [R.len]; exact hk
  have n2 := R.n2
  have m2 := R.m2
  cases q : may (HR.moved m r k) k with
  | false => rfl
  | true =>
    by_cases e : k = 0
    · subst e
      have a := may_zero.mp q
      rw [moved_len, at0_moved hl, at0_moved hl, if_pos rfl, if_pos rfl, if_neg (by rw [R.len]; omega)] at a
      have b := may_zero.mp hm
      rw [← b] at a
      have lo := R.lo 0 hk
      have hi := R.hi 0 hk
      exfalso
      by_cases c : at0 r 0 + 1 = m
      · rw [c, Int.emod_self] at a; omega
      · rw [Int.emod_eq_of_lt (by omega) (by omega)] at a; omega
    · have a := (may_pos (by omega)).mp q
      rw [at0_moved hl, at0_moved hl, if_pos rfl, if_neg e, if_neg (by omega)] at a
      exact absurd rfl a

/-- the machine behind k -/
def nxt (n k : Nat) : Nat := if k + 1 = n then 0 else k + 1
theorem nxt_lt {n k : Nat} (h : k < n) : nxt n k < n := by unfold nxt; split <;> omega

theorem may_moved_other {n : Nat} {m : Int} {r : List Int} (R : Ring n m r) {k j : Nat} (hk : k < n) (hj : j < n) (h1 : j ≠ k) (h2 : j ≠ nxt n k) : may (HR.moved m r k) j = may r j := by
  have hl : k < r.length := by rw [R.len]; exact hk
  have n2 := R.n2
  unfold nxt at h2
  unfold may
  by_cases e : j = 0
  · subst e
    rw [if_pos rfl, if_pos rfl, moved_len, at0_moved hl, at0_moved hl, if_neg h1, if_neg]
    rw [R.len]
    intro q
    rw [if_pos (by omega)] at h2
    exact h2 rfl
  · rw [if_neg e, if_neg e, at0_moved hl, at0_moved hl, if_neg h1, if_neg]
    intro q
    split at h2 <;> omega

theorem able_moved_one {n : Nat} {m : Int} {r : List Int} (R : Ring n m r) {k : Nat} (h : able r = [k]) : able (HR.moved m r k) = [nxt n k] ∧ k < n ∧ may r k = true := by
  have hk : k ∈ able r := by rw [h]; simp
  obtain ⟨hl, hm⟩ := mem_able.mp hk
  have hn : k < n := by rw [← R.len]; exact hl
  have R' := R.moved hn
  refine ⟨?_, hn, hm⟩
  have only : ∀ j, j ∈ able (HR.moved m r k) → j = nxt n k := fun j hj => by
    obtain ⟨a, b⟩ := mem_able.mp hj
    rw [moved_len, R.len] at a
    by_cases e2 : j = nxt n k
    · exact e2
    · by_cases e1 : j = k
      · subst e1
        rw [may_moved_self R hn hm] at b; cases b
      · rw [may_moved_other R hn a e1 e2] at b
        have : j ∈ able r := mem_able.mpr ⟨by rw [R.len]; exact a, b⟩
        rw [h] at this
        exact absurd (by simpa using this) e1
  have ne : able (HR.moved m r k) ≠ [] := able_ne (by rw [R'.len]; have := R.n2; omega)
  refine one_of (nodup_able _) fun j => ⟨only j, fun e => ?_⟩
  subst e
  cases q : able (HR.moved m r k) with
  | nil => exact absurd q ne
  | cons a t =>
    have := only a (by rw [q]; simp)
    rw [← this]; simp

/-- an order that can be gone from r, and where it leads -/
inductive Ex (n : Nat) (m : Int) (r : List Int) : List Nat → List Int → Prop
  | nil : Ex n m r [] r
  | snoc {ks : List Nat} {r' : List Int} {k : Nat} : Ex n m r ks r' → k < n → may r' k = true → Ex n m r (ks ++ [k]) (moved m r' k)

theorem Ex.ring {n : Nat} {m : Int} {r r' : List Int} {ks : List Nat} (R : Ring n m r) (x : Ex n m r ks r') : Ring n m r' := by
  induction x with
  | nil => exact R
  | snoc _ hk _ ih => exact ih.moved hk

theorem count_snoc (ks : List Nat) (k j : Nat) : (ks ++ [k]).count j = ks.count j + (if k = j then 1 else 0) := by
  rw [List.count_append, List.count_singleton]
  by_cases e : k = j <;> simp [e]

theorem Ex.cnt {n : Nat} {m : Int} {r r' : List Int} {ks : List Nat} (R : Ring n m r) (x : Ex n m r ks r') :
    ∀ k, 0 < k → k < n → ks.count k ≤ ks.count (k - 1) + 1 ∧ (ks.count k = ks.count (k - 1) + 1 → at0 r' k = at0 r' (k - 1)) := by
  induction x with
  | nil => intro k h1 h2; simp
  | @snoc ks r' i x hi hm ih =>
    intro k h1 h2
    have R' := x.ring R
    have hl : i < r'.length := by rw [R'.len]; exact hi
    obtain ⟨a, b⟩ := ih k h1 h2
    rw [count_snoc, count_snoc, at0_moved hl, at0_moved hl]
    by_cases e : i = k
    · subst e
      have z := (may_pos h1).mp hm
      rw [if_pos rfl, if_neg (show ¬ i = i - 1 by omega), if_pos rfl, if_neg (show ¬ i = 0 by omega), if_neg (show ¬ i - 1 = i by omega)]
      refine ⟨?_, fun _ => rfl⟩
      have : ¬ ks.count i = ks.count (i - 1) + 1 := fun q => z (b q)
      omega
    · rw [if_neg e, if_neg (show ¬ k = i from fun q => e q.symm)]
      by_cases e2 : i = k - 1
      · rw [if_pos e2]
        constructor
        · omega
        · intro q; exfalso; omega
      · rw [if_neg e2, if_neg (show ¬ k - 1 = i from fun q => e2 q.symm)]
        exact ⟨by omega, fun q => b (by omega)⟩

/-- no list without doubles is longer than one that holds its members -/
theorem le_of_sub {α : Type} [BEq α] [LawfulBEq α] : ∀ (l m : List α), l.Nodup → (∀ x ∈ l, x ∈ m) → l.length ≤ m.length
  | [], _, _, _ => Nat.zero_le _
  | a :: l, m, nd, h => by
    have ha := h a (by simp)
    have q := le_of_sub l (m.erase a) (List.nodup_cons.mp nd).2 fun x hx => by
      have ne : x ≠ a := fun e => (List.nodup_cons.mp nd).1 (e ▸ hx)
      exact (List.mem_erase_of_ne ne).mpr (h x (by simp [hx]))
    have e := List.length_erase_of_mem ha
    have pos : 0 < m.length := List.length_pos_of_mem ha
    rw [List.length_cons]
    omega

theorem emod_inj {m a : Int} {i j : Nat} (hi : (i : Int) < m) (hj : (j : Int) < m) (e : (a + i) % m = (a + j) % m) : i = j := by
  have h : (a + i - (a + j)) % m = 0 := Int.emod_eq_emod_iff_emod_sub_eq_zero.mp e
  have h2 : m ∣ (a + i - (a + j)) := Int.dvd_of_emod_eq_zero h
  obtain ⟨c, hc⟩ := h2
  have : (i : Int) - j = m * c := by omega
  by_cases c0 : c = 0
  · rw [c0] at this; omega
  · exfalso
    by_cases cp : 0 < c
    · have : m * 1 ≤ m * c := Int.mul_le_mul_of_nonneg_left (by omega) (by omega)
      omega
    · have : m * c ≤ m * (-1) := Int.mul_le_mul_of_nonneg_left (by omega) (by omega)
      omega

/-- a number that machine 0 comes to within n - 1 steps and that none of the others holds -/
theorem fresh {n : Nat} {m : Int} {r : List Int} (R : Ring n m r) (hm : (n : Int) ≤ m) : ∃ j, j < n ∧ ∀ i, 0 < i → i < n → at0 r i ≠ (at0 r 0 + j) % m := by
  have n2 := R.n2
  apply Classical.byContradiction
  intro no
  have all : ∀ j, j < n → ∃ i, 0 < i ∧ i < n ∧ at0 r i = (at0 r 0 + j) % m := fun j hj => by
    apply Classical.byContradiction
    intro q
    exact no ⟨j, hj, fun i h1 h2 e => q ⟨i, h1, h2, e⟩⟩
  let L : List Int := (List.range n).map fun (j : Nat) => (at0 r 0 + (j : Int)) % m
  have nd : L.Nodup := by
    refine List.nodup_iff_pairwise_ne.mpr ?_
    refine List.pairwise_map.mpr ?_
    refine List.Pairwise.imp_of_mem (R := fun a b => a ≠ b) (fun {a b} ha hb h e => ?_) (List.nodup_iff_pairwise_ne.mp List.nodup_range)
    have ha := List.mem_range.mp ha
    have hb := List.mem_range.mp hb
    exact h (emod_inj (by omega) (by omega) e)
  have sub : ∀ x ∈ L, x ∈ r.tail := fun x hx => by
    obtain ⟨j, hj, rfl⟩ := List.mem_map.mp hx
    obtain ⟨i, h1, h2, e⟩ := all j (List.mem_range.mp hj)
    rw [← e]
    have hl : i < r.length := by rw [R.len]; exact h2
    match r, i, h1, hl with
    | a :: t, i + 1, _, hl =>
      show (a :: t).getD (i + 1) 0 ∈ t
      have hlt : i < t.length := by simpa using hl
      rw [List.getD_cons_succ, List.getD_eq_getElem?_getD, List.getElem?_eq_getElem hlt]
      exact List.getElem_mem hlt
  have z := le_of_sub L r.tail nd sub
  rw [List.length_map, List.length_range, List.length_tail, R.len] at z
  omega

/-- an order each of whose steps is taken in a ring that is not healed -/
inductive Un (n : Nat) (m : Int) (r : List Int) : List Nat → List Int → Prop
  | nil : Un n m r [] r
  | snoc {ks : List Nat} {r' : List Int} {k : Nat} : Un n m r ks r' → k < n → may r' k = true → (able r').length ≠ 1 → Un n m r (ks ++ [k]) (moved m r' k)
theorem Un.ex {n : Nat} {m : Int} {r r' : List Int} {ks : List Nat} (x : Un n m r ks r') : Ex n m r ks r' := by
  induction x with
  | nil => exact .nil
  | snoc _ h1 h2 _ ih => exact ih.snoc h1 h2

theorem healed_alike {n : Nat} {m : Int} {r : List Int} (R : Ring n m r) (h : ∀ i, i < n → at0 r i = at0 r 0) : (able r).length = 1 := by
  have n2 := R.n2
  rw [able_one (k := 0) (by rw [R.len]; omega) fun j hj => ?_]
  · rfl
  · rw [R.len] at hj
    constructor
    · intro q
      apply Classical.byContradiction
      intro ne
      have := (may_pos (by omega)).mp q
      rw [h j hj, h (j - 1) (by omega)] at this
      exact this rfl
    · intro e
      subst e
      exact may_zero.mpr (by rw [R.len, h (n - 1) (by omega)])

theorem Un.zero {n : Nat} {m : Int} {r r' : List Int} {ks : List Nat} (R : Ring n m r) (hm : (n : Int) ≤ m) (x : Un n m r ks r') : ks.count 0 < n := by
  obtain ⟨j, hj, hf⟩ := fresh R hm
  have n2 := R.n2
  have key : ks.count 0 ≤ j ∧ at0 r' 0 = (at0 r 0 + (ks.count 0 : Nat)) % m ∧
      ((ks.count 0 < j ∧ ∀ i, i < n → at0 r' i ≠ (at0 r 0 + j) % m) ∨ (ks.count 0 = j ∧ ∃ p, 0 < p ∧ p ≤ n ∧ (∀ i, i < p → at0 r' i = (at0 r 0 + j) % m) ∧ ∀ i, p ≤ i → i < n → at0 r' i ≠ (at0 r 0 + j) % m)) := by
    have lo := R.lo 0 (by omega)
    have hi := R.hi 0 (by omega)
    induction x with
    | nil =>
      have e0 : at0 r 0 = (at0 r 0 + ((([] : List Nat).count 0 : Nat) : Int)) % m := by
        show _ = (at0 r 0 + 0) % m
        rw [Int.add_zero, Int.emod_eq_of_lt lo hi]
      refine ⟨Nat.zero_le _, e0, ?_⟩
      by_cases c : j = 0
      · refine .inr ⟨c.symm, 1, by omega, by omega, fun i hi => ?_, fun i h1 h2 => hf i (by omega) h2⟩
        have : i = 0 := by omega
        rw [this, c]; exact e0
      · refine .inl ⟨by show 0 < j; omega, fun i hi => ?_⟩
        by_cases ci : i = 0
        · rw [ci]
          intro q
          have q2 : (at0 r 0 + ((0 : Nat) : Int)) % m = (at0 r 0 + (j : Int)) % m := e0.symm.trans q
          have := emod_inj (by omega) (by omega) q2
          omega
        · exact hf i (by omega) hi
    | @snoc ks r' k x hk hmay hun ih =>
      have R' := x.ex.ring R
      have hl : k < r'.length := by rw [R'.len]; exact hk
      obtain ⟨a, b, c⟩ := ih
      rw [count_snoc]
      by_cases k0 : k = 0
      · subst k0
        rw [if_pos rfl]
        have e1 : at0 (HR.moved m r' 0) 0 = (at0 r 0 + ((ks.count 0 + 1 : Nat) : Int)) % m := by
          rw [at0_moved hl, if_pos rfl, if_pos rfl, b, Int.emod_add_emod]
          congr 1; omega
        rcases c with ⟨c1, c2⟩ | ⟨c1, p, p1, p2, p3, p4⟩
        · refine ⟨by omega, e1, ?_⟩
          by_cases cj : ks.count 0 + 1 = j
          · refine .inr ⟨cj, 1, by omega, by omega, fun i hi => ?_, fun i h1 h2 => ?_⟩
            · have : i = 0 := by omega
              rw [this, e1, cj]
            · rw [at0_moved hl, if_neg (by omega)]; exact c2 i h2
          · refine .inl ⟨by omega, fun i hi => ?_⟩
            by_cases ci : i = 0
            · rw [ci, e1]
              intro q
              have := emod_inj (by omega) (by omega) q
              omega
            · rw [at0_moved hl, if_neg ci]; exact c2 i hi
        · exfalso
          have z := may_zero.mp hmay
          rw [R'.len] at z
          have z0 := p3 0 p1
          have pn : p = n := by
            apply Classical.byContradiction
            intro ne
            have := p4 (n - 1) (by omega) (by omega)
            rw [← z, z0] at this
            exact this rfl
          subst pn
          exact hun (healed_alike R' fun i hi => by rw [p3 i hi, z0])
      · rw [if_neg k0, Nat.add_zero]
        have e1 : at0 (HR.moved m r' k) 0 = at0 r' 0 := by rw [at0_moved hl, if_neg (by omega)]
        refine ⟨a, by rw [e1]; exact b, ?_⟩
        rcases c with ⟨c1, c2⟩ | ⟨c1, p, p1, p2, p3, p4⟩
        · refine .inl ⟨c1, fun i hi => ?_⟩
          rw [at0_moved hl]
          by_cases ci : i = k
          · rw [if_pos ci, if_neg k0]; exact c2 _ (by omega)
          · rw [if_neg ci]; exact c2 i hi
        · have mk := (may_pos (by omega)).mp hmay
          have hkp : p ≤ k := by
            apply Classical.byContradiction
            intro q
            rw [p3 k (by omega), p3 (k - 1) (by omega)] at mk
            exact mk rfl
          by_cases ck : k = p
          · refine .inr ⟨c1, p + 1, by omega, by omega, fun i hi => ?_, fun i h1 h2 => ?_⟩
            · rw [at0_moved hl]
              by_cases ci : i = k
              · rw [if_pos ci, if_neg k0]; exact p3 _ (by omega)
              · rw [if_neg ci]; exact p3 _ (by omega)
            · rw [at0_moved hl, if_neg (by omega)]; exact p4 i (by omega) h2
          · refine .inr ⟨c1, p, p1, p2, fun i hi => ?_, fun i h1 h2 => ?_⟩
            · rw [at0_moved hl, if_neg (by omega)]; exact p3 i hi
            · rw [at0_moved hl]
              by_cases ci : i = k
              · rw [if_pos ci, if_neg k0]; exact p4 _ (by omega) (by omega)
              · rw [if_neg ci]; exact p4 i h1 h2
  omega

theorem sum_ind (x : Nat) : ∀ n, ((List.range n).map fun k => if x = k then 1 else 0).sum = if x < n then 1 else 0
  | 0 => by simp
  | n + 1 => by
    rw [List.range_succ, List.map_append, List.sum_append, sum_ind x n]
    simp only [List.map_cons, List.map_nil, List.sum_cons, List.sum_nil]
    by_cases a : x < n
    · rw [if_pos a, if_neg (by omega), if_pos (by omega)]; rfl
    · rw [if_neg a]
      by_cases b : x = n
      · rw [if_pos b, if_pos (by omega)]; rfl
      · rw [if_neg b, if_neg (by omega)]; rfl

theorem sum_add (f g : Nat → Nat) : ∀ l : List Nat, (l.map fun k => f k + g k).sum = (l.map f).sum + (l.map g).sum
  | [] => rfl
  | a :: l => by simp only [List.map_cons, List.sum_cons, sum_add f g l]; omega

theorem len_counts (n : Nat) : ∀ ks : List Nat, (∀ x ∈ ks, x < n) → ks.length = ((List.range n).map fun k => ks.count k).sum
  | [], _ => by
    have : ∀ l : List Nat, (l.map fun k => ([] : List Nat).count k).sum = 0 := fun l => by
      induction l with
      | nil => rfl
      | cons a l ih => rw [List.map_cons, List.sum_cons, ih]; rfl
    rw [this]; rfl
  | x :: ks, h => by
    have ih := len_counts n ks fun y hy => h y (by simp [hy])
    have e : (fun k => (x :: ks).count k) = fun k => ks.count k + if x = k then 1 else 0 := by
      funext k
      rw [List.count_cons]
      by_cases q : x = k <;> simp [q]
    rw [e, sum_add, ← ih, sum_ind, if_pos (h x (by simp)), List.length_cons]

theorem sum_le {f : Nat → Nat} {c : Nat} : ∀ n, (∀ k, k < n → f k ≤ c + k) → 2 * ((List.range n).map f).sum + n ≤ 2 * (n * c) + n * n
  | 0, _ => by simp
  | n + 1, h => by
    have ih := sum_le n fun k hk => h k (by omega)
    have q := h n (by omega)
    rw [List.range_succ, List.map_append, List.sum_append]
    simp only [List.map_cons, List.map_nil, List.sum_cons, List.sum_nil]
    have e1 : (n + 1) * c = n * c + c := Nat.succ_mul n c
    have e2 : (n + 1) * (n + 1) = n * n + n + n + 1 := by rw [Nat.succ_mul, Nat.mul_succ]; omega
    rw [e1, e2]
    omega

theorem Ex.small {n : Nat} {m : Int} {r r' : List Int} {ks : List Nat} (x : Ex n m r ks r') : ∀ k ∈ ks, k < n := by
  induction x with
  | nil => intro k hk; cases hk
  | snoc _ h _ ih =>
    intro k hk
    rcases List.mem_append.mp hk with q | q
    · exact ih k q
    · rw [List.mem_singleton.mp q]; exact h

def most (n : Nat) : Nat := 3 * n * (n - 1) / 2

theorem two_most (n : Nat) : 2 * most n = 3 * n * (n - 1) := by
  unfold most
  have : 3 * n * (n - 1) % 2 = 0 := by
    rcases Nat.mod_two_eq_zero_or_one n with h | h
    · rw [Nat.mul_mod, Nat.mul_mod 3 n, h]; simp
    · have : (n - 1) % 2 = 0 := by omega
      rw [Nat.mul_mod, this]; simp
  omega

theorem Un.bound {n : Nat} {m : Int} {r r' : List Int} {ks : List Nat} (R : Ring n m r) (hm : (n : Int) ≤ m) (x : Un n m r ks r') : ks.length ≤ most n := by
  have z := x.zero R hm
  have n2 := R.n2
  have c := x.ex.cnt R
  have all : ∀ k, k < n → ks.count k ≤ (n - 1) + k := fun k => by
    induction k with
    | zero => intro _; omega
    | succ k ih =>
      intro h
      have := (c (k + 1) (by omega) h).1
      have := ih (by omega)
      simp only [Nat.add_sub_cancel] at *
      omega
  have s := sum_le n all
  rw [← len_counts n ks x.ex.small] at s
  have t := two_most n
  have e1 : n * (n - 1) + n = n * n := by
    rw [← Nat.mul_succ]
    congr 1; omega
  have e2 : 3 * n * (n - 1) = n * (n - 1) + n * (n - 1) + n * (n - 1) := by
    rw [Nat.mul_assoc, Nat.succ_mul, Nat.succ_mul, Nat.one_mul]
  omega

/-- where as many steps are gone as can be, the ring is healed -/
theorem Un.done {n : Nat} {m : Int} {r r' : List Int} {ks : List Nat} (R : Ring n m r) (hm : (n : Int) ≤ m) (x : Un n m r ks r') (h : most n ≤ ks.length) : (able r').length = 1 := by
  apply Classical.byContradiction
  intro ne
  have R' := x.ex.ring R
  have n2 := R.n2
  cases q : able r' with
  | nil => exact able_ne (by rw [R'.len]; omega) q
  | cons k t =>
    have hk : k ∈ able r' := by rw [q]; simp
    obtain ⟨a, b⟩ := mem_able.mp hk
    have := (x.snoc (by rw [← R'.len]; exact a) b ne).bound R hm
    rw [List.length_append, List.length_singleton] at this
    omega
end HR
namespace HW
open PySem PySem.Spec PyProof.Rows L2 HR
/-! ### own words over the layer -/
/-- built-in names that the program leaves as they are -/
structure Bt (mg : Str → Option Value) : Prop where
  len : mg "len" = none
  range : mg "range" = none
  min : mg "min" = none
  max : mg "max" = none
  isinstance : mg "isinstance" = none
  int : mg "int" = none
  bool : mg "bool" = none
  tuple : mg "tuple" = none
  list : mg "list" = none
  sorted : mg "sorted" = none
  abs : mg "abs" = none
  verr : mg "ValueError" = none
/-- a def of the text: where it stands, how it is called -/
structure Df (K : PySem.W.Frag) (mg : Str → Option Value) (x : Str) (st : Stmt) (ps : List Str) (f : Addr) (fd : FuncData) : Prop where
  F : Fun K x x st f fd
  g : mg x = some (.ref f)
  b : Binds K fd ps []
/-- an own exception class without own __init__ -/
structure Cl (K : PySem.W.Frag) (mg : Str → Option Value) (x : Str) (C : Addr) : Prop where
  g : mg x = some (.ref C)
  x : PySem.W.excIn K C [.type "ValueError", .type "Exception", .type "BaseException", .type "object"] "ValueError.__new__" = true
  k : PySem.W.keepIn K (.ref C) = true
  b : PySem.W.subIn K (.ref C) (.type "BaseException") = some true
  t : PySem.W.typeIn K (.ref C) = some (.type "type")
/-- the numbers that stand at the top -/
structure Nums (mg : Str → Option Value) : Prop where
  least : ∃ t, mg "LEAST" = some (.int 2 t)
  most : ∃ t, mg "MOST" = some (.int 12 t)
  numbers : ∃ t, mg "MOST_NUMBERS" = some (.int 100 t)
/-- where nothing is let out -/
theorem passN {X : Cx} : Passes (L2N.CX X.prog X.w) X E0 := fun _ _ _ _ _ _ _ h => by
  obtain ⟨_, _, _, _, _, _, _, _, _, _, _, _, z⟩ := h
  exact z.elim
theorem takesN {X : Cx} : L2N.Takes X (fun _ _ _ _ => False) := fun _ _ x => by
  obtain ⟨_, _, _, _, _, _, _, _, _, _, _, _, _, _, _, _, z⟩ := x
  exact z.elim
/-- a def that may raise, its errors' contexts told -/
theorem Fun.okN {P : Program} {w : World} {K : PySem.W.Frag} {mg : Str → Option Value} {base : Heap} {x qual : Str} {st : Stmt} {f : Addr} {fd : FuncData} {N ps : List Str} {k : Nat} {sp : Sp} (F : Fun K x qual st f fd) (S : FnScope N ps (defScope st)) (len : ∀ vs H Q E, sp vs H Q E → vs.length = ps.length)
    (hbody : ∀ (cdv : Value) (A : Around) (outer : List Env) (s : Shared) (H : Hp) (vs : List V) (Q : VK) (E : XK), Room k (A.deeper (envOfC qual (defScope st) s.heap.objs.size f cdv)) → sp vs H Q E →
      ∃ t, PSs (cxOf (L2N.CX P w) P w K mg base N qual (defScope st) f cdv A outer s H E) (defBody st) t ∧ t { nx := fun _ H' => Q .non H', rt := Q } (L2.start N vs) H) : FnOk P w K mg base (L2N.CX P w) (k + 1) f fd ps sp := by
  obtain ⟨oc, od, kV, doc, pm, an, cdv, ct, osl, rfl, lk, hcd⟩ := F.ex
  exact fn_of lk hcd S len fun A outer s H vs Q E hr hsp => hbody cdv A outer s H vs Q E hr hsp
abbrev I (r : List Int) : List V := r.map V.int
abbrev N (l : List Nat) : List V := l.map fun (k : Nat) => V.int (k : Int)

theorem _root_.L2.Same.tup {K : PySem.W.Frag} {H H' : Hp} {a : Addr} {xs : List V} (e : Same H H') (h : SqT K H a xs) : SqT K H' a xs := by
  rcases h with (h | ⟨o, h⟩) | h
  · exact .inl (.inl (e _ _ h))
  · exact .inl (.inr ⟨o, e _ _ h⟩)
  · exact .inr h
theorem same_upd {H : Hp} {p : Addr} {o : HO} (h : H p = none) : Same H (upd H p o) := fun b x e => by
  rw [upd_ne (ne_of_none e h)]
  exact e
theorem tupOf {K : PySem.W.Frag} {H : Hp} {a : Addr} {xs : List V} (h : H a = some (.tup xs)) : SqT K H a xs := .inl (.inl h)
theorem lstOf {K : PySem.W.Frag} {H : Hp} {a : Addr} {xs : List V} (h : H a = some (.lst xs)) : SqL K H a xs := .inl (.inl h)
theorem big {n : Nat} (h : n ≤ 1000) : n ≤ sizeLine := Nat.le_of_lt (small1000 h)

section
variable {X : Cx}
/-- t + u, whatever object comes of it -/
def rCatS (K : PySem.W.Frag) : R2 := fun x y H Q => ∃ a b xs ys, x = .ref a ∧ y = .ref b ∧ SqT K H a xs ∧ SqT K H b ys ∧ xs.length + ys.length ≤ sizeLine ∧
  ∀ p H', Same H H' → SqT K H' p (xs ++ ys) → Q (.ref p) H'
theorem op_catS : OpR X (binaryOp .Add) (rCatS X.K) := by
  intro pins s σ H x y v u Q I rx ry h
  obtain ⟨a, b, xs, ys, ex, ey, ha, hb, hz, q⟩ := h
  refine op_catA pins s σ H x y v u Q I rx ry ⟨a, b, xs, ys, ex, ey, ha, hb, hz, fun e => ?_, fun _ e => ?_, fun _ _ p hp => ?_⟩
  · subst e
    exact q b H (Same.refl H) hb
  · subst e
    refine q a H (Same.refl H) ?_
    rw [List.append_nil]
    exact ha
  · exact q p _ (same_upd hp) (tupOf upd_same)
/-- t[lo:hi], whatever object comes of it -/
def rSlS (K : PySem.W.Frag) : V → Option Int → Option Int → Hp → VK → Prop := fun x lo hi H Q => ∃ a xs, x = .ref a ∧ SqT K H a xs ∧
  ∀ p H', Same H H' → SqT K H' p (cutV xs lo hi) → Q (.ref p) H'
theorem sl_tupS : SlR X (rSlS X.K) := by
  intro pins s σ H x v vl vu lo hi sl Q I rx hs pl pu h
  obtain ⟨a, xs, ex, ha, q⟩ := h
  refine sl_tupA pins s σ H x v vl vu lo hi sl Q I rx hs pl pu ⟨a, xs, ex, ha, fun e => ?_, fun _ p hp => ?_⟩
  · refine q a H (Same.refl H) ?_
    unfold cutV
    rw [e.1, e.2, List.drop_zero, Nat.sub_zero, List.take_length]
    exact ha
  · exact q p _ (same_upd hp) (tupOf upd_same)
end
/-- the items of a list of ints by place -/
theorem atI_I {r : List Int} {z : Int} {k : Nat} (e : z = (k : Int)) (h : k < r.length) : atI (I r) z = some (.int (at0 r k)) := by
  refine at_of e ?_
  rw [List.getElem?_map, List.getElem?_eq_getElem h]
  unfold at0
  rw [List.getD_eq_getElem?_getD, List.getElem?_eq_getElem h]
  rfl
theorem atI_neg {α : Type} {xs : List α} {v : α} (h : xs[xs.length - 1]? = some v) : atI xs (-1) = some v := by
  have hl : xs.length - 1 < xs.length := (List.getElem?_eq_some_iff.mp h).1
  have e : ixN xs.length (-1) = some (xs.length - 1) := by
    unfold ixN
    rw [if_neg (by decide), if_pos (by omega)]
    congr 1
    omega
  unfold atI
  rw [e]
  exact h
theorem atI_I1 {r : List Int} (h : 0 < r.length) : atI (I r) (-1) = some (.int (at0 r (r.length - 1))) := by
  refine atI_neg ?_
  rw [List.length_map, List.getElem?_map, List.getElem?_eq_getElem (by omega)]
  unfold at0
  rw [List.getD_eq_getElem?_getD, List.getElem?_eq_getElem (by omega)]
  rfl
theorem len_I (r : List Int) : (I r).length = r.length := List.length_map _
theorem len_N (r : List Nat) : (N r).length = r.length := List.length_map _
theorem atI_N {r : List Nat} {z : Int} {k : Nat} (e : z = (k : Int)) (h : k < r.length) : atI (N r) z = some (.int ((r.getD k 0 : Nat) : Int)) := by
  refine at_of e ?_
  rw [List.getElem?_map, List.getElem?_eq_getElem h, List.getD_eq_getElem?_getD, List.getElem?_eq_getElem h]
  rfl
theorem dec_int (i j : Int) : decide (V.int i = V.int j) = decide (i = j) := by
  by_cases h : i = j
  · subst h; simp
  · rw [decide_eq_false h, decide_eq_false fun e => h (V.int.inj e)]
/-- for over range(n) -/
theorem for_r0 {n : Nat} {g : TG} {tb : TS} {D : Ends} {σ : L2.St} {H : Hp} (Pv : Nat → L2.St → Hp → Prop) (h0 : Pv 0 σ H)
    (hs : ∀ i σ H, i < n → Pv i σ H → g (.int (i : Int)) σ H fun σ2 H2 => tb { D with nx := Pv (i + 1), ct := Pv (i + 1), bk := D.nx } σ2 H2) (hd : ∀ σ H, Pv n σ H → D.nx σ H) :
    ∃ W : Nat → Nat → L2.St → Hp → Prop, (∃ m, W 0 m σ H) ∧ ∀ i m σ H, W i m σ H →
      ((Itr 0 n).stop i H ∧ D.nx σ H) ∨ ((Itr 0 n).go i H ∧ ∃ N : L2.St → Hp → Prop, (∀ σ' H', N σ' H' → ∃ m', m' < m ∧ W (i + 1) m' σ' H') ∧ ∀ x H', (Itr 0 n).yld i H x H' → g x σ H' fun σ2 H2 => tb { D with nx := N, ct := N, bk := D.nx } σ2 H2) :=
  for_range (lo := 0) Pv h0 (fun i σ H hi p => by rw [Int.zero_add]; exact hs i σ H hi p) hd
/-- what a comprehension makes of its first i places -/
def kept (f : Nat → Bool) (v : Nat → V) (i : Nat) : List V := ((List.range i).filter f).map v
theorem kept_yes {f : Nat → Bool} {v : Nat → V} {i : Nat} (h : f i = true) : kept f v (i + 1) = kept f v i ++ [v i] := by
  unfold kept
  rw [List.range_succ, List.filter_append, List.map_append]
  simp [h]
theorem kept_no {f : Nat → Bool} {v : Nat → V} {i : Nat} (h : f i = false) : kept f v (i + 1) = kept f v i := by
  unfold kept
  rw [List.range_succ, List.filter_append, List.map_append]
  simp [h]
theorem kept_len (f : Nat → Bool) (v : Nat → V) (i : Nat) : (kept f v i).length ≤ i := by
  unfold kept
  rw [List.length_map]
  exact Nat.le_trans (List.length_filter_le _ _) (by rw [List.length_range]; exact Nat.le_refl _)
/-- [v(i) for i in range(n) if f(i)]: a turn leaves all that was tracked -/
theorem lc_r0 {n : Nat} {g : TG} {tt : TT} {te : TE} {vs : List Nat} {σ : L2.St} {H1 : Hp} {D : Addr} {Qd : Hp → Prop} (f : Nat → Bool) (v : Nat → V) (hD : H1 D = none) (hn : n ≤ 1000)
    (hs : ∀ i H, i < n → Same H1 H → ∀ (Z : V → Hp → Prop) (M : Hp → Prop), (f i = true → ∀ H', Same H H' → Z (v i) H') → (f i = false → ∀ H', Same H H' → M H') →
      g (.int (i : Int)) (wipe σ vs) H fun σ2 H2 => wipe σ2 vs = wipe σ vs ∧ tt σ2 H2 fun b H3 => if b = true then te σ2 H3 Z else M H3)
    (hd : ∀ H, Same H1 H → H D = some (.lst (kept f v n)) → Qd H) :
    ∃ W : Nat → Nat → Hp → Prop, (∃ m, W 0 m (upd H1 D (.lst []))) ∧ ∀ i m H, W i m H →
      ((Itr 0 n).stop i H ∧ Qd H) ∨ ((Itr 0 n).go i H ∧ ∃ Nx : Hp → Prop, (∀ H', Nx H' → ∃ m', m' < m ∧ W (i + 1) m' H') ∧ ∀ x H', (Itr 0 n).yld i H x H' → g x (wipe σ vs) H' fun σ2 H2 => wipe σ2 vs = wipe σ vs ∧ tt σ2 H2 fun b H3 =>
        if b = true then te σ2 H3 fun y H4 => ∃ acc, H4 D = some (.lst acc) ∧ acc.length < sizeLine ∧ Nx (upd H4 D (.lst (acc ++ [y]))) else Nx H3) := by
  refine lc_range (lo := 0) (fun i H => Same H1 H ∧ H D = some (.lst (kept f v i))) ⟨same_upd hD, upd_same⟩ (fun i H hi ⟨sm, hd⟩ => ?_) fun H ⟨sm, e⟩ => hd H sm e
  rw [Int.zero_add]
  refine hs i H hi sm _ _ (fun hf H' s' => ?_) fun hf H' s' => ?_
  · refine ⟨_, s' _ _ hd, small1000 (Nat.le_trans (kept_len f v i) (by omega)), fun b o e => ?_, ?_⟩
    · rw [upd_ne (ne_of_none e hD)]
      exact s' _ _ (sm _ _ e)
    · rw [upd_same, kept_yes hf]
  · refine ⟨sm.trans s', ?_⟩
    rw [kept_no hf]
    exact s' _ _ hd
/-- [v(i) for i in range(n)] -/
theorem lc_m0 {n : Nat} {g : TG} {te : TE} {vs : List Nat} {σ : L2.St} {H1 : Hp} {D : Addr} {Qd : Hp → Prop} (v : Nat → V) (hD : H1 D = none) (hn : n ≤ 1000)
    (hs : ∀ i H, i < n → Same H1 H → ∀ (Z : V → Hp → Prop), (∀ H', Same H H' → Z (v i) H') → g (.int (i : Int)) (wipe σ vs) H fun σ2 H2 => wipe σ2 vs = wipe σ vs ∧ te σ2 H2 Z)
    (hd : ∀ H, Same H1 H → H D = some (.lst ((List.range n).map v)) → Qd H) :
    ∃ W : Nat → Nat → Hp → Prop, (∃ m, W 0 m (upd H1 D (.lst []))) ∧ ∀ i m H, W i m H →
      ((Itr 0 n).stop i H ∧ Qd H) ∨ ((Itr 0 n).go i H ∧ ∃ Nx : Hp → Prop, (∀ H', Nx H' → ∃ m', m' < m ∧ W (i + 1) m' H') ∧ ∀ x H', (Itr 0 n).yld i H x H' → g x (wipe σ vs) H' fun σ2 H2 => wipe σ2 vs = wipe σ vs ∧ tYes σ2 H2 fun b H3 =>
        if b = true then te σ2 H3 fun y H4 => ∃ acc, H4 D = some (.lst acc) ∧ acc.length < sizeLine ∧ Nx (upd H4 D (.lst (acc ++ [y]))) else Nx H3) :=
  lc_r0 (tt := tYes) (fun _ => true) v hD hn (fun i H hi sm Z M hz _ => hs i H hi sm Z (hz rfl)) fun H sm e => hd H sm (by
    rw [e]
    unfold kept
    rw [List.filter_eq_self.mpr (fun _ _ => rfl)])
end HW
namespace HW
open PySem PySem.Spec PyProof.Rows L2 HR
/-! ### what each def of the program promises -/
def Good (r : List Int) (m : Int) : Prop := 2 ≤ r.length ∧ r.length ≤ 12 ∧ ∀ x ∈ r, 0 ≤ x ∧ x < m
instance (r : List Int) (m : Int) : Decidable (Good r m) := by unfold Good; infer_instance
theorem Good.ring {r : List Int} {m : Int} (g : Good r m) (h : 2 ≤ m) : Ring r.length m r := by
  obtain ⟨h1, h2, h3⟩ := g
  refine ⟨rfl, h1, h, fun k hk => ?_, fun k hk => ?_⟩
  all_goals
    have e : at0 r k = r[k] := by
      unfold at0
      rw [List.getD_eq_getElem?_getD, List.getElem?_eq_getElem hk]
      rfl
    rw [e]
    have := h3 _ (List.getElem_mem hk)
    omega
theorem good_of {n : Nat} {r : List Int} {m : Int} (R : Ring n m r) (h : n ≤ 12) : Good r m := by
  refine ⟨by rw [R.len]; exact R.n2, by rw [R.len]; exact h, fun x hx => ?_⟩
  obtain ⟨k, hk, rfl⟩ := List.getElem_of_mem hx
  have e : at0 r k = r[k] := by
    unfold at0
    rw [List.getD_eq_getElem?_getD, List.getElem?_eq_getElem hk]
    rfl
  rw [← e]
  rw [R.len] at hk
  exact ⟨R.lo k hk, R.hi k hk⟩
def sp_need_numbers (cN : Addr) : Sp := fun vs H Q E => ∃ m : Int, vs = [.int m] ∧ (m < 2 ∨ 100 < m → E (.ref cN) none H) ∧ (2 ≤ m → m ≤ 100 → Q .non H)
def sp_need_machines (cR : Addr) : Sp := fun vs H Q E => ∃ m : Int, vs = [.int m] ∧ (m < 2 ∨ 12 < m → E (.ref cR) none H) ∧ (2 ≤ m → m ≤ 12 → Q .non H)
/-- what a ring and many that are handed in are worth: Z where both are right -/
def Held (cN cR : Addr) (r : List Int) (m : Int) (H : Hp) (E : XK) (Z : Prop) : Prop :=
  (m < 2 ∨ 100 < m → E (.ref cN) none H) ∧ (2 ≤ m → m ≤ 100 → ¬ Good r m → E (.ref cR) none H) ∧ (2 ≤ m → m ≤ 100 → Good r m → Z)
theorem Held.of {cN cR : Addr} {r : List Int} {m : Int} {H : Hp} {E : XK} {Z : Prop} {n : Nat} (R : Ring n m r) (hn : n ≤ 12) (hm : m ≤ 100) (z : Z) : Held cN cR r m H E Z := by
  have := R.m2
  exact ⟨fun h => by omega, fun _ _ h => absurd (good_of R hn) h, fun _ _ _ => z⟩
theorem Held.imp {cN cR : Addr} {r : List Int} {m : Int} {H : Hp} {E : XK} {Z Z' : Prop} (h : Held cN cR r m H E Z) (k : 2 ≤ m → m ≤ 100 → Good r m → Z → Z') : Held cN cR r m H E Z' :=
  ⟨h.1, h.2.1, fun a b c => k a b c (h.2.2 a b c)⟩
def sp_need_ring (K : PySem.W.Frag) (cN cR : Addr) : Sp := fun vs H Q E => ∃ (a : Addr) (r : List Int) (m : Int), vs = [.ref a, .int m] ∧ SqT K H a (I r) ∧ Held cN cR r m H E (Q .non H)
def sp_may (K : PySem.W.Frag) : Sp := fun vs H Q _ => ∃ (a : Addr) (r : List Int) (k : Nat), vs = [.ref a, .int (k : Int)] ∧ SqT K H a (I r) ∧ k < r.length ∧ Q (.bl (may r k)) H
def sp_able_of (K : PySem.W.Frag) : Sp := fun vs H Q _ => ∃ (a : Addr) (r : List Int), vs = [.ref a] ∧ SqT K H a (I r) ∧ r.length ≤ 1000 ∧
  ∀ H' p, Same H H' → H p = none → H' p = some (.lst (N (able r))) → Q (.ref p) H'
def sp_able (K : PySem.W.Frag) (cN cR : Addr) : Sp := fun vs H Q E => ∃ (a : Addr) (r : List Int) (m : Int), vs = [.ref a, .int m] ∧ SqT K H a (I r) ∧
  Held cN cR r m H E (∀ H' p, Same H H' → H p = none → H' p = some (.lst (N (able r))) → Q (.ref p) H')
def sp_moved (K : PySem.W.Frag) : Sp := fun vs H Q _ => ∃ (a : Addr) (r : List Int) (m : Int) (k : Nat), vs = [.ref a, .int m, .int (k : Int)] ∧ SqT K H a (I r) ∧ k < r.length ∧ r.length ≤ 1000 ∧ 0 < m ∧
  ∀ H' p, Same H H' → SqT K H' p (I (moved m r k)) → Q (.ref p) H'
/-- the machine that numbers draw as the t-th one -/
def nextOf (r ns : List Int) (t : Nat) : Nat := (able r).getD (if ns = [] then 0 else (at0 ns (t % ns.length) % ((able r).length : Int)).toNat) 0
def sp_next_of (K : PySem.W.Frag) : Sp := fun vs H Q _ => ∃ (a b : Addr) (r ns : List Int) (t : Nat), vs = [.ref a, .ref b, .int (t : Int)] ∧ SqT K H a (I r) ∧ SqL K H b (I ns) ∧ 0 < r.length ∧ r.length ≤ 1000 ∧
  ∀ H', Same H H' → Q (.int ((nextOf r ns t : Nat) : Int)) H'
/-- t steps that numbers draw: the order, the ring behind it -/
def draws (m : Int) (ns r : List Int) : Nat → List Nat × List Int
  | 0 => ([], r)
  | t + 1 => ((draws m ns r t).1 ++ [nextOf (draws m ns r t).2 ns t], HR.moved m (draws m ns r t).2 (nextOf (draws m ns r t).2 ns t))
theorem nextOf_mem {r ns : List Int} (t : Nat) (h : 0 < r.length) : nextOf r ns t ∈ able r := by
  have p := able_pos h
  unfold nextOf
  have key : ∀ i, i < (able r).length → (able r).getD i 0 ∈ able r := fun i hi => by
    rw [List.getD_eq_getElem?_getD, List.getElem?_eq_getElem hi]
    exact List.getElem_mem hi
  split
  · exact key 0 p
  · refine key _ ?_
    have a := Int.emod_nonneg (at0 ns (t % ns.length)) (show ((able r).length : Int) ≠ 0 by omega)
    have b := Int.emod_lt_of_pos (at0 ns (t % ns.length)) (show 0 < ((able r).length : Int) by omega)
    omega
theorem nextOf_lt {r ns : List Int} (t : Nat) (h : 0 < r.length) : nextOf r ns t < r.length := (mem_able.mp (nextOf_mem t h)).1
theorem draws_len (m : Int) (ns r : List Int) : ∀ t, (draws m ns r t).1.length = t
  | 0 => rfl
  | t + 1 => by
    show ((draws m ns r t).1 ++ [_]).length = t + 1
    rw [List.length_append, draws_len m ns r t]
    rfl
theorem draws_rlen (m : Int) (ns r : List Int) : ∀ t, (draws m ns r t).2.length = r.length
  | 0 => rfl
  | t + 1 => by
    show (HR.moved m (draws m ns r t).2 _).length = r.length
    rw [moved_len, draws_rlen m ns r t]
theorem draws_ex {n : Nat} {m : Int} {ns r : List Int} (R : Ring n m r) : ∀ t, Ex n m r (draws m ns r t).1 (draws m ns r t).2
  | 0 => .nil
  | t + 1 => by
    have ih := draws_ex (ns := ns) R t
    have R' := ih.ring R
    have q := mem_able.mp (nextOf_mem (ns := ns) t (r := (draws m ns r t).2) (by rw [R'.len]; have := R.n2; omega))
    exact ih.snoc (by rw [← R'.len]; exact q.1) q.2
def sp_drawn (K : PySem.W.Frag) (cN cR : Addr) : Sp := fun vs H Q E => ∃ (a b : Addr) (r ns : List Int) (m : Int) (t : Nat), vs = [.ref a, .int m, .ref b, .int (t : Int)] ∧ SqT K H a (I r) ∧ SqL K H b (I ns) ∧ t ≤ 1000 ∧
  Held cN cR r m H E (∀ H' p, Same H H' → H p = none → H' p = some (.lst (N (draws m ns r t).1)) → Q (.ref p) H')
end HW
namespace HW
open PySem PySem.Spec PyProof.Rows L2 HR
/-- one step that is asked of any machine: true: there is none such; false: it may not step -/
def stepR (m : Int) (r : List Int) (z : Int) : Except Bool (List Int) :=
  if z < 0 ∨ (r.length : Int) ≤ z then .error true else if may r z.toNat = true then .ok (HR.moved m r z.toNat) else .error false
theorem stepR_len {m : Int} {r r' : List Int} {z : Int} (h : stepR m r z = .ok r') : r'.length = r.length := by
  unfold stepR at h
  split at h
  · cases h
  · split at h
    · cases h
      exact moved_len _ _ _
    · cases h
def bad (cM cW : Addr) (b : Bool) : Value := .ref (if b = true then cM else cW)
/-- what a step is worth to who asks it -/
def Stp (K : PySem.W.Frag) (cM cW : Addr) (m : Int) (r : List Int) (z : Int) (H : Hp) (Q : VK) (E : XK) : Prop :=
  (∀ b, stepR m r z = .error b → E (bad cM cW b) none H) ∧ ∀ r', stepR m r z = .ok r' → ∀ H' p, Same H H' → SqT K H' p (I r') → Q (.ref p) H'
def sp_step_of (K : PySem.W.Frag) (cM cW : Addr) : Sp := fun vs H Q E => ∃ (a : Addr) (r : List Int) (m z : Int), vs = [.ref a, .int m, .int z] ∧ SqT K H a (I r) ∧ r.length ≤ 1000 ∧ 0 < m ∧ Stp K cM cW m r z H Q E
def sp_stepped (K : PySem.W.Frag) (cN cR cM cW : Addr) : Sp := fun vs H Q E => ∃ (a : Addr) (r : List Int) (m z : Int), vs = [.ref a, .int m, .int z] ∧ SqT K H a (I r) ∧ Held cN cR r m H E (Stp K cM cW m r z H Q E)
/-- a list of rings -/
def Tups (K : PySem.W.Frag) (H : Hp) (xs : List V) (rs : List (List Int)) : Prop := Paired (fun (v : V) (r : List Int) => ∃ a, v = .ref a ∧ SqT K H a (I r)) xs rs
theorem Tups.same {K : PySem.W.Frag} {H H' : Hp} (s : ∀ b o xs, H b = some o → (o = .tup xs ∨ ∃ ob, o = .frz ob (.tup xs)) → H' b = some o) : ∀ {xs : List V} {rs : List (List Int)}, Tups K H xs rs → Tups K H' xs rs
  | _, _, .nil => .nil
  | _, _, .cons ⟨a, e, h⟩ t => by
    refine .cons ⟨a, e, ?_⟩ (Tups.same s t)
    rcases h with (h | ⟨o, h⟩) | h
    · exact .inl (.inl (s _ _ _ h (.inl rfl)))
    · exact .inl (.inr ⟨o, s _ _ _ h (.inr ⟨o, rfl⟩)⟩)
    · exact .inr h
theorem Tups.of {K : PySem.W.Frag} {H H' : Hp} (s : Same H H') {xs : List V} {rs : List (List Int)} (h : Tups K H xs rs) : Tups K H' xs rs := h.same fun b o _ e _ => s b o e
/-- behind a store to a list -/
theorem Tups.upd {K : PySem.W.Frag} {H : Hp} {p : Addr} {ys : List V} {o : HO} (hp : H p = some (.lst ys)) {xs : List V} {rs : List (List Int)} (h : Tups K H xs rs) : Tups K (upd H p o) xs rs := h.same fun b u zs e k => by
  rw [upd_ne]
  · exact e
  · intro q
    rw [q, hp] at e
    cases e
    rcases k with k | ⟨_, k⟩ <;> cases k
theorem Tups.get {K : PySem.W.Frag} {H : Hp} : ∀ {xs : List V} {rs : List (List Int)} {i : Nat} {r : List Int}, Tups K H xs rs → rs[i]? = some r → ∃ a, xs[i]? = some (.ref a) ∧ SqT K H a (I r)
  | _, _, _, _, .nil, e => by simp at e
  | _, _, 0, _, .cons ⟨a, e, h⟩ _, q => by
    cases q
    exact ⟨a, by rw [e]; rfl, h⟩
  | _, _, i + 1, r, .cons _ t, q => Tups.get (i := i) (r := r) t (by simpa using q)
/-- the rings that are gone through, behind those of rs; the last one is r -/
def goneA (m : Int) (rs : List (List Int)) (r : List Int) : List Int → Except Bool (List (List Int))
  | [] => .ok rs
  | z :: zs => match stepR m r z with
    | .error b => .error b
    | .ok r' => goneA m (rs ++ [r']) r' zs
def Lists (K : PySem.W.Frag) (H : Hp) (p : Addr) (rs : List (List Int)) : Prop := ∃ xs, H p = some (.lst xs) ∧ Tups K H xs rs
def sp_gone (K : PySem.W.Frag) (cN cR cM cW : Addr) : Sp := fun vs H Q E => ∃ (a b : Addr) (r zs : List Int) (m : Int), vs = [.ref a, .int m, .ref b] ∧ SqT K H a (I r) ∧ SqL K H b (I zs) ∧ zs.length ≤ 1000 ∧ Held cN cR r m H E (
  (∀ c H', goneA m [r] r zs = .error c → Same H H' → E (bad cM cW c) none H') ∧ ∀ rs H' p, goneA m [r] r zs = .ok rs → Same H H' → H p = none → Lists K H' p rs → Q (.ref p) H')
/-- marks carried on -/
def tracedA (m : Int) (fs : List Int) (fr : Int) (r : List Int) : List Int → Except Bool (List Int)
  | [] => .ok fs
  | z :: zs => match stepR m r z with
    | .error b => .error b
    | .ok r' => if z = 0 then tracedA m (fs.set 0 fr) (fr + 1) r' zs else tracedA m (fs.set z.toNat (at0 fs (z.toNat - 1))) fr r' zs
def marks (n : Nat) : List Int := (List.range n).map fun (k : Nat) => (k : Int)
def sp_traced (K : PySem.W.Frag) (cN cR cM cW : Addr) : Sp := fun vs H Q E => ∃ (a b : Addr) (r zs : List Int) (m : Int), vs = [.ref a, .int m, .ref b] ∧ SqT K H a (I r) ∧ SqL K H b (I zs) ∧ zs.length ≤ 1000 ∧ Held cN cR r m H E (
  (∀ c H', tracedA m (marks r.length) r.length r zs = .error c → Same H H' → E (bad cM cW c) none H') ∧ ∀ fs H' p, tracedA m (marks r.length) r.length r zs = .ok fs → Same H H' → H p = none → H' p = some (.lst (I fs)) → Q (.ref p) H')
def counts (zs : List Int) (n : Nat) : List Int := (List.range n).map fun (k : Nat) => ((zs.count (k : Int) : Nat) : Int)
def sp_counted (K : PySem.W.Frag) (cR cM : Addr) : Sp := fun vs H Q E => ∃ (b : Addr) (zs : List Int) (m : Int), vs = [.ref b, .int m] ∧ SqL K H b (I zs) ∧ zs.length ≤ 1000 ∧ (m < 2 ∨ 12 < m → E (.ref cR) none H) ∧
  (2 ≤ m → m ≤ 12 → (∃ z ∈ zs, z < 0 ∨ m ≤ z) → ∀ H', Same H H' → E (.ref cM) none H') ∧
  (2 ≤ m → m ≤ 12 → (∀ z ∈ zs, 0 ≤ z ∧ z < m) → ∀ H' p, Same H H' → H p = none → H' p = some (.lst (I (counts zs m.toNat))) → Q (.ref p) H')
def sp_most (cR : Addr) : Sp := fun vs H Q E => ∃ m : Int, vs = [.int m] ∧ (m < 2 ∨ 12 < m → E (.ref cR) none H) ∧ (2 ≤ m → m ≤ 12 → Q (.int ((most m.toNat : Nat) : Int)) H)
def sp_healed (K : PySem.W.Frag) (cN cR : Addr) : Sp := fun vs H Q E => ∃ (a : Addr) (r : List Int) (m : Int), vs = [.ref a, .int m] ∧ SqT K H a (I r) ∧ Held cN cR r m H E (∀ H', Same H H' → Q (.bl (decide ((able r).length = 1))) H')
/-- up to the first healed ring, at most u steps, the next one the t-th -/
def healA (m : Int) (ns : List Int) (o : List Nat) (r : List Int) (t : Nat) : Nat → List Nat
  | 0 => o
  | u + 1 => if (able r).length = 1 then o else healA m ns (o ++ [nextOf r ns t]) (HR.moved m r (nextOf r ns t)) (t + 1) u
def sp_healing (K : PySem.W.Frag) (cN cR : Addr) : Sp := fun vs H Q E => ∃ (a b : Addr) (r ns : List Int) (m : Int), vs = [.ref a, .int m, .ref b] ∧ SqT K H a (I r) ∧ SqL K H b (I ns) ∧ Held cN cR r m H E (
  (m < r.length → E (.ref cN) none H) ∧ ((r.length : Int) ≤ m → ∀ H' p, Same H H' → H p = none → H' p = some (.lst (N (healA m ns [] r 0 (most r.length)))) → Q (.ref p) H'))
/-- the machines from k on, once round -/
def roundOf (n k : Nat) : List Nat := List.range' k (n - k) ++ List.range k
def sp_turns (K : PySem.W.Frag) (cN cR cH : Addr) : Sp := fun vs H Q E => ∃ (a : Addr) (r : List Int) (m : Int), vs = [.ref a, .int m] ∧ SqT K H a (I r) ∧ Held cN cR r m H E (
  ((able r).length ≠ 1 → ∀ H', Same H H' → E (.ref cH) none H') ∧ ∀ k, able r = [k] → ∀ H' p, Same H H' → H p = none → H' p = some (.lst (N (roundOf r.length k))) → Q (.ref p) H')
theorem tupUpd {K : PySem.W.Frag} {H : Hp} {p c : Addr} {ys xs : List V} {o : HO} (hp : H p = some (.lst ys)) (h2 : SqT K H c xs) : SqT K (L2.upd H p o) c xs := by
  rcases h2 with (h2 | ⟨o, h2⟩) | h2
  · refine .inl (.inl ?_)
    rw [upd_ne (ne_of h2 hp (by intro q; cases q))]
    exact h2
  · refine .inl (.inr ⟨o, ?_⟩)
    rw [upd_ne (ne_of h2 hp (by intro q; cases q))]
    exact h2
  · exact .inr h2
theorem flat_one {n : Nat} : (List.replicate n [V.int 0]).flatten = List.replicate n (V.int 0) := by
  induction n with
  | zero => rfl
  | succ n ih =>
    rw [List.replicate_succ, List.flatten_cons, ih, List.replicate_succ]
    rfl
theorem counts_snoc {zs : List Int} {k n : Nat} (h : k < n) : counts (zs ++ [(k : Int)]) n = (counts zs n).set k (at0 (counts zs n) k + 1) := by
  have lc : ∀ l : List Int, (counts l n).length = n := fun l => by unfold counts; rw [List.length_map, List.length_range]
  have gt : ∀ (l : List Int) (i : Nat), i < n → (counts l n)[i]? = some ((l.count (i : Int) : Nat) : Int) := fun l i hi => by
    unfold counts
    rw [List.getElem?_map, List.getElem?_range hi]
    rfl
  refine List.ext_getElem? fun i => ?_
  by_cases hi : i < n
  · rw [gt _ i hi, List.getElem?_set, lc]
    by_cases e : k = i
    · subst e
      rw [if_pos rfl, if_pos hi]
      unfold at0
      rw [List.getD_eq_getElem?_getD, gt _ k hi, List.count_append]
      simp
    · rw [if_neg e, gt _ i hi, List.count_append, List.count_singleton]
      have : ¬ ((k : Int) == (i : Int)) = true := by simp; omega
      simp [this]
  · rw [List.getElem?_eq_none (by rw [lc]; omega), List.getElem?_eq_none (by rw [List.length_set, lc]; omega)]
theorem most_le {n : Nat} (h : n ≤ 12) : most n ≤ 198 := by
  have key : ∀ n : Fin 13, most n.1 ≤ 198 := by decide
  exact key ⟨n, by omega⟩
theorem rg_round {n k : Nat} (h : k ≤ n) : rgV (k : Int) (n : Int) ++ rgV 0 (k : Int) = N (roundOf n k) := by
  unfold rgV roundOf N
  rw [List.map_append, Int.sub_zero, Int.toNat_natCast, show ((n : Int) - (k : Int)).toNat = n - k by omega]
  congr 1
  · rw [List.range'_eq_map_range, List.map_map]
    refine List.map_congr_left fun i _ => ?_
    show V.int ((k : Int) + (i : Int)) = V.int (((k + i : Nat)) : Int)
    rw [Int.natCast_add]
  · refine List.map_congr_left fun i _ => ?_
    rw [Int.zero_add]
theorem healA_zero (m : Int) (ns : List Int) (o : List Nat) (r : List Int) (t : Nat) : healA m ns o r t 0 = o := rfl
theorem healA_succ (m : Int) (ns : List Int) (o : List Nat) (r : List Int) (t u : Nat) : healA m ns o r t (u + 1) = if (able r).length = 1 then o else healA m ns (o ++ [nextOf r ns t]) (HR.moved m r (nextOf r ns t)) (t + 1) u := rfl
theorem SqL.same {K : PySem.W.Frag} {H H' : Hp} {a : Addr} {xs : List V} (s : Same H H') (h : SqL K H a xs) : SqL K H' a xs := s.seq h
end HW
namespace HW
open PySem PySem.Spec PyProof.Rows L2 HR
theorem mul_once (l : Addr) (items : Array Value) (n : Nat) (dd : Option Addr) (sl : Array (Option Value)) (u : Tok) :
    Meets (Builtin.«tuple.__mul__» ⟨[.ref l, .int 1 u], []⟩) (fun _ R s => s.heap.get? l = some { cls := .type "tuple", dict := dd, data := .seq items n, slots := sl } ∧ R (.ok (.ret (Value.ref l))) s) :=
  .of_wp fun prog w A R s h => by
    obtain ⟨hp, g, d, tk, os⟩ := s
    obtain ⟨hl, h⟩ := h
    have f1 := AutoSeq1.idx_int
    have c1 : (items.isEmpty || (1 : Int) == 1) = true := by simp
    wp_walk using wpAny_loadPart' hl
    repeat (first
      | (refine wpAny_ite_false (by decide) ?_; wp_walk using wpAny_loadPart' hl)
      | (refine wpAny_ite_true c1 ?_; wp_walk using wpAny_loadPart' hl)
      | (refine wpAny_ite_true (decide_eq_true c1) ?_; wp_walk using wpAny_loadPart' hl))
    exact ⟨_, rfl, h⟩
theorem mul_none (l : Addr) (items : Array Value) (n : Nat) (dd : Option Addr) (sl : Array (Option Value)) (u : Tok) (hne : items.isEmpty = false) :
    Meets (Builtin.«tuple.__mul__» ⟨[.ref l, .int 0 u], []⟩) (fun _ R s => s.heap.get? l = some { cls := .type "tuple", dict := dd, data := .seq items n, slots := sl } ∧
      R (.ok (.ret (Value.ref s.heap.objs.size))) { s with heap := s.heap.push { cls := Value.type "tuple", data := Data.seq #[] }, toks := s.toks }) :=
  .of_wp fun prog w A R s h => by
    obtain ⟨hp, g, d, tk, os⟩ := s
    obtain ⟨hl, h⟩ := h
    have f1 := AutoSeq1.idx_int
    have c1 : (items.isEmpty || (0 : Int) == 1) = false := by simp [hne]
    have c2 : (decide ((0 : Int) ≤ 0) || items.isEmpty) = true := by simp
    wp_walk using wpAny_loadPart' hl
    repeat (first
      | (refine wpAny_ite_false (decide_eq_false (by rw [c1]; exact Bool.false_ne_true)) ?_; wp_walk using wpAny_loadPart' hl)
      | (refine wpAny_ite_true (decide_eq_true c2) ?_; wp_walk using wpAny_loadPart' hl))
    exact ⟨_, rfl, h⟩
section
variable {X : Cx}
/-- t * k, k from nought on, whatever object comes of it -/
def rRepS (K : PySem.W.Frag) : R2 := fun x y H Q => ∃ (l : Addr) (k : Nat) (xs : List V), x = .ref l ∧ y = .int (k : Int) ∧ SqT K H l xs ∧ xs ≠ [] ∧ k ≤ 1000 ∧ xs.length ≤ 1000 ∧ ∀ p H', Same H H' → SqT K H' p (List.replicate k xs).flatten → Q (.ref p) H'
theorem op_repS : OpR X (binaryOp .Mult) (rRepS X.K) := by
  intro pins s σ H x y v u Q I rx ry h
  obtain ⟨l, k, xs, rfl, rfl, hT, hne, hk, hz, q⟩ := h
  by_cases k2 : 2 ≤ k
  · refine op_repT pins s σ H _ _ v u Q I rx ry ⟨l, (k : Int), xs, rfl, rfl, hT, hne, by omega, by omega, hz, fun p hp => q p _ (same_upd hp) (tupOf ?_)⟩
    rw [upd_same, Int.toNat_natCast]
  cases rx
  obtain ⟨t, rfl⟩ := ry
  obtain ⟨its, r, ⟨⟨cls, dd, data, sl⟩, ho, hc, n, hd⟩, hs⟩ := I.tuple hT
  simp only at hc hd
  subst hc hd
  have hi : its.toArray.isEmpty = false := by
    cases its with
    | nil =>
      have := r.length
      exact absurd (List.eq_nil_of_length_eq_zero this) hne
    | cons a b => rfl
  by_cases k1 : k = 1
  · subst k1
    refine wpAny_binaryOp_repeat_ref (T := "tuple") (U := "int") (by decide) ⟨_, ho, rfl⟩ (fun s' => typeIs_int s' _ t) noFill_tuple_mul F.fills_int_mul F.slot_int_rmul repeat_tuple F.slot_int_index.lookup
      (call_meets F.slot_int_rmul (typeIs_int s _ t) F.entry_int_rmul (F.args_int_rmul_2 _ _) (int_rmul_tuple _ t l its.toArray n dd sl)
        ⟨ho, rfl, ⟨_, ho, rfl⟩, call_meets F.slot_tuple_mul ⟨_, ho, rfl⟩ F.entry_tuple_mul (F.args_tuple_mul_2 _ _) (mul_once l its.toArray n dd sl t) ⟨ho, ?_⟩⟩)
    refine ⟨.ref l, H, I, rfl, q l H (Same.refl H) ?_⟩
    have e : (List.replicate 1 xs).flatten = xs := by simp
    rw [e]
    exact hT
  · have k0 : k = 0 := by omega
    subst k0
    refine wpAny_binaryOp_repeat_ref (T := "tuple") (U := "int") (by decide) ⟨_, ho, rfl⟩ (fun s' => typeIs_int s' _ t) noFill_tuple_mul F.fills_int_mul F.slot_int_rmul repeat_tuple F.slot_int_index.lookup
      (call_meets F.slot_int_rmul (typeIs_int s _ t) F.entry_int_rmul (F.args_int_rmul_2 _ _) (int_rmul_tuple _ t l its.toArray n dd sl)
        ⟨ho, rfl, ⟨_, ho, rfl⟩, call_meets F.slot_tuple_mul ⟨_, ho, rfl⟩ F.entry_tuple_mul (F.args_tuple_mul_2 _ _) (mul_none l its.toArray n dd sl t hi) ⟨ho, ?_⟩⟩)
    have fr := I.hok.fresh (Nat.le_refl s.heap.objs.size)
    refine ⟨.ref s.heap.objs.size, _, I.laid (t' := s.toks) (o := .tup []) (fun b ob z => Heap.get?_push_of_some _ z) (Nat.le_refl _) ?_, rfl, q _ _ (same_upd fr) (tupOf upd_same)⟩
    exact ⟨Nat.zero_le _, [], .nil, IsTup.new _ _⟩
end
end HW
namespace HW
open PySem PySem.Spec PyProof.Rows L2 HR
/-! ### what each helper of the laws promises -/
def sp_law_cell_at (K : PySem.W.Frag) : Sp := fun vs H Q _ => ∃ (a : Addr) (ns : List Int) (k : Nat), vs = [.ref a, .int (k : Int)] ∧ SqL K H a (I ns) ∧ Q (.int (at0 ns k)) H
def mixed1 (c k : Int) : Int := (c % 1000003 + 1) * (k * 48271 + 11) % 1000003
def mixed (c k : Int) : Int := let y := (mixed1 c k * mixed1 c k + k * 7919 + c / 1000003) % 1000003; y * y % 1000003
theorem mixed_nonneg (c k : Int) : 0 ≤ mixed c k := Int.emod_nonneg _ (by decide)
def sp_law_mixed : Sp := fun vs H Q _ => ∃ c k : Int, vs = [.int c, .int k] ∧ Q (.int (mixed c k)) H
def sizeI (ns : List Int) : Int := 2 + at0 ns 0 % (6 + 5 * (if at0 ns 0 / 1009 % 6 = 1 then 1 else 0))
def sizeF (ns : List Int) : Nat := (sizeI ns).toNat
theorem sizeI_is (ns : List Int) : sizeI ns = ((sizeF ns : Nat) : Int) ∧ 2 ≤ sizeF ns ∧ sizeF ns ≤ 12 := by
  have h : 2 ≤ sizeI ns ∧ sizeI ns ≤ 12 := by
    unfold sizeI
    split
    · have a := Int.emod_nonneg (at0 ns 0) (show (6 + 5 * 1 : Int) ≠ 0 by decide)
      have b := Int.emod_lt_of_pos (at0 ns 0) (show (0 : Int) < 6 + 5 * 1 by decide)
      omega
    · have a := Int.emod_nonneg (at0 ns 0) (show (6 + 5 * 0 : Int) ≠ 0 by decide)
      have b := Int.emod_lt_of_pos (at0 ns 0) (show (0 : Int) < 6 + 5 * 0 by decide)
      omega
  unfold sizeF
  omega
def sp_law_size (K : PySem.W.Frag) : Sp := fun vs H Q _ => ∃ (a : Addr) (ns : List Int), vs = [.ref a] ∧ SqL K H a (I ns) ∧ Q (.int ((sizeF ns : Nat) : Int)) H
def maxI (i j : Int) : Int := if j > i then j else i
def minI (i j : Int) : Int := if j < i then j else i
def manyF (ns : List Int) (n : Int) : Int :=
  at0 [n + at0 ns 1 / 5 % 4, 2 + at0 ns 1 / 5 % 99, n, maxI 2 (n - 1), 2 + at0 ns 1 / 5 % 3] (at0 ns 1 % 5).toNat
theorem manyF_in (ns : List Int) {n : Int} (h1 : 2 ≤ n) (h2 : n ≤ 12) : 2 ≤ manyF ns n ∧ manyF ns n ≤ 100 := by
  unfold manyF maxI
  have a := Int.emod_nonneg (at0 ns 1) (show (5 : Int) ≠ 0 by decide)
  have b := Int.emod_lt_of_pos (at0 ns 1) (show (0 : Int) < 5 by decide)
  obtain ⟨i, hi⟩ : ∃ i, i = (at0 ns 1 % 5).toNat := ⟨_, rfl⟩
  rw [← hi]
  have hi5 : i < 5 := by omega
  match i, hi5 with
  | 0, _ => show 2 ≤ n + at0 ns 1 / 5 % 4 ∧ n + at0 ns 1 / 5 % 4 ≤ 100; omega
  | 1, _ => show 2 ≤ 2 + at0 ns 1 / 5 % 99 ∧ 2 + at0 ns 1 / 5 % 99 ≤ 100; omega
  | 2, _ => show 2 ≤ n ∧ n ≤ 100; omega
  | 3, _ =>
    show 2 ≤ (if n - 1 > 2 then n - 1 else 2) ∧ (if n - 1 > 2 then n - 1 else 2) ≤ 100
    split <;> omega
  | 4, _ => show 2 ≤ 2 + at0 ns 1 / 5 % 3 ∧ 2 + at0 ns 1 / 5 % 3 ≤ 100; omega
def sp_law_many (K : PySem.W.Frag) : Sp := fun vs H Q _ => ∃ (a : Addr) (ns : List Int) (n : Int), vs = [.ref a, .int n] ∧ SqL K H a (I ns) ∧ ∀ H', Same H H' → Q (.int (manyF ns n)) H'
def runs (n : Nat) (g : Nat → Int) : List Int := (List.range n).map g
theorem runs_len (n : Nat) (g : Nat → Int) : (runs n g).length = n := by unfold runs; rw [List.length_map, List.length_range]
theorem runs_at (n : Nat) (g : Nat → Int) {k : Nat} (h : k < n) : at0 (runs n g) k = g k := by
  unfold at0 runs
  rw [List.getD_eq_getElem?_getD, List.getElem?_map, List.getElem?_range h]
  rfl
def ringF (ns : List Int) (n : Nat) (m : Int) : List Int :=
  if at0 ns 2 % 5 = 0 then runs n fun k => at0 ns (4 + k) % m
  else if at0 ns 2 % 5 = 1 then runs n fun k => mixed (at0 ns 2) k % minI m (2 + at0 ns 2 / 5 % 3)
  else if at0 ns 2 % 5 = 2 then List.replicate (at0 ns 2 / 5 % ((n : Int) + 1)).toNat (at0 ns 2 / 50 % m) ++ List.replicate (n - (at0 ns 2 / 5 % ((n : Int) + 1)).toNat) (at0 ns 2 / 5000 % m)
  else if at0 ns 2 % 5 = 3 then runs n fun k => (at0 ns 2 / 5 + (k : Int) * (1 + at0 ns 2 / 500 % 3)) % m
  else runs n fun k => mixed (at0 ns 2) k % m
theorem ring_of_runs {n : Nat} {m : Int} (hn : 2 ≤ n) (hm : 2 ≤ m) {g : Nat → Int} (h : ∀ k, k < n → 0 ≤ g k ∧ g k < m) : Ring n m (runs n g) :=
  ⟨runs_len n g, hn, hm, fun k hk => by rw [runs_at n g hk]; exact (h k hk).1, fun k hk => by rw [runs_at n g hk]; exact (h k hk).2⟩
theorem ringF_ring (ns : List Int) {n : Nat} {m : Int} (hn : 2 ≤ n) (hm : 2 ≤ m) : Ring n m (ringF ns n m) := by
  have md : ∀ x : Int, 0 ≤ x % m ∧ x % m < m := fun x => ⟨Int.emod_nonneg _ (by omega), Int.emod_lt_of_pos _ (by omega)⟩
  unfold ringF
  split
  · exact ring_of_runs hn hm fun k _ => md _
  split
  · refine ring_of_runs hn hm fun k _ => ?_
    have h : 0 < minI m (2 + at0 ns 2 / 5 % 3) ∧ minI m (2 + at0 ns 2 / 5 % 3) ≤ m := by
      unfold minI
      split <;> omega
    have a := Int.emod_nonneg (mixed (at0 ns 2) k) (show minI m (2 + at0 ns 2 / 5 % 3) ≠ 0 by omega)
    have b := Int.emod_lt_of_pos (mixed (at0 ns 2) k) h.1
    omega
  split
  · have a := Int.emod_nonneg (at0 ns 2 / 5) (show (n : Int) + 1 ≠ 0 by omega)
    have b := Int.emod_lt_of_pos (at0 ns 2 / 5) (show (0 : Int) < (n : Int) + 1 by omega)
    obtain ⟨i, hi⟩ : ∃ i, i = (at0 ns 2 / 5 % ((n : Int) + 1)).toNat := ⟨_, rfl⟩
    rw [← hi]
    have hin : i ≤ n := by omega
    have key : ∀ k, k < n → 0 ≤ at0 (List.replicate i (at0 ns 2 / 50 % m) ++ List.replicate (n - i) (at0 ns 2 / 5000 % m)) k ∧ at0 (List.replicate i (at0 ns 2 / 50 % m) ++ List.replicate (n - i) (at0 ns 2 / 5000 % m)) k < m := fun k hk => by
      unfold at0
      rw [List.getD_eq_getElem?_getD]
      by_cases c : k < i
      · rw [List.getElem?_append_left (by rw [List.length_replicate]; exact c), List.getElem?_replicate, if_pos c]
        exact md _
      · rw [List.getElem?_append_right (by rw [List.length_replicate]; omega), List.getElem?_replicate, List.length_replicate, if_pos (by omega)]
        exact md _
    refine ⟨?_, hn, hm, fun k hk => (key k hk).1, fun k hk => (key k hk).2⟩
    rw [List.length_append, List.length_replicate, List.length_replicate]
    omega
  split
  · exact ring_of_runs hn hm fun k _ => md _
  · exact ring_of_runs hn hm fun k _ => md _
def sp_law_ring (K : PySem.W.Frag) : Sp := fun vs H Q _ => ∃ (a : Addr) (ns : List Int) (n : Nat) (m : Int), vs = [.ref a, .int (n : Int), .int m] ∧ SqL K H a (I ns) ∧ 2 ≤ n ∧ n ≤ 12 ∧ 2 ≤ m ∧ m ≤ 100 ∧
  ∀ H' p, Same H H' → SqT K H' p (I (ringF ns n m)) → Q (.ref p) H'
/-- a sequence of ints, a tuple or a list -/
def Sq (K : PySem.W.Frag) (H : Hp) (a : Addr) (xs : List V) : Prop := SqL K H a xs ∨ SqT K H a xs
theorem Sq.same {K : PySem.W.Frag} {H H' : Hp} {a : Addr} {xs : List V} (s : Same H H') (h : Sq K H a xs) : Sq K H' a xs := h.elim (fun h => .inl (s.seq h)) fun h => .inr (s.tup h)
section
variable {X : Cx}
def rIxSq (K : PySem.W.Frag) : R2 := fun x y H Q => ∃ p xs i v, x = .ref p ∧ y = .int i ∧ Sq K H p xs ∧ atI xs i = some v ∧ Q v H
theorem ix_sq : IxR X (rIxSq X.K) := by
  intro value slice pins s σ H x y v u Q I rx ry h hs
  obtain ⟨p, xs, i, z, ex, ey, hq, he, q⟩ := h
  rcases hq with hq | hq
  · exact ix_list value slice pins s σ H x y v u Q I rx ry ⟨p, xs, i, z, ex, ey, hq, he, q⟩ hs
  · exact ix_tup value slice pins s σ H x y v u Q I rx ry ⟨p, xs, i, z, ex, ey, hq, he, q⟩ hs
end
def sp_law_able (K : PySem.W.Frag) : Sp := fun vs H Q _ => ∃ (a : Addr) (r : List Int), vs = [.ref a] ∧ Sq K H a (I r) ∧ r.length ≤ 1000 ∧
  ∀ H' p, Same H H' → H p = none → H' p = some (.lst (N (able r))) → Q (.ref p) H'
def sp_law_step (K : PySem.W.Frag) : Sp := fun vs H Q _ => ∃ (a : Addr) (r : List Int) (m : Int) (k : Nat), vs = [.ref a, .int m, .int (k : Int)] ∧ SqT K H a (I r) ∧ k < r.length ∧ r.length ≤ 1000 ∧ 0 < m ∧
  ∀ H' p, Same H H' → SqT K H' p (I (HR.moved m r k)) → Q (.ref p) H'
end HW
namespace HW
open PySem PySem.Spec PyProof.Rows L2 HR
/-! ### == of lists and tuples of ints -/
def dI (r : List Int) : List PyData := r.map PyData.int
theorem eqv_dI : ∀ r s : List Int, PyData.eqvAll (dI r) (dI s) = decide (r = s)
  | [], [] => rfl
  | [], _ :: _ => rfl
  | _ :: _, [] => rfl
  | x :: r, y :: s => by
    show (PyData.eqv (.int x) (.int y) && PyData.eqvAll (dI r) (dI s)) = decide (x :: r = y :: s)
    rw [eqv_dI r s]
    show ((x == y) && decide (r = s)) = decide (x :: r = y :: s)
    by_cases h1 : x = y
    · subst h1
      by_cases h2 : r = s
      · subst h2; simp
      · simp [h2]
    · simp [h1]
theorem can_dI : ∀ r : List Int, PyData.canLayAll0 (dI r) = true
  | [] => rfl
  | x :: r => by
    show (PyData.canLay0 (.int x) && PyData.canLayAll0 (dI r)) = true
    rw [can_dI r]
    rfl
theorem depth_dI : ∀ r : List Int, PyData.depthAll (dI r) = 0
  | [] => rfl
  | x :: r => by
    show max (PyData.depth (.int x)) (PyData.depthAll (dI r)) = 0
    rw [depth_dI r]
    rfl
theorem shaped_L (r : List Int) : SeqAt.shaped (.list (dI r)) = true := by
  unfold SeqAt.shaped
  show (PyData.canLayAll0 (dI r) && decide (PyData.depthAll (dI r) + 1 ≤ 64)) = true
  rw [can_dI, depth_dI]
  rfl
theorem shaped_T (r : List Int) : SeqAt.shaped (.tuple (dI r)) = true := by
  unfold SeqAt.shaped
  show (PyData.canLayAll0 (dI r) && decide (PyData.depthAll (dI r) + 1 ≤ 64)) = true
  rw [can_dI, depth_dI]
  rfl
theorem dp_I {K : PySem.W.Frag} {H : Hp} : ∀ r : List Int, DpAll K H (I r) (dI r)
  | [] => .nil
  | x :: r => .cons (.int x) (dp_I r)
theorem dp_L {K : PySem.W.Frag} {H : Hp} {a : Addr} {r : List Int} (h : SqL K H a (I r)) : Dp K H (.ref a) (.list (dI r)) := .lst h (dp_I r)
theorem dp_T {K : PySem.W.Frag} {H : Hp} {a : Addr} {r : List Int} (h : SqT K H a (I r)) : Dp K H (.ref a) (.tuple (dI r)) := .tup h (dp_I r)
/-- ints by places -/
abbrev Z (l : List Nat) : List Int := l.map fun (k : Nat) => (k : Int)
theorem N_Z (l : List Nat) : N l = I (Z l) := by
  unfold N I Z
  rw [List.map_map]
  rfl
theorem Z_inj : ∀ {k l : List Nat}, Z k = Z l ↔ k = l
  | [], [] => ⟨fun _ => rfl, fun _ => rfl⟩
  | [], _ :: _ => ⟨(fun h => nomatch h), (fun h => nomatch h)⟩
  | _ :: _, [] => ⟨(fun h => nomatch h), (fun h => nomatch h)⟩
  | a :: k, b :: l => by
    constructor
    · intro h
      have h1 : ((a : Int)) = (b : Int) := (List.cons.inj h).1
      have h2 := (Z_inj (k := k) (l := l)).mp (List.cons.inj h).2
      rw [h2, show a = b by omega]
    · intro h; rw [h]
section
variable {X : Cx}
def rEqI (K : PySem.W.Frag) (g : Bool → Bool) : R2 := fun x y H Q => ∃ (a b : Addr) (r s : List Int), x = .ref a ∧ y = .ref b ∧ ((SqL K H a (I r) ∧ SqL K H b (I s)) ∨ (SqT K H a (I r) ∧ SqT K H b (I s))) ∧ Q (.bl (g (decide (r = s)))) H
theorem op_eqI (hu : X.A.units + 64 < cLine) : OpR X (compareOp .Eq) (rEqI X.K fun b => b) := by
  intro pins s σ H x y v u Q I rx ry h
  obtain ⟨a, b, r, s', ex, ey, hs, q⟩ := h
  subst ex ey
  rcases hs with ⟨h1, h2⟩ | ⟨h1, h2⟩
  · refine op_eqD hu pins s σ H _ _ v u Q I rx ry ⟨_, _, dp_L h1, dp_L h2, shaped_L _, shaped_L _, ?_⟩
    show Q (.bl (PyData.eqvAll (dI r) (dI s'))) H
    rw [eqv_dI]
    exact q
  · refine op_eqD hu pins s σ H _ _ v u Q I rx ry ⟨_, _, dp_T h1, dp_T h2, shaped_T _, shaped_T _, ?_⟩
    show Q (.bl (PyData.eqvAll (dI r) (dI s'))) H
    rw [eqv_dI]
    exact q
theorem op_neI (hu : X.A.units + 64 < cLine) : OpR X (compareOp .NotEq) (rEqI X.K fun b => !b) := by
  intro pins s σ H x y v u Q I rx ry h
  obtain ⟨a, b, r, s', ex, ey, hs, q⟩ := h
  subst ex ey
  rcases hs with ⟨h1, h2⟩ | ⟨h1, h2⟩
  · refine op_neD hu pins s σ H _ _ v u Q I rx ry ⟨_, _, dp_L h1, dp_L h2, shaped_L _, shaped_L _, ?_⟩
    show Q (.bl (!PyData.eqvAll (dI r) (dI s'))) H
    rw [eqv_dI]
    exact q
  · refine op_neD hu pins s σ H _ _ v u Q I rx ry ⟨_, _, dp_T h1, dp_T h2, shaped_T _, shaped_T _, ?_⟩
    show Q (.bl (!PyData.eqvAll (dI r) (dI s'))) H
    rw [eqv_dI]
    exact q
end
theorem inV_I {z : Int} : ∀ {r : List Int}, inV (.int z) (I r) = decide (z ∈ r)
  | [] => rfl
  | x :: r => by
    show ((x == z) || inV (.int z) (I r)) = decide (z ∈ x :: r)
    rw [inV_I (r := r)]
    by_cases h1 : x = z
    · subst h1; simp
    · have h2 : ¬ z = x := fun e => h1 e.symm
      simp [h1, h2]
theorem flat_I : ∀ r : List Int, (I r).all flatV = true
  | [] => rfl
  | x :: r => by
    show (flatV (.int x) && (I r).all flatV) = true
    rw [flat_I r]
    rfl
theorem mem_Z {z : Int} {l : List Nat} : z ∈ Z l ↔ 0 ≤ z ∧ z.toNat ∈ l := by
  unfold Z
  rw [List.mem_map]
  constructor
  · rintro ⟨k, hk, rfl⟩
    exact ⟨by omega, by simpa using hk⟩
  · rintro ⟨h1, h2⟩
    exact ⟨z.toNat, h2, by omega⟩
/-! ### isinstance -/
theorem ty_T {K : PySem.W.Frag} {H : Hp} {a : Addr} {xs : List V} (h : SqT K H a xs) : TyX K H (.ref a) (.type "tuple") := by
  rcases h with (h | ⟨o, h⟩) | ⟨o, _, _, e, c, _⟩
  · exact .base (.tup h)
  · exact .fTuple h
  · exact .kTuple e c
theorem ty_L {K : PySem.W.Frag} {H : Hp} {a : Addr} {xs : List V} (h : SqL K H a xs) : TyX K H (.ref a) (.type "list") := by
  rcases h with (h | ⟨o, h⟩) | ⟨o, _, _, e, c, _⟩
  · exact .base (.lst h)
  · exact .base (.frz h)
  · exact .kList e c
theorem ty_I {K : PySem.W.Frag} {H : Hp} {i : Int} : TyX K H (.int i) (.type "int") := .base (.int i)
theorem ty_B {K : PySem.W.Frag} {H : Hp} {b : Bool} : TyX K H (.bl b) (.type "bool") := .base (.bl b)
theorem kt_TT {K : PySem.W.Frag} : PySem.W.kitOne K (.type "tuple") (.type "tuple") = some true := kit_ty (by decide +kernel)
theorem kt_IT {K : PySem.W.Frag} : PySem.W.kitOne K (.type "int") (.type "tuple") = some false := kit_ty (by decide +kernel)
theorem kt_LT {K : PySem.W.Frag} : PySem.W.kitOne K (.type "list") (.type "tuple") = some false := kit_ty (by decide +kernel)
theorem kt_IB {K : PySem.W.Frag} : PySem.W.kitOne K (.type "int") (.type "bool") = some false := kit_ty (by decide +kernel)
theorem kt_BB {K : PySem.W.Frag} : PySem.W.kitOne K (.type "bool") (.type "bool") = some true := kit_ty (by decide +kernel)
theorem kt_II {K : PySem.W.Frag} : PySem.W.kitOne K (.type "int") (.type "int") = some true := kit_ty (by decide +kernel)
theorem kt_LL {K : PySem.W.Frag} : PySem.W.kitOne K (.type "list") (.type "list") = some true := kit_ty (by decide +kernel)
theorem kt_IL {K : PySem.W.Frag} : PySem.W.kitOne K (.type "int") (.type "list") = some false := kit_ty (by decide +kernel)
theorem kt_TL {K : PySem.W.Frag} : PySem.W.kitOne K (.type "tuple") (.type "list") = some false := kit_ty (by decide +kernel)
theorem kt_LI {K : PySem.W.Frag} : PySem.W.kitOne K (.type "list") (.type "int") = some false := kit_ty (by decide +kernel)
theorem b_tuple : bootBuiltins "tuple" = some (.type "tuple") := by decide +kernel
theorem b_list : bootBuiltins "list" = some (.type "list") := by decide +kernel
theorem b_bool : bootBuiltins "bool" = some (.type "bool") := by decide +kernel
theorem b_int : bootBuiltins "int" = some (.type "int") := by decide +kernel
/-- the class T as a value -/
theorem pty {X : Cx} {x : Str} {T : String} {pos : Pos} (hg : Gl X x) (hm : X.mg x = none) (hv : bootBuiltins x = some (.type T)) (hn : x ≠ "__name__" := by decide) (hd : (x == ("__debug__" : Str)) = false := by decide) : PE X (.Name x pos) (tC (.ty T)) :=
  pe_bltn hg hm hv rfl hn hd
/-! ### alike -/
/-- what told and due are read as -/
abbrev Rd1 (α : Type) := Hp → V → α → Prop
def RI : Rd1 Int := fun _ x i => x = .int i
def RT {α : Type} (K : PySem.W.Frag) (R : Rd1 α) : Rd1 (List α) := fun H x l => ∃ a xs, x = .ref a ∧ SqT K H a xs ∧ Paired (R H) xs l ∧ l.length ≤ 1000
def Stay {α : Type} (R : Rd1 α) : Prop := ∀ H H' x u, Same H H' → R H x u → R H' x u
theorem stay_RI : Stay RI := fun _ _ _ _ _ h => h
theorem paired_imp {α β : Type} {F G : α → β → Prop} (h : ∀ a b, F a b → G a b) : ∀ {l : List α} {m : List β}, Paired F l m → Paired G l m
  | _, _, .nil => .nil
  | _, _, .cons a t => .cons (h _ _ a) (paired_imp h t)
theorem paired_get {α β : Type} {F : α → β → Prop} : ∀ {l : List α} {m : List β} {i : Nat} {b : β}, Paired F l m → m[i]? = some b → ∃ a, l[i]? = some a ∧ F a b
  | _, _, _, _, .nil, e => by simp at e
  | _, _, 0, _, .cons h _, e => by
    simp at e
    subst e
    exact ⟨_, rfl, h⟩
  | _, _, i + 1, b, .cons _ t, e => by
    obtain ⟨a, h1, h2⟩ := paired_get (i := i) (b := b) t (by simpa using e)
    exact ⟨a, by simpa using h1, h2⟩
theorem stay_RT {α : Type} {K : PySem.W.Frag} {R : Rd1 α} (h : Stay R) : Stay (RT K R) := fun H H' x l s ⟨a, xs, e, hT, hp, hl⟩ => ⟨a, xs, e, s.tup hT, paired_imp (fun v u q => h H H' v u s q) hp, hl⟩
def sp_law_alike {α : Type} [DecidableEq α] (R : Rd1 α) : Sp := fun vs H Q _ => ∃ (x y : V) (u v : α), vs = [x, y] ∧ R H x u ∧ R H y v ∧ ∀ H', Same H H' → Q (.bl (decide (u = v))) H'
def spNo : Sp := fun _ _ _ _ => False
theorem paired_I {H : Hp} : ∀ r : List Int, Paired (RI H) (I r) r
  | [] => .nil
  | x :: r => .cons rfl (paired_I r)
theorem RT_I {K : PySem.W.Frag} {H : Hp} {a : Addr} {r : List Int} (h : SqT K H a (I r)) (hl : r.length ≤ 1000) : RT K RI H (.ref a) r := ⟨a, _, rfl, h, paired_I r, hl⟩
theorem kept_nil {f : Nat → Bool} {v : Nat → V} {n : Nat} : ((List.range n).filter f) = [] ↔ ∀ i, i < n → f i = false := by
  rw [List.filter_eq_nil_iff]
  constructor
  · intro h i hi
    simpa using h i (List.mem_range.mpr hi)
  · intro h i hi
    simpa using h i (List.mem_range.mp hi)
theorem alike_lists {α : Type} [DecidableEq α] {l m : List α} (hl : l.length = m.length) : decide (Z ((List.range m.length).filter fun i => !decide (l[i]? = m[i]?)) = []) = decide (l = m) := by
  by_cases e : l = m
  · subst e
    rw [decide_eq_true rfl]
    refine decide_eq_true ?_
    have : (List.range l.length).filter (fun i => !decide (l[i]? = l[i]?)) = [] := by
      rw [List.filter_eq_nil_iff]
      intro i _
      simp
    rw [this]
    rfl
  · rw [decide_eq_false e]
    refine decide_eq_false fun q => e ?_
    have q2 : (List.range m.length).filter (fun i => !decide (l[i]? = m[i]?)) = [] := List.map_eq_nil_iff.mp q
    rw [List.filter_eq_nil_iff] at q2
    refine List.ext_getElem? fun i => ?_
    by_cases hi : i < m.length
    · have := q2 i (List.mem_range.mpr hi)
      simpa using this
    · rw [List.getElem?_eq_none (by omega), List.getElem?_eq_none (by omega)]
/-- told and due as lists of ints -/
def sp_law_listed (K : PySem.W.Frag) : Sp := fun vs H Q _ => ∃ (a b : Addr) (r s : List Int), vs = [.ref a, .ref b] ∧ SqL K H a (I r) ∧ SqL K H b (I s) ∧ r.length ≤ 1000 ∧ s.length ≤ 1000 ∧ ∀ H', Same H H' → Q (.bl (decide (r = s))) H'
end HW
namespace HW
open PySem PySem.Spec PyProof.Rows L2 HR
/-! ### a def that is handed the error which is being handled -/
section
variable {X : Cx}
/-- how often one truth stands in a list of truths -/
def tr (b : Bool) (v : Value) : Bool := match v with
  | .bool c => c == b
  | _ => false
theorem tr_at {A : Around} {s : Shared} {b : Bool} : ∀ {bs : List Bool} {us : List Value}, Vals (bs.map V.bl) us → ∀ y ∈ us, SeqAt.EqAt A s y (.bool b) (tr b y)
  | [], us, h, y, hy => by
    cases h
    cases hy
  | c :: bs, us, h, y, hy => by
    cases h with
    | cons h1 h2 =>
      cases h1
      rcases List.mem_cons.mp hy with e | e
      · subst e
        exact SeqAt.EqAt.bool_bool c b
      · exact tr_at h2 y e
theorem tr_count {b : Bool} : ∀ {bs : List Bool} {us : List Value}, Vals (bs.map V.bl) us → us.countP (tr b) = bs.count b
  | [], us, h => by
    cases h
    rfl
  | c :: bs, us, h => by
    cases h with
    | cons h1 h2 =>
      cases h1
      rw [List.countP_cons, List.count_cons, tr_count h2] <;> rfl
def rCntB (K : PySem.W.Frag) : V → List V → Hp → VK → Prop := fun x xs H Q => ∃ (p : Addr) (bs : List Bool) (b : Bool), x = .ref p ∧ xs = [.bl b] ∧ SqL K H p (bs.map V.bl) ∧ Q (.int (bs.count b : Nat)) H
theorem mt_bcount : MtR X "list.count" (rCntB X.K) := by
  intro pins s σ H x xs v us Q I rx rxs h
  obtain ⟨p, bs, b, rfl, rfl, hs, q⟩ := h
  cases rx
  obtain ⟨u, rfl, ru⟩ := rxs.one
  cases ru
  obtain ⟨its, rv, ⟨⟨cls, dd, data, sl⟩, n, ho, hc, hdn, hd⟩, hlen⟩ := I.list hs
  simp only at hc hd
  subst hc hd
  refine call_meets PySem.F.slot_list_count ⟨_, ho, rfl⟩ PySem.F.entry_list_count (PySem.F.args_list_count_2 _ _)
    (SeqAt.list_countAt p its.toArray n dd sl (.bool b) (tr b)) ⟨ho, fun y hy => tr_at rv y (by simpa using hy), ?_⟩
  have ec : its.toArray.toList.countP (tr b) = bs.count b := tr_count rv
  refine ⟨.int (bs.count b : Nat), H, I.tok _, ⟨s.toks, ?_⟩, q⟩
  rw [← ec]
end
/-- what is asked of the class of an error that is told apart -/
structure Kd (K : PySem.W.Frag) (cs : List Addr) (cE D : Addr) (j : Nat) : Prop where
  e : ExcC K D
  i : ∀ (i : Nat) (c : Addr), cs[i]? = some c → PySem.W.kitOne K (.ref D) (.ref c) = some (decide (i = j))
  h : PySem.W.kitOne K (.ref D) (.ref cE) = some true
  v : PySem.W.kitOne K (.ref D) (.type "ValueError") = some true
  m : PySem.W.exmOne K (.ref D) (.ref cE) = some true
section
variable {X : Cx}
/-- isinstance(e, c), e the error that the frame's caller handles -/
theorem call_isP {a D : Addr} {oe : Obj} (C : ExcC X.K D) (hp : (a, oe) ∈ X.pn) (hz : Zc (.ref D) none oe) (hf : ∃ vs, oe.data = .fields vs) : CallR X (.builtin "isinstance") (rIsE X.K D a) := by
  intro pins s σ H xs us Q I r h
  obtain ⟨c, cv, b, rfl, hcv, e, q⟩ := h
  obtain ⟨u1, u2, rfl, r1, r2⟩ := vals2 r
  cases r1
  have ec := hcv _ r2
  subst ec
  have hget := (I.pin (a, oe) (List.mem_append_left _ hp)).1
  obtain ⟨vs, hv⟩ := hf
  have J : PySem.W.InstAt s.heap a oe D none := by
    obtain ⟨oc, od, oda, osl⟩ := oe
    obtain ⟨h1, h2⟩ := hz
    dsimp only at h1 h2 hv
    subst h1 h2 hv
    exact ⟨hget, rfl, rfl, trivial⟩
  exact PySem.W.kia_one (PySem.W.handS_kitx_exc C.hg C.hk C.hs C.hd C.ha C.hn C.ht C.hm) I.kIn J e (fun z => nomatch z) fun tk => ⟨.bl b, H, I.kept (t' := tk) fun _ _ z => z, rfl, q⟩
end
theorem b_verr : bootBuiltins "ValueError" = some (.type "ValueError") := by decide +kernel
/-- a def whose caller handles the error at a, of the class cls -/
structure FnE (P : Program) (w : World) (K : PySem.W.Frag) (mg : Str → Option Value) (base : Heap) (k : Nat) (f : Addr) (fd : FuncData) (ps : List Str) (sp : Value → Option Addr → Addr → Sp) : Prop where
  len : ∀ cls d a vs H Q E, sp cls d a vs H Q E → vs.length = ps.length
  run : ∀ (A : Around) (outer : List Env) (s : Shared) (H : Hp) (args : Args) (us : List Value) (vs : List V) (Q : VK) (E : XK) (a : Addr) (oe : Obj) (cls : Value) (d : Option Addr), L2H.RoomH k A → Zc cls d oe → (∃ vs, oe.data = .fields vs) → L2H.PinOk outer H s (a, oe) →
    Env0 P w K mg base A outer s H → BindsTo s fd args (ps.zip us) → Vals vs us → sp cls d a vs H Q E → codeAny (model P w) A (.call (.ref f) args) (CR L2.CX0 outer P w H s Q E) s
theorem Fun.okE {P : Program} {w : World} {K : PySem.W.Frag} {mg : Str → Option Value} {base : Heap} {x qual : Str} {st : Stmt} {f : Addr} {fd : FuncData} {N ps : List Str} {k : Nat} {sp : Value → Option Addr → Addr → Sp} (F : Fun K x qual st f fd) (S : FnScope N ps (defScope st))
    (len : ∀ cls d a vs H Q E, sp cls d a vs H Q E → vs.length = ps.length)
    (hbody : ∀ (cdv : Value) (A : Around) (outer : List Env) (s : Shared) (H : Hp) (vs : List V) (Q : VK) (E : XK) (a : Addr) (oe : Obj) (cls : Value) (d : Option Addr), Zc cls d oe → (∃ vs, oe.data = .fields vs) → L2H.RoomH k (A.deeper (envOfC qual (defScope st) s.heap.objs.size f cdv)) → sp cls d a vs H Q E →
      ∃ t, PSs (L2H.cxH L2.CX0 P w K mg base N qual (defScope st) f cdv A outer s H E (a, oe)) (defBody st) t ∧ t { nx := fun _ H' => Q .non H', rt := Q } (L2.start N vs) H) : FnE P w K mg base (k + 1) f fd ps sp := by
  obtain ⟨oc, od, kV, doc, pm, an, cdv, ct, osl, rfl, lk, hcd⟩ := F.ex
  refine ⟨len, fun A outer s H args us vs Q E a oe cls d hr hz hf hpin e0 hb r hsp => ?_⟩
  have hl := len _ _ _ _ _ _ _ hsp
  have KX : K.In s.heap := e0.mod.kin.keeps fun b o e => (e0.bs b o e).1
  have lim : s.heap.NoLimit := e0.mod.nolimit.keeps fun b o e => (e0.bs b o e).1
  have hkind : ∀ y ∈ ps.zip us, (defScope st).names.lookup y.1 = some .local ∨ ((defScope st).names.lookup y.1 = some .cell ∧ ((cellsFrom (s.heap.objs.size + 1) (defScope st).names []).lookup y.1).isSome = true) := fun ⟨n, v⟩ hy => by
    rcases S.par n (List.of_mem_zip hy).1 with q | q
    · exact .inl q
    · exact .inr ⟨q, PySem.W.cellsFrom_some _ _ _ (.inl q)⟩
  refine codeAny_call_function hr.depth (KX _ _ lk) rfl S.co S.gen rfl (PySem.W.codeRec_of KX hcd) (hb _ _ _ _ ?_)
  refine wpAny_newFunctionEnv_cells S.kind hkind fun env he s1 y => ?_
  subst he
  refine ⟨lim.keeps y.toInCall.keep, codeAny_func ?_⟩
  obtain ⟨t, ht, hq⟩ := hbody cdv A outer s H vs Q E a oe cls d hz hf (hr.deeper _) hsp
  have I0 := L2H.inv_startH (CX := L2.CX0) (P := P) (w := w) (K := K) (mg := mg) (base := base) (qual := qual) (f := f) (cd := cdv) (E := E) S hpin e0 hl r y
  refine wpAny_mono (ht.run [] s1 (L2.start N vs) H _ I0 hq) (fun fl s' hs => ?_) fun e s' hs => hs
  cases fl with
  | ret u =>
    obtain ⟨v, σ', H', J, rv, q⟩ := hs
    exact ⟨v, H', J.os, J.bare, J.base, J.hok, rv, q⟩
  | next =>
    obtain ⟨σ', H', J, q⟩ := hs
    exact ⟨V.non, H', J.os, J.bare, J.base, J.hok, rfl, q⟩
  | brk =>
    obtain ⟨_, _, _, q⟩ := hs
    exact False.elim q
  | cont =>
    obtain ⟨_, _, _, q⟩ := hs
    exact False.elim q
section
variable {X : Cx} {k : Nat} {f a : Addr} {oe : Obj} {cls : Value} {d : Option Addr} {fd : FuncData} {ps : List Str} {sp : Value → Option Addr → Addr → Sp} {x : Str} {p pos : Pos} {e : Expr} {es : List Expr} {t : TA}
def tCallE (sp : Sp) (t : TA) : TE := fun σ H Q => t σ H fun vs H1 => sp vs H1 Q fun _ _ _ => False
theorem pe_callE (F : FnE X.prog X.w X.K X.mg X.base k f fd ps sp) (hr : L2H.RoomH k X.A) (hp : (a, oe) ∈ X.pn) (hz : Zc cls d oe) (hf : ∃ vs, oe.data = .fields vs) (hg : Gl X x) (hm : X.mg x = some (.ref f)) (hk : PySem.W.keepIn X.K (.ref f) = true) (hb : Binds X.K fd ps [])
    (ha : PA X (e :: es) t) (hdb : (x == ("__debug__" : Str)) = false := by decide) (he : starEach (e :: es) X.env = (false, eval e X.env) :: starEach es X.env := by rfl) (hpl : (backTo pos (starEach es X.env)).any (·.1) = false := by rfl) :
    PE X (.Call (.Name x p) (e :: es) [] pos) (tCallE (sp cls d a) t) := by
  refine ⟨fun pins s σ H Q I h => ?_⟩
  refine wpAny_Call_Name_kw (ld_glob I hg hm ?_ hdb)
  refine PySem.W.callWith_K (h₀ := X.base) I.ok.mod.kin hk (thn (ha.run pos pins s σ H _ I h) fun us s1 ⟨vs, H1, I1, r, q⟩ => ⟨I1.kIn, ?_⟩) he hpl
  have hl : us.length = ps.length := by rw [← r.length]; exact F.len _ _ _ _ _ _ _ q
  have b := hb s1 us I1.kIn (by rw [List.append_nil]; exact hl)
  rw [List.append_nil] at b
  have P1 := I1.pin (a, oe) (List.mem_append_left _ hp)
  have hpin : L2H.PinOk X.stack H1 s1 (a, oe) := ⟨P1.1, P1.2.1, fun hm => (List.mem_cons.mp (I1.stkSub a hm)).elim P1.2.2.1 P1.2.2.2.1, P1.2.2.2.2⟩
  refine wpAny_call (codeAny_mono (F.run X.A X.stack s1 H1 ⟨us, []⟩ us vs Q _ a oe cls d hr hz hf hpin I1.env0 b r q) fun r s' hq => ?_)
  cases r with
  | error e => exact hq.elim
  | ok fl =>
    cases fl with
    | ret u => exact I1.after hq
    | next => exact False.elim hq
    | brk => exact False.elim hq
    | cont => exact False.elim hq
end
theorem hot_of {X : Cx} {a : Addr} {oe : Obj} {cls : Value} {d : Option Addr} {pn : List (Addr × Obj)} (hz : L2N.Zn cls d oe) (hf : ∃ vs, oe.data = .fields vs) : L2H.HotC (X.suite a ((a, oe) :: pn)) := by
  obtain ⟨vs, hv⟩ := hf
  exact ⟨(a, oe), ⟨rfl, vs, hv, hz.2.2 vs hv⟩, List.mem_cons_self⟩
theorem pi_range2H {X : Cx} {tg a b : Expr} {ta : TA} {p pos : Pos} (hg : Gl X "range") (hm : X.mg "range" = none) (ha : PA X [a, b] ta) (hs : starEach [a, b] X.env = [(false, eval a X.env), (false, eval b X.env)] := by rfl) (hs2 : starEach [b] X.env = [(false, eval b X.env)] := by rfl) :
    L2H.PIH X tg (.Call (.Name "range" p) [a, b] [] pos) (iRng2 ta) := by
  refine ⟨fun pins s σ H R I h => ?_⟩
  refine Call_ (ld_blt I hg hm boot_range (PyProof.Rows.callWith_type1 (thn (ha.run pos pins s σ H _ I h) fun us s1 ⟨vs, H1, I1, r1, q1⟩ => ?_) (by rw [hs, hs2]) (by rw [hs2]; rfl)))
  obtain ⟨i, j, e, ⟨q1, q2, q3, q4⟩, q⟩ := q1
  subst e
  obtain ⟨u1, u2, eu, ri, rj⟩ := vals2 r1
  subst eu
  obtain ⟨t, rfl⟩ := ri
  obtain ⟨t', rfl⟩ := rj
  exact call_range_2 (L2H.range_itH I1 q1 q2 q3 q4 q)
/-- _law_only(e, at): is e of the class at the place at, and of no other -/
def sp_law_only (K : PySem.W.Frag) (cs : List Addr) (cE : Addr) : Value → Option Addr → Addr → Sp := fun cls d a vs H Q _ => ∃ (D : Addr) (j i : Nat), cls = .ref D ∧ d = none ∧ Kd K cs cE D j ∧ j < 6 ∧ vs = [.ref a, .int (i : Int)] ∧ i < 6 ∧ cs.length = 6 ∧ ∀ H', Same H H' → Q (.bl (decide (i = j))) H'
end HW
namespace HW
open PySem PySem.Spec PyProof.Rows L2 HR
/-- an order that the law draws -/
def sp_law_order (K : PySem.W.Frag) : Sp := fun vs H Q _ => ∃ (a c : Addr) (ns r : List Int) (m : Int) (n t : Nat), vs = [.ref a, .ref c, .int m, .int (t : Int)] ∧ SqL K H a (I ns) ∧ SqT K H c (I r) ∧ Ring n m r ∧ n ≤ 12 ∧ t ≤ 1000 ∧
  ∀ H' p ks r', Same H H' → H p = none → H' p = some (.lst (N ks)) → Ex n m r ks r' → ks.length = t → Q (.ref p) H'
/-- the rings on the way, or a number for what is wrong -/
def sp_law_rings (K : PySem.W.Frag) : Sp := fun vs H Q _ => ∃ (a b : Addr) (r zs : List Int) (m : Int) (n : Nat), vs = [.ref a, .int m, .ref b] ∧ SqT K H a (I r) ∧ SqL K H b (I zs) ∧ zs.length ≤ 1000 ∧ Ring n m r ∧ n ≤ 12 ∧ m ≤ 100 ∧
  (∀ c H', goneA m [r] r zs = .error c → Same H H' → Q (.int (if c = true then 2 else 3)) H') ∧ ∀ rs H' p, goneA m [r] r zs = .ok rs → Same H H' → H p = none → Lists K H' p rs → Q (.ref p) H'
/-- told and due as lists of rings -/
def sp_law_listed2 (K : PySem.W.Frag) : Sp := fun vs H Q _ => ∃ (a b : Addr) (rs ss : List (List Int)), vs = [.ref a, .ref b] ∧ Lists K H a rs ∧ Lists K H b ss ∧ rs.length ≤ 1000 ∧ ss.length ≤ 1000 ∧ (∀ r ∈ rs, r.length ≤ 1000) ∧ (∀ r ∈ ss, r.length ≤ 1000) ∧ ∀ H', Same H H' → Q (.bl (decide (rs = ss))) H'
theorem paired_R {K : PySem.W.Frag} {H : Hp} : ∀ {xs : List V} {rs : List (List Int)}, Tups K H xs rs → (∀ r ∈ rs, r.length ≤ 1000) → Paired (RT K RI H) xs rs
  | _, _, .nil, _ => .nil
  | _, _, .cons ⟨a, e, h⟩ t, hl => .cons (by rw [e]; exact RT_I h (hl _ List.mem_cons_self)) (paired_R t fun r hr => hl r (List.mem_cons_of_mem _ hr))
theorem cut_I (r : List Int) (lo hi : Option Int) : ∃ s, cutV (I r) lo hi = I s := by
  refine ⟨(r.drop (HT.sIx (I r).length 0 lo)).take (HT.sIx (I r).length (I r).length hi - HT.sIx (I r).length 0 lo), ?_⟩
  unfold cutV I
  rw [List.map_take, List.map_drop]
theorem goneA_cons (m : Int) (rs : List (List Int)) (r : List Int) (z : Int) (zs : List Int) : goneA m rs r (z :: zs) = (match stepR m r z with
    | .error b => .error b
    | .ok r' => goneA m (rs ++ [r']) r' zs) := rfl
theorem goneA_len {m : Int} {n : Nat} : ∀ {zs : List Int} {rs ss : List (List Int)} {r : List Int}, r.length = n → (∀ x ∈ rs, x.length = n) → goneA m rs r zs = .ok ss → ss.length = rs.length + zs.length ∧ ∀ x ∈ ss, x.length = n
  | [], rs, ss, r, _, h2, h => by
    have e : rs = ss := by
      have q : Except.ok (ε := Bool) rs = .ok ss := h
      cases q
      rfl
    subst e
    exact ⟨rfl, h2⟩
  | z :: zs, rs, ss, r, h1, h2, h => by
    unfold goneA at h
    cases e : stepR m r z with
    | error b => rw [e] at h; cases h
    | ok r' =>
      rw [e] at h
      have h1' : r'.length = n := (stepR_len e).trans h1
      obtain ⟨q1, q2⟩ := goneA_len (zs := zs) (rs := rs ++ [r']) (ss := ss) (r := r') h1' (fun x hx => by
        rcases List.mem_append.mp hx with hx | hx
        · exact h2 x hx
        · rw [List.mem_singleton.mp hx]; exact h1') h
      refine ⟨?_, q2⟩
      rw [q1, List.length_append, List.length_cons]
      show rs.length + 1 + zs.length = rs.length + (zs.length + 1)
      omega
end HW
namespace HW
open PySem PySem.Spec PyProof.Rows L2 HR
/-- [v(lo + i) for i in range(lo, lo + n) if f(i)] -/
theorem lc_rl {lo : Int} {n : Nat} {g : TG} {tt : TT} {te : TE} {vs : List Nat} {σ : L2.St} {H1 : Hp} {D : Addr} {Qd : Hp → Prop} (f : Nat → Bool) (v : Nat → V) (hD : H1 D = none) (hn : n ≤ 1000)
    (hs : ∀ i H, i < n → Same H1 H → ∀ (Z : V → Hp → Prop) (M : Hp → Prop), (f i = true → ∀ H', Same H H' → Z (v i) H') → (f i = false → ∀ H', Same H H' → M H') →
      g (.int (lo + (i : Int))) (wipe σ vs) H fun σ2 H2 => wipe σ2 vs = wipe σ vs ∧ tt σ2 H2 fun b H3 => if b = true then te σ2 H3 Z else M H3)
    (hd : ∀ H, Same H1 H → H D = some (.lst (kept f v n)) → Qd H) :
    ∃ W : Nat → Nat → Hp → Prop, (∃ m, W 0 m (upd H1 D (.lst []))) ∧ ∀ i m H, W i m H →
      ((Itr lo n).stop i H ∧ Qd H) ∨ ((Itr lo n).go i H ∧ ∃ Nx : Hp → Prop, (∀ H', Nx H' → ∃ m', m' < m ∧ W (i + 1) m' H') ∧ ∀ x H', (Itr lo n).yld i H x H' → g x (wipe σ vs) H' fun σ2 H2 => wipe σ2 vs = wipe σ vs ∧ tt σ2 H2 fun b H3 =>
        if b = true then te σ2 H3 fun y H4 => ∃ acc, H4 D = some (.lst acc) ∧ acc.length < sizeLine ∧ Nx (upd H4 D (.lst (acc ++ [y]))) else Nx H3) := by
  refine lc_range (lo := lo) (fun i H => Same H1 H ∧ H D = some (.lst (kept f v i))) ⟨same_upd hD, upd_same⟩ (fun i H hi ⟨sm, hd⟩ => ?_) fun H ⟨sm, e⟩ => hd H sm e
  refine hs i H hi sm _ _ (fun hf H' s' => ?_) fun hf H' s' => ?_
  · refine ⟨_, s' _ _ hd, small1000 (Nat.le_trans (kept_len f v i) (by omega)), fun b o e => ?_, ?_⟩
    · rw [upd_ne (ne_of_none e hD)]
      exact s' _ _ (sm _ _ e)
    · rw [upd_same, kept_yes hf]
  · refine ⟨sm.trans s', ?_⟩
    rw [kept_no hf]
    exact s' _ _ hd
/-- [v(z) for z in zs if f(z)], zs a list of ints -/
theorem lc_l0 {K : PySem.W.Frag} {a : Addr} {zs : List Int} {g : TG} {tt : TT} {te : TE} {vs : List Nat} {σ : L2.St} {H1 : Hp} {D : Addr} {Qd : Hp → Prop} (f : Int → Bool) (v : Int → V) (hD : H1 D = none) (hn : zs.length ≤ 1000) (hl : SqL K H1 a (I zs))
    (hs : ∀ z H, z ∈ zs → Same H1 H → ∀ (Z : V → Hp → Prop) (M : Hp → Prop), (f z = true → ∀ H', Same H H' → Z (v z) H') → (f z = false → ∀ H', Same H H' → M H') →
      g (.int z) (wipe σ vs) H fun σ2 H2 => wipe σ2 vs = wipe σ vs ∧ tt σ2 H2 fun b H3 => if b = true then te σ2 H3 Z else M H3)
    (hd : ∀ H, Same H1 H → H D = some (.lst ((zs.filter f).map v)) → Qd H) :
    ∃ W : Nat → Nat → Hp → Prop, (∃ m, W 0 m (upd H1 D (.lst []))) ∧ ∀ i m H, W i m H →
      ((Itl K a).stop i H ∧ Qd H) ∨ ((Itl K a).go i H ∧ ∃ Nx : Hp → Prop, (∀ H', Nx H' → ∃ m', m' < m ∧ W (i + 1) m' H') ∧ ∀ x H', (Itl K a).yld i H x H' → g x (wipe σ vs) H' fun σ2 H2 => wipe σ2 vs = wipe σ vs ∧ tt σ2 H2 fun b H3 =>
        if b = true then te σ2 H3 fun y H4 => ∃ acc, H4 D = some (.lst acc) ∧ acc.length < sizeLine ∧ Nx (upd H4 D (.lst (acc ++ [y]))) else Nx H3) := by
  refine lc_list (K := K) (a := a) (xs := I zs) (fun i H => Same H1 H ∧ H D = some (.lst (((zs.take i).filter f).map v))) ⟨same_upd hD, upd_same⟩ (fun i H _ p => p.1.seq hl) (fun i x H hi ⟨sm, hd⟩ => ?_) fun H ⟨sm, e⟩ => hd H sm (by rw [e, len_I, List.take_length])
  rw [List.getElem?_map] at hi
  cases ei : zs[i]? with
  | none => rw [ei] at hi; cases hi
  | some z =>
    rw [ei] at hi
    cases hi
    have tk : zs.take (i + 1) = zs.take i ++ [z] := by rw [List.take_add_one, ei]; rfl
    refine hs z H (List.mem_of_getElem? ei) sm _ _ (fun hf H' s' => ?_) fun hf H' s' => ?_
    · refine ⟨_, s' _ _ hd, small1000 ?_, fun b o e => ?_, ?_⟩
      · rw [List.length_map]
        exact Nat.le_trans (List.length_filter_le _ _) (by rw [List.length_take]; omega)
      · rw [upd_ne (ne_of_none e hD)]
        exact s' _ _ (sm _ _ e)
      · rw [upd_same, tk, List.filter_append, List.map_append]
        simp [hf]
    · refine ⟨sm.trans s', ?_⟩
      rw [s' _ _ hd, tk, List.filter_append]
      simp [hf]
theorem most_alt {M : Int} (h1 : 2 ≤ M) (h2 : M ≤ 12) : ((most M.toNat : Nat) : Int) = 3 * (M * (M - 1) / 2) := by
  have key : ∀ k : _root_.Fin 13, ((most k.1 : Nat) : Int) = 3 * ((k.1 : Int) * ((k.1 : Int) - 1) / 2) := by decide
  have := key ⟨M.toNat, by omega⟩
  rw [this]
  show 3 * (((M.toNat : Nat) : Int) * (((M.toNat : Nat) : Int) - 1) / 2) = _
  rw [Int.toNat_of_nonneg (by omega)]
theorem kept_none {f : Nat → Bool} {v : Nat → V} {n : Nat} (h : ∀ i, i < n → f i = false) : kept f v n = [] := by
  unfold kept
  rw [List.filter_eq_nil_iff.mpr fun i hi => by rw [h i (List.mem_range.mp hi)]; exact Bool.false_ne_true]
  rfl
theorem counts_Z {n : Nat} {m : Int} {r r' : List Int} {ks : List Nat} (R : Ring n m r) (x : Ex n m r ks r') {k : Nat} (h0 : 0 < k) (hk : k < n) : at0 (counts (Z ks) n) k ≤ at0 (counts (Z ks) n) (k - 1) + 1 := by
  have cz : ∀ j : Nat, (Z ks).count ((j : Nat) : Int) = ks.count j := fun j => by
    unfold Z
    induction ks with
    | nil => rfl
    | cons a l ih =>
      rw [List.map_cons, List.count_cons, List.count_cons]
      have ih' : (l.map fun (k : Nat) => (k : Int)).count ((j : Nat) : Int) = l.count j := by
        clear ih x
        induction l with
        | nil => rfl
        | cons b l ih =>
          rw [List.map_cons, List.count_cons, List.count_cons, ih]
          by_cases e : b = j
          · subst e; simp
          · have : ¬ (b : Int) = (j : Int) := by omega
            simp [e, this]
      rw [ih']
      by_cases e : a = j
      · subst e; simp
      · have : ¬ (a : Int) = (j : Int) := by omega
        simp [e, this]
  have at1 : ∀ j, j < n → at0 (counts (Z ks) n) j = ((ks.count j : Nat) : Int) := fun j hj => by
    unfold at0 counts
    rw [List.getD_eq_getElem?_getD, List.getElem?_map, List.getElem?_range hj]
    show (((Z ks).count ((j : Nat) : Int) : Nat) : Int) = _
    rw [cz]
  rw [at1 k hk, at1 (k - 1) (by omega)]
  have := (x.cnt R k h0 hk).1
  omega
end HW
namespace HW
open PySem PySem.Spec PyProof.Rows L2 HR
/-! ### marks carried on -/
def mkStep (p : List Int × Int) (k : Nat) : List Int × Int := if k = 0 then (p.1.set 0 p.2, p.2 + 1) else (p.1.set k (at0 p.1 (k - 1)), p.2)
def mkF (n : Nat) (ks : List Nat) : List Int × Int := ks.foldl mkStep (marks n, (n : Int))
theorem mkF_snoc (n : Nat) (ks : List Nat) (k : Nat) : mkF n (ks ++ [k]) = mkStep (mkF n ks) k := by
  unfold mkF
  rw [List.foldl_append]
  rfl
theorem tracedA_cons (m : Int) (fs : List Int) (fr : Int) (r : List Int) (z : Int) (zs : List Int) : tracedA m fs fr r (z :: zs) = (match stepR m r z with
    | .error b => .error b
    | .ok r' => if z = 0 then tracedA m (fs.set 0 fr) (fr + 1) r' zs else tracedA m (fs.set z.toNat (at0 fs (z.toNat - 1))) fr r' zs) := rfl
theorem stepR_yes {m : Int} {r : List Int} {k : Nat} (hk : k < r.length) (h : may r k = true) : stepR m r (k : Int) = .ok (HR.moved m r k) := by
  unfold stepR
  rw [if_neg (by omega), Int.toNat_natCast, if_pos h]
theorem traced_ex {n : Nat} {m : Int} {r r' : List Int} {ks : List Nat} (R : Ring n m r) (x : Ex n m r ks r') : ∀ zs, tracedA m (marks n) n r (Z ks ++ zs) = tracedA m (mkF n ks).1 (mkF n ks).2 r' zs := by
  induction x with
  | nil => intro zs; rfl
  | @snoc ks r' k x hk hm ih =>
    intro zs
    have R' := x.ring R
    have e : Z (ks ++ [k]) ++ zs = Z ks ++ ((k : Int) :: zs) := by
      unfold Z
      rw [List.map_append, List.append_assoc]
      rfl
    rw [e, ih, tracedA_cons, stepR_yes (by rw [R'.len]; exact hk) hm, mkF_snoc]
    unfold mkStep
    by_cases c : k = 0
    · subst c
      rw [if_pos rfl]
      rfl
    · have c2 : ¬ (k : Int) = 0 := by omega
      rw [if_neg c]
      show (if (k : Int) = 0 then _ else _) = _
      rw [if_neg c2, Int.toNat_natCast]
def due (r : List Int) (n : Nat) (m mk : Int) : Int := if (n : Int) ≤ mk then (at0 r 0 + 1 + mk - n) % m else at0 r mk.toNat
def age (n : Nat) (mk : Int) : Int := if (n : Int) ≤ mk then mk else 0 - mk
structure Mk (n : Nat) (m : Int) (r r' fs : List Int) (fr : Int) : Prop where
  len : fs.length = n
  fr0 : (n : Int) ≤ fr
  top : at0 r' 0 = (at0 r 0 + (fr - n)) % m
  nn : ∀ k, k < n → 0 ≤ at0 fs k ∧ at0 fs k < fr
  val : ∀ k, k < n → at0 r' k = due r n m (at0 fs k)
  age : ∀ k, 0 < k → k < n → age n (at0 fs k) ≤ age n (at0 fs (k - 1))
theorem marks_len (n : Nat) : (marks n).length = n := by unfold marks; rw [List.length_map, List.length_range]
theorem marks_at {n k : Nat} (h : k < n) : at0 (marks n) k = (k : Int) := by
  unfold at0 marks
  rw [List.getD_eq_getElem?_getD, List.getElem?_map, List.getElem?_range h]
  rfl
theorem mk_ex {n : Nat} {m : Int} {r r' : List Int} {ks : List Nat} (R : Ring n m r) (x : Ex n m r ks r') : Mk n m r r' (mkF n ks).1 (mkF n ks).2 := by
  have n2 := R.n2
  induction x with
  | nil =>
    refine ⟨marks_len n, Int.le_refl _, ?_, fun k hk => ?_, fun k hk => ?_, fun k h0 hk => ?_⟩
    · show at0 r 0 = (at0 r 0 + ((n : Int) - n)) % m
      rw [Int.sub_self, Int.add_zero, Int.emod_eq_of_lt (R.lo 0 (by omega)) (R.hi 0 (by omega))]
    · show 0 ≤ at0 (marks n) k ∧ at0 (marks n) k < (n : Int)
      rw [marks_at hk]
      omega
    · show at0 r k = due r n m (at0 (marks n) k)
      rw [marks_at hk]
      unfold due
      rw [if_neg (by omega), Int.toNat_natCast]
    · show HW.age n (at0 (marks n) k) ≤ HW.age n (at0 (marks n) (k - 1))
      rw [marks_at hk, marks_at (by omega)]
      unfold HW.age
      rw [if_neg (by omega), if_neg (by omega)]
      omega
  | @snoc ks r' k x hk hm ih =>
    have R' := x.ring R
    have hl : k < r'.length := by rw [R'.len]; exact hk
    obtain ⟨i1, i2, i3, i4, i5, i6⟩ := ih
    rw [mkF_snoc]
    unfold mkStep
    by_cases c : k = 0
    · subst c
      rw [if_pos rfl]
      have hs : ∀ j, at0 ((mkF n ks).1.set 0 (mkF n ks).2) j = if j = 0 then (mkF n ks).2 else at0 (mkF n ks).1 j := fun j => at0_set (by rw [i1]; exact hk)
      have em : at0 (HR.moved m r' 0) 0 = (at0 r 0 + ((mkF n ks).2 + 1 - n)) % m := by
        rw [at0_moved hl, if_pos rfl, if_pos rfl, i3, Int.emod_add_emod]
        congr 1
        omega
      refine ⟨by show ((mkF n ks).1.set 0 _).length = n; rw [List.length_set, i1], by show (n : Int) ≤ (mkF n ks).2 + 1; omega, em, fun j hj => ?_, fun j hj => ?_, fun j h0 hj => ?_⟩
      · show 0 ≤ at0 ((mkF n ks).1.set 0 _) j ∧ at0 ((mkF n ks).1.set 0 _) j < (mkF n ks).2 + 1
        rw [hs]
        split
        · omega
        · have := i4 j hj
          omega
      · show at0 (HR.moved m r' 0) j = due r n m (at0 ((mkF n ks).1.set 0 _) j)
        rw [hs]
        by_cases cj : j = 0
        · subst cj
          rw [if_pos rfl, em]
          unfold due
          rw [if_pos i2]
          congr 1
          omega
        · rw [if_neg cj, at0_moved hl, if_neg cj]
          exact i5 j hj
      · show HW.age n (at0 ((mkF n ks).1.set 0 _) j) ≤ HW.age n (at0 ((mkF n ks).1.set 0 _) (j - 1))
        rw [hs, hs, if_neg (by omega)]
        by_cases cj : j - 1 = 0
        · rw [if_pos cj]
          have := i4 j hj
          unfold HW.age
          rw [if_pos i2]
          split <;> omega
        · rw [if_neg cj]
          exact i6 j h0 hj
    · rw [if_neg c]
      have hs : ∀ j, at0 ((mkF n ks).1.set k (at0 (mkF n ks).1 (k - 1))) j = if j = k then at0 (mkF n ks).1 (k - 1) else at0 (mkF n ks).1 j := fun j => at0_set (by rw [i1]; exact hk)
      refine ⟨by show ((mkF n ks).1.set k _).length = n; rw [List.length_set, i1], i2, by rw [at0_moved hl, if_neg (by omega)]; exact i3, fun j hj => ?_, fun j hj => ?_, fun j h0 hj => ?_⟩
      · show 0 ≤ at0 ((mkF n ks).1.set k _) j ∧ at0 ((mkF n ks).1.set k _) j < (mkF n ks).2
        rw [hs]
        split
        · exact i4 _ (by omega)
        · exact i4 j hj
      · show at0 (HR.moved m r' k) j = due r n m (at0 ((mkF n ks).1.set k _) j)
        rw [hs, at0_moved hl]
        by_cases cj : j = k
        · rw [if_pos cj, if_pos cj, if_neg c]
          exact i5 _ (by omega)
        · rw [if_neg cj, if_neg cj]
          exact i5 j hj
      · show HW.age n (at0 ((mkF n ks).1.set k _) j) ≤ HW.age n (at0 ((mkF n ks).1.set k _) (j - 1))
        rw [hs, hs]
        by_cases cj : j = k
        · subst cj
          rw [if_pos rfl, if_neg (by omega)]
          exact Int.le_refl _
        · rw [if_neg cj]
          by_cases cj2 : j - 1 = k
          · rw [if_pos cj2]
            have e1 := i6 j h0 hj
            rw [cj2] at e1
            have e2 := i6 k (by omega) hk
            omega
          · rw [if_neg cj2]
            exact i6 j h0 hj
/-- value and mark of each machine -/
def prs (r fs : List Int) (n : Nat) : List (List Int) := (List.range n).map fun k => [at0 r k, at0 fs k]
theorem prs_len (r fs : List Int) (n : Nat) : (prs r fs n).length = n := by unfold prs; rw [List.length_map, List.length_range]
theorem prs_at {r fs : List Int} {n k : Nat} (h : k < n) : (prs r fs n)[k]? = some [at0 r k, at0 fs k] := by
  unfold prs
  rw [List.getElem?_map, List.getElem?_range h]
  rfl
theorem prs_set {r fs r2 fs2 : List Int} {n k : Nat} (hk : k < n) (h : ∀ j, j < n → j ≠ k → at0 r2 j = at0 r j ∧ at0 fs2 j = at0 fs j) : (prs r fs n).set k [at0 r2 k, at0 fs2 k] = prs r2 fs2 n := by
  refine List.ext_getElem? fun j => ?_
  rw [List.getElem?_set, prs_len]
  by_cases hj : j < n
  · by_cases e : k = j
    · subst e
      rw [if_pos rfl, if_pos hk, prs_at hk]
    · rw [if_neg e, prs_at hj, prs_at hj, (h j hj (fun q => e q.symm)).1, (h j hj (fun q => e q.symm)).2]
  · rw [if_neg (by omega), List.getElem?_eq_none (by rw [prs_len]; omega), List.getElem?_eq_none (by rw [prs_len]; omega)]
theorem Tups.len {K : PySem.W.Frag} {H : Hp} {xs : List V} {rs : List (List Int)} (h : Tups K H xs rs) : xs.length = rs.length := Paired.length h
theorem Tups.set {K : PySem.W.Frag} {H : Hp} : ∀ {xs : List V} {rs : List (List Int)} {p : Addr} {r : List Int} (k : Nat), Tups K H xs rs → SqT K H p (I r) → Tups K H (xs.set k (.ref p)) (rs.set k r)
  | _, _, _, _, _, .nil, _ => .nil
  | _, _, p, r, 0, .cons _ t, h => .cons ⟨p, rfl, h⟩ t
  | _, _, _, _, k + 1, .cons a t, h => .cons a (Tups.set k t h)
/-- [a tuple for i in range(n)] -/
theorem lc_rT {K : PySem.W.Frag} {n : Nat} {g : TG} {te : TE} {vs : List Nat} {σ : L2.St} {H1 : Hp} {D : Addr} {Qd : Hp → Prop} (rows : Nat → List Int) (hD : H1 D = none) (hn : n ≤ 1000)
    (hs : ∀ i H, i < n → Same H1 H → ∀ (Zc : V → Hp → Prop), (∀ H' p, Same H H' → SqT K H' p (I (rows i)) → Zc (.ref p) H') → g (.int (i : Int)) (wipe σ vs) H fun σ2 H2 => wipe σ2 vs = wipe σ vs ∧ te σ2 H2 Zc)
    (hd : ∀ H xs, Same H1 H → H D = some (.lst xs) → Tups K H xs ((List.range n).map rows) → Qd H) :
    ∃ W : Nat → Nat → Hp → Prop, (∃ m, W 0 m (upd H1 D (.lst []))) ∧ ∀ i m H, W i m H →
      ((Itr 0 n).stop i H ∧ Qd H) ∨ ((Itr 0 n).go i H ∧ ∃ Nx : Hp → Prop, (∀ H', Nx H' → ∃ m', m' < m ∧ W (i + 1) m' H') ∧ ∀ x H', (Itr 0 n).yld i H x H' → g x (wipe σ vs) H' fun σ2 H2 => wipe σ2 vs = wipe σ vs ∧ tYes σ2 H2 fun b H3 =>
        if b = true then te σ2 H3 fun y H4 => ∃ acc, H4 D = some (.lst acc) ∧ acc.length < sizeLine ∧ Nx (upd H4 D (.lst (acc ++ [y]))) else Nx H3) := by
  refine lc_range (lo := 0) (tt := tYes) (fun i H => Same H1 H ∧ ∃ xs, H D = some (.lst xs) ∧ xs.length = i ∧ Tups K H xs ((List.range i).map rows)) ⟨same_upd hD, [], upd_same, rfl, .nil⟩ (fun i H hi ⟨sm, xs, hx, hl, ht⟩ => ?_) fun H ⟨sm, xs, hx, hl, ht⟩ => hd H xs sm hx ht
  rw [Int.zero_add]
  refine hs i H hi sm _ fun H' p s' hp => ?_
  have hx' := s' _ _ hx
  refine ⟨_, hx', small1000 (by omega), fun b o e => ?_, _, upd_same, by rw [List.length_append, hl]; rfl, ?_⟩
  · rw [upd_ne (ne_of_none e hD)]
    exact s' _ _ (sm _ _ e)
  · rw [List.range_succ, List.map_append]
    exact Paired.snoc ((ht.of s').upd hx') ⟨p, rfl, tupUpd hx' hp⟩
/-- [v(i) for x in xs], xs a list -/
theorem lc_lm {K : PySem.W.Frag} {a : Addr} {xs : List V} {g : TG} {te : TE} {vs : List Nat} {σ : L2.St} {H1 : Hp} {D : Addr} {Qd : Hp → Prop} (v : Nat → V) (hD : H1 D = none) (hn : xs.length ≤ 1000) (hl : SqL K H1 a xs)
    (hs : ∀ i x H, xs[i]? = some x → Same H1 H → ∀ (Zc : V → Hp → Prop), (∀ H', Same H H' → Zc (v i) H') → g x (wipe σ vs) H fun σ2 H2 => wipe σ2 vs = wipe σ vs ∧ te σ2 H2 Zc)
    (hd : ∀ H, Same H1 H → H D = some (.lst ((List.range xs.length).map v)) → Qd H) :
    ∃ W : Nat → Nat → Hp → Prop, (∃ m, W 0 m (upd H1 D (.lst []))) ∧ ∀ i m H, W i m H →
      ((Itl K a).stop i H ∧ Qd H) ∨ ((Itl K a).go i H ∧ ∃ Nx : Hp → Prop, (∀ H', Nx H' → ∃ m', m' < m ∧ W (i + 1) m' H') ∧ ∀ x H', (Itl K a).yld i H x H' → g x (wipe σ vs) H' fun σ2 H2 => wipe σ2 vs = wipe σ vs ∧ tYes σ2 H2 fun b H3 =>
        if b = true then te σ2 H3 fun y H4 => ∃ acc, H4 D = some (.lst acc) ∧ acc.length < sizeLine ∧ Nx (upd H4 D (.lst (acc ++ [y]))) else Nx H3) := by
  refine lc_list (K := K) (a := a) (xs := xs) (tt := tYes) (fun i H => Same H1 H ∧ H D = some (.lst ((List.range i).map v))) ⟨same_upd hD, upd_same⟩ (fun i H _ p => p.1.seq hl) (fun i x H hi ⟨sm, hd⟩ => ?_) fun H ⟨sm, e⟩ => hd H sm e
  have hil := (List.getElem?_eq_some_iff.mp hi).1
  refine hs i x H hi sm _ fun H' s' => ?_
  refine ⟨_, s' _ _ hd, small1000 (by rw [List.length_map, List.length_range]; omega), fun b o e => ?_, ?_⟩
  · rw [upd_ne (ne_of_none e hD)]
    exact s' _ _ (sm _ _ e)
  · rw [upd_same, List.range_succ, List.map_append]
    rfl
theorem row_eq (r : List Int) : (List.range r.length).map (at0 r) = r := by
  refine List.ext_getElem? fun i => ?_
  rw [List.getElem?_map]
  by_cases h : i < r.length
  · rw [List.getElem?_range h, List.getElem?_eq_getElem h]
    show some (at0 r i) = _
    unfold at0
    rw [List.getD_eq_getElem?_getD, List.getElem?_eq_getElem h]
    rfl
  · rw [List.getElem?_eq_none (by rw [List.length_range]; omega), List.getElem?_eq_none (by omega)]
    rfl
theorem mapI (n : Nat) (g : Nat → Int) : (List.range n).map (fun i => V.int (g i)) = I ((List.range n).map g) := by
  unfold I
  rw [List.map_map]
  rfl
theorem at0_mem {l : List Int} {j : Nat} (h : j < l.length) : at0 l j ∈ l := by
  unfold at0
  rw [List.getD_eq_getElem?_getD, List.getElem?_eq_getElem h]
  exact List.getElem_mem h
end HW
namespace HW
open PySem PySem.Spec PyProof.Rows L2 HR
def orb (n k : Nat) : Nat → Nat
  | 0 => k
  | i + 1 => HR.nxt n (orb n k i)
theorem orb_mod {n k : Nat} (h : k < n) (i : Nat) : orb n k i = (k + i) % n := by
  induction i with
  | zero => exact (Nat.mod_eq_of_lt h).symm
  | succ i ih =>
    show HR.nxt n (orb n k i) = _
    have l : (k + i) % n < n := Nat.mod_lt _ (by omega)
    rw [ih, show k + (i + 1) = (k + i) + 1 from rfl, ← Nat.mod_add_mod (k + i) n 1]
    unfold HR.nxt
    split
    · rename_i e
      rw [e, Nat.mod_self]
    · exact (Nat.mod_eq_of_lt (by omega)).symm
theorem round_orb {n k : Nat} (h : k < n) (t : Nat) : (List.range n).map (fun i => orb n k (t * n + i)) = roundOf n k := by
  unfold roundOf
  refine List.ext_getElem ?_ fun i h1 h2 => ?_
  · rw [List.length_map, List.length_range, List.length_append, List.length_range', List.length_range]
    omega
  · rw [List.length_map, List.length_range] at h1
    rw [List.getElem_map, List.getElem_range, orb_mod h, show k + (t * n + i) = (k + i) + n * t by rw [Nat.mul_comm]; omega, Nat.add_mul_mod_self_left]
    by_cases c : i < n - k
    · rw [List.getElem_append_left (by rw [List.length_range']; exact c), List.getElem_range', Nat.mod_eq_of_lt (by omega)]
      omega
    · rw [List.getElem_append_right (by rw [List.length_range']; omega), List.getElem_range, List.length_range', Nat.mod_eq_sub_mod (by omega), Nat.mod_eq_of_lt (by omega)]
      omega
theorem orbs_two (n k : Nat) (h : k < n) : (List.range (2 * n)).map (orb n k) = roundOf n k ++ roundOf n k := by
  rw [Nat.two_mul, List.range_add, List.map_append, List.map_map]
  have e1 := round_orb h 0
  have e2 := round_orb h 1
  simp only [Nat.zero_mul, Nat.zero_add, Nat.one_mul] at e1 e2
  congr 1
theorem round_len (n k : Nat) (h : k < n) : (roundOf n k).length = n := by
  unfold roundOf
  rw [List.length_append, List.length_range', List.length_range]
  omega
theorem cut_take (xs : List V) (k : Nat) (h : k ≤ xs.length) : cutV xs none (some (k : Int)) = xs.take k := by
  unfold cutV
  rw [HT.sIx_none, HT.sIx_nat, Nat.min_eq_left h, List.drop_zero, Nat.sub_zero]
theorem cut_drop (xs : List V) (k : Nat) (h : k ≤ xs.length) : cutV xs (some (k : Int)) none = xs.drop k := by
  unfold cutV
  rw [HT.sIx_none, HT.sIx_nat, Nat.min_eq_left h]
  exact List.take_of_length_le (by rw [List.length_drop]; exact Nat.le_refl _)
theorem ex_inv {n : Nat} {m : Int} {r r2 : List Int} {ks : List Nat} {k : Nat} (x : Ex n m r (ks ++ [k]) r2) : ∃ r', Ex n m r ks r' ∧ k < n ∧ may r' k = true ∧ r2 = HR.moved m r' k := by
  generalize e : ks ++ [k] = l at x
  cases x with
  | nil => exact absurd e (by simp)
  | snoc x hk hm =>
    obtain ⟨e1, e2⟩ := List.append_inj' e rfl
    cases e2
    subst e1
    exact ⟨_, x, hk, hm, rfl⟩
theorem ex_take {n : Nat} {m : Int} {r r2 : List Int} {ks : List Nat} (x : Ex n m r ks r2) (i : Nat) : ∃ r', Ex n m r (ks.take i) r' := by
  induction x with
  | nil => exact ⟨r, by rw [List.take_nil]; exact .nil⟩
  | @snoc ks r' k x hk hm ih =>
    by_cases c : i ≤ ks.length
    · rw [List.take_append_of_le_length c]
      exact ih
    · rw [List.take_of_length_le (by rw [List.length_append]; show ks.length + 1 ≤ i; omega)]
      exact ⟨_, x.snoc hk hm⟩
theorem ex_det {n : Nat} {m : Int} {r a b : List Int} {ks : List Nat} (x : Ex n m r ks a) : Ex n m r ks b → a = b := by
  induction x generalizing b with
  | nil =>
    intro y
    generalize e : ([] : List Nat) = l at y
    cases y with
    | nil => rfl
    | snoc _ _ _ => exact absurd e (by simp)
  | snoc x hk hm ih =>
    intro y
    obtain ⟨r', y1, _, _, e⟩ := ex_inv y
    rw [e, ih y1]
theorem ex_step {n : Nat} {m : Int} {r r1 r2 : List Int} {ks : List Nat} {i : Nat} (x : Ex n m r ks r2) (hi : i < ks.length) (a : Ex n m r (ks.take i) r1) : ks[i] < n ∧ may r1 ks[i] = true := by
  obtain ⟨r', y⟩ := ex_take x (i + 1)
  rw [List.take_succ_eq_append_getElem hi] at y
  obtain ⟨r3, z, hk, hm, _⟩ := ex_inv y
  rw [ex_det a z]
  exact ⟨hk, hm⟩
end HW
namespace HW
open PySem PySem.Spec PyProof.Rows L2 HR
/-- [v for x in xs if f], by places -/
theorem lc_lf {K : PySem.W.Frag} {a : Addr} {xs : List V} {g : TG} {tt : TT} {te : TE} {vs : List Nat} {σ : L2.St} {H1 : Hp} {D : Addr} {Qd : Hp → Prop} (f : Nat → Bool) (v : Nat → V) (hD : H1 D = none) (hn : xs.length ≤ 1000) (hl : SqL K H1 a xs)
    (hs : ∀ i x H, xs[i]? = some x → Same H1 H → ∀ (Zc : V → Hp → Prop) (M : Hp → Prop), (f i = true → ∀ H', Same H H' → Zc (v i) H') → (f i = false → ∀ H', Same H H' → M H') →
      g x (wipe σ vs) H fun σ2 H2 => wipe σ2 vs = wipe σ vs ∧ tt σ2 H2 fun b H3 => if b = true then te σ2 H3 Zc else M H3)
    (hd : ∀ H, Same H1 H → H D = some (.lst (kept f v xs.length)) → Qd H) :
    ∃ W : Nat → Nat → Hp → Prop, (∃ m, W 0 m (upd H1 D (.lst []))) ∧ ∀ i m H, W i m H →
      ((Itl K a).stop i H ∧ Qd H) ∨ ((Itl K a).go i H ∧ ∃ Nx : Hp → Prop, (∀ H', Nx H' → ∃ m', m' < m ∧ W (i + 1) m' H') ∧ ∀ x H', (Itl K a).yld i H x H' → g x (wipe σ vs) H' fun σ2 H2 => wipe σ2 vs = wipe σ vs ∧ tt σ2 H2 fun b H3 =>
        if b = true then te σ2 H3 fun y H4 => ∃ acc, H4 D = some (.lst acc) ∧ acc.length < sizeLine ∧ Nx (upd H4 D (.lst (acc ++ [y]))) else Nx H3) := by
  refine lc_list (K := K) (a := a) (xs := xs) (fun i H => Same H1 H ∧ H D = some (.lst (kept f v i))) ⟨same_upd hD, upd_same⟩ (fun i H _ p => p.1.seq hl) (fun i x H hi ⟨sm, hd⟩ => ?_) fun H ⟨sm, e⟩ => hd H sm e
  have hil := (List.getElem?_eq_some_iff.mp hi).1
  refine hs i x H hi sm _ _ (fun hf H' s' => ?_) fun hf H' s' => ?_
  · refine ⟨_, s' _ _ hd, small1000 (Nat.le_trans (kept_len f v i) (by omega)), fun b o e => ?_, ?_⟩
    · rw [upd_ne (ne_of_none e hD)]
      exact s' _ _ (sm _ _ e)
    · rw [upd_same, kept_yes hf]
  · refine ⟨sm.trans s', ?_⟩
    rw [kept_no hf]
    exact s' _ _ hd
theorem count_Z (j : Nat) : ∀ ks : List Nat, (Z ks).count ((j : Nat) : Int) = ks.count j
  | [] => rfl
  | a :: l => by
    have ih := count_Z j l
    unfold Z at ih ⊢
    rw [List.map_cons, List.count_cons, List.count_cons, ih]
    by_cases e : a = j
    · subst e; simp
    · have : ¬ (a : Int) = (j : Int) := by omega
      simp [e, this]
theorem counts_at {n j : Nat} (ks : List Nat) (h : j < n) : at0 (counts (Z ks) n) j = ((ks.count j : Nat) : Int) := by
  unfold at0 counts
  rw [List.getD_eq_getElem?_getD, List.getElem?_map, List.getElem?_range h, ← count_Z]
  rfl
theorem heal_un {n : Nat} {m : Int} {r : List Int} (R : Ring n m r) (hm : (n : Int) ≤ m) (qs : List Int) : ∀ (u : Nat) (o : List Nat) (r' : List Int) (t : Nat), Un n m r o r' → u = most n - o.length →
    ∃ r2, Un n m r (healA m qs o r' t u) r2 ∧ (able r2).length = 1
  | 0, o, r', t, x, e => by
    refine ⟨r', x, Classical.byContradiction fun ne => ?_⟩
    have rl := (x.ex.ring R).len
    have n2 := R.n2
    obtain ⟨y, hy⟩ : ∃ y, y ∈ able r' := ⟨_, List.getElem_mem (able_pos (r := r') (by omega))⟩
    obtain ⟨y1, y2⟩ := mem_able.mp hy
    have b := (x.snoc (by omega) y2 ne).bound R hm
    rw [List.length_append] at b
    have b : o.length + 1 ≤ most n := b
    omega
  | u + 1, o, r', t, x, e => by
    rw [healA_succ]
    have rl := (x.ex.ring R).len
    have n2 := R.n2
    by_cases one : (able r').length = 1
    · rw [if_pos one]
      exact ⟨r', x, one⟩
    · rw [if_neg one]
      obtain ⟨y1, y2⟩ := mem_able.mp (nextOf_mem (r := r') (ns := qs) t (by omega))
      refine heal_un R hm qs u _ _ _ (x.snoc (by omega) y2 one) ?_
      rw [List.length_append]
      show u = most n - (o.length + 1)
      omega
theorem Z_snoc (ks : List Nat) (k : Nat) (zs : List Int) : Z (ks ++ [k]) ++ zs = Z ks ++ ((k : Int) :: zs) := by
  unfold Z
  rw [List.map_append, List.append_assoc]
  rfl
/-- the rings on the way -/
theorem gone_un {n : Nat} {m : Int} {r r' : List Int} {o : List Nat} (R : Ring n m r) (x : Un n m r o r') : ∃ rs : List (List Int), rs.length = o.length ∧ (∀ y ∈ rs, Ring n m y ∧ (able y).length ≠ 1) ∧ ∀ zs, goneA m [r] r (Z o ++ zs) = goneA m (rs ++ [r']) r' zs := by
  induction x with
  | nil => exact ⟨[], rfl, fun y hy => by (cases hy), fun zs => rfl⟩
  | @snoc ks r' k x hk hm one ih =>
    obtain ⟨rs, h1, h2, h3⟩ := ih
    have R' := x.ex.ring R
    refine ⟨rs ++ [r'], by rw [List.length_append, List.length_append, h1]; rfl, fun y hy => ?_, fun zs => ?_⟩
    · rcases List.mem_append.mp hy with h | h
      · exact h2 y h
      · rw [List.mem_singleton.mp h]
        exact ⟨R', one⟩
    · rw [Z_snoc, h3, goneA_cons, stepR_yes (by rw [R'.len]; exact hk) hm]
theorem sIx_m1 (n d : Nat) (h : 0 < n) : HT.sIx n d (some (-1)) = n - 1 := by
  unfold HT.sIx
  simp only [show (-1 : Int) < 0 by decide, if_true]
  omega
theorem cut_init (xs : List V) (h : 0 < xs.length) : cutV xs none (some (-1)) = xs.take (xs.length - 1) := by
  unfold cutV
  rw [HT.sIx_none, sIx_m1 _ _ h, List.drop_zero, Nat.sub_zero]
end HW
namespace HW
open PySem PySem.Spec PyProof.Rows L2 HR
theorem nxt_mod {n j : Nat} (h : j < n) : ((j : Nat) : Int) + 1 - (n : Int) * 0 = ((j : Nat) : Int) + 1 ∧ (((j : Nat) : Int) + 1) % (n : Int) = ((HR.nxt n j : Nat) : Int) := by
  refine ⟨by omega, ?_⟩
  unfold HR.nxt
  split
  · rename_i q
    rw [show ((j : Nat) : Int) + 1 = (n : Int) by omega, Int.emod_self]
    rfl
  · rw [Int.emod_eq_of_lt (by omega) (by omega)]
    omega
theorem orb_lt {n k : Nat} (h : k < n) (i : Nat) : orb n k i < n := by
  rw [orb_mod h]
  exact Nat.mod_lt _ (by omega)
theorem orbs_three (n k : Nat) (h : k < n) : (List.range (3 * n)).map (orb n k) = roundOf n k ++ roundOf n k ++ roundOf n k := by
  rw [show 3 * n = 2 * n + n by omega, List.range_add, List.map_append, List.map_map, orbs_two n k h]
  congr 1
  exact round_orb h 2
theorem draws_orb {n : Nat} {m : Int} {r : List Int} {k : Nat} (R : Ring n m r) (hk : able r = [k]) (qs : List Int) : ∀ t, (draws m qs r t).1 = (List.range t).map (orb n k) ∧ able (draws m qs r t).2 = [orb n k t] ∧ Ring n m (draws m qs r t).2
  | 0 => ⟨rfl, hk, R⟩
  | t + 1 => by
    obtain ⟨h1, h2, h3⟩ := draws_orb R hk qs t
    obtain ⟨o1, o2, o3⟩ := able_moved_one h3 h2
    have e : nextOf (draws m qs r t).2 qs t = orb n k t := by
      have := nextOf_mem (r := (draws m qs r t).2) (ns := qs) t (by rw [h3.len]; omega)
      rw [h2] at this
      exact List.mem_singleton.mp this
    refine ⟨?_, ?_, ?_⟩
    · show (draws m qs r t).1 ++ [nextOf (draws m qs r t).2 qs t] = _
      rw [e, h1, List.range_succ, List.map_append]
      rfl
    · show able (HR.moved m (draws m qs r t).2 (nextOf (draws m qs r t).2 qs t)) = _
      rw [e]
      exact o1
    · show Ring n m (HR.moved m (draws m qs r t).2 (nextOf (draws m qs r t).2 qs t))
      rw [e]
      exact h3.moved o2
theorem gone_orb {n : Nat} {m : Int} {r : List Int} {k : Nat} (R : Ring n m r) (hk : able r = [k]) : ∀ t, ∃ (rs : List (List Int)) (r' : List Int), rs.length = t ∧ (∀ y ∈ rs, Ring n m y ∧ (able y).length = 1) ∧ Ring n m r' ∧ able r' = [orb n k t] ∧ ∀ zs, goneA m [r] r (Z ((List.range t).map (orb n k)) ++ zs) = goneA m (rs ++ [r']) r' zs
  | 0 => ⟨[], r, rfl, fun y hy => (by cases hy), R, hk, fun zs => rfl⟩
  | t + 1 => by
    obtain ⟨rs, r', h1, h2, h3, h4, h5⟩ := gone_orb R hk t
    obtain ⟨o1, o2, o3⟩ := able_moved_one h3 h4
    refine ⟨rs ++ [r'], _, by rw [List.length_append, h1]; rfl, fun y hy => ?_, h3.moved o2, o1, fun zs => ?_⟩
    · rcases List.mem_append.mp hy with h | h
      · exact h2 y h
      · rw [List.mem_singleton.mp h]
        exact ⟨h3, by rw [h4]; rfl⟩
    · rw [List.range_succ, List.map_append]
      show goneA m [r] r (Z ((List.range t).map (orb n k) ++ [orb n k t]) ++ zs) = _
      rw [Z_snoc, h5, goneA_cons, stepR_yes (by rw [h3.len]; exact o2) o3]
theorem sort_round {n k : Nat} (h : k < n) {ns : List Int} (hp : ns.Perm (Z (roundOf n k))) (hs : ns.Pairwise (· ≤ ·)) : ns = Z (List.range n) := by
  refine List.Perm.eq_of_pairwise (fun a b _ _ h1 h2 => Int.le_antisymm h1 h2) hs ?_ (hp.trans ?_)
  · unfold Z
    rw [List.pairwise_map]
    exact List.pairwise_le_range.imp fun h => by omega
  · unfold Z
    refine List.Perm.map _ ?_
    unfold roundOf
    refine List.perm_append_comm.trans ?_
    rw [List.range_eq_range', List.range_eq_range']
    have e := List.range'_append_1 (s := 0) (m := k) (n := n - k)
    rw [Nat.zero_add, show k + (n - k) = n by omega] at e
    rw [e]
end HW
namespace HW
open PySem PySem.Spec PyProof.Rows L2 HR
theorem at0_map {t : Nat} (g : Nat → Nat) {i : Nat} (h : i < t) : at0 (Z ((List.range t).map g)) i = ((g i : Nat) : Int) := by
  unfold at0 Z
  rw [List.getD_eq_getElem?_getD, List.map_map, List.getElem?_map, List.getElem?_range h]
  rfl
theorem rgV0 (n : Nat) : rgV 0 (n : Int) = I (Z (List.range n)) := by
  unfold rgV I Z
  rw [List.map_map, Int.sub_zero, Int.toNat_natCast]
  refine List.map_congr_left fun i _ => ?_
  show V.int (0 + (i : Int)) = V.int (i : Int)
  rw [Int.zero_add]
theorem three_times (l : List Nat) : (List.replicate (3 : Int).toNat (N l)).flatten = I (Z (l ++ l ++ l)) := by
  show [N l, N l, N l].flatten = _
  rw [← N_Z]
  unfold N
  simp [List.flatten]
end HW
namespace HW
open PySem PySem.Spec PyProof.Rows L2 HR
theorem holds_ints {h : Heap} : ∀ {ns : List Int} {its : List Value}, Vals (I ns) its → PySem.W.HoldAll h its ns
  | [], _, r => by
    cases r
    exact .nil
  | z :: ns, _, r => by
    cases r with
    | cons r rs =>
      obtain ⟨t, rfl⟩ := r
      exact .cons ⟨_, .int z t⟩ (holds_ints rs)
theorem minOf_is (x : Int) : ∀ xs : List Int, PySem.W.minOf x xs ∈ x :: xs ∧ ∀ y ∈ x :: xs, PySem.W.minOf x xs ≤ y
  | [] => ⟨List.mem_cons_self, fun y hy => by rw [List.mem_singleton.mp hy]; exact Int.le_refl _⟩
  | z :: xs => by
    have e : PySem.W.minOf x (z :: xs) = PySem.W.minOf (if decide (z < x) = true then z else x) xs := rfl
    rw [e]
    by_cases c : z < x
    · rw [if_pos (decide_eq_true c)]
      obtain ⟨h1, h2⟩ := minOf_is z xs
      refine ⟨List.mem_cons_of_mem _ h1, fun y hy => ?_⟩
      rcases List.mem_cons.mp hy with h | h
      · have := h2 z List.mem_cons_self
        omega
      · exact h2 y h
    · rw [if_neg (by simpa using c)]
      obtain ⟨h1, h2⟩ := minOf_is x xs
      refine ⟨?_, fun y hy => ?_⟩
      · rcases List.mem_cons.mp h1 with h | h
        · rw [h]; exact List.mem_cons_self
        · exact List.mem_cons_of_mem _ (List.mem_cons_of_mem _ h)
      · rcases List.mem_cons.mp hy with h | h
        · rw [h]; exact h2 x List.mem_cons_self
        · rcases List.mem_cons.mp h with h | h
          · have := h2 x List.mem_cons_self
            omega
          · exact h2 y (List.mem_cons_of_mem _ h)
theorem maxOf_is (x : Int) : ∀ xs : List Int, PySem.W.maxOf x xs ∈ x :: xs ∧ ∀ y ∈ x :: xs, y ≤ PySem.W.maxOf x xs
  | [] => ⟨List.mem_cons_self, fun y hy => by rw [List.mem_singleton.mp hy]; exact Int.le_refl _⟩
  | z :: xs => by
    have e : PySem.W.maxOf x (z :: xs) = PySem.W.maxOf (if decide (x < z) = true then z else x) xs := rfl
    rw [e]
    by_cases c : x < z
    · rw [if_pos (decide_eq_true c)]
      obtain ⟨h1, h2⟩ := maxOf_is z xs
      refine ⟨List.mem_cons_of_mem _ h1, fun y hy => ?_⟩
      rcases List.mem_cons.mp hy with h | h
      · have := h2 z List.mem_cons_self
        omega
      · exact h2 y h
    · rw [if_neg (by simpa using c)]
      obtain ⟨h1, h2⟩ := maxOf_is x xs
      refine ⟨?_, fun y hy => ?_⟩
      · rcases List.mem_cons.mp h1 with h | h
        · rw [h]; exact List.mem_cons_self
        · exact List.mem_cons_of_mem _ (List.mem_cons_of_mem _ h)
      · rcases List.mem_cons.mp hy with h | h
        · rw [h]; exact h2 x List.mem_cons_self
        · rcases List.mem_cons.mp h with h | h
          · have := h2 x List.mem_cons_self
            omega
          · exact h2 y (List.mem_cons_of_mem _ h)
section
variable {X : Cx}
/-- min(t), max(t), t a tuple of ints -/
def rMinT (K : PySem.W.Frag) : List V → Hp → VK → Prop := fun vs H Q => ∃ (a : Addr) (ns : List Int), vs = [.ref a] ∧ SqT K H a (I ns) ∧ 0 < ns.length ∧ ∀ m, m ∈ ns → (∀ y, y ∈ ns → m ≤ y) → Q (.int m) H
def rMaxT (K : PySem.W.Frag) : List V → Hp → VK → Prop := fun vs H Q => ∃ (a : Addr) (ns : List Int), vs = [.ref a] ∧ SqT K H a (I ns) ∧ 0 < ns.length ∧ ∀ m, m ∈ ns → (∀ y, y ∈ ns → y ≤ m) → Q (.int m) H
theorem cr_minT (hc : X.calm = true) (hu : X.A.units + 64 < cLine) : CallR X (.builtin "min") (rMinT X.K) := by
  intro pins s σ H vs us Q I r h
  obtain ⟨a, ns, rfl, hs, hne, q⟩ := h
  obtain ⟨its, rv, hl, _⟩ := I.tuple hs
  rw [Vals.ref1 r]
  cases ns with
  | nil => exact absurd hne (by simp)
  | cons x xs =>
    have e := minOf_is x xs
    refine PySem.W.min_tuple_datum (α := Int) (x := x) (xs := xs) (I.ok.hd hc) hl (show PySem.W.HoldAll s.heap its (x :: xs) from holds_ints rv) (by show X.A.units + 1 + 0 < cLine; omega) fun i v h' tk hi hv hk => ?_
    obtain ⟨as, hr⟩ := hv
    cases hr with
    | int _ t => exact ⟨.int _, H, I.kept hk, ⟨_, rfl⟩, q _ e.1 e.2⟩
theorem cr_maxT (hc : X.calm = true) (hu : X.A.units + 64 < cLine) : CallR X (.builtin "max") (rMaxT X.K) := by
  intro pins s σ H vs us Q I r h
  obtain ⟨a, ns, rfl, hs, hne, q⟩ := h
  obtain ⟨its, rv, hl, _⟩ := I.tuple hs
  rw [Vals.ref1 r]
  cases ns with
  | nil => exact absurd hne (by simp)
  | cons x xs =>
    have e := maxOf_is x xs
    refine PySem.W.max_tuple_datum (α := Int) (x := x) (xs := xs) (I.ok.hd hc) hl (show PySem.W.HoldAll s.heap its (x :: xs) from holds_ints rv) (by show X.A.units + 1 + 0 < cLine; omega) fun i v h' tk hi hv hk => ?_
    obtain ⟨as, hr⟩ := hv
    cases hr with
    | int _ t => exact ⟨.int _, H, I.kept hk, ⟨_, rfl⟩, q _ e.1 e.2⟩
end
end HW
namespace HW
open PySem PySem.Spec PyProof.Rows L2 HR
theorem pi_range1H {X : Cx} {tg a : Expr} {ta : TA} {p pos : Pos} (hg : Gl X "range") (hm : X.mg "range" = none) (ha : PA X [a] ta) (hs : starEach [a] X.env = [(false, eval a X.env)] := by rfl) :
    L2H.PIH X tg (.Call (.Name "range" p) [a] [] pos) (iRng1 ta) := by
  refine ⟨fun pins s σ H R I h => ?_⟩
  refine Call_ (ld_blt I hg hm boot_range (PyProof.Rows.callWith_type1 (thn (ha.run pos pins s σ H _ I h) fun us s1 ⟨vs, H1, I1, r1, q1⟩ => ?_) hs rfl))
  obtain ⟨j, e, q1, q2, q⟩ := q1
  subst e
  cases r1 with
  | cons r rr =>
    cases rr
    obtain ⟨t, rfl⟩ := r
    exact call_range_1 (L2H.range_itH I1 (by omega) (by omega) q1 q2 (by simpa using q))
theorem cutI_len (r : List Int) (lo hi : Option Int) : ∃ s : List Int, cutV (I r) lo hi = I s ∧ s.length ≤ r.length := by
  obtain ⟨s, e⟩ := cut_I r lo hi
  refine ⟨s, e, ?_⟩
  have := cutV_length (I r) lo hi
  rw [e, len_I, len_I] at this
  exact this
end HW
namespace HW
open PySem PySem.Spec PyProof.Rows L2 HR
open Sem (wp)
section
variable {prog : Program} {w : World} {A : Around} {E : Value → Shared → Prop} {s : Shared}
/-- hash(None) -/
theorem hash_none {Q : Int → Shared → Prop} (h : ∀ tk, Q 0xFCA86420 { s with toks := tk }) : wpAny (model prog w) A (PySem.pyHash .none) Q E s := by
  unfold PySem.pyHash
  show wpAny _ _ (pyHashByItsType .none) Q E s
  unfold pyHashByItsType
  have hv : [Value.none].any Value.onHeap = false := rfl
  refine wpAny_bind ?_
  rw [cRoomFor, if_neg (by rw [hv]; exact Bool.false_ne_true)]; refine wpAny_pure ?_
  refine wpAny_bind (wpAny_specialOf (typeIs_none s) PySem.F.slot_NoneType_hash.lookup ?_)
  show wpAny _ _ (if (some (Value.builtin "NoneType.__hash__") == some Value.none) = true then _ else _) Q E s
  rw [if_neg (by rw [beq_builtin_none]; exact Bool.false_ne_true)]
  refine wpAny_bind (wpAny_specialOf (typeIs_none s) PySem.F.slot_NoneType_hash.lookup ?_)
  show wpAny _ _ (callSpecialIfBoundUnlessNone? .none "__hash__" _ >>= _) Q E s
  refine wpAny_bind (wpAny_callSpecialIfBoundUnlessNone?_slot (typeIs_none s) PySem.F.slot_NoneType_hash
    (wpAny_call_entry PySem.F.slot_NoneType_hash (typeIs_none s) PySem.F.entry_NoneType_hash ?_ (PySem.F.args_NoneType_hash_1 _)))
  show wpAny _ _ (do ret (← mkInt 0xFCA86420)) _ _ s
  refine wpAny_ret_mkInt ?_
  show wpAny _ _ (if (decide (-(2 : Int) ^ 63 ≤ 0xFCA86420) && decide ((0xFCA86420 : Int) < 2 ^ 63)) = true then _ else _) Q E _
  rw [if_pos (by decide)]
  exact wpAny_pure (h _)
end
end HW
namespace HW
open PySem PySem.Spec PyProof.Rows L2 HR
section
variable {prog : Program} {w : World} {A : Around} {E : Value → Shared → Prop} {s : Shared}
theorem reads_ints {h : Heap} : ∀ {r : List Int} {vs : List Value}, ItemsAre (mixKind prog w) (r.map Sum.inl) vs → ∃ as, ReadsAll h vs (r.map PyData.int) as
  | [], _, x => by
    cases x
    exact ⟨_, .nil⟩
  | z :: r, _, x => by
    cases x with
    | cons k ks =>
      obtain ⟨as, ra⟩ := reads_ints (h := h) ks
      rcases keyIs_shape (show keyIs (Sum.inl z) _ = true from k) with ⟨i, t, e1, e2⟩ | ⟨y, t, e1, _⟩
      · cases e1
        rw [e2]
        exact ⟨_, .cons (.int _ t) ra⟩
      · cases e1
theorem lay_ints : ∀ r : List Int, PyData.canLayAll0 (r.map PyData.int) = true
  | [] => by simp [PyData.canLayAll0]
  | z :: r => by
    rw [List.map_cons, PyData.canLayAll0, lay_ints r]
    simp [PyData.canLay0]
theorem eq_tup_none {b : Addr} {r : List Int} {Q : Bool → Shared → Prop} (hu : A.units + 1 < cLine) (hk : (tupleKind (mixKind prog w)).is s.heap (r.map Sum.inl) b) (h : Q false s) : wpAny (model prog w) A (eqBool (.ref b) .none) Q E s := by
  obtain ⟨o, items, n, h1, h2, h3, h4⟩ := hk
  obtain ⟨as, ra⟩ := reads_ints (h := s.heap) h4
  refine PySem.SeqAt.eqBoolOverData prog w A E s _ _ (.tuple (r.map PyData.int)) .none _ _ Q (.tuple h1 h2 h3 ra) .none (by simp only [PyData.canLay0]; exact lay_ints r) (by simp [PyData.canLay0]) ?_ ?_
  · have : min (PyData.tuple (r.map PyData.int)).depth PyData.none.depth ≤ 1 := Nat.le_trans (Nat.min_le_right _ _) (by simp [PyData.depth])
    omega
  · have e : PyData.eqv (.tuple (r.map PyData.int)) .none = false := by simp [PyData.eqv]
    rw [e]
    exact h
theorem find_none {d : Addr} {o : Obj} {es ep} {xs : List (List Key × Addr × Value)} {hh : Int} {Q : Option Nat → Shared → Prop} (hu : A.units + 1 < cLine)
    (ho : s.heap.get? d = some o) (hd : o.data = .dict es ep) (he : es.toList = xs.map (entryOfKey (tupleKind (mixKind prog w)))) (his : ∀ x ∈ xs, (tupleKind (mixKind prog w)).is s.heap x.1 x.2.1) (hk : ∀ x ∈ xs, ∃ r : List Int, x.1 = r.map Sum.inl) (h : Q none s) :
    wpAny (model prog w) A (dictFind d .none hh) Q E s := by
  have hmem : ∀ e ∈ es, ∃ x ∈ xs, e = entryOfKey (tupleKind (mixKind prog w)) x := by
    intro e hin
    have : e ∈ xs.map (entryOfKey (tupleKind (mixKind prog w))) := he ▸ Array.mem_toList_iff.mpr hin
    obtain ⟨x, hx, rfl⟩ := List.mem_map.mp this
    exact ⟨x, hx, rfl⟩
  have hst : ∀ v ∈ (placesWithHash es.size (fun i => es[i]?.map (·.hash)) hh).filterMap (fun i => es[i]?.map (·.key)), ∃ k' b, v = .ref b ∧ (tupleKind (mixKind prog w)).is s.heap k' b := by
    intro v hv
    obtain ⟨i, _, hi⟩ := List.mem_filterMap.mp hv
    cases hei : es[i]? with
    | none => rw [hei] at hi; cases hi
    | some e =>
      rw [hei] at hi
      obtain rfl : e.key = v := by simpa using hi
      obtain ⟨x, hx, rfl⟩ := hmem e (Array.mem_of_getElem? hei)
      exact ⟨x.1, x.2.1, rfl, his x hx⟩
  have one : ∀ (i : Nat) (e : DictEntry), es[i]? = some e → ∀ {Z : Bool → Shared → Prop}, Z false s → wpAny (model prog w) A (eqBool e.key .none) Z E s := fun i e hei Z hz => by
    obtain ⟨x, hx, rfl⟩ := hmem e (Array.mem_of_getElem? hei)
    obtain ⟨r, er⟩ := hk x hx
    have q := his x hx
    rw [er] at q
    exact eq_tup_none hu q hz
  unfold dictFind
  try with_reducible refine wpAny_holding ?_
  refine wpAny_bind (wpAny_dictEntries ho hd ?_)
  dsimp only
  by_cases hc : ((Value.none :: (placesWithHash es.size (fun i => es[i]?.map (·.hash)) hh).filterMap (fun i => es[i]?.map (·.key))).all carriedByValue) = true
  · rw [if_pos hc]
    refine wpAny_bind ?_
    refine wpAny_forIn_list _ (fun rest r s' => s' = s ∧ r = (none, ())) _ ?_ ?_ _ _ ⟨rfl, rfl⟩
    · rintro x rest r s' ⟨rfl, rfl⟩
      cases hei : es[x]? with
      | none => exact wpAny_pure ⟨rfl, rfl⟩
      | some e =>
        dsimp only
        by_cases he2 : (e.hash == hh) = true
        · rw [if_pos he2]
          refine wpAny_bind (wpAny_dictEpoch ho hd (wpAny_bind (one x e hei (wpAny_bind (wpAny_dictEpoch ho hd ?_)))))
          show wpAny _ _ (if (ep != ep) = true then _ else _) _ E _
          rw [if_neg (by simp)]
          simp only [Bool.false_eq_true, if_false]
          exact wpAny_bind (wpAny_rule (wpAny_pure ⟨rfl, rfl⟩))
        · rw [if_neg he2]
          exact wpAny_pure ⟨rfl, rfl⟩
    · rintro r s' ⟨rfl, rfl⟩
      exact wpAny_pure h
  · rw [if_neg hc]
    have ne : ¬ ((placesWithHash es.size (fun i => es[i]?.map (·.hash)) hh).filterMap (fun i => es[i]?.map (·.key)) == [Value.none]) = true := fun q => by
      have q := eq_of_beq q
      obtain ⟨_, _, q2, _⟩ := hst .none (by rw [q]; exact List.mem_cons_self)
      cases q2
    rw [if_neg ne]
    have tell : ∀ {Z : Bool → Shared → Prop}, Z false s → wpAny (model prog w) A (tableMayTell .none ((placesWithHash es.size (fun i => es[i]?.map (·.hash)) hh).filterMap (fun i => es[i]?.map (·.key)))) Z E s := fun hz => by
      unfold tableMayTell
      split
      · exact wpAny_pure hz
      · rw [eqIsQuiet_byValue _ (show carriedByValue .none = true from rfl)]
        refine wpAny_bind (wpAny_pure ?_)
        simp only [Bool.not_true, Bool.false_eq_true, if_false]
        refine wpAny_bind ?_
        refine wpAny_forIn_list _ (fun rest r s' => s' = s ∧ r = (none, ()) ∧ ∀ v ∈ rest, ∃ k' b, v = .ref b ∧ (tupleKind (mixKind prog w)).is s.heap k' b) _ ?_ ?_ _ _ ⟨rfl, rfl, hst⟩
        · rintro x rest r s' ⟨rfl, rfl, hr⟩
          obtain ⟨k', b, rfl, hb⟩ := hr x List.mem_cons_self
          refine wpAny_bind ((tupleKind (mixKind prog w)).quiet hb ?_)
          simp only [Bool.not_true, Bool.false_eq_true, if_false]
          exact wpAny_pure ⟨rfl, rfl, fun v hv => hr v (List.mem_cons_of_mem _ hv)⟩
        · rintro r s' ⟨rfl, rfl, _⟩
          exact wpAny_pure hz
    refine wpAny_bind (tell ?_)
    rw [if_neg (by simp)]
    refine wpAny_bind ?_
    refine wpAny_forIn_list _ (fun rest r s' => s' = s ∧ r = (none, none)) _ ?_ ?_ _ _ ⟨rfl, rfl⟩
    · rintro x rest r s' ⟨rfl, rfl⟩
      cases hei : es[x]? with
      | none => exact wpAny_pure ⟨rfl, rfl⟩
      | some e =>
        dsimp only
        by_cases he2 : (e.hash == hh) = true
        · rw [if_pos he2]
          refine wpAny_bind (wpAny_dictEpoch ho hd (wpAny_bind (one x e hei (wpAny_bind (wpAny_dictEpoch ho hd ?_)))))
          show wpAny _ _ (if (ep != ep) = true then _ else _) _ E _
          rw [if_neg (by simp)]
          simp only [Bool.false_eq_true, if_false]
          refine wpAny_bind (wpAny_rule ?_)
          first | exact wpAny_pure ⟨rfl, rfl⟩ | (rw [if_neg (by simp)]; exact wpAny_pure ⟨rfl, rfl⟩) | exact wpAny_bind (wpAny_pure (wpAny_pure ⟨rfl, rfl⟩))
        · rw [if_neg he2]
          exact wpAny_pure ⟨rfl, rfl⟩
    · rintro r s' ⟨rfl, rfl⟩
      exact wpAny_pure h
theorem meets_get_none {d : Addr} (hd : (d == sysModules) = false) (dflt : Value) :
    MeetsIn prog w (Builtin.«dict.get» ⟨[.ref d, .none, dflt], []⟩) (fun A R s => A.units + 2 < cLine ∧ ∃ xs, (∀ x ∈ xs, ∃ r : List Int, x.1 = r.map Sum.inl) ∧ s.heap.DictOfH (tupleKind (mixKind prog w)) d xs ∧
      ∀ tk, R (.ok (.ret dflt)) { s with toks := tk }) :=
  .of_wp fun A R s ⟨hu, xs, hk, hm, h⟩ => by
    show wpAny _ _ (dictGet d .none >>= _) _ _ s
    refine wpAny_bind ?_
    obtain ⟨o, es, ep, ho, _, hdd, he, his, hn⟩ := hm
    unfold dictGet
    try with_reducible refine wpAny_holding ?_
    refine wpAny_bind (hash_none fun tk => wpAny_bind (find_none (s := { s with toks := tk }) (by show A.in1.units + 1 < cLine; show A.units + 1 + 1 < cLine; omega) ho hdd he his hk ?_))
    refine wpAny_pure ?_
    show wpAny _ _ (Builtin.Dict.missed d .none >>= _) _ _ _
    exact wpAny_bind (wpAny_missed_other hd (wpAny_pure ⟨dflt, rfl, h tk⟩))
end
end HW

namespace HW
open PySem PySem.Spec PyProof.Rows L2 HR
/-- d.get(y, x), y a key or None -/
def tDGet2N (td ty tx : TE) : TE := fun σ H Q => td σ H fun x H1 => ∃ a, x = .ref a ∧ IsD H1 a ∧ ty σ H1 fun y H2 => tx σ H2 fun z H3 => (∃ o, DGet H3 a y o ∧ Q (o.getD z) H3) ∨
  (y = .non ∧ (∃ kvs, Rd H3 a (.dT kvs) ∧ ∀ kv ∈ kvs, ∃ r : List Int, kv.1 = r.map Sum.inl) ∧ Q z H3)
theorem kt_keys {H : Hp} : ∀ {kvs : List (List Key × V)} {xs : List (List Key × Addr × Value)}, KT H kvs xs → (∀ kv ∈ kvs, ∃ r : List Int, kv.1 = r.map Sum.inl) → ∀ x ∈ xs, ∃ r : List Int, x.1 = r.map Sum.inl
  | _, _, .nil, _ => fun x hx => by cases hx
  | _, _, .cons hq t, h => fun x hx => by
    rcases List.mem_cons.mp hx with e | hx
    · subst e
      obtain ⟨r, e⟩ := h _ List.mem_cons_self
      exact ⟨r, by rw [← hq.1]; exact e⟩
    · exact kt_keys t (fun kv hkv => h kv (List.mem_cons_of_mem _ hkv)) x hx
section
variable {X : Cx} {o e f : PySem.Expr} {apos cpos : Pos} {td ty tx : TE}
theorem pe_dget2N (hu : X.A.units + 64 < cLine) (ho : PE X o td) (he : PE X e ty) (hf : PE X f tx) (m : M2 X o "get" apos e f cpos) : PE X (.Call (.Attribute o "get" apos) [e, f] [] cpos) (tDGet2N td ty tx) := by
  refine ⟨fun pins s σ H Q I h => ?_⟩
  refine wpAny_Call_method m.base m.few m.line PySem.F.plainAttrs_dict PySem.F.slot_dict_get PySem.F.type_dict_get (thn (ho.run pins s σ H _ I h) fun u s1 ⟨x, H1, I1, rx, a, ex, d, q1⟩ => ?_)
  subst ex
  obtain rfl : u = Value.ref a := rx
  obtain ⟨t1, t2, _⟩ := isD_at I1 d
  refine ⟨t1, t2, ?_⟩
  rw [m.trees]
  refine Calls.callWith_builtin rfl (Calls.evalArgs_plain (Calls.spliced_cons (thn (he.run pins s1 σ H1 _ I1 q1) fun iv s2 ⟨y, H2, I2, ry, q2⟩ =>
    Calls.spliced_cons (thn (hf.run pins s2 σ H2 _ I2 q2) fun fv s3 ⟨z, H3, I3, rz, q3⟩ => Calls.spliced_nil ?_))))
  rcases q3 with ⟨ov, g, q3⟩ | ⟨rfl, ⟨kvs, hr, hk⟩, q3⟩
  · exact d_get2 (by omega) I3 g ry rz fun w' s4 I4 rw' => ⟨_, H3, I4, rw', q3⟩
  · obtain rfl : iv = Value.none := ry
    obtain ⟨z', hd, xs, rel, dd⟩ := dt_rd I3.hok hr
    exact call_meetsIn PySem.F.slot_dict_get dd.typeIs PySem.F.entry_dict_get (PySem.F.args_dict_get_3 _ _ _) (meets_get_none hd fv)
      ⟨by omega, xs, kt_keys rel hk, dd, fun tk => ⟨z, H3, I3.tok tk, rz, q3⟩⟩
end
end HW
namespace HW
open PySem PySem.Spec PyProof.Rows L2 HR
/-- a tracked ring -/
def TupG (H : Hp) (a : Addr) (r : List Int) : Prop := H a = some (.tup (I r))
/-- t + u, a tracked tuple -/
def rCatG (K : PySem.W.Frag) : R2 := fun x y H Q => ∃ a b xs ys, x = .ref a ∧ y = .ref b ∧ SqT K H a xs ∧ SqT K H b ys ∧ (xs = [] → H b = some (.tup ys)) ∧ (ys = [] → H a = some (.tup xs)) ∧ xs.length + ys.length ≤ sizeLine ∧
  ∀ p H', Same H H' → H' p = some (.tup (xs ++ ys)) → Q (.ref p) H'
section
variable {X : Cx}
theorem op_catG : OpR X (binaryOp .Add) (rCatG X.K) := by
  intro pins s σ H x y v u Q I rx ry h
  obtain ⟨a, b, xs, ys, ex, ey, ha, hb, h1, h2, hz, q⟩ := h
  refine op_catA pins s σ H x y v u Q I rx ry ⟨a, b, xs, ys, ex, ey, ha, hb, hz, fun e => ?_, fun _ e => ?_, fun _ _ p hp => ?_⟩
  · refine q b H (Same.refl H) ?_
    rw [h1 e, e]
    rfl
  · refine q a H (Same.refl H) ?_
    rw [h2 e, e, List.append_nil]
  · exact q p _ (same_upd hp) upd_same
end
/-- items that are tracked rings -/
def TupsG (H : Hp) (xs : List V) (rs : List (List Int)) : Prop := Paired (fun (v : V) (r : List Int) => ∃ a, v = .ref a ∧ TupG H a r) xs rs
theorem TupsG.keeps {H H' : Hp} (k : ∀ b ys, H b = some (.tup ys) → H' b = some (.tup ys)) {xs : List V} {rs : List (List Int)} (h : TupsG H xs rs) : TupsG H' xs rs :=
  Paired.mapP h fun _ _ ⟨a, e, t⟩ => ⟨a, e, k _ _ t⟩
theorem TupsG.of {H H' : Hp} (s : Same H H') {xs : List V} {rs : List (List Int)} (h : TupsG H xs rs) : TupsG H' xs rs := h.keeps fun b ys e => s b _ e
theorem TupsG.tups {K : PySem.W.Frag} {H : Hp} {xs : List V} {rs : List (List Int)} (h : TupsG H xs rs) : Tups K H xs rs :=
  Paired.mapP h fun _ _ ⟨a, e, t⟩ => ⟨a, e, tupOf t⟩
theorem TupsG.len {H : Hp} {xs : List V} {rs : List (List Int)} (h : TupsG H xs rs) : xs.length = rs.length := Paired.length h
theorem TupsG.get {H : Hp} : ∀ {xs : List V} {rs : List (List Int)} {i : Nat} {r : List Int}, TupsG H xs rs → rs[i]? = some r → ∃ a, xs[i]? = some (.ref a) ∧ TupG H a r
  | _, _, _, _, .nil, e => by simp at e
  | _, _, 0, _, .cons ⟨a, e, h⟩ _, q => by
    cases q
    exact ⟨a, by rw [e]; rfl, h⟩
  | _, _, i + 1, r, .cons _ t, q => TupsG.get (i := i) (r := r) t (by simpa using q)
theorem TupsG.append {H : Hp} : ∀ {xs ys : List V} {rs ss : List (List Int)}, TupsG H xs rs → TupsG H ys ss → TupsG H (xs ++ ys) (rs ++ ss)
  | _, _, _, _, .nil, h => h
  | _, _, _, _, .cons a t, h => .cons a (TupsG.append t h)
/-- a list of tracked rings -/
def ListG (H : Hp) (p : Addr) (rs : List (List Int)) : Prop := ∃ xs, H p = some (.lst xs) ∧ TupsG H xs rs
/-- all rings, by size -/
def allR (m : Nat) : Nat → List (List Int)
  | 0 => [[]]
  | n + 1 => (allR m n).flatMap fun r => (List.range m).map fun (k : Nat) => r ++ [(k : Int)]
theorem flat_len {α β : Type} (f : α → List β) (m : Nat) (h : ∀ a, (f a).length = m) : ∀ l : List α, (l.flatMap f).length = l.length * m
  | [] => by rw [List.flatMap_nil]; exact (Nat.zero_mul m).symm
  | a :: l => by rw [List.flatMap_cons, List.length_append, h, flat_len f m h l, List.length_cons, Nat.succ_mul, Nat.add_comm]
theorem allR_len (m : Nat) : ∀ n, (allR m n).length = m ^ n
  | 0 => rfl
  | n + 1 => by
    show ((allR m n).flatMap _).length = _
    rw [flat_len _ m (fun a => by rw [List.length_map, List.length_range]), allR_len m n, Nat.pow_succ]
theorem mem_allR {m : Nat} : ∀ {n : Nat} {r : List Int}, r ∈ allR m n ↔ r.length = n ∧ ∀ x ∈ r, 0 ≤ x ∧ x < (m : Int)
  | 0, r => by
    show r ∈ [[]] ↔ _
    rw [List.mem_singleton]
    constructor
    · intro e
      subst e
      exact ⟨rfl, fun x hx => by cases hx⟩
    · intro ⟨e, _⟩
      exact List.length_eq_zero_iff.mp e
  | n + 1, r => by
    show r ∈ (allR m n).flatMap _ ↔ _
    rw [List.mem_flatMap]
    constructor
    · rintro ⟨q, hq, hr⟩
      obtain ⟨k, hk, rfl⟩ := List.mem_map.mp hr
      obtain ⟨h1, h2⟩ := mem_allR.mp hq
      refine ⟨by rw [List.length_append, h1]; rfl, fun x hx => ?_⟩
      rcases List.mem_append.mp hx with h | h
      · exact h2 x h
      · rw [List.mem_singleton.mp h]
        have := List.mem_range.mp hk
        omega
    · rintro ⟨h1, h2⟩
      have ne : r ≠ [] := fun e => by rw [e] at h1; cases h1
      have e := List.dropLast_concat_getLast ne
      have hl := h2 _ (List.getLast_mem ne)
      refine ⟨r.dropLast, mem_allR.mpr ⟨by rw [List.length_dropLast, h1]; rfl, fun x hx => h2 x (List.dropLast_subset r hx)⟩, ?_⟩
      refine List.mem_map.mpr ⟨(r.getLast ne).toNat, List.mem_range.mpr (by omega), ?_⟩
      rw [Int.toNat_of_nonneg hl.1]
      exact e
theorem allR_ring {n m : Nat} {r : List Int} (hn : 2 ≤ n) (hm : 2 ≤ m) : r ∈ allR m n ↔ Ring n (m : Int) r := by
  rw [mem_allR]
  constructor
  · rintro ⟨h1, h2⟩
    have at1 : ∀ k, k < n → at0 r k ∈ r := fun k hk => at0_mem (by omega)
    exact ⟨h1, hn, by omega, fun k hk => (h2 _ (at1 k hk)).1, fun k hk => (h2 _ (at1 k hk)).2⟩
  · intro R
    refine ⟨R.len, fun x hx => ?_⟩
    obtain ⟨k, hk, e⟩ := List.getElem_of_mem hx
    have hk' : k < n := by rw [← R.len]; exact hk
    have e2 : at0 r k = x := by
      unfold at0
      rw [List.getD_eq_getElem?_getD, List.getElem?_eq_getElem hk]
      exact e
    rw [← e2]
    exact ⟨R.lo k hk', R.hi k hk'⟩
def sp_moved2 (K : PySem.W.Frag) : Sp := fun vs H Q _ => ∃ (a : Addr) (r : List Int) (m : Int) (k : Nat), vs = [.ref a, .int m, .int (k : Int)] ∧ SqT K H a (I r) ∧ k < r.length ∧ r.length ≤ 1000 ∧ 0 < m ∧
  ∀ H' p, Same H H' → TupG H' p (HR.moved m r k) → Q (.ref p) H'
def sp_all_rings : Sp := fun vs H Q _ => ∃ n m : Nat, vs = [.int (n : Int), .int (m : Int)] ∧ n ≤ 12 ∧ 1 ≤ m ∧ m ≤ 100 ∧ m ^ n ≤ 300 ∧ ∀ H' p, Same H H' → H p = none → ListG H' p (allR m n) → Q (.ref p) H'
def sp_need_small (cG : Addr) : Sp := fun vs H Q E => ∃ n m : Nat, vs = [.int (n : Int), .int (m : Int)] ∧ n ≤ 12 ∧ 1 ≤ m ∧ m ≤ 100 ∧ (300 < m ^ n → E (.ref cG) none H) ∧ (m ^ n ≤ 300 → Q .non H)
end HW
namespace HW
open PySem PySem.Spec PyProof.Rows L2 HR
theorem TupG.upd {H : Hp} {p b : Addr} {ys : List V} {o : HO} {r : List Int} (hp : H p = some (.lst ys)) (h : TupG H b r) : TupG (L2.upd H p o) b r := by
  unfold TupG at h ⊢
  rw [upd_ne]
  · exact h
  · intro q
    rw [q, hp] at h
    cases h
theorem TupsG.upd {H : Hp} {p : Addr} {ys : List V} {o : HO} (hp : H p = some (.lst ys)) {xs : List V} {rs : List (List Int)} (h : TupsG H xs rs) : TupsG (L2.upd H p o) xs rs :=
  Paired.mapP h fun _ _ ⟨a, e, t⟩ => ⟨a, e, TupG.upd hp t⟩
/-- [a new tracked tuple for i in range(n)] -/
theorem lc_rG {n : Nat} {g : TG} {te : TE} {vs : List Nat} {σ : L2.St} {H1 : Hp} {D : Addr} {Qd : Hp → Prop} (rows : Nat → List Int) (hD : H1 D = none) (hn : n ≤ 1000)
    (hs : ∀ i H, i < n → Same H1 H → ∀ (Zc : V → Hp → Prop), (∀ H' p, Same H H' → TupG H' p (rows i) → Zc (.ref p) H') → g (.int (i : Int)) (wipe σ vs) H fun σ2 H2 => wipe σ2 vs = wipe σ vs ∧ te σ2 H2 Zc)
    (hd : ∀ H xs, Same H1 H → H D = some (.lst xs) → TupsG H xs ((List.range n).map rows) → Qd H) :
    ∃ W : Nat → Nat → Hp → Prop, (∃ m, W 0 m (L2.upd H1 D (.lst []))) ∧ ∀ i m H, W i m H →
      ((Itr 0 n).stop i H ∧ Qd H) ∨ ((Itr 0 n).go i H ∧ ∃ Nx : Hp → Prop, (∀ H', Nx H' → ∃ m', m' < m ∧ W (i + 1) m' H') ∧ ∀ x H', (Itr 0 n).yld i H x H' → g x (wipe σ vs) H' fun σ2 H2 => wipe σ2 vs = wipe σ vs ∧ tYes σ2 H2 fun b H3 =>
        if b = true then te σ2 H3 fun y H4 => ∃ acc, H4 D = some (.lst acc) ∧ acc.length < sizeLine ∧ Nx (L2.upd H4 D (.lst (acc ++ [y]))) else Nx H3) := by
  refine lc_range (lo := 0) (tt := tYes) (fun i H => Same H1 H ∧ ∃ xs, H D = some (.lst xs) ∧ xs.length = i ∧ TupsG H xs ((List.range i).map rows)) ⟨same_upd hD, [], upd_same, rfl, .nil⟩ (fun i H hi ⟨sm, xs, hx, hl, ht⟩ => ?_) fun H ⟨sm, xs, hx, hl, ht⟩ => hd H xs sm hx ht
  rw [Int.zero_add]
  refine hs i H hi sm _ fun H' p s' hp => ?_
  have hx' := s' _ _ hx
  refine ⟨_, hx', small1000 (by omega), fun b o e => ?_, _, upd_same, by rw [List.length_append, hl]; rfl, ?_⟩
  · rw [upd_ne (ne_of_none e hD)]
    exact s' _ _ (sm _ _ e)
  · rw [List.range_succ, List.map_append]
    exact Paired.snoc ((ht.of s').upd hx') ⟨p, rfl, TupG.upd hx' hp⟩
end HW
namespace HW
open PySem PySem.Spec PyProof.Rows L2 HR
/-- how long an order lasts at most, looked at j steps deep -/
def hgtF (m : Int) : Nat → List Int → Nat
  | 0, _ => 0
  | j + 1, r => if (able r).length ≤ 1 then 0 else 1 + ((able r).map fun k => hgtF m j (HR.moved m r k)).foldl max 0
def hgt (m : Int) (r : List Int) : Nat := hgtF m 200 r
/-- no order of steps from unhealed rings is longer than j -/
def Bd (n : Nat) (m : Int) (j : Nat) (r : List Int) : Prop := Ring n m r ∧ ∀ ks r', Un n m r ks r' → ks.length ≤ j
theorem un_cons {n : Nat} {m : Int} {r r' : List Int} {k : Nat} {ks : List Nat} (hk : k < n) (hm : may r k = true) (one : (able r).length ≠ 1) (x : Un n m (HR.moved m r k) ks r') : Un n m r (k :: ks) r' := by
  induction x with
  | nil => exact (Un.nil.snoc hk hm one : Un n m r ([] ++ [k]) _)
  | snoc _ h1 h2 h3 ih =>
    rw [← List.cons_append]
    exact ih.snoc h1 h2 h3
theorem Bd.step {n : Nat} {m : Int} {j k : Nat} {r : List Int} (b : Bd n m (j + 1) r) (hk : k ∈ able r) (one : (able r).length ≠ 1) : Bd n m j (HR.moved m r k) := by
  obtain ⟨R, h⟩ := b
  obtain ⟨h1, h2⟩ := mem_able.mp hk
  rw [R.len] at h1
  refine ⟨R.moved h1, fun ks r' x => ?_⟩
  have := h _ _ (un_cons h1 h2 one x)
  rw [List.length_cons] at this
  omega
theorem Bd.zero {n : Nat} {m : Int} {r : List Int} (b : Bd n m 0 r) : (able r).length = 1 := by
  obtain ⟨R, h⟩ := b
  refine Classical.byContradiction fun ne => ?_
  have n2 := R.n2
  obtain ⟨y, hy⟩ : ∃ y, y ∈ able r := ⟨_, List.getElem_mem (able_pos (r := r) (by rw [R.len]; omega))⟩
  obtain ⟨h1, h2⟩ := mem_able.mp hy
  rw [R.len] at h1
  have := h _ _ (Un.nil.snoc h1 h2 ne : Un n m r ([] ++ [y]) _)
  simp at this
theorem Bd.top {n : Nat} {m : Int} {r : List Int} (R : Ring n m r) (hm : (n : Int) ≤ m) : Bd n m (most n) r := ⟨R, fun _ _ x => x.bound R hm⟩
theorem hgtF_stay {n : Nat} {m : Int} : ∀ (j : Nat) {r : List Int}, Bd n m j r → ∀ i, j ≤ i → hgtF m i r = hgtF m j r
  | 0, r, b, i, _ => by
    cases i with
    | zero => rfl
    | succ i =>
      show (if (able r).length ≤ 1 then 0 else _) = 0
      rw [if_pos (by rw [b.zero]; exact Nat.le_refl 1)]
  | j + 1, r, b, i, h => by
    obtain ⟨i, rfl⟩ : ∃ i', i = i' + 1 := ⟨i - 1, by omega⟩
    show (if (able r).length ≤ 1 then 0 else 1 + ((able r).map fun k => hgtF m i (HR.moved m r k)).foldl max 0) = (if (able r).length ≤ 1 then 0 else 1 + ((able r).map fun k => hgtF m j (HR.moved m r k)).foldl max 0)
    by_cases c : (able r).length ≤ 1
    · rw [if_pos c, if_pos c]
    · rw [if_neg c, if_neg c]
      have e : (able r).map (fun k => hgtF m i (HR.moved m r k)) = (able r).map (fun k => hgtF m j (HR.moved m r k)) :=
        List.map_congr_left fun k hk => hgtF_stay j (b.step hk (by omega)) i (by omega)
      rw [e]
theorem hgt_eq {n : Nat} {m : Int} {r : List Int} {j : Nat} (b : Bd n m j r) (hj : j ≤ 199) : hgt m r = if (able r).length ≤ 1 then 0 else 1 + ((able r).map fun k => hgt m (HR.moved m r k)).foldl max 0 := by
  show (if (able r).length ≤ 1 then 0 else 1 + ((able r).map fun k => hgtF m 199 (HR.moved m r k)).foldl max 0) = _
  by_cases c : (able r).length ≤ 1
  · rw [if_pos c, if_pos c]
  · rw [if_neg c, if_neg c]
    have e : (able r).map (fun k => hgtF m 199 (HR.moved m r k)) = (able r).map (fun k => hgt m (HR.moved m r k)) :=
      List.map_congr_left fun k hk => by
        cases j with
        | zero => exact absurd b.zero (by omega)
        | succ j =>
          have b' := b.step hk (by omega)
          unfold hgt
          rw [hgtF_stay j b' 199 (by omega), hgtF_stay j b' 200 (by omega)]
    rw [e]
theorem fold_max : ∀ (l : List Nat) (c : Nat), c ≤ l.foldl max c ∧ (∀ x ∈ l, x ≤ l.foldl max c) ∧ (l.foldl max c = c ∨ l.foldl max c ∈ l)
  | [], c => ⟨Nat.le_refl c, (fun x hx => nomatch hx), .inl rfl⟩
  | a :: l, c => by
    obtain ⟨h1, h2, h3⟩ := fold_max l (max c a)
    show c ≤ l.foldl max (max c a) ∧ (∀ x ∈ a :: l, x ≤ l.foldl max (max c a)) ∧ (l.foldl max (max c a) = c ∨ l.foldl max (max c a) ∈ a :: l)
    refine ⟨by omega, fun x hx => ?_, ?_⟩
    · rcases List.mem_cons.mp hx with h | h
      · omega
      · exact h2 x h
    · rcases h3 with h | h
      · rw [h]
        by_cases q : c ≤ a
        · right
          rw [Nat.max_eq_right q]
          exact List.mem_cons_self
        · left
          omega
      · exact .inr (List.mem_cons_of_mem _ h)
/-- the greatest of some numbers -/
theorem max_is {l : List Nat} (ne : l ≠ []) {M : Int} (h1 : M ∈ Z l) (h2 : ∀ y ∈ Z l, y ≤ M) : M = ((l.foldl max 0 : Nat) : Int) := by
  obtain ⟨a0, a1, a2⟩ := fold_max l 0
  obtain ⟨m0, m1⟩ := mem_Z.mp h1
  have b1 := a1 _ m1
  have b2 : ((l.foldl max 0 : Nat) : Int) ≤ M := by
    rcases a2 with e | e
    · rw [e]
      omega
    · exact h2 _ (mem_Z.mpr ⟨by omega, by rw [Int.toNat_natCast]; exact e⟩)
  omega
/-- a ring as a key -/
def kR (r : List Int) : List Key := r.map Sum.inl
theorem kR_V (r : List Int) : (kR r).map kV = I r := by
  unfold kR I
  rw [List.map_map]
  rfl
theorem kR_inj {r r' : List Int} (h : kR r = kR r') : r = r' := by
  have e : ∀ l : List Int, (kR l).map (fun q : Key => match q with | .inl i => i | .inr _ => 0) = l := fun l => by
    unfold kR
    rw [List.map_map]
    exact (List.map_congr_left fun _ _ => rfl).trans (List.map_id l)
  rw [← e r, ← e r', h]
def ents (D : List (List Int × Int)) : List (List Key × V) := D.map fun p => (kR p.1, V.int p.2)
theorem ents_len (D : List (List Int × Int)) : (ents D).length = D.length := List.length_map ..
theorem ents_none {r : List Int} : ∀ {D : List (List Int × Int)}, (∀ p ∈ D, p.1 ≠ r) → valV (ents D) (kR r) = none
  | [], _ => rfl
  | p :: D, h => by
    show valV ((kR p.1, V.int p.2) :: ents D) (kR r) = none
    rw [valV_neg fun e => h p List.mem_cons_self (kR_inj e)]
    exact ents_none fun q hq => h q (List.mem_cons_of_mem _ hq)
theorem ents_some {r : List Int} {v : Int} : ∀ {D : List (List Int × Int)}, (D.map Prod.fst).Nodup → (r, v) ∈ D → valV (ents D) (kR r) = some (.int v)
  | p :: D, nd, h => by
    show valV ((kR p.1, V.int p.2) :: ents D) (kR r) = _
    rw [List.map_cons, List.nodup_cons] at nd
    rcases List.mem_cons.mp h with e | h
    · subst e
      exact valV_pos rfl
    · rw [valV_neg fun e => nd.1 (by rw [kR_inj e]; exact List.mem_map.mpr ⟨_, h, rfl⟩)]
      exact ents_some nd.2 h
theorem ents_put {r : List Int} {v : Int} {D : List (List Int × Int)} (h : ∀ p ∈ D, p.1 ≠ r) : putK (ents D) (kR r) (.int v) = ents (D ++ [(r, v)]) := by
  unfold putK
  rw [valV_any, ents_none h]
  unfold ents
  rw [List.map_append]
  rfl
/-- what is known so far is right -/
def KOk (n m : Nat) (D : List (List Int × Int)) : Prop := (∀ p ∈ D, Ring n (m : Int) p.1 ∧ p.2 = ((hgt (m : Int) p.1 : Nat) : Int)) ∧ (D.map Prod.fst).Nodup
theorem KOk.len {n m : Nat} {D : List (List Int × Int)} (k : KOk n m D) (hn : 2 ≤ n) (hm : 2 ≤ m) : D.length ≤ m ^ n := by
  have := le_of_sub (D.map Prod.fst) (allR m n) k.2 fun x hx => by
    obtain ⟨p, hp, rfl⟩ := List.mem_map.mp hx
    exact (allR_ring hn hm).mpr (k.1 p hp).1
  rw [List.length_map, allR_len] at this
  exact this
theorem KOk.snoc {n m : Nat} {D : List (List Int × Int)} (k : KOk n m D) {r : List Int} (R : Ring n (m : Int) r) (h : ∀ p ∈ D, p.1 ≠ r) : KOk n m (D ++ [(r, ((hgt (m : Int) r : Nat) : Int))]) := by
  refine ⟨fun p hp => ?_, ?_⟩
  · rcases List.mem_append.mp hp with q | q
    · exact k.1 p q
    · rw [List.mem_singleton.mp q]
      exact ⟨R, rfl⟩
  · rw [List.map_append, List.nodup_append]
    refine ⟨k.2, by simp, fun a ha b hb e => ?_⟩
    obtain ⟨p, hp, rfl⟩ := List.mem_map.mp ha
    rw [List.map_cons, List.map_nil, List.mem_singleton] at hb
    exact h p hp (e.trans hb)
/-- all that stood stands, but for what is at d -/
def SameX (d : Addr) (H H' : Hp) : Prop := ∀ b o, b ≠ d → H b = some o → H' b = some o
theorem SameX.refl (d : Addr) (H : Hp) : SameX d H H := fun _ _ _ h => h
theorem SameX.trans {d : Addr} {H H1 H2 : Hp} (a : SameX d H H1) (b : SameX d H1 H2) : SameX d H H2 := fun c o n e => b c o n (a c o n e)
theorem SameX.of {d : Addr} {H H' : Hp} (s : Same H H') : SameX d H H' := fun b o _ e => s b o e
theorem SameX.put {d : Addr} {H : Hp} (o : HO) : SameX d H (upd H d o) := fun b u n e => by
  rw [upd_ne n]
  exact e
theorem SameX.free {d b : Addr} {H H' : Hp} (s : SameX d H H') (hd : b ≠ d) (h : H' b = none) : H b = none := by
  cases q : H b with
  | none => rfl
  | some o => rw [s b o hd q] at h; cases h
theorem SameX.tupG {d a : Addr} {H H' : Hp} {ks : List (List Key × V)} {r : List Int} (s : SameX d H H') (hd : H d = some (.dT ks)) (h : TupG H a r) : TupG H' a r := s a _ (fun q => by rw [q] at h; unfold TupG at h; rw [hd] at h; cases h) h
def sp_lasting (j : Nat) : Sp := fun vs H Q _ => ∃ (a d : Addr) (r : List Int) (m n : Nat) (D : List (List Int × Int)), vs = [.ref a, .int (m : Int), .ref d] ∧ TupG H a r ∧ H d = some (.dT (ents D)) ∧ Bd n (m : Int) j r ∧ n ≤ 12 ∧ n ≤ m ∧ m ≤ 100 ∧ m ^ n ≤ 300 ∧ KOk n m D ∧
  ∀ H' D', SameX d H H' → H' d = some (.dT (ents D')) → KOk n m D' → (∀ p ∈ D, p ∈ D') → (r, ((hgt (m : Int) r : Nat) : Int)) ∈ D' → Q (.int ((hgt (m : Int) r : Nat) : Int)) H'
end HW
namespace HW
open PySem PySem.Spec PyProof.Rows L2 HR
theorem ents_put_old {r : List Int} {v : Int} {D : List (List Int × Int)} (hm : ∃ p ∈ D, p.1 = r) (h : ∀ p ∈ D, p.1 = r → p.2 = v) (nd : (D.map Prod.fst).Nodup) : putK (ents D) (kR r) (.int v) = ents D := by
  unfold putK
  obtain ⟨p, hp, e⟩ := hm
  have e1 : valV (ents D) (kR r) = some (.int v) := ents_some nd (by rw [← h p hp e, ← e]; exact hp)
  rw [valV_any, e1]
  show ((ents D).map fun kv => if kv.1 = kR r then (kv.1, V.int v) else kv) = ents D
  unfold ents
  rw [List.map_map]
  refine List.map_congr_left fun q hq => ?_
  show (if kR q.1 = kR r then (kR q.1, V.int v) else (kR q.1, V.int q.2)) = (kR q.1, V.int q.2)
  by_cases c : kR q.1 = kR r
  · rw [if_pos c, h q hq (kR_inj c)]
  · rw [if_neg c]
end HW
namespace HW
open PySem PySem.Spec PyProof.Rows L2 HR
/-- [a tracked tuple for x in xs] -/
theorem lc_lG {K : PySem.W.Frag} {a : Addr} {xs : List V} {g : TG} {te : TE} {vs : List Nat} {σ : L2.St} {H1 : Hp} {D : Addr} {Qd : Hp → Prop} (rows : Nat → List Int) (hD : H1 D = none) (hn : xs.length ≤ 1000) (hl : SqL K H1 a xs)
    (hs : ∀ i x H, xs[i]? = some x → Same H1 H → ∀ (Zc : V → Hp → Prop), (∀ H' p, Same H H' → TupG H' p (rows i) → Zc (.ref p) H') → g x (wipe σ vs) H fun σ2 H2 => wipe σ2 vs = wipe σ vs ∧ te σ2 H2 Zc)
    (hd : ∀ H ys, Same H1 H → H D = some (.lst ys) → TupsG H ys ((List.range xs.length).map rows) → Qd H) :
    ∃ W : Nat → Nat → Hp → Prop, (∃ m, W 0 m (L2.upd H1 D (.lst []))) ∧ ∀ i m H, W i m H →
      ((Itl K a).stop i H ∧ Qd H) ∨ ((Itl K a).go i H ∧ ∃ Nx : Hp → Prop, (∀ H', Nx H' → ∃ m', m' < m ∧ W (i + 1) m' H') ∧ ∀ x H', (Itl K a).yld i H x H' → g x (wipe σ vs) H' fun σ2 H2 => wipe σ2 vs = wipe σ vs ∧ tYes σ2 H2 fun b H3 =>
        if b = true then te σ2 H3 fun y H4 => ∃ acc, H4 D = some (.lst acc) ∧ acc.length < sizeLine ∧ Nx (L2.upd H4 D (.lst (acc ++ [y]))) else Nx H3) := by
  refine lc_list (K := K) (a := a) (xs := xs) (tt := tYes) (fun i H => Same H1 H ∧ ∃ ys, H D = some (.lst ys) ∧ ys.length = i ∧ TupsG H ys ((List.range i).map rows)) ⟨same_upd hD, [], upd_same, rfl, .nil⟩ (fun i H _ p => p.1.seq hl) (fun i x H hi ⟨sm, ys, hy, hyl, ht⟩ => ?_) fun H ⟨sm, ys, hy, hyl, ht⟩ => hd H ys sm hy ht
  have hil := (List.getElem?_eq_some_iff.mp hi).1
  refine hs i x H hi sm _ fun H' p s' hp => ?_
  have hy' := s' _ _ hy
  refine ⟨_, hy', small1000 (by omega), fun b o e => ?_, _, upd_same, by rw [List.length_append, hyl]; rfl, ?_⟩
  · rw [upd_ne (ne_of_none e hD)]
    exact s' _ _ (sm _ _ e)
  · rw [List.range_succ, List.map_append]
    exact Paired.snoc ((ht.of s').upd hy') ⟨p, rfl, TupG.upd hy' hp⟩
/-- the first of those that may after whose step an order lasts u at most, and so on -/
def pickW (m : Int) (u : Nat) (r : List Int) : Nat := ((able r).map fun k => hgt m (HR.moved m r k)).findIdx (· == u)
def wOrd (m : Int) : Nat → List Int → List Nat
  | 0, _ => []
  | u + 1, r => (able r).getD (pickW m u r) 0 :: wOrd m u (HR.moved m r ((able r).getD (pickW m u r) 0))
theorem pickW_is {n : Nat} {m : Int} {r : List Int} {u : Nat} (R : Ring n m r) (hn : n ≤ 12) (hm : (n : Int) ≤ m) (h : hgt m r = u + 1) : ∃ hl : pickW m u r < (able r).length, hgt m (HR.moved m r (able r)[pickW m u r]) = u ∧
    ∀ (i : Nat) (hi : i < (able r).length), i < pickW m u r → hgt m (HR.moved m r (able r)[i]) ≠ u := by
  have e := hgt_eq (Bd.top R hm) (Nat.le_trans (most_le hn) (by decide))
  rw [h] at e
  have c : ¬ (able r).length ≤ 1 := fun c => by rw [if_pos c] at e; omega
  rw [if_neg c] at e
  have e : ((able r).map fun k => hgt m (HR.moved m r k)).foldl max 0 = u := by omega
  obtain ⟨a0, a1, a2⟩ := fold_max ((able r).map fun k => hgt m (HR.moved m r k)) 0
  rw [e] at a1 a2
  have mem : u ∈ (able r).map fun k => hgt m (HR.moved m r k) := by
    rcases a2 with q | q
    · have l : 0 < (able r).length := by omega
      have hm0 : hgt m (HR.moved m r (able r)[0]) ∈ (able r).map fun k => hgt m (HR.moved m r k) := List.mem_map.mpr ⟨_, List.getElem_mem l, rfl⟩
      have := a1 _ hm0
      have : hgt m (HR.moved m r (able r)[0]) = u := by omega
      rw [← this]
      exact hm0
    · exact q
  have lt : pickW m u r < ((able r).map fun k => hgt m (HR.moved m r k)).length := List.findIdx_lt_length_of_exists ⟨u, mem, by simp⟩
  have lt' := lt
  rw [List.length_map] at lt'
  refine ⟨lt', ?_, fun i hi hlt q => ?_⟩
  · have := List.findIdx_getElem (p := (· == u)) (w := lt)
    exact (List.getElem_map (fun k => hgt m (HR.moved m r k)) (h := lt)).symm.trans (eq_of_beq this)
  · have := List.not_of_lt_findIdx (p := (· == u)) (xs := (able r).map fun k => hgt m (HR.moved m r k)) hlt
    rw [List.getElem_map, q] at this
    simp at this
/-- the first ring with the greatest height -/
def better (m : Int) (b : Option (List Int)) (r : List Int) : Option (List Int) := if (match b with | none => -1 | some q => ((hgt m q : Nat) : Int)) < ((hgt m r : Nat) : Int) then some r else b
def worstR (n m : Nat) : List Int := ((allR m n).foldl (better (m : Int)) none).getD []
def worstO (n m : Nat) : List Nat := wOrd (m : Int) (hgt (m : Int) (worstR n m)) (worstR n m)
def sp_worst_order : Sp := fun vs H Q _ => ∃ (a d : Addr) (r : List Int) (m n : Nat) (D : List (List Int × Int)), vs = [.ref a, .int (m : Int), .ref d] ∧ TupG H a r ∧ H d = some (.dT (ents D)) ∧ Ring n (m : Int) r ∧ n ≤ 12 ∧ n ≤ m ∧ m ≤ 100 ∧ KOk n m D ∧
  (∀ r', Ring n (m : Int) r' → (r', ((hgt (m : Int) r' : Nat) : Int)) ∈ D) ∧ ∀ H' p, Same H H' → H p = none → H' p = some (.lst (N (wOrd (m : Int) (hgt (m : Int) r) r))) → Q (.ref p) H'
/-- the order of refusals -/
def Small (cN cR cG : Addr) (x y : Int) (less : Prop) (H : Hp) (E : XK) (Z : Nat → Nat → Prop) : Prop :=
  (y < 2 ∨ 100 < y → E (.ref cN) none H) ∧ (2 ≤ y → y ≤ 100 → (x < 2 ∨ 12 < x) → E (.ref cR) none H) ∧ (2 ≤ y → y ≤ 100 → 2 ≤ x → x ≤ 12 → less → E (.ref cN) none H) ∧
  ∀ n m : Nat, x = (n : Int) → y = (m : Int) → 2 ≤ m → m ≤ 100 → 2 ≤ n → n ≤ 12 → ¬ less → (300 < m ^ n → E (.ref cG) none H) ∧ (m ^ n ≤ 300 → Z n m)
def sp_worst (cN cR cG : Addr) : Sp := fun vs H Q E => ∃ x y : Int, vs = [.int x, .int y] ∧ Small cN cR cG x y (y < x) H E fun n m => ∀ H' t a b, Same H H' → H b = none → H' t = some (.tup [.ref a, .ref b]) → TupG H' a (worstR n m) → H' b = some (.lst (N (worstO n m))) → Q (.ref t) H'
end HW
namespace HW
open PySem PySem.Spec PyProof.Rows L2 HR
theorem hgtF_le (m : Int) : ∀ (j : Nat) (r : List Int), hgtF m j r ≤ j
  | 0, _ => Nat.le_refl 0
  | j + 1, r => by
    show (if (able r).length ≤ 1 then 0 else 1 + ((able r).map fun k => hgtF m j (HR.moved m r k)).foldl max 0) ≤ j + 1
    split
    · exact Nat.zero_le _
    · obtain ⟨_, _, a2⟩ := fold_max ((able r).map fun k => hgtF m j (HR.moved m r k)) 0
      rcases a2 with e | e
      · omega
      · obtain ⟨k, _, hk⟩ := List.mem_map.mp e
        have := hgtF_le m j (HR.moved m r k)
        omega
theorem hgt_le (m : Int) (r : List Int) : hgt m r ≤ 200 := hgtF_le m 200 r
theorem wOrd_len (m : Int) : ∀ (u : Nat) (r : List Int), (wOrd m u r).length = u
  | 0, _ => rfl
  | u + 1, r => by
    show (_ :: wOrd m u _).length = u + 1
    rw [List.length_cons, wOrd_len m u]
end HW
namespace HW
open PySem PySem.Spec PyProof.Rows L2 HR
theorem better_some (m : Int) : ∀ (l : List (List Int)) (b : Option (List Int)), (l ≠ [] ∨ b ≠ none) → ∃ w, l.foldl (better m) b = some w
  | [], b, h => by
    cases b with
    | none => rcases h with h | h <;> exact absurd rfl h
    | some w => exact ⟨w, rfl⟩
  | r :: l, b, _ => by
    show ∃ w, l.foldl (better m) (better m b r) = some w
    refine better_some m l _ (.inr ?_)
    unfold better
    cases b with
    | none =>
      have : (-1 : Int) < ((hgt m r : Nat) : Int) := by omega
      show (if (-1 : Int) < ((hgt m r : Nat) : Int) then some r else none) ≠ none
      rw [if_pos this]
      simp
    | some q =>
      show (if ((hgt m q : Nat) : Int) < ((hgt m r : Nat) : Int) then some r else some q) ≠ none
      split <;> simp
theorem four {n m : Nat} (h : n ≤ m) (hp : m ^ n ≤ 300) : n ≤ 4 := by
  refine Classical.byContradiction fun c => ?_
  have h1 : 5 ^ 5 ≤ m ^ 5 := Nat.pow_le_pow_left (by omega) 5
  have h2 : m ^ 5 ≤ m ^ n := Nat.pow_le_pow_right (by omega) (by omega)
  omega
theorem Bd.four {n m : Nat} {r : List Int} (R : Ring n (m : Int) r) (h : n ≤ m) (hp : m ^ n ≤ 300) : Bd n (m : Int) 18 r := by
  have n4 := HW.four h hp
  have key : ∀ i : _root_.Fin 5, most i.1 ≤ 18 := by decide
  have b := Bd.top R (show (n : Int) ≤ (m : Int) by omega)
  exact ⟨R, fun ks r' x => Nat.le_trans (b.2 ks r' x) (key ⟨n, by omega⟩)⟩
end HW
namespace HW
open PySem PySem.Spec PyProof.Rows L2 HR
section
variable {prog : Program} {w : World} {K : Type} [DecidableEq K] {knd : HeapKind prog w K}
theorem meetsPop1 {d b : Addr} {k : K} (hd : (d == sysModules) = false) :
    MeetsIn prog w (Builtin.«dict.pop» ⟨[.ref d, .ref b], []⟩) (fun A R s => ∃ xs p, knd.room A.in1 ∧ knd.is s.heap k b ∧ s.heap.DictOfH knd d xs ∧ xs.length ≤ sizeLine ∧ atKey xs k = some p ∧
      ∀ h' tk, h'.DictOfH knd d (DT.dropH xs k) → Heap.SameBut d s.heap h' → R (.ok (.ret p.2)) { s with heap := h', toks := tk }) :=
  .of_wp fun A R s ⟨xs, p, hu, hkey, hm, hsz, hp, hsome⟩ => by
    obtain ⟨o, es, ep, ho, hc, hdat, he, his, hn⟩ := id hm
    have hes : es.size = xs.length := size_of_entries he
    have hpart : (keyPart (Value.ref b)).isSome = false := rfl
    unfold Builtin.«dict.pop»
    refine wpAny_bind ?_
    unfold Builtin.Dict.keyAndDefault
    refine wpAny_bind (wpAny_notOrdered_dict hm.typeIs ?_)
    show wpAny _ _ (pure (d, Value.ref b, none)) _ _ s
    refine wpAny_pure ?_
    simp only [hpart, Bool.false_eq_true, if_false]
    refine wpAny_bind (wpAny_dictEntries ho hdat (wpAny_bind (wpAny_pure ?_)))
    cases hem : es.isEmpty with
    | true =>
      have h0 : xs = [] := by
        have z : es.size = 0 := by simpa using hem
        exact List.length_eq_zero_iff.mp (by omega)
      rw [h0] at hp
      cases hp
    | false =>
      simp only [Bool.false_eq_true, if_false]
      refine wpAny_bind (DT.takeH hu hkey hm hsz (fun hno => ?_) fun p' e hp' hev h' hm' hs' => ?_)
      · rw [hp] at hno
        cases hno
      · rw [hp] at hp'
        cases hp'
        simp only [Option.isNone_some, Bool.false_eq_true, if_false]
        exact wpAny_bind (wpAny_letGo (wpAny_pure ⟨e.val, rfl, by rw [hev]; exact hsome h' _ hm' hs'⟩))
end
section
variable {X : Cx}
/-- d.pop(k), k a ring that is there -/
def rPopT1 : V → List V → Hp → VK → Prop := fun x xs H Q => ∃ (a : Addr) (kvs : List (List Key × V)) (k : List Key) (b : Addr) (v : V), x = .ref a ∧ xs = [.ref b] ∧ H a = some (.dT kvs) ∧ H b = some (.tup (k.map kV)) ∧ valV kvs k = some v ∧ Q v (upd H a (.dT (dropK kvs k)))
theorem mt_popT1 (hu : X.A.units + 1 < cLine) : MtR X "dict.pop" rPopT1 := by
  intro pins s σ H x xs v us Q I rx rxs h
  obtain ⟨a, kvs, k, b, v1, rfl, rfl, ha, hb, hv, q1⟩ := h
  cases rx
  obtain ⟨u1, rfl, r1⟩ := vals1 rxs
  cases r1
  obtain ⟨z, hd, xs', rel, dd⟩ := dt_of I.hok ha
  have hz : xs'.length ≤ sizeLine := by rw [← Paired.length rel]; exact z
  have r := rel.val k
  rw [hv] at r
  obtain ⟨p, hp, rv⟩ : ∃ p, atKey xs' k = some p ∧ RelV v1 p.2 := by
    cases ep : atKey xs' k with
    | none =>
      rw [ep] at r
      exact (show False from r).elim
    | some p =>
      rw [ep] at r
      exact ⟨p, rfl, r⟩
  refine call_meetsIn PySem.F.slot_dict_pop dd.typeIs PySem.F.entry_dict_pop (PySem.F.args_dict_pop_2 _ _) (meetsPop1 (knd := tupleKind (mixKind X.prog X.w)) (k := k) hd)
    ⟨xs', p, tupleKind_room_in1 hu, key_of I.hok hb, dd, hz, hp, fun h' tk dd' hs => ?_⟩
  obtain ⟨o, es, ep, hq, h2, h3, h4, _, h5⟩ := dd'
  have I2 : Inv X pins σ (upd H a (.dT (dropK kvs k))) { s with heap := h', toks := tk } :=
    d_write I (by rw [ha]; exact True.intro) hs ⟨o, hq⟩ ⟨Nat.le_trans (dropK_le kvs k) z, hd, _, (L2.DX.KT_drop k rel).keeps (fun c ys ec => (by rw [upd_ne (ne_of ec ha (fun z => nomatch z))]; exact ec)), o, es, ep, hq, h2, h3, h4, h5⟩
  show EP X pins σ Q p.2 _
  exact ⟨v1, _, I2, rv, q1⟩
end
end HW
namespace HW
open PySem PySem.Spec PyProof.Rows L2 HR
section
variable {prog : Program} {w : World} {A : Around}
theorem walk_dict (hh : A.handled = none) (I d : Addr) (hne : d ≠ I) (o : Obj) (es : Array DictEntry) (ep : Nat) (hd : o.data = .dict es ep) :
    Walks prog w A I [I, d] [I] es.size (fun i v => (es.map (·.key))[i]? = some v) (fun i h => h.IsKeyIter I d i es.size ep ∧ h.get? d = some o) where
  sub := fun b hb => by simp at hb; simp [hb]
  frame := fun _ _ _ st hk => ⟨st.1.at fun o e => hk I (by simp) o e, hk d (by simp) _ st.2⟩
  item := fun i s Q E hi st hQ => by
    have hx : es[i]? = some es[i] := Array.getElem?_eq_getElem hi
    refine next_key_item st.1 st.2 hd rfl hx fun h' hit' hs' => ?_
    refine hQ _ h' s.toks ?_ ⟨hit', (hs'.2 d hne).trans st.2⟩ fun b o hb e => (hs'.2 b (fun h => hb (by simp [h]))).trans e
    rw [Array.getElem?_map, hx]
    rfl
  done := fun s Q E st hQ => next_key_end hh st.1 st.2 hd rfl (Nat.le_refl _) fun h' he' => hQ h' s.toks fun b o hb e => he' b o (fun h => hb (by simp [h])) e
  self := fun _ _ _ _ st hQ => wpAny_pyIter_keyiter st.1 hQ
end
end HW
namespace HW
open PySem PySem.Spec PyProof.Rows L2 HR
/-- the least ring -/
def minR (x : List Int) (xs : List (List Int)) : List Int := (PySem.W.minOf (PySem.W.Tup.mk x) (xs.map PySem.W.Tup.mk)).items
section
variable {X : Cx} {pins : List (Addr × Obj)} {σ : L2.St} {H : Hp} {s : Shared}
theorem kt_reads (I : L2.Inv X pins σ H s) : ∀ {kvs : List (List Key × V)} {ys : List (List Key × Addr × Value)} {rs : List (List Int)}, KT H kvs ys → kvs.map Prod.fst = rs.map kR →
    ∃ as, ReadsAll s.heap (ys.map fun y => Value.ref y.2.1) ((rs.map PySem.W.Tup.mk).map PySem.W.Datum.toD) as
  | _, _, [], .nil, _ => ⟨_, .nil⟩
  | _, _, [], .cons _ _, h => by cases h
  | _, _, _ :: _, .nil, h => by cases h
  | _, _, r :: rs, .cons hq t, h => by
    rw [List.map_cons, List.map_cons, List.cons.injEq] at h
    obtain ⟨as, ra⟩ := kt_reads I t h.2
    have k := key_of I.hok hq.2.1
    rw [h.1] at k
    obtain ⟨o, items, n, h1, h2, h3, h4⟩ := k
    obtain ⟨bs, rb⟩ := reads_ints (h := s.heap) (r := r) h4
    exact ⟨_, .cons (.tuple h1 h2 h3 rb) ra⟩
/-- min(d), d a dict whose keys are rings -/
def rMinDT : List V → Hp → VK → Prop := fun vs H Q => ∃ (d : Addr) (kvs : List (List Key × V)) (x : List Int) (xs : List (List Int)), vs = [.ref d] ∧ H d = some (.dT kvs) ∧ kvs.map Prod.fst = (x :: xs).map kR ∧ ∀ q, TupG H q (minR x xs) → Q (.ref q) H
theorem cr_minDT (hc : X.calm = true) (hu : X.A.units + 64 < cLine) : CallR X (.builtin "min") rMinDT := by
  intro pins s σ H vs us Q I r h
  obtain ⟨d, kvs, x, xs, rfl, hd, hk, q⟩ := h
  rw [Vals.ref1 r]
  obtain ⟨z, hs, ys, rel, dd⟩ := dt_of I.hok hd
  obtain ⟨o, es, ep, ho, hx, hdt, he, his, hn⟩ := dd
  obtain ⟨as, ra⟩ := kt_reads I rel hk
  have ek : (es.map (·.key)).toList = ys.map fun y => Value.ref y.2.1 := by
    rw [Array.toList_map, he, List.map_map]
    rfl
  have hn1 : es.size = xs.length + 1 := by
    rw [size_of_entries he, ← Paired.length rel, ← List.length_map (f := Prod.fst), hk, List.length_map, List.length_cons]
  have hne : d ≠ s.heap.objs.size := Nat.ne_of_lt (Heap.lt_size ho)
  refine call_min_walkH (iter_keys hs ho hx hdt ?_)
  have hh : X.A.in1.handled = none := I.ok.hd hc
  rw [← ek] at ra
  refine ⟨_, _, _, _, _, _, _, s.heap, _, rfl, (walk_dict (A := X.A.in1) hh s.heap.objs.size d hne o es ep hdt).toS, ⟨⟨_, Heap.get?_push_size _ rfl, rfl, rfl⟩, Heap.get?_push_of_some _ ho⟩, fun b hb => ?_, by omega, fun b ob e hb => ?_, fun b ob e => Heap.get?_push_of_some _ e,
    PySem.W.cmpIn_lt (A := X.A.in1) ra (PySem.W.alikeAll_datum ((x :: xs).map PySem.W.Tup.mk)) (PySem.W.room_all (PySem.W.depthAll_map ((x :: xs).map PySem.W.Tup.mk)) (by show X.A.units + 1 + 1 < cLine; omega)), fun v s' hP m => ?_⟩
  · show b < (s.heap.push _).objs.size
    rw [Heap.size_push]
    rcases List.mem_cons.mp hb with rfl | hb
    · exact Nat.lt_succ_self _
    · rw [List.mem_singleton.mp hb]
      exact Nat.lt_succ_of_lt (Heap.lt_size ho)
  · exact absurd (Heap.lt_size e) ((List.mem_singleton.mp hb) ▸ Nat.lt_irrefl _)
  · obtain ⟨h', tk, rfl, hk'⟩ := PySem.W.moved_old rfl rfl m
    have e2 := (PySem.W.argBest_fold PySem.W.dataLt PyData.none (PySem.W.Datum.toD (PySem.W.Tup.mk x)) ((xs.map PySem.W.Tup.mk).map PySem.W.Datum.toD) _ (Nat.le_refl _)).2
    rw [List.take_length] at e2
    have e3 : (((xs.map PySem.W.Tup.mk).map PySem.W.Datum.toD).foldl (fun a y => if PySem.W.dataLt y a = true then y else a) (PySem.W.Datum.toD (PySem.W.Tup.mk x))) = PySem.W.Datum.toD (PySem.W.minOf (PySem.W.Tup.mk x) (xs.map PySem.W.Tup.mk)) := PySem.W.minD_map (PySem.W.Tup.mk x) (xs.map PySem.W.Tup.mk)
    rw [e3] at e2
    have el : es.size - 1 = ((xs.map PySem.W.Tup.mk).map PySem.W.Datum.toD).length := by rw [List.length_map, List.length_map]; omega
    rw [el] at hP
    obtain ⟨i, hi⟩ : ∃ i, i = argBest (fun i j => PySem.W.dataLt ((PySem.W.Datum.toD (PySem.W.Tup.mk x) :: (xs.map PySem.W.Tup.mk).map PySem.W.Datum.toD).getD i PyData.none) ((PySem.W.Datum.toD (PySem.W.Tup.mk x) :: (xs.map PySem.W.Tup.mk).map PySem.W.Datum.toD).getD j PyData.none)) ((xs.map PySem.W.Tup.mk).map PySem.W.Datum.toD).length := ⟨_, rfl⟩
    rw [← hi] at e2
    have hP : (es.map (·.key))[i]? = some v := by
      rw [hi]
      exact hP
    have hP2 : (ys.map fun y => Value.ref y.2.1)[i]? = some v := by
      rw [← ek, Array.getElem?_toList]
      exact hP
    rw [List.getElem?_map] at hP2
    obtain ⟨y, hy, rfl⟩ := Option.map_eq_some_iff.mp hP2
    have yl : i < ys.length := (List.getElem?_eq_some_iff.mp hy).1
    have kl : i < kvs.length := by rw [Paired.length rel]; exact yl
    have xl : i < (x :: xs).length := by
      rw [← List.length_map (f := kR), ← hk, List.length_map]
      exact kl
    obtain ⟨y', hy', q1, q2, _⟩ := L2.paired_get rel (List.getElem?_eq_getElem kl)
    rw [hy] at hy'
    cases hy'
    have ekv : kvs[i].1 = kR (x :: xs)[i] := by
      have z : (kvs.map Prod.fst)[i]? = ((x :: xs).map kR)[i]? := by rw [hk]
      rw [List.getElem?_map, List.getElem?_map, List.getElem?_eq_getElem kl, List.getElem?_eq_getElem xl] at z
      exact Option.some.inj z
    have er : (x :: xs)[i] = minR x xs := by
      have z : (((x :: xs).map PySem.W.Tup.mk).map PySem.W.Datum.toD).getD i .none = PySem.W.Datum.toD (PySem.W.Tup.mk (x :: xs)[i]) := by
        rw [List.getD_eq_getElem?_getD, List.getElem?_map, List.getElem?_map, List.getElem?_eq_getElem xl]
        rfl
      have z2 : PySem.W.Datum.toD (PySem.W.Tup.mk (x :: xs)[i]) = PySem.W.Datum.toD (PySem.W.minOf (PySem.W.Tup.mk x) (xs.map PySem.W.Tup.mk)) := z.symm.trans e2
      have z3 : ∀ a b : List Int, PySem.W.Datum.toD (PySem.W.Tup.mk a) = PySem.W.Datum.toD (PySem.W.Tup.mk b) → a = b := fun a b h => by
        have h1 : a.map PyData.int = b.map PyData.int := PyData.tuple.inj h
        have e : ∀ l : List Int, (l.map PyData.int).map (fun d => match d with | .int i => i | _ => 0) = l := fun l => by
          rw [List.map_map]
          exact (List.map_congr_left fun _ _ => rfl).trans (List.map_id l)
        rw [← e a, ← e b, h1]
      exact z3 _ _ z2
    refine ⟨.ref y.2.1, H, I.kept hk', rfl, q _ ?_⟩
    show H y.2.1 = some (.tup (HW.I (minR x xs)))
    rw [q2, ekv, kR_V, er]
end
end HW
namespace HW
open PySem PySem.Spec PyProof.Rows L2 HR
def entsB (L : List (List Int)) : List (List Key × V) := L.map fun r => (kR r, V.bl true)
theorem entsB_len (L : List (List Int)) : (entsB L).length = L.length := List.length_map ..
theorem entsB_get (r : List Int) : ∀ L : List (List Int), valV (entsB L) (kR r) = if r ∈ L then some (.bl true) else none
  | [] => rfl
  | q :: L => by
    show valV ((kR q, V.bl true) :: entsB L) (kR r) = _
    by_cases c : q = r
    · subst c
      rw [if_pos List.mem_cons_self]
      exact valV_pos rfl
    · rw [valV_neg fun e => c (kR_inj e), entsB_get r L]
      by_cases d : r ∈ L
      · rw [if_pos d, if_pos (List.mem_cons_of_mem _ d)]
      · rw [if_neg d, if_neg fun e => by
          rcases List.mem_cons.mp e with h | h
          · exact c h.symm
          · exact d h]
theorem entsB_put {r : List Int} {L : List (List Int)} (h : r ∉ L) : putK (entsB L) (kR r) (.bl true) = entsB (L ++ [r]) := by
  unfold putK
  rw [valV_any, entsB_get, if_neg h]
  unfold entsB
  rw [List.map_append]
  rfl
theorem entsB_drop (r : List Int) : ∀ L : List (List Int), dropK (entsB L) (kR r) = entsB (L.filter fun q => decide (q ≠ r))
  | [] => rfl
  | q :: L => by
    have ih := entsB_drop r L
    show ((kR q, V.bl true) :: entsB L).filter (fun kv => decide (kv.1 ≠ kR r)) = entsB ((q :: L).filter fun q => decide (q ≠ r))
    unfold dropK at ih
    by_cases c : q = r
    · subst c
      rw [List.filter_cons_of_neg (by simp), List.filter_cons_of_neg (by simp), ih]
    · rw [List.filter_cons_of_pos (by simp; exact fun e => c (kR_inj e)), List.filter_cons_of_pos (by simpa using c), ih]
      rfl
/-- the steps from r that stay in L -/
def laterO (m : Int) (L : List (List Int)) (r : List Int) : List Nat := (able r).filter fun k => decide (HR.moved m r k ∈ L)
def endsO (m : Int) (L : List (List Int)) : List (List Int) := L.filter fun r => decide (laterO m L r = [])
def stayO (m : Int) (L : List (List Int)) : List (List Int) := L.filter fun r => !decide (laterO m L r = [])
def lastF (m : Int) : Nat → List (List Int) → List (List Int)
  | 0, L => L
  | u + 1, L => if endsO m L = [] then L else lastF m u (stayO m L)
def startR (n m : Nat) : List (List Int) := (allR m n).filter fun r => !decide ((able r).length ≤ 1)
def lastR (n m : Nat) : List (List Int) := lastF (m : Int) 301 (startR n m)
def sp_later_of : Sp := fun vs H Q _ => ∃ (a d : Addr) (r : List Int) (m : Int) (L : List (List Int)), vs = [.ref a, .int m, .ref d] ∧ TupG H a r ∧ Rd H d (.dT (entsB L)) ∧ 0 < r.length ∧ r.length ≤ 1000 ∧ 0 < m ∧
  ∀ H' p, Same H H' → H p = none → H' p = some (.lst (N (laterO m L r))) → Q (.ref p) H'
theorem Rd.of {H H' : Hp} {d : Addr} {u : HO} (s : Same H H') (h : Rd H d u) : Rd H' d u := by
  rcases h with h | ⟨o, h⟩
  · exact .inl (s _ _ h)
  · exact .inr ⟨o, s _ _ h⟩
theorem DGet.rdT {H : Hp} {a b : Addr} {kvs : List (List Key × V)} {k : List Key} (e : Rd H a (.dT kvs)) (eb : H b = some (.tup (k.map kV))) : DGet H a (.ref b) (valV kvs k) := .inr ⟨kvs, k, b, e, rfl, eb, rfl⟩
def sp_lasting_rings : Sp := fun vs H Q _ => ∃ n m : Nat, vs = [.int (n : Int), .int (m : Int)] ∧ 2 ≤ n ∧ n ≤ 12 ∧ 2 ≤ m ∧ m ≤ 100 ∧ m ^ n ≤ 300 ∧ ∀ H' d, Same H H' → H d = none → H' d = some (.dT (entsB (lastR n m))) → (∀ r ∈ lastR n m, ∃ q, TupG H' q r) → Q (.ref d) H'
theorem allR_nodup (m : Nat) : ∀ n, (allR m n).Nodup
  | 0 => by simp [allR]
  | n + 1 => by
    show ((allR m n).flatMap fun r => (List.range m).map fun (k : Nat) => r ++ [(k : Int)]).Nodup
    rw [List.nodup_iff_pairwise_ne, List.pairwise_flatMap]
    refine ⟨fun r _ => ?_, (List.nodup_iff_pairwise_ne.mp (allR_nodup m n)).imp fun {a b} ne x hx y hy e => ?_⟩
    · rw [List.pairwise_map]
      refine (List.nodup_iff_pairwise_ne.mp List.nodup_range).imp fun ne e => ne ?_
      have := List.append_cancel_left e
      have := List.singleton_inj.mp this
      omega
    · obtain ⟨i, _, rfl⟩ := List.mem_map.mp hx
      obtain ⟨j, _, rfl⟩ := List.mem_map.mp hy
      exact ne (List.append_inj' e rfl).1
end HW
namespace HW
open PySem PySem.Spec PyProof.Rows L2 HR
/-- a list of rings as data -/
def dRs (rs : List (List Int)) : List PyData := rs.map fun r => PyData.tuple (dI r)
theorem can_dRs : ∀ rs, PyData.canLayAll0 (dRs rs) = true
  | [] => rfl
  | r :: rs => by
    show (PyData.canLay0 (.tuple (dI r)) && PyData.canLayAll0 (dRs rs)) = true
    rw [can_dRs rs]
    show (PyData.canLayAll0 (dI r) && true) = true
    rw [can_dI]
    rfl
theorem depth_dRs : ∀ rs, PyData.depthAll (dRs rs) ≤ 1
  | [] => Nat.zero_le _
  | r :: rs => by
    show max (PyData.depth (.tuple (dI r))) (PyData.depthAll (dRs rs)) ≤ 1
    have h : PyData.depth (.tuple (dI r)) = PyData.depthAll (dI r) + 1 := by simp [PyData.depth]
    have := depth_dRs rs
    rw [h, depth_dI]
    omega
theorem shaped_dRs (rs : List (List Int)) : SeqAt.shaped (.list (dRs rs)) = true := by
  unfold SeqAt.shaped
  show (PyData.canLayAll0 (dRs rs) && decide (PyData.depthAll (dRs rs) + 1 ≤ 64)) = true
  rw [can_dRs, decide_eq_true (by have := depth_dRs rs; omega)]
  rfl
theorem dp_Rs {K : PySem.W.Frag} {H : Hp} : ∀ {xs : List V} {rs : List (List Int)}, TupsG H xs rs → DpAll K H xs (dRs rs)
  | _, _, .nil => .nil
  | _, _, .cons ⟨a, e, h⟩ t => by
    rw [e]
    exact .cons (dp_T (tupOf h)) (dp_Rs t)
theorem eqv_nil (rs : List (List Int)) : PyData.eqv (.list (dRs rs)) (.list (dRs [])) = decide (rs = []) := by
  cases rs with
  | nil => rfl
  | cons r rs => rfl
theorem filter_step (L E : List (List Int)) (r : List Int) : ((L.filter fun q => !decide (q ∈ E)).filter fun q => decide (q ≠ r)) = L.filter fun q => !decide (q ∈ E ++ [r]) := by
  rw [List.filter_filter]
  refine List.filter_congr fun q _ => ?_
  by_cases c : q ∈ E
  · simp [c]
  · simp [c]
theorem filter_ends (m : Int) (L : List (List Int)) : (L.filter fun q => !decide (q ∈ endsO m L)) = stayO m L := by
  unfold stayO
  refine List.filter_congr fun q hq => ?_
  congr 1
  refine decide_eq_decide.mpr ?_
  unfold endsO
  rw [List.mem_filter]
  simp [hq]
theorem stay_len {m : Int} {L : List (List Int)} (h : endsO m L ≠ []) : (stayO m L).length < L.length := by
  obtain ⟨r, hr⟩ := List.exists_mem_of_ne_nil _ h
  obtain ⟨h1, h2⟩ := List.mem_filter.mp hr
  exact List.length_filter_lt_length_iff_exists.mpr ⟨r, h1, by simpa using h2⟩
theorem stay_same {m : Int} {L : List (List Int)} (h : endsO m L = []) : stayO m L = L := by
  unfold stayO
  refine List.filter_eq_self.mpr fun r hr => ?_
  have := List.filter_eq_nil_iff.mp h r hr
  simpa using this
end HW
namespace HW
open PySem PySem.Spec PyProof.Rows L2 HR
/-- the way from w on, till a ring comes again -/
def nevF (m : Int) (L : List (List Int)) : Nat → List (List Int) → List Int → List Nat → List Int × List Nat
  | 0, _, _, _ => ([], [])
  | u + 1, ini, w, o => if HR.moved m w ((laterO m L w).headD 0) ∈ ini ++ [w] then (HR.moved m w ((laterO m L w).headD 0), (o ++ [(laterO m L w).headD 0]).drop ((ini ++ [w]).idxOf (HR.moved m w ((laterO m L w).headD 0))))
    else nevF m L u (ini ++ [w]) (HR.moved m w ((laterO m L w).headD 0)) (o ++ [(laterO m L w).headD 0])
def neverR (n m : Nat) : List Int × List Nat := match lastR n m with
  | [] => ([], [])
  | x :: xs => nevF (m : Int) (x :: xs) 302 [] (minR x xs) []
theorem lastF_is {m : Int} : ∀ (u : Nat) (L : List (List Int)), L.length < u → (∀ r ∈ lastF m u L, r ∈ L) ∧ (L.Nodup → (lastF m u L).Nodup) ∧ ∀ r ∈ lastF m u L, laterO m (lastF m u L) r ≠ []
  | 0, L, h => by omega
  | u + 1, L, h => by
    have e : lastF m (u + 1) L = if endsO m L = [] then L else lastF m u (stayO m L) := rfl
    rw [e]
    by_cases c : endsO m L = []
    · rw [if_pos c]
      refine ⟨fun _ h => h, fun h => h, fun r hr z => ?_⟩
      have := List.filter_eq_nil_iff.mp c r hr
      simp [z] at this
    · rw [if_neg c]
      have ls := stay_len c
      obtain ⟨h1, h2, h3⟩ := lastF_is u (stayO m L) (by omega)
      exact ⟨fun r hr => (List.mem_filter.mp (h1 r hr)).1, fun nd => h2 (nd.sublist List.filter_sublist), h3⟩
theorem lastR_is {n m : Nat} (hp : m ^ n ≤ 300) : (∀ r ∈ lastR n m, r ∈ allR m n ∧ 1 < (able r).length) ∧ (lastR n m).Nodup ∧ (∀ r ∈ lastR n m, laterO (m : Int) (lastR n m) r ≠ []) ∧ (lastR n m).length ≤ 300 := by
  have al := allR_len m n
  have sl : (startR n m).length ≤ 300 := by
    have := List.length_filter_le (fun r => !decide ((able r).length ≤ 1)) (allR m n)
    show ((allR m n).filter fun r => !decide ((able r).length ≤ 1)).length ≤ 300
    omega
  obtain ⟨h1, h2, h3⟩ := lastF_is (m := (m : Int)) 301 (startR n m) (by omega)
  have nd := h2 ((allR_nodup m n).sublist List.filter_sublist)
  refine ⟨fun r hr => ?_, nd, h3, ?_⟩
  · obtain ⟨q1, q2⟩ := List.mem_filter.mp (h1 r hr)
    exact ⟨q1, by simpa using q2⟩
  · exact Nat.le_trans (le_of_sub _ _ nd h1) sl
theorem minOf_mem (x : PySem.W.Tup Int) : ∀ xs : List (PySem.W.Tup Int), PySem.W.minOf x xs ∈ x :: xs
  | [] => List.mem_cons_self
  | y :: ys => by
    show PySem.W.minOf (if PySem.W.DatumOrd.lt y x = true then y else x) ys ∈ x :: y :: ys
    have := minOf_mem (if PySem.W.DatumOrd.lt y x = true then y else x) ys
    rcases List.mem_cons.mp this with h | h
    · rw [h]
      split
      · exact List.mem_cons_of_mem _ List.mem_cons_self
      · exact List.mem_cons_self
    · exact List.mem_cons_of_mem _ (List.mem_cons_of_mem _ h)
theorem minR_mem (x : List Int) (xs : List (List Int)) : minR x xs ∈ x :: xs := by
  have := minOf_mem (PySem.W.Tup.mk x) (xs.map PySem.W.Tup.mk)
  unfold minR
  rw [← List.map_cons (f := PySem.W.Tup.mk)] at this
  obtain ⟨r, hr, e⟩ := List.mem_map.mp this
  rw [← e]
  exact hr
theorem any_dRs (r : List Int) : ∀ ws : List (List Int), ((dRs ws).any fun z => PyData.eqv z (.tuple (dI r))) = decide (r ∈ ws)
  | [] => rfl
  | w :: ws => by
    show (PyData.eqv (.tuple (dI w)) (.tuple (dI r)) || (dRs ws).any fun z => PyData.eqv z (.tuple (dI r))) = _
    rw [any_dRs r ws]
    show (PyData.eqvAll (dI w) (dI r) || decide (r ∈ ws)) = _
    rw [eqv_dI]
    by_cases c : w = r
    · simp [c]
    · have : ¬ r = w := fun e => c e.symm
      simp [c, this]
def sp_never (cN cR cG : Addr) : Sp := fun vs H Q E => ∃ x y : Int, vs = [.int x, .int y] ∧ Small cN cR cG x y False H E fun n m => (lastR n m = [] → ∀ H', Same H H' → Q .non H') ∧
  (lastR n m ≠ [] → ∀ H' t a b, Same H H' → H b = none → H' t = some (.tup [.ref a, .ref b]) → TupG H' a (neverR n m).1 → H' b = some (.lst (N (neverR n m).2)) → Q (.ref t) H')
end HW
namespace HW
open PySem PySem.Spec PyProof.Rows L2 HR
theorem room65 {k : Nat} {A : Around} (r : Room k A) : A.units + 65 < cLine := by have := r.un; omega
theorem nevF_succ (m : Int) (L : List (List Int)) (u : Nat) (ini : List (List Int)) (w : List Int) (o : List Nat) : nevF m L (u + 1) ini w o = if HR.moved m w ((laterO m L w).headD 0) ∈ ini ++ [w] then (HR.moved m w ((laterO m L w).headD 0), (o ++ [(laterO m L w).headD 0]).drop ((ini ++ [w]).idxOf (HR.moved m w ((laterO m L w).headD 0))))
    else nevF m L u (ini ++ [w]) (HR.moved m w ((laterO m L w).headD 0)) (o ++ [(laterO m L w).headD 0]) := rfl
end HW
namespace HW
open PySem PySem.Spec PyProof.Rows L2 HR
/-- an answer: a list of ints, or of rings -/
abbrev Ans := List Int ⊕ List (List Int)
def AnsOk (K : PySem.W.Frag) (H : Hp) (xs : List V) : Ans → Prop
  | .inl zs => xs = I zs
  | .inr rs => Tups K H xs rs
def dAns : Ans → List PyData
  | .inl zs => dI zs
  | .inr rs => dRs rs
theorem AnsOk.of {K : PySem.W.Frag} {H H' : Hp} (s : Same H H') {xs : List V} : ∀ {z : Ans}, AnsOk K H xs z → AnsOk K H' xs z
  | .inl _, h => h
  | .inr _, h => Tups.of s h
theorem AnsOk.upd {K : PySem.W.Frag} {H : Hp} {p : Addr} {ys : List V} {o : HO} (hp : H p = some (.lst ys)) {xs : List V} : ∀ {z : Ans}, AnsOk K H xs z → AnsOk K (L2.upd H p o) xs z
  | .inl _, h => h
  | .inr _, h => Tups.upd hp h
theorem dp_Ts {K : PySem.W.Frag} {H : Hp} : ∀ {xs : List V} {rs : List (List Int)}, Tups K H xs rs → DpAll K H xs (dRs rs)
  | _, _, .nil => .nil
  | _, _, .cons ⟨a, e, h⟩ t => by
    rw [e]
    exact .cons (dp_T h) (dp_Ts t)
theorem AnsOk.dp {K : PySem.W.Frag} {H : Hp} {xs : List V} : ∀ {z : Ans}, AnsOk K H xs z → DpAll K H xs (dAns z)
  | .inl zs, h => by
    cases h
    exact dp_I zs
  | .inr rs, h => dp_Ts h
theorem shaped_Ans : ∀ z : Ans, SeqAt.shaped (.list (dAns z)) = true
  | .inl zs => shaped_L zs
  | .inr rs => shaped_dRs rs
theorem eqv_dRs : ∀ rs, PyData.eqvAll (dRs rs) (dRs rs) = true
  | [] => rfl
  | r :: rs => by
    show (PyData.eqv (.tuple (dI r)) (.tuple (dI r)) && PyData.eqvAll (dRs rs) (dRs rs)) = true
    rw [eqv_dRs rs]
    show (PyData.eqvAll (dI r) (dI r) && true) = true
    rw [eqv_dI]
    simp
theorem eqv_Ans : ∀ z : Ans, PyData.eqv (.list (dAns z)) (.list (dAns z)) = true
  | .inl zs => by
    show PyData.eqvAll (dI zs) (dI zs) = true
    rw [eqv_dI]
    simp
  | .inr rs => eqv_dRs rs
def askF (w : Nat) (m : Int) (n : Nat) (r : List Int) (ks : List Nat) (qs : List Int) (rs : List (List Int)) (k : Nat) : Ans :=
  if w = 0 then .inl (Z (able r)) else if w = 1 then .inr rs else if w = 2 then .inl (Z (draws m qs r (if ks.length < 100 then ks.length else 100)).1) else if w = 3 then .inl (counts (Z ks) n)
  else if w = 4 then .inl (mkF n ks).1 else if w = 5 then .inl (Z (healA m qs [] r 0 (most n))) else .inl (Z (roundOf n k))
def sp_law_ask (K : PySem.W.Frag) : Sp := fun vs H Q _ => ∃ (a b c : Addr) (r r' qs : List Int) (m : Int) (n : Nat) (ks : List Nat) (rs : List (List Int)) (k w : Nat), vs = [.int (w : Int), .ref a, .int m, .ref b, .ref c] ∧ w < 7 ∧ SqT K H a (I r) ∧ SqL K H b (I (Z ks)) ∧ SqL K H c (I qs) ∧ Ring n m r ∧ n ≤ 12 ∧ (n : Int) ≤ m ∧ m ≤ 100 ∧
  Un n m r ks r' ∧ able r' = [k] ∧ rs.length = ks.length ∧ goneA m [r] r (Z ks) = .ok (rs ++ [r']) ∧ ∀ H' p xs, Same H H' → H p = none → H' p = some (.lst xs) → xs.length ≤ 500 → AnsOk K H' xs (askF w m n r ks qs (rs ++ [r']) k) → Q (.ref p) H'
end HW
namespace HW
open PySem PySem.Spec PyProof.Rows L2 HR
theorem nevF_len (m : Int) (L : List (List Int)) : ∀ (u : Nat) (ini : List (List Int)) (w : List Int) (o : List Nat), (nevF m L u ini w o).2.length ≤ o.length + u
  | 0, _, _, _ => Nat.zero_le _
  | u + 1, ini, w, o => by
    rw [nevF_succ]
    split
    · show ((o ++ [_]).drop _).length ≤ _
      rw [List.length_drop, List.length_append]
      show o.length + 1 - _ ≤ _
      omega
    · have := nevF_len m L u (ini ++ [w]) (HR.moved m w ((laterO m L w).headD 0)) (o ++ [(laterO m L w).headD 0])
      rw [List.length_append] at this
      have e : [(laterO m L w).headD 0].length = 1 := rfl
      omega
theorem neverR_len (n m : Nat) : (neverR n m).2.length ≤ 302 := by
  unfold neverR
  cases lastR n m with
  | nil => exact Nat.zero_le _
  | cons x xs => exact nevF_len _ _ 302 [] _ []
theorem cut5 (xs : List V) : (cutV xs none (some 5)).length ≤ 5 := by
  unfold cutV
  rw [HT.sIx_none, show (some (5 : Int)) = some ((5 : Nat) : Int) from rfl, HT.sIx_nat, List.length_take]
  omega
end HW
namespace HW
open PySem PySem.Spec PyProof.Rows L2 HR
def topS (i : Nat) : Stmt := PySem.Challenge.pw_healring_k14_lists_told_anew.main.body.getD i (.Pass ⟨0, 0, 0, 0⟩)
abbrev s_need_numbers : Stmt := topS 12
abbrev p_need_numbers : List Str := ["many"]
abbrev n_need_numbers : List Str := ["many"]
theorem sc_need_numbers : FnScope n_need_numbers p_need_numbers (defScope s_need_numbers) :=
  ⟨rfl, rfl, rfl, by decide +kernel, rfl, by decide +kernel, by decide +kernel⟩
abbrev s_need_machines : Stmt := topS 13
abbrev p_need_machines : List Str := ["machines"]
abbrev n_need_machines : List Str := ["machines"]
theorem sc_need_machines : FnScope n_need_machines p_need_machines (defScope s_need_machines) :=
  ⟨rfl, rfl, rfl, by decide +kernel, rfl, by decide +kernel, by decide +kernel⟩
abbrev s_need_ring : Stmt := topS 14
abbrev p_need_ring : List Str := ["ring", "many"]
abbrev n_need_ring : List Str := ["ring", "many", "number"]
theorem sc_need_ring : FnScope n_need_ring p_need_ring (defScope s_need_ring) :=
  ⟨rfl, rfl, rfl, by decide +kernel, rfl, by decide +kernel, by decide +kernel⟩
abbrev s_may : Stmt := topS 15
abbrev p_may : List Str := ["ring", "machine"]
abbrev n_may : List Str := ["ring", "machine", "alike"]
theorem sc_may : FnScope n_may p_may (defScope s_may) :=
  ⟨rfl, rfl, rfl, by decide +kernel, rfl, by decide +kernel, by decide +kernel⟩
abbrev s_able_of : Stmt := topS 16
abbrev p_able_of : List Str := ["ring"]
abbrev n_able_of : List Str := ["ring", "machine"]
theorem sc_able_of : FnScope n_able_of p_able_of (defScope s_able_of) :=
  ⟨rfl, rfl, rfl, by decide +kernel, rfl, by decide +kernel, by decide +kernel⟩
abbrev s_able : Stmt := topS 17
abbrev p_able : List Str := ["ring", "many"]
abbrev n_able : List Str := ["ring", "many"]
theorem sc_able : FnScope n_able p_able (defScope s_able) :=
  ⟨rfl, rfl, rfl, by decide +kernel, rfl, by decide +kernel, by decide +kernel⟩
abbrev s_moved : Stmt := topS 18
abbrev p_moved : List Str := ["ring", "many", "machine"]
abbrev n_moved : List Str := ["ring", "many", "machine", "number"]
theorem sc_moved : FnScope n_moved p_moved (defScope s_moved) :=
  ⟨rfl, rfl, rfl, by decide +kernel, rfl, by decide +kernel, by decide +kernel⟩
abbrev s_step_of : Stmt := topS 19
abbrev p_step_of : List Str := ["ring", "many", "machine"]
abbrev n_step_of : List Str := ["ring", "many", "machine"]
theorem sc_step_of : FnScope n_step_of p_step_of (defScope s_step_of) :=
  ⟨rfl, rfl, rfl, by decide +kernel, rfl, by decide +kernel, by decide +kernel⟩
abbrev s_stepped : Stmt := topS 20
abbrev p_stepped : List Str := ["ring", "many", "machine"]
abbrev n_stepped : List Str := ["ring", "many", "machine"]
theorem sc_stepped : FnScope n_stepped p_stepped (defScope s_stepped) :=
  ⟨rfl, rfl, rfl, by decide +kernel, rfl, by decide +kernel, by decide +kernel⟩
abbrev s_gone : Stmt := topS 21
abbrev p_gone : List Str := ["ring", "many", "order"]
abbrev n_gone : List Str := ["ring", "many", "order", "rings", "machine"]
theorem sc_gone : FnScope n_gone p_gone (defScope s_gone) :=
  ⟨rfl, rfl, rfl, by decide +kernel, rfl, by decide +kernel, by decide +kernel⟩
abbrev s_next_of : Stmt := topS 23
abbrev p_next_of : List Str := ["ring", "numbers", "k"]
abbrev n_next_of : List Str := ["ring", "numbers", "k", "free", "place"]
theorem sc_next_of : FnScope n_next_of p_next_of (defScope s_next_of) :=
  ⟨rfl, rfl, rfl, by decide +kernel, rfl, by decide +kernel, by decide +kernel⟩
abbrev s_drawn : Stmt := topS 24
abbrev p_drawn : List Str := ["ring", "many", "numbers", "steps"]
abbrev n_drawn : List Str := ["ring", "many", "numbers", "steps", "order", "k", "machine"]
theorem sc_drawn : FnScope n_drawn p_drawn (defScope s_drawn) :=
  ⟨rfl, rfl, rfl, by decide +kernel, rfl, by decide +kernel, by decide +kernel⟩
abbrev s_counted : Stmt := topS 25
abbrev p_counted : List Str := ["order", "machines"]
abbrev n_counted : List Str := ["order", "machines", "found", "machine"]
theorem sc_counted : FnScope n_counted p_counted (defScope s_counted) :=
  ⟨rfl, rfl, rfl, by decide +kernel, rfl, by decide +kernel, by decide +kernel⟩
abbrev s_traced : Stmt := topS 26
abbrev p_traced : List Str := ["ring", "many", "order"]
abbrev n_traced : List Str := ["ring", "many", "order", "found", "fresh", "machine"]
theorem sc_traced : FnScope n_traced p_traced (defScope s_traced) :=
  ⟨rfl, rfl, rfl, by decide +kernel, rfl, by decide +kernel, by decide +kernel⟩
abbrev s_healing : Stmt := topS 28
abbrev p_healing : List Str := ["ring", "many", "numbers"]
abbrev n_healing : List Str := ["ring", "many", "numbers", "order", "k", "machine"]
theorem sc_healing : FnScope n_healing p_healing (defScope s_healing) :=
  ⟨rfl, rfl, rfl, by decide +kernel, rfl, by decide +kernel, by decide +kernel⟩
abbrev s_most : Stmt := topS 29
abbrev p_most : List Str := ["machines"]
abbrev n_most : List Str := ["machines"]
theorem sc_most : FnScope n_most p_most (defScope s_most) :=
  ⟨rfl, rfl, rfl, by decide +kernel, rfl, by decide +kernel, by decide +kernel⟩
abbrev s_turns : Stmt := topS 30
abbrev p_turns : List Str := ["ring", "many"]
abbrev n_turns : List Str := ["ring", "many", "free"]
theorem sc_turns : FnScope n_turns p_turns (defScope s_turns) :=
  ⟨rfl, rfl, rfl, by decide +kernel, rfl, by decide +kernel, by decide +kernel⟩
abbrev s_all_rings : Stmt := topS 33
abbrev p_all_rings : List Str := ["machines", "many"]
abbrev n_all_rings : List Str := ["machines", "many", "rings", "place", "longer", "ring", "number"]
theorem sc_all_rings : FnScope n_all_rings p_all_rings (defScope s_all_rings) :=
  ⟨rfl, rfl, rfl, by decide +kernel, rfl, by decide +kernel, by decide +kernel⟩
abbrev s_need_small : Stmt := topS 34
abbrev p_need_small : List Str := ["machines", "many"]
abbrev n_need_small : List Str := ["machines", "many", "count", "place"]
theorem sc_need_small : FnScope n_need_small p_need_small (defScope s_need_small) :=
  ⟨rfl, rfl, rfl, by decide +kernel, rfl, by decide +kernel, by decide +kernel⟩
abbrev s_lasting : Stmt := topS 35
abbrev p_lasting : List Str := ["ring", "many", "known"]
abbrev n_lasting : List Str := ["ring", "many", "known", "free", "found", "machine"]
theorem sc_lasting : FnScope n_lasting p_lasting (defScope s_lasting) :=
  ⟨rfl, rfl, rfl, by decide +kernel, rfl, by decide +kernel, by decide +kernel⟩
abbrev s_worst_order : Stmt := topS 36
abbrev p_worst_order : List Str := ["ring", "many", "known"]
abbrev n_worst_order : List Str := ["ring", "many", "known", "order", "later", "machine", "at", "one"]
theorem sc_worst_order : FnScope n_worst_order p_worst_order (defScope s_worst_order) :=
  ⟨rfl, rfl, rfl, by decide +kernel, rfl, by decide +kernel, by decide +kernel⟩
abbrev s_worst : Stmt := topS 37
abbrev p_worst : List Str := ["machines", "many"]
abbrev n_worst : List Str := ["machines", "many", "known", "found", "ring"]
theorem sc_worst : FnScope n_worst p_worst (defScope s_worst) :=
  ⟨rfl, rfl, rfl, by decide +kernel, rfl, by decide +kernel, by decide +kernel⟩
abbrev s_later_of : Stmt := topS 38
abbrev p_later_of : List Str := ["ring", "many", "left"]
abbrev n_later_of : List Str := ["ring", "many", "left", "machine"]
theorem sc_later_of : FnScope n_later_of p_later_of (defScope s_later_of) :=
  ⟨rfl, rfl, rfl, by decide +kernel, rfl, by decide +kernel, by decide +kernel⟩
abbrev s_lasting_rings : Stmt := topS 39
abbrev p_lasting_rings : List Str := ["machines", "many"]
abbrev n_lasting_rings : List Str := ["machines", "many", "left", "ring", "goes_on", "ends"]
theorem sc_lasting_rings : FnScope n_lasting_rings p_lasting_rings (defScope s_lasting_rings) :=
  ⟨rfl, rfl, rfl, by decide +kernel, rfl, by decide +kernel, by decide +kernel⟩
abbrev s_never : Stmt := topS 40
abbrev p_never : List Str := ["machines", "many"]
abbrev n_never : List Str := ["machines", "many", "left", "way", "order", "machine", "ring", "at"]
theorem sc_never : FnScope n_never p_never (defScope s_never) :=
  ⟨rfl, rfl, rfl, by decide +kernel, rfl, by decide +kernel, by decide +kernel⟩
abbrev s_law_cell_at : Stmt := topS 42
abbrev p_law_cell_at : List Str := ["_law_script", "_law_k"]
abbrev n_law_cell_at : List Str := ["_law_script", "_law_k"]
theorem sc_law_cell_at : FnScope n_law_cell_at p_law_cell_at (defScope s_law_cell_at) :=
  ⟨rfl, rfl, rfl, by decide +kernel, rfl, by decide +kernel, by decide +kernel⟩
abbrev s_law_mixed : Stmt := topS 43
abbrev p_law_mixed : List Str := ["_law_cell", "_law_k"]
abbrev n_law_mixed : List Str := ["_law_cell", "_law_k", "_law_one", "_law_other"]
theorem sc_law_mixed : FnScope n_law_mixed p_law_mixed (defScope s_law_mixed) :=
  ⟨rfl, rfl, rfl, by decide +kernel, rfl, by decide +kernel, by decide +kernel⟩
abbrev s_law_size : Stmt := topS 44
abbrev p_law_size : List Str := ["_law_script"]
abbrev n_law_size : List Str := ["_law_script"]
theorem sc_law_size : FnScope n_law_size p_law_size (defScope s_law_size) :=
  ⟨rfl, rfl, rfl, by decide +kernel, rfl, by decide +kernel, by decide +kernel⟩
abbrev s_law_many : Stmt := topS 45
abbrev p_law_many : List Str := ["_law_script", "_law_size_here"]
abbrev n_law_many : List Str := ["_law_script", "_law_size_here", "_law_cell"]
theorem sc_law_many : FnScope n_law_many p_law_many (defScope s_law_many) :=
  ⟨rfl, rfl, rfl, by decide +kernel, rfl, by decide +kernel, by decide +kernel⟩
abbrev s_law_ring : Stmt := topS 46
abbrev p_law_ring : List Str := ["_law_script", "_law_size_here", "_law_many_here"]
abbrev n_law_ring : List Str := ["_law_script", "_law_size_here", "_law_many_here", "_law_cell", "_law_way", "_law_k", "_law_at", "_law_low"]
theorem sc_law_ring : FnScope n_law_ring p_law_ring (defScope s_law_ring) :=
  ⟨rfl, rfl, rfl, by decide +kernel, rfl, by decide +kernel, by decide +kernel⟩
abbrev s_law_pick : Stmt := topS 47
abbrev p_law_pick : List Str := ["_law_free", "_law_script", "_law_k"]
abbrev n_law_pick : List Str := ["_law_free", "_law_script", "_law_k", "_law_way"]
theorem sc_law_pick : FnScope n_law_pick p_law_pick (defScope s_law_pick) :=
  ⟨rfl, rfl, rfl, by decide +kernel, rfl, by decide +kernel, by decide +kernel⟩
abbrev s_law_order : Stmt := topS 48
abbrev p_law_order : List Str := ["_law_ring_here", "_law_many_here", "_law_script"]
abbrev n_law_order : List Str := ["_law_ring_here", "_law_many_here", "_law_script", "_law_found", "_law_k", "_law_free", "_law_machine"]
theorem sc_law_order : FnScope n_law_order p_law_order (defScope s_law_order) :=
  ⟨rfl, rfl, rfl, by decide +kernel, rfl, by decide +kernel, by decide +kernel⟩
abbrev s_law_ask : Stmt := topS 49
abbrev p_law_ask : List Str := ["_law_way", "_law_ring_here", "_law_many_here", "_law_order_here", "_law_numbers"]
abbrev n_law_ask : List Str := ["_law_way", "_law_ring_here", "_law_many_here", "_law_order_here", "_law_numbers"]
theorem sc_law_ask : FnScope n_law_ask p_law_ask (defScope s_law_ask) :=
  ⟨rfl, rfl, rfl, by decide +kernel, rfl, by decide +kernel, by decide +kernel⟩
abbrev s_law_small : Stmt := topS 50
abbrev p_law_small : List Str := ["_law_way", "_law_script"]
abbrev n_law_small : List Str := ["_law_way", "_law_script", "_law_cell", "_law_found"]
theorem sc_law_small : FnScope n_law_small p_law_small (defScope s_law_small) :=
  ⟨rfl, rfl, rfl, by decide +kernel, rfl, by decide +kernel, by decide +kernel⟩
abbrev s_law : Stmt := topS 51
abbrev p_law : List Str := ["_law_script"]
abbrev n_law : List Str := ["_law_script", "_law_size_here", "_law_many_here", "_law_ring_here", "_law_order_here", "_law_numbers", "_law_cell", "_law_first_order", "_law_first_numbers", "_law_way", "_law_told", "_law_kept", "_law_pair", "_law_later"]
theorem sc_law : FnScope n_law p_law (defScope s_law) :=
  ⟨rfl, rfl, rfl, by decide +kernel, rfl, by decide +kernel, by decide +kernel⟩
end HW
namespace HW
open PySem PySem.Spec PyProof.Rows L2 HR
section
variable {P : Program} {w : World} {K : PySem.W.Frag} {mg : Str → Option Value} {base : Heap} {f f1 f2 f3 f4 f5 f6 f7 f8 f9 f10 f11 f12 f13 f14 f15 f16 cN cR cM cW cH cG cE : Addr} {fd fd1 fd2 fd3 fd4 fd5 fd6 fd7 fd8 fd9 fd10 fd11 fd12 fd13 fd14 fd15 fd16 : FuncData}
theorem ok_need_numbers (D : Df K mg "need_numbers" s_need_numbers p_need_numbers f fd) (M1 : ∃ t, mg "LEAST" = some (.int 2 t)) (M3 : ∃ t, mg "MOST_NUMBERS" = some (.int 100 t)) (CN : Cl K mg "NoNumbers" cN) :
    FnOk P w K mg base (L2N.CX P w) 1 f fd p_need_numbers (sp_need_numbers cN) := by
  obtain ⟨t1, m1⟩ := M1
  obtain ⟨t3, m3⟩ := M3
  refine Fun.okN D.F sc_need_numbers (fun vs H Q E h => ?_) (fun cdv A outer s H vs Q E hr h => ?_)
  · obtain ⟨m, rfl, _⟩ := h
    rfl
  · obtain ⟨m, rfl, hE, hQ⟩ := h
    refine ⟨_, pss_one (ps_if (PW.pt (pw_or (pt_cmpR op_lt (pv 0) (pe_glob (v := .int 2) rfl m1 ⟨_, rfl⟩) (nomark _)) (pw_or1 (pt_cmpR op_gt (pv 0) (pe_glob (v := .int 100) rfl m3 ⟨_, rfl⟩) (nomark _)))))
      (pss_one (L2N.ps_raise rfl (L2N.takes_of rfl rfl rfl rfl) (L2N.pmk_own PySem.F.excBase_ValueError CN.x CN.g CN.k (raises_own CN.b CN.t) rfl))) pss_nil), ?_⟩
    refine ⟨_, rfl, _, _, rfl, rfl, _, rfl, ite2 (fun e => ?_) (fun e => ?_)⟩
    · have e := of_decide_eq_true e
      exact iteT (hE (.inl e))
    · have e : ¬ m < 2 := fun z => e (decide_eq_true z)
      refine ⟨_, rfl, _, _, rfl, rfl, _, rfl, ite2 (fun e2 => ?_) (fun e2 => ?_)⟩
      · exact hE (.inr (of_decide_eq_true e2))
      · have e2 : ¬ 100 < m := fun z => e2 (decide_eq_true z)
        exact hQ (by omega) (by omega)
theorem ok_need_machines (D : Df K mg "need_machines" s_need_machines p_need_machines f fd) (M1 : ∃ t, mg "LEAST" = some (.int 2 t)) (M2 : ∃ t, mg "MOST" = some (.int 12 t)) (CR : Cl K mg "NoRing" cR) :
    FnOk P w K mg base (L2N.CX P w) 1 f fd p_need_machines (sp_need_machines cR) := by
  obtain ⟨t1, m1⟩ := M1
  obtain ⟨t2, m2⟩ := M2
  refine Fun.okN D.F sc_need_machines (fun vs H Q E h => ?_) (fun cdv A outer s H vs Q E hr h => ?_)
  · obtain ⟨m, rfl, _⟩ := h
    rfl
  · obtain ⟨m, rfl, hE, hQ⟩ := h
    refine ⟨_, pss_one (ps_if (PW.pt (pw_or (pt_cmpR op_lt (pv 0) (pe_glob (v := .int 2) rfl m1 ⟨_, rfl⟩) (nomark _)) (pw_or1 (pt_cmpR op_gt (pv 0) (pe_glob (v := .int 12) rfl m2 ⟨_, rfl⟩) (nomark _)))))
      (pss_one (L2N.ps_raise rfl (L2N.takes_of rfl rfl rfl rfl) (L2N.pmk_own PySem.F.excBase_ValueError CR.x CR.g CR.k (raises_own CR.b CR.t) rfl))) pss_nil), ?_⟩
    refine ⟨_, rfl, _, _, rfl, rfl, _, rfl, ite2 (fun e => ?_) (fun e => ?_)⟩
    · have e := of_decide_eq_true e
      exact iteT (hE (.inl e))
    · have e : ¬ m < 2 := fun z => e (decide_eq_true z)
      refine ⟨_, rfl, _, _, rfl, rfl, _, rfl, ite2 (fun e2 => ?_) (fun e2 => ?_)⟩
      · exact hE (.inr (of_decide_eq_true e2))
      · have e2 : ¬ 12 < m := fun z => e2 (decide_eq_true z)
        exact hQ (by omega) (by omega)
theorem ok_need_ring {f1 f2 : Addr} {fd1 fd2 : FuncData} (D : Df K mg "need_ring" s_need_ring p_need_ring f fd) (B : Bt mg) (CR : Cl K mg "NoRing" cR)
    (D1 : Df K mg "need_numbers" s_need_numbers p_need_numbers f1 fd1) (G1 : FnOk P w K mg base (L2N.CX P w) 1 f1 fd1 p_need_numbers (sp_need_numbers cN))
    (D2 : Df K mg "need_machines" s_need_machines p_need_machines f2 fd2) (G2 : FnOk P w K mg base (L2N.CX P w) 1 f2 fd2 p_need_machines (sp_need_machines cR)) :
    FnOk P w K mg base (L2N.CX P w) 2 f fd p_need_ring (sp_need_ring K cN cR) := by
  refine Fun.okN D.F sc_need_ring (fun vs H Q E h => ?_) (fun cdv A outer s H vs Q E hr h => ?_)
  · obtain ⟨a, r, m, rfl, _⟩ := h
    rfl
  · obtain ⟨a, r, m, rfl, hT, hN, hR, hQ⟩ := h
    refine ⟨_, pss_cons (ps_expr (pe_call G1 hr (by rfl) D1.g D1.F.kp D1.b .nil (L2N.passes_call (L2N.takes_of rfl rfl rfl rfl) (fun _ _ _ _ h => h)) (pa_cons (pv 1) pa_nil)))
      (pss_cons (ps_expr (pe_call G2 hr (by rfl) D2.g D2.F.kp D2.b .nil (L2N.passes_call (L2N.takes_of rfl rfl rfl rfl) (fun _ _ _ _ h => h)) (pa_cons (pe_callB call_len_seq (by rfl) B.len PySem.boot_len (pa_cons (pv 0) pa_nil)) pa_nil)))
      (pss_one (ps_for (passes_of rfl) rfl (pi_tup (pv 0)) (pg_name (i := 2) sc_need_ring.nd rfl (.inl rfl))
        (pss_one (ps_if (PW.pt (pw_or (pt_cmpR op_lt (pv 2) pe_int (nomark _)) (pw_or1 (pt_cmpR op_ge (pv 2) (pv 1) (nomark _)))))
          (pss_one (L2N.ps_raise rfl (L2N.takes_of rfl rfl rfl rfl) (L2N.pmk_own PySem.F.excBase_ValueError CR.x CR.g CR.k (raises_own CR.b CR.t) rfl))) pss_nil))))), ?_⟩
    refine ⟨_, rfl, m, rfl, hN, fun h1 h2 => ?_⟩
    have hQ := hQ h1 h2
    have hR := hR h1 h2
    refine ⟨_, rfl, a, _, rfl, .inr hT, _, rfl, fun h3 => ?_, fun h3 h4 => ?_⟩
    · rw [len_I] at h3
      exact hR fun g => by have := g.1; have := g.2.1; omega
    · rw [len_I] at h3 h4
      refine ⟨_, rfl, a, rfl, ⟨_, hT⟩, for_tup (K := K) (a := a) (xs := I r) (fun i σ H' => H' = H ∧ (∃ y, σ = [some (.ref a), some (.int m), y]) ∧ ∀ j, j < i → ∀ x, r[j]? = some x → 0 ≤ x ∧ x < m)
        ⟨rfl, ⟨none, rfl⟩, fun j hj => by omega⟩ (fun i σ H' _ ⟨e, _⟩ => e ▸ hT) ?_ ?_⟩
      · rintro i x σ H' hi ⟨rfl, ⟨y, rfl⟩, hall⟩
        rw [List.getElem?_map] at hi
        cases ei : r[i]? with
        | none => rw [ei] at hi; cases hi
        | some z =>
          rw [ei] at hi
          cases hi
          have hz : z ∈ r := List.mem_of_getElem? ei
          have bad : ¬ (0 ≤ z ∧ z < m) → E (.ref cR) none H' := fun n => hR fun g => n (g.2.2 z hz)
          refine ⟨_, rfl, z, 0, rfl, rfl, _, rfl, ite2 (fun e => ?_) (fun e => ?_)⟩
          · have e := of_decide_eq_true e
            exact iteT (bad fun q => by omega)
          · have e : ¬ z < 0 := fun q => e (decide_eq_true q)
            refine ⟨_, rfl, _, rfl, z, m, rfl, rfl, _, rfl, ite2 (fun e2 => ?_) (fun e2 => ?_)⟩
            · have e2 := of_decide_eq_true e2
              exact bad fun q => by omega
            · have e2 : ¬ m ≤ z := fun q => e2 (decide_eq_true q)
              refine ⟨rfl, ⟨_, rfl⟩, fun j hj x hx => ?_⟩
              by_cases c : j = i
              · subst c
                rw [ei] at hx
                cases hx
                omega
              · exact hall j (by omega) x hx
      · rintro σ H' ⟨rfl, ⟨y, rfl⟩, hall⟩
        rw [len_I] at hall
        refine hQ ⟨by omega, by omega, fun x hx => ?_⟩
        obtain ⟨j, hj, e⟩ := List.getElem_of_mem hx
        exact hall j hj x (by rw [List.getElem?_eq_getElem hj, e])
theorem ok_may (D : Df K mg "may" s_may p_may f fd) : FnOk P w K mg base (L2N.CX P w) 1 f fd p_may (sp_may K) := by
  refine Fun.okN D.F sc_may (fun vs H Q E h => ?_) (fun cdv A outer s H vs Q E hr h => ?_)
  · obtain ⟨a, r, k, rfl, _⟩ := h
    rfl
  · obtain ⟨a, r, k, rfl, hT, hk, hQ⟩ := h
    refine ⟨_, pss_cons (ps_set (i := 2) sc_may.nd rfl (.inl rfl) (pe_cmpR op_eq (pe_ix ix_tup (pv 0) (pv 1) (fun _ _ => rfl)) (pe_ix ix_tup (pv 0) (pe_op op_sub (pv 1) pe_int) (fun _ _ => rfl)) (nomark _)))
      (pss_cons (ps_if (pt_cmpR op_eq (pv 1) pe_int (nomark _)) (pss_one (ps_ret (pv 2))) pss_nil)
      (pss_one (ps_ret (pe_not (pv 2))))), ?_⟩
    refine ⟨_, rfl, _, rfl, a, _, k, _, rfl, rfl, hT, atI_I rfl hk, ?_⟩
    by_cases c : k = 0
    · subst c
      refine ⟨_, rfl, _, rfl, _, _, rfl, rfl, a, _, _, _, rfl, rfl, hT, atI_I1 hk, rfl, ?_⟩
      refine ⟨_, rfl, rfl, _, rfl, ite2 (fun e => ?_) (fun e => absurd (decide_eq_true rfl) e)⟩
      refine ⟨_, rfl, ?_⟩
      rw [dec_int]
      unfold may at hQ
      rw [if_pos rfl] at hQ
      exact hQ
    · refine ⟨_, rfl, _, rfl, _, _, rfl, rfl, a, _, _, _, rfl, rfl, hT, atI_I (k := k - 1) (by omega) (by omega), rfl, ?_⟩
      refine ⟨_, rfl, rfl, _, rfl, ite2 (fun e => ?_) (fun e => ?_)⟩
      · have e := V.int.inj (of_decide_eq_true e)
        exact absurd (show k = 0 by omega) c
      · refine ⟨_, rfl, _, rfl, ?_⟩
        rw [dec_int]
        unfold may at hQ
        rw [if_neg c, decide_not] at hQ
        exact hQ
theorem ok_able_of {f1 : Addr} {fd1 : FuncData} (D : Df K mg "able_of" s_able_of p_able_of f fd) (B : Bt mg)
    (D1 : Df K mg "may" s_may p_may f1 fd1) (G1 : FnOk P w K mg base (L2N.CX P w) 1 f1 fd1 p_may (sp_may K)) :
    FnOk P w K mg base (L2N.CX P w) 2 f fd p_able_of (sp_able_of K) := by
  refine Fun.okN D.F sc_able_of (fun vs H Q E h => ?_) (fun cdv A outer s H vs Q E hr h => ?_)
  · obtain ⟨a, r, rfl, _⟩ := h
    rfl
  · obtain ⟨a, r, rfl, hT, hl, hQ⟩ := h
    refine ⟨_, pss_one (ps_ret (pe_lc (own := [("machine", 1)]) (g := gName 1) rfl sc_able_of.nd (pi_range1 rfl B.range (pa_cons (pe_callB call_len_seq (by rfl) B.len PySem.boot_len (pa_cons (pv 0) pa_nil)) pa_nil))
      (blkOk_by (N := n_able_of) (sc := defScope s_able_of) (by decide +kernel)) (fun _ _ _ _ _ => pg_name (i := 1) sc_able_of.nd rfl (Or.inl rfl))
      (fun _ _ _ _ _ => pts_one (pt_val (pe_call G1 hr (by rfl) D1.g D1.F.kp D1.b .nil passN (pa_cons (pv 0) (pa_cons (pv 1) pa_nil))))) (fun _ _ _ _ _ => pv 1))), ?_⟩
    refine ⟨_, rfl, a, _, rfl, .inr hT, _, rfl, by omega, by rw [len_I]; omega, fun D hD => ?_⟩
    rw [len_I]
    refine lc_r0 (fun k => may r k) (fun k => V.int (k : Int)) hD (by omega) (fun i H1 hi sm Z M hz hm => ?_) fun H1 sm e => hQ H1 D sm hD e
    rw [Int.toNat_natCast] at hi
    refine ⟨rfl, _, rfl, _, rfl, a, r, i, rfl, sm.tup hT, hi, _, rfl, ite2 (fun e => ?_) (fun e => ?_)⟩
    · exact ⟨_, rfl, hz e _ (Same.refl _)⟩
    · exact hm (by simpa using e) _ (Same.refl _)
theorem ok_able (D : Df K mg "able" s_able p_able f fd)
    (D1 : Df K mg "need_ring" s_need_ring p_need_ring f1 fd1) (G1 : FnOk P w K mg base (L2N.CX P w) 2 f1 fd1 p_need_ring (sp_need_ring K cN cR))
    (D2 : Df K mg "able_of" s_able_of p_able_of f2 fd2) (G2 : FnOk P w K mg base (L2N.CX P w) 2 f2 fd2 p_able_of (sp_able_of K)) :
    FnOk P w K mg base (L2N.CX P w) 3 f fd p_able (sp_able K cN cR) := by
  refine Fun.okN D.F sc_able (fun vs H Q E h => ?_) (fun cdv A outer s H vs Q E hr h => ?_)
  · obtain ⟨a, r, m, rfl, _⟩ := h
    rfl
  · obtain ⟨a, r, m, rfl, hT, hH⟩ := h
    refine ⟨_, pss_cons (ps_expr (pe_call G1 hr (by rfl) D1.g D1.F.kp D1.b .nil (L2N.passes_call (L2N.takes_of rfl rfl rfl rfl) (fun _ _ _ _ h => h)) (pa_cons (pv 0) (pa_cons (pv 1) pa_nil))))
      (pss_one (ps_ret (pe_call G2 hr (by rfl) D2.g D2.F.kp D2.b .nil passN (pa_cons (pv 0) pa_nil)))), ?_⟩
    refine ⟨_, rfl, _, rfl, a, r, m, rfl, hT, hH.imp fun _ _ g hQ => ?_⟩
    exact ⟨_, rfl, a, r, rfl, hT, by have := g.2.1; omega, fun H' p sm hp e => hQ H' p sm hp e⟩
theorem ok_moved (D : Df K mg "moved" s_moved p_moved f fd) : FnOk P w K mg base (L2N.CX P w) 1 f fd p_moved (sp_moved K) := by
  refine Fun.okN D.F sc_moved (fun vs H Q E h => ?_) (fun cdv A outer s H vs Q E hr h => ?_)
  · obtain ⟨a, r, m, k, rfl, _⟩ := h
    rfl
  · obtain ⟨a, r, m, k, rfl, hT, hk, hl, hm, hQ⟩ := h
    refine ⟨_, pss_cons (ps_set (i := 3) sc_moved.nd rfl (.inl rfl) (pe_ix ix_tup (pv 0) (pe_op op_sub (pv 2) pe_int) (fun _ _ => rfl)))
      (pss_cons (ps_if (pt_cmpR op_eq (pv 2) pe_int (nomark _)) (pss_one (ps_set (i := 3) sc_moved.nd rfl (.inl rfl) (pe_op op_mod (pe_op op_add (pe_ix ix_tup (pv 0) pe_int (fun _ _ => rfl)) pe_int) (pv 1)))) pss_nil)
      (pss_one (ps_ret (pe_op op_catS (pe_op op_catS (pe_slice sl_tupS (pv 0) po_none (po_some (pv 2))) (pe_tup (pa_cons (pv 3) pa_nil))) (pe_slice sl_tupS (pv 0) (po_some (pe_op op_add (pv 2) pe_int)) po_none))))), ?_⟩
    have fin : ∀ v : Int, v = (if k = 0 then (at0 r 0 + 1) % m else at0 r (k - 1)) → ∀ H' p, Same H H' → SqT K H' p (((I r).take k ++ [V.int v]) ++ (I r).drop (k + 1)) → Q (.ref p) H' := fun v ev H' p sm hs => by
      refine hQ H' p sm ?_
      have e : I (HR.moved m r k) = ((I r).take k ++ [V.int v]) ++ (I r).drop (k + 1) := by
        unfold HR.moved I
        rw [List.set_eq_take_append_cons_drop, if_pos hk, ← ev, List.map_append, List.map_take, List.map_cons, List.map_drop, List.append_assoc]
        rfl
      rw [e]
      exact hs
    have hlen : (I r).length = r.length := len_I r
    have c1 : cutV (I r) none (some (k : Int)) = (I r).take k := by
      unfold cutV
      rw [HT.sIx_none, HT.sIx_nat, hlen, Nat.min_eq_left (by omega), List.drop_zero, Nat.sub_zero]
    have c2 : cutV (I r) (some ((k : Int) + 1)) none = (I r).drop (k + 1) := by
      unfold cutV
      rw [HT.sIx_none, show ((k : Int) + 1) = ((k + 1 : Nat) : Int) by omega, HT.sIx_nat, hlen, Nat.min_eq_left (by omega)]
      exact List.take_of_length_le (by rw [List.length_drop, hlen]; exact Nat.le_refl _)
    have two : ∀ v : Int, v = (if k = 0 then (at0 r 0 + 1) % m else at0 r (k - 1)) → ∀ q1 H1, Same H H1 → SqT K H1 q1 ((I r).take k) → ∀ q, H1 q = none → ∀ q2 H2, Same (upd H1 q (.tup [V.int v])) H2 → SqT K H2 q2 ((I r).take k ++ [V.int v]) →
        ∀ q3 H3, Same H2 H3 → SqT K H3 q3 ((I r).drop (k + 1)) → ∃ a b xs ys, V.ref q2 = .ref a ∧ V.ref q3 = .ref b ∧ SqT K H3 a xs ∧ SqT K H3 b ys ∧ xs.length + ys.length ≤ sizeLine ∧ ∀ p H', Same H3 H' → SqT K H' p (xs ++ ys) → Q (.ref p) H' := fun v ev q1 H1 s1 h1 q hq q2 H2 s2 h2 q3 H3 s3 h3 => by
      refine ⟨q2, q3, _, _, rfl, rfl, s3.tup h2, h3, big ?_, fun p H' s4 h4 => fin v ev H' p (s1.trans ((same_upd hq).trans (s2.trans (s3.trans s4)))) h4⟩
      rw [List.length_append, List.length_take, List.length_drop, hlen]
      show min k r.length + 1 + (r.length - (k + 1)) ≤ 1000
      omega
    by_cases c : k = 0
    · subst c
      refine ⟨_, rfl, _, rfl, _, _, rfl, rfl, a, _, _, _, rfl, rfl, hT, atI_I1 hk, ?_⟩
      refine ⟨_, rfl, rfl, _, rfl, ite2 (fun e => ?_) (fun e => absurd (decide_eq_true rfl) e)⟩
      refine ⟨_, rfl, a, _, _, _, rfl, rfl, hT, atI_I (k := 0) rfl hk, _, _, rfl, rfl, _, rfl, _, _, rfl, rfl, hm, ?_⟩
      refine ⟨_, rfl, _, rfl, _, rfl, a, _, rfl, hT, fun q1 H1 s1 h1 => ⟨_, rfl, big (by show 1 ≤ 1000; omega), fun q hq => ?_⟩⟩
      rw [c1] at h1
      refine ⟨q1, q, _, _, rfl, rfl, (same_upd hq).tup h1, tupOf upd_same, big ?_, fun q2 H2 s2 h2 => ?_⟩
      · show 0 + 1 ≤ 1000
        omega
      refine ⟨_, rfl, _, rfl, _, _, rfl, rfl, _, rfl, a, _, rfl, s2.tup ((same_upd hq).tup (s1.tup hT)), fun q3 H3 s3 h3 => ?_⟩
      rw [c2] at h3
      exact two _ (by rw [if_pos rfl]) q1 H1 s1 h1 q hq q2 H2 s2 h2 q3 H3 s3 h3
    · refine ⟨_, rfl, _, rfl, _, _, rfl, rfl, a, _, _, _, rfl, rfl, hT, atI_I (k := k - 1) (by omega) (by omega), ?_⟩
      refine ⟨_, rfl, rfl, _, rfl, ite2 (fun e => ?_) (fun e => ?_)⟩
      · have e := V.int.inj (of_decide_eq_true e)
        exact absurd (show k = 0 by omega) c
      refine ⟨_, rfl, _, rfl, _, rfl, a, _, rfl, hT, fun q1 H1 s1 h1 => ⟨_, rfl, big (by show 1 ≤ 1000; omega), fun q hq => ?_⟩⟩
      rw [c1] at h1
      refine ⟨q1, q, _, _, rfl, rfl, (same_upd hq).tup h1, tupOf upd_same, big ?_, fun q2 H2 s2 h2 => ?_⟩
      · rw [List.length_take, hlen]
        show min k r.length + 1 ≤ 1000
        omega
      refine ⟨_, rfl, _, rfl, _, _, rfl, rfl, _, rfl, a, _, rfl, s2.tup ((same_upd hq).tup (s1.tup hT)), fun q3 H3 s3 h3 => ?_⟩
      rw [c2] at h3
      exact two _ (by rw [if_neg c]) q1 H1 s1 h1 q hq q2 H2 s2 h2 q3 H3 s3 h3
theorem ok_step_of (D : Df K mg "step_of" s_step_of p_step_of f fd) (B : Bt mg) (CM : Cl K mg "NoMachine" cM) (CW : Cl K mg "NotNow" cW)
    (D1 : Df K mg "may" s_may p_may f1 fd1) (G1 : FnOk P w K mg base (L2N.CX P w) 1 f1 fd1 p_may (sp_may K))
    (D2 : Df K mg "moved" s_moved p_moved f2 fd2) (G2 : FnOk P w K mg base (L2N.CX P w) 1 f2 fd2 p_moved (sp_moved K)) :
    FnOk P w K mg base (L2N.CX P w) 2 f fd p_step_of (sp_step_of K cM cW) := by
  refine Fun.okN D.F sc_step_of (fun vs H Q E h => ?_) (fun cdv A outer s H vs Q E hr h => ?_)
  · obtain ⟨a, r, m, z, rfl, _⟩ := h
    rfl
  · obtain ⟨a, r, m, z, rfl, hT, hl, hm, hE, hQ⟩ := h
    refine ⟨_, pss_cons (ps_if (PW.pt (pw_or (pt_cmpR op_lt (pv 2) pe_int (nomark _)) (pw_or1 (pt_cmpR op_ge (pv 2) (pe_callB call_len_seq (by rfl) B.len PySem.boot_len (pa_cons (pv 0) pa_nil)) (nomark _)))))
        (pss_one (L2N.ps_raise rfl (L2N.takes_of rfl rfl rfl rfl) (L2N.pmk_own PySem.F.excBase_ValueError CM.x CM.g CM.k (raises_own CM.b CM.t) rfl))) pss_nil)
      (pss_cons (ps_if (pt_not (pt_val (pe_call G1 hr (by rfl) D1.g D1.F.kp D1.b .nil passN (pa_cons (pv 0) (pa_cons (pv 2) pa_nil)))))
        (pss_one (L2N.ps_raise rfl (L2N.takes_of rfl rfl rfl rfl) (L2N.pmk_own PySem.F.excBase_ValueError CW.x CW.g CW.k (raises_own CW.b CW.t) rfl))) pss_nil)
      (pss_one (ps_ret (pe_call G2 hr (by rfl) D2.g D2.F.kp D2.b .nil passN (pa_cons (pv 0) (pa_cons (pv 1) (pa_cons (pv 2) pa_nil))))))), ?_⟩
    refine ⟨_, rfl, _, _, rfl, rfl, _, rfl, ite2 (fun e => ?_) (fun e => ?_)⟩
    · have e := of_decide_eq_true e
      refine iteT (hE true ?_)
      unfold stepR
      rw [if_pos (.inl e)]
    · have e : ¬ z < 0 := fun q => e (decide_eq_true q)
      refine ⟨_, rfl, _, rfl, a, _, rfl, .inr hT, _, _, rfl, rfl, _, rfl, ite2 (fun e2 => ?_) (fun e2 => ?_)⟩
      · have e2 := of_decide_eq_true e2
        rw [len_I] at e2
        refine hE true ?_
        unfold stepR
        rw [if_pos (.inr e2)]
      · have e2 : ¬ ((I r).length : Int) ≤ z := fun q => e2 (decide_eq_true q)
        rw [len_I] at e2
        have no : ¬ (z < 0 ∨ (r.length : Int) ≤ z) := by omega
        refine ⟨_, rfl, _, rfl, a, r, z.toNat, by rw [Int.toNat_of_nonneg (by omega)]; rfl, hT, by omega, _, rfl, ite2 (fun e3 => ?_) (fun e3 => ?_)⟩
        · refine hE false ?_
          unfold stepR
          rw [if_neg no, if_neg (by simpa using e3)]
        · have e3 : may r z.toNat = true := by simpa using e3
          refine ⟨_, rfl, _, rfl, _, rfl, a, r, m, z.toNat, by rw [Int.toNat_of_nonneg (by omega)]; rfl, hT, by omega, hl, hm, fun H' p sm hs => hQ _ ?_ H' p sm hs⟩
          unfold stepR
          rw [if_neg no, if_pos e3]
theorem ok_stepped (D : Df K mg "stepped" s_stepped p_stepped f fd)
    (D1 : Df K mg "need_ring" s_need_ring p_need_ring f1 fd1) (G1 : FnOk P w K mg base (L2N.CX P w) 2 f1 fd1 p_need_ring (sp_need_ring K cN cR))
    (D2 : Df K mg "step_of" s_step_of p_step_of f2 fd2) (G2 : FnOk P w K mg base (L2N.CX P w) 2 f2 fd2 p_step_of (sp_step_of K cM cW)) :
    FnOk P w K mg base (L2N.CX P w) 3 f fd p_stepped (sp_stepped K cN cR cM cW) := by
  refine Fun.okN D.F sc_stepped (fun vs H Q E h => ?_) (fun cdv A outer s H vs Q E hr h => ?_)
  · obtain ⟨a, r, m, z, rfl, _⟩ := h
    rfl
  · obtain ⟨a, r, m, z, rfl, hT, hH⟩ := h
    refine ⟨_, pss_cons (ps_expr (pe_call G1 hr (by rfl) D1.g D1.F.kp D1.b .nil (L2N.passes_call (L2N.takes_of rfl rfl rfl rfl) (fun _ _ _ _ h => h)) (pa_cons (pv 0) (pa_cons (pv 1) pa_nil))))
      (pss_one (ps_ret (pe_call G2 hr (by rfl) D2.g D2.F.kp D2.b .nil (L2N.passes_call (L2N.takes_of rfl rfl rfl rfl) (fun _ _ _ _ h => h)) (pa_cons (pv 0) (pa_cons (pv 1) (pa_cons (pv 2) pa_nil)))))), ?_⟩
    refine ⟨_, rfl, _, rfl, a, r, m, rfl, hT, hH.imp fun h1 _ g hS => ?_⟩
    exact ⟨_, rfl, _, rfl, _, rfl, a, r, m, z, rfl, hT, by have := g.2.1; omega, by omega, hS⟩
theorem ok_gone (D : Df K mg "gone" s_gone p_gone f fd)
    (D1 : Df K mg "need_ring" s_need_ring p_need_ring f1 fd1) (G1 : FnOk P w K mg base (L2N.CX P w) 2 f1 fd1 p_need_ring (sp_need_ring K cN cR))
    (D2 : Df K mg "step_of" s_step_of p_step_of f2 fd2) (G2 : FnOk P w K mg base (L2N.CX P w) 2 f2 fd2 p_step_of (sp_step_of K cM cW)) :
    FnOk P w K mg base (L2N.CX P w) 3 f fd p_gone (sp_gone K cN cR cM cW) := by
  refine Fun.okN D.F sc_gone (fun vs H Q E h => ?_) (fun cdv A outer s H vs Q E hr h => ?_)
  · obtain ⟨a, b, r, zs, m, rfl, _⟩ := h
    rfl
  · obtain ⟨a, b, r, zs, m, rfl, hT, hO, hz, hH⟩ := h
    refine ⟨_, pss_cons (ps_expr (pe_call G1 hr (by rfl) D1.g D1.F.kp D1.b .nil (L2N.passes_call (L2N.takes_of rfl rfl rfl rfl) (fun _ _ _ _ h => h)) (pa_cons (pv 0) (pa_cons (pv 1) pa_nil))))
      (pss_cons (ps_set (i := 3) sc_gone.nd rfl (.inl rfl) (pe_lst (pa_cons (pv 0) pa_nil)))
      (pss_cons (ps_for (passes_of rfl) rfl (pi_list (pv 2)) (pg_name (i := 4) sc_gone.nd rfl (.inl rfl))
        (pss_cons (ps_set (i := 0) sc_gone.nd rfl (.inl rfl) (pe_call G2 hr (by rfl) D2.g D2.F.kp D2.b .nil (L2N.passes_call (L2N.takes_of rfl rfl rfl rfl) (fun _ _ _ _ h => h)) (pa_cons (pv 0) (pa_cons (pv 1) (pa_cons (pv 4) pa_nil)))))
        (pss_one (ps_expr (pe_bm PySem.F.plainAttrs_list PySem.F.slot_list_append PySem.F.type_list_append mt_append (pv 3) (pa_cons (pv 0) pa_nil))))))
      (pss_one (ps_ret (pv 3))))), ?_⟩
    refine ⟨_, rfl, _, rfl, a, r, m, rfl, hT, hH.imp fun h1 _ g hS => ?_⟩
    obtain ⟨hE, hQ⟩ := hS
    refine ⟨_, rfl, big (by show 1 ≤ 1000; omega), fun p hp => ?_⟩
    have s1 : Same H (upd H p (.lst [V.ref a])) := same_upd hp
    refine ⟨_, rfl, b, rfl, ⟨_, s1.seq hO⟩, for_list (K := K) (a := b) (xs := I zs)
      (fun i σ H' => ∃ (c : Addr) (rs : List (List Int)) (r' : List Int) (xs : List V) (y : Option V), σ = [some (.ref c), some (.int m), some (.ref b), some (.ref p), y] ∧ Same H H' ∧ SqT K H' c (I r') ∧ r'.length = r.length ∧
        H' p = some (.lst xs) ∧ Tups K H' xs rs ∧ xs.length = i + 1 ∧ goneA m [r] r zs = goneA m rs r' (zs.drop i))
      ⟨a, [r], r, _, none, rfl, s1, s1.tup hT, rfl, upd_same, .cons ⟨a, rfl, s1.tup hT⟩ .nil, rfl, rfl⟩
      (fun i σ H' _ ⟨_, _, _, _, _, _, s5, _⟩ => s5.seq hO) ?_ ?_⟩
    · rintro i x σ H' hi ⟨c, rs, r', xs, y, rfl, sm, hc, hrl, hxs, hrs, hlen, hg⟩
      have hil : i < zs.length := by
        have := (List.getElem?_eq_some_iff.mp hi).1
        rw [len_I] at this
        exact this
      have ex : x = .int zs[i] := by
        rw [List.getElem?_map, List.getElem?_eq_getElem hil] at hi
        exact (Option.some.inj hi).symm
      subst ex
      rw [List.drop_eq_getElem_cons hil] at hg
      refine ⟨_, rfl, _, rfl, _, rfl, c, r', m, zs[i], rfl, hc, by have := g.2.1; omega, by omega, fun d hd => ?_, fun r2 hr2 H2 p2 s2 h2 => ?_⟩
      · refine hE d H' ?_ sm
        rw [hg]
        unfold goneA
        rw [hd]
      · have e2 : goneA m [r] r zs = goneA m (rs ++ [r2]) r2 (zs.drop (i + 1)) := by
          rw [hg]
          conv => lhs; unfold goneA
          rw [hr2]
        have hp2 := s2 _ _ hxs
        refine ⟨_, rfl, .inl ⟨rfl, _, lstOf hp2⟩, _, rfl, p, _, _, rfl, rfl, hp2, small1000 (by omega), ?_⟩
        have pne : ∀ b o, H b = some o → b ≠ p := fun b o e => ne_of_none e hp
        have s3 : ∀ b o xs, H2 b = some o → (o = .tup xs ∨ ∃ ob, o = .frz ob (.tup xs)) → (upd H2 p (.lst (xs ++ [V.ref p2]))) b = some o := fun b o xs e k => by
          rw [upd_ne]
          · exact e
          · intro q
            rw [q, hp2] at e
            cases e
            rcases k with k | ⟨_, k⟩ <;> cases k
        have tp2 : SqT K (upd H2 p (.lst (xs ++ [V.ref p2]))) p2 (I r2) := by
          rcases h2 with (h2 | ⟨o, h2⟩) | h2
          · refine .inl (.inl ?_)
            rw [upd_ne (ne_of h2 hp2 (by intro q; cases q))]
            exact h2
          · refine .inl (.inr ⟨o, ?_⟩)
            rw [upd_ne (ne_of h2 hp2 (by intro q; cases q))]
            exact h2
          · exact .inr h2
        refine ⟨p2, rs ++ [r2], r2, _, _, rfl, fun b o e => ?_, tp2, (stepR_len hr2).trans hrl, upd_same, Paired.snoc ((hrs.of s2).upd hp2) ⟨p2, rfl, tp2⟩, ?_, e2⟩
        · rw [upd_ne (pne b o e)]
          exact s2 _ _ (sm _ _ e)
        · rw [List.length_append, hlen]
          rfl
    · rintro σ H' ⟨c, rs, r', xs, y, rfl, sm, hc, hrl, hxs, hrs, hlen, hg⟩
      rw [len_I, List.drop_length] at hg
      exact ⟨_, rfl, hQ rs H' p hg sm hp ⟨xs, hxs, hrs⟩⟩
theorem ok_next_of (D : Df K mg "next_of" s_next_of p_next_of f fd) (B : Bt mg)
    (D1 : Df K mg "able_of" s_able_of p_able_of f1 fd1) (G1 : FnOk P w K mg base (L2N.CX P w) 2 f1 fd1 p_able_of (sp_able_of K)) :
    FnOk P w K mg base (L2N.CX P w) 3 f fd p_next_of (sp_next_of K) := by
  refine Fun.okN D.F sc_next_of (fun vs H Q E h => ?_) (fun cdv A outer s H vs Q E hr h => ?_)
  · obtain ⟨a, b, r, ns, t, rfl, _⟩ := h
    rfl
  · obtain ⟨a, b, r, ns, t, rfl, hT, hN, h0, hl, hQ⟩ := h
    refine ⟨_, pss_cons (ps_set (i := 3) sc_next_of.nd rfl (.inl rfl) (pe_call G1 hr (by rfl) D1.g D1.F.kp D1.b .nil passN (pa_cons (pv 0) pa_nil)))
      (pss_cons (ps_set (i := 4) sc_next_of.nd rfl (.inl rfl) pe_int)
      (pss_cons (ps_if (pt_cmpR op_gt (pe_callB call_len_seq (by rfl) B.len PySem.boot_len (pa_cons (pv 1) pa_nil)) pe_int (nomark _))
        (pss_one (ps_set (i := 4) sc_next_of.nd rfl (.inl rfl) (pe_op op_mod (pe_ix ix_list (pv 1) (pe_op op_mod (pv 2) (pe_callB call_len_seq (by rfl) B.len PySem.boot_len (pa_cons (pv 1) pa_nil))) (fun _ _ => rfl)) (pe_callB call_len_seq (by rfl) B.len PySem.boot_len (pa_cons (pv 3) pa_nil))))) pss_nil)
      (pss_one (ps_ret (pe_ix ix_list (pv 3) (pv 4) (fun _ _ => rfl)))))), ?_⟩
    refine ⟨_, rfl, a, r, rfl, hT, hl, fun H1 p s1 hp e1 => ?_⟩
    have pos := able_pos h0
    have hN1 : SqL K H1 b (I ns) := s1.seq hN
    have hL : SqL K H1 p (N (able r)) := lstOf e1
    refine ⟨_, rfl, b, _, rfl, .inl hN1, _, _, rfl, rfl, _, rfl, ?_⟩
    rw [len_I]
    refine ite2 (fun e => ?_) (fun e => ?_)
    · have e := of_decide_eq_true e
      have hn : 0 < ns.length := by omega
      have ne : ns ≠ [] := fun q => by rw [q] at hn; exact absurd hn (by decide)
      have hb : t % ns.length < ns.length := Nat.mod_lt _ hn
      refine ⟨_, rfl, _, rfl, _, rfl, b, _, rfl, .inl hN1, _, _, rfl, rfl, by rw [len_I]; omega, b, _, _, _, rfl, rfl, hN1, atI_I (k := t % ns.length) (by rw [len_I]; rfl) hb, ?_⟩
      refine ⟨_, rfl, p, _, rfl, .inl hL, _, _, rfl, rfl, by rw [len_N]; omega, ?_⟩
      rw [len_N]
      have q1 := Int.emod_nonneg (at0 ns (t % ns.length)) (show ((able r).length : Int) ≠ 0 by omega)
      have q2 := Int.emod_lt_of_pos (at0 ns (t % ns.length)) (show 0 < ((able r).length : Int) by omega)
      refine ⟨_, rfl, _, rfl, p, _, _, _, rfl, rfl, hL, atI_N (k := (at0 ns (t % ns.length) % ((able r).length : Int)).toNat) (by omega) (by omega), ?_⟩
      have z := hQ H1 s1
      unfold nextOf at z
      rw [if_neg ne] at z
      exact z
    · have e : ns = [] := by
        cases ns with
        | nil => rfl
        | cons x l => exact absurd (decide_eq_true (by show (0 : Int) < ((l.length + 1 : Nat) : Int); omega)) e
      refine ⟨_, rfl, _, rfl, p, _, _, _, rfl, rfl, hL, atI_N (k := 0) rfl pos, ?_⟩
      have z := hQ H1 s1
      unfold nextOf at z
      rw [if_pos e] at z
      exact z
theorem ok_drawn (D : Df K mg "drawn" s_drawn p_drawn f fd) (B : Bt mg)
    (D1 : Df K mg "need_ring" s_need_ring p_need_ring f1 fd1) (G1 : FnOk P w K mg base (L2N.CX P w) 2 f1 fd1 p_need_ring (sp_need_ring K cN cR))
    (D2 : Df K mg "next_of" s_next_of p_next_of f2 fd2) (G2 : FnOk P w K mg base (L2N.CX P w) 3 f2 fd2 p_next_of (sp_next_of K))
    (D3 : Df K mg "moved" s_moved p_moved f3 fd3) (G3 : FnOk P w K mg base (L2N.CX P w) 1 f3 fd3 p_moved (sp_moved K)) :
    FnOk P w K mg base (L2N.CX P w) 4 f fd p_drawn (sp_drawn K cN cR) := by
  refine Fun.okN D.F sc_drawn (fun vs H Q E h => ?_) (fun cdv A outer s H vs Q E hr h => ?_)
  · obtain ⟨a, b, r, ns, m, t, rfl, _⟩ := h
    rfl
  · obtain ⟨a, b, r, ns, m, t, rfl, hT, hN, ht, hH⟩ := h
    refine ⟨_, pss_cons (ps_expr (pe_call G1 (hr.mono (by decide)) (by rfl) D1.g D1.F.kp D1.b .nil (L2N.passes_call (L2N.takes_of rfl rfl rfl rfl) (fun _ _ _ _ h => h)) (pa_cons (pv 0) (pa_cons (pv 1) pa_nil))))
      (pss_cons (ps_set (i := 4) sc_drawn.nd rfl (.inl rfl) (pe_lst pa_nil))
      (pss_cons (ps_for (passes_of rfl) rfl (pi_range1 rfl B.range (pa_cons (pv 3) pa_nil)) (pg_name (i := 5) sc_drawn.nd rfl (.inl rfl))
        (pss_cons (ps_set (i := 6) sc_drawn.nd rfl (.inl rfl) (pe_call G2 (hr.mono (by decide)) (by rfl) D2.g D2.F.kp D2.b .nil passN (pa_cons (pv 0) (pa_cons (pv 2) (pa_cons (pv 5) pa_nil)))))
        (pss_cons (ps_expr (pe_bm PySem.F.plainAttrs_list PySem.F.slot_list_append PySem.F.type_list_append mt_append (pv 4) (pa_cons (pv 6) pa_nil)))
        (pss_one (ps_set (i := 0) sc_drawn.nd rfl (.inl rfl) (pe_call G3 (hr.mono (by decide)) (by rfl) D3.g D3.F.kp D3.b .nil passN (pa_cons (pv 0) (pa_cons (pv 1) (pa_cons (pv 6) pa_nil)))))))))
      (pss_one (ps_ret (pv 4))))), ?_⟩
    refine ⟨_, rfl, _, rfl, a, r, m, rfl, hT, hH.imp fun h1 _ g hQ => ?_⟩
    refine ⟨big (by show 0 ≤ 1000; omega), fun p hp => ?_⟩
    have s1 : Same H (upd H p (.lst [])) := same_upd hp
    have g2 := g.2.1
    have g1 := g.1
    refine ⟨_, rfl, _, rfl, by omega, by omega, ?_⟩
    rw [Int.toNat_natCast]
    refine for_r0 (fun i σ H' => ∃ (c : Addr) (y z : Option V), σ = [some (.ref c), some (.int m), some (.ref b), some (.int (t : Int)), some (.ref p), y, z] ∧ Same H H' ∧ SqT K H' c (I (draws m ns r i).2) ∧ H' p = some (.lst (N (draws m ns r i).1)))
      ⟨a, none, none, rfl, s1, s1.tup hT, upd_same⟩ ?_ ?_
    · rintro i σ H' hi ⟨c, y, z, rfl, sm, hc, hp1⟩
      have hrl := draws_rlen m ns r i
      have hdl := draws_len m ns r i
      refine ⟨_, rfl, _, rfl, _, rfl, c, b, (draws m ns r i).2, ns, i, rfl, hc, sm.seq hN, by omega, by omega, fun H2 s2 => ?_⟩
      have hp2 := s2 _ _ hp1
      refine ⟨_, rfl, .inl ⟨rfl, _, lstOf hp2⟩, _, rfl, p, _, _, rfl, rfl, hp2, small1000 (by rw [len_N]; omega), ?_⟩
      have sm2 : Same H (upd H2 p (.lst (N (draws m ns r i).1 ++ [V.int ((nextOf (draws m ns r i).2 ns i : Nat) : Int)]))) := fun b o e => by
        rw [upd_ne (ne_of_none e hp)]
        exact s2 _ _ (sm _ _ e)
      have hc2 : SqT K (upd H2 p (.lst (N (draws m ns r i).1 ++ [V.int ((nextOf (draws m ns r i).2 ns i : Nat) : Int)]))) c (I (draws m ns r i).2) := tupUpd hp2 (s2.tup hc)
      refine ⟨_, rfl, _, rfl, _, rfl, c, (draws m ns r i).2, m, _, rfl, hc2, nextOf_lt i (by omega), by omega, by omega, fun H3 p3 s3 h3 => ?_⟩
      refine ⟨p3, _, _, rfl, sm2.trans s3, h3, ?_⟩
      rw [s3 _ _ upd_same]
      show some (HO.lst _) = some (HO.lst (N ((draws m ns r i).1 ++ [_])))
      unfold N
      rw [List.map_append]
      rfl
    · rintro σ H' ⟨c, y, z, rfl, sm, hc, hp1⟩
      exact ⟨_, rfl, hQ H' p sm hp hp1⟩
theorem ok_counted (D : Df K mg "counted" s_counted p_counted f fd) (B : Bt mg) (CM : Cl K mg "NoMachine" cM)
    (D1 : Df K mg "need_machines" s_need_machines p_need_machines f1 fd1) (G1 : FnOk P w K mg base (L2N.CX P w) 1 f1 fd1 p_need_machines (sp_need_machines cR)) :
    FnOk P w K mg base (L2N.CX P w) 2 f fd p_counted (sp_counted K cR cM) := by
  refine Fun.okN D.F sc_counted (fun vs H Q E h => ?_) (fun cdv A outer s H vs Q E hr h => ?_)
  · obtain ⟨b, zs, m, rfl, _⟩ := h
    rfl
  · obtain ⟨b, zs, m, rfl, hO, hz, hR, hE, hQ⟩ := h
    refine ⟨_, pss_cons (ps_expr (pe_call G1 hr (by rfl) D1.g D1.F.kp D1.b .nil (L2N.passes_call (L2N.takes_of rfl rfl rfl rfl) (fun _ _ _ _ h => h)) (pa_cons (pv 1) pa_nil)))
      (pss_cons (ps_set (i := 2) sc_counted.nd rfl (.inl rfl) (pe_op op_rep (pe_lst (pa_cons pe_int pa_nil)) (pv 1)))
      (pss_cons (ps_for (passes_of rfl) rfl (pi_list (pv 0)) (pg_name (i := 3) sc_counted.nd rfl (.inl rfl))
        (pss_cons (ps_if (PW.pt (pw_or (pt_cmpR op_lt (pv 3) pe_int (nomark _)) (pw_or1 (pt_cmpR op_ge (pv 3) (pv 1) (nomark _)))))
          (pss_one (L2N.ps_raise rfl (L2N.takes_of rfl rfl rfl rfl) (L2N.pmk_own PySem.F.excBase_ValueError CM.x CM.g CM.k (raises_own CM.b CM.t) rfl))) pss_nil)
        (pss_one (ps_asg (pe_op op_add (pe_ix ix_list (pv 2) (pv 3) (fun _ _ => rfl)) pe_int) (pg_sub (pv 2) (pv 3) set_list)))))
      (pss_one (ps_ret (pv 2))))), ?_⟩
    refine ⟨_, rfl, m, rfl, hR, fun h1 h2 => ?_⟩
    have hE := hE h1 h2
    have hQ := hQ h1 h2
    obtain ⟨n, rfl⟩ : ∃ n : Nat, m = (n : Int) := ⟨m.toNat, by omega⟩
    rw [Int.toNat_natCast] at hQ
    refine ⟨big (by show 1 ≤ 1000; omega), fun q hq => ⟨_, rfl, q, _, _, rfl, rfl, upd_same, by omega, by omega, ?_, fun p hp => ?_⟩⟩
    · rw [Int.toNat_natCast]
      exact big (by show 1 * n ≤ 1000; omega)
    have hpq : H p = none := (same_upd hq).free hp
    have s1 : Same H (upd (upd H q (.lst [V.int 0])) p (.lst (List.replicate (n : Int).toNat [V.int 0]).flatten)) := (same_upd hq).trans (same_upd hp)
    have e0 : (List.replicate (n : Int).toNat [V.int 0]).flatten = I (counts [] n) := by
      rw [Int.toNat_natCast]
      unfold counts I
      rw [List.map_map]
      have e : (V.int ∘ fun (k : Nat) => ((([] : List Int).count (k : Int) : Nat) : Int)) = fun _ => V.int 0 := by
        funext k
        rfl
      rw [e, List.map_const', List.length_range]
      induction n with
      | zero => rfl
      | succ n ih => 
        rw [List.replicate_succ, List.flatten_cons, flat_one, List.replicate_succ]
        rfl
    refine ⟨_, rfl, b, rfl, ⟨_, s1.seq hO⟩, for_list (K := K) (a := b) (xs := I zs)
      (fun i σ H' => ∃ y : Option V, σ = [some (.ref b), some (.int (n : Int)), some (.ref p), y] ∧ Same H H' ∧ H' p = some (.lst (I (counts (zs.take i) n))) ∧ ∀ z ∈ zs.take i, 0 ≤ z ∧ z < (n : Int))
      ⟨none, rfl, s1, by rw [upd_same, e0, List.take_zero], fun z h => by simp at h⟩
      (fun i σ H' _ ⟨_, _, s5, _⟩ => s5.seq hO) ?_ ?_⟩
    · rintro i x σ H' hi ⟨y, rfl, sm, hp1, hall⟩
      have hil : i < zs.length := by
        have := (List.getElem?_eq_some_iff.mp hi).1
        rw [len_I] at this
        exact this
      have ex : x = .int zs[i] := by
        rw [List.getElem?_map, List.getElem?_eq_getElem hil] at hi
        exact (Option.some.inj hi).symm
      subst ex
      have hmem : zs[i] ∈ zs := List.getElem_mem hil
      refine ⟨_, rfl, _, _, rfl, rfl, _, rfl, ite2 (fun e => ?_) (fun e => ?_)⟩
      · have e := of_decide_eq_true e
        exact iteT (hE ⟨_, hmem, .inl e⟩ H' sm)
      · have e : ¬ zs[i] < 0 := fun q => e (decide_eq_true q)
        refine ⟨_, rfl, _, rfl, _, _, rfl, rfl, _, rfl, ite2 (fun e2 => ?_) (fun e2 => ?_)⟩
        · have e2 := of_decide_eq_true e2
          exact hE ⟨_, hmem, .inr e2⟩ H' sm
        · have e2 : ¬ (n : Int) ≤ zs[i] := fun q => e2 (decide_eq_true q)
          obtain ⟨k, hk⟩ : ∃ k : Nat, zs[i] = (k : Int) := ⟨zs[i].toNat, by omega⟩
          have hkn : k < n := by omega
          have lc : (counts (zs.take i) n).length = n := by unfold counts; rw [List.length_map, List.length_range]
          refine ⟨_, rfl, _, rfl, p, _, _, _, rfl, rfl, lstOf hp1, atI_I (k := k) hk (by omega), _, _, rfl, rfl, ?_⟩
          refine ⟨_, rfl, _, rfl, p, _, _, k, rfl, rfl, hp1, ?_, ?_⟩
          · rw [len_I, lc, hk]
            unfold ixN
            rw [if_pos (by omega), if_pos (by omega)]
            rfl
          · refine ⟨_, rfl, fun b o e => ?_, ?_, fun z hz => ?_⟩
            · rw [upd_ne (ne_of_none e hpq)]
              exact sm _ _ e
            · rw [upd_same, List.take_succ, List.getElem?_eq_getElem hil]
              show some (HO.lst _) = some (HO.lst (I (counts (zs.take i ++ [zs[i]]) n)))
              rw [hk, counts_snoc hkn]
              unfold I
              rw [List.map_set]
            · rw [List.take_succ, List.getElem?_eq_getElem hil] at hz
              rcases List.mem_append.mp hz with h | h
              · exact hall z h
              · have : z = zs[i] := by simpa using h
                omega
    · rintro σ H' ⟨y, rfl, sm, hp1, hall⟩
      rw [len_I, List.take_length] at hp1 hall
      exact ⟨_, rfl, hQ hall H' p sm hpq hp1⟩
theorem ok_traced (D : Df K mg "traced" s_traced p_traced f fd) (B : Bt mg)
    (D1 : Df K mg "need_ring" s_need_ring p_need_ring f1 fd1) (G1 : FnOk P w K mg base (L2N.CX P w) 2 f1 fd1 p_need_ring (sp_need_ring K cN cR))
    (D2 : Df K mg "step_of" s_step_of p_step_of f2 fd2) (G2 : FnOk P w K mg base (L2N.CX P w) 2 f2 fd2 p_step_of (sp_step_of K cM cW)) :
    FnOk P w K mg base (L2N.CX P w) 3 f fd p_traced (sp_traced K cN cR cM cW) := by
  refine Fun.okN D.F sc_traced (fun vs H Q E h => ?_) (fun cdv A outer s H vs Q E hr h => ?_)
  · obtain ⟨a, b, r, zs, m, rfl, _⟩ := h
    rfl
  · obtain ⟨a, b, r, zs, m, rfl, hT, hO, hz, hH⟩ := h
    refine ⟨_, pss_cons (ps_expr (pe_call G1 hr (by rfl) D1.g D1.F.kp D1.b .nil (L2N.passes_call (L2N.takes_of rfl rfl rfl rfl) (fun _ _ _ _ h => h)) (pa_cons (pv 0) (pa_cons (pv 1) pa_nil))))
      (pss_cons (ps_set (i := 3) sc_traced.nd rfl (.inl rfl) (pe_listRg rfl (by rfl) B.list (prg_1 (by rfl) B.range (pe_callB call_len_seq (by rfl) B.len PySem.boot_len (pa_cons (pv 0) pa_nil)))))
      (pss_cons (ps_set (i := 4) sc_traced.nd rfl (.inl rfl) (pe_callB call_len_seq (by rfl) B.len PySem.boot_len (pa_cons (pv 0) pa_nil)))
      (pss_cons (ps_for (passes_of rfl) rfl (pi_list (pv 2)) (pg_name (i := 5) sc_traced.nd rfl (.inl rfl))
        (pss_cons (ps_set (i := 0) sc_traced.nd rfl (.inl rfl) (pe_call G2 hr (by rfl) D2.g D2.F.kp D2.b .nil (L2N.passes_call (L2N.takes_of rfl rfl rfl rfl) (fun _ _ _ _ h => h)) (pa_cons (pv 0) (pa_cons (pv 1) (pa_cons (pv 5) pa_nil)))))
        (pss_one (ps_if (pt_cmpR op_eq (pv 5) pe_int (nomark _))
          (pss_cons (ps_asg (pv 4) (pg_sub (pv 3) pe_int set_list)) (pss_one (ps_set (i := 4) sc_traced.nd rfl (.inl rfl) (pe_op op_add (pv 4) pe_int))))
          (pss_one (ps_asg (pe_ix ix_list (pv 3) (pe_op op_sub (pv 5) pe_int) (fun _ _ => rfl)) (pg_sub (pv 3) (pv 5) set_list)))))))
      (pss_one (ps_ret (pv 3)))))), ?_⟩
    refine ⟨_, rfl, _, rfl, a, r, m, rfl, hT, hH.imp fun h1 _ g hS => ?_⟩
    obtain ⟨hE, hQ⟩ := hS
    have g1 := g.1
    have g2 := g.2.1
    refine ⟨_, rfl, a, _, rfl, .inr hT, _, rfl, ?_⟩
    rw [len_I]
    refine ⟨RgOk.of_le (by omega) (by omega) (by omega) (by omega), fun p hp => ?_⟩
    have s1 : Same H (upd H p (.lst (rgV 0 (r.length : Int)))) := same_upd hp
    have e0 : rgV 0 (r.length : Int) = I (marks r.length) := by
      unfold rgV I marks
      rw [Int.sub_zero, Int.toNat_natCast, List.map_map]
      refine List.map_congr_left fun k _ => ?_
      show V.int (0 + (k : Int)) = V.int (k : Int)
      rw [Int.zero_add]
    refine ⟨_, rfl, a, _, rfl, .inr (s1.tup hT), ?_⟩
    rw [len_I]
    have lm : (marks r.length).length = r.length := by unfold marks; rw [List.length_map, List.length_range]
    refine ⟨_, rfl, b, rfl, ⟨_, s1.seq hO⟩, for_list (K := K) (a := b) (xs := I zs)
      (fun i σ H' => ∃ (c : Addr) (r' fs : List Int) (fr : Int) (y : Option V), σ = [some (.ref c), some (.int m), some (.ref b), some (.ref p), some (.int fr), y] ∧ Same H H' ∧ SqT K H' c (I r') ∧ r'.length = r.length ∧
        H' p = some (.lst (I fs)) ∧ fs.length = r.length ∧ tracedA m (marks r.length) r.length r zs = tracedA m fs fr r' (zs.drop i))
      ⟨a, r, marks r.length, r.length, none, rfl, s1, s1.tup hT, rfl, by rw [upd_same, e0], lm, rfl⟩
      (fun i σ H' _ ⟨_, _, _, _, _, _, s5, _⟩ => s5.seq hO) ?_ ?_⟩
    · rintro i x σ H' hi ⟨c, r', fs, fr, y, rfl, sm, hc, hrl, hp1, hfl, hg⟩
      have hil : i < zs.length := by
        have := (List.getElem?_eq_some_iff.mp hi).1
        rw [len_I] at this
        exact this
      have ex : x = .int zs[i] := by
        rw [List.getElem?_map, List.getElem?_eq_getElem hil] at hi
        exact (Option.some.inj hi).symm
      subst ex
      rw [List.drop_eq_getElem_cons hil] at hg
      refine ⟨_, rfl, _, rfl, _, rfl, c, r', m, zs[i], rfl, hc, by omega, by omega, fun d hd => ?_, fun r2 hr2 H2 p2 s2 h2 => ?_⟩
      · refine hE d H' ?_ sm
        rw [hg]
        unfold tracedA
        rw [hd]
      · have e2 : tracedA m (marks r.length) r.length r zs = (if zs[i] = 0 then tracedA m (fs.set 0 fr) (fr + 1) r2 (zs.drop (i + 1)) else tracedA m (fs.set zs[i].toNat (at0 fs (zs[i].toNat - 1))) fr r2 (zs.drop (i + 1))) := by
          rw [hg]
          conv => lhs; unfold tracedA
          rw [hr2]
        have in1 : 0 ≤ zs[i] ∧ zs[i] < r'.length := by
          unfold stepR at hr2
          split at hr2
          · cases hr2
          · omega
        have hp2 := s2 _ _ hp1
        have s3 : ∀ o, Same H (upd H2 p o) := fun o b u e => by
          rw [upd_ne (ne_of_none e hp)]
          exact s2 _ _ (sm _ _ e)
        refine ⟨_, rfl, rfl, _, rfl, ite2 (fun e => ?_) (fun e => ?_)⟩
        · have e := V.int.inj (of_decide_eq_true e)
          rw [if_pos e] at e2
          refine ⟨_, rfl, _, rfl, p, _, _, 0, rfl, rfl, hp2, ?_, ?_⟩
          · rw [len_I, hfl]
            unfold ixN
            rw [if_pos (by omega), if_pos (by omega)]
            rfl
          refine ⟨_, rfl, _, _, rfl, rfl, ?_⟩
          refine ⟨p2, r2, fs.set 0 fr, fr + 1, _, rfl, s3 _, tupUpd hp2 h2, (stepR_len hr2).trans hrl, ?_, ?_, e2⟩
          · rw [upd_same]
            unfold I
            rw [List.map_set]
          · rw [List.length_set, hfl]
        · have e : ¬ zs[i] = 0 := fun q => e (decide_eq_true (by rw [q]))
          rw [if_neg e] at e2
          refine ⟨_, rfl, _, rfl, _, _, rfl, rfl, p, _, _, _, rfl, rfl, lstOf hp2, atI_I (k := zs[i].toNat - 1) (by omega) (by omega), ?_⟩
          refine ⟨_, rfl, _, rfl, p, _, _, zs[i].toNat, rfl, rfl, hp2, ?_, ?_⟩
          · rw [len_I, hfl]
            unfold ixN
            rw [if_pos in1.1, if_pos (by omega)]
          · refine ⟨p2, r2, _, fr, _, rfl, s3 _, tupUpd hp2 h2, (stepR_len hr2).trans hrl, ?_, ?_, e2⟩
            · rw [upd_same]
              unfold I
              rw [List.map_set]
            · rw [List.length_set, hfl]
    · rintro σ H' ⟨c, r', fs, fr, y, rfl, sm, hc, hrl, hp1, hfl, hg⟩
      rw [len_I, List.drop_length] at hg
      exact ⟨_, rfl, hQ fs H' p hg sm hp hp1⟩
theorem ok_most (D : Df K mg "most" s_most p_most f fd)
    (D1 : Df K mg "need_machines" s_need_machines p_need_machines f1 fd1) (G1 : FnOk P w K mg base (L2N.CX P w) 1 f1 fd1 p_need_machines (sp_need_machines cR)) :
    FnOk P w K mg base (L2N.CX P w) 2 f fd p_most (sp_most cR) := by
  refine Fun.okN D.F sc_most (fun vs H Q E h => ?_) (fun cdv A outer s H vs Q E hr h => ?_)
  · obtain ⟨m, rfl, _⟩ := h
    rfl
  · obtain ⟨m, rfl, hE, hQ⟩ := h
    refine ⟨_, pss_cons (ps_expr (pe_call G1 hr (by rfl) D1.g D1.F.kp D1.b .nil (L2N.passes_call (L2N.takes_of rfl rfl rfl rfl) (fun _ _ _ _ h => h)) (pa_cons (pv 0) pa_nil)))
      (pss_one (ps_ret (pe_op op_fdiv (pe_op op_mul (pe_op op_mul pe_int (pv 0)) (pe_op op_sub (pv 0) pe_int)) pe_int))), ?_⟩
    refine ⟨_, rfl, m, rfl, hE, fun h1 h2 => ?_⟩
    have hQ := hQ h1 h2
    refine ⟨_, rfl, _, _, rfl, rfl, .inl (by decide), _, rfl, _, _, rfl, rfl, _, _, rfl, rfl, .inl (by constructor <;> omega), _, _, rfl, rfl, ⟨by decide, by decide⟩, ?_⟩
    have e : 3 * m * (m - 1) / 2 = ((most m.toNat : Nat) : Int) := by
      obtain ⟨n, rfl⟩ : ∃ n : Nat, m = (n : Int) := ⟨m.toNat, by omega⟩
      unfold most
      rw [Int.toNat_natCast, Int.natCast_ediv, Int.natCast_mul, Int.natCast_mul, Int.natCast_sub (by omega)]
      rfl
    show Q (.int (3 * m * (m - 1) / 2)) H
    rw [e]
    exact hQ
theorem ok_healing (D : Df K mg "healing" s_healing p_healing f fd) (B : Bt mg) (CN : Cl K mg "NoNumbers" cN)
    (D1 : Df K mg "need_ring" s_need_ring p_need_ring f1 fd1) (G1 : FnOk P w K mg base (L2N.CX P w) 2 f1 fd1 p_need_ring (sp_need_ring K cN cR))
    (D2 : Df K mg "most" s_most p_most f2 fd2) (G2 : FnOk P w K mg base (L2N.CX P w) 2 f2 fd2 p_most (sp_most cR))
    (D3 : Df K mg "able_of" s_able_of p_able_of f3 fd3) (G3 : FnOk P w K mg base (L2N.CX P w) 2 f3 fd3 p_able_of (sp_able_of K))
    (D4 : Df K mg "next_of" s_next_of p_next_of f4 fd4) (G4 : FnOk P w K mg base (L2N.CX P w) 3 f4 fd4 p_next_of (sp_next_of K))
    (D5 : Df K mg "moved" s_moved p_moved f5 fd5) (G5 : FnOk P w K mg base (L2N.CX P w) 1 f5 fd5 p_moved (sp_moved K)) :
    FnOk P w K mg base (L2N.CX P w) 4 f fd p_healing (sp_healing K cN cR) := by
  refine Fun.okN D.F sc_healing (fun vs H Q E h => ?_) (fun cdv A outer s H vs Q E hr h => ?_)
  · obtain ⟨a, b, r, ns, m, rfl, _⟩ := h
    rfl
  · obtain ⟨a, b, r, ns, m, rfl, hT, hN, hH⟩ := h
    refine ⟨_, pss_cons (ps_expr (pe_call G1 (hr.mono (by decide)) (by rfl) D1.g D1.F.kp D1.b .nil (L2N.passes_call (L2N.takes_of rfl rfl rfl rfl) (fun _ _ _ _ h => h)) (pa_cons (pv 0) (pa_cons (pv 1) pa_nil))))
      (pss_cons (ps_if (pt_cmpR op_lt (pv 1) (pe_callB call_len_seq (by rfl) B.len PySem.boot_len (pa_cons (pv 0) pa_nil)) (nomark _))
        (pss_one (L2N.ps_raise rfl (L2N.takes_of rfl rfl rfl rfl) (L2N.pmk_own PySem.F.excBase_ValueError CN.x CN.g CN.k (raises_own CN.b CN.t) rfl))) pss_nil)
      (pss_cons (ps_set (i := 3) sc_healing.nd rfl (.inl rfl) (pe_lst pa_nil))
      (pss_cons (ps_for (passes_of rfl) rfl (pi_range1 rfl B.range (pa_cons (pe_call G2 (hr.mono (by decide)) (by rfl) D2.g D2.F.kp D2.b .nil passN (pa_cons (pe_callB call_len_seq (by rfl) B.len PySem.boot_len (pa_cons (pv 0) pa_nil)) pa_nil)) pa_nil)) (pg_name (i := 4) sc_healing.nd rfl (.inl rfl))
        (pss_cons (ps_if (pt_cmpR op_eq (pe_callB call_len_seq (by rfl) B.len PySem.boot_len (pa_cons (pe_call G3 (hr.mono (by decide)) (by rfl) D3.g D3.F.kp D3.b .nil passN (pa_cons (pv 0) pa_nil)) pa_nil)) pe_int (nomark _)) (pss_one (ps_ret (pv 3))) pss_nil)
        (pss_cons (ps_set (i := 5) sc_healing.nd rfl (.inl rfl) (pe_call G4 (hr.mono (by decide)) (by rfl) D4.g D4.F.kp D4.b .nil passN (pa_cons (pv 0) (pa_cons (pv 2) (pa_cons (pv 4) pa_nil)))))
        (pss_cons (ps_expr (pe_bm PySem.F.plainAttrs_list PySem.F.slot_list_append PySem.F.type_list_append mt_append (pv 3) (pa_cons (pv 5) pa_nil)))
        (pss_one (ps_set (i := 0) sc_healing.nd rfl (.inl rfl) (pe_call G5 (hr.mono (by decide)) (by rfl) D5.g D5.F.kp D5.b .nil passN (pa_cons (pv 0) (pa_cons (pv 1) (pa_cons (pv 5) pa_nil))))))))))
      (pss_one (ps_ret (pv 3)))))), ?_⟩
    refine ⟨_, rfl, _, rfl, a, r, m, rfl, hT, hH.imp fun h1 _ g hS => ?_⟩
    obtain ⟨hE, hQ⟩ := hS
    have g1 := g.1
    have g2 := g.2.1
    refine ⟨_, rfl, _, rfl, a, _, rfl, .inr hT, _, _, rfl, rfl, _, rfl, ?_⟩
    rw [len_I]
    refine ite2 (fun e => ?_) (fun e => ?_)
    · exact hE (of_decide_eq_true e)
    have e : (r.length : Int) ≤ m := by
      have : ¬ m < (r.length : Int) := fun q => e (decide_eq_true q)
      omega
    have hQ := hQ e
    refine ⟨big (by show 0 ≤ 1000; omega), fun p hp => ?_⟩
    have s1 : Same H (upd H p (.lst [])) := same_upd hp
    refine ⟨_, rfl, a, _, rfl, .inr (s1.tup hT), (r.length : Int), by rw [len_I]; rfl, fun q => by omega, fun _ _ => ?_⟩
    rw [Int.toNat_natCast]
    have mb : most r.length ≤ 198 := most_le g2
    refine ⟨_, rfl, by omega, by omega, ?_⟩
    rw [Int.toNat_natCast]
    refine for_r0 (fun i σ H' => ∃ (c : Addr) (r' : List Int) (o : List Nat) (y z : Option V), σ = [some (.ref c), some (.int m), some (.ref b), some (.ref p), y, z] ∧ Same H H' ∧ SqT K H' c (I r') ∧ r'.length = r.length ∧ H' p = some (.lst (N o)) ∧ o.length ≤ i ∧
        i ≤ most r.length ∧ healA m ns [] r 0 (most r.length) = healA m ns o r' i (most r.length - i))
      ⟨a, r, [], none, none, rfl, s1, s1.tup hT, rfl, upd_same, Nat.le_refl _, Nat.zero_le _, rfl⟩ ?_ ?_
    · rintro i σ H' hi ⟨c, r', o, y, z, rfl, sm, hc, hrl, hp1, hol, hile, hh⟩
      obtain ⟨u, hu⟩ : ∃ u, most r.length - i = u + 1 := ⟨most r.length - i - 1, by omega⟩
      rw [hu, healA_succ] at hh
      refine ⟨_, rfl, c, r', rfl, hc, by omega, fun H2 q2 s2 hq2 e2 => ?_⟩
      refine ⟨q2, _, rfl, .inl (lstOf e2), rfl, _, rfl, ?_⟩
      rw [len_N]
      have hp2 := s2 _ _ hp1
      refine ite2 (fun ee => ?_) (fun ee => ?_)
      · have ee := V.int.inj (of_decide_eq_true ee)
        rw [if_pos (by omega)] at hh
        refine ⟨_, rfl, hQ H2 p (sm.trans s2) hp ?_⟩
        rw [hh]
        exact hp2
      · have ee : ¬ (able r').length = 1 := fun q => ee (decide_eq_true (by rw [q]; rfl))
        rw [if_neg ee] at hh
        refine ⟨_, rfl, _, rfl, _, rfl, c, b, r', ns, i, rfl, s2.tup hc, (sm.trans s2).seq hN, by omega, by omega, fun H3 s3 => ?_⟩
        have hp3 := s3 _ _ hp2
        refine ⟨_, rfl, .inl ⟨rfl, _, lstOf hp3⟩, _, rfl, p, _, _, rfl, rfl, hp3, small1000 (by rw [len_N]; omega), ?_⟩
        have hc3 : SqT K (upd H3 p (.lst (N o ++ [V.int ((nextOf r' ns i : Nat) : Int)]))) c (I r') := tupUpd hp3 ((s2.trans s3).tup hc)
        refine ⟨_, rfl, _, rfl, _, rfl, c, r', m, _, rfl, hc3, nextOf_lt i (by omega), by omega, by omega, fun H4 p4 s4 h4 => ?_⟩
        refine ⟨p4, _, o ++ [nextOf r' ns i], _, _, rfl, fun b o e => s4 _ _ ?_, h4, (moved_len _ _ _).trans hrl, ?_, ?_, by omega, ?_⟩
        · rw [upd_ne (ne_of_none e hp)]
          exact s3 _ _ (s2 _ _ (sm _ _ e))
        · rw [s4 _ _ upd_same]
          unfold N
          rw [List.map_append]
          rfl
        · rw [List.length_append]
          show o.length + 1 ≤ i + 1
          omega
        · rw [hh, show most r.length - (i + 1) = u by omega]
    · rintro σ H' ⟨c, r', o, y, z, rfl, sm, hc, hrl, hp1, hol, hile, hh⟩
      rw [Nat.sub_self, healA_zero] at hh
      refine ⟨_, rfl, hQ H' p sm hp ?_⟩
      rw [hh]
      exact hp1
theorem ok_turns (D : Df K mg "turns" s_turns p_turns f fd) (B : Bt mg) (CH : Cl K mg "NotHealed" cH)
    (D1 : Df K mg "need_ring" s_need_ring p_need_ring f1 fd1) (G1 : FnOk P w K mg base (L2N.CX P w) 2 f1 fd1 p_need_ring (sp_need_ring K cN cR))
    (D2 : Df K mg "able_of" s_able_of p_able_of f2 fd2) (G2 : FnOk P w K mg base (L2N.CX P w) 2 f2 fd2 p_able_of (sp_able_of K)) :
    FnOk P w K mg base (L2N.CX P w) 3 f fd p_turns (sp_turns K cN cR cH) := by
  refine Fun.okN D.F sc_turns (fun vs H Q E h => ?_) (fun cdv A outer s H vs Q E hr h => ?_)
  · obtain ⟨a, r, m, rfl, _⟩ := h
    rfl
  · obtain ⟨a, r, m, rfl, hT, hH⟩ := h
    refine ⟨_, pss_cons (ps_expr (pe_call G1 hr (by rfl) D1.g D1.F.kp D1.b .nil (L2N.passes_call (L2N.takes_of rfl rfl rfl rfl) (fun _ _ _ _ h => h)) (pa_cons (pv 0) (pa_cons (pv 1) pa_nil))))
      (pss_cons (ps_set (i := 2) sc_turns.nd rfl (.inl rfl) (pe_call G2 hr (by rfl) D2.g D2.F.kp D2.b .nil passN (pa_cons (pv 0) pa_nil)))
      (pss_cons (ps_if (pt_cmpR op_ne (pe_callB call_len_seq (by rfl) B.len PySem.boot_len (pa_cons (pv 2) pa_nil)) pe_int (nomark _))
        (pss_one (L2N.ps_raise rfl (L2N.takes_of rfl rfl rfl rfl) (L2N.pmk_own PySem.F.excBase_ValueError CH.x CH.g CH.k (raises_own CH.b CH.t) rfl))) pss_nil)
      (pss_one (ps_ret (pe_op op_cat (pe_listRg rfl (by rfl) B.list (prg_2 (by rfl) B.range (pe_ix ix_list (pv 2) pe_int (fun _ _ => rfl)) (pe_callB call_len_seq (by rfl) B.len PySem.boot_len (pa_cons (pv 0) pa_nil))))
        (pe_listRg rfl (by rfl) B.list (prg_1 (by rfl) B.range (pe_ix ix_list (pv 2) pe_int (fun _ _ => rfl))))))))), ?_⟩
    refine ⟨_, rfl, _, rfl, a, r, m, rfl, hT, hH.imp fun _ _ g hS => ?_⟩
    obtain ⟨hE, hQ⟩ := hS
    have g1 := g.1
    have g2 := g.2.1
    refine ⟨_, rfl, a, r, rfl, hT, by omega, fun H1 p s1 hp e1 => ?_⟩
    refine ⟨_, rfl, p, _, rfl, .inl (lstOf e1), rfl, _, rfl, ?_⟩
    rw [len_N]
    by_cases c : (able r).length = 1
    · obtain ⟨k, hk⟩ : ∃ k, able r = [k] := by
        cases q : able r with
        | nil => rw [q] at c; cases c
        | cons x l =>
          rw [q] at c
          cases l with
          | nil => exact ⟨x, rfl⟩
          | cons _ _ => simp at c
      have hkr : k < r.length := (mem_able.mp (by rw [hk]; simp)).1
      refine iteNS (by rw [c]; rfl) ?_
      rw [hk] at e1
      have at1 : atI (N [k]) 0 = some (.int (k : Int)) := atI_nat (j := 0) rfl
      refine ⟨_, rfl, p, _, 0, _, rfl, rfl, lstOf e1, at1, _, rfl, a, _, rfl, .inr (s1.tup hT), _, _, rfl, rfl, ?_⟩
      rw [len_I]
      refine ⟨RgOk.of_le (by omega) (by omega) (by omega) (by omega), fun q1 hq1 => ?_⟩
      have e2 : (upd H1 q1 (.lst (rgV (k : Int) (r.length : Int)))) p = some (.lst (N [k])) := (same_upd hq1) _ _ e1
      refine ⟨_, rfl, p, _, 0, _, rfl, rfl, lstOf e2, at1, _, rfl, RgOk.of_le (by omega) (by omega) (by omega) (by omega), fun q2 hq2 => ?_⟩
      have s3 := (same_upd (o := .lst (rgV (k : Int) (r.length : Int))) hq1).trans (same_upd (o := .lst (rgV 0 (k : Int))) hq2)
      refine ⟨q1, q2, _, _, rfl, rfl, (same_upd hq2) _ _ upd_same, upd_same, big ?_, fun q3 hq3 => ?_⟩
      · rw [rgV_length, rgV_length]
        omega
      · refine hQ k hk _ q3 (s1.trans (s3.trans (same_upd hq3))) (s1.free (s3.free hq3)) ?_
        rw [upd_same, rg_round (by omega)]
    · have c2 : ¬ (V.int ((able r).length : Int) = V.int 1) := fun q => c (by have := V.int.inj q; omega)
      rw [decide_eq_false c2]
      exact hE c H1 s1
theorem ok_moved2 (D : Df K mg "moved" s_moved p_moved f fd) : FnOk P w K mg base (L2N.CX P w) 1 f fd p_moved (sp_moved2 K) := by
  refine Fun.okN D.F sc_moved (fun vs H Q E h => ?_) (fun cdv A outer s H vs Q E hr h => ?_)
  · obtain ⟨a, r, m, k, rfl, _⟩ := h
    rfl
  · obtain ⟨a, r, m, k, rfl, hT, hk, hl, hm, hQ⟩ := h
    refine ⟨_, pss_cons (ps_set (i := 3) sc_moved.nd rfl (.inl rfl) (pe_ix ix_tup (pv 0) (pe_op op_sub (pv 2) pe_int) (fun _ _ => rfl)))
      (pss_cons (ps_if (pt_cmpR op_eq (pv 2) pe_int (nomark _)) (pss_one (ps_set (i := 3) sc_moved.nd rfl (.inl rfl) (pe_op op_mod (pe_op op_add (pe_ix ix_tup (pv 0) pe_int (fun _ _ => rfl)) pe_int) (pv 1)))) pss_nil)
      (pss_one (ps_ret (pe_op op_catG (pe_op op_catG (pe_slice sl_tupS (pv 0) po_none (po_some (pv 2))) (pe_tup (pa_cons (pv 3) pa_nil))) (pe_slice sl_tupS (pv 0) (po_some (pe_op op_add (pv 2) pe_int)) po_none))))), ?_⟩
    have fin : ∀ v : Int, v = (if k = 0 then (at0 r 0 + 1) % m else at0 r (k - 1)) → ∀ H' p, Same H H' → H' p = some (.tup (((I r).take k ++ [V.int v]) ++ (I r).drop (k + 1))) → Q (.ref p) H' := fun v ev H' p sm hs => by
      refine hQ H' p sm ?_
      have e : I (HR.moved m r k) = ((I r).take k ++ [V.int v]) ++ (I r).drop (k + 1) := by
        unfold HR.moved I
        rw [List.set_eq_take_append_cons_drop, if_pos hk, ← ev, List.map_append, List.map_take, List.map_cons, List.map_drop, List.append_assoc]
        rfl
      show H' p = some (.tup (I (HR.moved m r k)))
      rw [e]
      exact hs
    have hlen : (I r).length = r.length := len_I r
    have c1 : cutV (I r) none (some (k : Int)) = (I r).take k := by
      unfold cutV
      rw [HT.sIx_none, HT.sIx_nat, hlen, Nat.min_eq_left (by omega), List.drop_zero, Nat.sub_zero]
    have c2 : cutV (I r) (some ((k : Int) + 1)) none = (I r).drop (k + 1) := by
      unfold cutV
      rw [HT.sIx_none, show ((k : Int) + 1) = ((k + 1 : Nat) : Int) by omega, HT.sIx_nat, hlen, Nat.min_eq_left (by omega)]
      exact List.take_of_length_le (by rw [List.length_drop, hlen]; exact Nat.le_refl _)
    have two : ∀ v : Int, v = (if k = 0 then (at0 r 0 + 1) % m else at0 r (k - 1)) → ∀ q1 H1, Same H H1 → SqT K H1 q1 ((I r).take k) → ∀ q, H1 q = none → ∀ q2 H2, Same (upd H1 q (.tup [V.int v])) H2 → H2 q2 = some (.tup ((I r).take k ++ [V.int v])) →
        ∀ q3 H3, Same H2 H3 → SqT K H3 q3 ((I r).drop (k + 1)) → ∃ a b xs ys, V.ref q2 = .ref a ∧ V.ref q3 = .ref b ∧ SqT K H3 a xs ∧ SqT K H3 b ys ∧ (xs = [] → H3 b = some (.tup ys)) ∧ (ys = [] → H3 a = some (.tup xs)) ∧ xs.length + ys.length ≤ sizeLine ∧ ∀ p H', Same H3 H' → H' p = some (.tup (xs ++ ys)) → Q (.ref p) H' := fun v ev q1 H1 s1 h1 q hq q2 H2 s2 h2 q3 H3 s3 h3 => by
      refine ⟨q2, q3, _, _, rfl, rfl, s3.tup (tupOf h2), h3, (fun q => by simp at q), (fun _ => s3 _ _ h2), big ?_, fun p H' s4 h4 => fin v ev H' p (s1.trans ((same_upd hq).trans (s2.trans (s3.trans s4)))) h4⟩
      rw [List.length_append, List.length_take, List.length_drop, hlen]
      show min k r.length + 1 + (r.length - (k + 1)) ≤ 1000
      omega
    by_cases c : k = 0
    · subst c
      refine ⟨_, rfl, _, rfl, _, _, rfl, rfl, a, _, _, _, rfl, rfl, hT, atI_I1 hk, ?_⟩
      refine ⟨_, rfl, rfl, _, rfl, ite2 (fun e => ?_) (fun e => absurd (decide_eq_true rfl) e)⟩
      refine ⟨_, rfl, a, _, _, _, rfl, rfl, hT, atI_I (k := 0) rfl hk, _, _, rfl, rfl, _, rfl, _, _, rfl, rfl, hm, ?_⟩
      refine ⟨_, rfl, _, rfl, _, rfl, a, _, rfl, hT, fun q1 H1 s1 h1 => ⟨_, rfl, big (by show 1 ≤ 1000; omega), fun q hq => ?_⟩⟩
      rw [c1] at h1
      refine ⟨q1, q, _, _, rfl, rfl, (same_upd hq).tup h1, tupOf upd_same, (fun _ => upd_same), (fun q => by cases q), big ?_, fun q2 H2 s2 h2 => ?_⟩
      · show 0 + 1 ≤ 1000
        omega
      refine ⟨_, rfl, _, rfl, _, _, rfl, rfl, _, rfl, a, _, rfl, s2.tup ((same_upd hq).tup (s1.tup hT)), fun q3 H3 s3 h3 => ?_⟩
      rw [c2] at h3
      exact two _ (by rw [if_pos rfl]) q1 H1 s1 h1 q hq q2 H2 s2 h2 q3 H3 s3 h3
    · refine ⟨_, rfl, _, rfl, _, _, rfl, rfl, a, _, _, _, rfl, rfl, hT, atI_I (k := k - 1) (by omega) (by omega), ?_⟩
      refine ⟨_, rfl, rfl, _, rfl, ite2 (fun e => ?_) (fun e => ?_)⟩
      · have e := V.int.inj (of_decide_eq_true e)
        exact absurd (show k = 0 by omega) c
      refine ⟨_, rfl, _, rfl, _, rfl, a, _, rfl, hT, fun q1 H1 s1 h1 => ⟨_, rfl, big (by show 1 ≤ 1000; omega), fun q hq => ?_⟩⟩
      rw [c1] at h1
      refine ⟨q1, q, _, _, rfl, rfl, (same_upd hq).tup h1, tupOf upd_same, (fun _ => upd_same), (fun q => by cases q), big ?_, fun q2 H2 s2 h2 => ?_⟩
      · rw [List.length_take, hlen]
        show min k r.length + 1 ≤ 1000
        omega
      refine ⟨_, rfl, _, rfl, _, _, rfl, rfl, _, rfl, a, _, rfl, s2.tup ((same_upd hq).tup (s1.tup hT)), fun q3 H3 s3 h3 => ?_⟩
      rw [c2] at h3
      exact two _ (by rw [if_neg c]) q1 H1 s1 h1 q hq q2 H2 s2 h2 q3 H3 s3 h3
theorem ok_all_rings (D : Df K mg "all_rings" s_all_rings p_all_rings f fd) (B : Bt mg) : FnOk P w K mg base (L2N.CX P w) 1 f fd p_all_rings sp_all_rings := by
  refine Fun.okN D.F sc_all_rings (fun vs H Q E h => ?_) (fun cdv A outer s H vs Q E hr h => ?_)
  · obtain ⟨n, m, rfl, _⟩ := h
    rfl
  · obtain ⟨n, m, rfl, hn, hm1, hm, hp, hQ⟩ := h
    refine ⟨_, pss_cons (ps_set (i := 2) sc_all_rings.nd rfl (.inl rfl) (pe_lst (pa_cons (pe_tup pa_nil) pa_nil)))
      (pss_cons (ps_for (passes_of rfl) rfl (pi_range1 rfl B.range (pa_cons (pv 0) pa_nil)) (pg_name (i := 3) sc_all_rings.nd rfl (.inl rfl))
        (pss_cons (ps_set (i := 4) sc_all_rings.nd rfl (.inl rfl) (pe_lst pa_nil))
        (pss_cons (ps_for (passes_of rfl) rfl (pi_list (pv 2)) (pg_name (i := 5) sc_all_rings.nd rfl (.inr rfl))
          (pss_one (ps_expr (pe_bm PySem.F.plainAttrs_list PySem.F.slot_list_extend PySem.F.type_list_extend mt_extend (pv 4) (pa_cons (pe_lc (own := [("number", 6)]) (g := gName 6) (tt := tYes) (te := tOp (rCatG K) (tVar 5) (tTup (tCons (tVar 6) tNil))) rfl sc_all_rings.nd (pi_range1 rfl B.range (pa_cons (pv 1) pa_nil)) (blkOk_by (N := n_all_rings) (sc := defScope s_all_rings) (by decide +kernel))
            (fun _ _ _ _ _ => pg_name (i := 6) sc_all_rings.nd rfl (Or.inl rfl)) (fun _ _ _ _ _ => pts_nil) (fun _ _ _ _ _ => by exact pe_op op_catG (pv 5) (pe_tup (pa_cons (pv 6) pa_nil)))) pa_nil)))))
        (pss_one (ps_set (i := 2) sc_all_rings.nd rfl (.inl rfl) (pv 4))))))
      (pss_one (ps_ret (pv 2)))), ?_⟩
    refine ⟨big (by show 0 ≤ 1000; decide), fun t0 ht0 => ⟨big (by show 1 ≤ 1000; decide), fun p hp0 => ?_⟩⟩
    have s0 := (same_upd (o := .tup []) ht0).trans (same_upd (o := .lst [V.ref t0]) hp0)
    refine ⟨_, rfl, _, rfl, by omega, by omega, ?_⟩
    rw [Int.toNat_natCast]
    refine for_r0 (fun i σ H' => ∃ (q : Addr) (y3 y4 y5 : Option V), σ = [some (.int (n : Int)), some (.int (m : Int)), some (.ref q), y3, y4, y5, none] ∧ Same H H' ∧ H q = none ∧ ListG H' q (allR m i))
      ⟨p, none, none, none, rfl, s0, (same_upd (o := .tup []) ht0).free hp0, [.ref t0], upd_same, .cons ⟨t0, rfl, (same_upd hp0) _ _ upd_same⟩ .nil⟩ ?_ ?_
    · rintro i σ H1 hi ⟨q, y3, y4, y5, rfl, sm, hq0, xs, hq, hx⟩
      have le : ∀ j, j ≤ n → m ^ j ≤ 300 := fun j hj => Nat.le_trans (Nat.pow_le_pow_right hm1 hj) hp
      have xl : xs.length = m ^ i := by rw [hx.len, allR_len]
      have l1 := le i (by omega)
      have l2 := le (i + 1) (by omega)
      refine ⟨big (by show 0 ≤ 1000; decide), fun p2 hp2 => ?_⟩
      have s2 := same_upd (o := .lst []) hp2
      have hp20 : H p2 = none := sm.free hp2
      obtain ⟨ext, hext⟩ : ∃ ext : List Int → List (List Int), ext = fun r => (List.range m).map fun (k : Nat) => r ++ [(k : Int)] := ⟨_, rfl⟩
      have elen : ∀ r, (ext r).length = m := fun r => by rw [hext, List.length_map, List.length_range]
      refine ⟨_, rfl, q, rfl, ⟨_, lstOf (s2 _ _ hq)⟩, for_list (K := K) (a := q) (xs := xs)
        (fun j σ H' => ∃ (y5 : Option V) (ys : List V), σ = [some (.int (n : Int)), some (.int (m : Int)), some (.ref q), some (.int (i : Int)), some (.ref p2), y5, none] ∧ Same H1 H' ∧ H' p2 = some (.lst ys) ∧ TupsG H' ys (((allR m i).take j).flatMap ext))
        ⟨y5, [], rfl, s2, upd_same, by rw [List.take_zero]; exact .nil⟩ (fun j σ H' _ ⟨_, _, _, s3, _⟩ => lstOf (s3 _ _ hq)) ?_ ?_⟩
      · rintro j x σ H2 hj ⟨y5, ys, rfl, s3, hy, ty⟩
        have hjl := (List.getElem?_eq_some_iff.mp hj).1
        have hjr : j < (allR m i).length := by rw [allR_len]; omega
        obtain ⟨a, a1, a2⟩ := TupsG.get (hx.of s3) (List.getElem?_eq_getElem hjr)
        rw [hj] at a1
        cases a1
        obtain ⟨r, hr⟩ : ∃ r, r = (allR m i)[j] := ⟨_, rfl⟩
        rw [← hr] at a2
        have yl : ys.length = j * m := by rw [ty.len, flat_len ext m elen, List.length_take, Nat.min_eq_left (by omega)]
        have yb : j * m + m ≤ 300 := by
          have : (j + 1) * m ≤ m ^ (i + 1) := by
            rw [Nat.pow_succ]
            exact Nat.mul_le_mul_right m (by omega)
          rw [Nat.succ_mul] at this
          omega
        refine ⟨_, rfl, .inl ⟨rfl, _, lstOf hy⟩, _, rfl, (m : Int), rfl, by omega, by omega, fun L hL => ?_⟩
        rw [Int.toNat_natCast]
        refine lc_rG (fun k => r ++ [(k : Int)]) hL (by omega) (fun k H3 hk s4 Zc hz => ?_) fun H3 zs s4 h4 t4 => ?_
        · refine ⟨rfl, _, rfl, _, rfl, big (by show 1 ≤ 1000; decide), fun q2 hq2 => ?_⟩
          have t5 := same_upd (o := .tup [V.int (k : Int)]) hq2
          have a3 : TupG (upd H3 q2 (.tup [V.int (k : Int)])) a r := t5 _ _ (s4 _ _ a2)
          have rl : r.length = i := by rw [hr]; exact (mem_allR.mp (List.getElem_mem hjr)).1
          refine ⟨a, q2, _, _, rfl, rfl, tupOf a3, tupOf upd_same, (fun _ => upd_same), (fun z => by cases z), big ?_, fun p5 H5 s5 h5 => ?_⟩
          · rw [len_I]
            show r.length + 1 ≤ 1000
            omega
          · refine hz H5 p5 (t5.trans s5) ?_
            show H5 p5 = some (.tup (I (r ++ [(k : Int)])))
            rw [h5]
            unfold I
            rw [List.map_append]
            rfl
        · have hy3 := s4 _ _ hy
          have ne : L ≠ p2 := fun z => by rw [z, hy] at hL; cases hL
          have zl : zs.length = m := by rw [t4.len, List.length_map, List.length_range]
          refine ⟨p2, L, _, _, rfl, rfl, hy3, h4, big (by omega), some (.ref a), ys ++ zs, rfl, fun b o e => ?_, upd_same, ?_⟩
          · rw [upd_ne (ne_of_none e hp2)]
            exact s4 _ _ (s3 _ _ e)
          · rw [List.take_succ_eq_append_getElem hjr, List.flatMap_append, ← hr]
            refine TupsG.append ((ty.of s4).upd hy3) ?_
            have e : [r].flatMap ext = (List.range m).map fun (k : Nat) => r ++ [(k : Int)] := by
              rw [List.flatMap_cons, List.flatMap_nil, List.append_nil, hext]
            rw [e]
            exact t4.upd hy3
      · rintro σ H2 ⟨y5, ys, rfl, s3, hy, ty⟩
        have e : (allR m i).take xs.length = allR m i := List.take_of_length_le (by rw [allR_len]; omega)
        rw [e, hext] at ty
        exact ⟨_, rfl, p2, some (.int (i : Int)), some (.ref p2), y5, rfl, sm.trans s3, hp20, ys, hy, ty⟩
    · rintro σ H1 ⟨q, y3, y4, y5, rfl, sm, hq0, hx⟩
      exact ⟨_, rfl, hQ H1 q sm hq0 hx⟩
theorem ok_need_small (D : Df K mg "need_small" s_need_small p_need_small f fd) (B : Bt mg) (M1 : ∃ t, mg "MOST_RINGS" = some (.int 300 t)) (CG : Cl K mg "TooGreat" cG) :
    FnOk P w K mg base (L2N.CX P w) 1 f fd p_need_small (sp_need_small cG) := by
  obtain ⟨t1, m1⟩ := M1
  refine Fun.okN D.F sc_need_small (fun vs H Q E h => ?_) (fun cdv A outer s H vs Q E hr h => ?_)
  · obtain ⟨n, m, rfl, _⟩ := h
    rfl
  · obtain ⟨n, m, rfl, hn, hm1, hm, hE, hQ⟩ := h
    refine ⟨_, pss_cons (ps_set (i := 2) sc_need_small.nd rfl (.inl rfl) pe_int)
      (pss_one (ps_for (passes_of rfl) rfl (pi_range1 rfl B.range (pa_cons (pv 0) pa_nil)) (pg_name (i := 3) sc_need_small.nd rfl (.inl rfl))
        (pss_cons (ps_set (i := 2) sc_need_small.nd rfl (.inl rfl) (pe_op op_mul (pv 2) (pv 1)))
        (pss_one (ps_if (pt_cmpR op_gt (pv 2) (pe_glob (v := .int 300) rfl m1 ⟨_, rfl⟩) (nomark _))
          (pss_one (L2N.ps_raise rfl (L2N.takes_of rfl rfl rfl rfl) (L2N.pmk_own PySem.F.excBase_ValueError CG.x CG.g CG.k (raises_own CG.b CG.t) rfl))) pss_nil))))), ?_⟩
    refine ⟨_, rfl, _, rfl, by omega, by omega, ?_⟩
    rw [Int.toNat_natCast]
    refine for_r0 (fun i σ H' => H' = H ∧ m ^ i ≤ 300 ∧ ∃ y, σ = [some (.int (n : Int)), some (.int (m : Int)), some (.int ((m ^ i : Nat) : Int)), y]) ⟨rfl, by show 1 ≤ 300; decide, none, rfl⟩ ?_ ?_
    · rintro i σ H' hi ⟨rfl, hle, y, rfl⟩
      refine ⟨_, rfl, _, rfl, _, _, rfl, rfl, .inr ⟨by omega, by omega⟩, ?_⟩
      have e : ((m ^ i : Nat) : Int) * (m : Int) = ((m ^ (i + 1) : Nat) : Int) := by rw [Nat.pow_succ, Int.natCast_mul]
      refine ⟨_, rfl, _, _, rfl, rfl, _, rfl, ite2 (fun q => ?_) (fun q => ?_)⟩
      · have q := of_decide_eq_true q
        rw [e] at q
        refine hE (Nat.lt_of_lt_of_le (show 300 < m ^ (i + 1) by omega) (Nat.pow_le_pow_right hm1 (by omega)))
      · have q : ¬ (300 : Int) < ((m ^ i : Nat) : Int) * (m : Int) := fun z => q (decide_eq_true z)
        rw [e] at q
        refine ⟨rfl, by omega, some (.int (i : Int)), ?_⟩
        rw [← e]
        rfl
    · rintro σ H' ⟨rfl, hle, y, rfl⟩
      exact hQ hle
def teL (K : PySem.W.Frag) (j : Nat) : TE := fun σ H' Z => ∃ i, i + 1 = j ∧ tCall (sp_lasting i) [] E0 (tCons (tCall (sp_moved2 K) [] E0 (tCons (tVar 0) (tCons (tVar 1) (tCons (tVar 5) tNil)))) (tCons (tVar 1) (tCons (tVar 2) tNil))) σ H' Z
theorem ok_lasting_j (D : Df K mg "lasting" s_lasting p_lasting f fd) (B : Bt mg)
    (D1 : Df K mg "able_of" s_able_of p_able_of f1 fd1) (G1 : FnOk P w K mg base (L2N.CX P w) 2 f1 fd1 p_able_of (sp_able_of K))
    (D2 : Df K mg "moved" s_moved p_moved f2 fd2) (G2 : FnOk P w K mg base (L2N.CX P w) 1 f2 fd2 p_moved (sp_moved2 K)) (j : Nat)
    (GJ : ∀ i, i + 1 = j → FnOk P w K mg base (L2N.CX P w) (2 + i + 1) f fd p_lasting (sp_lasting i)) :
    FnOk P w K mg base (L2N.CX P w) (2 + j + 1) f fd p_lasting (sp_lasting j) := by
  refine Fun.okN D.F sc_lasting (fun vs H Q E h => ?_) (fun cdv A outer s H vs Q E hr h => ?_)
  · obtain ⟨a, d, r, m, n, D0, rfl, _⟩ := h
    rfl
  · obtain ⟨a, d, r, m, n, D0, rfl, hT, hd, bd, hn, hnm, hm, hp, ok, hQ⟩ := h
    have hr2 : Room 2 _ := hr.mono (by omega)
    have hr1 : Room 1 _ := hr.mono (by omega)
    have hu2 := Nat.lt_of_le_of_lt (Nat.add_le_add_left (show 1 ≤ 64 by decide) _) hr.units
    have R := bd.1
    have rl := R.len
    have n2 := R.n2
    have m2 := R.m2
    have key : (kR r).map kV = I r := kR_V r
    have hTk : H a = some (.tup ((kR r).map kV)) := by rw [key]; exact hT
    refine ⟨_, pss_cons (ps_if (pt_cmp (pc_dnotin hu2 (pv 0) (pv 2)))
        (pss_cons (ps_set (i := 3) sc_lasting.nd rfl (.inl rfl) (pe_call G1 hr2 (by rfl) D1.g D1.F.kp D1.b .nil passN (pa_cons (pv 0) pa_nil)))
        (pss_cons (ps_set (i := 4) sc_lasting.nd rfl (.inl rfl) pe_int)
        (pss_cons (ps_if (pt_cmpR op_gt (pe_callB call_len_seq (by rfl) B.len PySem.boot_len (pa_cons (pv 3) pa_nil)) pe_int (nomark _))
          (pss_one (ps_set (i := 4) sc_lasting.nd rfl (.inl rfl) (pe_op op_add pe_int (pe_callB (cr_max rfl) (by rfl) B.max (by decide +kernel) (pa_cons (pe_lc (own := [("machine", 5)]) (g := gName 5) (tt := tYes)
              (te := teL K j) rfl sc_lasting.nd (pi_list (pv 3)) (blkOk_by (N := n_lasting) (sc := defScope s_lasting) (by decide +kernel))
              (fun _ _ _ _ _ => pg_name (i := 5) sc_lasting.nd rfl (Or.inl rfl)) (fun _ _ _ _ _ => pts_nil)
              (fun _ _ _ _ _ => ⟨fun pins s2 σ H' Z I ⟨i, hi, h⟩ => (pe_call (GJ i hi) (hr.mono (by omega)) (by rfl) D.g D.F.kp D.b .nil passN (pa_cons (pe_call G2 hr1 (by rfl) D2.g D2.F.kp D2.b .nil passN (pa_cons (pv 0) (pa_cons (pv 1) (pa_cons (pv 5) pa_nil)))) (pa_cons (pv 1) (pa_cons (pv 2) pa_nil)))).run pins s2 σ H' Z I h⟩)) pa_nil))))) pss_nil)
        (pss_one (ps_dput hu2 (pv 2) (pv 0) (pv 4) rfl))))) pss_nil)
      (pss_one (ps_ret (pe_dget hu2 (pv 2) (pv 0) (fun _ _ => rfl)))), ?_⟩
    have told : ∀ H' D', SameX d H H' → H' d = some (.dT (ents D')) → KOk n m D' → (∀ p ∈ D0, p ∈ D') → (r, ((hgt (m : Int) r : Nat) : Int)) ∈ D' → ∃ a1 v, V.ref d = .ref a1 ∧ DGet H' a1 (.ref a) (some v) ∧ Q v H' := fun H' D' s1 h1 k1 i1 m1 => by
      refine ⟨d, .int ((hgt (m : Int) r : Nat) : Int), rfl, ?_, hQ H' D' s1 h1 k1 i1 m1⟩
      rw [← ents_some k1.2 m1]
      refine DGet.t h1 ?_
      rw [key]
      exact s1.tupG hd hT
    refine ⟨_, rfl, _, rfl, d, _, rfl, DGet.t hd hTk, _, rfl, ?_⟩
    by_cases known : ∃ p ∈ D0, p.1 = r
    · obtain ⟨p, hp1, hp2⟩ := known
      have mem : (r, ((hgt (m : Int) r : Nat) : Int)) ∈ D0 := by
        have := (ok.1 p hp1).2
        rw [hp2] at this
        rw [← this, ← hp2]
        exact hp1
      rw [ents_some ok.2 mem]
      exact iteF ⟨_, rfl, _, rfl, told H D0 (SameX.refl d H) hd ok (fun _ h => h) mem⟩
    · rw [ents_none fun p hp1 e => known ⟨p, hp1, e⟩]
      refine iteT ⟨_, rfl, a, r, rfl, tupOf hT, by omega, fun H1 q s1 hq e1 => ?_⟩
      have hd1 := s1 _ _ hd
      have hqd : q ≠ d := fun z => by rw [z, hd] at hq; cases hq
      have sx1 := SameX.of (d := d) s1
      have fin : ∀ (H2 : Hp) (D2 : List (List Int × Int)) (y5 : Option V), SameX d H H2 → H2 d = some (.dT (ents D2)) → KOk n m D2 → (∀ p ∈ D0, p ∈ D2) →
          sDPut (tVar 2) (tVar 0) (tVar 4) { nx := fun σ' H' => tRet (tDGet (tVar 2) (tVar 0)) { nx := fun _ H' => Q .non H', rt := Q } σ' H', rt := Q }
            [some (.ref a), some (.int (m : Int)), some (.ref d), some (.ref q), some (.int ((hgt (m : Int) r : Nat) : Int)), y5] H2 := fun H2 D2 y5 sx hd2 ok2 inc2 => by
        have hT2 : H2 a = some (.tup ((kR r).map kV)) := by rw [key]; exact sx.tupG hd hT
        have lb : (ents D2).length < sizeLine := small1000 (by rw [ents_len]; have := ok2.len n2 (by omega); omega)
        refine ⟨_, rfl, _, rfl, _, rfl, d, _, rfl, DPut.t hd2 hT2 lb, ?_⟩
        by_cases c : ∃ p ∈ D2, p.1 = r
        · have al : ∀ p ∈ D2, p.1 = r → p.2 = ((hgt (m : Int) r : Nat) : Int) := fun p hp e => by
            rw [(ok2.1 p hp).2, e]
          rw [ents_put_old c al ok2.2]
          refine ⟨_, rfl, _, rfl, told _ D2 (sx.trans (SameX.put _)) upd_same ok2 inc2 ?_⟩
          obtain ⟨p, hp, e⟩ := c
          rw [← al p hp e, ← e]
          exact hp
        · have no : ∀ p ∈ D2, p.1 ≠ r := fun p hp e => c ⟨p, hp, e⟩
          rw [ents_put no]
          exact ⟨_, rfl, _, rfl, told _ _ (sx.trans (SameX.put _)) upd_same (ok2.snoc R no) (fun p hp => List.mem_append_left _ (inc2 p hp)) (List.mem_append_right _ (List.mem_singleton.mpr rfl))⟩
      have he := hgt_eq (Bd.top R (show (n : Int) ≤ (m : Int) by omega)) (Nat.le_trans (most_le hn) (by decide))
      refine ⟨_, rfl, q, _, rfl, .inl (lstOf e1), _, _, rfl, rfl, _, rfl, ?_⟩
      rw [len_N]
      by_cases c : (able r).length ≤ 1
      · rw [decide_eq_false (show ¬ (1 : Int) < ((able r).length : Int) by omega)]
        rw [if_pos c] at he
        have z := fin H1 D0 none sx1 hd1 ok (fun _ h => h)
        rw [he] at z
        exact iteF z
      · rw [decide_eq_true (show (1 : Int) < ((able r).length : Int) by omega)]
        rw [if_neg c] at he
        have al : (able r).length ≤ 12 := Nat.le_trans (Nat.le_trans (List.length_filter_le _ _) (by rw [List.length_range]; exact Nat.le_refl _)) (show r.length ≤ 12 by omega)
        obtain ⟨i0, rfl⟩ : ∃ i0, j = i0 + 1 := by
          cases j with
          | zero => exact absurd bd.zero (by omega)
          | succ j => exact ⟨j, rfl⟩
        obtain ⟨hs, hhs⟩ : ∃ hs : Nat → Nat, hs = fun k => hgt (m : Int) (HR.moved (m : Int) r k) := ⟨_, rfl⟩
        refine iteT ⟨_, rfl, q, rfl, ⟨_, lstOf e1⟩, fun L hL => lc_list (K := K) (a := q) (xs := N (able r)) (tt := tYes) (te := teL K (i0 + 1))
          (fun i H' => SameX d H1 H' ∧ H' L = some (.lst (N (((able r).take i).map hs))) ∧ ∃ D', H' d = some (.dT (ents D')) ∧ KOk n m D' ∧ ∀ p ∈ D0, p ∈ D')
          ⟨SameX.of (same_upd hL), upd_same, D0, (same_upd hL) _ _ hd1, ok, fun _ h => h⟩ (fun i H' _ ⟨sx, _⟩ => lstOf (sx _ _ hqd e1)) ?_ ?_⟩
        · rintro i x H2 hi ⟨sx, hL2, D2, hd2, ok2, inc2⟩
          have hil : i < (able r).length := by
            have := (List.getElem?_eq_some_iff.mp hi).1
            rw [len_N] at this
            exact this
          obtain ⟨k, hk⟩ : ∃ k, k = (able r)[i] := ⟨_, rfl⟩
          have ex : x = .int (k : Int) := by
            have : (N (able r))[i]? = some (.int (((able r)[i] : Nat) : Int)) := by
              unfold N
              rw [List.getElem?_map, List.getElem?_eq_getElem hil]
              rfl
            rw [hk]
            exact Option.some.inj (hi.symm.trans this)
          subst ex
          have km : k ∈ able r := by rw [hk]; exact List.getElem_mem hil
          obtain ⟨k1, k2⟩ := mem_able.mp km
          have Ld : L ≠ d := fun z => by rw [z, hd1] at hL; cases hL
          have hT2 : TupG H2 a r := sx.tupG hd1 (sx1.tupG hd hT)
          refine ⟨rfl, i0, rfl, _, rfl, _, rfl, _, rfl, a, r, (m : Int), k, rfl, tupOf hT2, k1, by omega, by omega, fun H3 p3 s3 h3 => ?_⟩
          refine ⟨_, rfl, _, rfl, p3, d, _, m, n, D2, rfl, h3, s3 _ _ hd2, bd.step km (by omega), hn, hnm, hm, hp, ok2, fun H4 D4 sx4 hd4 ok4 inc4 mem4 => ?_⟩
          have hL4 := sx4 _ _ Ld (s3 _ _ hL2)
          refine ⟨_, hL4, small1000 (by rw [len_N, List.length_map, List.length_take]; omega), fun b o nb e => ?_, ?_, D4, ?_, ok4, fun p hp => inc4 p (inc2 p hp)⟩
          · rw [upd_ne (ne_of_none e hL)]
            exact sx4 _ _ nb (s3 _ _ (sx _ _ nb e))
          · rw [upd_same, List.take_succ_eq_append_getElem hil, List.map_append, ← hk]
            unfold N
            rw [List.map_append, hhs]
            rfl
          · rw [upd_ne (Ne.symm Ld)]
            exact hd4
        · rintro H2 ⟨sx, hL2, D2, hd2, ok2, inc2⟩
          rw [len_N, List.take_length, N_Z] at hL2
          have ne : (able r).map hs ≠ [] := fun z => by
            have := congrArg List.length z
            rw [List.length_map] at this
            simp at this
            rw [this] at c
            exact c (Nat.zero_le _)
          refine ⟨L, Z ((able r).map hs), rfl, lstOf hL2, by rw [List.length_map, List.length_map]; omega, fun M hM1 hM2 => ⟨_, _, rfl, rfl, ?_⟩⟩
          rw [max_is ne hM1 hM2]
          have z := fin H2 D2 none (sx1.trans sx) hd2 ok2 inc2
          rw [he, Int.natCast_add] at z
          rw [hhs]
          exact z
theorem ok_lasting (D : Df K mg "lasting" s_lasting p_lasting f fd) (B : Bt mg)
    (D1 : Df K mg "able_of" s_able_of p_able_of f1 fd1) (G1 : FnOk P w K mg base (L2N.CX P w) 2 f1 fd1 p_able_of (sp_able_of K))
    (D2 : Df K mg "moved" s_moved p_moved f2 fd2) (G2 : FnOk P w K mg base (L2N.CX P w) 1 f2 fd2 p_moved (sp_moved2 K)) :
    FnOk P w K mg base (L2N.CX P w) 21 f fd p_lasting (sp_lasting 18) := by
  have all : ∀ j, FnOk P w K mg base (L2N.CX P w) (2 + j + 1) f fd p_lasting (sp_lasting j) := by
    intro j
    induction j with
    | zero => exact ok_lasting_j D B D1 G1 D2 G2 0 (fun i hi => by omega)
    | succ j ih =>
      refine ok_lasting_j D B D1 G1 D2 G2 (j + 1) (fun i hi => ?_)
      obtain rfl : i = j := by omega
      exact ih
  exact all 18
theorem ok_worst_order (D : Df K mg "worst_order" s_worst_order p_worst_order f fd) (B : Bt mg)
    (D1 : Df K mg "able_of" s_able_of p_able_of f1 fd1) (G1 : FnOk P w K mg base (L2N.CX P w) 2 f1 fd1 p_able_of (sp_able_of K))
    (D2 : Df K mg "moved" s_moved p_moved f2 fd2) (G2 : FnOk P w K mg base (L2N.CX P w) 1 f2 fd2 p_moved (sp_moved2 K)) :
    FnOk P w K mg base (L2N.CX P w) 3 f fd p_worst_order sp_worst_order := by
  refine Fun.okN D.F sc_worst_order (fun vs H Q E h => ?_) (fun cdv A outer s H vs Q E hr h => ?_)
  · obtain ⟨a, d, r, m, n, D0, rfl, _⟩ := h
    rfl
  · obtain ⟨a, d, r, m, n, D0, rfl, hT, hd, R, hn, hnm, hm, ok, full, hQ⟩ := h
    have hr1 : Room 1 _ := hr.mono (by decide)
    have hu2 := Nat.lt_of_le_of_lt (Nat.add_le_add_left (show 1 ≤ 64 by decide) _) hr.units
    refine ⟨_, pss_cons (ps_set (i := 3) sc_worst_order.nd rfl (.inl rfl) (pe_lst pa_nil))
      (pss_cons (ps_while (passes_of rfl) (pt_cmpR op_gt (pe_dget hu2 (pv 2) (pv 0) (fun _ _ => rfl)) pe_int (nomark _))
        (pss_cons (ps_setLc (i := 4) (own := [("machine", 5)]) (g := gName 5) (tt := tYes) (te := tCall (sp_moved2 K) [] E0 (tCons (tVar 0) (tCons (tVar 1) (tCons (tVar 5) tNil)))) rfl sc_worst_order.nd rfl rfl (sw_true rfl rfl rfl (by decide +kernel)) (pi_list (pe_call G1 hr (by rfl) D1.g D1.F.kp D1.b .nil passN (pa_cons (pv 0) pa_nil))) (blkOk_by (N := n_worst_order) (sc := defScope s_worst_order) (by decide +kernel))
            (fun _ _ _ _ _ => pg_name (i := 5) sc_worst_order.nd rfl (Or.inl rfl)) (fun _ _ _ _ _ => pts_nil) (fun _ _ _ _ _ => by exact pe_call G2 hr1 (by rfl) D2.g D2.F.kp D2.b .nil passN (pa_cons (pv 0) (pa_cons (pv 1) (pa_cons (pv 5) pa_nil)))))
        (pss_cons (ps_set (i := 6) sc_worst_order.nd rfl (.inl rfl) (pe_bm PySem.F.plainAttrs_list PySem.F.slot_list_index PySem.F.type_list_index mt_index (pe_lc (own := [("one", 7)]) (g := gName 7) (tt := tYes) (te := tDGet (tVar 2) (tVar 7)) rfl sc_worst_order.nd (pi_list (pv 4)) (blkOk_by (N := n_worst_order) (sc := defScope s_worst_order) (by decide +kernel))
            (fun _ _ _ _ _ => pg_name (i := 7) sc_worst_order.nd rfl (Or.inl rfl)) (fun _ _ _ _ _ => pts_nil) (fun _ _ _ _ _ => by exact pe_dget hu2 (pv 2) (pv 7) (fun _ _ => rfl))) (pa_cons (pe_op op_sub (pe_dget hu2 (pv 2) (pv 0) (fun _ _ => rfl)) pe_int) pa_nil)))
        (pss_cons (ps_expr (pe_bm PySem.F.plainAttrs_list PySem.F.slot_list_append PySem.F.type_list_append mt_append (pv 3) (pa_cons (pe_ix ix_list (pe_call G1 hr (by rfl) D1.g D1.F.kp D1.b .nil passN (pa_cons (pv 0) pa_nil)) (pv 6) (fun _ _ => rfl)) pa_nil)))
        (pss_one (ps_set (i := 0) sc_worst_order.nd rfl (.inr rfl) (pe_ix ix_list (pv 4) (pv 6) (fun _ _ => rfl))))))))
      (pss_one (ps_ret (pv 3)))), ?_⟩
    have n2 := R.n2
    have m2 := R.m2
    refine ⟨big (by show 0 ≤ 1000; decide), fun p hp => ?_⟩
    have s1 := same_upd (o := .lst []) hp
    have get : ∀ {H' : Hp} {b : Addr} {q : List Int}, TupG H' b q → H' d = some (.dT (ents D0)) → Ring n (m : Int) q → DGet H' d (.ref b) (some (.int ((hgt (m : Int) q : Nat) : Int))) := fun hq hd' Rq => by
      rw [← ents_some ok.2 (full _ Rq)]
      exact DGet.t hd' (by rw [kR_V]; exact hq)
    obtain ⟨W, hW⟩ : ∃ W : Nat → L2.St → Hp → Prop, ∀ μ σ H', W μ σ H' ↔ ∃ (a' : Addr) (r' : List Int) (o : List Nat) (y4 y6 : Option V), σ = [some (.ref a'), some (.int (m : Int)), some (.ref d), some (.ref p), y4, none, y6, none] ∧ Same H H' ∧ TupG H' a' r' ∧ Ring n (m : Int) r' ∧ H' p = some (.lst (N o)) ∧
      wOrd (m : Int) (hgt (m : Int) r) r = o ++ wOrd (m : Int) (hgt (m : Int) r') r' ∧ μ = hgt (m : Int) r' := ⟨_, fun _ _ _ => Iff.rfl⟩
    refine ⟨W, ⟨_, (hW _ _ _).mpr ⟨a, r, [], none, none, rfl, s1, s1 _ _ hT, R, upd_same, rfl, rfl⟩⟩, ?_⟩
    intro μ σ H1 hw
    obtain ⟨a', r', o, y4, y6, rfl, sm, ht, R', hpo, hw', hμ⟩ := (hW _ _ _).mp hw
    have rl' := R'.len
    have ol : o.length ≤ 200 := by
      have := congrArg List.length hw'
      rw [wOrd_len, List.length_append] at this
      have := hgt_le (m : Int) r
      omega
    refine ⟨_, rfl, _, rfl, d, _, rfl, get ht (sm _ _ hd) R', _, _, rfl, rfl, _, rfl, ?_⟩
    cases hh : hgt (m : Int) r' with
    | zero =>
      rw [hh] at hw'
      rw [decide_eq_false (show ¬ (0 : Int) < ((0 : Nat) : Int) by omega)]
      refine iteF ⟨_, rfl, hQ H1 p sm hp ?_⟩
      rw [hw']
      show H1 p = some (.lst (N (o ++ [])))
      rw [List.append_nil]
      exact hpo
    | succ u =>
      rw [decide_eq_true (show (0 : Int) < ((u + 1 : Nat) : Int) by omega)]
      refine iteT ⟨fun σ' H' => ∃ m', m' < μ ∧ W m' σ' H', fun _ _ h => h, ?_⟩
      obtain ⟨hl, hk1, hk2⟩ := pickW_is R' hn (show (n : Int) ≤ (m : Int) by omega) hh
      obtain ⟨pk, hpk⟩ : ∃ pk, pk = pickW (m : Int) u r' := ⟨_, rfl⟩
      have al : (able r').length ≤ 12 := Nat.le_trans (Nat.le_trans (List.length_filter_le _ _) (by rw [List.length_range]; exact Nat.le_refl _)) (show r'.length ≤ 12 by omega)
      obtain ⟨rows, hrows⟩ : ∃ rows : Nat → List Int, rows = fun i => HR.moved (m : Int) r' ((able r').getD i 0) := ⟨_, rfl⟩
      have gd : ∀ i (hi : i < (able r').length), (able r').getD i 0 = (able r')[i] := fun i hi => by
        rw [List.getD_eq_getElem?_getD, List.getElem?_eq_getElem hi]
        rfl
      have Rrow : ∀ i, i < (able r').length → Ring n (m : Int) (rows i) := fun i hi => by
        rw [hrows]
        show Ring n (m : Int) (HR.moved (m : Int) r' ((able r').getD i 0))
        rw [gd i hi]
        exact R'.moved (by rw [← rl']; exact (mem_able.mp (List.getElem_mem hi)).1)
      refine ⟨_, rfl, a', r', rfl, tupOf ht, by omega, fun H2 q s2 hq e2 => ⟨q, rfl, ⟨_, lstOf e2⟩, fun L hL => ?_⟩⟩
      refine lc_lG (K := K) (a := q) (xs := N (able r')) rows hL (by rw [len_N]; omega) (lstOf e2) (fun i x H3 hi s3 Zc hz => ?_) fun H3 ys s3 h3 t3 => ?_
      · have hil : i < (able r').length := by
          have := (List.getElem?_eq_some_iff.mp hi).1
          rw [len_N] at this
          exact this
        have ex : x = .int (((able r')[i] : Nat) : Int) := by
          have : (N (able r'))[i]? = some (.int (((able r')[i] : Nat) : Int)) := by
            unfold N
            rw [List.getElem?_map, List.getElem?_eq_getElem hil]
            rfl
          exact Option.some.inj (hi.symm.trans this)
        subst ex
        refine ⟨rfl, _, rfl, _, rfl, _, rfl, a', r', (m : Int), (able r')[i], rfl, tupOf (s3 _ _ (s2 _ _ ht)), (mem_able.mp (List.getElem_mem hil)).1, by omega, by omega, fun H4 p4 s4 h4 => hz H4 p4 s4 ?_⟩
        rw [hrows]
        show TupG H4 p4 (HR.moved (m : Int) r' ((able r').getD i 0))
        rw [gd i hil]
        exact h4
      rw [len_N] at t3
      have yl : ys.length = (able r').length := by rw [t3.len, List.length_map, List.length_range]
      have S3 := s2.trans s3
      refine ⟨_, rfl, L, rfl, ⟨_, lstOf h3⟩, fun L2 hL2 => lc_lm (fun i => V.int ((hgt (m : Int) (rows i) : Nat) : Int)) hL2 (by omega) (lstOf h3) (fun i x H4 hi s4 Zc hz => ?_) fun H4 s4 e4 => ?_⟩
      · have hil := (List.getElem?_eq_some_iff.mp hi).1
        obtain ⟨b, b1, b2⟩ := TupsG.get (t3.of s4) (i := i) (r := rows i) (by rw [List.getElem?_map, List.getElem?_range (by omega)]; rfl)
        rw [hi] at b1
        cases b1
        exact ⟨rfl, _, rfl, _, rfl, d, _, rfl, get b2 (s4 _ _ (S3 _ _ (sm _ _ hd))) (Rrow i (by omega)), hz H4 (Same.refl H4)⟩
      rw [yl] at e4
      have S4 := S3.trans s4
      have ix : ∀ i, i < (able r').length → ((List.range (able r').length).map fun i => V.int ((hgt (m : Int) (rows i) : Nat) : Int))[i]? = some (.int ((hgt (m : Int) (rows i) : Nat) : Int)) := fun i hi => by
        rw [List.getElem?_map, List.getElem?_range hi]
        rfl
      have pl : pk < (able r').length := by rw [hpk]; exact hl
      have hpkv : hgt (m : Int) (rows pk) = u := by
        rw [hrows]
        show hgt (m : Int) (HR.moved (m : Int) r' ((able r').getD pk 0)) = u
        rw [gd pk pl]
        subst hpk
        exact hk1
      refine ⟨.inl ⟨rfl, _, lstOf e4⟩, _, rfl, _, rfl, d, _, rfl, get (S4 _ _ ht) (S4 _ _ (sm _ _ hd)) R', _, _, rfl, rfl, ?_⟩
      refine ⟨L2, _, _, pk, _, rfl, rfl, lstOf e4, rfl, ?_, ix pk pl, ?_, fun i z hi hz => ?_, ?_⟩
      · rw [List.all_map, List.all_eq_true]
        exact fun _ _ => rfl
      · show (((hgt (m : Int) (rows pk) : Nat) : Int) == ((hgt (m : Int) r' : Nat) : Int) - 1) = true
        rw [hpkv, hh]
        simp
      · rw [ix i (by omega)] at hz
        cases hz
        show (((hgt (m : Int) (rows i) : Nat) : Int) == ((hgt (m : Int) r' : Nat) : Int) - 1) = false
        have hi2 : i < (able r').length := by omega
        have ne : hgt (m : Int) (rows i) ≠ u := by
          rw [hrows]
          show hgt (m : Int) (HR.moved (m : Int) r' ((able r').getD i 0)) ≠ u
          rw [gd i hi2]
          exact hk2 i hi2 (by rw [← hpk]; exact hi)
        rw [hh]
        simp
        omega
      have hpo4 := S4 _ _ hpo
      refine ⟨_, rfl, .inl ⟨rfl, _, lstOf hpo4⟩, _, rfl, a', r', rfl, tupOf (S4 _ _ ht), by omega, fun H5 q5 s5 hq5 e5 => ?_⟩
      refine ⟨_, rfl, q5, _, _, _, rfl, rfl, lstOf e5, atI_N (k := pk) rfl pl, p, _, _, rfl, rfl, s5 _ _ hpo4, small1000 (by rw [len_N]; omega), ?_⟩
      have Lp : L ≠ p := fun z => by rw [z, s2 _ _ hpo] at hL; cases hL
      obtain ⟨b, b1, b2⟩ := TupsG.get (t3.of (s4.trans s5)) (i := pk) (r := rows pk) (by rw [List.getElem?_map, List.getElem?_range pl]; rfl)
      have hpo5 := s5 _ _ hpo4
      refine ⟨_, rfl, _, rfl, L, ys, _, _, rfl, rfl, lstOf (by rw [upd_ne Lp]; exact s5 _ _ (s4 _ _ h3)), at_of (j := pk) rfl b1, ?_⟩
      refine ⟨u, by omega, (hW _ _ _).mpr ⟨b, rows pk, o ++ [(able r').getD pk 0], _, _, rfl, fun c oo e => ?_, TupG.upd hpo5 b2, Rrow pk pl, ?_, ?_, ?_⟩⟩
      · rw [upd_ne (ne_of_none e hp)]
        exact s5 _ _ (S4 _ _ (sm _ _ e))
      · rw [upd_same]
        unfold N
        rw [List.map_append]
        rfl
      · rw [hw', hh, hpkv, List.append_assoc]
        show o ++ ((able r').getD (pickW (m : Int) u r') 0 :: wOrd (m : Int) u (HR.moved (m : Int) r' ((able r').getD (pickW (m : Int) u r') 0))) = o ++ ([(able r').getD pk 0] ++ wOrd (m : Int) u (rows pk))
        rw [← hpk, hrows]
        rfl
      · rw [hpkv]
theorem ok_worst (D : Df K mg "worst" s_worst p_worst f fd) (B : Bt mg) (CN : Cl K mg "NoNumbers" cN)
    (D1 : Df K mg "need_numbers" s_need_numbers p_need_numbers f1 fd1) (G1 : FnOk P w K mg base (L2N.CX P w) 1 f1 fd1 p_need_numbers (sp_need_numbers cN))
    (D2 : Df K mg "need_machines" s_need_machines p_need_machines f2 fd2) (G2 : FnOk P w K mg base (L2N.CX P w) 1 f2 fd2 p_need_machines (sp_need_machines cR))
    (D3 : Df K mg "need_small" s_need_small p_need_small f3 fd3) (G3 : FnOk P w K mg base (L2N.CX P w) 1 f3 fd3 p_need_small (sp_need_small cG))
    (D4 : Df K mg "all_rings" s_all_rings p_all_rings f4 fd4) (G4 : FnOk P w K mg base (L2N.CX P w) 1 f4 fd4 p_all_rings sp_all_rings)
    (D5 : Df K mg "lasting" s_lasting p_lasting f5 fd5) (G5 : FnOk P w K mg base (L2N.CX P w) 21 f5 fd5 p_lasting (sp_lasting 18))
    (D6 : Df K mg "worst_order" s_worst_order p_worst_order f6 fd6) (G6 : FnOk P w K mg base (L2N.CX P w) 3 f6 fd6 p_worst_order sp_worst_order) :
    FnOk P w K mg base (L2N.CX P w) 22 f fd p_worst (sp_worst cN cR cG) := by
  refine Fun.okN D.F sc_worst (fun vs H Q E h => ?_) (fun cdv A outer s H vs Q E hr h => ?_)
  · obtain ⟨x, y, rfl, _⟩ := h
    rfl
  · obtain ⟨x, y, rfl, hS⟩ := h
    have hr1 : Room 1 _ := hr.mono (by decide)
    have hr3 : Room 3 _ := hr.mono (by decide)
    have hu2 := Nat.lt_of_le_of_lt (Nat.add_le_add_left (show 1 ≤ 64 by decide) _) hr.units
    refine ⟨_, pss_cons (ps_expr (pe_call G1 hr1 (by rfl) D1.g D1.F.kp D1.b .nil (L2N.passes_call (L2N.takes_of rfl rfl rfl rfl) (fun _ _ _ _ h => h)) (pa_cons (pv 1) pa_nil)))
      (pss_cons (ps_expr (pe_call G2 hr1 (by rfl) D2.g D2.F.kp D2.b .nil (L2N.passes_call (L2N.takes_of rfl rfl rfl rfl) (fun _ _ _ _ h => h)) (pa_cons (pv 0) pa_nil)))
      (pss_cons (ps_if (pt_cmpR op_lt (pv 1) (pv 0) (nomark _)) (pss_one (L2N.ps_raise rfl (L2N.takes_of rfl rfl rfl rfl) (L2N.pmk_own PySem.F.excBase_ValueError CN.x CN.g CN.k (raises_own CN.b CN.t) rfl))) pss_nil)
      (pss_cons (ps_expr (pe_call G3 hr1 (by rfl) D3.g D3.F.kp D3.b .nil (L2N.passes_call (L2N.takes_of rfl rfl rfl rfl) (fun _ _ _ _ h => h)) (pa_cons (pv 0) (pa_cons (pv 1) pa_nil))))
      (pss_cons (ps_set (i := 2) sc_worst.nd rfl (.inl rfl) pe_dnewT)
      (pss_cons (ps_set (i := 3) sc_worst.nd rfl (.inl rfl) pe_non)
      (pss_cons (ps_for (passes_of rfl) rfl (pi_list (pe_call G4 hr1 (by rfl) D4.g D4.F.kp D4.b .nil passN (pa_cons (pv 0) (pa_cons (pv 1) pa_nil)))) (pg_name (i := 4) sc_worst.nd rfl (.inl rfl))
        (pss_one (ps_if (pt_cmpR op_gt (pe_call G5 hr (by rfl) D5.g D5.F.kp D5.b .nil passN (pa_cons (pv 4) (pa_cons (pv 1) (pa_cons (pv 2) pa_nil)))) (pe_dget2N hr.units (pv 2) (pv 3) (pe_un un_neg pe_int) ⟨rfl, rfl, rfl, rfl⟩) (nomark _))
          (pss_one (ps_set (i := 3) sc_worst.nd rfl (.inl rfl) (pv 4))) pss_nil)))
      (pss_one (ps_ret (pe_tup (pa_cons (pv 3) (pa_cons (pe_call G6 hr3 (by rfl) D6.g D6.F.kp D6.b .nil passN (pa_cons (pv 3) (pa_cons (pv 1) (pa_cons (pv 2) pa_nil)))) pa_nil))))))))))), ?_⟩
    obtain ⟨h1, h2, h3, h4⟩ := hS
    refine ⟨_, rfl, y, rfl, h1, fun y1 y2 => ?_⟩
    refine ⟨_, rfl, x, rfl, h2 y1 y2, fun x1 x2 => ?_⟩
    refine ⟨_, rfl, _, rfl, _, _, rfl, rfl, _, rfl, ite2 (fun e => h3 y1 y2 x1 x2 (of_decide_eq_true e)) (fun e => ?_)⟩
    have nl : ¬ y < x := fun q => e (decide_eq_true q)
    obtain ⟨n, rfl⟩ : ∃ n : Nat, x = n := ⟨x.toNat, by omega⟩
    obtain ⟨m, rfl⟩ : ∃ m : Nat, y = m := ⟨y.toNat, by omega⟩
    obtain ⟨hE, hZ⟩ := h4 n m rfl rfl (by omega) (by omega) (by omega) (by omega) nl
    refine ⟨_, rfl, _, rfl, n, m, rfl, by omega, by omega, by omega, hE, fun le => ?_⟩
    have hZ := hZ le
    intro d hd
    have s0 := same_upd (o := .dT []) hd
    refine ⟨_, rfl, _, rfl, n, m, rfl, by omega, by omega, by omega, le, fun H1 q s1 hq L1 => ?_⟩
    obtain ⟨xs, e1, t1⟩ := L1
    have hd1 : H1 d = some (.dT []) := s1 _ _ upd_same
    have xl : xs.length = (allR m n).length := t1.len
    have al := allR_len m n
    have qd : q ≠ d := fun z => by rw [z, hd1] at e1; cases e1
    refine ⟨q, rfl, ⟨_, lstOf e1⟩, for_list (K := K) (a := q) (xs := xs)
      (fun i σ H' => ∃ (D : List (List Int × Int)) (b : Option (List Int)) (y3 : V) (y4 : Option V), σ = [some (.int (n : Int)), some (.int (m : Int)), some (.ref d), some y3, y4] ∧ SameX d H1 H' ∧ H' d = some (.dT (ents D)) ∧ KOk n m D ∧ (∀ r ∈ (allR m n).take i, (r, ((hgt (m : Int) r : Nat) : Int)) ∈ D) ∧
        b = ((allR m n).take i).foldl (better (m : Int)) none ∧ ((b = none ∧ y3 = .non) ∨ ∃ w a, b = some w ∧ y3 = .ref a ∧ TupG H' a w ∧ (w, ((hgt (m : Int) w : Nat) : Int)) ∈ D))
      ⟨[], none, .non, none, rfl, SameX.refl d H1, hd1, ⟨fun p hp => (by cases hp), .nil⟩, fun r hr => (by rw [List.take_zero] at hr; cases hr), rfl, .inl ⟨rfl, rfl⟩⟩
      (fun i σ H' _ ⟨_, _, _, _, _, sx, _⟩ => lstOf (sx _ _ qd e1)) ?_ ?_⟩
    · rintro i v σ H2 hi ⟨D, b, y3, y4, rfl, sx, hd2, ok, inc, hb, hy⟩
      have hil := (List.getElem?_eq_some_iff.mp hi).1
      have hir : i < (allR m n).length := by omega
      obtain ⟨a, a1, a2⟩ := TupsG.get t1 (List.getElem?_eq_getElem hir)
      rw [hi] at a1
      cases a1
      obtain ⟨r, hr⟩ : ∃ r, r = (allR m n)[i] := ⟨_, rfl⟩
      rw [← hr] at a2
      have R : Ring n (m : Int) r := (allR_ring (by omega) (by omega)).mp (by rw [hr]; exact List.getElem_mem hir)
      have tk : (allR m n).take (i + 1) = (allR m n).take i ++ [r] := by rw [hr]; exact List.take_succ_eq_append_getElem hir
      refine ⟨_, rfl, _, rfl, _, rfl, a, d, r, m, n, D, rfl, sx.tupG hd1 a2, hd2, Bd.four R (by omega) le, by omega, by omega, by omega, le, ok, fun H3 D3 sx3 hd3 ok3 inc3 mem3 => ?_⟩
      have sx13 := sx.trans sx3
      have inc' : ∀ r' ∈ (allR m n).take (i + 1), (r', ((hgt (m : Int) r' : Nat) : Int)) ∈ D3 := fun r' h => by
        rw [tk] at h
        rcases List.mem_append.mp h with h | h
        · exact inc3 _ (inc r' h)
        · rw [List.mem_singleton.mp h]
          exact mem3
      have step : ((allR m n).take (i + 1)).foldl (better (m : Int)) none = better (m : Int) b r := by
        rw [tk, List.foldl_append, ← hb]
        rfl
      refine ⟨_, rfl, d, rfl, .inr ⟨_, .inl hd3⟩, _, rfl, _, rfl, ?_⟩
      rcases hy with ⟨rfl, rfl⟩ | ⟨w, aw, rfl, rfl, tw, mw⟩
      · refine .inr ⟨rfl, ⟨_, .inl hd3, fun kv hkv => ?_⟩, _, _, rfl, rfl, _, rfl, ite2 (fun _ => ?_) (fun e => absurd (decide_eq_true (show -(1 : Int) < ((hgt (m : Int) r : Nat) : Int) by omega)) e)⟩
        · obtain ⟨p, _, rfl⟩ := List.mem_map.mp hkv
          exact ⟨p.1, rfl⟩
        · refine ⟨_, rfl, D3, some r, .ref a, _, rfl, sx13, hd3, ok3, inc', ?_, .inr ⟨r, a, rfl, rfl, sx13.tupG hd1 a2, mem3⟩⟩
          rw [step]
          unfold better
          rw [if_pos (show (-1 : Int) < ((hgt (m : Int) r : Nat) : Int) by omega)]
      · have tw3 : TupG H3 aw w := sx3.tupG hd2 tw
        refine .inl ⟨some (.int ((hgt (m : Int) w : Nat) : Int)), ?_, _, _, rfl, rfl, _, rfl, ite2 (fun e => ?_) (fun e => ?_)⟩
        · rw [← ents_some ok3.2 (inc3 _ mw)]
          exact DGet.t hd3 (by rw [kR_V]; exact tw3)
        · have e := of_decide_eq_true e
          refine ⟨_, rfl, D3, some r, .ref a, _, rfl, sx13, hd3, ok3, inc', ?_, .inr ⟨r, a, rfl, rfl, sx13.tupG hd1 a2, mem3⟩⟩
          rw [step]
          unfold better
          rw [if_pos e]
        · have e : ¬ ((hgt (m : Int) w : Nat) : Int) < ((hgt (m : Int) r : Nat) : Int) := fun q => e (decide_eq_true q)
          refine ⟨D3, some w, .ref aw, _, rfl, sx13, hd3, ok3, inc', ?_, .inr ⟨w, aw, rfl, rfl, tw3, inc3 _ mw⟩⟩
          rw [step]
          unfold better
          rw [if_neg e]
    · rintro σ H2 ⟨D, b, y3, y4, rfl, sx, hd2, ok, inc, hb, hy⟩
      rw [xl, List.take_length] at inc hb
      have ne : allR m n ≠ [] := fun z => by
        rw [z] at al
        have : 0 < m ^ n := Nat.pow_pos (by omega)
        simp at al
        omega
      obtain ⟨w0, hw0⟩ := better_some (m : Int) (allR m n) none (.inl ne)
      rw [hw0] at hb
      rcases hy with ⟨rfl, _⟩ | ⟨w, aw, rfl, rfl, tw, mw⟩
      · cases hb
      have ew0 := Option.some.inj hb
      subst ew0
      have ew : worstR n m = w := by
        unfold worstR
        rw [hw0]
        rfl
      have R := (ok.1 _ mw).1
      refine ⟨_, rfl, _, rfl, _, rfl, _, rfl, aw, d, w, m, n, D, rfl, tw, hd2, R, by omega, by omega, by omega, ok, fun r' R' => inc r' ((allR_ring (by omega) (by omega)).mpr R'), fun H4 p s4 hp e4 => ?_⟩
      refine ⟨big (by show 2 ≤ 1000; decide), fun t ht => ?_⟩
      have t5 := same_upd (o := .tup [V.ref aw, V.ref p]) ht
      have S12 : Same H H2 := fun c o e => by
        have cd : c ≠ d := fun z => by rw [z, hd] at e; cases e
        exact sx _ _ cd (s1 _ _ (s0 _ _ e))
      refine hZ _ t aw p (S12.trans (s4.trans t5)) (S12.free hp) upd_same ?_ ?_
      · rw [ew]
        exact t5 _ _ (s4 _ _ tw)
      · rw [t5 _ _ e4]
        unfold worstO
        rw [ew]
theorem ok_later_of (D : Df K mg "later_of" s_later_of p_later_of f fd) (B : Bt mg)
    (D1 : Df K mg "able_of" s_able_of p_able_of f1 fd1) (G1 : FnOk P w K mg base (L2N.CX P w) 2 f1 fd1 p_able_of (sp_able_of K))
    (D2 : Df K mg "moved" s_moved p_moved f2 fd2) (G2 : FnOk P w K mg base (L2N.CX P w) 1 f2 fd2 p_moved (sp_moved2 K)) :
    FnOk P w K mg base (L2N.CX P w) 3 f fd p_later_of sp_later_of := by
  refine Fun.okN D.F sc_later_of (fun vs H Q E h => ?_) (fun cdv A outer s H vs Q E hr h => ?_)
  · obtain ⟨a, d, r, m, L, rfl, _⟩ := h
    rfl
  · obtain ⟨a, d, r, m, L, rfl, hT, hd, h0, hl, hm, hQ⟩ := h
    have hr1 : Room 1 _ := hr.mono (by decide)
    have hu2 := Nat.lt_of_le_of_lt (Nat.add_le_add_left (show 1 ≤ 64 by decide) _) hr.units
    refine ⟨_, pss_one (ps_ret (pe_lc (own := [("machine", 3)]) (g := gName 3) (tt := tB (tDIn (tCall (sp_moved2 K) [] E0 (tCons (tVar 0) (tCons (tVar 1) (tCons (tVar 3) tNil)))) (tVar 2))) (te := tVar 3) rfl sc_later_of.nd (pi_list (pe_call G1 hr (by rfl) D1.g D1.F.kp D1.b .nil passN (pa_cons (pv 0) pa_nil))) (blkOk_by (N := n_later_of) (sc := defScope s_later_of) (by decide +kernel))
        (fun _ _ _ _ _ => pg_name (i := 3) sc_later_of.nd rfl (Or.inl rfl))
        (fun _ _ _ _ _ => by exact pts_one (pt_cmp (pc_din hu2 (pe_call G2 hr1 (by rfl) D2.g D2.F.kp D2.b .nil passN (pa_cons (pv 0) (pa_cons (pv 1) (pa_cons (pv 3) pa_nil)))) (pv 2)))) (fun _ _ _ _ _ => pv 3))), ?_⟩
    refine ⟨_, rfl, a, r, rfl, tupOf hT, hl, fun H1 q s1 hq e1 => ?_⟩
    rw [N_Z] at e1
    have al : (able r).length ≤ r.length := Nat.le_trans (List.length_filter_le _ _) (by rw [List.length_range]; exact Nat.le_refl _)
    refine ⟨q, rfl, ⟨_, lstOf e1⟩, fun D hD => lc_l0 (K := K) (a := q) (zs := Z (able r)) (fun z => decide (HR.moved m r z.toNat ∈ L)) (fun z => V.int z) hD (by rw [List.length_map]; omega) (lstOf e1) (fun z H2 hz s2 Zc M hy hn => ?_) fun H2 s2 e2 => ?_⟩
    · obtain ⟨z1, z2⟩ := mem_Z.mp hz
      obtain ⟨z3, z4⟩ := mem_able.mp z2
      obtain ⟨k, rfl⟩ : ∃ k : Nat, z = (k : Int) := ⟨z.toNat, by omega⟩
      rw [Int.toNat_natCast] at z3 hy hn
      have s12 := s1.trans s2
      refine ⟨rfl, _, rfl, _, rfl, _, rfl, a, r, m, k, rfl, tupOf (s12 _ _ hT), z3, hl, hm, fun H3 p3 s3 h3 => ?_⟩
      refine ⟨_, rfl, d, _, rfl, DGet.rdT (Rd.of (s12.trans s3) hd) (by rw [kR_V]; exact h3), _, rfl, ?_⟩
      rw [entsB_get]
      by_cases c : HR.moved m r k ∈ L
      · rw [if_pos c]
        exact iteT ⟨_, rfl, hy (decide_eq_true c) H3 s3⟩
      · rw [if_neg c]
        exact iteF (hn (decide_eq_false c) H3 s3)
    · refine hQ H2 D (s1.trans s2) (s1.free hD) ?_
      rw [e2]
      unfold laterO N
      have e : ∀ l : List Nat, ((Z l).filter fun z => decide (HR.moved m r z.toNat ∈ L)).map V.int = (l.filter fun k => decide (HR.moved m r k ∈ L)).map fun (k : Nat) => V.int (k : Int) := fun l => by
        unfold Z
        rw [List.filter_map, List.map_map]
        rfl
      rw [e]
theorem ok_lasting_rings (D : Df K mg "lasting_rings" s_lasting_rings p_lasting_rings f fd) (B : Bt mg)
    (D1 : Df K mg "able_of" s_able_of p_able_of f1 fd1) (G1 : FnOk P w K mg base (L2N.CX P w) 2 f1 fd1 p_able_of (sp_able_of K))
    (D2 : Df K mg "all_rings" s_all_rings p_all_rings f2 fd2) (G2 : FnOk P w K mg base (L2N.CX P w) 1 f2 fd2 p_all_rings sp_all_rings)
    (D3 : Df K mg "later_of" s_later_of p_later_of f3 fd3) (G3 : FnOk P w K mg base (L2N.CX P w) 3 f3 fd3 p_later_of sp_later_of) :
    FnOk P w K mg base (L2N.CX P w) 4 f fd p_lasting_rings sp_lasting_rings := by
  refine Fun.okN D.F sc_lasting_rings (fun vs H Q E h => ?_) (fun cdv A outer s H vs Q E hr h => ?_)
  · obtain ⟨n, m, rfl, _⟩ := h
    rfl
  · obtain ⟨n, m, rfl, hn2, hn, hm2, hm, hp, hQ⟩ := h
    have hr1 : Room 1 _ := hr.mono (by decide)
    have hr2 : Room 2 _ := hr.mono (by decide)
    have hu2 := Nat.lt_of_le_of_lt (Nat.add_le_add_left (show 1 ≤ 64 by decide) _) hr.units
    refine ⟨_, pss_cons (ps_set (i := 2) sc_lasting_rings.nd rfl (.inr rfl) pe_dnewT)
      (pss_cons (ps_for (passes_of rfl) rfl (pi_list (pe_call G2 hr1 (by rfl) D2.g D2.F.kp D2.b .nil passN (pa_cons (pv 0) (pa_cons (pv 1) pa_nil)))) (pg_name (i := 3) sc_lasting_rings.nd rfl (.inl rfl))
        (pss_one (ps_if (pt_cmpR op_gt (pe_callB call_len_seq (by rfl) B.len PySem.boot_len (pa_cons (pe_call G1 hr2 (by rfl) D1.g D1.F.kp D1.b .nil passN (pa_cons (pv 3) pa_nil)) pa_nil)) pe_int (nomark _))
          (pss_one (ps_dput hu2 (pv 2) (pv 3) pe_bl rfl)) pss_nil)))
      (pss_cons (ps_set (i := 4) sc_lasting_rings.nd rfl (.inl rfl) pe_bl)
      (pss_cons (ps_while (passes_of rfl) (pt_val (pv 4))
        (pss_cons (ps_lock (ps_setLc (i := 5) (own := [("ring", 3)]) (g := gName 3) (tt := tTest (tOp (rEqI K fun b => b) (tCall sp_later_of [] E0 (tCons (tVar 3) (tCons (tVar 1) (tCons (tVar 2) tNil)))) (tLst tNil))) (te := tVar 3) rfl sc_lasting_rings.nd rfl rfl (sw_true rfl rfl rfl (by decide +kernel)) (pi_keys (pv 2)) (blkOk_by (N := n_lasting_rings) (sc := defScope s_lasting_rings) (by decide +kernel))
            (fun _ _ _ _ _ => pg_name (i := 3) sc_lasting_rings.nd rfl (Or.inl rfl)) (fun _ _ _ _ _ => by exact pts_one (pt_cmpR (op_eqI hr.units) (pe_call G3 hr (by rfl) D3.g D3.F.kp D3.b .nil passN (pa_cons (pv 3) (pa_cons (pv 1) (pa_cons (pv 2) pa_nil)))) (pe_lst pa_nil) (nomark _))) (fun _ _ _ _ _ => by exact pv 3)))
        (pss_cons (ps_for (passes_of rfl) rfl (pi_list (pv 5)) (pg_name (i := 3) sc_lasting_rings.nd rfl (.inl rfl))
          (pss_one (ps_expr (pe_bm PySem.F.plainAttrs_dict PySem.F.slot_dict_pop PySem.F.type_dict_pop (mt_popT1 hu2) (pv 2) (pa_cons (pv 3) pa_nil)))))
        (pss_one (ps_set (i := 4) sc_lasting_rings.nd rfl (.inl rfl) (pe_cmpR (op_neD hr.units) (pv 5) (pe_lst pa_nil) (nomark _)))))))
      (pss_one (ps_ret (pv 2)))))), ?_⟩
    intro d hd
    have s0 := same_upd (o := .dT []) hd
    refine ⟨_, rfl, _, rfl, n, m, rfl, hn, by omega, hm, hp, fun H1 q s1 hq L1 => ?_⟩
    obtain ⟨xs, e1, t1⟩ := L1
    have hd1 : H1 d = some (.dT []) := s1 _ _ upd_same
    have xl : xs.length = (allR m n).length := t1.len
    have al := allR_len m n
    have nd := allR_nodup m n
    have qd : q ≠ d := fun z => by rw [z, hd1] at e1; cases e1
    have inR : ∀ r ∈ allR m n, Ring n (m : Int) r := fun r hr => (allR_ring hn2 hm2).mp hr
    have trk : ∀ {H' : Hp}, SameX d H1 H' → ∀ r ∈ allR m n, ∃ q, TupG H' q r := fun sx r hr => by
      obtain ⟨i, hi, rfl⟩ := List.getElem_of_mem hr
      obtain ⟨a, _, a2⟩ := TupsG.get t1 (List.getElem?_eq_getElem hi)
      exact ⟨a, sx.tupG hd1 a2⟩
    refine ⟨q, rfl, ⟨_, lstOf e1⟩, for_list (K := K) (a := q) (xs := xs)
      (fun i σ H' => ∃ y3 : Option V, σ = [some (.int (n : Int)), some (.int (m : Int)), some (.ref d), y3, none, none] ∧ SameX d H1 H' ∧ H' d = some (.dT (entsB (((allR m n).take i).filter fun r => !decide ((able r).length ≤ 1)))))
      ⟨none, rfl, SameX.refl d H1, hd1⟩ (fun i σ H' _ ⟨_, _, sx, _⟩ => lstOf (sx _ _ qd e1)) ?_ ?_⟩
    · rintro i v σ H2 hi ⟨y3, rfl, sx, hd2⟩
      have hil := (List.getElem?_eq_some_iff.mp hi).1
      have hir : i < (allR m n).length := by omega
      obtain ⟨a, a1, a2⟩ := TupsG.get t1 (List.getElem?_eq_getElem hir)
      rw [hi] at a1
      cases a1
      obtain ⟨r, hr⟩ : ∃ r, r = (allR m n)[i] := ⟨_, rfl⟩
      rw [← hr] at a2
      have rm : r ∈ allR m n := by rw [hr]; exact List.getElem_mem hir
      have R := inR r rm
      have rl := R.len
      have tk : (allR m n).take (i + 1) = (allR m n).take i ++ [r] := by rw [hr]; exact List.take_succ_eq_append_getElem hir
      have a3 := sx.tupG hd1 a2
      refine ⟨_, rfl, a, r, rfl, tupOf a3, by omega, fun H3 q3 s3 hq3 e3 => ?_⟩
      refine ⟨q3, _, rfl, .inl (lstOf e3), _, _, rfl, rfl, _, rfl, ?_⟩
      rw [len_N, tk, List.filter_append]
      have hd3 := s3 _ _ hd2
      have sx3 := sx.trans (SameX.of s3)
      by_cases c : (able r).length ≤ 1
      · rw [decide_eq_false (show ¬ (1 : Int) < ((able r).length : Int) by omega)]
        refine iteF ⟨_, rfl, sx3, ?_⟩
        rw [List.filter_cons_of_neg (by simp [c]), List.filter_nil, List.append_nil]
        exact hd3
      · rw [decide_eq_true (show (1 : Int) < ((able r).length : Int) by omega)]
        have no : r ∉ ((allR m n).take i).filter fun r => !decide ((able r).length ≤ 1) := fun z => by
          have z1 := (List.mem_filter.mp z).1
          have z2 : ((allR m n).take (i + 1)).Nodup := nd.sublist (List.take_sublist _ _)
          rw [tk, List.nodup_append] at z2
          exact z2.2.2 r z1 r List.mem_cons_self rfl
        have lb : (entsB (((allR m n).take i).filter fun r => !decide ((able r).length ≤ 1))).length < sizeLine := small1000 (by
          rw [entsB_len]
          have := List.length_filter_le (fun r => !decide ((able r).length ≤ 1)) ((allR m n).take i)
          rw [List.length_take] at this
          omega)
        refine iteT ⟨_, rfl, _, rfl, d, _, rfl, DPut.t hd3 (k := kR r) (by rw [kR_V]; exact s3 _ _ a3) lb, _, rfl, sx3.trans (SameX.put _), ?_⟩
        rw [upd_same, entsB_put no, List.filter_cons_of_pos (by simp [c]), List.filter_nil]
    · rintro σ H2 ⟨y3, rfl, sx, hd2⟩
      rw [xl, List.take_length] at hd2
      have st : startR n m = (allR m n).filter fun r => !decide ((able r).length ≤ 1) := rfl
      rw [← st] at hd2
      have sl : (startR n m).length ≤ 300 := by
        have := List.length_filter_le (fun r => !decide ((able r).length ≤ 1)) (allR m n)
        rw [st]
        omega
      obtain ⟨W, hW⟩ : ∃ W : Nat → L2.St → Hp → Prop, ∀ μ σ H', W μ σ H' ↔ ∃ (u : Nat) (L : List (List Int)) (y3 y5 : Option V) (g : Bool), σ = [some (.int (n : Int)), some (.int (m : Int)), some (.ref d), y3, some (.bl g), y5] ∧ SameX d H1 H' ∧ H' d = some (.dT (entsB L)) ∧ (∀ r ∈ L, r ∈ allR m n) ∧ L.Nodup ∧
        (g = true → lastR n m = lastF (m : Int) u L ∧ L.length < u ∧ μ = L.length + 1) ∧ (g = false → lastR n m = L ∧ μ = 0) := ⟨_, fun _ _ _ => Iff.rfl⟩
      refine ⟨W, ⟨_, (hW _ _ _).mpr ⟨301, startR n m, _, _, true, rfl, sx, hd2, fun r hr => (List.mem_filter.mp hr).1, nd.sublist List.filter_sublist, fun _ => ⟨rfl, by omega, rfl⟩, fun z => nomatch z⟩⟩, ?_⟩
      intro μ σ H3 hw
      obtain ⟨u, L, y3, y5, g, rfl, sx3, hd3, inc, lnd, hg1, hg0⟩ := (hW _ _ _).mp hw
      refine ⟨_, rfl, _, rfl, ?_⟩
      cases g with
      | false =>
        obtain ⟨hg, _⟩ := hg0 rfl
        refine iteF ⟨_, rfl, hQ H3 d (fun c o e => ?_) hd (by rw [hg]; exact hd3) fun r hr => trk sx3 r (inc r (by rw [← hg]; exact hr))⟩
        have cd : c ≠ d := fun z => by rw [z, hd] at e; cases e
        exact sx3 _ _ cd (s1 _ _ (s0 _ _ e))
      | true =>
        obtain ⟨hg, hlu, hμ⟩ := hg1 rfl
        obtain ⟨u, rfl⟩ : ∃ u', u = u' + 1 := ⟨u - 1, by omega⟩
        refine iteT ⟨fun σ' H' => ∃ m', m' < μ ∧ W m' σ' H', fun _ _ h => h, ?_⟩
        have Ll : L.length ≤ 300 := by
          have := le_of_sub L (allR m n) lnd inc
          omega
        refine ⟨d, .dT (entsB L), hd3, True.intro, fun od => ?_⟩
        obtain ⟨Hk, hHk⟩ : ∃ Hk, Hk = upd H3 d (.frz od (.dT (entsB L))) := ⟨_, rfl⟩
        rw [← hHk]
        have hdk : Hk d = some (.frz od (.dT (entsB L))) := by rw [hHk, upd_same]
        refine ⟨_, rfl, d, od, rfl, .inr ⟨_, hdk, fun D hD => ?_⟩⟩
        have Dd : D ≠ d := fun z => by rw [z, hdk] at hD; cases hD
        have fld : lastF (m : Int) (u + 1) L = if endsO (m : Int) L = [] then L else lastF (m : Int) u (stayO (m : Int) L) := rfl
        rw [fld] at hg
        refine lc_it walk_keysT (fun i Hh => Same Hk Hh ∧ ∃ ys, Hh D = some (.lst ys) ∧ ys.length ≤ i ∧ TupsG Hh ys ((L.take i).filter fun r => decide (laterO (m : Int) L r = []))) ⟨same_upd hD, [], upd_same, Nat.le_refl _, .nil⟩ (fun i Hh _ p => p.1 _ _ hdk) ?_ ?_
        · rintro i v Hh Hh' hi ⟨sm, ys, hy, yl, ty⟩ ⟨rfl, k, vv, b, hkv, rfl, hb⟩
          rw [entsB_len] at hi
          obtain ⟨r, hr⟩ : ∃ r, r = L[i] := ⟨_, rfl⟩
          have ek : k = kR r := by
            unfold entsB at hkv
            rw [List.getElem?_map, List.getElem?_eq_getElem hi] at hkv
            rw [hr]
            exact (congrArg Prod.fst (Option.some.inj hkv)).symm
          have tb : TupG Hh' b r := by
            rw [ek, kR_V] at hb
            exact hb
          have rL : r ∈ L := by rw [hr]; exact List.getElem_mem hi
          have R := inR r (inc r rL)
          have rl := R.len
          have tk : L.take (i + 1) = L.take i ++ [r] := by rw [hr]; exact List.take_succ_eq_append_getElem hi
          refine ⟨rfl, _, rfl, _, rfl, _, rfl, b, d, r, (m : Int), L, rfl, tb, .inr ⟨od, sm _ _ hdk⟩, by omega, by omega, by omega, fun H4 p4 s4 hp4 e4 => ?_⟩
          rw [N_Z] at e4
          refine ⟨big (by show 0 ≤ 1000; decide), fun q4 hq4 => ⟨p4, q4, Z (laterO (m : Int) L r), [], rfl, rfl, .inl ⟨lstOf ((same_upd hq4) _ _ e4), lstOf upd_same⟩, _, rfl, ?_⟩⟩
          have s5 := s4.trans (same_upd (o := .lst []) hq4)
          have hy5 := s5 _ _ hy
          rw [tk, List.filter_append]
          by_cases c : laterO (m : Int) L r = []
          · rw [decide_eq_true (show Z (laterO (m : Int) L r) = [] by rw [c]; rfl)]
            refine iteT ⟨_, rfl, ys, hy5, small1000 (by omega), fun x o e => ?_, _, upd_same, by rw [List.length_append]; show ys.length + 1 ≤ i + 1; omega, ?_⟩
            · rw [upd_ne (ne_of_none e hD)]
              exact s5 _ _ (sm _ _ e)
            · rw [List.filter_cons_of_pos (by simp [c]), List.filter_nil]
              exact TupsG.append ((ty.of s5).upd hy5) (.cons ⟨b, rfl, TupG.upd hy5 (s5 _ _ tb)⟩ .nil)
          · rw [decide_eq_false (show ¬ Z (laterO (m : Int) L r) = [] from fun z => c (List.map_eq_nil_iff.mp z))]
            refine iteF ⟨sm.trans s5, ys, hy5, by omega, ?_⟩
            rw [List.filter_cons_of_neg (by simp [c]), List.filter_nil, List.append_nil]
            exact ty.of s5
        · rintro Hf ⟨sm, ys, hy, yl, ty⟩
          rw [entsB_len, List.take_length] at ty
          have eE : (L.filter fun r => decide (laterO (m : Int) L r = [])) = endsO (m : Int) L := rfl
          rw [eE] at ty
          have hdf := sm _ _ hdk
          refine ⟨hdf, ?_⟩
          obtain ⟨Hu, hHu⟩ : ∃ Hu, Hu = upd Hf d (.dT (entsB L)) := ⟨_, rfl⟩
          rw [← hHu]
          have hdu : Hu d = some (.dT (entsB L)) := by rw [hHu, upd_same]
          have hyu : Hu D = some (.lst ys) := by rw [hHu, upd_ne Dd]; exact hy
          have tyu : TupsG Hu ys (endsO (m : Int) L) := ty.keeps fun b zs e => by
            rw [hHu, upd_ne (fun z => by rw [z, hdf] at e; cases e)]
            exact e
          have sxu : SameX d H3 Hu := fun c o cd e => by
            rw [hHu, upd_ne cd]
            refine sm _ _ ?_
            rw [hHk, upd_ne cd]
            exact e
          have yE : ys.length = (endsO (m : Int) L).length := ty.len
          have eN : (endsO (m : Int) L).Nodup := lnd.sublist List.filter_sublist
          refine ⟨_, rfl, D, rfl, ⟨_, lstOf hyu⟩, for_list (K := K) (a := D) (xs := ys)
            (fun j σ H' => ∃ y3 : Option V, σ = [some (.int (n : Int)), some (.int (m : Int)), some (.ref d), y3, some (.bl true), some (.ref D)] ∧ SameX d Hu H' ∧ H' d = some (.dT (entsB (L.filter fun q => !decide (q ∈ (endsO (m : Int) L).take j)))))
            ⟨y3, rfl, SameX.refl d Hu, by rw [List.take_zero, show (L.filter fun q => !decide (q ∈ ([] : List (List Int)))) = L from List.filter_eq_self.mpr fun q _ => by simp]; exact hdu⟩ (fun j σ H' _ ⟨_, _, sx, _⟩ => lstOf (sx _ _ Dd hyu)) ?_ ?_⟩
          · rintro j v σ H4 hj ⟨y3, rfl, sx4, hd4⟩
            have hjl := (List.getElem?_eq_some_iff.mp hj).1
            have hje : j < (endsO (m : Int) L).length := by omega
            obtain ⟨b, b1, b2⟩ := TupsG.get tyu (List.getElem?_eq_getElem hje)
            rw [hj] at b1
            cases b1
            obtain ⟨r, hr⟩ : ∃ r, r = (endsO (m : Int) L)[j] := ⟨_, rfl⟩
            rw [← hr] at b2
            have tk : (endsO (m : Int) L).take (j + 1) = (endsO (m : Int) L).take j ++ [r] := by rw [hr]; exact List.take_succ_eq_append_getElem hje
            have rE : r ∈ endsO (m : Int) L := by rw [hr]; exact List.getElem_mem hje
            have no : r ∉ (endsO (m : Int) L).take j := fun z => by
              have z2 : ((endsO (m : Int) L).take (j + 1)).Nodup := eN.sublist (List.take_sublist _ _)
              rw [tk, List.nodup_append] at z2
              exact z2.2.2 r z r List.mem_cons_self rfl
            have b4 : TupG H4 b r := sx4.tupG hdu b2
            have mem : r ∈ L.filter fun q => !decide (q ∈ (endsO (m : Int) L).take j) := List.mem_filter.mpr ⟨(List.mem_filter.mp rE).1, by simp [no]⟩
            refine ⟨_, rfl, .inr (.inr (.inl ⟨rfl, .inr ⟨_, hd4⟩⟩)), _, rfl, d, _, kR r, b, .bl true, rfl, rfl, hd4, by rw [kR_V]; exact b4, by rw [entsB_get, if_pos mem], _, rfl, sx4.trans (SameX.put _), ?_⟩
            rw [upd_same, entsB_drop, filter_step, tk]
          · rintro σ H4 ⟨y3, rfl, sx4, hd4⟩
            rw [yE, List.take_length, filter_ends] at hd4
            have hy4 := sx4 _ _ Dd hyu
            have ty4 : TupsG H4 ys (endsO (m : Int) L) := tyu.keeps fun b zs e => sx4 _ _ (fun z => by rw [z, hdu] at e; cases e) e
            refine ⟨_, rfl, big (by show 0 ≤ 1000; decide), fun q5 hq5 => ?_⟩
            have t5 := same_upd (o := .lst []) hq5
            refine ⟨.list (dRs (endsO (m : Int) L)), .list (dRs []), .lst (lstOf (t5 _ _ hy4)) (dp_Rs (ty4.of t5)), .lst (lstOf upd_same) .nil, shaped_dRs _, shaped_dRs _, ?_⟩
            rw [eqv_nil]
            have sx5 := sx3.trans (sxu.trans (sx4.trans (SameX.of t5)))
            have inc' : ∀ r ∈ stayO (m : Int) L, r ∈ allR m n := fun r hr => inc r (List.mem_filter.mp hr).1
            have nd' : (stayO (m : Int) L).Nodup := lnd.sublist List.filter_sublist
            have hd5 := t5 _ _ hd4
            by_cases c : endsO (m : Int) L = []
            · rw [if_pos c] at hg
              refine ⟨0, by omega, (hW _ _ _).mpr ⟨u, stayO (m : Int) L, _, _, !decide (endsO (m : Int) L = []), rfl, sx5, hd5, inc', nd', fun z => ?_, fun _ => ⟨by rw [hg, stay_same c], rfl⟩⟩⟩
              rw [decide_eq_true c] at z
              cases z
            · rw [if_neg c] at hg
              have ls := stay_len c
              refine ⟨(stayO (m : Int) L).length + 1, by omega, (hW _ _ _).mpr ⟨u, stayO (m : Int) L, _, _, !decide (endsO (m : Int) L = []), rfl, sx5, hd5, inc', nd', fun _ => ⟨hg, by omega, rfl⟩, fun z => ?_⟩⟩
              rw [decide_eq_false c] at z
              cases z
theorem ok_never (D : Df K mg "never" s_never p_never f fd) (B : Bt mg)
    (D1 : Df K mg "need_numbers" s_need_numbers p_need_numbers f1 fd1) (G1 : FnOk P w K mg base (L2N.CX P w) 1 f1 fd1 p_need_numbers (sp_need_numbers cN))
    (D2 : Df K mg "need_machines" s_need_machines p_need_machines f2 fd2) (G2 : FnOk P w K mg base (L2N.CX P w) 1 f2 fd2 p_need_machines (sp_need_machines cR))
    (D3 : Df K mg "need_small" s_need_small p_need_small f3 fd3) (G3 : FnOk P w K mg base (L2N.CX P w) 1 f3 fd3 p_need_small (sp_need_small cG))
    (D4 : Df K mg "lasting_rings" s_lasting_rings p_lasting_rings f4 fd4) (G4 : FnOk P w K mg base (L2N.CX P w) 4 f4 fd4 p_lasting_rings sp_lasting_rings)
    (D5 : Df K mg "later_of" s_later_of p_later_of f5 fd5) (G5 : FnOk P w K mg base (L2N.CX P w) 3 f5 fd5 p_later_of sp_later_of)
    (D6 : Df K mg "moved" s_moved p_moved f6 fd6) (G6 : FnOk P w K mg base (L2N.CX P w) 1 f6 fd6 p_moved (sp_moved2 K)) :
    FnOk P w K mg base (L2N.CX P w) 5 f fd p_never (sp_never cN cR cG) := by
  refine Fun.okN D.F sc_never (fun vs H Q E h => ?_) (fun cdv A outer s H vs Q E hr h => ?_)
  · obtain ⟨x, y, rfl, _⟩ := h
    rfl
  · obtain ⟨x, y, rfl, hS⟩ := h
    have hr1 : Room 1 _ := hr.mono (by decide)
    have hr3 : Room 3 _ := hr.mono (by decide)
    have hu2 := Nat.lt_of_le_of_lt (Nat.add_le_add_left (show 1 ≤ 64 by decide) _) hr.units
    refine ⟨_, pss_cons (ps_expr (pe_call G1 hr1 (by rfl) D1.g D1.F.kp D1.b .nil (L2N.passes_call (L2N.takes_of rfl rfl rfl rfl) (fun _ _ _ _ h => h)) (pa_cons (pv 1) pa_nil)))
      (pss_cons (ps_expr (pe_call G2 hr1 (by rfl) D2.g D2.F.kp D2.b .nil (L2N.passes_call (L2N.takes_of rfl rfl rfl rfl) (fun _ _ _ _ h => h)) (pa_cons (pv 0) pa_nil)))
      (pss_cons (ps_expr (pe_call G3 hr1 (by rfl) D3.g D3.F.kp D3.b .nil (L2N.passes_call (L2N.takes_of rfl rfl rfl rfl) (fun _ _ _ _ h => h)) (pa_cons (pv 0) (pa_cons (pv 1) pa_nil))))
      (pss_cons (ps_set (i := 2) sc_never.nd rfl (.inl rfl) (pe_call G4 hr (by rfl) D4.g D4.F.kp D4.b .nil passN (pa_cons (pv 0) (pa_cons (pv 1) pa_nil))))
      (pss_cons (ps_if (pt_cmpR op_eq (pe_callB call_len_dT (by rfl) B.len PySem.boot_len (pa_cons (pv 2) pa_nil)) pe_int (nomark _)) (pss_one (ps_ret pe_non)) pss_nil)
      (pss_cons (ps_set (i := 3) sc_never.nd rfl (.inl rfl) (pe_lst (pa_cons (pe_callB (cr_minDT rfl hr.units) (by rfl) B.min (by decide +kernel) (pa_cons (pv 2) pa_nil)) pa_nil)))
      (pss_cons (ps_set (i := 4) sc_never.nd rfl (.inl rfl) (pe_lst pa_nil))
      (pss_cons (ps_while (passes_of rfl) (pt_cmpR op_lt (pe_callB call_len_seq (by rfl) B.len PySem.boot_len (pa_cons (pv 4) pa_nil)) (pe_callB call_len_seq (by rfl) B.len PySem.boot_len (pa_cons (pv 3) pa_nil)) (nomark _))
        (pss_cons (ps_set (i := 5) sc_never.nd rfl (.inl rfl) (pe_ix ix_list (pe_call G5 hr3 (by rfl) D5.g D5.F.kp D5.b .nil passN (pa_cons (pe_ix ix_list (pv 3) (pe_un un_neg pe_int) (fun _ _ => rfl)) (pa_cons (pv 1) (pa_cons (pv 2) pa_nil)))) pe_int (fun _ _ => rfl)))
        (pss_cons (ps_expr (pe_bm PySem.F.plainAttrs_list PySem.F.slot_list_append PySem.F.type_list_append mt_append (pv 4) (pa_cons (pv 5) pa_nil)))
        (pss_cons (ps_set (i := 6) sc_never.nd rfl (.inl rfl) (pe_call G6 hr1 (by rfl) D6.g D6.F.kp D6.b .nil passN (pa_cons (pe_ix ix_list (pv 3) (pe_un un_neg pe_int) (fun _ _ => rfl)) (pa_cons (pv 1) (pa_cons (pv 5) pa_nil)))))
        (pss_one (ps_if (pt_cmpR (op_notInD (room65 hr)) (pv 6) (pv 3) rfl)
          (pss_one (ps_expr (pe_bm PySem.F.plainAttrs_list PySem.F.slot_list_append PySem.F.type_list_append mt_append (pv 3) (pa_cons (pv 6) pa_nil))))
          (pss_cons (ps_set (i := 7) sc_never.nd rfl (.inl rfl) (pe_bm PySem.F.plainAttrs_list PySem.F.slot_list_index PySem.F.type_list_index (mt_indexD (room65 hr)) (pv 3) (pa_cons (pv 6) pa_nil)))
          (pss_one (ps_ret (pe_tup (pa_cons (pv 6) (pa_cons (pe_slice sl_list (pv 4) (po_some (pv 7)) po_none) pa_nil))))))))))))
      (pss_one (ps_ret pe_non))))))))), ?_⟩
    obtain ⟨h1, h2, _, h4⟩ := hS
    refine ⟨_, rfl, y, rfl, h1, fun y1 y2 => ?_⟩
    refine ⟨_, rfl, x, rfl, h2 y1 y2, fun x1 x2 => ?_⟩
    obtain ⟨n, rfl⟩ : ∃ n : Nat, x = n := ⟨x.toNat, by omega⟩
    obtain ⟨m, rfl⟩ : ∃ m : Nat, y = m := ⟨y.toNat, by omega⟩
    obtain ⟨hE, hZ⟩ := h4 n m rfl rfl (by omega) (by omega) (by omega) (by omega) (fun z => z)
    refine ⟨_, rfl, _, rfl, n, m, rfl, by omega, by omega, by omega, hE, fun le => ?_⟩
    obtain ⟨hZ0, hZ1⟩ := hZ le
    refine ⟨_, rfl, _, rfl, n, m, rfl, by omega, by omega, by omega, by omega, le, fun Hb d sb hd0 hdb trk => ?_⟩
    obtain ⟨l1, l2, l3, l4⟩ := lastR_is le
    refine ⟨_, rfl, d, _, rfl, hdb, rfl, _, rfl, ?_⟩
    rw [entsB_len]
    by_cases c0 : lastR n m = []
    · rw [c0, decide_eq_true (show V.int ((([] : List (List Int)).length : Nat) : Int) = V.int 0 from rfl)]
      exact iteT (hZ0 c0 Hb sb)
    rw [decide_eq_false (show ¬ V.int ((lastR n m).length : Int) = V.int 0 from fun z => c0 (List.length_eq_zero_iff.mp (by have := V.int.inj z; omega)))]
    refine iteF ?_
    obtain ⟨x0, xs0, hx0⟩ : ∃ x0 xs0, lastR n m = x0 :: xs0 := by
      cases q : lastR n m with
      | nil => exact absurd q c0
      | cons a l => exact ⟨a, l, rfl⟩
    have nv : neverR n m = nevF (m : Int) (lastR n m) 302 [] (minR x0 xs0) [] := by
      unfold neverR
      rw [hx0]
    obtain ⟨L, hL⟩ : ∃ L, L = lastR n m := ⟨_, rfl⟩
    rw [← hL] at l1 l2 l3 l4 hdb hx0 nv
    refine ⟨_, rfl, d, entsB L, x0, xs0, rfl, hdb, ?_, fun q0 hq0 => ⟨big (by show 1 ≤ 1000; decide), fun pw hpw => ?_⟩⟩
    · rw [← hx0]
      unfold entsB
      rw [List.map_map]
      rfl
    have t1 := same_upd (o := .lst [V.ref q0]) hpw
    refine ⟨big (by show 0 ≤ 1000; decide), fun po hpo => ?_⟩
    have t2 := same_upd (o := .lst []) hpo
    have pwo : pw ≠ po := fun z => by rw [← z, upd_same] at hpo; cases hpo
    have hpob : Hb po = none := t1.free hpo
    obtain ⟨W, hW⟩ : ∃ W : Nat → L2.St → Hp → Prop, ∀ μ σ H', W μ σ H' ↔ ∃ (u : Nat) (ini : List (List Int)) (v : List Int) (o : List Nat) (ys : List V) (y5 y6 : Option V), σ = [some (.int (n : Int)), some (.int (m : Int)), some (.ref d), some (.ref pw), some (.ref po), y5, y6, none] ∧ Same Hb H' ∧ H' pw = some (.lst ys) ∧ TupsG H' ys (ini ++ [v]) ∧ H' po = some (.lst (N o)) ∧ o.length = ini.length ∧
      (∀ r ∈ ini ++ [v], r ∈ L) ∧ (ini ++ [v]).Nodup ∧ neverR n m = nevF (m : Int) L u ini v o ∧ ini.length + u = 302 ∧ μ = L.length - ini.length := ⟨_, fun _ _ _ => Iff.rfl⟩
    refine ⟨W, ⟨_, (hW _ _ _).mpr ⟨302, [], minR x0 xs0, [], [.ref q0], none, none, rfl, t1.trans t2, t2 _ _ upd_same, .cons ⟨q0, rfl, t2 _ _ (t1 _ _ hq0)⟩ .nil, upd_same, rfl, fun r hr => ?_, by simp, nv, rfl, rfl⟩⟩, ?_⟩
    · rw [List.mem_singleton.mp hr, hx0]
      exact minR_mem x0 xs0
    intro μ σ H4 hw
    obtain ⟨u, ini, v, o, ys, y5, y6, rfl, sm, hw4, ty, ho4, ol, inc, nd, hnv, hu, hμ⟩ := (hW _ _ _).mp hw
    have il := le_of_sub _ _ nd inc
    rw [List.length_append] at il
    have il : ini.length + 1 ≤ L.length := il
    obtain ⟨u, rfl⟩ : ∃ u', u = u' + 1 := ⟨u - 1, by omega⟩
    have yl : ys.length = ini.length + 1 := by rw [ty.len, List.length_append]; rfl
    have vL : v ∈ L := inc v (List.mem_append_right _ List.mem_cons_self)
    obtain ⟨vR, v1⟩ := l1 v vL
    have R := (allR_ring (show 2 ≤ n by omega) (show 2 ≤ m by omega)).mp vR
    have rl := R.len
    refine ⟨_, rfl, po, _, rfl, .inl (lstOf ho4), _, rfl, pw, _, rfl, .inl (lstOf hw4), _, _, rfl, rfl, _, rfl, ?_⟩
    rw [len_N, yl, decide_eq_true (show (o.length : Int) < ((ini.length + 1 : Nat) : Int) by omega)]
    refine iteT ⟨fun σ' H' => ∃ m', m' < μ ∧ W m' σ' H', fun _ _ h => h, ?_⟩
    obtain ⟨av, av1, av2⟩ := TupsG.get ty (i := ini.length) (r := v) (by rw [List.getElem?_append_right (Nat.le_refl _), Nat.sub_self]; rfl)
    have lastAt : ys[ys.length - 1]? = some (.ref av) := by rw [yl, Nat.add_sub_cancel]; exact av1
    have hd4 := sm _ _ hdb
    refine ⟨_, rfl, _, rfl, pw, ys, _, _, rfl, rfl, lstOf hw4, atI_neg lastAt, _, rfl, _, rfl, av, d, v, (m : Int), L, rfl, av2, .inl hd4, by omega, by omega, by omega, fun H5 p5 s5 hp5 e5 => ?_⟩
    obtain ⟨k, hk⟩ : ∃ k, k = (laterO (m : Int) L v).headD 0 := ⟨_, rfl⟩
    have lne := l3 v vL
    have lpos : 0 < (laterO (m : Int) L v).length := List.length_pos_iff.mpr lne
    have kg : (laterO (m : Int) L v).getD 0 0 = k := by
      rw [hk]
      cases laterO (m : Int) L v <;> rfl
    have km : k ∈ laterO (m : Int) L v := by
      rw [hk]
      cases q : laterO (m : Int) L v with
      | nil => exact absurd q lne
      | cons a l => exact List.mem_cons_self
    obtain ⟨km1, km2⟩ := List.mem_filter.mp km
    have km2 : HR.moved (m : Int) v k ∈ L := of_decide_eq_true km2
    obtain ⟨km3, km4⟩ := mem_able.mp km1
    refine ⟨p5, _, 0, _, rfl, rfl, lstOf e5, atI_N (k := 0) rfl lpos, ?_⟩
    rw [kg]
    have ho5 := s5 _ _ ho4
    refine ⟨_, rfl, .inl ⟨rfl, _, lstOf ho5⟩, _, rfl, po, _, _, rfl, rfl, ho5, small1000 (by rw [len_N]; omega), ?_⟩
    have eo : N o ++ [V.int (k : Int)] = N (o ++ [k]) := by
      unfold N
      rw [List.map_append]
      rfl
    rw [eo]
    obtain ⟨H6, hH6⟩ : ∃ H6, H6 = upd H5 po (.lst (N (o ++ [k]))) := ⟨_, rfl⟩
    rw [← hH6]
    have hw6 : H6 pw = some (.lst ys) := by rw [hH6, upd_ne pwo]; exact s5 _ _ hw4
    have ho6 : H6 po = some (.lst (N (o ++ [k]))) := by rw [hH6, upd_same]
    have ty6 : TupsG H6 ys (ini ++ [v]) := by rw [hH6]; exact (ty.of s5).upd ho5
    have av6 : TupG H6 av v := by rw [hH6]; exact TupG.upd ho5 (s5 _ _ av2)
    have s6 : Same Hb H6 := fun c oo e => by
      rw [hH6, upd_ne (ne_of_none e hpob)]
      exact s5 _ _ (sm _ _ e)
    refine ⟨_, rfl, _, rfl, pw, ys, _, _, rfl, rfl, lstOf hw6, atI_neg lastAt, _, rfl, _, rfl, av, v, (m : Int), k, rfl, tupOf av6, km3, by omega, by omega, fun H7 p7 s7 h7 => ?_⟩
    have hw7 := s7 _ _ hw6
    have ty7 := ty6.of s7
    have nx := nevF_succ (m : Int) L u ini v o
    rw [← hk] at nx
    rw [nx] at hnv
    refine ⟨_, rfl, _, rfl, .tuple (dI (HR.moved (m : Int) v k)), dRs (ini ++ [v]), dp_T (tupOf h7), .lst (lstOf hw7) (dp_Rs ty7), shaped_T _, shaped_dRs _, _, rfl, ?_⟩
    rw [any_dRs]
    by_cases c : HR.moved (m : Int) v k ∈ ini ++ [v]
    · rw [if_pos c] at hnv
      rw [decide_eq_true c]
      obtain ⟨j, hj⟩ : ∃ j, j = (ini ++ [v]).idxOf (HR.moved (m : Int) v k) := ⟨_, rfl⟩
      have jl : j < (ini ++ [v]).length := by rw [hj]; exact List.idxOf_lt_length_iff.mpr c
      have jv : (ini ++ [v])[j] = HR.moved (m : Int) v k := by
        subst hj
        exact List.getElem_idxOf jl
      have jl2 : j < ini.length + 1 := by
        rw [List.length_append] at jl
        exact jl
      have dat : ∀ i (hi : i < (ini ++ [v]).length), (dRs (ini ++ [v]))[i]? = some (.tuple (dI (ini ++ [v])[i])) := fun i hi => by
        unfold dRs
        rw [List.getElem?_map, List.getElem?_eq_getElem hi]
        rfl
      refine iteF ⟨_, rfl, .inl ⟨rfl, _, lstOf hw7⟩, _, rfl, pw, _, .tuple (dI (HR.moved (m : Int) v k)), dRs (ini ++ [v]), j, _, rfl, rfl, .lst (lstOf hw7) (dp_Rs ty7), dp_T (tupOf h7), shaped_dRs _, shaped_T _, dat j jl, ?_, fun i z hi hz => ?_, ?_⟩
      · show PyData.eqvAll (dI (ini ++ [v])[j]) (dI (HR.moved (m : Int) v k)) = true
        rw [eqv_dI, jv]
        simp
      · have hi2 : i < (ini ++ [v]).length := by omega
        rw [dat i hi2] at hz
        cases hz
        show PyData.eqvAll (dI (ini ++ [v])[i]) (dI (HR.moved (m : Int) v k)) = false
        rw [eqv_dI]
        refine decide_eq_false fun z => ?_
        have := List.not_of_lt_findIdx (p := (· == HR.moved (m : Int) v k)) (xs := ini ++ [v]) (i := i) (by rw [hj] at hi; exact hi)
        rw [z] at this
        simp at this
      have ho7 := s7 _ _ ho6
      refine ⟨_, rfl, _, rfl, _, rfl, _, rfl, po, _, rfl, lstOf ho7, fun q8 hq8 => ?_⟩
      have cd : cutV (N (o ++ [k])) (some ((j : Nat) : Int)) none = N ((o ++ [k]).drop j) := by
        rw [cut_drop _ _ (by rw [len_N, List.length_append]; show j ≤ o.length + 1; omega)]
        unfold N
        rw [List.map_drop]
      rw [cd]
      have t8 := same_upd (o := .lst (N ((o ++ [k]).drop j))) hq8
      refine ⟨big (by show 2 ≤ 1000; decide), fun t ht => ?_⟩
      have t9 := same_upd (o := .tup [V.ref p7, V.ref q8]) ht
      have S7 := sb.trans (s6.trans s7)
      refine hZ1 (by rw [← hL]; exact fun z => by rw [z] at hx0; cases hx0) _ t p7 q8 (S7.trans (t8.trans t9)) (S7.free hq8) upd_same ?_ ?_
      · rw [hnv]
        exact t9 _ _ (t8 _ _ h7)
      · rw [hnv, t9 _ _ upd_same, ← hj]
    · rw [if_neg c] at hnv
      rw [decide_eq_false c]
      refine iteT ⟨_, rfl, .inl ⟨rfl, _, lstOf hw7⟩, _, rfl, pw, _, _, rfl, rfl, hw7, small1000 (by omega), ?_⟩
      have hpwb : Hb pw = none := hpw
      refine ⟨L.length - (ini.length + 1), by omega, (hW _ _ _).mpr ⟨u, ini ++ [v], HR.moved (m : Int) v k, o ++ [k], ys ++ [.ref p7], _, _, rfl, fun cc oo e => ?_, upd_same, ?_, ?_, ?_, fun r hr => ?_, ?_, hnv, ?_, ?_⟩⟩
      · rw [upd_ne (ne_of_none e hpwb)]
        exact s7 _ _ (s6 _ _ e)
      · exact TupsG.append (ty7.upd hw7) (.cons ⟨p7, rfl, TupG.upd hw7 h7⟩ .nil)
      · rw [upd_ne (Ne.symm pwo)]
        exact s7 _ _ ho6
      · rw [List.length_append, List.length_append, ol]
        rfl
      · rcases List.mem_append.mp hr with h | h
        · exact inc r h
        · rw [List.mem_singleton.mp h]
          exact km2
      · rw [List.nodup_append]
        refine ⟨nd, by simp, fun a ha b hb e => ?_⟩
        rw [List.mem_singleton.mp hb] at e
        exact c (e ▸ ha)
      · rw [List.length_append]
        show ini.length + 1 + u = 302
        omega
      · rw [List.length_append]
        rfl
theorem ok_law_cell_at (D : Df K mg "_law_cell_at" s_law_cell_at p_law_cell_at f fd) (B : Bt mg) : FnOk P w K mg base (L2N.CX P w) 1 f fd p_law_cell_at (sp_law_cell_at K) := by
  refine Fun.okN D.F sc_law_cell_at (fun vs H Q E h => ?_) (fun cdv A outer s H vs Q E hr h => ?_)
  · obtain ⟨a, ns, k, rfl, _⟩ := h
    rfl
  · obtain ⟨a, ns, k, rfl, hS, hQ⟩ := h
    refine ⟨_, pss_cons (ps_if (pt_cmpR op_lt (pv 1) (pe_callB call_len_seq (by rfl) B.len PySem.boot_len (pa_cons (pv 0) pa_nil)) (nomark _))
        (pss_one (ps_ret (pe_ix ix_list (pv 0) (pv 1) (fun _ _ => rfl)))) pss_nil)
      (pss_one (ps_ret pe_int)), ?_⟩
    refine ⟨_, rfl, _, rfl, a, _, rfl, .inl hS, _, _, rfl, rfl, _, rfl, ?_⟩
    rw [len_I]
    refine ite2 (fun e => ?_) (fun e => ?_)
    · have e := of_decide_eq_true e
      exact ⟨_, rfl, _, rfl, a, _, _, _, rfl, rfl, hS, atI_I rfl (by omega), hQ⟩
    · have e : ¬ (k : Int) < (ns.length : Int) := fun q => e (decide_eq_true q)
      have z : at0 ns k = 0 := by
        unfold at0
        rw [List.getD_eq_getElem?_getD, List.getElem?_eq_none (by omega)]
        rfl
      rw [z] at hQ
      exact hQ
theorem ok_law_mixed (D : Df K mg "_law_mixed" s_law_mixed p_law_mixed f fd) : FnOk P w K mg base (L2N.CX P w) 1 f fd p_law_mixed sp_law_mixed := by
  refine Fun.okN D.F sc_law_mixed (fun vs H Q E h => ?_) (fun cdv A outer s H vs Q E hr h => ?_)
  · obtain ⟨c, k, rfl, _⟩ := h
    rfl
  · obtain ⟨c, k, rfl, hQ⟩ := h
    refine ⟨_, pss_cons (ps_set (i := 2) sc_law_mixed.nd rfl (.inl rfl) (pe_op op_mod (pe_op op_mul (pe_op op_add (pe_op op_mod (pv 0) pe_int) pe_int) (pe_op op_add (pe_op op_mul (pv 1) pe_int) pe_int)) pe_int))
      (pss_cons (ps_set (i := 3) sc_law_mixed.nd rfl (.inl rfl) (pe_op op_mod (pe_op op_add (pe_op op_add (pe_op op_mul (pv 2) (pv 2)) (pe_op op_mul (pv 1) pe_int)) (pe_op op_fdiv (pv 0) pe_int)) pe_int))
      (pss_one (ps_ret (pe_op op_mod (pe_op op_mul (pv 3) (pv 3)) pe_int)))), ?_⟩
    have p0 : (0 : Int) < 1000003 := by decide
    have b1 := Int.emod_nonneg c (show (1000003 : Int) ≠ 0 by decide)
    have b2 := Int.emod_lt_of_pos c p0
    refine ⟨_, rfl, _, _, rfl, rfl, p0, _, _, rfl, rfl, _, rfl, _, _, rfl, rfl, .inr ⟨by decide, by decide⟩, _, _, rfl, rfl, _, _, rfl, rfl, .inl ⟨by omega, by omega⟩, _, _, rfl, rfl, p0, ?_⟩
    have a1 := Int.emod_nonneg ((c % 1000003 + 1) * (k * 48271 + 11)) (show (1000003 : Int) ≠ 0 by decide)
    have a2 := Int.emod_lt_of_pos ((c % 1000003 + 1) * (k * 48271 + 11)) p0
    refine ⟨_, rfl, _, rfl, _, _, rfl, rfl, .inl ⟨by omega, by omega⟩, _, rfl, _, _, rfl, rfl, .inr ⟨by decide, by decide⟩, _, _, rfl, rfl, _, rfl, _, _, rfl, rfl, ⟨by decide, by decide⟩, _, _, rfl, rfl, _, _, rfl, rfl, p0, ?_⟩
    obtain ⟨y, hy⟩ : ∃ y, y = (mixed1 c k * mixed1 c k + k * 7919 + c / 1000003) % 1000003 := ⟨_, rfl⟩
    have c1 := Int.emod_nonneg (mixed1 c k * mixed1 c k + k * 7919 + c / 1000003) (show (1000003 : Int) ≠ 0 by decide)
    have c2 := Int.emod_lt_of_pos (mixed1 c k * mixed1 c k + k * 7919 + c / 1000003) p0
    exact ⟨_, rfl, _, rfl, _, _, rfl, rfl, .inl ⟨Int.lt_of_lt_of_le (by decide) c1, Int.lt_trans c2 (by decide)⟩, _, _, rfl, rfl, p0, hQ⟩
theorem ok_law_size (D : Df K mg "_law_size" s_law_size p_law_size f fd) (B : Bt mg)
    (D1 : Df K mg "_law_cell_at" s_law_cell_at p_law_cell_at f1 fd1) (G1 : FnOk P w K mg base (L2N.CX P w) 1 f1 fd1 p_law_cell_at (sp_law_cell_at K)) :
    FnOk P w K mg base (L2N.CX P w) 2 f fd p_law_size (sp_law_size K) := by
  refine Fun.okN D.F sc_law_size (fun vs H Q E h => ?_) (fun cdv A outer s H vs Q E hr h => ?_)
  · obtain ⟨a, ns, rfl, _⟩ := h
    rfl
  · obtain ⟨a, ns, rfl, hS, hQ⟩ := h
    refine ⟨_, pss_one (ps_ret (pe_op op_add pe_int (pe_op op_mod (pe_call G1 hr (by rfl) D1.g D1.F.kp D1.b .nil passN (pa_cons (pv 0) (pa_cons pe_int pa_nil)))
      (pe_op op_add pe_int (pe_op op_mul pe_int (pe_callTy call_int1 (by rfl) B.int (by decide +kernel) (pa_cons (pe_cmpR op_eq (pe_op op_mod (pe_op op_fdiv (pe_call G1 hr (by rfl) D1.g D1.F.kp D1.b .nil passN (pa_cons (pv 0) (pa_cons pe_int pa_nil))) pe_int) pe_int) pe_int (nomark _)) pa_nil))))))), ?_⟩
    refine ⟨_, rfl, a, ns, 0, rfl, hS, _, rfl, a, ns, 0, rfl, hS, _, _, rfl, rfl, ⟨by decide, by decide⟩, _, _, rfl, rfl, (by show (0 : Int) < 6; decide), rfl, ?_⟩
    refine .inr ⟨_, rfl, _, _, rfl, rfl, .inl ⟨by decide, by decide⟩, _, _, rfl, rfl, _, _, rfl, rfl, ?_, _, _, rfl, rfl, ?_⟩
    · show (0 : Int) < 6 + 5 * _
      split <;> omega
    · have e := (sizeI_is ns).1
      unfold sizeI at e
      rw [dec_int]
      have e2 : (if decide (at0 ns 0 / 1009 % 6 = 1) = true then (1 : Int) else 0) = if at0 ns 0 / 1009 % 6 = 1 then 1 else 0 := by
        by_cases c : at0 ns 0 / 1009 % 6 = 1
        · rw [decide_eq_true c, if_pos rfl, if_pos c]
        · rw [decide_eq_false c, if_neg Bool.false_ne_true, if_neg c]
      rw [e2]
      show Q (.int (2 + at0 ns 0 % (6 + 5 * (if at0 ns 0 / 1009 % 6 = 1 then 1 else 0)))) H
      rw [e]
      exact hQ
theorem ok_law_many (D : Df K mg "_law_many" s_law_many p_law_many f fd) (B : Bt mg)
    (D1 : Df K mg "_law_cell_at" s_law_cell_at p_law_cell_at f1 fd1) (G1 : FnOk P w K mg base (L2N.CX P w) 1 f1 fd1 p_law_cell_at (sp_law_cell_at K)) :
    FnOk P w K mg base (L2N.CX P w) 2 f fd p_law_many (sp_law_many K) := by
  refine Fun.okN D.F sc_law_many (fun vs H Q E h => ?_) (fun cdv A outer s H vs Q E hr h => ?_)
  · obtain ⟨a, ns, n, rfl, _⟩ := h
    rfl
  · obtain ⟨a, ns, n, rfl, hS, hQ⟩ := h
    refine ⟨_, pss_cons (ps_set (i := 2) sc_law_many.nd rfl (.inl rfl) (pe_call G1 hr (by rfl) D1.g D1.F.kp D1.b .nil passN (pa_cons (pv 0) (pa_cons pe_int pa_nil))))
      (pss_one (ps_ret (pe_ix ix_list (pe_lst (pa_cons (pe_op op_add (pv 1) (pe_op op_mod (pe_op op_fdiv (pv 2) pe_int) pe_int)) (pa_cons (pe_op op_add pe_int (pe_op op_mod (pe_op op_fdiv (pv 2) pe_int) pe_int)) (pa_cons (pv 1)
        (pa_cons (pe_callB (call_max2 rfl) (by rfl) B.max (by decide +kernel) (pa_cons pe_int (pa_cons (pe_op op_sub (pv 1) pe_int) pa_nil))) (pa_cons (pe_op op_add pe_int (pe_op op_mod (pe_op op_fdiv (pv 2) pe_int) pe_int)) pa_nil))))))
        (pe_op op_mod (pv 2) pe_int) (fun _ _ => rfl)))), ?_⟩
    refine ⟨_, rfl, a, ns, 1, rfl, hS, ?_⟩
    have p5 : (0 : Int) < 5 := by decide
    refine ⟨_, rfl, _, rfl, _, _, rfl, rfl, ⟨by decide, by decide⟩, _, _, rfl, rfl, (by show (0 : Int) < 4; decide), _, _, rfl, rfl, ?_⟩
    refine ⟨_, rfl, _, _, rfl, rfl, ⟨by decide, by decide⟩, _, _, rfl, rfl, (by show (0 : Int) < 99; decide), _, _, rfl, rfl, _, rfl, _, rfl, _, _, rfl, rfl, _, _, rfl, ?_⟩
    refine ⟨_, rfl, _, _, rfl, rfl, ⟨by decide, by decide⟩, _, _, rfl, rfl, (by show (0 : Int) < 3; decide), _, _, rfl, rfl, big (by show 5 ≤ 1000; decide), fun p hp => ?_⟩
    have b1 := Int.emod_nonneg (at0 ns 1) (show (5 : Int) ≠ 0 by decide)
    have b2 := Int.emod_lt_of_pos (at0 ns 1) p5
    refine ⟨_, rfl, _, _, rfl, rfl, p5, p, _, _, _, rfl, rfl, lstOf upd_same, atI_I (r := [n + at0 ns 1 / 5 % 4, 2 + at0 ns 1 / 5 % 99, n, maxI 2 (n - 1), 2 + at0 ns 1 / 5 % 3]) (k := (at0 ns 1 % 5).toNat) (by omega) (by show _ < 5; omega), ?_⟩
    exact hQ _ (same_upd hp)
theorem ok_law_ring (D : Df K mg "_law_ring" s_law_ring p_law_ring f fd) (B : Bt mg)
    (D1 : Df K mg "_law_cell_at" s_law_cell_at p_law_cell_at f1 fd1) (G1 : FnOk P w K mg base (L2N.CX P w) 1 f1 fd1 p_law_cell_at (sp_law_cell_at K))
    (D2 : Df K mg "_law_mixed" s_law_mixed p_law_mixed f2 fd2) (G2 : FnOk P w K mg base (L2N.CX P w) 1 f2 fd2 p_law_mixed sp_law_mixed) :
    FnOk P w K mg base (L2N.CX P w) 2 f fd p_law_ring (sp_law_ring K) := by
  refine Fun.okN D.F sc_law_ring (fun vs H Q E h => ?_) (fun cdv A outer s H vs Q E hr h => ?_)
  · obtain ⟨a, ns, n, m, rfl, _⟩ := h
    rfl
  · obtain ⟨a, ns, n, m, rfl, hS, hn2, hn12, hm2, hm100, hQ⟩ := h
    refine ⟨_, pss_cons (ps_set (i := 3) sc_law_ring.nd rfl (.inr rfl) (pe_call G1 hr (by rfl) D1.g D1.F.kp D1.b .nil passN (pa_cons (pv 0) (pa_cons pe_int pa_nil))))
      (pss_cons (ps_set (i := 4) sc_law_ring.nd rfl (.inl rfl) (pe_op op_mod (pv 3) pe_int))
      (pss_cons (ps_if (pt_cmpR op_eq (pv 4) pe_int (nomark _))
        (pss_one (ps_ret (pe_callTy call_tuple_of (by rfl) B.tuple (by decide +kernel) (pa_cons (pe_lc (own := [("_law_k", 5)]) (g := gName 5) (tt := tYes) rfl sc_law_ring.nd (pi_range1 rfl B.range (pa_cons (pv 1) pa_nil))
          (blkOk_by (N := n_law_ring) (sc := defScope s_law_ring) (by decide +kernel)) (fun _ _ _ _ _ => pg_name (i := 5) sc_law_ring.nd rfl (Or.inl rfl)) (fun _ _ _ _ _ => pts_nil)
          (fun _ _ _ _ _ => pe_op op_mod (pe_call G1 hr (by rfl) D1.g D1.F.kp D1.b .nil passN (pa_cons (pv 0) (pa_cons (pe_op op_add pe_int (pv 5)) pa_nil))) (pv 2))) pa_nil)))) pss_nil)
      (pss_cons (ps_if (pt_cmpR op_eq (pv 4) pe_int (nomark _))
        (pss_one (ps_ret (pe_callTy call_tuple_of (by rfl) B.tuple (by decide +kernel) (pa_cons (pe_lc (own := [("_law_k", 5)]) (g := gName 5) (tt := tYes) rfl sc_law_ring.nd (pi_range1 rfl B.range (pa_cons (pv 1) pa_nil))
          (blkOk_by (N := n_law_ring) (sc := defScope s_law_ring) (by decide +kernel)) (fun _ _ _ _ _ => pg_name (i := 5) sc_law_ring.nd rfl (Or.inl rfl)) (fun _ _ _ _ _ => pts_nil)
          (fun _ _ _ _ _ => pe_op op_mod (pe_call G2 hr (by rfl) D2.g D2.F.kp D2.b .nil passN (pa_cons (pv 3) (pa_cons (pv 5) pa_nil))) (pe_callB (call_min2 rfl) (by rfl) B.min (by decide +kernel) (pa_cons (pv 2) (pa_cons (pe_op op_add pe_int (pe_op op_mod (pe_op op_fdiv (pv 3) pe_int) pe_int)) pa_nil))))) pa_nil)))) pss_nil)
      (pss_cons (ps_if (pt_cmpR op_eq (pv 4) pe_int (nomark _))
        (pss_cons (ps_set (i := 6) sc_law_ring.nd rfl (.inl rfl) (pe_op op_mod (pe_op op_fdiv (pv 3) pe_int) (pe_op op_add (pv 1) pe_int)))
        (pss_cons (ps_set (i := 7) sc_law_ring.nd rfl (.inl rfl) (pe_op op_mod (pe_op op_fdiv (pv 3) pe_int) (pv 2)))
        (pss_one (ps_ret (pe_op op_catS (pe_op op_repS (pe_tup (pa_cons (pv 7) pa_nil)) (pv 6)) (pe_op op_repS (pe_tup (pa_cons (pe_op op_mod (pe_op op_fdiv (pv 3) pe_int) (pv 2)) pa_nil)) (pe_op op_sub (pv 1) (pv 6)))))))) pss_nil)
      (pss_cons (ps_if (pt_cmpR op_eq (pv 4) pe_int (nomark _))
        (pss_one (ps_ret (pe_callTy call_tuple_of (by rfl) B.tuple (by decide +kernel) (pa_cons (pe_lc (own := [("_law_k", 5)]) (g := gName 5) (tt := tYes) rfl sc_law_ring.nd (pi_range1 rfl B.range (pa_cons (pv 1) pa_nil))
          (blkOk_by (N := n_law_ring) (sc := defScope s_law_ring) (by decide +kernel)) (fun _ _ _ _ _ => pg_name (i := 5) sc_law_ring.nd rfl (Or.inl rfl)) (fun _ _ _ _ _ => pts_nil)
          (fun _ _ _ _ _ => pe_op op_mod (pe_op op_add (pe_op op_fdiv (pv 3) pe_int) (pe_op op_mul (pv 5) (pe_op op_add pe_int (pe_op op_mod (pe_op op_fdiv (pv 3) pe_int) pe_int)))) (pv 2))) pa_nil)))) pss_nil)
      (pss_one (ps_ret (pe_callTy call_tuple_of (by rfl) B.tuple (by decide +kernel) (pa_cons (pe_lc (own := [("_law_k", 5)]) (g := gName 5) (tt := tYes) rfl sc_law_ring.nd (pi_range1 rfl B.range (pa_cons (pv 1) pa_nil))
          (blkOk_by (N := n_law_ring) (sc := defScope s_law_ring) (by decide +kernel)) (fun _ _ _ _ _ => pg_name (i := 5) sc_law_ring.nd rfl (Or.inl rfl)) (fun _ _ _ _ _ => pts_nil)
          (fun _ _ _ _ _ => pe_op op_mod (pe_call G2 hr (by rfl) D2.g D2.F.kp D2.b .nil passN (pa_cons (pv 3) (pa_cons (pv 5) pa_nil))) (pv 2))) pa_nil))))))))), ?_⟩
    obtain ⟨c, hc⟩ : ∃ c, c = at0 ns 2 := ⟨_, rfl⟩
    refine ⟨_, rfl, a, ns, 2, rfl, hS, ?_⟩
    rw [← hc]
    refine ⟨_, rfl, _, _, rfl, rfl, (by show (0 : Int) < 5; decide), ?_⟩
    have hmod : ∀ x : Int, 0 ≤ x % m ∧ x % m < m := fun x => ⟨Int.emod_nonneg _ (by omega), Int.emod_lt_of_pos _ (by omega)⟩
    obtain ⟨R, hR⟩ : ∃ R, R = ringF ns n m := ⟨_, rfl⟩
    rw [← hR] at hQ
    have rf := hR
    unfold ringF at rf
    rw [← hc] at rf
    have fin : ∀ g : Nat → Int, R = runs n g → ∀ H1 D, H D = none → Same H H1 → H1 D = some (.lst ((List.range n).map fun k => V.int (g k))) →
        ∃ p ys, [V.ref D] = [V.ref p] ∧ ((SqL K H1 p ys ∧ ∀ l, H1 l = none → Q (.ref l) (upd H1 l (.tup ys))) ∨ (SqT K H1 p ys ∧ Q (.ref p) H1)) := fun g eg H1 D hD sm e => by
      refine ⟨D, _, rfl, .inl ⟨lstOf e, fun l hl => hQ _ l (sm.trans (same_upd hl)) (tupOf ?_)⟩⟩
      rw [upd_same, eg]
      unfold runs I
      rw [List.map_map]
      rfl
    refine ⟨_, rfl, rfl, _, rfl, ite2 (fun e => ?_) (fun e => ?_)⟩
    · have e := V.int.inj (of_decide_eq_true e)
      rw [if_pos e] at rf
      refine ⟨_, rfl, (n : Int), rfl, by omega, by omega, fun D hD => ?_⟩
      rw [Int.toNat_natCast]
      refine lc_m0 (fun k => V.int (at0 ns (4 + k) % m)) hD (by omega) (fun i H1 hi sm Z hz => ?_) fun H1 sm e => fin _ rf H1 D hD sm e
      exact ⟨rfl, ⟨_, rfl, _, rfl, _, _, rfl, rfl, a, ns, 4 + i, (by rw [Int.natCast_add]; rfl), sm.seq hS, _, rfl, _, _, rfl, rfl, by omega, hz H1 (Same.refl _)⟩⟩
    have e : ¬ c % 5 = 0 := fun q => e (decide_eq_true (by show V.int (c % 5) = V.int 0; rw [q]))
    rw [if_neg e] at rf
    refine ⟨_, rfl, rfl, _, rfl, ite2 (fun e => ?_) (fun e => ?_)⟩
    · have e := V.int.inj (of_decide_eq_true e)
      rw [if_pos e] at rf
      refine ⟨_, rfl, (n : Int), rfl, by omega, by omega, fun D hD => ?_⟩
      rw [Int.toNat_natCast]
      refine lc_m0 (fun k => V.int (mixed c k % minI m (2 + c / 5 % 3))) hD (by omega) (fun i H1 hi sm Z hz => ?_) fun H1 sm e => fin _ rf H1 D hD sm e
      have pos : 0 < minI m (2 + c / 5 % 3) := by
        unfold minI
        split <;> omega
      exact ⟨rfl, ⟨_, rfl, _, rfl, _, _, rfl, _, rfl, _, rfl, _, _, rfl, rfl, ⟨by decide, by decide⟩, _, _, rfl, rfl, (by show (0 : Int) < 3; decide), _, _, rfl, rfl, _, _, rfl, _, _, rfl, rfl, pos, hz H1 (Same.refl _)⟩⟩
    have e : ¬ c % 5 = 1 := fun q => e (decide_eq_true (by show V.int (c % 5) = V.int 1; rw [q]))
    rw [if_neg e] at rf
    refine ⟨_, rfl, rfl, _, rfl, ite2 (fun e => ?_) (fun e => ?_)⟩
    · have e := V.int.inj (of_decide_eq_true e)
      rw [if_pos e] at rf
      have b1 := Int.emod_nonneg (c / 5) (show (n : Int) + 1 ≠ 0 by omega)
      have b2 := Int.emod_lt_of_pos (c / 5) (show (0 : Int) < (n : Int) + 1 by omega)
      obtain ⟨i, hi⟩ : ∃ i : Nat, c / 5 % ((n : Int) + 1) = (i : Int) := ⟨(c / 5 % ((n : Int) + 1)).toNat, by omega⟩
      rw [hi, Int.toNat_natCast] at rf
      refine ⟨_, rfl, _, _, rfl, rfl, ⟨by decide, by decide⟩, _, rfl, _, _, rfl, rfl, _, _, rfl, rfl, (by show (0 : Int) < (n : Int) + 1; omega), ?_⟩
      refine ⟨_, rfl, _, _, rfl, rfl, ⟨by decide, by decide⟩, _, rfl, _, _, rfl, rfl, (by show (0 : Int) < m; omega), ?_⟩
      refine ⟨_, rfl, big (by show 1 ≤ 1000; decide), fun p1 hp1 => ?_⟩
      refine ⟨_, rfl, p1, i, _, rfl, ?_, tupOf upd_same, by simp, by omega, (by show 1 ≤ 1000; decide), fun q1 H1 s1 h1 => ?_⟩
      · show V.int (c / 5 % ((n : Int) + 1)) = V.int (i : Int)
        rw [hi]
      refine ⟨_, rfl, _, _, rfl, rfl, ⟨by decide, by decide⟩, _, rfl, _, _, rfl, rfl, (by show (0 : Int) < m; omega), big (by show 1 ≤ 1000; decide), fun p2 hp2 => ?_⟩
      refine ⟨_, rfl, _, rfl, _, _, rfl, rfl, p2, n - i, _, rfl, ?_, tupOf upd_same, by simp, by omega, (by show 1 ≤ 1000; decide), fun q2 H2 s2 h2 => ?_⟩
      · show V.int ((n : Int) - c / 5 % ((n : Int) + 1)) = V.int ((n - i : Nat) : Int)
        rw [hi]
        congr 1
        omega
      have fl : ∀ (k : Nat) (x : Int), (List.replicate k [V.int x]).flatten = I (List.replicate k x) := fun k x => by
        induction k with
        | zero => rfl
        | succ k ih =>
          rw [List.replicate_succ, List.flatten_cons, ih, List.replicate_succ]
          rfl
      rw [fl] at h1 h2
      refine ⟨q1, q2, _, _, rfl, rfl, s2.tup ((same_upd hp2).tup h1), h2, big ?_, fun p H' s3 h3 => ?_⟩
      · rw [len_I, len_I, List.length_replicate, List.length_replicate]
        omega
      · refine hQ H' p ((same_upd hp1).trans (s1.trans ((same_upd hp2).trans (s2.trans s3)))) ?_
        rw [rf]
        unfold I at h3 ⊢
        rw [List.map_append]
        exact h3
    have e : ¬ c % 5 = 2 := fun q => e (decide_eq_true (by show V.int (c % 5) = V.int 2; rw [q]))
    rw [if_neg e] at rf
    refine ⟨_, rfl, rfl, _, rfl, ite2 (fun e => ?_) (fun e => ?_)⟩
    · have e := V.int.inj (of_decide_eq_true e)
      rw [if_pos e] at rf
      refine ⟨_, rfl, (n : Int), rfl, by omega, by omega, fun D hD => ?_⟩
      rw [Int.toNat_natCast]
      refine lc_m0 (fun k => V.int ((c / 5 + (k : Int) * (1 + c / 500 % 3)) % m)) hD (by omega) (fun i H1 hi sm Z hz => ?_) fun H1 sm e => fin _ rf H1 D hD sm e
      exact ⟨rfl, ⟨_, rfl, _, _, rfl, rfl, ⟨by decide, by decide⟩, _, rfl, _, rfl, _, _, rfl, rfl, ⟨by decide, by decide⟩, _, _, rfl, rfl, (by show (0 : Int) < 3; decide), _, _, rfl, rfl, _, _, rfl, rfl, .inl ⟨by omega, by omega⟩, _, _, rfl, rfl, _, rfl, _, _, rfl, rfl, (by show (0 : Int) < m; omega), hz H1 (Same.refl _)⟩⟩
    have e : ¬ c % 5 = 3 := fun q => e (decide_eq_true (by show V.int (c % 5) = V.int 3; rw [q]))
    rw [if_neg e] at rf
    refine ⟨_, rfl, (n : Int), rfl, by omega, by omega, fun D hD => ?_⟩
    rw [Int.toNat_natCast]
    refine lc_m0 (fun k => V.int (mixed c k % m)) hD (by omega) (fun i H1 hi sm Z hz => ?_) fun H1 sm e => fin _ rf H1 D hD sm e
    exact ⟨rfl, ⟨_, rfl, _, rfl, _, _, rfl, _, rfl, _, _, rfl, rfl, (by show (0 : Int) < m; omega), hz H1 (Same.refl _)⟩⟩
def sp_law_pick (K : PySem.W.Frag) : Sp := fun vs H Q _ => ∃ (a b : Addr) (zs ns : List Int) (k : Nat), vs = [.ref a, .ref b, .int (k : Int)] ∧ SqL K H a (I zs) ∧ SqL K H b (I ns) ∧ 0 < zs.length ∧ zs.length ≤ 500 ∧
  ∀ z ∈ zs, ∀ H', Same H H' → Q (.int z) H'
theorem ok_law_pick (D : Df K mg "_law_pick" s_law_pick p_law_pick f fd) (B : Bt mg)
    (D1 : Df K mg "_law_cell_at" s_law_cell_at p_law_cell_at f1 fd1) (G1 : FnOk P w K mg base (L2N.CX P w) 1 f1 fd1 p_law_cell_at (sp_law_cell_at K))
    (D2 : Df K mg "_law_mixed" s_law_mixed p_law_mixed f2 fd2) (G2 : FnOk P w K mg base (L2N.CX P w) 1 f2 fd2 p_law_mixed sp_law_mixed) :
    FnOk P w K mg base (L2N.CX P w) 2 f fd p_law_pick (sp_law_pick K) := by
  refine Fun.okN D.F sc_law_pick (fun vs H Q E h => ?_) (fun cdv A outer s H vs Q E hr h => ?_)
  · obtain ⟨a, b, zs, ns, k, rfl, _⟩ := h
    rfl
  · obtain ⟨a, b, zs, ns, k, rfl, hA, hS, h0, h5, hQ⟩ := h
    refine ⟨_, pss_cons (ps_set (i := 3) sc_law_pick.nd rfl (.inl rfl) (pe_op op_mod (pe_call G1 hr (by rfl) D1.g D1.F.kp D1.b .nil passN (pa_cons (pv 1) (pa_cons pe_int pa_nil))) pe_int))
      (pss_cons (ps_if (pt_cmpR op_eq (pv 3) pe_int (nomark _)) (pss_one (ps_ret (pe_ix ix_list (pv 0) pe_int (fun _ _ => rfl)))) pss_nil)
      (pss_cons (ps_if (pt_cmpR op_eq (pv 3) pe_int (nomark _)) (pss_one (ps_ret (pe_ix ix_list (pv 0) (pe_un un_neg pe_int) (fun _ _ => rfl)))) pss_nil)
      (pss_cons (ps_if (pt_cmpR op_eq (pv 3) pe_int (nomark _)) (pss_one (ps_ret (pe_ix ix_list (pv 0) (pe_op op_mod (pv 2) (pe_callB call_len_seq (by rfl) B.len PySem.boot_len (pa_cons (pv 0) pa_nil))) (fun _ _ => rfl)))) pss_nil)
      (pss_cons (ps_if (pt_cmpR op_eq (pv 3) pe_int (nomark _)) (pss_one (ps_ret (pe_ix ix_list (pe_op op_cat (pe_slice sl_list (pv 0) (po_some pe_int) po_none) (pe_slice sl_list (pv 0) po_none (po_some pe_int))) pe_int (fun _ _ => rfl)))) pss_nil)
      (pss_one (ps_ret (pe_ix ix_list (pv 0) (pe_op op_mod (pe_call G2 hr (by rfl) D2.g D2.F.kp D2.b .nil passN (pa_cons (pe_call G1 hr (by rfl) D1.g D1.F.kp D1.b .nil passN (pa_cons (pv 1) (pa_cons pe_int pa_nil))) (pa_cons (pv 2) pa_nil))) (pe_callB call_len_seq (by rfl) B.len PySem.boot_len (pa_cons (pv 0) pa_nil))) (fun _ _ => rfl)))))))), ?_⟩
    refine ⟨_, rfl, b, ns, 3, rfl, hS, _, _, rfl, rfl, (by show (0 : Int) < 5; decide), ?_⟩
    have zl : (0 : Int) < (zs.length : Int) := by omega
    refine ⟨_, rfl, rfl, _, rfl, ite2 (fun _ => ?_) (fun _ => ?_)⟩
    · exact ⟨_, rfl, a, _, _, _, rfl, rfl, hA, atI_I (k := 0) rfl h0, hQ _ (at0_mem h0) H (Same.refl H)⟩
    refine ⟨_, rfl, rfl, _, rfl, ite2 (fun _ => ?_) (fun _ => ?_)⟩
    · exact ⟨_, rfl, _, rfl, a, _, _, _, rfl, rfl, hA, atI_I1 h0, hQ _ (at0_mem (by omega)) H (Same.refl H)⟩
    refine ⟨_, rfl, rfl, _, rfl, ite2 (fun _ => ?_) (fun _ => ?_)⟩
    · refine ⟨_, rfl, _, rfl, _, rfl, a, _, rfl, .inl hA, _, _, rfl, rfl, (by rw [len_I]; exact zl), ?_⟩
      rw [len_I]
      have q1 := Int.emod_nonneg (k : Int) (show (zs.length : Int) ≠ 0 by omega)
      have q2 := Int.emod_lt_of_pos (k : Int) zl
      exact ⟨a, _, _, _, rfl, rfl, hA, atI_I (k := ((k : Int) % (zs.length : Int)).toNat) (by omega) (by omega), hQ _ (at0_mem (by omega)) H (Same.refl H)⟩
    refine ⟨_, rfl, rfl, _, rfl, ite2 (fun _ => ?_) (fun _ => ?_)⟩
    · refine ⟨_, rfl, _, rfl, a, _, rfl, hA, fun q1 hq1 => ?_⟩
      have t1 := same_upd (o := .lst (cutV (I zs) (some 1) none)) hq1
      refine ⟨_, rfl, _, rfl, a, _, rfl, t1.seq hA, fun q2 hq2 => ?_⟩
      have t2 := same_upd (o := .lst (cutV (I zs) none (some 1))) hq2
      have c1 : cutV (I zs) (some 1) none = (I zs).drop 1 := cut_drop (I zs) 1 (by rw [len_I]; omega)
      have c2 : cutV (I zs) none (some 1) = (I zs).take 1 := cut_take (I zs) 1 (by rw [len_I]; omega)
      refine ⟨q1, q2, _, _, rfl, rfl, t2 _ _ upd_same, upd_same, big ?_, fun q3 hq3 => ?_⟩
      · rw [c1, c2, List.length_drop, List.length_take, len_I]
        omega
      have e : cutV (I zs) (some 1) none ++ cutV (I zs) none (some 1) = I (zs.drop 1 ++ zs.take 1) := by
        rw [c1, c2]
        unfold I
        rw [List.map_append, List.map_drop, List.map_take]
      rw [e]
      have l : 0 < (zs.drop 1 ++ zs.take 1).length := by
        rw [List.length_append, List.length_drop, List.length_take]
        omega
      refine ⟨q3, _, _, _, rfl, rfl, lstOf upd_same, atI_I (k := 0) rfl l, hQ _ ?_ _ (t1.trans (t2.trans (same_upd hq3)))⟩
      rcases List.mem_append.mp (at0_mem l) with h | h
      · exact List.mem_of_mem_drop h
      · exact List.mem_of_mem_take h
    refine ⟨_, rfl, _, rfl, b, ns, 3, rfl, hS, _, rfl, _, _, rfl, _, rfl, a, _, rfl, .inl hA, _, _, rfl, rfl, (by rw [len_I]; exact zl), ?_⟩
    rw [len_I]
    have q1 := Int.emod_nonneg (mixed (at0 ns 3) (k : Int)) (show (zs.length : Int) ≠ 0 by omega)
    have q2 := Int.emod_lt_of_pos (mixed (at0 ns 3) (k : Int)) zl
    exact ⟨a, _, _, _, rfl, rfl, hA, atI_I (k := (mixed (at0 ns 3) (k : Int) % (zs.length : Int)).toNat) (by omega) (by omega), hQ _ (at0_mem (by omega)) H (Same.refl H)⟩
def sp_law_order14 (K : PySem.W.Frag) : Sp := fun vs H Q _ => ∃ (a b : Addr) (r ns : List Int) (m : Int) (n : Nat), vs = [.ref a, .int m, .ref b] ∧ SqT K H a (I r) ∧ SqL K H b (I ns) ∧ Ring n m r ∧ n ≤ 12 ∧ (n : Int) ≤ m ∧ m ≤ 100 ∧
  ∀ H' p ks r', Same H H' → H p = none → H' p = some (.lst (N ks)) → Un n m r ks r' → (able r').length = 1 → Q (.ref p) H'
theorem ok_law_order (D : Df K mg "_law_order" s_law_order p_law_order f fd) (B : Bt mg)
    (D1 : Df K mg "most" s_most p_most f1 fd1) (G1 : FnOk P w K mg base (L2N.CX P w) 2 f1 fd1 p_most (sp_most cR))
    (D2 : Df K mg "able" s_able p_able f2 fd2) (G2 : FnOk P w K mg base (L2N.CX P w) 3 f2 fd2 p_able (sp_able K cN cR))
    (D3 : Df K mg "_law_pick" s_law_pick p_law_pick f3 fd3) (G3 : FnOk P w K mg base (L2N.CX P w) 2 f3 fd3 p_law_pick (sp_law_pick K))
    (D4 : Df K mg "stepped" s_stepped p_stepped f4 fd4) (G4 : FnOk P w K mg base (L2N.CX P w) 3 f4 fd4 p_stepped (sp_stepped K cN cR cM cW)) :
    FnOk P w K mg base (L2N.CX P w) 4 f fd p_law_order (sp_law_order14 K) := by
  refine Fun.okN D.F sc_law_order (fun vs H Q E h => ?_) (fun cdv A outer s H vs Q E hr h => ?_)
  · obtain ⟨a, b, r, ns, m, n, rfl, _⟩ := h
    rfl
  · obtain ⟨a, b, r, ns, m, n, rfl, hT, hS, R, hn, hnm, hm, hQ⟩ := h
    have hr2 : Room 2 _ := hr.mono (by decide)
    have rl := R.len
    have n2 := R.n2
    have m2 := R.m2
    have mb : most n ≤ 198 := most_le hn
    refine ⟨_, pss_cons (ps_set (i := 3) sc_law_order.nd rfl (.inl rfl) (pe_lst pa_nil))
      (pss_cons (ps_for (passes_of rfl) rfl (pi_range1 rfl B.range (pa_cons (pe_call G1 hr2 (by rfl) D1.g D1.F.kp D1.b .nil passN (pa_cons (pe_callB call_len_seq (by rfl) B.len PySem.boot_len (pa_cons (pv 0) pa_nil)) pa_nil)) pa_nil)) (pg_name (i := 4) sc_law_order.nd rfl (.inl rfl))
        (pss_cons (ps_set (i := 5) sc_law_order.nd rfl (.inl rfl) (pe_call G2 hr (by rfl) D2.g D2.F.kp D2.b .nil passN (pa_cons (pv 0) (pa_cons (pv 1) pa_nil))))
        (pss_cons (ps_if (pt_cmpR op_eq (pe_callB call_len_seq (by rfl) B.len PySem.boot_len (pa_cons (pv 5) pa_nil)) pe_int (nomark _)) (pss_one (ps_ret (pv 3))) pss_nil)
        (pss_cons (ps_set (i := 6) sc_law_order.nd rfl (.inl rfl) (pe_call G3 hr2 (by rfl) D3.g D3.F.kp D3.b .nil passN (pa_cons (pv 5) (pa_cons (pv 2) (pa_cons (pv 4) pa_nil)))))
        (pss_cons (ps_expr (pe_bm PySem.F.plainAttrs_list PySem.F.slot_list_append PySem.F.type_list_append mt_append (pv 3) (pa_cons (pv 6) pa_nil)))
        (pss_one (ps_set (i := 0) sc_law_order.nd rfl (.inl rfl) (pe_call G4 hr (by rfl) D4.g D4.F.kp D4.b .nil passN (pa_cons (pv 0) (pa_cons (pv 1) (pa_cons (pv 6) pa_nil)))))))))))
      (pss_one (ps_ret (pv 3)))), ?_⟩
    refine ⟨big (by show 0 ≤ 1000; decide), fun p hp => ?_⟩
    have s1 : Same H (upd H p (.lst [])) := same_upd hp
    refine ⟨_, rfl, a, _, rfl, .inr (s1.tup hT), (n : Int), by rw [len_I, rl]; rfl, fun z => by omega, fun _ _ => ?_⟩
    rw [Int.toNat_natCast]
    refine ⟨_, rfl, by omega, by omega, ?_⟩
    rw [Int.toNat_natCast]
    refine for_r0 (fun i σ H' => ∃ (c : Addr) (r' : List Int) (ks : List Nat) (y4 y5 y6 : Option V), σ = [some (.ref c), some (.int m), some (.ref b), some (.ref p), y4, y5, y6] ∧ Same H H' ∧ SqT K H' c (I r') ∧ H' p = some (.lst (N ks)) ∧ Un n m r ks r' ∧ ks.length = i)
      ⟨a, r, [], none, none, none, rfl, s1, s1.tup hT, upd_same, .nil, rfl⟩ ?_ ?_
    · rintro i σ H1 hi ⟨c, r', ks, y4, y5, y6, rfl, sm, hc, hk, un, hl⟩
      have R' := un.ex.ring R
      have rl' := R'.len
      refine ⟨_, rfl, _, rfl, c, r', m, rfl, hc, Held.of R' hn hm fun H2 q s2 hq e2 => ?_⟩
      refine ⟨_, rfl, q, _, rfl, .inl (lstOf e2), rfl, _, rfl, ?_⟩
      rw [len_N]
      have hk2 := s2 _ _ hk
      by_cases one : (able r').length = 1
      · rw [one, decide_eq_true (show V.int ((1 : Nat) : Int) = V.int 1 from rfl)]
        exact iteT ⟨_, rfl, hQ H2 p ks r' (sm.trans s2) hp hk2 un one⟩
      · rw [decide_eq_false (show ¬ V.int ((able r').length : Int) = V.int 1 from fun z => one (by have := V.int.inj z; omega))]
        refine iteF ?_
        rw [N_Z] at e2
        have al : (able r').length ≤ r'.length := Nat.le_trans (List.length_filter_le _ _) (by rw [List.length_range]; exact Nat.le_refl _)
        refine ⟨_, rfl, _, rfl, _, rfl, q, b, Z (able r'), ns, i, rfl, lstOf e2, (sm.trans s2).seq hS, by rw [List.length_map]; exact able_pos (by omega), by rw [List.length_map]; omega, fun z hz H3 s3 => ?_⟩
        obtain ⟨z1, z2⟩ := mem_Z.mp hz
        obtain ⟨z3, z4⟩ := mem_able.mp z2
        obtain ⟨k, rfl⟩ : ∃ k : Nat, z = (k : Int) := ⟨z.toNat, by omega⟩
        rw [Int.toNat_natCast] at z3 z4
        have un' := un.snoc (by omega) z4 one
        have hk3 := s3 _ _ hk2
        refine ⟨_, rfl, .inl ⟨rfl, _, lstOf hk3⟩, _, rfl, p, _, _, rfl, rfl, hk3, small1000 (by rw [len_N]; omega), ?_⟩
        have hc3 : SqT K (upd H3 p (.lst (N ks ++ [V.int (k : Int)]))) c (I r') := tupUpd hk3 ((s2.trans s3).tup hc)
        refine ⟨_, rfl, _, rfl, _, rfl, c, r', m, _, rfl, hc3, Held.of R' hn hm ⟨fun bb he => ?_, fun r2 hr2 H4 p4 s4 h4 => ?_⟩⟩
        · rw [stepR_yes z3 z4] at he
          cases he
        · rw [stepR_yes z3 z4] at hr2
          cases hr2
          refine ⟨p4, _, ks ++ [k], _, _, _, rfl, fun cc oo e => s4 _ _ ?_, h4, ?_, un', by rw [List.length_append, hl]; rfl⟩
          · rw [upd_ne (ne_of_none e hp)]
            exact s3 _ _ (s2 _ _ (sm _ _ e))
          · rw [s4 _ _ upd_same]
            unfold N
            rw [List.map_append]
            rfl
    · rintro σ H1 ⟨c, r', ks, y4, y5, y6, rfl, sm, hc, hk, un, hl⟩
      have one : (able r').length = 1 := Classical.byContradiction fun ne => by
        have R' := un.ex.ring R
        have rl' := R'.len
        obtain ⟨x, hx⟩ : ∃ x, x ∈ able r' := ⟨_, List.getElem_mem (able_pos (r := r') (by omega))⟩
        obtain ⟨x1, x2⟩ := mem_able.mp hx
        have := (un.snoc (by omega) x2 ne).bound R hnm
        rw [List.length_append] at this
        have : ks.length + 1 ≤ most n := this
        omega
      exact ⟨_, rfl, hQ H1 p ks r' sm hp hk un one⟩
def smallF (w : Nat) (c : Int) : List Int × List Nat := if w = 0 then (worstR (2 + c % 2).toNat (3 + c / 2 % 2).toNat, worstO (2 + c % 2).toNat (3 + c / 2 % 2).toNat) else if lastR (3 + c % 2).toNat (2 + c / 2 % 2).toNat = [] then ([], []) else neverR (3 + c % 2).toNat (2 + c / 2 % 2).toNat
def sp_law_small (K : PySem.W.Frag) : Sp := fun vs H Q _ => ∃ (a : Addr) (ns : List Int) (w : Nat), vs = [.int (w : Int), .ref a] ∧ SqL K H a (I ns) ∧ w < 2 ∧
  ∀ H' t q p, Same H H' → H p = none → H' t = some (.tup [.ref q, .ref p]) → TupG H' q (smallF w (at0 ns 0)).1 → H' p = some (.lst (N (smallF w (at0 ns 0)).2)) → Q (.ref t) H'
theorem ok_law_small (D : Df K mg "_law_small" s_law_small p_law_small f fd)
    (D1 : Df K mg "_law_cell_at" s_law_cell_at p_law_cell_at f1 fd1) (G1 : FnOk P w K mg base (L2N.CX P w) 1 f1 fd1 p_law_cell_at (sp_law_cell_at K))
    (D2 : Df K mg "worst" s_worst p_worst f2 fd2) (G2 : FnOk P w K mg base (L2N.CX P w) 22 f2 fd2 p_worst (sp_worst cN cR cG))
    (D3 : Df K mg "never" s_never p_never f3 fd3) (G3 : FnOk P w K mg base (L2N.CX P w) 5 f3 fd3 p_never (sp_never cN cR cG)) :
    FnOk P w K mg base (L2N.CX P w) 23 f fd p_law_small (sp_law_small K) := by
  refine Fun.okN D.F sc_law_small (fun vs H Q E h => ?_) (fun cdv A outer s H vs Q E hr h => ?_)
  · obtain ⟨a, ns, w, rfl, _⟩ := h
    rfl
  · obtain ⟨a, ns, w, rfl, hS, hw, hQ⟩ := h
    have hr1 : Room 1 _ := hr.mono (by decide)
    have hr5 : Room 5 _ := hr.mono (by decide)
    refine ⟨_, pss_cons (ps_set (i := 2) sc_law_small.nd rfl (.inl rfl) (pe_call G1 hr1 (by rfl) D1.g D1.F.kp D1.b .nil passN (pa_cons (pv 1) (pa_cons pe_int pa_nil))))
      (pss_cons (ps_if (pt_cmpR op_eq (pv 0) pe_int (nomark _)) (pss_one (ps_ret (pe_call G2 hr (by rfl) D2.g D2.F.kp D2.b .nil passN (pa_cons (pe_op op_add pe_int (pe_op op_mod (pv 2) pe_int)) (pa_cons (pe_op op_add pe_int (pe_op op_mod (pe_op op_fdiv (pv 2) pe_int) pe_int)) pa_nil))))) pss_nil)
      (pss_cons (ps_set (i := 3) sc_law_small.nd rfl (.inl rfl) (pe_call G3 hr5 (by rfl) D3.g D3.F.kp D3.b .nil passN (pa_cons (pe_op op_add pe_int (pe_op op_mod (pv 2) pe_int)) (pa_cons (pe_op op_add pe_int (pe_op op_mod (pe_op op_fdiv (pv 2) pe_int) pe_int)) pa_nil))))
      (pss_one (ps_ret (pe_ifExp (pt_cmpR op_isN (pv 3) pe_non (nomark _)) (pe_tup (pa_cons (pe_tup pa_nil) (pa_cons (pe_lst pa_nil) pa_nil))) (pv 3)))))), ?_⟩
    obtain ⟨c, hc⟩ : ∃ c, c = at0 ns 0 := ⟨_, rfl⟩
    rw [← hc] at hQ
    have b1 := Int.emod_nonneg c (show (2 : Int) ≠ 0 by decide)
    have b2 := Int.emod_lt_of_pos c (show (0 : Int) < 2 by decide)
    have b3 := Int.emod_nonneg (c / 2) (show (2 : Int) ≠ 0 by decide)
    have b4 := Int.emod_lt_of_pos (c / 2) (show (0 : Int) < 2 by decide)
    refine ⟨_, rfl, a, ns, 0, rfl, hS, ?_⟩
    rw [← hc]
    refine ⟨_, rfl, rfl, _, rfl, ite2 (fun e => ?_) (fun e => ?_)⟩
    · have e0 : w = 0 := by have := V.int.inj (of_decide_eq_true e); omega
      refine ⟨_, rfl, _, _, rfl, rfl, (by show (0 : Int) < 2; decide), _, _, rfl, rfl, _, rfl, _, _, rfl, rfl, ⟨by decide, by decide⟩, _, _, rfl, rfl, (by show (0 : Int) < 2; decide), _, _, rfl, rfl, _, _, rfl, fun z => by omega, fun _ _ z => by omega, fun _ _ _ _ z => by omega, fun n m en em _ _ _ _ _ => ⟨fun z => ?_, fun _ H' t q p s1 hp ht hq hl => ?_⟩⟩
      · exfalso
        have hm : m ≤ 4 := by omega
        have hn : n ≤ 3 := by omega
        have h1 : m ^ n ≤ 4 ^ n := Nat.pow_le_pow_left hm n
        have h2 : 4 ^ n ≤ 4 ^ 3 := Nat.pow_le_pow_right (by decide) hn
        omega
      · have en' : (2 + c % 2).toNat = n := by omega
        have em' : (3 + c / 2 % 2).toNat = m := by omega
        refine hQ H' t q p s1 hp ht ?_ ?_
        · unfold smallF
          rw [if_pos e0, en', em']
          exact hq
        · unfold smallF
          rw [if_pos e0, en', em']
          exact hl
    · have e0 : ¬ w = 0 := fun z => e (by rw [z]; rfl)
      refine ⟨_, rfl, _, _, rfl, rfl, (by show (0 : Int) < 2; decide), _, _, rfl, rfl, _, rfl, _, _, rfl, rfl, ⟨by decide, by decide⟩, _, _, rfl, rfl, (by show (0 : Int) < 2; decide), _, _, rfl, rfl, _, _, rfl, fun z => by omega, fun _ _ z => by omega, fun _ _ _ _ z => z.elim, fun n m en em _ _ _ _ _ => ⟨fun z => ?_, fun _ => ⟨fun l0 H' s1 => ?_, fun l0 H' t q p s1 hp ht hq hl => ?_⟩⟩⟩
      · exfalso
        have hm : m ≤ 3 := by omega
        have hn : n ≤ 4 := by omega
        have h1 : m ^ n ≤ 3 ^ n := Nat.pow_le_pow_left hm n
        have h2 : 3 ^ n ≤ 3 ^ 4 := Nat.pow_le_pow_right (by decide) hn
        omega
      · have en' : (3 + c % 2).toNat = n := by omega
        have em' : (2 + c / 2 % 2).toNat = m := by omega
        refine ⟨_, rfl, rfl, _, rfl, ?_⟩
        rw [decide_eq_true rfl]
        refine iteT ⟨big (by show 0 ≤ 1000; decide), fun q1 hq1 => ⟨big (by show 0 ≤ 1000; decide), fun p1 hp1 => ⟨big (by show 2 ≤ 1000; decide), fun t1 ht1 => ?_⟩⟩⟩
        have sf : smallF w c = ([], []) := by
          unfold smallF
          rw [if_neg e0, en', em', if_pos l0]
        have u1 := same_upd (o := .tup []) hq1
        have u2 := same_upd (o := .lst []) hp1
        have u3 := same_upd (o := .tup [V.ref q1, V.ref p1]) ht1
        refine hQ _ t1 q1 p1 (s1.trans (u1.trans (u2.trans u3))) ((s1.trans u1).free hp1) upd_same ?_ ?_
        · rw [sf]
          exact u3 _ _ (u2 _ _ upd_same)
        · rw [sf]
          exact u3 _ _ upd_same
      · have en' : (3 + c % 2).toNat = n := by omega
        have em' : (2 + c / 2 % 2).toNat = m := by omega
        have sf : smallF w c = neverR n m := by
          unfold smallF
          rw [if_neg e0, en', em', if_neg l0]
        refine ⟨_, rfl, rfl, _, rfl, ?_⟩
        rw [decide_eq_false (show ¬ V.ref t = V.non from fun z => by cases z)]
        refine iteF ⟨_, rfl, hQ H' t q p s1 hp ht ?_ ?_⟩
        · rw [sf]
          exact hq
        · rw [sf]
          exact hl
theorem ok_law_ask (D : Df K mg "_law_ask" s_law_ask p_law_ask f fd) (B : Bt mg)
    (D1 : Df K mg "able" s_able p_able f1 fd1) (G1 : FnOk P w K mg base (L2N.CX P w) 3 f1 fd1 p_able (sp_able K cN cR))
    (D2 : Df K mg "gone" s_gone p_gone f2 fd2) (G2 : FnOk P w K mg base (L2N.CX P w) 3 f2 fd2 p_gone (sp_gone K cN cR cM cW))
    (D3 : Df K mg "drawn" s_drawn p_drawn f3 fd3) (G3 : FnOk P w K mg base (L2N.CX P w) 4 f3 fd3 p_drawn (sp_drawn K cN cR))
    (D4 : Df K mg "counted" s_counted p_counted f4 fd4) (G4 : FnOk P w K mg base (L2N.CX P w) 2 f4 fd4 p_counted (sp_counted K cR cM))
    (D5 : Df K mg "traced" s_traced p_traced f5 fd5) (G5 : FnOk P w K mg base (L2N.CX P w) 3 f5 fd5 p_traced (sp_traced K cN cR cM cW))
    (D6 : Df K mg "healing" s_healing p_healing f6 fd6) (G6 : FnOk P w K mg base (L2N.CX P w) 4 f6 fd6 p_healing (sp_healing K cN cR))
    (D7 : Df K mg "turns" s_turns p_turns f7 fd7) (G7 : FnOk P w K mg base (L2N.CX P w) 3 f7 fd7 p_turns (sp_turns K cN cR cH)) :
    FnOk P w K mg base (L2N.CX P w) 5 f fd p_law_ask (sp_law_ask K) := by
  refine Fun.okN D.F sc_law_ask (fun vs H Q E h => ?_) (fun cdv A outer s H vs Q E hr h => ?_)
  · obtain ⟨a, b, c, r, r', qs, m, n, ks, rs, k, w, rfl, _⟩ := h
    rfl
  · obtain ⟨a, b, c, r, r', qs, m, n, ks, rs, k, w, rfl, hw, hT, hO, hN, R, hn, hnm, hm, un, hk, rsl, hg, hQ⟩ := h
    have hr3 : Room 3 _ := hr.mono (by decide)
    have hr2 : Room 2 _ := hr.mono (by decide)
    have rl := R.len
    have n2 := R.n2
    have m2 := R.m2
    have mb : most n ≤ 198 := most_le hn
    have kb := un.bound R hnm
    have R' := un.ex.ring R
    have rl' := R'.len
    refine ⟨_, pss_cons (ps_if (pt_cmpR op_eq (pv 0) pe_int (nomark _)) (pss_one (ps_ret (pe_call G1 hr3 (by rfl) D1.g D1.F.kp D1.b .nil passN (pa_cons (pv 1) (pa_cons (pv 2) pa_nil))))) pss_nil)
      (pss_cons (ps_if (pt_cmpR op_eq (pv 0) pe_int (nomark _)) (pss_one (ps_ret (pe_call G2 hr3 (by rfl) D2.g D2.F.kp D2.b .nil passN (pa_cons (pv 1) (pa_cons (pv 2) (pa_cons (pv 3) pa_nil)))))) pss_nil)
      (pss_cons (ps_if (pt_cmpR op_eq (pv 0) pe_int (nomark _)) (pss_one (ps_ret (pe_call G3 hr (by rfl) D3.g D3.F.kp D3.b .nil passN (pa_cons (pv 1) (pa_cons (pv 2) (pa_cons (pv 4) (pa_cons (pe_callB (call_min2 rfl) (by rfl) B.min (by decide +kernel) (pa_cons pe_int (pa_cons (pe_callB call_len_seq (by rfl) B.len PySem.boot_len (pa_cons (pv 3) pa_nil)) pa_nil))) pa_nil))))))) pss_nil)
      (pss_cons (ps_if (pt_cmpR op_eq (pv 0) pe_int (nomark _)) (pss_one (ps_ret (pe_call G4 hr2 (by rfl) D4.g D4.F.kp D4.b .nil passN (pa_cons (pv 3) (pa_cons (pe_callB call_len_seq (by rfl) B.len PySem.boot_len (pa_cons (pv 1) pa_nil)) pa_nil))))) pss_nil)
      (pss_cons (ps_if (pt_cmpR op_eq (pv 0) pe_int (nomark _)) (pss_one (ps_ret (pe_call G5 hr3 (by rfl) D5.g D5.F.kp D5.b .nil passN (pa_cons (pv 1) (pa_cons (pv 2) (pa_cons (pv 3) pa_nil)))))) pss_nil)
      (pss_cons (ps_if (pt_cmpR op_eq (pv 0) pe_int (nomark _)) (pss_one (ps_ret (pe_call G6 hr (by rfl) D6.g D6.F.kp D6.b .nil passN (pa_cons (pv 1) (pa_cons (pv 2) (pa_cons (pv 4) pa_nil)))))) pss_nil)
      (pss_one (ps_ret (pe_call G7 hr3 (by rfl) D7.g D7.F.kp D7.b .nil passN (pa_cons (pe_ix ix_list (pe_call G2 hr3 (by rfl) D2.g D2.F.kp D2.b .nil passN (pa_cons (pv 1) (pa_cons (pv 2) (pa_cons (pv 3) pa_nil)))) (pe_un un_neg pe_int) (fun _ _ => rfl)) (pa_cons (pv 2) pa_nil)))))))))), ?_⟩
    have al : (able r).length ≤ r.length := Nat.le_trans (List.length_filter_le _ _) (by rw [List.length_range]; exact Nat.le_refl _)
    have kz : (Z ks).length ≤ 1000 := by rw [List.length_map]; omega
    have is : ∀ j : Nat, decide (V.int (w : Int) = V.int (j : Int)) = decide (w = j) := fun j => by
      rw [dec_int]
      exact decide_eq_decide.mpr (by omega)
    refine ⟨_, rfl, rfl, _, rfl, ite2 (fun e => ?_) (fun e0 => ?_)⟩
    · have e : w = 0 := by have := V.int.inj (of_decide_eq_true e); omega
      subst e
      exact ⟨_, rfl, _, rfl, a, r, m, rfl, hT, Held.of R hn hm fun H' p s1 hp e1 => hQ H' p _ s1 hp e1 (by rw [len_N]; omega) (by rw [N_Z]; rfl)⟩
    have e0 : w ≠ 0 := fun z => e0 (by rw [z]; rfl)
    refine ⟨_, rfl, rfl, _, rfl, ite2 (fun e => ?_) (fun e1 => ?_)⟩
    · have e : w = 1 := by have := V.int.inj (of_decide_eq_true e); omega
      subst e
      refine ⟨_, rfl, _, rfl, _, rfl, a, b, r, Z ks, m, rfl, hT, hO, kz, Held.of R hn hm ⟨fun c H' he => (by rw [hg] at he; cases he), fun rs' H' p hrs s1 hp L1 => ?_⟩⟩
      rw [hg] at hrs
      cases hrs
      obtain ⟨xs, e1, t1⟩ := L1
      exact hQ H' p xs s1 hp e1 (by rw [Tups.len t1, List.length_append, rsl]; show ks.length + 1 ≤ 500; omega) t1
    have e1 : w ≠ 1 := fun z => e1 (by rw [z]; rfl)
    refine ⟨_, rfl, rfl, _, rfl, ite2 (fun e => ?_) (fun e2 => ?_)⟩
    · have e : w = 2 := by have := V.int.inj (of_decide_eq_true e); omega
      subst e
      refine ⟨_, rfl, _, rfl, _, rfl, _, rfl, b, _, rfl, .inl hO, _, _, rfl, a, c, r, qs, m, if ks.length < 100 then ks.length else 100, ?_, hT, hN, ?_, Held.of R hn hm fun H' p s1 hp e1 => ?_⟩
      · rw [len_I, List.length_map]
        by_cases q : ks.length < 100
        · rw [if_pos q, if_pos (by omega)]
          rfl
        · rw [if_neg q, if_neg (by omega)]
          rfl
      · split <;> omega
      · refine hQ H' p _ s1 hp e1 ?_ (by rw [N_Z]; rfl)
        rw [len_N, draws_len]
        split <;> omega
    have e2 : w ≠ 2 := fun z => e2 (by rw [z]; rfl)
    refine ⟨_, rfl, rfl, _, rfl, ite2 (fun e => ?_) (fun e3 => ?_)⟩
    · have e : w = 3 := by have := V.int.inj (of_decide_eq_true e); omega
      subst e
      have olt : ∀ z ∈ Z ks, 0 ≤ z ∧ z < (n : Int) := fun z hz => by
        obtain ⟨z1, z2⟩ := mem_Z.mp hz
        have := un.ex.small _ z2
        omega
      refine ⟨_, rfl, _, rfl, a, _, rfl, .inr hT, b, Z ks, (n : Int), by rw [len_I, rl]; rfl, hO, kz, fun _ => by omega, fun _ _ ⟨z, z1, z2⟩ => absurd z2 (by have := olt z z1; omega), fun _ _ _ H' p s1 hp e1 => ?_⟩
      rw [Int.toNat_natCast] at e1
      exact hQ H' p _ s1 hp e1 (by rw [len_I]; unfold counts; rw [List.length_map, List.length_range]; omega) rfl
    have e3 : w ≠ 3 := fun z => e3 (by rw [z]; rfl)
    refine ⟨_, rfl, rfl, _, rfl, ite2 (fun e => ?_) (fun e4 => ?_)⟩
    · have e : w = 4 := by have := V.int.inj (of_decide_eq_true e); omega
      subst e
      have tr0 : tracedA m (marks r.length) r.length r (Z ks) = .ok (mkF n ks).1 := by
        have := traced_ex R un.ex []
        rw [List.append_nil] at this
        rw [rl, this]
        rfl
      refine ⟨_, rfl, _, rfl, _, rfl, a, b, r, Z ks, m, rfl, hT, hO, kz, Held.of R hn hm ⟨fun e H4 he _ => (by rw [tr0] at he; cases he), fun fs' H' p hf s1 hp e1 => ?_⟩⟩
      rw [tr0] at hf
      cases hf
      exact hQ H' p _ s1 hp e1 (by rw [len_I, (mk_ex R un.ex).len]; omega) rfl
    have e4 : w ≠ 4 := fun z => e4 (by rw [z]; rfl)
    refine ⟨_, rfl, rfl, _, rfl, ite2 (fun e => ?_) (fun e5 => ?_)⟩
    · have e : w = 5 := by have := V.int.inj (of_decide_eq_true e); omega
      subst e
      obtain ⟨r2, un2, _⟩ := heal_un R hnm qs (most n) [] r 0 .nil rfl
      refine ⟨_, rfl, _, rfl, _, rfl, a, c, r, qs, m, rfl, hT, hN, Held.of R hn hm ⟨fun lt => absurd lt (by omega), fun _ H' p s1 hp e1 => ?_⟩⟩
      rw [rl] at e1
      exact hQ H' p _ s1 hp e1 (by rw [len_N]; have := un2.bound R hnm; omega) (by rw [N_Z]; rfl)
    have e5 : w ≠ 5 := fun z => e5 (by rw [z]; rfl)
    have e : w = 6 := by omega
    subst e
    refine ⟨_, rfl, _, rfl, _, rfl, a, b, r, Z ks, m, rfl, hT, hO, kz, Held.of R hn hm ⟨fun c H' he => (by rw [hg] at he; cases he), fun rs' H1 p1 hrs s1 hp1 L1 => ?_⟩⟩
    rw [hg] at hrs
    cases hrs
    obtain ⟨xs, x1, t1⟩ := L1
    have xl : xs.length = rs.length + 1 := by rw [Tups.len t1, List.length_append]; rfl
    obtain ⟨a1, a2, a3⟩ := Tups.get t1 (i := rs.length) (r := r') (by rw [List.getElem?_append_right (Nat.le_refl _), Nat.sub_self]; rfl)
    refine ⟨_, rfl, p1, xs, _, _, rfl, rfl, lstOf x1, atI_neg (by rw [xl, Nat.add_sub_cancel]; exact a2), _, rfl, a1, r', m, rfl, a3, Held.of R' hn hm ⟨fun ne => absurd (by rw [hk]; rfl) ne, fun k' hk' H' p s2 hp e1 => ?_⟩⟩
    rw [hk] at hk'
    cases hk'
    rw [rl'] at e1
    have hkn : k < n := by rw [← rl']; exact (mem_able.mp (by rw [hk]; simp)).1
    exact hQ H' p _ (s1.trans s2) (s1.free hp) e1 (by rw [len_N, round_len n k hkn]; omega) (by rw [N_Z]; rfl)
theorem smallF_len (w : Nat) (c : Int) : (smallF w c).2.length ≤ 302 := by
  unfold smallF
  split
  · show (worstO _ _).length ≤ 302
    unfold worstO
    rw [wOrd_len]
    have := hgt_le ((3 + c / 2 % 2).toNat : Int) (worstR (2 + c % 2).toNat (3 + c / 2 % 2).toNat)
    omega
  · split
    · exact Nat.zero_le _
    · exact neverR_len _ _
def sp_law (K : PySem.W.Frag) : Sp := fun vs H Q _ => ∃ (a : Addr) (ns : List Int), vs = [.ref a] ∧ SqL K H a (I ns) ∧ ∀ H', Q (.bl true) H'
theorem ok_law (D : Df K mg "law" s_law p_law f fd) (B : Bt mg)
    (D1 : Df K mg "_law_size" s_law_size p_law_size f1 fd1) (G1 : FnOk P w K mg base (L2N.CX P w) 2 f1 fd1 p_law_size (sp_law_size K))
    (D2 : Df K mg "_law_many" s_law_many p_law_many f2 fd2) (G2 : FnOk P w K mg base (L2N.CX P w) 2 f2 fd2 p_law_many (sp_law_many K))
    (D3 : Df K mg "_law_ring" s_law_ring p_law_ring f3 fd3) (G3 : FnOk P w K mg base (L2N.CX P w) 2 f3 fd3 p_law_ring (sp_law_ring K))
    (D4 : Df K mg "_law_order" s_law_order p_law_order f4 fd4) (G4 : FnOk P w K mg base (L2N.CX P w) 4 f4 fd4 p_law_order (sp_law_order14 K))
    (D5 : Df K mg "_law_ask" s_law_ask p_law_ask f5 fd5) (G5 : FnOk P w K mg base (L2N.CX P w) 5 f5 fd5 p_law_ask (sp_law_ask K))
    (D6 : Df K mg "_law_small" s_law_small p_law_small f6 fd6) (G6 : FnOk P w K mg base (L2N.CX P w) 23 f6 fd6 p_law_small (sp_law_small K)) :
    FnOk P w K mg base (L2N.CX P w) 24 f fd p_law (sp_law K) := by
  refine Fun.okN D.F sc_law (fun vs H Q E h => ?_) (fun cdv A outer s H vs Q E hr h => ?_)
  · obtain ⟨a, ns, rfl, _⟩ := h
    rfl
  · obtain ⟨a, ns, rfl, hS, hQ⟩ := h
    have hr2 : Room 2 _ := hr.mono (by decide)
    have hr4 : Room 4 _ := hr.mono (by decide)
    have hr5 : Room 5 _ := hr.mono (by decide)
    refine ⟨_, pss_cons (ps_set (i := 1) sc_law.nd rfl (.inl rfl) (pe_call G1 hr2 (by rfl) D1.g D1.F.kp D1.b .nil passN (pa_cons (pv 0) pa_nil)))
      (pss_cons (ps_set (i := 2) sc_law.nd rfl (.inl rfl) (pe_callB (call_max2 rfl) (by rfl) B.max (by decide +kernel) (pa_cons (pv 1) (pa_cons (pe_call G2 hr2 (by rfl) D2.g D2.F.kp D2.b .nil passN (pa_cons (pv 0) (pa_cons (pv 1) pa_nil))) pa_nil))))
      (pss_cons (ps_set (i := 3) sc_law.nd rfl (.inl rfl) (pe_call G3 hr2 (by rfl) D3.g D3.F.kp D3.b .nil passN (pa_cons (pv 0) (pa_cons (pv 1) (pa_cons (pv 2) pa_nil)))))
      (pss_cons (ps_set (i := 4) sc_law.nd rfl (.inl rfl) (pe_call G4 hr4 (by rfl) D4.g D4.F.kp D4.b .nil passN (pa_cons (pv 3) (pa_cons (pv 2) (pa_cons (pv 0) pa_nil)))))
      (pss_cons (ps_setLc (i := 5) (own := [("_law_cell", 6)]) (g := gName 6) (tt := tYes) (te := tCB (fun xs H Q => ∃ i, xs = [.int i] ∧ Q (.int (if i < 0 then -i else i)) H) (tCons (tVar 6) tNil)) rfl sc_law.nd rfl rfl (sw_true rfl rfl rfl (by decide +kernel)) (pi_list (pe_slice sl_list (pv 0) po_none (po_some pe_int))) (blkOk_by (N := n_law) (sc := defScope s_law) (by decide +kernel))
          (fun _ _ _ _ _ => pg_name (i := 6) sc_law.nd rfl (Or.inl rfl)) (fun _ _ _ _ _ => pts_nil) (fun _ _ _ _ _ => by exact pe_callB call_abs (by rfl) B.abs (by decide +kernel) (pa_cons (pv 6) pa_nil)))
      (pss_cons (ps_set (i := 7) sc_law.nd rfl (.inl rfl) (pe_callTy call_list_of (by rfl) B.list (by decide +kernel) (pa_cons (pv 4) pa_nil)))
      (pss_cons (ps_set (i := 8) sc_law.nd rfl (.inl rfl) (pe_callTy call_list_of (by rfl) B.list (by decide +kernel) (pa_cons (pv 5) pa_nil)))
      (pss_cons (ps_for (passes_of rfl) rfl (pi_range1 rfl B.range (pa_cons pe_int pa_nil)) (pg_name (i := 9) sc_law.nd rfl (.inl rfl))
        (pss_cons (ps_set (i := 10) sc_law.nd rfl (.inl rfl) (pe_call G5 hr5 (by rfl) D5.g D5.F.kp D5.b .nil passN (pa_cons (pv 9) (pa_cons (pv 3) (pa_cons (pv 2) (pa_cons (pv 4) (pa_cons (pv 5) pa_nil)))))))
        (pss_cons (ps_set (i := 11) sc_law.nd rfl (.inl rfl) (pe_callTy call_list_of (by rfl) B.list (by decide +kernel) (pa_cons (pv 10) pa_nil)))
        (pss_cons (ps_expr (pe_bm PySem.F.plainAttrs_list PySem.F.slot_list_append PySem.F.type_list_append mt_append (pv 10) (pa_cons (pv 9) pa_nil)))
        (pss_cons (ps_if (pt_cmpR (op_neD hr.units) (pe_call G5 hr5 (by rfl) D5.g D5.F.kp D5.b .nil passN (pa_cons (pv 9) (pa_cons (pv 3) (pa_cons (pv 2) (pa_cons (pv 4) (pa_cons (pv 5) pa_nil)))))) (pv 11) (nomark _)) (pss_one (ps_ret pe_bl)) pss_nil)
        (pss_cons (ps_expr (pe_bm0 PySem.F.plainAttrs_list PySem.F.slot_list_clear PySem.F.type_list_clear mt_clear (pv 10)))
        (pss_one (ps_if (PW.pt (pw_or (pt_cmpR (op_neD hr.units) (pe_call G5 hr5 (by rfl) D5.g D5.F.kp D5.b .nil passN (pa_cons (pv 9) (pa_cons (pv 3) (pa_cons (pv 2) (pa_cons (pv 4) (pa_cons (pv 5) pa_nil)))))) (pv 11) (nomark _)) (pw_or1 (pt_cmpR (op_neI hr.units) (pv 10) (pe_lst pa_nil) (nomark _))))) (pss_one (ps_ret pe_bl)) pss_nil))))))))
      (pss_cons (ps_for (passes_of rfl) rfl (pi_range1 rfl B.range (pa_cons pe_int pa_nil)) (pg_name (i := 9) sc_law.nd rfl (.inl rfl))
        (pss_cons (ps_set (i := 12) sc_law.nd rfl (.inl rfl) (pe_call G6 hr (by rfl) D6.g D6.F.kp D6.b .nil passN (pa_cons (pv 9) (pa_cons (pv 0) pa_nil))))
        (pss_cons (ps_set (i := 11) sc_law.nd rfl (.inl rfl) (pe_callTy call_list_of (by rfl) B.list (by decide +kernel) (pa_cons (pe_ix ix_tup (pv 12) pe_int (fun _ _ => rfl)) pa_nil)))
        (pss_cons (ps_expr (pe_bm PySem.F.plainAttrs_list PySem.F.slot_list_append PySem.F.type_list_append mt_append (pe_ix ix_tup (pv 12) pe_int (fun _ _ => rfl)) (pa_cons pe_int pa_nil)))
        (pss_cons (ps_set (i := 13) sc_law.nd rfl (.inl rfl) (pe_call G6 hr (by rfl) D6.g D6.F.kp D6.b .nil passN (pa_cons (pv 9) (pa_cons (pv 0) pa_nil))))
        (pss_one (ps_if (PW.pt (pw_or (pt_cmpR (op_neI hr.units) (pe_ix ix_tup (pv 13) pe_int (fun _ _ => rfl)) (pe_ix ix_tup (pv 12) pe_int (fun _ _ => rfl)) (nomark _)) (pw_or1 (pt_cmpR (op_neI hr.units) (pe_ix ix_tup (pv 13) pe_int (fun _ _ => rfl)) (pv 11) (nomark _))))) (pss_one (ps_ret pe_bl)) pss_nil)))))))
      (pss_one (ps_ret (pe_and (pe_cmpR (op_eqI hr.units) (pv 4) (pv 7) (nomark _)) (pe_one (pe_cmpR (op_eqI hr.units) (pv 5) (pv 8) (nomark _)))))))))))))), ?_⟩
    obtain ⟨_, hn2, hn12⟩ := sizeI_is ns
    obtain ⟨n, hn⟩ : ∃ n, n = sizeF ns := ⟨_, rfl⟩
    rw [← hn] at hn2 hn12
    refine ⟨_, rfl, a, ns, rfl, hS, ?_⟩
    rw [← hn]
    obtain ⟨hm2, hm100⟩ := manyF_in ns (n := (n : Int)) (by omega) (by omega)
    refine ⟨_, rfl, _, rfl, _, rfl, a, ns, (n : Int), rfl, hS, fun H1 s1 => ?_⟩
    obtain ⟨m, hm⟩ : ∃ m : Int, m = if manyF ns (n : Int) > (n : Int) then manyF ns (n : Int) else (n : Int) := ⟨_, rfl⟩
    have mb : (n : Int) ≤ m ∧ m ≤ 100 := by
      rw [hm]
      split <;> omega
    obtain ⟨hnm, hm100⟩ := mb
    refine ⟨_, _, rfl, ?_⟩
    rw [← hm]
    refine ⟨_, rfl, _, rfl, _, rfl, a, ns, n, m, rfl, s1.seq hS, hn2, hn12, by omega, hm100, fun H2 c2 s2 h2 => ?_⟩
    have S2 := s1.trans s2
    obtain ⟨r, hrr⟩ : ∃ r, r = ringF ns n m := ⟨_, rfl⟩
    have R : Ring n m r := by rw [hrr]; exact ringF_ring ns hn2 (by omega)
    rw [← hrr] at h2
    refine ⟨_, rfl, _, rfl, _, rfl, c2, a, r, ns, m, n, rfl, h2, S2.seq hS, R, hn12, hnm, hm100, fun H3 b ks r' s3 hb0 hb un one => ?_⟩
    rw [N_Z] at hb
    have S3 := S2.trans s3
    obtain ⟨k, hk⟩ := List.length_eq_one_iff.mp one
    obtain ⟨rs, g1, g2, g3⟩ := gone_un R un
    have g4 := g3 []
    rw [List.append_nil] at g4
    have g4 : goneA m [r] r (Z ks) = .ok (rs ++ [r']) := g4
    have kb := un.bound R hnm
    have mb198 := most_le hn12
    -- numbers
    have h3 := s3.tup h2
    refine ⟨_, rfl, _, rfl, a, _, rfl, S3.seq hS, fun qs0 hqs0 => ?_⟩
    obtain ⟨sq, esq, _⟩ := cutI_len ns none (some 5)
    have sq5 := cut5 (I ns)
    rw [esq] at sq5 ⊢
    rw [len_I] at sq5
    have t4 := same_upd (o := .lst (I sq)) hqs0
    refine ⟨qs0, rfl, ⟨_, lstOf upd_same⟩, fun L hL => lc_lm (K := K) (a := qs0) (xs := I sq) (fun i => V.int (if at0 sq i < 0 then -(at0 sq i) else at0 sq i)) hL (by rw [len_I]; omega) (lstOf upd_same) (fun i x H4 hi s4 Zc hz => ?_) fun H4 s4 e4 => ?_⟩
    · have hil := (List.getElem?_eq_some_iff.mp hi).1
      rw [len_I] at hil
      have ex : x = .int (at0 sq i) := by
        rw [List.getElem?_map, List.getElem?_eq_getElem hil] at hi
        rw [← Option.some.inj hi]
        unfold at0
        rw [List.getD_eq_getElem?_getD, List.getElem?_eq_getElem hil]
        rfl
      subst ex
      exact ⟨rfl, _, rfl, _, rfl, hz H4 (Same.refl H4)⟩
    rw [mapI, len_I] at e4
    obtain ⟨qs, hqs⟩ : ∃ qs, qs = (List.range sq.length).map fun i => if at0 sq i < 0 then -(at0 sq i) else at0 sq i := ⟨_, rfl⟩
    rw [← hqs] at e4
    have S4 := t4.trans s4
    have b4 := S4 _ _ hb
    have c4 := S4.tup h3
    refine ⟨_, rfl, b, _, rfl, .inl (lstOf b4), fun o1 ho1 => ?_⟩
    have t5 := same_upd (o := .lst (I (Z ks))) ho1
    refine ⟨_, rfl, L, _, rfl, .inl (lstOf (t5 _ _ e4)), fun o2 ho2 => ?_⟩
    have t6 := same_upd (o := .lst (I qs)) ho2
    obtain ⟨Hb, hHb⟩ : ∃ Hb, Hb = upd (upd H4 o1 (.lst (I (Z ks)))) o2 (.lst (I qs)) := ⟨_, rfl⟩
    rw [← hHb] at t6 ⊢
    have T6 := t5.trans t6
    have bB := T6 _ _ b4
    have LB := T6 _ _ e4
    have cB := T6.tup c4
    have o1B : Hb o1 = some (.lst (I (Z ks))) := t6 _ _ upd_same
    have o2B : Hb o2 = some (.lst (I qs)) := by rw [hHb, upd_same]
    have SB : Same H Hb := S3.trans (S4.trans T6)
    refine ⟨7, rfl, by decide, by decide, ?_⟩
    refine for_r0 (n := 7) (fun i σ H' => ∃ y9 y10 y11 : Option V, σ = [some (.ref a), some (.int (n : Int)), some (.int m), some (.ref c2), some (.ref b), some (.ref L), none, some (.ref o1), some (.ref o2), y9, y10, y11, none, none] ∧ Same Hb H')
      ⟨none, none, none, rfl, Same.refl Hb⟩ ?_ ?_
    · rintro i σ H5 hi ⟨y9, y10, y11, rfl, sm⟩
      refine ⟨_, rfl, _, rfl, _, rfl, _, rfl, _, rfl, c2, b, L, r, r', qs, m, n, ks, rs, k, i, rfl, hi, sm.tup cB, lstOf (sm _ _ bB), lstOf (sm _ _ LB), R, hn12, hnm, hm100, un, hk, g1, g4, fun H6 p xs s6 hp e6 l6 a6 => ?_⟩
      have pB : Hb p = none := sm.free hp
      refine ⟨_, rfl, p, _, rfl, .inl (lstOf e6), fun ph hph => ?_⟩
      have t7 := same_upd (o := .lst xs) hph
      have php : ph ≠ p := fun z => by rw [z, e6] at hph; cases hph
      have e7 := t7 _ _ e6
      refine ⟨_, rfl, .inl ⟨rfl, _, lstOf e7⟩, _, rfl, p, _, _, rfl, rfl, e7, small1000 (by omega), ?_⟩
      obtain ⟨H7, hH7⟩ : ∃ H7, H7 = upd (upd H6 ph (.lst xs)) p (.lst (xs ++ [V.int (i : Int)])) := ⟨_, rfl⟩
      rw [← hH7]
      have a7 : AnsOk K H7 xs (askF i m n r ks qs (rs ++ [r']) k) := by rw [hH7]; exact AnsOk.upd e7 (AnsOk.of t7 a6)
      have p7 : H7 p = some (.lst (xs ++ [V.int (i : Int)])) := by rw [hH7, upd_same]
      have k7 : H7 ph = some (.lst xs) := by rw [hH7, upd_ne php, upd_same]
      have sm7 : Same Hb H7 := fun cc oo e => by
        rw [hH7, upd_ne (ne_of_none e pB)]
        exact t7 _ _ (s6 _ _ (sm _ _ e))
      refine ⟨_, rfl, _, rfl, _, rfl, _, rfl, _, rfl, c2, b, L, r, r', qs, m, n, ks, rs, k, i, rfl, hi, sm7.tup cB, lstOf (sm7 _ _ bB), lstOf (sm7 _ _ LB), R, hn12, hnm, hm100, un, hk, g1, g4, fun H8 p8 xs8 s8 hp8 e8 l8 a8 => ?_⟩
      refine ⟨_, rfl, .list (dAns (askF i m n r ks qs (rs ++ [r']) k)), .list (dAns (askF i m n r ks qs (rs ++ [r']) k)), .lst (lstOf e8) a8.dp, .lst (lstOf (s8 _ _ k7)) (AnsOk.of s8 a7).dp, shaped_Ans _, shaped_Ans _, _, rfl, ?_⟩
      rw [eqv_Ans]
      refine iteF ?_
      have p8' := s8 _ _ p7
      refine ⟨_, rfl, .inl ⟨rfl, _, lstOf p8'⟩, p, _, rfl, rfl, p8', ?_⟩
      obtain ⟨H9, hH9⟩ : ∃ H9, H9 = upd H8 p (.lst []) := ⟨_, rfl⟩
      rw [← hH9]
      have a9 : AnsOk K H9 xs (askF i m n r ks qs (rs ++ [r']) k) := by rw [hH9]; exact AnsOk.upd p8' (AnsOk.of s8 a7)
      have k9 : H9 ph = some (.lst xs) := by rw [hH9, upd_ne php]; exact s8 _ _ k7
      have p9 : H9 p = some (.lst []) := by rw [hH9, upd_same]
      have sm9 : Same Hb H9 := fun cc oo e => by
        rw [hH9, upd_ne (ne_of_none e pB)]
        exact s8 _ _ (sm7 _ _ e)
      refine ⟨_, rfl, _, rfl, _, rfl, _, rfl, _, rfl, c2, b, L, r, r', qs, m, n, ks, rs, k, i, rfl, hi, sm9.tup cB, lstOf (sm9 _ _ bB), lstOf (sm9 _ _ LB), R, hn12, hnm, hm100, un, hk, g1, g4, fun H10 p10 xs10 s10 hp10 e10 l10 a10 => ?_⟩
      refine ⟨_, rfl, .list (dAns (askF i m n r ks qs (rs ++ [r']) k)), .list (dAns (askF i m n r ks qs (rs ++ [r']) k)), .lst (lstOf e10) a10.dp, .lst (lstOf (s10 _ _ k9)) (AnsOk.of s10 a9).dp, shaped_Ans _, shaped_Ans _, _, rfl, ?_⟩
      rw [eqv_Ans]
      refine iteF ?_
      refine ⟨_, rfl, big (by show 0 ≤ 1000; decide), fun q hq => ⟨p, q, [], [], rfl, rfl, .inl ⟨lstOf ((same_upd hq) _ _ (s10 _ _ p9)), lstOf upd_same⟩, _, rfl, ?_⟩⟩
      rw [decide_eq_true rfl]
      exact iteF ⟨_, _, _, rfl, sm9.trans (s10.trans (same_upd hq))⟩
    · rintro σ H5 ⟨y9, y10, y11, rfl, sm⟩
      refine ⟨2, rfl, by decide, by decide, ?_⟩
      refine for_r0 (n := 2) (fun i σ H' => ∃ y9 y10 y11 y12 y13 : Option V, σ = [some (.ref a), some (.int (n : Int)), some (.int m), some (.ref c2), some (.ref b), some (.ref L), none, some (.ref o1), some (.ref o2), y9, y10, y11, y12, y13] ∧ Same Hb H')
        ⟨y9, y10, y11, none, none, rfl, sm⟩ ?_ ?_
      · rintro i σ H6 hi ⟨y9, y10, y11, y12, y13, rfl, sm6⟩
        have len := smallF_len i (at0 ns 0)
        refine ⟨_, rfl, _, rfl, a, ns, i, rfl, (SB.trans sm6).seq hS, hi, fun H7 t q p s7 hp ht hq hl => ?_⟩
        have pB : Hb p = none := sm6.free hp
        rw [N_Z] at hl
        have at0' : ∀ (x y : V), atI [x, y] 0 = some x := fun x y => at_of (j := 0) rfl rfl
        have at1' : ∀ (x y : V), atI [x, y] 1 = some y := fun x y => at_of (j := 1) rfl rfl
        refine ⟨_, rfl, t, _, 1, _, rfl, rfl, tupOf ht, at1' _ _, p, _, rfl, .inl (lstOf hl), fun ph hph => ?_⟩
        have t8 := same_upd (o := .lst (I (Z (smallF i (at0 ns 0)).2))) hph
        have php : ph ≠ p := fun z => by rw [z, hl] at hph; cases hph
        have ht8 := t8 _ _ ht
        have hl8 := t8 _ _ hl
        refine ⟨_, rfl, t, _, 1, _, rfl, rfl, tupOf ht8, at1' _ _, .inl ⟨rfl, _, lstOf hl8⟩, p, _, _, rfl, rfl, hl8, small1000 (by rw [len_I, List.length_map]; omega), ?_⟩
        obtain ⟨H8, hH8⟩ : ∃ H8, H8 = upd (upd H7 ph (.lst (I (Z (smallF i (at0 ns 0)).2)))) p (.lst (I (Z (smallF i (at0 ns 0)).2) ++ [V.int 0])) := ⟨_, rfl⟩
        rw [← hH8]
        have tp : t ≠ p := fun z => by rw [z, hl] at ht; cases ht
        have ht9 : H8 t = some (.tup [.ref q, .ref p]) := by rw [hH8, upd_ne tp]; exact ht8
        have hq9 : TupG H8 q (smallF i (at0 ns 0)).1 := by rw [hH8]; exact TupG.upd hl8 (t8 _ _ hq)
        have k9 : H8 ph = some (.lst (I (Z (smallF i (at0 ns 0)).2))) := by rw [hH8, upd_ne php, upd_same]
        have sm8 : Same Hb H8 := fun cc oo e => by
          rw [hH8, upd_ne (ne_of_none e pB)]
          exact t8 _ _ (s7 _ _ (sm6 _ _ e))
        refine ⟨_, rfl, _, rfl, a, ns, i, rfl, (SB.trans sm8).seq hS, hi, fun H9 t9 q9 p9 s9 hp9 ht9' hq9' hl9 => ?_⟩
        rw [N_Z] at hl9
        refine ⟨_, rfl, t9, _, 0, _, rfl, rfl, tupOf ht9', at0' _ _, _, rfl, t, _, 0, _, rfl, rfl, tupOf (s9 _ _ ht9), at0' _ _, q9, q, _, _, rfl, rfl, .inr ⟨tupOf hq9', tupOf (s9 _ _ hq9)⟩, _, rfl, ?_⟩
        rw [decide_eq_true rfl]
        refine iteF ?_
        refine ⟨_, rfl, t9, _, 1, _, rfl, rfl, tupOf ht9', at1' _ _, _, rfl, p9, ph, _, _, rfl, rfl, .inl ⟨lstOf hl9, lstOf (s9 _ _ k9)⟩, _, rfl, ?_⟩
        rw [decide_eq_true rfl]
        exact iteF ⟨_, _, _, _, _, rfl, sm8.trans s9⟩
      · rintro σ H6 ⟨y9, y10, y11, y12, y13, rfl, sm6⟩
        refine ⟨_, rfl, _, rfl, b, o1, Z ks, Z ks, rfl, rfl, .inl ⟨lstOf (sm6 _ _ bB), lstOf (sm6 _ _ o1B)⟩, _, rfl, ?_⟩
        rw [decide_eq_true rfl]
        refine iteT ⟨_, rfl, _, rfl, L, o2, qs, qs, rfl, rfl, .inl ⟨lstOf (sm6 _ _ LB), lstOf (sm6 _ _ o2B)⟩, ?_⟩
        rw [decide_eq_true rfl]
        exact hQ H6
end
end HW
namespace HW
open PySem PySem.Spec PyProof.Rows L2 HR
theorem all_mk {l : PySem.W.OpenLaw} {w : World} {K : PySem.W.Frag} {h : Heap} {mg : Str → Option Value} {fa : Addr} (X : K.In h) (G : h.Ns mainGlobals mg) (hfa : mg "law" = some (.ref fa))
    {f_need_numbers : Addr} {od_need_numbers an_need_numbers : Option Addr} {sl_need_numbers : Array (Option Value)} {oc_need_numbers kV_need_numbers dc_need_numbers pm_need_numbers cd_need_numbers ct_need_numbers : Value}
    {f_need_machines : Addr} {od_need_machines an_need_machines : Option Addr} {sl_need_machines : Array (Option Value)} {oc_need_machines kV_need_machines dc_need_machines pm_need_machines cd_need_machines ct_need_machines : Value}
    {f_need_ring : Addr} {od_need_ring an_need_ring : Option Addr} {sl_need_ring : Array (Option Value)} {oc_need_ring kV_need_ring dc_need_ring pm_need_ring cd_need_ring ct_need_ring : Value}
    {f_may : Addr} {od_may an_may : Option Addr} {sl_may : Array (Option Value)} {oc_may kV_may dc_may pm_may cd_may ct_may : Value}
    {f_able_of : Addr} {od_able_of an_able_of : Option Addr} {sl_able_of : Array (Option Value)} {oc_able_of kV_able_of dc_able_of pm_able_of cd_able_of ct_able_of : Value}
    {f_able : Addr} {od_able an_able : Option Addr} {sl_able : Array (Option Value)} {oc_able kV_able dc_able pm_able cd_able ct_able : Value}
    {f_moved : Addr} {od_moved an_moved : Option Addr} {sl_moved : Array (Option Value)} {oc_moved kV_moved dc_moved pm_moved cd_moved ct_moved : Value}
    {f_step_of : Addr} {od_step_of an_step_of : Option Addr} {sl_step_of : Array (Option Value)} {oc_step_of kV_step_of dc_step_of pm_step_of cd_step_of ct_step_of : Value}
    {f_stepped : Addr} {od_stepped an_stepped : Option Addr} {sl_stepped : Array (Option Value)} {oc_stepped kV_stepped dc_stepped pm_stepped cd_stepped ct_stepped : Value}
    {f_gone : Addr} {od_gone an_gone : Option Addr} {sl_gone : Array (Option Value)} {oc_gone kV_gone dc_gone pm_gone cd_gone ct_gone : Value}
    {f_next_of : Addr} {od_next_of an_next_of : Option Addr} {sl_next_of : Array (Option Value)} {oc_next_of kV_next_of dc_next_of pm_next_of cd_next_of ct_next_of : Value}
    {f_drawn : Addr} {od_drawn an_drawn : Option Addr} {sl_drawn : Array (Option Value)} {oc_drawn kV_drawn dc_drawn pm_drawn cd_drawn ct_drawn : Value}
    {f_counted : Addr} {od_counted an_counted : Option Addr} {sl_counted : Array (Option Value)} {oc_counted kV_counted dc_counted pm_counted cd_counted ct_counted : Value}
    {f_traced : Addr} {od_traced an_traced : Option Addr} {sl_traced : Array (Option Value)} {oc_traced kV_traced dc_traced pm_traced cd_traced ct_traced : Value}
    {f_healing : Addr} {od_healing an_healing : Option Addr} {sl_healing : Array (Option Value)} {oc_healing kV_healing dc_healing pm_healing cd_healing ct_healing : Value}
    {f_most : Addr} {od_most an_most : Option Addr} {sl_most : Array (Option Value)} {oc_most kV_most dc_most pm_most cd_most ct_most : Value}
    {f_turns : Addr} {od_turns an_turns : Option Addr} {sl_turns : Array (Option Value)} {oc_turns kV_turns dc_turns pm_turns cd_turns ct_turns : Value}
    {f_all_rings : Addr} {od_all_rings an_all_rings : Option Addr} {sl_all_rings : Array (Option Value)} {oc_all_rings kV_all_rings dc_all_rings pm_all_rings cd_all_rings ct_all_rings : Value}
    {f_need_small : Addr} {od_need_small an_need_small : Option Addr} {sl_need_small : Array (Option Value)} {oc_need_small kV_need_small dc_need_small pm_need_small cd_need_small ct_need_small : Value}
    {f_lasting : Addr} {od_lasting an_lasting : Option Addr} {sl_lasting : Array (Option Value)} {oc_lasting kV_lasting dc_lasting pm_lasting cd_lasting ct_lasting : Value}
    {f_worst_order : Addr} {od_worst_order an_worst_order : Option Addr} {sl_worst_order : Array (Option Value)} {oc_worst_order kV_worst_order dc_worst_order pm_worst_order cd_worst_order ct_worst_order : Value}
    {f_worst : Addr} {od_worst an_worst : Option Addr} {sl_worst : Array (Option Value)} {oc_worst kV_worst dc_worst pm_worst cd_worst ct_worst : Value}
    {f_later_of : Addr} {od_later_of an_later_of : Option Addr} {sl_later_of : Array (Option Value)} {oc_later_of kV_later_of dc_later_of pm_later_of cd_later_of ct_later_of : Value}
    {f_lasting_rings : Addr} {od_lasting_rings an_lasting_rings : Option Addr} {sl_lasting_rings : Array (Option Value)} {oc_lasting_rings kV_lasting_rings dc_lasting_rings pm_lasting_rings cd_lasting_rings ct_lasting_rings : Value}
    {f_never : Addr} {od_never an_never : Option Addr} {sl_never : Array (Option Value)} {oc_never kV_never dc_never pm_never cd_never ct_never : Value}
    {f_law_cell_at : Addr} {od_law_cell_at an_law_cell_at : Option Addr} {sl_law_cell_at : Array (Option Value)} {oc_law_cell_at kV_law_cell_at dc_law_cell_at pm_law_cell_at cd_law_cell_at ct_law_cell_at : Value}
    {f_law_mixed : Addr} {od_law_mixed an_law_mixed : Option Addr} {sl_law_mixed : Array (Option Value)} {oc_law_mixed kV_law_mixed dc_law_mixed pm_law_mixed cd_law_mixed ct_law_mixed : Value}
    {f_law_size : Addr} {od_law_size an_law_size : Option Addr} {sl_law_size : Array (Option Value)} {oc_law_size kV_law_size dc_law_size pm_law_size cd_law_size ct_law_size : Value}
    {f_law_many : Addr} {od_law_many an_law_many : Option Addr} {sl_law_many : Array (Option Value)} {oc_law_many kV_law_many dc_law_many pm_law_many cd_law_many ct_law_many : Value}
    {f_law_ring : Addr} {od_law_ring an_law_ring : Option Addr} {sl_law_ring : Array (Option Value)} {oc_law_ring kV_law_ring dc_law_ring pm_law_ring cd_law_ring ct_law_ring : Value}
    {f_law_pick : Addr} {od_law_pick an_law_pick : Option Addr} {sl_law_pick : Array (Option Value)} {oc_law_pick kV_law_pick dc_law_pick pm_law_pick cd_law_pick ct_law_pick : Value}
    {f_law_order : Addr} {od_law_order an_law_order : Option Addr} {sl_law_order : Array (Option Value)} {oc_law_order kV_law_order dc_law_order pm_law_order cd_law_order ct_law_order : Value}
    {f_law_ask : Addr} {od_law_ask an_law_ask : Option Addr} {sl_law_ask : Array (Option Value)} {oc_law_ask kV_law_ask dc_law_ask pm_law_ask cd_law_ask ct_law_ask : Value}
    {f_law_small : Addr} {od_law_small an_law_small : Option Addr} {sl_law_small : Array (Option Value)} {oc_law_small kV_law_small dc_law_small pm_law_small cd_law_small ct_law_small : Value}
    {f_law : Addr} {od_law an_law : Option Addr} {sl_law : Array (Option Value)} {oc_law kV_law dc_law pm_law cd_law ct_law : Value}
    {C_HealError : Addr}
    {C_NoNumbers : Addr}
    {C_NoRing : Addr}
    {C_NoMachine : Addr}
    {C_NotNow : Addr}
    {C_NotHealed : Addr}
    {C_TooGreat : Addr}
    {t_LEAST : Tok}
    {t_MOST : Tok}
    {t_MOST_NUMBERS : Tok}
    {t_MOST_RINGS : Tok}
    (a_need_numbers : PySem.W.nsIn K mainGlobals "need_numbers" = some (some (.ref f_need_numbers))) (l_need_numbers : K.lookup f_need_numbers = some ⟨oc_need_numbers, od_need_numbers, .func (PySem.W.fnOf "need_numbers" "need_numbers" (defArgs s_need_numbers) (defBody s_need_numbers) (defScope s_need_numbers) .none kV_need_numbers dc_need_numbers pm_need_numbers an_need_numbers cd_need_numbers ct_need_numbers), sl_need_numbers⟩) (c_need_numbers : PySem.W.codeIn K cd_need_numbers "need_numbers" = true) (k_need_numbers : PySem.W.keepIn K (.ref f_need_numbers) = true)
    (a_need_machines : PySem.W.nsIn K mainGlobals "need_machines" = some (some (.ref f_need_machines))) (l_need_machines : K.lookup f_need_machines = some ⟨oc_need_machines, od_need_machines, .func (PySem.W.fnOf "need_machines" "need_machines" (defArgs s_need_machines) (defBody s_need_machines) (defScope s_need_machines) .none kV_need_machines dc_need_machines pm_need_machines an_need_machines cd_need_machines ct_need_machines), sl_need_machines⟩) (c_need_machines : PySem.W.codeIn K cd_need_machines "need_machines" = true) (k_need_machines : PySem.W.keepIn K (.ref f_need_machines) = true)
    (a_need_ring : PySem.W.nsIn K mainGlobals "need_ring" = some (some (.ref f_need_ring))) (l_need_ring : K.lookup f_need_ring = some ⟨oc_need_ring, od_need_ring, .func (PySem.W.fnOf "need_ring" "need_ring" (defArgs s_need_ring) (defBody s_need_ring) (defScope s_need_ring) .none kV_need_ring dc_need_ring pm_need_ring an_need_ring cd_need_ring ct_need_ring), sl_need_ring⟩) (c_need_ring : PySem.W.codeIn K cd_need_ring "need_ring" = true) (k_need_ring : PySem.W.keepIn K (.ref f_need_ring) = true)
    (a_may : PySem.W.nsIn K mainGlobals "may" = some (some (.ref f_may))) (l_may : K.lookup f_may = some ⟨oc_may, od_may, .func (PySem.W.fnOf "may" "may" (defArgs s_may) (defBody s_may) (defScope s_may) .none kV_may dc_may pm_may an_may cd_may ct_may), sl_may⟩) (c_may : PySem.W.codeIn K cd_may "may" = true) (k_may : PySem.W.keepIn K (.ref f_may) = true)
    (a_able_of : PySem.W.nsIn K mainGlobals "able_of" = some (some (.ref f_able_of))) (l_able_of : K.lookup f_able_of = some ⟨oc_able_of, od_able_of, .func (PySem.W.fnOf "able_of" "able_of" (defArgs s_able_of) (defBody s_able_of) (defScope s_able_of) .none kV_able_of dc_able_of pm_able_of an_able_of cd_able_of ct_able_of), sl_able_of⟩) (c_able_of : PySem.W.codeIn K cd_able_of "able_of" = true) (k_able_of : PySem.W.keepIn K (.ref f_able_of) = true)
    (a_able : PySem.W.nsIn K mainGlobals "able" = some (some (.ref f_able))) (l_able : K.lookup f_able = some ⟨oc_able, od_able, .func (PySem.W.fnOf "able" "able" (defArgs s_able) (defBody s_able) (defScope s_able) .none kV_able dc_able pm_able an_able cd_able ct_able), sl_able⟩) (c_able : PySem.W.codeIn K cd_able "able" = true) (k_able : PySem.W.keepIn K (.ref f_able) = true)
    (a_moved : PySem.W.nsIn K mainGlobals "moved" = some (some (.ref f_moved))) (l_moved : K.lookup f_moved = some ⟨oc_moved, od_moved, .func (PySem.W.fnOf "moved" "moved" (defArgs s_moved) (defBody s_moved) (defScope s_moved) .none kV_moved dc_moved pm_moved an_moved cd_moved ct_moved), sl_moved⟩) (c_moved : PySem.W.codeIn K cd_moved "moved" = true) (k_moved : PySem.W.keepIn K (.ref f_moved) = true)
    (a_step_of : PySem.W.nsIn K mainGlobals "step_of" = some (some (.ref f_step_of))) (l_step_of : K.lookup f_step_of = some ⟨oc_step_of, od_step_of, .func (PySem.W.fnOf "step_of" "step_of" (defArgs s_step_of) (defBody s_step_of) (defScope s_step_of) .none kV_step_of dc_step_of pm_step_of an_step_of cd_step_of ct_step_of), sl_step_of⟩) (c_step_of : PySem.W.codeIn K cd_step_of "step_of" = true) (k_step_of : PySem.W.keepIn K (.ref f_step_of) = true)
    (a_stepped : PySem.W.nsIn K mainGlobals "stepped" = some (some (.ref f_stepped))) (l_stepped : K.lookup f_stepped = some ⟨oc_stepped, od_stepped, .func (PySem.W.fnOf "stepped" "stepped" (defArgs s_stepped) (defBody s_stepped) (defScope s_stepped) .none kV_stepped dc_stepped pm_stepped an_stepped cd_stepped ct_stepped), sl_stepped⟩) (c_stepped : PySem.W.codeIn K cd_stepped "stepped" = true) (k_stepped : PySem.W.keepIn K (.ref f_stepped) = true)
    (a_gone : PySem.W.nsIn K mainGlobals "gone" = some (some (.ref f_gone))) (l_gone : K.lookup f_gone = some ⟨oc_gone, od_gone, .func (PySem.W.fnOf "gone" "gone" (defArgs s_gone) (defBody s_gone) (defScope s_gone) .none kV_gone dc_gone pm_gone an_gone cd_gone ct_gone), sl_gone⟩) (c_gone : PySem.W.codeIn K cd_gone "gone" = true) (k_gone : PySem.W.keepIn K (.ref f_gone) = true)
    (a_next_of : PySem.W.nsIn K mainGlobals "next_of" = some (some (.ref f_next_of))) (l_next_of : K.lookup f_next_of = some ⟨oc_next_of, od_next_of, .func (PySem.W.fnOf "next_of" "next_of" (defArgs s_next_of) (defBody s_next_of) (defScope s_next_of) .none kV_next_of dc_next_of pm_next_of an_next_of cd_next_of ct_next_of), sl_next_of⟩) (c_next_of : PySem.W.codeIn K cd_next_of "next_of" = true) (k_next_of : PySem.W.keepIn K (.ref f_next_of) = true)
    (a_drawn : PySem.W.nsIn K mainGlobals "drawn" = some (some (.ref f_drawn))) (l_drawn : K.lookup f_drawn = some ⟨oc_drawn, od_drawn, .func (PySem.W.fnOf "drawn" "drawn" (defArgs s_drawn) (defBody s_drawn) (defScope s_drawn) .none kV_drawn dc_drawn pm_drawn an_drawn cd_drawn ct_drawn), sl_drawn⟩) (c_drawn : PySem.W.codeIn K cd_drawn "drawn" = true) (k_drawn : PySem.W.keepIn K (.ref f_drawn) = true)
    (a_counted : PySem.W.nsIn K mainGlobals "counted" = some (some (.ref f_counted))) (l_counted : K.lookup f_counted = some ⟨oc_counted, od_counted, .func (PySem.W.fnOf "counted" "counted" (defArgs s_counted) (defBody s_counted) (defScope s_counted) .none kV_counted dc_counted pm_counted an_counted cd_counted ct_counted), sl_counted⟩) (c_counted : PySem.W.codeIn K cd_counted "counted" = true) (k_counted : PySem.W.keepIn K (.ref f_counted) = true)
    (a_traced : PySem.W.nsIn K mainGlobals "traced" = some (some (.ref f_traced))) (l_traced : K.lookup f_traced = some ⟨oc_traced, od_traced, .func (PySem.W.fnOf "traced" "traced" (defArgs s_traced) (defBody s_traced) (defScope s_traced) .none kV_traced dc_traced pm_traced an_traced cd_traced ct_traced), sl_traced⟩) (c_traced : PySem.W.codeIn K cd_traced "traced" = true) (k_traced : PySem.W.keepIn K (.ref f_traced) = true)
    (a_healing : PySem.W.nsIn K mainGlobals "healing" = some (some (.ref f_healing))) (l_healing : K.lookup f_healing = some ⟨oc_healing, od_healing, .func (PySem.W.fnOf "healing" "healing" (defArgs s_healing) (defBody s_healing) (defScope s_healing) .none kV_healing dc_healing pm_healing an_healing cd_healing ct_healing), sl_healing⟩) (c_healing : PySem.W.codeIn K cd_healing "healing" = true) (k_healing : PySem.W.keepIn K (.ref f_healing) = true)
    (a_most : PySem.W.nsIn K mainGlobals "most" = some (some (.ref f_most))) (l_most : K.lookup f_most = some ⟨oc_most, od_most, .func (PySem.W.fnOf "most" "most" (defArgs s_most) (defBody s_most) (defScope s_most) .none kV_most dc_most pm_most an_most cd_most ct_most), sl_most⟩) (c_most : PySem.W.codeIn K cd_most "most" = true) (k_most : PySem.W.keepIn K (.ref f_most) = true)
    (a_turns : PySem.W.nsIn K mainGlobals "turns" = some (some (.ref f_turns))) (l_turns : K.lookup f_turns = some ⟨oc_turns, od_turns, .func (PySem.W.fnOf "turns" "turns" (defArgs s_turns) (defBody s_turns) (defScope s_turns) .none kV_turns dc_turns pm_turns an_turns cd_turns ct_turns), sl_turns⟩) (c_turns : PySem.W.codeIn K cd_turns "turns" = true) (k_turns : PySem.W.keepIn K (.ref f_turns) = true)
    (a_all_rings : PySem.W.nsIn K mainGlobals "all_rings" = some (some (.ref f_all_rings))) (l_all_rings : K.lookup f_all_rings = some ⟨oc_all_rings, od_all_rings, .func (PySem.W.fnOf "all_rings" "all_rings" (defArgs s_all_rings) (defBody s_all_rings) (defScope s_all_rings) .none kV_all_rings dc_all_rings pm_all_rings an_all_rings cd_all_rings ct_all_rings), sl_all_rings⟩) (c_all_rings : PySem.W.codeIn K cd_all_rings "all_rings" = true) (k_all_rings : PySem.W.keepIn K (.ref f_all_rings) = true)
    (a_need_small : PySem.W.nsIn K mainGlobals "need_small" = some (some (.ref f_need_small))) (l_need_small : K.lookup f_need_small = some ⟨oc_need_small, od_need_small, .func (PySem.W.fnOf "need_small" "need_small" (defArgs s_need_small) (defBody s_need_small) (defScope s_need_small) .none kV_need_small dc_need_small pm_need_small an_need_small cd_need_small ct_need_small), sl_need_small⟩) (c_need_small : PySem.W.codeIn K cd_need_small "need_small" = true) (k_need_small : PySem.W.keepIn K (.ref f_need_small) = true)
    (a_lasting : PySem.W.nsIn K mainGlobals "lasting" = some (some (.ref f_lasting))) (l_lasting : K.lookup f_lasting = some ⟨oc_lasting, od_lasting, .func (PySem.W.fnOf "lasting" "lasting" (defArgs s_lasting) (defBody s_lasting) (defScope s_lasting) .none kV_lasting dc_lasting pm_lasting an_lasting cd_lasting ct_lasting), sl_lasting⟩) (c_lasting : PySem.W.codeIn K cd_lasting "lasting" = true) (k_lasting : PySem.W.keepIn K (.ref f_lasting) = true)
    (a_worst_order : PySem.W.nsIn K mainGlobals "worst_order" = some (some (.ref f_worst_order))) (l_worst_order : K.lookup f_worst_order = some ⟨oc_worst_order, od_worst_order, .func (PySem.W.fnOf "worst_order" "worst_order" (defArgs s_worst_order) (defBody s_worst_order) (defScope s_worst_order) .none kV_worst_order dc_worst_order pm_worst_order an_worst_order cd_worst_order ct_worst_order), sl_worst_order⟩) (c_worst_order : PySem.W.codeIn K cd_worst_order "worst_order" = true) (k_worst_order : PySem.W.keepIn K (.ref f_worst_order) = true)
    (a_worst : PySem.W.nsIn K mainGlobals "worst" = some (some (.ref f_worst))) (l_worst : K.lookup f_worst = some ⟨oc_worst, od_worst, .func (PySem.W.fnOf "worst" "worst" (defArgs s_worst) (defBody s_worst) (defScope s_worst) .none kV_worst dc_worst pm_worst an_worst cd_worst ct_worst), sl_worst⟩) (c_worst : PySem.W.codeIn K cd_worst "worst" = true) (k_worst : PySem.W.keepIn K (.ref f_worst) = true)
    (a_later_of : PySem.W.nsIn K mainGlobals "later_of" = some (some (.ref f_later_of))) (l_later_of : K.lookup f_later_of = some ⟨oc_later_of, od_later_of, .func (PySem.W.fnOf "later_of" "later_of" (defArgs s_later_of) (defBody s_later_of) (defScope s_later_of) .none kV_later_of dc_later_of pm_later_of an_later_of cd_later_of ct_later_of), sl_later_of⟩) (c_later_of : PySem.W.codeIn K cd_later_of "later_of" = true) (k_later_of : PySem.W.keepIn K (.ref f_later_of) = true)
    (a_lasting_rings : PySem.W.nsIn K mainGlobals "lasting_rings" = some (some (.ref f_lasting_rings))) (l_lasting_rings : K.lookup f_lasting_rings = some ⟨oc_lasting_rings, od_lasting_rings, .func (PySem.W.fnOf "lasting_rings" "lasting_rings" (defArgs s_lasting_rings) (defBody s_lasting_rings) (defScope s_lasting_rings) .none kV_lasting_rings dc_lasting_rings pm_lasting_rings an_lasting_rings cd_lasting_rings ct_lasting_rings), sl_lasting_rings⟩) (c_lasting_rings : PySem.W.codeIn K cd_lasting_rings "lasting_rings" = true) (k_lasting_rings : PySem.W.keepIn K (.ref f_lasting_rings) = true)
    (a_never : PySem.W.nsIn K mainGlobals "never" = some (some (.ref f_never))) (l_never : K.lookup f_never = some ⟨oc_never, od_never, .func (PySem.W.fnOf "never" "never" (defArgs s_never) (defBody s_never) (defScope s_never) .none kV_never dc_never pm_never an_never cd_never ct_never), sl_never⟩) (c_never : PySem.W.codeIn K cd_never "never" = true) (k_never : PySem.W.keepIn K (.ref f_never) = true)
    (a_law_cell_at : PySem.W.nsIn K mainGlobals "_law_cell_at" = some (some (.ref f_law_cell_at))) (l_law_cell_at : K.lookup f_law_cell_at = some ⟨oc_law_cell_at, od_law_cell_at, .func (PySem.W.fnOf "_law_cell_at" "_law_cell_at" (defArgs s_law_cell_at) (defBody s_law_cell_at) (defScope s_law_cell_at) .none kV_law_cell_at dc_law_cell_at pm_law_cell_at an_law_cell_at cd_law_cell_at ct_law_cell_at), sl_law_cell_at⟩) (c_law_cell_at : PySem.W.codeIn K cd_law_cell_at "_law_cell_at" = true) (k_law_cell_at : PySem.W.keepIn K (.ref f_law_cell_at) = true)
    (a_law_mixed : PySem.W.nsIn K mainGlobals "_law_mixed" = some (some (.ref f_law_mixed))) (l_law_mixed : K.lookup f_law_mixed = some ⟨oc_law_mixed, od_law_mixed, .func (PySem.W.fnOf "_law_mixed" "_law_mixed" (defArgs s_law_mixed) (defBody s_law_mixed) (defScope s_law_mixed) .none kV_law_mixed dc_law_mixed pm_law_mixed an_law_mixed cd_law_mixed ct_law_mixed), sl_law_mixed⟩) (c_law_mixed : PySem.W.codeIn K cd_law_mixed "_law_mixed" = true) (k_law_mixed : PySem.W.keepIn K (.ref f_law_mixed) = true)
    (a_law_size : PySem.W.nsIn K mainGlobals "_law_size" = some (some (.ref f_law_size))) (l_law_size : K.lookup f_law_size = some ⟨oc_law_size, od_law_size, .func (PySem.W.fnOf "_law_size" "_law_size" (defArgs s_law_size) (defBody s_law_size) (defScope s_law_size) .none kV_law_size dc_law_size pm_law_size an_law_size cd_law_size ct_law_size), sl_law_size⟩) (c_law_size : PySem.W.codeIn K cd_law_size "_law_size" = true) (k_law_size : PySem.W.keepIn K (.ref f_law_size) = true)
    (a_law_many : PySem.W.nsIn K mainGlobals "_law_many" = some (some (.ref f_law_many))) (l_law_many : K.lookup f_law_many = some ⟨oc_law_many, od_law_many, .func (PySem.W.fnOf "_law_many" "_law_many" (defArgs s_law_many) (defBody s_law_many) (defScope s_law_many) .none kV_law_many dc_law_many pm_law_many an_law_many cd_law_many ct_law_many), sl_law_many⟩) (c_law_many : PySem.W.codeIn K cd_law_many "_law_many" = true) (k_law_many : PySem.W.keepIn K (.ref f_law_many) = true)
    (a_law_ring : PySem.W.nsIn K mainGlobals "_law_ring" = some (some (.ref f_law_ring))) (l_law_ring : K.lookup f_law_ring = some ⟨oc_law_ring, od_law_ring, .func (PySem.W.fnOf "_law_ring" "_law_ring" (defArgs s_law_ring) (defBody s_law_ring) (defScope s_law_ring) .none kV_law_ring dc_law_ring pm_law_ring an_law_ring cd_law_ring ct_law_ring), sl_law_ring⟩) (c_law_ring : PySem.W.codeIn K cd_law_ring "_law_ring" = true) (k_law_ring : PySem.W.keepIn K (.ref f_law_ring) = true)
    (a_law_pick : PySem.W.nsIn K mainGlobals "_law_pick" = some (some (.ref f_law_pick))) (l_law_pick : K.lookup f_law_pick = some ⟨oc_law_pick, od_law_pick, .func (PySem.W.fnOf "_law_pick" "_law_pick" (defArgs s_law_pick) (defBody s_law_pick) (defScope s_law_pick) .none kV_law_pick dc_law_pick pm_law_pick an_law_pick cd_law_pick ct_law_pick), sl_law_pick⟩) (c_law_pick : PySem.W.codeIn K cd_law_pick "_law_pick" = true) (k_law_pick : PySem.W.keepIn K (.ref f_law_pick) = true)
    (a_law_order : PySem.W.nsIn K mainGlobals "_law_order" = some (some (.ref f_law_order))) (l_law_order : K.lookup f_law_order = some ⟨oc_law_order, od_law_order, .func (PySem.W.fnOf "_law_order" "_law_order" (defArgs s_law_order) (defBody s_law_order) (defScope s_law_order) .none kV_law_order dc_law_order pm_law_order an_law_order cd_law_order ct_law_order), sl_law_order⟩) (c_law_order : PySem.W.codeIn K cd_law_order "_law_order" = true) (k_law_order : PySem.W.keepIn K (.ref f_law_order) = true)
    (a_law_ask : PySem.W.nsIn K mainGlobals "_law_ask" = some (some (.ref f_law_ask))) (l_law_ask : K.lookup f_law_ask = some ⟨oc_law_ask, od_law_ask, .func (PySem.W.fnOf "_law_ask" "_law_ask" (defArgs s_law_ask) (defBody s_law_ask) (defScope s_law_ask) .none kV_law_ask dc_law_ask pm_law_ask an_law_ask cd_law_ask ct_law_ask), sl_law_ask⟩) (c_law_ask : PySem.W.codeIn K cd_law_ask "_law_ask" = true) (k_law_ask : PySem.W.keepIn K (.ref f_law_ask) = true)
    (a_law_small : PySem.W.nsIn K mainGlobals "_law_small" = some (some (.ref f_law_small))) (l_law_small : K.lookup f_law_small = some ⟨oc_law_small, od_law_small, .func (PySem.W.fnOf "_law_small" "_law_small" (defArgs s_law_small) (defBody s_law_small) (defScope s_law_small) .none kV_law_small dc_law_small pm_law_small an_law_small cd_law_small ct_law_small), sl_law_small⟩) (c_law_small : PySem.W.codeIn K cd_law_small "_law_small" = true) (k_law_small : PySem.W.keepIn K (.ref f_law_small) = true)
    (a_law : PySem.W.nsIn K mainGlobals "law" = some (some (.ref f_law))) (l_law : K.lookup f_law = some ⟨oc_law, od_law, .func (PySem.W.fnOf "law" "law" (defArgs s_law) (defBody s_law) (defScope s_law) .none kV_law dc_law pm_law an_law cd_law ct_law), sl_law⟩) (c_law : PySem.W.codeIn K cd_law "law" = true) (k_law : PySem.W.keepIn K (.ref f_law) = true)
    (g_HealError : PySem.W.nsIn K mainGlobals "HealError" = some (some (.ref C_HealError))) (x_HealError : PySem.W.excIn K C_HealError [.type "ValueError", .type "Exception", .type "BaseException", .type "object"] "ValueError.__new__" = true) (k_HealError : PySem.W.keepIn K (.ref C_HealError) = true) (b_HealError : PySem.W.subIn K (.ref C_HealError) (.type "BaseException") = some true) (t_HealError : PySem.W.typeIn K (.ref C_HealError) = some (.type "type"))
    (g_NoNumbers : PySem.W.nsIn K mainGlobals "NoNumbers" = some (some (.ref C_NoNumbers))) (x_NoNumbers : PySem.W.excIn K C_NoNumbers [.type "ValueError", .type "Exception", .type "BaseException", .type "object"] "ValueError.__new__" = true) (k_NoNumbers : PySem.W.keepIn K (.ref C_NoNumbers) = true) (b_NoNumbers : PySem.W.subIn K (.ref C_NoNumbers) (.type "BaseException") = some true) (t_NoNumbers : PySem.W.typeIn K (.ref C_NoNumbers) = some (.type "type"))
    (g_NoRing : PySem.W.nsIn K mainGlobals "NoRing" = some (some (.ref C_NoRing))) (x_NoRing : PySem.W.excIn K C_NoRing [.type "ValueError", .type "Exception", .type "BaseException", .type "object"] "ValueError.__new__" = true) (k_NoRing : PySem.W.keepIn K (.ref C_NoRing) = true) (b_NoRing : PySem.W.subIn K (.ref C_NoRing) (.type "BaseException") = some true) (t_NoRing : PySem.W.typeIn K (.ref C_NoRing) = some (.type "type"))
    (g_NoMachine : PySem.W.nsIn K mainGlobals "NoMachine" = some (some (.ref C_NoMachine))) (x_NoMachine : PySem.W.excIn K C_NoMachine [.type "ValueError", .type "Exception", .type "BaseException", .type "object"] "ValueError.__new__" = true) (k_NoMachine : PySem.W.keepIn K (.ref C_NoMachine) = true) (b_NoMachine : PySem.W.subIn K (.ref C_NoMachine) (.type "BaseException") = some true) (t_NoMachine : PySem.W.typeIn K (.ref C_NoMachine) = some (.type "type"))
    (g_NotNow : PySem.W.nsIn K mainGlobals "NotNow" = some (some (.ref C_NotNow))) (x_NotNow : PySem.W.excIn K C_NotNow [.type "ValueError", .type "Exception", .type "BaseException", .type "object"] "ValueError.__new__" = true) (k_NotNow : PySem.W.keepIn K (.ref C_NotNow) = true) (b_NotNow : PySem.W.subIn K (.ref C_NotNow) (.type "BaseException") = some true) (t_NotNow : PySem.W.typeIn K (.ref C_NotNow) = some (.type "type"))
    (g_NotHealed : PySem.W.nsIn K mainGlobals "NotHealed" = some (some (.ref C_NotHealed))) (x_NotHealed : PySem.W.excIn K C_NotHealed [.type "ValueError", .type "Exception", .type "BaseException", .type "object"] "ValueError.__new__" = true) (k_NotHealed : PySem.W.keepIn K (.ref C_NotHealed) = true) (b_NotHealed : PySem.W.subIn K (.ref C_NotHealed) (.type "BaseException") = some true) (t_NotHealed : PySem.W.typeIn K (.ref C_NotHealed) = some (.type "type"))
    (g_TooGreat : PySem.W.nsIn K mainGlobals "TooGreat" = some (some (.ref C_TooGreat))) (x_TooGreat : PySem.W.excIn K C_TooGreat [.type "ValueError", .type "Exception", .type "BaseException", .type "object"] "ValueError.__new__" = true) (k_TooGreat : PySem.W.keepIn K (.ref C_TooGreat) = true) (b_TooGreat : PySem.W.subIn K (.ref C_TooGreat) (.type "BaseException") = some true) (t_TooGreat : PySem.W.typeIn K (.ref C_TooGreat) = some (.type "type"))
    (n_LEAST : PySem.W.nsIn K mainGlobals "LEAST" = some (some (.int 2 t_LEAST)))
    (n_MOST : PySem.W.nsIn K mainGlobals "MOST" = some (some (.int 12 t_MOST)))
    (n_MOST_NUMBERS : PySem.W.nsIn K mainGlobals "MOST_NUMBERS" = some (some (.int 100 t_MOST_NUMBERS)))
    (n_MOST_RINGS : PySem.W.nsIn K mainGlobals "MOST_RINGS" = some (some (.int 300 t_MOST_RINGS)))
    (z_len : PySem.W.nsIn K mainGlobals "len" = some none)
    (z_range : PySem.W.nsIn K mainGlobals "range" = some none)
    (z_min : PySem.W.nsIn K mainGlobals "min" = some none)
    (z_max : PySem.W.nsIn K mainGlobals "max" = some none)
    (z_isinstance : PySem.W.nsIn K mainGlobals "isinstance" = some none)
    (z_int : PySem.W.nsIn K mainGlobals "int" = some none)
    (z_bool : PySem.W.nsIn K mainGlobals "bool" = some none)
    (z_tuple : PySem.W.nsIn K mainGlobals "tuple" = some none)
    (z_list : PySem.W.nsIn K mainGlobals "list" = some none)
    (z_sorted : PySem.W.nsIn K mainGlobals "sorted" = some none)
    (z_abs : PySem.W.nsIn K mainGlobals "abs" = some none)
    (z_ValueError : PySem.W.nsIn K mainGlobals "ValueError" = some none) :
    ∃ fd : FuncData, (∀ (s : Shared) (v : Value), BindsTo s fd ⟨[v], []⟩ [("_law_script", v)]) ∧ ∀ base : Heap, K.In base → base.Ns mainGlobals mg → FnOk l.prog w K mg base (L2N.CX l.prog w) 24 fa fd p_law (sp_law K) := by
  have e := hfa.symm.trans (PySem.W.mg_of X G a_law)
  cases e
  have B : Bt mg := ⟨PySem.W.mg_none_of X G z_len, PySem.W.mg_none_of X G z_range, PySem.W.mg_none_of X G z_min, PySem.W.mg_none_of X G z_max, PySem.W.mg_none_of X G z_isinstance, PySem.W.mg_none_of X G z_int, PySem.W.mg_none_of X G z_bool, PySem.W.mg_none_of X G z_tuple, PySem.W.mg_none_of X G z_list, PySem.W.mg_none_of X G z_sorted, PySem.W.mg_none_of X G z_abs, PySem.W.mg_none_of X G z_ValueError⟩
  have CHealError : Cl K mg "HealError" C_HealError := ⟨PySem.W.mg_of X G g_HealError, x_HealError, k_HealError, b_HealError, t_HealError⟩
  have CNoNumbers : Cl K mg "NoNumbers" C_NoNumbers := ⟨PySem.W.mg_of X G g_NoNumbers, x_NoNumbers, k_NoNumbers, b_NoNumbers, t_NoNumbers⟩
  have CNoRing : Cl K mg "NoRing" C_NoRing := ⟨PySem.W.mg_of X G g_NoRing, x_NoRing, k_NoRing, b_NoRing, t_NoRing⟩
  have CNoMachine : Cl K mg "NoMachine" C_NoMachine := ⟨PySem.W.mg_of X G g_NoMachine, x_NoMachine, k_NoMachine, b_NoMachine, t_NoMachine⟩
  have CNotNow : Cl K mg "NotNow" C_NotNow := ⟨PySem.W.mg_of X G g_NotNow, x_NotNow, k_NotNow, b_NotNow, t_NotNow⟩
  have CNotHealed : Cl K mg "NotHealed" C_NotHealed := ⟨PySem.W.mg_of X G g_NotHealed, x_NotHealed, k_NotHealed, b_NotHealed, t_NotHealed⟩
  have CTooGreat : Cl K mg "TooGreat" C_TooGreat := ⟨PySem.W.mg_of X G g_TooGreat, x_TooGreat, k_TooGreat, b_TooGreat, t_TooGreat⟩
  have M : Nums mg := ⟨⟨_, PySem.W.mg_of X G n_LEAST⟩, ⟨_, PySem.W.mg_of X G n_MOST⟩, ⟨_, PySem.W.mg_of X G n_MOST_NUMBERS⟩⟩
  have NLEAST : ∃ t, mg "LEAST" = some (.int 2 t) := ⟨_, PySem.W.mg_of X G n_LEAST⟩
  have NMOST : ∃ t, mg "MOST" = some (.int 12 t) := ⟨_, PySem.W.mg_of X G n_MOST⟩
  have NMOST_NUMBERS : ∃ t, mg "MOST_NUMBERS" = some (.int 100 t) := ⟨_, PySem.W.mg_of X G n_MOST_NUMBERS⟩
  have NMOST_RINGS : ∃ t, mg "MOST_RINGS" = some (.int 300 t) := ⟨_, PySem.W.mg_of X G n_MOST_RINGS⟩
  have F_need_numbers := fun_mk (st := s_need_numbers) l_need_numbers c_need_numbers k_need_numbers
  have D_need_numbers : Df K mg "need_numbers" s_need_numbers p_need_numbers f_need_numbers _ := ⟨F_need_numbers, PySem.W.mg_of X G a_need_numbers, F_need_numbers.binds (ps := p_need_numbers) fun _ _ _ _ _ _ us hl => match us, hl with | [_], _ => rfl⟩
  have F_need_machines := fun_mk (st := s_need_machines) l_need_machines c_need_machines k_need_machines
  have D_need_machines : Df K mg "need_machines" s_need_machines p_need_machines f_need_machines _ := ⟨F_need_machines, PySem.W.mg_of X G a_need_machines, F_need_machines.binds (ps := p_need_machines) fun _ _ _ _ _ _ us hl => match us, hl with | [_], _ => rfl⟩
  have F_need_ring := fun_mk (st := s_need_ring) l_need_ring c_need_ring k_need_ring
  have D_need_ring : Df K mg "need_ring" s_need_ring p_need_ring f_need_ring _ := ⟨F_need_ring, PySem.W.mg_of X G a_need_ring, F_need_ring.binds (ps := p_need_ring) fun _ _ _ _ _ _ us hl => match us, hl with | [_, _], _ => rfl⟩
  have F_may := fun_mk (st := s_may) l_may c_may k_may
  have D_may : Df K mg "may" s_may p_may f_may _ := ⟨F_may, PySem.W.mg_of X G a_may, F_may.binds (ps := p_may) fun _ _ _ _ _ _ us hl => match us, hl with | [_, _], _ => rfl⟩
  have F_able_of := fun_mk (st := s_able_of) l_able_of c_able_of k_able_of
  have D_able_of : Df K mg "able_of" s_able_of p_able_of f_able_of _ := ⟨F_able_of, PySem.W.mg_of X G a_able_of, F_able_of.binds (ps := p_able_of) fun _ _ _ _ _ _ us hl => match us, hl with | [_], _ => rfl⟩
  have F_able := fun_mk (st := s_able) l_able c_able k_able
  have D_able : Df K mg "able" s_able p_able f_able _ := ⟨F_able, PySem.W.mg_of X G a_able, F_able.binds (ps := p_able) fun _ _ _ _ _ _ us hl => match us, hl with | [_, _], _ => rfl⟩
  have F_moved := fun_mk (st := s_moved) l_moved c_moved k_moved
  have D_moved : Df K mg "moved" s_moved p_moved f_moved _ := ⟨F_moved, PySem.W.mg_of X G a_moved, F_moved.binds (ps := p_moved) fun _ _ _ _ _ _ us hl => match us, hl with | [_, _, _], _ => rfl⟩
  have F_step_of := fun_mk (st := s_step_of) l_step_of c_step_of k_step_of
  have D_step_of : Df K mg "step_of" s_step_of p_step_of f_step_of _ := ⟨F_step_of, PySem.W.mg_of X G a_step_of, F_step_of.binds (ps := p_step_of) fun _ _ _ _ _ _ us hl => match us, hl with | [_, _, _], _ => rfl⟩
  have F_stepped := fun_mk (st := s_stepped) l_stepped c_stepped k_stepped
  have D_stepped : Df K mg "stepped" s_stepped p_stepped f_stepped _ := ⟨F_stepped, PySem.W.mg_of X G a_stepped, F_stepped.binds (ps := p_stepped) fun _ _ _ _ _ _ us hl => match us, hl with | [_, _, _], _ => rfl⟩
  have F_gone := fun_mk (st := s_gone) l_gone c_gone k_gone
  have D_gone : Df K mg "gone" s_gone p_gone f_gone _ := ⟨F_gone, PySem.W.mg_of X G a_gone, F_gone.binds (ps := p_gone) fun _ _ _ _ _ _ us hl => match us, hl with | [_, _, _], _ => rfl⟩
  have F_next_of := fun_mk (st := s_next_of) l_next_of c_next_of k_next_of
  have D_next_of : Df K mg "next_of" s_next_of p_next_of f_next_of _ := ⟨F_next_of, PySem.W.mg_of X G a_next_of, F_next_of.binds (ps := p_next_of) fun _ _ _ _ _ _ us hl => match us, hl with | [_, _, _], _ => rfl⟩
  have F_drawn := fun_mk (st := s_drawn) l_drawn c_drawn k_drawn
  have D_drawn : Df K mg "drawn" s_drawn p_drawn f_drawn _ := ⟨F_drawn, PySem.W.mg_of X G a_drawn, F_drawn.binds (ps := p_drawn) fun _ _ _ _ _ _ us hl => match us, hl with | [_, _, _, _], _ => rfl⟩
  have F_counted := fun_mk (st := s_counted) l_counted c_counted k_counted
  have D_counted : Df K mg "counted" s_counted p_counted f_counted _ := ⟨F_counted, PySem.W.mg_of X G a_counted, F_counted.binds (ps := p_counted) fun _ _ _ _ _ _ us hl => match us, hl with | [_, _], _ => rfl⟩
  have F_traced := fun_mk (st := s_traced) l_traced c_traced k_traced
  have D_traced : Df K mg "traced" s_traced p_traced f_traced _ := ⟨F_traced, PySem.W.mg_of X G a_traced, F_traced.binds (ps := p_traced) fun _ _ _ _ _ _ us hl => match us, hl with | [_, _, _], _ => rfl⟩
  have F_healing := fun_mk (st := s_healing) l_healing c_healing k_healing
  have D_healing : Df K mg "healing" s_healing p_healing f_healing _ := ⟨F_healing, PySem.W.mg_of X G a_healing, F_healing.binds (ps := p_healing) fun _ _ _ _ _ _ us hl => match us, hl with | [_, _, _], _ => rfl⟩
  have F_most := fun_mk (st := s_most) l_most c_most k_most
  have D_most : Df K mg "most" s_most p_most f_most _ := ⟨F_most, PySem.W.mg_of X G a_most, F_most.binds (ps := p_most) fun _ _ _ _ _ _ us hl => match us, hl with | [_], _ => rfl⟩
  have F_turns := fun_mk (st := s_turns) l_turns c_turns k_turns
  have D_turns : Df K mg "turns" s_turns p_turns f_turns _ := ⟨F_turns, PySem.W.mg_of X G a_turns, F_turns.binds (ps := p_turns) fun _ _ _ _ _ _ us hl => match us, hl with | [_, _], _ => rfl⟩
  have F_all_rings := fun_mk (st := s_all_rings) l_all_rings c_all_rings k_all_rings
  have D_all_rings : Df K mg "all_rings" s_all_rings p_all_rings f_all_rings _ := ⟨F_all_rings, PySem.W.mg_of X G a_all_rings, F_all_rings.binds (ps := p_all_rings) fun _ _ _ _ _ _ us hl => match us, hl with | [_, _], _ => rfl⟩
  have F_need_small := fun_mk (st := s_need_small) l_need_small c_need_small k_need_small
  have D_need_small : Df K mg "need_small" s_need_small p_need_small f_need_small _ := ⟨F_need_small, PySem.W.mg_of X G a_need_small, F_need_small.binds (ps := p_need_small) fun _ _ _ _ _ _ us hl => match us, hl with | [_, _], _ => rfl⟩
  have F_lasting := fun_mk (st := s_lasting) l_lasting c_lasting k_lasting
  have D_lasting : Df K mg "lasting" s_lasting p_lasting f_lasting _ := ⟨F_lasting, PySem.W.mg_of X G a_lasting, F_lasting.binds (ps := p_lasting) fun _ _ _ _ _ _ us hl => match us, hl with | [_, _, _], _ => rfl⟩
  have F_worst_order := fun_mk (st := s_worst_order) l_worst_order c_worst_order k_worst_order
  have D_worst_order : Df K mg "worst_order" s_worst_order p_worst_order f_worst_order _ := ⟨F_worst_order, PySem.W.mg_of X G a_worst_order, F_worst_order.binds (ps := p_worst_order) fun _ _ _ _ _ _ us hl => match us, hl with | [_, _, _], _ => rfl⟩
  have F_worst := fun_mk (st := s_worst) l_worst c_worst k_worst
  have D_worst : Df K mg "worst" s_worst p_worst f_worst _ := ⟨F_worst, PySem.W.mg_of X G a_worst, F_worst.binds (ps := p_worst) fun _ _ _ _ _ _ us hl => match us, hl with | [_, _], _ => rfl⟩
  have F_later_of := fun_mk (st := s_later_of) l_later_of c_later_of k_later_of
  have D_later_of : Df K mg "later_of" s_later_of p_later_of f_later_of _ := ⟨F_later_of, PySem.W.mg_of X G a_later_of, F_later_of.binds (ps := p_later_of) fun _ _ _ _ _ _ us hl => match us, hl with | [_, _, _], _ => rfl⟩
  have F_lasting_rings := fun_mk (st := s_lasting_rings) l_lasting_rings c_lasting_rings k_lasting_rings
  have D_lasting_rings : Df K mg "lasting_rings" s_lasting_rings p_lasting_rings f_lasting_rings _ := ⟨F_lasting_rings, PySem.W.mg_of X G a_lasting_rings, F_lasting_rings.binds (ps := p_lasting_rings) fun _ _ _ _ _ _ us hl => match us, hl with | [_, _], _ => rfl⟩
  have F_never := fun_mk (st := s_never) l_never c_never k_never
  have D_never : Df K mg "never" s_never p_never f_never _ := ⟨F_never, PySem.W.mg_of X G a_never, F_never.binds (ps := p_never) fun _ _ _ _ _ _ us hl => match us, hl with | [_, _], _ => rfl⟩
  have F_law_cell_at := fun_mk (st := s_law_cell_at) l_law_cell_at c_law_cell_at k_law_cell_at
  have D_law_cell_at : Df K mg "_law_cell_at" s_law_cell_at p_law_cell_at f_law_cell_at _ := ⟨F_law_cell_at, PySem.W.mg_of X G a_law_cell_at, F_law_cell_at.binds (ps := p_law_cell_at) fun _ _ _ _ _ _ us hl => match us, hl with | [_, _], _ => rfl⟩
  have F_law_mixed := fun_mk (st := s_law_mixed) l_law_mixed c_law_mixed k_law_mixed
  have D_law_mixed : Df K mg "_law_mixed" s_law_mixed p_law_mixed f_law_mixed _ := ⟨F_law_mixed, PySem.W.mg_of X G a_law_mixed, F_law_mixed.binds (ps := p_law_mixed) fun _ _ _ _ _ _ us hl => match us, hl with | [_, _], _ => rfl⟩
  have F_law_size := fun_mk (st := s_law_size) l_law_size c_law_size k_law_size
  have D_law_size : Df K mg "_law_size" s_law_size p_law_size f_law_size _ := ⟨F_law_size, PySem.W.mg_of X G a_law_size, F_law_size.binds (ps := p_law_size) fun _ _ _ _ _ _ us hl => match us, hl with | [_], _ => rfl⟩
  have F_law_many := fun_mk (st := s_law_many) l_law_many c_law_many k_law_many
  have D_law_many : Df K mg "_law_many" s_law_many p_law_many f_law_many _ := ⟨F_law_many, PySem.W.mg_of X G a_law_many, F_law_many.binds (ps := p_law_many) fun _ _ _ _ _ _ us hl => match us, hl with | [_, _], _ => rfl⟩
  have F_law_ring := fun_mk (st := s_law_ring) l_law_ring c_law_ring k_law_ring
  have D_law_ring : Df K mg "_law_ring" s_law_ring p_law_ring f_law_ring _ := ⟨F_law_ring, PySem.W.mg_of X G a_law_ring, F_law_ring.binds (ps := p_law_ring) fun _ _ _ _ _ _ us hl => match us, hl with | [_, _, _], _ => rfl⟩
  have F_law_pick := fun_mk (st := s_law_pick) l_law_pick c_law_pick k_law_pick
  have D_law_pick : Df K mg "_law_pick" s_law_pick p_law_pick f_law_pick _ := ⟨F_law_pick, PySem.W.mg_of X G a_law_pick, F_law_pick.binds (ps := p_law_pick) fun _ _ _ _ _ _ us hl => match us, hl with | [_, _, _], _ => rfl⟩
  have F_law_order := fun_mk (st := s_law_order) l_law_order c_law_order k_law_order
  have D_law_order : Df K mg "_law_order" s_law_order p_law_order f_law_order _ := ⟨F_law_order, PySem.W.mg_of X G a_law_order, F_law_order.binds (ps := p_law_order) fun _ _ _ _ _ _ us hl => match us, hl with | [_, _, _], _ => rfl⟩
  have F_law_ask := fun_mk (st := s_law_ask) l_law_ask c_law_ask k_law_ask
  have D_law_ask : Df K mg "_law_ask" s_law_ask p_law_ask f_law_ask _ := ⟨F_law_ask, PySem.W.mg_of X G a_law_ask, F_law_ask.binds (ps := p_law_ask) fun _ _ _ _ _ _ us hl => match us, hl with | [_, _, _, _, _], _ => rfl⟩
  have F_law_small := fun_mk (st := s_law_small) l_law_small c_law_small k_law_small
  have D_law_small : Df K mg "_law_small" s_law_small p_law_small f_law_small _ := ⟨F_law_small, PySem.W.mg_of X G a_law_small, F_law_small.binds (ps := p_law_small) fun _ _ _ _ _ _ us hl => match us, hl with | [_, _], _ => rfl⟩
  have F_law := fun_mk (st := s_law) l_law c_law k_law
  have D_law : Df K mg "law" s_law p_law fa _ := ⟨F_law, PySem.W.mg_of X G a_law, F_law.binds (ps := p_law) fun _ _ _ _ _ _ us hl => match us, hl with | [_], _ => rfl⟩
  refine ⟨PySem.W.fnOf "law" "law" (defArgs s_law) (defBody s_law) (defScope s_law) .none kV_law dc_law pm_law an_law cd_law ct_law, fun s v => .of_eq rfl, fun base _ _ => ?_⟩
  have G_law_cell_at := ok_law_cell_at (P := l.prog) (w := w) (base := base) D_law_cell_at B
  have G_law_size := ok_law_size (P := l.prog) (w := w) (base := base) D_law_size B D_law_cell_at G_law_cell_at
  have G_law_many := ok_law_many (P := l.prog) (w := w) (base := base) D_law_many B D_law_cell_at G_law_cell_at
  have G_law_mixed := ok_law_mixed (P := l.prog) (w := w) (base := base) D_law_mixed
  have G_law_ring := ok_law_ring (P := l.prog) (w := w) (base := base) D_law_ring B D_law_cell_at G_law_cell_at D_law_mixed G_law_mixed
  have G_need_machines := ok_need_machines (P := l.prog) (w := w) (base := base) D_need_machines NLEAST NMOST CNoRing
  have G_most := ok_most (P := l.prog) (w := w) (base := base) D_most D_need_machines G_need_machines
  have G_need_numbers := ok_need_numbers (P := l.prog) (w := w) (base := base) D_need_numbers NLEAST NMOST_NUMBERS CNoNumbers
  have G_need_ring := ok_need_ring (P := l.prog) (w := w) (base := base) D_need_ring B CNoRing D_need_numbers G_need_numbers D_need_machines G_need_machines
  have G_may := ok_may (P := l.prog) (w := w) (base := base) D_may
  have G_able_of := ok_able_of (P := l.prog) (w := w) (base := base) D_able_of B D_may G_may
  have G_able := ok_able (P := l.prog) (w := w) (base := base) D_able D_need_ring G_need_ring D_able_of G_able_of
  have G_law_pick := ok_law_pick (P := l.prog) (w := w) (base := base) D_law_pick B D_law_cell_at G_law_cell_at D_law_mixed G_law_mixed
  have G_moved := ok_moved (P := l.prog) (w := w) (base := base) D_moved
  have G_step_of := ok_step_of (P := l.prog) (w := w) (base := base) D_step_of B CNoMachine CNotNow D_may G_may D_moved G_moved
  have G_stepped := ok_stepped (P := l.prog) (w := w) (base := base) D_stepped D_need_ring G_need_ring D_step_of G_step_of
  have G_law_order := ok_law_order (P := l.prog) (w := w) (base := base) D_law_order B D_most G_most D_able G_able D_law_pick G_law_pick D_stepped G_stepped
  have G_gone := ok_gone (P := l.prog) (w := w) (base := base) D_gone D_need_ring G_need_ring D_step_of G_step_of
  have G_next_of := ok_next_of (P := l.prog) (w := w) (base := base) D_next_of B D_able_of G_able_of
  have G_drawn := ok_drawn (P := l.prog) (w := w) (base := base) D_drawn B D_need_ring G_need_ring D_next_of G_next_of D_moved G_moved
  have G_counted := ok_counted (P := l.prog) (w := w) (base := base) D_counted B CNoMachine D_need_machines G_need_machines
  have G_traced := ok_traced (P := l.prog) (w := w) (base := base) D_traced B D_need_ring G_need_ring D_step_of G_step_of
  have G_healing := ok_healing (P := l.prog) (w := w) (base := base) D_healing B CNoNumbers D_need_ring G_need_ring D_most G_most D_able_of G_able_of D_next_of G_next_of D_moved G_moved
  have G_turns := ok_turns (P := l.prog) (w := w) (base := base) D_turns B CNotHealed D_need_ring G_need_ring D_able_of G_able_of
  have G_law_ask := ok_law_ask (P := l.prog) (w := w) (base := base) D_law_ask B D_able G_able D_gone G_gone D_drawn G_drawn D_counted G_counted D_traced G_traced D_healing G_healing D_turns G_turns
  have G_need_small := ok_need_small (P := l.prog) (w := w) (base := base) D_need_small B NMOST_RINGS CTooGreat
  have G_all_rings := ok_all_rings (P := l.prog) (w := w) (base := base) D_all_rings B
  have G_ok_moved2 := ok_moved2 (P := l.prog) (w := w) (base := base) D_moved
  have G_lasting := ok_lasting (P := l.prog) (w := w) (base := base) D_lasting B D_able_of G_able_of D_moved G_ok_moved2
  have G_worst_order := ok_worst_order (P := l.prog) (w := w) (base := base) D_worst_order B D_able_of G_able_of D_moved G_ok_moved2
  have G_worst := ok_worst (P := l.prog) (w := w) (base := base) D_worst B CNoNumbers D_need_numbers G_need_numbers D_need_machines G_need_machines D_need_small G_need_small D_all_rings G_all_rings D_lasting G_lasting D_worst_order G_worst_order
  have G_later_of := ok_later_of (P := l.prog) (w := w) (base := base) D_later_of B D_able_of G_able_of D_moved G_ok_moved2
  have G_lasting_rings := ok_lasting_rings (P := l.prog) (w := w) (base := base) D_lasting_rings B D_able_of G_able_of D_all_rings G_all_rings D_later_of G_later_of
  have G_never := ok_never (P := l.prog) (w := w) (base := base) D_never B D_need_numbers G_need_numbers D_need_machines G_need_machines D_need_small G_need_small D_lasting_rings G_lasting_rings D_later_of G_later_of D_moved G_ok_moved2
  have G_law_small := ok_law_small (P := l.prog) (w := w) (base := base) D_law_small D_law_cell_at G_law_cell_at D_worst G_worst D_never G_never
  exact ok_law D_law B D_law_size G_law_size D_law_many G_law_many D_law_ring G_law_ring D_law_order G_law_order D_law_ask G_law_ask D_law_small G_law_small
end HW
open PySem PySem.W PyProof.Rows
set_option maxRecDepth 100000 in
set_option maxHeartbeats 0 in
theorem PySem.Challenge.cw_healring_k14_lists_told_anew_holds : PySem.Challenge.rw_healring_k14_lists_told_anew.Holds := by
  w_on; o_law; k_head; (case hw => w_witness2)
  k_fill
  refine L2.walk_of (l := PySem.Challenge.rw_healring_k14_lists_told_anew) (n := 63) (k := 24) (x := "_law_script") (CX := fun w => L2N.CX (PySem.Challenge.rw_healring_k14_lists_told_anew).prog w) (sp := fun w => HW.sp_law _) rfl (by decide) rfl ⟨rfl, by decide, by decide⟩ (fun w h Y => PySem.W.kIn_of Y) ?F (fun _ _ a ns hl _ hS => ⟨a, ns, rfl, hS, fun _ => rfl⟩) (fun _ _ _ _ _ h => by obtain ⟨_, _, _, _, _, _, _, _, _, _, _, _, z⟩ := h; exact z)
  case F =>
    intro w mg fa h KX G hmg
    refine' HW.all_mk KX G hmg ?a_need_numbers ?l_need_numbers ?c_need_numbers ?k_need_numbers ?a_need_machines ?l_need_machines ?c_need_machines ?k_need_machines ?a_need_ring ?l_need_ring ?c_need_ring ?k_need_ring ?a_may ?l_may ?c_may ?k_may ?a_able_of ?l_able_of ?c_able_of ?k_able_of ?a_able ?l_able ?c_able ?k_able ?a_moved ?l_moved ?c_moved ?k_moved ?a_step_of ?l_step_of ?c_step_of ?k_step_of ?a_stepped ?l_stepped ?c_stepped ?k_stepped ?a_gone ?l_gone ?c_gone ?k_gone ?a_next_of ?l_next_of ?c_next_of ?k_next_of ?a_drawn ?l_drawn ?c_drawn ?k_drawn ?a_counted ?l_counted ?c_counted ?k_counted ?a_traced ?l_traced ?c_traced ?k_traced ?a_healing ?l_healing ?c_healing ?k_healing ?a_most ?l_most ?c_most ?k_most ?a_turns ?l_turns ?c_turns ?k_turns ?a_all_rings ?l_all_rings ?c_all_rings ?k_all_rings ?a_need_small ?l_need_small ?c_need_small ?k_need_small ?a_lasting ?l_lasting ?c_lasting ?k_lasting ?a_worst_order ?l_worst_order ?c_worst_order ?k_worst_order ?a_worst ?l_worst ?c_worst ?k_worst ?a_later_of ?l_later_of ?c_later_of ?k_later_of ?a_lasting_rings ?l_lasting_rings ?c_lasting_rings ?k_lasting_rings ?a_never ?l_never ?c_never ?k_never ?a_law_cell_at ?l_law_cell_at ?c_law_cell_at ?k_law_cell_at ?a_law_mixed ?l_law_mixed ?c_law_mixed ?k_law_mixed ?a_law_size ?l_law_size ?c_law_size ?k_law_size ?a_law_many ?l_law_many ?c_law_many ?k_law_many ?a_law_ring ?l_law_ring ?c_law_ring ?k_law_ring ?a_law_pick ?l_law_pick ?c_law_pick ?k_law_pick ?a_law_order ?l_law_order ?c_law_order ?k_law_order ?a_law_ask ?l_law_ask ?c_law_ask ?k_law_ask ?a_law_small ?l_law_small ?c_law_small ?k_law_small ?a_law ?l_law ?c_law ?k_law ?g_HealError ?x_HealError ?k_HealError ?b_HealError ?t_HealError ?g_NoNumbers ?x_NoNumbers ?k_NoNumbers ?b_NoNumbers ?t_NoNumbers ?g_NoRing ?x_NoRing ?k_NoRing ?b_NoRing ?t_NoRing ?g_NoMachine ?x_NoMachine ?k_NoMachine ?b_NoMachine ?t_NoMachine ?g_NotNow ?x_NotNow ?k_NotNow ?b_NotNow ?t_NotNow ?g_NotHealed ?x_NotHealed ?k_NotHealed ?b_NotHealed ?t_NotHealed ?g_TooGreat ?x_TooGreat ?k_TooGreat ?b_TooGreat ?t_TooGreat ?n_LEAST ?n_MOST ?n_MOST_NUMBERS ?n_MOST_RINGS ?z_len ?z_range ?z_min ?z_max ?z_isinstance ?z_int ?z_bool ?z_tuple ?z_list ?z_sorted ?z_abs ?z_ValueError
    (case a_need_numbers => k_is)
    (case l_need_numbers => k_is)
    (case c_need_numbers => k_is)
    (case k_need_numbers => k_is)
    (case a_need_machines => k_is)
    (case l_need_machines => k_is)
    (case c_need_machines => k_is)
    (case k_need_machines => k_is)
    (case a_need_ring => k_is)
    (case l_need_ring => k_is)
    (case c_need_ring => k_is)
    (case k_need_ring => k_is)
    (case a_may => k_is)
    (case l_may => k_is)
    (case c_may => k_is)
    (case k_may => k_is)
    (case a_able_of => k_is)
    (case l_able_of => k_is)
    (case c_able_of => k_is)
    (case k_able_of => k_is)
    (case a_able => k_is)
    (case l_able => k_is)
    (case c_able => k_is)
    (case k_able => k_is)
    (case a_moved => k_is)
    (case l_moved => k_is)
    (case c_moved => k_is)
    (case k_moved => k_is)
    (case a_step_of => k_is)
    (case l_step_of => k_is)
    (case c_step_of => k_is)
    (case k_step_of => k_is)
    (case a_stepped => k_is)
    (case l_stepped => k_is)
    (case c_stepped => k_is)
    (case k_stepped => k_is)
    (case a_gone => k_is)
    (case l_gone => k_is)
    (case c_gone => k_is)
    (case k_gone => k_is)
    (case a_next_of => k_is)
    (case l_next_of => k_is)
    (case c_next_of => k_is)
    (case k_next_of => k_is)
    (case a_drawn => k_is)
    (case l_drawn => k_is)
    (case c_drawn => k_is)
    (case k_drawn => k_is)
    (case a_counted => k_is)
    (case l_counted => k_is)
    (case c_counted => k_is)
    (case k_counted => k_is)
    (case a_traced => k_is)
    (case l_traced => k_is)
    (case c_traced => k_is)
    (case k_traced => k_is)
    (case a_healing => k_is)
    (case l_healing => k_is)
    (case c_healing => k_is)
    (case k_healing => k_is)
    (case a_most => k_is)
    (case l_most => k_is)
    (case c_most => k_is)
    (case k_most => k_is)
    (case a_turns => k_is)
    (case l_turns => k_is)
    (case c_turns => k_is)
    (case k_turns => k_is)
    (case a_all_rings => k_is)
    (case l_all_rings => k_is)
    (case c_all_rings => k_is)
    (case k_all_rings => k_is)
    (case a_need_small => k_is)
    (case l_need_small => k_is)
    (case c_need_small => k_is)
    (case k_need_small => k_is)
    (case a_lasting => k_is)
    (case l_lasting => k_is)
    (case c_lasting => k_is)
    (case k_lasting => k_is)
    (case a_worst_order => k_is)
    (case l_worst_order => k_is)
    (case c_worst_order => k_is)
    (case k_worst_order => k_is)
    (case a_worst => k_is)
    (case l_worst => k_is)
    (case c_worst => k_is)
    (case k_worst => k_is)
    (case a_later_of => k_is)
    (case l_later_of => k_is)
    (case c_later_of => k_is)
    (case k_later_of => k_is)
    (case a_lasting_rings => k_is)
    (case l_lasting_rings => k_is)
    (case c_lasting_rings => k_is)
    (case k_lasting_rings => k_is)
    (case a_never => k_is)
    (case l_never => k_is)
    (case c_never => k_is)
    (case k_never => k_is)
    (case a_law_cell_at => k_is)
    (case l_law_cell_at => k_is)
    (case c_law_cell_at => k_is)
    (case k_law_cell_at => k_is)
    (case a_law_mixed => k_is)
    (case l_law_mixed => k_is)
    (case c_law_mixed => k_is)
    (case k_law_mixed => k_is)
    (case a_law_size => k_is)
    (case l_law_size => k_is)
    (case c_law_size => k_is)
    (case k_law_size => k_is)
    (case a_law_many => k_is)
    (case l_law_many => k_is)
    (case c_law_many => k_is)
    (case k_law_many => k_is)
    (case a_law_ring => k_is)
    (case l_law_ring => k_is)
    (case c_law_ring => k_is)
    (case k_law_ring => k_is)
    (case a_law_pick => k_is)
    (case l_law_pick => k_is)
    (case c_law_pick => k_is)
    (case k_law_pick => k_is)
    (case a_law_order => k_is)
    (case l_law_order => k_is)
    (case c_law_order => k_is)
    (case k_law_order => k_is)
    (case a_law_ask => k_is)
    (case l_law_ask => k_is)
    (case c_law_ask => k_is)
    (case k_law_ask => k_is)
    (case a_law_small => k_is)
    (case l_law_small => k_is)
    (case c_law_small => k_is)
    (case k_law_small => k_is)
    (case a_law => k_is)
    (case l_law => k_is)
    (case c_law => k_is)
    (case k_law => k_is)
    (case g_HealError => k_is)
    (case x_HealError => k_exc)
    (case k_HealError => k_is)
    (case b_HealError => k_is)
    (case t_HealError => k_is)
    (case g_NoNumbers => k_is)
    (case x_NoNumbers => k_exc)
    (case k_NoNumbers => k_is)
    (case b_NoNumbers => k_is)
    (case t_NoNumbers => k_is)
    (case g_NoRing => k_is)
    (case x_NoRing => k_exc)
    (case k_NoRing => k_is)
    (case b_NoRing => k_is)
    (case t_NoRing => k_is)
    (case g_NoMachine => k_is)
    (case x_NoMachine => k_exc)
    (case k_NoMachine => k_is)
    (case b_NoMachine => k_is)
    (case t_NoMachine => k_is)
    (case g_NotNow => k_is)
    (case x_NotNow => k_exc)
    (case k_NotNow => k_is)
    (case b_NotNow => k_is)
    (case t_NotNow => k_is)
    (case g_NotHealed => k_is)
    (case x_NotHealed => k_exc)
    (case k_NotHealed => k_is)
    (case b_NotHealed => k_is)
    (case t_NotHealed => k_is)
    (case g_TooGreat => k_is)
    (case x_TooGreat => k_exc)
    (case k_TooGreat => k_is)
    (case b_TooGreat => k_is)
    (case t_TooGreat => k_is)
    (case n_LEAST => k_is)
    (case n_MOST => k_is)
    (case n_MOST_NUMBERS => k_is)
    (case n_MOST_RINGS => k_is)
    (case z_len => k_is)
    (case z_range => k_is)
    (case z_min => k_is)
    (case z_max => k_is)
    (case z_isinstance => k_is)
    (case z_int => k_is)
    (case z_bool => k_is)
    (case z_tuple => k_is)
    (case z_list => k_is)
    (case z_sorted => k_is)
    (case z_abs => k_is)
    (case z_ValueError => k_is)
#print axioms PySem.Challenge.cw_healring_k14_lists_told_anew_holds

