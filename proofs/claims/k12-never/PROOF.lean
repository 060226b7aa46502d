import PyProof.Rows.All
import Wide.All
import OpenK.AllK
import Wide.FinOn
import HandS.ForMost
import HandS.ForExc
import HandS.TupAny
import HandS.TupMul
import HandS.IsInst
import HandS.Conv
import HandS.SetFor
import HandS.ExcCtx
import HandS.HotCalls
import HandS.ExcIs
import HandS.Style
import HandS.SortInts
import KE.DatumOrd
import PyProof.DictTruth
import HandS.DictTup
import HandS.Dict
import HandS.TupLen
import HandS.Walk
import HandS.ForDict
import PyProof.P3Eq
import HandS.Deep
import KE.RegKIsAll
import PySem.Challenge.RW_healring_k12_never
set_option Elab.async false
set_option linter.all false
set_option maxRecDepth 100000
set_option maxHeartbeats 4000000
namespace HR
/-- the value of machine k -/
abbrev at0 (r : List Int) (k : Nat) : Int := r.getD k 0
def may (r : List Int) (k : Nat) : Bool :=
  if k = 0 then decide (at0 r 0 = at0 r (r.length - 1)) else decide (¬ at0 r k = at0 r (k - 1))
def able (r : List Int) : List Nat := (List.range r.length).filter (may r)
def moved (m : Int) (r : List Int) (k : Nat) : List Int :=
  r.set k (if k = 0 then (at0 r 0 + 1) % m else at0 r (k - 1))
structure Ring (n : Nat) (m : Int) (r : List Int) : Prop where
  len : r.length = n
  n2 : 2 ≤ n
  m2 : 2 ≤ m
  lo : ∀ k, k < n → 0 ≤ at0 r k
  hi : ∀ k, k < n → at0 r k < m

theorem at0_set {r : List Int} {k j : Nat} {v : Int} (h : k < r.length) : at0 (r.set k v) j = if j = k then v else at0 r j := by
  unfold at0
  rw [List.getD_eq_getElem?_getD, List.getD_eq_getElem?_getD, List.getElem?_set]
  by_cases e : j = k
  · subst e; simp [h]
  · have e2 : ¬ k = j := fun q => e q.symm
    simp [e, e2]

theorem moved_len (m : Int) (r : List Int) (k : Nat) : (moved m r k).length = r.length := by
  unfold moved; exact List.length_set

theorem at0_moved {m : Int} {r : List Int} {k j : Nat} (h : k < r.length) :
    at0 (moved m r k) j = if j = k then (if k = 0 then (at0 r 0 + 1) % m else at0 r (k - 1)) else at0 r j := by
  unfold moved; exact at0_set h

theorem Ring.moved {n : Nat} {m : Int} {r : List Int} (R : Ring n m r) {k : Nat} (hk : k < n) : Ring n m (moved m r k) := by
  have hl : k < r.length := by rw [R.len]; exact hk
  have hm : 0 < m := by have := R.m2; omega
  refine ⟨by rw [moved_len, R.len], R.n2, R.m2, fun j hj => ?_, fun j hj => ?_⟩
  · rw [at0_moved hl]
    split
    · split
      · exact Int.emod_nonneg _ (by omega)
      · exact R.lo _ (by omega)
    · exact R.lo _ hj
  · rw [at0_moved hl]
    split
    · split
      · exact Int.emod_lt_of_pos _ hm
      · exact R.hi _ (by omega)
    · exact R.hi _ hj

theorem mem_able {r : List Int} {k : Nat} : k ∈ able r ↔ k < r.length ∧ may r k = true := by
  unfold able; rw [List.mem_filter, List.mem_range]

theorem may_zero {r : List Int} : may r 0 = true ↔ at0 r 0 = at0 r (r.length - 1) := by
  unfold may; simp
theorem may_pos {r : List Int} {k : Nat} (h : 0 < k) : may r k = true ↔ ¬ at0 r k = at0 r (k - 1) := by
  unfold may; rw [if_neg (by omega)]; simp

/-- all equal up to k, where none of 1 .. k may step -/
theorem alike_of {r : List Int} : ∀ k, (∀ j, 0 < j → j ≤ k → may r j = false) → at0 r k = at0 r 0
  | 0, _ => rfl
  | k + 1, h => by
    have ih := alike_of k fun j h1 h2 => h j h1 (by omega)
    have q := h (k + 1) (by omega) (Nat.le_refl _)
    by_cases e : at0 r (k + 1) = at0 r k
    · rw [e, ih]
    · have := (may_pos (r := r) (k := k + 1) (by omega)).mpr (by simpa using e)
      rw [q] at this; cases this

theorem able_ne {r : List Int} (h : 0 < r.length) : able r ≠ [] := by
  intro e
  have no : ∀ k, k < r.length → may r k = false := fun k hk => by
    cases q : may r k with
    | false => rfl
    | true =>
      have : k ∈ able r := mem_able.mpr ⟨hk, q⟩
      rw [e] at this; cases this
  have a := alike_of (r := r) (r.length - 1) fun j _ h2 => no j (by omega)
  have b := may_zero.mpr a.symm
  rw [no 0 h] at b; cases b

theorem able_pos {r : List Int} (h : 0 < r.length) : 0 < (able r).length := by
  cases e : able r with
  | nil => exact absurd e (able_ne h)
  | cons _ _ => simp

theorem nodup_able (r : List Int) : (able r).Nodup := List.Nodup.sublist List.filter_sublist List.nodup_range

/-- a list without doubles whose members are just k -/
theorem one_of {l : List Nat} {k : Nat} (nd : l.Nodup) (h : ∀ j, j ∈ l ↔ j = k) : l = [k] := by
  match l, nd, h with
  | [], _, h => have := (h k).mpr rfl; cases this
  | [a], _, h => have := (h a).mp (by simp); rw [this]
  | a :: b :: t, nd, h =>
    have e1 := (h a).mp (by simp)
    have e2 := (h b).mp (by simp)
    rw [e1, e2] at nd
    simp at nd

theorem able_one {r : List Int} {k : Nat} (hk : k < r.length) (h : ∀ j, j < r.length → (may r j = true ↔ j = k)) : able r = [k] := by
  refine one_of (nodup_able r) fun j => ?_
  rw [mem_able]
  constructor
  · intro ⟨a, b⟩; exact (h j a).mp b
  · intro e; subst e; exact ⟨hk, (h _ hk).mpr rfl⟩

theorem may_moved_self {n : Nat} {m : Int} {r : List Int} (R : Ring n m r) {k : Nat} (hk : k < n) (hm : may r k = true) : may (HR.moved m r k) k = false := by
  have hl : k < r.length := by rw [R.len]; exact hk
  have n2 := R.n2
  have m2 := R.m2
  cases q : may (HR.moved m r k) k with
  | false => rfl
  | true =>
    by_cases e : k = 0
    · subst e
      have a := may_zero.mp q
      rw [moved_len, at0_moved hl, at0_moved hl, if_pos rfl, if_pos rfl, if_neg (by rw [R.len]; omega)] at a
      have b := may_zero.mp hm
      rw [← b] at a
      have lo := R.lo 0 hk
      have hi := R.hi 0 hk
      exfalso
      by_cases c : at0 r 0 + 1 = m
      · rw [c, Int.emod_self] at a; omega
      · rw [Int.emod_eq_of_lt (by omega) (by omega)] at a; omega
    · have a := (may_pos (by omega)).mp q
      rw [at0_moved hl, at0_moved hl, if_pos rfl, if_neg e, if_neg (by omega)] at a
      exact absurd rfl a

/-- the machine behind k -/
def nxt (n k : Nat) : Nat := if k + 1 = n then 0 else k + 1
theorem nxt_lt {n k : Nat} (h : k < n) : nxt n k < n := by unfold nxt; split <;> omega

theorem may_moved_other {n : Nat} {m : Int} {r : List Int} (R : Ring n m r) {k j : Nat} (hk : k < n) (hj : j < n) (h1 : j ≠ k) (h2 : j ≠ nxt n k) : may (HR.moved m r k) j = may r j := by
  have hl : k < r.length := by rw [R.len]; exact hk
  have n2 := R.n2
  unfold nxt at h2
  unfold may
  by_cases e : j = 0
  · subst e
    rw [if_pos rfl, if_pos rfl, moved_len, at0_moved hl, at0_moved hl, if_neg h1, if_neg]
    rw [R.len]
    intro q
    rw [if_pos (by omega)] at h2
    exact h2 rfl
  · rw [if_neg e, if_neg e, at0_moved hl, at0_moved hl, if_neg h1, if_neg]
    intro q
    split at h2 <;> omega

theorem able_moved_one {n : Nat} {m : Int} {r : List Int} (R : Ring n m r) {k : Nat} (h : able r = [k]) : able (HR.moved m r k) = [nxt n k] ∧ k < n ∧ may r k = true := by
  have hk : k ∈ able r := by rw [h]; simp
  obtain ⟨hl, hm⟩ := mem_able.mp hk
  have hn : k < n := by rw [← R.len]; exact hl
  have R' := R.moved hn
  refine ⟨?_, hn, hm⟩
  have only : ∀ j, j ∈ able (HR.moved m r k) → j = nxt n k := fun j hj => by
    obtain ⟨a, b⟩ := mem_able.mp hj
    rw [moved_len, R.len] at a
    by_cases e2 : j = nxt n k
    · exact e2
    · by_cases e1 : j = k
      · subst e1
        rw [may_moved_self R hn hm] at b; cases b
      · rw [may_moved_other R hn a e1 e2] at b
        have : j ∈ able r := mem_able.mpr ⟨by rw [R.len]; exact a, b⟩
        rw [h] at this
        exact absurd (by simpa using this) e1
  have ne : able (HR.moved m r k) ≠ [] := able_ne (by rw [R'.len]; have := R.n2; omega)
  refine one_of (nodup_able _) fun j => ⟨only j, fun e => ?_⟩
  subst e
  cases q : able (HR.moved m r k) with
  | nil => exact absurd q ne
  | cons a t =>
    have := only a (by rw [q]; simp)
    rw [← this]; simp

/-- an order that can be gone from r, and where it leads -/
inductive Ex (n : Nat) (m : Int) (r : List Int) : List Nat → List Int → Prop
  | nil : Ex n m r [] r
  | snoc {ks : List Nat} {r' : List Int} {k : Nat} : Ex n m r ks r' → k < n → may r' k = true → Ex n m r (ks ++ [k]) (moved m r' k)

theorem Ex.ring {n : Nat} {m : Int} {r r' : List Int} {ks : List Nat} (R : Ring n m r) (x : Ex n m r ks r') : Ring n m r' := by
  induction x with
  | nil => exact R
  | snoc _ hk _ ih => exact ih.moved hk

theorem count_snoc (ks : List Nat) (k j : Nat) : (ks ++ [k]).count j = ks.count j + (if k = j then 1 else 0) := by
  rw [List.count_append, List.count_singleton]
  by_cases e : k = j <;> simp [e]

theorem Ex.cnt {n : Nat} {m : Int} {r r' : List Int} {ks : List Nat} (R : Ring n m r) (x : Ex n m r ks r') :
    ∀ k, 0 < k → k < n → ks.count k ≤ ks.count (k - 1) + 1 ∧ (ks.count k = ks.count (k - 1) + 1 → at0 r' k = at0 r' (k - 1)) := by
  induction x with
  | nil => intro k h1 h2; simp
  | @snoc ks r' i x hi hm ih =>
    intro k h1 h2
    have R' := x.ring R
    have hl : i < r'.length := by rw [R'.len]; exact hi
    obtain ⟨a, b⟩ := ih k h1 h2
    rw [count_snoc, count_snoc, at0_moved hl, at0_moved hl]
    by_cases e : i = k
    · subst e
      have z := (may_pos h1).mp hm
      rw [if_pos rfl, if_neg (show ¬ i = i - 1 by omega), if_pos rfl, if_neg (show ¬ i = 0 by omega), if_neg (show ¬ i - 1 = i by omega)]
      refine ⟨?_, fun _ => rfl⟩
      have : ¬ ks.count i = ks.count (i - 1) + 1 := fun q => z (b q)
      omega
    · rw [if_neg e, if_neg (show ¬ k = i from fun q => e q.symm)]
      by_cases e2 : i = k - 1
      · rw [if_pos e2]
        constructor
        · omega
        · intro q; exfalso; omega
      · rw [if_neg e2, if_neg (show ¬ k - 1 = i from fun q => e2 q.symm)]
        exact ⟨by omega, fun q => b (by omega)⟩

/-- no list without doubles is longer than one that holds its members -/
theorem le_of_sub {α : Type} [BEq α] [LawfulBEq α] : ∀ (l m : List α), l.Nodup → (∀ x ∈ l, x ∈ m) → l.length ≤ m.length
  | [], _, _, _ => Nat.zero_le _
  | a :: l, m, nd, h => by
    have ha := h a (by simp)
    have q := le_of_sub l (m.erase a) (List.nodup_cons.mp nd).2 fun x hx => by
      have ne : x ≠ a := fun e => (List.nodup_cons.mp nd).1 (e ▸ hx)
      exact (List.mem_erase_of_ne ne).mpr (h x (by simp [hx]))
    have e := List.length_erase_of_mem ha
    have pos : 0 < m.length := List.length_pos_of_mem ha
    rw [List.length_cons]
    omega

theorem emod_inj {m a : Int} {i j : Nat} (hi : (i : Int) < m) (hj : (j : Int) < m) (e : (a + i) % m = (a + j) % m) : i = j := by
  have h : (a + i - (a + j)) % m = 0 := Int.emod_eq_emod_iff_emod_sub_eq_zero.mp e
  have h2 : m ∣ (a + i - (a + j)) := Int.dvd_of_emod_eq_zero h
  obtain ⟨c, hc⟩ := h2
  have : (i : Int) - j = m * c := by omega
  by_cases c0 : c = 0
  · rw [c0] at this; omega
  · exfalso
    by_cases cp : 0 < c
    · have : m * 1 ≤ m * c := Int.mul_le_mul_of_nonneg_left (by omega) (by omega)
      omega
    · have : m * c ≤ m * (-1) := Int.mul_le_mul_of_nonneg_left (by omega) (by omega)
      omega

/-- a number that machine 0 comes to within n - 1 steps and that none of the others holds -/
theorem fresh {n : Nat} {m : Int} {r : List Int} (R : Ring n m r) (hm : (n : Int) ≤ m) : ∃ j, j < n ∧ ∀ i, 0 < i → i < n → at0 r i ≠ (at0 r 0 + j) % m := by
  have n2 := R.n2
  apply Classical.byContradiction
  intro no
  have all : ∀ j, j < n → ∃ i, 0 < i ∧ i < n ∧ at0 r i = (at0 r 0 + j) % m := fun j hj => by
    apply Classical.byContradiction
    intro q
    exact no ⟨j, hj, fun i h1 h2 e => q ⟨i, h1, h2, e⟩⟩
  let L : List Int := (List.range n).map fun (j : Nat) => (at0 r 0 + (j : Int)) % m
  have nd : L.Nodup := by
    refine List.nodup_iff_pairwise_ne.mpr ?_
    refine List.pairwise_map.mpr ?_
    refine List.Pairwise.imp_of_mem (R := fun a b => a ≠ b) (fun {a b} ha hb h e => ?_) (List.nodup_iff_pairwise_ne.mp List.nodup_range)
    have ha := List.mem_range.mp ha
    have hb := List.mem_range.mp hb
    exact h (emod_inj (by omega) (by omega) e)
  have sub : ∀ x ∈ L, x ∈ r.tail := fun x hx => by
    obtain ⟨j, hj, rfl⟩ := List.mem_map.mp hx
    obtain ⟨i, h1, h2, e⟩ := all j (List.mem_range.mp hj)
    rw [← e]
    have hl : i < r.length := by rw [R.len]; exact h2
    match r, i, h1, hl with
    | a :: t, i + 1, _, hl =>
      show (a :: t).getD (i + 1) 0 ∈ t
      have hlt : i < t.length := by simpa using hl
      rw [List.getD_cons_succ, List.getD_eq_getElem?_getD, List.getElem?_eq_getElem hlt]
      exact List.getElem_mem hlt
  have z := le_of_sub L r.tail nd sub
  rw [List.length_map, List.length_range, List.length_tail, R.len] at z
  omega

/-- an order each of whose steps is taken in a ring that is not healed -/
inductive Un (n : Nat) (m : Int) (r : List Int) : List Nat → List Int → Prop
  | nil : Un n m r [] r
  | snoc {ks : List Nat} {r' : List Int} {k : Nat} : Un n m r ks r' → k < n → may r' k = true → (able r').length ≠ 1 → Un n m r (ks ++ [k]) (moved m r' k)
theorem Un.ex {n : Nat} {m : Int} {r r' : List Int} {ks : List Nat} (x : Un n m r ks r') : Ex n m r ks r' := by
  induction x with
  | nil => exact .nil
  | snoc _ h1 h2 _ ih => exact ih.snoc h1 h2

theorem healed_alike {n : Nat} {m : Int} {r : List Int} (R : Ring n m r) (h : ∀ i, i < n → at0 r i = at0 r 0) : (able r).length = 1 := by
  have n2 := R.n2
  rw [able_one (k := 0) (by rw [R.len]; omega) fun j hj => ?_]
  · rfl
  · rw [R.len] at hj
    constructor
    · intro q
      apply Classical.byContradiction
      intro ne
      have := (may_pos (by omega)).mp q
      rw [h j hj, h (j - 1) (by omega)] at this
      exact this rfl
    · intro e
      subst e
      exact may_zero.mpr (by rw [R.len, h (n - 1) (by omega)])

theorem Un.zero {n : Nat} {m : Int} {r r' : List Int} {ks : List Nat} (R : Ring n m r) (hm : (n : Int) ≤ m) (x : Un n m r ks r') : ks.count 0 < n := by
  obtain ⟨j, hj, hf⟩ := fresh R hm
  have n2 := R.n2
  have key : ks.count 0 ≤ j ∧ at0 r' 0 = (at0 r 0 + (ks.count 0 : Nat)) % m ∧
      ((ks.count 0 < j ∧ ∀ i, i < n → at0 r' i ≠ (at0 r 0 + j) % m) ∨ (ks.count 0 = j ∧ ∃ p, 0 < p ∧ p ≤ n ∧ (∀ i, i < p → at0 r' i = (at0 r 0 + j) % m) ∧ ∀ i, p ≤ i → i < n → at0 r' i ≠ (at0 r 0 + j) % m)) := by
    have lo := R.lo 0 (by omega)
    have hi := R.hi 0 (by omega)
    induction x with
    | nil =>
      have e0 : at0 r 0 = (at0 r 0 + ((([] : List Nat).count 0 : Nat) : Int)) % m := by
        show _ = (at0 r 0 + 0) % m
        rw [Int.add_zero, Int.emod_eq_of_lt lo hi]
      refine ⟨Nat.zero_le _, e0, ?_⟩
      by_cases c : j = 0
      · refine .inr ⟨c.symm, 1, by omega, by omega, fun i hi => ?_, fun i h1 h2 => hf i (by omega) h2⟩
        have : i = 0 := by omega
        rw [this, c]; exact e0
      · refine .inl ⟨by show 0 < j; omega, fun i hi => ?_⟩
        by_cases ci : i = 0
        · rw [ci]
          intro q
          have q2 : (at0 r 0 + ((0 : Nat) : Int)) % m = (at0 r 0 + (j : Int)) % m := e0.symm.trans q
          have := emod_inj (by omega) (by omega) q2
          omega
        · exact hf i (by omega) hi
    | @snoc ks r' k x hk hmay hun ih =>
      have R' := x.ex.ring R
      have hl : k < r'.length := by rw [R'.len]; exact hk
      obtain ⟨a, b, c⟩ := ih
      rw [count_snoc]
      by_cases k0 : k = 0
      · subst k0
        rw [if_pos rfl]
        have e1 : at0 (HR.moved m r' 0) 0 = (at0 r 0 + ((ks.count 0 + 1 : Nat) : Int)) % m := by
          rw [at0_moved hl, if_pos rfl, if_pos rfl, b, Int.emod_add_emod]
          congr 1; omega
        rcases c with ⟨c1, c2⟩ | ⟨c1, p, p1, p2, p3, p4⟩
        · refine ⟨by omega, e1, ?_⟩
          by_cases cj : ks.count 0 + 1 = j
          · refine .inr ⟨cj, 1, by omega, by omega, fun i hi => ?_, fun i h1 h2 => ?_⟩
            · have : i = 0 := by omega
              rw [this, e1, cj]
            · rw [at0_moved hl, if_neg (by omega)]; exact c2 i h2
          · refine .inl ⟨by omega, fun i hi => ?_⟩
            by_cases ci : i = 0
            · rw [ci, e1]
              intro q
              have := emod_inj (by omega) (by omega) q
              omega
            · rw [at0_moved hl, if_neg ci]; exact c2 i hi
        · exfalso
          have z := may_zero.mp hmay
          rw [R'.len] at z
          have z0 := p3 0 p1
          have pn : p = n := by
            apply Classical.byContradiction
            intro ne
            have := p4 (n - 1) (by omega) (by omega)
            rw [← z, z0] at this
            exact this rfl
          subst pn
          exact hun (healed_alike R' fun i hi => by rw [p3 i hi, z0])
      · rw [if_neg k0, Nat.add_zero]
        have e1 : at0 (HR.moved m r' k) 0 = at0 r' 0 := by rw [at0_moved hl, if_neg (by omega)]
        refine ⟨a, by rw [e1]; exact b, ?_⟩
        rcases c with ⟨c1, c2⟩ | ⟨c1, p, p1, p2, p3, p4⟩
        · refine .inl ⟨c1, fun i hi => ?_⟩
          rw [at0_moved hl]
          by_cases ci : i = k
          · rw [if_pos ci, if_neg k0]; exact c2 _ (by omega)
          · rw [if_neg ci]; exact c2 i hi
        · have mk := (may_pos (by omega)).mp hmay
          have hkp : p ≤ k := by
            apply Classical.byContradiction
            intro q
            rw [p3 k (by omega), p3 (k - 1) (by omega)] at mk
            exact mk rfl
          by_cases ck : k = p
          · refine .inr ⟨c1, p + 1, by omega, by omega, fun i hi => ?_, fun i h1 h2 => ?_⟩
            · rw [at0_moved hl]
              by_cases ci : i = k
              · rw [if_pos ci, if_neg k0]; exact p3 _ (by omega)
              · rw [if_neg ci]; exact p3 _ (by omega)
            · rw [at0_moved hl, if_neg (by omega)]; exact p4 i (by omega) h2
          · refine .inr ⟨c1, p, p1, p2, fun i hi => ?_, fun i h1 h2 => ?_⟩
            · rw [at0_moved hl, if_neg (by omega)]; exact p3 i hi
            · rw [at0_moved hl]
              by_cases ci : i = k
              · rw [if_pos ci, if_neg k0]; exact p4 _ (by omega) (by omega)
              · rw [if_neg ci]; exact p4 i h1 h2
  omega

theorem sum_ind (x : Nat) : ∀ n, ((List.range n).map fun k => if x = k then 1 else 0).sum = if x < n then 1 else 0
  | 0 => by simp
  | n + 1 => by
    rw [List.range_succ, List.map_append, List.sum_append, sum_ind x n]
    simp only [List.map_cons, List.map_nil, List.sum_cons, List.sum_nil]
    by_cases a : x < n
    · rw [if_pos a, if_neg (by omega), if_pos (by omega)]; rfl
    · rw [if_neg a]
      by_cases b : x = n
      · rw [if_pos b, if_pos (by omega)]; rfl
      · rw [if_neg b, if_neg (by omega)]; rfl

theorem sum_add (f g : Nat → Nat) : ∀ l : List Nat, (l.map fun k => f k + g k).sum = (l.map f).sum + (l.map g).sum
  | [] => rfl
  | a :: l => by simp only [List.map_cons, List.sum_cons, sum_add f g l]; omega

theorem len_counts (n : Nat) : ∀ ks : List Nat, (∀ x ∈ ks, x < n) → ks.length = ((List.range n).map fun k => ks.count k).sum
  | [], _ => by
    have : ∀ l : List Nat, (l.map fun k => ([] : List Nat).count k).sum = 0 := fun l => by
      induction l with
      | nil => rfl
      | cons a l ih => rw [List.map_cons, List.sum_cons, ih]; rfl
    rw [this]; rfl
  | x :: ks, h => by
    have ih := len_counts n ks fun y hy => h y (by simp [hy])
    have e : (fun k => (x :: ks).count k) = fun k => ks.count k + if x = k then 1 else 0 := by
      funext k
      rw [List.count_cons]
      by_cases q : x = k <;> simp [q]
    rw [e, sum_add, ← ih, sum_ind, if_pos (h x (by simp)), List.length_cons]

theorem sum_le {f : Nat → Nat} {c : Nat} : ∀ n, (∀ k, k < n → f k ≤ c + k) → 2 * ((List.range n).map f).sum + n ≤ 2 * (n * c) + n * n
  | 0, _ => by simp
  | n + 1, h => by
    have ih := sum_le n fun k hk => h k (by omega)
    have q := h n (by omega)
    rw [List.range_succ, List.map_append, List.sum_append]
    simp only [List.map_cons, List.map_nil, List.sum_cons, List.sum_nil]
    have e1 : (n + 1) * c = n * c + c := Nat.succ_mul n c
    have e2 : (n + 1) * (n + 1) = n * n + n + n + 1 := by rw [Nat.succ_mul, Nat.mul_succ]; omega
    rw [e1, e2]
    omega

theorem Ex.small {n : Nat} {m : Int} {r r' : List Int} {ks : List Nat} (x : Ex n m r ks r') : ∀ k ∈ ks, k < n := by
  induction x with
  | nil => intro k hk; cases hk
  | snoc _ h _ ih =>
    intro k hk
    rcases List.mem_append.mp hk with q | q
    · exact ih k q
    · rw [List.mem_singleton.mp q]; exact h

def most (n : Nat) : Nat := 3 * n * (n - 1) / 2

theorem two_most (n : Nat) : 2 * most n = 3 * n * (n - 1) := by
  unfold most
  have : 3 * n * (n - 1) % 2 = 0 := by
    rcases Nat.mod_two_eq_zero_or_one n with h | h
    · rw [Nat.mul_mod, Nat.mul_mod 3 n, h]; simp
    · have : (n - 1) % 2 = 0 := by omega
      rw [Nat.mul_mod, this]; simp
  omega

theorem Un.bound {n : Nat} {m : Int} {r r' : List Int} {ks : List Nat} (R : Ring n m r) (hm : (n : Int) ≤ m) (x : Un n m r ks r') : ks.length ≤ most n := by
  have z := x.zero R hm
  have n2 := R.n2
  have c := x.ex.cnt R
  have all : ∀ k, k < n → ks.count k ≤ (n - 1) + k := fun k => by
    induction k with
    | zero => intro _; omega
    | succ k ih =>
      intro h
      have := (c (k + 1) (by omega) h).1
      have := ih (by omega)
      simp only [Nat.add_sub_cancel] at *
      omega
  have s := sum_le n all
  rw [← len_counts n ks x.ex.small] at s
  have t := two_most n
  have e1 : n * (n - 1) + n = n * n := by
    rw [← Nat.mul_succ]
    congr 1; omega
  have e2 : 3 * n * (n - 1) = n * (n - 1) + n * (n - 1) + n * (n - 1) := by
    rw [Nat.mul_assoc, Nat.succ_mul, Nat.succ_mul, Nat.one_mul]
  omega

/-- where as many steps are gone as can be, the ring is healed -/
theorem Un.done {n : Nat} {m : Int} {r r' : List Int} {ks : List Nat} (R : Ring n m r) (hm : (n : Int) ≤ m) (x : Un n m r ks r') (h : most n ≤ ks.length) : (able r').length = 1 := by
  apply Classical.byContradiction
  intro ne
  have R' := x.ex.ring R
  have n2 := R.n2
  cases q : able r' with
  | nil => exact able_ne (by rw [R'.len]; omega) q
  | cons k t =>
    have hk : k ∈ able r' := by rw [q]; simp
    obtain ⟨a, b⟩ := mem_able.mp hk
    have := (x.snoc (by rw [← R'.len]; exact a) b ne).bound R hm
    rw [List.length_append, List.length_singleton] at this
    omega
end HR
namespace HW
open PySem PySem.Spec PyProof.Rows L2 HR
/-! ### own words over the layer -/
/-- built-in names that the program leaves as they are -/
structure Bt (mg : Str → Option Value) : Prop where
  len : mg "len" = none
  range : mg "range" = none
  min : mg "min" = none
  max : mg "max" = none
  isinstance : mg "isinstance" = none
  int : mg "int" = none
  bool : mg "bool" = none
  tuple : mg "tuple" = none
  list : mg "list" = none
  sorted : mg "sorted" = none
  abs : mg "abs" = none
  verr : mg "ValueError" = none
/-- a def of the text: where it stands, how it is called -/
structure Df (K : PySem.W.Frag) (mg : Str → Option Value) (x : Str) (st : Stmt) (ps : List Str) (f : Addr) (fd : FuncData) : Prop where
  F : Fun K x x st f fd
  g : mg x = some (.ref f)
  b : Binds K fd ps []
/-- an own exception class without own __init__ -/
structure Cl (K : PySem.W.Frag) (mg : Str → Option Value) (x : Str) (C : Addr) : Prop where
  g : mg x = some (.ref C)
  x : PySem.W.excIn K C [.type "ValueError", .type "Exception", .type "BaseException", .type "object"] "ValueError.__new__" = true
  k : PySem.W.keepIn K (.ref C) = true
  b : PySem.W.subIn K (.ref C) (.type "BaseException") = some true
  t : PySem.W.typeIn K (.ref C) = some (.type "type")
/-- the numbers that stand at the top -/
structure Nums (mg : Str → Option Value) : Prop where
  least : ∃ t, mg "LEAST" = some (.int 2 t)
  most : ∃ t, mg "MOST" = some (.int 12 t)
  numbers : ∃ t, mg "MOST_NUMBERS" = some (.int 100 t)
/-- where nothing is let out -/
theorem passN {X : Cx} : Passes (L2N.CX X.prog X.w) X E0 := fun _ _ _ _ _ _ _ h => by
  obtain ⟨_, _, _, _, _, _, _, _, _, _, _, _, z⟩ := h
  exact z.elim
theorem takesN {X : Cx} : L2N.Takes X (fun _ _ _ _ => False) := fun _ _ x => by
  obtain ⟨_, _, _, _, _, _, _, _, _, _, _, _, _, _, _, _, z⟩ := x
  exact z.elim
/-- a def that may raise, its errors' contexts told -/
theorem Fun.okN {P : Program} {w : World} {K : PySem.W.Frag} {mg : Str → Option Value} {base : Heap} {x qual : Str} {st : Stmt} {f : Addr} {fd : FuncData} {N ps : List Str} {k : Nat} {sp : Sp} (F : Fun K x qual st f fd) (S : FnScope N ps (defScope st)) (len : ∀ vs H Q E, sp vs H Q E → vs.length = ps.length)
    (hbody : ∀ (cdv : Value) (A : Around) (outer : List Env) (s : Shared) (H : Hp) (vs : List V) (Q : VK) (E : XK), Room k (A.deeper (envOfC qual (defScope st) s.heap.objs.size f cdv)) → sp vs H Q E →
      ∃ t, PSs (cxOf (L2N.CX P w) P w K mg base N qual (defScope st) f cdv A outer s H E) (defBody st) t ∧ t { nx := fun _ H' => Q .non H', rt := Q } (L2.start N vs) H) : FnOk P w K mg base (L2N.CX P w) (k + 1) f fd ps sp := by
  obtain ⟨oc, od, kV, doc, pm, an, cdv, ct, osl, rfl, lk, hcd⟩ := F.ex
  exact fn_of lk hcd S len fun A outer s H vs Q E hr hsp => hbody cdv A outer s H vs Q E hr hsp
abbrev I (r : List Int) : List V := r.map V.int
abbrev N (l : List Nat) : List V := l.map fun (k : Nat) => V.int (k : Int)

theorem _root_.L2.Same.tup {K : PySem.W.Frag} {H H' : Hp} {a : Addr} {xs : List V} (e : Same H H') (h : SqT K H a xs) : SqT K H' a xs := by
  rcases h with (h | ⟨o, h⟩) | h
  · exact .inl (.inl (e _ _ h))
  · exact .inl (.inr ⟨o, e _ _ h⟩)
  · exact .inr h
theorem same_upd {H : Hp} {p : Addr} {o : HO} (h : H p = none) : Same H (upd H p o) := fun b x e => by
  rw [upd_ne (ne_of_none e h)]
  exact e
theorem tupOf {K : PySem.W.Frag} {H : Hp} {a : Addr} {xs : List V} (h : H a = some (.tup xs)) : SqT K H a xs := .inl (.inl h)
theorem lstOf {K : PySem.W.Frag} {H : Hp} {a : Addr} {xs : List V} (h : H a = some (.lst xs)) : SqL K H a xs := .inl (.inl h)
theorem big {n : Nat} (h : n ≤ 1000) : n ≤ sizeLine := Nat.le_of_lt (small1000 h)

section
variable {X : Cx}
/-- t + u, whatever object comes of it -/
def rCatS (K : PySem.W.Frag) : R2 := fun x y H Q => ∃ a b xs ys, x = .ref a ∧ y = .ref b ∧ SqT K H a xs ∧ SqT K H b ys ∧ xs.length + ys.length ≤ sizeLine ∧
  ∀ p H', Same H H' → SqT K H' p (xs ++ ys) → Q (.ref p) H'
theorem op_catS : OpR X (binaryOp .Add) (rCatS X.K) := by
  intro pins s σ H x y v u Q I rx ry h
  obtain ⟨a, b, xs, ys, ex, ey, ha, hb, hz, q⟩ := h
  refine op_catA pins s σ H x y v u Q I rx ry ⟨a, b, xs, ys, ex, ey, ha, hb, hz, fun e => ?_, fun _ e => ?_, fun _ _ p hp => ?_⟩
  · subst e
    exact q b H (Same.refl H) hb
  · subst e
    refine q a H (Same.refl H) ?_
    rw [List.append_nil]
    exact ha
  · exact q p _ (same_upd hp) (tupOf upd_same)
/-- t[lo:hi], whatever object comes of it -/
def rSlS (K : PySem.W.Frag) : V → Option Int → Option Int → Hp → VK → Prop := fun x lo hi H Q => ∃ a xs, x = .ref a ∧ SqT K H a xs ∧
  ∀ p H', Same H H' → SqT K H' p (cutV xs lo hi) → Q (.ref p) H'
theorem sl_tupS : SlR X (rSlS X.K) := by
  intro pins s σ H x v vl vu lo hi sl Q I rx hs pl pu h
  obtain ⟨a, xs, ex, ha, q⟩ := h
  refine sl_tupA pins s σ H x v vl vu lo hi sl Q I rx hs pl pu ⟨a, xs, ex, ha, fun e => ?_, fun _ p hp => ?_⟩
  · refine q a H (Same.refl H) ?_
    unfold cutV
    rw [e.1, e.2, List.drop_zero, Nat.sub_zero, List.take_length]
    exact ha
  · exact q p _ (same_upd hp) (tupOf upd_same)
end
/-- the items of a list of ints by place -/
theorem atI_I {r : List Int} {z : Int} {k : Nat} (e : z = (k : Int)) (h : k < r.length) : atI (I r) z = some (.int (at0 r k)) := by
  refine at_of e ?_
  rw [List.getElem?_map, List.getElem?_eq_getElem h]
  unfold at0
  rw [List.getD_eq_getElem?_getD, List.getElem?_eq_getElem h]
  rfl
theorem atI_neg {α : Type} {xs : List α} {v : α} (h : xs[xs.length - 1]? = some v) : atI xs (-1) = some v := by
  have hl : xs.length - 1 < xs.length := (List.getElem?_eq_some_iff.mp h).1
  have e : ixN xs.length (-1) = some (xs.length - 1) := by
    unfold ixN
    rw [if_neg (by decide), if_pos (by omega)]
    congr 1
    omega
  unfold atI
  rw [e]
  exact h
theorem atI_I1 {r : List Int} (h : 0 < r.length) : atI (I r) (-1) = some (.int (at0 r (r.length - 1))) := by
  refine atI_neg ?_
  rw [List.length_map, List.getElem?_map, List.getElem?_eq_getElem (by omega)]
  unfold at0
  rw [List.getD_eq_getElem?_getD, List.getElem?_eq_getElem (by omega)]
  rfl
theorem len_I (r : List Int) : (I r).length = r.length := List.length_map _
theorem len_N (r : List Nat) : (N r).length = r.length := List.length_map _
theorem atI_N {r : List Nat} {z : Int} {k : Nat} (e : z = (k : Int)) (h : k < r.length) : atI (N r) z = some (.int ((r.getD k 0 : Nat) : Int)) := by
  refine at_of e ?_
  rw [List.getElem?_map, List.getElem?_eq_getElem h, List.getD_eq_getElem?_getD, List.getElem?_eq_getElem h]
  rfl
theorem dec_int (i j : Int) : decide (V.int i = V.int j) = decide (i = j) := by
  by_cases h : i = j
  · subst h; simp
  · rw [decide_eq_false h, decide_eq_false fun e => h (V.int.inj e)]
/-- for over range(n) -/
theorem for_r0 {n : Nat} {g : TG} {tb : TS} {D : Ends} {σ : L2.St} {H : Hp} (Pv : Nat → L2.St → Hp → Prop) (h0 : Pv 0 σ H)
    (hs : ∀ i σ H, i < n → Pv i σ H → g (.int (i : Int)) σ H fun σ2 H2 => tb { D with nx := Pv (i + 1), ct := Pv (i + 1), bk := D.nx } σ2 H2) (hd : ∀ σ H, Pv n σ H → D.nx σ H) :
    ∃ W : Nat → Nat → L2.St → Hp → Prop, (∃ m, W 0 m σ H) ∧ ∀ i m σ H, W i m σ H →
      ((Itr 0 n).stop i H ∧ D.nx σ H) ∨ ((Itr 0 n).go i H ∧ ∃ N : L2.St → Hp → Prop, (∀ σ' H', N σ' H' → ∃ m', m' < m ∧ W (i + 1) m' σ' H') ∧ ∀ x H', (Itr 0 n).yld i H x H' → g x σ H' fun σ2 H2 => tb { D with nx := N, ct := N, bk := D.nx } σ2 H2) :=
  for_range (lo := 0) Pv h0 (fun i σ H hi p => by rw [Int.zero_add]; exact hs i σ H hi p) hd
/-- what a comprehension makes of its first i places -/
def kept (f : Nat → Bool) (v : Nat → V) (i : Nat) : List V := ((List.range i).filter f).map v
theorem kept_yes {f : Nat → Bool} {v : Nat → V} {i : Nat} (h : f i = true) : kept f v (i + 1) = kept f v i ++ [v i] := by
  unfold kept
  rw [List.range_succ, List.filter_append, List.map_append]
  simp [h]
theorem kept_no {f : Nat → Bool} {v : Nat → V} {i : Nat} (h : f i = false) : kept f v (i + 1) = kept f v i := by
  unfold kept
  rw [List.range_succ, List.filter_append, List.map_append]
  simp [h]
theorem kept_len (f : Nat → Bool) (v : Nat → V) (i : Nat) : (kept f v i).length ≤ i := by
  unfold kept
  rw [List.length_map]
  exact Nat.le_trans (List.length_filter_le _ _) (by rw [List.length_range]; exact Nat.le_refl _)
/-- [v(i) for i in range(n) if f(i)]: a turn leaves all that was tracked -/
theorem lc_r0 {n : Nat} {g : TG} {tt : TT} {te : TE} {vs : List Nat} {σ : L2.St} {H1 : Hp} {D : Addr} {Qd : Hp → Prop} (f : Nat → Bool) (v : Nat → V) (hD : H1 D = none) (hn : n ≤ 1000)
    (hs : ∀ i H, i < n → Same H1 H → ∀ (Z : V → Hp → Prop) (M : Hp → Prop), (f i = true → ∀ H', Same H H' → Z (v i) H') → (f i = false → ∀ H', Same H H' → M H') →
      g (.int (i : Int)) (wipe σ vs) H fun σ2 H2 => wipe σ2 vs = wipe σ vs ∧ tt σ2 H2 fun b H3 => if b = true then te σ2 H3 Z else M H3)
    (hd : ∀ H, Same H1 H → H D = some (.lst (kept f v n)) → Qd H) :
    ∃ W : Nat → Nat → Hp → Prop, (∃ m, W 0 m (upd H1 D (.lst []))) ∧ ∀ i m H, W i m H →
      ((Itr 0 n).stop i H ∧ Qd H) ∨ ((Itr 0 n).go i H ∧ ∃ Nx : Hp → Prop, (∀ H', Nx H' → ∃ m', m' < m ∧ W (i + 1) m' H') ∧ ∀ x H', (Itr 0 n).yld i H x H' → g x (wipe σ vs) H' fun σ2 H2 => wipe σ2 vs = wipe σ vs ∧ tt σ2 H2 fun b H3 =>
        if b = true then te σ2 H3 fun y H4 => ∃ acc, H4 D = some (.lst acc) ∧ acc.length < sizeLine ∧ Nx (upd H4 D (.lst (acc ++ [y]))) else Nx H3) := by
  refine lc_range (lo := 0) (fun i H => Same H1 H ∧ H D = some (.lst (kept f v i))) ⟨same_upd hD, upd_same⟩ (fun i H hi ⟨sm, hd⟩ => ?_) fun H ⟨sm, e⟩ => hd H sm e
  rw [Int.zero_add]
  refine hs i H hi sm _ _ (fun hf H' s' => ?_) fun hf H' s' => ?_
  · refine ⟨_, s' _ _ hd, small1000 (Nat.le_trans (kept_len f v i) (by omega)), fun b o e => ?_, ?_⟩
    · rw [upd_ne (ne_of_none e hD)]
      exact s' _ _ (sm _ _ e)
    · rw [upd_same, kept_yes hf]
  · refine ⟨sm.trans s', ?_⟩
    rw [kept_no hf]
    exact s' _ _ hd
/-- [v(i) for i in range(n)] -/
theorem lc_m0 {n : Nat} {g : TG} {te : TE} {vs : List Nat} {σ : L2.St} {H1 : Hp} {D : Addr} {Qd : Hp → Prop} (v : Nat → V) (hD : H1 D = none) (hn : n ≤ 1000)
    (hs : ∀ i H, i < n → Same H1 H → ∀ (Z : V → Hp → Prop), (∀ H', Same H H' → Z (v i) H') → g (.int (i : Int)) (wipe σ vs) H fun σ2 H2 => wipe σ2 vs = wipe σ vs ∧ te σ2 H2 Z)
    (hd : ∀ H, Same H1 H → H D = some (.lst ((List.range n).map v)) → Qd H) :
    ∃ W : Nat → Nat → Hp → Prop, (∃ m, W 0 m (upd H1 D (.lst []))) ∧ ∀ i m H, W i m H →
      ((Itr 0 n).stop i H ∧ Qd H) ∨ ((Itr 0 n).go i H ∧ ∃ Nx : Hp → Prop, (∀ H', Nx H' → ∃ m', m' < m ∧ W (i + 1) m' H') ∧ ∀ x H', (Itr 0 n).yld i H x H' → g x (wipe σ vs) H' fun σ2 H2 => wipe σ2 vs = wipe σ vs ∧ tYes σ2 H2 fun b H3 =>
        if b = true then te σ2 H3 fun y H4 => ∃ acc, H4 D = some (.lst acc) ∧ acc.length < sizeLine ∧ Nx (upd H4 D (.lst (acc ++ [y]))) else Nx H3) :=
  lc_r0 (tt := tYes) (fun _ => true) v hD hn (fun i H hi sm Z M hz _ => hs i H hi sm Z (hz rfl)) fun H sm e => hd H sm (by
    rw [e]
    unfold kept
    rw [List.filter_eq_self.mpr (fun _ _ => rfl)])
end HW
namespace HW
open PySem PySem.Spec PyProof.Rows L2 HR
/-! ### what each def of the program promises -/
def Good (r : List Int) (m : Int) : Prop := 2 ≤ r.length ∧ r.length ≤ 12 ∧ ∀ x ∈ r, 0 ≤ x ∧ x < m
instance (r : List Int) (m : Int) : Decidable (Good r m) := by unfold Good; infer_instance
theorem Good.ring {r : List Int} {m : Int} (g : Good r m) (h : 2 ≤ m) : Ring r.length m r := by
  obtain ⟨h1, h2, h3⟩ := g
  refine ⟨rfl, h1, h, fun k hk => ?_, fun k hk => ?_⟩
  all_goals
    have e : at0 r k = r[k] := by
      unfold at0
      rw [List.getD_eq_getElem?_getD, List.getElem?_eq_getElem hk]
      rfl
    rw [e]
    have := h3 _ (List.getElem_mem hk)
    omega
theorem good_of {n : Nat} {r : List Int} {m : Int} (R : Ring n m r) (h : n ≤ 12) : Good r m := by
  refine ⟨by rw [R.len]; exact R.n2, by rw [R.len]; exact h, fun x hx => ?_⟩
  obtain ⟨k, hk, rfl⟩ := List.getElem_of_mem hx
  have e : at0 r k = r[k] := by
    unfold at0
    rw [List.getD_eq_getElem?_getD, List.getElem?_eq_getElem hk]
    rfl
  rw [← e]
  rw [R.len] at hk
  exact ⟨R.lo k hk, R.hi k hk⟩
def sp_need_numbers (cN : Addr) : Sp := fun vs H Q E => ∃ m : Int, vs = [.int m] ∧ (m < 2 ∨ 100 < m → E (.ref cN) none H) ∧ (2 ≤ m → m ≤ 100 → Q .non H)
def sp_need_machines (cR : Addr) : Sp := fun vs H Q E => ∃ m : Int, vs = [.int m] ∧ (m < 2 ∨ 12 < m → E (.ref cR) none H) ∧ (2 ≤ m → m ≤ 12 → Q .non H)
/-- what a ring and many that are handed in are worth: Z where both are right -/
def Held (cN cR : Addr) (r : List Int) (m : Int) (H : Hp) (E : XK) (Z : Prop) : Prop :=
  (m < 2 ∨ 100 < m → E (.ref cN) none H) ∧ (2 ≤ m → m ≤ 100 → ¬ Good r m → E (.ref cR) none H) ∧ (2 ≤ m → m ≤ 100 → Good r m → Z)
theorem Held.of {cN cR : Addr} {r : List Int} {m : Int} {H : Hp} {E : XK} {Z : Prop} {n : Nat} (R : Ring n m r) (hn : n ≤ 12) (hm : m ≤ 100) (z : Z) : Held cN cR r m H E Z := by
  have := R.m2
  exact ⟨fun h => by omega, fun _ _ h => absurd (good_of R hn) h, fun _ _ _ => z⟩
theorem Held.imp {cN cR : Addr} {r : List Int} {m : Int} {H : Hp} {E : XK} {Z Z' : Prop} (h : Held cN cR r m H E Z) (k : 2 ≤ m → m ≤ 100 → Good r m → Z → Z') : Held cN cR r m H E Z' :=
  ⟨h.1, h.2.1, fun a b c => k a b c (h.2.2 a b c)⟩
def sp_need_ring (K : PySem.W.Frag) (cN cR : Addr) : Sp := fun vs H Q E => ∃ (a : Addr) (r : List Int) (m : Int), vs = [.ref a, .int m] ∧ SqT K H a (I r) ∧ Held cN cR r m H E (Q .non H)
def sp_may (K : PySem.W.Frag) : Sp := fun vs H Q _ => ∃ (a : Addr) (r : List Int) (k : Nat), vs = [.ref a, .int (k : Int)] ∧ SqT K H a (I r) ∧ k < r.length ∧ Q (.bl (may r k)) H
def sp_able_of (K : PySem.W.Frag) : Sp := fun vs H Q _ => ∃ (a : Addr) (r : List Int), vs = [.ref a] ∧ SqT K H a (I r) ∧ r.length ≤ 1000 ∧
  ∀ H' p, Same H H' → H p = none → H' p = some (.lst (N (able r))) → Q (.ref p) H'
def sp_able (K : PySem.W.Frag) (cN cR : Addr) : Sp := fun vs H Q E => ∃ (a : Addr) (r : List Int) (m : Int), vs = [.ref a, .int m] ∧ SqT K H a (I r) ∧
  Held cN cR r m H E (∀ H' p, Same H H' → H p = none → H' p = some (.lst (N (able r))) → Q (.ref p) H')
def sp_moved (K : PySem.W.Frag) : Sp := fun vs H Q _ => ∃ (a : Addr) (r : List Int) (m : Int) (k : Nat), vs = [.ref a, .int m, .int (k : Int)] ∧ SqT K H a (I r) ∧ k < r.length ∧ r.length ≤ 1000 ∧ 0 < m ∧
  ∀ H' p, Same H H' → SqT K H' p (I (moved m r k)) → Q (.ref p) H'
/-- the machine that numbers draw as the t-th one -/
def nextOf (r ns : List Int) (t : Nat) : Nat := (able r).getD (if ns = [] then 0 else (at0 ns (t % ns.length) % ((able r).length : Int)).toNat) 0
def sp_next_of (K : PySem.W.Frag) : Sp := fun vs H Q _ => ∃ (a b : Addr) (r ns : List Int) (t : Nat), vs = [.ref a, .ref b, .int (t : Int)] ∧ SqT K H a (I r) ∧ SqL K H b (I ns) ∧ 0 < r.length ∧ r.length ≤ 1000 ∧
  ∀ H', Same H H' → Q (.int ((nextOf r ns t : Nat) : Int)) H'
/-- t steps that numbers draw: the order, the ring behind it -/
def draws (m : Int) (ns r : List Int) : Nat → List Nat × List Int
  | 0 => ([], r)
  | t + 1 => ((draws m ns r t).1 ++ [nextOf (draws m ns r t).2 ns t], HR.moved m (draws m ns r t).2 (nextOf (draws m ns r t).2 ns t))
theorem nextOf_mem {r ns : List Int} (t : Nat) (h : 0 < r.length) : nextOf r ns t ∈ able r := by
  have p := able_pos h
  unfold nextOf
  have key : ∀ i, i < (able r).length → (able r).getD i 0 ∈ able r := fun i hi => by
    rw [List.getD_eq_getElem?_getD, List.getElem?_eq_getElem hi]
    exact List.getElem_mem hi
  split
  · exact key 0 p
  · refine key _ ?_
    have a := Int.emod_nonneg (at0 ns (t % ns.length)) (show ((able r).length : Int) ≠ 0 by omega)
    have b := Int.emod_lt_of_pos (at0 ns (t % ns.length)) (show 0 < ((able r).length : Int) by omega)
    omega
theorem nextOf_lt {r ns : List Int} (t : Nat) (h : 0 < r.length) : nextOf r ns t < r.length := (mem_able.mp (nextOf_mem t h)).1
theorem draws_len (m : Int) (ns r : List Int) : ∀ t, (draws m ns r t).1.length = t
  | 0 => rfl
  | t + 1 => by
    show ((draws m ns r t).1 ++ [_]).length = t + 1
    rw [List.length_append, draws_len m ns r t]
    rfl
theorem draws_rlen (m : Int) (ns r : List Int) : ∀ t, (draws m ns r t).2.length = r.length
  | 0 => rfl
  | t + 1 => by
    show (HR.moved m (draws m ns r t).2 _).length = r.length
    rw [moved_len, draws_rlen m ns r t]
theorem draws_ex {n : Nat} {m : Int} {ns r : List Int} (R : Ring n m r) : ∀ t, Ex n m r (draws m ns r t).1 (draws m ns r t).2
  | 0 => .nil
  | t + 1 => by
    have ih := draws_ex (ns := ns) R t
    have R' := ih.ring R
    have q := mem_able.mp (nextOf_mem (ns := ns) t (r := (draws m ns r t).2) (by rw [R'.len]; have := R.n2; omega))
    exact ih.snoc (by rw [← R'.len]; exact q.1) q.2
def sp_drawn (K : PySem.W.Frag) (cN cR : Addr) : Sp := fun vs H Q E => ∃ (a b : Addr) (r ns : List Int) (m : Int) (t : Nat), vs = [.ref a, .int m, .ref b, .int (t : Int)] ∧ SqT K H a (I r) ∧ SqL K H b (I ns) ∧ t ≤ 1000 ∧
  Held cN cR r m H E (∀ H' p, Same H H' → H p = none → H' p = some (.lst (N (draws m ns r t).1)) → Q (.ref p) H')
end HW
namespace HW
open PySem PySem.Spec PyProof.Rows L2 HR
/-- one step that is asked of any machine: true: there is none such; false: it may not step -/
def stepR (m : Int) (r : List Int) (z : Int) : Except Bool (List Int) :=
  if z < 0 ∨ (r.length : Int) ≤ z then .error true else if may r z.toNat = true then .ok (HR.moved m r z.toNat) else .error false
theorem stepR_len {m : Int} {r r' : List Int} {z : Int} (h : stepR m r z = .ok r') : r'.length = r.length := by
  unfold stepR at h
  split at h
  · cases h
  · split at h
    · cases h
      exact moved_len _ _ _
    · cases h
def bad (cM cW : Addr) (b : Bool) : Value := .ref (if b = true then cM else cW)
/-- what a step is worth to who asks it -/
def Stp (K : PySem.W.Frag) (cM cW : Addr) (m : Int) (r : List Int) (z : Int) (H : Hp) (Q : VK) (E : XK) : Prop :=
  (∀ b, stepR m r z = .error b → E (bad cM cW b) none H) ∧ ∀ r', stepR m r z = .ok r' → ∀ H' p, Same H H' → SqT K H' p (I r') → Q (.ref p) H'
def sp_step_of (K : PySem.W.Frag) (cM cW : Addr) : Sp := fun vs H Q E => ∃ (a : Addr) (r : List Int) (m z : Int), vs = [.ref a, .int m, .int z] ∧ SqT K H a (I r) ∧ r.length ≤ 1000 ∧ 0 < m ∧ Stp K cM cW m r z H Q E
def sp_stepped (K : PySem.W.Frag) (cN cR cM cW : Addr) : Sp := fun vs H Q E => ∃ (a : Addr) (r : List Int) (m z : Int), vs = [.ref a, .int m, .int z] ∧ SqT K H a (I r) ∧ Held cN cR r m H E (Stp K cM cW m r z H Q E)
/-- a list of rings -/
def Tups (K : PySem.W.Frag) (H : Hp) (xs : List V) (rs : List (List Int)) : Prop := Paired (fun (v : V) (r : List Int) => ∃ a, v = .ref a ∧ SqT K H a (I r)) xs rs
theorem Tups.same {K : PySem.W.Frag} {H H' : Hp} (s : ∀ b o xs, H b = some o → (o = .tup xs ∨ ∃ ob, o = .frz ob (.tup xs)) → H' b = some o) : ∀ {xs : List V} {rs : List (List Int)}, Tups K H xs rs → Tups K H' xs rs
  | _, _, .nil => .nil
  | _, _, .cons ⟨a, e, h⟩ t => by
    refine .cons ⟨a, e, ?_⟩ (Tups.same s t)
    rcases h with (h | ⟨o, h⟩) | h
    · exact .inl (.inl (s _ _ _ h (.inl rfl)))
    · exact .inl (.inr ⟨o, s _ _ _ h (.inr ⟨o, rfl⟩)⟩)
    · exact .inr h
theorem Tups.of {K : PySem.W.Frag} {H H' : Hp} (s : Same H H') {xs : List V} {rs : List (List Int)} (h : Tups K H xs rs) : Tups K H' xs rs := h.same fun b o _ e _ => s b o e
/-- behind a store to a list -/
theorem Tups.upd {K : PySem.W.Frag} {H : Hp} {p : Addr} {ys : List V} {o : HO} (hp : H p = some (.lst ys)) {xs : List V} {rs : List (List Int)} (h : Tups K H xs rs) : Tups K (upd H p o) xs rs := h.same fun b u zs e k => by
  rw [upd_ne]
  · exact e
  · intro q
    rw [q, hp] at e
    cases e
    rcases k with k | ⟨_, k⟩ <;> cases k
theorem Tups.get {K : PySem.W.Frag} {H : Hp} : ∀ {xs : List V} {rs : List (List Int)} {i : Nat} {r : List Int}, Tups K H xs rs → rs[i]? = some r → ∃ a, xs[i]? = some (.ref a) ∧ SqT K H a (I r)
  | _, _, _, _, .nil, e => by simp at e
  | _, _, 0, _, .cons ⟨a, e, h⟩ _, q => by
    cases q
    exact ⟨a, by rw [e]; rfl, h⟩
  | _, _, i + 1, r, .cons _ t, q => Tups.get (i := i) (r := r) t (by simpa using q)
/-- the rings that are gone through, behind those of rs; the last one is r -/
def goneA (m : Int) (rs : List (List Int)) (r : List Int) : List Int → Except Bool (List (List Int))
  | [] => .ok rs
  | z :: zs => match stepR m r z with
    | .error b => .error b
    | .ok r' => goneA m (rs ++ [r']) r' zs
def Lists (K : PySem.W.Frag) (H : Hp) (p : Addr) (rs : List (List Int)) : Prop := ∃ xs, H p = some (.lst xs) ∧ Tups K H xs rs
def sp_gone (K : PySem.W.Frag) (cN cR cM cW : Addr) : Sp := fun vs H Q E => ∃ (a b : Addr) (r zs : List Int) (m : Int), vs = [.ref a, .int m, .ref b] ∧ SqT K H a (I r) ∧ SqL K H b (I zs) ∧ zs.length ≤ 1000 ∧ Held cN cR r m H E (
  (∀ c H', goneA m [r] r zs = .error c → Same H H' → E (bad cM cW c) none H') ∧ ∀ rs H' p, goneA m [r] r zs = .ok rs → Same H H' → H p = none → Lists K H' p rs → Q (.ref p) H')
/-- marks carried on -/
def tracedA (m : Int) (fs : List Int) (fr : Int) (r : List Int) : List Int → Except Bool (List Int)
  | [] => .ok fs
  | z :: zs => match stepR m r z with
    | .error b => .error b
    | .ok r' => if z = 0 then tracedA m (fs.set 0 fr) (fr + 1) r' zs else tracedA m (fs.set z.toNat (at0 fs (z.toNat - 1))) fr r' zs
def marks (n : Nat) : List Int := (List.range n).map fun (k : Nat) => (k : Int)
def sp_traced (K : PySem.W.Frag) (cN cR cM cW : Addr) : Sp := fun vs H Q E => ∃ (a b : Addr) (r zs : List Int) (m : Int), vs = [.ref a, .int m, .ref b] ∧ SqT K H a (I r) ∧ SqL K H b (I zs) ∧ zs.length ≤ 1000 ∧ Held cN cR r m H E (
  (∀ c H', tracedA m (marks r.length) r.length r zs = .error c → Same H H' → E (bad cM cW c) none H') ∧ ∀ fs H' p, tracedA m (marks r.length) r.length r zs = .ok fs → Same H H' → H p = none → H' p = some (.lst (I fs)) → Q (.ref p) H')
def counts (zs : List Int) (n : Nat) : List Int := (List.range n).map fun (k : Nat) => ((zs.count (k : Int) : Nat) : Int)
def sp_counted (K : PySem.W.Frag) (cR cM : Addr) : Sp := fun vs H Q E => ∃ (b : Addr) (zs : List Int) (m : Int), vs = [.ref b, .int m] ∧ SqL K H b (I zs) ∧ zs.length ≤ 1000 ∧ (m < 2 ∨ 12 < m → E (.ref cR) none H) ∧
  (2 ≤ m → m ≤ 12 → (∃ z ∈ zs, z < 0 ∨ m ≤ z) → ∀ H', Same H H' → E (.ref cM) none H') ∧
  (2 ≤ m → m ≤ 12 → (∀ z ∈ zs, 0 ≤ z ∧ z < m) → ∀ H' p, Same H H' → H p = none → H' p = some (.lst (I (counts zs m.toNat))) → Q (.ref p) H')
def sp_most (cR : Addr) : Sp := fun vs H Q E => ∃ m : Int, vs = [.int m] ∧ (m < 2 ∨ 12 < m → E (.ref cR) none H) ∧ (2 ≤ m → m ≤ 12 → Q (.int ((most m.toNat : Nat) : Int)) H)
def sp_healed (K : PySem.W.Frag) (cN cR : Addr) : Sp := fun vs H Q E => ∃ (a : Addr) (r : List Int) (m : Int), vs = [.ref a, .int m] ∧ SqT K H a (I r) ∧ Held cN cR r m H E (∀ H', Same H H' → Q (.bl (decide ((able r).length = 1))) H')
/-- up to the first healed ring, at most u steps, the next one the t-th -/
def healA (m : Int) (ns : List Int) (o : List Nat) (r : List Int) (t : Nat) : Nat → List Nat
  | 0 => o
  | u + 1 => if (able r).length = 1 then o else healA m ns (o ++ [nextOf r ns t]) (HR.moved m r (nextOf r ns t)) (t + 1) u
def sp_healing (K : PySem.W.Frag) (cN cR : Addr) : Sp := fun vs H Q E => ∃ (a b : Addr) (r ns : List Int) (m : Int), vs = [.ref a, .int m, .ref b] ∧ SqT K H a (I r) ∧ SqL K H b (I ns) ∧ Held cN cR r m H E (
  (m < r.length → E (.ref cN) none H) ∧ ((r.length : Int) ≤ m → ∀ H' p, Same H H' → H p = none → H' p = some (.lst (N (healA m ns [] r 0 (most r.length)))) → Q (.ref p) H'))
/-- the machines from k on, once round -/
def roundOf (n k : Nat) : List Nat := List.range' k (n - k) ++ List.range k
def sp_turns (K : PySem.W.Frag) (cN cR cH : Addr) : Sp := fun vs H Q E => ∃ (a : Addr) (r : List Int) (m : Int), vs = [.ref a, .int m] ∧ SqT K H a (I r) ∧ Held cN cR r m H E (
  ((able r).length ≠ 1 → ∀ H', Same H H' → E (.ref cH) none H') ∧ ∀ k, able r = [k] → ∀ H' p, Same H H' → H p = none → H' p = some (.lst (N (roundOf r.length k))) → Q (.ref p) H')
theorem tupUpd {K : PySem.W.Frag} {H : Hp} {p c : Addr} {ys xs : List V} {o : HO} (hp : H p = some (.lst ys)) (h2 : SqT K H c xs) : SqT K (L2.upd H p o) c xs := by
  rcases h2 with (h2 | ⟨o, h2⟩) | h2
  · refine .inl (.inl ?_)
    rw [upd_ne (ne_of h2 hp (by intro q; cases q))]
    exact h2
  · refine .inl (.inr ⟨o, ?_⟩)
    rw [upd_ne (ne_of h2 hp (by intro q; cases q))]
    exact h2
  · exact .inr h2
theorem flat_one {n : Nat} : (List.replicate n [V.int 0]).flatten = List.replicate n (V.int 0) := by
  induction n with
  | zero => rfl
  | succ n ih =>
    rw [List.replicate_succ, List.flatten_cons, ih, List.replicate_succ]
    rfl
theorem counts_snoc {zs : List Int} {k n : Nat} (h : k < n) : counts (zs ++ [(k : Int)]) n = (counts zs n).set k (at0 (counts zs n) k + 1) := by
  have lc : ∀ l : List Int, (counts l n).length = n := fun l => by unfold counts; rw [List.length_map, List.length_range]
  have gt : ∀ (l : List Int) (i : Nat), i < n → (counts l n)[i]? = some ((l.count (i : Int) : Nat) : Int) := fun l i hi => by
    unfold counts
    rw [List.getElem?_map, List.getElem?_range hi]
    rfl
  refine List.ext_getElem? fun i => ?_
  by_cases hi : i < n
  · rw [gt _ i hi, List.getElem?_set, lc]
    by_cases e : k = i
    · subst e
      rw [if_pos rfl, if_pos hi]
      unfold at0
      rw [List.getD_eq_getElem?_getD, gt _ k hi, List.count_append]
      simp
    · rw [if_neg e, gt _ i hi, List.count_append, List.count_singleton]
      have : ¬ ((k : Int) == (i : Int)) = true := by simp; omega
      simp [this]
  · rw [List.getElem?_eq_none (by rw [lc]; omega), List.getElem?_eq_none (by rw [List.length_set, lc]; omega)]
theorem most_le {n : Nat} (h : n ≤ 12) : most n ≤ 198 := by
  have key : ∀ n : Fin 13, most n.1 ≤ 198 := by decide
  exact key ⟨n, by omega⟩
theorem rg_round {n k : Nat} (h : k ≤ n) : rgV (k : Int) (n : Int) ++ rgV 0 (k : Int) = N (roundOf n k) := by
  unfold rgV roundOf N
  rw [List.map_append, Int.sub_zero, Int.toNat_natCast, show ((n : Int) - (k : Int)).toNat = n - k by omega]
  congr 1
  · rw [List.range'_eq_map_range, List.map_map]
    refine List.map_congr_left fun i _ => ?_
    show V.int ((k : Int) + (i : Int)) = V.int (((k + i : Nat)) : Int)
    rw [Int.natCast_add]
  · refine List.map_congr_left fun i _ => ?_
    rw [Int.zero_add]
theorem healA_zero (m : Int) (ns : List Int) (o : List Nat) (r : List Int) (t : Nat) : healA m ns o r t 0 = o := rfl
theorem healA_succ (m : Int) (ns : List Int) (o : List Nat) (r : List Int) (t u : Nat) : healA m ns o r t (u + 1) = if (able r).length = 1 then o else healA m ns (o ++ [nextOf r ns t]) (HR.moved m r (nextOf r ns t)) (t + 1) u := rfl
theorem SqL.same {K : PySem.W.Frag} {H H' : Hp} {a : Addr} {xs : List V} (s : Same H H') (h : SqL K H a xs) : SqL K H' a xs := s.seq h
end HW
namespace HW
open PySem PySem.Spec PyProof.Rows L2 HR
theorem mul_once (l : Addr) (items : Array Value) (n : Nat) (dd : Option Addr) (sl : Array (Option Value)) (u : Tok) :
    Meets (Builtin.«tuple.__mul__» ⟨[.ref l, .int 1 u], []⟩) (fun _ R s => s.heap.get? l = some { cls := .type "tuple", dict := dd, data := .seq items n, slots := sl } ∧ R (.ok (.ret (Value.ref l))) s) :=
  .of_wp fun prog w A R s h => by
    obtain ⟨hp, g, d, tk, os⟩ := s
    obtain ⟨hl, h⟩ := h
    have f1 := AutoSeq1.idx_int
    have c1 : (items.isEmpty || (1 : Int) == 1) = true := by simp
    wp_walk using wpAny_loadPart' hl
    repeat (first
      | (refine wpAny_ite_false (by decide) ?_; wp_walk using wpAny_loadPart' hl)
      | (refine wpAny_ite_true c1 ?_; wp_walk using wpAny_loadPart' hl)
      | (refine wpAny_ite_true (decide_eq_true c1) ?_; wp_walk using wpAny_loadPart' hl))
    exact ⟨_, rfl, h⟩
theorem mul_none (l : Addr) (items : Array Value) (n : Nat) (dd : Option Addr) (sl : Array (Option Value)) (u : Tok) (hne : items.isEmpty = false) :
    Meets (Builtin.«tuple.__mul__» ⟨[.ref l, .int 0 u], []⟩) (fun _ R s => s.heap.get? l = some { cls := .type "tuple", dict := dd, data := .seq items n, slots := sl } ∧
      R (.ok (.ret (Value.ref s.heap.objs.size))) { s with heap := s.heap.push { cls := Value.type "tuple", data := Data.seq #[] }, toks := s.toks }) :=
  .of_wp fun prog w A R s h => by
    obtain ⟨hp, g, d, tk, os⟩ := s
    obtain ⟨hl, h⟩ := h
    have f1 := AutoSeq1.idx_int
    have c1 : (items.isEmpty || (0 : Int) == 1) = false := by simp [hne]
    have c2 : (decide ((0 : Int) ≤ 0) || items.isEmpty) = true := by simp
    wp_walk using wpAny_loadPart' hl
    repeat (first
      | (refine wpAny_ite_false (decide_eq_false (by rw [c1]; exact Bool.false_ne_true)) ?_; wp_walk using wpAny_loadPart' hl)
      | (refine wpAny_ite_true (decide_eq_true c2) ?_; wp_walk using wpAny_loadPart' hl))
    exact ⟨_, rfl, h⟩
section
variable {X : Cx}
/-- t * k, k from nought on, whatever object comes of it -/
def rRepS (K : PySem.W.Frag) : R2 := fun x y H Q => ∃ (l : Addr) (k : Nat) (xs : List V), x = .ref l ∧ y = .int (k : Int) ∧ SqT K H l xs ∧ xs ≠ [] ∧ k ≤ 1000 ∧ xs.length ≤ 1000 ∧ ∀ p H', Same H H' → SqT K H' p (List.replicate k xs).flatten → Q (.ref p) H'
theorem op_repS : OpR X (binaryOp .Mult) (rRepS X.K) := by
  intro pins s σ H x y v u Q I rx ry h
  obtain ⟨l, k, xs, rfl, rfl, hT, hne, hk, hz, q⟩ := h
  by_cases k2 : 2 ≤ k
  · refine op_repT pins s σ H _ _ v u Q I rx ry ⟨l, (k : Int), xs, rfl, rfl, hT, hne, by omega, by omega, hz, fun p hp => q p _ (same_upd hp) (tupOf ?_)⟩
    rw [upd_same, Int.toNat_natCast]
  cases rx
  obtain ⟨t, rfl⟩ := ry
  obtain ⟨its, r, ⟨⟨cls, dd, data, sl⟩, ho, hc, n, hd⟩, hs⟩ := I.tuple hT
  simp only at hc hd
  subst hc hd
  have hi : its.toArray.isEmpty = false := by
    cases its with
    | nil =>
      have := r.length
      exact absurd (List.eq_nil_of_length_eq_zero this) hne
    | cons a b => rfl
  by_cases k1 : k = 1
  · subst k1
    refine wpAny_binaryOp_repeat_ref (T := "tuple") (U := "int") (by decide) ⟨_, ho, rfl⟩ (fun s' => typeIs_int s' _ t) noFill_tuple_mul F.fills_int_mul F.slot_int_rmul repeat_tuple F.slot_int_index.lookup
      (call_meets F.slot_int_rmul (typeIs_int s _ t) F.entry_int_rmul (F.args_int_rmul_2 _ _) (int_rmul_tuple _ t l its.toArray n dd sl)
        ⟨ho, rfl, ⟨_, ho, rfl⟩, call_meets F.slot_tuple_mul ⟨_, ho, rfl⟩ F.entry_tuple_mul (F.args_tuple_mul_2 _ _) (mul_once l its.toArray n dd sl t) ⟨ho, ?_⟩⟩)
    refine ⟨.ref l, H, I, rfl, q l H (Same.refl H) ?_⟩
    have e : (List.replicate 1 xs).flatten = xs := by simp
    rw [e]
    exact hT
  · have k0 : k = 0 := by omega
    subst k0
    refine wpAny_binaryOp_repeat_ref (T := "tuple") (U := "int") (by decide) ⟨_, ho, rfl⟩ (fun s' => typeIs_int s' _ t) noFill_tuple_mul F.fills_int_mul F.slot_int_rmul repeat_tuple F.slot_int_index.lookup
      (call_meets F.slot_int_rmul (typeIs_int s _ t) F.entry_int_rmul (F.args_int_rmul_2 _ _) (int_rmul_tuple _ t l its.toArray n dd sl)
        ⟨ho, rfl, ⟨_, ho, rfl⟩, call_meets F.slot_tuple_mul ⟨_, ho, rfl⟩ F.entry_tuple_mul (F.args_tuple_mul_2 _ _) (mul_none l its.toArray n dd sl t hi) ⟨ho, ?_⟩⟩)
    have fr := I.hok.fresh (Nat.le_refl s.heap.objs.size)
    refine ⟨.ref s.heap.objs.size, _, I.laid (t' := s.toks) (o := .tup []) (fun b ob z => Heap.get?_push_of_some _ z) (Nat.le_refl _) ?_, rfl, q _ _ (same_upd fr) (tupOf upd_same)⟩
    exact ⟨Nat.zero_le _, [], .nil, IsTup.new _ _⟩
end
end HW
namespace HW
open PySem PySem.Spec PyProof.Rows L2 HR
/-! ### what each helper of the laws promises -/
def sp_law_cell_at (K : PySem.W.Frag) : Sp := fun vs H Q _ => ∃ (a : Addr) (ns : List Int) (k : Nat), vs = [.ref a, .int (k : Int)] ∧ SqL K H a (I ns) ∧ Q (.int (at0 ns k)) H
def mixed1 (c k : Int) : Int := (c % 1000003 + 1) * (k * 48271 + 11) % 1000003
def mixed (c k : Int) : Int := let y := (mixed1 c k * mixed1 c k + k * 7919 + c / 1000003) % 1000003; y * y % 1000003
theorem mixed_nonneg (c k : Int) : 0 ≤ mixed c k := Int.emod_nonneg _ (by decide)
def sp_law_mixed : Sp := fun vs H Q _ => ∃ c k : Int, vs = [.int c, .int k] ∧ Q (.int (mixed c k)) H
def sizeI (ns : List Int) : Int := 2 + at0 ns 0 % (6 + 5 * (if at0 ns 0 / 1009 % 6 = 1 then 1 else 0))
def sizeF (ns : List Int) : Nat := (sizeI ns).toNat
theorem sizeI_is (ns : List Int) : sizeI ns = ((sizeF ns : Nat) : Int) ∧ 2 ≤ sizeF ns ∧ sizeF ns ≤ 12 := by
  have h : 2 ≤ sizeI ns ∧ sizeI ns ≤ 12 := by
    unfold sizeI
    split
    · have a := Int.emod_nonneg (at0 ns 0) (show (6 + 5 * 1 : Int) ≠ 0 by decide)
      have b := Int.emod_lt_of_pos (at0 ns 0) (show (0 : Int) < 6 + 5 * 1 by decide)
      omega
    · have a := Int.emod_nonneg (at0 ns 0) (show (6 + 5 * 0 : Int) ≠ 0 by decide)
      have b := Int.emod_lt_of_pos (at0 ns 0) (show (0 : Int) < 6 + 5 * 0 by decide)
      omega
  unfold sizeF
  omega
def sp_law_size (K : PySem.W.Frag) : Sp := fun vs H Q _ => ∃ (a : Addr) (ns : List Int), vs = [.ref a] ∧ SqL K H a (I ns) ∧ Q (.int ((sizeF ns : Nat) : Int)) H
def maxI (i j : Int) : Int := if j > i then j else i
def minI (i j : Int) : Int := if j < i then j else i
def manyF (ns : List Int) (n : Int) : Int :=
  at0 [n + at0 ns 1 / 5 % 4, 2 + at0 ns 1 / 5 % 99, n, maxI 2 (n - 1), 2 + at0 ns 1 / 5 % 3] (at0 ns 1 % 5).toNat
theorem manyF_in (ns : List Int) {n : Int} (h1 : 2 ≤ n) (h2 : n ≤ 12) : 2 ≤ manyF ns n ∧ manyF ns n ≤ 100 := by
  unfold manyF maxI
  have a := Int.emod_nonneg (at0 ns 1) (show (5 : Int) ≠ 0 by decide)
  have b := Int.emod_lt_of_pos (at0 ns 1) (show (0 : Int) < 5 by decide)
  obtain ⟨i, hi⟩ : ∃ i, i = (at0 ns 1 % 5).toNat := ⟨_, rfl⟩
  rw [← hi]
  have hi5 : i < 5 := by omega
  match i, hi5 with
  | 0, _ => show 2 ≤ n + at0 ns 1 / 5 % 4 ∧ n + at0 ns 1 / 5 % 4 ≤ 100; omega
  | 1, _ => show 2 ≤ 2 + at0 ns 1 / 5 % 99 ∧ 2 + at0 ns 1 / 5 % 99 ≤ 100; omega
  | 2, _ => show 2 ≤ n ∧ n ≤ 100; omega
  | 3, _ =>
    show 2 ≤ (if n - 1 > 2 then n - 1 else 2) ∧ (if n - 1 > 2 then n - 1 else 2) ≤ 100
    split <;> omega
  | 4, _ => show 2 ≤ 2 + at0 ns 1 / 5 % 3 ∧ 2 + at0 ns 1 / 5 % 3 ≤ 100; omega
def sp_law_many (K : PySem.W.Frag) : Sp := fun vs H Q _ => ∃ (a : Addr) (ns : List Int) (n : Int), vs = [.ref a, .int n] ∧ SqL K H a (I ns) ∧ ∀ H', Same H H' → Q (.int (manyF ns n)) H'
def runs (n : Nat) (g : Nat → Int) : List Int := (List.range n).map g
theorem runs_len (n : Nat) (g : Nat → Int) : (runs n g).length = n := by unfold runs; rw [List.length_map, List.length_range]
theorem runs_at (n : Nat) (g : Nat → Int) {k : Nat} (h : k < n) : at0 (runs n g) k = g k := by
  unfold at0 runs
  rw [List.getD_eq_getElem?_getD, List.getElem?_map, List.getElem?_range h]
  rfl
def ringF (ns : List Int) (n : Nat) (m : Int) : List Int :=
  if at0 ns 2 % 5 = 0 then runs n fun k => at0 ns (4 + k) % m
  else if at0 ns 2 % 5 = 1 then runs n fun k => mixed (at0 ns 2) k % minI m (2 + at0 ns 2 / 5 % 3)
  else if at0 ns 2 % 5 = 2 then List.replicate (at0 ns 2 / 5 % ((n : Int) + 1)).toNat (at0 ns 2 / 50 % m) ++ List.replicate (n - (at0 ns 2 / 5 % ((n : Int) + 1)).toNat) (at0 ns 2 / 5000 % m)
  else if at0 ns 2 % 5 = 3 then runs n fun k => (at0 ns 2 / 5 + (k : Int) * (1 + at0 ns 2 / 500 % 3)) % m
  else runs n fun k => mixed (at0 ns 2) k % m
theorem ring_of_runs {n : Nat} {m : Int} (hn : 2 ≤ n) (hm : 2 ≤ m) {g : Nat → Int} (h : ∀ k, k < n → 0 ≤ g k ∧ g k < m) : Ring n m (runs n g) :=
  ⟨runs_len n g, hn, hm, fun k hk => by rw [runs_at n g hk]; exact (h k hk).1, fun k hk => by rw [runs_at n g hk]; exact (h k hk).2⟩
theorem ringF_ring (ns : List Int) {n : Nat} {m : Int} (hn : 2 ≤ n) (hm : 2 ≤ m) : Ring n m (ringF ns n m) := by
  have md : ∀ x : Int, 0 ≤ x % m ∧ x % m < m := fun x => ⟨Int.emod_nonneg _ (by omega), Int.emod_lt_of_pos _ (by omega)⟩
  unfold ringF
  split
  · exact ring_of_runs hn hm fun k _ => md _
  split
  · refine ring_of_runs hn hm fun k _ => ?_
    have h : 0 < minI m (2 + at0 ns 2 / 5 % 3) ∧ minI m (2 + at0 ns 2 / 5 % 3) ≤ m := by
      unfold minI
      split <;> omega
    have a := Int.emod_nonneg (mixed (at0 ns 2) k) (show minI m (2 + at0 ns 2 / 5 % 3) ≠ 0 by omega)
    have b := Int.emod_lt_of_pos (mixed (at0 ns 2) k) h.1
    omega
  split
  · have a := Int.emod_nonneg (at0 ns 2 / 5) (show (n : Int) + 1 ≠ 0 by omega)
    have b := Int.emod_lt_of_pos (at0 ns 2 / 5) (show (0 : Int) < (n : Int) + 1 by omega)
    obtain ⟨i, hi⟩ : ∃ i, i = (at0 ns 2 / 5 % ((n : Int) + 1)).toNat := ⟨_, rfl⟩
    rw [← hi]
    have hin : i ≤ n := by omega
    have key : ∀ k, k < n → 0 ≤ at0 (List.replicate i (at0 ns 2 / 50 % m) ++ List.replicate (n - i) (at0 ns 2 / 5000 % m)) k ∧ at0 (List.replicate i (at0 ns 2 / 50 % m) ++ List.replicate (n - i) (at0 ns 2 / 5000 % m)) k < m := fun k hk => by
      unfold at0
      rw [List.getD_eq_getElem?_getD]
      by_cases c : k < i
      · rw [List.getElem?_append_left (by rw [List.length_replicate]; exact c), List.getElem?_replicate, if_pos c]
        exact md _
      · rw [List.getElem?_append_right (by rw [List.length_replicate]; omega), List.getElem?_replicate, List.length_replicate, if_pos (by omega)]
        exact md _
    refine ⟨?_, hn, hm, fun k hk => (key k hk).1, fun k hk => (key k hk).2⟩
    rw [List.length_append, List.length_replicate, List.length_replicate]
    omega
  split
  · exact ring_of_runs hn hm fun k _ => md _
  · exact ring_of_runs hn hm fun k _ => md _
def sp_law_ring (K : PySem.W.Frag) : Sp := fun vs H Q _ => ∃ (a : Addr) (ns : List Int) (n : Nat) (m : Int), vs = [.ref a, .int (n : Int), .int m] ∧ SqL K H a (I ns) ∧ 2 ≤ n ∧ n ≤ 12 ∧ 2 ≤ m ∧ m ≤ 100 ∧
  ∀ H' p, Same H H' → SqT K H' p (I (ringF ns n m)) → Q (.ref p) H'
/-- a sequence of ints, a tuple or a list -/
def Sq (K : PySem.W.Frag) (H : Hp) (a : Addr) (xs : List V) : Prop := SqL K H a xs ∨ SqT K H a xs
theorem Sq.same {K : PySem.W.Frag} {H H' : Hp} {a : Addr} {xs : List V} (s : Same H H') (h : Sq K H a xs) : Sq K H' a xs := h.elim (fun h => .inl (s.seq h)) fun h => .inr (s.tup h)
section
variable {X : Cx}
def rIxSq (K : PySem.W.Frag) : R2 := fun x y H Q => ∃ p xs i v, x = .ref p ∧ y = .int i ∧ Sq K H p xs ∧ atI xs i = some v ∧ Q v H
theorem ix_sq : IxR X (rIxSq X.K) := by
  intro value slice pins s σ H x y v u Q I rx ry h hs
  obtain ⟨p, xs, i, z, ex, ey, hq, he, q⟩ := h
  rcases hq with hq | hq
  · exact ix_list value slice pins s σ H x y v u Q I rx ry ⟨p, xs, i, z, ex, ey, hq, he, q⟩ hs
  · exact ix_tup value slice pins s σ H x y v u Q I rx ry ⟨p, xs, i, z, ex, ey, hq, he, q⟩ hs
end
def sp_law_able (K : PySem.W.Frag) : Sp := fun vs H Q _ => ∃ (a : Addr) (r : List Int), vs = [.ref a] ∧ Sq K H a (I r) ∧ r.length ≤ 1000 ∧
  ∀ H' p, Same H H' → H p = none → H' p = some (.lst (N (able r))) → Q (.ref p) H'
def sp_law_step (K : PySem.W.Frag) : Sp := fun vs H Q _ => ∃ (a : Addr) (r : List Int) (m : Int) (k : Nat), vs = [.ref a, .int m, .int (k : Int)] ∧ SqT K H a (I r) ∧ k < r.length ∧ r.length ≤ 1000 ∧ 0 < m ∧
  ∀ H' p, Same H H' → SqT K H' p (I (HR.moved m r k)) → Q (.ref p) H'
end HW
namespace HW
open PySem PySem.Spec PyProof.Rows L2 HR
/-! ### == of lists and tuples of ints -/
def dI (r : List Int) : List PyData := r.map PyData.int
theorem eqv_dI : ∀ r s : List Int, PyData.eqvAll (dI r) (dI s) = decide (r = s)
  | [], [] => rfl
  | [], _ :: _ => rfl
  | _ :: _, [] => rfl
  | x :: r, y :: s => by
    show (PyData.eqv (.int x) (.int y) && PyData.eqvAll (dI r) (dI s)) = decide (x :: r = y :: s)
    rw [eqv_dI r s]
    show ((x == y) && decide (r = s)) = decide (x :: r = y :: s)
    by_cases h1 : x = y
    · subst h1
      by_cases h2 : r = s
      · subst h2; simp
      · simp [h2]
    · simp [h1]
theorem can_dI : ∀ r : List Int, PyData.canLayAll0 (dI r) = true
  | [] => rfl
  | x :: r => by
    show (PyData.canLay0 (.int x) && PyData.canLayAll0 (dI r)) = true
    rw [can_dI r]
    rfl
theorem depth_dI : ∀ r : List Int, PyData.depthAll (dI r) = 0
  | [] => rfl
  | x :: r => by
    show max (PyData.depth (.int x)) (PyData.depthAll (dI r)) = 0
    rw [depth_dI r]
    rfl
theorem shaped_L (r : List Int) : SeqAt.shaped (.list (dI r)) = true := by
  unfold SeqAt.shaped
  show (PyData.canLayAll0 (dI r) && decide (PyData.depthAll (dI r) + 1 ≤ 64)) = true
  rw [can_dI, depth_dI]
  rfl
theorem shaped_T (r : List Int) : SeqAt.shaped (.tuple (dI r)) = true := by
  unfold SeqAt.shaped
  show (PyData.canLayAll0 (dI r) && decide (PyData.depthAll (dI r) + 1 ≤ 64)) = true
  rw [can_dI, depth_dI]
  rfl
theorem dp_I {K : PySem.W.Frag} {H : Hp} : ∀ r : List Int, DpAll K H (I r) (dI r)
  | [] => .nil
  | x :: r => .cons (.int x) (dp_I r)
theorem dp_L {K : PySem.W.Frag} {H : Hp} {a : Addr} {r : List Int} (h : SqL K H a (I r)) : Dp K H (.ref a) (.list (dI r)) := .lst h (dp_I r)
theorem dp_T {K : PySem.W.Frag} {H : Hp} {a : Addr} {r : List Int} (h : SqT K H a (I r)) : Dp K H (.ref a) (.tuple (dI r)) := .tup h (dp_I r)
/-- ints by places -/
abbrev Z (l : List Nat) : List Int := l.map fun (k : Nat) => (k : Int)
theorem N_Z (l : List Nat) : N l = I (Z l) := by
  unfold N I Z
  rw [List.map_map]
  rfl
theorem Z_inj : ∀ {k l : List Nat}, Z k = Z l ↔ k = l
  | [], [] => ⟨fun _ => rfl, fun _ => rfl⟩
  | [], _ :: _ => ⟨(fun h => nomatch h), (fun h => nomatch h)⟩
  | _ :: _, [] => ⟨(fun h => nomatch h), (fun h => nomatch h)⟩
  | a :: k, b :: l => by
    constructor
    · intro h
      have h1 : ((a : Int)) = (b : Int) := (List.cons.inj h).1
      have h2 := (Z_inj (k := k) (l := l)).mp (List.cons.inj h).2
      rw [h2, show a = b by omega]
    · intro h; rw [h]
section
variable {X : Cx}
def rEqI (K : PySem.W.Frag) (g : Bool → Bool) : R2 := fun x y H Q => ∃ (a b : Addr) (r s : List Int), x = .ref a ∧ y = .ref b ∧ ((SqL K H a (I r) ∧ SqL K H b (I s)) ∨ (SqT K H a (I r) ∧ SqT K H b (I s))) ∧ Q (.bl (g (decide (r = s)))) H
theorem op_eqI (hu : X.A.units + 64 < cLine) : OpR X (compareOp .Eq) (rEqI X.K fun b => b) := by
  intro pins s σ H x y v u Q I rx ry h
  obtain ⟨a, b, r, s', ex, ey, hs, q⟩ := h
  subst ex ey
  rcases hs with ⟨h1, h2⟩ | ⟨h1, h2⟩
  · refine op_eqD hu pins s σ H _ _ v u Q I rx ry ⟨_, _, dp_L h1, dp_L h2, shaped_L _, shaped_L _, ?_⟩
    show Q (.bl (PyData.eqvAll (dI r) (dI s'))) H
    rw [eqv_dI]
    exact q
  · refine op_eqD hu pins s σ H _ _ v u Q I rx ry ⟨_, _, dp_T h1, dp_T h2, shaped_T _, shaped_T _, ?_⟩
    show Q (.bl (PyData.eqvAll (dI r) (dI s'))) H
    rw [eqv_dI]
    exact q
theorem op_neI (hu : X.A.units + 64 < cLine) : OpR X (compareOp .NotEq) (rEqI X.K fun b => !b) := by
  intro pins s σ H x y v u Q I rx ry h
  obtain ⟨a, b, r, s', ex, ey, hs, q⟩ := h
  subst ex ey
  rcases hs with ⟨h1, h2⟩ | ⟨h1, h2⟩
  · refine op_neD hu pins s σ H _ _ v u Q I rx ry ⟨_, _, dp_L h1, dp_L h2, shaped_L _, shaped_L _, ?_⟩
    show Q (.bl (!PyData.eqvAll (dI r) (dI s'))) H
    rw [eqv_dI]
    exact q
  · refine op_neD hu pins s σ H _ _ v u Q I rx ry ⟨_, _, dp_T h1, dp_T h2, shaped_T _, shaped_T _, ?_⟩
    show Q (.bl (!PyData.eqvAll (dI r) (dI s'))) H
    rw [eqv_dI]
    exact q
end
theorem inV_I {z : Int} : ∀ {r : List Int}, inV (.int z) (I r) = decide (z ∈ r)
  | [] => rfl
  | x :: r => by
    show ((x == z) || inV (.int z) (I r)) = decide (z ∈ x :: r)
    rw [inV_I (r := r)]
    by_cases h1 : x = z
    · subst h1; simp
    · have h2 : ¬ z = x := fun e => h1 e.symm
      simp [h1, h2]
theorem flat_I : ∀ r : List Int, (I r).all flatV = true
  | [] => rfl
  | x :: r => by
    show (flatV (.int x) && (I r).all flatV) = true
    rw [flat_I r]
    rfl
theorem mem_Z {z : Int} {l : List Nat} : z ∈ Z l ↔ 0 ≤ z ∧ z.toNat ∈ l := by
  unfold Z
  rw [List.mem_map]
  constructor
  · rintro ⟨k, hk, rfl⟩
    exact ⟨by omega, by simpa using hk⟩
  · rintro ⟨h1, h2⟩
    exact ⟨z.toNat, h2, by omega⟩
/-! ### isinstance -/
theorem ty_T {K : PySem.W.Frag} {H : Hp} {a : Addr} {xs : List V} (h : SqT K H a xs) : TyX K H (.ref a) (.type "tuple") := by
  rcases h with (h | ⟨o, h⟩) | ⟨o, _, _, e, c, _⟩
  · exact .base (.tup h)
  · exact .fTuple h
  · exact .kTuple e c
theorem ty_L {K : PySem.W.Frag} {H : Hp} {a : Addr} {xs : List V} (h : SqL K H a xs) : TyX K H (.ref a) (.type "list") := by
  rcases h with (h | ⟨o, h⟩) | ⟨o, _, _, e, c, _⟩
  · exact .base (.lst h)
  · exact .base (.frz h)
  · exact .kList e c
theorem ty_I {K : PySem.W.Frag} {H : Hp} {i : Int} : TyX K H (.int i) (.type "int") := .base (.int i)
theorem ty_B {K : PySem.W.Frag} {H : Hp} {b : Bool} : TyX K H (.bl b) (.type "bool") := .base (.bl b)
theorem kt_TT {K : PySem.W.Frag} : PySem.W.kitOne K (.type "tuple") (.type "tuple") = some true := kit_ty (by decide +kernel)
theorem kt_IT {K : PySem.W.Frag} : PySem.W.kitOne K (.type "int") (.type "tuple") = some false := kit_ty (by decide +kernel)
theorem kt_LT {K : PySem.W.Frag} : PySem.W.kitOne K (.type "list") (.type "tuple") = some false := kit_ty (by decide +kernel)
theorem kt_IB {K : PySem.W.Frag} : PySem.W.kitOne K (.type "int") (.type "bool") = some false := kit_ty (by decide +kernel)
theorem kt_BB {K : PySem.W.Frag} : PySem.W.kitOne K (.type "bool") (.type "bool") = some true := kit_ty (by decide +kernel)
theorem kt_II {K : PySem.W.Frag} : PySem.W.kitOne K (.type "int") (.type "int") = some true := kit_ty (by decide +kernel)
theorem kt_LL {K : PySem.W.Frag} : PySem.W.kitOne K (.type "list") (.type "list") = some true := kit_ty (by decide +kernel)
theorem kt_IL {K : PySem.W.Frag} : PySem.W.kitOne K (.type "int") (.type "list") = some false := kit_ty (by decide +kernel)
theorem kt_TL {K : PySem.W.Frag} : PySem.W.kitOne K (.type "tuple") (.type "list") = some false := kit_ty (by decide +kernel)
theorem kt_LI {K : PySem.W.Frag} : PySem.W.kitOne K (.type "list") (.type "int") = some false := kit_ty (by decide +kernel)
theorem b_tuple : bootBuiltins "tuple" = some (.type "tuple") := by decide +kernel
theorem b_list : bootBuiltins "list" = some (.type "list") := by decide +kernel
theorem b_bool : bootBuiltins "bool" = some (.type "bool") := by decide +kernel
theorem b_int : bootBuiltins "int" = some (.type "int") := by decide +kernel
/-- the class T as a value -/
theorem pty {X : Cx} {x : Str} {T : String} {pos : Pos} (hg : Gl X x) (hm : X.mg x = none) (hv : bootBuiltins x = some (.type T)) (hn : x ≠ "__name__" := by decide) (hd : (x == ("__debug__" : Str)) = false := by decide) : PE X (.Name x pos) (tC (.ty T)) :=
  pe_bltn hg hm hv rfl hn hd
/-! ### alike -/
/-- what told and due are read as -/
abbrev Rd1 (α : Type) := Hp → V → α → Prop
def RI : Rd1 Int := fun _ x i => x = .int i
def RT {α : Type} (K : PySem.W.Frag) (R : Rd1 α) : Rd1 (List α) := fun H x l => ∃ a xs, x = .ref a ∧ SqT K H a xs ∧ Paired (R H) xs l ∧ l.length ≤ 1000
def Stay {α : Type} (R : Rd1 α) : Prop := ∀ H H' x u, Same H H' → R H x u → R H' x u
theorem stay_RI : Stay RI := fun _ _ _ _ _ h => h
theorem paired_imp {α β : Type} {F G : α → β → Prop} (h : ∀ a b, F a b → G a b) : ∀ {l : List α} {m : List β}, Paired F l m → Paired G l m
  | _, _, .nil => .nil
  | _, _, .cons a t => .cons (h _ _ a) (paired_imp h t)
theorem paired_get {α β : Type} {F : α → β → Prop} : ∀ {l : List α} {m : List β} {i : Nat} {b : β}, Paired F l m → m[i]? = some b → ∃ a, l[i]? = some a ∧ F a b
  | _, _, _, _, .nil, e => by simp at e
  | _, _, 0, _, .cons h _, e => by
    simp at e
    subst e
    exact ⟨_, rfl, h⟩
  | _, _, i + 1, b, .cons _ t, e => by
    obtain ⟨a, h1, h2⟩ := paired_get (i := i) (b := b) t (by simpa using e)
    exact ⟨a, by simpa using h1, h2⟩
theorem stay_RT {α : Type} {K : PySem.W.Frag} {R : Rd1 α} (h : Stay R) : Stay (RT K R) := fun H H' x l s ⟨a, xs, e, hT, hp, hl⟩ => ⟨a, xs, e, s.tup hT, paired_imp (fun v u q => h H H' v u s q) hp, hl⟩
def sp_law_alike {α : Type} [DecidableEq α] (R : Rd1 α) : Sp := fun vs H Q _ => ∃ (x y : V) (u v : α), vs = [x, y] ∧ R H x u ∧ R H y v ∧ ∀ H', Same H H' → Q (.bl (decide (u = v))) H'
def spNo : Sp := fun _ _ _ _ => False
theorem paired_I {H : Hp} : ∀ r : List Int, Paired (RI H) (I r) r
  | [] => .nil
  | x :: r => .cons rfl (paired_I r)
theorem RT_I {K : PySem.W.Frag} {H : Hp} {a : Addr} {r : List Int} (h : SqT K H a (I r)) (hl : r.length ≤ 1000) : RT K RI H (.ref a) r := ⟨a, _, rfl, h, paired_I r, hl⟩
theorem kept_nil {f : Nat → Bool} {v : Nat → V} {n : Nat} : ((List.range n).filter f) = [] ↔ ∀ i, i < n → f i = false := by
  rw [List.filter_eq_nil_iff]
  constructor
  · intro h i hi
    simpa using h i (List.mem_range.mpr hi)
  · intro h i hi
    simpa using h i (List.mem_range.mp hi)
theorem alike_lists {α : Type} [DecidableEq α] {l m : List α} (hl : l.length = m.length) : decide (Z ((List.range m.length).filter fun i => !decide (l[i]? = m[i]?)) = []) = decide (l = m) := by
  by_cases e : l = m
  · subst e
    rw [decide_eq_true rfl]
    refine decide_eq_true ?_
    have : (List.range l.length).filter (fun i => !decide (l[i]? = l[i]?)) = [] := by
      rw [List.filter_eq_nil_iff]
      intro i _
      simp
    rw [this]
    rfl
  · rw [decide_eq_false e]
    refine decide_eq_false fun q => e ?_
    have q2 : (List.range m.length).filter (fun i => !decide (l[i]? = m[i]?)) = [] := List.map_eq_nil_iff.mp q
    rw [List.filter_eq_nil_iff] at q2
    refine List.ext_getElem? fun i => ?_
    by_cases hi : i < m.length
    · have := q2 i (List.mem_range.mpr hi)
      simpa using this
    · rw [List.getElem?_eq_none (by omega), List.getElem?_eq_none (by omega)]
/-- told and due as lists of ints -/
def sp_law_listed (K : PySem.W.Frag) : Sp := fun vs H Q _ => ∃ (a b : Addr) (r s : List Int), vs = [.ref a, .ref b] ∧ SqL K H a (I r) ∧ SqL K H b (I s) ∧ r.length ≤ 1000 ∧ s.length ≤ 1000 ∧ ∀ H', Same H H' → Q (.bl (decide (r = s))) H'
end HW
namespace HW
open PySem PySem.Spec PyProof.Rows L2 HR
/-! ### a def that is handed the error which is being handled -/
section
variable {X : Cx}
/-- how often one truth stands in a list of truths -/
def tr (b : Bool) (v : Value) : Bool := match v with
  | .bool c => c == b
  | _ => false
theorem tr_at {A : Around} {s : Shared} {b : Bool} : ∀ {bs : List Bool} {us : List Value}, Vals (bs.map V.bl) us → ∀ y ∈ us, SeqAt.EqAt A s y (.bool b) (tr b y)
  | [], us, h, y, hy => by
    cases h
    cases hy
  | c :: bs, us, h, y, hy => by
    cases h with
    | cons h1 h2 =>
      cases h1
      rcases List.mem_cons.mp hy with e | e
      · subst e
        exact SeqAt.EqAt.bool_bool c b
      · exact tr_at h2 y e
theorem tr_count {b : Bool} : ∀ {bs : List Bool} {us : List Value}, Vals (bs.map V.bl) us → us.countP (tr b) = bs.count b
  | [], us, h => by
    cases h
    rfl
  | c :: bs, us, h => by
    cases h with
    | cons h1 h2 =>
      cases h1
      rw [List.countP_cons, List.count_cons, tr_count h2] <;> rfl
def rCntB (K : PySem.W.Frag) : V → List V → Hp → VK → Prop := fun x xs H Q => ∃ (p : Addr) (bs : List Bool) (b : Bool), x = .ref p ∧ xs = [.bl b] ∧ SqL K H p (bs.map V.bl) ∧ Q (.int (bs.count b : Nat)) H
theorem mt_bcount : MtR X "list.count" (rCntB X.K) := by
  intro pins s σ H x xs v us Q I rx rxs h
  obtain ⟨p, bs, b, rfl, rfl, hs, q⟩ := h
  cases rx
  obtain ⟨u, rfl, ru⟩ := rxs.one
  cases ru
  obtain ⟨its, rv, ⟨⟨cls, dd, data, sl⟩, n, ho, hc, hdn, hd⟩, hlen⟩ := I.list hs
  simp only at hc hd
  subst hc hd
  refine call_meets PySem.F.slot_list_count ⟨_, ho, rfl⟩ PySem.F.entry_list_count (PySem.F.args_list_count_2 _ _)
    (SeqAt.list_countAt p its.toArray n dd sl (.bool b) (tr b)) ⟨ho, fun y hy => tr_at rv y (by simpa using hy), ?_⟩
  have ec : its.toArray.toList.countP (tr b) = bs.count b := tr_count rv
  refine ⟨.int (bs.count b : Nat), H, I.tok _, ⟨s.toks, ?_⟩, q⟩
  rw [← ec]
end
/-- what is asked of the class of an error that is told apart -/
structure Kd (K : PySem.W.Frag) (cs : List Addr) (cE D : Addr) (j : Nat) : Prop where
  e : ExcC K D
  i : ∀ (i : Nat) (c : Addr), cs[i]? = some c → PySem.W.kitOne K (.ref D) (.ref c) = some (decide (i = j))
  h : PySem.W.kitOne K (.ref D) (.ref cE) = some true
  v : PySem.W.kitOne K (.ref D) (.type "ValueError") = some true
  m : PySem.W.exmOne K (.ref D) (.ref cE) = some true
section
variable {X : Cx}
/-- isinstance(e, c), e the error that the frame's caller handles -/
theorem call_isP {a D : Addr} {oe : Obj} (C : ExcC X.K D) (hp : (a, oe) ∈ X.pn) (hz : Zc (.ref D) none oe) (hf : ∃ vs, oe.data = .fields vs) : CallR X (.builtin "isinstance") (rIsE X.K D a) := by
  intro pins s σ H xs us Q I r h
  obtain ⟨c, cv, b, rfl, hcv, e, q⟩ := h
  obtain ⟨u1, u2, rfl, r1, r2⟩ := vals2 r
  cases r1
  have ec := hcv _ r2
  subst ec
  have hget := (I.pin (a, oe) (List.mem_append_left _ hp)).1
  obtain ⟨vs, hv⟩ := hf
  have J : PySem.W.InstAt s.heap a oe D none := by
    obtain ⟨oc, od, oda, osl⟩ := oe
    obtain ⟨h1, h2⟩ := hz
    dsimp only at h1 h2 hv
    subst h1 h2 hv
    exact ⟨hget, rfl, rfl, trivial⟩
  exact PySem.W.kia_one (PySem.W.handS_kitx_exc C.hg C.hk C.hs C.hd C.ha C.hn C.ht C.hm) I.kIn J e (fun z => nomatch z) fun tk => ⟨.bl b, H, I.kept (t' := tk) fun _ _ z => z, rfl, q⟩
end
theorem b_verr : bootBuiltins "ValueError" = some (.type "ValueError") := by decide +kernel
/-- a def whose caller handles the error at a, of the class cls -/
structure FnE (P : Program) (w : World) (K : PySem.W.Frag) (mg : Str → Option Value) (base : Heap) (k : Nat) (f : Addr) (fd : FuncData) (ps : List Str) (sp : Value → Option Addr → Addr → Sp) : Prop where
  len : ∀ cls d a vs H Q E, sp cls d a vs H Q E → vs.length = ps.length
  run : ∀ (A : Around) (outer : List Env) (s : Shared) (H : Hp) (args : Args) (us : List Value) (vs : List V) (Q : VK) (E : XK) (a : Addr) (oe : Obj) (cls : Value) (d : Option Addr), L2H.RoomH k A → Zc cls d oe → (∃ vs, oe.data = .fields vs) → L2H.PinOk outer H s (a, oe) →
    Env0 P w K mg base A outer s H → BindsTo s fd args (ps.zip us) → Vals vs us → sp cls d a vs H Q E → codeAny (model P w) A (.call (.ref f) args) (CR L2.CX0 outer P w H s Q E) s
theorem Fun.okE {P : Program} {w : World} {K : PySem.W.Frag} {mg : Str → Option Value} {base : Heap} {x qual : Str} {st : Stmt} {f : Addr} {fd : FuncData} {N ps : List Str} {k : Nat} {sp : Value → Option Addr → Addr → Sp} (F : Fun K x qual st f fd) (S : FnScope N ps (defScope st))
    (len : ∀ cls d a vs H Q E, sp cls d a vs H Q E → vs.length = ps.length)
    (hbody : ∀ (cdv : Value) (A : Around) (outer : List Env) (s : Shared) (H : Hp) (vs : List V) (Q : VK) (E : XK) (a : Addr) (oe : Obj) (cls : Value) (d : Option Addr), Zc cls d oe → (∃ vs, oe.data = .fields vs) → L2H.RoomH k (A.deeper (envOfC qual (defScope st) s.heap.objs.size f cdv)) → sp cls d a vs H Q E →
      ∃ t, PSs (L2H.cxH L2.CX0 P w K mg base N qual (defScope st) f cdv A outer s H E (a, oe)) (defBody st) t ∧ t { nx := fun _ H' => Q .non H', rt := Q } (L2.start N vs) H) : FnE P w K mg base (k + 1) f fd ps sp := by
  obtain ⟨oc, od, kV, doc, pm, an, cdv, ct, osl, rfl, lk, hcd⟩ := F.ex
  refine ⟨len, fun A outer s H args us vs Q E a oe cls d hr hz hf hpin e0 hb r hsp => ?_⟩
  have hl := len _ _ _ _ _ _ _ hsp
  have KX : K.In s.heap := e0.mod.kin.keeps fun b o e => (e0.bs b o e).1
  have lim : s.heap.NoLimit := e0.mod.nolimit.keeps fun b o e => (e0.bs b o e).1
  have hkind : ∀ y ∈ ps.zip us, (defScope st).names.lookup y.1 = some .local ∨ ((defScope st).names.lookup y.1 = some .cell ∧ ((cellsFrom (s.heap.objs.size + 1) (defScope st).names []).lookup y.1).isSome = true) := fun ⟨n, v⟩ hy => by
    rcases S.par n (List.of_mem_zip hy).1 with q | q
    · exact .inl q
    · exact .inr ⟨q, PySem.W.cellsFrom_some _ _ _ (.inl q)⟩
  refine codeAny_call_function hr.depth (KX _ _ lk) rfl S.co S.gen rfl (PySem.W.codeRec_of KX hcd) (hb _ _ _ _ ?_)
  refine wpAny_newFunctionEnv_cells S.kind hkind fun env he s1 y => ?_
  subst he
  refine ⟨lim.keeps y.toInCall.keep, codeAny_func ?_⟩
  obtain ⟨t, ht, hq⟩ := hbody cdv A outer s H vs Q E a oe cls d hz hf (hr.deeper _) hsp
  have I0 := L2H.inv_startH (CX := L2.CX0) (P := P) (w := w) (K := K) (mg := mg) (base := base) (qual := qual) (f := f) (cd := cdv) (E := E) S hpin e0 hl r y
  refine wpAny_mono (ht.run [] s1 (L2.start N vs) H _ I0 hq) (fun fl s' hs => ?_) fun e s' hs => hs
  cases fl with
  | ret u =>
    obtain ⟨v, σ', H', J, rv, q⟩ := hs
    exact ⟨v, H', J.os, J.bare, J.base, J.hok, rv, q⟩
  | next =>
    obtain ⟨σ', H', J, q⟩ := hs
    exact ⟨V.non, H', J.os, J.bare, J.base, J.hok, rfl, q⟩
  | brk =>
    obtain ⟨_, _, _, q⟩ := hs
    exact False.elim q
  | cont =>
    obtain ⟨_, _, _, q⟩ := hs
    exact False.elim q
section
variable {X : Cx} {k : Nat} {f a : Addr} {oe : Obj} {cls : Value} {d : Option Addr} {fd : FuncData} {ps : List Str} {sp : Value → Option Addr → Addr → Sp} {x : Str} {p pos : Pos} {e : Expr} {es : List Expr} {t : TA}
def tCallE (sp : Sp) (t : TA) : TE := fun σ H Q => t σ H fun vs H1 => sp vs H1 Q fun _ _ _ => False
theorem pe_callE (F : FnE X.prog X.w X.K X.mg X.base k f fd ps sp) (hr : L2H.RoomH k X.A) (hp : (a, oe) ∈ X.pn) (hz : Zc cls d oe) (hf : ∃ vs, oe.data = .fields vs) (hg : Gl X x) (hm : X.mg x = some (.ref f)) (hk : PySem.W.keepIn X.K (.ref f) = true) (hb : Binds X.K fd ps [])
    (ha : PA X (e :: es) t) (hdb : (x == ("__debug__" : Str)) = false := by decide) (he : starEach (e :: es) X.env = (false, eval e X.env) :: starEach es X.env := by rfl) (hpl : (backTo pos (starEach es X.env)).any (·.1) = false := by rfl) :
    PE X (.Call (.Name x p) (e :: es) [] pos) (tCallE (sp cls d a) t) := by
  refine ⟨fun pins s σ H Q I h => ?_⟩
  refine wpAny_Call_Name_kw (ld_glob I hg hm ?_ hdb)
  refine PySem.W.callWith_K (h₀ := X.base) I.ok.mod.kin hk (thn (ha.run pos pins s σ H _ I h) fun us s1 ⟨vs, H1, I1, r, q⟩ => ⟨I1.kIn, ?_⟩) he hpl
  have hl : us.length = ps.length := by rw [← r.length]; exact F.len _ _ _ _ _ _ _ q
  have b := hb s1 us I1.kIn (by rw [List.append_nil]; exact hl)
  rw [List.append_nil] at b
  have P1 := I1.pin (a, oe) (List.mem_append_left _ hp)
  have hpin : L2H.PinOk X.stack H1 s1 (a, oe) := ⟨P1.1, P1.2.1, fun hm => (List.mem_cons.mp (I1.stkSub a hm)).elim P1.2.2.1 P1.2.2.2.1, P1.2.2.2.2⟩
  refine wpAny_call (codeAny_mono (F.run X.A X.stack s1 H1 ⟨us, []⟩ us vs Q _ a oe cls d hr hz hf hpin I1.env0 b r q) fun r s' hq => ?_)
  cases r with
  | error e => exact hq.elim
  | ok fl =>
    cases fl with
    | ret u => exact I1.after hq
    | next => exact False.elim hq
    | brk => exact False.elim hq
    | cont => exact False.elim hq
end
theorem hot_of {X : Cx} {a : Addr} {oe : Obj} {cls : Value} {d : Option Addr} {pn : List (Addr × Obj)} (hz : L2N.Zn cls d oe) (hf : ∃ vs, oe.data = .fields vs) : L2H.HotC (X.suite a ((a, oe) :: pn)) := by
  obtain ⟨vs, hv⟩ := hf
  exact ⟨(a, oe), ⟨rfl, vs, hv, hz.2.2 vs hv⟩, List.mem_cons_self⟩
theorem pi_range2H {X : Cx} {tg a b : Expr} {ta : TA} {p pos : Pos} (hg : Gl X "range") (hm : X.mg "range" = none) (ha : PA X [a, b] ta) (hs : starEach [a, b] X.env = [(false, eval a X.env), (false, eval b X.env)] := by rfl) (hs2 : starEach [b] X.env = [(false, eval b X.env)] := by rfl) :
    L2H.PIH X tg (.Call (.Name "range" p) [a, b] [] pos) (iRng2 ta) := by
  refine ⟨fun pins s σ H R I h => ?_⟩
  refine Call_ (ld_blt I hg hm boot_range (PyProof.Rows.callWith_type1 (thn (ha.run pos pins s σ H _ I h) fun us s1 ⟨vs, H1, I1, r1, q1⟩ => ?_) (by rw [hs, hs2]) (by rw [hs2]; rfl)))
  obtain ⟨i, j, e, ⟨q1, q2, q3, q4⟩, q⟩ := q1
  subst e
  obtain ⟨u1, u2, eu, ri, rj⟩ := vals2 r1
  subst eu
  obtain ⟨t, rfl⟩ := ri
  obtain ⟨t', rfl⟩ := rj
  exact call_range_2 (L2H.range_itH I1 q1 q2 q3 q4 q)
/-- _law_only(e, at): is e of the class at the place at, and of no other -/
def sp_law_only (K : PySem.W.Frag) (cs : List Addr) (cE : Addr) : Value → Option Addr → Addr → Sp := fun cls d a vs H Q _ => ∃ (D : Addr) (j i : Nat), cls = .ref D ∧ d = none ∧ Kd K cs cE D j ∧ j < 6 ∧ vs = [.ref a, .int (i : Int)] ∧ i < 6 ∧ cs.length = 6 ∧ ∀ H', Same H H' → Q (.bl (decide (i = j))) H'
end HW
namespace HW
open PySem PySem.Spec PyProof.Rows L2 HR
/-- an order that the law draws -/
def sp_law_order (K : PySem.W.Frag) : Sp := fun vs H Q _ => ∃ (a c : Addr) (ns r : List Int) (m : Int) (n t : Nat), vs = [.ref a, .ref c, .int m, .int (t : Int)] ∧ SqL K H a (I ns) ∧ SqT K H c (I r) ∧ Ring n m r ∧ n ≤ 12 ∧ t ≤ 1000 ∧
  ∀ H' p ks r', Same H H' → H p = none → H' p = some (.lst (N ks)) → Ex n m r ks r' → ks.length = t → Q (.ref p) H'
/-- the rings on the way, or a number for what is wrong -/
def sp_law_rings (K : PySem.W.Frag) : Sp := fun vs H Q _ => ∃ (a b : Addr) (r zs : List Int) (m : Int) (n : Nat), vs = [.ref a, .int m, .ref b] ∧ SqT K H a (I r) ∧ SqL K H b (I zs) ∧ zs.length ≤ 1000 ∧ Ring n m r ∧ n ≤ 12 ∧ m ≤ 100 ∧
  (∀ c H', goneA m [r] r zs = .error c → Same H H' → Q (.int (if c = true then 2 else 3)) H') ∧ ∀ rs H' p, goneA m [r] r zs = .ok rs → Same H H' → H p = none → Lists K H' p rs → Q (.ref p) H'
/-- told and due as lists of rings -/
def sp_law_listed2 (K : PySem.W.Frag) : Sp := fun vs H Q _ => ∃ (a b : Addr) (rs ss : List (List Int)), vs = [.ref a, .ref b] ∧ Lists K H a rs ∧ Lists K H b ss ∧ rs.length ≤ 1000 ∧ ss.length ≤ 1000 ∧ (∀ r ∈ rs, r.length ≤ 1000) ∧ (∀ r ∈ ss, r.length ≤ 1000) ∧ ∀ H', Same H H' → Q (.bl (decide (rs = ss))) H'
theorem paired_R {K : PySem.W.Frag} {H : Hp} : ∀ {xs : List V} {rs : List (List Int)}, Tups K H xs rs → (∀ r ∈ rs, r.length ≤ 1000) → Paired (RT K RI H) xs rs
  | _, _, .nil, _ => .nil
  | _, _, .cons ⟨a, e, h⟩ t, hl => .cons (by rw [e]; exact RT_I h (hl _ List.mem_cons_self)) (paired_R t fun r hr => hl r (List.mem_cons_of_mem _ hr))
theorem cut_I (r : List Int) (lo hi : Option Int) : ∃ s, cutV (I r) lo hi = I s := by
  refine ⟨(r.drop (HT.sIx (I r).length 0 lo)).take (HT.sIx (I r).length (I r).length hi - HT.sIx (I r).length 0 lo), ?_⟩
  unfold cutV I
  rw [List.map_take, List.map_drop]
theorem goneA_cons (m : Int) (rs : List (List Int)) (r : List Int) (z : Int) (zs : List Int) : goneA m rs r (z :: zs) = (match stepR m r z with
    | .error b => .error b
    | .ok r' => goneA m (rs ++ [r']) r' zs) := rfl
theorem goneA_len {m : Int} {n : Nat} : ∀ {zs : List Int} {rs ss : List (List Int)} {r : List Int}, r.length = n → (∀ x ∈ rs, x.length = n) → goneA m rs r zs = .ok ss → ss.length = rs.length + zs.length ∧ ∀ x ∈ ss, x.length = n
  | [], rs, ss, r, _, h2, h => by
    have e : rs = ss := by
      have q : Except.ok (ε := Bool) rs = .ok ss := h
      cases q
      rfl
    subst e
    exact ⟨rfl, h2⟩
  | z :: zs, rs, ss, r, h1, h2, h => by
    unfold goneA at h
    cases e : stepR m r z with
    | error b => rw [e] at h; cases h
    | ok r' =>
      rw [e] at h
      have h1' : r'.length = n := (stepR_len e).trans h1
      obtain ⟨q1, q2⟩ := goneA_len (zs := zs) (rs := rs ++ [r']) (ss := ss) (r := r') h1' (fun x hx => by
        rcases List.mem_append.mp hx with hx | hx
        · exact h2 x hx
        · rw [List.mem_singleton.mp hx]; exact h1') h
      refine ⟨?_, q2⟩
      rw [q1, List.length_append, List.length_cons]
      show rs.length + 1 + zs.length = rs.length + (zs.length + 1)
      omega
end HW
namespace HW
open PySem PySem.Spec PyProof.Rows L2 HR
/-- [v(lo + i) for i in range(lo, lo + n) if f(i)] -/
theorem lc_rl {lo : Int} {n : Nat} {g : TG} {tt : TT} {te : TE} {vs : List Nat} {σ : L2.St} {H1 : Hp} {D : Addr} {Qd : Hp → Prop} (f : Nat → Bool) (v : Nat → V) (hD : H1 D = none) (hn : n ≤ 1000)
    (hs : ∀ i H, i < n → Same H1 H → ∀ (Z : V → Hp → Prop) (M : Hp → Prop), (f i = true → ∀ H', Same H H' → Z (v i) H') → (f i = false → ∀ H', Same H H' → M H') →
      g (.int (lo + (i : Int))) (wipe σ vs) H fun σ2 H2 => wipe σ2 vs = wipe σ vs ∧ tt σ2 H2 fun b H3 => if b = true then te σ2 H3 Z else M H3)
    (hd : ∀ H, Same H1 H → H D = some (.lst (kept f v n)) → Qd H) :
    ∃ W : Nat → Nat → Hp → Prop, (∃ m, W 0 m (upd H1 D (.lst []))) ∧ ∀ i m H, W i m H →
      ((Itr lo n).stop i H ∧ Qd H) ∨ ((Itr lo n).go i H ∧ ∃ Nx : Hp → Prop, (∀ H', Nx H' → ∃ m', m' < m ∧ W (i + 1) m' H') ∧ ∀ x H', (Itr lo n).yld i H x H' → g x (wipe σ vs) H' fun σ2 H2 => wipe σ2 vs = wipe σ vs ∧ tt σ2 H2 fun b H3 =>
        if b = true then te σ2 H3 fun y H4 => ∃ acc, H4 D = some (.lst acc) ∧ acc.length < sizeLine ∧ Nx (upd H4 D (.lst (acc ++ [y]))) else Nx H3) := by
  refine lc_range (lo := lo) (fun i H => Same H1 H ∧ H D = some (.lst (kept f v i))) ⟨same_upd hD, upd_same⟩ (fun i H hi ⟨sm, hd⟩ => ?_) fun H ⟨sm, e⟩ => hd H sm e
  refine hs i H hi sm _ _ (fun hf H' s' => ?_) fun hf H' s' => ?_
  · refine ⟨_, s' _ _ hd, small1000 (Nat.le_trans (kept_len f v i) (by omega)), fun b o e => ?_, ?_⟩
    · rw [upd_ne (ne_of_none e hD)]
      exact s' _ _ (sm _ _ e)
    · rw [upd_same, kept_yes hf]
  · refine ⟨sm.trans s', ?_⟩
    rw [kept_no hf]
    exact s' _ _ hd
/-- [v(z) for z in zs if f(z)], zs a list of ints -/
theorem lc_l0 {K : PySem.W.Frag} {a : Addr} {zs : List Int} {g : TG} {tt : TT} {te : TE} {vs : List Nat} {σ : L2.St} {H1 : Hp} {D : Addr} {Qd : Hp → Prop} (f : Int → Bool) (v : Int → V) (hD : H1 D = none) (hn : zs.length ≤ 1000) (hl : SqL K H1 a (I zs))
    (hs : ∀ z H, z ∈ zs → Same H1 H → ∀ (Z : V → Hp → Prop) (M : Hp → Prop), (f z = true → ∀ H', Same H H' → Z (v z) H') → (f z = false → ∀ H', Same H H' → M H') →
      g (.int z) (wipe σ vs) H fun σ2 H2 => wipe σ2 vs = wipe σ vs ∧ tt σ2 H2 fun b H3 => if b = true then te σ2 H3 Z else M H3)
    (hd : ∀ H, Same H1 H → H D = some (.lst ((zs.filter f).map v)) → Qd H) :
    ∃ W : Nat → Nat → Hp → Prop, (∃ m, W 0 m (upd H1 D (.lst []))) ∧ ∀ i m H, W i m H →
      ((Itl K a).stop i H ∧ Qd H) ∨ ((Itl K a).go i H ∧ ∃ Nx : Hp → Prop, (∀ H', Nx H' → ∃ m', m' < m ∧ W (i + 1) m' H') ∧ ∀ x H', (Itl K a).yld i H x H' → g x (wipe σ vs) H' fun σ2 H2 => wipe σ2 vs = wipe σ vs ∧ tt σ2 H2 fun b H3 =>
        if b = true then te σ2 H3 fun y H4 => ∃ acc, H4 D = some (.lst acc) ∧ acc.length < sizeLine ∧ Nx (upd H4 D (.lst (acc ++ [y]))) else Nx H3) := by
  refine lc_list (K := K) (a := a) (xs := I zs) (fun i H => Same H1 H ∧ H D = some (.lst (((zs.take i).filter f).map v))) ⟨same_upd hD, upd_same⟩ (fun i H _ p => p.1.seq hl) (fun i x H hi ⟨sm, hd⟩ => ?_) fun H ⟨sm, e⟩ => hd H sm (by rw [e, len_I, List.take_length])
  rw [List.getElem?_map] at hi
  cases ei : zs[i]? with
  | none => rw [ei] at hi; cases hi
  | some z =>
    rw [ei] at hi
    cases hi
    have tk : zs.take (i + 1) = zs.take i ++ [z] := by rw [List.take_add_one, ei]; rfl
    refine hs z H (List.mem_of_getElem? ei) sm _ _ (fun hf H' s' => ?_) fun hf H' s' => ?_
    · refine ⟨_, s' _ _ hd, small1000 ?_, fun b o e => ?_, ?_⟩
      · rw [List.length_map]
        exact Nat.le_trans (List.length_filter_le _ _) (by rw [List.length_take]; omega)
      · rw [upd_ne (ne_of_none e hD)]
        exact s' _ _ (sm _ _ e)
      · rw [upd_same, tk, List.filter_append, List.map_append]
        simp [hf]
    · refine ⟨sm.trans s', ?_⟩
      rw [s' _ _ hd, tk, List.filter_append]
      simp [hf]
theorem most_alt {M : Int} (h1 : 2 ≤ M) (h2 : M ≤ 12) : ((most M.toNat : Nat) : Int) = 3 * (M * (M - 1) / 2) := by
  have key : ∀ k : _root_.Fin 13, ((most k.1 : Nat) : Int) = 3 * ((k.1 : Int) * ((k.1 : Int) - 1) / 2) := by decide
  have := key ⟨M.toNat, by omega⟩
  rw [this]
  show 3 * (((M.toNat : Nat) : Int) * (((M.toNat : Nat) : Int) - 1) / 2) = _
  rw [Int.toNat_of_nonneg (by omega)]
theorem kept_none {f : Nat → Bool} {v : Nat → V} {n : Nat} (h : ∀ i, i < n → f i = false) : kept f v n = [] := by
  unfold kept
  rw [List.filter_eq_nil_iff.mpr fun i hi => by rw [h i (List.mem_range.mp hi)]; exact Bool.false_ne_true]
  rfl
theorem counts_Z {n : Nat} {m : Int} {r r' : List Int} {ks : List Nat} (R : Ring n m r) (x : Ex n m r ks r') {k : Nat} (h0 : 0 < k) (hk : k < n) : at0 (counts (Z ks) n) k ≤ at0 (counts (Z ks) n) (k - 1) + 1 := by
  have cz : ∀ j : Nat, (Z ks).count ((j : Nat) : Int) = ks.count j := fun j => by
    unfold Z
    induction ks with
    | nil => rfl
    | cons a l ih =>
      rw [List.map_cons, List.count_cons, List.count_cons]
      have ih' : (l.map fun (k : Nat) => (k : Int)).count ((j : Nat) : Int) = l.count j := by
        clear ih x
        induction l with
        | nil => rfl
        | cons b l ih =>
          rw [List.map_cons, List.count_cons, List.count_cons, ih]
          by_cases e : b = j
          · subst e; simp
          · have : ¬ (b : Int) = (j : Int) := by omega
            simp [e, this]
      rw [ih']
      by_cases e : a = j
      · subst e; simp
      · have : ¬ (a : Int) = (j : Int) := by omega
        simp [e, this]
  have at1 : ∀ j, j < n → at0 (counts (Z ks) n) j = ((ks.count j : Nat) : Int) := fun j hj => by
    unfold at0 counts
    rw [List.getD_eq_getElem?_getD, List.getElem?_map, List.getElem?_range hj]
    show (((Z ks).count ((j : Nat) : Int) : Nat) : Int) = _
    rw [cz]
  rw [at1 k hk, at1 (k - 1) (by omega)]
  have := (x.cnt R k h0 hk).1
  omega
end HW
namespace HW
open PySem PySem.Spec PyProof.Rows L2 HR
/-! ### marks carried on -/
def mkStep (p : List Int × Int) (k : Nat) : List Int × Int := if k = 0 then (p.1.set 0 p.2, p.2 + 1) else (p.1.set k (at0 p.1 (k - 1)), p.2)
def mkF (n : Nat) (ks : List Nat) : List Int × Int := ks.foldl mkStep (marks n, (n : Int))
theorem mkF_snoc (n : Nat) (ks : List Nat) (k : Nat) : mkF n (ks ++ [k]) = mkStep (mkF n ks) k := by
  unfold mkF
  rw [List.foldl_append]
  rfl
theorem tracedA_cons (m : Int) (fs : List Int) (fr : Int) (r : List Int) (z : Int) (zs : List Int) : tracedA m fs fr r (z :: zs) = (match stepR m r z with
    | .error b => .error b
    | .ok r' => if z = 0 then tracedA m (fs.set 0 fr) (fr + 1) r' zs else tracedA m (fs.set z.toNat (at0 fs (z.toNat - 1))) fr r' zs) := rfl
theorem stepR_yes {m : Int} {r : List Int} {k : Nat} (hk : k < r.length) (h : may r k = true) : stepR m r (k : Int) = .ok (HR.moved m r k) := by
  unfold stepR
  rw [if_neg (by omega), Int.toNat_natCast, if_pos h]
theorem traced_ex {n : Nat} {m : Int} {r r' : List Int} {ks : List Nat} (R : Ring n m r) (x : Ex n m r ks r') : ∀ zs, tracedA m (marks n) n r (Z ks ++ zs) = tracedA m (mkF n ks).1 (mkF n ks).2 r' zs := by
  induction x with
  | nil => intro zs; rfl
  | @snoc ks r' k x hk hm ih =>
    intro zs
    have R' := x.ring R
    have e : Z (ks ++ [k]) ++ zs = Z ks ++ ((k : Int) :: zs) := by
      unfold Z
      rw [List.map_append, List.append_assoc]
      rfl
    rw [e, ih, tracedA_cons, stepR_yes (by rw [R'.len]; exact hk) hm, mkF_snoc]
    unfold mkStep
    by_cases c : k = 0
    · subst c
      rw [if_pos rfl]
      rfl
    · have c2 : ¬ (k : Int) = 0 := by omega
      rw [if_neg c]
      show (if (k : Int) = 0 then _ else _) = _
      rw [if_neg c2, Int.toNat_natCast]
def due (r : List Int) (n : Nat) (m mk : Int) : Int := if (n : Int) ≤ mk then (at0 r 0 + 1 + mk - n) % m else at0 r mk.toNat
def age (n : Nat) (mk : Int) : Int := if (n : Int) ≤ mk then mk else 0 - mk
structure Mk (n : Nat) (m : Int) (r r' fs : List Int) (fr : Int) : Prop where
  len : fs.length = n
  fr0 : (n : Int) ≤ fr
  top : at0 r' 0 = (at0 r 0 + (fr - n)) % m
  nn : ∀ k, k < n → 0 ≤ at0 fs k ∧ at0 fs k < fr
  val : ∀ k, k < n → at0 r' k = due r n m (at0 fs k)
  age : ∀ k, 0 < k → k < n → age n (at0 fs k) ≤ age n (at0 fs (k - 1))
theorem marks_len (n : Nat) : (marks n).length = n := by unfold marks; rw [List.length_map, List.length_range]
theorem marks_at {n k : Nat} (h : k < n) : at0 (marks n) k = (k : Int) := by
  unfold at0 marks
  rw [List.getD_eq_getElem?_getD, List.getElem?_map, List.getElem?_range h]
  rfl
theorem mk_ex {n : Nat} {m : Int} {r r' : List Int} {ks : List Nat} (R : Ring n m r) (x : Ex n m r ks r') : Mk n m r r' (mkF n ks).1 (mkF n ks).2 := by
  have n2 := R.n2
  induction x with
  | nil =>
    refine ⟨marks_len n, Int.le_refl _, ?_, fun k hk => ?_, fun k hk => ?_, fun k h0 hk => ?_⟩
    · show at0 r 0 = (at0 r 0 + ((n : Int) - n)) % m
      rw [Int.sub_self, Int.add_zero, Int.emod_eq_of_lt (R.lo 0 (by omega)) (R.hi 0 (by omega))]
    · show 0 ≤ at0 (marks n) k ∧ at0 (marks n) k < (n : Int)
      rw [marks_at hk]
      omega
    · show at0 r k = due r n m (at0 (marks n) k)
      rw [marks_at hk]
      unfold due
      rw [if_neg (by omega), Int.toNat_natCast]
    · show HW.age n (at0 (marks n) k) ≤ HW.age n (at0 (marks n) (k - 1))
      rw [marks_at hk, marks_at (by omega)]
      unfold HW.age
      rw [if_neg (by omega), if_neg (by omega)]
      omega
  | @snoc ks r' k x hk hm ih =>
    have R' := x.ring R
    have hl : k < r'.length := by rw [R'.len]; exact hk
    obtain ⟨i1, i2, i3, i4, i5, i6⟩ := ih
    rw [mkF_snoc]
    unfold mkStep
    by_cases c : k = 0
    · subst c
      rw [if_pos rfl]
      have hs : ∀ j, at0 ((mkF n ks).1.set 0 (mkF n ks).2) j = if j = 0 then (mkF n ks).2 else at0 (mkF n ks).1 j := fun j => at0_set (by rw [i1]; exact hk)
      have em : at0 (HR.moved m r' 0) 0 = (at0 r 0 + ((mkF n ks).2 + 1 - n)) % m := by
        rw [at0_moved hl, if_pos rfl, if_pos rfl, i3, Int.emod_add_emod]
        congr 1
        omega
      refine ⟨by show ((mkF n ks).1.set 0 _).length = n; rw [List.length_set, i1], by show (n : Int) ≤ (mkF n ks).2 + 1; omega, em, fun j hj => ?_, fun j hj => ?_, fun j h0 hj => ?_⟩
      · show 0 ≤ at0 ((mkF n ks).1.set 0 _) j ∧ at0 ((mkF n ks).1.set 0 _) j < (mkF n ks).2 + 1
        rw [hs]
        split
        · omega
        · have := i4 j hj
          omega
      · show at0 (HR.moved m r' 0) j = due r n m (at0 ((mkF n ks).1.set 0 _) j)
        rw [hs]
        by_cases cj : j = 0
        · subst cj
          rw [if_pos rfl, em]
          unfold due
          rw [if_pos i2]
          congr 1
          omega
        · rw [if_neg cj, at0_moved hl, if_neg cj]
          exact i5 j hj
      · show HW.age n (at0 ((mkF n ks).1.set 0 _) j) ≤ HW.age n (at0 ((mkF n ks).1.set 0 _) (j - 1))
        rw [hs, hs, if_neg (by omega)]
        by_cases cj : j - 1 = 0
        · rw [if_pos cj]
          have := i4 j hj
          unfold HW.age
          rw [if_pos i2]
          split <;> omega
        · rw [if_neg cj]
          exact i6 j h0 hj
    · rw [if_neg c]
      have hs : ∀ j, at0 ((mkF n ks).1.set k (at0 (mkF n ks).1 (k - 1))) j = if j = k then at0 (mkF n ks).1 (k - 1) else at0 (mkF n ks).1 j := fun j => at0_set (by rw [i1]; exact hk)
      refine ⟨by show ((mkF n ks).1.set k _).length = n; rw [List.length_set, i1], i2, by rw [at0_moved hl, if_neg (by omega)]; exact i3, fun j hj => ?_, fun j hj => ?_, fun j h0 hj => ?_⟩
      · show 0 ≤ at0 ((mkF n ks).1.set k _) j ∧ at0 ((mkF n ks).1.set k _) j < (mkF n ks).2
        rw [hs]
        split
        · exact i4 _ (by omega)
        · exact i4 j hj
      · show at0 (HR.moved m r' k) j = due r n m (at0 ((mkF n ks).1.set k _) j)
        rw [hs, at0_moved hl]
        by_cases cj : j = k
        · rw [if_pos cj, if_pos cj, if_neg c]
          exact i5 _ (by omega)
        · rw [if_neg cj, if_neg cj]
          exact i5 j hj
      · show HW.age n (at0 ((mkF n ks).1.set k _) j) ≤ HW.age n (at0 ((mkF n ks).1.set k _) (j - 1))
        rw [hs, hs]
        by_cases cj : j = k
        · subst cj
          rw [if_pos rfl, if_neg (by omega)]
          exact Int.le_refl _
        · rw [if_neg cj]
          by_cases cj2 : j - 1 = k
          · rw [if_pos cj2]
            have e1 := i6 j h0 hj
            rw [cj2] at e1
            have e2 := i6 k (by omega) hk
            omega
          · rw [if_neg cj2]
            exact i6 j h0 hj
/-- value and mark of each machine -/
def prs (r fs : List Int) (n : Nat) : List (List Int) := (List.range n).map fun k => [at0 r k, at0 fs k]
theorem prs_len (r fs : List Int) (n : Nat) : (prs r fs n).length = n := by unfold prs; rw [List.length_map, List.length_range]
theorem prs_at {r fs : List Int} {n k : Nat} (h : k < n) : (prs r fs n)[k]? = some [at0 r k, at0 fs k] := by
  unfold prs
  rw [List.getElem?_map, List.getElem?_range h]
  rfl
theorem prs_set {r fs r2 fs2 : List Int} {n k : Nat} (hk : k < n) (h : ∀ j, j < n → j ≠ k → at0 r2 j = at0 r j ∧ at0 fs2 j = at0 fs j) : (prs r fs n).set k [at0 r2 k, at0 fs2 k] = prs r2 fs2 n := by
  refine List.ext_getElem? fun j => ?_
  rw [List.getElem?_set, prs_len]
  by_cases hj : j < n
  · by_cases e : k = j
    · subst e
      rw [if_pos rfl, if_pos hk, prs_at hk]
    · rw [if_neg e, prs_at hj, prs_at hj, (h j hj (fun q => e q.symm)).1, (h j hj (fun q => e q.symm)).2]
  · rw [if_neg (by omega), List.getElem?_eq_none (by rw [prs_len]; omega), List.getElem?_eq_none (by rw [prs_len]; omega)]
theorem Tups.len {K : PySem.W.Frag} {H : Hp} {xs : List V} {rs : List (List Int)} (h : Tups K H xs rs) : xs.length = rs.length := Paired.length h
theorem Tups.set {K : PySem.W.Frag} {H : Hp} : ∀ {xs : List V} {rs : List (List Int)} {p : Addr} {r : List Int} (k : Nat), Tups K H xs rs → SqT K H p (I r) → Tups K H (xs.set k (.ref p)) (rs.set k r)
  | _, _, _, _, _, .nil, _ => .nil
  | _, _, p, r, 0, .cons _ t, h => .cons ⟨p, rfl, h⟩ t
  | _, _, _, _, k + 1, .cons a t, h => .cons a (Tups.set k t h)
/-- [a tuple for i in range(n)] -/
theorem lc_rT {K : PySem.W.Frag} {n : Nat} {g : TG} {te : TE} {vs : List Nat} {σ : L2.St} {H1 : Hp} {D : Addr} {Qd : Hp → Prop} (rows : Nat → List Int) (hD : H1 D = none) (hn : n ≤ 1000)
    (hs : ∀ i H, i < n → Same H1 H → ∀ (Zc : V → Hp → Prop), (∀ H' p, Same H H' → SqT K H' p (I (rows i)) → Zc (.ref p) H') → g (.int (i : Int)) (wipe σ vs) H fun σ2 H2 => wipe σ2 vs = wipe σ vs ∧ te σ2 H2 Zc)
    (hd : ∀ H xs, Same H1 H → H D = some (.lst xs) → Tups K H xs ((List.range n).map rows) → Qd H) :
    ∃ W : Nat → Nat → Hp → Prop, (∃ m, W 0 m (upd H1 D (.lst []))) ∧ ∀ i m H, W i m H →
      ((Itr 0 n).stop i H ∧ Qd H) ∨ ((Itr 0 n).go i H ∧ ∃ Nx : Hp → Prop, (∀ H', Nx H' → ∃ m', m' < m ∧ W (i + 1) m' H') ∧ ∀ x H', (Itr 0 n).yld i H x H' → g x (wipe σ vs) H' fun σ2 H2 => wipe σ2 vs = wipe σ vs ∧ tYes σ2 H2 fun b H3 =>
        if b = true then te σ2 H3 fun y H4 => ∃ acc, H4 D = some (.lst acc) ∧ acc.length < sizeLine ∧ Nx (upd H4 D (.lst (acc ++ [y]))) else Nx H3) := by
  refine lc_range (lo := 0) (tt := tYes) (fun i H => Same H1 H ∧ ∃ xs, H D = some (.lst xs) ∧ xs.length = i ∧ Tups K H xs ((List.range i).map rows)) ⟨same_upd hD, [], upd_same, rfl, .nil⟩ (fun i H hi ⟨sm, xs, hx, hl, ht⟩ => ?_) fun H ⟨sm, xs, hx, hl, ht⟩ => hd H xs sm hx ht
  rw [Int.zero_add]
  refine hs i H hi sm _ fun H' p s' hp => ?_
  have hx' := s' _ _ hx
  refine ⟨_, hx', small1000 (by omega), fun b o e => ?_, _, upd_same, by rw [List.length_append, hl]; rfl, ?_⟩
  · rw [upd_ne (ne_of_none e hD)]
    exact s' _ _ (sm _ _ e)
  · rw [List.range_succ, List.map_append]
    exact Paired.snoc ((ht.of s').upd hx') ⟨p, rfl, tupUpd hx' hp⟩
/-- [v(i) for x in xs], xs a list -/
theorem lc_lm {K : PySem.W.Frag} {a : Addr} {xs : List V} {g : TG} {te : TE} {vs : List Nat} {σ : L2.St} {H1 : Hp} {D : Addr} {Qd : Hp → Prop} (v : Nat → V) (hD : H1 D = none) (hn : xs.length ≤ 1000) (hl : SqL K H1 a xs)
    (hs : ∀ i x H, xs[i]? = some x → Same H1 H → ∀ (Zc : V → Hp → Prop), (∀ H', Same H H' → Zc (v i) H') → g x (wipe σ vs) H fun σ2 H2 => wipe σ2 vs = wipe σ vs ∧ te σ2 H2 Zc)
    (hd : ∀ H, Same H1 H → H D = some (.lst ((List.range xs.length).map v)) → Qd H) :
    ∃ W : Nat → Nat → Hp → Prop, (∃ m, W 0 m (upd H1 D (.lst []))) ∧ ∀ i m H, W i m H →
      ((Itl K a).stop i H ∧ Qd H) ∨ ((Itl K a).go i H ∧ ∃ Nx : Hp → Prop, (∀ H', Nx H' → ∃ m', m' < m ∧ W (i + 1) m' H') ∧ ∀ x H', (Itl K a).yld i H x H' → g x (wipe σ vs) H' fun σ2 H2 => wipe σ2 vs = wipe σ vs ∧ tYes σ2 H2 fun b H3 =>
        if b = true then te σ2 H3 fun y H4 => ∃ acc, H4 D = some (.lst acc) ∧ acc.length < sizeLine ∧ Nx (upd H4 D (.lst (acc ++ [y]))) else Nx H3) := by
  refine lc_list (K := K) (a := a) (xs := xs) (tt := tYes) (fun i H => Same H1 H ∧ H D = some (.lst ((List.range i).map v))) ⟨same_upd hD, upd_same⟩ (fun i H _ p => p.1.seq hl) (fun i x H hi ⟨sm, hd⟩ => ?_) fun H ⟨sm, e⟩ => hd H sm e
  have hil := (List.getElem?_eq_some_iff.mp hi).1
  refine hs i x H hi sm _ fun H' s' => ?_
  refine ⟨_, s' _ _ hd, small1000 (by rw [List.length_map, List.length_range]; omega), fun b o e => ?_, ?_⟩
  · rw [upd_ne (ne_of_none e hD)]
    exact s' _ _ (sm _ _ e)
  · rw [upd_same, List.range_succ, List.map_append]
    rfl
theorem row_eq (r : List Int) : (List.range r.length).map (at0 r) = r := by
  refine List.ext_getElem? fun i => ?_
  rw [List.getElem?_map]
  by_cases h : i < r.length
  · rw [List.getElem?_range h, List.getElem?_eq_getElem h]
    show some (at0 r i) = _
    unfold at0
    rw [List.getD_eq_getElem?_getD, List.getElem?_eq_getElem h]
    rfl
  · rw [List.getElem?_eq_none (by rw [List.length_range]; omega), List.getElem?_eq_none (by omega)]
    rfl
theorem mapI (n : Nat) (g : Nat → Int) : (List.range n).map (fun i => V.int (g i)) = I ((List.range n).map g) := by
  unfold I
  rw [List.map_map]
  rfl
theorem at0_mem {l : List Int} {j : Nat} (h : j < l.length) : at0 l j ∈ l := by
  unfold at0
  rw [List.getD_eq_getElem?_getD, List.getElem?_eq_getElem h]
  exact List.getElem_mem h
end HW
namespace HW
open PySem PySem.Spec PyProof.Rows L2 HR
def orb (n k : Nat) : Nat → Nat
  | 0 => k
  | i + 1 => HR.nxt n (orb n k i)
theorem orb_mod {n k : Nat} (h : k < n) (i : Nat) : orb n k i = (k + i) % n := by
  induction i with
  | zero => exact (Nat.mod_eq_of_lt h).symm
  | succ i ih =>
    show HR.nxt n (orb n k i) = _
    have l : (k + i) % n < n := Nat.mod_lt _ (by omega)
    rw [ih, show k + (i + 1) = (k + i) + 1 from rfl, ← Nat.mod_add_mod (k + i) n 1]
    unfold HR.nxt
    split
    · rename_i e
      rw [e, Nat.mod_self]
    · exact (Nat.mod_eq_of_lt (by omega)).symm
theorem round_orb {n k : Nat} (h : k < n) (t : Nat) : (List.range n).map (fun i => orb n k (t * n + i)) = roundOf n k := by
  unfold roundOf
  refine List.ext_getElem ?_ fun i h1 h2 => ?_
  · rw [List.length_map, List.length_range, List.length_append, List.length_range', List.length_range]
    omega
  · rw [List.length_map, List.length_range] at h1
    rw [List.getElem_map, List.getElem_range, orb_mod h, show k + (t * n + i) = (k + i) + n * t by rw [Nat.mul_comm]; omega, Nat.add_mul_mod_self_left]
    by_cases c : i < n - k
    · rw [List.getElem_append_left (by rw [List.length_range']; exact c), List.getElem_range', Nat.mod_eq_of_lt (by omega)]
      omega
    · rw [List.getElem_append_right (by rw [List.length_range']; omega), List.getElem_range, List.length_range', Nat.mod_eq_sub_mod (by omega), Nat.mod_eq_of_lt (by omega)]
      omega
theorem orbs_two (n k : Nat) (h : k < n) : (List.range (2 * n)).map (orb n k) = roundOf n k ++ roundOf n k := by
  rw [Nat.two_mul, List.range_add, List.map_append, List.map_map]
  have e1 := round_orb h 0
  have e2 := round_orb h 1
  simp only [Nat.zero_mul, Nat.zero_add, Nat.one_mul] at e1 e2
  congr 1
theorem round_len (n k : Nat) (h : k < n) : (roundOf n k).length = n := by
  unfold roundOf
  rw [List.length_append, List.length_range', List.length_range]
  omega
theorem cut_take (xs : List V) (k : Nat) (h : k ≤ xs.length) : cutV xs none (some (k : Int)) = xs.take k := by
  unfold cutV
  rw [HT.sIx_none, HT.sIx_nat, Nat.min_eq_left h, List.drop_zero, Nat.sub_zero]
theorem cut_drop (xs : List V) (k : Nat) (h : k ≤ xs.length) : cutV xs (some (k : Int)) none = xs.drop k := by
  unfold cutV
  rw [HT.sIx_none, HT.sIx_nat, Nat.min_eq_left h]
  exact List.take_of_length_le (by rw [List.length_drop]; exact Nat.le_refl _)
theorem ex_inv {n : Nat} {m : Int} {r r2 : List Int} {ks : List Nat} {k : Nat} (x : Ex n m r (ks ++ [k]) r2) : ∃ r', Ex n m r ks r' ∧ k < n ∧ may r' k = true ∧ r2 = HR.moved m r' k := by
  generalize e : ks ++ [k] = l at x
  cases x with
  | nil => exact absurd e (by simp)
  | snoc x hk hm =>
    obtain ⟨e1, e2⟩ := List.append_inj' e rfl
    cases e2
    subst e1
    exact ⟨_, x, hk, hm, rfl⟩
theorem ex_take {n : Nat} {m : Int} {r r2 : List Int} {ks : List Nat} (x : Ex n m r ks r2) (i : Nat) : ∃ r', Ex n m r (ks.take i) r' := by
  induction x with
  | nil => exact ⟨r, by rw [List.take_nil]; exact .nil⟩
  | @snoc ks r' k x hk hm ih =>
    by_cases c : i ≤ ks.length
    · rw [List.take_append_of_le_length c]
      exact ih
    · rw [List.take_of_length_le (by rw [List.length_append]; show ks.length + 1 ≤ i; omega)]
      exact ⟨_, x.snoc hk hm⟩
theorem ex_det {n : Nat} {m : Int} {r a b : List Int} {ks : List Nat} (x : Ex n m r ks a) : Ex n m r ks b → a = b := by
  induction x generalizing b with
  | nil =>
    intro y
    generalize e : ([] : List Nat) = l at y
    cases y with
    | nil => rfl
    | snoc _ _ _ => exact absurd e (by simp)
  | snoc x hk hm ih =>
    intro y
    obtain ⟨r', y1, _, _, e⟩ := ex_inv y
    rw [e, ih y1]
theorem ex_step {n : Nat} {m : Int} {r r1 r2 : List Int} {ks : List Nat} {i : Nat} (x : Ex n m r ks r2) (hi : i < ks.length) (a : Ex n m r (ks.take i) r1) : ks[i] < n ∧ may r1 ks[i] = true := by
  obtain ⟨r', y⟩ := ex_take x (i + 1)
  rw [List.take_succ_eq_append_getElem hi] at y
  obtain ⟨r3, z, hk, hm, _⟩ := ex_inv y
  rw [ex_det a z]
  exact ⟨hk, hm⟩
end HW
namespace HW
open PySem PySem.Spec PyProof.Rows L2 HR
/-- [v for x in xs if f], by places -/
theorem lc_lf {K : PySem.W.Frag} {a : Addr} {xs : List V} {g : TG} {tt : TT} {te : TE} {vs : List Nat} {σ : L2.St} {H1 : Hp} {D : Addr} {Qd : Hp → Prop} (f : Nat → Bool) (v : Nat → V) (hD : H1 D = none) (hn : xs.length ≤ 1000) (hl : SqL K H1 a xs)
    (hs : ∀ i x H, xs[i]? = some x → Same H1 H → ∀ (Zc : V → Hp → Prop) (M : Hp → Prop), (f i = true → ∀ H', Same H H' → Zc (v i) H') → (f i = false → ∀ H', Same H H' → M H') →
      g x (wipe σ vs) H fun σ2 H2 => wipe σ2 vs = wipe σ vs ∧ tt σ2 H2 fun b H3 => if b = true then te σ2 H3 Zc else M H3)
    (hd : ∀ H, Same H1 H → H D = some (.lst (kept f v xs.length)) → Qd H) :
    ∃ W : Nat → Nat → Hp → Prop, (∃ m, W 0 m (upd H1 D (.lst []))) ∧ ∀ i m H, W i m H →
      ((Itl K a).stop i H ∧ Qd H) ∨ ((Itl K a).go i H ∧ ∃ Nx : Hp → Prop, (∀ H', Nx H' → ∃ m', m' < m ∧ W (i + 1) m' H') ∧ ∀ x H', (Itl K a).yld i H x H' → g x (wipe σ vs) H' fun σ2 H2 => wipe σ2 vs = wipe σ vs ∧ tt σ2 H2 fun b H3 =>
        if b = true then te σ2 H3 fun y H4 => ∃ acc, H4 D = some (.lst acc) ∧ acc.length < sizeLine ∧ Nx (upd H4 D (.lst (acc ++ [y]))) else Nx H3) := by
  refine lc_list (K := K) (a := a) (xs := xs) (fun i H => Same H1 H ∧ H D = some (.lst (kept f v i))) ⟨same_upd hD, upd_same⟩ (fun i H _ p => p.1.seq hl) (fun i x H hi ⟨sm, hd⟩ => ?_) fun H ⟨sm, e⟩ => hd H sm e
  have hil := (List.getElem?_eq_some_iff.mp hi).1
  refine hs i x H hi sm _ _ (fun hf H' s' => ?_) fun hf H' s' => ?_
  · refine ⟨_, s' _ _ hd, small1000 (Nat.le_trans (kept_len f v i) (by omega)), fun b o e => ?_, ?_⟩
    · rw [upd_ne (ne_of_none e hD)]
      exact s' _ _ (sm _ _ e)
    · rw [upd_same, kept_yes hf]
  · refine ⟨sm.trans s', ?_⟩
    rw [kept_no hf]
    exact s' _ _ hd
theorem count_Z (j : Nat) : ∀ ks : List Nat, (Z ks).count ((j : Nat) : Int) = ks.count j
  | [] => rfl
  | a :: l => by
    have ih := count_Z j l
    unfold Z at ih ⊢
    rw [List.map_cons, List.count_cons, List.count_cons, ih]
    by_cases e : a = j
    · subst e; simp
    · have : ¬ (a : Int) = (j : Int) := by omega
      simp [e, this]
theorem counts_at {n j : Nat} (ks : List Nat) (h : j < n) : at0 (counts (Z ks) n) j = ((ks.count j : Nat) : Int) := by
  unfold at0 counts
  rw [List.getD_eq_getElem?_getD, List.getElem?_map, List.getElem?_range h, ← count_Z]
  rfl
theorem heal_un {n : Nat} {m : Int} {r : List Int} (R : Ring n m r) (hm : (n : Int) ≤ m) (qs : List Int) : ∀ (u : Nat) (o : List Nat) (r' : List Int) (t : Nat), Un n m r o r' → u = most n - o.length →
    ∃ r2, Un n m r (healA m qs o r' t u) r2 ∧ (able r2).length = 1
  | 0, o, r', t, x, e => by
    refine ⟨r', x, Classical.byContradiction fun ne => ?_⟩
    have rl := (x.ex.ring R).len
    have n2 := R.n2
    obtain ⟨y, hy⟩ : ∃ y, y ∈ able r' := ⟨_, List.getElem_mem (able_pos (r := r') (by omega))⟩
    obtain ⟨y1, y2⟩ := mem_able.mp hy
    have b := (x.snoc (by omega) y2 ne).bound R hm
    rw [List.length_append] at b
    have b : o.length + 1 ≤ most n := b
    omega
  | u + 1, o, r', t, x, e => by
    rw [healA_succ]
    have rl := (x.ex.ring R).len
    have n2 := R.n2
    by_cases one : (able r').length = 1
    · rw [if_pos one]
      exact ⟨r', x, one⟩
    · rw [if_neg one]
      obtain ⟨y1, y2⟩ := mem_able.mp (nextOf_mem (r := r') (ns := qs) t (by omega))
      refine heal_un R hm qs u _ _ _ (x.snoc (by omega) y2 one) ?_
      rw [List.length_append]
      show u = most n - (o.length + 1)
      omega
theorem Z_snoc (ks : List Nat) (k : Nat) (zs : List Int) : Z (ks ++ [k]) ++ zs = Z ks ++ ((k : Int) :: zs) := by
  unfold Z
  rw [List.map_append, List.append_assoc]
  rfl
/-- the rings on the way -/
theorem gone_un {n : Nat} {m : Int} {r r' : List Int} {o : List Nat} (R : Ring n m r) (x : Un n m r o r') : ∃ rs : List (List Int), rs.length = o.length ∧ (∀ y ∈ rs, Ring n m y ∧ (able y).length ≠ 1) ∧ ∀ zs, goneA m [r] r (Z o ++ zs) = goneA m (rs ++ [r']) r' zs := by
  induction x with
  | nil => exact ⟨[], rfl, fun y hy => by (cases hy), fun zs => rfl⟩
  | @snoc ks r' k x hk hm one ih =>
    obtain ⟨rs, h1, h2, h3⟩ := ih
    have R' := x.ex.ring R
    refine ⟨rs ++ [r'], by rw [List.length_append, List.length_append, h1]; rfl, fun y hy => ?_, fun zs => ?_⟩
    · rcases List.mem_append.mp hy with h | h
      · exact h2 y h
      · rw [List.mem_singleton.mp h]
        exact ⟨R', one⟩
    · rw [Z_snoc, h3, goneA_cons, stepR_yes (by rw [R'.len]; exact hk) hm]
theorem sIx_m1 (n d : Nat) (h : 0 < n) : HT.sIx n d (some (-1)) = n - 1 := by
  unfold HT.sIx
  simp only [show (-1 : Int) < 0 by decide, if_true]
  omega
theorem cut_init (xs : List V) (h : 0 < xs.length) : cutV xs none (some (-1)) = xs.take (xs.length - 1) := by
  unfold cutV
  rw [HT.sIx_none, sIx_m1 _ _ h, List.drop_zero, Nat.sub_zero]
end HW
namespace HW
open PySem PySem.Spec PyProof.Rows L2 HR
theorem nxt_mod {n j : Nat} (h : j < n) : ((j : Nat) : Int) + 1 - (n : Int) * 0 = ((j : Nat) : Int) + 1 ∧ (((j : Nat) : Int) + 1) % (n : Int) = ((HR.nxt n j : Nat) : Int) := by
  refine ⟨by omega, ?_⟩
  unfold HR.nxt
  split
  · rename_i q
    rw [show ((j : Nat) : Int) + 1 = (n : Int) by omega, Int.emod_self]
    rfl
  · rw [Int.emod_eq_of_lt (by omega) (by omega)]
    omega
theorem orb_lt {n k : Nat} (h : k < n) (i : Nat) : orb n k i < n := by
  rw [orb_mod h]
  exact Nat.mod_lt _ (by omega)
theorem orbs_three (n k : Nat) (h : k < n) : (List.range (3 * n)).map (orb n k) = roundOf n k ++ roundOf n k ++ roundOf n k := by
  rw [show 3 * n = 2 * n + n by omega, List.range_add, List.map_append, List.map_map, orbs_two n k h]
  congr 1
  exact round_orb h 2
theorem draws_orb {n : Nat} {m : Int} {r : List Int} {k : Nat} (R : Ring n m r) (hk : able r = [k]) (qs : List Int) : ∀ t, (draws m qs r t).1 = (List.range t).map (orb n k) ∧ able (draws m qs r t).2 = [orb n k t] ∧ Ring n m (draws m qs r t).2
  | 0 => ⟨rfl, hk, R⟩
  | t + 1 => by
    obtain ⟨h1, h2, h3⟩ := draws_orb R hk qs t
    obtain ⟨o1, o2, o3⟩ := able_moved_one h3 h2
    have e : nextOf (draws m qs r t).2 qs t = orb n k t := by
      have := nextOf_mem (r := (draws m qs r t).2) (ns := qs) t (by rw [h3.len]; omega)
      rw [h2] at this
      exact List.mem_singleton.mp this
    refine ⟨?_, ?_, ?_⟩
    · show (draws m qs r t).1 ++ [nextOf (draws m qs r t).2 qs t] = _
      rw [e, h1, List.range_succ, List.map_append]
      rfl
    · show able (HR.moved m (draws m qs r t).2 (nextOf (draws m qs r t).2 qs t)) = _
      rw [e]
      exact o1
    · show Ring n m (HR.moved m (draws m qs r t).2 (nextOf (draws m qs r t).2 qs t))
      rw [e]
      exact h3.moved o2
theorem gone_orb {n : Nat} {m : Int} {r : List Int} {k : Nat} (R : Ring n m r) (hk : able r = [k]) : ∀ t, ∃ (rs : List (List Int)) (r' : List Int), rs.length = t ∧ (∀ y ∈ rs, Ring n m y ∧ (able y).length = 1) ∧ Ring n m r' ∧ able r' = [orb n k t] ∧ ∀ zs, goneA m [r] r (Z ((List.range t).map (orb n k)) ++ zs) = goneA m (rs ++ [r']) r' zs
  | 0 => ⟨[], r, rfl, fun y hy => (by cases hy), R, hk, fun zs => rfl⟩
  | t + 1 => by
    obtain ⟨rs, r', h1, h2, h3, h4, h5⟩ := gone_orb R hk t
    obtain ⟨o1, o2, o3⟩ := able_moved_one h3 h4
    refine ⟨rs ++ [r'], _, by rw [List.length_append, h1]; rfl, fun y hy => ?_, h3.moved o2, o1, fun zs => ?_⟩
    · rcases List.mem_append.mp hy with h | h
      · exact h2 y h
      · rw [List.mem_singleton.mp h]
        exact ⟨h3, by rw [h4]; rfl⟩
    · rw [List.range_succ, List.map_append]
      show goneA m [r] r (Z ((List.range t).map (orb n k) ++ [orb n k t]) ++ zs) = _
      rw [Z_snoc, h5, goneA_cons, stepR_yes (by rw [h3.len]; exact o2) o3]
theorem sort_round {n k : Nat} (h : k < n) {ns : List Int} (hp : ns.Perm (Z (roundOf n k))) (hs : ns.Pairwise (· ≤ ·)) : ns = Z (List.range n) := by
  refine List.Perm.eq_of_pairwise (fun a b _ _ h1 h2 => Int.le_antisymm h1 h2) hs ?_ (hp.trans ?_)
  · unfold Z
    rw [List.pairwise_map]
    exact List.pairwise_le_range.imp fun h => by omega
  · unfold Z
    refine List.Perm.map _ ?_
    unfold roundOf
    refine List.perm_append_comm.trans ?_
    rw [List.range_eq_range', List.range_eq_range']
    have e := List.range'_append_1 (s := 0) (m := k) (n := n - k)
    rw [Nat.zero_add, show k + (n - k) = n by omega] at e
    rw [e]
end HW
namespace HW
open PySem PySem.Spec PyProof.Rows L2 HR
theorem at0_map {t : Nat} (g : Nat → Nat) {i : Nat} (h : i < t) : at0 (Z ((List.range t).map g)) i = ((g i : Nat) : Int) := by
  unfold at0 Z
  rw [List.getD_eq_getElem?_getD, List.map_map, List.getElem?_map, List.getElem?_range h]
  rfl
theorem rgV0 (n : Nat) : rgV 0 (n : Int) = I (Z (List.range n)) := by
  unfold rgV I Z
  rw [List.map_map, Int.sub_zero, Int.toNat_natCast]
  refine List.map_congr_left fun i _ => ?_
  show V.int (0 + (i : Int)) = V.int (i : Int)
  rw [Int.zero_add]
theorem three_times (l : List Nat) : (List.replicate (3 : Int).toNat (N l)).flatten = I (Z (l ++ l ++ l)) := by
  show [N l, N l, N l].flatten = _
  rw [← N_Z]
  unfold N
  simp [List.flatten]
end HW
namespace HW
open PySem PySem.Spec PyProof.Rows L2 HR
theorem holds_ints {h : Heap} : ∀ {ns : List Int} {its : List Value}, Vals (I ns) its → PySem.W.HoldAll h its ns
  | [], _, r => by
    cases r
    exact .nil
  | z :: ns, _, r => by
    cases r with
    | cons r rs =>
      obtain ⟨t, rfl⟩ := r
      exact .cons ⟨_, .int z t⟩ (holds_ints rs)
theorem minOf_is (x : Int) : ∀ xs : List Int, PySem.W.minOf x xs ∈ x :: xs ∧ ∀ y ∈ x :: xs, PySem.W.minOf x xs ≤ y
  | [] => ⟨List.mem_cons_self, fun y hy => by rw [List.mem_singleton.mp hy]; exact Int.le_refl _⟩
  | z :: xs => by
    have e : PySem.W.minOf x (z :: xs) = PySem.W.minOf (if decide (z < x) = true then z else x) xs := rfl
    rw [e]
    by_cases c : z < x
    · rw [if_pos (decide_eq_true c)]
      obtain ⟨h1, h2⟩ := minOf_is z xs
      refine ⟨List.mem_cons_of_mem _ h1, fun y hy => ?_⟩
      rcases List.mem_cons.mp hy with h | h
      · have := h2 z List.mem_cons_self
        omega
      · exact h2 y h
    · rw [if_neg (by simpa using c)]
      obtain ⟨h1, h2⟩ := minOf_is x xs
      refine ⟨?_, fun y hy => ?_⟩
      · rcases List.mem_cons.mp h1 with h | h
        · rw [h]; exact List.mem_cons_self
        · exact List.mem_cons_of_mem _ (List.mem_cons_of_mem _ h)
      · rcases List.mem_cons.mp hy with h | h
        · rw [h]; exact h2 x List.mem_cons_self
        · rcases List.mem_cons.mp h with h | h
          · have := h2 x List.mem_cons_self
            omega
          · exact h2 y (List.mem_cons_of_mem _ h)
theorem maxOf_is (x : Int) : ∀ xs : List Int, PySem.W.maxOf x xs ∈ x :: xs ∧ ∀ y ∈ x :: xs, y ≤ PySem.W.maxOf x xs
  | [] => ⟨List.mem_cons_self, fun y hy => by rw [List.mem_singleton.mp hy]; exact Int.le_refl _⟩
  | z :: xs => by
    have e : PySem.W.maxOf x (z :: xs) = PySem.W.maxOf (if decide (x < z) = true then z else x) xs := rfl
    rw [e]
    by_cases c : x < z
    · rw [if_pos (decide_eq_true c)]
      obtain ⟨h1, h2⟩ := maxOf_is z xs
      refine ⟨List.mem_cons_of_mem _ h1, fun y hy => ?_⟩
      rcases List.mem_cons.mp hy with h | h
      · have := h2 z List.mem_cons_self
        omega
      · exact h2 y h
    · rw [if_neg (by simpa using c)]
      obtain ⟨h1, h2⟩ := maxOf_is x xs
      refine ⟨?_, fun y hy => ?_⟩
      · rcases List.mem_cons.mp h1 with h | h
        · rw [h]; exact List.mem_cons_self
        · exact List.mem_cons_of_mem _ (List.mem_cons_of_mem _ h)
      · rcases List.mem_cons.mp hy with h | h
        · rw [h]; exact h2 x List.mem_cons_self
        · rcases List.mem_cons.mp h with h | h
          · have := h2 x List.mem_cons_self
            omega
          · exact h2 y (List.mem_cons_of_mem _ h)
section
variable {X : Cx}
/-- min(t), max(t), t a tuple of ints -/
def rMinT (K : PySem.W.Frag) : List V → Hp → VK → Prop := fun vs H Q => ∃ (a : Addr) (ns : List Int), vs = [.ref a] ∧ SqT K H a (I ns) ∧ 0 < ns.length ∧ ∀ m, m ∈ ns → (∀ y, y ∈ ns → m ≤ y) → Q (.int m) H
def rMaxT (K : PySem.W.Frag) : List V → Hp → VK → Prop := fun vs H Q => ∃ (a : Addr) (ns : List Int), vs = [.ref a] ∧ SqT K H a (I ns) ∧ 0 < ns.length ∧ ∀ m, m ∈ ns → (∀ y, y ∈ ns → y ≤ m) → Q (.int m) H
theorem cr_minT (hc : X.calm = true) (hu : X.A.units + 64 < cLine) : CallR X (.builtin "min") (rMinT X.K) := by
  intro pins s σ H vs us Q I r h
  obtain ⟨a, ns, rfl, hs, hne, q⟩ := h
  obtain ⟨its, rv, hl, _⟩ := I.tuple hs
  rw [Vals.ref1 r]
  cases ns with
  | nil => exact absurd hne (by simp)
  | cons x xs =>
    have e := minOf_is x xs
    refine PySem.W.min_tuple_datum (α := Int) (x := x) (xs := xs) (I.ok.hd hc) hl (show PySem.W.HoldAll s.heap its (x :: xs) from holds_ints rv) (by show X.A.units + 1 + 0 < cLine; omega) fun i v h' tk hi hv hk => ?_
    obtain ⟨as, hr⟩ := hv
    cases hr with
    | int _ t => exact ⟨.int _, H, I.kept hk, ⟨_, rfl⟩, q _ e.1 e.2⟩
theorem cr_maxT (hc : X.calm = true) (hu : X.A.units + 64 < cLine) : CallR X (.builtin "max") (rMaxT X.K) := by
  intro pins s σ H vs us Q I r h
  obtain ⟨a, ns, rfl, hs, hne, q⟩ := h
  obtain ⟨its, rv, hl, _⟩ := I.tuple hs
  rw [Vals.ref1 r]
  cases ns with
  | nil => exact absurd hne (by simp)
  | cons x xs =>
    have e := maxOf_is x xs
    refine PySem.W.max_tuple_datum (α := Int) (x := x) (xs := xs) (I.ok.hd hc) hl (show PySem.W.HoldAll s.heap its (x :: xs) from holds_ints rv) (by show X.A.units + 1 + 0 < cLine; omega) fun i v h' tk hi hv hk => ?_
    obtain ⟨as, hr⟩ := hv
    cases hr with
    | int _ t => exact ⟨.int _, H, I.kept hk, ⟨_, rfl⟩, q _ e.1 e.2⟩
end
end HW
namespace HW
open PySem PySem.Spec PyProof.Rows L2 HR
theorem pi_range1H {X : Cx} {tg a : Expr} {ta : TA} {p pos : Pos} (hg : Gl X "range") (hm : X.mg "range" = none) (ha : PA X [a] ta) (hs : starEach [a] X.env = [(false, eval a X.env)] := by rfl) :
    L2H.PIH X tg (.Call (.Name "range" p) [a] [] pos) (iRng1 ta) := by
  refine ⟨fun pins s σ H R I h => ?_⟩
  refine Call_ (ld_blt I hg hm boot_range (PyProof.Rows.callWith_type1 (thn (ha.run pos pins s σ H _ I h) fun us s1 ⟨vs, H1, I1, r1, q1⟩ => ?_) hs rfl))
  obtain ⟨j, e, q1, q2, q⟩ := q1
  subst e
  cases r1 with
  | cons r rr =>
    cases rr
    obtain ⟨t, rfl⟩ := r
    exact call_range_1 (L2H.range_itH I1 (by omega) (by omega) q1 q2 (by simpa using q))
theorem cutI_len (r : List Int) (lo hi : Option Int) : ∃ s : List Int, cutV (I r) lo hi = I s ∧ s.length ≤ r.length := by
  obtain ⟨s, e⟩ := cut_I r lo hi
  refine ⟨s, e, ?_⟩
  have := cutV_length (I r) lo hi
  rw [e, len_I, len_I] at this
  exact this
end HW
namespace HW
open PySem PySem.Spec PyProof.Rows L2 HR
open Sem (wp)
section
variable {prog : Program} {w : World} {A : Around} {E : Value → Shared → Prop} {s : Shared}
/-- hash(None) -/
theorem hash_none {Q : Int → Shared → Prop} (h : ∀ tk, Q 0xFCA86420 { s with toks := tk }) : wpAny (model prog w) A (PySem.pyHash .none) Q E s := by
  unfold PySem.pyHash
  show wpAny _ _ (pyHashByItsType .none) Q E s
  unfold pyHashByItsType
  have hv : [Value.none].any Value.onHeap = false := rfl
  refine wpAny_bind ?_
  rw [cRoomFor, if_neg (by rw [hv]; exact Bool.false_ne_true)]; refine wpAny_pure ?_
  refine wpAny_bind (wpAny_specialOf (typeIs_none s) PySem.F.slot_NoneType_hash.lookup ?_)
  show wpAny _ _ (if (some (Value.builtin "NoneType.__hash__") == some Value.none) = true then _ else _) Q E s
  rw [if_neg (by rw [beq_builtin_none]; exact Bool.false_ne_true)]
  refine wpAny_bind (wpAny_specialOf (typeIs_none s) PySem.F.slot_NoneType_hash.lookup ?_)
  show wpAny _ _ (callSpecialIfBoundUnlessNone? .none "__hash__" _ >>= _) Q E s
  refine wpAny_bind (wpAny_callSpecialIfBoundUnlessNone?_slot (typeIs_none s) PySem.F.slot_NoneType_hash
    (wpAny_call_entry PySem.F.slot_NoneType_hash (typeIs_none s) PySem.F.entry_NoneType_hash ?_ (PySem.F.args_NoneType_hash_1 _)))
  show wpAny _ _ (do ret (← mkInt 0xFCA86420)) _ _ s
  refine wpAny_ret_mkInt ?_
  show wpAny _ _ (if (decide (-(2 : Int) ^ 63 ≤ 0xFCA86420) && decide ((0xFCA86420 : Int) < 2 ^ 63)) = true then _ else _) Q E _
  rw [if_pos (by decide)]
  exact wpAny_pure (h _)
end
end HW
namespace HW
open PySem PySem.Spec PyProof.Rows L2 HR
section
variable {prog : Program} {w : World} {A : Around} {E : Value → Shared → Prop} {s : Shared}
theorem reads_ints {h : Heap} : ∀ {r : List Int} {vs : List Value}, ItemsAre (mixKind prog w) (r.map Sum.inl) vs → ∃ as, ReadsAll h vs (r.map PyData.int) as
  | [], _, x => by
    cases x
    exact ⟨_, .nil⟩
  | z :: r, _, x => by
    cases x with
    | cons k ks =>
      obtain ⟨as, ra⟩ := reads_ints (h := h) ks
      rcases keyIs_shape (show keyIs (Sum.inl z) _ = true from k) with ⟨i, t, e1, e2⟩ | ⟨y, t, e1, _⟩
      · cases e1
        rw [e2]
        exact ⟨_, .cons (.int _ t) ra⟩
      · cases e1
theorem lay_ints : ∀ r : List Int, PyData.canLayAll0 (r.map PyData.int) = true
  | [] => by simp [PyData.canLayAll0]
  | z :: r => by
    rw [List.map_cons, PyData.canLayAll0, lay_ints r]
    simp [PyData.canLay0]
theorem eq_tup_none {b : Addr} {r : List Int} {Q : Bool → Shared → Prop} (hu : A.units + 1 < cLine) (hk : (tupleKind (mixKind prog w)).is s.heap (r.map Sum.inl) b) (h : Q false s) : wpAny (model prog w) A (eqBool (.ref b) .none) Q E s := by
  obtain ⟨o, items, n, h1, h2, h3, h4⟩ := hk
  obtain ⟨as, ra⟩ := reads_ints (h := s.heap) h4
  refine PySem.SeqAt.eqBoolOverData prog w A E s _ _ (.tuple (r.map PyData.int)) .none _ _ Q (.tuple h1 h2 h3 ra) .none (by simp only [PyData.canLay0]; exact lay_ints r) (by simp [PyData.canLay0]) ?_ ?_
  · have : min (PyData.tuple (r.map PyData.int)).depth PyData.none.depth ≤ 1 := Nat.le_trans (Nat.min_le_right _ _) (by simp [PyData.depth])
    omega
  · have e : PyData.eqv (.tuple (r.map PyData.int)) .none = false := by simp [PyData.eqv]
    rw [e]
    exact h
theorem find_none {d : Addr} {o : Obj} {es ep} {xs : List (List Key × Addr × Value)} {hh : Int} {Q : Option Nat → Shared → Prop} (hu : A.units + 1 < cLine)
    (ho : s.heap.get? d = some o) (hd : o.data = .dict es ep) (he : es.toList = xs.map (entryOfKey (tupleKind (mixKind prog w)))) (his : ∀ x ∈ xs, (tupleKind (mixKind prog w)).is s.heap x.1 x.2.1) (hk : ∀ x ∈ xs, ∃ r : List Int, x.1 = r.map Sum.inl) (h : Q none s) :
    wpAny (model prog w) A (dictFind d .none hh) Q E s := by
  have hmem : ∀ e ∈ es, ∃ x ∈ xs, e = entryOfKey (tupleKind (mixKind prog w)) x := by
    intro e hin
    have : e ∈ xs.map (entryOfKey (tupleKind (mixKind prog w))) := he ▸ Array.mem_toList_iff.mpr hin
    obtain ⟨x, hx, rfl⟩ := List.mem_map.mp this
    exact ⟨x, hx, rfl⟩
  have hst : ∀ v ∈ (placesWithHash es.size (fun i => es[i]?.map (·.hash)) hh).filterMap (fun i => es[i]?.map (·.key)), ∃ k' b, v = .ref b ∧ (tupleKind (mixKind prog w)).is s.heap k' b := by
    intro v hv
    obtain ⟨i, _, hi⟩ := List.mem_filterMap.mp hv
    cases hei : es[i]? with
    | none => rw [hei] at hi; cases hi
    | some e =>
      rw [hei] at hi
      obtain rfl : e.key = v := by simpa using hi
      obtain ⟨x, hx, rfl⟩ := hmem e (Array.mem_of_getElem? hei)
      exact ⟨x.1, x.2.1, rfl, his x hx⟩
  have one : ∀ (i : Nat) (e : DictEntry), es[i]? = some e → ∀ {Z : Bool → Shared → Prop}, Z false s → wpAny (model prog w) A (eqBool e.key .none) Z E s := fun i e hei Z hz => by
    obtain ⟨x, hx, rfl⟩ := hmem e (Array.mem_of_getElem? hei)
    obtain ⟨r, er⟩ := hk x hx
    have q := his x hx
    rw [er] at q
    exact eq_tup_none hu q hz
  unfold dictFind
  try with_reducible refine wpAny_holding ?_
  refine wpAny_bind (wpAny_dictEntries ho hd ?_)
  dsimp only
  by_cases hc : ((Value.none :: (placesWithHash es.size (fun i => es[i]?.map (·.hash)) hh).filterMap (fun i => es[i]?.map (·.key))).all carriedByValue) = true
  · rw [if_pos hc]
    refine wpAny_bind ?_
    refine wpAny_forIn_list _ (fun rest r s' => s' = s ∧ r = (none, ())) _ ?_ ?_ _ _ ⟨rfl, rfl⟩
    · rintro x rest r s' ⟨rfl, rfl⟩
      cases hei : es[x]? with
      | none => exact wpAny_pure ⟨rfl, rfl⟩
      | some e =>
        dsimp only
        by_cases he2 : (e.hash == hh) = true
        · rw [if_pos he2]
          refine wpAny_bind (wpAny_dictEpoch ho hd (wpAny_bind (one x e hei (wpAny_bind (wpAny_dictEpoch ho hd ?_)))))
          show wpAny _ _ (if (ep != ep) = true then _ else _) _ E _
          rw [if_neg (by simp)]
          simp only [Bool.false_eq_true, if_false]
          exact wpAny_bind (wpAny_rule (wpAny_pure ⟨rfl, rfl⟩))
        · rw [if_neg he2]
          exact wpAny_pure ⟨rfl, rfl⟩
    · rintro r s' ⟨rfl, rfl⟩
      exact wpAny_pure h
  · rw [if_neg hc]
    have ne : ¬ ((placesWithHash es.size (fun i => es[i]?.map (·.hash)) hh).filterMap (fun i => es[i]?.map (·.key)) == [Value.none]) = true := fun q => by
      have q := eq_of_beq q
      obtain ⟨_, _, q2, _⟩ := hst .none (by rw [q]; exact List.mem_cons_self)
      cases q2
    rw [if_neg ne]
    have tell : ∀ {Z : Bool → Shared → Prop}, Z false s → wpAny (model prog w) A (tableMayTell .none ((placesWithHash es.size (fun i => es[i]?.map (·.hash)) hh).filterMap (fun i => es[i]?.map (·.key)))) Z E s := fun hz => by
      unfold tableMayTell
      split
      · exact wpAny_pure hz
      · rw [eqIsQuiet_byValue _ (show carriedByValue .none = true from rfl)]
        refine wpAny_bind (wpAny_pure ?_)
        simp only [Bool.not_true, Bool.false_eq_true, if_false]
        refine wpAny_bind ?_
        refine wpAny_forIn_list _ (fun rest r s' => s' = s ∧ r = (none, ()) ∧ ∀ v ∈ rest, ∃ k' b, v = .ref b ∧ (tupleKind (mixKind prog w)).is s.heap k' b) _ ?_ ?_ _ _ ⟨rfl, rfl, hst⟩
        · rintro x rest r s' ⟨rfl, rfl, hr⟩
          obtain ⟨k', b, rfl, hb⟩ := hr x List.mem_cons_self
          refine wpAny_bind ((tupleKind (mixKind prog w)).quiet hb ?_)
          simp only [Bool.not_true, Bool.false_eq_true, if_false]
          exact wpAny_pure ⟨rfl, rfl, fun v hv => hr v (List.mem_cons_of_mem _ hv)⟩
        · rintro r s' ⟨rfl, rfl, _⟩
          exact wpAny_pure hz
    refine wpAny_bind (tell ?_)
    rw [if_neg (by simp)]
    refine wpAny_bind ?_
    refine wpAny_forIn_list _ (fun rest r s' => s' = s ∧ r = (none, none)) _ ?_ ?_ _ _ ⟨rfl, rfl⟩
    · rintro x rest r s' ⟨rfl, rfl⟩
      cases hei : es[x]? with
      | none => exact wpAny_pure ⟨rfl, rfl⟩
      | some e =>
        dsimp only
        by_cases he2 : (e.hash == hh) = true
        · rw [if_pos he2]
          refine wpAny_bind (wpAny_dictEpoch ho hd (wpAny_bind (one x e hei (wpAny_bind (wpAny_dictEpoch ho hd ?_)))))
          show wpAny _ _ (if (ep != ep) = true then _ else _) _ E _
          rw [if_neg (by simp)]
          simp only [Bool.false_eq_true, if_false]
          refine wpAny_bind (wpAny_rule ?_)
          first | exact wpAny_pure ⟨rfl, rfl⟩ | (rw [if_neg (by simp)]; exact wpAny_pure ⟨rfl, rfl⟩) | exact wpAny_bind (wpAny_pure (wpAny_pure ⟨rfl, rfl⟩))
        · rw [if_neg he2]
          exact wpAny_pure ⟨rfl, rfl⟩
    · rintro r s' ⟨rfl, rfl⟩
      exact wpAny_pure h
theorem meets_get_none {d : Addr} (hd : (d == sysModules) = false) (dflt : Value) :
    MeetsIn prog w (Builtin.«dict.get» ⟨[.ref d, .none, dflt], []⟩) (fun A R s => A.units + 2 < cLine ∧ ∃ xs, (∀ x ∈ xs, ∃ r : List Int, x.1 = r.map Sum.inl) ∧ s.heap.DictOfH (tupleKind (mixKind prog w)) d xs ∧
      ∀ tk, R (.ok (.ret dflt)) { s with toks := tk }) :=
  .of_wp fun A R s ⟨hu, xs, hk, hm, h⟩ => by
    show wpAny _ _ (dictGet d .none >>= _) _ _ s
    refine wpAny_bind ?_
    obtain ⟨o, es, ep, ho, _, hdd, he, his, hn⟩ := hm
    unfold dictGet
    try with_reducible refine wpAny_holding ?_
    refine wpAny_bind (hash_none fun tk => wpAny_bind (find_none (s := { s with toks := tk }) (by show A.in1.units + 1 < cLine; show A.units + 1 + 1 < cLine; omega) ho hdd he his hk ?_))
    refine wpAny_pure ?_
    show wpAny _ _ (Builtin.Dict.missed d .none >>= _) _ _ _
    exact wpAny_bind (wpAny_missed_other hd (wpAny_pure ⟨dflt, rfl, h tk⟩))
end
end HW

namespace HW
open PySem PySem.Spec PyProof.Rows L2 HR
/-- d.get(y, x), y a key or None -/
def tDGet2N (td ty tx : TE) : TE := fun σ H Q => td σ H fun x H1 => ∃ a, x = .ref a ∧ IsD H1 a ∧ ty σ H1 fun y H2 => tx σ H2 fun z H3 => (∃ o, DGet H3 a y o ∧ Q (o.getD z) H3) ∨
  (y = .non ∧ (∃ kvs, Rd H3 a (.dT kvs) ∧ ∀ kv ∈ kvs, ∃ r : List Int, kv.1 = r.map Sum.inl) ∧ Q z H3)
theorem kt_keys {H : Hp} : ∀ {kvs : List (List Key × V)} {xs : List (List Key × Addr × Value)}, KT H kvs xs → (∀ kv ∈ kvs, ∃ r : List Int, kv.1 = r.map Sum.inl) → ∀ x ∈ xs, ∃ r : List Int, x.1 = r.map Sum.inl
  | _, _, .nil, _ => fun x hx => by cases hx
  | _, _, .cons hq t, h => fun x hx => by
    rcases List.mem_cons.mp hx with e | hx
    · subst e
      obtain ⟨r, e⟩ := h _ List.mem_cons_self
      exact ⟨r, by rw [← hq.1]; exact e⟩
    · exact kt_keys t (fun kv hkv => h kv (List.mem_cons_of_mem _ hkv)) x hx
section
variable {X : Cx} {o e f : PySem.Expr} {apos cpos : Pos} {td ty tx : TE}
theorem pe_dget2N (hu : X.A.units + 64 < cLine) (ho : PE X o td) (he : PE X e ty) (hf : PE X f tx) (m : M2 X o "get" apos e f cpos) : PE X (.Call (.Attribute o "get" apos) [e, f] [] cpos) (tDGet2N td ty tx) := by
  refine ⟨fun pins s σ H Q I h => ?_⟩
  refine wpAny_Call_method m.base m.few m.line PySem.F.plainAttrs_dict PySem.F.slot_dict_get PySem.F.type_dict_get (thn (ho.run pins s σ H _ I h) fun u s1 ⟨x, H1, I1, rx, a, ex, d, q1⟩ => ?_)
  subst ex
  obtain rfl : u = Value.ref a := rx
  obtain ⟨t1, t2, _⟩ := isD_at I1 d
  refine ⟨t1, t2, ?_⟩
  rw [m.trees]
  refine Calls.callWith_builtin rfl (Calls.evalArgs_plain (Calls.spliced_cons (thn (he.run pins s1 σ H1 _ I1 q1) fun iv s2 ⟨y, H2, I2, ry, q2⟩ =>
    Calls.spliced_cons (thn (hf.run pins s2 σ H2 _ I2 q2) fun fv s3 ⟨z, H3, I3, rz, q3⟩ => Calls.spliced_nil ?_))))
  rcases q3 with ⟨ov, g, q3⟩ | ⟨rfl, ⟨kvs, hr, hk⟩, q3⟩
  · exact d_get2 (by omega) I3 g ry rz fun w' s4 I4 rw' => ⟨_, H3, I4, rw', q3⟩
  · obtain rfl : iv = Value.none := ry
    obtain ⟨z', hd, xs, rel, dd⟩ := dt_rd I3.hok hr
    exact call_meetsIn PySem.F.slot_dict_get dd.typeIs PySem.F.entry_dict_get (PySem.F.args_dict_get_3 _ _ _) (meets_get_none hd fv)
      ⟨by omega, xs, kt_keys rel hk, dd, fun tk => ⟨z, H3, I3.tok tk, rz, q3⟩⟩
end
end HW
namespace HW
open PySem PySem.Spec PyProof.Rows L2 HR
/-- a tracked ring -/
def TupG (H : Hp) (a : Addr) (r : List Int) : Prop := H a = some (.tup (I r))
/-- t + u, a tracked tuple -/
def rCatG (K : PySem.W.Frag) : R2 := fun x y H Q => ∃ a b xs ys, x = .ref a ∧ y = .ref b ∧ SqT K H a xs ∧ SqT K H b ys ∧ (xs = [] → H b = some (.tup ys)) ∧ (ys = [] → H a = some (.tup xs)) ∧ xs.length + ys.length ≤ sizeLine ∧
  ∀ p H', Same H H' → H' p = some (.tup (xs ++ ys)) → Q (.ref p) H'
section
variable {X : Cx}
theorem op_catG : OpR X (binaryOp .Add) (rCatG X.K) := by
  intro pins s σ H x y v u Q I rx ry h
  obtain ⟨a, b, xs, ys, ex, ey, ha, hb, h1, h2, hz, q⟩ := h
  refine op_catA pins s σ H x y v u Q I rx ry ⟨a, b, xs, ys, ex, ey, ha, hb, hz, fun e => ?_, fun _ e => ?_, fun _ _ p hp => ?_⟩
  · refine q b H (Same.refl H) ?_
    rw [h1 e, e]
    rfl
  · refine q a H (Same.refl H) ?_
    rw [h2 e, e, List.append_nil]
  · exact q p _ (same_upd hp) upd_same
end
/-- items that are tracked rings -/
def TupsG (H : Hp) (xs : List V) (rs : List (List Int)) : Prop := Paired (fun (v : V) (r : List Int) => ∃ a, v = .ref a ∧ TupG H a r) xs rs
theorem TupsG.keeps {H H' : Hp} (k : ∀ b ys, H b = some (.tup ys) → H' b = some (.tup ys)) {xs : List V} {rs : List (List Int)} (h : TupsG H xs rs) : TupsG H' xs rs :=
  Paired.mapP h fun _ _ ⟨a, e, t⟩ => ⟨a, e, k _ _ t⟩
theorem TupsG.of {H H' : Hp} (s : Same H H') {xs : List V} {rs : List (List Int)} (h : TupsG H xs rs) : TupsG H' xs rs := h.keeps fun b ys e => s b _ e
theorem TupsG.tups {K : PySem.W.Frag} {H : Hp} {xs : List V} {rs : List (List Int)} (h : TupsG H xs rs) : Tups K H xs rs :=
  Paired.mapP h fun _ _ ⟨a, e, t⟩ => ⟨a, e, tupOf t⟩
theorem TupsG.len {H : Hp} {xs : List V} {rs : List (List Int)} (h : TupsG H xs rs) : xs.length = rs.length := Paired.length h
theorem TupsG.get {H : Hp} : ∀ {xs : List V} {rs : List (List Int)} {i : Nat} {r : List Int}, TupsG H xs rs → rs[i]? = some r → ∃ a, xs[i]? = some (.ref a) ∧ TupG H a r
  | _, _, _, _, .nil, e => by simp at e
  | _, _, 0, _, .cons ⟨a, e, h⟩ _, q => by
    cases q
    exact ⟨a, by rw [e]; rfl, h⟩
  | _, _, i + 1, r, .cons _ t, q => TupsG.get (i := i) (r := r) t (by simpa using q)
theorem TupsG.append {H : Hp} : ∀ {xs ys : List V} {rs ss : List (List Int)}, TupsG H xs rs → TupsG H ys ss → TupsG H (xs ++ ys) (rs ++ ss)
  | _, _, _, _, .nil, h => h
  | _, _, _, _, .cons a t, h => .cons a (TupsG.append t h)
/-- a list of tracked rings -/
def ListG (H : Hp) (p : Addr) (rs : List (List Int)) : Prop := ∃ xs, H p = some (.lst xs) ∧ TupsG H xs rs
/-- all rings, by size -/
def allR (m : Nat) : Nat → List (List Int)
  | 0 => [[]]
  | n + 1 => (allR m n).flatMap fun r => (List.range m).map fun (k : Nat) => r ++ [(k : Int)]
theorem flat_len {α β : Type} (f : α → List β) (m : Nat) (h : ∀ a, (f a).length = m) : ∀ l : List α, (l.flatMap f).length = l.length * m
  | [] => by rw [List.flatMap_nil]; exact (Nat.zero_mul m).symm
  | a :: l => by rw [List.flatMap_cons, List.length_append, h, flat_len f m h l, List.length_cons, Nat.succ_mul, Nat.add_comm]
theorem allR_len (m : Nat) : ∀ n, (allR m n).length = m ^ n
  | 0 => rfl
  | n + 1 => by
    show ((allR m n).flatMap _).length = _
    rw [flat_len _ m (fun a => by rw [List.length_map, List.length_range]), allR_len m n, Nat.pow_succ]
theorem mem_allR {m : Nat} : ∀ {n : Nat} {r : List Int}, r ∈ allR m n ↔ r.length = n ∧ ∀ x ∈ r, 0 ≤ x ∧ x < (m : Int)
  | 0, r => by
    show r ∈ [[]] ↔ _
    rw [List.mem_singleton]
    constructor
    · intro e
      subst e
      exact ⟨rfl, fun x hx => by cases hx⟩
    · intro ⟨e, _⟩
      exact List.length_eq_zero_iff.mp e
  | n + 1, r => by
    show r ∈ (allR m n).flatMap _ ↔ _
    rw [List.mem_flatMap]
    constructor
    · rintro ⟨q, hq, hr⟩
      obtain ⟨k, hk, rfl⟩ := List.mem_map.mp hr
      obtain ⟨h1, h2⟩ := mem_allR.mp hq
      refine ⟨by rw [List.length_append, h1]; rfl, fun x hx => ?_⟩
      rcases List.mem_append.mp hx with h | h
      · exact h2 x h
      · rw [List.mem_singleton.mp h]
        have := List.mem_range.mp hk
        omega
    · rintro ⟨h1, h2⟩
      have ne : r ≠ [] := fun e => by rw [e] at h1; cases h1
      have e := List.dropLast_concat_getLast ne
      have hl := h2 _ (List.getLast_mem ne)
      refine ⟨r.dropLast, mem_allR.mpr ⟨by rw [List.length_dropLast, h1]; rfl, fun x hx => h2 x (List.dropLast_subset r hx)⟩, ?_⟩
      refine List.mem_map.mpr ⟨(r.getLast ne).toNat, List.mem_range.mpr (by omega), ?_⟩
      rw [Int.toNat_of_nonneg hl.1]
      exact e
theorem allR_ring {n m : Nat} {r : List Int} (hn : 2 ≤ n) (hm : 2 ≤ m) : r ∈ allR m n ↔ Ring n (m : Int) r := by
  rw [mem_allR]
  constructor
  · rintro ⟨h1, h2⟩
    have at1 : ∀ k, k < n → at0 r k ∈ r := fun k hk => at0_mem (by omega)
    exact ⟨h1, hn, by omega, fun k hk => (h2 _ (at1 k hk)).1, fun k hk => (h2 _ (at1 k hk)).2⟩
  · intro R
    refine ⟨R.len, fun x hx => ?_⟩
    obtain ⟨k, hk, e⟩ := List.getElem_of_mem hx
    have hk' : k < n := by rw [← R.len]; exact hk
    have e2 : at0 r k = x := by
      unfold at0
      rw [List.getD_eq_getElem?_getD, List.getElem?_eq_getElem hk]
      exact e
    rw [← e2]
    exact ⟨R.lo k hk', R.hi k hk'⟩
def sp_moved2 (K : PySem.W.Frag) : Sp := fun vs H Q _ => ∃ (a : Addr) (r : List Int) (m : Int) (k : Nat), vs = [.ref a, .int m, .int (k : Int)] ∧ SqT K H a (I r) ∧ k < r.length ∧ r.length ≤ 1000 ∧ 0 < m ∧
  ∀ H' p, Same H H' → TupG H' p (HR.moved m r k) → Q (.ref p) H'
def sp_all_rings : Sp := fun vs H Q _ => ∃ n m : Nat, vs = [.int (n : Int), .int (m : Int)] ∧ n ≤ 12 ∧ 1 ≤ m ∧ m ≤ 100 ∧ m ^ n ≤ 300 ∧ ∀ H' p, Same H H' → H p = none → ListG H' p (allR m n) → Q (.ref p) H'
def sp_need_small (cG : Addr) : Sp := fun vs H Q E => ∃ n m : Nat, vs = [.int (n : Int), .int (m : Int)] ∧ n ≤ 12 ∧ 1 ≤ m ∧ m ≤ 100 ∧ (300 < m ^ n → E (.ref cG) none H) ∧ (m ^ n ≤ 300 → Q .non H)
end HW
namespace HW
open PySem PySem.Spec PyProof.Rows L2 HR
theorem TupG.upd {H : Hp} {p b : Addr} {ys : List V} {o : HO} {r : List Int} (hp : H p = some (.lst ys)) (h : TupG H b r) : TupG (L2.upd H p o) b r := by
  unfold TupG at h ⊢
  rw [upd_ne]
  · exact h
  · intro q
    rw [q, hp] at h
    cases h
theorem TupsG.upd {H : Hp} {p : Addr} {ys : List V} {o : HO} (hp : H p = some (.lst ys)) {xs : List V} {rs : List (List Int)} (h : TupsG H xs rs) : TupsG (L2.upd H p o) xs rs :=
  Paired.mapP h fun _ _ ⟨a, e, t⟩ => ⟨a, e, TupG.upd hp t⟩
/-- [a new tracked tuple for i in range(n)] -/
theorem lc_rG {n : Nat} {g : TG} {te : TE} {vs : List Nat} {σ : L2.St} {H1 : Hp} {D : Addr} {Qd : Hp → Prop} (rows : Nat → List Int) (hD : H1 D = none) (hn : n ≤ 1000)
    (hs : ∀ i H, i < n → Same H1 H → ∀ (Zc : V → Hp → Prop), (∀ H' p, Same H H' → TupG H' p (rows i) → Zc (.ref p) H') → g (.int (i : Int)) (wipe σ vs) H fun σ2 H2 => wipe σ2 vs = wipe σ vs ∧ te σ2 H2 Zc)
    (hd : ∀ H xs, Same H1 H → H D = some (.lst xs) → TupsG H xs ((List.range n).map rows) → Qd H) :
    ∃ W : Nat → Nat → Hp → Prop, (∃ m, W 0 m (L2.upd H1 D (.lst []))) ∧ ∀ i m H, W i m H →
      ((Itr 0 n).stop i H ∧ Qd H) ∨ ((Itr 0 n).go i H ∧ ∃ Nx : Hp → Prop, (∀ H', Nx H' → ∃ m', m' < m ∧ W (i + 1) m' H') ∧ ∀ x H', (Itr 0 n).yld i H x H' → g x (wipe σ vs) H' fun σ2 H2 => wipe σ2 vs = wipe σ vs ∧ tYes σ2 H2 fun b H3 =>
        if b = true then te σ2 H3 fun y H4 => ∃ acc, H4 D = some (.lst acc) ∧ acc.length < sizeLine ∧ Nx (L2.upd H4 D (.lst (acc ++ [y]))) else Nx H3) := by
  refine lc_range (lo := 0) (tt := tYes) (fun i H => Same H1 H ∧ ∃ xs, H D = some (.lst xs) ∧ xs.length = i ∧ TupsG H xs ((List.range i).map rows)) ⟨same_upd hD, [], upd_same, rfl, .nil⟩ (fun i H hi ⟨sm, xs, hx, hl, ht⟩ => ?_) fun H ⟨sm, xs, hx, hl, ht⟩ => hd H xs sm hx ht
  rw [Int.zero_add]
  refine hs i H hi sm _ fun H' p s' hp => ?_
  have hx' := s' _ _ hx
  refine ⟨_, hx', small1000 (by omega), fun b o e => ?_, _, upd_same, by rw [List.length_append, hl]; rfl, ?_⟩
  · rw [upd_ne (ne_of_none e hD)]
    exact s' _ _ (sm _ _ e)
  · rw [List.range_succ, List.map_append]
    exact Paired.snoc ((ht.of s').upd hx') ⟨p, rfl, TupG.upd hx' hp⟩
end HW
namespace HW
open PySem PySem.Spec PyProof.Rows L2 HR
/-- how long an order lasts at most, looked at j steps deep -/
def hgtF (m : Int) : Nat → List Int → Nat
  | 0, _ => 0
  | j + 1, r => if (able r).length ≤ 1 then 0 else 1 + ((able r).map fun k => hgtF m j (HR.moved m r k)).foldl max 0
def hgt (m : Int) (r : List Int) : Nat := hgtF m 200 r
/-- no order of steps from unhealed rings is longer than j -/
def Bd (n : Nat) (m : Int) (j : Nat) (r : List Int) : Prop := Ring n m r ∧ ∀ ks r', Un n m r ks r' → ks.length ≤ j
theorem un_cons {n : Nat} {m : Int} {r r' : List Int} {k : Nat} {ks : List Nat} (hk : k < n) (hm : may r k = true) (one : (able r).length ≠ 1) (x : Un n m (HR.moved m r k) ks r') : Un n m r (k :: ks) r' := by
  induction x with
  | nil => exact (Un.nil.snoc hk hm one : Un n m r ([] ++ [k]) _)
  | snoc _ h1 h2 h3 ih =>
    rw [← List.cons_append]
    exact ih.snoc h1 h2 h3
theorem Bd.step {n : Nat} {m : Int} {j k : Nat} {r : List Int} (b : Bd n m (j + 1) r) (hk : k ∈ able r) (one : (able r).length ≠ 1) : Bd n m j (HR.moved m r k) := by
  obtain ⟨R, h⟩ := b
  obtain ⟨h1, h2⟩ := mem_able.mp hk
  rw [R.len] at h1
  refine ⟨R.moved h1, fun ks r' x => ?_⟩
  have := h _ _ (un_cons h1 h2 one x)
  rw [List.length_cons] at this
  omega
theorem Bd.zero {n : Nat} {m : Int} {r : List Int} (b : Bd n m 0 r) : (able r).length = 1 := by
  obtain ⟨R, h⟩ := b
  refine Classical.byContradiction fun ne => ?_
  have n2 := R.n2
  obtain ⟨y, hy⟩ : ∃ y, y ∈ able r := ⟨_, List.getElem_mem (able_pos (r := r) (by rw [R.len]; omega))⟩
  obtain ⟨h1, h2⟩ := mem_able.mp hy
  rw [R.len] at h1
  have := h _ _ (Un.nil.snoc h1 h2 ne : Un n m r ([] ++ [y]) _)
  simp at this
theorem Bd.top {n : Nat} {m : Int} {r : List Int} (R : Ring n m r) (hm : (n : Int) ≤ m) : Bd n m (most n) r := ⟨R, fun _ _ x => x.bound R hm⟩
theorem hgtF_stay {n : Nat} {m : Int} : ∀ (j : Nat) {r : List Int}, Bd n m j r → ∀ i, j ≤ i → hgtF m i r = hgtF m j r
  | 0, r, b, i, _ => by
    cases i with
    | zero => rfl
    | succ i =>
      show (if (able r).length ≤ 1 then 0 else _) = 0
      rw [if_pos (by rw [b.zero]; exact Nat.le_refl 1)]
  | j + 1, r, b, i, h => by
    obtain ⟨i, rfl⟩ : ∃ i', i = i' + 1 := ⟨i - 1, by omega⟩
    show (if (able r).length ≤ 1 then 0 else 1 + ((able r).map fun k => hgtF m i (HR.moved m r k)).foldl max 0) = (if (able r).length ≤ 1 then 0 else 1 + ((able r).map fun k => hgtF m j (HR.moved m r k)).foldl max 0)
    by_cases c : (able r).length ≤ 1
    · rw [if_pos c, if_pos c]
    · rw [if_neg c, if_neg c]
      have e : (able r).map (fun k => hgtF m i (HR.moved m r k)) = (able r).map (fun k => hgtF m j (HR.moved m r k)) :=
        List.map_congr_left fun k hk => hgtF_stay j (b.step hk (by omega)) i (by omega)
      rw [e]
theorem hgt_eq {n : Nat} {m : Int} {r : List Int} {j : Nat} (b : Bd n m j r) (hj : j ≤ 199) : hgt m r = if (able r).length ≤ 1 then 0 else 1 + ((able r).map fun k => hgt m (HR.moved m r k)).foldl max 0 := by
  show (if (able r).length ≤ 1 then 0 else 1 + ((able r).map fun k => hgtF m 199 (HR.moved m r k)).foldl max 0) = _
  by_cases c : (able r).length ≤ 1
  · rw [if_pos c, if_pos c]
  · rw [if_neg c, if_neg c]
    have e : (able r).map (fun k => hgtF m 199 (HR.moved m r k)) = (able r).map (fun k => hgt m (HR.moved m r k)) :=
      List.map_congr_left fun k hk => by
        cases j with
        | zero => exact absurd b.zero (by omega)
        | succ j =>
          have b' := b.step hk (by omega)
          unfold hgt
          rw [hgtF_stay j b' 199 (by omega), hgtF_stay j b' 200 (by omega)]
    rw [e]
theorem fold_max : ∀ (l : List Nat) (c : Nat), c ≤ l.foldl max c ∧ (∀ x ∈ l, x ≤ l.foldl max c) ∧ (l.foldl max c = c ∨ l.foldl max c ∈ l)
  | [], c => ⟨Nat.le_refl c, (fun x hx => nomatch hx), .inl rfl⟩
  | a :: l, c => by
    obtain ⟨h1, h2, h3⟩ := fold_max l (max c a)
    show c ≤ l.foldl max (max c a) ∧ (∀ x ∈ a :: l, x ≤ l.foldl max (max c a)) ∧ (l.foldl max (max c a) = c ∨ l.foldl max (max c a) ∈ a :: l)
    refine ⟨by omega, fun x hx => ?_, ?_⟩
    · rcases List.mem_cons.mp hx with h | h
      · omega
      · exact h2 x h
    · rcases h3 with h | h
      · rw [h]
        by_cases q : c ≤ a
        · right
          rw [Nat.max_eq_right q]
          exact List.mem_cons_self
        · left
          omega
      · exact .inr (List.mem_cons_of_mem _ h)
/-- the greatest of some numbers -/
theorem max_is {l : List Nat} (ne : l ≠ []) {M : Int} (h1 : M ∈ Z l) (h2 : ∀ y ∈ Z l, y ≤ M) : M = ((l.foldl max 0 : Nat) : Int) := by
  obtain ⟨a0, a1, a2⟩ := fold_max l 0
  obtain ⟨m0, m1⟩ := mem_Z.mp h1
  have b1 := a1 _ m1
  have b2 : ((l.foldl max 0 : Nat) : Int) ≤ M := by
    rcases a2 with e | e
    · rw [e]
      omega
    · exact h2 _ (mem_Z.mpr ⟨by omega, by rw [Int.toNat_natCast]; exact e⟩)
  omega
/-- a ring as a key -/
def kR (r : List Int) : List Key := r.map Sum.inl
theorem kR_V (r : List Int) : (kR r).map kV = I r := by
  unfold kR I
  rw [List.map_map]
  rfl
theorem kR_inj {r r' : List Int} (h : kR r = kR r') : r = r' := by
  have e : ∀ l : List Int, (kR l).map (fun q : Key => match q with | .inl i => i | .inr _ => 0) = l := fun l => by
    unfold kR
    rw [List.map_map]
    exact (List.map_congr_left fun _ _ => rfl).trans (List.map_id l)
  rw [← e r, ← e r', h]
def ents (D : List (List Int × Int)) : List (List Key × V) := D.map fun p => (kR p.1, V.int p.2)
theorem ents_len (D : List (List Int × Int)) : (ents D).length = D.length := List.length_map ..
theorem ents_none {r : List Int} : ∀ {D : List (List Int × Int)}, (∀ p ∈ D, p.1 ≠ r) → valV (ents D) (kR r) = none
  | [], _ => rfl
  | p :: D, h => by
    show valV ((kR p.1, V.int p.2) :: ents D) (kR r) = none
    rw [valV_neg fun e => h p List.mem_cons_self (kR_inj e)]
    exact ents_none fun q hq => h q (List.mem_cons_of_mem _ hq)
theorem ents_some {r : List Int} {v : Int} : ∀ {D : List (List Int × Int)}, (D.map Prod.fst).Nodup → (r, v) ∈ D → valV (ents D) (kR r) = some (.int v)
  | p :: D, nd, h => by
    show valV ((kR p.1, V.int p.2) :: ents D) (kR r) = _
    rw [List.map_cons, List.nodup_cons] at nd
    rcases List.mem_cons.mp h with e | h
    · subst e
      exact valV_pos rfl
    · rw [valV_neg fun e => nd.1 (by rw [kR_inj e]; exact List.mem_map.mpr ⟨_, h, rfl⟩)]
      exact ents_some nd.2 h
theorem ents_put {r : List Int} {v : Int} {D : List (List Int × Int)} (h : ∀ p ∈ D, p.1 ≠ r) : putK (ents D) (kR r) (.int v) = ents (D ++ [(r, v)]) := by
  unfold putK
  rw [valV_any, ents_none h]
  unfold ents
  rw [List.map_append]
  rfl
/-- what is known so far is right -/
def KOk (n m : Nat) (D : List (List Int × Int)) : Prop := (∀ p ∈ D, Ring n (m : Int) p.1 ∧ p.2 = ((hgt (m : Int) p.1 : Nat) : Int)) ∧ (D.map Prod.fst).Nodup
theorem KOk.len {n m : Nat} {D : List (List Int × Int)} (k : KOk n m D) (hn : 2 ≤ n) (hm : 2 ≤ m) : D.length ≤ m ^ n := by
  have := le_of_sub (D.map Prod.fst) (allR m n) k.2 fun x hx => by
    obtain ⟨p, hp, rfl⟩ := List.mem_map.mp hx
    exact (allR_ring hn hm).mpr (k.1 p hp).1
  rw [List.length_map, allR_len] at this
  exact this
theorem KOk.snoc {n m : Nat} {D : List (List Int × Int)} (k : KOk n m D) {r : List Int} (R : Ring n (m : Int) r) (h : ∀ p ∈ D, p.1 ≠ r) : KOk n m (D ++ [(r, ((hgt (m : Int) r : Nat) : Int))]) := by
  refine ⟨fun p hp => ?_, ?_⟩
  · rcases List.mem_append.mp hp with q | q
    · exact k.1 p q
    · rw [List.mem_singleton.mp q]
      exact ⟨R, rfl⟩
  · rw [List.map_append, List.nodup_append]
    refine ⟨k.2, by simp, fun a ha b hb e => ?_⟩
    obtain ⟨p, hp, rfl⟩ := List.mem_map.mp ha
    rw [List.map_cons, List.map_nil, List.mem_singleton] at hb
    exact h p hp (e.trans hb)
/-- all that stood stands, but for what is at d -/
def SameX (d : Addr) (H H' : Hp) : Prop := ∀ b o, b ≠ d → H b = some o → H' b = some o
theorem SameX.refl (d : Addr) (H : Hp) : SameX d H H := fun _ _ _ h => h
theorem SameX.trans {d : Addr} {H H1 H2 : Hp} (a : SameX d H H1) (b : SameX d H1 H2) : SameX d H H2 := fun c o n e => b c o n (a c o n e)
theorem SameX.of {d : Addr} {H H' : Hp} (s : Same H H') : SameX d H H' := fun b o _ e => s b o e
theorem SameX.put {d : Addr} {H : Hp} (o : HO) : SameX d H (upd H d o) := fun b u n e => by
  rw [upd_ne n]
  exact e
theorem SameX.free {d b : Addr} {H H' : Hp} (s : SameX d H H') (hd : b ≠ d) (h : H' b = none) : H b = none := by
  cases q : H b with
  | none => rfl
  | some o => rw [s b o hd q] at h; cases h
theorem SameX.tupG {d a : Addr} {H H' : Hp} {ks : List (List Key × V)} {r : List Int} (s : SameX d H H') (hd : H d = some (.dT ks)) (h : TupG H a r) : TupG H' a r := s a _ (fun q => by rw [q] at h; unfold TupG at h; rw [hd] at h; cases h) h
def sp_lasting (j : Nat) : Sp := fun vs H Q _ => ∃ (a d : Addr) (r : List Int) (m n : Nat) (D : List (List Int × Int)), vs = [.ref a, .int (m : Int), .ref d] ∧ TupG H a r ∧ H d = some (.dT (ents D)) ∧ Bd n (m : Int) j r ∧ n ≤ 12 ∧ n ≤ m ∧ m ≤ 100 ∧ m ^ n ≤ 300 ∧ KOk n m D ∧
  ∀ H' D', SameX d H H' → H' d = some (.dT (ents D')) → KOk n m D' → (∀ p ∈ D, p ∈ D') → (r, ((hgt (m : Int) r : Nat) : Int)) ∈ D' → Q (.int ((hgt (m : Int) r : Nat) : Int)) H'
end HW
namespace HW
open PySem PySem.Spec PyProof.Rows L2 HR
theorem ents_put_old {r : List Int} {v : Int} {D : List (List Int × Int)} (hm : ∃ p ∈ D, p.1 = r) (h : ∀ p ∈ D, p.1 = r → p.2 = v) (nd : (D.map Prod.fst).Nodup) : putK (ents D) (kR r) (.int v) = ents D := by
  unfold putK
  obtain ⟨p, hp, e⟩ := hm
  have e1 : valV (ents D) (kR r) = some (.int v) := ents_some nd (by rw [← h p hp e, ← e]; exact hp)
  rw [valV_any, e1]
  show ((ents D).map fun kv => if kv.1 = kR r then (kv.1, V.int v) else kv) = ents D
  unfold ents
  rw [List.map_map]
  refine List.map_congr_left fun q hq => ?_
  show (if kR q.1 = kR r then (kR q.1, V.int v) else (kR q.1, V.int q.2)) = (kR q.1, V.int q.2)
  by_cases c : kR q.1 = kR r
  · rw [if_pos c, h q hq (kR_inj c)]
  · rw [if_neg c]
end HW
namespace HW
open PySem PySem.Spec PyProof.Rows L2 HR
/-- [a tracked tuple for x in xs] -/
theorem lc_lG {K : PySem.W.Frag} {a : Addr} {xs : List V} {g : TG} {te : TE} {vs : List Nat} {σ : L2.St} {H1 : Hp} {D : Addr} {Qd : Hp → Prop} (rows : Nat → List Int) (hD : H1 D = none) (hn : xs.length ≤ 1000) (hl : SqL K H1 a xs)
    (hs : ∀ i x H, xs[i]? = some x → Same H1 H → ∀ (Zc : V → Hp → Prop), (∀ H' p, Same H H' → TupG H' p (rows i) → Zc (.ref p) H') → g x (wipe σ vs) H fun σ2 H2 => wipe σ2 vs = wipe σ vs ∧ te σ2 H2 Zc)
    (hd : ∀ H ys, Same H1 H → H D = some (.lst ys) → TupsG H ys ((List.range xs.length).map rows) → Qd H) :
    ∃ W : Nat → Nat → Hp → Prop, (∃ m, W 0 m (L2.upd H1 D (.lst []))) ∧ ∀ i m H, W i m H →
      ((Itl K a).stop i H ∧ Qd H) ∨ ((Itl K a).go i H ∧ ∃ Nx : Hp → Prop, (∀ H', Nx H' → ∃ m', m' < m ∧ W (i + 1) m' H') ∧ ∀ x H', (Itl K a).yld i H x H' → g x (wipe σ vs) H' fun σ2 H2 => wipe σ2 vs = wipe σ vs ∧ tYes σ2 H2 fun b H3 =>
        if b = true then te σ2 H3 fun y H4 => ∃ acc, H4 D = some (.lst acc) ∧ acc.length < sizeLine ∧ Nx (L2.upd H4 D (.lst (acc ++ [y]))) else Nx H3) := by
  refine lc_list (K := K) (a := a) (xs := xs) (tt := tYes) (fun i H => Same H1 H ∧ ∃ ys, H D = some (.lst ys) ∧ ys.length = i ∧ TupsG H ys ((List.range i).map rows)) ⟨same_upd hD, [], upd_same, rfl, .nil⟩ (fun i H _ p => p.1.seq hl) (fun i x H hi ⟨sm, ys, hy, hyl, ht⟩ => ?_) fun H ⟨sm, ys, hy, hyl, ht⟩ => hd H ys sm hy ht
  have hil := (List.getElem?_eq_some_iff.mp hi).1
  refine hs i x H hi sm _ fun H' p s' hp => ?_
  have hy' := s' _ _ hy
  refine ⟨_, hy', small1000 (by omega), fun b o e => ?_, _, upd_same, by rw [List.length_append, hyl]; rfl, ?_⟩
  · rw [upd_ne (ne_of_none e hD)]
    exact s' _ _ (sm _ _ e)
  · rw [List.range_succ, List.map_append]
    exact Paired.snoc ((ht.of s').upd hy') ⟨p, rfl, TupG.upd hy' hp⟩
/-- the first of those that may after whose step an order lasts u at most, and so on -/
def pickW (m : Int) (u : Nat) (r : List Int) : Nat := ((able r).map fun k => hgt m (HR.moved m r k)).findIdx (· == u)
def wOrd (m : Int) : Nat → List Int → List Nat
  | 0, _ => []
  | u + 1, r => (able r).getD (pickW m u r) 0 :: wOrd m u (HR.moved m r ((able r).getD (pickW m u r) 0))
theorem pickW_is {n : Nat} {m : Int} {r : List Int} {u : Nat} (R : Ring n m r) (hn : n ≤ 12) (hm : (n : Int) ≤ m) (h : hgt m r = u + 1) : ∃ hl : pickW m u r < (able r).length, hgt m (HR.moved m r (able r)[pickW m u r]) = u ∧
    ∀ (i : Nat) (hi : i < (able r).length), i < pickW m u r → hgt m (HR.moved m r (able r)[i]) ≠ u := by
  have e := hgt_eq (Bd.top R hm) (Nat.le_trans (most_le hn) (by decide))
  rw [h] at e
  have c : ¬ (able r).length ≤ 1 := fun c => by rw [if_pos c] at e; omega
  rw [if_neg c] at e
  have e : ((able r).map fun k => hgt m (HR.moved m r k)).foldl max 0 = u := by omega
  obtain ⟨a0, a1, a2⟩ := fold_max ((able r).map fun k => hgt m (HR.moved m r k)) 0
  rw [e] at a1 a2
  have mem : u ∈ (able r).map fun k => hgt m (HR.moved m r k) := by
    rcases a2 with q | q
    · have l : 0 < (able r).length := by omega
      have hm0 : hgt m (HR.moved m r (able r)[0]) ∈ (able r).map fun k => hgt m (HR.moved m r k) := List.mem_map.mpr ⟨_, List.getElem_mem l, rfl⟩
      have := a1 _ hm0
      have : hgt m (HR.moved m r (able r)[0]) = u := by omega
      rw [← this]
      exact hm0
    · exact q
  have lt : pickW m u r < ((able r).map fun k => hgt m (HR.moved m r k)).length := List.findIdx_lt_length_of_exists ⟨u, mem, by simp⟩
  have lt' := lt
  rw [List.length_map] at lt'
  refine ⟨lt', ?_, fun i hi hlt q => ?_⟩
  · have := List.findIdx_getElem (p := (· == u)) (w := lt)
    exact (List.getElem_map (fun k => hgt m (HR.moved m r k)) (h := lt)).symm.trans (eq_of_beq this)
  · have := List.not_of_lt_findIdx (p := (· == u)) (xs := (able r).map fun k => hgt m (HR.moved m r k)) hlt
    rw [List.getElem_map, q] at this
    simp at this
/-- the first ring with the greatest height -/
def better (m : Int) (b : Option (List Int)) (r : List Int) : Option (List Int) := if (match b with | none => -1 | some q => ((hgt m q : Nat) : Int)) < ((hgt m r : Nat) : Int) then some r else b
def worstR (n m : Nat) : List Int := ((allR m n).foldl (better (m : Int)) none).getD []
def worstO (n m : Nat) : List Nat := wOrd (m : Int) (hgt (m : Int) (worstR n m)) (worstR n m)
def sp_worst_order : Sp := fun vs H Q _ => ∃ (a d : Addr) (r : List Int) (m n : Nat) (D : List (List Int × Int)), vs = [.ref a, .int (m : Int), .ref d] ∧ TupG H a r ∧ H d = some (.dT (ents D)) ∧ Ring n (m : Int) r ∧ n ≤ 12 ∧ n ≤ m ∧ m ≤ 100 ∧ KOk n m D ∧
  (∀ r', Ring n (m : Int) r' → (r', ((hgt (m : Int) r' : Nat) : Int)) ∈ D) ∧ ∀ H' p, Same H H' → H p = none → H' p = some (.lst (N (wOrd (m : Int) (hgt (m : Int) r) r))) → Q (.ref p) H'
/-- the order of refusals -/
def Small (cN cR cG : Addr) (x y : Int) (less : Prop) (H : Hp) (E : XK) (Z : Nat → Nat → Prop) : Prop :=
  (y < 2 ∨ 100 < y → E (.ref cN) none H) ∧ (2 ≤ y → y ≤ 100 → (x < 2 ∨ 12 < x) → E (.ref cR) none H) ∧ (2 ≤ y → y ≤ 100 → 2 ≤ x → x ≤ 12 → less → E (.ref cN) none H) ∧
  ∀ n m : Nat, x = (n : Int) → y = (m : Int) → 2 ≤ m → m ≤ 100 → 2 ≤ n → n ≤ 12 → ¬ less → (300 < m ^ n → E (.ref cG) none H) ∧ (m ^ n ≤ 300 → Z n m)
def sp_worst (cN cR cG : Addr) : Sp := fun vs H Q E => ∃ x y : Int, vs = [.int x, .int y] ∧ Small cN cR cG x y (y < x) H E fun n m => ∀ H' t a b, Same H H' → H b = none → H' t = some (.tup [.ref a, .ref b]) → TupG H' a (worstR n m) → H' b = some (.lst (N (worstO n m))) → Q (.ref t) H'
end HW
namespace HW
open PySem PySem.Spec PyProof.Rows L2 HR
theorem hgtF_le (m : Int) : ∀ (j : Nat) (r : List Int), hgtF m j r ≤ j
  | 0, _ => Nat.le_refl 0
  | j + 1, r => by
    show (if (able r).length ≤ 1 then 0 else 1 + ((able r).map fun k => hgtF m j (HR.moved m r k)).foldl max 0) ≤ j + 1
    split
    · exact Nat.zero_le _
    · obtain ⟨_, _, a2⟩ := fold_max ((able r).map fun k => hgtF m j (HR.moved m r k)) 0
      rcases a2 with e | e
      · omega
      · obtain ⟨k, _, hk⟩ := List.mem_map.mp e
        have := hgtF_le m j (HR.moved m r k)
        omega
theorem hgt_le (m : Int) (r : List Int) : hgt m r ≤ 200 := hgtF_le m 200 r
theorem wOrd_len (m : Int) : ∀ (u : Nat) (r : List Int), (wOrd m u r).length = u
  | 0, _ => rfl
  | u + 1, r => by
    show (_ :: wOrd m u _).length = u + 1
    rw [List.length_cons, wOrd_len m u]
end HW
namespace HW
open PySem PySem.Spec PyProof.Rows L2 HR
theorem better_some (m : Int) : ∀ (l : List (List Int)) (b : Option (List Int)), (l ≠ [] ∨ b ≠ none) → ∃ w, l.foldl (better m) b = some w
  | [], b, h => by
    cases b with
    | none => rcases h with h | h <;> exact absurd rfl h
    | some w => exact ⟨w, rfl⟩
  | r :: l, b, _ => by
    show ∃ w, l.foldl (better m) (better m b r) = some w
    refine better_some m l _ (.inr ?_)
    unfold better
    cases b with
    | none =>
      have : (-1 : Int) < ((hgt m r : Nat) : Int) := by omega
      show (if (-1 : Int) < ((hgt m r : Nat) : Int) then some r else none) ≠ none
      rw [if_pos this]
      simp
    | some q =>
      show (if ((hgt m q : Nat) : Int) < ((hgt m r : Nat) : Int) then some r else some q) ≠ none
      split <;> simp
theorem four {n m : Nat} (h : n ≤ m) (hp : m ^ n ≤ 300) : n ≤ 4 := by
  refine Classical.byContradiction fun c => ?_
  have h1 : 5 ^ 5 ≤ m ^ 5 := Nat.pow_le_pow_left (by omega) 5
  have h2 : m ^ 5 ≤ m ^ n := Nat.pow_le_pow_right (by omega) (by omega)
  omega
theorem Bd.four {n m : Nat} {r : List Int} (R : Ring n (m : Int) r) (h : n ≤ m) (hp : m ^ n ≤ 300) : Bd n (m : Int) 18 r := by
  have n4 := HW.four h hp
  have key : ∀ i : _root_.Fin 5, most i.1 ≤ 18 := by decide
  have b := Bd.top R (show (n : Int) ≤ (m : Int) by omega)
  exact ⟨R, fun ks r' x => Nat.le_trans (b.2 ks r' x) (key ⟨n, by omega⟩)⟩
end HW
namespace HW
open PySem PySem.Spec PyProof.Rows L2 HR
section
variable {prog : Program} {w : World} {K : Type} [DecidableEq K] {knd : HeapKind prog w K}
theorem meetsPop1 {d b : Addr} {k : K} (hd : (d == sysModules) = false) :
    MeetsIn prog w (Builtin.«dict.pop» ⟨[.ref d, .ref b], []⟩) (fun A R s => ∃ xs p, knd.room A.in1 ∧ knd.is s.heap k b ∧ s.heap.DictOfH knd d xs ∧ xs.length ≤ sizeLine ∧ atKey xs k = some p ∧
      ∀ h' tk, h'.DictOfH knd d (DT.dropH xs k) → Heap.SameBut d s.heap h' → R (.ok (.ret p.2)) { s with heap := h', toks := tk }) :=
  .of_wp fun A R s ⟨xs, p, hu, hkey, hm, hsz, hp, hsome⟩ => by
    obtain ⟨o, es, ep, ho, hc, hdat, he, his, hn⟩ := id hm
    have hes : es.size = xs.length := size_of_entries he
    have hpart : (keyPart (Value.ref b)).isSome = false := rfl
    unfold Builtin.«dict.pop»
    refine wpAny_bind ?_
    unfold Builtin.Dict.keyAndDefault
    refine wpAny_bind (wpAny_notOrdered_dict hm.typeIs ?_)
    show wpAny _ _ (pure (d, Value.ref b, none)) _ _ s
    refine wpAny_pure ?_
    simp only [hpart, Bool.false_eq_true, if_false]
    refine wpAny_bind (wpAny_dictEntries ho hdat (wpAny_bind (wpAny_pure ?_)))
    cases hem : es.isEmpty with
    | true =>
      have h0 : xs = [] := by
        have z : es.size = 0 := by simpa using hem
        exact List.length_eq_zero_iff.mp (by omega)
      rw [h0] at hp
      cases hp
    | false =>
      simp only [Bool.false_eq_true, if_false]
      refine wpAny_bind (DT.takeH hu hkey hm hsz (fun hno => ?_) fun p' e hp' hev h' hm' hs' => ?_)
      · rw [hp] at hno
        cases hno
      · rw [hp] at hp'
        cases hp'
        simp only [Option.isNone_some, Bool.false_eq_true, if_false]
        exact wpAny_bind (wpAny_letGo (wpAny_pure ⟨e.val, rfl, by rw [hev]; exact hsome h' _ hm' hs'⟩))
end
section
variable {X : Cx}
/-- d.pop(k), k a ring that is there -/
def rPopT1 : V → List V → Hp → VK → Prop := fun x xs H Q => ∃ (a : Addr) (kvs : List (List Key × V)) (k : List Key) (b : Addr) (v : V), x = .ref a ∧ xs = [.ref b] ∧ H a = some (.dT kvs) ∧ H b = some (.tup (k.map kV)) ∧ valV kvs k = some v ∧ Q v (upd H a (.dT (dropK kvs k)))
theorem mt_popT1 (hu : X.A.units + 1 < cLine) : MtR X "dict.pop" rPopT1 := by
  intro pins s σ H x xs v us Q I rx rxs h
  obtain ⟨a, kvs, k, b, v1, rfl, rfl, ha, hb, hv, q1⟩ := h
  cases rx
  obtain ⟨u1, rfl, r1⟩ := vals1 rxs
  cases r1
  obtain ⟨z, hd, xs', rel, dd⟩ := dt_of I.hok ha
  have hz : xs'.length ≤ sizeLine := by rw [← Paired.length rel]; exact z
  have r := rel.val k
  rw [hv] at r
  obtain ⟨p, hp, rv⟩ : ∃ p, atKey xs' k = some p ∧ RelV v1 p.2 := by
    cases ep : atKey xs' k with
    | none =>
      rw [ep] at r
      exact (show False from r).elim
    | some p =>
      rw [ep] at r
      exact ⟨p, rfl, r⟩
  refine call_meetsIn PySem.F.slot_dict_pop dd.typeIs PySem.F.entry_dict_pop (PySem.F.args_dict_pop_2 _ _) (meetsPop1 (knd := tupleKind (mixKind X.prog X.w)) (k := k) hd)
    ⟨xs', p, tupleKind_room_in1 hu, key_of I.hok hb, dd, hz, hp, fun h' tk dd' hs => ?_⟩
  obtain ⟨o, es, ep, hq, h2, h3, h4, _, h5⟩ := dd'
  have I2 : Inv X pins σ (upd H a (.dT (dropK kvs k))) { s with heap := h', toks := tk } :=
    d_write I (by rw [ha]; exact True.intro) hs ⟨o, hq⟩ ⟨Nat.le_trans (dropK_le kvs k) z, hd, _, (L2.DX.KT_drop k rel).keeps (fun c ys ec => (by rw [upd_ne (ne_of ec ha (fun z => nomatch z))]; exact ec)), o, es, ep, hq, h2, h3, h4, h5⟩
  show EP X pins σ Q p.2 _
  exact ⟨v1, _, I2, rv, q1⟩
end
end HW
namespace HW
open PySem PySem.Spec PyProof.Rows L2 HR
section
variable {prog : Program} {w : World} {A : Around}
theorem walk_dict (hh : A.handled = none) (I d : Addr) (hne : d ≠ I) (o : Obj) (es : Array DictEntry) (ep : Nat) (hd : o.data = .dict es ep) :
    Walks prog w A I [I, d] [I] es.size (fun i v => (es.map (·.key))[i]? = some v) (fun i h => h.IsKeyIter I d i es.size ep ∧ h.get? d = some o) where
  sub := fun b hb => by simp at hb; simp [hb]
  frame := fun _ _ _ st hk => ⟨st.1.at fun o e => hk I (by simp) o e, hk d (by simp) _ st.2⟩
  item := fun i s Q E hi st hQ => by
    have hx : es[i]? = some es[i] := Array.getElem?_eq_getElem hi
    refine next_key_item st.1 st.2 hd rfl hx fun h' hit' hs' => ?_
    refine hQ _ h' s.toks ?_ ⟨hit', (hs'.2 d hne).trans st.2⟩ fun b o hb e => (hs'.2 b (fun h => hb (by simp [h]))).trans e
    rw [Array.getElem?_map, hx]
    rfl
  done := fun s Q E st hQ => next_key_end hh st.1 st.2 hd rfl (Nat.le_refl _) fun h' he' => hQ h' s.toks fun b o hb e => he' b o (fun h => hb (by simp [h])) e
  self := fun _ _ _ _ st hQ => wpAny_pyIter_keyiter st.1 hQ
end
end HW
namespace HW
open PySem PySem.Spec PyProof.Rows L2 HR
/-- the least ring -/
def minR (x : List Int) (xs : List (List Int)) : List Int := (PySem.W.minOf (PySem.W.Tup.mk x) (xs.map PySem.W.Tup.mk)).items
section
variable {X : Cx} {pins : List (Addr × Obj)} {σ : L2.St} {H : Hp} {s : Shared}
theorem kt_reads (I : L2.Inv X pins σ H s) : ∀ {kvs : List (List Key × V)} {ys : List (List Key × Addr × Value)} {rs : List (List Int)}, KT H kvs ys → kvs.map Prod.fst = rs.map kR →
    ∃ as, ReadsAll s.heap (ys.map fun y => Value.ref y.2.1) ((rs.map PySem.W.Tup.mk).map PySem.W.Datum.toD) as
  | _, _, [], .nil, _ => ⟨_, .nil⟩
  | _, _, [], .cons _ _, h => by cases h
  | _, _, _ :: _, .nil, h => by cases h
  | _, _, r :: rs, .cons hq t, h => by
    rw [List.map_cons, List.map_cons, List.cons.injEq] at h
    obtain ⟨as, ra⟩ := kt_reads I t h.2
    have k := key_of I.hok hq.2.1
    rw [h.1] at k
    obtain ⟨o, items, n, h1, h2, h3, h4⟩ := k
    obtain ⟨bs, rb⟩ := reads_ints (h := s.heap) (r := r) h4
    exact ⟨_, .cons (.tuple h1 h2 h3 rb) ra⟩
/-- min(d), d a dict whose keys are rings -/
def rMinDT : List V → Hp → VK → Prop := fun vs H Q => ∃ (d : Addr) (kvs : List (List Key × V)) (x : List Int) (xs : List (List Int)), vs = [.ref d] ∧ H d = some (.dT kvs) ∧ kvs.map Prod.fst = (x :: xs).map kR ∧ ∀ q, TupG H q (minR x xs) → Q (.ref q) H
theorem cr_minDT (hc : X.calm = true) (hu : X.A.units + 64 < cLine) : CallR X (.builtin "min") rMinDT := by
  intro pins s σ H vs us Q I r h
  obtain ⟨d, kvs, x, xs, rfl, hd, hk, q⟩ := h
  rw [Vals.ref1 r]
  obtain ⟨z, hs, ys, rel, dd⟩ := dt_of I.hok hd
  obtain ⟨o, es, ep, ho, hx, hdt, he, his, hn⟩ := dd
  obtain ⟨as, ra⟩ := kt_reads I rel hk
  have ek : (es.map (·.key)).toList = ys.map fun y => Value.ref y.2.1 := by
    rw [Array.toList_map, he, List.map_map]
    rfl
  have hn1 : es.size = xs.length + 1 := by
    rw [size_of_entries he, ← Paired.length rel, ← List.length_map (f := Prod.fst), hk, List.length_map, List.length_cons]
  have hne : d ≠ s.heap.objs.size := Nat.ne_of_lt (Heap.lt_size ho)
  refine call_min_walkH (iter_keys hs ho hx hdt ?_)
  have hh : X.A.in1.handled = none := I.ok.hd hc
  rw [← ek] at ra
  refine ⟨_, _, _, _, _, _, _, s.heap, _, rfl, (walk_dict (A := X.A.in1) hh s.heap.objs.size d hne o es ep hdt).toS, ⟨⟨_, Heap.get?_push_size _ rfl, rfl, rfl⟩, Heap.get?_push_of_some _ ho⟩, fun b hb => ?_, by omega, fun b ob e hb => ?_, fun b ob e => Heap.get?_push_of_some _ e,
    PySem.W.cmpIn_lt (A := X.A.in1) ra (PySem.W.alikeAll_datum ((x :: xs).map PySem.W.Tup.mk)) (PySem.W.room_all (PySem.W.depthAll_map ((x :: xs).map PySem.W.Tup.mk)) (by show X.A.units + 1 + 1 < cLine; omega)), fun v s' hP m => ?_⟩
  · show b < (s.heap.push _).objs.size
    rw [Heap.size_push]
    rcases List.mem_cons.mp hb with rfl | hb
    · exact Nat.lt_succ_self _
    · rw [List.mem_singleton.mp hb]
      exact Nat.lt_succ_of_lt (Heap.lt_size ho)
  · exact absurd (Heap.lt_size e) ((List.mem_singleton.mp hb) ▸ Nat.lt_irrefl _)
  · obtain ⟨h', tk, rfl, hk'⟩ := PySem.W.moved_old rfl rfl m
    have e2 := (PySem.W.argBest_fold PySem.W.dataLt PyData.none (PySem.W.Datum.toD (PySem.W.Tup.mk x)) ((xs.map PySem.W.Tup.mk).map PySem.W.Datum.toD) _ (Nat.le_refl _)).2
    rw [List.take_length] at e2
    have e3 : (((xs.map PySem.W.Tup.mk).map PySem.W.Datum.toD).foldl (fun a y => if PySem.W.dataLt y a = true then y else a) (PySem.W.Datum.toD (PySem.W.Tup.mk x))) = PySem.W.Datum.toD (PySem.W.minOf (PySem.W.Tup.mk x) (xs.map PySem.W.Tup.mk)) := PySem.W.minD_map (PySem.W.Tup.mk x) (xs.map PySem.W.Tup.mk)
    rw [e3] at e2
    have el : es.size - 1 = ((xs.map PySem.W.Tup.mk).map PySem.W.Datum.toD).length := by rw [List.length_map, List.length_map]; omega
    rw [el] at hP
    obtain ⟨i, hi⟩ : ∃ i, i = argBest (fun i j => PySem.W.dataLt ((PySem.W.Datum.toD (PySem.W.Tup.mk x) :: (xs.map PySem.W.Tup.mk).map PySem.W.Datum.toD).getD i PyData.none) ((PySem.W.Datum.toD (PySem.W.Tup.mk x) :: (xs.map PySem.W.Tup.mk).map PySem.W.Datum.toD).getD j PyData.none)) ((xs.map PySem.W.Tup.mk).map PySem.W.Datum.toD).length := ⟨_, rfl⟩
    rw [← hi] at e2
    have hP : (es.map (·.key))[i]? = some v := by
      rw [hi]
      exact hP
    have hP2 : (ys.map fun y => Value.ref y.2.1)[i]? = some v := by
      rw [← ek, Array.getElem?_toList]
      exact hP
    rw [List.getElem?_map] at hP2
    obtain ⟨y, hy, rfl⟩ := Option.map_eq_some_iff.mp hP2
    have yl : i < ys.length := (List.getElem?_eq_some_iff.mp hy).1
    have kl : i < kvs.length := by rw [Paired.length rel]; exact yl
    have xl : i < (x :: xs).length := by
      rw [← List.length_map (f := kR), ← hk, List.length_map]
      exact kl
    obtain ⟨y', hy', q1, q2, _⟩ := L2.paired_get rel (List.getElem?_eq_getElem kl)
    rw [hy] at hy'
    cases hy'
    have ekv : kvs[i].1 = kR (x :: xs)[i] := by
      have z : (kvs.map Prod.fst)[i]? = ((x :: xs).map kR)[i]? := by rw [hk]
      rw [List.getElem?_map, List.getElem?_map, List.getElem?_eq_getElem kl, List.getElem?_eq_getElem xl] at z
      exact Option.some.inj z
    have er : (x :: xs)[i] = minR x xs := by
      have z : (((x :: xs).map PySem.W.Tup.mk).map PySem.W.Datum.toD).getD i .none = PySem.W.Datum.toD (PySem.W.Tup.mk (x :: xs)[i]) := by
        rw [List.getD_eq_getElem?_getD, List.getElem?_map, List.getElem?_map, List.getElem?_eq_getElem xl]
        rfl
      have z2 : PySem.W.Datum.toD (PySem.W.Tup.mk (x :: xs)[i]) = PySem.W.Datum.toD (PySem.W.minOf (PySem.W.Tup.mk x) (xs.map PySem.W.Tup.mk)) := z.symm.trans e2
      have z3 : ∀ a b : List Int, PySem.W.Datum.toD (PySem.W.Tup.mk a) = PySem.W.Datum.toD (PySem.W.Tup.mk b) → a = b := fun a b h => by
        have h1 : a.map PyData.int = b.map PyData.int := PyData.tuple.inj h
        have e : ∀ l : List Int, (l.map PyData.int).map (fun d => match d with | .int i => i | _ => 0) = l := fun l => by
          rw [List.map_map]
          exact (List.map_congr_left fun _ _ => rfl).trans (List.map_id l)
        rw [← e a, ← e b, h1]
      exact z3 _ _ z2
    refine ⟨.ref y.2.1, H, I.kept hk', rfl, q _ ?_⟩
    show H y.2.1 = some (.tup (HW.I (minR x xs)))
    rw [q2, ekv, kR_V, er]
end
end HW
namespace HW
open PySem PySem.Spec PyProof.Rows L2 HR
def entsB (L : List (List Int)) : List (List Key × V) := L.map fun r => (kR r, V.bl true)
theorem entsB_len (L : List (List Int)) : (entsB L).length = L.length := List.length_map ..
theorem entsB_get (r : List Int) : ∀ L : List (List Int), valV (entsB L) (kR r) = if r ∈ L then some (.bl true) else none
  | [] => rfl
  | q :: L => by
    show valV ((kR q, V.bl true) :: entsB L) (kR r) = _
    by_cases c : q = r
    · subst c
      rw [if_pos List.mem_cons_self]
      exact valV_pos rfl
    · rw [valV_neg fun e => c (kR_inj e), entsB_get r L]
      by_cases d : r ∈ L
      · rw [if_pos d, if_pos (List.mem_cons_of_mem _ d)]
      · rw [if_neg d, if_neg fun e => by
          rcases List.mem_cons.mp e with h | h
          · exact c h.symm
          · exact d h]
theorem entsB_put {r : List Int} {L : List (List Int)} (h : r ∉ L) : putK (entsB L) (kR r) (.bl true) = entsB (L ++ [r]) := by
  unfold putK
  rw [valV_any, entsB_get, if_neg h]
  unfold entsB
  rw [List.map_append]
  rfl
theorem entsB_drop (r : List Int) : ∀ L : List (List Int), dropK (entsB L) (kR r) = entsB (L.filter fun q => decide (q ≠ r))
  | [] => rfl
  | q :: L => by
    have ih := entsB_drop r L
    show ((kR q, V.bl true) :: entsB L).filter (fun kv => decide (kv.1 ≠ kR r)) = entsB ((q :: L).filter fun q => decide (q ≠ r))
    unfold dropK at ih
    by_cases c : q = r
    · subst c
      rw [List.filter_cons_of_neg (by simp), List.filter_cons_of_neg (by simp), ih]
    · rw [List.filter_cons_of_pos (by simp; exact fun e => c (kR_inj e)), List.filter_cons_of_pos (by simpa using c), ih]
      rfl
/-- the steps from r that stay in L -/
def laterO (m : Int) (L : List (List Int)) (r : List Int) : List Nat := (able r).filter fun k => decide (HR.moved m r k ∈ L)
def endsO (m : Int) (L : List (List Int)) : List (List Int) := L.filter fun r => decide (laterO m L r = [])
def stayO (m : Int) (L : List (List Int)) : List (List Int) := L.filter fun r => !decide (laterO m L r = [])
def lastF (m : Int) : Nat → List (List Int) → List (List Int)
  | 0, L => L
  | u + 1, L => if endsO m L = [] then L else lastF m u (stayO m L)
def startR (n m : Nat) : List (List Int) := (allR m n).filter fun r => !decide ((able r).length ≤ 1)
def lastR (n m : Nat) : List (List Int) := lastF (m : Int) 301 (startR n m)
def sp_later_of : Sp := fun vs H Q _ => ∃ (a d : Addr) (r : List Int) (m : Int) (L : List (List Int)), vs = [.ref a, .int m, .ref d] ∧ TupG H a r ∧ Rd H d (.dT (entsB L)) ∧ 0 < r.length ∧ r.length ≤ 1000 ∧ 0 < m ∧
  ∀ H' p, Same H H' → H p = none → H' p = some (.lst (N (laterO m L r))) → Q (.ref p) H'
theorem Rd.of {H H' : Hp} {d : Addr} {u : HO} (s : Same H H') (h : Rd H d u) : Rd H' d u := by
  rcases h with h | ⟨o, h⟩
  · exact .inl (s _ _ h)
  · exact .inr ⟨o, s _ _ h⟩
theorem DGet.rdT {H : Hp} {a b : Addr} {kvs : List (List Key × V)} {k : List Key} (e : Rd H a (.dT kvs)) (eb : H b = some (.tup (k.map kV))) : DGet H a (.ref b) (valV kvs k) := .inr ⟨kvs, k, b, e, rfl, eb, rfl⟩
def sp_lasting_rings : Sp := fun vs H Q _ => ∃ n m : Nat, vs = [.int (n : Int), .int (m : Int)] ∧ 2 ≤ n ∧ n ≤ 12 ∧ 2 ≤ m ∧ m ≤ 100 ∧ m ^ n ≤ 300 ∧ ∀ H' d, Same H H' → H d = none → H' d = some (.dT (entsB (lastR n m))) → (∀ r ∈ lastR n m, ∃ q, TupG H' q r) → Q (.ref d) H'
theorem allR_nodup (m : Nat) : ∀ n, (allR m n).Nodup
  | 0 => by simp [allR]
  | n + 1 => by
    show ((allR m n).flatMap fun r => (List.range m).map fun (k : Nat) => r ++ [(k : Int)]).Nodup
    rw [List.nodup_iff_pairwise_ne, List.pairwise_flatMap]
    refine ⟨fun r _ => ?_, (List.nodup_iff_pairwise_ne.mp (allR_nodup m n)).imp fun {a b} ne x hx y hy e => ?_⟩
    · rw [List.pairwise_map]
      refine (List.nodup_iff_pairwise_ne.mp List.nodup_range).imp fun ne e => ne ?_
      have := List.append_cancel_left e
      have := List.singleton_inj.mp this
      omega
    · obtain ⟨i, _, rfl⟩ := List.mem_map.mp hx
      obtain ⟨j, _, rfl⟩ := List.mem_map.mp hy
      exact ne (List.append_inj' e rfl).1
end HW
namespace HW
open PySem PySem.Spec PyProof.Rows L2 HR
/-- a list of rings as data -/
def dRs (rs : List (List Int)) : List PyData := rs.map fun r => PyData.tuple (dI r)
theorem can_dRs : ∀ rs, PyData.canLayAll0 (dRs rs) = true
  | [] => rfl
  | r :: rs => by
    show (PyData.canLay0 (.tuple (dI r)) && PyData.canLayAll0 (dRs rs)) = true
    rw [can_dRs rs]
    show (PyData.canLayAll0 (dI r) && true) = true
    rw [can_dI]
    rfl
theorem depth_dRs : ∀ rs, PyData.depthAll (dRs rs) ≤ 1
  | [] => Nat.zero_le _
  | r :: rs => by
    show max (PyData.depth (.tuple (dI r))) (PyData.depthAll (dRs rs)) ≤ 1
    have h : PyData.depth (.tuple (dI r)) = PyData.depthAll (dI r) + 1 := by simp [PyData.depth]
    have := depth_dRs rs
    rw [h, depth_dI]
    omega
theorem shaped_dRs (rs : List (List Int)) : SeqAt.shaped (.list (dRs rs)) = true := by
  unfold SeqAt.shaped
  show (PyData.canLayAll0 (dRs rs) && decide (PyData.depthAll (dRs rs) + 1 ≤ 64)) = true
  rw [can_dRs, decide_eq_true (by have := depth_dRs rs; omega)]
  rfl
theorem dp_Rs {K : PySem.W.Frag} {H : Hp} : ∀ {xs : List V} {rs : List (List Int)}, TupsG H xs rs → DpAll K H xs (dRs rs)
  | _, _, .nil => .nil
  | _, _, .cons ⟨a, e, h⟩ t => by
    rw [e]
    exact .cons (dp_T (tupOf h)) (dp_Rs t)
theorem eqv_nil (rs : List (List Int)) : PyData.eqv (.list (dRs rs)) (.list (dRs [])) = decide (rs = []) := by
  cases rs with
  | nil => rfl
  | cons r rs => rfl
theorem filter_step (L E : List (List Int)) (r : List Int) : ((L.filter fun q => !decide (q ∈ E)).filter fun q => decide (q ≠ r)) = L.filter fun q => !decide (q ∈ E ++ [r]) := by
  rw [List.filter_filter]
  refine List.filter_congr fun q _ => ?_
  by_cases c : q ∈ E
  · simp [c]
  · simp [c]
theorem filter_ends (m : Int) (L : List (List Int)) : (L.filter fun q => !decide (q ∈ endsO m L)) = stayO m L := by
  unfold stayO
  refine List.filter_congr fun q hq => ?_
  congr 1
  refine decide_eq_decide.mpr ?_
  unfold endsO
  rw [List.mem_filter]
  simp [hq]
theorem stay_len {m : Int} {L : List (List Int)} (h : endsO m L ≠ []) : (stayO m L).length < L.length := by
  obtain ⟨r, hr⟩ := List.exists_mem_of_ne_nil _ h
  obtain ⟨h1, h2⟩ := List.mem_filter.mp hr
  exact List.length_filter_lt_length_iff_exists.mpr ⟨r, h1, by simpa using h2⟩
theorem stay_same {m : Int} {L : List (List Int)} (h : endsO m L = []) : stayO m L = L := by
  unfold stayO
  refine List.filter_eq_self.mpr fun r hr => ?_
  have := List.filter_eq_nil_iff.mp h r hr
  simpa using this
end HW
namespace HW
open PySem PySem.Spec PyProof.Rows L2 HR
/-- the way from w on, till a ring comes again -/
def nevF (m : Int) (L : List (List Int)) : Nat → List (List Int) → List Int → List Nat → List Int × List Nat
  | 0, _, _, _ => ([], [])
  | u + 1, ini, w, o => if HR.moved m w ((laterO m L w).headD 0) ∈ ini ++ [w] then (HR.moved m w ((laterO m L w).headD 0), (o ++ [(laterO m L w).headD 0]).drop ((ini ++ [w]).idxOf (HR.moved m w ((laterO m L w).headD 0))))
    else nevF m L u (ini ++ [w]) (HR.moved m w ((laterO m L w).headD 0)) (o ++ [(laterO m L w).headD 0])
def neverR (n m : Nat) : List Int × List Nat := match lastR n m with
  | [] => ([], [])
  | x :: xs => nevF (m : Int) (x :: xs) 302 [] (minR x xs) []
theorem lastF_is {m : Int} : ∀ (u : Nat) (L : List (List Int)), L.length < u → (∀ r ∈ lastF m u L, r ∈ L) ∧ (L.Nodup → (lastF m u L).Nodup) ∧ ∀ r ∈ lastF m u L, laterO m (lastF m u L) r ≠ []
  | 0, L, h => by omega
  | u + 1, L, h => by
    have e : lastF m (u + 1) L = if endsO m L = [] then L else lastF m u (stayO m L) := rfl
    rw [e]
    by_cases c : endsO m L = []
    · rw [if_pos c]
      refine ⟨fun _ h => h, fun h => h, fun r hr z => ?_⟩
      have := List.filter_eq_nil_iff.mp c r hr
      simp [z] at this
    · rw [if_neg c]
      have ls := stay_len c
      obtain ⟨h1, h2, h3⟩ := lastF_is u (stayO m L) (by omega)
      exact ⟨fun r hr => (List.mem_filter.mp (h1 r hr)).1, fun nd => h2 (nd.sublist List.filter_sublist), h3⟩
theorem lastR_is {n m : Nat} (hp : m ^ n ≤ 300) : (∀ r ∈ lastR n m, r ∈ allR m n ∧ 1 < (able r).length) ∧ (lastR n m).Nodup ∧ (∀ r ∈ lastR n m, laterO (m : Int) (lastR n m) r ≠ []) ∧ (lastR n m).length ≤ 300 := by
  have al := allR_len m n
  have sl : (startR n m).length ≤ 300 := by
    have := List.length_filter_le (fun r => !decide ((able r).length ≤ 1)) (allR m n)
    show ((allR m n).filter fun r => !decide ((able r).length ≤ 1)).length ≤ 300
    omega
  obtain ⟨h1, h2, h3⟩ := lastF_is (m := (m : Int)) 301 (startR n m) (by omega)
  have nd := h2 ((allR_nodup m n).sublist List.filter_sublist)
  refine ⟨fun r hr => ?_, nd, h3, ?_⟩
  · obtain ⟨q1, q2⟩ := List.mem_filter.mp (h1 r hr)
    exact ⟨q1, by simpa using q2⟩
  · exact Nat.le_trans (le_of_sub _ _ nd h1) sl
theorem minOf_mem (x : PySem.W.Tup Int) : ∀ xs : List (PySem.W.Tup Int), PySem.W.minOf x xs ∈ x :: xs
  | [] => List.mem_cons_self
  | y :: ys => by
    show PySem.W.minOf (if PySem.W.DatumOrd.lt y x = true then y else x) ys ∈ x :: y :: ys
    have := minOf_mem (if PySem.W.DatumOrd.lt y x = true then y else x) ys
    rcases List.mem_cons.mp this with h | h
    · rw [h]
      split
      · exact List.mem_cons_of_mem _ List.mem_cons_self
      · exact List.mem_cons_self
    · exact List.mem_cons_of_mem _ (List.mem_cons_of_mem _ h)
theorem minR_mem (x : List Int) (xs : List (List Int)) : minR x xs ∈ x :: xs := by
  have := minOf_mem (PySem.W.Tup.mk x) (xs.map PySem.W.Tup.mk)
  unfold minR
  rw [← List.map_cons (f := PySem.W.Tup.mk)] at this
  obtain ⟨r, hr, e⟩ := List.mem_map.mp this
  rw [← e]
  exact hr
theorem any_dRs (r : List Int) : ∀ ws : List (List Int), ((dRs ws).any fun z => PyData.eqv z (.tuple (dI r))) = decide (r ∈ ws)
  | [] => rfl
  | w :: ws => by
    show (PyData.eqv (.tuple (dI w)) (.tuple (dI r)) || (dRs ws).any fun z => PyData.eqv z (.tuple (dI r))) = _
    rw [any_dRs r ws]
    show (PyData.eqvAll (dI w) (dI r) || decide (r ∈ ws)) = _
    rw [eqv_dI]
    by_cases c : w = r
    · simp [c]
    · have : ¬ r = w := fun e => c e.symm
      simp [c, this]
def sp_never (cN cR cG : Addr) : Sp := fun vs H Q E => ∃ x y : Int, vs = [.int x, .int y] ∧ Small cN cR cG x y False H E fun n m => (lastR n m = [] → ∀ H', Same H H' → Q .non H') ∧
  (lastR n m ≠ [] → ∀ H' t a b, Same H H' → H b = none → H' t = some (.tup [.ref a, .ref b]) → TupG H' a (neverR n m).1 → H' b = some (.lst (N (neverR n m).2)) → Q (.ref t) H')
end HW
namespace HW
open PySem PySem.Spec PyProof.Rows L2 HR
theorem room65 {k : Nat} {A : Around} (r : Room k A) : A.units + 65 < cLine := by have := r.un; omega
theorem nevF_succ (m : Int) (L : List (List Int)) (u : Nat) (ini : List (List Int)) (w : List Int) (o : List Nat) : nevF m L (u + 1) ini w o = if HR.moved m w ((laterO m L w).headD 0) ∈ ini ++ [w] then (HR.moved m w ((laterO m L w).headD 0), (o ++ [(laterO m L w).headD 0]).drop ((ini ++ [w]).idxOf (HR.moved m w ((laterO m L w).headD 0))))
    else nevF m L u (ini ++ [w]) (HR.moved m w ((laterO m L w).headD 0)) (o ++ [(laterO m L w).headD 0]) := rfl
end HW
namespace HW
open PySem PySem.Spec PyProof.Rows L2 HR
/-- an answer: a list of ints, or of rings -/
abbrev Ans := List Int ⊕ List (List Int)
def AnsOk (K : PySem.W.Frag) (H : Hp) (xs : List V) : Ans → Prop
  | .inl zs => xs = I zs
  | .inr rs => Tups K H xs rs
def dAns : Ans → List PyData
  | .inl zs => dI zs
  | .inr rs => dRs rs
theorem AnsOk.of {K : PySem.W.Frag} {H H' : Hp} (s : Same H H') {xs : List V} : ∀ {z : Ans}, AnsOk K H xs z → AnsOk K H' xs z
  | .inl _, h => h
  | .inr _, h => Tups.of s h
theorem AnsOk.upd {K : PySem.W.Frag} {H : Hp} {p : Addr} {ys : List V} {o : HO} (hp : H p = some (.lst ys)) {xs : List V} : ∀ {z : Ans}, AnsOk K H xs z → AnsOk K (L2.upd H p o) xs z
  | .inl _, h => h
  | .inr _, h => Tups.upd hp h
theorem dp_Ts {K : PySem.W.Frag} {H : Hp} : ∀ {xs : List V} {rs : List (List Int)}, Tups K H xs rs → DpAll K H xs (dRs rs)
  | _, _, .nil => .nil
  | _, _, .cons ⟨a, e, h⟩ t => by
    rw [e]
    exact .cons (dp_T h) (dp_Ts t)
theorem AnsOk.dp {K : PySem.W.Frag} {H : Hp} {xs : List V} : ∀ {z : Ans}, AnsOk K H xs z → DpAll K H xs (dAns z)
  | .inl zs, h => by
    cases h
    exact dp_I zs
  | .inr rs, h => dp_Ts h
theorem shaped_Ans : ∀ z : Ans, SeqAt.shaped (.list (dAns z)) = true
  | .inl zs => shaped_L zs
  | .inr rs => shaped_dRs rs
theorem eqv_dRs : ∀ rs, PyData.eqvAll (dRs rs) (dRs rs) = true
  | [] => rfl
  | r :: rs => by
    show (PyData.eqv (.tuple (dI r)) (.tuple (dI r)) && PyData.eqvAll (dRs rs) (dRs rs)) = true
    rw [eqv_dRs rs]
    show (PyData.eqvAll (dI r) (dI r) && true) = true
    rw [eqv_dI]
    simp
theorem eqv_Ans : ∀ z : Ans, PyData.eqv (.list (dAns z)) (.list (dAns z)) = true
  | .inl zs => by
    show PyData.eqvAll (dI zs) (dI zs) = true
    rw [eqv_dI]
    simp
  | .inr rs => eqv_dRs rs
def askF (w : Nat) (m : Int) (n : Nat) (r : List Int) (ks : List Nat) (qs : List Int) (rs : List (List Int)) (k : Nat) : Ans :=
  if w = 0 then .inl (Z (able r)) else if w = 1 then .inr rs else if w = 2 then .inl (Z (draws m qs r (if ks.length < 100 then ks.length else 100)).1) else if w = 3 then .inl (counts (Z ks) n)
  else if w = 4 then .inl (mkF n ks).1 else if w = 5 then .inl (Z (healA m qs [] r 0 (most n))) else .inl (Z (roundOf n k))
def sp_law_ask (K : PySem.W.Frag) : Sp := fun vs H Q _ => ∃ (a b c : Addr) (r r' qs : List Int) (m : Int) (n : Nat) (ks : List Nat) (rs : List (List Int)) (k w : Nat), vs = [.int (w : Int), .ref a, .int m, .ref b, .ref c] ∧ w < 7 ∧ SqT K H a (I r) ∧ SqL K H b (I (Z ks)) ∧ SqL K H c (I qs) ∧ Ring n m r ∧ n ≤ 12 ∧ (n : Int) ≤ m ∧ m ≤ 100 ∧
  Un n m r ks r' ∧ able r' = [k] ∧ rs.length = ks.length ∧ goneA m [r] r (Z ks) = .ok (rs ++ [r']) ∧ ∀ H' p xs, Same H H' → H p = none → H' p = some (.lst xs) → xs.length ≤ 500 → AnsOk K H' xs (askF w m n r ks qs (rs ++ [r']) k) → Q (.ref p) H'
end HW
namespace HW
open PySem PySem.Spec PyProof.Rows L2 HR
theorem nevF_len (m : Int) (L : List (List Int)) : ∀ (u : Nat) (ini : List (List Int)) (w : List Int) (o : List Nat), (nevF m L u ini w o).2.length ≤ o.length + u
  | 0, _, _, _ => Nat.zero_le _
  | u + 1, ini, w, o => by
    rw [nevF_succ]
    split
    · show ((o ++ [_]).drop _).length ≤ _
      rw [List.length_drop, List.length_append]
      show o.length + 1 - _ ≤ _
      omega
    · have := nevF_len m L u (ini ++ [w]) (HR.moved m w ((laterO m L w).headD 0)) (o ++ [(laterO m L w).headD 0])
      rw [List.length_append] at this
      have e : [(laterO m L w).headD 0].length = 1 := rfl
      omega
theorem neverR_len (n m : Nat) : (neverR n m).2.length ≤ 302 := by
  unfold neverR
  cases lastR n m with
  | nil => exact Nat.zero_le _
  | cons x xs => exact nevF_len _ _ 302 [] _ []
theorem cut5 (xs : List V) : (cutV xs none (some 5)).length ≤ 5 := by
  unfold cutV
  rw [HT.sIx_none, show (some (5 : Int)) = some ((5 : Nat) : Int) from rfl, HT.sIx_nat, List.length_take]
  omega
end HW
namespace HW
open PySem PySem.Spec PyProof.Rows L2 HR
/-- a list walked within an except suite, left ahead of its end -/
def ItlN (K : PySem.W.Frag) (a : Addr) : It :=
  ⟨fun i H => ∃ xs x, SqL K H a xs ∧ xs[i]? = some x, fun i H x H' => H' = H ∧ ∀ xs, SqL K H a xs → xs[i]? = some x, fun _ _ => False⟩
theorem turn_listN {P : Program} {w : World} {K : PySem.W.Frag} {tg : PySem.Expr} (a it : Addr) : L2H.TurnH P w K tg (ItlN K a) [it] it (fun i h => h.IsListIter it a i) where
  mem := by simp
  obj := fun i h st b hb => by
    have e : b = it := by simpa using hb
    subst e
    obtain ⟨o, e, c, d⟩ := st
    exact ⟨o, e, fun v z => by rw [d] at z; cases z⟩
  keep := fun i h h' st k => st.at fun o e => k it (by simp) o e
  item := by
    intro X hP hw hK hc i pins s σ H E I hf st hg
    subst hP hw hK
    obtain ⟨xs, x, hq, hx⟩ := hg
    obtain ⟨its, rv, p, hz⟩ := I.list hq
    obtain ⟨u, hu, ru⟩ := rv.get hx
    obtain ⟨f0, f1, f2, f3, f4, f5⟩ := hf it (by simp)
    refine wpAny_pyNext_list_item st p.isList (x := u) (by simpa using hu) fun h' st' sb => ?_
    have I1 : L2.Inv X pins σ H { s with heap := h' } := I.turned (t' := s.toks) (fun b o hb e => (sb.2 b hb).trans e) f0 f1 f3 f4 f5
    obtain ⟨o, e, c, d⟩ := id st'
    exact ⟨u, rfl, go_of (s := { s with heap := h' }) e c d (by decide) ⟨x, H, I1, ru, ⟨rfl, fun ys hy => by rw [I.list_inj hy hq]; exact hx⟩, st', fun b hb => (hf b hb).1⟩⟩
  done := by
    intro X hP hw hK hc i pins s σ H E I hf st hg
    exact hg.elim
  self := fun _ _ _ _ _ st h => wpAny_pyIter_listiter st h
def iListN (K : PySem.W.Frag) (te : TE) : TI := fun σ H R => te σ H fun v H1 => ∃ a, v = .ref a ∧ (∃ xs, SqL K H1 a xs) ∧ R (ItlN K a) H1
theorem pi_listN {X : Cx} {tg l : PySem.Expr} {tl : TE} (hl : PE X l tl) : L2H.PIH X tg l (iListN X.K tl) := by
  refine ⟨fun pins s σ H R I h => ?_⟩
  refine thn (hl.run pins s σ H _ I h) fun v s1 ⟨x, H1, I1, r1, q1⟩ => ?_
  obtain ⟨a, e, ⟨xs, hq⟩, q⟩ := q1
  subst e
  cases r1
  obtain ⟨its, rv, p, hz⟩ := I1.list hq
  refine wpAny_pyIter_list p.isList ?_
  refine ⟨s1.heap.objs.size, [s1.heap.objs.size], _, _, H1, rfl, I1.kept (t' := s1.toks) fun b o e => Heap.get?_push_of_some _ e, turn_listN a _, ⟨_, Heap.get?_push_size _ rfl, rfl, rfl⟩, fun b hb => ?_, q⟩
  have e : b = s1.heap.objs.size := by simpa using hb
  subst e
  exact I1.fpOk (Nat.le_refl _) (I1.hok.fresh (Nat.le_refl _))
/-- a loop that is left ahead of the list's end -/
theorem for_listN {K : PySem.W.Frag} {a : Addr} {xs : List V} {g : TG} {tb : TS} {D : Ends} {σ : L2.St} {H : Hp} (Pv : Nat → L2.St → Hp → Prop) (h0 : Pv 0 σ H) (hl : ∀ i σ H, Pv i σ H → i < xs.length ∧ SqL K H a xs)
    (hs : ∀ i x σ H, xs[i]? = some x → Pv i σ H → g x σ H fun σ2 H2 => tb { D with nx := Pv (i + 1), ct := Pv (i + 1), bk := D.nx } σ2 H2) :
    ∃ W : Nat → Nat → L2.St → Hp → Prop, (∃ m, W 0 m σ H) ∧ ∀ i m σ H, W i m σ H →
      ((ItlN K a).stop i H ∧ D.nx σ H) ∨ ((ItlN K a).go i H ∧ ∃ N : L2.St → Hp → Prop, (∀ σ' H', N σ' H' → ∃ m', m' < m ∧ W (i + 1) m' σ' H') ∧ ∀ x H', (ItlN K a).yld i H x H' → g x σ H' fun σ2 H2 => tb { D with nx := N, ct := N, bk := D.nx } σ2 H2) := by
  refine ⟨fun i m σ H => m = xs.length - i ∧ Pv i σ H, ⟨xs.length, rfl, h0⟩, ?_⟩
  rintro i m σ H ⟨rfl, p⟩
  obtain ⟨hi, hq⟩ := hl i σ H p
  have hx : xs[i]? = some xs[i] := List.getElem?_eq_getElem hi
  refine .inr ⟨⟨xs, _, hq, hx⟩, Pv (i + 1), fun σ' H' p' => ⟨xs.length - (i + 1), by omega, rfl, p'⟩, fun x H' y => ?_⟩
  obtain ⟨e, hy⟩ := y
  subst e
  exact hs i x σ _ (hy xs hq) p
end HW
namespace HW
open PySem PySem.Spec PyProof.Rows L2 HR
section
variable {prog : Program} {w : World} {A : Around} {E : Value → Shared → Prop} {s : Shared} {K : Type} [DecidableEq K] {knd : HeapKind prog w K}
theorem truthy_dictH {d : Addr} {kvs : List (K × Addr × Value)} {Q : Bool → Shared → Prop} (hd : (d == sysModules) = false) (hm : s.heap.DictOfH knd d kvs) (hfit : (kvs.length : Int) < 2 ^ 63)
    (h : Q (!kvs.isEmpty) { s with toks := s.toks + 1 + 1 }) : wpAny (model prog w) A (truthy (.ref d)) Q E s := by
  have hne : ((kvs.length : Int) != 0) = !kvs.isEmpty := by cases kvs <;> simp <;> omega
  have key : wpAny (model prog w) A (runValue (.builtin "len" ⟨[.ref d], []⟩)) (fun r s' => r = .int kvs.length (s.toks + 1) ∧ Q (!kvs.isEmpty) s') E s := by
    refine wpAny_runValue (codeAny_builtin entry_len ?_)
    rw [Around.under_plainId plain_len _]
    exact wpAny_mono (wpAny_len_body_dictH (Q := fun r s' => r = .int kvs.length (s.toks + 1) ∧ Q (!kvs.isEmpty) s') hd hm hfit ⟨rfl, h⟩)
      (fun fin s' h' => by obtain ⟨r, rfl, hq⟩ := h'; exact hq) fun _ _ e => e
  unfold truthy
  first
    | refine wpAny_bind (wpAny_callSpecial?_none (name := Str.ofString "__bool__") hm.typeIs noBool_dict ?_)
    | refine wpAny_bind (wpAny_pure (wpAny_bind (wpAny_callSpecial?_none (name := Str.ofString "__bool__") hm.typeIs noBool_dict ?_)))
  first
    | refine wpAny_bind (wpAny_specialOf (name := Str.ofString "__len__") hm.typeIs F.slot_dict_len.lookup ?_)
    | refine wpAny_bind (wpAny_pure (wpAny_bind (wpAny_specialOf (name := Str.ofString "__len__") hm.typeIs F.slot_dict_len.lookup ?_)))
  first
    | exact wpAny_bind (wpAny_mono key (fun r s' h' => by obtain ⟨rfl, hq⟩ := h'; exact wpAny_pure (hne ▸ hq)) fun _ _ e => e)
    | exact wpAny_bind (wpAny_pure (wpAny_bind (wpAny_mono key (fun r s' h' => by obtain ⟨rfl, hq⟩ := h'; exact wpAny_pure (hne ▸ hq)) fun _ _ e => e)))
end
section
variable {X : Cx} {a : PySem.Expr} {ta : TE}
/-- the truth of a dict with tuple keys -/
def tTruD (ta : TE) : TT := fun σ H Q => ta σ H fun x H1 => ∃ d kvs, x = .ref d ∧ H1 d = some (.dT kvs) ∧ Q (!kvs.isEmpty) H1
theorem pt_truthD (ha : PE X a ta) (he : ∀ whole, isTrue a X.env whole = (do let v ← whole; standAt a.pos; holding [v] (truthy v)) := by intro _; rfl) : PT X a (tTruD ta) := by
  refine ⟨fun pins s σ H Q I h => ?_⟩
  refine isTrue_plain (thn (ha.run pins s σ H _ I h) fun v s1 ⟨x, H1, I1, r1, q1⟩ => ?_) (he _)
  obtain ⟨d, kvs, ex, hd, q⟩ := q1
  subst ex
  obtain rfl : v = Value.ref d := r1
  obtain ⟨z, hs, xs, rel, dd⟩ := dt_of I1.hok hd
  refine truthy_dictH hs dd (by have := Paired.length rel; rw [sizeLine_eq] at z; omega) ?_
  have e : xs.isEmpty = kvs.isEmpty := by cases rel <;> rfl
  rw [e]
  exact ⟨H1, I1.tok _, q⟩
end
end HW
namespace HW
open PySem PySem.Spec PyProof.Rows L2 HR
theorem hgt_lt {n : Nat} {m : Int} {r : List Int} {k : Nat} (R : Ring n m r) (hn : n ≤ 12) (hm : (n : Int) ≤ m) (h1 : 1 < (able r).length) (hk : k ∈ able r) : hgt m (HR.moved m r k) < hgt m r := by
  have e := hgt_eq (Bd.top R hm) (Nat.le_trans (most_le hn) (by decide))
  rw [if_neg (by omega)] at e
  obtain ⟨_, a1, _⟩ := fold_max ((able r).map fun k => hgt m (HR.moved m r k)) 0
  have := a1 _ (List.mem_map.mpr ⟨k, hk, rfl⟩)
  omega
theorem hgt_zero {n : Nat} {m : Int} {r : List Int} (R : Ring n m r) (hn : n ≤ 12) (hm : (n : Int) ≤ m) (h1 : (able r).length ≤ 1) : hgt m r = 0 := by
  have e := hgt_eq (Bd.top R hm) (Nat.le_trans (most_le hn) (by decide))
  rw [if_pos h1] at e
  exact e
theorem hgt_one {n : Nat} {m : Int} {r : List Int} (R : Ring n m r) (hn : n ≤ 12) (hm : (n : Int) ≤ m) (h : hgt m r = 0) : (able r).length ≤ 1 := by
  have e := hgt_eq (Bd.top R hm) (Nat.le_trans (most_le hn) (by decide))
  refine Classical.byContradiction fun c => ?_
  rw [if_neg c] at e
  omega
/-- some ring of a list that is not empty has the least height -/
theorem least_hgt (m : Int) : ∀ (l : List (List Int)), l ≠ [] → ∃ r ∈ l, ∀ q ∈ l, hgt m r ≤ hgt m q
  | [], h => absurd rfl h
  | [r], _ => ⟨r, List.mem_cons_self, fun q hq => by rw [List.mem_singleton.mp hq]; exact Nat.le_refl _⟩
  | r :: s :: l, _ => by
    obtain ⟨t, ht, hl⟩ := least_hgt m (s :: l) (by simp)
    by_cases c : hgt m r ≤ hgt m t
    · refine ⟨r, List.mem_cons_self, fun q hq => ?_⟩
      rcases List.mem_cons.mp hq with h | h
      · rw [h]; exact Nat.le_refl _
      · exact Nat.le_trans c (hl q h)
    · refine ⟨t, List.mem_cons_of_mem _ ht, fun q hq => ?_⟩
      rcases List.mem_cons.mp hq with h | h
      · rw [h]; omega
      · exact hl q h
end HW
namespace HW
open PySem PySem.Spec PyProof.Rows L2 HR
/-- the rings one step on -/
def nx (m : Int) (r : List Int) : List (List Int) := (able r).map fun k => HR.moved m r k
/-- those of them that are not among some -/
def nfO (m : Int) (FK : List (List Int)) (r : List Int) : List (List Int) := (nx m r).filter fun q => !decide (q ∈ FK)
def doneO (m : Int) (FK L : List (List Int)) : List (List Int) := L.filter fun r => decide (nfO m FK r = [])
def goO (m : Int) (FK L : List (List Int)) : List (List Int) := L.filter fun q => !decide (q ∈ doneO m FK L)
theorem nfO_nil {m : Int} {FK : List (List Int)} {r : List Int} : nfO m FK r = [] ↔ ∀ q ∈ nx m r, q ∈ FK := by
  unfold nfO
  rw [List.filter_eq_nil_iff]
  constructor
  · intro h q hq
    have := h q hq
    simpa using this
  · intro h q hq
    simp [h q hq]
theorem mem_nx {m : Int} {r q : List Int} : q ∈ nx m r ↔ ∃ k ∈ able r, HR.moved m r k = q := List.mem_map
theorem nx_len (m : Int) (r : List Int) : (nx m r).length = (able r).length := List.length_map ..
theorem able_le (r : List Int) : (able r).length ≤ r.length := Nat.le_trans (List.length_filter_le _ _) (by rw [List.length_range]; exact Nat.le_refl _)
theorem nx_ring {n : Nat} {m : Int} {r q : List Int} (R : Ring n m r) (h : q ∈ nx m r) : Ring n m q := by
  obtain ⟨k, hk, rfl⟩ := mem_nx.mp h
  obtain ⟨h1, _⟩ := mem_able.mp hk
  rw [R.len] at h1
  exact R.moved h1
theorem hgt_next {n : Nat} {m : Int} {r : List Int} (R : Ring n m r) (hn : n ≤ 12) (hm : (n : Int) ≤ m) (h1 : 1 < (able r).length) : hgt m r = 1 + ((nx m r).map (hgt m)).foldl max 0 := by
  have e := hgt_eq (Bd.top R hm) (Nat.le_trans (most_le hn) (by decide))
  rw [if_neg (by omega)] at e
  rw [e]
  unfold nx
  rw [List.map_map]
  rfl
theorem later_mono {m : Int} {S L : List (List Int)} {r : List Int} (h : ∀ q ∈ S, q ∈ L) (hs : laterO m S r ≠ []) : laterO m L r ≠ [] := by
  obtain ⟨k, hk⟩ := List.exists_mem_of_ne_nil _ hs
  obtain ⟨h1, h2⟩ := List.mem_filter.mp hk
  refine List.ne_nil_of_mem (List.mem_filter.mpr ⟨h1, ?_⟩)
  simp only [decide_eq_true_eq] at h2 ⊢
  exact h _ h2
/-- what keeps itself stays to the last -/
theorem lastF_max {m : Int} {S : List (List Int)} (hS : ∀ r ∈ S, laterO m S r ≠ []) : ∀ (u : Nat) (L : List (List Int)), (∀ r ∈ S, r ∈ L) → ∀ r ∈ S, r ∈ lastF m u L
  | 0, _, h, r, hr => h r hr
  | u + 1, L, h, r, hr => by
    show r ∈ if endsO m L = [] then L else lastF m u (stayO m L)
    split
    · exact h r hr
    · refine lastF_max hS u (stayO m L) (fun q hq => List.mem_filter.mpr ⟨h q hq, ?_⟩) r hr
      have := later_mono h (hS q hq)
      simp [this]
/-- what stands in the heights so far -/
def vF (F : List (List Int × Int)) (q : List Int) : Int := match F.find? (fun p => decide (p.1 = q)) with
  | some p => p.2
  | none => 0
theorem vF_mem {q : List Int} : ∀ {F : List (List Int × Int)}, q ∈ F.map Prod.fst → (q, vF F q) ∈ F
  | p :: F, h => by
    by_cases c : p.1 = q
    · have e : vF (p :: F) q = p.2 := by
        unfold vF
        rw [List.find?_cons_of_pos (by simpa using c)]
      rw [e, ← c]
      exact List.mem_cons_self
    · have e : vF (p :: F) q = vF F q := by
        unfold vF
        rw [List.find?_cons_of_neg (by simpa using c)]
      rw [e]
      refine List.mem_cons_of_mem _ (vF_mem ?_)
      rcases List.mem_cons.mp h with z | z
      · exact absurd z.symm c
      · exact z
structure HI (n m : Nat) (L : List (List Int)) (F : List (List Int × Int)) : Prop where
  ndL : L.Nodup
  ndF : (F.map Prod.fst).Nodup
  all : ∀ r, r ∈ allR m n ↔ r ∈ L ∨ r ∈ F.map Prod.fst
  dis : ∀ r ∈ L, r ∉ F.map Prod.fst
  un : ∀ r ∈ L, 1 < (able r).length
  las : ∀ r ∈ F.map Prod.fst, r ∉ lastR n m
  val : n ≤ m → ∀ p ∈ F, p.2 = ((hgt (m : Int) p.1 : Nat) : Int)
def healR (n m : Nat) : List (List Int) := (allR m n).filter fun r => decide ((able r).length ≤ 1)
def zeroF (l : List (List Int)) : List (List Int × Int) := l.map fun r => (r, 0)
theorem zeroF_fst (l : List (List Int)) : (zeroF l).map Prod.fst = l := by
  unfold zeroF
  rw [List.map_map]
  exact (List.map_congr_left fun _ _ => rfl).trans (List.map_id l)
theorem HI.start {n m : Nat} (hn2 : 2 ≤ n) (hn : n ≤ 12) (hm2 : 2 ≤ m) (hp : m ^ n ≤ 300) : HI n m (startR n m) (zeroF (healR n m)) := by
  have nd := allR_nodup m n
  have st : ∀ r, r ∈ startR n m ↔ r ∈ allR m n ∧ 1 < (able r).length := fun r => by
    show r ∈ (allR m n).filter _ ↔ _
    rw [List.mem_filter]
    simp
  have he : ∀ r, r ∈ healR n m ↔ r ∈ allR m n ∧ (able r).length ≤ 1 := fun r => by
    show r ∈ (allR m n).filter _ ↔ _
    rw [List.mem_filter]
    simp
  refine ⟨nd.sublist List.filter_sublist, by rw [zeroF_fst]; exact nd.sublist List.filter_sublist, fun r => ?_, fun r hr h => ?_, fun r hr => ((st r).mp hr).2, fun r hr h => ?_, fun hnm p hp' => ?_⟩
  · rw [zeroF_fst, st, he]
    constructor
    · intro h
      by_cases c : (able r).length ≤ 1
      · exact .inr ⟨h, c⟩
      · exact .inl ⟨h, by omega⟩
    · rintro (h | h) <;> exact h.1
  · rw [zeroF_fst, he] at h
    have := ((st r).mp hr).2
    omega
  · rw [zeroF_fst, he] at hr
    have := ((lastR_is hp).1 r h).2
    omega
  · obtain ⟨r, hr, rfl⟩ := List.mem_map.mp hp'
    obtain ⟨h1, h2⟩ := (he r).mp hr
    show (0 : Int) = ((hgt (m : Int) r : Nat) : Int)
    rw [hgt_zero ((allR_ring hn2 hm2).mp h1) hn (by omega) h2]
    rfl
theorem HI.step {n m : Nat} {L : List (List Int)} {F F' : List (List Int × Int)} (i : HI n m L F) (hp : m ^ n ≤ 300) (e : F'.map Prod.fst = F.map Prod.fst ++ doneO (m : Int) (F.map Prod.fst) L) (hv : n ≤ m → ∀ p ∈ F', p.2 = ((hgt (m : Int) p.1 : Nat) : Int)) :
    HI n m (goO (m : Int) (F.map Prod.fst) L) F' := by
  have dm : ∀ r, r ∈ doneO (m : Int) (F.map Prod.fst) L → r ∈ L ∧ ∀ q ∈ nx (m : Int) r, q ∈ F.map Prod.fst := fun r h => by
    obtain ⟨h1, h2⟩ := List.mem_filter.mp h
    exact ⟨h1, nfO_nil.mp (by simpa using h2)⟩
  have gm : ∀ r, r ∈ goO (m : Int) (F.map Prod.fst) L ↔ r ∈ L ∧ r ∉ doneO (m : Int) (F.map Prod.fst) L := fun r => by
    show r ∈ L.filter _ ↔ _
    rw [List.mem_filter]
    simp
  refine ⟨i.ndL.sublist List.filter_sublist, ?_, fun r => ?_, fun r hr h => ?_, fun r hr => i.un r ((gm r).mp hr).1, fun r hr h => ?_, hv⟩
  · rw [e, List.nodup_append]
    refine ⟨i.ndF, i.ndL.sublist List.filter_sublist, fun a ha b hb ab => ?_⟩
    subst ab
    exact i.dis a (dm a hb).1 ha
  · rw [i.all r, e, List.mem_append, gm r]
    constructor
    · rintro (h | h)
      · by_cases c : r ∈ doneO (m : Int) (F.map Prod.fst) L
        · exact .inr (.inr c)
        · exact .inl ⟨h, c⟩
      · exact .inr (.inl h)
    · rintro (h | h | h)
      · exact .inl h.1
      · exact .inr h
      · exact .inl (dm r h).1
  · obtain ⟨h1, h2⟩ := (gm r).mp hr
    rw [e, List.mem_append] at h
    rcases h with h | h
    · exact i.dis r h1 h
    · exact h2 h
  · rw [e, List.mem_append] at hr
    rcases hr with hr | hr
    · exact i.las r hr h
    · obtain ⟨k, hk⟩ := List.exists_mem_of_ne_nil _ ((lastR_is hp).2.2.1 r h)
      obtain ⟨h1, h2⟩ := List.mem_filter.mp hk
      simp only [decide_eq_true_eq] at h2
      exact i.las _ ((dm r hr).2 _ (mem_nx.mpr ⟨k, h1, rfl⟩)) h2
theorem HI.fin {n m : Nat} {L : List (List Int)} {F : List (List Int × Int)} (i : HI n m L F) (hn2 : 2 ≤ n) (hn : n ≤ 12) (hm2 : 2 ≤ m) (hd : doneO (m : Int) (F.map Prod.fst) L = []) :
    (∀ r, r ∈ F.map Prod.fst ↔ r ∈ allR m n ∧ r ∉ lastR n m) ∧ (n ≤ m → L = []) := by
  have ring : ∀ r ∈ L, Ring n (m : Int) r := fun r hr => (allR_ring hn2 hm2).mp ((i.all r).mpr (.inl hr))
  have out : ∀ r ∈ L, ∃ q ∈ nx (m : Int) r, q ∈ L := fun r hr => by
    have h := List.filter_eq_nil_iff.mp hd r hr
    refine Classical.byContradiction fun c => h ?_
    rw [decide_eq_true_eq]
    refine nfO_nil.mpr fun q hq => ?_
    have hq1 := (allR_ring hn2 hm2).mpr (nx_ring (ring r hr) hq)
    rcases (i.all q).mp hq1 with z | z
    · exact absurd ⟨q, hq, z⟩ c
    · exact z
  constructor
  · intro r
    constructor
    · intro h
      exact ⟨(i.all r).mpr (.inr h), i.las r h⟩
    · rintro ⟨h1, h2⟩
      rcases (i.all r).mp h1 with z | z
      · refine absurd (lastF_max (m := (m : Int)) (S := L) (fun q hq => ?_) 301 (startR n m) (fun q hq => ?_) r z) h2
        · obtain ⟨p, hp1, hp2⟩ := out q hq
          obtain ⟨k, hk, rfl⟩ := mem_nx.mp hp1
          exact List.ne_nil_of_mem (List.mem_filter.mpr ⟨hk, by simpa using hp2⟩)
        · refine List.mem_filter.mpr ⟨(i.all q).mpr (.inl hq), ?_⟩
          have := i.un q hq
          simp
          omega
      · exact z
  · intro hnm
    refine Classical.byContradiction fun c => ?_
    obtain ⟨r, hr, hl⟩ := least_hgt (m : Int) L c
    obtain ⟨q, hq, hq2⟩ := out r hr
    obtain ⟨k, hk, rfl⟩ := mem_nx.mp hq
    have := hgt_lt (ring r hr) hn (by omega) (i.un r hr) hk
    have := hl _ hq2
    omega
theorem HI.lens {n m : Nat} {L : List (List Int)} {F : List (List Int × Int)} (i : HI n m L F) (hp : m ^ n ≤ 300) : L.length ≤ 300 ∧ F.length ≤ 300 := by
  have al := allR_len m n
  have h1 := le_of_sub L (allR m n) i.ndL fun r hr => (i.all r).mpr (.inl hr)
  have h2 := le_of_sub (F.map Prod.fst) (allR m n) i.ndF fun r hr => (i.all r).mpr (.inr hr)
  rw [List.length_map] at h2
  omega
/-- all lists and tuples stand -/
def Kp (H H' : Hp) : Prop := (∀ b ys, H b = some (.lst ys) → H' b = some (.lst ys)) ∧ ∀ b ys, H b = some (.tup ys) → H' b = some (.tup ys)
theorem Kp.refl (H : Hp) : Kp H H := ⟨fun _ _ e => e, fun _ _ e => e⟩
theorem Kp.of {H H' : Hp} (s : Same H H') : Kp H H' := ⟨fun b ys e => s b _ e, fun b ys e => s b _ e⟩
theorem Kp.trans {H H1 H2 : Hp} (a : Kp H H1) (b : Kp H1 H2) : Kp H H2 := ⟨fun c ys e => b.1 c ys (a.1 c ys e), fun c ys e => b.2 c ys (a.2 c ys e)⟩
theorem Kp.putD {H : Hp} {d : Addr} {ks : List (List Key × V)} (h : H d = some (.dT ks)) (o : HO) : Kp H (upd H d o) :=
  ⟨fun b ys e => by rw [upd_ne fun z => by rw [z, h] at e; cases e]; exact e, fun b ys e => by rw [upd_ne fun z => by rw [z, h] at e; cases e]; exact e⟩
theorem Kp.putF {H : Hp} {d : Addr} {od : Obj} {u : HO} (h : H d = some (.frz od u)) (o : HO) : Kp H (upd H d o) :=
  ⟨fun b ys e => by rw [upd_ne fun z => by rw [z, h] at e; cases e]; exact e, fun b ys e => by rw [upd_ne fun z => by rw [z, h] at e; cases e]; exact e⟩
theorem TupG.kp {H H' : Hp} {a : Addr} {r : List Int} (k : Kp H H') (h : TupG H a r) : TupG H' a r := k.2 _ _ h
theorem TupsG.kp {H H' : Hp} {xs : List V} {rs : List (List Int)} (k : Kp H H') (h : TupsG H xs rs) : TupsG H' xs rs := h.keeps k.2
theorem ListG.kp {H H' : Hp} {a : Addr} {rs : List (List Int)} (k : Kp H H') (h : ListG H a rs) : ListG H' a rs := by
  obtain ⟨xs, h1, h2⟩ := h
  exact ⟨xs, k.1 _ _ h1, h2.kp k⟩
/-- all that stood stands, but for what is at d and e -/
def Same2 (d e : Addr) (H H' : Hp) : Prop := ∀ b o, b ≠ d → b ≠ e → H b = some o → H' b = some o
theorem Same2.refl (d e : Addr) (H : Hp) : Same2 d e H H := fun _ _ _ _ h => h
theorem Same2.trans {d e : Addr} {H H1 H2 : Hp} (a : Same2 d e H H1) (b : Same2 d e H1 H2) : Same2 d e H H2 := fun c o n1 n2 h => b c o n1 n2 (a c o n1 n2 h)
theorem Same2.of {d e : Addr} {H H' : Hp} (s : Same H H') : Same2 d e H H' := fun b o _ _ h => s b o h
theorem Same2.put1 {d e : Addr} {H : Hp} (o : HO) : Same2 d e H (upd H d o) := fun b u n _ h => by
  rw [upd_ne n]
  exact h
theorem Same2.put2 {d e : Addr} {H : Hp} (o : HO) : Same2 d e H (upd H e o) := fun b u _ n h => by
  rw [upd_ne n]
  exact h
theorem Same2.kp {d e : Addr} {H H' : Hp} {ks ls : List (List Key × V)} (s : Same2 d e H H') (h1 : H d = some (.dT ks)) (h2 : H e = some (.dT ls)) : Kp H H' :=
  ⟨fun b ys h => s b _ (fun z => by rw [z, h1] at h; cases h) (fun z => by rw [z, h2] at h; cases h) h, fun b ys h => s b _ (fun z => by rw [z, h1] at h; cases h) (fun z => by rw [z, h2] at h; cases h) h⟩
/-- the rings that are left, each with the list of the rings one step on -/
def LeftOk (H : Hp) (m : Int) (kvs : List (List Key × V)) (L : List (List Int)) : Prop := Paired (fun (kv : List Key × V) (r : List Int) => kv.1 = kR r ∧ ∃ p, kv.2 = .ref p ∧ ListG H p (nx m r)) kvs L
theorem LeftOk.kp {H H' : Hp} {m : Int} {kvs : List (List Key × V)} {L : List (List Int)} (k : Kp H H') (h : LeftOk H m kvs L) : LeftOk H' m kvs L :=
  Paired.mapP h fun _ _ ⟨e, p, e2, l⟩ => ⟨e, p, e2, l.kp k⟩
theorem LeftOk.len {H : Hp} {m : Int} {kvs : List (List Key × V)} {L : List (List Int)} (h : LeftOk H m kvs L) : kvs.length = L.length := Paired.length h
theorem LeftOk.val {H : Hp} {m : Int} {r : List Int} : ∀ {kvs : List (List Key × V)} {L : List (List Int)}, LeftOk H m kvs L → r ∈ L → ∃ p, valV kvs (kR r) = some (.ref p) ∧ ListG H p (nx m r)
  | _, _, .nil, h => by cases h
  | (k, v) :: kvs, q :: L, .cons ⟨e, p, e2, l⟩ t, h => by
    by_cases c : q = r
    · subst c
      refine ⟨p, ?_, l⟩
      rw [← e2]
      exact valV_pos e
    · have ne : k ≠ kR r := fun z => c (kR_inj (e.symm.trans z))
      rcases List.mem_cons.mp h with z | z
      · exact absurd z.symm c
      · obtain ⟨p', h1, h2⟩ := LeftOk.val t z
        exact ⟨p', by rw [valV_neg ne]; exact h1, h2⟩
theorem LeftOk.none {H : Hp} {m : Int} {r : List Int} : ∀ {kvs : List (List Key × V)} {L : List (List Int)}, LeftOk H m kvs L → r ∉ L → valV kvs (kR r) = none
  | _, _, .nil, _ => rfl
  | (k, v) :: kvs, q :: L, .cons ⟨e, p, e2, l⟩ t, h => by
    have ne : k ≠ kR r := fun z => h (by rw [kR_inj (e.symm.trans z)]; exact List.mem_cons_self)
    rw [valV_neg ne]
    exact LeftOk.none t fun z => h (List.mem_cons_of_mem _ z)
theorem LeftOk.put {H : Hp} {m : Int} {r : List Int} {p : Addr} {kvs : List (List Key × V)} {L : List (List Int)} (h : LeftOk H m kvs L) (no : r ∉ L) (hp : ListG H p (nx m r)) : LeftOk H m (putK kvs (kR r) (.ref p)) (L ++ [r]) := by
  unfold putK
  rw [valV_any, h.none no]
  exact Paired.snoc h ⟨rfl, p, rfl, hp⟩
theorem LeftOk.drop {H : Hp} {m : Int} {r : List Int} : ∀ {kvs : List (List Key × V)} {L : List (List Int)}, LeftOk H m kvs L → LeftOk H m (dropK kvs (kR r)) (L.filter fun q => decide (q ≠ r))
  | _, _, .nil => .nil
  | (k, v) :: kvs, q :: L, .cons ⟨e, p, e2, l⟩ t => by
    have ih := LeftOk.drop (r := r) t
    have ek : k = kR q := e
    show LeftOk H m (((k, v) :: kvs).filter fun kv => decide (kv.1 ≠ kR r)) ((q :: L).filter fun q => decide (q ≠ r))
    unfold dropK at ih
    by_cases c : q = r
    · subst c
      rw [List.filter_cons_of_neg (by simp [ek]), List.filter_cons_of_neg (by simp)]
      exact ih
    · rw [List.filter_cons_of_pos (by simp [ek]; exact fun e => c (kR_inj e)), List.filter_cons_of_pos (by simpa using c)]
      exact .cons ⟨e, p, e2, l⟩ ih
def sp_law_heights : Sp := fun vs H Q _ => ∃ n m : Nat, vs = [.int (n : Int), .int (m : Int)] ∧ 2 ≤ n ∧ n ≤ 12 ∧ 2 ≤ m ∧ m ≤ 100 ∧ m ^ n ≤ 300 ∧
  ∀ H' d L F, Same H H' → H d = none → H' d = some (.dT (ents F)) → HI n m L F → doneO (m : Int) (F.map Prod.fst) L = [] → (∀ r ∈ allR m n, ∃ q, TupG H' q r) → Q (.ref d) H'
end HW
namespace HW
open PySem PySem.Spec PyProof.Rows L2 HR
theorem range_get (f : Nat → List Int) (l : List Nat) : ((List.range l.length).map fun i => f (l.getD i 0)) = l.map f := by
  refine List.ext_getElem (by rw [List.length_map, List.length_range, List.length_map]) fun i h1 h2 => ?_
  rw [List.length_map] at h2
  rw [List.getElem_map, List.getElem_map, List.getElem_range, List.getD_eq_getElem?_getD, List.getElem?_eq_getElem h2]
  rfl
theorem N_get {l : List Nat} {i : Nat} {x : V} (h : (N l)[i]? = some x) : i < l.length ∧ l.getD i 0 ∈ l ∧ x = .int ((l.getD i 0 : Nat) : Int) := by
  unfold N at h
  rw [List.getElem?_map] at h
  obtain ⟨k, hk, e⟩ := Option.map_eq_some_iff.mp h
  obtain ⟨hl, e2⟩ := List.getElem?_eq_some_iff.mp hk
  have e3 : l.getD i 0 = k := by
    rw [List.getD_eq_getElem?_getD, hk]
    rfl
  rw [e3]
  exact ⟨hl, by rw [← e2]; exact List.getElem_mem hl, e.symm⟩
theorem zeroF_snoc (l : List (List Int)) (r : List Int) : zeroF (l ++ [r]) = zeroF l ++ [(r, 0)] := by
  unfold zeroF
  rw [List.map_append]
  rfl
/-- the ones of the inner list -/
def onesO (FK qs : List (List Int)) : List Int := (qs.filter fun q => !decide (q ∈ FK)).map fun _ => (1 : Int)
theorem onesO_snoc (FK qs : List (List Int)) (q : List Int) : onesO FK (qs ++ [q]) = if q ∈ FK then onesO FK qs else onesO FK qs ++ [1] := by
  unfold onesO
  rw [List.filter_append, List.map_append]
  by_cases c : q ∈ FK
  · rw [if_pos c, List.filter_cons_of_neg (by simp [c]), List.filter_nil, List.map_nil, List.append_nil]
  · rw [if_neg c, List.filter_cons_of_pos (by simp [c]), List.filter_nil]
    rfl
theorem onesO_nil {m : Int} {FK : List (List Int)} {r : List Int} : onesO FK (nx m r) = [] ↔ nfO m FK r = [] := List.map_eq_nil_iff
theorem onesO_len (FK qs : List (List Int)) : (onesO FK qs).length ≤ qs.length := by
  unfold onesO
  rw [List.length_map]
  exact List.length_filter_le _ _
theorem goO_start (m : Int) (L E : List (List Int)) : (L.filter fun q => !decide (q ∈ E.take 0)) = L := List.filter_eq_self.mpr fun q _ => by simp
end HW
namespace HW
open PySem PySem.Spec PyProof.Rows L2 HR
section
variable {X : Cx}
theorem dRs_is (l : List (List Int)) : dRs l = (l.map PySem.W.Tup.mk).map PySem.W.Datum.toD := by
  rw [List.map_map]
  rfl
theorem toD_inj {a b : List Int} (h : PyData.tuple (dI a) = PyData.tuple (dI b)) : a = b := by
  have h1 : a.map PyData.int = b.map PyData.int := PyData.tuple.inj h
  have e : ∀ l : List Int, (l.map PyData.int).map (fun d => match d with | .int i => i | _ => 0) = l := fun l => by
    rw [List.map_map]
    exact (List.map_congr_left fun _ _ => rfl).trans (List.map_id l)
  rw [← e a, ← e b, h1]
/-- min(l), l a list of tracked rings -/
def rMinLT : List V → Hp → VK → Prop := fun vs H Q => ∃ (a : Addr) (ws : List V) (x : List Int) (xs : List (List Int)), vs = [.ref a] ∧ H a = some (.lst ws) ∧ TupsG H ws (x :: xs) ∧ ∀ q, TupG H q (minR x xs) → Q (.ref q) H
theorem cr_minLT (hc : X.calm = true) (hu : X.A.units + 64 < cLine) : CallR X (.builtin "min") rMinLT := by
  intro pins s σ H vs us Q I r h
  obtain ⟨a, ws, x, xs, rfl, ha, ht, q⟩ := h
  rw [Vals.ref1 r]
  obtain ⟨its, rv, hl, _⟩ := I.list (lstOf ha)
  obtain ⟨as, rs⟩ := Dp.readsAll I _ _ _ (dp_Rs ht) rv
  rw [dRs_is] at rs
  refine PySem.W.min_list_data (I.ok.hd hc) hl.isList (x := PySem.W.Datum.toD (PySem.W.Tup.mk x)) (xs := (xs.map PySem.W.Tup.mk).map PySem.W.Datum.toD) rs (PySem.W.alikeAll_datum ((x :: xs).map PySem.W.Tup.mk))
    (PySem.W.room_all (PySem.W.depthAll_map ((x :: xs).map PySem.W.Tup.mk)) (by show X.A.units + 1 + 1 < cLine; omega)) fun i v h' tk bs hi hr hk => ?_
  rw [PySem.W.minD_map] at hr
  have hi : its[i]? = some v := by
    rw [List.getElem?_toArray] at hi
    exact hi
  have il : i < ws.length := by rw [Paired.length rv]; exact (List.getElem?_eq_some_iff.mp hi).1
  obtain ⟨v', hv', rl⟩ := L2.paired_get rv (List.getElem?_eq_getElem il)
  rw [hi] at hv'
  cases hv'
  obtain ⟨r1, hr1, b, eb, tb⟩ := L2.paired_get ht (List.getElem?_eq_getElem il)
  rw [eb] at rl
  obtain rfl : v = Value.ref b := rl
  obtain ⟨cs, r2⟩ := Dp.reads I _ _ _ (dp_T (tupOf tb)) (show RelV (V.ref b) (Value.ref b) from rfl)
  have r3 := PySem.W.reads_keeps hk r2
  have can : PyData.canLay0 (.tuple (dI r1)) = true := by
    show PyData.canLayAll0 (dI r1) = true
    exact can_dI r1
  have e := (Reads.unique r3 _ _ hr).1
  have e2 : r1 = minR x xs := toD_inj e
  exact ⟨.ref b, H, I.kept hk, rfl, q b (by rw [← e2]; exact tb)⟩
end
/-- listLt is an order -/
theorem llt_irr : ∀ a : List Int, PySem.W.listLt a a = false
  | [] => rfl
  | x :: xs => by
    rw [PySem.W.listLt, if_pos rfl]
    exact llt_irr xs
theorem llt_trans : ∀ {a b c : List Int}, PySem.W.listLt a b = true → PySem.W.listLt b c = true → PySem.W.listLt a c = true
  | [], [], c, h, _ => by cases h
  | [], _ :: _, [], _, h => by cases h
  | [], _ :: _, _ :: _, _, _ => rfl
  | _ :: _, [], _, h, _ => by cases h
  | _ :: _, _ :: _, [], _, h => by cases h
  | x :: xs, y :: ys, z :: zs, h1, h2 => by
    rw [PySem.W.listLt] at h1 h2 ⊢
    by_cases c1 : x = y
    · subst c1
      rw [if_pos rfl] at h1
      by_cases c2 : x = z
      · subst c2
        rw [if_pos rfl] at h2 ⊢
        exact llt_trans h1 h2
      · rw [if_neg c2] at h2 ⊢
        exact h2
    · rw [if_neg c1] at h1
      have h1 : x < y := of_decide_eq_true h1
      by_cases c2 : y = z
      · subst c2
        rw [if_neg c1]
        exact decide_eq_true h1
      · rw [if_neg c2] at h2
        have h2 : y < z := of_decide_eq_true h2
        rw [if_neg (show ¬ x = z by omega)]
        exact decide_eq_true (show x < z by omega)
theorem llt_app : ∀ {a b : List Int} (u v : List Int), a.length = b.length → PySem.W.listLt a b = true → PySem.W.listLt (a ++ u) (b ++ v) = true
  | [], [], _, _, _, h => by cases h
  | [], _ :: _, _, _, h, _ => by cases h
  | _ :: _, [], _, _, h, _ => by cases h
  | x :: xs, y :: ys, u, v, hl, h => by
    show PySem.W.listLt (x :: (xs ++ u)) (y :: (ys ++ v)) = true
    rw [PySem.W.listLt] at h ⊢
    by_cases c : x = y
    · rw [if_pos c] at h ⊢
      exact llt_app u v (by simpa using hl) h
    · rw [if_neg c] at h ⊢
      exact h
theorem llt_same : ∀ (a : List Int) {i j : Int}, i < j → PySem.W.listLt (a ++ [i]) (a ++ [j]) = true
  | [], i, j, h => by
    show PySem.W.listLt [i] [j] = true
    rw [PySem.W.listLt, if_neg (by omega)]
    exact decide_eq_true h
  | x :: xs, i, j, h => by
    show PySem.W.listLt (x :: (xs ++ [i])) (x :: (xs ++ [j])) = true
    rw [PySem.W.listLt, if_pos rfl]
    exact llt_same xs h
theorem allR_sorted (m : Nat) : ∀ n, (allR m n).Pairwise fun a b => PySem.W.listLt a b = true
  | 0 => by simp [allR]
  | n + 1 => by
    show ((allR m n).flatMap fun r => (List.range m).map fun (k : Nat) => r ++ [(k : Int)]).Pairwise _
    rw [List.pairwise_flatMap]
    refine ⟨fun r _ => ?_, (allR_sorted m n).imp_of_mem fun {a b} ha hb lt x hx y hy => ?_⟩
    · rw [List.pairwise_map]
      exact List.pairwise_lt_range.imp fun lt => llt_same r (by omega)
    · obtain ⟨i, _, rfl⟩ := List.mem_map.mp hx
      obtain ⟨j, _, rfl⟩ := List.mem_map.mp hy
      exact llt_app _ _ ((mem_allR.mp ha).1.trans (mem_allR.mp hb).1.symm) lt
theorem minOf_least : ∀ (xs : List (PySem.W.Tup Int)) (x : PySem.W.Tup Int), (∀ z : PySem.W.Tup Int, PySem.W.listLt z.items x.items = false → PySem.W.listLt z.items (PySem.W.minOf x xs).items = false) ∧ ∀ z ∈ xs, PySem.W.listLt z.items (PySem.W.minOf x xs).items = false
  | [], x => ⟨fun _ h => h, fun z h => nomatch h⟩
  | y :: ys, x => by
    have e : PySem.W.minOf x (y :: ys) = PySem.W.minOf (if PySem.W.listLt y.items x.items = true then y else x) ys := rfl
    rw [e]
    obtain ⟨h1, h2⟩ := minOf_least ys (if PySem.W.listLt y.items x.items = true then y else x)
    by_cases c : PySem.W.listLt y.items x.items = true
    · rw [if_pos c] at h1 h2 ⊢
      refine ⟨fun z hz => h1 z ?_, fun z hz => ?_⟩
      · cases q : PySem.W.listLt z.items y.items with
        | false => rfl
        | true => rw [llt_trans q c] at hz; cases hz
      · rcases List.mem_cons.mp hz with rfl | hz
        · exact h1 _ (llt_irr _)
        · exact h2 z hz
    · rw [if_neg c] at h1 h2 ⊢
      refine ⟨h1, fun z hz => ?_⟩
      rcases List.mem_cons.mp hz with rfl | hz
      · exact h1 _ (by simpa using c)
      · exact h2 z hz
theorem minR_least (x : List Int) (xs : List (List Int)) : ∀ z ∈ x :: xs, PySem.W.listLt z (minR x xs) = false := fun z hz => by
  obtain ⟨h1, h2⟩ := minOf_least (xs.map PySem.W.Tup.mk) (PySem.W.Tup.mk x)
  rcases List.mem_cons.mp hz with rfl | hz
  · exact h1 (PySem.W.Tup.mk z) (llt_irr _)
  · exact h2 (PySem.W.Tup.mk z) (List.mem_map.mpr ⟨z, hz, rfl⟩)
/-- the first of the greatest -/
theorem better_is (m : Int) : ∀ (l : List (List Int)) (b : Option (List Int)) (w : List Int), l.foldl (better m) b = some w →
    (b = some w ∧ ∀ r ∈ l, hgt m r ≤ hgt m w) ∨ ∃ l1 l2, l = l1 ++ w :: l2 ∧ (∀ r ∈ l1, hgt m r < hgt m w) ∧ (∀ r ∈ l2, hgt m r ≤ hgt m w) ∧ ∀ q, b = some q → hgt m q < hgt m w
  | [], b, w, h => .inl ⟨h, fun r hr => nomatch hr⟩
  | a :: l, b, w, h => by
    have h : l.foldl (better m) (better m b a) = some w := h
    by_cases c : better m b a = some a
    · have nb : ∀ q, b = some q → q = a ∨ hgt m q < hgt m a := fun q e => by
        subst e
        unfold better at c
        by_cases d : ((hgt m q : Nat) : Int) < ((hgt m a : Nat) : Int)
        · exact .inr (by omega)
        · rw [if_neg d] at c
          exact .inl (Option.some.inj c)
      rw [c] at h
      rcases better_is m l (some a) w h with ⟨e, h1⟩ | ⟨l1, l2, e, h1, h2, h3⟩
      · have e := Option.some.inj e
        subst e
        by_cases z : b = some a
        · exact .inl ⟨z, fun r hr => by
            rcases List.mem_cons.mp hr with rfl | hr
            · exact Nat.le_refl _
            · exact h1 r hr⟩
        · refine .inr ⟨[], l, rfl, (fun r hr => nomatch hr), h1, fun q eq => ?_⟩
          rcases nb q eq with rfl | y
          · exact absurd eq z
          · exact y
      · have ha := h3 a rfl
        refine .inr ⟨a :: l1, l2, by rw [e]; rfl, fun r hr => ?_, h2, fun q eq => ?_⟩
        · rcases List.mem_cons.mp hr with rfl | hr
          · exact ha
          · exact h1 r hr
        · rcases nb q eq with rfl | y
          · exact ha
          · omega
    · have cb : better m b a = b ∧ ∃ q, b = some q ∧ hgt m a ≤ hgt m q := by
        cases b with
        | none =>
          exfalso
          apply c
          unfold better
          exact if_pos (show (-1 : Int) < ((hgt m a : Nat) : Int) by omega)
        | some q =>
          unfold better at c ⊢
          by_cases d : ((hgt m q : Nat) : Int) < ((hgt m a : Nat) : Int)
          · exact absurd (if_pos d) c
          · exact ⟨if_neg d, q, rfl, by omega⟩
      obtain ⟨cb, q, eq, hq⟩ := cb
      rw [cb] at h
      rcases better_is m l b w h with ⟨e, h1⟩ | ⟨l1, l2, e, h1, h2, h3⟩
      · refine .inl ⟨e, fun r hr => ?_⟩
        rcases List.mem_cons.mp hr with rfl | hr
        · rw [eq] at e
          cases e
          exact hq
        · exact h1 r hr
      · have := h3 q eq
        refine .inr ⟨a :: l1, l2, by rw [e]; rfl, fun r hr => ?_, h2, h3⟩
        rcases List.mem_cons.mp hr with rfl | hr
        · omega
        · exact h1 r hr
theorem worst_is {n m M : Nat} {x : List Int} {xs : List (List Int)} (hmem : ∀ r, r ∈ x :: xs ↔ r ∈ allR m n ∧ hgt (m : Int) r = M) (hM : ∀ r ∈ allR m n, hgt (m : Int) r ≤ M) : minR x xs = worstR n m := by
  obtain ⟨u1, u2⟩ := (hmem _).mp (minR_mem x xs)
  have ne : allR m n ≠ [] := List.ne_nil_of_mem u1
  obtain ⟨w, hw⟩ := better_some (m : Int) (allR m n) none (.inl ne)
  have ew : worstR n m = w := by
    unfold worstR
    rw [hw]
    rfl
  rw [ew]
  rcases better_is _ _ _ _ hw with ⟨e, _⟩ | ⟨l1, l2, e, h1, h2, _⟩
  · cases e
  · have so := allR_sorted m n
    rw [e] at so u1
    have wm : w ∈ allR m n := by rw [e]; simp
    have wM := hM w wm
    rcases List.mem_append.mp u1 with z | z
    · have := h1 _ z
      omega
    · rcases List.mem_cons.mp z with z | z
      · exact z
      · have y := h2 _ z
        have ww := (hmem w).mpr ⟨wm, by omega⟩
        have l := minR_least x xs w ww
        have so2 := (List.pairwise_append.mp so).2.1
        rw [List.pairwise_cons] at so2
        rw [so2.1 _ z] at l
        cases l
/-- the first of the good ones -/
theorem pick_head (g : Nat → Nat) (u : Nat) : ∀ l : List Nat, (l.map g).findIdx (· == u) < l.length → ∃ t, (l.filter fun k => decide (g k = u)) = l.getD ((l.map g).findIdx (· == u)) 0 :: t
  | [], h => by simp at h
  | k :: l, h => by
    rw [List.map_cons, List.findIdx_cons] at h ⊢
    by_cases c : g k = u
    · have e : (g k == u) = true := by simp [c]
      rw [e]
      exact ⟨_, List.filter_cons_of_pos (by simp [c])⟩
    · have e : (g k == u) = false := by simp [c]
      rw [e] at h ⊢
      obtain ⟨t, ht⟩ := pick_head g u l (by simpa using h)
      exact ⟨t, by rw [List.filter_cons_of_neg (by simp [c]), ht]; rfl⟩
end HW
namespace HW
open PySem PySem.Spec PyProof.Rows L2 HR
theorem HI.good {n m : Nat} {L : List (List Int)} {F : List (List Int × Int)} (i : HI n m L F) (hn2 : 2 ≤ n) (hn : n ≤ 12) (hm2 : 2 ≤ m) (hnm : n ≤ m) (hd : doneO (m : Int) (F.map Prod.fst) L = []) :
    (∀ r ∈ allR m n, (r, ((hgt (m : Int) r : Nat) : Int)) ∈ F) ∧ ∀ p ∈ F, p.1 ∈ allR m n ∧ p.2 = ((hgt (m : Int) p.1 : Nat) : Int) := by
  have eL := (i.fin hn2 hn hm2 hd).2 hnm
  subst eL
  have v := i.val hnm
  refine ⟨fun r hr => ?_, fun p hp => ⟨(i.all _).mpr (.inr (List.mem_map_of_mem hp)), v p hp⟩⟩
  rcases (i.all r).mp hr with z | z
  · cases z
  · obtain ⟨p, hp, rfl⟩ := List.mem_map.mp z
    rw [← v p hp]
    exact hp
theorem top_F {n m : Nat} {F : List (List Int × Int)} (g1 : ∀ r ∈ allR m n, (r, ((hgt (m : Int) r : Nat) : Int)) ∈ F) (g2 : ∀ p ∈ F, p.1 ∈ allR m n ∧ p.2 = ((hgt (m : Int) p.1 : Nat) : Int)) {M : Int} (h1 : M ∈ F.map Prod.snd) (h2 : ∀ y ∈ F.map Prod.snd, y ≤ M) :
    M = ((hgt (m : Int) (worstR n m) : Nat) : Int) ∧ worstR n m ∈ allR m n ∧ ∃ x xs, (F.filter fun p => decide (p.2 = M)).map Prod.fst = x :: xs ∧ minR x xs = worstR n m := by
  obtain ⟨p0, hp0, e0⟩ := List.mem_map.mp h1
  obtain ⟨a0, v0⟩ := g2 p0 hp0
  obtain ⟨Mn, hMn⟩ : ∃ Mn : Nat, M = (Mn : Int) := ⟨hgt (m : Int) p0.1, by rw [← e0, v0]⟩
  have top : ∀ r ∈ allR m n, hgt (m : Int) r ≤ Mn := fun r hr => by
    have := h2 _ (List.mem_map_of_mem (f := Prod.snd) (g1 r hr))
    have : ((hgt (m : Int) r : Nat) : Int) ≤ M := this
    omega
  have mem : ∀ r, r ∈ (F.filter fun p => decide (p.2 = M)).map Prod.fst ↔ r ∈ allR m n ∧ hgt (m : Int) r = Mn := fun r => by
    constructor
    · intro h
      obtain ⟨p, hp, rfl⟩ := List.mem_map.mp h
      obtain ⟨q1, q2⟩ := List.mem_filter.mp hp
      obtain ⟨q3, q4⟩ := g2 p q1
      have : p.2 = M := by simpa using q2
      exact ⟨q3, by omega⟩
    · rintro ⟨h1, h2⟩
      refine List.mem_map.mpr ⟨_, List.mem_filter.mpr ⟨g1 r h1, ?_⟩, rfl⟩
      rw [decide_eq_true_eq]
      show ((hgt (m : Int) r : Nat) : Int) = M
      rw [h2, hMn]
  have m0 : p0.1 ∈ (F.filter fun p => decide (p.2 = M)).map Prod.fst := (mem _).mpr ⟨a0, by omega⟩
  obtain ⟨G, hG⟩ : ∃ G, G = (F.filter fun p => decide (p.2 = M)).map Prod.fst := ⟨_, rfl⟩
  rw [← hG] at mem m0 ⊢
  cases G with
  | nil => cases m0
  | cons x xs =>
    have e := worst_is (n := n) (m := m) mem top
    have mw := (mem _).mp (minR_mem x xs)
    rw [e] at mw
    exact ⟨by rw [mw.2, hMn], mw.1, x, xs, rfl, e⟩
theorem wOrd_cons (m : Int) (u : Nat) (r : List Int) : wOrd m (u + 1) r = (able r).getD (pickW m u r) 0 :: wOrd m u (HR.moved m r ((able r).getD (pickW m u r) 0)) := rfl
theorem pick_is {n : Nat} {m : Int} {r : List Int} {u : Nat} (R : Ring n m r) (hn : n ≤ 12) (hm : (n : Int) ≤ m) (h : hgt m r = u + 1) :
    (able r).getD (pickW m u r) 0 ∈ able r ∧ hgt m (HR.moved m r ((able r).getD (pickW m u r) 0)) = u ∧ ∃ t, ((able r).filter fun k => decide (hgt m (HR.moved m r k) = u)) = (able r).getD (pickW m u r) 0 :: t := by
  obtain ⟨hl, h1, _⟩ := pickW_is R hn hm h
  have e : (able r).getD (pickW m u r) 0 = (able r)[pickW m u r] := by
    rw [List.getD_eq_getElem?_getD, List.getElem?_eq_getElem hl]
    rfl
  obtain ⟨t, ht⟩ := pick_head (fun k => hgt m (HR.moved m r k)) u (able r) hl
  exact ⟨by rw [e]; exact List.getElem_mem hl, by rw [e]; exact h1, t, ht⟩
theorem key_ents {F : List (List Int × Int)} {i : Nat} {k : List Key} {v : V} (h : (ents F)[i]? = some (k, v)) : ∃ r z, F[i]? = some (r, z) ∧ k = kR r ∧ v = .int z := by
  unfold ents at h
  rw [List.getElem?_map] at h
  obtain ⟨p, hp, e⟩ := Option.map_eq_some_iff.mp h
  exact ⟨p.1, p.2, hp, (congrArg Prod.fst e).symm, (congrArg Prod.snd e).symm⟩
theorem allR_ne {n m : Nat} (hm : 1 ≤ m) : allR m n ≠ [] := fun e => by
  have h := allR_len m n
  rw [e] at h
  have : 0 < m ^ n := Nat.pow_pos hm
  simp at h
  omega
end HW
namespace HW
open PySem PySem.Spec PyProof.Rows L2 HR
/-- pairs written down, one after another -/
def aP (u : TA) : List (Int × Int) → TA
  | [] => u
  | p :: l => tCons (tTup (tCons (tC (.int p.1)) (tCons (tC (.int p.2)) tNil))) (aP u l)
theorem aP_ok {u : TA} {σ : L2.St} : ∀ (l : List (Int × Int)) (H : Hp) (Q : List V → Hp → Prop), (∀ H' xs, Same H H' → TupsG H' xs (l.map fun p => [p.1, p.2]) → u σ H' fun ys H'' => Q (xs ++ ys) H'') → aP u l σ H Q
  | [], H, Q, h => h H [] (Same.refl H) .nil
  | p :: l, H, Q, h => by
    refine ⟨big (by show 2 ≤ 1000; decide), fun t ht => ?_⟩
    have s1 := same_upd (o := .tup [V.int p.1, V.int p.2]) ht
    exact aP_ok l _ (fun xs H'' => Q (V.ref t :: xs) H'') fun H' xs s2 h2 => h H' (V.ref t :: xs) (s1.trans s2) (.cons ⟨t, rfl, s2 _ _ upd_same⟩ h2)
end HW
namespace HW
open PySem PySem.Spec PyProof.Rows L2 HR
/-- a way within L -/
def Pth (m : Int) (L : List (List Int)) : List Int → List Nat → List Int → Prop
  | r, [], q => r = q
  | r, k :: ks, q => k ∈ laterO m L r ∧ Pth m L (HR.moved m r k) ks q
theorem Pth.snoc {m : Int} {L : List (List Int)} {q : List Int} {k : Nat} (hk : k ∈ laterO m L q) : ∀ {ks : List Nat} {r : List Int}, Pth m L r ks q → Pth m L r (ks ++ [k]) (HR.moved m q k)
  | [], r, h => by
    have h : r = q := h
    subst h
    exact ⟨hk, rfl⟩
  | j :: ks, r, h => ⟨h.1, Pth.snoc hk h.2⟩
theorem mem_later {m : Int} {L : List (List Int)} {r : List Int} {k : Nat} : k ∈ laterO m L r ↔ k ∈ able r ∧ HR.moved m r k ∈ L := by
  unfold laterO
  rw [List.mem_filter, decide_eq_true_eq]
theorem Pth.un {n : Nat} {m : Int} {L : List (List Int)} {q : List Int} (hL : ∀ r ∈ L, r.length = n ∧ 1 < (able r).length) : ∀ {ks : List Nat} {r : List Int}, r ∈ L → Pth m L r ks q → Un n m r ks q
  | [], r, _, h => by
    have h : r = q := h
    subst h
    exact .nil
  | k :: ks, r, hr, h => by
    obtain ⟨h1, h2⟩ := mem_later.mp h.1
    obtain ⟨h3, h4⟩ := mem_able.mp h1
    obtain ⟨l1, l2⟩ := hL r hr
    exact un_cons (by omega) h4 (by omega) (Pth.un hL h2 h.2)
theorem head_in {l : List Nat} (h : l ≠ []) : l.headD 0 ∈ l := by
  cases l with
  | nil => exact absurd rfl h
  | cons a l => exact List.mem_cons_self
theorem nevF_is {m : Int} {L : List (List Int)} (hL : ∀ r ∈ L, laterO m L r ≠ []) : ∀ (u : Nat) (ini : List (List Int)) (w : List Int) (o : List Nat), o.length = ini.length → (ini ++ [w]).Nodup → (∀ r ∈ ini ++ [w], r ∈ L) →
    (∀ (i : Nat) (q : List Int), (ini ++ [w])[i]? = some q → Pth m L q (o.drop i) w) → L.length < u + ini.length →
    (nevF m L u ini w o).2 ≠ [] ∧ (nevF m L u ini w o).1 ∈ L ∧ Pth m L (nevF m L u ini w o).1 (nevF m L u ini w o).2 (nevF m L u ini w o).1
  | 0, ini, w, o, _, nd, sub, _, lt => by
    have := le_of_sub _ _ nd sub
    rw [List.length_append] at this
    simp at this
    omega
  | u + 1, ini, w, o, ol, nd, sub, hp, lt => by
    have wL : w ∈ L := sub w (List.mem_append_right _ List.mem_cons_self)
    obtain ⟨k, hk⟩ : ∃ k, k = (laterO m L w).headD 0 := ⟨_, rfl⟩
    have km : k ∈ laterO m L w := by rw [hk]; exact head_in (hL w wL)
    have qL := (mem_later.mp km).2
    rw [nevF_succ, ← hk]
    by_cases c : HR.moved m w k ∈ ini ++ [w]
    · rw [if_pos c]
      have hi : (ini ++ [w]).idxOf (HR.moved m w k) < (ini ++ [w]).length := List.idxOf_lt_length_of_mem c
      obtain ⟨j, hj⟩ : ∃ j, j = (ini ++ [w]).idxOf (HR.moved m w k) := ⟨_, rfl⟩
      have ej : (ini ++ [w])[j]? = some (HR.moved m w k) := by
        rw [hj, List.getElem?_eq_getElem hi, List.getElem_idxOf]
      rw [← hj] at hi ⊢
      rw [List.length_append] at hi
      have hi : j < ini.length + 1 := hi
      have de : (o ++ [k]).drop j = o.drop j ++ [k] := List.drop_append_of_le_length (by omega)
      refine ⟨?_, qL, ?_⟩
      · show (o ++ [k]).drop j ≠ []
        rw [de]
        simp
      · show Pth m L (HR.moved m w k) ((o ++ [k]).drop j) (HR.moved m w k)
        rw [de]
        exact Pth.snoc km (hp j _ ej)
    · rw [if_neg c]
      refine nevF_is hL u (ini ++ [w]) (HR.moved m w k) (o ++ [k]) (by rw [List.length_append, List.length_append, ol]; rfl) ?_ (fun r hr => ?_) (fun i q hq => ?_) (by rw [List.length_append]; show L.length < u + (ini.length + 1); omega)
      · rw [List.nodup_append]
        refine ⟨nd, by simp, fun a ha b hb ab => ?_⟩
        rw [List.mem_singleton.mp hb] at ab
        rw [ab] at ha
        exact c ha
      · rcases List.mem_append.mp hr with h | h
        · exact sub r h
        · rw [List.mem_singleton.mp h]
          exact qL
      · by_cases d : i < (ini ++ [w]).length
        · rw [List.getElem?_append_left d] at hq
          have d2 : i < ini.length + 1 := by
            rw [List.length_append] at d
            exact d
          rw [List.drop_append_of_le_length (by omega)]
          exact Pth.snoc km (hp i q hq)
        · rw [List.getElem?_append_right (by omega)] at hq
          have li : (ini ++ [w]).length = ini.length + 1 := List.length_append ..
          have z : i - (ini ++ [w]).length = 0 := by
            have := (List.getElem?_eq_some_iff.mp hq).1
            simp at this ⊢
            omega
          rw [z] at hq
          have hq : HR.moved m w k = q := Option.some.inj hq
          rw [List.drop_eq_nil_of_le (by rw [List.length_append, ol]; show ini.length + 1 ≤ i; omega)]
          exact hq.symm
theorem never_is {n m : Nat} (hp : m ^ n ≤ 300) (hne : lastR n m ≠ []) : (neverR n m).2 ≠ [] ∧ (neverR n m).1 ∈ lastR n m ∧ Pth (m : Int) (lastR n m) (neverR n m).1 (neverR n m).2 (neverR n m).1 := by
  obtain ⟨l1, l2, l3, l4⟩ := lastR_is hp
  obtain ⟨L, hL⟩ : ∃ L, L = lastR n m := ⟨_, rfl⟩
  unfold neverR
  rw [← hL] at l1 l2 l3 l4 hne ⊢
  cases L with
  | nil => exact absurd rfl hne
  | cons x xs =>
    have mm := minR_mem x xs
    refine nevF_is l3 302 [] (minR x xs) [] rfl (by simp) (fun r hr => ?_) (fun i q hq => ?_) (by show (x :: xs).length < 302 + 0; omega)
    · rw [List.mem_singleton.mp hr]
      exact mm
    · cases i with
      | zero =>
        have hq : minR x xs = q := Option.some.inj hq
        exact hq.symm
      | succ i => cases hq
theorem never_len (n m : Nat) : (neverR n m).2.length ≤ 302 := neverR_len n m
/-- all rings have a height just where none stays to the last -/
theorem HI.count {n m : Nat} {L : List (List Int)} {F : List (List Int × Int)} (i : HI n m L F) (hn2 : 2 ≤ n) (hn : n ≤ 12) (hm2 : 2 ≤ m) (hp : m ^ n ≤ 300) (hd : doneO (m : Int) (F.map Prod.fst) L = []) :
    F.length = (allR m n).length ↔ lastR n m = [] := by
  have h := (i.fin hn2 hn hm2 hd).1
  have l1 := (lastR_is hp).1
  have sub := le_of_sub (F.map Prod.fst) (allR m n) i.ndF fun r hr => ((h r).mp hr).1
  rw [List.length_map] at sub
  constructor
  · intro e
    refine Classical.byContradiction fun c => ?_
    obtain ⟨r, hr⟩ := List.exists_mem_of_ne_nil _ c
    have nr : r ∉ F.map Prod.fst := fun z => ((h r).mp z).2 hr
    have := le_of_sub (r :: F.map Prod.fst) (allR m n) (List.nodup_cons.mpr ⟨nr, i.ndF⟩) fun q hq => by
      rcases List.mem_cons.mp hq with rfl | hq
      · exact (l1 _ hr).1
      · exact ((h q).mp hq).1
    rw [List.length_cons, List.length_map] at this
    omega
  · intro e
    have := le_of_sub (allR m n) (F.map Prod.fst) (allR_nodup m n) fun r hr => (h r).mpr ⟨hr, by rw [e]; simp⟩
    rw [List.length_map] at this
    omega
end HW
namespace HW
open PySem PySem.Spec PyProof.Rows L2 HR
def topS (i : Nat) : Stmt := PySem.Challenge.pw_healring_k12_never.main.body.getD i (.Pass ⟨0, 0, 0, 0⟩)
abbrev s_need_numbers : Stmt := topS 12
abbrev p_need_numbers : List Str := ["many"]
abbrev n_need_numbers : List Str := ["many"]
theorem sc_need_numbers : FnScope n_need_numbers p_need_numbers (defScope s_need_numbers) :=
  ⟨rfl, rfl, rfl, by decide +kernel, rfl, by decide +kernel, by decide +kernel⟩
abbrev s_need_machines : Stmt := topS 13
abbrev p_need_machines : List Str := ["machines"]
abbrev n_need_machines : List Str := ["machines"]
theorem sc_need_machines : FnScope n_need_machines p_need_machines (defScope s_need_machines) :=
  ⟨rfl, rfl, rfl, by decide +kernel, rfl, by decide +kernel, by decide +kernel⟩
abbrev s_need_ring : Stmt := topS 14
abbrev p_need_ring : List Str := ["ring", "many"]
abbrev n_need_ring : List Str := ["ring", "many", "number"]
theorem sc_need_ring : FnScope n_need_ring p_need_ring (defScope s_need_ring) :=
  ⟨rfl, rfl, rfl, by decide +kernel, rfl, by decide +kernel, by decide +kernel⟩
abbrev s_may : Stmt := topS 15
abbrev p_may : List Str := ["ring", "machine"]
abbrev n_may : List Str := ["ring", "machine", "alike"]
theorem sc_may : FnScope n_may p_may (defScope s_may) :=
  ⟨rfl, rfl, rfl, by decide +kernel, rfl, by decide +kernel, by decide +kernel⟩
abbrev s_able_of : Stmt := topS 16
abbrev p_able_of : List Str := ["ring"]
abbrev n_able_of : List Str := ["ring", "machine"]
theorem sc_able_of : FnScope n_able_of p_able_of (defScope s_able_of) :=
  ⟨rfl, rfl, rfl, by decide +kernel, rfl, by decide +kernel, by decide +kernel⟩
abbrev s_moved : Stmt := topS 17
abbrev p_moved : List Str := ["ring", "many", "machine"]
abbrev n_moved : List Str := ["ring", "many", "machine", "number"]
theorem sc_moved : FnScope n_moved p_moved (defScope s_moved) :=
  ⟨rfl, rfl, rfl, by decide +kernel, rfl, by decide +kernel, by decide +kernel⟩
abbrev s_step_of : Stmt := topS 18
abbrev p_step_of : List Str := ["ring", "many", "machine"]
abbrev n_step_of : List Str := ["ring", "many", "machine"]
theorem sc_step_of : FnScope n_step_of p_step_of (defScope s_step_of) :=
  ⟨rfl, rfl, rfl, by decide +kernel, rfl, by decide +kernel, by decide +kernel⟩
abbrev s_gone : Stmt := topS 19
abbrev p_gone : List Str := ["ring", "many", "order"]
abbrev n_gone : List Str := ["ring", "many", "order", "rings", "machine"]
theorem sc_gone : FnScope n_gone p_gone (defScope s_gone) :=
  ⟨rfl, rfl, rfl, by decide +kernel, rfl, by decide +kernel, by decide +kernel⟩
abbrev s_all_rings : Stmt := topS 22
abbrev p_all_rings : List Str := ["machines", "many"]
abbrev n_all_rings : List Str := ["machines", "many", "rings", "place", "longer", "ring", "number"]
theorem sc_all_rings : FnScope n_all_rings p_all_rings (defScope s_all_rings) :=
  ⟨rfl, rfl, rfl, by decide +kernel, rfl, by decide +kernel, by decide +kernel⟩
abbrev s_need_small : Stmt := topS 23
abbrev p_need_small : List Str := ["machines", "many"]
abbrev n_need_small : List Str := ["machines", "many", "count", "place"]
theorem sc_need_small : FnScope n_need_small p_need_small (defScope s_need_small) :=
  ⟨rfl, rfl, rfl, by decide +kernel, rfl, by decide +kernel, by decide +kernel⟩
abbrev s_later_of : Stmt := topS 24
abbrev p_later_of : List Str := ["ring", "many", "left"]
abbrev n_later_of : List Str := ["ring", "many", "left", "machine"]
theorem sc_later_of : FnScope n_later_of p_later_of (defScope s_later_of) :=
  ⟨rfl, rfl, rfl, by decide +kernel, rfl, by decide +kernel, by decide +kernel⟩
abbrev s_lasting_rings : Stmt := topS 25
abbrev p_lasting_rings : List Str := ["machines", "many"]
abbrev n_lasting_rings : List Str := ["machines", "many", "left", "ring", "goes_on", "ends"]
theorem sc_lasting_rings : FnScope n_lasting_rings p_lasting_rings (defScope s_lasting_rings) :=
  ⟨rfl, rfl, rfl, by decide +kernel, rfl, by decide +kernel, by decide +kernel⟩
abbrev s_never : Stmt := topS 26
abbrev p_never : List Str := ["machines", "many"]
abbrev n_never : List Str := ["machines", "many", "left", "way", "order", "machine", "ring", "at"]
theorem sc_never : FnScope n_never p_never (defScope s_never) :=
  ⟨rfl, rfl, rfl, by decide +kernel, rfl, by decide +kernel, by decide +kernel⟩
abbrev s_law_cell_at : Stmt := topS 28
abbrev p_law_cell_at : List Str := ["_law_script", "_law_k"]
abbrev n_law_cell_at : List Str := ["_law_script", "_law_k"]
theorem sc_law_cell_at : FnScope n_law_cell_at p_law_cell_at (defScope s_law_cell_at) :=
  ⟨rfl, rfl, rfl, by decide +kernel, rfl, by decide +kernel, by decide +kernel⟩
abbrev s_law_whole : Stmt := topS 29
abbrev p_law_whole : List Str := ["_law_told_here"]
abbrev n_law_whole : List Str := ["_law_told_here"]
theorem sc_law_whole : FnScope n_law_whole p_law_whole (defScope s_law_whole) :=
  ⟨rfl, rfl, rfl, by decide +kernel, rfl, by decide +kernel, by decide +kernel⟩
abbrev s_law_alike : Stmt := topS 30
abbrev p_law_alike : List Str := ["_law_told_here", "_law_due_here"]
abbrev n_law_alike : List Str := ["_law_told_here", "_law_due_here", "_law_k"]
theorem sc_law_alike : FnScope n_law_alike p_law_alike (defScope s_law_alike) :=
  ⟨rfl, rfl, rfl, by decide +kernel, rfl, by decide +kernel, by decide +kernel⟩
abbrev s_law_able : Stmt := topS 31
abbrev p_law_able : List Str := ["_law_ring"]
abbrev n_law_able : List Str := ["_law_ring", "_law_found", "_law_k"]
theorem sc_law_able : FnScope n_law_able p_law_able (defScope s_law_able) :=
  ⟨rfl, rfl, rfl, by decide +kernel, rfl, by decide +kernel, by decide +kernel⟩
abbrev s_law_step : Stmt := topS 32
abbrev p_law_step : List Str := ["_law_ring", "_law_many", "_law_k"]
abbrev n_law_step : List Str := ["_law_ring", "_law_many", "_law_k", "_law_told_here"]
theorem sc_law_step : FnScope n_law_step p_law_step (defScope s_law_step) :=
  ⟨rfl, rfl, rfl, by decide +kernel, rfl, by decide +kernel, by decide +kernel⟩
abbrev s_law_all : Stmt := topS 33
abbrev p_law_all : List Str := ["_law_machines", "_law_many"]
abbrev n_law_all : List Str := ["_law_machines", "_law_many", "_law_rings", "_law_place", "_law_longer", "_law_ring", "_law_number"]
theorem sc_law_all : FnScope n_law_all p_law_all (defScope s_law_all) :=
  ⟨rfl, rfl, rfl, by decide +kernel, rfl, by decide +kernel, by decide +kernel⟩
abbrev s_law_heights : Stmt := topS 34
abbrev p_law_heights : List Str := ["_law_machines", "_law_many"]
abbrev n_law_heights : List Str := ["_law_machines", "_law_many", "_law_left", "_law_found", "_law_ring", "_law_free", "_law_k", "_law_done", "_law_one"]
theorem sc_law_heights : FnScope n_law_heights p_law_heights (defScope s_law_heights) :=
  ⟨rfl, rfl, rfl, by decide +kernel, rfl, by decide +kernel, by decide +kernel⟩
abbrev s_law_sizes : Stmt := topS 35
abbrev p_law_sizes : List Str := ["_law_cell"]
abbrev n_law_sizes : List Str := ["_law_cell", "_law_machines", "_law_great"]
theorem sc_law_sizes : FnScope n_law_sizes p_law_sizes (defScope s_law_sizes) :=
  ⟨rfl, rfl, rfl, by decide +kernel, rfl, by decide +kernel, by decide +kernel⟩
abbrev s_law_only : Stmt := topS 36
abbrev p_law_only : List Str := ["_law_e", "_law_at"]
abbrev n_law_only : List Str := ["_law_e", "_law_at", "_law_found"]
theorem sc_law_only : FnScope n_law_only p_law_only (defScope s_law_only) :=
  ⟨rfl, rfl, rfl, by decide +kernel, rfl, by decide +kernel, by decide +kernel⟩
abbrev s_law_told : Stmt := topS 37
abbrev p_law_told : List Str := ["_law_machines", "_law_many"]
abbrev n_law_told : List Str := ["_law_machines", "_law_many", "_law_e", "_law_at"]
theorem sc_law_told : FnScope n_law_told p_law_told (defScope s_law_told) :=
  ⟨rfl, rfl, rfl, by decide +kernel, rfl, by decide +kernel, by decide +kernel⟩
abbrev s_law_due : Stmt := topS 38
abbrev p_law_due : List Str := ["_law_machines", "_law_many"]
abbrev n_law_due : List Str := ["_law_machines", "_law_many"]
theorem sc_law_due : FnScope n_law_due p_law_due (defScope s_law_due) :=
  ⟨rfl, rfl, rfl, by decide +kernel, rfl, by decide +kernel, by decide +kernel⟩
abbrev s_law : Stmt := topS 39
abbrev p_law : List Str := ["_law_script"]
abbrev n_law : List Str := ["_law_script", "_law_cell", "_law_more", "_law_some", "_law_machines", "_law_many", "_law_heights_here", "_law_told_here", "_law_one", "_law_ring", "_law_machine"]
theorem sc_law : FnScope n_law p_law (defScope s_law) :=
  ⟨rfl, rfl, rfl, by decide +kernel, rfl, by decide +kernel, by decide +kernel⟩
end HW
namespace HW
open PySem PySem.Spec PyProof.Rows L2 HR
section
variable {P : Program} {w : World} {K : PySem.W.Frag} {mg : Str → Option Value} {base : Heap} {f f1 f2 f3 f4 f5 f6 f7 f8 f9 f10 f11 f12 f13 f14 f15 f16 cN cR cM cW cH cG cE : Addr} {fd fd1 fd2 fd3 fd4 fd5 fd6 fd7 fd8 fd9 fd10 fd11 fd12 fd13 fd14 fd15 fd16 : FuncData}
theorem ok_need_numbers (D : Df K mg "need_numbers" s_need_numbers p_need_numbers f fd) (M1 : ∃ t, mg "LEAST" = some (.int 2 t)) (M3 : ∃ t, mg "MOST_NUMBERS" = some (.int 100 t)) (CN : Cl K mg "NoNumbers" cN) :
    FnOk P w K mg base (L2N.CX P w) 1 f fd p_need_numbers (sp_need_numbers cN) := by
  obtain ⟨t1, m1⟩ := M1
  obtain ⟨t3, m3⟩ := M3
  refine Fun.okN D.F sc_need_numbers (fun vs H Q E h => ?_) (fun cdv A outer s H vs Q E hr h => ?_)
  · obtain ⟨m, rfl, _⟩ := h
    rfl
  · obtain ⟨m, rfl, hE, hQ⟩ := h
    refine ⟨_, pss_one (ps_if (PW.pt (pw_or (pt_cmpR op_lt (pv 0) (pe_glob (v := .int 2) rfl m1 ⟨_, rfl⟩) (nomark _)) (pw_or1 (pt_cmpR op_gt (pv 0) (pe_glob (v := .int 100) rfl m3 ⟨_, rfl⟩) (nomark _)))))
      (pss_one (L2N.ps_raise rfl (L2N.takes_of rfl rfl rfl rfl) (L2N.pmk_own PySem.F.excBase_ValueError CN.x CN.g CN.k (raises_own CN.b CN.t) rfl))) pss_nil), ?_⟩
    refine ⟨_, rfl, _, _, rfl, rfl, _, rfl, ite2 (fun e => ?_) (fun e => ?_)⟩
    · have e := of_decide_eq_true e
      exact iteT (hE (.inl e))
    · have e : ¬ m < 2 := fun z => e (decide_eq_true z)
      refine ⟨_, rfl, _, _, rfl, rfl, _, rfl, ite2 (fun e2 => ?_) (fun e2 => ?_)⟩
      · exact hE (.inr (of_decide_eq_true e2))
      · have e2 : ¬ 100 < m := fun z => e2 (decide_eq_true z)
        exact hQ (by omega) (by omega)
theorem ok_need_machines (D : Df K mg "need_machines" s_need_machines p_need_machines f fd) (M1 : ∃ t, mg "LEAST" = some (.int 2 t)) (M2 : ∃ t, mg "MOST" = some (.int 12 t)) (CR : Cl K mg "NoRing" cR) :
    FnOk P w K mg base (L2N.CX P w) 1 f fd p_need_machines (sp_need_machines cR) := by
  obtain ⟨t1, m1⟩ := M1
  obtain ⟨t2, m2⟩ := M2
  refine Fun.okN D.F sc_need_machines (fun vs H Q E h => ?_) (fun cdv A outer s H vs Q E hr h => ?_)
  · obtain ⟨m, rfl, _⟩ := h
    rfl
  · obtain ⟨m, rfl, hE, hQ⟩ := h
    refine ⟨_, pss_one (ps_if (PW.pt (pw_or (pt_cmpR op_lt (pv 0) (pe_glob (v := .int 2) rfl m1 ⟨_, rfl⟩) (nomark _)) (pw_or1 (pt_cmpR op_gt (pv 0) (pe_glob (v := .int 12) rfl m2 ⟨_, rfl⟩) (nomark _)))))
      (pss_one (L2N.ps_raise rfl (L2N.takes_of rfl rfl rfl rfl) (L2N.pmk_own PySem.F.excBase_ValueError CR.x CR.g CR.k (raises_own CR.b CR.t) rfl))) pss_nil), ?_⟩
    refine ⟨_, rfl, _, _, rfl, rfl, _, rfl, ite2 (fun e => ?_) (fun e => ?_)⟩
    · have e := of_decide_eq_true e
      exact iteT (hE (.inl e))
    · have e : ¬ m < 2 := fun z => e (decide_eq_true z)
      refine ⟨_, rfl, _, _, rfl, rfl, _, rfl, ite2 (fun e2 => ?_) (fun e2 => ?_)⟩
      · exact hE (.inr (of_decide_eq_true e2))
      · have e2 : ¬ 12 < m := fun z => e2 (decide_eq_true z)
        exact hQ (by omega) (by omega)
theorem ok_need_ring {f1 f2 : Addr} {fd1 fd2 : FuncData} (D : Df K mg "need_ring" s_need_ring p_need_ring f fd) (B : Bt mg) (CR : Cl K mg "NoRing" cR)
    (D1 : Df K mg "need_numbers" s_need_numbers p_need_numbers f1 fd1) (G1 : FnOk P w K mg base (L2N.CX P w) 1 f1 fd1 p_need_numbers (sp_need_numbers cN))
    (D2 : Df K mg "need_machines" s_need_machines p_need_machines f2 fd2) (G2 : FnOk P w K mg base (L2N.CX P w) 1 f2 fd2 p_need_machines (sp_need_machines cR)) :
    FnOk P w K mg base (L2N.CX P w) 2 f fd p_need_ring (sp_need_ring K cN cR) := by
  refine Fun.okN D.F sc_need_ring (fun vs H Q E h => ?_) (fun cdv A outer s H vs Q E hr h => ?_)
  · obtain ⟨a, r, m, rfl, _⟩ := h
    rfl
  · obtain ⟨a, r, m, rfl, hT, hN, hR, hQ⟩ := h
    refine ⟨_, pss_cons (ps_expr (pe_call G1 hr (by rfl) D1.g D1.F.kp D1.b .nil (L2N.passes_call (L2N.takes_of rfl rfl rfl rfl) (fun _ _ _ _ h => h)) (pa_cons (pv 1) pa_nil)))
      (pss_cons (ps_expr (pe_call G2 hr (by rfl) D2.g D2.F.kp D2.b .nil (L2N.passes_call (L2N.takes_of rfl rfl rfl rfl) (fun _ _ _ _ h => h)) (pa_cons (pe_callB call_len_seq (by rfl) B.len PySem.boot_len (pa_cons (pv 0) pa_nil)) pa_nil)))
      (pss_one (ps_for (passes_of rfl) rfl (pi_tup (pv 0)) (pg_name (i := 2) sc_need_ring.nd rfl (.inl rfl))
        (pss_one (ps_if (PW.pt (pw_or (pt_cmpR op_lt (pv 2) pe_int (nomark _)) (pw_or1 (pt_cmpR op_ge (pv 2) (pv 1) (nomark _)))))
          (pss_one (L2N.ps_raise rfl (L2N.takes_of rfl rfl rfl rfl) (L2N.pmk_own PySem.F.excBase_ValueError CR.x CR.g CR.k (raises_own CR.b CR.t) rfl))) pss_nil))))), ?_⟩
    refine ⟨_, rfl, m, rfl, hN, fun h1 h2 => ?_⟩
    have hQ := hQ h1 h2
    have hR := hR h1 h2
    refine ⟨_, rfl, a, _, rfl, .inr hT, _, rfl, fun h3 => ?_, fun h3 h4 => ?_⟩
    · rw [len_I] at h3
      exact hR fun g => by have := g.1; have := g.2.1; omega
    · rw [len_I] at h3 h4
      refine ⟨_, rfl, a, rfl, ⟨_, hT⟩, for_tup (K := K) (a := a) (xs := I r) (fun i σ H' => H' = H ∧ (∃ y, σ = [some (.ref a), some (.int m), y]) ∧ ∀ j, j < i → ∀ x, r[j]? = some x → 0 ≤ x ∧ x < m)
        ⟨rfl, ⟨none, rfl⟩, fun j hj => by omega⟩ (fun i σ H' _ ⟨e, _⟩ => e ▸ hT) ?_ ?_⟩
      · rintro i x σ H' hi ⟨rfl, ⟨y, rfl⟩, hall⟩
        rw [List.getElem?_map] at hi
        cases ei : r[i]? with
        | none => rw [ei] at hi; cases hi
        | some z =>
          rw [ei] at hi
          cases hi
          have hz : z ∈ r := List.mem_of_getElem? ei
          have bad : ¬ (0 ≤ z ∧ z < m) → E (.ref cR) none H' := fun n => hR fun g => n (g.2.2 z hz)
          refine ⟨_, rfl, z, 0, rfl, rfl, _, rfl, ite2 (fun e => ?_) (fun e => ?_)⟩
          · have e := of_decide_eq_true e
            exact iteT (bad fun q => by omega)
          · have e : ¬ z < 0 := fun q => e (decide_eq_true q)
            refine ⟨_, rfl, _, rfl, z, m, rfl, rfl, _, rfl, ite2 (fun e2 => ?_) (fun e2 => ?_)⟩
            · have e2 := of_decide_eq_true e2
              exact bad fun q => by omega
            · have e2 : ¬ m ≤ z := fun q => e2 (decide_eq_true q)
              refine ⟨rfl, ⟨_, rfl⟩, fun j hj x hx => ?_⟩
              by_cases c : j = i
              · subst c
                rw [ei] at hx
                cases hx
                omega
              · exact hall j (by omega) x hx
      · rintro σ H' ⟨rfl, ⟨y, rfl⟩, hall⟩
        rw [len_I] at hall
        refine hQ ⟨by omega, by omega, fun x hx => ?_⟩
        obtain ⟨j, hj, e⟩ := List.getElem_of_mem hx
        exact hall j hj x (by rw [List.getElem?_eq_getElem hj, e])
theorem ok_may (D : Df K mg "may" s_may p_may f fd) : FnOk P w K mg base (L2N.CX P w) 1 f fd p_may (sp_may K) := by
  refine Fun.okN D.F sc_may (fun vs H Q E h => ?_) (fun cdv A outer s H vs Q E hr h => ?_)
  · obtain ⟨a, r, k, rfl, _⟩ := h
    rfl
  · obtain ⟨a, r, k, rfl, hT, hk, hQ⟩ := h
    refine ⟨_, pss_cons (ps_set (i := 2) sc_may.nd rfl (.inl rfl) (pe_cmpR op_eq (pe_ix ix_tup (pv 0) (pv 1) (fun _ _ => rfl)) (pe_ix ix_tup (pv 0) (pe_op op_sub (pv 1) pe_int) (fun _ _ => rfl)) (nomark _)))
      (pss_cons (ps_if (pt_cmpR op_eq (pv 1) pe_int (nomark _)) (pss_one (ps_ret (pv 2))) pss_nil)
      (pss_one (ps_ret (pe_not (pv 2))))), ?_⟩
    refine ⟨_, rfl, _, rfl, a, _, k, _, rfl, rfl, hT, atI_I rfl hk, ?_⟩
    by_cases c : k = 0
    · subst c
      refine ⟨_, rfl, _, rfl, _, _, rfl, rfl, a, _, _, _, rfl, rfl, hT, atI_I1 hk, rfl, ?_⟩
      refine ⟨_, rfl, rfl, _, rfl, ite2 (fun e => ?_) (fun e => absurd (decide_eq_true rfl) e)⟩
      refine ⟨_, rfl, ?_⟩
      rw [dec_int]
      unfold may at hQ
      rw [if_pos rfl] at hQ
      exact hQ
    · refine ⟨_, rfl, _, rfl, _, _, rfl, rfl, a, _, _, _, rfl, rfl, hT, atI_I (k := k - 1) (by omega) (by omega), rfl, ?_⟩
      refine ⟨_, rfl, rfl, _, rfl, ite2 (fun e => ?_) (fun e => ?_)⟩
      · have e := V.int.inj (of_decide_eq_true e)
        exact absurd (show k = 0 by omega) c
      · refine ⟨_, rfl, _, rfl, ?_⟩
        rw [dec_int]
        unfold may at hQ
        rw [if_neg c, decide_not] at hQ
        exact hQ
theorem ok_able_of {f1 : Addr} {fd1 : FuncData} (D : Df K mg "able_of" s_able_of p_able_of f fd) (B : Bt mg)
    (D1 : Df K mg "may" s_may p_may f1 fd1) (G1 : FnOk P w K mg base (L2N.CX P w) 1 f1 fd1 p_may (sp_may K)) :
    FnOk P w K mg base (L2N.CX P w) 2 f fd p_able_of (sp_able_of K) := by
  refine Fun.okN D.F sc_able_of (fun vs H Q E h => ?_) (fun cdv A outer s H vs Q E hr h => ?_)
  · obtain ⟨a, r, rfl, _⟩ := h
    rfl
  · obtain ⟨a, r, rfl, hT, hl, hQ⟩ := h
    refine ⟨_, pss_one (ps_ret (pe_lc (own := [("machine", 1)]) (g := gName 1) rfl sc_able_of.nd (pi_range1 rfl B.range (pa_cons (pe_callB call_len_seq (by rfl) B.len PySem.boot_len (pa_cons (pv 0) pa_nil)) pa_nil))
      (blkOk_by (N := n_able_of) (sc := defScope s_able_of) (by decide +kernel)) (fun _ _ _ _ _ => pg_name (i := 1) sc_able_of.nd rfl (Or.inl rfl))
      (fun _ _ _ _ _ => pts_one (pt_val (pe_call G1 hr (by rfl) D1.g D1.F.kp D1.b .nil passN (pa_cons (pv 0) (pa_cons (pv 1) pa_nil))))) (fun _ _ _ _ _ => pv 1))), ?_⟩
    refine ⟨_, rfl, a, _, rfl, .inr hT, _, rfl, by omega, by rw [len_I]; omega, fun D hD => ?_⟩
    rw [len_I]
    refine lc_r0 (fun k => may r k) (fun k => V.int (k : Int)) hD (by omega) (fun i H1 hi sm Z M hz hm => ?_) fun H1 sm e => hQ H1 D sm hD e
    rw [Int.toNat_natCast] at hi
    refine ⟨rfl, _, rfl, _, rfl, a, r, i, rfl, sm.tup hT, hi, _, rfl, ite2 (fun e => ?_) (fun e => ?_)⟩
    · exact ⟨_, rfl, hz e _ (Same.refl _)⟩
    · exact hm (by simpa using e) _ (Same.refl _)
theorem ok_moved (D : Df K mg "moved" s_moved p_moved f fd) : FnOk P w K mg base (L2N.CX P w) 1 f fd p_moved (sp_moved K) := by
  refine Fun.okN D.F sc_moved (fun vs H Q E h => ?_) (fun cdv A outer s H vs Q E hr h => ?_)
  · obtain ⟨a, r, m, k, rfl, _⟩ := h
    rfl
  · obtain ⟨a, r, m, k, rfl, hT, hk, hl, hm, hQ⟩ := h
    refine ⟨_, pss_cons (ps_set (i := 3) sc_moved.nd rfl (.inl rfl) (pe_ix ix_tup (pv 0) (pe_op op_sub (pv 2) pe_int) (fun _ _ => rfl)))
      (pss_cons (ps_if (pt_cmpR op_eq (pv 2) pe_int (nomark _)) (pss_one (ps_set (i := 3) sc_moved.nd rfl (.inl rfl) (pe_op op_mod (pe_op op_add (pe_ix ix_tup (pv 0) pe_int (fun _ _ => rfl)) pe_int) (pv 1)))) pss_nil)
      (pss_one (ps_ret (pe_op op_catS (pe_op op_catS (pe_slice sl_tupS (pv 0) po_none (po_some (pv 2))) (pe_tup (pa_cons (pv 3) pa_nil))) (pe_slice sl_tupS (pv 0) (po_some (pe_op op_add (pv 2) pe_int)) po_none))))), ?_⟩
    have fin : ∀ v : Int, v = (if k = 0 then (at0 r 0 + 1) % m else at0 r (k - 1)) → ∀ H' p, Same H H' → SqT K H' p (((I r).take k ++ [V.int v]) ++ (I r).drop (k + 1)) → Q (.ref p) H' := fun v ev H' p sm hs => by
      refine hQ H' p sm ?_
      have e : I (HR.moved m r k) = ((I r).take k ++ [V.int v]) ++ (I r).drop (k + 1) := by
        unfold HR.moved I
        rw [List.set_eq_take_append_cons_drop, if_pos hk, ← ev, List.map_append, List.map_take, List.map_cons, List.map_drop, List.append_assoc]
        rfl
      rw [e]
      exact hs
    have hlen : (I r).length = r.length := len_I r
    have c1 : cutV (I r) none (some (k : Int)) = (I r).take k := by
      unfold cutV
      rw [HT.sIx_none, HT.sIx_nat, hlen, Nat.min_eq_left (by omega), List.drop_zero, Nat.sub_zero]
    have c2 : cutV (I r) (some ((k : Int) + 1)) none = (I r).drop (k + 1) := by
      unfold cutV
      rw [HT.sIx_none, show ((k : Int) + 1) = ((k + 1 : Nat) : Int) by omega, HT.sIx_nat, hlen, Nat.min_eq_left (by omega)]
      exact List.take_of_length_le (by rw [List.length_drop, hlen]; exact Nat.le_refl _)
    have two : ∀ v : Int, v = (if k = 0 then (at0 r 0 + 1) % m else at0 r (k - 1)) → ∀ q1 H1, Same H H1 → SqT K H1 q1 ((I r).take k) → ∀ q, H1 q = none → ∀ q2 H2, Same (upd H1 q (.tup [V.int v])) H2 → SqT K H2 q2 ((I r).take k ++ [V.int v]) →
        ∀ q3 H3, Same H2 H3 → SqT K H3 q3 ((I r).drop (k + 1)) → ∃ a b xs ys, V.ref q2 = .ref a ∧ V.ref q3 = .ref b ∧ SqT K H3 a xs ∧ SqT K H3 b ys ∧ xs.length + ys.length ≤ sizeLine ∧ ∀ p H', Same H3 H' → SqT K H' p (xs ++ ys) → Q (.ref p) H' := fun v ev q1 H1 s1 h1 q hq q2 H2 s2 h2 q3 H3 s3 h3 => by
      refine ⟨q2, q3, _, _, rfl, rfl, s3.tup h2, h3, big ?_, fun p H' s4 h4 => fin v ev H' p (s1.trans ((same_upd hq).trans (s2.trans (s3.trans s4)))) h4⟩
      rw [List.length_append, List.length_take, List.length_drop, hlen]
      show min k r.length + 1 + (r.length - (k + 1)) ≤ 1000
      omega
    by_cases c : k = 0
    · subst c
      refine ⟨_, rfl, _, rfl, _, _, rfl, rfl, a, _, _, _, rfl, rfl, hT, atI_I1 hk, ?_⟩
      refine ⟨_, rfl, rfl, _, rfl, ite2 (fun e => ?_) (fun e => absurd (decide_eq_true rfl) e)⟩
      refine ⟨_, rfl, a, _, _, _, rfl, rfl, hT, atI_I (k := 0) rfl hk, _, _, rfl, rfl, _, rfl, _, _, rfl, rfl, hm, ?_⟩
      refine ⟨_, rfl, _, rfl, _, rfl, a, _, rfl, hT, fun q1 H1 s1 h1 => ⟨_, rfl, big (by show 1 ≤ 1000; omega), fun q hq => ?_⟩⟩
      rw [c1] at h1
      refine ⟨q1, q, _, _, rfl, rfl, (same_upd hq).tup h1, tupOf upd_same, big ?_, fun q2 H2 s2 h2 => ?_⟩
      · show 0 + 1 ≤ 1000
        omega
      refine ⟨_, rfl, _, rfl, _, _, rfl, rfl, _, rfl, a, _, rfl, s2.tup ((same_upd hq).tup (s1.tup hT)), fun q3 H3 s3 h3 => ?_⟩
      rw [c2] at h3
      exact two _ (by rw [if_pos rfl]) q1 H1 s1 h1 q hq q2 H2 s2 h2 q3 H3 s3 h3
    · refine ⟨_, rfl, _, rfl, _, _, rfl, rfl, a, _, _, _, rfl, rfl, hT, atI_I (k := k - 1) (by omega) (by omega), ?_⟩
      refine ⟨_, rfl, rfl, _, rfl, ite2 (fun e => ?_) (fun e => ?_)⟩
      · have e := V.int.inj (of_decide_eq_true e)
        exact absurd (show k = 0 by omega) c
      refine ⟨_, rfl, _, rfl, _, rfl, a, _, rfl, hT, fun q1 H1 s1 h1 => ⟨_, rfl, big (by show 1 ≤ 1000; omega), fun q hq => ?_⟩⟩
      rw [c1] at h1
      refine ⟨q1, q, _, _, rfl, rfl, (same_upd hq).tup h1, tupOf upd_same, big ?_, fun q2 H2 s2 h2 => ?_⟩
      · rw [List.length_take, hlen]
        show min k r.length + 1 ≤ 1000
        omega
      refine ⟨_, rfl, _, rfl, _, _, rfl, rfl, _, rfl, a, _, rfl, s2.tup ((same_upd hq).tup (s1.tup hT)), fun q3 H3 s3 h3 => ?_⟩
      rw [c2] at h3
      exact two _ (by rw [if_neg c]) q1 H1 s1 h1 q hq q2 H2 s2 h2 q3 H3 s3 h3
theorem ok_step_of (D : Df K mg "step_of" s_step_of p_step_of f fd) (B : Bt mg) (CM : Cl K mg "NoMachine" cM) (CW : Cl K mg "NotNow" cW)
    (D1 : Df K mg "may" s_may p_may f1 fd1) (G1 : FnOk P w K mg base (L2N.CX P w) 1 f1 fd1 p_may (sp_may K))
    (D2 : Df K mg "moved" s_moved p_moved f2 fd2) (G2 : FnOk P w K mg base (L2N.CX P w) 1 f2 fd2 p_moved (sp_moved K)) :
    FnOk P w K mg base (L2N.CX P w) 2 f fd p_step_of (sp_step_of K cM cW) := by
  refine Fun.okN D.F sc_step_of (fun vs H Q E h => ?_) (fun cdv A outer s H vs Q E hr h => ?_)
  · obtain ⟨a, r, m, z, rfl, _⟩ := h
    rfl
  · obtain ⟨a, r, m, z, rfl, hT, hl, hm, hE, hQ⟩ := h
    refine ⟨_, pss_cons (ps_if (PW.pt (pw_or (pt_cmpR op_lt (pv 2) pe_int (nomark _)) (pw_or1 (pt_cmpR op_ge (pv 2) (pe_callB call_len_seq (by rfl) B.len PySem.boot_len (pa_cons (pv 0) pa_nil)) (nomark _)))))
        (pss_one (L2N.ps_raise rfl (L2N.takes_of rfl rfl rfl rfl) (L2N.pmk_own PySem.F.excBase_ValueError CM.x CM.g CM.k (raises_own CM.b CM.t) rfl))) pss_nil)
      (pss_cons (ps_if (pt_not (pt_val (pe_call G1 hr (by rfl) D1.g D1.F.kp D1.b .nil passN (pa_cons (pv 0) (pa_cons (pv 2) pa_nil)))))
        (pss_one (L2N.ps_raise rfl (L2N.takes_of rfl rfl rfl rfl) (L2N.pmk_own PySem.F.excBase_ValueError CW.x CW.g CW.k (raises_own CW.b CW.t) rfl))) pss_nil)
      (pss_one (ps_ret (pe_call G2 hr (by rfl) D2.g D2.F.kp D2.b .nil passN (pa_cons (pv 0) (pa_cons (pv 1) (pa_cons (pv 2) pa_nil))))))), ?_⟩
    refine ⟨_, rfl, _, _, rfl, rfl, _, rfl, ite2 (fun e => ?_) (fun e => ?_)⟩
    · have e := of_decide_eq_true e
      refine iteT (hE true ?_)
      unfold stepR
      rw [if_pos (.inl e)]
    · have e : ¬ z < 0 := fun q => e (decide_eq_true q)
      refine ⟨_, rfl, _, rfl, a, _, rfl, .inr hT, _, _, rfl, rfl, _, rfl, ite2 (fun e2 => ?_) (fun e2 => ?_)⟩
      · have e2 := of_decide_eq_true e2
        rw [len_I] at e2
        refine hE true ?_
        unfold stepR
        rw [if_pos (.inr e2)]
      · have e2 : ¬ ((I r).length : Int) ≤ z := fun q => e2 (decide_eq_true q)
        rw [len_I] at e2
        have no : ¬ (z < 0 ∨ (r.length : Int) ≤ z) := by omega
        refine ⟨_, rfl, _, rfl, a, r, z.toNat, by rw [Int.toNat_of_nonneg (by omega)]; rfl, hT, by omega, _, rfl, ite2 (fun e3 => ?_) (fun e3 => ?_)⟩
        · refine hE false ?_
          unfold stepR
          rw [if_neg no, if_neg (by simpa using e3)]
        · have e3 : may r z.toNat = true := by simpa using e3
          refine ⟨_, rfl, _, rfl, _, rfl, a, r, m, z.toNat, by rw [Int.toNat_of_nonneg (by omega)]; rfl, hT, by omega, hl, hm, fun H' p sm hs => hQ _ ?_ H' p sm hs⟩
          unfold stepR
          rw [if_neg no, if_pos e3]
theorem ok_gone (D : Df K mg "gone" s_gone p_gone f fd)
    (D1 : Df K mg "need_ring" s_need_ring p_need_ring f1 fd1) (G1 : FnOk P w K mg base (L2N.CX P w) 2 f1 fd1 p_need_ring (sp_need_ring K cN cR))
    (D2 : Df K mg "step_of" s_step_of p_step_of f2 fd2) (G2 : FnOk P w K mg base (L2N.CX P w) 2 f2 fd2 p_step_of (sp_step_of K cM cW)) :
    FnOk P w K mg base (L2N.CX P w) 3 f fd p_gone (sp_gone K cN cR cM cW) := by
  refine Fun.okN D.F sc_gone (fun vs H Q E h => ?_) (fun cdv A outer s H vs Q E hr h => ?_)
  · obtain ⟨a, b, r, zs, m, rfl, _⟩ := h
    rfl
  · obtain ⟨a, b, r, zs, m, rfl, hT, hO, hz, hH⟩ := h
    refine ⟨_, pss_cons (ps_expr (pe_call G1 hr (by rfl) D1.g D1.F.kp D1.b .nil (L2N.passes_call (L2N.takes_of rfl rfl rfl rfl) (fun _ _ _ _ h => h)) (pa_cons (pv 0) (pa_cons (pv 1) pa_nil))))
      (pss_cons (ps_set (i := 3) sc_gone.nd rfl (.inl rfl) (pe_lst (pa_cons (pv 0) pa_nil)))
      (pss_cons (ps_for (passes_of rfl) rfl (pi_list (pv 2)) (pg_name (i := 4) sc_gone.nd rfl (.inl rfl))
        (pss_cons (ps_set (i := 0) sc_gone.nd rfl (.inl rfl) (pe_call G2 hr (by rfl) D2.g D2.F.kp D2.b .nil (L2N.passes_call (L2N.takes_of rfl rfl rfl rfl) (fun _ _ _ _ h => h)) (pa_cons (pv 0) (pa_cons (pv 1) (pa_cons (pv 4) pa_nil)))))
        (pss_one (ps_expr (pe_bm PySem.F.plainAttrs_list PySem.F.slot_list_append PySem.F.type_list_append mt_append (pv 3) (pa_cons (pv 0) pa_nil))))))
      (pss_one (ps_ret (pv 3))))), ?_⟩
    refine ⟨_, rfl, _, rfl, a, r, m, rfl, hT, hH.imp fun h1 _ g hS => ?_⟩
    obtain ⟨hE, hQ⟩ := hS
    refine ⟨_, rfl, big (by show 1 ≤ 1000; omega), fun p hp => ?_⟩
    have s1 : Same H (upd H p (.lst [V.ref a])) := same_upd hp
    refine ⟨_, rfl, b, rfl, ⟨_, s1.seq hO⟩, for_list (K := K) (a := b) (xs := I zs)
      (fun i σ H' => ∃ (c : Addr) (rs : List (List Int)) (r' : List Int) (xs : List V) (y : Option V), σ = [some (.ref c), some (.int m), some (.ref b), some (.ref p), y] ∧ Same H H' ∧ SqT K H' c (I r') ∧ r'.length = r.length ∧
        H' p = some (.lst xs) ∧ Tups K H' xs rs ∧ xs.length = i + 1 ∧ goneA m [r] r zs = goneA m rs r' (zs.drop i))
      ⟨a, [r], r, _, none, rfl, s1, s1.tup hT, rfl, upd_same, .cons ⟨a, rfl, s1.tup hT⟩ .nil, rfl, rfl⟩
      (fun i σ H' _ ⟨_, _, _, _, _, _, s5, _⟩ => s5.seq hO) ?_ ?_⟩
    · rintro i x σ H' hi ⟨c, rs, r', xs, y, rfl, sm, hc, hrl, hxs, hrs, hlen, hg⟩
      have hil : i < zs.length := by
        have := (List.getElem?_eq_some_iff.mp hi).1
        rw [len_I] at this
        exact this
      have ex : x = .int zs[i] := by
        rw [List.getElem?_map, List.getElem?_eq_getElem hil] at hi
        exact (Option.some.inj hi).symm
      subst ex
      rw [List.drop_eq_getElem_cons hil] at hg
      refine ⟨_, rfl, _, rfl, _, rfl, c, r', m, zs[i], rfl, hc, by have := g.2.1; omega, by omega, fun d hd => ?_, fun r2 hr2 H2 p2 s2 h2 => ?_⟩
      · refine hE d H' ?_ sm
        rw [hg]
        unfold goneA
        rw [hd]
      · have e2 : goneA m [r] r zs = goneA m (rs ++ [r2]) r2 (zs.drop (i + 1)) := by
          rw [hg]
          conv => lhs; unfold goneA
          rw [hr2]
        have hp2 := s2 _ _ hxs
        refine ⟨_, rfl, .inl ⟨rfl, _, lstOf hp2⟩, _, rfl, p, _, _, rfl, rfl, hp2, small1000 (by omega), ?_⟩
        have pne : ∀ b o, H b = some o → b ≠ p := fun b o e => ne_of_none e hp
        have s3 : ∀ b o xs, H2 b = some o → (o = .tup xs ∨ ∃ ob, o = .frz ob (.tup xs)) → (upd H2 p (.lst (xs ++ [V.ref p2]))) b = some o := fun b o xs e k => by
          rw [upd_ne]
          · exact e
          · intro q
            rw [q, hp2] at e
            cases e
            rcases k with k | ⟨_, k⟩ <;> cases k
        have tp2 : SqT K (upd H2 p (.lst (xs ++ [V.ref p2]))) p2 (I r2) := by
          rcases h2 with (h2 | ⟨o, h2⟩) | h2
          · refine .inl (.inl ?_)
            rw [upd_ne (ne_of h2 hp2 (by intro q; cases q))]
            exact h2
          · refine .inl (.inr ⟨o, ?_⟩)
            rw [upd_ne (ne_of h2 hp2 (by intro q; cases q))]
            exact h2
          · exact .inr h2
        refine ⟨p2, rs ++ [r2], r2, _, _, rfl, fun b o e => ?_, tp2, (stepR_len hr2).trans hrl, upd_same, Paired.snoc ((hrs.of s2).upd hp2) ⟨p2, rfl, tp2⟩, ?_, e2⟩
        · rw [upd_ne (pne b o e)]
          exact s2 _ _ (sm _ _ e)
        · rw [List.length_append, hlen]
          rfl
    · rintro σ H' ⟨c, rs, r', xs, y, rfl, sm, hc, hrl, hxs, hrs, hlen, hg⟩
      rw [len_I, List.drop_length] at hg
      exact ⟨_, rfl, hQ rs H' p hg sm hp ⟨xs, hxs, hrs⟩⟩
theorem ok_moved2 (D : Df K mg "moved" s_moved p_moved f fd) : FnOk P w K mg base (L2N.CX P w) 1 f fd p_moved (sp_moved2 K) := by
  refine Fun.okN D.F sc_moved (fun vs H Q E h => ?_) (fun cdv A outer s H vs Q E hr h => ?_)
  · obtain ⟨a, r, m, k, rfl, _⟩ := h
    rfl
  · obtain ⟨a, r, m, k, rfl, hT, hk, hl, hm, hQ⟩ := h
    refine ⟨_, pss_cons (ps_set (i := 3) sc_moved.nd rfl (.inl rfl) (pe_ix ix_tup (pv 0) (pe_op op_sub (pv 2) pe_int) (fun _ _ => rfl)))
      (pss_cons (ps_if (pt_cmpR op_eq (pv 2) pe_int (nomark _)) (pss_one (ps_set (i := 3) sc_moved.nd rfl (.inl rfl) (pe_op op_mod (pe_op op_add (pe_ix ix_tup (pv 0) pe_int (fun _ _ => rfl)) pe_int) (pv 1)))) pss_nil)
      (pss_one (ps_ret (pe_op op_catG (pe_op op_catG (pe_slice sl_tupS (pv 0) po_none (po_some (pv 2))) (pe_tup (pa_cons (pv 3) pa_nil))) (pe_slice sl_tupS (pv 0) (po_some (pe_op op_add (pv 2) pe_int)) po_none))))), ?_⟩
    have fin : ∀ v : Int, v = (if k = 0 then (at0 r 0 + 1) % m else at0 r (k - 1)) → ∀ H' p, Same H H' → H' p = some (.tup (((I r).take k ++ [V.int v]) ++ (I r).drop (k + 1))) → Q (.ref p) H' := fun v ev H' p sm hs => by
      refine hQ H' p sm ?_
      have e : I (HR.moved m r k) = ((I r).take k ++ [V.int v]) ++ (I r).drop (k + 1) := by
        unfold HR.moved I
        rw [List.set_eq_take_append_cons_drop, if_pos hk, ← ev, List.map_append, List.map_take, List.map_cons, List.map_drop, List.append_assoc]
        rfl
      show H' p = some (.tup (I (HR.moved m r k)))
      rw [e]
      exact hs
    have hlen : (I r).length = r.length := len_I r
    have c1 : cutV (I r) none (some (k : Int)) = (I r).take k := by
      unfold cutV
      rw [HT.sIx_none, HT.sIx_nat, hlen, Nat.min_eq_left (by omega), List.drop_zero, Nat.sub_zero]
    have c2 : cutV (I r) (some ((k : Int) + 1)) none = (I r).drop (k + 1) := by
      unfold cutV
      rw [HT.sIx_none, show ((k : Int) + 1) = ((k + 1 : Nat) : Int) by omega, HT.sIx_nat, hlen, Nat.min_eq_left (by omega)]
      exact List.take_of_length_le (by rw [List.length_drop, hlen]; exact Nat.le_refl _)
    have two : ∀ v : Int, v = (if k = 0 then (at0 r 0 + 1) % m else at0 r (k - 1)) → ∀ q1 H1, Same H H1 → SqT K H1 q1 ((I r).take k) → ∀ q, H1 q = none → ∀ q2 H2, Same (upd H1 q (.tup [V.int v])) H2 → H2 q2 = some (.tup ((I r).take k ++ [V.int v])) →
        ∀ q3 H3, Same H2 H3 → SqT K H3 q3 ((I r).drop (k + 1)) → ∃ a b xs ys, V.ref q2 = .ref a ∧ V.ref q3 = .ref b ∧ SqT K H3 a xs ∧ SqT K H3 b ys ∧ (xs = [] → H3 b = some (.tup ys)) ∧ (ys = [] → H3 a = some (.tup xs)) ∧ xs.length + ys.length ≤ sizeLine ∧ ∀ p H', Same H3 H' → H' p = some (.tup (xs ++ ys)) → Q (.ref p) H' := fun v ev q1 H1 s1 h1 q hq q2 H2 s2 h2 q3 H3 s3 h3 => by
      refine ⟨q2, q3, _, _, rfl, rfl, s3.tup (tupOf h2), h3, (fun q => by simp at q), (fun _ => s3 _ _ h2), big ?_, fun p H' s4 h4 => fin v ev H' p (s1.trans ((same_upd hq).trans (s2.trans (s3.trans s4)))) h4⟩
      rw [List.length_append, List.length_take, List.length_drop, hlen]
      show min k r.length + 1 + (r.length - (k + 1)) ≤ 1000
      omega
    by_cases c : k = 0
    · subst c
      refine ⟨_, rfl, _, rfl, _, _, rfl, rfl, a, _, _, _, rfl, rfl, hT, atI_I1 hk, ?_⟩
      refine ⟨_, rfl, rfl, _, rfl, ite2 (fun e => ?_) (fun e => absurd (decide_eq_true rfl) e)⟩
      refine ⟨_, rfl, a, _, _, _, rfl, rfl, hT, atI_I (k := 0) rfl hk, _, _, rfl, rfl, _, rfl, _, _, rfl, rfl, hm, ?_⟩
      refine ⟨_, rfl, _, rfl, _, rfl, a, _, rfl, hT, fun q1 H1 s1 h1 => ⟨_, rfl, big (by show 1 ≤ 1000; omega), fun q hq => ?_⟩⟩
      rw [c1] at h1
      refine ⟨q1, q, _, _, rfl, rfl, (same_upd hq).tup h1, tupOf upd_same, (fun _ => upd_same), (fun q => by cases q), big ?_, fun q2 H2 s2 h2 => ?_⟩
      · show 0 + 1 ≤ 1000
        omega
      refine ⟨_, rfl, _, rfl, _, _, rfl, rfl, _, rfl, a, _, rfl, s2.tup ((same_upd hq).tup (s1.tup hT)), fun q3 H3 s3 h3 => ?_⟩
      rw [c2] at h3
      exact two _ (by rw [if_pos rfl]) q1 H1 s1 h1 q hq q2 H2 s2 h2 q3 H3 s3 h3
    · refine ⟨_, rfl, _, rfl, _, _, rfl, rfl, a, _, _, _, rfl, rfl, hT, atI_I (k := k - 1) (by omega) (by omega), ?_⟩
      refine ⟨_, rfl, rfl, _, rfl, ite2 (fun e => ?_) (fun e => ?_)⟩
      · have e := V.int.inj (of_decide_eq_true e)
        exact absurd (show k = 0 by omega) c
      refine ⟨_, rfl, _, rfl, _, rfl, a, _, rfl, hT, fun q1 H1 s1 h1 => ⟨_, rfl, big (by show 1 ≤ 1000; omega), fun q hq => ?_⟩⟩
      rw [c1] at h1
      refine ⟨q1, q, _, _, rfl, rfl, (same_upd hq).tup h1, tupOf upd_same, (fun _ => upd_same), (fun q => by cases q), big ?_, fun q2 H2 s2 h2 => ?_⟩
      · rw [List.length_take, hlen]
        show min k r.length + 1 ≤ 1000
        omega
      refine ⟨_, rfl, _, rfl, _, _, rfl, rfl, _, rfl, a, _, rfl, s2.tup ((same_upd hq).tup (s1.tup hT)), fun q3 H3 s3 h3 => ?_⟩
      rw [c2] at h3
      exact two _ (by rw [if_neg c]) q1 H1 s1 h1 q hq q2 H2 s2 h2 q3 H3 s3 h3
theorem ok_all_rings (D : Df K mg "all_rings" s_all_rings p_all_rings f fd) (B : Bt mg) : FnOk P w K mg base (L2N.CX P w) 1 f fd p_all_rings sp_all_rings := by
  refine Fun.okN D.F sc_all_rings (fun vs H Q E h => ?_) (fun cdv A outer s H vs Q E hr h => ?_)
  · obtain ⟨n, m, rfl, _⟩ := h
    rfl
  · obtain ⟨n, m, rfl, hn, hm1, hm, hp, hQ⟩ := h
    refine ⟨_, pss_cons (ps_set (i := 2) sc_all_rings.nd rfl (.inl rfl) (pe_lst (pa_cons (pe_tup pa_nil) pa_nil)))
      (pss_cons (ps_for (passes_of rfl) rfl (pi_range1 rfl B.range (pa_cons (pv 0) pa_nil)) (pg_name (i := 3) sc_all_rings.nd rfl (.inl rfl))
        (pss_cons (ps_set (i := 4) sc_all_rings.nd rfl (.inl rfl) (pe_lst pa_nil))
        (pss_cons (ps_for (passes_of rfl) rfl (pi_list (pv 2)) (pg_name (i := 5) sc_all_rings.nd rfl (.inr rfl))
          (pss_one (ps_expr (pe_bm PySem.F.plainAttrs_list PySem.F.slot_list_extend PySem.F.type_list_extend mt_extend (pv 4) (pa_cons (pe_lc (own := [("number", 6)]) (g := gName 6) (tt := tYes) (te := tOp (rCatG K) (tVar 5) (tTup (tCons (tVar 6) tNil))) rfl sc_all_rings.nd (pi_range1 rfl B.range (pa_cons (pv 1) pa_nil)) (blkOk_by (N := n_all_rings) (sc := defScope s_all_rings) (by decide +kernel))
            (fun _ _ _ _ _ => pg_name (i := 6) sc_all_rings.nd rfl (Or.inl rfl)) (fun _ _ _ _ _ => pts_nil) (fun _ _ _ _ _ => by exact pe_op op_catG (pv 5) (pe_tup (pa_cons (pv 6) pa_nil)))) pa_nil)))))
        (pss_one (ps_set (i := 2) sc_all_rings.nd rfl (.inl rfl) (pv 4))))))
      (pss_one (ps_ret (pv 2)))), ?_⟩
    refine ⟨big (by show 0 ≤ 1000; decide), fun t0 ht0 => ⟨big (by show 1 ≤ 1000; decide), fun p hp0 => ?_⟩⟩
    have s0 := (same_upd (o := .tup []) ht0).trans (same_upd (o := .lst [V.ref t0]) hp0)
    refine ⟨_, rfl, _, rfl, by omega, by omega, ?_⟩
    rw [Int.toNat_natCast]
    refine for_r0 (fun i σ H' => ∃ (q : Addr) (y3 y4 y5 : Option V), σ = [some (.int (n : Int)), some (.int (m : Int)), some (.ref q), y3, y4, y5, none] ∧ Same H H' ∧ H q = none ∧ ListG H' q (allR m i))
      ⟨p, none, none, none, rfl, s0, (same_upd (o := .tup []) ht0).free hp0, [.ref t0], upd_same, .cons ⟨t0, rfl, (same_upd hp0) _ _ upd_same⟩ .nil⟩ ?_ ?_
    · rintro i σ H1 hi ⟨q, y3, y4, y5, rfl, sm, hq0, xs, hq, hx⟩
      have le : ∀ j, j ≤ n → m ^ j ≤ 300 := fun j hj => Nat.le_trans (Nat.pow_le_pow_right hm1 hj) hp
      have xl : xs.length = m ^ i := by rw [hx.len, allR_len]
      have l1 := le i (by omega)
      have l2 := le (i + 1) (by omega)
      refine ⟨big (by show 0 ≤ 1000; decide), fun p2 hp2 => ?_⟩
      have s2 := same_upd (o := .lst []) hp2
      have hp20 : H p2 = none := sm.free hp2
      obtain ⟨ext, hext⟩ : ∃ ext : List Int → List (List Int), ext = fun r => (List.range m).map fun (k : Nat) => r ++ [(k : Int)] := ⟨_, rfl⟩
      have elen : ∀ r, (ext r).length = m := fun r => by rw [hext, List.length_map, List.length_range]
      refine ⟨_, rfl, q, rfl, ⟨_, lstOf (s2 _ _ hq)⟩, for_list (K := K) (a := q) (xs := xs)
        (fun j σ H' => ∃ (y5 : Option V) (ys : List V), σ = [some (.int (n : Int)), some (.int (m : Int)), some (.ref q), some (.int (i : Int)), some (.ref p2), y5, none] ∧ Same H1 H' ∧ H' p2 = some (.lst ys) ∧ TupsG H' ys (((allR m i).take j).flatMap ext))
        ⟨y5, [], rfl, s2, upd_same, by rw [List.take_zero]; exact .nil⟩ (fun j σ H' _ ⟨_, _, _, s3, _⟩ => lstOf (s3 _ _ hq)) ?_ ?_⟩
      · rintro j x σ H2 hj ⟨y5, ys, rfl, s3, hy, ty⟩
        have hjl := (List.getElem?_eq_some_iff.mp hj).1
        have hjr : j < (allR m i).length := by rw [allR_len]; omega
        obtain ⟨a, a1, a2⟩ := TupsG.get (hx.of s3) (List.getElem?_eq_getElem hjr)
        rw [hj] at a1
        cases a1
        obtain ⟨r, hr⟩ : ∃ r, r = (allR m i)[j] := ⟨_, rfl⟩
        rw [← hr] at a2
        have yl : ys.length = j * m := by rw [ty.len, flat_len ext m elen, List.length_take, Nat.min_eq_left (by omega)]
        have yb : j * m + m ≤ 300 := by
          have : (j + 1) * m ≤ m ^ (i + 1) := by
            rw [Nat.pow_succ]
            exact Nat.mul_le_mul_right m (by omega)
          rw [Nat.succ_mul] at this
          omega
        refine ⟨_, rfl, .inl ⟨rfl, _, lstOf hy⟩, _, rfl, (m : Int), rfl, by omega, by omega, fun L hL => ?_⟩
        rw [Int.toNat_natCast]
        refine lc_rG (fun k => r ++ [(k : Int)]) hL (by omega) (fun k H3 hk s4 Zc hz => ?_) fun H3 zs s4 h4 t4 => ?_
        · refine ⟨rfl, _, rfl, _, rfl, big (by show 1 ≤ 1000; decide), fun q2 hq2 => ?_⟩
          have t5 := same_upd (o := .tup [V.int (k : Int)]) hq2
          have a3 : TupG (upd H3 q2 (.tup [V.int (k : Int)])) a r := t5 _ _ (s4 _ _ a2)
          have rl : r.length = i := by rw [hr]; exact (mem_allR.mp (List.getElem_mem hjr)).1
          refine ⟨a, q2, _, _, rfl, rfl, tupOf a3, tupOf upd_same, (fun _ => upd_same), (fun z => by cases z), big ?_, fun p5 H5 s5 h5 => ?_⟩
          · rw [len_I]
            show r.length + 1 ≤ 1000
            omega
          · refine hz H5 p5 (t5.trans s5) ?_
            show H5 p5 = some (.tup (I (r ++ [(k : Int)])))
            rw [h5]
            unfold I
            rw [List.map_append]
            rfl
        · have hy3 := s4 _ _ hy
          have ne : L ≠ p2 := fun z => by rw [z, hy] at hL; cases hL
          have zl : zs.length = m := by rw [t4.len, List.length_map, List.length_range]
          refine ⟨p2, L, _, _, rfl, rfl, hy3, h4, big (by omega), some (.ref a), ys ++ zs, rfl, fun b o e => ?_, upd_same, ?_⟩
          · rw [upd_ne (ne_of_none e hp2)]
            exact s4 _ _ (s3 _ _ e)
          · rw [List.take_succ_eq_append_getElem hjr, List.flatMap_append, ← hr]
            refine TupsG.append ((ty.of s4).upd hy3) ?_
            have e : [r].flatMap ext = (List.range m).map fun (k : Nat) => r ++ [(k : Int)] := by
              rw [List.flatMap_cons, List.flatMap_nil, List.append_nil, hext]
            rw [e]
            exact t4.upd hy3
      · rintro σ H2 ⟨y5, ys, rfl, s3, hy, ty⟩
        have e : (allR m i).take xs.length = allR m i := List.take_of_length_le (by rw [allR_len]; omega)
        rw [e, hext] at ty
        exact ⟨_, rfl, p2, some (.int (i : Int)), some (.ref p2), y5, rfl, sm.trans s3, hp20, ys, hy, ty⟩
    · rintro σ H1 ⟨q, y3, y4, y5, rfl, sm, hq0, hx⟩
      exact ⟨_, rfl, hQ H1 q sm hq0 hx⟩
theorem ok_need_small (D : Df K mg "need_small" s_need_small p_need_small f fd) (B : Bt mg) (M1 : ∃ t, mg "MOST_RINGS" = some (.int 300 t)) (CG : Cl K mg "TooGreat" cG) :
    FnOk P w K mg base (L2N.CX P w) 1 f fd p_need_small (sp_need_small cG) := by
  obtain ⟨t1, m1⟩ := M1
  refine Fun.okN D.F sc_need_small (fun vs H Q E h => ?_) (fun cdv A outer s H vs Q E hr h => ?_)
  · obtain ⟨n, m, rfl, _⟩ := h
    rfl
  · obtain ⟨n, m, rfl, hn, hm1, hm, hE, hQ⟩ := h
    refine ⟨_, pss_cons (ps_set (i := 2) sc_need_small.nd rfl (.inl rfl) pe_int)
      (pss_one (ps_for (passes_of rfl) rfl (pi_range1 rfl B.range (pa_cons (pv 0) pa_nil)) (pg_name (i := 3) sc_need_small.nd rfl (.inl rfl))
        (pss_cons (ps_set (i := 2) sc_need_small.nd rfl (.inl rfl) (pe_op op_mul (pv 2) (pv 1)))
        (pss_one (ps_if (pt_cmpR op_gt (pv 2) (pe_glob (v := .int 300) rfl m1 ⟨_, rfl⟩) (nomark _))
          (pss_one (L2N.ps_raise rfl (L2N.takes_of rfl rfl rfl rfl) (L2N.pmk_own PySem.F.excBase_ValueError CG.x CG.g CG.k (raises_own CG.b CG.t) rfl))) pss_nil))))), ?_⟩
    refine ⟨_, rfl, _, rfl, by omega, by omega, ?_⟩
    rw [Int.toNat_natCast]
    refine for_r0 (fun i σ H' => H' = H ∧ m ^ i ≤ 300 ∧ ∃ y, σ = [some (.int (n : Int)), some (.int (m : Int)), some (.int ((m ^ i : Nat) : Int)), y]) ⟨rfl, by show 1 ≤ 300; decide, none, rfl⟩ ?_ ?_
    · rintro i σ H' hi ⟨rfl, hle, y, rfl⟩
      refine ⟨_, rfl, _, rfl, _, _, rfl, rfl, .inr ⟨by omega, by omega⟩, ?_⟩
      have e : ((m ^ i : Nat) : Int) * (m : Int) = ((m ^ (i + 1) : Nat) : Int) := by rw [Nat.pow_succ, Int.natCast_mul]
      refine ⟨_, rfl, _, _, rfl, rfl, _, rfl, ite2 (fun q => ?_) (fun q => ?_)⟩
      · have q := of_decide_eq_true q
        rw [e] at q
        refine hE (Nat.lt_of_lt_of_le (show 300 < m ^ (i + 1) by omega) (Nat.pow_le_pow_right hm1 (by omega)))
      · have q : ¬ (300 : Int) < ((m ^ i : Nat) : Int) * (m : Int) := fun z => q (decide_eq_true z)
        rw [e] at q
        refine ⟨rfl, by omega, some (.int (i : Int)), ?_⟩
        rw [← e]
        rfl
    · rintro σ H' ⟨rfl, hle, y, rfl⟩
      exact hQ hle
theorem ok_later_of (D : Df K mg "later_of" s_later_of p_later_of f fd) (B : Bt mg)
    (D1 : Df K mg "able_of" s_able_of p_able_of f1 fd1) (G1 : FnOk P w K mg base (L2N.CX P w) 2 f1 fd1 p_able_of (sp_able_of K))
    (D2 : Df K mg "moved" s_moved p_moved f2 fd2) (G2 : FnOk P w K mg base (L2N.CX P w) 1 f2 fd2 p_moved (sp_moved2 K)) :
    FnOk P w K mg base (L2N.CX P w) 3 f fd p_later_of sp_later_of := by
  refine Fun.okN D.F sc_later_of (fun vs H Q E h => ?_) (fun cdv A outer s H vs Q E hr h => ?_)
  · obtain ⟨a, d, r, m, L, rfl, _⟩ := h
    rfl
  · obtain ⟨a, d, r, m, L, rfl, hT, hd, h0, hl, hm, hQ⟩ := h
    have hr1 : Room 1 _ := hr.mono (by decide)
    have hu2 := Nat.lt_of_le_of_lt (Nat.add_le_add_left (show 1 ≤ 64 by decide) _) hr.units
    refine ⟨_, pss_one (ps_ret (pe_lc (own := [("machine", 3)]) (g := gName 3) (tt := tB (tDIn (tCall (sp_moved2 K) [] E0 (tCons (tVar 0) (tCons (tVar 1) (tCons (tVar 3) tNil)))) (tVar 2))) (te := tVar 3) rfl sc_later_of.nd (pi_list (pe_call G1 hr (by rfl) D1.g D1.F.kp D1.b .nil passN (pa_cons (pv 0) pa_nil))) (blkOk_by (N := n_later_of) (sc := defScope s_later_of) (by decide +kernel))
        (fun _ _ _ _ _ => pg_name (i := 3) sc_later_of.nd rfl (Or.inl rfl))
        (fun _ _ _ _ _ => by exact pts_one (pt_cmp (pc_din hu2 (pe_call G2 hr1 (by rfl) D2.g D2.F.kp D2.b .nil passN (pa_cons (pv 0) (pa_cons (pv 1) (pa_cons (pv 3) pa_nil)))) (pv 2)))) (fun _ _ _ _ _ => pv 3))), ?_⟩
    refine ⟨_, rfl, a, r, rfl, tupOf hT, hl, fun H1 q s1 hq e1 => ?_⟩
    rw [N_Z] at e1
    have al : (able r).length ≤ r.length := Nat.le_trans (List.length_filter_le _ _) (by rw [List.length_range]; exact Nat.le_refl _)
    refine ⟨q, rfl, ⟨_, lstOf e1⟩, fun D hD => lc_l0 (K := K) (a := q) (zs := Z (able r)) (fun z => decide (HR.moved m r z.toNat ∈ L)) (fun z => V.int z) hD (by rw [List.length_map]; omega) (lstOf e1) (fun z H2 hz s2 Zc M hy hn => ?_) fun H2 s2 e2 => ?_⟩
    · obtain ⟨z1, z2⟩ := mem_Z.mp hz
      obtain ⟨z3, z4⟩ := mem_able.mp z2
      obtain ⟨k, rfl⟩ : ∃ k : Nat, z = (k : Int) := ⟨z.toNat, by omega⟩
      rw [Int.toNat_natCast] at z3 hy hn
      have s12 := s1.trans s2
      refine ⟨rfl, _, rfl, _, rfl, _, rfl, a, r, m, k, rfl, tupOf (s12 _ _ hT), z3, hl, hm, fun H3 p3 s3 h3 => ?_⟩
      refine ⟨_, rfl, d, _, rfl, DGet.rdT (Rd.of (s12.trans s3) hd) (by rw [kR_V]; exact h3), _, rfl, ?_⟩
      rw [entsB_get]
      by_cases c : HR.moved m r k ∈ L
      · rw [if_pos c]
        exact iteT ⟨_, rfl, hy (decide_eq_true c) H3 s3⟩
      · rw [if_neg c]
        exact iteF (hn (decide_eq_false c) H3 s3)
    · refine hQ H2 D (s1.trans s2) (s1.free hD) ?_
      rw [e2]
      unfold laterO N
      have e : ∀ l : List Nat, ((Z l).filter fun z => decide (HR.moved m r z.toNat ∈ L)).map V.int = (l.filter fun k => decide (HR.moved m r k ∈ L)).map fun (k : Nat) => V.int (k : Int) := fun l => by
        unfold Z
        rw [List.filter_map, List.map_map]
        rfl
      rw [e]
theorem ok_lasting_rings (D : Df K mg "lasting_rings" s_lasting_rings p_lasting_rings f fd) (B : Bt mg)
    (D1 : Df K mg "able_of" s_able_of p_able_of f1 fd1) (G1 : FnOk P w K mg base (L2N.CX P w) 2 f1 fd1 p_able_of (sp_able_of K))
    (D2 : Df K mg "all_rings" s_all_rings p_all_rings f2 fd2) (G2 : FnOk P w K mg base (L2N.CX P w) 1 f2 fd2 p_all_rings sp_all_rings)
    (D3 : Df K mg "later_of" s_later_of p_later_of f3 fd3) (G3 : FnOk P w K mg base (L2N.CX P w) 3 f3 fd3 p_later_of sp_later_of) :
    FnOk P w K mg base (L2N.CX P w) 4 f fd p_lasting_rings sp_lasting_rings := by
  refine Fun.okN D.F sc_lasting_rings (fun vs H Q E h => ?_) (fun cdv A outer s H vs Q E hr h => ?_)
  · obtain ⟨n, m, rfl, _⟩ := h
    rfl
  · obtain ⟨n, m, rfl, hn2, hn, hm2, hm, hp, hQ⟩ := h
    have hr1 : Room 1 _ := hr.mono (by decide)
    have hr2 : Room 2 _ := hr.mono (by decide)
    have hu2 := Nat.lt_of_le_of_lt (Nat.add_le_add_left (show 1 ≤ 64 by decide) _) hr.units
    refine ⟨_, pss_cons (ps_set (i := 2) sc_lasting_rings.nd rfl (.inr rfl) pe_dnewT)
      (pss_cons (ps_for (passes_of rfl) rfl (pi_list (pe_call G2 hr1 (by rfl) D2.g D2.F.kp D2.b .nil passN (pa_cons (pv 0) (pa_cons (pv 1) pa_nil)))) (pg_name (i := 3) sc_lasting_rings.nd rfl (.inl rfl))
        (pss_one (ps_if (pt_cmpR op_gt (pe_callB call_len_seq (by rfl) B.len PySem.boot_len (pa_cons (pe_call G1 hr2 (by rfl) D1.g D1.F.kp D1.b .nil passN (pa_cons (pv 3) pa_nil)) pa_nil)) pe_int (nomark _))
          (pss_one (ps_dput hu2 (pv 2) (pv 3) pe_bl rfl)) pss_nil)))
      (pss_cons (ps_set (i := 4) sc_lasting_rings.nd rfl (.inl rfl) pe_bl)
      (pss_cons (ps_while (passes_of rfl) (pt_val (pv 4))
        (pss_cons (ps_lock (ps_setLc (i := 5) (own := [("ring", 3)]) (g := gName 3) (tt := tTest (tOp (rEqI K fun b => b) (tCall sp_later_of [] E0 (tCons (tVar 3) (tCons (tVar 1) (tCons (tVar 2) tNil)))) (tLst tNil))) (te := tVar 3) rfl sc_lasting_rings.nd rfl rfl (sw_true rfl rfl rfl (by decide +kernel)) (pi_keys (pv 2)) (blkOk_by (N := n_lasting_rings) (sc := defScope s_lasting_rings) (by decide +kernel))
            (fun _ _ _ _ _ => pg_name (i := 3) sc_lasting_rings.nd rfl (Or.inl rfl)) (fun _ _ _ _ _ => by exact pts_one (pt_cmpR (op_eqI hr.units) (pe_call G3 hr (by rfl) D3.g D3.F.kp D3.b .nil passN (pa_cons (pv 3) (pa_cons (pv 1) (pa_cons (pv 2) pa_nil)))) (pe_lst pa_nil) (nomark _))) (fun _ _ _ _ _ => by exact pv 3)))
        (pss_cons (ps_for (passes_of rfl) rfl (pi_list (pv 5)) (pg_name (i := 3) sc_lasting_rings.nd rfl (.inl rfl))
          (pss_one (ps_expr (pe_bm PySem.F.plainAttrs_dict PySem.F.slot_dict_pop PySem.F.type_dict_pop (mt_popT1 hu2) (pv 2) (pa_cons (pv 3) pa_nil)))))
        (pss_one (ps_set (i := 4) sc_lasting_rings.nd rfl (.inl rfl) (pe_cmpR (op_neD hr.units) (pv 5) (pe_lst pa_nil) (nomark _)))))))
      (pss_one (ps_ret (pv 2)))))), ?_⟩
    intro d hd
    have s0 := same_upd (o := .dT []) hd
    refine ⟨_, rfl, _, rfl, n, m, rfl, hn, by omega, hm, hp, fun H1 q s1 hq L1 => ?_⟩
    obtain ⟨xs, e1, t1⟩ := L1
    have hd1 : H1 d = some (.dT []) := s1 _ _ upd_same
    have xl : xs.length = (allR m n).length := t1.len
    have al := allR_len m n
    have nd := allR_nodup m n
    have qd : q ≠ d := fun z => by rw [z, hd1] at e1; cases e1
    have inR : ∀ r ∈ allR m n, Ring n (m : Int) r := fun r hr => (allR_ring hn2 hm2).mp hr
    have trk : ∀ {H' : Hp}, SameX d H1 H' → ∀ r ∈ allR m n, ∃ q, TupG H' q r := fun sx r hr => by
      obtain ⟨i, hi, rfl⟩ := List.getElem_of_mem hr
      obtain ⟨a, _, a2⟩ := TupsG.get t1 (List.getElem?_eq_getElem hi)
      exact ⟨a, sx.tupG hd1 a2⟩
    refine ⟨q, rfl, ⟨_, lstOf e1⟩, for_list (K := K) (a := q) (xs := xs)
      (fun i σ H' => ∃ y3 : Option V, σ = [some (.int (n : Int)), some (.int (m : Int)), some (.ref d), y3, none, none] ∧ SameX d H1 H' ∧ H' d = some (.dT (entsB (((allR m n).take i).filter fun r => !decide ((able r).length ≤ 1)))))
      ⟨none, rfl, SameX.refl d H1, hd1⟩ (fun i σ H' _ ⟨_, _, sx, _⟩ => lstOf (sx _ _ qd e1)) ?_ ?_⟩
    · rintro i v σ H2 hi ⟨y3, rfl, sx, hd2⟩
      have hil := (List.getElem?_eq_some_iff.mp hi).1
      have hir : i < (allR m n).length := by omega
      obtain ⟨a, a1, a2⟩ := TupsG.get t1 (List.getElem?_eq_getElem hir)
      rw [hi] at a1
      cases a1
      obtain ⟨r, hr⟩ : ∃ r, r = (allR m n)[i] := ⟨_, rfl⟩
      rw [← hr] at a2
      have rm : r ∈ allR m n := by rw [hr]; exact List.getElem_mem hir
      have R := inR r rm
      have rl := R.len
      have tk : (allR m n).take (i + 1) = (allR m n).take i ++ [r] := by rw [hr]; exact List.take_succ_eq_append_getElem hir
      have a3 := sx.tupG hd1 a2
      refine ⟨_, rfl, a, r, rfl, tupOf a3, by omega, fun H3 q3 s3 hq3 e3 => ?_⟩
      refine ⟨q3, _, rfl, .inl (lstOf e3), _, _, rfl, rfl, _, rfl, ?_⟩
      rw [len_N, tk, List.filter_append]
      have hd3 := s3 _ _ hd2
      have sx3 := sx.trans (SameX.of s3)
      by_cases c : (able r).length ≤ 1
      · rw [decide_eq_false (show ¬ (1 : Int) < ((able r).length : Int) by omega)]
        refine iteF ⟨_, rfl, sx3, ?_⟩
        rw [List.filter_cons_of_neg (by simp [c]), List.filter_nil, List.append_nil]
        exact hd3
      · rw [decide_eq_true (show (1 : Int) < ((able r).length : Int) by omega)]
        have no : r ∉ ((allR m n).take i).filter fun r => !decide ((able r).length ≤ 1) := fun z => by
          have z1 := (List.mem_filter.mp z).1
          have z2 : ((allR m n).take (i + 1)).Nodup := nd.sublist (List.take_sublist _ _)
          rw [tk, List.nodup_append] at z2
          exact z2.2.2 r z1 r List.mem_cons_self rfl
        have lb : (entsB (((allR m n).take i).filter fun r => !decide ((able r).length ≤ 1))).length < sizeLine := small1000 (by
          rw [entsB_len]
          have := List.length_filter_le (fun r => !decide ((able r).length ≤ 1)) ((allR m n).take i)
          rw [List.length_take] at this
          omega)
        refine iteT ⟨_, rfl, _, rfl, d, _, rfl, DPut.t hd3 (k := kR r) (by rw [kR_V]; exact s3 _ _ a3) lb, _, rfl, sx3.trans (SameX.put _), ?_⟩
        rw [upd_same, entsB_put no, List.filter_cons_of_pos (by simp [c]), List.filter_nil]
    · rintro σ H2 ⟨y3, rfl, sx, hd2⟩
      rw [xl, List.take_length] at hd2
      have st : startR n m = (allR m n).filter fun r => !decide ((able r).length ≤ 1) := rfl
      rw [← st] at hd2
      have sl : (startR n m).length ≤ 300 := by
        have := List.length_filter_le (fun r => !decide ((able r).length ≤ 1)) (allR m n)
        rw [st]
        omega
      obtain ⟨W, hW⟩ : ∃ W : Nat → L2.St → Hp → Prop, ∀ μ σ H', W μ σ H' ↔ ∃ (u : Nat) (L : List (List Int)) (y3 y5 : Option V) (g : Bool), σ = [some (.int (n : Int)), some (.int (m : Int)), some (.ref d), y3, some (.bl g), y5] ∧ SameX d H1 H' ∧ H' d = some (.dT (entsB L)) ∧ (∀ r ∈ L, r ∈ allR m n) ∧ L.Nodup ∧
        (g = true → lastR n m = lastF (m : Int) u L ∧ L.length < u ∧ μ = L.length + 1) ∧ (g = false → lastR n m = L ∧ μ = 0) := ⟨_, fun _ _ _ => Iff.rfl⟩
      refine ⟨W, ⟨_, (hW _ _ _).mpr ⟨301, startR n m, _, _, true, rfl, sx, hd2, fun r hr => (List.mem_filter.mp hr).1, nd.sublist List.filter_sublist, fun _ => ⟨rfl, by omega, rfl⟩, fun z => nomatch z⟩⟩, ?_⟩
      intro μ σ H3 hw
      obtain ⟨u, L, y3, y5, g, rfl, sx3, hd3, inc, lnd, hg1, hg0⟩ := (hW _ _ _).mp hw
      refine ⟨_, rfl, _, rfl, ?_⟩
      cases g with
      | false =>
        obtain ⟨hg, _⟩ := hg0 rfl
        refine iteF ⟨_, rfl, hQ H3 d (fun c o e => ?_) hd (by rw [hg]; exact hd3) fun r hr => trk sx3 r (inc r (by rw [← hg]; exact hr))⟩
        have cd : c ≠ d := fun z => by rw [z, hd] at e; cases e
        exact sx3 _ _ cd (s1 _ _ (s0 _ _ e))
      | true =>
        obtain ⟨hg, hlu, hμ⟩ := hg1 rfl
        obtain ⟨u, rfl⟩ : ∃ u', u = u' + 1 := ⟨u - 1, by omega⟩
        refine iteT ⟨fun σ' H' => ∃ m', m' < μ ∧ W m' σ' H', fun _ _ h => h, ?_⟩
        have Ll : L.length ≤ 300 := by
          have := le_of_sub L (allR m n) lnd inc
          omega
        refine ⟨d, .dT (entsB L), hd3, True.intro, fun od => ?_⟩
        obtain ⟨Hk, hHk⟩ : ∃ Hk, Hk = upd H3 d (.frz od (.dT (entsB L))) := ⟨_, rfl⟩
        rw [← hHk]
        have hdk : Hk d = some (.frz od (.dT (entsB L))) := by rw [hHk, upd_same]
        refine ⟨_, rfl, d, od, rfl, .inr ⟨_, hdk, fun D hD => ?_⟩⟩
        have Dd : D ≠ d := fun z => by rw [z, hdk] at hD; cases hD
        have fld : lastF (m : Int) (u + 1) L = if endsO (m : Int) L = [] then L else lastF (m : Int) u (stayO (m : Int) L) := rfl
        rw [fld] at hg
        refine lc_it walk_keysT (fun i Hh => Same Hk Hh ∧ ∃ ys, Hh D = some (.lst ys) ∧ ys.length ≤ i ∧ TupsG Hh ys ((L.take i).filter fun r => decide (laterO (m : Int) L r = []))) ⟨same_upd hD, [], upd_same, Nat.le_refl _, .nil⟩ (fun i Hh _ p => p.1 _ _ hdk) ?_ ?_
        · rintro i v Hh Hh' hi ⟨sm, ys, hy, yl, ty⟩ ⟨rfl, k, vv, b, hkv, rfl, hb⟩
          rw [entsB_len] at hi
          obtain ⟨r, hr⟩ : ∃ r, r = L[i] := ⟨_, rfl⟩
          have ek : k = kR r := by
            unfold entsB at hkv
            rw [List.getElem?_map, List.getElem?_eq_getElem hi] at hkv
            rw [hr]
            exact (congrArg Prod.fst (Option.some.inj hkv)).symm
          have tb : TupG Hh' b r := by
            rw [ek, kR_V] at hb
            exact hb
          have rL : r ∈ L := by rw [hr]; exact List.getElem_mem hi
          have R := inR r (inc r rL)
          have rl := R.len
          have tk : L.take (i + 1) = L.take i ++ [r] := by rw [hr]; exact List.take_succ_eq_append_getElem hi
          refine ⟨rfl, _, rfl, _, rfl, _, rfl, b, d, r, (m : Int), L, rfl, tb, .inr ⟨od, sm _ _ hdk⟩, by omega, by omega, by omega, fun H4 p4 s4 hp4 e4 => ?_⟩
          rw [N_Z] at e4
          refine ⟨big (by show 0 ≤ 1000; decide), fun q4 hq4 => ⟨p4, q4, Z (laterO (m : Int) L r), [], rfl, rfl, .inl ⟨lstOf ((same_upd hq4) _ _ e4), lstOf upd_same⟩, _, rfl, ?_⟩⟩
          have s5 := s4.trans (same_upd (o := .lst []) hq4)
          have hy5 := s5 _ _ hy
          rw [tk, List.filter_append]
          by_cases c : laterO (m : Int) L r = []
          · rw [decide_eq_true (show Z (laterO (m : Int) L r) = [] by rw [c]; rfl)]
            refine iteT ⟨_, rfl, ys, hy5, small1000 (by omega), fun x o e => ?_, _, upd_same, by rw [List.length_append]; show ys.length + 1 ≤ i + 1; omega, ?_⟩
            · rw [upd_ne (ne_of_none e hD)]
              exact s5 _ _ (sm _ _ e)
            · rw [List.filter_cons_of_pos (by simp [c]), List.filter_nil]
              exact TupsG.append ((ty.of s5).upd hy5) (.cons ⟨b, rfl, TupG.upd hy5 (s5 _ _ tb)⟩ .nil)
          · rw [decide_eq_false (show ¬ Z (laterO (m : Int) L r) = [] from fun z => c (List.map_eq_nil_iff.mp z))]
            refine iteF ⟨sm.trans s5, ys, hy5, by omega, ?_⟩
            rw [List.filter_cons_of_neg (by simp [c]), List.filter_nil, List.append_nil]
            exact ty.of s5
        · rintro Hf ⟨sm, ys, hy, yl, ty⟩
          rw [entsB_len, List.take_length] at ty
          have eE : (L.filter fun r => decide (laterO (m : Int) L r = [])) = endsO (m : Int) L := rfl
          rw [eE] at ty
          have hdf := sm _ _ hdk
          refine ⟨hdf, ?_⟩
          obtain ⟨Hu, hHu⟩ : ∃ Hu, Hu = upd Hf d (.dT (entsB L)) := ⟨_, rfl⟩
          rw [← hHu]
          have hdu : Hu d = some (.dT (entsB L)) := by rw [hHu, upd_same]
          have hyu : Hu D = some (.lst ys) := by rw [hHu, upd_ne Dd]; exact hy
          have tyu : TupsG Hu ys (endsO (m : Int) L) := ty.keeps fun b zs e => by
            rw [hHu, upd_ne (fun z => by rw [z, hdf] at e; cases e)]
            exact e
          have sxu : SameX d H3 Hu := fun c o cd e => by
            rw [hHu, upd_ne cd]
            refine sm _ _ ?_
            rw [hHk, upd_ne cd]
            exact e
          have yE : ys.length = (endsO (m : Int) L).length := ty.len
          have eN : (endsO (m : Int) L).Nodup := lnd.sublist List.filter_sublist
          refine ⟨_, rfl, D, rfl, ⟨_, lstOf hyu⟩, for_list (K := K) (a := D) (xs := ys)
            (fun j σ H' => ∃ y3 : Option V, σ = [some (.int (n : Int)), some (.int (m : Int)), some (.ref d), y3, some (.bl true), some (.ref D)] ∧ SameX d Hu H' ∧ H' d = some (.dT (entsB (L.filter fun q => !decide (q ∈ (endsO (m : Int) L).take j)))))
            ⟨y3, rfl, SameX.refl d Hu, by rw [List.take_zero, show (L.filter fun q => !decide (q ∈ ([] : List (List Int)))) = L from List.filter_eq_self.mpr fun q _ => by simp]; exact hdu⟩ (fun j σ H' _ ⟨_, _, sx, _⟩ => lstOf (sx _ _ Dd hyu)) ?_ ?_⟩
          · rintro j v σ H4 hj ⟨y3, rfl, sx4, hd4⟩
            have hjl := (List.getElem?_eq_some_iff.mp hj).1
            have hje : j < (endsO (m : Int) L).length := by omega
            obtain ⟨b, b1, b2⟩ := TupsG.get tyu (List.getElem?_eq_getElem hje)
            rw [hj] at b1
            cases b1
            obtain ⟨r, hr⟩ : ∃ r, r = (endsO (m : Int) L)[j] := ⟨_, rfl⟩
            rw [← hr] at b2
            have tk : (endsO (m : Int) L).take (j + 1) = (endsO (m : Int) L).take j ++ [r] := by rw [hr]; exact List.take_succ_eq_append_getElem hje
            have rE : r ∈ endsO (m : Int) L := by rw [hr]; exact List.getElem_mem hje
            have no : r ∉ (endsO (m : Int) L).take j := fun z => by
              have z2 : ((endsO (m : Int) L).take (j + 1)).Nodup := eN.sublist (List.take_sublist _ _)
              rw [tk, List.nodup_append] at z2
              exact z2.2.2 r z r List.mem_cons_self rfl
            have b4 : TupG H4 b r := sx4.tupG hdu b2
            have mem : r ∈ L.filter fun q => !decide (q ∈ (endsO (m : Int) L).take j) := List.mem_filter.mpr ⟨(List.mem_filter.mp rE).1, by simp [no]⟩
            refine ⟨_, rfl, .inr (.inr (.inl ⟨rfl, .inr ⟨_, hd4⟩⟩)), _, rfl, d, _, kR r, b, .bl true, rfl, rfl, hd4, by rw [kR_V]; exact b4, by rw [entsB_get, if_pos mem], _, rfl, sx4.trans (SameX.put _), ?_⟩
            rw [upd_same, entsB_drop, filter_step, tk]
          · rintro σ H4 ⟨y3, rfl, sx4, hd4⟩
            rw [yE, List.take_length, filter_ends] at hd4
            have hy4 := sx4 _ _ Dd hyu
            have ty4 : TupsG H4 ys (endsO (m : Int) L) := tyu.keeps fun b zs e => sx4 _ _ (fun z => by rw [z, hdu] at e; cases e) e
            refine ⟨_, rfl, big (by show 0 ≤ 1000; decide), fun q5 hq5 => ?_⟩
            have t5 := same_upd (o := .lst []) hq5
            refine ⟨.list (dRs (endsO (m : Int) L)), .list (dRs []), .lst (lstOf (t5 _ _ hy4)) (dp_Rs (ty4.of t5)), .lst (lstOf upd_same) .nil, shaped_dRs _, shaped_dRs _, ?_⟩
            rw [eqv_nil]
            have sx5 := sx3.trans (sxu.trans (sx4.trans (SameX.of t5)))
            have inc' : ∀ r ∈ stayO (m : Int) L, r ∈ allR m n := fun r hr => inc r (List.mem_filter.mp hr).1
            have nd' : (stayO (m : Int) L).Nodup := lnd.sublist List.filter_sublist
            have hd5 := t5 _ _ hd4
            by_cases c : endsO (m : Int) L = []
            · rw [if_pos c] at hg
              refine ⟨0, by omega, (hW _ _ _).mpr ⟨u, stayO (m : Int) L, _, _, !decide (endsO (m : Int) L = []), rfl, sx5, hd5, inc', nd', fun z => ?_, fun _ => ⟨by rw [hg, stay_same c], rfl⟩⟩⟩
              rw [decide_eq_true c] at z
              cases z
            · rw [if_neg c] at hg
              have ls := stay_len c
              refine ⟨(stayO (m : Int) L).length + 1, by omega, (hW _ _ _).mpr ⟨u, stayO (m : Int) L, _, _, !decide (endsO (m : Int) L = []), rfl, sx5, hd5, inc', nd', fun _ => ⟨hg, by omega, rfl⟩, fun z => ?_⟩⟩
              rw [decide_eq_false c] at z
              cases z
theorem ok_never (D : Df K mg "never" s_never p_never f fd) (B : Bt mg)
    (D1 : Df K mg "need_numbers" s_need_numbers p_need_numbers f1 fd1) (G1 : FnOk P w K mg base (L2N.CX P w) 1 f1 fd1 p_need_numbers (sp_need_numbers cN))
    (D2 : Df K mg "need_machines" s_need_machines p_need_machines f2 fd2) (G2 : FnOk P w K mg base (L2N.CX P w) 1 f2 fd2 p_need_machines (sp_need_machines cR))
    (D3 : Df K mg "need_small" s_need_small p_need_small f3 fd3) (G3 : FnOk P w K mg base (L2N.CX P w) 1 f3 fd3 p_need_small (sp_need_small cG))
    (D4 : Df K mg "lasting_rings" s_lasting_rings p_lasting_rings f4 fd4) (G4 : FnOk P w K mg base (L2N.CX P w) 4 f4 fd4 p_lasting_rings sp_lasting_rings)
    (D5 : Df K mg "later_of" s_later_of p_later_of f5 fd5) (G5 : FnOk P w K mg base (L2N.CX P w) 3 f5 fd5 p_later_of sp_later_of)
    (D6 : Df K mg "moved" s_moved p_moved f6 fd6) (G6 : FnOk P w K mg base (L2N.CX P w) 1 f6 fd6 p_moved (sp_moved2 K)) :
    FnOk P w K mg base (L2N.CX P w) 5 f fd p_never (sp_never cN cR cG) := by
  refine Fun.okN D.F sc_never (fun vs H Q E h => ?_) (fun cdv A outer s H vs Q E hr h => ?_)
  · obtain ⟨x, y, rfl, _⟩ := h
    rfl
  · obtain ⟨x, y, rfl, hS⟩ := h
    have hr1 : Room 1 _ := hr.mono (by decide)
    have hr3 : Room 3 _ := hr.mono (by decide)
    have hu2 := Nat.lt_of_le_of_lt (Nat.add_le_add_left (show 1 ≤ 64 by decide) _) hr.units
    refine ⟨_, pss_cons (ps_expr (pe_call G1 hr1 (by rfl) D1.g D1.F.kp D1.b .nil (L2N.passes_call (L2N.takes_of rfl rfl rfl rfl) (fun _ _ _ _ h => h)) (pa_cons (pv 1) pa_nil)))
      (pss_cons (ps_expr (pe_call G2 hr1 (by rfl) D2.g D2.F.kp D2.b .nil (L2N.passes_call (L2N.takes_of rfl rfl rfl rfl) (fun _ _ _ _ h => h)) (pa_cons (pv 0) pa_nil)))
      (pss_cons (ps_expr (pe_call G3 hr1 (by rfl) D3.g D3.F.kp D3.b .nil (L2N.passes_call (L2N.takes_of rfl rfl rfl rfl) (fun _ _ _ _ h => h)) (pa_cons (pv 0) (pa_cons (pv 1) pa_nil))))
      (pss_cons (ps_set (i := 2) sc_never.nd rfl (.inl rfl) (pe_call G4 hr (by rfl) D4.g D4.F.kp D4.b .nil passN (pa_cons (pv 0) (pa_cons (pv 1) pa_nil))))
      (pss_cons (ps_if (pt_cmpR op_eq (pe_callB call_len_dT (by rfl) B.len PySem.boot_len (pa_cons (pv 2) pa_nil)) pe_int (nomark _)) (pss_one (ps_ret pe_non)) pss_nil)
      (pss_cons (ps_set (i := 3) sc_never.nd rfl (.inl rfl) (pe_lst (pa_cons (pe_callB (cr_minDT rfl hr.units) (by rfl) B.min (by decide +kernel) (pa_cons (pv 2) pa_nil)) pa_nil)))
      (pss_cons (ps_set (i := 4) sc_never.nd rfl (.inl rfl) (pe_lst pa_nil))
      (pss_cons (ps_while (passes_of rfl) (pt_cmpR op_lt (pe_callB call_len_seq (by rfl) B.len PySem.boot_len (pa_cons (pv 4) pa_nil)) (pe_callB call_len_seq (by rfl) B.len PySem.boot_len (pa_cons (pv 3) pa_nil)) (nomark _))
        (pss_cons (ps_set (i := 5) sc_never.nd rfl (.inl rfl) (pe_ix ix_list (pe_call G5 hr3 (by rfl) D5.g D5.F.kp D5.b .nil passN (pa_cons (pe_ix ix_list (pv 3) (pe_un un_neg pe_int) (fun _ _ => rfl)) (pa_cons (pv 1) (pa_cons (pv 2) pa_nil)))) pe_int (fun _ _ => rfl)))
        (pss_cons (ps_expr (pe_bm PySem.F.plainAttrs_list PySem.F.slot_list_append PySem.F.type_list_append mt_append (pv 4) (pa_cons (pv 5) pa_nil)))
        (pss_cons (ps_set (i := 6) sc_never.nd rfl (.inl rfl) (pe_call G6 hr1 (by rfl) D6.g D6.F.kp D6.b .nil passN (pa_cons (pe_ix ix_list (pv 3) (pe_un un_neg pe_int) (fun _ _ => rfl)) (pa_cons (pv 1) (pa_cons (pv 5) pa_nil)))))
        (pss_one (ps_if (pt_cmpR (op_notInD (room65 hr)) (pv 6) (pv 3) rfl)
          (pss_one (ps_expr (pe_bm PySem.F.plainAttrs_list PySem.F.slot_list_append PySem.F.type_list_append mt_append (pv 3) (pa_cons (pv 6) pa_nil))))
          (pss_cons (ps_set (i := 7) sc_never.nd rfl (.inl rfl) (pe_bm PySem.F.plainAttrs_list PySem.F.slot_list_index PySem.F.type_list_index (mt_indexD (room65 hr)) (pv 3) (pa_cons (pv 6) pa_nil)))
          (pss_one (ps_ret (pe_tup (pa_cons (pv 6) (pa_cons (pe_slice sl_list (pv 4) (po_some (pv 7)) po_none) pa_nil))))))))))))
      (pss_one (ps_ret pe_non))))))))), ?_⟩
    obtain ⟨h1, h2, _, h4⟩ := hS
    refine ⟨_, rfl, y, rfl, h1, fun y1 y2 => ?_⟩
    refine ⟨_, rfl, x, rfl, h2 y1 y2, fun x1 x2 => ?_⟩
    obtain ⟨n, rfl⟩ : ∃ n : Nat, x = n := ⟨x.toNat, by omega⟩
    obtain ⟨m, rfl⟩ : ∃ m : Nat, y = m := ⟨y.toNat, by omega⟩
    obtain ⟨hE, hZ⟩ := h4 n m rfl rfl (by omega) (by omega) (by omega) (by omega) (fun z => z)
    refine ⟨_, rfl, _, rfl, n, m, rfl, by omega, by omega, by omega, hE, fun le => ?_⟩
    obtain ⟨hZ0, hZ1⟩ := hZ le
    refine ⟨_, rfl, _, rfl, n, m, rfl, by omega, by omega, by omega, by omega, le, fun Hb d sb hd0 hdb trk => ?_⟩
    obtain ⟨l1, l2, l3, l4⟩ := lastR_is le
    refine ⟨_, rfl, d, _, rfl, hdb, rfl, _, rfl, ?_⟩
    rw [entsB_len]
    by_cases c0 : lastR n m = []
    · rw [c0, decide_eq_true (show V.int ((([] : List (List Int)).length : Nat) : Int) = V.int 0 from rfl)]
      exact iteT (hZ0 c0 Hb sb)
    rw [decide_eq_false (show ¬ V.int ((lastR n m).length : Int) = V.int 0 from fun z => c0 (List.length_eq_zero_iff.mp (by have := V.int.inj z; omega)))]
    refine iteF ?_
    obtain ⟨x0, xs0, hx0⟩ : ∃ x0 xs0, lastR n m = x0 :: xs0 := by
      cases q : lastR n m with
      | nil => exact absurd q c0
      | cons a l => exact ⟨a, l, rfl⟩
    have nv : neverR n m = nevF (m : Int) (lastR n m) 302 [] (minR x0 xs0) [] := by
      unfold neverR
      rw [hx0]
    obtain ⟨L, hL⟩ : ∃ L, L = lastR n m := ⟨_, rfl⟩
    rw [← hL] at l1 l2 l3 l4 hdb hx0 nv
    refine ⟨_, rfl, d, entsB L, x0, xs0, rfl, hdb, ?_, fun q0 hq0 => ⟨big (by show 1 ≤ 1000; decide), fun pw hpw => ?_⟩⟩
    · rw [← hx0]
      unfold entsB
      rw [List.map_map]
      rfl
    have t1 := same_upd (o := .lst [V.ref q0]) hpw
    refine ⟨big (by show 0 ≤ 1000; decide), fun po hpo => ?_⟩
    have t2 := same_upd (o := .lst []) hpo
    have pwo : pw ≠ po := fun z => by rw [← z, upd_same] at hpo; cases hpo
    have hpob : Hb po = none := t1.free hpo
    obtain ⟨W, hW⟩ : ∃ W : Nat → L2.St → Hp → Prop, ∀ μ σ H', W μ σ H' ↔ ∃ (u : Nat) (ini : List (List Int)) (v : List Int) (o : List Nat) (ys : List V) (y5 y6 : Option V), σ = [some (.int (n : Int)), some (.int (m : Int)), some (.ref d), some (.ref pw), some (.ref po), y5, y6, none] ∧ Same Hb H' ∧ H' pw = some (.lst ys) ∧ TupsG H' ys (ini ++ [v]) ∧ H' po = some (.lst (N o)) ∧ o.length = ini.length ∧
      (∀ r ∈ ini ++ [v], r ∈ L) ∧ (ini ++ [v]).Nodup ∧ neverR n m = nevF (m : Int) L u ini v o ∧ ini.length + u = 302 ∧ μ = L.length - ini.length := ⟨_, fun _ _ _ => Iff.rfl⟩
    refine ⟨W, ⟨_, (hW _ _ _).mpr ⟨302, [], minR x0 xs0, [], [.ref q0], none, none, rfl, t1.trans t2, t2 _ _ upd_same, .cons ⟨q0, rfl, t2 _ _ (t1 _ _ hq0)⟩ .nil, upd_same, rfl, fun r hr => ?_, by simp, nv, rfl, rfl⟩⟩, ?_⟩
    · rw [List.mem_singleton.mp hr, hx0]
      exact minR_mem x0 xs0
    intro μ σ H4 hw
    obtain ⟨u, ini, v, o, ys, y5, y6, rfl, sm, hw4, ty, ho4, ol, inc, nd, hnv, hu, hμ⟩ := (hW _ _ _).mp hw
    have il := le_of_sub _ _ nd inc
    rw [List.length_append] at il
    have il : ini.length + 1 ≤ L.length := il
    obtain ⟨u, rfl⟩ : ∃ u', u = u' + 1 := ⟨u - 1, by omega⟩
    have yl : ys.length = ini.length + 1 := by rw [ty.len, List.length_append]; rfl
    have vL : v ∈ L := inc v (List.mem_append_right _ List.mem_cons_self)
    obtain ⟨vR, v1⟩ := l1 v vL
    have R := (allR_ring (show 2 ≤ n by omega) (show 2 ≤ m by omega)).mp vR
    have rl := R.len
    refine ⟨_, rfl, po, _, rfl, .inl (lstOf ho4), _, rfl, pw, _, rfl, .inl (lstOf hw4), _, _, rfl, rfl, _, rfl, ?_⟩
    rw [len_N, yl, decide_eq_true (show (o.length : Int) < ((ini.length + 1 : Nat) : Int) by omega)]
    refine iteT ⟨fun σ' H' => ∃ m', m' < μ ∧ W m' σ' H', fun _ _ h => h, ?_⟩
    obtain ⟨av, av1, av2⟩ := TupsG.get ty (i := ini.length) (r := v) (by rw [List.getElem?_append_right (Nat.le_refl _), Nat.sub_self]; rfl)
    have lastAt : ys[ys.length - 1]? = some (.ref av) := by rw [yl, Nat.add_sub_cancel]; exact av1
    have hd4 := sm _ _ hdb
    refine ⟨_, rfl, _, rfl, pw, ys, _, _, rfl, rfl, lstOf hw4, atI_neg lastAt, _, rfl, _, rfl, av, d, v, (m : Int), L, rfl, av2, .inl hd4, by omega, by omega, by omega, fun H5 p5 s5 hp5 e5 => ?_⟩
    obtain ⟨k, hk⟩ : ∃ k, k = (laterO (m : Int) L v).headD 0 := ⟨_, rfl⟩
    have lne := l3 v vL
    have lpos : 0 < (laterO (m : Int) L v).length := List.length_pos_iff.mpr lne
    have kg : (laterO (m : Int) L v).getD 0 0 = k := by
      rw [hk]
      cases laterO (m : Int) L v <;> rfl
    have km : k ∈ laterO (m : Int) L v := by
      rw [hk]
      cases q : laterO (m : Int) L v with
      | nil => exact absurd q lne
      | cons a l => exact List.mem_cons_self
    obtain ⟨km1, km2⟩ := List.mem_filter.mp km
    have km2 : HR.moved (m : Int) v k ∈ L := of_decide_eq_true km2
    obtain ⟨km3, km4⟩ := mem_able.mp km1
    refine ⟨p5, _, 0, _, rfl, rfl, lstOf e5, atI_N (k := 0) rfl lpos, ?_⟩
    rw [kg]
    have ho5 := s5 _ _ ho4
    refine ⟨_, rfl, .inl ⟨rfl, _, lstOf ho5⟩, _, rfl, po, _, _, rfl, rfl, ho5, small1000 (by rw [len_N]; omega), ?_⟩
    have eo : N o ++ [V.int (k : Int)] = N (o ++ [k]) := by
      unfold N
      rw [List.map_append]
      rfl
    rw [eo]
    obtain ⟨H6, hH6⟩ : ∃ H6, H6 = upd H5 po (.lst (N (o ++ [k]))) := ⟨_, rfl⟩
    rw [← hH6]
    have hw6 : H6 pw = some (.lst ys) := by rw [hH6, upd_ne pwo]; exact s5 _ _ hw4
    have ho6 : H6 po = some (.lst (N (o ++ [k]))) := by rw [hH6, upd_same]
    have ty6 : TupsG H6 ys (ini ++ [v]) := by rw [hH6]; exact (ty.of s5).upd ho5
    have av6 : TupG H6 av v := by rw [hH6]; exact TupG.upd ho5 (s5 _ _ av2)
    have s6 : Same Hb H6 := fun c oo e => by
      rw [hH6, upd_ne (ne_of_none e hpob)]
      exact s5 _ _ (sm _ _ e)
    refine ⟨_, rfl, _, rfl, pw, ys, _, _, rfl, rfl, lstOf hw6, atI_neg lastAt, _, rfl, _, rfl, av, v, (m : Int), k, rfl, tupOf av6, km3, by omega, by omega, fun H7 p7 s7 h7 => ?_⟩
    have hw7 := s7 _ _ hw6
    have ty7 := ty6.of s7
    have nx := nevF_succ (m : Int) L u ini v o
    rw [← hk] at nx
    rw [nx] at hnv
    refine ⟨_, rfl, _, rfl, .tuple (dI (HR.moved (m : Int) v k)), dRs (ini ++ [v]), dp_T (tupOf h7), .lst (lstOf hw7) (dp_Rs ty7), shaped_T _, shaped_dRs _, _, rfl, ?_⟩
    rw [any_dRs]
    by_cases c : HR.moved (m : Int) v k ∈ ini ++ [v]
    · rw [if_pos c] at hnv
      rw [decide_eq_true c]
      obtain ⟨j, hj⟩ : ∃ j, j = (ini ++ [v]).idxOf (HR.moved (m : Int) v k) := ⟨_, rfl⟩
      have jl : j < (ini ++ [v]).length := by rw [hj]; exact List.idxOf_lt_length_iff.mpr c
      have jv : (ini ++ [v])[j] = HR.moved (m : Int) v k := by
        subst hj
        exact List.getElem_idxOf jl
      have jl2 : j < ini.length + 1 := by
        rw [List.length_append] at jl
        exact jl
      have dat : ∀ i (hi : i < (ini ++ [v]).length), (dRs (ini ++ [v]))[i]? = some (.tuple (dI (ini ++ [v])[i])) := fun i hi => by
        unfold dRs
        rw [List.getElem?_map, List.getElem?_eq_getElem hi]
        rfl
      refine iteF ⟨_, rfl, .inl ⟨rfl, _, lstOf hw7⟩, _, rfl, pw, _, .tuple (dI (HR.moved (m : Int) v k)), dRs (ini ++ [v]), j, _, rfl, rfl, .lst (lstOf hw7) (dp_Rs ty7), dp_T (tupOf h7), shaped_dRs _, shaped_T _, dat j jl, ?_, fun i z hi hz => ?_, ?_⟩
      · show PyData.eqvAll (dI (ini ++ [v])[j]) (dI (HR.moved (m : Int) v k)) = true
        rw [eqv_dI, jv]
        simp
      · have hi2 : i < (ini ++ [v]).length := by omega
        rw [dat i hi2] at hz
        cases hz
        show PyData.eqvAll (dI (ini ++ [v])[i]) (dI (HR.moved (m : Int) v k)) = false
        rw [eqv_dI]
        refine decide_eq_false fun z => ?_
        have := List.not_of_lt_findIdx (p := (· == HR.moved (m : Int) v k)) (xs := ini ++ [v]) (i := i) (by rw [hj] at hi; exact hi)
        rw [z] at this
        simp at this
      have ho7 := s7 _ _ ho6
      refine ⟨_, rfl, _, rfl, _, rfl, _, rfl, po, _, rfl, lstOf ho7, fun q8 hq8 => ?_⟩
      have cd : cutV (N (o ++ [k])) (some ((j : Nat) : Int)) none = N ((o ++ [k]).drop j) := by
        rw [cut_drop _ _ (by rw [len_N, List.length_append]; show j ≤ o.length + 1; omega)]
        unfold N
        rw [List.map_drop]
      rw [cd]
      have t8 := same_upd (o := .lst (N ((o ++ [k]).drop j))) hq8
      refine ⟨big (by show 2 ≤ 1000; decide), fun t ht => ?_⟩
      have t9 := same_upd (o := .tup [V.ref p7, V.ref q8]) ht
      have S7 := sb.trans (s6.trans s7)
      refine hZ1 (by rw [← hL]; exact fun z => by rw [z] at hx0; cases hx0) _ t p7 q8 (S7.trans (t8.trans t9)) (S7.free hq8) upd_same ?_ ?_
      · rw [hnv]
        exact t9 _ _ (t8 _ _ h7)
      · rw [hnv, t9 _ _ upd_same, ← hj]
    · rw [if_neg c] at hnv
      rw [decide_eq_false c]
      refine iteT ⟨_, rfl, .inl ⟨rfl, _, lstOf hw7⟩, _, rfl, pw, _, _, rfl, rfl, hw7, small1000 (by omega), ?_⟩
      have hpwb : Hb pw = none := hpw
      refine ⟨L.length - (ini.length + 1), by omega, (hW _ _ _).mpr ⟨u, ini ++ [v], HR.moved (m : Int) v k, o ++ [k], ys ++ [.ref p7], _, _, rfl, fun cc oo e => ?_, upd_same, ?_, ?_, ?_, fun r hr => ?_, ?_, hnv, ?_, ?_⟩⟩
      · rw [upd_ne (ne_of_none e hpwb)]
        exact s7 _ _ (s6 _ _ e)
      · exact TupsG.append (ty7.upd hw7) (.cons ⟨p7, rfl, TupG.upd hw7 h7⟩ .nil)
      · rw [upd_ne (Ne.symm pwo)]
        exact s7 _ _ ho6
      · rw [List.length_append, List.length_append, ol]
        rfl
      · rcases List.mem_append.mp hr with h | h
        · exact inc r h
        · rw [List.mem_singleton.mp h]
          exact km2
      · rw [List.nodup_append]
        refine ⟨nd, by simp, fun a ha b hb e => ?_⟩
        rw [List.mem_singleton.mp hb] at e
        exact c (e ▸ ha)
      · rw [List.length_append]
        show ini.length + 1 + u = 302
        omega
      · rw [List.length_append]
        rfl
theorem ok_law_cell_at (D : Df K mg "_law_cell_at" s_law_cell_at p_law_cell_at f fd) (B : Bt mg) : FnOk P w K mg base (L2N.CX P w) 1 f fd p_law_cell_at (sp_law_cell_at K) := by
  refine Fun.okN D.F sc_law_cell_at (fun vs H Q E h => ?_) (fun cdv A outer s H vs Q E hr h => ?_)
  · obtain ⟨a, ns, k, rfl, _⟩ := h
    rfl
  · obtain ⟨a, ns, k, rfl, hS, hQ⟩ := h
    refine ⟨_, pss_cons (ps_if (pt_cmpR op_lt (pv 1) (pe_callB call_len_seq (by rfl) B.len PySem.boot_len (pa_cons (pv 0) pa_nil)) (nomark _))
        (pss_one (ps_ret (pe_ix ix_list (pv 0) (pv 1) (fun _ _ => rfl)))) pss_nil)
      (pss_one (ps_ret pe_int)), ?_⟩
    refine ⟨_, rfl, _, rfl, a, _, rfl, .inl hS, _, _, rfl, rfl, _, rfl, ?_⟩
    rw [len_I]
    refine ite2 (fun e => ?_) (fun e => ?_)
    · have e := of_decide_eq_true e
      exact ⟨_, rfl, _, rfl, a, _, _, _, rfl, rfl, hS, atI_I rfl (by omega), hQ⟩
    · have e : ¬ (k : Int) < (ns.length : Int) := fun q => e (decide_eq_true q)
      have z : at0 ns k = 0 := by
        unfold at0
        rw [List.getD_eq_getElem?_getD, List.getElem?_eq_none (by omega)]
        rfl
      rw [z] at hQ
      exact hQ
theorem ok_law_able (D : Df K mg "_law_able" s_law_able p_law_able f fd) (B : Bt mg) : FnOk P w K mg base (L2N.CX P w) 1 f fd p_law_able (sp_law_able K) := by
  refine Fun.okN D.F sc_law_able (fun vs H Q E h => ?_) (fun cdv A outer s H vs Q E hr h => ?_)
  · obtain ⟨a, r, rfl, _⟩ := h
    rfl
  · obtain ⟨a, r, rfl, hS, hl, hQ⟩ := h
    refine ⟨_, pss_cons (ps_set (i := 1) sc_law_able.nd rfl (.inl rfl) (pe_lst pa_nil))
      (pss_cons (ps_for (passes_of rfl) rfl (pi_range1 rfl B.range (pa_cons (pe_callB call_len_seq (by rfl) B.len PySem.boot_len (pa_cons (pv 0) pa_nil)) pa_nil)) (pg_name (i := 2) sc_law_able.nd rfl (.inl rfl))
        (pss_one (ps_if (PW.pt (pw_or (PW.pt (pw_and (pt_cmpR op_eq (pv 2) pe_int (nomark _)) (pw_and1 (pt_cmpR op_eq (pe_ix ix_sq (pv 0) pe_int (fun _ _ => rfl)) (pe_ix ix_sq (pv 0) (pe_un un_neg pe_int) (fun _ _ => rfl)) (nomark _)))))
            (pw_or1 (PW.pt (pw_and (pt_cmpR op_gt (pv 2) pe_int (nomark _)) (pw_and1 (pt_cmpR op_ne (pe_ix ix_sq (pv 0) (pv 2) (fun _ _ => rfl)) (pe_ix ix_sq (pv 0) (pe_op op_sub (pv 2) pe_int) (fun _ _ => rfl)) (nomark _))))))))
          (pss_one (ps_expr (pe_bm PySem.F.plainAttrs_list PySem.F.slot_list_append PySem.F.type_list_append mt_append (pv 1) (pa_cons (pv 2) pa_nil)))) pss_nil)))
      (pss_one (ps_ret (pv 1)))), ?_⟩
    refine ⟨big (by show 0 ≤ 1000; decide), fun p hp => ?_⟩
    have s1 : Same H (upd H p (.lst [])) := same_upd hp
    have hS1 : Sq K (upd H p (.lst [])) a (I r) := hS.same s1
    refine ⟨_, rfl, a, _, rfl, hS1, _, rfl, by omega, by rw [len_I]; omega, ?_⟩
    rw [len_I, Int.toNat_natCast]
    refine for_r0 (fun i σ H' => ∃ y : Option V, σ = [some (.ref a), some (.ref p), y] ∧ Same H H' ∧ H' p = some (.lst (N ((List.range i).filter (may r))))) ⟨none, rfl, s1, upd_same⟩ ?_ ?_
    · rintro i σ H' hi ⟨y, rfl, sm, hp1⟩
      have hS2 := hS.same sm
      have yes : may r i = true → ∃ x, [some (V.ref a), some (V.ref p), some (V.int (i : Int))][1]? = some (some x) ∧ tyV K "list" x H' ∧ ∃ x1, [some (V.ref a), some (V.ref p), some (V.int (i : Int))][2]? = some (some x1) ∧ ∃ l xs, ∃ y, x = V.ref l ∧ [x1] = [y] ∧ H' l = some (HO.lst xs) ∧ xs.length < sizeLine ∧
          ∃ z : Option V, [some (V.ref a), some (V.ref p), some (V.int (i : Int))] = [some (.ref a), some (.ref p), z] ∧ Same H (upd H' l (.lst (xs ++ [y]))) ∧ (upd H' l (.lst (xs ++ [y]))) p = some (.lst (N ((List.range (i + 1)).filter (may r)))) := fun hm => by
        refine ⟨_, rfl, .inl ⟨rfl, _, lstOf hp1⟩, _, rfl, p, _, _, rfl, rfl, hp1, small1000 ?_, _, rfl, fun b o e => ?_, ?_⟩
        · rw [len_N]
          exact Nat.le_trans (List.length_filter_le _ _) (by rw [List.length_range]; omega)
        · rw [upd_ne (ne_of_none e hp)]
          exact sm _ _ e
        · rw [upd_same, List.range_succ, List.filter_append]
          unfold N
          rw [List.map_append]
          simp [hm]
      have no : may r i = false → ∃ z : Option V, [some (V.ref a), some (V.ref p), some (V.int (i : Int))] = [some (.ref a), some (.ref p), z] ∧ Same H H' ∧ H' p = some (.lst (N ((List.range (i + 1)).filter (may r)))) := fun hm => by
        refine ⟨_, rfl, sm, ?_⟩
        rw [List.range_succ, List.filter_append, hp1]
        simp [hm]
      by_cases c : i = 0
      · subst c
        refine ⟨_, rfl, rfl, _, rfl, iteT ?_⟩
        refine ⟨_, rfl, a, _, 0, _, rfl, rfl, hS2, atI_I (k := 0) rfl hi, _, rfl, 1, rfl, a, _, _, _, rfl, rfl, hS2, atI_I1 hi, rfl, _, rfl, ?_⟩
        rw [dec_int]
        have em : may r 0 = decide (at0 r 0 = at0 r (r.length - 1)) := by unfold may; rw [if_pos rfl]
        rw [← em]
        refine ite2 (fun e => ?_) (fun e => ?_)
        · exact iteT (yes e)
        · refine ⟨_, rfl, _, _, rfl, rfl, _, rfl, iteF (iteF (no (by simpa using e)))⟩
      · refine ⟨_, rfl, rfl, _, rfl, ite2 (fun e => absurd (V.int.inj (of_decide_eq_true e)) (by omega)) (fun _ => ?_)⟩
        refine iteF ⟨_, rfl, _, _, rfl, rfl, _, rfl, ite2 (fun _ => ?_) (fun e => absurd (decide_eq_true (show (0 : Int) < (i : Int) by omega)) e)⟩
        refine ⟨_, rfl, _, rfl, a, _, _, _, rfl, rfl, hS2, atI_I (k := i) rfl hi, _, rfl, _, rfl, _, _, rfl, rfl, a, _, _, _, rfl, rfl, hS2, atI_I (k := i - 1) (by omega) (by omega), rfl, _, rfl, ?_⟩
        rw [dec_int]
        have em : may r i = !decide (at0 r i = at0 r (i - 1)) := by unfold may; rw [if_neg c, decide_not]
        rw [← em]
        refine ite2 (fun e => yes e) (fun e => no (by simpa using e))
    · rintro σ H' ⟨y, rfl, sm, hp1⟩
      exact ⟨_, rfl, hQ H' p sm hp hp1⟩
theorem ok_law_alike0 (D : Df K mg "_law_alike" s_law_alike p_law_alike f fd) (B : Bt mg) : FnOk P w K mg base (L2N.CX P w) 1 f fd p_law_alike (sp_law_alike RI) := by
  have G : FnOk P w K mg base (L2N.CX P w) 0 f fd p_law_alike spNo := ⟨fun _ _ _ _ h => False.elim h, fun _ _ _ _ _ _ _ _ _ _ _ _ _ h => False.elim h⟩
  refine Fun.okN D.F sc_law_alike (fun vs H Q E h => ?_) (fun cdv A outer s H vs Q E hr h => ?_)
  · obtain ⟨x, y, u, v, rfl, _⟩ := h
    rfl
  · obtain ⟨x, y, u, v, rfl, hx, hy, hQ⟩ := h
    refine ⟨_, pss_cons (ps_if (pt_val (pe_callB call_isi (by rfl) B.isinstance (by decide +kernel) (pa_cons (pv 1) (pa_cons (pty (by rfl) B.tuple b_tuple) pa_nil))))
        (pss_cons (ps_if (PW.pt (pw_or (pt_not (pt_val (pe_callB call_isi (by rfl) B.isinstance (by decide +kernel) (pa_cons (pv 0) (pa_cons (pty (by rfl) B.tuple b_tuple) pa_nil)))))
            (pw_or1 (pt_cmpR op_ne (pe_callB call_len_seq (by rfl) B.len PySem.boot_len (pa_cons (pv 0) pa_nil)) (pe_callB call_len_seq (by rfl) B.len PySem.boot_len (pa_cons (pv 1) pa_nil)) (nomark _)))))
          (pss_one (ps_ret pe_bl)) pss_nil)
        (pss_one (ps_ret (pe_cmpR (op_eqI hr.units) (pe_lc (own := [("_law_k", 2)]) (g := gName 2) rfl sc_law_alike.nd (pi_range1 rfl B.range (pa_cons (pe_callB call_len_seq (by rfl) B.len PySem.boot_len (pa_cons (pv 1) pa_nil)) pa_nil))
            (blkOk_by (N := n_law_alike) (sc := defScope s_law_alike) (by decide +kernel)) (fun _ _ _ _ _ => pg_name (i := 2) sc_law_alike.nd rfl (Or.inl rfl))
            (fun _ _ _ _ _ => pts_one (pt_not (pt_val (pe_call G hr (by rfl) D.g D.F.kp D.b .nil passN (pa_cons (pe_ix (r := rIxT K) ix_tup (pv 0) (pv 2) (fun _ _ => rfl)) (pa_cons (pe_ix (r := rIxT K) ix_tup (pv 1) (pv 2) (fun _ _ => rfl)) pa_nil)))))) (fun _ _ _ _ _ => pv 2))
          (pe_lst pa_nil) (nomark _))))) pss_nil)
      (pss_one (ps_ret (pe_and (pe_cmpR op_eq (pe_callB call_isi (by rfl) B.isinstance (by decide +kernel) (pa_cons (pv 0) (pa_cons (pty (by rfl) B.bool b_bool) pa_nil)))
          (pe_callB call_isi (by rfl) B.isinstance (by decide +kernel) (pa_cons (pv 1) (pa_cons (pty (by rfl) B.bool b_bool) pa_nil))) (nomark _)) (pe_one (pe_cmpR op_eq (pv 0) (pv 1) (nomark _)))))), ?_⟩
    have ex : x = .int u := hx
    have ey : y = .int v := hy
    subst ex ey
    refine ⟨_, rfl, _, _, _, _, _, rfl, .ty _, ty_I, kt_IT, _, rfl, iteF ?_⟩
    refine ⟨_, rfl, _, _, _, _, _, rfl, .ty _, ty_I, kt_IB, _, rfl, _, _, _, _, _, rfl, .ty _, ty_I, kt_IB, rfl, _, rfl, iteT ⟨_, rfl, _, rfl, rfl, ?_⟩⟩
    rw [dec_int]
    exact hQ H (Same.refl H)
theorem ok_law_alikeT {α : Type} [DecidableEq α] {R : Rd1 α} {k : Nat} (hs : Stay R) (D : Df K mg "_law_alike" s_law_alike p_law_alike f fd) (B : Bt mg)
    (G : FnOk P w K mg base (L2N.CX P w) k f fd p_law_alike (sp_law_alike R)) : FnOk P w K mg base (L2N.CX P w) (k + 1) f fd p_law_alike (sp_law_alike (RT K R)) := by
  refine Fun.okN D.F sc_law_alike (fun vs H Q E h => ?_) (fun cdv A outer s H vs Q E hr h => ?_)
  · obtain ⟨x, y, u, v, rfl, _⟩ := h
    rfl
  · obtain ⟨x, y, u, v, rfl, hx, hy, hQ⟩ := h
    refine ⟨_, pss_cons (ps_if (pt_val (pe_callB call_isi (by rfl) B.isinstance (by decide +kernel) (pa_cons (pv 1) (pa_cons (pty (by rfl) B.tuple b_tuple) pa_nil))))
        (pss_cons (ps_if (PW.pt (pw_or (pt_not (pt_val (pe_callB call_isi (by rfl) B.isinstance (by decide +kernel) (pa_cons (pv 0) (pa_cons (pty (by rfl) B.tuple b_tuple) pa_nil)))))
            (pw_or1 (pt_cmpR op_ne (pe_callB call_len_seq (by rfl) B.len PySem.boot_len (pa_cons (pv 0) pa_nil)) (pe_callB call_len_seq (by rfl) B.len PySem.boot_len (pa_cons (pv 1) pa_nil)) (nomark _)))))
          (pss_one (ps_ret pe_bl)) pss_nil)
        (pss_one (ps_ret (pe_cmpR (op_eqI hr.units) (pe_lc (own := [("_law_k", 2)]) (g := gName 2) rfl sc_law_alike.nd (pi_range1 rfl B.range (pa_cons (pe_callB call_len_seq (by rfl) B.len PySem.boot_len (pa_cons (pv 1) pa_nil)) pa_nil))
            (blkOk_by (N := n_law_alike) (sc := defScope s_law_alike) (by decide +kernel)) (fun _ _ _ _ _ => pg_name (i := 2) sc_law_alike.nd rfl (Or.inl rfl))
            (fun _ _ _ _ _ => pts_one (pt_not (pt_val (pe_call G hr (by rfl) D.g D.F.kp D.b .nil passN (pa_cons (pe_ix (r := rIxT K) ix_tup (pv 0) (pv 2) (fun _ _ => rfl)) (pa_cons (pe_ix (r := rIxT K) ix_tup (pv 1) (pv 2) (fun _ _ => rfl)) pa_nil)))))) (fun _ _ _ _ _ => pv 2))
          (pe_lst pa_nil) (nomark _))))) pss_nil)
      (pss_one (ps_ret (pe_and (pe_cmpR op_eq (pe_callB call_isi (by rfl) B.isinstance (by decide +kernel) (pa_cons (pv 0) (pa_cons (pty (by rfl) B.bool b_bool) pa_nil)))
          (pe_callB call_isi (by rfl) B.isinstance (by decide +kernel) (pa_cons (pv 1) (pa_cons (pty (by rfl) B.bool b_bool) pa_nil))) (nomark _)) (pe_one (pe_cmpR op_eq (pv 0) (pv 1) (nomark _)))))), ?_⟩
    obtain ⟨a, xs, rfl, hT1, hp1, hl1⟩ := hx
    obtain ⟨b, ys, rfl, hT2, hp2, hl2⟩ := hy
    have e1 := Paired.length hp1
    have e2 := Paired.length hp2
    refine ⟨_, rfl, _, _, _, _, _, rfl, .ty _, ty_T hT2, kt_TT, _, rfl, iteT ?_⟩
    refine ⟨_, rfl, _, _, _, _, _, rfl, .ty _, ty_T hT1, kt_TT, _, rfl, iteF ?_⟩
    refine ⟨_, rfl, a, _, rfl, .inr hT1, _, rfl, b, _, rfl, .inr hT2, rfl, _, rfl, ?_⟩
    by_cases c : u.length = v.length
    · refine iteNS (by rw [e1, e2, c]) ?_
      refine ⟨_, rfl, b, _, rfl, .inr hT2, (v.length : Int), by rw [e2], by omega, by omega, fun L hL => ?_⟩
      rw [Int.toNat_natCast]
      refine lc_r0 (fun i => !decide (u[i]? = v[i]?)) (fun i => V.int (i : Int)) hL (by omega) (fun i H1 hi sm Z M hz hm => ?_) fun H1 sm e => ?_
      · obtain ⟨x1, g1, r1⟩ := paired_get hp1 (List.getElem?_eq_getElem (show i < u.length by omega))
        obtain ⟨y1, g2, r2⟩ := paired_get hp2 (List.getElem?_eq_getElem (show i < v.length by omega))
        have q0 : decide (u[i]? = v[i]?) = decide (u[i]'(by omega) = v[i]'(by omega)) := by
          rw [List.getElem?_eq_getElem (show i < u.length by omega), List.getElem?_eq_getElem (show i < v.length by omega)]
          by_cases z : u[i]'(by omega) = v[i]'(by omega)
          · rw [decide_eq_true z, z]; simp
          · rw [decide_eq_false z]; simp [z]
        refine ⟨rfl, _, rfl, _, rfl, a, _, _, _, rfl, rfl, sm.tup hT1, atI_nat g1, _, rfl, _, rfl, b, _, _, _, rfl, rfl, sm.tup hT2, atI_nat g2, x1, y1, _, _, rfl, hs _ _ _ _ sm r1, hs _ _ _ _ sm r2, fun H2 s2 => ⟨_, rfl, ?_⟩⟩
        rw [← q0]
        refine ite2 (fun e => ?_) (fun e => ?_)
        · exact ⟨_, rfl, hz e H2 s2⟩
        · exact hm (by simpa using e) H2 s2
      · have e3 : H1 L = some (.lst (I (Z ((List.range v.length).filter fun i => !decide (u[i]? = v[i]?))))) := by
          rw [e, ← N_Z]
          rfl
        refine ⟨big (by show 0 ≤ 1000; decide), fun M hM => ⟨L, M, _, [], rfl, rfl, .inl ⟨lstOf ((same_upd hM) _ _ e3), lstOf upd_same⟩, ?_⟩⟩
        rw [alike_lists c]
        exact hQ _ (sm.trans (same_upd hM))
    · have nd : ¬ (V.int (xs.length : Int) = V.int (ys.length : Int)) := fun q => c (by have := V.int.inj q; omega)
      rw [decide_eq_false nd]
      have z := hQ H (Same.refl H)
      rw [decide_eq_false (fun q => c (by rw [q]))] at z
      exact z
theorem ok_law_only {c0 c1 c2 c3 c4 c5 : Addr} (D : Df K mg "_law_only" s_law_only p_law_only f fd) (B : Bt mg) (CE : Cl K mg "HealError" cE) (C0 : Cl K mg "NoNumbers" c0) (C1 : Cl K mg "NoRing" c1) (C2 : Cl K mg "NoMachine" c2)
    (C3 : Cl K mg "NotNow" c3) (C4 : Cl K mg "NotHealed" c4) (C5 : Cl K mg "TooGreat" c5) : FnE P w K mg base 1 f fd p_law_only (sp_law_only K [c0, c1, c2, c3, c4, c5] cE) := by
  refine Fun.okE D.F sc_law_only (fun cls d a vs H Q E h => ?_) (fun cdv A outer s H vs Q E a oe cls d hz hf hr h => ?_)
  · obtain ⟨D0, j, i, _, _, _, _, rfl, _⟩ := h
    rfl
  · obtain ⟨D0, j, i, rfl, rfl, kd, hj, rfl, hi, _, hQ⟩ := h
    have hp : ∀ (l : List (Addr × Obj)), (a, oe) ∈ (a, oe) :: l := fun _ => List.mem_cons_self
    refine ⟨_, pss_cons (ps_set (i := 2) sc_law_only.nd rfl (.inl rfl) (pe_lst (pa_cons (pe_callB (call_isP kd.e (hp []) hz hf) (by rfl) B.isinstance (by decide +kernel) (pa_cons (pv 0) (pa_cons (pe_glob (v := .ref c0) rfl C0.g rfl) pa_nil)))
        (pa_cons (pe_callB (call_isP kd.e (hp []) hz hf) (by rfl) B.isinstance (by decide +kernel) (pa_cons (pv 0) (pa_cons (pe_glob (v := .ref c1) rfl C1.g rfl) pa_nil)))
        (pa_cons (pe_callB (call_isP kd.e (hp []) hz hf) (by rfl) B.isinstance (by decide +kernel) (pa_cons (pv 0) (pa_cons (pe_glob (v := .ref c2) rfl C2.g rfl) pa_nil)))
        (pa_cons (pe_callB (call_isP kd.e (hp []) hz hf) (by rfl) B.isinstance (by decide +kernel) (pa_cons (pv 0) (pa_cons (pe_glob (v := .ref c3) rfl C3.g rfl) pa_nil))) pa_nil))))))
      (pss_cons (ps_set (i := 2) sc_law_only.nd rfl (.inl rfl) (pe_op op_cat (pv 2) (pe_lst (pa_cons (pe_callB (call_isP kd.e (hp []) hz hf) (by rfl) B.isinstance (by decide +kernel) (pa_cons (pv 0) (pa_cons (pe_glob (v := .ref c4) rfl C4.g rfl) pa_nil)))
        (pa_cons (pe_callB (call_isP kd.e (hp []) hz hf) (by rfl) B.isinstance (by decide +kernel) (pa_cons (pv 0) (pa_cons (pe_glob (v := .ref c5) rfl C5.g rfl) pa_nil))) pa_nil)))))
      (pss_one (ps_ret (pe_and (pe_cmpR op_eq (pe_bm PySem.F.plainAttrs_list PySem.F.slot_list_count PySem.F.type_list_count mt_bcount (pv 2) (pa_cons pe_bl pa_nil)) pe_int (nomark _))
        (pe_and (pe_ix ix_list (pv 2) (pv 1) (fun _ _ => rfl))
        (pe_and (pe_callB (call_isP kd.e (hp []) hz hf) (by rfl) B.isinstance (by decide +kernel) (pa_cons (pv 0) (pa_cons (pe_glob (v := .ref cE) rfl CE.g rfl) pa_nil)))
        (pe_one (pe_callB (call_isP kd.e (hp []) hz hf) (by rfl) B.isinstance (by decide +kernel) (pa_cons (pv 0) (pa_cons (pty (by rfl) B.verr b_verr) pa_nil)))))))))), ?_⟩
    have k0 := kd.i 0 c0 rfl
    have k1 := kd.i 1 c1 rfl
    have k2 := kd.i 2 c2 rfl
    have k3 := kd.i 3 c3 rfl
    have k4 := kd.i 4 c4 rfl
    have k5 := kd.i 5 c5 rfl
    refine ⟨_, rfl, _, _, _, rfl, (fun u e => e), k0, _, rfl, _, _, _, rfl, (fun u e => e), k1, _, rfl, _, _, _, rfl, (fun u e => e), k2, _, rfl, _, _, _, rfl, (fun u e => e), k3, big (by show 4 ≤ 1000; decide), fun p hp => ?_⟩
    refine ⟨_, rfl, _, rfl, _, _, _, rfl, (fun u e => e), k4, _, rfl, _, _, _, rfl, (fun u e => e), k5, big (by show 2 ≤ 1000; decide), fun q hq => ?_⟩
    refine ⟨p, q, _, _, rfl, rfl, (same_upd hq) _ _ upd_same, upd_same, big (by show 4 + 2 ≤ 1000; decide), fun t ht => ?_⟩
    obtain ⟨bs, hbs⟩ : ∃ bs : List Bool, bs = [decide (0 = j), decide (1 = j), decide (2 = j), decide (3 = j), decide (4 = j), decide (5 = j)] := ⟨_, rfl⟩
    have sm : ∀ o, Same H (upd (upd (upd H p (.lst [V.bl (decide (0 = j)), V.bl (decide (1 = j)), V.bl (decide (2 = j)), V.bl (decide (3 = j))])) q (.lst [V.bl (decide (4 = j)), V.bl (decide (5 = j))])) t o) := fun o => (same_upd hp).trans ((same_upd hq).trans (same_upd ht))
    have cnt : bs.count true = 1 ∧ ∀ i, i < 6 → (bs.map V.bl)[i]? = some (V.bl (decide (i = j))) := by
      rw [hbs]
      have h6 : ∀ j : _root_.Fin 6, ([decide (0 = j.1), decide (1 = j.1), decide (2 = j.1), decide (3 = j.1), decide (4 = j.1), decide (5 = j.1)] : List Bool).count true = 1 := by decide
      refine ⟨h6 ⟨j, hj⟩, fun i hi => ?_⟩
      match i, hi with
      | 0, _ => rfl
      | 1, _ => rfl
      | 2, _ => rfl
      | 3, _ => rfl
      | 4, _ => rfl
      | 5, _ => rfl
    have hl : (upd (upd (upd H p (.lst [V.bl (decide (0 = j)), V.bl (decide (1 = j)), V.bl (decide (2 = j)), V.bl (decide (3 = j))])) q (.lst [V.bl (decide (4 = j)), V.bl (decide (5 = j))])) t (.lst (bs.map V.bl))) t = some (.lst (bs.map V.bl)) := upd_same
    have fin := hQ _ (sm (.lst (bs.map V.bl)))
    rw [hbs] at hl fin cnt
    refine ⟨_, rfl, .inl ⟨rfl, _, lstOf hl⟩, t, _, true, rfl, rfl, lstOf hl, ?_⟩
    rw [cnt.1]
    refine ⟨rfl, _, rfl, iteT ⟨_, rfl, _, rfl, t, _, _, _, rfl, rfl, lstOf hl, atI_nat (cnt.2 i hi), _, rfl, ?_⟩⟩
    by_cases c : i = j
    · rw [decide_eq_true c] at fin ⊢
      exact iteT ⟨_, rfl, _, _, _, rfl, (fun u e => e), kd.h, _, rfl, iteT ⟨_, rfl, _, _, _, rfl, (fun u e => e), kd.v, fin⟩⟩
    · rw [decide_eq_false c] at fin ⊢
      exact iteF fin
theorem ok_law_step (D : Df K mg "_law_step" s_law_step p_law_step f fd) (B : Bt mg) : FnOk P w K mg base (L2N.CX P w) 1 f fd p_law_step (sp_moved2 K) := by
  refine Fun.okN D.F sc_law_step (fun vs H Q E h => ?_) (fun cdv A outer s H vs Q E hr h => ?_)
  · obtain ⟨a, r, m, k, rfl, _⟩ := h
    rfl
  · obtain ⟨a, r, m, k, rfl, hT, hk, hl, hm, hQ⟩ := h
    refine ⟨_, pss_cons (ps_set (i := 3) sc_law_step.nd rfl (.inl rfl) (pe_callTy call_list_of (by rfl) B.list (by decide +kernel) (pa_cons (pv 0) pa_nil)))
      (pss_cons (ps_if (pt_cmpR op_eq (pv 2) pe_int (nomark _))
        (pss_one (ps_asg (pe_op op_mod (pe_op op_add (pe_ix ix_tup (pv 0) pe_int (fun _ _ => rfl)) pe_int) (pv 1)) (pg_sub (pv 3) pe_int set_list)))
        (pss_one (ps_asg (pe_ix ix_tup (pv 0) (pe_op op_sub (pv 2) pe_int) (fun _ _ => rfl)) (pg_sub (pv 3) (pv 2) set_list))))
      (pss_one (ps_ret (pe_callTy call_tuple_of (by rfl) B.tuple (by decide +kernel) (pa_cons (pv 3) pa_nil))))), ?_⟩
    refine ⟨_, rfl, a, _, rfl, .inr hT, fun p hp => ?_⟩
    have s1 : Same H (upd H p (.lst (I r))) := same_upd hp
    have fin : ∀ v, v = (if k = 0 then (at0 r 0 + 1) % m else at0 r (k - 1)) → ∀ q, (upd (upd H p (.lst (I r))) p (.lst ((I r).set k (V.int v)))) q = none → Q (.ref q) (upd (upd (upd H p (.lst (I r))) p (.lst ((I r).set k (V.int v)))) q (.tup ((I r).set k (V.int v)))) := fun v ev q hq => by
      refine hQ _ q (fun b o e => ?_) ?_
      · have nq : b ≠ q := by
          intro z
          rw [z] at e
          rw [upd_upd] at hq
          have := (same_upd (o := .lst ((I r).set k (V.int v))) hp) _ _ e
          rw [hq] at this
          cases this
        rw [upd_ne nq, upd_ne (ne_of_none e hp), upd_ne (ne_of_none e hp)]
        exact e
      · show _ = some (HO.tup (I (HR.moved m r k)))
        rw [upd_same]
        unfold HR.moved I
        rw [List.map_set, ← ev]
    by_cases c : k = 0
    · subst c
      refine ⟨_, rfl, rfl, _, rfl, ite2 (fun _ => ?_) (fun e => absurd (decide_eq_true rfl) e)⟩
      refine ⟨_, rfl, a, _, _, _, rfl, rfl, s1.tup hT, atI_I (k := 0) rfl hk, _, _, rfl, rfl, _, rfl, _, _, rfl, rfl, hm, ?_⟩
      refine ⟨_, rfl, p, _, _, 0, rfl, rfl, upd_same, ?_, ?_⟩
      · rw [len_I]
        unfold ixN
        rw [if_pos (by omega), if_pos (by omega)]
        rfl
      · exact ⟨_, rfl, p, _, rfl, .inl ⟨lstOf upd_same, fin _ (by rw [if_pos rfl])⟩⟩
    · refine ⟨_, rfl, rfl, _, rfl, ite2 (fun e => absurd (V.int.inj (of_decide_eq_true e)) (by omega)) (fun _ => ?_)⟩
      refine ⟨_, rfl, _, rfl, _, _, rfl, rfl, a, _, _, _, rfl, rfl, s1.tup hT, atI_I (k := k - 1) (by omega) (by omega), ?_⟩
      refine ⟨_, rfl, _, rfl, p, _, _, k, rfl, rfl, upd_same, ?_, ?_⟩
      · rw [len_I]
        unfold ixN
        rw [if_pos (by omega), if_pos (by omega), Int.toNat_natCast]
      · exact ⟨_, rfl, p, _, rfl, .inl ⟨lstOf upd_same, fin _ (by rw [if_neg c])⟩⟩
theorem ok_law_all (D : Df K mg "_law_all" s_law_all p_law_all f fd) (B : Bt mg) : FnOk P w K mg base (L2N.CX P w) 1 f fd p_law_all sp_all_rings := by
  refine Fun.okN D.F sc_law_all (fun vs H Q E h => ?_) (fun cdv A outer s H vs Q E hr h => ?_)
  · obtain ⟨n, m, rfl, _⟩ := h
    rfl
  · obtain ⟨n, m, rfl, hn, hm1, hm, hp, hQ⟩ := h
    refine ⟨_, pss_cons (ps_set (i := 2) sc_law_all.nd rfl (.inl rfl) (pe_lst (pa_cons (pe_tup pa_nil) pa_nil)))
      (pss_cons (ps_for (passes_of rfl) rfl (pi_range1 rfl B.range (pa_cons (pv 0) pa_nil)) (pg_name (i := 3) sc_law_all.nd rfl (.inl rfl))
        (pss_cons (ps_set (i := 4) sc_law_all.nd rfl (.inl rfl) (pe_lst pa_nil))
        (pss_cons (ps_for (passes_of rfl) rfl (pi_list (pv 2)) (pg_name (i := 5) sc_law_all.nd rfl (.inr rfl))
          (pss_one (ps_set (i := 4) sc_law_all.nd rfl (.inl rfl) (pe_op op_cat (pv 4) (pe_lc (own := [("_law_number", 6)]) (g := gName 6) (tt := tYes) (te := tOp (rCatG K) (tVar 5) (tTup (tCons (tVar 6) tNil))) rfl sc_law_all.nd (pi_range1 rfl B.range (pa_cons (pv 1) pa_nil)) (blkOk_by (N := n_law_all) (sc := defScope s_law_all) (by decide +kernel))
            (fun _ _ _ _ _ => pg_name (i := 6) sc_law_all.nd rfl (Or.inl rfl)) (fun _ _ _ _ _ => pts_nil) (fun _ _ _ _ _ => by exact pe_op op_catG (pv 5) (pe_tup (pa_cons (pv 6) pa_nil))))))))
        (pss_one (ps_set (i := 2) sc_law_all.nd rfl (.inl rfl) (pv 4))))))
      (pss_one (ps_ret (pv 2)))), ?_⟩
    refine ⟨big (by show 0 ≤ 1000; decide), fun t0 ht0 => ⟨big (by show 1 ≤ 1000; decide), fun p hp0 => ?_⟩⟩
    have s0 := (same_upd (o := .tup []) ht0).trans (same_upd (o := .lst [V.ref t0]) hp0)
    refine ⟨_, rfl, _, rfl, by omega, by omega, ?_⟩
    rw [Int.toNat_natCast]
    refine for_r0 (fun i σ H' => ∃ (q : Addr) (y3 y4 y5 : Option V), σ = [some (.int (n : Int)), some (.int (m : Int)), some (.ref q), y3, y4, y5, none] ∧ Same H H' ∧ H q = none ∧ ListG H' q (allR m i))
      ⟨p, none, none, none, rfl, s0, (same_upd (o := .tup []) ht0).free hp0, [.ref t0], upd_same, .cons ⟨t0, rfl, (same_upd hp0) _ _ upd_same⟩ .nil⟩ ?_ ?_
    · rintro i σ H1 hi ⟨q, y3, y4, y5, rfl, sm, hq0, xs, hq, hx⟩
      have le : ∀ j, j ≤ n → m ^ j ≤ 300 := fun j hj => Nat.le_trans (Nat.pow_le_pow_right hm1 hj) hp
      have xl : xs.length = m ^ i := by rw [hx.len, allR_len]
      have l1 := le i (by omega)
      have l2 := le (i + 1) (by omega)
      refine ⟨big (by show 0 ≤ 1000; decide), fun p2 hp2 => ?_⟩
      have s2 := same_upd (o := .lst []) hp2
      have hp20 : H p2 = none := sm.free hp2
      obtain ⟨ext, hext⟩ : ∃ ext : List Int → List (List Int), ext = fun r => (List.range m).map fun (k : Nat) => r ++ [(k : Int)] := ⟨_, rfl⟩
      have elen : ∀ r, (ext r).length = m := fun r => by rw [hext, List.length_map, List.length_range]
      refine ⟨_, rfl, q, rfl, ⟨_, lstOf (s2 _ _ hq)⟩, for_list (K := K) (a := q) (xs := xs)
        (fun j σ H' => ∃ (y5 : Option V) (ys : List V) (p2 : Addr), σ = [some (.int (n : Int)), some (.int (m : Int)), some (.ref q), some (.int (i : Int)), some (.ref p2), y5, none] ∧ Same H1 H' ∧ H1 p2 = none ∧ H' p2 = some (.lst ys) ∧ TupsG H' ys (((allR m i).take j).flatMap ext))
        ⟨y5, [], p2, rfl, s2, hp2, upd_same, by rw [List.take_zero]; exact .nil⟩ (fun j σ H' _ ⟨_, _, _, _, s3, _⟩ => lstOf (s3 _ _ hq)) ?_ ?_⟩
      · rintro j x σ H2 hj ⟨y5, ys, p2, rfl, s3, hp2, hy, ty⟩
        have hjl := (List.getElem?_eq_some_iff.mp hj).1
        have hjr : j < (allR m i).length := by rw [allR_len]; omega
        obtain ⟨a, a1, a2⟩ := TupsG.get (hx.of s3) (List.getElem?_eq_getElem hjr)
        rw [hj] at a1
        cases a1
        obtain ⟨r, hr⟩ : ∃ r, r = (allR m i)[j] := ⟨_, rfl⟩
        rw [← hr] at a2
        have yl : ys.length = j * m := by rw [ty.len, flat_len ext m elen, List.length_take, Nat.min_eq_left (by omega)]
        have yb : j * m + m ≤ 300 := by
          have : (j + 1) * m ≤ m ^ (i + 1) := by
            rw [Nat.pow_succ]
            exact Nat.mul_le_mul_right m (by omega)
          rw [Nat.succ_mul] at this
          omega
        refine ⟨_, rfl, _, rfl, (m : Int), rfl, by omega, by omega, fun L hL => ?_⟩
        rw [Int.toNat_natCast]
        refine lc_rG (fun k => r ++ [(k : Int)]) hL (by omega) (fun k H3 hk s4 Zc hz => ?_) fun H3 zs s4 h4 t4 => ?_
        · refine ⟨rfl, _, rfl, _, rfl, big (by show 1 ≤ 1000; decide), fun q2 hq2 => ?_⟩
          have t5 := same_upd (o := .tup [V.int (k : Int)]) hq2
          have a3 : TupG (upd H3 q2 (.tup [V.int (k : Int)])) a r := t5 _ _ (s4 _ _ a2)
          have rl : r.length = i := by rw [hr]; exact (mem_allR.mp (List.getElem_mem hjr)).1
          refine ⟨a, q2, _, _, rfl, rfl, tupOf a3, tupOf upd_same, (fun _ => upd_same), (fun z => by cases z), big ?_, fun p5 H5 s5 h5 => ?_⟩
          · rw [len_I]
            show r.length + 1 ≤ 1000
            omega
          · refine hz H5 p5 (t5.trans s5) ?_
            show H5 p5 = some (.tup (I (r ++ [(k : Int)])))
            rw [h5]
            unfold I
            rw [List.map_append]
            rfl
        · have hy3 := s4 _ _ hy
          have ne : L ≠ p2 := fun z => by rw [z, hy] at hL; cases hL
          have zl : zs.length = m := by rw [t4.len, List.length_map, List.length_range]
          refine ⟨p2, L, _, _, rfl, rfl, hy3, h4, big (by omega), fun p9 hp9 => ?_⟩
          have s9 := s3.trans (s4.trans (same_upd (o := .lst (ys ++ zs)) hp9))
          refine ⟨some (.ref a), ys ++ zs, p9, rfl, s9, (s3.trans s4).free hp9, upd_same, ?_⟩
          rw [List.take_succ_eq_append_getElem hjr, List.flatMap_append, ← hr]
          have e : [r].flatMap ext = (List.range m).map fun (k : Nat) => r ++ [(k : Int)] := by
            rw [List.flatMap_cons, List.flatMap_nil, List.append_nil, hext]
          rw [e]
          exact TupsG.append (ty.of (s4.trans (same_upd hp9))) (t4.of (same_upd hp9))
      · rintro σ H2 ⟨y5, ys, p2, rfl, s3, hp2, hy, ty⟩
        have e : (allR m i).take xs.length = allR m i := List.take_of_length_le (by rw [allR_len]; omega)
        rw [e, hext] at ty
        exact ⟨_, rfl, p2, some (.int (i : Int)), some (.ref p2), y5, rfl, sm.trans s3, sm.free hp2, ys, hy, ty⟩
    · rintro σ H1 ⟨q, y3, y4, y5, rfl, sm, hq0, hx⟩
      exact ⟨_, rfl, hQ H1 q sm hq0 hx⟩
def greatF (n : Nat) : Int := at0 [17, 6, 4, 3, 2, 2, 2] (n - 2)
def sp_law_sizes : Sp := fun vs H Q _ => ∃ c : Int, vs = [.int c] ∧ ∀ H' t, Same H H' → H' t = some (.tup [.int (2 + c % 7), .int (2 + c / 7 % (greatF (2 + c % 7).toNat - 1))]) → Q (.ref t) H'
theorem ok_law_sizes (D : Df K mg "_law_sizes" s_law_sizes p_law_sizes f fd) : FnOk P w K mg base (L2N.CX P w) 1 f fd p_law_sizes sp_law_sizes := by
  refine Fun.okN D.F sc_law_sizes (fun vs H Q E h => ?_) (fun cdv A outer s H vs Q E hr h => ?_)
  · obtain ⟨c, rfl, _⟩ := h
    rfl
  · obtain ⟨c, rfl, hQ⟩ := h
    refine ⟨_, pss_cons (ps_set (i := 1) sc_law_sizes.nd rfl (.inl rfl) (pe_op op_add pe_int (pe_op op_mod (pv 0) pe_int)))
      (pss_cons (ps_set (i := 2) sc_law_sizes.nd rfl (.inl rfl) (pe_ix ix_list (pe_lst (pa_cons pe_int (pa_cons pe_int (pa_cons pe_int (pa_cons pe_int (pa_cons pe_int (pa_cons pe_int (pa_cons pe_int pa_nil)))))))) (pe_op op_sub (pv 1) pe_int) (fun _ _ => rfl)))
      (pss_one (ps_ret (pe_tup (pa_cons (pv 1) (pa_cons (pe_op op_add pe_int (pe_op op_mod (pe_op op_fdiv (pv 0) pe_int) (pe_op op_sub (pv 2) pe_int))) pa_nil)))))), ?_⟩
    have b1 := Int.emod_nonneg c (show (7 : Int) ≠ 0 by decide)
    have b2 := Int.emod_lt_of_pos c (show (0 : Int) < 7 by decide)
    have gp : 0 < greatF (2 + c % 7).toNat - 1 := by
      rcases (show (2 + c % 7).toNat = 2 ∨ (2 + c % 7).toNat = 3 ∨ (2 + c % 7).toNat = 4 ∨ (2 + c % 7).toNat = 5 ∨ (2 + c % 7).toNat = 6 ∨ (2 + c % 7).toNat = 7 ∨ (2 + c % 7).toNat = 8 by omega) with e | e | e | e | e | e | e <;> rw [e] <;> decide
    refine ⟨_, rfl, _, _, rfl, rfl, (by show (0 : Int) < 7; decide), _, _, rfl, rfl, ?_⟩
    refine ⟨big (by show 7 ≤ 1000; decide), fun q hq => ⟨_, rfl, _, _, rfl, rfl, q, _, _, _, rfl, rfl, lstOf upd_same, atI_I (r := [17, 6, 4, 3, 2, 2, 2]) (k := (2 + c % 7).toNat - 2) (by omega) (by show _ < 7; omega), ?_⟩⟩
    refine ⟨_, rfl, _, rfl, _, _, rfl, rfl, ⟨by decide, by decide⟩, _, rfl, _, _, rfl, rfl, _, _, rfl, rfl, gp, _, _, rfl, rfl, big (by show 2 ≤ 1000; decide), fun t ht => ?_⟩
    exact hQ _ t ((same_upd hq).trans (same_upd ht)) upd_same
def dueL (x y : Int) : Int := if y < 2 ∨ 100 < y then 0 else if x < 2 ∨ 12 < x then 1 else 5
def sp_law_due : Sp := fun vs H Q _ => ∃ x y : Int, vs = [.int x, .int y] ∧ ∀ H' p, Same H H' → H' p = some (.lst (I [dueL x y])) → Q (.ref p) H'
theorem ok_law_due (D : Df K mg "_law_due" s_law_due p_law_due f fd) : FnOk P w K mg base (L2N.CX P w) 1 f fd p_law_due sp_law_due := by
  refine Fun.okN D.F sc_law_due (fun vs H Q E h => ?_) (fun cdv A outer s H vs Q E hr h => ?_)
  · obtain ⟨x, y, rfl, _⟩ := h
    rfl
  · obtain ⟨x, y, rfl, hQ⟩ := h
    refine ⟨_, pss_cons (ps_if (PW.pt (pw_or (pt_cmpR op_lt (pv 1) pe_int (nomark _)) (pw_or1 (pt_cmpR op_gt (pv 1) pe_int (nomark _))))) (pss_one (ps_ret (pe_lst (pa_cons pe_int pa_nil)))) pss_nil)
      (pss_cons (ps_if (PW.pt (pw_or (pt_cmpR op_lt (pv 0) pe_int (nomark _)) (pw_or1 (pt_cmpR op_gt (pv 0) pe_int (nomark _))))) (pss_one (ps_ret (pe_lst (pa_cons pe_int pa_nil)))) pss_nil)
      (pss_one (ps_ret (pe_lst (pa_cons pe_int pa_nil))))), ?_⟩
    have fin : ∀ z : Int, dueL x y = z → ([V.int z] : List V).length ≤ sizeLine ∧ ∀ p, H p = none → Q (.ref p) (upd H p (.lst [V.int z])) := fun z e =>
      ⟨big (by show 1 ≤ 1000; decide), fun p hp => hQ _ p (same_upd hp) (by rw [upd_same, e]; rfl)⟩
    refine ⟨_, rfl, _, _, rfl, rfl, _, rfl, ite2 (fun e => iteT (fin 0 (by have := of_decide_eq_true e; unfold dueL; rw [if_pos (.inl this)]))) (fun e => ?_)⟩
    have y1 : ¬ y < 2 := fun q => e (decide_eq_true q)
    refine ⟨_, rfl, _, _, rfl, rfl, _, rfl, ite2 (fun e => fin 0 (by have := of_decide_eq_true e; unfold dueL; rw [if_pos (.inr this)])) (fun e => ?_)⟩
    have y2 : ¬ 100 < y := fun q => e (decide_eq_true q)
    refine ⟨_, rfl, _, _, rfl, rfl, _, rfl, ite2 (fun e => iteT (fin 1 (by have := of_decide_eq_true e; unfold dueL; rw [if_neg (by omega), if_pos (.inl this)]))) (fun e => ?_)⟩
    have x1 : ¬ x < 2 := fun q => e (decide_eq_true q)
    refine ⟨_, rfl, _, _, rfl, rfl, _, rfl, ite2 (fun e => fin 1 (by have := of_decide_eq_true e; unfold dueL; rw [if_neg (by omega), if_pos (.inr this)])) (fun e => ?_)⟩
    have x2 : ¬ 12 < x := fun q => e (decide_eq_true q)
    exact fin 5 (by unfold dueL; rw [if_neg (by omega), if_neg (by omega)])
def sp_law_told (K : PySem.W.Frag) : Sp := fun vs H Q _ => ∃ x y : Int, vs = [.int x, .int y] ∧ ((dueL x y ≠ 5 ∨ 300 < y.toNat ^ x.toNat) → ∀ H' p, Same H H' → H' p = some (.lst (I [dueL x y])) → Q (.ref p) H') ∧
  ∀ n m : Nat, x = (n : Int) → y = (m : Int) → 2 ≤ m → m ≤ 100 → 2 ≤ n → n ≤ 12 → m ^ n ≤ 300 → (lastR n m = [] → ∀ H', Same H H' → Q .non H') ∧ (lastR n m ≠ [] → ∀ H' t a b, Same H H' → H b = none → H' t = some (.tup [.ref a, .ref b]) → TupG H' a (neverR n m).1 → H' b = some (.lst (N (neverR n m).2)) → Q (.ref t) H')
theorem ok_law_told {c0 c1 c2 c3 c4 c5 : Addr} (D : Df K mg "_law_told" s_law_told p_law_told f fd) (B : Bt mg) (CE : Cl K mg "HealError" cE) (KN : Kd K [c0, c1, c2, c3, c4, c5] cE c0 0) (KR : Kd K [c0, c1, c2, c3, c4, c5] cE c1 1) (KG : Kd K [c0, c1, c2, c3, c4, c5] cE c5 5)
    (D1 : Df K mg "never" s_never p_never f1 fd1) (G1 : FnOk P w K mg base (L2N.CX P w) 5 f1 fd1 p_never (sp_never c0 c1 c5))
    (D2 : Df K mg "_law_only" s_law_only p_law_only f2 fd2) (G2 : FnE P w K mg base 1 f2 fd2 p_law_only (sp_law_only K [c0, c1, c2, c3, c4, c5] cE)) :
    FnOk P w K mg base (L2N.CX P w) 6 f fd p_law_told (sp_law_told K) := by
  refine Fun.okN D.F sc_law_told (fun vs H Q E h => ?_) (fun cdv A outer s H vs Q E hr h => ?_)
  · obtain ⟨x, y, rfl, _⟩ := h
    rfl
  · obtain ⟨x, y, rfl, hbad, hok⟩ := h
    refine ⟨_, pss_cons (L2N.ps_try_as (i := 2) (tb := fun W => tRet (tCallS (sp_never c0 c1 c5) (WE W) (tCons (tVar 0) (tCons (tVar 1) tNil))))
        (ts := fun a cls d => tFor (iListN K (tLst (tCons (tC (.int 0)) (tCons (tC (.int 1)) (tCons (tC (.int 5)) tNil))))) (gName 3) (tIfS (tB (tCallE (sp_law_only K [c0, c1, c2, c3, c4, c5] cE cls d a) (tCons (tVar 2) (tCons (tVar 3) tNil)))) (tRet (tLst (tCons (tVar 3) tNil))) tNext))
        (Wout := fun _ _ _ _ => False) rfl rfl sc_law_told.nd rfl rfl ⟨rfl, by decide, .inl CE.g⟩ takesN
        (fun W pn xe tk _ => pss_one (ps_ret (by exact pe_callS G1 hr rfl D1.g D1.F.kp D1.b (fun σ => L2N.passAt tk σ) (by exact pa_cons (pv 0) (pa_cons (pv 1) pa_nil)))))
        (fun a oe cls d pn hz hf => pss_one (L2H.ps_forH PassesOwn.never (hot_of hz hf) (pi_listN (pe_lst (pa_cons pe_int (pa_cons pe_int (pa_cons pe_int pa_nil))))) (pg_name (i := 3) sc_law_told.nd rfl (.inl rfl))
          (pss_one (ps_if (pt_val (by exact pe_callE G2 ⟨(L2H.roomH_of (hr.mono (by decide) : Room 1 _)).dp, (L2H.roomH_of (hr.mono (by decide) : Room 1 _)).un⟩ List.mem_cons_self hz.zc hf rfl D2.g D2.F.kp D2.b (pa_cons (pv 2) (pa_cons (pv 3) pa_nil))))
            (pss_one (ps_ret (pe_lst (pa_cons (pv 3) pa_nil)))) pss_nil)))))
      (pss_one (ps_ret (pe_lst pa_nil))), ?_⟩
    have key : ∀ (D0 : Addr) (j : Nat) (H1 : Hp), Same H H1 → Kd K [c0, c1, c2, c3, c4, c5] cE D0 j → (j = 0 ∨ j = 1 ∨ j = 5) → dueL x y = (j : Int) → (dueL x y ≠ 5 ∨ 300 < y.toNat ^ x.toNat) →
        wAs K (.ref cE) 2 (fun a cls d => tFor (iListN K (tLst (tCons (tC (.int 0)) (tCons (tC (.int 1)) (tCons (tC (.int 5)) tNil))))) (gName 3) (tIfS (tB (tCallE (sp_law_only K [c0, c1, c2, c3, c4, c5] cE cls d a) (tCons (tVar 2) (tCons (tVar 3) tNil)))) (tRet (tLst (tCons (tVar 3) tNil))) tNext)) (fun _ _ _ _ => False)
          { nx := fun σ' H' => tRet (tLst tNil) { nx := fun _ H' => Q .non H', rt := Q } σ' H', rt := Q } (.ref D0) none [some (.int x), some (.int y), none, none] H1 := fun D0 j H1 s1 kd hj ej hb => by
      refine ⟨true, kd.m, fun _ a0 ha0 => ?_, fun q => nomatch q⟩
      refine ⟨big (by show 3 ≤ 1000; decide), fun q hq => ⟨q, rfl, ⟨_, lstOf upd_same⟩, ?_⟩⟩
      have t2 := same_upd (o := .lst [V.int 0, V.int 1, V.int 5]) hq
      refine for_listN (K := K) (a := q) (xs := [V.int 0, V.int 1, V.int 5]) (fun i σ H' => ∃ y3, σ = [some (.int x), some (.int y), some (.ref a0), y3] ∧ Same (upd H1 q (.lst [V.int 0, V.int 1, V.int 5])) H' ∧ (i = 0 ∨ (i = 1 ∧ j ≠ 0) ∨ (i = 2 ∧ j ≠ 0 ∧ j ≠ 1)))
        ⟨none, rfl, Same.refl _, .inl rfl⟩ (fun i σ H' ⟨_, _, sm, hi⟩ => ⟨by show i < 3; omega, lstOf (sm _ _ upd_same)⟩) ?_
      rintro i v σ H' hv ⟨y3, rfl, sm, hi⟩
      have go : ∀ b : Nat, v = .int (b : Int) → b < 6 → (b ≠ j → (i + 1 = 0 ∨ (i + 1 = 1 ∧ j ≠ 0) ∨ (i + 1 = 2 ∧ j ≠ 0 ∧ j ≠ 1))) →
          gName 3 v [some (.int x), some (.int y), some (.ref a0), y3] H' fun σ2 H2 => tIfS (tB (tCallE (sp_law_only K [c0, c1, c2, c3, c4, c5] cE (.ref D0) none a0) (tCons (tVar 2) (tCons (tVar 3) tNil)))) (tRet (tLst (tCons (tVar 3) tNil))) tNext
            { nx := fun σ' H' => ∃ y3, σ' = [some (.int x), some (.int y), some (.ref a0), y3] ∧ Same (upd H1 q (.lst [V.int 0, V.int 1, V.int 5])) H' ∧ (i + 1 = 0 ∨ (i + 1 = 1 ∧ j ≠ 0) ∨ (i + 1 = 2 ∧ j ≠ 0 ∧ j ≠ 1)), rt := Q,
              ct := fun σ' H' => ∃ y3, σ' = [some (.int x), some (.int y), some (.ref a0), y3] ∧ Same (upd H1 q (.lst [V.int 0, V.int 1, V.int 5])) H' ∧ (i + 1 = 0 ∨ (i + 1 = 1 ∧ j ≠ 0) ∨ (i + 1 = 2 ∧ j ≠ 0 ∧ j ≠ 1)), bk := fun σ' H' => tRet (tLst tNil) { nx := fun _ H' => Q .non H', rt := Q } σ' H' } σ2 H2 := fun b eb b6 hno => by
        subst eb
        refine ⟨_, rfl, _, rfl, D0, j, b, rfl, rfl, kd, by omega, rfl, b6, rfl, fun H2 s2 => ⟨_, rfl, ite2 (fun e => ?_) (fun e => ?_)⟩⟩
        · have e := of_decide_eq_true e
          refine ⟨_, rfl, big (by show 1 ≤ 1000; decide), fun p hp => hbad hb _ p (s1.trans (t2.trans (sm.trans (s2.trans (same_upd hp))))) ?_⟩
          rw [upd_same, ej, e]
          rfl
        · exact ⟨_, rfl, sm.trans s2, hno fun z => e (decide_eq_true z)⟩
      rcases hi with rfl | ⟨rfl, h0⟩ | ⟨rfl, h0, h1⟩
      · cases hv
        exact go 0 rfl (by decide) fun ne => by omega
      · cases hv
        exact go 1 rfl (by decide) fun ne => by omega
      · cases hv
        exact go 5 rfl (by decide) fun ne => by omega
    refine ⟨_, rfl, _, rfl, x, y, rfl, fun h => ?_, fun y1 y2 h => ?_, fun _ _ _ _ h => h.elim, fun n m en em m1 m2 n1 n2 _ => ⟨fun h => ?_, fun h => hok n m en em m1 m2 n1 n2 h⟩⟩
    · have e : dueL x y = 0 := by unfold dueL; rw [if_pos h]
      exact key c0 0 H (Same.refl H) KN (.inl rfl) e (.inl (by rw [e]; decide))
    · have e : dueL x y = 1 := by unfold dueL; rw [if_neg (by omega), if_pos h]
      exact key c1 1 H (Same.refl H) KR (.inr (.inl rfl)) e (.inl (by rw [e]; decide))
    · have e : dueL x y = 5 := by unfold dueL; rw [if_neg (by omega), if_neg (by omega)]
      exact key c5 5 H (Same.refl H) KG (.inr (.inr rfl)) e (.inr (by rw [en, em, Int.toNat_natCast, Int.toNat_natCast]; exact h))
theorem ok_law_heights (D : Df K mg "_law_heights" s_law_heights p_law_heights f fd) (B : Bt mg)
    (D1 : Df K mg "_law_all" s_law_all p_law_all f1 fd1) (G1 : FnOk P w K mg base (L2N.CX P w) 1 f1 fd1 p_law_all sp_all_rings)
    (D2 : Df K mg "_law_able" s_law_able p_law_able f2 fd2) (G2 : FnOk P w K mg base (L2N.CX P w) 1 f2 fd2 p_law_able (sp_law_able K))
    (D3 : Df K mg "_law_step" s_law_step p_law_step f3 fd3) (G3 : FnOk P w K mg base (L2N.CX P w) 1 f3 fd3 p_law_step (sp_moved2 K)) :
    FnOk P w K mg base (L2N.CX P w) 2 f fd p_law_heights sp_law_heights := by
  refine Fun.okN D.F sc_law_heights (fun vs H Q E h => ?_) (fun cdv A outer s H vs Q E hr h => ?_)
  · obtain ⟨n, m, rfl, _⟩ := h
    rfl
  · obtain ⟨n, m, rfl, hn2, hn, hm2, hm, hp, hQ⟩ := h
    have hu2 := Nat.lt_of_le_of_lt (Nat.add_le_add_left (show 1 ≤ 64 by decide) _) hr.units
    refine ⟨_, pss_cons (ps_set (i := 2) sc_law_heights.nd rfl (.inr rfl) pe_dnewT)
      (pss_cons (ps_set (i := 3) sc_law_heights.nd rfl (.inr rfl) pe_dnewT)
      (pss_cons (ps_for (passes_of rfl) rfl (pi_list (pe_call G1 hr (by rfl) D1.g D1.F.kp D1.b .nil passN (pa_cons (pv 0) (pa_cons (pv 1) pa_nil)))) (pg_name (i := 4) sc_law_heights.nd rfl (.inr rfl))
        (pss_cons (ps_set (i := 5) sc_law_heights.nd rfl (.inl rfl) (pe_call G2 hr (by rfl) D2.g D2.F.kp D2.b .nil passN (pa_cons (pv 4) pa_nil)))
        (pss_one (ps_if (pt_cmpR op_eq (pe_callB call_len_seq (by rfl) B.len PySem.boot_len (pa_cons (pv 5) pa_nil)) pe_int (nomark _))
          (pss_one (ps_dput hu2 (pv 3) (pv 4) pe_int rfl))
          (pss_one (ps_dput hu2 (pv 2) (pv 4) (pe_lc (own := [("_law_k", 6)]) (g := gName 6) (tt := tYes) (te := tCall (sp_moved2 K) [] E0 (tCons (tVar 4) (tCons (tVar 1) (tCons (tVar 6) tNil)))) rfl sc_law_heights.nd (pi_list (pv 5)) (blkOk_by (N := n_law_heights) (sc := defScope s_law_heights) (by decide +kernel))
            (fun _ _ _ _ _ => pg_name (i := 6) sc_law_heights.nd rfl (Or.inl rfl)) (fun _ _ _ _ _ => pts_nil) (fun _ _ _ _ _ => by exact pe_call G3 hr (by rfl) D3.g D3.F.kp D3.b .nil passN (pa_cons (pv 4) (pa_cons (pv 1) (pa_cons (pv 6) pa_nil))))) rfl))))))
      (pss_cons (ps_while (passes_of rfl) (pt_truthD (pv 2))
        (pss_cons (ps_lock (ps_setLc (i := 7) (own := [("_law_ring", 4)]) (g := gName 4) (tt := tTest (tOp (rEqI K fun b => b) (tLc (iList K (tDGet (tVar 2) (tVar 4))) (gName 8) (tB (tDNotIn (tVar 8) (tVar 3))) (tC (.int 1)) [8]) (tLst tNil))) (te := tVar 4) rfl sc_law_heights.nd rfl rfl (sw_true rfl rfl rfl (by decide +kernel)) (pi_keys (pv 2)) (blkOk_by (N := n_law_heights) (sc := defScope s_law_heights) (by decide +kernel))
            (fun _ _ _ _ _ => pg_name (i := 4) sc_law_heights.nd rfl (Or.inl rfl))
            (fun _ _ _ _ _ => by exact pts_one (pt_cmpR (op_eqI hr.units) (pe_lc (own := [("_law_one", 8)]) (g := gName 8) (tt := tB (tDNotIn (tVar 8) (tVar 3))) (te := tC (.int 1)) rfl sc_law_heights.nd (pi_list (pe_dget hu2 (pv 2) (pv 4) (fun _ _ => rfl))) (blkOk_by (N := n_law_heights) (by show blkC n_law_heights (relS _ (defScope s_law_heights)) _ _ = true; decide +kernel))
                (fun _ _ _ _ _ => pg_name (i := 8) sc_law_heights.nd rfl (Or.inl rfl))
                (fun _ _ _ _ _ => by exact pts_one (pt_cmp (pc_dnotin hu2 (pv 8) (pv 3)))) (fun _ _ _ _ _ => by exact pe_int)) (pe_lst pa_nil) (nomark _)))
            (fun _ _ _ _ _ => by exact pv 4)))
        (pss_cons (ps_for (passes_of rfl) rfl (pi_list (pv 7)) (pg_name (i := 4) sc_law_heights.nd rfl (.inr rfl))
          (pss_one (ps_dput hu2 (pv 3) (pv 4) (pe_op op_add pe_int (pe_callB (cr_max rfl) (by rfl) B.max (by decide +kernel) (pa_cons (pe_lc (own := [("_law_one", 8)]) (g := gName 8) (tt := tYes) (te := tDGet (tVar 3) (tVar 8)) rfl sc_law_heights.nd (pi_list (pe_dget hu2 (pv 2) (pv 4) (fun _ _ => rfl))) (blkOk_by (N := n_law_heights) (sc := defScope s_law_heights) (by decide +kernel))
              (fun _ _ _ _ _ => pg_name (i := 8) sc_law_heights.nd rfl (Or.inl rfl)) (fun _ _ _ _ _ => pts_nil) (fun _ _ _ _ _ => by exact pe_dget hu2 (pv 3) (pv 8) (fun _ _ => rfl))) pa_nil))) rfl)))
        (pss_cons (ps_for (passes_of rfl) rfl (pi_list (pv 7)) (pg_name (i := 4) sc_law_heights.nd rfl (.inr rfl))
          (pss_one (ps_expr (pe_bm PySem.F.plainAttrs_dict PySem.F.slot_dict_pop PySem.F.type_dict_pop (mt_popT1 hu2) (pv 2) (pa_cons (pv 4) pa_nil)))))
        (pss_one (ps_if (pt_cmpR (op_eqD hr.units) (pv 7) (pe_lst pa_nil) (nomark _)) (pss_one (ps_ret (pv 3))) pss_nil))))))
      (pss_one (ps_ret (pv 3)))))), ?_⟩
    intro d hd e he
    have s0 := (same_upd (o := .dT []) hd).trans (same_upd (o := .dT []) he)
    have he0 : H e = none := (same_upd (o := .dT []) hd).free he
    have ed : e ≠ d := fun z => by rw [z, upd_same] at he; cases he
    refine ⟨_, rfl, _, rfl, n, m, rfl, hn, by omega, hm, hp, fun H1 q s1 hq L1 => ?_⟩
    obtain ⟨xs, e1, t1⟩ := L1
    have hd1 : H1 d = some (.dT []) := s1 _ _ (by rw [upd_ne (Ne.symm ed)]; exact upd_same)
    have he1 : H1 e = some (.dT []) := s1 _ _ upd_same
    have xl : xs.length = (allR m n).length := t1.len
    have al := allR_len m n
    have nd := allR_nodup m n
    have qd : q ≠ d := fun z => by rw [z, hd1] at e1; cases e1
    have qe : q ≠ e := fun z => by rw [z, he1] at e1; cases e1
    have inR : ∀ r ∈ allR m n, Ring n (m : Int) r := fun r hr => (allR_ring hn2 hm2).mp hr
    have trk : ∀ {H' : Hp}, Same2 d e H1 H' → ∀ r ∈ allR m n, ∃ q, TupG H' q r := fun sx r hr => by
      obtain ⟨i, hi, rfl⟩ := List.getElem_of_mem hr
      obtain ⟨a, _, a2⟩ := TupsG.get t1 (List.getElem?_eq_getElem hi)
      exact ⟨a, a2.kp (sx.kp hd1 he1)⟩
    have out : ∀ {H' : Hp}, Same2 d e H1 H' → Same H H' := fun sx c o ec => by
      have cd : c ≠ d := fun z => by rw [z, hd] at ec; cases ec
      have ce : c ≠ e := fun z => by rw [z, he0] at ec; cases ec
      exact sx _ _ cd ce (s1 _ _ (s0 _ _ ec))
    refine ⟨q, rfl, ⟨_, lstOf e1⟩, for_list (K := K) (a := q) (xs := xs)
      (fun i σ H' => ∃ (y4 y5 : Option V) (kvs : List (List Key × V)), σ = [some (.int (n : Int)), some (.int (m : Int)), some (.ref d), some (.ref e), y4, y5, none, none, none] ∧ Same2 d e H1 H' ∧ H' d = some (.dT kvs) ∧ LeftOk H' (m : Int) kvs (((allR m n).take i).filter fun r => !decide ((able r).length ≤ 1)) ∧
        H' e = some (.dT (ents (zeroF (((allR m n).take i).filter fun r => decide ((able r).length ≤ 1))))))
      ⟨none, none, [], rfl, Same2.refl d e H1, hd1, .nil, he1⟩ (fun i σ H' _ ⟨_, _, _, _, sx, _⟩ => lstOf (sx _ _ qd qe e1)) ?_ ?_⟩
    · rintro i v σ H2 hi ⟨y4, y5, kvs, rfl, sx, hd2, lo, he2⟩
      have hil := (List.getElem?_eq_some_iff.mp hi).1
      have hir : i < (allR m n).length := by omega
      obtain ⟨a, a1, a2⟩ := TupsG.get t1 (List.getElem?_eq_getElem hir)
      rw [hi] at a1
      cases a1
      obtain ⟨r, hr⟩ : ∃ r, r = (allR m n)[i] := ⟨_, rfl⟩
      rw [← hr] at a2
      have rm : r ∈ allR m n := by rw [hr]; exact List.getElem_mem hir
      have R := inR r rm
      have rl := R.len
      have tk : (allR m n).take (i + 1) = (allR m n).take i ++ [r] := by rw [hr]; exact List.take_succ_eq_append_getElem hir
      have nor : r ∉ (allR m n).take i := fun z => by
        have z2 : ((allR m n).take (i + 1)).Nodup := nd.sublist (List.take_sublist _ _)
        rw [tk, List.nodup_append] at z2
        exact z2.2.2 r z r List.mem_cons_self rfl
      have tl : ((allR m n).take i).length ≤ 300 := by
        rw [List.length_take]
        omega
      have a3 := a2.kp (sx.kp hd1 he1)
      refine ⟨_, rfl, a, r, rfl, .inr (tupOf a3), by omega, fun H3 q3 s3 hq3 e3 => ?_⟩
      refine ⟨_, rfl, q3, _, rfl, .inl (lstOf e3), rfl, _, rfl, ?_⟩
      rw [len_N, tk, List.filter_append, List.filter_append]
      have hd3 := s3 _ _ hd2
      have he3 := s3 _ _ he2
      have lo3 := lo.kp (Kp.of s3)
      have a4 := a3.kp (Kp.of s3)
      have sx3 := sx.trans (Same2.of s3)
      have pos := able_pos (r := r) (by omega)
      by_cases c : (able r).length ≤ 1
      · have no : r ∉ (((allR m n).take i).filter fun r => decide ((able r).length ≤ 1)) := fun z => nor (List.mem_filter.mp z).1
        have no2 : ∀ p ∈ zeroF (((allR m n).take i).filter fun r => decide ((able r).length ≤ 1)), p.1 ≠ r := fun p hp e => no (by
          have := List.mem_map_of_mem (f := Prod.fst) hp
          rw [zeroF_fst, e] at this
          exact this)
        have lb : (ents (zeroF (((allR m n).take i).filter fun r => decide ((able r).length ≤ 1)))).length < sizeLine := small1000 (by
          rw [ents_len]
          unfold zeroF
          rw [List.length_map]
          exact Nat.le_trans (List.length_filter_le _ _) (by omega))
        rw [decide_eq_true (show V.int ((able r).length : Int) = V.int 1 from congrArg V.int (by omega))]
        refine iteT ⟨_, rfl, _, rfl, e, _, rfl, DPut.t he3 (k := kR r) (by rw [kR_V]; exact a4) lb, _, _, kvs, rfl, sx3.trans (Same2.put2 _), ?_, ?_, ?_⟩
        · rw [upd_ne (Ne.symm ed)]
          exact hd3
        · rw [List.filter_cons_of_neg (by simp [c]), List.filter_nil, List.append_nil]
          exact lo3.kp (Kp.putD he3 _)
        · rw [upd_same, ents_put no2, List.filter_cons_of_pos (by simp [c]), List.filter_nil, zeroF_snoc]
      · have no : r ∉ (((allR m n).take i).filter fun r => !decide ((able r).length ≤ 1)) := fun z => nor (List.mem_filter.mp z).1
        have lb : kvs.length < sizeLine := small1000 (by
          rw [lo.len]
          exact Nat.le_trans (List.length_filter_le _ _) (by omega))
        have al2 := able_le r
        rw [decide_eq_false (show ¬ V.int ((able r).length : Int) = V.int 1 from fun z => by have := V.int.inj z; omega)]
        refine iteF ⟨_, rfl, q3, rfl, ⟨_, lstOf e3⟩, fun L hL => lc_lG (K := K) (a := q3) (xs := N (able r)) (fun i => HR.moved (m : Int) r ((able r).getD i 0)) hL (by rw [len_N]; omega) (lstOf e3) (fun j x H4 hj s4 Zc hz => ?_) fun H4 ys s4 h4 t4 => ?_⟩
        · obtain ⟨_, km, rfl⟩ := N_get hj
          obtain ⟨k1, k2⟩ := mem_able.mp km
          exact ⟨rfl, _, rfl, _, rfl, _, rfl, a, r, (m : Int), _, rfl, tupOf (a4.kp (Kp.of s4)), k1, by omega, by omega, hz⟩
        · rw [len_N, range_get (fun k => HR.moved (m : Int) r k)] at t4
          have hd4 := s4 _ _ hd3
          refine ⟨_, rfl, _, rfl, d, _, rfl, DPut.t hd4 (k := kR r) (by rw [kR_V]; exact a4.kp (Kp.of s4)) lb, _, _, _, rfl, (sx3.trans (Same2.of s4)).trans (Same2.put1 _), upd_same, ?_, ?_⟩
          · rw [List.filter_cons_of_pos (by simp [c]), List.filter_nil]
            exact LeftOk.put (lo3.kp ((Kp.of s4).trans (Kp.putD hd4 _))) no ((show ListG H4 L (nx (m : Int) r) from ⟨ys, h4, t4⟩).kp (Kp.putD hd4 _))
          · rw [upd_ne ed, List.filter_cons_of_neg (by simp [c]), List.filter_nil, List.append_nil]
            exact s4 _ _ he3
    · rintro σ H2 ⟨y4, y5, kvs, rfl, sx, hd2, lo, he2⟩
      rw [xl, List.take_length] at lo he2
      obtain ⟨W, hW⟩ : ∃ W : Nat → L2.St → Hp → Prop, ∀ μ σ H', W μ σ H' ↔ ∃ (L : List (List Int)) (F : List (List Int × Int)) (kvs : List (List Key × V)) (y4 y5 y7 : Option V), σ = [some (.int (n : Int)), some (.int (m : Int)), some (.ref d), some (.ref e), y4, y5, none, y7, none] ∧
        Same2 d e H1 H' ∧ H' d = some (.dT kvs) ∧ LeftOk H' (m : Int) kvs L ∧ H' e = some (.dT (ents F)) ∧ HI n m L F ∧ μ = L.length := ⟨_, fun _ _ _ => Iff.rfl⟩
      refine ⟨W, ⟨_, (hW _ _ _).mpr ⟨startR n m, zeroF (healR n m), kvs, _, _, _, rfl, sx, hd2, lo, he2, HI.start hn2 hn hm2 hp, rfl⟩⟩, ?_⟩
      intro μ σ H3 hw
      obtain ⟨L, F, kvs, y4, y5, y7, rfl, sx3, hd3, lo3, he3, hi3, hμ⟩ := (hW _ _ _).mp hw
      refine ⟨_, rfl, d, kvs, rfl, hd3, ?_⟩
      have kl := lo3.len
      obtain ⟨L300, F300⟩ := hi3.lens hp
      by_cases c : L = []
      · subst c
        have : kvs = [] := List.length_eq_zero_iff.mp kl
        subst this
        exact iteF ⟨_, rfl, hQ H3 e [] F (out sx3) he0 he3 hi3 rfl (trk sx3)⟩
      · have kne : (!kvs.isEmpty) = true := by
          cases kvs with
          | nil => exact absurd (List.length_eq_zero_iff.mp kl.symm) c
          | cons _ _ => rfl
        rw [kne]
        refine iteT ⟨fun σ' H' => ∃ m', m' < μ ∧ W m' σ' H', fun _ _ h => h, ?_⟩
        refine ⟨d, .dT kvs, hd3, True.intro, fun od => ?_⟩
        obtain ⟨Hk, hHk⟩ : ∃ Hk, Hk = upd H3 d (.frz od (.dT kvs)) := ⟨_, rfl⟩
        rw [← hHk]
        have hdk : Hk d = some (.frz od (.dT kvs)) := by rw [hHk, upd_same]
        have hek : Hk e = some (.dT (ents F)) := by rw [hHk, upd_ne ed]; exact he3
        have lok : LeftOk Hk (m : Int) kvs L := by rw [hHk]; exact lo3.kp (Kp.putD hd3 _)
        obtain ⟨FK, hFK⟩ : ∃ FK, FK = F.map Prod.fst := ⟨_, rfl⟩
        have ring : ∀ r ∈ L, Ring n (m : Int) r := fun r hr => inR r ((hi3.all r).mpr (.inl hr))
        refine ⟨_, rfl, d, od, rfl, .inr ⟨_, hdk, fun Dn hDn => ?_⟩⟩
        have Dd : Dn ≠ d := fun z => by rw [z, hdk] at hDn; cases hDn
        have De : Dn ≠ e := fun z => by rw [z, hek] at hDn; cases hDn
        refine lc_it walk_keysT (fun i Hh => Same Hk Hh ∧ ∃ ys, Hh Dn = some (.lst ys) ∧ ys.length ≤ i ∧ TupsG Hh ys (doneO (m : Int) FK (L.take i))) ⟨same_upd hDn, [], upd_same, Nat.le_refl _, .nil⟩ (fun i Hh _ p => p.1 _ _ hdk) ?_ ?_
        · rintro i v Hh Hh' hi ⟨sm, ys, hy, yl, ty⟩ ⟨rfl, k, vv, b, hkv, rfl, hb⟩
          obtain ⟨r, hr, ek, _⟩ := L2.paired_get lok hkv
          have ek : k = kR r := ek
          have tb : TupG Hh' b r := by
            rw [ek, kR_V] at hb
            exact hb
          have rL : r ∈ L := List.mem_of_getElem? hr
          have R := ring r rL
          have rl := R.len
          have tk : L.take (i + 1) = L.take i ++ [r] := by
            rw [List.take_add_one, hr]
            rfl
          obtain ⟨pw, hpw, lw⟩ := lok.val rL
          obtain ⟨qs, hqs, tqs⟩ := lw.kp (Kp.of sm)
          have ql : qs.length = (nx (m : Int) r).length := tqs.len
          have nl := nx_len (m : Int) r
          have ale := able_le r
          refine ⟨rfl, _, rfl, _, rfl, d, .ref pw, rfl, by rw [← hpw]; exact DGet.rdT (.inr ⟨od, sm _ _ hdk⟩) (by rw [kR_V]; exact tb), pw, rfl, ⟨_, lstOf hqs⟩, fun D2 hD2 => lc_list (K := K) (a := pw) (xs := qs) (tt := tB (tDNotIn (tVar 8) (tVar 3))) (te := tC (.int 1))
            (fun j H4 => Same Hh' H4 ∧ H4 D2 = some (.lst (I (onesO FK ((nx (m : Int) r).take j))))) ⟨same_upd hD2, upd_same⟩ (fun j H4 _ p => lstOf (p.1 _ _ hqs)) ?_ ?_⟩
          · rintro j x H4 hj ⟨s4, h4⟩
            have hjl := (List.getElem?_eq_some_iff.mp hj).1
            have hjn : j < (nx (m : Int) r).length := by omega
            obtain ⟨c, c1, c2⟩ := TupsG.get (tqs.of s4) (List.getElem?_eq_getElem hjn)
            rw [hj] at c1
            cases c1
            obtain ⟨q, hq⟩ : ∃ q, q = (nx (m : Int) r)[j] := ⟨_, rfl⟩
            rw [← hq] at c2
            have tkj : (nx (m : Int) r).take (j + 1) = (nx (m : Int) r).take j ++ [q] := by rw [hq]; exact List.take_succ_eq_append_getElem hjn
            have ol := onesO_len FK ((nx (m : Int) r).take j)
            rw [List.length_take] at ol
            refine ⟨rfl, _, rfl, _, rfl, e, _, rfl, DGet.t (s4 _ _ (sm _ _ hek)) (k := kR q) (by rw [kR_V]; exact c2), _, rfl, ?_⟩
            rw [tkj, onesO_snoc]
            by_cases cq : q ∈ FK
            · rw [ents_some hi3.ndF (vF_mem (by rw [← hFK]; exact cq)), if_pos cq]
              exact iteF ⟨s4, h4⟩
            · rw [ents_none (fun p hp e => cq (by rw [hFK, ← e]; exact List.mem_map_of_mem (f := Prod.fst) hp)), if_neg cq]
              refine iteT ⟨_, h4, small1000 (by rw [len_I]; omega), fun b o eb => ?_, ?_⟩
              · rw [upd_ne (ne_of_none eb hD2)]
                exact s4 _ _ eb
              · rw [upd_same]
                unfold I
                rw [List.map_append]
                rfl
          · rintro H4 ⟨s4, h4⟩
            rw [ql, List.take_length] at h4
            refine ⟨big (by show 0 ≤ 1000; decide), fun q4 hq4 => ⟨D2, q4, onesO FK (nx (m : Int) r), [], rfl, rfl, .inl ⟨lstOf ((same_upd hq4) _ _ h4), lstOf upd_same⟩, _, rfl, ?_⟩⟩
            have s5 := s4.trans (same_upd (o := .lst []) hq4)
            have hy5 := s5 _ _ hy
            have dn : doneO (m : Int) FK (L.take (i + 1)) = doneO (m : Int) FK (L.take i) ++ [r].filter fun r => decide (nfO (m : Int) FK r = []) := by
              rw [tk]
              exact List.filter_append ..
            rw [dn]
            by_cases c : nfO (m : Int) FK r = []
            · rw [decide_eq_true (show onesO FK (nx (m : Int) r) = [] from onesO_nil.mpr c)]
              refine iteT ⟨_, rfl, ys, hy5, small1000 (by omega), fun x o e => ?_, _, upd_same, by rw [List.length_append]; show ys.length + 1 ≤ i + 1; omega, ?_⟩
              · rw [upd_ne (ne_of_none e hDn)]
                exact s5 _ _ (sm _ _ e)
              · rw [List.filter_cons_of_pos (by simp [c]), List.filter_nil]
                exact TupsG.append ((ty.of s5).upd hy5) (.cons ⟨b, rfl, TupG.upd hy5 (s5 _ _ tb)⟩ .nil)
            · rw [decide_eq_false (show ¬ onesO FK (nx (m : Int) r) = [] from fun z => c (onesO_nil.mp z))]
              refine iteF ⟨sm.trans s5, ys, hy5, by omega, ?_⟩
              rw [List.filter_cons_of_neg (by simp [c]), List.filter_nil, List.append_nil]
              exact ty.of s5
        · rintro Hf ⟨sm, ys, hy, yl, ty⟩
          obtain ⟨E, hE⟩ : ∃ E, E = doneO (m : Int) FK L := ⟨_, rfl⟩
          have ty : TupsG Hf ys E := by
            rw [kl, List.take_length, ← hE] at ty
            exact ty
          have hdf := sm _ _ hdk
          refine ⟨hdf, ?_⟩
          obtain ⟨Hu, hHu⟩ : ∃ Hu, Hu = upd Hf d (.dT kvs) := ⟨_, rfl⟩
          rw [← hHu]
          have hdu : Hu d = some (.dT kvs) := by rw [hHu, upd_same]
          have heu : Hu e = some (.dT (ents F)) := by rw [hHu, upd_ne ed]; exact sm _ _ hek
          have hyu : Hu Dn = some (.lst ys) := by rw [hHu, upd_ne Dd]; exact hy
          have kf : Kp Hf Hu := by rw [hHu]; exact Kp.putF hdf _
          have tyu := ty.kp kf
          have lou := (lok.kp (Kp.of sm)).kp kf
          have sxu : Same2 d e H3 Hu := fun c o cd ce ec => by
            rw [hHu, upd_ne cd]
            refine sm _ _ ?_
            rw [hHk, upd_ne cd]
            exact ec
          have yE : ys.length = E.length := tyu.len
          have eN : E.Nodup := by rw [hE]; exact hi3.ndL.sublist List.filter_sublist
          have dm : ∀ r ∈ E, r ∈ L ∧ ∀ q ∈ nx (m : Int) r, q ∈ FK := fun r h => by
            rw [hE] at h
            obtain ⟨h1, h2⟩ := List.mem_filter.mp h
            exact ⟨h1, nfO_nil.mp (by simpa using h2)⟩
          have E300 : E.length ≤ 300 := by
            rw [hE]
            exact Nat.le_trans (List.length_filter_le _ _) L300
          have tkE : ∀ {j : Nat} {r : List Int} (h : j < E.length), r = E[j] → E.take (j + 1) = E.take j ++ [r] ∧ r ∉ E.take j := fun {j r} h hr => by
            have tk : E.take (j + 1) = E.take j ++ [r] := by rw [hr]; exact List.take_succ_eq_append_getElem h
            refine ⟨tk, fun z => ?_⟩
            have z2 : (E.take (j + 1)).Nodup := eN.sublist (List.take_sublist _ _)
            rw [tk, List.nodup_append] at z2
            exact z2.2.2 r z r List.mem_cons_self rfl
          refine ⟨_, rfl, Dn, rfl, ⟨_, lstOf hyu⟩, for_list (K := K) (a := Dn) (xs := ys)
            (fun j σ H' => ∃ (y4 : Option V) (F' : List (List Int × Int)), σ = [some (.int (n : Int)), some (.int (m : Int)), some (.ref d), some (.ref e), y4, y5, none, some (.ref Dn), none] ∧ Same2 d e Hu H' ∧ H' d = some (.dT kvs) ∧ H' e = some (.dT (ents F')) ∧
              F'.map Prod.fst = FK ++ E.take j ∧ (n ≤ m → ∀ p ∈ F', p.2 = ((hgt (m : Int) p.1 : Nat) : Int)))
            ⟨y4, F, rfl, Same2.refl d e Hu, hdu, heu, by rw [List.take_zero, List.append_nil, hFK], hi3.val⟩ (fun j σ H' _ ⟨_, _, _, sx, _⟩ => lstOf (sx _ _ Dd De hyu)) ?_ ?_⟩
          · rintro j v σ H4 hj ⟨y4, F', rfl, sx4, hd4, he4, ef, hv⟩
            have hjl := (List.getElem?_eq_some_iff.mp hj).1
            have hje : j < E.length := by omega
            obtain ⟨b, b1, b2⟩ := TupsG.get tyu (List.getElem?_eq_getElem hje)
            rw [hj] at b1
            cases b1
            obtain ⟨r, hr⟩ : ∃ r, r = E[j] := ⟨_, rfl⟩
            rw [← hr] at b2
            obtain ⟨tk, no⟩ := tkE hje hr
            have rE : r ∈ E := by rw [hr]; exact List.getElem_mem hje
            obtain ⟨rL, rn⟩ := dm r rE
            have k4 : Kp Hu H4 := sx4.kp hdu heu
            have b4 := b2.kp k4
            have R := ring r rL
            have rl := R.len
            have un := hi3.un r rL
            obtain ⟨pw, hpw, lw⟩ := (lou.kp k4).val rL
            obtain ⟨qs, hqs, tqs⟩ := lw
            have ql : qs.length = (nx (m : Int) r).length := tqs.len
            have nl := nx_len (m : Int) r
            have ale := able_le r
            have rF : r ∉ F'.map Prod.fst := fun z => by
              rw [ef, List.mem_append] at z
              rcases z with z | z
              · exact hi3.dis r rL (by rw [← hFK]; exact z)
              · exact no z
            have ndF' : (F'.map Prod.fst).Nodup := by
              rw [ef, List.nodup_append, hFK]
              refine ⟨hi3.ndF, eN.sublist (List.take_sublist _ _), fun a ha b hb ab => ?_⟩
              subst ab
              exact hi3.dis a (dm a (List.mem_of_mem_take hb)).1 ha
            have F'300 : F'.length ≤ 600 := by
              have := congrArg List.length ef
              rw [List.length_map, List.length_append, hFK, List.length_map, List.length_take] at this
              omega
            have inF : ∀ q ∈ nx (m : Int) r, (q, vF F' q) ∈ F' := fun q hq => vF_mem (by rw [ef]; exact List.mem_append_left _ (rn q hq))
            refine ⟨_, rfl, _, rfl, d, .ref pw, rfl, by rw [← hpw]; exact DGet.t hd4 (by rw [kR_V]; exact b4), pw, rfl, ⟨_, lstOf hqs⟩, fun D2 hD2 => lc_list (K := K) (a := pw) (xs := qs) (tt := tYes) (te := tDGet (tVar 3) (tVar 8))
              (fun i H5 => Same H4 H5 ∧ H5 D2 = some (.lst (I (((nx (m : Int) r).take i).map (vF F'))))) ⟨same_upd hD2, upd_same⟩ (fun i H5 _ p => lstOf (p.1 _ _ hqs)) ?_ ?_⟩
            · rintro i x H5 hi ⟨s5, h5⟩
              have hil := (List.getElem?_eq_some_iff.mp hi).1
              have hin : i < (nx (m : Int) r).length := by omega
              obtain ⟨c, c1, c2⟩ := TupsG.get (tqs.of s5) (List.getElem?_eq_getElem hin)
              rw [hi] at c1
              cases c1
              obtain ⟨q, hq⟩ : ∃ q, q = (nx (m : Int) r)[i] := ⟨_, rfl⟩
              rw [← hq] at c2
              have tki : (nx (m : Int) r).take (i + 1) = (nx (m : Int) r).take i ++ [q] := by rw [hq]; exact List.take_succ_eq_append_getElem hin
              have qm : q ∈ nx (m : Int) r := by rw [hq]; exact List.getElem_mem hin
              refine ⟨rfl, _, rfl, _, rfl, e, .int (vF F' q), rfl, by rw [← ents_some ndF' (inF q qm)]; exact DGet.t (s5 _ _ he4) (by rw [kR_V]; exact c2), _, h5, small1000 (by rw [len_I, List.length_map, List.length_take]; omega), fun b o eb => ?_, ?_⟩
              · rw [upd_ne (ne_of_none eb hD2)]
                exact s5 _ _ eb
              · rw [upd_same, tki]
                unfold I
                rw [List.map_append, List.map_append]
                rfl
            · rintro H5 ⟨s5, h5⟩
              rw [ql, List.take_length] at h5
              refine ⟨D2, (nx (m : Int) r).map (vF F'), rfl, lstOf h5, by rw [List.length_map]; omega, fun M hM1 hM2 => ⟨_, _, rfl, rfl, ?_⟩⟩
              refine ⟨_, rfl, _, rfl, e, _, rfl, DPut.t (s5 _ _ he4) (k := kR r) (by rw [kR_V]; exact b4.kp (Kp.of s5)) (small1000 (by rw [ents_len]; omega)), _, F' ++ [(r, 1 + M)], rfl, (sx4.trans (Same2.of s5)).trans (Same2.put2 _), ?_, ?_, ?_, fun hnm p hp' => ?_⟩
              · rw [upd_ne (Ne.symm ed)]
                exact s5 _ _ hd4
              · rw [upd_same, ents_put fun p hp' e => rF (by rw [← e]; exact List.mem_map_of_mem (f := Prod.fst) hp')]
              · rw [List.map_append, ef, tk, List.append_assoc]
                rfl
              · rcases List.mem_append.mp hp' with z | z
                · exact hv hnm p z
                · rw [List.mem_singleton.mp z]
                  show 1 + M = ((hgt (m : Int) r : Nat) : Int)
                  have ev : (nx (m : Int) r).map (vF F') = Z ((nx (m : Int) r).map (hgt (m : Int))) := by
                    unfold Z
                    rw [List.map_map]
                    exact List.map_congr_left fun q hq => hv hnm _ (inF q hq)
                  rw [ev] at hM1 hM2
                  have ne : (nx (m : Int) r).map (hgt (m : Int)) ≠ [] := fun z => by
                    have := congrArg List.length z
                    rw [List.length_map, List.length_nil] at this
                    omega
                  rw [max_is ne hM1 hM2, hgt_next R hn (by omega) un, Int.natCast_add]
                  rfl
          · rintro σ H4 ⟨y4, F', rfl, sx4, hd4, he4, ef, hv⟩
            rw [yE, List.take_length] at ef
            have hy4 := sx4 _ _ Dd De hyu
            have k4 : Kp Hu H4 := sx4.kp hdu heu
            have ty4 := tyu.kp k4
            have lo4 := lou.kp k4
            refine ⟨_, rfl, Dn, rfl, ⟨_, lstOf hy4⟩, for_list (K := K) (a := Dn) (xs := ys)
              (fun j σ H' => ∃ (y4 : Option V) (kvs' : List (List Key × V)), σ = [some (.int (n : Int)), some (.int (m : Int)), some (.ref d), some (.ref e), y4, y5, none, some (.ref Dn), none] ∧ Same2 d e H4 H' ∧ H' d = some (.dT kvs') ∧
                LeftOk H' (m : Int) kvs' (L.filter fun q => !decide (q ∈ E.take j)) ∧ H' e = some (.dT (ents F')))
              ⟨y4, kvs, rfl, Same2.refl d e H4, hd4, by rw [goO_start (m : Int)]; exact lo4, he4⟩ (fun j σ H' _ ⟨_, _, _, sx, _⟩ => lstOf (sx _ _ Dd De hy4)) ?_ ?_⟩
            · rintro j v σ H5 hj ⟨y4, kvs', rfl, sx5, hd5, lo5, he5⟩
              have hjl := (List.getElem?_eq_some_iff.mp hj).1
              have hje : j < E.length := by omega
              obtain ⟨b, b1, b2⟩ := TupsG.get ty4 (List.getElem?_eq_getElem hje)
              rw [hj] at b1
              cases b1
              obtain ⟨r, hr⟩ : ∃ r, r = E[j] := ⟨_, rfl⟩
              rw [← hr] at b2
              obtain ⟨tk, no⟩ := tkE hje hr
              have rE : r ∈ E := by rw [hr]; exact List.getElem_mem hje
              have b5 := b2.kp (sx5.kp hd4 he4)
              have mem : r ∈ L.filter fun q => !decide (q ∈ E.take j) := List.mem_filter.mpr ⟨(dm r rE).1, by simp [no]⟩
              obtain ⟨pw, hpw, _⟩ := lo5.val mem
              refine ⟨_, rfl, .inr (.inr (.inl ⟨rfl, .inr ⟨_, hd5⟩⟩)), _, rfl, d, _, kR r, b, .ref pw, rfl, rfl, hd5, by rw [kR_V]; exact b5, hpw, _, _, rfl, sx5.trans (Same2.put1 _), upd_same, ?_, ?_⟩
              · rw [tk, ← filter_step]
                exact (LeftOk.drop lo5).kp (Kp.putD hd5 _)
              · rw [upd_ne ed]
                exact he5
            · rintro σ H5 ⟨y4, kvs', rfl, sx5, hd5, lo5, he5⟩
              rw [yE, List.take_length] at lo5
              have hy5 := sx5 _ _ Dd De hy4
              have ty5 := ty4.kp (sx5.kp hd4 he4)
              refine ⟨_, rfl, big (by show 0 ≤ 1000; decide), fun q5 hq5 => ?_⟩
              have t5 := same_upd (o := .lst []) hq5
              refine ⟨.list (dRs E), .list (dRs []), .lst (lstOf (t5 _ _ hy5)) (dp_Rs (ty5.of t5)), .lst (lstOf upd_same) .nil, shaped_dRs _, shaped_dRs _, ?_⟩
              refine ⟨_, rfl, ?_⟩
              rw [eqv_nil]
              have sx6 := sx3.trans (sxu.trans (sx4.trans (sx5.trans (Same2.of t5))))
              have eg : (L.filter fun q => !decide (q ∈ E)) = goO (m : Int) FK L := by
                unfold goO
                rw [← hE]
              rw [eg] at lo5
              have hi6 : HI n m (goO (m : Int) FK L) F' := by
                have := hi3.step hp (F' := F') (by rw [ef, hFK, hE, hFK]) hv
                rw [← hFK] at this
                exact this
              by_cases ce : E = []
              · have gL : goO (m : Int) FK L = L := by
                  rw [← eg, ce]
                  exact List.filter_eq_self.mpr fun q _ => by simp
                rw [decide_eq_true ce]
                refine iteT ⟨_, rfl, hQ _ e L F' (out sx6) he0 (t5 _ _ he5) (by rw [← gL]; exact hi6) ?_ (trk sx6)⟩
                rw [ef, ce, List.append_nil, ← hE, ce]
              · rw [decide_eq_false ce]
                have lt : (goO (m : Int) FK L).length < L.length := by
                  obtain ⟨r, hr⟩ := List.exists_mem_of_ne_nil _ ce
                  rw [← eg]
                  exact List.length_filter_lt_length_iff_exists.mpr ⟨r, (dm r hr).1, by simp [hr]⟩
                exact iteF ⟨_, by omega, (hW _ _ _).mpr ⟨goO (m : Int) FK L, F', kvs', _, _, _, rfl, sx6, t5 _ _ hd5, lo5.kp (Kp.of t5), t5 _ _ he5, hi6, rfl⟩⟩
def sp_law_whole : Sp := fun vs H Q _ => ∃ z : Int, vs = [.int z] ∧ Q (.bl true) H
theorem ok_law_whole (D : Df K mg "_law_whole" s_law_whole p_law_whole f fd) (B : Bt mg) : FnOk P w K mg base (L2N.CX P w) 1 f fd p_law_whole sp_law_whole := by
  refine Fun.okN D.F sc_law_whole (fun vs H Q E h => ?_) (fun cdv A outer s H vs Q E hr h => ?_)
  · obtain ⟨z, rfl, _⟩ := h
    rfl
  · obtain ⟨z, rfl, hQ⟩ := h
    refine ⟨_, pss_one (ps_ret (pe_and (pe_callB call_isi (by rfl) B.isinstance (by decide +kernel) (pa_cons (pv 0) (pa_cons (pty (by rfl) B.int b_int) pa_nil)))
      (pe_one (pe_not (pe_callB call_isi (by rfl) B.isinstance (by decide +kernel) (pa_cons (pv 0) (pa_cons (pty (by rfl) B.bool b_bool) pa_nil))))))), ?_⟩
    exact ⟨_, rfl, _, _, _, _, _, rfl, .ty _, ty_I, kt_II, _, rfl, iteT ⟨_, rfl, _, _, _, _, _, rfl, .ty _, ty_I, kt_IB, _, rfl, hQ⟩⟩
def pairs12 (c : Int) : List (List Int) := [[1, 5], [13, 20], [3, 101], [3, 1], [1, 1]] ++ [[12, 100], [9, 2], [4, 5], [2, 18], [13, 5], [3, 7], [-1 - c, 3]]
theorem pairs12_bad (c : Int) : ∃ x y : Int, (pairs12 c)[(c % 12).toNat]? = some [x, y] ∧ (dueL x y ≠ 5 ∨ 300 < y.toNat ^ x.toNat) := by
  have b1 := Int.emod_nonneg c (show (12 : Int) ≠ 0 by decide)
  have b2 := Int.emod_lt_of_pos c (show (0 : Int) < 12 by decide)
  obtain ⟨j, hj⟩ : ∃ j, j = (c % 12).toNat := ⟨_, rfl⟩
  rw [← hj]
  have j12 : j < 12 := by omega
  rcases (show j = 0 ∨ j = 1 ∨ j = 2 ∨ j = 3 ∨ j = 4 ∨ j = 5 ∨ j = 6 ∨ j = 7 ∨ j = 8 ∨ j = 9 ∨ j = 10 ∨ j = 11 by omega) with e | e | e | e | e | e | e | e | e | e | e | e
  · rw [e]; exact ⟨_, _, rfl, .inl (by decide)⟩
  · rw [e]; exact ⟨_, _, rfl, .inl (by decide)⟩
  · rw [e]; exact ⟨_, _, rfl, .inl (by decide)⟩
  · rw [e]; exact ⟨_, _, rfl, .inl (by decide)⟩
  · rw [e]; exact ⟨_, _, rfl, .inl (by decide)⟩
  · rw [e]; exact ⟨_, _, rfl, .inr (Nat.lt_of_lt_of_le (by decide : 300 < 100 ^ 2) (Nat.pow_le_pow_right (by decide) (by decide)))⟩
  · rw [e]; exact ⟨_, _, rfl, .inr (by decide)⟩
  · rw [e]; exact ⟨_, _, rfl, .inr (by decide)⟩
  · rw [e]; exact ⟨_, _, rfl, .inr (by decide)⟩
  · rw [e]; exact ⟨_, _, rfl, .inl (by decide)⟩
  · rw [e]; exact ⟨_, _, rfl, .inr (by decide)⟩
  · have : c % 12 = 11 := by omega
    by_cases z : -1 - c < 2 ∨ 12 < -1 - c
    · refine ⟨-1 - c, 3, by rw [e]; rfl, .inl ?_⟩
      unfold dueL
      rw [if_neg (by omega), if_pos z]
      decide
    · refine ⟨-1 - c, 3, by rw [e]; rfl, .inr ?_⟩
      rw [show -1 - c = 12 by omega]
      decide
theorem sizes12 (c : Int) : ∃ n m : Nat, 2 + c % 7 = (n : Int) ∧ 2 + c / 7 % (greatF (2 + c % 7).toNat - 1) = (m : Int) ∧ 2 ≤ n ∧ n ≤ 8 ∧ 2 ≤ m ∧ m ≤ 17 ∧ m ^ n ≤ 300 := by
  have b1 := Int.emod_nonneg c (show (7 : Int) ≠ 0 by decide)
  have b2 := Int.emod_lt_of_pos c (show (0 : Int) < 7 by decide)
  obtain ⟨n, hn⟩ : ∃ n : Nat, 2 + c % 7 = (n : Int) := ⟨(2 + c % 7).toNat, by omega⟩
  rw [hn, Int.toNat_natCast]
  have key : ∀ (k : Nat) (g : Nat), greatF k = (g : Int) → 2 ≤ g → g ≤ 17 → 2 ≤ k → k ≤ 8 → g ^ k ≤ 300 → n = k → ∃ n' m : Nat, (n : Int) = (n' : Int) ∧ 2 + c / 7 % (greatF n - 1) = (m : Int) ∧ 2 ≤ n' ∧ n' ≤ 8 ∧ 2 ≤ m ∧ m ≤ 17 ∧ m ^ n' ≤ 300 := fun k g hg g2 g17 k2 k8 hp e => by
    subst e
    rw [hg]
    have c1 := Int.emod_nonneg (c / 7) (show (g : Int) - 1 ≠ 0 by omega)
    have c2 := Int.emod_lt_of_pos (c / 7) (show 0 < (g : Int) - 1 by omega)
    refine ⟨n, (2 + c / 7 % ((g : Int) - 1)).toNat, rfl, by omega, k2, k8, by omega, by omega, ?_⟩
    exact Nat.le_trans (Nat.pow_le_pow_left (show (2 + c / 7 % ((g : Int) - 1)).toNat ≤ g by omega) n) hp
  rcases (show n = 2 ∨ n = 3 ∨ n = 4 ∨ n = 5 ∨ n = 6 ∨ n = 7 ∨ n = 8 by omega) with e | e | e | e | e | e | e
  · exact key 2 17 rfl (by decide) (by decide) (by decide) (by decide) (by decide) e
  · exact key 3 6 rfl (by decide) (by decide) (by decide) (by decide) (by decide) e
  · exact key 4 4 rfl (by decide) (by decide) (by decide) (by decide) (by decide) e
  · exact key 5 3 rfl (by decide) (by decide) (by decide) (by decide) (by decide) e
  · exact key 6 2 rfl (by decide) (by decide) (by decide) (by decide) (by decide) e
  · exact key 7 2 rfl (by decide) (by decide) (by decide) (by decide) (by decide) e
  · exact key 8 2 rfl (by decide) (by decide) (by decide) (by decide) (by decide) e
def tl12 : TA := tCons (tTup (tCons (tOp (rI0 fun i j => V.int (i - j)) (tUn (rU fun i => V.int (-i)) (tC (V.int 1))) (tVar 2)) (tCons (tC (V.int 3)) tNil))) tNil
theorem id' {X : Cx} {e : PySem.Expr} (t : TE) (h : PE X e t) : PE X e t := h
def sp_law (K : PySem.W.Frag) : Sp := fun vs H Q _ => ∃ (a : Addr) (ns : List Int), vs = [.ref a] ∧ SqL K H a (I ns) ∧ ∀ H', Q (.bl true) H'
theorem ok_law (D : Df K mg "law" s_law p_law f fd) (B : Bt mg)
    (D1 : Df K mg "_law_cell_at" s_law_cell_at p_law_cell_at f1 fd1) (G1 : FnOk P w K mg base (L2N.CX P w) 1 f1 fd1 p_law_cell_at (sp_law_cell_at K))
    (D2 : Df K mg "_law_due" s_law_due p_law_due f2 fd2) (G2 : FnOk P w K mg base (L2N.CX P w) 1 f2 fd2 p_law_due sp_law_due)
    (D3 : Df K mg "_law_told" s_law_told p_law_told f3 fd3) (G3 : FnOk P w K mg base (L2N.CX P w) 6 f3 fd3 p_law_told (sp_law_told K))
    (D4 : Df K mg "_law_sizes" s_law_sizes p_law_sizes f4 fd4) (G4 : FnOk P w K mg base (L2N.CX P w) 1 f4 fd4 p_law_sizes sp_law_sizes)
    (D5 : Df K mg "_law_heights" s_law_heights p_law_heights f5 fd5) (G5 : FnOk P w K mg base (L2N.CX P w) 2 f5 fd5 p_law_heights sp_law_heights)
    (D6 : Df K mg "_law_able" s_law_able p_law_able f6 fd6) (G6 : FnOk P w K mg base (L2N.CX P w) 1 f6 fd6 p_law_able (sp_law_able K))
    (D7 : Df K mg "_law_step" s_law_step p_law_step f7 fd7) (G7 : FnOk P w K mg base (L2N.CX P w) 1 f7 fd7 p_law_step (sp_moved2 K))
    (D8 : Df K mg "_law_all" s_law_all p_law_all f8 fd8) (G8 : FnOk P w K mg base (L2N.CX P w) 1 f8 fd8 p_law_all sp_all_rings)
    (D9 : Df K mg "_law_whole" s_law_whole p_law_whole f9 fd9) (G9 : FnOk P w K mg base (L2N.CX P w) 1 f9 fd9 p_law_whole sp_law_whole)
    (D10 : Df K mg "gone" s_gone p_gone f10 fd10) (G10 : FnOk P w K mg base (L2N.CX P w) 3 f10 fd10 p_gone (sp_gone K cN cR cM cW)) :
    FnOk P w K mg base (L2N.CX P w) 7 f fd p_law (sp_law K) := by
  refine Fun.okN D.F sc_law (fun vs H Q E h => ?_) (fun cdv A outer s H vs Q E hr h => ?_)
  · obtain ⟨a, ns, rfl, _⟩ := h
    rfl
  · obtain ⟨a, ns, rfl, hS, hQ⟩ := h
    have hr1 : Room 1 _ := hr.mono (by decide)
    have hr2 : Room 2 _ := hr.mono (by decide)
    have hr3 : Room 3 _ := hr.mono (by decide)
    have hu2 := Nat.lt_of_le_of_lt (Nat.add_le_add_left (show 1 ≤ 64 by decide) _) hr.units
    refine ⟨_, pss_cons (ps_set (i := 1) sc_law.nd rfl (.inl rfl) (pe_call G1 hr1 (by rfl) D1.g D1.F.kp D1.b .nil passN (pa_cons (pv 0) (pa_cons pe_int pa_nil))))
      (pss_cons (ps_if (pt_cmpR op_eq (pe_op op_mod (pe_op op_fdiv (pv 1) pe_int) pe_int) pe_int (nomark _))
        (pss_cons (ps_set (i := 2) sc_law.nd rfl (.inl rfl) (pe_op op_fdiv (pv 1) pe_int))
        (pss_cons (ps_set (i := 3) sc_law.nd rfl (.inl rfl) (id' (tLst (aP tNil [(1, 5), (13, 20), (3, 101), (3, 1), (1, 1)])) (pe_lst (pa_cons (pe_tup (pa_cons pe_int (pa_cons pe_int pa_nil))) (pa_cons (pe_tup (pa_cons pe_int (pa_cons pe_int pa_nil))) (pa_cons (pe_tup (pa_cons pe_int (pa_cons pe_int pa_nil))) (pa_cons (pe_tup (pa_cons pe_int (pa_cons pe_int pa_nil))) (pa_cons (pe_tup (pa_cons pe_int (pa_cons pe_int pa_nil))) pa_nil))))))))
        (pss_cons (ps_set (i := 3) sc_law.nd rfl (.inl rfl) (pe_op op_cat (pv 3) (id' (tLst (aP tl12 [(12, 100), (9, 2), (4, 5), (2, 18), (13, 5), (3, 7)])) (pe_lst (pa_cons (pe_tup (pa_cons pe_int (pa_cons pe_int pa_nil))) (pa_cons (pe_tup (pa_cons pe_int (pa_cons pe_int pa_nil))) (pa_cons (pe_tup (pa_cons pe_int (pa_cons pe_int pa_nil))) (pa_cons (pe_tup (pa_cons pe_int (pa_cons pe_int pa_nil))) (pa_cons (pe_tup (pa_cons pe_int (pa_cons pe_int pa_nil))) (pa_cons (pe_tup (pa_cons pe_int (pa_cons pe_int pa_nil))) (pa_cons (pe_tup (pa_cons (pe_op op_sub (pe_un un_neg pe_int) (pv 2)) (pa_cons pe_int pa_nil))) pa_nil)))))))))))
        (pss_cons (ps_asg (pe_ix ix_list (pv 3) (pe_op op_mod (pv 2) pe_int) (fun _ _ => rfl)) (pg_tup rfl (pgs_cons (pg_name (i := 4) sc_law.nd rfl (.inl rfl)) (pgs_cons (pg_name (i := 5) sc_law.nd rfl (.inl rfl)) pgs_nil))))
        (pss_one (ps_ret (pe_cmpR (op_eqI hr.units) (pe_call G3 hr (by rfl) D3.g D3.F.kp D3.b .nil passN (pa_cons (pv 4) (pa_cons (pv 5) pa_nil))) (pe_call G2 hr1 (by rfl) D2.g D2.F.kp D2.b .nil passN (pa_cons (pv 4) (pa_cons (pv 5) pa_nil))) (nomark _)))))))) pss_nil)
      (pss_cons (ps_asg (pe_call G4 hr1 (by rfl) D4.g D4.F.kp D4.b .nil passN (pa_cons (pv 1) pa_nil)) (pg_tup rfl (pgs_cons (pg_name (i := 4) sc_law.nd rfl (.inl rfl)) (pgs_cons (pg_name (i := 5) sc_law.nd rfl (.inl rfl)) pgs_nil))))
      (pss_cons (ps_set (i := 6) sc_law.nd rfl (.inl rfl) (pe_call G5 hr2 (by rfl) D5.g D5.F.kp D5.b .nil passN (pa_cons (pv 4) (pa_cons (pv 5) pa_nil))))
      (pss_cons (ps_set (i := 7) sc_law.nd rfl (.inl rfl) (pe_call G3 hr (by rfl) D3.g D3.F.kp D3.b .nil passN (pa_cons (pv 4) (pa_cons (pv 5) pa_nil))))
      (pss_cons (ps_if (pt_cmpR op_eq (pe_callB call_len_dT (by rfl) B.len PySem.boot_len (pa_cons (pv 6) pa_nil)) (pe_callB call_len_seq (by rfl) B.len PySem.boot_len (pa_cons (pe_call G8 hr1 (by rfl) D8.g D8.F.kp D8.b .nil passN (pa_cons (pv 4) (pa_cons (pv 5) pa_nil))) pa_nil)) (nomark _))
        (pss_one (ps_ret (pe_cmpR op_isN (pv 7) pe_non (nomark _)))) pss_nil)
      (pss_cons (ps_if (PW.pt (pw_or (pt_not (pt_val (pe_callB call_isi (by rfl) B.isinstance (by decide +kernel) (pa_cons (pv 7) (pa_cons (pty (by rfl) B.tuple b_tuple) pa_nil)))))
          (pw_or (pt_cmpR op_ne (pe_callB call_len_seq (by rfl) B.len PySem.boot_len (pa_cons (pv 7) pa_nil)) pe_int (nomark _))
          (pw_or (pt_not (pt_val (pe_callB call_isi (by rfl) B.isinstance (by decide +kernel) (pa_cons (pe_ix ix_tup (pv 7) pe_int (fun _ _ => rfl)) (pa_cons (pty (by rfl) B.list b_list) pa_nil)))))
          (pw_or1 (pt_cmpR (op_eqI hr.units) (pe_ix ix_tup (pv 7) pe_int (fun _ _ => rfl)) (pe_lst pa_nil) (nomark _))))))) (pss_one (ps_ret pe_bl)) pss_nil)
      (pss_cons (ps_if (PW.pt (pw_or (pt_cmpR (op_notInD (room65 hr)) (pe_ix ix_tup (pv 7) pe_int (fun _ _ => rfl)) (pe_call G8 hr1 (by rfl) D8.g D8.F.kp D8.b .nil passN (pa_cons (pv 4) (pa_cons (pv 5) pa_nil))) rfl)
          (pw_or1 (pt_cmpR (op_neI hr.units) (pe_lc (own := [("_law_one", 8)]) (g := gName 8) (tt := tNot (tB (tCall sp_law_whole [] E0 (tCons (tVar 8) tNil)))) (te := tC (.int 1)) rfl sc_law.nd (pi_list (pe_ix ix_tup (pv 7) pe_int (fun _ _ => rfl))) (blkOk_by (N := n_law) (sc := defScope s_law) (by decide +kernel))
            (fun _ _ _ _ _ => pg_name (i := 8) sc_law.nd rfl (Or.inl rfl)) (fun _ _ _ _ _ => by exact pts_one (pt_not (pt_val (pe_call G9 hr1 (by rfl) D9.g D9.F.kp D9.b .nil passN (pa_cons (pv 8) pa_nil))))) (fun _ _ _ _ _ => by exact pe_int)) (pe_lst pa_nil) (nomark _))))) (pss_one (ps_ret pe_bl)) pss_nil)
      (pss_cons (ps_set (i := 9) sc_law.nd rfl (.inl rfl) (pe_ix ix_tup (pv 7) pe_int (fun _ _ => rfl)))
      (pss_cons (ps_for (passes_of rfl) rfl (pi_list (pe_ix ix_tup (pv 7) pe_int (fun _ _ => rfl))) (pg_name (i := 10) sc_law.nd rfl (.inl rfl))
        (pss_cons (ps_if (PW.pt (pw_or (pt_cmpR op_notIn_seq (pv 10) (pe_call G6 hr1 (by rfl) D6.g D6.F.kp D6.b .nil passN (pa_cons (pv 9) pa_nil)) rfl)
            (pw_or1 (pt_cmpR op_eq (pe_callB call_len_seq (by rfl) B.len PySem.boot_len (pa_cons (pe_call G6 hr1 (by rfl) D6.g D6.F.kp D6.b .nil passN (pa_cons (pv 9) pa_nil)) pa_nil)) pe_int (nomark _))))) (pss_one (ps_ret pe_bl)) pss_nil)
        (pss_one (ps_set (i := 9) sc_law.nd rfl (.inl rfl) (pe_call G7 hr1 (by rfl) D7.g D7.F.kp D7.b .nil passN (pa_cons (pv 9) (pa_cons (pv 5) (pa_cons (pv 10) pa_nil))))))))
      (pss_one (ps_ret (pe_and (pe_cmpR (op_eqI hr.units) (pv 9) (pe_ix ix_tup (pv 7) pe_int (fun _ _ => rfl)) (nomark _))
        (pe_one (pe_cmpR (op_eqI hr.units) (pe_ix ix_list (pe_call G10 hr3 (by rfl) D10.g D10.F.kp D10.b .nil passN (pa_cons (pe_ix ix_tup (pv 7) pe_int (fun _ _ => rfl)) (pa_cons (pv 5) (pa_cons (pe_ix ix_tup (pv 7) pe_int (fun _ _ => rfl)) pa_nil)))) (pe_un un_neg pe_int) (fun _ _ => rfl)) (pe_ix ix_tup (pv 7) pe_int (fun _ _ => rfl)) (nomark _))))))))))))))), ?_⟩
    obtain ⟨c, hc⟩ : ∃ c, c = at0 ns 0 := ⟨_, rfl⟩
    refine ⟨_, rfl, a, ns, 0, rfl, hS, ?_⟩
    rw [← hc]
    refine ⟨_, rfl, _, _, rfl, rfl, ⟨by decide, by decide⟩, _, _, rfl, rfl, (by show (0 : Int) < 4; decide), rfl, _, rfl, ite2 (fun _ => ?_) (fun _ => ?_)⟩
    · refine ⟨_, rfl, _, _, rfl, rfl, ⟨by decide, by decide⟩, ?_⟩
      refine aP_ok (u := tNil) _ H _ ?_
      intro H1 xs1 s1 t1
      refine ⟨by rw [List.append_nil, t1.len]; exact big (by show 5 ≤ 1000; decide), fun p1 hp1 => ?_⟩
      rw [List.append_nil]
      have u1 := same_upd (o := .lst xs1) hp1
      refine ⟨_, rfl, ?_⟩
      refine aP_ok (u := tl12) _ _ _ ?_
      intro H3 xs3 s3 t3
      refine ⟨_, rfl, _, rfl, _, _, rfl, rfl, big (by show 2 ≤ 1000; decide), fun t ht => ?_⟩
      have u3 := same_upd (o := .tup [V.int (-1 - c / 800), V.int 3]) ht
      have l1 : xs1.length = 5 := t1.len
      have l3 : xs3.length = 6 := t3.len
      refine ⟨by rw [List.length_append, l3]; exact big (by show 7 ≤ 1000; decide), fun p3 hp3 => ?_⟩
      have u4 := same_upd (o := .lst (xs3 ++ [V.ref t])) hp3
      refine ⟨p1, p3, xs1, xs3 ++ [V.ref t], rfl, rfl, u4 _ _ (u3 _ _ (s3 _ _ upd_same)), upd_same, by rw [List.length_append, l1, l3]; exact big (by show 12 ≤ 1000; decide), fun p5 hp5 => ?_⟩
      have u5 := same_upd (o := .lst (xs1 ++ (xs3 ++ [V.ref t]))) hp5
      have S := s1.trans (u1.trans (s3.trans (u3.trans (u4.trans u5))))
      obtain ⟨H6, hH6⟩ : ∃ H6, H6 = upd (upd (upd H3 t (.tup [V.int (-1 - c / 800), V.int 3])) p3 (.lst (xs3 ++ [V.ref t]))) p5 (.lst (xs1 ++ (xs3 ++ [V.ref t]))) := ⟨_, rfl⟩
      have tt : TupsG H6 (xs1 ++ (xs3 ++ [V.ref t])) (pairs12 (c / 800)) := by
        rw [hH6]
        exact TupsG.append (t1.of (u1.trans (s3.trans (u3.trans (u4.trans u5))))) (TupsG.append (ss := [[-1 - c / 800, 3]]) (t3.of (u3.trans (u4.trans u5))) (.cons ⟨t, rfl, (u4.trans u5) _ _ upd_same⟩ .nil))
      have hp6 : H6 p5 = some (.lst (xs1 ++ (xs3 ++ [V.ref t]))) := by rw [hH6, upd_same]
      have S6 : Same H H6 := by rw [hH6]; exact S
      obtain ⟨x, y, hxy, bad⟩ := pairs12_bad (c / 800)
      obtain ⟨b, b1, b2⟩ := TupsG.get tt hxy
      have m1 := Int.emod_nonneg (c / 800) (show (12 : Int) ≠ 0 by decide)
      have ej : c / 800 % 12 = (((c / 800 % 12).toNat : Nat) : Int) := by omega
      subst hH6
      refine ⟨_, rfl, _, rfl, _, _, rfl, rfl, (by show (0 : Int) < 12; decide), p5, _, _, _, rfl, rfl, lstOf hp6, by rw [ej]; exact atI_nat b1, ?_⟩
      refine ⟨b, _, rfl, tupOf b2, rfl, _, _, rfl, _, _, rfl, rfl, ?_⟩
      refine ⟨_, rfl, _, rfl, x, y, rfl, fun _ H7 p7 s7 e7 => ?_, fun n m en em m1 m2 n1 n2 le => ?_⟩
      · refine ⟨_, rfl, _, rfl, x, y, rfl, fun H8 p8 s8 e8 => ?_⟩
        refine ⟨p7, p8, [dueL x y], [dueL x y], rfl, rfl, .inl ⟨lstOf (s8 _ _ e7), lstOf e8⟩, ?_⟩
        rw [decide_eq_true rfl]
        exact hQ H8
      · exfalso
        rw [en, em] at bad
        rw [Int.toNat_natCast, Int.toNat_natCast] at bad
        rcases bad with z | z
        · unfold dueL at z
          rw [if_neg (by omega), if_neg (by omega)] at z
          exact z rfl
        · omega
    · obtain ⟨n, m, en, em, n2, n8, m2, m17, le⟩ := sizes12 c
      refine ⟨_, rfl, c, rfl, fun H1 t s1 ht => ?_⟩
      rw [em, en] at ht
      refine ⟨t, _, rfl, tupOf ht, rfl, _, _, rfl, _, _, rfl, rfl, ?_⟩
      refine ⟨_, rfl, _, rfl, n, m, rfl, n2, by omega, m2, by omega, le, fun H2 d L0 F s2 hd0 hd2 hi hdone trk => ?_⟩
      have aR : ∀ r ∈ allR m n, Ring n (m : Int) r := fun r hr => (allR_ring n2 m2).mp hr
      have cnt := hi.count n2 (by omega) m2 le hdone
      have alen := allR_len m n
      refine ⟨_, rfl, _, rfl, (n : Int), (m : Int), rfl, fun bad => ?_, fun n' m' en' em' _ _ _ _ _ => ?_⟩
      · exfalso
        rw [Int.toNat_natCast, Int.toNat_natCast] at bad
        rcases bad with z | z
        · unfold dueL at z
          rw [if_neg (by omega), if_neg (by omega)] at z
          exact z rfl
        · omega
      obtain rfl : n = n' := by omega
      obtain rfl : m = m' := by omega
      refine ⟨fun h0 H3 s3 => ?_, fun h1 H3 t3 a3 b3 s3 hb3 ht3 ha3 hl3 => ?_⟩
      · have hd3 := s3 _ _ hd2
        refine ⟨_, rfl, d, _, rfl, hd3, _, rfl, _, rfl, n, m, rfl, by omega, by omega, by omega, le, fun H4 q4 s4 hq4 L4 => ?_⟩
        obtain ⟨xs4, e4, t4⟩ := L4
        refine ⟨q4, _, rfl, .inl (lstOf e4), rfl, _, rfl, ?_⟩
        rw [ents_len, t4.len, decide_eq_true (show V.int (F.length : Int) = V.int ((allR m n).length : Int) by rw [cnt.mpr h0])]
        refine iteT ⟨_, rfl, rfl, ?_⟩
        rw [decide_eq_true rfl]
        exact hQ H4
      · obtain ⟨v1, v2, v3⟩ := never_is le h1
        obtain ⟨l1, l2, l3, l4⟩ := lastR_is le
        have nlen := never_len n m
        have hd3 := s3 _ _ hd2
        refine ⟨_, rfl, d, _, rfl, hd3, _, rfl, _, rfl, n, m, rfl, by omega, by omega, by omega, le, fun H4 q4 s4 hq4 L4 => ?_⟩
        obtain ⟨xs4, e4, t4⟩ := L4
        refine ⟨q4, _, rfl, .inl (lstOf e4), rfl, _, rfl, ?_⟩
        rw [ents_len, t4.len, decide_eq_false (show ¬ V.int (F.length : Int) = V.int ((allR m n).length : Int) from fun z => h1 (cnt.mp (by have := V.int.inj z; omega)))]
        refine iteF ?_
        obtain ⟨r0, hr0⟩ : ∃ r0, r0 = (neverR n m).1 := ⟨_, rfl⟩
        obtain ⟨os, hos⟩ : ∃ os, os = (neverR n m).2 := ⟨_, rfl⟩
        rw [← hr0, ← hos] at v3
        rw [← hr0] at v2 ha3
        rw [← hos] at v1 nlen hl3
        have ht4 := s4 _ _ ht3
        have ha4 := s4 _ _ ha3
        have hl4 := s4 _ _ hl3
        rw [N_Z] at hl4
        have R0 := aR _ (l1 r0 v2).1
        have rl0 := R0.len
        refine ⟨_, rfl, _, _, _, _, _, rfl, .ty _, ty_T (tupOf ht4), kt_TT, _, rfl, iteF ?_⟩
        refine ⟨_, rfl, t3, _, rfl, .inr (tupOf ht4), rfl, _, rfl, iteNS rfl ?_⟩
        refine ⟨_, rfl, t3, _, _, _, rfl, rfl, tupOf ht4, rfl, _, _, _, _, _, rfl, .ty _, ty_L (lstOf hl4), kt_LL, _, rfl, iteF ?_⟩
        refine ⟨_, rfl, t3, _, _, _, rfl, rfl, tupOf ht4, rfl, big (by show 0 ≤ 1000; decide), fun q5 hq5 => ⟨b3, q5, Z os, [], rfl, rfl, .inl ⟨lstOf ((same_upd hq5) _ _ hl4), lstOf upd_same⟩, _, rfl, ?_⟩⟩
        rw [decide_eq_false (show ¬ Z os = [] from fun z => v1 (List.map_eq_nil_iff.mp z))]
        refine iteF ?_
        have s5 := same_upd (o := .lst []) hq5
        obtain ⟨H5, hH5⟩ : ∃ H5, H5 = upd H4 q5 (.lst []) := ⟨_, rfl⟩
        rw [← hH5] at s5 ⊢
        have ht5 := s5 _ _ ht4
        have ha5 := s5 _ _ ha4
        have hl5 := s5 _ _ hl4
        refine ⟨_, rfl, t3, _, _, _, rfl, rfl, tupOf ht5, rfl, _, rfl, _, rfl, n, m, rfl, by omega, by omega, by omega, le, fun H6 q6 s6 hq6 L6 => ?_⟩
        obtain ⟨xs6, e6, t6⟩ := L6
        refine ⟨.tuple (dI r0), dRs (allR m n), dp_T (tupOf (s6 _ _ ha5)), .lst (lstOf e6) (dp_Rs t6), shaped_T _, shaped_dRs _, _, rfl, ?_⟩
        rw [any_dRs, decide_eq_true (l1 r0 v2).1]
        refine iteF ?_
        have ht6 := s6 _ _ ht5
        have ha6 := s6 _ _ ha5
        have hl6 := s6 _ _ hl5
        refine ⟨_, rfl, t3, _, _, _, rfl, rfl, tupOf ht6, rfl, b3, rfl, ⟨_, lstOf hl6⟩, fun D1 hD1 => lc_l0 (K := K) (a := b3) (zs := Z os) (fun _ => false) (fun _ => V.int 1) hD1 (by rw [List.length_map]; omega) (lstOf hl6) (fun z H7 hz s7 Zc MM hy hn => ?_) fun H7 s7 e7 => ?_⟩
        · exact ⟨rfl, _, rfl, z, rfl, _, rfl, iteF (hn rfl H7 (Same.refl H7))⟩
        have ez : ((Z os).filter fun _ => false).map (fun _ => V.int 1) = [] := by
          rw [List.filter_eq_nil_iff.mpr (fun _ _ => Bool.false_ne_true)]
          rfl
        rw [ez] at e7
        refine ⟨big (by show 0 ≤ 1000; decide), fun q8 hq8 => ⟨D1, q8, [], [], rfl, rfl, .inl ⟨lstOf ((same_upd hq8) _ _ e7), lstOf upd_same⟩, _, rfl, ?_⟩⟩
        rw [decide_eq_true rfl]
        refine iteF ?_
        have s8 := s7.trans (same_upd (o := .lst []) hq8)
        obtain ⟨H8, hH8⟩ : ∃ H8, H8 = upd H7 q8 (.lst []) := ⟨_, rfl⟩
        rw [← hH8] at s8 ⊢
        have ht8 := s8 _ _ ht6
        have ha8 := s8 _ _ ha6
        have hl8 := s8 _ _ hl6
        refine ⟨_, rfl, t3, _, _, _, rfl, rfl, tupOf ht8, rfl, ?_⟩
        refine ⟨_, rfl, t3, _, _, _, rfl, rfl, tupOf ht8, rfl, b3, rfl, ⟨_, lstOf hl8⟩, for_list (K := K) (a := b3) (xs := I (Z os))
          (fun i σ H' => ∃ (y10 : Option V) (q : Addr) (r : List Int), σ = [some (.ref a), some (.int c), none, none, some (.int (n : Int)), some (.int (m : Int)), some (.ref d), some (.ref t3), none, some (.ref q), y10] ∧ Same H8 H' ∧ TupG H' q r ∧ r ∈ lastR n m ∧
            Pth (m : Int) (lastR n m) r (os.drop i) r0)
          ⟨none, a3, r0, rfl, Same.refl H8, ha8, v2, v3⟩ (fun i σ H' _ ⟨_, _, _, _, sm, _⟩ => lstOf (sm _ _ hl8)) ?_ ?_⟩
        · rintro i x σ H9 hi ⟨y10, q, r, rfl, sm, tq, rL, pth⟩
          rw [← N_Z] at hi
          obtain ⟨il, _, rfl⟩ := N_get hi
          obtain ⟨k, hk⟩ : ∃ k, k = os.getD i 0 := ⟨_, rfl⟩
          rw [← hk]
          have dr : os.drop i = k :: os.drop (i + 1) := by
            rw [hk, List.getD_eq_getElem?_getD, List.getElem?_eq_getElem il]
            exact List.drop_eq_getElem_cons il
          rw [dr] at pth
          obtain ⟨p1, p2⟩ := pth
          obtain ⟨km, kL⟩ := mem_later.mp p1
          obtain ⟨k1, k2⟩ := mem_able.mp km
          have R := aR r (l1 r rL).1
          have rl := R.len
          have un := (l1 r rL).2
          refine ⟨_, rfl, _, rfl, q, r, rfl, .inr (tupOf tq), by omega, fun H10 p10 s10 hp10 e10 => ?_⟩
          rw [N_Z] at e10
          refine ⟨p10, _, rfl, .inl (lstOf e10), rfl, flat_I _, _, rfl, ?_⟩
          rw [inV_I, if_pos rfl, decide_eq_true (mem_Z.mpr ⟨by omega, by rw [Int.toNat_natCast]; exact km⟩)]
          refine iteF ?_
          refine ⟨_, rfl, q, r, rfl, .inr (tupOf (s10 _ _ tq)), by omega, fun H11 p11 s11 hp11 e11 => ?_⟩
          refine ⟨p11, _, rfl, .inl (lstOf e11), rfl, _, rfl, ?_⟩
          rw [len_N, decide_eq_false (show ¬ V.int ((able r).length : Int) = V.int 1 from fun z => by have := V.int.inj z; omega)]
          refine iteF ?_
          refine ⟨_, rfl, _, rfl, _, rfl, q, r, (m : Int), k, rfl, tupOf (s11 _ _ (s10 _ _ tq)), k1, by omega, by omega, fun H12 p12 s12 h12 => ?_⟩
          exact ⟨_, p12, HR.moved (m : Int) r k, rfl, sm.trans (s10.trans (s11.trans s12)), h12, kL, p2⟩
        · rintro σ H9 ⟨y10, q, r, rfl, sm, tq, rL, pth⟩
          have ol : (I (Z os)).length = os.length := by
            rw [len_I]
            exact List.length_map ..
          rw [ol, List.drop_length] at pth
          have pth : r = r0 := pth
          rw [pth] at tq
          have ht9 := sm _ _ ht8
          have ha9 := sm _ _ ha8
          have hl9 := sm _ _ hl8
          refine ⟨_, rfl, _, rfl, t3, _, _, _, rfl, rfl, tupOf ht9, rfl, q, a3, r0, r0, rfl, rfl, .inr ⟨tupOf tq, tupOf ha9⟩, ?_⟩
          rw [decide_eq_true rfl]
          refine ⟨_, rfl, iteT ?_⟩
          have unr : Un n (m : Int) r0 os r0 := Pth.un (fun r hr => ⟨(aR r (l1 r hr).1).len, (l1 r hr).2⟩) v2 v3
          obtain ⟨rs, g1, g2, g3⟩ := gone_un R0 unr
          have g4 := g3 []
          rw [List.append_nil] at g4
          have g4 : goneA (m : Int) [r0] r0 (Z os) = .ok (rs ++ [r0]) := g4
          refine ⟨_, rfl, t3, _, _, _, rfl, rfl, tupOf ht9, rfl, _, rfl, _, rfl, t3, _, _, _, rfl, rfl, tupOf ht9, rfl, a3, b3, r0, Z os, (m : Int), rfl, tupOf ha9, lstOf hl9, by rw [List.length_map]; omega, Held.of R0 (by omega) (by omega) ⟨fun c H' he => (by rw [g4] at he; cases he), fun rs' H10 p10 hrs s10 hp10 L10 => ?_⟩⟩
          rw [g4] at hrs
          cases hrs
          obtain ⟨xs10, x10, t10⟩ := L10
          have xl : xs10.length = rs.length + 1 := by rw [Tups.len t10, List.length_append]; rfl
          obtain ⟨b1, b2, b4⟩ := Tups.get t10 (i := rs.length) (r := r0) (by rw [List.getElem?_append_right (Nat.le_refl _), Nat.sub_self]; rfl)
          refine ⟨_, rfl, p10, xs10, _, _, rfl, rfl, lstOf x10, atI_neg (by rw [xl, Nat.add_sub_cancel]; exact b2), _, rfl, t3, _, _, _, rfl, rfl, tupOf (s10 _ _ ht9), rfl, b1, a3, r0, r0, rfl, rfl, .inr ⟨b4, tupOf (s10 _ _ ha9)⟩, ?_⟩
          rw [decide_eq_true rfl]
          exact hQ H10
end
end HW
namespace HW
open PySem PySem.Spec PyProof.Rows L2 HR
theorem all_mk {l : PySem.W.OpenLaw} {w : World} {K : PySem.W.Frag} {h : Heap} {mg : Str → Option Value} {fa : Addr} (X : K.In h) (G : h.Ns mainGlobals mg) (hfa : mg "law" = some (.ref fa))
    {f_need_numbers : Addr} {od_need_numbers an_need_numbers : Option Addr} {sl_need_numbers : Array (Option Value)} {oc_need_numbers kV_need_numbers dc_need_numbers pm_need_numbers cd_need_numbers ct_need_numbers : Value}
    {f_need_machines : Addr} {od_need_machines an_need_machines : Option Addr} {sl_need_machines : Array (Option Value)} {oc_need_machines kV_need_machines dc_need_machines pm_need_machines cd_need_machines ct_need_machines : Value}
    {f_need_ring : Addr} {od_need_ring an_need_ring : Option Addr} {sl_need_ring : Array (Option Value)} {oc_need_ring kV_need_ring dc_need_ring pm_need_ring cd_need_ring ct_need_ring : Value}
    {f_may : Addr} {od_may an_may : Option Addr} {sl_may : Array (Option Value)} {oc_may kV_may dc_may pm_may cd_may ct_may : Value}
    {f_able_of : Addr} {od_able_of an_able_of : Option Addr} {sl_able_of : Array (Option Value)} {oc_able_of kV_able_of dc_able_of pm_able_of cd_able_of ct_able_of : Value}
    {f_moved : Addr} {od_moved an_moved : Option Addr} {sl_moved : Array (Option Value)} {oc_moved kV_moved dc_moved pm_moved cd_moved ct_moved : Value}
    {f_step_of : Addr} {od_step_of an_step_of : Option Addr} {sl_step_of : Array (Option Value)} {oc_step_of kV_step_of dc_step_of pm_step_of cd_step_of ct_step_of : Value}
    {f_gone : Addr} {od_gone an_gone : Option Addr} {sl_gone : Array (Option Value)} {oc_gone kV_gone dc_gone pm_gone cd_gone ct_gone : Value}
    {f_all_rings : Addr} {od_all_rings an_all_rings : Option Addr} {sl_all_rings : Array (Option Value)} {oc_all_rings kV_all_rings dc_all_rings pm_all_rings cd_all_rings ct_all_rings : Value}
    {f_need_small : Addr} {od_need_small an_need_small : Option Addr} {sl_need_small : Array (Option Value)} {oc_need_small kV_need_small dc_need_small pm_need_small cd_need_small ct_need_small : Value}
    {f_later_of : Addr} {od_later_of an_later_of : Option Addr} {sl_later_of : Array (Option Value)} {oc_later_of kV_later_of dc_later_of pm_later_of cd_later_of ct_later_of : Value}
    {f_lasting_rings : Addr} {od_lasting_rings an_lasting_rings : Option Addr} {sl_lasting_rings : Array (Option Value)} {oc_lasting_rings kV_lasting_rings dc_lasting_rings pm_lasting_rings cd_lasting_rings ct_lasting_rings : Value}
    {f_never : Addr} {od_never an_never : Option Addr} {sl_never : Array (Option Value)} {oc_never kV_never dc_never pm_never cd_never ct_never : Value}
    {f_law_cell_at : Addr} {od_law_cell_at an_law_cell_at : Option Addr} {sl_law_cell_at : Array (Option Value)} {oc_law_cell_at kV_law_cell_at dc_law_cell_at pm_law_cell_at cd_law_cell_at ct_law_cell_at : Value}
    {f_law_whole : Addr} {od_law_whole an_law_whole : Option Addr} {sl_law_whole : Array (Option Value)} {oc_law_whole kV_law_whole dc_law_whole pm_law_whole cd_law_whole ct_law_whole : Value}
    {f_law_able : Addr} {od_law_able an_law_able : Option Addr} {sl_law_able : Array (Option Value)} {oc_law_able kV_law_able dc_law_able pm_law_able cd_law_able ct_law_able : Value}
    {f_law_step : Addr} {od_law_step an_law_step : Option Addr} {sl_law_step : Array (Option Value)} {oc_law_step kV_law_step dc_law_step pm_law_step cd_law_step ct_law_step : Value}
    {f_law_all : Addr} {od_law_all an_law_all : Option Addr} {sl_law_all : Array (Option Value)} {oc_law_all kV_law_all dc_law_all pm_law_all cd_law_all ct_law_all : Value}
    {f_law_heights : Addr} {od_law_heights an_law_heights : Option Addr} {sl_law_heights : Array (Option Value)} {oc_law_heights kV_law_heights dc_law_heights pm_law_heights cd_law_heights ct_law_heights : Value}
    {f_law_sizes : Addr} {od_law_sizes an_law_sizes : Option Addr} {sl_law_sizes : Array (Option Value)} {oc_law_sizes kV_law_sizes dc_law_sizes pm_law_sizes cd_law_sizes ct_law_sizes : Value}
    {f_law_only : Addr} {od_law_only an_law_only : Option Addr} {sl_law_only : Array (Option Value)} {oc_law_only kV_law_only dc_law_only pm_law_only cd_law_only ct_law_only : Value}
    {f_law_told : Addr} {od_law_told an_law_told : Option Addr} {sl_law_told : Array (Option Value)} {oc_law_told kV_law_told dc_law_told pm_law_told cd_law_told ct_law_told : Value}
    {f_law_due : Addr} {od_law_due an_law_due : Option Addr} {sl_law_due : Array (Option Value)} {oc_law_due kV_law_due dc_law_due pm_law_due cd_law_due ct_law_due : Value}
    {f_law : Addr} {od_law an_law : Option Addr} {sl_law : Array (Option Value)} {oc_law kV_law dc_law pm_law cd_law ct_law : Value}
    {C_HealError : Addr}
    {C_NoNumbers : Addr}
    {C_NoRing : Addr}
    {C_NoMachine : Addr}
    {C_NotNow : Addr}
    {C_NotHealed : Addr}
    {C_TooGreat : Addr}
    {t_LEAST : Tok}
    {t_MOST : Tok}
    {t_MOST_NUMBERS : Tok}
    {t_MOST_RINGS : Tok}
    (a_need_numbers : PySem.W.nsIn K mainGlobals "need_numbers" = some (some (.ref f_need_numbers))) (l_need_numbers : K.lookup f_need_numbers = some ⟨oc_need_numbers, od_need_numbers, .func (PySem.W.fnOf "need_numbers" "need_numbers" (defArgs s_need_numbers) (defBody s_need_numbers) (defScope s_need_numbers) .none kV_need_numbers dc_need_numbers pm_need_numbers an_need_numbers cd_need_numbers ct_need_numbers), sl_need_numbers⟩) (c_need_numbers : PySem.W.codeIn K cd_need_numbers "need_numbers" = true) (k_need_numbers : PySem.W.keepIn K (.ref f_need_numbers) = true)
    (a_need_machines : PySem.W.nsIn K mainGlobals "need_machines" = some (some (.ref f_need_machines))) (l_need_machines : K.lookup f_need_machines = some ⟨oc_need_machines, od_need_machines, .func (PySem.W.fnOf "need_machines" "need_machines" (defArgs s_need_machines) (defBody s_need_machines) (defScope s_need_machines) .none kV_need_machines dc_need_machines pm_need_machines an_need_machines cd_need_machines ct_need_machines), sl_need_machines⟩) (c_need_machines : PySem.W.codeIn K cd_need_machines "need_machines" = true) (k_need_machines : PySem.W.keepIn K (.ref f_need_machines) = true)
    (a_need_ring : PySem.W.nsIn K mainGlobals "need_ring" = some (some (.ref f_need_ring))) (l_need_ring : K.lookup f_need_ring = some ⟨oc_need_ring, od_need_ring, .func (PySem.W.fnOf "need_ring" "need_ring" (defArgs s_need_ring) (defBody s_need_ring) (defScope s_need_ring) .none kV_need_ring dc_need_ring pm_need_ring an_need_ring cd_need_ring ct_need_ring), sl_need_ring⟩) (c_need_ring : PySem.W.codeIn K cd_need_ring "need_ring" = true) (k_need_ring : PySem.W.keepIn K (.ref f_need_ring) = true)
    (a_may : PySem.W.nsIn K mainGlobals "may" = some (some (.ref f_may))) (l_may : K.lookup f_may = some ⟨oc_may, od_may, .func (PySem.W.fnOf "may" "may" (defArgs s_may) (defBody s_may) (defScope s_may) .none kV_may dc_may pm_may an_may cd_may ct_may), sl_may⟩) (c_may : PySem.W.codeIn K cd_may "may" = true) (k_may : PySem.W.keepIn K (.ref f_may) = true)
    (a_able_of : PySem.W.nsIn K mainGlobals "able_of" = some (some (.ref f_able_of))) (l_able_of : K.lookup f_able_of = some ⟨oc_able_of, od_able_of, .func (PySem.W.fnOf "able_of" "able_of" (defArgs s_able_of) (defBody s_able_of) (defScope s_able_of) .none kV_able_of dc_able_of pm_able_of an_able_of cd_able_of ct_able_of), sl_able_of⟩) (c_able_of : PySem.W.codeIn K cd_able_of "able_of" = true) (k_able_of : PySem.W.keepIn K (.ref f_able_of) = true)
    (a_moved : PySem.W.nsIn K mainGlobals "moved" = some (some (.ref f_moved))) (l_moved : K.lookup f_moved = some ⟨oc_moved, od_moved, .func (PySem.W.fnOf "moved" "moved" (defArgs s_moved) (defBody s_moved) (defScope s_moved) .none kV_moved dc_moved pm_moved an_moved cd_moved ct_moved), sl_moved⟩) (c_moved : PySem.W.codeIn K cd_moved "moved" = true) (k_moved : PySem.W.keepIn K (.ref f_moved) = true)
    (a_step_of : PySem.W.nsIn K mainGlobals "step_of" = some (some (.ref f_step_of))) (l_step_of : K.lookup f_step_of = some ⟨oc_step_of, od_step_of, .func (PySem.W.fnOf "step_of" "step_of" (defArgs s_step_of) (defBody s_step_of) (defScope s_step_of) .none kV_step_of dc_step_of pm_step_of an_step_of cd_step_of ct_step_of), sl_step_of⟩) (c_step_of : PySem.W.codeIn K cd_step_of "step_of" = true) (k_step_of : PySem.W.keepIn K (.ref f_step_of) = true)
    (a_gone : PySem.W.nsIn K mainGlobals "gone" = some (some (.ref f_gone))) (l_gone : K.lookup f_gone = some ⟨oc_gone, od_gone, .func (PySem.W.fnOf "gone" "gone" (defArgs s_gone) (defBody s_gone) (defScope s_gone) .none kV_gone dc_gone pm_gone an_gone cd_gone ct_gone), sl_gone⟩) (c_gone : PySem.W.codeIn K cd_gone "gone" = true) (k_gone : PySem.W.keepIn K (.ref f_gone) = true)
    (a_all_rings : PySem.W.nsIn K mainGlobals "all_rings" = some (some (.ref f_all_rings))) (l_all_rings : K.lookup f_all_rings = some ⟨oc_all_rings, od_all_rings, .func (PySem.W.fnOf "all_rings" "all_rings" (defArgs s_all_rings) (defBody s_all_rings) (defScope s_all_rings) .none kV_all_rings dc_all_rings pm_all_rings an_all_rings cd_all_rings ct_all_rings), sl_all_rings⟩) (c_all_rings : PySem.W.codeIn K cd_all_rings "all_rings" = true) (k_all_rings : PySem.W.keepIn K (.ref f_all_rings) = true)
    (a_need_small : PySem.W.nsIn K mainGlobals "need_small" = some (some (.ref f_need_small))) (l_need_small : K.lookup f_need_small = some ⟨oc_need_small, od_need_small, .func (PySem.W.fnOf "need_small" "need_small" (defArgs s_need_small) (defBody s_need_small) (defScope s_need_small) .none kV_need_small dc_need_small pm_need_small an_need_small cd_need_small ct_need_small), sl_need_small⟩) (c_need_small : PySem.W.codeIn K cd_need_small "need_small" = true) (k_need_small : PySem.W.keepIn K (.ref f_need_small) = true)
    (a_later_of : PySem.W.nsIn K mainGlobals "later_of" = some (some (.ref f_later_of))) (l_later_of : K.lookup f_later_of = some ⟨oc_later_of, od_later_of, .func (PySem.W.fnOf "later_of" "later_of" (defArgs s_later_of) (defBody s_later_of) (defScope s_later_of) .none kV_later_of dc_later_of pm_later_of an_later_of cd_later_of ct_later_of), sl_later_of⟩) (c_later_of : PySem.W.codeIn K cd_later_of "later_of" = true) (k_later_of : PySem.W.keepIn K (.ref f_later_of) = true)
    (a_lasting_rings : PySem.W.nsIn K mainGlobals "lasting_rings" = some (some (.ref f_lasting_rings))) (l_lasting_rings : K.lookup f_lasting_rings = some ⟨oc_lasting_rings, od_lasting_rings, .func (PySem.W.fnOf "lasting_rings" "lasting_rings" (defArgs s_lasting_rings) (defBody s_lasting_rings) (defScope s_lasting_rings) .none kV_lasting_rings dc_lasting_rings pm_lasting_rings an_lasting_rings cd_lasting_rings ct_lasting_rings), sl_lasting_rings⟩) (c_lasting_rings : PySem.W.codeIn K cd_lasting_rings "lasting_rings" = true) (k_lasting_rings : PySem.W.keepIn K (.ref f_lasting_rings) = true)
    (a_never : PySem.W.nsIn K mainGlobals "never" = some (some (.ref f_never))) (l_never : K.lookup f_never = some ⟨oc_never, od_never, .func (PySem.W.fnOf "never" "never" (defArgs s_never) (defBody s_never) (defScope s_never) .none kV_never dc_never pm_never an_never cd_never ct_never), sl_never⟩) (c_never : PySem.W.codeIn K cd_never "never" = true) (k_never : PySem.W.keepIn K (.ref f_never) = true)
    (a_law_cell_at : PySem.W.nsIn K mainGlobals "_law_cell_at" = some (some (.ref f_law_cell_at))) (l_law_cell_at : K.lookup f_law_cell_at = some ⟨oc_law_cell_at, od_law_cell_at, .func (PySem.W.fnOf "_law_cell_at" "_law_cell_at" (defArgs s_law_cell_at) (defBody s_law_cell_at) (defScope s_law_cell_at) .none kV_law_cell_at dc_law_cell_at pm_law_cell_at an_law_cell_at cd_law_cell_at ct_law_cell_at), sl_law_cell_at⟩) (c_law_cell_at : PySem.W.codeIn K cd_law_cell_at "_law_cell_at" = true) (k_law_cell_at : PySem.W.keepIn K (.ref f_law_cell_at) = true)
    (a_law_whole : PySem.W.nsIn K mainGlobals "_law_whole" = some (some (.ref f_law_whole))) (l_law_whole : K.lookup f_law_whole = some ⟨oc_law_whole, od_law_whole, .func (PySem.W.fnOf "_law_whole" "_law_whole" (defArgs s_law_whole) (defBody s_law_whole) (defScope s_law_whole) .none kV_law_whole dc_law_whole pm_law_whole an_law_whole cd_law_whole ct_law_whole), sl_law_whole⟩) (c_law_whole : PySem.W.codeIn K cd_law_whole "_law_whole" = true) (k_law_whole : PySem.W.keepIn K (.ref f_law_whole) = true)
    (a_law_able : PySem.W.nsIn K mainGlobals "_law_able" = some (some (.ref f_law_able))) (l_law_able : K.lookup f_law_able = some ⟨oc_law_able, od_law_able, .func (PySem.W.fnOf "_law_able" "_law_able" (defArgs s_law_able) (defBody s_law_able) (defScope s_law_able) .none kV_law_able dc_law_able pm_law_able an_law_able cd_law_able ct_law_able), sl_law_able⟩) (c_law_able : PySem.W.codeIn K cd_law_able "_law_able" = true) (k_law_able : PySem.W.keepIn K (.ref f_law_able) = true)
    (a_law_step : PySem.W.nsIn K mainGlobals "_law_step" = some (some (.ref f_law_step))) (l_law_step : K.lookup f_law_step = some ⟨oc_law_step, od_law_step, .func (PySem.W.fnOf "_law_step" "_law_step" (defArgs s_law_step) (defBody s_law_step) (defScope s_law_step) .none kV_law_step dc_law_step pm_law_step an_law_step cd_law_step ct_law_step), sl_law_step⟩) (c_law_step : PySem.W.codeIn K cd_law_step "_law_step" = true) (k_law_step : PySem.W.keepIn K (.ref f_law_step) = true)
    (a_law_all : PySem.W.nsIn K mainGlobals "_law_all" = some (some (.ref f_law_all))) (l_law_all : K.lookup f_law_all = some ⟨oc_law_all, od_law_all, .func (PySem.W.fnOf "_law_all" "_law_all" (defArgs s_law_all) (defBody s_law_all) (defScope s_law_all) .none kV_law_all dc_law_all pm_law_all an_law_all cd_law_all ct_law_all), sl_law_all⟩) (c_law_all : PySem.W.codeIn K cd_law_all "_law_all" = true) (k_law_all : PySem.W.keepIn K (.ref f_law_all) = true)
    (a_law_heights : PySem.W.nsIn K mainGlobals "_law_heights" = some (some (.ref f_law_heights))) (l_law_heights : K.lookup f_law_heights = some ⟨oc_law_heights, od_law_heights, .func (PySem.W.fnOf "_law_heights" "_law_heights" (defArgs s_law_heights) (defBody s_law_heights) (defScope s_law_heights) .none kV_law_heights dc_law_heights pm_law_heights an_law_heights cd_law_heights ct_law_heights), sl_law_heights⟩) (c_law_heights : PySem.W.codeIn K cd_law_heights "_law_heights" = true) (k_law_heights : PySem.W.keepIn K (.ref f_law_heights) = true)
    (a_law_sizes : PySem.W.nsIn K mainGlobals "_law_sizes" = some (some (.ref f_law_sizes))) (l_law_sizes : K.lookup f_law_sizes = some ⟨oc_law_sizes, od_law_sizes, .func (PySem.W.fnOf "_law_sizes" "_law_sizes" (defArgs s_law_sizes) (defBody s_law_sizes) (defScope s_law_sizes) .none kV_law_sizes dc_law_sizes pm_law_sizes an_law_sizes cd_law_sizes ct_law_sizes), sl_law_sizes⟩) (c_law_sizes : PySem.W.codeIn K cd_law_sizes "_law_sizes" = true) (k_law_sizes : PySem.W.keepIn K (.ref f_law_sizes) = true)
    (a_law_only : PySem.W.nsIn K mainGlobals "_law_only" = some (some (.ref f_law_only))) (l_law_only : K.lookup f_law_only = some ⟨oc_law_only, od_law_only, .func (PySem.W.fnOf "_law_only" "_law_only" (defArgs s_law_only) (defBody s_law_only) (defScope s_law_only) .none kV_law_only dc_law_only pm_law_only an_law_only cd_law_only ct_law_only), sl_law_only⟩) (c_law_only : PySem.W.codeIn K cd_law_only "_law_only" = true) (k_law_only : PySem.W.keepIn K (.ref f_law_only) = true)
    (a_law_told : PySem.W.nsIn K mainGlobals "_law_told" = some (some (.ref f_law_told))) (l_law_told : K.lookup f_law_told = some ⟨oc_law_told, od_law_told, .func (PySem.W.fnOf "_law_told" "_law_told" (defArgs s_law_told) (defBody s_law_told) (defScope s_law_told) .none kV_law_told dc_law_told pm_law_told an_law_told cd_law_told ct_law_told), sl_law_told⟩) (c_law_told : PySem.W.codeIn K cd_law_told "_law_told" = true) (k_law_told : PySem.W.keepIn K (.ref f_law_told) = true)
    (a_law_due : PySem.W.nsIn K mainGlobals "_law_due" = some (some (.ref f_law_due))) (l_law_due : K.lookup f_law_due = some ⟨oc_law_due, od_law_due, .func (PySem.W.fnOf "_law_due" "_law_due" (defArgs s_law_due) (defBody s_law_due) (defScope s_law_due) .none kV_law_due dc_law_due pm_law_due an_law_due cd_law_due ct_law_due), sl_law_due⟩) (c_law_due : PySem.W.codeIn K cd_law_due "_law_due" = true) (k_law_due : PySem.W.keepIn K (.ref f_law_due) = true)
    (a_law : PySem.W.nsIn K mainGlobals "law" = some (some (.ref f_law))) (l_law : K.lookup f_law = some ⟨oc_law, od_law, .func (PySem.W.fnOf "law" "law" (defArgs s_law) (defBody s_law) (defScope s_law) .none kV_law dc_law pm_law an_law cd_law ct_law), sl_law⟩) (c_law : PySem.W.codeIn K cd_law "law" = true) (k_law : PySem.W.keepIn K (.ref f_law) = true)
    (g_HealError : PySem.W.nsIn K mainGlobals "HealError" = some (some (.ref C_HealError))) (x_HealError : PySem.W.excIn K C_HealError [.type "ValueError", .type "Exception", .type "BaseException", .type "object"] "ValueError.__new__" = true) (k_HealError : PySem.W.keepIn K (.ref C_HealError) = true) (b_HealError : PySem.W.subIn K (.ref C_HealError) (.type "BaseException") = some true) (t_HealError : PySem.W.typeIn K (.ref C_HealError) = some (.type "type"))
    (g_NoNumbers : PySem.W.nsIn K mainGlobals "NoNumbers" = some (some (.ref C_NoNumbers))) (x_NoNumbers : PySem.W.excIn K C_NoNumbers [.type "ValueError", .type "Exception", .type "BaseException", .type "object"] "ValueError.__new__" = true) (k_NoNumbers : PySem.W.keepIn K (.ref C_NoNumbers) = true) (b_NoNumbers : PySem.W.subIn K (.ref C_NoNumbers) (.type "BaseException") = some true) (t_NoNumbers : PySem.W.typeIn K (.ref C_NoNumbers) = some (.type "type"))
    (g_NoRing : PySem.W.nsIn K mainGlobals "NoRing" = some (some (.ref C_NoRing))) (x_NoRing : PySem.W.excIn K C_NoRing [.type "ValueError", .type "Exception", .type "BaseException", .type "object"] "ValueError.__new__" = true) (k_NoRing : PySem.W.keepIn K (.ref C_NoRing) = true) (b_NoRing : PySem.W.subIn K (.ref C_NoRing) (.type "BaseException") = some true) (t_NoRing : PySem.W.typeIn K (.ref C_NoRing) = some (.type "type"))
    (g_NoMachine : PySem.W.nsIn K mainGlobals "NoMachine" = some (some (.ref C_NoMachine))) (x_NoMachine : PySem.W.excIn K C_NoMachine [.type "ValueError", .type "Exception", .type "BaseException", .type "object"] "ValueError.__new__" = true) (k_NoMachine : PySem.W.keepIn K (.ref C_NoMachine) = true) (b_NoMachine : PySem.W.subIn K (.ref C_NoMachine) (.type "BaseException") = some true) (t_NoMachine : PySem.W.typeIn K (.ref C_NoMachine) = some (.type "type"))
    (g_NotNow : PySem.W.nsIn K mainGlobals "NotNow" = some (some (.ref C_NotNow))) (x_NotNow : PySem.W.excIn K C_NotNow [.type "ValueError", .type "Exception", .type "BaseException", .type "object"] "ValueError.__new__" = true) (k_NotNow : PySem.W.keepIn K (.ref C_NotNow) = true) (b_NotNow : PySem.W.subIn K (.ref C_NotNow) (.type "BaseException") = some true) (t_NotNow : PySem.W.typeIn K (.ref C_NotNow) = some (.type "type"))
    (g_NotHealed : PySem.W.nsIn K mainGlobals "NotHealed" = some (some (.ref C_NotHealed))) (x_NotHealed : PySem.W.excIn K C_NotHealed [.type "ValueError", .type "Exception", .type "BaseException", .type "object"] "ValueError.__new__" = true) (k_NotHealed : PySem.W.keepIn K (.ref C_NotHealed) = true) (b_NotHealed : PySem.W.subIn K (.ref C_NotHealed) (.type "BaseException") = some true) (t_NotHealed : PySem.W.typeIn K (.ref C_NotHealed) = some (.type "type"))
    (g_TooGreat : PySem.W.nsIn K mainGlobals "TooGreat" = some (some (.ref C_TooGreat))) (x_TooGreat : PySem.W.excIn K C_TooGreat [.type "ValueError", .type "Exception", .type "BaseException", .type "object"] "ValueError.__new__" = true) (k_TooGreat : PySem.W.keepIn K (.ref C_TooGreat) = true) (b_TooGreat : PySem.W.subIn K (.ref C_TooGreat) (.type "BaseException") = some true) (t_TooGreat : PySem.W.typeIn K (.ref C_TooGreat) = some (.type "type"))
    (n_LEAST : PySem.W.nsIn K mainGlobals "LEAST" = some (some (.int 2 t_LEAST)))
    (n_MOST : PySem.W.nsIn K mainGlobals "MOST" = some (some (.int 12 t_MOST)))
    (n_MOST_NUMBERS : PySem.W.nsIn K mainGlobals "MOST_NUMBERS" = some (some (.int 100 t_MOST_NUMBERS)))
    (n_MOST_RINGS : PySem.W.nsIn K mainGlobals "MOST_RINGS" = some (some (.int 300 t_MOST_RINGS)))
    (z_len : PySem.W.nsIn K mainGlobals "len" = some none)
    (z_range : PySem.W.nsIn K mainGlobals "range" = some none)
    (z_min : PySem.W.nsIn K mainGlobals "min" = some none)
    (z_max : PySem.W.nsIn K mainGlobals "max" = some none)
    (z_isinstance : PySem.W.nsIn K mainGlobals "isinstance" = some none)
    (z_int : PySem.W.nsIn K mainGlobals "int" = some none)
    (z_bool : PySem.W.nsIn K mainGlobals "bool" = some none)
    (z_tuple : PySem.W.nsIn K mainGlobals "tuple" = some none)
    (z_list : PySem.W.nsIn K mainGlobals "list" = some none)
    (z_sorted : PySem.W.nsIn K mainGlobals "sorted" = some none)
    (z_abs : PySem.W.nsIn K mainGlobals "abs" = some none)
    (z_ValueError : PySem.W.nsIn K mainGlobals "ValueError" = some none)
    (hn_ : PySem.W.specialIn K (.builtin "object.__class__") "__get__" = some (some (.builtin "getset_descriptor.__get__"))) (ht_ : PySem.W.takesIn K (.builtin "object.__class__") = some true) (hd_HealError : PySem.W.hasDictIn K C_HealError = true)
    (hg_NoNumbers : PySem.W.findIn K (.ref C_NoNumbers) "__getattribute__" = some (some (.builtin "BaseException.__getattribute__"))) (hk_NoNumbers : PySem.W.findIn K (.ref C_NoNumbers) "__getattr__" = some none) (hd_NoNumbers : PySem.W.hasDictIn K C_NoNumbers = true) (ha_NoNumbers : PySem.W.findIn K (.ref C_NoNumbers) "__class__" = some (some (.builtin "object.__class__"))) (hm_NoNumbers : PySem.W.mroIn K C_NoNumbers (.type "object") = some true)
    (i0_NoNumbers : PySem.W.kitOne K (.ref C_NoNumbers) (.ref C_NoNumbers) = some true)
    (i1_NoNumbers : PySem.W.kitOne K (.ref C_NoNumbers) (.ref C_NoRing) = some false)
    (i2_NoNumbers : PySem.W.kitOne K (.ref C_NoNumbers) (.ref C_NoMachine) = some false)
    (i3_NoNumbers : PySem.W.kitOne K (.ref C_NoNumbers) (.ref C_NotNow) = some false)
    (i4_NoNumbers : PySem.W.kitOne K (.ref C_NoNumbers) (.ref C_NotHealed) = some false)
    (i5_NoNumbers : PySem.W.kitOne K (.ref C_NoNumbers) (.ref C_TooGreat) = some false)
    (ih_NoNumbers : PySem.W.kitOne K (.ref C_NoNumbers) (.ref C_HealError) = some true) (iv_NoNumbers : PySem.W.kitOne K (.ref C_NoNumbers) (.type "ValueError") = some true) (se_NoNumbers : PySem.W.subIn K (.ref C_NoNumbers) (.ref C_HealError) = some true)
    (hg_NoRing : PySem.W.findIn K (.ref C_NoRing) "__getattribute__" = some (some (.builtin "BaseException.__getattribute__"))) (hk_NoRing : PySem.W.findIn K (.ref C_NoRing) "__getattr__" = some none) (hd_NoRing : PySem.W.hasDictIn K C_NoRing = true) (ha_NoRing : PySem.W.findIn K (.ref C_NoRing) "__class__" = some (some (.builtin "object.__class__"))) (hm_NoRing : PySem.W.mroIn K C_NoRing (.type "object") = some true)
    (i0_NoRing : PySem.W.kitOne K (.ref C_NoRing) (.ref C_NoNumbers) = some false)
    (i1_NoRing : PySem.W.kitOne K (.ref C_NoRing) (.ref C_NoRing) = some true)
    (i2_NoRing : PySem.W.kitOne K (.ref C_NoRing) (.ref C_NoMachine) = some false)
    (i3_NoRing : PySem.W.kitOne K (.ref C_NoRing) (.ref C_NotNow) = some false)
    (i4_NoRing : PySem.W.kitOne K (.ref C_NoRing) (.ref C_NotHealed) = some false)
    (i5_NoRing : PySem.W.kitOne K (.ref C_NoRing) (.ref C_TooGreat) = some false)
    (ih_NoRing : PySem.W.kitOne K (.ref C_NoRing) (.ref C_HealError) = some true) (iv_NoRing : PySem.W.kitOne K (.ref C_NoRing) (.type "ValueError") = some true) (se_NoRing : PySem.W.subIn K (.ref C_NoRing) (.ref C_HealError) = some true)
    (hg_TooGreat : PySem.W.findIn K (.ref C_TooGreat) "__getattribute__" = some (some (.builtin "BaseException.__getattribute__"))) (hk_TooGreat : PySem.W.findIn K (.ref C_TooGreat) "__getattr__" = some none) (hd_TooGreat : PySem.W.hasDictIn K C_TooGreat = true) (ha_TooGreat : PySem.W.findIn K (.ref C_TooGreat) "__class__" = some (some (.builtin "object.__class__"))) (hm_TooGreat : PySem.W.mroIn K C_TooGreat (.type "object") = some true)
    (i0_TooGreat : PySem.W.kitOne K (.ref C_TooGreat) (.ref C_NoNumbers) = some false)
    (i1_TooGreat : PySem.W.kitOne K (.ref C_TooGreat) (.ref C_NoRing) = some false)
    (i2_TooGreat : PySem.W.kitOne K (.ref C_TooGreat) (.ref C_NoMachine) = some false)
    (i3_TooGreat : PySem.W.kitOne K (.ref C_TooGreat) (.ref C_NotNow) = some false)
    (i4_TooGreat : PySem.W.kitOne K (.ref C_TooGreat) (.ref C_NotHealed) = some false)
    (i5_TooGreat : PySem.W.kitOne K (.ref C_TooGreat) (.ref C_TooGreat) = some true)
    (ih_TooGreat : PySem.W.kitOne K (.ref C_TooGreat) (.ref C_HealError) = some true) (iv_TooGreat : PySem.W.kitOne K (.ref C_TooGreat) (.type "ValueError") = some true) (se_TooGreat : PySem.W.subIn K (.ref C_TooGreat) (.ref C_HealError) = some true) :
    ∃ fd : FuncData, (∀ (s : Shared) (v : Value), BindsTo s fd ⟨[v], []⟩ [("_law_script", v)]) ∧ ∀ base : Heap, K.In base → base.Ns mainGlobals mg → FnOk l.prog w K mg base (L2N.CX l.prog w) 7 fa fd p_law (sp_law K) := by
  have e := hfa.symm.trans (PySem.W.mg_of X G a_law)
  cases e
  have B : Bt mg := ⟨PySem.W.mg_none_of X G z_len, PySem.W.mg_none_of X G z_range, PySem.W.mg_none_of X G z_min, PySem.W.mg_none_of X G z_max, PySem.W.mg_none_of X G z_isinstance, PySem.W.mg_none_of X G z_int, PySem.W.mg_none_of X G z_bool, PySem.W.mg_none_of X G z_tuple, PySem.W.mg_none_of X G z_list, PySem.W.mg_none_of X G z_sorted, PySem.W.mg_none_of X G z_abs, PySem.W.mg_none_of X G z_ValueError⟩
  have CHealError : Cl K mg "HealError" C_HealError := ⟨PySem.W.mg_of X G g_HealError, x_HealError, k_HealError, b_HealError, t_HealError⟩
  have CNoNumbers : Cl K mg "NoNumbers" C_NoNumbers := ⟨PySem.W.mg_of X G g_NoNumbers, x_NoNumbers, k_NoNumbers, b_NoNumbers, t_NoNumbers⟩
  have CNoRing : Cl K mg "NoRing" C_NoRing := ⟨PySem.W.mg_of X G g_NoRing, x_NoRing, k_NoRing, b_NoRing, t_NoRing⟩
  have CNoMachine : Cl K mg "NoMachine" C_NoMachine := ⟨PySem.W.mg_of X G g_NoMachine, x_NoMachine, k_NoMachine, b_NoMachine, t_NoMachine⟩
  have CNotNow : Cl K mg "NotNow" C_NotNow := ⟨PySem.W.mg_of X G g_NotNow, x_NotNow, k_NotNow, b_NotNow, t_NotNow⟩
  have CNotHealed : Cl K mg "NotHealed" C_NotHealed := ⟨PySem.W.mg_of X G g_NotHealed, x_NotHealed, k_NotHealed, b_NotHealed, t_NotHealed⟩
  have CTooGreat : Cl K mg "TooGreat" C_TooGreat := ⟨PySem.W.mg_of X G g_TooGreat, x_TooGreat, k_TooGreat, b_TooGreat, t_TooGreat⟩
  have M : Nums mg := ⟨⟨_, PySem.W.mg_of X G n_LEAST⟩, ⟨_, PySem.W.mg_of X G n_MOST⟩, ⟨_, PySem.W.mg_of X G n_MOST_NUMBERS⟩⟩
  have NLEAST : ∃ t, mg "LEAST" = some (.int 2 t) := ⟨_, PySem.W.mg_of X G n_LEAST⟩
  have NMOST : ∃ t, mg "MOST" = some (.int 12 t) := ⟨_, PySem.W.mg_of X G n_MOST⟩
  have NMOST_NUMBERS : ∃ t, mg "MOST_NUMBERS" = some (.int 100 t) := ⟨_, PySem.W.mg_of X G n_MOST_NUMBERS⟩
  have NMOST_RINGS : ∃ t, mg "MOST_RINGS" = some (.int 300 t) := ⟨_, PySem.W.mg_of X G n_MOST_RINGS⟩
  have F_need_numbers := fun_mk (st := s_need_numbers) l_need_numbers c_need_numbers k_need_numbers
  have D_need_numbers : Df K mg "need_numbers" s_need_numbers p_need_numbers f_need_numbers _ := ⟨F_need_numbers, PySem.W.mg_of X G a_need_numbers, F_need_numbers.binds (ps := p_need_numbers) fun _ _ _ _ _ _ us hl => match us, hl with | [_], _ => rfl⟩
  have F_need_machines := fun_mk (st := s_need_machines) l_need_machines c_need_machines k_need_machines
  have D_need_machines : Df K mg "need_machines" s_need_machines p_need_machines f_need_machines _ := ⟨F_need_machines, PySem.W.mg_of X G a_need_machines, F_need_machines.binds (ps := p_need_machines) fun _ _ _ _ _ _ us hl => match us, hl with | [_], _ => rfl⟩
  have F_need_ring := fun_mk (st := s_need_ring) l_need_ring c_need_ring k_need_ring
  have D_need_ring : Df K mg "need_ring" s_need_ring p_need_ring f_need_ring _ := ⟨F_need_ring, PySem.W.mg_of X G a_need_ring, F_need_ring.binds (ps := p_need_ring) fun _ _ _ _ _ _ us hl => match us, hl with | [_, _], _ => rfl⟩
  have F_may := fun_mk (st := s_may) l_may c_may k_may
  have D_may : Df K mg "may" s_may p_may f_may _ := ⟨F_may, PySem.W.mg_of X G a_may, F_may.binds (ps := p_may) fun _ _ _ _ _ _ us hl => match us, hl with | [_, _], _ => rfl⟩
  have F_able_of := fun_mk (st := s_able_of) l_able_of c_able_of k_able_of
  have D_able_of : Df K mg "able_of" s_able_of p_able_of f_able_of _ := ⟨F_able_of, PySem.W.mg_of X G a_able_of, F_able_of.binds (ps := p_able_of) fun _ _ _ _ _ _ us hl => match us, hl with | [_], _ => rfl⟩
  have F_moved := fun_mk (st := s_moved) l_moved c_moved k_moved
  have D_moved : Df K mg "moved" s_moved p_moved f_moved _ := ⟨F_moved, PySem.W.mg_of X G a_moved, F_moved.binds (ps := p_moved) fun _ _ _ _ _ _ us hl => match us, hl with | [_, _, _], _ => rfl⟩
  have F_step_of := fun_mk (st := s_step_of) l_step_of c_step_of k_step_of
  have D_step_of : Df K mg "step_of" s_step_of p_step_of f_step_of _ := ⟨F_step_of, PySem.W.mg_of X G a_step_of, F_step_of.binds (ps := p_step_of) fun _ _ _ _ _ _ us hl => match us, hl with | [_, _, _], _ => rfl⟩
  have F_gone := fun_mk (st := s_gone) l_gone c_gone k_gone
  have D_gone : Df K mg "gone" s_gone p_gone f_gone _ := ⟨F_gone, PySem.W.mg_of X G a_gone, F_gone.binds (ps := p_gone) fun _ _ _ _ _ _ us hl => match us, hl with | [_, _, _], _ => rfl⟩
  have F_all_rings := fun_mk (st := s_all_rings) l_all_rings c_all_rings k_all_rings
  have D_all_rings : Df K mg "all_rings" s_all_rings p_all_rings f_all_rings _ := ⟨F_all_rings, PySem.W.mg_of X G a_all_rings, F_all_rings.binds (ps := p_all_rings) fun _ _ _ _ _ _ us hl => match us, hl with | [_, _], _ => rfl⟩
  have F_need_small := fun_mk (st := s_need_small) l_need_small c_need_small k_need_small
  have D_need_small : Df K mg "need_small" s_need_small p_need_small f_need_small _ := ⟨F_need_small, PySem.W.mg_of X G a_need_small, F_need_small.binds (ps := p_need_small) fun _ _ _ _ _ _ us hl => match us, hl with | [_, _], _ => rfl⟩
  have F_later_of := fun_mk (st := s_later_of) l_later_of c_later_of k_later_of
  have D_later_of : Df K mg "later_of" s_later_of p_later_of f_later_of _ := ⟨F_later_of, PySem.W.mg_of X G a_later_of, F_later_of.binds (ps := p_later_of) fun _ _ _ _ _ _ us hl => match us, hl with | [_, _, _], _ => rfl⟩
  have F_lasting_rings := fun_mk (st := s_lasting_rings) l_lasting_rings c_lasting_rings k_lasting_rings
  have D_lasting_rings : Df K mg "lasting_rings" s_lasting_rings p_lasting_rings f_lasting_rings _ := ⟨F_lasting_rings, PySem.W.mg_of X G a_lasting_rings, F_lasting_rings.binds (ps := p_lasting_rings) fun _ _ _ _ _ _ us hl => match us, hl with | [_, _], _ => rfl⟩
  have F_never := fun_mk (st := s_never) l_never c_never k_never
  have D_never : Df K mg "never" s_never p_never f_never _ := ⟨F_never, PySem.W.mg_of X G a_never, F_never.binds (ps := p_never) fun _ _ _ _ _ _ us hl => match us, hl with | [_, _], _ => rfl⟩
  have F_law_cell_at := fun_mk (st := s_law_cell_at) l_law_cell_at c_law_cell_at k_law_cell_at
  have D_law_cell_at : Df K mg "_law_cell_at" s_law_cell_at p_law_cell_at f_law_cell_at _ := ⟨F_law_cell_at, PySem.W.mg_of X G a_law_cell_at, F_law_cell_at.binds (ps := p_law_cell_at) fun _ _ _ _ _ _ us hl => match us, hl with | [_, _], _ => rfl⟩
  have F_law_whole := fun_mk (st := s_law_whole) l_law_whole c_law_whole k_law_whole
  have D_law_whole : Df K mg "_law_whole" s_law_whole p_law_whole f_law_whole _ := ⟨F_law_whole, PySem.W.mg_of X G a_law_whole, F_law_whole.binds (ps := p_law_whole) fun _ _ _ _ _ _ us hl => match us, hl with | [_], _ => rfl⟩
  have F_law_able := fun_mk (st := s_law_able) l_law_able c_law_able k_law_able
  have D_law_able : Df K mg "_law_able" s_law_able p_law_able f_law_able _ := ⟨F_law_able, PySem.W.mg_of X G a_law_able, F_law_able.binds (ps := p_law_able) fun _ _ _ _ _ _ us hl => match us, hl with | [_], _ => rfl⟩
  have F_law_step := fun_mk (st := s_law_step) l_law_step c_law_step k_law_step
  have D_law_step : Df K mg "_law_step" s_law_step p_law_step f_law_step _ := ⟨F_law_step, PySem.W.mg_of X G a_law_step, F_law_step.binds (ps := p_law_step) fun _ _ _ _ _ _ us hl => match us, hl with | [_, _, _], _ => rfl⟩
  have F_law_all := fun_mk (st := s_law_all) l_law_all c_law_all k_law_all
  have D_law_all : Df K mg "_law_all" s_law_all p_law_all f_law_all _ := ⟨F_law_all, PySem.W.mg_of X G a_law_all, F_law_all.binds (ps := p_law_all) fun _ _ _ _ _ _ us hl => match us, hl with | [_, _], _ => rfl⟩
  have F_law_heights := fun_mk (st := s_law_heights) l_law_heights c_law_heights k_law_heights
  have D_law_heights : Df K mg "_law_heights" s_law_heights p_law_heights f_law_heights _ := ⟨F_law_heights, PySem.W.mg_of X G a_law_heights, F_law_heights.binds (ps := p_law_heights) fun _ _ _ _ _ _ us hl => match us, hl with | [_, _], _ => rfl⟩
  have F_law_sizes := fun_mk (st := s_law_sizes) l_law_sizes c_law_sizes k_law_sizes
  have D_law_sizes : Df K mg "_law_sizes" s_law_sizes p_law_sizes f_law_sizes _ := ⟨F_law_sizes, PySem.W.mg_of X G a_law_sizes, F_law_sizes.binds (ps := p_law_sizes) fun _ _ _ _ _ _ us hl => match us, hl with | [_], _ => rfl⟩
  have F_law_only := fun_mk (st := s_law_only) l_law_only c_law_only k_law_only
  have D_law_only : Df K mg "_law_only" s_law_only p_law_only f_law_only _ := ⟨F_law_only, PySem.W.mg_of X G a_law_only, F_law_only.binds (ps := p_law_only) fun _ _ _ _ _ _ us hl => match us, hl with | [_, _], _ => rfl⟩
  have F_law_told := fun_mk (st := s_law_told) l_law_told c_law_told k_law_told
  have D_law_told : Df K mg "_law_told" s_law_told p_law_told f_law_told _ := ⟨F_law_told, PySem.W.mg_of X G a_law_told, F_law_told.binds (ps := p_law_told) fun _ _ _ _ _ _ us hl => match us, hl with | [_, _], _ => rfl⟩
  have F_law_due := fun_mk (st := s_law_due) l_law_due c_law_due k_law_due
  have D_law_due : Df K mg "_law_due" s_law_due p_law_due f_law_due _ := ⟨F_law_due, PySem.W.mg_of X G a_law_due, F_law_due.binds (ps := p_law_due) fun _ _ _ _ _ _ us hl => match us, hl with | [_, _], _ => rfl⟩
  have F_law := fun_mk (st := s_law) l_law c_law k_law
  have D_law : Df K mg "law" s_law p_law fa _ := ⟨F_law, PySem.W.mg_of X G a_law, F_law.binds (ps := p_law) fun _ _ _ _ _ _ us hl => match us, hl with | [_], _ => rfl⟩
  have KD_NoNumbers : Kd K [C_NoNumbers, C_NoRing, C_NoMachine, C_NotNow, C_NotHealed, C_TooGreat] C_HealError C_NoNumbers 0 := ⟨⟨hg_NoNumbers, hk_NoNumbers, b_NoNumbers, hd_NoNumbers, ha_NoNumbers, hn_, ht_, hm_NoNumbers⟩, (fun i c h => by
    match i, h with
    | 0, h => cases h; exact i0_NoNumbers
    | 1, h => cases h; exact i1_NoNumbers
    | 2, h => cases h; exact i2_NoNumbers
    | 3, h => cases h; exact i3_NoNumbers
    | 4, h => cases h; exact i4_NoNumbers
    | 5, h => cases h; exact i5_NoNumbers
    | _ + 6, h => cases h), ih_NoNumbers, iv_NoNumbers, PySem.W.exm_ref b_HealError hd_HealError t_HealError se_NoNumbers⟩
  have KD_NoRing : Kd K [C_NoNumbers, C_NoRing, C_NoMachine, C_NotNow, C_NotHealed, C_TooGreat] C_HealError C_NoRing 1 := ⟨⟨hg_NoRing, hk_NoRing, b_NoRing, hd_NoRing, ha_NoRing, hn_, ht_, hm_NoRing⟩, (fun i c h => by
    match i, h with
    | 0, h => cases h; exact i0_NoRing
    | 1, h => cases h; exact i1_NoRing
    | 2, h => cases h; exact i2_NoRing
    | 3, h => cases h; exact i3_NoRing
    | 4, h => cases h; exact i4_NoRing
    | 5, h => cases h; exact i5_NoRing
    | _ + 6, h => cases h), ih_NoRing, iv_NoRing, PySem.W.exm_ref b_HealError hd_HealError t_HealError se_NoRing⟩
  have KD_TooGreat : Kd K [C_NoNumbers, C_NoRing, C_NoMachine, C_NotNow, C_NotHealed, C_TooGreat] C_HealError C_TooGreat 5 := ⟨⟨hg_TooGreat, hk_TooGreat, b_TooGreat, hd_TooGreat, ha_TooGreat, hn_, ht_, hm_TooGreat⟩, (fun i c h => by
    match i, h with
    | 0, h => cases h; exact i0_TooGreat
    | 1, h => cases h; exact i1_TooGreat
    | 2, h => cases h; exact i2_TooGreat
    | 3, h => cases h; exact i3_TooGreat
    | 4, h => cases h; exact i4_TooGreat
    | 5, h => cases h; exact i5_TooGreat
    | _ + 6, h => cases h), ih_TooGreat, iv_TooGreat, PySem.W.exm_ref b_HealError hd_HealError t_HealError se_TooGreat⟩
  refine ⟨PySem.W.fnOf "law" "law" (defArgs s_law) (defBody s_law) (defScope s_law) .none kV_law dc_law pm_law an_law cd_law ct_law, fun s v => .of_eq rfl, fun base _ _ => ?_⟩
  have G_law_cell_at := ok_law_cell_at (P := l.prog) (w := w) (base := base) D_law_cell_at B
  have G_law_due := ok_law_due (P := l.prog) (w := w) (base := base) D_law_due
  have G_need_numbers := ok_need_numbers (P := l.prog) (w := w) (base := base) D_need_numbers NLEAST NMOST_NUMBERS CNoNumbers
  have G_need_machines := ok_need_machines (P := l.prog) (w := w) (base := base) D_need_machines NLEAST NMOST CNoRing
  have G_need_small := ok_need_small (P := l.prog) (w := w) (base := base) D_need_small B NMOST_RINGS CTooGreat
  have G_may := ok_may (P := l.prog) (w := w) (base := base) D_may
  have G_able_of := ok_able_of (P := l.prog) (w := w) (base := base) D_able_of B D_may G_may
  have G_all_rings := ok_all_rings (P := l.prog) (w := w) (base := base) D_all_rings B
  have G_ok_moved2 := ok_moved2 (P := l.prog) (w := w) (base := base) D_moved
  have G_later_of := ok_later_of (P := l.prog) (w := w) (base := base) D_later_of B D_able_of G_able_of D_moved G_ok_moved2
  have G_lasting_rings := ok_lasting_rings (P := l.prog) (w := w) (base := base) D_lasting_rings B D_able_of G_able_of D_all_rings G_all_rings D_later_of G_later_of
  have G_never := ok_never (P := l.prog) (w := w) (base := base) D_never B D_need_numbers G_need_numbers D_need_machines G_need_machines D_need_small G_need_small D_lasting_rings G_lasting_rings D_later_of G_later_of D_moved G_ok_moved2
  have G_law_only := ok_law_only (P := l.prog) (w := w) (base := base) D_law_only B CHealError CNoNumbers CNoRing CNoMachine CNotNow CNotHealed CTooGreat
  have G_law_told := ok_law_told (P := l.prog) (w := w) (base := base) D_law_told B CHealError KD_NoNumbers KD_NoRing KD_TooGreat D_never G_never D_law_only G_law_only
  have G_law_sizes := ok_law_sizes (P := l.prog) (w := w) (base := base) D_law_sizes
  have G_law_all := ok_law_all (P := l.prog) (w := w) (base := base) D_law_all B
  have G_law_able := ok_law_able (P := l.prog) (w := w) (base := base) D_law_able B
  have G_law_step := ok_law_step (P := l.prog) (w := w) (base := base) D_law_step B
  have G_law_heights := ok_law_heights (P := l.prog) (w := w) (base := base) D_law_heights B D_law_all G_law_all D_law_able G_law_able D_law_step G_law_step
  have G_law_whole := ok_law_whole (P := l.prog) (w := w) (base := base) D_law_whole B
  have G_need_ring := ok_need_ring (P := l.prog) (w := w) (base := base) D_need_ring B CNoRing D_need_numbers G_need_numbers D_need_machines G_need_machines
  have G_moved := ok_moved (P := l.prog) (w := w) (base := base) D_moved
  have G_step_of := ok_step_of (P := l.prog) (w := w) (base := base) D_step_of B CNoMachine CNotNow D_may G_may D_moved G_moved
  have G_gone := ok_gone (P := l.prog) (w := w) (base := base) D_gone D_need_ring G_need_ring D_step_of G_step_of
  exact ok_law D_law B D_law_cell_at G_law_cell_at D_law_due G_law_due D_law_told G_law_told D_law_sizes G_law_sizes D_law_heights G_law_heights D_law_able G_law_able D_law_step G_law_step D_law_all G_law_all D_law_whole G_law_whole D_gone G_gone
end HW
open PySem PySem.W PyProof.Rows
set_option maxRecDepth 100000 in
set_option maxHeartbeats 0 in
theorem PySem.Challenge.cw_healring_k12_never_holds : PySem.Challenge.rw_healring_k12_never.Holds := by
  w_on; o_law; k_head; (case hw => w_witness2)
  k_fill
  refine L2.walk_of (l := PySem.Challenge.rw_healring_k12_never) (n := 63) (k := 7) (x := "_law_script") (CX := fun w => L2N.CX (PySem.Challenge.rw_healring_k12_never).prog w) (sp := fun w => HW.sp_law _) rfl (by decide) rfl ⟨rfl, by decide, by decide⟩ (fun w h Y => PySem.W.kIn_of Y) ?F (fun _ _ a ns hl _ hS => ⟨a, ns, rfl, hS, fun _ => rfl⟩) (fun _ _ _ _ _ h => by obtain ⟨_, _, _, _, _, _, _, _, _, _, _, _, z⟩ := h; exact z)
  case F =>
    intro w mg fa h KX G hmg
    refine' HW.all_mk KX G hmg ?a_need_numbers ?l_need_numbers ?c_need_numbers ?k_need_numbers ?a_need_machines ?l_need_machines ?c_need_machines ?k_need_machines ?a_need_ring ?l_need_ring ?c_need_ring ?k_need_ring ?a_may ?l_may ?c_may ?k_may ?a_able_of ?l_able_of ?c_able_of ?k_able_of ?a_moved ?l_moved ?c_moved ?k_moved ?a_step_of ?l_step_of ?c_step_of ?k_step_of ?a_gone ?l_gone ?c_gone ?k_gone ?a_all_rings ?l_all_rings ?c_all_rings ?k_all_rings ?a_need_small ?l_need_small ?c_need_small ?k_need_small ?a_later_of ?l_later_of ?c_later_of ?k_later_of ?a_lasting_rings ?l_lasting_rings ?c_lasting_rings ?k_lasting_rings ?a_never ?l_never ?c_never ?k_never ?a_law_cell_at ?l_law_cell_at ?c_law_cell_at ?k_law_cell_at ?a_law_whole ?l_law_whole ?c_law_whole ?k_law_whole ?a_law_able ?l_law_able ?c_law_able ?k_law_able ?a_law_step ?l_law_step ?c_law_step ?k_law_step ?a_law_all ?l_law_all ?c_law_all ?k_law_all ?a_law_heights ?l_law_heights ?c_law_heights ?k_law_heights ?a_law_sizes ?l_law_sizes ?c_law_sizes ?k_law_sizes ?a_law_only ?l_law_only ?c_law_only ?k_law_only ?a_law_told ?l_law_told ?c_law_told ?k_law_told ?a_law_due ?l_law_due ?c_law_due ?k_law_due ?a_law ?l_law ?c_law ?k_law ?g_HealError ?x_HealError ?k_HealError ?b_HealError ?t_HealError ?g_NoNumbers ?x_NoNumbers ?k_NoNumbers ?b_NoNumbers ?t_NoNumbers ?g_NoRing ?x_NoRing ?k_NoRing ?b_NoRing ?t_NoRing ?g_NoMachine ?x_NoMachine ?k_NoMachine ?b_NoMachine ?t_NoMachine ?g_NotNow ?x_NotNow ?k_NotNow ?b_NotNow ?t_NotNow ?g_NotHealed ?x_NotHealed ?k_NotHealed ?b_NotHealed ?t_NotHealed ?g_TooGreat ?x_TooGreat ?k_TooGreat ?b_TooGreat ?t_TooGreat ?n_LEAST ?n_MOST ?n_MOST_NUMBERS ?n_MOST_RINGS ?z_len ?z_range ?z_min ?z_max ?z_isinstance ?z_int ?z_bool ?z_tuple ?z_list ?z_sorted ?z_abs ?z_ValueError ?hn_ ?ht_ ?hd_HealError ?hg_NoNumbers ?hk_NoNumbers ?hd_NoNumbers ?ha_NoNumbers ?hm_NoNumbers ?i0_NoNumbers ?i1_NoNumbers ?i2_NoNumbers ?i3_NoNumbers ?i4_NoNumbers ?i5_NoNumbers ?ih_NoNumbers ?iv_NoNumbers ?se_NoNumbers ?hg_NoRing ?hk_NoRing ?hd_NoRing ?ha_NoRing ?hm_NoRing ?i0_NoRing ?i1_NoRing ?i2_NoRing ?i3_NoRing ?i4_NoRing ?i5_NoRing ?ih_NoRing ?iv_NoRing ?se_NoRing ?hg_TooGreat ?hk_TooGreat ?hd_TooGreat ?ha_TooGreat ?hm_TooGreat ?i0_TooGreat ?i1_TooGreat ?i2_TooGreat ?i3_TooGreat ?i4_TooGreat ?i5_TooGreat ?ih_TooGreat ?iv_TooGreat ?se_TooGreat
    (case a_need_numbers => k_is)
    (case l_need_numbers => k_is)
    (case c_need_numbers => k_is)
    (case k_need_numbers => k_is)
    (case a_need_machines => k_is)
    (case l_need_machines => k_is)
    (case c_need_machines => k_is)
    (case k_need_machines => k_is)
    (case a_need_ring => k_is)
    (case l_need_ring => k_is)
    (case c_need_ring => k_is)
    (case k_need_ring => k_is)
    (case a_may => k_is)
    (case l_may => k_is)
    (case c_may => k_is)
    (case k_may => k_is)
    (case a_able_of => k_is)
    (case l_able_of => k_is)
    (case c_able_of => k_is)
    (case k_able_of => k_is)
    (case a_moved => k_is)
    (case l_moved => k_is)
    (case c_moved => k_is)
    (case k_moved => k_is)
    (case a_step_of => k_is)
    (case l_step_of => k_is)
    (case c_step_of => k_is)
    (case k_step_of => k_is)
    (case a_gone => k_is)
    (case l_gone => k_is)
    (case c_gone => k_is)
    (case k_gone => k_is)
    (case a_all_rings => k_is)
    (case l_all_rings => k_is)
    (case c_all_rings => k_is)
    (case k_all_rings => k_is)
    (case a_need_small => k_is)
    (case l_need_small => k_is)
    (case c_need_small => k_is)
    (case k_need_small => k_is)
    (case a_later_of => k_is)
    (case l_later_of => k_is)
    (case c_later_of => k_is)
    (case k_later_of => k_is)
    (case a_lasting_rings => k_is)
    (case l_lasting_rings => k_is)
    (case c_lasting_rings => k_is)
    (case k_lasting_rings => k_is)
    (case a_never => k_is)
    (case l_never => k_is)
    (case c_never => k_is)
    (case k_never => k_is)
    (case a_law_cell_at => k_is)
    (case l_law_cell_at => k_is)
    (case c_law_cell_at => k_is)
    (case k_law_cell_at => k_is)
    (case a_law_whole => k_is)
    (case l_law_whole => k_is)
    (case c_law_whole => k_is)
    (case k_law_whole => k_is)
    (case a_law_able => k_is)
    (case l_law_able => k_is)
    (case c_law_able => k_is)
    (case k_law_able => k_is)
    (case a_law_step => k_is)
    (case l_law_step => k_is)
    (case c_law_step => k_is)
    (case k_law_step => k_is)
    (case a_law_all => k_is)
    (case l_law_all => k_is)
    (case c_law_all => k_is)
    (case k_law_all => k_is)
    (case a_law_heights => k_is)
    (case l_law_heights => k_is)
    (case c_law_heights => k_is)
    (case k_law_heights => k_is)
    (case a_law_sizes => k_is)
    (case l_law_sizes => k_is)
    (case c_law_sizes => k_is)
    (case k_law_sizes => k_is)
    (case a_law_only => k_is)
    (case l_law_only => k_is)
    (case c_law_only => k_is)
    (case k_law_only => k_is)
    (case a_law_told => k_is)
    (case l_law_told => k_is)
    (case c_law_told => k_is)
    (case k_law_told => k_is)
    (case a_law_due => k_is)
    (case l_law_due => k_is)
    (case c_law_due => k_is)
    (case k_law_due => k_is)
    (case a_law => k_is)
    (case l_law => k_is)
    (case c_law => k_is)
    (case k_law => k_is)
    (case g_HealError => k_is)
    (case x_HealError => k_exc)
    (case k_HealError => k_is)
    (case b_HealError => k_is)
    (case t_HealError => k_is)
    (case g_NoNumbers => k_is)
    (case x_NoNumbers => k_exc)
    (case k_NoNumbers => k_is)
    (case b_NoNumbers => k_is)
    (case t_NoNumbers => k_is)
    (case g_NoRing => k_is)
    (case x_NoRing => k_exc)
    (case k_NoRing => k_is)
    (case b_NoRing => k_is)
    (case t_NoRing => k_is)
    (case g_NoMachine => k_is)
    (case x_NoMachine => k_exc)
    (case k_NoMachine => k_is)
    (case b_NoMachine => k_is)
    (case t_NoMachine => k_is)
    (case g_NotNow => k_is)
    (case x_NotNow => k_exc)
    (case k_NotNow => k_is)
    (case b_NotNow => k_is)
    (case t_NotNow => k_is)
    (case g_NotHealed => k_is)
    (case x_NotHealed => k_exc)
    (case k_NotHealed => k_is)
    (case b_NotHealed => k_is)
    (case t_NotHealed => k_is)
    (case g_TooGreat => k_is)
    (case x_TooGreat => k_exc)
    (case k_TooGreat => k_is)
    (case b_TooGreat => k_is)
    (case t_TooGreat => k_is)
    (case n_LEAST => k_is)
    (case n_MOST => k_is)
    (case n_MOST_NUMBERS => k_is)
    (case n_MOST_RINGS => k_is)
    (case z_len => k_is)
    (case z_range => k_is)
    (case z_min => k_is)
    (case z_max => k_is)
    (case z_isinstance => k_is)
    (case z_int => k_is)
    (case z_bool => k_is)
    (case z_tuple => k_is)
    (case z_list => k_is)
    (case z_sorted => k_is)
    (case z_abs => k_is)
    (case z_ValueError => k_is)
    (case hn_ => k_is)
    (case ht_ => k_is)
    (case hd_HealError => k_is)
    (case hg_NoNumbers => k_is)
    (case hk_NoNumbers => k_is)
    (case hd_NoNumbers => k_is)
    (case ha_NoNumbers => k_is)
    (case hm_NoNumbers => k_is)
    (case i0_NoNumbers => kit_is)
    (case i1_NoNumbers => kit_is)
    (case i2_NoNumbers => kit_is)
    (case i3_NoNumbers => kit_is)
    (case i4_NoNumbers => kit_is)
    (case i5_NoNumbers => kit_is)
    (case ih_NoNumbers => kit_is)
    (case iv_NoNumbers => kit_is)
    (case se_NoNumbers => k_is)
    (case hg_NoRing => k_is)
    (case hk_NoRing => k_is)
    (case hd_NoRing => k_is)
    (case ha_NoRing => k_is)
    (case hm_NoRing => k_is)
    (case i0_NoRing => kit_is)
    (case i1_NoRing => kit_is)
    (case i2_NoRing => kit_is)
    (case i3_NoRing => kit_is)
    (case i4_NoRing => kit_is)
    (case i5_NoRing => kit_is)
    (case ih_NoRing => kit_is)
    (case iv_NoRing => kit_is)
    (case se_NoRing => k_is)
    (case hg_TooGreat => k_is)
    (case hk_TooGreat => k_is)
    (case hd_TooGreat => k_is)
    (case ha_TooGreat => k_is)
    (case hm_TooGreat => k_is)
    (case i0_TooGreat => kit_is)
    (case i1_TooGreat => kit_is)
    (case i2_TooGreat => kit_is)
    (case i3_TooGreat => kit_is)
    (case i4_TooGreat => kit_is)
    (case i5_TooGreat => kit_is)
    (case ih_TooGreat => kit_is)
    (case iv_TooGreat => kit_is)
    (case se_TooGreat => k_is)
#print axioms PySem.Challenge.cw_healring_k12_never_holds

