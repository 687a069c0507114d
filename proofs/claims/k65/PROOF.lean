import PyProof.Rows.All
import Wide.All
import OpenK.AllK
import Wide.FinOn
import HandS.ForMost
import HandS.Deep
import HandS.SortKw
import HandS.Strs
import HandS.SetFor
import HandS.ExcInit
import HandS.TryMany
import KE.DatumOrd
import HandS.IsInst
import HandS.Zip
import HandS.Dict
import HandS.SortRule
import HandS.Walk
import HandS.Conv
import HandS.ForExc
import HandS.Wide
import HandS.ExcField
import PySem.Challenge.RW_chestbreaks_k65_whole_ten_tastings
set_option Elab.async false
set_option maxRecDepth 100000
/-! The plain law: choices, what a choice finds, the first best choice. -/
namespace Brk

/-! ### lists -/
theorem ext_sorted : ∀ {l₁ l₂ : List Int}, l₁.Pairwise (· < ·) → l₂.Pairwise (· < ·) → (∀ x, x ∈ l₁ ↔ x ∈ l₂) → l₁ = l₂
  | [], [], _, _, _ => rfl
  | [], b :: r, _, _, h => by
    have := (h b).mpr List.mem_cons_self
    cases this
  | a :: r, [], _, _, h => by
    have := (h a).mp List.mem_cons_self
    cases this
  | a :: r, b :: t, h1, h2, h => by
    obtain ⟨ha, hr⟩ := List.pairwise_cons.mp h1
    obtain ⟨hb, ht⟩ := List.pairwise_cons.mp h2
    have e : a = b := by
      rcases List.mem_cons.mp ((h a).mp List.mem_cons_self) with e | m
      · exact e
      · rcases List.mem_cons.mp ((h b).mpr List.mem_cons_self) with e | m'
        · exact e.symm
        · have := hb a m
          have := ha b m'
          omega
    subst e
    congr 1
    refine ext_sorted hr ht fun x => ⟨fun m => ?_, fun m => ?_⟩
    · rcases List.mem_cons.mp ((h x).mp (List.mem_cons_of_mem _ m)) with e | q
      · have := ha x m
        omega
      · exact q
    · rcases List.mem_cons.mp ((h x).mpr (List.mem_cons_of_mem _ m)) with e | q
      · have := hb x m
        omega
      · exact q
theorem lt_of_le_nodup {l : List Int} (h : l.Pairwise (· ≤ ·)) (n : l.Nodup) : l.Pairwise (· < ·) := by
  have n' : l.Pairwise (· ≠ ·) := n
  refine List.Pairwise.imp₂ (fun a b h1 h2 => ?_) h n'
  omega

/-! ### choices -/
def chs : Nat → Nat → Nat → List (List Nat)
  | 0, _, _ => [[]]
  | l + 1, f, m => (List.range' f (m - l - f)).flatMap fun k => (chs l (k + 1) m).map (k :: ·)
def exts : Nat → Nat → Nat → List (List Nat)
  | 0, _, _ => [[]]
  | l + 1, f, m => (List.range' f (m - f)).flatMap fun k => (exts l (k + 1) m).map (k :: ·)
theorem ext_nil : ∀ (l f m : Nat), 0 < l → m < f + l → exts l f m = []
  | 0, _, _, h, _ => absurd h (Nat.lt_irrefl _)
  | l + 1, f, m, _, h => by
    unfold exts
    rw [List.flatMap_eq_nil_iff]
    intro k hk
    have hk' := List.mem_range'_1.mp hk
    rw [ext_nil l (k + 1) m (by omega) (by omega)]
    rfl
theorem ext_chs : ∀ (l f m : Nat), exts l f m = chs l f m
  | 0, _, _ => rfl
  | l + 1, f, m => by
    unfold exts chs
    have e : m - f = (m - l - f) + ((m - f) - (m - l - f)) := by omega
    rw [e, ← List.range'_append_1, List.flatMap_append]
    have h2 : (List.range' (f + (m - l - f)) ((m - f) - (m - l - f))).flatMap (fun k => (exts l (k + 1) m).map (k :: ·)) = [] := by
      rw [List.flatMap_eq_nil_iff]
      intro k hk
      have hk' := List.mem_range'_1.mp hk
      rw [ext_nil l (k + 1) m (by omega) (by omega)]
      rfl
    rw [h2, List.append_nil]
    congr 1
    funext k
    rw [ext_chs l (k + 1) m]
structure Choice (l f m : Nat) (c : List Nat) : Prop where
  len : c.length = l
  up : c.Pairwise (· < ·)
  ge : ∀ k ∈ c, f ≤ k
  lt : ∀ k ∈ c, k < m
theorem chs_choice : ∀ {l f m : Nat} {c : List Nat}, c ∈ chs l f m → Choice l f m c
  | 0, f, m, c, h => by
    have e : c = [] := by simpa [chs] using h
    subst e
    exact ⟨rfl, List.Pairwise.nil, by simp, by simp⟩
  | l + 1, f, m, c, h => by
    unfold chs at h
    obtain ⟨k, hk, hc⟩ := List.mem_flatMap.mp h
    obtain ⟨d, hd, rfl⟩ := List.mem_map.mp hc
    have hk' := List.mem_range'_1.mp hk
    have ih := chs_choice hd
    refine ⟨by rw [List.length_cons, ih.len], List.pairwise_cons.mpr ⟨fun x hx => by have := ih.ge x hx; omega, ih.up⟩, fun x hx => ?_, fun x hx => ?_⟩
    · rcases List.mem_cons.mp hx with e | hx
      · omega
      · have := ih.ge x hx
        omega
    · rcases List.mem_cons.mp hx with e | hx
      · omega
      · exact ih.lt x hx
theorem range_pow (g : Nat → Nat) : ∀ (n f m : Nat), f + n ≤ m → (∀ k, f ≤ k → k < f + n → g k ≤ 2 ^ (m - (k + 1))) → ((List.range' f n).map g).sum ≤ 2 ^ (m - f) - 2 ^ (m - f - n)
  | 0, f, m, _, _ => by simp
  | n + 1, f, m, h, hg => by
    rw [List.range'_succ, List.map_cons, List.sum_cons]
    have h1 := hg f (Nat.le_refl _) (by omega)
    have h2 := range_pow g n (f + 1) m (by omega) fun k a b => hg k (by omega) (by omega)
    have e1 : m - f = (m - (f + 1)) + 1 := by omega
    have e2 : m - (f + 1) - n = m - f - (n + 1) := by omega
    have e3 : 2 ^ (m - f) = 2 * 2 ^ (m - (f + 1)) := by rw [e1, Nat.pow_succ]; omega
    rw [e2] at h2
    have h3 : 2 ^ (m - f - (n + 1)) ≤ 2 ^ (m - (f + 1)) := Nat.pow_le_pow_right (by decide) (by omega)
    omega
theorem chs_len : ∀ (l f m : Nat), (chs l f m).length ≤ 2 ^ (m - f)
  | 0, f, m => by
    show 1 ≤ _
    exact Nat.one_le_two_pow
  | l + 1, f, m => by
    unfold chs
    rw [List.length_flatMap]
    simp only [List.length_map]
    by_cases h : f ≤ m - l
    · refine Nat.le_trans (range_pow (fun k => (chs l (k + 1) m).length) (m - l - f) f m (by omega) fun k _ _ => chs_len l (k + 1) m) (Nat.sub_le _ _)
    · have e : m - l - f = 0 := by omega
      rw [e]
      simp
theorem chs_all : ∀ (l f : Nat), List.range' f l ∈ chs l f (f + l)
  | 0, f => by simp [chs]
  | l + 1, f => by
    unfold chs
    refine List.mem_flatMap.mpr ⟨f, List.mem_range'_1.mpr ⟨Nat.le_refl _, by omega⟩, List.mem_map.mpr ⟨List.range' (f + 1) l, ?_, ?_⟩⟩
    · have := chs_all l (f + 1)
      have e : f + 1 + l = f + (l + 1) := by omega
      rw [e] at this
      exact this
    · rw [List.range'_succ]
/-- the law's own way: one number more behind -/
def nxt : Nat → List Nat → Nat
  | f, [] => f
  | _, k :: c => nxt (k + 1) c
def growF (f m : Nat) (c : List Nat) : List (List Nat) := (List.range' (nxt f c) (m - nxt f c)).map fun k => c ++ [k]
theorem growF_cons (f m k : Nat) (c : List Nat) : growF f m (k :: c) = (growF (k + 1) m c).map (k :: ·) := by
  unfold growF
  rw [List.map_map]
  rfl
theorem ext_grow : ∀ (l f m : Nat), exts (l + 1) f m = (exts l f m).flatMap (growF f m)
  | 0, f, m => by
    show (List.range' f (m - f)).flatMap (fun k => ([[]] : List (List Nat)).map (k :: ·)) = ([[]] : List (List Nat)).flatMap (growF f m)
    rw [List.flatMap_cons, List.flatMap_nil, List.append_nil]
    show _ = (List.range' f (m - f)).map fun k => [k]
    rw [List.map_eq_flatMap]
    rfl
  | l + 1, f, m => by
    have e1 : exts (l + 1 + 1) f m = (List.range' f (m - f)).flatMap fun k => (exts (l + 1) (k + 1) m).map (k :: ·) := rfl
    have e2 : exts (l + 1) f m = (List.range' f (m - f)).flatMap fun k => (exts l (k + 1) m).map (k :: ·) := rfl
    rw [e1, e2, List.flatMap_assoc]
    congr 1
    funext k
    rw [ext_grow l (k + 1) m, List.map_flatMap, List.flatMap_map]
    congr 1
    funext c
    rw [growF_cons]
def lch (m : Nat) : Nat → List (List Nat)
  | 0 => [[]]
  | l + 1 => (lch m l).flatMap (growF 0 m)
theorem lch_chs (m : Nat) : ∀ l, lch m l = chs l 0 m
  | 0 => rfl
  | l + 1 => by
    show (lch m l).flatMap (growF 0 m) = _
    rw [lch_chs m l, ← ext_chs, ← ext_chs, ext_grow]
theorem nxt_of : ∀ (c : List Nat) (f : Nat) (z : Nat), c.Pairwise (· < ·) → z ∈ c → (∀ k ∈ c, k ≤ z) → nxt f c = z + 1
  | [], _, _, _, h, _ => by cases h
  | [k], _, z, _, h, _ => by
    have e : z = k := by simpa using h
    rw [e]
    rfl
  | k :: j :: c, f, z, hp, h, hm => by
    show nxt (k + 1) (j :: c) = z + 1
    obtain ⟨h1, h2⟩ := List.pairwise_cons.mp hp
    refine nxt_of (j :: c) (k + 1) z h2 ?_ fun x hx => hm x (List.mem_cons_of_mem _ hx)
    rcases List.mem_cons.mp h with e | h
    · have a := h1 j List.mem_cons_self
      have b := hm j (List.mem_cons_of_mem _ List.mem_cons_self)
      omega
    · exact h

/-! ### what a choice finds -/
def Mask (m : List Int) : Prop := m.Pairwise (· < ·) ∧ ∀ j ∈ m, 0 ≤ j ∧ j < 11
def Masks (ms : List (List Int)) : Prop := 1 ≤ ms.length ∧ ms.length ≤ 10 ∧ ∀ m ∈ ms, Mask m
def elv : List Int := [0, 1, 2, 3, 4, 5, 6, 7, 8, 9, 10]
theorem mem_elv {j : Int} : j ∈ elv ↔ 0 ≤ j ∧ j < 11 := by
  simp only [elv, List.mem_cons, List.not_mem_nil, or_false]
  omega
def uni (ms : List (List Int)) (c : List Nat) : List Int := elv.filter fun j => c.any fun k => decide (j ∈ ms.getD k [])
theorem uni_up (ms : List (List Int)) (c : List Nat) : (uni ms c).Pairwise (· < ·) := List.Pairwise.filter _ (by decide)
theorem mem_uni {ms : List (List Int)} (hM : Masks ms) {c : List Nat} {j : Int} : j ∈ uni ms c ↔ ∃ k ∈ c, j ∈ ms.getD k [] := by
  unfold uni
  rw [List.mem_filter, List.any_eq_true, mem_elv]
  constructor
  · rintro ⟨_, k, hk, h⟩
    exact ⟨k, hk, of_decide_eq_true h⟩
  · rintro ⟨k, hk, h⟩
    refine ⟨?_, k, hk, decide_eq_true h⟩
    rw [List.getD_eq_getElem?_getD] at h
    cases e : ms[k]? with
    | none =>
      rw [e] at h
      cases h
    | some m =>
      rw [e] at h
      exact (hM.2.2 m (List.mem_of_getElem? e)).2 j h
theorem uni_elv {ms : List (List Int)} {c : List Nat} {j : Int} (h : j ∈ uni ms c) : 0 ≤ j ∧ j < 11 := mem_elv.mp (List.mem_filter.mp h).1
theorem uni_len (ms : List (List Int)) (c : List Nat) : (uni ms c).length ≤ 11 := List.length_filter_le _ _
def allOf (ms : List (List Int)) : List Nat := List.range' 0 ms.length
theorem uni_sub {ms : List (List Int)} (hM : Masks ms) {c : List Nat} (hc : ∀ k ∈ c, k < ms.length) {j : Int} (h : j ∈ uni ms c) : j ∈ uni ms (allOf ms) := by
  obtain ⟨k, hk, hj⟩ := (mem_uni hM).mp h
  exact (mem_uni hM).mpr ⟨k, List.mem_range'_1.mpr ⟨Nat.zero_le _, by have := hc k hk; omega⟩, hj⟩
def cov (ms : List (List Int)) (c : List Nat) : Prop := uni ms c = uni ms (allOf ms)
instance (ms : List (List Int)) (c : List Nat) : Decidable (cov ms c) := inferInstanceAs (Decidable (_ = _))
def lack (ms : List (List Int)) (c : List Nat) : Option Int := (uni ms (allOf ms)).find? fun j => decide (j ∉ uni ms c)
def lk (ms : List (List Int)) (c : List Nat) : Int := (lack ms c).getD 0
theorem cov_of {ms : List (List Int)} (hM : Masks ms) {c : List Nat} (hc : ∀ k ∈ c, k < ms.length) (h : ∀ j ∈ uni ms (allOf ms), j ∈ uni ms c) : cov ms c :=
  ext_sorted (uni_up _ _) (uni_up _ _) fun x => ⟨uni_sub hM hc, h x⟩
theorem lk_of {ms : List (List Int)} (hM : Masks ms) {c : List Nat} (hc : ∀ k ∈ c, k < ms.length) (h : ¬ cov ms c) : lk ms c ∈ uni ms (allOf ms) ∧ lk ms c ∉ uni ms c := by
  unfold lk lack
  cases e : (uni ms (allOf ms)).find? fun j => decide (j ∉ uni ms c) with
  | none =>
    have q := List.find?_eq_none.mp e
    refine absurd (cov_of hM hc fun j hj => ?_) h
    have := q j hj
    simpa using this
  | some j =>
    have h1 := List.mem_of_find?_eq_some e
    have h2 := List.find?_some e
    exact ⟨h1, of_decide_eq_true h2⟩
/-- the first in order of as few as find all -/
structure Best (ms : List (List Int)) (s : Nat) (c : List Nat) : Prop where
  fewer : ∀ s' < s, ∀ d ∈ chs s' 0 ms.length, ¬ cov ms d
  le : s ≤ ms.length
  here : ∃ i : Nat, (chs s 0 ms.length)[i]? = some c ∧ cov ms c ∧ ∀ j < i, ∀ d, (chs s 0 ms.length)[j]? = some d → ¬ cov ms d
theorem Best.uniq {ms : List (List Int)} {s s' : Nat} {c c' : List Nat} (a : Best ms s c) (b : Best ms s' c') : s = s' ∧ c = c' := by
  obtain ⟨i, hi, hc, hb⟩ := a.here
  obtain ⟨i', hi', hc', hb'⟩ := b.here
  have e : s = s' := by
    rcases Nat.lt_trichotomy s s' with h | h | h
    · exact absurd hc (b.fewer s h c (List.mem_of_getElem? hi))
    · exact h
    · exact absurd hc' (a.fewer s' h c' (List.mem_of_getElem? hi'))
  subst e
  refine ⟨rfl, ?_⟩
  have e : i = i' := by
    rcases Nat.lt_trichotomy i i' with h | h | h
    · exact absurd hc (hb' i h c hi)
    · exact h
    · exact absurd hc' (hb i' h c' hi')
  subst e
  rw [hi] at hi'
  exact Option.some.inj hi'
theorem not_none {ms : List (List Int)} (h : ∀ s' < ms.length + 1, ∀ d ∈ chs s' 0 ms.length, ¬ cov ms d) : False := by
  have z := chs_all ms.length 0
  rw [Nat.zero_add] at z
  exact h ms.length (Nat.lt_succ_self _) _ z rfl
theorem Best.choice {ms : List (List Int)} {s : Nat} {c : List Nat} (a : Best ms s c) : Choice s 0 ms.length c := by
  obtain ⟨i, hi, _⟩ := a.here
  exact chs_choice (List.mem_of_getElem? hi)
end Brk
/-! Facts of the shapes: lengths, bounds. -/
namespace Brk
theorem len_range : ∀ (l : List Int) (a : Int) (n : Nat), l.Pairwise (· < ·) → (∀ x ∈ l, a ≤ x ∧ x < a + n) → l.length ≤ n
  | [], _, _, _, _ => Nat.zero_le _
  | x :: r, a, n, h, hb => by
    obtain ⟨h1, h2⟩ := List.pairwise_cons.mp h
    have hx := hb x List.mem_cons_self
    have ih := len_range r (a + 1) (n - 1) h2 fun y hy => by
      have q1 := h1 y hy
      have q2 := hb y (List.mem_cons_of_mem _ hy)
      omega
    rw [List.length_cons]
    omega
theorem len_nodup {l : List Int} {a : Int} {n : Nat} (hn : l.Nodup) (hb : ∀ x ∈ l, a ≤ x ∧ x < a + n) : l.length ≤ n := by
  have hp : (l.mergeSort).Perm l := List.mergeSort_perm l _
  have hs : (l.mergeSort).Pairwise (· ≤ ·) := (List.pairwise_mergeSort (le := fun a b : Int => decide (a ≤ b)) (fun a b c h1 h2 => by
    have := of_decide_eq_true h1
    have := of_decide_eq_true h2
    exact decide_eq_true (by omega)) (fun a b => by
    by_cases h : a ≤ b
    · simp [h]
    · have : b ≤ a := by omega
      simp [this]) l).imp fun h => of_decide_eq_true h
  have hlt := lt_of_le_nodup hs (hp.nodup_iff.mpr hn)
  have := len_range _ a n hlt fun x hx => hb x (hp.mem_iff.mp hx)
  rw [← hp.length_eq]
  exact this
theorem Mask.len {m : List Int} (h : Mask m) : m.length ≤ 11 := len_range m 0 11 h.1 fun x hx => by
  have := h.2 x hx
  omega
theorem nxt_le {m : Nat} : ∀ (c : List Nat) (f : Nat), (∀ k ∈ c, k < m) → f ≤ m → nxt f c ≤ m
  | [], _, _, hf => hf
  | k :: c, _, h, _ => nxt_le c (k + 1) (fun x hx => h x (List.mem_cons_of_mem _ hx)) (h k List.mem_cons_self)
end Brk
/-! Data in the heap, what is new since a heap. -/
namespace Brk
open PySem L2

/-! ### data: monotone -/
theorem Rd.same {H H' : Hp} (e : Same H H') {a : Addr} {u : HO} (h : Rd H a u) : Rd H' a u := by
  rcases h with h | ⟨o, h⟩
  · exact .inl (e _ _ h)
  · exact .inr ⟨o, e _ _ h⟩
theorem SqL.same {K : PySem.W.Frag} {H H' : Hp} (e : Same H H') {a : Addr} {xs : List V} (h : SqL K H a xs) : SqL K H' a xs := e.seq h
theorem SqT.same {K : PySem.W.Frag} {H H' : Hp} (e : Same H H') {a : Addr} {xs : List V} (h : SqT K H a xs) : SqT K H' a xs := by
  rcases h with h | h
  · exact .inl (Rd.same e h)
  · exact .inr h
mutual
theorem Dp.same {K : PySem.W.Frag} {H H' : Hp} (e : Same H H') : ∀ (d : PyData) {v : V}, Dp K H v d → Dp K H' v d
  | .none, _, h => by cases h; exact .non
  | .bool b, _, h => by cases h; exact .bl b
  | .int i, _, h => by cases h; exact .int i
  | .str x, _, h => by cases h; exact .str x
  | .list ds, _, h => by
    cases h with
    | lst hs ha => exact .lst (SqL.same e hs) (DpAll.same e ds ha)
  | .tuple ds, _, h => by
    cases h with
    | tup hs ha => exact .tup (SqT.same e hs) (DpAll.same e ds ha)
  | .dict _, _, h => by cases h
theorem DpAll.same {K : PySem.W.Frag} {H H' : Hp} (e : Same H H') : ∀ (ds : List PyData) {vs : List V}, DpAll K H vs ds → DpAll K H' vs ds
  | [], _, h => by cases h; exact .nil
  | d :: ds, _, h => by
    cases h with
    | cons h1 h2 => exact .cons (Dp.same e d h1) (DpAll.same e ds h2)
end
section
variable {K : PySem.W.Frag} {H H' H'' H0 : Hp} {v : V} {vs ws : List V} {d : PyData} {ds es : List PyData}
theorem Dp.lst_inv (h : Dp K H v (.list ds)) : ∃ a xs, v = .ref a ∧ SqL K H a xs ∧ DpAll K H xs ds := by
  cases h with
  | lst hs ha => exact ⟨_, _, rfl, hs, ha⟩
theorem Dp.tup_inv (h : Dp K H v (.tuple ds)) : ∃ a xs, v = .ref a ∧ SqT K H a xs ∧ DpAll K H xs ds := by
  cases h with
  | tup hs ha => exact ⟨_, _, rfl, hs, ha⟩
theorem DpAll.length : ∀ {vs : List V} {ds : List PyData}, DpAll K H vs ds → vs.length = ds.length
  | _, _, .nil => rfl
  | _, _, .cons _ t => by rw [List.length_cons, List.length_cons, DpAll.length t]
theorem DpAll.append : ∀ {vs : List V} {ds : List PyData}, DpAll K H vs ds → DpAll K H ws es → DpAll K H (vs ++ ws) (ds ++ es)
  | _, _, .nil, h => h
  | _, _, .cons a t, h => .cons a (DpAll.append t h)
theorem DpAll.snoc (h : DpAll K H vs ds) (q : Dp K H v d) : DpAll K H (vs ++ [v]) (ds ++ [d]) := DpAll.append h (.cons q .nil)
theorem DpAll.at : ∀ {vs : List V} {ds : List PyData} {i : Nat} {x : V}, DpAll K H vs ds → vs[i]? = some x → ∃ d, ds[i]? = some d ∧ Dp K H x d
  | _, _, _, _, .nil, e => by simp at e
  | _, _, 0, _, .cons a _, e => by
    have e' := Option.some.inj (by simpa using e)
    subst e'
    exact ⟨_, rfl, a⟩
  | _, _, i + 1, _, .cons _ t, e => by
    obtain ⟨d, h1, h2⟩ := DpAll.at (i := i) t (by simpa using e)
    exact ⟨d, by simpa using h1, h2⟩
theorem DpAll.of : ∀ {vs : List V} {ds : List PyData} {i : Nat} {d : PyData}, DpAll K H vs ds → ds[i]? = some d → ∃ x, vs[i]? = some x ∧ Dp K H x d
  | _, _, _, _, .nil, e => by simp at e
  | _, _, 0, _, .cons a _, e => by
    have e' := Option.some.inj (by simpa using e)
    subst e'
    exact ⟨_, rfl, a⟩
  | _, _, i + 1, _, .cons _ t, e => by
    obtain ⟨x, h1, h2⟩ := DpAll.of (i := i) t (by simpa using e)
    exact ⟨x, by simpa using h1, h2⟩
theorem DpAll.take : ∀ {vs : List V} {ds : List PyData} (n : Nat), DpAll K H vs ds → DpAll K H (vs.take n) (ds.take n)
  | _, _, 0, _ => .nil
  | _, _, _ + 1, .nil => .nil
  | _, _, n + 1, .cons a t => .cons a (DpAll.take n t)
theorem DpAll.ints : ∀ {vs : List V} {ns : List Int}, DpAll K H vs (ns.map PyData.int) → vs = ns.map V.int
  | _, [], h => by cases h; rfl
  | _, n :: ns, h => by
    cases h with
    | cons a t =>
      cases a
      rw [DpAll.ints t]
      rfl
theorem DpAll.of_ints : ∀ (ns : List Int), DpAll K H (ns.map V.int) (ns.map PyData.int)
  | [] => .nil
  | n :: ns => .cons (.int n) (DpAll.of_ints ns)

/-! ### what is new -/
/-- the objects of H' that H has not -/
def fr (H H' : Hp) : Hp := fun b => if (H b).isNone then H' b else none
theorem fr_some {b : Addr} {o : HO} : fr H H' b = some o ↔ H b = none ∧ H' b = some o := by
  unfold fr
  cases e : H b with
  | none => simp
  | some x => simp
theorem fr_same : Same (fr H H') H' := fun _ _ e => (fr_some.mp e).2
theorem fr_left (h : ∀ b, H b = none → H0 b = none) : Same (fr H H') (fr H0 H') := fun b _ e => fr_some.mpr ⟨h b (fr_some.mp e).1, (fr_some.mp e).2⟩
theorem fr_right (h : ∀ b o, H b = none → H' b = some o → H'' b = some o) : Same (fr H H') (fr H H'') := fun b o e => fr_some.mpr ⟨(fr_some.mp e).1, h b o (fr_some.mp e).1 (fr_some.mp e).2⟩
/-- a value made wholly of new objects -/
abbrev New (K : PySem.W.Frag) (H H' : Hp) (v : V) (d : PyData) : Prop := Dp K (fr H H') v d
abbrev NewAll (K : PySem.W.Frag) (H H' : Hp) (vs : List V) (ds : List PyData) : Prop := DpAll K (fr H H') vs ds
theorem New.dp (h : New K H H' v d) : Dp K H' v d := Dp.same fr_same d h
theorem NewAll.dp (h : NewAll K H H' vs ds) : DpAll K H' vs ds := DpAll.same fr_same ds h
/-- a new list at p: its items, too, are new -/
structure NewL (K : PySem.W.Frag) (H H' : Hp) (p : Addr) (ds : List PyData) : Prop where
  free : H p = none
  ex : ∃ xs, H' p = some (.lst xs) ∧ NewAll K H H' xs ds
theorem NewL.new {p : Addr} (h : NewL K H H' p ds) : New K H H' (.ref p) (.list ds) := by
  obtain ⟨xs, h1, h2⟩ := h.ex
  exact .lst (SqL.of (fr_some.mpr ⟨h.free, h1⟩)) h2
theorem NewL.dp {p : Addr} (h : NewL K H H' p ds) : Dp K H' (.ref p) (.list ds) := h.new.dp
theorem NewL.left {p : Addr} (h : NewL K H H' p ds) (k : ∀ b, H b = none → H0 b = none) : NewL K H0 H' p ds := by
  obtain ⟨xs, h1, h2⟩ := h.ex
  exact ⟨k _ h.free, xs, h1, DpAll.same (fr_left k) ds h2⟩
theorem NewL.right {p : Addr} (h : NewL K H H' p ds) (k : Same H' H'') : NewL K H H'' p ds := by
  obtain ⟨xs, h1, h2⟩ := h.ex
  exact ⟨h.free, xs, k _ _ h1, DpAll.same (fr_right fun b o _ e => k b o e) ds h2⟩

/-! ### a list that grows at D since H, where D stood empty -/
theorem Same.none (e : Same H H') : ∀ b, H' b = Option.none → H b = Option.none := fun _ h => e.free h
theorem upd_dom {a : Addr} {o : HO} : ∀ b, upd H a o b = none → H b = none := fun b h => by
  unfold upd at h
  split at h
  · cases h
  · exact h
theorem same_upd {a : Addr} {o : HO} (h : H a = none) : Same H (upd H a o) := fun b u e => by
  rw [upd_ne (ne_of_none e h)]
  exact e
theorem Same.upd {a : Addr} {o : HO} (e : Same H H') (h : H a = Option.none) : Same H (upd H' a o) := fun b u q => by
  rw [upd_ne (ne_of_none q h)]
  exact e _ _ q
/-- since H (where nothing stood at D) only D changed of what stood, and new things came; at D a list of new things -/
structure Grow (K : PySem.W.Frag) (H : Hp) (D : Addr) (H' : Hp) (ds : List PyData) : Prop where
  free : H D = none
  same : Same H H'
  ex : ∃ xs, H' D = some (.lst xs) ∧ DpAll K (fr (upd H D (.lst [])) H') xs ds
theorem Grow.start {D : Addr} (h : H D = none) : Grow K H D (upd H D (.lst [])) [] := ⟨h, same_upd h, [], upd_same, .nil⟩
theorem Grow.dom {D : Addr} (g : Grow K H D H' ds) : ∀ b, H' b = none → upd H D (.lst []) b = none := fun b hb => by
  obtain ⟨xs, h1, _⟩ := g.ex
  have n : b ≠ D := fun e => by
    rw [e, h1] at hb
    cases hb
  rw [upd_ne n]
  exact g.same.free hb
theorem Grow.len {D : Addr} {xs : List V} (g : Grow K H D H' ds) (h : H' D = some (.lst xs)) : xs.length = ds.length := by
  obtain ⟨ys, h1, h2⟩ := g.ex
  rw [h] at h1
  cases h1
  exact DpAll.length h2
/-- things came -/
theorem Grow.more {D : Addr} (g : Grow K H D H' ds) (e : Same H' H'') : Grow K H D H'' ds := by
  obtain ⟨xs, h1, h2⟩ := g.ex
  exact ⟨g.free, g.same.trans e, xs, e _ _ h1, DpAll.same (fr_right fun b o _ q => e b o q) ds h2⟩
/-- new items behind it -/
theorem Grow.put {D : Addr} {xs : List V} (g : Grow K H D H' ds) (e : Same H' H'') (h : H'' D = some (.lst xs)) (n : NewAll K H' H'' ws es) : Grow K H D (upd H'' D (.lst (xs ++ ws))) (ds ++ es) := by
  obtain ⟨ys, h1, h2⟩ := g.ex
  have q := e _ _ h1
  rw [h] at q
  cases q
  have up : Same (fr (upd H D (.lst [])) H'') (fr (upd H D (.lst [])) (upd H'' D (.lst (xs ++ ws)))) := fr_right fun b o hb hh => by
    have nb : b ≠ D := fun z => by
      rw [z, upd_same] at hb
      cases hb
    rw [upd_ne nb]
    exact hh
  refine ⟨g.free, Same.upd (g.same.trans e) g.free, xs ++ ws, upd_same, DpAll.same up _ (DpAll.append (DpAll.same (fr_right fun b o _ q => e b o q) ds h2) (DpAll.same (fr_left g.dom) es n))⟩
theorem Grow.add {D : Addr} {xs : List V} (g : Grow K H D H' ds) (e : Same H' H'') (h : H'' D = some (.lst xs)) (n : New K H' H'' v d) : Grow K H D (upd H'' D (.lst (xs ++ [v]))) (ds ++ [d]) :=
  g.put e h (.cons n .nil)
/-- an item that is new since H -/
theorem Grow.addD {D : Addr} {xs : List V} (g : Grow K H D H' ds) (e : Same H' H'') (h : H'' D = some (.lst xs)) (n : Dp K (fr (upd H D (.lst [])) H'') v d) : Grow K H D (upd H'' D (.lst (xs ++ [v]))) (ds ++ [d]) := by
  obtain ⟨ys, h1, h2⟩ := g.ex
  have q := e _ _ h1
  rw [h] at q
  cases q
  have up : Same (fr (upd H D (.lst [])) H'') (fr (upd H D (.lst [])) (upd H'' D (.lst (xs ++ [v])))) := fr_right fun b o hb hh => by
    have nb : b ≠ D := fun z => by
      rw [z, upd_same] at hb
      cases hb
    rw [upd_ne nb]
    exact hh
  refine ⟨g.free, Same.upd (g.same.trans e) g.free, xs ++ [v], upd_same, DpAll.same up _ (DpAll.append (DpAll.same (fr_right fun b o _ q => e b o q) ds h2) (.cons n .nil))⟩
theorem Grow.newL {D : Addr} (g : Grow K H D H' ds) : NewL K H H' D ds := by
  obtain ⟨xs, h1, h2⟩ := g.ex
  exact ⟨g.free, xs, h1, DpAll.same (fr_left upd_dom) ds h2⟩
end

/-! ### shapes -/
def dI (ns : List Int) : PyData := .list (ns.map PyData.int)
def dC (c : List Nat) : PyData := .list (c.map fun k : Nat => PyData.int k)
def dPr (p : Int × Int) : PyData := .tuple [.int p.1, .int p.2]
def dF (f : Int × Int × Int) : PyData := .tuple [.int f.1, .int f.2.1, .int f.2.2]
theorem dC_eq (c : List Nat) : dC c = dI (c.map fun k : Nat => (k : Int)) := by
  unfold dC dI
  rw [List.map_map]
  rfl
theorem Dp.ints {K : PySem.W.Frag} {H : Hp} {v : V} {ns : List Int} (h : Dp K H v (dI ns)) : ∃ a, v = .ref a ∧ SqL K H a (ns.map V.int) := by
  obtain ⟨a, xs, e, hs, ha⟩ := Dp.lst_inv h
  exact ⟨a, e, by rw [← DpAll.ints ha]; exact hs⟩
theorem Dp.of_ints {K : PySem.W.Frag} {H : Hp} {a : Addr} {ns : List Int} (h : SqL K H a (ns.map V.int)) : Dp K H (.ref a) (dI ns) := .lst h (DpAll.of_ints ns)
theorem Dp.pair {K : PySem.W.Frag} {H : Hp} {v : V} {p : Int × Int} (h : Dp K H v (dPr p)) : ∃ a, v = .ref a ∧ SqT K H a [.int p.1, .int p.2] := by
  obtain ⟨a, xs, e, hs, ha⟩ := Dp.tup_inv h
  have q := DpAll.ints (ns := [p.1, p.2]) ha
  exact ⟨a, e, by rw [q] at hs; exact hs⟩
theorem Dp.trip {K : PySem.W.Frag} {H : Hp} {v : V} {f : Int × Int × Int} (h : Dp K H v (dF f)) : ∃ a, v = .ref a ∧ SqT K H a [.int f.1, .int f.2.1, .int f.2.2] := by
  obtain ⟨a, xs, e, hs, ha⟩ := Dp.tup_inv h
  have q := DpAll.ints (ns := [f.1, f.2.1, f.2.2]) ha
  exact ⟨a, e, by rw [q] at hs; exact hs⟩
theorem Dp.of_pair {K : PySem.W.Frag} {H : Hp} {a : Addr} {p : Int × Int} (h : SqT K H a [.int p.1, .int p.2]) : Dp K H (.ref a) (dPr p) := .tup h (DpAll.of_ints [p.1, p.2])
theorem Dp.of_trip {K : PySem.W.Frag} {H : Hp} {a : Addr} {f : Int × Int × Int} (h : SqT K H a [.int f.1, .int f.2.1, .int f.2.2]) : Dp K H (.ref a) (dF f) := .tup h (DpAll.of_ints [f.1, f.2.1, f.2.2])

/-- a tasting, the tastings: a top at start + 11, each break below it -/
def tst (start high : Int) (m : List Int) : List (Int × Int × Int) := (start + 11, high + 1, 100) :: m.map fun j => (start + j, 0, high)
def dT (start high : Int) (m : List Int) : PyData := .list ((tst start high m).map dF)
def dTs (start high : Int) (ms : List (List Int)) : PyData := .list (ms.map (dT start high))
def dMs (ms : List (List Int)) : PyData := .list (ms.map dI)
def dCs (cs : List (List Nat)) : PyData := .list (cs.map dC)
def dPs (ps : List (Int × Int)) : PyData := .list (ps.map dPr)
def prs (start : Int) (ms : List (List Int)) (c : List Nat) : List (Int × Int) := (uni ms c).map fun j => (start + j, start + 11)
structure Bnd (start high : Int) : Prop where
  s0 : 0 ≤ start
  s1 : start + 11 ≤ 1000000000
  h0 : 0 ≤ high
  h1 : high < 100
end Brk
/-! Rules that the layer lacks: max(xs, default=d), set(list of ints), BreakError.__init__(self, text), several «except X as e». -/
namespace Brk
open PySem PySem.Spec PyProof.Rows L2

/-! ### max(xs, default=d) -/
theorem maxOf_spec : ∀ (xs : List Int) (x : Int), (PySem.W.maxOf x xs = x ∨ PySem.W.maxOf x xs ∈ xs) ∧ x ≤ PySem.W.maxOf x xs ∧ ∀ k ∈ xs, k ≤ PySem.W.maxOf x xs
  | [], x => ⟨.inl rfl, Int.le_refl _, fun _ h => by cases h⟩
  | y :: xs, x => by
    have e : PySem.W.maxOf x (y :: xs) = PySem.W.maxOf (if x < y then y else x) xs := by
      show List.foldl _ _ _ = List.foldl _ _ _
      rw [List.foldl_cons]
      have q : (if PySem.W.DatumOrd.lt x y = true then y else x) = (if x < y then y else x) := by
        by_cases h : x < y
        · rw [if_pos h, if_pos (show PySem.W.DatumOrd.lt x y = true from decide_eq_true h)]
        · rw [if_neg h, if_neg (show ¬ PySem.W.DatumOrd.lt x y = true from fun z => h (of_decide_eq_true z))]
      rw [q]
    rw [e]
    obtain ⟨h1, h2, h3⟩ := maxOf_spec xs (if x < y then y else x)
    by_cases h : x < y
    · rw [if_pos h] at h1 h2 h3 ⊢
      refine ⟨.inr ?_, by omega, fun k hk => ?_⟩
      · rcases h1 with h1 | h1
        · rw [h1]
          exact List.mem_cons_self
        · exact List.mem_cons_of_mem _ h1
      · rcases List.mem_cons.mp hk with e | hk
        · rw [e]
          exact h2
        · exact h3 k hk
    · rw [if_neg h] at h1 h2 h3 ⊢
      refine ⟨?_, h2, fun k hk => ?_⟩
      · rcases h1 with h1 | h1
        · exact .inl h1
        · exact .inr (List.mem_cons_of_mem _ h1)
      · rcases List.mem_cons.mp hk with e | hk
        · rw [e]
          omega
        · exact h3 k hk
section
variable {X : Cx}
def rMaxD (K : PySem.W.Frag) : List V → List V → Hp → VK → Prop := fun vs zs H Q => ∃ (a : Addr) (ns : List Int) (d : Int), vs = [V.ref a] ∧ zs = [V.int d] ∧ SqL K H a (ns.map V.int) ∧
  (ns = [] → Q (.int d) H) ∧ ∀ m, m ∈ ns → (∀ k ∈ ns, k ≤ m) → Q (.int m) H
theorem cr_maxD (hc : X.calm = true) (hu : X.A.units + 1 < cLine) : CallRK X (.builtin "max") [Str.ofString "default"] (rMaxD X.K) := by
  intro pins s σ H vs zs us ws Q I r rz h
  obtain ⟨a, ns, d, rfl, rfl, hs, q0, q⟩ := h
  obtain rfl := Vals.ref1 r
  obtain ⟨w1, rfl, ⟨t, rfl⟩⟩ := vals1 rz
  obtain ⟨its, rv, hl, hz⟩ := I.list hs
  have hi : IntsAre its ns := rv.ints
  have hu' : X.A.units + 1 + PySem.W.Datum.depth Int < cLine := hu
  refine PySem.W.max_list_datum_default (α := Int) (xs := ns) (I.ok.hd hc) hl.isList (PySem.W.HoldAll.of_ints (by simpa using hi)) hu' (fun e h' tk k => ?_) (fun y ys i v h' tk e hv hh k => ?_)
  · exact ⟨.int d, H, I.kept k, ⟨t, rfl⟩, q0 e⟩
  · obtain ⟨m1, m2, m3⟩ := maxOf_spec ys y
    have hm : PySem.W.maxOf y ys ∈ ns := by
      rw [e]
      rcases m1 with m1 | m1
      · rw [m1]
        exact List.mem_cons_self
      · exact List.mem_cons_of_mem _ m1
    have hle : ∀ k ∈ ns, k ≤ PySem.W.maxOf y ys := fun k hk => by
      rw [e] at hk
      rcases List.mem_cons.mp hk with z | z
      · rw [z]
        exact m2
      · exact m3 k z
    obtain ⟨tk', rfl⟩ : ∃ t, v = Value.int (PySem.W.maxOf y ys) t := by
      obtain ⟨as, hr⟩ := hh
      have hr' : Reads h' v (PyData.int (PySem.W.maxOf y ys)) as := hr
      cases hr'
      exact ⟨_, rfl⟩
    exact ⟨.int (PySem.W.maxOf y ys), H, I.kept k, ⟨tk', rfl⟩, q _ hm hle⟩
/-- the same, its answer told ahead -/
def rMaxZ (K : PySem.W.Frag) : List V → List V → Hp → VK → Prop := fun vs zs H Q => ∃ (a : Addr) (ns : List Int) (d z : Int), vs = [V.ref a] ∧ zs = [V.int d] ∧ SqL K H a (ns.map V.int) ∧
  (ns = [] → z = d) ∧ (∀ m, m ∈ ns → (∀ k ∈ ns, k ≤ m) → z = m) ∧ Q (.int z) H
theorem cr_maxZ (hc : X.calm = true) (hu : X.A.units + 1 < cLine) : CallRK X (.builtin "max") [Str.ofString "default"] (rMaxZ X.K) := by
  intro pins s σ H vs zs us ws Q I r rz h
  obtain ⟨a, ns, d, z, e1, e2, hs, h0, h1, q⟩ := h
  exact cr_maxD hc hu pins s σ H vs zs us ws Q I r rz ⟨a, ns, d, e1, e2, hs, fun e => h0 e ▸ q, fun m hm hk => h1 m hm hk ▸ q⟩
end

/-! ### BreakError.__init__(self, ..) -/
structure BiC (K : PySem.W.Frag) (mg : Str → Option Value) (C : Addr) : Prop where
  at_ : mg "BreakError" = some (.ref C)
  ga : PySem.W.specialIn K (.ref C) "__getattribute__" = some (some (.builtin "type.__getattribute__"))
  rd : PySem.W.readsIn K C (.type "type") = true
  fi : PySem.W.findCls K (.ref C) (.type "type") "__init__" = some (.val (.builtin "ValueError.__init__"))
section
variable {X : Cx} {e : Expr} {es : List Expr} {ta : TA} {p1 p2 pos : Pos} {C : Addr}
theorem pe_beinit {pl : Sem Bool} (B : BiC X.K X.mg C) (hg : Gl X "BreakError") (ha : PA X (e :: es) ta)
    (hc : eval (.Call (.Attribute (.Name "BreakError" p1) "__init__" p2) (e :: es) [] pos) X.env = (do
      let ov ← eval (.Name "BreakError" p1) X.env
      standAt p2.atName
      let (f, first) ← holding [ov] (getMethod ov "__init__" pl)
      callWith pos f first (backTo pos (starEach (e :: es) X.env)) (backToKw pos (keywordEach [] X.env))) := by rfl)
    (he : starEach (e :: es) X.env = (false, eval e X.env) :: starEach es X.env := by rfl) (hpl : (backTo pos (starEach es X.env)).any (·.1) = false := by rfl) :
    PE X (.Call (.Attribute (.Name "BreakError" p1) "__init__" p2) (e :: es) [] pos) (tVeI X.K ta) := by
  refine ⟨fun pins s σ H Q I h => PySem.W.methodCall_KW (ld_glob I hg B.at_ ?_ (by decide)) hc⟩
  refine PySem.W.method_cls I.kIn B.ga (PySem.W.cls_value I.kIn B.rd B.fi rfl ?_)
  show wpAny _ _ (callWith pos (Value.builtin "ValueError.__init__") [] (backTo pos (starEach (e :: es) X.env)) []) _ _ _
  refine PyProof.Rows.callWith_method1 (thn (ha.run pos pins _ σ H _ (I.tok _) h) fun us s1 hh => ?_) he hpl
  obtain ⟨vs, H1, I1, r1, a, D, ws, ev, hl, T, ea, q⟩ := hh
  subst ev
  cases r1 with
  | @cons _ u0 _ ur ra rr =>
    obtain rfl : u0 = Value.ref a := ra
    refine oinit_ok T I1 ea ?_ fun s' J => ⟨.non, H1, J, rfl, q⟩
    rw [← Paired.length rr, sizeLine_eq]
    omega
end

/-! ### several «except X as n», one name -/
def wAsM (K : PySem.W.Frag) (i : Nat) (Wout : WX) (D : Ends) : List (Value × (Addr → Value → Option Addr → TS)) → WX
  | [] => Wout
  | (c, ts) :: r => wAs K c i ts (fun cls d σ H => wAsM K i Wout D r cls d σ H) D
inductive HdsAs (X : Cx) (n : Str) : List ExceptHandler → List (Value × (Addr → Value → Option Addr → TS)) → Prop
  | nil : HdsAs X n [] []
  | cons {x : Str} {c : Value} {ts : Addr → Value → Option Addr → TS} {b₀ : Stmt} {suite : List Stmt} {np pos' : Pos} {hds : List ExceptHandler} {l : List (Value × (Addr → Value → Option Addr → TS))} (hc : Names X x c)
      (hsu : ∀ (a : Addr) (oe : Obj) (cls : Value) (d : Option Addr) (pn : List (Addr × Obj)), Zc cls d oe → (∃ vs, oe.data = .fields vs) → PSs (X.suite a ((a, oe) :: pn)) (b₀ :: suite) (ts a cls d)) (r : HdsAs X n hds l) :
      HdsAs X n (.ExceptHandler (some (.Name x np)) (some n) (b₀ :: suite) pos' :: hds) ((c, ts) :: l)
section
variable {X : Cx} {n : Str} {i : Nat} {body : List Stmt} {h₀ : ExceptHandler} {hds : List ExceptHandler} {l : List (Value × (Addr → Value → Option Addr → TS))} {pos : Pos} {tb : WX → TS} {Wout : WX}
theorem ps_try_asM (hs : X.stack = X.env :: X.outer) (hf : X.env.frame = some X.env.locals) (hN : X.N.Nodup) (hi : X.N[i]? = some n) (hln : X.env.kindOf n = some .local) (tk : Takes X Wout)
    (hb : ∀ (W : WX) (pn : List (Addr × Obj)) (xe : Value → Shared → Prop), Takes (X.tr pn xe) W → PassesOwn (model X.prog X.w) X.A X.env xe → PSs (X.tr pn xe) body (tb W))
    (hh : HdsAs X n (h₀ :: hds) l) : PS X (.Try body (h₀ :: hds) [] [] pos) (fun D σ H => tb (wAsM X.K i Wout D l) D σ H) := by
  refine ⟨fun pins s σ H D I h => ?_⟩
  have ok := I.ok
  have hfr : X.A.frames = some (X.env :: X.outer) := by rw [ok.frames, hs]
  have hloc : Loc X.env.scope n := .inl hln
  refine wpAny_Try_except (wpAny_mono ((hb (wAsM X.K i Wout D l) (X.pn ++ pins) (fun e s₁ => wpAny (model X.prog X.w) X.A (noteFrame e X.env) (fun _ s₂ =>
    wpAny (model X.prog X.w) X.A (setFlight e none) (fun _ s₃ => wpAny (model X.prog X.w) X.A (handleBy e X.env (h₀ :: hds)) (SP X pins D) X.xe s₃) X.xe s₂) X.xe s₁)
    (fun u s' xx => ?_) PassesOwn.looking).run [] s σ H D (I.toTry _) h) (fun f s1 hsp => ?_) (fun e s1 he => he))
  · -- what is caught
    obtain ⟨a, B, sI, pins', σ', H', cls, d, rfl, J', nb, up, sky, na, os, ag, w⟩ := xx
    have J : Inv X pins σ' H' sI := J'.ofTry ok
    have sky' : Sky B (X.env :: X.outer) a (Zc cls d) X.env.locals s'.heap := by rw [← hs]; exact sky
    show wpAny (model X.prog X.w) X.A (noteFrame (.ref a) X.env) _ _ _
    refine Sky.land Zc.steady hfr hf sky' fun h3 fl3 up3 => ?_
    have J3 : Inv X pins σ' H' { s' with heap := h3 } := J.landed nb fl3.1 (up.trans up3) os ag
    obtain ⟨oe3, vs3, he3, hz3, hd3⟩ := fl3.there
    have nfr : a ∉ frs (X.env :: X.outer) := fun hm => by
      obtain ⟨_, o', e', hnf⟩ := fl3.2.2.1.mem hm
      rw [he3] at e'
      cases e'
      exact hnf _ hd3
    have nL : a ≠ X.env.locals := fun z => nfr (List.mem_filterMap.mpr ⟨X.env, List.mem_cons_self, by rw [hf, z]⟩)
    have nF : a ∉ X.fs := fun hm => by
      obtain ⟨e, he, q⟩ := List.mem_filterMap.mp hm
      exact nfr (List.mem_filterMap.mpr ⟨e, List.mem_cons_of_mem _ he, q⟩)
    have S3 := J3.suite he3 hd3 na nL nF
    have go : ∀ {hds' : List ExceptHandler} {l' : List (Value × (Addr → Value → Option Addr → TS))}, HdsAs X n hds' l' → wAsM X.K i Wout D l' cls d σ' H' →
        wpAny (model X.prog X.w) X.A (handleBy (.ref a) X.env hds') (SP X pins D) X.xe { s' with heap := h3 } := by
      intro hds' l' hk
      induction hk with
      | nil =>
        intro w
        obtain ⟨k1, k2, k3, oe, vs, T, oT, ts', he, hz, hd, h1, hr⟩ := id fl3
        have fin : wpAny (model X.prog X.w) X.A (setFlight (.ref a) X.env.frame) (fun _ s4 => wpAny (model X.prog X.w) X.A (throw (.ref a) : Sem Flow) (SP X pins D) X.xe s4) X.xe { s' with heap := h3 } := by
          rw [hf]
          refine HandSPX.setFlight_upZ fl3 fun h4 hh4 up4 => wpAny_throw (tk _ _ ?_)
          exact ⟨a, B, sI, pins, σ', H', cls, d, rfl, J, nb, (up.trans up3).trans up4, .inr (.inr (by rw [hs]; exact hh4)), na, os, ag, w⟩
        refine wpAny_handleBy_nil ?_
        unfold PySem.passOn
        refine wpAny_bind (wpAny_field he hd h1 ?_)
        rw [if_neg (show ¬ ((Value.ref T == Value.none) = true) from by simp)]
        first
          | exact wpAny_bind (wpAny_pure (wpAny_bind fin))
          | exact wpAny_bind fin
      | @cons x c ts b₀ suite np pos' hds2 l2 hc hsu r ih =>
        intro w
        obtain ⟨b, hb1, hyes, hno⟩ := w
        refine wpAny_handleBy_cons (codeAny_handlers_test ?_) (by intro q; cases q)
        have LT : PySem.W.Looks (model X.prog X.w) h3 (typeOf (.ref a)) cls := fun A Q E s k q => wpAny_typeOf_ref (k _ _ he3) (by rw [hz3.1]; exact q)
        have LM := PySem.W.exm_one (M := model X.prog X.w) (J3.kIn) LT hb1
        have test : ∀ {Q : Value → Shared → Prop} {E : Value → Shared → Prop}, Q c { s' with heap := h3 } → wpAny (model X.prog X.w) (X.A.mark (some (.ref a))) (eval (.Name x np) X.env) Q E { s' with heap := h3 } := fun {Q E} q => by
          obtain ⟨hg, hdbg, hm | ⟨hm, hv, hnn⟩⟩ := hc
          · exact ld_glob (X := X.suite a ((a, oe3) :: (X.pn ++ pins))) S3 hg hm q hdbg
          · exact ld_blt (X := X.suite a ((a, oe3) :: (X.pn ++ pins))) S3 hg hm hv q hnn hdbg
        refine test (LM.here ?_)
        cases b with
        | false =>
          show wpAny _ X.A (handleBy (.ref a) X.env hds2) _ _ _
          exact ih (hno rfl)
        | true =>
          refine codeAny_handlers_suite_as (HandSPX.lands_againZ fl3 fun h4 fl4 up4 => ?_)
          have J4 : Inv X pins σ' H' { s' with heap := h4 } := J.landed nb fl4.1 ((up.trans up3).trans up4) os ag
          obtain ⟨oe4, vs4, he4, hz4, hd4⟩ := fl4.there
          have S4 := J4.suite he4 hd4 na nL nF
          refine store_ok (X := X.suite a ((a, oe4) :: (X.pn ++ pins))) (v := .ref a) S4 hN hi hloc rfl (fun s5 S5 => ?_) (.inr hln)
          refine wpAny_mono ((hsu a oe4 cls d (X.pn ++ pins) hz4 ⟨_, hd4⟩).run [] s5 _ H' _ S5 (hyes rfl a na)) (fun f s6 hsp => ?_) (fun _ _ z => False.elim z)
          have end_ : ∀ {σ6 : L2.St} {H6 : Hp} {Q : Shared → Prop}, Inv (X.suite a ((a, oe4) :: (X.pn ++ pins))) [] σ6 H6 s6 → (∀ s7, Inv X pins (σ6.set i none) H6 s7 → Q s7) →
              wpAny (model X.prog X.w) X.A (do bindName X.env n .none; unbindBehindTheSuite X.env n pos') (fun _ s7 => Q s7) X.xe s6 := fun {σ6 H6 Q} S6 hq => gone_ok (S6.unsuite ok) hN hi hln hq
          cases f with
          | next =>
            obtain ⟨σ6, H6, S6, q6⟩ := hsp
            exact end_ S6 fun s7 J7 => ⟨_, _, J7, q6⟩
          | brk =>
            obtain ⟨σ6, H6, S6, q6⟩ := hsp
            exact end_ S6 fun s7 J7 => ⟨_, _, J7, q6⟩
          | cont =>
            obtain ⟨σ6, H6, S6, q6⟩ := hsp
            exact end_ S6 fun s7 J7 => ⟨_, _, J7, q6⟩
          | ret u =>
            obtain ⟨v6, σ6, H6, S6, r6, q6⟩ := hsp
            exact end_ S6 fun s7 J7 => ⟨_, _, _, J7, r6, q6⟩
    exact go hh w
  · cases f with
    | next =>
      obtain ⟨σ', H', J', q⟩ := hsp
      exact wpAny_execs_nil ⟨σ', H', J'.ofTry ok, q⟩
    | brk =>
      obtain ⟨σ', H', J', q⟩ := hsp
      exact ⟨σ', H', J'.ofTry ok, q⟩
    | cont =>
      obtain ⟨σ', H', J', q⟩ := hsp
      exact ⟨σ', H', J'.ofTry ok, q⟩
    | ret u =>
      obtain ⟨v, σ', H', J', r, q⟩ := hsp
      exact ⟨v, σ', H', J'.ofTry ok, r, q⟩
end
end Brk
/-! xs + ys of two lists that are read. -/
namespace Brk
open PySem PySem.Spec PyProof.Rows L2
section
variable {X : Cx}
def rCatS (K : PySem.W.Frag) : R2 := fun x y H Q => ∃ l b xs zs, x = .ref l ∧ y = .ref b ∧ SqL K H l xs ∧ SqL K H b zs ∧ xs.length + zs.length ≤ sizeLine ∧ ∀ p, H p = none → Q (.ref p) (upd H p (.lst (xs ++ zs)))
theorem op_catS : OpR X (binaryOp .Add) (rCatS X.K) := by
  intro pins s σ H x y v u Q I rx ry h
  obtain ⟨l, b, xs, zs, rfl, rfl, hH, hB, hz, q⟩ := h
  cases rx; cases ry
  obtain ⟨its, r, pl, _⟩ := I.list hH
  obtain ⟨its2, r2, pl2, _⟩ := I.list hB
  have e1 := r.length; have e2 := r2.length
  obtain ⟨⟨cls, dd, data, sl⟩, ho, hc, n, hd⟩ := pl.isList
  obtain ⟨⟨cls2, dd2, data2, sl2⟩, ho2, hc2, n2, hd2⟩ := pl2.isList
  simp only at hc hd hc2 hd2
  subst hc hd hc2 hd2
  have ea : its.toArray ++ its2.toArray = (its ++ its2).toArray := by simp
  refine concat_meets ⟨_, ho, rfl⟩ ⟨_, ho2, rfl⟩ noFill_list_add seq_list_add PySem.F.slot_list_add PySem.F.entry_list_add (PySem.F.args_list_add_2 _ _)
    (list_addW l b its.toArray its2.toArray n n2 dd dd2 sl sl2 (by rw [List.size_toArray, List.size_toArray]; omega)) ⟨ho, ho2, ?_⟩
  rw [ea]
  exact ⟨.ref _, _, I.lnew (t' := s.toks) (r.append r2) (by rw [List.length_append]; omega), rfl, q _ I.fresh⟩
/-- a statement, then the rest, shown once from what holds between them -/
def tMid (t u : TS) : TS := fun D σ H => ∃ M : L2.St → Hp → Prop, t { D with nx := M } σ H ∧ ∀ σ' H', M σ' H' → u D σ' H'
theorem pss_mid {st : Stmt} {rest : List Stmt} {t u : TS} (h1 : PS X st t) (h2 : PSs X rest u) : PSs X (st :: rest) (tMid t u) := ⟨fun pins s σ H D I h => by
  obtain ⟨M, hm, hu⟩ := h
  refine wpAny_execs_cons (thn (h1.run pins s σ H { D with nx := M } I hm) fun f s1 q => ?_)
  match f, q with
  | .next, ⟨σ', H', I', q⟩ => exact h2.run pins s1 σ' H' D I' (hu σ' H' q)
  | .ret v, q => exact q
  | .brk, q => exact q
  | .cont, q => exact q⟩
end
end Brk
/-! set(xs) of a list of ints, as the layer's set SetO. -/
namespace Brk
open PySem PySem.Spec PyProof.Rows L2
/-- the empty set as it is laid -/
abbrev sob (w : World) : Obj := { cls := .type "set", dict := none, data := .set #[] 0 (.fresh 0 0 (!w.params.followText "set-order")) }
section
variable {P : Program} {w : World} {A : Around} {E : Value → Shared → Prop} {s : Shared}
set_option maxHeartbeats 3200000 in
theorem call_set_lstI {l : Addr} {items : Array Value} (ns : List Int) {Q : Value → Shared → Prop} (hh : A.handled = none) (hl : s.heap.IsList l items) (hit : IntsAre items.toList ns) (hb : ns.length + 1 < scanBound)
    (h : ∀ (h' : Heap) (tk c : Nat), SetR w h' s.heap.objs.size (fun j => decide (j ∈ ns)) c → c ≤ ns.length → (∀ b o, s.heap.get? b = some o → h'.get? b = some o) → Q (.ref s.heap.objs.size) { s with heap := h', toks := tk }) :
    wpAny (model P w) A (call (.type "set") [.ref l]) Q E s := by
  have hisz : items.size = ns.length := (Array.length_toList (xs := items)).symm.trans (IntsAre.length hit)
  obtain ⟨c, tl, hmro⟩ := F.called_set.mro
  have hmade := F.called_set.made; have hsub := F.called_set.sub
  refine wpAny_call (codeAny_of_tree ?_)
  show wpAny _ _ (callAny (.type "set") _) _ _ _
  refine wpAny_pure ⟨Code.quiet_builtin _ (by decide +kernel), codeAny_builtin F.entry_type_call ?_⟩
  rw [Around.under_plain (weight_type_call_type "set" [.ref l] []) rfl]
  have h1 := F.called_set.notType; have h2 := F.called_set.canCreate
  have hct := F.typeCall_set_1 (.ref l)
  repeat (any_goals (first | assumption | wp_step))
  refine codeAny_mono (code_set_led1 (.ref l) (E := E) (Q₁ := fun obj s₁ => obj = .ref s.heap.objs.size ∧ s₁ = { s with heap := s.heap.push (sob w) }) ⟨rfl, rfl⟩) fun r s₁ hr => ?_
  cases r with
  | error e => exact hr
  | ok fl =>
    cases fl with
    | ret obj =>
      obtain ⟨rfl, rfl⟩ := hr
      have hS : (s.heap.push (sob w)).get? s.heap.objs.size = some (sob w) := Heap.get?_push_size _ rfl
      have hT : Shared.TypeIs { s with heap := s.heap.push (sob w) } (.ref s.heap.objs.size) "set" := ⟨_, hS, rfl⟩
      have hli := F.called_set.init.lookup; have hbi := F.called_set.init.bind (.ref s.heap.objs.size)
      repeat (any_goals (first | assumption | wp_step))
      refine codeAny_mono (codeAny_call_builtin (R := wants (fun r s₂ => r = .none ∧ ∃ h' tk c, s₂ = { s with heap := h', toks := tk } ∧ SetR w h' s.heap.objs.size (fun j => decide (j ∈ ns)) c ∧ c ≤ ns.length ∧
          (∀ b o, s.heap.get? b = some o → h'.get? b = some o)) E) F.called_set.init.plain F.entry_set_init (check_set_init_1 hT ?_)) fun r₂ s₂ hr₂ => ?_
      · obtain ⟨ol, hol, hcl, nl, hdl⟩ := hl
        obtain ⟨ocls, odict, odata, oslots⟩ := ol
        simp only at hcl hdl
        subst hcl; subst hdl
        have hol' : (s.heap.push (sob w)).get? l = some { cls := .type "list", dict := odict, data := .seq items nl, slots := oslots } := Heap.get?_push_of_some _ hol
        have hsls := F.sub_list_set; have hslf := F.sub_list_frozenset
        have hne : (Value.type "list" == Value.type "dict") = false := by decide
        have hl1 : (s.heap.push (sob w)).IsList l items := ⟨_, hol', rfl, nl, rfl⟩
        unfold Builtin.«set.__init__» noKeywords Builtin.Frozenset.updateFrom
        generalize hPI : pyIter = PI
        wp_walk
        subst hPI
        refine wpAny_pyIter_list hl1 (wpAny_bind (wpAny_runValue ?_))
        have hlS : l < s.heap.objs.size := Heap.lt_size hol
        have hh3 : A.in1.in1.in1.handled = none := by simp [hh]
        have hz1 : (s.heap.push (sob w)).objs.size = s.heap.objs.size + 1 := Heap.size_push ..
        have hneI : l ≠ (s.heap.push (sob w)).objs.size := by rw [Heap.size_push]; exact Nat.ne_of_lt (Nat.lt_succ_of_lt hlS)
        have hSf : s.heap.objs.size ∉ [(s.heap.push (sob w)).objs.size, l] := by
          rw [Heap.size_push]
          simp only [List.mem_cons, List.not_mem_nil, or_false, not_or]
          exact ⟨Nat.ne_of_lt (Nat.lt_succ_self _), Nat.ne_of_gt hlS⟩
        have hval : ∀ (i : Nat) (v : Value), items[i]? = some v → ∃ k t, ns[i]? = some k ∧ v = .int k t := fun i v hv => by
          have hi : i < ns.length := by rw [← hisz]; exact (Array.getElem?_eq_some_iff.mp hv).1
          obtain ⟨t, e⟩ := PyProof.Rows.IntsAre.int_at hit i v (by rw [Array.getElem?_toList]; exact hv)
          refine ⟨ns[i], t, List.getElem?_eq_getElem hi, ?_⟩
          rw [e, List.getD_eq_getElem?_getD, List.getElem?_eq_getElem hi] <;> rfl
        refine set_update_ints ((Walks.list hh3 _ l hneI items).toS) s.heap.objs.size hSf ns hisz hb hval (items.size - 0) 0 _ (by omega) (Nat.zero_le _)
          ⟨⟨_, Heap.get?_push_size _ rfl, rfl, rfl⟩, (hl1.push _)⟩ ?hS0 ?hR
        case hS0 => exact ⟨0, Nat.le_refl 0, setR_new_at (Heap.get?_push_of_some _ hS)⟩
        case hR =>
          intro s' c' hm hc' hS'
          obtain ⟨h', g2, d', tk', os'⟩ := s'
          obtain rfl : g2 = s.gens := hm.gens
          obtain rfl : d' = s.drawn := hm.drawn
          obtain rfl : os' = s.os := hm.os
          show wpAny _ _ _ _ _ _
          refine wpAny_pure ?_
          show wpAny _ _ (ret Value.none) _ _ _
          rw [hisz] at hc'
          refine wpAny_pure ⟨rfl, h', tk', c', rfl, hS', hc', fun b o e => ?_⟩
          have hb0 : b < s.heap.objs.size := Heap.lt_size e
          have hb2 : b ≠ (s.heap.push (sob w)).objs.size := by rw [Heap.size_push]; exact Nat.ne_of_lt (Nat.lt_succ_of_lt hb0)
          exact hm.heap b o (by simp only [List.mem_cons, List.not_mem_nil, or_false, not_or]; exact ⟨Nat.ne_of_lt hb0, hb2⟩) (Heap.get?_push_of_some _ (Heap.get?_push_of_some _ e))
      · cases r₂ with
        | error e => exact hr₂
        | ok fl₂ =>
          cases fl₂ with
          | ret r =>
            obtain ⟨rfl, h', tk, c', rfl, hS', hc', hk'⟩ := hr₂
            repeat (any_goals (first | assumption | wp_step))
            exact h _ _ _ hS' hc' hk'
          | _ => exact hr₂.elim
    | _ => exact hr.elim
end
section
variable {X : Cx}
/-- set(xs), xs a list of ints; the set's size is n -/
def rSetL (K : PySem.W.Frag) (w : World) : List V → Hp → VK → Prop := fun vs H Q => ∃ (a : Addr) (ns : List Int), vs = [V.ref a] ∧ SqL K H a (ns.map V.int) ∧ ns.length ≤ 1000 ∧
  ∀ (p : Addr) (out : List Int), out.Nodup → (∀ k, k ∈ out ↔ k ∈ ns) → H p = none → Q (.ref p) (upd H p (SetO w p (fun j => decide (j ∈ ns)) out.length))
theorem cr_setL (hc : X.calm = true) : CallR X (.type "set") (rSetL X.K X.w) := by
  intro pins s σ H vs us Q I r h
  obtain ⟨a, ns, rfl, hs, hl, q⟩ := h
  obtain rfl := Vals.ref1 r
  obtain ⟨its, rv, pl, hz⟩ := I.list hs
  have hi : IntsAre its.toArray.toList ns := by simpa using rv.ints
  refine call_set_lstI ns (I.ok.hd hc) pl.isList hi (by unfold scanBound; omega) fun h' tk c R hc k => ?_
  obtain ⟨o, es, ep, t, _, _, _, _, nd, hm, _, _, hn, _⟩ := id R
  have hlen : (es.toList.map keyOf).length = c := by rw [List.length_map, Array.length_toList]; exact hn
  rw [← hlen] at R
  exact ⟨.ref _, _, I.laid (t' := tk) k (Nat.le_refl _) (setO_new R), rfl, q _ (es.toList.map keyOf) nd (fun j => (hm j).symm.trans decide_eq_true_iff) (I.hok.fresh (Nat.le_refl _))⟩
end
end Brk
/-! The text by places; what the top has left. -/
namespace Brk
open PySem L2
def topS (i : Nat) : Stmt := PySem.Challenge.pw_chestbreaks_k65_whole_ten_tastings.main.body.getD i (.Pass ⟨0, 0, 0, 0⟩)
/-- a def: where it stands, how its arguments come -/
structure Dn (K : PySem.W.Frag) (mg : Str → Option Value) (x : Str) (st : Stmt) (ps : List Str) (f : Addr) (fd : FuncData) : Prop where
  fn : Fun K x x st f fd
  at_ : mg x = some (.ref f)
  bd : Binds K fd ps []
structure Txt (mg : Str → Option Value) : Prop where
  isi : mg "isinstance" = none
  int : mg "int" = none
  bool : mg "bool" = none
  tuple : mg "tuple" = none
  list : mg "list" = none
  len : mg "len" = none
  all : mg "all" = none
  set : mg "set" = none
  sorted : mg "sorted" = none
  max : mg "max" = none
  min : mg "min" = none
  range : mg "range" = none
  enum : mg "enumerate" = none
  zip : mg "zip" = none
  mb : ∃ t, mg "MOST_BREAK" = some (.int 1000000000 t)
  ms : ∃ t, mg "MOST_SCORE" = some (.int 100 t)
  mt : ∃ t, mg "MOST_TASTINGS" = some (.int 10 t)
  mbs : ∃ t, mg "MOST_BREAKS" = some (.int 12 t)
theorem tyL {K : PySem.W.Frag} {H : Hp} {a : Addr} {xs : List V} (h : SqL K H a xs) : TyX K H (.ref a) (.type "list") := by
  rcases h with (h | ⟨o, h⟩) | ⟨o, its, n, h, c, _⟩
  · exact .base (.lst h)
  · exact .base (.frz h)
  · exact .kList h c
theorem tyT {K : PySem.W.Frag} {H : Hp} {a : Addr} {xs : List V} (h : SqT K H a xs) : TyX K H (.ref a) (.type "tuple") := by
  rcases h with (h | ⟨o, h⟩) | ⟨o, its, n, h, c, _⟩
  · exact .base (.tup h)
  · exact .fTuple h
  · exact .kTuple h c
section
variable {X : Cx} {x : Str} {st : Stmt} {ps : List Str} {f : Addr} {fd : FuncData} {sp : Sp} {k : Nat} {p pos : Pos} {e : Expr} {es : List Expr} {t : TA}
/-- a call of a def that raises nothing -/
theorem pcl (D : Dn X.K X.mg x st ps f fd) (G : FnOk X.prog X.w X.K X.mg X.base CX0 k f fd ps sp) (hr : Room k X.A) (ha : PA X (e :: es) t) (hg : Gl X x := by rfl) (hdb : (x == ("__debug__" : Str)) = false := by decide)
    (he : starEach (e :: es) X.env = (false, eval e X.env) :: starEach es X.env := by rfl) (hpl : (backTo pos (starEach es X.env)).any (·.1) = false := by rfl) : PE X (.Call (.Name x p) (e :: es) [] pos) (tCall sp [] E0 t) :=
  pe_call G hr hg D.at_ D.fn.kp D.bd .nil pass0 ha hdb he hpl
/-- len of a list, a tuple -/
theorem p_len (T : Txt X.mg) {ta : TE} (ha : PE X e ta) (hg : Gl X "len" := by rfl) (hs : starEach [e] X.env = (false, eval e X.env) :: starEach [] X.env := by rfl) :
    PE X (.Call (.Name "len" p) [e] [] pos) (tCB (fun xs H Q => ∃ p ys, xs = [.ref p] ∧ (SqL X.K H p ys ∨ SqT X.K H p ys) ∧ Q (.int ys.length) H) (tCons ta tNil)) :=
  pe_callB call_len_seq hg T.len PySem.boot_len (pa_cons ha pa_nil hs) (he := hs)
end
end Brk
/-! is_whole, is_from, is_break, is_finding -/
namespace Brk
open PySem L2
abbrev sWhole : Stmt := topS 6
abbrev sFrom : Stmt := topS 8
abbrev sBreak : Stmt := topS 12
abbrev sFinding : Stmt := topS 16
theorem scWhole : FnScope ["thing"] ["thing"] (defScope sWhole) := ⟨rfl, rfl, rfl, by decide +kernel, rfl, by decide +kernel, by decide +kernel⟩
theorem scFrom : FnScope ["thing", "low", "high"] ["thing", "low", "high"] (defScope sFrom) := ⟨rfl, rfl, rfl, by decide +kernel, rfl, by decide +kernel, by decide +kernel⟩
theorem scBreak : FnScope ["thing"] ["thing"] (defScope sBreak) := ⟨rfl, rfl, rfl, by decide +kernel, rfl, by decide +kernel, by decide +kernel⟩
theorem scFinding : FnScope ["thing"] ["thing"] (defScope sFinding) := ⟨rfl, rfl, rfl, by decide +kernel, rfl, by decide +kernel, by decide +kernel⟩
def spWhole : Sp := fun vs H Q _ => ∃ i : Int, vs = [.int i] ∧ Q (.bl true) H
def spFrom : Sp := fun vs H Q _ => ∃ i lo hi : Int, vs = [.int i, .int lo, .int hi] ∧ Q (.bl (decide (lo ≤ i ∧ i ≤ hi))) H
def spBreak : Sp := fun vs H Q _ => ∃ i : Int, vs = [.int i] ∧ 0 ≤ i ∧ i ≤ 1000000000 ∧ Q (.bl true) H
structure FOk (f : Int × Int × Int) : Prop where
  a : 0 ≤ f.1
  b : f.1 ≤ 1000000000
  c : 0 ≤ f.2.1
  d : f.2.1 ≤ f.2.2
  e : f.2.2 ≤ 100
def spFinding (K : PySem.W.Frag) : Sp := fun vs H Q _ => ∃ (v : V) (f : Int × Int × Int), vs = [v] ∧ Dp K H v (dF f) ∧ FOk f ∧ Q (.bl true) H
section
variable {P : Program} {w : World} {K : PySem.W.Frag} {mg : Str → Option Value} {base : Heap}
theorem ok_whole {f : Addr} {fd : FuncData} (T : Txt mg) (D : Dn K mg "is_whole" sWhole ["thing"] f fd) : FnOk P w K mg base CX0 1 f fd ["thing"] spWhole := by
  refine D.fn.ok scWhole (fun vs H Q E h => ?_) (fun cdv A outer s H vs Q E hr h => ?_)
  · obtain ⟨i, rfl, _⟩ := h
    rfl
  · obtain ⟨i, rfl, k⟩ := h
    refine ⟨_, pss_one (ps_ret (pe_and (pe_callB call_isi (by rfl) T.isi (by decide +kernel) (pa_cons (pv 0) (pa_cons (pe_bltn (v := .ty "int") (by rfl) T.int (by decide +kernel) rfl) pa_nil)))
      (pe_one (pe_not (pe_callB call_isi (by rfl) T.isi (by decide +kernel) (pa_cons (pv 0) (pa_cons (pe_bltn (v := .ty "bool") (by rfl) T.bool (by decide +kernel) rfl) pa_nil))))))), ?_⟩
    refine ⟨_, rfl, _, _, _, _, true, rfl, .ty "int", .base (.int i), kit_ty (by decide +kernel), true, rfl, iteT ?_⟩
    exact ⟨_, rfl, _, _, _, _, false, rfl, .ty "bool", .base (.int i), kit_ty (by decide +kernel), false, rfl, k⟩
theorem ok_from {f g : Addr} {fd gd : FuncData} (D : Dn K mg "is_from" sFrom ["thing", "low", "high"] f fd) (DW : Dn K mg "is_whole" sWhole ["thing"] g gd) (GW : FnOk P w K mg base CX0 1 g gd ["thing"] spWhole) :
    FnOk P w K mg base CX0 2 f fd ["thing", "low", "high"] spFrom := by
  refine D.fn.ok scFrom (fun vs H Q E h => ?_) (fun cdv A outer s H vs Q E hr h => ?_)
  · obtain ⟨i, lo, hi, rfl, _⟩ := h
    rfl
  · obtain ⟨i, lo, hi, rfl, k⟩ := h
    refine ⟨_, pss_one (ps_ret (pe_and (pcl DW GW hr (pa_cons (pv 0) pa_nil))
      (pe_one (pe_chain op_le op_le (pv 1) (pv 0) (pv 2))))), ?_⟩
    refine ⟨_, rfl, i, rfl, true, rfl, iteT ?_⟩
    refine ⟨_, rfl, _, rfl, _, _, rfl, rfl, _, rfl, ?_⟩
    by_cases h1 : lo ≤ i
    · rw [decide_eq_true h1]
      refine iteT ⟨_, rfl, _, _, rfl, rfl, ?_⟩
      have e : decide (lo ≤ i ∧ i ≤ hi) = decide (i ≤ hi) := decide_eq_decide.mpr ⟨fun z => z.2, fun z => ⟨h1, z⟩⟩
      rw [e] at k
      exact k
    · rw [decide_eq_false h1]
      refine iteF ?_
      have e : decide (lo ≤ i ∧ i ≤ hi) = false := decide_eq_false fun z => h1 z.1
      rw [e] at k
      exact k
theorem ok_break {f g : Addr} {fd gd : FuncData} (T : Txt mg) (D : Dn K mg "is_break" sBreak ["thing"] f fd) (DF : Dn K mg "is_from" sFrom ["thing", "low", "high"] g gd) (GF : FnOk P w K mg base CX0 2 g gd ["thing", "low", "high"] spFrom) :
    FnOk P w K mg base CX0 3 f fd ["thing"] spBreak := by
  refine D.fn.ok scBreak (fun vs H Q E h => ?_) (fun cdv A outer s H vs Q E hr h => ?_)
  · obtain ⟨i, rfl, _⟩ := h
    rfl
  · obtain ⟨i, rfl, h1, h2, k⟩ := h
    obtain ⟨t, et⟩ := T.mb
    refine ⟨_, pss_one (ps_ret (pcl DF GF hr (pa_cons (pv 0) (pa_cons pe_int (pa_cons (pe_glob (v := .int 1000000000) rfl et ⟨_, rfl⟩) pa_nil))))), ?_⟩
    refine ⟨_, rfl, i, 0, 1000000000, rfl, ?_⟩
    rw [decide_eq_true (show (0 : Int) ≤ i ∧ i ≤ 1000000000 from ⟨h1, h2⟩)]
    exact k
theorem ok_finding {f g b : Addr} {fd gd bd : FuncData} (T : Txt mg) (D : Dn K mg "is_finding" sFinding ["thing"] f fd) (DF : Dn K mg "is_from" sFrom ["thing", "low", "high"] g gd) (GF : FnOk P w K mg base CX0 2 g gd ["thing", "low", "high"] spFrom)
    (DB : Dn K mg "is_break" sBreak ["thing"] b bd) (GB : FnOk P w K mg base CX0 3 b bd ["thing"] spBreak) : FnOk P w K mg base CX0 4 f fd ["thing"] (spFinding K) := by
  refine D.fn.ok scFinding (fun vs H Q E h => ?_) (fun cdv A outer s H vs Q E hr h => ?_)
  · obtain ⟨v, x, rfl, _⟩ := h
    rfl
  · obtain ⟨v, x, rfl, hd, hx, k⟩ := h
    obtain ⟨a, rfl, hs⟩ := Dp.trip hd
    obtain ⟨t, et⟩ := T.ms
    have hr2 : Room 2 _ := hr.mono (by decide)
    refine ⟨_, pss_cons (ps_if (PW.pt (pw_or (pt_not (pt_val (pe_callB call_isi (by rfl) T.isi (by decide +kernel) (pa_cons (pv 0) (pa_cons (pe_bltn (v := .ty "tuple") (by rfl) T.tuple (by decide +kernel) rfl) pa_nil)))))
        (pw_or (pt_cmpR op_ne (pe_callB call_len_seq (by rfl) T.len PySem.boot_len (pa_cons (pv 0) pa_nil)) pe_int (nomark _))
        (pw_or1 (pt_not (pt_val (pcl DB GB hr (pa_cons (pe_ix ix_tup (pv 0) pe_int (fun _ _ => rfl)) pa_nil)))))))) (pss_one (ps_ret pe_bl)) pss_nil)
      (pss_one (ps_ret (pe_and (pcl DF GF hr2 (pa_cons (pe_ix ix_tup (pv 0) pe_int (fun _ _ => rfl)) (pa_cons pe_int (pa_cons (pe_glob (v := .int 100) rfl et ⟨_, rfl⟩) pa_nil))))
        (pe_one (pcl DF GF hr2 (pa_cons (pe_ix ix_tup (pv 0) pe_int (fun _ _ => rfl)) (pa_cons (pe_ix ix_tup (pv 0) pe_int (fun _ _ => rfl)) (pa_cons (pe_glob (v := .int 100) rfl et ⟨_, rfl⟩) pa_nil)))))))), ?_⟩
    have g0 : atI [V.int x.1, .int x.2.1, .int x.2.2] 0 = some (.int x.1) := at_of (j := 0) rfl rfl
    have g1 : atI [V.int x.1, .int x.2.1, .int x.2.2] 1 = some (.int x.2.1) := at_of (j := 1) rfl rfl
    have g2 : atI [V.int x.1, .int x.2.1, .int x.2.2] 2 = some (.int x.2.2) := at_of (j := 2) rfl rfl
    refine ⟨_, rfl, _, _, _, _, true, rfl, .ty "tuple", tyT hs, kit_ty (by decide +kernel), true, rfl, iteF ?_⟩
    refine ⟨_, rfl, a, _, rfl, .inr hs, rfl, _, rfl, iteF ?_⟩
    refine ⟨_, rfl, _, _, _, _, rfl, rfl, hs, g0, x.1, rfl, hx.a, hx.b, true, rfl, iteF ?_⟩
    refine ⟨_, rfl, _, _, _, _, rfl, rfl, hs, g1, x.2.1, 0, 100, rfl, ?_⟩
    have := hx.c; have := hx.d; have := hx.e
    refine ⟨_, rfl, ?_⟩
    rw [decide_eq_true (show (0 : Int) ≤ x.2.1 ∧ x.2.1 ≤ 100 by omega)]
    refine iteT ⟨_, rfl, _, _, _, _, rfl, rfl, hs, g2, _, rfl, _, _, _, _, rfl, rfl, hs, g1, x.2.2, x.2.1, 100, rfl, ?_⟩
    rw [decide_eq_true (show x.2.1 ≤ x.2.2 ∧ x.2.2 ≤ 100 by omega)]
    exact k
end
end Brk
/-! is_tasting, breaks_in, want_tastings -/
namespace Brk
open PySem L2
abbrev sTasting : Stmt := topS 17
abbrev sBreaks : Stmt := topS 18
abbrev sWant : Stmt := topS 19
theorem scTasting : FnScope ["thing", "one"] ["thing"] (defScope sTasting) := ⟨rfl, rfl, rfl, by decide +kernel, rfl, by decide +kernel, by decide +kernel⟩
theorem scBreaks : FnScope ["tastings", "found", "tasting", "number", "low", "high"] ["tastings"] (defScope sBreaks) := ⟨rfl, rfl, rfl, by decide +kernel, rfl, by decide +kernel, by decide +kernel⟩
theorem scWant : FnScope ["tastings", "thing"] ["tastings"] (defScope sWant) := ⟨rfl, rfl, rfl, by decide +kernel, rfl, by decide +kernel, by decide +kernel⟩
def spTasting (K : PySem.W.Frag) : Sp := fun vs H Q _ => ∃ (v : V) (start high : Int) (m : List Int), vs = [v] ∧ Bnd start high ∧ Mask m ∧ Dp K H v (dT start high m) ∧ ∀ H', Same H H' → Q (.bl true) H'
theorem tst_len {start high : Int} {m : List Int} (hm : Mask m) : (tst start high m).length ≤ 12 := by
  have := hm.len
  show (_ :: _).length ≤ 12
  rw [List.length_cons, List.length_map]
  omega
theorem tst_ok {start high : Int} {m : List Int} (hb : Bnd start high) (hm : Mask m) {f : Int × Int × Int} (hf : f ∈ tst start high m) : FOk f := by
  have h1 := hb.s0; have h2 := hb.s1; have h3 := hb.h0; have h4 := hb.h1
  rcases List.mem_cons.mp hf with e | hf
  · subst e
    exact ⟨by show 0 ≤ start + 11; omega, h2, by show 0 ≤ high + 1; omega, by show high + 1 ≤ 100; omega, by show (100 : Int) ≤ 100; omega⟩
  · obtain ⟨j, hj, rfl⟩ := List.mem_map.mp hf
    have := hm.2 j hj
    exact ⟨by show 0 ≤ start + j; omega, by show start + j ≤ 1000000000; omega, by show (0 : Int) ≤ 0; omega, h3, by show high ≤ 100; omega⟩
theorem tst_ge {start high : Int} {m : List Int} (hm : Mask m) {f : Int × Int × Int} (hf : f ∈ tst start high m) : start ≤ f.1 ∧ f.1 < start + 12 := by
  rcases List.mem_cons.mp hf with e | hf
  · subst e
    show start ≤ start + 11 ∧ start + 11 < start + 12
    omega
  · obtain ⟨j, hj, rfl⟩ := List.mem_map.mp hf
    have := hm.2 j hj
    show start ≤ start + j ∧ start + j < start + 12
    omega
theorem tst_nodup {start high : Int} {m : List Int} (hm : Mask m) : ((tst start high m).map (·.1)).Nodup := by
  show (_ :: List.map _ (List.map _ m)).Nodup
  rw [List.map_map]
  refine List.nodup_cons.mpr ⟨fun h => ?_, ?_⟩
  · obtain ⟨j, hj, e⟩ := List.mem_map.mp h
    have q := hm.2 j hj
    have e' : start + j = start + 11 := e
    omega
  · refine List.pairwise_map.mpr (hm.1.imp fun {a b} h => ?_)
    show start + a ≠ start + b
    omega
section
variable {P : Program} {w : World} {K : PySem.W.Frag} {mg : Str → Option Value} {base : Heap}
theorem ok_tasting {f g : Addr} {fd gd : FuncData} (T : Txt mg) (D : Dn K mg "is_tasting" sTasting ["thing"] f fd) (DF : Dn K mg "is_finding" sFinding ["thing"] g gd) (GF : FnOk P w K mg base CX0 4 g gd ["thing"] (spFinding K)) :
    FnOk P w K mg base CX0 5 f fd ["thing"] (spTasting K) := by
  refine D.fn.ok scTasting (fun vs H Q E h => ?_) (fun cdv A outer s H vs Q E hr h => ?_)
  · obtain ⟨v, _, _, _, rfl, _⟩ := h
    rfl
  · obtain ⟨v, start, high, m, rfl, hb, hm, hd, k⟩ := h
    obtain ⟨a, xs, rfl, hs, ha⟩ := Dp.lst_inv hd
    obtain ⟨t, et⟩ := T.mbs
    have hlen : xs.length = (tst start high m).length := (DpAll.length ha).trans (List.length_map ..)
    have hl12 : xs.length ≤ 12 := hlen ▸ tst_len hm
    refine ⟨_, pss_cons (ps_if (PW.pt (pw_or (pt_not (pt_val (pe_callB call_isi (by rfl) T.isi (by decide +kernel) (pa_cons (pv 0) (pa_cons (pe_bltn (v := .ty "list") (by rfl) T.list (by decide +kernel) rfl) pa_nil)))))
        (pw_or (pt_cmpR op_gt (p_len T (pv 0)) (pe_glob (v := .int 12) rfl et ⟨_, rfl⟩) (nomark _))
        (pw_or1 (pt_not (pt_val (pe_callB (cr_all rfl) (by rfl) T.all (by decide +kernel) (pa_cons
          (pe_lc (own := [("one", 1)]) (g := gName 1) (tt := tYes) rfl scTasting.nd (pi_list (pv 0)) (blkOk_by (N := ["thing", "one"]) (sc := defScope sTasting) (by decide +kernel)) (fun _ _ _ _ _ => pg_name (i := 1) scTasting.nd rfl (Or.inl rfl)) (fun _ _ _ _ _ => pts_nil)
            (fun _ _ _ _ _ => pcl DF GF hr (pa_cons (pv 1) pa_nil))) pa_nil)))))))) (pss_one (ps_ret pe_bl)) pss_nil)
      (pss_one (ps_ret (pe_cmpR op_eq (RZ.pe_lenSetI (by rfl) T.len (by rfl) T.set
          (pe_lc (own := [("one", 1)]) (g := gName 1) (tt := tYes) rfl scTasting.nd (pi_list (pv 0)) (blkOk_by (N := ["thing", "one"]) (sc := defScope sTasting) (by decide +kernel)) (fun _ _ _ _ _ => pg_name (i := 1) scTasting.nd rfl (Or.inl rfl)) (fun _ _ _ _ _ => pts_nil)
            (fun _ _ _ _ _ => pe_ix (r := rIxT K) ix_tup (pv 1) pe_int (fun _ _ => rfl)))) (p_len T (pv 0)) (nomark _)))), ?_⟩
    refine ⟨_, rfl, _, _, _, _, true, rfl, .ty "list", tyL hs, kit_ty (by decide +kernel), true, rfl, iteF ?_⟩
    refine ⟨_, rfl, a, xs, rfl, .inl hs, _, _, rfl, rfl, _, rfl, ?_⟩
    rw [decide_eq_false (show ¬ (12 : Int) < (xs.length : Nat) by omega)]
    refine iteF ⟨_, rfl, a, rfl, ⟨_, hs⟩, fun L hL => lc_list (K := K) (a := a) (xs := xs) (fun i H' => H' = upd H L (.lst ((List.replicate i true).map V.bl))) rfl (fun i H' _ e => by rw [e]; exact (same_upd hL).seq hs) ?_ ?_⟩
    · rintro i x H' hx rfl
      obtain ⟨d, hd1, hd2⟩ := DpAll.at ha hx
      obtain ⟨fx, hf1, rfl⟩ : ∃ f, (tst start high m)[i]? = some f ∧ dF f = d := by simpa using hd1
      refine ⟨rfl, ?_⟩
      refine ⟨_, rfl, x, fx, rfl, Dp.same (same_upd hL) _ hd2, tst_ok hb hm (List.mem_of_getElem? hf1), ?_⟩
      refine ⟨_, upd_same, ?_, ?_⟩
      · rw [List.length_map, List.length_replicate]
        have := (List.getElem?_eq_some_iff.mp hx).1
        exact small1000 (by omega)
      · rw [upd_upd, List.replicate_succ', List.map_append]
        rfl
    · rintro H' rfl
      refine ⟨L, _, rfl, SqL.of upd_same, true, ?_, iteF ?_⟩
      · simp
      refine ⟨_, rfl, a, rfl, ⟨_, (same_upd hL).seq hs⟩, fun L2 hL2 => lc_list (K := K) (a := a) (xs := xs) (fun i H' => H' = upd (upd H L (.lst ((List.replicate xs.length true).map V.bl))) L2 (.lst ((((tst start high m).take i).map (·.1)).map V.int))) rfl
        (fun i H' _ e => by rw [e]; exact ((same_upd hL).trans (same_upd hL2)).seq hs) ?_ ?_⟩
      · rintro i x H' hx rfl
        obtain ⟨d, hd1, hd2⟩ := DpAll.at ha hx
        obtain ⟨fx, hf1, rfl⟩ : ∃ f, (tst start high m)[i]? = some f ∧ dF f = d := by simpa using hd1
        obtain ⟨b, rfl, hq⟩ := Dp.trip (Dp.same ((same_upd hL).trans (same_upd hL2)) _ hd2)
        refine ⟨rfl, ?_⟩
        refine ⟨_, rfl, _, _, _, _, rfl, rfl, hq, at_of (j := 0) rfl rfl, ?_⟩
        refine ⟨_, upd_same, ?_, ?_⟩
        · rw [List.length_map, List.length_map, List.length_take]
          exact small1000 (by omega)
        · rw [upd_upd, List.take_add_one, hf1, List.map_append, List.map_append]
          rfl
      · rintro H' rfl
        have e : (tst start high m).take xs.length = tst start high m := List.take_of_length_le (by omega)
        rw [e]
        refine ⟨L2, _, rfl, SqL.of upd_same, tst_nodup hm, ?_, ?_⟩
        · rw [List.length_map]
          omega
        refine ⟨_, rfl, a, xs, rfl, .inl (((same_upd hL).trans (same_upd hL2)).seq hs), rfl, ?_⟩
        show Q (V.bl (decide (V.int (((tst start high m).map (·.1)).length : Nat) = V.int (xs.length : Nat)))) _
        rw [decide_eq_true (by rw [List.length_map, hlen])]
        exact k _ ((same_upd hL).trans (same_upd hL2))
end
end Brk
/-! breaks_in, want_tastings -/
namespace Brk
open PySem L2
def spBreaks (K : PySem.W.Frag) : Sp := fun vs H Q _ => ∃ (v : V) (start high : Int) (ms : List (List Int)), vs = [v] ∧ Bnd start high ∧ Masks ms ∧ Dp K H v (dTs start high ms) ∧
  ∀ (H' : Hp) (p : Addr) (ns : List Int), Same H H' → H' p = some (.lst (ns.map V.int)) → ns.length ≤ 12 → Q (.ref p) H'
def spWant (K : PySem.W.Frag) : Sp := fun vs H Q _ => ∃ (v : V) (start high : Int) (ms : List (List Int)), vs = [v] ∧ Bnd start high ∧ Masks ms ∧ Dp K H v (dTs start high ms) ∧ ∀ H', Same H H' → Q .non H'
section
variable {P : Program} {w : World} {K : PySem.W.Frag} {mg : Str → Option Value} {base : Heap}
theorem ok_breaks {f : Addr} {fd : FuncData} (T : Txt mg) (D : Dn K mg "breaks_in" sBreaks ["tastings"] f fd) : FnOk P w K mg base CX0 1 f fd ["tastings"] (spBreaks K) := by
  refine D.fn.ok scBreaks (fun vs H Q E h => ?_) (fun cdv A outer s H vs Q E hr h => ?_)
  · obtain ⟨v, _, _, _, rfl, _⟩ := h
    rfl
  · obtain ⟨v, start, high, ms, rfl, hb, hm, hd, k⟩ := h
    obtain ⟨a, xs, rfl, hs, ha⟩ := Dp.lst_inv hd
    have hlen : xs.length = ms.length := (DpAll.length ha).trans (List.length_map ..)
    have h10 := hm.2.1
    refine ⟨_, pss_cons (ps_set (i := 1) scBreaks.nd rfl (Or.inl rfl) (pe_lst pa_nil))
      (pss_cons (ps_for PassesOwn.never rfl (pi_list (pv 0)) (pg_name (i := 2) scBreaks.nd rfl (Or.inl rfl))
        (pss_one (ps_expr (pe_bm PySem.F.plainAttrs_list PySem.F.slot_list_extend PySem.F.type_list_extend mt_extend (pv 1) (pa_cons
          (pe_lc (own := [("number", 3), ("low", 4), ("high", 5)]) (g := gTup K 3 (gCons (gName 3) (gCons (gName 4) (gCons (gName 5) gNil)))) (tt := tYes) rfl scBreaks.nd (pi_list (pv 2))
            (blkOk_by (N := ["tastings", "found", "tasting", "number", "low", "high"]) (sc := defScope sBreaks) (by decide +kernel))
            (fun _ _ _ _ _ => pg_tup rfl (pgs_cons (pg_name (i := 3) scBreaks.nd rfl (Or.inl rfl)) (pgs_cons (pg_name (i := 4) scBreaks.nd rfl (Or.inl rfl)) (pgs_cons (pg_name (i := 5) scBreaks.nd rfl (Or.inl rfl)) pgs_nil))))
            (fun _ _ _ _ _ => pts_nil) (fun _ _ _ _ _ => pv 3)) pa_nil)))))
      (pss_one (ps_ret (pe_callB (cr_sortedSet rfl) (by rfl) T.sorted (by decide +kernel) (pa_cons (pe_callTy (cr_setL rfl) (by rfl) T.set PyProof.Rows.boot_set (pa_cons (pv 1) pa_nil)) pa_nil))))), ?_⟩
    refine ⟨Nat.zero_le _, fun L hL => ?_⟩
    refine ⟨_, rfl, a, rfl, ⟨_, (same_upd hL).seq hs⟩, for_list (K := K) (a := a) (xs := xs) (fun i σ H' => ∃ (fs : List Int) (v : Option V), σ = [some (.ref a), some (.ref L), v, none, none, none] ∧ Same H H' ∧ H' L = some (.lst (fs.map V.int)) ∧
        fs.length ≤ 12 * i ∧ ∀ x ∈ fs, start ≤ x ∧ x < start + 12)
      ⟨[], none, rfl, same_upd hL, upd_same, Nat.zero_le _, fun _ h => by cases h⟩ (fun i σ H' _ ⟨_, _, _, e, _⟩ => e.seq hs) ?_ ?_⟩
    · rintro i x σ H' hx ⟨fs, v, rfl, e1, e2, e3, e4⟩
      obtain ⟨d, hd1, hd2⟩ := DpAll.at ha hx
      obtain ⟨m, hm1, rfl⟩ : ∃ m, ms[i]? = some m ∧ dT start high m = d := by simpa using hd1
      have hmm : Mask m := hm.2.2 m (List.mem_of_getElem? hm1)
      obtain ⟨b, ys, rfl, hq, hya⟩ := Dp.lst_inv hd2
      have hi : i < ms.length := (List.getElem?_eq_some_iff.mp hm1).1
      have hyl : ys.length = (tst start high m).length := (DpAll.length hya).trans (List.length_map ..)
      have h12 := tst_len (start := start) (high := high) hmm
      refine ⟨_, rfl, .inl ⟨rfl, _, SqL.of e2⟩, _, rfl, b, rfl, ⟨_, e1.seq hq⟩, fun L2 hL2 => lc_list (K := K) (a := b) (xs := ys) (fun j H2 => H2 = upd H' L2 (.lst ((((tst start high m).take j).map (·.1)).map V.int))) rfl
        (fun j H2 _ e => by rw [e]; exact (same_upd hL2).seq (e1.seq hq)) ?_ ?_⟩
      · rintro j y H2 hy rfl
        obtain ⟨d, hd1, hd2⟩ := DpAll.at hya hy
        obtain ⟨fx, hf1, rfl⟩ : ∃ f, (tst start high m)[j]? = some f ∧ dF f = d := by simpa using hd1
        obtain ⟨c, rfl, hc⟩ := Dp.trip (Dp.same (e1.trans (same_upd hL2)) _ hd2)
        refine ⟨c, _, rfl, hc, rfl, _, _, rfl, _, _, rfl, _, _, rfl, rfl, ?_⟩
        refine ⟨rfl, _, rfl, _, upd_same, ?_, ?_⟩
        · rw [List.length_map, List.length_map, List.length_take]
          exact small1000 (by omega)
        · rw [upd_upd, List.take_add_one, hf1, List.map_append, List.map_append]
          rfl
      · rintro H2 rfl
        have nL : L ≠ L2 := ne_of_none e2 hL2
        have et : (tst start high m).take ys.length = tst start high m := List.take_of_length_le (by omega)
        rw [et]
        refine ⟨L, L2, _, _, rfl, rfl, Eq.trans (upd_ne nL) e2, upd_same, ?_, ?_⟩
        · rw [List.length_map, List.length_map, List.length_map]
          exact Nat.le_of_lt (small1000 (by omega))
        · refine ⟨fs ++ (tst start high m).map (·.1), _, rfl, Same.upd (e1.trans (same_upd hL2)) hL, by rw [List.map_append]; exact upd_same, ?_, fun x hx => ?_⟩
          · rw [List.length_append, List.length_map]
            omega
          · rcases List.mem_append.mp hx with hx | hx
            · exact e4 x hx
            · obtain ⟨y, hy, rfl⟩ := List.mem_map.mp hx
              exact tst_ge hmm hy
    · rintro σ H' ⟨fs, v, rfl, e1, e2, e3, e4⟩
      refine ⟨_, rfl, L, fs, rfl, SqL.of e2, by omega, fun p out hn ho hp => ?_⟩
      have hol : out.length ≤ 12 := len_nodup (a := start) hn fun x hx => by
        have := e4 x ((ho x).mp hx)
        omega
      refine ⟨p, _, _, rfl, upd_same, by omega, fun ns q hlt hmem hl hq => ?_⟩
      have s1 : Same H' (upd H' p (SetO w p (fun j => decide (j ∈ fs)) out.length)) := same_upd hp
      exact k _ q ns (e1.trans (s1.trans (same_upd hq))) upd_same (by omega)
theorem ok_want {f g b : Addr} {fd gd bd : FuncData} (T : Txt mg) (D : Dn K mg "want_tastings" sWant ["tastings"] f fd) (DT : Dn K mg "is_tasting" sTasting ["thing"] g gd) (GT : FnOk P w K mg base CX0 5 g gd ["thing"] (spTasting K))
    (DB : Dn K mg "breaks_in" sBreaks ["tastings"] b bd) (GB : FnOk P w K mg base CX0 1 b bd ["tastings"] (spBreaks K)) : FnOk P w K mg base CX0 6 f fd ["tastings"] (spWant K) := by
  refine D.fn.ok scWant (fun vs H Q E h => ?_) (fun cdv A outer s H vs Q E hr h => ?_)
  · obtain ⟨v, _, _, _, rfl, _⟩ := h
    rfl
  · obtain ⟨v, start, high, ms, rfl, hb, hm, hd, k⟩ := h
    obtain ⟨a, xs, rfl, hs, ha⟩ := Dp.lst_inv hd
    have hlen : xs.length = ms.length := (DpAll.length ha).trans (List.length_map ..)
    have h10 := hm.2.1
    obtain ⟨t1, et⟩ := T.mt
    obtain ⟨t2, eb⟩ := T.mbs
    have hr1 : Room 1 _ := hr.mono (by decide)
    refine ⟨_, pss_cons (ps_if (PW.pt (pw_and (pt_val (pe_callB call_isi (by rfl) T.isi (by decide +kernel) (pa_cons (pv 0) (pa_cons (pe_bltn (v := .ty "list") (by rfl) T.list (by decide +kernel) rfl) pa_nil))))
        (pw_and1 (pt_cmpR op_gt (p_len T (pv 0)) (pe_glob (v := .int 10) rfl et ⟨_, rfl⟩) (nomark _))))) (pss_one ps_never) pss_nil)
      (pss_cons (ps_if (PW.pt (pw_or (pt_not (pt_val (pe_callB call_isi (by rfl) T.isi (by decide +kernel) (pa_cons (pv 0) (pa_cons (pe_bltn (v := .ty "list") (by rfl) T.list (by decide +kernel) rfl) pa_nil)))))
        (pw_or1 (pt_not (pt_val (pe_callB (cr_all rfl) (by rfl) T.all (by decide +kernel) (pa_cons
          (pe_lc (own := [("thing", 1)]) (g := gName 1) (tt := tYes) rfl scWant.nd (pi_list (pv 0)) (blkOk_by (N := ["tastings", "thing"]) (sc := defScope sWant) (by decide +kernel)) (fun _ _ _ _ _ => pg_name (i := 1) scWant.nd rfl (Or.inl rfl)) (fun _ _ _ _ _ => pts_nil)
            (fun _ _ _ _ _ => pcl DT GT hr (pa_cons (pv 1) pa_nil))) pa_nil))))))) (pss_one ps_never) pss_nil)
      (pss_one (ps_if (pt_cmpR op_gt (p_len T (pcl DB GB hr1 (pa_cons (pv 0) pa_nil))) (pe_glob (v := .int 12) rfl eb ⟨_, rfl⟩) (nomark _)) (pss_one ps_never) pss_nil))), ?_⟩
    refine ⟨_, rfl, _, _, _, _, true, rfl, .ty "list", tyL hs, kit_ty (by decide +kernel), true, rfl, iteT ?_⟩
    refine ⟨_, rfl, a, xs, rfl, .inl hs, _, _, rfl, rfl, _, rfl, ?_⟩
    rw [decide_eq_false (show ¬ (10 : Int) < (xs.length : Nat) by omega)]
    refine iteF ?_
    refine ⟨_, rfl, _, _, _, _, true, rfl, .ty "list", tyL hs, kit_ty (by decide +kernel), true, rfl, iteF ?_⟩
    refine ⟨_, rfl, a, rfl, ⟨_, hs⟩, fun L hL => lc_list (K := K) (a := a) (xs := xs) (fun i H' => Same H H' ∧ H' L = some (.lst ((List.replicate i true).map V.bl))) ⟨same_upd hL, upd_same⟩ (fun i H' _ e => e.1.seq hs) ?_ ?_⟩
    · rintro i x H' hx ⟨e1, e2⟩
      obtain ⟨d, hd1, hd2⟩ := DpAll.at ha hx
      obtain ⟨m, hm1, rfl⟩ : ∃ m, ms[i]? = some m ∧ dT start high m = d := by simpa using hd1
      refine ⟨rfl, _, rfl, x, start, high, m, rfl, hb, hm.2.2 m (List.mem_of_getElem? hm1), Dp.same e1 _ hd2, fun H2 e => ?_⟩
      refine ⟨_, e _ _ e2, ?_, Same.upd (e1.trans e) hL, ?_⟩
      · rw [List.length_map, List.length_replicate]
        have := (List.getElem?_eq_some_iff.mp hx).1
        exact small1000 (by omega)
      · rw [upd_same, List.replicate_succ', List.map_append]
        rfl
    · rintro H' ⟨e1, e2⟩
      refine ⟨L, _, rfl, SqL.of e2, true, ?_, iteF ?_⟩
      · simp
      refine ⟨_, rfl, _, start, high, ms, rfl, hb, hm, Dp.same e1 _ hd, fun H2 p ns e hp hl => ?_⟩
      refine ⟨p, _, rfl, .inl (SqL.of hp), _, _, rfl, rfl, _, rfl, ?_⟩
      rw [decide_eq_false (show ¬ (12 : Int) < ((ns.map V.int).length : Nat) by rw [List.length_map]; omega)]
      exact iteF (k _ (e1.trans e))
end
end Brk
/-! A dict of ints by its keys and a function. -/
namespace Brk
open PySem L2
def tab (g : Int → Int) (ks : List Int) : List (Key × V) := ks.map fun k => ((Sum.inl k : Key), V.int (g k))
def addK (ks : List Int) (k : Int) : List Int := if k ∈ ks then ks else ks ++ [k]
theorem tab_val (g : Int → Int) (k : Int) : ∀ ks : List Int, valV (tab g ks) (Sum.inl k : Key) = if k ∈ ks then some (.int (g k)) else none
  | [] => rfl
  | j :: ks => by
    show valV (((Sum.inl j : Key), V.int (g j)) :: tab g ks) _ = _
    by_cases e : j = k
    · subst e
      rw [valV_pos rfl, if_pos List.mem_cons_self]
    · rw [valV_neg (fun z => e (Sum.inl.inj z)), tab_val g k ks]
      by_cases h : k ∈ ks
      · rw [if_pos h, if_pos (List.mem_cons_of_mem _ h)]
      · rw [if_neg h, if_neg (fun z => (List.mem_cons.mp z).elim (fun q => e q.symm) h)]
theorem tab_same (g : Int → Int) (k : Int) : ∀ ks : List Int, (tab g ks).map (fun kv => if kv.1 = (Sum.inl k : Key) then (kv.1, V.int (g k)) else kv) = tab g ks
  | [] => rfl
  | j :: ks => by
    show (if (Sum.inl j : Key) = Sum.inl k then ((Sum.inl j : Key), V.int (g k)) else (Sum.inl j, V.int (g j))) :: (tab g ks).map _ = (Sum.inl j, V.int (g j)) :: tab g ks
    rw [tab_same g k ks]
    by_cases e : j = k
    · subst e
      rw [if_pos rfl]
    · rw [if_neg (fun z => e (Sum.inl.inj z))]
theorem tab_put (g : Int → Int) (k : Int) (ks : List Int) : putK (tab g ks) (Sum.inl k : Key) (.int (g k)) = tab g (addK ks k) := by
  by_cases h : k ∈ ks
  · unfold putK addK
    rw [valV_any, tab_val, if_pos h, if_pos h]
    exact (if_pos rfl).trans (tab_same g k ks)
  · rw [putK_new _ (by rw [tab_val, if_neg h])]
    unfold addK tab
    rw [if_neg h, List.map_append]
    rfl
theorem addK_nd {ks : List Int} {k : Int} (h : ks.Nodup) : (addK ks k).Nodup := by
  unfold addK
  by_cases e : k ∈ ks
  · rw [if_pos e]
    exact h
  · rw [if_neg e, List.nodup_append]
    refine ⟨h, List.nodup_cons.mpr ⟨by simp, List.nodup_nil⟩, fun a ha b hb z => e ?_⟩
    have hb' : b = k := by simpa using hb
    rw [← hb', ← z]
    exact ha
theorem addK_mem {ks : List Int} {k x : Int} : x ∈ addK ks k ↔ x ∈ ks ∨ x = k := by
  unfold addK
  by_cases e : k ∈ ks
  · rw [if_pos e]
    exact ⟨.inl, fun h => h.elim id fun z => z ▸ e⟩
  · rw [if_neg e, List.mem_append, List.mem_singleton]
theorem addK_len {ks : List Int} {k : Int} : (addK ks k).length ≤ ks.length + 1 := by
  unfold addK
  split
  · omega
  · rw [List.length_append, List.length_singleton]
    exact Nat.le_refl _
theorem tab_len (g : Int → Int) (ks : List Int) : (tab g ks).length = ks.length := List.length_map ..
/-! ### the bounds -/
def lowOf (start high k : Int) : Int := if k = start + 11 then high + 1 else 0
def highOf (start high k : Int) : Int := if k = start + 11 then 100 else high
theorem tst_vals {start high : Int} {m : List Int} (hm : Mask m) {f : Int × Int × Int} (hf : f ∈ tst start high m) : f.2.1 = lowOf start high f.1 ∧ f.2.2 = highOf start high f.1 := by
  rcases List.mem_cons.mp hf with e | hf
  · subst e
    exact ⟨(if_pos rfl).symm, (if_pos rfl).symm⟩
  · obtain ⟨j, hj, rfl⟩ := List.mem_map.mp hf
    have q := hm.2 j hj
    have n : ¬ start + j = start + 11 := by omega
    exact ⟨(if_neg n).symm, (if_neg n).symm⟩
theorem low_ge {start high : Int} (hb : Bnd start high) (k : Int) : 0 ≤ lowOf start high k := by
  have := hb.h0
  unfold lowOf
  split <;> omega
theorem high_le {start high : Int} (hb : Bnd start high) (k : Int) : highOf start high k ≤ 100 := by
  have := hb.h1
  unfold highOf
  split <;> omega
theorem high_lt_low {start high : Int} (hb : Bnd start high) {a b : Int} : highOf start high a < lowOf start high b ↔ a ≠ start + 11 ∧ b = start + 11 := by
  have h0 := hb.h0
  have h1 := hb.h1
  unfold highOf lowOf
  by_cases ha : a = start + 11
  · by_cases hb' : b = start + 11
    · rw [if_pos ha, if_pos hb']
      exact ⟨fun h => by omega, fun h => absurd ha h.1⟩
    · rw [if_pos ha, if_neg hb']
      exact ⟨fun h => by omega, fun h => absurd ha h.1⟩
  · by_cases hb' : b = start + 11
    · rw [if_neg ha, if_pos hb']
      exact ⟨fun _ => ⟨ha, hb'⟩, fun _ => by omega⟩
    · rw [if_neg ha, if_neg hb']
      exact ⟨fun h => by omega, fun h => absurd h.2 hb'⟩
end Brk
/-! bounds_by -/
namespace Brk
open PySem L2
abbrev sBounds : Stmt := topS 20
theorem scBounds : FnScope ["tastings", "lows", "highs", "tasting", "number", "low", "high"] ["tastings"] (defScope sBounds) := ⟨rfl, rfl, rfl, by decide +kernel, rfl, by decide +kernel, by decide +kernel⟩
def keys (start high : Int) (m : List Int) : List Int := (tst start high m).map (·.1)
def spBounds (K : PySem.W.Frag) : Sp := fun vs H Q _ => ∃ (v : V) (start high : Int) (ms : List (List Int)), vs = [v] ∧ Bnd start high ∧ ms.length ≤ 10 ∧ (∀ m ∈ ms, Mask m) ∧ Dp K H v (dTs start high ms) ∧
  ∀ (H' : Hp) (p l h : Addr) (ks : List Int), Same H H' → H' p = some (.tup [.ref l, .ref h]) → H l = none → H h = none → h ≠ l → H' l = some (.dK (tab (lowOf start high) ks)) → H' h = some (.dK (tab (highOf start high) ks)) →
    ks.Nodup → ks.length ≤ 120 → (∀ k, k ∈ ks ↔ ∃ m ∈ ms, k ∈ keys start high m) → Q (.ref p) H'
section
variable {P : Program} {w : World} {K : PySem.W.Frag} {mg : Str → Option Value} {base : Heap}
theorem ok_bounds {f : Addr} {fd : FuncData} (T : Txt mg) (D : Dn K mg "bounds_by" sBounds ["tastings"] f fd) : FnOk P w K mg base CX0 1 f fd ["tastings"] (spBounds K) := by
  refine D.fn.ok scBounds (fun vs H Q E h => ?_) (fun cdv A outer s H vs Q E hr h => ?_)
  · obtain ⟨v, _, _, _, rfl, _⟩ := h
    rfl
  · obtain ⟨v, start, high, ms, rfl, hb, h10, hm, hd, k⟩ := h
    obtain ⟨a, xs, rfl, hs, ha⟩ := Dp.lst_inv hd
    have hlen : xs.length = ms.length := (DpAll.length ha).trans (List.length_map ..)
    have hu := hu_of hr
    obtain ⟨t1, et⟩ := T.ms
    refine ⟨_, pss_cons (ps_set (i := 1) scBounds.nd rfl (Or.inl rfl) pe_dnewK) (pss_cons (ps_set (i := 2) scBounds.nd rfl (Or.inl rfl) pe_dnewK)
      (pss_cons (ps_for PassesOwn.never rfl (pi_list (pv 0)) (pg_name (i := 3) scBounds.nd rfl (Or.inl rfl))
        (pss_one (ps_for PassesOwn.never rfl (pi_list (pv 3)) (pg_tup rfl (pgs_cons (pg_name (i := 4) scBounds.nd rfl (Or.inl rfl)) (pgs_cons (pg_name (i := 5) scBounds.nd rfl (Or.inl rfl)) (pgs_cons (pg_name (i := 6) scBounds.nd rfl (Or.inl rfl)) pgs_nil))))
          (pss_cons (ps_dput hu (pv 1) (pv 4) (pe_callB (call_max2 rfl) (by rfl) T.max (by decide +kernel) (pa_cons (pv 5) (pa_cons (pe_dget2 hu (pv 1) (pv 4) pe_int ⟨rfl, rfl, rfl, rfl⟩) pa_nil))) rfl)
          (pss_one (ps_dput hu (pv 2) (pv 4) (pe_callB (call_min2 rfl) (by rfl) T.min (by decide +kernel) (pa_cons (pv 6) (pa_cons (pe_dget2 hu (pv 2) (pv 4) (pe_glob (v := .int 100) rfl et ⟨_, rfl⟩) ⟨rfl, rfl, rfl, rfl⟩) pa_nil))) rfl))))))
      (pss_one (ps_ret (pe_tup (pa_cons (pv 1) (pa_cons (pv 2) pa_nil))))))), ?_⟩
    intro l hl h hh
    have nhl : h ≠ l := fun e => by
      rw [e, upd_same] at hh
      cases hh
    have hh0 : H h = none := by rw [upd_ne nhl] at hh; exact hh
    have s0 : Same H (upd (upd H l (.dK [])) h (.dK [])) := Same.upd (same_upd hl) hh0
    refine ⟨_, rfl, a, rfl, ⟨_, s0.seq hs⟩, for_list (K := K) (a := a) (xs := xs) (fun i σ H' => ∃ (ks : List Int) (v3 v4 v5 v6 : Option V), σ = [some (.ref a), some (.ref l), some (.ref h), v3, v4, v5, v6] ∧ Same H H' ∧
        H' l = some (.dK (tab (lowOf start high) ks)) ∧ H' h = some (.dK (tab (highOf start high) ks)) ∧ ks.Nodup ∧ ks.length ≤ 12 * i ∧ ∀ k, k ∈ ks ↔ ∃ m ∈ ms.take i, k ∈ keys start high m)
      ⟨[], none, none, none, none, rfl, s0, by rw [upd_ne nhl.symm, upd_same]; rfl, upd_same, List.nodup_nil, Nat.zero_le _, fun k => by simp⟩ (fun i σ H' _ ⟨_, _, _, _, _, _, e, _⟩ => e.seq hs) ?_ ?_⟩
    · rintro i x σ H' hx ⟨ks, v3, v4, v5, v6, rfl, e1, e2, e3, e4, e5, e6⟩
      obtain ⟨d, hd1, hd2⟩ := DpAll.at ha hx
      obtain ⟨m, hm1, rfl⟩ : ∃ m, ms[i]? = some m ∧ dT start high m = d := by simpa using hd1
      have hmm : Mask m := hm m (List.mem_of_getElem? hm1)
      have hi : i < ms.length := (List.getElem?_eq_some_iff.mp hm1).1
      obtain ⟨b, ys, rfl, hq, hya⟩ := Dp.lst_inv hd2
      have hyl : ys.length = (tst start high m).length := (DpAll.length hya).trans (List.length_map ..)
      have h12 := tst_len (start := start) (high := high) hmm
      refine ⟨_, rfl, b, rfl, ⟨_, e1.seq hq⟩, for_list (K := K) (a := b) (xs := ys) (fun j σ H' => ∃ (ks : List Int) (v4 v5 v6 : Option V), σ = [some (.ref a), some (.ref l), some (.ref h), some (.ref b), v4, v5, v6] ∧ Same H H' ∧
          H' l = some (.dK (tab (lowOf start high) ks)) ∧ H' h = some (.dK (tab (highOf start high) ks)) ∧ ks.Nodup ∧ ks.length ≤ 12 * i + j ∧ ∀ k, k ∈ ks ↔ (∃ m ∈ ms.take i, k ∈ keys start high m) ∨ k ∈ (keys start high m).take j)
        ⟨ks, v4, v5, v6, rfl, e1, e2, e3, e4, e5, fun k => by rw [e6 k]; simp⟩ (fun j σ H' _ ⟨_, _, _, _, _, e, _⟩ => e.seq hq) ?_ ?_⟩
      · clear e1 e2 e3 e4 e5 e6
        rintro j y σ H' hy ⟨ks, v4, v5, v6, rfl, e1, e2, e3, e4, e5, e6⟩
        obtain ⟨d, hd1, hd2⟩ := DpAll.at hya hy
        obtain ⟨fx, hf1, rfl⟩ : ∃ f, (tst start high m)[j]? = some f ∧ dF f = d := by simpa using hd1
        have hfm := List.mem_of_getElem? hf1
        obtain ⟨z1, z2⟩ := tst_vals hmm hfm
        have hj : j < (tst start high m).length := (List.getElem?_eq_some_iff.mp hf1).1
        have hkj : (keys start high m)[j]? = some fx.1 := by
          unfold keys
          rw [List.getElem?_map, hf1]
          rfl
        obtain ⟨c, rfl, hc⟩ := Dp.trip (Dp.same e1 _ hd2)
        have g1 : (valV (tab (lowOf start high) ks) (Sum.inl fx.1 : Key)).getD (.int 0) = .int (if fx.1 ∈ ks then lowOf start high fx.1 else 0) := by
          rw [tab_val]
          split <;> rfl
        have g2 : (valV (tab (highOf start high) ks) (Sum.inl fx.1 : Key)).getD (.int 100) = .int (if fx.1 ∈ ks then highOf start high fx.1 else 100) := by
          rw [tab_val]
          split <;> rfl
        have m1 : (if (if fx.1 ∈ ks then lowOf start high fx.1 else 0) > fx.2.1 then (if fx.1 ∈ ks then lowOf start high fx.1 else 0) else fx.2.1) = lowOf start high fx.1 := by
          have := low_ge hb fx.1
          rw [z1]
          by_cases c : fx.1 ∈ ks
          · rw [if_pos c, if_neg (by omega)]
          · rw [if_neg c, if_neg (by omega)]
        have m2 : (if (if fx.1 ∈ ks then highOf start high fx.1 else 100) < fx.2.2 then (if fx.1 ∈ ks then highOf start high fx.1 else 100) else fx.2.2) = highOf start high fx.1 := by
          have := high_le hb fx.1
          rw [z2]
          by_cases c : fx.1 ∈ ks
          · rw [if_pos c, if_neg (by omega)]
          · rw [if_neg c, if_neg (by omega)]
        have hz : (tab (lowOf start high) ks).length < sizeLine := by
          rw [tab_len]
          exact small1000 (by omega)
        have hz2 : (tab (highOf start high) ks).length < sizeLine := by
          rw [tab_len]
          exact small1000 (by omega)
        refine ⟨c, _, rfl, hc, rfl, _, _, rfl, _, _, rfl, _, _, rfl, rfl, ?_⟩
        refine ⟨_, rfl, _, rfl, l, rfl, .inl ⟨_, .inl e2⟩, _, rfl, _, DGet.k (k := Sum.inl fx.1) e2, _, _, by rw [g1], ?_⟩
        rw [m1]
        refine ⟨_, rfl, _, rfl, l, _, rfl, DPut.k (k := Sum.inl fx.1) e2 hz, ?_⟩
        rw [tab_put]
        have e3' : upd H' l (.dK (tab (lowOf start high) (addK ks fx.1))) h = some (.dK (tab (highOf start high) ks)) := Eq.trans (upd_ne nhl) e3
        refine ⟨_, rfl, _, rfl, h, rfl, .inl ⟨_, .inl e3'⟩, _, rfl, _, DGet.k (k := Sum.inl fx.1) e3', _, _, by rw [g2], ?_⟩
        rw [m2]
        refine ⟨_, rfl, _, rfl, h, _, rfl, DPut.k (k := Sum.inl fx.1) e3' hz2, ?_⟩
        rw [tab_put]
        refine ⟨addK ks fx.1, _, _, _, rfl, Same.upd (Same.upd e1 hl) hh0, by rw [upd_ne nhl.symm, upd_same], upd_same, addK_nd e4, Nat.le_trans addK_len (by omega), fun k => ?_⟩
        rw [addK_mem, e6 k, List.take_add_one, hkj, List.mem_append, or_assoc]
        simp
      · rintro σ H' ⟨ks, v4, v5, v6, rfl, e1, e2, e3, e4, e5, e6⟩
        refine ⟨ks, _, _, _, _, rfl, e1, e2, e3, e4, by omega, fun k => ?_⟩
        have et : (keys start high m).take ys.length = keys start high m := List.take_of_length_le (by unfold keys; rw [List.length_map]; omega)
        rw [e6 k, et, List.take_add_one, hm1]
        constructor
        · rintro (⟨m', h1, h2⟩ | h2)
          · exact ⟨m', List.mem_append_left _ h1, h2⟩
          · exact ⟨m, List.mem_append_right _ (by simp), h2⟩
        · rintro ⟨m', h1, h2⟩
          rcases List.mem_append.mp h1 with h1 | h1
          · exact .inl ⟨m', h1, h2⟩
          · have : m' = m := by simpa using h1
            exact .inr (this ▸ h2)
    · rintro σ H' ⟨ks, v3, v4, v5, v6, rfl, e1, e2, e3, e4, e5, e6⟩
      refine ⟨_, rfl, _, rfl, by show 2 ≤ sizeLine; decide, fun p hp => ?_⟩
      have et : ms.take xs.length = ms := List.take_of_length_le (by omega)
      rw [et] at e6
      have np := ne_of_none e2 hp
      have np2 := ne_of_none e3 hp
      exact k _ p l h ks (e1.trans (same_upd hp)) upd_same hl hh0 nhl (Eq.trans (upd_ne np) e2) (Eq.trans (upd_ne np2) e3) e4 (by omega) e6
end
end Brk
/-! pairs_of -/
namespace Brk
open PySem L2
abbrev sPairs : Stmt := topS 21
theorem scPairs : FnScope ["tastings", "chosen", "lows", "highs", "found", "one", "high", "k", "other", "low"] ["tastings", "chosen"] (defScope sPairs) := ⟨rfl, rfl, rfl, by decide +kernel, rfl, by decide +kernel, by decide +kernel⟩
def sub (ms : List (List Int)) (cs : List Nat) : List (List Int) := cs.map fun k => ms.getD k []
theorem DpAll.pick {K : PySem.W.Frag} {H : Hp} {xs : List V} {ms : List (List Int)} {f : List Int → PyData} (ha : DpAll K H xs (ms.map f)) : ∀ {cs : List Nat}, (∀ k ∈ cs, k < ms.length) → DpAll K H (cs.map fun k => xs.getD k .non) ((sub ms cs).map f)
  | [], _ => .nil
  | c :: cs, hc => by
    have hlt := hc c List.mem_cons_self
    obtain ⟨x, h1, h2⟩ := DpAll.of ha (i := c) (d := f ms[c]) (by rw [List.getElem?_map, List.getElem?_eq_getElem hlt]; rfl)
    have e1 : xs.getD c .non = x := by rw [List.getD_eq_getElem?_getD, h1]; rfl
    have e2 : ms.getD c [] = ms[c] := by rw [List.getD_eq_getElem?_getD, List.getElem?_eq_getElem hlt]; rfl
    show DpAll K H (xs.getD c .non :: _) (f (ms.getD c []) :: _)
    rw [e1, e2]
    exact .cons h2 (DpAll.pick ha fun k hk => hc k (List.mem_cons_of_mem _ hk))
theorem sub_mask {ms : List (List Int)} (hM : Masks ms) {cs : List Nat} (hc : ∀ k ∈ cs, k < ms.length) : ∀ m ∈ sub ms cs, Mask m := fun m h => by
  obtain ⟨k, hk, rfl⟩ := List.mem_map.mp h
  have hlt := hc k hk
  have e2 : ms.getD k [] = ms[k] := by rw [List.getD_eq_getElem?_getD, List.getElem?_eq_getElem hlt]; rfl
  rw [e2]
  exact hM.2.2 _ (List.getElem_mem hlt)
theorem mem_keys {start high : Int} {m : List Int} {k : Int} : k ∈ keys start high m ↔ k = start + 11 ∨ ∃ j ∈ m, k = start + j := by
  show k ∈ (start + 11) :: ((m.map fun j => (start + j, (0 : Int), high)).map (·.1)) ↔ _
  rw [List.map_map, List.mem_cons, List.mem_map]
  constructor
  · rintro (h | ⟨j, hj, e⟩)
    · exact .inl h
    · exact .inr ⟨j, hj, e.symm⟩
  · rintro (h | ⟨j, hj, e⟩)
    · exact .inl h
    · exact .inr ⟨j, hj, e.symm⟩
/-! ### lists of new pairs -/
def IsPr (H H' : Hp) (x : V) (p : Int × Int) : Prop := ∃ t, x = .ref t ∧ H t = none ∧ H' t = some (.tup [.int p.1, .int p.2])
abbrev Prs (H H' : Hp) (xs : List V) (ps : List (Int × Int)) : Prop := Paired (IsPr H H') xs ps
theorem Prs.same {H H' H'' : Hp} {xs : List V} {ps : List (Int × Int)} (r : Prs H H' xs ps) (e : Same H' H'') : Prs H H'' xs ps :=
  Paired.mapP r fun _ _ ⟨t, h1, h2, h3⟩ => ⟨t, h1, h2, e _ _ h3⟩
theorem Prs.append {H H' : Hp} {xs ys : List V} {ps qs : List (Int × Int)} : Prs H H' xs ps → Prs H H' ys qs → Prs H H' (xs ++ ys) (ps ++ qs)
  | .nil, h => h
  | .cons a t, h => .cons a (Prs.append t h)
def pk (H : Hp) : V → Int × Int := fun x => match x with
  | .ref t => match H t with
    | some (.tup [.int a, .int b]) => (a, b)
    | _ => (0, 0)
  | _ => (0, 0)
theorem IsPr.pk {H H' : Hp} {x : V} {p : Int × Int} (h : IsPr H H' x p) : Brk.pk H' x = p := by
  obtain ⟨t, rfl, _, h3⟩ := h
  unfold Brk.pk
  simp only [h3]
theorem Prs.map {H H' : Hp} {xs : List V} {ps : List (Int × Int)} : Prs H H' xs ps → xs.map (Brk.pk H') = ps
  | .nil => rfl
  | .cons a t => by rw [List.map_cons, IsPr.pk a, Prs.map t]
theorem Prs.mem {H H' : Hp} {xs : List V} {ps : List (Int × Int)} : Prs H H' xs ps → ∀ x ∈ xs, ∃ t, x = .ref t ∧ H t = none ∧ H' t = some (.tup [.int (Brk.pk H' x).1, .int (Brk.pk H' x).2])
  | .nil, x, h => by cases h
  | .cons a t, x, h => by
    rcases List.mem_cons.mp h with e | h
    · subst e
      have q := IsPr.pk a
      obtain ⟨t, h1, h2, h3⟩ := a
      exact ⟨t, h1, h2, by rw [q]; exact h3⟩
    · exact Prs.mem t x h
/-- tuples are kept -/
def Tk (H H' : Hp) : Prop := ∀ t us, H t = some (.tup us) → H' t = some (.tup us)
theorem Tk.upd {H H' : Hp} {a : Addr} {o : HO} (e : Tk H H') (h : ∀ us, H' a ≠ some (.tup us)) : Tk H (upd H' a o) := fun t us q => by
  have n : t ≠ a := fun z => h us (z ▸ e t us q)
  rw [upd_ne n]
  exact e t us q
theorem Tk.refl (H : Hp) : Tk H H := fun _ _ q => q
theorem Prs.keep {H H' H'' : Hp} {xs : List V} {ps : List (Int × Int)} (r : Prs H H' xs ps) (e : Tk H' H'') : Prs H H'' xs ps :=
  Paired.mapP r fun _ _ ⟨t, h1, h2, h3⟩ => ⟨t, h1, h2, e _ _ h3⟩
/-- the heap without what stands at l -/
def wo (H : Hp) (l : Addr) : Hp := fun b => if b = l then none else H b
theorem wo_some {H : Hp} {l b : Addr} {o : HO} (n : b ≠ l) (h : H b = some o) : wo H l b = some o := by
  unfold wo
  rw [if_neg n]
  exact h
theorem wo_none {H : Hp} {l b : Addr} (h : H b = none) : wo H l b = none := by
  unfold wo
  split
  · rfl
  · exact h
theorem wo_upd {H : Hp} {l : Addr} {o : HO} : Same (wo H l) (upd H l o) := fun b u e => by
  unfold wo at e
  split at e
  · cases e
  · rename_i n
    rw [upd_ne n]
    exact e
theorem filter_top {ks : List Int} {top : Int} (hn : ks.Nodup) (h : top ∈ ks) : ks.filter (fun o => decide (o = top)) = [top] := by
  induction ks with
  | nil => cases h
  | cons a r ih =>
    obtain ⟨h1, h2⟩ := List.nodup_cons.mp hn
    by_cases e : a = top
    · subst e
      rw [List.filter_cons_of_pos (by simp)]
      have : r.filter (fun o => decide (o = a)) = [] := List.filter_eq_nil_iff.mpr fun x hx z => h1 ((of_decide_eq_true z) ▸ hx)
      rw [this]
    · rw [List.filter_cons_of_neg (by simp [e])]
      exact ih h2 ((List.mem_cons.mp h).elim (fun z => absurd z.symm e) id)
/-- the pairs found by the first i of the keys -/
def pfound (top : Int) (ks : List Int) : List (Int × Int) := (ks.filter fun k => decide (k ≠ top)).map fun k => (k, top)
theorem sort_pairs {H' : Hp} {xs ys : List V} {ks : List Int} {top : Int} {us : List Int} (hx : xs.map (pk H') = pfound top ks) (hp : ys.Perm xs) (hs : SrtO.Srtd (ltP (pk H')) ys) (hn : ks.Nodup)
    (hu : us.Pairwise (· < ·)) (hm : ∀ x, x ∈ us ↔ x ∈ ks ∧ x ≠ top) : ys.map (pk H') = us.map fun k => (k, top) := by
  have hperm : (ys.map (pk H')).Perm (pfound top ks) := hx ▸ hp.map _
  have h2 : ∀ p ∈ ys.map (pk H'), p.2 = top := fun p h => by
    obtain ⟨k, _, rfl⟩ := List.mem_map.mp (hperm.mem_iff.mp h)
    rfl
  have hfn : ((pfound top ks).map (·.1)).Nodup := by
    unfold pfound
    rw [List.map_map]
    have : (fun p : Int × Int => p.1) ∘ (fun k : Int => (k, top)) = id := rfl
    rw [this, List.map_id]
    exact hn.filter _
  have hf : ((ys.map (pk H')).map (·.1)).Nodup := ((hperm.map _).nodup_iff).mpr hfn
  have hle : ((ys.map (pk H')).map (·.1)).Pairwise (· ≤ ·) := by
    rw [List.map_map]
    refine List.pairwise_map.mpr (hs.imp fun {x y} h => ?_)
    have q := SrtO.lexB_no.mp h
    show (pk H' x).1 ≤ (pk H' y).1
    omega
  have e1 : (ys.map (pk H')).map (·.1) = us := ext_sorted (lt_of_le_nodup hle hf) hu fun x => by
    rw [hm x]
    constructor
    · intro h
      obtain ⟨p, hp1, rfl⟩ := List.mem_map.mp h
      obtain ⟨k, hk, rfl⟩ := List.mem_map.mp (hperm.mem_iff.mp hp1)
      have := List.mem_filter.mp hk
      exact ⟨this.1, of_decide_eq_true this.2⟩
    · rintro ⟨h, h'⟩
      exact List.mem_map.mpr ⟨(x, top), hperm.mem_iff.mpr (List.mem_map.mpr ⟨x, List.mem_filter.mpr ⟨h, decide_eq_true h'⟩, rfl⟩), rfl⟩
  rw [← e1, List.map_map]
  refine (List.map_id _).symm.trans (List.map_congr_left fun p h => ?_)
  have := h2 p h
  show p = (p.1, top)
  rw [← this]
end Brk
/-! pairs_of: the walk -/
namespace Brk
open PySem L2
def spPairs (K : PySem.W.Frag) : Sp := fun vs H Q _ => ∃ (v c : V) (start high : Int) (ms : List (List Int)) (cs : List Nat), vs = [v, c] ∧ Bnd start high ∧ Masks ms ∧ Dp K H v (dTs start high ms) ∧ Dp K H c (dC cs) ∧ (∀ k ∈ cs, k < ms.length) ∧ cs.length ≤ 10 ∧
  ∀ (H' : Hp) (p : Addr), Same H H' → NewL K H H' p ((prs start ms cs).map dPr) → Q (.ref p) H'
theorem keys_uni {start high : Int} {ms : List (List Int)} (hM : Masks ms) {cs : List Nat} {ks : List Int} (hk : ∀ k, k ∈ ks ↔ ∃ m ∈ sub ms cs, k ∈ keys start high m) (x : Int) :
    x ∈ (uni ms cs).map (fun j => start + j) ↔ x ∈ ks ∧ x ≠ start + 11 := by
  rw [hk x, List.mem_map]
  constructor
  · rintro ⟨j, hj, rfl⟩
    have hl := uni_elv hj
    obtain ⟨k, h1, h2⟩ := (mem_uni hM).mp hj
    exact ⟨⟨_, List.mem_map.mpr ⟨k, h1, rfl⟩, mem_keys.mpr (.inr ⟨j, h2, rfl⟩)⟩, by omega⟩
  · rintro ⟨⟨m, h1, h2⟩, h3⟩
    obtain ⟨k, hk1, rfl⟩ := List.mem_map.mp h1
    rcases mem_keys.mp h2 with h2 | ⟨j, hj, e⟩
    · exact absurd h2 h3
    · exact ⟨j, (mem_uni hM).mpr ⟨k, hk1, hj⟩, e.symm⟩
theorem all_prs {K : PySem.W.Frag} {H H' : Hp} : ∀ {ys : List V} {ps : List (Int × Int)}, (∀ x ∈ ys, ∃ t, x = .ref t ∧ H t = none ∧ H' t = some (.tup [.int (pk H' x).1, .int (pk H' x).2])) → ys.map (pk H') = ps → NewAll K H H' ys (ps.map dPr)
  | [], _, _, e => by
    subst e
    exact .nil
  | y :: ys, _, h, e => by
    subst e
    obtain ⟨t, h1, h2, h3⟩ := h y List.mem_cons_self
    refine .cons ?_ (all_prs (fun x hx => h x (List.mem_cons_of_mem _ hx)) rfl)
    rw [h1] at h3 ⊢
    exact Dp.of_pair (SqT.of (fr_some.mpr ⟨h2, h3⟩))
section
variable {P : Program} {w : World} {K : PySem.W.Frag} {mg : Str → Option Value} {base : Heap}
theorem ok_pairs {f g : Addr} {fd gd : FuncData} (T : Txt mg) (D : Dn K mg "pairs_of" sPairs ["tastings", "chosen"] f fd) (DB : Dn K mg "bounds_by" sBounds ["tastings"] g gd) (GB : FnOk P w K mg base CX0 1 g gd ["tastings"] (spBounds K)) :
    FnOk P w K mg base CX0 2 f fd ["tastings", "chosen"] (spPairs K) := by
  refine D.fn.ok scPairs (fun vs H Q E h => ?_) (fun cdv A outer s H vs Q E hr h => ?_)
  · obtain ⟨v, c, _, _, _, _, rfl, _⟩ := h
    rfl
  · obtain ⟨v, c, start, high, ms, cs, rfl, hb, hM, hd, hc, hlt, hcl, k⟩ := h
    obtain ⟨a, xs, rfl, hs, ha⟩ := Dp.lst_inv hd
    rw [dC_eq] at hc
    obtain ⟨b, rfl, hq⟩ := Dp.ints hc
    have hlen : xs.length = ms.length := (DpAll.length ha).trans (List.length_map ..)
    refine ⟨_, pss_cons (ps_asg (pcl DB GB hr (pa_cons (pe_lc (own := [("k", 7)]) (g := gName 7) (tt := tYes) rfl scPairs.nd (pi_list (pv 1))
          (blkOk_by (N := ["tastings", "chosen", "lows", "highs", "found", "one", "high", "k", "other", "low"]) (sc := defScope sPairs) (by decide +kernel)) (fun _ _ _ _ _ => pg_name (i := 7) scPairs.nd rfl (Or.inl rfl)) (fun _ _ _ _ _ => pts_nil)
          (fun _ _ _ _ _ => pe_ix (r := rIxL K) ix_list (pv 0) (pv 7) (fun _ _ => rfl))) pa_nil)) (pg_tup (by rfl) (pgs_cons (pg_name (i := 2) scPairs.nd rfl (Or.inl rfl)) (pgs_cons (pg_name (i := 3) scPairs.nd rfl (Or.inl rfl)) pgs_nil))))
      (pss_cons (ps_set (i := 4) scPairs.nd rfl (Or.inl rfl) (pe_lst pa_nil))
      (pss_cons (ps_lock (ps_for PassesOwn.never rfl (pi_items (pv 3)) (pg_tup rfl (pgs_cons (pg_name (i := 5) scPairs.nd rfl (Or.inr rfl)) (pgs_cons (pg_name (i := 6) scPairs.nd rfl (Or.inr rfl)) pgs_nil)))
        (pss_one (ps_expr (pe_bm PySem.F.plainAttrs_list PySem.F.slot_list_extend PySem.F.type_list_extend mt_extend (pv 4) (pa_cons
          (pe_lock (pe_lc (own := [("other", 8), ("low", 9)]) (g := gTup K 2 (gCons (gName 8) (gCons (gName 9) gNil))) rfl scPairs.nd (pi_items (pv 2))
            (blkOk_by (N := ["tastings", "chosen", "lows", "highs", "found", "one", "high", "k", "other", "low"]) (sc := defScope sPairs) (by decide +kernel))
            (fun _ _ _ _ _ => pg_tup rfl (pgs_cons (pg_name (i := 8) scPairs.nd rfl (Or.inl rfl)) (pgs_cons (pg_name (i := 9) scPairs.nd rfl (Or.inl rfl)) pgs_nil)))
            (fun _ _ _ _ _ => pts_one (PW.pt (pw_and (pt_cmpR op_ne (pv 8) (pv 5) (nomark _)) (pw_and1 (pt_cmpR op_lt (pv 6) (pv 9) (nomark _))))))
            (fun _ _ _ _ _ => pe_tup (pa_cons (pv 5) (pa_cons (pv 8) pa_nil))))) pa_nil))))))
      (pss_one (ps_ret (pe_callB cr_sortedPO (by rfl) T.sorted (by decide +kernel) (pa_cons (pv 4) pa_nil)))))), ?_⟩
    refine ⟨_, rfl, b, rfl, ⟨_, hq⟩, fun L1 hL1 => lc_list (K := K) (a := b) (xs := (cs.map fun k : Nat => (k : Int)).map V.int) (fun i H' => H' = upd H L1 (.lst ((cs.take i).map fun k => xs.getD k .non))) rfl
      (fun i H' _ e => by rw [e]; exact (same_upd hL1).seq hq) ?_ ?_⟩
    · rintro i x H' hx rfl
      obtain ⟨n, hn, rfl⟩ : ∃ n, cs[i]? = some n ∧ V.int (n : Nat) = x := by simpa using hx
      have hn2 : n < xs.length := by
        have := hlt n (List.mem_of_getElem? hn)
        omega
      have hi : i < cs.length := (List.getElem?_eq_some_iff.mp hn).1
      refine ⟨rfl, _, rfl, _, rfl, a, xs, _, xs[n], rfl, rfl, (same_upd hL1).seq hs, at_of (j := n) rfl (List.getElem?_eq_getElem hn2), ?_⟩
      refine ⟨_, upd_same, ?_, ?_⟩
      · rw [List.length_map, List.length_take]
        exact small1000 (by omega)
      · rw [upd_upd, List.take_add_one, hn, List.map_append]
        have : xs.getD n .non = xs[n] := by rw [List.getD_eq_getElem?_getD, List.getElem?_eq_getElem hn2]; rfl
        show upd H L1 _ = upd H L1 (.lst (_ ++ [xs.getD n .non]))
        rw [this]
    · rintro H' rfl
      have et : cs.take ((cs.map fun k : Nat => (k : Int)).map V.int).length = cs := List.take_of_length_le (by rw [List.length_map, List.length_map]; exact Nat.le_refl _)
      rw [et]
      have hdp : Dp K (upd H L1 (.lst (cs.map fun k => xs.getD k .non))) (.ref L1) (dTs start high (sub ms cs)) := .lst (SqL.of upd_same) (DpAll.same (same_upd hL1) _ (DpAll.pick ha hlt))
      refine ⟨_, start, high, sub ms cs, rfl, hb, by unfold sub; rw [List.length_map]; exact hcl, sub_mask hM hlt, hdp, fun H2 p l h ks e2 hp hl hh nhl hl2 hh2 hn hkl hks => ?_⟩
      have e1 : Same H H2 := (same_upd hL1).trans e2
      have hl0 : H l = none := (same_upd hL1).free hl
      have hh0 : H h = none := (same_upd hL1).free hh
      refine ⟨p, _, rfl, SqT.of hp, rfl, _, _, rfl, _, _, rfl, rfl, ?_⟩
      refine ⟨Nat.zero_le _, fun L hL => ?_⟩
      have hL0 : H L = none := e1.free hL
      have nlL : l ≠ L := ne_of_none hl2 hL
      have nhL : h ≠ L := ne_of_none hh2 hL
      refine ⟨h, _, Eq.trans (upd_ne nhL) hh2, trivial, fun od => ?_⟩
      have s3 : Same H (upd (upd H2 L (.lst [])) h (.frz od (.dK (tab (highOf start high) ks)))) := Same.upd (Same.upd e1 hL0) hh0
      refine ⟨_, rfl, h, od, _, rfl, upd_same, for_it walk_items (fun i σ H' => ∃ (zs : List V) (v5 v6 : Option V), σ = [some (.ref a), some (.ref b), some (.ref l), some (.ref h), some (.ref L), v5, v6, none, none, none] ∧ Same H H' ∧
          H' l = some (.dK (tab (lowOf start high) ks)) ∧ H' h = some (.frz od (.dK (tab (highOf start high) ks))) ∧ H' L = some (.lst zs) ∧ Prs H H' zs (pfound (start + 11) (ks.take i)))
        ⟨[], none, none, rfl, s3, by rw [upd_ne nhl.symm, upd_ne nlL]; exact hl2, upd_same, by rw [upd_ne nhL.symm]; exact upd_same, .nil⟩ (fun i σ H' _ ⟨_, _, _, _, _, _, q, _⟩ => q) ?_ ?_⟩
      · rintro i x σ H' H'' hi ⟨zs, v5, v6, rfl, q1, q2, q3, q4, q5⟩ ⟨U, y1, y2, rfl, hU, rfl, hy1, hy2⟩
        rw [tab_len] at hi
        obtain ⟨ki, hki⟩ : ∃ ki, ks[i]? = some ki := ⟨ks[i], List.getElem?_eq_getElem hi⟩
        have hkv : (tab (highOf start high) ks)[i]? = some (Sum.inl ki, .int (highOf start high ki)) := by
          unfold tab
          rw [List.getElem?_map, hki]
          rfl
        dsimp only at hy1 hy2
        rw [hkv] at hy1 hy2
        obtain rfl : V.int ki = y1 := Option.some.inj hy1
        obtain rfl : V.int (highOf start high ki) = y2 := Option.some.inj hy2
        have nLU : L ≠ U := ne_of_none q4 hU
        have nlU : l ≠ U := ne_of_none q2 hU
        have nhU : h ≠ U := ne_of_none q3 hU
        have nLl : L ≠ l := nlL.symm
        refine ⟨U, _, rfl, SqT.of upd_same, rfl, _, _, rfl, _, _, rfl, rfl, ?_⟩
        refine ⟨_, rfl, .inl ⟨rfl, _, SqL.of (Eq.trans (upd_ne nLU) q4)⟩, l, _, Eq.trans (upd_ne nlU) q2, trivial, fun od2 => ?_⟩
        refine ⟨_, rfl, l, od2, _, rfl, upd_same, fun W hW => ?_⟩
        have nWl : W ≠ l := fun z => by
          rw [z, upd_same] at hW
          cases hW
        have hW1 : upd H' U (.tup [.int ki, .int (highOf start high ki)]) W = none := by rw [upd_ne nWl] at hW; exact hW
        have sU : Same H (upd H' U (.tup [.int ki, .int (highOf start high ki)])) := q1.trans (same_upd hU)
        have hW0 : H W = none := sU.free hW1
        refine lc_it walk_items (fun j G => ∃ ws, Same H G ∧ Same (wo (upd H' U (.tup [.int ki, .int (highOf start high ki)])) l) G ∧ G l = some (.frz od2 (.dK (tab (lowOf start high) ks))) ∧ G W = some (.lst ws) ∧ Tk H' G ∧
            Prs H G ws (((ks.take j).filter fun o => decide (o ≠ ki ∧ highOf start high ki < lowOf start high o)).map fun o => (ki, o)))
          ⟨[], Same.upd (Same.upd sU hl0) hW0, Same.upd wo_upd (wo_none hW1), by rw [upd_ne nWl.symm]; exact upd_same, upd_same, ?_, .nil⟩ (fun j G _ ⟨_, _, _, q, _⟩ => q) ?_ ?_
        · refine Tk.upd (Tk.upd (Tk.upd (Tk.refl _) fun us z => by rw [hU] at z; cases z) fun us z => ?_) fun us z => ?_
          · rw [upd_ne nlU, q2] at z
            cases z
          · rw [hW] at z
            cases z
        · rintro j x G G' hj ⟨ws, r1, r2, r3, r4, r5, r6⟩ ⟨U2, z1, z2, rfl, hU2, rfl, hz1, hz2⟩
          rw [tab_len] at hj
          obtain ⟨kj, hkj⟩ : ∃ kj, ks[j]? = some kj := ⟨ks[j], List.getElem?_eq_getElem hj⟩
          have hkv2 : (tab (lowOf start high) ks)[j]? = some (Sum.inl kj, .int (lowOf start high kj)) := by
            unfold tab
            rw [List.getElem?_map, hkj]
            rfl
          dsimp only at hz1 hz2
          rw [hkv2] at hz1 hz2
          obtain rfl : V.int kj = z1 := Option.some.inj hz1
          obtain rfl : V.int (lowOf start high kj) = z2 := Option.some.inj hz2
          have t2 : Tk G (upd G U2 (.tup [.int kj, .int (lowOf start high kj)])) := Tk.upd (Tk.refl _) fun us z => by rw [hU2] at z; cases z
          have nlU2 : l ≠ U2 := ne_of_none r3 hU2
          have nWU2 : W ≠ U2 := ne_of_none r4 hU2
          have wl : ws.length = ((ks.take j).filter fun o => decide (o ≠ ki ∧ highOf start high ki < lowOf start high o)).length := (Paired.length r6).trans (List.length_map ..)
          have wl2 := List.length_filter_le (fun o => decide (o ≠ ki ∧ highOf start high ki < lowOf start high o)) (ks.take j)
          rw [List.length_take] at wl2
          have no : ¬ (kj ≠ ki ∧ highOf start high ki < lowOf start high kj) → ∃ ws', Same H (upd G U2 (.tup [.int kj, .int (lowOf start high kj)])) ∧ Same (wo (upd H' U (.tup [.int ki, .int (highOf start high ki)])) l) (upd G U2 (.tup [.int kj, .int (lowOf start high kj)])) ∧
              upd G U2 (.tup [.int kj, .int (lowOf start high kj)]) l = some (.frz od2 (.dK (tab (lowOf start high) ks))) ∧ upd G U2 (.tup [.int kj, .int (lowOf start high kj)]) W = some (.lst ws') ∧ Tk H' (upd G U2 (.tup [.int kj, .int (lowOf start high kj)])) ∧
              Prs H (upd G U2 (.tup [.int kj, .int (lowOf start high kj)])) ws' (((ks.take (j + 1)).filter fun o => decide (o ≠ ki ∧ highOf start high ki < lowOf start high o)).map fun o => (ki, o)) := fun hno => by
            refine ⟨ws, r1.trans (same_upd hU2), r2.trans (same_upd hU2), Eq.trans (upd_ne nlU2) r3, Eq.trans (upd_ne nWU2) r4, fun t us q => t2 t us (r5 t us q), ?_⟩
            rw [List.take_add_one, hkj, List.filter_append]
            have : ([kj].filter fun o => decide (o ≠ ki ∧ highOf start high ki < lowOf start high o)) = [] := List.filter_cons_of_neg (by rw [decide_eq_true_iff]; exact hno)
            show Prs H _ ws (((List.take j ks).filter _ ++ [kj].filter _).map _)
            rw [this, List.append_nil]
            exact r6.keep t2
          refine ⟨U2, _, rfl, SqT.of upd_same, rfl, _, _, rfl, _, _, rfl, rfl, rfl, ?_⟩
          refine ⟨_, rfl, _, rfl, rfl, _, rfl, ?_⟩
          by_cases c1 : kj = ki
          · rw [decide_eq_true (congrArg V.int c1)]
            exact no fun z => z.1 c1
          · rw [decide_eq_false (fun z => c1 (V.int.inj z))]
            refine ⟨_, rfl, _, rfl, _, _, rfl, rfl, _, rfl, ?_⟩
            by_cases c2 : highOf start high ki < lowOf start high kj
            · rw [decide_eq_true c2]
              refine ⟨_, rfl, _, rfl, by show 2 ≤ sizeLine; decide, fun U3 hU3 => ?_⟩
              have hU3' : G U3 = none := upd_dom _ hU3
              have nWU3 : W ≠ U3 := ne_of_none r4 hU3'
              have t3 : Tk G (upd (upd G U2 (.tup [.int kj, .int (lowOf start high kj)])) U3 (.tup [.int ki, .int kj])) := Tk.upd t2 fun us z => by rw [hU3] at z; cases z
              refine ⟨ws, by rw [upd_ne nWU3, upd_ne nWU2]; exact r4, small1000 (by omega), ws ++ [.ref U3], ?_⟩
              have sG : Same G (upd (upd G U2 (.tup [.int kj, .int (lowOf start high kj)])) U3 (.tup [.int ki, .int kj])) := (same_upd hU2).trans (same_upd hU3)
              have nlU3 : l ≠ U3 := ne_of_none r3 hU3'
              have t4 : Tk G (upd (upd (upd G U2 (.tup [.int kj, .int (lowOf start high kj)])) U3 (.tup [.int ki, .int kj])) W (.lst (ws ++ [.ref U3]))) := Tk.upd t3 fun us z => by
                rw [upd_ne nWU3, upd_ne nWU2, r4] at z
                cases z
              refine ⟨Same.upd (r1.trans sG) hW0, Same.upd (r2.trans sG) (wo_none hW1), by rw [upd_ne nWl.symm, upd_ne nlU3, upd_ne nlU2]; exact r3, upd_same, fun t us q => t4 t us (r5 t us q), ?_⟩
              rw [List.take_add_one, hkj, List.filter_append]
              have : ([kj].filter fun o => decide (o ≠ ki ∧ highOf start high ki < lowOf start high o)) = [kj] := List.filter_cons_of_pos (decide_eq_true ⟨c1, c2⟩)
              show Prs H _ _ (((List.take j ks).filter _ ++ [kj].filter _).map _)
              rw [this, List.map_append]
              refine Prs.append (r6.keep t4) (.cons ⟨U3, rfl, r1.free hU3', ?_⟩ .nil)
              rw [upd_ne nWU3.symm]
              exact upd_same
            · rw [decide_eq_false c2]
              exact no fun z => c2 z.2
        · rintro G ⟨ws, r1, r2, r3, r4, r5, r6⟩
          rw [tab_len, List.take_of_length_le (Nat.le_refl _)] at r6
          refine ⟨r3, ?_⟩
          have hLG : upd G l (.dK (tab (lowOf start high) ks)) L = some (.lst zs) := by
            rw [upd_ne nLl]
            exact r2 _ _ (wo_some nLl (Eq.trans (upd_ne nLU) q4))
          have hWG : upd G l (.dK (tab (lowOf start high) ks)) W = some (.lst ws) := Eq.trans (upd_ne nWl) r4
          have hhG : upd G l (.dK (tab (lowOf start high) ks)) h = some (.frz od (.dK (tab (highOf start high) ks))) := by
            rw [upd_ne nhl]
            exact r2 _ _ (wo_some nhl (Eq.trans (upd_ne nhU) q3))
          have zl : zs.length = (pfound (start + 11) (ks.take i)).length := Paired.length q5
          have zl2 : (pfound (start + 11) (ks.take i)).length ≤ 120 := by
            unfold pfound
            rw [List.length_map]
            refine Nat.le_trans (List.length_filter_le _ _) ?_
            rw [List.length_take]
            omega
          have wl : ws.length ≤ 120 := by
            rw [Paired.length r6, List.length_map]
            exact Nat.le_trans (List.length_filter_le _ _) hkl
          refine ⟨L, W, zs, ws, rfl, rfl, hLG, hWG, Nat.le_of_lt (small1000 (by omega)), ?_⟩
          have t1 : Tk G (upd (upd G l (.dK (tab (lowOf start high) ks))) L (.lst (zs ++ ws))) := Tk.upd (Tk.upd (Tk.refl _) fun us z => by rw [r3] at z; cases z) fun us z => by
            rw [hLG] at z
            cases z
          refine ⟨zs ++ ws, _, _, rfl, Same.upd (Same.upd r1 hl0) hL0, by rw [upd_ne nlL]; exact upd_same, by rw [upd_ne nhL]; exact hhG, upd_same, ?_⟩
          have htop : (start + 11) ∈ ks := by
            obtain ⟨m, hm1, _⟩ := (hks ki).mp (List.mem_of_getElem? hki)
            exact (hks _).mpr ⟨m, hm1, mem_keys.mpr (.inl rfl)⟩
          have ef : (ks.filter fun o => decide (o ≠ ki ∧ highOf start high ki < lowOf start high o)).map (fun o => (ki, o)) = ([ki].filter fun o => decide (o ≠ start + 11)).map fun o => (o, start + 11) := by
            by_cases c : ki = start + 11
            · have e0 : (ks.filter fun o => decide (o ≠ ki ∧ highOf start high ki < lowOf start high o)) = [] := List.filter_eq_nil_iff.mpr fun o _ z => ((high_lt_low hb).mp (of_decide_eq_true z).2).1 c
              rw [e0, List.filter_cons_of_neg (by simp [c])]
              rfl
            · have e0 : (ks.filter fun o => decide (o ≠ ki ∧ highOf start high ki < lowOf start high o)) = ks.filter fun o => decide (o = start + 11) := List.filter_congr fun o _ => decide_eq_decide.mpr
                ⟨fun z => ((high_lt_low hb).mp z.2).2, fun z => ⟨fun z' => c (z'.symm.trans z), (high_lt_low hb).mpr ⟨c, z⟩⟩⟩
              rw [e0, filter_top hn htop, List.filter_cons_of_pos (by simp [c])]
              rfl
          have e2 : pfound (start + 11) (ks.take (i + 1)) = pfound (start + 11) (ks.take i) ++ ([ki].filter fun o => decide (o ≠ start + 11)).map fun o => (o, start + 11) := by
            unfold pfound
            rw [List.take_add_one, hki, ← List.map_append, ← List.filter_append]
            rfl
          rw [e2, ← ef]
          exact Prs.append (q5.keep fun t us q => t1 t us (r5 t us q)) (r6.keep t1)
      · rintro σ H' ⟨zs, v5, v6, rfl, q1, q2, q3, q4, q5⟩
        rw [tab_len, List.take_of_length_le (Nat.le_refl _)] at q5
        refine ⟨q3, ?_⟩
        have t1 : Tk H' (upd H' h (.dK (tab (highOf start high) ks))) := Tk.upd (Tk.refl _) fun us z => by rw [q3] at z; cases z
        have r5 := q5.keep t1
        have hLz : upd H' h (.dK (tab (highOf start high) ks)) L = some (.lst zs) := Eq.trans (upd_ne nhL.symm) q4
        refine ⟨_, rfl, L, zs, pk (upd H' h (.dK (tab (highOf start high) ks))), rfl, SqL.of hLz, fun x hx => ?_, fun ys q hs1 hs2 hq => ?_⟩
        · obtain ⟨t, h1, _, h3⟩ := Prs.mem r5 x hx
          exact ⟨t, h1, h3⟩
        · have sH : Same H (upd (upd H' h (.dK (tab (highOf start high) ks))) q (.lst ys)) := (Same.upd q1 hh0).trans (same_upd hq)
          have hf : H q = none := (Same.upd q1 hh0).free hq
          have eq1 := sort_pairs (us := (uni ms cs).map fun j => start + j) (Prs.map r5) hs2.perm hs1 hn (List.pairwise_map.mpr ((uni_up ms cs).imp fun {x y} z => by omega)) (keys_uni hM hks)
          rw [List.map_map] at eq1
          have ha2 : NewAll K H (upd H' h (.dK (tab (highOf start high) ks))) ys ((prs start ms cs).map dPr) := all_prs (fun x hx => Prs.mem r5 x (hs2.perm.mem_iff.mp hx)) eq1
          exact k _ q sH ⟨hf, ys, upd_same, DpAll.same (fr_right fun b o _ z => same_upd hq b o z) _ ha2⟩
end
end Brk
/-! choices -/
namespace Brk
open PySem L2
abbrev sChoices : Stmt := topS 22
theorem scChoices : FnScope ["first", "many", "left", "found", "k", "behind"] ["first", "many", "left"] (defScope sChoices) := ⟨rfl, rfl, rfl, by decide +kernel, rfl, by decide +kernel, by decide +kernel⟩
def spCh (K : PySem.W.Frag) (L : Nat) : Sp := fun vs H Q _ => ∃ (a b c : Int) (f m l : Nat), vs = [.int a, .int b, .int c] ∧ a = (f : Nat) ∧ b = (m : Nat) ∧ c = (l : Nat) ∧ l ≤ L ∧ l ≤ m ∧ f ≤ 20 ∧ m ≤ 10 ∧
  ∀ (H' : Hp) (p : Addr), Same H H' → NewL K H H' p ((chs l f m).map dC) → Q (.ref p) H'
theorem chs_1024 {l f m : Nat} (h : m ≤ 10) : (chs l f m).length ≤ 1024 :=
  Nat.le_trans (chs_len l f m) (Nat.le_trans (Nat.pow_le_pow_right (by decide) (show m - f ≤ 10 by omega)) (by decide))
theorem flat_take {α β : Type} (g : α → List β) (l : List α) (i : Nat) : ((l.take i).flatMap g).length ≤ (l.flatMap g).length := by
  have e : l.flatMap g = (l.take i).flatMap g ++ (l.drop i).flatMap g := by rw [← List.flatMap_append, List.take_append_drop]
  rw [e, List.length_append]
  omega
theorem small2 {n : Nat} (h : n ≤ 10000) : n < sizeLine := Nat.lt_of_le_of_lt h (by decide)
section
variable {P : Program} {w : World} {K : PySem.W.Frag} {mg : Str → Option Value} {base : Heap}
theorem ok_choices {f : Addr} {fd : FuncData} (T : Txt mg) (D : Dn K mg "choices" sChoices ["first", "many", "left"] f fd) : ∀ L : Nat, FnOk P w K mg base CX0 (L + 1) f fd ["first", "many", "left"] (spCh K L)
  | 0 => by
    refine D.fn.ok scChoices (fun vs H Q E h => ?_) (fun cdv A outer s H vs Q E hr h => ?_)
    · obtain ⟨_, _, _, _, _, _, rfl, _⟩ := h
      rfl
    · obtain ⟨_, _, _, n, m, l, rfl, rfl, rfl, rfl, h0, _, _, _, k⟩ := h
      obtain rfl : l = 0 := Nat.le_zero.mp h0
      refine ⟨_, pss_cons (ps_if (pt_cmpR op_eq (pv 2) pe_int (nomark _)) (pss_one (ps_ret (pe_lst (pa_cons (pe_lst pa_nil) pa_nil)))) pss_nil) pss_never, ?_⟩
      refine ⟨_, rfl, rfl, _, rfl, iteT ⟨Nat.zero_le _, fun p1 hp1 => ⟨by show 1 ≤ sizeLine; decide, fun p2 hp2 => ?_⟩⟩⟩
      have n12 : p1 ≠ p2 := fun e => by
        rw [← e, upd_same] at hp2
        cases hp2
      have h2 : H p2 = none := upd_dom _ hp2
      refine k _ p2 ((same_upd hp1).trans (same_upd hp2)) ⟨h2, _, upd_same, .cons ?_ .nil⟩
      refine .lst (SqL.of (fr_some.mpr ⟨hp1, by rw [upd_ne n12]; exact upd_same⟩)) .nil
  | L + 1 => by
    have G : FnOk P w K mg base CX0 (L + 1) f fd ["first", "many", "left"] (spCh K L) := ok_choices T D L
    refine D.fn.ok scChoices (fun vs H Q E h => ?_) (fun cdv A outer s H vs Q E hr h => ?_)
    · obtain ⟨_, _, _, _, _, _, rfl, _⟩ := h
      rfl
    · obtain ⟨_, _, _, n, m, l, rfl, rfl, rfl, rfl, h0, h1, h2, h3, k⟩ := h
      refine ⟨_, pss_cons (ps_if (pt_cmpR op_eq (pv 2) pe_int (nomark _)) (pss_one (ps_ret (pe_lst (pa_cons (pe_lst pa_nil) pa_nil)))) pss_nil)
        (pss_cons (ps_set (i := 3) scChoices.nd rfl (Or.inl rfl) (pe_lst pa_nil))
        (pss_cons (ps_for PassesOwn.never rfl (pi_range2 (by rfl) T.range (pa_cons (pv 0) (pa_cons (pe_op op_add (pe_op op_sub (pv 1) (pv 2)) pe_int) pa_nil))) (pg_name (i := 4) scChoices.nd rfl (Or.inr rfl))
          (pss_one (ps_expr (pe_bm PySem.F.plainAttrs_list PySem.F.slot_list_extend PySem.F.type_list_extend mt_extend (pv 3) (pa_cons
            (pe_lc (own := [("behind", 5)]) (g := gName 5) (tt := tYes) rfl scChoices.nd (pi_list (pcl D G hr (pa_cons (pe_op op_add (pv 4) pe_int) (pa_cons (pv 1) (pa_cons (pe_op op_sub (pv 2) pe_int) pa_nil)))))
              (blkOk_by (N := ["first", "many", "left", "found", "k", "behind"]) (sc := defScope sChoices) (by decide +kernel)) (fun _ _ _ _ _ => pg_name (i := 5) scChoices.nd rfl (Or.inl rfl)) (fun _ _ _ _ _ => pts_nil)
              (fun _ _ _ _ _ => pe_op (r := rCatS K) op_catS (pe_lst (pa_cons (pv 4) pa_nil)) (pv 5))) pa_nil)))))
        (pss_one (ps_ret (pv 3))))), ?_⟩
      refine ⟨_, rfl, rfl, _, rfl, ?_⟩
      by_cases c0 : l = 0
      · subst c0
        refine iteT ⟨Nat.zero_le _, fun p1 hp1 => ⟨by show 1 ≤ sizeLine; decide, fun p2 hp2 => ?_⟩⟩
        have n12 : p1 ≠ p2 := fun e => by
          rw [← e, upd_same] at hp2
          cases hp2
        have h2 : H p2 = none := upd_dom _ hp2
        refine k _ p2 ((same_upd hp1).trans (same_upd hp2)) ⟨h2, _, upd_same, .cons ?_ .nil⟩
        refine .lst (SqL.of (fr_some.mpr ⟨hp1, by rw [upd_ne n12]; exact upd_same⟩)) .nil
      · obtain ⟨l', rfl⟩ : ∃ l', l = l' + 1 := ⟨l - 1, by omega⟩
        rw [decide_eq_false (fun z => by have := V.int.inj z; omega)]
        refine iteF ⟨Nat.zero_le _, fun R hR => ?_⟩
        have hn : ((m : Int) - ((l' + 1 : Nat) : Int) + 1 - (n : Int)).toNat = m - l' - n := by omega
        refine ⟨_, rfl, _, rfl, _, rfl, _, _, rfl, rfl, _, _, rfl, rfl, _, _, rfl, ⟨by omega, by omega, by omega, by omega⟩, ?_⟩
        rw [hn]
        have part : ∀ i, i < m - l' - n → ((List.range' n (m - l' - n)).take (i + 1)).flatMap (fun k => (chs l' (k + 1) m).map (k :: ·)) = ((List.range' n (m - l' - n)).take i).flatMap (fun k => (chs l' (k + 1) m).map (k :: ·)) ++ (chs l' (n + i + 1) m).map ((n + i) :: ·) := fun i hi => by
          rw [List.take_add_one, List.getElem?_range' hi, List.flatMap_append, Nat.one_mul]
          show _ ++ List.flatMap _ [n + i] = _
          rw [List.flatMap_cons, List.flatMap_nil, List.append_nil]
        refine for_range (lo := (n : Nat)) (n := m - l' - n) (fun i σ H' => ∃ v4 : Option V, σ = [some (.int (n : Nat)), some (.int (m : Nat)), some (.int ((l' + 1 : Nat) : Int)), some (.ref R), v4, none] ∧
            Grow K H R H' ((((List.range' n (m - l' - n)).take i).flatMap fun k => (chs l' (k + 1) m).map (k :: ·)).map dC)) ⟨none, rfl, Grow.start hR⟩ ?_ ?_
        · rintro i σ H' hi ⟨v4, rfl, g⟩
          obtain ⟨zs, hz1, hz2⟩ := g.ex
          have zl : zs.length ≤ 1024 := by
            rw [DpAll.length hz2, List.length_map]
            refine Nat.le_trans (flat_take _ _ i) ?_
            exact chs_1024 (l := l' + 1) (f := n) h3
          refine ⟨_, rfl, .inl ⟨rfl, _, SqL.of hz1⟩, _, rfl, _, _, rfl, rfl, _, rfl, _, rfl, _, _, rfl, rfl, ?_⟩
          refine ⟨_, _, _, n + i + 1, m, l', rfl, by omega, rfl, by omega, by omega, by omega, by omega, h3, fun H1 p e1 nl => ?_⟩
          obtain ⟨ys, hy1, hy2⟩ := nl.ex
          have hyd : DpAll K H1 ys ((chs l' (n + i + 1) m).map dC) := NewAll.dp hy2
          have yl : ys.length = (chs l' (n + i + 1) m).length := (DpAll.length hyd).trans (List.length_map ..)
          have yl2 := chs_1024 (l := l') (f := n + i + 1) h3
          refine ⟨p, rfl, ⟨_, SqL.of hy1⟩, fun W hW => lc_list (K := K) (a := p) (xs := ys) (fun j H2 => Grow K H1 W H2 (((chs l' (n + i + 1) m).take j).map fun c => dC ((n + i) :: c))) (Grow.start hW) (fun j H2 _ g2 => g2.same.seq (SqL.of hy1)) ?_ ?_⟩
          · intro j y H2 hy g2
            obtain ⟨d, hd1, hd2⟩ := DpAll.at hyd hy
            obtain ⟨c, hc1, rfl⟩ : ∃ c, (chs l' (n + i + 1) m)[j]? = some c ∧ dC c = d := by simpa using hd1
            have hch := chs_choice (List.mem_of_getElem? hc1)
            obtain ⟨ws, hw1, hw2⟩ := g2.ex
            have hd3 := Dp.same g2.same _ hd2
            rw [dC_eq] at hd3
            obtain ⟨b, rfl, hb⟩ := Dp.ints hd3
            refine ⟨rfl, _, rfl, by show 1 ≤ sizeLine; decide, fun p1 hp1 => ?_⟩
            have s1 : Same H2 (upd H2 p1 (.lst [V.int ((n : Nat) + (i : Nat))])) := same_upd hp1
            refine ⟨_, rfl, p1, b, _, _, rfl, rfl, SqL.of upd_same, s1.seq hb, ?_, fun p2 hp2 => ?_⟩
            · rw [List.length_map, List.length_map, hch.len]
              exact Nat.le_of_lt (small1000 (by show 1 + l' ≤ 1000; omega))
            have hp2' : H2 p2 = none := upd_dom _ hp2
            have s2 : Same H2 (upd (upd H2 p1 (.lst [V.int ((n : Nat) + (i : Nat))])) p2 (.lst ([V.int ((n : Nat) + (i : Nat))] ++ List.map V.int (c.map fun k : Nat => (k : Int))))) := s1.trans (same_upd hp2)
            have hnew : New K H2 (upd (upd H2 p1 (.lst [V.int ((n : Nat) + (i : Nat))])) p2 (.lst ([V.int ((n : Nat) + (i : Nat))] ++ List.map V.int (c.map fun k : Nat => (k : Int))))) (.ref p2) (dC ((n + i) :: c)) := by
              rw [dC_eq]
              exact Dp.of_ints (SqL.of (fr_some.mpr ⟨hp2', upd_same⟩))
            refine ⟨ws, s2 _ _ hw1, ?_, ?_⟩
            · rw [DpAll.length hw2, List.length_map, List.length_take]
              exact small2 (by omega)
            · have q := g2.add s2 (s2 _ _ hw1) hnew
              rw [List.take_add_one, hc1, List.map_append]
              exact q
          · intro H2 g2
            rw [List.take_of_length_le (by omega)] at g2
            obtain ⟨ws, hw1, hw2⟩ := g2.newL.ex
            have wl : ws.length = (chs l' (n + i + 1) m).length := (DpAll.length hw2).trans (List.length_map ..)
            have e2 : Same H' H2 := e1.trans g2.same
            refine ⟨R, W, zs, ws, rfl, rfl, e2 _ _ hz1, hw1, Nat.le_of_lt (small2 (by omega)), ?_⟩
            refine ⟨some (.int ((n : Nat) + (i : Nat))), rfl, ?_⟩
            have q := g.put e2 (e2 _ _ hz1) (DpAll.same (fr_left fun b hb => e1.free hb) _ hw2)
            rw [part i hi, List.map_append, List.map_map]
            exact q
        · rintro σ H' ⟨v4, rfl, g⟩
          rw [List.take_of_length_le (by rw [List.length_range']; exact Nat.le_refl _)] at g
          refine ⟨_, rfl, k _ R g.same g.newL⟩
end
end Brk
/-! lacking, is_lacking -/
namespace Brk
open PySem L2
abbrev sLacking : Stmt := topS 23
abbrev sIsLack : Stmt := topS 25
theorem scLacking : FnScope ["tastings", "chosen", "pairs", "mine", "pair"] ["tastings", "chosen", "pairs"] (defScope sLacking) := ⟨rfl, rfl, rfl, by decide +kernel, rfl, by decide +kernel, by decide +kernel⟩
theorem scIsLack : FnScope ["tastings", "chosen", "pairs", "thing"] ["tastings", "chosen", "pairs", "thing"] (defScope sIsLack) := ⟨rfl, rfl, rfl, by decide +kernel, rfl, by decide +kernel, by decide +kernel⟩
/-! ### pairs as data -/
theorem dPr_lay (p : Int × Int) : (dPr p).canLay0 = true := by simp [dPr, PyData.canLay0, PyData.canLayAll0]
theorem dPr_depth (p : Int × Int) : (dPr p).depth = 1 := by simp [dPr, PyData.depth, PyData.depthAll]
theorem dPrs_lay : ∀ ps : List (Int × Int), PyData.canLayAll0 (ps.map dPr) = true
  | [] => by simp [PyData.canLayAll0]
  | p :: ps => by simp [PyData.canLayAll0, dPr_lay p, dPrs_lay ps]
theorem dPrs_depth : ∀ ps : List (Int × Int), PyData.depthAll (ps.map dPr) ≤ 1
  | [] => by simp [PyData.depthAll]
  | p :: ps => by
    have h1 := dPrs_depth ps
    have h2 := dPr_depth p
    simp only [List.map_cons, PyData.depthAll]
    omega
theorem dPr_shaped (p : Int × Int) : SeqAt.shaped (dPr p) = true := by
  have h := dPr_depth p
  show ((dPr p).canLay0 && decide ((dPr p).depth ≤ 64)) = true
  rw [Bool.and_eq_true]
  exact ⟨dPr_lay p, decide_eq_true (by omega)⟩
theorem dPrs_shaped (ps : List (Int × Int)) : SeqAt.shaped (.list (ps.map dPr)) = true := by
  have h1 := dPrs_depth ps
  have h2 : PyData.depth (.list (ps.map dPr)) ≤ 64 := by
    simp only [PyData.depth]
    omega
  show (PyData.canLay0 (.list (ps.map dPr)) && decide (PyData.depth (.list (ps.map dPr)) ≤ 64)) = true
  rw [Bool.and_eq_true]
  exact ⟨by simp only [PyData.canLay0]; exact dPrs_lay ps, decide_eq_true h2⟩
theorem dPr_eqv (p q : Int × Int) : PyData.eqv (dPr p) (dPr q) = decide (p = q) := by
  obtain ⟨a, b⟩ := p
  obtain ⟨c, d⟩ := q
  have e : PyData.eqv (dPr (a, b)) (dPr (c, d)) = ((a == c) && ((b == d) && true)) := by simp only [dPr, PyData.eqv, PyData.eqvAll]
  rw [e]
  by_cases h1 : a = c
  · by_cases h2 : b = d
    · subst h1 h2
      simp
    · rw [decide_eq_false (fun z => h2 (Prod.mk.inj z).2), beq_eq_false_iff_ne.mpr h2, Bool.false_and, Bool.and_false]
  · rw [decide_eq_false (fun z => h1 (Prod.mk.inj z).1), beq_eq_false_iff_ne.mpr h1, Bool.false_and]
theorem dPr_any (q : Int × Int) (ps : List (Int × Int)) : ((ps.map dPr).any fun z => PyData.eqv z (dPr q)) = decide (q ∈ ps) := by
  induction ps with
  | nil => simp
  | cons p ps ih =>
    rw [List.map_cons, List.any_cons, ih, dPr_eqv]
    by_cases h : p = q
    · subst h
      simp
    · rw [decide_eq_false h, Bool.false_or]
      exact decide_eq_decide.mpr ⟨fun z => List.mem_cons_of_mem _ z, fun z => (List.mem_cons.mp z).elim (fun e => absurd e.symm h) id⟩
theorem mem_prs {start : Int} {ms : List (List Int)} {cs : List Nat} {j : Int} : (start + j, start + 11) ∈ prs start ms cs ↔ j ∈ uni ms cs := by
  unfold prs
  rw [List.mem_map]
  constructor
  · rintro ⟨i, hi, e⟩
    have := (Prod.mk.inj e).1
    have e2 : i = j := by omega
    exact e2 ▸ hi
  · intro h
    exact ⟨j, h, rfl⟩
theorem find_at {α : Type} {p : α → Bool} : ∀ {l : List α} {i : Nat} {y : α}, (∀ x ∈ l.take i, p x = false) → l[i]? = some y → p y = true → l.find? p = some y
  | [], _, _, _, h, _ => by simp at h
  | a :: l, 0, y, _, h, hp => by
    have e : a = y := by simpa using h
    subst e
    rw [List.find?_cons_of_pos hp]
  | a :: l, i + 1, y, hb, h, hp => by
    rw [List.find?_cons_of_neg (by rw [hb a (by simp)]; exact Bool.false_ne_true)]
    exact find_at (i := i) (fun x hx => hb x (by rw [List.take_succ_cons]; exact List.mem_cons_of_mem _ hx)) (by simpa using h) hp
def spLack (K : PySem.W.Frag) : Sp := fun vs H Q _ => ∃ (v c : V) (p : Addr) (G : Hp) (ys : List V) (start high : Int) (ms : List (List Int)) (cs : List Nat), vs = [v, c, .ref p] ∧ Bnd start high ∧ Masks ms ∧ Dp K H v (dTs start high ms) ∧ Dp K H c (dC cs) ∧
  (∀ k ∈ cs, k < ms.length) ∧ cs.length ≤ 10 ∧ SqL K H p ys ∧ DpAll K G ys ((prs start ms (allOf ms)).map dPr) ∧ Same G H ∧
  (lack ms cs = none → ∀ H', Same H H' → Q .non H') ∧ (∀ j, lack ms cs = some j → ∀ H' y, Same H H' → Dp K G y (dPr (start + j, start + 11)) → Q y H')
def spIsL (K : PySem.W.Frag) : Sp := fun vs H Q _ => ∃ (v c p t : V) (start high : Int) (ms : List (List Int)) (cs : List Nat) (j : Int), vs = [v, c, p, t] ∧ Bnd start high ∧ Masks ms ∧ Dp K H v (dTs start high ms) ∧ Dp K H c (dC cs) ∧
  (∀ k ∈ cs, k < ms.length) ∧ cs.length ≤ 10 ∧ Dp K H p (dPs (prs start ms (allOf ms))) ∧ Dp K H t (dPr (start + j, start + 11)) ∧ j ∈ uni ms (allOf ms) ∧ j ∉ uni ms cs ∧ ∀ H', Same H H' → Q (.bl true) H'
section
variable {P : Program} {w : World} {K : PySem.W.Frag} {mg : Str → Option Value} {base : Heap}
theorem ok_lacking {f g : Addr} {fd gd : FuncData} (D : Dn K mg "lacking" sLacking ["tastings", "chosen", "pairs"] f fd) (DP : Dn K mg "pairs_of" sPairs ["tastings", "chosen"] g gd) (GP : FnOk P w K mg base CX0 2 g gd ["tastings", "chosen"] (spPairs K)) :
    FnOk P w K mg base CX0 3 f fd ["tastings", "chosen", "pairs"] (spLack K) := by
  refine D.fn.ok scLacking (fun vs H Q E h => ?_) (fun cdv A outer s H vs Q E hr h => ?_)
  · obtain ⟨_, _, _, _, _, _, _, _, _, rfl, _⟩ := h
    rfl
  · obtain ⟨v, c, p, G, ys, start, high, ms, cs, rfl, hb, hM, hd, hc, hlt, hcl, hy, hya, hG, k1, k2⟩ := h
    have hu : (A.deeper (PyProof.Rows.envOfC "lacking" (defScope sLacking) s.heap.objs.size f cdv)).units + 65 < cLine := by have := hr.un; omega
    have hlen : ys.length = (uni ms (allOf ms)).length := by rw [DpAll.length hya, List.length_map]; exact List.length_map ..
    refine ⟨_, pss_cons (ps_set (i := 3) scLacking.nd rfl (Or.inl rfl) (pcl DP GP hr (pa_cons (pv 0) (pa_cons (pv 1) pa_nil))))
      (pss_cons (ps_for PassesOwn.never rfl (pi_list (pv 2)) (pg_name (i := 4) scLacking.nd rfl (Or.inl rfl))
        (pss_one (ps_if (pt_cmpR (op_notInD hu) (pv 4) (pv 3) (by rfl)) (pss_one (ps_ret (pv 4))) pss_nil)))
      (pss_one (ps_ret pe_non))), ?_⟩
    refine ⟨_, rfl, _, rfl, v, c, start, high, ms, cs, rfl, hb, hM, hd, hc, hlt, hcl, fun H1 q e1 nl => ?_⟩
    refine ⟨_, rfl, p, rfl, ⟨_, e1.seq hy⟩, for_list (K := K) (a := p) (xs := ys) (fun i σ H' => ∃ v4 : Option V, σ = [some v, some c, some (.ref p), some (.ref q), v4] ∧ H' = H1 ∧ ∀ j ∈ (uni ms (allOf ms)).take i, j ∈ uni ms cs)
      ⟨none, rfl, rfl, fun _ h => by cases h⟩ (fun i σ H' _ ⟨_, _, e, _⟩ => by rw [e]; exact e1.seq hy) ?_ ?_⟩
    · rintro i y σ H' hi ⟨v4, rfl, rfl, hj⟩
      obtain ⟨d, hd1, hd2⟩ := DpAll.at hya hi
      obtain ⟨j, hj1, rfl⟩ : ∃ j, (uni ms (allOf ms))[i]? = some j ∧ dPr (start + j, start + 11) = d := by
        unfold prs at hd1
        simpa using hd1
      have hdy : Dp K H' y (dPr (start + j, start + 11)) := Dp.same (hG.trans e1) _ hd2
      refine ⟨_, rfl, _, rfl, _, _, hdy, nl.dp, dPr_shaped _, dPrs_shaped _, _, rfl, ?_⟩
      rw [dPr_any]
      by_cases hm : j ∈ uni ms cs
      · rw [decide_eq_true (mem_prs.mpr hm)]
        refine iteF ⟨_, rfl, rfl, fun j' hj' => ?_⟩
        rw [List.take_add_one, hj1] at hj'
        rcases List.mem_append.mp hj' with h | h
        · exact hj j' h
        · have e : j' = j := by simpa using h
          exact e ▸ hm
      · rw [decide_eq_false (fun z => hm (mem_prs.mp z))]
        refine iteT ⟨_, rfl, k2 j ?_ _ y e1 hd2⟩
        exact find_at (i := i) (fun x hx => decide_eq_false fun z => z (hj x hx)) hj1 (decide_eq_true hm)
    · rintro σ H' ⟨v4, rfl, rfl, hj⟩
      rw [List.take_of_length_le (by omega)] at hj
      refine k1 (List.find?_eq_none.mpr fun x hx => ?_) _ e1
      have := hj x hx
      simp [this]
theorem ok_islack {f g b : Addr} {fd gd bd : FuncData} (T : Txt mg) (D : Dn K mg "is_lacking" sIsLack ["tastings", "chosen", "pairs", "thing"] f fd) (DP : Dn K mg "pairs_of" sPairs ["tastings", "chosen"] g gd) (GP : FnOk P w K mg base CX0 2 g gd ["tastings", "chosen"] (spPairs K))
    (DB : Dn K mg "is_break" sBreak ["thing"] b bd) (GB : FnOk P w K mg base CX0 3 b bd ["thing"] spBreak) : FnOk P w K mg base CX0 4 f fd ["tastings", "chosen", "pairs", "thing"] (spIsL K) := by
  refine D.fn.ok scIsLack (fun vs H Q E h => ?_) (fun cdv A outer s H vs Q E hr h => ?_)
  · obtain ⟨_, _, _, _, _, _, _, _, _, rfl, _⟩ := h
    rfl
  · obtain ⟨v, c, p, t, start, high, ms, cs, j, rfl, hb, hM, hd, hc, hlt, hcl, hp, ht, hj1, hj2, k⟩ := h
    have hu : (A.deeper (PyProof.Rows.envOfC "is_lacking" (defScope sIsLack) s.heap.objs.size f cdv)).units + 65 < cLine := by have := hr.un; omega
    obtain ⟨a, rfl, hs⟩ := Dp.pair ht
    have hr2 : Room 2 _ := hr.mono (by decide)
    have h0 := hb.s0; have h1 := hb.s1
    have hjj := uni_elv hj1
    refine ⟨_, pss_cons (ps_if (PW.pt (pw_or (pt_not (pt_val (pe_callB call_isi (by rfl) T.isi (by decide +kernel) (pa_cons (pv 3) (pa_cons (pe_bltn (v := .ty "tuple") (by rfl) T.tuple (by decide +kernel) rfl) pa_nil)))))
        (pw_or (pt_cmpR op_ne (p_len T (pv 3)) pe_int (nomark _))
        (pw_or (pt_not (pt_val (pcl DB GB hr (pa_cons (pe_ix ix_tup (pv 3) pe_int (fun _ _ => rfl)) pa_nil))))
        (pw_or1 (pt_not (pt_val (pcl DB GB hr (pa_cons (pe_ix ix_tup (pv 3) pe_int (fun _ _ => rfl)) pa_nil))))))))) (pss_one (ps_ret pe_bl)) pss_nil)
      (pss_one (ps_ret (pe_and (pe_cmpR (op_inD hu) (pv 3) (pv 2) (by rfl)) (pe_one (pe_cmpR (op_notInD hu) (pv 3) (pcl DP GP hr2 (pa_cons (pv 0) (pa_cons (pv 1) pa_nil))) (by rfl)))))), ?_⟩
    refine ⟨_, rfl, _, _, _, _, true, rfl, .ty "tuple", tyT hs, kit_ty (by decide +kernel), true, rfl, iteF ?_⟩
    refine ⟨_, rfl, a, _, rfl, .inr hs, rfl, _, rfl, iteF ?_⟩
    refine ⟨_, rfl, _, _, _, _, rfl, rfl, hs, at_of (j := 0) rfl rfl, start + j, rfl, by omega, by omega, true, rfl, iteF ?_⟩
    refine ⟨_, rfl, _, _, _, _, rfl, rfl, hs, at_of (j := 1) rfl rfl, start + 11, rfl, by omega, by omega, true, rfl, iteF ?_⟩
    refine ⟨_, rfl, _, rfl, _, _, ht, hp, dPr_shaped _, dPrs_shaped _, true, ?_, iteT ?_⟩
    · rw [dPr_any, decide_eq_true (mem_prs.mpr hj1)]
    · refine ⟨_, rfl, _, rfl, _, rfl, v, c, start, high, ms, cs, rfl, hb, hM, hd, hc, hlt, hcl, fun H1 q e1 nl => ?_⟩
      refine ⟨_, _, Dp.same e1 _ ht, nl.dp, dPr_shaped _, dPrs_shaped _, ?_⟩
      rw [dPr_any, decide_eq_false (fun z => hj2 (mem_prs.mp z))]
      exact k _ e1
end
end Brk
/-! fewest -/
namespace Brk
open PySem L2
abbrev sFewest : Stmt := topS 24
theorem scFewest : FnScope ["tastings", "many", "pairs", "paper", "left", "found", "chosen", "pair"] ["tastings"] (defScope sFewest) := ⟨rfl, rfl, rfl, by decide +kernel, rfl, by decide +kernel, by decide +kernel⟩
/-- the right paper for s: a pair for each choice of one fewer -/
def rights (start : Int) (ms : List (List Int)) : Nat → List (Int × Int)
  | 0 => []
  | s + 1 => (chs s 0 ms.length).map fun c => (start + lk ms c, start + 11)
theorem lack_cov {ms : List (List Int)} (hM : Masks ms) {c : List Nat} (hc : ∀ k ∈ c, k < ms.length) (h : lack ms c = none) : cov ms c := cov_of hM hc fun j hj => by
  have := List.find?_eq_none.mp h j hj
  simpa using this
theorem lack_not {ms : List (List Int)} {c : List Nat} {j : Int} (h : lack ms c = some j) : ¬ cov ms c := fun z => by
  have h1 := List.mem_of_find?_eq_some h
  have h2 : j ∉ uni ms c := of_decide_eq_true (List.find?_some (p := fun j => decide (j ∉ uni ms c)) h)
  rw [show uni ms c = uni ms (allOf ms) from z] at h2
  exact h2 h1
theorem rgV_nat (n : Nat) : rgV 0 (n : Int) = ((List.range' 0 n).map fun k : Nat => (k : Int)).map V.int := by
  unfold rgV
  rw [show ((n : Int) - 0).toNat = n by omega, List.map_map, ← List.range_eq_range']
  refine List.map_congr_left fun i _ => ?_
  show V.int (0 + (i : Nat)) = V.int (i : Nat)
  rw [Int.zero_add]
def spFewest (K : PySem.W.Frag) : Sp := fun vs H Q _ => ∃ (v : V) (start high : Int) (ms : List (List Int)), vs = [v] ∧ Bnd start high ∧ Masks ms ∧ Dp K H v (dTs start high ms) ∧
  ∀ (H' : Hp) (p a b : Addr) (s : Nat) (cs : List Nat), Same H H' → H' p = some (.tup [.ref a, .ref b]) → Best ms s cs → New K H H' (.ref a) (dC cs) → NewL K H H' b ((rights start ms s).map dPr) → Q (.ref p) H'
section
variable {P : Program} {w : World} {K : PySem.W.Frag} {mg : Str → Option Value} {base : Heap}
theorem ok_fewest {f fw fp fc fl : Addr} {fd dw dp dc dl : FuncData} (T : Txt mg) (D : Dn K mg "fewest" sFewest ["tastings"] f fd) (DW : Dn K mg "want_tastings" sWant ["tastings"] fw dw) (GW : FnOk P w K mg base CX0 6 fw dw ["tastings"] (spWant K))
    (DP : Dn K mg "pairs_of" sPairs ["tastings", "chosen"] fp dp) (GP : FnOk P w K mg base CX0 2 fp dp ["tastings", "chosen"] (spPairs K)) (DC : Dn K mg "choices" sChoices ["first", "many", "left"] fc dc) (GC : FnOk P w K mg base CX0 11 fc dc ["first", "many", "left"] (spCh K 10))
    (DL : Dn K mg "lacking" sLacking ["tastings", "chosen", "pairs"] fl dl) (GL : FnOk P w K mg base CX0 3 fl dl ["tastings", "chosen", "pairs"] (spLack K)) : FnOk P w K mg base CX0 12 f fd ["tastings"] (spFewest K) := by
  refine D.fn.ok scFewest (fun vs H Q E h => ?_) (fun cdv A outer s H vs Q E hr h => ?_)
  · obtain ⟨_, _, _, _, rfl, _⟩ := h
    rfl
  · obtain ⟨v, start, high, ms, rfl, hb, hM, hd, k⟩ := h
    obtain ⟨a, xs, rfl, hs, ha⟩ := Dp.lst_inv hd
    have hlen : xs.length = ms.length := (DpAll.length ha).trans (List.length_map ..)
    have h10 := hM.2.1
    have hr6 : Room 6 _ := hr.mono (by decide)
    have hr2 : Room 2 _ := hr.mono (by decide)
    have hr3 : Room 3 _ := hr.mono (by decide)
    refine ⟨_, pss_cons (ps_expr (pcl DW GW hr6 (pa_cons (pv 0) pa_nil))) (pss_cons (ps_set (i := 1) scFewest.nd rfl (Or.inl rfl) (p_len T (pv 0)))
      (pss_cons (ps_set (i := 2) scFewest.nd rfl (Or.inl rfl) (pcl DP GP hr2 (pa_cons (pv 0) (pa_cons (pe_listRg rfl (by rfl) T.list (prg_1 (by rfl) T.range (pv 1))) pa_nil))))
      (pss_cons (ps_set (i := 3) scFewest.nd rfl (Or.inl rfl) (pe_lst pa_nil))
      (pss_cons (ps_for PassesOwn.never rfl (pi_range1 (by rfl) T.range (pa_cons (pe_op op_add (pv 1) pe_int) pa_nil)) (pg_name (i := 4) scFewest.nd rfl (Or.inl rfl))
        (pss_cons (ps_set (i := 5) scFewest.nd rfl (Or.inl rfl) (pe_lst pa_nil))
        (pss_cons (ps_for PassesOwn.never rfl (pi_list (pcl DC GC hr (pa_cons pe_int (pa_cons (pv 1) (pa_cons (pv 4) pa_nil))))) (pg_name (i := 6) scFewest.nd rfl (Or.inl rfl))
          (pss_cons (ps_set (i := 7) scFewest.nd rfl (Or.inl rfl) (pcl DL GL hr3 (pa_cons (pv 0) (pa_cons (pv 6) (pa_cons (pv 2) pa_nil)))))
          (pss_cons (ps_if (pt_cmpR op_isN (pv 7) pe_non (nomark _)) (pss_one (ps_ret (pe_tup (pa_cons (pv 6) (pa_cons (pv 3) pa_nil))))) pss_nil)
          (pss_one (ps_expr (pe_bm PySem.F.plainAttrs_list PySem.F.slot_list_append PySem.F.type_list_append mt_append (pv 5) (pa_cons (pv 7) pa_nil)))))))
        (pss_one (ps_set (i := 3) scFewest.nd rfl (Or.inl rfl) (pv 5))))))
      pss_never)))), ?_⟩
    refine ⟨_, rfl, _, start, high, ms, rfl, hb, hM, hd, fun H1 e1 => ?_⟩
    refine ⟨_, rfl, a, xs, rfl, .inl (e1.seq hs), ?_⟩
    refine ⟨_, rfl, _, rfl, _, rfl, RgOk.of_le (by omega) (by omega) (by omega) (by omega), fun q0 hq0 => ?_⟩
    have en : rgV 0 ((xs.length : Nat) : Int) = ((List.range' 0 ms.length).map fun k : Nat => (k : Int)).map V.int := by rw [hlen, rgV_nat]
    rw [en]
    have e2 : Same H (upd H1 q0 (.lst (((List.range' 0 ms.length).map fun k : Nat => (k : Int)).map V.int))) := e1.trans (same_upd hq0)
    refine ⟨_, _, start, high, ms, allOf ms, rfl, hb, hM, Dp.same e2 _ hd, by rw [dC_eq]; exact Dp.of_ints (SqL.of upd_same), fun k hk => by have := List.mem_range'_1.mp hk; omega, by unfold allOf; rw [List.length_range']; exact h10, fun Hp p e3 nlp => ?_⟩
    have e3' : Same H Hp := e2.trans e3
    have nlp' : NewL K H Hp p ((prs start ms (allOf ms)).map dPr) := nlp.left fun b hb => e2.free hb
    obtain ⟨ps, hp1, hp2⟩ := nlp'.ex
    refine ⟨Nat.zero_le _, fun pa0 hpa0 => ?_⟩
    refine ⟨_, rfl, _, _, rfl, rfl, _, rfl, by omega, by omega, ?_⟩
    rw [show (((xs.length : Nat) : Int) + 1).toNat = ms.length + 1 by omega]
    refine for_range (lo := 0) (n := ms.length + 1) (fun i σ H' => ∃ (pa : Addr) (v4 v5 v6 v7 : Option V), σ = [some (.ref a), some (.int (xs.length : Nat)), some (.ref p), some (.ref pa), v4, v5, v6, v7] ∧ Same Hp H' ∧
        NewL K H H' pa ((rights start ms i).map dPr) ∧ ∀ s' < i, ∀ d ∈ chs s' 0 ms.length, ¬ cov ms d)
      ⟨pa0, none, none, none, none, rfl, same_upd hpa0, ⟨e3'.free hpa0, [], upd_same, .nil⟩, fun s' h => by omega⟩ ?_ ?_
    · rintro i σ H' hi ⟨pa, v4, v5, v6, v7, rfl, g1, g2, g3⟩
      refine ⟨Nat.zero_le _, fun R hR => ?_⟩
      have eH : Same H H' := e3'.trans g1
      have hR0 : H R = none := eH.free hR
      refine ⟨_, rfl, _, rfl, _, _, _, 0, ms.length, i, rfl, rfl, by omega, by omega, by omega, by omega, by omega, h10, fun H4 cl e4 nlc => ?_⟩
      obtain ⟨ys, hy1, hy2⟩ := nlc.ex
      have nclR : cl ≠ R := fun z => by
        have q := nlc.free
        rw [z, upd_same] at q
        cases q
      have hR4 : H4 R = some (.lst []) := e4 _ _ upd_same
      have eW : Same (fr (upd H' R (.lst [])) H4) (wo H4 R) := fun b o z => by
        obtain ⟨z1, z2⟩ := fr_some.mp z
        exact wo_some (fun e => by rw [e, upd_same] at z1; cases z1) z2
      have yl : ys.length = (chs i 0 ms.length).length := (DpAll.length hy2).trans (List.length_map ..)
      refine ⟨cl, rfl, ⟨_, SqL.of hy1⟩, for_list (K := K) (a := cl) (xs := ys) (fun j σ H2 => ∃ (v6 v7 : Option V), σ = [some (.ref a), some (.int (xs.length : Nat)), some (.ref p), some (.ref pa), some (.int (0 + (i : Nat))), some (.ref R), v6, v7] ∧ Same H' H2 ∧ Same (wo H4 R) H2 ∧
          (∃ zs, H2 R = some (.lst zs) ∧ DpAll K (fr (upd H R (.lst [])) H2) zs (((chs i 0 ms.length).take j).map fun c => dPr (start + lk ms c, start + 11))) ∧ ∀ d ∈ (chs i 0 ms.length).take j, ¬ cov ms d)
        ⟨v6, v7, rfl, (same_upd hR).trans e4, fun b o z => by unfold wo at z; split at z; cases z; exact z, ⟨[], hR4, .nil⟩, fun _ h => by cases h⟩ (fun j σ H2 _ ⟨_, _, _, _, q, _⟩ => q.seq (SqL.of (wo_some nclR hy1))) ?_ ?_⟩
      · rintro j y σ H2 hj ⟨v6, v7, rfl, q1, q2, ⟨zs, hz1, hz2⟩, q4⟩
        obtain ⟨d, hd1, hd2⟩ := DpAll.at hy2 hj
        obtain ⟨c, hc1, rfl⟩ : ∃ c, (chs i 0 ms.length)[j]? = some c ∧ dC c = d := by simpa using hd1
        have hch := chs_choice (List.mem_of_getElem? hc1)
        have eP : Same Hp H2 := g1.trans q1
        have eG : Same (fr H Hp) H2 := fun b o z => eP b o (fr_some.mp z).2
        have hdc : Dp K H2 y (dC c) := Dp.same (fun b o z => q2 b o (eW b o z)) _ hd2
        have zl : zs.length ≤ 1024 := by
          rw [DpAll.length hz2, List.length_map, List.length_take]
          have := chs_1024 (l := i) (f := 0) h10
          omega
        have jl : j < (chs i 0 ms.length).length := (List.getElem?_eq_some_iff.mp hc1).1
        refine ⟨_, rfl, _, rfl, _, rfl, _, _, p, fr H Hp, ps, start, high, ms, c, rfl, hb, hM, Dp.same (e3'.trans eP) _ hd, hdc, hch.lt, by rw [hch.len]; omega, eP.seq (SqL.of hp1), hp2, eG, fun hl H3 e5 => ?_, fun jj hl H3 y2 e5 hdy => ?_⟩
        · -- found: return (chosen, paper)
          refine ⟨_, rfl, rfl, _, rfl, iteT ?_⟩
          refine ⟨_, rfl, _, rfl, by show 2 ≤ sizeLine; decide, fun r hr0 => ?_⟩
          have e6 : Same H' H3 := q1.trans e5
          obtain ⟨b, eb, _⟩ : ∃ b, y = .ref b ∧ True := by
            rw [dC_eq] at hd2
            obtain ⟨b, eb, _⟩ := Dp.ints hd2
            exact ⟨b, eb, trivial⟩
          subst eb
          have e7 : Same H2 (upd H3 r (.tup [.ref b, .ref pa])) := e5.trans (same_upd hr0)
          refine k _ r b pa i c ((eH.trans q1).trans e7) upd_same ⟨g3, by omega, j, hc1, lack_cov hM hch.lt hl, fun j' hj' d hd' => q4 d (List.mem_of_getElem? (i := j') (by rw [List.getElem?_take_of_lt hj']; exact hd'))⟩ ?_ ?_
          · refine Dp.same (fun x o z => ?_) _ hd2
            obtain ⟨z1, z2⟩ := fr_some.mp z
            exact fr_some.mpr ⟨eH.free (upd_dom _ z1), e7 _ _ (q2 _ _ (eW _ _ z))⟩
          · exact g2.right (q1.trans e7)
        · have hny : ¬ y2 = V.non := fun z => by
            rw [z] at hdy
            cases hdy
          refine ⟨_, rfl, rfl, _, rfl, ?_⟩
          rw [decide_eq_false hny]
          have hR3 : H3 R = some (.lst zs) := e5 _ _ hz1
          refine iteF ⟨_, rfl, .inl ⟨rfl, _, SqL.of hR3⟩, _, rfl, R, _, _, rfl, rfl, hR3, small2 (by omega), ?_⟩
          have hRp : Hp R = none := g1.free hR
          have sG : Same (fr H Hp) (fr (upd H R (.lst [])) (upd H3 R (.lst (zs ++ [y2])))) := fun b o z => by
            obtain ⟨z1, z2⟩ := fr_some.mp z
            have nb : b ≠ R := ne_of_none z2 hRp
            refine fr_some.mpr ⟨by rw [upd_ne nb]; exact z1, ?_⟩
            rw [upd_ne nb]
            exact e5 _ _ (eP _ _ z2)
          refine ⟨_, _, rfl, Same.upd (q1.trans e5) hR, Same.upd (q2.trans e5) (by unfold wo; rw [if_pos rfl]), ⟨zs ++ [y2], upd_same, ?_⟩, fun d hd' => ?_⟩
          · rw [List.take_add_one, hc1, List.map_append]
            have elk : lk ms c = jj := by unfold lk; rw [hl]; rfl
            refine DpAll.append (DpAll.same (fun b o z => ?_) _ hz2) (.cons ?_ .nil)
            · obtain ⟨z1, z2⟩ := fr_some.mp z
              have nb : b ≠ R := fun e => by
                rw [e, upd_same] at z1
                cases z1
              refine fr_some.mpr ⟨z1, ?_⟩
              rw [upd_ne nb]
              exact e5 _ _ z2
            · show Dp K _ y2 (dPr (start + lk ms c, start + 11))
              rw [elk]
              exact Dp.same sG _ hdy
          · rw [List.take_add_one, hc1] at hd'
            rcases List.mem_append.mp hd' with h | h
            · exact q4 d h
            · have e : d = c := by simpa using h
              rw [e]
              exact lack_not hl
      · rintro σ H2 ⟨v6, v7, rfl, q1, q2, ⟨zs, hz1, hz2⟩, q4⟩
        rw [List.take_of_length_le (by omega)] at hz2 q4
        refine ⟨_, rfl, R, _, _, _, _, rfl, g1.trans q1, ⟨hR0, zs, hz1, ?_⟩, fun s' hs' d hd' => ?_⟩
        · show DpAll K (fr H H2) zs (((chs i 0 ms.length).map fun c => (start + lk ms c, start + 11)).map dPr)
          rw [List.map_map]
          exact DpAll.same (fr_left upd_dom) _ hz2
        · rcases Nat.lt_or_eq_of_le (Nat.le_of_lt_succ hs') with h | h
          · exact g3 s' h d hd'
          · rw [h] at hd'
            exact q4 d hd'
    · rintro σ H' ⟨pa, v4, v5, v6, v7, rfl, g1, g2, g3⟩
      exact (not_none g3).elim
end
end Brk
/-! NoRule.__init__, NoPaper.__init__, check_paper -/
namespace Brk
open PySem L2
abbrev sInitR : Stmt := inClass (topS 2) 0
abbrev sInitP : Stmt := inClass (topS 3) 0
abbrev sCheck : Stmt := topS 26
theorem scInitR : FnScope ["self", "what"] ["self", "what"] (defScope sInitR) := ⟨rfl, rfl, rfl, by decide +kernel, rfl, by decide +kernel, by decide +kernel⟩
theorem scInitP : FnScope ["self", "at"] ["self", "at"] (defScope sInitP) := ⟨rfl, rfl, rfl, by decide +kernel, rfl, by decide +kernel, by decide +kernel⟩
theorem scCheck : FnScope ["tastings", "many", "paper", "pairs", "barred", "at", "thing"] ["tastings", "many", "paper"] (defScope sCheck) := ⟨rfl, rfl, rfl, by decide +kernel, rfl, by decide +kernel, by decide +kernel⟩
def spInit (K : PySem.W.Frag) (fl : Str) : Sp := fun vs H Q _ => ∃ (a C : Addr) (v : V), vs = [.ref a, v] ∧ OexC K C ∧ PySem.W.findIn K (.ref C) fl = some none ∧ H a = some (exo a C none) ∧
  ∀ dx, H dx = none → dx ≠ a → Q .non (upd (upd H dx (exd dx [(fl, v)])) a (exo a C (some dx)))
/-- an own error: its class, its __init__ -/
structure Er (K : PySem.W.Frag) (mg : Str → Option Value) (x : Str) (q : Str) (fl : Str) (st : Stmt) (C fI : Addr) (fd : FuncData) : Prop where
  at_ : mg x = some (.ref C)
  ox : OexC K C
  no : PySem.W.findIn K (.ref C) fl = some none
  iC : PySem.W.findIn K (.ref C) "__init__" = some (some (.ref fI))
  tI : PySem.W.typeIn K (.ref fI) = some (.type "function")
  fn : Fun K "__init__" q st fI fd
  bd : Binds K fd ["self", fl] []
section
variable {P : Program} {w : World} {K : PySem.W.Frag} {mg : Str → Option Value} {base : Heap}
theorem ok_initR {f CB : Addr} {fd : FuncData} (B : BiC K mg CB) (F : Fun K "__init__" "NoRule.__init__" sInitR f fd) : FnOk P w K mg base CX0 1 f fd ["self", "what"] (spInit K "what") := by
  refine F.ok scInitR (fun vs H Q E h => ?_) (fun cdv A outer s H vs Q E hr h => ?_)
  · obtain ⟨_, _, _, rfl, _⟩ := h
    rfl
  · obtain ⟨a, C, v, rfl, O, no, ha, k⟩ := h
    refine ⟨_, pss_cons (ps_expr (pe_beinit B (by rfl) (pa_cons (pv 0) (pa_cons pe_str pa_nil)))) (pss_one (ps_ost (pv 0) (pv 1))), ?_⟩
    refine ⟨_, rfl, a, C, _, rfl, by show 1 ≤ 1000; decide, O, ha, ?_⟩
    exact ⟨_, rfl, _, rfl, a, C, rfl, O, no, .inl ⟨ha, k⟩⟩
theorem ok_initP {f CB : Addr} {fd : FuncData} (B : BiC K mg CB) (F : Fun K "__init__" "NoPaper.__init__" sInitP f fd) : FnOk P w K mg base CX0 1 f fd ["self", "at"] (spInit K "at") := by
  refine F.ok scInitP (fun vs H Q E h => ?_) (fun cdv A outer s H vs Q E hr h => ?_)
  · obtain ⟨_, _, _, rfl, _⟩ := h
    rfl
  · obtain ⟨a, C, v, rfl, O, no, ha, k⟩ := h
    refine ⟨_, pss_cons (ps_expr (pe_beinit B (by rfl) (pa_cons (pv 0) (pa_cons pe_str pa_nil)))) (pss_one (ps_ost (pv 0) (pv 1))), ?_⟩
    refine ⟨_, rfl, a, C, _, rfl, by show 1 ≤ 1000; decide, O, ha, ?_⟩
    exact ⟨_, rfl, _, rfl, a, C, rfl, O, no, .inl ⟨ha, k⟩⟩
end
/-- what raising it asks -/
theorem raised {K : PySem.W.Frag} {x q fl : Str} {mg : Str → Option Value} {st : Stmt} {C fI : Addr} {fd : FuncData} (R : Er K mg x q fl st C fI fd) {H : Hp} {v : V} {Q : XK}
    (h : ∀ (H' : Hp) (d : Addr), Same H H' → H' d = some (.xd [(fl, v)]) → Q (.ref C) (some d) H') (a : Addr) (ha : H a = none) :
    spInit K fl (.ref a :: ([v] ++ [])) (upd H a (exo a C none)) (fun u H2 => u = .non ∧ ∃ (d : Addr) (fs : List (Str × V)), H2 a = some (exo a C (some d)) ∧ H2 d = some (exd d fs) ∧ H d = none ∧ Q (.ref C) (some d) (upd (del H2 a) d (.xd fs))) (fun _ _ _ => False) := by
  refine ⟨a, C, v, rfl, R.ox, R.no, upd_same, fun dx hdx ne => ⟨rfl, dx, _, upd_same, by rw [upd_ne ne]; exact upd_same, by rw [upd_ne ne] at hdx; exact hdx, h _ dx ?_ upd_same⟩⟩
  rw [upd_ne ne] at hdx
  intro b o e
  have nb : b ≠ a := ne_of_none e ha
  have nd : b ≠ dx := ne_of_none e hdx
  rw [upd_ne nd, del_ne nb, upd_ne nb, upd_ne nd, upd_ne nb]
  exact e
def barredOf (ms : List (List Int)) : Nat → List (List Nat)
  | 0 => []
  | s + 1 => chs s 0 ms.length
theorem rights_eq (start : Int) (ms : List (List Int)) (s : Nat) : rights start ms s = (barredOf ms s).map fun c => (start + lk ms c, start + 11) := by cases s <;> rfl
def spCheck (K : PySem.W.Frag) (CR CP : Addr) : Sp := fun vs H Q E => ∃ (v pp : V) (m : Int) (start high : Int) (ms : List (List Int)) (ds : List PyData), vs = [v, .int m, pp] ∧ Bnd start high ∧ Masks ms ∧ Dp K H v (dTs start high ms) ∧ Dp K H pp (.list ds) ∧
  ((∃ s : Nat, m = (s : Nat) ∧ s ≤ ms.length ∧ (∀ c ∈ barredOf ms s, ¬ cov ms c) ∧ (∀ (i : Nat) d r, ds[i]? = some d → (rights start ms s)[i]? = some r → d = dPr r) ∧
      (ds.length = (barredOf ms s).length → ∀ H', Same H H' → Q .non H') ∧ (ds.length ≠ (barredOf ms s).length → ∀ (H' : Hp) (d : Addr), Same H H' → H' d = some (.xd [("at", .int (min ds.length (barredOf ms s).length : Nat))]) → E (.ref CP) (some d) H')) ∨
    (m = (ms.length : Nat) + 1 ∧ ∀ (H' : Hp) (d : Addr), Same H H' → H' d = some (.xd [("what", .str "many")]) → E (.ref CR) (some d) H'))
section
variable {P : Program} {w : World} {K : PySem.W.Frag} {mg : Str → Option Value} {base : Heap}
theorem ok_check {f fw fp fc fi ff CB CR CP fR fP : Addr} {fd dw dp dc di df dR dP : FuncData} (T : Txt mg) (D : Dn K mg "check_paper" sCheck ["tastings", "many", "paper"] f fd) (B : BiC K mg CB) (R : Er K mg "NoRule" "NoRule.__init__" "what" sInitR CR fR dR) (N : Er K mg "NoPaper" "NoPaper.__init__" "at" sInitP CP fP dP)
    (DW : Dn K mg "want_tastings" sWant ["tastings"] fw dw) (GW : FnOk P w K mg base CX0 6 fw dw ["tastings"] (spWant K))
    (DP : Dn K mg "pairs_of" sPairs ["tastings", "chosen"] fp dp) (GP : FnOk P w K mg base CX0 2 fp dp ["tastings", "chosen"] (spPairs K)) (DC : Dn K mg "choices" sChoices ["first", "many", "left"] fc dc) (GC : FnOk P w K mg base CX0 11 fc dc ["first", "many", "left"] (spCh K 10))
    (DI : Dn K mg "is_lacking" sIsLack ["tastings", "chosen", "pairs", "thing"] fi di) (GI : FnOk P w K mg base CX0 4 fi di ["tastings", "chosen", "pairs", "thing"] (spIsL K)) (DF : Dn K mg "is_from" sFrom ["thing", "low", "high"] ff df) (GF : FnOk P w K mg base CX0 2 ff df ["thing", "low", "high"] spFrom) :
    FnOk P w K mg base (L2.CX P w) 12 f fd ["tastings", "many", "paper"] (spCheck K CR CP) := by
  have GR : FnOk P w K mg base CX0 1 fR dR ["self", "what"] (spInit K "what") := ok_initR B R.fn
  have GN : FnOk P w K mg base CX0 1 fP dP ["self", "at"] (spInit K "at") := ok_initP B N.fn
  refine D.fn.okX scCheck (fun vs H Q E h => ?_) (fun cdv A outer s H vs Q E hr h => ?_)
  · obtain ⟨_, _, _, _, _, _, _, rfl, _⟩ := h
    rfl
  · obtain ⟨v, pp, m, start, high, ms, ds, rfl, hb, hM, hd, hp, k⟩ := h
    obtain ⟨a, xs, rfl, hs, ha⟩ := Dp.lst_inv hd
    obtain ⟨b, ys, rfl, hy, hya⟩ := Dp.lst_inv hp
    have hlen : xs.length = ms.length := (DpAll.length ha).trans (List.length_map ..)
    have hyl : ys.length = ds.length := DpAll.length hya
    have h10 := hM.2.1
    have hr6 : Room 6 _ := hr.mono (by decide)
    have hr2 : Room 2 _ := hr.mono (by decide)
    have hr4 : Room 4 _ := hr.mono (by decide)
    refine ⟨_, pss_cons (ps_expr (pcl DW GW hr6 (pa_cons (pv 0) pa_nil)))
      (pss_cons (ps_if (pt_not (pt_val (pcl DF GF hr2 (pa_cons (pv 1) (pa_cons pe_int (pa_cons (p_len T (pv 0)) pa_nil)))))) (pss_one (ps_raise rfl (takes_of rfl rfl rfl rfl) (pmk_oex R.ox R.iC R.tI GR hr2 R.bd .nil pass0 rfl R.at_ (pa_cons pe_str pa_nil)))) pss_nil)
      (pss_cons (ps_if (pt_not (pt_val (pe_callB call_isi (by rfl) T.isi (by decide +kernel) (pa_cons (pv 2) (pa_cons (pe_bltn (v := .ty "list") (by rfl) T.list (by decide +kernel) rfl) pa_nil))))) (pss_one ps_never) pss_nil)
      (pss_cons (ps_set (i := 3) scCheck.nd rfl (Or.inl rfl) (pcl DP GP hr2 (pa_cons (pv 0) (pa_cons (pe_listRg rfl (by rfl) T.list (prg_1 (by rfl) T.range (p_len T (pv 0)))) pa_nil))))
      (pss_cons (ps_set (i := 4) scCheck.nd rfl (Or.inl rfl) (pe_lst pa_nil))
      (pss_mid (ps_if (pt_cmpR op_gt (pv 1) pe_int (nomark _)) (pss_one (ps_set (i := 4) scCheck.nd rfl (Or.inl rfl) (pcl DC GC hr (pa_cons pe_int (pa_cons (p_len T (pv 0)) (pa_cons (pe_op op_sub (pv 1) pe_int) pa_nil)))))) pss_nil)
      (pss_cons (ps_for (passes_of rfl) rfl (pi_enum (by rfl) T.enum (pa_cons (pv 2) pa_nil)) (pg_tup rfl (pgs_cons (pg_name (i := 5) scCheck.nd rfl (Or.inl rfl)) (pgs_cons (pg_name (i := 6) scCheck.nd rfl (Or.inl rfl)) pgs_nil)))
        (pss_one (ps_if (PW.pt (pw_or (pt_cmpR op_ge (pv 5) (p_len T (pv 4)) (nomark _)) (pw_or1 (pt_not (pt_val (pcl DI GI hr4 (pa_cons (pv 0) (pa_cons (pe_ix ix_list (pv 4) (pv 5) (fun _ _ => rfl)) (pa_cons (pv 3) (pa_cons (pv 6) pa_nil))))))))))
          (pss_one (ps_raise rfl (takes_of rfl rfl rfl rfl) (pmk_oex N.ox N.iC N.tI GN hr2 N.bd .nil pass0 rfl N.at_ (pa_cons (pv 5) pa_nil)))) pss_nil)))
      (pss_one (ps_if (pt_cmpR op_lt (p_len T (pv 2)) (p_len T (pv 4)) (nomark _)) (pss_one (ps_raise rfl (takes_of rfl rfl rfl rfl) (pmk_oex N.ox N.iC N.tI GN hr2 N.bd .nil pass0 rfl N.at_ (pa_cons (p_len T (pv 2)) pa_nil)))) pss_nil)))))))), ?_⟩
    refine ⟨_, rfl, _, start, high, ms, rfl, hb, hM, hd, fun H1 e1 => ?_⟩
    refine ⟨_, rfl, _, rfl, a, xs, rfl, .inl (e1.seq hs), m, 0, (xs.length : Nat), rfl, _, rfl, ?_⟩
    rcases k with ⟨n, rfl, hn, hnc, hri, k1, k2⟩ | ⟨rfl, k2⟩
    · rw [decide_eq_true (show (0 : Int) ≤ (n : Nat) ∧ ((n : Nat) : Int) ≤ (xs.length : Nat) by omega)]
      refine iteF ?_
      refine ⟨_, rfl, _, _, _, _, true, rfl, .ty "list", tyL (e1.seq hy), kit_ty (by decide +kernel), true, rfl, iteF ?_⟩
      refine ⟨_, rfl, _, rfl, a, xs, rfl, .inl (e1.seq hs), _, rfl, RgOk.of_le (by omega) (by omega) (by omega) (by omega), fun q0 hq0 => ?_⟩
      have en : rgV 0 ((xs.length : Nat) : Int) = ((List.range' 0 ms.length).map fun k : Nat => (k : Int)).map V.int := by rw [hlen, rgV_nat]
      rw [en]
      have e2 : Same H (upd H1 q0 (.lst (((List.range' 0 ms.length).map fun k : Nat => (k : Int)).map V.int))) := e1.trans (same_upd hq0)
      refine ⟨_, _, start, high, ms, allOf ms, rfl, hb, hM, Dp.same e2 _ hd, by rw [dC_eq]; exact Dp.of_ints (SqL.of upd_same), fun k hk => by have := List.mem_range'_1.mp hk; omega, by unfold allOf; rw [List.length_range']; exact h10, fun Hp p e3 nlp => ?_⟩
      have eP : Same H Hp := e2.trans e3
      have hpp : Dp K Hp (.ref p) (dPs (prs start ms (allOf ms))) := nlp.dp
      refine ⟨Nat.zero_le _, fun bl0 hbl0 => ?_⟩
      refine ⟨fun σ H' => ∃ (bl : Addr) (bs : List V), σ = [some (.ref a), some (.int (n : Nat)), some (.ref b), some (.ref p), some (.ref bl), none, none] ∧ Same Hp H' ∧ H' bl = some (.lst bs) ∧ DpAll K H' bs ((barredOf ms n).map dC), ?_, ?_⟩
      · refine ⟨_, rfl, _, _, rfl, rfl, _, rfl, ?_⟩
        cases n with
        | zero => exact ⟨bl0, [], rfl, same_upd hbl0, upd_same, .nil⟩
        | succ l =>
          rw [decide_eq_true (show (0 : Int) < ((l + 1 : Nat) : Int) by omega)]
          refine iteT ⟨_, rfl, a, xs, rfl, .inl ((same_upd hbl0).seq (eP.seq hs)), _, rfl, _, _, rfl, rfl, ?_⟩
          refine ⟨_, _, _, 0, ms.length, l, rfl, rfl, by omega, by omega, by omega, by omega, by omega, h10, fun H4 cl e4 nlc => ?_⟩
          obtain ⟨ws, hw1, hw2⟩ := nlc.ex
          exact ⟨cl, ws, rfl, (same_upd hbl0).trans e4, hw1, NewAll.dp hw2⟩
      · rintro σ Hb ⟨bl, bs, rfl, g1, g2, g3⟩
        have bl_len : bs.length = (barredOf ms n).length := (DpAll.length g3).trans (List.length_map ..)
        have eB : Same H Hb := eP.trans g1
        refine ⟨_, rfl, b, ys, rfl, eB.seq hy, for_it walk_enum (fun i σ H' => ∃ v5 v6 : Option V, σ = [some (.ref a), some (.int (n : Nat)), some (.ref b), some (.ref p), some (.ref bl), v5, v6] ∧ Same Hb H' ∧ i ≤ bs.length)
          ⟨none, none, rfl, Same.refl _, Nat.zero_le _⟩ (fun i σ H' _ ⟨_, _, _, e, _⟩ => e.seq (eB.seq hy)) ?_ ?_⟩
        · rintro i x σ H' H'' hi ⟨v5, v6, rfl, q1, q2⟩ ⟨U, y1, y2, rfl, hU, rfl, hy1, hy2⟩
          obtain rfl : V.int (i : Nat) = y1 := Option.some.inj hy1
          have hy2' : ys[i]? = some y2 := hy2
          have sU : Same Hb (upd H' U (.tup [.int (i : Nat), y2])) := q1.trans (same_upd hU)
          refine ⟨U, _, rfl, SqT.of upd_same, rfl, _, _, rfl, _, _, rfl, rfl, ?_⟩
          refine ⟨_, rfl, _, rfl, bl, bs, rfl, .inl (SqL.of (sU _ _ g2)), _, _, rfl, rfl, _, rfl, ?_⟩
          by_cases c : bs.length ≤ i
          · rw [decide_eq_true (show ((bs.length : Nat) : Int) ≤ (i : Nat) by omega)]
            refine iteT ?_
            refine ⟨_, rfl, by show 1 ≤ 1000; decide, raised N fun H3 d e q => k2 (by omega) H3 d ((eB.trans sU).trans e) ?_⟩
            rw [q, show min ds.length (barredOf ms n).length = i by omega]
          · rw [decide_eq_false (show ¬ ((bs.length : Nat) : Int) ≤ (i : Nat) by omega)]
            refine iteF ?_
            have hib : i < (barredOf ms n).length := by omega
            obtain ⟨w0, hw1, hw2⟩ := DpAll.of g3 (i := i) (d := dC (barredOf ms n)[i]) (by rw [List.getElem?_map, List.getElem?_eq_getElem hib]; rfl)
            have hmem : (barredOf ms n)[i] ∈ barredOf ms n := List.getElem_mem hib
            have hch : ∀ k ∈ (barredOf ms n)[i], k < ms.length := by
              generalize hz : (barredOf ms n)[i] = z at hmem
              cases n with
              | zero => cases hmem
              | succ l => exact (chs_choice hmem).lt
            have hcl : (barredOf ms n)[i].length ≤ 10 := by
              generalize hz : (barredOf ms n)[i] = z at hmem
              cases n with
              | zero => cases hmem
              | succ l =>
                rw [(chs_choice hmem).len]
                omega
            obtain ⟨d, hd1, hd2⟩ := DpAll.at hya hy2'
            have hd3 := hri i d (start + lk ms (barredOf ms n)[i], start + 11) hd1 (by rw [rights_eq, List.getElem?_map, List.getElem?_eq_getElem hib]; rfl)
            subst hd3
            obtain ⟨l1, l2⟩ := lk_of hM hch (hnc _ hmem)
            refine ⟨_, rfl, _, rfl, _, rfl, bl, bs, _, w0, rfl, rfl, SqL.of (sU _ _ g2), at_of (j := i) rfl hw1, _, rfl, _, rfl, ?_⟩
            refine ⟨_, _, _, _, start, high, ms, (barredOf ms n)[i], lk ms (barredOf ms n)[i], rfl, hb, hM, Dp.same (eB.trans sU) _ hd, Dp.same sU _ hw2, hch, hcl, Dp.same (g1.trans sU) _ hpp, Dp.same (eB.trans sU) _ hd2, l1, l2, fun H3 e => ?_⟩
            refine ⟨true, rfl, iteF ⟨_, _, rfl, sU.trans e, by omega⟩⟩
        · rintro σ H' ⟨v5, v6, rfl, q1, q2⟩
          refine ⟨_, rfl, b, ys, rfl, .inl ((eB.trans q1).seq hy), _, rfl, bl, bs, rfl, .inl (SqL.of (q1 _ _ g2)), _, _, rfl, rfl, _, rfl, ?_⟩
          by_cases c : ys.length < bs.length
          · rw [decide_eq_true (show ((ys.length : Nat) : Int) < (bs.length : Nat) by omega)]
            refine iteT ⟨_, rfl, b, ys, rfl, .inl ((eB.trans q1).seq hy), by show 1 ≤ 1000; decide, raised N fun H3 d e q => k2 (by omega) H3 d ((eB.trans q1).trans e) ?_⟩
            rw [q, show min ds.length (barredOf ms n).length = ys.length by omega]
          · rw [decide_eq_false (show ¬ ((ys.length : Nat) : Int) < (bs.length : Nat) by omega)]
            exact iteF (k1 (by omega) _ (eB.trans q1))
    · rw [decide_eq_false (show ¬ ((0 : Int) ≤ (ms.length : Nat) + 1 ∧ ((ms.length : Nat) : Int) + 1 ≤ (xs.length : Nat)) by omega)]
      exact iteT ⟨by show 1 ≤ 1000; decide, raised R fun H3 d e q => k2 H3 d (e1.trans e) q⟩
end
end Brk
/-! _law_mixed, _law_source, _law_next -/
namespace Brk
open PySem L2
abbrev sMixed : Stmt := topS 28
abbrev sSource : Stmt := topS 29
abbrev sNext : Stmt := topS 30
theorem scMixed : FnScope ["_law_cell", "_law_k", "_law_number"] ["_law_cell", "_law_k"] (defScope sMixed) := ⟨rfl, rfl, rfl, by decide +kernel, rfl, by decide +kernel, by decide +kernel⟩
theorem scSource : FnScope ["_law_cell"] ["_law_cell"] (defScope sSource) := ⟨rfl, rfl, rfl, by decide +kernel, rfl, by decide +kernel, by decide +kernel⟩
theorem scNext : FnScope ["_law_source_here", "_law_many", "_law_found"] ["_law_source_here", "_law_many"] (defScope sNext) := ⟨rfl, rfl, rfl, by decide +kernel, rfl, by decide +kernel, by decide +kernel⟩
def spMixed : Sp := fun vs H Q _ => ∃ c k : Int, vs = [.int c, .int k] ∧ ∀ r : Int, Q (.int r) H
def spSource : Sp := fun vs H Q _ => ∃ v : V, vs = [v] ∧ ∀ p, H p = none → Q (.ref p) (upd H p (.lst [v, v, .int 0]))
/-- a source of draws stands at s -/
def Src (H : Hp) (s : Addr) : Prop := ∃ a b c : Int, H s = some (.lst [.int a, .int b, .int c])
def spNext : Sp := fun vs H Q _ => ∃ (s : Addr) (m : Int), vs = [.ref s, .int m] ∧ Src H s ∧ 0 < m ∧ m < 1000 ∧ ∀ (r : Int) (o : HO), 0 ≤ r → r < m → Src (upd H s o) s → Q (.int r) (upd H s o)
section
variable {P : Program} {w : World} {K : PySem.W.Frag} {mg : Str → Option Value} {base : Heap}
theorem ok_mixed {f : Addr} {fd : FuncData} (D : Dn K mg "_law_mixed" sMixed ["_law_cell", "_law_k"] f fd) : FnOk P w K mg base CX0 1 f fd ["_law_cell", "_law_k"] spMixed := by
  refine D.fn.ok scMixed (fun vs H Q E h => ?_) (fun cdv A outer s H vs Q E hr h => ?_)
  · obtain ⟨_, _, rfl, _⟩ := h
    rfl
  · obtain ⟨c, k, rfl, q⟩ := h
    refine ⟨_, pss_cons (ps_set (i := 2) scMixed.nd rfl (Or.inl rfl) (pe_op op_add (pe_op op_mod (pv 0) pe_int) (pe_op op_mul (pe_op op_fdivW (pv 0) pe_int) pe_int)))
      (pss_cons (ps_set (i := 2) scMixed.nd rfl (Or.inl rfl) (pe_op op_mod (pe_op op_mul (pe_op op_add (pe_op op_add (pv 2) (pe_op op_mul pe_int (pv 1))) pe_int) pe_int) pe_int))
      (pss_cons (ps_set (i := 2) scMixed.nd rfl (Or.inl rfl) (pe_op op_mod (pe_op op_mul (pv 2) (pe_op op_add (pe_op op_add (pe_op op_fdiv (pv 2) pe_int) pe_int) (pv 1))) pe_int))
      (pss_one (ps_ret (pe_op op_mod (pe_op op_mul (pv 2) (pe_op op_add (pe_op op_fdiv (pv 2) pe_int) pe_int)) pe_int))))), ?_⟩
    refine ⟨_, rfl, _, _, rfl, rfl, (by show (0 : Int) < 2147483629; decide), _, rfl, _, _, rfl, rfl, wide_div (b := 40) (by decide) (by decide) (by decide) (by decide), _, _, rfl, rfl, .inr ⟨by decide, by decide⟩, _, _, rfl, rfl, ?_⟩
    refine ⟨_, rfl, _, rfl, _, _, rfl, rfl, .inl ⟨by decide, by decide⟩, _, _, rfl, rfl, _, _, rfl, rfl, _, _, rfl, rfl, .inr ⟨by decide, by decide⟩, _, _, rfl, rfl, (by show (0 : Int) < 2147483629; decide), ?_⟩
    generalize (c % 2147483629 + c / 2147483629 * 30011 + 69621 * k + 1) * 48271 = z
    have h1 := Int.emod_nonneg z (show (2147483629 : Int) ≠ 0 by decide)
    have h2 := Int.emod_lt_of_pos z (show (0 : Int) < 2147483629 by decide)
    refine ⟨_, rfl, _, rfl, _, _, rfl, rfl, ⟨by decide, by decide⟩, _, _, rfl, rfl, _, rfl, _, _, rfl, rfl, _, _, rfl, rfl, .inl ⟨by omega, by omega⟩, _, _, rfl, rfl, (by show (0 : Int) < 2147483587; decide), ?_⟩
    generalize z % 2147483629 * (z % 2147483629 / 907 + 16831 + k) = y
    have h3 := Int.emod_nonneg y (show (2147483587 : Int) ≠ 0 by decide)
    have h4 := Int.emod_lt_of_pos y (show (0 : Int) < 2147483587 by decide)
    exact ⟨_, rfl, _, rfl, _, _, rfl, rfl, ⟨by decide, by decide⟩, _, _, rfl, rfl, _, _, rfl, rfl, .inl ⟨by omega, by omega⟩, _, _, rfl, rfl, (by show (0 : Int) < 2147483563; decide), q _⟩
theorem ok_source {f : Addr} {fd : FuncData} (D : Dn K mg "_law_source" sSource ["_law_cell"] f fd) : FnOk P w K mg base CX0 1 f fd ["_law_cell"] spSource := by
  refine D.fn.ok scSource (fun vs H Q E h => ?_) (fun cdv A outer s H vs Q E hr h => ?_)
  · obtain ⟨_, rfl, _⟩ := h
    rfl
  · obtain ⟨v, rfl, q⟩ := h
    exact ⟨_, pss_one (ps_ret (pe_lst (pa_cons (pv 0) (pa_cons (pv 0) (pa_cons pe_int pa_nil))))), _, rfl, _, rfl, by show 3 ≤ sizeLine; decide, q⟩
theorem ok_next {f g : Addr} {fd gd : FuncData} (D : Dn K mg "_law_next" sNext ["_law_source_here", "_law_many"] f fd) (DM : Dn K mg "_law_mixed" sMixed ["_law_cell", "_law_k"] g gd) (GM : FnOk P w K mg base CX0 1 g gd ["_law_cell", "_law_k"] spMixed) :
    FnOk P w K mg base CX0 2 f fd ["_law_source_here", "_law_many"] spNext := by
  refine D.fn.ok scNext (fun vs H Q E h => ?_) (fun cdv A outer s H vs Q E hr h => ?_)
  · obtain ⟨_, _, rfl, _⟩ := h
    rfl
  · obtain ⟨p, m, rfl, ⟨a, b, c, hp⟩, h1, h2, q⟩ := h
    refine ⟨_, pss_cons (ps_if (pt_cmpR op_ge (pe_ix ix_list (pv 0) pe_int (fun _ _ => rfl)) (pe_op op_pow pe_int pe_int) (nomark _))
        (pss_cons (ps_set (i := 2) scNext.nd rfl (Or.inl rfl) (pe_op op_mod (pe_ix ix_list (pv 0) pe_int (fun _ _ => rfl)) (pv 1)))
        (pss_cons (ps_asg (pe_op op_fdiv (pe_ix ix_list (pv 0) pe_int (fun _ _ => rfl)) (pv 1)) (pg_sub (pv 0) pe_int set_list))
        (pss_one (ps_ret (pv 2))))) pss_nil)
      (pss_cons (ps_asg (pe_op op_add (pe_ix ix_list (pv 0) pe_int (fun _ _ => rfl)) pe_int) (pg_sub (pv 0) pe_int set_list))
      (pss_one (ps_ret (pe_op op_mod (pcl DM GM hr (pa_cons (pe_ix ix_list (pv 0) pe_int (fun _ _ => rfl)) (pa_cons (pe_ix ix_list (pv 0) pe_int (fun _ _ => rfl)) pa_nil))) (pv 1))))), ?_⟩
    have g0 : atI [V.int a, .int b, .int c] 0 = some (.int a) := at_of (j := 0) rfl rfl
    have g2 : atI [V.int a, .int b, .int c] 2 = some (.int c) := at_of (j := 2) rfl rfl
    refine ⟨_, rfl, _, _, _, _, rfl, rfl, SqL.of hp, g0, _, _, rfl, rfl, ⟨by decide, by decide, by decide⟩, _, _, rfl, rfl, _, rfl, ?_⟩
    refine ite2 (fun _ => ?_) (fun _ => ?_)
    · refine ⟨_, rfl, _, _, _, _, rfl, rfl, SqL.of hp, g0, _, rfl, _, _, rfl, rfl, h1, ?_⟩
      refine ⟨_, rfl, _, _, _, _, rfl, rfl, SqL.of hp, g0, _, rfl, _, _, rfl, rfl, ⟨h1, by omega⟩, _, rfl, _, _, _, 0, rfl, rfl, hp, rfl, ?_⟩
      exact ⟨_, rfl, q _ _ (Int.emod_nonneg _ (by omega)) (Int.emod_lt_of_pos _ h1) ⟨_, _, _, upd_same⟩⟩
    · refine ⟨_, rfl, _, _, _, _, rfl, rfl, SqL.of hp, g2, _, _, rfl, rfl, _, rfl, _, _, _, 2, rfl, rfl, hp, rfl, ?_⟩
      have g1' : atI [V.int a, .int b, .int (c + 1)] 1 = some (.int b) := at_of (j := 1) rfl rfl
      have g2' : atI [V.int a, .int b, .int (c + 1)] 2 = some (.int (c + 1)) := at_of (j := 2) rfl rfl
      refine ⟨_, rfl, _, _, _, _, rfl, rfl, SqL.of upd_same, g1', _, rfl, _, _, _, _, rfl, rfl, SqL.of upd_same, g2', b, c + 1, rfl, fun r => ?_⟩
      exact ⟨_, rfl, _, _, rfl, rfl, h1, q _ _ (Int.emod_nonneg _ (by omega)) (Int.emod_lt_of_pos _ h1) ⟨_, _, _, upd_same⟩⟩
end
end Brk
/-! _law_choices -/
namespace Brk
open PySem L2
abbrev sLch : Stmt := topS 31
theorem scLch : FnScope ["_law_many", "_law_size", "_law_found", "_law_turn", "_law_longer", "_law_one", "_law_k"] ["_law_many", "_law_size"] (defScope sLch) := ⟨rfl, rfl, rfl, by decide +kernel, rfl, by decide +kernel, by decide +kernel⟩
def spLch (K : PySem.W.Frag) : Sp := fun vs H Q _ => ∃ (a b : Int) (m l : Nat), vs = [.int a, .int b] ∧ a = (m : Nat) ∧ b = (l : Nat) ∧ l ≤ m ∧ m ≤ 10 ∧
  ∀ (H' : Hp) (p : Addr), Same H H' → NewL K H H' p ((chs l 0 m).map dC) → Q (.ref p) H'
section
variable {P : Program} {w : World} {K : PySem.W.Frag} {mg : Str → Option Value} {base : Heap}
theorem ok_lch {f : Addr} {fd : FuncData} (T : Txt mg) (D : Dn K mg "_law_choices" sLch ["_law_many", "_law_size"] f fd) : FnOk P w K mg base CX0 1 f fd ["_law_many", "_law_size"] (spLch K) := by
  refine D.fn.ok scLch (fun vs H Q E h => ?_) (fun cdv A outer s H vs Q E hr h => ?_)
  · obtain ⟨_, _, _, _, rfl, _⟩ := h
    rfl
  · obtain ⟨_, _, m, l, rfl, rfl, rfl, hl, h10, q⟩ := h
    have hu := hu_of hr
    refine ⟨_, pss_cons (ps_set (i := 2) scLch.nd rfl (Or.inl rfl) (pe_lst (pa_cons (pe_lst pa_nil) pa_nil)))
      (pss_cons (ps_for PassesOwn.never rfl (pi_range1 (by rfl) T.range (pa_cons (pv 1) pa_nil)) (pg_name (i := 3) scLch.nd rfl (Or.inl rfl))
        (pss_cons (ps_set (i := 4) scLch.nd rfl (Or.inl rfl) (pe_lst pa_nil))
        (pss_cons (ps_for PassesOwn.never rfl (pi_list (pv 2)) (pg_name (i := 5) scLch.nd rfl (Or.inr rfl))
          (pss_one (ps_set (i := 4) scLch.nd rfl (Or.inl rfl) (pe_op op_catS (pv 4)
            (pe_lc (own := [("_law_k", 6)]) (g := gName 6) (tt := tYes) rfl scLch.nd (pi_range2 (by rfl) T.range (pa_cons (pe_op op_add (pe_callBK (cr_maxZ rfl hu) (by rfl) T.max (by decide +kernel) (pa_cons (pv 5) pa_nil) (pk_cons (pe_un un_neg pe_int) pk_nil)) pe_int) (pa_cons (pv 0) pa_nil)))
              (blkOk_by (N := ["_law_many", "_law_size", "_law_found", "_law_turn", "_law_longer", "_law_one", "_law_k"]) (sc := defScope sLch) (by decide +kernel)) (fun _ _ _ _ _ => pg_name (i := 6) scLch.nd rfl (Or.inl rfl)) (fun _ _ _ _ _ => pts_nil)
              (fun _ _ _ _ _ => pe_op (r := rCatS K) op_catS (pv 5) (pe_lst (pa_cons (pv 6) pa_nil))))))))
        (pss_one (ps_set (i := 2) scLch.nd rfl (Or.inl rfl) (pv 4))))))
      (pss_one (ps_ret (pv 2)))), ?_⟩
    refine ⟨Nat.zero_le _, fun p1 hp1 => ⟨by show 1 ≤ sizeLine; decide, fun p2 hp2 => ?_⟩⟩
    have n12 : p1 ≠ p2 := fun e => by
      rw [← e, upd_same] at hp2
      cases hp2
    have h2 : H p2 = none := upd_dom _ hp2
    have nl0 : NewL K H (upd (upd H p1 (.lst [])) p2 (.lst [V.ref p1])) p2 ((lch m 0).map dC) := ⟨h2, _, upd_same, .cons (.lst (SqL.of (fr_some.mpr ⟨hp1, by rw [upd_ne n12]; exact upd_same⟩)) .nil) .nil⟩
    refine ⟨_, rfl, _, rfl, by omega, by omega, ?_⟩
    rw [show ((l : Nat) : Int).toNat = l by omega]
    refine for_range (lo := 0) (n := l) (fun i σ H' => ∃ (fo : Addr) (v3 v4 v5 : Option V), σ = [some (.int (m : Nat)), some (.int (l : Nat)), some (.ref fo), v3, v4, v5, none] ∧ Same H H' ∧ NewL K H H' fo ((lch m i).map dC))
      ⟨p2, none, none, none, rfl, (same_upd hp1).trans (same_upd hp2), nl0⟩ ?_ ?_
    · rintro i σ H' hi ⟨fo, v3, v4, v5, rfl, e1, nl⟩
      obtain ⟨ys, hy1, hy2⟩ := nl.ex
      have hyd : DpAll K H' ys ((lch m i).map dC) := NewAll.dp hy2
      have yl : ys.length = (lch m i).length := (DpAll.length hyd).trans (List.length_map ..)
      refine ⟨Nat.zero_le _, fun R hR => ?_⟩
      have nf : fo ≠ R := ne_of_none hy1 hR
      have sR : Same H' (upd H' R (.lst [])) := same_upd hR
      refine ⟨_, rfl, fo, rfl, ⟨_, SqL.of (sR _ _ hy1)⟩, for_list (K := K) (a := fo) (xs := ys) (fun j σ H2 => ∃ (lo : Addr) (v5 : Option V), σ = [some (.int (m : Nat)), some (.int (l : Nat)), some (.ref fo), some (.int (0 + (i : Nat))), some (.ref lo), v5, none] ∧ Same H' H2 ∧
          NewL K H H2 lo ((((lch m i).take j).flatMap (growF 0 m)).map dC)) ⟨R, v5, rfl, sR, ⟨e1.free hR, [], upd_same, .nil⟩⟩ (fun j σ H2 _ ⟨_, _, _, e, _⟩ => e.seq (SqL.of hy1)) ?_ ?_⟩
      · rintro j y σ H2 hj ⟨lo, v5, rfl, g1, g2⟩
        obtain ⟨d, hd1, hd2⟩ := DpAll.at hyd hj
        obtain ⟨c, hc1, rfl⟩ : ∃ c, (lch m i)[j]? = some c ∧ dC c = d := by simpa using hd1
        have hch : Choice i 0 m c := by
          have := List.mem_of_getElem? hc1
          rw [lch_chs] at this
          exact chs_choice this
        have hd3 := Dp.same g1 _ hd2
        rw [dC_eq] at hd3
        obtain ⟨b, rfl, hb⟩ := Dp.ints hd3
        obtain ⟨zs, hz1, hz2⟩ := g2.ex
        have step : ((lch m i).take (j + 1)).flatMap (growF 0 m) = ((lch m i).take j).flatMap (growF 0 m) ++ growF 0 m c := by
          rw [List.take_add_one, hc1, List.flatMap_append]
          show _ ++ List.flatMap _ [c] = _
          rw [List.flatMap_cons, List.flatMap_nil, List.append_nil]
        have tot : (((lch m i).take (j + 1)).flatMap (growF 0 m)).length ≤ 1024 := by
          refine Nat.le_trans (flat_take _ _ _) ?_
          show (lch m (i + 1)).length ≤ 1024
          rw [lch_chs]
          exact chs_1024 h10
        rw [step, List.length_append] at tot
        have zl : zs.length = (((lch m i).take j).flatMap (growF 0 m)).length := (DpAll.length hz2).trans (List.length_map ..)
        have nxm : nxt 0 c ≤ m := nxt_le c 0 hch.lt (Nat.zero_le _)
        have grl : (growF 0 m c).length = m - nxt 0 c := by
          unfold growF
          rw [List.length_map, List.length_range']
        refine ⟨_, rfl, _, rfl, _, rfl, b, _, _, ((nxt 0 c : Nat) : Int) - 1, rfl, rfl, hb, fun e => ?_, fun z hz hzm => ?_, _, _, rfl, rfl, _, rfl, _, _, rfl, ⟨by omega, by omega, by omega, by omega⟩, ?_⟩
        · have : c = [] := List.map_eq_nil_iff.mp e
          subst this
          rfl
        · obtain ⟨k, hk, rfl⟩ := List.mem_map.mp hz
          have := nxt_of c 0 k hch.up hk fun x hx => by
            have := hzm _ (List.mem_map.mpr ⟨x, hx, rfl⟩)
            omega
          omega
        · rw [show (((nxt 0 c : Nat) : Int) - 1 + 1) = ((nxt 0 c : Nat) : Int) by omega, show (((m : Nat) : Int) - ((nxt 0 c : Nat) : Int)).toNat = m - nxt 0 c by omega]
          intro W hW
          refine lc_range (lo := (nxt 0 c : Nat)) (n := m - nxt 0 c) (fun x H3 => Grow K H2 W H3 ((((List.range' (nxt 0 c) (m - nxt 0 c)).take x).map fun k => c ++ [k]).map dC)) (Grow.start hW) ?_ ?_
          · intro x H3 hx g
            obtain ⟨ws, hw1, hw2⟩ := g.ex
            have wl : ws.length ≤ 20 := by
              rw [DpAll.length hw2, List.length_map, List.length_map, List.length_take, List.length_range']
              omega
            refine ⟨rfl, _, rfl, _, rfl, by show 1 ≤ sizeLine; decide, fun q1 hq1 => ?_⟩
            refine ⟨b, q1, _, _, rfl, rfl, (g.same.trans (same_upd hq1)).seq hb, SqL.of upd_same, ?_, fun q2 hq2 => ?_⟩
            · rw [List.length_map, List.length_map, hch.len]
              exact Nat.le_of_lt (small1000 (by show i + 1 ≤ 1000; omega))
            have hq2' : H3 q2 = none := upd_dom _ hq2
            have s2 : Same H3 (upd (upd H3 q1 (.lst [V.int ((nxt 0 c : Nat) + (x : Nat))])) q2 (.lst (List.map V.int (c.map fun k : Nat => (k : Int)) ++ [V.int ((nxt 0 c : Nat) + (x : Nat))]))) := (same_upd hq1).trans (same_upd hq2)
            have hnew : New K H3 (upd (upd H3 q1 (.lst [V.int ((nxt 0 c : Nat) + (x : Nat))])) q2 (.lst (List.map V.int (c.map fun k : Nat => (k : Int)) ++ [V.int ((nxt 0 c : Nat) + (x : Nat))]))) (.ref q2) (dC (c ++ [nxt 0 c + x])) := by
              rw [dC_eq]
              refine Dp.of_ints (SqL.of (fr_some.mpr ⟨hq2', ?_⟩))
              rw [List.map_append, List.map_append]
              exact upd_same
            refine ⟨ws, s2 _ _ hw1, small1000 (by omega), ?_⟩
            have q := g.add s2 (s2 _ _ hw1) hnew
            rw [List.take_add_one, List.getElem?_range' hx, List.map_append, List.map_append, Nat.one_mul]
            exact q
          · intro H3 g
            rw [List.take_of_length_le (by rw [List.length_range']; exact Nat.le_refl _)] at g
            have gn := g.newL
            obtain ⟨ws, hw1, hw2⟩ := gn.ex
            have wl : ws.length = (growF 0 m c).length := (DpAll.length hw2).trans (List.length_map ..)
            have e3 : Same H' H3 := g1.trans g.same
            refine ⟨lo, W, zs, ws, rfl, rfl, SqL.of (g.same _ _ hz1), SqL.of hw1, Nat.le_of_lt (small2 (by omega)), fun r hr0 => ?_⟩
            refine ⟨r, _, rfl, e3.trans (same_upd hr0), ⟨(e1.trans e3).free hr0, zs ++ ws, upd_same, ?_⟩⟩
            rw [step, List.map_append]
            refine DpAll.append (DpAll.same (fr_right fun b o _ z => same_upd hr0 b o (g.same b o z)) _ hz2) ?_
            exact DpAll.same (fun b o z => fr_right (fun b o _ z => same_upd hr0 b o z) b o (fr_left (fun b hb => (e1.trans g1).free hb) b o z)) _ hw2
      · rintro σ H2 ⟨lo, v5, rfl, g1, g2⟩
        rw [List.take_of_length_le (by omega)] at g2
        exact ⟨_, rfl, lo, _, _, _, rfl, e1.trans g1, g2⟩
    · rintro σ H' ⟨fo, v3, v4, v5, rfl, e1, nl⟩
      rw [lch_chs] at nl
      exact ⟨_, rfl, q _ fo e1 nl⟩
end
end Brk
/-! _law_masks -/
namespace Brk
open PySem L2
abbrev sMasks : Stmt := topS 32
theorem scMasks : FnScope ["_law_source_here", "_law_script", "_law_many", "_law_breaks", "_law_alone", "_law_found", "_law_k", "_law_mine", "_law_some", "_law_j"] ["_law_source_here", "_law_script"] (defScope sMasks) := ⟨rfl, rfl, rfl, by decide +kernel, rfl, by decide +kernel, by decide +kernel⟩
def spMasks (K : PySem.W.Frag) : Sp := fun vs H Q _ => ∃ (s a : Addr) (ns : List Int), vs = [.ref s, .ref a] ∧ Src H s ∧ SqL K (wo H s) a (ns.map V.int) ∧ ns.length ≤ 1000 ∧
  ∀ (H' : Hp) (p : Addr) (ms : List (List Int)), Same (wo H s) H' → Src H' s → Masks ms → NewL K (wo H s) H' p (ms.map dI) → Q (.ref p) H'
theorem Src.same {H H' : Hp} {s : Addr} (e : Same H H') (h : Src H s) : Src H' s := by
  obtain ⟨a, b, c, h⟩ := h
  exact ⟨a, b, c, e _ _ h⟩
theorem Src.upd {H : Hp} {s a : Addr} {o : HO} (n : s ≠ a) (h : Src H s) : Src (upd H a o) s := by
  obtain ⟨x, y, z, h⟩ := h
  exact ⟨x, y, z, by rw [upd_ne n]; exact h⟩
section
variable {P : Program} {w : World} {K : PySem.W.Frag} {mg : Str → Option Value} {base : Heap}
theorem ok_masks {f fs fn : Addr} {fd ds dn : FuncData} (T : Txt mg) (D : Dn K mg "_law_masks" sMasks ["_law_source_here", "_law_script"] f fd) (DS : Dn K mg "_law_source" sSource ["_law_cell"] fs ds) (GS : FnOk P w K mg base CX0 1 fs ds ["_law_cell"] spSource)
    (DN : Dn K mg "_law_next" sNext ["_law_source_here", "_law_many"] fn dn) (GN : FnOk P w K mg base CX0 2 fn dn ["_law_source_here", "_law_many"] spNext) : FnOk P w K mg base CX0 3 f fd ["_law_source_here", "_law_script"] (spMasks K) := by
  refine D.fn.ok scMasks (fun vs H Q E h => ?_) (fun cdv A outer s H vs Q E hr h => ?_)
  · obtain ⟨_, _, _, rfl, _⟩ := h
    rfl
  · obtain ⟨s0, a, ns, rfl, hs0, ha, hnl, k⟩ := h
    have hr1 : Room 1 _ := hr.mono (by decide)
    refine ⟨_, pss_cons (ps_set (i := 2) scMasks.nd rfl (Or.inl rfl) (pe_op op_add pe_int (pcl DN GN hr (pa_cons (pv 0) (pa_cons pe_int pa_nil)))))
      (pss_cons (ps_set (i := 3) scMasks.nd rfl (Or.inl rfl) (pe_op op_add pe_int (pcl DN GN hr (pa_cons (pv 0) (pa_cons pe_int pa_nil)))))
      (pss_cons (ps_set (i := 4) scMasks.nd rfl (Or.inl rfl) (pe_cmpR op_eq (pcl DN GN hr (pa_cons (pv 0) (pa_cons pe_int pa_nil))) pe_int (nomark _)))
      (pss_cons (ps_set (i := 5) scMasks.nd rfl (Or.inl rfl) (pe_lst pa_nil))
      (pss_cons (ps_for PassesOwn.never rfl (pi_range1 (by rfl) T.range (pa_cons (pv 2) pa_nil)) (pg_name (i := 6) scMasks.nd rfl (Or.inl rfl))
        (pss_cons (ps_set (i := 7) scMasks.nd rfl (Or.inr rfl) (pcl DS GS hr1 (pa_cons (pe_ix ix_list (pe_op op_catS (pv 1) (pe_op op_rep (pe_lst (pa_cons pe_int pa_nil)) pe_int)) (pe_op op_add pe_int (pv 6)) (fun _ _ => rfl)) pa_nil)))
        (pss_cons (ps_setLc (i := 8) (own := [("_law_j", 9)]) (g := gName 9) rfl scMasks.nd rfl rfl (sw_true rfl rfl rfl (by decide +kernel)) (pi_range1 (by rfl) T.range (pa_cons (pv 3) pa_nil))
            (blkOk_by (N := ["_law_source_here", "_law_script", "_law_many", "_law_breaks", "_law_alone", "_law_found", "_law_k", "_law_mine", "_law_some", "_law_j"]) (sc := defScope sMasks) (by decide +kernel))
            (fun _ _ _ _ _ => pg_name (i := 9) scMasks.nd rfl (Or.inl rfl))
            (fun _ _ _ _ _ => pts_one (PW.pt (pw_or (pt_cmpR op_eq (pcl DN GN hr (pa_cons (pv 7) (pa_cons pe_int pa_nil))) pe_int (nomark _)) (pw_or1 (pt_cmpR op_eq (pcl DN GN hr (pa_cons (pv 7) (pa_cons pe_int pa_nil))) (pv 9) (nomark _))))))
            (fun _ _ _ _ _ => pv 9))
        (pss_mid (ps_if (pt_val (pv 4)) (pss_one (ps_set (i := 8) scMasks.nd rfl (Or.inl rfl) (pe_op op_catS
            (pe_lc (own := [("_law_j", 9)]) (g := gName 9) rfl scMasks.nd (pi_list (pv 8))
              (blkOk_by (N := ["_law_source_here", "_law_script", "_law_many", "_law_breaks", "_law_alone", "_law_found", "_law_k", "_law_mine", "_law_some", "_law_j"]) (sc := defScope sMasks) (by decide +kernel))
              (fun _ _ _ _ _ => pg_name (i := 9) scMasks.nd rfl (Or.inl rfl))
              (fun _ _ _ _ _ => pts_one (PW.pt (pw_and (pt_cmpR op_eq (pe_op op_mod (pv 9) pe_int) pe_int (nomark _)) (pw_and1 (pt_cmpR op_gt (pv 9) pe_int (nomark _))))))
              (fun _ _ _ _ _ => pv 9))
            (pe_lst (pa_cons (pe_callB (call_min2 rfl) (by rfl) T.min (by decide +kernel) (pa_cons (pv 6) (pa_cons (pe_op op_sub (pv 3) pe_int) pa_nil))) pa_nil))))) pss_nil)
        (pss_one (ps_expr (pe_bm PySem.F.plainAttrs_list PySem.F.slot_list_append PySem.F.type_list_append mt_append (pv 5) (pa_cons
          (pe_callB (cr_sortedSet rfl) (by rfl) T.sorted (by decide +kernel) (pa_cons (pe_callTy (cr_setL rfl) (by rfl) T.set PyProof.Rows.boot_set (pa_cons (pv 8) pa_nil)) pa_nil)) pa_nil))))))))
      (pss_one (ps_ret (pv 5))))))), ?_⟩
    refine ⟨_, rfl, s0, 10, rfl, hs0, by decide, by decide, fun r1 o1 a1 b1 s1 => ⟨_, _, rfl, rfl, ?_⟩⟩
    have w1 : Same (wo H s0) (upd H s0 o1) := wo_upd
    refine ⟨_, rfl, s0, 11, rfl, s1, by decide, by decide, fun r2 o2 a2 b2 s2 => ⟨_, _, rfl, rfl, ?_⟩⟩
    have w2 : Same (wo H s0) (upd (upd H s0 o1) s0 o2) := Same.upd w1 (by unfold wo; rw [if_pos rfl])
    refine ⟨_, rfl, s0, 3, rfl, s2, by decide, by decide, fun r3 o3 a3 b3 s3 => ⟨rfl, ?_⟩⟩
    have w3 : Same (wo H s0) (upd (upd (upd H s0 o1) s0 o2) s0 o3) := Same.upd w2 (by unfold wo; rw [if_pos rfl])
    generalize upd (upd (upd H s0 o1) s0 o2) s0 o3 = Ha at s3 w3 ⊢
    generalize decide (V.int r3 = V.int 0) = al
    refine ⟨Nat.zero_le _, fun F hF => ?_⟩
    have nF : s0 ≠ F := by
      obtain ⟨_, _, _, q⟩ := s3
      exact ne_of_none q hF
    have hF0 : wo H s0 F = none := w3.free hF
    obtain ⟨n, hn, hn1⟩ : ∃ n : Nat, 1 + r1 = (n : Nat) ∧ 1 ≤ n ∧ n ≤ 10 := ⟨(1 + r1).toNat, by omega, by omega, by omega⟩
    refine ⟨_, rfl, 1 + r1, rfl, by omega, by omega, ?_⟩
    rw [show (1 + r1).toNat = n by omega]
    refine for_range (lo := 0) (n := n) (fun i σ H' => ∃ (ms : List (List Int)) (v6 v7 v8 : Option V), σ = [some (.ref s0), some (.ref a), some (.int (1 + r1)), some (.int (1 + r2)), some (.bl al), some (.ref F), v6, v7, v8, none] ∧
        Grow K (wo H s0) F H' (ms.map dI) ∧ Src H' s0 ∧ ms.length = i ∧ ∀ m ∈ ms, Mask m)
      ⟨[], none, none, none, rfl, ⟨hF0, Same.upd w3 hF0, [], upd_same, .nil⟩, s3.upd nF, rfl, fun _ h => by cases h⟩ ?_ ?_
    · rintro i σ H' hi ⟨ms, v6, v7, v8, rfl, g, q2, q3, q4⟩
      -- mine = source((script + [0] * 11)[1 + k])
      have e11 : (List.replicate ((11 : Int)).toNat [V.int 0]).flatten = (List.replicate 11 (0 : Int)).map V.int := by decide
      obtain ⟨z, hz⟩ : ∃ z : Int, (ns ++ List.replicate 11 0)[1 + i]? = some z := ⟨_, List.getElem?_eq_getElem (by rw [List.length_append, List.length_replicate]; omega)⟩
      refine ⟨_, rfl, by show 1 ≤ sizeLine; decide, fun p1 hp1 => ⟨p1, _, _, rfl, rfl, upd_same, by decide, by decide, by decide, fun p2 hp2 => ?_⟩⟩
      rw [e11]
      have t1 : Same H' (upd (upd H' p1 (.lst [V.int 0])) p2 (.lst ((List.replicate 11 (0 : Int)).map V.int))) := (same_upd hp1).trans (same_upd hp2)
      refine ⟨a, p2, _, _, rfl, rfl, t1.seq (g.same.seq ha), SqL.of upd_same, ?_, fun p3 hp3 => ?_⟩
      · rw [List.length_map, List.length_map, List.length_replicate]
        exact Nat.le_of_lt (small2 (by omega))
      have t3 := t1.trans (same_upd (o := .lst (ns.map V.int ++ (List.replicate 11 (0 : Int)).map V.int)) hp3)
      refine ⟨_, rfl, _, _, rfl, rfl, p3, _, _, .int z, rfl, rfl, SqL.of upd_same, at_of (j := 1 + i) (by omega) (by rw [← List.map_append, List.getElem?_map, hz]; rfl), _, rfl, fun mine hmine => ?_⟩
      have t4 := t3.trans (same_upd (o := .lst [.int z, .int z, .int 0]) hmine)
      have hm0 : H' mine = none := t3.free hmine
      have sm : Src (upd (upd (upd (upd H' p1 (.lst [V.int 0])) p2 (.lst ((List.replicate 11 (0 : Int)).map V.int))) p3 (.lst (ns.map V.int ++ (List.replicate 11 (0 : Int)).map V.int))) mine (.lst [.int z, .int z, .int 0])) mine := ⟨_, _, _, upd_same⟩
      generalize upd (upd (upd (upd H' p1 (.lst [V.int 0])) p2 (.lst ((List.replicate 11 (0 : Int)).map V.int))) p3 (.lst (ns.map V.int ++ (List.replicate 11 (0 : Int)).map V.int))) mine (.lst [.int z, .int z, .int 0]) = Hm at t4 sm ⊢
      -- some = [..]
      obtain ⟨br, hbr, hbr1⟩ : ∃ br : Nat, 1 + r2 = (br : Nat) ∧ 1 ≤ br ∧ br ≤ 11 := ⟨(1 + r2).toNat, by omega, by omega, by omega⟩
      refine ⟨_, rfl, 1 + r2, rfl, by omega, by omega, ?_⟩
      rw [show (1 + r2).toNat = br by omega]
      intro W hW
      have hW0 : H' W = none := t4.free hW
      have nmW : mine ≠ W := by
        obtain ⟨_, _, _, q⟩ := sm
        exact ne_of_none q hW
      refine lc_range (lo := 0) (n := br) (fun j H2 => ∃ js : List Int, Same H' H2 ∧ Src H2 mine ∧ H2 W = some (.lst (js.map V.int)) ∧ js.length ≤ j ∧ ∀ x ∈ js, 0 ≤ x ∧ x < 11) ⟨[], Same.upd t4 hW0, sm.upd nmW, upd_same, Nat.le_refl _, fun _ h => by cases h⟩ ?_ ?_
      · rintro j H2 hj ⟨js, g1, g2, g3, g4, g5⟩
        have put : ∀ H3, Same H' H3 → Src H3 mine → H3 W = some (.lst (js.map V.int)) → ∃ ks : List Int, Same H' (upd H3 W (.lst (js.map V.int ++ [V.int (0 + (j : Nat))]))) ∧ Src (upd H3 W (.lst (js.map V.int ++ [V.int (0 + (j : Nat))]))) mine ∧
            upd H3 W (.lst (js.map V.int ++ [V.int (0 + (j : Nat))])) W = some (.lst (ks.map V.int)) ∧ ks.length ≤ j + 1 ∧ ∀ x ∈ ks, 0 ≤ x ∧ x < 11 := fun H3 h1 h2 h3 => by
          refine ⟨js ++ [(0 : Int) + (j : Nat)], Same.upd h1 hW0, h2.upd nmW, by rw [List.map_append]; exact upd_same, by rw [List.length_append, List.length_singleton]; omega, fun x hx => ?_⟩
          rcases List.mem_append.mp hx with hx | hx
          · exact g5 x hx
          · have : x = (0 : Int) + (j : Nat) := by simpa using hx
            omega
        have len : (js.map V.int).length < sizeLine := by
          rw [List.length_map]
          exact small1000 (by omega)
        refine ⟨rfl, _, rfl, mine, 4, rfl, g2, by decide, by decide, fun x1 u1 c1 d1 m1 => ⟨rfl, _, rfl, ?_⟩⟩
        have h1 : Same H' (upd H2 mine u1) := Same.upd g1 hm0
        have h3 : upd H2 mine u1 W = some (.lst (js.map V.int)) := Eq.trans (upd_ne nmW.symm) g3
        by_cases e1 : V.int x1 = V.int 0
        · rw [decide_eq_true e1]
          exact ⟨_, rfl, _, h3, len, put _ h1 m1 h3⟩
        · rw [decide_eq_false e1]
          refine iteF ⟨_, rfl, mine, 9, rfl, m1, by decide, by decide, fun x2 u2 c2 d2 m2 => ⟨_, rfl, rfl, _, rfl, ?_⟩⟩
          have h1' : Same H' (upd (upd H2 mine u1) mine u2) := Same.upd h1 hm0
          have h3' : upd (upd H2 mine u1) mine u2 W = some (.lst (js.map V.int)) := Eq.trans (upd_ne nmW.symm) h3
          by_cases e2 : V.int x2 = V.int (0 + (j : Nat))
          · rw [decide_eq_true e2]
            exact ⟨_, rfl, _, h3', len, put _ h1' m2 h3'⟩
          · rw [decide_eq_false e2]
            exact ⟨js, h1', m2, h3', by omega, g5⟩
      · rintro H2 ⟨js, g1, g2, g3, g4, g5⟩
        refine ⟨fun σ H3 => ∃ (S : Addr) (ks : List Int), σ = [some (.ref s0), some (.ref a), some (.int (1 + r1)), some (.int (1 + r2)), some (.bl al), some (.ref F), some (.int (0 + (i : Nat))), some (.ref mine), some (.ref S), none] ∧
          Same H' H3 ∧ H3 S = some (.lst (ks.map V.int)) ∧ ks.length ≤ 12 ∧ ∀ x ∈ ks, 0 ≤ x ∧ x < 11, ?_, ?_⟩
        · refine ⟨_, rfl, al, rfl, ?_⟩
          cases al with
          | false => exact iteF ⟨W, js, rfl, g1, g3, by omega, g5⟩
          | true =>
            refine iteT ⟨_, rfl, W, rfl, ⟨_, SqL.of g3⟩, fun W2 hW2 => ?_⟩
            refine lc_list (K := K) (a := W) (xs := js.map V.int) (fun j H3 => ∃ ls : List Int, H3 = upd H2 W2 (.lst (ls.map V.int)) ∧ ls.length ≤ j ∧ ∀ x ∈ ls, x ∈ js) ⟨[], rfl, Nat.le_refl _, fun _ h => by cases h⟩ (fun j H3 _ ⟨_, e, _⟩ => by rw [e]; exact SqL.of (same_upd hW2 _ _ g3)) ?_ ?_
            · rintro j x H3 hx ⟨ls, rfl, l1, l2⟩
              obtain ⟨y, hy, rfl⟩ : ∃ y, js[j]? = some y ∧ V.int y = x := by simpa using hx
              have hj : j < js.length := (List.getElem?_eq_some_iff.mp hy).1
              refine ⟨rfl, _, rfl, _, _, rfl, rfl, (by show (0 : Int) < 2; decide), rfl, _, rfl, ?_⟩
              by_cases e1 : V.int (y % 2) = V.int 1
              · rw [decide_eq_true e1]
                refine iteT ⟨_, rfl, _, _, rfl, rfl, _, rfl, ?_⟩
                by_cases e2 : (8 : Int) < y
                · rw [decide_eq_true e2]
                  refine ⟨_, rfl, _, upd_same, ?_, ls ++ [y], ?_, by rw [List.length_append, List.length_singleton]; omega, fun v hv => ?_⟩
                  · rw [List.length_map]
                    exact small1000 (by omega)
                  · rw [upd_upd, List.map_append]
                    rfl
                  · rcases List.mem_append.mp hv with hv | hv
                    · exact l2 v hv
                    · have : v = y := by simpa using hv
                      exact this ▸ List.mem_of_getElem? hy
                · rw [decide_eq_false e2]
                  exact ⟨ls, rfl, by omega, l2⟩
              · rw [decide_eq_false e1]
                exact ⟨ls, rfl, by omega, l2⟩
            · rintro H3 ⟨ls, rfl, l1, l2⟩
              rw [List.length_map] at l1
              have u1 : Same H' (upd H2 W2 (.lst (ls.map V.int))) := g1.trans (same_upd hW2)
              refine ⟨_, rfl, _, rfl, _, _, rfl, rfl, _, _, rfl, by show 1 ≤ sizeLine; decide, fun p4 hp4 => ?_⟩
              refine ⟨W2, p4, _, _, rfl, rfl, SqL.of (same_upd hp4 _ _ upd_same), SqL.of upd_same, ?_, fun p5 hp5 => ?_⟩
              · rw [List.length_map]
                exact Nat.le_of_lt (small1000 (by show ls.length + 1 ≤ 1000; omega))
              · refine ⟨p5, ls ++ [if (1 + r2) - 1 < (0 : Int) + (i : Nat) then (1 + r2) - 1 else (0 : Int) + (i : Nat)], rfl, (u1.trans (same_upd hp4)).trans (same_upd hp5), by rw [List.map_append]; exact upd_same, by rw [List.length_append, List.length_singleton]; omega, fun x hx => ?_⟩
                rcases List.mem_append.mp hx with hx | hx
                · exact g5 x (l2 x hx)
                · have e : x = if (1 + r2) - 1 < (0 : Int) + (i : Nat) then (1 + r2) - 1 else (0 : Int) + (i : Nat) := List.mem_singleton.mp hx
                  by_cases c : (1 + r2) - 1 < (0 : Int) + (i : Nat)
                  · rw [if_pos c] at e
                    omega
                  · rw [if_neg c] at e
                    omega
        · rintro σ H3 ⟨S, ks, rfl, t1', t2', t3', t5'⟩
          obtain ⟨zs, hz1, hz2⟩ := g.ex
          have zl : zs.length = ms.length := (DpAll.length hz2).trans (List.length_map ..)
          refine ⟨_, rfl, .inl ⟨rfl, _, SqL.of (t1' _ _ hz1)⟩, _, rfl, S, ks, rfl, SqL.of t2', by omega, fun p6 out hn' ho hp6 => ?_⟩
          have hol : out.length ≤ 11 := len_nodup (a := 0) hn' fun x hx => by
            have := t5' x ((ho x).mp hx)
            omega
          refine ⟨p6, _, _, rfl, upd_same, by omega, fun us q hlt hmem hul hq => ?_⟩
          have u2 : Same H' (upd (upd H3 p6 (SetO w p6 (fun j => decide (j ∈ ks)) out.length)) q (.lst (us.map V.int))) := t1'.trans ((same_upd hp6).trans (same_upd hq))
          have hq0 : H' q = none := (t1'.trans (same_upd hp6)).free hq
          have hMask : Mask us := ⟨hlt, fun x hx => t5' x (of_decide_eq_true ((hmem x).mp hx))⟩
          refine ⟨F, _, _, rfl, rfl, u2 _ _ hz1, small1000 (by omega), ?_⟩
          refine ⟨ms ++ [us], _, _, _, rfl, ?_, (q2.same u2).upd nF, by rw [List.length_append, List.length_singleton, q3], fun m hm => ?_⟩
          · rw [List.map_append]
            exact g.add u2 (u2 _ _ hz1) (Dp.of_ints (SqL.of (fr_some.mpr ⟨hq0, upd_same⟩)))
          · rcases List.mem_append.mp hm with hm | hm
            · exact q4 m hm
            · have : m = us := by simpa using hm
              exact this ▸ hMask
    · rintro σ H' ⟨ms, v6, v7, v8, rfl, g, q2, q3, q4⟩
      exact ⟨_, rfl, k _ F ms g.same q2 ⟨by omega, by omega, q4⟩ g.newL⟩
end
end Brk
/-! _law_union, _law_first -/
namespace Brk
open PySem L2
abbrev sUnion : Stmt := topS 33
abbrev sFirst : Stmt := topS 34
theorem scUnion : FnScope ["_law_masks_here", "_law_chosen", "_law_found", "_law_k", "_law_j"] ["_law_masks_here", "_law_chosen"] (defScope sUnion) := ⟨rfl, rfl, rfl, by decide +kernel, rfl, by decide +kernel, by decide +kernel⟩
theorem scFirst : FnScope ["_law_masks_here", "_law_everyone", "_law_size", "_law_chosen"] ["_law_masks_here"] (defScope sFirst) := ⟨rfl, rfl, rfl, by decide +kernel, rfl, by decide +kernel, by decide +kernel⟩
theorem inV_ints (x : Int) : ∀ ns : List Int, inV (.int x) (ns.map V.int) = decide (x ∈ ns)
  | [] => by simp [inV]
  | n :: ns => by
    have ih := inV_ints x ns
    unfold inV at ih ⊢
    rw [List.map_cons, List.any_cons, ih]
    show (n == x || decide (x ∈ ns)) = _
    by_cases h : n = x
    · subst h
      simp
    · rw [beq_eq_false_iff_ne.mpr h, Bool.false_or]
      exact decide_eq_decide.mpr ⟨fun z => List.mem_cons_of_mem _ z, fun z => (List.mem_cons.mp z).elim (fun e => absurd e.symm h) id⟩
theorem flat_ints : ∀ ns : List Int, (ns.map V.int).all flatV = true
  | [] => rfl
  | n :: ns => by
    rw [List.map_cons, List.all_cons, flat_ints ns]
    rfl
/-! ### lists of ints as data -/
theorem dI_lay : ∀ ns : List Int, PyData.canLayAll0 (ns.map PyData.int) = true
  | [] => by simp [PyData.canLayAll0]
  | n :: ns => by simp [PyData.canLayAll0, PyData.canLay0, dI_lay ns]
theorem dI_depth : ∀ ns : List Int, PyData.depthAll (ns.map PyData.int) ≤ 0
  | [] => by simp [PyData.depthAll]
  | n :: ns => by
    have h1 := dI_depth ns
    simp only [List.map_cons, PyData.depthAll, PyData.depth]
    omega
theorem dI_shaped (ns : List Int) : SeqAt.shaped (dI ns) = true := by
  have h1 := dI_depth ns
  have h2 : PyData.depth (dI ns) ≤ 64 := by
    simp only [dI, PyData.depth]
    omega
  show (PyData.canLay0 (dI ns) && decide (PyData.depth (dI ns) ≤ 64)) = true
  rw [Bool.and_eq_true]
  exact ⟨by simp only [dI, PyData.canLay0]; exact dI_lay ns, decide_eq_true h2⟩
theorem dI_eqvAll : ∀ a b : List Int, PyData.eqvAll (a.map PyData.int) (b.map PyData.int) = decide (a = b)
  | [], [] => by simp [PyData.eqvAll]
  | [], _ :: _ => by simp [PyData.eqvAll]
  | _ :: _, [] => by simp [PyData.eqvAll]
  | x :: a, y :: b => by
    simp only [List.map_cons, PyData.eqvAll, PyData.eqv]
    rw [dI_eqvAll a b]
    by_cases h : x = y
    · subst h
      simp
    · rw [beq_eq_false_iff_ne.mpr h, Bool.false_and]
      exact (decide_eq_false fun z => h (List.cons.inj z).1).symm
theorem dI_eqv (a b : List Int) : PyData.eqv (dI a) (dI b) = decide (a = b) := by
  simp only [dI, PyData.eqv]
  exact dI_eqvAll a b
def spUnion (K : PySem.W.Frag) : Sp := fun vs H Q _ => ∃ (v c : V) (ms : List (List Int)) (cs : List Nat), vs = [v, c] ∧ Masks ms ∧ Dp K H v (dMs ms) ∧ Dp K H c (dC cs) ∧ (∀ k ∈ cs, k < ms.length) ∧
  ∀ (H' : Hp) (p : Addr), Same H H' → H' p = some (.lst ((uni ms cs).map V.int)) → Q (.ref p) H'
def spFirst (K : PySem.W.Frag) : Sp := fun vs H Q _ => ∃ (v : V) (ms : List (List Int)), vs = [v] ∧ Masks ms ∧ Dp K H v (dMs ms) ∧
  ∀ (H' : Hp) (p : Addr) (s : Nat) (cs : List Nat), Same H H' → Best ms s cs → Dp K H' (.ref p) (dC cs) → Q (.ref p) H'
section
variable {P : Program} {w : World} {K : PySem.W.Frag} {mg : Str → Option Value} {base : Heap}
theorem ok_union {f : Addr} {fd : FuncData} (T : Txt mg) (D : Dn K mg "_law_union" sUnion ["_law_masks_here", "_law_chosen"] f fd) : FnOk P w K mg base CX0 1 f fd ["_law_masks_here", "_law_chosen"] (spUnion K) := by
  refine D.fn.ok scUnion (fun vs H Q E h => ?_) (fun cdv A outer s H vs Q E hr h => ?_)
  · obtain ⟨_, _, _, _, rfl, _⟩ := h
    rfl
  · obtain ⟨v, c, ms, cs, rfl, hM, hd, hc, hlt, q⟩ := h
    obtain ⟨a, xs, rfl, hs, ha⟩ := Dp.lst_inv hd
    rw [dC_eq] at hc
    obtain ⟨b, rfl, hb⟩ := Dp.ints hc
    have hlen : xs.length = ms.length := (DpAll.length ha).trans (List.length_map ..)
    refine ⟨_, pss_cons (ps_set (i := 2) scUnion.nd rfl (Or.inr rfl) (pe_lst pa_nil))
      (pss_cons (ps_for PassesOwn.never rfl (pi_list (pv 1)) (pg_name (i := 3) scUnion.nd rfl (Or.inl rfl))
        (pss_one (ps_set (i := 2) scUnion.nd rfl (Or.inr rfl) (pe_op op_catS (pv 2)
          (pe_lc (own := [("_law_j", 4)]) (g := gName 4) rfl scUnion.nd (pi_list (pe_ix ix_list (pv 0) (pv 3) (fun _ _ => rfl)))
            (blkOk_by (N := ["_law_masks_here", "_law_chosen", "_law_found", "_law_k", "_law_j"]) (sc := defScope sUnion) (by decide +kernel)) (fun _ _ _ _ _ => pg_name (i := 4) scUnion.nd rfl (Or.inl rfl))
            (fun _ _ _ _ _ => pts_one (pt_cmpR (r := rIn K true) op_notIn_seq (pv 4) (pv 2) (by rfl))) (fun _ _ _ _ _ => pv 4))))))
      (pss_one (ps_ret (pe_callB cr_sorted (by rfl) T.sorted (by decide +kernel) (pa_cons (pv 2) pa_nil))))), ?_⟩
    refine ⟨Nat.zero_le _, fun F hF => ?_⟩
    refine ⟨_, rfl, b, rfl, ⟨_, (same_upd hF).seq hb⟩, for_list (K := K) (a := b) (xs := (cs.map fun k : Nat => (k : Int)).map V.int) (fun i σ H' => ∃ (fo : Addr) (fs : List Int) (v3 : Option V), σ = [some (.ref a), some (.ref b), some (.ref fo), v3, none] ∧ Same H H' ∧
        H' fo = some (.lst (fs.map V.int)) ∧ fs.Nodup ∧ ∀ x, x ∈ fs ↔ ∃ k ∈ cs.take i, x ∈ ms.getD k [])
      ⟨F, [], none, rfl, same_upd hF, upd_same, List.nodup_nil, fun x => by simp⟩ (fun i σ H' _ ⟨_, _, _, _, e, _⟩ => e.seq hb) ?_ ?_⟩
    · rintro i x σ H' hx ⟨fo, fs, v3, rfl, e1, e2, e3, e4⟩
      obtain ⟨n, hn, rfl⟩ : ∃ n, cs[i]? = some n ∧ V.int (n : Nat) = x := by simpa using hx
      have hn1 := hlt n (List.mem_of_getElem? hn)
      have emd : ms.getD n [] = ms[n] := by rw [List.getD_eq_getElem?_getD, List.getElem?_eq_getElem hn1]; rfl
      have hmask : Mask ms[n] := hM.2.2 _ (List.getElem_mem hn1)
      obtain ⟨y, hy1, hy2⟩ := DpAll.of ha (i := n) (d := dI ms[n]) (by rw [List.getElem?_map, List.getElem?_eq_getElem hn1]; rfl)
      obtain ⟨z, rfl, hz⟩ := Dp.ints (Dp.same e1 _ hy2)
      have fl : fs.length ≤ 11 := len_nodup (a := 0) e3 fun x hx => by
        obtain ⟨k, hk, hxk⟩ := (e4 x).mp hx
        have hk1 := hlt k (List.mem_of_mem_take hk)
        rw [List.getD_eq_getElem?_getD, List.getElem?_eq_getElem hk1] at hxk
        have := (hM.2.2 _ (List.getElem_mem hk1)).2 x hxk
        omega
      refine ⟨_, rfl, _, rfl, _, rfl, a, xs, _, _, rfl, rfl, e1.seq hs, at_of (j := n) rfl hy1, z, rfl, ⟨_, hz⟩, fun W hW => ?_⟩
      refine lc_list (K := K) (a := z) (xs := ms[n].map V.int) (fun j H2 => H2 = upd H' W (.lst (((ms[n].take j).filter fun x => decide (x ∉ fs)).map V.int))) rfl (fun j H2 _ e => by rw [e]; exact (same_upd hW).seq hz) ?_ ?_
      · rintro j x H2 hx rfl
        obtain ⟨u, hu, rfl⟩ : ∃ u, ms[n][j]? = some u ∧ V.int u = x := by simpa using hx
        have hj : j < ms[n].length := (List.getElem?_eq_some_iff.mp hu).1
        refine ⟨rfl, _, rfl, _, rfl, fo, _, rfl, .inl (SqL.of (same_upd hW _ _ e2)), rfl, flat_ints fs, _, rfl, ?_⟩
        show if (!inV (.int u) (fs.map V.int)) = true then _ else _
        rw [inV_ints]
        by_cases c : u ∈ fs
        · rw [decide_eq_true c]
          refine iteF ?_
          rw [List.take_add_one, hu, List.filter_append]
          have : ([u].filter fun x => decide (x ∉ fs)) = [] := List.filter_cons_of_neg (by simp [c])
          show _ = upd H' W (.lst ((List.filter _ _ ++ [u].filter _).map V.int))
          rw [this, List.append_nil]
        · rw [decide_eq_false c]
          refine iteT ⟨_, rfl, _, upd_same, ?_, ?_⟩
          · have := List.length_filter_le (fun x => decide (x ∉ fs)) (ms[n].take j)
            rw [List.length_take] at this
            rw [List.length_map]
            have := hmask.len
            exact small1000 (by omega)
          · rw [upd_upd, List.take_add_one, hu, List.filter_append]
            have : ([u].filter fun x => decide (x ∉ fs)) = [u] := List.filter_cons_of_pos (by simp [c])
            show _ = upd H' W (.lst ((List.filter _ _ ++ [u].filter _).map V.int))
            rw [this, List.map_append]
            rfl
      · rintro H2 rfl
        rw [List.take_of_length_le (by rw [List.length_map]; exact Nat.le_refl _)]
        have sW : Same H' (upd H' W (.lst ((ms[n].filter fun x => decide (x ∉ fs)).map V.int))) := same_upd hW
        have hml := hmask.len
        have hfl := List.length_filter_le (fun x => decide (x ∉ fs)) ms[n]
        refine ⟨fo, W, _, _, rfl, rfl, SqL.of (sW _ _ e2), SqL.of upd_same, ?_, fun r hr0 => ?_⟩
        · rw [List.length_map, List.length_map]
          exact Nat.le_of_lt (small1000 (by omega))
        · refine ⟨r, fs ++ ms[n].filter fun x => decide (x ∉ fs), _, rfl, (e1.trans sW).trans (same_upd hr0), by rw [List.map_append]; exact upd_same, ?_, fun x => ?_⟩
          · rw [List.nodup_append]
            refine ⟨e3, List.Pairwise.filter _ (hmask.1.imp fun {a b} h => by omega), fun p hp r hr0 z => ?_⟩
            have := of_decide_eq_true (List.mem_filter.mp hr0).2
            exact this (z ▸ hp)
          · rw [List.mem_append, e4 x, List.mem_filter, List.take_add_one, hn]
            constructor
            · rintro (⟨k, hk, hx⟩ | ⟨hx, _⟩)
              · exact ⟨k, List.mem_append_left _ hk, hx⟩
              · exact ⟨n, List.mem_append_right _ (by simp), by rw [emd]; exact hx⟩
            · rintro ⟨k, hk, hx⟩
              rcases List.mem_append.mp hk with hk | hk
              · exact .inl ⟨k, hk, hx⟩
              · have e : k = n := by simpa using hk
                rw [e, emd] at hx
                by_cases c : x ∈ fs
                · exact .inl ((e4 x).mp c)
                · exact .inr ⟨hx, decide_eq_true c⟩
    · rintro σ H' ⟨fo, fs, v3, rfl, e1, e2, e3, e4⟩
      rw [List.take_of_length_le (by rw [List.length_map, List.length_map]; exact Nat.le_refl _)] at e4
      have mem : ∀ x, x ∈ fs ↔ x ∈ uni ms cs := fun x => (e4 x).trans (mem_uni hM).symm
      have fl : fs.length ≤ 11 := len_nodup (a := 0) e3 fun x hx => by
        have := uni_elv ((mem x).mp hx)
        omega
      refine ⟨_, rfl, fo, fs, rfl, SqL.of e2, by omega, fun us p hp hs hp0 => ?_⟩
      have eu : us = uni ms cs := ext_sorted (lt_of_le_nodup hs (hp.nodup_iff.mpr e3)) (uni_up ms cs) fun x => (hp.mem_iff).trans (mem x)
      exact q _ p (e1.trans (same_upd hp0)) (by rw [eu]; exact upd_same)
theorem ok_first {f fu fc : Addr} {fd du dc : FuncData} (T : Txt mg) (D : Dn K mg "_law_first" sFirst ["_law_masks_here"] f fd) (DU : Dn K mg "_law_union" sUnion ["_law_masks_here", "_law_chosen"] fu du) (GU : FnOk P w K mg base CX0 1 fu du ["_law_masks_here", "_law_chosen"] (spUnion K))
    (DC : Dn K mg "_law_choices" sLch ["_law_many", "_law_size"] fc dc) (GC : FnOk P w K mg base CX0 1 fc dc ["_law_many", "_law_size"] (spLch K)) : FnOk P w K mg base CX0 2 f fd ["_law_masks_here"] (spFirst K) := by
  refine D.fn.ok scFirst (fun vs H Q E h => ?_) (fun cdv A outer s H vs Q E hr h => ?_)
  · obtain ⟨_, _, rfl, _⟩ := h
    rfl
  · obtain ⟨v, ms, rfl, hM, hd, q⟩ := h
    obtain ⟨a, xs, rfl, hs, ha⟩ := Dp.lst_inv hd
    have hlen : xs.length = ms.length := (DpAll.length ha).trans (List.length_map ..)
    have h10 := hM.2.1
    refine ⟨_, pss_cons (ps_set (i := 1) scFirst.nd rfl (Or.inl rfl) (pcl DU GU hr (pa_cons (pv 0) (pa_cons (pe_listRg rfl (by rfl) T.list (prg_1 (by rfl) T.range (p_len T (pv 0)))) pa_nil))))
      (pss_cons (ps_for PassesOwn.never rfl (pi_range1 (by rfl) T.range (pa_cons (pe_op op_add (p_len T (pv 0)) pe_int) pa_nil)) (pg_name (i := 2) scFirst.nd rfl (Or.inl rfl))
        (pss_one (ps_for PassesOwn.never rfl (pi_list (pcl DC GC hr (pa_cons (p_len T (pv 0)) (pa_cons (pv 2) pa_nil)))) (pg_name (i := 3) scFirst.nd rfl (Or.inl rfl))
          (pss_one (ps_if (pt_cmpR (op_eqD hr.units) (pcl DU GU hr (pa_cons (pv 0) (pa_cons (pv 3) pa_nil))) (pv 1) (nomark _)) (pss_one (ps_ret (pv 3))) pss_nil)))))
      pss_never), ?_⟩
    refine ⟨_, rfl, _, rfl, a, xs, rfl, .inl hs, _, rfl, RgOk.of_le (by omega) (by omega) (by omega) (by omega), fun q0 hq0 => ?_⟩
    have en : rgV 0 ((xs.length : Nat) : Int) = ((List.range' 0 ms.length).map fun k : Nat => (k : Int)).map V.int := by rw [hlen, rgV_nat]
    rw [en]
    have e0 : Same H (upd H q0 (.lst (((List.range' 0 ms.length).map fun k : Nat => (k : Int)).map V.int))) := same_upd hq0
    refine ⟨_, _, ms, allOf ms, rfl, hM, Dp.same e0 _ hd, by rw [dC_eq]; exact Dp.of_ints (SqL.of upd_same), fun k hk => by have := List.mem_range'_1.mp hk; omega, fun H1 ev e1 hev => ?_⟩
    have eH1 : Same H H1 := e0.trans e1
    refine ⟨_, rfl, a, xs, rfl, .inl (eH1.seq hs), _, _, rfl, rfl, _, rfl, by omega, by omega, ?_⟩
    rw [show (((xs.length : Nat) : Int) + 1).toNat = ms.length + 1 by omega]
    refine for_range (lo := 0) (n := ms.length + 1) (fun i σ H' => ∃ v2 v3 : Option V, σ = [some (.ref a), some (.ref ev), v2, v3] ∧ Same H1 H' ∧ ∀ s' < i, ∀ d ∈ chs s' 0 ms.length, ¬ cov ms d) ⟨none, none, rfl, Same.refl _, fun s' h => by omega⟩ ?_ ?_
    · rintro i σ H' hi ⟨v2, v3, rfl, g1, g2⟩
      refine ⟨_, rfl, a, xs, rfl, .inl ((eH1.trans g1).seq hs), _, rfl, _, _, ms.length, i, rfl, by omega, by omega, by omega, h10, fun H4 cl e4 nlc => ?_⟩
      obtain ⟨ys, hy1, hy2⟩ := nlc.ex
      have hyd : DpAll K H4 ys ((chs i 0 ms.length).map dC) := NewAll.dp hy2
      have yl : ys.length = (chs i 0 ms.length).length := (DpAll.length hyd).trans (List.length_map ..)
      refine ⟨cl, rfl, ⟨_, SqL.of hy1⟩, for_list (K := K) (a := cl) (xs := ys) (fun j σ H2 => ∃ v3 : Option V, σ = [some (.ref a), some (.ref ev), some (.int (0 + (i : Nat))), v3] ∧ Same H4 H2 ∧ ∀ d ∈ (chs i 0 ms.length).take j, ¬ cov ms d)
        ⟨v3, rfl, Same.refl _, fun _ h => by cases h⟩ (fun j σ H2 _ ⟨_, _, e, _⟩ => e.seq (SqL.of hy1)) ?_ ?_⟩
      · rintro j y σ H2 hj ⟨v3, rfl, q1, q2⟩
        obtain ⟨d, hd1, hd2⟩ := DpAll.at hyd hj
        obtain ⟨c, hc1, rfl⟩ : ∃ c, (chs i 0 ms.length)[j]? = some c ∧ dC c = d := by simpa using hd1
        have hch := chs_choice (List.mem_of_getElem? hc1)
        have eH2 : Same H1 H2 := (g1.trans e4).trans q1
        refine ⟨_, rfl, _, rfl, _, _, ms, c, rfl, hM, Dp.same (eH1.trans eH2) _ hd, Dp.same q1 _ hd2, hch.lt, fun H3 p e5 hp => ?_⟩
        refine ⟨_, rfl, _, _, Dp.of_ints (SqL.of hp), Dp.of_ints (SqL.of (e5 _ _ (eH2 _ _ hev))), dI_shaped _, dI_shaped _, _, rfl, ?_⟩
        rw [dI_eqv]
        by_cases c1 : uni ms c = uni ms (allOf ms)
        · rw [decide_eq_true c1]
          obtain ⟨b, eb, _⟩ : ∃ b, y = .ref b ∧ True := by
            have hd3 := hd2
            rw [dC_eq] at hd3
            obtain ⟨b, eb, _⟩ := Dp.ints hd3
            exact ⟨b, eb, trivial⟩
          subst eb
          refine iteT ⟨_, rfl, q _ b i c ((eH1.trans eH2).trans e5) ⟨g2, by omega, j, hc1, c1, fun j' hj' d hd' => q2 d (List.mem_of_getElem? (i := j') (by rw [List.getElem?_take_of_lt hj']; exact hd'))⟩ (Dp.same (q1.trans e5) _ hd2)⟩
        · rw [decide_eq_false c1]
          refine iteF ⟨_, rfl, q1.trans e5, fun d hd' => ?_⟩
          rw [List.take_add_one, hc1] at hd'
          rcases List.mem_append.mp hd' with h | h
          · exact q2 d h
          · have e : d = c := by simpa using h
            rw [e]
            exact c1
      · rintro σ H2 ⟨v3, rfl, q1, q2⟩
        rw [List.take_of_length_le (by omega)] at q2
        refine ⟨_, _, rfl, (g1.trans e4).trans q1, fun s' hs' d hd' => ?_⟩
        rcases Nat.lt_or_eq_of_le (Nat.le_of_lt_succ hs') with h | h
        · exact g2 s' h d hd'
        · rw [h] at hd'
          exact q2 d hd'
    · rintro σ H' ⟨v2, v3, rfl, g1, g2⟩
      exact (not_none g2).elim
end
end Brk
/-! _law_paper_right, _law_at -/
namespace Brk
open PySem L2
abbrev sRight : Stmt := topS 35
abbrev sAt : Stmt := topS 36
theorem scRight : FnScope ["_law_masks_here", "_law_start", "_law_chosen", "_law_paper", "_law_barred", "_law_everyone", "_law_pair", "_law_choice"] ["_law_masks_here", "_law_start", "_law_chosen", "_law_paper"] (defScope sRight) := ⟨rfl, rfl, rfl, by decide +kernel, rfl, by decide +kernel, by decide +kernel⟩
theorem scAt : FnScope ["_law_tastings", "_law_many", "_law_paper", "_law_found", "e"] ["_law_tastings", "_law_many", "_law_paper"] (defScope sAt) := ⟨rfl, rfl, rfl, by decide +kernel, rfl, by decide +kernel, by decide +kernel⟩
def spRight (K : PySem.W.Frag) : Sp := fun vs H Q _ => ∃ (v c p : V) (start : Int) (ms : List (List Int)) (s : Nat) (cs : List Nat), vs = [v, .int start, c, p] ∧ Masks ms ∧ Dp K H v (dMs ms) ∧ Best ms s cs ∧ Dp K H c (dC cs) ∧ Dp K H p (dPs (rights start ms s)) ∧
  ∀ H', Same H H' → Q (.bl true) H'
def spAt (K : PySem.W.Frag) : Sp := fun vs H Q _ => ∃ (v pp : V) (m : Int) (start high : Int) (ms : List (List Int)) (ds : List PyData), vs = [v, .int m, pp] ∧ Bnd start high ∧ Masks ms ∧ Dp K H v (dTs start high ms) ∧ Dp K H pp (.list ds) ∧
  ((∃ s : Nat, m = (s : Nat) ∧ s ≤ ms.length ∧ (∀ c ∈ barredOf ms s, ¬ cov ms c) ∧ (∀ (i : Nat) d r, ds[i]? = some d → (rights start ms s)[i]? = some r → d = dPr r) ∧
      (ds.length = (barredOf ms s).length → ∀ H', Same H H' → Q .non H') ∧ (ds.length ≠ (barredOf ms s).length → ∀ H', Same H H' → Q (.int (min ds.length (barredOf ms s).length : Nat)) H')) ∨
    (m = (ms.length : Nat) + 1 ∧ ∀ H', Same H H' → Q (.str "many") H'))
theorem Best.bar {ms : List (List Int)} {s : Nat} {c : List Nat} (b : Best ms s c) : ∀ d ∈ barredOf ms s, ¬ cov ms d := fun d hd => by
  cases s with
  | zero => cases hd
  | succ l => exact b.fewer l (Nat.lt_succ_self _) d hd
theorem bar_choice {ms : List (List Int)} {s : Nat} {d : List Nat} (h : d ∈ barredOf ms s) : ∀ k ∈ d, k < ms.length := by
  cases s with
  | zero => cases h
  | succ l => exact (chs_choice h).lt
section
variable {P : Program} {w : World} {K : PySem.W.Frag} {mg : Str → Option Value} {base : Heap}
theorem ok_right {f fu fc : Addr} {fd du dc : FuncData} (T : Txt mg) (D : Dn K mg "_law_paper_right" sRight ["_law_masks_here", "_law_start", "_law_chosen", "_law_paper"] f fd) (DU : Dn K mg "_law_union" sUnion ["_law_masks_here", "_law_chosen"] fu du)
    (GU : FnOk P w K mg base CX0 1 fu du ["_law_masks_here", "_law_chosen"] (spUnion K)) (DC : Dn K mg "_law_choices" sLch ["_law_many", "_law_size"] fc dc) (GC : FnOk P w K mg base CX0 1 fc dc ["_law_many", "_law_size"] (spLch K)) :
    FnOk P w K mg base CX0 2 f fd ["_law_masks_here", "_law_start", "_law_chosen", "_law_paper"] (spRight K) := by
  refine D.fn.ok scRight (fun vs H Q E h => ?_) (fun cdv A outer s H vs Q E hr h => ?_)
  · obtain ⟨_, _, _, _, _, _, _, rfl, _⟩ := h
    rfl
  · obtain ⟨v, c, p, start, ms, n, cs, rfl, hM, hd, hB, hc, hp, q⟩ := h
    obtain ⟨a, xs, rfl, hs, ha⟩ := Dp.lst_inv hd
    obtain ⟨b, ys, rfl, hy, hya⟩ := Dp.lst_inv hp
    have hlen : xs.length = ms.length := (DpAll.length ha).trans (List.length_map ..)
    have h10 := hM.2.1
    have hcl : cs.length = n := hB.choice.len
    have hn := hB.le
    have yl : ys.length = (barredOf ms n).length := by rw [DpAll.length hya, List.length_map, rights_eq, List.length_map]
    have hc2 := hc
    rw [dC_eq] at hc2
    obtain ⟨cc, rfl, hcc⟩ := Dp.ints hc2
    refine ⟨_, pss_cons (ps_set (i := 4) scRight.nd rfl (Or.inl rfl) (pe_lst pa_nil))
      (pss_mid (ps_if (pt_cmpR (op_neD hr.units) (pv 2) (pe_lst pa_nil) (nomark _)) (pss_one (ps_set (i := 4) scRight.nd rfl (Or.inl rfl) (pcl DC GC hr (pa_cons (p_len T (pv 0)) (pa_cons (pe_op op_sub (p_len T (pv 2)) pe_int) pa_nil))))) pss_nil)
      (pss_cons (ps_set (i := 5) scRight.nd rfl (Or.inl rfl) (pcl DU GU hr (pa_cons (pv 0) (pa_cons (pe_listRg rfl (by rfl) T.list (prg_1 (by rfl) T.range (p_len T (pv 0)))) pa_nil))))
      (pss_cons (ps_if (pt_cmpR op_ne (p_len T (pv 3)) (p_len T (pv 4)) (nomark _)) (pss_one (ps_ret pe_bl)) pss_nil)
      (pss_cons (ps_for PassesOwn.never rfl (pi_zip (by rfl) T.zip (pa_cons (pv 3) (pa_cons (pv 4) pa_nil))) (pg_tup rfl (pgs_cons (pg_name (i := 6) scRight.nd rfl (Or.inl rfl)) (pgs_cons (pg_name (i := 7) scRight.nd rfl (Or.inl rfl)) pgs_nil)))
        (pss_one (ps_if (PW.pt (pw_or (pt_cmpR op_ne (pe_ix ix_tup (pv 6) pe_int (fun _ _ => rfl)) (pe_op op_add (pv 1) pe_int) (nomark _))
          (pw_or (pt_cmpR op_notIn_seq (pe_op op_sub (pe_ix ix_tup (pv 6) pe_int (fun _ _ => rfl)) (pv 1)) (pv 5) (by rfl))
          (pw_or1 (pt_cmpR op_in_seq (pe_op op_sub (pe_ix ix_tup (pv 6) pe_int (fun _ _ => rfl)) (pv 1)) (pcl DU GU hr (pa_cons (pv 0) (pa_cons (pv 7) pa_nil))) (by rfl)))))) (pss_one (ps_ret pe_bl)) pss_nil)))
      (pss_one (ps_ret pe_bl)))))), ?_⟩
    refine ⟨Nat.zero_le _, fun bl0 hbl0 => ?_⟩
    refine ⟨fun σ H' => ∃ (bl : Addr) (bs : List V), σ = [some (.ref a), some (.int start), some (.ref cc), some (.ref b), some (.ref bl), none, none, none] ∧ Same H H' ∧ H' bl = some (.lst bs) ∧ DpAll K H' bs ((barredOf ms n).map dC), ?_, ?_⟩
    · have e1 : Same H (upd H bl0 (.lst [])) := same_upd hbl0
      refine ⟨_, rfl, Nat.zero_le _, fun l1 hl1 => ?_⟩
      have e2 := e1.trans (same_upd (o := .lst []) hl1)
      refine ⟨dC cs, dI [], Dp.same e2 _ hc, Dp.of_ints (SqL.of upd_same), by rw [dC_eq]; exact dI_shaped _, dI_shaped _, _, rfl, ?_⟩
      rw [dC_eq, dI_eqv]
      cases n with
      | zero =>
        have ec : cs = [] := List.eq_nil_of_length_eq_zero hcl
        subst ec
        rw [decide_eq_true (show (([] : List Nat).map fun k : Nat => (k : Int)) = [] from rfl)]
        exact iteF ⟨bl0, [], rfl, e2, same_upd hl1 _ _ upd_same, .nil⟩
      | succ l =>
        rw [decide_eq_false (fun z => by rw [List.map_eq_nil_iff.mp z] at hcl; cases hcl)]
        refine iteT ⟨_, rfl, a, xs, rfl, .inl (e2.seq hs), _, rfl, cc, _, rfl, .inl (e2.seq hcc), _, _, rfl, rfl, ?_⟩
        refine ⟨_, _, ms.length, l, rfl, by omega, by rw [List.length_map, List.length_map]; omega, by omega, h10, fun H4 cl e4 nlc => ?_⟩
        obtain ⟨ws, hw1, hw2⟩ := nlc.ex
        exact ⟨cl, ws, rfl, e2.trans e4, hw1, NewAll.dp hw2⟩
    · rintro σ Hb ⟨bl, bs, rfl, g1, g2, g3⟩
      have bll : bs.length = (barredOf ms n).length := (DpAll.length g3).trans (List.length_map ..)
      refine ⟨_, rfl, _, rfl, a, xs, rfl, .inl (g1.seq hs), _, rfl, RgOk.of_le (by omega) (by omega) (by omega) (by omega), fun q0 hq0 => ?_⟩
      have en : rgV 0 ((xs.length : Nat) : Int) = ((List.range' 0 ms.length).map fun k : Nat => (k : Int)).map V.int := by rw [hlen, rgV_nat]
      rw [en]
      have e0 : Same Hb (upd Hb q0 (.lst (((List.range' 0 ms.length).map fun k : Nat => (k : Int)).map V.int))) := same_upd hq0
      refine ⟨_, _, ms, allOf ms, rfl, hM, Dp.same (g1.trans e0) _ hd, by rw [dC_eq]; exact Dp.of_ints (SqL.of upd_same), fun k hk => by have := List.mem_range'_1.mp hk; omega, fun H1 ev e1 hev => ?_⟩
      have eB : Same Hb H1 := e0.trans e1
      have eH : Same H H1 := g1.trans eB
      refine ⟨_, rfl, b, ys, rfl, .inl (eH.seq hy), _, rfl, bl, bs, rfl, .inl (SqL.of (eB _ _ g2)), rfl, _, rfl, ?_⟩
      rw [decide_eq_true (show V.int (ys.length : Nat) = V.int (bs.length : Nat) by rw [yl, bll])]
      refine iteF ?_
      refine ⟨_, rfl, _, rfl, b, bl, ys, bs, rfl, eH.seq hy, SqL.of (eB _ _ g2), for_it (walk_zip (n := ys.length) (by omega)) (fun i σ H' => ∃ v6 v7 : Option V, σ = [some (.ref a), some (.int start), some (.ref cc), some (.ref b), some (.ref bl), some (.ref ev), v6, v7] ∧ Same H1 H')
        ⟨none, none, rfl, Same.refl _⟩ (fun i σ H' _ ⟨_, _, _, e⟩ => ⟨e.seq (eH.seq hy), SqL.of (e _ _ (eB _ _ g2))⟩) ?_ ?_⟩
      · rintro i x σ H' H'' hi ⟨v6, v7, rfl, q1⟩ ⟨U, y1, y2, rfl, hU, rfl, hy1, hy2⟩
        have hy1' : ys[i]? = some y1 := hy1
        have hy2' : bs[i]? = some y2 := hy2
        have hib : i < (barredOf ms n).length := by omega
        have hmem : (barredOf ms n)[i] ∈ barredOf ms n := List.getElem_mem hib
        obtain ⟨d1, hd1, hd2⟩ := DpAll.at hya hy1'
        obtain ⟨d3, hd3, hd4⟩ := DpAll.at g3 hy2'
        rw [rights_eq, List.getElem?_map, List.getElem?_map, List.getElem?_eq_getElem hib] at hd1
        rw [List.getElem?_map, List.getElem?_eq_getElem hib] at hd3
        obtain rfl : dPr (start + lk ms (barredOf ms n)[i], start + 11) = d1 := Option.some.inj hd1
        obtain rfl : dC (barredOf ms n)[i] = d3 := Option.some.inj hd3
        obtain ⟨l1, l2⟩ := lk_of hM (bar_choice hmem) (hB.bar _ hmem)
        have sU : Same H1 (upd H' U (.tup [y1, y2])) := q1.trans (same_upd hU)
        obtain ⟨t, rfl, ht⟩ := Dp.pair (Dp.same (eH.trans sU) _ hd2)
        refine ⟨U, _, rfl, SqT.of upd_same, rfl, _, _, rfl, _, _, rfl, rfl, ?_⟩
        refine ⟨_, rfl, _, _, _, _, rfl, rfl, ht, at_of (j := 1) rfl rfl, _, rfl, _, _, rfl, rfl, rfl, _, rfl, ?_⟩
        rw [decide_eq_true (show V.int (start + 11) = V.int (start + 11) from rfl)]
        refine iteF ?_
        refine ⟨_, rfl, _, _, _, _, rfl, rfl, ht, at_of (j := 0) rfl rfl, _, rfl, _, _, rfl, rfl, _, rfl, ev, _, rfl, .inl (SqL.of (sU _ _ hev)), rfl, flat_ints _, _, rfl, ?_⟩
        show if (!inV (.int (start + lk ms (barredOf ms n)[i] - start)) ((uni ms (allOf ms)).map V.int)) = true then _ else _
        rw [inV_ints, show start + lk ms (barredOf ms n)[i] - start = lk ms (barredOf ms n)[i] by omega, decide_eq_true l1]
        refine iteF ?_
        refine ⟨_, rfl, _, _, _, _, rfl, rfl, ht, at_of (j := 0) rfl rfl, _, rfl, _, _, rfl, rfl, _, rfl, _, rfl, ?_⟩
        refine ⟨_, _, ms, (barredOf ms n)[i], rfl, hM, Dp.same (eH.trans sU) _ hd, Dp.same (eB.trans sU) _ hd4, bar_choice hmem, fun H3 p3 e3 hp3 => ?_⟩
        refine ⟨p3, _, rfl, .inl (SqL.of hp3), rfl, flat_ints _, _, rfl, ?_⟩
        show if inV (.int (start + lk ms (barredOf ms n)[i] - start)) ((uni ms (barredOf ms n)[i]).map V.int) = true then _ else _
        rw [inV_ints, show start + lk ms (barredOf ms n)[i] - start = lk ms (barredOf ms n)[i] by omega, decide_eq_false l2]
        exact iteF ⟨_, _, rfl, sU.trans e3⟩
      · rintro σ H' ⟨v6, v7, rfl, q1⟩
        exact q _ (eH.trans q1)
theorem ok_at {f fk CR CP CT fR fP : Addr} {fd dk dR dP : FuncData} (D : Dn K mg "_law_at" sAt ["_law_tastings", "_law_many", "_law_paper"] f fd) (R : Er K mg "NoRule" "NoRule.__init__" "what" sInitR CR fR dR) (N : Er K mg "NoPaper" "NoPaper.__init__" "at" sInitP CP fP dP)
    (hT : mg "TooMuch" = some (.ref CT)) (xR : XfC K CR) (xP : XfC K CP) (tPP : PySem.W.exmOne K (.ref CP) (.ref CP) = some true) (tRP : PySem.W.exmOne K (.ref CR) (.ref CP) = some false) (tRR : PySem.W.exmOne K (.ref CR) (.ref CR) = some true)
    (DK : Dn K mg "check_paper" sCheck ["tastings", "many", "paper"] fk dk) (GK : FnOk P w K mg base (L2.CX P w) 12 fk dk ["tastings", "many", "paper"] (spCheck K CR CP)) : FnOk P w K mg base CX0 13 f fd ["_law_tastings", "_law_many", "_law_paper"] (spAt K) := by
  refine D.fn.ok scAt (fun vs H Q E h => ?_) (fun cdv A outer s H vs Q E hr h => ?_)
  · obtain ⟨_, _, _, _, _, _, _, rfl, _⟩ := h
    rfl
  · obtain ⟨v, pp, m, start, high, ms, ds, rfl, hb, hM, hd, hp, k⟩ := h
    refine ⟨_, pss_cons (ps_set (i := 3) scAt.nd rfl (Or.inl rfl) pe_non)
      (pss_cons (ps_try_asM (i := 4) rfl rfl scAt.nd rfl rfl takes0
          (fun W pn xe tk _ => pss_one (ps_expr (by exact (pe_callS GK hr rfl DK.at_ DK.fn.kp DK.bd (fun σ => passAt tk σ) (by exact (pa_cons (pv 0) (pa_cons (pv 1) (pa_cons (pv 2) pa_nil))))))))
          (HdsAs.cons (c := .ref CP) ⟨rfl, by decide, .inl N.at_⟩ (fun a oe cls d pn hz hf => pss_one (ps_set (i := 3) scAt.nd rfl (Or.inl rfl) (pe_xf xP N.no hz hf (pv 4))))
          (HdsAs.cons (c := .ref CR) ⟨rfl, by decide, .inl R.at_⟩ (fun a oe cls d pn hz hf => pss_one (ps_set (i := 3) scAt.nd rfl (Or.inl rfl) (pe_xf xR R.no hz hf (pv 4))))
          (HdsAs.cons (c := .ref CT) (ts := fun _ _ _ => tNever) ⟨rfl, by decide, .inl hT⟩ (fun a oe cls d pn hz hf => pss_never) HdsAs.nil))))
      (pss_one (ps_ret (pv 3)))), ?_⟩
    refine ⟨_, rfl, _, rfl, _, rfl, v, pp, m, start, high, ms, ds, rfl, hb, hM, hd, hp, ?_⟩
    rcases k with ⟨n, h1, h2, h3, h4, k1, k2⟩ | ⟨h1, k2⟩
    · refine .inl ⟨n, h1, h2, h3, h4, fun e H' eH => ⟨_, rfl, k1 e H' eH⟩, fun e H' d eH hd' => ?_⟩
      refine ⟨true, tPP, fun _ a ha => ?_, fun z => nomatch z⟩
      exact ⟨_, rfl, rfl, rfl, d, _, _, rfl, hd', by simp [List.lookup], _, rfl, k2 e H' eH⟩
    · refine .inr ⟨h1, fun H' d eH hd' => ?_⟩
      refine ⟨false, tRP, fun z => (nomatch z), fun _ => ?_⟩
      refine ⟨true, tRR, fun _ a ha => ?_, fun z => nomatch z⟩
      exact ⟨_, rfl, rfl, rfl, d, _, _, rfl, hd', by simp [List.lookup], _, rfl, k2 H' eH⟩
end
end Brk
/-! law -/
namespace Brk
open PySem L2
abbrev sLaw : Stmt := topS 37
theorem scLaw : FnScope ["_law_script", "_law_source_here", "_law_start", "_law_high", "_law_masks_here", "_law_tastings", "_law_handed", "_law_due", "_law_chosen", "_law_paper", "_law_mask", "_law_j", "_law_tasting"] ["_law_script"] (defScope sLaw) :=
  ⟨rfl, rfl, rfl, by decide +kernel, rfl, by decide +kernel, by decide +kernel⟩
abbrev nLaw : List Str := ["_law_script", "_law_source_here", "_law_start", "_law_high", "_law_masks_here", "_law_tastings", "_law_handed", "_law_due", "_law_chosen", "_law_paper", "_law_mask", "_law_j", "_law_tasting"]
def asgVal (s : Stmt) : Expr := match s with
  | .Assign _ v _ => v
  | _ => .Constant .none 0 ⟨0, 0, 0, 0⟩
def lcSc (e : Expr) : Scope := match e with
  | .ListComp _ _ sc _ => sc
  | _ => { kind := .function, names := [], isGenerator := false, isCoroutine := false }
abbrev lcT : Scope := lcSc (asgVal ((defBody sLaw).getD 4 (.Pass ⟨0, 0, 0, 0⟩)))
/-! ### the shape of tastings -/
theorem dF_lay (f : Int × Int × Int) : (dF f).canLay0 = true := by simp [dF, PyData.canLay0, PyData.canLayAll0]
theorem dF_depth (f : Int × Int × Int) : (dF f).depth = 1 := by simp [dF, PyData.depth, PyData.depthAll]
theorem dFs_lay : ∀ fs : List (Int × Int × Int), PyData.canLayAll0 (fs.map dF) = true
  | [] => by simp [PyData.canLayAll0]
  | f :: fs => by simp [PyData.canLayAll0, dF_lay f, dFs_lay fs]
theorem dFs_depth : ∀ fs : List (Int × Int × Int), PyData.depthAll (fs.map dF) ≤ 1
  | [] => by simp [PyData.depthAll]
  | f :: fs => by
    have h1 := dFs_depth fs
    have h2 := dF_depth f
    simp only [List.map_cons, PyData.depthAll]
    omega
theorem dT_lay (start high : Int) (m : List Int) : (dT start high m).canLay0 = true := by
  simp only [dT, PyData.canLay0]
  exact dFs_lay _
theorem dT_depth (start high : Int) (m : List Int) : (dT start high m).depth ≤ 2 := by
  have := dFs_depth (tst start high m)
  simp only [dT, PyData.depth]
  omega
theorem dTs_layA (start high : Int) : ∀ ms : List (List Int), PyData.canLayAll0 (ms.map (dT start high)) = true
  | [] => by simp [PyData.canLayAll0]
  | m :: ms => by simp [PyData.canLayAll0, dT_lay start high m, dTs_layA start high ms]
theorem dTs_depthA (start high : Int) : ∀ ms : List (List Int), PyData.depthAll (ms.map (dT start high)) ≤ 2
  | [] => by simp [PyData.depthAll]
  | m :: ms => by
    have h1 := dTs_depthA start high ms
    have h2 := dT_depth start high m
    simp only [List.map_cons, PyData.depthAll]
    omega
theorem dTs_lay (start high : Int) (ms : List (List Int)) : (dTs start high ms).canLay0 = true := by
  simp only [dTs, PyData.canLay0]
  exact dTs_layA start high ms
theorem dTs_shaped (start high : Int) (ms : List (List Int)) : SeqAt.shaped (dTs start high ms) = true := by
  have h := dTs_depthA start high ms
  have h2 : PyData.depth (dTs start high ms) ≤ 64 := by
    simp only [dTs, PyData.depth]
    omega
  show (PyData.canLay0 (dTs start high ms) && decide (PyData.depth (dTs start high ms) ≤ 64)) = true
  rw [Bool.and_eq_true]
  exact ⟨dTs_lay start high ms, decide_eq_true h2⟩
theorem dTs_eqv (start high : Int) (ms : List (List Int)) : PyData.eqv (dTs start high ms) (dTs start high ms) = true := SeqAt.eqv_refl _ (dTs_lay start high ms)
theorem dPs_nil (ps : List (Int × Int)) : PyData.eqv (dPs ps) (dI []) = decide (ps = []) := by
  cases ps with
  | nil => simp [dPs, dI, PyData.eqv, PyData.eqvAll]
  | cons p ps => simp [dPs, dI, PyData.eqv, PyData.eqvAll]
theorem cut_last (zs : List V) : cutV zs none (some (-1)) = zs.take (zs.length - 1) := by
  have e1 : HT.sIx zs.length 0 none = 0 := rfl
  have e2 : HT.sIx zs.length zs.length (some (-1)) = zs.length - 1 := by
    show (if (-1 : Int) < 0 then ((-1 : Int) + (zs.length : Int)).toNat else min (-1 : Int).toNat zs.length) = zs.length - 1
    rw [if_pos (by decide)]
    omega
  unfold cutV
  rw [e1, e2, List.drop_zero, Nat.sub_zero]
theorem same_wo {H H' : Hp} {s : Addr} (e : Same H H') (h : H s = none) : Same H (wo H' s) := fun b o q => wo_some (ne_of_none q h) (e b o q)
def spLaw (K : PySem.W.Frag) : Sp := fun vs H Q _ => ∃ (a : Addr) (ns : List Int), vs = [.ref a] ∧ SqL K H a (ns.map V.int) ∧ ns.length ≤ 63 ∧ ∀ H', Q (.bl true) H'
theorem bar_1024 {ms : List (List Int)} {s : Nat} (h : ms.length ≤ 10) : (barredOf ms s).length ≤ 1024 := by
  cases s with
  | zero => exact Nat.zero_le _
  | succ l => exact chs_1024 h
section
variable {P : Program} {w : World} {K : PySem.W.Frag} {mg : Str → Option Value} {base : Heap}
set_option maxHeartbeats 8000000 in
theorem ok_law {f fs fn fm ff fw fri fa : Addr} {fd ds dn dm df dw dr da : FuncData} (T : Txt mg) (D : Dn K mg "law" sLaw ["_law_script"] f fd) (DS : Dn K mg "_law_source" sSource ["_law_cell"] fs ds) (GS : FnOk P w K mg base CX0 1 fs ds ["_law_cell"] spSource)
    (DN : Dn K mg "_law_next" sNext ["_law_source_here", "_law_many"] fn dn) (GN : FnOk P w K mg base CX0 2 fn dn ["_law_source_here", "_law_many"] spNext)
    (DM : Dn K mg "_law_masks" sMasks ["_law_source_here", "_law_script"] fm dm) (GM : FnOk P w K mg base CX0 3 fm dm ["_law_source_here", "_law_script"] (spMasks K))
    (DF : Dn K mg "_law_first" sFirst ["_law_masks_here"] ff df) (GF : FnOk P w K mg base CX0 2 ff df ["_law_masks_here"] (spFirst K))
    (DW : Dn K mg "fewest" sFewest ["tastings"] fw dw) (GW : FnOk P w K mg base CX0 12 fw dw ["tastings"] (spFewest K))
    (DR : Dn K mg "_law_paper_right" sRight ["_law_masks_here", "_law_start", "_law_chosen", "_law_paper"] fri dr) (GR : FnOk P w K mg base CX0 2 fri dr ["_law_masks_here", "_law_start", "_law_chosen", "_law_paper"] (spRight K))
    (DA : Dn K mg "_law_at" sAt ["_law_tastings", "_law_many", "_law_paper"] fa da) (GA : FnOk P w K mg base CX0 13 fa da ["_law_tastings", "_law_many", "_law_paper"] (spAt K)) :
    FnOk P w K mg base CX0 14 f fd ["_law_script"] (spLaw K) := by
  refine D.fn.ok scLaw (fun vs H Q E h => ?_) (fun cdv A outer s H vs Q E hr h => ?_)
  · obtain ⟨_, _, rfl, _⟩ := h
    rfl
  · obtain ⟨a, ns, rfl, ha, hnl, q⟩ := h
    have r1 : Room 1 _ := hr.mono (by decide)
    have r2 : Room 2 _ := hr.mono (by decide)
    have r3 : Room 3 _ := hr.mono (by decide)
    have r12 : Room 12 _ := hr.mono (by decide)
    have hu := hr.units
    refine ⟨_, pss_cons (ps_set (i := 1) scLaw.nd rfl (Or.inl rfl) (pcl DS GS r1 (pa_cons (pe_ix ix_list (pe_op op_catS (pv 0) (pe_lst (pa_cons pe_int pa_nil))) pe_int (fun _ _ => rfl)) pa_nil)))
      (pss_cons (ps_set (i := 2) scLaw.nd rfl (Or.inr rfl) (pe_ix ix_list (pe_lst (pa_cons pe_int (pa_cons (pe_op op_sub (pe_op op_pow pe_int pe_int) pe_int) pa_nil))) (pcl DN GN r2 (pa_cons (pv 1) (pa_cons pe_int pa_nil))) (fun _ _ => rfl)))
      (pss_cons (ps_set (i := 3) scLaw.nd rfl (Or.inr rfl) (pcl DN GN r2 (pa_cons (pv 1) (pa_cons pe_int pa_nil))))
      (pss_cons (ps_set (i := 4) scLaw.nd rfl (Or.inl rfl) (pcl DM GM r3 (pa_cons (pv 1) (pa_cons (pv 0) pa_nil))))
      (pss_cons (ps_setLc (i := 5) (own := [("_law_mask", 10)]) (g := gName 10) (tt := tYes) rfl scLaw.nd rfl rfl (sw_true rfl rfl rfl (by decide +kernel)) (pi_list (pv 4)) (blkOk_by (N := nLaw) (sc := defScope sLaw) (by decide +kernel))
          (fun _ _ _ _ _ => pg_name (i := 10) scLaw.nd rfl (Or.inl rfl)) (fun _ _ _ _ _ => pts_nil)
          (fun _ _ _ _ _ => pe_op (r := rCatS K) op_catS (pe_lst (pa_cons (pe_tup (pa_cons (pe_op op_add (pv 2) pe_int) (pa_cons (pe_op op_add (pv 3) pe_int) (pa_cons pe_int pa_nil)))) pa_nil))
            (pe_lc (own := [("_law_j", 11)]) (wi := iList K (tVar 10)) (g := gName 11) (tt := tYes) rfl scLaw.nd (pi_list (pv 10)) (blkOk_by (N := nLaw) (sc := relS lcT (defScope sLaw)) (by decide +kernel))
              (fun _ _ _ _ _ => pg_name (i := 11) scLaw.nd rfl (Or.inl rfl)) (fun _ _ _ _ _ => pts_nil)
              (fun _ _ _ _ _ => pe_tup (pa_cons (pe_op op_add (pv 2) (pv 11)) (pa_cons pe_int (pa_cons (pv 3) pa_nil)))))))
      (pss_cons (ps_setLc (i := 6) (own := [("_law_tasting", 12)]) (g := gName 12) (tt := tYes) (te := tCB (fun xs H Q => ∃ p ys, xs = [V.ref p] ∧ (SqL K H p ys ∨ SqT K H p ys) ∧ ∀ l, H l = none → Q (.ref l) (upd H l (.lst ys))) (tCons (tVar 12) tNil))
          rfl scLaw.nd rfl rfl (sw_true rfl rfl rfl (by decide +kernel)) (pi_list (pv 5)) (blkOk_by (N := nLaw) (sc := defScope sLaw) (by decide +kernel))
          (fun _ _ _ _ _ => pg_name (i := 12) scLaw.nd rfl (Or.inl rfl)) (fun _ _ _ _ _ => pts_nil)
          (fun _ _ _ _ _ => pe_callTy call_list_of (by rfl) T.list (by decide +kernel) (pa_cons (pv 12) pa_nil)))
      (pss_cons (ps_set (i := 7) scLaw.nd rfl (Or.inl rfl) (pcl DF GF r2 (pa_cons (pv 4) pa_nil)))
      (pss_cons (ps_asg (pcl DW GW r12 (pa_cons (pv 6) pa_nil)) (pg_tup (by rfl) (pgs_cons (pg_name (i := 8) scLaw.nd rfl (Or.inl rfl)) (pgs_cons (pg_name (i := 9) scLaw.nd rfl (Or.inl rfl)) pgs_nil))))
      (pss_cons (ps_if (PW.pt (pw_or (pt_cmpR (op_neD hu) (pv 8) (pv 7) (nomark _)) (pw_or (pt_cmpR (op_neD hu) (pv 6) (pv 5) (nomark _)) (pw_or1 (pt_not (pt_val (pcl DR GR r2 (pa_cons (pv 4) (pa_cons (pv 2) (pa_cons (pv 8) (pa_cons (pv 9) pa_nil))))))))))) (pss_one (ps_ret pe_bl)) pss_nil)
      (pss_cons (ps_if (pt_cmpR op_notN (pcl DA GA hr (pa_cons (pv 6) (pa_cons (p_len T (pv 8)) (pa_cons (pv 9) pa_nil)))) pe_non (nomark _)) (pss_one (ps_ret pe_bl)) pss_nil)
      (pss_mid (ps_if (PW.pt (pw_and (pt_cmpR (op_neD hu) (pv 9) (pe_lst pa_nil) (nomark _)) (pw_and1 (pt_cmpR op_ne (pcl DA GA hr (pa_cons (pv 6) (pa_cons (p_len T (pv 8)) (pa_cons (pe_slice sl_list (pv 9) po_none (po_some (pe_un un_neg pe_int))) pa_nil)))) (pe_op op_sub (p_len T (pv 9)) pe_int) (nomark _))))) (pss_one (ps_ret pe_bl)) pss_nil)
      (pss_cons (ps_if (pt_cmpR op_ne (pcl DA GA hr (pa_cons (pv 6) (pa_cons (p_len T (pv 8)) (pa_cons (pe_op op_catS (pv 9) (pe_lst (pa_cons (pe_tup (pa_cons (pv 2) (pa_cons (pe_op op_add (pv 2) pe_int) pa_nil))) pa_nil))) pa_nil)))) (p_len T (pv 9)) (nomark _)) (pss_one (ps_ret pe_bl)) pss_nil)
      (pss_one (ps_ret (pe_cmpR op_eq (pcl DA GA hr (pa_cons (pv 6) (pa_cons (pe_op op_add (p_len T (pv 4)) pe_int) (pa_cons (pv 9) pa_nil)))) pe_str (nomark _))))))))))))))), ?_⟩
    -- source = source((script + [0])[0])
    obtain ⟨z, hz⟩ : ∃ z : Int, (ns ++ [0])[0]? = some z := ⟨_, List.getElem?_eq_getElem (by rw [List.length_append]; show 0 < ns.length + 1; omega)⟩
    refine ⟨_, rfl, by show 1 ≤ sizeLine; decide, fun p1 hp1 => ?_⟩
    refine ⟨a, p1, _, _, rfl, rfl, (same_upd hp1).seq ha, SqL.of upd_same, ?_, fun p2 hp2 => ?_⟩
    · rw [List.length_map]
      exact Nat.le_of_lt (small1000 (by show ns.length + 1 ≤ 1000; omega))
    refine ⟨p2, _, _, .int z, rfl, rfl, SqL.of upd_same, at_of (j := 0) rfl (by
      rw [show ns.map V.int ++ [V.int 0] = (ns ++ [0]).map V.int by rw [List.map_append]; rfl, List.getElem?_map, hz]
      rfl), _, rfl, fun s0 hs0 => ?_⟩
    have eA : Same H (upd (upd H p1 (.lst [V.int 0])) p2 (.lst (ns.map V.int ++ [V.int 0]))) := (same_upd hp1).trans (same_upd hp2)
    generalize upd (upd H p1 (.lst [V.int 0])) p2 (.lst (ns.map V.int ++ [V.int 0])) = HA at eA hs0 ⊢
    have sB : Src (upd HA s0 (.lst [.int z, .int z, .int 0])) s0 := ⟨_, _, _, upd_same⟩
    have eB : Same HA (upd HA s0 (.lst [.int z, .int z, .int 0])) := same_upd hs0
    generalize upd HA s0 (.lst [.int z, .int z, .int 0]) = HB at sB eB ⊢
    -- start
    refine ⟨_, _, rfl, rfl, ⟨by decide, by decide, by decide⟩, _, _, rfl, rfl, by show 2 ≤ sizeLine; decide, fun p3 hp3 => ?_⟩
    have n3 : s0 ≠ p3 := by
      obtain ⟨_, _, _, h⟩ := sB
      exact ne_of_none h hp3
    refine ⟨_, rfl, s0, 2, rfl, sB.upd n3, by decide, by decide, fun r o a1 b1 s1 => ?_⟩
    obtain ⟨st, hst, hat⟩ : ∃ st : Int, (st = 0 ∨ st = 1000000000 - 11) ∧ atI [V.int 0, .int (10 ^ (9 : Int).toNat - 11)] r = some (.int st) := by
      have : r = 0 ∨ r = 1 := by omega
      rcases this with e | e
      · exact ⟨0, .inl rfl, at_of (j := 0) (by omega) rfl⟩
      · exact ⟨1000000000 - 11, .inr rfl, at_of (j := 1) (by omega) (by decide)⟩
    refine ⟨p3, _, _, .int st, rfl, rfl, SqL.of (Eq.trans (upd_ne n3.symm) upd_same), hat, ?_⟩
    have eC : Same HA (upd (upd HB p3 (.lst [V.int 0, .int (10 ^ (9 : Int).toNat - 11)])) s0 o) := Same.upd (eB.trans (same_upd hp3)) hs0
    generalize upd (upd HB p3 (.lst [V.int 0, .int (10 ^ (9 : Int).toNat - 11)])) s0 o = HC at s1 eC ⊢
    -- high, masks
    refine ⟨_, rfl, s0, 100, rfl, s1, by decide, by decide, fun hi o2 a2 b2 s2 => ?_⟩
    have eD : Same HA (upd HC s0 o2) := Same.upd eC hs0
    generalize upd HC s0 o2 = HD at s2 eD ⊢
    have hbd : Bnd st hi := ⟨by omega, by omega, a2, b2⟩
    refine ⟨_, rfl, _, rfl, s0, a, ns, rfl, s2, (eA.trans (same_wo eD hs0)).seq ha, by omega, fun Hm mp ms w1 sm hM nl => ?_⟩
    have dmm : Dp K Hm (.ref mp) (dMs ms) := nl.dp
    obtain ⟨xs, hx1, hx2⟩ := nl.ex
    have hxd : DpAll K Hm xs (ms.map dI) := NewAll.dp hx2
    have hxl : xs.length = ms.length := (DpAll.length hxd).trans (List.length_map ..)
    have h10 := hM.2.1
    -- tastings
    refine ⟨_, rfl, mp, rfl, ⟨_, SqL.of hx1⟩, fun L hL => lc_list (K := K) (a := mp) (xs := xs) (fun i H' => Grow K Hm L H' ((ms.take i).map (dT st hi))) (Grow.start hL) (fun i H' _ g => g.same.seq (SqL.of hx1)) ?_ ?_⟩
    · intro i x H' hx g
      obtain ⟨d, hd1, hd2⟩ := DpAll.at hxd hx
      obtain ⟨m, hm1, rfl⟩ : ∃ m, ms[i]? = some m ∧ dI m = d := by simpa using hd1
      have hmask : Mask m := hM.2.2 m (List.mem_of_getElem? hm1)
      have hml := hmask.len
      have hi' : i < ms.length := (List.getElem?_eq_some_iff.mp hm1).1
      obtain ⟨b, rfl, hb⟩ := Dp.ints (Dp.same g.same _ hd2)
      obtain ⟨zs, hz1, hz2⟩ := g.ex
      have zl : zs.length ≤ 10 := by
        rw [DpAll.length hz2, List.length_map, List.length_take]
        omega
      refine ⟨rfl, _, rfl, _, _, rfl, rfl, _, rfl, _, _, rfl, rfl, by show 3 ≤ sizeLine; decide, fun t0 ht0 => ⟨by show 1 ≤ sizeLine; decide, fun q1 hq1 => ?_⟩⟩
      have eT : Same H' (upd (upd H' t0 (.tup [V.int (st + 11), .int (hi + 1), .int 100])) q1 (.lst [.ref t0])) := (same_upd ht0).trans (same_upd hq1)
      have n01 : t0 ≠ q1 := fun e => by
        rw [← e, upd_same] at hq1
        cases hq1
      have ht0' : upd (upd H' t0 (.tup [V.int (st + 11), .int (hi + 1), .int 100])) q1 (.lst [.ref t0]) t0 = some (.tup [V.int (st + 11), .int (hi + 1), .int 100]) := by rw [upd_ne n01, upd_same]
      have hq1' : upd (upd H' t0 (.tup [V.int (st + 11), .int (hi + 1), .int 100])) q1 (.lst [.ref t0]) q1 = some (.lst [.ref t0]) := upd_same
      generalize upd (upd H' t0 (.tup [V.int (st + 11), .int (hi + 1), .int 100])) q1 (.lst [.ref t0]) = H2 at eT ht0' hq1' ⊢
      refine ⟨_, rfl, b, rfl, ⟨_, eT.seq hb⟩, fun W hW => lc_list (K := K) (a := b) (xs := m.map V.int) (fun j H3 => Grow K H2 W H3 (((m.take j).map fun j => (st + j, (0 : Int), hi)).map dF)) (Grow.start hW) (fun j H3 _ g3 => g3.same.seq (eT.seq hb)) ?_ ?_⟩
      · intro j y H3 hy g3
        obtain ⟨u, hu, rfl⟩ : ∃ u, m[j]? = some u ∧ V.int u = y := by simpa using hy
        obtain ⟨ws, hw1, hw2⟩ := g3.ex
        have wl : ws.length ≤ 11 := by
          rw [DpAll.length hw2, List.length_map, List.length_map, List.length_take]
          omega
        refine ⟨rfl, _, rfl, _, rfl, _, _, rfl, rfl, _, rfl, by show 3 ≤ sizeLine; decide, fun t ht => ?_⟩
        have s3 : Same H3 (upd H3 t (.tup [V.int (st + u), .int 0, .int hi])) := same_upd ht
        refine ⟨ws, s3 _ _ hw1, small1000 (by omega), ?_⟩
        have q := g3.add s3 (s3 _ _ hw1) (Dp.of_trip (f := (st + u, 0, hi)) (SqT.of (fr_some.mpr ⟨ht, upd_same⟩)))
        rw [List.take_add_one, hu, List.map_append, List.map_append]
        exact q
      · intro H3 g3
        rw [List.take_of_length_le (by rw [List.length_map]; exact Nat.le_refl _)] at g3
        have gn := g3.newL
        obtain ⟨ws, hw1, hw2⟩ := gn.ex
        have wl : ws.length = m.length := by rw [DpAll.length hw2, List.length_map, List.length_map]
        refine ⟨q1, W, _, _, rfl, rfl, SqL.of (g3.same _ _ hq1'), SqL.of hw1, Nat.le_of_lt (small1000 (by show 1 + ws.length ≤ 1000; omega)), fun q hq => ?_⟩
        have e4 : Same H' (upd H3 q (.lst ([.ref t0] ++ ws))) := (eT.trans g3.same).trans (same_upd hq)
        have e5 : Same H3 (upd H3 q (.lst ([.ref t0] ++ ws))) := same_upd hq
        refine ⟨zs, e4 _ _ hz1, small1000 (by omega), ?_⟩
        rw [List.take_add_one, hm1, List.map_append]
        refine g.add e4 (e4 _ _ hz1) (.lst (SqL.of (fr_some.mpr ⟨(eT.trans g3.same).free hq, upd_same⟩)) (.cons ?_ ?_))
        · exact Dp.of_trip (f := (st + 11, hi + 1, 100)) (SqT.of (fr_some.mpr ⟨ht0, e5 _ _ (g3.same _ _ ht0')⟩))
        · exact DpAll.same (fun x o z => fr_right (fun b o _ z => e5 b o z) x o (fr_left (fun b hb => eT.free hb) x o z)) _ hw2
    · intro Ht g
      rw [List.take_of_length_le (by omega)] at g
      have gn := g.newL
      obtain ⟨ts, ht1, ht2⟩ := gn.ex
      have dT1 : Dp K Ht (.ref L) (dTs st hi ms) := gn.dp
      have tl : ts.length = ms.length := (DpAll.length ht2).trans (List.length_map ..)
      -- handed
      refine ⟨_, rfl, L, rfl, ⟨_, SqL.of ht1⟩, fun L2 hL2 => ?_⟩
      have hL2m : Hm L2 = none := g.same.free hL2
      refine lc_list (K := K) (a := L) (xs := ts) (fun i H' => Same Ht H' ∧ Grow K Hm L2 H' ((ms.take i).map (dT st hi))) ⟨same_upd hL2, hL2m, Same.upd g.same hL2m, [], upd_same, .nil⟩ (fun i H' _ e => e.1.seq (SqL.of ht1)) ?_ ?_
      · rintro i x H' hx ⟨e1, g2⟩
        obtain ⟨d, hd1, hd2⟩ := DpAll.at ht2 hx
        obtain ⟨m, hm1, rfl⟩ : ∃ m, ms[i]? = some m ∧ dT st hi m = d := by simpa using hd1
        have hi' : i < ms.length := (List.getElem?_eq_some_iff.mp hm1).1
        obtain ⟨b, is, rfl, hq, hqa⟩ := Dp.lst_inv hd2
        obtain ⟨zs, hz1, hz2⟩ := g2.ex
        have zl : zs.length ≤ 10 := by
          rw [DpAll.length hz2, List.length_map, List.length_take]
          omega
        have eF : Same (fr Hm Ht) H' := fun b o z => e1 _ _ (fr_some.mp z).2
        refine ⟨rfl, _, rfl, b, is, rfl, .inl (eF.seq hq), fun l hl => ?_⟩
        have e2 : Same H' (upd H' l (.lst is)) := same_upd hl
        refine ⟨zs, e2 _ _ hz1, small1000 (by omega), Same.upd (e1.trans e2) hL2, ?_⟩
        have S : Same (fr Hm Ht) (fr (upd Hm L2 (.lst [])) (upd H' l (.lst is))) := fun b o z => by
          obtain ⟨z1, z2⟩ := fr_some.mp z
          refine fr_some.mpr ⟨?_, (e1.trans e2) _ _ z2⟩
          rw [upd_ne (ne_of_none z2 hL2)]
          exact z1
        rw [List.take_add_one, hm1, List.map_append]
        exact g2.addD e2 (e2 _ _ hz1) (.lst (SqL.of (fr_some.mpr ⟨g2.dom l hl, upd_same⟩)) (DpAll.same S _ hqa))
      · rintro Hh ⟨e1, g2⟩
        rw [List.take_of_length_le (by omega)] at g2
        have dH : Dp K Hh (.ref L2) (dTs st hi ms) := g2.newL.dp
        have dT2 : Dp K Hh (.ref L) (dTs st hi ms) := Dp.same e1 _ dT1
        have dM2 : Dp K Hh (.ref mp) (dMs ms) := Dp.same (g.same.trans e1) _ dmm
        refine ⟨_, rfl, _, ms, rfl, hM, dM2, fun H7 du s cs e7 hB hdu => ?_⟩
        refine ⟨_, rfl, _, st, hi, ms, rfl, hbd, hM, Dp.same e7 _ dH, fun H8 p ca pa s2 cs2 e8 hp hB2 hca hpa => ?_⟩
        obtain ⟨es, ec⟩ := Best.uniq hB hB2
        subst es
        subst ec
        refine ⟨p, _, rfl, SqT.of hp, rfl, _, _, rfl, _, _, rfl, rfl, ?_⟩
        have dC8 : Dp K H8 (.ref ca) (dC cs) := hca.dp
        have dP8 : Dp K H8 (.ref pa) (dPs (rights st ms s)) := hpa.dp
        refine ⟨_, rfl, _, rfl, dC cs, dC cs, dC8, Dp.same e8 _ hdu, by rw [dC_eq]; exact dI_shaped _, by rw [dC_eq]; exact dI_shaped _, _, rfl, ?_⟩
        rw [dC_eq, dI_eqv, decide_eq_true rfl]
        refine iteF ?_
        refine ⟨_, rfl, _, rfl, dTs st hi ms, dTs st hi ms, Dp.same (e7.trans e8) _ dH, Dp.same (e7.trans e8) _ dT2, dTs_shaped .., dTs_shaped .., _, rfl, ?_⟩
        rw [dTs_eqv]
        refine iteF ?_
        refine ⟨_, rfl, _, rfl, _, rfl, _, rfl, _, _, _, st, ms, s, cs, rfl, hM, Dp.same (e7.trans e8) _ dM2, hB, dC8, dP8, fun H9 e9 => ?_⟩
        refine ⟨_, rfl, ?_⟩
        refine iteF ?_
        have bl := hB.bar
        have sl := hB.le
        have hcl : cs.length = s := hB.choice.len
        obtain ⟨ca', eca, hcc⟩ := Dp.ints (by have h := dC8; rw [dC_eq] at h; exact h)
        obtain rfl : ca = ca' := V.ref.inj eca
        obtain ⟨pa', ys, epa, hy, hya⟩ := Dp.lst_inv dP8
        obtain rfl : pa = pa' := V.ref.inj epa
        have rl : ((rights st ms s).map dPr).length = (barredOf ms s).length := by rw [List.length_map, rights_eq, List.length_map]
        have yl : ys.length = (barredOf ms s).length := (DpAll.length hya).trans rl
        have dTk : ∀ {H'}, Same H8 H' → Dp K H' (.ref L2) (dTs st hi ms) := fun e => Dp.same ((e7.trans e8).trans e) _ dH
        have ecl : V.int (((cs.map fun k : Nat => (k : Int)).map V.int).length : Nat) = V.int (s : Nat) := by rw [List.length_map, List.length_map, hcl]
        have gv : ∀ (i : Nat) d r, ((rights st ms s).map dPr)[i]? = some d → (rights st ms s)[i]? = some r → d = dPr r := fun i d r h1 h2 => by
          rw [List.getElem?_map, h2] at h1
          exact (Option.some.inj h1).symm
        refine ⟨_, rfl, _, rfl, ca, _, rfl, .inl (e9.seq hcc), _, rfl, _, _, _, st, hi, ms, (rights st ms s).map dPr, rfl, hbd, hM, dTk e9, Dp.same e9 _ dP8, .inl ⟨s, V.int.inj ecl, sl, bl, gv, fun _ H10 e10 => ?_, fun z => absurd rl z⟩⟩
        have e8b : Same H8 H10 := e9.trans e10
        clear e9 e10
        refine ⟨rfl, _, rfl, ?_⟩
        refine iteF ?_
        refine ⟨fun σ H' => σ = [some (.ref a), some (.ref s0), some (.int st), some (.int hi), some (.ref mp), some (.ref L), some (.ref L2), some (.ref du), some (.ref ca), some (.ref pa), none, none, none] ∧ Same H8 H', ?_, ?_⟩
        · refine ⟨_, rfl, Nat.zero_le _, fun l1 hl1 => ?_⟩
          have e8c : Same H8 (upd H10 l1 (.lst [])) := e8b.trans (same_upd hl1)
          refine ⟨dPs (rights st ms s), dI [], Dp.same e8c _ dP8, Dp.of_ints (SqL.of upd_same), dPrs_shaped _, dI_shaped _, _, rfl, ?_⟩
          rw [dPs_nil]
          generalize upd H10 l1 (.lst []) = H11 at e8c ⊢
          by_cases hn : rights st ms s = []
          · rw [decide_eq_true hn]
            refine iteF ?_
            exact ⟨rfl, e8c⟩
          · rw [decide_eq_false hn]
            refine iteT ?_
            have yp : 0 < ys.length := by
              rw [yl, ← rl, List.length_map]
              exact List.length_pos_iff.mpr hn
            refine ⟨_, rfl, _, rfl, ca, _, rfl, .inl (e8c.seq hcc), _, rfl, _, rfl, -1, rfl, pa, ys, rfl, e8c.seq hy, fun q1 hq1 => ?_⟩
            have eS : Same H8 (upd H11 q1 (.lst (cutV ys none (some (-1))))) := e8c.trans (same_upd hq1)
            have tl1 : (((rights st ms s).map dPr).take (ys.length - 1)).length = (barredOf ms s).length - 1 := by
              rw [List.length_take, rl, yl]
              omega
            refine ⟨_, _, _, st, hi, ms, ((rights st ms s).map dPr).take (ys.length - 1), rfl, hbd, hM, dTk eS, .lst (SqL.of upd_same) (by
              have q := DpAll.take (ys.length - 1) (DpAll.same eS _ hya)
              rw [← cut_last] at q
              exact q), .inl ⟨s, V.int.inj ecl, sl, bl, fun i d r h1 h2 => gv i d r ?_ h2, fun z => absurd z (by rw [tl1]; omega), fun _ H12 e12 => ?_⟩⟩
            · rw [List.getElem?_take] at h1
              split at h1
              · exact h1
              · cases h1
            have e8d : Same H8 H12 := eS.trans e12
            refine ⟨_, rfl, pa, ys, rfl, .inl (e8d.seq hy), _, _, rfl, rfl, rfl, _, rfl, ?_⟩
            rw [decide_eq_true (by rw [tl1, yl]; congr 1; omega)]
            refine iteF ?_
            exact ⟨rfl, e8d⟩
        · rintro σ H11 ⟨rfl, e11⟩
          refine ⟨_, rfl, _, rfl, ca, _, rfl, .inl (e11.seq hcc), _, rfl, _, rfl, _, rfl, _, _, rfl, rfl, by show 2 ≤ sizeLine; decide, fun t1 ht1 => ⟨by show 1 ≤ sizeLine; decide, fun q1 hq1 => ?_⟩⟩
          have eT : Same H8 (upd (upd H11 t1 (.tup [V.int st, .int (st + 11)])) q1 (.lst [.ref t1])) := (e11.trans (same_upd ht1)).trans (same_upd hq1)
          have n1 : t1 ≠ q1 := fun e => by
            rw [← e, upd_same] at hq1
            cases hq1
          refine ⟨pa, q1, _, _, rfl, rfl, eT.seq hy, SqL.of upd_same, by show ys.length + 1 ≤ sizeLine; exact Nat.le_trans (Nat.succ_le_succ (yl ▸ bar_1024 h10)) (by decide), fun q2 hq2 => ?_⟩
          have ht2 : upd (upd (upd H11 t1 (.tup [V.int st, .int (st + 11)])) q1 (.lst [.ref t1])) q2 (.lst (ys ++ [V.ref t1])) t1 = some (.tup [V.int st, .int (st + 11)]) := by
            have h1 : upd (upd H11 t1 (.tup [V.int st, .int (st + 11)])) q1 (.lst [.ref t1]) t1 = some (.tup [V.int st, .int (st + 11)]) := by rw [upd_ne n1, upd_same]
            rw [upd_ne (ne_of_none h1 hq2), h1]
          have eU := eT.trans (same_upd (o := .lst (ys ++ [V.ref t1])) hq2)
          have hq2' : upd (upd (upd H11 t1 (.tup [V.int st, .int (st + 11)])) q1 (.lst [.ref t1])) q2 (.lst (ys ++ [V.ref t1])) q2 = some (.lst (ys ++ [V.ref t1])) := upd_same
          generalize upd (upd (upd H11 t1 (.tup [V.int st, .int (st + 11)])) q1 (.lst [.ref t1])) q2 (.lst (ys ++ [V.ref t1])) = H12 at eU ht2 hq2' ⊢
          have rl1 : ((rights st ms s).map dPr ++ [dPr (st, st + 11)]).length = (barredOf ms s).length + 1 := by rw [List.length_append, rl]; rfl
          refine ⟨_, _, _, st, hi, ms, (rights st ms s).map dPr ++ [dPr (st, st + 11)], rfl, hbd, hM, dTk eU, .lst (SqL.of hq2') (DpAll.snoc (DpAll.same eU _ hya) (Dp.of_pair (SqT.of ht2))), .inl ⟨s, V.int.inj ecl, sl, bl, fun i d r h1 h2 => gv i d r ?_ h2, fun z => absurd z (by rw [rl1]; omega), fun _ H13 e13 => ?_⟩⟩
          · have hil : i < (rights st ms s).length := (List.getElem?_eq_some_iff.mp h2).1
            rw [List.getElem?_append_left (by rw [List.length_map]; exact hil)] at h1
            exact h1
          have e8e : Same H8 H13 := eU.trans e13
          refine ⟨_, rfl, pa, ys, rfl, .inl (e8e.seq hy), rfl, _, rfl, ?_⟩
          rw [decide_eq_true (by rw [rl1, yl]; congr 1; omega)]
          refine iteF ?_
          refine ⟨_, rfl, _, rfl, mp, xs, rfl, .inl (((g.same.trans e1).trans ((e7.trans e8).trans e8e)).seq (SqL.of hx1)), _, _, rfl, rfl, _, rfl, ?_⟩
          refine ⟨_, _, _, st, hi, ms, (rights st ms s).map dPr, rfl, hbd, hM, dTk e8e, Dp.same e8e _ dP8, .inr ⟨by rw [hxl], fun H14 e14 => ?_⟩⟩
          exact ⟨rfl, q _⟩
end
end Brk
namespace Brk
open PySem L2
/-! ### what the top has written, the head -/
/-- whether an error of the class at C is one that «except S» names -/
theorem exm_cls {K : PySem.W.Frag} {C S : Addr} {b : Bool} (h1 : PySem.W.subIn K (.ref S) (.type "BaseException") = some true) (h2 : PySem.W.isClsIn K S = true) (h3 : PySem.W.typeIn K (.ref S) = some (.type "type")) (h4 : PySem.W.subIn K (.ref C) (.ref S) = some b) :
    PySem.W.exmOne K (.ref C) (.ref S) = some b := by
  have e1 : (PySem.W.subIn K (.ref S) (.type "BaseException") == some true) = true := by rw [h1]; rfl
  have q : (PySem.W.clsIn K S).isSome = true := h2
  unfold PySem.W.exmOne
  rw [if_pos e1]
  unfold PySem.W.kitCls
  simp only [q, h3, h4]
  rfl
set_option maxHeartbeats 8000000 in
theorem all_mk {l : PySem.W.OpenLaw} {w : World} {K : PySem.W.Frag} {h : Heap} {mg : Str → Option Value} {fa : Addr} (X : K.In h) (G : h.Ns mainGlobals mg) (hfa : mg "law" = some (.ref fa))
    {CB CR CP CT : Addr} {t0 t1 t2 t3 : Nat}
    {nmR qR : Str} {NR DR : Addr} {bsR : List Value} {snR : List Str} {subR : List Value} {abR : Bool} {colR : Option Bool} {ddR : Option Addr} {k0R k1R k2R k3R k5R : Option Value}
    {nmP qP : Str} {NP DP : Addr} {bsP : List Value} {snP : List Str} {subP : List Value} {abP : Bool} {colP : Option Bool} {ddP : Option Addr} {k0P k1P k2P k3P k5P : Option Value}
    {f1 : Addr} {od1 an1 : Option Addr} {sl1 : Array (Option Value)} {oc1 kV1 dc1 pm1 cd1 ct1 : Value}
    {f2 : Addr} {od2 an2 : Option Addr} {sl2 : Array (Option Value)} {oc2 kV2 dc2 pm2 cd2 ct2 : Value}
    {f3 : Addr} {od3 an3 : Option Addr} {sl3 : Array (Option Value)} {oc3 kV3 dc3 pm3 cd3 ct3 : Value}
    {f4 : Addr} {od4 an4 : Option Addr} {sl4 : Array (Option Value)} {oc4 kV4 dc4 pm4 cd4 ct4 : Value}
    {f5 : Addr} {od5 an5 : Option Addr} {sl5 : Array (Option Value)} {oc5 kV5 dc5 pm5 cd5 ct5 : Value}
    {f6 : Addr} {od6 an6 : Option Addr} {sl6 : Array (Option Value)} {oc6 kV6 dc6 pm6 cd6 ct6 : Value}
    {f7 : Addr} {od7 an7 : Option Addr} {sl7 : Array (Option Value)} {oc7 kV7 dc7 pm7 cd7 ct7 : Value}
    {f8 : Addr} {od8 an8 : Option Addr} {sl8 : Array (Option Value)} {oc8 kV8 dc8 pm8 cd8 ct8 : Value}
    {f9 : Addr} {od9 an9 : Option Addr} {sl9 : Array (Option Value)} {oc9 kV9 dc9 pm9 cd9 ct9 : Value}
    {f10 : Addr} {od10 an10 : Option Addr} {sl10 : Array (Option Value)} {oc10 kV10 dc10 pm10 cd10 ct10 : Value}
    {f11 : Addr} {od11 an11 : Option Addr} {sl11 : Array (Option Value)} {oc11 kV11 dc11 pm11 cd11 ct11 : Value}
    {f12 : Addr} {od12 an12 : Option Addr} {sl12 : Array (Option Value)} {oc12 kV12 dc12 pm12 cd12 ct12 : Value}
    {f13 : Addr} {od13 an13 : Option Addr} {sl13 : Array (Option Value)} {oc13 kV13 dc13 pm13 cd13 ct13 : Value}
    {f14 : Addr} {od14 an14 : Option Addr} {sl14 : Array (Option Value)} {oc14 kV14 dc14 pm14 cd14 ct14 : Value}
    {f15 : Addr} {od15 an15 : Option Addr} {sl15 : Array (Option Value)} {oc15 kV15 dc15 pm15 cd15 ct15 : Value}
    {f16 : Addr} {od16 an16 : Option Addr} {sl16 : Array (Option Value)} {oc16 kV16 dc16 pm16 cd16 ct16 : Value}
    {f17 : Addr} {od17 an17 : Option Addr} {sl17 : Array (Option Value)} {oc17 kV17 dc17 pm17 cd17 ct17 : Value}
    {f18 : Addr} {od18 an18 : Option Addr} {sl18 : Array (Option Value)} {oc18 kV18 dc18 pm18 cd18 ct18 : Value}
    {f19 : Addr} {od19 an19 : Option Addr} {sl19 : Array (Option Value)} {oc19 kV19 dc19 pm19 cd19 ct19 : Value}
    {f20 : Addr} {od20 an20 : Option Addr} {sl20 : Array (Option Value)} {oc20 kV20 dc20 pm20 cd20 ct20 : Value}
    {f21 : Addr} {od21 an21 : Option Addr} {sl21 : Array (Option Value)} {oc21 kV21 dc21 pm21 cd21 ct21 : Value}
    {f22 : Addr} {od22 an22 : Option Addr} {sl22 : Array (Option Value)} {oc22 kV22 dc22 pm22 cd22 ct22 : Value}
    {f23 : Addr} {od23 an23 : Option Addr} {sl23 : Array (Option Value)} {oc23 kV23 dc23 pm23 cd23 ct23 : Value}
    {f24 : Addr} {od24 an24 : Option Addr} {sl24 : Array (Option Value)} {oc24 kV24 dc24 pm24 cd24 ct24 : Value}
    {f25 : Addr} {od25 an25 : Option Addr} {sl25 : Array (Option Value)} {oc25 kV25 dc25 pm25 cd25 ct25 : Value}
    {f26 : Addr} {od26 an26 : Option Addr} {sl26 : Array (Option Value)} {oc26 kV26 dc26 pm26 cd26 ct26 : Value}
    (aB : PySem.W.nsIn K mainGlobals "BreakError" = some (some (.ref CB)))
    (aR : PySem.W.nsIn K mainGlobals "NoRule" = some (some (.ref CR)))
    (aP : PySem.W.nsIn K mainGlobals "NoPaper" = some (some (.ref CP)))
    (aT : PySem.W.nsIn K mainGlobals "TooMuch" = some (some (.ref CT)))
    (gaB : PySem.W.specialIn K (.ref CB) "__getattribute__" = some (some (.builtin "type.__getattribute__")))
    (rdB : PySem.W.readsIn K CB (.type "type") = true)
    (fiB : PySem.W.findCls K (.ref CB) (.type "type") "__init__" = some (.val (.builtin "ValueError.__init__")))
    (xR : K.lookup CR = some (excClassObj nmR qR CR NR bsR (.ref DR :: [.type "ValueError", .type "Exception", .type "BaseException", .type "object"]) true snR subR abR colR ddR k0R k1R k2R k3R k5R "ValueError.__new__"))
    (saR : PySem.W.findIn K (.ref CR) "__setattr__" = some (some (.builtin "object.__setattr__")))
    (gaR : PySem.W.findIn K (.ref CR) "__getattribute__" = some (some (.builtin "BaseException.__getattribute__")))
    (ggR : PySem.W.findIn K (.ref CR) "__getattr__" = some none)
    (noR : PySem.W.findIn K (.ref CR) "what" = some none)
    (ecR : PySem.W.subIn K (.ref CR) (.type "BaseException") = some true)
    (tyR : PySem.W.typeIn K (.ref CR) = some (.type "type"))
    (kcR : PySem.W.keepIn K (.ref CR) = true)
    (hdR : PySem.W.hasDictIn K CR = true)
    (aiR : PySem.W.findIn K (.ref CR) "__init__" = some (some (.ref f25)))
    (tiR : PySem.W.typeIn K (.ref f25) = some (.type "function"))
    (liR : K.lookup f25 = some ⟨oc25, od25, .func (PySem.W.fnOf "__init__" "NoRule.__init__" (defArgs sInitR) (defBody sInitR) (defScope sInitR) .none kV25 dc25 pm25 an25 cd25 ct25), sl25⟩)
    (ciR : PySem.W.codeIn K cd25 "NoRule.__init__" = true)
    (kiR : PySem.W.keepIn K (.ref f25) = true)
    (xP : K.lookup CP = some (excClassObj nmP qP CP NP bsP (.ref DP :: [.type "ValueError", .type "Exception", .type "BaseException", .type "object"]) true snP subP abP colP ddP k0P k1P k2P k3P k5P "ValueError.__new__"))
    (saP : PySem.W.findIn K (.ref CP) "__setattr__" = some (some (.builtin "object.__setattr__")))
    (gaP : PySem.W.findIn K (.ref CP) "__getattribute__" = some (some (.builtin "BaseException.__getattribute__")))
    (ggP : PySem.W.findIn K (.ref CP) "__getattr__" = some none)
    (noP : PySem.W.findIn K (.ref CP) "at" = some none)
    (ecP : PySem.W.subIn K (.ref CP) (.type "BaseException") = some true)
    (tyP : PySem.W.typeIn K (.ref CP) = some (.type "type"))
    (kcP : PySem.W.keepIn K (.ref CP) = true)
    (hdP : PySem.W.hasDictIn K CP = true)
    (aiP : PySem.W.findIn K (.ref CP) "__init__" = some (some (.ref f26)))
    (tiP : PySem.W.typeIn K (.ref f26) = some (.type "function"))
    (liP : K.lookup f26 = some ⟨oc26, od26, .func (PySem.W.fnOf "__init__" "NoPaper.__init__" (defArgs sInitP) (defBody sInitP) (defScope sInitP) .none kV26 dc26 pm26 an26 cd26 ct26), sl26⟩)
    (ciP : PySem.W.codeIn K cd26 "NoPaper.__init__" = true)
    (kiP : PySem.W.keepIn K (.ref f26) = true)
    (iP : PySem.W.isClsIn K CP = true)
    (iR : PySem.W.isClsIn K CR = true)
    (ePP : PySem.W.subIn K (.ref CP) (.ref CP) = some true)
    (eRP : PySem.W.subIn K (.ref CR) (.ref CP) = some false)
    (eRR : PySem.W.subIn K (.ref CR) (.ref CR) = some true)
    (a1 : PySem.W.nsIn K mainGlobals "is_whole" = some (some (.ref f1)))
    (l1 : K.lookup f1 = some ⟨oc1, od1, .func (PySem.W.fnOf "is_whole" "is_whole" (defArgs sWhole) (defBody sWhole) (defScope sWhole) .none kV1 dc1 pm1 an1 cd1 ct1), sl1⟩)
    (c1 : PySem.W.codeIn K cd1 "is_whole" = true)
    (k1 : PySem.W.keepIn K (.ref f1) = true)
    (a2 : PySem.W.nsIn K mainGlobals "is_from" = some (some (.ref f2)))
    (l2 : K.lookup f2 = some ⟨oc2, od2, .func (PySem.W.fnOf "is_from" "is_from" (defArgs sFrom) (defBody sFrom) (defScope sFrom) .none kV2 dc2 pm2 an2 cd2 ct2), sl2⟩)
    (c2 : PySem.W.codeIn K cd2 "is_from" = true)
    (k2 : PySem.W.keepIn K (.ref f2) = true)
    (a3 : PySem.W.nsIn K mainGlobals "is_break" = some (some (.ref f3)))
    (l3 : K.lookup f3 = some ⟨oc3, od3, .func (PySem.W.fnOf "is_break" "is_break" (defArgs sBreak) (defBody sBreak) (defScope sBreak) .none kV3 dc3 pm3 an3 cd3 ct3), sl3⟩)
    (c3 : PySem.W.codeIn K cd3 "is_break" = true)
    (k3 : PySem.W.keepIn K (.ref f3) = true)
    (a4 : PySem.W.nsIn K mainGlobals "is_finding" = some (some (.ref f4)))
    (l4 : K.lookup f4 = some ⟨oc4, od4, .func (PySem.W.fnOf "is_finding" "is_finding" (defArgs sFinding) (defBody sFinding) (defScope sFinding) .none kV4 dc4 pm4 an4 cd4 ct4), sl4⟩)
    (c4 : PySem.W.codeIn K cd4 "is_finding" = true)
    (k4 : PySem.W.keepIn K (.ref f4) = true)
    (a5 : PySem.W.nsIn K mainGlobals "is_tasting" = some (some (.ref f5)))
    (l5 : K.lookup f5 = some ⟨oc5, od5, .func (PySem.W.fnOf "is_tasting" "is_tasting" (defArgs sTasting) (defBody sTasting) (defScope sTasting) .none kV5 dc5 pm5 an5 cd5 ct5), sl5⟩)
    (c5 : PySem.W.codeIn K cd5 "is_tasting" = true)
    (k5 : PySem.W.keepIn K (.ref f5) = true)
    (a6 : PySem.W.nsIn K mainGlobals "breaks_in" = some (some (.ref f6)))
    (l6 : K.lookup f6 = some ⟨oc6, od6, .func (PySem.W.fnOf "breaks_in" "breaks_in" (defArgs sBreaks) (defBody sBreaks) (defScope sBreaks) .none kV6 dc6 pm6 an6 cd6 ct6), sl6⟩)
    (c6 : PySem.W.codeIn K cd6 "breaks_in" = true)
    (k6 : PySem.W.keepIn K (.ref f6) = true)
    (a7 : PySem.W.nsIn K mainGlobals "want_tastings" = some (some (.ref f7)))
    (l7 : K.lookup f7 = some ⟨oc7, od7, .func (PySem.W.fnOf "want_tastings" "want_tastings" (defArgs sWant) (defBody sWant) (defScope sWant) .none kV7 dc7 pm7 an7 cd7 ct7), sl7⟩)
    (c7 : PySem.W.codeIn K cd7 "want_tastings" = true)
    (k7 : PySem.W.keepIn K (.ref f7) = true)
    (a8 : PySem.W.nsIn K mainGlobals "bounds_by" = some (some (.ref f8)))
    (l8 : K.lookup f8 = some ⟨oc8, od8, .func (PySem.W.fnOf "bounds_by" "bounds_by" (defArgs sBounds) (defBody sBounds) (defScope sBounds) .none kV8 dc8 pm8 an8 cd8 ct8), sl8⟩)
    (c8 : PySem.W.codeIn K cd8 "bounds_by" = true)
    (k8 : PySem.W.keepIn K (.ref f8) = true)
    (a9 : PySem.W.nsIn K mainGlobals "pairs_of" = some (some (.ref f9)))
    (l9 : K.lookup f9 = some ⟨oc9, od9, .func (PySem.W.fnOf "pairs_of" "pairs_of" (defArgs sPairs) (defBody sPairs) (defScope sPairs) .none kV9 dc9 pm9 an9 cd9 ct9), sl9⟩)
    (c9 : PySem.W.codeIn K cd9 "pairs_of" = true)
    (k9 : PySem.W.keepIn K (.ref f9) = true)
    (a10 : PySem.W.nsIn K mainGlobals "choices" = some (some (.ref f10)))
    (l10 : K.lookup f10 = some ⟨oc10, od10, .func (PySem.W.fnOf "choices" "choices" (defArgs sChoices) (defBody sChoices) (defScope sChoices) .none kV10 dc10 pm10 an10 cd10 ct10), sl10⟩)
    (c10 : PySem.W.codeIn K cd10 "choices" = true)
    (k10 : PySem.W.keepIn K (.ref f10) = true)
    (a11 : PySem.W.nsIn K mainGlobals "lacking" = some (some (.ref f11)))
    (l11 : K.lookup f11 = some ⟨oc11, od11, .func (PySem.W.fnOf "lacking" "lacking" (defArgs sLacking) (defBody sLacking) (defScope sLacking) .none kV11 dc11 pm11 an11 cd11 ct11), sl11⟩)
    (c11 : PySem.W.codeIn K cd11 "lacking" = true)
    (k11 : PySem.W.keepIn K (.ref f11) = true)
    (a12 : PySem.W.nsIn K mainGlobals "fewest" = some (some (.ref f12)))
    (l12 : K.lookup f12 = some ⟨oc12, od12, .func (PySem.W.fnOf "fewest" "fewest" (defArgs sFewest) (defBody sFewest) (defScope sFewest) .none kV12 dc12 pm12 an12 cd12 ct12), sl12⟩)
    (c12 : PySem.W.codeIn K cd12 "fewest" = true)
    (k12 : PySem.W.keepIn K (.ref f12) = true)
    (a13 : PySem.W.nsIn K mainGlobals "is_lacking" = some (some (.ref f13)))
    (l13 : K.lookup f13 = some ⟨oc13, od13, .func (PySem.W.fnOf "is_lacking" "is_lacking" (defArgs sIsLack) (defBody sIsLack) (defScope sIsLack) .none kV13 dc13 pm13 an13 cd13 ct13), sl13⟩)
    (c13 : PySem.W.codeIn K cd13 "is_lacking" = true)
    (k13 : PySem.W.keepIn K (.ref f13) = true)
    (a14 : PySem.W.nsIn K mainGlobals "check_paper" = some (some (.ref f14)))
    (l14 : K.lookup f14 = some ⟨oc14, od14, .func (PySem.W.fnOf "check_paper" "check_paper" (defArgs sCheck) (defBody sCheck) (defScope sCheck) .none kV14 dc14 pm14 an14 cd14 ct14), sl14⟩)
    (c14 : PySem.W.codeIn K cd14 "check_paper" = true)
    (k14 : PySem.W.keepIn K (.ref f14) = true)
    (a15 : PySem.W.nsIn K mainGlobals "_law_mixed" = some (some (.ref f15)))
    (l15 : K.lookup f15 = some ⟨oc15, od15, .func (PySem.W.fnOf "_law_mixed" "_law_mixed" (defArgs sMixed) (defBody sMixed) (defScope sMixed) .none kV15 dc15 pm15 an15 cd15 ct15), sl15⟩)
    (c15 : PySem.W.codeIn K cd15 "_law_mixed" = true)
    (k15 : PySem.W.keepIn K (.ref f15) = true)
    (a16 : PySem.W.nsIn K mainGlobals "_law_source" = some (some (.ref f16)))
    (l16 : K.lookup f16 = some ⟨oc16, od16, .func (PySem.W.fnOf "_law_source" "_law_source" (defArgs sSource) (defBody sSource) (defScope sSource) .none kV16 dc16 pm16 an16 cd16 ct16), sl16⟩)
    (c16 : PySem.W.codeIn K cd16 "_law_source" = true)
    (k16 : PySem.W.keepIn K (.ref f16) = true)
    (a17 : PySem.W.nsIn K mainGlobals "_law_next" = some (some (.ref f17)))
    (l17 : K.lookup f17 = some ⟨oc17, od17, .func (PySem.W.fnOf "_law_next" "_law_next" (defArgs sNext) (defBody sNext) (defScope sNext) .none kV17 dc17 pm17 an17 cd17 ct17), sl17⟩)
    (c17 : PySem.W.codeIn K cd17 "_law_next" = true)
    (k17 : PySem.W.keepIn K (.ref f17) = true)
    (a18 : PySem.W.nsIn K mainGlobals "_law_choices" = some (some (.ref f18)))
    (l18 : K.lookup f18 = some ⟨oc18, od18, .func (PySem.W.fnOf "_law_choices" "_law_choices" (defArgs sLch) (defBody sLch) (defScope sLch) .none kV18 dc18 pm18 an18 cd18 ct18), sl18⟩)
    (c18 : PySem.W.codeIn K cd18 "_law_choices" = true)
    (k18 : PySem.W.keepIn K (.ref f18) = true)
    (a19 : PySem.W.nsIn K mainGlobals "_law_masks" = some (some (.ref f19)))
    (l19 : K.lookup f19 = some ⟨oc19, od19, .func (PySem.W.fnOf "_law_masks" "_law_masks" (defArgs sMasks) (defBody sMasks) (defScope sMasks) .none kV19 dc19 pm19 an19 cd19 ct19), sl19⟩)
    (c19 : PySem.W.codeIn K cd19 "_law_masks" = true)
    (k19 : PySem.W.keepIn K (.ref f19) = true)
    (a20 : PySem.W.nsIn K mainGlobals "_law_union" = some (some (.ref f20)))
    (l20 : K.lookup f20 = some ⟨oc20, od20, .func (PySem.W.fnOf "_law_union" "_law_union" (defArgs sUnion) (defBody sUnion) (defScope sUnion) .none kV20 dc20 pm20 an20 cd20 ct20), sl20⟩)
    (c20 : PySem.W.codeIn K cd20 "_law_union" = true)
    (k20 : PySem.W.keepIn K (.ref f20) = true)
    (a21 : PySem.W.nsIn K mainGlobals "_law_first" = some (some (.ref f21)))
    (l21 : K.lookup f21 = some ⟨oc21, od21, .func (PySem.W.fnOf "_law_first" "_law_first" (defArgs sFirst) (defBody sFirst) (defScope sFirst) .none kV21 dc21 pm21 an21 cd21 ct21), sl21⟩)
    (c21 : PySem.W.codeIn K cd21 "_law_first" = true)
    (k21 : PySem.W.keepIn K (.ref f21) = true)
    (a22 : PySem.W.nsIn K mainGlobals "_law_paper_right" = some (some (.ref f22)))
    (l22 : K.lookup f22 = some ⟨oc22, od22, .func (PySem.W.fnOf "_law_paper_right" "_law_paper_right" (defArgs sRight) (defBody sRight) (defScope sRight) .none kV22 dc22 pm22 an22 cd22 ct22), sl22⟩)
    (c22 : PySem.W.codeIn K cd22 "_law_paper_right" = true)
    (k22 : PySem.W.keepIn K (.ref f22) = true)
    (a23 : PySem.W.nsIn K mainGlobals "_law_at" = some (some (.ref f23)))
    (l23 : K.lookup f23 = some ⟨oc23, od23, .func (PySem.W.fnOf "_law_at" "_law_at" (defArgs sAt) (defBody sAt) (defScope sAt) .none kV23 dc23 pm23 an23 cd23 ct23), sl23⟩)
    (c23 : PySem.W.codeIn K cd23 "_law_at" = true)
    (k23 : PySem.W.keepIn K (.ref f23) = true)
    (a24 : PySem.W.nsIn K mainGlobals "law" = some (some (.ref f24)))
    (l24 : K.lookup f24 = some ⟨oc24, od24, .func (PySem.W.fnOf "law" "law" (defArgs sLaw) (defBody sLaw) (defScope sLaw) .none kV24 dc24 pm24 an24 cd24 ct24), sl24⟩)
    (c24 : PySem.W.codeIn K cd24 "law" = true)
    (k24 : PySem.W.keepIn K (.ref f24) = true)
    (z0 : PySem.W.nsIn K mainGlobals "isinstance" = some none)
    (z1 : PySem.W.nsIn K mainGlobals "int" = some none)
    (z2 : PySem.W.nsIn K mainGlobals "bool" = some none)
    (z3 : PySem.W.nsIn K mainGlobals "tuple" = some none)
    (z4 : PySem.W.nsIn K mainGlobals "list" = some none)
    (z5 : PySem.W.nsIn K mainGlobals "len" = some none)
    (z6 : PySem.W.nsIn K mainGlobals "all" = some none)
    (z7 : PySem.W.nsIn K mainGlobals "set" = some none)
    (z8 : PySem.W.nsIn K mainGlobals "sorted" = some none)
    (z9 : PySem.W.nsIn K mainGlobals "max" = some none)
    (z10 : PySem.W.nsIn K mainGlobals "min" = some none)
    (z11 : PySem.W.nsIn K mainGlobals "range" = some none)
    (z12 : PySem.W.nsIn K mainGlobals "enumerate" = some none)
    (z13 : PySem.W.nsIn K mainGlobals "zip" = some none)
    (m0 : PySem.W.nsIn K mainGlobals "MOST_BREAK" = some (some (.int 1000000000 t0)))
    (m1 : PySem.W.nsIn K mainGlobals "MOST_SCORE" = some (some (.int 100 t1)))
    (m2 : PySem.W.nsIn K mainGlobals "MOST_TASTINGS" = some (some (.int 10 t2)))
    (m3 : PySem.W.nsIn K mainGlobals "MOST_BREAKS" = some (some (.int 12 t3))) :
    ∃ fd : FuncData, (∀ (s : Shared) (v : Value), BindsTo s fd ⟨[v], []⟩ [("_law_script", v)]) ∧ ∀ base : Heap, K.In base → base.Ns mainGlobals mg → FnOk l.prog w K mg base CX0 14 fa fd ["_law_script"] (spLaw K) := by
  have e : f24 = fa := (Value.ref.inj (Option.some.inj (hfa.symm.trans (PySem.W.mg_of X G a24)))).symm
  subst e
  have T : Txt mg := ⟨PySem.W.mg_none_of X G z0, PySem.W.mg_none_of X G z1, PySem.W.mg_none_of X G z2, PySem.W.mg_none_of X G z3, PySem.W.mg_none_of X G z4, PySem.W.mg_none_of X G z5, PySem.W.mg_none_of X G z6, PySem.W.mg_none_of X G z7, PySem.W.mg_none_of X G z8, PySem.W.mg_none_of X G z9, PySem.W.mg_none_of X G z10, PySem.W.mg_none_of X G z11, PySem.W.mg_none_of X G z12, PySem.W.mg_none_of X G z13, ⟨t0, PySem.W.mg_of X G m0⟩, ⟨t1, PySem.W.mg_of X G m1⟩, ⟨t2, PySem.W.mg_of X G m2⟩, ⟨t3, PySem.W.mg_of X G m3⟩⟩
  have B : BiC K mg CB := ⟨PySem.W.mg_of X G aB, gaB, rdB, fiB⟩
  have F25 := fun_mk (st := sInitR) liR ciR kiR
  have ER : Er K mg "NoRule" "NoRule.__init__" "what" sInitR CR f25 _ := ⟨PySem.W.mg_of X G aR, ⟨⟨nmR, qR, NR, bsR, _, snR, subR, abR, colR, ddR, k0R, k1R, k2R, k3R, k5R, xR, by rfl⟩, saR, ecR, tyR, kcR⟩, noR, aiR, tiR, F25, F25.binds (ps := ["self", "what"]) fun _ _ _ _ _ _ us hl => match us, hl with | [_, _], _ => rfl⟩
  have XR : XfC K CR := ⟨gaR, ggR, ecR, hdR⟩
  have F26 := fun_mk (st := sInitP) liP ciP kiP
  have EP : Er K mg "NoPaper" "NoPaper.__init__" "at" sInitP CP f26 _ := ⟨PySem.W.mg_of X G aP, ⟨⟨nmP, qP, NP, bsP, _, snP, subP, abP, colP, ddP, k0P, k1P, k2P, k3P, k5P, xP, by rfl⟩, saP, ecP, tyP, kcP⟩, noP, aiP, tiP, F26, F26.binds (ps := ["self", "at"]) fun _ _ _ _ _ _ us hl => match us, hl with | [_, _], _ => rfl⟩
  have XP : XfC K CP := ⟨gaP, ggP, ecP, hdP⟩
  have F1 := fun_mk (st := sWhole) l1 c1 k1
  have D1 : Dn K mg "is_whole" sWhole ["thing"] f1 _ := ⟨F1, PySem.W.mg_of X G a1, F1.binds (ps := ["thing"]) fun _ _ _ _ _ _ us hl => match us, hl with | [_], _ => rfl⟩
  have F2 := fun_mk (st := sFrom) l2 c2 k2
  have D2 : Dn K mg "is_from" sFrom ["thing", "low", "high"] f2 _ := ⟨F2, PySem.W.mg_of X G a2, F2.binds (ps := ["thing", "low", "high"]) fun _ _ _ _ _ _ us hl => match us, hl with | [_, _, _], _ => rfl⟩
  have F3 := fun_mk (st := sBreak) l3 c3 k3
  have D3 : Dn K mg "is_break" sBreak ["thing"] f3 _ := ⟨F3, PySem.W.mg_of X G a3, F3.binds (ps := ["thing"]) fun _ _ _ _ _ _ us hl => match us, hl with | [_], _ => rfl⟩
  have F4 := fun_mk (st := sFinding) l4 c4 k4
  have D4 : Dn K mg "is_finding" sFinding ["thing"] f4 _ := ⟨F4, PySem.W.mg_of X G a4, F4.binds (ps := ["thing"]) fun _ _ _ _ _ _ us hl => match us, hl with | [_], _ => rfl⟩
  have F5 := fun_mk (st := sTasting) l5 c5 k5
  have D5 : Dn K mg "is_tasting" sTasting ["thing"] f5 _ := ⟨F5, PySem.W.mg_of X G a5, F5.binds (ps := ["thing"]) fun _ _ _ _ _ _ us hl => match us, hl with | [_], _ => rfl⟩
  have F6 := fun_mk (st := sBreaks) l6 c6 k6
  have D6 : Dn K mg "breaks_in" sBreaks ["tastings"] f6 _ := ⟨F6, PySem.W.mg_of X G a6, F6.binds (ps := ["tastings"]) fun _ _ _ _ _ _ us hl => match us, hl with | [_], _ => rfl⟩
  have F7 := fun_mk (st := sWant) l7 c7 k7
  have D7 : Dn K mg "want_tastings" sWant ["tastings"] f7 _ := ⟨F7, PySem.W.mg_of X G a7, F7.binds (ps := ["tastings"]) fun _ _ _ _ _ _ us hl => match us, hl with | [_], _ => rfl⟩
  have F8 := fun_mk (st := sBounds) l8 c8 k8
  have D8 : Dn K mg "bounds_by" sBounds ["tastings"] f8 _ := ⟨F8, PySem.W.mg_of X G a8, F8.binds (ps := ["tastings"]) fun _ _ _ _ _ _ us hl => match us, hl with | [_], _ => rfl⟩
  have F9 := fun_mk (st := sPairs) l9 c9 k9
  have D9 : Dn K mg "pairs_of" sPairs ["tastings", "chosen"] f9 _ := ⟨F9, PySem.W.mg_of X G a9, F9.binds (ps := ["tastings", "chosen"]) fun _ _ _ _ _ _ us hl => match us, hl with | [_, _], _ => rfl⟩
  have F10 := fun_mk (st := sChoices) l10 c10 k10
  have D10 : Dn K mg "choices" sChoices ["first", "many", "left"] f10 _ := ⟨F10, PySem.W.mg_of X G a10, F10.binds (ps := ["first", "many", "left"]) fun _ _ _ _ _ _ us hl => match us, hl with | [_, _, _], _ => rfl⟩
  have F11 := fun_mk (st := sLacking) l11 c11 k11
  have D11 : Dn K mg "lacking" sLacking ["tastings", "chosen", "pairs"] f11 _ := ⟨F11, PySem.W.mg_of X G a11, F11.binds (ps := ["tastings", "chosen", "pairs"]) fun _ _ _ _ _ _ us hl => match us, hl with | [_, _, _], _ => rfl⟩
  have F12 := fun_mk (st := sFewest) l12 c12 k12
  have D12 : Dn K mg "fewest" sFewest ["tastings"] f12 _ := ⟨F12, PySem.W.mg_of X G a12, F12.binds (ps := ["tastings"]) fun _ _ _ _ _ _ us hl => match us, hl with | [_], _ => rfl⟩
  have F13 := fun_mk (st := sIsLack) l13 c13 k13
  have D13 : Dn K mg "is_lacking" sIsLack ["tastings", "chosen", "pairs", "thing"] f13 _ := ⟨F13, PySem.W.mg_of X G a13, F13.binds (ps := ["tastings", "chosen", "pairs", "thing"]) fun _ _ _ _ _ _ us hl => match us, hl with | [_, _, _, _], _ => rfl⟩
  have F14 := fun_mk (st := sCheck) l14 c14 k14
  have D14 : Dn K mg "check_paper" sCheck ["tastings", "many", "paper"] f14 _ := ⟨F14, PySem.W.mg_of X G a14, F14.binds (ps := ["tastings", "many", "paper"]) fun _ _ _ _ _ _ us hl => match us, hl with | [_, _, _], _ => rfl⟩
  have F15 := fun_mk (st := sMixed) l15 c15 k15
  have D15 : Dn K mg "_law_mixed" sMixed ["_law_cell", "_law_k"] f15 _ := ⟨F15, PySem.W.mg_of X G a15, F15.binds (ps := ["_law_cell", "_law_k"]) fun _ _ _ _ _ _ us hl => match us, hl with | [_, _], _ => rfl⟩
  have F16 := fun_mk (st := sSource) l16 c16 k16
  have D16 : Dn K mg "_law_source" sSource ["_law_cell"] f16 _ := ⟨F16, PySem.W.mg_of X G a16, F16.binds (ps := ["_law_cell"]) fun _ _ _ _ _ _ us hl => match us, hl with | [_], _ => rfl⟩
  have F17 := fun_mk (st := sNext) l17 c17 k17
  have D17 : Dn K mg "_law_next" sNext ["_law_source_here", "_law_many"] f17 _ := ⟨F17, PySem.W.mg_of X G a17, F17.binds (ps := ["_law_source_here", "_law_many"]) fun _ _ _ _ _ _ us hl => match us, hl with | [_, _], _ => rfl⟩
  have F18 := fun_mk (st := sLch) l18 c18 k18
  have D18 : Dn K mg "_law_choices" sLch ["_law_many", "_law_size"] f18 _ := ⟨F18, PySem.W.mg_of X G a18, F18.binds (ps := ["_law_many", "_law_size"]) fun _ _ _ _ _ _ us hl => match us, hl with | [_, _], _ => rfl⟩
  have F19 := fun_mk (st := sMasks) l19 c19 k19
  have D19 : Dn K mg "_law_masks" sMasks ["_law_source_here", "_law_script"] f19 _ := ⟨F19, PySem.W.mg_of X G a19, F19.binds (ps := ["_law_source_here", "_law_script"]) fun _ _ _ _ _ _ us hl => match us, hl with | [_, _], _ => rfl⟩
  have F20 := fun_mk (st := sUnion) l20 c20 k20
  have D20 : Dn K mg "_law_union" sUnion ["_law_masks_here", "_law_chosen"] f20 _ := ⟨F20, PySem.W.mg_of X G a20, F20.binds (ps := ["_law_masks_here", "_law_chosen"]) fun _ _ _ _ _ _ us hl => match us, hl with | [_, _], _ => rfl⟩
  have F21 := fun_mk (st := sFirst) l21 c21 k21
  have D21 : Dn K mg "_law_first" sFirst ["_law_masks_here"] f21 _ := ⟨F21, PySem.W.mg_of X G a21, F21.binds (ps := ["_law_masks_here"]) fun _ _ _ _ _ _ us hl => match us, hl with | [_], _ => rfl⟩
  have F22 := fun_mk (st := sRight) l22 c22 k22
  have D22 : Dn K mg "_law_paper_right" sRight ["_law_masks_here", "_law_start", "_law_chosen", "_law_paper"] f22 _ := ⟨F22, PySem.W.mg_of X G a22, F22.binds (ps := ["_law_masks_here", "_law_start", "_law_chosen", "_law_paper"]) fun _ _ _ _ _ _ us hl => match us, hl with | [_, _, _, _], _ => rfl⟩
  have F23 := fun_mk (st := sAt) l23 c23 k23
  have D23 : Dn K mg "_law_at" sAt ["_law_tastings", "_law_many", "_law_paper"] f23 _ := ⟨F23, PySem.W.mg_of X G a23, F23.binds (ps := ["_law_tastings", "_law_many", "_law_paper"]) fun _ _ _ _ _ _ us hl => match us, hl with | [_, _, _], _ => rfl⟩
  have F24 := fun_mk (st := sLaw) l24 c24 k24
  have D24 : Dn K mg "law" sLaw ["_law_script"] f24 _ := ⟨F24, PySem.W.mg_of X G a24, F24.binds (ps := ["_law_script"]) fun _ _ _ _ _ _ us hl => match us, hl with | [_], _ => rfl⟩
  refine ⟨PySem.W.fnOf "law" "law" (defArgs sLaw) (defBody sLaw) (defScope sLaw) .none kV24 dc24 pm24 an24 cd24 ct24, fun s v => .of_eq rfl, fun base _ _ => ?_⟩
  ·
    have G1 : FnOk l.prog w K mg base CX0 1 f1 _ ["thing"] spWhole := ok_whole T D1
    have G2 : FnOk l.prog w K mg base CX0 2 f2 _ ["thing", "low", "high"] spFrom := ok_from D2 D1 G1
    have G3 : FnOk l.prog w K mg base CX0 3 f3 _ ["thing"] spBreak := ok_break T D3 D2 G2
    have G4 : FnOk l.prog w K mg base CX0 4 f4 _ ["thing"] (spFinding K) := ok_finding T D4 D2 G2 D3 G3
    have G5 : FnOk l.prog w K mg base CX0 5 f5 _ ["thing"] (spTasting K) := ok_tasting T D5 D4 G4
    have G6 : FnOk l.prog w K mg base CX0 1 f6 _ ["tastings"] (spBreaks K) := ok_breaks T D6
    have G7 : FnOk l.prog w K mg base CX0 6 f7 _ ["tastings"] (spWant K) := ok_want T D7 D5 G5 D6 G6
    have G8 : FnOk l.prog w K mg base CX0 1 f8 _ ["tastings"] (spBounds K) := ok_bounds T D8
    have G9 : FnOk l.prog w K mg base CX0 2 f9 _ ["tastings", "chosen"] (spPairs K) := ok_pairs T D9 D8 G8
    have G10 : FnOk l.prog w K mg base CX0 11 f10 _ ["first", "many", "left"] (spCh K 10) := ok_choices T D10 10
    have G11 : FnOk l.prog w K mg base CX0 3 f11 _ ["tastings", "chosen", "pairs"] (spLack K) := ok_lacking D11 D9 G9
    have G12 : FnOk l.prog w K mg base CX0 12 f12 _ ["tastings"] (spFewest K) := ok_fewest T D12 D7 G7 D9 G9 D10 G10 D11 G11
    have G13 : FnOk l.prog w K mg base CX0 4 f13 _ ["tastings", "chosen", "pairs", "thing"] (spIsL K) := ok_islack T D13 D9 G9 D3 G3
    have G14 : FnOk l.prog w K mg base (L2.CX l.prog w) 12 f14 _ ["tastings", "many", "paper"] (spCheck K CR CP) := ok_check T D14 B ER EP D7 G7 D9 G9 D10 G10 D13 G13 D2 G2
    have G15 : FnOk l.prog w K mg base CX0 1 f15 _ ["_law_cell", "_law_k"] spMixed := ok_mixed D15
    have G16 : FnOk l.prog w K mg base CX0 1 f16 _ ["_law_cell"] spSource := ok_source D16
    have G17 : FnOk l.prog w K mg base CX0 2 f17 _ ["_law_source_here", "_law_many"] spNext := ok_next D17 D15 G15
    have G18 : FnOk l.prog w K mg base CX0 1 f18 _ ["_law_many", "_law_size"] (spLch K) := ok_lch T D18
    have G19 : FnOk l.prog w K mg base CX0 3 f19 _ ["_law_source_here", "_law_script"] (spMasks K) := ok_masks T D19 D16 G16 D17 G17
    have G20 : FnOk l.prog w K mg base CX0 1 f20 _ ["_law_masks_here", "_law_chosen"] (spUnion K) := ok_union T D20
    have G21 : FnOk l.prog w K mg base CX0 2 f21 _ ["_law_masks_here"] (spFirst K) := ok_first T D21 D20 G20 D18 G18
    have G22 : FnOk l.prog w K mg base CX0 2 f22 _ ["_law_masks_here", "_law_start", "_law_chosen", "_law_paper"] (spRight K) := ok_right T D22 D20 G20 D18 G18
    have G23 : FnOk l.prog w K mg base CX0 13 f23 _ ["_law_tastings", "_law_many", "_law_paper"] (spAt K) := ok_at D23 ER EP (PySem.W.mg_of X G aT) XR XP (exm_cls ecP iP tyP ePP) (exm_cls ecP iP tyP eRP) (exm_cls ecR iR tyR eRR) D14 G14
    exact ok_law T D24 D16 G16 D17 G17 D19 G19 D21 G21 D12 G12 D22 G22 D23 G23
theorem walk {l : PySem.W.OpenLaw} {q : Program} {loose : List Str} {XP : (Str → Option Value) → Heap → Prop} {YP : World → Heap → Prop} {d : DefRec} {K : Params → PySem.W.Frag} (hn : l.most = some 63) (hdf : d.params.defaults = [])
    (hY : ∀ (w : World) (h : Heap), YP w h → (K w.params).In h)
    (F : ∀ (w : World) (mg : Str → Option Value) (fa : Addr) (h : Heap), (K w.params).In h → h.Ns mainGlobals mg → mg d.name = some (.ref fa) →
      ∃ fd : FuncData, (∀ (s : Shared) (u : Value), BindsTo s fd ⟨[u], []⟩ [("_law_script", u)]) ∧ ∀ base : Heap, (K w.params).In base → base.Ns mainGlobals mg → FnOk l.prog w (K w.params) mg base CX0 14 fa fd ["_law_script"] (spLaw (K w.params))) :
    PySem.W.WalkO q loose XP YP l.row.toRowW d [] (fun f vs => PySem.call f vs) :=
  L2.walk_of (n := 63) (k := 14) (x := "_law_script") (CX := fun _ => CX0) (sp := fun w => spLaw (K w.params)) hn (by decide) hdf ⟨rfl, by decide, by decide⟩ hY F (fun _ _ a ns hl _ hS => ⟨a, ns, rfl, hS, hl, fun _ => rfl⟩) fun _ _ _ _ _ z => z
end Brk
open PySem PySem.W PyProof.Rows in
set_option maxRecDepth 100000 in
set_option maxHeartbeats 0 in
theorem PySem.Challenge.cw_chestbreaks_k65_whole_ten_tastings_holds : PySem.Challenge.rw_chestbreaks_k65_whole_ten_tastings.Holds := by
  w_on; o_law; k_head; (case hw => w_witness2)
  k_fill
  refine Brk.walk (l := PySem.Challenge.rw_chestbreaks_k65_whole_ten_tastings) rfl rfl (fun w h Y => PySem.W.kIn_of Y) ?F
  case F =>
    intro w mg fa h KX G hmg
    refine' Brk.all_mk KX G hmg ?aB ?aR ?aP ?aT ?gaB ?rdB ?fiB ?xR ?saR ?gaR ?ggR ?noR ?ecR ?tyR ?kcR ?hdR ?aiR ?tiR ?liR ?ciR ?kiR ?xP ?saP ?gaP ?ggP ?noP ?ecP ?tyP ?kcP ?hdP ?aiP ?tiP ?liP ?ciP ?kiP ?iP ?iR ?ePP ?eRP ?eRR ?a1 ?l1 ?c1 ?k1 ?a2 ?l2 ?c2 ?k2 ?a3 ?l3 ?c3 ?k3 ?a4 ?l4 ?c4 ?k4 ?a5 ?l5 ?c5 ?k5 ?a6 ?l6 ?c6 ?k6 ?a7 ?l7 ?c7 ?k7 ?a8 ?l8 ?c8 ?k8 ?a9 ?l9 ?c9 ?k9 ?a10 ?l10 ?c10 ?k10 ?a11 ?l11 ?c11 ?k11 ?a12 ?l12 ?c12 ?k12 ?a13 ?l13 ?c13 ?k13 ?a14 ?l14 ?c14 ?k14 ?a15 ?l15 ?c15 ?k15 ?a16 ?l16 ?c16 ?k16 ?a17 ?l17 ?c17 ?k17 ?a18 ?l18 ?c18 ?k18 ?a19 ?l19 ?c19 ?k19 ?a20 ?l20 ?c20 ?k20 ?a21 ?l21 ?c21 ?k21 ?a22 ?l22 ?c22 ?k22 ?a23 ?l23 ?c23 ?k23 ?a24 ?l24 ?c24 ?k24 ?z0 ?z1 ?z2 ?z3 ?z4 ?z5 ?z6 ?z7 ?z8 ?z9 ?z10 ?z11 ?z12 ?z13 ?m0 ?m1 ?m2 ?m3
    (case aB => k_is)
    (case aR => k_is)
    (case aP => k_is)
    (case aT => k_is)
    (case gaB => k_is)
    (case rdB => k_is)
    (case fiB => k_is)
    (case xR => k_is)
    (case saR => k_is)
    (case gaR => k_is)
    (case ggR => k_is)
    (case noR => k_is)
    (case ecR => k_is)
    (case tyR => k_is)
    (case kcR => k_is)
    (case hdR => k_is)
    (case aiR => k_is)
    (case tiR => k_is)
    (case liR => k_is)
    (case ciR => k_is)
    (case kiR => k_is)
    (case xP => k_is)
    (case saP => k_is)
    (case gaP => k_is)
    (case ggP => k_is)
    (case noP => k_is)
    (case ecP => k_is)
    (case tyP => k_is)
    (case kcP => k_is)
    (case hdP => k_is)
    (case aiP => k_is)
    (case tiP => k_is)
    (case liP => k_is)
    (case ciP => k_is)
    (case kiP => k_is)
    (case iP => k_is)
    (case iR => k_is)
    (case ePP => first | rfl | k_is)
    (case eRP => first | rfl | k_is)
    (case eRR => first | rfl | k_is)
    (case a1 => k_is)
    (case l1 => k_is)
    (case c1 => k_is)
    (case k1 => k_is)
    (case a2 => k_is)
    (case l2 => k_is)
    (case c2 => k_is)
    (case k2 => k_is)
    (case a3 => k_is)
    (case l3 => k_is)
    (case c3 => k_is)
    (case k3 => k_is)
    (case a4 => k_is)
    (case l4 => k_is)
    (case c4 => k_is)
    (case k4 => k_is)
    (case a5 => k_is)
    (case l5 => k_is)
    (case c5 => k_is)
    (case k5 => k_is)
    (case a6 => k_is)
    (case l6 => k_is)
    (case c6 => k_is)
    (case k6 => k_is)
    (case a7 => k_is)
    (case l7 => k_is)
    (case c7 => k_is)
    (case k7 => k_is)
    (case a8 => k_is)
    (case l8 => k_is)
    (case c8 => k_is)
    (case k8 => k_is)
    (case a9 => k_is)
    (case l9 => k_is)
    (case c9 => k_is)
    (case k9 => k_is)
    (case a10 => k_is)
    (case l10 => k_is)
    (case c10 => k_is)
    (case k10 => k_is)
    (case a11 => k_is)
    (case l11 => k_is)
    (case c11 => k_is)
    (case k11 => k_is)
    (case a12 => k_is)
    (case l12 => k_is)
    (case c12 => k_is)
    (case k12 => k_is)
    (case a13 => k_is)
    (case l13 => k_is)
    (case c13 => k_is)
    (case k13 => k_is)
    (case a14 => k_is)
    (case l14 => k_is)
    (case c14 => k_is)
    (case k14 => k_is)
    (case a15 => k_is)
    (case l15 => k_is)
    (case c15 => k_is)
    (case k15 => k_is)
    (case a16 => k_is)
    (case l16 => k_is)
    (case c16 => k_is)
    (case k16 => k_is)
    (case a17 => k_is)
    (case l17 => k_is)
    (case c17 => k_is)
    (case k17 => k_is)
    (case a18 => k_is)
    (case l18 => k_is)
    (case c18 => k_is)
    (case k18 => k_is)
    (case a19 => k_is)
    (case l19 => k_is)
    (case c19 => k_is)
    (case k19 => k_is)
    (case a20 => k_is)
    (case l20 => k_is)
    (case c20 => k_is)
    (case k20 => k_is)
    (case a21 => k_is)
    (case l21 => k_is)
    (case c21 => k_is)
    (case k21 => k_is)
    (case a22 => k_is)
    (case l22 => k_is)
    (case c22 => k_is)
    (case k22 => k_is)
    (case a23 => k_is)
    (case l23 => k_is)
    (case c23 => k_is)
    (case k23 => k_is)
    (case a24 => k_is)
    (case l24 => k_is)
    (case c24 => k_is)
    (case k24 => k_is)
    (case z0 => k_is)
    (case z1 => k_is)
    (case z2 => k_is)
    (case z3 => k_is)
    (case z4 => k_is)
    (case z5 => k_is)
    (case z6 => k_is)
    (case z7 => k_is)
    (case z8 => k_is)
    (case z9 => k_is)
    (case z10 => k_is)
    (case z11 => k_is)
    (case z12 => k_is)
    (case z13 => k_is)
    (case m0 => k_is)
    (case m1 => k_is)
    (case m2 => k_is)
    (case m3 => k_is)
