import PyProof.Rows.All
import Wide.All
import OpenK.AllK
import Wide.FinOn
import HandS.ForMost
import HandS.Deep
import HandS.TupAny
import HandS.Conv
import HandS.SetFor
import HandS.SetKeys
import HandS.TupSets
import HandS.IsInst
import HandS.Strs
import HandS.DictTup
import HandS.Zip
import HandS.Flow
import KE.SortData
import KE.KDictKeyed
import KE.KDictDisplayH
import KE.GoesSet
import KE.Datum
import KE.DatumIndex
import PyProof.ReprRoads
import HandS.SetBool
import HandS.Zip0
import HandS.SortKw
import HandS.New0
import PySem.Challenge.RW_slotsure_k05_whole_groups_hang_together
section
set_option autoImplicit false
namespace Kf
abbrev Mv := List Nat × Int

/-! ### lists -/
theorem perm_of_sub {α : Type} [DecidableEq α] {l m : List α} (hl : l.Nodup) (hm : m.Nodup) (hs : ∀ x, x ∈ l → x ∈ m) (hn : m.length ≤ l.length) : ∀ x, x ∈ m → x ∈ l := fun x hx => by
  by_cases h : x ∈ l
  · exact h
  · have h1 : (x :: l).Nodup := List.nodup_cons.mpr ⟨h, hl⟩
    have h2 := List.Nodup.length_le_of_subset h1 (l₂ := m) (fun y hy => by
      rcases List.mem_cons.mp hy with e | e
      · rw [e]; exact hx
      · exact hs y e)
    rw [List.length_cons] at h2
    omega

theorem len_le {α : Type} {l m : List α} (hl : l.Nodup) (hs : ∀ x, x ∈ l → x ∈ m) : l.length ≤ m.length :=
  List.Nodup.length_le_of_subset hl fun y hy => hs y hy

theorem len_eq {α : Type} {l m : List α} (hl : l.Nodup) (hm : m.Nodup) (h : ∀ x, x ∈ l ↔ x ∈ m) : l.length = m.length :=
  Nat.le_antisymm (len_le hl fun x hx => (h x).mp hx) (len_le hm fun x hx => (h x).mpr hx)

theorem nodup_map {α β : Type} {f : α → β} {l : List α} (hl : l.Nodup) (hi : ∀ x, x ∈ l → ∀ y, y ∈ l → f x = f y → x = y) : (l.map f).Nodup := by
  refine List.pairwise_map.mpr (List.Pairwise.imp_of_mem (fun {x y} hx hy hne e => ?_) hl)
  exact hne (hi x hx y hy e)

theorem filter_len {α : Type} (p : α → Bool) (l : List α) : l.length = (l.filter p).length + (l.filter fun x => !p x).length := by
  have h := (List.filter_append_perm p l).length_eq
  rw [List.length_append] at h
  exact h.symm

/-- the cosets -/
theorem lagrange {α : Type} [DecidableEq α] (op : α → α → α) (H : List α) (hne : H ≠ []) (hH : H.Nodup) : ∀ (n : Nat) (X : List α), X.length ≤ n → X.Nodup → (∀ x, x ∈ X → ∀ h, h ∈ H → op x h ∈ X) →
    (∀ x, x ∈ X → ∀ h, h ∈ H → ∀ g, g ∈ H → op x h = op x g → h = g) → (∀ x, x ∈ X → ∀ y, y ∈ X → ∀ h, h ∈ H → ∀ g, g ∈ H → op x h = op y g → ∃ k, k ∈ H ∧ x = op y k) → H.length ∣ X.length
  | 0, X, hn, _, _, _, _ => by
    have e : X.length = 0 := Nat.le_zero.mp hn
    rw [e]
    exact Nat.dvd_zero _
  | n + 1, [], _, _, _, _, _ => Nat.dvd_zero _
  | n + 1, x :: X, hn, hX, hc, hi, ht => by
    have hx : x ∈ x :: X := List.mem_cons_self
    let C := H.map (op x)
    have hC : C.Nodup := nodup_map hH fun h hh g hg e => hi x hx h hh g hg e
    have e1 : ((x :: X).filter fun y => decide (y ∈ C)).length = C.length := by
      refine len_eq (List.Pairwise.filter _ hX) hC fun y => ?_
      rw [List.mem_filter]
      constructor
      · intro h
        exact of_decide_eq_true h.2
      · intro h
        refine ⟨?_, decide_eq_true h⟩
        obtain ⟨k, hk, e⟩ := List.mem_map.mp h
        rw [← e]
        exact hc x hx k hk
    have e2 := filter_len (fun y => decide (y ∈ C)) (x :: X)
    have e3 : C.length = H.length := List.length_map _
    have h0 : 0 < H.length := List.length_pos_iff.mpr hne
    have sub : ∀ y, y ∈ (x :: X).filter (fun y => !decide (y ∈ C)) → y ∈ x :: X ∧ y ∉ C := fun y hy => by
      have h := List.mem_filter.mp hy
      refine ⟨h.1, fun hm => ?_⟩
      have h2 := h.2
      rw [decide_eq_true hm] at h2
      exact absurd h2 (by decide)
    have ih := lagrange op H hne hH n ((x :: X).filter fun y => !decide (y ∈ C)) (by omega) (List.Pairwise.filter _ hX) (fun y hy h hh => by
        obtain ⟨h1, h2⟩ := sub y hy
        refine List.mem_filter.mpr ⟨hc y h1 h hh, ?_⟩
        have h3 : op y h ∉ C := fun hm => by
          obtain ⟨g, hg, e⟩ := List.mem_map.mp hm
          obtain ⟨k, hk, ek⟩ := ht y h1 x hx h hh g hg e.symm
          exact h2 (List.mem_map.mpr ⟨k, hk, ek.symm⟩)
        rw [decide_eq_false h3]
        rfl)
      (fun y hy h hh g hg e => hi y (sub y hy).1 h hh g hg e) (fun y hy z hz h hh g hg e => ht y (sub y hy).1 z (sub z hz).1 h hh g hg e)
    rw [e2, e1, e3]
    exact Nat.dvd_add (Nat.dvd_refl _) ih

/-! ### orders -/
def comp (a b : List Nat) : List Nat := b.map fun k => a.getD k 0
def back (p : List Nat) : List Nat := (List.range p.length).map fun k => p.idxOf k
def mul (a b : Mv) : Mv := (comp a.1 b.1, a.2 * b.2)
def inv (a : Mv) : Mv := (back a.1, a.2)
def one (n : Nat) : Mv := (List.range n, 1)

structure Ord {α : Type} (held : List α) (p : List Nat) : Prop where
  len : p.length = held.length
  lt : ∀ k, k ∈ p → k < held.length
  nd : p.Nodup
  keep : ∀ i k : Nat, p[i]? = some k → held[k]? = held[i]?

section
variable {α : Type} {held : List α} {p q r : List Nat}
theorem Ord.mem (h : Ord held p) {j : Nat} (hj : j < held.length) : j ∈ p := by
  refine perm_of_sub h.nd List.nodup_range (m := List.range held.length) (fun x hx => List.mem_range.mpr (h.lt x hx)) ?_ j (List.mem_range.mpr hj)
  rw [List.length_range, h.len]
  exact Nat.le_refl _
theorem Ord.get (h : Ord held p) {i : Nat} (hi : i < held.length) : ∃ k, p[i]? = some k ∧ k < held.length := by
  have hi' : i < p.length := by rw [h.len]; exact hi
  exact ⟨p[i], List.getElem?_eq_getElem hi', h.lt _ (List.getElem_mem hi')⟩
theorem getD_of {a : List Nat} {i k : Nat} (h : a[i]? = some k) : a.getD i 0 = k := by
  rw [List.getD_eq_getElem?_getD, h]
  rfl
theorem comp_len (a b : List Nat) : (comp a b).length = b.length := List.length_map _
theorem comp_get {a b : List Nat} {i k : Nat} (h : b[i]? = some k) : (comp a b)[i]? = some (a.getD k 0) := by
  unfold comp
  rw [List.getElem?_map, h]
  rfl
theorem ord_id (held : List α) : Ord held (List.range held.length) where
  len := List.length_range
  lt := fun k hk => List.mem_range.mp hk
  nd := List.nodup_range
  keep := fun i k h => by
    have h1 := List.getElem?_eq_some_iff.mp h
    obtain ⟨h2, h3⟩ := h1
    rw [List.getElem_range] at h3
    rw [h3]
theorem ord_comp (hp : Ord held p) (hq : Ord held q) : Ord held (comp p q) where
  len := by rw [comp_len, hq.len]
  lt := fun k hk => by
    obtain ⟨j, hj, e⟩ := List.mem_map.mp hk
    obtain ⟨k', h1, h2⟩ := hp.get (hq.lt j hj)
    rw [← e, getD_of h1]
    exact h2
  nd := by
    refine nodup_map hq.nd fun x hx y hy e => ?_
    obtain ⟨a, h1, _⟩ := hp.get (hq.lt x hx)
    obtain ⟨b, h2, _⟩ := hp.get (hq.lt y hy)
    rw [getD_of h1, getD_of h2] at e
    subst e
    obtain ⟨l1, e1⟩ := List.getElem?_eq_some_iff.mp h1
    obtain ⟨l2, e2⟩ := List.getElem?_eq_some_iff.mp h2
    exact (List.getElem_inj hp.nd).mp (e1.trans e2.symm)
  keep := fun i k h => by
    have hi : i < q.length := by
      have h1 := (List.getElem?_eq_some_iff.mp h).1
      rw [comp_len] at h1
      exact h1
    have hq1 := List.getElem?_eq_getElem hi
    have e1 := comp_get (a := p) hq1
    rw [h] at e1
    obtain ⟨k', h1, _⟩ := hp.get (hq.lt _ (List.getElem_mem hi))
    rw [getD_of h1] at e1
    have e2 := Option.some.inj e1
    subst e2
    rw [hp.keep _ _ h1, hq.keep _ _ hq1]
theorem comp_id_right (hp : Ord held p) : comp p (List.range held.length) = p := by
  refine List.ext_getElem? fun i => ?_
  by_cases hi : i < held.length
  · have h1 : (List.range held.length)[i]? = some i := by
      rw [List.getElem?_range hi]
    rw [comp_get h1]
    obtain ⟨k, h2, _⟩ := hp.get hi
    rw [getD_of h2, h2]
  · have h1 : (comp p (List.range held.length)).length ≤ i := by rw [comp_len, List.length_range]; omega
    rw [List.getElem?_eq_none_iff.mpr h1, List.getElem?_eq_none_iff.mpr (by rw [hp.len]; omega)]
theorem comp_id_left (hp : Ord held p) : comp (List.range held.length) p = p := by
  unfold comp
  have h : ∀ k, k ∈ p → (List.range held.length).getD k 0 = id k := fun k hk => getD_of (by rw [List.getElem?_range (hp.lt k hk)]; rfl)
  rw [List.map_congr_left h, List.map_id]
theorem comp_assoc (hq : Ord held q) (hr : Ord held r) : comp (comp p q) r = comp p (comp q r) := by
  unfold comp
  rw [List.map_map]
  refine List.map_congr_left fun k hk => ?_
  obtain ⟨j, h1, h2⟩ := hq.get (hr.lt k hk)
  show (q.map fun k => p.getD k 0).getD k 0 = p.getD (q.getD k 0) 0
  rw [getD_of h1]
  exact getD_of (comp_get h1)
theorem idx_lt (hp : Ord held p) {j : Nat} (hj : j < held.length) : p.idxOf j < held.length := by
  rw [← hp.len]
  exact List.idxOf_lt_length_iff.mpr (hp.mem hj)
theorem get_idx {j : Nat} (h : j ∈ p) : p[p.idxOf j]? = some j := by
  have h1 := List.idxOf_lt_length_iff.mpr h
  rw [List.getElem?_eq_getElem h1]
  exact congrArg some (List.getElem_idxOf h1)
theorem back_len (p : List Nat) : (back p).length = p.length := by
  unfold back
  rw [List.length_map, List.length_range]
theorem back_get {j : Nat} (hj : j < p.length) : (back p)[j]? = some (p.idxOf j) := by
  unfold back
  rw [List.getElem?_map, List.getElem?_range hj]
  rfl
theorem ord_back (hp : Ord held p) : Ord held (back p) where
  len := by rw [back_len, hp.len]
  lt := fun k hk => by
    obtain ⟨j, hj, e⟩ := List.mem_map.mp hk
    rw [← e]
    exact idx_lt hp (by rw [← hp.len]; exact List.mem_range.mp hj)
  nd := by
    refine nodup_map List.nodup_range fun x hx y hy e => ?_
    have h1 := get_idx (p := p) (hp.mem (by rw [← hp.len]; exact List.mem_range.mp hx))
    have h2 := get_idx (p := p) (hp.mem (by rw [← hp.len]; exact List.mem_range.mp hy))
    rw [show p.idxOf x = p.idxOf y from e, h2] at h1
    exact (Option.some.inj h1).symm
  keep := fun i k h => by
    have hi : i < p.length := by
      have h1 := (List.getElem?_eq_some_iff.mp h).1
      rw [back_len] at h1
      exact h1
    rw [back_get hi] at h
    have e := Option.some.inj h
    have h1 := get_idx (p := p) (hp.mem (j := i) (by rw [← hp.len]; exact hi))
    rw [e] at h1
    exact (hp.keep _ _ h1).symm
theorem comp_back (hp : Ord held p) : comp p (back p) = List.range held.length := by
  refine List.ext_getElem? fun i => ?_
  by_cases hi : i < held.length
  · rw [comp_get (back_get (by rw [hp.len]; exact hi)), getD_of (get_idx (hp.mem hi)), List.getElem?_range hi]
  · rw [List.getElem?_eq_none_iff.mpr (by rw [comp_len, back_len, hp.len]; omega), List.getElem?_eq_none_iff.mpr (by rw [List.length_range]; omega)]
theorem back_comp (hp : Ord held p) : comp (back p) p = List.range held.length := by
  -- the list itself, place by place
  refine List.ext_getElem? fun i => ?_
  by_cases hi : i < held.length
  · obtain ⟨k, h3, h4⟩ := hp.get hi
    have h5 : k < p.length := by rw [hp.len]; exact h4
    rw [comp_get h3, getD_of (back_get h5), List.getElem?_range hi]
    have h6 := get_idx (List.mem_of_getElem? h3)
    obtain ⟨l1, e1⟩ := List.getElem?_eq_some_iff.mp h3
    obtain ⟨l2, e2⟩ := List.getElem?_eq_some_iff.mp h6
    exact congrArg some ((List.getElem_inj hp.nd).mp (e2.trans e1.symm))
  · rw [List.getElem?_eq_none_iff.mpr (by rw [comp_len, hp.len]; omega), List.getElem?_eq_none_iff.mpr (by rw [List.length_range]; omega)]
theorem back_unique (hp : Ord held p) (hq : Ord held q) (h : comp p q = List.range held.length) : q = back p := by
  have h1 : comp (back p) (comp p q) = comp (back p) (List.range held.length) := by rw [h]
  rw [← comp_assoc hp hq, back_comp hp, comp_id_left hq, comp_id_right (ord_back hp)] at h1
  exact h1
theorem back_back (hp : Ord held p) : back (back p) = p := (back_unique (ord_back hp) hp (back_comp hp)).symm
theorem comp_cancel (hp : Ord held p) (hq : Ord held q) (hr : Ord held r) (h : comp p q = comp p r) : q = r := by
  have h1 : comp (back p) (comp p q) = comp (back p) (comp p r) := by rw [h]
  rw [← comp_assoc hp hq, ← comp_assoc hp hr, back_comp hp, comp_id_left hq, comp_id_left hr] at h1
  exact h1
end
end Kf
namespace Kf
/-! ### moves -/
def sg (s : Int) : Prop := s = 1 ∨ s = -1
theorem sg_mul {s t : Int} (hs : sg s) (ht : sg t) : sg (s * t) := by
  rcases hs with rfl | rfl <;> rcases ht with rfl | rfl <;> first | exact Or.inl (by decide) | exact Or.inr (by decide)
theorem sg_sq {s : Int} (hs : sg s) : s * s = 1 := by
  rcases hs with rfl | rfl <;> decide
def Gd {α : Type} (held : List α) (m : Mv) : Prop := Ord held m.1 ∧ sg m.2

section
variable {α : Type} {held : List α} {a b c : Mv}
theorem gd_one (held : List α) : Gd held (one held.length) := ⟨ord_id held, Or.inl rfl⟩
theorem gd_mul (ha : Gd held a) (hb : Gd held b) : Gd held (mul a b) := ⟨ord_comp ha.1 hb.1, sg_mul ha.2 hb.2⟩
theorem gd_inv (ha : Gd held a) : Gd held (inv a) := ⟨ord_back ha.1, ha.2⟩
theorem mul_one' (ha : Gd held a) : mul a (one held.length) = a := by
  unfold mul one
  rw [comp_id_right ha.1, Int.mul_one]
theorem one_mul' (ha : Gd held a) : mul (one held.length) a = a := by
  unfold mul one
  rw [comp_id_left ha.1, Int.one_mul]
theorem mul_assoc' (hb : Gd held b) (hc : Gd held c) : mul (mul a b) c = mul a (mul b c) := by
  unfold mul
  rw [comp_assoc hb.1 hc.1, Int.mul_assoc]
theorem mul_inv' (ha : Gd held a) : mul a (inv a) = one held.length := by
  unfold mul inv one
  rw [comp_back ha.1, sg_sq ha.2]
theorem inv_mul' (ha : Gd held a) : mul (inv a) a = one held.length := by
  unfold mul inv one
  rw [back_comp ha.1, sg_sq ha.2]
theorem inv_inv' (ha : Gd held a) : inv (inv a) = a := by
  unfold inv
  rw [back_back ha.1]
theorem mul_cancel (ha : Gd held a) (hb : Gd held b) (hc : Gd held c) (h : mul a b = mul a c) : b = c := by
  have h1 : mul (inv a) (mul a b) = mul (inv a) (mul a c) := by rw [h]
  rw [← mul_assoc' ha hb, ← mul_assoc' ha hc, inv_mul' ha, one_mul' hb, one_mul' hc] at h1
  exact h1
theorem inv_unique (ha : Gd held a) (hb : Gd held b) (h : mul a b = one held.length) : b = inv a := by
  refine mul_cancel ha hb (gd_inv ha) ?_
  rw [h, mul_inv' ha]
end

/-- what comes of moves, one after another -/
inductive Gen (n : Nat) (ms : List Mv) : Mv → Prop
  | one : Gen n ms (one n)
  | step {m s : Mv} : Gen n ms m → s ∈ ms → Gen n ms (mul m s)

section
variable {α : Type} {held : List α} {ms ns : List Mv} {a b : Mv}
theorem gen_gd (h : ∀ s, s ∈ ms → Gd held s) (g : Gen held.length ms a) : Gd held a := by
  induction g with
  | one => exact gd_one held
  | step _ hs ih => exact gd_mul ih (h _ hs)
theorem gen_mul (h : ∀ s, s ∈ ms → Gd held s) (ha : Gen held.length ms a) (hb : Gen held.length ms b) : Gen held.length ms (mul a b) := by
  induction hb with
  | one =>
    rw [mul_one' (gen_gd h ha)]
    exact ha
  | step hm hs ih =>
    rw [← mul_assoc' (gen_gd h hm) (h _ hs)]
    exact .step ih hs
theorem gen_of (h : ∀ s, s ∈ ms → Gd held s) (hs : a ∈ ms) : Gen held.length ms a := by
  have g := Gen.step (n := held.length) (ms := ms) .one hs
  rw [one_mul' (h _ hs)] at g
  exact g
theorem gen_le (h : ∀ s, s ∈ ms → Gd held s) (k : ∀ s, s ∈ ns → Gen held.length ms s) (g : Gen held.length ns a) : Gen held.length ms a := by
  induction g with
  | one => exact .one
  | step _ hs ih => exact gen_mul h ih (k _ hs)
end

/-- L holds just what comes of the moves ms, each once -/
structure Grp {α : Type} (held : List α) (ms L : List Mv) : Prop where
  gd : ∀ s, s ∈ ms → Gd held s
  nd : L.Nodup
  mem : ∀ m, m ∈ L ↔ Gen held.length ms m

section
variable {α : Type} {held : List α} {ms L : List Mv} {a b : Mv}
theorem Grp.good (G : Grp held ms L) (h : a ∈ L) : Gd held a := gen_gd G.gd ((G.mem a).mp h)
theorem Grp.one_mem (G : Grp held ms L) : one held.length ∈ L := (G.mem _).mpr .one
theorem Grp.mul_mem (G : Grp held ms L) (ha : a ∈ L) (hb : b ∈ L) : mul a b ∈ L := (G.mem _).mpr (gen_mul G.gd ((G.mem _).mp ha) ((G.mem _).mp hb))
theorem Grp.inv_mem (G : Grp held ms L) (ha : a ∈ L) : inv a ∈ L := by
  have ga := G.good ha
  have hn : (L.map (mul a)).Nodup := nodup_map G.nd fun x hx y hy e => mul_cancel ga (G.good hx) (G.good hy) e
  have h1 := perm_of_sub hn G.nd (fun x hx => by
    obtain ⟨y, hy, e⟩ := List.mem_map.mp hx
    rw [← e]
    exact G.mul_mem ha hy) (by rw [List.length_map]; exact Nat.le_refl _) _ G.one_mem
  obtain ⟨y, hy, e⟩ := List.mem_map.mp h1
  rw [← inv_unique ga (G.good hy) e]
  exact hy
theorem Grp.ne (G : Grp held ms L) : L ≠ [] := fun e => by
  have h := G.one_mem
  rw [e] at h
  cases h
/-- a smaller group's number divides -/
theorem Grp.dvd (G : Grp held ms L) {ns J : List Mv} (F : Grp held ns J) (h : ∀ m, m ∈ J → m ∈ L) : J.length ∣ L.length := by
  refine lagrange mul J F.ne F.nd L.length L (Nat.le_refl _) G.nd (fun x hx k hk => G.mul_mem hx (h k hk)) (fun x hx k hk g hg e => mul_cancel (G.good hx) (F.good hk) (F.good hg) e) fun x hx y hy k hk g hg e => ?_
  refine ⟨mul g (inv k), F.mul_mem hg (F.inv_mem hk), ?_⟩
  have gk := F.good hk
  rw [← mul_assoc' (F.good hg) (gd_inv gk), ← e, mul_assoc' gk (gd_inv gk), mul_inv' gk, mul_one' (G.good hx)]
/-- two lists of moves that come of one another -/
theorem Grp.same (G : Grp held ms L) {ns J : List Mv} (F : Grp held ns J) (h1 : ∀ s, s ∈ ns → s ∈ L) (h2 : ∀ s, s ∈ ms → s ∈ J) : ∀ m, m ∈ J ↔ m ∈ L := fun m =>
  ⟨fun h => (G.mem m).mpr (gen_le G.gd (fun s hs => (G.mem s).mp (h1 s hs)) ((F.mem m).mp h)), fun h => (F.mem m).mpr (gen_le F.gd (fun s hs => (F.mem s).mp (h2 s hs)) ((G.mem m).mp h))⟩
theorem Grp.own (G : Grp held ms L) (h : a ∈ ms) : a ∈ L := (G.mem a).mpr (gen_of G.gd h)
theorem Grp.back_same (G : Grp held ms L) {J : List Mv} (F : Grp held (ms.map inv) J) : ∀ m, m ∈ J ↔ m ∈ L := by
  refine G.same F (fun s hs => ?_) fun s hs => ?_
  · obtain ⟨t, ht, e⟩ := List.mem_map.mp hs
    rw [← e]
    exact G.inv_mem (G.own ht)
  · have h := F.inv_mem (F.own (List.mem_map.mpr ⟨s, hs, rfl⟩))
    rw [inv_inv' (G.gd s hs)] at h
    exact h
theorem Grp.more_same (G : Grp held ms L) {ns J : List Mv} (F : Grp held ns J) (h1 : ∀ s, s ∈ ns → s ∈ L) (h2 : ∀ s, s ∈ ms → s ∈ ns) : ∀ m, m ∈ J ↔ m ∈ L :=
  G.same F h1 fun s hs => F.own (h2 s hs)
theorem Grp.part (G : Grp held ms L) {ns J : List Mv} (F : Grp held ns J) (h1 : ∀ s, s ∈ ns → s ∈ L) : (∀ m, m ∈ J → m ∈ L) ∧ J.length ∣ L.length := by
  have h : ∀ m, m ∈ J → m ∈ L := fun m hm => (G.mem m).mpr (gen_le G.gd (fun s hs => (G.mem s).mp (h1 s hs)) ((F.mem m).mp hm))
  exact ⟨h, G.dvd F h⟩

/-- the orders of L are D: how many moves there are -/
theorem Grp.count (G : Grp held ms L) {D : List (List Nat)} (hD : D.Nodup) (hm : ∀ p, p ∈ D ↔ ∃ s, (p, s) ∈ L) : L.length = if (List.range held.length, (-1 : Int)) ∈ L then 2 * D.length else D.length := by
  by_cases h : (List.range held.length, (-1 : Int)) ∈ L
  · rw [if_pos h]
    have h1 : L.length = ((D.map fun p => ((p, 1) : Mv)) ++ D.map fun p => ((p, -1) : Mv)).length := by
      refine len_eq G.nd ?_ fun x => ?_
      · refine List.pairwise_append.mpr ⟨nodup_map hD fun x _ y _ e => congrArg Prod.fst e, nodup_map hD fun x _ y _ e => congrArg Prod.fst e, fun x hx y hy e => ?_⟩
        obtain ⟨p, _, e1⟩ := List.mem_map.mp hx
        obtain ⟨q, _, e2⟩ := List.mem_map.mp hy
        have e3 : (1 : Int) = -1 := congrArg Prod.snd (e1.trans (e.trans e2.symm))
        exact absurd e3 (by decide)
      · have flip : ∀ {p : List Nat} {s t : Int}, (p, s) ∈ L → sg t → (p, t) ∈ L := fun {p s t} hp ht => by
          have g := G.good hp
          have h2 := G.mul_mem hp h
          have h3 : mul (p, s) (List.range held.length, -1) = (p, s * -1) := by
            show (comp p (List.range held.length), s * -1) = _
            rw [comp_id_right g.1]
          rw [h3] at h2
          have hs : sg s := g.2
          rcases hs with rfl | rfl <;> rcases ht with rfl | rfl
          · exact hp
          · exact h2
          · exact h2
          · exact hp
        rw [List.mem_append, List.mem_map, List.mem_map]
        constructor
        · intro hx
          have g := G.good hx
          have hd : x.1 ∈ D := (hm x.1).mpr ⟨x.2, hx⟩
          have hs : sg x.2 := g.2
          rcases hs with e | e
          · exact Or.inl ⟨x.1, hd, by rw [← e]⟩
          · exact Or.inr ⟨x.1, hd, by rw [← e]⟩
        · rintro (⟨p, hp, e⟩ | ⟨p, hp, e⟩)
          · obtain ⟨s, hs⟩ := (hm p).mp hp
            rw [← e]
            exact flip hs (Or.inl rfl)
          · obtain ⟨s, hs⟩ := (hm p).mp hp
            rw [← e]
            exact flip hs (Or.inr rfl)
    rw [h1, List.length_append, List.length_map, List.length_map]
    omega
  · rw [if_neg h]
    have uniq : ∀ p s t, (p, s) ∈ L → (p, t) ∈ L → s = t := fun p s t h1 h2 => by
      have g1 := G.good h1
      have h3 := G.mul_mem h1 (G.inv_mem h2)
      have e : mul (p, s) (inv (p, t)) = (List.range held.length, s * t) := by
        show (comp p (back p), s * t) = _
        rw [comp_back g1.1]
      rw [e] at h3
      have g2 := G.good h2
      have hs : sg s := g1.2
      have ht : sg t := g2.2
      rcases hs with rfl | rfl <;> rcases ht with rfl | rfl
      · rfl
      · exact absurd h3 h
      · exact absurd h3 h
      · rfl
    have h1 : (L.map Prod.fst).length = D.length := by
      refine len_eq (nodup_map G.nd fun x hx y hy e => ?_) hD fun p => ?_
      · have h2 : (x.1, y.2) ∈ L := by rw [e]; exact hy
        exact Prod.ext e (uniq x.1 x.2 y.2 hx h2)
      · rw [hm p, List.mem_map]
        constructor
        · rintro ⟨x, hx, rfl⟩
          exact ⟨x.2, hx⟩
        · rintro ⟨s, hs⟩
          exact ⟨(p, s), hs, rfl⟩
    rw [← h1, List.length_map]

/-- .. and it divides the number of all orders X -/
theorem Grp.young (G : Grp held ms L) {D X : List (List Nat)} (hD : D.Nodup) (hm : ∀ p, p ∈ D ↔ ∃ s, (p, s) ∈ L) (hX : X.Nodup) (hx : ∀ p, p ∈ X ↔ Ord held p) : D.length ∣ X.length := by
  have dord : ∀ {p}, p ∈ D → Ord held p := fun {p} hp => let ⟨s, hs⟩ := (hm p).mp hp; (G.good hs).1
  refine lagrange comp D ?_ hD X.length X (Nat.le_refl _) hX (fun x h k hk => (hx _).mpr (ord_comp ((hx x).mp h) (dord hk))) (fun x h k hk g hg e => comp_cancel ((hx x).mp h) (dord hk) (dord hg) e) fun x h y h' k hk g hg e => ?_
  · intro e
    have h1 : List.range held.length ∈ D := (hm _).mpr ⟨1, G.one_mem⟩
    rw [e] at h1
    cases h1
  · obtain ⟨s, hs⟩ := (hm k).mp hk
    obtain ⟨t, ht⟩ := (hm g).mp hg
    refine ⟨comp g (back k), (hm _).mpr ⟨t * s, G.mul_mem ht (G.inv_mem hs)⟩, ?_⟩
    have ok := dord hk
    rw [← comp_assoc (dord hg) (ord_back ok), ← e, comp_assoc ok (ord_back ok), comp_back ok, comp_id_right ((hx x).mp h)]
end
end Kf
namespace Kf
/-! ### how many orders keep all -/
def tup (n : Nat) : Nat → List (List Nat)
  | 0 => [[]]
  | m + 1 => (List.range n).flatMap fun k => (tup n m).map fun l => k :: l
theorem mem_tup (n : Nat) : ∀ (m : Nat) (p : List Nat), p ∈ tup n m ↔ p.length = m ∧ ∀ k, k ∈ p → k < n
  | 0, p => by
    show p ∈ [[]] ↔ _
    rw [List.mem_singleton]
    constructor
    · rintro rfl
      exact ⟨rfl, fun k hk => nomatch hk⟩
    · intro h
      exact List.eq_nil_of_length_eq_zero h.1
  | m + 1, p => by
    show p ∈ (List.range n).flatMap _ ↔ _
    rw [List.mem_flatMap]
    constructor
    · rintro ⟨k, hk, hp⟩
      obtain ⟨l, hl, rfl⟩ := List.mem_map.mp hp
      obtain ⟨h1, h2⟩ := (mem_tup n m l).mp hl
      refine ⟨by rw [List.length_cons, h1], fun j hj => ?_⟩
      rcases List.mem_cons.mp hj with rfl | hj
      · exact List.mem_range.mp hk
      · exact h2 j hj
    · rintro ⟨h1, h2⟩
      match p, h1, h2 with
      | k :: l, h1, h2 =>
        refine ⟨k, List.mem_range.mpr (h2 k List.mem_cons_self), List.mem_map.mpr ⟨l, (mem_tup n m l).mpr ⟨Nat.succ.inj h1, fun j hj => h2 j (List.mem_cons_of_mem _ hj)⟩, rfl⟩⟩
def nodupB : List Nat → Bool
  | [] => true
  | k :: l => !l.contains k && nodupB l
theorem nodupB_iff : ∀ l : List Nat, nodupB l = true ↔ l.Nodup
  | [] => by simp [nodupB]
  | k :: l => by
    rw [List.nodup_cons, ← nodupB_iff l]
    simp [nodupB]
def perms (n : Nat) : List (List Nat) := (tup n n).filter nodupB
def lab (l : List Nat) (p : List Nat) : Bool := p.map (fun k => l.getD k 0) == l
def allN (l : List Nat) : Nat → Nat
  | 0 => 1
  | k + 1 => allN l k * (1 + (l.take k).count (l.getD k 0))
def nodupP : List (List Nat) → Bool
  | [] => true
  | k :: l => !l.contains k && nodupP l
set_option maxRecDepth 100000 in
theorem young_all : ((List.range 5).all fun n => let P := perms n; nodupP P && (tup n n).all fun l => decide ((P.filter (lab l)).length = allN l n)) = true := by decide +kernel
theorem nodupP_iff : ∀ l : List (List Nat), nodupP l = true ↔ l.Nodup
  | [] => by simp [nodupP]
  | k :: l => by
    rw [List.nodup_cons, ← nodupP_iff l]
    simp [nodupP]

section
variable {α : Type} [DecidableEq α]
/-- the slots, each by where one like it stands first -/
def pat (held : List α) : List Nat := held.map fun s => held.idxOf s
/-- as the law reckons it -/
def young (held : List α) : Nat → Nat
  | 0 => 1
  | k + 1 => young held k * (1 + match held[k]? with
    | some s => (held.take k).count s
    | none => 0)
theorem idx_inj {l : List α} {x y : α} (hx : x ∈ l) (hy : y ∈ l) (e : l.idxOf x = l.idxOf y) : x = y := by
  have h1 := List.getElem_idxOf (List.idxOf_lt_length_iff.mpr hx)
  have h2 := List.getElem_idxOf (List.idxOf_lt_length_iff.mpr hy)
  rw [← h1, ← h2]
  simp only [e]
theorem count_map {β : Type} [DecidableEq β] {f : α → β} {s : α} : ∀ {l : List α}, (∀ x, x ∈ l → f x = f s → x = s) → (l.map f).count (f s) = l.count s
  | [], _ => rfl
  | x :: l, h => by
    rw [List.map_cons, List.count_cons, List.count_cons, count_map fun y hy => h y (List.mem_cons_of_mem _ hy)]
    by_cases e : x = s
    · subst e
      simp
    · have e2 : f x ≠ f s := fun q => e (h x List.mem_cons_self q)
      have e3 : (f x == f s) = false := by
        rw [beq_eq_false_iff_ne]
        exact e2
      have e4 : (x == s) = false := by
        rw [beq_eq_false_iff_ne]
        exact e
      rw [e3, e4]
theorem pat_len (held : List α) : (pat held).length = held.length := List.length_map _
theorem pat_get {held : List α} {k : Nat} (h : k < held.length) : (pat held).getD k 0 = held.idxOf held[k] := by
  refine getD_of ?_
  unfold pat
  rw [List.getElem?_map, List.getElem?_eq_getElem h]
  rfl
theorem young_pat (held : List α) : ∀ k, k ≤ held.length → young held k = allN (pat held) k
  | 0, _ => rfl
  | k + 1, hk => by
    show young held k * (1 + _) = allN (pat held) k * (1 + _)
    rw [young_pat held k (Nat.le_of_succ_le hk), List.getElem?_eq_getElem (show k < held.length from hk), pat_get hk]
    have e : (pat held).take k = (held.take k).map fun s => held.idxOf s := by
      unfold pat
      rw [List.map_take]
    rw [e, count_map (f := fun s => held.idxOf s) (s := held[k]) fun x hx q => idx_inj (List.mem_of_mem_take hx) (List.getElem_mem _) q]
theorem lab_iff {held : List α} {p : List Nat} (hl : p.length = held.length) (hb : ∀ k, k ∈ p → k < held.length) : lab (pat held) p = true ↔ ∀ i k : Nat, p[i]? = some k → held[k]? = held[i]? := by
  unfold lab
  rw [beq_iff_eq]
  constructor
  · intro h i k hi
    have hk := hb k (List.mem_of_getElem? hi)
    have hi2 : i < held.length := by
      rw [← hl]
      exact (List.getElem?_eq_some_iff.mp hi).1
    have h1 : (p.map fun k => (pat held).getD k 0)[i]? = (pat held)[i]? := by rw [h]
    rw [List.getElem?_map, hi] at h1
    have h2 : some ((pat held).getD k 0) = (pat held)[i]? := h1
    rw [pat_get hk] at h2
    unfold pat at h2
    rw [List.getElem?_map, List.getElem?_eq_getElem hi2] at h2
    have h3 := Option.some.inj h2
    rw [List.getElem?_eq_getElem hk, List.getElem?_eq_getElem hi2]
    exact congrArg some (idx_inj (List.getElem_mem _) (List.getElem_mem _) h3)
  · intro h
    refine List.ext_getElem? fun i => ?_
    by_cases hi : i < p.length
    · have hi2 : i < held.length := by
        rw [← hl]
        exact hi
      have h1 := List.getElem?_eq_getElem hi
      have hk := hb _ (List.getElem_mem hi)
      have h2 := h i _ h1
      rw [List.getElem?_eq_getElem hk, List.getElem?_eq_getElem hi2] at h2
      rw [List.getElem?_map, h1]
      show some ((pat held).getD p[i] 0) = _
      rw [pat_get hk]
      unfold pat
      rw [List.getElem?_map, List.getElem?_eq_getElem hi2, Option.some.inj h2]
      rfl
    · rw [List.getElem?_eq_none_iff.mpr (by rw [List.length_map]; omega), List.getElem?_eq_none_iff.mpr (by rw [pat_len]; omega)]
/-- all orders of at most four slots: as many as young tells -/
theorem young_orders (held : List α) (h4 : held.length ≤ 4) : ∃ X : List (List Nat), X.Nodup ∧ (∀ p, p ∈ X ↔ Ord held p) ∧ X.length = young held held.length := by
  have h := young_all
  rw [List.all_eq_true] at h
  have h1 := h held.length (List.mem_range.mpr (by omega))
  rw [Bool.and_eq_true, List.all_eq_true] at h1
  have hp : pat held ∈ tup held.length held.length := (mem_tup _ _ _).mpr ⟨pat_len held, fun k hk => by
    obtain ⟨s, hs, e⟩ := List.mem_map.mp hk
    rw [← e]
    exact List.idxOf_lt_length_iff.mpr hs⟩
  have h2 := of_decide_eq_true (h1.2 _ hp)
  refine ⟨(perms held.length).filter (lab (pat held)), List.Pairwise.filter _ ((nodupP_iff _).mp h1.1), fun p => ?_, ?_⟩
  · unfold perms
    rw [List.mem_filter, List.mem_filter, mem_tup]
    constructor
    · rintro ⟨⟨⟨a1, a2⟩, a3⟩, a4⟩
      exact ⟨a1, a2, (nodupB_iff p).mp a3, (lab_iff a1 a2).mp a4⟩
    · rintro ⟨a1, a2, a3, a4⟩
      exact ⟨⟨⟨a1, a2⟩, (nodupB_iff p).mpr a3⟩, (lab_iff a1 a2).mpr a4⟩
  · rw [young_pat held _ (Nat.le_refl _)]
    exact h2
theorem young_le (held : List α) (h4 : held.length ≤ 4) (X : List (List Nat)) (hX : X.Nodup) (h : ∀ p, p ∈ X → Ord held p) : X.length ≤ 24 := by
  have h1 : X.length ≤ (perms held.length).length := len_le hX fun p hp => by
    have o := h p hp
    unfold perms
    rw [List.mem_filter, mem_tup]
    exact ⟨⟨o.len, o.lt⟩, (nodupB_iff p).mpr o.nd⟩
  have h2 : ((List.range 5).all fun n => decide ((perms n).length ≤ 24)) = true := by decide +kernel
  rw [List.all_eq_true] at h2
  exact Nat.le_trans h1 (of_decide_eq_true (h2 held.length (List.mem_range.mpr (by omega))))
/-- moves: 48 at most -/
theorem moves_le {held : List α} (h4 : held.length ≤ 4) {L : List Mv} (nd : L.Nodup) (h : ∀ m, m ∈ L → Gd held m) : L.length ≤ 48 := by
  obtain ⟨X, h1, h2, _⟩ := young_orders held h4
  have h3 := young_le held h4 X h1 fun p hp => (h2 p).mp hp
  have h5 : L.length ≤ ((X.map fun p => ((p, 1) : Mv)) ++ X.map fun p => ((p, -1) : Mv)).length := len_le nd fun m hm => by
    have g := h m hm
    have hx := (h2 m.1).mpr g.1
    have hs : sg m.2 := g.2
    rw [List.mem_append, List.mem_map, List.mem_map]
    rcases hs with e | e
    · exact Or.inl ⟨m.1, hx, by rw [← e]⟩
    · exact Or.inr ⟨m.1, hx, by rw [← e]⟩
  rw [List.length_append, List.length_map, List.length_map] at h5
  omega
end
end Kf
end

section
set_option Elab.async false
set_option linter.all false
set_option maxRecDepth 100000
namespace Kf
open PySem L2

/-! ### heaps: what stays but for some places -/
/-- the heap without what stands at L -/
def Fz (L : List Addr) (H : Hp) : Hp := fun a => if a ∈ L then Option.none else H a
/-- all that is tracked stays tracked, and stays as it is but at L -/
def Up (L : List Addr) (H H' : Hp) : Prop := ∀ a o, H a = some o → H' a ≠ Option.none ∧ (a ∉ L → H' a = some o)
/-- all of L is tracked -/
def Tr (L : List Addr) (H : Hp) : Prop := ∀ a, a ∈ L → H a ≠ Option.none
section
variable {L L' : List Addr} {H H1 H2 : Hp} {p : Addr} {o : HO}
theorem some_ne {α : Type} {x : Option α} {y : α} (h : x = some y) : x ≠ Option.none := by
  rw [h]
  exact fun z => nomatch z
theorem Up.refl : Up L H H := fun _ _ h => ⟨some_ne h, fun _ => h⟩
theorem Up.trans (a : Up L H H1) (b : Up L H1 H2) : Up L H H2 := fun x o e => by
  obtain ⟨h1, h2⟩ := a x o e
  cases q : H1 x with
  | none => exact absurd q h1
  | some u =>
    refine ⟨(b x u q).1, fun hx => ?_⟩
    exact (b x o (h2 hx)).2 hx
theorem Up.mono (a : Up L H H1) (h : ∀ x, x ∈ L → x ∈ L') : Up L' H H1 := fun x o e => ⟨(a x o e).1, fun hx => (a x o e).2 fun z => hx (h x z)⟩
theorem Up.new (h : H p = Option.none) : Up L H (upd H p o) := fun a u e => by
  rw [upd_ne (ne_of_none e h)]
  exact ⟨some_ne e, fun _ => e⟩
theorem Up.put (h : p ∈ L) : Up L H (upd H p o) := fun a u e => by
  by_cases q : a = p
  · subst q
    rw [upd_same]
    exact ⟨fun z => (nomatch z), fun z => absurd h z⟩
  · rw [upd_ne q]
    exact ⟨some_ne e, fun _ => e⟩
theorem Up.all (a : Up [] H H1) : Up L H H1 := a.mono fun _ z => nomatch z
theorem Up.at (a : Up [] H H1) (h : H p = some o) : H1 p = some o := (a p o h).2 fun z => nomatch z
theorem Up.keep (a : Up L H H1) (hp : p ∉ L) (h : H p = some o) : H1 p = some o := (a p o h).2 hp
theorem Up.free (a : Up L H H1) (h : H1 p = Option.none) : H p = Option.none := by
  cases e : H p with
  | none => rfl
  | some u => exact absurd h (a p u e).1
theorem Tr.up (t : Tr L H) (a : Up L' H H1) : Tr L H1 := fun x hx e => t x hx (a.free e)
theorem Tr.nil : Tr [] H := fun _ z => nomatch z
theorem Tr.out (t : Tr L H) (h : H p = Option.none) : p ∉ L := fun z => t p z h
theorem Tr.cons (t : Tr L H) (h : H p = some o) : Tr (p :: L) H := fun x hx => by
  rcases List.mem_cons.mp hx with e | e
  · rw [e, h]
    exact fun z => nomatch z
  · exact t x e
theorem Tr.sub (t : Tr L H) (h : ∀ x, x ∈ L' → x ∈ L) : Tr L' H := fun x hx => t x (h x hx)
theorem fz_out (h : p ∉ L) : Fz L H p = H p := if_neg h
theorem fz_in (h : p ∈ L) : Fz L H p = Option.none := if_pos h
theorem fz_some {a : Addr} (h : Fz L H a = some o) : a ∉ L ∧ H a = some o := by
  by_cases hx : a ∈ L
  · rw [fz_in hx] at h
    cases h
  · rw [fz_out hx] at h
    exact ⟨hx, h⟩
theorem fz_put (h : p ∈ L) : Fz L (upd H p o) = Fz L H := by
  funext a
  unfold Fz
  by_cases ha : a ∈ L
  · rw [if_pos ha, if_pos ha]
  · rw [if_neg ha, if_neg ha, upd_ne (fun z => ha (by rw [z]; exact h))]
theorem fz_new (h : p ∉ L) : Fz L (upd H p o) = upd (Fz L H) p o := by
  funext a
  by_cases e : a = p
  · subst e
    rw [fz_out h, upd_same, upd_same]
  · rw [upd_ne e]
    by_cases ha : a ∈ L
    · rw [fz_in ha, fz_in ha]
    · rw [fz_out ha, fz_out ha, upd_ne e]
theorem fz_nil : Fz [] H = H := by
  funext a
  exact if_neg (fun z => nomatch z)
theorem up_of (h : ∀ a o, H a = some o → H1 a = some o) : Up [] H H1 := fun a o e => ⟨some_ne (h a o e), fun _ => h a o e⟩
theorem Up.fz (a : Up L H H1) : Up [] (Fz L H) (Fz L H1) := up_of fun x o e => by
  obtain ⟨hx, e⟩ := fz_some e
  rw [fz_out hx]
  exact a.keep hx e
theorem fz_le : Up [] (Fz L H) H := up_of fun x o e => (fz_some e).2
theorem fz_sub (h : ∀ x, x ∈ L → x ∈ L') : Up [] (Fz L' H) (Fz L H) := up_of fun x o e => by
  obtain ⟨hx, e⟩ := fz_some e
  rw [fz_out fun z => hx (h x z)]
  exact e
/-- what stays of what may not change: L' may have new places besides -/
theorem Up.gw (a : Up L H H1) (h : ∀ x, x ∈ L' → x ∈ L ∨ H x = Option.none) : Up [] (Fz L H) (Fz L' H1) := up_of fun x o e => by
  obtain ⟨hx, e⟩ := fz_some e
  rw [fz_out fun z => (h x z).elim hx fun q => some_ne e q]
  exact a.keep hx e
theorem Up.drop (a : Up (p :: L) H H1) (h : H p = Option.none) : Up L H H1 := fun x o e => ⟨(a x o e).1, fun hx => (a x o e).2 fun z => by
  rcases List.mem_cons.mp z with q | q
  · rw [q, h] at e
    cases e
  · exact hx q⟩
end

/-! ### data -/
section
variable {K : PySem.W.Frag} {H H' : Hp}
theorem rd_up (e : Up [] H H') {a : Addr} {u : HO} (h : Rd H a u) : Rd H' a u := by
  rcases h with h | ⟨o, h⟩
  · exact .inl (e.at h)
  · exact .inr ⟨o, e.at h⟩
theorem sql_up (e : Up [] H H') {a : Addr} {xs : List V} (h : SqL K H a xs) : SqL K H' a xs := by
  rcases h with h | h
  · exact .inl (rd_up e h)
  · exact .inr h
theorem sqt_up (e : Up [] H H') {a : Addr} {xs : List V} (h : SqT K H a xs) : SqT K H' a xs := by
  rcases h with h | h
  · exact .inl (rd_up e h)
  · exact .inr h
theorem sqt_of {a : Addr} {xs : List V} (h : H a = some (.tup xs)) : SqT K H a xs := .inl (.inl h)
theorem sql_of {a : Addr} {xs : List V} (h : H a = some (.lst xs)) : SqL K H a xs := .inl (.inl h)
mutual
theorem dp_up (e : Up [] H H') : ∀ {d : PyData} {v : V}, Dp K H v d → Dp K H' v d
  | _, _, .non => .non
  | _, _, .bl b => .bl b
  | _, _, .int i => .int i
  | _, _, .str x => .str x
  | _, _, .lst h a => .lst (sql_up e h) (dpa_up e a)
  | _, _, .tup h a => .tup (sqt_up e h) (dpa_up e a)
theorem dpa_up (e : Up [] H H') : ∀ {ds : List PyData} {vs : List V}, DpAll K H vs ds → DpAll K H' vs ds
  | _, _, .nil => .nil
  | _, _, .cons h t => .cons (dp_up e h) (dpa_up e t)
end
theorem dp_tuple {v : V} {ds : List PyData} (h : Dp K H v (.tuple ds)) : ∃ a xs, v = .ref a ∧ SqT K H a xs ∧ DpAll K H xs ds := by
  cases h with
  | tup h a => exact ⟨_, _, rfl, h, a⟩
theorem dp_int {v : V} {i : Int} (h : Dp K H v (.int i)) : v = .int i := by
  cases h
  rfl
theorem dp_str {v : V} {x : Str} (h : Dp K H v (.str x)) : v = .str x := by
  cases h
  rfl
theorem dpa_len : ∀ {vs : List V} {ds : List PyData}, DpAll K H vs ds → vs.length = ds.length
  | _, _, .nil => rfl
  | _, _, .cons _ t => by rw [List.length_cons, List.length_cons, dpa_len t]
theorem dpa_get : ∀ {vs : List V} {ds : List PyData} {i : Nat} {v : V}, DpAll K H vs ds → vs[i]? = some v → ∃ d, ds[i]? = some d ∧ Dp K H v d
  | _, _, _, _, .nil, e => by simp at e
  | _, _, 0, _, .cons h _, e => ⟨_, rfl, by rw [← Option.some.inj e]; exact h⟩
  | _, _, i + 1, v, .cons _ t, e => by
    obtain ⟨d, h1, h2⟩ := dpa_get (i := i) (v := v) t (by simpa using e)
    exact ⟨d, by simpa using h1, h2⟩
theorem dpa_get' : ∀ {vs : List V} {ds : List PyData} {i : Nat} {d : PyData}, DpAll K H vs ds → ds[i]? = some d → ∃ v, vs[i]? = some v ∧ Dp K H v d
  | _, _, _, _, .nil, e => by simp at e
  | _, _, 0, _, .cons h _, e => ⟨_, rfl, by rw [← Option.some.inj e]; exact h⟩
  | _, _, i + 1, v, .cons _ t, e => by
    obtain ⟨d, h1, h2⟩ := dpa_get' (i := i) (d := v) t (by simpa using e)
    exact ⟨d, by simpa using h1, h2⟩
theorem dpa_app : ∀ {vs ws : List V} {ds es : List PyData}, DpAll K H vs ds → DpAll K H ws es → DpAll K H (vs ++ ws) (ds ++ es)
  | _, _, _, _, .nil, b => b
  | _, _, _, _, .cons h t, b => .cons h (dpa_app t b)
theorem dpa_take : ∀ {vs : List V} {ds : List PyData} (n : Nat), DpAll K H vs ds → DpAll K H (vs.take n) (ds.take n)
  | _, _, 0, _ => .nil
  | _, _, _ + 1, .nil => .nil
  | _, _, n + 1, .cons h t => .cons h (dpa_take n t)
theorem dpa_drop : ∀ {vs : List V} {ds : List PyData} (n : Nat), DpAll K H vs ds → DpAll K H (vs.drop n) (ds.drop n)
  | _, _, 0, h => h
  | _, _, _ + 1, .nil => .nil
  | _, _, n + 1, .cons _ t => dpa_drop n t
theorem dpa_map {α : Type} {f : α → PyData} {vs : List V} {l : List α} {i : Nat} {v : V} (h : DpAll K H vs (l.map f)) (e : vs[i]? = some v) : ∃ y, l[i]? = some y ∧ Dp K H v (f y) := by
  obtain ⟨d, h1, h2⟩ := dpa_get h e
  rw [List.getElem?_map] at h1
  cases q : l[i]? with
  | none =>
    rw [q] at h1
    cases h1
  | some y =>
    rw [q] at h1
    have e2 : f y = d := Option.some.inj h1
    exact ⟨y, rfl, by rw [e2]; exact h2⟩
theorem dpa_map' {α : Type} {f : α → PyData} {vs : List V} {l : List α} {i : Nat} {y : α} (h : DpAll K H vs (l.map f)) (e : l[i]? = some y) : ∃ v, vs[i]? = some v ∧ Dp K H v (f y) :=
  dpa_get' h (by rw [List.getElem?_map, e]; rfl)
theorem dpa_ints {α : Type} {f : α → Int} : ∀ {vs : List V} {l : List α}, DpAll K H vs (l.map fun k => .int (f k)) → vs = l.map fun k => V.int (f k)
  | vs, [], h => by
    have h' : DpAll K H vs [] := h
    cases h'
    rfl
  | vs, k :: l, h => by
    have h' : DpAll K H vs (.int (f k) :: l.map fun k => .int (f k)) := h
    cases h' with
    | cons h1 h2 =>
      rw [dp_int h1, dpa_ints h2]
      rfl
theorem dpa_strs : ∀ {vs : List V} {l : List Str}, DpAll K H vs (l.map .str) → vs = l.map V.str
  | vs, [], h => by
    have h' : DpAll K H vs [] := h
    cases h'
    rfl
  | vs, k :: l, h => by
    have h' : DpAll K H vs (.str k :: l.map .str) := h
    cases h' with
    | cons h1 h2 =>
      rw [dp_str h1, dpa_strs h2]
      rfl
theorem dpa_of_ints {α : Type} {f : α → Int} : ∀ (l : List α), DpAll K H (l.map fun k => V.int (f k)) (l.map fun k => .int (f k))
  | [] => .nil
  | k :: l => .cons (.int _) (dpa_of_ints l)
theorem dpa_of_strs : ∀ (l : List Str), DpAll K H (l.map V.str) (l.map .str)
  | [] => .nil
  | k :: l => .cons (.str _) (dpa_of_strs l)
end
end Kf
end

section
set_option Elab.async false
set_option linter.all false
set_option maxRecDepth 100000
set_option maxHeartbeats 2000000
namespace Kf
open PySem L2

/-! ### data of a Lean type, over the layer -/
section
variable {X : Cx} {pins : List (Addr × Obj)} {σ : St} {H : Hp} {s : Shared} {α : Type} [DecidableEq α] [PySem.W.Datum α]
abbrev Hv (K : PySem.W.Frag) (H : Hp) (v : V) (x : α) : Prop := Dp K H v (PySem.W.Datum.toD x)
abbrev Hva (K : PySem.W.Frag) (H : Hp) (vs : List V) (xs : List α) : Prop := DpAll K H vs (xs.map PySem.W.Datum.toD)
theorem hv_holds (I : Inv X pins σ H s) {v : V} {u : Value} {x : α} (h : Hv X.K H v x) (r : RelV v u) : PySem.W.Holds s.heap u x := Dp.reads I _ v u h r
theorem hva_holds (I : Inv X pins σ H s) {vs : List V} {us : List Value} {xs : List α} (h : Hva X.K H vs xs) (r : Vals vs us) : PySem.W.HoldAll s.heap us xs := Dp.readsAll I _ vs us h r

def rEqV (α : Type) [DecidableEq α] [PySem.W.Datum α] (K : PySem.W.Frag) : R2 := fun x y H Q => ∃ a b : α, Hv K H x a ∧ Hv K H y b ∧ Q (.bl (decide (a = b))) H
def rNeV (α : Type) [DecidableEq α] [PySem.W.Datum α] (K : PySem.W.Frag) : R2 := fun x y H Q => ∃ a b : α, Hv K H x a ∧ Hv K H y b ∧ Q (.bl (decide (a ≠ b))) H
theorem op_eqV (hu : X.A.units + PySem.W.Datum.depth α < cLine) : OpR X (compareOp .Eq) (rEqV α X.K) := by
  intro pins s σ H x y v u Q I rx ry h
  obtain ⟨a, b, ha, hb, q⟩ := h
  exact PySem.W.eq_datum (hv_holds I ha rx) (hv_holds I hb ry) hu ⟨.bl _, H, I, rfl, q⟩
theorem op_neV (hu : X.A.units + PySem.W.Datum.depth α < cLine) : OpR X (compareOp .NotEq) (rNeV α X.K) := by
  intro pins s σ H x y v u Q I rx ry h
  obtain ⟨a, b, ha, hb, q⟩ := h
  exact PySem.W.ne_datum (hv_holds I ha rx) (hv_holds I hb ry) hu ⟨.bl _, H, I, rfl, q⟩
/-- x in t, x not in t: t a tuple or a list of such -/
def rInV (α : Type) [DecidableEq α] [PySem.W.Datum α] (K : PySem.W.Frag) (neg : Bool) : R2 := fun x y H Q => ∃ (a : α) (xs : List α) (p : Addr) (vs : List V), Hv K H x a ∧ y = .ref p ∧ (SqT K H p vs ∨ SqL K H p vs) ∧ Hva K H vs xs ∧ Q (.bl (if neg then decide (a ∉ xs) else decide (a ∈ xs))) H
theorem op_inV (hu : X.A.units + 1 + PySem.W.Datum.depth α < cLine) : OpR X (compareOp .In) (rInV α X.K false) := by
  intro pins s σ H x y v u Q I rx ry h
  obtain ⟨a, xs, p, vs, ha, rfl, hs, hx, q⟩ := h
  cases ry
  rcases hs with hs | hs
  · obtain ⟨its, rv, ht, _⟩ := I.tuple hs
    exact PySem.W.in_tuple_datum (vs := its.toArray) ht (hva_holds I hx rv) (hv_holds I ha rx) hu ⟨.bl _, H, I, rfl, q⟩
  · obtain ⟨its, rv, ht, _⟩ := I.list hs
    exact PySem.W.in_list_datum (vs := its.toArray) ht.isList (hva_holds I hx rv) (hv_holds I ha rx) hu ⟨.bl _, H, I, rfl, q⟩
theorem op_notInV (hu : X.A.units + 1 + PySem.W.Datum.depth α < cLine) : OpR X (compareOp .NotIn) (rInV α X.K true) := by
  intro pins s σ H x y v u Q I rx ry h
  obtain ⟨a, xs, p, vs, ha, rfl, hs, hx, q⟩ := h
  cases ry
  rcases hs with hs | hs
  · obtain ⟨its, rv, ht, _⟩ := I.tuple hs
    exact PySem.W.notIn_tuple_datum (vs := its.toArray) ht (hva_holds I hx rv) (hv_holds I ha rx) hu ⟨.bl _, H, I, rfl, q⟩
  · obtain ⟨its, rv, ht, _⟩ := I.list hs
    exact PySem.W.notIn_list_datum (vs := its.toArray) ht.isList (hva_holds I hx rv) (hv_holds I ha rx) hu ⟨.bl _, H, I, rfl, q⟩
/-- l.count(x) -/
def rCountV (α : Type) [DecidableEq α] [PySem.W.Datum α] (K : PySem.W.Frag) : V → List V → Hp → VK → Prop := fun x ys H Q => ∃ (a : α) (xs : List α) (p : Addr) (vs : List V) (y : V), x = .ref p ∧ ys = [y] ∧ SqL K H p vs ∧ Hva K H vs xs ∧ Hv K H y a ∧ Q (.int ((xs.countP fun z => decide (z = a) : Nat) : Int)) H
theorem mt_countV (hu : X.A.units + 1 + PySem.W.Datum.depth α < cLine) : MtR X "list.count" (rCountV α X.K) := by
  intro pins s σ H x ys v us Q I rx rs h
  obtain ⟨a, xs, p, vs, y, rfl, rfl, hs, hx, hy, q⟩ := h
  cases rx
  obtain ⟨u, rfl, ru⟩ := Vals.one rs
  obtain ⟨its, rv, ht, _⟩ := I.list hs
  exact PySem.W.count_list_datum (vs := its.toArray) ht.isList (hva_holds I hx rv) (hv_holds I hy ru) hu ⟨.int _, H, I.tok _, ⟨_, rfl⟩, q⟩
/-- t.index(x), x in t -/
def rTIndexV (α : Type) [DecidableEq α] [PySem.W.Datum α] (K : PySem.W.Frag) : V → List V → Hp → VK → Prop := fun x ys H Q => ∃ (a : α) (xs : List α) (p : Addr) (vs : List V) (y : V), x = .ref p ∧ ys = [y] ∧ SqT K H p vs ∧ Hva K H vs xs ∧ Hv K H y a ∧ a ∈ xs ∧ Q (.int (xs.idxOf a : Nat)) H
theorem mt_tindexV (hu : X.A.units + 1 + PySem.W.Datum.depth α < cLine) : MtR X "tuple.index" (rTIndexV α X.K) := by
  intro pins s σ H x ys v us Q I rx rs h
  obtain ⟨a, xs, p, vs, y, rfl, rfl, hs, hx, hy, hm, q⟩ := h
  cases rx
  obtain ⟨u, rfl, ru⟩ := Vals.one rs
  obtain ⟨its, rv, ht, _⟩ := I.tuple hs
  exact PySem.W.index_tuple_datum (vs := its) ht (hva_holds I hx rv) (hv_holds I hy ru) hu hm ⟨.int _, H, I.tok _, ⟨_, rfl⟩, q⟩
end

/-! ### repr of a tuple of data, an empty dict among it -/
/-- data, or the empty dict -/
def Dq (K : PySem.W.Frag) (H : Hp) (v : V) (d : PyData) : Prop := Dp K H v d ∨ (d = .dict [] ∧ ∃ a, v = .ref a ∧ H a = some (.dK []))
inductive DqAll (K : PySem.W.Frag) (H : Hp) : List V → List PyData → Prop
  | nil : DqAll K H [] []
  | cons {v : V} {vs : List V} {d : PyData} {ds : List PyData} : Dq K H v d → DqAll K H vs ds → DqAll K H (v :: vs) (d :: ds)
theorem dqa_of {K : PySem.W.Frag} {H : Hp} : ∀ {vs : List V} {ds : List PyData}, DpAll K H vs ds → DqAll K H vs ds
  | _, _, .nil => .nil
  | _, _, .cons h t => .cons (.inl h) (dqa_of t)
theorem dqa_up {K : PySem.W.Frag} {H H' : Hp} (e : Up [] H H') : ∀ {vs : List V} {ds : List PyData}, DqAll K H vs ds → DqAll K H' vs ds
  | _, _, .nil => .nil
  | _, _, .cons h t => .cons (h.elim (fun h => .inl (dp_up e h)) fun ⟨h1, a, h2, h3⟩ => .inr ⟨h1, a, h2, e.at h3⟩) (dqa_up e t)
mutual
theorem dp_nodict {K : PySem.W.Frag} {H : Hp} : ∀ {v : V} {d : PyData}, Dp K H v d → d.hasDict = false
  | _, _, .non => by simp only [PyData.hasDict]
  | _, _, .bl _ => by simp only [PyData.hasDict]
  | _, _, .int _ => by simp only [PyData.hasDict]
  | _, _, .str _ => by simp only [PyData.hasDict]
  | _, _, .lst _ a => by
    simp only [PyData.hasDict]
    exact dpa_nodict a
  | _, _, .tup _ a => by
    simp only [PyData.hasDict]
    exact dpa_nodict a
theorem dpa_nodict {K : PySem.W.Frag} {H : Hp} : ∀ {vs : List V} {ds : List PyData}, DpAll K H vs ds → PyData.hasDictAll ds = false
  | _, _, .nil => by simp only [PyData.hasDictAll]
  | _, _, .cons h t => by simp only [PyData.hasDictAll, dp_nodict h, dpa_nodict t, Bool.or_self]
end
section
variable {X : Cx} {pins : List (Addr × Obj)} {σ : St} {H : Hp} {s : Shared}
theorem dq_repr (I : Inv X pins σ H s) {v : V} {u : Value} {d : PyData} (h : Dq X.K H v d) (r : RelV v u) (hs : d.showable = true) (hz : d.shown.length ≤ sizeLine) :
    ∃ as bs, Reads s.heap u d as ∧ ReadAtMost s.heap d.depth bs ∧ ReprK X.prog X.w bs s.heap d.depth u d.shown := by
  rcases h with h | ⟨rfl, a, rfl, ha⟩
  · obtain ⟨as, rd⟩ := Dp.reads I d v u h r
    obtain ⟨bs, h1, h2⟩ := ReprK.of_reads (prog := X.prog) (w := X.w) rd hs (fun e => by rw [dp_nodict h] at e; cases e) hz
    exact ⟨as, bs, rd, h1, h2⟩
  · cases r
    obtain ⟨_, hsys, vs, rel, o, es, ep, ho, hex, hd, _, hp, _⟩ := dk_of I.hok ha
    cases rel
    have he : es.toList = [] := by
      generalize es.toList = l at hp
      cases hp
      rfl
    have rd : Reads s.heap (.ref a) (.dict []) (a :: [] ++ []) := .dict ho hex.1 hd (by rw [he]; exact .nil) (by rw [he]; exact .nil)
    refine ⟨_, [a], rd, fun b hb => ?_, ?_⟩
    · rw [List.mem_singleton.mp hb]
      exact ⟨_, _, rd, Nat.le_refl _⟩
    · simp only [PyData.depth, PyData.shown]
      exact ReprK.dict (as := []) ho hex.1 hd hsys (fun z => nomatch z) (by rw [he]; exact .nil)
theorem dqa_repr (I : Inv X pins σ H s) : ∀ {vs : List V} {us : List Value} {ds : List PyData}, DqAll X.K H vs ds → Vals vs us → PyData.showableAll ds = true → (∀ t ∈ PyData.shownAll ds, t.length ≤ sizeLine) →
    ∃ as bs, ReadsAll s.heap us ds as ∧ ReadAtMost s.heap (PyData.depthAll ds) bs ∧ ReprAllK X.prog X.w bs s.heap (PyData.depthAll ds) us (PyData.shownAll ds)
  | _, _, _, .nil, r, _, _ => by
    cases r
    exact ⟨[], [], .nil, (fun _ h => nomatch h), by simp only [PyData.shownAll]; exact .nil⟩
  | _, _, _, .cons (d := d) (ds := ds) h t, r, hs, hz => by
    cases r with
    | cons r1 r2 =>
      have hs' : d.showable = true ∧ PyData.showableAll ds = true := by simpa [PyData.showableAll] using hs
      obtain ⟨as, b1, q1, m1, k1⟩ := dq_repr I h r1 hs'.1 (hz _ (by simp only [PyData.shownAll]; exact List.mem_cons_self))
      obtain ⟨as2, b2, q2, m2, k2⟩ := dqa_repr I t r2 hs'.2 fun t ht => hz t (by simp only [PyData.shownAll]; exact List.mem_cons_of_mem _ ht)
      refine ⟨_, b1 ++ b2, .cons q1 q2, ?_, ?_⟩
      · simp only [PyData.depthAll]
        exact (m1.mono (Nat.le_max_left _ _)).append (m2.mono (Nat.le_max_right _ _))
      · simp only [PyData.depthAll, PyData.shownAll]
        exact .cons ((k1.more fun b hb => List.mem_append_left _ hb).level_le (Nat.le_max_left _ _)) (k2.more_le (fun b hb => List.mem_append_right _ hb) (Nat.le_max_right _ _))
end
/-- repr(t) -/
def rRepr (K : PySem.W.Frag) : List V → Hp → VK → Prop := fun xs H Q => ∃ (a : Addr) (vs : List V) (ds : List PyData), xs = [.ref a] ∧ SqT K H a vs ∧ DqAll K H vs ds ∧ PyData.showableAll ds = true ∧ (tupleText (PyData.shownAll ds)).length ≤ sizeLine ∧ PyData.depthAll ds ≤ 60 ∧
  Q (.str (tupleText (PyData.shownAll ds))) H
theorem cr_repr {X : Cx} (hg : X.A.guards = some []) (hu : X.A.units + 64 < cLine) : CallR X (.builtin "repr") (rRepr X.K) := by
  intro pins s σ H xs us Q I r h
  obtain ⟨a, vs, ds, rfl, hs, hd, sh, hz, hdp, q⟩ := h
  obtain ⟨u, rfl, ru⟩ := Vals.one r
  cases ru
  obtain ⟨its, rv, ⟨o, ho, hc, n, hdt⟩, _⟩ := I.tuple hs
  obtain ⟨as, bs, q1, m1, k1⟩ := dqa_repr I hd rv sh fun t ht => Nat.le_trans (tupleText_mem_le ht) hz
  have hna : a ∉ bs := not_mem_of_deeper (.tuple ho hc hdt q1) (by simp only [PyData.depth]; omega) m1
  refine call_repr_slot (by omega) ⟨o, ho, hc⟩ F.slot_tuple_repr (call_tuple_reprK (g := []) (d := PyData.depthAll ds) ho hc hdt hna (by simpa using k1) (by show X.A.guards = some []; exact hg) (fun b _ => Clear.nil b) (by show X.A.units + 1 + (PyData.depthAll ds + 1) < cLine; omega) (fun _ _ e => e) (fun h' u tk hk => ?_) hz)
  exact ⟨_, _, rfl, .str _, H, I.kept (t' := tk) hk, ⟨_, rfl⟩, q⟩
end Kf
end

section
set_option Elab.async false
set_option linter.all false
set_option maxRecDepth 100000
set_option maxHeartbeats 4000000
namespace Kf
open PySem L2 PySem.Spec PyProof.Rows

/-! ### sets of nested tuples: a row is an address and the key that stands there -/
abbrev Nd := Addr × NestedKey
def NIs (h : Heap) (p : Nd) : Prop := NestedIs h p.2 (.ref p.1) ∧ p.2.depth ≤ 8
def nrows (w : World) (L : List Nd) : List (Int × Value) := L.map fun p => (p.2.hash w, Value.ref p.1)
/-- the set's object at a holds L, whatever the tuples are -/
structure NSet (w : World) (h : Heap) (a : Addr) (L : List Nd) (es : Array (Int × Value)) (ep : Nat) (t : SetTable) : Prop where
  ob : ∃ o, h.get? a = some o ∧ o.ExactSet ∧ o.data = .set es ep t
  rows : es.toList = nrows w L
  tab : TabOk t (L.map fun p => p.2.hash w)
  nd : (L.map (·.2)).Nodup
  plain : t.plain = true
  led : w.params.followText "set-order" = true ∨ t.led = true
  room : L.length * 5 < t.mask * 3
  few : L.length < 64

section
variable {P : Program} {w : World} {A : Around} {E : Value → Shared → Prop} {s : Shared}

theorem nis_parts {h : Heap} {p : Nd} (x : NIs h p) : ∃ ks o vs n, p.2 = .tup ks ∧ h.get? p.1 = some o ∧ o.cls = .type "tuple" ∧ o.data = .seq vs n ∧ NestedAll h ks vs.toList := by
  obtain ⟨b, k⟩ := p
  obtain ⟨x, _⟩ := x
  cases x with
  | tup h1 h2 h3 h4 => exact ⟨_, _, _, _, rfl, h1, h2, h3, h4⟩
theorem nis_type {p : Nd} (x : NIs s.heap p) : s.TypeIs (.ref p.1) "tuple" := by
  obtain ⟨_, o, _, _, _, h1, h2, _⟩ := nis_parts x
  exact ⟨o, h1, h2⟩
theorem nis_keep {h h' : Heap} {p : Nd} (k : ∀ b o, h.get? b = some o → h'.get? b = some o) (x : NIs h p) : NIs h' p := ⟨NestedIs.at (fun b o _ _ e _ => k b o e) _ _ x.1, x.2⟩
theorem nis_same {h h' : Heap} {a : Addr} {o : Obj} {es : Array (Int × Value)} {ep : Nat} {t : SetTable} {p : Nd} (ho : h.get? a = some o) (hd : o.data = .set es ep t) (sb : Heap.SameBut a h h') (x : NIs h p) : NIs h' p :=
  ⟨NestedIs.at (fun b ob vs n hb hc => (sb.2 b fun e => by
    subst e
    rw [ho] at hb
    cases hb
    rw [hd] at hc
    cases hc).trans hb) _ _ x.1, x.2⟩
theorem all_depth {ks : List NestedKey} {n : Nat} (h : NestedKey.depthAll ks ≤ n) : ∀ k, k ∈ ks → k.depth ≤ n := by
  induction ks with
  | nil => exact fun _ z => nomatch z
  | cons x ks ih =>
    simp only [NestedKey.depthAll] at h
    intro k hk
    rcases List.mem_cons.mp hk with e | hk
    · rw [e]
      omega
    · exact ih (by omega) k hk
theorem all_mem {h : Heap} : ∀ {ks : List NestedKey} {vs : List Value}, NestedAll h ks vs → ∀ v, v ∈ vs → ∃ k, k ∈ ks ∧ NestedIs h k v
  | _, _, .nil, _, z => nomatch z
  | _, _, .cons h1 h2, v, hv => by
    rcases List.mem_cons.mp hv with e | hv
    · rw [e]
      exact ⟨_, List.mem_cons_self, h1⟩
    · obtain ⟨k, a, b⟩ := all_mem h2 v hv
      exact ⟨k, List.mem_cons_of_mem _ a, b⟩
/-- no key is of a class of the program's own -/
theorem cls_key : ∀ (n : Nat) {k : NestedKey} {v : Value} {s : Shared} {Q : Bool → Shared → Prop}, NestedIs s.heap k v → k.depth ≤ n → Q false s → wpAny (model P w) A (ofAClassStatement n v) Q E s
  | n, .none, _, s, Q, x, _, h => by cases x; cases n <;> exact wpAny_pure h
  | n, .num _, _, s, Q, x, _, h => by cases x <;> cases n <;> exact wpAny_pure h
  | n, .text _, _, s, Q, x, _, h => by cases x; cases n <;> exact wpAny_pure h
  | 0, .tup ks, _, s, Q, x, hd, h => absurd hd (by simp only [NestedKey.depth]; omega)
  | n + 1, .tup ks, _, s, Q, x, hd, h => by
    cases x with
    | @tup b o items m _ h1 h2 h3 h4 =>
      have dp : NestedKey.depthAll ks ≤ n := by simp only [NestedKey.depth] at hd; omega
      unfold ofAClassStatement
      refine wpAny_bind (wpAny_typeOf ⟨o, h1, h2⟩ ?_)
      dsimp only
      have e : (("tuple" : String) == "tuple") = true := by decide
      simp only [e, if_true, Bool.not_true, Bool.false_eq_true, if_false]
      try refine wpAny_bind (wpAny_pure ?_)
      try simp only [Bool.not_true, Bool.false_eq_true, if_false]
      show wpAny _ _ (seqItems? (.ref b) >>= _) _ _ s
      refine wpAny_bind (wpAny_seqItems h1 h3 ?_)
      dsimp only
      refine wpAny_bind ?_
      show wpAny _ _ (forIn items _ _) _ _ s
      rw [← Array.forIn_toList]
      refine wpAny_forIn_list _ (fun rest r s' => r.1 = none ∧ s' = s ∧ ∀ v ∈ rest, ∃ k, k ∈ ks ∧ NestedIs s.heap k v) _ ?_ ?_ _ _ ⟨rfl, rfl, all_mem h4⟩
      · rintro v rest r s' ⟨hr, rfl, hall⟩
        obtain ⟨k, hk, hv⟩ := hall v List.mem_cons_self
        refine wpAny_bind (cls_key n hv (all_depth dp k hk) ?_)
        simp only [Bool.false_eq_true, if_false]
        exact wpAny_pure ⟨rfl, rfl, fun u hu' => hall u (List.mem_cons_of_mem _ hu')⟩
      · rintro ⟨r1, r2⟩ s' ⟨hr, rfl, _⟩
        simp only at hr
        subst hr
        exact wpAny_pure h
/-- keys of numbers alone -/
def numeric : NestedKey → Bool
  | .num _ => true
  | .tup ks => go ks
  | _ => false
where go : List NestedKey → Bool
  | [] => true
  | k :: ks => numeric k && go ks
theorem numeric_mem {ks : List NestedKey} (h : numeric.go ks = true) : ∀ k, k ∈ ks → numeric k = true := by
  induction ks with
  | nil => exact fun _ z => nomatch z
  | cons x ks ih =>
    simp only [numeric.go, Bool.and_eq_true] at h
    intro k hk
    rcases List.mem_cons.mp hk with e | hk
    · rw [e]
      exact h.1
    · exact ih h.2 k hk
/-- their hash is told by value -/
theorem byv_key : ∀ (n : Nat) {k : NestedKey} {v : Value} {s : Shared} {Q : Bool → Shared → Prop}, NestedIs s.heap k v → numeric k = true → k.depth ≤ n → Q true s → wpAny (model P w) A (hashByValue n v) Q E s
  | n, .none, _, s, Q, x, hk, _, h => by simp [numeric] at hk
  | n, .text _, _, s, Q, x, hk, _, h => by simp [numeric] at hk
  | n, .num _, _, s, Q, x, _, _, h => by cases x <;> cases n <;> exact wpAny_pure h
  | 0, .tup ks, _, s, Q, x, _, hd, h => absurd hd (by simp only [NestedKey.depth]; omega)
  | n + 1, .tup ks, _, s, Q, x, hk, hd, h => by
    cases x with
    | @tup b o items m _ h1 h2 h3 h4 =>
      have dp : NestedKey.depthAll ks ≤ n := by simp only [NestedKey.depth] at hd; omega
      have nm : numeric.go ks = true := by simpa only [numeric] using hk
      have hT : s.TypeIs (.ref b) "tuple" := ⟨o, h1, h2⟩
      unfold hashByValue
      refine wpAny_bind (wpAny_specialOf hT F.slot_tuple_hash.lookup ?_)
      show wpAny _ _ (seqItems? (.ref b) >>= _) _ _ s
      refine wpAny_bind (wpAny_seqItems h1 h3 ?_)
      refine wpAny_bind ?_
      show wpAny _ _ (forIn items _ _) _ _ s
      rw [← Array.forIn_toList]
      refine wpAny_forIn_list _ (fun rest r s' => r.1 = none ∧ s' = s ∧ ∀ v ∈ rest, ∃ k, k ∈ ks ∧ NestedIs s.heap k v) _ ?_ ?_ _ _ ⟨rfl, rfl, all_mem h4⟩
      · rintro v rest r s' ⟨hr, rfl, hall⟩
        obtain ⟨k, hk, hv⟩ := hall v List.mem_cons_self
        refine wpAny_bind (byv_key n hv (numeric_mem nm k hk) (all_depth dp k hk) ?_)
        simp only [Bool.not_true, Bool.false_eq_true, if_false]
        exact wpAny_pure ⟨rfl, rfl, fun u hu' => hall u (List.mem_cons_of_mem _ hu')⟩
      · rintro ⟨r1, r2⟩ s' ⟨hr, rfl, _⟩
        simp only at hr
        subst hr
        exact wpAny_pure h
/-- a search among keys shows nothing -/
theorem seen_keys {x : Nd} (hx : NIs s.heap x) {ys : List Value} (hy : ∀ y ∈ ys, ∃ p : Nd, y = Value.ref p.1 ∧ NIs s.heap p) {Q : Bool → Shared → Prop} (h : Q false s) : wpAny (model P w) A (searchCouldBeSeen (.ref x.1) ys) Q E s := by
  unfold searchCouldBeSeen
  refine wpAny_bind ?_
  refine wpAny_forIn_list _ (fun rest r s' => r.1 = none ∧ s' = s ∧ ∀ y ∈ rest, ∃ p : Nd, y = Value.ref p.1 ∧ NIs s.heap p) _ ?_ ?_ _ _ ⟨rfl, rfl, hy⟩
  · rintro v rest r s' ⟨hr, rfl, hall⟩
    obtain ⟨p, rfl, hp⟩ := hall v List.mem_cons_self
    have rest' : ∀ y ∈ rest, ∃ p : Nd, y = Value.ref p.1 ∧ NIs s'.heap p := fun u hu' => hall u (List.mem_cons_of_mem _ hu')
    dsimp only
    by_cases hv : (x.1 == p.1 || (carriedByValue (.ref x.1) && carriedByValue (.ref p.1))) = true
    · refine wp_if_pos hv ?_
      exact wpAny_pure ⟨rfl, rfl, rest'⟩
    · refine wp_if_neg hv ?_
      refine wpAny_bind (quiet_key x.2 _ 8 s' hx.1 hx.2 _ _ _ ?_)
      simp only [Bool.not_true, Bool.false_eq_true, if_false]
      refine wpAny_bind (quiet_key p.2 _ 8 s' hp.1 hp.2 _ _ _ ?_)
      simp only [Bool.not_true, Bool.false_eq_true, if_false]
      refine wpAny_bind (cls_key 8 hx.1 hx.2 ?_)
      simp only [Bool.false_eq_true, if_false]
      refine wpAny_bind (cls_key 8 hp.1 hp.2 ?_)
      simp only [Bool.false_eq_true, if_false]
      exact wpAny_pure ⟨rfl, rfl, rest'⟩
  · rintro ⟨r1, r2⟩ s' ⟨hr, rfl, _⟩
    simp only at hr
    subst hr
    exact wpAny_pure h
theorem eq_keys {x y : Nd} {Q : Bool → Shared → Prop} (hu : A.units + 8 < cLine) (hx : NIs s.heap x) (hy : NIs s.heap y) (h : Q (decide (x.2 = y.2)) s) : wpAny (model P w) A (eqBool (.ref x.1) (.ref y.1)) Q E s :=
  (nestedKind P w).eqBool hu ⟨hx.1, hx.2⟩ ⟨hy.1, hy.2⟩ h
end
end Kf
end

section
set_option Elab.async false
set_option linter.all false
set_option maxRecDepth 100000
set_option maxHeartbeats 4000000
namespace Kf
open PySem L2 PySem.Spec PyProof.Rows

section
variable {P : Program} {w : World} {A : Around} {E : Value → Shared → Prop} {s : Shared} {a : Addr} {L : List Nd} {es : Array (Int × Value)} {ep : Nat} {t : SetTable}
theorem NSet.size (R : NSet w s.heap a L es ep t) : es.size = L.length := by
  have h := congrArg List.length R.rows
  rw [Array.length_toList] at h
  rw [h]
  exact List.length_map _
theorem NSet.fill (R : NSet w s.heap a L es ep t) : t.place.size = L.length := by
  have h1 := R.tab.sz
  rw [List.length_map] at h1
  exact h1
theorem fits_of {t : SetTable} {n : Nat} (h1 : t.place.size = n) (h2 : t.dummies = #[]) (h3 : n ≤ t.mask) : t.fits n = true := by
  unfold SetTable.fits SetTable.fill
  rw [h2, Bool.and_eq_true, beq_iff_eq, decide_eq_true_eq]
  show t.place.size = n ∧ t.place.size + 0 ≤ t.mask
  omega
theorem NSet.fits (R : NSet w s.heap a L es ep t) : t.fits es.size = true := by
  have h3 := R.room
  rw [R.size]
  exact fits_of R.fill R.tab.dm (by omega)
theorem NSet.entry (R : NSet w s.heap a L es ep t) {i : Nat} {p : Nd} (h : L[i]? = some p) : es[i]? = some (p.2.hash w, Value.ref p.1) := by
  rw [← Array.getElem?_toList, R.rows]
  unfold nrows
  rw [List.getElem?_map, h]
  rfl
theorem NSet.whole (R : NSet w s.heap a L es ep t) : ¬ t.gaveWay = true := by
  unfold SetTable.gaveWay
  rw [mask_odd R.tab.mok]
  decide
theorem mem_row {p : Nd} (h : p ∈ L) : ∃ i, i < L.length ∧ L[i]? = some p := by
  obtain ⟨i, hi, e⟩ := List.getElem_of_mem h
  exact ⟨i, hi, by rw [List.getElem?_eq_getElem hi, e]⟩

/-- the way of x's hash, from its c-th step on -/
theorem find_from (R : NSet w s.heap a L es ep t) (hall : ∀ p ∈ L, NIs s.heap p) {x : Nd} (hx : NIs s.heap x) (hu : A.units + 8 < cLine) {K : Nat} (hKf : K < 10 * SetTable.turns t.mask)
    (hK : way t.mask (x.2.hash w) K ∉ t.place.toList) (hKb : ∀ c, c < K → way t.mask (x.2.hash w) c ∈ t.place.toList) {Q : SetFound → Shared → Prop}
    (hin : x.2 ∈ L.map (·.2) → Q (.there none) s) (hout : x.2 ∉ L.map (·.2) → Q (.free (way t.mask (x.2.hash w) K) false) s) :
    ∀ (f c : Nat) (stand : Option SetTable.Probe), stand.getD (t.probeStart (x.2.hash w)) = nth t.mask (runAt t.mask (SetTable.bits (x.2.hash w) % (t.mask + 1)) (SetTable.bits (x.2.hash w))) c → c ≤ K → K - c < f →
      (∀ (i : Nat) p, L[i]? = some p → p.2 = x.2 → ∃ c', c ≤ c' ∧ c' < K ∧ t.place.toList[i]? = some (way t.mask (x.2.hash w) c')) →
      wpAny (model P w) A (setSearchFrom a (.ref x.1) (x.2.hash w) true f stand) Q E s
  | 0, c, stand, _, _, hf, _ => absurd hf (Nat.not_lt_zero _)
  | f + 1, c, stand, hst, hc, hf, hre => by
    obtain ⟨o, ho, hex, hd⟩ := R.ob
    obtain ⟨h, eh⟩ : ∃ h, h = x.2.hash w := ⟨_, rfl⟩
    rw [← eh] at hK hKb hout hst hre ⊢
    obtain ⟨p0, ep0⟩ : ∃ p0, p0 = runAt t.mask (SetTable.bits h % (t.mask + 1)) (SetTable.bits h) := ⟨_, rfl⟩
    rw [setSearchFrom_succ]
    refine wpAny_bind (wpAny_setState_of ho hd R.fits ?_)
    dsimp only
    refine wp_if_neg R.whole ?_
    try refine wpAny_bind (wpAny_pure ?_)
    have dry : ∀ (n : Nat) (p : SetTable.Probe), p.dummy = none → (nth t.mask p n).dummy = none := by
      intro n
      induction n with
      | zero => intro p h; exact h
      | succ n ih =>
        intro p h
        refine ih (adv t.mask p) ?_
        unfold adv
        split <;> exact h
    have hnd : (nth t.mask p0 c).dummy = none := dry c p0 (by rw [ep0]; rfl)
    have stp : ∀ q, (nth t.mask (nth t.mask p0 c) q).j = way t.mask h (c + q) := fun q => by
      rw [← nth_add t.mask c p0 q, ep0]
    have goes : ∀ q, nth t.mask (nth t.mask p0 c) q = nth t.mask p0 (c + q) := fun q => (nth_add t.mask c p0 q).symm
    rw [← ep0] at hst
    have spec := go_spec t R.tab.ris R.tab.dm (fun i => (es[i]?.map (·.1)).getD 0) h (10 * SetTable.turns t.mask) (K - c) (nth t.mask p0 c) hnd (by omega)
      (fun q hq => by rw [stp]; exact hKb (c + q) (by omega)) (by rw [stp, show c + (K - c) = K by omega]; exact hK)
    have hashAt : ∀ (i : Nat) p, L[i]? = some p → (fun i => (es[i]?.map (·.1)).getD 0) i = p.2.hash w := fun i p hp => by
      show (es[i]?.map (·.1)).getD 0 = _
      rw [R.entry hp]
      rfl
    rcases spec with ⟨q, i, hq, hi, hh, hno, hpr⟩ | ⟨hno, hpr⟩
    · rw [stp, goes] at hpr
      have hpr' : t.probe (fun i => (es[i]?.map (·.1)).getD 0) h (stand.getD (t.probeStart h)) = some (.candidate (way t.mask h (c + q)) i (nth t.mask p0 (c + (q + 1)))) := by
        rw [hst]
        exact hpr
      rw [hpr']
      dsimp only
      rw [stp] at hi
      have hil : i < L.length := by
        have h1 : i < t.place.toList.length := (List.getElem?_eq_some_iff.mp hi).1
        rw [Array.length_toList, R.fill] at h1
        exact h1
      obtain ⟨p, hp⟩ : ∃ p, L[i]? = some p := ⟨_, List.getElem?_eq_getElem hil⟩
      have hmem : p ∈ L := List.mem_of_getElem? hp
      have rest : wpAny (model P w) A (searchRest a (.ref x.1) h true f es t (way t.mask h (c + q)) i (nth t.mask p0 (c + (q + 1)))) Q E s := by
        unfold searchRest
        rw [R.entry hp]
        dsimp only
        refine wpAny_bind (wpAny_holding (eq_keys hu (hall p hmem) hx ?_))
        refine wpAny_bind (wpAny_setState_of ho hd R.fits ?_)
        dsimp only
        by_cases hkk : p.2 = x.2
        · refine wp_if_pos (by simp [hkk]) ?_
          exact wpAny_pure (hin (List.mem_map.mpr ⟨p, hmem, hkk⟩))
        · refine wp_if_neg (by simp [hkk]) ?_
          try refine wpAny_bind (wpAny_pure ?_)
          rw [sameMem]
          dsimp only
          have hsl : t.slot (way t.mask h (c + q)) = .live i := slot_live R.tab.ris hi
          simp only [if_true, hsl, R.entry hp]
          refine wpAny_bind (wpAny_isSame_ref_self (wpAny_bind (wpAny_pure ?_)))
          simp only [if_true]
          refine wp_if_neg (by simp [hkk]) ?_
          rw [eh]
          refine find_from R hall hx hu hKf (by rw [← eh]; exact hK) (by rw [← eh]; exact hKb) hin (by rw [← eh]; exact hout) f (c + (q + 1)) _ (by rw [ep0, eh]; rfl) (by omega) (by omega) fun i0 p1 h0 hk0 => ?_
          obtain ⟨c', a1, a2, a3⟩ := hre i0 p1 h0 hk0
          rw [← eh]
          refine ⟨c', ?_, a2, a3⟩
          have hash1 : (fun i => (es[i]?.map (·.1)).getD 0) i0 = h := by
            rw [hashAt i0 p1 h0, hk0, eh]
          rcases Nat.lt_or_ge c' (c + q) with z | z
          · exact absurd hash1 (hno (c' - c) i0 (by omega) (by rw [stp, show c + (c' - c) = c' by omega]; exact a3))
          · rcases Nat.lt_or_ge (c + q) c' with y | y
            · omega
            · have ec : c' = c + q := Nat.le_antisymm y z
              rw [ec] at a3
              have s0 := slot_live R.tab.ris a3
              rw [hsl] at s0
              injection s0 with s0
              rw [← s0, hp] at h0
              exact absurd ((congrArg Prod.snd (Option.some.inj h0)).trans hk0) hkk
      by_cases hl : t.led = true
      · refine wp_if_neg (by simp [hl]) ?_
        try refine wpAny_bind (wpAny_pure ?_)
        exact rest
      · refine wp_if_pos (by simp [hl]) ?_
        refine wpAny_bind (seen_keys hx (fun y hy => ?_) ?_)
        · obtain ⟨e, he, ee⟩ := List.mem_map.mp hy
          have he1 : e ∈ es ∧ e.1 = h := by simpa using he
          have he2 : e ∈ es.toList := by simpa using he1.1
          rw [R.rows] at he2
          obtain ⟨p2, hp2, e2⟩ := List.mem_map.mp he2
          exact ⟨p2, by rw [← ee, ← e2], hall p2 hp2⟩
        · refine wp_if_neg (by decide) ?_
          try refine wpAny_bind (wpAny_pure ?_)
          exact rest
    · rw [stp, show c + (K - c) = K by omega] at hpr
      have hpr' : t.probe (fun i => (es[i]?.map (·.1)).getD 0) h (stand.getD (t.probeStart h)) = some (.empty (way t.mask h K) none) := by
        rw [hst]
        exact hpr
      rw [hpr']
      dsimp only
      refine wpAny_pure (hout fun hm => ?_)
      obtain ⟨p1, h0, hk0⟩ := List.mem_map.mp hm
      obtain ⟨i0, _, h00⟩ := mem_row h0
      obtain ⟨c', a1, a2, a3⟩ := hre i0 p1 h00 hk0
      refine hno (c' - c) i0 (by omega) (by rw [stp, show c + (c' - c) = c' by omega]; exact a3) ?_
      exact (hashAt i0 p1 h00).trans (by rw [hk0, eh])

/-- is x there? else its slot -/
theorem find_key (R : NSet w s.heap a L es ep t) (hall : ∀ p ∈ L, NIs s.heap p) {x : Nd} (hx : NIs s.heap x) (hu : A.units + 8 < cLine) {Q : SetFound → Shared → Prop}
    (hin : x.2 ∈ L.map (·.2) → Q (.there none) s)
    (hout : ∀ K, x.2 ∉ L.map (·.2) → way t.mask (x.2.hash w) K ∉ t.place.toList → (∀ c, c < K → way t.mask (x.2.hash w) c ∈ t.place.toList) → Q (.free (way t.mask (x.2.hash w) K) false) s) :
    wpAny (model P w) A (setSearch a (.ref x.1) (x.2.hash w) true) Q E s := by
  have hroom := R.room
  obtain ⟨K, hKf, hK, hKb⟩ := R.tab.first (by rw [List.length_map]; omega) (x.2.hash w)
  have hbig : K < 100000 := by
    have : 10 * SetTable.turns t.mask ≤ 1420 := by
      unfold SetTable.turns
      rcases R.tab.mok with e | e | e <;> omega
    omega
  unfold setSearch
  refine find_from R hall hx hu hKf hK hKb hin (fun hn => hout K hn hK hKb) 100000 0 none rfl (Nat.zero_le _) (by omega) fun i p hp hk => ?_
  have hi : (L.map fun p => p.2.hash w)[i]? = some (x.2.hash w) := by
    rw [List.getElem?_map, hp, ← hk]
    rfl
  have hil : i < t.place.toList.length := by
    rw [Array.length_toList, R.fill]
    exact (List.getElem?_eq_some_iff.mp hp).1
  have hj := List.getElem?_eq_getElem hil
  obtain ⟨c, hc, e⟩ := R.tab.before hK hi hj
  exact ⟨c, Nat.zero_le _, hc, by rw [hj, e]⟩

theorem ins_perm {α : Type} (L : List α) (p : Nat) (x : α) : (L.take p ++ x :: L.drop p).Perm (x :: L) := by
  have h : (L.take p ++ x :: L.drop p).Perm (x :: (L.take p ++ L.drop p)) := List.perm_middle
  rw [List.take_append_drop] at h
  exact h
theorem nrows_len (L : List Nd) : (nrows w L).length = L.length := List.length_map _
/-- rows picked by their places -/
theorem pick_rows (hr : es.toList = nrows w L) (order : Array Nat) (hp : order.toList.Perm (List.range L.length)) :
    ∃ L2 : List Nd, (order.filterMap (es[·]?)).toList = nrows w L2 ∧ L2.Perm L ∧ (L2.map fun p => p.2.hash w) = order.toList.map fun i => (es.map (·.1)).getD i 0 := by
  have hsz : es.size = L.length := by
    have h := congrArg List.length hr
    rw [Array.length_toList, nrows_len] at h
    exact h
  have ent : ∀ i (h : i < L.length), es[i]? = some ((L[i]).2.hash w, Value.ref (L[i]).1) := fun i h => by
    rw [← Array.getElem?_toList, hr]
    unfold nrows
    rw [List.getElem?_map, List.getElem?_eq_getElem h]
    rfl
  have key : ∀ l : List Nat, (∀ i ∈ l, i < L.length) → l.filterMap (fun i => es[i]?) = nrows w (l.filterMap fun i => L[i]?) ∧ ((l.filterMap fun i => L[i]?).map fun p => p.2.hash w) = l.map fun i => (es.map (·.1)).getD i 0 := by
    intro l
    induction l with
    | nil => intro _; exact ⟨rfl, rfl⟩
    | cons i l ih =>
      intro hl
      have hi := hl i List.mem_cons_self
      obtain ⟨e1, e3⟩ := ih fun j hj => hl j (List.mem_cons_of_mem _ hj)
      rw [List.filterMap_cons_some (ent i hi), List.filterMap_cons_some (List.getElem?_eq_getElem hi), e1]
      refine ⟨rfl, ?_⟩
      rw [List.map_cons, List.map_cons, e3]
      have e5 : (es.map (·.1))[i]? = some ((L[i]).2.hash w) := by
        rw [Array.getElem?_map, ent i hi]
        rfl
      have e4 : (es.map (·.1)).getD i 0 = (L[i]).2.hash w := by simp [Array.getD_eq_getD_getElem?, e5]
      rw [e4]
  obtain ⟨e1, e3⟩ := key order.toList fun i hi => List.mem_range.mp (hp.mem_iff.mp hi)
  refine ⟨_, by first | (rw [Array.toList_filterMap]; exact e1) | simpa using e1, ?_, e3⟩
  have all : ∀ n, n ≤ L.length → (List.range n).filterMap (fun i => L[i]?) = L.take n := by
    intro n
    induction n with
    | zero => intro _; rfl
    | succ n ih =>
      intro hn
      have hlt : n < L.length := hn
      rw [List.range_succ, List.filterMap_append, ih (Nat.le_of_lt hlt), List.take_succ, List.getElem?_eq_getElem hlt, List.filterMap_cons_some (List.getElem?_eq_getElem hlt)]
      rfl
  have h1 := hp.filterMap fun i => L[i]?
  rw [all L.length (Nat.le_refl _), List.take_length] at h1
  exact h1

/-- the table laid anew, larger -/
theorem relay_rows {o : Obj} (ho : s.heap.get? a = some o) (hex : o.ExactSet) (hd : o.data = .set es ep t) (hrows : es.toList = nrows w L) (hsz : t.place.size = es.size) (hdm : t.dummies = #[]) (hfl : es.size ≤ t.mask)
    (nd : (L.map (·.2)).Nodup) (pl : t.plain = true) (ld : w.params.followText "set-order" = true ∨ t.led = true) (few : L.length < 64) {wanted M : Nat}
    (hw : SetTable.sizeAbove wanted - 1 = M) (hM : MaskOk M) (hw2 : SetTable.sizeAbove wanted ≤ 128) (hn : L.length * 5 < M * 3) {Q : Unit → Shared → Prop}
    (hQ : ∀ h' L' es' ep' t', Heap.SameBut a s.heap h' → NSet w h' a L' es' ep' t' → L'.Perm L → Q () { s with heap := h' }) : wpAny (model P w) A (setRelay a wanted) Q E s := by
  have hsl : es.size = L.length := by
    have h := congrArg List.length hrows
    rw [Array.length_toList, nrows_len] at h
    exact h
  obtain ⟨t', order, e, hp, T, em, el, epl, ed⟩ := relaid_ok t (hs := es.map (·.1)) (wanted := wanted) hw hM (by rw [Array.size_map, hsl]; omega)
  rw [Array.size_map, hsl] at hp
  obtain ⟨L2, r1, r2, r3⟩ := pick_rows hrows order hp
  rw [← r3] at T
  have hs2 : (order.filterMap (es[·]?)).size = es.size := by
    have h := congrArg List.length r1
    rw [Array.length_toList, nrows_len, r2.length_eq] at h
    rw [h, hsl]
  rw [setRelay_eq]
  refine wpAny_bind (wpAny_setState_of ho hd (fits_of hsz hdm hfl) ?_)
  dsimp only
  refine wp_if_neg (by rw [sizeLine_eq]; omega) ?_
  try refine wpAny_bind (wpAny_pure ?_)
  rw [e]
  dsimp only
  refine wpAny_bind ?_
  refine wp_if_neg (by rw [hs2]; simp) ?_
  try refine wpAny_bind (wpAny_pure ?_)
  refine wpAny_pure ?_
  dsimp only
  refine wpAny_storeSet_of ho hd ?_ (by rw [hs2, hsl, sizeLine_eq]; omega)
  refine hQ _ L2 (order.filterMap (es[·]?)) (ep + 1) t' (Heap.SameBut.update ..) ⟨⟨_, store_at ho hd, ⟨hex.1, hex.2.1, hex.2.2⟩, rfl⟩, r1, T, (r2.map (·.2)).nodup_iff.mpr nd, by rw [epl]; exact pl, by rw [el]; exact ld, ?_, by rw [r2.length_eq]; exact few⟩ r2
  rw [r2.length_eq, em]
  exact hn

/-- x is added -/
theorem add_key (R : NSet w s.heap a L es ep t) (hall : ∀ p ∈ L, NIs s.heap p) {x : Nd} (hx : NIs s.heap x) (hnum : numeric x.2 = true) (hu : A.units + 8 < cLine) (hfew : L.length + 1 < 64) {Q : Bool → Shared → Prop}
    (hQ : ∀ b h' L' es' ep' t', Heap.SameBut a s.heap h' → NSet w h' a L' es' ep' t' → (x.2 ∈ L.map (·.2) → L' = L) → (x.2 ∉ L.map (·.2) → L'.Perm (x :: L)) → Q b { s with heap := h' }) :
    wpAny (model P w) A (setAddHashed a (.ref x.1) (x.2.hash w)) Q E s := by
  obtain ⟨o, ho, hex, hd⟩ := R.ob
  have hsl := R.size
  have hroom := R.room
  unfold setAddHashed
  refine wpAny_holding ?_
  rw [show (100000 : Nat) = 99999 + 1 from rfl, setAddHashedIn_succ]
  refine wpAny_bind (wpAny_setState_of ho hd R.fits ?_)
  dsimp only
  refine wp_if_neg (by simp [byScan, Value.scannable]) ?_
  try refine wpAny_bind (wpAny_pure ?_)
  refine wpAny_bind (find_key R hall hx hu (fun hm => ?_) fun K hm hK hb => ?_)
  · dsimp only
    exact wpAny_pure (hQ false s.heap L es ep t (Heap.SameBut.refl a s.heap) R (fun _ => rfl) fun z => absurd hm z)
  · dsimp only
    refine wpAny_bind (wpAny_setState_of ho hd R.fits ?_)
    dsimp only
    obtain ⟨q1, q2, q3, q4, q5, q6, q7, q8, q9⟩ := R.tab.put hK hb
    have hp1 : (t.put (way t.mask (x.2.hash w) K)).1.plain = true := by rw [q6]; exact R.plain
    generalize hpt : t.put (way t.mask (x.2.hash w) K) = pt at q1 q3 q4 q5 q6 q7 q8 q9 hp1 ⊢
    obtain ⟨t1, p⟩ := pt
    dsimp only at q1 q3 q4 q5 q6 q7 q8 q9 hp1 ⊢
    subst q1
    first
      | (refine wpAny_bind ?_; refine wp_if_pos hp1 ?_; refine byv_key 8 hx.1 hnum hx.2 ?_)
      | refine wp_if_pos hp1 (wpAny_bind (byv_key 8 hx.1 hnum hx.2 ?_))
    simp only [if_true]
    obtain ⟨p, hpp⟩ : ∃ p, p = SetTable.below t.place (way t.mask (x.2.hash w) K) := ⟨_, rfl⟩
    rw [← hpp] at q2 q3 ⊢
    have hin : (SetTable.insertAt es p (x.2.hash w, Value.ref x.1)).toList = nrows w (L.take p ++ x :: L.drop p) := by
      rw [SetTable.toList_insertAt, R.rows]
      unfold nrows
      rw [List.map_append, List.map_cons, List.map_take, List.map_drop]
    have pm := ins_perm L p x
    have hlen : (L.take p ++ x :: L.drop p).length = L.length + 1 := pm.length_eq
    have hhs : (L.take p ++ x :: L.drop p).map (fun p => p.2.hash w) = (L.map fun p => p.2.hash w).take p ++ x.2.hash w :: (L.map fun p => p.2.hash w).drop p := by
      rw [List.map_append, List.map_cons, List.map_take, List.map_drop]
    rw [← hhs] at q3
    have nd1 : ((L.take p ++ x :: L.drop p).map (·.2)).Nodup := by
      refine (pm.map (·.2)).nodup_iff.mpr ?_
      rw [List.map_cons]
      exact List.nodup_cons.mpr ⟨hm, R.nd⟩
    have hes : (SetTable.insertAt es p (x.2.hash w, Value.ref x.1)).size = L.length + 1 := by
      have h := congrArg List.length hin
      rw [Array.length_toList, nrows_len, hlen] at h
      exact h
    generalize SetTable.insertAt es p (x.2.hash w, Value.ref x.1) = es1 at hin hes ⊢
    generalize L.take p ++ x :: L.drop p = L1 at pm hlen q3 nd1 hin
    refine wpAny_bind (wpAny_storeSet_of ho hd ?_ (by rw [hes, sizeLine_eq]; omega))
    have sb : Heap.SameBut a s.heap (s.heap.update a (Obj.putSet es1 t1)) := Heap.SameBut.update ..
    have ho1 := store_at (es' := es1) (t' := t1) ho hd
    generalize s.heap.update a (Obj.putSet es1 t1) = h1 at sb ho1 ⊢
    have ld1 : w.params.followText "set-order" = true ∨ t1.led = true := by rw [q5]; exact R.led
    by_cases hf : t1.tooFull = true
    · first
        | (refine wpAny_bind ?_; refine wp_if_pos (by simp [hf]) ?_)
        | (refine wp_if_pos (by simp [hf]) ?_; refine wpAny_bind ?_)
      have hfull : (L.length + 1) * 5 ≥ t1.mask * 3 := by
        have h := hf
        unfold SetTable.tooFull at h
        rw [decide_eq_true_eq, q9, List.length_map] at h
        exact h
      rw [hsl]
      have hsz1 : t1.place.size = es1.size := by
        have h := q3.sz
        rw [List.length_map, hlen] at h
        rw [h, hes]
      have cases2 : (t.mask = 7 ∧ L.length = 4) ∨ (t.mask = 31 ∧ L.length = 18) := by
        rcases R.tab.mok with e | e | e
        · left; rw [q4, e] at hfull; rw [e] at hroom; exact ⟨e, by omega⟩
        · right; rw [q4, e] at hfull; rw [e] at hroom; exact ⟨e, by omega⟩
        · exfalso; rw [q4, e] at hfull; omega
      have go : ∀ M, SetTable.sizeAbove (SetTable.grown (L.length + 1)) - 1 = M → MaskOk M → SetTable.sizeAbove (SetTable.grown (L.length + 1)) ≤ 128 → (L.length + 1) * 5 < M * 3 →
          wpAny (model P w) A (setRelay a (SetTable.grown (L.length + 1))) (fun _ s' => wpAny (model P w) A (pure true) Q E s') E { s with heap := h1 } := fun M h1' h2' h3' h4' => by
        refine relay_rows (s := { s with heap := h1 }) ho1 ⟨hex.1, hex.2.1, hex.2.2⟩ rfl hin hsz1 q3.dm (by rw [hes, q4]; rcases cases2 with ⟨e, e2⟩ | ⟨e, e2⟩ <;> omega) nd1 hp1 ld1 (by rw [hlen]; exact hfew) h1' h2' h3' (by rw [hlen]; exact h4') ?_
        intro h2 L2 es2 ep2 t2 sb2 R2 pm2
        refine wpAny_pure (hQ true h2 L2 es2 ep2 t2 (sb.trans sb2) R2 (fun z => absurd z hm) fun _ => pm2.trans pm)
      rcases cases2 with ⟨_, e2⟩ | ⟨_, e2⟩
      · refine go 31 (by rw [e2, size_20]) (.inr (.inl rfl)) (by rw [e2, size_20]; decide) (by omega)
      · refine go 127 (by rw [e2, size_76]) (.inr (.inr rfl)) (by rw [e2, size_76]; decide) (by omega)
    · first
        | refine wp_if_neg (by simp [hf]) ?_
        | (refine wpAny_bind ?_; refine wp_if_neg (by simp [hf]) ?_; refine wpAny_pure ?_)
      refine wpAny_pure (hQ true h1 L1 es1 (ep + 1) t1 sb ⟨⟨_, ho1, ⟨hex.1, hex.2.1, hex.2.2⟩, rfl⟩, hin, q3, nd1, hp1, ld1, ?_, by rw [hlen]; exact hfew⟩ (fun z => absurd z hm) fun _ => pm)
      have h := hf
      unfold SetTable.tooFull at h
      rw [decide_eq_true_eq, q9, List.length_map] at h
      rw [hlen]
      omega
end
end Kf
end

section
set_option Elab.async false
set_option linter.all false
set_option maxRecDepth 100000
set_option maxHeartbeats 4000000
namespace Kf
open PySem L2 PySem.Spec PyProof.Rows

abbrev newSetO (w : World) : Obj := { cls := .type "set", dict := none, data := .set #[] 0 (.fresh 0 0 (!w.params.followText "set-order")) }
/-- one way of holding sets: what a thing is, what a set of them is, what adding does -/
structure SetSys (P : Program) (w : World) (ι κ : Type) [DecidableEq κ] where
  key : ι → κ
  Is : Heap → ι → Value → Prop
  St : Heap → Addr → List ι → Prop
  keep : ∀ {h h' : Heap} {x : ι} {v : Value}, (∀ b o, h.get? b = some o → h'.get? b = some o) → Is h x v → Is h' x v
  stay : ∀ {h h' : Heap} {a : Addr} {L : List ι}, (∀ o, h.get? a = some o → h'.get? a = some o) → St h a L → St h' a L
  fresh : ∀ {h : Heap} {a : Addr}, h.get? a = some { cls := .type "set", dict := none, data := .set #[] 0 (.fresh 0 0 (!w.params.followText "set-order")) } → St h a []
  add : ∀ {A : Around} {E : Value → Shared → Prop} {s : Shared} {a : Addr} {L : List ι} {x : ι} {v : Value} {Q : Bool → Shared → Prop}, A.units + 8 < cLine → St s.heap a L → (∀ p ∈ L, ∃ u, Is s.heap p u) → Is s.heap x v → L.length + 1 < 64 →
    (∀ b h' tk L', s.toks ≤ tk → Heap.SameBut a s.heap h' → St h' a L' → (key x ∈ L.map key → L' = L) → (key x ∉ L.map key → L'.Perm (x :: L)) → Q b { s with heap := h', toks := tk }) → wpAny (model P w) A (setAdd a v) Q E s

/-- L holds what the first i of ks are, each key once or more -/
structure Has {ι κ : Type} [DecidableEq κ] (key : ι → κ) (ks : List ι) (i : Nat) (L : List ι) : Prop where
  sub : ∀ p ∈ L, p ∈ ks.take i
  all : ∀ p ∈ ks.take i, key p ∈ L.map key
  len : L.length ≤ i
section
variable {ι κ : Type} [DecidableEq κ] {key : ι → κ} {ks L L' : List ι} {i : Nat} {x : ι}
theorem Has.zero : Has key ks 0 [] := ⟨(fun p h => nomatch h), (fun p h => by simp at h), Nat.le_refl _⟩
theorem take_one {α : Type} {l : List α} {i : Nat} {x : α} (h : l[i]? = some x) : l.take (i + 1) = l.take i ++ [x] := by
  rw [List.take_succ, h]
  rfl
theorem Has.same (g : Has key ks i L) (h : ks[i]? = some x) (hm : key x ∈ L.map key) : Has key ks (i + 1) L := by
  refine ⟨fun p hp => ?_, fun p hp => ?_, Nat.le_succ_of_le g.len⟩
  · rw [take_one h]
    exact List.mem_append_left _ (g.sub p hp)
  · rw [take_one h] at hp
    rcases List.mem_append.mp hp with z | z
    · exact g.all p z
    · rw [List.mem_singleton.mp z]
      exact hm
theorem Has.more (g : Has key ks i L) (h : ks[i]? = some x) (pm : L'.Perm (x :: L)) : Has key ks (i + 1) L' := by
  refine ⟨fun p hp => ?_, fun p hp => ?_, by rw [pm.length_eq, List.length_cons]; exact Nat.succ_le_succ g.len⟩
  · rw [take_one h]
    rcases List.mem_cons.mp (pm.mem_iff.mp hp) with e | z
    · rw [e]
      exact List.mem_append_right _ (List.mem_singleton.mpr rfl)
    · exact List.mem_append_left _ (g.sub p z)
  · rw [(pm.map key).mem_iff, List.map_cons]
    rw [take_one h] at hp
    rcases List.mem_append.mp hp with z | z
    · exact List.mem_cons_of_mem _ (g.all p z)
    · rw [List.mem_singleton.mp z]
      exact List.mem_cons_self
end

section
variable {P : Program} {w : World} {A : Around} {E : Value → Shared → Prop} {s : Shared} {ι κ : Type} [DecidableEq κ]
theorem fill_loop (Y : SetSys P w ι κ) {I : Addr} {fp wr : List Addr} {G : Array GenState → Array GenState → Prop} {n : Nat} {Pv : Nat → Value → Prop} {St : Nat → Shared → Prop} {R : Result → Shared → Prop}
    (W : WalksS P w A.in1 I fp wr G n Pv St) (S : Addr) (hSf : S ∉ fp) (ks : List ι) (hn : n = ks.length) (hfew : ks.length < 64) (h0 : Heap) (hval : ∀ i v, Pv i v → ∃ p, ks[i]? = some p ∧ Y.Is h0 p v)
    (hk : ∀ p ∈ ks, ∃ v, Y.Is h0 p v) (hS0 : h0.get? S = none) (hw0 : ∀ b ∈ wr, h0.get? b = none) (hu : A.in1.units + 8 < cLine) :
    ∀ (k i : Nat) (s : Shared), n - i = k → i ≤ n → St i s → (∀ b o, h0.get? b = some o → s.heap.get? b = some o) → (∃ L, Y.St s.heap S L ∧ Has Y.key ks i L) →
      (∀ s' L, Moved (S :: wr) G s s' → Y.St s'.heap S L → Has Y.key ks n L → (∀ b o, h0.get? b = some o → s'.heap.get? b = some o) → R (.ok (.ret .none)) s') →
      codeAny (model P w) A (.builtin "set.update.loop" ⟨[.ref S, .ref I], []⟩) R s := by
  have hSw : S ∉ wr := fun h => hSf (W.sub _ h)
  have hsub : ∀ b ∈ wr, b ∈ S :: wr := fun b hb => List.mem_cons_of_mem _ hb
  have moved : ∀ {s s' : Shared}, Moved wr G s s' → (∀ b o, h0.get? b = some o → s.heap.get? b = some o) → ∀ b o, h0.get? b = some o → s'.heap.get? b = some o := fun hm hkp b o e =>
    hm.heap b o (fun hb => by rw [hw0 b hb] at e; cases e) (hkp b o e)
  intro k
  induction k with
  | zero =>
    intro i s hk' hi hst hkp ⟨L, hS, g⟩ hR
    obtain rfl : i = n := by omega
    refine codeAny_builtin F.entry_set_update_loop ?_
    rw [Around.under_plainId F.plain_set_update_loop _]
    show wpAny _ A.in1 (pyNext (.ref I) >>= _) _ _ s
    refine wpAny_bind (W.done s _ _ hst fun s' hm => ?_)
    show wpAny _ A.in1 (ret Value.none) _ _ s'
    exact wpAny_pure (hR s' L (hm.mono hsub) (Y.stay (fun o e => hm.heap S o hSw e) hS) g (moved hm hkp))
  | succ k ih =>
    intro i s hk' hi hst hkp ⟨L, hS, g⟩ hR
    have hlt : i < n := by omega
    refine codeAny_builtin F.entry_set_update_loop ?_
    rw [Around.under_plainId F.plain_set_update_loop _]
    show wpAny _ A.in1 (pyNext (.ref I) >>= _) _ _ s
    refine wpAny_bind (W.item i s _ _ hlt hst fun v s' hP hst' hm => ?_)
    obtain ⟨p, hp, hv⟩ := hval i v hP
    have hkp' := moved hm hkp
    have hS' : Y.St s'.heap S L := Y.stay (fun o e => hm.heap S o hSw e) hS
    show wpAny _ A.in1 (holding [v] (setAdd S v) >>= _) _ _ s'
    refine wpAny_bind (wpAny_holding (Y.add hu hS' (fun q hq => ?_) (Y.keep hkp' hv) (by have := g.len; omega) fun b h' tk L' ht hsb hS2 c1 c2 => ?_))
    · obtain ⟨u, hu'⟩ := hk q (List.mem_of_mem_take (g.sub q hq))
      exact ⟨u, Y.keep hkp' hu'⟩
    have g' : Has Y.key ks (i + 1) L' := by
      rcases Classical.em (Y.key p ∈ L.map Y.key) with c | c
      · rw [c1 c]
        exact g.same hp c
      · exact g.more hp (c2 c)
    have hkp2 : ∀ b o, h0.get? b = some o → h'.get? b = some o := fun b o e => (hsb.2 b (fun z => by rw [z, hS0] at e; cases e)).trans (hkp' b o e)
    refine wpAny_pure ⟨plainId_quiet F.plain_set_update_loop _, ih (i + 1) _ (by omega) hlt (W.frame _ s' _ _ hst' ht fun b hb o e => ?_) hkp2 ⟨L', hS2, g'⟩ fun s'' L2 hm'' hS'' g'' hkp'' => ?_⟩
    · rw [hsb.2 b (fun h : b = S => hSf (by rw [← h]; exact hb))]
      exact e
    · refine hR s'' L2 (Moved.trans W.gtrans ((hm.mono hsub).then_heap ht fun b o hb e => ?_) hm'') hS'' g'' hkp''
      rw [hsb.2 b (fun h : b = S => hb (by rw [h]; exact List.mem_cons_self))]
      exact e

set_option maxHeartbeats 8000000 in
/-- set(xs), xs a list -/
theorem call_set (Y : SetSys P w ι κ) {l : Addr} {items : Array Value} (ks : List ι) {Q : Value → Shared → Prop} (hh : A.handled = none) (hl : s.heap.IsList l items) (hsz : items.size = ks.length)
    (hit : ∀ (i : Nat) v, items[i]? = some v → ∃ p, ks[i]? = some p ∧ Y.Is s.heap p v) (hk : ∀ p ∈ ks, ∃ v, Y.Is s.heap p v) (hfew : ks.length < 64) (hu : A.units + 12 < cLine)
    (h : ∀ (h' : Heap) (tk : Nat) L, Y.St h' s.heap.objs.size L → Has Y.key ks ks.length L → (∀ b o, s.heap.get? b = some o → h'.get? b = some o) → Q (.ref s.heap.objs.size) { s with heap := h', toks := tk }) :
    wpAny (model P w) A (call (.type "set") [.ref l]) Q E s := by
  obtain ⟨c, tl, hmro⟩ := F.called_set.mro
  have hmade := F.called_set.made
  have hsub := F.called_set.sub
  refine wpAny_call (codeAny_of_tree ?_)
  show wpAny _ _ (callAny (.type "set") _) _ _ _
  refine wpAny_pure ⟨Code.quiet_builtin _ (by decide +kernel), codeAny_builtin F.entry_type_call ?_⟩
  rw [Around.under_plain (weight_type_call_type "set" [.ref l] []) rfl]
  have h1 := F.called_set.notType
  have h2 := F.called_set.canCreate
  have hct := F.typeCall_set_1 (.ref l)
  repeat (any_goals (first | assumption | wp_step))
  refine codeAny_mono (code_set_led1 (.ref l) (E := E) (Q₁ := fun obj s₁ => obj = .ref s.heap.objs.size ∧ s₁ = { s with heap := s.heap.push (newSetO w) }) ⟨rfl, rfl⟩) fun r s₁ hr => ?_
  cases r with
  | error e => exact hr
  | ok fl =>
    cases fl with
    | ret obj =>
      obtain ⟨rfl, rfl⟩ := hr
      have hS : (s.heap.push (newSetO w)).get? s.heap.objs.size = some (newSetO w) := Heap.get?_push_size _ rfl
      have hT : Shared.TypeIs { s with heap := s.heap.push (newSetO w) } (.ref s.heap.objs.size) "set" := ⟨_, hS, rfl⟩
      have hli := F.called_set.init.lookup
      have hbi := F.called_set.init.bind (.ref s.heap.objs.size)
      repeat (any_goals (first | assumption | wp_step))
      refine codeAny_mono (codeAny_call_builtin (R := wants (fun r s₂ => r = .none ∧ ∃ h' tk L, s₂ = { s with heap := h', toks := tk } ∧ Y.St h' s.heap.objs.size L ∧ Has Y.key ks ks.length L ∧
          (∀ b o, s.heap.get? b = some o → h'.get? b = some o)) E) F.called_set.init.plain F.entry_set_init (check_set_init_1 hT ?_)) fun r₂ s₂ hr₂ => ?_
      · obtain ⟨ol, hol, hcl, nl, hdl⟩ := hl
        obtain ⟨ocls, odict, odata, oslots⟩ := ol
        simp only at hcl hdl
        subst hcl; subst hdl
        have hol' : (s.heap.push (newSetO w)).get? l = some { cls := .type "list", dict := odict, data := .seq items nl, slots := oslots } := Heap.get?_push_of_some _ hol
        have hsls := F.sub_list_set
        have hslf := F.sub_list_frozenset
        have hne : (Value.type "list" == Value.type "dict") = false := by decide
        have hl1 : (s.heap.push (newSetO w)).IsList l items := ⟨_, hol', rfl, nl, rfl⟩
        unfold Builtin.«set.__init__» noKeywords Builtin.Frozenset.updateFrom
        generalize hPI : pyIter = PI
        wp_walk
        subst hPI
        refine wpAny_pyIter_list hl1 ?_
        refine wpAny_bind (wpAny_runValue ?_)
        have hlS : l < s.heap.objs.size := Heap.lt_size hol
        have hh3 : A.in1.in1.in1.handled = none := by simp [hh]
        have hz1 : (s.heap.push (newSetO w)).objs.size = s.heap.objs.size + 1 := Heap.size_push ..
        have hneI : l ≠ (s.heap.push (newSetO w)).objs.size := by
          rw [hz1]
          exact Nat.ne_of_lt (Nat.lt_succ_of_lt hlS)
        have hSf : s.heap.objs.size ∉ [(s.heap.push (newSetO w)).objs.size, l] := by
          rw [hz1]
          simp only [List.mem_cons, List.mem_singleton, List.not_mem_nil, or_false, not_or]
          exact ⟨Nat.ne_of_lt (Nat.lt_succ_self _), Nat.ne_of_gt hlS⟩
        have none_of : ∀ b, s.heap.objs.size ≤ b → s.heap.get? b = none := fun b hb => by
          cases q : s.heap.get? b with
          | none => rfl
          | some o => exact absurd (Nat.lt_of_lt_of_le (Heap.lt_size q) hb) (Nat.lt_irrefl _)
        refine fill_loop Y ((Walks.list hh3 _ l hneI items).toS) s.heap.objs.size hSf ks hsz hfew s.heap hit hk (none_of _ (Nat.le_refl _)) (fun b hb => none_of b (by
            rw [List.mem_singleton.mp hb, hz1]
            exact Nat.le_succ _)) (by show A.units + 1 + 1 + 1 + 8 < cLine; omega) (items.size - 0) 0 _ (by omega) (Nat.zero_le _)
          ⟨⟨_, Heap.get?_push_size _ rfl, rfl, rfl⟩, (hl1.push _)⟩ (fun b o e => Heap.get?_push_of_some _ (Heap.get?_push_of_some _ e)) ?hS0 ?hR
        case hS0 =>
          have hget : ((s.heap.push (newSetO w)).push { cls := .type "list_iterator", data := .fields #[.ref l, .int 0 0] }).get? s.heap.objs.size = some (newSetO w) := Heap.get?_push_of_some _ hS
          exact ⟨[], Y.fresh hget, Has.zero⟩
        case hR =>
          intro s' L hm hS' g' hkp
          obtain ⟨h', g2, d', tk', os'⟩ := s'
          have eg : g2 = s.gens := hm.gens
          have ed : d' = s.drawn := hm.drawn
          have eo : os' = s.os := hm.os
          subst eg; subst ed; subst eo
          show wpAny _ _ _ _ _ _
          refine wpAny_pure ?_
          show wpAny _ _ (ret Value.none) _ _ _
          rw [hsz] at g'
          exact wpAny_pure ⟨rfl, h', tk', L, rfl, hS', g', hkp⟩
      · cases r₂ with
        | error e => exact hr₂
        | ok fl₂ =>
          cases fl₂ with
          | ret r =>
            obtain ⟨rfl, h', tk, L, rfl, hS', g', hk'⟩ := hr₂
            repeat (any_goals (first | assumption | wp_step))
            exact h _ _ _ hS' g' hk'
          | _ => exact hr₂.elim
    | _ => exact hr.elim
end
end Kf
end

section
set_option Elab.async false
set_option linter.all false
set_option maxRecDepth 100000
set_option maxHeartbeats 4000000
namespace Kf
open PySem L2 PySem.Spec PyProof.Rows

/-! ### orders and moves as data, as keys -/
def dO (o : List Nat) : PyData := .tuple (o.map fun k : Nat => .int (k : Int))
def dM (m : Mv) : PyData := .tuple [dO m.1, .int m.2]
def kO (o : List Nat) : NestedKey := .tup (o.map fun k : Nat => .num (k : Int))
def kM (m : Mv) : NestedKey := .tup [kO m.1, .num m.2]
theorem datas_nums : ∀ o : List Nat, NestedKey.datas (o.map fun k : Nat => .num (k : Int)) = o.map fun k : Nat => .int (k : Int)
  | [] => by simp only [List.map_nil, NestedKey.datas]
  | k :: o => by simp only [List.map_cons, NestedKey.datas, NestedKey.data, datas_nums o]
theorem kO_data (o : List Nat) : (kO o).data = dO o := by
  unfold kO dO
  simp only [NestedKey.data, datas_nums]
theorem kM_data (m : Mv) : (kM m).data = dM m := by
  unfold kM dM
  simp only [NestedKey.data, NestedKey.datas, kO_data]
theorem nums_inj : ∀ o p : List Nat, (o.map fun k : Nat => NestedKey.num (k : Int)) = (p.map fun k : Nat => NestedKey.num (k : Int)) → o = p
  | [], [], _ => rfl
  | [], _ :: _, h => by simp at h
  | _ :: _, [], h => by simp at h
  | a :: o, b :: p, h => by
    rw [List.map_cons, List.map_cons] at h
    injection h with h1 h2
    injection h1 with h1
    rw [nums_inj o p h2, Int.ofNat.inj h1]
theorem kO_inj {o p : List Nat} (h : kO o = kO p) : o = p := by
  unfold kO at h
  injection h with h
  exact nums_inj o p h
theorem kM_inj {m n : Mv} (h : kM m = kM n) : m = n := by
  unfold kM at h
  injection h with h
  injection h with h1 h2
  injection h2 with h2 _
  injection h2 with h2
  exact Prod.ext (kO_inj h1) h2
theorem nums_num : ∀ o : List Nat, numeric.go (o.map fun k : Nat => NestedKey.num (k : Int)) = true
  | [] => rfl
  | k :: o => by simp only [List.map_cons, numeric.go, numeric, nums_num o, Bool.and_self]
theorem kO_num (o : List Nat) : numeric (kO o) = true := by
  unfold kO
  simp only [numeric, nums_num]
theorem kM_num (m : Mv) : numeric (kM m) = true := by
  unfold kM
  simp only [numeric, numeric.go, kO_num, Bool.and_self]
theorem nums_depth : ∀ o : List Nat, NestedKey.depthAll (o.map fun k : Nat => NestedKey.num (k : Int)) = 0
  | [] => by simp only [List.map_nil, NestedKey.depthAll]
  | k :: o => by simp only [List.map_cons, NestedKey.depthAll, NestedKey.depth, nums_depth o, Nat.max_self]
theorem kO_depth (o : List Nat) : (kO o).depth = 1 := by
  unfold kO
  simp only [NestedKey.depth, nums_depth]
theorem kM_depth (m : Mv) : (kM m).depth = 2 := by
  unfold kM
  simp only [NestedKey.depth, NestedKey.depthAll, kO_depth]
  rfl
/-- a type of keys -/
structure KTy (β : Type) where
  nk : β → NestedKey
  inj : ∀ {x y : β}, nk x = nk y → x = y
  num : ∀ x, numeric (nk x) = true
  dep : ∀ x, (nk x).depth ≤ 8
def tyO : KTy (List Nat) := ⟨kO, kO_inj, kO_num, fun x => by rw [kO_depth]; decide⟩
def tyM : KTy Mv := ⟨kM, kM_inj, kM_num, fun x => by rw [kM_depth]; decide⟩

mutual
theorem key_of_reads {h : Heap} : ∀ (k : NestedKey) {v : Value} {as : List Addr}, Reads h v k.data as → NestedIs h k v ∧ as = []
  | .none, _, _, r => by
    simp only [NestedKey.data] at r
    cases r
    exact ⟨.none, rfl⟩
  | .num i, _, _, r => by
    simp only [NestedKey.data] at r
    cases r
    exact ⟨.int _ _, rfl⟩
  | .text x, _, _, r => by
    simp only [NestedKey.data] at r
    cases r
    exact ⟨.text _ _, rfl⟩
  | .tup ks, _, _, r => by
    simp only [NestedKey.data] at r
    cases r with
    | tuple h1 h2 h3 h4 =>
      obtain ⟨a, e⟩ := keys_of_reads ks h4
      exact ⟨.tup h1 h2 h3 a, e⟩
theorem keys_of_reads {h : Heap} : ∀ (ks : List NestedKey) {vs : List Value} {as : List Addr}, ReadsAll h vs (NestedKey.datas ks) as → NestedAll h ks vs ∧ as = []
  | [], _, _, r => by
    simp only [NestedKey.datas] at r
    cases r
    exact ⟨.nil, rfl⟩
  | k :: ks, _, _, r => by
    simp only [NestedKey.datas] at r
    cases r with
    | cons r1 r2 =>
      obtain ⟨a1, e1⟩ := key_of_reads k r1
      obtain ⟨a2, e2⟩ := keys_of_reads ks r2
      exact ⟨.cons a1 a2, by rw [e1, e2]; rfl⟩
end
section
variable {X : Cx} {pins : List (Addr × Obj)} {σ : L2.St} {H : Hp} {s : Shared} {β : Type}
theorem key_at (I : Inv X pins σ H s) (T : KTy β) {a : Addr} {b : β} (h : Dp X.K H (.ref a) (T.nk b).data) : NIs s.heap (a, T.nk b) := by
  obtain ⟨as, r⟩ := Dp.reads I _ _ (Value.ref a) h rfl
  exact ⟨(key_of_reads _ r).1, T.dep b⟩
end

/-! ### the order of moves -/
def leM : Mv → Mv → Bool := PySem.W.dataLe false dM
theorem leM_total : PySem.W.TotalLe leM := PySem.W.sortLe_total (listOrd itemOrd) false fun b => PySem.W.keyToks (dM b)
theorem alike_nums : ∀ o p : List Nat, PySem.W.alikeAll (o.map fun k : Nat => .int (k : Int)) (p.map fun k : Nat => .int (k : Int)) = true
  | [], _ => by simp [PySem.W.alikeAll]
  | _ :: _, [] => by simp [PySem.W.alikeAll]
  | a :: o, b :: p => by simp [PySem.W.alikeAll, PySem.W.alike, alike_nums o p]
theorem alike_O (o p : List Nat) : PySem.W.alike (dO o) (dO p) = true := by
  unfold dO
  simp only [PySem.W.alike, alike_nums]
theorem alike_M (m n : Mv) : PySem.W.alike (dM m) (dM n) = true := by
  unfold dM
  simp only [PySem.W.alike, PySem.W.alikeAll, alike_O, Bool.and_self]
theorem eqv_nums : ∀ o p : List Nat, PyData.eqvAll (o.map fun k : Nat => .int (k : Int)) (p.map fun k : Nat => .int (k : Int)) = decide (o = p)
  | [], [] => by simp [PyData.eqvAll]
  | [], _ :: _ => by simp [PyData.eqvAll]
  | _ :: _, [] => by simp [PyData.eqvAll]
  | a :: o, b :: p => by
    rw [List.map_cons, List.map_cons]
    simp only [PyData.eqvAll, PyData.eqv, eqv_nums o p]
    by_cases e : a = b
    · subst e
      simp
    · have e2 : ¬ ((a : Int) = (b : Int)) := by omega
      simp [e, e2]
theorem eqv_O (o p : List Nat) : PyData.eqv (dO o) (dO p) = decide (o = p) := by
  unfold dO
  simp only [PyData.eqv, eqv_nums]
theorem eqv_M (m n : Mv) : PyData.eqv (dM m) (dM n) = decide (m = n) := by
  unfold dM
  simp only [PyData.eqv, PyData.eqvAll, eqv_O, Bool.and_true]
  obtain ⟨a, b⟩ := m
  obtain ⟨c, d⟩ := n
  by_cases e1 : a = c
  · by_cases e2 : b = d
    · simp [e1, e2]
    · simp [e1, e2]
  · simp [e1]
theorem leM_anti {m n : Mv} (h1 : leM m n = true) (h2 : leM n m = true) : m = n := by
  have a1 : PySem.W.dataLt (dM n) (dM m) = false := by
    have h : (!PySem.W.dataLt (dM n) (dM m)) = true := h1
    simpa using h
  have a2 : PySem.W.dataLt (dM m) (dM n) = false := by
    have h : (!PySem.W.dataLt (dM m) (dM n)) = true := h2
    simpa using h
  have e := lex_total _ _ a2 a1
  cases q : PyData.eqv (dM m) (dM n) with
  | true =>
    rw [eqv_M] at q
    exact of_decide_eq_true q
  | false =>
    have h3 := (PySem.W.toks_eqv _ _ (alike_M m n)).2 q [] [Sum.inl 0]
    rw [← e, PySem.W.lex_pre, lex_irrefl] at h3
    have h4 : PyProof.Rows.lexLt itemOrd ([] : List (Int ⊕ List Nat)) [Sum.inl 0] = true := rfl
    rw [h4] at h3
    cases h3
/-- the list of these moves, rising -/
def rise (L : List Mv) : List Mv := L.mergeSort leM
theorem rise_perm (L : List Mv) : (rise L).Perm L := List.mergeSort_perm _ _
theorem rise_same {L J : List Mv} (h : L.Perm J) : rise L = rise J := by
  refine List.Perm.eq_of_pairwise (le := fun a b => leM a b = true) (fun a b _ _ => leM_anti) (PySem.W.sort_pairwise leM_total _) (PySem.W.sort_pairwise leM_total _) ?_
  exact (rise_perm L).trans (h.trans (rise_perm J).symm)
theorem rise_rise (L : List Mv) : rise (rise L) = rise L := rise_same (rise_perm L)
end Kf
end

section
set_option Elab.async false
set_option linter.all false
set_option maxRecDepth 100000
set_option maxHeartbeats 4000000
namespace Kf
open PySem L2 PySem.Spec PyProof.Rows

/-! ### sets of tuples and of texts, as the generic call wants them -/
def nestSys (P : Program) (w : World) : SetSys P w Nd NestedKey where
  key := fun p => p.2
  Is := fun h p v => v = .ref p.1 ∧ NIs h p ∧ numeric p.2 = true
  St := fun h a L => ∃ es ep t, NSet w h a L es ep t
  keep := fun k x => ⟨x.1, nis_keep k x.2.1, x.2.2⟩
  stay := fun k x => let ⟨es, ep, t, R⟩ := x; let ⟨o, ho, r⟩ := R.ob; ⟨es, ep, t, ⟨o, k o ho, r⟩, R.rows, R.tab, R.nd, R.plain, R.led, R.room, R.few⟩
  fresh := fun {h a} ho => by
    refine ⟨#[], 0, .fresh 0 0 (!w.params.followText "set-order"), ⟨_, ho, ⟨rfl, rfl, rfl⟩, rfl⟩, rfl, ⟨List.Pairwise.nil, rfl, rfl, .inl rfl, (fun x hx => by cases hx), (fun i h j hi => by simp at hi)⟩, List.nodup_nil, rfl, ?_, by show 0 * 5 < 7 * 3; decide, by show 0 < 64; decide⟩
    show _ ∨ (!w.params.followText "set-order") = true
    cases w.params.followText "set-order"
    · exact .inr rfl
    · exact .inl rfl
  add := fun {A E s a L x v Q} hu hS hall hx hfew hQ => by
    obtain ⟨es, ep, t, R⟩ := hS
    obtain ⟨rfl, hx1, hx2⟩ := hx
    unfold setAdd
    refine wpAny_holding ?_
    refine wpAny_bind (pyHash_key x.2 _ _ _ _ hx1.1 (by have := hx1.2; omega) ?_)
    refine add_key (s := { s with toks := s.toks + x.2.draws }) R (fun p hp => (hall p hp).choose_spec.2.1) hx1 hx2 hu hfew fun b h' L' es' ep' t' sb R' c1 c2 => ?_
    exact hQ b h' _ L' (Nat.le_add_right _ _) sb ⟨es', ep', t', R'⟩ c1 c2
theorem setOf_eq {P : Program} {w : World} {h : Heap} {a : Addr} {S S' : Key → Bool} {n : Nat} (R : h.SetOf (mixKind P w) a S n) (e : ∀ k, S k = S' k) : h.SetOf (mixKind P w) a S' n := by
  have q : S = S' := funext e
  rw [← q]
  exact R
def txS (L : List Str) : Key → Bool := fun k => L.any fun x => decide (k = Sum.inr x)
def textSys (P : Program) (w : World) : SetSys P w Str Str where
  key := fun p => p
  Is := fun _ x v => ∃ t, v = .str x t
  St := fun h a L => L.Nodup ∧ h.SetOf (mixKind P w) a (txS L) L.length
  keep := fun _ x => x
  stay := fun k x => ⟨x.1, setOf_at x.2 k⟩
  fresh := fun {h a} ho => ⟨List.nodup_nil, ⟨_, #[], 0, _, ho, ⟨rfl, rfl, rfl⟩, rfl, (fun e he => by simp at he), (fun k => by simp [txS]), (by decide), (by rfl), rfl⟩⟩
  add := fun {A E s a L x v Q} hu hS _ hx hfew hQ => by
    obtain ⟨t, rfl⟩ := hx
    unfold setAdd
    refine wpAny_holding ?_
    refine wpAny_bind ((mixKind P w).pyHash (k := Sum.inr x) (mixKind_str P w x t) ?_)
    refine wpAny_setAddHashed_of (knd := mixKind P w) (s := { s with toks := s.toks + 1 }) (mixKind_str P w x t) rfl hS.2 (by unfold scanBound; omega) fun h' sb new => ?_
    by_cases hm : x ∈ L
    · have e1 : txS L (Sum.inr x) = true := List.any_eq_true.mpr ⟨x, hm, decide_eq_true rfl⟩
      rw [if_pos e1] at new
      refine hQ _ h' _ L (Nat.le_add_right _ _) sb ⟨hS.1, setOf_eq new (fun k => ?_)⟩ (fun _ => rfl) fun z => absurd (by rw [List.map_id']; exact hm) z
      show (txS L k || decide (k = Sum.inr x)) = txS L k
      by_cases hk : k = Sum.inr x
      · rw [hk, e1]
        rfl
      · rw [decide_eq_false hk, Bool.or_false]
    · have e1 : txS L (Sum.inr x) = false := by
        cases q : txS L (Sum.inr x) with
        | false => rfl
        | true =>
          obtain ⟨y, hy, e⟩ := List.any_eq_true.mp q
          have e2 := Sum.inr.inj (of_decide_eq_true e)
          exact absurd (by rw [e2]; exact hy) hm
      rw [if_neg (by rw [e1]; decide)] at new
      refine hQ _ h' _ (x :: L) (Nat.le_add_right _ _) sb ⟨List.nodup_cons.mpr ⟨hm, hS.1⟩, setOf_eq new (fun k => ?_)⟩ (fun z => absurd (by rw [List.map_id'] at z; exact z) hm) fun _ => List.Perm.refl _
      show (txS L k || decide (k = Sum.inr x)) = (decide (k = Sum.inr x) || txS L k)
      exact Bool.or_comm _ _

theorem lift_list {α β : Type} {f : α → β} {ks : List α} : ∀ {L : List β}, (∀ x ∈ L, x ∈ ks.map f) → ∃ L' : List α, L = L'.map f ∧ ∀ y ∈ L', y ∈ ks
  | [], _ => ⟨[], rfl, fun _ z => nomatch z⟩
  | x :: L, h => by
    obtain ⟨y, hy, e⟩ := List.mem_map.mp (h x List.mem_cons_self)
    obtain ⟨L', e2, h2⟩ := lift_list (L := L) fun z hz => h z (List.mem_cons_of_mem _ hz)
    refine ⟨y :: L', by rw [List.map_cons, e, e2], fun z hz => ?_⟩
    rcases List.mem_cons.mp hz with q | q
    · rw [q]
      exact hy
    · exact h2 z q
theorem refs_val {α : Type} {f : α → Addr} : ∀ {ks : List α} {us : List Value}, Vals (ks.map fun p => V.ref (f p)) us → us = ks.map fun p => Value.ref (f p)
  | [], _, r => by
    cases r
    rfl
  | p :: ks, _, r => by
    cases r with
    | cons r t =>
      cases r
      rw [refs_val t]
      rfl
theorem val_refs {α : Type} {f : α → Addr} : ∀ (ks : List α), Vals (ks.map fun p => V.ref (f p)) (ks.map fun p => Value.ref (f p))
  | [] => .nil
  | p :: ks => .cons rfl (val_refs ks)

section
variable {X : Cx} {β : Type}
/-- at a a set of these, each with the tuple that stands for it -/
def SetNO (w : World) (T : KTy β) (a : Addr) (L : List (Addr × β)) : HO := .ext fun h => ∃ es ep t, NSet w h a (L.map fun p => (p.1, T.nk p.2)) es ep t
theorem setN_ok {P : Program} {w : World} {H : Hp} {h : Heap} {T : KTy β} {a : Addr} {L : List (Addr × β)} (R : ∃ es ep t, NSet w h a (L.map fun p => (p.1, T.nk p.2)) es ep t) : ObjOk P w H h a (SetNO w T a L) := by
  refine ⟨R, ?_, fun h1 h2 p k => (nestSys P w).stay k p⟩
  obtain ⟨es, ep, t, R⟩ := R
  obtain ⟨o, ho, _⟩ := R.ob
  exact ⟨o, ho⟩
/-- set(xs), xs a list of such tuples -/
def rSetN (K : PySem.W.Frag) (w : World) (T : KTy β) : List V → Hp → VK → Prop := fun xs H Q => ∃ (l : Addr) (ks : List (Addr × β)), xs = [V.ref l] ∧ SqL K H l (ks.map fun p => V.ref p.1) ∧ (∀ p ∈ ks, Dp K H (.ref p.1) (T.nk p.2).data) ∧ ks.length < 64 ∧
  ∀ a L, H a = none → (∀ p ∈ L, p ∈ ks) → (∀ p ∈ ks, p.2 ∈ L.map (·.2)) → (L.map (·.2)).Nodup → Q (.ref a) (upd H a (SetNO w T a L))
theorem cr_setN (T : KTy β) (hc : X.calm = true) (hu : X.A.units + 64 < cLine) : CallR X (.type "set") (rSetN X.K X.w T) := by
  intro pins s σ H xs us Q I r h
  obtain ⟨l, ks, rfl, hl, hk, hf, q⟩ := h
  rw [Vals.ref1 r]
  obtain ⟨its, rv, pl, hz⟩ := I.list hl
  have hn : H s.heap.objs.size = none := I.hok.fresh (Nat.le_refl _)
  have ei : its = ks.map fun p => Value.ref p.1 := refs_val rv
  have at_ : ∀ p, p ∈ ks → (nestSys X.prog X.w).Is s.heap (p.1, T.nk p.2) (.ref p.1) := fun p hp => ⟨rfl, key_at I T (hk p hp), T.num _⟩
  refine call_set (nestSys X.prog X.w) (ks.map fun p => (p.1, T.nk p.2)) (I.ok.hd hc) pl.isList (by rw [List.size_toArray, ei, List.length_map, List.length_map]) (fun i v hv => ?_) (fun p hp => ?_) (by rw [List.length_map]; exact hf) (by omega) fun h' tk L hS g k => ?_
  · have hv' : its[i]? = some v := by simpa using hv
    rw [ei, List.getElem?_map] at hv'
    cases e : ks[i]? with
    | none => rw [e] at hv'; cases hv'
    | some p =>
      rw [e] at hv'
      have e2 : Value.ref p.1 = v := Option.some.inj hv'
      rw [← e2]
      exact ⟨(p.1, T.nk p.2), by rw [List.getElem?_map, e]; rfl, at_ p (List.mem_of_getElem? e)⟩
  · obtain ⟨q, hq, e⟩ := List.mem_map.mp hp
    rw [← e]
    exact ⟨_, at_ q hq⟩
  · rw [List.length_map] at g
    obtain ⟨L', e, hL⟩ := lift_list (L := L) (ks := ks) (f := fun p => (p.1, T.nk p.2)) fun p hp => List.mem_of_mem_take (g.sub p hp)
    subst e
    refine ⟨.ref s.heap.objs.size, upd H s.heap.objs.size (SetNO X.w T s.heap.objs.size L'), I.laid (t' := tk) k (Nat.le_refl _) (setN_ok hS), rfl, q _ L' hn hL (fun p hp => ?_) ?_⟩
    · have h1 := g.all (p.1, T.nk p.2) (by rw [← List.length_map (f := fun p : Addr × β => (p.1, T.nk p.2)), List.take_length]; exact List.mem_map.mpr ⟨p, hp, rfl⟩)
      obtain ⟨z, hz, e⟩ := List.mem_map.mp h1
      obtain ⟨y, hy, e2⟩ := List.mem_map.mp hz
      have e3 : T.nk y.2 = T.nk p.2 := by
        rw [← e2] at e
        exact e
      exact List.mem_map.mpr ⟨y, hy, T.inj e3⟩
    · obtain ⟨es, ep, t, R⟩ := hS
      have nd := R.nd
      rw [List.map_map] at nd
      refine List.pairwise_map.mpr (List.Pairwise.imp (fun {x y} hne e => ?_) (List.pairwise_map.mp nd))
      exact hne (by show T.nk x.2 = T.nk y.2; rw [e])
/-- len of such a set -/
def rLenN (w : World) (T : KTy β) : List V → Hp → VK → Prop := fun xs H Q => ∃ (a : Addr) (L : List (Addr × β)), xs = [V.ref a] ∧ H a = some (SetNO w T a L) ∧ Q (.int (L.length : Nat)) H
theorem cr_lenN (T : KTy β) : CallR X (.builtin "len") (rLenN X.w T) := by
  intro pins s σ H xs us Q I r h
  obtain ⟨a, L, rfl, ha, q⟩ := h
  rw [Vals.ref1 r]
  obtain ⟨es, ep, t, R⟩ := (I.hok a _ ha).1
  obtain ⟨o, ho, hex, hd⟩ := R.ob
  have hsz := R.size
  rw [List.length_map] at hsz
  have hfew := R.few
  rw [List.length_map] at hfew
  refine call_len_set ho hex hd R.fits (by rw [hsz]; omega) ⟨.int (L.length : Nat), H, I.tok _, ⟨_, by rw [hsz]⟩, q⟩
/-- set(xs), xs a list of texts -/
def rSetS (K : PySem.W.Frag) (P : Program) (w : World) : List V → Hp → VK → Prop := fun xs H Q => ∃ (l : Addr) (ks : List Str), xs = [V.ref l] ∧ SqL K H l (ks.map V.str) ∧ ks.length < 64 ∧
  ∀ a L, H a = none → (∀ p ∈ L, p ∈ ks) → (∀ p ∈ ks, p ∈ L) → L.Nodup → Q (.ref a) (upd H a (SetK P w a (txS L) L.length))
theorem cr_setS (hc : X.calm = true) (hu : X.A.units + 64 < cLine) : CallR X (.type "set") (rSetS X.K X.prog X.w) := by
  intro pins s σ H xs us Q I r h
  obtain ⟨l, ks, rfl, hl, hf, q⟩ := h
  rw [Vals.ref1 r]
  obtain ⟨its, rv, pl, hz⟩ := I.list hl
  have hn : H s.heap.objs.size = none := I.hok.fresh (Nat.le_refl _)
  have at_ : ∀ (i : Nat) v, its[i]? = some v → ∃ x, ks[i]? = some x ∧ ∃ t, v = .str x t := fun i v hv => by
    have hl2 := rv.length
    rw [List.length_map] at hl2
    have hi : i < ks.length := by
      rw [hl2]
      exact (List.getElem?_eq_some_iff.mp hv).1
    have e : (ks.map V.str)[i]? = some (.str ks[i]) := by
      rw [List.getElem?_map, List.getElem?_eq_getElem hi]
      rfl
    obtain ⟨u, hu, t, ru⟩ := rv.get e
    rw [hv] at hu
    refine ⟨ks[i], List.getElem?_eq_getElem hi, t, ?_⟩
    rw [← ru]
    exact Option.some.inj hu
  refine call_set (textSys X.prog X.w) ks (I.ok.hd hc) pl.isList (by rw [List.size_toArray, ← rv.length, List.length_map]) (fun i v hv => at_ i v (by simpa using hv)) (fun p _ => ⟨.str p 0, 0, rfl⟩) hf (by omega) fun h' tk L hS g k => ?_
  refine ⟨.ref s.heap.objs.size, upd H s.heap.objs.size (SetK X.prog X.w s.heap.objs.size (txS L) L.length), I.laid (t' := tk) k (Nat.le_refl _) (setK_new hS.2), rfl, q _ L hn (fun p hp => List.mem_of_mem_take (g.sub p hp)) (fun p hp => ?_) hS.1⟩
  have h1 := g.all p (by rw [List.take_length]; exact hp)
  have h2 : p ∈ L.map fun x => x := h1
  rw [List.map_id'] at h2
  exact h2
/-- len of a set of keys -/
def rLenK (P : Program) (w : World) : List V → Hp → VK → Prop := fun xs H Q => ∃ (a : Addr) (S : Key → Bool) (n : Nat), xs = [V.ref a] ∧ H a = some (SetK P w a S n) ∧ Q (.int (n : Nat)) H
theorem cr_lenK : CallR X (.builtin "len") (rLenK X.prog X.w) := by
  intro pins s σ H xs us Q I r h
  obtain ⟨a, S, n, rfl, ha, q⟩ := h
  rw [Vals.ref1 r]
  obtain ⟨o, es, ep, t, ho, hex, hd, _, _, hb, hf, hn⟩ := setK_get I ha
  have hb' : es.size < 4096 := hb
  refine call_len_set ho hex hd hf (by omega) ⟨.int (n : Nat), H, I.tok _, ⟨_, by rw [hn]⟩, q⟩
end

/-! ### sorted of what collects to moves -/
theorem perm_lift {α β : Type} {f : α → β} {vs ws : List β} (h : vs.Perm ws) : ∀ L : List α, ws = L.map f → ∃ L1 : List α, vs = L1.map f ∧ L1.Perm L := by
  induction h with
  | nil =>
    intro L e
    cases L with
    | nil => exact ⟨[], rfl, List.Perm.refl _⟩
    | cons _ _ => cases e
  | cons x _ ih =>
    intro L e
    cases L with
    | nil => cases e
    | cons y L =>
      rw [List.map_cons] at e
      injection e with e1 e2
      obtain ⟨L1, a, b⟩ := ih L e2
      exact ⟨y :: L1, by rw [List.map_cons, e1, a], b.cons y⟩
  | swap x y l =>
    intro L e
    match L, e with
    | u :: v :: L, e =>
      rw [List.map_cons, List.map_cons] at e
      injection e with e1 e2
      injection e2 with e2 e3
      exact ⟨v :: u :: L, by rw [List.map_cons, List.map_cons, e1, e2, e3], List.Perm.swap u v L⟩
  | trans _ _ ih1 ih2 =>
    intro L e
    obtain ⟨L2, a, b⟩ := ih2 L e
    obtain ⟨L1, c, d⟩ := ih1 L2 a
    exact ⟨L1, c, d.trans b⟩
/-- moves where they stand, rising -/
def riseA (L : List (Addr × Mv)) : List (Addr × Mv) := L.mergeSort (PySem.W.dataLe false fun q => dM q.2)
theorem riseA_map (L : List (Addr × Mv)) : (riseA L).map (·.2) = rise (L.map (·.2)) :=
  PySem.W.sort_maps (fun q : Addr × Mv => q.2) fun _ _ _ _ => rfl
theorem riseA_perm (L : List (Addr × Mv)) : (riseA L).Perm L := List.mergeSort_perm _ _
theorem each_is {h : Heap} : ∀ {L : List (Addr × Mv)}, (∀ p ∈ L, Reads h (.ref p.1) (dM p.2) []) → PySem.W.EachIs (fun v (q : Addr × Mv) => Reads h v (dM q.2) []) (L.map fun p => Value.ref p.1) L
  | [], _ => .nil
  | p :: L, hL => .cons (hL p List.mem_cons_self) (each_is fun q hq => hL q (List.mem_cons_of_mem _ hq))
theorem each_ref : ∀ {L : List (Addr × Mv)}, PySem.W.EachIs (fun v (q : Addr × Mv) => v = Value.ref q.1) (L.map fun p => Value.ref p.1) L
  | [] => .nil
  | p :: L => .cons rfl each_ref
theorem refs_each : ∀ {out : List Value} {L : List (Addr × Mv)}, PySem.W.EachIs (fun v (q : Addr × Mv) => v = Value.ref q.1) out L → out = L.map fun p => Value.ref p.1
  | _, [], h => by
    cases h
    rfl
  | _, p :: L, h => by
    cases h with
    | cons e t => rw [e, refs_each t]; rfl
theorem depth_nums : ∀ o : List Nat, PyData.depthAll (o.map fun k : Nat => .int (k : Int)) = 0
  | [] => by simp [PyData.depthAll]
  | k :: o => by simp [PyData.depthAll, PyData.depth, depth_nums o]
theorem depth_O (o : List Nat) : (dO o).depth = 1 := by
  unfold dO
  simp only [PyData.depth, depth_nums]
theorem depth_M (m : Mv) : (dM m).depth = 2 := by
  unfold dM
  simp only [PyData.depth, PyData.depthAll, depth_O]
  rfl
section
variable {P : Program} {w : World} {A : Around} {E : Value → Shared → Prop} {s : Shared}
theorem sorted_from {v : Value} {L : List (Addr × Mv)} {Q : Value → Shared → Prop} (J : Shared → Prop) (hJ : ∀ s1, J s1 → ∀ b o, s.heap.get? b = some o → s1.heap.get? b = some o)
    (hr : ∀ p ∈ L, Reads s.heap (.ref p.1) (dM p.2) []) (hz : L.length < 1000) (hu : A.units + 20 < cLine)
    (hcol : ∀ Q' : List Value → Shared → Prop, (∀ s1 vs, J s1 → vs.Perm (L.map fun p => Value.ref p.1) → Q' vs s1) → wpAny (model P w) A.in1 (collect v) Q' E s)
    (hQ : ∀ s1, J s1 → ∀ s' p (L1 : List (Addr × Mv)) (c : Nat), (∀ b o, s1.heap.get? b = some o → s'.heap.get? b = some o) → s'.gens = s1.gens → s'.os = s1.os → s1.heap.objs.size ≤ p → L1.Perm L →
      s'.heap.get? p = some (seqObj "list" ((riseA L1).map fun q => Value.ref q.1).toArray c) → Q (.ref p) s') :
    wpAny (model P w) A (call (.builtin "sorted") [v]) Q E s := by
  refine Calls.call_function_entry kind_sorted plain_sorted entry_sorted (args_sorted1 _) ?_
  unfold Builtin.«sorted»
  refine wpAny_bind (m := checkCount "sorted" 1 1 _) (wpAny_pure ?_)
  refine wpAny_bind (hcol _ fun s1 vs j1 pm => ?_)
  have k1 := hJ s1 j1
  obtain ⟨L1, e1, p1⟩ := perm_lift pm L rfl
  subst e1
  have hL1 : L1.length < 1000 := by
    rw [p1.length_eq]
    exact hz
  refine wpAny_bind (wpAny_newList ?_ (by rw [List.length_map, sizeLine_eq]; omega))
  have hoL : (s1.heap.push (seqObj "list" (L1.map fun p => Value.ref p.1).toArray 0)).get? s1.heap.objs.size = some (seqObj "list" (L1.map fun p => Value.ref p.1).toArray 0) := Heap.get?_push_size _ rfl
  have er : PySem.W.EachIs (fun v (q : Addr × Mv) => ∃ as, Reads (s1.heap.push (seqObj "list" (L1.map fun p => Value.ref p.1).toArray 0)) v (dM q.2) as ∧ s1.heap.objs.size ∉ as) (L1.map fun p => Value.ref p.1) L1 :=
    (each_is (h := s1.heap.push (seqObj "list" (L1.map fun p => Value.ref p.1).toArray 0)) fun p hp => PyProof.Rows.Reads.keeps (fun b o e => Heap.get?_push_of_some _ (k1 b o e)) (hr p (p1.mem_iff.mp hp))).mono fun _ _ r => ⟨[], r, fun z => nomatch z⟩
  refine wpAny_bind (wpAny_holding (PySem.W.list_sort_data (s := { s1 with heap := s1.heap.push (seqObj "list" (L1.map fun p => Value.ref p.1).toArray 0) }) (bs := L1) (enc := fun q => dM q.2) (R := fun v q => v = Value.ref q.1) hoL each_ref er
    (PySem.W.AllAlike.of fun b b' => alike_M b.2 b'.2) (PySem.W.Sortable.tuples fun b => ⟨_, _, rfl⟩) (by rw [sizeLine_eq]; omega) (fun b _ => by
      show A.units + 1 + 1 + (dM b.2).depth < cLine
      rw [depth_M]
      omega) fun out hlen ho => ?_))
  have eo : out = (riseA L1).map fun p => Value.ref p.1 := refs_each ho
  obtain ⟨c, hc⟩ := sortedHeap_at (vs := L1.map fun p => Value.ref p.1) (out := out.toArray) hoL
  refine wpAny_pure ⟨_, rfl, hQ s1 j1 _ s1.heap.objs.size L1 c (fun b u q => ?_) rfl rfl (Nat.le_refl _) p1 ?_⟩
  · have hlt := Heap.lt_size q
    show (sortedHeap (s1.heap.push _) s1.heap.objs.size _ _).get? b = some u
    rw [sortedHeap_old (Nat.ne_of_lt hlt) (by rw [size_push']; exact Nat.lt_succ_of_lt hlt)]
    exact Heap.get?_push_of_some _ q
  · rw [← eo]
    exact hc
end
section
variable {X : Cx}
theorem reads_M {pins : List (Addr × Obj)} {σ : L2.St} {H : Hp} {s : Shared} (I : Inv X pins σ H s) {a : Addr} {m : Mv} (h : Dp X.K H (.ref a) (dM m)) : Reads s.heap (.ref a) (dM m) [] := by
  obtain ⟨as, r⟩ := Dp.reads I _ _ (Value.ref a) h rfl
  have e : as = [] := by
    rw [← kM_data] at r
    exact (key_of_reads _ r).2
  rw [e] at r
  exact r
/-- sorted(s), s a set of moves -/
def rSortN (K : PySem.W.Frag) (w : World) : List V → Hp → VK → Prop := fun xs H Q => ∃ (a : Addr) (L : List (Addr × Mv)), xs = [V.ref a] ∧ H a = some (SetNO w tyM a L) ∧ (∀ p ∈ L, Dp K H (.ref p.1) (dM p.2)) ∧
  ∀ (L1 : List (Addr × Mv)) p, L1.Perm L → H p = none → Q (.ref p) (upd H p (.lst ((riseA L1).map fun q => V.ref q.1)))
theorem sort_end {pins : List (Addr × Obj)} {σ : L2.St} {H : Hp} {s s' : Shared} {Q : VK} {L : List (Addr × Mv)} {p : Addr} {c : Nat} (I : Inv X pins σ H s) (hz : L.length < 1000) (k : ∀ b o, s.heap.get? b = some o → s'.heap.get? b = some o) (g : s'.gens = s.gens) (o : s'.os = s.os) (hp : s.heap.objs.size ≤ p)
    (hg : s'.heap.get? p = some (seqObj "list" (L.map fun q => Value.ref q.1).toArray c)) (q : Q (.ref p) (upd H p (.lst (L.map fun q => V.ref q.1)))) : EP X pins σ Q (.ref p) s' := by
  have J : Inv X pins σ (upd H p (.lst (L.map fun q => V.ref q.1))) { s with heap := s'.heap, gens := s'.gens, drawn := s'.drawn, toks := s'.toks } :=
    I.call (ch := []) (Un.laid k hp (I.hok.fresh hp)) (I.hok.laid k hp ⟨by rw [List.length_map, sizeLine_eq]; omega, L.map fun q => Value.ref q.1, c, val_refs L, hg⟩) (by rw [g]; exact I.bare) (fun _ z => nomatch z)
  have e : s' = { s with heap := s'.heap, gens := s'.gens, drawn := s'.drawn, toks := s'.toks } := by
    cases s'
    cases s
    cases o
    rfl
  rw [e]
  exact ⟨.ref p, _, J, rfl, q⟩
theorem cr_sortN (hc : X.calm = true) (hu : X.A.units + 64 < cLine) : CallR X (.builtin "sorted") (rSortN X.K X.w) := by
  intro pins s σ H vs us Q I r h
  obtain ⟨a, L, rfl, ha, hk, q⟩ := h
  rw [Vals.ref1 r]
  obtain ⟨es, ep, t, R⟩ := (I.hok a _ ha).1
  obtain ⟨o, ho, hex, hd⟩ := R.ob
  have hfew := R.few
  rw [List.length_map] at hfew
  have hsz := R.size
  rw [List.length_map] at hsz
  have hes : es.toList.map (·.2) = L.map fun q => Value.ref q.1 := by
    rw [R.rows]
    unfold nrows
    rw [List.map_map, List.map_map]
    rfl
  have back : ∀ (s1 : Shared), s1.gens = s.gens → s1.os = s.os → s1 = { s with heap := s1.heap, gens := s1.gens, drawn := s1.drawn, toks := s1.toks } := fun s1 _ o => by
    cases s1
    cases s
    cases o
    rfl
  refine sorted_from (L := L) (fun s1 => (∀ b o, s.heap.get? b = some o → s1.heap.get? b = some o) ∧ Inv X pins σ H s1) (fun _ j => j.1) (fun p hp => reads_M I (hk p hp)) (by omega) (by omega)
    (fun Q' hq => collect_set (A := X.A.in1) (I.ok.hd hc) ⟨o, ho, hex.1, hd⟩ R.fits (by unfold scanBound; omega) R.tab.ris R.led fun s1 vs k1 hz g1 o1 pm => ?_) fun s1 j s' p L1 c k g o hp p1 hg => ?_
  · rw [hes] at pm
    refine hq s1 vs ⟨k1, ?_⟩ pm
    rw [back s1 g1 o1]
    exact I.call (ch := []) (Un.kept k1) (I.hok.kept k1) (by rw [g1]; exact I.bare) (fun _ z => nomatch z)
  · exact sort_end j.2 (by rw [(riseA_perm L1).length_eq, p1.length_eq]; omega) k g o hp hg (q L1 p p1 (j.2.hok.fresh hp))
end
end Kf
end

section
set_option Elab.async false
set_option linter.all false
set_option maxRecDepth 100000
set_option maxHeartbeats 4000000
namespace Kf
open PySem L2 PySem.Spec PyProof.Rows

/-! ### a dict whose keys are moves, each with True -/
def drow (P : Program) (w : World) (p : Addr × Mv) : DictEntry := ⟨(kM p.2).hash w, .ref p.1, .bool true⟩
def DictNO (P : Program) (w : World) (d : Addr) (L : List (Addr × Mv)) : HO := .ext fun h => L.length ≤ 1000 ∧ (d == sysModules) = false ∧ (L.map (·.2)).Nodup ∧ ∃ o es ep, h.get? d = some o ∧ o.ExactDict ∧ o.data = .dict es ep ∧ es.toList = L.map (drow P w)
def dxs (L : List (Addr × Mv)) : List (NestedKey × Addr × Value) := L.map fun p => (kM p.2, p.1, Value.bool true)
theorem dxs_rows (P : Program) (w : World) (L : List (Addr × Mv)) : (dxs L).map (entryOfKey (nestedKind P w)) = L.map (drow P w) := by
  unfold dxs
  rw [List.map_map]
  rfl
section
variable {X : Cx}
theorem dictN_ok {P : Program} {w : World} {H : Hp} {h : Heap} {d : Addr} {L : List (Addr × Mv)} (h1 : L.length ≤ 1000) (h2 : (d == sysModules) = false) (h3 : (L.map (·.2)).Nodup) (h4 : h.DictOfH (nestedKind P w) d (dxs L)) : ObjOk P w H h d (DictNO P w d L) := by
  obtain ⟨o, es, ep, ho, hex, hd, he, _, _⟩ := h4
  rw [dxs_rows] at he
  refine ⟨⟨h1, h2, h3, o, es, ep, ho, hex, hd, he⟩, ⟨o, ho⟩, fun g1 g2 p k => ?_⟩
  obtain ⟨a1, a2, a3, o', es', ep', ho', r⟩ := p
  exact ⟨a1, a2, a3, o', es', ep', k o' ho', r⟩
theorem nodup_nk {L : List (Addr × Mv)} (h : (L.map (·.2)).Nodup) : ((dxs L).map (·.1)).Nodup := by
  unfold dxs
  rw [List.map_map]
  refine List.pairwise_map.mpr (List.Pairwise.imp (fun {x y} hne e => hne (kM_inj e)) (List.pairwise_map.mp h))
theorem dictN_at {pins : List (Addr × Obj)} {σ : L2.St} {H : Hp} {s : Shared} {d : Addr} {L : List (Addr × Mv)} (I : Inv X pins σ H s) (hd : H d = some (DictNO X.prog X.w d L)) (hk : ∀ p ∈ L, Dp X.K H (.ref p.1) (dM p.2)) :
    L.length ≤ 1000 ∧ (d == sysModules) = false ∧ (L.map (·.2)).Nodup ∧ s.heap.DictOfH (nestedKind X.prog X.w) d (dxs L) := by
  obtain ⟨h1, h2, h3, o, es, ep, ho, hex, hdt, he⟩ := (I.hok d _ hd).1
  refine ⟨h1, h2, h3, o, es, ep, ho, hex, hdt, by rw [dxs_rows]; exact he, fun x hx => ?_, nodup_nk h3⟩
  obtain ⟨p, hp, e⟩ := List.mem_map.mp hx
  rw [← e]
  exact key_at I tyM (by rw [show (tyM.nk p.2).data = dM p.2 from kM_data p.2]; exact hk p hp)
theorem atKey_dxs {m : Mv} : ∀ {L : List (Addr × Mv)}, (atKey (dxs L) (kM m)).isSome = decide (m ∈ L.map (·.2))
  | [] => rfl
  | p :: L => by
    have ih := atKey_dxs (m := m) (L := L)
    have e0 : dxs (p :: L) = (kM p.2, p.1, Value.bool true) :: dxs L := rfl
    unfold atKey at ih ⊢
    rw [e0, List.find?_cons]
    by_cases e : p.2 = m
    · have e1 : decide ((kM p.2, p.1, Value.bool true).1 = kM m) = true := decide_eq_true (by rw [e])
      rw [e1]
      show true = _
      rw [decide_eq_true (by rw [List.map_cons, e]; exact List.mem_cons_self)]
    · have e1 : decide ((kM p.2, p.1, Value.bool true).1 = kM m) = false := decide_eq_false fun q => e (kM_inj q)
      rw [e1]
      show _ = decide (m ∈ p.2 :: L.map (·.2))
      rw [ih]
      refine decide_eq_decide.mpr ⟨fun h => List.mem_cons_of_mem _ h, fun h => ?_⟩
      rcases List.mem_cons.mp h with q | q
      · exact absurd q.symm e
      · exact q
/-- m not in d -/
def rNotInN (K : PySem.W.Frag) (P : Program) (w : World) : R2 := fun x y H Q => ∃ (a d : Addr) (m : Mv) (L : List (Addr × Mv)), x = .ref a ∧ y = .ref d ∧ H d = some (DictNO P w d L) ∧ (∀ p ∈ L, Dp K H (.ref p.1) (dM p.2)) ∧ Dp K H (.ref a) (dM m) ∧ Q (.bl (!decide (m ∈ L.map (·.2)))) H
theorem op_notInN (hu : X.A.units + 64 < cLine) : OpR X (compareOp .NotIn) (rNotInN X.K X.prog X.w) := by
  intro pins s σ H x y v u Q I rx ry h
  obtain ⟨a, d, m, L, rfl, rfl, hd, hk, ha, q⟩ := h
  cases rx
  cases ry
  obtain ⟨h1, h2, h3, h4⟩ := dictN_at I hd hk
  have hx : (nestedKind X.prog X.w).is s.heap (kM m) a := key_at I tyM (b := m) (by rw [show (tyM.nk m).data = dM m from kM_data m]; exact ha)
  show wpAny _ _ (do return Value.bool (!(← contains (Value.ref d) (Value.ref a)))) _ _ s
  refine wpAny_bind (wpAny_contains_heap (knd := nestedKind X.prog X.w) (by show X.A.units + 1 + 8 < cLine; omega) hx h2 h4 (wpAny_pure ⟨.bl (!decide (m ∈ L.map (·.2))), H, I.tok _, ?_, q⟩))
  rw [atKey_dxs]
  rfl
/-- d[m] = True, m new -/
def rSetNew (K : PySem.W.Frag) (P : Program) (w : World) : TSet := fun o i v H Q => ∃ (a d : Addr) (m : Mv) (L : List (Addr × Mv)), o = .ref d ∧ i = .ref a ∧ v = .bl true ∧ H d = some (DictNO P w d L) ∧ (∀ p ∈ L, Dp K H (.ref p.1) (dM p.2)) ∧ Dp K H (.ref a) (dM m) ∧ m ∉ L.map (·.2) ∧ L.length < 1000 ∧
  Q (upd H d (DictNO P w d (L ++ [(a, m)])))
theorem set_new (hu : X.A.units + 64 < cLine) : PSet X (rSetNew X.K X.prog X.w) := by
  intro pins s σ H o i v ov iv u Q I ro ri rv h
  obtain ⟨a, d, m, L, rfl, rfl, rfl, hd, hk, ha, hm, hl, q⟩ := h
  cases ro
  cases ri
  cases rv
  obtain ⟨h1, h2, h3, h4⟩ := dictN_at I hd hk
  have hx : (nestedKind X.prog X.w).is s.heap (kM m) a := key_at I tyM (b := m) (by rw [show (tyM.nk m).data = dM m from kM_data m]; exact ha)
  have hno : atKey (dxs L) (kM m) = none := by
    have e := atKey_dxs (m := m) (L := L)
    rw [decide_eq_false hm] at e
    cases q : atKey (dxs L) (kM m) with
    | none => rfl
    | some _ => rw [q] at e; cases e
  refine wpAny_setItem_heap (knd := nestedKind X.prog X.w) (hsz := by unfold dxs; rw [List.length_map, sizeLine_eq]; omega) (by show X.A.units + 1 + 8 < cLine; omega) hx h4 fun h' hm' hs => ?_
  rw [storedH_new hno] at hm'
  have e1 : dxs L ++ [(kM m, a, Value.bool true)] = dxs (L ++ [(a, m)]) := by
    unfold dxs
    rw [List.map_append]
    rfl
  rw [e1] at hm'
  have he : ∃ q, h'.get? d = some q := let ⟨q, _, _, hq, _⟩ := hm'; ⟨q, hq⟩
  refine ⟨_, d_write I (by rw [hd]; exact True.intro) hs he (dictN_ok (by rw [List.length_append, List.length_singleton]; omega) h2 ?_ hm'), q⟩
  rw [List.map_append]
  refine List.pairwise_append.mpr ⟨h3, List.pairwise_singleton _ _, fun x hx' y hy e => ?_⟩
  have hy' : y = m := by simpa using hy
  exact hm (by rw [← hy', ← e]; exact hx')
/-- {k: True}, k a move -/
def tDisp1 (K : PySem.W.Frag) (P : Program) (w : World) (tk : TE) : TE := fun σ H Q => ∀ d, H d = none → tk σ (upd H d (.dK [])) fun x H1 => ∃ (a : Addr) (m : Mv), x = .ref a ∧ H1 d = some (.dK []) ∧ Dp K H1 (.ref a) (dM m) ∧ Q (.ref d) (upd H1 d (DictNO P w d [(a, m)]))
theorem pe_disp1 {k : Expr} {tk : TE} {c : Nat} {cp pos : Pos} (hu : X.A.units + 64 < cLine) (hk : PE X k tk)
    (hs : (evalEachOpt [some k] X.env).zip ((evalEach [.Constant (.bool true) c cp] X.env).map fun v => do let x ← v; standAt pos; pure x) = [(some (eval k X.env), do let x ← eval (.Constant (.bool true) c cp) X.env; standAt pos; pure x)] := by rfl) :
    PE X (.Dict [some k] [.Constant (.bool true) c cp] pos) (tDisp1 X.K X.prog X.w tk) := by
  refine ⟨fun pins s σ H Q I q => ?_⟩
  have hn := I.hok.fresh (Nat.le_refl s.heap.objs.size)
  have I1 := I.laid (a := s.heap.objs.size) (o := .dK []) (h' := s.heap.push { cls := .type "dict", data := .dict #[] }) (t' := s.toks) (fun _ _ q => Heap.get?_push_of_some _ q) (Nat.le_refl _) (dk_empty s.heap I.big)
  rw [arm_eval_Dict, hs]
  have hdp := dictDisplay_pairs [(eval k X.env, do let x ← eval (.Constant (.bool true) c cp) X.env; standAt pos; pure x)] (fun z => nomatch z) (Nat.le_of_ble_eq_true rfl)
  simp only [List.map_cons, List.map_nil] at hdp
  rw [hdp]
  refine wpAny_bind (wpAny_standAt (wpAny_bind (wpAny_subDictH (knd := nestedKind X.prog X.w) (Q := fun d s' => wpAny (model X.prog X.w) X.A (pure (Value.ref d)) (EP X pins σ Q) X.xe s') (by show X.A.units + 8 < cLine; omega) (Nat.le_of_ble_eq_true rfl) ?_)))
  refine evalPairs_cons (thn (hk.run pins _ σ _ _ I1 (q _ hn)) fun u s1 ⟨x, H1, I2, rx, a, m, ex, hd, ha, q1⟩ => ?_)
  subst ex
  cases rx
  refine wpAny_bind (thn ((pe_bl (X := X) (b := true) (j := c) (pos := cp)).run pins s1 σ H1 (fun v H2 => v = .bl true ∧ H2 = H1) I2 ⟨rfl, rfl⟩) fun v s2 ⟨y, H2, I3, ry, ey, eH⟩ => ?_)
  subst ey eH
  cases ry
  refine wpAny_bind (wpAny_standAt (wpAny_pure (evalPairs_nil ?_)))
  have hx : (nestedKind X.prog X.w).is s2.heap (kM m) a := key_at I3 tyM (b := m) (by rw [show (tyM.nk m).data = dM m from kM_data m]; exact ha)
  obtain ⟨_, hsys, vs, rel, o, es, ep, ho, hex, hdt, _, hp, _⟩ := dk_of I3.hok hd
  cases rel
  have he : es.toList = [] := by
    generalize es.toList = l at hp
    cases hp
    rfl
  refine ⟨[(kM m, a, .bool true)], ⟨rfl, rfl, hx, trivial⟩, ⟨o, es, ep, ho, hex, hdt, he, (fun _ z => nomatch z), List.nodup_nil⟩, fun h' tk hm hs' => ?_⟩
  have he2 : ∃ q, h'.get? s.heap.objs.size = some q := let ⟨q, _, _, hq, _⟩ := hm; ⟨q, hq⟩
  exact wpAny_pure ⟨.ref s.heap.objs.size, upd _ s.heap.objs.size (DictNO X.prog X.w s.heap.objs.size [(a, m)]), d_write I3 (by rw [hd]; exact True.intro) hs' he2 (dictN_ok (L := [(a, m)]) (Nat.le_of_ble_eq_true rfl) hsys (List.pairwise_singleton _ _) hm), rfl, q1⟩
/-- sorted(d) -/
def rSortDN (K : PySem.W.Frag) (P : Program) (w : World) : List V → Hp → VK → Prop := fun xs H Q => ∃ (d : Addr) (L : List (Addr × Mv)), xs = [V.ref d] ∧ H d = some (DictNO P w d L) ∧ (∀ p ∈ L, Dp K H (.ref p.1) (dM p.2)) ∧ L.length < 1000 ∧
  ∀ (L1 : List (Addr × Mv)) p, L1.Perm L → H p = none → Q (.ref p) (upd H p (.lst ((riseA L1).map fun q => V.ref q.1)))
theorem cr_sortDN (hc : X.calm = true) (hu : X.A.units + 64 < cLine) : CallR X (.builtin "sorted") (rSortDN X.K X.prog X.w) := by
  intro pins s σ H vs us Q I r h
  obtain ⟨d, L, rfl, hd, hk, hl, q⟩ := h
  rw [Vals.ref1 r]
  obtain ⟨h1, h2, h3, h4⟩ := dictN_at I hd hk
  obtain ⟨o, es, ep, ho, hex, hdt, he, _, _⟩ := h4
  rw [dxs_rows] at he
  have hes : es.size = L.length := by
    have e := congrArg List.length he
    rw [Array.length_toList, List.length_map] at e
    exact e
  refine sorted_from (L := L) (fun s1 => (∀ b o, s.heap.get? b = some o → s1.heap.get? b = some o) ∧ Inv X pins σ H s1) (fun _ j => j.1) (fun p hp => reads_M I (hk p hp)) (by omega) (by omega)
    (fun Q' hq => PySem.W.kdu_collect (A := X.A.in1) (kdl_raw h2 hex hdt) (I.ok.hd hc) ho (by rw [hes, sizeLine_eq]; omega) fun h' tk acc k hacc => ?_) fun s1 j s' p L1 c k g os hp p1 hg => ?_
  · have key : acc.toList = L.map fun p => Value.ref p.1 := by
      refine List.ext_getElem? fun j => ?_
      by_cases hj : j < L.length
      · have hja : j < acc.size := by rw [hacc.1, hes]; exact hj
        have e1 : acc.toList[j]? = some acc[j] := by
          rw [Array.getElem?_toList, Array.getElem?_eq_getElem hja]
        obtain ⟨en, h5, h6⟩ := hacc.2 j acc[j] (Array.getElem?_eq_getElem hja)
        rw [← Array.getElem?_toList, he, List.getElem?_map, List.getElem?_eq_getElem hj] at h5
        have e2 : drow X.prog X.w L[j] = en := Option.some.inj h5
        rw [e1, List.getElem?_map, List.getElem?_eq_getElem hj, h6, ← e2]
        rfl
      · rw [List.getElem?_eq_none_iff.mpr (by rw [Array.length_toList, hacc.1, hes]; omega), List.getElem?_eq_none_iff.mpr (by rw [List.length_map]; omega)]
    exact hq _ _ ⟨k, I.kept (t' := tk) k⟩ (by rw [key])
  · exact sort_end j.2 (by rw [(riseA_perm L1).length_eq, p1.length_eq]; omega) k g os hp hg (q L1 p p1 (j.2.hok.fresh hp))
end
end Kf
end

section
set_option Elab.async false
set_option linter.all false
set_option maxRecDepth 100000
set_option maxHeartbeats 4000000
namespace Kf
open PySem L2 PySem.Spec PyProof.Rows PpSet

/-! ### the set of what a comprehension tells, of whole numbers -/
theorem setK_fresh (P : Program) (w : World) {h : Heap} : (h.push { cls := .type "set", dict := none, data := .set #[] 0 (.fresh 0 0 (!w.params.followText "set-order")) }).SetOf (mixKind P w) h.objs.size (fun _ => false) 0 :=
  ⟨_, #[], 0, _, Heap.get?_push_size _ rfl, ⟨rfl, rfl, rfl⟩, rfl, (fun e he => by simp at he), (fun k => by simp), (by decide), (by rfl), rfl⟩
section
variable {X : Cx}
theorem addI_ok {pins : List (Addr × Obj)} {σ : L2.St} {H : Hp} {s : Shared} {E : Value → Shared → Prop} {D : Addr} {S : Key → Bool} {n : Nat} {c : Int} {z : Value} {Q : Value → Shared → Prop} (I : Inv X pins σ H s) (r : RelV (.int c) z) (hD : H D = some (SetK X.prog X.w D S n)) (room : n + 1 < scanBound)
    (h : ∀ s', Inv X pins σ (upd H D (SetK X.prog X.w D (fun j => S j || decide (j = Sum.inl c)) (if S (Sum.inl c) = true then n else n + 1))) s' → Q .none s') : wpAny (model X.prog X.w) X.A (call (.builtin "set.add") [.ref D, z]) Q E s := by
  have r' : RelV (kV (Sum.inl c)) z := r
  refine call_set_add (kV_is r') (key_scan r') (setK_get I hD) room fun h' sb new => ?_
  have he : ∃ u, h'.get? D = some u := by
    have ⟨o, _, _, _, ho, _⟩ := new
    exact ⟨o, ho⟩
  exact h _ (I.write (e := D) (t' := s.toks + 1) (by rw [hD]; trivial) (.inl rfl) (fun b u hb hu => (sb.2 b hb).trans hu) he (setK_new new))
/-- {elt for target in iter if ..}, elt a number: D the new set -/
def tScI (P : Program) (w : World) (wi : TI) (g : TG) (tt : TT) (te : TE) (vs : List Nat) : TE := fun σ H Q => wi σ H fun J H1 => ∀ D, H1 D = none → ∃ W : Nat → Nat → Hp → Prop, (∃ m, W 0 m (upd H1 D (SetK P w D (fun _ => false) 0))) ∧ ∀ i m H, W i m H →
  (J.stop i H ∧ Q (.ref D) H) ∨ (J.go i H ∧ ∃ Nx : Hp → Prop, (∀ H', Nx H' → ∃ m', m' < m ∧ W (i + 1) m' H') ∧ ∀ x H', J.yld i H x H' → g x (wipe σ vs) H' fun σ2 H2 => wipe σ2 vs = wipe σ vs ∧ tt σ2 H2 fun b H3 =>
    if b = true then te σ2 H3 fun y H4 => ∃ (c : Int) (S : Key → Bool) (n : Nat), y = .int c ∧ H4 D = some (SetK P w D S n) ∧ n + 1 < scanBound ∧ Nx (upd H4 D (SetK P w D (fun j => S j || decide (j = Sum.inl c)) (if S (Sum.inl c) = true then n else n + 1))) else Nx H3)
theorem sci_core {pins : List (Addr × Obj)} {s : Shared} {σ : L2.St} {H : Hp} {Q : VK} {elt tg iter : Expr} {ifs : List Expr} {scope : Scope} {own : List (PySem.Str × Nat)} {pos pos' : Pos} {wi : TI} {g : TG} {tt : TT} {te : TE} {use : Option (Value → Sem Unit)} {Qf : Value → Shared → Prop}
    (hc : X.calm = true) (hN : X.N.Nodup) (I : Inv X pins σ H s) (hi : PI X tg iter wi) (ok : BlkOk X.N X.env.scope scope own)
    (hg : ∀ (s : Shared) (H : Hp) (C : Addr) (cl : List (PySem.Str × Addr)) (fp : List Addr), PG (X.blk s H scope (compEnvC scope cl C X.env) fp) tg g) (ht : ∀ (s : Shared) (H : Hp) (C : Addr) (cl : List (PySem.Str × Addr)) (fp : List Addr), PTs (X.blk s H scope (compEnvC scope cl C X.env) fp) ifs tt)
    (he : ∀ (s : Shared) (H : Hp) (C : Addr) (cl : List (PySem.Str × Addr)) (fp : List Addr), PE (X.blk s H scope (compEnvC scope cl C X.env) fp) elt te) (hs : ∀ x, foldedSetIterable iter X.env x = pure x)
    (h : tScI X.prog X.w wi g tt te (own.map (·.2)) σ H Q)
    (hRR : ∀ D C s' m H', Inv X pins σ H' s' → Q (.ref D) H' → s'.heap.Ns C m → FpOk X pins H' C → compPost (model X.prog X.w) X.A X.xe use Qf (.ref D) C (.ok .next) s') :
    wpAny (model X.prog X.w) X.A (comprehension (.SetComp elt [⟨tg, iter, ifs, 0⟩] scope pos) scope X.env pos' (newSet (.type "set")) false (eval iter X.env) use) Qf X.xe s := by
  have hfree : ∀ y ∈ scope.names, y.2 = .free → ∃ c, X.env.cells.lookup y.1 = some c := fun y hy e => by
    rcases ok.free y hy e with k | k
    · exact I.ok.has _ (.inl k)
    · exact I.ok.has _ (.inr k)
  refine wpAny_comprehension_free (use := use) rfl hs (closure_ok hfree) ok.kind (fun y hy e => by rw [ok.uniq y hy, e])
    (thn (hi.run pins s σ H _ I h) fun xv s1 hx => thn hx fun itv s2 h2 => ?_)
  obtain ⟨it, fp, tn, J, H2, e, I2, T, st2, f2, q⟩ := h2
  subst e
  refine newSet_ok (newEnv_comp ?_)
  generalize hD : s2.heap.objs.size = D
  have hDn : H2 D = none := I2.hok.fresh (Nat.le_of_eq hD)
  obtain ⟨W, ⟨m0, w0⟩, turn⟩ := q D hDn
  -- the new list
  generalize hs3 : ({ s2 with heap := s2.heap.push { cls := .type "set", dict := none, data := .set #[] 0 (.fresh 0 0 (!X.w.params.followText "set-order")) } } : Shared) = s3
  have I3 : Inv X pins σ (upd H2 D (SetK X.prog X.w D (fun _ => false) 0)) s3 := by
    rw [← hs3]
    refine I2.laid (t' := s2.toks) (fun b o e => Heap.get?_push_of_some _ e) (Nat.le_of_eq hD) ?_
    rw [← hD]
    exact setK_new (setK_fresh X.prog X.w)
  have h3 : s3.heap = s2.heap.push { cls := .type "set", dict := none, data := .set #[] 0 (.fresh 0 0 (!X.w.params.followText "set-order")) } := by rw [← hs3]
  have sz : ∀ b ∈ fp, b < s2.heap.objs.size := fun b hb => by
    obtain ⟨o, e, _⟩ := T.obj _ _ st2 b hb
    exact Heap.lt_size e
  have f3 : ∀ b ∈ fp, FpOk X pins (upd H2 D (SetK X.prog X.w D (fun _ => false) 0)) b ∧ b < s3.heap.objs.size := fun b hb => by
    have hlt := sz b hb
    refine ⟨⟨?_, (f2 b hb).2⟩, by rw [h3, Heap.size_push]; exact Nat.lt_succ_of_lt hlt⟩
    rw [upd_ne (by rw [← hD]; exact Nat.ne_of_lt hlt)]
    exact (f2 b hb).1
  have st3 : tn 0 s3.heap := T.keep _ _ _ st2 fun b _ o e => by rw [h3]; exact Heap.get?_push_of_some _ e
  have I4 := block_start I3 ok hN f3
  have pg := hg s3 (upd H2 D (SetK X.prog X.w D (fun _ => false) 0)) s3.heap.objs.size (cellsFrom (s3.heap.objs.size + 1) scope.names (cloFrom X.env.cells scope.names [])) fp
  have pt := ht s3 (upd H2 D (SetK X.prog X.w D (fun _ => false) 0)) s3.heap.objs.size (cellsFrom (s3.heap.objs.size + 1) scope.names (cloFrom X.env.cells scope.names [])) fp
  have pe := he s3 (upd H2 D (SetK X.prog X.w D (fun _ => false) 0)) s3.heap.objs.size (cellsFrom (s3.heap.objs.size + 1) scope.names (cloFrom X.env.cells scope.names [])) fp
  show codeAny _ _ (.compStart (.SetComp elt [⟨tg, iter, ifs, 0⟩] scope pos) 0 (.ref it) (.ref D) (compEnvC scope (cellsFrom (s3.heap.objs.size + 1) scope.names (cloFrom X.env.cells scope.names [])) s3.heap.objs.size X.env)) (compPost (model X.prog X.w) X.A X.xe use Qf (.ref D) s3.heap.objs.size) { s3 with heap := pushCells (s3.heap.push { cls := .type "dict", data := .dict #[] }) scope.names }
  have nfp : ∀ b ∈ fp, (upd H2 D (SetK X.prog X.w D (fun _ => false) 0)) b = none := fun b hb => (f3 b hb).1.1
  generalize hce : compEnvC scope (cellsFrom (s3.heap.objs.size + 1) scope.names (cloFrom X.env.cells scope.names [])) s3.heap.objs.size X.env = ce at I4 pg pt pe ⊢
  have cL : ce.locals = s3.heap.objs.size := by subst hce; rfl
  generalize hH3 : upd H2 D (SetK X.prog X.w D (fun _ => false) 0) = H3 at I3 I4 pg pt pe w0 nfp f3
  generalize hs4 : ({ s3 with heap := pushCells (s3.heap.push { cls := .type "dict", data := .dict #[] }) scope.names } : Shared) = s4 at I4 ⊢
  have st4 : tn 0 s4.heap := T.keep _ _ _ st3 fun b _ o e => by rw [← hs4]; exact pushCells_keeps _ _ _ _ (Heap.get?_push_of_some _ e)
  have stat : ∀ {σ' : L2.St} {H' : Hp} {s' : Shared}, Inv (X.blk s3 H3 scope ce fp) [] σ' H' s' → (∀ b ∈ fp, H' b = none) → ∀ b ∈ fp, FpOk (X.blk s3 H3 scope ce fp) [] H' b := fun {σ' H' s'} I' hn b hb =>
    ⟨hn b hb, (I'.ok.exf b hb).1, I'.ok.exfs b hb, .inl hb, fun x c e => (I'.ok.exf b hb).2 x c e, fun p hp => absurd (show p ∈ ([] : List (Addr × Obj)) ++ [] from hp) (by simp)⟩
  have loop : codeAny (model X.prog X.w) X.A (.compLoop (.SetComp elt [⟨tg, iter, ifs, 0⟩] scope pos) 0 (.ref it) (.ref D) ce) (compPost (model X.prog X.w) X.A X.xe use Qf (.ref D) s3.heap.objs.size) s4 := by
    refine compLoopS_any (fun n s' => ∃ i H', Inv (X.blk s3 H3 scope ce fp) [] (wipe σ (own.map (·.2))) H' s' ∧ tn i s'.heap ∧ (∀ b ∈ fp, H' b = none) ∧ W i n H') ?_ m0 ⟨0, H3, I4, st4, nfp, w0⟩
    rintro n s5 ⟨i, H5, I5, st5, n5, w5⟩
    rcases turn i n H5 w5 with ⟨stop, qq⟩ | ⟨go, Nx, hNx, step⟩
    · have td := T.done (X.blk s3 H3 scope ce fp) rfl rfl rfl hc i [] s5 _ H5 (fun _ _ => False) I5 (stat I5 n5) st5 stop
      refine thnF td fun r s6 ⟨hr, I6⟩ => ?_
      subst hr
      -- back in the def's context
      have I7 : Inv X pins σ H5 s6 := I3.call' (ch := fp) I6.os I6.base I6.hok I6.bare fun b hb => ⟨(f3 b hb).1.2.2.2.1, (f3 b hb).1.2.1, (f3 b hb).1.2.2.2.2.1, (f3 b hb).1.2.2.2.2.2⟩
      have nC : H5 s3.heap.objs.size = none := by
        have z : H5 ce.locals = none := I6.free
        rw [cL] at z
        exact z
      obtain ⟨m, hn, _⟩ := I6.loc
      have hn : s6.heap.Ns ce.locals m := hn
      rw [cL] at hn
      exact hRR D s3.heap.objs.size s6 m H5 I7 qq hn (I3.fpOk (Nat.le_refl _) nC)
    · have ti := T.item (X.blk s3 H3 scope ce fp) rfl rfl rfl hc i [] s5 _ H5 (fun _ _ => False) I5 (stat I5 n5) st5 go
      refine thnF ti fun r s6 ⟨u, hr, h6⟩ => ?_
      subst hr
      refine thnF h6 fun _ s7 ⟨x, H7, I7, r7, y7, st7, n7⟩ => ?_
      have I7' := I7.pinned (stat I7 n7) (T.obj _ _ st7)
      refine thnF (pg.run _ s7 _ H7 x u _ I7' r7 (step x H7 y7)) fun _ s8 ⟨σ8, H8, I8, hw8, q8⟩ => ?_
      refine thnF (pt.run _ s8 σ8 H8 _ I8 q8) fun b s9 ⟨H9, I9, q9⟩ => ?_
      -- the turn's end
      have fin : ∀ {s' : Shared} {H' : Hp}, Inv (X.blk s3 H3 scope ce fp) ([] ++ pinsAt fp s7.heap) σ8 H' s' → Nx H' → ∃ m, m < n ∧ ∃ i H', Inv (X.blk s3 H3 scope ce fp) [] (wipe σ (own.map (·.2))) H' s' ∧ tn i s'.heap ∧ (∀ b ∈ fp, H' b = none) ∧ W i m H' := fun {s' H'} I' nx => by
        obtain ⟨m', hm, w'⟩ := hNx H' nx
        have pin' : ∀ b ∈ fp, ∀ o, s7.heap.get? b = some o → s'.heap.get? b = some o ∧ H' b = none := fun b hb o e =>
          let z := I'.pin (b, o) (List.mem_append_right _ (List.mem_append_right _ (mem_pinsAt hb e)))
          ⟨z.1, z.2.1⟩
        have hl : (wipe σ (own.map (·.2))).length = σ8.length := by rw [← hw8, wipe_length]
        refine ⟨m', hm, i + 1, H', (I'.unpinned (pins := [])).weak hl (fun j v e => ?_), T.keep _ _ _ st7 fun b hb o e => (pin' b hb o e).1, fun b hb => ?_, w'⟩
        · rw [← hw8] at e
          exact (wipe_some e).1
        · obtain ⟨o, e, _⟩ := T.obj _ _ st7 b hb
          exact (pin' b hb o e).2
      cases b with
      | false =>
        simp only [Bool.false_eq_true, if_false] at q9 ⊢
        exact fin I9 q9
      | true =>
        simp only [if_true] at q9 ⊢
        refine thnF (pe.run _ s9 σ8 H9 _ I9 q9) fun z s10 ⟨yv, H10, I10, r10, cb, S0, n0, ey, hD10, hz10, nx⟩ => ?_
        subst ey
        exact addI_ok (X := X.blk s3 H3 scope ce fp) I10 r10 hD10 hz10 fun s11 I11 => fin I11 nx
  exact PpSet.codeAny_compStart_set loop (T.self X.A 0 _ _ _ st4 loop)
/-- as a value -/
theorem pe_sci {elt tg iter : Expr} {ifs : List Expr} {scope : Scope} {own : List (PySem.Str × Nat)} {pos : Pos} {wi : TI} {g : TG} {tt : TT} {te : TE} (hc : X.calm = true) (hN : X.N.Nodup) (hi : PI X tg iter wi) (ok : BlkOk X.N X.env.scope scope own)
    (hg : ∀ (s : Shared) (H : Hp) (C : Addr) (cl : List (PySem.Str × Addr)) (fp : List Addr), PG (X.blk s H scope (compEnvC scope cl C X.env) fp) tg g) (ht : ∀ (s : Shared) (H : Hp) (C : Addr) (cl : List (PySem.Str × Addr)) (fp : List Addr), PTs (X.blk s H scope (compEnvC scope cl C X.env) fp) ifs tt)
    (he : ∀ (s : Shared) (H : Hp) (C : Addr) (cl : List (PySem.Str × Addr)) (fp : List Addr), PE (X.blk s H scope (compEnvC scope cl C X.env) fp) elt te) (hs : ∀ x, foldedSetIterable iter X.env x = pure x := by intro _; rfl) :
    PE X (.SetComp elt [⟨tg, iter, ifs, 0⟩] scope pos) (tScI X.prog X.w wi g tt te (own.map (·.2))) := by
  refine ⟨fun pins s σ H Q I h => ?_⟩
  rw [eval_SetComp]
  refine sci_core hc hN I hi ok hg ht he hs h fun D C s' m H' I' q hn f => ⟨m, hn, fun h'' sb => ?_⟩
  obtain ⟨f0, f1, f2, f3, f4, f5⟩ := f
  exact ⟨.ref D, H', I'.turned (t' := s'.toks) (fun b o hb e => (sb.2 b hb).trans e) f0 f1 f3 f4 f5, rfl, q⟩
end
/-- over a tuple that the block leaves as it is -/
theorem sci_tup {P : Program} {w : World} {K : PySem.W.Frag} {a : Addr} {xs : List V} {g : TG} {tt : TT} {te : TE} {vs : List Nat} {σ : L2.St} {H1 : Hp} {D : Addr} {Qd : Hp → Prop} (Pv : Nat → Hp → Prop) (h0 : Pv 0 (upd H1 D (SetK P w D (fun _ => false) 0))) (hl : ∀ i H, i ≤ xs.length → Pv i H → SqT K H a xs)
    (hs : ∀ i x H, xs[i]? = some x → Pv i H → g x (wipe σ vs) H fun σ2 H2 => wipe σ2 vs = wipe σ vs ∧ tt σ2 H2 fun b H3 =>
      if b = true then te σ2 H3 fun y H4 => ∃ (c : Int) (S : Key → Bool) (n : Nat), y = .int c ∧ H4 D = some (SetK P w D S n) ∧ n + 1 < scanBound ∧ Pv (i + 1) (upd H4 D (SetK P w D (fun j => S j || decide (j = Sum.inl c)) (if S (Sum.inl c) = true then n else n + 1))) else Pv (i + 1) H3) (hd : ∀ H, Pv xs.length H → Qd H) :
    ∃ W : Nat → Nat → Hp → Prop, (∃ m, W 0 m (upd H1 D (SetK P w D (fun _ => false) 0))) ∧ ∀ i m H, W i m H →
      ((Itt K a).stop i H ∧ Qd H) ∨ ((Itt K a).go i H ∧ ∃ Nx : Hp → Prop, (∀ H', Nx H' → ∃ m', m' < m ∧ W (i + 1) m' H') ∧ ∀ x H', (Itt K a).yld i H x H' → g x (wipe σ vs) H' fun σ2 H2 => wipe σ2 vs = wipe σ vs ∧ tt σ2 H2 fun b H3 =>
        if b = true then te σ2 H3 fun y H4 => ∃ (c : Int) (S : Key → Bool) (n : Nat), y = .int c ∧ H4 D = some (SetK P w D S n) ∧ n + 1 < scanBound ∧ Nx (upd H4 D (SetK P w D (fun j => S j || decide (j = Sum.inl c)) (if S (Sum.inl c) = true then n else n + 1))) else Nx H3) := by
  refine ⟨fun i m H => m = xs.length - i ∧ i ≤ xs.length ∧ Pv i H, ⟨xs.length, by simp, Nat.zero_le _, h0⟩, ?_⟩
  rintro i m H ⟨rfl, hi, p⟩
  have q := hl i H hi p
  by_cases hlt : i < xs.length
  · refine .inr ⟨⟨xs, xs[i], q, by simp [hlt]⟩, Pv (i + 1), fun H' p' => ⟨xs.length - (i + 1), by omega, rfl, hlt, p'⟩, fun x H' y => ?_⟩
    obtain ⟨e, y⟩ := y
    subst e
    exact hs i x _ (y xs q) p
  · have e : i = xs.length := by omega
    subst e
    exact .inl ⟨⟨xs, q, Nat.le_refl _⟩, hd H p⟩
end Kf
end

section
set_option Elab.async false
set_option linter.all false
set_option maxRecDepth 100000
set_option maxHeartbeats 4000000
/-! zip of two tuples of one length, strict=True -/
namespace Kf
open PySem L2 PySem.Spec PyProof.Rows RZ
abbrev IsZipS (h : Heap) (z TI TO : Addr) (f0 : Value) : Prop :=
  h.get? z = some { cls := .type "zip", dict := none, data := .fields #[f0, .bool false, .bool true, .ref TI, .ref TO], slots := #[] }
theorem typeCall_zs (a b : Value) : checkTypeCall "zip" ⟨[a, b], [(Str.ofString "strict", .bool true)]⟩ = pure () := by kernel_rfl
theorem newCall_zs (a b : Value) : checkBuiltinCall "zip.__new__" ⟨[.type "zip", a, b], [(Str.ofString "strict", .bool true)]⟩ = pure () := by kernel_rfl
section
variable {prog : Program} {w : World} {A : Around} {E : Value → Shared → Prop} {s : Shared}
theorem init_meets_kw {T newId : String} {self : Value} {rest : List Value} {kw : List (Str × Value)} (hl : typeLookup (.type T) "__init__" = pure (some (.builtin "object.__init__")))
    (hm : Bind.madeBy (.type T) = pure (some newId)) (hne : (some newId != some "object.__new__") = true) :
    Meets (Builtin.«object.__init__» ⟨self :: rest, kw⟩) (fun _ R s => s.TypeIs self T ∧ R (.ok (.ret .none)) s) := by
  refine Meets.of_wp fun prog w A R s hs => ?_
  obtain ⟨hT, hq⟩ := hs
  cases rest with
  | nil => 
    cases kw with
    | nil => exact wpAny_pure ⟨_, rfl, hq⟩
    | cons a rest =>
      repeat (any_goals (first | assumption | wp_step))
      exact ⟨_, rfl, hq⟩
  | cons a rest =>
    repeat (any_goals (first | assumption | wp_step))
    exact ⟨_, rfl, hq⟩
theorem callType_kw {T newId : String} {Bn : Builtin} {args : List Value} {kw : List (Str × Value)} {S : PySem.Spec} {Q : Value → Shared → Prop} (ft : TypeCalled T newId "object.__init__")
    (hne : (some newId != some "object.__new__") = true) (hct : checkTypeCall T ⟨args, kw⟩ = pure ()) (hcn : checkBuiltinCall newId ⟨.type T :: args, kw⟩ = pure ())
    (hok : ∀ obj, argsOk "object.__init__" ⟨obj :: args, kw⟩) (entryN : entryFor table newId = some Bn) (g : Meets (Bn ⟨.type T :: args, kw⟩) S)
    (h : S A.in1 (wants (fun obj s₁ => s₁.TypeIs obj T ∧ Q obj s₁) E) s) : wpAny (model prog w) A (call (.type T) args kw) Q E s := by
  obtain ⟨c, tl, hmro⟩ := ft.mro
  have hmade := ft.made
  have hsub := ft.sub
  refine wpAny_call (codeAny_of_tree ?_)
  show wpAny _ _ (callAny (.type T) _) _ _ _
  refine wpAny_pure ⟨Code.quiet_builtin _ (by decide +kernel), codeAny_builtin F.entry_type_call ?_⟩
  rw [Around.under_plain (weight_type_call_type T args kw) (units_type_call_type T args kw)]
  have h1 := ft.notType
  have h2 := ft.canCreate
  repeat (any_goals (first | assumption | wp_step))
  refine codeAny_mono (codeAny_call_builtin ft.plain entryN (wpAny_of_eq hcn (g prog w A.in1 _ s h))) fun r s₁ hr => ?_
  cases r with
  | error e => exact hr
  | ok fl =>
    cases fl with
    | ret obj =>
      obtain ⟨hT, hq⟩ := hr
      have hli := ft.init.lookup
      have hbi := ft.init.bind obj
      repeat (any_goals (first | assumption | wp_step))
      refine codeAny_mono (codeAny_call_builtin ft.init.plain F.entry_object_init (ft.init.check _ _ _ _ _ _ _ _ hT (hok obj) ((init_meets_kw (self := obj) (rest := args) (kw := kw) hli hmade hne) prog w A.in1 (wants (fun r s₂ => r = .none ∧ Q obj s₂) E) s₁ ⟨hT, rfl, hq⟩))) fun r₂ s₂ hr₂ => ?_
      cases r₂ with
      | error e => exact hr₂
      | ok fl₂ =>
        cases fl₂ with
        | ret r =>
          obtain ⟨rfl, hq⟩ := hr₂
          repeat (any_goals (first | assumption | wp_step))
        | _ => exact hr₂.elim
    | _ => exact hr.elim







theorem next_or_item {it l : Addr} {i : Nat} {items} {x : Value} {Q : Option Value → Shared → Prop} (hit : s.heap.IsTupleIter it l i)
    (hl : s.heap.IsTuple l items) (hx : items[i]? = some x)
    (hQ : ∀ h', h'.IsTupleIter it l (i + 1) → Heap.SameBut it s.heap h' → Q (some x) { s with heap := h' }) :
    wpAny (model prog w) A (Builtin.SmallTypes.nextOrEnd (.ref it)) Q E s := by
  unfold Builtin.SmallTypes.nextOrEnd
  exact wpAny_bind (wpAny_attempt (nextOf_tuple_item hit hl hx fun h' a b => wpAny_pure (hQ h' a b)))
theorem next_or_end {it l : Addr} {i : Nat} {items} {Q : Option Value → Shared → Prop} (hh : A.handled = none)
    (hit : s.heap.IsTupleIter it l i) (hl : s.heap.IsTuple l items) (hx : items[i]? = none)
    (hQ : ∀ h', Heap.ExtBut it s.heap h' → Q none { s with heap := h' }) :
    wpAny (model prog w) A (Builtin.SmallTypes.nextOrEnd (.ref it)) Q E s := by
  unfold Builtin.SmallTypes.nextOrEnd
  refine wpAny_bind (wpAny_attempt (nextOf_tuple_end hh hit hl hx fun h' e k he => ?_))
  obtain ⟨o, ho, hc⟩ := he
  refine wpAny_bind (wpAny_isInstance (T := "StopIteration") (b := true) ⟨o, ho, hc⟩ isSubtype_stop ?_)
  exact wpAny_pure (hQ h' k)
theorem zipS_next_item {z TI TO i1 i2 l1 l2 : Addr} {k1 k2 : Nat} {xs ys : Array Value} {x y a b : Value} {Q : Value → Shared → Prop} (D : ZipApart z TI TO i1 i2 l1 l2)
    (hz : IsZipS s.heap z TI TO .none) (hTI : IsPair s.heap TI (.ref i1) (.ref i2)) (hTO : IsPair s.heap TO a b)
    (h1 : s.heap.IsTupleIter i1 l1 k1) (h2 : s.heap.IsTupleIter i2 l2 k2) (hl1 : s.heap.IsTuple l1 xs) (hl2 : s.heap.IsTuple l2 ys) (hx : xs[k1]? = some x) (hy : ys[k2]? = some y)
    (hQ : ∀ h', IsZipS h' z TI TO (rawInt s.heap.objs.size) → IsPair h' TO x y → h'.IsTupleIter i1 l1 (k1 + 1) → h'.IsTupleIter i2 l2 (k2 + 1) → IsPair h' s.heap.objs.size x y → h'.objs.size = s.heap.objs.size + 1 →
      (∀ c o, c ≠ z → c ≠ TO → c ≠ i1 → c ≠ i2 → s.heap.get? c = some o → h'.get? c = some o) → Q (.ref s.heap.objs.size) { s with heap := h' }) :
    wpAny (model prog w) A (Builtin.«zip.__next__» ⟨[.ref z], []⟩) (fun fin s' => ∃ v, fin = .done (.ret v) ∧ Q v s') E s := by
  show wpAny _ _ (field (.ref z) 2 >>= _) _ _ _
  refine wpAny_bind (wpAny_field hz rfl (x := .bool true) rfl ?_)
  show wpAny _ _ (field (.ref z) 3 >>= _) _ _ _
  refine wpAny_bind (wpAny_field hz rfl (x := .ref TI) rfl ?_)
  refine wpAny_bind (wpAny_seqItems hTI rfl ?_)
  show wpAny _ _ (Builtin.SmallTypes.ownedTupleIsFree (.ref z) >>= _) _ _ _
  refine wpAny_bind ?_
  unfold Builtin.SmallTypes.ownedTupleIsFree
  refine wpAny_bind (wpAny_field hz rfl (x := .none) rfl (wpAny_pure ?_))
  simp only [if_true]
  refine wpAny_bind (wpAny_rule ?_)
  refine wpAny_bind (wpAny_field hz rfl (x := .ref TO) rfl ?_)
  refine wpAny_bind (wpAny_setField_rec hz (by simp) fun h₁ hz₁ hs₁ => ?_)
  replace hz₁ : IsZipS h₁ z TI TO .ellipsis := hz₁
  refine wpAny_bind ?_
  simp only [List.zipIdx_cons, List.zipIdx_nil, List.forIn_cons, List.forIn_nil]

  refine wpAny_bind (wpAny_bind (wpAny_onRaise ?_))
  show wpAny _ _ (Builtin.SmallTypes.nextOrEnd (.ref i1)) _ _ _
  refine (next_or_item (h1.extBut hs₁.extBut D.i1z) (hl1.extBut hs₁.extBut D.l1z) hx fun h₂ h1₂ hs₂ => ?_)
  have hTO₂ : IsPair h₂ TO a b := hs₂.extBut _ _ D.TOi1 (hs₁.extBut _ _ D.TOz hTO)
  refine wpAny_bind (wpAny_seqItems hTO₂ rfl ?_)
  refine wpAny_bind (wpAny_updateSeq_pair hTO₂ fun h₃ hTO₃ hs₃ => ?_)
  replace hTO₃ : IsPair h₃ TO x b := hTO₃
  refine wpAny_bind (wpAny_letGo (wpAny_pure ?_))

  refine wpAny_bind (wpAny_bind (wpAny_onRaise ?_))
  show wpAny _ _ (Builtin.SmallTypes.nextOrEnd (.ref i2)) _ _ _
  refine (next_or_item (((h2.extBut hs₁.extBut D.i2z).extBut hs₂.extBut D.i12.symm).extBut hs₃.extBut D.TOi2.symm)
    (((hl2.extBut hs₁.extBut D.l2z).extBut hs₂.extBut D.l2i1).extBut hs₃.extBut D.l2TO) hy fun h₄ h2₄ hs₄ => ?_)
  have hTO₄ : IsPair h₄ TO x b := hs₄.extBut _ _ D.TOi2 hTO₃
  refine wpAny_bind (wpAny_seqItems hTO₄ rfl ?_)
  refine wpAny_bind (wpAny_updateSeq_pair hTO₄ fun h₅ hTO₅ hs₅ => ?_)
  replace hTO₅ : IsPair h₅ TO x y := hTO₅
  refine wpAny_bind (wpAny_letGo (wpAny_pure (wpAny_pure ?_)))

  refine wpAny_bind (wpAny_seqItems hTO₅ rfl ?_)
  refine wpAny_bind (wpAny_newTuple ?_)
  have hsz : h₅.objs.size = s.heap.objs.size := by rw [hs₅.1, hs₄.1, hs₃.1, hs₂.1, hs₁.1]
  have hz₅ : IsZipS h₅ z TI TO .ellipsis := hs₅.extBut _ _ D.TOz.symm (hs₄.extBut _ _ D.i2z.symm (hs₃.extBut _ _ D.TOz.symm (hs₂.extBut _ _ D.i1z.symm hz₁)))
  have hk₅ : ∀ c o, c ≠ z → c ≠ TO → c ≠ i1 → c ≠ i2 → s.heap.get? c = some o → h₅.get? c = some o := fun c o c1 c2 c3 c4 e =>
    hs₅.extBut _ _ c2 (hs₄.extBut _ _ c4 (hs₃.extBut _ _ c2 (hs₂.extBut _ _ c3 (hs₁.extBut _ _ c1 e))))
  have h1₅ : h₅.IsTupleIter i1 l1 (k1 + 1) := ((h1₂.extBut hs₃.extBut D.TOi1.symm).extBut hs₄.extBut D.i12).extBut hs₅.extBut D.TOi1.symm
  have h2₅ : h₅.IsTupleIter i2 l2 (k2 + 1) := h2₄.extBut hs₅.extBut D.TOi2.symm
  have hzlt : z < h₅.objs.size := Heap.lt_size hz₅
  have hTOlt : TO < h₅.objs.size := Heap.lt_size hTO₅
  have hi1lt : i1 < h₅.objs.size := by obtain ⟨_, e, _⟩ := h1₅; exact Heap.lt_size e
  have hi2lt : i2 < h₅.objs.size := by obtain ⟨_, e, _⟩ := h2₅; exact Heap.lt_size e
  show wpAny _ _ (Builtin.SmallTypes.ownedTupleHandOut (.ref z) (.ref h₅.objs.size) >>= _) _ _ _
  refine wpAny_bind ?_
  unfold Builtin.SmallTypes.ownedTupleHandOut
  have hz₆ : IsZipS (h₅.push { cls := .type "tuple", data := .seq #[x, y] }) z TI TO .ellipsis := Heap.get?_push_of_some _ hz₅
  refine wpAny_bind (wpAny_setField_rec hz₆ (by simp) fun h₇ hz₇ hs₇ => ?_)
  replace hz₇ : IsZipS h₇ z TI TO (rawInt h₅.objs.size) := hz₇
  refine wpAny_setField_rec hz₇ (by simp) fun h₈ hz₈ hs₈ => ?_
  replace hz₈ : IsZipS h₈ z TI TO (rawInt h₅.objs.size) := hz₈
  have up : ∀ c o, c ≠ z → h₅.get? c = some o → h₈.get? c = some o := fun c o c1 e => hs₈.extBut _ _ c1 (hs₇.extBut _ _ c1 (Heap.get?_push_of_some _ e))
  have hT₈ : IsPair h₈ h₅.objs.size x y := hs₈.extBut _ _ (Nat.ne_of_gt hzlt) (hs₇.extBut _ _ (Nat.ne_of_gt hzlt) (Heap.get?_push_size _ rfl))
  have hz8 : h₈.objs.size = h₅.objs.size + 1 := by rw [hs₈.1, hs₇.1, Heap.size_push]
  rw [hsz] at hz₈ hT₈ hz8
  refine wpAny_pure ⟨_, rfl, ?_⟩
  show Q (.ref h₅.objs.size) _
  rw [hsz]
  exact hQ h₈ hz₈ (up _ _ D.TOz hTO₅) (h1₅.at fun o e => up _ o D.i1z e) (h2₅.at fun o e => up _ o D.i2z e) hT₈ hz8 fun c o c1 c2 c3 c4 e => up c o c1 (hk₅ c o c1 c2 c3 c4 e)


theorem zipS_next_end {z TI TO i1 i2 l1 l2 : Addr} {k1 k2 : Nat} {xs ys : Array Value} {a b : Value} {Q : Fin → Shared → Prop} (hh : A.handled = none) (D : ZipApart z TI TO i1 i2 l1 l2)
    (hz : IsZipS s.heap z TI TO .none) (hTI : IsPair s.heap TI (.ref i1) (.ref i2)) (hTO : IsPair s.heap TO a b)
    (h1 : s.heap.IsTupleIter i1 l1 k1) (h2 : s.heap.IsTupleIter i2 l2 k2) (hl1 : s.heap.IsTuple l1 xs) (hl2 : s.heap.IsTuple l2 ys) (e1 : xs[k1]? = none) (e2 : ys[k2]? = none)
    (hE : ∀ h' e, (∀ c o, c ≠ z → c ≠ TO → c ≠ i1 → c ≠ i2 → s.heap.get? c = some o → h'.get? c = some o) → (∃ o, h'.get? e = some o ∧ o.cls = .type "StopIteration") → E (.ref e) { s with heap := h' }) :
    wpAny (model prog w) A (Builtin.«zip.__next__» ⟨[.ref z], []⟩) Q E s := by
  show wpAny _ _ (field (.ref z) 2 >>= _) _ _ _
  refine wpAny_bind (wpAny_field hz rfl (x := .bool true) rfl ?_)
  show wpAny _ _ (field (.ref z) 3 >>= _) _ _ _
  refine wpAny_bind (wpAny_field hz rfl (x := .ref TI) rfl ?_)
  refine wpAny_bind (wpAny_seqItems hTI rfl ?_)
  show wpAny _ _ (Builtin.SmallTypes.ownedTupleIsFree (.ref z) >>= _) _ _ _
  refine wpAny_bind ?_
  unfold Builtin.SmallTypes.ownedTupleIsFree
  refine wpAny_bind (wpAny_field hz rfl (x := .none) rfl (wpAny_pure ?_))
  simp only [if_true]
  refine wpAny_bind (wpAny_rule ?_)
  refine wpAny_bind (wpAny_field hz rfl (x := .ref TO) rfl ?_)
  refine wpAny_bind (wpAny_setField_rec hz (by simp) fun h₁ hz₁ hs₁ => ?_)
  replace hz₁ : IsZipS h₁ z TI TO .ellipsis := hz₁
  refine wpAny_bind ?_
  simp only [List.zipIdx_cons, List.zipIdx_nil, List.forIn_cons, List.forIn_nil]
  refine wpAny_bind (wpAny_bind (wpAny_onRaise ?_))
  show wpAny _ _ (Builtin.SmallTypes.nextOrEnd (.ref i1)) _ _ _
  refine next_or_end hh (h1.extBut hs₁.extBut D.i1z) (hl1.extBut hs₁.extBut D.l1z) e1 fun h₂ hs₂ => ?_
  have hz₂ : IsZipS h₂ z TI TO .ellipsis := hs₂ _ _ D.i1z.symm hz₁
  refine wpAny_bind (wpAny_setField_rec hz₂ (by simp) fun h₃ hz₃ hs₃ => ?_)
  have h2₃ : h₃.IsTupleIter i2 l2 k2 := (((h2.extBut hs₁.extBut D.i2z).at fun o e => hs₂ _ _ D.i12.symm e)).at fun o e => hs₃.extBut _ _ D.i2z e
  have hl2₃ : h₃.IsTuple l2 ys := by
    obtain ⟨o, ho, r⟩ := hl2
    exact ⟨o, hs₃.extBut _ _ D.l2z (hs₂ _ _ D.l2i1 (hs₁.extBut _ _ D.l2z ho)), r⟩
  simp only
  refine wpAny_bind ?_
  show wpAny _ _ (_ >>= _) _ _ _
  refine wpAny_bind ?_
  simp only [List.drop_succ_cons, List.drop_zero, List.zipIdx_cons, List.zipIdx_nil, List.forIn_cons, List.forIn_nil]
  refine wpAny_bind (wpAny_bind ?_)
  refine next_or_end (s := { s with heap := h₃ }) hh h2₃ hl2₃ e2 fun h₄ hs₄ => ?_
  simp only [Option.isSome_none, Bool.false_eq_true, if_false]
  refine wpAny_pure (wpAny_pure ?_)
  refine wpAny_bind (wpAny_rule ?_)
  unfold Builtin.SmallTypes.stopIteration
  refine wpAny_bind ?_
  simp only [newExc, newTuple]
  refine wpAny_bind (wpAny_newObj_type ?_ (by size_fits))
  refine wpAny_bind (m := firstArgMember _ _) (wpAny_of_eq (a := Value.none) (by first | rfl | (simp only [firstArgMember]; rfl)) ?_)
  refine wpAny_newObj_type ?_ (by size_fits)
  simp only [raiseNew]
  refine wpAny_bind (wpAny_handled ?_)
  rw [hh]
  refine wpAny_bind (wpAny_pure (wpAny_throw ?_))
  refine hE _ _ (fun c o c1 c2 c3 c4 e => ?_) ⟨_, Heap.get?_push_size _ rfl, rfl⟩
  exact Heap.get?_push_of_some _ (Heap.get?_push_of_some _ (hs₄ _ _ c4 (hs₃.extBut _ _ c1 (hs₂ _ _ c3 (hs₁.extBut _ _ c1 e)))))
theorem pyNext_zipS_item {z TI TO i1 i2 l1 l2 : Addr} {k1 k2 : Nat} {xs ys : Array Value} {x y a b : Value} {Q : Option Value → Shared → Prop} (D : ZipApart z TI TO i1 i2 l1 l2)
    (hz : IsZipS s.heap z TI TO .none) (hTI : IsPair s.heap TI (.ref i1) (.ref i2)) (hTO : IsPair s.heap TO a b)
    (h1 : s.heap.IsTupleIter i1 l1 k1) (h2 : s.heap.IsTupleIter i2 l2 k2) (hl1 : s.heap.IsTuple l1 xs) (hl2 : s.heap.IsTuple l2 ys) (hx : xs[k1]? = some x) (hy : ys[k2]? = some y)
    (hQ : ∀ h', IsZipS h' z TI TO (rawInt s.heap.objs.size) → IsPair h' TO x y → h'.IsTupleIter i1 l1 (k1 + 1) → h'.IsTupleIter i2 l2 (k2 + 1) → IsPair h' s.heap.objs.size x y → h'.objs.size = s.heap.objs.size + 1 →
      (∀ c o, c ≠ z → c ≠ TO → c ≠ i1 → c ≠ i2 → s.heap.get? c = some o → h'.get? c = some o) → Q (some (.ref s.heap.objs.size)) { s with heap := h' }) :
    wpAny (model prog w) A (pyNext (.ref z)) Q E s := by
  have hT : s.TypeIs (.ref z) "zip" := ⟨_, hz, rfl⟩
  unfold pyNext
  exact wpAny_bind (wpAny_attempt (wpAny_callSpecial?_slot (name := Str.ofString "__next__") hT F.slot_zip_next
    (wpAny_call_entry F.slot_zip_next hT F.entry_zip_next
      (zipS_next_item D hz hTI hTO h1 h2 hl1 hl2 hx hy fun h' a1 a2 a3 a4 a5 a6 a7 => wpAny_pure (hQ h' a1 a2 a3 a4 a5 a6 a7)) (F.args_zip_next_1 _))))
theorem pyNext_zipS_end {z TI TO i1 i2 l1 l2 : Addr} {k1 k2 : Nat} {xs ys : Array Value} {a b : Value} {Q : Option Value → Shared → Prop} (hh : A.handled = none) (D : ZipApart z TI TO i1 i2 l1 l2)
    (hz : IsZipS s.heap z TI TO .none) (hTI : IsPair s.heap TI (.ref i1) (.ref i2)) (hTO : IsPair s.heap TO a b)
    (h1 : s.heap.IsTupleIter i1 l1 k1) (h2 : s.heap.IsTupleIter i2 l2 k2) (hl1 : s.heap.IsTuple l1 xs) (hl2 : s.heap.IsTuple l2 ys) (e1 : xs[k1]? = none) (e2 : ys[k2]? = none)
    (hQ : ∀ h', (∀ c o, c ≠ z → c ≠ TO → c ≠ i1 → c ≠ i2 → s.heap.get? c = some o → h'.get? c = some o) → Q none { s with heap := h' }) : wpAny (model prog w) A (pyNext (.ref z)) Q E s := by
  have hT : s.TypeIs (.ref z) "zip" := ⟨_, hz, rfl⟩
  unfold pyNext
  refine wpAny_bind (wpAny_attempt (wpAny_callSpecial?_slot (name := Str.ofString "__next__") hT F.slot_zip_next
    (wpAny_call_entry F.slot_zip_next hT F.entry_zip_next (zipS_next_end hh D hz hTI hTO h1 h2 hl1 hl2 e1 e2 fun h' e hk he => ?_) (F.args_zip_next_1 _))))
  obtain ⟨o, ho, hc⟩ := he
  refine wpAny_bind (wpAny_isInstance (T := "StopIteration") (b := true) ⟨o, ho, hc⟩ isSubtype_stop ?_)
  exact wpAny_pure (hQ _ hk)
theorem go_zipS {elts : List Expr} {x1} {pos : Pos} {z TI TO T : Addr} {Q : Unit → Shared → Prop} (hz : IsZipS s.heap z TI TO (rawInt T))
    (hQ : ∀ h', IsZipS h' z TI TO .none → Heap.SameBut z s.heap h' → Q () { s with heap := h' }) :
    wpAny (model prog w) A (letOwnedTupleGo (.Tuple elts x1 pos) (.ref z) (.ref T)) Q E s := by
  unfold letOwnedTupleGo
  refine wpAny_bind (wpAny_load hz ?_)
  show wpAny _ _ (@ite _ (_ = true) _ _ _) Q E s
  rw [if_pos (by simp)]
  refine wpAny_bind (wpAny_rule ?_)
  show wpAny _ _ (setField (.ref z) 0 .none) Q E s
  exact wpAny_setField_rec hz (by simp) fun h' hz' hs' => hQ h' hz' hs'
theorem iter_zipS {z TI TO : Addr} {f0 : Value} {Q : Value → Shared → Prop} (hz : IsZipS s.heap z TI TO f0) (h : Q (.ref z) s) : wpAny (model prog w) A (pyIter (.ref z)) Q E s := by
  have hT : s.TypeIs (.ref z) "zip" := ⟨_, hz, rfl⟩
  refine wpAny_pyIter_slot hT F.slot_zip_iter (wpAny_call_entry F.slot_zip_iter hT F.entry_zip_iter ?_ (F.args_zip_iter_1 _))
  show wpAny _ _ (ret (.ref z)) _ _ s
  exact wpAny_pure ⟨_, rfl, "zip", _, hT, F.slot_zip_next.lookup, h⟩
end
end Kf
end

section
set_option Elab.async false
set_option linter.all false
set_option maxRecDepth 100000
set_option maxHeartbeats 4000000
namespace Kf
open PySem L2 PySem.Spec PyProof.Rows RZ
abbrev zipSH5 (h : Heap) (l1 l2 : Addr) : Heap := (zipTH4 h l1 l2).push { cls := .type "zip", data := .fields #[.none, .bool false, .bool true, .ref (zipTH2 h l1 l2).objs.size, .ref (zipTH3 h l1 l2).objs.size] }

theorem meets_zipS_new (l1 l2 : Addr) (xs ys : Array Value) :
    Meets (Builtin.«zip.__new__» ⟨[.type "zip", .ref l1, .ref l2], [(Str.ofString "strict", .bool true)]⟩) (fun _ R s => s.heap.IsTuple l1 xs ∧ s.heap.IsTuple l2 ys ∧
      R (.ok (.ret (.ref (zipTH4 s.heap l1 l2).objs.size))) { s with heap := zipSH5 s.heap l1 l2 }) :=
  .of_wp fun prog w A R s h => by
    obtain ⟨hp, g, d, tk, os⟩ := s; obtain ⟨hl1, hl2, h⟩ := h
    have hsub := sub_zip
    have hL1 : Heap.IsTuple (Shared.heap ⟨hp, g, d, tk, os⟩) l1 xs := hl1
    have hL2 : Heap.IsTuple (Shared.heap ⟨hp.push { cls := .type "tuple_iterator", data := .fields #[.ref l1, .int 0 0] }, g, d, tk, os⟩) l2 ys := Heap.IsTuple.push hl2 _
    wp_walk using wpAny_pyIter_tuple hL1, wpAny_pyIter_tuple hL2
    exact ⟨_, rfl, h⟩

section
variable {prog : Program} {w : World} {A : Around} {E : Value → Shared → Prop} {s : Shared}

theorem call_zipS {l1 l2 : Addr} {xs ys : Array Value} {Q : Value → Shared → Prop} (hl1 : s.heap.IsTuple l1 xs) (hl2 : s.heap.IsTuple l2 ys)
    (h : ∀ h', IsZipS h' (s.heap.objs.size + 4) (s.heap.objs.size + 2) (s.heap.objs.size + 3) .none → IsPair h' (s.heap.objs.size + 2) (.ref s.heap.objs.size) (.ref (s.heap.objs.size + 1)) →
      IsPair h' (s.heap.objs.size + 3) .none .none → h'.IsTupleIter s.heap.objs.size l1 0 → h'.IsTupleIter (s.heap.objs.size + 1) l2 0 → h'.objs.size = s.heap.objs.size + 5 →
      (∀ c o, s.heap.get? c = some o → h'.get? c = some o) → Q (.ref (s.heap.objs.size + 4)) { s with heap := h' }) :
    wpAny (model prog w) A (call (.type "zip") [.ref l1, .ref l2] [(Str.ofString "strict", .bool true)]) Q E s := by
  refine callType_kw F.called_zip (by decide) (typeCall_zs _ _) (newCall_zs _ _) (fun obj => NwA.oi_args_any obj _ _) F.entry_zip_new
    (meets_zipS_new l1 l2 xs ys) ⟨hl1, hl2, ?_⟩
  have z1 : (zipTH1 s.heap l1).objs.size = s.heap.objs.size + 1 := Heap.size_push ..
  have z2 : (zipTH2 s.heap l1 l2).objs.size = s.heap.objs.size + 2 := by rw [Heap.size_push, z1]
  have z3 : (zipTH3 s.heap l1 l2).objs.size = s.heap.objs.size + 3 := by rw [Heap.size_push, z2]
  have z4 : (zipTH4 s.heap l1 l2).objs.size = s.heap.objs.size + 4 := by rw [Heap.size_push, z3]
  have z5 : (zipSH5 s.heap l1 l2).objs.size = s.heap.objs.size + 5 := by rw [Heap.size_push, z4]
  have g5 : (zipSH5 s.heap l1 l2).get? (zipTH4 s.heap l1 l2).objs.size = some _ := Heap.get?_push_size _ rfl
  have g4 : (zipSH5 s.heap l1 l2).get? (zipTH3 s.heap l1 l2).objs.size = some _ := Heap.get?_push_of_some _ (Heap.get?_push_size _ rfl)
  have g3 : (zipSH5 s.heap l1 l2).get? (zipTH2 s.heap l1 l2).objs.size = some _ := Heap.get?_push_of_some _ (Heap.get?_push_of_some _ (Heap.get?_push_size _ rfl))
  have g2 : (zipSH5 s.heap l1 l2).get? (zipTH1 s.heap l1).objs.size = some _ := Heap.get?_push_of_some _ (Heap.get?_push_of_some _ (Heap.get?_push_of_some _ (Heap.get?_push_size _ rfl)))
  have g1 : (zipSH5 s.heap l1 l2).get? s.heap.objs.size = some _ := Heap.get?_push_of_some _ (Heap.get?_push_of_some _ (Heap.get?_push_of_some _ (Heap.get?_push_of_some _ (Heap.get?_push_size _ rfl))))
  show _ ∧ _
  rw [z2, z3, z4] at g5
  rw [z1, z2] at g3
  rw [z3] at g4
  rw [z1] at g2
  rw [z4]
  exact ⟨⟨_, g5, rfl⟩, h _ g5 g3 g4 ⟨_, g1, rfl, rfl⟩ ⟨_, g2, rfl, rfl⟩ z5 fun c o x =>
    Heap.get?_push_of_some _ (Heap.get?_push_of_some _ (Heap.get?_push_of_some _ (Heap.get?_push_of_some _ (Heap.get?_push_of_some _ x))))⟩
end
/-- the tuples at a and b as they stand at each turn, the items in new pairs -/
def ItzS (K : PySem.W.Frag) (a b : Addr) : It :=
  ⟨fun i H => ∃ (xs ys : List V) (x y : V), SqT K H a xs ∧ SqT K H b ys ∧ xs[i]? = some x ∧ ys[i]? = some y,
    fun i H v H' => ∃ T x y, v = .ref T ∧ H T = none ∧ H' = upd H T (.tup [x, y]) ∧ (∀ xs, SqT K H a xs → xs[i]? = some x) ∧ ∀ ys, SqT K H b ys → ys[i]? = some y,
    fun i H => ∃ xs ys : List V, SqT K H a xs ∧ SqT K H b ys ∧ xs.length ≤ i ∧ ys.length ≤ i⟩
theorem turn_zipS {P : Program} {w : World} {K : PySem.W.Frag} {elts : List Expr} {kk : Nat} {tpos : Pos} {a b z TI TO i1 i2 : Addr} (D : ZipApart z TI TO i1 i2 a b) :
    Turn P w K (.Tuple elts kk tpos) (ItzS K a b) [z, TI, TO, i1, i2] z (fun i h => IsZipS h z TI TO .none ∧ IsPair h TI (.ref i1) (.ref i2) ∧ (∃ x y, IsPair h TO x y) ∧ h.IsTupleIter i1 a i ∧ h.IsTupleIter i2 b i) where
  mem := by simp
  obj := fun i h st c hc => by
    obtain ⟨hz, hTI, ⟨x, y, hTO⟩, ⟨o1, e1, _, d1⟩, ⟨o2, e2, _, d2⟩⟩ := st
    have e' : c = z ∨ c = TI ∨ c = TO ∨ c = i1 ∨ c = i2 := by simpa using hc
    rcases e' with q | q | q | q | q
    · rw [q]; exact ⟨_, hz, fun v q => nomatch q⟩
    · rw [q]; exact ⟨_, hTI, fun v q => nomatch q⟩
    · rw [q]; exact ⟨_, hTO, fun v q => nomatch q⟩
    · rw [q]; exact ⟨o1, e1, fun v q => by rw [d1] at q; cases q⟩
    · rw [q]; exact ⟨o2, e2, fun v q => by rw [d2] at q; cases q⟩
  keep := fun i h h' st k => by
    obtain ⟨hz, hTI, ⟨x, y, hTO⟩, h1, h2⟩ := st
    exact ⟨k z (by simp) _ hz, k TI (by simp) _ hTI, ⟨x, y, k TO (by simp) _ hTO⟩, h1.at fun o q => k i1 (by simp) o q, h2.at fun o q => k i2 (by simp) o q⟩
  item := by
    intro X hP hw hK hc i pins s σ H E I hf st hg
    subst hP hw hK
    obtain ⟨hz, hTI, ⟨x0, y0, hTO⟩, h1, h2⟩ := st
    obtain ⟨xs, ys, x, y, hqx, hqy, hx, hy⟩ := hg
    obtain ⟨its, rv, p, _⟩ := I.tuple hqx
    obtain ⟨its2, rv2, p2, _⟩ := I.tuple hqy
    obtain ⟨u, hu, ru⟩ := rv.get hx
    obtain ⟨u2, hu2, ru2⟩ := rv2.get hy
    have hzl : z < s.heap.objs.size := Heap.lt_size hz
    refine pyNext_zipS_item D hz hTI hTO h1 h2 p p2 (x := u) (y := u2) (by simpa using hu) (by simpa using hu2) fun h' z' TO' h1' h2' hT hsz hk => ?_
    refine ⟨_, rfl, go_zipS (s := { s with heap := h' }) z' fun h'' z'' sb => ?_⟩
    have hT2 : h''.get? s.heap.objs.size = some { cls := .type "tuple", data := .seq #[u, u2] } := (sb.2 _ (Nat.ne_of_gt hzl)).trans hT
    have new : ObjOk X.prog X.w (upd H s.heap.objs.size (.tup [x, y])) h'' s.heap.objs.size (.tup [x, y]) :=
      ⟨by show 2 ≤ sizeLine; decide, [u, u2], .cons ru (.cons ru2 .nil), ⟨_, hT2, rfl, _, rfl⟩⟩
    have I1 : Inv X pins σ (upd H s.heap.objs.size (.tup [x, y])) { s with heap := h'' } :=
      I.turnedNew (t' := s.toks) (ch := [z, TI, TO, i1, i2]) (fun c o hb q => (sb.2 c (fun q' => hb (by simp [q']))).trans (hk c o (fun q' => hb (by simp [q'])) (fun q' => hb (by simp [q'])) (fun q' => hb (by simp [q'])) (fun q' => hb (by simp [q'])) q)) hf (Nat.le_refl _) new
    refine ⟨.ref s.heap.objs.size, _, I1, rfl, ⟨_, x, y, rfl, I.hok.fresh (Nat.le_refl _), rfl, fun l hl => by rw [I.tuple_inj hl hqx]; exact hx, fun l hl => by rw [I.tuple_inj hl hqy]; exact hy⟩, ⟨z'', ?_, ⟨u, u2, ?_⟩, ?_, ?_⟩, fun c hcm => ?_⟩
    · exact (sb.2 _ D.TIz).trans (hk _ _ D.TIz D.TITO D.TIi1 D.TIi2 hTI)
    · exact (sb.2 _ D.TOz).trans TO'
    · exact h1'.at fun o q => (sb.2 _ D.i1z).trans q
    · exact h2'.at fun o q => (sb.2 _ D.i2z).trans q
    · have hlt : c < s.heap.objs.size := by
        have e' : c = z ∨ c = TI ∨ c = TO ∨ c = i1 ∨ c = i2 := by simpa using hcm
        rcases e' with q | q | q | q | q
        · rw [q]; exact hzl
        · rw [q]; exact Heap.lt_size hTI
        · rw [q]; exact Heap.lt_size hTO
        · rw [q]; obtain ⟨_, e1, _⟩ := h1; exact Heap.lt_size e1
        · rw [q]; obtain ⟨_, e2, _⟩ := h2; exact Heap.lt_size e2
      rw [upd_ne (Nat.ne_of_lt hlt)]
      exact (hf c hcm).1
  done := by
    intro X hP hw hK hc i pins s σ H E I hf st hg
    subst hP hw hK
    obtain ⟨hz, hTI, ⟨x0, y0, hTO⟩, h1, h2⟩ := st
    obtain ⟨xs, ys, hqx, hqy, hend⟩ := hg
    obtain ⟨its, rv, p, _⟩ := I.tuple hqx
    obtain ⟨its2, rv2, p2, _⟩ := I.tuple hqy
    have l1 := rv.length
    have l2 := rv2.length
    have he1 : its.toArray[i]? = none := by simp; omega
    have he2 : its2.toArray[i]? = none := by simp; omega
    exact pyNext_zipS_end (I.ok.hd hc) D hz hTI hTO h1 h2 p p2 he1 he2 fun h' hk => ⟨rfl, I.turnedL (t' := s.toks) (ch := [z, TI, TO, i1, i2]) (fun c o hb q =>
      hk c o (fun q' => hb (by simp [q'])) (fun q' => hb (by simp [q'])) (fun q' => hb (by simp [q'])) (fun q' => hb (by simp [q'])) q) hf⟩
  self := fun A i s Q E st h => iter_zipS st.1 h


def iZipS (K : PySem.W.Frag) (ta : TA) : TI := fun σ H R => ta σ H fun vs H1 => ∃ a b xs ys, vs = [.ref a, .ref b] ∧ SqT K H1 a xs ∧ SqT K H1 b ys ∧ R (ItzS K a b) H1
theorem callWith_kwT {M : Model} {A : Around} {E : Value → Shared → Prop} {s : Shared} {env : Env} {pos : Pos} {T : String} {e : Expr} {rest : List Expr} {kws : List Keyword} {Q : Value → Shared → Prop}
    (h : wpAny M A (spliced (backTo pos (starEach (e :: rest) env))) (fun vs s₁ => wpAny M A (evalAll ((backToKw pos (keywordEach kws env)).map (·.2)))
      (fun kvs s₂ => wpAny M A (call (.type T) vs (((backToKw pos (keywordEach kws env)).filterMap (·.1)).zip kvs)) Q E s₂) E s₁) E s)
    (he : backTo pos (starEach (e :: rest) env) = (false, eval e env) :: backTo pos (starEach rest env) := by rfl)
    (hplain : (backTo pos (starEach (e :: rest) env)).any (·.1) = false := by rfl)
    (hall : (backToKw pos (keywordEach kws env)).all (·.1.isSome) = true := by rfl)
    (hkw : (backToKw pos (keywordEach kws env)).any (·.1.isNone) = false := by rfl) :
    wpAny M A (callWith pos (.type T) [] (backTo pos (starEach (e :: rest) env)) (backToKw pos (keywordEach kws env))) Q E s := by
  unfold callWith
  have h2 : wpAny M A (evalArgs (.type T) true (backTo pos (starEach (e :: rest) env)) (backToKw pos (keywordEach kws env))) (fun a s₁ => wpAny M A (call (.type T) ([] ++ a.pos) a.kw) Q E s₁) E s := by
    rw [he] at h ⊢
    exact evalArgs_kwB hall h
  refine wpAny_bind (wpAny_holding (wpAny_mono h2 (fun a s₁ h₁ => wpAny_bind (wpAny_standAt ?_)) fun _ _ x => x))
  simp only [hplain, hkw, Bool.or_false]
  refine wpAny_bind (wpAny_pure ?_)
  exact wpAny_bind (wpAny_mono h₁ (fun r s₂ hr => wpAny_bind (wpAny_holding (wpAny_point (wpAny_pure hr)))) fun _ _ x => x)
theorem pi_zipS {X : Cx} {e e2 : Expr} {ta : TA} {p pos tpos kp cp : Pos} {cc : Nat} {elts : List Expr} {kk : Nat} (hg : Gl X "zip") (hm : X.mg "zip" = none) (ha : PA X [e, e2] ta)
    (hs : backTo pos (starEach [e, e2] X.env) = (false, eval e X.env) :: backTo pos (starEach [e2] X.env) := by rfl) (hpl : (backTo pos (starEach [e, e2] X.env)).any (·.1) = false := by rfl) :
    PI X (.Tuple elts kk tpos) (.Call (.Name "zip" p) [e, e2] [⟨some "strict", .Constant (.bool true) cc cp, kp⟩] pos) (iZipS X.K ta) := by
  refine ⟨fun pins s σ H R I h => ?_⟩
  refine wpAny_Call_Name_kw (ld_blt I hg hm PyProof.Rows.boot_zip (callWith_kwT (thn (ha.run pos pins s σ H _ I h) fun us s1 ⟨vs, H1, I1, r1, q1⟩ => ?_) hs hpl))
  refine kws_cons ?_
  rw [arm_eval_Constant]
  refine wpAny_pure (kws_nil ?_)
  obtain ⟨a, b, xs, ys, ex, hqx, hqy, q⟩ := q1
  subst ex
  obtain ⟨w1, w2, rfl, e1, e2⟩ := vals2 r1
  cases e1
  cases e2
  have fresh5 : ∀ c, c ∈ [s1.heap.objs.size + 4, s1.heap.objs.size + 2, s1.heap.objs.size + 3, s1.heap.objs.size, s1.heap.objs.size + 1] → FpOk X pins H1 c := fun c hcm => by
    have e' : c = s1.heap.objs.size + 4 ∨ c = s1.heap.objs.size + 2 ∨ c = s1.heap.objs.size + 3 ∨ c = s1.heap.objs.size ∨ c = s1.heap.objs.size + 1 := by simpa using hcm
    have hle : s1.heap.objs.size ≤ c := by
      rcases e' with z | z | z | z | z <;> omega
    exact I1.fpOk hle (I1.hok.fresh hle)
  obtain ⟨its, rv, p1, _⟩ := I1.tuple hqx
  obtain ⟨its2, rv2, p2, _⟩ := I1.tuple hqy
  obtain ⟨o1, ho1, _⟩ := id p1
  obtain ⟨o2, ho2, _⟩ := id p2
  refine call_zipS (show s1.heap.IsTuple a its.toArray from p1) (show s1.heap.IsTuple b its2.toArray from p2) fun h' hz hTI hTO h1 h2 hsz hk => iter_zipS hz ?_
  have I2 : Inv X pins σ H1 { s1 with heap := h' } := I1.kept (t' := s1.toks) hk
  exact ⟨s1.heap.objs.size + 4, [s1.heap.objs.size + 4, s1.heap.objs.size + 2, s1.heap.objs.size + 3, s1.heap.objs.size, s1.heap.objs.size + 1], _, _, H1, rfl, I2, turn_zipS (PySem.W.ktu_apart s1.heap.objs.size a b (Heap.lt_size ho1) (Heap.lt_size ho2)), ⟨hz, hTI, ⟨_, _, hTO⟩, h1, h2⟩, fresh5, q⟩
end Kf
end

section
set_option Elab.async false
set_option linter.all false
set_option maxRecDepth 100000
set_option maxHeartbeats 4000000
/-! defs that are only called where no repr is under way -/
namespace Kf
open PySem L2 PySem.Spec PyProof.Rows

/-- the promise of a def, for calls from where no repr is under way -/
structure FnG (P : Program) (w : World) (K : PySem.W.Frag) (mg : Str → Option Value) (base : Heap) (CX : CXT) (k : Nat) (f : Addr) (fd : FuncData) (ps : List Str) (sp : Sp) : Prop where
  len : ∀ vs H Q E, sp vs H Q E → vs.length = ps.length
  run : ∀ (A : Around) (outer : List Env) (s : Shared) (H : Hp) (args : Args) (us : List Value) (vs : List V) (Q : VK) (E : XK), Room k A → A.guards = some [] → Env0 P w K mg base A outer s H →
    BindsTo s fd args (ps.zip us) → Vals vs us → sp vs H Q E → codeAny (model P w) A (.call (.ref f) args) (CR CX outer P w H s Q E) s

section
variable {X : Cx} {CX : CXT} {k : Nat} {f C : Addr} {fd : FuncData} {ps ks : List Str} {sp : Sp} {dvs : List V} {ds : List Value} {E : XK} {x m : Str} {p pos apos : Pos} {e o : Expr} {es : List Expr} {ta : TE} {t tk : TA} {kws : List Keyword}
theorem pe_callG (F : FnG X.prog X.w X.K X.mg X.base CX k f fd ps sp) (hr : Room k X.A) (hgd : X.A.guards = some []) (hg : Gl X x) (hm : X.mg x = some (.ref f)) (hk : PySem.W.keepIn X.K (.ref f) = true) (hb : Binds X.K fd ps []) (hx : Passes CX X E)
    (ha : PA X (e :: es) t) (hdb : (x == ("__debug__" : Str)) = false := by decide) (he : starEach (e :: es) X.env = (false, eval e X.env) :: starEach es X.env := by rfl) (hpl : (backTo pos (starEach es X.env)).any (·.1) = false := by rfl) :
    PE X (.Call (.Name x p) (e :: es) [] pos) (tCall sp [] E t) := by
  refine ⟨fun pins s σ H Q I h => wpAny_Call_Name_kw (ld_glob I hg hm ?_ hdb)⟩
  refine PySem.W.callWith_K (h₀ := X.base) I.ok.mod.kin hk (thn (ha.run pos pins s σ H _ I h) fun us s1 ⟨vs, H1, I1, r, q⟩ => ⟨I1.kIn, ?_⟩) he hpl
  have r2 : Vals (vs ++ []) (us ++ []) := r.append .nil
  have hl : (us ++ []).length = ps.length := by
    rw [← r2.length]
    exact F.len _ _ _ _ q
  refine wpAny_call (codeAny_mono (F.run X.A X.stack s1 H1 ⟨us, []⟩ (us ++ []) (vs ++ []) Q E hr hgd I1.env0 (hb s1 us I1.kIn hl) r2 q) fun r s' hq => ?_)
  cases r with
  | error e => exact hx pins σ H1 s1 e s' I1 hq
  | ok fl =>
    cases fl with
    | ret u => exact I1.after hq
    | next => exact False.elim hq
    | brk => exact False.elim hq
    | cont => exact False.elim hq
end

section
variable {P : Program} {w : World} {K : PySem.W.Frag} {mg : Str → Option Value} {base : Heap}
/-- a def of the text, by its body -/
theorem okG {x qual : Str} {st : Stmt} {f : Addr} {fd : FuncData} {N ps : List Str} {k : Nat} {sp : Sp} (F : Fun K x qual st f fd) (S : FnScope N ps (defScope st)) (len : ∀ vs H Q E, sp vs H Q E → vs.length = ps.length)
    (hbody : ∀ (cdv : Value) (A : Around) (outer : List Env) (s : Shared) (H : Hp) (vs : List V) (Q : VK) (E : XK), Room k (A.deeper (envOfC qual (defScope st) s.heap.objs.size f cdv)) → A.guards = some [] → sp vs H Q E →
      ∃ t, PSs (cxOf CX0 P w K mg base N qual (defScope st) f cdv A outer s H E).nox (defBody st) t ∧ t { nx := fun _ H' => Q .non H', rt := Q } (start N vs) H) : FnG P w K mg base CX0 (k + 1) f fd ps sp := by
  obtain ⟨oc, od, kV, doc, pm, an, cdv, ct, osl, rfl, lk, hcd⟩ := F.ex
  refine ⟨len, fun A outer s H args us vs Q E hr hg e0 hb r hsp => ?_⟩
  have hl := len _ _ _ _ hsp
  have KX : K.In s.heap := e0.mod.kin.keeps fun b o e => (e0.bs b o e).1
  have lim : s.heap.NoLimit := e0.mod.nolimit.keeps fun b o e => (e0.bs b o e).1
  have kind : ∀ y ∈ ps.zip us, (defScope st).names.lookup y.1 = some .local ∨ ((defScope st).names.lookup y.1 = some .cell ∧ ((cellsFrom (s.heap.objs.size + 1) (defScope st).names []).lookup y.1).isSome = true) := by
    rintro ⟨n, v⟩ hy
    rcases S.par n (List.of_mem_zip hy).1 with q | q
    · exact .inl q
    · exact .inr ⟨q, PySem.W.cellsFrom_some _ _ _ (.inl q)⟩
  refine codeAny_call_function hr.depth (KX _ _ lk) rfl S.co S.gen rfl (PySem.W.codeRec_of KX hcd) (hb _ _ _ _ ?_)
  refine wpAny_newFunctionEnv_cells S.kind kind fun env he s1 x => ?_
  subst he
  refine ⟨lim.keeps x.toInCall.keep, codeAny_func ?_⟩
  obtain ⟨t, h0, q⟩ := hbody cdv A outer s H vs Q E (hr.deeper _) hg hsp
  have ht := h0.nox
  have I : Inv (cxOf CX0 P w K mg base N qual (defScope st) f cdv A outer s H E) [] (start N vs) H s1 := inv_start S hr.hd e0 hl r x
  refine wpAny_mono (ht.run [] s1 (start N vs) H _ I q) (fun fl s' hs => ?_) fun e s' hs => hs
  cases fl with
  | ret u =>
    obtain ⟨v, σ', H', J, rv, q⟩ := hs
    exact ⟨v, H', J.os, J.bare, J.base, J.hok, rv, q⟩
  | next =>
    obtain ⟨σ', H', J, q⟩ := hs
    exact ⟨V.non, H', J.os, J.bare, J.base, J.hok, rfl, q⟩
  | brk =>
    obtain ⟨_, _, _, q⟩ := hs
    exact False.elim q
  | cont =>
    obtain ⟨_, _, _, q⟩ := hs
    exact False.elim q
end

theorem law_callG {P : Program} {w : World} {K : PySem.W.Frag} {mg mb : Str → Option Value} {CX : CXT} {k : Nat} {fa a : Addr} {fd : FuncData} {x : Str} {sp : Sp} {s₁ : Shared} {vs : List Value} {ns : List Int}
    (KX : K.In s₁.heap) (hns : s₁.heap.Ns mainGlobals mg) (hb : s₁.heap.Ns builtinsNs mb) (hbb : ∀ x : Str, x ≠ "__name__" → mb x = bootBuiltins x) (hlim : s₁.heap.NoLimit) (hg : s₁.gens = #[])
    (ha : s₁.heap.get? a = some { cls := .type "list", data := .seq vs.toArray }) (hi : IntsAre vs ns) (hl : ns.length ≤ sizeLine) (hr : Room k callerA)
    (F : ∀ base : Heap, K.In base → base.Ns mainGlobals mg → FnG P w K mg base CX k fa fd [x] sp) (hbind : ∀ (s : Shared) (u : Value), BindsTo s fd ⟨[u], []⟩ [(x, u)])
    (hsp : ∀ H : Hp, Only H → SqL K H a (ns.map V.int) → sp [.ref a] H (fun v _ => v = .bl true) fun _ _ _ => False)
    (hCX : ∀ H e s', CX [] H s₁ (fun _ _ _ => False) e s' → False) :
    codeAny (model P w) callerA (.call (.ref fa) ⟨[.ref a], []⟩) (fun r s' => r = .ok (.ret (.bool true)) ∧ OldK s₁.heap s'.heap ∧ s'.os = s₁.os ∧ AllBare s'.gens) s₁ := by
  have rv := vals_ints hi
  have core : ∀ H : Hp, Only H → SqL K H a (ns.map V.int) → HOk P w H s₁.heap → (∀ b, H b ≠ none → b = a) → (H a ≠ none → K.lookup a = none) →
      codeAny (model P w) callerA (.call (.ref fa) ⟨[.ref a], []⟩) (fun r s' => r = .ok (.ret (.bool true)) ∧ OldK s₁.heap s'.heap ∧ s'.os = s₁.os ∧ AllBare s'.gens) s₁ := by
    intro H hO hS hok hA hK
    have only_a : ∀ {b : Addr} {u : HO}, H b = some u → b = a := fun {b u} q => hA b (by rw [q]; exact fun z => nomatch z)
    have nsK : ∀ {b : Addr} {m : Str → Option Value}, s₁.heap.Ns b m → (hidT s₁.heap H).Ns b m := by
      rintro b m ⟨o, es, ep, e, d, r⟩
      have hn : H b = none := by
        cases q : H b with
        | none => rfl
        | some u =>
          rw [only_a q, ha] at e
          cases e
          have d' : Data.seq vs.toArray _ = Data.dict es ep := d
          cases d'
      exact ⟨o, es, ep, hidT_get e hn, d, r⟩
    have hKb : K.In (hidT s₁.heap H) := by
      intro b o e
      refine hidT_get (KX b o e) ?_
      cases q : H b with
      | none => rfl
      | some u =>
        rw [only_a q] at e q
        rw [hK (by rw [q]; exact fun z => nomatch z)] at e
        cases e
    have hM : Mod K mg (hidT s₁.heap H) := ⟨hKb, nsK hns, ⟨mb, nsK hb, hbb⟩, let ⟨mc, h1, h2⟩ := hlim; ⟨mc, nsK h1, h2⟩⟩
    have e0 : Env0 P w K mg (hidT s₁.heap H) callerA [] s₁ H := ⟨rfl, hM, fun b o e => of_hidT e, Nat.le_of_eq (hidT_size _ _), trivial, (fun b hb => nomatch (show b ∈ ([] : List Addr) from hb)), hok, .of_eq hg⟩
    refine codeAny_mono ((F _ hKb (nsK hns)).run callerA [] s₁ H ⟨[.ref a], []⟩ [.ref a] [.ref a] _ _ hr rfl e0 (hbind s₁ (.ref a)) (.cons rfl .nil) (hsp H hO hS)) fun r s' h => ?_
    cases r with
    | error e => exact (hCX H e s' h).elim
    | ok fl =>
      cases fl with
      | next => exact False.elim h
      | brk => exact False.elim h
      | cont => exact False.elim h
      | ret u =>
        obtain ⟨v, H', os, bare, un, hok', r', q⟩ := h
        obtain rfl : v = V.bl true := q
        obtain rfl : u = Value.bool true := r'
        refine ⟨rfl, OldK.of_keep fun b o e => ?_, os, bare⟩
        cases q : H b with
        | none => exact un.keep b o e q (fun z => nomatch (show b ∈ ([] : List Addr) from z)) (by simp)
        | some u =>
          rcases hO b with z | ⟨ob, xs, z⟩
          · rw [q] at z
            cases z
          · obtain ⟨e1, _⟩ := hok b _ z
            obtain ⟨e2, _⟩ := hok' b _ (un.frzs b ob _ z)
            rw [e] at e1
            cases e1
            exact e2
  cases hk : K.lookup a with
  | some o =>
    have e := KX a o hk
    rw [ha] at e
    cases e
    exact core (fun _ => none) (fun _ => .inl rfl) (.inr ⟨_, vs.toArray, _, hk, rfl, rfl, rfl, by rw [List.size_toArray, hi.length]; exact hl, by simpa using rv⟩) (fun b u z => by cases (show (none : Option HO) = some u from z)) (fun b z => absurd rfl z) fun z => absurd rfl z
  | none =>
    refine core (fun b => if b = a then some (.frz { cls := .type "list", data := .seq vs.toArray } (.lst (ns.map V.int))) else none) (fun b => ?_) (.inl (.inr ⟨{ cls := .type "list", data := .seq vs.toArray }, if_pos rfl⟩)) (fun b u z => ?_) (fun b z => ?_) fun _ => hk
    · by_cases hb : b = a
      · exact .inr ⟨_, _, if_pos hb⟩
      · exact .inl (if_neg hb)
    · by_cases hb : b = a
      · have z' := (if_pos hb).symm.trans z
        cases z'
        subst hb
        exact ⟨ha, by rw [List.length_map]; exact hl, vs, _, rv, ha⟩
      · cases (if_neg hb).symm.trans z
    · by_cases hb : b = a
      · exact hb
      · exact absurd (if_neg hb) z

theorem walk_ofG {l : PySem.W.OpenLaw} {n k : Nat} {q : Program} {loose : List Str} {XP : (Str → Option Value) → Heap → Prop} {YP : World → Heap → Prop} {d : DefRec} {K : Params → PySem.W.Frag} {CX : World → CXT} {sp : World → Sp} {x : Str}
    (hn : l.most = some n) (hn2 : n ≤ sizeLine) (hdf : d.params.defaults = []) (hr : Room k callerA)
    (hY : ∀ (w : World) (h : Heap), YP w h → (K w.params).In h)
    (F : ∀ (w : World) (mg : Str → Option Value) (fa : Addr) (h : Heap), (K w.params).In h → h.Ns mainGlobals mg → mg d.name = some (.ref fa) →
      ∃ fd : FuncData, (∀ (s : Shared) (u : Value), BindsTo s fd ⟨[u], []⟩ [(x, u)]) ∧
        ∀ base : Heap, (K w.params).In base → base.Ns mainGlobals mg → FnG l.prog w (K w.params) mg base (CX w) k fa fd [x] (sp w))
    (hsp : ∀ (w : World) (H : Hp) (a : Addr) (ns : List Int), ns.length ≤ n → Only H → SqL (K w.params) H a (ns.map V.int) → sp w [.ref a] H (fun v _ => v = .bl true) fun _ _ _ => False)
    (hCX : ∀ (w : World) (H : Hp) (s : Shared) (e : Value) (s' : Shared), CX w [] H s (fun _ _ _ => False) e s' → False) :
    PySem.W.WalkO q loose XP YP l.row.toRowW d [] (fun f vs => PySem.call f vs) := by
  refine Att.attach_call hn hdf fun w s₀ s₁ mg mb fa o pm cd doc a vs ns G Y ho hd hcd hmg hobj hints hlen hg => ?_
  obtain ⟨fd, hb, hF⟩ := F w mg fa _ (hY w _ Y) G.T.g hmg
  exact law_callG (hY w _ Y) G.T.g G.T.b G.T.builtins G.T.nolimit hg hobj hints (Nat.le_trans hlen hn2) hr hF hb (fun H hO hS => hsp w H a ns hlen hO hS) fun H e s' => hCX w H s₁ e s'
end Kf
end

section
set_option Elab.async false
set_option linter.all false
set_option maxRecDepth 100000
set_option maxHeartbeats 4000000
/-! the text by places -/
namespace Kf
open PySem L2
def top (i : Nat) : Stmt := PySem.Challenge.pw_slotsure_k05_whole_groups_hang_together.main.body.getD i (.Pass ⟨0, 0, 0, 0⟩)
abbrev sWhole : Stmt := top 8
abbrev nWhole : List Str := ["thing", "least", "most"]
theorem scWhole : FnScope nWhole ["thing", "least", "most"] (defScope sWhole) := ⟨rfl, rfl, rfl, by decide +kernel, rfl, by decide +kernel, by decide +kernel⟩
abbrev sName : Stmt := top 9
abbrev nName : List Str := ["thing", "sign"]
theorem scName : FnScope nName ["thing"] (defScope sName) := ⟨rfl, rfl, rfl, by decide +kernel, rfl, by decide +kernel, by decide +kernel⟩
abbrev sTup : Stmt := top 16
abbrev nTup : List Str := ["thing", "least", "most"]
theorem scTup : FnScope nTup ["thing", "least", "most"] (defScope sTup) := ⟨rfl, rfl, rfl, by decide +kernel, rfl, by decide +kernel, by decide +kernel⟩
abbrev sRise : Stmt := top 17
abbrev nRise : List Str := ["names", "one", "other"]
theorem scRise : FnScope nRise ["names"] (defScope sRise) := ⟨rfl, rfl, rfl, by decide +kernel, rfl, by decide +kernel, by decide +kernel⟩
abbrev sSlot : Stmt := top 18
abbrev nSlot : List Str := ["spaces", "thing", "part"]
theorem scSlot : FnScope nSlot ["spaces", "thing"] (defScope sSlot) := ⟨rfl, rfl, rfl, by decide +kernel, rfl, by decide +kernel, by decide +kernel⟩
abbrev sOrdr : Stmt := top 19
abbrev nOrdr : List Str := ["held", "thing", "k", "slot"]
theorem scOrdr : FnScope nOrdr ["held", "thing"] (defScope sOrdr) := ⟨rfl, rfl, rfl, by decide +kernel, rfl, by decide +kernel, by decide +kernel⟩
abbrev sMove : Stmt := top 20
abbrev nMove : List Str := ["held", "thing"]
theorem scMove : FnScope nMove ["held", "thing"] (defScope sMove) := ⟨rfl, rfl, rfl, by decide +kernel, rfl, by decide +kernel, by decide +kernel⟩
abbrev sBox : Stmt := top 21
abbrev nBox : List Str := ["spaces", "thing", "name", "held", "moves", "slot", "move"]
theorem scBox : FnScope nBox ["spaces", "thing"] (defScope sBox) := ⟨rfl, rfl, rfl, by decide +kernel, rfl, by decide +kernel, by decide +kernel⟩
abbrev sGear : Stmt := top 22
abbrev nGear : List Str := ["thing", "spaces", "boxes", "name", "box"]
theorem scGear : FnScope nGear ["thing"] (defScope sGear) := ⟨rfl, rfl, rfl, by decide +kernel, rfl, by decide +kernel, by decide +kernel⟩
abbrev sNeed : Stmt := top 23
abbrev nNeed : List Str := ["gear"]
theorem scNeed : FnScope nNeed ["gear"] (defScope sNeed) := ⟨rfl, rfl, rfl, by decide +kernel, rfl, by decide +kernel, by decide +kernel⟩
abbrev sBoxOf : Stmt := top 24
abbrev nBoxOf : List Str := ["gear", "box", "own"]
theorem scBoxOf : FnScope nBoxOf ["gear", "box"] (defScope sBoxOf) := ⟨rfl, rfl, rfl, by decide +kernel, rfl, by decide +kernel, by decide +kernel⟩
abbrev sSlots : Stmt := top 25
abbrev nSlots : List Str := ["gear", "box"]
theorem scSlots : FnScope nSlots ["gear", "box"] (defScope sSlots) := ⟨rfl, rfl, rfl, by decide +kernel, rfl, by decide +kernel, by decide +kernel⟩
abbrev sMoved : Stmt := top 26
abbrev nMoved : List Str := ["row", "order", "k"]
theorem scMoved : FnScope nMoved ["row", "order"] (defScope sMoved) := ⟨rfl, rfl, rfl, by decide +kernel, rfl, by decide +kernel, by decide +kernel⟩
abbrev sGrp : Stmt := top 27
abbrev nGrp : List Str := ["gear", "box", "name", "held", "moves", "first", "found", "waiting", "order", "sign", "step", "turn", "reached"]
theorem scGrp : FnScope nGrp ["gear", "box"] (defScope sGrp) := ⟨rfl, rfl, rfl, by decide +kernel, rfl, by decide +kernel, by decide +kernel⟩
abbrev sSlotsP : Stmt := top 28
abbrev nSlotsP : List Str := ["gear", "box"]
theorem scSlotsP : FnScope nSlotsP ["gear", "box"] (defScope sSlotsP) := ⟨rfl, rfl, rfl, by decide +kernel, rfl, by decide +kernel, by decide +kernel⟩
abbrev sGrpP : Stmt := top 29
abbrev nGrpP : List Str := ["gear", "box"]
theorem scGrpP : FnScope nGrpP ["gear", "box"] (defScope sGrpP) := ⟨rfl, rfl, rfl, by decide +kernel, rfl, by decide +kernel, by decide +kernel⟩
abbrev sStart : Stmt := top 31
abbrev nStart : List Str := ["_law_script"]
theorem scStart : FnScope nStart ["_law_script"] (defScope sStart) := ⟨rfl, rfl, rfl, by decide +kernel, rfl, by decide +kernel, by decide +kernel⟩
abbrev sDraw : Stmt := top 32
abbrev nDraw : List Str := ["_law_d", "_law_many", "_law_found", "_law_cells", "_law_cell", "_law_k", "_law_one"]
theorem scDraw : FnScope nDraw ["_law_d", "_law_many"] (defScope sDraw) := ⟨rfl, rfl, rfl, by decide +kernel, rfl, by decide +kernel, by decide +kernel⟩
abbrev sPick : Stmt := top 33
abbrev nPick : List Str := ["_law_d", "_law_some"]
theorem scPick : FnScope nPick ["_law_d", "_law_some"] (defScope sPick) := ⟨rfl, rfl, rfl, by decide +kernel, rfl, by decide +kernel, by decide +kernel⟩
abbrev sNames : Stmt := top 34
abbrev nNames : List Str := ["_law_d", "_law_many", "_law_signs", "_law_found", "_law_size", "_law_wide", "_law_name", "_law_k", "_law_sign"]
theorem scNames : FnScope nNames ["_law_d", "_law_many"] (defScope sNames) := ⟨rfl, rfl, rfl, by decide +kernel, rfl, by decide +kernel, by decide +kernel⟩
abbrev sLOrd : Stmt := top 35
abbrev nLOrd : List Str := ["_law_d", "_law_held", "_law_left", "_law_found", "_law_slot", "_law_k"]
theorem scLOrd : FnScope nLOrd ["_law_d", "_law_held"] (defScope sLOrd) := ⟨rfl, rfl, rfl, by decide +kernel, rfl, by decide +kernel, by decide +kernel⟩
abbrev sLGear : Stmt := top 36
abbrev nLGear : List Str := ["_law_d", "_law_spaces", "_law_boxes", "_law_name", "_law_held", "_law_way", "_law_k", "_law_slot", "_law_moves"]
theorem scLGear : FnScope nLGear ["_law_d"] (defScope sLGear) := ⟨rfl, rfl, rfl, by decide +kernel, rfl, by decide +kernel, by decide +kernel⟩
abbrev sBack : Stmt := top 37
abbrev nBack : List Str := ["_law_path", "_law_k"]
theorem scBack : FnScope nBack ["_law_path"] (defScope sBack) := ⟨rfl, rfl, rfl, by decide +kernel, rfl, by decide +kernel, by decide +kernel⟩
abbrev sAll : Stmt := top 38
abbrev nAll : List Str := ["_law_held", "_law_found", "_law_k", "_law_slot"]
theorem scAll : FnScope nAll ["_law_held"] (defScope sAll) := ⟨rfl, rfl, rfl, by decide +kernel, rfl, by decide +kernel, by decide +kernel⟩
abbrev sThings : Stmt := top 39
abbrev nThings : List Str := ["_law_d", "_law_many", "_law_some", "_law_found", "_law_k"]
theorem scThings : FnScope nThings ["_law_d", "_law_many"] (defScope sThings) := ⟨rfl, rfl, rfl, by decide +kernel, rfl, by decide +kernel, by decide +kernel⟩
abbrev sRight : Stmt := top 40
abbrev nRight : List Str := ["_law_d", "_law_held", "_law_own", "_law_line", "_law_shown", "_law_path", "_law_sign", "_law_step", "_law_turn", "_law_once", "_law_k", "_law_one", "_law_own_sign"]
theorem scRight : FnScope nRight ["_law_d", "_law_held", "_law_own"] (defScope sRight) := ⟨rfl, rfl, rfl, by decide +kernel, rfl, by decide +kernel, by decide +kernel⟩
abbrev sAfter : Stmt := top 41
abbrev nAfter : List Str := ["_law_path", "_law_step", "_law_k"]
theorem scAfter : FnScope nAfter ["_law_path", "_law_step"] (defScope sAfter) := ⟨rfl, rfl, rfl, by decide +kernel, rfl, by decide +kernel, by decide +kernel⟩
abbrev sClosed : Stmt := top 42
abbrev nClosed : List Str := ["_law_d", "_law_held", "_law_own", "_law_still", "_law_orders", "_law_undone", "_law_step", "_law_turn", "_law_many", "_law_reached", "_law_path", "_law_sign", "_law_one"]
theorem scClosed : FnScope nClosed ["_law_d", "_law_held", "_law_own"] (defScope sClosed) := ⟨rfl, rfl, rfl, by decide +kernel, rfl, by decide +kernel, by decide +kernel⟩
abbrev sWith : Stmt := top 43
abbrev nWith : List Str := ["_law_gear_so", "_law_at", "_law_moves", "_law_name", "_law_held", "_law_old"]
theorem scWith : FnScope nWith ["_law_gear_so", "_law_at", "_law_moves"] (defScope sWith) := ⟨rfl, rfl, rfl, by decide +kernel, rfl, by decide +kernel, by decide +kernel⟩
abbrev sBoxR : Stmt := top 44
abbrev nBoxR : List Str := ["_law_d", "_law_gear_so", "_law_at", "_law_name", "_law_held", "_law_moves", "_law_own", "_law_back_here", "_law_some", "_law_part", "_law_path", "_law_sign", "_law_k", "_law_one"]
theorem scBoxR : FnScope nBoxR ["_law_d", "_law_gear_so", "_law_at"] (defScope sBoxR) := ⟨rfl, rfl, rfl, by decide +kernel, rfl, by decide +kernel, by decide +kernel⟩
abbrev sLaw : Stmt := top 45
abbrev nLaw : List Str := ["_law_script", "_law_d", "_law_turn", "_law_gear_so", "_law_shown", "_law_at"]
theorem scLaw : FnScope nLaw ["_law_script"] (defScope sLaw) := ⟨rfl, rfl, rfl, by decide +kernel, rfl, by decide +kernel, by decide +kernel⟩
end Kf
end

section
set_option Elab.async false
set_option linter.all false
set_option maxRecDepth 100000
set_option maxHeartbeats 4000000
/-! lists made by comprehensions, as data -/
namespace Kf
open PySem L2

/-- behind i turns: ys stands at D -/
structure LcI (K : PySem.W.Frag) (L L0 : List Addr) (D : Addr) (S : Nat → Hp → Prop) (fs : List (Option PyData)) (H1 : Hp) (i : Nat) (H : Hp) (ys : List V) : Prop where
  at_ : H D = some (.lst ys)
  few : ys.length ≤ i
  up : Up (D :: L0) H1 H
  tr : Tr (D :: L) H
  st : S i H
  dat : DpAll K (Fz (D :: L) H) ys ((fs.take i).filterMap id)
def LcP (K : PySem.W.Frag) (L L0 : List Addr) (D : Addr) (S : Nat → Hp → Prop) (fs : List (Option PyData)) (H1 : Hp) (i : Nat) (H : Hp) : Prop := ∃ ys, LcI K L L0 D S fs H1 i H ys
structure LcC (L L0 : List Addr) (D : Addr) (S : Nat → Hp → Prop) (fs : List (Option PyData)) (H1 : Hp) : Prop where
  new : H1 D = Option.none
  tr : Tr L H1
  sub : ∀ x, x ∈ L0 → x ∈ L
  few : fs.length ≤ 1000
  st : S 0 H1
  stab : ∀ i H ys, Up (D :: L0) H1 H → S i H → S i (upd H D (.lst ys))
section
variable {K : PySem.W.Frag} {L L0 : List Addr} {D : Addr} {S : Nat → Hp → Prop} {fs : List (Option PyData)} {H1 H H4 : Hp} {i : Nat} {ys : List V} {y : V} {d : PyData}
theorem LcC.out (C : LcC L L0 D S fs H1) : D ∉ L := C.tr.out C.new
theorem LcC.pure (hn : H1 D = Option.none) (t : Tr L H1) (f : fs.length ≤ 1000) : LcC L [] D (fun _ _ => True) fs H1 := ⟨hn, t, fun _ z => (nomatch z), f, trivial, fun _ _ _ _ _ => trivial⟩
theorem LcC.start (C : LcC L L0 D S fs H1) : LcP K L L0 D S fs H1 0 (upd H1 D (.lst [])) :=
  ⟨[], upd_same, Nat.le_refl _, Up.new C.new, (C.tr.up (Up.new (L := []) C.new)).cons upd_same, C.stab _ _ _ Up.refl C.st, by
    rw [List.take_zero]
    exact .nil⟩
theorem LcI.gw (I : LcI K L L0 D S fs H1 i H ys) (C : LcC L L0 D S fs H1) : Up [] (Fz L H1) (Fz (D :: L) H) :=
  (I.up.mono (L' := D :: L) fun x hx => by
    rcases List.mem_cons.mp hx with q | q
    · exact List.mem_cons.mpr (.inl q)
    · exact List.mem_cons_of_mem _ (C.sub x q)).drop C.new |>.gw fun x hx => by
    rcases List.mem_cons.mp hx with q | q
    · exact .inr (by rw [q]; exact C.new)
    · exact .inl q
theorem LcI.up0 (I : LcI K L L0 D S fs H1 i H ys) (C : LcC L L0 D S fs H1) : Up L0 H1 H := I.up.drop C.new
theorem LcI.ups (C : LcC L L0 D S fs H1) (u : Up L0 H H4) : Up (D :: L) H H4 := u.mono fun x hx => List.mem_cons_of_mem _ (C.sub x hx)
theorem take_at {α : Type} {l : List α} {i : Nat} {x : α} (e : l[i]? = some x) : l.take (i + 1) = l.take i ++ [x] := by
  rw [List.take_succ, e]
  rfl
theorem LcI.add (I : LcI K L L0 D S fs H1 i H ys) (C : LcC L L0 D S fs H1) (u : Up L0 H H4) (s : S (i + 1) H4) (e : fs[i]? = some (some d)) (h : Dp K (Fz (D :: L) H4) y d) :
    ∃ acc, H4 D = some (.lst acc) ∧ acc.length < sizeLine ∧ LcP K L L0 D S fs H1 (i + 1) (upd H4 D (.lst (acc ++ [y]))) := by
  have hD : D ∉ L0 := fun z => C.out (C.sub _ z)
  have hi : i < fs.length := (List.getElem?_eq_some_iff.mp e).1
  have hf := C.few
  have up2 : Up (D :: L0) H1 H4 := I.up.trans (u.mono fun x hx => List.mem_cons_of_mem _ hx)
  refine ⟨ys, u.keep hD I.at_, Nat.lt_of_le_of_lt (Nat.le_trans I.few (Nat.le_trans (Nat.le_of_lt hi) hf)) (by decide), ys ++ [y], upd_same, ?_, up2.trans (Up.put List.mem_cons_self), ?_, C.stab _ _ _ up2 s, ?_⟩
  · rw [List.length_append]
    have := I.few
    show ys.length + 1 ≤ i + 1
    omega
  · exact (I.tr.up u).up (Up.put (L := [D]) List.mem_cons_self)
  · rw [fz_put List.mem_cons_self, take_at e, List.filterMap_append]
    exact dpa_app (dpa_up (LcI.ups C u).fz I.dat) (.cons h .nil)
theorem LcI.skip (I : LcI K L L0 D S fs H1 i H ys) (C : LcC L L0 D S fs H1) (u : Up L0 H H4) (s : S (i + 1) H4) (e : fs[i]? = some Option.none) : LcP K L L0 D S fs H1 (i + 1) H4 := by
  have hD : D ∉ L0 := fun z => C.out (C.sub _ z)
  refine ⟨ys, u.keep hD I.at_, Nat.le_succ_of_le I.few, I.up.trans (u.mono fun x hx => List.mem_cons_of_mem _ hx), I.tr.up u, s, ?_⟩
  rw [take_at e, List.filterMap_append]
  have z : List.filterMap id [(Option.none : Option PyData)] = [] := rfl
  rw [z, List.append_nil]
  exact dpa_up (LcI.ups C u).fz I.dat
/-- what stands at D at the end -/
theorem LcI.list (I : LcI K L L0 D S fs H1 i H ys) (C : LcC L L0 D S fs H1) (e : fs.length = i) : Up L0 H1 H ∧ Tr L H ∧ S i H ∧ Dp K (Fz L H) (.ref D) (.list (fs.filterMap id)) := by
  refine ⟨I.up0 C, I.tr.sub fun x hx => List.mem_cons_of_mem _ hx, I.st, .lst (xs := ys) (.inl (.inl ?_)) ?_⟩
  · rw [fz_out C.out]
    exact I.at_
  · have q : fs.take i = fs := by rw [← e, List.take_length]
    have h := I.dat
    rw [q] at h
    exact dpa_up (fz_sub fun x hx => List.mem_cons_of_mem _ hx) h

/-! the sources -/
variable {g : TG} {tt : TT} {te : TE} {vs : List Nat} {σ : L2.St} {Qd : Hp → Prop} {a : Addr} {xs : List V}
/-- what a turn asks -/
def LcTurn (K : PySem.W.Frag) (L L0 : List Addr) (D : Addr) (S : Nat → Hp → Prop) (fs : List (Option PyData)) (H1 : Hp) (g : TG) (tt : TT) (te : TE) (vs : List Nat) (σ : L2.St) (i : Nat) (x : V) (H : Hp) : Prop :=
  g x (wipe σ vs) H fun σ2 H2 => wipe σ2 vs = wipe σ vs ∧ tt σ2 H2 fun b H3 =>
    if b = true then te σ2 H3 fun y H4 => ∃ acc, H4 D = some (.lst acc) ∧ acc.length < sizeLine ∧ LcP K L L0 D S fs H1 (i + 1) (upd H4 D (.lst (acc ++ [y]))) else LcP K L L0 D S fs H1 (i + 1) H3
theorem lcT (C : LcC L L0 D S fs H1) (hx : SqT K (Fz L H1) a xs) (hl : fs.length = xs.length)
    (hs : ∀ i x o ys H, xs[i]? = some x → fs[i]? = some o → LcI K L L0 D S fs H1 i H ys → LcTurn K L L0 D S fs H1 g tt te vs σ i x H)
    (hd : ∀ H, Up L0 H1 H → Tr L H → S xs.length H → Dp K (Fz L H) (.ref D) (.list (fs.filterMap id)) → Qd H) :
    ∃ W : Nat → Nat → Hp → Prop, (∃ m, W 0 m (upd H1 D (.lst []))) ∧ ∀ i m H, W i m H →
      ((Itt K a).stop i H ∧ Qd H) ∨ ((Itt K a).go i H ∧ ∃ Nx : Hp → Prop, (∀ H', Nx H' → ∃ m', m' < m ∧ W (i + 1) m' H') ∧ ∀ x H', (Itt K a).yld i H x H' → g x (wipe σ vs) H' fun σ2 H2 => wipe σ2 vs = wipe σ vs ∧ tt σ2 H2 fun b H3 =>
        if b = true then te σ2 H3 fun y H4 => ∃ acc, H4 D = some (.lst acc) ∧ acc.length < sizeLine ∧ Nx (upd H4 D (.lst (acc ++ [y]))) else Nx H3) := by
  refine lc_tup (Qd := Qd) (LcP K L L0 D S fs H1) C.start (fun i H _ ⟨ys, I⟩ => sqt_up fz_le (sqt_up (I.gw C) hx)) (fun i x H hi ⟨ys, I⟩ => ?_) fun H ⟨ys, I⟩ => ?_
  · have hlt : i < fs.length := by
      rw [hl]
      exact (List.getElem?_eq_some_iff.mp hi).1
    exact hs i x _ ys H hi (List.getElem?_eq_getElem hlt) I
  · obtain ⟨h1, h2, h3, h4⟩ := I.list C hl
    exact hd H h1 h2 h3 h4
theorem lcL (C : LcC L L0 D S fs H1) (hx : SqL K (Fz L H1) a xs) (hl : fs.length = xs.length)
    (hs : ∀ i x o ys H, xs[i]? = some x → fs[i]? = some o → LcI K L L0 D S fs H1 i H ys → LcTurn K L L0 D S fs H1 g tt te vs σ i x H)
    (hd : ∀ H, Up L0 H1 H → Tr L H → S xs.length H → Dp K (Fz L H) (.ref D) (.list (fs.filterMap id)) → Qd H) :
    ∃ W : Nat → Nat → Hp → Prop, (∃ m, W 0 m (upd H1 D (.lst []))) ∧ ∀ i m H, W i m H →
      ((Itl K a).stop i H ∧ Qd H) ∨ ((Itl K a).go i H ∧ ∃ Nx : Hp → Prop, (∀ H', Nx H' → ∃ m', m' < m ∧ W (i + 1) m' H') ∧ ∀ x H', (Itl K a).yld i H x H' → g x (wipe σ vs) H' fun σ2 H2 => wipe σ2 vs = wipe σ vs ∧ tt σ2 H2 fun b H3 =>
        if b = true then te σ2 H3 fun y H4 => ∃ acc, H4 D = some (.lst acc) ∧ acc.length < sizeLine ∧ Nx (upd H4 D (.lst (acc ++ [y]))) else Nx H3) := by
  refine lc_list (Qd := Qd) (LcP K L L0 D S fs H1) C.start (fun i H _ ⟨ys, I⟩ => sql_up fz_le (sql_up (I.gw C) hx)) (fun i x H hi ⟨ys, I⟩ => ?_) fun H ⟨ys, I⟩ => ?_
  · have hlt : i < fs.length := by
      rw [hl]
      exact (List.getElem?_eq_some_iff.mp hi).1
    exact hs i x _ ys H hi (List.getElem?_eq_getElem hlt) I
  · obtain ⟨h1, h2, h3, h4⟩ := I.list C hl
    exact hd H h1 h2 h3 h4
theorem lcR {lo : Int} {n : Nat} (C : LcC L L0 D S fs H1) (hl : fs.length = n)
    (hs : ∀ i o ys H, i < n → fs[i]? = some o → LcI K L L0 D S fs H1 i H ys → LcTurn K L L0 D S fs H1 g tt te vs σ i (.int (lo + i)) H)
    (hd : ∀ H, Up L0 H1 H → Tr L H → S n H → Dp K (Fz L H) (.ref D) (.list (fs.filterMap id)) → Qd H) :
    ∃ W : Nat → Nat → Hp → Prop, (∃ m, W 0 m (upd H1 D (.lst []))) ∧ ∀ i m H, W i m H →
      ((Itr lo n).stop i H ∧ Qd H) ∨ ((Itr lo n).go i H ∧ ∃ Nx : Hp → Prop, (∀ H', Nx H' → ∃ m', m' < m ∧ W (i + 1) m' H') ∧ ∀ x H', (Itr lo n).yld i H x H' → g x (wipe σ vs) H' fun σ2 H2 => wipe σ2 vs = wipe σ vs ∧ tt σ2 H2 fun b H3 =>
        if b = true then te σ2 H3 fun y H4 => ∃ acc, H4 D = some (.lst acc) ∧ acc.length < sizeLine ∧ Nx (upd H4 D (.lst (acc ++ [y]))) else Nx H3) := by
  refine lc_range (Qd := Qd) (LcP K L L0 D S fs H1) C.start (fun i H hi ⟨ys, I⟩ => ?_) fun H ⟨ys, I⟩ => ?_
  · have hlt : i < fs.length := by omega
    exact hs i _ ys H hi (List.getElem?_eq_getElem hlt) I
  · obtain ⟨h1, h2, h3, h4⟩ := I.list C hl
    exact hd H h1 h2 h3 h4
theorem lcS {x : Str} (C : LcC L L0 D S fs H1) (hl : fs.length = x.cps.size)
    (hs : ∀ i c o ys H, x.cps[i]? = some c → fs[i]? = some o → LcI K L L0 D S fs H1 i H ys → LcTurn K L L0 D S fs H1 g tt te vs σ i (.str ⟨#[c]⟩) H)
    (hd : ∀ H, Up L0 H1 H → Tr L H → S x.cps.size H → Dp K (Fz L H) (.ref D) (.list (fs.filterMap id)) → Qd H) :
    ∃ W : Nat → Nat → Hp → Prop, (∃ m, W 0 m (upd H1 D (.lst []))) ∧ ∀ i m H, W i m H →
      ((Its x).stop i H ∧ Qd H) ∨ ((Its x).go i H ∧ ∃ Nx : Hp → Prop, (∀ H', Nx H' → ∃ m', m' < m ∧ W (i + 1) m' H') ∧ ∀ z H', (Its x).yld i H z H' → g z (wipe σ vs) H' fun σ2 H2 => wipe σ2 vs = wipe σ vs ∧ tt σ2 H2 fun b H3 =>
        if b = true then te σ2 H3 fun y H4 => ∃ acc, H4 D = some (.lst acc) ∧ acc.length < sizeLine ∧ Nx (upd H4 D (.lst (acc ++ [y]))) else Nx H3) := by
  refine ⟨fun i m H => m = x.cps.size - i ∧ i ≤ x.cps.size ∧ LcP K L L0 D S fs H1 i H, ⟨_, rfl, Nat.zero_le _, C.start⟩, ?_⟩
  rintro i m H ⟨rfl, hi, ys, I⟩
  by_cases hlt : i < x.cps.size
  · have hlt2 : i < fs.length := by omega
    refine .inr ⟨hlt, LcP K L L0 D S fs H1 (i + 1), fun H' p' => ⟨x.cps.size - (i + 1), by omega, rfl, hlt, p'⟩, fun v H' y => ?_⟩
    obtain ⟨rfl, c, hc, rfl⟩ := y
    exact hs i c _ ys _ hc (List.getElem?_eq_getElem hlt2) I
  · have e : i = x.cps.size := by omega
    subst e
    obtain ⟨h1, h2, h3, h4⟩ := I.list C hl
    exact .inl ⟨Nat.le_refl _, hd H h1 h2 h3 h4⟩
/-- two tuples side by side -/
theorem lcZS {b : Addr} {zs : List V} (C : LcC L L0 D S fs H1) (hx : SqT K (Fz L H1) a xs) (hz : SqT K (Fz L H1) b zs) (hl : fs.length = xs.length) (hl2 : fs.length = zs.length)
    (hs : ∀ i x z o ys H T, xs[i]? = some x → zs[i]? = some z → fs[i]? = some o → LcI K L L0 D S fs H1 i H ys → H T = Option.none → LcTurn K L L0 D S fs H1 g tt te vs σ i (.ref T) (upd H T (.tup [x, z])))
    (hd : ∀ H, Up L0 H1 H → Tr L H → S xs.length H → Dp K (Fz L H) (.ref D) (.list (fs.filterMap id)) → Qd H) :
    ∃ W : Nat → Nat → Hp → Prop, (∃ m, W 0 m (upd H1 D (.lst []))) ∧ ∀ i m H, W i m H →
      ((ItzS K a b).stop i H ∧ Qd H) ∨ ((ItzS K a b).go i H ∧ ∃ Nx : Hp → Prop, (∀ H', Nx H' → ∃ m', m' < m ∧ W (i + 1) m' H') ∧ ∀ z H', (ItzS K a b).yld i H z H' → g z (wipe σ vs) H' fun σ2 H2 => wipe σ2 vs = wipe σ vs ∧ tt σ2 H2 fun b H3 =>
        if b = true then te σ2 H3 fun y H4 => ∃ acc, H4 D = some (.lst acc) ∧ acc.length < sizeLine ∧ Nx (upd H4 D (.lst (acc ++ [y]))) else Nx H3) := by
  refine ⟨fun i m H => m = xs.length - i ∧ i ≤ xs.length ∧ LcP K L L0 D S fs H1 i H, ⟨_, rfl, Nat.zero_le _, C.start⟩, ?_⟩
  rintro i m H ⟨rfl, hi, ys, I⟩
  have qx : SqT K H a xs := sqt_up fz_le (sqt_up (I.gw C) hx)
  have qz : SqT K H b zs := sqt_up fz_le (sqt_up (I.gw C) hz)
  by_cases hlt : i < xs.length
  · have h2 : i < fs.length := by omega
    have h3 : i < zs.length := by omega
    refine .inr ⟨⟨xs, zs, _, _, qx, qz, List.getElem?_eq_getElem hlt, List.getElem?_eq_getElem h3⟩, LcP K L L0 D S fs H1 (i + 1), fun H' p' => ⟨xs.length - (i + 1), by omega, rfl, hlt, p'⟩, fun v H' y => ?_⟩
    obtain ⟨T, x', z', rfl, hT, rfl, f1, f2⟩ := y
    exact hs i x' z' _ ys H T (f1 xs qx) (f2 zs qz) (List.getElem?_eq_getElem h2) I hT
  · have e : i = xs.length := by omega
    obtain ⟨h1, h2, h3, h4⟩ := I.list C (by omega)
    exact .inl ⟨⟨xs, zs, qx, qz, by omega, by omega⟩, hd H h1 h2 (by rw [← e]; exact h3) h4⟩
/-- two tuples side by side, as far as both go -/
theorem lcZT {b : Addr} {zs : List V} (C : LcC L L0 D S fs H1) (hx : SqT K (Fz L H1) a xs) (hz : SqT K (Fz L H1) b zs) (hl : fs.length = min xs.length zs.length)
    (hs : ∀ i x z o ys H T, xs[i]? = some x → zs[i]? = some z → fs[i]? = some o → LcI K L L0 D S fs H1 i H ys → H T = Option.none → LcTurn K L L0 D S fs H1 g tt te vs σ i (.ref T) (upd H T (.tup [x, z])))
    (hd : ∀ H, Up L0 H1 H → Tr L H → S fs.length H → Dp K (Fz L H) (.ref D) (.list (fs.filterMap id)) → Qd H) :
    ∃ W : Nat → Nat → Hp → Prop, (∃ m, W 0 m (upd H1 D (.lst []))) ∧ ∀ i m H, W i m H →
      ((RZ.ItzT K a b).stop i H ∧ Qd H) ∨ ((RZ.ItzT K a b).go i H ∧ ∃ Nx : Hp → Prop, (∀ H', Nx H' → ∃ m', m' < m ∧ W (i + 1) m' H') ∧ ∀ z H', (RZ.ItzT K a b).yld i H z H' → g z (wipe σ vs) H' fun σ2 H2 => wipe σ2 vs = wipe σ vs ∧ tt σ2 H2 fun b H3 =>
        if b = true then te σ2 H3 fun y H4 => ∃ acc, H4 D = some (.lst acc) ∧ acc.length < sizeLine ∧ Nx (upd H4 D (.lst (acc ++ [y]))) else Nx H3) := by
  refine ⟨fun i m H => m = fs.length - i ∧ i ≤ fs.length ∧ LcP K L L0 D S fs H1 i H, ⟨_, rfl, Nat.zero_le _, C.start⟩, ?_⟩
  rintro i m H ⟨rfl, hi, ys, I⟩
  have qx : SqT K H a xs := sqt_up fz_le (sqt_up (I.gw C) hx)
  have qz : SqT K H b zs := sqt_up fz_le (sqt_up (I.gw C) hz)
  by_cases hlt : i < fs.length
  · have h2 : i < xs.length := by omega
    have h3 : i < zs.length := by omega
    refine .inr ⟨⟨xs, zs, _, _, qx, qz, List.getElem?_eq_getElem h2, List.getElem?_eq_getElem h3⟩, LcP K L L0 D S fs H1 (i + 1), fun H' p' => ⟨fs.length - (i + 1), by omega, rfl, hlt, p'⟩, fun v H' y => ?_⟩
    obtain ⟨T, x', z', rfl, hT, rfl, f1, f2⟩ := y
    exact hs i x' z' _ ys H T (f1 xs qx) (f2 zs qz) (List.getElem?_eq_getElem hlt) I hT
  · have e : fs.length = i := by omega
    obtain ⟨h1, h2, h3, h4⟩ := I.list C e
    exact .inl ⟨⟨xs, zs, qx, qz, by omega⟩, hd H h1 h2 (by rw [e]; exact h3) h4⟩
/-- two lists side by side, as far as both go -/
theorem lcZL {b : Addr} {zs : List V} (C : LcC L L0 D S fs H1) (hx : SqL K (Fz L H1) a xs) (hz : SqL K (Fz L H1) b zs) (hl : fs.length = min xs.length zs.length)
    (hs : ∀ i x z o ys H T, xs[i]? = some x → zs[i]? = some z → fs[i]? = some o → LcI K L L0 D S fs H1 i H ys → H T = Option.none → LcTurn K L L0 D S fs H1 g tt te vs σ i (.ref T) (upd H T (.tup [x, z])))
    (hd : ∀ H, Up L0 H1 H → Tr L H → S fs.length H → Dp K (Fz L H) (.ref D) (.list (fs.filterMap id)) → Qd H) :
    ∃ W : Nat → Nat → Hp → Prop, (∃ m, W 0 m (upd H1 D (.lst []))) ∧ ∀ i m H, W i m H →
      ((Itz K a b).stop i H ∧ Qd H) ∨ ((Itz K a b).go i H ∧ ∃ Nx : Hp → Prop, (∀ H', Nx H' → ∃ m', m' < m ∧ W (i + 1) m' H') ∧ ∀ z H', (Itz K a b).yld i H z H' → g z (wipe σ vs) H' fun σ2 H2 => wipe σ2 vs = wipe σ vs ∧ tt σ2 H2 fun b H3 =>
        if b = true then te σ2 H3 fun y H4 => ∃ acc, H4 D = some (.lst acc) ∧ acc.length < sizeLine ∧ Nx (upd H4 D (.lst (acc ++ [y]))) else Nx H3) := by
  refine ⟨fun i m H => m = fs.length - i ∧ i ≤ fs.length ∧ LcP K L L0 D S fs H1 i H, ⟨_, rfl, Nat.zero_le _, C.start⟩, ?_⟩
  rintro i m H ⟨rfl, hi, ys, I⟩
  have qx : SqL K H a xs := sql_up fz_le (sql_up (I.gw C) hx)
  have qz : SqL K H b zs := sql_up fz_le (sql_up (I.gw C) hz)
  by_cases hlt : i < fs.length
  · have h2 : i < xs.length := by omega
    have h3 : i < zs.length := by omega
    refine .inr ⟨⟨xs, zs, _, _, qx, qz, List.getElem?_eq_getElem h2, List.getElem?_eq_getElem h3⟩, LcP K L L0 D S fs H1 (i + 1), fun H' p' => ⟨fs.length - (i + 1), by omega, rfl, hlt, p'⟩, fun v H' y => ?_⟩
    obtain ⟨T, x', z', rfl, hT, rfl, f1, f2⟩ := y
    exact hs i x' z' _ ys H T (f1 xs qx) (f2 zs qz) (List.getElem?_eq_getElem hlt) I hT
  · have e : fs.length = i := by omega
    obtain ⟨h1, h2, h3, h4⟩ := I.list C e
    exact .inl ⟨⟨xs, zs, qx, qz, by omega⟩, hd H h1 h2 (by rw [e]; exact h3) h4⟩
end
end Kf
end

section
set_option Elab.async false
set_option linter.all false
set_option maxRecDepth 100000
set_option maxHeartbeats 4000000
/-! gears as data, the promises -/
namespace Kf
open PySem L2

instance ordDatum : PySem.W.Datum (List Nat) where
  toD := dO
  plain o := by
    unfold dO
    simp only [PyData.plain]
    induction o with
    | nil => simp only [List.map_nil, PyData.plainAll]
    | cons k o ih => simp only [List.map_cons, PyData.plainAll, PyData.plain, ih, Bool.and_self]
  eqv := eqv_O
  depth := 1
  depth_le o := by
    unfold dO
    simp only [PyData.depth]
    have h : PyData.depthAll (o.map fun k : Nat => PyData.int (k : Int)) = 0 := by
      induction o with
      | nil => simp only [List.map_nil, PyData.depthAll]
      | cons k o ih => simp only [List.map_cons, PyData.depthAll, PyData.depth, ih, Nat.max_self]
    rw [h]
    exact Nat.le_refl _
theorem toD_M (m : Mv) : (PySem.W.Datum.toD m : PyData) = dM m := rfl

abbrev Slt := Str × Str
structure Bx where
  name : Str
  held : List Slt
  moves : List Mv
structure Gr where
  spaces : List Str
  boxes : List Bx
def dS (s : Slt) : PyData := .tuple [.str s.1, .str s.2]
def dH (h : List Slt) : PyData := .tuple (h.map dS)
def dMs (ms : List Mv) : PyData := .tuple (ms.map dM)
def dB (b : Bx) : PyData := .tuple [.str b.name, dH b.held, dMs b.moves]
def dG (g : Gr) : PyData := .tuple [.tuple (g.spaces.map .str), .tuple (g.boxes.map dB)]
theorem toD_S (s : Slt) : (PySem.W.Datum.toD s : PyData) = dS s := rfl
theorem toD_H (h : List Slt) : (PySem.W.Datum.toD (⟨h⟩ : PySem.W.Tup Slt) : PyData) = dH h := rfl

def letters : Str := "abcdefghijklmnopqrstuvwxyz"
structure OkName (s : Str) : Prop where
  lo : 1 ≤ s.cps.size
  hi : s.cps.size ≤ 8
  let_ : ∀ c, c ∈ s.cps.toList → c ∈ letters.cps.toList
def Rising (L : List Str) : Prop := L.Pairwise fun a b => a.cps.toList < b.cps.toList
def OkSlot (sp : List Str) (s : Slt) : Prop := s.1 ∈ sp ∧ (s.2 = "down" ∨ s.2 = "up")
structure OkBox (sp : List Str) (b : Bx) : Prop where
  name : OkName b.name
  few : b.held.length ≤ 4
  slots : ∀ s, s ∈ b.held → OkSlot sp s
  fewM : b.moves.length ≤ 3
  moves : ∀ m, m ∈ b.moves → Gd b.held m
structure OkGear (g : Gr) : Prop where
  lo : 1 ≤ g.spaces.length
  hi : g.spaces.length ≤ 3
  names : ∀ s, s ∈ g.spaces → OkName s
  rise : Rising g.spaces
  few : g.boxes.length ≤ 8
  boxes : ∀ b, b ∈ g.boxes → OkBox g.spaces b
  riseB : Rising (g.boxes.map Bx.name)
/-- the group, rising -/
structure IsG (held : List Slt) (ms G : List Mv) : Prop where
  grp : Grp held ms G
  srt : rise G = G
theorem IsG.eq {held : List Slt} {ms ns G J : List Mv} (A : IsG held ms G) (B : IsG held ns J) (h : ∀ m, m ∈ J ↔ m ∈ G) : J = G := by
  have p : J.Perm G := (List.perm_ext_iff_of_nodup B.grp.nd A.grp.nd).mpr h
  rw [← A.srt, ← B.srt]
  exact rise_same p

/-! ### what the top gives -/
structure Txt (K : PySem.W.Frag) (mg : Str → Option Value) : Prop where
  isi : mg "isinstance" = none
  int : mg "int" = none
  bool : mg "bool" = none
  str : mg "str" = none
  len : mg "len" = none
  all : mg "all" = none
  tuple : mg "tuple" = none
  zip : mg "zip" = none
  range : mg "range" = none
  sorted : mg "sorted" = none
  enum : mg "enumerate" = none
  set : mg "set" = none
  repr : mg "repr" = none
  list : mg "list" = none
  min : mg "min" = none
  lettersG : ∃ t, mg "LETTERS" = some (.str letters t)
  mostL : ∃ t, mg "MOST_LETTERS" = some (.int 8 t)
  mostSp : ∃ t, mg "MOST_SPACES" = some (.int 3 t)
  mostB : ∃ t, mg "MOST_BOXES" = some (.int 8 t)
  mostSl : ∃ t, mg "MOST_SLOTS" = some (.int 4 t)
  mostM : ∃ t, mg "MOST_MOVES" = some (.int 3 t)
  sides : ∃ a, mg "SIDES" = some (.ref a) ∧ ∀ H, SqT K H a [.str "down", .str "up"]

/-! ### promises -/
def spWhole : Sp := fun vs H Q _ => ∃ n lo hi : Int, vs = [.int n, .int lo, .int hi] ∧ lo ≤ n ∧ n ≤ hi ∧ Q (.bl true) H
def spName : Sp := fun vs H Q _ => ∃ s : Str, vs = [.str s] ∧ OkName s ∧ ∀ H', Up [] H H' → Q (.bl true) H'
def spTup (K : PySem.W.Frag) : Sp := fun vs H Q _ => ∃ (a : Addr) (xs : List V) (lo hi : Int), vs = [.ref a, .int lo, .int hi] ∧ SqT K H a xs ∧ lo ≤ xs.length ∧ (xs.length : Int) ≤ hi ∧ Q (.bl true) H
def spRise (K : PySem.W.Frag) : Sp := fun vs H Q _ => ∃ (a : Addr) (L : List Str), vs = [.ref a] ∧ (SqT K H a (L.map .str) ∨ SqL K H a (L.map .str)) ∧ Rising L ∧ L.length ≤ 100 ∧ ∀ H', Up [] H H' → Q (.bl true) H'
def spSlot (K : PySem.W.Frag) : Sp := fun vs H Q _ => ∃ (p : Addr) (sp : List Str) (v : V) (s : Slt), vs = [.ref p, v] ∧ SqT K H p (sp.map .str) ∧ Dp K H v (dS s) ∧ OkSlot sp s ∧ ∀ H', Up [] H H' → Q (.bl true) H'
def spOrdr (K : PySem.W.Frag) : Sp := fun vs H Q _ => ∃ (v u : V) (held : List Slt) (o : List Nat), vs = [v, u] ∧ Dp K H v (dH held) ∧ Dp K H u (dO o) ∧ held.length ≤ 4 ∧ Ord held o ∧ ∀ H', Up [] H H' → Q (.bl true) H'
def spMove (K : PySem.W.Frag) : Sp := fun vs H Q _ => ∃ (v u : V) (held : List Slt) (m : Mv), vs = [v, u] ∧ Dp K H v (dH held) ∧ Dp K H u (dM m) ∧ held.length ≤ 4 ∧ Gd held m ∧ ∀ H', Up [] H H' → Q (.bl true) H'
def spBox (K : PySem.W.Frag) : Sp := fun vs H Q _ => ∃ (p : Addr) (sp : List Str) (v : V) (b : Bx), vs = [.ref p, v] ∧ SqT K H p (sp.map .str) ∧ Dp K H v (dB b) ∧ OkBox sp b ∧ ∀ H', Up [] H H' → Q (.bl true) H'
def spGear (K : PySem.W.Frag) : Sp := fun vs H Q _ => ∃ (v : V) (g : Gr), vs = [v] ∧ Dp K H v (dG g) ∧ OkGear g ∧ ∀ H', Up [] H H' → Q (.bl true) H'
def spNeed (K : PySem.W.Frag) : Sp := fun vs H Q _ => ∃ (v : V) (g : Gr), vs = [v] ∧ Dp K H v (dG g) ∧ OkGear g ∧ ∀ H', Up [] H H' → Q .non H'
def spBoxOf (K : PySem.W.Frag) : Sp := fun vs H Q _ => ∃ (L : List Addr) (v : V) (g : Gr) (b : Bx), vs = [v, .str b.name] ∧ Tr L H ∧ Dp K (Fz L H) v (dG g) ∧ OkGear g ∧ b ∈ g.boxes ∧ ∀ u, Dp K (Fz L H) u (dB b) → Q u H
def spSlots (K : PySem.W.Frag) : Sp := fun vs H Q _ => ∃ (L : List Addr) (v : V) (g : Gr) (b : Bx), vs = [v, .str b.name] ∧ Tr L H ∧ Dp K (Fz L H) v (dG g) ∧ OkGear g ∧ b ∈ g.boxes ∧ ∀ u, Dp K (Fz L H) u (dH b.held) → Q u H
def spSlotsP (K : PySem.W.Frag) : Sp := fun vs H Q _ => ∃ (L : List Addr) (v : V) (g : Gr) (b : Bx), vs = [v, .str b.name] ∧ Tr L H ∧ Dp K (Fz L H) v (dG g) ∧ OkGear g ∧ b ∈ g.boxes ∧ ∀ u H', Up [] H H' → Dp K (Fz L H') u (dH b.held) → Q u H'
/-- a row of things, moved -/
def pick (xs : List V) (o : List Nat) : List V := o.map fun k => xs.getD k .non
def spMoved (K : PySem.W.Frag) : Sp := fun vs H Q _ => ∃ (a : Addr) (xs : List V) (u : V) (o : List Nat), vs = [.ref a, u] ∧ SqT K H a xs ∧ Dp K H u (dO o) ∧ (∀ k, k ∈ o → k < xs.length) ∧ o.length ≤ 100 ∧ ∀ p ob H', Up [] H H' → H p = none → ob.dict = none → H' p = some (.frz ob (.tup (pick xs o))) → Q (.ref p) H'
/-! ### the law's own: what the draws hang on -/
def dk (c : Addr) (spot stock mixed : Int) : List (Key × V) := [(.inr "cells", .ref c), (.inr "spot", .int spot), (.inr "stock", .int stock), (.inr "mixed", .int mixed)]
/-- behind at most m draws -/
def DS (K : PySem.W.Frag) (L : List Addr) (H : Hp) (dd : Addr) (m : Nat) : Prop :=
  dd ∈ L ∧ ∃ (c : Addr) (ns : List Int) (spot stock mixed : Int), H dd = some (.dK (dk c spot stock mixed)) ∧ SqL K (Fz L H) c (ns.map V.int) ∧ ns ≠ [] ∧ ns.length ≤ 1000 ∧ 0 ≤ spot ∧ spot ≤ m ∧ 0 ≤ stock ∧ 0 ≤ mixed ∧ mixed ≤ m
def most : Nat := 1000000
def spDraw (K : PySem.W.Frag) : Sp := fun vs H Q _ => ∃ (L : List Addr) (dd : Addr) (m n : Nat), vs = [.ref dd, .int (n : Nat)] ∧ 0 < n ∧ n ≤ 1000 ∧ Tr L H ∧ DS K L H dd m ∧ m < most ∧ ∀ (k : Nat) H', k < n → Up [dd] H H' → DS K L H' dd (m + 1) → Q (.int (k : Nat)) H'
end Kf
end

section
set_option Elab.async false
set_option linter.all false
set_option maxRecDepth 100000
set_option maxHeartbeats 4000000
/-! walks: the small defs -/
namespace Kf
open PySem L2 PyProof.Rows
theorem tyx_sqt {K : PySem.W.Frag} {H : Hp} {a : Addr} {xs : List V} (h : SqT K H a xs) : TyX K H (.ref a) (.type "tuple") := by
  rcases h with (h | ⟨o, h⟩) | ⟨o, its, n, h, c, _⟩
  · exact .base (.tup h)
  · exact .fTuple h
  · exact .kTuple h c
theorem pe_cls {X : Cx} {x : Str} {T : String} {pos : Pos} (hg : Gl X x) (hm : X.mg x = none) (hv : bootBuiltins x = some (.type T)) (hn : x ≠ "__name__" := by decide) (hd : (x == ("__debug__" : Str)) = false := by decide) : PE X (.Name x pos) (tC (.ty T)) := pe_bltn hg hm hv rfl hn hd
theorem bt_int : bootBuiltins "int" = some (.type "int") := by decide +kernel
theorem bt_bool : bootBuiltins "bool" = some (.type "bool") := by decide +kernel
theorem bt_str : bootBuiltins "str" = some (.type "str") := by decide +kernel
theorem bt_tuple : bootBuiltins "tuple" = some (.type "tuple") := by decide +kernel
theorem bt_list : bootBuiltins "list" = some (.type "list") := by decide +kernel
theorem bt_set : bootBuiltins "set" = some (.type "set") := by decide +kernel
theorem bt_isi : bootBuiltins "isinstance" = some (.builtin "isinstance") := by decide +kernel
theorem bt_len : bootBuiltins "len" = some (.builtin "len") := by decide +kernel
theorem bt_all : bootBuiltins "all" = some (.builtin "all") := by decide +kernel
theorem bt_sorted : bootBuiltins "sorted" = some (.builtin "sorted") := by decide +kernel
theorem bt_repr : bootBuiltins "repr" = some (.builtin "repr") := by decide +kernel
theorem bt_min : bootBuiltins "min" = some (.builtin "min") := by decide +kernel
/-- isinstance, one class, of a value of the type Ty or a tuple -/
def rIs (K : PySem.W.Frag) : List V → Hp → VK → Prop := fun xs H Q => ∃ (x : V) (t : Value) (S : String) (b : Bool), xs = [x, .ty S] ∧ TyX K H x t ∧ PySem.W.kitOne K t (.type S) = some b ∧ Q (.bl b) H
theorem cr_is {X : Cx} : CallR X (.builtin "isinstance") (rIs X.K) := by
  intro pins s σ H xs us Q I r h
  obtain ⟨x, t, S, b, rfl, ty, e, q⟩ := h
  exact call_isi pins s σ H _ us Q I r ⟨x, .ty S, t, .type S, b, rfl, .ty S, ty, e, q⟩
section
variable {P : Program} {w : World} {K : PySem.W.Frag} {mg : Str → Option Value} {base : Heap}
theorem qT {Q : VK} {H : Hp} {p : Prop} [Decidable p] (h : p) (k : Q (.bl true) H) : Q (.bl (decide p)) H := by
  rw [decide_eq_true h]
  exact k
theorem iteD {p A B : Prop} [Decidable p] (h : p) (a : A) : if decide p = true then A else B := by
  rw [decide_eq_true h]
  exact iteT a
/-- a, b = a pair -/
def gPair (K : PySem.W.Frag) (i j : Nat) : TG := fun v σ H Q => ∃ a u w, v = .ref a ∧ SqT K H a [u, w] ∧ Q ((σ.set i (some u)).set j (some w)) H
theorem pg_pair {X : Cx} {i j kk : Nat} {x y : Str} {px py pos : Pos} (hc : X.calm = true) (hN : X.N.Nodup) (hi : X.N[i]? = some x) (hj : X.N[j]? = some y) (hx : Loc X.env.scope x) (hy : Loc X.env.scope y)
    (hf : X.fn x = true ∨ X.env.scope.names.lookup x = some .local) (hg : X.fn y = true ∨ X.env.scope.names.lookup y = some .local) : PG X (.Tuple [.Name x px, .Name y py] kk pos) (gPair X.K i j) := by
  have h := pg_tup (X := X) (k := kk) (pos := pos) (es := [.Name x px, .Name y py]) hc (pgs_cons (pg_name (i := i) hN hi hx hf) (pgs_cons (pg_name (i := j) hN hj hy hg) pgs_nil))
  refine ⟨fun pins s σ H v u Q I r hw => h.run pins s σ H v u Q I r ?_⟩
  obtain ⟨a, z, t, e, hq, q⟩ := hw
  exact ⟨a, _, e, hq, rfl, z, _, rfl, t, _, rfl, rfl, q⟩
/-- a, b, c = a triple -/
def gTri (K : PySem.W.Frag) (i j l : Nat) : TG := fun v σ H Q => ∃ a u w z, v = .ref a ∧ SqT K H a [u, w, z] ∧ Q (((σ.set i (some u)).set j (some w)).set l (some z)) H
theorem pg_tri {X : Cx} {i j l kk : Nat} {x y z : Str} {px py pz pos : Pos} (hc : X.calm = true) (hN : X.N.Nodup) (hi : X.N[i]? = some x) (hj : X.N[j]? = some y) (hl : X.N[l]? = some z) (hx : Loc X.env.scope x) (hy : Loc X.env.scope y) (hz : Loc X.env.scope z)
    (hf : X.fn x = true ∨ X.env.scope.names.lookup x = some .local) (hg : X.fn y = true ∨ X.env.scope.names.lookup y = some .local) (hh : X.fn z = true ∨ X.env.scope.names.lookup z = some .local) : PG X (.Tuple [.Name x px, .Name y py, .Name z pz] kk pos) (gTri X.K i j l) := by
  have h := pg_tup (X := X) (k := kk) (pos := pos) (es := [.Name x px, .Name y py, .Name z pz]) hc (pgs_cons (pg_name (i := i) hN hi hx hf) (pgs_cons (pg_name (i := j) hN hj hy hg) (pgs_cons (pg_name (i := l) hN hl hz hh) pgs_nil)))
  refine ⟨fun pins s σ H v u Q I r hw => h.run pins s σ H v u Q I r ?_⟩
  obtain ⟨a, z, t, y, e, hq, q⟩ := hw
  exact ⟨a, _, e, hq, rfl, z, _, rfl, t, _, rfl, y, _, rfl, rfl, q⟩
theorem yesT {σ : L2.St} {H : Hp} {A B : Hp → Prop} (a : A H) : tYes σ H fun b H3 => if b = true then A H3 else B H3 := by
  show (if true = true then A H else B H)
  rw [if_pos rfl]
  exact a
theorem kit_same {T : String} : PySem.W.kitOne K (.type T) (.type T) = some true := if_pos (beq_self_eq_true _)
theorem kit_int_bool : PySem.W.kitOne K (.type "int") (.type "bool") = some false := by
  exact kit_ty (by decide +kernel)
theorem ok_whole {f : Addr} {fd : FuncData} (F : Fun K "is_whole" "is_whole" sWhole f fd) (T : Txt K mg) : FnOk P w K mg base CX0 1 f fd ["thing", "least", "most"] spWhole := by
  refine F.ok scWhole (fun vs H Q E h => ?_) (fun cdv A outer s H vs Q E hr h => ?_)
  · obtain ⟨n, lo, hi, rfl, _⟩ := h
    rfl
  · obtain ⟨n, lo, hi, rfl, h1, h2, k⟩ := h
    refine ⟨_, pss_one (ps_ret (pe_and (pe_callB cr_is (by rfl) T.isi bt_isi (pa_cons (pv 0) (pa_cons (pe_cls (by rfl) T.int bt_int) pa_nil)))
      (pe_and (pe_not (pe_callB cr_is (by rfl) T.isi bt_isi (pa_cons (pv 0) (pa_cons (pe_cls (by rfl) T.bool bt_bool) pa_nil))))
        (pe_one (pe_chain op_le op_le (pv 1) (pv 0) (pv 2)))))), ?_⟩
    refine ⟨_, rfl, _, _, _, true, rfl, .base (.int n), kit_same, true, rfl, ?_⟩
    refine iteT ⟨_, rfl, _, _, _, false, rfl, .base (.int n), kit_int_bool, false, rfl, true, rfl, iteT ?_⟩
    refine ⟨_, rfl, _, rfl, _, _, rfl, rfl, _, rfl, ?_⟩
    exact iteD h1 ⟨_, rfl, _, _, rfl, rfl, qT h2 k⟩
theorem ok_tup {f : Addr} {fd : FuncData} (F : Fun K "own_tuple" "own_tuple" sTup f fd) (T : Txt K mg) : FnOk P w K mg base CX0 1 f fd ["thing", "least", "most"] (spTup K) := by
  refine F.ok scTup (fun vs H Q E h => ?_) (fun cdv A outer s H vs Q E hr h => ?_)
  · obtain ⟨a, xs, lo, hi, rfl, _⟩ := h
    rfl
  · obtain ⟨a, xs, lo, hi, rfl, hx, h1, h2, k⟩ := h
    refine ⟨_, pss_one (ps_ret (pe_and (pe_callB cr_is (by rfl) T.isi bt_isi (pa_cons (pv 0) (pa_cons (pe_cls (by rfl) T.tuple bt_tuple) pa_nil)))
      (pe_one (pe_chain op_le op_le (pv 1) (pe_callB call_len_seq (by rfl) T.len bt_len (pa_cons (pv 0) pa_nil)) (pv 2))))), ?_⟩
    refine ⟨_, rfl, _, _, _, true, rfl, tyx_sqt hx, kit_same, true, rfl, iteT ?_⟩
    exact ⟨_, rfl, _, rfl, a, xs, rfl, .inr hx, _, _, rfl, rfl, _, rfl, iteD h1 ⟨_, rfl, _, _, rfl, rfl, qT h2 k⟩⟩
theorem iteND {p A B : Prop} [Decidable p] (h : p) (b : B) : if (!decide p) = true then A else B := by
  rw [decide_eq_true h]
  exact iteF b
theorem qB {Q : VK} {H : Hp} {b : Bool} (h : b = true) (k : Q (.bl true) H) : Q (.bl b) H := by
  rw [h]
  exact k
theorem map_at {α β : Type} {l : List α} {f : α → β} {i : Nat} {x : α} (h : l[i]? = some x) : (l.map f)[i]? = some (f x) := by
  rw [List.getElem?_map, h]
  rfl
theorem fm_all {α β : Type} {f : α → β} : ∀ (l : List α), (l.map fun x => some (f x)).filterMap id = l.map f
  | [] => rfl
  | x :: l => by
    rw [List.map_cons, List.map_cons, List.filterMap_cons]
    show f x :: _ = _
    rw [fm_all l]
theorem fm_if {α β : Type} {f : α → β} {p : α → Bool} : ∀ (l : List α), (l.map fun x => if p x = true then some (f x) else Option.none).filterMap id = (l.filter p).map f
  | [] => rfl
  | x :: l => by
    rw [List.map_cons, List.filterMap_cons, List.filter_cons]
    by_cases h : p x = true
    · rw [if_pos h, if_pos h, List.map_cons, ← fm_if l]
      rfl
    · rw [if_neg h, if_neg h, ← fm_if l]
      rfl
theorem dpa_trues {α : Type} {H : Hp} : ∀ {vs : List V} {l : List α}, DpAll K H vs (l.map fun _ => .bool true) → ∃ bs : List Bool, vs = bs.map V.bl ∧ bs.all id = true
  | vs, [], h => by
    have h' : DpAll K H vs [] := h
    cases h'
    exact ⟨[], rfl, rfl⟩
  | vs, k :: l, h => by
    have h' : DpAll K H vs (.bool true :: l.map fun _ => .bool true) := h
    cases h' with
    | cons h1 h2 =>
      cases h1
      obtain ⟨bs, e, ha⟩ := dpa_trues h2
      exact ⟨true :: bs, by rw [e]; rfl, by rw [List.all_cons, ha]; rfl⟩
theorem dp_list {H : Hp} {a : Addr} {ds : List PyData} (h : Dp K H (.ref a) (.list ds)) : ∃ xs, SqL K H a xs ∧ DpAll K H xs ds := by
  cases h with
  | lst h t => exact ⟨_, h, t⟩
theorem dp_tup {H : Hp} {a : Addr} {ds : List PyData} (h : Dp K H (.ref a) (.tuple ds)) : ∃ xs, SqT K H a xs ∧ DpAll K H xs ds := by
  cases h with
  | tup h t => exact ⟨_, h, t⟩
theorem all_true {α : Type} {l : List α} {L : List Addr} {H : Hp} {D : Addr} (h : Dp K (Fz L H) (.ref D) (.list ((l.map fun _ => some (PyData.bool true)).filterMap id))) : ∃ bs : List Bool, SqL K H D (bs.map V.bl) ∧ bs.all id = true := by
  rw [fm_all] at h
  obtain ⟨xs, h1, h2⟩ := dp_list h
  obtain ⟨bs, rfl, ha⟩ := dpa_trues h2
  exact ⟨bs, sql_up fz_le h1, ha⟩
theorem letter_in : ∀ c, c ∈ letters.cps.toList → (!(Builtin.Str.occurrences letters ⟨#[c]⟩ 0 letters.length 1).isEmpty) = true := by decide +kernel
theorem ok_name {f : Addr} {fd : FuncData} (F : Fun K "is_name" "is_name" sName f fd) (T : Txt K mg) : FnOk P w K mg base CX0 1 f fd ["thing"] spName := by
  refine F.ok scName (fun vs H Q E h => ?_) (fun cdv A outer s H vs Q E hr h => ?_)
  · obtain ⟨z, rfl, _⟩ := h
    rfl
  · obtain ⟨z, rfl, ok, k⟩ := h
    obtain ⟨tl, hL⟩ := T.lettersG
    obtain ⟨tm, hM⟩ := T.mostL
    have hz : z.length ≤ sizeLine := Nat.le_trans ok.hi (by decide)
    refine ⟨_, pss_cons (ps_if (pw_or (pt_not (pt_val (pe_callB cr_is (by rfl) T.isi bt_isi (pa_cons (pv 0) (pa_cons (pe_cls (by rfl) T.str bt_str) pa_nil)))))
        (pw_or1 (pt_not (pt_chain op_le op_le pe_int (pe_callB call_len_str (by rfl) T.len bt_len (pa_cons (pv 0) pa_nil)) (pe_glob (v := .int 8) (by rfl) hM ⟨_, rfl⟩))))).pt pss_never pss_nil)
      (pss_one (ps_ret (pe_callB (cr_all rfl) (by rfl) T.all bt_all (pa_cons (pe_lc (own := [("sign", 1)]) (g := gName 1) (tt := tYes) rfl scName.nd (pi_str (pv 0)) (blkOk_by (N := nName) (sc := defScope sName) (by decide +kernel)) (fun _ _ _ _ _ => pg_name (i := 1) scName.nd rfl (Or.inl rfl)) (fun _ _ _ _ _ => pts_nil)
        (fun _ _ _ _ _ => pe_cmpR op_in_str (pv 1) (pe_glob (v := .str letters) (by rfl) hL ⟨_, rfl⟩) rfl)) pa_nil)))), ?_⟩
    refine ⟨_, rfl, _, _, _, true, rfl, .base (.str z), kit_same, true, rfl, iteF ?_⟩
    have s1 : (1 : Int) ≤ (z.length : Nat) := by have := ok.lo; show (1 : Int) ≤ (z.cps.size : Nat); omega
    have s2 : ((z.length : Nat) : Int) ≤ 8 := by have := ok.hi; show ((z.cps.size : Nat) : Int) ≤ 8; omega
    refine ⟨_, rfl, z, rfl, hz, _, _, rfl, rfl, _, rfl, iteD s1 ⟨_, _, rfl, rfl, _, rfl, iteND s2 ?_⟩⟩
    refine ⟨_, rfl, z, rfl, fun D hD => ?_⟩
    refine lcS (x := z) (K := K) (L := []) (L0 := []) (S := fun _ _ => True) (fs := z.cps.toList.map fun _ => some (PyData.bool true)) (.pure hD .nil (by rw [List.length_map]; exact Nat.le_trans ok.hi (by decide))) (by simp) (fun i c o ys H' hc ho I => ?_) fun H' up _ _ hdp => ?_
    · have hm : c ∈ z.cps.toList := by
        rw [Array.mem_toList_iff]
        exact Array.mem_of_getElem? hc
      refine ⟨rfl, yesT ⟨_, rfl, _, _, rfl, rfl, ?_⟩⟩
      refine I.add (.pure hD .nil (by rw [List.length_map]; exact Nat.le_trans ok.hi (by decide))) .refl trivial (map_at (by rw [Array.getElem?_toList]; exact hc)) ?_
      rw [letter_in c (ok.let_ c hm)]
      exact .bl true
    · obtain ⟨bs, hb, ha⟩ := all_true hdp
      exact ⟨D, bs, rfl, hb, qB ha (k _ up)⟩
theorem cut1 (xs : List V) (h : xs ≠ []) : cutV xs (some 1) none = xs.drop 1 := by
  unfold cutV
  have hl : 1 ≤ xs.length := by
    cases xs with
    | nil => exact absurd rfl h
    | cons x l => simp
  have e : HT.sIx xs.length 0 (some (1 : Int)) = 1 := (HT.sIx_nat xs.length 0 1).trans (by omega)
  rw [e, HT.sIx_none]
  exact List.take_of_length_le (by rw [List.length_drop]; omega)
theorem rising_at {L : List Str} (h : Rising L) {i : Nat} {a b : Str} (ha : L[i]? = some a) (hb : (L.drop 1)[i]? = some b) : a.cps.toList < b.cps.toList := by
  rw [List.getElem?_drop] at hb
  obtain ⟨h1, e1⟩ := List.getElem?_eq_some_iff.mp ha
  obtain ⟨h2, e2⟩ := List.getElem?_eq_some_iff.mp hb
  have := (List.pairwise_iff_getElem.mp h) i (1 + i) h1 h2 (by omega)
  rw [e1, e2] at this
  exact this
theorem ok_rise {f : Addr} {fd : FuncData} (F : Fun K "own_rising" "own_rising" sRise f fd) (T : Txt K mg) : FnOk P w K mg base CX0 1 f fd ["names"] (spRise K) := by
  refine F.ok scRise (fun vs H Q E h => ?_) (fun cdv A outer s H vs Q E hr h => ?_)
  · obtain ⟨a, L, rfl, _⟩ := h
    rfl
  · obtain ⟨a, L, rfl, hx, hR, hf, k⟩ := h
    refine ⟨_, pss_one (ps_ret (pe_callB (cr_all rfl) (by rfl) T.all bt_all (pa_cons (pe_lc (own := [("one", 1), ("other", 2)]) (g := gPair K 1 2) (tt := tYes) rfl scRise.nd
      (RZ.pi_zipA (by rfl) T.zip (pa_cons (pv 0) (pa_cons (pe_slice (SlR.or sl_tupA sl_list) (pv 0) (po_some pe_int) po_none) pa_nil))) (blkOk_by (N := nRise) (sc := defScope sRise) (by decide +kernel))
      (fun _ _ _ _ _ => pg_pair (i := 1) (j := 2) rfl scRise.nd rfl rfl (Or.inl rfl) (Or.inl rfl) (Or.inr rfl) (Or.inr rfl)) (fun _ _ _ _ _ => pts_nil)
      (fun _ _ _ _ _ => pe_cmpR op_lt_str (pv 1) (pv 2) (nomark _))) pa_nil))), ?_⟩
    have few : (L.drop 1).length ≤ 1000 := by rw [List.length_drop]; omega
    have fewM : (((L.drop 1).map fun _ => some (PyData.bool true)) : List (Option PyData)).length ≤ 1000 := by rw [List.length_map]; exact few
    have eL : (L.map V.str).drop 1 = (L.drop 1).map V.str := (List.map_drop).symm
    -- what a turn and the end are, whatever is walked
    have turn : ∀ (H1 : Hp) (D : Addr) (hD : H1 D = none) (σ : L2.St) (i : Nat) (x z : V) (ys : List V) (H' : Hp) (T' : Addr), (L.map V.str)[i]? = some x → ((L.drop 1).map V.str)[i]? = some z → LcI K [] [] D (fun _ _ => True) ((L.drop 1).map fun _ => some (PyData.bool true)) H1 i H' ys → H' T' = none → σ.length = 3 →
        LcTurn K [] [] D (fun _ _ => True) ((L.drop 1).map fun _ => some (PyData.bool true)) H1 (gPair K 1 2) tYes (tOp (fun x y H Q => ∃ i j, x = .str i ∧ y = .str j ∧ Q (.bl (decide (i.cps.toList < j.cps.toList))) H) (tVar 1) (tVar 2)) [1, 2] σ i (.ref T') (upd H' T' (.tup [x, z])) := by
      intro H1 D hD σ i x z ys H' T' hx hz I hT hσ
      rw [List.getElem?_map] at hx hz
      cases e1 : L[i]? with
      | none => rw [e1] at hx; cases hx
      | some p =>
        cases e2 : (L.drop 1)[i]? with
        | none => rw [e2] at hz; cases hz
        | some q =>
          rw [e1] at hx
          rw [e2] at hz
          cases hx
          cases hz
          obtain ⟨v0, v1, v2, rfl⟩ : ∃ a b c, σ = [a, b, c] := match σ, hσ with | [a, b, c], _ => ⟨a, b, c, rfl⟩
          refine ⟨T', _, _, rfl, sqt_of upd_same, rfl, yesT ⟨_, rfl, _, rfl, p, q, rfl, rfl, ?_⟩⟩
          refine I.add (.pure hD .nil fewM) (Up.new hT) trivial (map_at e2) ?_
          rw [decide_eq_true (rising_at hR e1 e2)]
          exact .bl true
    have last : ∀ (D : Addr) (H' : Hp), Up [] H H' → Dp K (Fz [] H') (.ref D) (.list (((L.drop 1).map fun _ => some (PyData.bool true)).filterMap id)) → ∃ (a : Addr) (bs : List Bool), [V.ref D] = [V.ref a] ∧ SqL K H' a (bs.map V.bl) ∧ Q (.bl (bs.all id)) H' := by
      intro D H' up hdp
      obtain ⟨bs, hb, ha⟩ := all_true hdp
      exact ⟨D, bs, rfl, hb, qB ha (k _ up)⟩
    rcases hx with hx | hx
    · refine ⟨_, rfl, _, rfl, _, rfl, .inl ⟨a, _, rfl, hx, fun hw => ?_, fun hw p hp => ?_⟩⟩
      · have e : L = [] := by
          have h1 : HT.sIx (L.map V.str).length 0 (some (1 : Int)) = 0 := hw.1
          rw [show HT.sIx (L.map V.str).length 0 (some (1 : Int)) = _ from HT.sIx_nat _ 0 1, List.length_map] at h1
          exact List.eq_nil_of_length_eq_zero (by omega)
        subst e
        refine ⟨a, a, [], [], rfl, .inr ⟨hx, hx, fun D hD => ?_⟩⟩
        refine lcZT (K := K) (L := []) (L0 := []) (S := fun _ _ => True) (fs := []) (xs := []) (zs := []) (.pure hD .nil (Nat.zero_le _)) (by rw [fz_nil]; exact hx) (by rw [fz_nil]; exact hx) rfl (fun i x z o ys H' T' hx => by simp at hx) fun H' up _ _ hdp => last D H' up hdp
      · have ne : L.map V.str ≠ [] := by
          intro e
          refine hw ⟨?_, ?_⟩
          · rw [e]
            rfl
          · rw [e]
            rfl
        have hx2 : SqT K (upd H p (.tup (cutV (L.map V.str) (some 1) none))) a (L.map V.str) := sqt_up (Up.new hp) hx
        refine ⟨a, p, _, _, rfl, .inr ⟨hx2, sqt_of upd_same, fun D hD => ?_⟩⟩
        refine lcZT (K := K) (L := []) (L0 := []) (S := fun _ _ => True) (fs := (L.drop 1).map fun _ => some (PyData.bool true)) (xs := L.map V.str) (zs := (L.drop 1).map V.str) (.pure hD .nil fewM) (by rw [fz_nil]; exact hx2) (by rw [fz_nil, ← eL, ← cut1 _ ne]; exact sqt_of upd_same) (by simp)
          (fun i x z o ys H' T' hx hz _ I hT => turn _ D hD _ i x z ys H' T' hx hz I hT rfl) fun H' up _ _ hdp => last D H' ((Up.new hp).trans up) hdp
    · refine ⟨_, rfl, _, rfl, _, rfl, .inr ⟨a, _, rfl, hx, fun p hp => ?_⟩⟩
      have hx2 : SqL K (upd H p (.lst (cutV (L.map V.str) (some 1) none))) a (L.map V.str) := sql_up (Up.new hp) hx
      refine ⟨a, p, _, _, rfl, .inl ⟨hx2, sql_of upd_same, fun D hD => ?_⟩⟩
      have e3 : cutV (L.map V.str) (some 1) none = (L.drop 1).map V.str := by
        by_cases ne : L.map V.str = []
        · have e : L = [] := by simpa using ne
          subst e
          rfl
        · rw [cut1 _ ne, eL]
      refine lcZL (K := K) (L := []) (L0 := []) (S := fun _ _ => True) (fs := (L.drop 1).map fun _ => some (PyData.bool true)) (xs := L.map V.str) (zs := (L.drop 1).map V.str) (.pure hD .nil fewM) (by rw [fz_nil]; exact hx2) (by rw [fz_nil, ← e3]; exact sql_of upd_same) (by simp)
          (fun i x z o ys H' T' hx hz _ I hT => turn _ D hD _ i x z ys H' T' hx hz I hT rfl) fun H' up _ _ hdp => last D H' ((Up.new hp).trans up) hdp
end
end Kf
end

section
set_option Elab.async false
set_option linter.all false
set_option maxRecDepth 100000
set_option maxHeartbeats 4000000
/-! walks: what a gear is -/
namespace Kf
open PySem L2 PyProof.Rows
/-- a def of the text, where it stands, how it binds -/
structure Df (K : PySem.W.Frag) (mg : Str → Option Value) (x : Str) (st : Stmt) (ps : List Str) (f : Addr) (fd : FuncData) : Prop where
  F : Fun K x x st f fd
  m : mg x = some (.ref f)
  b : Binds K fd ps []
theorem pe_cd {X : Cx} {x : Str} {st : Stmt} {ps : List Str} {f : Addr} {fd : FuncData} {k : Nat} {sp : Sp} {p pos : Pos} {e : Expr} {es : List Expr} {t : TA} (D : Df X.K X.mg x st ps f fd) (G : FnOk X.prog X.w X.K X.mg X.base CX0 k f fd ps sp) (hr : Room k X.A) (hg : Gl X x)
    (ha : PA X (e :: es) t) (hdb : (x == ("__debug__" : Str)) = false := by decide) (he : starEach (e :: es) X.env = (false, eval e X.env) :: starEach es X.env := by rfl) (hpl : (backTo pos (starEach es X.env)).any (·.1) = false := by rfl) :
    PE X (.Call (.Name x p) (e :: es) [] pos) (tCall sp [] E0 t) := pe_call G hr hg D.m D.F.kp D.b .nil pass0 ha hdb he hpl
def rLn (K : PySem.W.Frag) : List V → Hp → VK → Prop := fun xs H Q => ∃ p ys, xs = [.ref p] ∧ (SqL K H p ys ∨ SqT K H p ys) ∧ Q (.int (ys.length : Nat)) H
theorem cr_len {X : Cx} : CallR X (.builtin "len") (rLn X.K) := call_len_seq
theorem map_some {α β : Type} {l : List α} {f : α → β} {i : Nat} {x : β} (h : (l.map f)[i]? = some x) : ∃ y, l[i]? = some y ∧ x = f y := by
  rw [List.getElem?_map] at h
  cases e : l[i]? with
  | none =>
    rw [e] at h
    cases h
  | some y =>
    rw [e] at h
    exact ⟨y, rfl, (Option.some.inj h).symm⟩
theorem huV {A : Around} {k d : Nat} (hr : Room k A) (hd : d ≤ 60) : A.units + 1 + d < cLine := by
  have := hr.units
  omega
theorem huV0 {A : Around} {k d : Nat} (hr : Room k A) (hd : d ≤ 60) : A.units + d < cLine := by
  have := hr.units
  omega
section
variable {K : PySem.W.Frag} {H : Hp} {v : V}
theorem dp_slot {s : Slt} (h : Dp K H v (dS s)) : ∃ a, v = .ref a ∧ SqT K H a [.str s.1, .str s.2] := by
  obtain ⟨a, xs, rfl, hq, hd⟩ := dp_tuple h
  cases hd with
  | cons h1 t =>
    cases t with
    | cons h2 t =>
      cases t
      rw [dp_str h1, dp_str h2] at hq
      exact ⟨a, rfl, hq⟩
theorem dp_ord {o : List Nat} (h : Dp K H v (dO o)) : ∃ a, v = .ref a ∧ SqT K H a (o.map fun k : Nat => V.int (k : Int)) := by
  obtain ⟨a, xs, rfl, hq, hd⟩ := dp_tuple h
  rw [dpa_ints (f := fun k : Nat => (k : Int)) hd] at hq
  exact ⟨a, rfl, hq⟩
theorem dp_move {m : Mv} (h : Dp K H v (dM m)) : ∃ a u, v = .ref a ∧ SqT K H a [u, .int m.2] ∧ Dp K H u (dO m.1) := by
  obtain ⟨a, xs, rfl, hq, hd⟩ := dp_tuple h
  cases hd with
  | cons h1 t =>
    cases t with
    | cons h2 t =>
      cases t
      rw [dp_int h2] at hq
      exact ⟨a, _, rfl, hq, h1⟩
theorem dp_box {b : Bx} (h : Dp K H v (dB b)) : ∃ a u z, v = .ref a ∧ SqT K H a [.str b.name, u, z] ∧ Dp K H u (dH b.held) ∧ Dp K H z (dMs b.moves) := by
  obtain ⟨a, xs, rfl, hq, hd⟩ := dp_tuple h
  cases hd with
  | cons h1 t =>
    cases t with
    | cons h2 t =>
      cases t with
      | cons h3 t =>
        cases t
        rw [dp_str h1] at hq
        exact ⟨a, _, _, rfl, hq, h2, h3⟩
theorem dp_gear {g : Gr} (h : Dp K H v (dG g)) : ∃ a p q ys, v = .ref a ∧ SqT K H a [.ref p, .ref q] ∧ SqT K H p (g.spaces.map V.str) ∧ SqT K H q ys ∧ DpAll K H ys (g.boxes.map dB) := by
  obtain ⟨a, xs, rfl, hq, hd⟩ := dp_tuple h
  cases hd with
  | cons h1 t =>
    cases t with
    | cons h2 t =>
      cases t
      obtain ⟨p, zs, rfl, e1, e2⟩ := dp_tuple h1
      obtain ⟨q, ys, rfl, e3, e4⟩ := dp_tuple h2
      rw [dpa_strs e2] at e1
      exact ⟨a, p, q, ys, rfl, hq, e1, e3, e4⟩
end
section
variable {P : Program} {w : World} {K : PySem.W.Frag} {mg : Str → Option Value} {base : Heap} {f f1 f2 f3 : Addr} {fd fd1 fd2 fd3 : FuncData}
theorem ok_slot (F : Fun K "own_slot" "own_slot" sSlot f fd) (T : Txt K mg) (D1 : Df K mg "own_tuple" sTup ["thing", "least", "most"] f1 fd1) : FnOk P w K mg base CX0 2 f fd ["spaces", "thing"] (spSlot K) := by
  have G1 : FnOk P w K mg base CX0 1 f1 fd1 _ (spTup K) := ok_tup D1.F T
  refine F.ok scSlot (fun vs H Q E h => ?_) (fun cdv A outer s H vs Q E hr h => ?_)
  · obtain ⟨p, sp, v, s, rfl, _⟩ := h
    rfl
  · obtain ⟨p, sp, v, z, rfl, hp, hd, ok, k⟩ := h
    obtain ⟨a, rfl, hq⟩ := dp_slot hd
    obtain ⟨aS, mS, qS⟩ := T.sides
    refine ⟨_, pss_cons (ps_if (pw_or (pt_not (pt_val (pe_cd D1 G1 hr (by rfl) (pa_cons (pv 1) (pa_cons pe_int (pa_cons pe_int pa_nil))))))
        (pw_or1 (pt_not (pt_val (pe_callB (cr_all rfl) (by rfl) T.all bt_all (pa_cons (pe_lc (own := [("part", 2)]) (g := gName 2) (tt := tYes) rfl scSlot.nd (pi_tup (pv 1)) (blkOk_by (N := nSlot) (sc := defScope sSlot) (by decide +kernel)) (fun _ _ _ _ _ => pg_name (i := 2) scSlot.nd rfl (Or.inl rfl)) (fun _ _ _ _ _ => pts_nil)
        (fun _ _ _ _ _ => pe_callB (r := rIs K) cr_is (by rfl) T.isi bt_isi (pa_cons (pv 2) (pa_cons (pe_cls (by rfl) T.str bt_str) pa_nil)))) pa_nil)))))).pt pss_never pss_nil)
      (pss_one (ps_ret (pe_and (pe_cmpR (op_inV (α := Str) (huV hr (by decide))) (pe_ix ix_tup (pv 1) pe_int (fun _ _ => rfl)) (pv 0) rfl)
        (pe_one (pe_cmpR (op_inV (α := Str) (huV hr (by decide))) (pe_ix ix_tup (pv 1) pe_int (fun _ _ => rfl)) (pe_glob (v := .ref aS) (by rfl) mS rfl) rfl))))), ?_⟩
    refine ⟨_, rfl, a, _, 2, 2, rfl, hq, (by show (2 : Int) ≤ 2; decide), (by show (2 : Int) ≤ 2; decide), true, rfl, iteF ?_⟩
    refine ⟨_, rfl, a, rfl, ⟨_, hq⟩, fun D hD => ?_⟩
    have C : LcC [] [] D (fun _ _ => True) ([s, s].map fun _ => some (PyData.bool true)) H := .pure hD .nil (by show 2 ≤ 1000; decide)
    refine lcT C (xs := [.str z.1, .str z.2]) (by rw [fz_nil]; exact hq) rfl (fun i x o ys H' hx ho I => ?_) fun H' up _ _ hdp => ?_
    · obtain ⟨t, rfl⟩ : ∃ t, x = V.str t := by
        match i, hx with
        | 0, hx => exact ⟨_, (Option.some.inj hx).symm⟩
        | 1, hx => exact ⟨_, (Option.some.inj hx).symm⟩
      refine ⟨rfl, yesT ⟨_, rfl, _, _, _, true, rfl, .base (.str t), kit_same, I.add C .refl trivial (d := .bool true) ?_ (.bl true)⟩⟩
      match i, ho with
      | 0, ho => rfl
      | 1, ho => rfl
    · obtain ⟨bs, hb, ha⟩ := all_true hdp
      have hq' := sqt_up up hq
      have hp' := sqt_up up hp
      refine ⟨D, bs, rfl, hb, bs.all id, rfl, ?_⟩
      rw [ha]
      refine iteF ?_
      refine ⟨_, rfl, a, _, 0, _, rfl, rfl, hq', atI_nat (j := 0) rfl, _, rfl, z.1, sp, p, _, .str z.1, rfl, .inl hp', dpa_of_strs sp, _, rfl, iteD ok.1 ?_⟩
      refine ⟨_, rfl, a, _, 1, _, rfl, rfl, hq', atI_nat (j := 1) rfl, z.2, ["down", "up"], aS, _, .str z.2, rfl, .inl (qS H'), dpa_of_strs ["down", "up"], qT ?_ (k _ up)⟩
      rcases ok.2 with e | e
      · rw [e]
        exact List.mem_cons_self
      · rw [e]
        exact List.mem_cons_of_mem _ List.mem_cons_self
theorem ok_ordr (F : Fun K "own_order" "own_order" sOrdr f fd) (T : Txt K mg) (D1 : Df K mg "own_tuple" sTup ["thing", "least", "most"] f1 fd1) (D2 : Df K mg "is_whole" sWhole ["thing", "least", "most"] f2 fd2) : FnOk P w K mg base CX0 2 f fd ["held", "thing"] (spOrdr K) := by
  have G1 : FnOk P w K mg base CX0 1 f1 fd1 _ (spTup K) := ok_tup D1.F T
  have G2 : FnOk P w K mg base CX0 1 f2 fd2 _ spWhole := ok_whole D2.F T
  refine F.ok scOrdr (fun vs H Q E h => ?_) (fun cdv A outer s H vs Q E hr h => ?_)
  · obtain ⟨v, u, held, o, rfl, _⟩ := h
    rfl
  · obtain ⟨v, u, held, o, rfl, hv, hu, few, ok, k⟩ := h
    obtain ⟨a, zs, rfl, hz, hd⟩ := dp_tuple hv
    obtain ⟨b, rfl, ho⟩ := dp_ord hu
    have nz : zs.length = held.length := by rw [dpa_len hd, List.length_map]
    have no : (o.map fun k : Nat => V.int (k : Int)).length = held.length := by rw [List.length_map, ok.len]
    refine ⟨_, pss_cons (ps_if (pw_or (pt_not (pt_val (pe_cd D1 G1 hr (by rfl) (pa_cons (pv 1) (pa_cons (pe_callB cr_len (by rfl) T.len bt_len (pa_cons (pv 0) pa_nil)) (pa_cons (pe_callB cr_len (by rfl) T.len bt_len (pa_cons (pv 0) pa_nil)) pa_nil))))))
        (pw_or1 (pt_not (pt_val (pe_callB (cr_all rfl) (by rfl) T.all bt_all (pa_cons (pe_lc (own := [("k", 2)]) (g := gName 2) (tt := tYes) rfl scOrdr.nd (pi_tup (pv 1)) (blkOk_by (N := nOrdr) (sc := defScope sOrdr) (by decide +kernel)) (fun _ _ _ _ _ => pg_name (i := 2) scOrdr.nd rfl (Or.inl rfl)) (fun _ _ _ _ _ => pts_nil)
        (fun _ _ _ _ _ => pe_cd (sp := spWhole) D2 G2 hr (by rfl) (pa_cons (pv 2) (pa_cons pe_int (pa_cons (pe_op op_sub (pe_callB (r := rLn K) cr_len (by rfl) T.len bt_len (pa_cons (pv 0) pa_nil)) pe_int) pa_nil))))) pa_nil)))))).pt pss_never pss_nil)
      (pss_one (ps_ret (pe_and (pe_cmpR op_eq (pe_callB cr_lenK (by rfl) T.len bt_len (pa_cons (pe_sci (own := [("k", 2)]) (g := gName 2) (tt := tYes) rfl scOrdr.nd (pi_tup (pv 1)) (blkOk_by (N := nOrdr) (sc := defScope sOrdr) (by decide +kernel)) (fun _ _ _ _ _ => pg_name (i := 2) scOrdr.nd rfl (Or.inl rfl)) (fun _ _ _ _ _ => pts_nil) (fun _ _ _ _ _ => pv 2)) pa_nil)) (pe_callB cr_len (by rfl) T.len bt_len (pa_cons (pv 0) pa_nil)) (nomark _))
        (pe_one (pe_callB (cr_all rfl) (by rfl) T.all bt_all (pa_cons (pe_lc (own := [("k", 2), ("slot", 3)]) (g := gPair K 2 3) (tt := tYes) rfl scOrdr.nd (pi_zipS (by rfl) T.zip (pa_cons (pv 1) (pa_cons (pv 0) pa_nil))) (blkOk_by (N := nOrdr) (sc := defScope sOrdr) (by decide +kernel))
          (fun _ _ _ _ _ => pg_pair (i := 2) (j := 3) rfl scOrdr.nd rfl rfl (Or.inl rfl) (Or.inl rfl) (Or.inr rfl) (Or.inr rfl)) (fun _ _ _ _ _ => pts_nil)
          (fun _ _ _ _ _ => pe_cmpR (r := rEqV Slt K) (op_eqV (α := Slt) (huV0 hr (by decide))) (pe_ix (r := rIxT K) ix_tup (pv 0) (pv 2) (fun _ _ => rfl)) (pv 3) (nomark _))) pa_nil)))))), ?_⟩
    refine ⟨_, rfl, _, rfl, a, zs, rfl, .inr hz, _, rfl, a, zs, rfl, .inr hz, b, _, _, _, rfl, ho, by rw [nz, no]; exact Int.le_refl _, by rw [nz, no]; exact Int.le_refl _, true, rfl, iteF ?_⟩
    refine ⟨_, rfl, b, rfl, ⟨_, ho⟩, fun D hD => ?_⟩
    have fewF : (o.map fun _ => some (PyData.bool true)).length ≤ 1000 := by rw [List.length_map, ok.len]; omega
    have C : LcC [] [] D (fun _ _ => True) (o.map fun _ => some (PyData.bool true)) H := .pure hD .nil fewF
    refine lcT C (xs := o.map fun k : Nat => V.int (k : Int)) (by rw [fz_nil]; exact ho) (by simp) (fun i x oo ys H' hx _ I => ?_) fun H' up _ _ hdp => ?_
    · obtain ⟨j, hj, rfl⟩ := map_some hx
      have lt := ok.lt j (List.mem_of_getElem? hj)
      refine ⟨rfl, yesT ⟨_, rfl, _, rfl, a, zs, rfl, .inr (sqt_up (I.up0 C) hz), _, _, rfl, rfl, _, _, _, rfl, by omega, by rw [nz]; omega, ?_⟩⟩
      exact I.add C .refl trivial (map_at hj) (.bl true)
    · obtain ⟨bs, hb, ha⟩ := all_true hdp
      refine ⟨D, bs, rfl, hb, bs.all id, rfl, ?_⟩
      rw [ha]
      refine iteF ?_
      have ho' := sqt_up up ho
      refine ⟨_, rfl, b, rfl, ⟨_, ho'⟩, fun D2 hD2 => ?_⟩
      refine sci_tup (P := P) (w := w) (xs := o.map fun k : Nat => V.int (k : Int)) (fun i H2 => Up [D2] H' H2 ∧ ∃ S, H2 D2 = some (SetK P w D2 S i) ∧ ∀ j : Int, S (Sum.inl j) = true → ∃ m, m < i ∧ (o.map fun k : Nat => (k : Int))[m]? = some j)
        ⟨Up.new hD2, fun _ => false, upd_same, fun j z => nomatch z⟩ (fun i H2 _ ⟨u, _⟩ => sqt_up (u.drop hD2) ho') ?_ ?_
      · rintro i x H2 hx ⟨u, S, hS, hin⟩
        obtain ⟨j, hj, rfl⟩ := map_some hx
        have hi : i < o.length := (List.getElem?_eq_some_iff.mp hj).1
        have hf : S (Sum.inl (j : Int)) = false := by
          cases q : S (Sum.inl (j : Int)) with
          | false => rfl
          | true =>
            obtain ⟨m, hm, e⟩ := hin _ q
            obtain ⟨j', hj', ej⟩ := map_some e
            have ej2 : j' = j := by omega
            subst ej2
            obtain ⟨h1, e1⟩ := List.getElem?_eq_some_iff.mp hj
            obtain ⟨h2, e2⟩ := List.getElem?_eq_some_iff.mp hj'
            have := (List.getElem_inj (h₀ := h2) (h₁ := h1) ok.nd).mp (e2.trans e1.symm)
            omega
        refine ⟨rfl, yesT ⟨_, rfl, (j : Int), S, i, rfl, hS, ?_, ?_⟩⟩
        · have := ok.len
          show i + 1 < _
          exact Nat.lt_of_le_of_lt (show i + 1 ≤ 1000 by omega) (by decide)
        · rw [if_neg (by rw [hf]; decide)]
          refine ⟨u.trans (Up.put List.mem_cons_self), _, upd_same, fun q hq => ?_⟩
          rcases Bool.or_eq_true_iff.mp hq with z | z
          · obtain ⟨m, hm, e⟩ := hin _ z
            exact ⟨m, by omega, e⟩
          · have e : (q : Int) = j := Sum.inl.inj (of_decide_eq_true z)
            exact ⟨i, by omega, by rw [e]; exact map_at hj⟩
      · rintro H2 ⟨u, S, hS, _⟩
        have u2 : Up [] H' H2 := u.drop hD2
        have hz2 := sqt_up u2 (sqt_up up hz)
        have ho2 := sqt_up u2 ho'
        have hd2 := dpa_up u2 (dpa_up up hd)
        refine ⟨D2, S, _, rfl, hS, _, rfl, a, zs, rfl, .inr hz2, rfl, _, rfl, ?_⟩
        refine iteD (by rw [no, nz]) ?_
        refine ⟨_, rfl, _, rfl, b, a, _, zs, rfl, ho2, hz2, fun D3 hD3 => ?_⟩
        have C3 : LcC [] [] D3 (fun _ _ => True) (o.map fun _ => some (PyData.bool true)) H2 := .pure hD3 .nil fewF
        refine lcZS C3 (by rw [fz_nil]; exact ho2) (by rw [fz_nil]; exact hz2) (by simp) (by rw [List.length_map, nz, ok.len]) (fun i x z oo ys H3 T' hx hzi _ I hT => ?_) fun H3 up3 _ _ hdp3 => ?_
        · obtain ⟨j, hj, rfl⟩ := map_some hx
          obtain ⟨sl, hsl, hzs⟩ := dpa_map hd2 hzi
          have lt := ok.lt j (List.mem_of_getElem? hj)
          have hk := ok.keep i j hj
          have u3 : Up [] H2 (upd H3 T' (.tup [.int (j : Int), z])) := (I.up0 C3).trans (Up.new hT)
          obtain ⟨zk, hzk, hzd⟩ := dpa_map' hd2 (hk.trans hsl)
          refine ⟨T', _, _, rfl, sqt_of upd_same, rfl, yesT ⟨_, rfl, _, rfl, a, zs, (j : Int), zk, rfl, rfl, sqt_up u3 hz2, atI_nat hzk, _, rfl, sl, sl, dp_up u3 hzd, dp_up u3 hzs, ?_⟩⟩
          refine I.add C3 (Up.new hT) trivial (map_at hj) ?_
          rw [decide_eq_true rfl]
          exact .bl true
        · obtain ⟨bs3, hb3, ha3⟩ := all_true hdp3
          exact ⟨D3, bs3, rfl, hb3, qB ha3 (k _ ((up.trans u2).trans up3))⟩
end
end Kf
end

section
set_option Elab.async false
set_option linter.all false
set_option maxRecDepth 100000
set_option maxHeartbeats 4000000
/-! walks: what a gear is, its boxes -/
namespace Kf
open PySem L2 PyProof.Rows
section
variable {P : Program} {w : World} {K : PySem.W.Frag} {mg : Str → Option Value} {base : Heap} {f f1 f2 f3 f4 : Addr} {fd fd1 fd2 fd3 fd4 : FuncData}
theorem ok_move (F : Fun K "own_move" "own_move" sMove f fd) (T : Txt K mg) (D1 : Df K mg "own_tuple" sTup ["thing", "least", "most"] f1 fd1) (D2 : Df K mg "is_whole" sWhole ["thing", "least", "most"] f2 fd2) (D3 : Df K mg "own_order" sOrdr ["held", "thing"] f3 fd3) : FnOk P w K mg base CX0 3 f fd ["held", "thing"] (spMove K) := by
  have G1 : FnOk P w K mg base CX0 1 f1 fd1 _ (spTup K) := ok_tup D1.F T
  have G2 : FnOk P w K mg base CX0 1 f2 fd2 _ spWhole := ok_whole D2.F T
  have G3 : FnOk P w K mg base CX0 2 f3 fd3 _ (spOrdr K) := ok_ordr D3.F T D1 D2
  refine F.ok scMove (fun vs H Q E h => ?_) (fun cdv A outer s H vs Q E hr h => ?_)
  · obtain ⟨v, u, held, m, rfl, _⟩ := h
    rfl
  · obtain ⟨v, u, held, m, rfl, hv, hu, few, ok, k⟩ := h
    obtain ⟨a, o, rfl, hq, ho⟩ := dp_move hu
    have hr1 : Room 1 _ := hr.mono (by decide)
    refine ⟨_, pss_cons (ps_if (pw_or (pt_not (pt_val (pe_cd D1 G1 hr1 (by rfl) (pa_cons (pv 1) (pa_cons pe_int (pa_cons pe_int pa_nil))))))
        (pw_or1 (pt_not (pt_val (pe_cd D3 G3 hr (by rfl) (pa_cons (pv 0) (pa_cons (pe_ix ix_tup (pv 1) pe_int (fun _ _ => rfl)) pa_nil))))))).pt pss_never pss_nil)
      (pss_one (ps_ret (pe_and (pe_cd D2 G2 hr1 (by rfl) (pa_cons (pe_ix ix_tup (pv 1) pe_int (fun _ _ => rfl)) (pa_cons (pe_un un_neg pe_int) (pa_cons pe_int pa_nil))))
        (pe_one (pe_cmpR op_ne (pe_ix ix_tup (pv 1) pe_int (fun _ _ => rfl)) pe_int (nomark _)))))), ?_⟩
    refine ⟨_, rfl, a, _, 2, 2, rfl, hq, (by show (2 : Int) ≤ 2; decide), (by show (2 : Int) ≤ 2; decide), true, rfl, iteF ?_⟩
    refine ⟨_, rfl, _, rfl, a, _, 0, o, rfl, rfl, hq, atI_nat (j := 0) rfl, v, o, held, m.1, rfl, hv, ho, few, ok.1, fun H' up => ⟨true, rfl, iteF ?_⟩⟩
    have hq' := sqt_up up hq
    have sgn : (-1 : Int) ≤ m.2 ∧ m.2 ≤ 1 ∧ m.2 ≠ 0 := by rcases ok.2 with e | e <;> rw [e] <;> decide
    refine ⟨_, rfl, a, _, 1, _, rfl, rfl, hq', atI_nat (j := 1) rfl, 1, rfl, m.2, -1, 1, rfl, sgn.1, sgn.2.1, true, rfl, iteT ?_⟩
    refine ⟨_, rfl, a, _, 1, _, rfl, rfl, hq', atI_nat (j := 1) rfl, rfl, ?_⟩
    refine qB ?_ (k _ up)
    have e : decide (V.int m.2 = V.int 0) = false := decide_eq_false fun z => sgn.2.2 (by injection z)
    rw [e]
    rfl
theorem ok_box (F : Fun K "own_box" "own_box" sBox f fd) (T : Txt K mg) {f5 f6 : Addr} {fd5 fd6 : FuncData} (D1 : Df K mg "own_tuple" sTup ["thing", "least", "most"] f1 fd1) (D2 : Df K mg "is_whole" sWhole ["thing", "least", "most"] f2 fd2) (D3 : Df K mg "own_order" sOrdr ["held", "thing"] f3 fd3)
    (D4 : Df K mg "own_move" sMove ["held", "thing"] f4 fd4) (D5 : Df K mg "own_slot" sSlot ["spaces", "thing"] f5 fd5) (D6 : Df K mg "is_name" sName ["thing"] f6 fd6) : FnOk P w K mg base CX0 4 f fd ["spaces", "thing"] (spBox K) := by
  have G1 : FnOk P w K mg base CX0 1 f1 fd1 _ (spTup K) := ok_tup D1.F T
  have G4 : FnOk P w K mg base CX0 3 f4 fd4 _ (spMove K) := ok_move D4.F T D1 D2 D3
  have G5 : FnOk P w K mg base CX0 2 f5 fd5 _ (spSlot K) := ok_slot D5.F T D1
  have G6 : FnOk P w K mg base CX0 1 f6 fd6 _ spName := ok_name D6.F T
  refine F.ok scBox (fun vs H Q E h => ?_) (fun cdv A outer s H vs Q E hr h => ?_)
  · obtain ⟨p, sp, v, b, rfl, _⟩ := h
    rfl
  · obtain ⟨p, sp, v, b, rfl, hp, hd, ok, k⟩ := h
    obtain ⟨a, u, z, rfl, hq, hu, hz⟩ := dp_box hd
    obtain ⟨au, us, rfl, hus, hud⟩ := dp_tuple hu
    obtain ⟨az, zs, rfl, hzs, hzd⟩ := dp_tuple hz
    have nu : us.length = b.held.length := by rw [dpa_len hud, List.length_map]
    have nz : zs.length = b.moves.length := by rw [dpa_len hzd, List.length_map]
    have f4 := ok.few
    have f3 := ok.fewM
    obtain ⟨tS, mS⟩ := T.mostSl
    obtain ⟨tM, mM⟩ := T.mostM
    have hr1 : Room 1 _ := hr.mono (by decide)
    have hr2 : Room 2 _ := hr.mono (by decide)
    refine ⟨_, pss_cons (ps_if (pw_or (pt_not (pt_val (pe_cd D1 G1 hr1 (by rfl) (pa_cons (pv 1) (pa_cons pe_int (pa_cons pe_int pa_nil))))))
        (pw_or1 (pt_not (pt_val (pe_cd D6 G6 hr1 (by rfl) (pa_cons (pe_ix ix_tup (pv 1) pe_int (fun _ _ => rfl)) pa_nil)))))).pt pss_never pss_nil)
      (pss_cons (ps_asg (pv 1) (pg_tri (i := 2) (j := 3) (l := 4) rfl scBox.nd rfl rfl rfl (Or.inl rfl) (Or.inr rfl) (Or.inl rfl) (Or.inl rfl) (Or.inl rfl) (Or.inl rfl)))
      (pss_cons (ps_if (pw_or (pt_not (pt_val (pe_cd D1 G1 hr1 (by rfl) (pa_cons (pv 3) (pa_cons pe_int (pa_cons (pe_glob (v := .int 4) (by rfl) mS ⟨_, rfl⟩) pa_nil))))))
        (pw_or1 (pt_not (pt_val (pe_callB (cr_all rfl) (by rfl) T.all bt_all (pa_cons (pe_lc (own := [("slot", 5)]) (g := gName 5) (tt := tYes) rfl scBox.nd (pi_tup (pv 3)) (blkOk_by (N := nBox) (sc := defScope sBox) (by decide +kernel)) (fun _ _ _ _ _ => pg_name (i := 5) scBox.nd rfl (Or.inl rfl)) (fun _ _ _ _ _ => pts_nil)
          (fun _ _ _ _ _ => pe_cd (sp := spSlot K) D5 G5 hr2 (by rfl) (pa_cons (pv 0) (pa_cons (pv 5) pa_nil)))) pa_nil)))))).pt pss_never pss_nil)
      (pss_one (ps_ret (pe_and (pe_cd D1 G1 hr1 (by rfl) (pa_cons (pv 4) (pa_cons pe_int (pa_cons (pe_glob (v := .int 3) (by rfl) mM ⟨_, rfl⟩) pa_nil))))
        (pe_one (pe_callB (cr_all rfl) (by rfl) T.all bt_all (pa_cons (pe_lc (own := [("move", 6)]) (g := gName 6) (tt := tYes) rfl scBox.nd (pi_tup (pv 4)) (blkOk_by (N := nBox) (sc := defScope sBox) (by decide +kernel)) (fun _ _ _ _ _ => pg_name (i := 6) scBox.nd rfl (Or.inl rfl)) (fun _ _ _ _ _ => pts_nil)
          (fun _ _ _ _ _ => pe_cd (sp := spMove K) D4 G4 hr (by rfl) (pa_cons (pv 3) (pa_cons (pv 6) pa_nil)))) pa_nil)))))))), ?_⟩
    refine ⟨_, rfl, a, _, 3, 3, rfl, hq, (by show (3 : Int) ≤ 3; decide), (by show (3 : Int) ≤ 3; decide), true, rfl, iteF ?_⟩
    refine ⟨_, rfl, a, _, 0, _, rfl, rfl, hq, atI_nat (j := 0) rfl, b.name, rfl, ok.name, fun H1 u1 => ⟨true, rfl, iteF ?_⟩⟩
    have hq1 := sqt_up u1 hq
    have hus1 := sqt_up u1 hus
    refine ⟨_, rfl, a, _, _, _, rfl, hq1, ?_⟩
    refine ⟨_, rfl, au, us, 0, 4, rfl, hus1, by omega, by omega, true, rfl, iteF ?_⟩
    refine ⟨_, rfl, au, rfl, ⟨_, hus1⟩, fun D hD => ?_⟩
    have C : LcC [] [] D (fun _ _ => True) (b.held.map fun _ => some (PyData.bool true)) H1 := .pure hD .nil (by rw [List.length_map]; omega)
    refine lcT C (xs := us) (by rw [fz_nil]; exact hus1) (by rw [List.length_map, nu]) (fun i x oo ys H' hx _ I => ?_) fun H2 u2 _ _ hdp => ?_
    · obtain ⟨sl, hsl, hxs⟩ := dpa_map hud hx
      have u' := u1.trans (I.up0 C)
      exact ⟨rfl, yesT ⟨_, rfl, _, rfl, p, sp, x, sl, rfl, sqt_up u' hp, dp_up u' hxs, ok.slots _ (List.mem_of_getElem? hsl), fun H4 u4 => I.add C u4 trivial (map_at hsl) (.bl true)⟩⟩
    · obtain ⟨bs, hb, ha⟩ := all_true hdp
      refine ⟨D, bs, rfl, hb, bs.all id, rfl, ?_⟩
      rw [ha]
      refine iteF ?_
      have u12 := u1.trans u2
      have hzs2 := sqt_up u12 hzs
      refine ⟨_, rfl, az, zs, 0, 3, rfl, hzs2, by omega, by omega, true, rfl, iteT ?_⟩
      refine ⟨_, rfl, az, rfl, ⟨_, hzs2⟩, fun D2 hD2 => ?_⟩
      have C2 : LcC [] [] D2 (fun _ _ => True) (b.moves.map fun _ => some (PyData.bool true)) H2 := .pure hD2 .nil (by rw [List.length_map]; omega)
      refine lcT C2 (xs := zs) (by rw [fz_nil]; exact hzs2) (by rw [List.length_map, nz]) (fun i x oo ys H' hx _ I => ?_) fun H3 u3 _ _ hdp3 => ?_
      · obtain ⟨m, hm, hxs⟩ := dpa_map hzd hx
        have u' := u12.trans (I.up0 C2)
        exact ⟨rfl, yesT ⟨_, rfl, _, rfl, .ref au, x, b.held, m, rfl, dp_up u' hu, dp_up u' hxs, f4, ok.moves _ (List.mem_of_getElem? hm), fun H4 u4 => I.add C2 u4 trivial (map_at hm) (.bl true)⟩⟩
      · obtain ⟨bs3, hb3, ha3⟩ := all_true hdp3
        exact ⟨D2, bs3, rfl, hb3, qB ha3 (k _ (u12.trans u3))⟩
end
end Kf
end

section
set_option Elab.async false
set_option linter.all false
set_option maxRecDepth 100000
set_option maxHeartbeats 4000000
/-! walks: gears, their boxes, rows moved -/
namespace Kf
open PySem L2 PyProof.Rows
/-- all that own_gear reaches -/
structure GearDs (K : PySem.W.Frag) (mg : Str → Option Value) (f1 f2 f3 f4 f5 f6 f7 f8 f9 : Addr) (fd1 fd2 fd3 fd4 fd5 fd6 fd7 fd8 fd9 : FuncData) : Prop where
  T : Txt K mg
  D1 : Df K mg "own_tuple" sTup ["thing", "least", "most"] f1 fd1
  D2 : Df K mg "is_whole" sWhole ["thing", "least", "most"] f2 fd2
  D3 : Df K mg "own_order" sOrdr ["held", "thing"] f3 fd3
  D4 : Df K mg "own_move" sMove ["held", "thing"] f4 fd4
  D5 : Df K mg "own_slot" sSlot ["spaces", "thing"] f5 fd5
  D6 : Df K mg "is_name" sName ["thing"] f6 fd6
  D7 : Df K mg "own_box" sBox ["spaces", "thing"] f7 fd7
  D8 : Df K mg "own_rising" sRise ["names"] f8 fd8
  D9 : Df K mg "own_gear" sGear ["thing"] f9 fd9
section
variable {P : Program} {w : World} {K : PySem.W.Frag} {mg : Str → Option Value} {base : Heap} {f f0 f1 f2 f3 f4 f5 f6 f7 f8 f9 : Addr} {fd fd0 fd1 fd2 fd3 fd4 fd5 fd6 fd7 fd8 fd9 : FuncData}
theorem ok_gear (G : GearDs K mg f1 f2 f3 f4 f5 f6 f7 f8 f9 fd1 fd2 fd3 fd4 fd5 fd6 fd7 fd8 fd9) : FnOk P w K mg base CX0 5 f9 fd9 ["thing"] (spGear K) := by
  have T := G.T
  have G1 : FnOk P w K mg base CX0 1 f1 fd1 _ (spTup K) := ok_tup G.D1.F T
  have G6 : FnOk P w K mg base CX0 1 f6 fd6 _ spName := ok_name G.D6.F T
  have G7 : FnOk P w K mg base CX0 4 f7 fd7 _ (spBox K) := ok_box G.D7.F T G.D1 G.D2 G.D3 G.D4 G.D5 G.D6
  have G8 : FnOk P w K mg base CX0 1 f8 fd8 _ (spRise K) := ok_rise G.D8.F T
  refine G.D9.F.ok scGear (fun vs H Q E h => ?_) (fun cdv A outer s H vs Q E hr h => ?_)
  · obtain ⟨v, g, rfl, _⟩ := h
    rfl
  · obtain ⟨v, g, rfl, hd, ok, k⟩ := h
    obtain ⟨a, p, q, ys, rfl, ha, hp, hq, hy⟩ := dp_gear hd
    have ny : ys.length = g.boxes.length := by rw [dpa_len hy, List.length_map]
    obtain ⟨tS, mS⟩ := T.mostSp
    obtain ⟨tB, mB⟩ := T.mostB
    have k1 := ok.lo
    have k2 := ok.hi
    have k3 := ok.few
    have hr1 : Room 1 _ := hr.mono (by decide)
    refine ⟨_, pss_cons (ps_if (pt_not (pt_val (pe_cd G.D1 G1 hr1 (by rfl) (pa_cons (pv 0) (pa_cons pe_int (pa_cons pe_int pa_nil)))))) pss_never pss_nil)
      (pss_cons (ps_asg (pv 0) (pg_pair (i := 1) (j := 2) rfl scGear.nd rfl rfl (Or.inr rfl) (Or.inl rfl) (Or.inl rfl) (Or.inl rfl)))
      (pss_cons (ps_if (pw_or (pt_not (pt_val (pe_cd G.D1 G1 hr1 (by rfl) (pa_cons (pv 1) (pa_cons pe_int (pa_cons (pe_glob (v := .int 3) (by rfl) mS ⟨_, rfl⟩) pa_nil))))))
        (pw_or (pt_not (pt_val (pe_callB (cr_all rfl) (by rfl) T.all bt_all (pa_cons (pe_lc (own := [("name", 3)]) (g := gName 3) (tt := tYes) rfl scGear.nd (pi_tup (pv 1)) (blkOk_by (N := nGear) (sc := defScope sGear) (by decide +kernel)) (fun _ _ _ _ _ => pg_name (i := 3) scGear.nd rfl (Or.inl rfl)) (fun _ _ _ _ _ => pts_nil)
          (fun _ _ _ _ _ => pe_cd (sp := spName) G.D6 G6 hr1 (by rfl) (pa_cons (pv 3) pa_nil))) pa_nil))))
        (pw_or1 (pt_not (pt_val (pe_cd G.D8 G8 hr1 (by rfl) (pa_cons (pv 1) pa_nil))))))).pt pss_never pss_nil)
      (pss_cons (ps_if (pw_or (pt_not (pt_val (pe_cd G.D1 G1 hr1 (by rfl) (pa_cons (pv 2) (pa_cons pe_int (pa_cons (pe_glob (v := .int 8) (by rfl) mB ⟨_, rfl⟩) pa_nil))))))
        (pw_or1 (pt_not (pt_val (pe_callB (cr_all rfl) (by rfl) T.all bt_all (pa_cons (pe_lc (own := [("box", 4)]) (g := gName 4) (tt := tYes) rfl scGear.nd (pi_tup (pv 2)) (blkOk_by (N := nGear) (sc := defScope sGear) (by decide +kernel)) (fun _ _ _ _ _ => pg_name (i := 4) scGear.nd rfl (Or.inl rfl)) (fun _ _ _ _ _ => pts_nil)
          (fun _ _ _ _ _ => pe_cd (sp := spBox K) G.D7 G7 hr (by rfl) (pa_cons (pv 1) (pa_cons (pv 4) pa_nil)))) pa_nil)))))).pt pss_never pss_nil)
      (pss_one (ps_ret (pe_cd G.D8 G8 hr1 (by rfl) (pa_cons (pe_lc (own := [("box", 4)]) (g := gName 4) (tt := tYes) rfl scGear.nd (pi_tup (pv 2)) (blkOk_by (N := nGear) (sc := defScope sGear) (by decide +kernel)) (fun _ _ _ _ _ => pg_name (i := 4) scGear.nd rfl (Or.inl rfl)) (fun _ _ _ _ _ => pts_nil)
          (fun _ _ _ _ _ => pe_ix (r := rIxT K) ix_tup (pv 4) pe_int (fun _ _ => rfl))) pa_nil))))))), ?_⟩
    refine ⟨_, rfl, a, _, 2, 2, rfl, ha, (by show (2 : Int) ≤ 2; decide), (by show (2 : Int) ≤ 2; decide), true, rfl, iteF ?_⟩
    refine ⟨_, rfl, a, _, _, rfl, ha, ?_⟩
    refine ⟨_, rfl, p, _, 1, 3, rfl, hp, by rw [List.length_map]; omega, by rw [List.length_map]; omega, true, rfl, iteF ?_⟩
    refine ⟨_, rfl, p, rfl, ⟨_, hp⟩, fun D hD => ?_⟩
    have C : LcC [] [] D (fun _ _ => True) (g.spaces.map fun _ => some (PyData.bool true)) H := .pure hD .nil (by rw [List.length_map]; omega)
    refine lcT C (xs := g.spaces.map V.str) (by rw [fz_nil]; exact hp) (by simp) (fun i x oo zs H' hx _ I => ?_) fun H1 u1 _ _ hdp => ?_
    · obtain ⟨z, hz, rfl⟩ := map_some hx
      exact ⟨rfl, yesT ⟨_, rfl, z, rfl, ok.names z (List.mem_of_getElem? hz), fun H4 u4 => I.add C u4 trivial (map_at hz) (.bl true)⟩⟩
    obtain ⟨bs, hb, hal⟩ := all_true hdp
    refine ⟨D, bs, rfl, hb, bs.all id, rfl, ?_⟩
    rw [hal]
    refine iteF ?_
    refine ⟨_, rfl, p, g.spaces, rfl, .inl (sqt_up u1 hp), ok.rise, by omega, fun H2 u2 => ⟨true, rfl, iteF ?_⟩⟩
    have u12 := u1.trans u2
    have hq2 := sqt_up u12 hq
    refine ⟨_, rfl, q, ys, 0, 8, rfl, hq2, by omega, by omega, true, rfl, iteF ?_⟩
    refine ⟨_, rfl, q, rfl, ⟨_, hq2⟩, fun D2 hD2 => ?_⟩
    have C2 : LcC [] [] D2 (fun _ _ => True) (g.boxes.map fun _ => some (PyData.bool true)) H2 := .pure hD2 .nil (by rw [List.length_map]; omega)
    refine lcT C2 (xs := ys) (by rw [fz_nil]; exact hq2) (by rw [List.length_map, ny]) (fun i x oo zs H' hx _ I => ?_) fun H3 u3 _ _ hdp3 => ?_
    · obtain ⟨b, hb, hxs⟩ := dpa_map hy hx
      have u' := u12.trans (I.up0 C2)
      exact ⟨rfl, yesT ⟨_, rfl, _, rfl, p, g.spaces, x, b, rfl, sqt_up u' hp, dp_up u' hxs, ok.boxes _ (List.mem_of_getElem? hb), fun H4 u4 => I.add C2 u4 trivial (map_at hb) (.bl true)⟩⟩
    obtain ⟨bs3, hb3, hal3⟩ := all_true hdp3
    refine ⟨D2, bs3, rfl, hb3, bs3.all id, rfl, ?_⟩
    rw [hal3]
    refine iteF ?_
    have u13 := u12.trans u3
    have hq3 := sqt_up u13 hq
    refine ⟨_, rfl, q, rfl, ⟨_, hq3⟩, fun D4 hD4 => ?_⟩
    have C4 : LcC [] [] D4 (fun _ _ => True) (g.boxes.map fun b => some (PyData.str b.name)) H3 := .pure hD4 .nil (by rw [List.length_map]; omega)
    refine lcT C4 (xs := ys) (by rw [fz_nil]; exact hq3) (by rw [List.length_map, ny]) (fun i x oo zs H' hx _ I => ?_) fun H4 u4 _ _ hdp4 => ?_
    · obtain ⟨b, hb, hxs⟩ := dpa_map hy hx
      obtain ⟨ab, u, z, rfl, hab, _⟩ := dp_box (dp_up (u13.trans (I.up0 C4)) hxs)
      exact ⟨rfl, yesT ⟨_, rfl, ab, _, 0, _, rfl, rfl, hab, atI_nat (j := 0) rfl, I.add C4 .refl trivial (map_at hb) (.str _)⟩⟩
    rw [fm_all] at hdp4
    obtain ⟨xs, h5, h6⟩ := dp_list hdp4
    have e6 : g.boxes.map (fun b => PyData.str b.name) = (g.boxes.map Bx.name).map .str := by rw [List.map_map]; rfl
    rw [e6] at h6
    rw [dpa_strs h6] at h5
    exact ⟨D4, g.boxes.map Bx.name, rfl, .inr (sql_up fz_le h5), ok.riseB, by rw [List.length_map]; omega, fun H5 u5 => k _ ((u13.trans u4).trans u5)⟩
theorem ok_need (G : GearDs K mg f1 f2 f3 f4 f5 f6 f7 f8 f9 fd1 fd2 fd3 fd4 fd5 fd6 fd7 fd8 fd9) (D : Df K mg "need_gear" sNeed ["gear"] f fd) : FnOk P w K mg base CX0 6 f fd ["gear"] (spNeed K) := by
  have G9 : FnOk P w K mg base CX0 5 f9 fd9 _ (spGear K) := ok_gear G
  refine D.F.ok scNeed (fun vs H Q E h => ?_) (fun cdv A outer s H vs Q E hr h => ?_)
  · obtain ⟨v, g, rfl, _⟩ := h
    rfl
  · obtain ⟨v, g, rfl, hd, ok, k⟩ := h
    refine ⟨_, pss_one (ps_if (pt_not (pt_val (pe_cd G.D9 G9 hr (by rfl) (pa_cons (pv 0) pa_nil)))) pss_never pss_nil), ?_⟩
    exact ⟨_, rfl, v, g, rfl, hd, ok, fun H' up => ⟨true, rfl, iteF (k H' up)⟩⟩
theorem rising_inj {L : List Str} (h : Rising L) {i j : Nat} {a : Str} (hi : L[i]? = some a) (hj : L[j]? = some a) : i = j := by
  obtain ⟨h1, e1⟩ := List.getElem?_eq_some_iff.mp hi
  obtain ⟨h2, e2⟩ := List.getElem?_eq_some_iff.mp hj
  have irr : ¬ a.cps.toList < a.cps.toList := fun z => List.lt_irrefl _ z
  rcases Nat.lt_trichotomy i j with c | c | c
  · have := (List.pairwise_iff_getElem.mp h) i j h1 h2 c
    rw [e1, e2] at this
    exact absurd this irr
  · exact c
  · have := (List.pairwise_iff_getElem.mp h) j i h2 h1 c
    rw [e1, e2] at this
    exact absurd this irr
theorem ok_boxOf (T : Txt K mg) (D : Df K mg "own_box_of" sBoxOf ["gear", "box"] f fd) : FnOk P w K mg base CX0 1 f fd ["gear", "box"] (spBoxOf K) := by
  refine D.F.ok scBoxOf (fun vs H Q E h => ?_) (fun cdv A outer s H vs Q E hr h => ?_)
  · obtain ⟨L, v, g, b, rfl, _⟩ := h
    rfl
  · obtain ⟨L, v, g, b, rfl, _, hd, ok, hb, k⟩ := h
    obtain ⟨a, p, q, ys, rfl, ha0, hp, hq0, hy⟩ := dp_gear hd
    have ha := sqt_up fz_le ha0
    have hq := sqt_up fz_le hq0
    have ny : ys.length = g.boxes.length := by rw [dpa_len hy, List.length_map]
    refine ⟨_, pss_cons (ps_for PassesOwn.never rfl (pi_tup (pe_ix ix_tup (pv 0) pe_int (fun _ _ => rfl))) (pg_name (i := 2) scBoxOf.nd rfl (Or.inl rfl))
      (pss_one (ps_if (pw_and (pt_val (pe_callB cr_is (by rfl) T.isi bt_isi (pa_cons (pv 1) (pa_cons (pe_cls (by rfl) T.str bt_str) pa_nil)))) (pw_and1 (pt_cmpR op_eq (pe_ix ix_tup (pv 2) pe_int (fun _ _ => rfl)) (pv 1) (nomark _)))).pt
        (pss_one (ps_ret (pv 2))) pss_nil))) (pss_one ps_never), ?_⟩
    refine ⟨_, rfl, a, _, 1, _, rfl, rfl, ha, atI_nat (j := 1) rfl, q, rfl, ⟨_, hq⟩, ?_⟩
    refine for_tup (K := K) (a := q) (xs := ys) (fun i σ H' => H' = H ∧ (∃ c, σ = [some (.ref a), some (.str b.name), c]) ∧ ∀ j bj, j < i → g.boxes[j]? = some bj → bj.name ≠ b.name) ⟨rfl, ⟨_, rfl⟩, fun j bj z => absurd z (Nat.not_lt_zero _)⟩ (fun i σ H' _ ⟨e, _⟩ => by rw [e]; exact hq) ?_ ?_
    · rintro i x σ H' hx ⟨rfl, ⟨c, rfl⟩, no⟩
      obtain ⟨bi, hbi, hxs⟩ := dpa_map hy hx
      obtain ⟨ab, u, z, rfl, hab, _⟩ := dp_box (dp_up fz_le hxs)
      refine ⟨_, rfl, _, _, _, true, rfl, .base (.str b.name), kit_same, true, rfl, iteT ?_⟩
      refine ⟨_, rfl, ab, _, 0, _, rfl, rfl, hab, atI_nat (j := 0) rfl, _, rfl, rfl, _, rfl, ?_⟩
      by_cases e : bi.name = b.name
      · refine iteD (by rw [e]) ?_
        have e2 : bi = b := by
          obtain ⟨j, hj⟩ := List.getElem?_of_mem hb
          have n1 : (g.boxes.map Bx.name)[i]? = some b.name := by
            rw [List.getElem?_map, hbi]
            exact congrArg some e
          have n2 : (g.boxes.map Bx.name)[j]? = some b.name := map_at hj
          have := rising_inj ok.riseB n1 n2
          subst this
          rw [hbi] at hj
          exact Option.some.inj hj
        subst e2
        exact ⟨_, rfl, k _ hxs⟩
      · have e3 : decide (V.str bi.name = V.str b.name) = false := decide_eq_false fun z => e (by injection z)
        show (if decide (V.str bi.name = V.str b.name) = true then _ else _)
        rw [e3]
        refine iteF ⟨rfl, ⟨_, rfl⟩, fun j bj hj hbj => ?_⟩
        rcases Nat.lt_succ_iff_lt_or_eq.mp hj with q | q
        · exact no j bj q hbj
        · subst q
          rw [hbi] at hbj
          rw [← Option.some.inj hbj]
          exact e
    · rintro σ H' ⟨rfl, _, no⟩
      obtain ⟨j, hj⟩ := List.getElem?_of_mem hb
      exact absurd rfl (no j b (by rw [ny]; exact (List.getElem?_eq_some_iff.mp hj).1) hj)
theorem ok_slots (T : Txt K mg) (D0 : Df K mg "own_box_of" sBoxOf ["gear", "box"] f0 fd0) (D : Df K mg "own_slots" sSlots ["gear", "box"] f fd) : FnOk P w K mg base CX0 2 f fd ["gear", "box"] (spSlots K) := by
  have G0 : FnOk P w K mg base CX0 1 f0 fd0 _ (spBoxOf K) := ok_boxOf T D0
  refine D.F.ok scSlots (fun vs H Q E h => ?_) (fun cdv A outer s H vs Q E hr h => ?_)
  · obtain ⟨L, v, g, b, rfl, _⟩ := h
    rfl
  · obtain ⟨L, v, g, b, rfl, tr, hd, ok, hb, k⟩ := h
    refine ⟨_, pss_one (ps_ret (pe_ix ix_tup (pe_cd D0 G0 hr (by rfl) (pa_cons (pv 0) (pa_cons (pv 1) pa_nil))) pe_int (fun _ _ => rfl))), ?_⟩
    refine ⟨_, rfl, _, rfl, L, v, g, b, rfl, tr, hd, ok, hb, fun u hu => ?_⟩
    obtain ⟨ab, u1, z, rfl, hab, h1, _⟩ := dp_box hu
    exact ⟨ab, _, 1, _, rfl, rfl, sqt_up fz_le hab, atI_nat (j := 1) rfl, k _ h1⟩
theorem ok_slotsP (G : GearDs K mg f1 f2 f3 f4 f5 f6 f7 f8 f9 fd1 fd2 fd3 fd4 fd5 fd6 fd7 fd8 fd9) {fa fb fc : Addr} {fda fdb fdc : FuncData} (Da : Df K mg "need_gear" sNeed ["gear"] fa fda) (Db : Df K mg "own_box_of" sBoxOf ["gear", "box"] fb fdb) (Dc : Df K mg "own_slots" sSlots ["gear", "box"] fc fdc)
    (D : Df K mg "slots" sSlotsP ["gear", "box"] f fd) : FnOk P w K mg base CX0 7 f fd ["gear", "box"] (spSlotsP K) := by
  have Ga : FnOk P w K mg base CX0 6 fa fda _ (spNeed K) := ok_need G Da
  have Gc : FnOk P w K mg base CX0 2 fc fdc _ (spSlots K) := ok_slots G.T Db Dc
  refine D.F.ok scSlotsP (fun vs H Q E h => ?_) (fun cdv A outer s H vs Q E hr h => ?_)
  · obtain ⟨L, v, g, b, rfl, _⟩ := h
    rfl
  · obtain ⟨L, v, g, b, rfl, tr, hd, ok, hb, k⟩ := h
    refine ⟨_, pss_cons (ps_expr (pe_cd Da Ga hr (by rfl) (pa_cons (pv 0) pa_nil))) (pss_one (ps_ret (pe_cd Dc Gc (hr.mono (by decide)) (by rfl) (pa_cons (pv 0) (pa_cons (pv 1) pa_nil))))), ?_⟩
    refine ⟨_, rfl, v, g, rfl, dp_up fz_le hd, ok, fun H' up => ?_⟩
    exact ⟨_, rfl, _, rfl, L, v, g, b, rfl, tr.up up, dp_up up.all.fz hd, ok, hb, fun u hu => k _ _ up hu⟩
end
end Kf
end

section
set_option Elab.async false
set_option linter.all false
set_option maxRecDepth 100000
set_option maxHeartbeats 4000000
/-! tuples that bear no attributes of their own: made by tuple(..), asked for .index -/
namespace Kf
open PySem L2 PySem.Spec PyProof.Rows
/-- a tuple without a dict of its own -/
def Hd (H : Hp) (v : V) : Prop := ∃ a ob xs, v = .ref a ∧ H a = some (.frz ob (.tup xs)) ∧ ob.dict = none
theorem hd_up {H H' : Hp} (u : Up [] H H') {v : V} (h : Hd H v) : Hd H' v := by
  obtain ⟨a, ob, xs, e, h1, h2⟩ := h
  exact ⟨a, ob, xs, e, u.at h1, h2⟩
theorem sqt_frz {K : PySem.W.Frag} {H : Hp} {a : Addr} {ob : Obj} {xs : List V} (h : H a = some (.frz ob (.tup xs))) : SqT K H a xs := .inl (.inr ⟨ob, h⟩)
/-- a move whose order is such a tuple -/
def HM (K : PySem.W.Frag) (H : Hp) (v : V) (m : Mv) : Prop := ∃ a u, v = .ref a ∧ SqT K H a [u, .int m.2] ∧ Dp K H u (dO m.1) ∧ Hd H u
theorem hm_up {K : PySem.W.Frag} {H H' : Hp} (u : Up [] H H') {v : V} {m : Mv} (h : HM K H v m) : HM K H' v m := by
  obtain ⟨a, x, e, h1, h2, h3⟩ := h
  exact ⟨a, x, e, sqt_up u h1, dp_up u h2, hd_up u h3⟩
theorem hm_dp {K : PySem.W.Frag} {H : Hp} {v : V} {m : Mv} (h : HM K H v m) : Dp K H v (dM m) := by
  obtain ⟨a, x, rfl, h1, h2, _⟩ := h
  exact .tup h1 (.cons h2 (.cons (.int _) .nil))
inductive HAll (K : PySem.W.Frag) (H : Hp) : List V → List Mv → Prop
  | nil : HAll K H [] []
  | cons {v : V} {m : Mv} {vs : List V} {ms : List Mv} : HM K H v m → HAll K H vs ms → HAll K H (v :: vs) (m :: ms)
theorem hall_up {K : PySem.W.Frag} {H H' : Hp} (u : Up [] H H') : ∀ {vs : List V} {ms : List Mv}, HAll K H vs ms → HAll K H' vs ms
  | _, _, .nil => .nil
  | _, _, .cons h t => .cons (hm_up u h) (hall_up u t)
theorem hall_dp {K : PySem.W.Frag} {H : Hp} : ∀ {vs : List V} {ms : List Mv}, HAll K H vs ms → DpAll K H vs (ms.map dM)
  | _, _, .nil => .nil
  | _, _, .cons h t => .cons (hm_dp h) (hall_dp t)
theorem hall_len {K : PySem.W.Frag} {H : Hp} : ∀ {vs : List V} {ms : List Mv}, HAll K H vs ms → vs.length = ms.length
  | _, _, .nil => rfl
  | _, _, .cons _ t => by rw [List.length_cons, List.length_cons, hall_len t]
theorem hall_at {K : PySem.W.Frag} {H : Hp} : ∀ {vs : List V} {ms : List Mv} {i : Nat} {v : V}, HAll K H vs ms → vs[i]? = some v → ∃ m, ms[i]? = some m ∧ HM K H v m
  | _, _, _, _, .nil, e => by simp at e
  | _, _, 0, _, .cons h _, e => ⟨_, rfl, by rw [← Option.some.inj e]; exact h⟩
  | _, _, i + 1, v, .cons _ t, e => by
    obtain ⟨d, h1, h2⟩ := hall_at (i := i) (v := v) t (by simpa using e)
    exact ⟨d, by simpa using h1, h2⟩
theorem hall_pairs {K : PySem.W.Frag} {H : Hp} : ∀ {A : List (Addr × Mv)}, (∀ p ∈ A, HM K H (.ref p.1) p.2) → HAll K H (A.map fun p => V.ref p.1) (A.map (·.2))
  | [], _ => .nil
  | p :: A, h => .cons (h p List.mem_cons_self) (hall_pairs fun q hq => h q (List.mem_cons_of_mem _ hq))
theorem hall_of {K : PySem.W.Frag} {H : Hp} {α : Type} {held : List α} : ∀ {ys : List V}, (∀ y ∈ ys, ∃ m : Mv, Gd held m ∧ HM K H y m) → ∃ ms : List Mv, (∀ m, m ∈ ms → Gd held m) ∧ HAll K H ys ms
  | [], _ => ⟨[], fun _ z => (nomatch z), .nil⟩
  | y :: ys, h => by
    obtain ⟨m, hm, e⟩ := h y List.mem_cons_self
    obtain ⟨ms, h2, e2⟩ := hall_of fun x hx => h x (List.mem_cons_of_mem _ hx)
    refine ⟨m :: ms, fun x hx => ?_, .cons e e2⟩
    rcases List.mem_cons.mp hx with q | q
    · rw [q]
      exact hm
    · exact h2 x q
def HMs (K : PySem.W.Frag) (H : Hp) (v : V) (ms : List Mv) : Prop := ∃ a xs, v = .ref a ∧ SqT K H a xs ∧ HAll K H xs ms
theorem hms_up {K : PySem.W.Frag} {H H' : Hp} (u : Up [] H H') {v : V} {ms : List Mv} (h : HMs K H v ms) : HMs K H' v ms := by
  obtain ⟨a, xs, e, h1, h2⟩ := h
  exact ⟨a, xs, e, sqt_up u h1, hall_up u h2⟩
theorem hms_dp {K : PySem.W.Frag} {H : Hp} {v : V} {ms : List Mv} (h : HMs K H v ms) : Dp K H v (.tuple (ms.map dM)) := by
  obtain ⟨a, xs, rfl, h1, h2⟩ := h
  exact .tup h1 (hall_dp h2)
theorem dp_newF {K : PySem.W.Frag} {L : List Addr} {H : Hp} {p : Addr} {ob : Obj} {xs : List V} {ds : List PyData} (t : Tr L H) (hp : H p = none) (h : DpAll K (Fz L H) xs ds) : Dp K (Fz L (upd H p (.frz ob (.tup xs)))) (.ref p) (.tuple ds) := by
  have hL := t.out hp
  rw [fz_new hL]
  refine .tup (sqt_frz upd_same) (dpa_up (Up.new ?_) h)
  rw [fz_out hL]
  exact hp
section
variable {X : Cx}
def rTupF (K : PySem.W.Frag) : List V → Hp → VK → Prop := fun xs H Q => ∃ p ys, xs = [.ref p] ∧ SqL K H p ys ∧ ∀ l ob, H l = none → ob.dict = none → Q (.ref l) (upd H l (.frz ob (.tup ys)))
theorem cr_tupF : CallR X (.type "tuple") (rTupF X.K) := by
  intro pins s σ H xs us Q I r h
  obtain ⟨p, ys, rfl, hq, q⟩ := h
  obtain ⟨u, rfl, rx⟩ := vals1 r
  cases rx
  obtain ⟨its, r', pl, hz⟩ := I.list hq
  have hlen := r'.length
  refine call_tuple_list pl.isList (fun h' kp => ?_) (by simp only [List.size_toArray] <;> omega)
  have I1 : Inv X pins σ H { s with heap := h' } := I.kept (t' := s.toks) kp
  have I2 : Inv X pins σ (upd H h'.objs.size (.frz { cls := .type "tuple", data := .seq its.toArray } (.tup ys))) { s with heap := h'.push { cls := .type "tuple", data := .seq its.toArray } } :=
    I1.laid (t' := s.toks) (fun b o e => Heap.get?_push_of_some _ e) (Nat.le_refl _) (show ObjOk X.prog X.w _ _ _ (.frz { cls := .type "tuple", data := .seq its.toArray } (.tup ys)) from ⟨Heap.get?_push_size _ rfl, hz, its, r', IsTup.new _ _⟩)
  exact ⟨.ref h'.objs.size, _, I2, rfl, q _ _ (I1.hok.fresh (Nat.le_refl _)) rfl⟩
def tTupRgF (te : L2.St → Hp → (Int → Int → Hp → Prop) → Prop) : TE := fun σ H Q => te σ H fun a b H1 => RgOk a b ∧ ∀ q ob, H1 q = none → ob.dict = none → Q (.ref q) (upd H1 q (.frz ob (.tup (rgV a b))))
theorem pe_tupRgF {e : Expr} {te : L2.St → Hp → (Int → Int → Hp → Prop) → Prop} {p pos : Pos} (hc : X.calm = true) (hg : Gl X "tuple") (hm : X.mg "tuple" = none) (he : PRg X e te) (na : starEach [e] X.env = (false, eval e X.env) :: starEach [] X.env := by rfl) : PE X (.Call (.Name "tuple" p) [e] [] pos) (tTupRgF te) := by
  refine ⟨fun pins s σ H Q I h => ?_⟩
  refine Call_ (ld_blt I hg hm boot_tuple (PyProof.Rows.callWith_type1 (args_cons (thn (he pins s σ H _ I h) fun x s1 ⟨r, a, b, t, u, v, H1, ex, hr, I1, ok, q⟩ => args_nil ?_) na) na))
  subst ex
  obtain ⟨b1, b2, b3, b4, b5⟩ := ok
  refine call_tuple_range (n := (b - a).toNat) (I1.ok.hd hc) hr (small_one b1 b2 b3 b4) (rangeSize_nat a b) b5 fun h' tk acc hk hi => ?_
  have I2 : Inv X pins σ H1 { s1 with heap := h', toks := tk } := I1.kept hk
  refine ⟨.ref h'.objs.size, upd H1 h'.objs.size (.frz { cls := .type "tuple", data := .seq acc } (.tup (rgV a b))), I2.laid (t' := tk) (fun c o e => Heap.get?_push_of_some _ e) (Nat.le_refl _) (show ObjOk X.prog X.w _ _ _ (.frz { cls := .type "tuple", data := .seq acc } (.tup (rgV a b))) from ⟨Heap.get?_push_size _ rfl, ?_, acc.toList, vals_rg hi, ?_⟩), rfl, q _ _ (I2.hok.fresh (Nat.le_refl _)) rfl⟩
  · rw [rgV_length, sizeLine_eq]
    omega
  · rw [Array.toArray_toList]
    exact IsTup.new _ _
/-- t.index(x), t such a tuple -/
def tTI (K : PySem.W.Frag) (to : TE) (t : TA) : TE := fun σ H Q => to σ H fun x H1 => Hd H1 x ∧ t σ H1 fun xs H2 => rTIndexV Int K x xs H2 Q
theorem pe_ti {o e : Expr} {to : TE} {t : TA} {apos cpos : Pos} (hu : X.A.units + 1 + PySem.W.Datum.depth Int < cLine) (ho : PE X o to) (ha : PA X [e] t)
    (hbase : attributeBase o "index" X.env (eval o X.env) = eval o X.env := by rfl)
    (hfew : ((backTo cpos (starEach [e] X.env)).all (fun x => !x.1) && (backToKw cpos (keywordEach [] X.env)).all (fun x => x.1.isSome)
      && decide ([e].length + ([] : List Keyword).length + (if ([] : List Keyword).isEmpty then 0 else 1) < 30)) = true := by rfl)
    (hline : (apos.endLine == cpos.line) = true := by rfl) (hs : starEach [e] X.env = (false, eval e X.env) :: starEach [] X.env := by rfl) :
    PE X (.Call (.Attribute o "index" apos) [e] [] cpos) (tTI X.K to t) := by
  refine ⟨fun pins s σ H Q I h => ?_⟩
  refine wpAny_Call_method_late hbase hfew hline rfl (thn (ho.run pins s σ H _ I h) fun v s1 ⟨x, H1, I1, r1, ty, q1⟩ => ?_)
  obtain ⟨a, ob, xs, rfl, hf, hdn⟩ := ty
  obtain rfl : v = Value.ref a := r1
  obtain ⟨g0, _, its, rv, o', g1, g2, n, g3⟩ := I1.hok a _ hf
  have eo : o' = ob := Option.some.inj (g1.symm.trans g0)
  subst eo
  refine ⟨"tuple", "tuple.index", PySem.F.plainAttrs_tuple, PySem.F.slot_tuple_index, PySem.F.type_tuple_index, ⟨o', g0, g2⟩, (fun b eb => ⟨o', by injection eb with eb; rw [← eb]; exact g0, hdn⟩), ?_⟩
  have hA := ha.run cpos pins s1 σ H1 _ I1 q1
  rw [hs] at hA ⊢
  refine Calls.callWith_builtin rfl (Calls.evalArgs_plain ?_)
  exact thn hA fun us s2 ⟨vs, H2, I2, r2, q2⟩ => mt_tindexV (α := Int) hu pins s2 σ H2 (.ref a) vs (.ref a) us Q I2 rfl r2 q2
end
end Kf
end

section
set_option Elab.async false
set_option linter.all false
set_option maxRecDepth 100000
set_option maxHeartbeats 4000000
/-! walks: a row moved, the group -/
namespace Kf
open PySem L2 PyProof.Rows
def spGrp (K : PySem.W.Frag) : Sp := fun vs H Q _ => ∃ (L : List Addr) (v : V) (g : Gr) (b : Bx), vs = [v, .str b.name] ∧ Tr L H ∧ Dp K (Fz L H) v (dG g) ∧ OkGear g ∧ b ∈ g.boxes ∧ ∀ u G H', Up [] H H' → HMs K (Fz L H') u G → IsG b.held b.moves G → Q u H'
theorem pick_get {xs : List V} {o : List Nat} {i k : Nat} (h : o[i]? = some k) : (pick xs o)[i]? = some (xs.getD k .non) := map_at h
theorem pick_take (xs : List V) (o : List Nat) (i : Nat) : pick xs (o.take i) = (pick xs o).take i := List.map_take
theorem pick_ints {a b : List Nat} (h : ∀ k, k ∈ b → k < a.length) : pick (a.map fun k : Nat => V.int (k : Int)) b = (comp a b).map fun k : Nat => V.int (k : Int) := by
  unfold pick comp
  rw [List.map_map]
  refine List.map_congr_left fun k hk => ?_
  have hl := h k hk
  show (a.map fun k : Nat => V.int (k : Int)).getD k .non = V.int ((a.getD k 0 : Nat) : Int)
  rw [List.getD_eq_getElem?_getD, List.getD_eq_getElem?_getD, List.getElem?_map, List.getElem?_eq_getElem hl]
  rfl
theorem dpa_pairs {K : PySem.W.Frag} {H : Hp} : ∀ {A : List (Addr × Mv)}, (∀ p ∈ A, Dp K H (.ref p.1) (dM p.2)) → DpAll K H (A.map fun p => V.ref p.1) ((A.map (·.2)).map dM)
  | [], _ => .nil
  | p :: A, h => .cons (h p List.mem_cons_self) (dpa_pairs fun q hq => h q (List.mem_cons_of_mem _ hq))
theorem dp_new {K : PySem.W.Frag} {L : List Addr} {H : Hp} {p : Addr} {xs : List V} {ds : List PyData} (t : Tr L H) (hp : H p = none) (h : DpAll K (Fz L H) xs ds) : Dp K (Fz L (upd H p (.tup xs))) (.ref p) (.tuple ds) := by
  have hL := t.out hp
  rw [fz_new hL]
  refine .tup (sqt_of upd_same) (dpa_up (Up.new ?_) h)
  rw [fz_out hL]
  exact hp
theorem dpa_ofO (K : PySem.W.Frag) (H : Hp) (o : List Nat) : DpAll K H (o.map fun k : Nat => V.int (k : Int)) (o.map fun k : Nat => .int (k : Int)) := dpa_of_ints (f := fun k : Nat => (k : Int)) o
theorem rgV_range (n : Nat) : rgV 0 (n : Int) = (List.range n).map fun k : Nat => V.int (k : Int) := by
  unfold rgV
  rw [Int.sub_zero, Int.toNat_natCast]
  refine List.map_congr_left fun k _ => ?_
  rw [Int.zero_add]
theorem rg_ok {n : Nat} (h : n ≤ 1000) : RgOk 0 (n : Int) := RgOk.of_le (Int.le_refl _) (by omega) (by decide) (by omega)
theorem Grp.perm {α : Type} {held : List α} {ms A B : List Mv} (G : Grp held ms A) (p : A.Perm B) : Grp held ms B := ⟨G.gd, (p.nodup_iff).mp G.nd, fun m => (p.mem_iff).symm.trans (G.mem m)⟩
section
variable {P : Program} {w : World} {K : PySem.W.Frag} {mg : Str → Option Value} {base : Heap} {f f0 f1 f2 f3 f4 f5 f6 f7 f8 f9 : Addr} {fd fd0 fd1 fd2 fd3 fd4 fd5 fd6 fd7 fd8 fd9 : FuncData}
theorem ok_moved (T : Txt K mg) (D : Df K mg "moved" sMoved ["row", "order"] f fd) : FnOk P w K mg base CX0 1 f fd ["row", "order"] (spMoved K) := by
  refine D.F.ok scMoved (fun vs H Q E h => ?_) (fun cdv A outer s H vs Q E hr h => ?_)
  · obtain ⟨a, xs, u, o, rfl, _⟩ := h
    rfl
  · obtain ⟨a, xs, u, o, rfl, ha, hu, hk, few, k⟩ := h
    obtain ⟨b, rfl, hb⟩ := dp_ord hu
    refine ⟨_, pss_one (ps_ret (pe_callTy cr_tupF (by rfl) T.tuple bt_tuple (pa_cons (pe_lc (own := [("k", 2)]) (g := gName 2) (tt := tYes) rfl scMoved.nd (pi_tup (pv 1)) (blkOk_by (N := nMoved) (sc := defScope sMoved) (by decide +kernel)) (fun _ _ _ _ _ => pg_name (i := 2) scMoved.nd rfl (Or.inl rfl)) (fun _ _ _ _ _ => pts_nil)
      (fun _ _ _ _ _ => pe_ix (r := rIxT K) ix_tup (pv 0) (pv 2) (fun _ _ => rfl))) pa_nil))), ?_⟩
    refine ⟨_, rfl, b, rfl, ⟨_, hb⟩, fun D hD => ?_⟩
    refine lc_tup (K := K) (a := b) (xs := o.map fun k : Nat => V.int (k : Int)) (fun i H' => Up [D] H H' ∧ H' D = some (.lst (pick xs (o.take i)))) ⟨Up.new hD, by rw [upd_same, List.take_zero]; rfl⟩ (fun i H' _ ⟨u, _⟩ => sqt_up (u.drop hD) hb) ?_ ?_
    · rintro i x H' hx ⟨u, hl⟩
      obtain ⟨j, hj, rfl⟩ := map_some hx
      have lt := hk j (List.mem_of_getElem? hj)
      have hi : i < o.length := (List.getElem?_eq_some_iff.mp hj).1
      refine ⟨rfl, yesT ⟨_, rfl, _, rfl, a, xs, (j : Int), xs[j], rfl, rfl, sqt_up (u.drop hD) ha, atI_nat (List.getElem?_eq_getElem lt), _, hl, ?_, u.trans (Up.put List.mem_cons_self), ?_⟩⟩
      · show ((o.take i).map _).length < sizeLine
        rw [List.length_map, List.length_take]
        exact Nat.lt_of_le_of_lt (show min i o.length ≤ 1000 by omega) (by decide)
      · rw [upd_same, take_at hj]
        unfold pick
        rw [List.map_append, List.map_cons, List.map_nil, List.getD_eq_getElem?_getD, List.getElem?_eq_getElem lt]
        rfl
    · rintro H' ⟨u, hl⟩
      rw [List.length_map, List.take_length] at hl
      refine ⟨D, _, rfl, sql_of hl, fun l ob hl2 hob => ?_⟩
      exact k l ob _ ((u.drop hD).trans (Up.new hl2)) ((u.drop hD).free hl2) hob upd_same
end
/-- the search for all that comes of a box's moves -/
structure Bfs (K : PySem.W.Frag) (P : Program) (w : World) (L : List Addr) (H : Hp) (fd wa : Addr) (held : List Slt) (ms : List Mv) (H' : Hp) (Lf Lw : List (Addr × Mv)) : Prop where
  up : Up [] H H'
  tr : Tr (fd :: wa :: L) H'
  hf : H' fd = some (DictNO P w fd Lf)
  hw : H' wa = some (.lst (Lw.map fun p => V.ref p.1))
  dat : ∀ p ∈ Lf, Dp K (Fz (fd :: wa :: L) H') (.ref p.1) (dM p.2)
  hrd : ∀ p ∈ Lf, HM K (Fz (fd :: wa :: L) H') (.ref p.1) p.2
  nd : (Lf.map (·.2)).Nodup
  gen : ∀ m ∈ Lf.map (·.2), Gen held.length ms m
  one : one held.length ∈ Lf.map (·.2)
  sub : ∀ p ∈ Lw, p ∈ Lf
  ndW : (Lw.map (·.2)).Nodup
section
variable {K : PySem.W.Frag} {P : Program} {w : World} {L : List Addr} {H H' H2 : Hp} {fd wa : Addr} {held : List Slt} {ms : List Mv} {Lf Lw : List (Addr × Mv)}
theorem Bfs.few (B : Bfs K P w L H fd wa held ms H' Lf Lw) (h4 : held.length ≤ 4) (gd : ∀ m, m ∈ ms → Gd held m) : Lf.length ≤ 48 := by
  have := moves_le h4 B.nd fun m hm => gen_gd gd (B.gen m hm)
  rw [List.length_map] at this
  exact this
theorem Bfs.fewW (B : Bfs K P w L H fd wa held ms H' Lf Lw) : Lw.length ≤ Lf.length := by
  have := len_le B.ndW (m := Lf.map (·.2)) fun x hx => by
    obtain ⟨p, hp, rfl⟩ := List.mem_map.mp hx
    exact List.mem_map.mpr ⟨p, B.sub p hp, rfl⟩
  rw [List.length_map, List.length_map] at this
  exact this
theorem Bfs.gw (B : Bfs K P w L H fd wa held ms H' Lf Lw) (h1 : H fd = none) (h2 : H wa = none) : Up [] (Fz L H) (Fz (fd :: wa :: L) H') := B.up.all.gw fun x hx => by
  rcases List.mem_cons.mp hx with q | hx
  · exact .inr (by rw [q]; exact h1)
  rcases List.mem_cons.mp hx with q | hx
  · exact .inr (by rw [q]; exact h2)
  · exact .inl hx
/-- what is laid anew is no matter -/
theorem Bfs.on (B : Bfs K P w L H fd wa held ms H' Lf Lw) (u : Up [] H' H2) : Bfs K P w L H fd wa held ms H2 Lf Lw :=
  ⟨B.up.trans u, B.tr.up u, u.at B.hf, u.at B.hw, fun p hp => dp_up u.all.fz (B.dat p hp), fun p hp => hm_up u.all.fz (B.hrd p hp), B.nd, B.gen, B.one, B.sub, B.ndW⟩
theorem Bfs.ne (B : Bfs K P w L H fd wa held ms H' Lf Lw) : fd ≠ wa := fun e => by
  have h1 := B.hf
  rw [e, B.hw] at h1
  cases h1
/-- one is taken from those that wait -/
theorem Bfs.take {Lv : List (Addr × Mv)} {p : Addr × Mv} (B : Bfs K P w L H fd wa held ms H' Lf (Lv ++ [p])) (hn : H wa = none) : Bfs K P w L H fd wa held ms (upd H' wa (.lst (Lv.map fun p => V.ref p.1))) Lf Lv := by
  have up2 : Up [wa] H' (upd H' wa (.lst (Lv.map fun p => V.ref p.1))) := Up.put List.mem_cons_self
  refine ⟨(B.up.all.trans up2).drop hn, B.tr.up up2, ?_, upd_same, fun q hq => ?_, fun q hq => ?_, B.nd, B.gen, B.one, fun q hq => B.sub q (List.mem_append_left _ hq), ?_⟩
  · rw [upd_ne B.ne]
    exact B.hf
  · rw [fz_put (List.mem_cons_of_mem _ List.mem_cons_self)]
    exact B.dat q hq
  · rw [fz_put (List.mem_cons_of_mem _ List.mem_cons_self)]
    exact B.hrd q hq
  · have := B.ndW
    rw [List.map_append] at this
    exact (List.nodup_append.mp this).1
/-- a new one is found -/
theorem Bfs.add {a : Addr} {m : Mv} (B : Bfs K P w L H fd wa held ms H' Lf Lw) (h1 : H fd = none) (h2 : H wa = none) (ha : Dp K (Fz (fd :: wa :: L) H') (.ref a) (dM m)) (hh : HM K (Fz (fd :: wa :: L) H') (.ref a) m) (hm : m ∉ Lf.map (·.2)) (hg : Gen held.length ms m) :
    Bfs K P w L H fd wa held ms (upd (upd H' fd (DictNO P w fd (Lf ++ [(a, m)]))) wa (.lst (Lw.map (fun p => V.ref p.1) ++ [.ref a]))) (Lf ++ [(a, m)]) (Lw ++ [(a, m)]) := by
  have u1 : Up [fd, wa] H' (upd H' fd (DictNO P w fd (Lf ++ [(a, m)]))) := Up.put List.mem_cons_self
  have u2 : Up [fd, wa] (upd H' fd (DictNO P w fd (Lf ++ [(a, m)]))) (upd (upd H' fd (DictNO P w fd (Lf ++ [(a, m)]))) wa (.lst (Lw.map (fun p => V.ref p.1) ++ [.ref a]))) := Up.put (List.mem_cons_of_mem _ List.mem_cons_self)
  have e1 : (Lf ++ [(a, m)]).map (·.2) = Lf.map (·.2) ++ [m] := by rw [List.map_append]; rfl
  have e2 : (Lw ++ [(a, m)]).map (·.2) = Lw.map (·.2) ++ [m] := by rw [List.map_append]; rfl
  refine ⟨((B.up.all.trans (u1.trans u2)).drop h1).drop h2, (B.tr.up u1).up u2, ?_, ?_, fun q hq => ?_, fun q hq => ?_, ?_, fun x hx => ?_, ?_, fun q hq => ?_, ?_⟩
  · rw [upd_ne B.ne, upd_same]
  · rw [upd_same, List.map_append]
    rfl
  · rw [fz_put (List.mem_cons_of_mem _ List.mem_cons_self), fz_put List.mem_cons_self]
    rcases List.mem_append.mp hq with q1 | q1
    · exact B.dat q q1
    · rw [List.mem_singleton.mp q1]
      exact ha
  · rw [fz_put (List.mem_cons_of_mem _ List.mem_cons_self), fz_put List.mem_cons_self]
    rcases List.mem_append.mp hq with q1 | q1
    · exact B.hrd q q1
    · rw [List.mem_singleton.mp q1]
      exact hh
  · rw [e1]
    refine List.nodup_append.mpr ⟨B.nd, (by simp), fun x hx y hy e => ?_⟩
    rw [e, List.mem_singleton.mp hy] at hx
    exact hm hx
  · rw [e1] at hx
    rcases List.mem_append.mp hx with q | q
    · exact B.gen x q
    · rw [List.mem_singleton.mp q]
      exact hg
  · rw [e1]
    exact List.mem_append_left _ B.one
  · rcases List.mem_append.mp hq with q1 | q1
    · exact List.mem_append_left _ (B.sub q q1)
    · exact List.mem_append_right _ q1
  · rw [e2]
    refine List.nodup_append.mpr ⟨B.ndW, (by simp), fun x hx y hy e => ?_⟩
    rw [e, List.mem_singleton.mp hy] at hx
    obtain ⟨p, hp, e3⟩ := List.mem_map.mp hx
    exact hm (List.mem_map.mpr ⟨p, B.sub p hp, e3⟩)
/-- no one waits -/
theorem Bfs.done (B : Bfs K P w L H fd wa held ms H' Lf []) (gd : ∀ m, m ∈ ms → Gd held m) (cl : ∀ m ∈ Lf.map (·.2), ∀ s ∈ ms, mul m s ∈ Lf.map (·.2)) : Grp held ms (Lf.map (·.2)) := by
  refine ⟨gd, B.nd, fun m => ⟨B.gen m, fun g => ?_⟩⟩
  induction g with
  | one => exact B.one
  | step _ hs ih => exact cl _ ih _ hs
end
end Kf
end

section
set_option Elab.async false
set_option linter.all false
set_option maxRecDepth 100000
set_option maxHeartbeats 4000000
/-! walks: the group -/
namespace Kf
open PySem L2 PyProof.Rows
theorem iteDF {p A B : Prop} [Decidable p] (h : ¬ p) (b : B) : if decide p = true then A else B := by
  rw [decide_eq_false h]
  exact iteF b
theorem iteNT {p A B : Prop} [Decidable p] (h : ¬ p) (a : A) : if (!decide p) = true then A else B := by
  rw [decide_eq_false h]
  exact iteT a
section
variable {P : Program} {w : World} {K : PySem.W.Frag} {mg : Str → Option Value} {base : Heap} {f f0 f1 f2 f3 f4 f5 f6 f7 f8 f9 : Addr} {fd fd0 fd1 fd2 fd3 fd4 fd5 fd6 fd7 fd8 fd9 : FuncData}
theorem ok_grp (T : Txt K mg) (D0 : Df K mg "own_box_of" sBoxOf ["gear", "box"] f0 fd0) (D1 : Df K mg "moved" sMoved ["row", "order"] f1 fd1) (D : Df K mg "own_group" sGrp ["gear", "box"] f fd) : FnOk P w K mg base CX0 2 f fd ["gear", "box"] (spGrp K) := by
  have G0 : FnOk P w K mg base CX0 1 f0 fd0 _ (spBoxOf K) := ok_boxOf T D0
  have G1 : FnOk P w K mg base CX0 1 f1 fd1 _ (spMoved K) := ok_moved T D1
  refine D.F.ok scGrp (fun vs H Q E h => ?_) (fun cdv A outer s H vs Q E hr h => ?_)
  · obtain ⟨L, v, g, b, rfl, _⟩ := h
    rfl
  · obtain ⟨L, v, g, b, rfl, tr, hd, ok, hb, k⟩ := h
    have okb := ok.boxes b hb
    obtain ⟨ab0, xs0, rfl, _, _⟩ := dp_tuple hd
    have h4 := okb.few
    have h3 := okb.fewM
    refine ⟨_, pss_cons (ps_asg (pe_cd D0 G0 hr (by rfl) (pa_cons (pv 0) (pa_cons (pv 1) pa_nil))) (pg_tri (i := 2) (j := 3) (l := 4) rfl scGrp.nd rfl rfl rfl (Or.inl rfl) (Or.inl rfl) (Or.inl rfl) (Or.inl rfl) (Or.inl rfl) (Or.inl rfl)))
      (pss_cons (ps_set (i := 5) scGrp.nd rfl (Or.inl rfl) (pe_tup (pa_cons (pe_tupRgF rfl (by rfl) T.tuple (prg_1 (by rfl) T.range (pe_callB cr_len (by rfl) T.len bt_len (pa_cons (pv 3) pa_nil)))) (pa_cons pe_int pa_nil))))
      (pss_cons (ps_par (i := 6) (j := 7) rfl scGrp.nd rfl rfl (by decide) rfl rfl (pa_cons (pe_disp1 hr.units (pv 5)) (pa_cons (pe_lst (pa_cons (pv 5) pa_nil)) pa_nil)) rfl)
      (pss_cons (ps_while PassesOwn.never (pt_cmpR (op_neV (α := List Mv) (huV0 hr (by decide))) (pv 7) (pe_lst pa_nil) (nomark _))
        (pss_cons (ps_asg (pe_bm0 PySem.F.plainAttrs_list PySem.F.slot_list_pop PySem.F.type_list_pop mt_pop (pv 7)) (pg_pair (i := 8) (j := 9) rfl scGrp.nd rfl rfl (Or.inl rfl) (Or.inl rfl) (Or.inl rfl) (Or.inl rfl)))
        (pss_one (ps_for PassesOwn.never rfl (pi_tup (pv 4)) (pg_pair (i := 10) (j := 11) rfl scGrp.nd rfl rfl (Or.inl rfl) (Or.inl rfl) (Or.inl rfl) (Or.inl rfl))
          (pss_cons (ps_set (i := 12) scGrp.nd rfl (Or.inl rfl) (pe_tup (pa_cons (pe_cd D1 G1 hr (by rfl) (pa_cons (pv 8) (pa_cons (pv 10) pa_nil))) (pa_cons (pe_op op_mul (pv 9) (pv 11)) pa_nil))))
          (pss_one (ps_if (pt_cmpR (op_notInN hr.units) (pv 12) (pv 6) (by rfl))
            (pss_cons (ps_asg pe_bl (pg_sub (pv 6) (pv 12) (set_new hr.units)))
              (pss_one (ps_expr (pe_bm PySem.F.plainAttrs_list PySem.F.slot_list_append PySem.F.type_list_append mt_append (pv 7) (pa_cons (pv 12) pa_nil)))))
            pss_nil))))))) 
      (pss_one (ps_ret (pe_callTy call_tuple_of (by rfl) T.tuple bt_tuple (pa_cons (pe_callB (cr_sortDN rfl hr.units) (by rfl) T.sorted bt_sorted (pa_cons (pv 6) pa_nil)) pa_nil))))))), ?_⟩
    refine ⟨_, rfl, _, rfl, L, _, g, b, rfl, tr, hd, ok, hb, fun u hu => ?_⟩
    obtain ⟨ab, uh, um, rfl, hab, hh, hm⟩ := dp_box hu
    obtain ⟨ah, hs, rfl, hhs, hhd⟩ := dp_tuple hh
    obtain ⟨am, zs, rfl, hzs, hzd⟩ := dp_tuple hm
    have nh : hs.length = b.held.length := by rw [dpa_len hhd, List.length_map]
    have nz : zs.length = b.moves.length := by rw [dpa_len hzd, List.length_map]
    refine ⟨ab, _, _, _, rfl, sqt_up fz_le hab, ?_⟩
    refine ⟨_, rfl, ah, hs, rfl, .inr (sqt_up fz_le hhs), _, rfl, rg_ok (by rw [nh]; omega), fun q ob hq hob => ⟨by show 2 ≤ sizeLine; decide, fun p hp => ?_⟩⟩
    have d1 : Dp K (Fz L (upd H q (.frz ob (.tup (rgV 0 (hs.length : Int)))))) (.ref q) (dO (List.range b.held.length)) := by
      rw [nh, rgV_range]
      exact dp_newF tr hq (dpa_ofO _ _ _)
    have tr1 : Tr L (upd H q (.frz ob (.tup (rgV 0 (hs.length : Int))))) := tr.up (Up.new (L := []) hq)
    have d1q : Hd (Fz L (upd H q (.frz ob (.tup (rgV 0 (hs.length : Int)))))) (.ref q) := ⟨q, ob, _, rfl, by rw [fz_out (tr.out hq)]; exact upd_same, hob⟩
    generalize hH1 : upd H q (.frz ob (.tup (rgV 0 (hs.length : Int)))) = H1 at hp d1 d1q tr1 ⊢
    have u1 : Up [] H H1 := by rw [← hH1]; exact Up.new hq
    have d2 : Dp K (Fz L (upd H1 p (.tup [.ref q, .int 1]))) (.ref p) (dM (one b.held.length)) := dp_new tr1 hp (.cons d1 (.cons (.int 1) .nil))
    have hm2 : HM K (Fz L (upd H1 p (.tup [.ref q, .int 1]))) (.ref p) (one b.held.length) := by
      refine ⟨p, .ref q, rfl, sqt_of ?_, dp_up (Up.new hp).fz d1, hd_up (Up.new hp).fz d1q⟩
      rw [fz_out (tr1.out hp)]
      exact upd_same
    have tr2 : Tr L (upd H1 p (.tup [.ref q, .int 1])) := tr1.up (Up.new (L := []) hp)
    have u2 : Up [] H (upd H1 p (.tup [.ref q, .int 1])) := u1.trans (Up.new hp)
    generalize hH2 : upd H1 p (.tup [.ref q, .int 1]) = H2 at d2 hm2 tr2 u2
    refine fun fA hf => ⟨_, rfl, p, one b.held.length, rfl, upd_same, dp_up (Up.new hf) (dp_up fz_le d2), _, rfl, (by show 1 ≤ sizeLine; decide), fun wA hw => ⟨_, _, rfl, ?_⟩⟩
    have uA : Up [fA] H2 (upd (upd (upd H2 fA (.dK [])) fA (DictNO P w fA [(p, one b.held.length)])) wA (.lst [.ref p])) := (Up.new hf).trans ((Up.put List.mem_cons_self).trans (Up.new hw))
    have uB := uA.drop hf
    have hw2 : H2 wA = none := ((Up.new hf).trans (Up.put (L := [fA]) List.mem_cons_self)).free hw
    have nfw : fA ≠ wA := fun e => by
      rw [← e, upd_same] at hw
      cases hw
    have gwB : Up [] (Fz L H2) (Fz (fA :: wA :: L) (upd (upd (upd H2 fA (.dK [])) fA (DictNO P w fA [(p, one b.held.length)])) wA (.lst [.ref p]))) := uB.all.gw fun y hy => by
      rcases List.mem_cons.mp hy with e | hy
      · exact .inr (by rw [e]; exact hf)
      rcases List.mem_cons.mp hy with e | hy
      · exact .inr (by rw [e]; exact hw2)
      · exact .inl hy
    have B0 : Bfs K P w L H fA wA b.held b.moves (upd (upd (upd H2 fA (.dK [])) fA (DictNO P w fA [(p, one b.held.length)])) wA (.lst [.ref p])) [(p, one b.held.length)] [(p, one b.held.length)] := by
      refine ⟨u2.trans uB, ?_, ?_, upd_same, fun x hx => ?_, fun x hx => ?_, by simp, fun x hx => ?_, List.mem_cons_self, fun x hx => hx, by simp⟩
      · refine (((tr2.up uB).cons (p := wA) (o := .lst [.ref p]) upd_same).cons (p := fA) (o := DictNO P w fA [(p, one b.held.length)]) ?_)
        rw [upd_ne nfw, upd_same]
      · rw [upd_ne nfw, upd_same]
      · rw [List.mem_singleton.mp hx]
        exact dp_up gwB d2
      · rw [List.mem_singleton.mp hx]
        exact hm_up gwB hm2
      · have e : x = one b.held.length := List.mem_singleton.mp hx
        rw [e]
        exact .one
    have gd := okb.moves
    have fH : H fA = none := u2.free hf
    have wH : H wA = none := u2.free hw2
    refine ⟨fun m σ H' => ∃ (Lf Lw : List (Addr × Mv)) (c8 c9 c10 c11 c12 : Option V), σ = [some (.ref ab0), some (.str b.name), some (.str b.name), some (.ref ah), some (.ref am), some (.ref p), some (.ref fA), some (.ref wA), c8, c9, c10, c11, c12] ∧ Bfs K P w L H fA wA b.held b.moves H' Lf Lw ∧
      (∀ x ∈ Lf.map (·.2), x ∈ Lw.map (·.2) ∨ ∀ z ∈ b.moves, mul x z ∈ Lf.map (·.2)) ∧ m = 2 * (48 - Lf.length) + Lw.length, ⟨_, _, _, _, _, _, _, _, rfl, B0, fun x hx => .inl hx, rfl⟩, ?_⟩
    rintro m σ H4 ⟨Lf, Lw, c8, c9, c10, c11, c12, rfl, B, cl, em⟩
    have nf := B.few h4 gd
    have nw := B.fewW
    refine ⟨_, rfl, Nat.zero_le _, fun e he => ?_⟩
    have B1 := B.on (Up.new (o := .lst []) he)
    have he5 : upd H4 e (.lst []) e = some (.lst []) := upd_same
    generalize upd H4 e (.lst []) = H5 at B1 he5 ⊢
    have hv1 : Hv (α := List Mv) K H5 (.ref wA) (Lw.map (·.2)) := .lst (sql_of B1.hw) (dpa_pairs fun x hx => dp_up fz_le (B1.dat x (B1.sub x hx)))
    have hv2 : Hv (α := List Mv) K H5 (.ref e) [] := .lst (sql_of he5) .nil
    refine ⟨_, _, hv1, hv2, _, rfl, ?_⟩
    rcases List.eq_nil_or_concat Lw with hl | ⟨Lv, pr, hl⟩
    · subst hl
      refine iteDF (fun z => z rfl) ?_
      have G : Grp b.held b.moves (Lf.map (·.2)) := B1.done gd fun x hx z hz => (cl x hx).elim (fun y => nomatch y) fun y => y z hz
      refine ⟨_, rfl, fA, Lf, rfl, B1.hf, fun x hx => dp_up fz_le (B1.dat x hx), by omega, fun L1 pp hpm hpp => ?_⟩
      refine ⟨pp, _, rfl, .inl ⟨sql_of upd_same, fun q2 hq2 => ?_⟩⟩
      have w1 : Up [] H5 (upd H5 pp (.lst ((riseA L1).map fun q => V.ref q.1))) := Up.new hpp
      have w2 : Up [] (upd H5 pp (.lst ((riseA L1).map fun q => V.ref q.1))) (upd (upd H5 pp (.lst ((riseA L1).map fun q => V.ref q.1))) q2 (.tup ((riseA L1).map fun q => V.ref q.1))) := Up.new hq2
      have tr5 : Tr L (upd H5 pp (.lst ((riseA L1).map fun q => V.ref q.1))) := (B1.tr.up w1).sub fun x hx => List.mem_cons_of_mem _ (List.mem_cons_of_mem _ hx)
      have eR : (riseA L1).map (·.2) = rise (L1.map (·.2)) := riseA_map L1
      refine k _ (rise (L1.map (·.2))) _ ((B1.up.trans w1).trans w2) ?_ ⟨G.perm ((hpm.map _).symm.trans (rise_perm _).symm), rise_rise _⟩
      rw [← eR]
      refine ⟨q2, _, rfl, sqt_of (by rw [fz_out (tr5.out hq2)]; exact upd_same), hall_pairs fun y hy => ?_⟩
      have hy2 : y ∈ Lf := (hpm.mem_iff).mp ((riseA_perm L1).mem_iff.mp hy)
      exact hm_up w2.all.fz (hm_up (fz_sub fun y hy => List.mem_cons_of_mem _ (List.mem_cons_of_mem _ hy)) (hm_up w1.all.fz (B1.hrd y hy2)))
    · rw [List.concat_eq_append] at hl
      subst hl
      refine iteD (by simp) ⟨_, fun _ _ z => z, ?_⟩
      have eD : ((Lv ++ [pr]).map fun p => V.ref p.1).dropLast = Lv.map fun p => V.ref p.1 := by simp
      have eL : ((Lv ++ [pr]).map fun p => V.ref p.1)[((Lv ++ [pr]).map fun p => V.ref p.1).length - 1]? = some (V.ref pr.1) := by simp
      have B2 := B1.take wH
      rw [← eD] at B2
      refine ⟨_, rfl, .inl ⟨rfl, _, sql_of B1.hw⟩, wA, _, .ref pr.1, rfl, rfl, B1.hw, eL, ?_⟩
      generalize upd H5 wA (.lst (((Lv ++ [pr]).map fun p => V.ref p.1).dropLast)) = H6 at B2 ⊢
      have hpr : pr ∈ Lf := B.sub pr (List.mem_append_right _ List.mem_cons_self)
      have gpr : Gen b.held.length b.moves pr.2 := B.gen _ (List.mem_map.mpr ⟨pr, hpr, rfl⟩)
      have okpr := gen_gd gd gpr
      obtain ⟨apr, uo, epr, hpq, hpo⟩ := dp_move (B2.dat pr hpr)
      injection epr with epr
      subst epr
      refine ⟨pr.1, _, _, rfl, sqt_up fz_le hpq, ?_⟩
      obtain ⟨ao, rfl, hao⟩ := dp_ord hpo
      have hzs6 := sqt_up (B2.gw fH wH) hzs
      refine ⟨_, rfl, am, rfl, ⟨_, sqt_up fz_le hzs6⟩, ?_⟩
      refine for_tup (K := K) (a := am) (xs := zs) (fun i σ H' => ∃ (Lf' Lv' : List (Addr × Mv)) (c10 c11 c12 : Option V), σ = [some (.ref ab0), some (.str b.name), some (.str b.name), some (.ref ah), some (.ref am), some (.ref p), some (.ref fA), some (.ref wA), some (.ref ao), some (.int pr.2.2), c10, c11, c12] ∧
        Bfs K P w L H fA wA b.held b.moves H' Lf' Lv' ∧ (∀ x ∈ Lf'.map (·.2), x ∈ Lv'.map (·.2) ∨ x = pr.2 ∨ ∀ z ∈ b.moves, mul x z ∈ Lf'.map (·.2)) ∧ (∀ (j : Nat) z, j < i → b.moves[j]? = some z → mul pr.2 z ∈ Lf'.map (·.2)) ∧
        2 * (48 - Lf'.length) + Lv'.length < m ∧ Up [] (Fz (fA :: wA :: L) H6) (Fz (fA :: wA :: L) H')) ?_ ?_ ?_ ?_
      · refine ⟨Lf, Lv, _, _, _, rfl, B2, fun x hx => ?_, fun j z q => absurd q (Nat.not_lt_zero _), ?_, Up.refl⟩
        · rcases cl x hx with q | q
          · rw [List.map_append] at q
            rcases List.mem_append.mp q with q | q
            · exact .inl q
            · exact .inr (.inl (List.mem_singleton.mp q))
          · exact .inr (.inr q)
        · rw [em, List.length_append]
          show _ < 2 * (48 - Lf.length) + (Lv.length + 1)
          omega
      · rintro i σ H' _ ⟨_, _, _, _, _, _, _, _, _, _, u⟩
        exact sqt_up fz_le (sqt_up u hzs6)
      · rintro i x σ H' hx ⟨Lf', Lv', c10, c11, c12, rfl, B', cl', part, lt, u⟩
        obtain ⟨z, hz, hxz⟩ := dpa_map hzd hx
        have hzm : z ∈ b.moves := List.mem_of_getElem? hz
        have okz := gd z hzm
        obtain ⟨az, uz, rfl, hzq, hzo⟩ := dp_move (dp_up (B'.gw fH wH) hxz)
        have hao' : SqT K H' ao (pr.2.1.map fun k : Nat => V.int (k : Int)) := sqt_up fz_le (sqt_up u hao)
        refine ⟨az, _, _, rfl, sqt_up fz_le hzq, ?_⟩
        have lz : ∀ k, k ∈ z.1 → k < pr.2.1.length := fun k hk => by
          rw [okpr.1.len]
          exact okz.1.lt k hk
        refine ⟨_, rfl, _, rfl, ao, _, uz, z.1, rfl, hao', dp_up fz_le hzo, (fun k hk => by rw [List.length_map]; exact lz k hk), (by rw [okz.1.len]; omega), fun pp ob7 H7 u7 hpp hob7 e7 => ?_⟩
        have sgp : -(2 ^ 64) < pr.2.2 ∧ pr.2.2 < 2 ^ 64 := by rcases okpr.2 with q | q <;> rw [q] <;> decide
        refine ⟨_, rfl, _, rfl, _, _, rfl, rfl, .inl sgp, by show 2 ≤ sizeLine; decide, fun r hr => ?_⟩
        have tr7 := B'.tr.up u7
        have d7 : Dp K (Fz (fA :: wA :: L) H7) (.ref pp) (dO (comp pr.2.1 z.1)) := by
          rw [pick_ints lz] at e7
          refine .tup (xs := (comp pr.2.1 z.1).map fun k : Nat => V.int (k : Int)) (sqt_frz (ob := ob7) ?_) (dpa_ofO _ _ _)
          rw [fz_out (B'.tr.out hpp)]
          exact e7
        have d8 : Dp K (Fz (fA :: wA :: L) (upd H7 r (.tup [.ref pp, .int (pr.2.2 * z.2)]))) (.ref r) (dM (mul pr.2 z)) := dp_new tr7 hr (.cons d7 (.cons (.int _) .nil))
        have h7 : Hd (Fz (fA :: wA :: L) H7) (.ref pp) := ⟨pp, ob7, _, rfl, by rw [fz_out (B'.tr.out hpp)]; exact e7, hob7⟩
        have h8 : HM K (Fz (fA :: wA :: L) (upd H7 r (.tup [.ref pp, .int (pr.2.2 * z.2)]))) (.ref r) (mul pr.2 z) := by
          refine ⟨r, .ref pp, rfl, sqt_of ?_, dp_up (Up.new hr).fz d7, hd_up (Up.new hr).fz h7⟩
          rw [fz_out (tr7.out hr)]
          exact upd_same
        have u8 : Up [] H' (upd H7 r (.tup [.ref pp, .int (pr.2.2 * z.2)])) := u7.trans (Up.new hr)
        have B8 := B'.on u8
        have u9 : Up [] (Fz (fA :: wA :: L) H6) (Fz (fA :: wA :: L) (upd H7 r (.tup [.ref pp, .int (pr.2.2 * z.2)]))) := u.trans u8.all.fz
        have e78 : (upd H7 r (.tup [.ref pp, (fun i j => V.int (i * j)) pr.2.2 z.2])) = upd H7 r (.tup [.ref pp, .int (pr.2.2 * z.2)]) := rfl
        refine ⟨_, rfl, _, rfl, r, fA, mul pr.2 z, Lf', rfl, rfl, B8.hf, fun q hq => dp_up fz_le (B8.dat q hq), dp_up fz_le d8, _, rfl, ?_⟩
        by_cases hin : mul pr.2 z ∈ Lf'.map (·.2)
        · refine iteND hin ?_
          refine ⟨Lf', Lv', _, _, _, rfl, B8, cl', fun j z' hj hz' => ?_, lt, u9⟩
          rcases Nat.lt_succ_iff_lt_or_eq.mp hj with q | q
          · exact part j z' q hz'
          · subst q
            rw [hz] at hz'
            rw [← Option.some.inj hz']
            exact hin
        · refine iteNT hin ?_
          have nf' := B'.few h4 gd
          have nw' := B'.fewW
          have gz : Gen b.held.length b.moves (mul pr.2 z) := .step gpr hzm
          have B9 := B8.add (a := r) fH wH d8 h8 hin gz
          have nfw' := B8.ne
          refine ⟨_, rfl, _, rfl, r, fA, mul pr.2 z, Lf', rfl, rfl, rfl, B8.hf, fun q hq => dp_up fz_le (B8.dat q hq), dp_up fz_le d8, hin, by omega, ?_⟩
          refine ⟨_, rfl, .inl ⟨rfl, _, sql_of ((upd_ne nfw'.symm).trans B8.hw)⟩, _, rfl, wA, _, _, rfl, rfl, (upd_ne nfw'.symm).trans B8.hw, ?_, ?_⟩
          · rw [List.length_map]
            exact Nat.lt_of_le_of_lt (show Lv'.length ≤ 1000 by omega) (by decide)
          · have nf9 := B9.few h4 gd
            rw [List.length_append] at nf9
            have nf10 : Lf'.length + 1 ≤ 48 := nf9
            refine ⟨_, _, _, _, _, rfl, B9, fun x hx => ?_, fun j z' hj hz' => ?_, ?_, ?_⟩
            · have e1 : (Lf' ++ [(r, mul pr.2 z)]).map (·.2) = Lf'.map (·.2) ++ [mul pr.2 z] := by rw [List.map_append]; rfl
              have e2 : (Lv' ++ [(r, mul pr.2 z)]).map (·.2) = Lv'.map (·.2) ++ [mul pr.2 z] := by rw [List.map_append]; rfl
              rw [e1] at hx ⊢
              rw [e2]
              rcases List.mem_append.mp hx with q | q
              · rcases cl' x q with q | q | q
                · exact .inl (List.mem_append_left _ q)
                · exact .inr (.inl q)
                · exact .inr (.inr fun z' hz' => List.mem_append_left _ (q z' hz'))
              · exact .inl (List.mem_append_right _ q)
            · have e1 : (Lf' ++ [(r, mul pr.2 z)]).map (·.2) = Lf'.map (·.2) ++ [mul pr.2 z] := by rw [List.map_append]; rfl
              rw [e1]
              rcases Nat.lt_succ_iff_lt_or_eq.mp hj with q | q
              · exact List.mem_append_left _ (part j z' q hz')
              · subst q
                rw [hz] at hz'
                rw [← Option.some.inj hz']
                exact List.mem_append_right _ List.mem_cons_self
            · rw [List.length_append, List.length_append]
              show 2 * (48 - (Lf'.length + 1)) + (Lv'.length + 1) < m
              omega
            · rw [fz_put (List.mem_cons_of_mem _ List.mem_cons_self), fz_put List.mem_cons_self]
              exact u9
      · rintro σ H' ⟨Lf', Lv', c10, c11, c12, rfl, B', cl', part, lt, u⟩
        refine ⟨_, lt, Lf', Lv', _, _, _, _, _, rfl, B', fun x hx => ?_, rfl⟩
        rcases cl' x hx with q | q | q
        · exact .inl q
        · refine .inr fun z hz => ?_
          obtain ⟨j, hj⟩ := List.getElem?_of_mem hz
          rw [q]
          exact part j z (by rw [nz]; exact (List.getElem?_eq_some_iff.mp hj).1) hj
        · exact .inr q
end
end Kf
end

section
set_option Elab.async false
set_option linter.all false
set_option maxRecDepth 100000
set_option maxHeartbeats 4000000
/-! walks: the draws -/
namespace Kf
open PySem L2 PyProof.Rows
section
variable {c : Addr} {a b m x : Int}
theorem dk_cells : valV (dk c a b m) (.inr "cells") = some (.ref c) := rfl
theorem dk_spot : valV (dk c a b m) (.inr "spot") = some (.int a) := rfl
theorem dk_stock : valV (dk c a b m) (.inr "stock") = some (.int b) := rfl
theorem dk_mixed : valV (dk c a b m) (.inr "mixed") = some (.int m) := rfl
theorem dkp_spot : putK (dk c a b m) (.inr "spot") (.int x) = dk c x b m := rfl
theorem dkp_stock : putK (dk c a b m) (.inr "stock") (.int x) = dk c a x m := rfl
theorem dkp_mixed : putK (dk c a b m) (.inr "mixed") (.int x) = dk c a b x := rfl
end
section
variable {H : Hp} {dd c : Addr} {a b m x : Int}
theorem gt_cells (h : H dd = some (.dK (dk c a b m))) : DGet H dd (.str "cells") (some (.ref c)) := .inl ⟨_, .inr "cells", .inl h, rfl, dk_cells.symm⟩
theorem gt_spot (h : H dd = some (.dK (dk c a b m))) : DGet H dd (.str "spot") (some (.int a)) := .inl ⟨_, .inr "spot", .inl h, rfl, dk_spot.symm⟩
theorem gt_stock (h : H dd = some (.dK (dk c a b m))) : DGet H dd (.str "stock") (some (.int b)) := .inl ⟨_, .inr "stock", .inl h, rfl, dk_stock.symm⟩
theorem gt_mixed (h : H dd = some (.dK (dk c a b m))) : DGet H dd (.str "mixed") (some (.int m)) := .inl ⟨_, .inr "mixed", .inl h, rfl, dk_mixed.symm⟩
theorem pt_spot (h : H dd = some (.dK (dk c a b m))) : DPut H dd (.str "spot") (.int x) (upd H dd (.dK (dk c x b m))) := .inl ⟨_, .inr "spot", h, rfl, (by show 4 < sizeLine; decide), by rw [dkp_spot]⟩
theorem pt_stock (h : H dd = some (.dK (dk c a b m))) : DPut H dd (.str "stock") (.int x) (upd H dd (.dK (dk c a x m))) := .inl ⟨_, .inr "stock", h, rfl, (by show 4 < sizeLine; decide), by rw [dkp_stock]⟩
theorem pt_mixed (h : H dd = some (.dK (dk c a b m))) : DPut H dd (.str "mixed") (.int x) (upd H dd (.dK (dk c a b x))) := .inl ⟨_, .inr "mixed", h, rfl, (by show 4 < sizeLine; decide), by rw [dkp_mixed]⟩
end
theorem qInt {Q : VK} {H : Hp} {r : Int} (h : 0 ≤ r) (k : Q (.int ((r.toNat : Nat) : Int)) H) : Q (.int r) H := by
  rw [Int.toNat_of_nonneg h] at k
  exact k
section
variable {P : Program} {w : World} {K : PySem.W.Frag} {mg : Str → Option Value} {base : Heap} {f f0 f1 f2 f3 f4 f5 f6 f7 f8 f9 : Addr} {fd fd0 fd1 fd2 fd3 fd4 fd5 fd6 fd7 fd8 fd9 : FuncData}
theorem ok_grpP (G : GearDs K mg f1 f2 f3 f4 f5 f6 f7 f8 f9 fd1 fd2 fd3 fd4 fd5 fd6 fd7 fd8 fd9) {fa fb fc fe : Addr} {fda fdb fdc fde : FuncData} (Da : Df K mg "need_gear" sNeed ["gear"] fa fda) (Db : Df K mg "own_box_of" sBoxOf ["gear", "box"] fb fdb) (Dc : Df K mg "own_group" sGrp ["gear", "box"] fc fdc)
    (De : Df K mg "moved" sMoved ["row", "order"] fe fde) (D : Df K mg "group" sGrpP ["gear", "box"] f fd) : FnOk P w K mg base CX0 7 f fd ["gear", "box"] (spGrp K) := by
  have Ga : FnOk P w K mg base CX0 6 fa fda _ (spNeed K) := ok_need G Da
  have Gc : FnOk P w K mg base CX0 2 fc fdc _ (spGrp K) := ok_grp G.T Db De Dc
  refine D.F.ok scGrpP (fun vs H Q E h => ?_) (fun cdv A outer s H vs Q E hr h => ?_)
  · obtain ⟨L, v, g, b, rfl, _⟩ := h
    rfl
  · obtain ⟨L, v, g, b, rfl, tr, hd, ok, hb, k⟩ := h
    refine ⟨_, pss_cons (ps_expr (pe_cd Da Ga hr (by rfl) (pa_cons (pv 0) pa_nil))) (pss_one (ps_ret (pe_cd Dc Gc (hr.mono (by decide)) (by rfl) (pa_cons (pv 0) (pa_cons (pv 1) pa_nil))))), ?_⟩
    refine ⟨_, rfl, v, g, rfl, dp_up fz_le hd, ok, fun H' up => ?_⟩
    exact ⟨_, rfl, _, rfl, L, v, g, b, rfl, tr.up up, dp_up up.all.fz hd, ok, hb, fun u J H2 u2 hm hJ => k _ _ _ (up.trans u2) hm hJ⟩
theorem pM1 : (0 : Int) < 998244353 := by decide
theorem pM2 : (0 : Int) < 2147483647 := by decide
theorem pM3 : (0 : Int) < 2147483629 := by decide
theorem pM4 : (0 : Int) < 2147483587 := by decide
theorem bm (t M : Int) (h0 : 0 < M) (h1 : M < 2 ^ 64) : -(2 ^ 64) < t % M ∧ t % M < 2 ^ 64 := by
  have a := Int.emod_nonneg t (Int.ne_of_gt h0)
  have b := Int.emod_lt_of_pos t h0
  have c : (0 : Int) < 2 ^ 64 := by decide
  omega
theorem cell_at {ns : List Int} {a : Int} (h : ns ≠ []) (h0 : 0 ≤ a) : ∃ z, atI (ns.map V.int) (a % ((ns.map V.int).length : Nat)) = some (.int z) := by
  have hl : 0 < ns.length := List.length_pos_iff.mpr h
  rw [List.length_map]
  have h1 := Int.emod_nonneg a (show ((ns.length : Nat) : Int) ≠ 0 by omega)
  have h2 := Int.emod_lt_of_pos a (show (0 : Int) < ((ns.length : Nat) : Int) by omega)
  obtain ⟨j, hj⟩ : ∃ j : Nat, a % ((ns.length : Nat) : Int) = (j : Int) := ⟨(a % ((ns.length : Nat) : Int)).toNat, by omega⟩
  have hlt : j < ns.length := by omega
  exact ⟨ns[j], by rw [hj]; exact atI_nat (map_at (List.getElem?_eq_getElem hlt))⟩
theorem ds_put {L : List Addr} {H : Hp} {dd c : Addr} {a b m : Int} {n : Nat} {ns : List Int} (h1 : dd ∈ L) (h2 : SqL K (Fz L H) c (ns.map V.int)) (h3 : ns ≠ []) (h4 : ns.length ≤ 1000) (h5 : 0 ≤ a) (h6 : a ≤ n) (h7 : 0 ≤ b) (h8 : 0 ≤ m) (h9 : m ≤ n) : DS K L (upd H dd (.dK (dk c a b m))) dd n :=
  ⟨h1, c, ns, a, b, m, upd_same, by rw [fz_put h1]; exact h2, h3, h4, h5, h6, h7, h8, h9⟩
theorem ok_draw (T : Txt K mg) (D : Df K mg "_law_draw" sDraw ["_law_d", "_law_many"] f fd) : FnOk P w K mg base CX0 1 f fd ["_law_d", "_law_many"] (spDraw K) := by
  refine D.F.ok scDraw (fun vs H Q E h => ?_) (fun cdv A outer s H vs Q E hr h => ?_)
  · obtain ⟨L, dd, m, n, rfl, _⟩ := h
    rfl
  · obtain ⟨L, dd, m, n, rfl, n0, n1, tr, ⟨hL, c, ns, a, b, x, hd, hc, hne, hfew, ha0, ha1, hb0, hx0, hx1⟩, hm, k⟩ := h
    have hu := hu_of hr
    refine ⟨_, pss_cons (ps_if (pt_cmpR op_gt (pe_dget hu (pv 0) pe_str (fun _ _ => rfl)) pe_int (nomark _))
        (pss_cons (ps_set (i := 2) scDraw.nd rfl (Or.inl rfl) (pe_op op_mod (pe_dget hu (pv 0) pe_str (fun _ _ => rfl)) (pv 1)))
          (pss_cons (ps_dput hu (pv 0) pe_str (pe_op op_fdiv (pe_dget hu (pv 0) pe_str (fun _ _ => rfl)) (pv 1)) rfl) (pss_one (ps_ret (pv 2))))) pss_nil)
      (pss_cons (ps_set (i := 3) scDraw.nd rfl (Or.inl rfl) (pe_dget hu (pv 0) pe_str (fun _ _ => rfl)))
      (pss_cons (ps_par (i := 4) (j := 5) rfl scDraw.nd rfl rfl (by decide) rfl rfl (pa_cons (pe_ix ix_list (pv 3) (pe_op op_mod (pe_dget hu (pv 0) pe_str (fun _ _ => rfl)) (pe_callB cr_len (by rfl) T.len bt_len (pa_cons (pv 3) pa_nil))) (fun _ _ => rfl)) (pa_cons (pe_op op_add (pe_dget hu (pv 0) pe_str (fun _ _ => rfl)) pe_int) pa_nil)) rfl)
      (pss_cons (ps_dput hu (pv 0) pe_str (pe_op op_add (pe_dget hu (pv 0) pe_str (fun _ _ => rfl)) pe_int) rfl)
      (pss_cons (ps_if (pw_and (pt_cmpR op_ge (pv 4) (pe_op op_pow pe_int pe_int) (nomark _)) (pw_and1 (pt_cmpR op_le (pe_dget hu (pv 0) pe_str (fun _ _ => rfl)) (pe_callB cr_len (by rfl) T.len bt_len (pa_cons (pv 3) pa_nil)) (nomark _)))).pt
        (pss_cons (ps_dput hu (pv 0) pe_str (pe_op op_fdiv (pv 4) (pv 1)) rfl) (pss_one (ps_ret (pe_op op_mod (pv 4) (pv 1))))) pss_nil)
      (pss_cons (ps_dput hu (pv 0) pe_str (pv 5) rfl)
      (pss_cons (ps_set (i := 6) scDraw.nd rfl (Or.inl rfl) (pe_op op_mod (pe_op op_add (pe_op op_add (pe_op op_mod (pv 4) pe_int) (pe_op op_mul (pe_op op_mul pe_int (pv 5)) (pv 5))) (pe_op op_mul pe_int (pe_dget hu (pv 0) pe_str (fun _ _ => rfl)))) pe_int))
      (pss_cons (ps_set (i := 6) scDraw.nd rfl (Or.inl rfl) (pe_op op_mod (pe_op op_mul (pe_op op_mod (pe_op op_mul (pv 6) (pv 6)) pe_int) (pe_op op_add (pv 6) pe_int)) pe_int))
      (pss_one (ps_ret (pe_op op_mod (pe_op op_fdiv (pe_op op_mod (pe_op op_add (pe_op op_mul (pv 6) pe_int) (pv 5)) pe_int) pe_int) (pv 1))))))))))), ?_⟩
    refine ⟨_, rfl, dd, _, rfl, gt_stock hd, _, _, rfl, rfl, _, rfl, ?_⟩
    have hn0 : (0 : Int) < ((n : Nat) : Int) := by omega
    have hn1 : ((n : Nat) : Int) < 1073741824 := by omega
    have lt : ∀ t : Int, (t % ((n : Nat) : Int)).toNat < n := fun t => by
      have h1 := Int.emod_nonneg t (Int.ne_of_gt hn0)
      have h2 := Int.emod_lt_of_pos t hn0
      omega
    have hcL : SqL K H c (ns.map V.int) := sql_up fz_le hc
    refine ite2 (fun _ => ?_) (fun _ => ?_)
    · refine ⟨_, rfl, dd, _, rfl, gt_stock hd, _, rfl, _, _, rfl, rfl, hn0, ?_⟩
      refine ⟨_, rfl, dd, _, rfl, gt_stock hd, _, rfl, _, _, rfl, rfl, ⟨hn0, hn1⟩, _, rfl, dd, _, rfl, pt_stock hd, _, rfl, ?_⟩
      exact qInt (Int.emod_nonneg _ (Int.ne_of_gt hn0)) (k _ _ (lt _) (Up.put List.mem_cons_self) (ds_put hL hc hne hfew ha0 (by omega) (Int.ediv_nonneg hb0 (by omega)) hx0 (by omega)))
    · obtain ⟨z, hz⟩ := cell_at hne ha0
      have hl : 0 < (ns.map V.int).length := by rw [List.length_map]; exact List.length_pos_iff.mpr hne
      refine ⟨_, rfl, dd, _, rfl, gt_cells hd, ?_⟩
      refine ⟨_, rfl, _, rfl, dd, _, rfl, gt_spot hd, _, rfl, c, _, rfl, .inl hcL, _, _, rfl, rfl, (by omega), c, _, _, .int z, rfl, rfl, hcL, hz, ?_⟩
      refine ⟨_, rfl, dd, _, rfl, gt_mixed hd, _, _, rfl, rfl, _, _, rfl, ?_⟩
      refine ⟨_, rfl, dd, _, rfl, gt_spot hd, _, _, rfl, rfl, _, rfl, dd, _, rfl, pt_spot hd, ?_⟩
      have hc1 : SqL K (upd H dd (.dK (dk c (a + 1) b x))) c (ns.map V.int) := sql_up fz_le (show SqL K (Fz L (upd H dd (.dK (dk c (a + 1) b x)))) c (ns.map V.int) by rw [fz_put hL]; exact hc)
      have hm' : m < 1000000 := hm
      have kb : -(2 ^ 64) < x + 1 ∧ x + 1 < 2 ^ 64 := by
        have c : (1000001 : Int) < 2 ^ 64 := by decide
        omega
      refine ⟨_, rfl, _, _, rfl, rfl, ⟨by decide, by decide, by decide⟩, _, _, rfl, rfl, _, rfl, ?_⟩
      refine ite2 (fun hz18 => ?_) (fun _ => iteF ?_)
      · refine ⟨_, rfl, dd, _, rfl, gt_spot upd_same, _, rfl, c, _, rfl, .inl hc1, _, _, rfl, rfl, _, rfl, ?_⟩
        refine ite2 (fun _ => ?_) (fun _ => ?_)
        · have hz0 : 0 ≤ z := Int.le_trans (by decide) (of_decide_eq_true hz18)
          refine ⟨_, rfl, _, rfl, _, _, rfl, rfl, ⟨hn0, hn1⟩, _, rfl, dd, _, rfl, pt_stock upd_same, _, rfl, _, rfl, _, _, rfl, rfl, hn0, ?_⟩
          exact qInt (Int.emod_nonneg _ (Int.ne_of_gt hn0)) (k _ _ (lt _) ((Up.put List.mem_cons_self).trans (Up.put List.mem_cons_self)) (ds_put hL (by rw [fz_put hL]; exact hc) hne hfew (by omega) (by omega) (Int.ediv_nonneg hz0 (by omega)) hx0 (by omega)))
        · refine ⟨_, rfl, _, rfl, dd, _, rfl, pt_mixed upd_same, ?_⟩
          refine ⟨_, rfl, _, _, rfl, rfl, pM1, _, rfl, _, _, rfl, rfl, .inl ⟨by decide, by decide⟩, _, rfl, _, _, rfl, rfl, .inr kb, _, _, rfl, rfl, _, rfl, dd, _, rfl, gt_spot upd_same, _, _, rfl, rfl, .inl ⟨by decide, by decide⟩, _, _, rfl, rfl, _, _, rfl, rfl, pM2, ?_⟩
          refine ⟨_, rfl, _, rfl, _, _, rfl, rfl, .inl (bm _ _ (by decide) (by decide)), _, _, rfl, rfl, pM3, _, rfl, _, _, rfl, rfl, _, _, rfl, rfl, .inl (bm _ _ (by decide) (by decide)), _, _, rfl, rfl, pM2, ?_⟩
          refine ⟨_, rfl, _, _, rfl, rfl, .inl (bm _ _ (by decide) (by decide)), _, rfl, _, _, rfl, rfl, _, _, rfl, rfl, pM4, _, _, rfl, rfl, ⟨by decide, by decide⟩, _, rfl, _, _, rfl, rfl, hn0, ?_⟩
          exact qInt (Int.emod_nonneg _ (Int.ne_of_gt hn0)) (k _ _ (lt _) ((Up.put List.mem_cons_self).trans (Up.put List.mem_cons_self)) (ds_put hL (by rw [fz_put hL]; exact hc) hne hfew (by omega) (by omega) hb0 (by omega) (by omega)))
      · refine ⟨_, rfl, _, rfl, dd, _, rfl, pt_mixed upd_same, ?_⟩
        refine ⟨_, rfl, _, _, rfl, rfl, pM1, _, rfl, _, _, rfl, rfl, .inl ⟨by decide, by decide⟩, _, rfl, _, _, rfl, rfl, .inr kb, _, _, rfl, rfl, _, rfl, dd, _, rfl, gt_spot upd_same, _, _, rfl, rfl, .inl ⟨by decide, by decide⟩, _, _, rfl, rfl, _, _, rfl, rfl, pM2, ?_⟩
        refine ⟨_, rfl, _, rfl, _, _, rfl, rfl, .inl (bm _ _ (by decide) (by decide)), _, _, rfl, rfl, pM3, _, rfl, _, _, rfl, rfl, _, _, rfl, rfl, .inl (bm _ _ (by decide) (by decide)), _, _, rfl, rfl, pM2, ?_⟩
        refine ⟨_, rfl, _, _, rfl, rfl, .inl (bm _ _ (by decide) (by decide)), _, rfl, _, _, rfl, rfl, _, _, rfl, rfl, pM4, _, _, rfl, rfl, ⟨by decide, by decide⟩, _, rfl, _, _, rfl, rfl, hn0, ?_⟩
        exact qInt (Int.emod_nonneg _ (Int.ne_of_gt hn0)) (k _ _ (lt _) ((Up.put List.mem_cons_self).trans (Up.put List.mem_cons_self)) (ds_put hL (by rw [fz_put hL]; exact hc) hne hfew (by omega) (by omega) hb0 (by omega) (by omega)))
end
end Kf
end

section
set_option Elab.async false
set_option linter.all false
set_option maxRecDepth 100000
set_option maxHeartbeats 4000000
/-! walks: the law's small defs -/
namespace Kf
open PySem L2 PyProof.Rows
/-- one of a tuple's, of a list's -/
def Som (K : PySem.W.Frag) (H : Hp) (v : V) (xs : List V) : Prop := ∃ a, v = .ref a ∧ (SqT K H a xs ∨ SqL K H a xs)
def spPk (K : PySem.W.Frag) : Sp := fun vs H Q _ => ∃ (L : List Addr) (dd : Addr) (m : Nat) (v : V) (xs : List V), vs = [.ref dd, v] ∧ 0 < xs.length ∧ xs.length ≤ 1000 ∧ Tr L H ∧ DS K L H dd m ∧ m < most ∧ (∀ H', Up [dd] H H' → Som K H' v xs) ∧
  ∀ (k : Nat) y H', xs[k]? = some y → Up [dd] H H' → DS K L H' dd (m + 1) → Q y H'
def spBack (K : PySem.W.Frag) : Sp := fun vs H Q _ => ∃ (L : List Addr) (v : V) (o : List Nat), vs = [v] ∧ Tr L H ∧ Dp K (Fz L H) v (dO o) ∧ Hd H v ∧ o.length ≤ 100 ∧ (∀ k, k < o.length → k ∈ o) ∧ ∀ u H', Up [] H H' → Dp K (Fz L H') u (dO (back o)) → Q u H'
/-- a row of things by an order: data -/
def spAfter (K : PySem.W.Frag) : Sp := fun vs H Q _ => ∃ (L : List Addr) (v u : V) (ds : List PyData) (o : List Nat), vs = [v, u] ∧ Tr L H ∧ Dp K (Fz L H) v (.tuple ds) ∧ Dp K (Fz L H) u (dO o) ∧ (∀ k, k ∈ o → k < ds.length) ∧ o.length ≤ 100 ∧ ∀ z H', Up [] H H' → Dp K (Fz L H') z (.tuple (o.map fun k => ds.getD k .none)) → Q z H'
def spAll (K : PySem.W.Frag) : Sp := fun vs H Q _ => ∃ (a : Addr) (zs : List V) (held : List Slt), vs = [.ref a] ∧ SqL K H a zs ∧ DpAll K H zs (held.map dS) ∧ held.length ≤ 4 ∧ ∀ H', Up [] H H' → Q (.int ((young held held.length : Nat) : Int)) H'
def withM (g : Gr) (i : Nat) (b : Bx) (ms : List Mv) : Gr := ⟨g.spaces, g.boxes.take i ++ [⟨b.name, b.held, ms⟩] ++ g.boxes.drop (i + 1)⟩
def spWith (K : PySem.W.Frag) : Sp := fun vs H Q _ => ∃ (L : List Addr) (v u : V) (g : Gr) (i : Nat) (b : Bx) (ms : List Mv), vs = [v, .int (i : Nat), u] ∧ Tr L H ∧ Dp K (Fz L H) v (dG g) ∧ g.boxes.length ≤ 8 ∧ g.boxes[i]? = some b ∧ Dp K (Fz L H) u (.list (ms.map dM)) ∧ ∀ z H', Up [] H H' → Dp K (Fz L H') z (dG (withM g i b ms)) → Q z H'
section
variable {P : Program} {w : World} {K : PySem.W.Frag} {mg : Str → Option Value} {base : Heap} {f f0 f1 f2 f3 f4 f5 f6 f7 f8 f9 : Addr} {fd fd0 fd1 fd2 fd3 fd4 fd5 fd6 fd7 fd8 fd9 : FuncData}
theorem ok_pick (T : Txt K mg) (D1 : Df K mg "_law_draw" sDraw ["_law_d", "_law_many"] f1 fd1) (D : Df K mg "_law_pick" sPick ["_law_d", "_law_some"] f fd) : FnOk P w K mg base CX0 2 f fd ["_law_d", "_law_some"] (spPk K) := by
  have G1 : FnOk P w K mg base CX0 1 f1 fd1 _ (spDraw K) := ok_draw T D1
  refine D.F.ok scPick (fun vs H Q E h => ?_) (fun cdv A outer s H vs Q E hr h => ?_)
  · obtain ⟨L, dd, m, v, xs, rfl, _⟩ := h
    rfl
  · obtain ⟨L, dd, m, v, xs, rfl, n0, n1, tr, ds, hm, hs, k⟩ := h
    refine ⟨_, pss_one (ps_ret (pe_ix (ix_tup.or ix_list) (pv 1) (pe_cd D1 G1 hr (by rfl) (pa_cons (pv 0) (pa_cons (pe_callB cr_len (by rfl) T.len bt_len (pa_cons (pv 1) pa_nil)) pa_nil))) (fun _ _ => rfl))), ?_⟩
    obtain ⟨a, rfl, ha⟩ := hs H Up.refl
    refine ⟨_, rfl, _, rfl, _, rfl, a, xs, rfl, ha.symm, L, dd, m, xs.length, rfl, n0, n1, tr, ds, hm, fun j H' hj up ds' => ?_⟩
    obtain ⟨a', e, ha'⟩ := hs H' up
    injection e with e
    subst e
    rcases ha' with ha' | ha'
    · exact .inl ⟨a, xs, _, _, rfl, rfl, ha', atI_nat (List.getElem?_eq_getElem hj), k j _ _ (List.getElem?_eq_getElem hj) up ds'⟩
    · exact .inr ⟨a, xs, _, _, rfl, rfl, ha', atI_nat (List.getElem?_eq_getElem hj), k j _ _ (List.getElem?_eq_getElem hj) up ds'⟩
theorem idx_cast : ∀ (o : List Nat) (i : Nat), (o.map fun k : Nat => (k : Int)).idxOf (i : Int) = o.idxOf i
  | [], _ => rfl
  | k :: o, i => by
    rw [List.map_cons, List.idxOf_cons, List.idxOf_cons, idx_cast o i]
    by_cases e : k = i
    · subst e
      simp
    · have e2 : ((k : Int) == (i : Int)) = false := by simp; omega
      have e3 : (k == i) = false := by simp; omega
      rw [e2, e3]
/-- tuple of the list that a comprehension made -/
theorem tup_of {L : List Addr} {H1 : Hp} {D : Addr} {ds : List PyData} {Q : VK} (t : Tr L H1) (h : Dp K (Fz L H1) (.ref D) (.list ds)) (k : ∀ p H2, Up [] H1 H2 → H1 p = none → Dp K (Fz L H2) (.ref p) (.tuple ds) → Q (.ref p) H2) :
    ∃ p ys, [V.ref D] = [V.ref p] ∧ ((SqL K H1 p ys ∧ ∀ l, H1 l = none → Q (.ref l) (upd H1 l (.tup ys))) ∨ (SqT K H1 p ys ∧ Q (.ref p) H1)) := by
  obtain ⟨ys, h1, h2⟩ := dp_list h
  exact ⟨D, ys, rfl, .inl ⟨sql_up fz_le h1, fun l hl => k l _ (Up.new hl) hl (dp_new t hl h2)⟩⟩
theorem ok_back (T : Txt K mg) (D : Df K mg "_law_back" sBack ["_law_path"] f fd) : FnOk P w K mg base CX0 1 f fd ["_law_path"] (spBack K) := by
  refine D.F.ok scBack (fun vs H Q E h => ?_) (fun cdv A outer s H vs Q E hr h => ?_)
  · obtain ⟨L, v, o, rfl, _⟩ := h
    rfl
  · obtain ⟨L, v, o, rfl, tr, hd, hh, few, all, k⟩ := h
    obtain ⟨a, rfl, ha⟩ := dp_ord hd
    refine ⟨_, pss_one (ps_ret (pe_callTy call_tuple_of (by rfl) T.tuple bt_tuple (pa_cons (pe_lc (own := [("_law_k", 1)]) (g := gName 1) (tt := tYes) (te := tTI K (tVar 0) (tCons (tVar 1) tNil)) rfl scBack.nd (pi_range1 (by rfl) T.range (pa_cons (pe_callB cr_len (by rfl) T.len bt_len (pa_cons (pv 0) pa_nil)) pa_nil)) (blkOk_by (N := nBack) (sc := defScope sBack) (by decide +kernel)) (fun _ _ _ _ _ => pg_name (i := 1) scBack.nd rfl (Or.inl rfl)) (fun _ _ _ _ _ => pts_nil)
      (fun _ _ _ _ _ => pe_ti (huV hr (by decide)) (pv 0) (pa_cons (pv 1) pa_nil))) pa_nil))), ?_⟩
    have ha' := sqt_up fz_le ha
    refine ⟨_, rfl, a, _, rfl, .inr ha', _, rfl, by rw [List.length_map]; omega, by rw [List.length_map]; omega, fun D hD => ?_⟩
    have C : LcC L [] D (fun _ _ => True) ((List.range o.length).map fun k => some (PyData.int ((o.idxOf k : Nat) : Int))) H := .pure hD tr (by rw [List.length_map, List.length_range]; omega)
    refine lcR (K := K) C (by simp) (fun i oo ys H' hi _ I => ?_) fun H' up tr' _ hdp => ?_
    · have hi' : i < o.length := by rw [List.length_map] at hi; exact hi
      have hs : SqT K H' a (o.map fun k : Nat => V.int (k : Int)) := sqt_up (I.up0 C) ha'
      refine ⟨rfl, yesT ⟨_, rfl, hd_up (I.up0 C) hh, _, rfl, ((i : Nat) : Int), o.map fun k : Nat => (k : Int), a, _, _, rfl, rfl, hs, ?_, ?_, List.mem_map.mpr ⟨i, all i hi', rfl⟩, ?_⟩⟩
      · show DpAll K H' _ ((o.map fun k : Nat => (k : Int)).map PyData.int)
        rw [List.map_map]
        exact dpa_ofO _ _ _
      · show Dp K H' (.int (0 + (i : Int))) (.int (i : Int))
        rw [Int.zero_add]
        exact .int _
      · rw [idx_cast]
        exact I.add C .refl trivial (map_at (by rw [List.getElem?_range hi'])) (.int _)
    · rw [fm_all] at hdp
      have e : (List.range o.length).map (fun k => PyData.int ((o.idxOf k : Nat) : Int)) = (back o).map fun k : Nat => PyData.int (k : Int) := by
        unfold back
        rw [List.map_map]
        rfl
      rw [e] at hdp
      exact tup_of tr' hdp fun p H2 u2 _ h2 => k _ _ (up.trans u2) h2
theorem ok_after (T : Txt K mg) (D : Df K mg "_law_after" sAfter ["_law_path", "_law_step"] f fd) : FnOk P w K mg base CX0 1 f fd ["_law_path", "_law_step"] (spAfter K) := by
  refine D.F.ok scAfter (fun vs H Q E h => ?_) (fun cdv A outer s H vs Q E hr h => ?_)
  · obtain ⟨L, v, u, ds, o, rfl, _⟩ := h
    rfl
  · obtain ⟨L, v, u, ds, o, rfl, tr, hd, hu, all, few, k⟩ := h
    obtain ⟨a, xs, rfl, ha, hda⟩ := dp_tuple hd
    obtain ⟨b, rfl, hb⟩ := dp_ord hu
    refine ⟨_, pss_one (ps_ret (pe_callTy call_tuple_of (by rfl) T.tuple bt_tuple (pa_cons (pe_lc (own := [("_law_k", 2)]) (g := gName 2) (tt := tYes) rfl scAfter.nd (pi_tup (pv 1)) (blkOk_by (N := nAfter) (sc := defScope sAfter) (by decide +kernel)) (fun _ _ _ _ _ => pg_name (i := 2) scAfter.nd rfl (Or.inl rfl)) (fun _ _ _ _ _ => pts_nil)
      (fun _ _ _ _ _ => pe_ix (r := rIxT K) ix_tup (pv 0) (pv 2) (fun _ _ => rfl))) pa_nil))), ?_⟩
    refine ⟨_, rfl, b, rfl, ⟨_, sqt_up fz_le hb⟩, fun D hD => ?_⟩
    have C : LcC L [] D (fun _ _ => True) (o.map fun k => some (ds.getD k .none)) H := .pure hD tr (by rw [List.length_map]; omega)
    refine lcT C hb (by simp) (fun i x oo ys H' hx _ I => ?_) fun H' up tr' _ hdp => ?_
    · obtain ⟨j, hj, rfl⟩ := map_some hx
      have lt := all j (List.mem_of_getElem? hj)
      have ed : ds[j]? = some (ds.getD j .none) := by rw [List.getD_eq_getElem?_getD, List.getElem?_eq_getElem lt]; rfl
      obtain ⟨y, hy, hyd⟩ := dpa_get' hda ed
      exact ⟨rfl, yesT ⟨_, rfl, _, rfl, a, xs, (j : Int), y, rfl, rfl, sqt_up fz_le (sqt_up (I.gw C) ha), atI_nat hy, I.add C .refl trivial (map_at hj) (dp_up (I.gw C) hyd)⟩⟩
    · rw [fm_all] at hdp
      exact tup_of tr' hdp fun p H2 u2 _ h2 => k _ _ (up.trans u2) h2
end
end Kf
end

section
set_option Elab.async false
set_option linter.all false
set_option maxRecDepth 100000
set_option maxHeartbeats 4000000
/-! walks: how many orders; other moves -/
namespace Kf
open PySem L2 PyProof.Rows
theorem for_enumL {K : PySem.W.Frag} {a : Addr} {xs : List V} {g : TG} {tb : TS} {D : Ends} {σ : L2.St} {H : Hp} (Pv : Nat → L2.St → Hp → Prop) (h0 : Pv 0 σ H) (hq : ∀ i σ H, Pv i σ H → SqL K H a xs)
    (hs : ∀ (i : Nat) (x : V) (T : Addr) (σ : L2.St) (H : Hp), xs[i]? = some x → Pv i σ H → H T = none → g (.ref T) σ (upd H T (.tup [.int (i : Nat), x])) fun σ2 H2 => tb { D with nx := Pv (i + 1), ct := Pv (i + 1), bk := D.nx } σ2 H2) (hd : ∀ σ H, Pv xs.length σ H → D.nx σ H) :
    ∃ W : Nat → Nat → L2.St → Hp → Prop, (∃ m, W 0 m σ H) ∧ ∀ i m σ H, W i m σ H →
      ((Ite K a).stop i H ∧ D.nx σ H) ∨ ((Ite K a).go i H ∧ ∃ N : L2.St → Hp → Prop, (∀ σ' H', N σ' H' → ∃ m', m' < m ∧ W (i + 1) m' σ' H') ∧ ∀ v H', (Ite K a).yld i H v H' → g v σ H' fun σ2 H2 => tb { D with nx := N, ct := N, bk := D.nx } σ2 H2) := by
  refine ⟨fun i m σ H => m = xs.length - i ∧ i ≤ xs.length ∧ Pv i σ H, ⟨xs.length, rfl, Nat.zero_le _, h0⟩, ?_⟩
  rintro i m σ H ⟨rfl, hi, p⟩
  have qx := hq i σ H p
  by_cases hlt : i < xs.length
  · refine .inr ⟨⟨xs, xs[i], qx, List.getElem?_eq_getElem hlt⟩, Pv (i + 1), fun σ' H' p' => ⟨xs.length - (i + 1), by omega, rfl, hlt, p'⟩, fun v H' y => ?_⟩
    obtain ⟨T, x', rfl, hT, rfl, f1⟩ := y
    exact hs i x' T σ H (f1 xs qx) p hT
  · have e : i = xs.length := by omega
    subst e
    exact .inl ⟨⟨xs, qx, Nat.le_refl _⟩, hd σ H p⟩
theorem np {σ : L2.St} {H : Hp} {f : Option Int → Hp → Prop} (h : f none H) : tNoPart σ H f := h
theorem young_step {α : Type} [DecidableEq α] {held : List α} {i : Nat} {z : α} (h : held[i]? = some z) : young held (i + 1) = young held i * (1 + (held.take i).countP fun y => decide (y = z)) := by
  have e2 : (held.take i).count z = (held.take i).countP fun y => decide (y = z) := by
    unfold List.count
    refine List.countP_congr fun y _ => ?_
    simp
  show young held i * (1 + match held[i]? with | some s => (held.take i).count s | none => 0) = _
  rw [h]
  show young held i * (1 + (held.take i).count z) = _
  rw [e2]
theorem cutTo (xs : List V) (i : Nat) : cutV xs none (some (i : Int)) = xs.take i := by
  unfold cutV
  rw [HT.sIx_none, HT.sIx_nat, List.drop_zero, Nat.sub_zero]
  by_cases h : i ≤ xs.length
  · rw [Nat.min_eq_left h]
  · rw [Nat.min_eq_right (by omega), List.take_of_length_le (Nat.le_refl _), List.take_of_length_le (by omega)]
theorem cutFrom (xs : List V) (i : Nat) : cutV xs (some (i : Int)) none = xs.drop i := by
  unfold cutV
  rw [HT.sIx_none, HT.sIx_nat]
  by_cases h : i ≤ xs.length
  · rw [Nat.min_eq_left h, List.take_of_length_le (by rw [List.length_drop]; exact Nat.le_refl _)]
  · rw [Nat.min_eq_right (by omega), List.drop_of_length_le (Nat.le_refl _), List.drop_of_length_le (by omega), List.take_nil]
section
variable {K : PySem.W.Frag} {L : List Addr} {H : Hp} {v u : V} {ds es : List PyData} {Q : VK}
theorem sl_take (t : Tr L H) (i : Nat) (h : Dp K (Fz L H) v (.tuple ds)) (k : ∀ u H', Up [] H H' → Dp K (Fz L H') u (.tuple (ds.take i)) → Q u H') : rSlA K v none (some (i : Int)) H Q := by
  obtain ⟨a, xs, rfl, hx, hd⟩ := dp_tuple h
  have hl := dpa_len hd
  refine ⟨a, xs, rfl, sqt_up fz_le hx, fun hw => ?_, fun hw p hp => ?_⟩
  · have e : ds.take i = ds := by
      have h2 := hw.2
      rw [HT.sIx_nat] at h2
      exact List.take_of_length_le (by omega)
    refine k _ _ Up.refl ?_
    rw [e]
    exact h
  · rw [cutTo]
    exact k _ _ (Up.new hp) (dp_new t hp (dpa_take i hd))
theorem sl_drop (t : Tr L H) (i : Nat) {j : Int} (hj : j = (i : Int)) (h : Dp K (Fz L H) v (.tuple ds)) (k : ∀ u H', Up [] H H' → Dp K (Fz L H') u (.tuple (ds.drop i)) → Q u H') : rSlA K v (some j) none H Q := by
  subst hj
  obtain ⟨a, xs, rfl, hx, hd⟩ := dp_tuple h
  have hl := dpa_len hd
  refine ⟨a, xs, rfl, sqt_up fz_le hx, fun hw => ?_, fun hw p hp => ?_⟩
  · have e : ds.drop i = ds := by
      have h2 := hw.1
      rw [HT.sIx_nat] at h2
      by_cases h0 : i = 0
      · rw [h0, List.drop_zero]
      · have : ds.length = 0 := by omega
        rw [List.eq_nil_of_length_eq_zero this, List.drop_nil]
    refine k _ _ Up.refl ?_
    rw [e]
    exact h
  · rw [cutFrom]
    exact k _ _ (Up.new hp) (dp_new t hp (dpa_drop i hd))
theorem cat_dp (t : Tr L H) (hz : ds.length + es.length ≤ 1000) (h1 : Dp K (Fz L H) v (.tuple ds)) (h2 : Dp K (Fz L H) u (.tuple es)) (k : ∀ z H', Up [] H H' → Dp K (Fz L H') z (.tuple (ds ++ es)) → Q z H') : rCatA K v u H Q := by
  obtain ⟨a, xs, rfl, hx, hd⟩ := dp_tuple h1
  obtain ⟨b, ys, rfl, hy, he⟩ := dp_tuple h2
  have l1 := dpa_len hd
  have l2 := dpa_len he
  refine ⟨a, b, xs, ys, rfl, rfl, sqt_up fz_le hx, sqt_up fz_le hy, ?_, fun e => ?_, fun _ e => ?_, fun _ _ p hp => ?_⟩
  · exact Nat.le_trans (show xs.length + ys.length ≤ 1000 by omega) (by decide)
  · subst e
    have : ds = [] := List.eq_nil_of_length_eq_zero (by rw [← l1]; rfl)
    refine k _ _ Up.refl ?_
    rw [this]
    exact h2
  · subst e
    have : es = [] := List.eq_nil_of_length_eq_zero (by rw [← l2]; rfl)
    refine k _ _ Up.refl ?_
    rw [this, List.append_nil]
    exact h1
  · exact k _ _ (Up.new hp) (dp_new t hp (dpa_app hd he))
end
section
variable {P : Program} {w : World} {K : PySem.W.Frag} {mg : Str → Option Value} {base : Heap} {f f0 f1 f2 f3 f4 f5 f6 f7 f8 f9 : Addr} {fd fd0 fd1 fd2 fd3 fd4 fd5 fd6 fd7 fd8 fd9 : FuncData}
theorem ok_all (T : Txt K mg) (D : Df K mg "_law_all" sAll ["_law_held"] f fd) : FnOk P w K mg base CX0 1 f fd ["_law_held"] (spAll K) := by
  refine D.F.ok scAll (fun vs H Q E h => ?_) (fun cdv A outer s H vs Q E hr h => ?_)
  · obtain ⟨a, zs, held, rfl, _⟩ := h
    rfl
  · obtain ⟨a, zs, held, rfl, hz, hd, few, k⟩ := h
    have nz : zs.length = held.length := by rw [dpa_len hd, List.length_map]
    refine ⟨_, pss_cons (ps_set (i := 1) scAll.nd rfl (Or.inl rfl) pe_int)
      (pss_cons (ps_for PassesOwn.never rfl (pi_enum (by rfl) T.enum (pa_cons (pv 0) pa_nil)) (pg_pair (i := 2) (j := 3) rfl scAll.nd rfl rfl (Or.inl rfl) (Or.inl rfl) (Or.inl rfl) (Or.inl rfl))
        (pss_one (ps_set (i := 1) scAll.nd rfl (Or.inl rfl) (pe_op op_mul (pv 1) (pe_op op_add pe_int (pe_bm PySem.F.plainAttrs_list PySem.F.slot_list_count PySem.F.type_list_count (mt_countV (α := Slt) (huV hr (by decide))) (pe_slice sl_list (pv 0) po_none (po_some (pv 2))) (pa_cons (pv 3) pa_nil)))))))
      (pss_one (ps_ret (pv 1)))), ?_⟩
    refine ⟨_, rfl, a, zs, rfl, hz, ?_⟩
    refine for_enumL (K := K) (a := a) (xs := zs) (fun i σ H' => Up [] H H' ∧ ∃ c2 c3, σ = [some (.ref a), some (.int ((young held i : Nat) : Int)), c2, c3]) ⟨Up.refl, _, _, rfl⟩ (fun i σ H' ⟨u, _⟩ => sql_up u hz) ?_ ?_
    · rintro i x T' σ H' hx ⟨u, c2, c3, rfl⟩ hT
      obtain ⟨z, hzi, hxd⟩ := dpa_map hd hx
      have u2 : Up [] H (upd H' T' (.tup [.int ((i : Nat) : Int), x])) := u.trans (Up.new hT)
      refine ⟨T', _, _, rfl, sqt_of upd_same, ?_⟩
      refine ⟨_, rfl, _, rfl, _, rfl, _, rfl, a, zs, rfl, sql_up u2 hz, fun p hp => ?_⟩
      rw [cutTo]
      have u3 := u2.trans (Up.new (o := .lst (zs.take i)) hp)
      refine ⟨.inl ⟨rfl, _, sql_of upd_same⟩, _, rfl, z, held.take i, p, _, x, rfl, rfl, sql_of upd_same, ?_, dp_up u3 hxd, ?_⟩
      · have h := dpa_up u3 (dpa_take i hd)
        rw [← List.map_take] at h
        exact h
      · have hc : (held.take i).countP (fun y => decide (y = z)) ≤ 4 := Nat.le_trans List.countP_le_length (by rw [List.length_take]; omega)
        refine ⟨_, _, rfl, rfl, _, _, rfl, rfl, .inr ?_, ?_⟩
        · have b1 : (0 : Int) ≤ (((held.take i).countP fun y => decide (y = z) : Nat) : Int) := by omega
          have b2 : (((held.take i).countP fun y => decide (y = z) : Nat) : Int) ≤ 4 := by omega
          have b3 : (6 : Int) < 2 ^ 64 := by decide
          omega
        · refine ⟨u3, some (.int ((i : Nat) : Int)), some x, ?_⟩
          rw [young_step hzi]
          have e3 : ((young held i * (1 + (held.take i).countP fun y => decide (y = z)) : Nat) : Int) = (young held i : Int) * (1 + ((held.take i).countP fun y => decide (y = z) : Nat)) := by
            rw [Int.natCast_mul, Int.natCast_add]
            rfl
          rw [e3]
          rfl
    · rintro σ H' ⟨u, c2, c3, rfl⟩
      refine ⟨_, rfl, ?_⟩
      rw [nz]
      exact k _ u
theorem ok_with (T : Txt K mg) (D : Df K mg "_law_with" sWith ["_law_gear_so", "_law_at", "_law_moves"] f fd) : FnOk P w K mg base CX0 1 f fd ["_law_gear_so", "_law_at", "_law_moves"] (spWith K) := by
  refine D.F.ok scWith (fun vs H Q E h => ?_) (fun cdv A outer s H vs Q E hr h => ?_)
  · obtain ⟨L, v, u, g, i, b, ms, rfl, _⟩ := h
    rfl
  · obtain ⟨L, v, u, g, i, b, ms, rfl, tr, hd, few, hb, hu, k⟩ := h
    obtain ⟨a, p, q, ys, rfl, ha, hp, hq, hy⟩ := dp_gear hd
    obtain ⟨yb, hyb, hbd⟩ := dpa_map' hy hb
    obtain ⟨ab, uh, um, rfl, hab, hh, hm⟩ := dp_box hbd
    obtain ⟨am, rfl⟩ : ∃ am, u = .ref am := by
      cases hu
      exact ⟨_, rfl⟩
    have hqd : Dp K (Fz L H) (.ref q) (.tuple (g.boxes.map dB)) := .tup hq hy
    have hpd : Dp K (Fz L H) (.ref p) (.tuple (g.spaces.map .str)) := .tup hp (dpa_of_strs _)
    refine ⟨_, pss_cons (ps_asg (pe_ix ix_tup (pe_ix ix_tup (pv 0) pe_int (fun _ _ => rfl)) (pv 1) (fun _ _ => rfl)) (pg_tri (i := 3) (j := 4) (l := 5) rfl scWith.nd rfl rfl rfl (Or.inl rfl) (Or.inl rfl) (Or.inl rfl) (Or.inl rfl) (Or.inl rfl) (Or.inl rfl)))
      (pss_one (ps_ret (pe_tup (pa_cons (pe_ix ix_tup (pv 0) pe_int (fun _ _ => rfl)) (pa_cons (pe_op op_catA (pe_op op_catA (pe_slice sl_tupA (pe_ix ix_tup (pv 0) pe_int (fun _ _ => rfl)) po_none (po_some (pv 1)))
        (pe_tup (pa_cons (pe_tup (pa_cons (pv 3) (pa_cons (pv 4) (pa_cons (pe_callTy call_tuple_of (by rfl) T.tuple bt_tuple (pa_cons (pv 2) pa_nil)) pa_nil)))) pa_nil)))
        (pe_slice sl_tupA (pe_ix ix_tup (pv 0) pe_int (fun _ _ => rfl)) (po_some (pe_op op_add (pv 1) pe_int)) po_none)) pa_nil))))), ?_⟩
    refine ⟨_, rfl, a, _, 1, _, rfl, rfl, sqt_up fz_le ha, atI_nat (j := 1) rfl, _, rfl, q, ys, _, _, rfl, rfl, sqt_up fz_le hq, atI_nat hyb, ?_⟩
    refine ⟨ab, _, _, _, rfl, sqt_up fz_le hab, ?_⟩
    refine ⟨_, rfl, a, _, 0, _, rfl, rfl, sqt_up fz_le ha, atI_nat (j := 0) rfl, ?_⟩
    refine ⟨_, rfl, a, _, 1, _, rfl, rfl, sqt_up fz_le ha, atI_nat (j := 1) rfl, _, rfl, _, rfl, ?_⟩
    refine sl_take tr i hqd fun z1 H1 u1 d1 => ?_
    have tr1 := tr.up u1
    obtain ⟨zs, hzs, hzd⟩ := dp_list (dp_up u1.all.fz hu)
    refine ⟨_, rfl, _, rfl, _, rfl, am, zs, rfl, .inl ⟨sql_up fz_le hzs, fun pm hpm => ?_⟩⟩
    have dm : Dp K (Fz L (upd H1 pm (.tup zs))) (.ref pm) (.tuple (ms.map dM)) := dp_new tr1 hpm hzd
    have u2 : Up [] H1 (upd H1 pm (.tup zs)) := Up.new hpm
    generalize hH2 : upd H1 pm (.tup zs) = H2 at dm u2 ⊢
    have tr2 := tr1.up u2
    refine ⟨by show 3 ≤ sizeLine; decide, fun pb hpb => ⟨by show 1 ≤ sizeLine; decide, fun pt hpt => ?_⟩⟩
    have db : Dp K (Fz L (upd H2 pb (.tup [.str b.name, uh, .ref pm]))) (.ref pb) (dB ⟨b.name, b.held, ms⟩) := dp_new tr2 hpb (.cons (.str _) (.cons (dp_up (u1.trans u2).all.fz hh) (.cons dm .nil)))
    have u3 := Up.new (L := []) (o := .tup [.str b.name, uh, .ref pm]) hpb
    generalize hH3 : upd H2 pb (.tup [.str b.name, uh, .ref pm]) = H3 at db u3 hpt ⊢
    have tr3 := tr2.up u3
    have dt : Dp K (Fz L (upd H3 pt (.tup [.ref pb]))) (.ref pt) (.tuple [dB ⟨b.name, b.held, ms⟩]) := dp_new tr3 hpt (.cons db .nil)
    have u4 := Up.new (L := []) (o := .tup [.ref pb]) hpt
    generalize hH4 : upd H3 pt (.tup [.ref pb]) = H4 at dt u4 ⊢
    have tr4 := tr3.up u4
    have u14 := (u2.trans u3).trans u4
    refine cat_dp tr4 (by rw [List.length_take, List.length_map]; show min i g.boxes.length + 1 ≤ 1000; omega) (dp_up u14.all.fz d1) dt fun z5 H5 u5 d5 => ?_
    have tr5 := tr4.up u5
    have u05 := (u1.trans u14).trans u5
    refine ⟨_, rfl, a, _, 1, _, rfl, rfl, sqt_up u05 (sqt_up fz_le ha), atI_nat (j := 1) rfl, _, rfl, _, _, rfl, rfl, _, rfl, ?_⟩
    refine np ?_
    refine sl_drop tr5 (i + 1) (j := (i : Int) + 1) (by omega) (dp_up u05.all.fz hqd) fun z6 H6 u6 d6 => ?_
    have tr6 := tr5.up u6
    refine cat_dp tr6 (by simp; omega) (dp_up u6.all.fz d5) d6 fun z7 H7 u7 d7 => ?_
    have tr7 := tr6.up u7
    have u07 := (u05.trans u6).trans u7
    refine ⟨by show 2 ≤ sizeLine; decide, fun pz hpz => ?_⟩
    refine k _ _ (u07.trans (Up.new hpz)) ?_
    have dz := dp_new tr7 hpz (.cons (dp_up u07.all.fz hpd) (.cons d7 .nil))
    have e : dG (withM g i b ms) = .tuple [.tuple (g.spaces.map .str), .tuple ((g.boxes.map dB).take i ++ [dB ⟨b.name, b.held, ms⟩] ++ (g.boxes.map dB).drop (i + 1))] := by
      unfold dG withM
      rw [List.map_append, List.map_append, List.map_take, List.map_drop]
      rfl
    rw [e]
    exact dz
end
end Kf
end

section
set_option Elab.async false
set_option linter.all false
set_option maxRecDepth 100000
set_option maxHeartbeats 4000000
/-! plain: names that rise, letters left over, places left over -/
namespace Kf
open PySem L2 PyProof.Rows
def sing (c : Nat) : Str := ⟨#[c]⟩
theorem sing_inj {a b : Nat} (h : sing a = sing b) : a = b := by
  unfold sing at h
  injection h with h
  injection h with h
  injection h
theorem str_app (a b : Str) : (a ++ b).cps = a.cps ++ b.cps := rfl
theorem join_sing : ∀ cs : List Nat, (Str.join ⟨#[]⟩ (cs.map sing)).cps.toList = cs
  | [] => rfl
  | [c] => rfl
  | c :: d :: r => by
    have ih := join_sing (d :: r)
    have e : Str.join ⟨#[]⟩ ((c :: d :: r).map sing) = sing c ++ (⟨#[]⟩ : Str) ++ Str.join ⟨#[]⟩ ((d :: r).map sing) := rfl
    rw [e, str_app, str_app, Array.toList_append, Array.toList_append, ih]
    rfl
theorem txt_join (cs : List Nat) : (Txt.join ⟨#[]⟩ (cs.map sing)).cps.toList = cs := by
  have e : Txt.join ⟨#[]⟩ (cs.map sing) = Str.join ⟨#[]⟩ (cs.map sing) := PySem.StrLaws.glued_eq_join _ _
  rw [e]
  exact join_sing cs
theorem ltCps_anti : ∀ {a b : List Nat}, Spec.ltCps a b = false → Spec.ltCps b a = false → a = b
  | [], [], _, _ => rfl
  | [], _ :: _, h, _ => by simp [Spec.ltCps] at h
  | _ :: _, [], _, h => by simp [Spec.ltCps] at h
  | x :: a, y :: b, h1, h2 => by
    simp [Spec.ltCps] at h1 h2
    have e : x = y := by omega
    subst e
    rw [ltCps_anti (h1.2 rfl) (h2.2 rfl)]
theorem ltCps_lt : ∀ {a b : List Nat}, Spec.ltCps a b = true → a < b
  | [], [], h => by simp [Spec.ltCps] at h
  | [], _ :: _, _ => by simp
  | _ :: _, [], h => by simp [Spec.ltCps] at h
  | x :: a, y :: b, h => by
    simp [Spec.ltCps] at h
    rcases h with h | ⟨e, h⟩
    · exact List.Lex.rel h
    · subst e
      exact List.Lex.cons (ltCps_lt h)
theorem step_lt {x p : Str} (h : Spec.ltCps x.cps.toList p.cps.toList = false) (ne : p ≠ x) : p.cps.toList < x.cps.toList := by
  cases q : Spec.ltCps p.cps.toList x.cps.toList with
  | true => exact ltCps_lt q
  | false =>
    refine absurd ?_ ne
    have e := ltCps_anti q h
    obtain ⟨⟨a⟩⟩ := p
    obtain ⟨⟨b⟩⟩ := x
    simp at e
    rw [e]
theorem rising_of : ∀ (r : List Str) (p : Str), risingS p r = true → (p :: r).Nodup → (∀ x, x ∈ r → p.cps.toList < x.cps.toList) ∧ Rising r
  | [], _, _, _ => ⟨fun _ z => (nomatch z), List.Pairwise.nil⟩
  | x :: r, p, h, nd => by
    have h' : Spec.ltCps x.cps.toList p.cps.toList = false ∧ risingS x r = true := by
      have h0 : (!Spec.ltCps x.cps.toList p.cps.toList && risingS x r) = true := h
      simpa using h0
    obtain ⟨n1, n2⟩ := List.nodup_cons.mp nd
    obtain ⟨a1, a2⟩ := rising_of r x h'.2 n2
    have lt := step_lt h'.1 fun e => n1 (by rw [e]; exact List.mem_cons_self)
    refine ⟨fun y hy => ?_, List.pairwise_cons.mpr ⟨a1, a2⟩⟩
    rcases List.mem_cons.mp hy with e | e
    · rw [e]
      exact lt
    · exact List.lt_trans lt (a1 y e)
theorem rising_sorted {L : List Str} (h : sortedS L = true) (nd : L.Nodup) : Rising L := by
  cases L with
  | nil => exact List.Pairwise.nil
  | cons x r =>
    obtain ⟨a, b⟩ := rising_of r x h nd
    exact List.pairwise_cons.mpr ⟨a, b⟩
theorem letters_nodup : letters.cps.toList.Nodup := by decide +kernel
theorem letters_len : letters.cps.toList.length = 26 := by decide +kernel
/-- some letter is no name yet -/
theorem letter_left {names : List Str} (h : names.length < 26) : letters.cps.toList.filter (fun c => decide (sing c ∉ names)) ≠ [] := by
  intro e
  have all : ∀ x, x ∈ letters.cps.toList.map sing → x ∈ names := by
    intro x hx
    obtain ⟨c, hc, rfl⟩ := List.mem_map.mp hx
    by_cases q : sing c ∈ names
    · exact q
    · have : c ∈ letters.cps.toList.filter (fun c => decide (sing c ∉ names)) := List.mem_filter.mpr ⟨hc, decide_eq_true q⟩
      rw [e] at this
      cases this
  have nd : (letters.cps.toList.map sing).Nodup := nodup_map letters_nodup fun x _ y _ e => sing_inj e
  have := len_le nd all
  rw [List.length_map, letters_len] at this
  omega
/-- where slots were put in places of their kind, one more place of a kind is left -/
theorem place_left {held : List Slt} {o : List Nat} {i : Nat} (hi : i < held.length) (ho : o.length = i) (nd : o.Nodup) (keep : ∀ (j k : Nat), o[j]? = some k → held[k]? = held[j]?) : ∃ k, k < held.length ∧ k ∉ o ∧ held[k]? = held[i]? := by
  apply Classical.byContradiction
  intro hno
  have all : ∀ k, k < held.length → held[k]? = held[i]? → k ∈ o := fun k hk e => Classical.byContradiction fun hn => hno ⟨k, hk, hn, e⟩
  let A := (List.range held.length).filter fun k => decide (held[k]? = held[i]?)
  let B := (List.range i).filter fun k => decide (held[k]? = held[i]?)
  have hA : ∀ k, k ∈ A ↔ k < held.length ∧ held[k]? = held[i]? := fun k => by
    rw [List.mem_filter, List.mem_range, decide_eq_true_eq]
  have hB : ∀ k, k ∈ B ↔ k < i ∧ held[k]? = held[i]? := fun k => by
    rw [List.mem_filter, List.mem_range, decide_eq_true_eq]
  have nA : A.Nodup := List.Pairwise.filter _ List.nodup_range
  have nB : B.Nodup := List.Pairwise.filter _ List.nodup_range
  have le1 : (B ++ [i]).length ≤ A.length := by
    refine len_le (List.nodup_append.mpr ⟨nB, by simp, fun x hx y hy e => ?_⟩) fun x hx => ?_
    · rw [List.mem_singleton] at hy
      subst hy
      subst e
      exact absurd ((hB _).mp hx).1 (Nat.lt_irrefl _)
    · rcases List.mem_append.mp hx with q | q
      · exact (hA x).mpr ⟨by have := ((hB x).mp q).1; omega, ((hB x).mp q).2⟩
      · rw [List.mem_singleton.mp q]
        exact (hA i).mpr ⟨hi, rfl⟩
  have le2 : (A.map fun k => o.idxOf k).length ≤ B.length := by
    refine len_le (nodup_map nA fun x hx y hy e => ?_) fun x hx => ?_
    · have hx2 := all x ((hA x).mp hx).1 ((hA x).mp hx).2
      have hy2 := all y ((hA y).mp hy).1 ((hA y).mp hy).2
      have e1 := get_idx hx2
      have e2 := get_idx hy2
      rw [e] at e1
      rw [e1] at e2
      exact Option.some.inj e2
    · obtain ⟨k, hk, rfl⟩ := List.mem_map.mp hx
      obtain ⟨k1, k2⟩ := (hA k).mp hk
      have hk2 := all k k1 k2
      have e1 := get_idx hk2
      refine (hB _).mpr ⟨?_, ?_⟩
      · rw [← ho]
        exact List.idxOf_lt_length_iff.mpr hk2
      · rw [← keep _ _ e1]
        exact k2
  rw [List.length_append, List.length_singleton] at le1
  rw [List.length_map] at le2
  omega
end Kf
end

section
set_option Elab.async false
set_option linter.all false
set_option maxRecDepth 100000
set_option maxHeartbeats 4000000
/-! lists made by comprehensions whose items are drawn -/
namespace Kf
open PySem L2
structure LcJ (K : PySem.W.Frag) (L L0 : List Addr) (D : Addr) (S : Nat → Hp → Prop) (R : PyData → Prop) (Z : Hp → V → Prop) (H1 : Hp) (i : Nat) (H : Hp) (ys : List V) : Prop where
  at_ : H D = some (.lst ys)
  len : ys.length = i
  up : Up (D :: L0) H1 H
  tr : Tr (D :: L) H
  st : S i H
  dat : ∃ ds, ds.length = i ∧ (∀ d ∈ ds, R d) ∧ DpAll K (Fz (D :: L) H) ys ds
  zs : ∀ y ∈ ys, Z (Fz (D :: L) H) y
def ZUp (Z : Hp → V → Prop) : Prop := ∀ H H' v, Up [] H H' → Z H v → Z H' v
section
variable {K : PySem.W.Frag} {L L0 : List Addr} {D : Addr} {S : Nat → Hp → Prop} {R : PyData → Prop} {Z : Hp → V → Prop} {H1 H H4 : Hp} {i n : Nat} {ys : List V} {y : V} {d : PyData}
theorem LcJ.up0 (I : LcJ K L L0 D S R Z H1 i H ys) (C : LcC L L0 D S [] H1) : Up L0 H1 H := I.up.drop C.new
theorem LcJ.gw (I : LcJ K L L0 D S R Z H1 i H ys) (C : LcC L L0 D S [] H1) : Up [] (Fz L H1) (Fz (D :: L) H) :=
  ((I.up0 C).mono (L' := D :: L) fun x hx => List.mem_cons_of_mem _ (C.sub x hx)).drop C.new |>.gw fun x hx => by
    rcases List.mem_cons.mp hx with q | q
    · exact .inr (by rw [q]; exact C.new)
    · exact .inl q
theorem LcJ.add (I : LcJ K L L0 D S R Z H1 i H ys) (C : LcC L L0 D S [] H1) (hZ : ZUp Z) (hi : i < 1000) (u : Up L0 H H4) (s : S (i + 1) H4) (r : R d) (h : Dp K (Fz (D :: L) H4) y d) (z : Z (Fz (D :: L) H4) y) :
    ∃ acc, H4 D = some (.lst acc) ∧ acc.length < sizeLine ∧ ∃ ys, LcJ K L L0 D S R Z H1 (i + 1) (upd H4 D (.lst (acc ++ [y]))) ys := by
  have hD : D ∉ L0 := fun z => C.out (C.sub _ z)
  have up2 : Up (D :: L0) H1 H4 := I.up.trans (u.mono fun x hx => List.mem_cons_of_mem _ hx)
  have up3 : Up (D :: L) H H4 := u.mono fun x hx => List.mem_cons_of_mem _ (C.sub x hx)
  obtain ⟨ds, d1, d2, d3⟩ := I.dat
  refine ⟨ys, u.keep hD I.at_, by rw [I.len]; exact Nat.lt_of_lt_of_le hi (by decide), ys ++ [y], upd_same, ?_, up2.trans (Up.put List.mem_cons_self), (I.tr.up u).up (Up.put (L := [D]) List.mem_cons_self), C.stab _ _ _ up2 s, ⟨ds ++ [d], ?_, fun e he => ?_, ?_⟩, fun x hx => ?_⟩
  · rw [List.length_append, I.len]
    rfl
  · rw [List.length_append, d1]
    rfl
  · rcases List.mem_append.mp he with q | q
    · exact d2 e q
    · rw [List.mem_singleton.mp q]
      exact r
  · rw [fz_put List.mem_cons_self]
    exact dpa_app (dpa_up up3.fz d3) (.cons h .nil)
  · rw [fz_put List.mem_cons_self]
    rcases List.mem_append.mp hx with q | q
    · exact hZ _ _ _ up3.fz (I.zs x q)
    · rw [List.mem_singleton.mp q]
      exact z
variable {g : TG} {tt : TT} {te : TE} {vs : List Nat} {σ : L2.St} {Qd : Hp → Prop} {lo : Int}
theorem lcJR (C : LcC L L0 D S [] H1) (hZ : ZUp Z)
    (hs : ∀ i ys H, i < n → LcJ K L L0 D S R Z H1 i H ys → g (.int (lo + i)) (wipe σ vs) H fun σ2 H2 => wipe σ2 vs = wipe σ vs ∧ tt σ2 H2 fun b H3 =>
      if b = true then te σ2 H3 fun y H4 => ∃ acc, H4 D = some (.lst acc) ∧ acc.length < sizeLine ∧ ∃ ys, LcJ K L L0 D S R Z H1 (i + 1) (upd H4 D (.lst (acc ++ [y]))) ys else ∃ ys, LcJ K L L0 D S R Z H1 (i + 1) H3 ys)
    (hd : ∀ H ys ds, Up L0 H1 H → Tr L H → S n H → ds.length = n → (∀ d ∈ ds, R d) → SqL K (Fz L H) D ys → DpAll K (Fz L H) ys ds → (∀ y ∈ ys, Z (Fz L H) y) → Qd H) :
    ∃ W : Nat → Nat → Hp → Prop, (∃ m, W 0 m (upd H1 D (.lst []))) ∧ ∀ i m H, W i m H →
      ((Itr lo n).stop i H ∧ Qd H) ∨ ((Itr lo n).go i H ∧ ∃ Nx : Hp → Prop, (∀ H', Nx H' → ∃ m', m' < m ∧ W (i + 1) m' H') ∧ ∀ x H', (Itr lo n).yld i H x H' → g x (wipe σ vs) H' fun σ2 H2 => wipe σ2 vs = wipe σ vs ∧ tt σ2 H2 fun b H3 =>
        if b = true then te σ2 H3 fun y H4 => ∃ acc, H4 D = some (.lst acc) ∧ acc.length < sizeLine ∧ Nx (upd H4 D (.lst (acc ++ [y]))) else Nx H3) := by
  refine lc_range (Qd := Qd) (fun i H => ∃ ys, LcJ K L L0 D S R Z H1 i H ys) ⟨[], upd_same, rfl, Up.new C.new, (C.tr.up (Up.new (L := []) C.new)).cons upd_same, C.stab _ _ _ Up.refl C.st, ⟨[], rfl, fun _ z => (nomatch z), .nil⟩, fun _ z => (nomatch z)⟩ (fun i H hi ⟨ys, I⟩ => hs i ys H hi I) fun H ⟨ys, I⟩ => ?_
  obtain ⟨ds, d1, d2, d3⟩ := I.dat
  have sub := fz_sub (H := H) (L := L) (L' := D :: L) fun x hx => List.mem_cons_of_mem _ hx
  refine hd H ys ds (I.up0 C) (I.tr.sub fun x hx => List.mem_cons_of_mem _ hx) I.st d1 d2 (.inl (.inl ?_)) (dpa_up sub d3) fun y hy => hZ _ _ _ sub (I.zs y hy)
  rw [fz_out C.out]
  exact I.at_
end
/-! the draws' state, carried -/
section
variable {K : PySem.W.Frag} {L L1 L' : List Addr} {H H1 : Hp} {dd D : Addr} {m m' : Nat}
theorem DS.to (d : DS K L H dd m) (u : Up [] (Fz L H) (Fz L1 H1)) (e : H1 dd = H dd) (h : dd ∈ L1) (hm : m ≤ m') : DS K L1 H1 dd m' := by
  obtain ⟨_, c, ns, a, b, x, h1, h2, h3, h4, h5, h6, h7, h8, h9⟩ := d
  exact ⟨h, c, ns, a, b, x, e.trans h1, sql_up u h2, h3, h4, h5, by omega, h7, h8, by omega⟩
theorem DS.some (d : DS K L H dd m) : ∃ o, H dd = some o := by
  obtain ⟨_, c, ns, a, b, x, h1, _⟩ := d
  exact ⟨_, h1⟩
theorem DS.mem (d : DS K L H dd m) : dd ∈ L := d.1
theorem DS.ne (d : DS K L H dd m) (h : H D = none) : dd ≠ D := fun e => by
  obtain ⟨o, ho⟩ := d.some
  rw [e, h] at ho
  cases ho
theorem Up.eq (u : Up L' H H1) (h : dd ∉ L') {o : HO} (e : H dd = .some o) : H1 dd = H dd := (u.keep h e).trans e.symm
/-- by what changes neither the draws' dict nor what may not change -/
theorem DS.on (d : DS K L H dd m) (u : Up L' H H1) (h : dd ∉ L') (s : ∀ x, x ∈ L' → x ∈ L) (hm : m ≤ m') : DS K L H1 dd m' := by
  obtain ⟨o, ho⟩ := d.some
  exact d.to (u.mono s).fz (u.eq h ho) d.mem hm
/-- a new place besides -/
theorem DS.grow (d : DS K L H dd m) (h : H D = none) (o : HO) : DS K (D :: L) (upd H D o) dd m :=
  d.to ((Up.new (L := L) h).gw fun x hx => by
    rcases List.mem_cons.mp hx with q | q
    · exact .inr (by rw [q]; exact h)
    · exact .inl q) (upd_ne (d.ne h)) (List.mem_cons_of_mem _ d.mem) (Nat.le_refl _)
/-- one place less -/
theorem DS.less (d : DS K (D :: L) H dd m) (h : dd ∈ L) : DS K L H dd m := d.to (fz_sub fun x hx => List.mem_cons_of_mem _ hx) rfl h (Nat.le_refl _)
end
end Kf
end

section
set_option Elab.async false
set_option linter.all false
set_option maxRecDepth 100000
set_option maxHeartbeats 4000000
/-! walks: names -/
namespace Kf
open PySem L2 PyProof.Rows
def spNames (K : PySem.W.Frag) : Sp := fun vs H Q _ => ∃ (L : List Addr) (dd : Addr) (m n : Nat), vs = [.ref dd, .int (n : Nat)] ∧ n ≤ 8 ∧ Tr L H ∧ DS K L H dd m ∧ m + 200 < most ∧
  ∀ (p : Addr) (names : List Str) (H' : Hp) (m' : Nat), Up [dd] H H' → DS K L H' dd m' → m' ≤ m + 200 → names.length = n → Rising names → (∀ s, s ∈ names → OkName s) → Dp K (Fz L H') (.ref p) (.tuple (names.map .str)) → Q (.ref p) H'
theorem two_at (a b : Nat) {k : Nat} (hk : k < 2) : ∃ c : Nat, (c = a ∨ c = b) ∧ atI [V.int (a : Int), V.int (b : Int)] (k : Int) = some (.int (c : Int)) := by
  match k, hk with
  | 0, _ => exact ⟨a, .inl rfl, atI_nat (j := 0) rfl⟩
  | 1, _ => exact ⟨b, .inr rfl, atI_nat (j := 1) rfl⟩
theorem sings_of : ∀ {ds : List PyData}, (∀ d ∈ ds, ∃ c, c ∈ letters.cps.toList ∧ d = .str (sing c)) → ∃ cs : List Nat, ds = (cs.map sing).map .str ∧ ∀ c, c ∈ cs → c ∈ letters.cps.toList
  | [], _ => ⟨[], rfl, fun _ z => nomatch z⟩
  | d :: ds, h => by
    obtain ⟨c, hc, e⟩ := h d List.mem_cons_self
    obtain ⟨cs, e2, h2⟩ := sings_of fun x hx => h x (List.mem_cons_of_mem _ hx)
    refine ⟨c :: cs, by rw [e, e2]; rfl, fun x hx => ?_⟩
    rcases List.mem_cons.mp hx with q | q
    · rw [q]
      exact hc
    · exact h2 x q
theorem sum_sing : ∀ cs : List Nat, ((cs.map sing).map fun s => s.length).sum = cs.length
  | [] => rfl
  | c :: cs => by
    rw [List.map_cons, List.map_cons, List.sum_cons, sum_sing cs]
    show 1 + cs.length = cs.length + 1
    omega
section
variable {P : Program} {w : World} {K : PySem.W.Frag} {mg : Str → Option Value} {base : Heap} {f f0 f1 f2 f3 f4 f5 f6 f7 f8 f9 : Addr} {fd fd0 fd1 fd2 fd3 fd4 fd5 fd6 fd7 fd8 fd9 : FuncData}
theorem ok_names (T : Txt K mg) (D1 : Df K mg "_law_draw" sDraw ["_law_d", "_law_many"] f1 fd1) (D2 : Df K mg "_law_pick" sPick ["_law_d", "_law_some"] f2 fd2) (D : Df K mg "_law_names" sNames ["_law_d", "_law_many"] f fd) : FnOk P w K mg base CX0 3 f fd ["_law_d", "_law_many"] (spNames K) := by
  have G1 : FnOk P w K mg base CX0 1 f1 fd1 _ (spDraw K) := ok_draw T D1
  have G2 : FnOk P w K mg base CX0 2 f2 fd2 _ (spPk K) := ok_pick T D1 D2
  refine D.F.ok scNames (fun vs H Q E h => ?_) (fun cdv A outer s H vs Q E hr h => ?_)
  · obtain ⟨L, dd, m, n, rfl, _⟩ := h
    rfl
  · obtain ⟨L, dd, m, n, rfl, n8, tr0, ds0, hm, k⟩ := h
    have hr1 : Room 1 _ := hr.mono (by decide)
    refine ⟨_, pss_cons (ps_asg (pe_tup (pa_cons pe_str (pa_cons (pe_lst pa_nil) pa_nil))) (pg_pair (i := 2) (j := 3) rfl scNames.nd rfl rfl (Or.inr rfl) (Or.inr rfl) (Or.inl rfl) (Or.inl rfl)))
      (pss_cons (ps_while PassesOwn.never (pt_cmpR op_lt (pe_callB cr_len (by rfl) T.len bt_len (pa_cons (pv 3) pa_nil)) (pv 1) (nomark _))
        (pss_cons (ps_asg (pe_tup (pa_cons (pe_op op_add pe_int (pe_cd D1 G1 hr1 (by rfl) (pa_cons (pv 0) (pa_cons (pe_ix ix_list (pe_lst (pa_cons pe_int (pa_cons pe_int pa_nil))) (pe_cd D1 G1 hr1 (by rfl) (pa_cons (pv 0) (pa_cons pe_int pa_nil))) (fun _ _ => rfl)) pa_nil))))
            (pa_cons (pe_ix ix_list (pe_lst (pa_cons pe_int (pa_cons pe_int pa_nil))) (pe_cd D1 G1 hr1 (by rfl) (pa_cons (pv 0) (pa_cons pe_int pa_nil))) (fun _ _ => rfl)) pa_nil))) (pg_pair (i := 4) (j := 5) rfl scNames.nd rfl rfl (Or.inl rfl) (Or.inr rfl) (Or.inl rfl) (Or.inl rfl)))
        (pss_cons (ps_set (i := 6) scNames.nd rfl (Or.inl rfl) (pe_join pe_str (pe_lc (own := [("_law_k", 7)]) (g := gName 7) (tt := tYes) rfl scNames.nd (pi_range1 (by rfl) T.range (pa_cons (pv 4) pa_nil)) (blkOk_by (N := nNames) (sc := defScope sNames) (by decide +kernel)) (fun _ _ _ _ _ => pg_name (i := 7) scNames.nd rfl (Or.inl rfl)) (fun _ _ _ _ _ => pts_nil)
            (fun _ _ _ _ _ => pe_ix (r := rIxS) ix_str (pv 2) (pe_cd (sp := spDraw K) D1 G1 hr1 (by rfl) (pa_cons (pv 0) (pa_cons (pv 5) pa_nil))) (fun _ _ => rfl)))))
        (pss_cons (ps_if (pt_cmpR (op_inV (α := Str) (huV hr (by decide))) (pv 6) (pv 3) rfl)
            (pss_one (ps_set (i := 6) scNames.nd rfl (Or.inl rfl) (pe_cd D2 G2 hr (by rfl) (pa_cons (pv 0) (pa_cons (pe_lc (own := [("_law_sign", 8)]) (g := gName 8) (tt := tTest (tOp (rInV Str K true) (tVar 8) (tVar 3))) rfl scNames.nd (pi_str (pv 2)) (blkOk_by (N := nNames) (sc := defScope sNames) (by decide +kernel)) (fun _ _ _ _ _ => pg_name (i := 8) scNames.nd rfl (Or.inl rfl))
              (fun _ _ _ _ _ => pts_one (pt_cmpR (r := rInV Str K true) (op_notInV (α := Str) (huV hr (by decide))) (pv 8) (pv 3) rfl)) (fun _ _ _ _ _ => pv 8)) pa_nil))))) pss_nil)
        (pss_one (ps_expr (pe_bm PySem.F.plainAttrs_list PySem.F.slot_list_append PySem.F.type_list_append mt_append (pv 3) (pa_cons (pv 6) pa_nil))))))))
      (pss_one (ps_ret (pe_callTy call_tuple_of (by rfl) T.tuple bt_tuple (pa_cons (pe_callB cr_sortedS (by rfl) T.sorted bt_sorted (pa_cons (pv 3) pa_nil)) pa_nil))))), ?_⟩
    refine ⟨Nat.zero_le _, fun fA hfA => ⟨by show 2 ≤ sizeLine; decide, fun t0 ht0 => ⟨t0, _, _, rfl, sqt_of upd_same, ?_⟩⟩⟩
    have nd0 : dd ≠ fA := ds0.ne hfA
    have trA : Tr (fA :: L) (upd H fA (.lst [])) := (tr0.up (Up.new (L := []) hfA)).cons upd_same
    have dsA : DS K (fA :: L) (upd H fA (.lst [])) dd m := ds0.grow hfA _
    have uT : Up [] (upd H fA (.lst [])) (upd (upd H fA (.lst [])) t0 (.tup [.str letters, .ref fA])) := Up.new ht0
    refine ⟨fun μ σ H' => ∃ (names : List Str) (c4 c5 c6 : Option V) (m1 : Nat), σ = [some (.ref dd), some (.int (n : Nat)), some (.str letters), some (.ref fA), c4, c5, c6, none, none] ∧ H' fA = some (.lst (names.map V.str)) ∧ names.Nodup ∧ (∀ s, s ∈ names → OkName s) ∧ names.length ≤ n ∧
      DS K (fA :: L) H' dd m1 ∧ m1 ≤ m + 20 * names.length ∧ Up [dd] H H' ∧ Tr (fA :: L) H' ∧ μ = n - names.length, ⟨_, [], _, _, _, m, rfl, uT.at upd_same, List.nodup_nil, fun _ z => (nomatch z), Nat.zero_le _, dsA.on uT (fun z => nomatch z) (fun _ z => (nomatch z)) (Nat.le_refl _), Nat.le_refl _, (Up.new hfA).trans uT.all, trA.up uT, rfl⟩, ?_⟩
    rintro μ σ H1 ⟨names, c4, c5, c6, m1, rfl, hf, nd, okn, ln, ds, hm1, up, tr, rfl⟩
    refine ⟨_, rfl, fA, _, rfl, .inl (sql_of hf), _, rfl, _, _, rfl, rfl, _, rfl, ?_⟩
    refine ite2 (fun hlt => ⟨_, fun _ _ z => z, ?_⟩) (fun hge => ?_)
    · have hlt2 : names.length < n := by
        have h0 := of_decide_eq_true hlt
        rw [List.length_map] at h0
        omega
      have hmm : m1 + 40 < most := by
        unfold most at hm ⊢
        omega
      have sdd : ∀ x, x ∈ [dd] → x ∈ fA :: L := fun x hx => by
        rw [List.mem_singleton.mp hx]
        exact ds.mem
      have nfd : fA ∉ [dd] := fun z => nd0 (List.mem_singleton.mp z).symm
      refine ⟨_, rfl, (by show 2 ≤ sizeLine; decide), fun l hl => ⟨_, rfl, fA :: L, dd, m1, 2, rfl, by decide, by decide, tr.up (Up.new (L := []) hl), ds.on (Up.new (L := []) hl) (fun z => nomatch z) (fun _ z => (nomatch z)) (Nat.le_refl _), by omega, fun k1 H2 hk1 u2 ds2 => ?_⟩⟩
      have tr2 := (tr.up (Up.new (L := []) (o := .lst [.int 2, .int 8]) hl)).up u2
      obtain ⟨b, hb, hat⟩ := two_at 2 8 hk1
      have nl : l ∉ [dd] := fun z => ds.ne hl (List.mem_singleton.mp z).symm
      refine ⟨l, _, _, .int (b : Int), rfl, rfl, sql_of (u2.keep nl upd_same), hat, fA :: L, dd, m1 + 1, b, rfl, by omega, by omega, tr2, ds2, by omega, fun k2 H3 hk2 u3 ds3 => ?_⟩
      have tr3 := tr2.up u3
      refine ⟨_, _, rfl, rfl, (by show 2 ≤ sizeLine; decide), fun l2 hl2 => ⟨_, rfl, fA :: L, dd, m1 + 2, 2, rfl, by decide, by decide, tr3.up (Up.new (L := []) hl2), ds3.on (Up.new (L := []) hl2) (fun z => nomatch z) (fun _ z => (nomatch z)) (Nat.le_refl _), by omega, fun k3 H4 hk3 u4 ds4 => ?_⟩⟩
      have tr4 := (tr3.up (Up.new (L := []) (o := .lst [.int 3, .int 26]) hl2)).up u4
      obtain ⟨wd, hwd, hat2⟩ := two_at 3 26 hk3
      have nl2 : l2 ∉ [dd] := fun z => ds3.ne hl2 (List.mem_singleton.mp z).symm
      refine ⟨l2, _, _, .int (wd : Int), rfl, rfl, sql_of (u4.keep nl2 upd_same), hat2, by show 2 ≤ sizeLine; decide, fun t ht => ⟨t, _, _, rfl, sqt_of upd_same, ?_⟩⟩
      have uu1 : Up [dd] H1 H4 := (((Up.new (L := []) hl).all.trans u2).trans u3).trans ((Up.new (L := []) hl2).all.trans u4)
      have uu : Up [dd] H1 (upd H4 t (.tup [.int (1 + (k2 : Int)), .int (wd : Int)])) := uu1.trans (Up.new ht)
      have tr5 : Tr (fA :: L) (upd H4 t (.tup [.int (1 + (k2 : Int)), .int (wd : Int)])) := tr4.up (Up.new (L := []) ht)
      have ds5 : DS K (fA :: L) (upd H4 t (.tup [.int (1 + (k2 : Int)), .int (wd : Int)])) dd (m1 + 3) := ds4.on (Up.new (L := []) ht) (fun z => nomatch z) (fun _ z => (nomatch z)) (Nat.le_refl _)
      have b62 : (100 : Int) < 2 ^ 62 := by decide
      have hk8 : k2 < 8 := by omega
      refine ⟨⟨_, rfl⟩, _, rfl, _, rfl, (by show -(2 ^ 62) ≤ 1 + (k2 : Int); omega), (by show 1 + (k2 : Int) < 2 ^ 62; omega), fun D hD => ?_⟩
      have nDd : dd ∉ [D] := fun z => ds5.ne hD (List.mem_singleton.mp z)
      have C : LcC (fA :: L) [dd] D (fun i H' => DS K (D :: fA :: L) H' dd (m1 + 3 + i)) [] (upd H4 t (.tup [.int (1 + (k2 : Int)), .int (wd : Int)])) := by
        refine ⟨hD, tr5, sdd, Nat.zero_le _, ds5.to (Up.refl.gw fun x hx => ?_) rfl (List.mem_cons_of_mem _ ds5.mem) (Nat.le_refl _), fun i H' ys _ st => st.on (Up.put (L := [D]) List.mem_cons_self) nDd (fun x hx => by rw [List.mem_singleton.mp hx]; exact List.mem_cons_self) (Nat.le_refl _)⟩
        rcases List.mem_cons.mp hx with q | q
        · exact .inr (by rw [q]; exact hD)
        · exact .inl q
      have hwd26 : wd ≤ 26 := by omega
      refine lcJR (K := K) (R := fun d => ∃ c, c ∈ letters.cps.toList ∧ d = .str (sing c)) (Z := fun _ _ => True) C (fun _ _ _ _ _ => trivial) (fun i ys H' hi I => ?_) (fun H6 ys dsl up6 tr6 st6 len6 hR hsq hdp _ => ?_)
      · have hi8 : i < 8 := by omega
        refine ⟨rfl, yesT ⟨_, rfl, _, rfl, _, rfl, D :: fA :: L, dd, m1 + 3 + i, wd, rfl, by omega, by omega, I.tr, I.st, by omega, fun k4 H7 hk4 u7 ds7 => ?_⟩⟩
        have hc : k4 < letters.cps.toList.length := by rw [letters_len]; omega
        exact ⟨letters, _, letters.cps.toList[k4], rfl, rfl, by decide, atI_nat (List.getElem?_eq_getElem hc), I.add C (fun _ _ _ _ _ => trivial) (by omega) u7 ds7 ⟨_, List.getElem_mem hc, rfl⟩ (.str _) trivial⟩
      · obtain ⟨cs, rfl, hlet⟩ := sings_of hR
        rw [dpa_strs hdp] at hsq
        rw [List.length_map, List.length_map] at len6
        have lcs : cs.length = 1 + k2 := by omega
        have hf6 : H6 fA = some (.lst (names.map V.str)) := (uu.trans up6).keep nfd hf
        have ds6 : DS K (fA :: L) H6 dd (m1 + 12) := (st6.less ds5.mem).on (Up.refl (L := [])) (fun z => nomatch z) (fun _ z => (nomatch z)) (by omega)
        -- with its next name
        have fin : ∀ (nm : Str) (d4 d5 : Option V) (H7 : Hp) (m7 : Nat), OkName nm → nm ∉ names → H7 fA = some (.lst (names.map V.str)) → Up [dd] H1 H7 → Tr (fA :: L) H7 → DS K (fA :: L) H7 dd m7 → m7 ≤ m1 + 20 →
            ∃ μ', μ' < n - names.length ∧ ∃ (names' : List Str) (c4 c5 c6 : Option V) (m1 : Nat), [some (.ref dd), some (.int (n : Nat)), some (.str letters), some (.ref fA), d4, d5, some (.str nm), none, none] = [some (.ref dd), some (.int (n : Nat)), some (.str letters), some (.ref fA), c4, c5, c6, none, none] ∧
              (upd H7 fA (.lst (names.map V.str ++ [.str nm]))) fA = some (.lst (names'.map V.str)) ∧ names'.Nodup ∧ (∀ s, s ∈ names' → OkName s) ∧ names'.length ≤ n ∧ DS K (fA :: L) (upd H7 fA (.lst (names.map V.str ++ [.str nm]))) dd m1 ∧ m1 ≤ m + 20 * names'.length ∧ Up [dd] H (upd H7 fA (.lst (names.map V.str ++ [.str nm]))) ∧ Tr (fA :: L) (upd H7 fA (.lst (names.map V.str ++ [.str nm]))) ∧ μ' = n - names'.length := by
          intro nm d4 d5 H7 m7 ok hn h7 u7 t7 s7 hm7
          have up7 : Up [fA] H7 (upd H7 fA (.lst (names.map V.str ++ [.str nm]))) := Up.put List.mem_cons_self
          have upA : Up [fA, dd] H (upd H7 fA (.lst (names.map V.str ++ [.str nm]))) := ((up.trans u7).mono fun x hx => List.mem_cons_of_mem _ hx).trans (up7.mono fun x hx => by rw [List.mem_singleton.mp hx]; exact List.mem_cons_self)
          refine ⟨n - (names ++ [nm]).length, by rw [List.length_append, List.length_singleton]; omega, names ++ [nm], d4, d5, _, m7, rfl, by rw [upd_same, List.map_append]; rfl, ?_, fun x hx => ?_, by rw [List.length_append, List.length_singleton]; omega, s7.on up7 (fun z => nd0 (List.mem_singleton.mp z)) (fun x hx => by rw [List.mem_singleton.mp hx]; exact List.mem_cons_self) (Nat.le_refl _), by rw [List.length_append, List.length_singleton]; omega, upA.drop hfA, t7.up up7, rfl⟩
          · refine List.nodup_append.mpr ⟨nd, by simp, fun x hx y hy e => ?_⟩
            rw [e, List.mem_singleton.mp hy] at hx
            exact hn hx
          · rcases List.mem_append.mp hx with q | q
            · exact okn x q
            · rw [List.mem_singleton.mp q]
              exact ok
        refine ⟨_, D, cs.map sing, rfl, rfl, .inl (sql_up fz_le hsq), ?_, ?_⟩
        · rw [sum_sing, List.length_map]
          show cs.length + cs.length * 0 ≤ 16777216
          omega
        have ej := txt_join cs
        have okj : OkName (Txt.join ⟨#[]⟩ (cs.map sing)) := by
          refine ⟨?_, ?_, fun c hc => ?_⟩
          · rw [← Array.length_toList, ej]
            omega
          · rw [← Array.length_toList, ej]
            omega
          · rw [ej] at hc
            exact hlet c hc
        have lz : (names.map V.str).length < sizeLine := by
          rw [List.length_map]
          exact Nat.lt_of_le_of_lt (show names.length ≤ 1000 by omega) (by decide)
        refine ⟨_, rfl, _, rfl, Txt.join ⟨#[]⟩ (cs.map sing), names, fA, _, .str _, rfl, .inr (sql_of hf6), dpa_of_strs names, _, rfl, ?_⟩
        by_cases hin : Txt.join ⟨#[]⟩ (cs.map sing) ∈ names
        · refine iteD hin ?_
          refine ⟨_, rfl, _, rfl, letters, rfl, fun D2 hD2 => ?_⟩
          have C2 : LcC (fA :: L) [] D2 (fun _ _ => True) (letters.cps.toList.map fun c => if decide (sing c ∉ names) = true then some (PyData.str (sing c)) else Option.none) H6 := .pure hD2 tr6 (by rw [List.length_map, letters_len]; decide)
          refine lcS (x := letters) (K := K) C2 (by rw [List.length_map, Array.length_toList]) (fun i c o ys H' hc ho I => ?_) fun H7 up7 tr7 _ hdp7 => ?_
          · have hc2 : letters.cps.toList[i]? = some c := by rw [Array.getElem?_toList]; exact hc
            have hf' := (I.up0 C2).at hf6
            refine ⟨rfl, _, rfl, _, rfl, sing c, names, fA, _, .str _, rfl, .inr (sql_of hf'), dpa_of_strs names, _, rfl, ?_⟩
            by_cases hnc : sing c ∉ names
            · refine iteD hnc ⟨_, rfl, I.add C2 .refl trivial (d := .str (sing c)) ?_ (.str _)⟩
              rw [map_at hc2, if_pos (decide_eq_true hnc)]
            · refine iteDF hnc (I.skip C2 .refl trivial ?_)
              rw [map_at hc2, if_neg (by rw [decide_eq_false hnc]; decide)]
          · rw [fm_if] at hdp7
            obtain ⟨ys7, hy7, hd7⟩ := dp_list hdp7
            have e7 : (letters.cps.toList.filter fun c => decide (sing c ∉ names)).map (fun c => PyData.str (sing c)) = ((letters.cps.toList.filter fun c => decide (sing c ∉ names)).map sing).map .str := by
              rw [List.map_map]
              rfl
            rw [e7] at hd7
            rw [dpa_strs hd7] at hy7
            have ds7 : DS K (fA :: L) H7 dd (m1 + 12) := ds6.on up7 (fun z => nomatch z) (fun _ z => (nomatch z)) (Nat.le_refl _)
            have pos : 0 < (letters.cps.toList.filter fun c => decide (sing c ∉ names)).length := List.length_pos_iff.mpr (letter_left (by omega))
            have le26 : (letters.cps.toList.filter fun c => decide (sing c ∉ names)).length ≤ 26 := by
              have := List.length_filter_le (fun c => decide (sing c ∉ names)) letters.cps.toList
              rw [letters_len] at this
              exact this
            refine ⟨fA :: L, dd, m1 + 12, .ref D2, _, rfl, by rw [List.length_map, List.length_map]; exact pos, by rw [List.length_map, List.length_map]; omega, tr7, ds7, by omega, fun H8 u8 => ⟨D2, rfl, .inr (sql_up fz_le (sql_up (u8.mono sdd).fz hy7))⟩, fun k5 y H8 hy u8 ds8 => ?_⟩
            obtain ⟨z1, hz1, rfl⟩ := map_some hy
            obtain ⟨c, hc, rfl⟩ := map_some hz1
            have hc3 := List.mem_filter.mp (List.mem_of_getElem? hc)
            have hcn : sing c ∉ names := of_decide_eq_true hc3.2
            have hf8 : H8 fA = some (.lst (names.map V.str)) := u8.keep nfd (up7.at hf6)
            have okc : OkName (sing c) := by
              refine ⟨by show 1 ≤ 1; decide, by show 1 ≤ 8; decide, fun x hx => ?_⟩
              have hx' : x ∈ [c] := hx
              rw [List.mem_singleton.mp hx']
              exact hc3.1
            refine ⟨_, rfl, .inl ⟨rfl, _, sql_of hf8⟩, _, rfl, fA, _, _, rfl, rfl, hf8, lz, ?_⟩
            exact fin (sing c) _ _ H8 _ okc hcn hf8 ((uu.trans up6).trans (up7.all.trans u8)) (tr7.up u8) ds8 (by omega)
        · refine iteDF hin ?_
          refine ⟨_, rfl, .inl ⟨rfl, _, sql_of hf6⟩, _, rfl, fA, _, _, rfl, rfl, hf6, lz, ?_⟩
          exact fin _ _ _ H6 _ okj hin hf6 (uu.trans up6) tr6 ds6 (by omega)
    · have len : names.length = n := by
        have h0 := hge
        rw [decide_eq_true_eq, List.length_map] at h0
        omega
      refine ⟨_, rfl, fA, names, rfl, sql_of hf, by omega, fun ys p hp hs hpn => ⟨p, _, rfl, .inl ⟨sql_of upd_same, fun q hq => ?_⟩⟩⟩
      have w1 : Up [] H1 (upd H1 p (.lst (ys.map V.str))) := Up.new hpn
      have w2 : Up [] (upd H1 p (.lst (ys.map V.str))) (upd (upd H1 p (.lst (ys.map V.str))) q (.tup (ys.map V.str))) := Up.new hq
      have trL : Tr L (upd H1 p (.lst (ys.map V.str))) := (tr.up w1).sub fun x hx => List.mem_cons_of_mem _ hx
      have uAll : Up [dd] H (upd (upd H1 p (.lst (ys.map V.str))) q (.tup (ys.map V.str))) := up.trans (w1.all.trans w2.all)
      refine k q ys _ (m + 200) uAll ((ds.less ds0.mem).on (w1.trans w2) (fun z => nomatch z) (fun _ z => (nomatch z)) (by omega)) (Nat.le_refl _) (by rw [hp.length_eq]; exact len) (rising_sorted hs ((hp.nodup_iff).mpr nd)) (fun s hs' => okn s ((hp.mem_iff).mp hs')) (dp_new trL hq (dpa_of_strs ys))
end
end Kf
end

section
set_option Elab.async false
set_option linter.all false
set_option maxRecDepth 100000
set_option maxHeartbeats 4000000
/-! walks: an order drawn -/
namespace Kf
open PySem L2 PyProof.Rows
def spLOrd (K : PySem.W.Frag) : Sp := fun vs H Q _ => ∃ (L : List Addr) (dd a : Addr) (m : Nat) (held : List Slt), vs = [.ref dd, .ref a] ∧ Tr L H ∧ DS K L H dd m ∧ m + 100 < most ∧ Dp K (Fz L H) (.ref a) (.list (held.map dS)) ∧ held.length ≤ 4 ∧
  ∀ (u : V) (o : List Nat) (H' : Hp) (m' : Nat), Up [dd] H H' → DS K L H' dd m' → m' ≤ m + 10 → Ord held o → Dp K (Fz L H') u (dO o) → Hd (Fz L H') u → Q u H'
theorem erase_at {ls : List Nat} {k : Nat} (nd : ls.Nodup) (hk : k ∈ ls) : (ls.eraseIdx (ls.idxOf k)).Nodup ∧ ∀ x, x ∈ ls.eraseIdx (ls.idxOf k) ↔ x ∈ ls ∧ x ≠ k := by
  have hlt : ls.idxOf k < ls.length := List.idxOf_lt_length_iff.mpr hk
  have e : ls[ls.idxOf k] = k := List.getElem_idxOf hlt
  have p : (k :: ls.eraseIdx (ls.idxOf k)).Perm ls := by
    have e2 : ls = ls.take (ls.idxOf k) ++ k :: ls.drop (ls.idxOf k + 1) := by
      have h1 := (List.take_append_drop (ls.idxOf k) ls).symm
      rw [List.drop_eq_getElem_cons hlt, e] at h1
      exact h1
    rw [List.eraseIdx_eq_take_drop_succ]
    have h3 : (k :: (ls.take (ls.idxOf k) ++ ls.drop (ls.idxOf k + 1))).Perm (ls.take (ls.idxOf k) ++ k :: ls.drop (ls.idxOf k + 1)) := List.perm_middle.symm
    rw [← e2] at h3
    exact h3
  have nd2 := (p.nodup_iff).mpr nd
  obtain ⟨n1, n2⟩ := List.nodup_cons.mp nd2
  refine ⟨n2, fun x => ?_⟩
  rw [← p.mem_iff, List.mem_cons]
  constructor
  · intro h
    exact ⟨.inr h, fun e => n1 (by subst e; exact h)⟩
  · rintro ⟨h | h, ne⟩
    · exact absurd h ne
    · exact h
theorem idx_first {ls : List Nat} {k m : Nat} (nd : ls.Nodup) (hk : k ∈ ls) (hm : m < ls.idxOf k) : ls[m]? ≠ some k := by
  intro e
  obtain ⟨h1, e1⟩ := List.getElem?_eq_some_iff.mp e
  have hlt : ls.idxOf k < ls.length := List.idxOf_lt_length_iff.mpr hk
  have := (List.getElem_inj (h₀ := h1) (h₁ := hlt) nd).mp (e1.trans (List.getElem_idxOf hlt).symm)
  omega
theorem cast_map (ls : List Nat) : (ls.map fun k : Nat => V.int (k : Int)) = (ls.map fun k : Nat => (k : Int)).map V.int := by
  rw [List.map_map]
  rfl
section
variable {P : Program} {w : World} {K : PySem.W.Frag} {mg : Str → Option Value} {base : Heap} {f f0 f1 f2 f3 f4 f5 f6 f7 f8 f9 : Addr} {fd fd0 fd1 fd2 fd3 fd4 fd5 fd6 fd7 fd8 fd9 : FuncData}
theorem ok_lord (T : Txt K mg) (D1 : Df K mg "_law_draw" sDraw ["_law_d", "_law_many"] f1 fd1) (D2 : Df K mg "_law_pick" sPick ["_law_d", "_law_some"] f2 fd2) (D : Df K mg "_law_order" sLOrd ["_law_d", "_law_held"] f fd) : FnOk P w K mg base CX0 3 f fd ["_law_d", "_law_held"] (spLOrd K) := by
  have G2 : FnOk P w K mg base CX0 2 f2 fd2 _ (spPk K) := ok_pick T D1 D2
  refine D.F.ok scLOrd (fun vs H Q E h => ?_) (fun cdv A outer s H vs Q E hr h => ?_)
  · obtain ⟨L, dd, a, m, held, rfl, _⟩ := h
    rfl
  · obtain ⟨L, dd, a, m, held, rfl, tr0, ds0, hm, hd, few, k⟩ := h
    obtain ⟨zs, hz0, hzd⟩ := dp_list hd
    have nz : zs.length = held.length := by rw [dpa_len hzd, List.length_map]
    refine ⟨_, pss_cons (ps_par (i := 2) (j := 3) rfl scLOrd.nd rfl rfl (by decide) rfl rfl (pa_cons (pe_listRg rfl (by rfl) T.list (prg_1 (by rfl) T.range (pe_callB cr_len (by rfl) T.len bt_len (pa_cons (pv 1) pa_nil)))) (pa_cons (pe_lst pa_nil) pa_nil)) rfl)
      (pss_cons (ps_for PassesOwn.never rfl (pi_list (pv 1)) (pg_name (i := 4) scLOrd.nd rfl (Or.inr rfl))
        (pss_cons (ps_expr (pe_bm PySem.F.plainAttrs_list PySem.F.slot_list_append PySem.F.type_list_append mt_append (pv 3) (pa_cons (pe_cd D2 G2 hr (by rfl) (pa_cons (pv 0) (pa_cons
            (pe_lc (own := [("_law_k", 5)]) (g := gName 5) (tt := tTest (tOp (rEqV Slt K) (tOp (rIxL K) (tVar 1) (tVar 5)) (tVar 4))) rfl scLOrd.nd (pi_list (pv 2)) (blkOk_by (N := nLOrd) (sc := defScope sLOrd) (by decide +kernel)) (fun _ _ _ _ _ => pg_name (i := 5) scLOrd.nd rfl (Or.inl rfl))
              (fun _ _ _ _ _ => pts_one (pt_cmpR (r := rEqV Slt K) (op_eqV (α := Slt) (huV0 hr (by decide))) (pe_ix (r := rIxL K) ix_list (pv 1) (pv 5) (fun _ _ => rfl)) (pv 4) (nomark _))) (fun _ _ _ _ _ => pv 5)) pa_nil))) pa_nil)))
          (pss_one (ps_expr (pe_bm PySem.F.plainAttrs_list PySem.F.slot_list_remove PySem.F.type_list_remove mt_remove (pv 2) (pa_cons (pe_ix ix_list (pv 3) (pe_un un_neg pe_int) (fun _ _ => rfl)) pa_nil))))))
      (pss_one (ps_ret (pe_callTy cr_tupF (by rfl) T.tuple bt_tuple (pa_cons (pv 3) pa_nil))))), ?_⟩
    refine ⟨_, rfl, a, zs, rfl, .inl (sql_up fz_le hz0), _, rfl, rg_ok (by rw [nz]; omega), fun lA hlA => ⟨Nat.zero_le _, fun fA hfA => ⟨_, _, rfl, ?_⟩⟩⟩
    rw [nz, rgV_range] at hfA ⊢
    have u1 : Up [] H (upd H lA (.lst ((List.range held.length).map fun k : Nat => V.int (k : Int)))) := Up.new hlA
    have u2 : Up [] (upd H lA (.lst ((List.range held.length).map fun k : Nat => V.int (k : Int)))) (upd (upd H lA (.lst ((List.range held.length).map fun k : Nat => V.int (k : Int)))) fA (.lst [])) := Up.new hfA
    have hl2 := u2.at (p := lA) upd_same
    have hf2 : (upd (upd H lA (.lst ((List.range held.length).map fun k : Nat => V.int (k : Int)))) fA (.lst [])) fA = some (.lst []) := upd_same
    have tr2 := (((tr0.up u1).cons (p := lA) upd_same).up u2).cons hf2
    have ds2 := (ds0.grow hlA (.lst ((List.range held.length).map fun k : Nat => V.int (k : Int)))).grow hfA (.lst [])
    have nfl : fA ≠ lA := fun e => by
      rw [e, upd_same] at hfA
      cases hfA
    generalize upd (upd H lA (.lst ((List.range held.length).map fun k : Nat => V.int (k : Int)))) fA (.lst []) = H2 at u2 hl2 hf2 tr2 ds2 ⊢
    have u02 : Up [] H H2 := u1.trans u2
    have hfn : H fA = none := u1.free hfA
    refine ⟨_, rfl, a, rfl, ⟨_, sql_up fz_le (sql_up u02.all.fz hz0)⟩, ?_⟩
    refine for_list (K := K) (a := a) (xs := zs) (fun i σ H' => ∃ (ls o : List Nat) (c4 : Option V) (m1 : Nat), σ = [some (.ref dd), some (.ref a), some (.ref lA), some (.ref fA), c4, none] ∧ H' lA = some (.lst (ls.map fun k : Nat => V.int (k : Int))) ∧ H' fA = some (.lst (o.map fun k : Nat => V.int (k : Int))) ∧ o.length = i ∧ o.Nodup ∧ (∀ k, k ∈ o → k < held.length) ∧
      (∀ (j k : Nat), o[j]? = some k → held[k]? = held[j]?) ∧ ls.Nodup ∧ (∀ k, k ∈ ls ↔ k < held.length ∧ k ∉ o) ∧ DS K (fA :: lA :: L) H' dd m1 ∧ m1 ≤ m + i ∧ Up [dd] H H' ∧ Tr (fA :: lA :: L) H')
      ⟨List.range held.length, [], _, m, rfl, hl2, hf2, rfl, List.nodup_nil, fun _ z => (nomatch z), fun _ _ z => by simp at z, List.nodup_range, fun k => by simp, ds2, Nat.le_refl _, u02.all, tr2⟩ (fun i σ H' _ ⟨_, _, _, _, _, _, _, _, _, _, _, _, _, _, _, u, _⟩ => sql_up fz_le (sql_up (u.mono (L' := L) fun x hx => by rw [List.mem_singleton.mp hx]; exact ds0.mem).fz hz0)) ?_ ?_
    · rintro i x σ H3 hx ⟨ls, o, c4, m1, rfl, hl, hf, lo, ndo, lto, kp, ndl, hls, ds, hm1, up, tr⟩
      obtain ⟨z, hzi, hxd0⟩ := dpa_map hzd hx
      have hi : i < held.length := (List.getElem?_eq_some_iff.mp hzi).1
      have sdd : ∀ x, x ∈ [dd] → x ∈ fA :: lA :: L := fun x hx => by
        rw [List.mem_singleton.mp hx]
        exact ds.mem
      have ndl' : dd ≠ lA := fun e => by
        obtain ⟨o', ho'⟩ := ds0.some
        rw [e, hlA] at ho'
        cases ho'
      have ndf : dd ≠ fA := fun e => by
        obtain ⟨o', ho'⟩ := ds0.some
        rw [e, hfn] at ho'
        cases ho'
      have gL : Up [] (Fz L H) (Fz L H3) := (up.mono (L' := L) fun x hx => by rw [List.mem_singleton.mp hx]; exact ds0.mem).fz
      have hzs3 : SqL K (Fz L H3) a zs := sql_up gL hz0
      have hxd : Dp K (Fz L H3) x (dS z) := dp_up gL hxd0
      refine ⟨_, rfl, .inl ⟨rfl, _, sql_of hf⟩, _, rfl, _, rfl, lA, rfl, ⟨_, sql_of hl⟩, fun D hD => ?_⟩
      have nll : ls.length ≤ 4 := by
        have := len_le ndl (m := List.range held.length) fun x hx => List.mem_range.mpr ((hls x).mp hx).1
        rw [List.length_range] at this
        omega
      have C : LcC [dd] [] D (fun _ _ => True) (ls.map fun k : Nat => if decide (held[k]? = held[i]?) = true then some (PyData.int (k : Int)) else Option.none) H3 := .pure hD (tr.sub sdd) (by rw [List.length_map]; omega)
      refine lcL (K := K) C (xs := ls.map fun k : Nat => V.int (k : Int)) (.inl (.inl (by rw [fz_out (fun z => ndl' (List.mem_singleton.mp z).symm)]; exact hl))) (by simp) (fun j y oo ys H' hy _ I => ?_) fun H7 up7 tr7 _ hdp7 => ?_
      · obtain ⟨q, hq, rfl⟩ := map_some hy
        have hqm := (hls q).mp (List.mem_of_getElem? hq)
        have u' := I.up0 C
        obtain ⟨zq, hzq⟩ : ∃ zq, held[q]? = some zq := ⟨_, List.getElem?_eq_getElem hqm.1⟩
        obtain ⟨vq, hvq, hvd⟩ := dpa_map' hzd hzq
        refine ⟨rfl, _, rfl, _, rfl, a, zs, (q : Int), vq, rfl, rfl, sql_up u' (sql_up fz_le hzs3), atI_nat hvq, _, rfl, zq, z, dp_up u' (dp_up fz_le (dp_up gL hvd)), dp_up u' (dp_up fz_le hxd), _, rfl, ?_⟩
        by_cases e : zq = z
        · refine iteD e ⟨_, rfl, I.add C .refl trivial (d := .int (q : Int)) ?_ (.int _)⟩
          rw [map_at hq, if_pos (decide_eq_true (by rw [hzq, hzi, e]))]
        · refine iteDF e (I.skip C .refl trivial ?_)
          rw [map_at hq, if_neg (by rw [decide_eq_false (by rw [hzq, hzi]; exact fun h => e (Option.some.inj h))]; decide)]
      · rw [fm_if] at hdp7
        obtain ⟨ys7, hy7, hd7⟩ := dp_list hdp7
        rw [dpa_ints (f := fun k : Nat => (k : Int)) hd7] at hy7
        have ds7 : DS K (fA :: lA :: L) H7 dd m1 := ds.on up7 (fun z => nomatch z) (fun _ z => (nomatch z)) (Nat.le_refl _)
        have tr7' : Tr (fA :: lA :: L) H7 := tr.up up7
        have pos : 0 < (ls.filter fun k => decide (held[k]? = held[i]?)).length := by
          obtain ⟨q, q1, q2, q3⟩ := place_left hi lo ndo kp
          exact List.length_pos_iff.mpr (List.ne_nil_of_mem (List.mem_filter.mpr ⟨(hls q).mpr ⟨q1, q2⟩, decide_eq_true q3⟩))
        have le4 : (ls.filter fun k => decide (held[k]? = held[i]?)).length ≤ 4 := Nat.le_trans (List.length_filter_le _ _) nll
        refine ⟨fA :: lA :: L, dd, m1, .ref D, _, rfl, by rw [List.length_map]; exact pos, by rw [List.length_map]; omega, tr7', ds7, by unfold most at hm ⊢; omega, fun H8 u8 => ⟨D, rfl, .inr (sql_up fz_le (sql_up u8.fz hy7))⟩, fun k5 y H8 hy u8 ds8 => ?_⟩
        obtain ⟨q, hq, rfl⟩ := map_some hy
        have hqf := List.mem_filter.mp (List.mem_of_getElem? hq)
        have hql := (hls q).mp hqf.1
        have hqs : held[q]? = held[i]? := of_decide_eq_true hqf.2
        have hf8 : H8 fA = some (.lst (o.map fun k : Nat => V.int (k : Int))) := u8.keep (fun z => ndf (List.mem_singleton.mp z).symm) (up7.at hf)
        have hl8 : H8 lA = some (.lst (ls.map fun k : Nat => V.int (k : Int))) := u8.keep (fun z => ndl' (List.mem_singleton.mp z).symm) (up7.at hl)
        refine ⟨fA, _, _, rfl, rfl, hf8, ?_, ?_⟩
        · rw [List.length_map]
          exact Nat.lt_of_le_of_lt (show o.length ≤ 1000 by omega) (by decide)
        have hl9 : (upd H8 fA (.lst ((o.map fun k : Nat => V.int (k : Int)) ++ [.int (q : Int)]))) lA = some (.lst ((ls.map fun k : Nat => (k : Int)).map V.int)) := by
          rw [upd_ne nfl.symm, hl8, cast_map]
        have hidx : (ls.map fun k : Nat => (k : Int))[ls.idxOf q]? = some (q : Int) := map_at (get_idx hqf.1)
        refine ⟨_, rfl, .inl ⟨rfl, _, sql_of hl9⟩, _, rfl, 1, rfl, fA, _, -1, .int (q : Int), rfl, rfl, sql_of upd_same, atI_last _ _, lA, _, (q : Int), ls.idxOf q, rfl, rfl, hl9, hidx, fun j hj e => ?_, ?_⟩
        · obtain ⟨x', hx', e'⟩ := map_some e
          have : x' = q := by omega
          rw [this] at hx'
          exact idx_first ndl hqf.1 hj hx'
        obtain ⟨nd9, mem9⟩ := erase_at ndl hqf.1
        have up9 : Up [fA] H8 (upd H8 fA (.lst ((o.map fun k : Nat => V.int (k : Int)) ++ [.int (q : Int)]))) := Up.put List.mem_cons_self
        have up10 : Up [lA] (upd H8 fA (.lst ((o.map fun k : Nat => V.int (k : Int)) ++ [.int (q : Int)]))) (upd (upd H8 fA (.lst ((o.map fun k : Nat => V.int (k : Int)) ++ [.int (q : Int)]))) lA (.lst (((ls.map fun k : Nat => (k : Int)).eraseIdx (ls.idxOf q)).map V.int))) := Up.put List.mem_cons_self
        have upB : Up [lA, fA, dd] H (upd (upd H8 fA (.lst ((o.map fun k : Nat => V.int (k : Int)) ++ [.int (q : Int)]))) lA (.lst (((ls.map fun k : Nat => (k : Int)).eraseIdx (ls.idxOf q)).map V.int))) :=
          (((up.trans (up7.all.trans u8)).mono fun x hx => by rw [List.mem_singleton.mp hx]; simp).trans (up9.mono fun x hx => by rw [List.mem_singleton.mp hx]; simp)).trans (up10.mono fun x hx => by rw [List.mem_singleton.mp hx]; simp)
        refine ⟨ls.eraseIdx (ls.idxOf q), o ++ [q], _, m1 + 1, rfl, ?_, ?_, by rw [List.length_append, lo]; rfl, ?_, fun x hx => ?_, fun j x e => ?_, nd9, fun x => ?_, ?_, by omega, (upB.drop hlA).drop hfn, ((tr7'.up u8).up up9).up up10⟩
        · rw [upd_same, cast_map]
          congr 3
          rw [List.eraseIdx_eq_take_drop_succ, List.eraseIdx_eq_take_drop_succ, List.map_append, List.map_take, List.map_drop]
        · rw [upd_ne nfl, upd_same, List.map_append]
          rfl
        · refine List.nodup_append.mpr ⟨ndo, by simp, fun x hx y hy e => ?_⟩
          rw [e, List.mem_singleton.mp hy] at hx
          exact hql.2 hx
        · rcases List.mem_append.mp hx with q' | q'
          · exact lto x q'
          · rw [List.mem_singleton.mp q']
            exact hql.1
        · by_cases hj : j < o.length
          · rw [List.getElem?_append_left hj] at e
            exact kp j x e
          · have hj2 : j = o.length := by
              have := (List.getElem?_eq_some_iff.mp e).1
              rw [List.length_append, List.length_singleton] at this
              omega
            subst hj2
            rw [List.getElem?_append_right (Nat.le_refl _), Nat.sub_self] at e
            rw [← Option.some.inj (show some q = some x from e), lo]
            exact hqs
        · rw [mem9, hls, List.mem_append, List.mem_singleton]
          constructor
          · rintro ⟨⟨h1, h2⟩, h3⟩
            exact ⟨h1, fun h => h.elim h2 h3⟩
          · rintro ⟨h1, h2⟩
            exact ⟨⟨h1, fun h => h2 (.inl h)⟩, fun h => h2 (.inr h)⟩
        · refine (ds8.on up9 (fun z => ndf (List.mem_singleton.mp z)) (fun x hx => by rw [List.mem_singleton.mp hx]; exact List.mem_cons_self) (Nat.le_refl _)).on up10 (fun z => ndl' (List.mem_singleton.mp z)) (fun x hx => by rw [List.mem_singleton.mp hx]; exact List.mem_cons_of_mem _ List.mem_cons_self) (Nat.le_refl _)
    · rintro σ H3 ⟨ls, o, c4, m1, rfl, hl, hf, lo, ndo, lto, kp, ndl, hls, ds, hm1, up, tr⟩
      refine ⟨_, rfl, fA, _, rfl, sql_of hf, fun l ob hl3 hob => ?_⟩
      have trL : Tr L H3 := tr.sub fun x hx => List.mem_cons_of_mem _ (List.mem_cons_of_mem _ hx)
      have uN := Up.new (L := []) (o := .frz ob (.tup (o.map fun k : Nat => V.int (k : Int)))) hl3
      refine k (.ref l) o _ (m + 10) (up.trans uN.all) (((ds.less (List.mem_cons_of_mem _ ds0.mem)).less ds0.mem).on uN (fun z => nomatch z) (fun _ z => (nomatch z)) (by omega)) (Nat.le_refl _) ⟨by omega, lto, ndo, kp⟩ (dp_newF trL hl3 (dpa_ofO _ _ _)) ⟨l, ob, _, rfl, by rw [fz_out (trL.out hl3)]; exact upd_same, hob⟩
end
end Kf
end

section
set_option Elab.async false
set_option linter.all false
set_option maxRecDepth 100000
set_option maxHeartbeats 4000000
/-! walks: a gear drawn -/
namespace Kf
open PySem L2 PyProof.Rows
def HB (K : PySem.W.Frag) (H : Hp) (v : V) (b : Bx) : Prop := ∃ ab h m, v = .ref ab ∧ SqT K H ab [.str b.name, h, m] ∧ Dp K H h (dH b.held) ∧ HMs K H m b.moves
theorem hb_up {K : PySem.W.Frag} {H H' : Hp} (u : Up [] H H') {v : V} {b : Bx} (h : HB K H v b) : HB K H' v b := by
  obtain ⟨a, x, m, e, h1, h2, h3⟩ := h
  exact ⟨a, x, m, e, sqt_up u h1, dp_up u h2, hms_up u h3⟩
theorem hb_dp {K : PySem.W.Frag} {H : Hp} {v : V} {b : Bx} (h : HB K H v b) : Dp K H v (dB b) := by
  obtain ⟨a, x, m, rfl, h1, h2, h3⟩ := h
  exact .tup h1 (.cons (.str _) (.cons h2 (.cons (hms_dp h3) .nil)))
inductive HBs (K : PySem.W.Frag) (H : Hp) : List V → List Bx → Prop
  | nil : HBs K H [] []
  | cons {v : V} {b : Bx} {vs : List V} {bs : List Bx} : HB K H v b → HBs K H vs bs → HBs K H (v :: vs) (b :: bs)
theorem hbs_up {K : PySem.W.Frag} {H H' : Hp} (u : Up [] H H') : ∀ {vs : List V} {bs : List Bx}, HBs K H vs bs → HBs K H' vs bs
  | _, _, .nil => .nil
  | _, _, .cons h t => .cons (hb_up u h) (hbs_up u t)
theorem hbs_dp {K : PySem.W.Frag} {H : Hp} : ∀ {vs : List V} {bs : List Bx}, HBs K H vs bs → DpAll K H vs (bs.map dB)
  | _, _, .nil => .nil
  | _, _, .cons h t => .cons (hb_dp h) (hbs_dp t)
theorem hbs_app {K : PySem.W.Frag} {H : Hp} {v : V} {b : Bx} (h : HB K H v b) : ∀ {vs : List V} {bs : List Bx}, HBs K H vs bs → HBs K H (vs ++ [v]) (bs ++ [b])
  | _, _, .nil => .cons h .nil
  | _, _, .cons g t => .cons g (hbs_app h t)
theorem hbs_at {K : PySem.W.Frag} {H : Hp} : ∀ {vs : List V} {bs : List Bx} {i : Nat} {b : Bx}, HBs K H vs bs → bs[i]? = some b → ∃ v, vs[i]? = some v ∧ HB K H v b
  | _, _, _, _, .nil, e => by simp at e
  | _, _, 0, _, .cons h _, e => ⟨_, rfl, by rw [← Option.some.inj e]; exact h⟩
  | _, _, i + 1, b, .cons _ t, e => by
    obtain ⟨d, h1, h2⟩ := hbs_at (i := i) (b := b) t (by simpa using e)
    exact ⟨d, by simpa using h1, h2⟩
def HG (K : PySem.W.Frag) (H : Hp) (v : V) (g : Gr) : Prop := ∃ a p q ys, v = .ref a ∧ SqT K H a [.ref p, .ref q] ∧ SqT K H p (g.spaces.map V.str) ∧ SqT K H q ys ∧ HBs K H ys g.boxes
theorem hg_up {K : PySem.W.Frag} {H H' : Hp} (u : Up [] H H') {v : V} {g : Gr} (h : HG K H v g) : HG K H' v g := by
  obtain ⟨a, p, q, ys, e, h1, h2, h3, h4⟩ := h
  exact ⟨a, p, q, ys, e, sqt_up u h1, sqt_up u h2, sqt_up u h3, hbs_up u h4⟩
theorem hg_dp {K : PySem.W.Frag} {H : Hp} {v : V} {g : Gr} (h : HG K H v g) : Dp K H v (dG g) := by
  obtain ⟨a, p, q, ys, rfl, h1, h2, h3, h4⟩ := h
  exact .tup h1 (.cons (.tup h2 (dpa_of_strs _)) (.cons (.tup h3 (hbs_dp h4)) .nil))
def spLGear (K : PySem.W.Frag) : Sp := fun vs H Q _ => ∃ (L : List Addr) (dd : Addr) (m : Nat), vs = [.ref dd] ∧ Tr L H ∧ DS K L H dd m ∧ m + 2000 < most ∧
  ∀ (u : V) (g : Gr) (H' : Hp) (m' : Nat), Up [dd] H H' → DS K L H' dd m' → m' ≤ m + 2000 → OkGear g → HG K (Fz L H') u g → Q u H'
/-- behind i boxes -/
structure LG (K : PySem.W.Frag) (L : List Addr) (H : Hp) (dd bA pS pN : Addr) (sp nms : List Str) (m0 i : Nat) (H' : Hp) (ys : List V) (bs : List Bx) (m1 : Nat) : Prop where
  hb : H' bA = some (.lst ys)
  dat : HBs K (Fz (bA :: L) H') ys bs
  nam : bs.map Bx.name = nms.take i
  ok : ∀ b ∈ bs, OkBox sp b
  ds : DS K (bA :: L) H' dd m1
  few : m1 ≤ m0 + 100 * i
  up : Up [dd] H H'
  tr : Tr (bA :: L) H'
  sps : SqT K (Fz (bA :: L) H') pS (sp.map V.str)
  nms : SqT K (Fz (bA :: L) H') pN (nms.map V.str)
section
variable {P : Program} {w : World} {K : PySem.W.Frag} {mg : Str → Option Value} {base : Heap} {f f0 f1 f2 f3 f4 f5 f6 f7 f8 f9 : Addr} {fd fd0 fd1 fd2 fd3 fd4 fd5 fd6 fd7 fd8 fd9 : FuncData}
theorem ok_lgear (T : Txt K mg) (D1 : Df K mg "_law_draw" sDraw ["_law_d", "_law_many"] f1 fd1) (D2 : Df K mg "_law_pick" sPick ["_law_d", "_law_some"] f2 fd2) (D3 : Df K mg "_law_order" sLOrd ["_law_d", "_law_held"] f3 fd3) (D4 : Df K mg "_law_names" sNames ["_law_d", "_law_many"] f4 fd4) (D : Df K mg "_law_gear" sLGear ["_law_d"] f fd) :
    FnOk P w K mg base CX0 4 f fd ["_law_d"] (spLGear K) := by
  have G1 : FnOk P w K mg base CX0 1 f1 fd1 _ (spDraw K) := ok_draw T D1
  have G2 : FnOk P w K mg base CX0 2 f2 fd2 _ (spPk K) := ok_pick T D1 D2
  have G3 : FnOk P w K mg base CX0 3 f3 fd3 _ (spLOrd K) := ok_lord T D1 D2 D3
  have G4 : FnOk P w K mg base CX0 3 f4 fd4 _ (spNames K) := ok_names T D1 D2 D4
  refine D.F.ok scLGear (fun vs H Q E h => ?_) (fun cdv A outer s H vs Q E hr h => ?_)
  · obtain ⟨L, dd, m, rfl, _⟩ := h
    rfl
  · obtain ⟨L, dd, m, rfl, tr0, ds0, hm, k⟩ := h
    have hr1 : Room 1 _ := hr.mono (by decide)
    have hr2 : Room 2 _ := hr.mono (by decide)
    refine ⟨_, pss_cons (ps_par (i := 1) (j := 2) rfl scLGear.nd rfl rfl (by decide) rfl rfl (pa_cons (pe_cd D4 G4 hr (by rfl) (pa_cons (pv 0) (pa_cons (pe_op op_add pe_int (pe_cd D1 G1 hr1 (by rfl) (pa_cons (pv 0) (pa_cons pe_int pa_nil)))) pa_nil))) (pa_cons (pe_lst pa_nil) pa_nil)) rfl)
      (pss_cons (ps_for PassesOwn.never rfl (pi_tup (pe_cd D4 G4 hr (by rfl) (pa_cons (pv 0) (pa_cons (pe_cd D1 G1 hr1 (by rfl) (pa_cons (pv 0) (pa_cons pe_int pa_nil))) pa_nil)))) (pg_name (i := 3) scLGear.nd rfl (Or.inl rfl))
        (pss_cons (ps_asg (pe_tup (pa_cons (pe_lst pa_nil) (pa_cons (pe_cd D1 G1 hr1 (by rfl) (pa_cons (pv 0) (pa_cons pe_int pa_nil))) pa_nil))) (pg_pair (i := 4) (j := 5) rfl scLGear.nd rfl rfl (Or.inr rfl) (Or.inl rfl) (Or.inl rfl) (Or.inl rfl)))
        (pss_cons (ps_for PassesOwn.never rfl (pi_range1 (by rfl) T.range (pa_cons (pe_cd D1 G1 hr1 (by rfl) (pa_cons (pv 0) (pa_cons pe_int pa_nil))) pa_nil)) (pg_name (i := 6) scLGear.nd rfl (Or.inl rfl))
          (pss_cons (ps_set (i := 7) scLGear.nd rfl (Or.inl rfl) (pe_tup (pa_cons (pe_cd D2 G2 hr2 (by rfl) (pa_cons (pv 0) (pa_cons (pv 1) pa_nil))) (pa_cons (pe_cd D2 G2 hr2 (by rfl) (pa_cons (pv 0) (pa_cons (pe_lst (pa_cons pe_str (pa_cons pe_str pa_nil))) pa_nil))) pa_nil))))
          (pss_one (ps_expr (pe_bm PySem.F.plainAttrs_list PySem.F.slot_list_append PySem.F.type_list_append mt_append (pv 4) (pa_cons (pe_ifExp (pw_or (pt_cmpR op_eq (pv 5) pe_int (nomark _)) (pw_or1 (pt_cmpR (op_eqV (α := List Slt) (huV0 hr (by decide))) (pv 4) (pe_lst pa_nil) (nomark _)))).pt (pv 7) (pe_ix ix_list (pv 4) pe_int (fun _ _ => rfl))) pa_nil))))))
        (pss_cons (ps_set (i := 8) scLGear.nd rfl (Or.inl rfl) (pe_callTy call_tuple_of (by rfl) T.tuple bt_tuple (pa_cons (pe_lc (own := [("_law_k", 6)]) (g := gName 6) (tt := tYes) rfl scLGear.nd (pi_range1 (by rfl) T.range (pa_cons (pe_cd D1 G1 hr1 (by rfl) (pa_cons (pv 0) (pa_cons pe_int pa_nil))) pa_nil)) (blkOk_by (N := nLGear) (sc := defScope sLGear) (by decide +kernel)) (fun _ _ _ _ _ => pg_name (i := 6) scLGear.nd rfl (Or.inl rfl)) (fun _ _ _ _ _ => pts_nil)
            (fun _ _ _ _ _ => pe_tup (pa_cons (pe_cd (sp := spLOrd K) D3 G3 hr (by rfl) (pa_cons (pv 0) (pa_cons (pv 4) pa_nil))) (pa_cons (pe_cd (sp := spPk K) D2 G2 hr2 (by rfl) (pa_cons (pv 0) (pa_cons (pe_lst (pa_cons pe_int (pa_cons (pe_un un_neg pe_int) pa_nil))) pa_nil))) pa_nil)))) pa_nil)))
        (pss_one (ps_expr (pe_bm PySem.F.plainAttrs_list PySem.F.slot_list_append PySem.F.type_list_append mt_append (pv 2) (pa_cons (pe_tup (pa_cons (pv 3) (pa_cons (pe_callTy call_tuple_of (by rfl) T.tuple bt_tuple (pa_cons (pv 4) pa_nil)) (pa_cons (pv 8) pa_nil)))) pa_nil))))))))
      (pss_one (ps_ret (pe_tup (pa_cons (pv 1) (pa_cons (pe_callTy call_tuple_of (by rfl) T.tuple bt_tuple (pa_cons (pv 2) pa_nil)) pa_nil)))))), ?_⟩
    refine ⟨_, rfl, _, rfl, L, dd, m, 3, rfl, by decide, by decide, tr0, ds0, by omega, fun k0 H1 hk0 u1 ds1 => ?_⟩
    have tr1 := tr0.up u1
    refine ⟨_, _, rfl, rfl, L, dd, m + 1, 1 + k0, rfl, by omega, tr1, ds1, by unfold most at hm ⊢; omega, fun pS sp H2 m2 u2 ds2 hm2 lsp rsp oksp dsp => ?_⟩
    have tr2 := tr1.up u2
    refine ⟨Nat.zero_le _, fun bA hbA => ⟨_, _, rfl, ?_⟩⟩
    obtain ⟨xsS, hsS, hdS⟩ := dp_tup dsp
    rw [dpa_strs hdS] at hsS
    have trB : Tr (bA :: L) (upd H2 bA (.lst [])) := (tr2.up (Up.new (L := []) hbA)).cons upd_same
    have dsB : DS K (bA :: L) (upd H2 bA (.lst [])) dd m2 := ds2.grow hbA _
    have spB : SqT K (Fz (bA :: L) (upd H2 bA (.lst []))) pS (sp.map V.str) := sqt_up ((Up.new (L := L) hbA).gw fun x hx => by
      rcases List.mem_cons.mp hx with q | q
      · exact .inr (by rw [q]; exact hbA)
      · exact .inl q) hsS
    have upB : Up [dd] H (upd H2 bA (.lst [])) := (u1.trans u2).trans (Up.new hbA)
    have hbB : (upd H2 bA (.lst [])) bA = some (.lst []) := upd_same
    have nb0 : dd ≠ bA := ds2.ne hbA
    generalize upd H2 bA (.lst []) = Hb at trB dsB spB upB hbB ⊢
    have sddB : ∀ x, x ∈ [dd] → x ∈ bA :: L := fun x hx => by
      rw [List.mem_singleton.mp hx]
      exact dsB.mem
    have nbd : bA ∉ [dd] := fun z => nb0 (List.mem_singleton.mp z).symm
    refine ⟨_, rfl, _, rfl, bA :: L, dd, m2, 9, rfl, by decide, by decide, trB, dsB, by unfold most at hm ⊢; omega, fun k9 H3 hk9 u3 ds3 => ?_⟩
    refine ⟨bA :: L, dd, m2 + 1, k9, rfl, by omega, trB.up u3, ds3, by unfold most at hm ⊢; omega, fun pN nms H4 m4 u4 ds4 hm4 lnms rnms oknms dnms => ?_⟩
    obtain ⟨xsN, hsN, hdN⟩ := dp_tup dnms
    rw [dpa_strs hdN] at hsN
    have u34 := u3.trans u4
    refine ⟨pN, rfl, ⟨_, sqt_up fz_le hsN⟩, ?_⟩
    have hmm : m4 ≤ m + 500 := by omega
    refine for_tup (K := K) (a := pN) (xs := nms.map V.str) (fun i σ H' => ∃ (ys : List V) (bs : List Bx) (m1 : Nat) (c3 c4 c5 c6 c7 c8 : Option V), σ = [some (.ref dd), some (.ref pS), some (.ref bA), c3, c4, c5, c6, c7, c8] ∧ LG K L H dd bA pS pN sp nms m4 i H' ys bs m1)
      ⟨[], [], m4, none, none, none, none, none, none, rfl, u34.keep nbd hbB, .nil, rfl, fun _ z => (nomatch z), ds4, Nat.le_refl _, upB.trans u34, (trB.up u3).up u4, sqt_up (u34.mono sddB).fz spB, hsN⟩ (fun i σ H' _ ⟨_, _, _, _, _, _, _, _, _, _, G⟩ => sqt_up fz_le G.nms) ?_ ?_
    · rintro i x σ H5 hx ⟨ys, bs, m5, c3, c4, c5, c6, c7, c8, rfl, G⟩
      obtain ⟨nm, hnm, rfl⟩ := map_some hx
      have hi8 : i < 8 := by
        have := (List.getElem?_eq_some_iff.mp hnm).1
        omega
      have hm5 : m5 ≤ m + 1400 := by
        have := G.few
        omega
      -- held, way = [], draw(2)
      refine ⟨Nat.zero_le _, fun hA hhA => ⟨_, rfl, hA :: bA :: L, dd, m5, 2, rfl, by decide, by decide, (G.tr.up (Up.new (L := []) hhA)).cons upd_same, G.ds.grow hhA _, by unfold most at hm ⊢; omega, fun kw H6 hkw u6 ds6 => ⟨by show 2 ≤ sizeLine; decide, fun tw htw => ⟨tw, _, _, rfl, sqt_of upd_same, ?_⟩⟩⟩⟩
      have nhA : H5 hA = none := hhA
      have tr7 : Tr (hA :: bA :: L) (upd H6 tw (.tup [.ref hA, .int (kw : Int)])) := (((G.tr.up (Up.new (L := []) hhA)).cons upd_same).up u6).up (Up.new (L := []) htw)
      have ds7 : DS K (hA :: bA :: L) (upd H6 tw (.tup [.ref hA, .int (kw : Int)])) dd (m5 + 1) := ds6.on (Up.new (L := []) htw) (fun z => nomatch z) (fun _ z => (nomatch z)) (Nat.le_refl _)
      have nhd : hA ∉ [dd] := fun z => G.ds.ne hhA (List.mem_singleton.mp z).symm
      have h7 : (upd H6 tw (.tup [.ref hA, .int (kw : Int)])) hA = some (.lst []) := (Up.new (L := []) htw).at (u6.keep nhd upd_same)
      have up7 : Up [dd] H5 (upd H6 tw (.tup [.ref hA, .int (kw : Int)])) := (((Up.new hhA).trans u6).trans (Up.new htw))
      generalize upd H6 tw (.tup [.ref hA, .int (kw : Int)]) = H7 at tr7 ds7 h7 up7 ⊢
      have sdd2 : ∀ x, x ∈ [dd] → x ∈ hA :: bA :: L := fun x hx => List.mem_cons_of_mem _ (sddB x hx)
      have gB : ∀ H', Up [dd] H5 H' → Up [] (Fz (bA :: L) H5) (Fz (hA :: bA :: L) H') := fun H' u => (u.mono sddB).gw fun x hx => by
        rcases List.mem_cons.mp hx with q | q
        · exact .inr (by rw [q]; exact nhA)
        · exact .inl q
      have ldd : dd ∈ hA :: bA :: L := ds7.mem
      refine ⟨_, rfl, hA :: bA :: L, dd, m5 + 1, 5, rfl, by decide, by decide, tr7, ds7, by unfold most at hm ⊢; omega, fun kn H8 hkn u8 ds8 => ?_⟩
      have b62 : (100 : Int) < 2 ^ 62 := by decide
      refine ⟨_, rfl, by omega, by omega, ?_⟩
      refine for_range (n := ((kn : Int)).toNat) (fun j σ H' => ∃ (zs : List V) (held : List Slt) (c6 c7 : Option V) (m8 : Nat), σ = [some (.ref dd), some (.ref pS), some (.ref bA), some (.str nm), some (.ref hA), some (.int (kw : Int)), c6, c7, c8] ∧ H' hA = some (.lst zs) ∧ DpAll K (Fz (hA :: bA :: L) H') zs (held.map dS) ∧ held.length = j ∧ (∀ z, z ∈ held → OkSlot sp z) ∧
        DS K (hA :: bA :: L) H' dd m8 ∧ m8 ≤ m5 + 2 + 2 * j ∧ Up [dd] H5 H' ∧ Tr (hA :: bA :: L) H') ⟨[], [], c6, c7, m5 + 2, rfl, u8.keep nhd h7, .nil, rfl, fun _ z => (nomatch z), ds8, Nat.le_refl _, up7.trans u8, tr7.up u8⟩ ?_ ?_
      · rintro j σ H9 hj ⟨zs, held, d6, d7, m8, rfl, hh, hdt, lh, oks, ds, hm8, up, tr⟩
        have hj4 : j < 4 := by omega
        have nzs : zs.length = held.length := by rw [dpa_len hdt, List.length_map]
        refine ⟨_, rfl, _, rfl, hA :: bA :: L, dd, m8, .ref pS, sp.map V.str, rfl, by rw [List.length_map]; omega, by rw [List.length_map]; omega, tr, ds, by unfold most at hm ⊢; omega, fun H' u => ⟨pS, rfl, .inl (sqt_up fz_le (sqt_up (gB H' (up.trans u)) G.sps))⟩, fun k1 y1 H10 hy1 u10 ds10 => ?_⟩
        obtain ⟨s1, hs1, rfl⟩ := map_some hy1
        refine ⟨_, rfl, by show 2 ≤ sizeLine; decide, fun l hl => ?_⟩
        have nl : l ∉ [dd] := fun z => ds10.ne hl (List.mem_singleton.mp z).symm
        refine ⟨hA :: bA :: L, dd, m8 + 1, .ref l, [.str "up", .str "down"], rfl, by decide, by decide, (tr.up u10).up (Up.new (L := []) hl), ds10.on (Up.new (L := []) hl) (fun z => nomatch z) (fun _ z => (nomatch z)) (Nat.le_refl _), by unfold most at hm ⊢; omega, fun H' u => ⟨l, rfl, .inr (sql_of (u.keep nl upd_same))⟩, fun k2 y2 H11 hy2 u11 ds11 => ?_⟩
        obtain ⟨s2, hs2, rfl⟩ : ∃ s2 : Str, (s2 = "down" ∨ s2 = "up") ∧ y2 = .str s2 := by
          match k2, hy2 with
          | 0, hy2 => exact ⟨"up", .inr rfl, (Option.some.inj hy2).symm⟩
          | 1, hy2 => exact ⟨"down", .inl rfl, (Option.some.inj hy2).symm⟩
        have tr11 := ((tr.up u10).up (Up.new (L := []) (o := .lst [.str "up", .str "down"]) hl)).up u11
        have up11 : Up [dd] H9 H11 := (u10.trans (Up.new hl)).trans u11
        refine ⟨by show 2 ≤ sizeLine; decide, fun ts hts => ?_⟩
        have dts : Dp K (Fz (hA :: bA :: L) (upd H11 ts (.tup [.str s1, .str s2]))) (.ref ts) (dS (s1, s2)) := dp_new tr11 hts (.cons (.str _) (.cons (.str _) .nil))
        have okz : OkSlot sp (s1, s2) := ⟨List.mem_of_getElem? hs1, hs2⟩
        have up12 : Up [dd] H9 (upd H11 ts (.tup [.str s1, .str s2])) := up11.trans (Up.new hts)
        have ds12 : DS K (hA :: bA :: L) (upd H11 ts (.tup [.str s1, .str s2])) dd (m8 + 2) := ds11.on (Up.new (L := []) hts) (fun z => nomatch z) (fun _ z => (nomatch z)) (Nat.le_refl _)
        have tr12 := tr11.up (Up.new (L := []) (o := .tup [.str s1, .str s2]) hts)
        generalize upd H11 ts (.tup [.str s1, .str s2]) = H12 at dts up12 ds12 tr12 ⊢
        have h12 : H12 hA = some (.lst zs) := up12.keep nhd hh
        have hdt12 : DpAll K (Fz (hA :: bA :: L) H12) zs (held.map dS) := dpa_up (up12.mono sdd2).fz hdt
        have fin : ∀ (v : V) (z : Slt) (H13 : Hp), Up [] H12 H13 → Dp K (Fz (hA :: bA :: L) H13) v (dS z) → OkSlot sp z → ∃ l xs y, V.ref hA = .ref l ∧ [v] = [y] ∧ H13 l = some (.lst xs) ∧ xs.length < sizeLine ∧
            ∃ (zs' : List V) (held' : List Slt) (c6 c7 : Option V) (m8 : Nat), [some (.ref dd), some (.ref pS), some (.ref bA), some (.str nm), some (.ref hA), some (.int (kw : Int)), some (.int (0 + (j : Int))), some (.ref ts), c8] = [some (.ref dd), some (.ref pS), some (.ref bA), some (.str nm), some (.ref hA), some (.int (kw : Int)), c6, c7, c8] ∧
              (upd H13 l (.lst (xs ++ [y]))) hA = some (.lst zs') ∧ DpAll K (Fz (hA :: bA :: L) (upd H13 l (.lst (xs ++ [y])))) zs' (held'.map dS) ∧ held'.length = j + 1 ∧ (∀ z, z ∈ held' → OkSlot sp z) ∧ DS K (hA :: bA :: L) (upd H13 l (.lst (xs ++ [y]))) dd m8 ∧ m8 ≤ m5 + 2 + 2 * (j + 1) ∧ Up [dd] H5 (upd H13 l (.lst (xs ++ [y]))) ∧ Tr (hA :: bA :: L) (upd H13 l (.lst (xs ++ [y]))) := by
          intro v z H13 u13 hv okv
          have h13 := u13.at h12
          have upP : Up [hA] H13 (upd H13 hA (.lst (zs ++ [v]))) := Up.put List.mem_cons_self
          refine ⟨hA, zs, v, rfl, rfl, h13, Nat.lt_of_le_of_lt (show zs.length ≤ 1000 by omega) (by decide), zs ++ [v], held ++ [z], _, _, m8 + 2, rfl, upd_same, ?_, by rw [List.length_append, lh]; rfl, fun x hx => ?_, (ds12.on u13 (fun z => nomatch z) (fun _ z => (nomatch z)) (Nat.le_refl _)).on upP (fun z => nhd (by rw [List.mem_singleton.mp z]; exact List.mem_cons_self)) (fun x hx => by rw [List.mem_singleton.mp hx]; exact List.mem_cons_self) (Nat.le_refl _), by omega, ?_, (tr12.up u13).up upP⟩
          · rw [fz_put List.mem_cons_self, List.map_append]
            exact dpa_app (dpa_up u13.all.fz hdt12) (.cons hv .nil)
          · rcases List.mem_append.mp hx with q | q
            · exact oks x q
            · rw [List.mem_singleton.mp q]
              exact okv
          · exact ((((up.trans up12).trans u13.all).mono (L' := hA :: [dd]) fun x hx => List.mem_cons_of_mem _ hx).trans (upP.mono fun x hx => by rw [List.mem_singleton.mp hx]; exact List.mem_cons_self)).drop nhA
        refine ⟨_, rfl, .inl ⟨rfl, _, sql_of h12⟩, _, rfl, rfl, _, rfl, ?_⟩
        refine ite2 (fun hw => ?_) (fun hw => ?_)
        · exact iteT ⟨_, rfl, fin _ _ H12 Up.refl dts okz⟩
        · refine ⟨_, rfl, Nat.zero_le _, fun e he => ?_⟩
          have ue : Up [] H12 (upd H12 e (.lst [])) := Up.new he
          have hv1 : Hv (α := List Slt) K (upd H12 e (.lst [])) (.ref hA) held := .lst (sql_of (ue.at h12)) (dpa_up ue (dpa_up fz_le hdt12))
          have hv2 : Hv (α := List Slt) K (upd H12 e (.lst [])) (.ref e) [] := .lst (sql_of upd_same) .nil
          refine ⟨held, [], hv1, hv2, _, rfl, ?_⟩
          cases hc : held with
          | nil => exact iteD rfl ⟨_, rfl, fin _ _ _ ue (dp_up ue.all.fz dts) okz⟩
          | cons z0 rest =>
            refine iteDF (fun z => nomatch z) ?_
            rw [hc] at hdt12
            cases hdt12 with
            | cons hz0 hrest =>
              exact ⟨_, rfl, hA, _, 0, _, rfl, rfl, sql_of (ue.at h12), atI_nat (j := 0) rfl, fin _ z0 _ ue (dp_up ue.all.fz hz0) (oks z0 (by rw [hc]; exact List.mem_cons_self))⟩
      · rintro σ H9 ⟨zs, held, d6, d7, m8, rfl, hh, hdt, lh, oks, ds, hm8, up, tr⟩
        have nbl : hA ∉ bA :: L := G.tr.out nhA
        have subA := fz_sub (H := H9) (L := bA :: L) (L' := hA :: bA :: L) fun x hx => List.mem_cons_of_mem _ hx
        have l4 : held.length ≤ 4 := by omega
        have nzs : zs.length = held.length := by rw [dpa_len hdt, List.length_map]
        have dh9 : Dp K (Fz (bA :: L) H9) (.ref hA) (.list (held.map dS)) := .lst (.inl (.inl (by rw [fz_out nbl]; exact hh))) (dpa_up subA hdt)
        have ds9 : DS K (bA :: L) H9 dd m8 := ds.less G.ds.mem
        have tr9 : Tr (bA :: L) H9 := tr.sub fun x hx => List.mem_cons_of_mem _ hx
        have hm8' : m8 ≤ m5 + 10 := by omega
        refine ⟨_, rfl, bA :: L, dd, m8, 4, rfl, by decide, by decide, tr9, ds9, by unfold most at hm ⊢; omega, fun k4 H10 hk4 u10 ds10 => ?_⟩
        refine ⟨_, rfl, by omega, by omega, fun D hD => ?_⟩
        have tr10 := tr9.up u10
        have nDd : dd ∉ [D] := fun z => ds10.ne hD (List.mem_singleton.mp z)
        have C : LcC (bA :: L) [dd] D (fun i H' => DS K (D :: bA :: L) H' dd (m8 + 1 + 12 * i)) [] H10 := by
          refine ⟨hD, tr10, sddB, Nat.zero_le _, ds10.to (Up.refl.gw fun x hx => ?_) rfl (List.mem_cons_of_mem _ ds10.mem) (Nat.le_refl _), fun i H' ys _ st => st.on (Up.put (L := [D]) List.mem_cons_self) nDd (fun x hx => by rw [List.mem_singleton.mp hx]; exact List.mem_cons_self) (Nat.le_refl _)⟩
          rcases List.mem_cons.mp hx with q | q
          · exact .inr (by rw [q]; exact hD)
          · exact .inl q
        have dh10 : Dp K (Fz (bA :: L) H10) (.ref hA) (.list (held.map dS)) := dp_up (u10.mono sddB).fz dh9
        have hZ : ZUp (fun H v => ∃ mv : Mv, Gd held mv ∧ HM K H v mv) := fun _ _ _ u ⟨mv, h1, h2⟩ => ⟨mv, h1, hm_up u h2⟩
        refine lcJR (K := K) (R := fun _ => True) (Z := fun H v => ∃ mv : Mv, Gd held mv ∧ HM K H v mv) C hZ (fun q yq H' hq I => ?_) (fun H11 yM dsl up11 tr11 st11 len11 hR hsq hdp hzM => ?_)
        · refine ⟨rfl, yesT ⟨_, rfl, _, rfl, D :: bA :: L, dd, hA, m8 + 1 + 12 * q, held, rfl, I.tr, I.st, by unfold most at hm ⊢; omega, dp_up (I.gw C) dh10, l4, fun u o H11 m11 u11 ds11 hm11 oko duo hdu => ?_⟩⟩
          have tr11 := I.tr.up u11
          refine ⟨_, rfl, 1, rfl, by show 2 ≤ sizeLine; decide, fun l hl => ?_⟩
          have nl : l ∉ [dd] := fun z => ds11.ne hl (List.mem_singleton.mp z).symm
          refine ⟨D :: bA :: L, dd, m11, .ref l, [.int 1, .int (-1)], rfl, by decide, by decide, tr11.up (Up.new (L := []) hl), ds11.on (Up.new (L := []) hl) (fun z => nomatch z) (fun _ z => (nomatch z)) (Nat.le_refl _), by unfold most at hm ⊢; omega, fun H' u => ⟨l, rfl, .inr (sql_of (u.keep nl upd_same))⟩, fun k2 y H12 hy u12 ds12 => ?_⟩
          obtain ⟨sg1, hsg, rfl⟩ : ∃ s : Int, sg s ∧ y = .int s := by
            match k2, hy with
            | 0, hy => exact ⟨1, .inl rfl, (Option.some.inj hy).symm⟩
            | 1, hy => exact ⟨-1, .inr rfl, (Option.some.inj hy).symm⟩
          have tr12 := (tr11.up (Up.new (L := []) (o := .lst [.int 1, .int (-1)]) hl)).up u12
          have sD : ∀ x, x ∈ [dd] → x ∈ D :: bA :: L := fun x hx => List.mem_cons_of_mem _ (sddB x hx)
          have w12 : Up [dd] H11 H12 := (Up.new hl).trans u12
          have duo12 := dp_up (w12.mono sD).fz duo
          have hdu12 := hd_up (w12.mono sD).fz hdu
          refine ⟨by show 2 ≤ sizeLine; decide, fun t ht => ?_⟩
          refine I.add C hZ (by omega) ((u11.trans w12).trans (Up.new ht)) (ds12.on (Up.new (L := []) ht) (fun z => nomatch z) (fun _ z => (nomatch z)) (by omega)) trivial (dp_new tr12 ht (.cons duo12 (.cons (.int sg1) .nil))) ?_
          exact ⟨(o, sg1), ⟨oko, hsg⟩, t, u, rfl, sqt_of (by rw [fz_out (tr12.out ht)]; exact upd_same), dp_up (Up.new ht).fz duo12, hd_up (Up.new ht).fz hdu12⟩
        · obtain ⟨mvs, gdm, hall⟩ := hall_of hzM
          have lm : mvs.length ≤ 3 := by
            have h1 := hall_len hall
            have h2 := dpa_len hdp
            omega
          refine ⟨D, yM, rfl, .inl ⟨sql_up fz_le hsq, fun pM hpM => ?_⟩⟩
          have w12 : Up [] H11 (upd H11 pM (.tup yM)) := Up.new hpM
          have hm12 : HMs K (Fz (bA :: L) (upd H11 pM (.tup yM))) (.ref pM) mvs := ⟨pM, yM, rfl, sqt_of (by rw [fz_out (tr11.out hpM)]; exact upd_same), hall_up w12.all.fz hall⟩
          have tr12 := tr11.up w12
          have u912 : Up [dd] H9 (upd H11 pM (.tup yM)) := (u10.trans up11).trans w12.all
          have ds12 : DS K (bA :: L) (upd H11 pM (.tup yM)) dd (m8 + 60) := (st11.less ds10.mem).on w12 (fun z => nomatch z) (fun _ z => (nomatch z)) (by omega)
          generalize upd H11 pM (.tup yM) = H12 at w12 hm12 tr12 u912 ds12 ⊢
          have hb12 : H12 bA = some (.lst ys) := u912.keep nbd (up.keep nbd G.hb)
          have dh12 := dp_up (u912.mono sddB).fz dh9
          have hh12 : H12 hA = some (.lst zs) := u912.keep nhd hh
          refine ⟨_, rfl, .inl ⟨rfl, _, sql_of hb12⟩, _, rfl, _, rfl, hA, zs, rfl, .inl ⟨sql_of hh12, fun pH hpH => ⟨_, rfl, by show 3 ≤ sizeLine; decide, fun tB htB => ?_⟩⟩⟩
          have w13 : Up [] H12 (upd H12 pH (.tup zs)) := Up.new hpH
          have tr13 := tr12.up w13
          have w14 : Up [] (upd H12 pH (.tup zs)) (upd (upd H12 pH (.tup zs)) tB (.tup [.str nm, .ref pH, .ref pM])) := Up.new htB
          have hdt12 : DpAll K (Fz (bA :: L) H12) zs (held.map dS) := dpa_up (u912.mono sddB).fz (dpa_up subA hdt)
          have dH13 : Dp K (Fz (bA :: L) (upd H12 pH (.tup zs))) (.ref pH) (dH held) := dp_new tr12 hpH hdt12
          have hB14 : HB K (Fz (bA :: L) (upd (upd H12 pH (.tup zs)) tB (.tup [.str nm, .ref pH, .ref pM]))) (.ref tB) ⟨nm, held, mvs⟩ := ⟨tB, .ref pH, .ref pM, rfl, sqt_of (by rw [fz_out (tr13.out htB)]; exact upd_same), dp_up w14.all.fz dH13, hms_up (w13.trans w14).all.fz hm12⟩
          have tr14 := tr13.up w14
          have u14 : Up [dd] H5 (upd (upd H12 pH (.tup zs)) tB (.tup [.str nm, .ref pH, .ref pM])) := (up.trans u912).trans (w13.trans w14).all
          have ds14 : DS K (bA :: L) (upd (upd H12 pH (.tup zs)) tB (.tup [.str nm, .ref pH, .ref pM])) dd (m8 + 60) := ds12.on (w13.trans w14) (fun z => nomatch z) (fun _ z => (nomatch z)) (Nat.le_refl _)
          have hb14 := (w13.trans w14).at hb12
          generalize upd (upd H12 pH (.tup zs)) tB (.tup [.str nm, .ref pH, .ref pM]) = H14 at hB14 tr14 u14 ds14 hb14 w14 ⊢
          have lbs : ys.length = i := by
            have h1 := dpa_len (hbs_dp G.dat)
            have h2 := congrArg List.length G.nam
            rw [List.length_map] at h1 h2
            rw [List.length_take] at h2
            have := (List.getElem?_eq_some_iff.mp hnm).1
            omega
          have upP : Up [bA] H14 (upd H14 bA (.lst (ys ++ [.ref tB]))) := Up.put List.mem_cons_self
          have g14 := (u14.mono sddB).fz
          refine ⟨bA, ys, .ref tB, rfl, rfl, hb14, Nat.lt_of_le_of_lt (show ys.length ≤ 1000 by omega) (by decide), ys ++ [.ref tB], bs ++ [⟨nm, held, mvs⟩], m8 + 60, _, _, _, _, _, _, rfl, upd_same, ?_, ?_, fun b hb => ?_, ds14.on upP (fun z => nbd (by rw [List.mem_singleton.mp z]; exact List.mem_cons_self)) (fun x hx => by rw [List.mem_singleton.mp hx]; exact List.mem_cons_self) (Nat.le_refl _), ?_, ?_, tr14.up upP, ?_, ?_⟩
          · rw [fz_put List.mem_cons_self]
            exact hbs_app hB14 (hbs_up g14 G.dat)
          · rw [List.map_append, take_at hnm, G.nam]
            rfl
          · rcases List.mem_append.mp hb with q | q
            · exact G.ok b q
            · rw [List.mem_singleton.mp q]
              exact ⟨oknms nm (List.mem_of_getElem? hnm), l4, oks, lm, gdm⟩
          · have := G.few
            omega
          · exact (((G.up.trans u14).mono (L' := bA :: [dd]) fun x hx => List.mem_cons_of_mem _ hx).trans (upP.mono fun x hx => by rw [List.mem_singleton.mp hx]; exact List.mem_cons_self)).drop ((u1.trans u2).free hbA)
          · rw [fz_put List.mem_cons_self]
            exact sqt_up g14 G.sps
          · rw [fz_put List.mem_cons_self]
            exact sqt_up g14 G.nms
    · rintro σ H5 ⟨ys, bs, m5, c3, c4, c5, c6, c7, c8, rfl, G⟩
      have hy := sql_of (K := K) G.hb
      refine ⟨_, rfl, _, rfl, bA, ys, rfl, .inl ⟨hy, fun q hq => ⟨by show 2 ≤ sizeLine; decide, fun r hr3 => ?_⟩⟩⟩
      have trL : Tr L H5 := G.tr.sub fun x hx => List.mem_cons_of_mem _ hx
      have sub := fz_sub (H := H5) (L := L) (L' := bA :: L) fun x hx => List.mem_cons_of_mem _ hx
      have w1 : Up [] H5 (upd H5 q (.tup ys)) := Up.new hq
      have tr6 := trL.up w1
      have w2 : Up [] (upd H5 q (.tup ys)) (upd (upd H5 q (.tup ys)) r (.tup [.ref pS, .ref q])) := Up.new hr3
      have en : bs.map Bx.name = nms := by
        have h := G.nam
        rw [List.length_map, List.take_length] at h
        exact h
      have lb : bs.length ≤ 8 := by
        have h := congrArg List.length en
        rw [List.length_map] at h
        omega
      refine k (.ref r) ⟨sp, bs⟩ _ (m + 2000) (G.up.trans (w1.trans w2).all) ((G.ds.less ds0.mem).on (w1.trans w2) (fun z => nomatch z) (fun _ z => (nomatch z)) ?_) (Nat.le_refl _) ⟨by show 1 ≤ sp.length; omega, by show sp.length ≤ 3; omega, oksp, rsp, lb, G.ok, ?_⟩ ?_
      · have h1 := G.few
        have h2 : (nms.map V.str).length ≤ 8 := by rw [List.length_map]; omega
        omega
      · show Rising (bs.map Bx.name)
        rw [en]
        exact rnms
      · refine ⟨r, pS, q, ys, rfl, sqt_of (by rw [fz_out (tr6.out hr3)]; exact upd_same), sqt_up (w1.trans w2).all.fz (sqt_up sub G.sps), sqt_of ?_, hbs_up (w1.trans w2).all.fz (hbs_up sub G.dat)⟩
        rw [fz_out (trL.out hq)]
        exact w2.at upd_same
end
end Kf
end

section
set_option Elab.async false
set_option linter.all false
set_option maxRecDepth 100000
set_option maxHeartbeats 4000000
namespace Kf
open PySem L2 PySem.Spec PyProof.Rows
section
variable {P : Program} {w : World} {A : Around} {E : Value → Shared → Prop} {s : Shared} {ι κ : Type} [DecidableEq κ]
set_option maxHeartbeats 8000000 in
/-- set(xs), xs a tuple -/
theorem call_setT (Y : SetSys P w ι κ) {l : Addr} {items : Array Value} (ks : List ι) {Q : Value → Shared → Prop} (hh : A.handled = none) (hl : s.heap.IsTuple l items) (hsz : items.size = ks.length)
    (hit : ∀ (i : Nat) v, items[i]? = some v → ∃ p, ks[i]? = some p ∧ Y.Is s.heap p v) (hk : ∀ p ∈ ks, ∃ v, Y.Is s.heap p v) (hfew : ks.length < 64) (hu : A.units + 12 < cLine)
    (h : ∀ (h' : Heap) (tk : Nat) L, Y.St h' s.heap.objs.size L → Has Y.key ks ks.length L → (∀ b o, s.heap.get? b = some o → h'.get? b = some o) → Q (.ref s.heap.objs.size) { s with heap := h', toks := tk }) :
    wpAny (model P w) A (call (.type "set") [.ref l]) Q E s := by
  obtain ⟨c, tl, hmro⟩ := F.called_set.mro
  have hmade := F.called_set.made
  have hsub := F.called_set.sub
  refine wpAny_call (codeAny_of_tree ?_)
  show wpAny _ _ (callAny (.type "set") _) _ _ _
  refine wpAny_pure ⟨Code.quiet_builtin _ (by decide +kernel), codeAny_builtin F.entry_type_call ?_⟩
  rw [Around.under_plain (weight_type_call_type "set" [.ref l] []) rfl]
  have h1 := F.called_set.notType
  have h2 := F.called_set.canCreate
  have hct := F.typeCall_set_1 (.ref l)
  repeat (any_goals (first | assumption | wp_step))
  refine codeAny_mono (code_set_led1 (.ref l) (E := E) (Q₁ := fun obj s₁ => obj = .ref s.heap.objs.size ∧ s₁ = { s with heap := s.heap.push (newSetO w) }) ⟨rfl, rfl⟩) fun r s₁ hr => ?_
  cases r with
  | error e => exact hr
  | ok fl =>
    cases fl with
    | ret obj =>
      obtain ⟨rfl, rfl⟩ := hr
      have hS : (s.heap.push (newSetO w)).get? s.heap.objs.size = some (newSetO w) := Heap.get?_push_size _ rfl
      have hT : Shared.TypeIs { s with heap := s.heap.push (newSetO w) } (.ref s.heap.objs.size) "set" := ⟨_, hS, rfl⟩
      have hli := F.called_set.init.lookup
      have hbi := F.called_set.init.bind (.ref s.heap.objs.size)
      repeat (any_goals (first | assumption | wp_step))
      refine codeAny_mono (codeAny_call_builtin (R := wants (fun r s₂ => r = .none ∧ ∃ h' tk L, s₂ = { s with heap := h', toks := tk } ∧ Y.St h' s.heap.objs.size L ∧ Has Y.key ks ks.length L ∧
          (∀ b o, s.heap.get? b = some o → h'.get? b = some o)) E) F.called_set.init.plain F.entry_set_init (check_set_init_1 hT ?_)) fun r₂ s₂ hr₂ => ?_
      · obtain ⟨ol, hol, hcl, nl, hdl⟩ := hl
        obtain ⟨ocls, odict, odata, oslots⟩ := ol
        simp only at hcl hdl
        subst hcl; subst hdl
        have hol' : (s.heap.push (newSetO w)).get? l = some { cls := .type "tuple", dict := odict, data := .seq items nl, slots := oslots } := Heap.get?_push_of_some _ hol
        have hsls := F.sub_tuple_set
        have hslf := F.sub_tuple_frozenset
        have hne : (Value.type "tuple" == Value.type "dict") = false := by decide
        have hl1 : (s.heap.push (newSetO w)).IsTuple l items := ⟨_, hol', rfl, nl, rfl⟩
        unfold Builtin.«set.__init__» noKeywords Builtin.Frozenset.updateFrom
        generalize hPI : pyIter = PI
        wp_walk
        subst hPI
        refine wpAny_pyIter_tuple hl1 ?_
        refine wpAny_bind (wpAny_runValue ?_)
        have hlS : l < s.heap.objs.size := Heap.lt_size hol
        have hh3 : A.in1.in1.in1.handled = none := by simp [hh]
        have hz1 : (s.heap.push (newSetO w)).objs.size = s.heap.objs.size + 1 := Heap.size_push ..
        have hneI : l ≠ (s.heap.push (newSetO w)).objs.size := by
          rw [hz1]
          exact Nat.ne_of_lt (Nat.lt_succ_of_lt hlS)
        have hSf : s.heap.objs.size ∉ [(s.heap.push (newSetO w)).objs.size, l] := by
          rw [hz1]
          simp only [List.mem_cons, List.mem_singleton, List.not_mem_nil, or_false, not_or]
          exact ⟨Nat.ne_of_lt (Nat.lt_succ_self _), Nat.ne_of_gt hlS⟩
        have none_of : ∀ b, s.heap.objs.size ≤ b → s.heap.get? b = none := fun b hb => by
          cases q : s.heap.get? b with
          | none => rfl
          | some o => exact absurd (Nat.lt_of_lt_of_le (Heap.lt_size q) hb) (Nat.lt_irrefl _)
        refine fill_loop Y ((Walks.tuple hh3 _ l hneI items).toS) s.heap.objs.size hSf ks hsz hfew s.heap hit hk (none_of _ (Nat.le_refl _)) (fun b hb => none_of b (by
            rw [List.mem_singleton.mp hb, hz1]
            exact Nat.le_succ _)) (by show A.units + 1 + 1 + 1 + 8 < cLine; omega) (items.size - 0) 0 _ (by omega) (Nat.zero_le _)
          ⟨⟨_, Heap.get?_push_size _ rfl, rfl, rfl⟩, (hl1.push _)⟩ (fun b o e => Heap.get?_push_of_some _ (Heap.get?_push_of_some _ e)) ?hS0 ?hR
        case hS0 =>
          have hget : ((s.heap.push (newSetO w)).push { cls := .type "tuple_iterator", data := .fields #[.ref l, .int 0 0] }).get? s.heap.objs.size = some (newSetO w) := Heap.get?_push_of_some _ hS
          exact ⟨[], Y.fresh hget, Has.zero⟩
        case hR =>
          intro s' L hm hS' g' hkp
          obtain ⟨h', g2, d', tk', os'⟩ := s'
          have eg : g2 = s.gens := hm.gens
          have ed : d' = s.drawn := hm.drawn
          have eo : os' = s.os := hm.os
          subst eg; subst ed; subst eo
          show wpAny _ _ _ _ _ _
          refine wpAny_pure ?_
          show wpAny _ _ (ret Value.none) _ _ _
          rw [hsz] at g'
          exact wpAny_pure ⟨rfl, h', tk', L, rfl, hS', g', hkp⟩
      · cases r₂ with
        | error e => exact hr₂
        | ok fl₂ =>
          cases fl₂ with
          | ret r =>
            obtain ⟨rfl, h', tk, L, rfl, hS', g', hk'⟩ := hr₂
            repeat (any_goals (first | assumption | wp_step))
            exact h _ _ _ hS' g' hk'
          | _ => exact hr₂.elim
    | _ => exact hr.elim
end
end Kf
end

section
set_option Elab.async false
set_option linter.all false
set_option maxRecDepth 100000
set_option maxHeartbeats 4000000
/-! walks: a group hangs together by itself -/
namespace Kf
open PySem L2 PyProof.Rows PySem.Spec
section
variable {X : Cx} {β : Type}
/-- set(xs), xs a tuple of such tuples -/
def rSetNT (K : PySem.W.Frag) (w : World) (T : KTy β) : List V → Hp → VK → Prop := fun xs H Q => ∃ (l : Addr) (ks : List (Addr × β)), xs = [V.ref l] ∧ SqT K H l (ks.map fun p => V.ref p.1) ∧ (∀ p ∈ ks, Dp K H (.ref p.1) (T.nk p.2).data) ∧ ks.length < 64 ∧
  ∀ a L, H a = none → (∀ p ∈ L, p ∈ ks) → (∀ p ∈ ks, p.2 ∈ L.map (·.2)) → (L.map (·.2)).Nodup → Q (.ref a) (upd H a (SetNO w T a L))
theorem cr_setNT (T : KTy β) (hc : X.calm = true) (hu : X.A.units + 64 < cLine) : CallR X (.type "set") (rSetNT X.K X.w T) := by
  intro pins s σ H xs us Q I r h
  obtain ⟨l, ks, rfl, hl, hk, hf, q⟩ := h
  rw [Vals.ref1 r]
  obtain ⟨its, rv, pl, hz⟩ := I.tuple hl
  have hn : H s.heap.objs.size = none := I.hok.fresh (Nat.le_refl _)
  have ei : its = ks.map fun p => Value.ref p.1 := refs_val rv
  have at_ : ∀ p, p ∈ ks → (nestSys X.prog X.w).Is s.heap (p.1, T.nk p.2) (.ref p.1) := fun p hp => ⟨rfl, key_at I T (hk p hp), T.num _⟩
  refine call_setT (nestSys X.prog X.w) (ks.map fun p => (p.1, T.nk p.2)) (I.ok.hd hc) (show s.heap.IsTuple l its.toArray from pl) (by rw [List.size_toArray, ei, List.length_map, List.length_map]) (fun i v hv => ?_) (fun p hp => ?_) (by rw [List.length_map]; exact hf) (by omega) fun h' tk L hS g k => ?_
  · have hv' : its[i]? = some v := by simpa using hv
    rw [ei, List.getElem?_map] at hv'
    cases e : ks[i]? with
    | none => rw [e] at hv'; cases hv'
    | some p =>
      rw [e] at hv'
      have e2 : Value.ref p.1 = v := Option.some.inj hv'
      rw [← e2]
      exact ⟨(p.1, T.nk p.2), by rw [List.getElem?_map, e]; rfl, at_ p (List.mem_of_getElem? e)⟩
  · obtain ⟨q, hq, e⟩ := List.mem_map.mp hp
    rw [← e]
    exact ⟨_, at_ q hq⟩
  · rw [List.length_map] at g
    obtain ⟨L', e, hL⟩ := lift_list (L := L) (ks := ks) (f := fun p => (p.1, T.nk p.2)) fun p hp => List.mem_of_mem_take (g.sub p hp)
    subst e
    refine ⟨.ref s.heap.objs.size, upd H s.heap.objs.size (SetNO X.w T s.heap.objs.size L'), I.laid (t' := tk) k (Nat.le_refl _) (setN_ok hS), rfl, q _ L' hn hL (fun p hp => ?_) ?_⟩
    · have h1 := g.all (p.1, T.nk p.2) (by rw [← List.length_map (f := fun p : Addr × β => (p.1, T.nk p.2)), List.take_length]; exact List.mem_map.mpr ⟨p, hp, rfl⟩)
      obtain ⟨z, hz, e⟩ := List.mem_map.mp h1
      obtain ⟨y, hy, e2⟩ := List.mem_map.mp hz
      have e3 : T.nk y.2 = T.nk p.2 := by
        rw [← e2] at e
        exact e
      exact List.mem_map.mpr ⟨y, hy, T.inj e3⟩
    · obtain ⟨es, ep, t, R⟩ := hS
      have nd := R.nd
      rw [List.map_map] at nd
      refine List.pairwise_map.mpr (List.Pairwise.imp (fun {x y} hne e => ?_) (List.pairwise_map.mp nd))
      exact hne (by show T.nk x.2 = T.nk y.2; rw [e])
end
open PySem L2 PyProof.Rows
abbrev tupS : Type := PySem.W.Tup Slt
def spClosed (K : PySem.W.Frag) : Sp := fun vs H Q _ => ∃ (L : List Addr) (dd : Addr) (m : Nat) (v u : V) (held : List Slt) (ms G : List Mv), vs = [.ref dd, v, u] ∧ Tr L H ∧ DS K L H dd m ∧ m + 100 < most ∧ Dp K (Fz L H) v (dH held) ∧ HMs K (Fz L H) u G ∧ IsG held ms G ∧ held.length ≤ 4 ∧
  ∀ (H' : Hp) (m' : Nat), Up [dd] H H' → DS K L H' dd m' → m' ≤ m + 10 → Q (.bl true) H'
theorem iteDFi {p A B : Prop} {inst : Decidable p} (h : ¬ p) (b : B) : if (@decide p inst) = true then A else B := by
  rw [decide_eq_false h]
  exact iteF b
theorem iteDi {p A B : Prop} {inst : Decidable p} (h : p) (a : A) : if (@decide p inst) = true then A else B := by
  rw [decide_eq_true h]
  exact iteT a
theorem iteNDi {p A B : Prop} {inst : Decidable p} (h : p) (b : B) : if (!(@decide p inst)) = true then A else B := by
  rw [decide_eq_true h]
  exact iteF b
theorem qTi {Q : VK} {H : Hp} {p : Prop} {inst : Decidable p} (h : p) (k : Q (.bl true) H) : Q (.bl (@decide p inst)) H := by
  rw [decide_eq_true h]
  exact k
theorem after_held {held : List Slt} {o : List Nat} (h : Ord held o) : (o.map fun k => (held.map dS).getD k .none) = held.map dS := by
  refine List.ext_getElem? fun i => ?_
  rw [List.getElem?_map]
  cases e : o[i]? with
  | none =>
    have h1 := List.getElem?_eq_none_iff.mp e
    rw [h.len] at h1
    rw [List.getElem?_eq_none (by rw [List.length_map]; exact h1)]
    rfl
  | some k =>
    have hk := h.keep i k e
    show some ((held.map dS).getD k .none) = _
    rw [List.getD_eq_getElem?_getD, List.getElem?_map, List.getElem?_map, hk]
    have lt : i < held.length := by
      rw [← h.len]
      exact (List.getElem?_eq_some_iff.mp e).1
    rw [List.getElem?_eq_getElem lt]
    rfl
theorem after_path {p o : List Nat} (h : ∀ k, k ∈ o → k < p.length) : (o.map fun k => (p.map fun j : Nat => PyData.int (j : Int)).getD k .none) = (comp p o).map fun j : Nat => PyData.int (j : Int) := by
  unfold comp
  rw [List.map_map]
  refine List.map_congr_left fun k hk => ?_
  have hl := h k hk
  show (p.map fun j : Nat => PyData.int (j : Int)).getD k .none = PyData.int ((p.getD k 0 : Nat) : Int)
  rw [List.getD_eq_getElem?_getD, List.getD_eq_getElem?_getD, List.getElem?_map, List.getElem?_eq_getElem hl]
  rfl
theorem fm_none {α β : Type} : ∀ l : List α, (l.map fun _ => (Option.none : Option β)).filterMap id = []
  | [] => rfl
  | _ :: l => fm_none l
theorem keysO {K : PySem.W.Frag} {H : Hp} {α : Type} {g : α → List Nat} : ∀ {vs : List V} {os : List α}, DpAll K H vs (os.map fun x => dO (g x)) → ∃ ks : List (Addr × List Nat), vs = ks.map (fun p => V.ref p.1) ∧ ks.map (·.2) = os.map g ∧ ∀ p ∈ ks, Dp K H (.ref p.1) (dO p.2)
  | vs, [], h => by
    have h' : DpAll K H vs [] := h
    cases h'
    exact ⟨[], rfl, rfl, fun _ z => (nomatch z)⟩
  | vs, o :: os, h => by
    have h' : DpAll K H vs (dO (g o) :: os.map fun x => dO (g x)) := h
    cases h' with
    | cons h1 h2 =>
      obtain ⟨a, rfl, _⟩ := dp_ord h1
      obtain ⟨ks, rfl, e, hk⟩ := keysO h2
      refine ⟨(a, g o) :: ks, rfl, by rw [List.map_cons, List.map_cons, e], fun p hp => ?_⟩
      rcases List.mem_cons.mp hp with q | q
      · rw [q]
        exact h1
      · exact hk p q
theorem keysM {K : PySem.W.Frag} {H : Hp} : ∀ {vs : List V} {ms : List Mv}, HAll K H vs ms → ∃ ks : List (Addr × Mv), vs = ks.map (fun p => V.ref p.1) ∧ ks.map (·.2) = ms ∧ ∀ p ∈ ks, Dp K H (.ref p.1) (dM p.2)
  | _, _, .nil => ⟨[], rfl, rfl, fun _ z => (nomatch z)⟩
  | _, _, .cons (m := m) h t => by
    have hd := hm_dp h
    obtain ⟨a, u, rfl, _⟩ := h
    obtain ⟨ks, rfl, e, hk⟩ := keysM t
    refine ⟨(a, m) :: ks, rfl, by rw [List.map_cons, e], fun p hp => ?_⟩
    rcases List.mem_cons.mp hp with q | q
    · rw [q]
      exact hd
    · exact hk p q
section
variable {P : Program} {w : World} {K : PySem.W.Frag} {mg : Str → Option Value} {base : Heap} {f f0 f1 f2 f3 f4 f5 f6 f7 f8 f9 : Addr} {fd fd0 fd1 fd2 fd3 fd4 fd5 fd6 fd7 fd8 fd9 : FuncData}
theorem ok_closed (T : Txt K mg) (D1 : Df K mg "_law_draw" sDraw ["_law_d", "_law_many"] f1 fd1) (D2 : Df K mg "_law_pick" sPick ["_law_d", "_law_some"] f2 fd2) (D3 : Df K mg "_law_back" sBack ["_law_path"] f3 fd3) (D4 : Df K mg "_law_after" sAfter ["_law_path", "_law_step"] f4 fd4) (D5 : Df K mg "_law_all" sAll ["_law_held"] f5 fd5)
    (D : Df K mg "_law_closed" sClosed ["_law_d", "_law_held", "_law_own"] f fd) : FnOk P w K mg base CX0 3 f fd ["_law_d", "_law_held", "_law_own"] (spClosed K) := by
  have G2 : FnOk P w K mg base CX0 2 f2 fd2 _ (spPk K) := ok_pick T D1 D2
  have G3 : FnOk P w K mg base CX0 1 f3 fd3 _ (spBack K) := ok_back T D3
  have G4 : FnOk P w K mg base CX0 1 f4 fd4 _ (spAfter K) := ok_after T D4
  have G5 : FnOk P w K mg base CX0 1 f5 fd5 _ (spAll K) := ok_all T D5
  refine D.F.ok scClosed (fun vs H Q E h => ?_) (fun cdv A outer s H vs Q E hr h => ?_)
  · obtain ⟨L, dd, m, v, u, held, ms, G, rfl, _⟩ := h
    rfl
  · obtain ⟨L, dd, m, v, u, held, ms, G, rfl, tr0, ds0, hm, hv, hu, isG, few, k⟩ := h
    have hr1 : Room 1 _ := hr.mono (by decide)
    refine ⟨_, pss_cons (ps_par (i := 3) (j := 4) rfl scClosed.nd rfl rfl (by decide) rfl rfl (pa_cons (pe_tupRg rfl (by rfl) T.tuple (prg_1 (by rfl) T.range (pe_callB cr_len (by rfl) T.len bt_len (pa_cons (pv 1) pa_nil)))) (pa_cons
        (pe_lc (own := [("_law_path", 10), ("_law_sign", 11)]) (g := gPair K 10 11) (tt := tYes) rfl scClosed.nd (pi_tup (pv 2)) (blkOk_by (N := nClosed) (sc := defScope sClosed) (by decide +kernel)) (fun _ _ _ _ _ => pg_pair (i := 10) (j := 11) rfl scClosed.nd rfl rfl (Or.inl rfl) (Or.inl rfl) (Or.inr rfl) (Or.inr rfl)) (fun _ _ _ _ _ => pts_nil) (fun _ _ _ _ _ => pv 10)) pa_nil)) rfl)
      (pss_cons (ps_if (pw_or (pt_cmpR (op_notInV (α := Mv) (huV hr (by decide))) (pe_tup (pa_cons (pv 3) (pa_cons pe_int pa_nil))) (pv 2) rfl) (pw_or1 (pt_cmpR (op_neV (α := List (List Nat)) (huV0 hr (by decide)))
          (pe_lc (own := [("_law_path", 10)]) (g := gName 10) (tt := tTest (tOp (rNeV tupS K) (tCall (spAfter K) [] E0 (tCons (tVar 1) (tCons (tVar 10) tNil))) (tVar 1))) rfl scClosed.nd (pi_list (pv 4)) (blkOk_by (N := nClosed) (sc := defScope sClosed) (by decide +kernel)) (fun _ _ _ _ _ => pg_name (i := 10) scClosed.nd rfl (Or.inl rfl))
            (fun _ _ _ _ _ => pts_one (pt_cmpR (r := rNeV tupS K) (op_neV (α := tupS) (huV0 hr (by decide))) (pe_cd (sp := spAfter K) D4 G4 hr1 (by rfl) (pa_cons (pv 1) (pa_cons (pv 10) pa_nil))) (pv 1) (nomark _))) (fun _ _ _ _ _ => pv 10)) (pe_lst pa_nil) (nomark _)))).pt pss_never pss_nil)
      (pss_cons (ps_setLc (i := 5) (own := [("_law_path", 10), ("_law_sign", 11)]) (g := gPair K 10 11) (tt := tYes) rfl scClosed.nd rfl rfl (sw_true rfl rfl rfl (by decide +kernel)) (pi_tup (pv 2)) (blkOk_by (N := nClosed) (sc := defScope sClosed) (by decide +kernel)) (fun _ _ _ _ _ => pg_pair (i := 10) (j := 11) rfl scClosed.nd rfl rfl (Or.inl rfl) (Or.inl rfl) (Or.inr rfl) (Or.inr rfl)) (fun _ _ _ _ _ => pts_nil)
          (fun _ _ _ _ _ => pe_tup (pa_cons (pe_cd (sp := spBack K) D3 G3 hr1 (by rfl) (pa_cons (pv 10) pa_nil)) (pa_cons (pv 11) pa_nil))))
      (pss_cons (ps_if (pt_cmpR (op_neV (α := List Mv) (huV0 hr (by decide)))
          (pe_lc (own := [("_law_one", 12)]) (g := gName 12) (tt := tOr (tTest (tOp (rInV Mv K true) (tVar 12) (tVar 2))) (tTest (tOp (rInV Int K true) (tOp (rIxT K) (tVar 12) (tC (.int 1))) (tTup (tCons (tC (.int 1)) (tCons (tUn (rU fun i => .int (-i)) (tC (.int 1))) tNil)))))) rfl scClosed.nd (pi_list (pv 5)) (blkOk_by (N := nClosed) (sc := defScope sClosed) (by decide +kernel)) (fun _ _ _ _ _ => pg_name (i := 12) scClosed.nd rfl (Or.inl rfl))
            (fun _ _ _ _ _ => pts_one (pw_or (pt_cmpR (r := rInV Mv K true) (op_notInV (α := Mv) (huV hr (by decide))) (pv 12) (pv 2) rfl) (pw_or1 (pt_cmpR (r := rInV Int K true) (op_notInV (α := Int) (huV hr (by decide))) (pe_ix (r := rIxT K) ix_tup (pv 12) pe_int (fun _ _ => rfl)) (pe_tup (pa_cons pe_int (pa_cons (pe_un un_neg pe_int) pa_nil))) rfl))).pt) (fun _ _ _ _ _ => pv 12)) (pe_lst pa_nil) (nomark _)) pss_never pss_nil)
      (pss_cons (ps_asg (pe_tup (pa_cons (pe_cd D2 G2 hr (by rfl) (pa_cons (pv 0) (pa_cons (pv 2) pa_nil))) (pa_cons (pe_callB (cr_lenN tyO) (by rfl) T.len bt_len (pa_cons (pe_callTy (cr_setN tyO rfl hr.units) (by rfl) T.set bt_set (pa_cons (pv 4) pa_nil)) pa_nil)) pa_nil)))
          (pg_tup rfl (pgs_cons (pg_pair (i := 6) (j := 7) rfl scClosed.nd rfl rfl (Or.inr rfl) (Or.inr rfl) (Or.inl rfl) (Or.inl rfl)) (pgs_cons (pg_name (i := 8) scClosed.nd rfl (Or.inl rfl)) pgs_nil))))
      (pss_cons (ps_setLc (i := 9) (own := [("_law_path", 10), ("_law_sign", 11)]) (g := gPair K 10 11) (tt := tYes) rfl scClosed.nd rfl rfl (sw_true rfl rfl rfl (by decide +kernel)) (pi_tup (pv 2)) (blkOk_by (N := nClosed) (sc := defScope sClosed) (by decide +kernel)) (fun _ _ _ _ _ => pg_pair (i := 10) (j := 11) rfl scClosed.nd rfl rfl (Or.inl rfl) (Or.inl rfl) (Or.inr rfl) (Or.inr rfl)) (fun _ _ _ _ _ => pts_nil)
          (fun _ _ _ _ _ => pe_tup (pa_cons (pe_cd (sp := spAfter K) D4 G4 hr1 (by rfl) (pa_cons (pv 10) (pa_cons (pv 6) pa_nil))) (pa_cons (pe_op op_mul (pv 11) (pv 7)) pa_nil))))
      (pss_cons (ps_if (pt_cmpR (op_neV (α := List Mv) (huV0 hr (by decide)))
          (pe_lc (own := [("_law_one", 12)]) (g := gName 12) (tt := tTest (tOp (rInV Mv K true) (tVar 12) (tVar 2))) rfl scClosed.nd (pi_list (pv 9)) (blkOk_by (N := nClosed) (sc := defScope sClosed) (by decide +kernel)) (fun _ _ _ _ _ => pg_name (i := 12) scClosed.nd rfl (Or.inl rfl))
            (fun _ _ _ _ _ => pts_one (pt_cmpR (r := rInV Mv K true) (op_notInV (α := Mv) (huV hr (by decide))) (pv 12) (pv 2) rfl)) (fun _ _ _ _ _ => pv 12)) (pe_lst pa_nil) (nomark _)) pss_never pss_nil)
      (pss_cons (ps_if (pw_or (pt_cmpR op_ne (pe_callB cr_len (by rfl) T.len bt_len (pa_cons (pv 2) pa_nil)) (pe_ifExp (pt_cmpR (op_inV (α := Mv) (huV hr (by decide))) (pe_tup (pa_cons (pv 3) (pa_cons (pe_un un_neg pe_int) pa_nil))) (pv 2) rfl) (pe_op op_mul pe_int (pv 8)) (pv 8)) (nomark _))
          (pw_or1 (pt_cmpR op_ne (pe_op op_mod (pe_cd D5 G5 hr1 (by rfl) (pa_cons (pe_callTy call_list_of (by rfl) T.list bt_list (pa_cons (pv 1) pa_nil)) pa_nil)) (pv 8)) pe_int (nomark _)))).pt pss_never pss_nil)
      (pss_one (ps_ret (pe_and (pe_cmpR (op_eqV (α := List Mv) (huV0 hr (by decide))) (pe_callTy call_list_of (by rfl) T.list bt_list (pa_cons (pv 2) pa_nil)) (pe_callB (cr_sortN rfl hr.units) (by rfl) T.sorted bt_sorted (pa_cons (pe_callTy (cr_setNT tyM rfl hr.units) (by rfl) T.set bt_set (pa_cons (pv 2) pa_nil)) pa_nil)) (nomark _))
        (pe_one (pe_callB cr_is (by rfl) T.isi bt_isi (pa_cons (pv 2) (pa_cons (pe_cls (by rfl) T.tuple bt_tuple) pa_nil)))))))))))))), ?_⟩
    obtain ⟨ah, zs, rfl, hz0, hzd0⟩ := dp_tuple hv
    obtain ⟨au, xs, rfl, hx0, hal0⟩ := hu
    have nz : zs.length = held.length := by rw [dpa_len hzd0, List.length_map]
    have nx : xs.length = G.length := hall_len hal0
    have g48 : G.length ≤ 48 := moves_le few isG.grp.nd fun m hm => isG.grp.good hm
    refine ⟨_, rfl, ah, zs, rfl, .inr (sqt_up fz_le hz0), _, rfl, rg_ok (by rw [nz]; omega), fun q hq => ?_⟩
    rw [nz, rgV_range]
    have d1 : Dp K (Fz L (upd H q (.tup ((List.range held.length).map fun k : Nat => V.int (k : Int))))) (.ref q) (dO (List.range held.length)) := dp_new tr0 hq (dpa_ofO _ _ _)
    have u1 : Up [] H (upd H q (.tup ((List.range held.length).map fun k : Nat => V.int (k : Int)))) := Up.new hq
    generalize upd H q (.tup ((List.range held.length).map fun k : Nat => V.int (k : Int))) = H1 at d1 u1 ⊢
    have tr1 := tr0.up u1
    have hx1 := sqt_up u1.all.fz hx0
    have hal1 := hall_up u1.all.fz hal0
    refine ⟨_, rfl, au, rfl, ⟨_, sqt_up fz_le hx1⟩, fun D hD => ?_⟩
    have C : LcC L [] D (fun _ _ => True) (G.map fun m => some (dO m.1)) H1 := .pure hD tr1 (by rw [List.length_map]; omega)
    refine lcT C hx1 (by rw [List.length_map, nx]) (fun i x oo ys H' hx _ I => ?_) fun H2 u2 tr2 _ hor => ?_
    · obtain ⟨m1, hm1, hmx⟩ := hall_at hal1 hx
      obtain ⟨a', u', rfl, hq', hdo, _⟩ := hm_up (I.gw C) hmx
      exact ⟨a', u', _, rfl, sqt_up fz_le hq', rfl, yesT ⟨_, rfl, I.add C .refl trivial (map_at hm1) hdo⟩⟩
    rw [fm_all] at hor
    refine ⟨_, _, rfl, ?_⟩
    have u02 := u1.trans u2
    have ds2 : DS K L H2 dd m := ds0.on u02 (fun z => nomatch z) (fun _ z => (nomatch z)) (Nat.le_refl _)
    have hz2 := sqt_up u02.all.fz hz0
    have hzd2 := dpa_up u02.all.fz hzd0
    have hx2 := sqt_up u2.all.fz hx1
    have hal2 := hall_up u2.all.fz hal1
    have d2 := dp_up u2.all.fz d1
    -- the order that leaves all in place
    refine ⟨_, rfl, by show 2 ≤ sizeLine; decide, fun t ht => ?_⟩
    have ut : Up [] H2 (upd H2 t (.tup [.ref q, .int 1])) := Up.new ht
    have dt : Hv (α := Mv) K (upd H2 t (.tup [.ref q, .int 1])) (.ref t) (one held.length) := dp_up fz_le (dp_new tr2 ht (.cons d2 (.cons (.int 1) .nil)))
    have u03 := u02.trans ut
    have tr3 := tr2.up ut
    have ds3 : DS K L (upd H2 t (.tup [.ref q, .int 1])) dd m := ds2.on ut (fun z => nomatch z) (fun _ z => (nomatch z)) (Nat.le_refl _)
    have hz3 := sqt_up ut.all.fz hz2
    have hzd3 := dpa_up ut.all.fz hzd2
    have hx3 := sqt_up ut.all.fz hx2
    have hal3 := hall_up ut.all.fz hal2
    have d3 := dp_up ut.all.fz d2
    have hor3 := dp_up ut.all.fz hor
    generalize upd H2 t (.tup [.ref q, .int 1]) = H3 at dt u03 tr3 ds3 hz3 hzd3 hx3 hal3 d3 hor3 ⊢
    refine ⟨_, rfl, one held.length, G, au, xs, dt, rfl, .inl (sqt_up fz_le hx3), dpa_up fz_le (hall_dp hal3), _, rfl, iteDFi (fun z => z isG.grp.one_mem) ?_⟩
    obtain ⟨yo, hyo, hyd⟩ := dp_list hor3
    refine ⟨_, rfl, D, rfl, ⟨_, sql_up fz_le hyo⟩, fun D2 hD2 => ?_⟩
    have C2 : LcC L [] D2 (fun _ _ => True) (G.map fun _ => (Option.none : Option PyData)) H3 := .pure hD2 tr3 (by rw [List.length_map]; omega)
    refine lcL C2 hyo (by rw [dpa_len hyd, List.length_map, List.length_map]) (fun i x oo ys H' hx ho I => ?_) fun H4 u4 tr4 _ hem => ?_
    · obtain ⟨m1, hm1, hmx⟩ := dpa_map hyd hx
      have gm := isG.grp.good (List.mem_of_getElem? hm1)
      have g' := I.gw C2
      refine ⟨rfl, _, rfl, _, rfl, D2 :: L, .ref ah, x, held.map dS, m1.1, rfl, I.tr, .tup (sqt_up g' hz3) (dpa_up g' hzd3), dp_up g' hmx, (fun k hk => by rw [List.length_map]; exact gm.1.lt k hk), (by rw [gm.1.len]; omega), fun z H5 u5 dz => ?_⟩
      rw [after_held gm.1] at dz
      have dh5 : Dp K H5 (.ref ah) (dH held) := dp_up fz_le (dp_up u5.all.fz (.tup (sqt_up g' hz3) (dpa_up g' hzd3)))
      refine ⟨_, rfl, ⟨held⟩, ⟨held⟩, dp_up fz_le dz, dh5, _, rfl, iteDFi (fun z => z rfl) (I.skip C2 u5 trivial ?_)⟩
      rw [map_at hm1]
    rw [fm_none] at hem
    refine ⟨Nat.zero_le _, fun e he => ⟨[], [], dp_up (Up.new he) (dp_up fz_le hem), .lst (sql_of upd_same) .nil, _, rfl, iteDFi (fun z => z rfl) ?_⟩⟩
    have ue := u4.trans (Up.new (o := .lst []) he)
    have u05 := u03.trans ue
    have tr5 := tr3.up ue
    have ds5 : DS K L (upd H4 e (.lst [])) dd m := ds3.on ue (fun z => nomatch z) (fun _ z => (nomatch z)) (Nat.le_refl _)
    have hz5 := sqt_up ue.all.fz hz3
    have hzd5 := dpa_up ue.all.fz hzd3
    have hx5 := sqt_up ue.all.fz hx3
    have hal5 := hall_up ue.all.fz hal3
    have d5 := dp_up ue.all.fz d3
    have hor5 := dp_up ue.all.fz hor3
    generalize upd H4 e (.lst []) = H5 at u05 tr5 ds5 hz5 hzd5 hx5 hal5 d5 hor5 ⊢
    -- undone
    refine ⟨_, rfl, au, rfl, ⟨_, sqt_up fz_le hx5⟩, fun D3 hD3 => ?_⟩
    have C3 : LcC L [] D3 (fun _ _ => True) (G.map fun m => some (dM (inv m))) H5 := .pure hD3 tr5 (by rw [List.length_map]; omega)
    refine lcT C3 hx5 (by rw [List.length_map, nx]) (fun i x oo ys H' hx _ I => ?_) fun H6 u6 tr6 _ hun => ?_
    · obtain ⟨m1, hm1, hmx⟩ := hall_at hal5 hx
      have gm := isG.grp.good (List.mem_of_getElem? hm1)
      obtain ⟨a', u', rfl, hq', hdo, hdd⟩ := hm_up (I.gw C3) hmx
      refine ⟨a', u', _, rfl, sqt_up fz_le hq', rfl, yesT ⟨_, rfl, D3 :: L, u', m1.1, rfl, I.tr, hdo, hd_up fz_le hdd, (by rw [gm.1.len]; omega), (fun k hk => gm.1.mem (by rw [← gm.1.len]; exact hk)), fun z H7 u7 dz => ⟨_, rfl, by show 2 ≤ sizeLine; decide, fun t ht => ?_⟩⟩⟩
      exact I.add C3 (u7.trans (Up.new ht)) trivial (map_at hm1) (dp_new (I.tr.up u7) ht (.cons dz (.cons (.int _) .nil)))
    rw [fm_all] at hun
    have u06 := u05.trans u6
    have ds6 : DS K L H6 dd m := ds5.on u6 (fun z => nomatch z) (fun _ z => (nomatch z)) (Nat.le_refl _)
    have hz6 := sqt_up u6.all.fz hz5
    have hzd6 := dpa_up u6.all.fz hzd5
    have hx6 := sqt_up u6.all.fz hx5
    have hal6 := hall_up u6.all.fz hal5
    have d6 := dp_up u6.all.fz d5
    have hor6 := dp_up u6.all.fz hor5
    obtain ⟨yu, hyu, hyud⟩ := dp_list hun
    refine ⟨_, rfl, D3, rfl, ⟨_, sql_up fz_le hyu⟩, fun D4 hD4 => ?_⟩
    have C4 : LcC L [] D4 (fun _ _ => True) (G.map fun _ => (Option.none : Option PyData)) H6 := .pure hD4 tr6 (by rw [List.length_map]; omega)
    refine lcL C4 hyu (by rw [dpa_len hyud, List.length_map, List.length_map]) (fun i x oo ys H' hx ho I => ?_) fun H7 u7 tr7 _ hem7 => ?_
    · obtain ⟨m1, hm1, hmx⟩ := dpa_map (f := fun m => dM (inv m)) hyud hx
      have hin := List.mem_of_getElem? hm1
      have gm := isG.grp.good hin
      have g' := I.gw C4
      obtain ⟨a', u', rfl, hq', hdo⟩ := dp_move (dp_up g' hmx)
      refine ⟨rfl, _, rfl, _, rfl, inv m1, G, au, xs, dp_up fz_le (dp_up g' hmx), rfl, .inl (sqt_up fz_le (sqt_up g' hx6)), dpa_up fz_le (hall_dp (hall_up g' hal6)), _, rfl, iteDFi (fun z => z (isG.grp.inv_mem hin)) ?_⟩
      refine ⟨_, rfl, a', _, 1, _, rfl, rfl, sqt_up fz_le hq', atI_nat (j := 1) rfl, 1, rfl, by show 2 ≤ sizeLine; decide, fun t ht => ⟨m1.2, [1, -1], t, _, .int _, rfl, .inl (sqt_of upd_same), .cons (.int 1) (.cons (.int (-1)) .nil), _, rfl, iteDFi (fun z => z ?_) (I.skip C4 (Up.new ht) trivial (by rw [map_at hm1]))⟩⟩
      rcases gm.2 with e | e
      · rw [e]
        exact List.mem_cons_self
      · rw [e]
        exact List.mem_cons_of_mem _ List.mem_cons_self
    rw [fm_none] at hem7
    refine ⟨Nat.zero_le _, fun e he => ⟨[], [], dp_up (Up.new he) (dp_up fz_le hem7), .lst (sql_of upd_same) .nil, _, rfl, iteDFi (fun z => z rfl) ?_⟩⟩
    have ue7 := u7.trans (Up.new (o := .lst []) he)
    have u08 := u06.trans ue7
    have tr8 := tr6.up ue7
    have ds8 : DS K L (upd H7 e (.lst [])) dd m := ds6.on ue7 (fun z => nomatch z) (fun _ z => (nomatch z)) (Nat.le_refl _)
    have hz8 := sqt_up ue7.all.fz hz6
    have hzd8 := dpa_up ue7.all.fz hzd6
    have hx8 := sqt_up ue7.all.fz hx6
    have hal8 := hall_up ue7.all.fz hal6
    have d8 := dp_up ue7.all.fz d6
    have hor8 := dp_up ue7.all.fz hor6
    generalize upd H7 e (.lst []) = H8 at u08 tr8 ds8 hz8 hzd8 hx8 hal8 d8 hor8 ⊢
    -- a drawn one; how many orders
    have sdd : ∀ x, x ∈ [dd] → x ∈ L := fun x hx => by
      rw [List.mem_singleton.mp hx]
      exact ds0.mem
    refine ⟨_, rfl, _, rfl, L, dd, m, .ref au, xs, rfl, by rw [nx]; exact List.length_pos_iff.mpr isG.grp.ne, by omega, tr8, ds8, by omega, fun H' u => ⟨au, rfl, .inl (sqt_up fz_le (sqt_up (u.mono sdd).fz hx8))⟩, fun kk y H9 hy u9 ds9 => ?_⟩
    have tr9 := tr8.up u9
    have hor9 := dp_up (u9.mono sdd).fz hor8
    obtain ⟨yo9, hyo9, hyd9⟩ := dp_list hor9
    obtain ⟨ks9, rfl, ek9, hks9⟩ := keysO (g := fun m : Mv => m.1) hyd9
    have lk9 : ks9.length = G.length := by
      have := congrArg List.length ek9
      rw [List.length_map, List.length_map] at this
      exact this
    refine ⟨_, rfl, D, ks9, rfl, sql_up fz_le hyo9, fun p hp => dp_up fz_le (by rw [show (tyO.nk p.2).data = dO p.2 from kO_data _]; exact hks9 p hp), by omega, fun a9 Ls ha9 hsub hal nd => ?_⟩
    have hDm : ∀ p, p ∈ Ls.map (·.2) ↔ ∃ z, (p, z) ∈ G := by
      intro p
      constructor
      · intro hp
        obtain ⟨y, hy, rfl⟩ := List.mem_map.mp hp
        have h1 : y.2 ∈ ks9.map (·.2) := List.mem_map.mpr ⟨y, hsub y hy, rfl⟩
        rw [ek9] at h1
        obtain ⟨mm, hmm, e⟩ := List.mem_map.mp h1
        exact ⟨mm.2, by rw [← e]; exact hmm⟩
      · rintro ⟨z, hz⟩
        have h1 : p ∈ ks9.map (·.2) := by
          rw [ek9]
          exact List.mem_map.mpr ⟨(p, z), hz, rfl⟩
        obtain ⟨y, hy, rfl⟩ := List.mem_map.mp h1
        exact hal y hy
    have count := isG.grp.count nd hDm
    rw [List.length_map] at count
    have lpos : 0 < Ls.length := by
      have h1 : (one held.length).1 ∈ Ls.map (·.2) := (hDm _).mpr ⟨(one held.length).2, isG.grp.one_mem⟩
      rw [← List.length_map (f := fun p : Addr × List Nat => p.2)]
      exact List.length_pos_of_mem h1
    obtain ⟨X, hX, hXm, hXl⟩ := young_orders held few
    have hdiv := isG.grp.young nd hDm hX hXm
    rw [List.length_map, hXl] at hdiv
    have emod : ((young held held.length : Nat) : Int) % ((Ls.length : Nat) : Int) = 0 := by
      obtain ⟨c, hc⟩ := hdiv
      rw [hc, Int.natCast_mul]
      exact Int.mul_emod_right _ _
    obtain ⟨m5, hm5, hmy⟩ := hall_at hal8 hy
    have gm5 := isG.grp.good (List.mem_of_getElem? hm5)
    refine ⟨a9, Ls, rfl, upd_same, by show 2 ≤ sizeLine; decide, fun t9 ht9 => ?_⟩
    have w9 : Up [] H9 (upd H9 a9 (SetNO w tyO a9 Ls)) := Up.new ha9
    have w10 : Up [] (upd H9 a9 (SetNO w tyO a9 Ls)) (upd (upd H9 a9 (SetNO w tyO a9 Ls)) t9 (.tup [y, .int ((Ls.length : Nat) : Int)])) := Up.new ht9
    have u10 := w9.trans w10
    have up10 : Up [dd] H (upd (upd H9 a9 (SetNO w tyO a9 Ls)) t9 (.tup [y, .int ((Ls.length : Nat) : Int)])) := (u08.all.trans u9).trans u10.all
    have g10 : Up [] (Fz L H8) (Fz L (upd (upd H9 a9 (SetNO w tyO a9 Ls)) t9 (.tup [y, .int ((Ls.length : Nat) : Int)]))) := (u9.mono sdd).fz.trans u10.all.fz
    have tr10 := tr9.up u10
    have ds10 : DS K L (upd (upd H9 a9 (SetNO w tyO a9 Ls)) t9 (.tup [y, .int ((Ls.length : Nat) : Int)])) dd (m + 1) := ds9.on u10 (fun z => nomatch z) (fun _ z => (nomatch z)) (Nat.le_refl _)
    have hz10 := sqt_up g10 hz8
    have hzd10 := dpa_up g10 hzd8
    have hx10 := sqt_up g10 hx8
    have hal10 := hall_up g10 hal8
    have d10 := dp_up g10 d8
    obtain ⟨a5, u5, rfl, hq5, hdo5, _⟩ := hm_up g10 hmy
    refine ⟨t9, _, rfl, sqt_of upd_same, rfl, _, _, rfl, ⟨a5, u5, _, rfl, sqt_up fz_le hq5, _, _, rfl, rfl, ?_⟩⟩
    -- reached
    refine ⟨_, rfl, au, rfl, ⟨_, sqt_up fz_le hx10⟩, fun D5 hD5 => ?_⟩
    have C5 : LcC L [] D5 (fun _ _ => True) (G.map fun m => some (dM (mul m m5))) (upd (upd H9 a9 (SetNO w tyO a9 Ls)) t9 (.tup [.ref a5, .int ((Ls.length : Nat) : Int)])) := .pure hD5 tr10 (by rw [List.length_map]; omega)
    refine lcT C5 hx10 (by rw [List.length_map, nx]) (fun i x oo ys H' hx _ I => ?_) fun H11 u11 tr11 _ hre => ?_
    · obtain ⟨m1, hm1, hmx⟩ := hall_at hal10 hx
      have gm := isG.grp.good (List.mem_of_getElem? hm1)
      obtain ⟨a', u', rfl, hq', hdo, hdd⟩ := hm_up (I.gw C5) hmx
      have lk : ∀ k, k ∈ m5.1 → k < m1.1.length := fun k hk => by
        rw [gm.1.len]
        exact gm5.1.lt k hk
      refine ⟨a', u', _, rfl, sqt_up fz_le hq', rfl, yesT ⟨_, rfl, _, rfl, D5 :: L, u', u5, m1.1.map (fun j : Nat => .int (j : Int)), m5.1, rfl, I.tr, hdo, dp_up (I.gw C5) hdo5, (fun k hk => by rw [List.length_map]; exact lk k hk), (by rw [gm5.1.len]; omega), fun z H7 u7 dz => ?_⟩⟩
      rw [after_path lk] at dz
      have sgp : -(2 ^ 64) < m1.2 ∧ m1.2 < 2 ^ 64 := by rcases gm.2 with q | q <;> rw [q] <;> decide
      refine ⟨_, rfl, _, rfl, _, _, rfl, rfl, .inl sgp, by show 2 ≤ sizeLine; decide, fun t ht => ?_⟩
      exact I.add C5 (u7.trans (Up.new ht)) trivial (map_at hm1) (dp_new (I.tr.up u7) ht (.cons dz (.cons (.int _) .nil)))
    rw [fm_all] at hre
    have up11 := up10.trans u11.all
    have ds11 : DS K L H11 dd (m + 1) := ds10.on u11 (fun z => nomatch z) (fun _ z => (nomatch z)) (Nat.le_refl _)
    have hz11 := sqt_up u11.all.fz hz10
    have hzd11 := dpa_up u11.all.fz hzd10
    have hx11 := sqt_up u11.all.fz hx10
    have hal11 := hall_up u11.all.fz hal10
    have d11 := dp_up u11.all.fz d10
    obtain ⟨yr, hyr, hyrd⟩ := dp_list hre
    refine ⟨_, rfl, D5, rfl, ⟨_, sql_up fz_le hyr⟩, fun D6 hD6 => ?_⟩
    have C6 : LcC L [] D6 (fun _ _ => True) (G.map fun _ => (Option.none : Option PyData)) H11 := .pure hD6 tr11 (by rw [List.length_map]; omega)
    refine lcL C6 hyr (by rw [dpa_len hyrd, List.length_map, List.length_map]) (fun i x oo ys H' hx ho I => ?_) fun H12 u12 tr12 _ hem12 => ?_
    · obtain ⟨m1, hm1, hmx⟩ := dpa_map (f := fun m => dM (mul m m5)) hyrd hx
      have hin := List.mem_of_getElem? hm1
      have g' := I.gw C6
      exact ⟨rfl, _, rfl, _, rfl, mul m1 m5, G, au, xs, dp_up fz_le (dp_up g' hmx), rfl, .inl (sqt_up fz_le (sqt_up g' hx11)), dpa_up fz_le (hall_dp (hall_up g' hal11)), _, rfl, iteDFi (fun z => z (isG.grp.mul_mem hin (List.mem_of_getElem? hm5))) (I.skip C6 .refl trivial (by rw [map_at hm1]))⟩
    rw [fm_none] at hem12
    refine ⟨Nat.zero_le _, fun e he => ⟨[], [], dp_up (Up.new he) (dp_up fz_le hem12), .lst (sql_of upd_same) .nil, _, rfl, iteDFi (fun z => z rfl) ?_⟩⟩
    have ue13 := u12.trans (Up.new (o := .lst []) he)
    have up13 := up11.trans ue13.all
    have tr13 := tr11.up ue13
    have ds13 : DS K L (upd H12 e (.lst [])) dd (m + 1) := ds11.on ue13 (fun z => nomatch z) (fun _ z => (nomatch z)) (Nat.le_refl _)
    have hz13 := sqt_up ue13.all.fz hz11
    have hzd13 := dpa_up ue13.all.fz hzd11
    have hx13 := sqt_up ue13.all.fz hx11
    have hal13 := hall_up ue13.all.fz hal11
    have d13 := dp_up ue13.all.fz d11
    generalize upd H12 e (.lst []) = H13 at up13 tr13 ds13 hz13 hzd13 hx13 hal13 d13 ⊢
    -- how many
    refine ⟨_, rfl, au, xs, rfl, .inr (sqt_up fz_le hx13), _, rfl, 1, rfl, by show 2 ≤ sizeLine; decide, fun t14 ht14 => ?_⟩
    have dt14 : Hv (α := Mv) K (upd H13 t14 (.tup [.ref q, .int (-1)])) (.ref t14) (List.range held.length, -1) := dp_up fz_le (dp_new tr13 ht14 (.cons d13 (.cons (.int (-1)) .nil)))
    have u14 : Up [] H13 (upd H13 t14 (.tup [.ref q, .int (-1)])) := Up.new ht14
    have up15 := up13.trans u14.all
    have ds15 : DS K L (upd H13 t14 (.tup [.ref q, .int (-1)])) dd (m + 1) := ds13.on u14 (fun z => nomatch z) (fun _ z => (nomatch z)) (Nat.le_refl _)
    have hz15 := sqt_up u14.all.fz hz13
    have hzd15 := dpa_up u14.all.fz hzd13
    have hx15 := sqt_up u14.all.fz hx13
    have hal15 := hall_up u14.all.fz hal13
    refine ⟨_, rfl, (List.range held.length, -1), G, au, xs, dt14, rfl, .inl (sqt_up fz_le hx15), dpa_up fz_le (hall_dp hal15), _, rfl, ?_⟩
    by_cases hin : (List.range held.length, (-1 : Int)) ∈ G
    · rw [if_pos hin] at count
      refine iteDi hin ⟨_, rfl, _, _, rfl, rfl, .inl ⟨by decide, by decide⟩, ?_⟩
      have e2 : V.int ((xs.length : Nat) : Int) = V.int (2 * ((Ls.length : Nat) : Int)) := by
        rw [nx, count]
        rfl
      refine ⟨rfl, _, rfl, iteNDi e2 ?_⟩
      refine ⟨_, rfl, ah, zs, rfl, .inr (sqt_up fz_le hz15), fun l hl => ⟨l, zs, held, rfl, sql_of upd_same, dpa_up (Up.new hl) (dpa_up fz_le hzd15), few, fun H16 u16 => ?_⟩⟩
      refine ⟨_, rfl, _, _, rfl, rfl, (by omega), rfl, _, rfl, iteNDi (congrArg V.int emod) ?_⟩
      have u1516 := (Up.new (L := []) (o := .lst zs) hl).trans u16
      have hx16 := sqt_up u1516.all.fz hx15
      have hal16 := hall_up u1516.all.fz hal15
      have up16 := up15.trans u1516.all
      have ds16 : DS K L H16 dd (m + 10) := ds15.on u1516 (fun z => nomatch z) (fun _ z => (nomatch z)) (by omega)
      refine ⟨_, rfl, au, xs, rfl, .inr (sqt_up fz_le hx16), fun l2 hl2 => ?_⟩
      obtain ⟨ks, ek1, ek2, hks⟩ := keysM hal16
      refine ⟨_, rfl, au, ks, rfl, by rw [← ek1]; exact sqt_up (Up.new hl2) (sqt_up fz_le hx16), fun p hp => dp_up (Up.new hl2) (dp_up fz_le (by rw [show (tyM.nk p.2).data = dM p.2 from kM_data _]; exact hks p hp)), by rw [← List.length_map (f := fun p : Addr × Mv => p.2), ek2]; omega, fun a Ls ha hsub hal nd => ?_⟩
      refine ⟨a, Ls, rfl, upd_same, fun p hp => dp_up (Up.new ha) (dp_up (Up.new hl2) (dp_up fz_le (hks p (hsub p hp)))), fun L1 pp hpm hpp => ?_⟩
      have ePerm : (L1.map (·.2)).Perm G := by
        refine (hpm.map _).trans ((List.perm_ext_iff_of_nodup nd isG.grp.nd).mpr fun x => ⟨fun hx => ?_, fun hx => ?_⟩)
        · obtain ⟨y, hy, rfl⟩ := List.mem_map.mp hx
          rw [← ek2]
          exact List.mem_map.mpr ⟨y, hsub y hy, rfl⟩
        · rw [← ek2] at hx
          obtain ⟨y, hy, rfl⟩ := List.mem_map.mp hx
          exact hal y hy
      have eG : (riseA L1).map (·.2) = G := by rw [riseA_map, rise_same ePerm, isG.srt]
      have w1 : Up [] H16 (upd H16 l2 (.lst xs)) := Up.new hl2
      have w2 : Up [] (upd H16 l2 (.lst xs)) (upd (upd H16 l2 (.lst xs)) a (SetNO w tyM a Ls)) := Up.new ha
      have w3 : Up [] (upd (upd H16 l2 (.lst xs)) a (SetNO w tyM a Ls)) (upd (upd (upd H16 l2 (.lst xs)) a (SetNO w tyM a Ls)) pp (.lst ((riseA L1).map fun q => V.ref q.1))) := Up.new hpp
      have hv1 : Hv (α := List Mv) K (upd (upd (upd H16 l2 (.lst xs)) a (SetNO w tyM a Ls)) pp (.lst ((riseA L1).map fun q => V.ref q.1))) (.ref l2) G := .lst (sql_of ((w2.trans w3).at upd_same)) (dpa_up ((w1.trans w2).trans w3) (dpa_up fz_le (hall_dp hal16)))
      have hv2 : Hv (α := List Mv) K (upd (upd (upd H16 l2 (.lst xs)) a (SetNO w tyM a Ls)) pp (.lst ((riseA L1).map fun q => V.ref q.1))) (.ref pp) G := by
        refine .lst (sql_of upd_same) ?_
        rw [← eG]
        refine dpa_pairs fun p hp => dp_up ((w1.trans w2).trans w3) (dp_up fz_le (hks p (hsub p ((hpm.mem_iff).mp ((riseA_perm L1).mem_iff.mp hp)))))
      refine ⟨G, G, hv1, hv2, _, rfl, iteDi rfl ?_⟩
      have w := (w1.trans w2).trans w3
      exact ⟨_, rfl, _, _, _, true, rfl, tyx_sqt (sqt_up w (sqt_up fz_le hx16)), kit_same, k _ (m + 10) (up16.trans w.all) (ds16.on w (fun z => nomatch z) (fun _ z => (nomatch z)) (Nat.le_refl _)) (Nat.le_refl _)⟩
    · rw [if_neg hin] at count
      refine iteDFi hin ⟨_, rfl, ?_⟩
      have e2 : V.int ((xs.length : Nat) : Int) = V.int ((Ls.length : Nat) : Int) := by
        rw [nx, count]
      refine ⟨rfl, _, rfl, iteNDi e2 ?_⟩
      refine ⟨_, rfl, ah, zs, rfl, .inr (sqt_up fz_le hz15), fun l hl => ⟨l, zs, held, rfl, sql_of upd_same, dpa_up (Up.new hl) (dpa_up fz_le hzd15), few, fun H16 u16 => ?_⟩⟩
      refine ⟨_, rfl, _, _, rfl, rfl, (by omega), rfl, _, rfl, iteNDi (congrArg V.int emod) ?_⟩
      have u1516 := (Up.new (L := []) (o := .lst zs) hl).trans u16
      have hx16 := sqt_up u1516.all.fz hx15
      have hal16 := hall_up u1516.all.fz hal15
      have up16 := up15.trans u1516.all
      have ds16 : DS K L H16 dd (m + 10) := ds15.on u1516 (fun z => nomatch z) (fun _ z => (nomatch z)) (by omega)
      refine ⟨_, rfl, au, xs, rfl, .inr (sqt_up fz_le hx16), fun l2 hl2 => ?_⟩
      obtain ⟨ks, ek1, ek2, hks⟩ := keysM hal16
      refine ⟨_, rfl, au, ks, rfl, by rw [← ek1]; exact sqt_up (Up.new hl2) (sqt_up fz_le hx16), fun p hp => dp_up (Up.new hl2) (dp_up fz_le (by rw [show (tyM.nk p.2).data = dM p.2 from kM_data _]; exact hks p hp)), by rw [← List.length_map (f := fun p : Addr × Mv => p.2), ek2]; omega, fun a Ls ha hsub hal nd => ?_⟩
      refine ⟨a, Ls, rfl, upd_same, fun p hp => dp_up (Up.new ha) (dp_up (Up.new hl2) (dp_up fz_le (hks p (hsub p hp)))), fun L1 pp hpm hpp => ?_⟩
      have ePerm : (L1.map (·.2)).Perm G := by
        refine (hpm.map _).trans ((List.perm_ext_iff_of_nodup nd isG.grp.nd).mpr fun x => ⟨fun hx => ?_, fun hx => ?_⟩)
        · obtain ⟨y, hy, rfl⟩ := List.mem_map.mp hx
          rw [← ek2]
          exact List.mem_map.mpr ⟨y, hsub y hy, rfl⟩
        · rw [← ek2] at hx
          obtain ⟨y, hy, rfl⟩ := List.mem_map.mp hx
          exact hal y hy
      have eG : (riseA L1).map (·.2) = G := by rw [riseA_map, rise_same ePerm, isG.srt]
      have w1 : Up [] H16 (upd H16 l2 (.lst xs)) := Up.new hl2
      have w2 : Up [] (upd H16 l2 (.lst xs)) (upd (upd H16 l2 (.lst xs)) a (SetNO w tyM a Ls)) := Up.new ha
      have w3 : Up [] (upd (upd H16 l2 (.lst xs)) a (SetNO w tyM a Ls)) (upd (upd (upd H16 l2 (.lst xs)) a (SetNO w tyM a Ls)) pp (.lst ((riseA L1).map fun q => V.ref q.1))) := Up.new hpp
      have hv1 : Hv (α := List Mv) K (upd (upd (upd H16 l2 (.lst xs)) a (SetNO w tyM a Ls)) pp (.lst ((riseA L1).map fun q => V.ref q.1))) (.ref l2) G := .lst (sql_of ((w2.trans w3).at upd_same)) (dpa_up ((w1.trans w2).trans w3) (dpa_up fz_le (hall_dp hal16)))
      have hv2 : Hv (α := List Mv) K (upd (upd (upd H16 l2 (.lst xs)) a (SetNO w tyM a Ls)) pp (.lst ((riseA L1).map fun q => V.ref q.1))) (.ref pp) G := by
        refine .lst (sql_of upd_same) ?_
        rw [← eG]
        refine dpa_pairs fun p hp => dp_up ((w1.trans w2).trans w3) (dp_up fz_le (hks p (hsub p ((hpm.mem_iff).mp ((riseA_perm L1).mem_iff.mp hp)))))
      refine ⟨G, G, hv1, hv2, _, rfl, iteDi rfl ?_⟩
      have w := (w1.trans w2).trans w3
      exact ⟨_, rfl, _, _, _, true, rfl, tyx_sqt (sqt_up w (sqt_up fz_le hx16)), kit_same, k _ (m + 10) (up16.trans w.all) (ds16.on w (fun z => nomatch z) (fun _ z => (nomatch z)) (Nat.le_refl _)) (Nat.le_refl _)⟩
end
end Kf
end

section
set_option Elab.async false
set_option linter.all false
set_option maxRecDepth 100000
set_option maxHeartbeats 4000000
/-! plain: rows of things, their texts -/
namespace Kf
open PySem L2 PyProof.Rows
def items : List PyData := [.none, .str "a", .int 7, .tuple [.str "a", .str "b"], .str "", .tuple [], .int (10 ^ 30), .int (-1), .tuple [.str "up"], .list [.int 0], .dict [], .bool true]
def itm (i : Nat) : PyData := items.getD i .none
def tx (i : Nat) : Str := (itm i).shown
theorem shown_map : ∀ l : List Nat, PyData.shownAll (l.map itm) = l.map tx
  | [] => by simp only [List.map_nil, PyData.shownAll]
  | i :: l => by
    simp only [List.map_cons, PyData.shownAll, shown_map l]
    rfl
theorem tx_free : ((List.range 12).all fun i => (List.range 12).all fun j => decide (i = j) || !((tx i).cps.toList.isPrefixOf (tx j).cps.toList)) = true := by decide +kernel
theorem tx_few : ((List.range 12).all fun i => decide ((tx i).length ≤ 40) && (itm i).showable && decide ((itm i).depth ≤ 10)) = true := by decide +kernel
theorem tx_pre {i j : Nat} (hi : i < 12) (hj : j < 12) (h : (tx i).cps.toList <+: (tx j).cps.toList) : i = j := by
  have h1 := List.all_eq_true.mp tx_free i (List.mem_range.mpr hi)
  have h2 := List.all_eq_true.mp h1 j (List.mem_range.mpr hj)
  rcases Bool.or_eq_true_iff.mp h2 with q | q
  · exact of_decide_eq_true q
  · rw [List.isPrefixOf_iff_prefix.mpr h] at q
    cases q
theorem tx_step {i j : Nat} {r s : List Nat} (hi : i < 12) (hj : j < 12) (h : (tx i).cps.toList ++ r = (tx j).cps.toList ++ s) : i = j ∧ r = s := by
  have p1 : (tx i).cps.toList <+: (tx j).cps.toList ++ s := ⟨r, h⟩
  have p2 : (tx j).cps.toList <+: (tx j).cps.toList ++ s := List.prefix_append _ _
  have e : i = j := (List.prefix_or_prefix_of_prefix p1 p2).elim (fun q => tx_pre hi hj q) fun q => (tx_pre hj hi q).symm
  subst e
  exact ⟨rfl, List.append_cancel_left h⟩
theorem join_cons2 (x y : Str) (r : List Str) : (Str.join ", " (x :: y :: r)).cps.toList = x.cps.toList ++ ((", " : Str).cps.toList ++ (Str.join ", " (y :: r)).cps.toList) := by
  have e : Str.join ", " (x :: y :: r) = x ++ (", " : Str) ++ Str.join ", " (y :: r) := rfl
  rw [e, str_app, str_app, Array.toList_append, Array.toList_append, List.append_assoc]
theorem join_inj : ∀ {a b : List Nat} {s : List Nat}, a.length = b.length → (∀ i, i ∈ a → i < 12) → (∀ i, i ∈ b → i < 12) → (Str.join ", " (a.map tx)).cps.toList ++ s = (Str.join ", " (b.map tx)).cps.toList ++ s → a = b
  | [], [], _, _, _, _, _ => rfl
  | [], _ :: _, _, h, _, _, _ => by simp at h
  | _ :: _, [], _, h, _, _, _ => by simp at h
  | [i], [j], s, _, ha, hb, h => by
    have h' : (tx i).cps.toList ++ s = (tx j).cps.toList ++ s := h
    rw [(tx_step (ha i List.mem_cons_self) (hb j List.mem_cons_self) h').1]
  | [_], _ :: _ :: _, _, h, _, _, _ => by simp at h
  | _ :: _ :: _, [_], _, h, _, _, _ => by simp at h
  | i :: i2 :: a, j :: j2 :: b, s, hl, ha, hb, h => by
    rw [List.map_cons, List.map_cons, List.map_cons, List.map_cons, join_cons2, join_cons2] at h
    simp only [List.append_assoc] at h
    obtain ⟨e, h2⟩ := tx_step (ha i List.mem_cons_self) (hb j List.mem_cons_self) h
    have h3 := List.append_cancel_left h2
    rw [e, join_inj (a := i2 :: a) (b := j2 :: b) (s := s) (by simpa using hl) (fun x hx => ha x (List.mem_cons_of_mem _ hx)) (fun x hx => hb x (List.mem_cons_of_mem _ hx)) h3]
/-- the text of a row -/
def rowT (l : List Nat) : Str := tupleText (PyData.shownAll (l.map itm))
theorem rowT_inj {a b : List Nat} (hl : a.length = b.length) (ha : ∀ i, i ∈ a → i < 12) (hb : ∀ i, i ∈ b → i < 12) (h : rowT a = rowT b) : a = b := by
  unfold rowT tupleText at h
  rw [shown_map, shown_map, List.length_map, List.length_map, hl] at h
  have h2 := congrArg (fun z : Str => z.cps.toList) h
  simp only [str_app, Array.toList_append] at h2
  rw [List.append_assoc, List.append_assoc] at h2
  exact join_inj hl ha hb (List.append_cancel_left h2)
theorem itm_few {i : Nat} (hi : i < 12) : (tx i).length ≤ 40 ∧ (itm i).showable = true ∧ (itm i).depth ≤ 10 := by
  have h := List.all_eq_true.mp tx_few i (List.mem_range.mpr hi)
  simp only [Bool.and_eq_true, decide_eq_true_eq] at h
  exact ⟨h.1.1, h.1.2, h.2⟩
theorem row_show : ∀ {l : List Nat}, (∀ i, i ∈ l → i < 12) → PyData.showableAll (l.map itm) = true
  | [], _ => by simp only [List.map_nil, PyData.showableAll]
  | i :: l, h => by
    simp only [List.map_cons, PyData.showableAll, (itm_few (h i List.mem_cons_self)).2.1, row_show fun x hx => h x (List.mem_cons_of_mem _ hx), Bool.and_self]
theorem row_depth : ∀ {l : List Nat}, (∀ i, i ∈ l → i < 12) → PyData.depthAll (l.map itm) ≤ 60
  | [], _ => by simp only [List.map_nil, PyData.depthAll]; decide
  | i :: l, h => by
    simp only [List.map_cons, PyData.depthAll]
    have h1 := (itm_few (h i List.mem_cons_self)).2.2
    have h2 := row_depth (l := l) fun x hx => h x (List.mem_cons_of_mem _ hx)
    omega
theorem join_len : ∀ {l : List Nat}, (∀ i, i ∈ l → i < 12) → (Str.join ", " (l.map tx)).cps.toList.length ≤ 42 * l.length
  | [], _ => by show 0 ≤ _; omega
  | [i], h => by
    have h1 := (itm_few (h i List.mem_cons_self)).1
    show (tx i).cps.toList.length ≤ 42 * 1
    have e : (tx i).cps.toList.length = (tx i).length := Array.length_toList
    omega
  | i :: j :: l, h => by
    have h1 := (itm_few (h i List.mem_cons_self)).1
    have h2 := join_len (l := j :: l) fun x hx => h x (List.mem_cons_of_mem _ hx)
    rw [List.map_cons, List.map_cons, join_cons2, List.length_append, List.length_append]
    rw [List.map_cons] at h2
    have e : (tx i).cps.toList.length = (tx i).length := Array.length_toList
    have e2 : (", " : Str).cps.toList.length = 2 := rfl
    simp only [List.length_cons] at h2 ⊢
    omega
theorem row_len {l : List Nat} (h : ∀ i, i ∈ l → i < 12) (h4 : l.length ≤ 4) : (rowT l).length ≤ sizeLine := by
  have h1 := join_len h
  unfold rowT tupleText
  rw [shown_map]
  have e : ∀ z : Str, z.length = z.cps.toList.length := fun z => Array.length_toList.symm
  rw [e, str_app, str_app, Array.toList_append, Array.toList_append, List.length_append, List.length_append]
  have h2 : ("(" : Str).cps.toList.length = 1 := rfl
  have h3 : ∀ b : Bool, ((if b = true then ",)" else ")" : String) : Str).cps.toList.length ≤ 2 := by decide +kernel
  have h5 := h3 ((l.map tx).length == 1)
  exact Nat.le_trans (show _ ≤ 1000 by omega) (by decide)
/-- rows by places, moved -/
theorem comp_comp {a b c : List Nat} (h : ∀ k, k ∈ c → k < b.length) : comp (comp a b) c = comp a (comp b c) := by
  unfold comp
  rw [List.map_map]
  refine List.map_congr_left fun k hk => ?_
  have hl := h k hk
  show (b.map fun j => a.getD j 0).getD k 0 = a.getD (b.getD k 0) 0
  rw [List.getD_eq_getElem?_getD, List.getElem?_map, List.getD_eq_getElem?_getD (l := b), List.getElem?_eq_getElem hl]
  rfl
theorem comp_range (a : List Nat) : comp a (List.range a.length) = a := by
  refine List.ext_getElem? fun i => ?_
  unfold comp
  rw [List.getElem?_map]
  by_cases h : i < a.length
  · rw [List.getElem?_range h, List.getElem?_eq_getElem h]
    show some (a.getD i 0) = _
    rw [List.getD_eq_getElem?_getD, List.getElem?_eq_getElem h]
    rfl
  · rw [List.getElem?_eq_none (show (List.range a.length).length ≤ i by rw [List.length_range]; omega), List.getElem?_eq_none (show a.length ≤ i by omega)]
    rfl
theorem comp_low {a b : List Nat} {n : Nat} (ha : ∀ k, k ∈ a → k < n) (hb : ∀ k, k ∈ b → k < a.length) : ∀ k, k ∈ comp a b → k < n := by
  intro k hk
  obtain ⟨j, hj, rfl⟩ := List.mem_map.mp hk
  have hl := hb j hj
  rw [List.getD_eq_getElem?_getD, List.getElem?_eq_getElem hl]
  exact ha _ (List.getElem_mem hl)
theorem comp_inj {a p q : List Nat} (nd : a.Nodup) (hp : ∀ k, k ∈ p → k < a.length) (hq : ∀ k, k ∈ q → k < a.length) (h : comp a p = comp a q) : p = q := by
  have hl : p.length = q.length := by rw [← comp_len a p, ← comp_len a q, h]
  refine List.ext_getElem? fun i => ?_
  cases e : p[i]? with
  | none =>
    have := List.getElem?_eq_none_iff.mp e
    rw [List.getElem?_eq_none (by omega)]
  | some k =>
    have hi : i < q.length := by
      rw [← hl]
      exact (List.getElem?_eq_some_iff.mp e).1
    have e2 : q[i]? = some q[i] := List.getElem?_eq_getElem hi
    have c1 := comp_get (a := a) e
    have c2 := comp_get (a := a) e2
    rw [h, c2] at c1
    have c3 := Option.some.inj c1
    have l1 := hp k (List.mem_of_getElem? e)
    have l2 := hq _ (List.mem_of_getElem? e2)
    rw [List.getD_eq_getElem?_getD, List.getD_eq_getElem?_getD, List.getElem?_eq_getElem l1, List.getElem?_eq_getElem l2] at c3
    have := (List.getElem_inj (h₀ := l2) (h₁ := l1) nd).mp c3
    rw [e2, this]
end Kf
end

section
set_option Elab.async false
set_option linter.all false
set_option maxRecDepth 100000
set_option maxHeartbeats 4000000
/-! walks: rows of things -/
namespace Kf
open PySem L2 PyProof.Rows
theorem dq_up {K : PySem.W.Frag} {H H' : Hp} (e : Up [] H H') {v : V} {d : PyData} (h : Dq K H v d) : Dq K H' v d := h.elim (fun h => .inl (dp_up e h)) fun ⟨h1, a, h2, h3⟩ => .inr ⟨h1, a, h2, e.at h3⟩
theorem dqa_len {K : PySem.W.Frag} {H : Hp} : ∀ {vs : List V} {ds : List PyData}, DqAll K H vs ds → vs.length = ds.length
  | _, _, .nil => rfl
  | _, _, .cons _ t => by rw [List.length_cons, List.length_cons, dqa_len t]
theorem dqa_at {K : PySem.W.Frag} {H : Hp} : ∀ {vs : List V} {ds : List PyData} {i : Nat} {d : PyData}, DqAll K H vs ds → ds[i]? = some d → ∃ v, vs[i]? = some v ∧ Dq K H v d
  | _, _, _, _, .nil, e => by simp at e
  | _, _, 0, _, .cons h _, e => ⟨_, rfl, by rw [← Option.some.inj e]; exact h⟩
  | _, _, i + 1, v, .cons _ t, e => by
    obtain ⟨d, h1, h2⟩ := dqa_at (i := i) (d := v) t (by simpa using e)
    exact ⟨d, by simpa using h1, h2⟩
theorem dqa_pick {K : PySem.W.Frag} {H : Hp} {vs : List V} {ds : List PyData} (h : DqAll K H vs ds) : ∀ {o : List Nat}, (∀ k, k ∈ o → k < ds.length) → DqAll K H (o.map fun k => vs.getD k .non) (o.map fun k => ds.getD k .none)
  | [], _ => .nil
  | k :: o, hk => by
    have lt := hk k List.mem_cons_self
    have e : ds[k]? = some (ds.getD k .none) := by
      rw [List.getD_eq_getElem?_getD, List.getElem?_eq_getElem lt]
      rfl
    obtain ⟨v, hv, hd⟩ := dqa_at h e
    have e2 : vs.getD k .non = v := by
      rw [List.getD_eq_getElem?_getD, hv]
      rfl
    refine .cons ?_ (dqa_pick h fun x hx => hk x (List.mem_cons_of_mem _ hx))
    show Dq K H (vs.getD k .non) (ds.getD k .none)
    rw [e2]
    exact hd
/-- a row of things, by places -/
structure Row (K : PySem.W.Frag) (H : Hp) (p : Addr) (ys : List V) (idx : List Nat) : Prop where
  at_ : SqT K H p ys
  dat : DqAll K H ys (idx.map itm)
  low : ∀ i, i ∈ idx → i < 12
theorem Row.up {K : PySem.W.Frag} {H H' : Hp} {p : Addr} {ys : List V} {idx : List Nat} (r : Row K H p ys idx) (u : Up [] H H') : Row K H' p ys idx := ⟨sqt_up u r.at_, dqa_up u r.dat, r.low⟩
theorem Row.len {K : PySem.W.Frag} {H : Hp} {p : Addr} {ys : List V} {idx : List Nat} (r : Row K H p ys idx) : ys.length = idx.length := by
  rw [dqa_len r.dat, List.length_map]
theorem Row.pick {K : PySem.W.Frag} {H : Hp} {p : Addr} {ys : List V} {idx o : List Nat} (r : Row K H p ys idx) (h : ∀ k, k ∈ o → k < idx.length) : DqAll K H (pick ys o) ((comp idx o).map itm) := by
  have h2 := dqa_pick r.dat (o := o) fun k hk => by rw [List.length_map]; exact h k hk
  have e : (o.map fun k => (idx.map itm).getD k .none) = (comp idx o).map itm := by
    unfold comp
    rw [List.map_map]
    refine List.map_congr_left fun k hk => ?_
    have hl := h k hk
    show (idx.map itm).getD k .none = itm (idx.getD k 0)
    rw [List.getD_eq_getElem?_getD, List.getD_eq_getElem?_getD, List.getElem?_map, List.getElem?_eq_getElem hl]
    rfl
  rw [e] at h2
  exact h2
theorem repr_row {K : PySem.W.Frag} {H : Hp} {p : Addr} {ys : List V} {idx : List Nat} {Q : VK} (r : Row K H p ys idx) (h4 : idx.length ≤ 4) (k : Q (.str (rowT idx)) H) : rRepr K [.ref p] H Q :=
  ⟨p, ys, _, rfl, r.at_, r.dat, row_show r.low, row_len r.low h4, row_depth r.low, k⟩
theorem mv_row {K : PySem.W.Frag} {L : List Addr} {H : Hp} {p : Addr} {ys : List V} {idx o : List Nat} {u : V} {Q : VK} {E : XK} (t : Tr L H) (r : Row K (Fz L H) p ys idx) (hu : Dp K (Fz L H) u (dO o)) (h : ∀ k, k ∈ o → k < idx.length) (h4 : o.length ≤ 4)
    (k : ∀ p' H', Up [] H H' → Row K (Fz L H') p' (pick ys o) (comp idx o) → Q (.ref p') H') : spMoved K [.ref p, u] H Q E := by
  refine ⟨p, ys, u, o, rfl, sqt_up fz_le r.at_, dp_up fz_le hu, fun x hx => by rw [r.len]; exact h x hx, by omega, fun p' ob H' up hp hob hp' => k p' H' up ⟨sqt_frz (ob := ob) ?_, dqa_up up.all.fz (r.pick h), comp_low r.low h⟩⟩
  rw [fz_out (t.out hp)]
  exact hp'
def vals (t1 t2 t3 l1 d1 : Addr) : List V := [.non, .str "a", .int 7, .ref t1, .str "", .ref t2, .int (10 ^ 30), .int (-1), .ref t3, .ref l1, .ref d1, .bl true]
theorem erase_perm {ls : List Nat} {k x : Nat} (h : ls[k]? = some x) : (x :: ls.eraseIdx k).Perm ls := by
  obtain ⟨hlt, e⟩ := List.getElem?_eq_some_iff.mp h
  have e2 : ls = ls.take k ++ x :: ls.drop (k + 1) := by
    have h1 := (List.take_append_drop k ls).symm
    rw [List.drop_eq_getElem_cons hlt, e] at h1
    exact h1
  rw [List.eraseIdx_eq_take_drop_succ]
  have h3 : (x :: (ls.take k ++ ls.drop (k + 1))).Perm (ls.take k ++ x :: ls.drop (k + 1)) := List.perm_middle.symm
  rw [← e2] at h3
  exact h3
theorem map_erase {α β : Type} (f : α → β) (ls : List α) (k : Nat) : (ls.map f).eraseIdx k = (ls.eraseIdx k).map f := by
  rw [List.eraseIdx_eq_take_drop_succ, List.eraseIdx_eq_take_drop_succ, List.map_append, List.map_take, List.map_drop]
def spThings (K : PySem.W.Frag) : Sp := fun vs H Q _ => ∃ (L : List Addr) (dd : Addr) (m n : Nat), vs = [.ref dd, .int (n : Nat)] ∧ n ≤ 4 ∧ Tr L H ∧ DS K L H dd m ∧ m + 20 < most ∧
  ∀ (p : Addr) (ys : List V) (idx : List Nat) (H' : Hp) (m' : Nat), Up [dd] H H' → DS K L H' dd m' → m' ≤ m + 5 → idx.length = n → idx.Nodup → Row K (Fz L H') p ys idx → Q (.ref p) H'
section
variable {P : Program} {w : World} {K : PySem.W.Frag} {mg : Str → Option Value} {base : Heap} {f f0 f1 f2 f3 f4 f5 f6 f7 f8 f9 : Addr} {fd fd0 fd1 fd2 fd3 fd4 fd5 fd6 fd7 fd8 fd9 : FuncData}
theorem ok_things (T : Txt K mg) (D1 : Df K mg "_law_draw" sDraw ["_law_d", "_law_many"] f1 fd1) (D : Df K mg "_law_things" sThings ["_law_d", "_law_many"] f fd) : FnOk P w K mg base CX0 2 f fd ["_law_d", "_law_many"] (spThings K) := by
  have G1 : FnOk P w K mg base CX0 1 f1 fd1 _ (spDraw K) := ok_draw T D1
  refine D.F.ok scThings (fun vs H Q E h => ?_) (fun cdv A outer s H vs Q E hr h => ?_)
  · obtain ⟨L, dd, m, n, rfl, _⟩ := h
    rfl
  · obtain ⟨L, dd, m, n, rfl, n4, tr0, ds0, hm, k⟩ := h
    refine ⟨_, pss_cons (ps_par (i := 2) (j := 3) rfl scThings.nd rfl rfl (by decide) rfl rfl (pa_cons (pe_lst (pa_cons pe_non (pa_cons pe_str (pa_cons pe_int (pa_cons (pe_tup (pa_cons pe_str (pa_cons pe_str pa_nil))) (pa_cons pe_str (pa_cons (pe_tup pa_nil) (pa_cons (pe_op op_pow pe_int pe_int) (pa_cons (pe_un un_neg pe_int) (pa_cons (pe_tup (pa_cons pe_str pa_nil)) (pa_cons (pe_lst (pa_cons pe_int pa_nil)) (pa_cons pe_dnewK (pa_cons pe_bl pa_nil))))))))))))) (pa_cons (pe_lst pa_nil) pa_nil)) rfl)
      (pss_cons (ps_for PassesOwn.never rfl (pi_range1 (by rfl) T.range (pa_cons (pv 1) pa_nil)) (pg_name (i := 4) scThings.nd rfl (Or.inl rfl))
        (pss_one (ps_expr (pe_bm PySem.F.plainAttrs_list PySem.F.slot_list_append PySem.F.type_list_append mt_append (pv 3) (pa_cons (pe_bm PySem.F.plainAttrs_list PySem.F.slot_list_pop PySem.F.type_list_pop mt_popAt (pv 2) (pa_cons (pe_cd D1 G1 hr (by rfl) (pa_cons (pv 0) (pa_cons (pe_callB cr_len (by rfl) T.len bt_len (pa_cons (pv 2) pa_nil)) pa_nil))) pa_nil)) pa_nil)))))
      (pss_one (ps_ret (pe_callTy call_tuple_of (by rfl) T.tuple bt_tuple (pa_cons (pv 3) pa_nil))))), ?_⟩
    refine ⟨by show 2 ≤ sizeLine; decide, fun t1 ht1 => ⟨Nat.zero_le _, fun t2 ht2 => ⟨_, _, rfl, rfl, ⟨by decide, by decide, by decide⟩, 1, rfl, by show 1 ≤ sizeLine; decide, fun t3 ht3 => ⟨by show 1 ≤ sizeLine; decide, fun l1 hl1 => fun d1 hd1 => ⟨by show 12 ≤ sizeLine; decide, fun sA hsA => ⟨Nat.zero_le _, fun fA hfA => ⟨_, _, rfl, ?_⟩⟩⟩⟩⟩⟩⟩
    -- what stands where
    have w1 := Up.new (L := []) (o := .tup [.str "a", .str "b"]) ht1
    have a1 : Dp K (Fz L (upd H t1 (.tup [.str "a", .str "b"]))) (.ref t1) (.tuple [.str "a", .str "b"]) := dp_new tr0 ht1 (.cons (.str _) (.cons (.str _) .nil))
    have tr1 := tr0.up w1
    generalize upd H t1 (.tup [.str "a", .str "b"]) = H1 at w1 a1 tr1 ht2 ht3 hl1 hd1 hsA hfA ⊢
    have w2 := Up.new (L := []) (o := .tup []) ht2
    have a2 : Dp K (Fz L (upd H1 t2 (.tup []))) (.ref t2) (.tuple []) := dp_new tr1 ht2 .nil
    have tr2 := tr1.up w2
    generalize upd H1 t2 (.tup []) = H2 at w2 a2 tr2 ht3 hl1 hd1 hsA hfA ⊢
    have w3 := Up.new (L := []) (o := .tup [.str "up"]) ht3
    have a3 : Dp K (Fz L (upd H2 t3 (.tup [.str "up"]))) (.ref t3) (.tuple [.str "up"]) := dp_new tr2 ht3 (.cons (.str _) .nil)
    have tr3 := tr2.up w3
    generalize upd H2 t3 (.tup [.str "up"]) = H3 at w3 a3 tr3 hl1 hd1 hsA hfA ⊢
    have w4 := Up.new (L := []) (o := .lst [.int 0]) hl1
    have a4 : Dp K (Fz L (upd H3 l1 (.lst [.int 0]))) (.ref l1) (.list [.int 0]) := .lst (sql_of (by rw [fz_out (tr3.out hl1)]; exact upd_same)) (.cons (.int 0) .nil)
    have tr4 := tr3.up w4
    generalize upd H3 l1 (.lst [.int 0]) = H4 at w4 a4 tr4 hd1 hsA hfA ⊢
    have w5 := Up.new (L := []) (o := .dK []) hd1
    have a5 : Dq K (Fz L (upd H4 d1 (.dK []))) (.ref d1) (.dict []) := .inr ⟨rfl, d1, rfl, by rw [fz_out (tr4.out hd1)]; exact upd_same⟩
    have tr5 := tr4.up w5
    generalize upd H4 d1 (.dK []) = H5 at w5 a5 tr5 hsA hfA ⊢
    have all5 : DqAll K (Fz L H5) (vals t1 t2 t3 l1 d1) items :=
      .cons (.inl .non) (.cons (.inl (.str _)) (.cons (.inl (.int 7)) (.cons (.inl (dp_up (((w2.trans w3).trans w4).trans w5).all.fz a1)) (.cons (.inl (.str _)) (.cons (.inl (dp_up ((w3.trans w4).trans w5).all.fz a2)) (.cons (.inl (.int _)) (.cons (.inl (.int _)) (.cons (.inl (dp_up (w4.trans w5).all.fz a3)) (.cons (.inl (dp_up w5.all.fz a4)) (.cons a5 (.cons (.inl (.bl true)) .nil)))))))))))
    have w05 := (((w1.trans w2).trans w3).trans w4).trans w5
    have ds5 : DS K L H5 dd m := ds0.on w05 (fun z => nomatch z) (fun _ z => (nomatch z)) (Nat.le_refl _)
    have eV : (List.range 12).map (fun i => (vals t1 t2 t3 l1 d1).getD i .non) = vals t1 t2 t3 l1 d1 := rfl
    have w6 := Up.new (L := []) (o := .lst (vals t1 t2 t3 l1 d1)) hsA
    have hs6 : (upd H5 sA (.lst (vals t1 t2 t3 l1 d1))) sA = some (.lst (vals t1 t2 t3 l1 d1)) := upd_same
    have ds6 := ds5.grow hsA (.lst (vals t1 t2 t3 l1 d1))
    have tr6 := (tr5.up w6).cons hs6
    have w7 := Up.new (L := []) (o := .lst []) hfA
    have ds7 : DS K (fA :: sA :: L) (upd (upd H5 sA (.lst (vals t1 t2 t3 l1 d1))) fA (.lst [])) dd m := ds6.grow hfA (.lst [])
    have hf7 : (upd (upd H5 sA (.lst (vals t1 t2 t3 l1 d1))) fA (.lst [])) fA = some (.lst []) := upd_same
    have tr7 : Tr (fA :: sA :: L) (upd (upd H5 sA (.lst (vals t1 t2 t3 l1 d1))) fA (.lst [])) := (tr6.up w7).cons hf7
    have hs7 : (upd (upd H5 sA (.lst (vals t1 t2 t3 l1 d1))) fA (.lst [])) sA = some (.lst (vals t1 t2 t3 l1 d1)) := w7.at hs6
    have nsf : fA ≠ sA := fun e => by
      rw [e] at hfA
      exact absurd hfA (some_ne upd_same)
    have w07 : Up [] H (upd (upd H5 sA (.lst (vals t1 t2 t3 l1 d1))) fA (.lst [])) := (w05.trans w6).trans w7
    have all7 : DqAll K (Fz (fA :: sA :: L) (upd (upd H5 sA (.lst (vals t1 t2 t3 l1 d1))) fA (.lst []))) (vals t1 t2 t3 l1 d1) items := dqa_up ((w6.trans w7).all.gw fun x hx => by
      rcases List.mem_cons.mp hx with q | hx
      · exact .inr (by rw [q]; exact w6.free hfA)
      rcases List.mem_cons.mp hx with q | hx
      · exact .inr (by rw [q]; exact hsA)
      · exact .inl hx) all5
    have sH : H sA = none := w05.free hsA
    have fH : H fA = none := (w05.trans w6).free hfA
    have b62 : (100 : Int) < 2 ^ 62 := by decide
    have b63 : (100 : Int) < 2 ^ 63 := by decide
    have ldd := ds0.mem
    have nds : dd ≠ sA := ds0.ne sH
    have ndf : dd ≠ fA := ds0.ne fH
    refine ⟨_, rfl, _, rfl, by omega, by omega, ?_⟩
    refine for_range (n := ((n : Nat) : Int).toNat) (fun j σ H' => ∃ (ls o : List Nat) (c4 : Option V) (m1 : Nat), σ = [some (.ref dd), some (.int (n : Nat)), some (.ref sA), some (.ref fA), c4] ∧ H' sA = some (.lst (ls.map fun i => (vals t1 t2 t3 l1 d1).getD i .non)) ∧ H' fA = some (.lst (o.map fun i => (vals t1 t2 t3 l1 d1).getD i .non)) ∧ o.length = j ∧ ls.length = 12 - j ∧
      (o ++ ls).Nodup ∧ (∀ i, i ∈ o ++ ls → i < 12) ∧ DS K (fA :: sA :: L) H' dd m1 ∧ m1 ≤ m + j ∧ Up [dd] H H' ∧ Tr (fA :: sA :: L) H' ∧ DqAll K (Fz (fA :: sA :: L) H') (vals t1 t2 t3 l1 d1) items)
      ⟨List.range 12, [], none, m, rfl, hs7, hf7, rfl, rfl, by simpa using List.nodup_range, fun i hi => List.mem_range.mp hi, ds7, Nat.le_refl _, w07.all, tr7, all7⟩ ?_ ?_
    · rintro j σ H8 hj ⟨ls, o, c4, m1, rfl, hs, hf, lo, lls, nd, low, ds, hm1, up, tr, al⟩
      have hj4 : j < 4 := by omega
      refine ⟨_, rfl, .inl ⟨rfl, _, sql_of hf⟩, _, rfl, .inl ⟨rfl, _, sql_of hs⟩, _, rfl, _, rfl, sA, _, rfl, .inl (sql_of hs), fA :: sA :: L, dd, m1, ls.length, by rw [List.length_map]; rfl, by omega, by omega, tr, ds, by unfold most at hm ⊢; omega, fun kk H9 hk u9 ds9 => ?_⟩
      have hx : ls[kk]? = some ls[kk] := List.getElem?_eq_getElem hk
      have hs9 : H9 sA = some (.lst (ls.map fun i => (vals t1 t2 t3 l1 d1).getD i .non)) := u9.keep (fun z => nds (List.mem_singleton.mp z).symm) hs
      have hf9 : H9 fA = some (.lst (o.map fun i => (vals t1 t2 t3 l1 d1).getD i .non)) := u9.keep (fun z => ndf (List.mem_singleton.mp z).symm) hf
      refine ⟨sA, _, (kk : Int), kk, _, rfl, rfl, hs9, by omega, by omega, ?_, map_at hx, ?_⟩
      · rw [seqIndex_of (by omega) (by rw [List.length_map]; omega)]
        rfl
      have up10 : Up [sA] H9 (upd H9 sA (.lst ((ls.map fun i => (vals t1 t2 t3 l1 d1).getD i .non).eraseIdx kk))) := Up.put List.mem_cons_self
      have hf10 := up10.keep (fun z => nsf (List.mem_singleton.mp z)) hf9
      refine ⟨fA, _, _, rfl, rfl, hf10, by rw [List.length_map]; exact Nat.lt_of_le_of_lt (show o.length ≤ 1000 by omega) (by decide), ?_⟩
      have up11 : Up [fA] (upd H9 sA (.lst ((ls.map fun i => (vals t1 t2 t3 l1 d1).getD i .non).eraseIdx kk))) (upd (upd H9 sA (.lst ((ls.map fun i => (vals t1 t2 t3 l1 d1).getD i .non).eraseIdx kk))) fA (.lst ((o.map fun i => (vals t1 t2 t3 l1 d1).getD i .non) ++ [(vals t1 t2 t3 l1 d1).getD ls[kk] .non]))) := Up.put List.mem_cons_self
      have pm := erase_perm hx
      have ndA : (o ++ [ls[kk]] ++ ls.eraseIdx kk).Nodup := by
        rw [List.append_assoc]
        refine ((pm.append_left o).nodup_iff).mpr ?_
        exact nd
      have uAll : Up [sA, fA, dd] H (upd (upd H9 sA (.lst ((ls.map fun i => (vals t1 t2 t3 l1 d1).getD i .non).eraseIdx kk))) fA (.lst ((o.map fun i => (vals t1 t2 t3 l1 d1).getD i .non) ++ [(vals t1 t2 t3 l1 d1).getD ls[kk] .non]))) :=
        (((up.trans u9).mono fun x hx => by rw [List.mem_singleton.mp hx]; simp).trans (up10.mono fun x hx => by rw [List.mem_singleton.mp hx]; simp)).trans (up11.mono fun x hx => by rw [List.mem_singleton.mp hx]; simp)
      refine ⟨ls.eraseIdx kk, o ++ [ls[kk]], _, m1 + 1, rfl, ?_, ?_, by rw [List.length_append, lo]; rfl, ?_, ndA, fun i hi => ?_, ?_, by omega, (uAll.drop sH).drop fH, ((tr.up u9).up up10).up up11, ?_⟩
      · rw [upd_ne nsf.symm, upd_same, map_erase]
      · rw [upd_same, List.map_append]
        rfl
      · have := pm.length_eq
        rw [List.length_cons] at this
        omega
      · rw [List.append_assoc] at hi
        exact low i (((pm.append_left o).mem_iff).mp hi)
      · exact (ds9.on up10 (fun z => nds (List.mem_singleton.mp z)) (fun x hx => by rw [List.mem_singleton.mp hx]; exact List.mem_cons_of_mem _ List.mem_cons_self) (Nat.le_refl _)).on up11 (fun z => ndf (List.mem_singleton.mp z)) (fun x hx => by rw [List.mem_singleton.mp hx]; exact List.mem_cons_self) (Nat.le_refl _)
      · rw [fz_put List.mem_cons_self, fz_put (List.mem_cons_of_mem _ List.mem_cons_self)]
        exact dqa_up (u9.mono fun x hx => by rw [List.mem_singleton.mp hx]; exact ds.mem).fz al
    · rintro σ H8 ⟨ls, o, c4, m1, rfl, hs, hf, lo, lls, nd, low, ds, hm1, up, tr, al⟩
      refine ⟨_, rfl, fA, _, rfl, .inl ⟨sql_of hf, fun q hq => ?_⟩⟩
      have trL : Tr L H8 := tr.sub fun x hx => List.mem_cons_of_mem _ (List.mem_cons_of_mem _ hx)
      have wq := Up.new (L := []) (o := .tup (o.map fun i => (vals t1 t2 t3 l1 d1).getD i .non)) hq
      have lowO : ∀ i, i ∈ o → i < 12 := fun i hi => low i (List.mem_append_left _ hi)
      refine k q _ o _ (m + 5) (up.trans wq.all) (((ds.less (List.mem_cons_of_mem _ ldd)).less ldd).on wq (fun z => nomatch z) (fun _ z => (nomatch z)) (by omega)) (Nat.le_refl _) (by omega) (List.nodup_append.mp nd).1 ⟨sqt_of (by rw [fz_out (trL.out hq)]; exact upd_same), ?_, lowO⟩
      exact dqa_up wq.all.fz (dqa_up (fz_sub fun x hx => List.mem_cons_of_mem _ (List.mem_cons_of_mem _ hx)) (dqa_pick al (o := o) lowO))
end
end Kf
end

section
set_option Elab.async false
set_option linter.all false
set_option maxRecDepth 100000
set_option maxHeartbeats 4000000
/-! walks: rows moved by a group's orders -/
namespace Kf
open PySem L2 PyProof.Rows
/-- f(k = v, ..) -/
theorem pe_cdK {X : Cx} {x : Str} {st : Stmt} {ps ks : List Str} {f : Addr} {fd : FuncData} {k : Nat} {sp : Sp} {p pos : Pos} {kws : List Keyword} {tk : TA} (D : Df X.K X.mg x st ps f fd) (G : FnOk X.prog X.w X.K X.mg X.base CX0 k f fd ps sp) (hr : Room k X.A) (hg : Gl X x)
    (hb : ∀ (s : Shared) (ws : List Value), ws.length = ps.length → BindsTo s fd ⟨[], ks.zip ws⟩ (ps.zip ws)) (hkw : PK X kws tk) (hall : (backToKw pos (keywordEach kws X.env)).all (·.1.isSome) = true := by rfl) (hks : (backToKw pos (keywordEach kws X.env)).filterMap (·.1) = ks := by rfl)
    (hdb : (x == ("__debug__" : Str)) = false := by decide) (hpl : ((backTo pos (starEach [] X.env)).any (·.1) || (backToKw pos (keywordEach kws X.env)).any (·.1.isNone)) = false := by rfl) :
    PE X (.Call (.Name x p) [] kws pos) (tCall sp [] E0 tk) := by
  refine ⟨fun pins s σ H Q I h => ?_⟩
  refine wpAny_Call_Name_kw (ld_glob I hg D.m ?_ hdb)
  refine PySem.W.callWith_KW0 (h₀ := X.base) I.ok.mod.kin D.F.kp hall ?_ hpl
  refine thn (hkw.run pos pins s σ H _ I h) fun ws s2 ⟨zs, H2, I2, rz, q2⟩ => ⟨I2.kIn, ?_⟩
  rw [hks]
  have r2 : Vals (zs ++ []) ws := by
    rw [List.append_nil]
    exact rz
  have hl : ws.length = ps.length := by
    rw [← r2.length]
    exact G.len _ _ _ _ q2
  refine wpAny_call (codeAny_mono (G.run X.A X.stack s2 H2 ⟨[], ks.zip ws⟩ ws (zs ++ []) Q E0 hr I2.env0 (hb s2 ws hl) r2 q2) fun r s' hq => ?_)
  cases r with
  | error e => exact hq.elim
  | ok fl =>
    cases fl with
    | ret u => exact I2.after hq
    | next => exact False.elim hq
    | brk => exact False.elim hq
    | cont => exact False.elim hq
theorem mv_int {K : PySem.W.Frag} {L : List Addr} {H : Hp} {v u : V} {a b : List Nat} {Q : VK} {E : XK} (t : Tr L H) (h1 : Dp K (Fz L H) v (dO a)) (h2 : Dp K (Fz L H) u (dO b)) (lo : ∀ k, k ∈ b → k < a.length) (h4 : b.length ≤ 4)
    (k : ∀ p' H', Up [] H H' → Dp K (Fz L H') (.ref p') (dO (comp a b)) → Q (.ref p') H') : spMoved K [v, u] H Q E := by
  obtain ⟨x, rfl, hx⟩ := dp_ord h1
  refine ⟨x, _, u, b, rfl, sqt_up fz_le hx, dp_up fz_le h2, (fun k hk => by rw [List.length_map]; exact lo k hk), by omega, fun pp ob H10 u10 hpp hob e10 => k pp H10 u10 ?_⟩
  rw [pick_ints lo] at e10
  refine .tup (xs := (comp a b).map fun k : Nat => V.int (k : Int)) (sqt_frz (ob := ob) ?_) (dpa_ofO _ _ _)
  rw [fz_out (t.out hpp)]
  exact e10
def spRight (K : PySem.W.Frag) : Sp := spClosed K
/-- the two readings, kept shut for the unifier -/
@[irreducible] def rRepr2 (K : PySem.W.Frag) : List V → Hp → VK → Prop := rRepr K
@[irreducible] def spMoved2 (K : PySem.W.Frag) : Sp := spMoved K
theorem cr_repr2 {X : Cx} (hg : X.A.guards = some []) (hu : X.A.units + 64 < cLine) : CallR X (.builtin "repr") (rRepr2 X.K) := by
  unfold rRepr2
  exact cr_repr hg hu
theorem repr_row2 {K : PySem.W.Frag} {H : Hp} {p : Addr} {ys : List V} {idx : List Nat} {Q : VK} (r : Row K H p ys idx) (h4 : idx.length ≤ 4) (k : Q (.str (rowT idx)) H) : rRepr2 K [.ref p] H Q := by
  unfold rRepr2
  exact repr_row r h4 k
theorem mv_row2 {K : PySem.W.Frag} {L : List Addr} {H : Hp} {p : Addr} {ys : List V} {idx o : List Nat} {u : V} {Q : VK} {E : XK} (t : Tr L H) (r : Row K (Fz L H) p ys idx) (hu : Dp K (Fz L H) u (dO o)) (h : ∀ k, k ∈ o → k < idx.length) (h4 : o.length ≤ 4)
    (k : ∀ p' H', Up [] H H' → Row K (Fz L H') p' (pick ys o) (comp idx o) → Q (.ref p') H') : spMoved2 K [.ref p, u] H Q E := by
  unfold spMoved2
  exact mv_row t r hu h h4 k
theorem mv_int2 {K : PySem.W.Frag} {L : List Addr} {H : Hp} {v u : V} {a b : List Nat} {Q : VK} {E : XK} (t : Tr L H) (h1 : Dp K (Fz L H) v (dO a)) (h2 : Dp K (Fz L H) u (dO b)) (lo : ∀ k, k ∈ b → k < a.length) (h4 : b.length ≤ 4)
    (k : ∀ p' H', Up [] H H' → Dp K (Fz L H') (.ref p') (dO (comp a b)) → Q (.ref p') H') : spMoved2 K [v, u] H Q E := by
  unfold spMoved2
  exact mv_int t h1 h2 lo h4 k
section
variable {P : Program} {w : World} {K : PySem.W.Frag} {mg : Str → Option Value} {base : Heap} {f f0 f1 f2 f3 f4 f5 f6 f7 f8 f9 : Addr} {fd fd0 fd1 fd2 fd3 fd4 fd5 fd6 fd7 fd8 fd9 : FuncData}
theorem ok_moved2 (T : Txt K mg) (D : Df K mg "moved" sMoved ["row", "order"] f fd) : FnOk P w K mg base CX0 1 f fd ["row", "order"] (spMoved2 K) := by
  unfold spMoved2
  exact ok_moved T D
theorem ok_right (T : Txt K mg) (D1 : Df K mg "_law_draw" sDraw ["_law_d", "_law_many"] f1 fd1) (D2 : Df K mg "_law_pick" sPick ["_law_d", "_law_some"] f2 fd2) (D3 : Df K mg "_law_back" sBack ["_law_path"] f3 fd3) (D4 : Df K mg "_law_things" sThings ["_law_d", "_law_many"] f4 fd4) (D5 : Df K mg "moved" sMoved ["row", "order"] f5 fd5)
    (hb5 : ∀ (s : Shared) (ws : List Value), ws.length = 2 → BindsTo s fd5 ⟨[], (["row", "order"] : List Str).zip ws⟩ ((["row", "order"] : List Str).zip ws))
    (D : Df K mg "_law_moved_right" sRight ["_law_d", "_law_held", "_law_own"] f fd) : FnG P w K mg base CX0 3 f fd ["_law_d", "_law_held", "_law_own"] (spRight K) := by
  have G2 : FnOk P w K mg base CX0 2 f2 fd2 _ (spPk K) := ok_pick T D1 D2
  have G3 : FnOk P w K mg base CX0 1 f3 fd3 _ (spBack K) := ok_back T D3
  have G4 : FnOk P w K mg base CX0 2 f4 fd4 _ (spThings K) := ok_things T D1 D4
  have G5 : FnOk P w K mg base CX0 1 f5 fd5 _ (spMoved2 K) := ok_moved2 T D5
  refine okG D.F scRight (fun vs H Q E h => ?_) (fun cdv A outer s H vs Q E hr hgd h => ?_)
  · obtain ⟨L, dd, m, v, u, held, ms, G, rfl, _⟩ := h
    rfl
  · obtain ⟨L, dd, m, v, u, held, ms, G, rfl, tr0, ds0, hm, hv, hu, isG, few, k⟩ := h
    have hr1 : Room 1 _ := hr.mono (by decide)
    have hru := hr.units
    refine ⟨_, pss_cons (ps_set (i := 3) scRight.nd rfl (Or.inr rfl) (pe_cd D4 G4 hr (by rfl) (pa_cons (pv 0) (pa_cons (pe_callB cr_len (by rfl) T.len bt_len (pa_cons (pv 1) pa_nil)) pa_nil))))
      (pss_cons (ps_set (i := 4) scRight.nd rfl (Or.inl rfl) (pe_callB (cr_repr2 hgd hru) (by rfl) T.repr bt_repr (pa_cons (pv 3) pa_nil)))
      (pss_cons (ps_asg (pe_tup (pa_cons (pe_cd D2 G2 hr (by rfl) (pa_cons (pv 0) (pa_cons (pv 2) pa_nil))) (pa_cons (pe_cd D2 G2 hr (by rfl) (pa_cons (pv 0) (pa_cons (pv 2) pa_nil))) pa_nil)))
          (pg_tup rfl (pgs_cons (pg_pair (i := 5) (j := 6) rfl scRight.nd rfl rfl (Or.inl rfl) (Or.inl rfl) (Or.inl rfl) (Or.inl rfl)) (pgs_cons (pg_pair (i := 7) (j := 8) rfl scRight.nd rfl rfl (Or.inl rfl) (Or.inl rfl) (Or.inl rfl) (Or.inl rfl)) pgs_nil))))
      (pss_cons (ps_set (i := 9) scRight.nd rfl (Or.inl rfl) (pe_cd D5 G5 hr1 (by rfl) (pa_cons (pv 3) (pa_cons (pv 5) pa_nil))))
      (pss_cons (ps_if (pw_or (pt_cmpR op_ne (pe_callB (cr_repr2 hgd hru) (by rfl) T.repr bt_repr (pa_cons (pv 9) pa_nil)) (pe_callB (cr_repr2 hgd hru) (by rfl) T.repr bt_repr (pa_cons (pe_callTy call_tuple_of (by rfl) T.tuple bt_tuple (pa_cons
            (pe_lc (own := [("_law_k", 10)]) (g := gName 10) (tt := tYes) rfl scRight.nd (pi_tup (pv 5)) (blkOk_by (N := nRight) (sc := defScope sRight) (by decide +kernel)) (fun _ _ _ _ _ => pg_name (i := 10) scRight.nd rfl (Or.inl rfl)) (fun _ _ _ _ _ => pts_nil) (fun _ _ _ _ _ => pe_ix (r := rIxT K) ix_tup (pv 3) (pv 10) (fun _ _ => rfl))) pa_nil)) pa_nil)) (nomark _))
          (pw_or1 (pt_cmpR op_ne (pe_callB (cr_repr2 hgd hru) (by rfl) T.repr bt_repr (pa_cons (pe_cdK (ps := ["row", "order"]) (ks := ["row", "order"]) D5 G5 hr1 (by rfl) hb5 (pk_cons (pv 3) (pk_cons (pv 5) pk_nil))) pa_nil)) (pe_callB (cr_repr2 hgd hru) (by rfl) T.repr bt_repr (pa_cons (pv 9) pa_nil)) (nomark _)))).pt pss_never pss_nil)
      (pss_cons (ps_if (pw_or (pt_cmpR op_ne (pe_callB (cr_repr2 hgd hru) (by rfl) T.repr bt_repr (pa_cons (pe_cd D5 G5 hr1 (by rfl) (pa_cons (pv 9) (pa_cons (pv 7) pa_nil))) pa_nil)) (pe_callB (cr_repr2 hgd hru) (by rfl) T.repr bt_repr (pa_cons (pe_cd D5 G5 hr1 (by rfl) (pa_cons (pv 3) (pa_cons (pe_cd D5 G5 hr1 (by rfl) (pa_cons (pv 5) (pa_cons (pv 7) pa_nil))) pa_nil))) pa_nil)) (nomark _))
          (pw_or1 (pt_cmpR op_ne (pe_callB (cr_repr2 hgd hru) (by rfl) T.repr bt_repr (pa_cons (pv 3) pa_nil)) (pv 4) (nomark _)))).pt pss_never pss_nil)
      (pss_cons (ps_if (pt_cmpR op_ne (pe_callB (cr_repr2 hgd hru) (by rfl) T.repr bt_repr (pa_cons (pe_cd D5 G5 hr1 (by rfl) (pa_cons (pv 9) (pa_cons (pe_cd D3 G3 hr1 (by rfl) (pa_cons (pv 5) pa_nil)) pa_nil))) pa_nil)) (pv 4) (nomark _)) pss_never pss_nil)
      (pss_one (ps_ret (pe_cmpR op_eq (pe_callB cr_lenK (by rfl) T.len bt_len (pa_cons (pe_callTy (cr_setS rfl hru) (by rfl) T.set bt_set (pa_cons
            (pe_lc (own := [("_law_one", 11), ("_law_own_sign", 12)]) (g := gPair K 11 12) (tt := tYes) rfl scRight.nd (pi_tup (pv 2)) (blkOk_by (N := nRight) (sc := defScope sRight) (by decide +kernel)) (fun _ _ _ _ _ => pg_pair (i := 11) (j := 12) rfl scRight.nd rfl rfl (Or.inl rfl) (Or.inl rfl) (Or.inr rfl) (Or.inr rfl)) (fun _ _ _ _ _ => pts_nil)
              (fun _ _ _ _ _ => pe_callB (r := rRepr2 K) (cr_repr2 hgd hru) (by rfl) T.repr bt_repr (pa_cons (pe_cd (sp := spMoved2 K) D5 G5 hr1 (by rfl) (pa_cons (pv 3) (pa_cons (pv 11) pa_nil))) pa_nil))) pa_nil)) pa_nil))
          (pe_callB (cr_lenN tyO) (by rfl) T.len bt_len (pa_cons (pe_callTy (cr_setN tyO rfl hru) (by rfl) T.set bt_set (pa_cons
            (pe_lc (own := [("_law_one", 11), ("_law_own_sign", 12)]) (g := gPair K 11 12) (tt := tYes) rfl scRight.nd (pi_tup (pv 2)) (blkOk_by (N := nRight) (sc := defScope sRight) (by decide +kernel)) (fun _ _ _ _ _ => pg_pair (i := 11) (j := 12) rfl scRight.nd rfl rfl (Or.inl rfl) (Or.inl rfl) (Or.inr rfl) (Or.inr rfl)) (fun _ _ _ _ _ => pts_nil) (fun _ _ _ _ _ => pv 11)) pa_nil)) pa_nil)) (nomark _)))))))))), ?_⟩
    obtain ⟨ah, zs, rfl, hz0, hzd0⟩ := dp_tuple hv
    obtain ⟨au, xs, rfl, hx0, hal0⟩ := hu
    have nz : zs.length = held.length := by rw [dpa_len hzd0, List.length_map]
    have nx : xs.length = G.length := hall_len hal0
    have g48 : G.length ≤ 48 := moves_le few isG.grp.nd fun m hm => isG.grp.good hm
    have sdd : ∀ x, x ∈ [dd] → x ∈ L := fun x hx => by
      rw [List.mem_singleton.mp hx]
      exact ds0.mem
    refine ⟨_, rfl, _, rfl, ah, zs, rfl, .inr (sqt_up fz_le hz0), L, dd, m, zs.length, rfl, by omega, tr0, ds0, by omega, fun p ys idx H1 m1 u1 ds1 hm1 li nd row => ?_⟩
    have tr1 := tr0.up u1
    have gL := (u1.mono sdd).fz
    have hx1 := sqt_up gL hx0
    have hal1 := hall_up gL hal0
    have li4 : idx.length ≤ 4 := by omega
    refine ⟨_, rfl, repr_row2 (row.up fz_le) li4 ?_⟩
    -- two drawn moves
    have xpos : 0 < xs.length := by rw [nx]; exact List.length_pos_iff.mpr isG.grp.ne
    refine ⟨_, rfl, _, rfl, L, dd, m1, .ref au, xs, rfl, xpos, by omega, tr1, ds1, by omega, fun H' u => ⟨au, rfl, .inl (sqt_up fz_le (sqt_up (u.mono sdd).fz hx1))⟩, fun k1 y1 H2 hy1 u2 ds2 => ?_⟩
    have tr2 := tr1.up u2
    have hx2 := sqt_up (u2.mono sdd).fz hx1
    refine ⟨_, rfl, _, rfl, L, dd, m1 + 1, .ref au, xs, rfl, xpos, by omega, tr2, ds2, by omega, fun H' u => ⟨au, rfl, .inl (sqt_up fz_le (sqt_up (u.mono sdd).fz hx2))⟩, fun k2 y2 H3 hy2 u3 ds3 => ?_⟩
    have tr3 := tr2.up u3
    refine ⟨by show 2 ≤ sizeLine; decide, fun t ht => ?_⟩
    have ut : Up [] H3 (upd H3 t (.tup [y1, y2])) := Up.new ht
    have g14 := ((u2.trans u3).mono sdd).fz.trans ut.all.fz
    have tr4 := tr3.up ut
    have up4 : Up [dd] H (upd H3 t (.tup [y1, y2])) := ((u1.trans u2).trans u3).trans ut.all
    have ds4 : DS K L (upd H3 t (.tup [y1, y2])) dd (m1 + 2) := ds3.on ut (fun z => nomatch z) (fun _ z => (nomatch z)) (Nat.le_refl _)
    have hx4 := sqt_up g14 hx1
    have hal4 := hall_up g14 hal1
    have row4 := row.up g14
    obtain ⟨p1, hp1, hm1'⟩ := hall_at hal4 hy1
    obtain ⟨p2, hp2, hm2'⟩ := hall_at hal4 hy2
    have g1 := isG.grp.good (List.mem_of_getElem? hp1)
    have g2 := isG.grp.good (List.mem_of_getElem? hp2)
    obtain ⟨a1, u1', rfl, hq1, hdo1, hdd1⟩ := hm1'
    obtain ⟨a2, u2', rfl, hq2, hdo2, _⟩ := hm2'
    refine ⟨t, _, rfl, sqt_of upd_same, rfl, _, _, rfl, ⟨a1, u1', _, rfl, sqt_up fz_le hq1, _, _, rfl, ⟨a2, u2', _, rfl, sqt_up fz_le hq2, rfl, ?_⟩⟩⟩
    generalize upd H3 t (.tup [.ref a1, .ref a2]) = H4 at tr4 up4 ds4 hx4 hal4 row4 hdo1 hdd1 hdo2 ⊢
    have lo1 : ∀ k, k ∈ p1.1 → k < idx.length := fun k hk => by
      have := g1.1.lt k hk
      omega
    have l14 : p1.1.length ≤ 4 := by rw [g1.1.len]; exact few
    have l24 : p2.1.length ≤ 4 := by rw [g2.1.len]; exact few
    have c1l : (comp idx p1.1).length = held.length := by rw [comp_len, g1.1.len]
    -- once
    refine ⟨_, rfl, _, rfl, mv_row2 tr4 row4 hdo1 lo1 l14 fun pO H5 u5 rowO => ?_⟩
    have tr5 := tr4.up u5
    have row5 := row4.up u5.all.fz
    have hdo15 := dp_up u5.all.fz hdo1
    have hdd15 := hd_up u5.all.fz hdd1
    have hdo25 := dp_up u5.all.fz hdo2
    have hx5 := sqt_up u5.all.fz hx4
    have hal5 := hall_up u5.all.fz hal4
    have ds5 : DS K L H5 dd (m1 + 2) := ds4.on u5 (fun z => nomatch z) (fun _ z => (nomatch z)) (Nat.le_refl _)
    have up5 := up4.trans u5.all
    refine ⟨_, rfl, repr_row2 (rowO.up fz_le) (by omega) ?_⟩
    obtain ⟨ao, eo, hao⟩ := dp_ord hdo15
    subst eo
    have hao' := sqt_up fz_le hao
    refine ⟨_, rfl, ao, rfl, ⟨_, hao'⟩, fun D hD => ?_⟩
    refine lc_tup (K := K) (a := ao) (xs := p1.1.map fun k : Nat => V.int (k : Int)) (fun i H' => Up [D] H5 H' ∧ H' D = some (.lst (pick ys (p1.1.take i)))) ⟨Up.new hD, by rw [upd_same, List.take_zero]; rfl⟩ (fun i H' _ ⟨u, _⟩ => sqt_up (u.drop hD) hao') ?_ ?_
    · rintro i x H' hx ⟨u, hl⟩
      obtain ⟨j, hj, rfl⟩ := map_some hx
      have lt : j < ys.length := by
        rw [row.len]
        exact lo1 j (List.mem_of_getElem? hj)
      have hi : i < p1.1.length := (List.getElem?_eq_some_iff.mp hj).1
      refine ⟨rfl, yesT ⟨_, rfl, _, rfl, p, ys, (j : Int), ys[j], rfl, rfl, sqt_up (u.drop hD) (sqt_up fz_le row5.at_), atI_nat (List.getElem?_eq_getElem lt), _, hl, ?_, u.trans (Up.put List.mem_cons_self), ?_⟩⟩
      · show ((p1.1.take i).map _).length < sizeLine
        rw [List.length_map, List.length_take]
        exact Nat.lt_of_le_of_lt (show min i p1.1.length ≤ 1000 by omega) (by decide)
      · rw [upd_same, take_at hj]
        unfold pick
        rw [List.map_append, List.map_cons, List.map_nil, List.getD_eq_getElem?_getD, List.getElem?_eq_getElem lt]
        rfl
    rintro H6 ⟨uD, hl⟩
    rw [List.length_map, List.take_length] at hl
    have u6 := uD.drop hD
    refine ⟨D, _, rfl, .inl ⟨sql_of hl, fun q hq => ?_⟩⟩
    have uq : Up [] H6 (upd H6 q (.tup (pick ys p1.1))) := Up.new hq
    have u7 := u6.trans uq
    have rowQ : Row K (upd H6 q (.tup (pick ys p1.1))) q (pick ys p1.1) (comp idx p1.1) := ⟨sqt_of upd_same, dqa_up u7 (dqa_up fz_le (row5.pick lo1)), comp_low row.low lo1⟩
    refine repr_row2 rowQ (by omega) ⟨rfl, _, rfl, iteNDi rfl ?_⟩
    have tr7 := tr5.up u7
    have row7 := row5.up u7.all.fz
    have rowO7 := rowO.up (u7.all.fz)
    have hdo17 := dp_up u7.all.fz hdo15
    have hdd17 := hd_up u7.all.fz hdd15
    have hdo27 := dp_up u7.all.fz hdo25
    have hx7 := sqt_up u7.all.fz hx5
    have hal7 := hall_up u7.all.fz hal5
    have ds7 : DS K L (upd H6 q (.tup (pick ys p1.1))) dd (m1 + 2) := ds5.on u7 (fun z => nomatch z) (fun _ z => (nomatch z)) (Nat.le_refl _)
    have up7 := up5.trans u7.all
    generalize upd H6 q (.tup (pick ys p1.1)) = H7 at tr7 row7 rowO7 hdo17 hdd17 hdo27 hx7 hal7 ds7 up7 ⊢
    refine ⟨_, rfl, _, rfl, mv_row2 tr7 row7 hdo17 lo1 l14 fun p8 H8 u8 row8 => ?_⟩
    refine repr_row2 (row8.up fz_le) (by omega) ⟨_, rfl, repr_row2 ((rowO7.up u8.all.fz).up fz_le) (by omega) ⟨rfl, _, rfl, iteNDi rfl ?_⟩⟩
    have tr8 := tr7.up u8
    have row8' := row7.up u8.all.fz
    have rowO8 := rowO7.up u8.all.fz
    have hdo18 := dp_up u8.all.fz hdo17
    have hdd18 := hd_up u8.all.fz hdd17
    have hdo28 := dp_up u8.all.fz hdo27
    have hx8 := sqt_up u8.all.fz hx7
    have hal8 := hall_up u8.all.fz hal7
    have ds8 : DS K L H8 dd (m1 + 2) := ds7.on u8 (fun z => nomatch z) (fun _ z => (nomatch z)) (Nat.le_refl _)
    have up8 := up7.trans u8.all
    have lo2 : ∀ k, k ∈ p2.1 → k < p1.1.length := fun k hk => by
      rw [g1.1.len]
      exact g2.1.lt k hk
    have lo2' : ∀ k, k ∈ p2.1 → k < (comp idx p1.1).length := fun k hk => by
      rw [comp_len]
      exact lo2 k hk
    refine ⟨_, rfl, _, rfl, mv_row2 tr8 rowO8 hdo28 lo2' l24 fun p9 H9 u9 row9 => ?_⟩
    refine repr_row2 (row9.up fz_le) (by rw [comp_len]; exact l24) ?_
    have tr9 := tr8.up u9
    refine ⟨_, rfl, _, rfl, _, rfl, mv_int2 tr9 (dp_up u9.all.fz hdo18) (dp_up u9.all.fz hdo28) lo2 l24 fun pp H10 u10 dpp => ?_⟩
    have tr10 := tr9.up u10
    have u810 := u9.trans u10
    have lo12 : ∀ k, k ∈ comp p1.1 p2.1 → k < idx.length := comp_low lo1 lo2
    refine mv_row2 tr10 (row8'.up u810.all.fz) dpp lo12 (by rw [comp_len]; exact l24) fun p11 H11 u11 row11 => ?_
    refine repr_row2 (row11.up fz_le) (by rw [comp_len, comp_len]; exact l24) ⟨rfl, _, rfl, iteNDi (by rw [comp_comp lo2]) ?_⟩
    have u811 := u810.trans u11
    refine ⟨_, rfl, repr_row2 ((row8'.up u811.all.fz).up fz_le) li4 ⟨_, rfl, rfl, _, rfl, iteNDi rfl ?_⟩⟩
    have tr11 := tr8.up u811
    have row11' := row8'.up u811.all.fz
    have rowO11 := rowO8.up u811.all.fz
    have hdo111 := dp_up u811.all.fz hdo18
    have hdd111 := hd_up u811.all.fz hdd18
    have hx11 := sqt_up u811.all.fz hx8
    have hal11 := hall_up u811.all.fz hal8
    have ds11 : DS K L H11 dd (m1 + 2) := ds8.on u811 (fun z => nomatch z) (fun _ z => (nomatch z)) (Nat.le_refl _)
    have up11 := up8.trans u811.all
    -- back
    refine ⟨_, rfl, _, rfl, L, _, p1.1, rfl, tr11, hdo111, hd_up fz_le hdd111, (by omega), (fun k hk => g1.1.mem (by rw [← g1.1.len]; exact hk)), fun zb H12 u12 dzb => ?_⟩
    have tr12 := tr11.up u12
    have bl : (back p1.1).length = p1.1.length := back_len _
    have lob : ∀ k, k ∈ back p1.1 → k < (comp idx p1.1).length := fun k hk => by
      rw [c1l]
      exact (ord_back g1.1).lt k hk
    refine mv_row2 tr12 (rowO11.up u12.all.fz) dzb lob (by omega) fun p13 H13 u13 row13 => ?_
    have lob2 : ∀ k, k ∈ back p1.1 → k < p1.1.length := fun k hk => by
      rw [g1.1.len]
      exact (ord_back g1.1).lt k hk
    have eB : comp (comp idx p1.1) (back p1.1) = idx := by
      rw [comp_comp lob2, comp_back g1.1]
      have e : held.length = idx.length := by omega
      rw [e]
      exact comp_range idx
    refine repr_row2 (row13.up fz_le) (by rw [eB]; exact li4) ⟨_, rfl, rfl, _, rfl, iteNDi (by rw [eB]) ?_⟩
    have u1113 := u12.trans u13
    have tr13 := tr11.up u1113
    have row13' := row11'.up u1113.all.fz
    have hx13 := sqt_up u1113.all.fz hx11
    have hal13 := hall_up u1113.all.fz hal11
    have ds13 : DS K L H13 dd (m1 + 2) := ds11.on u1113 (fun z => nomatch z) (fun _ z => (nomatch z)) (Nat.le_refl _)
    have up13 := up11.trans u1113.all
    -- as many rows as orders
    refine ⟨_, rfl, au, rfl, ⟨_, sqt_up fz_le hx13⟩, fun D14 hD14 => ?_⟩
    have C14 : LcC L [] D14 (fun _ _ => True) (G.map fun mm => some (PyData.str (rowT (comp idx mm.1)))) H13 := .pure hD14 tr13 (by rw [List.length_map]; omega)
    refine lcT C14 hx13 (by rw [List.length_map, nx]) (fun i x oo yy H' hx _ I => ?_) fun H14 u14 tr14 _ hst => ?_
    · obtain ⟨mm, hmm, hmx⟩ := hall_at hal13 hx
      have gm := isG.grp.good (List.mem_of_getElem? hmm)
      obtain ⟨a', u', rfl, hq', hdo, _⟩ := hm_up (I.gw C14) hmx
      refine ⟨a', u', _, rfl, sqt_up fz_le hq', rfl, yesT ⟨_, rfl, _, rfl, mv_row2 I.tr (row13'.up (I.gw C14)) hdo (fun k hk => by have := gm.1.lt k hk; omega) (by rw [gm.1.len]; exact few) fun p' H'' u'' row'' => ?_⟩⟩
      exact repr_row2 (row''.up fz_le) (by rw [comp_len, gm.1.len]; exact few) (I.add C14 u'' trivial (map_at hmm) (.str _))
    rw [fm_all] at hst
    obtain ⟨ys14, hy14, hd14⟩ := dp_list hst
    have e14 : G.map (fun mm => PyData.str (rowT (comp idx mm.1))) = (G.map fun mm => rowT (comp idx mm.1)).map .str := by
      rw [List.map_map]
      rfl
    rw [e14] at hd14
    rw [dpa_strs hd14] at hy14
    refine ⟨D14, _, rfl, sql_up fz_le hy14, by rw [List.length_map]; omega, fun a15 Ls1 ha15 hsub1 hall1 nd1 => ?_⟩
    refine ⟨a15, _, Ls1.length, rfl, upd_same, ?_⟩
    have u15 : Up [] H13 (upd H14 a15 (SetK P w a15 (txS Ls1) Ls1.length)) := u14.trans (Up.new ha15)
    have hx15 := sqt_up u15.all.fz hx13
    have hal15 := hall_up u15.all.fz hal13
    have tr15 := tr13.up u15
    refine ⟨_, rfl, au, rfl, ⟨_, sqt_up fz_le hx15⟩, fun D16 hD16 => ?_⟩
    have C16 : LcC L [] D16 (fun _ _ => True) (G.map fun mm => some (dO mm.1)) (upd H14 a15 (SetK P w a15 (txS Ls1) Ls1.length)) := .pure hD16 tr15 (by rw [List.length_map]; omega)
    refine lcT C16 hx15 (by rw [List.length_map, nx]) (fun i x oo yy H' hx _ I => ?_) fun H16 u16 tr16 _ hor => ?_
    · obtain ⟨mm, hmm, hmx⟩ := hall_at hal15 hx
      obtain ⟨a', u', rfl, hq', hdo, _⟩ := hm_up (I.gw C16) hmx
      exact ⟨a', u', _, rfl, sqt_up fz_le hq', rfl, yesT ⟨_, rfl, I.add C16 .refl trivial (map_at hmm) hdo⟩⟩
    rw [fm_all] at hor
    obtain ⟨yo, hyo, hyd⟩ := dp_list hor
    obtain ⟨ks, rfl, ek, hks⟩ := keysO (g := fun m : Mv => m.1) hyd
    have lk : ks.length = G.length := by
      have := congrArg List.length ek
      rw [List.length_map, List.length_map] at this
      exact this
    refine ⟨D16, ks, rfl, sql_up fz_le hyo, fun p hp => dp_up fz_le (by rw [show (tyO.nk p.2).data = dO p.2 from kO_data _]; exact hks p hp), by omega, fun a17 Ls2 ha17 hsub2 hall2 nd2 => ?_⟩
    have u17 : Up [] H13 (upd H16 a17 (SetNO w tyO a17 Ls2)) := (u15.trans u16).trans (Up.new ha17)
    refine ⟨a17, Ls2, rfl, upd_same, rfl, ?_⟩
    have hDm : ∀ o, o ∈ Ls2.map (·.2) ↔ o ∈ G.map fun m : Mv => m.1 := by
      intro o
      rw [← ek]
      constructor
      · intro ho
        obtain ⟨y, hy, rfl⟩ := List.mem_map.mp ho
        exact List.mem_map.mpr ⟨y, hsub2 y hy, rfl⟩
      · intro ho
        obtain ⟨y, hy, rfl⟩ := List.mem_map.mp ho
        exact hall2 y hy
    have okO : ∀ o, o ∈ Ls2.map (·.2) → Ord held o := fun o ho => by
      obtain ⟨mm, hmm, rfl⟩ := List.mem_map.mp ((hDm o).mp ho)
      exact (isG.grp.good hmm).1
    have ndT : ((Ls2.map (·.2)).map fun o => rowT (comp idx o)).Nodup := by
      refine nodup_map nd2 fun x hx y hy e => ?_
      have ox := okO x hx
      have oy := okO y hy
      have lx : ∀ k, k ∈ x → k < idx.length := fun k hk => by
        have := ox.lt k hk
        omega
      have ly : ∀ k, k ∈ y → k < idx.length := fun k hk => by
        have := oy.lt k hk
        omega
      exact comp_inj nd lx ly (rowT_inj (by rw [comp_len, comp_len, ox.len, oy.len]) (comp_low row.low lx) (comp_low row.low ly) e)
    have leq : Ls1.length = Ls2.length := by
      have h1 := len_eq nd1 ndT fun x => ⟨fun hx => ?_, fun hx => ?_⟩
      · rw [List.length_map, List.length_map] at h1
        exact h1
      · obtain ⟨mm, hmm, rfl⟩ := List.mem_map.mp (hsub1 x hx)
        exact List.mem_map.mpr ⟨mm.1, (hDm _).mpr (List.mem_map.mpr ⟨mm, hmm, rfl⟩), rfl⟩
      · obtain ⟨o, ho, rfl⟩ := List.mem_map.mp hx
        obtain ⟨mm, hmm, rfl⟩ := List.mem_map.mp ((hDm o).mp ho)
        exact hall1 _ (List.mem_map.mpr ⟨mm, hmm, rfl⟩)
    refine qTi (by rw [leq]) (k _ (m + 10) ?_ ?_ (Nat.le_refl _))
    · exact up13.trans u17.all
    · exact ds13.on u17 (fun z => nomatch z) (fun _ z => (nomatch z)) (by omega)
end
end Kf
end

section
set_option Elab.async false
set_option linter.all false
set_option maxRecDepth 100000
set_option maxHeartbeats 4000000
/-! walks: the start; a box right -/
namespace Kf
open PySem L2 PyProof.Rows
section
variable {X : Cx}
def rCatL (K : PySem.W.Frag) : R2 := fun x y H Q => ∃ l b xs zs, x = .ref l ∧ y = .ref b ∧ SqL K H l xs ∧ SqL K H b zs ∧ xs.length + zs.length ≤ sizeLine ∧ ∀ p, H p = none → Q (.ref p) (upd H p (.lst (xs ++ zs)))
theorem op_catL : OpR X (binaryOp .Add) (rCatL X.K) := by
  intro pins s σ H x y v u Q I rx ry h
  obtain ⟨l, b, xs, zs, rfl, rfl, h1, h2, hz, q⟩ := h
  cases rx
  cases ry
  obtain ⟨its, r, p1, _⟩ := I.list h1
  obtain ⟨its2, r2, p2, _⟩ := I.list h2
  obtain ⟨⟨cls, dd, data, sl⟩, ho, hc, n, hd⟩ := id p1.isList
  obtain ⟨⟨cls2, dd2, data2, sl2⟩, ho2, hc2, n2, hd2⟩ := id p2.isList
  simp only at hc hd hc2 hd2
  subst hc hd hc2 hd2
  have e : its.toArray ++ its2.toArray = (its ++ its2).toArray := by simp
  have l1 := r.length
  have l2 := r2.length
  refine concat_meets ⟨_, ho, rfl⟩ ⟨_, ho2, rfl⟩ noFill_list_add seq_list_add PySem.F.slot_list_add PySem.F.entry_list_add (PySem.F.args_list_add_2 _ _) (list_addW l b its.toArray its2.toArray n n2 dd dd2 sl sl2 (by rw [List.size_toArray, List.size_toArray]; omega)) ⟨ho, ho2, ?_⟩
  rw [e]
  exact ⟨.ref _, _, I.lnew (t' := s.toks) (r.append r2) (by rw [List.length_append]; omega), rfl, q _ I.fresh⟩
end
def spStart (K : PySem.W.Frag) : Sp := fun vs H Q _ => ∃ (a : Addr) (ns : List Int), vs = [.ref a] ∧ SqL K H a (ns.map V.int) ∧ ns.length ≤ 63 ∧ ∀ dd H', Up [] H H' → H dd = none → DS K [dd] H' dd 0 → Q (.ref dd) H'
section
variable {P : Program} {w : World} {K : PySem.W.Frag} {mg : Str → Option Value} {base : Heap} {f f0 f1 f2 f3 f4 f5 f6 f7 f8 f9 : Addr} {fd fd0 fd1 fd2 fd3 fd4 fd5 fd6 fd7 fd8 fd9 : FuncData}
theorem ok_start (T : Txt K mg) (D : Df K mg "_law_start" sStart ["_law_script"] f fd) : FnOk P w K mg base CX0 1 f fd ["_law_script"] (spStart K) := by
  refine D.F.ok scStart (fun vs H Q E h => ?_) (fun cdv A outer s H vs Q E hr h => ?_)
  · obtain ⟨a, ns, rfl, _⟩ := h
    rfl
  · obtain ⟨a, ns, rfl, ha, few, k⟩ := h
    refine ⟨_, pss_one (ps_ret (pe_disp (pps_cons pe_str (pe_op op_catL (pv 0) (pe_lst (pa_cons (pe_callB cr_len (by rfl) T.len bt_len (pa_cons (pv 0) pa_nil)) pa_nil))) (pps_cons pe_str pe_int (pps_cons pe_str pe_int (pps_cons pe_str pe_int pps_nil)))) rfl rfl (by simp) (by decide))), ?_⟩
    refine fun dd hdd => ⟨_, rfl, _, rfl, a, _, rfl, .inl (sql_up (Up.new hdd) ha), by show 1 ≤ sizeLine; decide, fun l hl => ?_⟩
    have u1 : Up [] H (upd H dd (.dK [])) := Up.new hdd
    have h1 : (upd H dd (.dK [])) dd = some (.dK []) := upd_same
    have u2 : Up [] (upd H dd (.dK [])) (upd (upd H dd (.dK [])) l (.lst [.int (((ns.map V.int).length : Nat) : Int)])) := Up.new hl
    refine ⟨a, l, _, _, rfl, rfl, sql_up u2 (sql_up u1 ha), sql_of upd_same, ?_, fun p hp => ?_⟩
    · rw [List.length_map]
      exact Nat.le_trans (show ns.length + 1 ≤ 1000 by omega) (by decide)
    have u3 : Up [] (upd (upd H dd (.dK [])) l (.lst [.int (((ns.map V.int).length : Nat) : Int)])) (upd (upd (upd H dd (.dK [])) l (.lst [.int (((ns.map V.int).length : Nat) : Int)])) p (.lst (ns.map V.int ++ [.int (((ns.map V.int).length : Nat) : Int)]))) := Up.new hp
    have h3 := (u2.trans u3).at h1
    have np : p ≠ dd := fun e => by
      rw [e, u2.at h1] at hp
      cases hp
    have hp3 : (upd (upd (upd H dd (.dK [])) l (.lst [.int (((ns.map V.int).length : Nat) : Int)])) p (.lst (ns.map V.int ++ [.int (((ns.map V.int).length : Nat) : Int)]))) p = some (.lst (ns.map V.int ++ [.int (((ns.map V.int).length : Nat) : Int)])) := upd_same
    have u03 := (u1.trans u2).trans u3
    refine ⟨h3, [(.inr "cells", .ref p), (.inr "spot", .int 0), (.inr "stock", .int 0), (.inr "mixed", .int 0)], rfl, (by show 4 ≤ 15; decide), ?_⟩
    refine k dd _ ?_ hdd ⟨List.mem_cons_self, p, ns ++ [(((ns.map V.int).length : Nat) : Int)], 0, 0, 0, upd_same, ?_, by simp, by rw [List.length_append, List.length_singleton]; omega, Int.le_refl _, Int.le_refl _, Int.le_refl _, Int.le_refl _, Int.le_refl _⟩
    · exact (u03.all.trans (Up.put (L := [dd]) List.mem_cons_self)).drop hdd
    · rw [fz_put List.mem_cons_self]
      refine sql_of ?_
      rw [fz_out (fun z => np (List.mem_singleton.mp z)), hp3, List.map_append]
      rfl
end
end Kf
end

section
set_option Elab.async false
set_option linter.all false
set_option maxRecDepth 100000
set_option maxHeartbeats 4000000
/-! walks: a box right -/
namespace Kf
open PySem L2 PyProof.Rows
abbrev tupM : Type := PySem.W.Tup Mv
theorem hall_P {K : PySem.W.Frag} {H : Hp} {p : Mv → Prop} : ∀ {ys : List V}, (∀ y ∈ ys, ∃ m : Mv, p m ∧ HM K H y m) → ∃ ms : List Mv, (∀ m, m ∈ ms → p m) ∧ HAll K H ys ms
  | [], _ => ⟨[], fun _ z => (nomatch z), .nil⟩
  | y :: ys, h => by
    obtain ⟨m, hm, e⟩ := h y List.mem_cons_self
    obtain ⟨ms, h2, e2⟩ := hall_P fun x hx => h x (List.mem_cons_of_mem _ hx)
    refine ⟨m :: ms, fun x hx => ?_, .cons e e2⟩
    rcases List.mem_cons.mp hx with q | q
    · rw [q]
      exact hm
    · exact h2 x q
theorem dpa_eq {K : PySem.W.Frag} {H : Hp} {vs vs' : List V} {ds : List PyData} (e : vs = vs') (h : DpAll K H vs' ds) : DpAll K H vs ds := by
  rw [e]
  exact h
theorem okGear_with {g : Gr} (ok : OkGear g) {i : Nat} {b : Bx} (hb : g.boxes[i]? = some b) {ms : List Mv} (h3 : ms.length ≤ 3) (gd : ∀ m, m ∈ ms → Gd b.held m) : OkGear (withM g i b ms) ∧ (⟨b.name, b.held, ms⟩ : Bx) ∈ (withM g i b ms).boxes := by
  obtain ⟨hi, e⟩ := List.getElem?_eq_some_iff.mp hb
  have split : g.boxes = g.boxes.take i ++ [b] ++ g.boxes.drop (i + 1) := by
    have h1 := (List.take_append_drop i g.boxes).symm
    rw [List.drop_eq_getElem_cons hi, e] at h1
    rw [List.append_assoc]
    exact h1
  have okb := ok.boxes b (List.mem_of_getElem? hb)
  have names : (withM g i b ms).boxes.map Bx.name = g.boxes.map Bx.name := by
    conv => rhs; rw [split]
    unfold withM
    rw [List.map_append, List.map_append, List.map_append, List.map_append]
    rfl
  refine ⟨⟨ok.lo, ok.hi, ok.names, ok.rise, ?_, fun x hx => ?_, ?_⟩, ?_⟩
  · have h1 := congrArg List.length names
    rw [List.length_map, List.length_map] at h1
    rw [h1]
    exact ok.few
  · rcases List.mem_append.mp hx with q | q
    · rcases List.mem_append.mp q with q | q
      · exact ok.boxes x (List.mem_of_mem_take q)
      · rw [List.mem_singleton.mp q]
        exact ⟨okb.name, okb.few, okb.slots, h3, gd⟩
    · exact ok.boxes x (List.mem_of_mem_drop q)
  · rw [names]
    exact ok.riseB
  · exact List.mem_append_left _ (List.mem_append_right _ List.mem_cons_self)
def spBoxR (K : PySem.W.Frag) : Sp := fun vs H Q _ => ∃ (L : List Addr) (dd : Addr) (m : Nat) (v : V) (i : Nat) (g : Gr) (b : Bx), vs = [.ref dd, v, .int (i : Nat)] ∧ Tr L H ∧ DS K L H dd m ∧ m + 200 < most ∧ HG K (Fz L H) v g ∧ OkGear g ∧ g.boxes[i]? = some b ∧
  ∀ (H' : Hp) (m' : Nat), Up [dd] H H' → DS K L H' dd m' → m' ≤ m + 100 → Q (.bl true) H'
section
variable {P : Program} {w : World} {K : PySem.W.Frag} {mg : Str → Option Value} {base : Heap} {f f0 f1 f2 f3 f4 f5 f6 f7 f8 f9 : Addr} {fd fd0 fd1 fd2 fd3 fd4 fd5 fd6 fd7 fd8 fd9 : FuncData}
theorem ok_boxR (T : Txt K mg) (G1 : FnOk P w K mg base CX0 7 f1 fd1 ["gear", "box"] (spGrp K)) (D1 : Df K mg "group" sGrpP ["gear", "box"] f1 fd1) (G2 : FnOk P w K mg base CX0 7 f2 fd2 ["gear", "box"] (spSlotsP K)) (D2 : Df K mg "slots" sSlotsP ["gear", "box"] f2 fd2)
    (G3 : FnOk P w K mg base CX0 3 f3 fd3 ["_law_d", "_law_held", "_law_own"] (spClosed K)) (D3 : Df K mg "_law_closed" sClosed ["_law_d", "_law_held", "_law_own"] f3 fd3) (G4 : FnG P w K mg base CX0 3 f4 fd4 ["_law_d", "_law_held", "_law_own"] (spRight K)) (D4 : Df K mg "_law_moved_right" sRight ["_law_d", "_law_held", "_law_own"] f4 fd4)
    (G5 : FnOk P w K mg base CX0 1 f5 fd5 ["_law_path"] (spBack K)) (D5 : Df K mg "_law_back" sBack ["_law_path"] f5 fd5) (G6 : FnOk P w K mg base CX0 2 f6 fd6 ["_law_d", "_law_some"] (spPk K)) (D6 : Df K mg "_law_pick" sPick ["_law_d", "_law_some"] f6 fd6)
    (G7 : FnOk P w K mg base CX0 1 f7 fd7 ["_law_gear_so", "_law_at", "_law_moves"] (spWith K)) (D7 : Df K mg "_law_with" sWith ["_law_gear_so", "_law_at", "_law_moves"] f7 fd7)
    (D : Df K mg "_law_box_right" sBoxR ["_law_d", "_law_gear_so", "_law_at"] f fd) : FnG P w K mg base CX0 8 f fd ["_law_d", "_law_gear_so", "_law_at"] (spBoxR K) := by
  refine okG D.F scBoxR (fun vs H Q E h => ?_) (fun cdv A outer s H vs Q E hr hgd h => ?_)
  · obtain ⟨L, dd, m, v, i, g, b, rfl, _⟩ := h
    rfl
  · obtain ⟨L, dd, m, v, i, g, b, rfl, tr0, ds0, hm, hg0, okg, hbi, k⟩ := h
    have hr1 : Room 1 _ := hr.mono (by decide)
    have hr2 : Room 2 _ := hr.mono (by decide)
    have hr3 : Room 3 _ := hr.mono (by decide)
    refine ⟨_, pss_cons (ps_asg (pe_ix ix_tup (pe_ix ix_tup (pv 1) pe_int (fun _ _ => rfl)) (pv 2) (fun _ _ => rfl)) (pg_tri (i := 3) (j := 4) (l := 5) rfl scBoxR.nd rfl rfl rfl (Or.inl rfl) (Or.inl rfl) (Or.inl rfl) (Or.inl rfl) (Or.inl rfl) (Or.inl rfl)))
      (pss_cons (ps_set (i := 6) scBoxR.nd rfl (Or.inr rfl) (pe_cd D1 G1 hr (by rfl) (pa_cons (pv 1) (pa_cons (pv 3) pa_nil))))
      (pss_cons (ps_if (pw_or (pt_cmpR (op_neV (α := tupS) (huV0 hr (by decide))) (pe_cd D2 G2 hr (by rfl) (pa_cons (pv 1) (pa_cons (pv 3) pa_nil))) (pv 4) (nomark _))
          (pw_or (pt_not (pt_val (pe_cd D3 G3 hr3 (by rfl) (pa_cons (pv 0) (pa_cons (pv 4) (pa_cons (pv 6) pa_nil))))))
          (pw_or1 (pt_not (pt_val (pe_callG G4 hr3 hgd (by rfl) D4.m D4.F.kp D4.b pass0 (pa_cons (pv 0) (pa_cons (pv 4) (pa_cons (pv 6) pa_nil))))))))).pt pss_never pss_nil)
      (pss_cons (ps_setLc (i := 7) (own := [("_law_path", 10), ("_law_sign", 11)]) (g := gPair K 10 11) (tt := tYes) rfl scBoxR.nd rfl rfl (sw_true rfl rfl rfl (by decide +kernel)) (pi_tup (pv 5)) (blkOk_by (N := nBoxR) (sc := defScope sBoxR) (by decide +kernel)) (fun _ _ _ _ _ => pg_pair (i := 10) (j := 11) rfl scBoxR.nd rfl rfl (Or.inl rfl) (Or.inl rfl) (Or.inr rfl) (Or.inr rfl)) (fun _ _ _ _ _ => pts_nil)
          (fun _ _ _ _ _ => pe_tup (pa_cons (pe_cd (sp := spBack K) D5 G5 hr1 (by rfl) (pa_cons (pv 10) pa_nil)) (pa_cons (pv 11) pa_nil))))
      (pss_cons (ps_setLc (i := 8) (own := [("_law_k", 12)]) (g := gName 12) (tt := tYes) rfl scBoxR.nd rfl rfl (sw_true rfl rfl rfl (by decide +kernel)) (pi_range1 (by rfl) T.range (pa_cons pe_int pa_nil)) (blkOk_by (N := nBoxR) (sc := defScope sBoxR) (by decide +kernel)) (fun _ _ _ _ _ => pg_name (i := 12) scBoxR.nd rfl (Or.inl rfl)) (fun _ _ _ _ _ => pts_nil)
          (fun _ _ _ _ _ => pe_cd (sp := spPk K) D6 G6 hr2 (by rfl) (pa_cons (pv 0) (pa_cons (pv 6) pa_nil))))
      (pss_cons (ps_if (pt_cmpR (op_neV (α := tupM) (huV0 hr (by decide))) (pe_cd D1 G1 hr (by rfl) (pa_cons (pe_cd D7 G7 hr1 (by rfl) (pa_cons (pv 1) (pa_cons (pv 2) (pa_cons (pv 7) pa_nil)))) (pa_cons (pv 3) pa_nil))) (pv 6) (nomark _)) pss_never pss_nil)
      (pss_cons (ps_if (pt_cmpR (op_neV (α := tupM) (huV0 hr (by decide))) (pe_cd D1 G1 hr (by rfl) (pa_cons (pe_cd D7 G7 hr1 (by rfl) (pa_cons (pv 1) (pa_cons (pv 2) (pa_cons (pe_op op_catL (pe_slice sl_list (pv 8) po_none (po_some (pe_op op_sub pe_int (pe_callB cr_len (by rfl) T.len bt_len (pa_cons (pv 5) pa_nil))))) (pe_callTy call_list_of (by rfl) T.list bt_list (pa_cons (pv 5) pa_nil))) pa_nil)))) (pa_cons (pv 3) pa_nil))) (pv 6) (nomark _)) pss_never pss_nil)
      (pss_cons (ps_set (i := 9) scBoxR.nd rfl (Or.inl rfl) (pe_cd D1 G1 hr (by rfl) (pa_cons (pe_cd D7 G7 hr1 (by rfl) (pa_cons (pv 1) (pa_cons (pv 2) (pa_cons (pv 8) pa_nil)))) (pa_cons (pv 3) pa_nil))))
      (pss_cons (ps_if (pt_cmpR (op_neV (α := List Mv) (huV0 hr (by decide)))
          (pe_lc (own := [("_law_one", 13)]) (g := gName 13) (tt := tTest (tOp (rInV Mv K true) (tVar 13) (tVar 6))) rfl scBoxR.nd (pi_tup (pv 9)) (blkOk_by (N := nBoxR) (sc := defScope sBoxR) (by decide +kernel)) (fun _ _ _ _ _ => pg_name (i := 13) scBoxR.nd rfl (Or.inl rfl))
            (fun _ _ _ _ _ => pts_one (pt_cmpR (r := rInV Mv K true) (op_notInV (α := Mv) (huV hr (by decide))) (pv 13) (pv 6) rfl)) (fun _ _ _ _ _ => pv 13)) (pe_lst pa_nil) (nomark _)) pss_never pss_nil)
      (pss_one (ps_ret (pe_cmpR op_eq (pe_op op_mod (pe_callB cr_len (by rfl) T.len bt_len (pa_cons (pv 6) pa_nil)) (pe_callB cr_len (by rfl) T.len bt_len (pa_cons (pv 9) pa_nil))) pe_int (nomark _)))))))))))), ?_⟩
    have mem := List.mem_of_getElem? hbi
    have okb := okg.boxes b mem
    have f4 := okb.few
    have f3 := okb.fewM
    have f8 := okg.few
    have sdd : ∀ x, x ∈ [dd] → x ∈ L := fun x hx => by
      rw [List.mem_singleton.mp hx]
      exact ds0.mem
    obtain ⟨ag, pS, q, ys, rfl, ha0, hpS0, hq0, hbs0⟩ := id hg0
    obtain ⟨yb, hyb, ab, uh, um, rfl, hab0, hdh0, hms0⟩ := hbs_at hbs0 hbi
    obtain ⟨am, zs, rfl, hzs0, hallM0⟩ := hms0
    refine ⟨_, rfl, ag, _, 1, _, rfl, rfl, sqt_up fz_le ha0, atI_nat (j := 1) rfl, _, rfl, q, ys, _, _, rfl, rfl, sqt_up fz_le hq0, atI_nat hyb, ab, _, _, _, rfl, sqt_up fz_le hab0, ?_⟩
    -- its group
    refine ⟨_, rfl, _, rfl, L, _, g, b, rfl, tr0, hg_dp hg0, okg, mem, fun u G H1 u1 hmsG isG => ?_⟩
    obtain ⟨au, xs, rfl, hx1, hal1⟩ := hmsG
    have nx : xs.length = G.length := hall_len hal1
    have g48 : G.length ≤ 48 := moves_le f4 isG.grp.nd fun m hm => isG.grp.good hm
    have xpos : 0 < xs.length := by rw [nx]; exact List.length_pos_iff.mpr isG.grp.ne
    have tr1 := tr0.up u1
    refine ⟨_, rfl, _, rfl, L, _, g, b, rfl, tr1, hg_dp (hg_up u1.all.fz hg0), okg, mem, fun us H2 u2 dus => ?_⟩
    have u02 := u1.trans u2
    have tr2 := tr0.up u02
    have g02 := u02.all.fz (L := L)
    have ds2 : DS K L H2 dd m := ds0.on u02 (fun z => nomatch z) (fun _ z => (nomatch z)) (Nat.le_refl _)
    have hx2 := sqt_up u2.all.fz hx1
    have hal2 := hall_up u2.all.fz hal1
    refine ⟨_, rfl, ⟨b.held⟩, ⟨b.held⟩, dp_up fz_le dus, dp_up fz_le (dp_up g02 hdh0), _, rfl, iteDFi (fun z => z rfl) ?_⟩
    refine ⟨_, rfl, _, rfl, _, rfl, L, dd, m, uh, .ref au, b.held, b.moves, G, rfl, tr2, ds2, by unfold most at hm ⊢; omega, dp_up g02 hdh0, ⟨au, xs, rfl, hx2, hal2⟩, isG, f4, fun H3 m3 u3 ds3 hm3 => ⟨true, rfl, iteF ?_⟩⟩
    have g03 := g02.trans (u3.mono sdd).fz
    have tr3 := tr2.up u3
    have hx3 := sqt_up (u3.mono sdd).fz hx2
    have hal3 := hall_up (u3.mono sdd).fz hal2
    refine ⟨_, rfl, _, rfl, _, rfl, L, dd, m3, uh, .ref au, b.held, b.moves, G, rfl, tr3, ds3, by unfold most at hm ⊢; omega, dp_up g03 hdh0, ⟨au, xs, rfl, hx3, hal3⟩, isG, f4, fun H4 m4 u4 ds4 hm4 => ⟨true, rfl, iteF ?_⟩⟩
    have g04 := g03.trans (u4.mono sdd).fz
    have tr4 := tr3.up u4
    have hx4 := sqt_up (u4.mono sdd).fz hx3
    have hal4 := hall_up (u4.mono sdd).fz hal3
    have up4 : Up [dd] H H4 := (u02.all.trans u3).trans u4
    -- what undoes each move
    refine ⟨_, rfl, am, rfl, ⟨_, sqt_up fz_le (sqt_up g04 hzs0)⟩, fun D3 hD3 => ?_⟩
    have C3 : LcC L [] D3 (fun _ _ => True) (b.moves.map fun m => some (dM (inv m))) H4 := .pure hD3 tr4 (by rw [List.length_map]; omega)
    refine lcT C3 (sqt_up g04 hzs0) (by rw [List.length_map, hall_len hallM0]) (fun i x oo ys H' hx _ I => ?_) fun H5 u5 tr5 _ hun => ?_
    · obtain ⟨m1, hm1, hmx⟩ := hall_at (hall_up g04 hallM0) hx
      have gm := okb.moves m1 (List.mem_of_getElem? hm1)
      obtain ⟨a', u', rfl, hq', hdo, hdd⟩ := hm_up (I.gw C3) hmx
      refine ⟨a', u', _, rfl, sqt_up fz_le hq', rfl, yesT ⟨_, rfl, D3 :: L, u', m1.1, rfl, I.tr, hdo, hd_up fz_le hdd, (by rw [gm.1.len]; omega), (fun k hk => gm.1.mem (by rw [← gm.1.len]; exact hk)), fun z H7 u7 dz => ⟨_, rfl, by show 2 ≤ sizeLine; decide, fun t ht => ?_⟩⟩⟩
      exact I.add C3 (u7.trans (Up.new ht)) trivial (map_at hm1) (dp_new (I.tr.up u7) ht (.cons dz (.cons (.int _) .nil)))
    rw [fm_all] at hun
    have eInv : b.moves.map (fun m => dM (inv m)) = (b.moves.map inv).map dM := by
      rw [List.map_map]
      rfl
    rw [eInv] at hun
    have g05 := g04.trans u5.all.fz
    have hx5 := sqt_up u5.all.fz hx4
    have hal5 := hall_up u5.all.fz hal4
    have ds5 : DS K L H5 dd m4 := ds4.on u5 (fun z => nomatch z) (fun _ z => (nomatch z)) (Nat.le_refl _)
    have up5 := up4.trans u5.all
    -- drawn ones
    refine ⟨3, rfl, by decide, by decide, fun D hD => ?_⟩
    have nDd : dd ∉ [D] := fun z => ds5.ne hD (List.mem_singleton.mp z)
    have C : LcC L [dd] D (fun i H' => DS K (D :: L) H' dd (m4 + i)) [] H5 := by
      refine ⟨hD, tr5, sdd, Nat.zero_le _, ds5.to (Up.refl.gw fun x hx => ?_) rfl (List.mem_cons_of_mem _ ds5.mem) (Nat.le_refl _), fun i H' ys _ st => st.on (Up.put (L := [D]) List.mem_cons_self) nDd (fun x hx => by rw [List.mem_singleton.mp hx]; exact List.mem_cons_self) (Nat.le_refl _)⟩
      rcases List.mem_cons.mp hx with q | q
      · exact .inr (by rw [q]; exact hD)
      · exact .inl q
    have hZ : ZUp (fun H v => ∃ mm : Mv, mm ∈ G ∧ HM K H v mm) := fun _ _ _ u ⟨mm, h1, h2⟩ => ⟨mm, h1, hm_up u h2⟩
    refine lcJR (K := K) (R := fun _ => True) (Z := fun H v => ∃ mm : Mv, mm ∈ G ∧ HM K H v mm) C hZ (fun j yq H' hj I => ?_) (fun H6 yS dsl up6 tr6 st6 len6 _ hsq hdp hzS => ?_)
    · have hj3 : j < 3 := hj
      have sD : ∀ x, x ∈ [dd] → x ∈ D :: L := fun x hx => List.mem_cons_of_mem _ (sdd x hx)
      have hx' := sqt_up (I.gw C) hx5
      refine ⟨rfl, yesT ⟨_, rfl, _, rfl, D :: L, dd, m4 + j, .ref au, xs, rfl, xpos, by omega, I.tr, I.st, by unfold most at hm ⊢; omega, fun H'' u => ⟨au, rfl, .inl (sqt_up fz_le (sqt_up (u.mono sD).fz hx'))⟩, fun kk y H'' hy u'' ds'' => ?_⟩⟩
      obtain ⟨mm, hmm, hmy⟩ := hall_at (hall_up ((I.gw C).trans (u''.mono sD).fz) hal5) hy
      exact I.add C hZ (by omega) u'' ds'' trivial (hm_dp hmy) ⟨mm, List.mem_of_getElem? hmm, hmy⟩
    obtain ⟨sm, hsm, hallS⟩ := hall_P hzS
    have lsm : sm.length = 3 := by
      have h1 := hall_len hallS
      have h2 := dpa_len hdp
      have h3 : dsl.length = 3 := len6
      omega
    have g56 := (up6.mono sdd).fz
    have g06 := g05.trans g56
    have hx6 := sqt_up g56 hx5
    have hal6 := hall_up g56 hal5
    have ds6 : DS K L H6 dd (m4 + 3) := st6.less ds5.mem
    have up06 := up5.trans up6
    have hun6 := dp_up g56 hun
    have gdS : ∀ m, m ∈ sm → Gd b.held m := fun m hm => isG.grp.good (hsm m hm)
    have gdI : ∀ m, m ∈ b.moves.map inv → Gd b.held m := fun m hm => by
      obtain ⟨x, hx, rfl⟩ := List.mem_map.mp hm
      exact gd_inv (okb.moves x hx)
    -- by what undoes each move
    obtain ⟨ok1, me1⟩ := okGear_with okg hbi (ms := b.moves.map inv) (by rw [List.length_map]; exact f3) gdI
    refine ⟨_, rfl, _, rfl, _, rfl, L, _, _, g, i, b, b.moves.map inv, rfl, tr6, hg_dp (hg_up g06 hg0), f8, hbi, hun6, fun z7 H7 u7 dz7 => ?_⟩
    refine ⟨_, rfl, L, z7, withM g i b (b.moves.map inv), ⟨b.name, b.held, b.moves.map inv⟩, rfl, tr6.up u7, dz7, ok1, me1, fun uJ J H8 u8 hmsJ isJ => ?_⟩
    have eJ : J = G := isG.eq isJ (isG.grp.back_same isJ.grp)
    have u68 := u7.trans u8
    have tr8 := tr6.up u68
    have g08 := g06.trans u68.all.fz
    have hx8 := sqt_up u68.all.fz hx6
    have hal8 := hall_up u68.all.fz hal6
    refine ⟨_, rfl, ⟨J⟩, ⟨G⟩, dp_up fz_le (hms_dp hmsJ), dp_up fz_le (hms_dp ⟨au, xs, rfl, hx8, hal8⟩), _, rfl, iteDFi (fun z => z (by rw [eJ])) ?_⟩
    have hsq8 := sql_up u68.all.fz hsq
    have hallS8 := hall_up u68.all.fz hallS
    have hzs8 := sqt_up g08 hzs0
    have hallM8 := hall_up g08 hallM0
    have lz : zs.length = b.moves.length := hall_len hallM0
    -- by drawn ones beside the moves
    refine ⟨_, rfl, _, rfl, _, rfl, _, rfl, am, zs, rfl, .inr (sqt_up fz_le hzs8), _, _, rfl, rfl, _, rfl, D, yS, rfl, sql_up fz_le hsq8, fun p9 hp9 => ?_⟩
    have e3 : (3 : Int) - ((zs.length : Nat) : Int) = ((3 - zs.length : Nat) : Int) := by omega
    have hcut : cutV yS none (some ((3 : Int) - ((zs.length : Nat) : Int))) = yS.take (3 - zs.length) := by rw [e3, cutTo]
    refine ⟨_, rfl, am, zs, rfl, .inr (sqt_up (Up.new hp9) (sqt_up fz_le hzs8)), fun l9 hl9 => ?_⟩
    refine ⟨p9, l9, _, _, rfl, rfl, sql_up (Up.new hl9) (sql_of upd_same), sql_of upd_same, ?_, fun c9 hc9 => ?_⟩
    · have h1 := cutV_length yS none (some ((3 : Int) - ((zs.length : Nat) : Int)))
      have h2 := hall_len hallS
      exact Nat.le_trans (show _ ≤ 1000 by omega) (by decide)
    have u9a : Up [] H8 (upd H8 p9 (.lst (cutV yS none (some ((3 : Int) - ((zs.length : Nat) : Int)))))) := Up.new hp9
    have u9b : Up [] (upd H8 p9 (.lst (cutV yS none (some ((3 : Int) - ((zs.length : Nat) : Int)))))) (upd (upd H8 p9 (.lst (cutV yS none (some ((3 : Int) - ((zs.length : Nat) : Int)))))) l9 (.lst zs)) := Up.new hl9
    have u9c : Up [] (upd (upd H8 p9 (.lst (cutV yS none (some ((3 : Int) - ((zs.length : Nat) : Int)))))) l9 (.lst zs)) (upd (upd (upd H8 p9 (.lst (cutV yS none (some ((3 : Int) - ((zs.length : Nat) : Int)))))) l9 (.lst zs)) c9 (.lst (cutV yS none (some ((3 : Int) - ((zs.length : Nat) : Int))) ++ zs))) := Up.new hc9
    have u89 := (u9a.trans u9b).trans u9c
    have tr9b := (tr8.up u9a).up u9b
    have dcat : Dp K (Fz L (upd (upd (upd H8 p9 (.lst (cutV yS none (some ((3 : Int) - ((zs.length : Nat) : Int)))))) l9 (.lst zs)) c9 (.lst (cutV yS none (some ((3 : Int) - ((zs.length : Nat) : Int))) ++ zs)))) (.ref c9) (.list ((sm.take (3 - zs.length) ++ b.moves).map dM)) := by
      refine .lst (xs := cutV yS none (some ((3 : Int) - ((zs.length : Nat) : Int))) ++ zs) (sql_of ?_) ?_
      · rw [fz_out (tr9b.out hc9)]
        exact upd_same
      · rw [List.map_append, List.map_take]
        exact dpa_app (dpa_eq hcut (dpa_take _ (dpa_up u89.all.fz (hall_dp hallS8)))) (dpa_up u89.all.fz (hall_dp hallM8))
    have ms2 : ∀ m, m ∈ sm.take (3 - zs.length) ++ b.moves → m ∈ G := fun m hm => by
      rcases List.mem_append.mp hm with q | q
      · exact hsm m (List.mem_of_mem_take q)
      · exact isG.grp.own q
    obtain ⟨ok2, me2⟩ := okGear_with okg hbi (ms := sm.take (3 - zs.length) ++ b.moves) (by rw [List.length_append, List.length_take]; omega) (fun m hm => isG.grp.good (ms2 m hm))
    have g09 := g08.trans u89.all.fz
    have tr9 := tr8.up u89
    refine ⟨L, _, _, g, i, b, sm.take (3 - zs.length) ++ b.moves, rfl, tr9, hg_dp (hg_up g09 hg0), f8, hbi, dcat, fun z10 H10 u10 dz10 => ?_⟩
    refine ⟨_, rfl, L, z10, withM g i b (sm.take (3 - zs.length) ++ b.moves), ⟨b.name, b.held, sm.take (3 - zs.length) ++ b.moves⟩, rfl, tr9.up u10, dz10, ok2, me2, fun uJ2 J2 H11 u11 hmsJ2 isJ2 => ?_⟩
    have eJ2 : J2 = G := isG.eq isJ2 (isG.grp.more_same isJ2.grp ms2 fun m hm => List.mem_append_right _ hm)
    have u911 := u10.trans u11
    have tr11 := tr9.up u911
    have g011 := g09.trans u911.all.fz
    have u811 := u89.trans u911
    have hx11 := sqt_up u811.all.fz hx8
    have hal11 := hall_up u811.all.fz hal8
    refine ⟨_, rfl, ⟨J2⟩, ⟨G⟩, dp_up fz_le (hms_dp hmsJ2), dp_up fz_le (hms_dp ⟨au, xs, rfl, hx11, hal11⟩), _, rfl, iteDFi (fun z => z (by rw [eJ2])) ?_⟩
    -- by drawn ones alone
    obtain ⟨ok3, me3⟩ := okGear_with okg hbi (ms := sm) (by omega) gdS
    have dS11 : Dp K (Fz L H11) (.ref D) (.list (sm.map dM)) := .lst (sql_up u811.all.fz hsq8) (hall_dp (hall_up u811.all.fz hallS8))
    refine ⟨_, rfl, _, rfl, _, rfl, L, _, _, g, i, b, sm, rfl, tr11, hg_dp (hg_up g011 hg0), f8, hbi, dS11, fun z12 H12 u12 dz12 => ?_⟩
    refine ⟨_, rfl, L, z12, withM g i b sm, ⟨b.name, b.held, sm⟩, rfl, tr11.up u12, dz12, ok3, me3, fun uJ3 J3 H13 u13 hmsJ3 isJ3 => ?_⟩
    obtain ⟨aP, yP, rfl, hyP, halP⟩ := hmsJ3
    obtain ⟨part1, part2⟩ := isG.grp.part isJ3.grp hsm
    have u1113 := u12.trans u13
    have tr13 := tr11.up u1113
    have hx13 := sqt_up u1113.all.fz hx11
    have hal13 := hall_up u1113.all.fz hal11
    have nP : yP.length = J3.length := hall_len halP
    have J48 : J3.length ≤ 48 := moves_le f4 isJ3.grp.nd fun m hm => isJ3.grp.good hm
    refine ⟨_, rfl, aP, rfl, ⟨_, sqt_up fz_le hyP⟩, fun D14 hD14 => ?_⟩
    have C14 : LcC L [] D14 (fun _ _ => True) (J3.map fun _ => (Option.none : Option PyData)) H13 := .pure hD14 tr13 (by rw [List.length_map]; omega)
    refine lcT C14 hyP (by rw [List.length_map, nP]) (fun i x oo ys H' hx ho I => ?_) fun H14 u14 tr14 _ hem => ?_
    · obtain ⟨m1, hm1, hmx⟩ := hall_at halP hx
      have g' := I.gw C14
      exact ⟨rfl, _, rfl, _, rfl, m1, G, au, xs, dp_up fz_le (dp_up g' (hm_dp hmx)), rfl, .inl (sqt_up fz_le (sqt_up g' hx13)), dpa_up fz_le (hall_dp (hall_up g' hal13)), _, rfl, iteDFi (fun z => z (part1 m1 (List.mem_of_getElem? hm1))) (I.skip C14 .refl trivial (by rw [map_at hm1]))⟩
    rw [fm_none] at hem
    refine ⟨Nat.zero_le _, fun e he => ⟨[], [], dp_up (Up.new he) (dp_up fz_le hem), .lst (sql_of upd_same) .nil, _, rfl, iteDFi (fun z => z rfl) ?_⟩⟩
    have ue := u14.trans (Up.new (o := .lst []) he)
    have uEnd := ((u68.trans u811).trans u1113).trans ue
    have jpos : 0 < J3.length := List.length_pos_iff.mpr isJ3.grp.ne
    refine ⟨_, rfl, au, xs, rfl, .inr (sqt_up ue (sqt_up fz_le hx13)), _, rfl, aP, yP, rfl, .inr (sqt_up ue (sqt_up fz_le hyP)), _, _, rfl, rfl, (by omega), rfl, ?_⟩
    have em : ((xs.length : Nat) : Int) % ((yP.length : Nat) : Int) = 0 := by
      obtain ⟨c, hc⟩ := part2
      rw [nx, nP, hc, Int.natCast_mul]
      exact Int.mul_emod_right _ _
    exact qTi (congrArg V.int em) (k _ (m + 100) (up06.trans uEnd.all) (ds6.on uEnd (fun z => nomatch z) (fun _ z => (nomatch z)) (by omega)) (Nat.le_refl _))
end
end Kf
end

section
set_option Elab.async false
set_option linter.all false
set_option maxRecDepth 100000
set_option maxHeartbeats 4000000
/-! walks: the law -/
namespace Kf
open PySem L2 PyProof.Rows
structure Fine (M n : Nat) (d : PyData) : Prop where
  show_ : d.showable = true
  len : d.shown.length ≤ M
  dep : d.depth ≤ n
theorem fine_le {M n M' n' : Nat} {d : PyData} (h : Fine M n d) (a : M ≤ M') (b : n ≤ n') : Fine M' n' d := ⟨h.show_, Nat.le_trans h.len a, Nat.le_trans h.dep b⟩
theorem piled_le {M : Nat} : ∀ {ts : List Str}, (∀ t, t ∈ ts → t.length ≤ M) → (Str.join ", " ts).length ≤ ts.length * (M + 2)
  | [], _ => by show 0 ≤ _; omega
  | [x], h => by
    have := h x List.mem_cons_self
    show x.length ≤ 1 * (M + 2)
    omega
  | x :: y :: r, h => by
    have ih := piled_le (M := M) (ts := y :: r) fun t ht => h t (List.mem_cons_of_mem _ ht)
    have hx := h x List.mem_cons_self
    have e : ∀ z : Str, z.length = z.cps.toList.length := fun z => Array.length_toList.symm
    rw [e] at ih hx ⊢
    rw [join_cons2, List.length_append, List.length_append]
    have e2 : (", " : Str).cps.toList.length = 2 := rfl
    have e3 : (x :: y :: r).length * (M + 2) = (y :: r).length * (M + 2) + (M + 2) := by
      rw [List.length_cons (a := x), Nat.succ_mul]
    omega
theorem fines {M n : Nat} : ∀ {ds : List PyData}, (∀ d, d ∈ ds → Fine M n d) → PyData.showableAll ds = true ∧ (∀ t, t ∈ PyData.shownAll ds → t.length ≤ M) ∧ PyData.depthAll ds ≤ n ∧ (PyData.shownAll ds).length = ds.length
  | [], _ => ⟨by simp only [PyData.showableAll], (fun t h => by simp only [PyData.shownAll] at h; cases h), by simp only [PyData.depthAll]; omega, by simp only [PyData.shownAll, List.length_nil]⟩
  | d :: ds, h => by
    obtain ⟨a, b, c, e⟩ := fines fun x hx => h x (List.mem_cons_of_mem _ hx)
    have hd := h d List.mem_cons_self
    refine ⟨by simp only [PyData.showableAll, hd.show_, a, Bool.and_self], fun t ht => ?_, by simp only [PyData.depthAll]; exact Nat.max_le.mpr ⟨hd.dep, c⟩, by simp only [PyData.shownAll, List.length_cons, e]⟩
    simp only [PyData.shownAll] at ht
    rcases List.mem_cons.mp ht with q | q
    · rw [q]
      exact hd.len
    · exact b t q
theorem tup_len {M : Nat} {ts : List Str} (h : ∀ t, t ∈ ts → t.length ≤ M) : (tupleText ts).length ≤ ts.length * (M + 2) + 3 := by
  have h1 := piled_le h
  have e : ∀ z : Str, z.length = z.cps.toList.length := fun z => Array.length_toList.symm
  unfold tupleText
  rw [e] at h1 ⊢
  rw [str_app, str_app, Array.toList_append, Array.toList_append, List.length_append, List.length_append]
  have h2 : ("(" : Str).cps.toList.length = 1 := rfl
  have h3 : ∀ b : Bool, ((if b = true then ",)" else ")" : String) : Str).cps.toList.length ≤ 2 := by decide +kernel
  have h5 := h3 (ts.length == 1)
  omega
theorem fine_tup {M n c : Nat} {ds : List PyData} (h : ∀ d, d ∈ ds → Fine M n d) (hc : ds.length ≤ c) : Fine (c * (M + 2) + 3) (n + 1) (.tuple ds) := by
  obtain ⟨a, b, d, e⟩ := fines h
  refine ⟨by simp only [PyData.showable, a], ?_, by simp only [PyData.depth]; omega⟩
  have h1 := tup_len b
  rw [e] at h1
  have h2 : ds.length * (M + 2) ≤ c * (M + 2) := Nat.mul_le_mul_right _ hc
  simp only [PyData.shown]
  omega
theorem fine_name {s : Str} (h : OkName s) : Fine 82 0 (.str s) := by
  refine ⟨by simp only [PyData.showable], ?_, by simp only [PyData.depth]; omega⟩
  simp only [PyData.shown]
  have h1 : ∀ c, c ∈ letters.cps.toList → c < 16 ^ 8 := by decide +kernel
  have h2 := PySem.StrLaws.reprText_len s fun c hc => h1 c (h.let_ c hc)
  have h3 : s.length ≤ 8 := h.hi
  omega
theorem fine_side {s : Str} (h : s = "down" ∨ s = "up") : Fine 82 0 (.str s) := by
  refine fine_name ?_
  rcases h with e | e
  · rw [e]
    exact ⟨by decide, by decide, by decide +kernel⟩
  · rw [e]
    exact ⟨by decide, by decide, by decide +kernel⟩
theorem fine_int {i : Int} (h : i = 0 ∨ i = 1 ∨ i = 2 ∨ i = 3 ∨ i = -1) : Fine 4 0 (.int i) := by
  rcases h with e | e | e | e | e <;> rw [e] <;> exact ⟨by decide +kernel, by decide +kernel, by decide +kernel⟩
theorem fine_gear {g : Gr} (ok : OkGear g) : ∀ d, d ∈ ([.tuple (g.spaces.map .str), .tuple (g.boxes.map dB)] : List PyData) → Fine 40000 10 d := by
  intro d hd
  have hmove : ∀ {held : List Slt} {m : Mv}, held.length ≤ 4 → Gd held m → Fine 100 3 (dM m) := by
    intro held m h4 gd
    have ho : Fine 30 1 (dO m.1) := by
      refine fine_le (fine_tup (M := 4) (n := 0) (c := 4) (fun d hd => ?_) (by rw [List.length_map, gd.1.len]; exact h4)) (by decide) (by decide)
      obtain ⟨k, hk, rfl⟩ := List.mem_map.mp hd
      have := gd.1.lt k hk
      exact fine_int (by omega)
    refine fine_le (fine_tup (M := 30) (n := 1) (c := 2) (fun d hd => ?_) (by show 2 ≤ 2; decide)) (by decide) (by decide)
    rcases List.mem_cons.mp hd with e | hd
    · rw [e]
      exact ho
    · rw [List.mem_singleton.mp hd]
      exact fine_le (fine_int (by rcases gd.2 with e | e <;> omega)) (by decide) (by decide)
  rcases List.mem_cons.mp hd with e | hd
  · rw [e]
    refine fine_le (fine_tup (M := 82) (n := 0) (c := 3) (fun d hd => ?_) (by rw [List.length_map]; exact ok.hi)) (by decide) (by decide)
    obtain ⟨k, hk, rfl⟩ := List.mem_map.mp hd
    exact fine_name (ok.names k hk)
  · rw [List.mem_singleton.mp hd]
    refine fine_le (fine_tup (M := 3000) (n := 5) (c := 8) (fun d hd => ?_) (by rw [List.length_map]; exact ok.few)) (by decide) (by decide)
    obtain ⟨b, hb, rfl⟩ := List.mem_map.mp hd
    have okb := ok.boxes b hb
    refine fine_le (fine_tup (M := 800) (n := 4) (c := 3) (fun d hd => ?_) (by show 3 ≤ 3; decide)) (by decide) (by decide)
    rcases List.mem_cons.mp hd with e | hd
    · rw [e]
      exact fine_le (fine_name okb.name) (by decide) (by decide)
    rcases List.mem_cons.mp hd with e | hd
    · rw [e]
      refine fine_le (fine_tup (M := 171) (n := 1) (c := 4) (fun d hd => ?_) (by rw [List.length_map]; exact okb.few)) (by decide) (by decide)
      obtain ⟨z, hz, rfl⟩ := List.mem_map.mp hd
      have okz := okb.slots z hz
      refine fine_le (fine_tup (M := 82) (n := 0) (c := 2) (fun d hd => ?_) (by show 2 ≤ 2; decide)) (by decide) (by decide)
      rcases List.mem_cons.mp hd with e | hd
      · rw [e]
        exact fine_name (ok.names _ okz.1)
      · rw [List.mem_singleton.mp hd]
        exact fine_side okz.2
    · rw [List.mem_singleton.mp hd]
      refine fine_le (fine_tup (M := 100) (n := 3) (c := 3) (fun d hd => ?_) (by rw [List.length_map]; exact okb.fewM)) (by decide) (by decide)
      obtain ⟨z, hz, rfl⟩ := List.mem_map.mp hd
      exact hmove okb.few (okb.moves z hz)
def spLaw (K : PySem.W.Frag) : Sp := fun vs H Q _ => ∃ (a : Addr) (ns : List Int), vs = [.ref a] ∧ SqL K H a (ns.map V.int) ∧ ns.length ≤ 63 ∧ ∀ H', Q (.bl true) H'
section
variable {P : Program} {w : World} {K : PySem.W.Frag} {mg : Str → Option Value} {base : Heap} {f f0 f1 f2 f3 f4 f5 f6 f7 f8 f9 : Addr} {fd fd0 fd1 fd2 fd3 fd4 fd5 fd6 fd7 fd8 fd9 : FuncData}
theorem repr_gear {H : Hp} {v : V} {g : Gr} {Q : VK} (ok : OkGear g) (h : HG K H v g) (k : Q (.str (tupleText (PyData.shownAll [.tuple (g.spaces.map .str), .tuple (g.boxes.map dB)]))) H) : rRepr K [v] H Q := by
  obtain ⟨a, p, q, ys, rfl, h1, h2, h3, h4⟩ := h
  obtain ⟨s1, s2, s3, s4⟩ := fines (fine_gear ok)
  have h5 := tup_len s2
  rw [s4] at h5
  exact ⟨a, _, _, rfl, h1, dqa_of (.cons (.tup h2 (dpa_of_strs _)) (.cons (.tup h3 (hbs_dp h4)) .nil)), s1, Nat.le_trans h5 (by show 2 * (40000 + 2) + 3 ≤ 2 ^ 24; decide), by omega, k⟩
theorem repr_gear2 {H : Hp} {v : V} {g : Gr} {Q : VK} (ok : OkGear g) (h : HG K H v g) (k : Q (.str (tupleText (PyData.shownAll [.tuple (g.spaces.map .str), .tuple (g.boxes.map dB)]))) H) : rRepr2 K [v] H Q := by
  unfold rRepr2
  exact repr_gear ok h k
theorem ok_law (T : Txt K mg) (G1 : FnOk P w K mg base CX0 1 f1 fd1 ["_law_script"] (spStart K)) (D1 : Df K mg "_law_start" sStart ["_law_script"] f1 fd1) (G2 : FnOk P w K mg base CX0 4 f2 fd2 ["_law_d"] (spLGear K)) (D2 : Df K mg "_law_gear" sLGear ["_law_d"] f2 fd2)
    (G3 : FnG P w K mg base CX0 8 f3 fd3 ["_law_d", "_law_gear_so", "_law_at"] (spBoxR K)) (D3 : Df K mg "_law_box_right" sBoxR ["_law_d", "_law_gear_so", "_law_at"] f3 fd3) (F : Fun K "law" "law" sLaw f fd) : FnG P w K mg base CX0 9 f fd ["_law_script"] (spLaw K) := by
  refine okG F scLaw (fun vs H Q E h => ?_) (fun cdv A outer s H vs Q E hr hgd h => ?_)
  · obtain ⟨a, ns, rfl, _⟩ := h
    rfl
  · obtain ⟨a, ns, rfl, hS, hlen, k⟩ := h
    have hr1 : Room 1 _ := hr.mono (by decide)
    have hr4 : Room 4 _ := hr.mono (by decide)
    have hru := hr.units
    refine ⟨_, pss_cons (ps_set (i := 1) scLaw.nd rfl (Or.inl rfl) (pe_cd D1 G1 hr1 (by rfl) (pa_cons (pv 0) pa_nil)))
      (pss_cons (ps_for PassesOwn.never rfl (pi_range1 (by rfl) T.range (pa_cons (pe_op op_add pe_int (pe_callB (call_min2 rfl) (by rfl) T.min bt_min (pa_cons pe_int (pa_cons (pe_callB cr_len (by rfl) T.len bt_len (pa_cons (pv 0) pa_nil)) pa_nil)))) pa_nil)) (pg_name (i := 2) scLaw.nd rfl (Or.inl rfl))
        (pss_cons (ps_set (i := 3) scLaw.nd rfl (Or.inl rfl) (pe_cd D2 G2 hr4 (by rfl) (pa_cons (pv 1) pa_nil)))
        (pss_cons (ps_set (i := 4) scLaw.nd rfl (Or.inl rfl) (pe_callB (cr_repr2 hgd hru) (by rfl) T.repr bt_repr (pa_cons (pv 3) pa_nil)))
        (pss_cons (ps_for PassesOwn.never rfl (pi_range1 (by rfl) T.range (pa_cons (pe_callB cr_len (by rfl) T.len bt_len (pa_cons (pe_ix ix_tup (pv 3) pe_int (fun _ _ => rfl)) pa_nil)) pa_nil)) (pg_name (i := 5) scLaw.nd rfl (Or.inl rfl))
          (pss_one (ps_if (pt_not (pt_val (pe_callG G3 hr hgd (by rfl) D3.m D3.F.kp D3.b pass0 (pa_cons (pv 1) (pa_cons (pv 3) (pa_cons (pv 5) pa_nil)))))) pss_never pss_nil)))
        (pss_one (ps_if (pt_cmpR op_ne (pe_callB (cr_repr2 hgd hru) (by rfl) T.repr bt_repr (pa_cons (pv 3) pa_nil)) (pv 4) (nomark _)) pss_never pss_nil))))))
      (pss_one (ps_ret pe_bl))), ?_⟩
    refine ⟨_, rfl, a, ns, rfl, hS, hlen, fun dd H1 u1 hdd ds1 => ?_⟩
    have b62 : (1000 : Int) < 2 ^ 62 := by decide
    have tr1 : Tr [dd] H1 := fun x hx => by
      obtain ⟨o, ho⟩ := ds1.some
      rw [List.mem_singleton.mp hx, ho]
      exact fun z => nomatch z
    have hS1 := sql_up u1 hS
    have hv : 0 ≤ (if (((ns.map V.int).length : Nat) : Int) < 2 then (((ns.map V.int).length : Nat) : Int) else 2) ∧ (if (((ns.map V.int).length : Nat) : Int) < 2 then (((ns.map V.int).length : Nat) : Int) else 2) ≤ 2 := by
      by_cases h2 : (((ns.map V.int).length : Nat) : Int) < 2
      · rw [if_pos h2]
        omega
      · rw [if_neg h2]
        omega
    refine ⟨_, rfl, a, _, rfl, .inl hS1, _, _, rfl, _, _, rfl, rfl, _, rfl, ?_⟩
    generalize (if (((ns.map V.int).length : Nat) : Int) < 2 then (((ns.map V.int).length : Nat) : Int) else 2) = mn at hv ⊢
    refine ⟨by omega, by omega, ?_⟩
    refine for_range (n := (2 + mn).toNat) (fun i σ H' => ∃ (c2 c3 c4 c5 : Option V) (m1 : Nat), σ = [some (.ref a), some (.ref dd), c2, c3, c4, c5] ∧ DS K [dd] H' dd m1 ∧ m1 ≤ 4000 * i ∧ Tr [dd] H') ⟨_, _, _, _, 0, rfl, ds1, by omega, tr1⟩ ?_ ?_
    · rintro i σ H2 hi ⟨c2, c3, c4, c5, m1, rfl, ds, hm1, tr⟩
      have hi4 : i < 4 := by omega
      refine ⟨_, rfl, [dd], dd, m1, rfl, tr, ds, by unfold most; omega, fun u g H3 m3 u3 ds3 hm3 okg hg => ?_⟩
      have tr3 := tr.up u3
      refine ⟨_, rfl, repr_gear2 okg (hg_up fz_le hg) ?_⟩
      obtain ⟨ag, pS, q, ys, rfl, ha0, hpS0, hq0, hbs0⟩ := id hg
      have lys : ys.length = g.boxes.length := by
        have := dpa_len (hbs_dp hbs0)
        rw [List.length_map] at this
        exact this
      have f8 := okg.few
      refine ⟨_, rfl, ag, _, 1, .ref q, rfl, rfl, sqt_up fz_le ha0, atI_nat (j := 1) rfl, q, ys, rfl, .inr (sqt_up fz_le hq0), _, rfl, by omega, by omega, ?_⟩
      refine for_range (n := ((ys.length : Nat) : Int).toNat) (fun j σ H' => ∃ (c5 : Option V) (m4 : Nat), σ = [some (.ref a), some (.ref dd), some (.int (0 + (i : Int))), some (.ref ag), some (.str (tupleText (PyData.shownAll [.tuple (g.spaces.map .str), .tuple (g.boxes.map dB)]))), c5] ∧ DS K [dd] H' dd m4 ∧ m4 ≤ m3 + 100 * j ∧ Up [dd] H3 H' ∧ Tr [dd] H') ⟨_, m3, rfl, ds3, Nat.le_refl _, Up.refl, tr3⟩ ?_ ?_
      · rintro j σ H5 hj ⟨c5', m4, rfl, ds5, hm4, up5, tr5⟩
        have hj2 : j < g.boxes.length := by omega
        have hb : g.boxes[j]? = some g.boxes[j] := List.getElem?_eq_getElem hj2
        refine ⟨_, rfl, _, rfl, _, rfl, [dd], dd, m4, .ref ag, j, g, g.boxes[j], by rw [Int.zero_add]; rfl, tr5, ds5, by unfold most; omega, hg_up up5.fz hg, okg, hb, fun H' m' u' ds' hm' => ⟨true, rfl, iteF ?_⟩⟩
        exact ⟨_, m', rfl, ds', by omega, up5.trans u', tr5.up u'⟩
      · rintro σ H5 ⟨c5', m4, rfl, ds5, hm4, up5, tr5⟩
        refine ⟨_, rfl, repr_gear2 okg (hg_up fz_le (hg_up up5.fz hg)) ⟨_, rfl, rfl, _, rfl, iteNDi rfl ?_⟩⟩
        exact ⟨_, _, _, _, m4, rfl, ds5, by omega, tr5⟩
    · rintro σ H2 ⟨c2, c3, c4, c5, m1, rfl, ds, hm1, tr⟩
      exact k _
end
end Kf
end

section
set_option Elab.async false
set_option linter.all false
set_option maxRecDepth 100000
set_option maxHeartbeats 8000000
/-! what the top has written, the head -/
namespace Kf
open PySem L2 PyProof.Rows
theorem all_mk {l : PySem.W.OpenLaw} {w : World} {K : PySem.W.Frag} {h : Heap} {mg : Str → Option Value} {fa aS f1 f2 f3 f4 f5 f6 f7 f8 f9 f10 f11 f12 f13 f14 f15 f16 f17 f18 f19 f20 f21 f22 f23 f24 f25 f26 f27 f28 f29 f30 f31 : Addr} (X : K.In h) (G : h.Ns mainGlobals mg) (hfa : mg "law" = some (.ref fa))
    {oS : Option Addr} {nS : Nat} {slS : Array (Option Value)} {zL zd zu : Str} {tL td tu t1 t2 t3 t4 t5 : Tok}
    {od1 an1 od2 an2 od3 an3 od4 an4 od5 an5 od6 an6 od7 an7 od8 an8 od9 an9 od10 an10 od11 an11 od12 an12 od13 an13 od14 an14 od15 an15 od16 an16 od17 an17 od18 an18 od19 an19 od20 an20 od21 an21 od22 an22 od23 an23 od24 an24 od25 an25 od26 an26 od27 an27 od28 an28 od29 an29 od30 an30 od31 an31 : Option Addr} {sl1 sl2 sl3 sl4 sl5 sl6 sl7 sl8 sl9 sl10 sl11 sl12 sl13 sl14 sl15 sl16 sl17 sl18 sl19 sl20 sl21 sl22 sl23 sl24 sl25 sl26 sl27 sl28 sl29 sl30 sl31 : Array (Option Value)} {oc1 kV1 dc1 pm1 cd1 ct1 oc2 kV2 dc2 pm2 cd2 ct2 oc3 kV3 dc3 pm3 cd3 ct3 oc4 kV4 dc4 pm4 cd4 ct4 oc5 kV5 dc5 pm5 cd5 ct5 oc6 kV6 dc6 pm6 cd6 ct6 oc7 kV7 dc7 pm7 cd7 ct7 oc8 kV8 dc8 pm8 cd8 ct8 oc9 kV9 dc9 pm9 cd9 ct9 oc10 kV10 dc10 pm10 cd10 ct10 oc11 kV11 dc11 pm11 cd11 ct11 oc12 kV12 dc12 pm12 cd12 ct12 oc13 kV13 dc13 pm13 cd13 ct13 oc14 kV14 dc14 pm14 cd14 ct14 oc15 kV15 dc15 pm15 cd15 ct15 oc16 kV16 dc16 pm16 cd16 ct16 oc17 kV17 dc17 pm17 cd17 ct17 oc18 kV18 dc18 pm18 cd18 ct18 oc19 kV19 dc19 pm19 cd19 ct19 oc20 kV20 dc20 pm20 cd20 ct20 oc21 kV21 dc21 pm21 cd21 ct21 oc22 kV22 dc22 pm22 cd22 ct22 oc23 kV23 dc23 pm23 cd23 ct23 oc24 kV24 dc24 pm24 cd24 ct24 oc25 kV25 dc25 pm25 cd25 ct25 oc26 kV26 dc26 pm26 cd26 ct26 oc27 kV27 dc27 pm27 cd27 ct27 oc28 kV28 dc28 pm28 cd28 ct28 oc29 kV29 dc29 pm29 cd29 ct29 oc30 kV30 dc30 pm30 cd30 ct30 oc31 kV31 dc31 pm31 cd31 ct31 : Value}
    (a1 : PySem.W.nsIn K mainGlobals "is_whole" = some (some (.ref f1))) (l1 : K.lookup f1 = some ⟨oc1, od1, .func (PySem.W.fnOf "is_whole" "is_whole" (defArgs sWhole) (defBody sWhole) (defScope sWhole) .none kV1 dc1 pm1 an1 cd1 ct1), sl1⟩) (c1 : PySem.W.codeIn K cd1 "is_whole" = true) (k1 : PySem.W.keepIn K (.ref f1) = true)
    (a2 : PySem.W.nsIn K mainGlobals "is_name" = some (some (.ref f2))) (l2 : K.lookup f2 = some ⟨oc2, od2, .func (PySem.W.fnOf "is_name" "is_name" (defArgs sName) (defBody sName) (defScope sName) .none kV2 dc2 pm2 an2 cd2 ct2), sl2⟩) (c2 : PySem.W.codeIn K cd2 "is_name" = true) (k2 : PySem.W.keepIn K (.ref f2) = true)
    (a3 : PySem.W.nsIn K mainGlobals "own_tuple" = some (some (.ref f3))) (l3 : K.lookup f3 = some ⟨oc3, od3, .func (PySem.W.fnOf "own_tuple" "own_tuple" (defArgs sTup) (defBody sTup) (defScope sTup) .none kV3 dc3 pm3 an3 cd3 ct3), sl3⟩) (c3 : PySem.W.codeIn K cd3 "own_tuple" = true) (k3 : PySem.W.keepIn K (.ref f3) = true)
    (a4 : PySem.W.nsIn K mainGlobals "own_rising" = some (some (.ref f4))) (l4 : K.lookup f4 = some ⟨oc4, od4, .func (PySem.W.fnOf "own_rising" "own_rising" (defArgs sRise) (defBody sRise) (defScope sRise) .none kV4 dc4 pm4 an4 cd4 ct4), sl4⟩) (c4 : PySem.W.codeIn K cd4 "own_rising" = true) (k4 : PySem.W.keepIn K (.ref f4) = true)
    (a5 : PySem.W.nsIn K mainGlobals "own_slot" = some (some (.ref f5))) (l5 : K.lookup f5 = some ⟨oc5, od5, .func (PySem.W.fnOf "own_slot" "own_slot" (defArgs sSlot) (defBody sSlot) (defScope sSlot) .none kV5 dc5 pm5 an5 cd5 ct5), sl5⟩) (c5 : PySem.W.codeIn K cd5 "own_slot" = true) (k5 : PySem.W.keepIn K (.ref f5) = true)
    (a6 : PySem.W.nsIn K mainGlobals "own_order" = some (some (.ref f6))) (l6 : K.lookup f6 = some ⟨oc6, od6, .func (PySem.W.fnOf "own_order" "own_order" (defArgs sOrdr) (defBody sOrdr) (defScope sOrdr) .none kV6 dc6 pm6 an6 cd6 ct6), sl6⟩) (c6 : PySem.W.codeIn K cd6 "own_order" = true) (k6 : PySem.W.keepIn K (.ref f6) = true)
    (a7 : PySem.W.nsIn K mainGlobals "own_move" = some (some (.ref f7))) (l7 : K.lookup f7 = some ⟨oc7, od7, .func (PySem.W.fnOf "own_move" "own_move" (defArgs sMove) (defBody sMove) (defScope sMove) .none kV7 dc7 pm7 an7 cd7 ct7), sl7⟩) (c7 : PySem.W.codeIn K cd7 "own_move" = true) (k7 : PySem.W.keepIn K (.ref f7) = true)
    (a8 : PySem.W.nsIn K mainGlobals "own_box" = some (some (.ref f8))) (l8 : K.lookup f8 = some ⟨oc8, od8, .func (PySem.W.fnOf "own_box" "own_box" (defArgs sBox) (defBody sBox) (defScope sBox) .none kV8 dc8 pm8 an8 cd8 ct8), sl8⟩) (c8 : PySem.W.codeIn K cd8 "own_box" = true) (k8 : PySem.W.keepIn K (.ref f8) = true)
    (a9 : PySem.W.nsIn K mainGlobals "own_gear" = some (some (.ref f9))) (l9 : K.lookup f9 = some ⟨oc9, od9, .func (PySem.W.fnOf "own_gear" "own_gear" (defArgs sGear) (defBody sGear) (defScope sGear) .none kV9 dc9 pm9 an9 cd9 ct9), sl9⟩) (c9 : PySem.W.codeIn K cd9 "own_gear" = true) (k9 : PySem.W.keepIn K (.ref f9) = true)
    (a10 : PySem.W.nsIn K mainGlobals "need_gear" = some (some (.ref f10))) (l10 : K.lookup f10 = some ⟨oc10, od10, .func (PySem.W.fnOf "need_gear" "need_gear" (defArgs sNeed) (defBody sNeed) (defScope sNeed) .none kV10 dc10 pm10 an10 cd10 ct10), sl10⟩) (c10 : PySem.W.codeIn K cd10 "need_gear" = true) (k10 : PySem.W.keepIn K (.ref f10) = true)
    (a11 : PySem.W.nsIn K mainGlobals "own_box_of" = some (some (.ref f11))) (l11 : K.lookup f11 = some ⟨oc11, od11, .func (PySem.W.fnOf "own_box_of" "own_box_of" (defArgs sBoxOf) (defBody sBoxOf) (defScope sBoxOf) .none kV11 dc11 pm11 an11 cd11 ct11), sl11⟩) (c11 : PySem.W.codeIn K cd11 "own_box_of" = true) (k11 : PySem.W.keepIn K (.ref f11) = true)
    (a12 : PySem.W.nsIn K mainGlobals "own_slots" = some (some (.ref f12))) (l12 : K.lookup f12 = some ⟨oc12, od12, .func (PySem.W.fnOf "own_slots" "own_slots" (defArgs sSlots) (defBody sSlots) (defScope sSlots) .none kV12 dc12 pm12 an12 cd12 ct12), sl12⟩) (c12 : PySem.W.codeIn K cd12 "own_slots" = true) (k12 : PySem.W.keepIn K (.ref f12) = true)
    (a13 : PySem.W.nsIn K mainGlobals "moved" = some (some (.ref f13))) (l13 : K.lookup f13 = some ⟨oc13, od13, .func (PySem.W.fnOf "moved" "moved" (defArgs sMoved) (defBody sMoved) (defScope sMoved) .none kV13 dc13 pm13 an13 cd13 ct13), sl13⟩) (c13 : PySem.W.codeIn K cd13 "moved" = true) (k13 : PySem.W.keepIn K (.ref f13) = true)
    (a14 : PySem.W.nsIn K mainGlobals "own_group" = some (some (.ref f14))) (l14 : K.lookup f14 = some ⟨oc14, od14, .func (PySem.W.fnOf "own_group" "own_group" (defArgs sGrp) (defBody sGrp) (defScope sGrp) .none kV14 dc14 pm14 an14 cd14 ct14), sl14⟩) (c14 : PySem.W.codeIn K cd14 "own_group" = true) (k14 : PySem.W.keepIn K (.ref f14) = true)
    (a15 : PySem.W.nsIn K mainGlobals "slots" = some (some (.ref f15))) (l15 : K.lookup f15 = some ⟨oc15, od15, .func (PySem.W.fnOf "slots" "slots" (defArgs sSlotsP) (defBody sSlotsP) (defScope sSlotsP) .none kV15 dc15 pm15 an15 cd15 ct15), sl15⟩) (c15 : PySem.W.codeIn K cd15 "slots" = true) (k15 : PySem.W.keepIn K (.ref f15) = true)
    (a16 : PySem.W.nsIn K mainGlobals "group" = some (some (.ref f16))) (l16 : K.lookup f16 = some ⟨oc16, od16, .func (PySem.W.fnOf "group" "group" (defArgs sGrpP) (defBody sGrpP) (defScope sGrpP) .none kV16 dc16 pm16 an16 cd16 ct16), sl16⟩) (c16 : PySem.W.codeIn K cd16 "group" = true) (k16 : PySem.W.keepIn K (.ref f16) = true)
    (a17 : PySem.W.nsIn K mainGlobals "_law_start" = some (some (.ref f17))) (l17 : K.lookup f17 = some ⟨oc17, od17, .func (PySem.W.fnOf "_law_start" "_law_start" (defArgs sStart) (defBody sStart) (defScope sStart) .none kV17 dc17 pm17 an17 cd17 ct17), sl17⟩) (c17 : PySem.W.codeIn K cd17 "_law_start" = true) (k17 : PySem.W.keepIn K (.ref f17) = true)
    (a18 : PySem.W.nsIn K mainGlobals "_law_draw" = some (some (.ref f18))) (l18 : K.lookup f18 = some ⟨oc18, od18, .func (PySem.W.fnOf "_law_draw" "_law_draw" (defArgs sDraw) (defBody sDraw) (defScope sDraw) .none kV18 dc18 pm18 an18 cd18 ct18), sl18⟩) (c18 : PySem.W.codeIn K cd18 "_law_draw" = true) (k18 : PySem.W.keepIn K (.ref f18) = true)
    (a19 : PySem.W.nsIn K mainGlobals "_law_pick" = some (some (.ref f19))) (l19 : K.lookup f19 = some ⟨oc19, od19, .func (PySem.W.fnOf "_law_pick" "_law_pick" (defArgs sPick) (defBody sPick) (defScope sPick) .none kV19 dc19 pm19 an19 cd19 ct19), sl19⟩) (c19 : PySem.W.codeIn K cd19 "_law_pick" = true) (k19 : PySem.W.keepIn K (.ref f19) = true)
    (a20 : PySem.W.nsIn K mainGlobals "_law_names" = some (some (.ref f20))) (l20 : K.lookup f20 = some ⟨oc20, od20, .func (PySem.W.fnOf "_law_names" "_law_names" (defArgs sNames) (defBody sNames) (defScope sNames) .none kV20 dc20 pm20 an20 cd20 ct20), sl20⟩) (c20 : PySem.W.codeIn K cd20 "_law_names" = true) (k20 : PySem.W.keepIn K (.ref f20) = true)
    (a21 : PySem.W.nsIn K mainGlobals "_law_order" = some (some (.ref f21))) (l21 : K.lookup f21 = some ⟨oc21, od21, .func (PySem.W.fnOf "_law_order" "_law_order" (defArgs sLOrd) (defBody sLOrd) (defScope sLOrd) .none kV21 dc21 pm21 an21 cd21 ct21), sl21⟩) (c21 : PySem.W.codeIn K cd21 "_law_order" = true) (k21 : PySem.W.keepIn K (.ref f21) = true)
    (a22 : PySem.W.nsIn K mainGlobals "_law_gear" = some (some (.ref f22))) (l22 : K.lookup f22 = some ⟨oc22, od22, .func (PySem.W.fnOf "_law_gear" "_law_gear" (defArgs sLGear) (defBody sLGear) (defScope sLGear) .none kV22 dc22 pm22 an22 cd22 ct22), sl22⟩) (c22 : PySem.W.codeIn K cd22 "_law_gear" = true) (k22 : PySem.W.keepIn K (.ref f22) = true)
    (a23 : PySem.W.nsIn K mainGlobals "_law_back" = some (some (.ref f23))) (l23 : K.lookup f23 = some ⟨oc23, od23, .func (PySem.W.fnOf "_law_back" "_law_back" (defArgs sBack) (defBody sBack) (defScope sBack) .none kV23 dc23 pm23 an23 cd23 ct23), sl23⟩) (c23 : PySem.W.codeIn K cd23 "_law_back" = true) (k23 : PySem.W.keepIn K (.ref f23) = true)
    (a24 : PySem.W.nsIn K mainGlobals "_law_all" = some (some (.ref f24))) (l24 : K.lookup f24 = some ⟨oc24, od24, .func (PySem.W.fnOf "_law_all" "_law_all" (defArgs sAll) (defBody sAll) (defScope sAll) .none kV24 dc24 pm24 an24 cd24 ct24), sl24⟩) (c24 : PySem.W.codeIn K cd24 "_law_all" = true) (k24 : PySem.W.keepIn K (.ref f24) = true)
    (a25 : PySem.W.nsIn K mainGlobals "_law_things" = some (some (.ref f25))) (l25 : K.lookup f25 = some ⟨oc25, od25, .func (PySem.W.fnOf "_law_things" "_law_things" (defArgs sThings) (defBody sThings) (defScope sThings) .none kV25 dc25 pm25 an25 cd25 ct25), sl25⟩) (c25 : PySem.W.codeIn K cd25 "_law_things" = true) (k25 : PySem.W.keepIn K (.ref f25) = true)
    (a26 : PySem.W.nsIn K mainGlobals "_law_moved_right" = some (some (.ref f26))) (l26 : K.lookup f26 = some ⟨oc26, od26, .func (PySem.W.fnOf "_law_moved_right" "_law_moved_right" (defArgs sRight) (defBody sRight) (defScope sRight) .none kV26 dc26 pm26 an26 cd26 ct26), sl26⟩) (c26 : PySem.W.codeIn K cd26 "_law_moved_right" = true) (k26 : PySem.W.keepIn K (.ref f26) = true)
    (a27 : PySem.W.nsIn K mainGlobals "_law_after" = some (some (.ref f27))) (l27 : K.lookup f27 = some ⟨oc27, od27, .func (PySem.W.fnOf "_law_after" "_law_after" (defArgs sAfter) (defBody sAfter) (defScope sAfter) .none kV27 dc27 pm27 an27 cd27 ct27), sl27⟩) (c27 : PySem.W.codeIn K cd27 "_law_after" = true) (k27 : PySem.W.keepIn K (.ref f27) = true)
    (a28 : PySem.W.nsIn K mainGlobals "_law_closed" = some (some (.ref f28))) (l28 : K.lookup f28 = some ⟨oc28, od28, .func (PySem.W.fnOf "_law_closed" "_law_closed" (defArgs sClosed) (defBody sClosed) (defScope sClosed) .none kV28 dc28 pm28 an28 cd28 ct28), sl28⟩) (c28 : PySem.W.codeIn K cd28 "_law_closed" = true) (k28 : PySem.W.keepIn K (.ref f28) = true)
    (a29 : PySem.W.nsIn K mainGlobals "_law_with" = some (some (.ref f29))) (l29 : K.lookup f29 = some ⟨oc29, od29, .func (PySem.W.fnOf "_law_with" "_law_with" (defArgs sWith) (defBody sWith) (defScope sWith) .none kV29 dc29 pm29 an29 cd29 ct29), sl29⟩) (c29 : PySem.W.codeIn K cd29 "_law_with" = true) (k29 : PySem.W.keepIn K (.ref f29) = true)
    (a30 : PySem.W.nsIn K mainGlobals "_law_box_right" = some (some (.ref f30))) (l30 : K.lookup f30 = some ⟨oc30, od30, .func (PySem.W.fnOf "_law_box_right" "_law_box_right" (defArgs sBoxR) (defBody sBoxR) (defScope sBoxR) .none kV30 dc30 pm30 an30 cd30 ct30), sl30⟩) (c30 : PySem.W.codeIn K cd30 "_law_box_right" = true) (k30 : PySem.W.keepIn K (.ref f30) = true)
    (a31 : PySem.W.nsIn K mainGlobals "law" = some (some (.ref f31))) (l31 : K.lookup f31 = some ⟨oc31, od31, .func (PySem.W.fnOf "law" "law" (defArgs sLaw) (defBody sLaw) (defScope sLaw) .none kV31 dc31 pm31 an31 cd31 ct31), sl31⟩) (c31 : PySem.W.codeIn K cd31 "law" = true) (k31 : PySem.W.keepIn K (.ref f31) = true)
    (z_isi : PySem.W.nsIn K mainGlobals "isinstance" = some none)
    (z_int : PySem.W.nsIn K mainGlobals "int" = some none)
    (z_bool : PySem.W.nsIn K mainGlobals "bool" = some none)
    (z_str : PySem.W.nsIn K mainGlobals "str" = some none)
    (z_len : PySem.W.nsIn K mainGlobals "len" = some none)
    (z_all : PySem.W.nsIn K mainGlobals "all" = some none)
    (z_tuple : PySem.W.nsIn K mainGlobals "tuple" = some none)
    (z_zip : PySem.W.nsIn K mainGlobals "zip" = some none)
    (z_range : PySem.W.nsIn K mainGlobals "range" = some none)
    (z_sorted : PySem.W.nsIn K mainGlobals "sorted" = some none)
    (z_enum : PySem.W.nsIn K mainGlobals "enumerate" = some none)
    (z_set : PySem.W.nsIn K mainGlobals "set" = some none)
    (z_repr : PySem.W.nsIn K mainGlobals "repr" = some none)
    (z_list : PySem.W.nsIn K mainGlobals "list" = some none)
    (z_min : PySem.W.nsIn K mainGlobals "min" = some none)
    (gL : PySem.W.nsIn K mainGlobals "LETTERS" = some (some (.str zL tL))) (eL : zL = letters) (g1 : PySem.W.nsIn K mainGlobals "MOST_LETTERS" = some (some (.int 8 t1))) (g2 : PySem.W.nsIn K mainGlobals "MOST_SPACES" = some (some (.int 3 t2))) (g3 : PySem.W.nsIn K mainGlobals "MOST_BOXES" = some (some (.int 8 t3)))
    (g4 : PySem.W.nsIn K mainGlobals "MOST_SLOTS" = some (some (.int 4 t4))) (g5 : PySem.W.nsIn K mainGlobals "MOST_MOVES" = some (some (.int 3 t5))) (gS : PySem.W.nsIn K mainGlobals "SIDES" = some (some (.ref aS))) (lS : K.lookup aS = some ⟨.type "tuple", oS, .seq #[.str zd td, .str zu tu] nS, slS⟩) (ed : zd = "down") (eu : zu = "up") :
    ∃ fd : FuncData, (∀ (s : Shared) (v : Value), BindsTo s fd ⟨[v], []⟩ [("_law_script", v)]) ∧ ∀ base : Heap, K.In base → base.Ns mainGlobals mg → FnG l.prog w K mg base CX0 9 fa fd ["_law_script"] (spLaw K) := by
  have e := hfa.symm.trans (PySem.W.mg_of X G a31)
  cases e
  subst eL ed eu
  have T : Txt K mg := ⟨PySem.W.mg_none_of X G z_isi, PySem.W.mg_none_of X G z_int, PySem.W.mg_none_of X G z_bool, PySem.W.mg_none_of X G z_str, PySem.W.mg_none_of X G z_len, PySem.W.mg_none_of X G z_all, PySem.W.mg_none_of X G z_tuple, PySem.W.mg_none_of X G z_zip, PySem.W.mg_none_of X G z_range, PySem.W.mg_none_of X G z_sorted, PySem.W.mg_none_of X G z_enum, PySem.W.mg_none_of X G z_set, PySem.W.mg_none_of X G z_repr, PySem.W.mg_none_of X G z_list, PySem.W.mg_none_of X G z_min, ⟨_, PySem.W.mg_of X G gL⟩, ⟨_, PySem.W.mg_of X G g1⟩, ⟨_, PySem.W.mg_of X G g2⟩, ⟨_, PySem.W.mg_of X G g3⟩, ⟨_, PySem.W.mg_of X G g4⟩, ⟨_, PySem.W.mg_of X G g5⟩, ⟨aS, PySem.W.mg_of X G gS, fun H => .inr ⟨_, _, _, lS, rfl, rfl, (by show 2 ≤ sizeLine; decide), .cons ⟨_, rfl⟩ (.cons ⟨_, rfl⟩ .nil)⟩⟩⟩
  have F1 := fun_mk (st := sWhole) l1 c1 k1
  have DWhole : Df K mg "is_whole" sWhole ["thing", "least", "most"] f1 _ := ⟨F1, PySem.W.mg_of X G a1, F1.binds (ps := ["thing", "least", "most"]) fun _ _ _ _ _ _ us hl => match us, hl with | [_, _, _], _ => rfl⟩
  have F2 := fun_mk (st := sName) l2 c2 k2
  have DName : Df K mg "is_name" sName ["thing"] f2 _ := ⟨F2, PySem.W.mg_of X G a2, F2.binds (ps := ["thing"]) fun _ _ _ _ _ _ us hl => match us, hl with | [_], _ => rfl⟩
  have F3 := fun_mk (st := sTup) l3 c3 k3
  have DTup : Df K mg "own_tuple" sTup ["thing", "least", "most"] f3 _ := ⟨F3, PySem.W.mg_of X G a3, F3.binds (ps := ["thing", "least", "most"]) fun _ _ _ _ _ _ us hl => match us, hl with | [_, _, _], _ => rfl⟩
  have F4 := fun_mk (st := sRise) l4 c4 k4
  have DRise : Df K mg "own_rising" sRise ["names"] f4 _ := ⟨F4, PySem.W.mg_of X G a4, F4.binds (ps := ["names"]) fun _ _ _ _ _ _ us hl => match us, hl with | [_], _ => rfl⟩
  have F5 := fun_mk (st := sSlot) l5 c5 k5
  have DSlot : Df K mg "own_slot" sSlot ["spaces", "thing"] f5 _ := ⟨F5, PySem.W.mg_of X G a5, F5.binds (ps := ["spaces", "thing"]) fun _ _ _ _ _ _ us hl => match us, hl with | [_, _], _ => rfl⟩
  have F6 := fun_mk (st := sOrdr) l6 c6 k6
  have DOrdr : Df K mg "own_order" sOrdr ["held", "thing"] f6 _ := ⟨F6, PySem.W.mg_of X G a6, F6.binds (ps := ["held", "thing"]) fun _ _ _ _ _ _ us hl => match us, hl with | [_, _], _ => rfl⟩
  have F7 := fun_mk (st := sMove) l7 c7 k7
  have DMove : Df K mg "own_move" sMove ["held", "thing"] f7 _ := ⟨F7, PySem.W.mg_of X G a7, F7.binds (ps := ["held", "thing"]) fun _ _ _ _ _ _ us hl => match us, hl with | [_, _], _ => rfl⟩
  have F8 := fun_mk (st := sBox) l8 c8 k8
  have DBox : Df K mg "own_box" sBox ["spaces", "thing"] f8 _ := ⟨F8, PySem.W.mg_of X G a8, F8.binds (ps := ["spaces", "thing"]) fun _ _ _ _ _ _ us hl => match us, hl with | [_, _], _ => rfl⟩
  have F9 := fun_mk (st := sGear) l9 c9 k9
  have DGear : Df K mg "own_gear" sGear ["thing"] f9 _ := ⟨F9, PySem.W.mg_of X G a9, F9.binds (ps := ["thing"]) fun _ _ _ _ _ _ us hl => match us, hl with | [_], _ => rfl⟩
  have F10 := fun_mk (st := sNeed) l10 c10 k10
  have DNeed : Df K mg "need_gear" sNeed ["gear"] f10 _ := ⟨F10, PySem.W.mg_of X G a10, F10.binds (ps := ["gear"]) fun _ _ _ _ _ _ us hl => match us, hl with | [_], _ => rfl⟩
  have F11 := fun_mk (st := sBoxOf) l11 c11 k11
  have DBoxOf : Df K mg "own_box_of" sBoxOf ["gear", "box"] f11 _ := ⟨F11, PySem.W.mg_of X G a11, F11.binds (ps := ["gear", "box"]) fun _ _ _ _ _ _ us hl => match us, hl with | [_, _], _ => rfl⟩
  have F12 := fun_mk (st := sSlots) l12 c12 k12
  have DSlots : Df K mg "own_slots" sSlots ["gear", "box"] f12 _ := ⟨F12, PySem.W.mg_of X G a12, F12.binds (ps := ["gear", "box"]) fun _ _ _ _ _ _ us hl => match us, hl with | [_, _], _ => rfl⟩
  have F13 := fun_mk (st := sMoved) l13 c13 k13
  have DMoved : Df K mg "moved" sMoved ["row", "order"] f13 _ := ⟨F13, PySem.W.mg_of X G a13, F13.binds (ps := ["row", "order"]) fun _ _ _ _ _ _ us hl => match us, hl with | [_, _], _ => rfl⟩
  have F14 := fun_mk (st := sGrp) l14 c14 k14
  have DGrp : Df K mg "own_group" sGrp ["gear", "box"] f14 _ := ⟨F14, PySem.W.mg_of X G a14, F14.binds (ps := ["gear", "box"]) fun _ _ _ _ _ _ us hl => match us, hl with | [_, _], _ => rfl⟩
  have F15 := fun_mk (st := sSlotsP) l15 c15 k15
  have DSlotsP : Df K mg "slots" sSlotsP ["gear", "box"] f15 _ := ⟨F15, PySem.W.mg_of X G a15, F15.binds (ps := ["gear", "box"]) fun _ _ _ _ _ _ us hl => match us, hl with | [_, _], _ => rfl⟩
  have F16 := fun_mk (st := sGrpP) l16 c16 k16
  have DGrpP : Df K mg "group" sGrpP ["gear", "box"] f16 _ := ⟨F16, PySem.W.mg_of X G a16, F16.binds (ps := ["gear", "box"]) fun _ _ _ _ _ _ us hl => match us, hl with | [_, _], _ => rfl⟩
  have F17 := fun_mk (st := sStart) l17 c17 k17
  have DStart : Df K mg "_law_start" sStart ["_law_script"] f17 _ := ⟨F17, PySem.W.mg_of X G a17, F17.binds (ps := ["_law_script"]) fun _ _ _ _ _ _ us hl => match us, hl with | [_], _ => rfl⟩
  have F18 := fun_mk (st := sDraw) l18 c18 k18
  have DDraw : Df K mg "_law_draw" sDraw ["_law_d", "_law_many"] f18 _ := ⟨F18, PySem.W.mg_of X G a18, F18.binds (ps := ["_law_d", "_law_many"]) fun _ _ _ _ _ _ us hl => match us, hl with | [_, _], _ => rfl⟩
  have F19 := fun_mk (st := sPick) l19 c19 k19
  have DPick : Df K mg "_law_pick" sPick ["_law_d", "_law_some"] f19 _ := ⟨F19, PySem.W.mg_of X G a19, F19.binds (ps := ["_law_d", "_law_some"]) fun _ _ _ _ _ _ us hl => match us, hl with | [_, _], _ => rfl⟩
  have F20 := fun_mk (st := sNames) l20 c20 k20
  have DNames : Df K mg "_law_names" sNames ["_law_d", "_law_many"] f20 _ := ⟨F20, PySem.W.mg_of X G a20, F20.binds (ps := ["_law_d", "_law_many"]) fun _ _ _ _ _ _ us hl => match us, hl with | [_, _], _ => rfl⟩
  have F21 := fun_mk (st := sLOrd) l21 c21 k21
  have DLOrd : Df K mg "_law_order" sLOrd ["_law_d", "_law_held"] f21 _ := ⟨F21, PySem.W.mg_of X G a21, F21.binds (ps := ["_law_d", "_law_held"]) fun _ _ _ _ _ _ us hl => match us, hl with | [_, _], _ => rfl⟩
  have F22 := fun_mk (st := sLGear) l22 c22 k22
  have DLGear : Df K mg "_law_gear" sLGear ["_law_d"] f22 _ := ⟨F22, PySem.W.mg_of X G a22, F22.binds (ps := ["_law_d"]) fun _ _ _ _ _ _ us hl => match us, hl with | [_], _ => rfl⟩
  have F23 := fun_mk (st := sBack) l23 c23 k23
  have DBack : Df K mg "_law_back" sBack ["_law_path"] f23 _ := ⟨F23, PySem.W.mg_of X G a23, F23.binds (ps := ["_law_path"]) fun _ _ _ _ _ _ us hl => match us, hl with | [_], _ => rfl⟩
  have F24 := fun_mk (st := sAll) l24 c24 k24
  have DAll : Df K mg "_law_all" sAll ["_law_held"] f24 _ := ⟨F24, PySem.W.mg_of X G a24, F24.binds (ps := ["_law_held"]) fun _ _ _ _ _ _ us hl => match us, hl with | [_], _ => rfl⟩
  have F25 := fun_mk (st := sThings) l25 c25 k25
  have DThings : Df K mg "_law_things" sThings ["_law_d", "_law_many"] f25 _ := ⟨F25, PySem.W.mg_of X G a25, F25.binds (ps := ["_law_d", "_law_many"]) fun _ _ _ _ _ _ us hl => match us, hl with | [_, _], _ => rfl⟩
  have F26 := fun_mk (st := sRight) l26 c26 k26
  have DRight : Df K mg "_law_moved_right" sRight ["_law_d", "_law_held", "_law_own"] f26 _ := ⟨F26, PySem.W.mg_of X G a26, F26.binds (ps := ["_law_d", "_law_held", "_law_own"]) fun _ _ _ _ _ _ us hl => match us, hl with | [_, _, _], _ => rfl⟩
  have F27 := fun_mk (st := sAfter) l27 c27 k27
  have DAfter : Df K mg "_law_after" sAfter ["_law_path", "_law_step"] f27 _ := ⟨F27, PySem.W.mg_of X G a27, F27.binds (ps := ["_law_path", "_law_step"]) fun _ _ _ _ _ _ us hl => match us, hl with | [_, _], _ => rfl⟩
  have F28 := fun_mk (st := sClosed) l28 c28 k28
  have DClosed : Df K mg "_law_closed" sClosed ["_law_d", "_law_held", "_law_own"] f28 _ := ⟨F28, PySem.W.mg_of X G a28, F28.binds (ps := ["_law_d", "_law_held", "_law_own"]) fun _ _ _ _ _ _ us hl => match us, hl with | [_, _, _], _ => rfl⟩
  have F29 := fun_mk (st := sWith) l29 c29 k29
  have DWith : Df K mg "_law_with" sWith ["_law_gear_so", "_law_at", "_law_moves"] f29 _ := ⟨F29, PySem.W.mg_of X G a29, F29.binds (ps := ["_law_gear_so", "_law_at", "_law_moves"]) fun _ _ _ _ _ _ us hl => match us, hl with | [_, _, _], _ => rfl⟩
  have F30 := fun_mk (st := sBoxR) l30 c30 k30
  have DBoxR : Df K mg "_law_box_right" sBoxR ["_law_d", "_law_gear_so", "_law_at"] f30 _ := ⟨F30, PySem.W.mg_of X G a30, F30.binds (ps := ["_law_d", "_law_gear_so", "_law_at"]) fun _ _ _ _ _ _ us hl => match us, hl with | [_, _, _], _ => rfl⟩
  have GD : GearDs K mg f3 f1 f6 f7 f5 f2 f8 f4 f9 _ _ _ _ _ _ _ _ _ := ⟨T, DTup, DWhole, DOrdr, DMove, DSlot, DName, DBox, DRise, DGear⟩
  refine ⟨PySem.W.fnOf "law" "law" (defArgs sLaw) (defBody sLaw) (defScope sLaw) .none kV31 dc31 pm31 an31 cd31 ct31, fun s v => .of_eq rfl, fun base _ _ => ?_⟩
  have GG : FnOk l.prog w K mg base CX0 7 _ _ ["gear", "box"] (spGrp K) := ok_grpP GD DNeed DBoxOf DGrp DMoved DGrpP
  have GS : FnOk l.prog w K mg base CX0 7 _ _ ["gear", "box"] (spSlotsP K) := ok_slotsP GD DNeed DBoxOf DSlots DSlotsP
  have GC : FnOk l.prog w K mg base CX0 3 _ _ _ (spClosed K) := ok_closed T DDraw DPick DBack DAfter DAll DClosed
  have GR : FnG l.prog w K mg base CX0 3 _ _ _ (spRight K) := ok_right T DDraw DPick DBack DThings DMoved (fun s ws hl => .of_eq (match ws, hl with | [_, _], _ => rfl)) DRight
  have GB : FnOk l.prog w K mg base CX0 1 _ _ _ (spBack K) := ok_back T DBack
  have GP : FnOk l.prog w K mg base CX0 2 _ _ _ (spPk K) := ok_pick T DDraw DPick
  have GW : FnOk l.prog w K mg base CX0 1 _ _ _ (spWith K) := ok_with T DWith
  have GX : FnG l.prog w K mg base CX0 8 _ _ _ (spBoxR K) := ok_boxR T GG DGrpP GS DSlotsP GC DClosed GR DRight GB DBack GP DPick GW DWith DBoxR
  have GL : FnOk l.prog w K mg base CX0 4 _ _ _ (spLGear K) := ok_lgear T DDraw DPick DLOrd DNames DLGear
  have GT : FnOk l.prog w K mg base CX0 1 _ _ _ (spStart K) := ok_start T DStart
  exact ok_law T GT DStart GL DLGear GX DBoxR (fun_mk (st := sLaw) l31 c31 k31)
theorem walk {l : PySem.W.OpenLaw} {q : Program} {loose : List Str} {XP : (Str → Option Value) → Heap → Prop} {YP : World → Heap → Prop} {d : DefRec} {K : Params → PySem.W.Frag} (hn : l.most = some 63) (hdf : d.params.defaults = [])
    (hY : ∀ (w : World) (h : Heap), YP w h → (K w.params).In h)
    (F : ∀ (w : World) (mg : Str → Option Value) (fa : Addr) (h : Heap), (K w.params).In h → h.Ns mainGlobals mg → mg d.name = some (.ref fa) →
      ∃ fd : FuncData, (∀ (s : Shared) (u : Value), BindsTo s fd ⟨[u], []⟩ [("_law_script", u)]) ∧ ∀ base : Heap, (K w.params).In base → base.Ns mainGlobals mg → FnG l.prog w (K w.params) mg base CX0 9 fa fd ["_law_script"] (spLaw (K w.params))) :
    PySem.W.WalkO q loose XP YP l.row.toRowW d [] (fun f vs => PySem.call f vs) :=
  walk_ofG (n := 63) (k := 9) (x := "_law_script") (CX := fun _ => CX0) (sp := fun w => spLaw (K w.params)) hn (by decide) hdf ⟨rfl, by decide, by decide⟩ hY F (fun _ _ a ns hl _ hS => ⟨a, ns, rfl, hS, hl, fun _ => rfl⟩) fun _ _ _ _ _ z => z
end Kf
end

set_option Elab.async false
set_option linter.all false
open PySem PySem.W PyProof.Rows in
set_option maxRecDepth 100000 in
set_option maxHeartbeats 0 in
theorem PySem.Challenge.cw_slotsure_k05_whole_groups_hang_together_holds : PySem.Challenge.rw_slotsure_k05_whole_groups_hang_together.Holds := by
  w_on; o_law; k_head; (case hw => w_witness2)
  k_fill
  refine Kf.walk (l := PySem.Challenge.rw_slotsure_k05_whole_groups_hang_together) rfl rfl (fun w h Y => PySem.W.kIn_of Y) ?F
  case F =>
    intro w mg fa h KX G hmg
    refine' Kf.all_mk KX G hmg ?a1 ?l1 ?c1 ?k1 ?a2 ?l2 ?c2 ?k2 ?a3 ?l3 ?c3 ?k3 ?a4 ?l4 ?c4 ?k4 ?a5 ?l5 ?c5 ?k5 ?a6 ?l6 ?c6 ?k6 ?a7 ?l7 ?c7 ?k7 ?a8 ?l8 ?c8 ?k8 ?a9 ?l9 ?c9 ?k9 ?a10 ?l10 ?c10 ?k10 ?a11 ?l11 ?c11 ?k11 ?a12 ?l12 ?c12 ?k12 ?a13 ?l13 ?c13 ?k13 ?a14 ?l14 ?c14 ?k14 ?a15 ?l15 ?c15 ?k15 ?a16 ?l16 ?c16 ?k16 ?a17 ?l17 ?c17 ?k17 ?a18 ?l18 ?c18 ?k18 ?a19 ?l19 ?c19 ?k19 ?a20 ?l20 ?c20 ?k20 ?a21 ?l21 ?c21 ?k21 ?a22 ?l22 ?c22 ?k22 ?a23 ?l23 ?c23 ?k23 ?a24 ?l24 ?c24 ?k24 ?a25 ?l25 ?c25 ?k25 ?a26 ?l26 ?c26 ?k26 ?a27 ?l27 ?c27 ?k27 ?a28 ?l28 ?c28 ?k28 ?a29 ?l29 ?c29 ?k29 ?a30 ?l30 ?c30 ?k30 ?a31 ?l31 ?c31 ?k31 ?z_isi ?z_int ?z_bool ?z_str ?z_len ?z_all ?z_tuple ?z_zip ?z_range ?z_sorted ?z_enum ?z_set ?z_repr ?z_list ?z_min ?gL ?eL ?g1 ?g2 ?g3 ?g4 ?g5 ?gS ?lS ?ed ?eu
    (case a1 => k_is)
    (case l1 => k_is)
    (case c1 => k_is)
    (case k1 => k_is)
    (case a2 => k_is)
    (case l2 => k_is)
    (case c2 => k_is)
    (case k2 => k_is)
    (case a3 => k_is)
    (case l3 => k_is)
    (case c3 => k_is)
    (case k3 => k_is)
    (case a4 => k_is)
    (case l4 => k_is)
    (case c4 => k_is)
    (case k4 => k_is)
    (case a5 => k_is)
    (case l5 => k_is)
    (case c5 => k_is)
    (case k5 => k_is)
    (case a6 => k_is)
    (case l6 => k_is)
    (case c6 => k_is)
    (case k6 => k_is)
    (case a7 => k_is)
    (case l7 => k_is)
    (case c7 => k_is)
    (case k7 => k_is)
    (case a8 => k_is)
    (case l8 => k_is)
    (case c8 => k_is)
    (case k8 => k_is)
    (case a9 => k_is)
    (case l9 => k_is)
    (case c9 => k_is)
    (case k9 => k_is)
    (case a10 => k_is)
    (case l10 => k_is)
    (case c10 => k_is)
    (case k10 => k_is)
    (case a11 => k_is)
    (case l11 => k_is)
    (case c11 => k_is)
    (case k11 => k_is)
    (case a12 => k_is)
    (case l12 => k_is)
    (case c12 => k_is)
    (case k12 => k_is)
    (case a13 => k_is)
    (case l13 => k_is)
    (case c13 => k_is)
    (case k13 => k_is)
    (case a14 => k_is)
    (case l14 => k_is)
    (case c14 => k_is)
    (case k14 => k_is)
    (case a15 => k_is)
    (case l15 => k_is)
    (case c15 => k_is)
    (case k15 => k_is)
    (case a16 => k_is)
    (case l16 => k_is)
    (case c16 => k_is)
    (case k16 => k_is)
    (case a17 => k_is)
    (case l17 => k_is)
    (case c17 => k_is)
    (case k17 => k_is)
    (case a18 => k_is)
    (case l18 => k_is)
    (case c18 => k_is)
    (case k18 => k_is)
    (case a19 => k_is)
    (case l19 => k_is)
    (case c19 => k_is)
    (case k19 => k_is)
    (case a20 => k_is)
    (case l20 => k_is)
    (case c20 => k_is)
    (case k20 => k_is)
    (case a21 => k_is)
    (case l21 => k_is)
    (case c21 => k_is)
    (case k21 => k_is)
    (case a22 => k_is)
    (case l22 => k_is)
    (case c22 => k_is)
    (case k22 => k_is)
    (case a23 => k_is)
    (case l23 => k_is)
    (case c23 => k_is)
    (case k23 => k_is)
    (case a24 => k_is)
    (case l24 => k_is)
    (case c24 => k_is)
    (case k24 => k_is)
    (case a25 => k_is)
    (case l25 => k_is)
    (case c25 => k_is)
    (case k25 => k_is)
    (case a26 => k_is)
    (case l26 => k_is)
    (case c26 => k_is)
    (case k26 => k_is)
    (case a27 => k_is)
    (case l27 => k_is)
    (case c27 => k_is)
    (case k27 => k_is)
    (case a28 => k_is)
    (case l28 => k_is)
    (case c28 => k_is)
    (case k28 => k_is)
    (case a29 => k_is)
    (case l29 => k_is)
    (case c29 => k_is)
    (case k29 => k_is)
    (case a30 => k_is)
    (case l30 => k_is)
    (case c30 => k_is)
    (case k30 => k_is)
    (case a31 => k_is)
    (case l31 => k_is)
    (case c31 => k_is)
    (case k31 => k_is)
    (case z_isi => k_is)
    (case z_int => k_is)
    (case z_bool => k_is)
    (case z_str => k_is)
    (case z_len => k_is)
    (case z_all => k_is)
    (case z_tuple => k_is)
    (case z_zip => k_is)
    (case z_range => k_is)
    (case z_sorted => k_is)
    (case z_enum => k_is)
    (case z_set => k_is)
    (case z_repr => k_is)
    (case z_list => k_is)
    (case z_min => k_is)
    (case gL => k_is)
    (case eL => first | rfl | decide +kernel)
    (case g1 => k_is)
    (case g2 => k_is)
    (case g3 => k_is)
    (case g4 => k_is)
    (case g5 => k_is)
    (case gS => k_is)
    (case lS => k_is)
    (case ed => first | rfl | decide +kernel)
    (case eu => first | rfl | decide +kernel)
#print axioms PySem.Challenge.cw_slotsure_k05_whole_groups_hang_together_holds
