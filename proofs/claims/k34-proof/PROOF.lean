import PyProof.Rows.All
import Wide.All
import OpenK.AllK
import Wide.FinOn
import HandS.ForMost
import HandS.Deep
import HandS.Strs
import HandS.SetFor
import HandS.TupSets
import KE.KDictKeyed
import KE.SortData
import HandS.TupLen
import HandS.FltList
import HandS.IsInst
import HandS.Exc
import HandS.TryOnly
import HandS.ExcOwn
import HandS.WordsExc
import PySem.Challenge.RW_fixworlds_k34_whole_likeness_games
set_option linter.all false
set_option Elab.async false
set_option maxRecDepth 100000
/-! Plain mathematics of law k34: lists without doubles, numbering, refinement of classes. No program in sight. -/
namespace K34

section
variable {α β : Type} [DecidableEq α] [DecidableEq β]

def put (acc : List α) (x : α) : List α := if x ∈ acc then acc else acc ++ [x]
def dd (xs : List α) : List α := xs.foldl put []
theorem put_in {acc : List α} {x : α} (h : x ∈ acc) : put acc x = acc := if_pos h
theorem put_out {acc : List α} {x : α} (h : x ∉ acc) : put acc x = acc ++ [x] := if_neg h
theorem mem_put {acc : List α} {x y : α} : y ∈ put acc x ↔ y ∈ acc ∨ y = x := by
  by_cases h : x ∈ acc
  · rw [put_in h]
    exact ⟨.inl, fun z => z.elim id fun e => e ▸ h⟩
  · rw [put_out h]
    simp
theorem dd_snoc (xs : List α) (x : α) : dd (xs ++ [x]) = put (dd xs) x := by
  unfold dd
  rw [List.foldl_append]
  rfl
theorem dd_nil : dd ([] : List α) = [] := rfl
/-- induction from the right -/
theorem snoc_ind {γ : Type} {P : List γ → Prop} (h0 : P []) (h1 : ∀ xs x, P xs → P (xs ++ [x])) : ∀ xs, P xs := by
  intro xs
  have key : ∀ n (xs : List γ), xs.length = n → P xs := by
    intro n
    induction n with
    | zero =>
      intro xs h
      rw [List.length_eq_zero_iff.mp h]
      exact h0
    | succ n ih =>
      intro xs h
      have hne : xs ≠ [] := fun e => by rw [e] at h; simp at h
      rw [← List.dropLast_concat_getLast hne]
      exact h1 _ _ (ih _ (by rw [List.length_dropLast, h]; rfl))
  exact key _ xs rfl
theorem mem_dd {xs : List α} {y : α} : y ∈ dd xs ↔ y ∈ xs := by
  induction xs using snoc_ind with
  | h0 => exact Iff.rfl
  | h1 xs x ih =>
    rw [dd_snoc, mem_put, ih]
    simp
theorem dd_nodup (xs : List α) : (dd xs).Nodup := by
  induction xs using snoc_ind with
  | h0 => exact List.nodup_nil
  | h1 xs x ih =>
    rw [dd_snoc]
    by_cases h : x ∈ dd xs
    · rw [put_in h]
      exact ih
    · rw [put_out h]
      refine List.nodup_append.mpr ⟨ih, List.nodup_cons.mpr ⟨List.not_mem_nil, List.nodup_nil⟩, fun a ha b hb e => ?_⟩
      rw [List.mem_singleton.mp hb] at e
      exact h (e ▸ ha)
theorem put_len {acc : List α} {x : α} : (put acc x).length = acc.length + (if x ∈ acc then 0 else 1) := by
  by_cases h : x ∈ acc
  · rw [put_in h, if_pos h]
    rfl
  · rw [put_out h, if_neg h, List.length_append]
    rfl
theorem dd_len (xs : List α) : (dd xs).length ≤ xs.length := by
  induction xs using snoc_ind with
  | h0 => exact Nat.le_refl _
  | h1 xs x ih =>
    rw [dd_snoc, put_len, List.length_append, List.length_singleton]
    split <;> omega

/-- the places in o of the members of xs -/
def ixs (o xs : List α) : List Int := xs.map fun x => ((o.idxOf x : Nat) : Int)
theorem ixs_len (o xs : List α) : (ixs o xs).length = xs.length := List.length_map _
theorem ixs_get {o xs : List α} {i : Nat} {x : α} (h : xs[i]? = some x) : (ixs o xs)[i]? = some ((o.idxOf x : Nat) : Int) := by
  unfold ixs
  rw [List.getElem?_map, h]
  rfl
theorem idx_inj {o : List α} {x y : α} (hx : x ∈ o) (hy : y ∈ o) (e : o.idxOf x = o.idxOf y) : x = y := by
  have h1 := List.getElem_idxOf (List.idxOf_lt_length_iff.mpr hx)
  have h2 := List.getElem_idxOf (List.idxOf_lt_length_iff.mpr hy)
  rw [← h1, ← h2]
  congr 1
/-- two lists tell the same places apart -/
def Same2 (xs : List α) (ys : List β) : Prop := xs.length = ys.length ∧ ∀ i j : Nat, i < xs.length → j < xs.length → (xs[i]? = xs[j]? ↔ ys[i]? = ys[j]?)
theorem ixs_same {o xs : List α} (h : ∀ x ∈ xs, x ∈ o) : Same2 xs (ixs o xs) := by
  refine ⟨(ixs_len o xs).symm, fun i j hi hj => ?_⟩
  have ei := List.getElem?_eq_getElem hi
  have ej := List.getElem?_eq_getElem hj
  rw [ixs_get ei, ixs_get ej, ei, ej]
  constructor
  · intro e
    rw [Option.some.inj e]
  · intro e
    have e' : o.idxOf xs[i] = o.idxOf xs[j] := by
      have q := Option.some.inj e
      omega
    rw [idx_inj (h _ (List.getElem_mem hi)) (h _ (List.getElem_mem hj)) e']
def nums (xs : List α) : List Int := ixs (dd xs) xs
theorem nums_len (xs : List α) : (nums xs).length = xs.length := ixs_len _ _
theorem nums_same (xs : List α) : Same2 xs (nums xs) := ixs_same fun _ h => mem_dd.mpr h

theorem nums_snoc (xs : List α) (x : α) : nums (xs ++ [x]) = nums xs ++ [(((put (dd xs) x).idxOf x : Nat) : Int)] := by
  unfold nums ixs
  rw [dd_snoc, List.map_append, List.map_singleton]
  congr 1
  refine List.map_congr_left fun y hy => ?_
  have hm : y ∈ dd xs := mem_dd.mpr hy
  by_cases h : x ∈ dd xs
  · rw [put_in h]
  · rw [put_out h, List.idxOf_append, if_pos hm]
theorem idx_new {acc : List α} {x : α} (h : x ∉ acc) : (put acc x).idxOf x = acc.length := by
  rw [put_out h, List.idxOf_append, if_neg h]
  simp
theorem Same2.init {xs : List α} {ys : List β} {x : α} {y : β} (h : Same2 (xs ++ [x]) (ys ++ [y])) : Same2 xs ys := by
  have hl : xs.length = ys.length := by
    have q := h.1
    rw [List.length_append, List.length_append] at q
    simp only [List.length_singleton] at q
    omega
  refine ⟨hl, fun i j hi hj => ?_⟩
  have q := h.2 i j (by rw [List.length_append]; omega) (by rw [List.length_append]; omega)
  rw [List.getElem?_append_left hi, List.getElem?_append_left hj, List.getElem?_append_left (by omega), List.getElem?_append_left (by omega)] at q
  exact q
/-- the last one was met before just where its partner was -/
theorem snoc_iff {xs : List α} {ys : List β} {x : α} {y : β} (hl : xs.length = ys.length) (h : ∀ i, i < xs.length → (ys[i]? = some y → xs[i]? = some x)) (hy : y ∈ ys) : x ∈ xs := by
  obtain ⟨i, hi, e⟩ := List.getElem_of_mem hy
  have q := h i (by omega) (by rw [List.getElem?_eq_getElem hi, e])
  exact List.mem_of_getElem? q
theorem snoc_last {xs : List α} {x : α} {i : Nat} (hi : i < xs.length) : ((xs ++ [x])[i]? = (xs ++ [x])[xs.length]?) ↔ xs[i]? = some x := by
  rw [List.getElem?_append_left hi, List.getElem?_append_right (Nat.le_refl _), Nat.sub_self]
  rfl
theorem Same2.last {xs : List α} {ys : List β} {x : α} {y : β} (h : Same2 (xs ++ [x]) (ys ++ [y])) {i : Nat} (hi : i < xs.length) : xs[i]? = some x ↔ ys[i]? = some y := by
  have hl := h.init.1
  have q := h.2 i xs.length (by rw [List.length_append]; omega) (by rw [List.length_append, List.length_singleton]; omega)
  rw [snoc_last hi] at q
  rw [q]
  have e := snoc_last (x := y) (xs := ys) (i := i) (by omega)
  rw [← hl] at e
  exact e
/-- the numbers hang on what is told apart alone -/
theorem nums_eq {xs : List α} : ∀ {ys : List β}, Same2 xs ys → nums xs = nums ys ∧ (dd xs).length = (dd ys).length := by
  induction xs using snoc_ind with
  | h0 =>
    intro ys h
    have e : ys = [] := List.length_eq_zero_iff.mp h.1.symm
    rw [e]
    exact ⟨rfl, rfl⟩
  | h1 xs x ih =>
    intro ys0 h0
    have hne : ys0 ≠ [] := fun e => by
      have q := h0.1
      rw [e, List.length_append] at q
      simp at q
    obtain ⟨ys, y, rfl⟩ : ∃ ys y, ys0 = ys ++ [y] := ⟨_, _, (List.dropLast_concat_getLast hne).symm⟩
    obtain ⟨e1, e2⟩ := ih h0.init
    have hl := h0.init.1
    have m1 : x ∈ xs ↔ y ∈ ys := ⟨snoc_iff hl.symm fun i hi q => (h0.last (by omega)).mp q, snoc_iff hl fun i hi q => (h0.last hi).mpr q⟩
    have m2 : x ∈ dd xs ↔ y ∈ dd ys := by rw [mem_dd, mem_dd]; exact m1
    rw [nums_snoc, nums_snoc, e1, dd_snoc, dd_snoc]
    by_cases hx : x ∈ dd xs
    · have hy := m2.mp hx
      refine ⟨?_, by rw [put_in hx, put_in hy, e2]⟩
      obtain ⟨i, hi, ex⟩ := List.getElem_of_mem (mem_dd.mp hx)
      have hxi : xs[i]? = some x := by rw [List.getElem?_eq_getElem hi, ex]
      have hyi : ys[i]? = some y := (h0.last hi).mp hxi
      rw [put_in hx, put_in hy]
      have q1 := ixs_get (o := dd xs) hxi
      have q2 := ixs_get (o := dd ys) hyi
      have q3 : (nums xs)[i]? = (nums ys)[i]? := by rw [e1]
      unfold nums at q3
      rw [q1, q2] at q3
      rw [Option.some.inj q3]
    · have hy : y ∉ dd ys := fun q => hx (m2.mpr q)
      refine ⟨?_, by rw [put_len, put_len, e2, if_neg hx, if_neg hy]⟩
      rw [idx_new hx, idx_new hy, e2]
theorem Same2.symm {xs : List α} {ys : List β} (h : Same2 xs ys) : Same2 ys xs := ⟨h.1.symm, fun i j hi hj => (h.2 i j (h.1 ▸ hi) (h.1 ▸ hj)).symm⟩
theorem nums_nums (xs : List α) : nums (nums xs) = nums xs := (nums_eq (nums_same xs)).1.symm
theorem nums_dd (xs : List α) : (dd (nums xs)).length = (dd xs).length := (nums_eq (nums_same xs)).2.symm

/-- what tells more apart has more members; with as many it tells the same apart -/
theorem finer_len {xs : List α} : ∀ {ys : List β}, xs.length = ys.length → (∀ i j : Nat, i < xs.length → j < xs.length → ys[i]? = ys[j]? → xs[i]? = xs[j]?) →
    (dd xs).length ≤ (dd ys).length ∧ ((dd xs).length = (dd ys).length → Same2 xs ys) := by
  induction xs using snoc_ind with
  | h0 =>
    intro ys hl _
    have e : ys = [] := List.length_eq_zero_iff.mp hl.symm
    subst e
    exact ⟨Nat.le_refl _, fun _ => ⟨rfl, fun i j hi => absurd hi (Nat.not_lt_zero _)⟩⟩
  | h1 xs x ih =>
    intro ys0 hl0 hf
    have hne : ys0 ≠ [] := fun e => by
      rw [e, List.length_append] at hl0
      simp at hl0
    obtain ⟨ys, y, rfl⟩ : ∃ ys y, ys0 = ys ++ [y] := ⟨_, _, (List.dropLast_concat_getLast hne).symm⟩
    have hl : xs.length = ys.length := by
      rw [List.length_append, List.length_append] at hl0
      simp only [List.length_singleton] at hl0
      omega
    have hn : (xs ++ [x]).length = xs.length + 1 := by rw [List.length_append, List.length_singleton]
    have f1 : ∀ i j : Nat, i < xs.length → j < xs.length → ys[i]? = ys[j]? → xs[i]? = xs[j]? := fun i j hi hj e => by
      have q := hf i j (by omega) (by omega)
      rw [List.getElem?_append_left hi, List.getElem?_append_left hj, List.getElem?_append_left (by omega), List.getElem?_append_left (by omega)] at q
      exact q e
    have f2 : ∀ i, i < xs.length → ys[i]? = some y → xs[i]? = some x := fun i hi e => by
      have q := hf i xs.length (by omega) (by omega)
      have e2 := snoc_last (x := y) (xs := ys) (i := i) (by omega)
      rw [← hl] at e2
      exact (snoc_last hi).mp (q (e2.mpr e))
    obtain ⟨a1, a2⟩ := ih hl f1
    have m : y ∈ dd ys → x ∈ dd xs := fun q => mem_dd.mpr (snoc_iff hl f2 (mem_dd.mp q))
    rw [dd_snoc, dd_snoc, put_len, put_len]
    refine ⟨?_, fun e => ⟨hl0, fun i j hi hj => ⟨fun q => ?_, hf i j hi hj⟩⟩⟩
    · by_cases hy : y ∈ dd ys
      · rw [if_pos hy, if_pos (m hy)]
        omega
      · rw [if_neg hy]
        split <;> omega
    · have le : (if x ∈ dd xs then 0 else 1) ≤ (if y ∈ dd ys then 0 else 1) := by
        by_cases hy : y ∈ dd ys
        · rw [if_pos hy, if_pos (m hy)]
          exact Nat.le_refl _
        · rw [if_neg hy]
          split <;> omega
      have sm := a2 (by omega)
      have inc : (if x ∈ dd xs then 0 else 1) = (if y ∈ dd ys then 0 else 1) := by omega
      have mm : x ∈ dd xs → y ∈ dd ys := fun hx => by
        rcases Classical.em (y ∈ dd ys) with c | c
        · exact c
        · rw [if_pos hx, if_neg c] at inc
          exact absurd inc (by decide)
      -- the last one stands where its partner stands
      have last : ∀ i, i < xs.length → xs[i]? = some x → ys[i]? = some y := fun i hi hxi => by
        have hx : x ∈ dd xs := mem_dd.mpr (List.mem_of_getElem? hxi)
        obtain ⟨k, hk, ey⟩ := List.getElem_of_mem (mem_dd.mp (mm hx))
        have hyk : ys[k]? = some y := by rw [List.getElem?_eq_getElem hk, ey]
        have hxk := f2 k (by omega) hyk
        rw [← hyk]
        exact (sm.2 i k hi (by omega)).mp (hxi.trans hxk.symm)
      rw [hn] at hi hj
      rcases Nat.lt_or_ge i xs.length with ci | ci <;> rcases Nat.lt_or_ge j xs.length with cj | cj
      · rw [List.getElem?_append_left ci, List.getElem?_append_left cj] at q
        rw [List.getElem?_append_left (by omega), List.getElem?_append_left (by omega)]
        exact (sm.2 i j ci cj).mp q
      · have ej : j = xs.length := by omega
        subst ej
        have e2 := snoc_last (x := y) (xs := ys) (i := i) (by omega)
        rw [← hl] at e2
        exact e2.mpr (last i ci ((snoc_last ci).mp q))
      · have ei : i = xs.length := by omega
        subst ei
        have e2 := snoc_last (x := y) (xs := ys) (i := j) (by omega)
        rw [← hl] at e2
        exact (e2.mpr (last j cj ((snoc_last cj).mp q.symm))).symm
      · have ei : i = j := by omega
        rw [ei]
end

/-! ### worlds, likeness in k steps -/
structure Wo where
  n : Nat
  fact : Nat → List Int
  fo : Nat → Nat → List Nat
  inn : ∀ s l e, e ∈ fo s l → e < n

def E (W : Wo) : Nat → Nat → Nat → Prop
  | 0, s, t => W.fact s = W.fact t
  | k + 1, s, t => E W k s t ∧ ∀ l, (∀ u ∈ W.fo s l, ∃ v ∈ W.fo t l, E W k u v) ∧ (∀ v ∈ W.fo t l, ∃ u ∈ W.fo s l, E W k u v)
section
variable {W : Wo}
theorem E.refl : ∀ (k s : Nat), E W k s s
  | 0, _ => rfl
  | k + 1, s => ⟨E.refl k s, fun _ => ⟨fun u hu => ⟨u, hu, E.refl k u⟩, fun u hu => ⟨u, hu, E.refl k u⟩⟩⟩
theorem E.symm : ∀ {k s t : Nat}, E W k s t → E W k t s
  | 0, _, _, h => Eq.symm h
  | k + 1, s, t, h => ⟨E.symm h.1, fun l => ⟨fun u hu => let ⟨v, hv, q⟩ := (h.2 l).2 u hu; ⟨v, hv, E.symm q⟩, fun u hu => let ⟨v, hv, q⟩ := (h.2 l).1 u hu; ⟨v, hv, E.symm q⟩⟩⟩
theorem E.trans : ∀ {k s t u : Nat}, E W k s t → E W k t u → E W k s u
  | 0, _, _, _, h, g => Eq.trans h g
  | k + 1, s, t, u, h, g => ⟨E.trans h.1 g.1, fun l => ⟨fun a ha => by
      obtain ⟨b, hb, q⟩ := (h.2 l).1 a ha
      obtain ⟨c, hc, q'⟩ := (g.2 l).1 b hb
      exact ⟨c, hc, E.trans q q'⟩, fun c hc => by
      obtain ⟨b, hb, q⟩ := (g.2 l).2 c hc
      obtain ⟨a, ha, q'⟩ := (h.2 l).2 b hb
      exact ⟨a, ha, E.trans q' q⟩⟩⟩
theorem E.le {s t : Nat} {k : Nat} : ∀ {m : Nat}, k ≤ m → E W m s t → E W k s t := by
  intro m h
  induction h with
  | refl => exact id
  | step _ ih => exact fun q => ih q.1
/-- it stays -/
def Stay (W : Wo) (r : Nat) : Prop := ∀ s t, s < W.n → t < W.n → E W r s t → E W (r + 1) s t
theorem Stay.next {r : Nat} (h : Stay W r) : Stay W (r + 1) := fun s t _ _ q => ⟨q, fun l => ⟨fun u hu => by
    obtain ⟨v, hv, e⟩ := (q.2 l).1 u hu
    exact ⟨v, hv, h u v (W.inn _ _ _ hu) (W.inn _ _ _ hv) e⟩, fun v hv => by
    obtain ⟨u, hu, e⟩ := (q.2 l).2 v hv
    exact ⟨u, hu, h u v (W.inn _ _ _ hu) (W.inn _ _ _ hv) e⟩⟩⟩
theorem Stay.iff {r : Nat} (h : Stay W r) {m : Nat} (hm : r ≤ m) {s t : Nat} (hs : s < W.n) (ht : t < W.n) : E W m s t ↔ E W r s t := by
  refine ⟨E.le hm, ?_⟩
  have key : Stay W m ∧ (E W r s t → E W m s t) := by
    induction hm with
    | refl => exact ⟨h, id⟩
    | step _ ih => exact ⟨ih.1.next, fun q => ih.1 s t hs ht (ih.2 q)⟩
  exact key.2

/-- a list of classes that tells apart what k steps tell apart -/
def Fa {β : Type} (W : Wo) (c : List β) (k : Nat) : Prop := c.length = W.n ∧ ∀ s t : Nat, s < W.n → t < W.n → (c[s]? = c[t]? ↔ E W k s t)
theorem Fa.of_same {α β : Type} [DecidableEq α] [DecidableEq β] {xs : List α} {ys : List β} {k : Nat} (h : Fa W xs k) (q : Same2 xs ys) : Fa W ys k :=
  ⟨q.1.symm.trans h.1, fun s t hs ht => (q.2 s t (by rw [h.1]; exact hs) (by rw [h.1]; exact ht)).symm.trans (h.2 s t hs ht)⟩
theorem Fa.same {α β : Type} [DecidableEq α] [DecidableEq β] {xs : List α} {ys : List β} {k : Nat} (h : Fa W xs k) (q : Fa W ys k) : Same2 xs ys :=
  ⟨h.1.trans q.1.symm, fun s t hs ht => (h.2 s t (h.1 ▸ hs) (h.1 ▸ ht)).trans (q.2 s t (h.1 ▸ hs) (h.1 ▸ ht)).symm⟩
theorem Fa.nums {α : Type} [DecidableEq α] {xs : List α} {k : Nat} (h : Fa W xs k) : Fa W (nums xs) k := h.of_same (nums_same xs)

/-- a turn of the rounds: either the numbers stay, and then the classes do, or there is one class more -/
theorem turn_more {c d : List Int} {k : Nat} (hc : Fa W c k) (hd : Fa W d (k + 1)) (cc : nums c = c) (cd : nums d = d) (ne : d ≠ c) : (dd c).length + 1 ≤ (dd d).length := by
  obtain ⟨h1, h2⟩ := finer_len (xs := c) (ys := d) (hc.1.trans hd.1.symm) fun i j hi hj e => by
    rw [hc.1] at hi hj
    exact (hc.2 i j hi hj).mpr (E.le (Nat.le_succ k) ((hd.2 i j hi hj).mp e))
  rcases Nat.lt_or_ge (dd c).length (dd d).length with q | q
  · exact q
  · exfalso
    have s := h2 (Nat.le_antisymm h1 q)
    exact ne (by rw [← cd, ← cc, (nums_eq s).1])
theorem turn_stay {c d : List Int} {k : Nat} (hc : Fa W c k) (hd : Fa W d (k + 1)) (e : d = c) : Stay W k := fun s t hs ht q =>
  (hd.2 s t hs ht).mp (by rw [e]; exact (hc.2 s t hs ht).mpr q)
end

/-- the rounds as the program keeps them -/
structure Rounds (W : Wo) (Rs : List (List Int)) : Prop where
  pos : 0 < Rs.length
  le : Rs.length ≤ W.n
  fa : ∀ (k : Nat) c, Rs[k]? = some c → Fa W c k
  stay : Stay W (Rs.length - 1)
end K34
/-! What a value is as a key: whole numbers and tuples of such, nested. -/
namespace K34
open PySem PySem.Spec PyProof.Rows L2

mutual
/-- at H the value v is the key k -/
def KeyV (H : Hp) : NestedKey → V → Prop
  | .none, _ => False
  | .text _, _ => False
  | .num i, v => v = .int i
  | .tup ks, v => ∃ (a : Addr) (xs : List V), v = .ref a ∧ H a = some (.tup xs) ∧ KeyVs H ks xs
def KeyVs (H : Hp) : List NestedKey → List V → Prop
  | [], xs => xs = []
  | k :: ks, xs => ∃ (v : V) (r : List V), xs = v :: r ∧ KeyV H k v ∧ KeyVs H ks r
end
theorem KeyVs.nil {H : Hp} : KeyVs H [] [] := rfl
theorem KeyVs.cons {H : Hp} {k : NestedKey} {ks : List NestedKey} {v : V} {r : List V} (h : KeyV H k v) (t : KeyVs H ks r) : KeyVs H (k :: ks) (v :: r) := ⟨v, r, rfl, h, t⟩
theorem KeyVs.len {H : Hp} : ∀ {ks : List NestedKey} {xs : List V}, KeyVs H ks xs → xs.length = ks.length
  | [], xs, h => by
    have e : xs = [] := h
    rw [e]
    rfl
  | k :: ks, xs, h => by
    obtain ⟨v, r, rfl, _, t⟩ := h
    show r.length + 1 = ks.length + 1
    rw [KeyVs.len t]
theorem KeyVs.get {H : Hp} : ∀ {ks : List NestedKey} {xs : List V} {i : Nat} {k : NestedKey}, KeyVs H ks xs → ks[i]? = some k → ∃ v, xs[i]? = some v ∧ KeyV H k v
  | [], xs, i, k, _, e => by simp at e
  | k0 :: ks, xs, 0, k, h, e => by
    obtain ⟨v, r, rfl, q, _⟩ := h
    have e' : k0 = k := Option.some.inj e
    exact ⟨v, rfl, e' ▸ q⟩
  | k0 :: ks, xs, i + 1, k, h, e => by
    obtain ⟨v, r, rfl, _, t⟩ := h
    exact KeyVs.get t (i := i) e
theorem KeyVs.snoc {H : Hp} {k : NestedKey} {v : V} (h : KeyV H k v) : ∀ {ks : List NestedKey} {xs : List V}, KeyVs H ks xs → KeyVs H (ks ++ [k]) (xs ++ [v])
  | [], xs, t => by
    have e : xs = [] := t
    rw [e]
    exact .cons h .nil
  | k0 :: ks, xs, t => by
    obtain ⟨v0, r, rfl, q, t⟩ := t
    exact .cons q (KeyVs.snoc h t)
mutual
theorem KeyV.same {H H' : Hp} (s : Same H H') : ∀ {k : NestedKey} {v : V}, KeyV H k v → KeyV H' k v
  | .none, _, h => h
  | .text _, _, h => h
  | .num _, _, h => h
  | .tup ks, _, h => by
    obtain ⟨a, xs, e, ha, t⟩ := h
    exact ⟨a, xs, e, s a _ ha, KeyVs.same s t⟩
theorem KeyVs.same {H H' : Hp} (s : Same H H') : ∀ {ks : List NestedKey} {xs : List V}, KeyVs H ks xs → KeyVs H' ks xs
  | [], _, h => h
  | k :: ks, _, h => by
    obtain ⟨v, r, e, q, t⟩ := h
    exact ⟨v, r, e, KeyV.same s q, KeyVs.same s t⟩
end
theorem keyVs_nums {H : Hp} : ∀ {ns : List Int} {xs : List V}, KeyVs H (ns.map NestedKey.num) xs ↔ xs = ns.map V.int
  | [], xs => Iff.rfl
  | n :: ns, xs => by
    constructor
    · rintro ⟨v, r, rfl, q, t⟩
      rw [keyVs_nums.mp t]
      have q' : v = .int n := q
      rw [q']
      rfl
    · intro e
      exact ⟨.int n, ns.map V.int, e, rfl, keyVs_nums.mpr rfl⟩
/-- a tuple of whole numbers -/
abbrev tupk (ns : List Int) : NestedKey := .tup (ns.map .num)
theorem KeyV.ints {H : Hp} {ns : List Int} {v : V} (h : KeyV H (tupk ns) v) : ∃ a, v = .ref a ∧ H a = some (.tup (ns.map V.int)) := by
  obtain ⟨a, xs, e, ha, t⟩ := h
  rw [keyVs_nums.mp t] at ha
  exact ⟨a, e, ha⟩
theorem KeyV.of_ints {H : Hp} {ns : List Int} {a : Addr} (h : H a = some (.tup (ns.map V.int))) : KeyV H (tupk ns) (.ref a) := ⟨a, _, rfl, h, keyVs_nums.mpr rfl⟩
theorem KeyV.of_tup {H : Hp} {ks : List NestedKey} {a : Addr} {xs : List V} (h : H a = some (.tup xs)) (t : KeyVs H ks xs) : KeyV H (.tup ks) (.ref a) := ⟨a, xs, rfl, h, t⟩

mutual
theorem KeyV.dp {K : PySem.W.Frag} {H : Hp} : ∀ {k : NestedKey} {v : V}, KeyV H k v → Dp K H v k.data
  | .none, _, h => h.elim
  | .text _, _, h => h.elim
  | .num i, v, h => by
    have e : v = .int i := h
    rw [e]
    exact .int i
  | .tup ks, v, h => by
    obtain ⟨a, xs, e, ha, t⟩ := h
    rw [e]
    exact .tup (SqT.of ha) (KeyVs.dp t)
theorem KeyVs.dp {K : PySem.W.Frag} {H : Hp} : ∀ {ks : List NestedKey} {xs : List V}, KeyVs H ks xs → DpAll K H xs (NestedKey.datas ks)
  | [], xs, h => by
    have e : xs = [] := h
    rw [e]
    exact .nil
  | k :: ks, xs, h => by
    obtain ⟨v, r, e, q, t⟩ := h
    rw [e]
    exact .cons (KeyV.dp q) (KeyVs.dp t)
end
section
variable {X : Cx} {pins : List (Addr × Obj)} {σ : L2.St} {H : Hp} {s : Shared}
mutual
theorem KeyV.nested (I : Inv X pins σ H s) : ∀ {k : NestedKey} {v : V} {u : Value}, KeyV H k v → RelV v u → NestedIs s.heap k u
  | .none, _, _, h, _ => h.elim
  | .text _, _, _, h, _ => h.elim
  | .num i, v, u, h, r => by
    have e : v = .int i := h
    rw [e] at r
    obtain ⟨t, rfl⟩ := r
    exact .int i t
  | .tup ks, v, u, h, r => by
    obtain ⟨a, xs, e, ha, t⟩ := h
    rw [e] at r
    have r' : u = Value.ref a := r
    subst r'
    obtain ⟨_, its, rv, ⟨o, ho, hc, n, hd⟩⟩ := I.hok a _ ha
    exact .tup ho hc hd (by
      have q := KeyVs.nested I t rv
      simpa using q)
theorem KeyVs.nested (I : Inv X pins σ H s) : ∀ {ks : List NestedKey} {xs : List V} {us : List Value}, KeyVs H ks xs → Vals xs us → NestedAll s.heap ks us
  | [], xs, us, h, r => by
    have e : xs = [] := h
    rw [e] at r
    cases r
    exact .nil
  | k :: ks, xs, us, h, r => by
    obtain ⟨v, xr, e, q, t⟩ := h
    rw [e] at r
    cases r with
    | cons r1 r2 => exact .cons (KeyV.nested I q r1) (KeyVs.nested I t r2)
end
end
mutual
theorem data_eqv : ∀ (a b : NestedKey), PyData.eqv a.data b.data = NestedKey.beq a b
  | .none, .none => rfl
  | .none, .num _ => rfl
  | .none, .text _ => rfl
  | .none, .tup _ => rfl
  | .num _, .none => rfl
  | .num a, .num b => by simp [NestedKey.data, PyData.eqv, NestedKey.beq, Bool.beq_eq_decide_eq]
  | .num _, .text _ => rfl
  | .num _, .tup _ => rfl
  | .text _, .none => rfl
  | .text _, .num _ => rfl
  | .text a, .text b => by simp [NestedKey.data, PyData.eqv, NestedKey.beq]; rfl
  | .text _, .tup _ => rfl
  | .tup _, .none => rfl
  | .tup _, .num _ => rfl
  | .tup _, .text _ => rfl
  | .tup a, .tup b => by
    simp only [NestedKey.data, PyData.eqv, NestedKey.beq]
    exact datas_eqv a b
theorem datas_eqv : ∀ (a b : List NestedKey), PyData.eqvAll (NestedKey.datas a) (NestedKey.datas b) = NestedKey.beqAll a b
  | [], [] => rfl
  | [], _ :: _ => rfl
  | _ :: _, [] => rfl
  | a :: as, b :: bs => by
    simp only [NestedKey.datas, PyData.eqvAll, NestedKey.beqAll]
    rw [data_eqv a b, datas_eqv as bs]
end
theorem eqv_dec (a b : NestedKey) : PyData.eqv a.data b.data = decide (a = b) := by rw [data_eqv, NestedKey.decide_eq]
mutual
theorem data_depth : ∀ a : NestedKey, a.data.depth = a.depth
  | .none => rfl
  | .num _ => rfl
  | .text _ => rfl
  | .tup ks => by
    simp only [NestedKey.data, PyData.depth, NestedKey.depth]
    rw [datas_depth ks]
theorem datas_depth : ∀ a : List NestedKey, PyData.depthAll (NestedKey.datas a) = NestedKey.depthAll a
  | [] => rfl
  | k :: ks => by
    simp only [NestedKey.datas, PyData.depthAll, NestedKey.depthAll]
    rw [data_depth k, datas_depth ks]
end
mutual
theorem KeyV.lay {H : Hp} : ∀ {k : NestedKey} {v : V}, KeyV H k v → k.data.canLay0 = true
  | .none, _, h => h.elim
  | .text _, _, h => h.elim
  | .num _, _, _ => rfl
  | .tup ks, _, h => by
    obtain ⟨_, _, _, _, t⟩ := h
    simp only [NestedKey.data, PyData.canLay0]
    exact KeyVs.lay t
theorem KeyVs.lay {H : Hp} : ∀ {ks : List NestedKey} {xs : List V}, KeyVs H ks xs → PyData.canLayAll0 (NestedKey.datas ks) = true
  | [], _, _ => rfl
  | k :: ks, _, h => by
    obtain ⟨_, _, _, q, t⟩ := h
    simp only [NestedKey.datas, PyData.canLayAll0]
    rw [KeyV.lay q, KeyVs.lay t]
    rfl
end
theorem KeyV.shaped {H : Hp} {k : NestedKey} {v : V} (q : KeyV H k v) (h : k.depth ≤ 64) : SeqAt.shaped k.data = true := by
  show (k.data.canLay0 && decide (k.data.depth ≤ 64)) = true
  rw [Bool.and_eq_true]
  exact ⟨q.lay, decide_eq_true (by rw [data_depth]; exact h)⟩
theorem depth_nums : ∀ ns : List Int, NestedKey.depthAll (ns.map NestedKey.num) = 0
  | [] => rfl
  | n :: ns => by
    show max (NestedKey.depth (.num n)) (NestedKey.depthAll (ns.map NestedKey.num)) = 0
    rw [depth_nums ns]
    rfl
theorem depth_tupk (ns : List Int) : (tupk ns).depth = 1 := by
  show NestedKey.depthAll (ns.map NestedKey.num) + 1 = 1
  rw [depth_nums]
theorem datas_map (ks : List NestedKey) : NestedKey.datas ks = ks.map NestedKey.data := by
  induction ks with
  | nil => rfl
  | cons k ks ih =>
    show k.data :: NestedKey.datas ks = _
    rw [ih]
    rfl
end K34
/-! A dict that numbers its keys (nested tuples of whole numbers) in the order in which they came. -/
namespace K34
open PySem PySem.Spec PyProof.Rows L2

/-- what is true of the dict's own object: L tells its keys and where they stand; the i-th key's value is i -/
def IxP (P : Program) (w : World) (a : Addr) (L : List (NestedKey × Addr)) (h : Heap) : Prop :=
  (a == sysModules) = false ∧ L.length ≤ 1000 ∧ (L.map (·.1)).Nodup ∧ ∃ xs : List (NestedKey × Addr × Value), xs.map (fun x => (x.1, x.2.1)) = L ∧ (∀ (i : Nat) x, xs[i]? = some x → ∃ t, x.2.2 = .int i t) ∧
    ∃ o es ep, h.get? a = some o ∧ o.ExactDict ∧ o.data = .dict es ep ∧ es.toList = xs.map (entryOfKey (nestedKind P w))
def IxO (P : Program) (w : World) (a : Addr) (L : List (NestedKey × Addr)) : HO := .ext (IxP P w a L)
/-- the dict at d, its keys beside it -/
def IxD (P : Program) (w : World) (H : Hp) (d : Addr) (L : List (NestedKey × Addr)) : Prop := H d = some (IxO P w d L) ∧ ∀ p ∈ L, KeyV H p.1 (.ref p.2) ∧ p.1.depth ≤ 8
theorem ixO_ok {P : Program} {w : World} {H : Hp} {h : Heap} {a : Addr} {L : List (NestedKey × Addr)} (R : IxP P w a L h) : ObjOk P w H h a (IxO P w a L) := by
  refine ⟨R, ?_, fun h1 h2 q k => ?_⟩
  · obtain ⟨_, _, _, _, _, _, o, _, _, ho, _⟩ := R
    exact ⟨o, ho⟩
  · obtain ⟨a1, a2, a3, xs, a4, a5, o, es, ep, ho, r⟩ := q
    exact ⟨a1, a2, a3, xs, a4, a5, o, es, ep, k o ho, r⟩
section
variable {X : Cx} {pins : List (Addr × Obj)} {σ : L2.St} {H : Hp} {s : Shared}
theorem ixD_of (I : Inv X pins σ H s) {d : Addr} {L : List (NestedKey × Addr)} (h : IxD X.prog X.w H d L) : (d == sysModules) = false ∧ L.length ≤ 1000 ∧
    ∃ xs : List (NestedKey × Addr × Value), xs.map (fun x => (x.1, x.2.1)) = L ∧ (∀ (i : Nat) x, xs[i]? = some x → ∃ t, x.2.2 = .int i t) ∧ s.heap.DictOfH (nestedKind X.prog X.w) d xs := by
  obtain ⟨⟨h1, h2, h3, xs, h4, h5, o, es, ep, ho, hx, hd, he⟩, _⟩ := I.hok d _ h.1
  refine ⟨h1, h2, xs, h4, h5, o, es, ep, ho, hx, hd, he, fun x hx => ?_, ?_⟩
  · have hm : (x.1, x.2.1) ∈ L := by
      rw [← h4]
      exact List.mem_map.mpr ⟨x, hx, rfl⟩
    obtain ⟨q1, q2⟩ := h.2 _ hm
    exact ⟨KeyV.nested I q1 rfl, q2⟩
  · rw [← h4, List.map_map] at h3
    exact h3
theorem key_at {xs : List (NestedKey × Addr × Value)} {L : List (NestedKey × Addr)} (e : xs.map (fun x => (x.1, x.2.1)) = L) (k : NestedKey) : (atKey xs k).isSome = decide (k ∈ L.map (·.1)) := by
  subst e
  unfold atKey
  rw [Option.isSome_map, Bool.eq_iff_iff, List.find?_isSome, decide_eq_true_iff]
  have e2 : (∃ x, x ∈ xs ∧ decide (x.1 = k) = true) ↔ k ∈ (xs.map (fun x => (x.1, x.2.1))).map (·.1) := by
    rw [List.map_map, List.mem_map]
    constructor
    · rintro ⟨x, hx, q⟩
      exact ⟨x, hx, of_decide_eq_true q⟩
    · rintro ⟨x, hx, q⟩
      exact ⟨x, hx, decide_eq_true q⟩
  exact e2
theorem key_none {xs : List (NestedKey × Addr × Value)} {L : List (NestedKey × Addr)} (e : xs.map (fun x => (x.1, x.2.1)) = L) {k : NestedKey} (h : k ∉ L.map (·.1)) : atKey xs k = none := by
  have q := key_at e k
  rw [decide_eq_false h] at q
  cases c : atKey xs k with
  | none => rfl
  | some p =>
    rw [c] at q
    cases q
theorem key_some {xs : List (NestedKey × Addr × Value)} {L : List (NestedKey × Addr)} (e : xs.map (fun x => (x.1, x.2.1)) = L) (hv : ∀ (i : Nat) x, xs[i]? = some x → ∃ t, x.2.2 = .int i t) (nd : (L.map (·.1)).Nodup) {k : NestedKey} (h : k ∈ L.map (·.1)) :
    ∃ a t, atKey xs k = some (a, .int (((L.map (·.1)).idxOf k : Nat) : Int) t) := by
  have hi := List.idxOf_lt_length_iff.mpr h
  have hg : (L.map (·.1))[(L.map (·.1)).idxOf k]? = some k := by rw [List.getElem?_eq_getElem hi, List.getElem_idxOf hi]
  generalize (L.map (·.1)).idxOf k = i at hg
  have nd' : (xs.map (·.1)).Nodup := by
    rw [← e, List.map_map] at nd
    exact nd
  rw [← e, List.map_map, List.getElem?_map] at hg
  cases c : xs[i]? with
  | none =>
    rw [c] at hg
    cases hg
  | some x =>
    rw [c] at hg
    have hk : x.1 = k := Option.some.inj hg
    obtain ⟨t, ht⟩ := hv i x c
    obtain ⟨x1, x2, x3⟩ := x
    dsimp only at hk ht
    subst hk
    subst ht
    exact ⟨x2, t, atKey_of_get nd' c⟩
/-- {} -/
def tIxNew (P : Program) (w : World) : TE := fun _ H Q => ∀ p, H p = none → Q (.ref p) (upd H p (IxO P w p []))
theorem pe_ixNew {pos : Pos} : PE X (.Dict [] [] pos) (tIxNew X.prog X.w) := ⟨fun pins s σ H Q I h =>
  wpAny_Dict_empty ⟨.ref s.heap.objs.size, _, I.laid (a := s.heap.objs.size) (o := IxO X.prog X.w s.heap.objs.size []) (t' := s.toks) (fun _ _ q => Heap.get?_push_of_some _ q) (Nat.le_refl _)
    (ixO_ok ⟨beq_eq_false_iff_ne.mpr (Ne.symm (Nat.ne_of_lt I.big)), Nat.zero_le _, List.nodup_nil, [], rfl, (fun i x e => by simp at e), _, #[], 0, Heap.get?_push_size _ rfl, ⟨rfl, rfl, rfl⟩, rfl, rfl⟩), rfl, h _ (I.hok.fresh (Nat.le_refl _))⟩⟩
/-- k not in d -/
def rIxNotIn (P : Program) (w : World) : R2 := fun x y H Q => ∃ (d : Addr) (k : NestedKey) (L : List (NestedKey × Addr)), y = .ref d ∧ KeyV H k x ∧ (∃ t, x = .ref t) ∧ k.depth ≤ 8 ∧ IxD P w H d L ∧ Q (.bl (!decide (k ∈ L.map (·.1)))) H
theorem op_ixNotIn (hu : X.A.units + 64 < cLine) : OpR X (compareOp .NotIn) (rIxNotIn X.prog X.w) := by
  intro pins s σ H x y v u Q I rx ry h
  obtain ⟨d, k, L, rfl, hk, ⟨t, rfl⟩, hd8, hD, q⟩ := h
  have ev : v = Value.ref t := rx
  have eu : u = Value.ref d := ry
  subst ev
  subst eu
  obtain ⟨h1, h2, xs, h4, h5, hm⟩ := ixD_of I hD
  show wpAny _ _ (do return Value.bool (!(← contains (Value.ref d) (Value.ref t)))) _ _ s
  have hroom : (nestedKind X.prog X.w).room X.A.in1 := by
    show X.A.units + 1 + 8 < cLine
    omega
  refine wpAny_bind (wpAny_contains_heap (knd := nestedKind X.prog X.w) (k := k) hroom ⟨KeyV.nested I hk rfl, hd8⟩ h1 hm (wpAny_pure ?_))
  rw [key_at h4]
  exact ⟨.bl _, H, I.tok _, rfl, q⟩
/-- d[k], k there -/
def rIxGet (P : Program) (w : World) : R2 := fun x y H Q => ∃ (d : Addr) (k : NestedKey) (L : List (NestedKey × Addr)), x = .ref d ∧ KeyV H k y ∧ (∃ t, y = .ref t) ∧ k.depth ≤ 8 ∧ IxD P w H d L ∧ k ∈ L.map (·.1) ∧ Q (.int (((L.map (·.1)).idxOf k : Nat) : Int)) H
theorem pe_ixGet {o i : Expr} {to ti : TE} {pos : Pos} (hu : X.A.units + 64 < cLine) (ho : PE X o to) (hi : PE X i ti) (hs : NoSl i) : PE X (.Subscript o i pos) (tOp (rIxGet X.prog X.w) to ti) := by
  refine ⟨fun pins s σ H Q I h => ?_⟩
  refine subD_of PySem.F.slot_dict_getitem.lookup hs (thn (ho.run pins s σ H _ I h) fun u s1 ⟨x, H1, I1, rx, q1⟩ => thn (hi.run pins s1 σ H1 _ I1 q1) fun iv s2 ⟨y, H2, I2, ry, d, k, L, ex, hk, ⟨t, ey⟩, hd8, hD, hm, q2⟩ => ?_)
  subst ex
  subst ey
  obtain rfl : u = Value.ref d := rx
  obtain rfl : iv = Value.ref t := ry
  obtain ⟨h1, h2, xs, h4, h5, hmo⟩ := ixD_of I2 hD
  refine ⟨hmo.typeIs, ?_⟩
  have hroom : (nestedKind X.prog X.w).room X.A.in1 := by
    show X.A.units + 1 + 8 < cLine
    omega
  have nd : (L.map (·.1)).Nodup := by
    obtain ⟨⟨_, _, h3, _⟩, _⟩ := I2.hok d _ hD.1
    exact h3
  obtain ⟨b, tk, hp⟩ := key_some h4 h5 nd hm
  exact wpAny_getItem_heap (knd := nestedKind X.prog X.w) (k := k) hroom ⟨KeyV.nested I2 hk rfl, hd8⟩ hmo hp ⟨.int _, H2, I2.tok _, ⟨tk, rfl⟩, q2⟩
/-- d[k] = len so far, k new -/
def rIxPut (P : Program) (w : World) : TSet := fun o i v H Q => ∃ (d t : Addr) (k : NestedKey) (L : List (NestedKey × Addr)), o = .ref d ∧ i = .ref t ∧ v = .int ((L.length : Nat) : Int) ∧ KeyV H k (.ref t) ∧ k.depth ≤ 8 ∧ IxD P w H d L ∧ k ∉ L.map (·.1) ∧ L.length < 1000 ∧
  Q (upd H d (IxO P w d (L ++ [(k, t)])))
theorem set_ix (hu : X.A.units + 64 < cLine) : PSet X (rIxPut X.prog X.w) := by
  intro pins s σ H o i v ov iv u Q I ro ri rv h
  obtain ⟨d, t, k, L, rfl, rfl, rfl, hk, hd8, hD, hn, hl, q⟩ := h
  obtain rfl : ov = Value.ref d := ro
  obtain rfl : iv = Value.ref t := ri
  obtain ⟨tk, rfl⟩ := rv
  obtain ⟨h1, h2, xs, h4, h5, hm⟩ := ixD_of I hD
  have hroom : (nestedKind X.prog X.w).room X.A.in1 := by
    show X.A.units + 1 + 8 < cLine
    omega
  have hxl : xs.length = L.length := by rw [← h4, List.length_map]
  refine wpAny_setItem_heap (knd := nestedKind X.prog X.w) (k := k) (hsz := by rw [hxl, sizeLine_eq]; omega) hroom ⟨KeyV.nested I hk rfl, hd8⟩ hm fun h' hm' hs => ?_
  rw [storedH_new (key_none h4 hn)] at hm'
  obtain ⟨o, es, ep, ho, hx, hdt, he, _, hnd⟩ := hm'
  refine ⟨_, d_write I (by rw [hD.1]; trivial) hs ⟨o, ho⟩ (ixO_ok ⟨h1, by rw [List.length_append]; exact hl, ?_, xs ++ [(k, t, .int ((L.length : Nat) : Int) tk)], by rw [List.map_append, h4]; rfl, fun i x e => ?_, o, es, ep, ho, hx, hdt, he⟩), q⟩
  · rw [List.map_append, List.map_singleton] at hnd ⊢
    rw [← h4, List.map_map]
    exact hnd
  · rcases Nat.lt_or_ge i xs.length with c | c
    · rw [List.getElem?_append_left c] at e
      exact h5 i x e
    · rw [List.getElem?_append_right c] at e
      have ei : i - xs.length = 0 := by
        have q2 := (List.getElem?_eq_some_iff.mp e).1
        rw [List.length_singleton] at q2
        omega
      rw [ei] at e
      have e' : (k, t, Value.int ((L.length : Nat) : Int) tk) = x := Option.some.inj e
      refine ⟨tk, ?_⟩
      rw [← e']
      show Value.int ((L.length : Nat) : Int) tk = Value.int (i : Int) tk
      have : L.length = i := by omega
      rw [this]
/-- len(d) -/
def rIxLen (P : Program) (w : World) : List V → Hp → VK → Prop := fun xs H Q => ∃ (d : Addr) (L : List (NestedKey × Addr)), xs = [.ref d] ∧ IxD P w H d L ∧ Q (.int ((L.length : Nat) : Int)) H
theorem call_lenIx : CallR X (.builtin "len") (rIxLen X.prog X.w) := by
  intro pins s σ H xs us Q I r h
  obtain ⟨d, L, rfl, hD, q⟩ := h
  obtain ⟨u, rfl, rx⟩ := vals1 r
  obtain rfl : u = .ref d := rx
  obtain ⟨h1, h2, ys, h4, h5, hm⟩ := ixD_of I hD
  have hl : ys.length = L.length := by rw [← h4, List.length_map]
  refine call_len_dictH h1 hm (by omega) ?_
  rw [hl]
  exact ⟨.int ((L.length : Nat) : Int), H, I.tok _, ⟨_, rfl⟩, q⟩
end
end K34
/-! Sets whose members are nested tuples of whole numbers: what the set's table does at adding (over the kit's lemmas about the table alone: TabOk, go_spec, relaid_ok). -/
namespace K34
open PySem PySem.Spec PyProof.Rows L2

mutual
/-- no text and no None within -/
def okk : NestedKey → Bool
  | .none => false
  | .text _ => false
  | .num _ => true
  | .tup ks => okks ks
def okks : List NestedKey → Bool
  | [] => true
  | k :: ks => okk k && okks ks
end
mutual
theorem KeyV.okk {H : Hp} : ∀ {k : NestedKey} {v : V}, KeyV H k v → okk k = true
  | .none, _, h => h.elim
  | .text _, _, h => h.elim
  | .num _, _, _ => rfl
  | .tup ks, _, h => by
    obtain ⟨_, _, _, _, t⟩ := h
    show okks ks = true
    exact KeyVs.okks t
theorem KeyVs.okks {H : Hp} : ∀ {ks : List NestedKey} {xs : List V}, KeyVs H ks xs → okks ks = true
  | [], _, _ => rfl
  | k :: ks, _, h => by
    obtain ⟨_, _, _, q, t⟩ := h
    show (okk k && okks ks) = true
    rw [KeyV.okk q, KeyVs.okks t]
    rfl
end

section
variable {P : Program} {w : World} {A : Around} {E : Value → Shared → Prop} {s : Shared}
/-- whether a class statement stands behind v: no, to any depth that is asked -/
def Plainly (P : Program) (w : World) (n : Nat) (s : Shared) (v : Value) : Prop :=
  (∀ (A : Around) (E : Value → Shared → Prop) (Q : Bool → Shared → Prop), Q false s → wpAny (model P w) A (ofAClassStatement n v) Q E s) ∧
  (∀ (A : Around) (E : Value → Shared → Prop) (Q : Bool → Shared → Prop), Q true s → wpAny (model P w) A (hashByValue n v) Q E s)
theorem plainly_int (n : Nat) (i : Int) (t : Tok) : Plainly P w n s (.int i t) := by
  refine ⟨fun A E Q h => ?_, fun A E Q h => ?_⟩
  · rw [ofAClass_int]
    exact wpAny_pure h
  · rw [hashBy_int]
    exact wpAny_pure h
theorem plainly_bool (n : Nat) (b : Bool) : Plainly P w n s (.bool b) := by
  refine ⟨fun A E Q h => ?_, fun A E Q h => ?_⟩
  · have e : ofAClassStatement n (.bool b) = pure false := by cases n <;> rfl
    rw [e]
    exact wpAny_pure h
  · have e : hashByValue n (.bool b) = pure true := by cases n <;> rfl
    rw [e]
    exact wpAny_pure h
theorem plainly_tup {n : Nat} {b : Addr} {o : Obj} {items : Array Value} {m : Nat} (ho : s.heap.get? b = some o) (hc : o.cls = .type "tuple") (hd : o.data = .seq items m) (hi : ∀ v ∈ items.toList, Plainly P w n s v) : Plainly P w (n + 1) s (.ref b) := by
  have hT : s.TypeIs (.ref b) "tuple" := ⟨o, ho, hc⟩
  refine ⟨fun A E Q h => ?_, fun A E Q h => ?_⟩
  · unfold ofAClassStatement
    refine wpAny_bind (wpAny_typeOf hT ?_)
    dsimp only
    have e : (("tuple" : String) == "tuple") = true := by decide
    simp only [e, if_true, Bool.not_true, Bool.false_eq_true, if_false]
    try refine wpAny_bind (wpAny_pure ?_)
    try simp only [Bool.not_true, Bool.false_eq_true, if_false]
    show wpAny _ _ (seqItems? (.ref b) >>= _) _ _ s
    refine wpAny_bind (wpAny_seqItems ho hd ?_)
    dsimp only
    refine wpAny_bind ?_
    show wpAny _ _ (forIn items _ _) _ _ s
    rw [← Array.forIn_toList]
    refine wpAny_forIn_list _ (fun todo r s' => r.1 = none ∧ s' = s ∧ ∀ v ∈ todo, Plainly P w n s v) _ ?_ ?_ _ _ ⟨rfl, rfl, hi⟩
    · rintro v todo r s' ⟨hr, rfl, all⟩
      refine wpAny_bind ((all v List.mem_cons_self).1 _ _ _ ?_)
      simp only [Bool.false_eq_true, if_false]
      exact wpAny_pure ⟨rfl, rfl, fun u hu => all u (List.mem_cons_of_mem _ hu)⟩
    · rintro ⟨r1, r2⟩ s' ⟨hr, rfl, _⟩
      simp only at hr
      subst hr
      exact wpAny_pure h
  · unfold hashByValue
    refine wpAny_bind (wpAny_specialOf hT PySem.F.slot_tuple_hash.lookup ?_)
    show wpAny _ _ (seqItems? (.ref b) >>= _) _ _ s
    refine wpAny_bind (wpAny_seqItems ho hd ?_)
    refine wpAny_bind ?_
    show wpAny _ _ (forIn items _ _) _ _ s
    rw [← Array.forIn_toList]
    refine wpAny_forIn_list _ (fun todo r s' => r.1 = none ∧ s' = s ∧ ∀ v ∈ todo, Plainly P w n s v) _ ?_ ?_ _ _ ⟨rfl, rfl, hi⟩
    · rintro v todo r s' ⟨hr, rfl, all⟩
      refine wpAny_bind ((all v List.mem_cons_self).2 _ _ _ ?_)
      simp only [Bool.not_true, Bool.false_eq_true, if_false]
      exact wpAny_pure ⟨rfl, rfl, fun u hu => all u (List.mem_cons_of_mem _ hu)⟩
    · rintro ⟨r1, r2⟩ s' ⟨hr, rfl, _⟩
      simp only at hr
      subst hr
      exact wpAny_pure h
mutual
theorem plainly_key : ∀ (k : NestedKey) (v : Value) (n : Nat), okk k = true → NestedIs s.heap k v → k.depth ≤ n → Plainly P w n s v
  | .none, _, _, o, _, _ => by cases o
  | .text _, _, _, o, _, _ => by cases o
  | .num i, _, n, _, x, _ => by
    cases x with
    | bool e => exact plainly_bool n _
    | int _ t => exact plainly_int n i t
  | .tup ks, _, n, o, x, hn => by
    cases x with
    | tup h1 h2 h3 h4 =>
      simp only [NestedKey.depth] at hn
      cases n with
      | zero => omega
      | succ n => exact plainly_tup h1 h2 h3 (plainly_keys ks _ n o h4 (by omega))
theorem plainly_keys : ∀ (ks : List NestedKey) (vs : List Value) (n : Nat), okks ks = true → NestedAll s.heap ks vs → NestedKey.depthAll ks ≤ n → ∀ v ∈ vs, Plainly P w n s v
  | [], _, _, _, x, _, v, hv => by
    cases x
    cases hv
  | k :: ks, _, n, o, x, hn, v, hv => by
    have o' : (okk k && okks ks) = true := o
    rw [Bool.and_eq_true] at o'
    cases x with
    | cons x1 x2 =>
      simp only [NestedKey.depthAll] at hn
      rcases List.mem_cons.mp hv with e | hv
      · rw [e]
        exact plainly_key k _ n o'.1 x1 (by omega)
      · exact plainly_keys ks _ n o'.2 x2 (by omega) v hv
end
/-- the object at b is the key k, of numbers alone -/
structure IsN (P : Program) (w : World) (h : Heap) (k : NestedKey) (b : Addr) : Prop where
  key : (nestedKind P w).is h k b
  ok : okk k = true
theorem IsN.plainly {k : NestedKey} {b : Addr} (h : IsN P w s.heap k b) : Plainly P w 8 s (.ref b) := plainly_key k _ 8 h.ok h.key.1 h.key.2
theorem IsN.keep {h h' : Heap} {k : NestedKey} {b : Addr} (x : IsN P w h k b) (hk : ∀ c o, h.get? c = some o → h'.get? c = some o) : IsN P w h' k b := ⟨nestedKind_stays.stays (fun b o _ _ e _ => hk b o e) x.key, x.ok⟩
theorem IsN.inj {h : Heap} {k k' : NestedKey} {b : Addr} (x : IsN P w h k b) (y : IsN P w h k' b) : k = k' := (nestedKind P w).inj x.key y.key
/-- a search among such keys shows nothing -/
theorem seen_keys {k : NestedKey} {b : Addr} {Q : Bool → Shared → Prop} (hk : IsN P w s.heap k b) {ys : List Value} (hy : ∀ y ∈ ys, ∃ k' c, y = Value.ref c ∧ IsN P w s.heap k' c) (h : Q false s) :
    wpAny (model P w) A (searchCouldBeSeen (.ref b) ys) Q E s := by
  unfold searchCouldBeSeen
  refine wpAny_bind ?_
  refine wpAny_forIn_list _ (fun todo r s' => r.1 = none ∧ s' = s ∧ ∀ y ∈ todo, ∃ k' c, y = Value.ref c ∧ IsN P w s.heap k' c) _ ?_ ?_ _ _ ⟨rfl, rfl, hy⟩
  · rintro v todo r s' ⟨hr, rfl, all⟩
    obtain ⟨k', c, rfl, hc⟩ := all v List.mem_cons_self
    have all' : ∀ y ∈ todo, ∃ k' c, y = Value.ref c ∧ IsN P w s'.heap k' c := fun u hu => all u (List.mem_cons_of_mem _ hu)
    dsimp only
    by_cases hv : (b == c || (carriedByValue (.ref b) && carriedByValue (.ref c))) = true
    · refine wp_if_pos hv ?_
      exact wpAny_pure ⟨rfl, rfl, all'⟩
    · refine wp_if_neg hv ?_
      refine wpAny_bind ((nestedKind P w).quiet hk.key ?_)
      simp only [Bool.not_true, Bool.false_eq_true, if_false]
      refine wpAny_bind ((nestedKind P w).quiet hc.key ?_)
      simp only [Bool.not_true, Bool.false_eq_true, if_false]
      refine wpAny_bind (hk.plainly.1 _ _ _ ?_)
      simp only [Bool.false_eq_true, if_false]
      refine wpAny_bind (hc.plainly.1 _ _ _ ?_)
      simp only [Bool.false_eq_true, if_false]
      exact wpAny_pure ⟨rfl, rfl, all'⟩
  · rintro ⟨r1, r2⟩ s' ⟨hr, rfl, _⟩
    simp only at hr
    subst hr
    exact wpAny_pure h

/-! ### the set -/
/-- what the table's rows hold -/
def rowN (w : World) (L : List (NestedKey × Addr)) : List (Int × Value) := L.map fun p => (p.1.hash w, Value.ref p.2)
theorem rowN_len (w : World) (L : List (NestedKey × Addr)) : (rowN w L).length = L.length := List.length_map _
theorem rowN_get {w : World} {L : List (NestedKey × Addr)} {i : Nat} {p : NestedKey × Addr} (h : L[i]? = some p) : (rowN w L)[i]? = some (p.1.hash w, Value.ref p.2) := by
  unfold rowN
  rw [List.getElem?_map, h]
  rfl
abbrev hshs (w : World) (L : List (NestedKey × Addr)) : List Int := L.map fun p => p.1.hash w
structure NSet (P : Program) (w : World) (h : Heap) (a : Addr) (L : List (NestedKey × Addr)) (es : Array (Int × Value)) (ep : Nat) (t : SetTable) : Prop where
  ob : ∃ o, h.get? a = some o ∧ o.ExactSet ∧ o.data = .set es ep t
  rows : es.toList = rowN w L
  tab : TabOk t (hshs w L)
  nd : (L.map (·.1)).Nodup
  keys : ∀ p ∈ L, IsN P w h p.1 p.2
  plain : t.plain = true
  led : w.params.followText "set-order" = true ∨ t.led = true
  room : L.length * 5 < t.mask * 3
  few : L.length ≤ 12
variable {a : Addr} {L : List (NestedKey × Addr)} {es : Array (Int × Value)} {ep : Nat} {t : SetTable}
theorem NSet.size (R : NSet P w s.heap a L es ep t) : es.size = L.length := by
  rw [← Array.length_toList, R.rows, rowN_len]
theorem NSet.places (R : NSet P w s.heap a L es ep t) : t.place.toList.length = L.length := by
  rw [Array.length_toList, R.tab.sz, List.length_map]
theorem NSet.fits (R : NSet P w s.heap a L es ep t) : t.fits es.size = true := by
  have h1 := R.places
  have h2 := R.size
  have h3 := R.room
  rw [Array.length_toList] at h1
  unfold SetTable.fits SetTable.fill
  rw [R.tab.dm, Bool.and_eq_true, beq_iff_eq, decide_eq_true_eq]
  show t.place.size = es.size ∧ t.place.size + 0 ≤ t.mask
  omega
theorem NSet.entry (R : NSet P w s.heap a L es ep t) {i : Nat} {p : NestedKey × Addr} (h : L[i]? = some p) : es[i]? = some (p.1.hash w, Value.ref p.2) := by
  rw [← Array.getElem?_toList, R.rows, rowN_get h]
theorem NSet.gw (R : NSet P w s.heap a L es ep t) : ¬ t.gaveWay = true := by
  unfold SetTable.gaveWay
  rw [mask_odd R.tab.mok]
  decide
theorem nth_nodummy (m : Nat) : ∀ (n : Nat) (p : SetTable.Probe), p.dummy = none → (nth m p n).dummy = none
  | 0, _, h => h
  | n + 1, p, h => nth_nodummy m n (adv m p) (by
    unfold adv
    split <;> exact h)

/-- the way of a key through the table -/
abbrev ways (t : SetTable) (h : Int) (c : Nat) : SetTable.Probe := nth t.mask (runAt t.mask (SetTable.bits h % (t.mask + 1)) (SetTable.bits h)) c
theorem ways_add (t : SetTable) (h : Int) (c q : Nat) : nth t.mask (ways t h c) q = ways t h (c + q) := (nth_add t.mask c _ q).symm
theorem ways_j (t : SetTable) (h : Int) (c q : Nat) : (nth t.mask (ways t h c) q).j = way t.mask h (c + q) := congrArg SetTable.Probe.j (ways_add t h c q)
/-- THE SEARCH, from the c-th step of the way on; K: the first empty place -/
theorem nsearch (R : NSet P w s.heap a L es ep t) {x : Addr} {k : NestedKey} (hx : IsN P w s.heap k x) (hu : A.units + 8 < cLine) {K : Nat} (hKf : K < 10 * SetTable.turns t.mask)
    (hK : way t.mask (k.hash w) K ∉ t.place.toList) (hKb : ∀ c, c < K → way t.mask (k.hash w) c ∈ t.place.toList) {Q : SetFound → Shared → Prop}
    (hin : k ∈ L.map (·.1) → Q (.there none) s) (hout : k ∉ L.map (·.1) → Q (.free (way t.mask (k.hash w) K) false) s) :
    ∀ (f c : Nat) (stand : Option SetTable.Probe), stand.getD (t.probeStart (k.hash w)) = ways t (k.hash w) c → c ≤ K → K - c < f →
      (∀ (i : Nat) p, L[i]? = some p → p.1 = k → ∃ c', c ≤ c' ∧ c' < K ∧ t.place.toList[i]? = some (way t.mask (k.hash w) c')) →
      wpAny (model P w) A (setSearchFrom a (.ref x) (k.hash w) true f stand) Q E s
  | 0, c, stand, _, _, hf, _ => absurd hf (Nat.not_lt_zero _)
  | f + 1, c, stand, hst, hc, hf, hre => by
    obtain ⟨o, ho, hex, hd⟩ := R.ob
    generalize hh : k.hash w = h at *
    have hash_at : ∀ (i : Nat) p, L[i]? = some p → (fun i => (es[i]?.map (·.1)).getD 0) i = p.1.hash w := fun i p hp => by
      show (es[i]?.map (·.1)).getD 0 = _
      rw [R.entry hp]
      rfl
    have spec := go_spec t R.tab.ris R.tab.dm (fun i => (es[i]?.map (·.1)).getD 0) h (10 * SetTable.turns t.mask) (K - c) (ways t h c) (nth_nodummy _ _ _ rfl) (by omega)
      (fun q hq => by rw [ways_j]; exact hKb (c + q) (by omega)) (by rw [ways_j, show c + (K - c) = K by omega]; exact hK)
    rw [setSearchFrom_succ]
    refine wpAny_bind (wpAny_setState_of ho hd R.fits ?_)
    dsimp only
    refine wp_if_neg R.gw ?_
    try refine wpAny_bind (wpAny_pure ?_)
    rcases spec with ⟨q, i, hq, hi, hsame, hno, hpr⟩ | ⟨hno, hpr⟩
    · -- an entry of the same hash
      rw [ways_j, ways_add] at hpr
      rw [ways_j] at hi
      have hpr' : t.probe (fun i => (es[i]?.map (·.1)).getD 0) h (stand.getD (t.probeStart h)) = some (.candidate (way t.mask h (c + q)) i (ways t h (c + (q + 1)))) := by
        rw [hst]
        exact hpr
      rw [hpr']
      dsimp only
      have hil : i < L.length := by
        rw [← R.places]
        exact (List.getElem?_eq_some_iff.mp hi).1
      obtain ⟨p, hp⟩ : ∃ p, L[i]? = some p := ⟨L[i], List.getElem?_eq_getElem hil⟩
      have hmem : p ∈ L := List.mem_of_getElem? hp
      have hpk := R.keys p hmem
      have live := slot_live R.tab.ris hi
      have go : wpAny (model P w) A (searchRest a (.ref x) h true f es t (way t.mask h (c + q)) i (ways t h (c + (q + 1)))) Q E s := by
        unfold searchRest
        rw [R.entry hp]
        dsimp only
        refine wpAny_bind (wpAny_holding ((nestedKind P w).eqBool (show A.units + 8 < cLine from hu) hpk.key hx.key ?_))
        refine wpAny_bind (wpAny_setState_of ho hd R.fits ?_)
        dsimp only
        by_cases hkk : p.1 = k
        · refine wp_if_pos (by simp [hkk]) ?_
          exact wpAny_pure (hin (List.mem_map.mpr ⟨p, hmem, hkk⟩))
        · refine wp_if_neg (by simp [hkk]) ?_
          try refine wpAny_bind (wpAny_pure ?_)
          rw [sameMem]
          dsimp only
          simp only [if_true, live, R.entry hp]
          refine wpAny_bind (wpAny_isSame_ref_self (wpAny_bind (wpAny_pure ?_)))
          simp only [if_true]
          refine wp_if_neg (by simp [hkk]) ?_
          rw [← hh]
          refine nsearch R hx hu hKf (by rw [hh]; exact hK) (by rw [hh]; exact hKb) hin (by rw [hh]; exact hout) f (c + (q + 1)) _ (by rw [hh]; rfl) (by omega) (by omega) fun i0 p0 h0 hk0 => ?_
          rw [hh]
          obtain ⟨c', a1, a2, a3⟩ := hre i0 p0 h0 hk0
          have hh0 : p0.1.hash w = h := by rw [hk0, hh]
          refine ⟨c', ?_, a2, a3⟩
          rcases Nat.lt_trichotomy c' (c + q) with z | z | z
          · exfalso
            exact hno (c' - c) i0 (by omega) (by rw [ways_j, show c + (c' - c) = c' by omega]; exact a3) ((hash_at i0 p0 h0).trans hh0)
          · exfalso
            rw [z] at a3
            have s0 := slot_live R.tab.ris a3
            rw [live] at s0
            injection s0 with s0
            rw [← s0, hp] at h0
            exact hkk ((congrArg Prod.fst (Option.some.inj h0)).trans hk0)
          · omega
      by_cases hl : t.led = true
      · refine wp_if_neg (by simp [hl]) ?_
        try refine wpAny_bind (wpAny_pure ?_)
        exact go
      · refine wp_if_pos (by simp [hl]) ?_
        refine wpAny_bind (seen_keys hx (fun y hy => ?_) ?_)
        · obtain ⟨e, he, ee⟩ := List.mem_map.mp hy
          have he1 : e ∈ es ∧ e.1 = h := by simpa using he
          have he2 : e ∈ es.toList := by simpa using he1.1
          rw [R.rows] at he2
          obtain ⟨p2, hp2, e2⟩ := List.mem_map.mp he2
          exact ⟨p2.1, p2.2, by rw [← ee, ← e2], R.keys p2 hp2⟩
        · refine wp_if_neg (by decide) ?_
          try refine wpAny_bind (wpAny_pure ?_)
          exact go
    · -- the empty place
      rw [ways_j, show c + (K - c) = K by omega] at hpr
      have hpr' : t.probe (fun i => (es[i]?.map (·.1)).getD 0) h (stand.getD (t.probeStart h)) = some (.empty (way t.mask h K) none) := by
        rw [hst]
        exact hpr
      rw [hpr']
      dsimp only
      refine wpAny_pure (hout fun hm => ?_)
      obtain ⟨p0, h0, hk0⟩ := List.mem_map.mp hm
      obtain ⟨i0, hi0, e0⟩ := List.getElem_of_mem h0
      have h00 : L[i0]? = some p0 := by rw [List.getElem?_eq_getElem hi0, e0]
      obtain ⟨c', a1, a2, a3⟩ := hre i0 p0 h00 hk0
      exact hno (c' - c) i0 (by omega) (by rw [ways_j, show c + (c' - c) = c' by omega]; exact a3) ((hash_at i0 p0 h00).trans (by rw [hk0, hh]))

/-- as adding asks for it -/
theorem nsearch_at (R : NSet P w s.heap a L es ep t) {x : Addr} {k : NestedKey} (hx : IsN P w s.heap k x) (hu : A.units + 8 < cLine) {Q : SetFound → Shared → Prop}
    (hin : k ∈ L.map (·.1) → Q (.there none) s)
    (hout : ∀ K, k ∉ L.map (·.1) → way t.mask (k.hash w) K ∉ t.place.toList → (∀ c, c < K → way t.mask (k.hash w) c ∈ t.place.toList) → Q (.free (way t.mask (k.hash w) K) false) s) :
    wpAny (model P w) A (setSearch a (.ref x) (k.hash w) true) Q E s := by
  have hroom := R.room
  obtain ⟨K, hKf, hK, hKb⟩ := R.tab.first (by rw [List.length_map]; omega) (k.hash w)
  have hbig : K < 100000 := by
    have : 10 * SetTable.turns t.mask ≤ 1420 := by
      unfold SetTable.turns
      rcases R.tab.mok with e | e | e <;> omega
    omega
  unfold setSearch
  refine nsearch R hx hu hKf hK hKb hin (fun hn => hout K hn hK hKb) 100000 0 none rfl (Nat.zero_le _) (by omega) fun i p hp hk => ?_
  have hi : (hshs w L)[i]? = some (k.hash w) := by rw [List.getElem?_map, hp, ← hk]; rfl
  have hil : i < t.place.toList.length := by
    rw [R.places]
    exact (List.getElem?_eq_some_iff.mp hp).1
  have hj := List.getElem?_eq_getElem hil
  obtain ⟨c, hc, e⟩ := R.tab.before hK hi hj
  exact ⟨c, Nat.zero_le _, hc, by rw [hj, e]⟩
/-- a key's tuple isn't the set -/
theorem isN_but {h h' : Heap} {k : NestedKey} {a b : Addr} {o : Obj} {es : Array (Int × Value)} {ep : Nat} {t : SetTable} (hb : IsN P w h k b) (ho : h.get? a = some o) (hd : o.data = .set es ep t) (hs : Heap.SameBut a h h') : IsN P w h' k b :=
  ⟨nestedKind_stays.stays (fun c oc vs n hc hv => (hs.2 c (fun e => by
    subst e
    rw [ho] at hc
    cases hc
    rw [hd] at hv
    cases hv)).trans hc) hb.key, hb.ok⟩
/-- the rows in another order -/
theorem rows_order (L : List (NestedKey × Addr)) (es : Array (Int × Value)) (order : Array Nat) (hr : es.toList = rowN w L) (hp : order.toList.Perm (List.range L.length)) :
    ∃ L2, (order.filterMap (es[·]?)).toList = rowN w L2 ∧ L2.Perm L ∧ hshs w L2 = order.toList.map fun i => (es.map (·.1)).getD i 0 := by
  have get : ∀ i (h : i < L.length), es[i]? = some (L[i].1.hash w, Value.ref L[i].2) := fun i h => by
    rw [← Array.getElem?_toList, hr, rowN_get (List.getElem?_eq_getElem h)]
  have key : ∀ l : List Nat, (∀ i ∈ l, i < L.length) → ∃ L2 : List (NestedKey × Addr), l.filterMap (fun i => es[i]?) = rowN w L2 ∧ L2 = l.filterMap (fun i => L[i]?) ∧ hshs w L2 = l.map fun i => (es.map (·.1)).getD i 0 := by
    intro l
    induction l with
    | nil => exact fun _ => ⟨[], rfl, rfl, rfl⟩
    | cons i l ih =>
      intro hl
      have hi := hl i List.mem_cons_self
      obtain ⟨L2, e1, e2, e3⟩ := ih fun j hj => hl j (List.mem_cons_of_mem _ hj)
      refine ⟨L[i] :: L2, ?_, ?_, ?_⟩
      · rw [List.filterMap_cons_some (get i hi), e1]
        rfl
      · rw [List.filterMap_cons_some (List.getElem?_eq_getElem hi), e2]
      · have e5 : (es.map (·.1))[i]? = some (L[i].1.hash w) := by rw [Array.getElem?_map, get i hi]; rfl
        have e4 : (es.map (·.1)).getD i 0 = L[i].1.hash w := by simp [Array.getD_eq_getD_getElem?, e5]
        show L[i].1.hash w :: hshs w L2 = _
        rw [List.map_cons, e4, e3]
  obtain ⟨L2, e1, e2, e3⟩ := key order.toList fun i hi => List.mem_range.mp (hp.mem_iff.mp hi)
  have all : ∀ n, n ≤ L.length → (List.range n).filterMap (fun i => L[i]?) = L.take n := by
    intro n
    induction n with
    | zero => exact fun _ => rfl
    | succ n ih =>
      intro hn
      rw [List.range_succ, List.filterMap_append, ih (by omega), List.take_succ, List.getElem?_eq_getElem hn, List.filterMap_cons_some (List.getElem?_eq_getElem hn)]
      rfl
  refine ⟨L2, by first | (rw [Array.toList_filterMap]; exact e1) | simpa using e1, ?_, e3⟩
  have h2 := all L.length (Nat.le_refl _)
  rw [List.take_length] at h2
  have h1 := hp.filterMap fun i => L[i]?
  rw [h2, ← e2] at h1
  exact h1
/-- the table laid anew with 32 places -/
theorem nrelay {o : Obj} (ho : s.heap.get? a = some o) (hex : o.ExactSet) (hd : o.data = .set es ep t) (hrows : es.toList = rowN w L) (hsz : t.place.size = es.size) (hdm : t.dummies = #[]) (hfl : es.size ≤ t.mask)
    (nd : (L.map (·.1)).Nodup) (keys : ∀ p ∈ L, IsN P w s.heap p.1 p.2) (pl : t.plain = true) (ld : w.params.followText "set-order" = true ∨ t.led = true) (few : L.length ≤ 12) {wanted : Nat} (hw : SetTable.sizeAbove wanted = 32) {Q : Unit → Shared → Prop}
    (hQ : ∀ h' L' es' ep' t', Heap.SameBut a s.heap h' → NSet P w h' a L' es' ep' t' → L'.Perm L → Q () { s with heap := h' }) : wpAny (model P w) A (setRelay a wanted) Q E s := by
  have hsl : es.size = L.length := by rw [← Array.length_toList, hrows, rowN_len]
  have hfits : t.fits es.size = true := by
    unfold SetTable.fits SetTable.fill
    rw [hdm, Bool.and_eq_true, beq_iff_eq, decide_eq_true_eq]
    show t.place.size = es.size ∧ t.place.size + 0 ≤ t.mask
    omega
  obtain ⟨t', order, e, hp, T, em, el, ep', ed⟩ := relaid_ok t (hs := es.map (·.1)) (wanted := wanted) (M := 31) (by rw [hw]) (.inr (.inl rfl)) (by rw [Array.size_map, hsl]; omega)
  rw [Array.size_map, hsl] at hp
  obtain ⟨L2, r1, r2, r3⟩ := rows_order L es order hrows hp
  rw [← r3] at T
  have hs2 : (order.filterMap (es[·]?)).size = es.size := by rw [← Array.length_toList, r1, rowN_len, r2.length_eq, hsl]
  rw [setRelay_eq]
  refine wpAny_bind (wpAny_setState_of ho hd hfits ?_)
  dsimp only
  refine wp_if_neg (by rw [sizeLine_eq, hw]; omega) ?_
  try refine wpAny_bind (wpAny_pure ?_)
  rw [e]
  dsimp only
  refine wpAny_bind ?_
  refine wp_if_neg (by rw [hs2]; simp) ?_
  try refine wpAny_bind (wpAny_pure ?_)
  refine wpAny_pure ?_
  dsimp only
  refine wpAny_storeSet_of ho hd ?_ (by rw [hs2, hsl, sizeLine_eq]; omega)
  have sb : Heap.SameBut a s.heap (s.heap.update a (Obj.putSet (order.filterMap (es[·]?)) t')) := Heap.SameBut.update ..
  refine hQ _ L2 (order.filterMap (es[·]?)) (ep + 1) t' sb ⟨⟨_, store_at ho hd, ⟨hex.1, hex.2.1, hex.2.2⟩, rfl⟩, r1, T, (r2.map (·.1)).nodup_iff.mpr nd, fun p hpm => isN_but (keys p (r2.mem_iff.mp hpm)) ho hd sb, by rw [ep']; exact pl, by rw [el]; exact ld, ?_, by rw [r2.length_eq]; exact few⟩ r2
  rw [r2.length_eq, em]
  omega
theorem rows_ins (L : List (NestedKey × Addr)) (p : Nat) (x : NestedKey × Addr) : rowN w (L.take p ++ x :: L.drop p) = (rowN w L).take p ++ (x.1.hash w, Value.ref x.2) :: (rowN w L).drop p := by
  unfold rowN
  rw [List.map_append, List.map_cons, List.map_take, List.map_drop]
theorem hshs_ins (L : List (NestedKey × Addr)) (p : Nat) (x : NestedKey × Addr) : hshs w (L.take p ++ x :: L.drop p) = (hshs w L).take p ++ x.1.hash w :: (hshs w L).drop p := by
  show List.map _ _ = (List.map _ _).take p ++ _ :: (List.map _ _).drop p
  rw [List.map_append, List.map_cons, List.map_take, List.map_drop]
/-- ADDING -/
theorem nadd (R : NSet P w s.heap a L es ep t) {x : Addr} {k : NestedKey} (hx : IsN P w s.heap k x) (hu : A.units + 8 < cLine) (hfew : L.length < 12) {Q : Bool → Shared → Prop}
    (hQ : ∀ b h' L' es' ep' t', Heap.SameBut a s.heap h' → NSet P w h' a L' es' ep' t' → (k ∈ L.map (·.1) → L' = L) → (k ∉ L.map (·.1) → L'.Perm ((k, x) :: L)) → Q b { s with heap := h' }) :
    wpAny (model P w) A (setAddHashed a (.ref x) (k.hash w)) Q E s := by
  obtain ⟨o, ho, hex, hd⟩ := R.ob
  have hsl := R.size
  have hroom := R.room
  unfold setAddHashed
  refine wpAny_holding ?_
  rw [show (100000 : Nat) = 99999 + 1 from rfl, setAddHashedIn_succ]
  refine wpAny_bind (wpAny_setState_of ho hd R.fits ?_)
  dsimp only
  refine wp_if_neg (by simp [byScan, Value.scannable]) ?_
  try refine wpAny_bind (wpAny_pure ?_)
  refine wpAny_bind (nsearch_at R hx hu (fun hm => ?_) fun K hm hK hb => ?_)
  · dsimp only
    exact wpAny_pure (hQ false s.heap L es ep t (Heap.SameBut.refl a s.heap) R (fun _ => rfl) fun z => absurd hm z)
  · dsimp only
    refine wpAny_bind (wpAny_setState_of ho hd R.fits ?_)
    dsimp only
    obtain ⟨q1, q2, q3, q4, q5, q6, q7, q8, q9⟩ := R.tab.put hK hb
    have hp1 : (t.put (way t.mask (k.hash w) K)).1.plain = true := by rw [q6]; exact R.plain
    generalize hpt : t.put (way t.mask (k.hash w) K) = pt at q1 q3 q4 q5 q6 q7 q8 q9 hp1 ⊢
    obtain ⟨t1, p⟩ := pt
    dsimp only at q1 q3 q4 q5 q6 q7 q8 q9 hp1 ⊢
    subst q1
    first
      | (refine wpAny_bind ?_; refine wp_if_pos hp1 ?_; refine hx.plainly.2 _ _ _ ?_)
      | refine wp_if_pos hp1 (wpAny_bind (hx.plainly.2 _ _ _ ?_))
    simp only [if_true]
    generalize SetTable.below t.place (way t.mask (k.hash w) K) = p at q2 q3 ⊢
    have hin : (SetTable.insertAt es p (k.hash w, Value.ref x)).toList = rowN w (L.take p ++ (k, x) :: L.drop p) := by
      rw [SetTable.toList_insertAt, rows_ins, R.rows]
    have pm := put_perm L p (k, x)
    have hlen : (L.take p ++ (k, x) :: L.drop p).length = L.length + 1 := pm.length_eq
    rw [← hshs_ins L p (k, x)] at q3
    have nd1 : ((L.take p ++ (k, x) :: L.drop p).map (·.1)).Nodup := (pm.map (·.1)).nodup_iff.mpr (by
      rw [List.map_cons]
      exact List.nodup_cons.mpr ⟨hm, R.nd⟩)
    have hes : (SetTable.insertAt es p (k.hash w, Value.ref x)).size = L.length + 1 := by rw [← Array.length_toList, hin, rowN_len, hlen]
    generalize SetTable.insertAt es p (k.hash w, Value.ref x) = es1 at hin hes ⊢
    generalize L.take p ++ (k, x) :: L.drop p = L1 at pm hlen q3 nd1 hin
    refine wpAny_bind (wpAny_storeSet_of ho hd ?_ (by rw [hes, sizeLine_eq]; omega))
    have sb : Heap.SameBut a s.heap (s.heap.update a (Obj.putSet es1 t1)) := Heap.SameBut.update ..
    have ho1 := store_at (es' := es1) (t' := t1) ho hd
    generalize s.heap.update a (Obj.putSet es1 t1) = h1 at sb ho1 ⊢
    have keys1 : ∀ p ∈ L1, IsN P w h1 p.1 p.2 := fun p hp => by
      rcases List.mem_cons.mp (pm.mem_iff.mp hp) with e | hp
      · rw [e]
        exact isN_but hx ho hd sb
      · exact isN_but (R.keys p hp) ho hd sb
    have ld1 : w.params.followText "set-order" = true ∨ t1.led = true := by rw [q5]; exact R.led
    have hrm := R.room
    rw [List.length_map] at q9
    by_cases hf : t1.tooFull = true
    · first
        | (refine wpAny_bind ?_; refine wp_if_pos (by simp [hf]) ?_)
        | (refine wp_if_pos (by simp [hf]) ?_; refine wpAny_bind ?_)
      have hfull : (L.length + 1) * 5 ≥ t1.mask * 3 := by
        have h := hf
        unfold SetTable.tooFull at h
        rw [decide_eq_true_eq, q9] at h
        exact h
      rw [hsl]
      have hsz1 : t1.place.size = es1.size := by
        have h := q3.sz
        rw [List.length_map, hlen] at h
        rw [h, hes]
      have four : t.mask = 7 ∧ L.length = 4 := by
        rw [q4] at hfull
        rcases R.tab.mok with e | e | e
        · rw [e] at hfull hrm
          exact ⟨e, by omega⟩
        · exfalso
          rw [e] at hfull
          omega
        · exfalso
          rw [e] at hfull
          omega
      refine nrelay (s := { s with heap := h1 }) ho1 ⟨hex.1, hex.2.1, hex.2.2⟩ rfl hin hsz1 q3.dm (by rw [hes, q4, four.1, four.2]; decide) nd1 keys1 hp1 ld1 (by rw [hlen]; exact hfew) (by rw [four.2, size_20]) ?_
      intro h2 L2 es2 ep2 t2 sb2 R2 pm2
      exact wpAny_pure (hQ true h2 L2 es2 ep2 t2 (sb.trans sb2) R2 (fun z => absurd z hm) fun _ => pm2.trans pm)
    · first
        | refine wp_if_neg (by simp [hf]) ?_
        | (refine wpAny_bind ?_; refine wp_if_neg (by simp [hf]) ?_; refine wpAny_pure ?_)
      refine wpAny_pure (hQ true h1 L1 es1 (ep + 1) t1 sb ⟨⟨_, ho1, ⟨hex.1, hex.2.1, hex.2.2⟩, rfl⟩, hin, q3, nd1, keys1, hp1, ld1, ?_, by rw [hlen]; exact hfew⟩ (fun z => absurd z hm) fun _ => pm)
      have h := hf
      unfold SetTable.tooFull at h
      rw [decide_eq_true_eq, q9] at h
      rw [hlen]
      omega
end
end K34
/-! set(xs) of a list: the call's shell once, for any members; then for whole numbers and for nested tuples. -/
namespace K34
open PySem PySem.Spec PyProof.Rows L2
section
variable {P : Program} {w : World} {A : Around} {E : Value → Shared → Prop} {s : Shared}
/-- the empty set's object as the call makes it -/
abbrev newSet (w : World) : Obj := { cls := .type "set", dict := none, data := .set #[] 0 (.fresh 0 0 (!w.params.followText "set-order")) }
/-- the heap ahead of the filling loop: the set, the list's iterator -/
abbrev fillHeap (w : World) (h : Heap) (l : Addr) : Heap := (h.push (newSet w)).push { cls := .type "list_iterator", data := .fields #[.ref l, .int 0 0] }
set_option maxHeartbeats 3200000 in
/-- set(xs): what is left to be shown is the filling loop -/
theorem set_shell {l : Addr} {items : Array Value} {Q : Value → Shared → Prop} (hh : A.handled = none) (hl : s.heap.IsList l items)
    (h : ∀ A' : Around, A'.handled = none → A'.units ≤ A.units + 3 →
      codeAny (model P w) A' (.builtin "set.update.loop" ⟨[.ref s.heap.objs.size, .ref (s.heap.objs.size + 1)], []⟩) (fun r s' => r = .ok (.ret .none) ∧ Q (.ref s.heap.objs.size) s') { s with heap := fillHeap w s.heap l }) :
    wpAny (model P w) A (call (.type "set") [.ref l]) Q E s := by
  obtain ⟨c, tl, hmro⟩ := PySem.F.called_set.mro
  have hmade := PySem.F.called_set.made
  have hsub := PySem.F.called_set.sub
  refine wpAny_call (codeAny_of_tree ?_)
  show wpAny _ _ (callAny (.type "set") _) _ _ _
  refine wpAny_pure ⟨Code.quiet_builtin _ (by decide +kernel), codeAny_builtin PySem.F.entry_type_call ?_⟩
  rw [Around.under_plain (weight_type_call_type "set" [.ref l] []) rfl]
  have h1 := PySem.F.called_set.notType
  have h2 := PySem.F.called_set.canCreate
  have hct := PySem.F.typeCall_set_1 (.ref l)
  repeat (any_goals (first | assumption | wp_step))

  refine codeAny_mono (code_set_led1 (.ref l) (E := E) (Q₁ := fun obj s₁ => obj = .ref s.heap.objs.size ∧ s₁ = { s with heap := s.heap.push (newSet w) }) ⟨rfl, rfl⟩) fun r s₁ hr => ?_
  cases r with
  | error e => exact hr
  | ok fl =>
    cases fl with
    | ret obj =>
      obtain ⟨rfl, rfl⟩ := hr
      have hS : (s.heap.push (newSet w)).get? s.heap.objs.size = some (newSet w) := Heap.get?_push_size _ rfl
      have hT : Shared.TypeIs { s with heap := s.heap.push (newSet w) } (.ref s.heap.objs.size) "set" := ⟨_, hS, rfl⟩
      have hli := PySem.F.called_set.init.lookup
      have hbi := PySem.F.called_set.init.bind (.ref s.heap.objs.size)
      repeat (any_goals (first | assumption | wp_step))

      refine codeAny_mono (codeAny_call_builtin (R := wants (fun r s₂ => r = .none ∧ Q (.ref s.heap.objs.size) s₂) E) PySem.F.called_set.init.plain PySem.F.entry_set_init (check_set_init_1 hT ?_)) fun r₂ s₂ hr₂ => ?_
      · obtain ⟨ol, hol, hcl, nl, hdl⟩ := hl
        obtain ⟨ocls, odict, odata, oslots⟩ := ol
        simp only at hcl hdl
        subst hcl; subst hdl
        have hol' : (s.heap.push (newSet w)).get? l = some { cls := .type "list", dict := odict, data := .seq items nl, slots := oslots } := Heap.get?_push_of_some _ hol
        have hsls := PySem.F.sub_list_set
        have hslf := PySem.F.sub_list_frozenset
        have hne : (Value.type "list" == Value.type "dict") = false := by decide
        have hl1 : (s.heap.push (newSet w)).IsList l items := ⟨_, hol', rfl, nl, rfl⟩
        unfold Builtin.«set.__init__» noKeywords Builtin.Frozenset.updateFrom
        generalize hPI : pyIter = PI
        wp_walk
        subst hPI

        refine wpAny_pyIter_list hl1 ?_
        refine wpAny_bind (wpAny_runValue ?_)
        have hz1 : (s.heap.push (newSet w)).objs.size = s.heap.objs.size + 1 := Heap.size_push ..
        show codeAny (model P w) _ (.builtin "set.update.loop" ⟨[.ref s.heap.objs.size, .ref (s.heap.push (newSet w)).objs.size], []⟩) _ _
        rw [hz1]
        refine codeAny_mono (h _ (by simp [hh]) ?_) fun r s' hr => ?_
        · simp only [Around.in1_units]
          omega
        · obtain ⟨rfl, q⟩ := hr
          show wpAny _ _ _ _ _ _
          refine wpAny_pure ?_
          show wpAny _ _ (ret Value.none) _ _ _
          exact wpAny_pure ⟨rfl, q⟩

      · cases r₂ with
        | error e => exact hr₂
        | ok fl₂ =>
          cases fl₂ with
          | ret r =>
            obtain ⟨rfl, q⟩ := hr₂
            repeat (any_goals (first | assumption | wp_step))
          | _ => exact hr₂.elim
    | _ => exact hr.elim
end
end K34
/-! The filling loops, and the rules by values: set(xs), sorted(set). -/
namespace K34
open PySem PySem.Spec PyProof.Rows L2
section
variable {P : Program} {w : World} {A : Around} {E : Value → Shared → Prop} {s : Shared}
theorem fill_S (w : World) (h : Heap) (l : Addr) : (fillHeap w h l).get? h.objs.size = some (newSet w) := Heap.get?_push_of_some _ (Heap.get?_push_size _ rfl)
theorem fill_old {w : World} {h : Heap} {l b : Addr} {o : Obj} (e : h.get? b = some o) : (fillHeap w h l).get? b = some o := Heap.get?_push_of_some _ (Heap.get?_push_of_some _ e)
theorem fill_it (w : World) (h : Heap) (l : Addr) : (fillHeap w h l).get? (h.objs.size + 1) = some { cls := .type "list_iterator", data := .fields #[.ref l, .int 0 0] } := by
  have e : (h.push (newSet w)).objs.size = h.objs.size + 1 := Heap.size_push ..
  show ((h.push (newSet w)).push _).get? _ = _
  rw [← e]
  exact Heap.get?_push_size _ rfl
theorem back_state {s s' : Shared} (hg : s'.gens = s.gens) (hd : s'.drawn = s.drawn) (ho : s'.os = s.os) : s' = { s with heap := s'.heap, toks := s'.toks } := by
  cases s
  cases s'
  simp only at hg hd ho
  subst hg
  subst hd
  subst ho
  rfl
theorem lt_ne {n : Nat} {b : Addr} (h : b < n) : b ≠ n ∧ b ≠ n + 1 := ⟨Nat.ne_of_lt h, Nat.ne_of_lt (Nat.lt_succ_of_lt h)⟩
/-- set(xs), whole numbers -/
theorem call_set_ints {l : Addr} {items : Array Value} (ns : List Int) {Q : Value → Shared → Prop} (hh : A.handled = none) (hl : s.heap.IsList l items) (hit : IntsAre items.toList ns) (hb : ns.length + 1 < scanBound)
    (h : ∀ (h' : Heap) (tk c : Nat), SetR w h' s.heap.objs.size (fun j => decide (j ∈ ns)) c → c ≤ ns.length → (∀ b o, s.heap.get? b = some o → h'.get? b = some o) → Q (.ref s.heap.objs.size) { s with heap := h', toks := tk }) :
    wpAny (model P w) A (call (.type "set") [.ref l]) Q E s := by
  have hisz : items.size = ns.length := by
    have q := IntsAre.length hit
    rw [Array.length_toList] at q
    exact q
  obtain ⟨ol, hol, _⟩ := id hl
  have hlS := lt_ne (Heap.lt_size hol)
  refine set_shell hh hl fun A' ha hu => ?_
  have hval : ∀ (i : Nat) (v : Value), items[i]? = some v → ∃ k t, ns[i]? = some k ∧ v = .int k t := fun i v hv => by
    have hi : i < ns.length := by rw [← hisz]; exact (Array.getElem?_eq_some_iff.mp hv).1
    obtain ⟨t, e⟩ := PyProof.Rows.IntsAre.int_at hit i v (by rw [Array.getElem?_toList]; exact hv)
    refine ⟨ns[i], t, List.getElem?_eq_getElem hi, ?_⟩
    rw [e, List.getD_eq_getElem?_getD, List.getElem?_eq_getElem hi]
    rfl
  have hl' : (fillHeap w s.heap l).IsList l items := by
    obtain ⟨o, e, r⟩ := hl
    exact ⟨o, fill_old e, r⟩
  refine set_update_ints ((Walks.list (A := A'.in1) (by simp [ha]) (s.heap.objs.size + 1) l hlS.2 items).toS) s.heap.objs.size ?_ ns hisz hb hval (items.size - 0) 0 _ (by omega) (Nat.zero_le _)
    ⟨⟨_, fill_it w s.heap l, rfl, rfl⟩, hl'⟩ ⟨0, Nat.le_refl _, setR_new_at (fill_S w s.heap l)⟩ fun s' c hm hc hS => ⟨rfl, ?_⟩
  · simp only [List.mem_cons, List.not_mem_nil, or_false, not_or]
    exact ⟨Nat.ne_of_lt (Nat.lt_succ_self _), hlS.1.symm⟩
  · rw [back_state (s := s) (s' := s') hm.gens hm.drawn hm.os]
    rw [hisz] at hc
    refine h _ _ c hS hc fun b o e => ?_
    have hb0 := lt_ne (Heap.lt_size e)
    exact hm.heap b o (by simp only [List.mem_cons, List.not_mem_nil, or_false, not_or]; exact hb0) (fill_old e)

/-! ### nested tuples -/
/-- what the set holds of the first i items -/
structure Had (ks : List (NestedKey × Addr)) (i : Nat) (L : List (NestedKey × Addr)) : Prop where
  sub : ∀ p ∈ L, p ∈ ks.take i
  all : ∀ p ∈ ks.take i, p.1 ∈ L.map (·.1)
  len : L.length ≤ i
theorem Had.zero (ks : List (NestedKey × Addr)) : Had ks 0 [] := ⟨fun p h => (by cases h), fun p h => (by simp at h), Nat.le_refl _⟩
theorem take_one {α : Type} {l : List α} {i : Nat} {x : α} (h : l[i]? = some x) : l.take (i + 1) = l.take i ++ [x] := by
  rw [List.take_succ, h]
  rfl
theorem Had.next {ks L L' : List (NestedKey × Addr)} {i : Nat} {x : NestedKey × Addr} (g : Had ks i L) (h : ks[i]? = some x) (h1 : x.1 ∈ L.map (·.1) → L' = L) (h2 : x.1 ∉ L.map (·.1) → L'.Perm (x :: L)) : Had ks (i + 1) L' := by
  rcases Classical.em (x.1 ∈ L.map (·.1)) with c | c
  · rw [h1 c]
    refine ⟨fun p hp => ?_, fun p hp => ?_, Nat.le_succ_of_le g.len⟩
    · rw [take_one h]
      exact List.mem_append_left _ (g.sub p hp)
    · rw [take_one h] at hp
      rcases List.mem_append.mp hp with z | z
      · exact g.all p z
      · rw [List.mem_singleton.mp z]
        exact c
  · have pm := h2 c
    refine ⟨fun p hp => ?_, fun p hp => ?_, ?_⟩
    · rw [take_one h]
      rcases List.mem_cons.mp (pm.mem_iff.mp hp) with e | z
      · rw [e]
        exact List.mem_append_right _ (List.mem_singleton.mpr rfl)
      · exact List.mem_append_left _ (g.sub p z)
    · rw [(pm.map (·.1)).mem_iff, List.map_cons]
      rw [take_one h] at hp
      rcases List.mem_append.mp hp with z | z
      · exact List.mem_cons_of_mem _ (g.all p z)
      · rw [List.mem_singleton.mp z]
        exact List.mem_cons_self
    · rw [pm.length_eq, List.length_cons]
      exact Nat.succ_le_succ g.len
theorem nset_new {h : Heap} {a : Addr} (ho : h.get? a = some (newSet w)) : NSet P w h a [] #[] 0 (.fresh 0 0 (!w.params.followText "set-order")) where
  ob := ⟨_, ho, ⟨rfl, rfl, rfl⟩, rfl⟩
  rows := rfl
  tab := ⟨List.Pairwise.nil, rfl, rfl, .inl rfl, fun x hx => (by cases hx), fun i h j hi => (by simp at hi)⟩
  nd := List.nodup_nil
  keys := fun p hp => (by cases hp)
  plain := rfl
  led := by
    show _ ∨ (!w.params.followText "set-order") = true
    cases w.params.followText "set-order"
    · exact .inr rfl
    · exact .inl rfl
  room := by
    show 0 * 5 < 7 * 3
    decide
  few := Nat.zero_le _
theorem NSet.kept {h h' : Heap} {a : Addr} {L : List (NestedKey × Addr)} {es : Array (Int × Value)} {ep : Nat} {t : SetTable} (R : NSet P w h a L es ep t) (ha : ∀ o, h.get? a = some o → h'.get? a = some o) (ht : ∀ p ∈ L, IsN P w h' p.1 p.2) : NSet P w h' a L es ep t := by
  obtain ⟨o, ho, r⟩ := R.ob
  exact ⟨⟨o, ha o ho, r⟩, R.rows, R.tab, R.nd, ht, R.plain, R.led, R.room, R.few⟩
/-- the filling loop -/
theorem fill_keys {I : Addr} {fp wr : List Addr} {G : Array GenState → Array GenState → Prop} {n : Nat} {Pv : Nat → Value → Prop} {St : Nat → Shared → Prop} {R : Result → Shared → Prop}
    (W : WalksS P w A.in1 I fp wr G n Pv St) (S : Addr) (hSf : S ∉ fp) (ks : List (NestedKey × Addr)) (hn : n = ks.length) (hfew : ks.length ≤ 12) (hval : ∀ i v, Pv i v → ∃ p, ks[i]? = some p ∧ v = .ref p.2)
    (h0 : Heap) (hk : ∀ p ∈ ks, IsN P w h0 p.1 p.2) (hS0 : h0.get? S = none) (hw0 : ∀ b ∈ wr, h0.get? b = none) (hu : A.in1.units + 8 < cLine) :
    ∀ (k i : Nat) (s : Shared), n - i = k → i ≤ n → St i s → (∀ b o, h0.get? b = some o → s.heap.get? b = some o) → (∃ L es ep t, NSet P w s.heap S L es ep t ∧ Had ks i L) →
      (∀ s' L es ep t, Moved (S :: wr) G s s' → NSet P w s'.heap S L es ep t → Had ks n L → (∀ b o, h0.get? b = some o → s'.heap.get? b = some o) → R (.ok (.ret .none)) s') →
      codeAny (model P w) A (.builtin "set.update.loop" ⟨[.ref S, .ref I], []⟩) R s := by
  have hSw : S ∉ wr := fun h => hSf (W.sub _ h)
  have hsub : ∀ b ∈ wr, b ∈ S :: wr := fun b hb => List.mem_cons_of_mem _ hb
  have keepM : ∀ {s s' : Shared}, Moved wr G s s' → (∀ b o, h0.get? b = some o → s.heap.get? b = some o) → ∀ b o, h0.get? b = some o → s'.heap.get? b = some o := fun hm hkp b o e =>
    hm.heap b o (fun hb => by rw [hw0 b hb] at e; cases e) (hkp b o e)
  intro k
  induction k with
  | zero =>
    intro i s hk' hi hst hkp ⟨L, es, ep, t, hS, g⟩ hR
    have hin : i = n := by omega
    subst hin
    refine codeAny_builtin PyProof.Rows.F.entry_set_update_loop ?_
    rw [Around.under_plainId PyProof.Rows.F.plain_set_update_loop _]
    show wpAny _ A.in1 (pyNext (.ref I) >>= _) _ _ s
    refine wpAny_bind (W.done s _ _ hst fun s' hm => ?_)
    show wpAny _ A.in1 (ret Value.none) _ _ s'
    have hkp' := keepM hm hkp
    exact wpAny_pure (hR s' L es ep t (hm.mono hsub) (hS.kept (fun o e => hm.heap S o hSw e) fun p hp => (hk p (List.mem_of_mem_take (g.sub p hp))).keep hkp') g hkp')
  | succ k ih =>
    intro i s hk' hi hst hkp ⟨L, es, ep, t, hS, g⟩ hR
    have hlt : i < n := by omega
    refine codeAny_builtin PyProof.Rows.F.entry_set_update_loop ?_
    rw [Around.under_plainId PyProof.Rows.F.plain_set_update_loop _]
    show wpAny _ A.in1 (pyNext (.ref I) >>= _) _ _ s
    refine wpAny_bind (W.item i s _ _ hlt hst fun v s' hP hst' hm => ?_)
    obtain ⟨p, hp, rfl⟩ := hval i v hP
    have hkp' := keepM hm hkp
    have hS' : NSet P w s'.heap S L es ep t := hS.kept (fun o e => hm.heap S o hSw e) fun q hq => (hk q (List.mem_of_mem_take (g.sub q hq))).keep hkp'
    have hx : IsN P w s'.heap p.1 p.2 := (hk p (List.mem_of_getElem? hp)).keep hkp'
    show wpAny _ A.in1 (holding [Value.ref p.2] (setAdd S (.ref p.2)) >>= _) _ _ s'
    refine wpAny_bind (wpAny_holding ?_)
    unfold setAdd
    refine wpAny_holding ?_
    refine wpAny_bind ((nestedKind P w).pyHash (k := p.1) hu hx.key ?_)
    refine nadd (s := { s' with toks := s'.toks + p.1.draws }) hS' hx hu (by have := g.len; omega) fun b h' L' es' ep' t' hsb hS2 c1 c2 => ?_
    have g' : Had ks (i + 1) L' := g.next hp c1 c2
    have hkp2 : ∀ b o, h0.get? b = some o → h'.get? b = some o := fun b o e => (hsb.2 b (fun z => by rw [z, hS0] at e; cases e)).trans (hkp' b o e)
    refine wpAny_pure ⟨plainId_quiet PyProof.Rows.F.plain_set_update_loop _, ih (i + 1) _ (by omega) hlt (W.frame _ s' _ _ hst' (Nat.le_add_right _ _) fun b hb o e => ?_) hkp2 ⟨L', es', ep', t', hS2, g'⟩ fun s'' L2 es2 ep2 t2 hm'' hS'' g'' hkp'' => ?_⟩
    · rw [hsb.2 b (fun h : b = S => hSf (by rw [← h]; exact hb))]
      exact e
    · refine hR s'' L2 es2 ep2 t2 (Moved.trans W.gtrans ((hm.mono hsub).then_heap (Nat.le_add_right _ _) fun b o hb e => ?_) hm'') hS'' g'' hkp''
      rw [hsb.2 b (fun h : b = S => hb (by rw [h]; exact List.mem_cons_self))]
      exact e
/-- set(xs), nested tuples -/
theorem call_set_keys {l : Addr} {items : Array Value} (ks : List (NestedKey × Addr)) {Q : Value → Shared → Prop} (hh : A.handled = none) (hl : s.heap.IsList l items) (hit : items.toList = ks.map fun p => Value.ref p.2)
    (hk : ∀ p ∈ ks, IsN P w s.heap p.1 p.2) (hfew : ks.length ≤ 12) (hu : A.units + 20 < cLine)
    (h : ∀ (h' : Heap) (tk : Nat) L es ep t, NSet P w h' s.heap.objs.size L es ep t → Had ks ks.length L → (∀ b o, s.heap.get? b = some o → h'.get? b = some o) → Q (.ref s.heap.objs.size) { s with heap := h', toks := tk }) :
    wpAny (model P w) A (call (.type "set") [.ref l]) Q E s := by
  have hisz : items.size = ks.length := by rw [← Array.length_toList, hit, List.length_map]
  obtain ⟨ol, hol, _⟩ := id hl
  have hlS := lt_ne (Heap.lt_size hol)
  refine set_shell hh hl fun A' ha hu' => ?_
  have hval : ∀ (i : Nat) (v : Value), items[i]? = some v → ∃ p, ks[i]? = some p ∧ v = .ref p.2 := fun i v hv => by
    have q : items.toList[i]? = some v := by rw [Array.getElem?_toList]; exact hv
    rw [hit, List.getElem?_map] at q
    cases hq : ks[i]? with
    | none => rw [hq] at q; cases q
    | some p =>
      rw [hq] at q
      exact ⟨p, rfl, (Option.some.inj q).symm⟩
  have none_of : ∀ b, s.heap.objs.size ≤ b → s.heap.get? b = none := fun b hb => Heap.get?_none_of_le hb
  have hl' : (fillHeap w s.heap l).IsList l items := by
    obtain ⟨o, e, r⟩ := hl
    exact ⟨o, fill_old e, r⟩
  refine fill_keys ((Walks.list (A := A'.in1) (by simp [ha]) (s.heap.objs.size + 1) l hlS.2 items).toS) s.heap.objs.size ?_ ks hisz hfew hval s.heap hk (none_of _ (Nat.le_refl _)) (fun b hb => ?_) ?_ (items.size - 0) 0 _ (by omega) (Nat.zero_le _)
    ⟨⟨_, fill_it w s.heap l, rfl, rfl⟩, hl'⟩ (fun b o e => fill_old e) ⟨[], #[], 0, _, nset_new (fill_S w s.heap l), Had.zero ks⟩ fun s' L es ep t hm hS g hkp => ⟨rfl, ?_⟩
  · simp only [List.mem_cons, List.not_mem_nil, or_false, not_or]
    exact ⟨Nat.ne_of_lt (Nat.lt_succ_self _), hlS.1.symm⟩
  · rw [List.mem_singleton.mp hb]
    exact none_of _ (Nat.le_succ _)
  · show A'.in1.units + 8 < cLine
    simp only [Around.in1_units]
    omega
  · rw [back_state (s := s) (s' := s') hm.gens hm.drawn hm.os]
    rw [hisz] at g
    exact h _ _ L es ep t hS g hkp
end
end K34
/-! Sorting tuples of which some are empty; the sorted list of a set of keys as a function of its members. -/
namespace PySem.W
open PySem PySem.Calls PyProof.Rows
section
variable {prog : Program} {w : World} {A : Around} {s : Shared} {M : Model} {E : Value → Shared → Prop}
/-- the first item of each tuple, where it has one -/
theorem firsts_any : ∀ {vs : List Value} {ds : List PyData} {Q : List (Option Value) → Shared → Prop}, EachIs (fun v d => ∃ as, Reads s.heap v d as) vs ds → (∀ d, d ∈ ds → ∃ xs, d = .tuple xs) →
    (∀ fs : List (Option Value), fs.length = vs.length → (∀ i : Nat, (fs[i]?.bind id).isSome = true ↔ ∃ x r, ds[i]? = some (.tuple (x :: r))) → Q fs s) → wpAny M A (vs.mapM firstOfTuple') Q E s
  | _, _, Q, .nil, _, h => by
    rw [List.mapM_nil]
    exact wpAny_pure (h [] rfl fun i => by simp)
  | _, _, Q, .cons (a := v) (as := vs) (b := d) (bs := ds) ⟨as, r⟩ t, ht, h => by
    obtain ⟨xs, rfl⟩ := ht d List.mem_cons_self
    cases r with
    | @tuple a o its n _ _ ho hc hd hr =>
      rw [List.mapM_cons]
      refine wpAny_bind ?_
      rw [kas_first_eq]
      refine wpAny_bind (Looks.here (show Looks M s.heap (typeOf (.ref a)) o.cls from (Looks.ld ho).andThen .now) ?_)
      rw [hc, if_neg (by first | decide | simp)]
      refine wpAny_bind (listItems_at ho hd (wpAny_pure ?_))
      refine wpAny_bind (firsts_any t (fun d hd => ht d (List.mem_cons_of_mem _ hd)) fun fs hl hf => ?_)
      refine wpAny_pure (h (its[0]? :: fs) (by rw [List.length_cons, List.length_cons, hl]) fun i => ?_)
      cases i with
      | zero =>
        have e : its[0]? = its.toList[0]? := by rw [Array.getElem?_toList]
        rw [List.getElem?_cons_zero, List.getElem?_cons_zero]
        show (its[0]?).isSome = true ↔ _
        rw [e]
        cases q : its.toList with
        | nil =>
          rw [q] at hr
          cases hr
          refine ⟨fun z => (by cases z), ?_⟩
          rintro ⟨x, r, z⟩
          cases z
        | cons f fr =>
          rw [q] at hr
          cases hr with
          | cons r1 r2 => exact ⟨fun _ => ⟨_, _, rfl⟩, fun _ => rfl⟩
      | succ i =>
        rw [List.getElem?_cons_succ, List.getElem?_cons_succ]
        exact hf i
/-- the first of the data is a tuple with an item -/
def headFull : List PyData → Bool
  | .tuple (_ :: _) :: _ => true
  | _ => false
theorem headFull_iff {ds : List PyData} : headFull ds = true ↔ ∃ x r, ds[0]? = some (.tuple (x :: r)) := by
  cases ds with
  | nil => exact ⟨fun h => (by cases h), fun ⟨x, r, h⟩ => (by cases h)⟩
  | cons d ds =>
    cases d with
    | tuple xs =>
      cases xs with
      | nil => exact ⟨fun h => (by cases h), fun ⟨x, r, h⟩ => (by cases h)⟩
      | cons x r => exact ⟨fun _ => ⟨x, r, rfl⟩, fun _ => rfl⟩
    | _ => exact ⟨fun h => (by cases h), fun ⟨x, r, h⟩ => (by cases h)⟩
/-- the kind that is found where some tuple is empty -/
theorem kind_any {vs : List Value} {ds : List PyData} (h2 : 2 ≤ vs.length) (e : EachIs (fun v d => ∃ as, Reads s.heap v d as) vs ds) (ht : ∀ d, d ∈ ds → ∃ xs, d = .tuple xs) (hemp : PyData.tuple [] ∈ ds) {Q : SortKind → Shared → Prop}
    (h : Q (if headFull ds = true then general' else oneType') s) : wpAny M A (keyKind' vs.toArray) Q E s := by
  rw [kat_kind_eq, List.mapM_toArray, map_eq_pure_bind]
  refine wpAny_bind (wpAny_bind (firsts_any e ht fun fs hl hf => wpAny_pure ?_))
  have hne : ¬ (fs.toArray.all fun x => x.isSome) = true := by
    intro q
    rw [List.all_toArray, List.all_eq_true] at q
    obtain ⟨i, hi, ei⟩ := List.getElem_of_mem hemp
    have hi' : i < fs.length := by
      rw [hl, e.length]
      exact hi
    have q1 := q fs[i] (List.getElem_mem hi')
    have q2 := (hf i).mp (by
      rw [List.getElem?_eq_getElem hi']
      exact q1)
    obtain ⟨x, r, q3⟩ := q2
    rw [List.getElem?_eq_getElem hi, ei] at q3
    cases q3
  rw [if_neg hne]
  have h0 : (fs.toArray[0]?.bind id).isSome = true ↔ headFull ds = true := by
    have q := (hf 0).trans headFull_iff.symm
    rw [← List.getElem?_toArray] at q
    exact q
  by_cases c : headFull ds = true
  · rw [if_pos (h0.mpr c)]
    rw [if_pos c] at h
    exact wpAny_pure h
  · rw [if_neg (fun z => c (h0.mp z))]
    rw [if_neg c] at h
    rw [oneTypeOnly'_eq, List.mapM_toArray, map_eq_pure_bind]
    refine wpAny_bind (wpAny_bind (wpAny_bind (kas_mapM (r := Value.type "tuple") _ (fun v hv Q' hq => ?_) (wpAny_pure ?_))))
    · obtain ⟨d, hd, as, r⟩ := e.left v hv
      obtain ⟨xs, rfl⟩ := ht d hd
      exact (looks_reads r).here hq
    · have hall : ((List.map (fun _ => Value.type "tuple") vs).toArray.all fun x => x == Value.type "tuple") = true := by
        simp only [List.all_toArray, List.all_map, List.all_eq_true]
        intro _ _
        rfl
      obtain ⟨v, r, ev⟩ : ∃ v r, vs = v :: r := by
        cases vs with
        | nil => simp at h2
        | cons v r => exact ⟨v, r, rfl⟩
      subst ev
      have h0 : (List.map (fun _ => Value.type "tuple") (v :: r)).toArray[0]? = some (Value.type "tuple") := by simp
      rw [h0]
      simp only [hall, if_true]
      exact wpAny_pure (wpAny_pure h)
/-- tuple's own __lt__, as sorting calls it -/
theorem oneLt_tup {xs ys : List PyData} {a b : Value} {as bs : List Addr} {Q : Bool → Shared → Prop} (ra : Reads s.heap a (.tuple xs) as) (rb : Reads s.heap b (.tuple ys) bs) (hal : alikeAll xs ys = true)
    (hu : A.units + min (PyData.tuple xs).depth (PyData.tuple ys).depth < cLine) (hq : Q (dataLt (.tuple xs) (.tuple ys)) s) : wpAny (model prog w) A (oneLt' true a b) Q E s := by
  cases ra with
  | @tuple l o vs n _ _ h1 h2 h3 h4 =>
    cases rb with
    | @tuple l' o' vs' n' _ _ k1 k2 k3 k4 =>
      have n1 : vs.size = xs.length := by simpa using SeqAt.ReadsAll.length _ _ _ h4
      have n2 : vs'.size = ys.length := by simpa using SeqAt.ReadsAll.length _ _ _ k4
      rw [dataLt_tuple, ← firstLt_toks xs ys hal, ← n1, ← n2] at hq
      rw [oneLt'_eq]
      simp only [if_true]
      refine wpAny_bind (wpAny_cRoomFor (SeqAt.room_here hu) ?_)
      obtain ⟨ocls, od, odt, osl⟩ := o
      obtain ⟨ocls', od', odt', osl'⟩ := o'
      simp only at h2 h3 k2 k3
      subst h2
      subst h3
      subst k2
      subst k3
      refine wpAny_bind (wpAny_callSpecialIfBound?_slot (T := "tuple") ⟨_, h1, rfl⟩ PySem.F.slot_tuple_lt (call_meets PySem.F.slot_tuple_lt ⟨_, h1, rfl⟩ PySem.F.entry_tuple_lt (PySem.F.args_tuple_lt_2 _ _)
        (SeqAt.tuple_ltAt l l' vs vs' n n' od od' osl osl' (SeqAt.pairEq xs ys) (fun j => dataLt (xs.getD j .none) (ys.getD j .none))) ⟨h1, k1, fun j j1 j2 => ?_, fun j j1 j2 hj => ?_, ?_⟩))
      · have := eqAt_alikeAll xs ys A.in1 s vs.toList vs'.toList _ _ h4 k4 hal (SeqAt.room_in hu) j (by simpa using j1) (by simpa using j2)
        simpa using this
      · have := rcLt_alikeAll xs ys A.in1 s vs.toList vs'.toList _ _ h4 k4 hal (SeqAt.room_in hu) j (by simpa using j1) (by simpa using j2) hj
        simpa using this
      · exact wpAny_truthy_bool hq
/-- tuples of any length, alike, can be sorted -/
theorem SortsAt.tups {vs : List Value} {ds : List PyData} (e : EachIs (fun v d => ∃ as, Reads s.heap v d as) vs ds) (hal : AllAlike ds) (ht : ∀ d, d ∈ ds → ∃ xs, d = .tuple xs) (hu : ∀ d, d ∈ ds → A.units + d.depth < cLine) : SortsAt prog w A s (dataKind s.heap ds) vs := by
  by_cases hemp : PyData.tuple [] ∈ ds
  · refine ⟨fun v hv => ?_, ?_⟩
    · obtain ⟨d, hd, as, r⟩ := e.left v hv
      exact ⟨_, dataKind_some hal hd r⟩
    · refine ⟨if headFull ds = true then general' else oneType', ?_, fun h2 E Q hq => kind_any h2 e ht hemp hq⟩
      intro E x y a b Q ha hb hq
      obtain ⟨d, as, hd, ra, rfl⟩ := dataKind_inv ha
      obtain ⟨d', as', hd', rb, rfl⟩ := dataKind_inv hb
      have room : A.units + min d.depth d'.depth < cLine := Nat.lt_of_le_of_lt (Nat.add_le_add_left (Nat.min_le_left _ _) _) (hu d hd)
      obtain ⟨xs, rfl⟩ := ht d hd
      obtain ⟨ys, rfl⟩ := ht d' hd'
      have hdd := hal _ hd _ hd'
      by_cases c : headFull ds = true
      · rw [if_pos c]
        show wpAny _ _ (oneLt' false x y) _ _ _
        exact oneLt_alike (fun z => by cases z) ra rb hdd (fun z => by cases z) room hq
      · rw [if_neg c, keyLt'_oneType]
        exact oneLt_tup ra rb (by simpa [alike] using hdd) room hq
  · refine SortsAt.data e hal (.inl fun d hd => ?_) hu
    obtain ⟨xs, rfl⟩ := ht d hd
    cases xs with
    | nil => exact absurd hd hemp
    | cons x r => exact ⟨x, r, rfl⟩
variable {β : Type} {vs : List Value} {bs : List β} {enc : β → PyData} {R : Value → β → Prop}
/-- sorted(xs), tuples of any length -/
theorem sorted_tupsAny {l : Addr} {Q : Value → Shared → Prop} (hl : s.heap.IsList l vs.toArray) (e : EachIs R vs bs) (er : EachIs (fun v b => ∃ as, Reads s.heap v (enc b) as) vs bs) (hal : AllAlike (bs.map enc)) (hk : ∀ d, d ∈ bs.map enc → ∃ xs, d = .tuple xs) (hL : bs.length ≤ sizeLine)
    (hu : ∀ b, b ∈ bs → A.units + 2 + (enc b).depth < cLine) (h : ∀ out, out.length = bs.length → EachIs R out (bs.mergeSort (dataLe false enc)) → Q (.ref (s.heap.objs.size + 1)) { s with heap := sortedAll s.heap vs (List.toArray out) }) :
    wpAny (model prog w) A (call (.builtin "sorted") [.ref l]) Q E s := by
  have er' : EachIs (fun v b => ∃ as, Reads (sortingHeap (copyHeap s.heap vs) (s.heap.objs.size + 1) vs) v (enc b) as) vs bs := er.mono fun _ _ ⟨as, r⟩ => ⟨as, PyProof.Rows.Reads.keeps (fun _ _ => sorting_copy_old) r⟩
  exact sorted_vals hl (SortsAt.tups (s := { s with heap := sortingHeap (copyHeap s.heap vs) (s.heap.objs.size + 1) vs }) (each_map (R := fun v d => ∃ as, Reads (sortingHeap (copyHeap s.heap vs) (s.heap.objs.size + 1) vs) v d as) enc er') hal hk (bound_map hu)) (by rw [e.length]; exact hL)
    (h _ (by rw [sortVals_length false rfl]; exact e.length) (sortVals_data false e er' hal))
/-- xs.sort(), tuples of any length -/
theorem list_sort_tupsAny {a : Addr} {n : Nat} {Q : Value → Shared → Prop} (ho : s.heap.get? a = some (seqObj "list" vs.toArray n)) (e : EachIs R vs bs) (er : EachIs (fun v b => ∃ as, Reads s.heap v (enc b) as ∧ a ∉ as) vs bs) (hal : AllAlike (bs.map enc)) (hk : ∀ d, d ∈ bs.map enc → ∃ xs, d = .tuple xs) (hL : bs.length ≤ sizeLine)
    (hu : ∀ b, b ∈ bs → A.units + 1 + (enc b).depth < cLine) (h : ∀ out, out.length = bs.length → EachIs R out (bs.mergeSort (dataLe false enc)) → Q .none { s with heap := sortedHeap s.heap a vs (List.toArray out) }) :
    wpAny (model prog w) A (call (.builtin "list.sort") [.ref a]) Q E s := by
  have er' : EachIs (fun v b => ∃ as, Reads (sortingHeap s.heap a vs) v (enc b) as) vs bs := each_keepBut (h' := sortingHeap s.heap a vs) (fun _ _ hb q => sortingHeap_old hb q) (fun o q => by rw [ho] at q; rw [← Option.some.inj q]) hal er
  refine wpAny_call_entry slot_list_sort ⟨_, ho, rfl⟩ entry_list_sort (list_sort_vals (κ := dataKind (sortingHeap s.heap a vs) (bs.map enc)) ho (SortsAt.tups (s := { s with heap := sortingHeap s.heap a vs }) (each_map (R := fun v d => ∃ as, Reads (sortingHeap s.heap a vs) v d as) enc er') hal hk (bound_map hu)) (by rw [e.length]; exact hL) ⟨.none, rfl, ?_⟩) (args_list_sort _)
  exact h _ (by rw [sortVals_length false rfl]; exact e.length) (sortVals_data false e er' hal)
end
end PySem.W
/-! The rules by values: set(list of keys), sorted(set of keys), sorted(list of tuples). -/
namespace K34
open PySem PySem.Spec PyProof.Rows L2
open PySem.W (dataLe dataLt alike alikeAll keyToks EachIs AllAlike toks_eqv lex_pre)

/-! ### the sorted list of a set's members, as a function -/
def leK (a b : NestedKey) : Bool := dataLe false NestedKey.data a b
theorem leK_total : PySem.W.TotalLe leK := PySem.W.sortLe_total _ false _
theorem toks_inj {x y : PyData} (h : alike x y = true) (e : keyToks x = keyToks y) : PyData.eqv x y = true := by
  cases c : PyData.eqv x y with
  | true => rfl
  | false =>
    have q := (toks_eqv x y h).2 c [.inl 0] [.inl 1]
    rw [e, lex_pre] at q
    rw [lex_irrefl] at q
    revert q
    decide
theorem leK_anti {a b : NestedKey} (h : alike a.data b.data = true) (h1 : leK a b = true) (h2 : leK b a = true) : a = b := by
  have g1 : (!dataLt b.data a.data) = true := h1
  have g2 : (!dataLt a.data b.data) = true := h2
  rw [Bool.not_eq_true'] at g1 g2
  have e : keyToks a.data = keyToks b.data := lex_total (O := itemOrd) _ _ g2 g1
  have q := toks_inj h e
  rw [eqv_dec] at q
  exact of_decide_eq_true q
/-- every two of the keys are alike -/
def Alk (ks : List NestedKey) : Prop := ∀ a ∈ ks, ∀ b ∈ ks, alike a.data b.data = true
def ss (ks : List NestedKey) : List NestedKey := (dd ks).mergeSort leK
theorem mem_ss {ks : List NestedKey} {k : NestedKey} : k ∈ ss ks ↔ k ∈ ks := by
  unfold ss
  rw [List.mem_mergeSort, mem_dd]
theorem ss_nodup (ks : List NestedKey) : (ss ks).Nodup := (List.mergeSort_perm _ _).nodup_iff.mpr (dd_nodup ks)
theorem ss_sorted (ks : List NestedKey) : (ss ks).Pairwise fun a b => leK a b = true := PySem.W.sort_pairwise leK_total _
/-- a sorted list without doubles is told by its members -/
theorem sorted_one {m n : List NestedKey} (ha : ∀ a ∈ m, ∀ b ∈ n, alike a.data b.data = true) (h1 : m.Nodup) (h2 : n.Nodup) (hm : ∀ k, k ∈ m ↔ k ∈ n) (s1 : m.Pairwise fun a b => leK a b = true) (s2 : n.Pairwise fun a b => leK a b = true) : m = n :=
  List.Perm.eq_of_pairwise (fun a b ha' hb' q1 q2 => leK_anti (ha a ha' b hb') q1 q2) s1 s2 ((List.perm_ext_iff_of_nodup h1 h2).mpr hm)
theorem ss_of {ks m : List NestedKey} (ha : Alk ks) (h1 : m.Nodup) (hm : ∀ k, k ∈ m ↔ k ∈ ks) (s1 : m.Pairwise fun a b => leK a b = true) : m = ss ks :=
  sorted_one (fun a h b g => ha a ((hm a).mp h) b (mem_ss.mp g)) h1 (ss_nodup ks) (fun k => (hm k).trans mem_ss.symm) s1 (ss_sorted ks)
theorem ss_iff {ks ls : List NestedKey} (ha : ∀ a ∈ ks, ∀ b ∈ ls, alike a.data b.data = true) : ss ks = ss ls ↔ ∀ k, k ∈ ks ↔ k ∈ ls := by
  constructor
  · intro e k
    rw [← mem_ss, e, mem_ss]
  · intro h
    exact sorted_one (fun a p b q => ha a (mem_ss.mp p) b (mem_ss.mp q)) (ss_nodup ks) (ss_nodup ls) (fun k => by rw [mem_ss, mem_ss]; exact h k) (ss_sorted ks) (ss_sorted ls)
theorem leK_num (i j : Int) : leK (.num i) (.num j) = decide (i ≤ j) := by
  show (!dataLt (PyData.int j) (PyData.int i)) = _
  rw [PySem.W.dataLt_int, PySem.W.not_lt_int]
/-- of whole numbers: the rising list -/
theorem ss_nums {ns ms : List Int} (h1 : ms.Pairwise (· < ·)) (hm : ∀ k, k ∈ ms ↔ k ∈ ns) : ms.map NestedKey.num = ss (ns.map NestedKey.num) := by
  refine ss_of ?_ ?_ ?_ ?_
  · intro a ha b hb
    obtain ⟨i, _, rfl⟩ := List.mem_map.mp ha
    obtain ⟨j, _, rfl⟩ := List.mem_map.mp hb
    rfl
  · refine List.pairwise_map.mpr (h1.imp fun {a b} h e => ?_)
    injection e with e
    omega
  · intro k
    rw [List.mem_map, List.mem_map]
    constructor
    · rintro ⟨i, hi, rfl⟩
      exact ⟨i, (hm i).mp hi, rfl⟩
    · rintro ⟨i, hi, rfl⟩
      exact ⟨i, (hm i).mpr hi, rfl⟩
  · refine List.pairwise_map.mpr (h1.imp fun {a b} h => ?_)
    rw [leK_num]
    exact decide_eq_true (by omega)

/-! ### the set as an object that is tracked -/
def NSetP (P : Program) (w : World) (a : Addr) (L : List (NestedKey × Addr)) (h : Heap) : Prop :=
  ∃ (es : Array (Int × Value)) (ep : Nat) (t : SetTable), (∃ o, h.get? a = some o ∧ o.ExactSet ∧ o.data = .set es ep t) ∧ es.toList = rowN w L ∧ TabOk t (hshs w L) ∧ (L.map (·.1)).Nodup ∧ t.plain = true ∧
    (w.params.followText "set-order" = true ∨ t.led = true) ∧ L.length * 5 < t.mask * 3 ∧ L.length ≤ 12
def NSetO (P : Program) (w : World) (a : Addr) (L : List (NestedKey × Addr)) : HO := .ext (NSetP P w a L)
theorem nsetO_ok {P : Program} {w : World} {H : Hp} {h : Heap} {a : Addr} {L : List (NestedKey × Addr)} (R : NSetP P w a L h) : ObjOk P w H h a (NSetO P w a L) := by
  refine ⟨R, ?_, fun h1 h2 q k => ?_⟩
  · obtain ⟨es, ep, t, ⟨o, ho, r⟩, q⟩ := R
    exact ⟨o, ho⟩
  · obtain ⟨es, ep, t, ⟨o, ho, r⟩, q⟩ := q
    exact ⟨es, ep, t, ⟨o, k o ho, r⟩, q⟩
/-- one kind: all whole numbers, or all tuples -/
def OneKind (ks : List NestedKey) : Prop := (∃ ns : List Int, ks = ns.map .num) ∨ ∀ k ∈ ks, ∃ r, k = .tup r
/-- at p stands the set of the keys ks -/
def SetK (P : Program) (w : World) (H : Hp) (p : Addr) (ks : List NestedKey) : Prop :=
  (∃ (ns : List Int) (n : Nat), ks = ns.map .num ∧ n ≤ 12 ∧ H p = some (SetO w p (fun j => decide (j ∈ ns)) n)) ∨
  (∃ L : List (NestedKey × Addr), (∀ k, k ∈ L.map (·.1) ↔ k ∈ ks) ∧ H p = some (NSetO P w p L) ∧ ∀ q ∈ L, KeyV H q.1 (.ref q.2) ∧ q.1.depth ≤ 8 ∧ ∃ r, q.1 = .tup r)
section
variable {X : Cx} {pins : List (Addr × Obj)} {σ : L2.St} {H : Hp} {s : Shared}
theorem KeyV.isN (I : Inv X pins σ H s) {k : NestedKey} {b : Addr} (h : KeyV H k (.ref b)) (hd : k.depth ≤ 8) : IsN X.prog X.w s.heap k b := ⟨⟨KeyV.nested I h rfl, hd⟩, h.okk⟩
theorem same_upd {H : Hp} {p : Addr} {o : HO} (h : H p = none) : Same H (upd H p o) := fun b u e => by
  rw [upd_ne (ne_of_none e h)]
  exact e
theorem ref_of_tup {H : Hp} {r : List NestedKey} {v : V} (h : KeyV H (.tup r) v) : ∃ a, v = .ref a := let ⟨a, _, e, _⟩ := h; ⟨a, e⟩
/-- keys that are all tuples: where they stand -/
theorem keys_at {H : Hp} : ∀ {ks : List NestedKey} {vs : List V}, KeyVs H ks vs → (∀ k ∈ ks, ∃ r, k = .tup r) → ∃ L : List (NestedKey × Addr), L.map (·.1) = ks ∧ vs = L.map (fun p => V.ref p.2) ∧ ∀ q ∈ L, KeyV H q.1 (.ref q.2)
  | [], vs, h, _ => by
    have e : vs = [] := h
    exact ⟨[], rfl, e, fun q hq => by cases hq⟩
  | k :: ks, vs, h, ht => by
    obtain ⟨v, r, rfl, q, t⟩ := h
    obtain ⟨L, e1, e2, e3⟩ := keys_at t fun k' hk => ht k' (List.mem_cons_of_mem _ hk)
    obtain ⟨kr, rfl⟩ := ht k List.mem_cons_self
    obtain ⟨a, rfl⟩ := ref_of_tup q
    refine ⟨(.tup kr, a) :: L, by rw [List.map_cons, e1], by rw [List.map_cons, e2], fun q' hq => ?_⟩
    rcases List.mem_cons.mp hq with e | hq
    · rw [e]
      exact q
    · exact e3 q' hq
theorem refs_are : ∀ {L : List (NestedKey × Addr)} {us : List Value}, Vals (L.map fun p => V.ref p.2) us → us = L.map fun p => Value.ref p.2
  | [], _, .nil => rfl
  | p :: L, _, .cons r t => by
    cases r
    rw [refs_are t]
    rfl
theorem refs_vals : ∀ (L : List (NestedKey × Addr)), Vals (L.map fun p => V.ref p.2) (L.map fun p => Value.ref p.2)
  | [] => .nil
  | p :: L => .cons rfl (refs_vals L)
theorem ints_are : ∀ {ns : List Int} {us : List Value}, Vals (ns.map V.int) us → IntsAre us ns
  | [], _, .nil => .nil
  | n :: ns, _, .cons r t => by
    obtain ⟨k, rfl⟩ := r
    exact .cons n k (ints_are t)
/-- set(xs) -/
def rSetK (K : PySem.W.Frag) (P : Program) (w : World) : List V → Hp → VK → Prop := fun xs H Q => ∃ (l : Addr) (vs : List V) (ks : List NestedKey), xs = [.ref l] ∧ SqL K H l vs ∧ KeyVs H ks vs ∧ ks.length ≤ 12 ∧ OneKind ks ∧ (∀ k ∈ ks, k.depth ≤ 8) ∧
  ∀ (p : Addr) (H' : Hp), Same H H' → H p = none → SetK P w H' p ks → Q (.ref p) H'
theorem cr_setK (hc : X.calm = true) (hu : X.A.units + 64 < cLine) : CallR X (.type "set") (rSetK X.K X.prog X.w) := by
  intro pins s σ H xs us Q I r h
  obtain ⟨l, vs, ks, rfl, hl, hk, hlen, hone, hdep, q⟩ := h
  rw [Vals.ref1 r]
  obtain ⟨its, rv, pl, hz⟩ := I.list hl
  have hn : H s.heap.objs.size = none := I.hok.fresh (Nat.le_refl _)
  rcases hone with ⟨ns, rfl⟩ | ht
  · have ev := keyVs_nums.mp hk
    subst ev
    rw [List.length_map] at hlen
    refine call_set_ints (P := X.prog) (w := X.w) ns (I.ok.hd hc) pl.isList (by simpa using ints_are rv) (by unfold scanBound; omega) fun h' tk c R hcn k => ?_
    exact ⟨.ref s.heap.objs.size, _, I.laid (t' := tk) k (Nat.le_refl _) (setO_new R), rfl, q _ _ (same_upd hn) hn (.inl ⟨ns, c, rfl, by omega, upd_same⟩)⟩
  · obtain ⟨L, rfl, e2, e3⟩ := keys_at hk ht
    subst e2
    rw [List.length_map] at hlen
    refine call_set_keys (P := X.prog) (w := X.w) L (I.ok.hd hc) pl.isList (by simpa using refs_are rv) (fun p hp => KeyV.isN I (e3 p hp) (hdep _ (List.mem_map.mpr ⟨p, hp, rfl⟩))) hlen (by omega) fun h' tk L' es ep t R g k => ?_
    have hsub : ∀ p ∈ L', p ∈ L := fun p hp => List.mem_of_mem_take (g.sub p hp)
    have sm := same_upd (o := NSetO X.prog X.w s.heap.objs.size L') hn
    refine ⟨.ref s.heap.objs.size, _, I.laid (t' := tk) k (Nat.le_refl _) (nsetO_ok ⟨es, ep, t, R.ob, R.rows, R.tab, R.nd, R.plain, R.led, R.room, R.few⟩), rfl, q _ _ sm hn (.inr ⟨L', fun k => ⟨fun hk' => ?_, fun hk' => ?_⟩, upd_same, fun p hp => ⟨(e3 p (hsub p hp)).same sm, hdep _ (List.mem_map.mpr ⟨p, hsub p hp, rfl⟩), ht _ (List.mem_map.mpr ⟨p, hsub p hp, rfl⟩)⟩⟩)⟩
    · obtain ⟨p, hp, e⟩ := List.mem_map.mp hk'
      exact List.mem_map.mpr ⟨p, hsub p hp, e⟩
    · obtain ⟨p, hp, e⟩ := List.mem_map.mp hk'
      rw [← e]
      exact g.all p (by rw [List.take_length]; exact hp)
/-- the items of a sorted list of keys, by their addresses -/
theorem each_refs : ∀ {out : List Value} {L : List (NestedKey × Addr)}, EachIs (fun v (b : NestedKey × Addr) => v = .ref b.2) out L → out = L.map fun p => Value.ref p.2
  | _, _, .nil => rfl
  | _, _, .cons h t => by
    rw [h, each_refs t]
    rfl
theorem each_self : ∀ (L : List (NestedKey × Addr)), EachIs (fun v (b : NestedKey × Addr) => v = .ref b.2) (L.map fun p => Value.ref p.2) L
  | [] => .nil
  | p :: L => .cons rfl (each_self L)
theorem each_all {R : Value → NestedKey × Addr → Prop} : ∀ (L : List (NestedKey × Addr)), (∀ p ∈ L, R (.ref p.2) p) → EachIs R (L.map fun p => Value.ref p.2) L
  | [], _ => .nil
  | p :: L, h => .cons (h p List.mem_cons_self) (each_all L fun q hq => h q (List.mem_cons_of_mem _ hq))
theorem keyVs_refs {H : Hp} : ∀ {L : List (NestedKey × Addr)}, (∀ q ∈ L, KeyV H q.1 (.ref q.2)) → KeyVs H (L.map (·.1)) (L.map fun p => V.ref p.2)
  | [], _ => .nil
  | p :: L, h => .cons (h p List.mem_cons_self) (keyVs_refs fun q hq => h q (List.mem_cons_of_mem _ hq))
mutual
/-- what a key reads as; no list stands within -/
theorem KeyV.reads0 (I : Inv X pins σ H s) : ∀ {k : NestedKey} {v : V} {u : Value}, KeyV H k v → RelV v u → Reads s.heap u k.data []
  | .none, _, _, h, _ => h.elim
  | .text _, _, _, h, _ => h.elim
  | .num i, v, u, h, r => by
    have e : v = .int i := h
    rw [e] at r
    obtain ⟨t, rfl⟩ := r
    exact .int i t
  | .tup ks, v, u, h, r => by
    obtain ⟨a, xs, e, ha, t⟩ := h
    rw [e] at r
    have r' : u = Value.ref a := r
    subst r'
    obtain ⟨_, its, rv, ⟨o, ho, hc, n, hd⟩⟩ := I.hok a _ ha
    exact .tuple ho hc hd (by
      have q := KeyVs.reads0 I t rv
      simpa using q)
theorem KeyVs.reads0 (I : Inv X pins σ H s) : ∀ {ks : List NestedKey} {xs : List V} {us : List Value}, KeyVs H ks xs → Vals xs us → ReadsAll s.heap us (NestedKey.datas ks) []
  | [], xs, us, h, r => by
    have e : xs = [] := h
    rw [e] at r
    cases r
    exact .nil
  | k :: ks, xs, us, h, r => by
    obtain ⟨v, xr, e, q, t⟩ := h
    rw [e] at r
    cases r with
    | cons r1 r2 => exact .cons (as := []) (bs := []) (KeyV.reads0 I q r1) (KeyVs.reads0 I t r2)
end
theorem alike_of {L : List (NestedKey × Addr)} {ks : List NestedKey} (ha : Alk ks) (h : ∀ k ∈ L.map (·.1), k ∈ ks) : AllAlike (L.map fun p => p.1.data) := by
  intro d hd d' hd'
  obtain ⟨p, hp, rfl⟩ := List.mem_map.mp hd
  obtain ⟨p', hp', rfl⟩ := List.mem_map.mp hd'
  exact ha _ (h _ (List.mem_map.mpr ⟨p, hp, rfl⟩)) _ (h _ (List.mem_map.mpr ⟨p', hp', rfl⟩))
/-- sorted of a set of nested tuples, over the heap -/
theorem sorted_nset {P : Program} {w : World} {A : Around} {E : Value → Shared → Prop} {s : Shared} {a : Addr} {L : List (NestedKey × Addr)} {es : Array (Int × Value)} {ep : Nat} {t : SetTable} {Q : Value → Shared → Prop} (R : NSet P w s.heap a L es ep t) (hh : A.handled = none)
    (hr : ∀ p ∈ L, Reads s.heap (.ref p.2) p.1.data []) (hal : ∀ L' : List (NestedKey × Addr), L'.Perm L → AllAlike (L'.map fun p => p.1.data)) (ht : ∀ p ∈ L, ∃ r, p.1 = .tup r) (hd : ∀ p ∈ L, p.1.depth ≤ 8) (hu : A.units + 64 < cLine)
    (hQ : ∀ s' p (out : Array Value) (c : Nat) (L' : List (NestedKey × Addr)), (∀ b o, s.heap.get? b = some o → s'.heap.get? b = some o) → s'.gens = s.gens → s'.os = s.os → s.heap.objs.size ≤ p →
      s'.heap.get? p = some (seqObj "list" out c) → out.toList = L'.map (fun q => Value.ref q.2) → L'.Perm L → L'.Pairwise (fun q r => leK q.1 r.1 = true) → Q (.ref p) s') :
    wpAny (model P w) A (call (.builtin "sorted") [.ref a]) Q E s := by
  obtain ⟨o, ho, hex, hdt⟩ := R.ob
  have hsz := R.size
  have hfew := R.few
  refine Calls.call_function_entry kind_sorted plain_sorted entry_sorted (args_sorted1 _) ?_
  unfold Builtin.«sorted»
  refine wpAny_bind (m := checkCount "sorted" 1 1 _) (wpAny_pure ?_)
  refine wpAny_bind (collect_set (A := A.in1) hh ⟨o, ho, hex.1, hdt⟩ R.fits (by unfold scanBound; omega) R.tab.ris R.led fun s1 vs k1 hz g1 o1 pm => ?_)
  have hes : es.toList.map (·.2) = L.map fun q => Value.ref q.2 := by
    rw [R.rows]
    unfold rowN
    rw [List.map_map]
    rfl
  rw [hes] at pm
  -- the collected values are the members' addresses in some order
  obtain ⟨L1, e1, p1⟩ : ∃ L1 : List (NestedKey × Addr), vs = L1.map (fun q => Value.ref q.2) ∧ L1.Perm L := by
    have ord : ∀ vs : List Value, ∀ L : List (NestedKey × Addr), vs.Perm (L.map fun q => Value.ref q.2) → ∃ L1 : List (NestedKey × Addr), vs = L1.map (fun q => Value.ref q.2) ∧ L1.Perm L := by
      intro vs
      induction vs with
      | nil =>
        intro L q
        have e : L = [] := by
          have q2 := q.length_eq
          rw [List.length_nil, List.length_map] at q2
          exact List.length_eq_zero_iff.mp q2.symm
        exact ⟨[], rfl, by rw [e]⟩
      | cons v vs ih =>
        intro L q
        obtain ⟨p, hp, e⟩ := List.mem_map.mp (q.mem_iff.mp List.mem_cons_self)
        obtain ⟨l1, l2, el⟩ := List.append_of_mem hp
        have q2 : vs.Perm ((l1 ++ l2).map fun q => Value.ref q.2) := by
          rw [el, List.map_append, List.map_cons, e] at q
          have q3 := q.trans List.perm_middle
          rw [← List.map_append] at q3
          exact q3.cons_inv
        obtain ⟨L1, e1, p1⟩ := ih _ q2
        refine ⟨p :: L1, by rw [List.map_cons, e, e1], ?_⟩
        rw [el]
        exact (p1.cons p).trans List.perm_middle.symm
    exact ord vs L pm
  subst e1
  have hlen1 : L1.length = L.length := p1.length_eq
  refine wpAny_bind (wpAny_newList ?_ (by rw [sizeLine_eq, List.length_map]; omega))
  have hoL : (s1.heap.push (seqObj "list" (L1.map fun q => Value.ref q.2).toArray 0)).get? s1.heap.objs.size = some (seqObj "list" (L1.map fun q => Value.ref q.2).toArray 0) := Heap.get?_push_size _ rfl
  have rd : ∀ p ∈ L1, ∃ as, Reads (s1.heap.push (seqObj "list" (L1.map fun q => Value.ref q.2).toArray 0)) (.ref p.2) p.1.data as ∧ s1.heap.objs.size ∉ as := fun p hp =>
    ⟨[], PyProof.Rows.Reads.keeps (fun b u e => Heap.get?_push_of_some _ (k1 b u e)) (hr p (p1.mem_iff.mp hp)), by simp⟩
  refine wpAny_bind (wpAny_holding (PySem.W.list_sort_tupsAny (s := { s1 with heap := s1.heap.push (seqObj "list" (L1.map fun q => Value.ref q.2).toArray 0) }) (enc := fun p : NestedKey × Addr => p.1.data) (R := fun v b => v = Value.ref b.2) hoL (each_self L1) (each_all L1 rd)
    (hal L1 p1) (fun d hd' => ?_) (by rw [sizeLine_eq]; omega) (fun b hb => ?_) fun out ho' eo => ?_))
  · obtain ⟨p, hp, rfl⟩ := List.mem_map.mp hd'
    obtain ⟨r, er⟩ := ht p (p1.mem_iff.mp hp)
    exact ⟨NestedKey.datas r, by rw [er]; rfl⟩
  · have q := hd b (p1.mem_iff.mp hb)
    show A.in1.units + 1 + b.1.data.depth < cLine
    rw [data_depth, Around.in1_units]
    omega
  · obtain ⟨c, hc⟩ := sortedHeap_at (vs := L1.map fun q => Value.ref q.2) (out := out.toArray) hoL
    have eout := each_refs eo
    refine wpAny_pure ⟨_, rfl, hQ _ s1.heap.objs.size out.toArray c (L1.mergeSort (dataLe false fun p : NestedKey × Addr => p.1.data)) (fun b u e => ?_) g1 o1 hz hc (by simpa using eout) ((List.mergeSort_perm _ _).trans p1) ?_⟩
    · have q := k1 b u e
      have hlt := Heap.lt_size q
      show (sortedHeap (s1.heap.push (seqObj "list" (L1.map fun q => Value.ref q.2).toArray 0)) s1.heap.objs.size (L1.map fun q => Value.ref q.2) out.toArray).get? b = some u
      rw [sortedHeap_old (Nat.ne_of_lt hlt) (by rw [size_push']; exact Nat.lt_succ_of_lt hlt)]
      exact Heap.get?_push_of_some _ q
    · exact PySem.W.sort_pairwise (PySem.W.sortLe_total _ false _) L1
/-- sorted(the set of ks) -/
def rSortK (P : Program) (w : World) : List V → Hp → VK → Prop := fun xs H Q => ∃ (p : Addr) (ks : List NestedKey), xs = [.ref p] ∧ SetK P w H p ks ∧ Alk ks ∧ ∀ (q : Addr) (ys : List V) (H' : Hp), Same H H' → H q = none → H' q = some (.lst ys) → KeyVs H' (ss ks) ys → Q (.ref q) H'
theorem cr_sortK (hc : X.calm = true) (hu : X.A.units + 64 < cLine) : CallR X (.builtin "sorted") (rSortK X.prog X.w) := by
  intro pins s σ H vs us Q I r h
  obtain ⟨p, ks, rfl, hS, ha, q⟩ := h
  rcases hS with ⟨ns, n, rfl, hn, hp⟩ | ⟨L, hm, hp, hL⟩
  · refine cr_sortedSet hc pins s σ H _ us Q I r ⟨p, _, n, rfl, hp, by omega, fun ms z h1 h2 h3 hz => ?_⟩
    refine q z _ _ (same_upd hz) hz upd_same ?_
    rw [← ss_nums h1 fun k => by rw [h2 k]; exact decide_eq_true_iff]
    exact keyVs_nums.mpr rfl
  · rw [Vals.ref1 r]
    obtain ⟨es, ep, t, ob, rows, tab, nd, plain, led, room, few⟩ := (I.hok p _ hp).1
    have R : NSet X.prog X.w s.heap p L es ep t := ⟨ob, rows, tab, nd, fun p hp => KeyV.isN I (hL p hp).1 (hL p hp).2.1, plain, led, room, few⟩
    have sub : ∀ (L' : List (NestedKey × Addr)), L'.Perm L → ∀ k ∈ L'.map (·.1), k ∈ ks := fun L' pm k hk => (hm k).mp ((pm.map (·.1)).mem_iff.mp hk)
    refine sorted_nset R (I.ok.hd hc) (fun p hp => KeyV.reads0 I (hL p hp).1 rfl) (fun L' pm => alike_of ha (sub L' pm)) (fun p hp => (hL p hp).2.2) (fun p hp => (hL p hp).2.1) hu fun s' z out c L' k g o hz hg hout pm pw => ?_
    have hfew : L'.length ≤ 12 := by
      rw [pm.length_eq]
      exact few
    have hlen : (L'.map fun q => V.ref q.2).length ≤ sizeLine := by rw [List.length_map, sizeLine_eq]; omega
    have hn : H z = none := I.hok.fresh hz
    have hv : Vals (L'.map fun q => V.ref q.2) out.toList := by rw [hout]; exact refs_vals L'
    have J : Inv X pins σ (upd H z (.lst (L'.map fun q => V.ref q.2))) { s with heap := s'.heap, gens := s'.gens, drawn := s'.drawn, toks := s'.toks } :=
      I.call (ch := []) (Un.laid k hz hn) (I.hok.laid k hz ⟨hlen, out.toList, c, hv, hg⟩) (by rw [g]; exact I.bare) (fun _ z => nomatch z)
    have e : s' = { s with heap := s'.heap, gens := s'.gens, drawn := s'.drawn, toks := s'.toks } := by
      cases s'
      cases s
      cases o
      rfl
    rw [e]
    have sm := same_upd (o := .lst (L'.map fun q => V.ref q.2)) hn
    refine ⟨.ref z, _, J, rfl, q z _ _ sm hn upd_same ?_⟩
    have ek : L'.map (·.1) = ss ks := by
      refine ss_of ha ((pm.map (·.1)).nodup_iff.mpr nd) (fun k => ?_) (List.pairwise_map.mpr pw)
      rw [(pm.map (·.1)).mem_iff]
      exact hm k
    rw [← ek]
    exact keyVs_refs fun p hp => (hL p (pm.mem_iff.mp hp)).1.same sm
/-- sorted(xs), a list of alike tuples: some arrangement -/
def rSortT (K : PySem.W.Frag) : List V → Hp → VK → Prop := fun xs H Q => ∃ (l : Addr) (L : List (NestedKey × Addr)), xs = [.ref l] ∧ SqL K H l (L.map fun p => V.ref p.2) ∧ (∀ p ∈ L, KeyV H p.1 (.ref p.2) ∧ p.1.depth ≤ 8 ∧ ∃ r, p.1 = .tup r) ∧ Alk (L.map (·.1)) ∧
  ∀ (L' : List (NestedKey × Addr)) (q : Addr), L'.Perm L → H q = none → Q (.ref q) (upd H q (.lst (L'.map fun p => V.ref p.2)))
theorem cr_sortT (hc : X.calm = true) (hu : X.A.units + 64 < cLine) : CallR X (.builtin "sorted") (rSortT X.K) := by
  intro pins s σ H vs us Q I r h
  obtain ⟨l, L, rfl, hl, hL, ha, q⟩ := h
  rw [Vals.ref1 r]
  obtain ⟨its, rv, pl, hz⟩ := I.list hl
  rw [List.length_map] at hz
  have ei := refs_are rv
  subst ei
  refine PySem.W.sorted_tupsAny (enc := fun p : NestedKey × Addr => p.1.data) (R := fun v b => v = Value.ref b.2) pl.isList (each_self L) (each_all L fun p hp => ⟨[], KeyV.reads0 I (hL p hp).1 rfl⟩) (alike_of ha fun k hk => hk) (fun d hd => ?_) hz (fun b hb => ?_) fun out ho eo => ?_
  · obtain ⟨p, hp, rfl⟩ := List.mem_map.mp hd
    obtain ⟨r, er⟩ := (hL p hp).2.2
    exact ⟨NestedKey.datas r, by rw [er]; rfl⟩
  · have q := (hL b hb).2.1
    show X.A.units + 2 + b.1.data.depth < cLine
    rw [data_depth]
    omega
  · have eout := each_refs eo
    have pm := List.mergeSort_perm L (dataLe false fun p : NestedKey × Addr => p.1.data)
    generalize L.mergeSort (dataLe false fun p : NestedKey × Addr => p.1.data) = L' at eout pm
    have hn : H (s.heap.objs.size + 1) = none := I.hok.fresh (Nat.le_succ _)
    obtain ⟨c, hcc⟩ := sortedAll_at s.heap (L.map fun p => Value.ref p.2) out.toArray
    refine ⟨.ref (s.heap.objs.size + 1), _, I.laid (o := .lst (L'.map fun p => V.ref p.2)) (t' := s.toks) (fun b o e => sortedAll_old e) (Nat.le_succ _) ⟨by rw [List.length_map, pm.length_eq]; exact hz, out, c, by rw [eout]; exact refs_vals L', hcc⟩, rfl, q L' _ pm hn⟩
end
end K34
/-! The program's text by places; what stands in the heap: worlds, games, the law's own data. -/
namespace K34
open PySem PySem.Spec PyProof.Rows L2

/-! ### the text by places -/
def top (i : Nat) : Stmt := PySem.Challenge.pw_fixworlds_k34_whole_likeness_games.main.body.getD i (.Pass ⟨0, 0, 0, 0⟩)
abbrev sAsc : Stmt := top 6
abbrev sRst : Stmt := top 7
abbrev sWin : Stmt := inClass (top 8) 0
abbrev sFol : Stmt := top 9
abbrev sNum : Stmt := top 11
abbrev sSgn : Stmt := top 12
abbrev sRou : Stmt := top 13
abbrev sLin : Stmt := inClass (top 16) 0
abbrev sPar : Stmt := inClass (top 16) 1
abbrev sWnr : Stmt := inClass (top 16) 2
abbrev sAtt : Stmt := inClass (top 16) 3
abbrev sAns : Stmt := inClass (top 16) 4
abbrev sDra : Stmt := top 18
abbrev sTak : Stmt := top 19
abbrev sIsi : Stmt := top 20
abbrev sWor : Stmt := top 21
abbrev sMad : Stmt := top 22
abbrev sBeh : Stmt := top 23
abbrev sCla : Stmt := top 24
abbrev sOut : Stmt := top 25
abbrev sAtk : Stmt := top 26
abbrev sAwd : Stmt := top 27
abbrev sLaw : Stmt := top 28

/-- a def of the text, where its name finds it -/
structure Dn (K : PySem.W.Frag) (mg : Str → Option Value) (x : Str) (st : Stmt) (f : Addr) (fd : FuncData) (ps : List Str) : Prop where
  F : Fun K x x st f fd
  g : mg x = some (.ref f)
  b : Binds K fd ps []
/-- what the top has left of names, classes, constants -/
structure Txt (K : PySem.W.Frag) (mg : Str → Option Value) (CW CL : Addr) : Prop where
  clW : Cls K CW
  clL : Cls K CL
  wl : NoAttr K CW "labels"
  wf : NoAttr K CW "facts"
  ws : NoAttr K CW "states"
  wt : NoAttr K CW "steps"
  lw : NoAttr K CL "_world"
  lr : NoAttr K CL "_rounds"
  gW : mg "World" = some (.ref CW)
  gL : mg "LikenessGame" = some (.ref CL)
  n_len : mg "len" = none
  n_range : mg "range" = none
  n_min : mg "min" = none
  n_max : mg "max" = none
  n_tuple : mg "tuple" = none
  n_sorted : mg "sorted" = none
  n_set : mg "set" = none
  n_int : mg "int" = none
  n_bool : mg "bool" = none
  n_list : mg "list" = none
  n_isinstance : mg "isinstance" = none
  cW : ∃ t, mg "MOST_STATES_worlds" = some (.int 400 t)
  cL : ∃ t, mg "MOST_STATES_likegames" = some (.int 12 t)

/-! ### steps, followers -/
abbrev St3 := Nat × Nat × Nat
def stI (t : St3) : List Int := [(t.1 : Int), (t.2.1 : Int), (t.2.2 : Int)]
def stK (t : St3) : NestedKey := tupk (stI t)
def fol (st : List St3) (s l : Nat) : List Nat := (st.filter fun t => decide (t.1 = s) && decide (t.2.1 = l)).map fun t => t.2.2
theorem mem_fol {st : List St3} {s l e : Nat} : e ∈ fol st s l ↔ (s, l, e) ∈ st := by
  unfold fol
  rw [List.mem_map]
  constructor
  · rintro ⟨⟨a, b, c⟩, h, rfl⟩
    rw [List.mem_filter, Bool.and_eq_true, decide_eq_true_iff, decide_eq_true_iff] at h
    obtain ⟨h1, h2, h3⟩ := h
    dsimp only at h2 h3
    subst h2
    subst h3
    exact h1
  · intro h
    exact ⟨(s, l, e), List.mem_filter.mpr ⟨h, by simp⟩, rfl⟩
/-- steps lie within -/
def OkSt (n : Nat) (st : List St3) : Prop := ∀ t ∈ st, t.1 < n ∧ t.2.1 < 2 ∧ t.2.2 < n
def wo (fs : List (List Int)) (st : List St3) (h : OkSt fs.length st) : Wo where
  n := fs.length
  fact s := fs.getD s []
  fo := fol st
  inn s l e q := (h _ (mem_fol.mp q)).2.2
theorem E_perm {fs : List (List Int)} {st st' : List St3} (h : OkSt fs.length st) (h' : OkSt fs.length st') (p : st'.Perm st) : ∀ (k s t : Nat), E (wo fs st h) k s t ↔ E (wo fs st' h') k s t
  | 0, _, _ => Iff.rfl
  | k + 1, s, t => by
    have m : ∀ s l e, e ∈ fol st s l ↔ e ∈ fol st' s l := fun s l e => by rw [mem_fol, mem_fol, p.mem_iff]
    have ih := E_perm h h' p k
    show (E _ k s t ∧ ∀ l, (∀ u ∈ fol st s l, ∃ v ∈ fol st t l, E _ k u v) ∧ (∀ v ∈ fol st t l, ∃ u ∈ fol st s l, E _ k u v)) ↔ (E _ k s t ∧ ∀ l, (∀ u ∈ fol st' s l, ∃ v ∈ fol st' t l, E _ k u v) ∧ (∀ v ∈ fol st' t l, ∃ u ∈ fol st' s l, E _ k u v))
    constructor
    · rintro ⟨a, b⟩
      refine ⟨(ih s t).mp a, fun l => ⟨fun u hu => ?_, fun v hv => ?_⟩⟩
      · obtain ⟨v, hv, q⟩ := (b l).1 u ((m s l u).mpr hu)
        exact ⟨v, (m t l v).mp hv, (ih u v).mp q⟩
      · obtain ⟨u, hu, q⟩ := (b l).2 v ((m t l v).mpr hv)
        exact ⟨u, (m s l u).mp hu, (ih u v).mp q⟩
    · rintro ⟨a, b⟩
      refine ⟨(ih s t).mpr a, fun l => ⟨fun u hu => ?_, fun v hv => ?_⟩⟩
      · obtain ⟨v, hv, q⟩ := (b l).1 u ((m s l u).mp hu)
        exact ⟨v, (m t l v).mpr hv, (ih u v).mpr q⟩
      · obtain ⟨u, hu, q⟩ := (b l).2 v ((m t l v).mp hv)
        exact ⟨u, (m s l u).mpr hu, (ih u v).mpr q⟩
/-- facts ascend within the bound -/
def Asc (F : Int) (ns : List Int) : Prop := ∀ (i : Nat) (x : Int), ns[i]? = some x → 0 ≤ x ∧ x < F ∧ ∀ y, 0 < i → ns[i - 1]? = some y → y < x

/-! ### rows of numbers as lists -/
def LstVs (H : Hp) : List (List Int) → List V → Prop
  | [], xs => xs = []
  | r :: rs, xs => ∃ (a : Addr) (t : List V), xs = .ref a :: t ∧ H a = some (.lst (r.map V.int)) ∧ LstVs H rs t
theorem LstVs.len {H : Hp} : ∀ {rs : List (List Int)} {xs : List V}, LstVs H rs xs → xs.length = rs.length
  | [], xs, h => by
    have e : xs = [] := h
    rw [e]
    rfl
  | r :: rs, xs, h => by
    obtain ⟨a, t, rfl, _, q⟩ := h
    show t.length + 1 = rs.length + 1
    rw [LstVs.len q]
theorem LstVs.get {H : Hp} : ∀ {rs : List (List Int)} {xs : List V} {i : Nat} {r : List Int}, LstVs H rs xs → rs[i]? = some r → ∃ a, xs[i]? = some (.ref a) ∧ H a = some (.lst (r.map V.int))
  | [], _, i, r, _, e => by simp at e
  | r0 :: rs, xs, 0, r, h, e => by
    obtain ⟨a, t, rfl, q, _⟩ := h
    have e' : r0 = r := Option.some.inj e
    exact ⟨a, rfl, e' ▸ q⟩
  | r0 :: rs, xs, i + 1, r, h, e => by
    obtain ⟨a, t, rfl, _, q⟩ := h
    exact LstVs.get q (i := i) e
theorem LstVs.same {H H' : Hp} (s : Same H H') : ∀ {rs : List (List Int)} {xs : List V}, LstVs H rs xs → LstVs H' rs xs
  | [], _, h => h
  | r :: rs, _, h => by
    obtain ⟨a, t, e, q, u⟩ := h
    exact ⟨a, t, e, s a _ q, LstVs.same s u⟩
theorem LstVs.snoc {H : Hp} {r : List Int} {a : Addr} (h : H a = some (.lst (r.map V.int))) : ∀ {rs : List (List Int)} {xs : List V}, LstVs H rs xs → LstVs H (rs ++ [r]) (xs ++ [.ref a])
  | [], xs, t => by
    have e : xs = [] := t
    rw [e]
    exact ⟨a, [], rfl, h, rfl⟩
  | r0 :: rs, xs, t => by
    obtain ⟨b, x, rfl, q, t⟩ := t
    exact ⟨b, x ++ [.ref a], rfl, q, LstVs.snoc h t⟩

/-! ### objects -/
/-- a world's attributes -/
def wfl (L F : Int) (sT tT : Addr) : List (Str × V) := putF "steps" (.ref tT) (putF "states" (.ref sT) (putF "facts" (.int F) (putF "labels" (.int L) [])))
theorem sn : ¬ (("steps" : Str) = "states") ∧ ¬ (("steps" : Str) = "facts") ∧ ¬ (("steps" : Str) = "labels") ∧ ¬ (("states" : Str) = "facts") ∧ ¬ (("states" : Str) = "labels") ∧ ¬ (("facts" : Str) = "labels") := by decide +kernel
theorem sn' : ¬ (("states" : Str) = "steps") ∧ ¬ (("facts" : Str) = "steps") ∧ ¬ (("labels" : Str) = "steps") ∧ ¬ (("facts" : Str) = "states") ∧ ¬ (("labels" : Str) = "states") ∧ ¬ (("labels" : Str) = "facts") := by decide +kernel
section
variable (L F : Int) (sT tT : Addr)
theorem wfl_steps : (wfl L F sT tT).lookup ("steps" : Str) = some (.ref tT) := by
  unfold wfl
  rw [lookup_putF, if_pos rfl]
theorem wfl_states : (wfl L F sT tT).lookup ("states" : Str) = some (.ref sT) := by
  unfold wfl
  rw [lookup_putF, if_neg sn'.1, lookup_putF, if_pos rfl]
theorem wfl_labels : (wfl L F sT tT).lookup ("labels" : Str) = some (.int L) := by
  unfold wfl
  rw [lookup_putF, if_neg sn'.2.2.1, lookup_putF, if_neg sn'.2.2.2.2.1, lookup_putF, if_neg sn'.2.2.2.2.2, lookup_putF, if_pos rfl]
end
/-- a World -/
structure WAt (CW : Addr) (H : Hp) (w : Addr) (L F : Int) (fs : List (List Int)) (st : List St3) : Prop where
  ex : ∃ (dx sT tT : Addr) (vs us : List V), H w = some (.ins CW dx (wfl L F sT tT)) ∧ H sT = some (.tup vs) ∧ KeyVs H (fs.map tupk) vs ∧ H tT = some (.tup us) ∧ KeyVs H (st.map stK) us
theorem WAt.same {CW : Addr} {H H' : Hp} (s : Same H H') {w : Addr} {L F : Int} {fs : List (List Int)} {st : List St3} (h : WAt CW H w L F fs st) : WAt CW H' w L F fs st := by
  obtain ⟨dx, sT, tT, vs, us, h1, h2, h3, h4, h5⟩ := h.ex
  exact ⟨dx, sT, tT, vs, us, s _ _ h1, s _ _ h2, h3.same s, s _ _ h4, h5.same s⟩
/-- the law's own world: a tuple of two lists -/
structure LAt (H : Hp) (w : Addr) (fs : List (List Int)) (st : List St3) : Prop where
  ex : ∃ (sl tl : Addr) (vs us : List V), H w = some (.tup [.ref sl, .ref tl]) ∧ H sl = some (.lst vs) ∧ LstVs H fs vs ∧ H tl = some (.lst us) ∧ KeyVs H (st.map stK) us
theorem LAt.same {H H' : Hp} (s : Same H H') {w : Addr} {fs : List (List Int)} {st : List St3} (h : LAt H w fs st) : LAt H' w fs st := by
  obtain ⟨sl, tl, vs, us, h1, h2, h3, h4, h5⟩ := h.ex
  exact ⟨sl, tl, vs, us, s _ _ h1, s _ _ h2, h3.same s, s _ _ h4, h5.same s⟩
/-- a game's attributes -/
def gfl (w r : Addr) : List (Str × V) := putF "_rounds" (.ref r) (putF "_world" (.ref w) [])
theorem gn : ¬ (("_rounds" : Str) = "_world") ∧ ¬ (("_world" : Str) = "_rounds") := by decide +kernel
theorem gfl_rounds (w r : Addr) : (gfl w r).lookup ("_rounds" : Str) = some (.ref r) := by
  unfold gfl
  rw [lookup_putF, if_pos rfl]
theorem gfl_world (w r : Addr) : (gfl w r).lookup ("_world" : Str) = some (.ref w) := by
  unfold gfl
  rw [lookup_putF, if_neg gn.2, lookup_putF, if_pos rfl]
theorem gfl_no (w r : Addr) {m : Str} (h1 : ¬ m = "_rounds") (h2 : ¬ m = "_world") : (gfl w r).lookup m = none := by
  unfold gfl
  rw [lookup_putF, if_neg h1, lookup_putF, if_neg h2]
  rfl
/-- a LikenessGame of the world W -/
structure GAt (CW CL : Addr) (H : Hp) (g : Addr) (F : Int) (fs : List (List Int)) (st : List St3) (Rs : List (List Int)) : Prop where
  ex : ∃ (dx w r : Addr) (vs : List V), H g = some (.ins CL dx (gfl w r)) ∧ WAt CW H w 2 F fs st ∧ H r = some (.lst vs) ∧ KeyVs H (Rs.map tupk) vs
theorem GAt.same {CW CL : Addr} {H H' : Hp} (s : Same H H') {g : Addr} {F : Int} {fs : List (List Int)} {st : List St3} {Rs : List (List Int)} (h : GAt CW CL H g F fs st Rs) : GAt CW CL H' g F fs st Rs := by
  obtain ⟨dx, w, r, vs, h1, h2, h3, h4⟩ := h.ex
  exact ⟨dx, w, r, vs, s _ _ h1, h2.same s, s _ _ h3, h4.same s⟩
/-- all but what stands at d -/
def del (H : Hp) (d : Addr) : Hp := fun b => if b = d then none else H b
theorem del_at (H : Hp) (d : Addr) : del H d d = none := if_pos rfl
theorem del_ne {H : Hp} {d b : Addr} (h : b ≠ d) : del H d b = H b := if_neg h
theorem del_same (H : Hp) (d : Addr) : Same (del H d) H := fun b o e => by
  by_cases h : b = d
  · rw [h, del_at] at e
    cases e
  · rw [del_ne h] at e
    exact e
theorem del_upd (H : Hp) (d : Addr) (o : HO) : del (upd H d o) d = del H d := by
  funext b
  by_cases h : b = d
  · rw [h, del_at, del_at]
  · rw [del_ne h, del_ne h, upd_ne h]
theorem Same.del {H H' : Hp} (s : Same H H') (d : Addr) : Same (del H d) (K34.del H' d) := fun b o e => by
  by_cases h : b = d
  · rw [h, del_at] at e
    cases e
  · rw [del_ne h] at e ⊢
    exact s b o e
/-- the draws: some list of whole numbers -/
def Dr (H : Hp) (d : Addr) : Prop := ∃ ns : List Int, H d = some (.lst (ns.map V.int))
theorem Dr.same {H H' : Hp} (s : Same H H') {d : Addr} (h : Dr H d) : Dr H' d := let ⟨ns, e⟩ := h; ⟨ns, s _ _ e⟩

/-! ### the kit's rules with the written part told (within a comprehension's block the context is another) -/
section
variable {X : Cx} {a b e : Expr} {ta tb : TE} {pos : Pos}
theorem ixT (K : PySem.W.Frag) (h : X.K = K := by rfl) : IxR X (rIxT K) := h ▸ ix_tup
theorem ixL (K : PySem.W.Frag) (h : X.K = K := by rfl) : IxR X (rIxL K) := h ▸ ix_list
theorem fldK (K : PySem.W.Frag) {f : Str} (h : X.K = K) (ha : PE X e ta) (hb : attributeBase e f X.env (eval e X.env) = eval e X.env) : PE X (.Attribute e f pos) (tFld K ta f) := by
  subst h
  exact pe_fld ha hb
abbrev rLenK (K : PySem.W.Frag) : List V → Hp → VK → Prop := fun xs H Q => ∃ p ys, xs = [.ref p] ∧ (SqL K H p ys ∨ SqT K H p ys) ∧ Q (.int ys.length) H
theorem lenK (K : PySem.W.Frag) (h : X.K = K := by rfl) : CallR X (.builtin "len") (rLenK K) := h ▸ call_len_seq
abbrev rTupOf (K : PySem.W.Frag) : List V → Hp → VK → Prop := fun xs H Q => ∃ p ys, xs = [.ref p] ∧ ((SqL K H p ys ∧ ∀ l, H l = none → Q (.ref l) (upd H l (.tup ys))) ∨ (SqT K H p ys ∧ Q (.ref p) H))
theorem tupOf (K : PySem.W.Frag) (h : X.K = K := by rfl) : CallR X (.type "tuple") (rTupOf K) := h ▸ call_tuple_of
abbrev rLstOf (K : PySem.W.Frag) : List V → Hp → VK → Prop := fun xs H Q => ∃ p ys, xs = [.ref p] ∧ (SqL K H p ys ∨ SqT K H p ys) ∧ ∀ l, H l = none → Q (.ref l) (upd H l (.lst ys))
theorem lstOf (K : PySem.W.Frag) (h : X.K = K := by rfl) : CallR X (.type "list") (rLstOf K) := h ▸ call_list_of
theorem setK (K : PySem.W.Frag) (P : Program) (w : World) (hc : X.calm = true) (hu : X.A.units + 64 < cLine) (h1 : X.K = K := by rfl) (h2 : X.prog = P := by rfl) (h3 : X.w = w := by rfl) : CallR X (.type "set") (rSetK K P w) := by
  subst h1
  subst h2
  subst h3
  exact cr_setK hc hu
theorem sortK (P : Program) (w : World) (hc : X.calm = true) (hu : X.A.units + 64 < cLine) (h2 : X.prog = P := by rfl) (h3 : X.w = w := by rfl) : CallR X (.builtin "sorted") (rSortK P w) := by
  subst h2
  subst h3
  exact cr_sortK hc hu
theorem ixGet {o i : Expr} {to ti : TE} (P : Program) (w : World) (hu : X.A.units + 64 < cLine) (ho : PE X o to) (hi : PE X i ti) (hs : NoSl i) (h2 : X.prog = P := by rfl) (h3 : X.w = w := by rfl) : PE X (.Subscript o i pos) (tOp (rIxGet P w) to ti) := by
  subst h2
  subst h3
  exact pe_ixGet hu ho hi hs
theorem iTupK (K : PySem.W.Frag) {tg l : Expr} {tl : TE} (h : X.K = K) (hl : PE X l tl) : PI X tg l (iTup K tl) := by
  subst h
  exact pi_tup hl
theorem iLstK (K : PySem.W.Frag) {tg l : Expr} {tl : TE} (h : X.K = K) (hl : PE X l tl) : PI X tg l (iList K tl) := by
  subst h
  exact pi_list hl
end
end K34
/-! Walks: the small defs. -/
namespace K34
open PySem PySem.Spec PyProof.Rows L2
section
variable {P : Program} {w : World} {K : PySem.W.Frag} {mg : Str → Option Value} {base : Heap} {CW CL : Addr}
theorem map_get {ns : List Int} {i : Nat} {x : Int} (h : ns[i]? = some x) : (ns.map V.int)[i]? = some (.int x) := by
  rw [List.getElem?_map, h]
  rfl
/-! ### ascend -/
def spAsc (K : PySem.W.Frag) : Sp := fun vs H Q _ => ∃ (a : Addr) (ns : List Int) (F : Int), vs = [.ref a, .int F] ∧ SqL K H a (ns.map V.int) ∧ ns.length ≤ 1000 ∧ Asc F ns ∧ Q (.bl true) H
abbrev NNasc : List Str := ["numbers", "limit", "k"]
theorem scAsc : FnScope NNasc ["numbers", "limit"] (defScope sAsc) := ⟨rfl, rfl, rfl, by decide +kernel, rfl, by decide +kernel, by decide +kernel⟩
theorem ok_asc {f : Addr} {fd : FuncData} (F : Fun K "ascend" "ascend" sAsc f fd) (T : Txt K mg CW CL) : FnOk P w K mg base CX0 1 f fd ["numbers", "limit"] (spAsc K) := by
  refine F.ok scAsc (fun vs H Q E h => ?_) (fun cdv A outer s H vs Q E hr h => ?_)
  · obtain ⟨a, ns, F, rfl, _⟩ := h
    rfl
  · obtain ⟨a, ns, F, rfl, hS, hl, hA, k⟩ := h
    refine ⟨_, pss_cons (ps_for PassesOwn.never rfl (pi_range1 rfl T.n_range (pa_cons (pe_callB call_len_seq (by rfl) T.n_len (by decide +kernel) (pa_cons (pv 0) pa_nil)) pa_nil)) (pg_name (i := 2) scAsc.nd rfl (Or.inl rfl))
        (pss_one (ps_if (PW.pt (pw_or (pt_cmpR op_lt (pe_ix ix_list (pv 0) (pv 2) (fun _ _ => rfl)) pe_int (nomark _)) (pw_or (pt_cmpR op_ge (pe_ix ix_list (pv 0) (pv 2) (fun _ _ => rfl)) (pv 1) (nomark _)) (pw_or1 (PW.pt (pw_and (pt_cmpR op_gt (pv 2) pe_int (nomark _)) (pw_and1 (pt_cmpR op_le (pe_ix ix_list (pv 0) (pv 2) (fun _ _ => rfl)) (pe_ix ix_list (pv 0) (pe_op op_sub (pv 2) pe_int) (fun _ _ => rfl)) (nomark _)))))))))
          (pss_one ps_never) pss_nil)))
      (pss_one (ps_ret pe_bl)), ?_⟩
    have hlen : (ns.map V.int).length = ns.length := List.length_map _
    refine ⟨_, rfl, a, _, rfl, .inl hS, _, rfl, by omega, by omega, for_range (fun i σ H' => H' = H ∧ ∃ v, σ = [some (.ref a), some (.int F), v]) ⟨rfl, none, rfl⟩ ?_ ?_⟩
    · rintro i σ H' hi ⟨rfl, v, rfl⟩
      have hi' : i < ns.length := by omega
      obtain ⟨x, hx⟩ : ∃ x, ns[i]? = some x := ⟨ns[i], List.getElem?_eq_getElem hi'⟩
      obtain ⟨x1, x2, x3⟩ := hA i x hx
      have at_i : atI (ns.map V.int) (0 + (i : Int)) = some (.int x) := at_of (by omega) (map_get hx)
      refine ⟨_, rfl, _, rfl, a, _, _, _, rfl, rfl, hS, at_i, _, _, rfl, rfl, _, rfl, ?_⟩
      have e1 : decide (x < 0) = false := decide_eq_false (by omega)
      rw [e1]
      refine iteF ?_
      refine ⟨_, rfl, _, rfl, a, _, _, _, rfl, rfl, hS, at_i, _, rfl, _, _, rfl, rfl, _, rfl, ?_⟩
      have e2 : decide (F ≤ x) = false := decide_eq_false (by omega)
      rw [e2]
      refine iteF ?_
      refine ⟨_, rfl, _, _, rfl, rfl, _, rfl, ?_⟩
      by_cases h0 : 0 < i
      · have e3 : decide ((0 : Int) < 0 + (i : Int)) = true := decide_eq_true (by omega)
        rw [e3]
        refine iteT ?_
        obtain ⟨y, hy⟩ : ∃ y, ns[i - 1]? = some y := ⟨ns[i - 1], List.getElem?_eq_getElem (by omega)⟩
        refine ⟨_, rfl, _, rfl, a, _, _, _, rfl, rfl, hS, at_i, _, rfl, _, rfl, _, _, rfl, rfl, a, _, _, _, rfl, rfl, hS, at_of (j := i - 1) (by omega) (map_get hy), _, _, rfl, rfl, _, rfl, ?_⟩
        have e4 : decide (x ≤ y) = false := decide_eq_false (by have := x3 y h0 hy; omega)
        rw [e4]
        exact iteF ⟨rfl, _, rfl⟩
      · have e3 : decide ((0 : Int) < 0 + (i : Int)) = false := decide_eq_false (by omega)
        rw [e3]
        exact iteF (iteF ⟨rfl, _, rfl⟩)
    · rintro σ H' ⟨rfl, v, rfl⟩
      exact k

/-! ### _law_take -/
def spTak : Sp := fun vs H Q _ => ∃ (d : Addr) (n : Int) (ns : List Int), vs = [.ref d, .int n] ∧ 0 < n ∧ H d = some (.lst (ns.map V.int)) ∧ ∀ (ms : List Int) (r : Int), 0 ≤ r → r < n → Q (.int r) (upd H d (.lst (ms.map V.int)))
theorem scTak : FnScope ["_law_draws_here", "_law_limit"] ["_law_draws_here", "_law_limit"] (defScope sTak) := ⟨rfl, rfl, rfl, by decide +kernel, rfl, by decide +kernel, by decide +kernel⟩
theorem upd_id {H : Hp} {d : Addr} {o : HO} (h : H d = some o) : upd H d o = H := by
  funext b
  by_cases e : b = d
  · rw [e, upd_same, h]
  · rw [upd_ne e]
theorem ok_tak {f : Addr} {fd : FuncData} (F : Fun K "_law_take" "_law_take" sTak f fd) (T : Txt K mg CW CL) : FnOk P w K mg base CX0 1 f fd ["_law_draws_here", "_law_limit"] spTak := by
  refine F.ok scTak (fun vs H Q E h => ?_) (fun cdv A outer s H vs Q E hr h => ?_)
  · obtain ⟨d, n, ns, rfl, _⟩ := h
    rfl
  · obtain ⟨d, n, ns, rfl, hn, hd, k⟩ := h
    refine ⟨_, pss_cons (ps_if (pt_cmpR op_eq (pe_callB call_len_seq (by rfl) T.n_len (by decide +kernel) (pa_cons (pv 0) pa_nil)) pe_int (nomark _)) (pss_one (ps_ret pe_int)) pss_nil)
      (pss_one (ps_ret (pe_op op_mod (pe_callTy call_int1 (by rfl) T.n_int (by decide +kernel) (pa_cons (pe_bm0 PySem.F.plainAttrs_list PySem.F.slot_list_pop PySem.F.type_list_pop mt_pop (pv 0)) pa_nil)) (pv 1)))), ?_⟩
    refine ⟨_, rfl, d, _, rfl, .inl (SqL.of hd), rfl, _, rfl, ?_⟩
    by_cases c : ns = []
    · subst c
      have e1 : decide (V.int ((([] : List Int).map V.int).length : Int) = V.int 0) = true := decide_eq_true rfl
      rw [e1]
      refine iteT ?_
      have q := k [] 0 (Int.le_refl _) hn
      rw [upd_id hd] at q
      exact q
    · have hl : 0 < ns.length := List.length_pos_iff.mpr c
      have e1 : decide (V.int ((ns.map V.int).length : Int) = V.int 0) = false := decide_eq_false fun e => by
        rw [List.length_map] at e
        injection e with e
        omega
      rw [e1]
      refine iteF ?_
      obtain ⟨x, hx⟩ : ∃ x, ns[ns.length - 1]? = some x := ⟨ns[ns.length - 1], List.getElem?_eq_getElem (by omega)⟩
      refine ⟨_, rfl, .inl ⟨rfl, _, SqL.of hd⟩, d, _, _, rfl, rfl, hd, (by rw [List.length_map]; exact map_get hx), .inl ⟨x, rfl, ?_⟩⟩
      refine ⟨_, rfl, _, _, rfl, rfl, hn, ?_⟩
      rw [← List.map_dropLast]
      exact k ns.dropLast _ (Int.emod_nonneg _ (by omega)) (Int.emod_lt_of_pos _ hn)
/-! ### _law_is_integer -/
def spIsi : Sp := fun vs H Q _ => ∃ i : Int, vs = [.int i] ∧ Q (.bl true) H
theorem scIsi : FnScope ["_law_actual"] ["_law_actual"] (defScope sIsi) := ⟨rfl, rfl, rfl, by decide +kernel, rfl, by decide +kernel, by decide +kernel⟩
theorem ok_isi {f : Addr} {fd : FuncData} (F : Fun K "_law_is_integer" "_law_is_integer" sIsi f fd) (T : Txt K mg CW CL) : FnOk P w K mg base CX0 1 f fd ["_law_actual"] spIsi := by
  refine F.ok scIsi (fun vs H Q E h => ?_) (fun cdv A outer s H vs Q E hr h => ?_)
  · obtain ⟨i, rfl, _⟩ := h
    rfl
  · obtain ⟨i, rfl, k⟩ := h
    refine ⟨_, pss_one (ps_ret (pe_and (pe_callB call_isi (by rfl) T.n_isinstance (by decide +kernel) (pa_cons (pv 0) (pa_cons (pe_bltn (v := .ty "int") (by rfl) T.n_int (by decide +kernel) rfl) pa_nil)))
      (pe_one (pe_not (pe_callB call_isi (by rfl) T.n_isinstance (by decide +kernel) (pa_cons (pv 0) (pa_cons (pe_bltn (v := .ty "bool") (by rfl) T.n_bool (by decide +kernel) rfl) pa_nil))))))), ?_⟩
    refine ⟨_, rfl, .int i, .ty "int", .type "int", .type "int", true, rfl, .ty _, .base (.int i), rfl, _, rfl, iteT ?_⟩
    refine ⟨_, rfl, .int i, .ty "bool", .type "int", .type "bool", false, rfl, .ty _, .base (.int i), kit_ty (by decide +kernel), _, rfl, k⟩
end
end K34
/-! Walks: right_steps, followers, _law_behind. -/
namespace K34
open PySem PySem.Spec PyProof.Rows L2
theorem stK_at {H : Hp} {t : St3} {v : V} (h : KeyV H (stK t) v) : ∃ a, v = .ref a ∧ H a = some (.tup [.int t.1, .int t.2.1, .int t.2.2]) := KeyV.ints h
theorem decN (a b : Nat) : decide (V.int (a : Int) = V.int (b : Int)) = decide (a = b) := by
  by_cases h : a = b
  · rw [h]
    simp
  · rw [decide_eq_false h]
    refine decide_eq_false fun e => h ?_
    injection e with e
    omega
theorem fol_take {st : List St3} {i : Nat} {t : St3} (h : st[i]? = some t) (s l : Nat) : fol (st.take (i + 1)) s l = if t.1 = s ∧ t.2.1 = l then fol (st.take i) s l ++ [t.2.2] else fol (st.take i) s l := by
  unfold fol
  rw [take_one h, List.filter_append, List.map_append]
  by_cases c : t.1 = s ∧ t.2.1 = l
  · rw [if_pos c]
    have e : List.filter (fun t : St3 => decide (t.1 = s) && decide (t.2.1 = l)) [t] = [t] := by simp [c.1, c.2]
    rw [e]
    rfl
  · rw [if_neg c]
    have e : List.filter (fun t : St3 => decide (t.1 = s) && decide (t.2.1 = l)) [t] = [] := by
      rw [List.filter_eq_nil_iff]
      intro x hx
      rw [List.mem_singleton.mp hx]
      simpa using c
    rw [e]
    simp
theorem fol_len (st : List St3) (s l : Nat) : (fol st s l).length ≤ st.length := by
  unfold fol
  rw [List.length_map]
  exact List.length_filter_le _ _
/-- whole numbers from 0 as values -/
abbrev natV (ns : List Nat) : List V := ns.map fun n : Nat => V.int (n : Int)
theorem natV_snoc (ns : List Nat) (n : Nat) : natV (ns ++ [n]) = natV ns ++ [.int n] := List.map_append
theorem natV_get {ns : List Nat} {i n : Nat} (h : ns[i]? = some n) : (natV ns)[i]? = some (.int n) := by
  rw [List.getElem?_map, h]
  rfl
section
variable {P : Program} {w : World} {K : PySem.W.Frag} {mg : Str → Option Value} {base : Heap} {CW CL : Addr}
/-! ### followers -/
def spFol (CW : Addr) : Sp := fun vs H Q _ => ∃ (a : Addr) (s l : Nat) (L F : Int) (fs : List (List Int)) (st : List St3), vs = [.ref a, .int s, .int l] ∧ WAt CW H a L F fs st ∧ st.length ≤ 1000 ∧
  ∀ (p : Addr) (H' : Hp), Same H H' → H p = none → H' p = some (.lst (natV (fol st s l))) → Q (.ref p) H'
abbrev NNfol : List Str := ["world", "state", "label", "step"]
theorem scFol : FnScope NNfol ["world", "state", "label"] (defScope sFol) := ⟨rfl, rfl, rfl, by decide +kernel, rfl, by decide +kernel, by decide +kernel⟩
theorem ok_fol {f : Addr} {fd : FuncData} (F : Fun K "followers" "followers" sFol f fd) (T : Txt K mg CW CL) : FnOk P w K mg base CX0 1 f fd ["world", "state", "label"] (spFol CW) := by
  refine F.ok scFol (fun vs H Q E h => ?_) (fun cdv A outer s H vs Q E hr h => ?_)
  · obtain ⟨a, s, l, L, F, fs, st, rfl, _⟩ := h
    rfl
  · obtain ⟨a, s, l, L, F, fs, st, rfl, hW, hlen, k⟩ := h
    obtain ⟨dx, sT, tT, vs, us, h1, h2, h3, h4, h5⟩ := hW.ex
    refine ⟨_, pss_one (ps_ret (pe_lc (own := [("step", 3)]) (g := gName 3) rfl scFol.nd (pi_tup (pe_fld (pv 0) rfl)) (blkOk_by (own := [("step", 3)]) (N := NNfol) (sc := defScope sFol) (by decide +kernel)) (fun _ _ _ _ _ => pg_name (i := 3) scFol.nd rfl (Or.inl rfl))
      (fun _ _ _ _ _ => pts_one (PW.pt (pw_and (pt_cmpR op_eq (pe_ix (ixT K) (pv 3) pe_int (fun _ _ => rfl)) (pv 1) (nomark _)) (pw_and1 (pt_cmpR op_eq (pe_ix (ixT K) (pv 3) pe_int (fun _ _ => rfl)) (pv 2) (nomark _)))))) (fun _ _ _ _ _ => (pe_ix (ixT K) (pv 3) pe_int (fun _ _ => rfl))))), ?_⟩
    refine ⟨_, rfl, a, CW, dx, _, _, rfl, h1, T.clW, T.wt, wfl_steps _ _ _ _, tT, rfl, ⟨_, SqT.of h4⟩, fun D hD => lc_tup (xs := us) (fun i H' => Same H H' ∧ H' D = some (.lst (natV (fol (st.take i) s l)))) ⟨same_upd hD, upd_same⟩ (fun i H' _ ⟨sm, _⟩ => SqT.of (sm _ _ h4)) ?_ ?_⟩
    · rintro i x H' hx ⟨sm, hD'⟩
      have hi : i < st.length := by
        have q := (List.getElem?_eq_some_iff.mp hx).1
        have q2 := h5.len
        rw [List.length_map] at q2
        omega
      obtain ⟨t, ht⟩ : ∃ t, st[i]? = some t := ⟨st[i], List.getElem?_eq_getElem hi⟩
      obtain ⟨x', hx', kx⟩ := h5.get (k := stK t) (i := i) (by rw [List.getElem?_map, ht]; rfl)
      rw [hx] at hx'
      have ex := Option.some.inj hx'
      subst ex
      obtain ⟨b, rfl, hb⟩ := stK_at (kx.same sm)
      have hlt := fol_len (st.take i) s l
      rw [List.length_take] at hlt
      have hsz : (natV (fol (st.take i) s l)).length < sizeLine := by
        rw [List.length_map]
        exact small1000 (by omega)
      refine ⟨rfl, ?_⟩
      refine ⟨_, rfl, b, _, _, _, rfl, rfl, SqT.of hb, at_of (j := 0) rfl rfl, _, rfl, rfl, _, rfl, ?_⟩
      rw [decN]
      by_cases c1 : t.1 = s
      · rw [decide_eq_true c1]
        refine iteT ⟨_, rfl, b, _, _, _, rfl, rfl, SqT.of hb, at_of (j := 1) rfl rfl, _, rfl, rfl, _, rfl, ?_⟩
        rw [decN]
        by_cases c2 : t.2.1 = l
        · rw [decide_eq_true c2]
          refine iteT ⟨_, rfl, b, _, _, _, rfl, rfl, SqT.of hb, at_of (j := 2) rfl rfl, _, hD', hsz, fun b' o e => ?_, ?_⟩
          · rw [upd_ne (ne_of_none e hD)]
            exact sm _ _ e
          · rw [upd_same, fol_take ht, if_pos ⟨c1, c2⟩, natV_snoc]
        · rw [decide_eq_false c2]
          refine iteF ⟨sm, ?_⟩
          rw [hD', fol_take ht, if_neg (fun z => c2 z.2)]
      · rw [decide_eq_false c1]
        refine iteF (iteF ⟨sm, ?_⟩)
        rw [hD', fol_take ht, if_neg (fun z => c1 z.1)]
    · rintro H' ⟨sm, hD'⟩
      refine k D H' sm hD ?_
      have q2 := h5.len
      rw [List.length_map] at q2
      rw [hD', q2, List.take_length]
/-! ### _law_behind -/
def spBeh : Sp := fun vs H Q _ => ∃ (a : Addr) (s l : Nat) (fs : List (List Int)) (st : List St3), vs = [.ref a, .int s, .int l] ∧ LAt H a fs st ∧ st.length ≤ 1000 ∧
  ∀ (p : Addr) (H' : Hp), Same H H' → H p = none → H' p = some (.lst (natV (fol st s l))) → Q (.ref p) H'
abbrev NNbeh : List Str := ["_law_world_here", "_law_state", "_law_label", "_law_step"]
theorem scBeh : FnScope NNbeh ["_law_world_here", "_law_state", "_law_label"] (defScope sBeh) := ⟨rfl, rfl, rfl, by decide +kernel, rfl, by decide +kernel, by decide +kernel⟩
theorem ok_beh {f : Addr} {fd : FuncData} (F : Fun K "_law_behind" "_law_behind" sBeh f fd) (T : Txt K mg CW CL) : FnOk P w K mg base CX0 1 f fd ["_law_world_here", "_law_state", "_law_label"] spBeh := by
  refine F.ok scBeh (fun vs H Q E h => ?_) (fun cdv A outer s H vs Q E hr h => ?_)
  · obtain ⟨a, s, l, fs, st, rfl, _⟩ := h
    rfl
  · obtain ⟨a, s, l, fs, st, rfl, hW, hlen, k⟩ := h
    obtain ⟨sl, tl, vs, us, h1, h2, h3, h4, h5⟩ := hW.ex
    refine ⟨_, pss_one (ps_ret (pe_lc (own := [("_law_step", 3)]) (g := gName 3) rfl scBeh.nd (pi_list (pe_ix ix_tup (pv 0) pe_int (fun _ _ => rfl))) (blkOk_by (own := [("_law_step", 3)]) (N := NNbeh) (sc := defScope sBeh) (by decide +kernel)) (fun _ _ _ _ _ => pg_name (i := 3) scBeh.nd rfl (Or.inl rfl))
      (fun _ _ _ _ _ => pts_one (PW.pt (pw_and (pt_cmpR op_eq (pe_ix (ixT K) (pv 3) pe_int (fun _ _ => rfl)) (pv 1) (nomark _)) (pw_and1 (pt_cmpR op_eq (pe_ix (ixT K) (pv 3) pe_int (fun _ _ => rfl)) (pv 2) (nomark _)))))) (fun _ _ _ _ _ => (pe_ix (ixT K) (pv 3) pe_int (fun _ _ => rfl))))), ?_⟩
    refine ⟨_, rfl, a, _, _, _, rfl, rfl, SqT.of h1, at_of (j := 1) rfl rfl, tl, rfl, ⟨_, SqL.of h4⟩, fun D hD => lc_list (xs := us) (fun i H' => Same H H' ∧ H' D = some (.lst (natV (fol (st.take i) s l)))) ⟨same_upd hD, upd_same⟩ (fun i H' _ ⟨sm, _⟩ => SqL.of (sm _ _ h4)) ?_ ?_⟩
    · rintro i x H' hx ⟨sm, hD'⟩
      have hi : i < st.length := by
        have q := (List.getElem?_eq_some_iff.mp hx).1
        have q2 := h5.len
        rw [List.length_map] at q2
        omega
      obtain ⟨t, ht⟩ : ∃ t, st[i]? = some t := ⟨st[i], List.getElem?_eq_getElem hi⟩
      obtain ⟨x', hx', kx⟩ := h5.get (k := stK t) (i := i) (by rw [List.getElem?_map, ht]; rfl)
      rw [hx] at hx'
      have ex := Option.some.inj hx'
      subst ex
      obtain ⟨b, rfl, hb⟩ := stK_at (kx.same sm)
      have hlt := fol_len (st.take i) s l
      rw [List.length_take] at hlt
      have hsz : (natV (fol (st.take i) s l)).length < sizeLine := by
        rw [List.length_map]
        exact small1000 (by omega)
      refine ⟨rfl, ?_⟩
      refine ⟨_, rfl, b, _, _, _, rfl, rfl, SqT.of hb, at_of (j := 0) rfl rfl, _, rfl, rfl, _, rfl, ?_⟩
      rw [decN]
      by_cases c1 : t.1 = s
      · rw [decide_eq_true c1]
        refine iteT ⟨_, rfl, b, _, _, _, rfl, rfl, SqT.of hb, at_of (j := 1) rfl rfl, _, rfl, rfl, _, rfl, ?_⟩
        rw [decN]
        by_cases c2 : t.2.1 = l
        · rw [decide_eq_true c2]
          refine iteT ⟨_, rfl, b, _, _, _, rfl, rfl, SqT.of hb, at_of (j := 2) rfl rfl, _, hD', hsz, fun b' o e => ?_, ?_⟩
          · rw [upd_ne (ne_of_none e hD)]
            exact sm _ _ e
          · rw [upd_same, fol_take ht, if_pos ⟨c1, c2⟩, natV_snoc]
        · rw [decide_eq_false c2]
          refine iteF ⟨sm, ?_⟩
          rw [hD', fol_take ht, if_neg (fun z => c2 z.2)]
      · rw [decide_eq_false c1]
        refine iteF (iteF ⟨sm, ?_⟩)
        rw [hD', fol_take ht, if_neg (fun z => c1 z.1)]
    · rintro H' ⟨sm, hD'⟩
      refine k D H' sm hD ?_
      have q2 := h5.len
      rw [List.length_map] at q2
      rw [hD', q2, List.take_length]
/-! ### right_steps -/
abbrev skey (t : St3) : List Key := [.inl (t.1 : Int), .inl (t.2.1 : Int), .inl (t.2.2 : Int)]
theorem skey_inj {t u : St3} (h : skey t = skey u) : t = u := by
  obtain ⟨a, b, c⟩ := t
  obtain ⟨a', b', c'⟩ := u
  injection h with h1 h
  injection h with h2 h
  injection h with h3 _
  injection h1 with h1
  injection h2 with h2
  injection h3 with h3
  have e1 : a = a' := by
    dsimp only at h1
    omega
  have e2 : b = b' := by
    dsimp only at h2
    omega
  have e3 : c = c' := by
    dsimp only at h3
    omega
  rw [e1, e2, e3]
theorem min3_nat (a b c : Nat) : ∃ m : Int, nuMin3 (.int (a : Int)) (.int (b : Int)) (.int (c : Int)) = some (.int m) ∧ 0 ≤ m := by
  have two : ∀ i j : Int, nuMin2 (.int i) (.int j) = some (.int (if j < i then j else i)) := fun i j => by
    unfold nuMin2 nuLt nuCB
    by_cases h : j < i
    · simp [h]
    · simp [h]
  refine ⟨if (c : Int) < (if (b : Int) < a then (b : Int) else a) then (c : Int) else (if (b : Int) < a then (b : Int) else a), ?_, ?_⟩
  · unfold nuMin3
    rw [two, Option.bind_some, two]
  · split
    · omega
    · split <;> omega
def spRst (K : PySem.W.Frag) : Sp := fun vs H Q _ => ∃ (L : Int) (n : Nat) (a : Addr) (us : List V) (st : List St3), vs = [.int L, .int n, .ref a] ∧ SqL K H a us ∧ KeyVs H (st.map stK) us ∧ st.Nodup ∧ st.length ≤ 1000 ∧ (∀ t ∈ st, t.1 < n ∧ (t.2.1 : Int) < L ∧ t.2.2 < n) ∧
  ∀ H', Same H H' → Q (.bl true) H'
abbrev NNrst : List Str := ["labels", "count", "steps", "seen", "first", "label", "second"]
theorem scRst : FnScope NNrst ["labels", "count", "steps"] (defScope sRst) := ⟨rfl, rfl, rfl, by decide +kernel, rfl, by decide +kernel, by decide +kernel⟩
theorem ok_rst {f : Addr} {fd : FuncData} (F : Fun K "right_steps" "right_steps" sRst f fd) (T : Txt K mg CW CL) : FnOk P w K mg base CX0 1 f fd ["labels", "count", "steps"] (spRst K) := by
  refine F.ok scRst (fun vs H Q E h => ?_) (fun cdv A outer s H vs Q E hr h => ?_)
  · obtain ⟨L, n, a, us, st, rfl, _⟩ := h
    rfl
  · obtain ⟨L, n, a, us, st, rfl, hS, hk, nd, hlen, hok, k⟩ := h
    have hu := hu_of hr
    refine ⟨_, (pss_cons (ps_set (i := 3) scRst.nd rfl (Or.inl rfl) pe_dnewT)
      (pss_cons (ps_for PassesOwn.never rfl (pi_list (pv 2)) (pg_tup rfl (pgs_cons (pg_name (i := 4) scRst.nd rfl (Or.inl rfl)) (pgs_cons (pg_name (i := 5) scRst.nd rfl (Or.inl rfl)) (pgs_cons (pg_name (i := 6) scRst.nd rfl (Or.inl rfl)) pgs_nil))))
        (pss_cons (ps_if (PW.pt (pw_or (pt_cmpR op_lt (pe_callB (call_min3Nu rfl) (by rfl) T.n_min (by decide +kernel) (pa_cons (pv 4) (pa_cons (pv 5) (pa_cons (pv 6) pa_nil)))) pe_int (nomark _)) (pw_or (pt_cmpR op_ge (pe_callB (call_max2 rfl) (by rfl) T.n_max (by decide +kernel) (pa_cons (pv 4) (pa_cons (pv 6) pa_nil))) (pv 1) (nomark _)) (pw_or1 (pt_cmpR op_ge (pv 5) (pv 0) (nomark _)))))) (pss_one ps_never) pss_nil)
        (pss_cons (ps_if (pt_cmp (pc_din hu (pe_tup (pa_cons (pv 4) (pa_cons (pv 5) (pa_cons (pv 6) pa_nil)))) (pv 3))) (pss_one ps_never) pss_nil)
        (pss_one (ps_dput hu (pv 3) (pe_tup (pa_cons (pv 4) (pa_cons (pv 5) (pa_cons (pv 6) pa_nil)))) pe_bl rfl)))))
      (pss_one (ps_ret pe_bl)))), ?_⟩
    intro d hd
    have hS' : SqL K (upd H d (.dT [])) a us := (same_upd hd).seq hS
    refine ⟨_, rfl, a, rfl, ⟨_, hS'⟩, for_list (K := K) (xs := us) (fun i σ H' => Same H H' ∧ (∃ kvs : List (List Key × V), H' d = some (.dT kvs) ∧ kvs.length ≤ i ∧ ∀ j t, i ≤ j → st[j]? = some t → valV kvs (skey t) = none) ∧ ∃ v4 v5 v6, σ = [some (.int L), some (.int n), some (.ref a), some (.ref d), v4, v5, v6])
      ⟨same_upd hd, ⟨[], upd_same, Nat.le_refl _, fun _ _ _ _ => rfl⟩, none, none, none, rfl⟩ (fun i σ H' _ ⟨sm, _⟩ => sm.seq hS) ?_ ?_⟩
    · rintro i x σ H' hx ⟨sm, ⟨kvs, hd', hkl, hno⟩, v4, v5, v6, rfl⟩
      have hi : i < st.length := by
        have q := (List.getElem?_eq_some_iff.mp hx).1
        have q2 := hk.len
        rw [List.length_map] at q2
        omega
      obtain ⟨t, ht⟩ : ∃ t, st[i]? = some t := ⟨st[i], List.getElem?_eq_getElem hi⟩
      obtain ⟨x', hx', kx⟩ := hk.get (k := stK t) (i := i) (by rw [List.getElem?_map, ht]; rfl)
      rw [hx] at hx'
      have ex := Option.some.inj hx'
      subst ex
      obtain ⟨b, rfl, hb⟩ := stK_at (kx.same sm)
      obtain ⟨o1, o2, o3⟩ := hok t (List.mem_of_getElem? ht)
      obtain ⟨m, hm, hm0⟩ := min3_nat t.1 t.2.1 t.2.2
      refine ⟨b, _, rfl, SqT.of hb, rfl, _, _, rfl, _, _, rfl, _, _, rfl, rfl, ?_⟩
      -- the bounds
      refine ⟨_, rfl, _, rfl, _, rfl, _, _, _, _, rfl, hm, _, _, rfl, rfl, _, rfl, ?_⟩
      have e1 : decide (m < 0) = false := decide_eq_false (by omega)
      rw [e1]
      refine iteF ⟨_, rfl, _, rfl, _, _, rfl, _, rfl, _, _, rfl, rfl, _, rfl, ?_⟩
      have e2 : decide ((n : Int) ≤ (if (t.2.2 : Int) > (t.1 : Int) then (t.2.2 : Int) else (t.1 : Int))) = false := decide_eq_false (by split <;> omega)
      rw [e2]
      refine iteF ⟨_, rfl, _, rfl, _, _, rfl, rfl, _, rfl, ?_⟩
      have e3 : decide (L ≤ (t.2.1 : Int)) = false := decide_eq_false (by omega)
      rw [e3]
      refine iteF ?_
      -- not seen so far
      refine ⟨_, rfl, _, rfl, _, rfl, (by show 3 ≤ sizeLine; decide), fun p hp => ?_⟩
      have ndp : d ≠ p := ne_of_none hd' hp
      have hdp : (upd H' p (.tup [.int (t.1 : Int), .int (t.2.1 : Int), .int (t.2.2 : Int)])) d = some (.dT kvs) := by
        rw [upd_ne ndp]
        exact hd'
      refine ⟨_, rfl, d, _, rfl, DGet.t (k := skey t) hdp upd_same, _, rfl, ?_⟩
      rw [hno i t (Nat.le_refl _) ht]
      refine iteF ?_
      -- now it is
      refine ⟨_, rfl, _, rfl, _, rfl, _, rfl, (by show 3 ≤ sizeLine; decide), fun q hq => ?_⟩
      have ndq : d ≠ q := ne_of_none hdp hq
      refine ⟨d, _, rfl, DPut.t (k := skey t) (kvs := kvs) (by rw [upd_ne ndq]; exact hdp) upd_same (small1000 (by omega)), ?_⟩
      refine ⟨fun b' o e => ?_, ⟨_, upd_same, ?_, fun j u hj hu' => ?_⟩, _, _, _, rfl⟩
      · have nd1 : b' ≠ d := ne_of_none e hd
        rw [upd_ne nd1]
        have e' := sm _ _ e
        have nbp : b' ≠ p := ne_of_none e' hp
        have e2 : (upd H' p (.tup [.int (t.1 : Int), .int (t.2.1 : Int), .int (t.2.2 : Int)])) b' = some o := by
          rw [upd_ne nbp]
          exact e'
        rw [upd_ne (ne_of_none e2 hq)]
        exact e2
      · have q := length_putK kvs (skey t) (V.bl true)
        omega
      · rw [valV_put]
        have ne : skey u ≠ skey t := fun e => by
          have e' := skey_inj e
          rw [e'] at hu'
          have q := nd_ix nd ht hu'
          omega
        rw [if_neg ne]
        exact hno j u (by omega) hu'
    · rintro σ H' ⟨sm, _, v4, v5, v6, rfl⟩
      exact k H' sm
end
end K34
/-! Walks: numbered. -/
namespace K34
open PySem PySem.Spec PyProof.Rows L2
theorem sameT {K : PySem.W.Frag} {H H' : Hp} {a : Addr} {xs : List V} (e : Same H H') (h : SqT K H a xs) : SqT K H' a xs := by
  rcases h with (h | ⟨o, h⟩) | h
  · exact .inl (.inl (e _ _ h))
  · exact .inl (.inr ⟨o, e _ _ h⟩)
  · exact .inr h
theorem sameL {K : PySem.W.Frag} {H H' : Hp} {a : Addr} {xs : List V} (e : Same H H') (h : SqL K H a xs) : SqL K H' a xs := e.seq h
/-- a clause without a test -/
theorem tyes {σ : L2.St} {H : Hp} {F G : Hp → Prop} (h : F H) : tYes σ H fun b H3 => if b = true then F H3 else G H3 := by
  show if true = true then F H else G H
  exact iteT h
mutual
/-- a key doesn't hang on an object that is no tuple -/
theorem keyV_but {H : Hp} {d : Addr} {o : HO} {φ : Heap → Prop} (hd : H d = some (.ext φ)) : ∀ {k : NestedKey} {v : V}, KeyV H k v → KeyV (upd H d o) k v
  | .none, _, h => h.elim
  | .text _, _, h => h.elim
  | .num _, _, h => h
  | .tup ks, _, h => by
    obtain ⟨a, xs, e, ha, t⟩ := h
    have ne : a ≠ d := fun z => by
      rw [z, hd] at ha
      cases ha
    exact ⟨a, xs, e, by rw [upd_ne ne]; exact ha, keyVs_but hd t⟩
theorem keyVs_but {H : Hp} {d : Addr} {o : HO} {φ : Heap → Prop} (hd : H d = some (.ext φ)) : ∀ {ks : List NestedKey} {xs : List V}, KeyVs H ks xs → KeyVs (upd H d o) ks xs
  | [], _, h => h
  | k :: ks, _, h => by
    obtain ⟨v, r, e, q, t⟩ := h
    exact ⟨v, r, e, keyV_but hd q, keyVs_but hd t⟩
end
section
variable {P : Program} {w : World} {K : PySem.W.Frag} {mg : Str → Option Value} {base : Heap} {CW CL : Addr}
abbrev NNnum : List Str := ["signs", "order", "sign"]
theorem scNum : FnScope NNnum ["signs"] (defScope sNum) := ⟨rfl, rfl, rfl, by decide +kernel, rfl, by decide +kernel, by decide +kernel⟩
/-! ### numbered, of a list -/
def spNumL (K : PySem.W.Frag) : Sp := fun vs H Q _ => ∃ (a : Addr) (xs : List V) (ks : List NestedKey), vs = [.ref a] ∧ SqL K H a xs ∧ KeyVs H ks xs ∧ (∀ k ∈ ks, k.depth ≤ 8 ∧ ∃ r, k = .tup r) ∧ ks.length ≤ 100 ∧
  ∀ (p : Addr) (H' : Hp), Same H H' → H p = none → H' p = some (.tup ((nums ks).map V.int)) → Q (.ref p) H'
theorem ok_numL {f : Addr} {fd : FuncData} (F : Fun K "numbered" "numbered" sNum f fd) (T : Txt K mg CW CL) : FnOk P w K mg base CX0 1 f fd ["signs"] (spNumL K) := by
  refine F.ok scNum (fun vs H Q E h => ?_) (fun cdv A outer s H vs Q E hr h => ?_)
  · obtain ⟨a, xs, ks, rfl, _⟩ := h
    rfl
  · obtain ⟨a, xs, ks, rfl, hS, hk, ht, hlen, k⟩ := h
    have hu := hr.units
    refine ⟨_, pss_cons (ps_set (i := 1) scNum.nd rfl (Or.inr rfl) pe_ixNew)
      (pss_cons (ps_for PassesOwn.never rfl (pi_list (pv 0)) (pg_name (i := 2) scNum.nd rfl (Or.inl rfl))
        (pss_one (ps_if (pt_cmpR (op_ixNotIn hu) (pv 2) (pv 1) (by rfl)) (pss_one (ps_asg (pe_callB call_lenIx (by rfl) T.n_len (by decide +kernel) (pa_cons (pv 1) pa_nil)) (pg_sub (pv 1) (pv 2) (set_ix hu)))) pss_nil)))
      (pss_one (ps_ret (pe_callTy call_tuple_of (by rfl) T.n_tuple (by decide +kernel) (pa_cons (pe_lc (own := [("sign", 2)]) (g := gName 2) (tt := tYes) rfl scNum.nd (pi_list (pv 0)) (blkOk_by (own := [("sign", 2)]) (N := NNnum) (sc := defScope sNum) (by decide +kernel)) (fun _ _ _ _ _ => pg_name (i := 2) scNum.nd rfl (Or.inl rfl)) (fun _ _ _ _ _ => pts_nil) (fun _ _ _ _ _ => (ixGet P w hu (pv 1) (pv 2) (fun _ _ => rfl)))) pa_nil))))), ?_⟩
    intro d hd
    have hxl := hk.len
    have sm0 : Same H (upd H d (IxO P w d [])) := same_upd hd
    refine ⟨_, rfl, a, rfl, ⟨_, sameL sm0 hS⟩, for_list (K := K) (xs := xs) (fun i σ H' => Same H H' ∧ (∃ L : List (NestedKey × Addr), L.map (·.1) = dd (ks.take i) ∧ IxD P w H' d L) ∧ ∃ v, σ = [some (.ref a), some (.ref d), v])
      ⟨sm0, ⟨[], rfl, upd_same, fun p hp => by cases hp⟩, none, rfl⟩ (fun i σ H' _ ⟨sm, _⟩ => sameL sm hS) ?_ ?_⟩
    · rintro i x σ H' hx ⟨sm, ⟨L, hL, hD⟩, v, rfl⟩
      have hi : i < ks.length := by
        rw [← hxl]
        exact (List.getElem?_eq_some_iff.mp hx).1
      obtain ⟨kk, hkk⟩ : ∃ kk, ks[i]? = some kk := ⟨ks[i], List.getElem?_eq_getElem hi⟩
      obtain ⟨x', hx', kx⟩ := hk.get hkk
      rw [hx] at hx'
      have ex := Option.some.inj hx'
      subst ex
      obtain ⟨hdep, r, er⟩ := ht kk (List.mem_of_getElem? hkk)
      subst er
      have kx' := kx.same sm
      obtain ⟨t, rfl⟩ := ref_of_tup kx
      have step : dd (ks.take (i + 1)) = put (dd (ks.take i)) (.tup r) := by rw [take_one hkk, dd_snoc]
      have hLl : L.length ≤ i := by
        have q := dd_len (ks.take i)
        rw [← hL, List.length_map, List.length_take] at q
        omega
      refine ⟨_, rfl, _, rfl, d, .tup r, L, rfl, kx', ⟨t, rfl⟩, hdep, hD, _, rfl, ?_⟩
      by_cases c : NestedKey.tup r ∈ L.map (·.1)
      · rw [decide_eq_true c]
        refine iteF ⟨sm, ⟨L, ?_, hD⟩, _, rfl⟩
        rw [step, put_in (by rw [← hL]; exact c)]
        exact hL
      · rw [decide_eq_false c]
        refine iteT ⟨_, rfl, d, L, rfl, hD, _, rfl, _, rfl, d, t, .tup r, L, rfl, rfl, rfl, kx', hdep, hD, c, by omega, ?_⟩
        have smd : ∀ b o, H b = some o → (upd H' d (IxO P w d (L ++ [(.tup r, t)]))) b = some o := fun b o e => by
          rw [upd_ne (ne_of_none e hd)]
          exact sm _ _ e
        refine ⟨smd, ⟨L ++ [(.tup r, t)], ?_, upd_same, fun p hp => ?_⟩, _, rfl⟩
        · rw [step, put_out (by rw [← hL]; exact c), ← hL, List.map_append]
          rfl
        · -- the keys stand as they stood
          have all : ∀ q ∈ L ++ [(NestedKey.tup r, t)], KeyV H q.1 (.ref q.2) ∨ q ∈ L := fun q hq => by
            rcases List.mem_append.mp hq with z | z
            · exact .inr z
            · rw [List.mem_singleton.mp z]
              exact .inl kx
          rcases List.mem_append.mp hp with z | z
          · obtain ⟨q1, q2⟩ := hD.2 p z
            refine ⟨?_, q2⟩
            exact keyV_but hD.1 q1
          · rw [List.mem_singleton.mp z]
            exact ⟨kx.same smd, hdep⟩
    · rintro σ H' ⟨sm, ⟨L, hL, hD⟩, v, rfl⟩
      rw [hxl, List.take_length] at hL
      refine ⟨_, rfl, a, rfl, ⟨_, sameL sm hS⟩, fun D hD' => lc_list (xs := xs) (fun i H2 => Same H' H2 ∧ H2 D = some (.lst ((ixs (dd ks) (ks.take i)).map V.int))) ⟨same_upd hD', upd_same⟩ (fun i H2 _ ⟨s2, _⟩ => sameL s2 (sameL sm hS)) ?_ ?_⟩
      · rintro i x H2 hx ⟨s2, hD2⟩
        have hi : i < ks.length := by
          rw [← hxl]
          exact (List.getElem?_eq_some_iff.mp hx).1
        obtain ⟨kk, hkk⟩ : ∃ kk, ks[i]? = some kk := ⟨ks[i], List.getElem?_eq_getElem hi⟩
        obtain ⟨x', hx', kx⟩ := hk.get hkk
        rw [hx] at hx'
        have ex := Option.some.inj hx'
        subst ex
        obtain ⟨hdep, r, er⟩ := ht kk (List.mem_of_getElem? hkk)
        subst er
        obtain ⟨t, rfl⟩ := ref_of_tup kx
        have hD3 : IxD P w H2 d L := ⟨s2 _ _ hD.1, fun p hp => ⟨(hD.2 p hp).1.same s2, (hD.2 p hp).2⟩⟩
        have hmem : NestedKey.tup r ∈ L.map (·.1) := by
          rw [hL, mem_dd]
          exact List.mem_of_getElem? hkk
        refine ⟨rfl, tyes ⟨_, rfl, _, rfl, d, .tup r, L, rfl, (kx.same sm).same s2, ⟨t, rfl⟩, hdep, hD3, hmem, _, hD2, ?_, ?_⟩⟩
        · rw [List.length_map, ixs_len, List.length_take]
          exact small1000 (by omega)
        · refine ⟨fun b o e => ?_, ?_⟩
          · rw [upd_ne (ne_of_none e hD')]
            exact s2 _ _ e
          · rw [upd_same, take_one hkk, hL]
            unfold ixs
            rw [List.map_append, List.map_append]
            rfl
      · rintro H2 ⟨s2, hD2⟩
        rw [hxl, List.take_length] at hD2
        refine ⟨D, _, rfl, .inl ⟨SqL.of hD2, fun l hl => ?_⟩⟩
        exact k l _ ((sm.trans s2).trans (same_upd hl)) ((sm.trans s2).free hl) upd_same
/-! ### numbered, of a tuple -/
def spNumT (K : PySem.W.Frag) : Sp := fun vs H Q _ => ∃ (a : Addr) (xs : List V) (ks : List NestedKey), vs = [.ref a] ∧ SqT K H a xs ∧ KeyVs H ks xs ∧ (∀ k ∈ ks, k.depth ≤ 8 ∧ ∃ r, k = .tup r) ∧ ks.length ≤ 100 ∧
  ∀ (p : Addr) (H' : Hp), Same H H' → H p = none → H' p = some (.tup ((nums ks).map V.int)) → Q (.ref p) H'
theorem ok_numT {f : Addr} {fd : FuncData} (F : Fun K "numbered" "numbered" sNum f fd) (T : Txt K mg CW CL) : FnOk P w K mg base CX0 1 f fd ["signs"] (spNumT K) := by
  refine F.ok scNum (fun vs H Q E h => ?_) (fun cdv A outer s H vs Q E hr h => ?_)
  · obtain ⟨a, xs, ks, rfl, _⟩ := h
    rfl
  · obtain ⟨a, xs, ks, rfl, hS, hk, ht, hlen, k⟩ := h
    have hu := hr.units
    refine ⟨_, pss_cons (ps_set (i := 1) scNum.nd rfl (Or.inr rfl) pe_ixNew)
      (pss_cons (ps_for PassesOwn.never rfl (pi_tup (pv 0)) (pg_name (i := 2) scNum.nd rfl (Or.inl rfl))
        (pss_one (ps_if (pt_cmpR (op_ixNotIn hu) (pv 2) (pv 1) (by rfl)) (pss_one (ps_asg (pe_callB call_lenIx (by rfl) T.n_len (by decide +kernel) (pa_cons (pv 1) pa_nil)) (pg_sub (pv 1) (pv 2) (set_ix hu)))) pss_nil)))
      (pss_one (ps_ret (pe_callTy call_tuple_of (by rfl) T.n_tuple (by decide +kernel) (pa_cons (pe_lc (own := [("sign", 2)]) (g := gName 2) (tt := tYes) rfl scNum.nd (pi_tup (pv 0)) (blkOk_by (own := [("sign", 2)]) (N := NNnum) (sc := defScope sNum) (by decide +kernel)) (fun _ _ _ _ _ => pg_name (i := 2) scNum.nd rfl (Or.inl rfl)) (fun _ _ _ _ _ => pts_nil) (fun _ _ _ _ _ => (ixGet P w hu (pv 1) (pv 2) (fun _ _ => rfl)))) pa_nil))))), ?_⟩
    intro d hd
    have hxl := hk.len
    have sm0 : Same H (upd H d (IxO P w d [])) := same_upd hd
    refine ⟨_, rfl, a, rfl, ⟨_, sameT sm0 hS⟩, for_tup (K := K) (xs := xs) (fun i σ H' => Same H H' ∧ (∃ L : List (NestedKey × Addr), L.map (·.1) = dd (ks.take i) ∧ IxD P w H' d L) ∧ ∃ v, σ = [some (.ref a), some (.ref d), v])
      ⟨sm0, ⟨[], rfl, upd_same, fun p hp => by cases hp⟩, none, rfl⟩ (fun i σ H' _ ⟨sm, _⟩ => sameT sm hS) ?_ ?_⟩
    · rintro i x σ H' hx ⟨sm, ⟨L, hL, hD⟩, v, rfl⟩
      have hi : i < ks.length := by
        rw [← hxl]
        exact (List.getElem?_eq_some_iff.mp hx).1
      obtain ⟨kk, hkk⟩ : ∃ kk, ks[i]? = some kk := ⟨ks[i], List.getElem?_eq_getElem hi⟩
      obtain ⟨x', hx', kx⟩ := hk.get hkk
      rw [hx] at hx'
      have ex := Option.some.inj hx'
      subst ex
      obtain ⟨hdep, r, er⟩ := ht kk (List.mem_of_getElem? hkk)
      subst er
      have kx' := kx.same sm
      obtain ⟨t, rfl⟩ := ref_of_tup kx
      have step : dd (ks.take (i + 1)) = put (dd (ks.take i)) (.tup r) := by rw [take_one hkk, dd_snoc]
      have hLl : L.length ≤ i := by
        have q := dd_len (ks.take i)
        rw [← hL, List.length_map, List.length_take] at q
        omega
      refine ⟨_, rfl, _, rfl, d, .tup r, L, rfl, kx', ⟨t, rfl⟩, hdep, hD, _, rfl, ?_⟩
      by_cases c : NestedKey.tup r ∈ L.map (·.1)
      · rw [decide_eq_true c]
        refine iteF ⟨sm, ⟨L, ?_, hD⟩, _, rfl⟩
        rw [step, put_in (by rw [← hL]; exact c)]
        exact hL
      · rw [decide_eq_false c]
        refine iteT ⟨_, rfl, d, L, rfl, hD, _, rfl, _, rfl, d, t, .tup r, L, rfl, rfl, rfl, kx', hdep, hD, c, by omega, ?_⟩
        have smd : ∀ b o, H b = some o → (upd H' d (IxO P w d (L ++ [(.tup r, t)]))) b = some o := fun b o e => by
          rw [upd_ne (ne_of_none e hd)]
          exact sm _ _ e
        refine ⟨smd, ⟨L ++ [(.tup r, t)], ?_, upd_same, fun p hp => ?_⟩, _, rfl⟩
        · rw [step, put_out (by rw [← hL]; exact c), ← hL, List.map_append]
          rfl
        · -- the keys stand as they stood
          have all : ∀ q ∈ L ++ [(NestedKey.tup r, t)], KeyV H q.1 (.ref q.2) ∨ q ∈ L := fun q hq => by
            rcases List.mem_append.mp hq with z | z
            · exact .inr z
            · rw [List.mem_singleton.mp z]
              exact .inl kx
          rcases List.mem_append.mp hp with z | z
          · obtain ⟨q1, q2⟩ := hD.2 p z
            refine ⟨?_, q2⟩
            exact keyV_but hD.1 q1
          · rw [List.mem_singleton.mp z]
            exact ⟨kx.same smd, hdep⟩
    · rintro σ H' ⟨sm, ⟨L, hL, hD⟩, v, rfl⟩
      rw [hxl, List.take_length] at hL
      refine ⟨_, rfl, a, rfl, ⟨_, sameT sm hS⟩, fun D hD' => lc_tup (xs := xs) (fun i H2 => Same H' H2 ∧ H2 D = some (.lst ((ixs (dd ks) (ks.take i)).map V.int))) ⟨same_upd hD', upd_same⟩ (fun i H2 _ ⟨s2, _⟩ => sameT s2 (sameT sm hS)) ?_ ?_⟩
      · rintro i x H2 hx ⟨s2, hD2⟩
        have hi : i < ks.length := by
          rw [← hxl]
          exact (List.getElem?_eq_some_iff.mp hx).1
        obtain ⟨kk, hkk⟩ : ∃ kk, ks[i]? = some kk := ⟨ks[i], List.getElem?_eq_getElem hi⟩
        obtain ⟨x', hx', kx⟩ := hk.get hkk
        rw [hx] at hx'
        have ex := Option.some.inj hx'
        subst ex
        obtain ⟨hdep, r, er⟩ := ht kk (List.mem_of_getElem? hkk)
        subst er
        obtain ⟨t, rfl⟩ := ref_of_tup kx
        have hD3 : IxD P w H2 d L := ⟨s2 _ _ hD.1, fun p hp => ⟨(hD.2 p hp).1.same s2, (hD.2 p hp).2⟩⟩
        have hmem : NestedKey.tup r ∈ L.map (·.1) := by
          rw [hL, mem_dd]
          exact List.mem_of_getElem? hkk
        refine ⟨rfl, tyes ⟨_, rfl, _, rfl, d, .tup r, L, rfl, (kx.same sm).same s2, ⟨t, rfl⟩, hdep, hD3, hmem, _, hD2, ?_, ?_⟩⟩
        · rw [List.length_map, ixs_len, List.length_take]
          exact small1000 (by omega)
        · refine ⟨fun b o e => ?_, ?_⟩
          · rw [upd_ne (ne_of_none e hD')]
            exact s2 _ _ e
          · rw [upd_same, take_one hkk, hL]
            unfold ixs
            rw [List.map_append, List.map_append]
            rfl
      · rintro H2 ⟨s2, hD2⟩
        rw [hxl, List.take_length] at hD2
        refine ⟨D, _, rfl, .inl ⟨SqL.of hD2, fun l hl => ?_⟩⟩
        exact k l _ ((sm.trans s2).trans (same_upd hl)) ((sm.trans s2).free hl) upd_same
end
end K34
/-! Walks: sign_of. -/
namespace K34
open PySem PySem.Spec PyProof.Rows L2
mutual
/-- a key doesn't hang on an object that is no tuple -/
theorem keyV_upd {H : Hp} {d : Addr} {o : HO} (hd : ∀ xs, H d ≠ some (.tup xs)) : ∀ {k : NestedKey} {v : V}, KeyV H k v → KeyV (upd H d o) k v
  | .none, _, h => h.elim
  | .text _, _, h => h.elim
  | .num _, _, h => h
  | .tup ks, _, h => by
    obtain ⟨a, xs, e, ha, t⟩ := h
    have ne : a ≠ d := fun z => by
      rw [z] at ha
      exact hd xs ha
    exact ⟨a, xs, e, by rw [upd_ne ne]; exact ha, keyVs_upd hd t⟩
theorem keyVs_upd {H : Hp} {d : Addr} {o : HO} (hd : ∀ xs, H d ≠ some (.tup xs)) : ∀ {ks : List NestedKey} {xs : List V}, KeyVs H ks xs → KeyVs (upd H d o) ks xs
  | [], _, h => h
  | k :: ks, _, h => by
    obtain ⟨v, r, e, q, t⟩ := h
    exact ⟨v, r, e, keyV_upd hd q, keyVs_upd hd t⟩
end
theorem lst_notup {H : Hp} {d : Addr} {xs : List V} (h : H d = some (.lst xs)) : ∀ ys, H d ≠ some (.tup ys) := fun ys e => by
  rw [h] at e
  cases e
/-- what a state shows -/
def sgn (L : Nat) (st : List St3) (now : List NestedKey) (s : Nat) : NestedKey :=
  .tup [now.getD s (.num 0), .tup ((List.range L).map fun l => .tup (ss ((fol st s l).map fun e => now.getD e (.num 0))))]
theorem getD_num (cs : List Int) (e : Nat) : (cs.map NestedKey.num).getD e (.num 0) = .num (cs.getD e 0) := by
  rw [List.getD_eq_getElem?_getD, List.getD_eq_getElem?_getD, List.getElem?_map]
  cases cs[e]? <;> rfl
/-- a world that is right: few states, steps between them, none twice -/
structure GW (fs : List (List Int)) (st : List St3) : Prop where
  ok : OkSt fs.length st
  nd : st.Nodup
  len : st.length ≤ 1000
  n12 : fs.length ≤ 12
  pos : 0 < fs.length
theorem fol_nodup {st : List St3} (h : st.Nodup) (s l : Nat) : (fol st s l).Nodup := by
  unfold fol
  refine List.pairwise_map.mpr (List.Pairwise.imp_of_mem (fun {t u} ht hu hne e => hne ?_) (h.filter _))
  rw [List.mem_filter, Bool.and_eq_true, decide_eq_true_iff, decide_eq_true_iff] at ht hu
  obtain ⟨a, b, c⟩ := t
  obtain ⟨a', b', c'⟩ := u
  obtain ⟨_, h1, h2⟩ := ht
  obtain ⟨_, h3, h4⟩ := hu
  dsimp only at h1 h2 h3 h4 e
  rw [h1, h2, h3, h4, e]
theorem fol_few {n : Nat} {st : List St3} (ok : OkSt n st) (nd : st.Nodup) (s l : Nat) : (fol st s l).length ≤ n := by
  have q := nat_nodup_len (fol st s l) (List.range n) (fol_nodup nd s l) fun e he => List.mem_range.mpr (ok _ (mem_fol.mp he)).2.2
  rw [List.length_range] at q
  exact q
theorem alk_nums (ns : List Int) : Alk (ns.map NestedKey.num) := by
  intro a ha b hb
  obtain ⟨i, _, rfl⟩ := List.mem_map.mp ha
  obtain ⟨j, _, rfl⟩ := List.mem_map.mp hb
  rfl
section
variable {P : Program} {w : World} {K : PySem.W.Frag} {mg : Str → Option Value} {base : Heap} {CW CL : Addr}
def spSgn (CW : Addr) : Sp := fun vs H Q _ => ∃ (a c : Addr) (s : Nat) (F : Int) (fs : List (List Int)) (st : List St3) (cs : List Int), vs = [.ref a, .int s, .ref c] ∧ WAt CW H a 2 F fs st ∧ GW fs st ∧ H c = some (.tup (cs.map V.int)) ∧ cs.length = fs.length ∧ s < fs.length ∧
  ∀ (p : Addr) (H' : Hp), Same H H' → KeyV H' (sgn 2 st (cs.map .num) s) (.ref p) → Q (.ref p) H'
abbrev NNsgn : List Str := ["world", "state", "classes_now", "behind", "label", "other"]
theorem scSgn : FnScope NNsgn ["world", "state", "classes_now"] (defScope sSgn) := ⟨rfl, rfl, rfl, by decide +kernel, rfl, by decide +kernel, by decide +kernel⟩
theorem ok_sgn {f fF : Addr} {fd fdF : FuncData} (F : Fun K "sign_of" "sign_of" sSgn f fd) (T : Txt K mg CW CL) (DF : Dn K mg "followers" sFol fF fdF ["world", "state", "label"]) : FnOk P w K mg base CX0 2 f fd ["world", "state", "classes_now"] (spSgn CW) := by
  have GF : FnOk P w K mg base CX0 1 fF fdF ["world", "state", "label"] (spFol CW) := ok_fol DF.F T
  refine F.ok scSgn (fun vs H Q E h => ?_) (fun cdv A outer s H vs Q E hr h => ?_)
  · obtain ⟨a, c, s, F, fs, st, cs, rfl, _⟩ := h
    rfl
  · obtain ⟨a, c, s, Fa, fs, st, cs, rfl, hW, gw, hc, hcl, hsn, k⟩ := h
    have hu := hr.units
    obtain ⟨dx, sT, tT, vs, us, h1, h2, h3, h4, h5⟩ := hW.ex
    refine ⟨_, pss_cons (ps_set (i := 3) scSgn.nd rfl (Or.inl rfl) (pe_lst pa_nil))
      (pss_cons (ps_for PassesOwn.never rfl (pi_range1 rfl T.n_range (pa_cons (pe_fld (pv 0) rfl) pa_nil)) (pg_name (i := 4) scSgn.nd rfl (Or.inl rfl))
        (pss_one (ps_expr (pe_bm PySem.F.plainAttrs_list PySem.F.slot_list_append PySem.F.type_list_append mt_append (pv 3) (pa_cons (pe_callTy (tupOf K) (by rfl) T.n_tuple (by decide +kernel) (pa_cons (pe_callB (sortK P w rfl hu) (by rfl) T.n_sorted (by decide +kernel) (pa_cons (pe_callTy (setK K P w rfl hu) (by rfl) T.n_set (by decide +kernel) (pa_cons
          (pe_lc (own := [("other", 5)]) (g := gName 5) (tt := tYes) rfl scSgn.nd (pi_list (pe_call GF (hr.mono (by decide)) rfl DF.g DF.F.kp DF.b .nil pass0 (pa_cons (pv 0) (pa_cons (pv 1) (pa_cons (pv 4) pa_nil))))) (blkOk_by (own := [("other", 5)]) (N := NNsgn) (sc := defScope sSgn) (by decide +kernel)) (fun _ _ _ _ _ => pg_name (i := 5) scSgn.nd rfl (Or.inl rfl)) (fun _ _ _ _ _ => pts_nil) (fun _ _ _ _ _ => (pe_ix (ixT K) (pv 2) (pv 5) (fun _ _ => rfl))))
          pa_nil)) pa_nil)) pa_nil)) pa_nil)))))
      (pss_one (ps_ret (pe_tup (pa_cons (pe_ix ix_tup (pv 2) (pv 1) (fun _ _ => rfl)) (pa_cons (pe_callTy (tupOf K) (by rfl) T.n_tuple (by decide +kernel) (pa_cons (pv 3) pa_nil)) pa_nil)))))), ?_⟩
    refine ⟨Nat.zero_le _, fun B hB => ?_⟩
    have sm0 : Same H (upd H B (.lst [])) := same_upd hB
    refine ⟨_, rfl, a, CW, dx, _, _, rfl, sm0 _ _ h1, T.clW, T.wl, wfl_labels _ _ _ _, _, rfl, by decide, by decide,
      for_range (lo := 0) (n := 2) (fun i σ H' => Same H H' ∧ (∃ bs, H' B = some (.lst bs) ∧ KeyVs H' ((List.range i).map fun l => .tup (ss ((fol st s l).map fun e => (cs.map NestedKey.num).getD e (.num 0)))) bs) ∧ ∃ v4 v5, σ = [some (.ref a), some (.int s), some (.ref c), some (.ref B), v4, v5])
        ⟨sm0, ⟨[], upd_same, .nil⟩, none, none, rfl⟩ ?_ ?_⟩
    · rintro i σ H' hi ⟨sm, ⟨bs, hB', hbs⟩, v4, v5, rfl⟩
      have e0 : (0 : Int) + (i : Int) = (i : Int) := Int.zero_add _
      rw [e0]
      refine ⟨_, rfl, .inl ⟨rfl, _, SqL.of hB'⟩, _, rfl, _, rfl, _, rfl, a, s, i, 2, Fa, fs, st, rfl, hW.same sm, gw.len, fun p H1 s1 hp hl => ?_⟩
      refine ⟨p, rfl, ⟨_, SqL.of hl⟩, fun D hD => lc_list (xs := natV (fol st s i)) (fun j H2 => Same H1 H2 ∧ H2 D = some (.lst (((fol st s i).take j).map fun e => V.int (cs.getD e 0)))) ⟨same_upd hD, upd_same⟩ (fun j H2 _ ⟨s2, _⟩ => SqL.of (s2 _ _ hl)) ?_ ?_⟩
      · rintro j x H2 hx ⟨s2, hD2⟩
        have hj : j < (fol st s i).length := by
          have q := (List.getElem?_eq_some_iff.mp hx).1
          rw [List.length_map] at q
          exact q
        obtain ⟨e, he⟩ : ∃ e, (fol st s i)[j]? = some e := ⟨(fol st s i)[j], List.getElem?_eq_getElem hj⟩
        have ex : x = .int e := by
          have q := natV_get he
          rw [hx] at q
          exact Option.some.inj q
        subst ex
        have hen : e < cs.length := by
          rw [hcl]
          exact (gw.ok _ (mem_fol.mp (List.mem_of_getElem? he))).2.2
        have hce : cs[e]? = some (cs.getD e 0) := by
          rw [List.getD_eq_getElem?_getD, List.getElem?_eq_getElem hen]
          rfl
        have hfew := fol_few gw.ok gw.nd s i
        refine ⟨rfl, tyes ⟨_, rfl, _, rfl, c, _, _, _, rfl, rfl, SqT.of (s2 _ _ (s1 _ _ (sm _ _ hc))), at_of (j := e) rfl (map_get hce), _, hD2, ?_, ?_, ?_⟩⟩
        · rw [List.length_map, List.length_take]
          exact small1000 (by have := gw.n12; omega)
        · intro b o q
          rw [upd_ne (ne_of_none q hD)]
          exact s2 _ _ q
        · rw [upd_same, take_one he, List.map_append]
          rfl
      · rintro H2 ⟨s2, hD2⟩
        have hnl : (natV (fol st s i)).length = (fol st s i).length := List.length_map _
        rw [hnl, List.take_length] at hD2
        have hfew := fol_few gw.ok gw.nd s i
        have ev : ((fol st s i).map fun e => V.int (cs.getD e 0)) = (((fol st s i).map fun e => cs.getD e 0).map V.int) := by rw [List.map_map]; rfl
        have ek : ((fol st s i).map fun e => (cs.map NestedKey.num).getD e (.num 0)) = (((fol st s i).map fun e => cs.getD e 0).map NestedKey.num) := by
          rw [List.map_map]
          exact List.map_congr_left fun e _ => getD_num cs e
        rw [ev] at hD2
        have hnl2 : ((fol st s i).map fun e => cs.getD e 0).length ≤ 12 := by
          rw [List.length_map]
          have := gw.n12
          omega
        generalize ((fol st s i).map fun e => cs.getD e 0) = ns at hD2 ek hnl2
        refine ⟨D, _, _, rfl, SqL.of hD2, keyVs_nums.mpr rfl, (by rw [List.length_map]; exact hnl2), .inl ⟨ns, rfl⟩, fun kk hkk => ?_, fun p3 H3 s3 hp3 hset => ?_⟩
        · obtain ⟨z, _, rfl⟩ := List.mem_map.mp hkk
          exact Nat.zero_le _
        refine ⟨p3, _, rfl, hset, alk_nums ns, fun q ys H4 s4 hq hys hkys => ?_⟩
        refine ⟨q, _, rfl, .inl ⟨SqL.of hys, fun l hl4 => ?_⟩⟩
        have all : Same H' H4 := ((s1.trans s2).trans s3).trans s4
        have hB4 := all _ _ hB'
        have nBl : B ≠ l := ne_of_none hB4 hl4
        have hB5 : (upd H4 l (.tup ys)) B = some (.lst bs) := by
          rw [upd_ne nBl]
          exact hB4
        have sl : Same H4 (upd H4 l (.tup ys)) := same_upd hl4
        have hbl : bs.length = i := by
          rw [hbs.len, List.length_map, List.length_range]
        refine ⟨B, bs, _, rfl, rfl, hB5, small1000 (by omega), ?_⟩
        refine ⟨fun b o e => ?_, ⟨_, upd_same, ?_⟩, _, _, rfl⟩
        · rw [upd_ne (ne_of_none e hB)]
          exact sl _ _ (all _ _ (sm _ _ e))
        · rw [List.range_succ, List.map_append]
          refine KeyVs.snoc (keyV_upd (lst_notup hB5) (KeyV.of_tup upd_same ?_)) (keyVs_upd (lst_notup hB5) ((hbs.same all).same sl))
          rw [ek]
          exact hkys.same sl
    · rintro σ H' ⟨sm, ⟨bs, hB', hbs⟩, v4, v5, rfl⟩
      have hcs : cs[s]? = some (cs.getD s 0) := by
        rw [List.getD_eq_getElem?_getD, List.getElem?_eq_getElem (by omega)]
        rfl
      refine ⟨_, rfl, _, rfl, c, _, _, _, rfl, rfl, SqT.of (sm _ _ hc), at_of (j := s) rfl (map_get hcs), _, rfl, B, _, rfl, .inl ⟨SqL.of hB', fun l hl => ?_⟩⟩
      refine ⟨(by show 2 ≤ sizeLine; decide), fun p hp => k p _ ((sm.trans (same_upd hl)).trans (same_upd hp)) ?_⟩
      refine KeyV.of_tup upd_same (.cons ?_ (.cons ?_ .nil))
      · rw [getD_num]
        rfl
      · exact (KeyV.of_tup upd_same (hbs.same (same_upd hl))).same (same_upd hp)
end
end K34
/-! What the signs tell apart. -/
namespace K34
open PySem PySem.Spec PyProof.Rows L2
open PySem.W (alike alikeAll)
theorem depthAll_le {d : Nat} : ∀ {ks : List NestedKey}, (∀ k ∈ ks, k.depth ≤ d) → NestedKey.depthAll ks ≤ d
  | [], _ => Nat.zero_le _
  | k :: ks, h => by
    simp only [NestedKey.depthAll]
    exact Nat.max_le.mpr ⟨h k List.mem_cons_self, depthAll_le fun q hq => h q (List.mem_cons_of_mem _ hq)⟩
theorem depth_tup {d : Nat} {ks : List NestedKey} (h : ∀ k ∈ ks, k.depth ≤ d) : (NestedKey.tup ks).depth ≤ d + 1 := by
  simp only [NestedKey.depth]
  exact Nat.succ_le_succ (depthAll_le h)
theorem getD_mem {now : List NestedKey} {e : Nat} (h : e < now.length) : now.getD e (.num 0) ∈ now := by
  rw [List.getD_eq_getElem?_getD, List.getElem?_eq_getElem h]
  exact List.getElem_mem h
theorem getD_iff {now : List NestedKey} {s t : Nat} (hs : s < now.length) (ht : t < now.length) : now.getD s (.num 0) = now.getD t (.num 0) ↔ now[s]? = now[t]? := by
  rw [List.getD_eq_getElem?_getD, List.getD_eq_getElem?_getD, List.getElem?_eq_getElem hs, List.getElem?_eq_getElem ht]
  exact ⟨fun e => congrArg some e, fun e => Option.some.inj e⟩
theorem alike_lists : ∀ {xs ys : List NestedKey}, (∀ a ∈ xs, ∀ b ∈ ys, alike a.data b.data = true) → alikeAll (NestedKey.datas xs) (NestedKey.datas ys) = true
  | [], _, _ => by simp [NestedKey.datas, alikeAll]
  | _ :: _, [], _ => by simp [NestedKey.datas, alikeAll]
  | x :: xs, y :: ys, h => by
    simp only [NestedKey.datas, alikeAll]
    rw [h x List.mem_cons_self y List.mem_cons_self, alike_lists fun a ha b hb => h a (List.mem_cons_of_mem _ ha) b (List.mem_cons_of_mem _ hb)]
    rfl
theorem alike_tup {xs ys : List NestedKey} (h : alikeAll (NestedKey.datas xs) (NestedKey.datas ys) = true) : alike (NestedKey.tup xs).data (NestedKey.tup ys).data = true := by
  simp only [NestedKey.data, alike]
  exact h
section
variable {n L : Nat} {st : List St3} {now : List NestedKey}
/-- the classes behind the steps of a state -/
abbrev beh (st : List St3) (now : List NestedKey) (s l : Nat) : List NestedKey := (fol st s l).map fun e => now.getD e (.num 0)
theorem beh_mem (ok : OkSt n st) (hl : now.length = n) {s l : Nat} {k : NestedKey} (h : k ∈ beh st now s l) : k ∈ now := by
  obtain ⟨e, he, rfl⟩ := List.mem_map.mp h
  exact getD_mem (by rw [hl]; exact (ok _ (mem_fol.mp he)).2.2)
theorem sgn_alike (ok : OkSt n st) (hl : now.length = n) (ha : Alk now) {s t : Nat} (hs : s < n) (ht : t < n) : alike (sgn L st now s).data (sgn L st now t).data = true := by
  unfold sgn
  refine alike_tup ?_
  simp only [NestedKey.datas, alikeAll]
  rw [ha _ (getD_mem (by omega)) _ (getD_mem (by omega))]
  rw [alike_tup (alike_lists fun a h b g => ?_)]
  · rfl
  · obtain ⟨l, _, rfl⟩ := List.mem_map.mp h
    obtain ⟨l', _, rfl⟩ := List.mem_map.mp g
    exact alike_tup (alike_lists fun x hx y hy => ha _ (beh_mem ok hl (mem_ss.mp hx)) _ (beh_mem ok hl (mem_ss.mp hy)))
theorem sgn_depth (ok : OkSt n st) (hl : now.length = n) (hd : ∀ k ∈ now, k.depth ≤ 1) {s : Nat} (hs : s < n) : (sgn L st now s).depth ≤ 8 := by
  refine Nat.le_trans (depth_tup (d := 3) fun k hk => ?_) (by decide)
  rcases List.mem_cons.mp hk with e | hk
  · rw [e]
    exact Nat.le_trans (hd _ (getD_mem (by omega))) (by decide)
  · rw [List.mem_singleton.mp hk]
    refine depth_tup (d := 2) fun k hk => ?_
    obtain ⟨l, _, rfl⟩ := List.mem_map.mp hk
    exact depth_tup (d := 1) fun x hx => hd _ (beh_mem ok hl (mem_ss.mp hx))
abbrev signs (L n : Nat) (st : List St3) (now : List NestedKey) : List NestedKey := (List.range n).map (sgn L st now)
theorem signs_len : (signs L n st now).length = n := by rw [List.length_map, List.length_range]
theorem signs_get {s : Nat} (hs : s < n) : (signs L n st now)[s]? = some (sgn L st now s) := by
  rw [List.getElem?_map, List.getElem?_range hs]
  rfl
theorem signs_mem {k : NestedKey} (h : k ∈ signs L n st now) : ∃ s, s < n ∧ k = sgn L st now s := by
  obtain ⟨s, hs, rfl⟩ := List.mem_map.mp h
  exact ⟨s, List.mem_range.mp hs, rfl⟩
theorem signs_alk (ok : OkSt n st) (hl : now.length = n) (ha : Alk now) : Alk (signs L n st now) := fun a h b g => by
  obtain ⟨s, hs, rfl⟩ := signs_mem h
  obtain ⟨t, ht, rfl⟩ := signs_mem g
  exact sgn_alike ok hl ha hs ht
theorem signs_tup {k : NestedKey} (h : k ∈ signs L n st now) : ∃ r, k = .tup r := by
  obtain ⟨s, hs, rfl⟩ := signs_mem h
  exact ⟨_, rfl⟩
theorem signs_depth (ok : OkSt n st) (hl : now.length = n) (hd : ∀ k ∈ now, k.depth ≤ 1) {k : NestedKey} (h : k ∈ signs L n st now) : k.depth ≤ 8 := by
  obtain ⟨s, hs, rfl⟩ := signs_mem h
  exact sgn_depth ok hl hd hs
end
/-- a turn: the signs tell apart what one step more tells apart -/
theorem signs_fa {fs : List (List Int)} {st : List St3} {now : List NestedKey} {L k : Nat} (ok : OkSt fs.length st) (hL : 2 ≤ L) (h : Fa (wo fs st ok) now k) (ha : Alk now) : Fa (wo fs st ok) (signs L fs.length st now) (k + 1) := by
  have hl : now.length = fs.length := h.1
  refine ⟨signs_len, fun s t hs ht => ?_⟩
  have hs' : s < fs.length := hs
  have ht' : t < fs.length := ht
  rw [signs_get hs', signs_get ht']
  have e0 : now.getD s (.num 0) = now.getD t (.num 0) ↔ E (wo fs st ok) k s t := (getD_iff (by omega) (by omega)).trans (h.2 s t hs ht)
  have eq_at : ∀ u v, u < fs.length → v < fs.length → (now.getD u (.num 0) = now.getD v (.num 0) ↔ E (wo fs st ok) k u v) := fun u v hu hv => (getD_iff (by omega) (by omega)).trans (h.2 u v hu hv)
  have inn : ∀ {a l e}, e ∈ fol st a l → e < fs.length := fun {a l e} q => (ok _ (mem_fol.mp q)).2.2
  have one : ∀ l, (ss (beh st now s l) = ss (beh st now t l) ↔ (∀ u ∈ fol st s l, ∃ v ∈ fol st t l, E (wo fs st ok) k u v) ∧ (∀ v ∈ fol st t l, ∃ u ∈ fol st s l, E (wo fs st ok) k u v)) := fun l => by
    rw [ss_iff fun a q b r => ha _ (beh_mem ok hl q) _ (beh_mem ok hl r)]
    constructor
    · intro q
      refine ⟨fun u hu => ?_, fun v hv => ?_⟩
      · obtain ⟨v, hv, e⟩ := List.mem_map.mp ((q _).mp (List.mem_map.mpr ⟨u, hu, rfl⟩))
        exact ⟨v, hv, (eq_at u v (inn hu) (inn hv)).mp e.symm⟩
      · obtain ⟨u, hu, e⟩ := List.mem_map.mp ((q _).mpr (List.mem_map.mpr ⟨v, hv, rfl⟩))
        exact ⟨u, hu, (eq_at u v (inn hu) (inn hv)).mp e⟩
    · rintro ⟨q1, q2⟩ kk
      constructor
      · intro m
        obtain ⟨u, hu, rfl⟩ := List.mem_map.mp m
        obtain ⟨v, hv, e⟩ := q1 u hu
        exact List.mem_map.mpr ⟨v, hv, ((eq_at u v (inn hu) (inn hv)).mpr e).symm⟩
      · intro m
        obtain ⟨v, hv, rfl⟩ := List.mem_map.mp m
        obtain ⟨u, hu, e⟩ := q2 v hv
        exact List.mem_map.mpr ⟨u, hu, (eq_at u v (inn hu) (inn hv)).mpr e⟩
  have ext : some (sgn L st now s) = some (sgn L st now t) ↔ now.getD s (.num 0) = now.getD t (.num 0) ∧ ∀ l, l < L → ss (beh st now s l) = ss (beh st now t l) := by
    unfold sgn
    constructor
    · intro e
      injection e with e
      injection e with e
      injection e with e1 e
      injection e with e2 _
      injection e2 with e2
      refine ⟨e1, fun l hlt => ?_⟩
      have q := congrArg (fun z : List NestedKey => z[l]?) e2
      simp only [List.getElem?_map, List.getElem?_range hlt, Option.map_some, Option.some.injEq] at q
      injection q
    · rintro ⟨e1, e2⟩
      rw [e1]
      have q : ((List.range L).map fun l => NestedKey.tup (ss (beh st now s l))) = ((List.range L).map fun l => NestedKey.tup (ss (beh st now t l))) :=
        List.map_congr_left fun l hlt => by rw [e2 l (List.mem_range.mp hlt)]
      show some (NestedKey.tup [_, NestedKey.tup ((List.range L).map fun l => NestedKey.tup (ss (beh st now s l)))]) = _
      rw [q]
  rw [ext]
  show _ ↔ E (wo fs st ok) k s t ∧ ∀ l, (∀ u ∈ fol st s l, ∃ v ∈ fol st t l, E (wo fs st ok) k u v) ∧ (∀ v ∈ fol st t l, ∃ u ∈ fol st s l, E (wo fs st ok) k u v)
  rw [e0]
  constructor
  · rintro ⟨q, r⟩
    refine ⟨q, fun l => ?_⟩
    rcases Nat.lt_or_ge l L with c | c
    · exact (one l).mp (r l c)
    · have none_ : ∀ a e, e ∉ fol st a l := fun a e m => by
        have := (ok _ (mem_fol.mp m)).2.1
        dsimp only at this
        omega
      exact ⟨fun u hu => absurd hu (none_ _ _), fun v hv => absurd hv (none_ _ _)⟩
  · rintro ⟨q, r⟩
    exact ⟨q, fun l _ => (one l).mpr (r l)⟩
/-- the facts tell apart what no step tells apart -/
theorem facts_fa {fs : List (List Int)} {st : List St3} (ok : OkSt fs.length st) : Fa (wo fs st ok) (fs.map tupk) 0 := by
  refine ⟨List.length_map _, fun s t hs ht => ?_⟩
  have hs' : s < fs.length := hs
  have ht' : t < fs.length := ht
  show _ ↔ fs.getD s [] = fs.getD t []
  rw [List.getElem?_map, List.getElem?_map, List.getD_eq_getElem?_getD, List.getD_eq_getElem?_getD, List.getElem?_eq_getElem hs', List.getElem?_eq_getElem ht']
  constructor
  · intro e
    have e' : tupk fs[s] = tupk fs[t] := Option.some.inj e
    injection e' with e'
    have inj : ∀ xs ys : List Int, xs.map NestedKey.num = ys.map NestedKey.num → xs = ys := by
      intro xs
      induction xs with
      | nil =>
        intro ys q
        cases ys with
        | nil => rfl
        | cons y ys => cases q
      | cons x xs ih =>
        intro ys q
        cases ys with
        | nil => cases q
        | cons y ys =>
          injection q with q1 q2
          injection q1 with q1
          rw [q1, ih ys q2]
    exact inj _ _ e'
  · intro e
    have e' : fs[s] = fs[t] := e
    show some (tupk fs[s]) = some (tupk fs[t])
    rw [e']
end K34
/-! Walks: rounds. -/
namespace K34
open PySem PySem.Spec PyProof.Rows L2
theorem fa_nums {W : Wo} {c : List Int} {k : Nat} (h : Fa W c k) : Fa W (c.map NestedKey.num) k := by
  refine ⟨(List.length_map _).trans h.1, fun s t hs ht => ?_⟩
  rw [← h.2 s t hs ht, List.getElem?_map, List.getElem?_map]
  have hs' : s < c.length := by rw [h.1]; exact hs
  have ht' : t < c.length := by rw [h.1]; exact ht
  rw [List.getElem?_eq_getElem hs', List.getElem?_eq_getElem ht']
  constructor
  · intro e
    have e' : NestedKey.num c[s] = NestedKey.num c[t] := Option.some.inj e
    injection e' with e'
    rw [e']
  · intro e
    have e' : c[s] = c[t] := Option.some.inj e
    rw [e']
theorem ints_inj : ∀ {xs ys : List Int}, xs.map NestedKey.num = ys.map NestedKey.num → xs = ys
  | [], [], _ => rfl
  | [], _ :: _, q => by cases q
  | _ :: _, [], q => by cases q
  | x :: xs, y :: ys, q => by
    injection q with q1 q2
    injection q1 with q1
    rw [q1, ints_inj q2]
theorem tupk_inj {xs ys : List Int} (h : tupk xs = tupk ys) : xs = ys := by
  injection h with h
  exact ints_inj h
section
variable {P : Program} {w : World} {K : PySem.W.Frag} {mg : Str → Option Value} {base : Heap} {CW CL : Addr}
def spRou (CW : Addr) : Sp := fun vs H Q _ => ∃ (a : Addr) (F : Int) (fs : List (List Int)) (st : List St3) (gw : GW fs st), vs = [.ref a] ∧ WAt CW H a 2 F fs st ∧
  ∀ (p : Addr) (H' : Hp) (Rs : List (List Int)) (xs : List V), Same H H' → H' p = some (.lst xs) → KeyVs H' (Rs.map tupk) xs → Rounds (wo fs st gw.ok) Rs → Q (.ref p) H'
abbrev NNrou : List Str := ["world", "found", "after", "state"]
theorem scRou : FnScope NNrou ["world"] (defScope sRou) := ⟨rfl, rfl, rfl, by decide +kernel, rfl, by decide +kernel, by decide +kernel⟩
/-- how many rounds may still come -/
def leftAt (B : Addr) (H : Hp) : Nat := match H B with
  | some (.lst xs) => 13 - xs.length
  | _ => 0
theorem leftAt_eq {B : Addr} {H : Hp} {xs : List V} (h : H B = some (.lst xs)) : leftAt B H = 13 - xs.length := by
  unfold leftAt
  rw [h]
theorem ok_rou {f fF fN fS : Addr} {fd fdF fdN fdS : FuncData} (F : Fun K "rounds" "rounds" sRou f fd) (T : Txt K mg CW CL) (DF : Dn K mg "followers" sFol fF fdF ["world", "state", "label"]) (DN : Dn K mg "numbered" sNum fN fdN ["signs"]) (DS : Dn K mg "sign_of" sSgn fS fdS ["world", "state", "classes_now"]) :
    FnOk P w K mg base CX0 3 f fd ["world"] (spRou CW) := by
  have GL : FnOk P w K mg base CX0 1 fN fdN ["signs"] (spNumL K) := ok_numL DN.F T
  have GT : FnOk P w K mg base CX0 1 fN fdN ["signs"] (spNumT K) := ok_numT DN.F T
  have GS : FnOk P w K mg base CX0 2 fS fdS ["world", "state", "classes_now"] (spSgn CW) := ok_sgn DS.F T DF
  refine F.ok scRou (fun vs H Q E h => ?_) (fun cdv A outer s H vs Q E hr h => ?_)
  · obtain ⟨a, F, fs, st, gw, rfl, _⟩ := h
    rfl
  · obtain ⟨a, Fa0, fs, st, gw, rfl, hW, k⟩ := h
    have hu := hr.units
    obtain ⟨dx, sT, tT, vs, us, h1, h2, h3, h4, h5⟩ := hW.ex
    have hvl : vs.length = fs.length := by rw [h3.len, List.length_map]
    have hn12 := gw.n12
    refine ⟨_, pss_cons (ps_set (i := 1) scRou.nd rfl (Or.inr rfl) (pe_lst (pa_cons (pe_call GT (hr.mono (by decide)) rfl DN.g DN.F.kp DN.b .nil pass0 (pa_cons (pe_fld (pv 0) rfl) pa_nil)) pa_nil)))
      (pss_cons (ps_set (i := 2) scRou.nd rfl (Or.inl rfl) (pe_call GL (hr.mono (by decide)) rfl DN.g DN.F.kp DN.b .nil pass0 (pa_cons (pe_lc (own := [("state", 3)]) (g := gName 3) (tt := tYes) rfl scRou.nd (pi_range1 rfl T.n_range (pa_cons (pe_callB call_len_seq (by rfl) T.n_len (by decide +kernel) (pa_cons (pe_fld (pv 0) rfl) pa_nil)) pa_nil)) (blkOk_by (own := [("state", 3)]) (N := NNrou) (sc := defScope sRou) (by decide +kernel)) (fun _ _ _ _ _ => pg_name (i := 3) scRou.nd rfl (Or.inl rfl)) (fun _ _ _ _ _ => pts_nil)
          (fun _ _ _ _ _ => (pe_call GS (hr.mono (by decide)) rfl DS.g DS.F.kp DS.b .nil pass0 (pa_cons (pv 0) (pa_cons (pv 3) (pa_cons (pe_ix (ixL K) (pv 1) (pe_un un_neg pe_int) (fun _ _ => rfl)) pa_nil)))))) pa_nil)))
      (pss_cons (ps_while PassesOwn.never (pt_cmpR (op_neD hu) (pv 2) (pe_ix ix_list (pv 1) (pe_un un_neg pe_int) (fun _ _ => rfl)) (nomark _))
        (pss_cons (ps_expr (pe_bm PySem.F.plainAttrs_list PySem.F.slot_list_append PySem.F.type_list_append mt_append (pv 1) (pa_cons (pv 2) pa_nil)))
        (pss_one (ps_set (i := 2) scRou.nd rfl (Or.inl rfl) (pe_call GL (hr.mono (by decide)) rfl DN.g DN.F.kp DN.b .nil pass0 (pa_cons (pe_lc (own := [("state", 3)]) (g := gName 3) (tt := tYes) rfl scRou.nd (pi_range1 rfl T.n_range (pa_cons (pe_callB call_len_seq (by rfl) T.n_len (by decide +kernel) (pa_cons (pe_fld (pv 0) rfl) pa_nil)) pa_nil)) (blkOk_by (own := [("state", 3)]) (N := NNrou) (sc := defScope sRou) (by decide +kernel)) (fun _ _ _ _ _ => pg_name (i := 3) scRou.nd rfl (Or.inl rfl)) (fun _ _ _ _ _ => pts_nil)
          (fun _ _ _ _ _ => (pe_call GS (hr.mono (by decide)) rfl DS.g DS.F.kp DS.b .nil pass0 (pa_cons (pv 0) (pa_cons (pv 3) (pa_cons (pe_ix (ixL K) (pv 1) (pe_un un_neg pe_int) (fun _ _ => rfl)) pa_nil)))))) pa_nil))))))
      (pss_one (ps_ret (pv 1))))), ?_⟩
    -- found = [numbered(world.states)]
    refine ⟨_, rfl, a, CW, dx, _, _, rfl, h1, T.clW, T.ws, wfl_states _ _ _ _, sT, vs, fs.map tupk, rfl, SqT.of h2, h3, fun kk hkk => ?_, (by rw [List.length_map]; omega), fun tc H0 s0 hp0 hc0 => ?_⟩
    · obtain ⟨ns, _, rfl⟩ := List.mem_map.mp hkk
      exact ⟨by rw [depth_tupk]; decide, _, rfl⟩
    have hc : Fa (wo fs st gw.ok) (nums (fs.map tupk)) 0 := (facts_fa gw.ok).nums
    have cc : nums (nums (fs.map tupk)) = nums (fs.map tupk) := nums_nums _
    generalize nums (fs.map tupk) = c at hc0 hc cc
    have dd1 : 1 ≤ (dd c).length := by
      have q : 0 < c.length := by
        rw [hc.1]
        exact gw.pos
      obtain ⟨x, r, e⟩ : ∃ x r, c = x :: r := by
        cases c with
        | nil => simp at q
        | cons x r => exact ⟨x, r, rfl⟩
      exact List.length_pos_of_mem (mem_dd.mpr (show x ∈ c by rw [e]; exact List.mem_cons_self))
    refine ⟨(by show 1 ≤ sizeLine; decide), fun B hB => ?_⟩
    have s1 : Same H (upd H0 B (.lst [.ref tc])) := s0.trans (same_upd hB)
    have hBn : H B = none := s0.free hB
    have hB1 : (upd H0 B (.lst [V.ref tc])) B = some (.lst ([] ++ [V.ref tc])) := upd_same
    have hc1 : (upd H0 B (.lst [V.ref tc])) tc = some (.tup (c.map V.int)) := same_upd hB _ _ hc0
    have hx1 : KeyVs (upd H0 B (.lst [V.ref tc])) (([] ++ [c]).map tupk) ([] ++ [V.ref tc]) := .cons (KeyV.of_ints hc1) .nil
    obtain ⟨Rs0, eR⟩ : ∃ Rs0 : List (List Int), Rs0 = [] := ⟨[], rfl⟩
    have hall : ∀ (k : Nat) c', (Rs0 ++ [c])[k]? = some c' → Fa (wo fs st gw.ok) c' k := by
      intro k c' e
      rw [eR] at e
      cases k with
      | zero =>
        have e' : c = c' := Option.some.inj e
        rw [← e']
        exact hc
      | succ k => simp at e
    have hc : Fa (wo fs st gw.ok) c Rs0.length := by rw [eR]; exact hc
    have hdd : Rs0.length + 1 ≤ (dd c).length := by rw [eR]; exact dd1
    have hx1 : KeyVs (upd H0 B (.lst [V.ref tc])) ((Rs0 ++ [c]).map tupk) ([] ++ [V.ref tc]) := by
      rw [eR]
      exact hx1
    generalize upd H0 B (.lst [V.ref tc]) = H1 at s1 hB1 hc1 hx1
    refine ⟨_, rfl, a, CW, dx, _, _, rfl, s1 _ _ h1, T.clW, T.ws, wfl_states _ _ _ _, sT, _, rfl, .inr (SqT.of (s1 _ _ h2)), _, rfl, by omega, by omega, fun D hD => lc_range (lo := 0) (n := vs.length) (fun i H2 => Same H1 H2 ∧ ∃ ys, H2 D = some (.lst ys) ∧ KeyVs H2 ((List.range i).map (sgn 2 st (c.map .num))) ys) ⟨same_upd hD, [], upd_same, .nil⟩ ?_ ?_⟩
    · rintro i H2 hi ⟨s2, ys, hD2, hys⟩
      have e0 : (0 : Int) + (i : Int) = (i : Int) := Int.zero_add _
      rw [e0]
      refine ⟨rfl, tyes ⟨_, rfl, _, rfl, _, rfl, _, rfl, B, _, _, _, rfl, rfl, SqL.of (s2 _ _ hB1), atI_last _ _, a, tc, i, Fa0, fs, st, c, rfl, (hW.same s1).same s2, gw, s2 _ _ hc1, hc.1, by omega, fun p H3 s3 kp => ?_⟩⟩
      have hD3 := s3 _ _ hD2
      have hyl : ys.length = i := by rw [hys.len, List.length_map, List.length_range]
      refine ⟨ys, hD3, small1000 (by have := gw.n12; omega), fun b o e => ?_, _, upd_same, ?_⟩
      · rw [upd_ne (ne_of_none e hD)]
        exact s3 _ _ (s2 _ _ e)
      · rw [List.range_succ, List.map_append]
        exact KeyVs.snoc (keyV_upd (lst_notup hD3) kp) (keyVs_upd (lst_notup hD3) (hys.same s3))
    · rintro H2 ⟨s2, ys, hD2, hys⟩
      rw [hvl] at hys
      refine ⟨D, ys, signs 2 fs.length st (c.map .num), rfl, SqL.of hD2, hys, fun kk hkk => ⟨signs_depth gw.ok (by rw [List.length_map]; exact hc.1) (fun q hq => ?_) hkk, signs_tup hkk⟩, (by rw [signs_len]; have := gw.n12; omega), fun p H3 s3 hp h3 => ?_⟩
      · obtain ⟨z, _, rfl⟩ := List.mem_map.mp hq
        exact Nat.zero_le _
      have hd : Fa (wo fs st gw.ok) (nums (signs 2 fs.length st (c.map .num))) (Rs0.length + 1) := (signs_fa gw.ok (Nat.le_refl _) (fa_nums hc) (alk_nums c)).nums
      have cd : nums (nums (signs 2 fs.length st (c.map .num))) = nums (signs 2 fs.length st (c.map .num)) := nums_nums _
      generalize nums (signs 2 fs.length st (c.map .num)) = d at h3 hd cd
      have s4 : Same H H3 := (s1.trans s2).trans s3
      have hB3 := s3 _ _ (s2 _ _ hB1)
      have hx3 := (hx1.same s2).same s3
      refine while_by (fun σ H' => Same H H' ∧ ∃ (Rs0 : List (List Int)) (c d : List Int) (xs0 : List V) (tc td : Addr) (v3 : Option V), σ = [some (.ref a), some (.ref B), some (.ref td), v3] ∧ H' B = some (.lst (xs0 ++ [.ref tc])) ∧ H' tc = some (.tup (c.map V.int)) ∧ KeyVs H' ((Rs0 ++ [c]).map tupk) (xs0 ++ [.ref tc]) ∧ H' td = some (.tup (d.map V.int)) ∧
        (∀ (k : Nat) c', (Rs0 ++ [c])[k]? = some c' → Fa (wo fs st gw.ok) c' k) ∧ nums c = c ∧ Rs0.length + 1 ≤ (dd c).length ∧ Fa (wo fs st gw.ok) d (Rs0.length + 1) ∧ nums d = d)
        (fun _ H' => leftAt B H') ⟨s4, Rs0, c, d, _, tc, p, none, rfl, hB3, s3 _ _ (s2 _ _ hc1), hx3, h3, hall, cc, hdd, hd, cd⟩ ?_ ?_
      · rintro σ H1 ⟨s1, Rs0, c, d, xs0, tc, td, v3, rfl, hB1, hc1, hx1, hd1, hall, cc, hdd, hd, cd⟩
        have hc : Fa (wo fs st gw.ok) c Rs0.length := hall Rs0.length c (by rw [List.getElem?_append_right (Nat.le_refl _), Nat.sub_self]; rfl)
        have kc : KeyV H1 (tupk c) (.ref tc) := KeyV.of_ints hc1
        have kd : KeyV H1 (tupk d) (.ref td) := KeyV.of_ints hd1
        refine ⟨_, rfl, _, rfl, _, rfl, B, _, _, _, rfl, rfl, SqL.of hB1, atI_last _ _, (tupk d).data, (tupk c).data, kd.dp, kc.dp, kd.shaped (by rw [depth_tupk]; decide), kc.shaped (by rw [depth_tupk]; decide), _, rfl, ?_⟩
        rw [eqv_dec]
        have hcn : (dd c).length ≤ fs.length := by
          have q := dd_len c
          rw [hc.1] at q
          exact q
        have hxl : xs0.length = Rs0.length := by
          have q := hx1.len
          rw [List.length_map, List.length_append, List.length_append] at q
          simp only [List.length_singleton] at q
          omega
        by_cases e : d = c
        · rw [e, decide_eq_true rfl]
          refine iteF ⟨_, rfl, ?_⟩
          refine k B H1 (Rs0 ++ [c]) _ s1 hB1 hx1 ⟨?_, ?_, hall, ?_⟩
          · rw [List.length_append]
            exact Nat.succ_pos _
          · rw [List.length_append, List.length_singleton]
            exact Nat.le_trans hdd hcn
          · rw [List.length_append, List.length_singleton, Nat.add_sub_cancel]
            exact turn_stay hc hd e
        · have ne : tupk d ≠ tupk c := fun q => e (tupk_inj q)
          rw [decide_eq_false ne]
          have more := turn_more hc hd cc cd e
          refine iteT ⟨_, rfl, .inl ⟨rfl, _, SqL.of hB1⟩, _, rfl, B, _, _, rfl, rfl, hB1, small1000 (by rw [List.length_append, List.length_singleton]; omega), ?_⟩
          -- the list has one round more
          have left1 := leftAt_eq hB1
          have s1' : Same H (upd H1 B (.lst (xs0 ++ [.ref tc] ++ [.ref td]))) := fun b o q => by
            rw [upd_ne (ne_of_none q hBn)]
            exact s1 _ _ q
          have nBd : td ≠ B := ne_of hd1 hB1 (fun z => by cases z)
          have hd1' : (upd H1 B (.lst (xs0 ++ [.ref tc] ++ [.ref td]))) td = some (.tup (d.map V.int)) := by
            rw [upd_ne nBd]
            exact hd1
          have hx1' : KeyVs (upd H1 B (.lst (xs0 ++ [.ref tc] ++ [.ref td]))) ((Rs0 ++ [c] ++ [d]).map tupk) (xs0 ++ [.ref tc] ++ [.ref td]) := by
            rw [List.map_append]
            exact KeyVs.snoc (keyV_upd (lst_notup hB1) kd) (keyVs_upd (lst_notup hB1) hx1)
          have hB1' : (upd H1 B (.lst (xs0 ++ [.ref tc] ++ [.ref td]))) B = some (.lst (xs0 ++ [.ref tc] ++ [.ref td])) := upd_same
          have hall' : ∀ (k : Nat) c', (Rs0 ++ [c] ++ [d])[k]? = some c' → Fa (wo fs st gw.ok) c' k := fun k c' q => by
            rcases Nat.lt_or_ge k (Rs0 ++ [c]).length with z | z
            · rw [List.getElem?_append_left z] at q
              exact hall k c' q
            · rw [List.getElem?_append_right z] at q
              have hl1 : (Rs0 ++ [c]).length = Rs0.length + 1 := by rw [List.length_append, List.length_singleton]
              have hz : k - (Rs0 ++ [c]).length = 0 := by
                have q2 := (List.getElem?_eq_some_iff.mp q).1
                rw [List.length_singleton] at q2
                omega
              rw [hz] at q
              have q' : d = c' := Option.some.inj q
              rw [← q', show k = Rs0.length + 1 by omega]
              exact hd
          have hdd' : (Rs0 ++ [c]).length + 1 ≤ (dd d).length := by
            rw [List.length_append, List.length_singleton]
            omega
          have hd' : Fa (wo fs st gw.ok) d (Rs0 ++ [c]).length := by
            rw [List.length_append, List.length_singleton]
            exact hd
          have hlen' : (xs0 ++ [V.ref tc]).length = xs0.length + 1 := by rw [List.length_append, List.length_singleton]
          have hbound : (dd d).length ≤ fs.length := by
            have q := dd_len d
            rw [hd.1] at q
            exact q
          have hfew : xs0.length + 2 ≤ 12 := by omega
          have more2 : 13 - (xs0.length + 2) < 13 - (xs0.length + 1) := by omega
          have left0 : leftAt B H1 = 13 - (xs0.length + 1) := by
            rw [left1, List.length_append, List.length_singleton]
          generalize Rs0 ++ [c] = Rs1 at hx1' hall' hdd' hd'
          have hx1l : (xs0 ++ [V.ref tc]).length = xs0.length + 1 := by rw [List.length_append, List.length_singleton]
          generalize xs0 ++ [V.ref tc] = xs1 at hx1' hB1' hd1' s1' hx1l
          generalize upd H1 B (.lst (xs1 ++ [.ref td])) = H9 at s1' hd1' hx1' hB1'
          refine ⟨_, rfl, a, CW, dx, _, _, rfl, s1' _ _ h1, T.clW, T.ws, wfl_states _ _ _ _, sT, _, rfl, .inr (SqT.of (s1' _ _ h2)), _, rfl, by omega, by omega, fun D hD => lc_range (lo := 0) (n := vs.length) (fun i H2 => Same H9 H2 ∧ ∃ ys, H2 D = some (.lst ys) ∧ KeyVs H2 ((List.range i).map (sgn 2 st (d.map .num))) ys) ⟨same_upd hD, [], upd_same, .nil⟩ ?_ ?_⟩
          · rintro i H2 hi ⟨s2, ys, hD2, hys⟩
            have e0 : (0 : Int) + (i : Int) = (i : Int) := Int.zero_add _
            rw [e0]
            refine ⟨rfl, tyes ⟨_, rfl, _, rfl, _, rfl, _, rfl, B, _, _, _, rfl, rfl, SqL.of (s2 _ _ hB1'), atI_last _ _, a, td, i, Fa0, fs, st, d, rfl, (hW.same s1').same s2, gw, s2 _ _ hd1', hd'.1, by omega, fun p H3 s3 kp => ?_⟩⟩
            have hD3 := s3 _ _ hD2
            have hyl : ys.length = i := by rw [hys.len, List.length_map, List.length_range]
            refine ⟨ys, hD3, small1000 (by have := gw.n12; omega), fun b o e => ?_, _, upd_same, ?_⟩
            · rw [upd_ne (ne_of_none e hD)]
              exact s3 _ _ (s2 _ _ e)
            · rw [List.range_succ, List.map_append]
              exact KeyVs.snoc (keyV_upd (lst_notup hD3) kp) (keyVs_upd (lst_notup hD3) (hys.same s3))
          · rintro H2 ⟨s2, ys, hD2, hys⟩
            rw [hvl] at hys
            refine ⟨D, ys, signs 2 fs.length st (d.map .num), rfl, SqL.of hD2, hys, fun kk hkk => ⟨signs_depth gw.ok (by rw [List.length_map]; exact hd'.1) (fun q hq => ?_) hkk, signs_tup hkk⟩, (by rw [signs_len]; have := gw.n12; omega), fun p H3 s3 hp h3 => ?_⟩
            · obtain ⟨z, _, rfl⟩ := List.mem_map.mp hq
              exact Nat.zero_le _
            have h2d : Fa (wo fs st gw.ok) (nums (signs 2 fs.length st (d.map .num))) (Rs1.length + 1) := (signs_fa gw.ok (Nat.le_refl _) (fa_nums hd') (alk_nums d)).nums
            have c2d : nums (nums (signs 2 fs.length st (d.map .num))) = nums (signs 2 fs.length st (d.map .num)) := nums_nums _
            generalize nums (signs 2 fs.length st (d.map .num)) = d2 at h3 h2d c2d
            have s4 : Same H H3 := (s1'.trans s2).trans s3
            have hB3 := s3 _ _ (s2 _ _ hB1')
            have hx3 := (hx1'.same s2).same s3
            refine ⟨⟨s4, Rs1, d, d2, xs1, td, p, v3, rfl, hB3, s3 _ _ (s2 _ _ hd1'), hx3, h3, hall', cd, hdd', h2d, c2d⟩, ?_⟩
            show leftAt B H3 < leftAt B H1
            rw [left0, leftAt_eq hB3, List.length_append, List.length_singleton, hx1l]
            exact more2
      · intro σ H' Q Q' hq h
        obtain ⟨x1, e1, x2, e2, x3, e3, x4, x5, x6, x7, e4, e5, e6, e7, x8, x9, e8, e9, e10, e11, x10, e12, q⟩ := h
        exact ⟨x1, e1, x2, e2, x3, e3, x4, x5, x6, x7, e4, e5, e6, e7, x8, x9, e8, e9, e10, e11, x10, e12, hq _ _ q⟩
end
end K34
/-! Walks: World.__init__. -/
namespace K34
open PySem PySem.Spec PyProof.Rows L2
open PySem.W (alike alikeAll)
/-- an arrangement of images is the image of an arrangement -/
theorem perm_map_ex {α β : Type} (f : α → β) : ∀ (vs : List β) (L : List α), vs.Perm (L.map f) → ∃ L1 : List α, vs = L1.map f ∧ L1.Perm L
  | [], L, q => by
    have q2 := q.length_eq
    rw [List.length_nil, List.length_map] at q2
    have e : L = [] := List.length_eq_zero_iff.mp q2.symm
    exact ⟨[], rfl, by rw [e]⟩
  | v :: vs, L, q => by
    obtain ⟨p, hp, e⟩ := List.mem_map.mp (q.mem_iff.mp List.mem_cons_self)
    obtain ⟨l1, l2, el⟩ := List.append_of_mem hp
    have q2 : vs.Perm ((l1 ++ l2).map f) := by
      rw [el, List.map_append, List.map_cons, e] at q
      have q3 := q.trans List.perm_middle
      rw [← List.map_append] at q3
      exact q3.cons_inv
    obtain ⟨L1, e1, p1⟩ := perm_map_ex f vs _ q2
    refine ⟨p :: L1, by rw [List.map_cons, e, e1], ?_⟩
    rw [el]
    exact (p1.cons p).trans List.perm_middle.symm
theorem pgTupK {X : Cx} {pos : Pos} (K : PySem.W.Frag) {es : List Expr} {k : Nat} {t : TGs} {n : Nat} (h1 : X.K = K) (hc : X.calm = true) (h : PGs X es t)
    (hn : (assignEach es X.env).length = n := by rfl) (hst : (assignEach es X.env).findIdx? (·.1) = none := by rfl) : PG X (.Tuple es k pos) (gTup K n t) := by
  subst h1
  exact pg_tup hc h hn hst
theorem small3 (x y z : V) : (putF "states" x (putF "facts" y (putF "labels" z []))).length < 1000 := by
  have h : (putF "states" x (putF "facts" y (putF "labels" z []))).length ≤ 3 := by
    have q : ∀ (f : Str) (v : V) (fs : List (Str × V)), (putF f v fs).length ≤ fs.length + 1 := fun f v fs => length_putF f v fs
    have a := q "labels" z []
    have b := q "facts" y (putF "labels" z [])
    have c := q "states" x (putF "facts" y (putF "labels" z []))
    rw [List.length_nil] at a
    omega
  omega
theorem stk_alk (st : List St3) : Alk (st.map stK) := fun a ha b hb => by
  obtain ⟨t, _, rfl⟩ := List.mem_map.mp ha
  obtain ⟨u, _, rfl⟩ := List.mem_map.mp hb
  rfl
section
variable {P : Program} {w : World} {K : PySem.W.Frag} {mg : Str → Option Value} {base : Heap} {CW CL : Addr}
/-- what a World is made of -/
structure WIn (K : PySem.W.Frag) (H : Hp) (L F : Int) (fs : List (List Int)) (st : List St3) (sl tl : Addr) : Prop where
  L1 : 1 ≤ L
  L3 : L ≤ 3
  F0 : 0 ≤ F
  F6 : F ≤ 6
  n1 : 1 ≤ fs.length
  n400 : fs.length ≤ 400
  asc : ∀ r ∈ fs, Asc F r ∧ r.length ≤ 1000
  sl : ∃ vs, H sl = some (.lst vs) ∧ LstVs H fs vs
  tl : ∃ us, H tl = some (.lst us) ∧ KeyVs H (st.map stK) us
  nd : st.Nodup
  len : st.length ≤ 1000
  ok : ∀ t ∈ st, t.1 < fs.length ∧ (t.2.1 : Int) < L ∧ t.2.2 < fs.length
def spWin (K : PySem.W.Frag) (CW : Addr) : Sp := fun vs H Q _ => ∃ (a dx : Addr) (L F : Int) (fs : List (List Int)) (st : List St3) (sl tl : Addr), vs = [.ref a, .int L, .int F, .ref sl, .ref tl] ∧ H a = some (.ins CW dx []) ∧ WIn K H L F fs st sl tl ∧
  ∀ (H' : Hp) (st' : List St3), st'.Perm st → (∀ b o, b ≠ a → H b = some o → H' b = some o) → WAt CW H' a L F fs st' → Q .non H'
abbrev NNwin : List Str := ["self", "labels", "facts", "states", "steps", "valid", "state", "first", "label", "second"]
theorem scWin : FnScope NNwin ["self", "labels", "facts", "states", "steps"] (defScope sWin) := ⟨rfl, rfl, rfl, by decide +kernel, rfl, by decide +kernel, by decide +kernel⟩
theorem ok_win {f fA fR : Addr} {fd fdA fdR : FuncData} {qn : Str} (F : Fun K "__init__" qn sWin f fd) (T : Txt K mg CW CL) (DA : Dn K mg "ascend" sAsc fA fdA ["numbers", "limit"]) (DR : Dn K mg "right_steps" sRst fR fdR ["labels", "count", "steps"]) :
    FnOk P w K mg base CX0 2 f fd ["self", "labels", "facts", "states", "steps"] (spWin K CW) := by
  have GA : FnOk P w K mg base CX0 1 fA fdA ["numbers", "limit"] (spAsc K) := ok_asc DA.F T
  have GR : FnOk P w K mg base CX0 1 fR fdR ["labels", "count", "steps"] (spRst K) := ok_rst DR.F T
  obtain ⟨tc, hcW⟩ := T.cW
  refine F.ok scWin (fun vs H Q E h => ?_) (fun cdv A outer s H vs Q E hr h => ?_)
  · obtain ⟨a, dx, L, F, fs, st, sl, tl, rfl, _⟩ := h
    rfl
  · obtain ⟨a, dx, L, F, fs, st, sl, tl, rfl, ha, hI, k⟩ := h
    have hu := hr.units
    refine ⟨_, (pss_cons (ps_set (i := 5) scWin.nd rfl (Or.inl rfl) (pe_and (pe_chain op_le op_le pe_int (pv 1) pe_int) (pe_and (pe_chain op_le op_le pe_int (pv 2) pe_int) (pe_one (pe_chain op_le op_le pe_int (pe_callB call_len_seq (by rfl) T.n_len (by decide +kernel) (pa_cons (pv 3) pa_nil)) (pe_glob (v := .int 400) (by rfl) hcW ⟨_, rfl⟩))))))
      (pss_cons (ps_for PassesOwn.never rfl (pi_list (pv 3)) (pg_name (i := 6) scWin.nd rfl (Or.inl rfl))
        (pss_one (ps_set (i := 5) scWin.nd rfl (Or.inl rfl) (pe_and (pv 5) (pe_one (pe_call GA (hr.mono (by decide)) rfl DA.g DA.F.kp DA.b .nil pass0 (pa_cons (pv 6) (pa_cons (pv 2) pa_nil))))))))
      (pss_cons (ps_if (PW.pt (pw_or (pt_not (pt_val (pv 5))) (pw_or1 (pt_not (pt_val (pe_call GR (hr.mono (by decide)) rfl DR.g DR.F.kp DR.b .nil pass0 (pa_cons (pv 1) (pa_cons (pe_callB call_len_seq (by rfl) T.n_len (by decide +kernel) (pa_cons (pv 3) pa_nil)) (pa_cons (pv 4) pa_nil))))))))) (pss_one ps_never) pss_nil)
      (pss_cons (ps_fld (pv 0) (pv 1) rfl)
      (pss_cons (ps_fld (pv 0) (pv 2) rfl)
      (pss_cons (ps_fld (pv 0) (pe_callTy call_tuple_of (by rfl) T.n_tuple (by decide +kernel) (pa_cons (pe_lc (own := [("state", 6)]) (g := gName 6) (tt := tYes) rfl scWin.nd (pi_list (pv 3)) (blkOk_by (own := [("state", 6)]) (N := NNwin) (sc := defScope sWin) (by decide +kernel)) (fun _ _ _ _ _ => pg_name (i := 6) scWin.nd rfl (Or.inl rfl)) (fun _ _ _ _ _ => pts_nil) (fun _ _ _ _ _ => (pe_callTy (tupOf K) (by rfl) T.n_tuple (by decide +kernel) (pa_cons (pv 6) pa_nil)))) pa_nil)) rfl)
      (pss_one (ps_fld (pv 0) (pe_callTy call_tuple_of (by rfl) T.n_tuple (by decide +kernel) (pa_cons (pe_callB (cr_sortT rfl hu) (by rfl) T.n_sorted (by decide +kernel) (pa_cons (pe_lc (own := [("first", 7), ("label", 8), ("second", 9)]) (g := gTup K 3 (gCons (gName 7) (gCons (gName 8) (gCons (gName 9) gNil)))) (tt := tYes) rfl scWin.nd (pi_list (pv 4)) (blkOk_by (own := [("first", 7), ("label", 8), ("second", 9)]) (N := NNwin) (sc := defScope sWin) (by decide +kernel)) (fun _ _ _ _ _ => pgTupK K rfl rfl (pgs_cons (pg_name (i := 7) scWin.nd rfl (Or.inl rfl)) (pgs_cons (pg_name (i := 8) scWin.nd rfl (Or.inl rfl)) (pgs_cons (pg_name (i := 9) scWin.nd rfl (Or.inl rfl)) pgs_nil)))) (fun _ _ _ _ _ => pts_nil) (fun _ _ _ _ _ => (pe_tup (pa_cons (pv 7) (pa_cons (pv 8) (pa_cons (pv 9) pa_nil)))))) pa_nil)) pa_nil)) rfl)))))))), ?_⟩
    obtain ⟨vs, hsl, hvs⟩ := hI.sl
    obtain ⟨us, htl, hus⟩ := hI.tl
    have hvl : vs.length = fs.length := hvs.len
    have hul : us.length = st.length := by rw [hus.len, List.length_map]
    have l1 := hI.L1
    have l3 := hI.L3
    have f0 := hI.F0
    have f6 := hI.F6
    have n1 := hI.n1
    have n4 := hI.n400
    -- valid
    refine ⟨_, rfl, _, _, rfl, rfl, _, rfl, ?_⟩
    rw [decide_eq_true l1]
    refine iteT ⟨_, _, rfl, rfl, _, rfl, ?_⟩
    rw [decide_eq_true l3]
    refine iteT ⟨_, rfl, _, _, rfl, rfl, _, rfl, ?_⟩
    rw [decide_eq_true f0]
    refine iteT ⟨_, _, rfl, rfl, _, rfl, ?_⟩
    rw [decide_eq_true f6]
    refine iteT ⟨_, rfl, sl, _, rfl, .inl (SqL.of hsl), _, _, rfl, rfl, _, rfl, ?_⟩
    rw [decide_eq_true (show (1 : Int) ≤ (vs.length : Int) by omega)]
    refine iteT ⟨_, _, rfl, rfl, ?_⟩
    have e4 : decide ((vs.length : Int) ≤ 400) = true := decide_eq_true (by omega)
    -- the states ascend
    refine ⟨_, rfl, sl, rfl, ⟨_, SqL.of hsl⟩, for_list (K := K) (xs := vs) (fun i σ H' => H' = H ∧ ∃ v6, σ = [some (.ref a), some (.int L), some (.int F), some (.ref sl), some (.ref tl), some (.bl true), v6, none, none, none])
      ⟨rfl, none, by
        show [some (V.ref a), some (.int L), some (.int F), some (.ref sl), some (.ref tl), some (.bl (decide ((vs.length : Int) ≤ 400))), none, none, none, none] = _
        rw [e4]⟩ (fun i σ H' _ ⟨e, _⟩ => by rw [e]; exact SqL.of hsl) ?_ ?_⟩
    · rintro i x σ H' hx ⟨rfl, v6, rfl⟩
      have hi : i < fs.length := by
        rw [← hvl]
        exact (List.getElem?_eq_some_iff.mp hx).1
      obtain ⟨r, hr2⟩ : ∃ r, fs[i]? = some r := ⟨fs[i], List.getElem?_eq_getElem hi⟩
      obtain ⟨b, hb, hb2⟩ := hvs.get hr2
      rw [hx] at hb
      have eb := Option.some.inj hb
      subst eb
      obtain ⟨as1, as2⟩ := hI.asc r (List.mem_of_getElem? hr2)
      exact ⟨_, rfl, _, rfl, iteT ⟨_, rfl, _, rfl, b, r, F, rfl, SqL.of hb2, as2, as1, rfl, _, rfl⟩⟩
    rintro σ H' ⟨rfl, v6, rfl⟩
    refine ⟨_, rfl, _, rfl, iteF ⟨_, rfl, _, rfl, sl, _, rfl, .inl (SqL.of hsl), _, rfl, L, fs.length, tl, us, st, (by rw [hvl]; rfl), SqL.of htl, hus, hI.nd, hI.len, hI.ok, fun H1 s1 => ?_⟩⟩
    refine ⟨_, rfl, iteF ?_⟩
    -- labels, facts
    refine ⟨_, rfl, _, rfl, a, CW, dx, [], rfl, s1 _ _ ha, T.clW, T.wl, (by decide), ?_⟩
    refine ⟨_, rfl, _, rfl, a, CW, dx, putF "labels" (.int L) [], rfl, upd_same, T.clW, T.wf, (by have := length_putF "labels" (.int L) []; rw [List.length_nil] at this; omega), ?_⟩
    rw [upd_upd]
    -- states
    generalize ew2 : putF "facts" (V.int F) (putF "labels" (V.int L) []) = w2
    have few2 : w2.length < 1000 := by
      rw [← ew2]
      have q1 := length_putF "labels" (.int L) []
      have q2 := length_putF "facts" (.int F) (putF "labels" (.int L) [])
      rw [List.length_nil] at q1
      omega
    have nas : sl ≠ a := fun e => by
      rw [e, ha] at hsl
      cases hsl
    have nat : tl ≠ a := fun e => by
      rw [e, ha] at htl
      cases htl
    have ha2 : (upd H1 a (.ins CW dx w2)) a = some (.ins CW dx w2) := upd_same
    have hsl2 : (upd H1 a (.ins CW dx w2)) sl = some (.lst vs) := by
      rw [upd_ne nas]
      exact s1 _ _ hsl
    have htl2 : (upd H1 a (.ins CW dx w2)) tl = some (.lst us) := by
      rw [upd_ne nat]
      exact s1 _ _ htl
    have notup : ∀ xs, H1 a ≠ some (.tup xs) := fun xs e => by
      rw [s1 _ _ ha] at e
      cases e
    have hus2 : KeyVs (upd H1 a (.ins CW dx w2)) (st.map stK) us := keyVs_upd notup (hus.same s1)
    have sm2 : ∀ b o, b ≠ a → H' b = some o → (upd H1 a (.ins CW dx w2)) b = some o := fun b o nb e => by
      rw [upd_ne nb]
      exact s1 _ _ e
    have hvs2 : ∀ {i : Nat} {r : List Int}, fs[i]? = some r → ∃ b, vs[i]? = some (.ref b) ∧ (upd H1 a (.ins CW dx w2)) b = some (.lst (r.map V.int)) := fun {i r} e => by
      obtain ⟨b, hb1, hb2⟩ := hvs.get e
      refine ⟨b, hb1, sm2 _ _ (fun z => ?_) hb2⟩
      rw [z, ha] at hb2
      cases hb2
    generalize upd H1 a (.ins CW dx w2) = H2 at ha2 hsl2 htl2 hus2 sm2 hvs2
    refine ⟨_, rfl, sl, rfl, ⟨_, SqL.of hsl2⟩, fun D hD => lc_list (xs := vs) (fun i H3 => Same H2 H3 ∧ ∃ ys, H3 D = some (.lst ys) ∧ KeyVs H3 ((fs.take i).map tupk) ys) ⟨same_upd hD, [], upd_same, .nil⟩ (fun i H3 _ ⟨s2, _⟩ => SqL.of (s2 _ _ hsl2)) ?_ ?_⟩
    · rintro i x H3 hx ⟨s2, ys, hD2, hys⟩
      have hi : i < fs.length := by
        rw [← hvl]
        exact (List.getElem?_eq_some_iff.mp hx).1
      obtain ⟨r, hr2⟩ : ∃ r, fs[i]? = some r := ⟨fs[i], List.getElem?_eq_getElem hi⟩
      obtain ⟨b, hb, hb2⟩ := hvs2 hr2
      rw [hx] at hb
      have eb := Option.some.inj hb
      subst eb
      refine ⟨rfl, tyes ⟨_, rfl, b, _, rfl, .inl ⟨SqL.of (s2 _ _ hb2), fun l hl => ?_⟩⟩⟩
      have nDl : D ≠ l := ne_of_none hD2 hl
      have hD3 : (upd H3 l (.tup (r.map V.int))) D = some (.lst ys) := by
        rw [upd_ne nDl]
        exact hD2
      have hyl : ys.length = i := by
        rw [hys.len, List.length_map, List.length_take]
        omega
      refine ⟨ys, hD3, small1000 (by omega), fun b o e => ?_, _, upd_same, ?_⟩
      · rw [upd_ne (ne_of_none e hD)]
        exact same_upd hl _ _ (s2 _ _ e)
      · rw [take_one hr2, List.map_append]
        exact KeyVs.snoc (keyV_upd (lst_notup hD3) (KeyV.of_ints upd_same)) (keyVs_upd (lst_notup hD3) (hys.same (same_upd hl)))
    rintro H3 ⟨s2, ys, hD2, hys⟩
    rw [hvl, List.take_length] at hys
    refine ⟨D, ys, rfl, .inl ⟨SqL.of hD2, fun l hl => ?_⟩⟩
    have s3 : Same H2 (upd H3 l (.tup ys)) := s2.trans (same_upd hl)
    have hl3 : (upd H3 l (.tup ys)) l = some (.tup ys) := upd_same
    have hys3 : KeyVs (upd H3 l (.tup ys)) (fs.map tupk) ys := hys.same (same_upd hl)
    have hnl : H2 l = none := s2.free hl
    generalize upd H3 l (.tup ys) = H4 at s3 hl3 hys3
    refine ⟨_, rfl, a, CW, dx, w2, rfl, s3 _ _ ha2, T.clW, T.ws, few2, ?_⟩
    -- steps
    have nal : l ≠ a := ne_of_none ha2 hnl |>.symm
    have notup4 : ∀ xs, H4 a ≠ some (.tup xs) := fun xs e => by
      rw [s3 _ _ ha2] at e
      cases e
    generalize ew3 : putF "states" (V.ref l) w2 = w3
    have few3 : w3.length < 1000 := by
      rw [← ew3, ← ew2]
      exact small3 _ _ _
    have ha5 : (upd H4 a (.ins CW dx w3)) a = some (.ins CW dx w3) := upd_same
    have hl5 : (upd H4 a (.ins CW dx w3)) l = some (.tup ys) := by
      rw [upd_ne nal]
      exact hl3
    have hys5 : KeyVs (upd H4 a (.ins CW dx w3)) (fs.map tupk) ys := keyVs_upd notup4 hys3
    have htl5 : (upd H4 a (.ins CW dx w3)) tl = some (.lst us) := by
      rw [upd_ne nat]
      exact s3 _ _ htl2
    have hus5 : KeyVs (upd H4 a (.ins CW dx w3)) (st.map stK) us := keyVs_upd notup4 (hus2.same s3)
    have sm5 : ∀ b o, b ≠ a → H' b = some o → (upd H4 a (.ins CW dx w3)) b = some o := fun b o nb e => by
      rw [upd_ne nb]
      exact s3 _ _ (sm2 _ _ nb e)
    generalize upd H4 a (.ins CW dx w3) = H5 at ha5 hl5 hys5 htl5 hus5 sm5
    refine ⟨_, rfl, tl, rfl, ⟨_, SqL.of htl5⟩, fun D2 hD2 => lc_list (xs := us) (fun i H6 => Same H5 H6 ∧ ∃ zs, H6 D2 = some (.lst zs) ∧ KeyVs H6 ((st.take i).map stK) zs) ⟨same_upd hD2, [], upd_same, .nil⟩ (fun i H6 _ ⟨s6, _⟩ => SqL.of (s6 _ _ htl5)) ?_ ?_⟩
    · rintro i x H6 hx ⟨s6, zs, hz, hzs⟩
      have hi : i < st.length := by
        rw [← hul]
        exact (List.getElem?_eq_some_iff.mp hx).1
      obtain ⟨t, ht⟩ : ∃ t, st[i]? = some t := ⟨st[i], List.getElem?_eq_getElem hi⟩
      obtain ⟨x', hx', kx⟩ := hus5.get (k := stK t) (i := i) (by rw [List.getElem?_map, ht]; rfl)
      rw [hx] at hx'
      have ex := Option.some.inj hx'
      subst ex
      obtain ⟨b, rfl, hb⟩ := stK_at (kx.same s6)
      refine ⟨b, _, rfl, SqT.of hb, rfl, _, _, rfl, _, _, rfl, _, _, rfl, rfl, rfl, tyes ⟨_, rfl, _, rfl, _, rfl, (by show 3 ≤ sizeLine; decide), fun p hp => ?_⟩⟩
      have nDp : D2 ≠ p := ne_of_none hz hp
      have hD3 : (upd H6 p (.tup [.int (t.1 : Int), .int (t.2.1 : Int), .int (t.2.2 : Int)])) D2 = some (.lst zs) := by
        rw [upd_ne nDp]
        exact hz
      have hzl : zs.length = i := by
        rw [hzs.len, List.length_map, List.length_take]
        omega
      refine ⟨zs, hD3, small1000 (by have := hI.len; omega), fun b' o e => ?_, _, upd_same, ?_⟩
      · rw [upd_ne (ne_of_none e hD2)]
        exact same_upd hp _ _ (s6 _ _ e)
      · rw [take_one ht, List.map_append]
        exact KeyVs.snoc (keyV_upd (lst_notup hD3) (KeyV.of_ints (ns := stI t) upd_same)) (keyVs_upd (lst_notup hD3) (hzs.same (same_upd hp)))
    rintro H6 ⟨s6, zs, hz, hzs⟩
    rw [hul, List.take_length] at hzs
    obtain ⟨Lk, e1, e2, e3⟩ := keys_at hzs fun kk hk => by
      obtain ⟨t, _, rfl⟩ := List.mem_map.mp hk
      exact ⟨_, rfl⟩
    subst e2
    refine ⟨D2, Lk, rfl, SqL.of hz, fun p hp => ⟨e3 p hp, ?_⟩, (by rw [e1]; exact stk_alk st), fun L' q pm hq => ?_⟩
    · have q := List.mem_map_of_mem (f := fun p : NestedKey × Addr => p.1) hp
      rw [e1] at q
      obtain ⟨t, _, et⟩ := List.mem_map.mp q
      rw [← et]
      exact ⟨by show (tupk (stI t)).depth ≤ 8; rw [depth_tupk]; decide, _, rfl⟩
    have pk : (L'.map fun p => p.1).Perm (st.map stK) := by
      rw [← e1]
      exact pm.map _
    obtain ⟨st', est, pst⟩ := perm_map_ex stK _ _ pk
    have sq := same_upd (o := HO.lst (L'.map fun p => V.ref p.2)) hq
    refine ⟨q, _, rfl, .inl ⟨SqL.of upd_same, fun l2 hl2 => ?_⟩⟩
    have s7 : Same H5 (upd (upd H6 q (.lst (L'.map fun p => V.ref p.2))) l2 (.tup (L'.map fun p => V.ref p.2))) := (s6.trans sq).trans (same_upd hl2)
    have hk7 : KeyVs (upd (upd H6 q (.lst (L'.map fun p => V.ref p.2))) l2 (.tup (L'.map fun p => V.ref p.2))) (st'.map stK) (L'.map fun p => V.ref p.2) := by
      rw [← est]
      exact keyVs_refs fun p hp => ((e3 p (pm.mem_iff.mp hp)).same sq).same (same_upd hl2)
    have h7 : (upd (upd H6 q (.lst (L'.map fun p => V.ref p.2))) l2 (.tup (L'.map fun p => V.ref p.2))) l2 = some (.tup (L'.map fun p => V.ref p.2)) := upd_same
    have hn5 : H5 l2 = none := (s6.trans sq).free hl2
    generalize upd (upd H6 q (.lst (L'.map fun p => V.ref p.2))) l2 (.tup (L'.map fun p => V.ref p.2)) = H7 at s7 hk7 h7
    generalize (L'.map fun p => V.ref p.2) = xs7 at hk7 h7
    refine ⟨_, rfl, a, CW, dx, w3, rfl, s7 _ _ ha5, T.clW, T.wt, few3, ?_⟩
    have notup7 : ∀ xs, H7 a ≠ some (.tup xs) := fun xs e => by
      rw [s7 _ _ ha5] at e
      cases e
    have na2 : l2 ≠ a := (ne_of_none ha5 hn5).symm
    refine k _ st' pst (fun b o nb e => ?_) ⟨dx, l, l2, ys, xs7, ?_, ?_, keyVs_upd notup7 (hys5.same s7), ?_, keyVs_upd notup7 hk7⟩
    · rw [upd_ne nb]
      exact s7 _ _ (sm5 _ _ nb e)
    · rw [upd_same, ← ew3, ← ew2]
      rfl
    · rw [upd_ne nal]
      exact s7 _ _ hl5
    · rw [upd_ne na2]
      exact h7
end
end K34
/-! What the top has left: every def, method, class, error of the text in one bundle. -/
namespace K34
open PySem PySem.Spec PyProof.Rows L2
/-- a method -/
structure Mn (K : PySem.W.Frag) (C : Addr) (m q : Str) (st : Stmt) (f : Addr) (fd : FuncData) (ps : List Str) : Prop where
  F : Fun K m q st f fd
  M : Meth K C m f
  b : Binds K fd ps []
/-- an __init__ -/
structure Nn (K : PySem.W.Frag) (C : Addr) (q : Str) (st : Stmt) (f : Addr) (fd : FuncData) (ps : List Str) : Prop where
  F : Fun K "__init__" q st f fd
  M : Mk K C f
  b : Binds K fd ps []
/-- the error TooLarge -/
structure Er (K : PySem.W.Frag) (mg : Str → Option Value) (CT : Addr) : Prop where
  g : mg "TooLarge" = some (.ref CT)
  x : PySem.W.excIn K CT [.type "ValueError", .type "Exception", .type "BaseException", .type "object"] "ValueError.__new__" = true
  k : PySem.W.keepIn K (.ref CT) = true
  b : PySem.W.subIn K (.ref CT) (.type "BaseException") = some true
  t : PySem.W.typeIn K (.ref CT) = some (.type "type")
  e : PySem.W.exmOne K (.ref CT) (.ref CT) = some true
/-- an error of the class at S is what «except S» names -/
theorem exm_self {K : PySem.W.Frag} {S : Addr} (h1 : PySem.W.subIn K (.ref S) (.type "BaseException") = some true) (h2 : PySem.W.isClsIn K S = true) (h3 : PySem.W.typeIn K (.ref S) = some (.type "type")) (h4 : PySem.W.subIn K (.ref S) (.ref S) = some true) :
    PySem.W.exmOne K (.ref S) (.ref S) = some true := by
  have e1 : (PySem.W.subIn K (.ref S) (.type "BaseException") == some true) = true := by rw [h1] <;> rfl
  have e2 : ((PySem.W.clsIn K S).isSome && PySem.W.typeIn K (.ref S) == some (.type "type")) = true := by
    have h2' : (PySem.W.clsIn K S).isSome = true := h2
    rw [h2', h3] <;> rfl
  show (if (PySem.W.subIn K (.ref S) (.type "BaseException") == some true) = true then (if ((PySem.W.clsIn K S).isSome && PySem.W.typeIn K (.ref S) == some (.type "type")) = true then PySem.W.subIn K (.ref S) (.ref S) else none) else none) = some true
  rw [if_pos e1, if_pos e2]
  exact h4
/-- the whole text -/
structure Ds (K : PySem.W.Frag) (mg : Str → Option Value) where
  CW : Addr
  CL : Addr
  CT : Addr
  T : Txt K mg CW CL
  er : Er K mg CT
  f1 : Addr
  d1 : FuncData
  asc : Dn K mg "ascend" sAsc f1 d1 ["numbers", "limit"]
  f2 : Addr
  d2 : FuncData
  rst : Dn K mg "right_steps" sRst f2 d2 ["labels", "count", "steps"]
  f3 : Addr
  d3 : FuncData
  win : Nn K CW "World.__init__" sWin f3 d3 ["self", "labels", "facts", "states", "steps"]
  f4 : Addr
  d4 : FuncData
  fol : Dn K mg "followers" sFol f4 d4 ["world", "state", "label"]
  f5 : Addr
  d5 : FuncData
  num : Dn K mg "numbered" sNum f5 d5 ["signs"]
  f6 : Addr
  d6 : FuncData
  sgn : Dn K mg "sign_of" sSgn f6 d6 ["world", "state", "classes_now"]
  f7 : Addr
  d7 : FuncData
  rou : Dn K mg "rounds" sRou f7 d7 ["world"]
  f8 : Addr
  d8 : FuncData
  lin : Nn K CL "LikenessGame.__init__" sLin f8 d8 ["self", "world"]
  f9 : Addr
  d9 : FuncData
  par : Mn K CL "_parting_round" "LikenessGame._parting_round" sPar f9 d9 ["self", "first", "second"]
  f10 : Addr
  d10 : FuncData
  wnr : Mn K CL "winner" "LikenessGame.winner" sWnr f10 d10 ["self", "first", "second"]
  f11 : Addr
  d11 : FuncData
  att : Mn K CL "attack" "LikenessGame.attack" sAtt f11 d11 ["self", "first", "second"]
  f12 : Addr
  d12 : FuncData
  ans : Mn K CL "answer" "LikenessGame.answer" sAns f12 d12 ["self", "first", "second", "side", "label", "end"]
  f13 : Addr
  d13 : FuncData
  dra : Dn K mg "_law_draws" sDra f13 d13 ["_law_script", "_law_count"]
  f14 : Addr
  d14 : FuncData
  tak : Dn K mg "_law_take" sTak f14 d14 ["_law_draws_here", "_law_limit"]
  f15 : Addr
  d15 : FuncData
  isi : Dn K mg "_law_is_integer" sIsi f15 d15 ["_law_actual"]
  f16 : Addr
  d16 : FuncData
  wor : Dn K mg "_law_world" sWor f16 d16 ["_law_draws_here", "_law_most", "_law_facts"]
  f17 : Addr
  d17 : FuncData
  mad : Dn K mg "_law_made" sMad f17 d17 ["_law_world_here", "_law_labels", "_law_facts"]
  f18 : Addr
  d18 : FuncData
  beh : Dn K mg "_law_behind" sBeh f18 d18 ["_law_world_here", "_law_state", "_law_label"]
  f19 : Addr
  d19 : FuncData
  cla : Dn K mg "_law_classes" sCla f19 d19 ["_law_world_here"]
  f20 : Addr
  d20 : FuncData
  out : Dn K mg "_law_outcome" sOut f20 d20 ["_law_world_here"]
  f21 : Addr
  d21 : FuncData
  atk : Dn K mg "_law_attacked" sAtk f21 d21 ["_law_draws_here", "_law_world_here", "_law_game", "_law_first", "_law_second"]
  f22 : Addr
  d22 : FuncData
  awd : Dn K mg "_law_answered" sAwd f22 d22 ["_law_draws_here", "_law_world_here", "_law_game", "_law_first", "_law_second", "_law_classes_here"]
def spLaw (K : PySem.W.Frag) : Sp := fun vs H Q _ => ∃ (a : Addr) (ns : List Int), vs = [.ref a] ∧ SqL K H a (ns.map V.int) ∧ ns.length ≤ 63 ∧ ∀ H', Q (.bl true) H'
end K34
/-! Walks: LikenessGame.__init__ (both ways), _parting_round, winner. -/
namespace K34
open PySem PySem.Spec PyProof.Rows L2
/-- the world isn't the game -/
theorem WAt.but {CW C : Addr} {H : Hp} {w g dx : Addr} {o : HO} {fl : List (Str × V)} {L F : Int} {fs : List (List Int)} {st : List St3} (h : WAt CW H w L F fs st) (hg : H g = some (.ins C dx fl)) (hl : fl.lookup ("steps" : Str) = none) : WAt CW (upd H g o) w L F fs st := by
  obtain ⟨dx', sT, tT, vs, us, h1, h2, h3, h4, h5⟩ := h.ex
  have nt : ∀ xs, H g ≠ some (.tup xs) := fun xs e => by
    rw [hg] at e
    cases e
  have n1 : w ≠ g := fun e => by
    rw [e, hg] at h1
    injection h1 with h1
    injection h1 with _ _ h1
    have q := wfl_steps L F sT tT
    rw [← h1, hl] at q
    cases q
  have n2 : sT ≠ g := fun e => nt _ (e ▸ h2)
  have n4 : tT ≠ g := fun e => nt _ (e ▸ h4)
  exact ⟨dx', sT, tT, vs, us, by rw [upd_ne n1]; exact h1, by rw [upd_ne n2]; exact h2, keyVs_upd nt h3, by rw [upd_ne n4]; exact h4, keyVs_upd nt h5⟩
theorem no_steps (v : V) : (putF "_world" v []).lookup ("steps" : Str) = none := by
  rw [lookup_putF, if_neg (by decide +kernel)]
  rfl
/-- a game, intact -/
structure GM (CW CL : Addr) (H : Hp) (g : Addr) (F : Int) (fs : List (List Int)) (st : List St3) (Rs : List (List Int)) : Prop where
  at_ : GAt CW CL H g F fs st Rs
  gw : GW fs st
  rs : Rounds (wo fs st gw.ok) Rs
theorem GM.same {CW CL : Addr} {H H' : Hp} (s : Same H H') {g : Addr} {F : Int} {fs : List (List Int)} {st : List St3} {Rs : List (List Int)} (h : GM CW CL H g F fs st Rs) : GM CW CL H' g F fs st Rs := ⟨h.at_.same s, h.gw, h.rs⟩
theorem Rounds.get {W : Wo} {Rs : List (List Int)} (h : Rounds W Rs) {k : Nat} (hk : k < Rs.length) : ∃ c, Rs[k]? = some c ∧ Fa W c k := ⟨Rs[k], List.getElem?_eq_getElem hk, h.fa k _ (List.getElem?_eq_getElem hk)⟩
theorem Fa.cell {W : Wo} {c : List Int} {k s : Nat} (h : Fa W c k) (hs : s < W.n) : c[s]? = some (c.getD s 0) := by
  have q : s < c.length := by rw [h.1]; exact hs
  rw [List.getD_eq_getElem?_getD, List.getElem?_eq_getElem q]
  rfl
theorem Fa.cell_iff {W : Wo} {c : List Int} {k s t : Nat} (h : Fa W c k) (hs : s < W.n) (ht : t < W.n) : c.getD s 0 = c.getD t 0 ↔ E W k s t := by
  rw [← h.2 s t hs ht, h.cell hs, h.cell ht]
  exact ⟨fun e => congrArg some e, fun e => Option.some.inj e⟩
theorem decI (a b : Int) : decide (V.int a = V.int b) = decide (a = b) := by
  by_cases h : a = b
  · rw [h]
    simp
  · rw [decide_eq_false h]
    refine decide_eq_false fun e => h ?_
    injection e with e
/-- where two states part -/
def PR (W : Wo) (Rs : List (List Int)) (f s : Nat) (r : Int) : Prop := (r = -1 ∧ ∀ k, k < Rs.length → E W k f s) ∨ ∃ k : Nat, r = k ∧ k < Rs.length ∧ ¬ E W k f s ∧ ∀ j, j < k → E W j f s
section
variable {P : Program} {w : World} {K : PySem.W.Frag} {mg : Str → Option Value} {base : Heap} {CW CL CT : Addr}
/-! ### LikenessGame.__init__ -/
def spLinG (CW CL : Addr) : Sp := fun vs H Q _ => ∃ (g dx wa : Addr) (F : Int) (fs : List (List Int)) (st : List St3), vs = [.ref g, .ref wa] ∧ H g = some (.ins CL dx []) ∧ WAt CW H wa 2 F fs st ∧ GW fs st ∧
  ∀ (H' : Hp) (Rs : List (List Int)), (∀ b o, b ≠ g → H b = some o → H' b = some o) → GM CW CL H' g F fs st Rs → Q .non H'
def spLinN (CW CT : Addr) : Sp := fun vs H Q E => ∃ (g wa : Addr) (L F : Int) (fs : List (List Int)) (st : List St3), vs = [.ref g, .ref wa] ∧ WAt CW H wa L F fs st ∧ 12 < fs.length ∧ E (.ref CT) none H
abbrev NNlin : List Str := ["self", "world"]
theorem scLin : FnScope NNlin ["self", "world"] (defScope sLin) := ⟨rfl, rfl, rfl, by decide +kernel, rfl, by decide +kernel, by decide +kernel⟩
theorem ok_linG {f : Addr} {fd : FuncData} {q : Str} (F : Fun K "__init__" q sLin f fd) (D : Ds K mg) : FnOk P w K mg base CX0 4 f fd ["self", "world"] (spLinG D.CW D.CL) := by
  have GR : FnOk P w K mg base CX0 3 D.f7 D.d7 ["world"] (spRou D.CW) := ok_rou D.rou.F D.T D.fol D.num D.sgn
  have T := D.T
  obtain ⟨tc, hcL⟩ := D.T.cL
  refine F.ok scLin (fun vs H Q E h => ?_) (fun cdv A outer s H vs Q E hr h => ?_)
  · obtain ⟨g, dx, wa, F, fs, st, rfl, _⟩ := h
    rfl
  · obtain ⟨g, dx, wa, Fa0, fs, st, rfl, hg, hW, gw, k⟩ := h
    refine ⟨_, (pss_cons (ps_if (pt_cmpR op_gt (pe_callB call_len_seq (by rfl) T.n_len (by decide +kernel) (pa_cons (pe_fld (pv 1) rfl) pa_nil)) (pe_glob (v := .int 12) (by rfl) hcL ⟨_, rfl⟩) (nomark _)) (pss_one ps_never) pss_nil)
      (pss_cons (ps_fld (pv 0) (pv 1) rfl)
      (pss_one (ps_fld (pv 0) (pe_call GR (hr.mono (by decide)) rfl D.rou.g D.rou.F.kp D.rou.b .nil pass0 (pa_cons (pv 1) pa_nil)) rfl)))), ?_⟩
    obtain ⟨dx', sT, tT, vs, us, h1, h2, h3, h4, h5⟩ := hW.ex
    have hvl : vs.length = fs.length := by rw [h3.len, List.length_map]
    have n12 := gw.n12
    refine ⟨_, rfl, wa, D.CW, dx', _, _, rfl, h1, T.clW, T.ws, wfl_states _ _ _ _, sT, _, rfl, .inr (SqT.of h2), _, _, rfl, rfl, _, rfl, ?_⟩
    have e1 : decide ((12 : Int) < (vs.length : Int)) = false := decide_eq_false (by omega)
    rw [e1]
    refine iteF ⟨_, rfl, _, rfl, g, D.CL, dx, [], rfl, hg, T.clL, T.lw, (by decide), ?_⟩
    have hW1 : WAt D.CW (upd H g (.ins D.CL dx (putF "_world" (.ref wa) []))) wa 2 Fa0 fs st := hW.but hg rfl
    have hg1 : (upd H g (.ins D.CL dx (putF "_world" (.ref wa) []))) g = some (.ins D.CL dx (putF "_world" (.ref wa) [])) := upd_same
    have sm1 : ∀ b o, b ≠ g → H b = some o → (upd H g (.ins D.CL dx (putF "_world" (.ref wa) []))) b = some o := fun b o nb e => by
      rw [upd_ne nb]
      exact e
    generalize upd H g (.ins D.CL dx (putF "_world" (.ref wa) [])) = H1 at hW1 hg1 sm1
    refine ⟨_, rfl, wa, Fa0, fs, st, gw, rfl, hW1, fun p H2 Rs xs s2 hp hx hR => ?_⟩
    refine ⟨_, rfl, g, D.CL, dx, _, rfl, s2 _ _ hg1, T.clL, T.lr, (by have q := length_putF "_world" (.ref wa) []; rw [List.length_nil] at q; omega), ?_⟩
    have hg2 := s2 _ _ hg1
    have nt : ∀ xs, H2 g ≠ some (.tup xs) := fun xs e => by
      rw [hg2] at e
      cases e
    have npg : p ≠ g := fun e => by
      rw [e, hg2] at hp
      cases hp
    refine k _ Rs (fun b o nb e => ?_) ⟨⟨dx, wa, p, xs, upd_same, (hW1.same s2).but hg2 (no_steps _), ?_, keyVs_upd nt hx⟩, gw, hR⟩
    · rw [upd_ne nb]
      exact s2 _ _ (sm1 _ _ nb e)
    · rw [upd_ne npg]
      exact hp
theorem ok_linN {f : Addr} {fd : FuncData} {q : Str} (F : Fun K "__init__" q sLin f fd) (D : Ds K mg) : FnOk P w K mg base (L2.CX P w) 4 f fd ["self", "world"] (spLinN D.CW D.CT) := by
  have T := D.T
  obtain ⟨tc, hcL⟩ := D.T.cL
  refine F.okX scLin (fun vs H Q E h => ?_) (fun cdv A outer s H vs Q E hr h => ?_)
  · obtain ⟨g, wa, L, F, fs, st, rfl, _⟩ := h
    rfl
  · obtain ⟨g, wa, L, Fa0, fs, st, rfl, hW, n12, k⟩ := h
    refine ⟨_, (pss_cons (ps_if (pt_cmpR op_gt (pe_callB call_len_seq (by rfl) T.n_len (by decide +kernel) (pa_cons (pe_fld (pv 1) rfl) pa_nil)) (pe_glob (v := .int 12) (by rfl) hcL ⟨_, rfl⟩) (nomark _)) (pss_one (ps_raise rfl (takes_of rfl rfl rfl rfl) (pmk_own PySem.F.excBase_ValueError D.er.x D.er.g D.er.k (raises_own D.er.b D.er.t) rfl))) pss_nil)
      (pss_cons ps_never (pss_one ps_never))), ?_⟩
    obtain ⟨dx', sT, tT, vs, us, h1, h2, h3, h4, h5⟩ := hW.ex
    have hvl : vs.length = fs.length := by rw [h3.len, List.length_map]
    refine ⟨_, rfl, wa, D.CW, dx', _, _, rfl, h1, T.clW, T.ws, wfl_states _ _ _ _, sT, _, rfl, .inr (SqT.of h2), _, _, rfl, rfl, _, rfl, ?_⟩
    have e1 : decide ((12 : Int) < (vs.length : Int)) = true := decide_eq_true (by omega)
    rw [e1]
    exact iteT k
/-! ### _parting_round -/
def spPar (CW CL : Addr) : Sp := fun vs H Q _ => ∃ (g : Addr) (f s : Nat) (F : Int) (fs : List (List Int)) (st : List St3) (Rs : List (List Int)) (h : GM CW CL H g F fs st Rs), vs = [.ref g, .int f, .int s] ∧ f < fs.length ∧ s < fs.length ∧
  ∀ r : Int, PR (wo fs st h.gw.ok) Rs f s r → Q (.int r) H
abbrev NNpar : List Str := ["self", "first", "second", "number"]
theorem scPar : FnScope NNpar ["self", "first", "second"] (defScope sPar) := ⟨rfl, rfl, rfl, by decide +kernel, rfl, by decide +kernel, by decide +kernel⟩
theorem ok_par {f : Addr} {fd : FuncData} {m q : Str} (F : Fun K m q sPar f fd) (D : Ds K mg) : FnOk P w K mg base CX0 1 f fd ["self", "first", "second"] (spPar D.CW D.CL) := by
  have T := D.T
  refine F.ok scPar (fun vs H Q E h => ?_) (fun cdv A outer sh H vs Q Ex hr h => ?_)
  · obtain ⟨g, f, s, F, fs, st, Rs, hG, rfl, _⟩ := h
    rfl
  · obtain ⟨g, f, s, Fa0, fs, st, Rs, hG, rfl, hf, hs, k⟩ := h
    refine ⟨_, (pss_cons (ps_for PassesOwn.never rfl (pi_range1 rfl T.n_range (pa_cons (pe_callB call_len_seq (by rfl) T.n_len (by decide +kernel) (pa_cons (pe_fld (pv 0) rfl) pa_nil)) pa_nil)) (pg_name (i := 3) scPar.nd rfl (Or.inl rfl))
        (pss_one (ps_if (pt_cmpR op_ne (pe_ix ix_tup (pe_ix ix_list (pe_fld (pv 0) rfl) (pv 3) (fun _ _ => rfl)) (pv 1) (fun _ _ => rfl)) (pe_ix ix_tup (pe_ix ix_list (pe_fld (pv 0) rfl) (pv 3) (fun _ _ => rfl)) (pv 2) (fun _ _ => rfl)) (nomark _)) (pss_one (ps_ret (pv 3))) pss_nil)))
      (pss_one (ps_ret (pe_un un_neg pe_int)))), ?_⟩
    obtain ⟨dx, wa, r, xs, h1, h2, h3, h4⟩ := hG.at_.ex
    have hxl : xs.length = Rs.length := by rw [h4.len, List.length_map]
    have hRl : Rs.length ≤ fs.length := hG.rs.le
    have n12 := hG.gw.n12
    refine ⟨_, rfl, g, D.CL, dx, _, _, rfl, h1, T.clL, T.lr, gfl_rounds _ _, r, _, rfl, .inl (SqL.of h3), _, rfl, by omega, by omega,
      for_range (lo := 0) (n := xs.length) (fun i σ H' => H' = H ∧ (∀ j, j < i → E (wo fs st hG.gw.ok) j f s) ∧ ∃ v, σ = [some (.ref g), some (.int f), some (.int s), v])
        ⟨rfl, fun j hj => absurd hj (Nat.not_lt_zero _), none, rfl⟩ ?_ ?_⟩
    · rintro i σ H' hi ⟨rfl, hE, v, rfl⟩
      have e0 : (0 : Int) + (i : Int) = (i : Int) := Int.zero_add _
      rw [e0]
      rw [hxl] at hi
      obtain ⟨c, hc, hF⟩ := hG.rs.get hi
      obtain ⟨x, hx, kx⟩ := h4.get (k := tupk c) (i := i) (by rw [List.getElem?_map, hc]; rfl)
      obtain ⟨t, rfl, ht⟩ := KeyV.ints kx
      have af : atI (c.map V.int) (f : Int) = some (.int (c.getD f 0)) := at_of (j := f) rfl (map_get (hF.cell hf))
      have as : atI (c.map V.int) (s : Int) = some (.int (c.getD s 0)) := at_of (j := s) rfl (map_get (hF.cell hs))
      have ar : atI xs (i : Int) = some (.ref t) := at_of (j := i) rfl hx
      refine ⟨_, rfl, g, D.CL, dx, _, _, rfl, h1, T.clL, T.lr, gfl_rounds _ _, _, rfl, r, _, _, _, rfl, rfl, SqL.of h3, ar, _, rfl, t, _, _, _, rfl, rfl, SqT.of ht, af, ?_⟩
      refine ⟨_, rfl, g, D.CL, dx, _, _, rfl, h1, T.clL, T.lr, gfl_rounds _ _, _, rfl, r, _, _, _, rfl, rfl, SqL.of h3, ar, _, rfl, t, _, _, _, rfl, rfl, SqT.of ht, as, rfl, _, rfl, ?_⟩
      rw [decI]
      by_cases hq : E (wo fs st hG.gw.ok) i f s
      · have e1 : c.getD f 0 = c.getD s 0 := (hF.cell_iff hf hs).mpr hq
        rw [e1, decide_eq_true rfl]
        refine iteF ⟨rfl, fun j hj => ?_, _, rfl⟩
        rcases Nat.lt_or_ge j i with z | z
        · exact hE j z
        · rw [show j = i by omega]
          exact hq
      · have e1 : c.getD f 0 ≠ c.getD s 0 := fun e => hq ((hF.cell_iff hf hs).mp e)
        rw [decide_eq_false e1]
        exact iteT ⟨_, rfl, k _ (.inr ⟨i, rfl, hi, hq, hE⟩)⟩
    · rintro σ H' ⟨rfl, hE, v, rfl⟩
      exact ⟨_, rfl, k _ (.inl ⟨rfl, fun j hj => hE j (by omega)⟩)⟩
/-! ### winner -/
def spWnr (CW CL : Addr) : Sp := fun vs H Q _ => ∃ (g : Addr) (f s : Nat) (F : Int) (fs : List (List Int)) (st : List St3) (Rs : List (List Int)) (h : GM CW CL H g F fs st Rs), vs = [.ref g, .int f, .int s] ∧ f < fs.length ∧ s < fs.length ∧
  (E (wo fs st h.gw.ok) (Rs.length - 1) f s → Q (.int 0) H) ∧ (¬ E (wo fs st h.gw.ok) (Rs.length - 1) f s → Q (.int 1) H)
abbrev NNwnr : List Str := ["self", "first", "second"]
theorem scWnr : FnScope NNwnr ["self", "first", "second"] (defScope sWnr) := ⟨rfl, rfl, rfl, by decide +kernel, rfl, by decide +kernel, by decide +kernel⟩
theorem ok_wnr {f : Addr} {fd : FuncData} {m q : Str} (F : Fun K m q sWnr f fd) (D : Ds K mg) : FnOk P w K mg base CX0 2 f fd ["self", "first", "second"] (spWnr D.CW D.CL) := by
  have T := D.T
  have GP : FnOk P w K mg base CX0 1 D.f9 D.d9 ["self", "first", "second"] (spPar D.CW D.CL) := ok_par D.par.F D
  refine F.ok scWnr (fun vs H Q E h => ?_) (fun cdv A outer sh H vs Q Ex hr h => ?_)
  · obtain ⟨g, f, s, F, fs, st, Rs, hG, rfl, _⟩ := h
    rfl
  · obtain ⟨g, f, s, Fa0, fs, st, Rs, hG, rfl, hf, hs, k0, k1⟩ := h
    refine ⟨_, (pss_one (ps_ret (pe_callTy call_int1 (by rfl) T.n_int (by decide +kernel) (pa_cons (pe_cmpR op_ge (pe_meth (pv 0) T.clL D.par.M GP (hr.mono (by decide)) D.par.b .nil pass0 (pa_cons (pv 1) (pa_cons (pv 2) pa_nil))) pe_int (nomark _)) pa_nil)))), ?_⟩
    obtain ⟨dx, wa, r, xs, h1, h2, h3, h4⟩ := hG.at_.ex
    refine ⟨_, rfl, g, dx, _, rfl, h1, gfl_no _ _ (by decide +kernel) (by decide +kernel), _, rfl, _, rfl, g, f, s, Fa0, fs, st, Rs, hG, rfl, hf, hs, fun r hr' => ?_⟩
    refine ⟨_, _, rfl, rfl, .inr ⟨_, rfl, ?_⟩⟩
    rcases hr' with ⟨rfl, hE⟩ | ⟨k, rfl, hk, hn, _⟩
    · exact k0 (hE _ (by have := hG.rs.pos; omega))
    · have e1 : decide ((0 : Int) ≤ (k : Int)) = true := decide_eq_true (by omega)
      rw [e1]
      exact k1 fun q => hn (E.le (by omega) q)
end
end K34
/-! Walks: attack. -/
namespace K34
open PySem PySem.Spec PyProof.Rows L2
theorem eqV_int (i j : Int) : eqV (.int i) (.int j) = decide (i = j) := by
  show (i == j) = _
  by_cases h : i = j
  · rw [h]
    simp
  · rw [decide_eq_false h]
    simpa using h
theorem inV_ints (a : Int) (ns : List Int) : inV (.int a) (ns.map V.int) = decide (a ∈ ns) := by
  unfold inV
  induction ns with
  | nil => rfl
  | cons n ns ih =>
    rw [List.map_cons, List.any_cons, ih, eqV_int, Bool.eq_iff_iff, Bool.or_eq_true, decide_eq_true_iff, decide_eq_true_iff, decide_eq_true_iff, List.mem_cons]
    exact ⟨fun h => h.elim (fun e => .inl e.symm) .inr, fun h => h.elim (fun e => .inl e.symm) .inr⟩
theorem flat_ints (ns : List Int) : (ns.map V.int).all flatV = true := by
  rw [List.all_eq_true]
  intro v hv
  obtain ⟨i, _, rfl⟩ := List.mem_map.mp hv
  rfl
theorem natV_noref {ns : List Nat} {i : Nat} {a : Addr} (h : (natV ns)[i]? = some (.ref a)) : False := by
  rw [List.getElem?_map] at h
  cases e : ns[i]? with
  | none =>
    rw [e] at h
    cases h
  | some n =>
    rw [e] at h
    cases h
theorem natV_ints (ns : List Nat) : natV ns = (ns.map fun n : Nat => (n : Int)).map V.int := by
  rw [List.map_map]
  rfl
theorem inV_nats (a : Nat) (ns : List Nat) : inV (.int a) (natV ns) = decide (a ∈ ns) := by
  rw [natV_ints, inV_ints, Bool.eq_iff_iff, decide_eq_true_iff, decide_eq_true_iff, List.mem_map]
  constructor
  · rintro ⟨n, hn, e⟩
    have e' : n = a := by omega
    exact e' ▸ hn
  · intro h
    exact ⟨a, h, rfl⟩
theorem flat_nats (ns : List Nat) : (natV ns).all flatV = true := by
  rw [natV_ints]
  exact flat_ints _
/-- the one of the two -/
def pk (side f s : Nat) : Nat := if side = 0 then f else s
theorem pk_lt {side f s n : Nat} (hf : f < n) (hs : s < n) : pk side f s < n := by
  unfold pk
  split <;> assumption
theorem pk_at {f s j : Nat} {x : V} (h : ([V.int (f : Int), V.int (s : Int)] : List V)[j]? = some x) : j < 2 ∧ x = .int (pk j f s) := by
  match j, h with
  | 0, h => exact ⟨by decide, (Option.some.inj h).symm⟩
  | 1, h => exact ⟨by decide, (Option.some.inj h).symm⟩
theorem two_at {j : Nat} {x : V} (h : ([V.int 0, V.int 1] : List V)[j]? = some x) : j < 2 ∧ x = .int (j : Int) := by
  match j, h with
  | 0, h => exact ⟨by decide, (Option.some.inj h).symm⟩
  | 1, h => exact ⟨by decide, (Option.some.inj h).symm⟩
/-- what an attack finds -/
structure Atk (W : Wo) (f s k side label e : Nat) : Prop where
  side2 : side < 2
  label2 : label < 2
  inn : e ∈ W.fo (pk side f s) label
  no : ∀ o ∈ W.fo (pk (1 - side) f s) label, ¬ E W k e o
  first : ∀ j, ¬ E W j f s → k + 1 ≤ j
section
variable {P : Program} {w : World} {K : PySem.W.Frag} {mg : Str → Option Value} {base : Heap} {CW CL CT : Addr}
def spAtt (CW CL : Addr) : Sp := fun vs H Q _ => ∃ (g : Addr) (f s : Nat) (F : Int) (fs : List (List Int)) (st : List St3) (Rs : List (List Int)) (h : GM CW CL H g F fs st Rs), vs = [.ref g, .int f, .int s] ∧ f < fs.length ∧ s < fs.length ∧
  E (wo fs st h.gw.ok) 0 f s ∧ ¬ E (wo fs st h.gw.ok) (Rs.length - 1) f s ∧
  ∀ (p : Addr) (H' : Hp) (k side label e : Nat), Same H H' → H' p = some (.tup [.int side, .int label, .int e]) → Atk (wo fs st h.gw.ok) f s k side label e → Q (.ref p) H'
abbrev NNatt : List Str := ["self", "first", "second", "before", "label", "ends", "side", "others", "end", "state"]
theorem scAtt : FnScope NNatt ["self", "first", "second"] (defScope sAtt) := ⟨rfl, rfl, rfl, by decide +kernel, rfl, by decide +kernel, by decide +kernel⟩
theorem ok_att {f : Addr} {fd : FuncData} {m q : Str} (F : Fun K m q sAtt f fd) (D : Ds K mg) : FnOk P w K mg base CX0 2 f fd ["self", "first", "second"] (spAtt D.CW D.CL) := by
  have T := D.T
  have GP : FnOk P w K mg base CX0 1 D.f9 D.d9 ["self", "first", "second"] (spPar D.CW D.CL) := ok_par D.par.F D
  have GF : FnOk P w K mg base CX0 1 D.f4 D.d4 ["world", "state", "label"] (spFol D.CW) := ok_fol D.fol.F T
  refine F.ok scAtt (fun vs H Q E h => ?_) (fun cdv A outer sh H vs Q Ex hr h => ?_)
  · obtain ⟨g, f, s, F, fs, st, Rs, hG, rfl, _⟩ := h
    rfl
  · obtain ⟨g, f, s, Fa0, fs, st, Rs, hG, rfl, hf, hs, q0, q1, k⟩ := h
    refine ⟨_, (pss_cons (ps_set (i := 3) scAtt.nd rfl (Or.inr rfl) (pe_ix ix_list (pe_fld (pv 0) rfl) (pe_op op_sub (pe_meth (pv 0) T.clL D.par.M GP (hr.mono (by decide)) D.par.b .nil pass0 (pa_cons (pv 1) (pa_cons (pv 2) pa_nil))) pe_int) (fun _ _ => rfl)))
      (pss_cons (ps_for PassesOwn.never rfl (pi_range1 rfl T.n_range (pa_cons (pe_fld (pe_fld (pv 0) rfl) rfl) pa_nil)) (pg_name (i := 4) scAtt.nd rfl (Or.inr rfl))
        (pss_cons (ps_setLc (i := 5) (own := [("state", 9)]) (g := gName 9) (tt := tYes) rfl scAtt.nd rfl rfl (sw_true rfl rfl rfl (by decide +kernel)) (pi_tup (pe_tup (pa_cons (pv 1) (pa_cons (pv 2) pa_nil)))) (blkOk_by (own := [("state", 9)]) (N := NNatt) (sc := defScope sAtt) (by decide +kernel)) (fun _ _ _ _ _ => pg_name (i := 9) scAtt.nd rfl (Or.inl rfl)) (fun _ _ _ _ _ => pts_nil) (fun _ _ _ _ _ => (pe_call GF (hr.mono (by decide)) rfl D.fol.g D.fol.F.kp D.fol.b .nil pass0 (pa_cons (fldK K rfl (pv 0) rfl) (pa_cons (pv 9) (pa_cons (pv 4) pa_nil))))))
        (pss_one (ps_for PassesOwn.never rfl (pi_tup (pe_tup (pa_cons pe_int (pa_cons pe_int pa_nil)))) (pg_name (i := 6) scAtt.nd rfl (Or.inl rfl))
          (pss_cons (ps_setLc (i := 7) (own := [("end", 8)]) (g := gName 8) (tt := tYes) rfl scAtt.nd rfl rfl (sw_true rfl rfl rfl (by decide +kernel)) (pi_list (pe_ix ix_list (pv 5) (pe_op op_sub pe_int (pv 6)) (fun _ _ => rfl))) (blkOk_by (own := [("end", 8)]) (N := NNatt) (sc := defScope sAtt) (by decide +kernel)) (fun _ _ _ _ _ => pg_name (i := 8) scAtt.nd rfl (Or.inl rfl)) (fun _ _ _ _ _ => pts_nil) (fun _ _ _ _ _ => (pe_ix (ixT K) (pv 3) (pv 8) (fun _ _ => rfl))))
          (pss_one (ps_for PassesOwn.never rfl (pi_list (pe_ix ix_list (pv 5) (pv 6) (fun _ _ => rfl))) (pg_name (i := 8) scAtt.nd rfl (Or.inl rfl))
            (pss_one (ps_if (pt_cmpR op_notIn_seq (pe_ix ix_tup (pv 3) (pv 8) (fun _ _ => rfl)) (pv 7) (by rfl)) (pss_one (ps_ret (pe_tup (pa_cons (pv 6) (pa_cons (pv 4) (pa_cons (pv 8) pa_nil)))))) pss_nil)))))))))
      (pss_one (ps_ret (pe_tup (pa_cons pe_int (pa_cons pe_int (pa_cons (pv 1) pa_nil)))))))), ?_⟩
    obtain ⟨dx, wa, r, xs, h1, hW, h3, h4⟩ := hG.at_.ex
    obtain ⟨dx', sT, tT, vs, us, w1, w2, w3, w4, w5⟩ := hW.ex
    have hRl : Rs.length ≤ fs.length := hG.rs.le
    have n12 := hG.gw.n12
    have gw := hG.gw
    -- before
    refine ⟨_, rfl, g, D.CL, dx, _, _, rfl, h1, T.clL, T.lr, gfl_rounds _ _, _, rfl, g, dx, _, rfl, h1, gfl_no _ _ (by decide +kernel) (by decide +kernel), _, rfl, _, rfl, g, f, s, Fa0, fs, st, Rs, hG, rfl, hf, hs, fun pr hp => ?_⟩
    obtain ⟨k0, rfl, hk0, hn0, hlow⟩ : ∃ k0 : Nat, pr = ((k0 + 1 : Nat) : Int) ∧ k0 + 1 < Rs.length ∧ ¬ E (wo fs st hG.gw.ok) (k0 + 1) f s ∧ E (wo fs st hG.gw.ok) k0 f s := by
      rcases hp with ⟨_, hE⟩ | ⟨k, rfl, hk, hn, hl⟩
      · exact absurd (hE _ (by have := hG.rs.pos; omega)) q1
      · cases k with
        | zero => exact absurd q0 hn
        | succ k => exact ⟨k, rfl, hk, hn, hl k (Nat.lt_succ_self k)⟩
    have hfirst : ∀ j, ¬ E (wo fs st hG.gw.ok) j f s → k0 + 1 ≤ j := fun j hj => by
      rcases Nat.lt_or_ge k0 j with z | z
      · exact z
      · exact absurd (E.le z hlow) hj
    obtain ⟨c, hc, hF⟩ := hG.rs.get (show k0 < Rs.length by omega)
    obtain ⟨x, hx, kx⟩ := h4.get (k := tupk c) (i := k0) (by rw [List.getElem?_map, hc]; rfl)
    obtain ⟨t, rfl, ht⟩ := KeyV.ints kx
    have ar : atI xs (((k0 + 1 : Nat) : Int) - 1) = some (.ref t) := at_of (j := k0) (by omega) hx
    refine ⟨_, _, rfl, rfl, r, _, _, _, rfl, rfl, SqL.of h3, ar, ?_⟩
    -- the labels
    refine ⟨_, rfl, g, D.CL, dx, _, _, rfl, h1, T.clL, T.lw, gfl_world _ _, wa, D.CW, dx', _, _, rfl, w1, T.clW, T.wl, wfl_labels _ _ _ _, _, rfl, by decide, by decide,
      for_range (lo := 0) (n := 2) (fun i σ H' => Same H H' ∧ (∀ l, l < i → ∀ j, j < 2 → ∀ u ∈ fol st (pk j f s) l, ∃ v ∈ fol st (pk (1 - j) f s) l, E (wo fs st hG.gw.ok) k0 u v) ∧ ∃ v4 v5 v6 v7 v8 v9, σ = [some (.ref g), some (.int f), some (.int s), some (.ref t), v4, v5, v6, v7, v8, v9])
        ⟨Same.refl _, fun l hl => absurd hl (Nat.not_lt_zero _), none, none, none, none, none, none, rfl⟩ ?_ ?_⟩
    · rintro i σ H' hi ⟨sm, hdone, v4, v5, v6, v7, v8, v9, rfl⟩
      have e0 : (0 : Int) + (i : Int) = (i : Int) := Int.zero_add _
      rw [e0]
      -- ends
      refine ⟨_, rfl, _, rfl, (by show 2 ≤ sizeLine; decide), fun p hp => ⟨p, rfl, ⟨_, SqT.of upd_same⟩, fun B hB => ?_⟩⟩
      have sp1 : Same H' (upd H' p (.tup [.int (f : Int), .int (s : Int)])) := same_upd hp
      have hp1 : (upd H' p (.tup [.int (f : Int), .int (s : Int)])) p = some (.tup [.int (f : Int), .int (s : Int)]) := upd_same
      generalize upd H' p (.tup [.int (f : Int), .int (s : Int)]) = H1 at sp1 hp1 hB
      have sm1 : Same H H1 := sm.trans sp1
      refine lc_tup (xs := [.int (f : Int), .int (s : Int)]) (fun j H2 => Same H1 H2 ∧ ∃ es : List V, H2 B = some (.lst es) ∧ es.length = j ∧ ∀ m, m < j → ∃ e, es[m]? = some (.ref e) ∧ H2 e = some (.lst (natV (fol st (pk m f s) i))))
        ⟨same_upd hB, [], upd_same, rfl, fun m hm => absurd hm (Nat.not_lt_zero _)⟩ (fun j H2 _ ⟨s2, _⟩ => SqT.of (s2 _ _ hp1)) ?_ ?_
      · rintro j x H2 hx ⟨s2, es, hE2, hel, hes⟩
        obtain ⟨hj, rfl⟩ := pk_at hx
        refine ⟨rfl, tyes ⟨_, rfl, g, D.CL, dx, _, _, rfl, s2 _ _ (sm1 _ _ h1), T.clL, T.lw, gfl_world _ _, _, rfl, _, rfl, wa, pk j f s, i, 2, Fa0, fs, st, rfl, (hW.same sm1).same s2, gw.len, fun z H3 s3 hz hzl => ?_⟩⟩
        have hE3 := s3 _ _ hE2
        refine ⟨es, hE3, small1000 (by omega), fun b o e => ?_, _, upd_same, by rw [List.length_append, hel]; rfl, fun m hm => ?_⟩
        · rw [upd_ne (ne_of_none e hB)]
          exact s3 _ _ (s2 _ _ e)
        · rcases Nat.lt_or_ge m j with c1 | c1
          · obtain ⟨e, e1, e2⟩ := hes m c1
            have e3 := s3 _ _ e2
            have neB : e ≠ B := fun q => by
              rw [q, hE3] at e3
              have e4 := HO.lst.inj (Option.some.inj e3)
              rw [q, e4] at e1
              exact natV_noref e1
            exact ⟨e, by rw [List.getElem?_append_left (by omega)]; exact e1, by rw [upd_ne neB]; exact e3⟩
          · have em : m = j := by omega
            subst em
            have nzB : z ≠ B := fun q => by
              rw [q] at hz
              rw [hE2] at hz
              cases hz
            refine ⟨z, ?_, by rw [upd_ne nzB]; exact hzl⟩
            rw [List.getElem?_append_right (by omega), hel, Nat.sub_self]
            rfl
      · rintro H2 ⟨s2, es, hE2, hel, hes⟩
        have hel2 : es.length = 2 := hel
        have sm2 : Same H H2 := sm1.trans s2
        -- the sides
        refine ⟨(by show 2 ≤ sizeLine; decide), fun p2 hp2 => ⟨p2, rfl, ⟨_, SqT.of upd_same⟩, ?_⟩⟩
        have sp2 : Same H2 (upd H2 p2 (.tup [.int 0, .int 1])) := same_upd hp2
        have hp2' : (upd H2 p2 (.tup [.int 0, .int 1])) p2 = some (.tup [.int 0, .int 1]) := upd_same
        generalize upd H2 p2 (.tup [.int 0, .int 1]) = H3 at sp2 hp2'
        refine for_tup (K := K) (xs := [.int 0, .int 1]) (fun j σ H4 => Same H3 H4 ∧ (∀ j', j' < j → ∀ u ∈ fol st (pk j' f s) i, ∃ v ∈ fol st (pk (1 - j') f s) i, E (wo fs st hG.gw.ok) k0 u v) ∧ ∃ v6 v7 v8 v9, σ = [some (.ref g), some (.int f), some (.int s), some (.ref t), some (.int i), some (.ref B), v6, v7, v8, v9])
          ⟨Same.refl _, fun l hl => absurd hl (Nat.not_lt_zero _), v6, v7, v8, v9, rfl⟩ (fun j σ H4 _ ⟨s4, _⟩ => SqT.of (s4 _ _ hp2')) ?_ ?_
        · rintro j x σ H4 hx ⟨s4, hsd, w6, w7, w8, w9, rfl⟩
          obtain ⟨hj, rfl⟩ := two_at hx
          have sm4 : Same H H4 := (sm2.trans sp2).trans s4
          have hB4 := (sp2.trans s4) _ _ hE2
          obtain ⟨ea, ea1, ea2⟩ := hes j hj
          obtain ⟨eb, eb1, eb2⟩ := hes (1 - j) (by omega)
          have ea4 := (sp2.trans s4) _ _ ea2
          have eb4 := (sp2.trans s4) _ _ eb2
          have ht4 := sm4 _ _ ht
          have cell : ∀ {a e : Nat}, e ∈ fol st a i → e < fs.length ∧ atI (c.map V.int) (e : Int) = some (.int (c.getD e 0)) := fun {a e} me => by
            have q := (gw.ok _ (mem_fol.mp me)).2.2
            exact ⟨q, at_of (j := e) rfl (map_get (hF.cell q))⟩
          -- others
          refine ⟨_, rfl, _, rfl, _, _, rfl, rfl, B, es, _, _, rfl, rfl, SqL.of hB4, at_of (j := 1 - j) (by omega) eb1, eb, rfl, ⟨_, SqL.of eb4⟩, fun O hO => lc_list (xs := natV (fol st (pk (1 - j) f s) i)) (fun m H5 => Same H4 H5 ∧ H5 O = some (.lst ((((fol st (pk (1 - j) f s) i).take m).map fun e => c.getD e 0).map V.int)))
            ⟨same_upd hO, upd_same⟩ (fun m H5 _ ⟨s5, _⟩ => SqL.of (s5 _ _ eb4)) ?_ ?_⟩
          · rintro m x H5 hx5 ⟨s5, hO5⟩
            have hm : m < (fol st (pk (1 - j) f s) i).length := by
              have q := (List.getElem?_eq_some_iff.mp hx5).1
              rw [List.length_map] at q
              exact q
            obtain ⟨e, he⟩ : ∃ e, (fol st (pk (1 - j) f s) i)[m]? = some e := ⟨(fol st (pk (1 - j) f s) i)[m], List.getElem?_eq_getElem hm⟩
            have ex : x = .int e := by
              have q := natV_get he
              rw [hx5] at q
              exact Option.some.inj q
            subst ex
            obtain ⟨_, hat⟩ := cell (List.mem_of_getElem? he)
            have hfew := fol_few gw.ok gw.nd (pk (1 - j) f s) i
            refine ⟨rfl, tyes ⟨_, rfl, _, rfl, t, _, _, _, rfl, rfl, SqT.of (s5 _ _ ht4), hat, _, hO5, ?_, fun b o q => ?_, ?_⟩⟩
            · rw [List.length_map, List.length_map, List.length_take]
              exact small1000 (by omega)
            · rw [upd_ne (ne_of_none q hO)]
              exact s5 _ _ q
            · rw [upd_same, take_one he, List.map_append, List.map_append]
              rfl
          rintro H5 ⟨s5, hO5⟩
          have hnl : (natV (fol st (pk (1 - j) f s) i)).length = (fol st (pk (1 - j) f s) i).length := List.length_map _
          rw [hnl, List.take_length] at hO5
          have sm5 : Same H H5 := sm4.trans s5
          -- the ends
          refine ⟨_, rfl, _, rfl, B, es, _, _, rfl, rfl, SqL.of (s5 _ _ hB4), at_of (j := j) rfl ea1, ea, rfl, ⟨_, SqL.of (s5 _ _ ea4)⟩, for_list (K := K) (xs := natV (fol st (pk j f s) i)) (fun m σ H6 => H6 = H5 ∧ (∀ u ∈ (fol st (pk j f s) i).take m, ∃ v ∈ fol st (pk (1 - j) f s) i, E (wo fs st hG.gw.ok) k0 u v) ∧ ∃ v8, σ = [some (.ref g), some (.int f), some (.int s), some (.ref t), some (.int i), some (.ref B), some (.int j), some (.ref O), v8, w9])
            ⟨rfl, fun u hu => by simp at hu, w8, rfl⟩ (fun m σ H6 _ ⟨e6, _⟩ => by rw [e6]; exact SqL.of (s5 _ _ ea4)) ?_ ?_⟩
          · rintro m x σ H6 hx6 ⟨rfl, hdn, v8, rfl⟩
            have hm : m < (fol st (pk j f s) i).length := by
              have q := (List.getElem?_eq_some_iff.mp hx6).1
              rw [List.length_map] at q
              exact q
            obtain ⟨e, he⟩ : ∃ e, (fol st (pk j f s) i)[m]? = some e := ⟨(fol st (pk j f s) i)[m], List.getElem?_eq_getElem hm⟩
            have ex : x = .int e := by
              have q := natV_get he
              rw [hx6] at q
              exact Option.some.inj q
            subst ex
            have hmem := List.mem_of_getElem? he
            obtain ⟨hen, hat⟩ := cell hmem
            refine ⟨_, rfl, _, rfl, t, _, _, _, rfl, rfl, SqT.of (s5 _ _ ht4), hat, _, rfl, O, _, rfl, .inl (SqL.of hO5), rfl, flat_ints _, _, rfl, ?_⟩
            rw [inV_ints]
            by_cases hin : c.getD e 0 ∈ (fol st (pk (1 - j) f s) i).map fun e => c.getD e 0
            · rw [decide_eq_true hin]
              refine iteF ⟨rfl, fun u hu => ?_, _, rfl⟩
              rw [take_one he, List.mem_append] at hu
              rcases hu with hu | hu
              · exact hdn u hu
              · rw [List.mem_singleton.mp hu]
                obtain ⟨v, hv, ev⟩ := List.mem_map.mp hin
                exact ⟨v, hv, (hF.cell_iff hen (cell hv).1).mp ev.symm⟩
            · rw [decide_eq_false hin]
              refine iteT ⟨_, rfl, _, rfl, _, rfl, (by show 3 ≤ sizeLine; decide), fun z hz => ?_⟩
              refine k z _ k0 j i e (sm5.trans (same_upd hz)) upd_same ⟨hj, hi, hmem, fun o ho hE => hin ?_, hfirst⟩
              exact List.mem_map.mpr ⟨o, ho, ((hF.cell_iff hen (cell ho).1).mpr hE).symm⟩
          · rintro σ H6 ⟨rfl, hdn, v8, rfl⟩
            rw [show (natV (fol st (pk j f s) i)).length = (fol st (pk j f s) i).length from List.length_map _, List.take_length] at hdn
            refine ⟨s4.trans s5, fun j' hj' => ?_, _, _, _, _, rfl⟩
            rcases Nat.lt_or_ge j' j with z | z
            · exact hsd j' z
            · rw [show j' = j by omega]
              exact hdn
        · rintro σ H4 ⟨s4, hsd, w6, w7, w8, w9, rfl⟩
          refine ⟨((sm2.trans sp2).trans s4), fun l hl j hj u hu => ?_, _, _, _, _, _, _, rfl⟩
          rcases Nat.lt_or_ge l i with z | z
          · exact hdone l z j hj u hu
          · have el : l = i := by omega
            subst el
            exact hsd j hj u hu
    · rintro σ H' ⟨sm, hdone, v4, v5, v6, v7, v8, v9, rfl⟩
      -- not reached: some step parts them
      exfalso
      refine hn0 ⟨hlow, fun l => ?_⟩
      rcases Nat.lt_or_ge l 2 with z | z
      · refine ⟨fun u hu => hdone l z 0 (by decide) u hu, fun v hv => ?_⟩
        obtain ⟨u, hu, e⟩ := hdone l z 1 (by decide) v hv
        exact ⟨u, hu, e.symm⟩
      · have none_ : ∀ a e, e ∉ fol st a l := fun a e mm => by
          have := (gw.ok _ (mem_fol.mp mm)).2.1
          dsimp only at this
          omega
        exact ⟨fun u hu => absurd hu (none_ _ _), fun v hv => absurd hv (none_ _ _)⟩
end
end K34
/-! Walks: answer. -/
namespace K34
open PySem PySem.Spec PyProof.Rows L2
section
variable {P : Program} {w : World} {K : PySem.W.Frag} {mg : Str → Option Value} {base : Heap} {CW CL CT : Addr}
def spAns (CW CL : Addr) : Sp := fun vs H Q _ => ∃ (g : Addr) (f s side label e : Nat) (F : Int) (fs : List (List Int)) (st : List St3) (Rs : List (List Int)) (h : GM CW CL H g F fs st Rs), vs = [.ref g, .int f, .int s, .int side, .int label, .int e] ∧ f < fs.length ∧ s < fs.length ∧
  side < 2 ∧ E (wo fs st h.gw.ok) (Rs.length - 1) f s ∧ e ∈ fol st (pk side f s) label ∧
  ∀ (H' : Hp) (o : Nat), Same H H' → o ∈ fol st (pk (1 - side) f s) label → E (wo fs st h.gw.ok) (Rs.length - 1) e o → Q (.int o) H'
abbrev NNans : List Str := ["self", "first", "second", "side", "label", "end", "state", "numbers", "good", "other"]
theorem scAns : FnScope NNans ["self", "first", "second", "side", "label", "end"] (defScope sAns) := ⟨rfl, rfl, rfl, by decide +kernel, rfl, by decide +kernel, by decide +kernel⟩
theorem ok_ans {f : Addr} {fd : FuncData} {m q : Str} (F : Fun K m q sAns f fd) (D : Ds K mg) : FnOk P w K mg base CX0 2 f fd ["self", "first", "second", "side", "label", "end"] (spAns D.CW D.CL) := by
  have T := D.T
  have GF : FnOk P w K mg base CX0 1 D.f4 D.d4 ["world", "state", "label"] (spFol D.CW) := ok_fol D.fol.F T
  refine F.ok scAns (fun vs H Q E h => ?_) (fun cdv A outer sh H vs Q Ex hr h => ?_)
  · obtain ⟨g, f, s, side, label, e, F, fs, st, Rs, hG, rfl, _⟩ := h
    rfl
  · obtain ⟨g, f, s, side, label, e, Fa0, fs, st, Rs, hG, rfl, hf, hs, hside, hE, he, k⟩ := h
    refine ⟨_, (pss_cons (ps_set (i := 6) scAns.nd rfl (Or.inl rfl) (pv 2))
      (pss_cons (ps_if (pt_cmpR op_eq (pv 3) pe_int (nomark _)) (pss_one (ps_set (i := 6) scAns.nd rfl (Or.inl rfl) (pv 1))) pss_nil)
      (pss_cons (ps_set (i := 7) scAns.nd rfl (Or.inr rfl) (pe_ix ix_list (pe_fld (pv 0) rfl) (pe_un un_neg pe_int) (fun _ _ => rfl)))
      (pss_cons (ps_setLc (i := 8) (own := [("other", 9)]) (g := gName 9) rfl scAns.nd rfl rfl (sw_true rfl rfl rfl (by decide +kernel)) (pi_list (pe_call GF (hr.mono (by decide)) rfl D.fol.g D.fol.F.kp D.fol.b .nil pass0 (pa_cons (pe_fld (pv 0) rfl) (pa_cons (pv 6) (pa_cons (pv 4) pa_nil))))) (blkOk_by (own := [("other", 9)]) (N := NNans) (sc := defScope sAns) (by decide +kernel)) (fun _ _ _ _ _ => pg_name (i := 9) scAns.nd rfl (Or.inl rfl)) (fun _ _ _ _ _ => pts_one (pt_cmpR op_eq (pe_ix (ixT K) (pv 7) (pv 9) (fun _ _ => rfl)) (pe_ix (ixT K) (pv 7) (pv 5) (fun _ _ => rfl)) (nomark _))) (fun _ _ _ _ _ => (pv 9)))
      (pss_one (ps_ret (pe_ix ix_list (pv 8) pe_int (fun _ _ => rfl)))))))), ?_⟩
    obtain ⟨dx, wa, r, xs, h1, hW, h3, h4⟩ := hG.at_.ex
    have n12 := hG.gw.n12
    have gw := hG.gw
    have pos := hG.rs.pos
    have hon : pk (1 - side) f s < fs.length := pk_lt hf hs
    have hex : ∃ o ∈ fol st (pk (1 - side) f s) label, E (wo fs st hG.gw.ok) (Rs.length - 1) e o := by
      have hE1 : E (wo fs st hG.gw.ok) (Rs.length - 1 + 1) f s := hG.rs.stay f s hf hs hE
      rcases (show side = 0 ∨ side = 1 by omega) with z | z
      · subst z
        exact (hE1.2 label).1 e he
      · subst z
        obtain ⟨o, ho, q⟩ := (hE1.2 label).2 e he
        exact ⟨o, ho, q.symm⟩
    have es0 : side = 0 → pk (1 - side) f s = s := fun z => by
      rw [z]
      rfl
    have es1 : side = 1 → pk (1 - side) f s = f := fun z => by
      rw [z]
      rfl
    have hen : e < fs.length := (gw.ok _ (mem_fol.mp he)).2.2
    generalize pk (1 - side) f s = o0 at k hon hex es0 es1
    have hR : Rs.length - 1 < Rs.length := by omega
    obtain ⟨c, hc, hF⟩ := hG.rs.get hR
    obtain ⟨x, hx, kx⟩ := h4.get (k := tupk c) (i := Rs.length - 1) (by rw [List.getElem?_map, hc]; rfl)
    obtain ⟨t, rfl, ht⟩ := KeyV.ints kx
    have hxl : xs.length = Rs.length := by rw [h4.len, List.length_map]
    have ar : atI xs (-1) = some (.ref t) := by
      obtain ⟨ys, y, rfl⟩ : ∃ ys y, xs = ys ++ [y] := ⟨_, _, (List.dropLast_concat_getLast (fun e => by rw [e, List.length_nil] at hxl; omega)).symm⟩
      rw [atI_last, ← hx]
      rw [List.length_append, List.length_singleton] at hxl
      rw [List.getElem?_append_right (by omega), show Rs.length - 1 - ys.length = 0 by omega]
      rfl
    -- the state that answers
    refine ⟨_, rfl, _, rfl, rfl, _, rfl, ?_⟩
    rw [decI]
    rcases (show side = 0 ∨ side = 1 by omega) with z | z
    · rw [decide_eq_false (show ¬ ((side : Int) = 1) by omega)]
      refine iteF ?_
      rw [← es0 z]
      refine ⟨_, rfl, g, D.CL, dx, _, _, rfl, h1, T.clL, T.lr, gfl_rounds _ _, _, rfl, r, _, _, _, rfl, rfl, SqL.of h3, ar, ?_⟩
      refine ⟨_, rfl, g, D.CL, dx, _, _, rfl, h1, T.clL, T.lw, gfl_world _ _, _, rfl, _, rfl, wa, o0, label, 2, Fa0, fs, st, rfl, hW, gw.len, fun b H1 s1 hb hbl => ?_⟩
      have hfew := fol_few gw.ok gw.nd o0 label
      have cell : ∀ {a e : Nat}, e ∈ fol st a label → e < fs.length ∧ atI (c.map V.int) (e : Int) = some (.int (c.getD e 0)) := fun {a e} me => by
        have q := (gw.ok _ (mem_fol.mp me)).2.2
        exact ⟨q, at_of (j := e) rfl (map_get (hF.cell q))⟩
      refine ⟨b, rfl, ⟨_, SqL.of hbl⟩, fun O hO => lc_list (xs := natV (fol st o0 label)) (fun m H2 => Same H1 H2 ∧ H2 O = some (.lst (natV (((fol st o0 label).take m).filter fun o => decide (c.getD o 0 = c.getD e 0)))))
        ⟨same_upd hO, upd_same⟩ (fun m H2 _ ⟨s2, _⟩ => SqL.of (s2 _ _ hbl)) ?_ ?_⟩
      · rintro m x H2 hx2 ⟨s2, hO2⟩
        have hm : m < (fol st o0 label).length := by
          have q := (List.getElem?_eq_some_iff.mp hx2).1
          rw [List.length_map] at q
          exact q
        obtain ⟨o, ho⟩ : ∃ o, (fol st o0 label)[m]? = some o := ⟨(fol st o0 label)[m], List.getElem?_eq_getElem hm⟩
        have ex : x = .int o := by
          have q := natV_get ho
          rw [hx2] at q
          exact Option.some.inj q
        subst ex
        obtain ⟨hon2, hat⟩ := cell (List.mem_of_getElem? ho)
        have ht2 := s2 _ _ (s1 _ _ ht)
        refine ⟨rfl, _, rfl, _, rfl, t, _, _, _, rfl, rfl, SqT.of ht2, hat, _, rfl, _, rfl, t, _, _, _, rfl, rfl, SqT.of ht2, at_of (j := e) rfl (map_get (hF.cell hen)), rfl, _, rfl, ?_⟩
        rw [decI]
        have hle : (((fol st o0 label).take m).filter fun o => decide (c.getD o 0 = c.getD e 0)).length ≤ 12 := by
          have q1 := List.length_filter_le (fun o => decide (c.getD o 0 = c.getD e 0)) ((fol st o0 label).take m)
          rw [List.length_take] at q1
          omega
        by_cases q : c.getD o 0 = c.getD e 0
        · rw [decide_eq_true q]
          refine iteT ⟨_, rfl, _, hO2, ?_, fun b' o' e' => ?_, ?_⟩
          · rw [List.length_map]
            exact small1000 (by omega)
          · rw [upd_ne (ne_of_none e' hO)]
            exact s2 _ _ e'
          · rw [upd_same, take_one ho, List.filter_append, List.filter_cons_of_pos (by simpa using q), List.filter_nil, natV_snoc]
        · rw [decide_eq_false q]
          refine iteF ⟨s2, ?_⟩
          rw [hO2, take_one ho, List.filter_append, List.filter_cons_of_neg (by simpa using q)]
          simp
      · rintro H2 ⟨s2, hO2⟩
        rw [show (natV (fol st o0 label)).length = (fol st o0 label).length from List.length_map _, List.take_length] at hO2
        obtain ⟨o, ho, hoE⟩ := hex
        have hin : o ∈ (fol st o0 label).filter fun o => decide (c.getD o 0 = c.getD e 0) := List.mem_filter.mpr ⟨ho, decide_eq_true ((hF.cell_iff (cell ho).1 hen).mpr hoE.symm)⟩
        obtain ⟨o1, rest, eo⟩ : ∃ o1 rest, ((fol st o0 label).filter fun o => decide (c.getD o 0 = c.getD e 0)) = o1 :: rest := by
          cases q : (fol st o0 label).filter fun o => decide (c.getD o 0 = c.getD e 0) with
          | nil =>
            rw [q] at hin
            cases hin
          | cons o1 rest => exact ⟨o1, rest, rfl⟩
        have ho1 : o1 ∈ (fol st o0 label).filter fun o => decide (c.getD o 0 = c.getD e 0) := by
          rw [eo]
          exact List.mem_cons_self
        rw [List.mem_filter, decide_eq_true_iff] at ho1
        rw [eo] at hO2
        refine ⟨_, rfl, O, _, _, _, rfl, rfl, SqL.of hO2, at_of (j := 0) rfl rfl, ?_⟩
        exact k _ o1 (s1.trans s2) ho1.1 ((hF.cell_iff (cell ho1.1).1 hen).mp ho1.2).symm
    · rw [decide_eq_true (show ((side : Int) = 1) by omega)]
      refine iteT ⟨_, rfl, ?_⟩
      rw [← es1 z]
      refine ⟨_, rfl, g, D.CL, dx, _, _, rfl, h1, T.clL, T.lr, gfl_rounds _ _, _, rfl, r, _, _, _, rfl, rfl, SqL.of h3, ar, ?_⟩
      refine ⟨_, rfl, g, D.CL, dx, _, _, rfl, h1, T.clL, T.lw, gfl_world _ _, _, rfl, _, rfl, wa, o0, label, 2, Fa0, fs, st, rfl, hW, gw.len, fun b H1 s1 hb hbl => ?_⟩
      have hfew := fol_few gw.ok gw.nd o0 label
      have cell : ∀ {a e : Nat}, e ∈ fol st a label → e < fs.length ∧ atI (c.map V.int) (e : Int) = some (.int (c.getD e 0)) := fun {a e} me => by
        have q := (gw.ok _ (mem_fol.mp me)).2.2
        exact ⟨q, at_of (j := e) rfl (map_get (hF.cell q))⟩
      refine ⟨b, rfl, ⟨_, SqL.of hbl⟩, fun O hO => lc_list (xs := natV (fol st o0 label)) (fun m H2 => Same H1 H2 ∧ H2 O = some (.lst (natV (((fol st o0 label).take m).filter fun o => decide (c.getD o 0 = c.getD e 0)))))
        ⟨same_upd hO, upd_same⟩ (fun m H2 _ ⟨s2, _⟩ => SqL.of (s2 _ _ hbl)) ?_ ?_⟩
      · rintro m x H2 hx2 ⟨s2, hO2⟩
        have hm : m < (fol st o0 label).length := by
          have q := (List.getElem?_eq_some_iff.mp hx2).1
          rw [List.length_map] at q
          exact q
        obtain ⟨o, ho⟩ : ∃ o, (fol st o0 label)[m]? = some o := ⟨(fol st o0 label)[m], List.getElem?_eq_getElem hm⟩
        have ex : x = .int o := by
          have q := natV_get ho
          rw [hx2] at q
          exact Option.some.inj q
        subst ex
        obtain ⟨hon2, hat⟩ := cell (List.mem_of_getElem? ho)
        have ht2 := s2 _ _ (s1 _ _ ht)
        refine ⟨rfl, _, rfl, _, rfl, t, _, _, _, rfl, rfl, SqT.of ht2, hat, _, rfl, _, rfl, t, _, _, _, rfl, rfl, SqT.of ht2, at_of (j := e) rfl (map_get (hF.cell hen)), rfl, _, rfl, ?_⟩
        rw [decI]
        have hle : (((fol st o0 label).take m).filter fun o => decide (c.getD o 0 = c.getD e 0)).length ≤ 12 := by
          have q1 := List.length_filter_le (fun o => decide (c.getD o 0 = c.getD e 0)) ((fol st o0 label).take m)
          rw [List.length_take] at q1
          omega
        by_cases q : c.getD o 0 = c.getD e 0
        · rw [decide_eq_true q]
          refine iteT ⟨_, rfl, _, hO2, ?_, fun b' o' e' => ?_, ?_⟩
          · rw [List.length_map]
            exact small1000 (by omega)
          · rw [upd_ne (ne_of_none e' hO)]
            exact s2 _ _ e'
          · rw [upd_same, take_one ho, List.filter_append, List.filter_cons_of_pos (by simpa using q), List.filter_nil, natV_snoc]
        · rw [decide_eq_false q]
          refine iteF ⟨s2, ?_⟩
          rw [hO2, take_one ho, List.filter_append, List.filter_cons_of_neg (by simpa using q)]
          simp
      · rintro H2 ⟨s2, hO2⟩
        rw [show (natV (fol st o0 label)).length = (fol st o0 label).length from List.length_map _, List.take_length] at hO2
        obtain ⟨o, ho, hoE⟩ := hex
        have hin : o ∈ (fol st o0 label).filter fun o => decide (c.getD o 0 = c.getD e 0) := List.mem_filter.mpr ⟨ho, decide_eq_true ((hF.cell_iff (cell ho).1 hen).mpr hoE.symm)⟩
        obtain ⟨o1, rest, eo⟩ : ∃ o1 rest, ((fol st o0 label).filter fun o => decide (c.getD o 0 = c.getD e 0)) = o1 :: rest := by
          cases q : (fol st o0 label).filter fun o => decide (c.getD o 0 = c.getD e 0) with
          | nil =>
            rw [q] at hin
            cases hin
          | cons o1 rest => exact ⟨o1, rest, rfl⟩
        have ho1 : o1 ∈ (fol st o0 label).filter fun o => decide (c.getD o 0 = c.getD e 0) := by
          rw [eo]
          exact List.mem_cons_self
        rw [List.mem_filter, decide_eq_true_iff] at ho1
        rw [eo] at hO2
        refine ⟨_, rfl, O, _, _, _, rfl, rfl, SqL.of hO2, at_of (j := 0) rfl rfl, ?_⟩
        exact k _ o1 (s1.trans s2) ho1.1 ((hF.cell_iff (cell ho1.1).1 hen).mp ho1.2).symm
end
end K34
/-! Walks: _law_draws. -/
namespace K34
open PySem PySem.Spec PyProof.Rows L2
theorem ix_ok {n j : Nat} (h : j < n) : ixN n (j : Int) = some j := by
  unfold ixN
  rw [if_pos (by omega), if_pos (by omega)]
  rfl
section
variable {P : Program} {w : World} {K : PySem.W.Frag} {mg : Str → Option Value} {base : Heap} {CW CL CT : Addr}
def spDra (K : PySem.W.Frag) : Sp := fun vs H Q _ => ∃ (a : Addr) (ns : List Int), vs = [.ref a, .int 300] ∧ SqL K H a (ns.map V.int) ∧ ns.length ≤ 63 ∧
  ∀ (d : Addr) (H' : Hp), Same H H' → H d = none → Dr H' d → Q (.ref d) H'
abbrev NNdra : List Str := ["_law_script", "_law_count", "_law_cells", "_law_found", "_law_mixed", "_law_k", "_law_j", "_law_cell", "_law_again"]
theorem scDra : FnScope NNdra ["_law_script", "_law_count"] (defScope sDra) := ⟨rfl, rfl, rfl, by decide +kernel, rfl, by decide +kernel, by decide +kernel⟩
theorem ok_dra {f : Addr} {fd : FuncData} (F : Fun K "_law_draws" "_law_draws" sDra f fd) (T : Txt K mg CW CL) : FnOk P w K mg base CX0 1 f fd ["_law_script", "_law_count"] (spDra K) := by
  refine F.ok scDra (fun vs H Q E h => ?_) (fun cdv A outer s H vs Q E hr h => ?_)
  · obtain ⟨a, ns, rfl, _⟩ := h
    rfl
  · obtain ⟨a, ns, rfl, hS, hlen, k⟩ := h
    refine ⟨_, (pss_cons (ps_set (i := 2) scDra.nd rfl (Or.inl rfl) (pe_callTy call_list_of (by rfl) T.n_list (by decide +kernel) (pa_cons (pv 0) pa_nil)))
      (pss_cons (ps_if (pt_cmpR op_eq (pe_callB call_len_seq (by rfl) T.n_len (by decide +kernel) (pa_cons (pv 2) pa_nil)) pe_int (nomark _)) (pss_one (ps_set (i := 2) scDra.nd rfl (Or.inl rfl) (pe_lst (pa_cons pe_int pa_nil)))) pss_nil)
      (pss_cons (ps_set (i := 3) scDra.nd rfl (Or.inl rfl) (pe_lst pa_nil))
      (pss_cons (ps_set (i := 4) scDra.nd rfl (Or.inl rfl) pe_int)
      (pss_cons (ps_for PassesOwn.never rfl (pi_range1 rfl T.n_range (pa_cons (pv 1) pa_nil)) (pg_name (i := 5) scDra.nd rfl (Or.inl rfl))
        (pss_cons (ps_set (i := 6) scDra.nd rfl (Or.inl rfl) (pe_op op_mod (pv 5) (pe_callB call_len_seq (by rfl) T.n_len (by decide +kernel) (pa_cons (pv 2) pa_nil))))
        (pss_cons (ps_set (i := 7) scDra.nd rfl (Or.inl rfl) (pe_ix ix_list (pv 2) (pv 6) (fun _ _ => rfl)))
        (pss_cons (ps_set (i := 4) scDra.nd rfl (Or.inl rfl) (pe_op op_mod (pe_callTy call_int1 (by rfl) T.n_int (by decide +kernel) (pa_cons (pe_op op_add (pe_op op_add (pe_op op_add (pe_op op_mul (pv 4) pe_int) (pe_op op_mul (pe_op op_mod (pe_callTy call_int1 (by rfl) T.n_int (by decide +kernel) (pa_cons (pv 7) pa_nil)) pe_int) pe_int)) (pe_op op_mul (pv 5) pe_int)) pe_int) pa_nil)) pe_int))
        (pss_cons (ps_set (i := 8) scDra.nd rfl (Or.inl rfl) (pe_op op_mod (pe_callTy call_int1 (by rfl) T.n_int (by decide +kernel) (pa_cons (pe_op op_add (pe_op op_add (pe_op op_mul (pv 4) (pv 4)) (pe_op op_mul pe_int (pv 4))) (pv 5)) pa_nil)) pe_int))
        (pss_one (ps_if (pt_cmpR op_ge (pv 7) (pe_op op_pow pe_int pe_int) (nomark _)) (pss_cons (ps_expr (pe_bm PySem.F.plainAttrs_list PySem.F.slot_list_append PySem.F.type_list_append mt_append (pv 3) (pa_cons (pe_op op_mod (pe_callTy call_int1 (by rfl) T.n_int (by decide +kernel) (pa_cons (pv 7) pa_nil)) pe_int) pa_nil)))
          (pss_one (ps_asg (pe_op op_fdiv (pv 7) pe_int) (pg_sub (pv 2) (pv 6) set_list)))) (pss_one (ps_expr (pe_bm PySem.F.plainAttrs_list PySem.F.slot_list_append PySem.F.type_list_append mt_append (pv 3) (pa_cons (pe_op op_mod (pe_callTy call_int1 (by rfl) T.n_int (by decide +kernel) (pa_cons (pv 8) pa_nil)) pe_int) pa_nil)))))))))))
      (pss_cons (ps_expr (pe_bm0 PySem.F.plainAttrs_list PySem.F.slot_list_reverse PySem.F.type_list_reverse mt_reverse (pv 3)))
      (pss_one (ps_ret (pv 3))))))))), ?_⟩
    refine ⟨_, rfl, a, _, rfl, .inl hS, fun l hl => ?_⟩
    have sl : Same H (upd H l (.lst (ns.map V.int))) := same_upd hl
    have hl1 : (upd H l (.lst (ns.map V.int))) l = some (.lst (ns.map V.int)) := upd_same
    generalize upd H l (.lst (ns.map V.int)) = H1 at sl hl1
    refine ⟨_, rfl, l, _, rfl, .inl (SqL.of hl1), rfl, _, rfl, ?_⟩
    have e0 : (ns.map V.int).length = ns.length := List.length_map _
    rw [e0]
    by_cases c : ns = []
    · have e1 : decide (V.int (ns.length : Int) = V.int 0) = true := decide_eq_true (by rw [c]; rfl)
      rw [e1]
      refine iteT ⟨(by show 1 ≤ sizeLine; decide), fun z hz => ?_⟩
      have hz1 : (upd H1 z (.lst [.int 7])) z = some (.lst (([7] : List Int).map V.int)) := upd_same
      have sz : Same H (upd H1 z (.lst [.int 7])) := sl.trans (same_upd hz)
      have hzn : H z = none := sl.free hz
      have hpos : 0 < ([7] : List Int).length := by decide
      generalize upd H1 z (.lst [.int 7]) = H2 at hz1 sz
      generalize ([7] : List Int) = cs at hz1 hpos
      refine ⟨Nat.zero_le _, fun G hG => ?_⟩
      have hGn : H G = none := sz.free hG
      have nGz : z ≠ G := ne_of_none hz1 hG
      refine ⟨_, rfl, _, rfl, by decide, by decide, for_range (lo := 0) (n := 300) (fun i σ H' => Same H H' ∧ (∃ cs' : List Int, H' z = some (.lst (cs'.map V.int)) ∧ cs'.length = cs.length) ∧ (∃ gs : List Int, H' G = some (.lst (gs.map V.int)) ∧ gs.length = i) ∧ ∃ (m : Int) (v5 v6 v7 v8 : Option V), 0 ≤ m ∧ m < 2147483647 ∧ σ = [some (.ref a), some (.int 300), some (.ref z), some (.ref G), some (.int m), v5, v6, v7, v8])
        ⟨sz.trans (same_upd hG), ⟨cs, by rw [upd_ne nGz]; exact hz1, rfl⟩, ⟨[], upd_same, rfl⟩, 12345, none, none, none, none, by decide, by decide, rfl⟩ ?_ ?_⟩
      · rintro i σ H' hi ⟨sm, ⟨cs', hc, hcl⟩, ⟨gs, hg, hgl⟩, m, v5, v6, v7, v8, m0, m1, rfl⟩
        have hcm : (cs'.map V.int).length = cs'.length := List.length_map _
        have hgm : (gs.map V.int).length = gs.length := List.length_map _
        have e0 : (0 : Int) + (i : Int) = (i : Int) := Int.zero_add _
        rw [e0]
        have hjl : i % cs'.length < cs'.length := Nat.mod_lt _ (by omega)
        have ej : (i : Int) % ((cs'.map V.int).length : Int) = ((i % cs'.length : Nat) : Int) := by
          rw [hcm]
          exact (Int.natCast_emod i cs'.length).symm
        obtain ⟨x, hx⟩ : ∃ x, cs'[i % cs'.length]? = some x := ⟨cs'[i % cs'.length], List.getElem?_eq_getElem hjl⟩
        refine ⟨_, rfl, _, rfl, z, _, rfl, .inl (SqL.of hc), _, _, rfl, rfl, (by show (0 : Int) < ((cs'.map V.int).length : Int); omega), ?_⟩
        refine ⟨_, rfl, _, rfl, z, _, _, _, rfl, rfl, SqL.of hc, at_of (j := i % cs'.length) ej (map_get hx), ?_⟩
        -- mixed
        refine ⟨_, rfl, _, _, rfl, rfl, .inl ⟨by omega, by omega⟩, _, rfl, .inl ⟨_, rfl, _, _, rfl, rfl, (by show (0 : Int) < 1000003; decide), _, _, rfl, rfl, .inl ⟨?_, ?_⟩, _, _, rfl, rfl, _, rfl, _, _, rfl, rfl, .inl ⟨by omega, by omega⟩, _, _, rfl, rfl, _, _, rfl, rfl, .inl ⟨_, rfl, _, _, rfl, rfl, (by show (0 : Int) < 2147483647; decide), ?_⟩⟩⟩
        · have := Int.emod_nonneg x (show (1000003 : Int) ≠ 0 by decide)
          omega
        · have := Int.emod_lt_of_pos x (show (0 : Int) < 1000003 by decide)
          omega
        have n0 := Int.emod_nonneg (m * 48271 + x % 1000003 * 69621 + (i : Int) * 7919 + 11) (show (2147483647 : Int) ≠ 0 by decide)
        have n1 := Int.emod_lt_of_pos (m * 48271 + x % 1000003 * 69621 + (i : Int) * 7919 + 11) (show (0 : Int) < 2147483647 by decide)
        -- again
        refine ⟨_, rfl, _, rfl, _, _, rfl, rfl, .inl ⟨by omega, by omega⟩, _, rfl, _, _, rfl, rfl, .inl ⟨by omega, by omega⟩, _, _, rfl, rfl, _, rfl, _, _, rfl, rfl, .inl ⟨_, rfl, _, _, rfl, rfl, (by show (0 : Int) < 1000003; decide), ?_⟩⟩
        refine ⟨_, rfl, _, _, rfl, rfl, ⟨by decide, by decide, by decide⟩, _, _, rfl, rfl, _, rfl, ?_⟩
        refine ite2 (fun _ => ?_) (fun _ => ?_)
        · refine ⟨_, rfl, .inl ⟨rfl, _, SqL.of hg⟩, _, rfl, .inl ⟨_, rfl, _, _, rfl, rfl, (by show (0 : Int) < 1000; decide), G, _, _, rfl, rfl, hg, small1000 (by omega), ?_⟩⟩
          have hc2 : (upd H' G (.lst (gs.map V.int ++ [.int (x % 1000)]))) z = some (.lst (cs'.map V.int)) := by
            rw [upd_ne nGz]
            exact hc
          refine ⟨_, rfl, _, _, rfl, rfl, ⟨by decide, by decide⟩, _, rfl, _, rfl, z, _, _, i % cs'.length, rfl, rfl, hc2, (by rw [ej, hcm]; exact ix_ok hjl), ?_⟩
          refine ⟨fun b o e => ?_, ⟨cs'.set (i % cs'.length) (x / 1000), ?_, ?_⟩, ⟨gs ++ [x % 1000], ?_, ?_⟩, _, _, _, _, _, n0, n1, rfl⟩
          · rw [upd_ne (ne_of_none e hzn), upd_ne (ne_of_none e hGn)]
            exact sm _ _ e
          · rw [upd_same, List.map_set]
          · rw [List.length_set]
            exact hcl
          · rw [upd_ne nGz.symm, upd_same, List.map_append]
            rfl
          · rw [List.length_append, hgl]
            rfl
        · refine ⟨_, rfl, .inl ⟨rfl, _, SqL.of hg⟩, _, rfl, .inl ⟨_, rfl, _, _, rfl, rfl, (by show (0 : Int) < 1000; decide), G, _, _, rfl, rfl, hg, small1000 (by omega), ?_⟩⟩
          refine ⟨fun b o e => ?_, ⟨cs', ?_, hcl⟩, ⟨gs ++ [(((m * 48271 + x % 1000003 * 69621 + (i : Int) * 7919 + 11) % 2147483647) * ((m * 48271 + x % 1000003 * 69621 + (i : Int) * 7919 + 11) % 2147483647) + 31 * ((m * 48271 + x % 1000003 * 69621 + (i : Int) * 7919 + 11) % 2147483647) + (i : Int)) % 1000003 % 1000], ?_, ?_⟩, _, _, _, _, _, n0, n1, rfl⟩
          · rw [upd_ne (ne_of_none e hGn)]
            exact sm _ _ e
          · rw [upd_ne nGz]
            exact hc
          · rw [upd_same, List.map_append]
            rfl
          · rw [List.length_append, hgl]
            rfl
      · rintro σ H' ⟨sm, _, ⟨gs, hg, hgl⟩, m, v5, v6, v7, v8, m0, m1, rfl⟩
        refine ⟨_, rfl, .inl ⟨rfl, _, SqL.of hg⟩, G, _, rfl, rfl, hg, ?_⟩
        refine ⟨_, rfl, k G _ (fun b o e => ?_) hGn ⟨gs.reverse, ?_⟩⟩
        · rw [upd_ne (ne_of_none e hGn)]
          exact sm _ _ e
        · rw [upd_same, List.map_reverse]
    · have e1 : decide (V.int (ns.length : Int) = V.int 0) = false := decide_eq_false fun e => by
        injection e with e
        exact c (List.length_eq_zero_iff.mp (by omega))
      rw [e1]
      refine iteF ?_
      have hpos : 0 < ns.length := List.length_pos_iff.mpr c
      generalize ns = cs at hl1 hpos
      generalize hzl : l = z at hl1 hl
      have sz := sl
      have hz1 := hl1
      have hzn := hl
      generalize H1 = H2 at hz1 sz
      refine ⟨Nat.zero_le _, fun G hG => ?_⟩
      have hGn : H G = none := sz.free hG
      have nGz : z ≠ G := ne_of_none hz1 hG
      refine ⟨_, rfl, _, rfl, by decide, by decide, for_range (lo := 0) (n := 300) (fun i σ H' => Same H H' ∧ (∃ cs' : List Int, H' z = some (.lst (cs'.map V.int)) ∧ cs'.length = cs.length) ∧ (∃ gs : List Int, H' G = some (.lst (gs.map V.int)) ∧ gs.length = i) ∧ ∃ (m : Int) (v5 v6 v7 v8 : Option V), 0 ≤ m ∧ m < 2147483647 ∧ σ = [some (.ref a), some (.int 300), some (.ref z), some (.ref G), some (.int m), v5, v6, v7, v8])
        ⟨sz.trans (same_upd hG), ⟨cs, by rw [upd_ne nGz]; exact hz1, rfl⟩, ⟨[], upd_same, rfl⟩, 12345, none, none, none, none, by decide, by decide, rfl⟩ ?_ ?_⟩
      · rintro i σ H' hi ⟨sm, ⟨cs', hc, hcl⟩, ⟨gs, hg, hgl⟩, m, v5, v6, v7, v8, m0, m1, rfl⟩
        have hcm : (cs'.map V.int).length = cs'.length := List.length_map _
        have hgm : (gs.map V.int).length = gs.length := List.length_map _
        have e0 : (0 : Int) + (i : Int) = (i : Int) := Int.zero_add _
        rw [e0]
        have hjl : i % cs'.length < cs'.length := Nat.mod_lt _ (by omega)
        have ej : (i : Int) % ((cs'.map V.int).length : Int) = ((i % cs'.length : Nat) : Int) := by
          rw [hcm]
          exact (Int.natCast_emod i cs'.length).symm
        obtain ⟨x, hx⟩ : ∃ x, cs'[i % cs'.length]? = some x := ⟨cs'[i % cs'.length], List.getElem?_eq_getElem hjl⟩
        refine ⟨_, rfl, _, rfl, z, _, rfl, .inl (SqL.of hc), _, _, rfl, rfl, (by show (0 : Int) < ((cs'.map V.int).length : Int); omega), ?_⟩
        refine ⟨_, rfl, _, rfl, z, _, _, _, rfl, rfl, SqL.of hc, at_of (j := i % cs'.length) ej (map_get hx), ?_⟩
        -- mixed
        refine ⟨_, rfl, _, _, rfl, rfl, .inl ⟨by omega, by omega⟩, _, rfl, .inl ⟨_, rfl, _, _, rfl, rfl, (by show (0 : Int) < 1000003; decide), _, _, rfl, rfl, .inl ⟨?_, ?_⟩, _, _, rfl, rfl, _, rfl, _, _, rfl, rfl, .inl ⟨by omega, by omega⟩, _, _, rfl, rfl, _, _, rfl, rfl, .inl ⟨_, rfl, _, _, rfl, rfl, (by show (0 : Int) < 2147483647; decide), ?_⟩⟩⟩
        · have := Int.emod_nonneg x (show (1000003 : Int) ≠ 0 by decide)
          omega
        · have := Int.emod_lt_of_pos x (show (0 : Int) < 1000003 by decide)
          omega
        have n0 := Int.emod_nonneg (m * 48271 + x % 1000003 * 69621 + (i : Int) * 7919 + 11) (show (2147483647 : Int) ≠ 0 by decide)
        have n1 := Int.emod_lt_of_pos (m * 48271 + x % 1000003 * 69621 + (i : Int) * 7919 + 11) (show (0 : Int) < 2147483647 by decide)
        -- again
        refine ⟨_, rfl, _, rfl, _, _, rfl, rfl, .inl ⟨by omega, by omega⟩, _, rfl, _, _, rfl, rfl, .inl ⟨by omega, by omega⟩, _, _, rfl, rfl, _, rfl, _, _, rfl, rfl, .inl ⟨_, rfl, _, _, rfl, rfl, (by show (0 : Int) < 1000003; decide), ?_⟩⟩
        refine ⟨_, rfl, _, _, rfl, rfl, ⟨by decide, by decide, by decide⟩, _, _, rfl, rfl, _, rfl, ?_⟩
        refine ite2 (fun _ => ?_) (fun _ => ?_)
        · refine ⟨_, rfl, .inl ⟨rfl, _, SqL.of hg⟩, _, rfl, .inl ⟨_, rfl, _, _, rfl, rfl, (by show (0 : Int) < 1000; decide), G, _, _, rfl, rfl, hg, small1000 (by omega), ?_⟩⟩
          have hc2 : (upd H' G (.lst (gs.map V.int ++ [.int (x % 1000)]))) z = some (.lst (cs'.map V.int)) := by
            rw [upd_ne nGz]
            exact hc
          refine ⟨_, rfl, _, _, rfl, rfl, ⟨by decide, by decide⟩, _, rfl, _, rfl, z, _, _, i % cs'.length, rfl, rfl, hc2, (by rw [ej, hcm]; exact ix_ok hjl), ?_⟩
          refine ⟨fun b o e => ?_, ⟨cs'.set (i % cs'.length) (x / 1000), ?_, ?_⟩, ⟨gs ++ [x % 1000], ?_, ?_⟩, _, _, _, _, _, n0, n1, rfl⟩
          · rw [upd_ne (ne_of_none e hzn), upd_ne (ne_of_none e hGn)]
            exact sm _ _ e
          · rw [upd_same, List.map_set]
          · rw [List.length_set]
            exact hcl
          · rw [upd_ne nGz.symm, upd_same, List.map_append]
            rfl
          · rw [List.length_append, hgl]
            rfl
        · refine ⟨_, rfl, .inl ⟨rfl, _, SqL.of hg⟩, _, rfl, .inl ⟨_, rfl, _, _, rfl, rfl, (by show (0 : Int) < 1000; decide), G, _, _, rfl, rfl, hg, small1000 (by omega), ?_⟩⟩
          refine ⟨fun b o e => ?_, ⟨cs', ?_, hcl⟩, ⟨gs ++ [(((m * 48271 + x % 1000003 * 69621 + (i : Int) * 7919 + 11) % 2147483647) * ((m * 48271 + x % 1000003 * 69621 + (i : Int) * 7919 + 11) % 2147483647) + 31 * ((m * 48271 + x % 1000003 * 69621 + (i : Int) * 7919 + 11) % 2147483647) + (i : Int)) % 1000003 % 1000], ?_, ?_⟩, _, _, _, _, _, n0, n1, rfl⟩
          · rw [upd_ne (ne_of_none e hGn)]
            exact sm _ _ e
          · rw [upd_ne nGz]
            exact hc
          · rw [upd_same, List.map_append]
            rfl
          · rw [List.length_append, hgl]
            rfl
      · rintro σ H' ⟨sm, _, ⟨gs, hg, hgl⟩, m, v5, v6, v7, v8, m0, m1, rfl⟩
        refine ⟨_, rfl, .inl ⟨rfl, _, SqL.of hg⟩, G, _, rfl, rfl, hg, ?_⟩
        refine ⟨_, rfl, k G _ (fun b o e => ?_) hGn ⟨gs.reverse, ?_⟩⟩
        · rw [upd_ne (ne_of_none e hGn)]
          exact sm _ _ e
        · rw [upd_same, List.map_reverse]
end
end K34
/-! What stands beside the draws. -/
namespace K34
open PySem PySem.Spec PyProof.Rows L2
mutual
/-- a key hangs on tuples alone -/
theorem keyV_tups {H H' : Hp} (h : ∀ a xs, H a = some (.tup xs) → H' a = some (.tup xs)) : ∀ {k : NestedKey} {v : V}, KeyV H k v → KeyV H' k v
  | .none, _, q => q.elim
  | .text _, _, q => q.elim
  | .num _, _, q => q
  | .tup ks, _, q => by
    obtain ⟨a, xs, e, ha, t⟩ := q
    exact ⟨a, xs, e, h a xs ha, keyVs_tups h t⟩
theorem keyVs_tups {H H' : Hp} (h : ∀ a xs, H a = some (.tup xs) → H' a = some (.tup xs)) : ∀ {ks : List NestedKey} {xs : List V}, KeyVs H ks xs → KeyVs H' ks xs
  | [], _, q => q
  | k :: ks, _, q => by
    obtain ⟨v, r, e, q1, t⟩ := q
    exact ⟨v, r, e, keyV_tups h q1, keyVs_tups h t⟩
end
theorem keyVs_del {H : Hp} {d : Addr} (hd : Dr H d) {ks : List NestedKey} {xs : List V} (q : KeyVs H ks xs) : KeyVs (del H d) ks xs := keyVs_tups (fun a xs e => by
  obtain ⟨ns, hd⟩ := hd
  rw [del_ne (fun z => by rw [z, hd] at e; cases e)]
  exact e) q
/-- beside d all that stood stands -/
abbrev SD (d : Addr) (G H : Hp) : Prop := Same (del G d) (del H d)
theorem SD.upd {d b : Addr} {G H : Hp} {o : HO} (s : SD d G H) (hb : G b = none) : SD d G (upd H b o) := fun a u e => by
  by_cases c : a = d
  · rw [c, del_at] at e
    cases e
  · have q := s a u e
    rw [del_ne c] at e q ⊢
    rw [upd_ne (fun z => by rw [z, hb] at e; cases e)]
    exact q
theorem SD.updd {d : Addr} {G H : Hp} {o : HO} (s : SD d G H) : SD d G (L2.upd H d o) := by
  show Same (del G d) (del (L2.upd H d o) d)
  rw [del_upd]
  exact s
theorem SD.refl (d : Addr) (H : Hp) : SD d H H := Same.refl _
theorem SD.get {d a : Addr} {G H : Hp} {o : HO} (s : SD d G H) (h : G a = some o) (n : a ≠ d) : H a = some o := by
  have q := s a o (by rw [del_ne n]; exact h)
  rw [del_ne n] at q
  exact q
theorem SD.free {d a : Addr} {G H : Hp} {o : HO} (s : SD d G H) (hd : H d = some o) (h : H a = none) : a ≠ d → G a = none := fun n => by
  cases e : G a with
  | none => rfl
  | some u =>
    have q := s.get e n
    rw [h] at q
    cases q
theorem SD.of {d : Addr} {G H : Hp} (s : Same G H) : SD d G H := Same.del s d
theorem new_ne {H : Hp} {d a : Addr} {o : HO} (hd : H d = some o) (h : H a = none) : a ≠ d := fun z => by
  rw [z, hd] at h
  cases h
theorem Dr.ne {H : Hp} {d a : Addr} (hd : Dr H d) (h : H a = none) : a ≠ d := let ⟨_, e⟩ := hd; new_ne e h
theorem Dr.upd {H : Hp} {d a : Addr} {o : HO} (hd : Dr H d) (n : a ≠ d) : Dr (L2.upd H a o) d := by
  obtain ⟨ns, e⟩ := hd
  exact ⟨ns, by rw [upd_ne n.symm]; exact e⟩
theorem Dr.set {H : Hp} {d : Addr} {ms : List Int} : Dr (L2.upd H d (.lst (ms.map V.int))) d := ⟨ms, upd_same⟩
theorem Dr.notup {H : Hp} {d : Addr} (hd : Dr H d) : ∀ xs, H d ≠ some (.tup xs) := let ⟨_, e⟩ := hd; lst_notup e
/-- rising numbers -/
theorem asc_of {F : Int} {r : List Int} (h : r.Pairwise (· < ·)) (b : ∀ x ∈ r, 0 ≤ x ∧ x < F) : Asc F r := fun i x hx => by
  obtain ⟨b1, b2⟩ := b x (List.mem_of_getElem? hx)
  refine ⟨b1, b2, fun y hi hy => ?_⟩
  obtain ⟨h1, e1⟩ := List.getElem?_eq_some_iff.mp hx
  obtain ⟨h2, e2⟩ := List.getElem?_eq_some_iff.mp hy
  have q := List.pairwise_iff_getElem.mp h (i - 1) i h2 h1 (by omega)
  rw [e1, e2] at q
  exact q
/-- the steps so far, ahead of (s, l, o) -/
structure Stp (n s l o : Nat) (st : List St3) : Prop where
  nd : st.Nodup
  bef : ∀ t ∈ st, t.1 < s ∨ t.1 = s ∧ (t.2.1 < l ∨ t.2.1 = l ∧ t.2.2 < o)
  ok : OkSt n st
  len : st.length ≤ 12 * s + 6 * l + o
theorem Stp.nil (n : Nat) : Stp n 0 0 0 [] := ⟨List.nodup_nil, (fun t h => by cases h), (fun t h => by cases h), Nat.zero_le _⟩
theorem Stp.skip {n s l o : Nat} {st : List St3} (h : Stp n s l o st) : Stp n s l (o + 1) st := ⟨h.nd, fun t ht => by have := h.bef t ht; omega, h.ok, by have := h.len; omega⟩
theorem Stp.add {n s l o : Nat} {st : List St3} (h : Stp n s l o st) (hs : s < n) (hl : l < 2) (ho : o < n) : Stp n s l (o + 1) (st ++ [(s, l, o)]) := by
  refine ⟨List.nodup_append.mpr ⟨h.nd, List.nodup_cons.mpr ⟨List.not_mem_nil, List.nodup_nil⟩, fun a ha b hb e => ?_⟩, fun t ht => ?_, fun t ht => ?_, ?_⟩
  · rw [List.mem_singleton.mp hb] at e
    have q := h.bef a ha
    rw [e] at q
    dsimp only at q
    omega
  · rcases List.mem_append.mp ht with q | q
    · have := h.bef t q
      omega
    · rw [List.mem_singleton.mp q]
      dsimp only
      omega
  · rcases List.mem_append.mp ht with q | q
    · exact h.ok t q
    · rw [List.mem_singleton.mp q]
      exact ⟨hs, hl, ho⟩
  · rw [List.length_append, List.length_singleton]
    have := h.len
    omega
theorem Stp.nextl {n s l : Nat} {st : List St3} (h : Stp n s l n st) (hn : n ≤ 6) : Stp n s (l + 1) 0 st := ⟨h.nd, fun t ht => by have := h.bef t ht; omega, h.ok, by have := h.len; omega⟩
theorem Stp.nexts {n s : Nat} {st : List St3} (h : Stp n s 2 0 st) : Stp n (s + 1) 0 0 st := ⟨h.nd, fun t ht => by have := h.bef t ht; have := (h.ok t ht).2.1; omega, h.ok, by have := h.len; omega⟩
/-- a law's world, right -/
structure WIs (F : Int) (fs : List (List Int)) (st : List St3) : Prop where
  pos : 0 < fs.length
  n6 : fs.length ≤ 6
  asc : ∀ r ∈ fs, Asc F r ∧ r.length ≤ 1000
  nd : st.Nodup
  len : st.length ≤ 1000
  ok : OkSt fs.length st
theorem WIs.gw {F : Int} {fs : List (List Int)} {st : List St3} (h : WIs F fs st) : GW fs st := ⟨h.ok, h.nd, h.len, by have := h.n6; omega, h.pos⟩
end K34
/-! Walks: _law_world. -/
namespace K34
open PySem PySem.Spec PyProof.Rows L2
section
variable {P : Program} {w : World} {K : PySem.W.Frag} {mg : Str → Option Value} {base : Heap} {CW CL CT : Addr}
def spWor : Sp := fun vs H Q _ => ∃ (d : Addr) (F : Int), vs = [.ref d, .int 6, .int F] ∧ Dr H d ∧ 0 ≤ F ∧ F ≤ 6 ∧
  ∀ (p : Addr) (H' : Hp) (fs : List (List Int)) (st : List St3), SD d H H' → Dr H' d → LAt (del H' d) p fs st → WIs F fs st → Q (.ref p) H'
abbrev NNwor : List Str := ["_law_draws_here", "_law_most", "_law_facts", "_law_size", "_law_states", "_law_steps", "_law_state", "_law_label", "_law_other", "_law_fact"]
theorem del2_upd (H : Hp) (d B : Addr) (o : HO) : del (del (upd H B o) d) B = del (del H d) B := by
  funext b
  by_cases h : b = B
  · rw [h, del_at, del_at]
  · rw [del_ne h, del_ne h]
    by_cases h2 : b = d
    · rw [h2, del_at, del_at]
    · rw [del_ne h2, del_ne h2, upd_ne h]
theorem scWor : FnScope NNwor ["_law_draws_here", "_law_most", "_law_facts"] (defScope sWor) := ⟨rfl, rfl, rfl, by decide +kernel, rfl, by decide +kernel, by decide +kernel⟩
/-- the outer comprehension's names -/
abbrev scWor1 : Scope := { kind := .function, names := [(".0", .local), ("_law_state", .local), ("range", .globalImplicit), ("_law_draws_here", .cell), ("_law_facts", .cell)], isGenerator := false, isCoroutine := false }
theorem ok_wor {f : Addr} {fd : FuncData} (F : Fun K "_law_world" "_law_world" sWor f fd) (D : Ds K mg) : FnOk P w K mg base CX0 2 f fd ["_law_draws_here", "_law_most", "_law_facts"] spWor := by
  have T := D.T
  have GT : FnOk P w K mg base CX0 1 D.f14 D.d14 ["_law_draws_here", "_law_limit"] spTak := ok_tak D.tak.F T
  refine F.ok scWor (fun vs H Q E h => ?_) (fun cdv A outer s H vs Q E hr h => ?_)
  · obtain ⟨d, F, rfl, _⟩ := h
    rfl
  · obtain ⟨d, Fa0, rfl, ⟨ns0, hd0⟩, F0, F6, k⟩ := h
    refine ⟨_, (pss_cons (ps_set (i := 3) scWor.nd rfl (Or.inl rfl) (pe_op op_add pe_int (pe_call GT (hr.mono (by decide)) rfl D.tak.g D.tak.F.kp D.tak.b .nil pass0 (pa_cons (pv 0) (pa_cons (pv 1) pa_nil)))))
      (pss_cons (ps_setLc (i := 4) (own := [("_law_state", 6)]) (g := gName 6) (tt := tYes) rfl scWor.nd rfl rfl (sw_true rfl rfl rfl (by decide +kernel)) (pi_range1 rfl T.n_range (pa_cons (pv 3) pa_nil)) (blkOk_by (own := [("_law_state", 6)]) (N := NNwor) (sc := defScope sWor) (by decide +kernel)) (fun _ _ _ _ _ => pg_name (i := 6) scWor.nd rfl (Or.inl rfl)) (fun _ _ _ _ _ => pts_nil) (fun _ _ _ _ _ => (pe_lc (own := [("_law_fact", 9)]) (g := gName 9) rfl scWor.nd (pi_range1 rfl T.n_range (pa_cons (pv 2) pa_nil)) (blkOk_by (own := [("_law_fact", 9)]) (N := NNwor) (sc := scWor1) (by decide +kernel)) (fun _ _ _ _ _ => pg_name (i := 9) scWor.nd rfl (Or.inl rfl)) (fun _ _ _ _ _ => pts_one (pt_cmpR op_eq (pe_call GT (hr.mono (by decide)) rfl D.tak.g D.tak.F.kp D.tak.b .nil pass0 (pa_cons (pv 0) (pa_cons pe_int pa_nil))) pe_int (nomark _))) (fun _ _ _ _ _ => (pv 9)))))
      (pss_cons (ps_set (i := 5) scWor.nd rfl (Or.inl rfl) (pe_lst pa_nil))
      (pss_cons (ps_for PassesOwn.never rfl (pi_range1 rfl T.n_range (pa_cons (pv 3) pa_nil)) (pg_name (i := 6) scWor.nd rfl (Or.inl rfl))
        (pss_one (ps_for PassesOwn.never rfl (pi_range1 rfl T.n_range (pa_cons pe_int pa_nil)) (pg_name (i := 7) scWor.nd rfl (Or.inl rfl))
          (pss_one (ps_for PassesOwn.never rfl (pi_range1 rfl T.n_range (pa_cons (pv 3) pa_nil)) (pg_name (i := 8) scWor.nd rfl (Or.inl rfl))
            (pss_one (ps_if (pt_cmpR op_lt (pe_call GT (hr.mono (by decide)) rfl D.tak.g D.tak.F.kp D.tak.b .nil pass0 (pa_cons (pv 0) (pa_cons (pe_op op_add pe_int (pv 3)) pa_nil))) pe_int (nomark _)) (pss_one (ps_expr (pe_bm PySem.F.plainAttrs_list PySem.F.slot_list_append PySem.F.type_list_append mt_append (pv 5) (pa_cons (pe_tup (pa_cons (pv 6) (pa_cons (pv 7) (pa_cons (pv 8) pa_nil)))) pa_nil)))) pss_nil)))))))
      (pss_one (ps_ret (pe_tup (pa_cons (pv 4) (pa_cons (pv 5) pa_nil))))))))), ?_⟩
    -- size
    refine ⟨_, rfl, _, rfl, d, 6, ns0, rfl, by decide, hd0, fun ms0 r r0 r1 => ⟨_, _, rfl, rfl, ?_⟩⟩
    obtain ⟨n, hn⟩ : ∃ n : Nat, (1 : Int) + r = (n : Int) := ⟨(1 + r).toNat, by omega⟩
    have n1 : 0 < n := by omega
    have n6 : n ≤ 6 := by omega
    show gName 3 (V.int ((1 : Int) + r)) _ _ _
    rw [hn]
    have sd0 : SD d H (upd H d (.lst (ms0.map V.int))) := (SD.refl d H).updd
    have dr0 : Dr (upd H d (.lst (ms0.map V.int))) d := Dr.set
    generalize upd H d (.lst (ms0.map V.int)) = H0 at sd0 dr0
    -- states
    refine ⟨_, rfl, _, rfl, by omega, by omega, fun B hB => ?_⟩
    have nBd := dr0.ne hB
    refine lc_range (lo := 0) (n := n) (fun i H2 => SD d H0 H2 ∧ Dr H2 d ∧ ∃ (ys : List V) (rs : List (List Int)), H2 B = some (.lst ys) ∧ LstVs (del (del H2 d) B) rs ys ∧ rs.length = i ∧ ∀ r ∈ rs, Asc Fa0 r ∧ r.length ≤ 1000)
      ⟨(SD.refl d H0).upd hB, dr0.upd nBd, [], [], upd_same, rfl, rfl, fun r h => by cases h⟩ ?_ ?_
    · rintro i H2 hi ⟨sd2, dr2, ys, rs, hy, hrs, hrl, hasc⟩
      refine ⟨rfl, tyes ⟨_, rfl, _, rfl, by omega, by omega, fun D2 hD2 => ?_⟩⟩
      have nDd := dr2.ne hD2
      have nDB := new_ne hy hD2
      have hyl : ys.length = i := by rw [hrs.len, hrl]
      obtain ⟨Fn, hFn⟩ : ∃ Fn : Nat, Fa0 = (Fn : Int) := ⟨Fa0.toNat, by omega⟩
      refine lc_range (lo := 0) (n := Fa0.toNat) (fun j H3 => SD d H2 H3 ∧ Dr H3 d ∧ ∃ r : List Int, H3 D2 = some (.lst (r.map V.int)) ∧ r.Pairwise (· < ·) ∧ (∀ x ∈ r, 0 ≤ x ∧ x < (j : Int)) ∧ r.length ≤ j)
        ⟨(SD.refl d H2).upd hD2, dr2.upd nDd, [], upd_same, List.Pairwise.nil, (fun x h => by cases h), Nat.zero_le _⟩ ?_ ?_
      · rintro j H3 hj ⟨sd3, ⟨ns3, hd3⟩, r, hr3, hpw, hb, hrl3⟩
        refine ⟨rfl, _, rfl, d, 2, ns3, rfl, by decide, hd3, fun ms q q0 q1 => ⟨rfl, _, rfl, ?_⟩⟩
        have hr4 : (upd H3 d (.lst (ms.map V.int))) D2 = some (.lst (r.map V.int)) := by
          rw [upd_ne nDd]
          exact hr3
        refine ite2 (fun _ => ?_) (fun _ => ?_)
        · refine ⟨_, rfl, _, hr4, (by rw [List.length_map]; exact small1000 (by omega)), sd3.updd.upd hD2, Dr.set.upd nDd, r ++ [0 + (j : Int)], ?_, ?_, ?_, ?_⟩
          · rw [upd_same, List.map_append]
            rfl
          · refine List.pairwise_append.mpr ⟨hpw, List.pairwise_singleton _ _, fun a ha b hb2 => ?_⟩
            rw [List.mem_singleton.mp hb2]
            have := hb a ha
            omega
          · intro x hx
            rcases List.mem_append.mp hx with z | z
            · have := hb x z
              omega
            · rw [List.mem_singleton.mp z]
              omega
          · rw [List.length_append, List.length_singleton]
            omega
        · exact ⟨sd3.updd, Dr.set, r, hr4, hpw, fun x hx => (by have := hb x hx; omega), by omega⟩
      · rintro H3 ⟨sd3, dr3, r, hr3, hpw, hb, hrl3⟩
        have hy3 : H3 B = some (.lst ys) := sd3.get hy nBd
        refine ⟨ys, hy3, small1000 (by omega), SD.upd (sd2.trans sd3) hB, dr3.upd nBd, _, rs ++ [r], upd_same, ?_, by rw [List.length_append, hrl]; rfl, fun r' hr' => ?_⟩
        · rw [del2_upd]
          refine LstVs.snoc ?_ (LstVs.same (Same.del sd3 B) hrs)
          rw [del_ne nDB, del_ne nDd]
          exact hr3
        · rcases List.mem_append.mp hr' with z | z
          · exact hasc r' z
          · rw [List.mem_singleton.mp z]
            exact ⟨asc_of hpw fun x hx => (by have := hb x hx; omega), by omega⟩
    · rintro H2 ⟨sd2, dr2, ys, rs, hy, hrs, hrl, hasc⟩
      have hrs2 : LstVs (del H2 d) rs ys := LstVs.same (del_same _ _) hrs
      have sdH2 : SD d H H2 := sd0.trans sd2
      -- steps
      refine ⟨Nat.zero_le _, fun S hS => ?_⟩
      have nSd := dr2.ne hS
      have nSB := new_ne hy hS
      have hSn : H S = none := by
        obtain ⟨_, hd2⟩ := dr2
        exact sdH2.free hd2 hS nSd
      refine ⟨_, rfl, _, rfl, by omega, by omega, for_range (lo := 0) (n := n) (fun i σ H3 => SD d H2 H3 ∧ Dr H3 d ∧ (∃ (us : List V) (st : List St3), H3 S = some (.lst us) ∧ KeyVs H3 (st.map stK) us ∧ Stp n i 0 0 st) ∧ ∃ v6 v7 v8 v9, σ = [some (.ref d), some (.int 6), some (.int Fa0), some (.int n), some (.ref B), some (.ref S), v6, v7, v8, v9])
        ⟨(SD.refl d H2).upd hS, dr2.upd nSd, ⟨[], [], upd_same, .nil, Stp.nil n⟩, none, none, none, none, rfl⟩ ?_ ?_⟩
      · rintro i σ H3 hi ⟨sd3, dr3, hst, v6, v7, v8, v9, rfl⟩
        rw [Int.zero_add]
        refine ⟨_, rfl, by decide, by decide, for_range (lo := 0) (n := 2) (fun j σ H3 => SD d H2 H3 ∧ Dr H3 d ∧ (∃ (us : List V) (st : List St3), H3 S = some (.lst us) ∧ KeyVs H3 (st.map stK) us ∧ Stp n i j 0 st) ∧ ∃ v7 v8 v9, σ = [some (.ref d), some (.int 6), some (.int Fa0), some (.int n), some (.ref B), some (.ref S), some (.int i), v7, v8, v9])
          ⟨sd3, dr3, hst, v7, v8, v9, rfl⟩ ?_ ?_⟩
        · rintro j σ H3 hj ⟨sd3, dr3, hst, v7, v8, v9, rfl⟩
          rw [Int.zero_add]
          refine ⟨_, rfl, _, rfl, by omega, by omega, for_range (lo := 0) (n := n) (fun o σ H3 => SD d H2 H3 ∧ Dr H3 d ∧ (∃ (us : List V) (st : List St3), H3 S = some (.lst us) ∧ KeyVs H3 (st.map stK) us ∧ Stp n i j o st) ∧ ∃ v8 v9, σ = [some (.ref d), some (.int 6), some (.int Fa0), some (.int n), some (.ref B), some (.ref S), some (.int i), some (.int j), v8, v9])
            ⟨sd3, dr3, hst, v8, v9, rfl⟩ ?_ ?_⟩
          · rintro o σ H3 ho ⟨sd3, ⟨ns3, hd3⟩, ⟨us, st, hu, hk, hs⟩, v8, v9, rfl⟩
            rw [Int.zero_add]
            refine ⟨_, rfl, _, rfl, _, _, rfl, rfl, d, _, ns3, rfl, by omega, hd3, fun ms q q0 q1 => ⟨_, _, rfl, rfl, _, rfl, ?_⟩⟩
            have hu4 : (upd H3 d (.lst (ms.map V.int))) S = some (.lst us) := by
              rw [upd_ne nSd]
              exact hu
            have hk4 : KeyVs (upd H3 d (.lst (ms.map V.int))) (st.map stK) us := keyVs_upd (lst_notup hd3) hk
            refine ite2 (fun _ => ?_) (fun _ => ?_)
            · refine ⟨_, rfl, .inl ⟨rfl, _, SqL.of hu4⟩, _, rfl, _, rfl, _, rfl, (by show 3 ≤ sizeLine; decide), fun p hp => ?_⟩
              have nSp : S ≠ p := ne_of_none hu4 hp
              have ndp : d ≠ p := ne_of_none (o := .lst (ms.map V.int)) upd_same hp
              have hu5 : (upd (upd H3 d (.lst (ms.map V.int))) p (.tup [.int (i : Int), .int (j : Int), .int (o : Int)])) S = some (.lst us) := by
                rw [upd_ne nSp]
                exact hu4
              have hp2 : H2 p = none := by
                obtain ⟨_, hd2⟩ := dr2
                refine sd3.free hd3 ?_ ndp.symm
                rw [upd_ne ndp.symm] at hp
                exact hp
              have hul : us.length = st.length := by rw [hk.len, List.length_map]
              have hsl := hs.len
              refine ⟨S, us, _, rfl, rfl, hu5, small1000 (by omega), SD.upd (SD.upd sd3.updd hp2) hS, Dr.upd (Dr.upd Dr.set ndp.symm) nSd, ⟨_, st ++ [(i, j, o)], upd_same, ?_, hs.add hi hj ho⟩, _, _, rfl⟩
              rw [List.map_append]
              exact KeyVs.snoc (keyV_upd (lst_notup hu5) (KeyV.of_ints (ns := stI (i, j, o)) upd_same)) (keyVs_upd (lst_notup hu5) (hk4.same (same_upd hp)))
            · exact ⟨sd3.updd, Dr.set, ⟨us, st, hu4, hk4, hs.skip⟩, _, _, rfl⟩
          · rintro σ H3 ⟨sd3, dr3, ⟨us, st, hu, hk, hs⟩, v8, v9, rfl⟩
            exact ⟨sd3, dr3, ⟨us, st, hu, hk, hs.nextl n6⟩, _, _, _, rfl⟩
        · rintro σ H3 ⟨sd3, dr3, ⟨us, st, hu, hk, hs⟩, v7, v8, v9, rfl⟩
          exact ⟨sd3, dr3, ⟨us, st, hu, hk, hs.nexts⟩, _, _, _, _, rfl⟩
      · rintro σ H3 ⟨sd3, dr3, ⟨us, st, hu, hk, hs⟩, v6, v7, v8, v9, rfl⟩
        refine ⟨_, rfl, _, rfl, (by show 2 ≤ sizeLine; decide), fun p hp => ?_⟩
        have npd := dr3.ne hp
        have hBy : H3 B = some (.lst ys) := sd3.get hy nBd
        have npB := new_ne hBy hp
        have npS := new_ne hu hp
        have hpn : H p = none := by
          obtain ⟨_, hd3⟩ := dr3
          exact SD.free (sdH2.trans sd3) hd3 hp npd
        have sp : Same H3 (upd H3 p (.tup [.ref B, .ref S])) := same_upd hp
        have dr4 : Dr (upd H3 p (.tup [.ref B, .ref S])) d := dr3.upd npd
        refine k p _ rs st (SD.upd (sdH2.trans sd3) hpn) dr4 ⟨B, S, ys, us, ?_, ?_, ?_, ?_, ?_⟩ ⟨by omega, by omega, hasc, hs.nd, by have := hs.len; omega, by rw [hrl]; exact hs.ok⟩
        · rw [del_ne npd, upd_same]
        · rw [del_ne nBd]
          exact sp _ _ hBy
        · exact LstVs.same (sd3.trans (SD.of sp)) hrs2
        · rw [del_ne nSd]
          exact sp _ _ hu
        · exact keyVs_del dr4 (hk.same sp)
end
end K34
/-! Walks: _law_made. -/
namespace K34
open PySem PySem.Spec PyProof.Rows L2
section
variable {P : Program} {w : World} {K : PySem.W.Frag} {mg : Str → Option Value} {base : Heap} {CW CL CT : Addr}
def spMad (CW : Addr) : Sp := fun vs H Q _ => ∃ (lw : Addr) (F : Int) (fs : List (List Int)) (st : List St3), vs = [.ref lw, .int 2, .int F] ∧ LAt H lw fs st ∧ WIs F fs st ∧ 0 ≤ F ∧ F ≤ 6 ∧
  ∀ (p : Addr) (H' : Hp) (st' : List St3), Same H H' → st'.Perm st → WAt CW H' p 2 F fs st' → Q (.ref p) H'
abbrev NNmad : List Str := ["_law_world_here", "_law_labels", "_law_facts", "_law_state"]
theorem scMad : FnScope NNmad ["_law_world_here", "_law_labels", "_law_facts"] (defScope sMad) := ⟨rfl, rfl, rfl, by decide +kernel, rfl, by decide +kernel, by decide +kernel⟩
theorem ok_mad {f : Addr} {fd : FuncData} (F : Fun K "_law_made" "_law_made" sMad f fd) (D : Ds K mg) : FnOk P w K mg base CX0 4 f fd ["_law_world_here", "_law_labels", "_law_facts"] (spMad D.CW) := by
  have T := D.T
  have GW : FnOk P w K mg base CX0 2 D.f3 D.d3 ["self", "labels", "facts", "states", "steps"] (spWin K D.CW) := ok_win D.win.F T D.asc D.rst
  refine F.ok scMad (fun vs H Q E h => ?_) (fun cdv A outer s H vs Q E hr h => ?_)
  · obtain ⟨lw, F, fs, st, rfl, _⟩ := h
    rfl
  · obtain ⟨lw, Fa0, fs, st, rfl, hL, hI, F0, F6, k⟩ := h
    refine ⟨_, (pss_one (ps_ret (pe_make D.win.M GW (hr.mono (by decide)) rfl T.gW D.win.b .nil pass0 (pa_cons (pv 1) (pa_cons (pv 2) (pa_cons (pe_lc (own := [("_law_state", 3)]) (g := gName 3) (tt := tYes) rfl scMad.nd (pi_list (pe_ix ix_tup (pv 0) pe_int (fun _ _ => rfl))) (blkOk_by (own := [("_law_state", 3)]) (N := NNmad) (sc := defScope sMad) (by decide +kernel)) (fun _ _ _ _ _ => pg_name (i := 3) scMad.nd rfl (Or.inl rfl)) (fun _ _ _ _ _ => pts_nil) (fun _ _ _ _ _ => (pe_callTy (lstOf K) (by rfl) T.n_list (by decide +kernel) (pa_cons (pv 3) pa_nil)))) (pa_cons (pe_callTy call_list_of (by rfl) T.n_list (by decide +kernel) (pa_cons (pe_ix ix_tup (pv 0) pe_int (fun _ _ => rfl)) pa_nil)) pa_nil))))))), ?_⟩
    obtain ⟨sl, tl, vs, us, h1, h2, h3, h4, h5⟩ := hL.ex
    have hvl : vs.length = fs.length := h3.len
    have n6 := hI.n6
    refine ⟨_, rfl, _, rfl, _, rfl, lw, _, _, _, rfl, rfl, SqT.of h1, at_of (j := 0) rfl rfl, sl, rfl, ⟨_, SqL.of h2⟩, fun B hB => lc_list (xs := vs) (fun i H2 => Same H H2 ∧ ∃ ys, H2 B = some (.lst ys) ∧ LstVs (del H2 B) (fs.take i) ys)
      ⟨same_upd hB, [], upd_same, rfl⟩ (fun i H2 _ ⟨s2, _⟩ => SqL.of (s2 _ _ h2)) ?_ ?_⟩
    · rintro i x H2 hx ⟨s2, ys, hy, hys⟩
      have hi : i < fs.length := by
        rw [← hvl]
        exact (List.getElem?_eq_some_iff.mp hx).1
      obtain ⟨r, hr2⟩ : ∃ r, fs[i]? = some r := ⟨fs[i], List.getElem?_eq_getElem hi⟩
      obtain ⟨b, hb, hb2⟩ := h3.get hr2
      rw [hx] at hb
      have eb := Option.some.inj hb
      subst eb
      refine ⟨rfl, tyes ⟨_, rfl, b, _, rfl, .inl (SqL.of (s2 _ _ hb2)), fun l hl => ?_⟩⟩
      have nBl : B ≠ l := ne_of_none hy hl
      have hy3 : (upd H2 l (.lst (r.map V.int))) B = some (.lst ys) := by
        rw [upd_ne nBl]
        exact hy
      have hyl : ys.length = i := by
        rw [hys.len, List.length_take]
        omega
      refine ⟨ys, hy3, small1000 (by omega), fun b' o e => ?_, _, upd_same, ?_⟩
      · rw [upd_ne (ne_of_none e hB)]
        exact same_upd hl _ _ (s2 _ _ e)
      · rw [del_upd, take_one hr2]
        refine LstVs.snoc ?_ (LstVs.same (Same.del (same_upd hl) B) hys)
        rw [del_ne nBl.symm, upd_same]
    · rintro H2 ⟨s2, ys, hy, hys⟩
      rw [hvl, List.take_length] at hys
      refine ⟨_, rfl, lw, _, _, _, rfl, rfl, SqT.of (s2 _ _ h1), at_of (j := 1) rfl rfl, tl, _, rfl, .inl (SqL.of (s2 _ _ h4)), fun l hl => ?_⟩
      have s3 : Same H2 (upd H2 l (.lst us)) := same_upd hl
      have hl3 : (upd H2 l (.lst us)) l = some (.lst us) := upd_same
      generalize upd H2 l (.lst us) = H3 at s3 hl3
      intro x dx hx hdx ne
      have s4 : Same H3 (upd (upd H3 dx (.own x)) x (.ins D.CW dx [])) := fun b o e => by
        rw [upd_ne (ne_of_none e hx), upd_ne (ne_of_none e hdx)]
        exact e
      have hxn : H x = none := (s2.trans s3).free hx
      have sA := (s2.trans s3).trans s4
      refine ⟨x, dx, 2, Fa0, fs, st, B, l, rfl, upd_same, ⟨by decide, by decide, F0, F6, hI.pos, by omega, hI.asc, ⟨ys, (s3.trans s4) _ _ hy, LstVs.same (s3.trans s4) (LstVs.same (del_same _ _) hys)⟩, ⟨us, s4 _ _ hl3, h5.same sA⟩, hI.nd, hI.len, fun t ht => ?_⟩, fun H' st' pm keep hW => ⟨rfl, k x H' st' (fun b o e => keep b o (ne_of_none e hxn) (sA _ _ e)) pm hW⟩⟩
      have q := hI.ok t ht
      exact ⟨q.1, by omega, q.2.2⟩
end
end K34
/-! Walks: _law_classes. -/
namespace K34
open PySem PySem.Spec PyProof.Rows L2
open PySem.W (alike alikeAll)
theorem pe_bmK {X : Cx} {e : Expr} (K : PySem.W.Frag) {o : Expr} {es : List Expr} {to : TE} {t : TA} {name : Str} {apos cpos : Pos} {T id : String} {r : V → List V → Hp → VK → Prop} (h : X.K = K) (pa : PlainAttrs T) (slot : Slot T name id) (hty : typeOf (.builtin id) = pure (.type "method_descriptor")) (hm : MtR X id r) (ho : PE X o to) (ha : PA X (e :: es) t)
    (hbase : attributeBase o name X.env (eval o X.env) = eval o X.env := by rfl)
    (hfew : ((backTo cpos (starEach (e :: es) X.env)).all (fun x => !x.1) && (backToKw cpos (keywordEach [] X.env)).all (fun x => x.1.isSome)
      && decide ((e :: es).length + ([] : List Keyword).length + (if ([] : List Keyword).isEmpty then 0 else 1) < 30)) = true := by rfl)
    (hline : (apos.endLine == cpos.line) = true := by rfl) (hs : starEach (e :: es) X.env = (false, eval e X.env) :: starEach es X.env := by rfl) (hplain : (backTo cpos (starEach es X.env)).any (·.1) = false := by rfl) :
    PE X (.Call (.Attribute o name apos) (e :: es) [] cpos) (tBM K T r to t) := by
  subst h
  exact pe_bm pa slot hty hm ho ha hbase hfew hline hs hplain
theorem idxD {X : Cx} (K : PySem.W.Frag) (h : X.K = K) (hu : X.A.units + 65 < cLine) : MtR X "list.index" (rIndexD K) := h ▸ mt_indexD hu
theorem depthAllD : ∀ ks : List NestedKey, PyData.depthAll (NestedKey.datas ks) = NestedKey.depthAll ks
  | [] => rfl
  | k :: ks => by
    simp only [NestedKey.datas, PyData.depthAll, NestedKey.depthAll]
    rw [data_depth k, depthAllD ks]
theorem shaped_list {H : Hp} {ks : List NestedKey} {xs : List V} (q : KeyVs H ks xs) (h : ∀ k ∈ ks, k.depth ≤ 8) : SeqAt.shaped (.list (NestedKey.datas ks)) = true := by
  show ((PyData.list (NestedKey.datas ks)).canLay0 && decide ((PyData.list (NestedKey.datas ks)).depth ≤ 64)) = true
  rw [Bool.and_eq_true]
  refine ⟨?_, decide_eq_true ?_⟩
  · simp only [PyData.canLay0]
    exact KeyVs.lay q
  · simp only [PyData.depth]
    rw [depthAllD]
    have := depthAll_le h
    omega
theorem idx_before {α : Type} [BEq α] [LawfulBEq α] {xs : List α} {a : α} {m : Nat} (h : m < xs.idxOf a) (hm : m < xs.length) : xs[m] ≠ a := fun e => by
  have q := List.not_of_lt_findIdx (p := (· == a)) (xs := xs) (i := m) h
  simp [e] at q
/-- the reading of order.index(key) -/
theorem index_key {K : PySem.W.Frag} {H : Hp} {O : Addr} {ys : List V} {ks : List NestedKey} {k : NestedKey} {y : V} {Q : VK} (hO : H O = some (.lst ys)) (hk : KeyVs H ks ys) (hd : ∀ k ∈ ks, k.depth ≤ 8) (hy : KeyV H k y) (hm : k ∈ ks) (q : Q (.int ((ks.idxOf k : Nat) : Int)) H) : rIndexD K (.ref O) [y] H Q := by
  have hl := List.idxOf_lt_length_iff.mpr hm
  have e0 := List.getElem_idxOf hl
  refine ⟨O, y, k.data, NestedKey.datas ks, ks.idxOf k, k.data, rfl, rfl, .lst (SqL.of hO) hk.dp, hy.dp, shaped_list hk hd, hy.shaped (Nat.le_trans (hd k hm) (by decide)), ?_, ?_, fun m z' hm' hz => ?_, q⟩
  · rw [datas_map, List.getElem?_map, List.getElem?_eq_getElem hl, e0]
    rfl
  · rw [eqv_dec]
    exact decide_eq_true rfl
  · rw [datas_map, List.getElem?_map] at hz
    have hlm : m < ks.length := by omega
    rw [List.getElem?_eq_getElem hlm] at hz
    have ez : ks[m].data = z' := Option.some.inj hz
    rw [← ez, eqv_dec]
    refine decide_eq_false fun e => ?_
    exact idx_before hm' hlm e
/-- one kind, behind the steps -/
theorem OneKind.beh {n : Nat} {st : List St3} {now : List NestedKey} (h : OneKind now) (ok : OkSt n st) (hl : now.length = n) (s l : Nat) : OneKind (beh st now s l) := by
  rcases h with ⟨ns, rfl⟩ | h
  · refine .inl ⟨(fol st s l).map fun e => ns.getD e 0, ?_⟩
    rw [List.map_map]
    exact List.map_congr_left fun e _ => getD_num ns e
  · exact .inr fun k hk => h k (beh_mem ok hl hk)
theorem facts_alk (fs : List (List Int)) : Alk (fs.map tupk) := by
  have nn : ∀ r r' : List Int, alikeAll (NestedKey.datas (r.map NestedKey.num)) (NestedKey.datas (r'.map NestedKey.num)) = true := by
    intro r r'
    refine alike_lists fun a ha b hb => ?_
    obtain ⟨i, _, rfl⟩ := List.mem_map.mp ha
    obtain ⟨j, _, rfl⟩ := List.mem_map.mp hb
    rfl
  intro a ha b hb
  obtain ⟨r, _, rfl⟩ := List.mem_map.mp ha
  obtain ⟨r', _, rfl⟩ := List.mem_map.mp hb
  exact alike_tup (nn r r')
end K34
/-! Walks: _law_classes. -/
namespace K34
open PySem PySem.Spec PyProof.Rows L2
theorem idx_num (c : Int) : ∀ xs : List Int, (xs.map NestedKey.num).idxOf (NestedKey.num c) = xs.idxOf c
  | [] => rfl
  | x :: xs => by
    rw [List.map_cons, List.idxOf_cons, List.idxOf_cons, idx_num c xs]
    by_cases h : x = c
    · rw [h]
      simp
    · have h1 : (x == c) = false := by simpa using h
      have h2 : (NestedKey.num x == NestedKey.num c) = false := by simpa using h
      rw [h1, h2]
theorem fa_unnum {W : Wo} {c : List Int} {k : Nat} (h : Fa W (c.map NestedKey.num) k) : Fa W c k := by
  have hl : c.length = W.n := by
    have q := h.1
    rw [List.length_map] at q
    exact q
  refine ⟨hl, fun s t hs ht => ?_⟩
  rw [← h.2 s t hs ht, List.getElem?_map, List.getElem?_map, List.getElem?_eq_getElem (by omega), List.getElem?_eq_getElem (by omega)]
  constructor
  · intro e
    have e' : c[s] = c[t] := Option.some.inj e
    rw [e']
  · intro e
    have e' : NestedKey.num c[s] = NestedKey.num c[t] := Option.some.inj e
    injection e' with e'
    rw [e']
/-- the classes so far -/
structure Now (W : Wo) (now : List NestedKey) (t : Nat) : Prop where
  fa : Fa W now t
  alk : Alk now
  one : OneKind now
  dep : ∀ k ∈ now, k.depth ≤ 1
  num : t = 0 ∨ ∃ cs : List Int, now = cs.map .num
theorem Now.start {fs : List (List Int)} {st : List St3} (ok : OkSt fs.length st) : Now (wo fs st ok) (fs.map tupk) 0 := by
  refine ⟨facts_fa ok, facts_alk fs, .inr fun k hk => ?_, fun k hk => ?_, .inl rfl⟩
  · obtain ⟨r, _, rfl⟩ := List.mem_map.mp hk
    exact ⟨_, rfl⟩
  · obtain ⟨r, _, rfl⟩ := List.mem_map.mp hk
    rw [depth_tupk]
    exact Nat.le_refl _
theorem Now.step {fs : List (List Int)} {st : List St3} (ok : OkSt fs.length st) {now : List NestedKey} {t : Nat} (h : Now (wo fs st ok) now t) :
    Now (wo fs st ok) ((ixs (ss (signs 3 fs.length st now)) (signs 3 fs.length st now)).map .num) (t + 1) := by
  have q : Fa (wo fs st ok) (ixs (ss (signs 3 fs.length st now)) (signs 3 fs.length st now)) (t + 1) := (signs_fa ok (by decide) h.fa h.alk).of_same (ixs_same fun _ hx => mem_ss.mpr hx)
  refine ⟨fa_nums q, alk_nums _, .inl ⟨_, rfl⟩, fun k hk => ?_, .inr ⟨_, rfl⟩⟩
  obtain ⟨i, _, rfl⟩ := List.mem_map.mp hk
  exact Nat.zero_le _
section
variable {P : Program} {w : World} {K : PySem.W.Frag} {mg : Str → Option Value} {base : Heap} {CW CL CT : Addr}
def spCla : Sp := fun vs H Q _ => ∃ (lw : Addr) (fs : List (List Int)) (st : List St3) (gw : GW fs st), vs = [.ref lw] ∧ LAt H lw fs st ∧
  ∀ (p : Addr) (H' : Hp) (cs : List Int), Same H H' → H' p = some (.tup (cs.map V.int)) → Fa (wo fs st gw.ok) cs (fs.length + 1) → Q (.ref p) H'
abbrev NNcla : List Str := ["_law_world_here", "_law_size", "_law_now", "_law_turn", "_law_signs", "_law_state", "_law_behind_here", "_law_order", "_law_sign", "_law_label", "_law_other"]
theorem scCla : FnScope NNcla ["_law_world_here"] (defScope sCla) := ⟨rfl, rfl, rfl, by decide +kernel, rfl, by decide +kernel, by decide +kernel⟩
abbrev scCla1 : Scope := { kind := .function, names := [(".0", .local), ("_law_label", .local), ("tuple", .globalImplicit), ("sorted", .globalImplicit), ("set", .globalImplicit), ("_law_behind", .globalImplicit), ("_law_now", .cell), ("_law_state", .cell), ("_law_world_here", .cell)], isGenerator := false, isCoroutine := false }
theorem ok_cla {f : Addr} {fd : FuncData} (F : Fun K "_law_classes" "_law_classes" sCla f fd) (D : Ds K mg) : FnOk P w K mg base CX0 2 f fd ["_law_world_here"] spCla := by
  have T := D.T
  have GB : FnOk P w K mg base CX0 1 D.f18 D.d18 ["_law_world_here", "_law_state", "_law_label"] spBeh := ok_beh D.beh.F T
  refine F.ok scCla (fun vs H Q E h => ?_) (fun cdv A outer s H vs Q Ex hr h => ?_)
  · obtain ⟨lw, fs, st, gw, rfl, _⟩ := h
    rfl
  · obtain ⟨lw, fs, st, gw, rfl, hL, k⟩ := h
    have hu := hr.units
    have hu65 : (A.deeper (envOfC "_law_classes" (defScope sCla) s.heap.objs.size f cdv)).units + 65 < cLine := by
      have := hr.un
      omega
    refine ⟨_, (pss_cons (ps_set (i := 1) scCla.nd rfl (Or.inl rfl) (pe_callB call_len_seq (by rfl) T.n_len (by decide +kernel) (pa_cons (pe_ix ix_tup (pv 0) pe_int (fun _ _ => rfl)) pa_nil)))
      (pss_cons (ps_set (i := 2) scCla.nd rfl (Or.inr rfl) (pe_lc (own := [("_law_state", 5)]) (g := gName 5) (tt := tYes) rfl scCla.nd (pi_range1 rfl T.n_range (pa_cons (pv 1) pa_nil)) (blkOk_by (own := [("_law_state", 5)]) (N := NNcla) (sc := defScope sCla) (by decide +kernel)) (fun _ _ _ _ _ => pg_name (i := 5) scCla.nd rfl (Or.inl rfl)) (fun _ _ _ _ _ => pts_nil) (fun _ _ _ _ _ => (pe_callTy (tupOf K) (by rfl) T.n_tuple (by decide +kernel) (pa_cons (pe_ix (ixL K) (pe_ix (ixT K) (pv 0) pe_int (fun _ _ => rfl)) (pv 5) (fun _ _ => rfl)) pa_nil)))))
      (pss_cons (ps_for PassesOwn.never rfl (pi_range1 rfl T.n_range (pa_cons (pe_op op_add (pv 1) pe_int) pa_nil)) (pg_name (i := 3) scCla.nd rfl (Or.inl rfl))
        (pss_cons (ps_set (i := 4) scCla.nd rfl (Or.inl rfl) (pe_lst pa_nil))
        (pss_cons (ps_for PassesOwn.never rfl (pi_range1 rfl T.n_range (pa_cons (pv 1) pa_nil)) (pg_name (i := 5) scCla.nd rfl (Or.inr rfl))
          (pss_cons (ps_setLc (i := 6) (own := [("_law_label", 9)]) (g := gName 9) (tt := tYes) rfl scCla.nd rfl rfl (sw_true rfl rfl rfl (by decide +kernel)) (pi_range1 rfl T.n_range (pa_cons pe_int pa_nil)) (blkOk_by (own := [("_law_label", 9)]) (N := NNcla) (sc := defScope sCla) (by decide +kernel)) (fun _ _ _ _ _ => pg_name (i := 9) scCla.nd rfl (Or.inl rfl)) (fun _ _ _ _ _ => pts_nil) (fun _ _ _ _ _ => (pe_callTy (tupOf K) (by rfl) T.n_tuple (by decide +kernel) (pa_cons (pe_callB (sortK P w rfl hu) (by rfl) T.n_sorted (by decide +kernel) (pa_cons (pe_callTy (setK K P w rfl hu) (by rfl) T.n_set (by decide +kernel) (pa_cons (pe_lc (own := [("_law_other", 10)]) (g := gName 10) (tt := tYes) rfl scCla.nd (iLstK K rfl (pe_call GB (hr.mono (by decide)) rfl D.beh.g D.beh.F.kp D.beh.b .nil pass0 (pa_cons (pv 0) (pa_cons (pv 5) (pa_cons (pv 9) pa_nil))))) (blkOk_by (own := [("_law_other", 10)]) (N := NNcla) (sc := scCla1) (by decide +kernel)) (fun _ _ _ _ _ => pg_name (i := 10) scCla.nd rfl (Or.inl rfl)) (fun _ _ _ _ _ => pts_nil) (fun _ _ _ _ _ => (pe_ix (ixL K) (pv 2) (pv 10) (fun _ _ => rfl)))) pa_nil)) pa_nil)) pa_nil))))
          (pss_one (ps_expr (pe_bm PySem.F.plainAttrs_list PySem.F.slot_list_append PySem.F.type_list_append mt_append (pv 4) (pa_cons (pe_tup (pa_cons (pe_ix ix_list (pv 2) (pv 5) (fun _ _ => rfl)) (pa_cons (pe_callTy (tupOf K) (by rfl) T.n_tuple (by decide +kernel) (pa_cons (pv 6) pa_nil)) pa_nil))) pa_nil))))))
        (pss_cons (ps_set (i := 7) scCla.nd rfl (Or.inr rfl) (pe_callB (sortK P w rfl hu) (by rfl) T.n_sorted (by decide +kernel) (pa_cons (pe_callTy (setK K P w rfl hu) (by rfl) T.n_set (by decide +kernel) (pa_cons (pv 4) pa_nil)) pa_nil)))
        (pss_one (ps_set (i := 2) scCla.nd rfl (Or.inr rfl) (pe_lc (own := [("_law_sign", 8)]) (g := gName 8) (tt := tYes) rfl scCla.nd (pi_list (pv 4)) (blkOk_by (own := [("_law_sign", 8)]) (N := NNcla) (sc := defScope sCla) (by decide +kernel)) (fun _ _ _ _ _ => pg_name (i := 8) scCla.nd rfl (Or.inl rfl)) (fun _ _ _ _ _ => pts_nil) (fun _ _ _ _ _ => (pe_bmK K rfl PySem.F.plainAttrs_list PySem.F.slot_list_index PySem.F.type_list_index (idxD K rfl hu65) (pv 7) (pa_cons (pv 8) pa_nil))))))))))
      (pss_cons (ps_set (i := 7) scCla.nd rfl (Or.inr rfl) (pe_lst pa_nil))
      (pss_cons (ps_for PassesOwn.never rfl (pi_list (pv 2)) (pg_name (i := 8) scCla.nd rfl (Or.inl rfl))
        (pss_one (ps_if (pt_cmpR op_notIn_seq (pv 8) (pv 7) (by rfl)) (pss_one (ps_expr (pe_bm PySem.F.plainAttrs_list PySem.F.slot_list_append PySem.F.type_list_append mt_append (pv 7) (pa_cons (pv 8) pa_nil)))) pss_nil)))
      (pss_one (ps_ret (pe_callTy (tupOf K) (by rfl) T.n_tuple (by decide +kernel) (pa_cons (pe_lc (own := [("_law_sign", 8)]) (g := gName 8) (tt := tYes) rfl scCla.nd (pi_list (pv 2)) (blkOk_by (own := [("_law_sign", 8)]) (N := NNcla) (sc := defScope sCla) (by decide +kernel)) (fun _ _ _ _ _ => pg_name (i := 8) scCla.nd rfl (Or.inl rfl)) (fun _ _ _ _ _ => pts_nil) (fun _ _ _ _ _ => (pe_bmK K rfl PySem.F.plainAttrs_list PySem.F.slot_list_index PySem.F.type_list_index (idxD K rfl hu65) (pv 7) (pa_cons (pv 8) pa_nil)))) pa_nil))))))))), ?_⟩
    obtain ⟨sl, tl, vs, us, h1, h2, h3, h4, h5⟩ := hL.ex
    have hvl : vs.length = fs.length := h3.len
    have n12 := gw.n12
    refine ⟨_, rfl, lw, _, _, _, rfl, rfl, SqT.of h1, at_of (j := 0) rfl rfl, sl, _, rfl, .inl (SqL.of h2), ?_⟩
    rw [hvl]
    -- now
    refine ⟨_, rfl, _, rfl, by omega, by omega, fun B hB => ?_⟩
    refine lc_range (lo := 0) (n := fs.length) (fun i H2 => Same H H2 ∧ ∃ ys, H2 B = some (.lst ys) ∧ KeyVs H2 ((fs.take i).map tupk) ys) ⟨same_upd hB, [], upd_same, .nil⟩ ?_ ?_
    · rintro i H2 hi ⟨s2, ys, hy, hys⟩
      have e0 : (0 : Int) + (i : Int) = (i : Int) := Int.zero_add _
      rw [e0]
      obtain ⟨r, hr2⟩ : ∃ r, fs[i]? = some r := ⟨fs[i], List.getElem?_eq_getElem hi⟩
      obtain ⟨b, hb, hb2⟩ := h3.get hr2
      refine ⟨rfl, tyes ⟨_, rfl, lw, _, _, _, rfl, rfl, SqT.of (s2 _ _ h1), at_of (j := 0) rfl rfl, _, rfl, sl, _, _, _, rfl, rfl, SqL.of (s2 _ _ h2), at_of (j := i) rfl hb, b, _, rfl, .inl ⟨SqL.of (s2 _ _ hb2), fun l hl => ?_⟩⟩⟩
      have nBl : B ≠ l := ne_of_none hy hl
      have hy3 : (upd H2 l (.tup (r.map V.int))) B = some (.lst ys) := by
        rw [upd_ne nBl]
        exact hy
      have hyl : ys.length = i := by
        rw [hys.len, List.length_map, List.length_take]
        omega
      refine ⟨ys, hy3, small1000 (by omega), fun b' o e => ?_, _, upd_same, ?_⟩
      · rw [upd_ne (ne_of_none e hB)]
        exact same_upd hl _ _ (s2 _ _ e)
      · rw [take_one hr2, List.map_append]
        exact KeyVs.snoc (keyV_upd (lst_notup hy3) (KeyV.of_ints upd_same)) (keyVs_upd (lst_notup hy3) (hys.same (same_upd hl)))
    rintro H2 ⟨s2, ys, hy, hys⟩
    rw [List.take_length] at hys
    -- the turns
    refine ⟨_, rfl, _, _, rfl, rfl, _, rfl, by omega, by omega, ?_⟩
    show ∃ W, _
    refine for_range (lo := 0) (n := fs.length + 1) (fun t σ H3 => Same H H3 ∧ ∃ (A : Addr) (now : List NestedKey) (xs : List V) (v3 v4 v5 v6 v7 v8 v9 v10 : Option V), σ = [some (.ref lw), some (.int fs.length), some (.ref A), v3, v4, v5, v6, v7, v8, v9, v10] ∧ H3 A = some (.lst xs) ∧ KeyVs H3 now xs ∧ Now (wo fs st gw.ok) now t)
      ⟨s2, B, _, ys, none, none, none, none, none, none, none, none, rfl, hy, hys, Now.start gw.ok⟩ ?_ ?_
    · rintro t σ H3 ht ⟨s3, A, now, xs, v3, v4, v5, v6, v7, v8, v9, v10, rfl, hA, hxs, hN⟩
      have hnl : now.length = fs.length := hN.fa.1
      have hget : ∀ {e : Nat}, e < fs.length → ∃ x, xs[e]? = some x ∧ KeyV H3 (now.getD e (.num 0)) x := fun {e} he => by
        refine hxs.get ?_
        rw [List.getD_eq_getElem?_getD, List.getElem?_eq_getElem (by omega)]
        rfl
      -- signs = []
      refine ⟨Nat.zero_le _, fun S hS => ?_⟩
      have s4 : Same H3 (upd H3 S (.lst [])) := same_upd hS
      have hS4 : (upd H3 S (.lst [])) S = some (.lst []) := upd_same
      generalize upd H3 S (.lst []) = H4 at s4 hS4
      refine ⟨_, rfl, _, rfl, by omega, by omega, for_range (lo := 0) (n := fs.length) (fun i σ H5 => Same H3 H5 ∧ ∃ (zs : List V) (v5 v6 v7 v8 v9 v10 : Option V), H5 S = some (.lst zs) ∧ KeyVs H5 ((List.range i).map (sgn 3 st now)) zs ∧ σ = [some (.ref lw), some (.int fs.length), some (.ref A), some (.int (0 + (t : Int))), some (.ref S), v5, v6, v7, v8, v9, v10])
        ⟨s4, [], v5, v6, v7, v8, v9, v10, hS4, .nil, rfl⟩ ?_ ?_⟩
      · rintro i σ H5 hi ⟨s5, zs, v5, v6, v7, v8, v9, v10, hz, hzs, rfl⟩
        have e0 : (0 : Int) + (i : Int) = (i : Int) := Int.zero_add _
        rw [e0]
        have sH5 : Same H H5 := s3.trans s5
        refine ⟨_, rfl, by decide, by decide, fun B hB => lc_range (lo := 0) (n := 3) (fun j H6 => Same H5 H6 ∧ ∃ bs, H6 B = some (.lst bs) ∧ KeyVs H6 ((List.range j).map fun l => .tup (ss (beh st now i l))) bs) ⟨same_upd hB, [], upd_same, .nil⟩ ?_ ?_⟩
        · rintro j H6 hj ⟨s6, bs, hb, hbs⟩
          have e1 : (0 : Int) + (j : Int) = (j : Int) := Int.zero_add _
          rw [e1]
          refine ⟨rfl, tyes ⟨_, rfl, _, rfl, _, rfl, lw, i, j, fs, st, rfl, (hL.same sH5).same s6, gw.len, fun p H7 s7 hp hl => ?_⟩⟩
          refine ⟨p, rfl, ⟨_, SqL.of hl⟩, fun D2 hD2 => lc_list (xs := natV (fol st i j)) (fun m H8 => Same H7 H8 ∧ ∃ ws, H8 D2 = some (.lst ws) ∧ KeyVs H8 (((fol st i j).take m).map fun e => now.getD e (.num 0)) ws)
            ⟨same_upd hD2, [], upd_same, .nil⟩ (fun m H8 _ ⟨s8, _⟩ => SqL.of (s8 _ _ hl)) ?_ ?_⟩
          · rintro m x H8 hx ⟨s8, ws, hw, hws⟩
            have hm : m < (fol st i j).length := by
              have q := (List.getElem?_eq_some_iff.mp hx).1
              rw [List.length_map] at q
              exact q
            obtain ⟨e, he⟩ : ∃ e, (fol st i j)[m]? = some e := ⟨(fol st i j)[m], List.getElem?_eq_getElem hm⟩
            have ex : x = .int e := by
              have q := natV_get he
              rw [hx] at q
              exact Option.some.inj q
            subst ex
            obtain ⟨x', hx', kx⟩ := hget (gw.ok _ (mem_fol.mp (List.mem_of_getElem? he))).2.2
            have hfew := fol_few gw.ok gw.nd i j
            have hwl : ws.length = m := by
              rw [hws.len, List.length_map, List.length_take]
              omega
            have s38 : Same H3 H8 := ((s5.trans s6).trans s7).trans s8
            refine ⟨rfl, tyes ⟨_, rfl, _, rfl, A, _, _, _, rfl, rfl, SqL.of (s38 _ _ hA), at_of (j := e) rfl hx', ws, hw, small1000 (by omega), fun b o q => ?_, _, upd_same, ?_⟩⟩
            · rw [upd_ne (ne_of_none q hD2)]
              exact s8 _ _ q
            · rw [take_one he, List.map_append]
              exact KeyVs.snoc (keyV_upd (lst_notup hw) (kx.same s38)) (keyVs_upd (lst_notup hw) hws)
          · rintro H8 ⟨s8, ws, hw, hws⟩
            rw [show (natV (fol st i j)).length = (fol st i j).length from List.length_map _, List.take_length] at hws
            have hfew := fol_few gw.ok gw.nd i j
            refine ⟨D2, ws, beh st now i j, rfl, SqL.of hw, hws, (by rw [List.length_map]; omega), hN.one.beh gw.ok hnl i j, fun kk hkk => Nat.le_trans (hN.dep _ (beh_mem gw.ok hnl hkk)) (by decide), fun p3 H9 s9 hp3 hset => ?_⟩
            refine ⟨p3, _, rfl, hset, fun a ha b hb => hN.alk _ (beh_mem gw.ok hnl ha) _ (beh_mem gw.ok hnl hb), fun q ys H10 s10 hq hys hkys => ?_⟩
            refine ⟨q, _, rfl, .inl ⟨SqL.of hys, fun l hl10 => ?_⟩⟩
            have all : Same H6 H10 := ((s7.trans s8).trans s9).trans s10
            have hb10 := all _ _ hb
            have nBl : B ≠ l := ne_of_none hb10 hl10
            have hb11 : (upd H10 l (.tup ys)) B = some (.lst bs) := by
              rw [upd_ne nBl]
              exact hb10
            have sl : Same H10 (upd H10 l (.tup ys)) := same_upd hl10
            have hbl : bs.length = j := by
              rw [hbs.len, List.length_map, List.length_range]
            refine ⟨bs, hb11, small1000 (by omega), fun b o e => ?_, _, upd_same, ?_⟩
            · rw [upd_ne (ne_of_none e hB)]
              exact sl _ _ (all _ _ (s6 _ _ e))
            · rw [List.range_succ, List.map_append]
              exact KeyVs.snoc (keyV_upd (lst_notup hb11) (KeyV.of_tup upd_same (hkys.same sl))) (keyVs_upd (lst_notup hb11) ((hbs.same all).same sl))
        · rintro H6 ⟨s6, bs, hb, hbs⟩
          obtain ⟨x', hx', kx⟩ := hget hi
          have s36 : Same H3 H6 := s5.trans s6
          have hz6 := s6 _ _ hz
          refine ⟨_, rfl, .inl ⟨rfl, _, SqL.of hz6⟩, _, rfl, _, rfl, A, _, _, _, rfl, rfl, SqL.of (s36 _ _ hA), at_of (j := i) rfl hx', _, rfl, B, _, rfl, .inl ⟨SqL.of hb, fun l hl => ⟨(by show 2 ≤ sizeLine; decide), fun p hp => ?_⟩⟩⟩
          have sl : Same H6 (upd H6 l (.tup bs)) := same_upd hl
          have hl7 : (upd H6 l (.tup bs)) l = some (.tup bs) := upd_same
          have hkb : KeyVs (upd H6 l (.tup bs)) ((List.range 3).map fun l => .tup (ss (beh st now i l))) bs := hbs.same sl
          generalize upd H6 l (.tup bs) = H7 at sl hl7 hkb hp
          have sp : Same H7 (upd H7 p (.tup [x', .ref l])) := same_upd hp
          have hp8 : (upd H7 p (.tup [x', .ref l])) p = some (.tup [x', .ref l]) := upd_same
          generalize upd H7 p (.tup [x', .ref l]) = H8 at sp hp8
          have s68 := sl.trans sp
          have hz8 := s68 _ _ hz6
          have hzl : zs.length = i := by rw [hzs.len, List.length_map, List.length_range]
          refine ⟨S, zs, _, rfl, rfl, hz8, small1000 (by omega), fun b o e => ?_, _, _, _, _, _, _, _, upd_same, ?_, rfl⟩
          · rw [upd_ne (ne_of_none e hS)]
            exact s68 _ _ (s36 _ _ e)
          · rw [List.range_succ, List.map_append]
            refine KeyVs.snoc (keyV_upd (lst_notup hz8) ?_) (keyVs_upd (lst_notup hz8) ((hzs.same s6).same s68))
            exact KeyV.of_tup hp8 (.cons (kx.same (s36.trans s68)) (.cons (KeyV.of_tup (sp _ _ hl7) (hkb.same sp)) .nil))
      · rintro σ H5 ⟨s5, zs, v5, v6, v7, v8, v9, v10, hz, hzs, rfl⟩
        have dsg : ∀ kk ∈ signs 3 fs.length st now, kk.depth ≤ 8 := fun kk hk => signs_depth gw.ok hnl hN.dep hk
        -- order
        refine ⟨_, rfl, S, zs, signs 3 fs.length st now, rfl, SqL.of hz, hzs, (by rw [signs_len]; exact n12), .inr fun kk hk => signs_tup hk, dsg, fun p3 H6 s6 hp3 hset => ⟨p3, _, rfl, hset, signs_alk gw.ok hnl hN.alk, fun q ys H7 s7 hq hys hkys => ?_⟩⟩
        have hz7 := s7 _ _ (s6 _ _ hz)
        have hzs7 : KeyVs H7 (signs 3 fs.length st now) zs := (hzs.same s6).same s7
        have s37 : Same H3 H7 := (s5.trans s6).trans s7
        have hzl : zs.length = fs.length := by rw [hzs.len, signs_len]
        -- now
        have step := hN.step gw.ok
        have hsl : (signs 3 fs.length st now).length = fs.length := signs_len
        generalize signs 3 fs.length st now = sg at hkys hzs7 step dsg hsl
        refine ⟨_, rfl, S, rfl, ⟨_, SqL.of hz7⟩, fun B hB => lc_list (xs := zs) (fun i H8 => Same H7 H8 ∧ H8 B = some (.lst ((ixs (ss sg) (sg.take i)).map V.int)))
          ⟨same_upd hB, upd_same⟩ (fun i H8 _ ⟨s8, _⟩ => SqL.of (s8 _ _ hz7)) ?_ ?_⟩
        · rintro i x H8 hx ⟨s8, hB8⟩
          have hi : i < sg.length := by
            rw [hsl, ← hzl]
            exact (List.getElem?_eq_some_iff.mp hx).1
          obtain ⟨kk, hkk⟩ : ∃ kk, sg[i]? = some kk := ⟨sg[i], List.getElem?_eq_getElem hi⟩
          obtain ⟨x', hx', kx⟩ := hzs7.get hkk
          rw [hx] at hx'
          have ex := Option.some.inj hx'
          subst ex
          refine ⟨rfl, tyes ⟨_, rfl, .inl ⟨rfl, _, SqL.of (s8 _ _ hys)⟩, _, rfl, ?_⟩⟩
          dsimp only [tNil]
          refine index_key (s8 _ _ hys) (hkys.same s8) (fun kk hk => dsg _ (mem_ss.mp hk)) (kx.same s8) (mem_ss.mpr (List.mem_of_getElem? hkk)) ⟨_, hB8, ?_, fun b o q => ?_, ?_⟩
          · rw [List.length_map, ixs_len, List.length_take]
            exact small1000 (by omega)
          · rw [upd_ne (ne_of_none q hB)]
            exact s8 _ _ q
          · rw [upd_same, take_one hkk]
            unfold ixs
            rw [List.map_append, List.map_append]
            rfl
        · rintro H8 ⟨s8, hB8⟩
          rw [hzl, ← hsl, List.take_length] at hB8
          exact ⟨s3.trans (s37.trans s8), B, _, _, _, _, _, _, _, _, _, _, rfl, hB8, keyVs_nums.mpr rfl, step⟩
    · rintro σ H3 ⟨s3, A, now, xs, v3, v4, v5, v6, v7, v8, v9, v10, rfl, hA, hxs, hN⟩
      obtain ⟨cs, rfl⟩ : ∃ cs : List Int, now = cs.map .num := hN.num.elim (fun e => absurd e (by omega)) id
      have ex := keyVs_nums.mp hxs
      subst ex
      have hcl : cs.length = fs.length := by
        have q := hN.fa.1
        rw [List.length_map] at q
        exact q
      have hcm : (cs.map V.int).length = cs.length := List.length_map _
      refine ⟨Nat.zero_le _, fun O hO => ?_⟩
      refine ⟨_, rfl, A, rfl, ⟨_, SqL.of (same_upd hO _ _ hA)⟩, for_list (K := K) (xs := cs.map V.int) (fun i σ H5 => Same H3 H5 ∧ H5 O = some (.lst ((dd (cs.take i)).map V.int)) ∧ ∃ v8, σ = [some (.ref lw), some (.int fs.length), some (.ref A), v3, v4, v5, v6, some (.ref O), v8, v9, v10])
        ⟨same_upd hO, upd_same, v8, rfl⟩ (fun i σ H5 _ ⟨s5, _⟩ => SqL.of (s5 _ _ hA)) ?_ ?_⟩
      · rintro i x σ H5 hx ⟨s5, hO5, v8, rfl⟩
        have hi : i < cs.length := by
          rw [← hcm]
          exact (List.getElem?_eq_some_iff.mp hx).1
        obtain ⟨c, hc⟩ : ∃ c, cs[i]? = some c := ⟨cs[i], List.getElem?_eq_getElem hi⟩
        have ex := map_get hc
        rw [hx] at ex
        have ex := Option.some.inj ex
        subst ex
        have step : dd (cs.take (i + 1)) = put (dd (cs.take i)) c := by rw [take_one hc, dd_snoc]
        refine ⟨_, rfl, _, rfl, O, _, rfl, .inl (SqL.of hO5), rfl, flat_ints _, _, rfl, ?_⟩
        rw [inV_ints]
        by_cases hin : c ∈ dd (cs.take i)
        · rw [decide_eq_true hin]
          refine iteF ⟨s5, ?_, _, rfl⟩
          rw [step, put_in hin]
          exact hO5
        · rw [decide_eq_false hin]
          have hdl := dd_len (cs.take i)
          rw [List.length_take] at hdl
          refine iteT ⟨_, rfl, .inl ⟨rfl, _, SqL.of hO5⟩, _, rfl, O, _, _, rfl, rfl, hO5, (by rw [List.length_map]; exact small1000 (by omega)), fun b o e => ?_, ?_, _, rfl⟩
          · rw [upd_ne (ne_of_none e hO)]
            exact s5 _ _ e
          · rw [upd_same, step, put_out hin, List.map_append]
            rfl
      · rintro σ H5 ⟨s5, hO5, v8, rfl⟩
        rw [hcm, List.take_length] at hO5
        have hkO : KeyVs H5 ((dd cs).map .num) ((dd cs).map V.int) := keyVs_nums.mpr rfl
        refine ⟨_, rfl, A, rfl, ⟨_, SqL.of (s5 _ _ hA)⟩, fun B hB => lc_list (xs := cs.map V.int) (fun i H6 => Same H5 H6 ∧ H6 B = some (.lst ((ixs (dd cs) (cs.take i)).map V.int)))
          ⟨same_upd hB, upd_same⟩ (fun i H6 _ ⟨s6, _⟩ => SqL.of (s6 _ _ (s5 _ _ hA))) ?_ ?_⟩
        · rintro i x H6 hx ⟨s6, hB6⟩
          have hi : i < cs.length := by
            rw [← hcm]
            exact (List.getElem?_eq_some_iff.mp hx).1
          obtain ⟨c, hc⟩ : ∃ c, cs[i]? = some c := ⟨cs[i], List.getElem?_eq_getElem hi⟩
          have ex := map_get hc
          rw [hx] at ex
          have ex := Option.some.inj ex
          subst ex
          have hmem : c ∈ dd cs := mem_dd.mpr (List.mem_of_getElem? hc)
          refine ⟨rfl, tyes ⟨_, rfl, .inl ⟨rfl, _, SqL.of (s6 _ _ hO5)⟩, _, rfl, ?_⟩⟩
          dsimp only [tNil]
          refine index_key (k := .num c) (s6 _ _ hO5) (hkO.same s6) (fun kk hk => ?_) rfl (List.mem_map.mpr ⟨c, hmem, rfl⟩) ⟨_, hB6, ?_, fun b o q => ?_, ?_⟩
          · obtain ⟨z, _, rfl⟩ := List.mem_map.mp hk
            exact Nat.zero_le _
          · rw [List.length_map, ixs_len, List.length_take]
            exact small1000 (by omega)
          · rw [upd_ne (ne_of_none q hB)]
            exact s6 _ _ q
          · rw [upd_same, take_one hc, idx_num]
            unfold ixs
            rw [List.map_append, List.map_append]
            rfl
        · rintro H6 ⟨s6, hB6⟩
          rw [hcm, List.take_length] at hB6
          refine ⟨B, _, rfl, .inl ⟨SqL.of hB6, fun l hl => ?_⟩⟩
          exact k l _ (nums cs) (((s3.trans s5).trans s6).trans (same_upd hl)) upd_same (fa_unnum hN.fa).nums
end
end K34
/-! Walks: _law_outcome. An object made in a try's body: its __init__ may raise. -/
namespace K34
open PySem PySem.Spec PyProof.Rows L2
section
variable {X : Cx} {CX : CXT} {k : Nat} {f C : Addr} {fd : FuncData} {ps : List Str} {sp : Sp} {E : L2.St → XK} {x : Str} {p pos : Pos} {e : Expr} {es : List Expr} {t : TA}
theorem run_makeS {pins : List (Addr × Obj)} {σ : L2.St} {H : Hp} {s : Shared} {Q : VK} {us : List Value} {vs : List V} (M : Mk X.K C f) (F : FnOk X.prog X.w X.K X.mg X.base CX k f fd ps sp) (hr : Room (k + 1) X.A) (hb : Binds X.K fd ps [])
    (hx : PassesAt CX X σ (E σ)) (I : Inv X pins σ H s) (r : Vals vs us)
    (h : ∀ x dx, H x = none → H dx = none → dx ≠ x → sp (.ref x :: vs) (upd (upd H dx (.own x)) x (.ins C dx [])) (fun v H2 => v = .non ∧ Q (.ref x) H2) (E σ)) :
    wpAny (model X.prog X.w) X.A (call (.ref C) us) (EP X pins σ Q) X.xe s := by
  have hq := h (s.heap.objs.size + 1) s.heap.objs.size (I.hok.fresh (Nat.le_succ _)) (I.hok.fresh (Nat.le_refl _)) (Nat.ne_of_lt (Nat.lt_succ_self _))
  have I2 := Inv.made (C := C) I
  have r2 : Vals (V.ref (s.heap.objs.size + 1) :: vs) (Value.ref (s.heap.objs.size + 1) :: us) := .cons rfl r
  have hl : (Value.ref (s.heap.objs.size + 1) :: us).length = ps.length := by
    have e := r2.length
    rw [F.len _ _ _ _ hq] at e
    exact e.symm
  have b := hb _ (Value.ref (s.heap.objs.size + 1) :: us) I2.kIn (by rw [List.append_nil]; exact hl)
  rw [List.append_nil] at b
  refine wpAny_call (make_map (f := f) I.kIn M.makes M.init (beq_iff_eq.mp M.fn) (codeAny_mono (F.run _ X.stack _ _ ⟨Value.ref (s.heap.objs.size + 1) :: us, []⟩ (Value.ref (s.heap.objs.size + 1) :: us) _ _ (E σ) (hr.make C us [])
    (I2.env0.make C us []) b r2 hq) fun r s' hq' => ?_))
  cases r with
  | error e => exact hx pins _ _ e s' I2 hq'
  | ok fl =>
    cases fl with
    | ret u =>
      obtain ⟨v, H', I3, rv, ev, q3⟩ := I2.after hq'
      subst ev
      exact ⟨rv, ⟨V.ref (s.heap.objs.size + 1), H', I3, rfl, q3⟩⟩
    | next => exact False.elim hq'
    | brk => exact False.elim hq'
    | cont => exact False.elim hq'
def tMakeS (C : Addr) (sp : Sp) (E : L2.St → XK) (t : TA) : TE := fun σ H Q => t σ H fun vs H1 => ∀ x dx, H1 x = none → H1 dx = none → dx ≠ x → sp (.ref x :: vs) (upd (upd H1 dx (.own x)) x (.ins C dx [])) (fun v H2 => v = .non ∧ Q (.ref x) H2) (E σ)
theorem pe_makeS (M : Mk X.K C f) (F : FnOk X.prog X.w X.K X.mg X.base CX k f fd ps sp) (hr : Room (k + 1) X.A) (hg : Gl X x) (hm : X.mg x = some (.ref C)) (hb : Binds X.K fd ps []) (hx : ∀ σ, PassesAt CX X σ (E σ))
    (ha : PA X (e :: es) t) (hdb : (x == ("__debug__" : Str)) = false := by decide) (he : starEach (e :: es) X.env = (false, eval e X.env) :: starEach es X.env := by rfl) (hpl : (backTo pos (starEach es X.env)).any (·.1) = false := by rfl) :
    PE X (.Call (.Name x p) (e :: es) [] pos) (tMakeS C sp E t) := by
  refine ⟨fun pins s σ H Q I h => ?_⟩
  refine wpAny_Call_Name_kw (ld_glob I hg hm ?_ hdb)
  refine PySem.W.callWith_K (h₀ := X.base) I.ok.mod.kin M.kp (thn (ha.run pos pins s σ H _ I h) fun us s1 ⟨vs, H1, I1, r, q⟩ => ⟨I1.kIn, ?_⟩) he hpl
  exact run_makeS M F hr hb (hx σ) I1 r q
end
section
variable {P : Program} {w : World} {K : PySem.W.Frag} {mg : Str → Option Value} {base : Heap} {CW CL CT : Addr}
def spOutG (CW CL : Addr) : Sp := fun vs H Q _ => ∃ (wa : Addr) (F : Int) (fs : List (List Int)) (st : List St3), vs = [.ref wa] ∧ WAt CW H wa 2 F fs st ∧ GW fs st ∧
  ∀ (g : Addr) (H' : Hp) (Rs : List (List Int)), Same H H' → GM CW CL H' g F fs st Rs → Q (.ref g) H'
def spOutN (CW : Addr) : Sp := fun vs H Q _ => ∃ (wa : Addr) (L F : Int) (fs : List (List Int)) (st : List St3), vs = [.ref wa] ∧ WAt CW H wa L F fs st ∧ 12 < fs.length ∧ ∀ H', Q .non H'
abbrev NNout : List Str := ["_law_world_here"]
theorem scOut : FnScope NNout ["_law_world_here"] (defScope sOut) := ⟨rfl, rfl, rfl, by decide +kernel, rfl, by decide +kernel, by decide +kernel⟩
theorem ok_outG {f : Addr} {fd : FuncData} (F : Fun K "_law_outcome" "_law_outcome" sOut f fd) (D : Ds K mg) : FnOk P w K mg base CX0 6 f fd ["_law_world_here"] (spOutG D.CW D.CL) := by
  have GL : FnOk P w K mg base CX0 4 D.f8 D.d8 ["self", "world"] (spLinG D.CW D.CL) := ok_linG D.lin.F D
  refine F.ok scOut (fun vs H Q E h => ?_) (fun cdv A outer s H vs Q E hr h => ?_)
  · obtain ⟨wa, F, fs, st, rfl, _⟩ := h
    rfl
  · obtain ⟨wa, Fa0, fs, st, rfl, hW, gw, k⟩ := h
    refine ⟨_, pss_one (ps_try_thru0 (pss_one (ps_ret (pe_make D.lin.M GL hr rfl D.T.gL D.lin.b .nil pass0 (pa_cons (pv 0) pa_nil))))), ?_⟩
    refine ⟨_, rfl, ?_⟩
    intro x dx hx hdx ne
    have s4 : Same H (upd (upd H dx (.own x)) x (.ins D.CL dx [])) := fun b o e => by
      rw [upd_ne (ne_of_none e hx), upd_ne (ne_of_none e hdx)]
      exact e
    exact ⟨x, dx, wa, Fa0, fs, st, rfl, upd_same, hW.same s4, gw, fun H' Rs keep hG => ⟨rfl, k x H' Rs (fun b o e => keep b o (ne_of_none e hx) (s4 _ _ e)) hG⟩⟩
theorem ok_outN {f : Addr} {fd : FuncData} (F : Fun K "_law_outcome" "_law_outcome" sOut f fd) (D : Ds K mg) : FnOk P w K mg base CX0 6 f fd ["_law_world_here"] (spOutN D.CW) := by
  have GL : FnOk P w K mg base (L2.CX P w) 4 D.f8 D.d8 ["self", "world"] (spLinN D.CW D.CT) := ok_linN D.lin.F D
  refine F.ok scOut (fun vs H Q E h => ?_) (fun cdv A outer s H vs Q E hr h => ?_)
  · obtain ⟨wa, L, F, fs, st, rfl, _⟩ := h
    rfl
  · obtain ⟨wa, L, Fa0, fs, st, rfl, hW, n12, k⟩ := h
    refine ⟨_, pss_one (ps_try_only (tb := fun W => tRet (tMakeS D.CL (spLinN D.CW D.CT) (WE W) (tCons (tVar 0) tNil))) (ts := fun _ _ _ => tRet (tC .non)) (Wout := fun _ _ _ _ => False) rfl rfl ⟨rfl, by decide, .inl D.er.g⟩ takes0
      (fun W pn xe tk _ => pss_one (ps_ret (pe_makeS D.lin.M GL hr rfl D.T.gL D.lin.b (fun σ => passAt tk σ) (pa_cons (pv 0) pa_nil))))
      (fun _ _ _ _ _ _ _ => pss_one (ps_ret pe_non))), ?_⟩
    refine ⟨_, rfl, ?_⟩
    intro x dx hx hdx ne
    have s4 : Same H (upd (upd H dx (.own x)) x (.ins D.CL dx [])) := fun b o e => by
      rw [upd_ne (ne_of_none e hx), upd_ne (ne_of_none e hdx)]
      exact e
    exact ⟨x, wa, L, Fa0, fs, st, rfl, hW.same s4, n12, true, D.er.e, (fun _ a ha => k _), fun q => nomatch q⟩
end
end K34
/-! Walks: _law_attacked. -/
namespace K34
open PySem PySem.Spec PyProof.Rows L2
theorem eqv_lists (a b : List NestedKey) : PyData.eqv (.list (NestedKey.datas a)) (.list (NestedKey.datas b)) = decide (a = b) := by
  have q := eqv_dec (.tup a) (.tup b)
  simp only [NestedKey.data, PyData.eqv] at q ⊢
  rw [q]
  by_cases h : a = b
  · rw [h]
    simp
  · rw [decide_eq_false h]
    refine decide_eq_false fun e => h ?_
    injection e with e
theorem eqv_ints (a b : List Int) : PyData.eqv (.list (NestedKey.datas (a.map .num))) (.list (NestedKey.datas (b.map .num))) = decide (a = b) := by
  rw [eqv_lists]
  by_cases h : a = b
  · rw [h]
    simp
  · rw [decide_eq_false h]
    exact decide_eq_false fun e => h (ints_inj e)
theorem dp_ints {K : PySem.W.Frag} {H : Hp} {a : Addr} {r : List Int} (h : H a = some (.lst (r.map V.int))) : Dp K H (.ref a) (.list (NestedKey.datas (r.map .num))) := .lst (SqL.of h) (KeyVs.dp (keyVs_nums.mpr rfl))
theorem shaped_ints (r : List Int) : SeqAt.shaped (.list (NestedKey.datas (r.map .num))) = true := shaped_list (H := fun _ => none) (keyVs_nums.mpr rfl) fun k hk => by
  obtain ⟨i, _, rfl⟩ := List.mem_map.mp hk
  exact Nat.zero_le _
/-- one of a written list of two -/
theorem pk_ix {side f s : Nat} (h : side < 2) : atI ([V.int (f : Int), V.int (s : Int)] : List V) (side : Int) = some (.int (pk side f s : Nat)) := by
  refine at_of (j := side) rfl ?_
  rcases (show side = 0 ∨ side = 1 by omega) with e | e <;> rw [e] <;> rfl
theorem pk_ix' {side f s : Nat} (h : side < 2) : atI ([V.int (f : Int), V.int (s : Int)] : List V) (1 - (side : Int)) = some (.int (pk (1 - side) f s : Nat)) := by
  refine at_of (j := 1 - side) (by omega) ?_
  rcases (show side = 0 ∨ side = 1 by omega) with e | e <;> rw [e] <;> rfl
theorem fol_perm {st st' : List St3} (p : st'.Perm st) {s l e : Nat} : e ∈ fol st s l ↔ e ∈ fol st' s l := by rw [mem_fol, mem_fol, p.mem_iff]
section
variable {P : Program} {w : World} {K : PySem.W.Frag} {mg : Str → Option Value} {base : Heap} {CW CL CT : Addr}
def spAtk (CW CL : Addr) : Sp := fun vs H Q _ => ∃ (d lw g : Addr) (f s : Nat) (F : Int) (fs : List (List Int)) (st st' : List St3) (Rs : List (List Int)) (hG : GM CW CL (del H d) g F fs st' Rs), vs = [.ref d, .ref lw, .ref g, .int f, .int s] ∧ Dr H d ∧ LAt (del H d) lw fs st ∧ GW fs st ∧ st'.Perm st ∧
  f < fs.length ∧ s < fs.length ∧ ¬ E (wo fs st' hG.gw.ok) (Rs.length - 1) f s ∧ ∀ (H' : Hp), SD d H H' → Dr H' d → Q (.bl true) H'
abbrev NNatk : List Str := ["_law_draws_here", "_law_world_here", "_law_game", "_law_first", "_law_second", "_law_turn", "_law_step", "_law_side", "_law_label", "_law_end", "_law_here", "_law_there", "_law_answers", "_law_answer"]
theorem scAtk : FnScope NNatk ["_law_draws_here", "_law_world_here", "_law_game", "_law_first", "_law_second"] (defScope sAtk) := ⟨rfl, rfl, rfl, by decide +kernel, rfl, by decide +kernel, by decide +kernel⟩
theorem ok_atk {f : Addr} {fd : FuncData} (F : Fun K "_law_attacked" "_law_attacked" sAtk f fd) (D : Ds K mg) : FnOk P w K mg base CX0 3 f fd ["_law_draws_here", "_law_world_here", "_law_game", "_law_first", "_law_second"] (spAtk D.CW D.CL) := by
  have T := D.T
  have GA : FnOk P w K mg base CX0 2 D.f11 D.d11 ["self", "first", "second"] (spAtt D.CW D.CL) := ok_att D.att.F D
  have GB : FnOk P w K mg base CX0 1 D.f18 D.d18 ["_law_world_here", "_law_state", "_law_label"] spBeh := ok_beh D.beh.F T
  have GT : FnOk P w K mg base CX0 1 D.f14 D.d14 ["_law_draws_here", "_law_limit"] spTak := ok_tak D.tak.F T
  refine F.ok scAtk (fun vs H Q E h => ?_) (fun cdv A outer sh H vs Q Ex hr h => ?_)
  · obtain ⟨d, lw, g, f, s, F, fs, st, st', Rs, hG, rfl, _⟩ := h
    rfl
  · obtain ⟨d, lw, g, f0, s0, Fa0, fs, st, st', Rs, hG, rfl, dr, hL, gw, pm, hf0, hs0, hn0, k⟩ := h
    have hu := hr.units
    refine ⟨_, (pss_cons (ps_for PassesOwn.never rfl (pi_range1 rfl T.n_range (pa_cons (pe_op op_add (pe_callB call_len_seq (by rfl) T.n_len (by decide +kernel) (pa_cons (pe_ix ix_tup (pv 1) pe_int (fun _ _ => rfl)) pa_nil)) pe_int) pa_nil)) (pg_name (i := 5) scAtk.nd rfl (Or.inl rfl))
        (pss_cons (ps_if (pt_cmpR (op_neD hu) (pe_ix ix_list (pe_ix ix_tup (pv 1) pe_int (fun _ _ => rfl)) (pv 3) (fun _ _ => rfl)) (pe_ix ix_list (pe_ix ix_tup (pv 1) pe_int (fun _ _ => rfl)) (pv 4) (fun _ _ => rfl)) (nomark _)) (pss_one (ps_ret pe_bl)) pss_nil)
        (pss_cons (ps_set (i := 6) scAtk.nd rfl (Or.inl rfl) (pe_meth (pv 2) T.clL D.att.M GA (hr.mono (by decide)) D.att.b .nil pass0 (pa_cons (pv 3) (pa_cons (pv 4) pa_nil))))
        (pss_cons (ps_if (PW.pt (pw_or (pt_not (pt_val (pe_callB call_isi (by rfl) T.n_isinstance (by decide +kernel) (pa_cons (pv 6) (pa_cons (pe_bltn (v := .ty "tuple") (by rfl) T.n_tuple (by decide +kernel) rfl) pa_nil))))) (pw_or (pt_cmpR op_ne (pe_callB call_len_seq (by rfl) T.n_len (by decide +kernel) (pa_cons (pv 6) pa_nil)) pe_int (nomark _)) (pw_or1 (pt_cmpR op_notIn_seq (pe_ix ix_tup (pv 6) pe_int (fun _ _ => rfl)) (pe_tup (pa_cons pe_int (pa_cons pe_int pa_nil))) (by rfl)))))) (pss_one (ps_ret pe_bl)) pss_nil)
        (pss_cons (ps_asg (pv 6) (pg_tup rfl (pgs_cons (pg_name (i := 7) scAtk.nd rfl (Or.inl rfl)) (pgs_cons (pg_name (i := 8) scAtk.nd rfl (Or.inl rfl)) (pgs_cons (pg_name (i := 9) scAtk.nd rfl (Or.inl rfl)) pgs_nil)))))
        (pss_cons (ps_set (i := 10) scAtk.nd rfl (Or.inl rfl) (pe_ix ix_list (pe_lst (pa_cons (pv 3) (pa_cons (pv 4) pa_nil))) (pv 7) (fun _ _ => rfl)))
        (pss_cons (ps_set (i := 11) scAtk.nd rfl (Or.inl rfl) (pe_ix ix_list (pe_lst (pa_cons (pv 3) (pa_cons (pv 4) pa_nil))) (pe_op op_sub pe_int (pv 7)) (fun _ _ => rfl)))
        (pss_cons (ps_if (pt_cmpR op_notIn_seq (pv 9) (pe_call GB (hr.mono (by decide)) rfl D.beh.g D.beh.F.kp D.beh.b .nil pass0 (pa_cons (pv 1) (pa_cons (pv 10) (pa_cons (pv 8) pa_nil)))) (by rfl)) (pss_one (ps_ret pe_bl)) pss_nil)
        (pss_cons (ps_set (i := 12) scAtk.nd rfl (Or.inl rfl) (pe_call GB (hr.mono (by decide)) rfl D.beh.g D.beh.F.kp D.beh.b .nil pass0 (pa_cons (pv 1) (pa_cons (pv 11) (pa_cons (pv 8) pa_nil)))))
        (pss_cons (ps_if (pt_cmpR op_eq (pe_callB call_len_seq (by rfl) T.n_len (by decide +kernel) (pa_cons (pv 12) pa_nil)) pe_int (nomark _)) (pss_one (ps_ret pe_bl)) pss_nil)
        (pss_cons (ps_set (i := 13) scAtk.nd rfl (Or.inl rfl) (pe_ix ix_list (pv 12) (pe_call GT (hr.mono (by decide)) rfl D.tak.g D.tak.F.kp D.tak.b .nil pass0 (pa_cons (pv 0) (pa_cons (pe_callB call_len_seq (by rfl) T.n_len (by decide +kernel) (pa_cons (pv 12) pa_nil)) pa_nil))) (fun _ _ => rfl)))
        (pss_cons (ps_set (i := 3) scAtk.nd rfl (Or.inl rfl) (pe_ix ix_list (pe_lst (pa_cons (pv 9) (pa_cons (pv 13) pa_nil))) (pv 7) (fun _ _ => rfl)))
        (pss_one (ps_set (i := 4) scAtk.nd rfl (Or.inl rfl) (pe_ix ix_list (pe_lst (pa_cons (pv 13) (pa_cons (pv 9) pa_nil))) (pv 7) (fun _ _ => rfl))))))))))))))))
      (pss_one (ps_ret pe_bl))), ?_⟩
    have hLf : LAt H lw fs st := hL.same (del_same H d)
    obtain ⟨sl, tl, vs, us, h1, h2, h3, h4, h5⟩ := hLf.ex
    have hvl : vs.length = fs.length := h3.len
    have n12 := gw.n12
    have hRl : Rs.length ≤ fs.length := hG.rs.le
    refine ⟨_, rfl, lw, _, _, _, rfl, rfl, SqT.of h1, at_of (j := 0) rfl rfl, sl, _, rfl, .inl (SqL.of h2), _, _, rfl, rfl, _, rfl, by omega, by omega, ?_⟩
    refine for_range (lo := 0) (n := vs.length + 1) (fun t σ H1 => SD d H H1 ∧ Dr H1 d ∧ ∃ (f s k0 : Nat) (v5 v6 v7 v8 v9 v10 v11 v12 v13 : Option V), σ = [some (.ref d), some (.ref lw), some (.ref g), some (.int f), some (.int s), v5, v6, v7, v8, v9, v10, v11, v12, v13] ∧ f < fs.length ∧ s < fs.length ∧ ¬ E (wo fs st' hG.gw.ok) k0 f s ∧ k0 + t ≤ Rs.length - 1)
      ⟨SD.refl d H, dr, f0, s0, Rs.length - 1, none, none, none, none, none, none, none, none, none, rfl, hf0, hs0, hn0, Nat.le_refl _⟩ ?_ ?_
    · rintro t σ H1 ht ⟨sd1, dr1, f, s, k0, v5, v6, v7, v8, v9, v10, v11, v12, v13, rfl, hf, hs, hn, hk0⟩
      have hL1 : LAt H1 lw fs st := (hL.same sd1).same (del_same H1 d)
      have hG1 : GM D.CW D.CL H1 g Fa0 fs st' Rs := (hG.same sd1).same (del_same H1 d)
      obtain ⟨sl, tl, vs1, us1, m1, m2, m3, m4, m5⟩ := hL1.ex
      obtain ⟨rf, hrf⟩ : ∃ r, fs[f]? = some r := ⟨fs[f], List.getElem?_eq_getElem hf⟩
      obtain ⟨rs, hrs⟩ : ∃ r, fs[s]? = some r := ⟨fs[s], List.getElem?_eq_getElem hs⟩
      obtain ⟨bf, bf1, bf2⟩ := m3.get hrf
      obtain ⟨bs, bs1, bs2⟩ := m3.get hrs
      refine ⟨_, rfl, lw, _, _, _, rfl, rfl, SqT.of m1, at_of (j := 0) rfl rfl, _, rfl, sl, _, _, _, rfl, rfl, SqL.of m2, at_of (j := f) rfl bf1, _, rfl, lw, _, _, _, rfl, rfl, SqT.of m1, at_of (j := 0) rfl rfl, _, rfl, sl, _, _, _, rfl, rfl, SqL.of m2, at_of (j := s) rfl bs1, _, _, dp_ints bf2, dp_ints bs2, shaped_ints _, shaped_ints _, _, rfl, ?_⟩
      rw [eqv_ints]
      by_cases hq : rf = rs
      · rw [decide_eq_true hq]
        refine iteF ?_
        have q0 : E (wo fs st' hG1.gw.ok) 0 f s := by
          show fs.getD f [] = fs.getD s []
          rw [List.getD_eq_getElem?_getD, List.getD_eq_getElem?_getD, hrf, hrs, hq]
        obtain ⟨dxg, wa, rr, xs, g1, _⟩ := hG1.at_.ex
        refine ⟨_, rfl, g, dxg, _, rfl, g1, gfl_no _ _ (by decide +kernel) (by decide +kernel), _, rfl, _, rfl, g, f, s, Fa0, fs, st', Rs, hG1, rfl, hf, hs, q0, fun z => hn (E.le (by omega) z), fun p H2 k' side label e s2 hp hA => ?_⟩
        -- the step is a tuple of three, of a right side
        refine ⟨_, rfl, .ref p, .ty "tuple", .type "tuple", .type "tuple", true, rfl, .ty _, .base (.tup hp), kit_ty (by decide +kernel), _, rfl, iteF ?_⟩
        refine ⟨_, rfl, p, _, rfl, .inr (SqT.of hp), rfl, _, rfl, iteF ?_⟩
        refine ⟨_, rfl, p, _, _, _, rfl, rfl, SqT.of hp, at_of (j := 0) rfl rfl, (by show 2 ≤ sizeLine; decide), fun p2 hp2 => ?_⟩
        have sp2 : Same H2 (upd H2 p2 (.tup [.int 0, .int 1])) := same_upd hp2
        have hp2' : (upd H2 p2 (.tup [.int 0, .int 1])) p2 = some (.tup (([0, 1] : List Int).map V.int)) := upd_same
        generalize upd H2 p2 (.tup [.int 0, .int 1]) = H3 at sp2 hp2'
        refine ⟨p2, _, rfl, .inr (SqT.of hp2'), rfl, flat_ints _, _, rfl, ?_⟩
        rw [inV_ints, decide_eq_true (show (side : Int) ∈ ([0, 1] : List Int) by
          have := hA.side2
          rcases (show side = 0 ∨ side = 1 by omega) with z | z <;> rw [z] <;> decide)]
        refine iteF ?_
        have hp3 := sp2 _ _ hp
        refine ⟨_, rfl, p, _, rfl, SqT.of hp3, rfl, _, _, rfl, _, _, rfl, _, _, rfl, rfl, ?_⟩
        -- here, there
        refine ⟨_, rfl, _, rfl, (by show 2 ≤ sizeLine; decide), fun b1 hb1 => ?_⟩
        have sb1 : Same H3 (upd H3 b1 (.lst [.int (f : Int), .int (s : Int)])) := same_upd hb1
        have hb1' : (upd H3 b1 (.lst [.int (f : Int), .int (s : Int)])) b1 = some (.lst [.int (f : Int), .int (s : Int)]) := upd_same
        generalize upd H3 b1 (.lst [.int (f : Int), .int (s : Int)]) = H4 at sb1 hb1'
        refine ⟨_, rfl, b1, _, _, _, rfl, rfl, SqL.of hb1', pk_ix hA.side2, ?_⟩
        refine ⟨_, rfl, _, rfl, (by show 2 ≤ sizeLine; decide), fun b2 hb2 => ?_⟩
        have sb2 : Same H4 (upd H4 b2 (.lst [.int (f : Int), .int (s : Int)])) := same_upd hb2
        have hb2' : (upd H4 b2 (.lst [.int (f : Int), .int (s : Int)])) b2 = some (.lst [.int (f : Int), .int (s : Int)]) := upd_same
        generalize upd H4 b2 (.lst [.int (f : Int), .int (s : Int)]) = H5 at sb2 hb2'
        refine ⟨_, rfl, _, _, rfl, rfl, b2, _, _, _, rfl, rfl, SqL.of hb2', pk_ix' hA.side2, ?_⟩
        have s15 : Same H1 H5 := ((s2.trans sp2).trans sb1).trans sb2
        -- the step is one of the world
        refine ⟨_, rfl, _, rfl, _, rfl, _, rfl, lw, pk side f s, label, fs, st, rfl, hL1.same s15, gw.len, fun q H6 s6 hq6 hql => ⟨q, _, rfl, .inl (SqL.of hql), rfl, flat_nats _, _, rfl, ?_⟩⟩
        have hin : e ∈ fol st (pk side f s) label := (fol_perm pm).mpr hA.inn
        rw [inV_nats, decide_eq_true hin]
        refine iteF ?_
        refine ⟨_, rfl, _, rfl, _, rfl, lw, pk (1 - side) f s, label, fs, st, rfl, (hL1.same s15).same s6, gw.len, fun a H7 s7 ha7 hal => ?_⟩
        have hno : ∀ o ∈ fol st (pk (1 - side) f s) label, ¬ E (wo fs st' hG1.gw.ok) k' e o := fun o ho => hA.no o ((fol_perm pm).mp ho)
        have hin7 : ∀ o ∈ fol st (pk (1 - side) f s) label, o < fs.length := fun o ho => (gw.ok _ (mem_fol.mp ho)).2.2
        have hen : e < fs.length := (gw.ok _ (mem_fol.mp hin)).2.2
        have s17 : Same H1 H7 := (s15.trans s6).trans s7
        have sdH7 : SD d H H7 := sd1.trans (SD.of s17)
        have dr7 : Dr H7 d := dr1.same s17
        generalize fol st (pk (1 - side) f s) label = as at hal hno hin7
        have hll : (natV as).length = as.length := List.length_map _
        refine ⟨_, rfl, a, _, rfl, .inl (SqL.of hal), rfl, _, rfl, ?_⟩
        by_cases hz : as = []
        · have e1 : decide (V.int ((natV as).length : Int) = V.int 0) = true := decide_eq_true (by rw [hz]; rfl)
          rw [e1]
          exact iteT (k _ sdH7 dr7)
        · have hpos : 0 < as.length := List.length_pos_iff.mpr hz
          have e1 : decide (V.int ((natV as).length : Int) = V.int 0) = false := decide_eq_false fun q => by
            injection q with q
            omega
          rw [e1]
          refine iteF ?_
          obtain ⟨ns7, hd7⟩ := dr7
          refine ⟨_, rfl, _, rfl, _, rfl, a, _, rfl, .inl (SqL.of hal), d, _, ns7, rfl, by omega, hd7, fun ms r r0 r1 => ?_⟩
          have nad : a ≠ d := fun z => by
            rw [z, hd7] at hal
            have q := HO.lst.inj (Option.some.inj hal)
            have q2 := hin7
            rw [z] at ha7
            have dq := (((dr1.same s15).same s6) : Dr H6 d)
            obtain ⟨_, dq⟩ := dq
            rw [dq] at ha7
            cases ha7
          have hal8 : (upd H7 d (.lst (ms.map V.int))) a = some (.lst (natV as)) := by
            rw [upd_ne nad]
            exact hal
          have sd8 : SD d H (upd H7 d (.lst (ms.map V.int))) := sdH7.updd
          have dr8 : Dr (upd H7 d (.lst (ms.map V.int))) d := Dr.set
          generalize upd H7 d (.lst (ms.map V.int)) = H8 at hal8 sd8 dr8
          have hrl : r.toNat < as.length := by omega
          obtain ⟨o, ho⟩ : ∃ o, as[r.toNat]? = some o := ⟨as[r.toNat], List.getElem?_eq_getElem hrl⟩
          have hoin := List.mem_of_getElem? ho
          refine ⟨a, _, _, _, rfl, rfl, SqL.of hal8, at_of (j := r.toNat) (by omega) (natV_get ho), ?_⟩
          -- the next two states
          refine ⟨_, rfl, _, rfl, (by show 2 ≤ sizeLine; decide), fun c1 hc1 => ?_⟩
          have sc1 : Same H8 (upd H8 c1 (.lst [.int (e : Int), .int (o : Int)])) := same_upd hc1
          have hc1' : (upd H8 c1 (.lst [.int (e : Int), .int (o : Int)])) c1 = some (.lst [.int (e : Int), .int (o : Int)]) := upd_same
          generalize upd H8 c1 (.lst [.int (e : Int), .int (o : Int)]) = H9 at sc1 hc1'
          refine ⟨_, rfl, c1, _, _, _, rfl, rfl, SqL.of hc1', pk_ix hA.side2, ?_⟩
          refine ⟨_, rfl, _, rfl, (by show 2 ≤ sizeLine; decide), fun c2 hc2 => ?_⟩
          have sc2 : Same H9 (upd H9 c2 (.lst [.int (o : Int), .int (e : Int)])) := same_upd hc2
          have hc2' : (upd H9 c2 (.lst [.int (o : Int), .int (e : Int)])) c2 = some (.lst [.int (o : Int), .int (e : Int)]) := upd_same
          generalize upd H9 c2 (.lst [.int (o : Int), .int (e : Int)]) = H10 at sc2 hc2'
          refine ⟨_, rfl, c2, _, _, _, rfl, rfl, SqL.of hc2', pk_ix hA.side2, ?_⟩
          refine ⟨sd8.trans (SD.of (sc1.trans sc2)), (dr8.same sc1).same sc2, pk side e o, pk side o e, k', _, _, _, _, _, _, _, _, _, rfl, pk_lt hen (hin7 o hoin), pk_lt (hin7 o hoin) hen, ?_, ?_⟩
          · have q := hno o hoin
            rcases (show side = 0 ∨ side = 1 by have := hA.side2; omega) with z | z
            · rw [z]
              exact q
            · rw [z]
              exact fun w => q w.symm
          · have := hA.first k0 hn
            omega
      · rw [decide_eq_false hq]
        exact iteT (k _ sd1 dr1)
    · rintro σ H1 ⟨sd1, dr1, f, s, k0, v5, v6, v7, v8, v9, v10, v11, v12, v13, rfl, hf, hs, hn, hk0⟩
      exfalso
      omega
end
end K34
/-! Walks: _law_answered. -/
namespace K34
open PySem PySem.Spec PyProof.Rows L2
section
variable {P : Program} {w : World} {K : PySem.W.Frag} {mg : Str → Option Value} {base : Heap} {CW CL CT : Addr}
def spAwd (CW CL : Addr) : Sp := fun vs H Q _ => ∃ (d lw g c : Addr) (f s m : Nat) (F : Int) (fs : List (List Int)) (st st' : List St3) (Rs : List (List Int)) (cs : List Int) (hG : GM CW CL (del H d) g F fs st' Rs) (gw : GW fs st), vs = [.ref d, .ref lw, .ref g, .int f, .int s, .ref c] ∧ Dr H d ∧ LAt (del H d) lw fs st ∧ st'.Perm st ∧
  (del H d) c = some (.tup (cs.map V.int)) ∧ Fa (wo fs st gw.ok) cs m ∧ Rs.length - 1 ≤ m ∧ f < fs.length ∧ s < fs.length ∧ E (wo fs st' hG.gw.ok) (Rs.length - 1) f s ∧ ∀ (H' : Hp), SD d H H' → Dr H' d → Q (.bl true) H'
abbrev NNawd : List Str := ["_law_draws_here", "_law_world_here", "_law_game", "_law_first", "_law_second", "_law_classes_here", "_law_turn", "_law_side", "_law_label", "_law_here", "_law_ends", "_law_end", "_law_answer"]
theorem scAwd : FnScope NNawd ["_law_draws_here", "_law_world_here", "_law_game", "_law_first", "_law_second", "_law_classes_here"] (defScope sAwd) := ⟨rfl, rfl, rfl, by decide +kernel, rfl, by decide +kernel, by decide +kernel⟩
theorem ok_awd {f : Addr} {fd : FuncData} (F : Fun K "_law_answered" "_law_answered" sAwd f fd) (D : Ds K mg) : FnOk P w K mg base CX0 3 f fd ["_law_draws_here", "_law_world_here", "_law_game", "_law_first", "_law_second", "_law_classes_here"] (spAwd D.CW D.CL) := by
  have T := D.T
  have GA : FnOk P w K mg base CX0 2 D.f12 D.d12 ["self", "first", "second", "side", "label", "end"] (spAns D.CW D.CL) := ok_ans D.ans.F D
  have GB : FnOk P w K mg base CX0 1 D.f18 D.d18 ["_law_world_here", "_law_state", "_law_label"] spBeh := ok_beh D.beh.F T
  have GT : FnOk P w K mg base CX0 1 D.f14 D.d14 ["_law_draws_here", "_law_limit"] spTak := ok_tak D.tak.F T
  refine F.ok scAwd (fun vs H Q E h => ?_) (fun cdv A outer sh H vs Q Ex hr h => ?_)
  · obtain ⟨d, lw, g, c, f, s, m, F, fs, st, st', Rs, cs, hG, gw, rfl, _⟩ := h
    rfl
  · obtain ⟨d, lw, g, c, f0, s0, m, Fa0, fs, st, st', Rs, cs, hG, gw, rfl, dr, hL, pm, hc, hF, hm, hf0, hs0, hE0, k⟩ := h
    refine ⟨_, (pss_cons (ps_for PassesOwn.never rfl (pi_range1 rfl T.n_range (pa_cons pe_int pa_nil)) (pg_name (i := 6) scAwd.nd rfl (Or.inl rfl))
        (pss_cons (ps_set (i := 7) scAwd.nd rfl (Or.inl rfl) (pe_call GT (hr.mono (by decide)) rfl D.tak.g D.tak.F.kp D.tak.b .nil pass0 (pa_cons (pv 0) (pa_cons pe_int pa_nil))))
        (pss_cons (ps_set (i := 8) scAwd.nd rfl (Or.inl rfl) (pe_call GT (hr.mono (by decide)) rfl D.tak.g D.tak.F.kp D.tak.b .nil pass0 (pa_cons (pv 0) (pa_cons pe_int pa_nil))))
        (pss_cons (ps_set (i := 9) scAwd.nd rfl (Or.inl rfl) (pe_ix ix_list (pe_lst (pa_cons (pv 3) (pa_cons (pv 4) pa_nil))) (pv 7) (fun _ _ => rfl)))
        (pss_cons (ps_set (i := 10) scAwd.nd rfl (Or.inl rfl) (pe_call GB (hr.mono (by decide)) rfl D.beh.g D.beh.F.kp D.beh.b .nil pass0 (pa_cons (pv 1) (pa_cons (pv 9) (pa_cons (pv 8) pa_nil)))))
        (pss_one (ps_if (pt_cmpR op_gt (pe_callB call_len_seq (by rfl) T.n_len (by decide +kernel) (pa_cons (pv 10) pa_nil)) pe_int (nomark _)) (pss_cons (ps_set (i := 11) scAwd.nd rfl (Or.inl rfl) (pe_ix ix_list (pv 10) (pe_call GT (hr.mono (by decide)) rfl D.tak.g D.tak.F.kp D.tak.b .nil pass0 (pa_cons (pv 0) (pa_cons (pe_callB call_len_seq (by rfl) T.n_len (by decide +kernel) (pa_cons (pv 10) pa_nil)) pa_nil))) (fun _ _ => rfl)))
          (pss_cons (ps_set (i := 12) scAwd.nd rfl (Or.inl rfl) (pe_meth (pv 2) T.clL D.ans.M GA (hr.mono (by decide)) D.ans.b .nil pass0 (pa_cons (pv 3) (pa_cons (pv 4) (pa_cons (pv 7) (pa_cons (pv 8) (pa_cons (pv 11) pa_nil)))))))
          (pss_cons (ps_if (PW.pt (pw_or (pt_cmpR op_notIn_seq (pv 12) (pe_call GB (hr.mono (by decide)) rfl D.beh.g D.beh.F.kp D.beh.b .nil pass0 (pa_cons (pv 1) (pa_cons (pe_ix ix_list (pe_lst (pa_cons (pv 3) (pa_cons (pv 4) pa_nil))) (pe_op op_sub pe_int (pv 7)) (fun _ _ => rfl)) (pa_cons (pv 8) pa_nil)))) (by rfl)) (pw_or1 (pt_cmpR op_ne (pe_ix ix_tup (pv 5) (pv 12) (fun _ _ => rfl)) (pe_ix ix_tup (pv 5) (pv 11) (fun _ _ => rfl)) (nomark _))))) (pss_one (ps_ret pe_bl)) pss_nil)
          (pss_cons (ps_set (i := 3) scAwd.nd rfl (Or.inl rfl) (pe_ix ix_list (pe_lst (pa_cons (pv 11) (pa_cons (pv 12) pa_nil))) (pv 7) (fun _ _ => rfl)))
          (pss_one (ps_set (i := 4) scAwd.nd rfl (Or.inl rfl) (pe_ix ix_list (pe_lst (pa_cons (pv 12) (pa_cons (pv 11) pa_nil))) (pv 7) (fun _ _ => rfl)))))))) pss_nil)))))))
      (pss_one (ps_ret pe_bl))), ?_⟩
    refine ⟨_, rfl, by decide, by decide, for_range (lo := 0) (n := 20) (fun t σ H1 => SD d H H1 ∧ Dr H1 d ∧ ∃ (f s : Nat) (v6 v7 v8 v9 v10 v11 v12 : Option V), σ = [some (.ref d), some (.ref lw), some (.ref g), some (.int f), some (.int s), some (.ref c), v6, v7, v8, v9, v10, v11, v12] ∧ f < fs.length ∧ s < fs.length ∧ E (wo fs st' hG.gw.ok) (Rs.length - 1) f s)
      ⟨SD.refl d H, dr, f0, s0, none, none, none, none, none, none, none, rfl, hf0, hs0, hE0⟩ ?_ ?_⟩
    · rintro t σ H1 ht ⟨sd1, ⟨ns1, hd1⟩, f, s, v6, v7, v8, v9, v10, v11, v12, rfl, hf, hs, hE⟩
      -- side, label
      refine ⟨_, rfl, d, 2, ns1, rfl, by decide, hd1, fun ms1 r r0 r1 => ?_⟩
      obtain ⟨side, rfl⟩ : ∃ side : Nat, r = (side : Int) := ⟨r.toNat, by omega⟩
      have hside : side < 2 := by omega
      refine ⟨_, rfl, d, 2, ms1, rfl, by decide, upd_same, fun ms2 r r0 r1 => ?_⟩
      obtain ⟨label, rfl⟩ : ∃ label : Nat, r = (label : Int) := ⟨r.toNat, by omega⟩
      rw [upd_upd]
      have sd2 : SD d H (upd H1 d (.lst (ms2.map V.int))) := sd1.updd
      have dr2 : Dr (upd H1 d (.lst (ms2.map V.int))) d := Dr.set
      generalize upd H1 d (.lst (ms2.map V.int)) = H2 at sd2 dr2
      have hL2 : LAt H2 lw fs st := (hL.same sd2).same (del_same H2 d)
      -- here, ends
      refine ⟨_, rfl, _, rfl, (by show 2 ≤ sizeLine; decide), fun b1 hb1 => ?_⟩
      have sb1 : Same H2 (upd H2 b1 (.lst [.int (f : Int), .int (s : Int)])) := same_upd hb1
      have hb1' : (upd H2 b1 (.lst [.int (f : Int), .int (s : Int)])) b1 = some (.lst [.int (f : Int), .int (s : Int)]) := upd_same
      generalize upd H2 b1 (.lst [.int (f : Int), .int (s : Int)]) = H3 at sb1 hb1'
      refine ⟨_, rfl, b1, _, _, _, rfl, rfl, SqL.of hb1', pk_ix hside, ?_⟩
      refine ⟨_, rfl, _, rfl, _, rfl, lw, pk side f s, label, fs, st, rfl, hL2.same sb1, gw.len, fun a H4 s4 ha4 hal => ?_⟩
      have s24 : Same H2 H4 := sb1.trans s4
      have dr4 : Dr H4 d := dr2.same s24
      have nad : a ≠ d := by
        obtain ⟨_, dq⟩ := dr2.same sb1
        exact new_ne dq ha4
      have hll : (natV (fol st (pk side f s) label)).length = (fol st (pk side f s) label).length := List.length_map _
      refine ⟨_, rfl, a, _, rfl, .inl (SqL.of hal), _, _, rfl, rfl, _, rfl, ?_⟩
      rw [hll]
      by_cases hz : 0 < (fol st (pk side f s) label).length
      · rw [decide_eq_true (show (0 : Int) < ((fol st (pk side f s) label).length : Int) by omega)]
        refine iteT ?_
        obtain ⟨ns4, hd4⟩ := dr4
        refine ⟨_, rfl, _, rfl, _, rfl, a, _, rfl, .inl (SqL.of hal), d, _, ns4, rfl, by omega, hd4, fun ms r r0 r1 => ?_⟩
        have hal5 : (upd H4 d (.lst (ms.map V.int))) a = some (.lst (natV (fol st (pk side f s) label))) := by
          rw [upd_ne nad]
          exact hal
        have sd5 : SD d H (upd H4 d (.lst (ms.map V.int))) := SD.updd (sd2.trans (SD.of s24))
        have dr5 : Dr (upd H4 d (.lst (ms.map V.int))) d := Dr.set
        generalize upd H4 d (.lst (ms.map V.int)) = H5 at hal5 sd5 dr5
        have hrl : r.toNat < (fol st (pk side f s) label).length := by omega
        obtain ⟨e, he⟩ : ∃ e, (fol st (pk side f s) label)[r.toNat]? = some e := ⟨(fol st (pk side f s) label)[r.toNat], List.getElem?_eq_getElem hrl⟩
        have hein := List.mem_of_getElem? he
        have hen : e < fs.length := (gw.ok _ (mem_fol.mp hein)).2.2
        refine ⟨a, _, _, _, rfl, rfl, SqL.of hal5, at_of (j := r.toNat) (by omega) (natV_get he), ?_⟩
        -- the answer
        have hG5 : GM D.CW D.CL H5 g Fa0 fs st' Rs := (hG.same sd5).same (del_same H5 d)
        have hL5 : LAt H5 lw fs st := (hL.same sd5).same (del_same H5 d)
        have hc5 : H5 c = some (.tup (cs.map V.int)) := del_same H5 d _ _ (sd5 _ _ hc)
        obtain ⟨dxg, wa, rr, xs, g1, _⟩ := hG5.at_.ex
        refine ⟨_, rfl, g, dxg, _, rfl, g1, gfl_no _ _ (by decide +kernel) (by decide +kernel), _, rfl, _, rfl, _, rfl, _, rfl, _, rfl, g, f, s, side, label, e, Fa0, fs, st', Rs, hG5, rfl, hf, hs, hside, hE, (fol_perm pm).mp hein, fun H6 o s6 ho hEo => ?_⟩
        have hoin : o ∈ fol st (pk (1 - side) f s) label := (fol_perm pm).mpr ho
        have hon : o < fs.length := (gw.ok _ (mem_fol.mp hoin)).2.2
        refine ⟨_, rfl, _, rfl, _, rfl, _, rfl, (by show 2 ≤ sizeLine; decide), fun b2 hb2 => ?_⟩
        have sb2 : Same H6 (upd H6 b2 (.lst [.int (f : Int), .int (s : Int)])) := same_upd hb2
        have hb2' : (upd H6 b2 (.lst [.int (f : Int), .int (s : Int)])) b2 = some (.lst [.int (f : Int), .int (s : Int)]) := upd_same
        generalize upd H6 b2 (.lst [.int (f : Int), .int (s : Int)]) = H7 at sb2 hb2'
        refine ⟨_, rfl, _, _, rfl, rfl, b2, _, _, _, rfl, rfl, SqL.of hb2', pk_ix' hside, _, rfl, lw, pk (1 - side) f s, label, fs, st, rfl, (hL5.same s6).same sb2, gw.len, fun q H8 s8 hq8 hql => ⟨q, _, rfl, .inl (SqL.of hql), rfl, flat_nats _, _, rfl, ?_⟩⟩
        rw [inV_nats, decide_eq_true hoin]
        have s58 : Same H5 H8 := (s6.trans sb2).trans s8
        have hc8 := s58 _ _ hc5
        refine iteF ⟨_, rfl, _, rfl, c, _, _, _, rfl, rfl, SqT.of hc8, at_of (j := o) rfl (map_get (hF.cell hon)), _, rfl, _, rfl, c, _, _, _, rfl, rfl, SqT.of hc8, at_of (j := e) rfl (map_get (hF.cell hen)), rfl, _, rfl, ?_⟩
        have hEq : cs.getD o 0 = cs.getD e 0 := by
          refine (hF.cell_iff hon hen).mpr ?_
          have q1 : E (wo fs st' hG.gw.ok) m e o := (hG.rs.stay.iff hm hen hon).mpr hEo
          exact ((E_perm gw.ok hG.gw.ok pm m e o).mpr q1).symm
        rw [hEq, decide_eq_true rfl]
        refine iteF ?_
        -- the next two states
        refine ⟨_, rfl, _, rfl, (by show 2 ≤ sizeLine; decide), fun c1 hc1 => ?_⟩
        have sc1 : Same H8 (upd H8 c1 (.lst [.int (e : Int), .int (o : Int)])) := same_upd hc1
        have hc1' : (upd H8 c1 (.lst [.int (e : Int), .int (o : Int)])) c1 = some (.lst [.int (e : Int), .int (o : Int)]) := upd_same
        generalize upd H8 c1 (.lst [.int (e : Int), .int (o : Int)]) = H9 at sc1 hc1'
        refine ⟨_, rfl, c1, _, _, _, rfl, rfl, SqL.of hc1', pk_ix hside, ?_⟩
        refine ⟨_, rfl, _, rfl, (by show 2 ≤ sizeLine; decide), fun c2 hc2 => ?_⟩
        have sc2 : Same H9 (upd H9 c2 (.lst [.int (o : Int), .int (e : Int)])) := same_upd hc2
        have hc2' : (upd H9 c2 (.lst [.int (o : Int), .int (e : Int)])) c2 = some (.lst [.int (o : Int), .int (e : Int)]) := upd_same
        generalize upd H9 c2 (.lst [.int (o : Int), .int (e : Int)]) = H10 at sc2 hc2'
        refine ⟨_, rfl, c2, _, _, _, rfl, rfl, SqL.of hc2', pk_ix hside, ?_⟩
        have s510 : Same H5 H10 := (s58.trans sc1).trans sc2
        refine ⟨sd5.trans (SD.of s510), dr5.same s510, pk side e o, pk side o e, _, _, _, _, _, _, _, rfl, pk_lt hen hon, pk_lt hon hen, ?_⟩
        rcases (show side = 0 ∨ side = 1 by omega) with z | z
        · rw [z]
          exact hEo
        · rw [z]
          exact hEo.symm
      · rw [decide_eq_false (show ¬ (0 : Int) < ((fol st (pk side f s) label).length : Int) by omega)]
        exact iteF ⟨sd2.trans (SD.of s24), dr4, f, s, _, _, _, _, _, _, _, rfl, hf, hs, hE⟩
    · rintro σ H1 ⟨sd1, dr1, f, s, v6, v7, v8, v9, v10, v11, v12, rfl, hf, hs, hE⟩
      exact k _ sd1 dr1
end
end K34
/-! The law. -/
namespace K34
open PySem PySem.Spec PyProof.Rows L2
theorem GW.perm {fs : List (List Int)} {st st' : List St3} (h : GW fs st) (p : st'.Perm st) : GW fs st' := ⟨fun t ht => h.ok t (p.mem_iff.mp ht), p.nodup_iff.mpr h.nd, by rw [p.length_eq]; exact h.len, h.n12, h.pos⟩
theorem WAt.del {CW : Addr} {H : Hp} {d w : Addr} {L F : Int} {fs : List (List Int)} {st : List St3} (h : WAt CW H w L F fs st) (hd : Dr H d) : WAt CW (del H d) w L F fs st := by
  obtain ⟨dx, sT, tT, vs, us, h1, h2, h3, h4, h5⟩ := h.ex
  obtain ⟨ns, e⟩ := hd
  have n1 : w ≠ d := fun z => by
    rw [z, e] at h1
    cases h1
  have n2 : sT ≠ d := fun z => by
    rw [z, e] at h2
    cases h2
  have n4 : tT ≠ d := fun z => by
    rw [z, e] at h4
    cases h4
  exact ⟨dx, sT, tT, vs, us, by rw [del_ne n1]; exact h1, by rw [del_ne n2]; exact h2, keyVs_del ⟨ns, e⟩ h3, by rw [del_ne n4]; exact h4, keyVs_del ⟨ns, e⟩ h5⟩
theorem GM.del {CW CL : Addr} {H : Hp} {d g : Addr} {F : Int} {fs : List (List Int)} {st : List St3} {Rs : List (List Int)} (h : GM CW CL H g F fs st Rs) (hd : Dr H d) : GM CW CL (del H d) g F fs st Rs := by
  obtain ⟨dx, w, r, vs, h1, h2, h3, h4⟩ := h.at_.ex
  obtain ⟨ns, e⟩ := id hd
  have n1 : g ≠ d := fun z => by
    rw [z, e] at h1
    cases h1
  have n3 : r ≠ d := fun z => by
    rw [z, e] at h3
    have ev := HO.lst.inj (Option.some.inj h3)
    obtain ⟨c, hc, _⟩ := h.rs.get h.rs.pos
    obtain ⟨x, hx, kx⟩ := h4.get (k := tupk c) (i := 0) (by rw [List.getElem?_map, hc]; rfl)
    obtain ⟨t, rfl, _⟩ := KeyV.ints kx
    rw [← ev, List.getElem?_map] at hx
    cases q : ns[0]? with
    | none =>
      rw [q] at hx
      cases hx
    | some i =>
      rw [q] at hx
      cases hx
  exact ⟨⟨dx, w, r, vs, by rw [del_ne n1]; exact h1, h2.del hd, by rw [del_ne n3]; exact h3, keyVs_del hd h4⟩, h.gw, h.rs⟩
theorem lst_reps {H : Hp} {e : Addr} (h : H e = some (.lst [])) : ∀ n : Nat, LstVs H (List.replicate n ([] : List Int)) (List.replicate n [V.ref e]).flatten
  | 0 => rfl
  | n + 1 => ⟨e, _, rfl, h, lst_reps h n⟩
section
variable {P : Program} {w : World} {K : PySem.W.Frag} {mg : Str → Option Value} {base : Heap} {CW CL CT : Addr}
abbrev NNlaw : List Str := ["_law_script", "_law_draws_here", "_law_facts", "_law_world_here", "_law_game", "_law_classes_here", "_law_size", "_law_first", "_law_second", "_law_winner", "_law_k"]
theorem scLaw : FnScope NNlaw ["_law_script"] (defScope sLaw) := ⟨rfl, rfl, rfl, by decide +kernel, rfl, by decide +kernel, by decide +kernel⟩
theorem ok_law {f : Addr} {fd : FuncData} (F : Fun K "law" "law" sLaw f fd) (D : Ds K mg) : FnOk P w K mg base CX0 7 f fd ["_law_script"] (spLaw K) := by
  have T := D.T
  have GD : FnOk P w K mg base CX0 1 D.f13 D.d13 ["_law_script", "_law_count"] (spDra K) := ok_dra D.dra.F T
  have GT : FnOk P w K mg base CX0 1 D.f14 D.d14 ["_law_draws_here", "_law_limit"] spTak := ok_tak D.tak.F T
  have GI : FnOk P w K mg base CX0 1 D.f15 D.d15 ["_law_actual"] spIsi := ok_isi D.isi.F T
  have GWo : FnOk P w K mg base CX0 2 D.f16 D.d16 ["_law_draws_here", "_law_most", "_law_facts"] spWor := ok_wor D.wor.F D
  have GMa : FnOk P w K mg base CX0 4 D.f17 D.d17 ["_law_world_here", "_law_labels", "_law_facts"] (spMad D.CW) := ok_mad D.mad.F D
  have GC : FnOk P w K mg base CX0 2 D.f19 D.d19 ["_law_world_here"] spCla := ok_cla D.cla.F D
  have GOG : FnOk P w K mg base CX0 6 D.f20 D.d20 ["_law_world_here"] (spOutG D.CW D.CL) := ok_outG D.out.F D
  have GON : FnOk P w K mg base CX0 6 D.f20 D.d20 ["_law_world_here"] (spOutN D.CW) := ok_outN D.out.F D
  have GAk : FnOk P w K mg base CX0 3 D.f21 D.d21 ["_law_draws_here", "_law_world_here", "_law_game", "_law_first", "_law_second"] (spAtk D.CW D.CL) := ok_atk D.atk.F D
  have GAw : FnOk P w K mg base CX0 3 D.f22 D.d22 ["_law_draws_here", "_law_world_here", "_law_game", "_law_first", "_law_second", "_law_classes_here"] (spAwd D.CW D.CL) := ok_awd D.awd.F D
  have GWi : FnOk P w K mg base CX0 2 D.f3 D.d3 ["self", "labels", "facts", "states", "steps"] (spWin K D.CW) := ok_win D.win.F T D.asc D.rst
  have GWn : FnOk P w K mg base CX0 2 D.f10 D.d10 ["self", "first", "second"] (spWnr D.CW D.CL) := ok_wnr D.wnr.F D
  refine F.ok scLaw (fun vs H Q E h => ?_) (fun cdv A outer sh H vs Q Ex hr h => ?_)
  · obtain ⟨a, ns, rfl, _⟩ := h
    rfl
  · obtain ⟨a, ns, rfl, hS, hlen, k⟩ := h
    refine ⟨_, (pss_cons (ps_set (i := 1) scLaw.nd rfl (Or.inl rfl) (pe_call GD (hr.mono (by decide)) rfl D.dra.g D.dra.F.kp D.dra.b .nil pass0 (pa_cons (pv 0) (pa_cons pe_int pa_nil))))
      (pss_cons (ps_set (i := 2) scLaw.nd rfl (Or.inl rfl) (pe_op op_add pe_int (pe_call GT (hr.mono (by decide)) rfl D.tak.g D.tak.F.kp D.tak.b .nil pass0 (pa_cons (pv 1) (pa_cons pe_int pa_nil)))))
      (pss_cons (ps_set (i := 3) scLaw.nd rfl (Or.inl rfl) (pe_call GWo (hr.mono (by decide)) rfl D.wor.g D.wor.F.kp D.wor.b .nil pass0 (pa_cons (pv 1) (pa_cons pe_int (pa_cons (pv 2) pa_nil)))))
      (pss_cons (ps_if (pt_cmpR op_eq (pe_call GT (hr.mono (by decide)) rfl D.tak.g D.tak.F.kp D.tak.b .nil pass0 (pa_cons (pv 1) (pa_cons pe_int pa_nil))) pe_int (nomark _)) (pss_one (ps_ret (pe_cmpR op_isN (pe_call GON hr rfl D.out.g D.out.F.kp D.out.b .nil pass0 (pa_cons (pe_make D.win.M GWi (hr.mono (by decide)) rfl T.gW D.win.b .nil pass0 (pa_cons pe_int (pa_cons pe_int (pa_cons (pe_op op_rep (pe_lst (pa_cons (pe_lst pa_nil) pa_nil)) (pe_op op_add pe_int (pe_call GT (hr.mono (by decide)) rfl D.tak.g D.tak.F.kp D.tak.b .nil pass0 (pa_cons (pv 1) (pa_cons pe_int pa_nil))))) (pa_cons (pe_lst pa_nil) pa_nil))))) pa_nil)) pe_non (nomark _)))) pss_nil)
      (pss_cons (ps_set (i := 4) scLaw.nd rfl (Or.inl rfl) (pe_call GOG hr rfl D.out.g D.out.F.kp D.out.b .nil pass0 (pa_cons (pe_call GMa (hr.mono (by decide)) rfl D.mad.g D.mad.F.kp D.mad.b .nil pass0 (pa_cons (pv 3) (pa_cons pe_int (pa_cons (pv 2) pa_nil)))) pa_nil)))
      (pss_cons (ps_if (pt_cmpR op_isN (pv 4) pe_non (nomark _)) (pss_one (ps_ret pe_bl)) pss_nil)
      (pss_cons (ps_set (i := 5) scLaw.nd rfl (Or.inl rfl) (pe_call GC (hr.mono (by decide)) rfl D.cla.g D.cla.F.kp D.cla.b .nil pass0 (pa_cons (pv 3) pa_nil)))
      (pss_cons (ps_set (i := 6) scLaw.nd rfl (Or.inl rfl) (pe_callB call_len_seq (by rfl) T.n_len (by decide +kernel) (pa_cons (pe_ix ix_tup (pv 3) pe_int (fun _ _ => rfl)) pa_nil)))
      (pss_cons (ps_for PassesOwn.never rfl (pi_range1 rfl T.n_range (pa_cons (pv 6) pa_nil)) (pg_name (i := 7) scLaw.nd rfl (Or.inl rfl))
        (pss_one (ps_for PassesOwn.never rfl (pi_range1 rfl T.n_range (pa_cons (pv 6) pa_nil)) (pg_name (i := 8) scLaw.nd rfl (Or.inl rfl))
          (pss_cons (ps_set (i := 9) scLaw.nd rfl (Or.inl rfl) (pe_meth (pv 4) T.clL D.wnr.M GWn (hr.mono (by decide)) D.wnr.b .nil pass0 (pa_cons (pv 7) (pa_cons (pv 8) pa_nil))))
          (pss_one (ps_if (PW.pt (pw_or (pt_not (pt_val (pe_call GI (hr.mono (by decide)) rfl D.isi.g D.isi.F.kp D.isi.b .nil pass0 (pa_cons (pv 9) pa_nil)))) (pw_or1 (pt_cmpR op_ne (pv 9) (pe_callTy call_int1 (by rfl) T.n_int (by decide +kernel) (pa_cons (pe_cmpR op_ne (pe_ix ix_tup (pv 5) (pv 7) (fun _ _ => rfl)) (pe_ix ix_tup (pv 5) (pv 8) (fun _ _ => rfl)) (nomark _)) pa_nil)) (nomark _))))) (pss_one (ps_ret pe_bl)) pss_nil))))))
      (pss_cons (ps_for PassesOwn.never rfl (pi_range1 rfl T.n_range (pa_cons pe_int pa_nil)) (pg_name (i := 10) scLaw.nd rfl (Or.inl rfl))
        (pss_cons (ps_set (i := 7) scLaw.nd rfl (Or.inl rfl) (pe_call GT (hr.mono (by decide)) rfl D.tak.g D.tak.F.kp D.tak.b .nil pass0 (pa_cons (pv 1) (pa_cons (pv 6) pa_nil))))
        (pss_cons (ps_set (i := 8) scLaw.nd rfl (Or.inl rfl) (pe_call GT (hr.mono (by decide)) rfl D.tak.g D.tak.F.kp D.tak.b .nil pass0 (pa_cons (pv 1) (pa_cons (pv 6) pa_nil))))
        (pss_one (ps_if (pt_cmpR op_ne (pe_ix ix_tup (pv 5) (pv 7) (fun _ _ => rfl)) (pe_ix ix_tup (pv 5) (pv 8) (fun _ _ => rfl)) (nomark _)) (pss_one (ps_if (pt_not (pt_val (pe_call GAk (hr.mono (by decide)) rfl D.atk.g D.atk.F.kp D.atk.b .nil pass0 (pa_cons (pv 1) (pa_cons (pv 3) (pa_cons (pv 4) (pa_cons (pv 7) (pa_cons (pv 8) pa_nil)))))))) (pss_one (ps_ret pe_bl)) pss_nil)) (pss_one (ps_if (pt_not (pt_val (pe_call GAw (hr.mono (by decide)) rfl D.awd.g D.awd.F.kp D.awd.b .nil pass0 (pa_cons (pv 1) (pa_cons (pv 3) (pa_cons (pv 4) (pa_cons (pv 7) (pa_cons (pv 8) (pa_cons (pv 5) pa_nil))))))))) (pss_one (ps_ret pe_bl)) pss_nil)))))))
      (pss_one (ps_ret pe_bl)))))))))))), ?_⟩
    -- the draws, the facts, the world
    refine ⟨_, rfl, a, ns, rfl, hS, hlen, fun d H1 s1 hdn ⟨ns1, hd1⟩ => ?_⟩
    refine ⟨_, rfl, d, 2, ns1, rfl, by decide, hd1, fun ms1 r r0 r1 => ⟨_, _, rfl, rfl, ?_⟩⟩
    have dr2 : Dr (upd H1 d (.lst (ms1.map V.int))) d := Dr.set
    generalize upd H1 d (.lst (ms1.map V.int)) = H2 at dr2
    refine ⟨_, rfl, _, rfl, d, 1 + r, rfl, dr2, by omega, by omega, fun p H3 fs st sd3 ⟨ns3, hd3⟩ hL3 hI => ?_⟩
    have gw := hI.gw
    refine ⟨_, rfl, d, 10, ns3, rfl, by decide, hd3, fun ms4 q q0 q1 => ⟨rfl, _, rfl, ?_⟩⟩
    have dr4 : Dr (upd H3 d (.lst (ms4.map V.int))) d := Dr.set
    have hL4 : LAt (del (upd H3 d (.lst (ms4.map V.int))) d) p fs st := by
      rw [del_upd]
      exact hL3
    generalize upd H3 d (.lst (ms4.map V.int)) = H4 at dr4 hL4
    refine ite2 (fun _ => ?_) (fun _ => ?_)
    · -- a world of too many states
      refine ⟨Nat.zero_le _, fun e he => ⟨(by show 1 ≤ sizeLine; decide), fun l hl => ?_⟩⟩
      have ned := dr4.ne he
      have he5 : (upd H4 e (.lst [])) e = some (.lst []) := upd_same
      have dr5 : Dr (upd H4 e (.lst [])) d := dr4.upd ned
      generalize upd H4 e (.lst []) = H5 at he5 dr5 hl
      have nld := dr5.ne hl
      have he6 : (upd H5 l (.lst [.ref e])) e = some (.lst []) := same_upd hl _ _ he5
      have hl6 : (upd H5 l (.lst [.ref e])) l = some (.lst [.ref e]) := upd_same
      have dr6 : Dr (upd H5 l (.lst [.ref e])) d := dr5.upd nld
      generalize upd H5 l (.lst [.ref e]) = H6 at he6 hl6 dr6
      obtain ⟨ns6, hd6⟩ := dr6
      refine ⟨_, rfl, d, 3, ns6, rfl, by decide, hd6, fun ms7 r' r0' r1' => ⟨_, _, rfl, rfl, ?_⟩⟩
      have he7 : (upd H6 d (.lst (ms7.map V.int))) e = some (.lst []) := by
        rw [upd_ne ned]
        exact he6
      have hl7 : (upd H6 d (.lst (ms7.map V.int))) l = some (.lst [.ref e]) := by
        rw [upd_ne nld]
        exact hl6
      generalize upd H6 d (.lst (ms7.map V.int)) = H7 at he7 hl7
      obtain ⟨n, hn, n13, n15⟩ : ∃ n : Nat, ((13 : Int) + r').toNat = n ∧ 13 ≤ n ∧ n ≤ 15 := ⟨_, rfl, by omega, by omega⟩
      refine ⟨l, 13 + r', _, rfl, rfl, hl7, by omega, by omega, (by rw [hn, sizeLine_eq]; show 1 * n ≤ _; omega), fun p2 hp2 => ?_⟩
      rw [hn]
      have s8 : Same H7 (upd H7 p2 (.lst (List.replicate n [V.ref e]).flatten)) := same_upd hp2
      have hp8 : (upd H7 p2 (.lst (List.replicate n [V.ref e]).flatten)) p2 = some (.lst (List.replicate n [V.ref e]).flatten) := upd_same
      generalize upd H7 p2 (.lst (List.replicate n [V.ref e]).flatten) = H8 at s8 hp8
      refine ⟨Nat.zero_le _, fun z hz => ?_⟩
      have s9 : Same H8 (upd H8 z (.lst [])) := same_upd hz
      have hz9 : (upd H8 z (.lst [])) z = some (.lst []) := upd_same
      generalize upd H8 z (.lst []) = H9 at s9 hz9
      intro x dx hx hdx ne
      have s10 : Same H9 (upd (upd H9 dx (.own x)) x (.ins D.CW dx [])) := fun b o q => by
        rw [upd_ne (ne_of_none q hx), upd_ne (ne_of_none q hdx)]
        exact q
      have hr0 : (List.replicate n ([] : List Int)).length = n := List.length_replicate
      refine ⟨x, dx, 1, 0, List.replicate n [], [], p2, z, rfl, upd_same, ⟨by decide, by decide, by decide, by decide, by omega, by omega, fun r hr => ?_, ⟨_, s10 _ _ (s9 _ _ hp8), lst_reps ((s8.trans s9).trans s10 _ _ he7) n⟩, ⟨[], s10 _ _ hz9, .nil⟩, List.nodup_nil, Nat.zero_le _, fun t ht => by cases ht⟩, fun H' st' pm keep hW => ⟨rfl, x, 1, 0, _, st', rfl, hW, by omega, fun H'' => ⟨rfl, ?_⟩⟩⟩
      · rw [List.eq_of_mem_replicate hr]
        exact ⟨fun i x hx => by simp at hx, Nat.zero_le _⟩
      · show Q (.bl (decide (V.non = V.non))) H''
        rw [decide_eq_true rfl]
        exact k _
    · -- a game
      refine ⟨_, rfl, _, rfl, p, 1 + r, fs, st, rfl, hL4.same (del_same H4 d), hI, by omega, by omega, fun wp H5 st' s5 pm hW => ⟨wp, 1 + r, fs, st', rfl, hW, gw.perm pm, fun g H6 Rs s6 hG6 => ?_⟩⟩
      refine ⟨_, rfl, rfl, _, rfl, ?_⟩
      rw [decide_eq_false (show ¬ V.ref g = V.non from fun z => by cases z)]
      refine iteF ?_
      have hL6 : LAt H6 p fs st := ((hL4.same (del_same H4 d)).same s5).same s6
      refine ⟨_, rfl, p, fs, st, gw, rfl, hL6, fun c H7 cs s7 hc hF => ?_⟩
      have s47 : Same H4 H7 := (s5.trans s6).trans s7
      have dr7 : Dr H7 d := dr4.same s47
      have hG7 : GM D.CW D.CL H7 g (1 + r) fs st' Rs := hG6.same s7
      have hL7 : LAt H7 p fs st := hL6.same s7
      have dL7 : LAt (del H7 d) p fs st := hL4.same (SD.of s47)
      have dG7 : GM D.CW D.CL (del H7 d) g (1 + r) fs st' Rs := hG7.del dr7
      have ncd : c ≠ d := fun z => by
        obtain ⟨_, q⟩ := dr7
        rw [z, q] at hc
        cases hc
      have dc7 : (del H7 d) c = some (.tup (cs.map V.int)) := by
        rw [del_ne ncd]
        exact hc
      have n12 := gw.n12
      have hle : Rs.length - 1 ≤ fs.length + 1 := by
        have q : Rs.length ≤ fs.length := hG7.rs.le
        omega
      -- the classes are those of the last round
      have cls : ∀ {f s : Nat}, f < fs.length → s < fs.length → (cs.getD f 0 = cs.getD s 0 ↔ E (wo fs st' hG7.gw.ok) (Rs.length - 1) f s) := fun {f s} hf hs =>
        (hF.cell_iff hf hs).trans ((E_perm gw.ok hG7.gw.ok pm _ f s).trans (hG7.rs.stay.iff hle hf hs))
      obtain ⟨sl, tl, vs, us, m1, m2, m3, m4, m5⟩ := hL7.ex
      refine ⟨_, rfl, p, _, _, _, rfl, rfl, SqT.of m1, at_of (j := 0) rfl rfl, sl, _, rfl, .inl (SqL.of m2), ?_⟩
      rw [m3.len]
      obtain ⟨dxg, wa, rr, xs, g1, _⟩ := hG7.at_.ex
      -- who wins
      refine ⟨_, rfl, _, rfl, by omega, by omega, for_range (lo := 0) (n := fs.length) (fun i σ H' => H' = H7 ∧ ∃ v7 v8 v9 v10, σ = [some (.ref a), some (.ref d), some (.int (1 + r)), some (.ref p), some (.ref g), some (.ref c), some (.int fs.length), v7, v8, v9, v10])
        ⟨rfl, none, none, none, none, rfl⟩ ?_ ?_⟩
      · rintro f σ H' hf ⟨rfl, v7, v8, v9, v10, rfl⟩
        rw [Int.zero_add]
        refine ⟨_, rfl, _, rfl, by omega, by omega, for_range (lo := 0) (n := fs.length) (fun i σ H8 => H8 = H' ∧ ∃ v8 v9 v10, σ = [some (.ref a), some (.ref d), some (.int (1 + r)), some (.ref p), some (.ref g), some (.ref c), some (.int fs.length), some (.int f), v8, v9, v10])
          ⟨rfl, v8, v9, v10, rfl⟩ ?_ ?_⟩
        · rintro s σ H8 hs ⟨rfl, v8, v9, v10, rfl⟩
          rw [Int.zero_add]
          have win : ∀ b : Int, (b = if cs.getD f 0 = cs.getD s 0 then 0 else 1) → decide (V.int b = V.int (if (!decide (V.int (cs.getD f 0) = V.int (cs.getD s 0))) = true then 1 else 0)) = true := fun b e => by
            rw [e, decI (cs.getD f 0)]
            by_cases h : cs.getD f 0 = cs.getD s 0
            · rw [if_pos h, decide_eq_true h]
              rfl
            · rw [if_neg h, decide_eq_false h]
              rfl
          refine ⟨_, rfl, g, dxg, _, rfl, g1, gfl_no _ _ (by decide +kernel) (by decide +kernel), _, rfl, _, rfl, g, f, s, 1 + r, fs, st', Rs, hG7, rfl, hf, hs, fun q => ?_, fun q => ?_⟩
          · refine ⟨_, rfl, 0, rfl, _, rfl, iteF ⟨_, rfl, _, rfl, _, rfl, c, _, _, _, rfl, rfl, SqT.of hc, at_of (j := f) rfl (map_get (hF.cell hf)), _, rfl, _, rfl, c, _, _, _, rfl, rfl, SqT.of hc, at_of (j := s) rfl (map_get (hF.cell hs)), rfl, .inr ⟨_, rfl, rfl, _, rfl, ?_⟩⟩⟩
            rw [win 0 (by rw [if_pos ((cls hf hs).mpr q)])]
            exact iteF ⟨rfl, _, _, _, rfl⟩
          · refine ⟨_, rfl, 1, rfl, _, rfl, iteF ⟨_, rfl, _, rfl, _, rfl, c, _, _, _, rfl, rfl, SqT.of hc, at_of (j := f) rfl (map_get (hF.cell hf)), _, rfl, _, rfl, c, _, _, _, rfl, rfl, SqT.of hc, at_of (j := s) rfl (map_get (hF.cell hs)), rfl, .inr ⟨_, rfl, rfl, _, rfl, ?_⟩⟩⟩
            rw [win 1 (by rw [if_neg fun z => q ((cls hf hs).mp z)])]
            exact iteF ⟨rfl, _, _, _, rfl⟩
        · rintro σ H8 ⟨rfl, v8, v9, v10, rfl⟩
          exact ⟨rfl, _, _, _, _, rfl⟩
      · rintro σ H' ⟨rfl, v7, v8, v9, v10, rfl⟩
        -- what the players do
        refine ⟨_, rfl, by decide, by decide, for_range (lo := 0) (n := 4) (fun t σ H8 => SD d H' H8 ∧ Dr H8 d ∧ ∃ v7 v8 v9 v10, σ = [some (.ref a), some (.ref d), some (.int (1 + r)), some (.ref p), some (.ref g), some (.ref c), some (.int fs.length), v7, v8, v9, v10])
          ⟨SD.refl d H', dr7, v7, v8, v9, v10, rfl⟩ ?_ ?_⟩
        · rintro t σ H8 ht ⟨sd8, ⟨ns8, hd8⟩, w7, w8, w9, w10, rfl⟩
          have pos := gw.pos
          refine ⟨_, rfl, _, rfl, d, fs.length, ns8, rfl, by omega, hd8, fun ms q q0 q1 => ?_⟩
          obtain ⟨f, rfl⟩ : ∃ f : Nat, q = (f : Int) := ⟨q.toNat, by omega⟩
          have hf : f < fs.length := by omega
          refine ⟨_, rfl, _, rfl, d, fs.length, ms, rfl, by omega, upd_same, fun ms2 q q0 q1 => ?_⟩
          obtain ⟨s, rfl⟩ : ∃ s : Nat, q = (s : Int) := ⟨q.toNat, by omega⟩
          have hs : s < fs.length := by omega
          rw [upd_upd]
          have sd9 : SD d H' (upd H8 d (.lst (ms2.map V.int))) := sd8.updd
          have dr9 : Dr (upd H8 d (.lst (ms2.map V.int))) d := Dr.set
          generalize upd H8 d (.lst (ms2.map V.int)) = H9 at sd9 dr9
          have dL9 : LAt (del H9 d) p fs st := dL7.same sd9
          have dG9 : GM D.CW D.CL (del H9 d) g (1 + r) fs st' Rs := dG7.same sd9
          have dc9 : (del H9 d) c = some (.tup (cs.map V.int)) := sd9 _ _ dc7
          have hc9 : H9 c = some (.tup (cs.map V.int)) := del_same H9 d _ _ dc9
          refine ⟨_, rfl, _, rfl, c, _, _, _, rfl, rfl, SqT.of hc9, at_of (j := f) rfl (map_get (hF.cell hf)), _, rfl, _, rfl, c, _, _, _, rfl, rfl, SqT.of hc9, at_of (j := s) rfl (map_get (hF.cell hs)), rfl, _, rfl, ?_⟩
          rw [decI]
          by_cases hq : cs.getD f 0 = cs.getD s 0
          · rw [decide_eq_true hq]
            refine iteF ⟨_, rfl, _, rfl, _, rfl, _, rfl, _, rfl, _, rfl, d, p, g, c, f, s, fs.length + 1, 1 + r, fs, st, st', Rs, cs, dG9, gw, rfl, dr9, dL9, pm, dc9, hF, hle, hf, hs, (cls hf hs).mp hq, fun H10 sd10 dr10 => ⟨_, rfl, iteF ⟨sd9.trans sd10, dr10, _, _, _, _, rfl⟩⟩⟩
          · rw [decide_eq_false hq]
            refine iteT ⟨_, rfl, _, rfl, _, rfl, _, rfl, _, rfl, d, p, g, f, s, 1 + r, fs, st, st', Rs, dG9, rfl, dr9, dL9, gw, pm, hf, hs, fun z => hq ((cls hf hs).mpr z), fun H10 sd10 dr10 => ⟨_, rfl, iteF ⟨sd9.trans sd10, dr10, _, _, _, _, rfl⟩⟩⟩
        · rintro σ H8 ⟨sd8, dr8, w7, w8, w9, w10, rfl⟩
          exact k _
end
end K34
/-! What the top has written, the head. -/
namespace K34
open PySem L2
theorem all_mk {l : PySem.W.OpenLaw} {w : World} {K : PySem.W.Frag} {h : Heap} {mg : Str → Option Value} {fa CW CL CT : Addr} (X : K.In h) (G : h.Ns mainGlobals mg) (hfa : mg "law" = some (.ref fa))
    {f1 f2 f3 f4 f5 f6 f7 f8 f9 f10 f11 f12 f13 f14 f15 f16 f17 f18 f19 f20 f21 f22 f23 : Addr} {od1 an1 od2 an2 od3 an3 od4 an4 od5 an5 od6 an6 od7 an7 od8 an8 od9 an9 od10 an10 od11 an11 od12 an12 od13 an13 od14 an14 od15 an15 od16 an16 od17 an17 od18 an18 od19 an19 od20 an20 od21 an21 od22 an22 od23 an23 : Option Addr} {sl1 sl2 sl3 sl4 sl5 sl6 sl7 sl8 sl9 sl10 sl11 sl12 sl13 sl14 sl15 sl16 sl17 sl18 sl19 sl20 sl21 sl22 sl23 : Array (Option Value)} {oc1 kV1 dc1 pm1 cd1 ct1 oc2 kV2 dc2 pm2 cd2 ct2 oc3 kV3 dc3 pm3 cd3 ct3 oc4 kV4 dc4 pm4 cd4 ct4 oc5 kV5 dc5 pm5 cd5 ct5 oc6 kV6 dc6 pm6 cd6 ct6 oc7 kV7 dc7 pm7 cd7 ct7 oc8 kV8 dc8 pm8 cd8 ct8 oc9 kV9 dc9 pm9 cd9 ct9 oc10 kV10 dc10 pm10 cd10 ct10 oc11 kV11 dc11 pm11 cd11 ct11 oc12 kV12 dc12 pm12 cd12 ct12 oc13 kV13 dc13 pm13 cd13 ct13 oc14 kV14 dc14 pm14 cd14 ct14 oc15 kV15 dc15 pm15 cd15 ct15 oc16 kV16 dc16 pm16 cd16 ct16 oc17 kV17 dc17 pm17 cd17 ct17 oc18 kV18 dc18 pm18 cd18 ct18 oc19 kV19 dc19 pm19 cd19 ct19 oc20 kV20 dc20 pm20 cd20 ct20 oc21 kV21 dc21 pm21 cd21 ct21 oc22 kV22 dc22 pm22 cd22 ct22 oc23 kV23 dc23 pm23 cd23 ct23 : Value} {tW tL : Tok}
    (aW : PySem.W.nsIn K mainGlobals "World" = some (some (.ref CW)))
    (aL : PySem.W.nsIn K mainGlobals "LikenessGame" = some (some (.ref CL)))
    (aT : PySem.W.nsIn K mainGlobals "TooLarge" = some (some (.ref CT)))
    (mW : PySem.W.nsIn K mainGlobals "MOST_STATES_worlds" = some (some (.int 400 tW)))
    (mL : PySem.W.nsIn K mainGlobals "MOST_STATES_likegames" = some (some (.int 12 tL)))
    (a1 : PySem.W.nsIn K mainGlobals "ascend" = some (some (.ref f1)))
    (l1 : K.lookup f1 = some ⟨oc1, od1, .func (PySem.W.fnOf "ascend" "ascend" (defArgs sAsc) (defBody sAsc) (defScope sAsc) .none kV1 dc1 pm1 an1 cd1 ct1), sl1⟩)
    (c1 : PySem.W.codeIn K cd1 "ascend" = true)
    (k1 : PySem.W.keepIn K (.ref f1) = true)
    (a2 : PySem.W.nsIn K mainGlobals "right_steps" = some (some (.ref f2)))
    (l2 : K.lookup f2 = some ⟨oc2, od2, .func (PySem.W.fnOf "right_steps" "right_steps" (defArgs sRst) (defBody sRst) (defScope sRst) .none kV2 dc2 pm2 an2 cd2 ct2), sl2⟩)
    (c2 : PySem.W.codeIn K cd2 "right_steps" = true)
    (k2 : PySem.W.keepIn K (.ref f2) = true)
    (a3 : PySem.W.findIn K (.ref CW) "__init__" = some (some (.ref f3)))
    (i3 : PySem.W.isFn K (.ref f3) = true)
    (l3 : K.lookup f3 = some ⟨oc3, od3, .func (PySem.W.fnOf "__init__" "World.__init__" (defArgs sWin) (defBody sWin) (defScope sWin) .none kV3 dc3 pm3 an3 cd3 ct3), sl3⟩)
    (c3 : PySem.W.codeIn K cd3 "World.__init__" = true)
    (k3 : PySem.W.keepIn K (.ref f3) = true)
    (a4 : PySem.W.nsIn K mainGlobals "followers" = some (some (.ref f4)))
    (l4 : K.lookup f4 = some ⟨oc4, od4, .func (PySem.W.fnOf "followers" "followers" (defArgs sFol) (defBody sFol) (defScope sFol) .none kV4 dc4 pm4 an4 cd4 ct4), sl4⟩)
    (c4 : PySem.W.codeIn K cd4 "followers" = true)
    (k4 : PySem.W.keepIn K (.ref f4) = true)
    (a5 : PySem.W.nsIn K mainGlobals "numbered" = some (some (.ref f5)))
    (l5 : K.lookup f5 = some ⟨oc5, od5, .func (PySem.W.fnOf "numbered" "numbered" (defArgs sNum) (defBody sNum) (defScope sNum) .none kV5 dc5 pm5 an5 cd5 ct5), sl5⟩)
    (c5 : PySem.W.codeIn K cd5 "numbered" = true)
    (k5 : PySem.W.keepIn K (.ref f5) = true)
    (a6 : PySem.W.nsIn K mainGlobals "sign_of" = some (some (.ref f6)))
    (l6 : K.lookup f6 = some ⟨oc6, od6, .func (PySem.W.fnOf "sign_of" "sign_of" (defArgs sSgn) (defBody sSgn) (defScope sSgn) .none kV6 dc6 pm6 an6 cd6 ct6), sl6⟩)
    (c6 : PySem.W.codeIn K cd6 "sign_of" = true)
    (k6 : PySem.W.keepIn K (.ref f6) = true)
    (a7 : PySem.W.nsIn K mainGlobals "rounds" = some (some (.ref f7)))
    (l7 : K.lookup f7 = some ⟨oc7, od7, .func (PySem.W.fnOf "rounds" "rounds" (defArgs sRou) (defBody sRou) (defScope sRou) .none kV7 dc7 pm7 an7 cd7 ct7), sl7⟩)
    (c7 : PySem.W.codeIn K cd7 "rounds" = true)
    (k7 : PySem.W.keepIn K (.ref f7) = true)
    (a8 : PySem.W.findIn K (.ref CL) "__init__" = some (some (.ref f8)))
    (i8 : PySem.W.isFn K (.ref f8) = true)
    (l8 : K.lookup f8 = some ⟨oc8, od8, .func (PySem.W.fnOf "__init__" "LikenessGame.__init__" (defArgs sLin) (defBody sLin) (defScope sLin) .none kV8 dc8 pm8 an8 cd8 ct8), sl8⟩)
    (c8 : PySem.W.codeIn K cd8 "LikenessGame.__init__" = true)
    (k8 : PySem.W.keepIn K (.ref f8) = true)
    (a9 : PySem.W.findIn K (.ref CL) "_parting_round" = some (some (.ref f9)))
    (i9 : PySem.W.isFn K (.ref f9) = true)
    (l9 : K.lookup f9 = some ⟨oc9, od9, .func (PySem.W.fnOf "_parting_round" "LikenessGame._parting_round" (defArgs sPar) (defBody sPar) (defScope sPar) .none kV9 dc9 pm9 an9 cd9 ct9), sl9⟩)
    (c9 : PySem.W.codeIn K cd9 "LikenessGame._parting_round" = true)
    (k9 : PySem.W.keepIn K (.ref f9) = true)
    (a10 : PySem.W.findIn K (.ref CL) "winner" = some (some (.ref f10)))
    (i10 : PySem.W.isFn K (.ref f10) = true)
    (l10 : K.lookup f10 = some ⟨oc10, od10, .func (PySem.W.fnOf "winner" "LikenessGame.winner" (defArgs sWnr) (defBody sWnr) (defScope sWnr) .none kV10 dc10 pm10 an10 cd10 ct10), sl10⟩)
    (c10 : PySem.W.codeIn K cd10 "LikenessGame.winner" = true)
    (k10 : PySem.W.keepIn K (.ref f10) = true)
    (a11 : PySem.W.findIn K (.ref CL) "attack" = some (some (.ref f11)))
    (i11 : PySem.W.isFn K (.ref f11) = true)
    (l11 : K.lookup f11 = some ⟨oc11, od11, .func (PySem.W.fnOf "attack" "LikenessGame.attack" (defArgs sAtt) (defBody sAtt) (defScope sAtt) .none kV11 dc11 pm11 an11 cd11 ct11), sl11⟩)
    (c11 : PySem.W.codeIn K cd11 "LikenessGame.attack" = true)
    (k11 : PySem.W.keepIn K (.ref f11) = true)
    (a12 : PySem.W.findIn K (.ref CL) "answer" = some (some (.ref f12)))
    (i12 : PySem.W.isFn K (.ref f12) = true)
    (l12 : K.lookup f12 = some ⟨oc12, od12, .func (PySem.W.fnOf "answer" "LikenessGame.answer" (defArgs sAns) (defBody sAns) (defScope sAns) .none kV12 dc12 pm12 an12 cd12 ct12), sl12⟩)
    (c12 : PySem.W.codeIn K cd12 "LikenessGame.answer" = true)
    (k12 : PySem.W.keepIn K (.ref f12) = true)
    (a13 : PySem.W.nsIn K mainGlobals "_law_draws" = some (some (.ref f13)))
    (l13 : K.lookup f13 = some ⟨oc13, od13, .func (PySem.W.fnOf "_law_draws" "_law_draws" (defArgs sDra) (defBody sDra) (defScope sDra) .none kV13 dc13 pm13 an13 cd13 ct13), sl13⟩)
    (c13 : PySem.W.codeIn K cd13 "_law_draws" = true)
    (k13 : PySem.W.keepIn K (.ref f13) = true)
    (a14 : PySem.W.nsIn K mainGlobals "_law_take" = some (some (.ref f14)))
    (l14 : K.lookup f14 = some ⟨oc14, od14, .func (PySem.W.fnOf "_law_take" "_law_take" (defArgs sTak) (defBody sTak) (defScope sTak) .none kV14 dc14 pm14 an14 cd14 ct14), sl14⟩)
    (c14 : PySem.W.codeIn K cd14 "_law_take" = true)
    (k14 : PySem.W.keepIn K (.ref f14) = true)
    (a15 : PySem.W.nsIn K mainGlobals "_law_is_integer" = some (some (.ref f15)))
    (l15 : K.lookup f15 = some ⟨oc15, od15, .func (PySem.W.fnOf "_law_is_integer" "_law_is_integer" (defArgs sIsi) (defBody sIsi) (defScope sIsi) .none kV15 dc15 pm15 an15 cd15 ct15), sl15⟩)
    (c15 : PySem.W.codeIn K cd15 "_law_is_integer" = true)
    (k15 : PySem.W.keepIn K (.ref f15) = true)
    (a16 : PySem.W.nsIn K mainGlobals "_law_world" = some (some (.ref f16)))
    (l16 : K.lookup f16 = some ⟨oc16, od16, .func (PySem.W.fnOf "_law_world" "_law_world" (defArgs sWor) (defBody sWor) (defScope sWor) .none kV16 dc16 pm16 an16 cd16 ct16), sl16⟩)
    (c16 : PySem.W.codeIn K cd16 "_law_world" = true)
    (k16 : PySem.W.keepIn K (.ref f16) = true)
    (a17 : PySem.W.nsIn K mainGlobals "_law_made" = some (some (.ref f17)))
    (l17 : K.lookup f17 = some ⟨oc17, od17, .func (PySem.W.fnOf "_law_made" "_law_made" (defArgs sMad) (defBody sMad) (defScope sMad) .none kV17 dc17 pm17 an17 cd17 ct17), sl17⟩)
    (c17 : PySem.W.codeIn K cd17 "_law_made" = true)
    (k17 : PySem.W.keepIn K (.ref f17) = true)
    (a18 : PySem.W.nsIn K mainGlobals "_law_behind" = some (some (.ref f18)))
    (l18 : K.lookup f18 = some ⟨oc18, od18, .func (PySem.W.fnOf "_law_behind" "_law_behind" (defArgs sBeh) (defBody sBeh) (defScope sBeh) .none kV18 dc18 pm18 an18 cd18 ct18), sl18⟩)
    (c18 : PySem.W.codeIn K cd18 "_law_behind" = true)
    (k18 : PySem.W.keepIn K (.ref f18) = true)
    (a19 : PySem.W.nsIn K mainGlobals "_law_classes" = some (some (.ref f19)))
    (l19 : K.lookup f19 = some ⟨oc19, od19, .func (PySem.W.fnOf "_law_classes" "_law_classes" (defArgs sCla) (defBody sCla) (defScope sCla) .none kV19 dc19 pm19 an19 cd19 ct19), sl19⟩)
    (c19 : PySem.W.codeIn K cd19 "_law_classes" = true)
    (k19 : PySem.W.keepIn K (.ref f19) = true)
    (a20 : PySem.W.nsIn K mainGlobals "_law_outcome" = some (some (.ref f20)))
    (l20 : K.lookup f20 = some ⟨oc20, od20, .func (PySem.W.fnOf "_law_outcome" "_law_outcome" (defArgs sOut) (defBody sOut) (defScope sOut) .none kV20 dc20 pm20 an20 cd20 ct20), sl20⟩)
    (c20 : PySem.W.codeIn K cd20 "_law_outcome" = true)
    (k20 : PySem.W.keepIn K (.ref f20) = true)
    (a21 : PySem.W.nsIn K mainGlobals "_law_attacked" = some (some (.ref f21)))
    (l21 : K.lookup f21 = some ⟨oc21, od21, .func (PySem.W.fnOf "_law_attacked" "_law_attacked" (defArgs sAtk) (defBody sAtk) (defScope sAtk) .none kV21 dc21 pm21 an21 cd21 ct21), sl21⟩)
    (c21 : PySem.W.codeIn K cd21 "_law_attacked" = true)
    (k21 : PySem.W.keepIn K (.ref f21) = true)
    (a22 : PySem.W.nsIn K mainGlobals "_law_answered" = some (some (.ref f22)))
    (l22 : K.lookup f22 = some ⟨oc22, od22, .func (PySem.W.fnOf "_law_answered" "_law_answered" (defArgs sAwd) (defBody sAwd) (defScope sAwd) .none kV22 dc22 pm22 an22 cd22 ct22), sl22⟩)
    (c22 : PySem.W.codeIn K cd22 "_law_answered" = true)
    (k22 : PySem.W.keepIn K (.ref f22) = true)
    (a23 : PySem.W.nsIn K mainGlobals "law" = some (some (.ref f23)))
    (l23 : K.lookup f23 = some ⟨oc23, od23, .func (PySem.W.fnOf "law" "law" (defArgs sLaw) (defBody sLaw) (defScope sLaw) .none kV23 dc23 pm23 an23 cd23 ct23), sl23⟩)
    (c23 : PySem.W.codeIn K cd23 "law" = true)
    (k23 : PySem.W.keepIn K (.ref f23) = true)
    (pgW : PySem.W.plainGet K CW Str.empty = true)
    (hdW : PySem.W.hasDictIn K CW = true)
    (poW : PySem.W.plainOver K CW = true)
    (saW : PySem.W.findIn K (.ref CW) "__setattr__" = some (some (.builtin "object.__setattr__")))
    (mkW : PySem.W.makesIn K CW = true)
    (kcW : PySem.W.keepIn K (.ref CW) = true)
    (nW0 : PySem.W.findIn K (.ref CW) "labels" = some none)
    (nW1 : PySem.W.findIn K (.ref CW) "facts" = some none)
    (nW2 : PySem.W.findIn K (.ref CW) "states" = some none)
    (nW3 : PySem.W.findIn K (.ref CW) "steps" = some none)
    (pgL : PySem.W.plainGet K CL Str.empty = true)
    (hdL : PySem.W.hasDictIn K CL = true)
    (poL : PySem.W.plainOver K CL = true)
    (saL : PySem.W.findIn K (.ref CL) "__setattr__" = some (some (.builtin "object.__setattr__")))
    (mkL : PySem.W.makesIn K CL = true)
    (kcL : PySem.W.keepIn K (.ref CL) = true)
    (nL0 : PySem.W.findIn K (.ref CL) "_world" = some none)
    (nL1 : PySem.W.findIn K (.ref CL) "_rounds" = some none)
    (xT : PySem.W.excIn K CT [.type "ValueError", .type "Exception", .type "BaseException", .type "object"] "ValueError.__new__" = true)
    (kT : PySem.W.keepIn K (.ref CT) = true)
    (bT : PySem.W.subIn K (.ref CT) (.type "BaseException") = some true)
    (tT : PySem.W.typeIn K (.ref CT) = some (.type "type"))
    (iT : PySem.W.isClsIn K CT = true)
    (sT : PySem.W.subIn K (.ref CT) (.ref CT) = some true)
    (z_len : PySem.W.nsIn K mainGlobals "len" = some none)
    (z_range : PySem.W.nsIn K mainGlobals "range" = some none)
    (z_min : PySem.W.nsIn K mainGlobals "min" = some none)
    (z_max : PySem.W.nsIn K mainGlobals "max" = some none)
    (z_tuple : PySem.W.nsIn K mainGlobals "tuple" = some none)
    (z_sorted : PySem.W.nsIn K mainGlobals "sorted" = some none)
    (z_set : PySem.W.nsIn K mainGlobals "set" = some none)
    (z_int : PySem.W.nsIn K mainGlobals "int" = some none)
    (z_bool : PySem.W.nsIn K mainGlobals "bool" = some none)
    (z_list : PySem.W.nsIn K mainGlobals "list" = some none)
    (z_isinstance : PySem.W.nsIn K mainGlobals "isinstance" = some none)
    : ∃ fd : FuncData, (∀ (s : Shared) (v : Value), BindsTo s fd ⟨[v], []⟩ [("_law_script", v)]) ∧ ∀ base : Heap, K.In base → base.Ns mainGlobals mg → FnOk l.prog w K mg base CX0 7 fa fd ["_law_script"] (spLaw K) := by
  have e := hfa.symm.trans (PySem.W.mg_of X G a23)
  cases e
  have T : Txt K mg CW CL := ⟨⟨pgW, hdW, poW, saW⟩, ⟨pgL, hdL, poL, saL⟩, nW0, nW1, nW2, nW3, nL0, nL1, PySem.W.mg_of X G aW, PySem.W.mg_of X G aL, PySem.W.mg_none_of X G z_len, PySem.W.mg_none_of X G z_range, PySem.W.mg_none_of X G z_min, PySem.W.mg_none_of X G z_max, PySem.W.mg_none_of X G z_tuple, PySem.W.mg_none_of X G z_sorted, PySem.W.mg_none_of X G z_set, PySem.W.mg_none_of X G z_int, PySem.W.mg_none_of X G z_bool, PySem.W.mg_none_of X G z_list, PySem.W.mg_none_of X G z_isinstance, ⟨_, PySem.W.mg_of X G mW⟩, ⟨_, PySem.W.mg_of X G mL⟩⟩
  have er : Er K mg CT := ⟨PySem.W.mg_of X G aT, xT, kT, bT, tT, exm_self bT iT tT sT⟩
  have F1 := fun_mk (st := sAsc) l1 c1 k1
  have b1 := F1.binds (ps := ["numbers", "limit"]) fun _ _ _ _ _ _ us hl => match us, hl with | [_, _], _ => rfl
  have F2 := fun_mk (st := sRst) l2 c2 k2
  have b2 := F2.binds (ps := ["labels", "count", "steps"]) fun _ _ _ _ _ _ us hl => match us, hl with | [_, _, _], _ => rfl
  have F3 := fun_mk (st := sWin) l3 c3 k3
  have b3 := F3.binds (ps := ["self", "labels", "facts", "states", "steps"]) fun _ _ _ _ _ _ us hl => match us, hl with | [_, _, _, _, _], _ => rfl
  have F4 := fun_mk (st := sFol) l4 c4 k4
  have b4 := F4.binds (ps := ["world", "state", "label"]) fun _ _ _ _ _ _ us hl => match us, hl with | [_, _, _], _ => rfl
  have F5 := fun_mk (st := sNum) l5 c5 k5
  have b5 := F5.binds (ps := ["signs"]) fun _ _ _ _ _ _ us hl => match us, hl with | [_], _ => rfl
  have F6 := fun_mk (st := sSgn) l6 c6 k6
  have b6 := F6.binds (ps := ["world", "state", "classes_now"]) fun _ _ _ _ _ _ us hl => match us, hl with | [_, _, _], _ => rfl
  have F7 := fun_mk (st := sRou) l7 c7 k7
  have b7 := F7.binds (ps := ["world"]) fun _ _ _ _ _ _ us hl => match us, hl with | [_], _ => rfl
  have F8 := fun_mk (st := sLin) l8 c8 k8
  have b8 := F8.binds (ps := ["self", "world"]) fun _ _ _ _ _ _ us hl => match us, hl with | [_, _], _ => rfl
  have F9 := fun_mk (st := sPar) l9 c9 k9
  have b9 := F9.binds (ps := ["self", "first", "second"]) fun _ _ _ _ _ _ us hl => match us, hl with | [_, _, _], _ => rfl
  have F10 := fun_mk (st := sWnr) l10 c10 k10
  have b10 := F10.binds (ps := ["self", "first", "second"]) fun _ _ _ _ _ _ us hl => match us, hl with | [_, _, _], _ => rfl
  have F11 := fun_mk (st := sAtt) l11 c11 k11
  have b11 := F11.binds (ps := ["self", "first", "second"]) fun _ _ _ _ _ _ us hl => match us, hl with | [_, _, _], _ => rfl
  have F12 := fun_mk (st := sAns) l12 c12 k12
  have b12 := F12.binds (ps := ["self", "first", "second", "side", "label", "end"]) fun _ _ _ _ _ _ us hl => match us, hl with | [_, _, _, _, _, _], _ => rfl
  have F13 := fun_mk (st := sDra) l13 c13 k13
  have b13 := F13.binds (ps := ["_law_script", "_law_count"]) fun _ _ _ _ _ _ us hl => match us, hl with | [_, _], _ => rfl
  have F14 := fun_mk (st := sTak) l14 c14 k14
  have b14 := F14.binds (ps := ["_law_draws_here", "_law_limit"]) fun _ _ _ _ _ _ us hl => match us, hl with | [_, _], _ => rfl
  have F15 := fun_mk (st := sIsi) l15 c15 k15
  have b15 := F15.binds (ps := ["_law_actual"]) fun _ _ _ _ _ _ us hl => match us, hl with | [_], _ => rfl
  have F16 := fun_mk (st := sWor) l16 c16 k16
  have b16 := F16.binds (ps := ["_law_draws_here", "_law_most", "_law_facts"]) fun _ _ _ _ _ _ us hl => match us, hl with | [_, _, _], _ => rfl
  have F17 := fun_mk (st := sMad) l17 c17 k17
  have b17 := F17.binds (ps := ["_law_world_here", "_law_labels", "_law_facts"]) fun _ _ _ _ _ _ us hl => match us, hl with | [_, _, _], _ => rfl
  have F18 := fun_mk (st := sBeh) l18 c18 k18
  have b18 := F18.binds (ps := ["_law_world_here", "_law_state", "_law_label"]) fun _ _ _ _ _ _ us hl => match us, hl with | [_, _, _], _ => rfl
  have F19 := fun_mk (st := sCla) l19 c19 k19
  have b19 := F19.binds (ps := ["_law_world_here"]) fun _ _ _ _ _ _ us hl => match us, hl with | [_], _ => rfl
  have F20 := fun_mk (st := sOut) l20 c20 k20
  have b20 := F20.binds (ps := ["_law_world_here"]) fun _ _ _ _ _ _ us hl => match us, hl with | [_], _ => rfl
  have F21 := fun_mk (st := sAtk) l21 c21 k21
  have b21 := F21.binds (ps := ["_law_draws_here", "_law_world_here", "_law_game", "_law_first", "_law_second"]) fun _ _ _ _ _ _ us hl => match us, hl with | [_, _, _, _, _], _ => rfl
  have F22 := fun_mk (st := sAwd) l22 c22 k22
  have b22 := F22.binds (ps := ["_law_draws_here", "_law_world_here", "_law_game", "_law_first", "_law_second", "_law_classes_here"]) fun _ _ _ _ _ _ us hl => match us, hl with | [_, _, _, _, _, _], _ => rfl
  have F23 := fun_mk (st := sLaw) l23 c23 k23
  let D : Ds K mg := ⟨CW, CL, CT, T, er, f1, _, ⟨F1, PySem.W.mg_of X G a1, b1⟩, f2, _, ⟨F2, PySem.W.mg_of X G a2, b2⟩, f3, _, ⟨F3, ⟨mkW, a3, i3, kcW⟩, b3⟩, f4, _, ⟨F4, PySem.W.mg_of X G a4, b4⟩, f5, _, ⟨F5, PySem.W.mg_of X G a5, b5⟩, f6, _, ⟨F6, PySem.W.mg_of X G a6, b6⟩, f7, _, ⟨F7, PySem.W.mg_of X G a7, b7⟩, f8, _, ⟨F8, ⟨mkL, a8, i8, kcL⟩, b8⟩, f9, _, ⟨F9, ⟨a9, i9, k9⟩, b9⟩, f10, _, ⟨F10, ⟨a10, i10, k10⟩, b10⟩, f11, _, ⟨F11, ⟨a11, i11, k11⟩, b11⟩, f12, _, ⟨F12, ⟨a12, i12, k12⟩, b12⟩, f13, _, ⟨F13, PySem.W.mg_of X G a13, b13⟩, f14, _, ⟨F14, PySem.W.mg_of X G a14, b14⟩, f15, _, ⟨F15, PySem.W.mg_of X G a15, b15⟩, f16, _, ⟨F16, PySem.W.mg_of X G a16, b16⟩, f17, _, ⟨F17, PySem.W.mg_of X G a17, b17⟩, f18, _, ⟨F18, PySem.W.mg_of X G a18, b18⟩, f19, _, ⟨F19, PySem.W.mg_of X G a19, b19⟩, f20, _, ⟨F20, PySem.W.mg_of X G a20, b20⟩, f21, _, ⟨F21, PySem.W.mg_of X G a21, b21⟩, f22, _, ⟨F22, PySem.W.mg_of X G a22, b22⟩⟩
  exact ⟨PySem.W.fnOf "law" "law" (defArgs sLaw) (defBody sLaw) (defScope sLaw) .none kV23 dc23 pm23 an23 cd23 ct23, fun s v => .of_eq rfl, fun base _ _ => ok_law F23 D⟩
theorem walk {l : PySem.W.OpenLaw} {q : Program} {loose : List Str} {XP : (Str → Option Value) → Heap → Prop} {YP : World → Heap → Prop} {d : DefRec} {K : Params → PySem.W.Frag} (hn : l.most = some 63) (hdf : d.params.defaults = [])
    (hY : ∀ (w : World) (h : Heap), YP w h → (K w.params).In h)
    (F : ∀ (w : World) (mg : Str → Option Value) (fa : Addr) (h : Heap), (K w.params).In h → h.Ns mainGlobals mg → mg d.name = some (.ref fa) →
      ∃ fd : FuncData, (∀ (s : Shared) (u : Value), BindsTo s fd ⟨[u], []⟩ [("_law_script", u)]) ∧ ∀ base : Heap, (K w.params).In base → base.Ns mainGlobals mg → FnOk l.prog w (K w.params) mg base CX0 7 fa fd ["_law_script"] (spLaw (K w.params))) :
    PySem.W.WalkO q loose XP YP l.row.toRowW d [] (fun f vs => PySem.call f vs) :=
  L2.walk_of (n := 63) (k := 7) (x := "_law_script") (CX := fun _ => CX0) (sp := fun w => spLaw (K w.params)) hn (by decide) hdf ⟨rfl, by decide, by decide⟩ hY F (fun _ _ a ns hl _ hS => ⟨a, ns, rfl, hS, hl, fun _ => rfl⟩) fun _ _ _ _ _ z => z
end K34

open PySem PySem.W PyProof.Rows in
set_option maxRecDepth 100000 in
set_option maxHeartbeats 0 in
theorem PySem.Challenge.cw_fixworlds_k34_whole_likeness_games_holds : PySem.Challenge.rw_fixworlds_k34_whole_likeness_games.Holds := by
  w_on; o_law; k_head; (case hw => w_witness2)
  k_fill
  refine K34.walk (l := PySem.Challenge.rw_fixworlds_k34_whole_likeness_games) rfl rfl (fun w h Y => PySem.W.kIn_of Y) ?F
  case F =>
    intro w mg fa h KX G hmg
    refine' K34.all_mk KX G hmg ?aW ?aL ?aT ?mW ?mL ?a1 ?l1 ?c1 ?k1 ?a2 ?l2 ?c2 ?k2 ?a3 ?i3 ?l3 ?c3 ?k3 ?a4 ?l4 ?c4 ?k4 ?a5 ?l5 ?c5 ?k5 ?a6 ?l6 ?c6 ?k6 ?a7 ?l7 ?c7 ?k7 ?a8 ?i8 ?l8 ?c8 ?k8 ?a9 ?i9 ?l9 ?c9 ?k9 ?a10 ?i10 ?l10 ?c10 ?k10 ?a11 ?i11 ?l11 ?c11 ?k11 ?a12 ?i12 ?l12 ?c12 ?k12 ?a13 ?l13 ?c13 ?k13 ?a14 ?l14 ?c14 ?k14 ?a15 ?l15 ?c15 ?k15 ?a16 ?l16 ?c16 ?k16 ?a17 ?l17 ?c17 ?k17 ?a18 ?l18 ?c18 ?k18 ?a19 ?l19 ?c19 ?k19 ?a20 ?l20 ?c20 ?k20 ?a21 ?l21 ?c21 ?k21 ?a22 ?l22 ?c22 ?k22 ?a23 ?l23 ?c23 ?k23 ?pgW ?hdW ?poW ?saW ?mkW ?kcW ?nW0 ?nW1 ?nW2 ?nW3 ?pgL ?hdL ?poL ?saL ?mkL ?kcL ?nL0 ?nL1 ?xT ?kT ?bT ?tT ?iT ?sT ?z_len ?z_range ?z_min ?z_max ?z_tuple ?z_sorted ?z_set ?z_int ?z_bool ?z_list ?z_isinstance
    (case aW => k_is)
    (case aL => k_is)
    (case aT => k_is)
    (case mW => k_is)
    (case mL => k_is)
    (case a1 => k_is)
    (case l1 => k_is)
    (case c1 => k_is)
    (case k1 => k_is)
    (case a2 => k_is)
    (case l2 => k_is)
    (case c2 => k_is)
    (case k2 => k_is)
    (case a3 => k_is)
    (case i3 => k_is)
    (case l3 => k_is)
    (case c3 => k_is)
    (case k3 => k_is)
    (case a4 => k_is)
    (case l4 => k_is)
    (case c4 => k_is)
    (case k4 => k_is)
    (case a5 => k_is)
    (case l5 => k_is)
    (case c5 => k_is)
    (case k5 => k_is)
    (case a6 => k_is)
    (case l6 => k_is)
    (case c6 => k_is)
    (case k6 => k_is)
    (case a7 => k_is)
    (case l7 => k_is)
    (case c7 => k_is)
    (case k7 => k_is)
    (case a8 => k_is)
    (case i8 => k_is)
    (case l8 => k_is)
    (case c8 => k_is)
    (case k8 => k_is)
    (case a9 => k_is)
    (case i9 => k_is)
    (case l9 => k_is)
    (case c9 => k_is)
    (case k9 => k_is)
    (case a10 => k_is)
    (case i10 => k_is)
    (case l10 => k_is)
    (case c10 => k_is)
    (case k10 => k_is)
    (case a11 => k_is)
    (case i11 => k_is)
    (case l11 => k_is)
    (case c11 => k_is)
    (case k11 => k_is)
    (case a12 => k_is)
    (case i12 => k_is)
    (case l12 => k_is)
    (case c12 => k_is)
    (case k12 => k_is)
    (case a13 => k_is)
    (case l13 => k_is)
    (case c13 => k_is)
    (case k13 => k_is)
    (case a14 => k_is)
    (case l14 => k_is)
    (case c14 => k_is)
    (case k14 => k_is)
    (case a15 => k_is)
    (case l15 => k_is)
    (case c15 => k_is)
    (case k15 => k_is)
    (case a16 => k_is)
    (case l16 => k_is)
    (case c16 => k_is)
    (case k16 => k_is)
    (case a17 => k_is)
    (case l17 => k_is)
    (case c17 => k_is)
    (case k17 => k_is)
    (case a18 => k_is)
    (case l18 => k_is)
    (case c18 => k_is)
    (case k18 => k_is)
    (case a19 => k_is)
    (case l19 => k_is)
    (case c19 => k_is)
    (case k19 => k_is)
    (case a20 => k_is)
    (case l20 => k_is)
    (case c20 => k_is)
    (case k20 => k_is)
    (case a21 => k_is)
    (case l21 => k_is)
    (case c21 => k_is)
    (case k21 => k_is)
    (case a22 => k_is)
    (case l22 => k_is)
    (case c22 => k_is)
    (case k22 => k_is)
    (case a23 => k_is)
    (case l23 => k_is)
    (case c23 => k_is)
    (case k23 => k_is)
    (case pgW => k_is)
    (case hdW => k_is)
    (case poW => k_is)
    (case saW => k_is)
    (case mkW => k_is)
    (case kcW => k_is)
    (case nW0 => k_is)
    (case nW1 => k_is)
    (case nW2 => k_is)
    (case nW3 => k_is)
    (case pgL => k_is)
    (case hdL => k_is)
    (case poL => k_is)
    (case saL => k_is)
    (case mkL => k_is)
    (case kcL => k_is)
    (case nL0 => k_is)
    (case nL1 => k_is)
    (case xT => k_exc)
    (case kT => k_is)
    (case bT => k_is)
    (case tT => k_is)
    (case iT => k_is)
    (case sT => first | rfl | k_is)
    (case z_len => k_is)
    (case z_range => k_is)
    (case z_min => k_is)
    (case z_max => k_is)
    (case z_tuple => k_is)
    (case z_sorted => k_is)
    (case z_set => k_is)
    (case z_int => k_is)
    (case z_bool => k_is)
    (case z_list => k_is)
    (case z_isinstance => k_is)
