import PyProof.Rows.All
import Wide.All
import OpenK.AllK
import Wide.FinOn
import HandS.TupSets
import KE.SortData
import KE.DataMinMax
import HandS.ForMost
import HandS.Walk
import HandS.Zip
import KE.GoesMore
import KE.GoesEnum
import KE.DatumOrd
import KE.KTupSum
import KE.KDictPairs
import HandS.IsInst
import HandS.TupAny
import HandS.Style
import HandS.Deep
import PySem.Challenge.RW_casknotes_k66_whole_few_among_all
set_option Elab.async false
/-! Rows of pairs (sum, many), their paper, all choices: plain mathematics. -/
namespace K66
set_option autoImplicit false

abbrev Pr := Int × Int
/-- one grain more -/
def addP (g : Int) (p : Pr) : Pr := (p.1 + g, p.2 + 1)
/-- the tuples' order -/
def lx (p q : Pr) : Prop := p.1 < q.1 ∨ (p.1 = q.1 ∧ p.2 < q.2)
instance (p q : Pr) : Decidable (lx p q) := by unfold lx; infer_instance
theorem lx_irr (p : Pr) : ¬ lx p p := by unfold lx; omega
theorem lx_trans {p q r : Pr} (a : lx p q) (b : lx q r) : lx p r := by unfold lx at *; omega
theorem lx_ne {p q : Pr} (a : lx p q) : p ≠ q := fun e => by subst e; exact lx_irr p a
theorem pr_ext {p q : Pr} (a : p.1 = q.1) (b : p.2 = q.2) : p = q := Prod.ext a b

/-- the next row -/
structure Step (ps : List Pr) (g : Int) (qs : List Pr) : Prop where
  ris : qs.Pairwise lx
  mem : ∀ q, q ∈ qs ↔ q ∈ ps ∨ ∃ p ∈ ps, q = addP g p
/-- all rows: one more than grains -/
structure Paper (gs : List Int) (rows : List (List Pr)) : Prop where
  len : rows.length = gs.length + 1
  first : rows[0]? = some [((0, 0) : Pr)]
  step : ∀ (i : Nat) (g : Int) (ps qs : List Pr), gs[i]? = some g → rows[i]? = some ps → rows[i + 1]? = some qs → Step ps g qs

theorem nodup_of_ris {l : List Pr} (h : l.Pairwise lx) : l.Nodup := List.Pairwise.imp (fun a => lx_ne a) h
theorem nodup_sub_len {α : Type} [DecidableEq α] : ∀ (l D : List α), l.Nodup → (∀ x ∈ l, x ∈ D) → l.length ≤ D.length
  | [], _, _, _ => Nat.zero_le _
  | x :: l, D, hn, hs => by
    obtain ⟨h1, h2⟩ := List.nodup_cons.mp hn
    have hx : x ∈ D := hs x List.mem_cons_self
    have ih := nodup_sub_len l (D.erase x) h2 fun y hy => (List.mem_erase_of_ne (fun e => h1 (by rw [← e]; exact hy))).2 (hs y (List.mem_cons_of_mem _ hy))
    have e := List.length_erase_of_mem hx
    have hp : 0 < D.length := List.length_pos_of_mem hx
    rw [List.length_cons]
    omega
theorem Step.len_le {ps qs : List Pr} {g : Int} (s : Step ps g qs) : qs.length ≤ 2 * ps.length := by
  have h := nodup_sub_len qs (ps ++ ps.map (addP g)) (nodup_of_ris s.ris) fun q hq => by
    rcases (s.mem q).1 hq with z | ⟨p, hp, e⟩
    · exact List.mem_append_left _ z
    · exact List.mem_append_right _ (List.mem_map.mpr ⟨p, hp, e.symm⟩)
  rw [List.length_append, List.length_map] at h
  omega

/-- the i-th row has at most 2 ^ i pairs; all are from 0 on -/
structure RowOk (i : Nat) (ps : List Pr) : Prop where
  ris : ps.Pairwise lx
  pos : ∀ p ∈ ps, 0 ≤ p.1 ∧ 0 ≤ p.2
  len : ps.length ≤ 2 ^ i
  ne : ps ≠ []
theorem Step.ok {i : Nat} {ps qs : List Pr} {g : Int} (s : Step ps g qs) (r : RowOk i ps) (hg : 0 ≤ g) : RowOk (i + 1) qs where
  ris := s.ris
  pos := fun q hq => by
    rcases (s.mem q).1 hq with z | ⟨p, hp, e⟩
    · exact r.pos q z
    · have h := r.pos p hp
      subst e
      show 0 ≤ p.1 + g ∧ 0 ≤ p.2 + 1
      omega
  len := by
    have h := s.len_le
    have h2 := r.len
    rw [Nat.pow_succ]
    omega
  ne := fun e => by
    cases hps : ps with
    | nil => exact r.ne hps
    | cons p l =>
      have hm := (s.mem p).2 (.inl (by rw [hps]; exact List.mem_cons_self))
      rw [e] at hm
      cases hm
theorem rowOk_first : RowOk 0 [((0, 0) : Pr)] := ⟨List.pairwise_singleton _ _, fun p hp => by rw [List.mem_singleton.mp hp]; exact ⟨Int.le_refl 0, Int.le_refl 0⟩, Nat.le_refl _, fun e => by cases e⟩

theorem Paper.row {gs : List Int} {rows : List (List Pr)} (P : Paper gs rows) (hg : ∀ g ∈ gs, 0 ≤ g) : ∀ (i : Nat) (ps : List Pr), rows[i]? = some ps → RowOk i ps
  | 0, ps, h => by
    have e := P.first.symm.trans h
    rw [← Option.some.inj e]
    exact rowOk_first
  | i + 1, ps, h => by
    have hl := (List.getElem?_eq_some_iff.mp h).1
    rw [P.len] at hl
    have hi : i < gs.length := by omega
    have hr : i < rows.length := by rw [P.len]; omega
    exact (P.step i _ _ _ (List.getElem?_eq_getElem hi) (List.getElem?_eq_getElem hr) h).ok (P.row hg i _ (List.getElem?_eq_getElem hr)) (hg _ (List.getElem_mem hi))

/-- the paper of no grain -/
theorem paper_nil : Paper [] [[((0, 0) : Pr)]] := ⟨rfl, rfl, fun i g ps qs h => by simp at h⟩
/-- one row more -/
theorem Paper.snoc {gs : List Int} {rows : List (List Pr)} (P : Paper gs rows) {g : Int} {ps qs : List Pr} (hp : rows[gs.length]? = some ps) (s : Step ps g qs) : Paper (gs ++ [g]) (rows ++ [qs]) where
  len := by rw [List.length_append, List.length_append, P.len]; rfl
  first := by
    rw [List.getElem?_append_left (by rw [P.len]; omega)]
    exact P.first
  step := fun i g' ps' qs' h1 h2 h3 => by
    have hl := (List.getElem?_eq_some_iff.mp h1).1
    rw [List.length_append] at hl
    have hl' : i < gs.length + 1 := hl
    by_cases c : i = gs.length
    · subst c
      rw [List.getElem?_append_right (Nat.le_refl _), Nat.sub_self] at h1
      have e1 : g = g' := Option.some.inj h1
      rw [List.getElem?_append_left (by rw [P.len]; omega)] at h2
      have e2 : ps = ps' := Option.some.inj (hp.symm.trans h2)
      rw [List.getElem?_append_right (by rw [P.len]; omega), P.len, Nat.sub_self] at h3
      have e3 : qs = qs' := Option.some.inj h3
      rw [← e1, ← e2, ← e3]
      exact s
    · rw [List.getElem?_append_left (by omega)] at h1
      rw [List.getElem?_append_left (by rw [P.len]; omega)] at h2
      rw [List.getElem?_append_left (by rw [P.len]; omega)] at h3
      exact P.step i g' ps' qs' h1 h2 h3

/-- all choices' pairs, in the order in which the law makes them -/
def sums : List Int → List Pr → List Pr
  | [], cs => cs
  | g :: gs, cs => sums gs (cs ++ cs.map (addP g))
theorem sums_snoc : ∀ (gs : List Int) (g : Int) (cs : List Pr), sums (gs ++ [g]) cs = sums gs cs ++ (sums gs cs).map (addP g)
  | [], _, _ => rfl
  | x :: gs, g, cs => sums_snoc gs g (cs ++ cs.map (addP x))
theorem sums_len : ∀ (gs : List Int) (cs : List Pr), (sums gs cs).length = cs.length * 2 ^ gs.length
  | [], cs => by simp [sums]
  | x :: gs, cs => by
    show (sums gs (cs ++ cs.map (addP x))).length = _
    rw [sums_len gs, List.length_append, List.length_map, List.length_cons, Nat.pow_succ, ← Nat.mul_two, Nat.mul_assoc, Nat.mul_comm 2]
/-- choices of the first i grains stand in the i-th row -/
theorem Paper.sums_mem {gs : List Int} {rows : List (List Pr)} (P : Paper gs rows) : ∀ (i : Nat) (ps : List Pr), rows[i]? = some ps → ∀ q, q ∈ sums (gs.take i) [((0, 0) : Pr)] ↔ q ∈ ps
  | 0, ps, h, q => by
    have e := P.first.symm.trans h
    rw [← Option.some.inj e]
    rfl
  | i + 1, ps, h, q => by
    have hl := (List.getElem?_eq_some_iff.mp h).1
    rw [P.len] at hl
    have hi : i < gs.length := by omega
    have hr : i < rows.length := by rw [P.len]; omega
    have s := P.step i _ _ _ (List.getElem?_eq_getElem hi) (List.getElem?_eq_getElem hr) h
    have ih := P.sums_mem i _ (List.getElem?_eq_getElem hr)
    rw [List.take_add_one, List.getElem?_eq_getElem hi]
    show q ∈ sums (gs.take i ++ [gs[i]]) _ ↔ _
    rw [sums_snoc, List.mem_append, s.mem q, ih q]
    refine or_congr Iff.rfl ?_
    rw [List.mem_map]
    constructor
    · rintro ⟨p, hp, e⟩
      exact ⟨p, (ih p).1 hp, e.symm⟩
    · rintro ⟨p, hp, e⟩
      exact ⟨p, (ih p).2 hp, e.symm⟩
theorem sums_all : ∀ (gs : List Int) (cs : List Pr) (p : Pr), p ∈ cs → (p.1 + gs.sum, p.2 + gs.length) ∈ sums gs cs
  | [], cs, p, h => by
    have e : ((p.1 + ([] : List Int).sum, p.2 + (([] : List Int).length : Int)) : Pr) = p := pr_ext (by simp) (by simp)
    rw [e]
    exact h
  | g :: gs, cs, p, h => by
    have h2 := sums_all gs (cs ++ cs.map (addP g)) (addP g p) (List.mem_append_right _ (List.mem_map_of_mem h))
    have e : ((p.1 + (g :: gs).sum, p.2 + ((g :: gs).length : Int)) : Pr) = ((addP g p).1 + gs.sum, (addP g p).2 + (gs.length : Int)) := pr_ext (by
      show p.1 + (g :: gs).sum = p.1 + g + gs.sum
      rw [List.sum_cons]; omega) (by
      show p.2 + ((g :: gs).length : Int) = p.2 + 1 + gs.length
      rw [List.length_cons]; omega)
    rw [e]
    exact h2

/-- the last row -/
theorem Paper.last {gs : List Int} {rows : List (List Pr)} (P : Paper gs rows) : ∃ ps, rows[gs.length]? = some ps ∧ ∀ q, q ∈ sums gs [((0, 0) : Pr)] ↔ q ∈ ps := by
  have hr : gs.length < rows.length := by rw [P.len]; omega
  refine ⟨_, List.getElem?_eq_getElem hr, fun q => ?_⟩
  have h := P.sums_mem gs.length _ (List.getElem?_eq_getElem hr) q
  rw [List.take_length] at h
  exact h

/-! ### the choice, from the last row back -/
/-- what chosen_by has ahead of number k: its own numbers (falling, from k on), the pair that is left -/
structure Back (gs : List Int) (goal : Pr) (k : Nat) (cs : List Nat) (left : Pr) : Prop where
  fall : cs.Pairwise (· > ·)
  bd : ∀ c ∈ cs, k ≤ c ∧ c < gs.length
  one : (cs.map fun c => gs.getD c 0).sum + left.1 = goal.1
  two : (cs.length : Int) + left.2 = goal.2
theorem Back.start (gs : List Int) (goal : Pr) : Back gs goal gs.length [] goal := ⟨List.Pairwise.nil, fun c h => by (cases h), by simp, by simp⟩
theorem Back.skip {gs : List Int} {goal left : Pr} {k : Nat} {cs : List Nat} (b : Back gs goal (k + 1) cs left) : Back gs goal k cs left :=
  ⟨b.fall, fun c h => ⟨Nat.le_of_succ_le (b.bd c h).1, (b.bd c h).2⟩, b.one, b.two⟩
theorem sum_snoc (l : List Int) (x : Int) : (l ++ [x]).sum = l.sum + x := by
  induction l with
  | nil => simp
  | cons a l ih => rw [List.cons_append, List.sum_cons, List.sum_cons, ih]; omega
theorem Back.take {gs : List Int} {goal left : Pr} {k : Nat} {cs : List Nat} (b : Back gs goal (k + 1) cs left) (hk : k < gs.length) :
    Back gs goal k (cs ++ [k]) (left.1 - gs.getD k 0, left.2 - 1) where
  fall := List.pairwise_append.mpr ⟨b.fall, List.pairwise_singleton _ _, fun c hc d hd => by
    rw [List.mem_singleton.mp hd]
    exact (b.bd c hc).1⟩
  bd := fun c h => by
    rcases List.mem_append.mp h with z | z
    · exact ⟨Nat.le_of_succ_le (b.bd c z).1, (b.bd c z).2⟩
    · rw [List.mem_singleton.mp z]
      exact ⟨Nat.le_refl _, hk⟩
  one := by
    rw [List.map_append, List.map_cons, List.map_nil, sum_snoc]
    have h := b.one
    show _ + (left.1 - gs.getD k 0) = _
    omega
  two := by
    have h := b.two
    rw [List.length_append]
    show ((cs.length + 1 : Nat) : Int) + (left.2 - 1) = goal.2
    omega
/-- the pair that is left stands in the row ahead -/
theorem Paper.left {gs : List Int} {rows : List (List Pr)} (P : Paper gs rows) {k : Nat} {ps qs : List Pr} {left : Pr} (hk : k < gs.length) (hp : rows[k]? = some ps) (hq : rows[k + 1]? = some qs) (hm : left ∈ qs) (hn : left ∉ ps) :
    (left.1 - gs.getD k 0, left.2 - 1) ∈ ps := by
  have s := P.step k _ _ _ (List.getElem?_eq_getElem hk) hp hq
  rcases (s.mem left).1 hm with z | ⟨p, hp', e⟩
  · exact absurd z hn
  · have e2 : gs.getD k 0 = gs[k] := by rw [List.getD_eq_getElem?_getD, List.getElem?_eq_getElem hk]; rfl
    have e3 : ((left.1 - gs.getD k 0, left.2 - 1) : Pr) = p := by
      rw [e2, e]
      refine pr_ext ?_ ?_
      · show p.1 + gs[k] - gs[k] = p.1
        omega
      · show p.2 + 1 - 1 = p.2
        omega
    rw [e3]
    exact hp'
/-- the choice that is told: rising numbers of grains that come to the goal -/
structure Choice (gs : List Int) (goal : Pr) (cs : List Nat) : Prop where
  ris : cs.Pairwise (· < ·)
  bd : ∀ c ∈ cs, c < gs.length
  one : (cs.map fun c => gs.getD c 0).sum = goal.1
  two : (cs.length : Int) = goal.2
theorem sum_reverse (l : List Int) : l.reverse.sum = l.sum := by
  induction l with
  | nil => rfl
  | cons a l ih => rw [List.reverse_cons, sum_snoc, List.sum_cons, ih]; omega
theorem Back.end {gs : List Int} {goal : Pr} {cs : List Nat} (b : Back gs goal 0 cs (0, 0)) : Choice gs goal cs.reverse where
  ris := List.pairwise_reverse.mpr b.fall
  bd := fun c h => (b.bd c (List.mem_reverse.mp h)).2
  one := by
    rw [List.map_reverse, sum_reverse]
    have h := b.one
    simpa using h
  two := by
    rw [List.length_reverse]
    have h := b.two
    simpa using h
theorem Choice.ne {gs : List Int} {goal : Pr} {cs : List Nat} (c : Choice gs goal cs) (h : 0 < goal.1) : cs ≠ [] := fun e => by
  have h1 := c.one
  rw [e] at h1
  simp at h1
  omega
/-- what is told of one lot of grains and what is due -/
structure Told (gs : List Int) (due : Int) (goal : Pr) (cs : List Nat) (rows : List (List Pr)) : Prop where
  paper : Paper gs rows
  choice : Choice gs goal cs
  has : ∃ ps, rows[gs.length]? = some ps ∧ goal ∈ ps ∧ due ≤ goal.1 ∧ ∀ p ∈ ps, due ≤ p.1 → ¬ lx p goal
end K66
/-! set(..) of a list of tuples of whole numbers, up to 300 members: tables of 8, 32, 128, 512 places. -/
namespace K66
set_option linter.all false
set_option maxRecDepth 100000
set_option maxHeartbeats 4000000
open PySem PySem.Spec PyProof.Rows L2

/-! ### masks whose round 5 i + 1 meets every place -/
structure Cyc (m : Nat) : Prop where
  odd : m % 2 = 1
  all : ∀ i j, i ≤ m → j ≤ m → ∃ k, k ≤ m ∧ lcgI m i k = j
def seek (m j : Nat) : Nat → Nat → Bool
  | 0, _ => false
  | n + 1, x => x == j || seek m j n ((x * 5 + 1) % (m + 1))
theorem seek_ok {m j : Nat} : ∀ (n b : Nat), seek m j n (lcgN m b) = true → ∃ k, k < b + n ∧ lcgN m k = j
  | 0, b, h => by cases h
  | n + 1, b, h => by
    have h' : (lcgN m b == j || seek m j n (lcgN m (b + 1))) = true := h
    rcases Bool.or_eq_true_iff.mp h' with z | z
    · exact ⟨b, by omega, beq_iff_eq.mp z⟩
    · obtain ⟨k, hk, e⟩ := seek_ok n (b + 1) z
      exact ⟨k, by omega, e⟩
theorem all511 : ((List.range 512).all fun j => seek 511 j 512 0) = true := by decide +kernel
theorem round511 : lcgN 511 512 = 0 := by decide +kernel
theorem hit511 {j : Nat} (hj : j ≤ 511) : ∃ b, b ≤ 511 ∧ lcgN 511 b = j := by
  have h := List.all_eq_true.mp all511 j (List.mem_range.mpr (Nat.lt_succ_of_le hj))
  obtain ⟨k, hk, e⟩ := seek_ok (m := 511) (j := j) 512 0 h
  exact ⟨k, by omega, e⟩
theorem wrap511 : ∀ k, lcgN 511 (512 + k) = lcgN 511 k
  | 0 => round511
  | k + 1 => by
    show (lcgN 511 (512 + k) * 5 + 1) % (511 + 1) = (lcgN 511 k * 5 + 1) % (511 + 1)
    rw [wrap511 k]
theorem cyc511 : Cyc 511 where
  odd := rfl
  all := fun i j hi hj => by
    obtain ⟨a, ha, ea⟩ := hit511 hi
    obtain ⟨b, hb, eb⟩ := hit511 hj
    subst ea
    subst eb
    by_cases c : a ≤ b
    · refine ⟨b - a, by omega, ?_⟩
      rw [lcgN_add, show a + (b - a) = b by omega]
    · refine ⟨b + 512 - a, by omega, ?_⟩
      rw [lcgN_add, show a + (b + 512 - a) = 512 + b by omega, wrap511]
theorem cyc_small {m : Nat} (h : MaskOk m) : Cyc m := ⟨mask_odd h, fun _ _ hi hj => lcgI_all h hi hj⟩
/-- the masks that come -/
def Msk (m : Nat) : Prop := m = 7 ∨ m = 31 ∨ m = 127 ∨ m = 511
theorem Msk.cyc {m : Nat} (h : Msk m) : Cyc m := by
  rcases h with e | e | e | e
  · exact cyc_small (.inl e)
  · exact cyc_small (.inr (.inl e))
  · exact cyc_small (.inr (.inr e))
  · subst e; exact cyc511
/-- each place begins a run soon -/
theorem Msk.run {m : Nat} (hm : Msk m) (h : Int) {j : Nat} (hj : j ≤ m) : ∃ n, n ≤ m + 12 ∧ runI m (SetTable.bits h) n = j := by
  obtain ⟨k, hk, e⟩ := hm.cyc.all _ j (runI_le m (SetTable.bits h) 12) hj
  refine ⟨12 + k, by omega, ?_⟩
  rw [runI_tail (bits_lt h), e]
theorem Msk.meets {m : Nat} (hm : Msk m) (h : Int) {j : Nat} (hj : j ≤ m) : ∃ k, k < 10 * SetTable.turns m ∧ way m h k = j := by
  obtain ⟨n, hn, e⟩ := hm.run h hj
  obtain ⟨k, hk, e2⟩ := run_nth m (SetTable.bits h) n
  refine ⟨k, ?_, ?_⟩
  · unfold SetTable.turns
    omega
  · unfold way
    rw [e2]
    exact e
theorem way_in {m : Nat} {h : Int} {k : Nat} : way m h k ≤ m := by
  have hi : SetTable.bits h % (m + 1) ≤ m := Nat.le_of_lt_succ (Nat.mod_lt _ (Nat.succ_pos _))
  have q := nth_in (m := m) k (runAt m (SetTable.bits h % (m + 1)) (SetTable.bits h)) (by
    have r := runEnd_bd hi
    unfold runAt
    dsimp only
    omega)
  unfold way
  omega

/-! ### the table -/
structure Tab (t : SetTable) (hs : List Int) : Prop where
  ris : Ris t.place.toList
  dm : t.dummies = #[]
  sz : t.place.toList.length = hs.length
  msk : Msk t.mask
  bd : ∀ x ∈ t.place.toList, x ≤ t.mask
  reach : ∀ (i : Nat) (h : Int) (j : Nat), hs[i]? = some h → t.place.toList[i]? = some j → ∃ k, way t.mask h k = j ∧ ∀ k', k' < k → way t.mask h k' ∈ t.place.toList
/-- a way's first empty place -/
structure Gap (t : SetTable) (h : Int) (K : Nat) : Prop where
  free : way t.mask h K ∉ t.place.toList
  full : ∀ k, k < K → way t.mask h k ∈ t.place.toList
theorem Tab.gap {t : SetTable} {hs : List Int} (T : Tab t hs) (hl : hs.length ≤ t.mask) (h : Int) : ∃ K, K < 10 * SetTable.turns t.mask ∧ Gap t h K := by
  obtain ⟨j, hj, hn⟩ := st_missing t.place.toList (t.mask + 1) (by have := T.sz; omega)
  obtain ⟨k, hk, e⟩ := T.msk.meets h (Nat.le_of_lt_succ hj)
  obtain ⟨K, h1, h2, h3⟩ := st_least (p := fun k => way t.mask h k ∉ t.place.toList) k (by rw [e]; exact hn)
  exact ⟨K, by omega, h2, fun k' hk' => Classical.byContradiction fun c => h3 k' hk' c⟩
/-- what has the hash stands on the way ahead of the gap -/
theorem Tab.ahead {t : SetTable} {hs : List Int} (T : Tab t hs) {h : Int} {K i j : Nat} (G : Gap t h K) (hi : hs[i]? = some h) (hj : t.place.toList[i]? = some j) : ∃ k, k < K ∧ way t.mask h k = j := by
  obtain ⟨k, e, hb⟩ := T.reach i h j hi hj
  refine ⟨k, ?_, e⟩
  refine Classical.byContradiction fun c => ?_
  rcases Nat.lt_or_ge K k with z | z
  · exact G.free (hb K z)
  · have ek : k = K := by omega
    have f := G.free
    rw [← ek, e] at f
    exact f (List.mem_of_getElem? hj)
/-- the place below which the gap's place stands -/
abbrev cutAt (t : SetTable) (h : Int) (K : Nat) : Nat := SetTable.below t.place (way t.mask h K)
structure Put (t t' : SetTable) (n : Nat) : Prop where
  mask : t'.mask = t.mask
  led : t'.led = t.led
  plain : t'.plain = t.plain
  fill : t'.fill = n
theorem Tab.put {t : SetTable} {hs : List Int} (T : Tab t hs) {h : Int} {K : Nat} (G : Gap t h K) :
    cutAt t h K ≤ hs.length ∧ Tab (t.put (way t.mask h K)).1 (hs.take (cutAt t h K) ++ h :: hs.drop (cutAt t h K)) ∧ Put t (t.put (way t.mask h K)).1 (hs.length + 1) := by
  have hm : way t.mask h K ≤ t.mask := way_in
  have G1 := G.free
  have G2 := G.full
  unfold cutAt
  obtain ⟨j, hj⟩ : ∃ j, j = way t.mask h K := ⟨_, rfl⟩
  rw [← hj] at G1 hm ⊢
  obtain ⟨c1, _, _⟩ := below_cut T.ris j
  have hsz := T.sz
  generalize hp : SetTable.below t.place j = p at c1 ⊢
  have hpl : p ≤ t.place.toList.length := by rw [Array.length_toList]; exact c1
  have hph : p ≤ hs.length := by omega
  have pl : (t.put j).1.place.toList = t.place.toList.take p ++ j :: t.place.toList.drop p := by rw [put_place, hp]
  have dm : (t.put j).1.dummies = #[] := put_dm T.dm j
  have up : ∀ {x : Nat}, x ∈ t.place.toList → x ∈ (t.put j).1.place.toList := fun hx => by rw [pl]; exact mem_ins.2 (.inr hx)
  have ln : (t.put j).1.place.toList.length = hs.length + 1 := by rw [pl, len_ins _ hpl, hsz]
  refine ⟨hph, ⟨?_, dm, ?_, T.msk, fun x hx => ?_, fun i h' j' h1 h2 => ?_⟩, ⟨rfl, rfl, rfl, ?_⟩⟩
  · exact ris_insert T.ris fun e => G1 (List.mem_of_getElem? (by rw [Array.getElem?_toList]; exact e))
  · rw [ln, len_ins _ hph]
  · rw [pl] at hx
    rcases mem_ins.1 hx with z | z
    · rw [z]; exact hm
    · exact T.bd x z
  · rw [tins_get hs hph] at h1
    rw [pl, tins_get _ hpl] at h2
    have old : ∀ i', hs[i']? = some h' → t.place.toList[i']? = some j' → ∃ k, way t.mask h' k = j' ∧ ∀ k', k' < k → way t.mask h' k' ∈ (t.put j).1.place.toList := fun i' a1 a2 => by
      obtain ⟨k, e, z⟩ := T.reach i' h' j' a1 a2
      exact ⟨k, e, fun k' hk' => up (z k' hk')⟩
    show ∃ k, way t.mask h' k = j' ∧ ∀ k', k' < k → way t.mask h' k' ∈ (t.put j).1.place.toList
    by_cases c : i < p
    · rw [if_pos c] at h1 h2
      exact old i h1 h2
    · rw [if_neg c] at h1 h2
      by_cases d : i = p
      · rw [if_pos d] at h1 h2
        obtain rfl : h = h' := Option.some.inj h1
        obtain rfl : j = j' := Option.some.inj h2
        exact ⟨K, hj.symm, fun k' hk' => up (G2 k' hk')⟩
      · rw [if_neg d] at h1 h2
        exact old (i - 1) h1 h2
  · unfold SetTable.fill
    rw [dm, ← Array.length_toList, ln]
    rfl

/-! ### laid anew -/
/-- the first free place of the way is told -/
theorem Msk.spot {m : Nat} (hm : Msk m) (owner : Array (Option Nat)) (h : Int) {j : Nat} (hj : j ≤ m) (hf : oAt owner j = none) :
    ∃ K, SetTable.layClean.free m owner (SetTable.turns m) (SetTable.bits h % (m + 1)) (SetTable.bits h) = some (way m h K) ∧ oAt owner (way m h K) = none ∧ ∀ k, k < K → oAt owner (way m h k) ≠ none := by
  obtain ⟨n, hn, e⟩ := hm.run h hj
  generalize hb : SetTable.bits h = b at e ⊢
  have hw : ∀ k, way m h k = (nth m (runAt m (b % (m + 1)) b) k).j := fun k => by unfold way; rw [hb]
  have hat : way m h (off m (b % (m + 1)) b n) = j := by
    rw [hw, nth_off, itL_run]
    exact e
  obtain ⟨K, k1, k2, k3⟩ := st_least (p := fun k => oAt owner (way m h k) = none) (off m (b % (m + 1)) b n) (by rw [hat]; exact hf)
  refine ⟨K, ?_, k2, k3⟩
  have q := free_spec m owner (SetTable.turns m) n (b % (m + 1)) b K (by unfold SetTable.turns; omega) k1 (fun k hk => by
    have z := k3 k hk
    rw [← hw k]
    cases y : oAt owner (way m h k) with
    | none => exact absurd y z
    | some _ => rfl) (by rw [← hw K, k2]; rfl)
  rw [q, hw K]
theorem Msk.next {m : Nat} (hm : Msk m) {done : List Int} {owner : Array (Option Nat)} (W : Own m done owner) (hl : done.length ≤ m) (h : Int) :
    ∃ j, SetTable.layClean.free m owner (SetTable.turns m) (SetTable.bits h % (m + 1)) (SetTable.bits h) = some j ∧ Own m (done ++ [h]) (owner.setIfInBounds j (some done.length)) := by
  obtain ⟨ps, hps, hin⟩ := W.ps
  obtain ⟨j0, h0, hn0⟩ := st_missing ps (m + 1) (by omega)
  have hj0 : oAt owner j0 = none := Classical.byContradiction fun c => hn0 (hin j0 (Nat.le_of_lt_succ h0) c)
  obtain ⟨K, e1, e2, e3⟩ := hm.spot owner h (Nat.le_of_lt_succ h0) hj0
  have hjm : way m h K ≤ m := way_in
  generalize hj : way m h K = j at e1 e2 hjm
  have self := oAt_set_self (owner := owner) (some done.length) (j := j) (by rw [W.sz]; omega)
  have mono : ∀ {i : Nat}, oAt owner i ≠ none → oAt (owner.setIfInBounds j (some done.length)) i ≠ none := fun {i} hi => by
    by_cases c : i = j
    · rw [c, self]; exact fun e => nomatch e
    · rw [oAt_set_ne _ c]; exact hi
  refine ⟨j, e1, by rw [Array.size_setIfInBounds]; exact W.sz, fun i k hi e => ?_, fun k hk => ?_, j :: ps, by rw [List.length_cons, List.length_append, hps]; rfl, fun i hi e => ?_⟩
  · by_cases c : i = j
    · rw [c, self] at e
      obtain rfl : done.length = k := Option.some.inj e
      exact ⟨h, K, by simp, by rw [c, hj], fun k' hk' => mono (e3 k' hk')⟩
    · rw [oAt_set_ne _ c] at e
      obtain ⟨h', K', a1, a2, a3⟩ := W.at_ i k hi e
      exact ⟨h', K', by rw [List.getElem?_append_left (List.getElem?_eq_some_iff.mp a1).1]; exact a1, a2, fun k' hk' => mono (a3 k' hk')⟩
  · rw [List.length_append] at hk
    have hk' : k < done.length + 1 := hk
    by_cases c : k = done.length
    · exact ⟨j, hjm, by rw [c]; exact self⟩
    · obtain ⟨i, hi, e⟩ := W.all k (by omega)
      have ne : i ≠ j := fun z => by rw [z, e2] at e; cases e
      exact ⟨i, hi, by rw [oAt_set_ne _ ne]; exact e⟩
  · by_cases c : i = j
    · rw [c]; exact List.mem_cons_self
    · rw [oAt_set_ne _ c] at e
      exact List.mem_cons_of_mem _ (hin i hi e)
theorem Msk.lay {m : Nat} (hm : Msk m) : ∀ (more done : List Int) (owner : Array (Option Nat)), Own m done owner → done.length + more.length ≤ m →
    ∃ owner', more.foldl (stepF m) (some (owner, done.length)) = some (owner', (done ++ more).length) ∧ Own m (done ++ more) owner'
  | [], done, owner, W, _ => ⟨owner, by simp, by rw [List.append_nil]; exact W⟩
  | h :: more, done, owner, W, hl => by
    rw [List.length_cons] at hl
    obtain ⟨j, e, W'⟩ := hm.next W (by omega) h
    have hl1 : (done ++ [h]).length = done.length + 1 := by simp
    obtain ⟨owner', f, W2⟩ := hm.lay more (done ++ [h]) _ W' (by omega)
    have ea : done ++ [h] ++ more = done ++ h :: more := by simp
    rw [ea, hl1] at f
    rw [ea] at W2
    exact ⟨owner', by rw [List.foldl_cons, stepF_some e]; exact f, W2⟩
structure Anew (t t' : SetTable) (M : Nat) : Prop where
  mask : t'.mask = M
  led : t'.led = t.led
  plain : t'.plain = t.plain
theorem Msk.relaid {t : SetTable} {hs : Array Int} {wanted M : Nat} (hM : Msk M) (hw : SetTable.sizeAbove wanted - 1 = M) (hn : hs.size ≤ M) :
    ∃ t' order, t.relaid hs wanted = some (t', order) ∧ order.toList.Perm (List.range hs.size) ∧ Tab t' (order.toList.map fun i => hs.getD i 0) ∧ Anew t t' M := by
  obtain ⟨owner, f, W⟩ := hM.lay hs.toList [] (Array.replicate (M + 1) none) (Own.init M) (by simpa using hn)
  rw [List.nil_append] at f W
  have e : SetTable.layClean M hs = some owner := by
    have f' : hs.toList.foldl (stepF M) (some (Array.replicate (M + 1) none, 0)) = some (owner, hs.toList.length) := f
    rw [layClean_eq, f']
    rfl
  have hr : t.relaid hs wanted = some (tabOf t M owner, ((liveOf M owner).map (·.2)).toArray) := by rw [relaid_eq, hw, e]; rfl
  obtain ⟨r1, r2⟩ := ris_live (fun j => owner.getD j none) (List.range (M + 1)) (by unfold Ris; exact List.pairwise_lt_range)
  have r1' : Ris ((liveOf M owner).map (·.1)) := r1
  have r2' : ∀ x ∈ (liveOf M owner).map (·.1), x ∈ List.range (M + 1) := r2
  obtain ⟨ps, p1, p2⟩ := W.ps
  have sz : hs.toList.length = hs.size := Array.length_toList
  have nd : ((liveOf M owner).map (·.1)).Nodup := List.Pairwise.imp (fun {a b} (h : a < b) => Nat.ne_of_lt h) r1'
  have low := nat_nodup_len ((liveOf M owner).map (·.1)) ps nd fun x hx => by
    obtain ⟨⟨y, k⟩, hq, rfl⟩ := List.mem_map.mp hx
    obtain ⟨b1, b2⟩ := (mem_live W.sz).1 hq
    exact p2 y b1 (by rw [b2]; exact fun z => nomatch z)
  have have2 : ∀ k, k < hs.size → k ∈ (liveOf M owner).map (·.2) := fun k hk => by
    obtain ⟨j, b1, b2⟩ := W.all k (by omega)
    exact List.mem_map.mpr ⟨(j, k), (mem_live W.sz).2 ⟨b1, b2⟩, rfl⟩
  have up := nat_nodup_len (List.range hs.size) ((liveOf M owner).map (·.2)) List.nodup_range fun k hk => have2 k (List.mem_range.mp hk)
  rw [List.length_map] at low up
  rw [List.length_range] at up
  have len : (liveOf M owner).length = hs.size := by omega
  refine ⟨_, _, hr, perm_range hs.size _ (by simpa using len) (fun k hk => by simpa using have2 k hk), ⟨?_, rfl, ?_, hM, fun x hx => ?_, fun i h j h1 h2 => ?_⟩, ⟨rfl, rfl, rfl⟩⟩
  · simpa [tabOf] using r1'
  · simp [tabOf]
  · have hx' : x ∈ (liveOf M owner).map (·.1) := by simpa [tabOf] using hx
    exact Nat.le_of_lt_succ (List.mem_range.mp (r2' x hx'))
  · have h2' : ((liveOf M owner).map (·.1))[i]? = some j := by simpa [tabOf] using h2
    have h1' : (((liveOf M owner).map (·.2)).map fun i => hs.getD i 0)[i]? = some h := h1
    rw [List.getElem?_map] at h2'
    rw [List.getElem?_map, List.getElem?_map] at h1'
    cases hq : (liveOf M owner)[i]? with
    | none => rw [hq] at h2'; cases h2'
    | some q =>
      obtain ⟨y, k⟩ := q
      rw [hq] at h1' h2'
      obtain rfl : y = j := Option.some.inj h2'
      have eh : hs.getD k 0 = h := Option.some.inj h1'
      obtain ⟨b1, b2⟩ := (mem_live W.sz).1 (List.mem_of_getElem? hq)
      obtain ⟨h0, K, a1, a2, a3⟩ := W.at_ y k b1 b2
      have e0 : hs.getD k 0 = h0 := by rw [Array.getD_eq_getD_getElem?, ← Array.getElem?_toList, a1]; rfl
      obtain rfl : h0 = h := e0.symm.trans eh
      refine ⟨K, a2, fun k' hk' => ?_⟩
      have goal : way M h0 k' ∈ (liveOf M owner).map (·.1) := by
        cases z : oAt owner (way M h0 k') with
        | none => exact absurd z (a3 k' hk')
        | some k2 => exact List.mem_map.mpr ⟨(way M h0 k', k2), (mem_live W.sz).2 ⟨way_in, z⟩, rfl⟩
      simpa [tabOf] using goal
end K66
namespace K66
set_option linter.all false
set_option maxRecDepth 100000
set_option maxHeartbeats 8000000
open PySem PySem.Spec PyProof.Rows L2

/-- a set of tuples of whole numbers stands at a: its members' addresses and keys in the table's order -/
structure SetL (P : Program) (w : World) (h : Heap) (a : Addr) (L : List (Addr × List Int)) (es : Array (Int × Value)) (ep : Nat) (t : SetTable) : Prop where
  ob : ∃ o, h.get? a = some o ∧ o.ExactSet ∧ o.data = .set es ep t
  rows : es.toList = rowsOf P w L
  tab : Tab t (L.map fun p => thash P w p.2)
  nd : (L.map (·.2)).Nodup
  tup : ∀ p ∈ L, IsT P w h p.2 p.1
  plain : t.plain = true
  led : w.params.followText "set-order" = true ∨ t.led = true
  room : L.length * 5 < t.mask * 3
  few : L.length ≤ 300

section
variable {P : Program} {w : World} {A : Around} {E : Value → Shared → Prop} {s : Shared} {a : Addr} {L : List (Addr × List Int)} {es : Array (Int × Value)} {ep : Nat} {t : SetTable}
theorem rows_size (h : es.toList = rowsOf P w L) : es.size = L.length := by
  rw [← Array.length_toList, h]
  unfold rowsOf
  exact List.length_map _
theorem fits_of (h1 : t.place.toList.length = es.size) (h2 : t.dummies = #[]) (h3 : es.size ≤ t.mask) : t.fits es.size = true := by
  unfold SetTable.fits SetTable.fill
  rw [h2, Bool.and_eq_true, beq_iff_eq, decide_eq_true_eq, ← Array.length_toList, h1]
  exact ⟨rfl, h3⟩
theorem SetL.size (R : SetL P w s.heap a L es ep t) : es.size = L.length := rows_size R.rows
theorem SetL.plen (R : SetL P w s.heap a L es ep t) : t.place.toList.length = L.length := by rw [R.tab.sz, List.length_map]
theorem SetL.fits (R : SetL P w s.heap a L es ep t) : t.fits es.size = true := by
  have h1 := R.size
  have h2 := R.plen
  have h3 := R.room
  exact fits_of (by omega) R.tab.dm (by omega)
theorem SetL.entry (R : SetL P w s.heap a L es ep t) {i : Nat} {p : Addr × List Int} (h : L[i]? = some p) : es[i]? = some (thash P w p.2, Value.ref p.1) := by
  rw [← Array.getElem?_toList, R.rows]
  unfold rowsOf
  rw [List.getElem?_map, h]
  rfl
theorem SetL.alive (R : SetL P w s.heap a L es ep t) : ¬ t.gaveWay = true := by
  unfold SetTable.gaveWay
  rw [R.tab.msk.cyc.odd]
  decide
theorem SetL.hashAt (R : SetL P w s.heap a L es ep t) {i : Nat} {p : Addr × List Int} (h : L[i]? = some p) : (es[i]?.map (·.1)).getD 0 = thash P w p.2 := by
  rw [R.entry h]
  rfl
/-- the way's c-th state -/
abbrev stp (m : Nat) (h : Int) (c : Nat) : SetTable.Probe := nth m (runAt m (SetTable.bits h % (m + 1)) (SetTable.bits h)) c
theorem stp_no (m : Nat) (h : Int) : ∀ c, (stp m h c).dummy = none
  | 0 => rfl
  | c + 1 => by
    unfold stp
    rw [nth_succ]
    have ih := stp_no m h c
    unfold stp at ih
    unfold adv
    split <;> exact ih
theorem stp_add (m : Nat) (h : Int) (c q : Nat) : nth m (stp m h c) q = stp m h (c + q) := (nth_add m c _ q).symm

/-- the search, from the c-th step on -/
theorem SetL.look (R : SetL P w s.heap a L es ep t) {x : Addr} {k : List Int} (hx : IsT P w s.heap k x) (hu : A.units < cLine) {K : Nat} (hK : K < 10 * SetTable.turns t.mask) (G : Gap t (thash P w k) K)
    {Q : SetFound → Shared → Prop} (hin : k ∈ L.map (·.2) → Q (.there none) s) (hout : k ∉ L.map (·.2) → Q (.free (way t.mask (thash P w k) K) false) s) :
    ∀ (f c : Nat) (stand : Option SetTable.Probe), stand.getD (t.probeStart (thash P w k)) = stp t.mask (thash P w k) c → c ≤ K → K - c < f →
      (∀ (i : Nat) (p : Addr × List Int), L[i]? = some p → p.2 = k → ∃ c', c ≤ c' ∧ c' < K ∧ t.place.toList[i]? = some (way t.mask (thash P w k) c')) →
      wpAny (model P w) A (setSearchFrom a (.ref x) (thash P w k) true f stand) Q E s := by
  intro f
  induction f with
  | zero => intro c stand _ _ hf; exact absurd hf (Nat.not_lt_zero _)
  | succ f ih =>
    intro c stand hst hc hf hre
    obtain ⟨o, ho, hex, hd⟩ := R.ob
    generalize hh : thash P w k = hk at *
    rw [setSearchFrom_succ]
    refine wpAny_bind (wpAny_setState_of ho hd R.fits ?_)
    dsimp only
    refine wp_if_neg R.alive ?_
    try refine wpAny_bind (wpAny_pure ?_)
    have jj : ∀ q, (nth t.mask (stp t.mask hk c) q).j = way t.mask hk (c + q) := fun q => congrArg SetTable.Probe.j (stp_add t.mask hk c q)
    have spec := go_spec t R.tab.ris R.tab.dm (fun i => (es[i]?.map (·.1)).getD 0) hk (10 * SetTable.turns t.mask) (K - c) (stp t.mask hk c) (stp_no _ _ _) (by omega)
      (fun q hq => by rw [jj]; exact G.full (c + q) (by omega)) (by rw [jj, show c + (K - c) = K by omega]; exact G.free)
    have pr : t.probe (fun i => (es[i]?.map (·.1)).getD 0) hk (stand.getD (t.probeStart hk)) = SetTable.probe.go t (fun i => (es[i]?.map (·.1)).getD 0) hk (10 * SetTable.turns t.mask) (stp t.mask hk c) := by rw [hst]; rfl
    rw [pr]
    rcases spec with ⟨q, i, hq, hi, hhi, hno, e⟩ | ⟨hno, e⟩
    · rw [e]
      dsimp only
      rw [jj] at hi ⊢
      rw [stp_add]
      have hil : i < L.length := by
        have h1 := (List.getElem?_eq_some_iff.mp hi).1
        have h2 := R.plen
        omega
      obtain ⟨p, hp⟩ : ∃ p, L[i]? = some p := ⟨_, List.getElem?_eq_getElem hil⟩
      have hmem : p ∈ L := List.mem_of_getElem? hp
      have cont : wpAny (model P w) A (searchRest a (.ref x) hk true f es t (way t.mask hk (c + q)) i (stp t.mask hk (c + (q + 1)))) Q E s := by
        unfold searchRest
        rw [R.entry hp]
        dsimp only
        refine wpAny_bind (wpAny_holding (wpAny_eqBool_tuple hu (R.tup p hmem) hx ?_))
        refine wpAny_bind (wpAny_setState_of ho hd R.fits ?_)
        dsimp only
        by_cases hkk : p.2 = k
        · refine wp_if_pos (by simp [hkk]) (wpAny_pure (hin ?_))
          exact List.mem_map.mpr ⟨p, hmem, hkk⟩
        · refine wp_if_neg (by simp [hkk]) ?_
          try refine wpAny_bind (wpAny_pure ?_)
          rw [sameMem]
          dsimp only
          have hsl : t.slot (way t.mask hk (c + q)) = .live i := slot_live R.tab.ris hi
          simp only [if_true, hsl, R.entry hp]
          refine wpAny_bind (wpAny_isSame_ref_self (wpAny_bind (wpAny_pure ?_)))
          simp only [if_true]
          refine wp_if_neg (by simp [hkk]) ?_
          refine ih (c + (q + 1)) _ rfl (by omega) (by omega) fun i0 p0 h0 hk0 => ?_
          obtain ⟨c', a1, a2, a3⟩ := hre i0 p0 h0 hk0
          refine ⟨c', ?_, a2, a3⟩
          refine Classical.byContradiction fun z => ?_
          rcases Nat.lt_or_ge c' (c + q) with y | y
          · refine hno (c' - c) i0 (by omega) (by rw [jj, show c + (c' - c) = c' by omega]; exact a3) ?_
            show (es[i0]?.map (·.1)).getD 0 = hk
            rw [R.hashAt h0, hk0, hh]
          · have ec : c' = c + q := by omega
            rw [ec] at a3
            have s0 := slot_live R.tab.ris a3
            rw [hsl] at s0
            injection s0 with s0
            rw [← s0, hp] at h0
            exact hkk (by rw [Option.some.inj h0]; exact hk0)
      by_cases hl : t.led = true
      · refine wp_if_neg (by simp [hl]) ?_
        try refine wpAny_bind (wpAny_pure ?_)
        exact cont
      · refine wp_if_pos (by simp [hl]) ?_
        refine wpAny_bind (seen_tup hx (fun y hy => ?_) ?_)
        · obtain ⟨e1, he, ee⟩ := List.mem_map.mp hy
          have he1 : e1 ∈ es ∧ e1.1 = hk := by simpa using he
          have he2 : e1 ∈ es.toList := by simpa using he1.1
          rw [R.rows] at he2
          obtain ⟨p2, hp2, e2⟩ := List.mem_map.mp he2
          exact ⟨p2.2, p2.1, by rw [← ee, ← e2], R.tup p2 hp2⟩
        · refine wp_if_neg (by decide) ?_
          try refine wpAny_bind (wpAny_pure ?_)
          exact cont
    · rw [e]
      dsimp only
      rw [jj, show c + (K - c) = K by omega]
      refine wpAny_pure (hout fun hm => ?_)
      obtain ⟨p0, h0, hk0⟩ := List.mem_map.mp hm
      obtain ⟨i0, h00⟩ := List.mem_iff_getElem?.mp h0
      obtain ⟨c', a1, a2, a3⟩ := hre i0 p0 h00 hk0
      refine hno (c' - c) i0 (by omega) (by rw [jj, show c + (c' - c) = c' by omega]; exact a3) ?_
      show (es[i0]?.map (·.1)).getD 0 = hk
      rw [R.hashAt h00, hk0, hh]
theorem SetL.find (R : SetL P w s.heap a L es ep t) {x : Addr} {k : List Int} (hx : IsT P w s.heap k x) (hu : A.units < cLine) {Q : SetFound → Shared → Prop} (hin : k ∈ L.map (·.2) → Q (.there none) s)
    (hout : ∀ K, k ∉ L.map (·.2) → Gap t (thash P w k) K → Q (.free (way t.mask (thash P w k) K) false) s) : wpAny (model P w) A (setSearch a (.ref x) (thash P w k) true) Q E s := by
  have hroom := R.room
  obtain ⟨K, hK, G⟩ := R.tab.gap (by rw [List.length_map]; omega) (thash P w k)
  have big : K < 100000 := by
    unfold SetTable.turns at hK
    rcases R.tab.msk with e | e | e | e <;> omega
  unfold setSearch
  refine R.look hx hu hK G hin (fun hn => hout K hn G) 100000 0 none rfl (Nat.zero_le _) (by omega) fun i p hp hk => ?_
  have hi : (L.map fun p => thash P w p.2)[i]? = some (thash P w k) := by rw [List.getElem?_map, hp, ← hk]; rfl
  have hil : i < t.place.toList.length := by
    have h1 := (List.getElem?_eq_some_iff.mp hp).1
    have h2 := R.plen
    omega
  obtain ⟨c, hc, e⟩ := R.tab.ahead G hi (List.getElem?_eq_getElem hil)
  exact ⟨c, Nat.zero_le _, hc, by rw [List.getElem?_eq_getElem hil, e]⟩

/-- the table laid anew, larger -/
theorem relay_ok {o : Obj} (ho : s.heap.get? a = some o) (hex : o.ExactSet) (hd : o.data = .set es ep t) (rows : es.toList = rowsOf P w L) (hsz : t.place.toList.length = es.size) (hdm : t.dummies = #[]) (hfl : es.size ≤ t.mask)
    (nd : (L.map (·.2)).Nodup) (tup : ∀ p ∈ L, IsT P w s.heap p.2 p.1) (pl : t.plain = true) (ld : w.params.followText "set-order" = true ∨ t.led = true) (few : L.length ≤ 300) {wanted M : Nat}
    (hw : SetTable.sizeAbove wanted = M + 1) (hM : Msk M) (hn : L.length * 5 < M * 3) {Q : Unit → Shared → Prop}
    (hQ : ∀ h' L' es' ep' t', Heap.SameBut a s.heap h' → SetL P w h' a L' es' ep' t' → L'.Perm L → Q () { s with heap := h' }) : wpAny (model P w) A (setRelay a wanted) Q E s := by
  have hsl := rows_size rows
  obtain ⟨t', order, e, hp, T, N⟩ := hM.relaid (t := t) (hs := es.map (·.1)) (wanted := wanted) (by omega) (by rw [Array.size_map]; omega)
  rw [Array.size_map, hsl] at hp
  obtain ⟨L2, r1, r2, r3⟩ := order_rows L es order rows hp
  rw [← r3] at T
  have hs2 : (order.filterMap (es[·]?)).size = es.size := by rw [rows_size r1, r2.length_eq, hsl]
  have hM5 : M ≤ 511 := by rcases hM with z | z | z | z <;> omega
  rw [setRelay_eq]
  refine wpAny_bind (wpAny_setState_of ho hd (fits_of hsz hdm hfl) ?_)
  dsimp only
  refine wp_if_neg (by rw [sizeLine_eq]; omega) ?_
  try refine wpAny_bind (wpAny_pure ?_)
  rw [e]
  dsimp only
  refine wpAny_bind ?_
  refine wp_if_neg (by rw [hs2]; simp) ?_
  try refine wpAny_bind (wpAny_pure ?_)
  refine wpAny_pure ?_
  dsimp only
  refine wpAny_storeSet_of ho hd ?_ (by rw [hs2, sizeLine_eq]; omega)
  have sb : Heap.SameBut a s.heap (s.heap.update a (Obj.putSet (order.filterMap (es[·]?)) t')) := Heap.SameBut.update ..
  refine hQ _ L2 _ (ep + 1) t' sb ⟨⟨_, store_at ho hd, ⟨hex.1, hex.2.1, hex.2.2⟩, rfl⟩, r1, T, (r2.map (·.2)).nodup_iff.mpr nd, fun p hpm => isT_same (tup p (r2.mem_iff.mp hpm)) ho hd sb, by rw [N.plain]; exact pl, by rw [N.led]; exact ld, ?_, by rw [r2.length_eq]; exact few⟩ r2
  rw [r2.length_eq, N.mask]
  exact hn
/-- larger by how much -/
theorem grow_to {m n : Nat} (hm : Msk m) (hr : n * 5 < m * 3) (hf : (n + 1) * 5 ≥ m * 3) (few : n + 1 ≤ 300) : ∃ M, SetTable.sizeAbove (SetTable.grown (n + 1)) = M + 1 ∧ Msk M ∧ (n + 1) * 5 < M * 3 := by
  rcases hm with e | e | e | e
  · subst e
    obtain rfl : n = 4 := by omega
    exact ⟨31, by decide +kernel, .inr (.inl rfl), by omega⟩
  · subst e
    obtain rfl : n = 18 := by omega
    exact ⟨127, by decide +kernel, .inr (.inr (.inl rfl)), by omega⟩
  · subst e
    obtain rfl : n = 76 := by omega
    exact ⟨511, by decide +kernel, .inr (.inr (.inr rfl)), by omega⟩
  · subst e
    omega

/-- one more member -/
theorem SetL.add (R : SetL P w s.heap a L es ep t) {x : Addr} {k : List Int} (hx : IsT P w s.heap k x) (hu : A.units < cLine) (hfew : k ∉ L.map (·.2) → L.length + 1 ≤ 300) {Q : Bool → Shared → Prop}
    (hQ : ∀ b h' L' es' ep' t', Heap.SameBut a s.heap h' → SetL P w h' a L' es' ep' t' → (k ∈ L.map (·.2) → L' = L) → (k ∉ L.map (·.2) → L'.Perm ((x, k) :: L)) → Q b { s with heap := h' }) :
    wpAny (model P w) A (setAddHashed a (.ref x) (thash P w k)) Q E s := by
  obtain ⟨o, ho, hex, hd⟩ := R.ob
  have hsl := R.size
  have hroom := R.room
  have hplen := R.plen
  unfold setAddHashed
  refine wpAny_holding ?_
  rw [show (100000 : Nat) = 99999 + 1 from rfl, setAddHashedIn_succ]
  refine wpAny_bind (wpAny_setState_of ho hd R.fits ?_)
  dsimp only
  refine wp_if_neg (by simp [byScan, Value.scannable]) ?_
  try refine wpAny_bind (wpAny_pure ?_)
  refine wpAny_bind (R.find hx hu (fun hm => ?_) fun K hm G => ?_)
  · dsimp only
    exact wpAny_pure (hQ false s.heap L es ep t (Heap.SameBut.refl a s.heap) R (fun _ => rfl) fun z => absurd hm z)
  · dsimp only
    have few1 := hfew hm
    refine wpAny_bind (wpAny_setState_of ho hd R.fits ?_)
    dsimp only
    obtain ⟨q2, q3, q4⟩ := R.tab.put G
    rw [List.length_map] at q2
    unfold cutAt at q2 q3
    have hsnd : (t.put (way t.mask (thash P w k) K)).2 = SetTable.below t.place (way t.mask (thash P w k) K) := rfl
    generalize hpp : SetTable.below t.place (way t.mask (thash P w k) K) = p at q2 q3 hsnd
    generalize hpt : t.put (way t.mask (thash P w k) K) = pt at q3 q4 hsnd ⊢
    obtain ⟨t1, p1⟩ := pt
    dsimp only at q3 q4 hsnd ⊢
    subst hsnd
    have hp1 : t1.plain = true := by rw [q4.plain]; exact R.plain
    first
      | (refine wpAny_bind ?_; refine wp_if_pos hp1 ?_; refine hashBy_tup hx ?_)
      | refine wp_if_pos hp1 (wpAny_bind (hashBy_tup hx ?_))
    simp only [if_true]
    have hin : (SetTable.insertAt es p1 (thash P w k, Value.ref x)).toList = rowsOf P w (L.take p1 ++ (x, k) :: L.drop p1) := by rw [SetTable.toList_insertAt, rows_put, R.rows]
    have pm := put_perm L p1 (x, k)
    have hhs : (L.take p1 ++ (x, k) :: L.drop p1).map (fun p => thash P w p.2) = (L.map fun p => thash P w p.2).take p1 ++ thash P w k :: (L.map fun p => thash P w p.2).drop p1 := by rw [List.map_append, List.map_cons, List.map_take, List.map_drop]
    rw [← hhs] at q3
    generalize hL1 : L.take p1 ++ (x, k) :: L.drop p1 = L1 at pm q3 hin
    have hlen : L1.length = L.length + 1 := pm.length_eq
    have nd1 : (L1.map (·.2)).Nodup := (pm.map (·.2)).nodup_iff.mpr (by rw [List.map_cons]; exact List.nodup_cons.mpr ⟨hm, R.nd⟩)
    generalize SetTable.insertAt es p1 (thash P w k, Value.ref x) = es1 at hin ⊢
    have hes : es1.size = L.length + 1 := by rw [rows_size hin, hlen]
    refine wpAny_bind (wpAny_storeSet_of ho hd ?_ (by rw [hes, sizeLine_eq]; omega))
    have sb : Heap.SameBut a s.heap (s.heap.update a (Obj.putSet es1 t1)) := Heap.SameBut.update ..
    have ho1 := store_at (es' := es1) (t' := t1) ho hd
    generalize s.heap.update a (Obj.putSet es1 t1) = h1 at sb ho1 ⊢
    have tup1 : ∀ p ∈ L1, IsT P w h1 p.2 p.1 := fun p hp => by
      rcases List.mem_cons.mp (pm.mem_iff.mp hp) with e | hp
      · rw [e]; exact isT_same hx ho hd sb
      · exact isT_same (R.tup p hp) ho hd sb
    have ld1 : w.params.followText "set-order" = true ∨ t1.led = true := by rw [q4.led]; exact R.led
    have hfill : t1.fill = L.length + 1 := by rw [q4.fill, List.length_map]
    have hmask := q4.mask
    by_cases hf : t1.tooFull = true
    · first
        | (refine wpAny_bind ?_; refine wp_if_pos (by simp [hf]) ?_)
        | (refine wp_if_pos (by simp [hf]) ?_; refine wpAny_bind ?_)
      have full : (L.length + 1) * 5 ≥ t.mask * 3 := by
        have h := hf
        unfold SetTable.tooFull at h
        rw [decide_eq_true_eq, hfill, hmask] at h
        exact h
      obtain ⟨M, g1, g2, g3⟩ := grow_to R.tab.msk hroom full few1
      have hfit : L.length + 1 ≤ t.mask := by
        rcases R.tab.msk with e | e | e | e <;> omega
      rw [hsl]
      refine relay_ok (s := { s with heap := h1 }) ho1 ⟨hex.1, hex.2.1, hex.2.2⟩ rfl hin (by rw [q3.sz, List.length_map, hlen, hes]) q3.dm (by rw [hes, hmask]; exact hfit) nd1 tup1 hp1 ld1 (by rw [hlen]; exact few1) g1 g2 (by rw [hlen]; exact g3) ?_
      intro h2 L2 es2 ep2 t2 sb2 R2 pm2
      exact wpAny_pure (hQ true h2 L2 es2 ep2 t2 (sb.trans sb2) R2 (fun z => absurd z hm) fun _ => pm2.trans pm)
    · first
        | refine wp_if_neg (by simp [hf]) ?_
        | (refine wpAny_bind ?_; refine wp_if_neg (by simp [hf]) ?_; refine wpAny_pure ?_)
      refine wpAny_pure (hQ true h1 L1 es1 (ep + 1) t1 sb ⟨⟨_, ho1, ⟨hex.1, hex.2.1, hex.2.2⟩, rfl⟩, hin, q3, nd1, tup1, hp1, ld1, ?_, by rw [hlen]; exact few1⟩ (fun z => absurd z hm) fun _ => pm)
      have h := hf
      unfold SetTable.tooFull at h
      rw [decide_eq_true_eq, hfill] at h
      rw [hlen]
      omega
end
end K66
namespace K66
set_option linter.all false
set_option maxRecDepth 100000
set_option maxHeartbeats 8000000
open PySem PySem.Spec PyProof.Rows L2

section
variable {P : Program} {w : World} {A : Around} {E : Value → Shared → Prop} {s : Shared}
theorem SetL.keep {h h' : Heap} {a : Addr} {L : List (Addr × List Int)} {es : Array (Int × Value)} {ep : Nat} {t : SetTable} (R : SetL P w h a L es ep t) (ha : ∀ o, h.get? a = some o → h'.get? a = some o) (ht : ∀ p ∈ L, IsT P w h' p.2 p.1) : SetL P w h' a L es ep t :=
  ⟨let ⟨o, ho, r⟩ := R.ob; ⟨o, ha o ho, r⟩, R.rows, R.tab, R.nd, ht, R.plain, R.led, R.room, R.few⟩
/-- a new set's object -/
def setObj (w : World) : Obj := { cls := .type "set", dict := none, data := .set #[] 0 (.fresh 0 0 (!w.params.followText "set-order")) }
theorem setL_new {h : Heap} {a : Addr} (ho : h.get? a = some (setObj w)) : SetL P w h a [] #[] 0 (.fresh 0 0 (!w.params.followText "set-order")) where
  ob := ⟨_, ho, ⟨rfl, rfl, rfl⟩, rfl⟩
  rows := rfl
  tab := ⟨List.Pairwise.nil, rfl, rfl, .inl rfl, fun x hx => (by cases hx), fun i h j hi => (by simp at hi)⟩
  nd := List.nodup_nil
  tup := fun p hp => (by cases hp)
  plain := rfl
  led := by
    show _ ∨ (!w.params.followText "set-order") = true
    cases w.params.followText "set-order" <;> simp
  room := by show 0 * 5 < 7 * 3; decide
  few := Nat.zero_le _

/-- set.update's loop over anything that walks through the tuples -/
theorem upd_set {I : Addr} {fp wr : List Addr} {G : Array GenState → Array GenState → Prop} {n : Nat} {Pv : Nat → Value → Prop} {St : Nat → Shared → Prop} {R : Result → Shared → Prop}
    (W : WalksS P w A.in1 I fp wr G n Pv St) (S : Addr) (hSf : S ∉ fp) (ks : List (Addr × List Int)) (hn : n = ks.length) (hfew : ks.length ≤ 300) (hval : ∀ i v, Pv i v → ∃ p, ks[i]? = some p ∧ v = .ref p.1)
    (h0 : Heap) (hk : ∀ p ∈ ks, IsT P w h0 p.2 p.1) (hS0 : h0.get? S = none) (hw0 : ∀ b ∈ wr, h0.get? b = none) (hu : A.in1.units < cLine) :
    ∀ (k i : Nat) (s : Shared), n - i = k → i ≤ n → St i s → (∀ b o, h0.get? b = some o → s.heap.get? b = some o) → (∃ L es ep t, SetL P w s.heap S L es ep t ∧ Got ks i L) →
      (∀ s' L es ep t, Moved (S :: wr) G s s' → SetL P w s'.heap S L es ep t → Got ks n L → (∀ b o, h0.get? b = some o → s'.heap.get? b = some o) → R (.ok (.ret .none)) s') →
      codeAny (model P w) A (.builtin "set.update.loop" ⟨[.ref S, .ref I], []⟩) R s := by
  have hSw : S ∉ wr := fun h => hSf (W.sub _ h)
  have more : ∀ b ∈ wr, b ∈ S :: wr := fun b hb => List.mem_cons_of_mem _ hb
  have stay : ∀ {s s' : Shared}, Moved wr G s s' → (∀ b o, h0.get? b = some o → s.heap.get? b = some o) → ∀ b o, h0.get? b = some o → s'.heap.get? b = some o := fun hm hkp b o e =>
    hm.heap b o (fun hb => by rw [hw0 b hb] at e; cases e) (hkp b o e)
  have carry : ∀ {s s' : Shared} {i : Nat} {L es ep t}, Moved wr G s s' → (∀ b o, h0.get? b = some o → s'.heap.get? b = some o) → SetL P w s.heap S L es ep t → Got ks i L → SetL P w s'.heap S L es ep t := fun hm hkp hS g =>
    hS.keep (fun o e => hm.heap S o hSw e) fun p hp => isT_keep (hk p (List.mem_of_mem_take (g.sub p hp))) hkp
  intro k
  induction k with
  | zero =>
    intro i s hk' hi hst hkp ⟨L, es, ep, t, hS, g⟩ hR
    obtain rfl : i = n := by omega
    refine codeAny_builtin F.entry_set_update_loop ?_
    rw [Around.under_plainId F.plain_set_update_loop _]
    show wpAny _ A.in1 (pyNext (.ref I) >>= _) _ _ s
    refine wpAny_bind (W.done s _ _ hst fun s' hm => ?_)
    show wpAny _ A.in1 (ret Value.none) _ _ s'
    have hkp' := stay hm hkp
    exact wpAny_pure (hR s' L es ep t (hm.mono more) (carry hm hkp' hS g) g hkp')
  | succ k ih =>
    intro i s hk' hi hst hkp ⟨L, es, ep, t, hS, g⟩ hR
    have hlt : i < n := by omega
    refine codeAny_builtin F.entry_set_update_loop ?_
    rw [Around.under_plainId F.plain_set_update_loop _]
    show wpAny _ A.in1 (pyNext (.ref I) >>= _) _ _ s
    refine wpAny_bind (W.item i s _ _ hlt hst fun v s' hP hst' hm => ?_)
    obtain ⟨p, hp, rfl⟩ := hval i v hP
    have hkp' := stay hm hkp
    have hS' := carry hm hkp' hS g
    have hx : IsT P w s'.heap p.2 p.1 := isT_keep (hk p (List.mem_of_getElem? hp)) hkp'
    show wpAny _ A.in1 (holding [Value.ref p.1] (setAdd S (.ref p.1)) >>= _) _ _ s'
    refine wpAny_bind (wpAny_holding ?_)
    unfold setAdd
    refine wpAny_holding ?_
    refine wpAny_bind (wpAny_pyHash_tuple hu hx ?_)
    refine SetL.add (s := { s' with toks := s'.toks + (p.2.length + 1) }) hS' hx hu (fun _ => by have := g.len; omega) fun b h' L' es' ep' t' hsb hS2 c1 c2 => ?_
    have g' : Got ks (i + 1) L' := by
      by_cases c : p.2 ∈ L.map (·.2)
      · rw [c1 c]; exact g.same hp c
      · exact g.more hp (c2 c)
    have hkp2 : ∀ b o, h0.get? b = some o → h'.get? b = some o := fun b o e => (hsb.2 b (fun z => by rw [z, hS0] at e; cases e)).trans (hkp' b o e)
    refine wpAny_pure ⟨plainId_quiet F.plain_set_update_loop _, ih (i + 1) _ (by omega) hlt (W.frame _ s' _ _ hst' (Nat.le_add_right _ _) fun b hb o e => ?_) hkp2 ⟨L', es', ep', t', hS2, g'⟩ fun s'' L2 es2 ep2 t2 hm'' hS'' g'' hkp'' => ?_⟩
    · exact (hsb.2 b (fun h : b = S => hSf (by rw [← h]; exact hb))).trans e
    · refine hR s'' L2 es2 ep2 t2 (Moved.trans W.gtrans ((hm.mono more).then_heap (Nat.le_add_right _ _) fun b o hb e => ?_) hm'') hS'' g'' hkp''
      exact (hsb.2 b (fun h : b = S => hb (by rw [h]; exact List.mem_cons_self))).trans e

/-- set(xs), xs a list of tuples -/
theorem set_call {l : Addr} {items : Array Value} (ks : List (Addr × List Int)) {Q : Value → Shared → Prop} (hh : A.handled = none) (hl : s.heap.IsList l items) (hit : items.toList = ks.map fun p => Value.ref p.1)
    (hk : ∀ p ∈ ks, IsT P w s.heap p.2 p.1) (hfew : ks.length ≤ 300) (hu : A.units + 3 < cLine)
    (h : ∀ (h' : Heap) (tk : Nat) L es ep t, SetL P w h' s.heap.objs.size L es ep t → Got ks ks.length L → (∀ b o, s.heap.get? b = some o → h'.get? b = some o) → Q (.ref s.heap.objs.size) { s with heap := h', toks := tk }) :
    wpAny (model P w) A (call (.type "set") [.ref l]) Q E s := by
  have hisz : items.size = ks.length := by
    rw [← Array.length_toList, hit]
    exact List.length_map _
  obtain ⟨c, tl, hmro⟩ := F.called_set.mro
  have hmade := F.called_set.made
  have hsub := F.called_set.sub
  refine wpAny_call (codeAny_of_tree ?_)
  show wpAny _ _ (callAny (.type "set") _) _ _ _
  refine wpAny_pure ⟨Code.quiet_builtin _ (by decide +kernel), codeAny_builtin F.entry_type_call ?_⟩
  rw [Around.under_plain (weight_type_call_type "set" [.ref l] []) rfl]
  have h1 := F.called_set.notType
  have h2 := F.called_set.canCreate
  have hct := F.typeCall_set_1 (.ref l)
  repeat (any_goals (first | assumption | wp_step))
  refine codeAny_mono (code_set_led1 (.ref l) (E := E) (Q₁ := fun obj s₁ => obj = .ref s.heap.objs.size ∧ s₁ = { s with heap := s.heap.push (setObj w) }) ⟨rfl, rfl⟩) fun r s₁ hr => ?_
  cases r with
  | error e => exact hr
  | ok fl =>
    cases fl with
    | ret obj =>
      obtain ⟨rfl, rfl⟩ := hr
      have hS : (s.heap.push (setObj w)).get? s.heap.objs.size = some (setObj w) := Heap.get?_push_size _ rfl
      have hT : Shared.TypeIs { s with heap := s.heap.push (setObj w) } (.ref s.heap.objs.size) "set" := ⟨_, hS, rfl⟩
      have hli := F.called_set.init.lookup
      have hbi := F.called_set.init.bind (.ref s.heap.objs.size)
      repeat (any_goals (first | assumption | wp_step))
      refine codeAny_mono (codeAny_call_builtin (R := wants (fun r s₂ => r = .none ∧ ∃ h' tk L es ep t, s₂ = { s with heap := h', toks := tk } ∧ SetL P w h' s.heap.objs.size L es ep t ∧ Got ks ks.length L ∧
          (∀ b o, s.heap.get? b = some o → h'.get? b = some o)) E) F.called_set.init.plain F.entry_set_init (check_set_init_1 hT ?_)) fun r₂ s₂ hr₂ => ?_
      · obtain ⟨ol, hol, hcl, nl, hdl⟩ := hl
        obtain ⟨ocls, odict, odata, oslots⟩ := ol
        simp only at hcl hdl
        subst hcl; subst hdl
        have hol' : (s.heap.push (setObj w)).get? l = some { cls := .type "list", dict := odict, data := .seq items nl, slots := oslots } := Heap.get?_push_of_some _ hol
        have hsls := F.sub_list_set
        have hslf := F.sub_list_frozenset
        have hne : (Value.type "list" == Value.type "dict") = false := by decide
        have hl1 : (s.heap.push (setObj w)).IsList l items := ⟨_, hol', rfl, nl, rfl⟩
        unfold Builtin.«set.__init__» noKeywords Builtin.Frozenset.updateFrom
        generalize hPI : pyIter = PI
        wp_walk
        subst hPI
        refine wpAny_pyIter_list hl1 ?_
        refine wpAny_bind (wpAny_runValue ?_)
        have hlS : l < s.heap.objs.size := Heap.lt_size hol
        have hh3 : A.in1.in1.in1.handled = none := by simp [hh]
        have sz1 : (s.heap.push (setObj w)).objs.size = s.heap.objs.size + 1 := Heap.size_push ..
        have hneI : l ≠ (s.heap.push (setObj w)).objs.size := by rw [sz1]; exact Nat.ne_of_lt (Nat.lt_succ_of_lt hlS)
        have hSf : s.heap.objs.size ∉ [(s.heap.push (setObj w)).objs.size, l] := by
          rw [sz1]
          simp only [List.mem_cons, List.not_mem_nil, or_false, not_or]
          exact ⟨Nat.ne_of_lt (Nat.lt_succ_self _), Nat.ne_of_gt hlS⟩
        have hval : ∀ (i : Nat) (v : Value), items[i]? = some v → ∃ p, ks[i]? = some p ∧ v = .ref p.1 := fun i v hv => by
          rw [← Array.getElem?_toList, hit, List.getElem?_map] at hv
          cases hq : ks[i]? with
          | none => rw [hq] at hv; cases hv
          | some p => rw [hq] at hv; exact ⟨p, rfl, (Option.some.inj hv).symm⟩
        have none_of : ∀ b, s.heap.objs.size ≤ b → s.heap.get? b = none := fun b hb => Heap.get?_none_of_le hb
        refine upd_set ((Walks.list hh3 _ l hneI items).toS) s.heap.objs.size
          hSf ks hisz hfew hval s.heap hk (none_of _ (Nat.le_refl _)) (fun b hb => none_of b (by
            rw [List.mem_singleton.mp hb, sz1]
            exact Nat.le_succ _)) hu (items.size - 0) 0 _ (by omega) (Nat.zero_le _)
          ⟨⟨_, Heap.get?_push_size _ rfl, rfl, rfl⟩, (hl1.push _)⟩ (fun b o e => Heap.get?_push_of_some _ (Heap.get?_push_of_some _ e)) ?hS0 ?hR
        case hS0 => exact ⟨[], #[], 0, _, setL_new (Heap.get?_push_of_some _ hS), Got.zero ks⟩
        case hR =>
          intro s' L es ep t hm hS' g' hkp
          obtain ⟨h', g2, d', tk', os'⟩ := s'
          have eg : g2 = s.gens := hm.gens
          have ed : d' = s.drawn := hm.drawn
          have eo : os' = s.os := hm.os
          subst eg; subst ed; subst eo
          show wpAny _ _ _ _ _ _
          refine wpAny_pure ?_
          show wpAny _ _ (ret Value.none) _ _ _
          rw [hisz] at g'
          exact wpAny_pure ⟨rfl, h', tk', L, es, ep, t, rfl, hS', g', hkp⟩
      · cases r₂ with
        | error e => exact hr₂
        | ok fl₂ =>
          cases fl₂ with
          | ret r =>
            obtain ⟨rfl, h', tk, L, es, ep, t, rfl, hS', g', hk'⟩ := hr₂
            repeat (any_goals (first | assumption | wp_step))
            exact h _ _ _ _ _ _ hS' g' hk'
          | _ => exact hr₂.elim
    | _ => exact hr.elim
end
end K66
/-! What is walked besides: zip of three tuples, enumerate of a tuple. -/
namespace K66
set_option linter.all false
set_option maxRecDepth 100000
set_option maxHeartbeats 4000000
open PySem PySem.Spec PyProof.Rows L2

/-! ### zip of three tuples -/
def It3 (K : PySem.W.Frag) (a b c : Addr) : It :=
  ⟨fun i H => ∃ (xs ys zs : List V) (x y u : V), SqT K H a xs ∧ SqT K H b ys ∧ SqT K H c zs ∧ xs[i]? = some x ∧ ys[i]? = some y ∧ zs[i]? = some u,
    fun i H v H' => ∃ T x y u, v = .ref T ∧ H T = none ∧ H' = upd H T (.tup [x, y, u]) ∧ (∀ xs, SqT K H a xs → xs[i]? = some x) ∧ (∀ ys, SqT K H b ys → ys[i]? = some y) ∧ ∀ zs, SqT K H c zs → zs[i]? = some u,
    fun i H => ∃ xs ys zs : List V, SqT K H a xs ∧ SqT K H b ys ∧ SqT K H c zs ∧ i ≤ xs.length ∧ i ≤ ys.length ∧ i ≤ zs.length ∧ (i = xs.length ∨ i = ys.length ∨ i = zs.length)⟩
structure St3 (z TI TO i1 i2 i3 a b c : Addr) (i : Nat) (h : Heap) : Prop where
  hz : IsZip h z TI TO .none
  hTI : IsTupOf3 h TI (.ref i1) (.ref i2) (.ref i3)
  hTO : ∃ x y u, IsTupOf3 h TO x y u
  h1 : h.IsTupleIter i1 a i
  h2 : h.IsTupleIter i2 b i
  h3 : h.IsTupleIter i3 c i
theorem St3.at {z TI TO i1 i2 i3 a b c : Addr} {i : Nat} {h h' : Heap} (st : St3 z TI TO i1 i2 i3 a b c i h) (k : ∀ q, q ∈ [z, TI, TO, i1, i2, i3] → ∀ o, h.get? q = some o → h'.get? q = some o) : St3 z TI TO i1 i2 i3 a b c i h' :=
  ⟨k z (by simp) _ st.hz, k TI (by simp) _ st.hTI, let ⟨x, y, u, e⟩ := st.hTO; ⟨x, y, u, k TO (by simp) _ e⟩, st.h1.at fun o e => k i1 (by simp) o e, st.h2.at fun o e => k i2 (by simp) o e, st.h3.at fun o e => k i3 (by simp) o e⟩
theorem St3.lives {z TI TO i1 i2 i3 a b c : Addr} {i : Nat} {h : Heap} (st : St3 z TI TO i1 i2 i3 a b c i h) : ∀ q, q ∈ [z, TI, TO, i1, i2, i3] → ∃ o, h.get? q = some o ∧ ∀ v, o.data ≠ .cell v := by
  intro q hq
  obtain ⟨hz, hTI, ⟨x, y, u, hTO⟩, ⟨o1, e1, _, d1⟩, ⟨o2, e2, _, d2⟩, ⟨o3, e3, _, d3⟩⟩ := st
  have e' : q = z ∨ q = TI ∨ q = TO ∨ q = i1 ∨ q = i2 ∨ q = i3 := by simpa using hq
  rcases e' with e | e | e | e | e | e
  · rw [e]; exact ⟨_, hz, fun v q => nomatch q⟩
  · rw [e]; exact ⟨_, hTI, fun v q => nomatch q⟩
  · rw [e]; exact ⟨_, hTO, fun v q => nomatch q⟩
  · rw [e]; exact ⟨o1, e1, fun v q => by rw [d1] at q; cases q⟩
  · rw [e]; exact ⟨o2, e2, fun v q => by rw [d2] at q; cases q⟩
  · rw [e]; exact ⟨o3, e3, fun v q => by rw [d3] at q; cases q⟩
theorem turn3 {P : Program} {w : World} {K : PySem.W.Frag} {elts : List Expr} {kk : Nat} {tpos : Pos} {a b c z TI TO i1 i2 i3 : Addr} (S : ZipSep3 z TI TO i1 i2 i3 [i1, a] [i2, b] [i3, c]) (n1 : a ≠ i1) (n2 : b ≠ i2) (n3 : c ≠ i3) :
    Turn P w K (.Tuple elts kk tpos) (It3 K a b c) [z, TI, TO, i1, i2, i3] z (St3 z TI TO i1 i2 i3 a b c) where
  mem := by simp
  obj := fun i h st => st.lives
  keep := fun i h h' st k => st.at k
  item := by
    intro X hP hw hK hc i pins s σ H E I hf st hg
    subst hP hw hK
    have live := st.lives
    obtain ⟨hz, hTI, ⟨x0, y0, u0, hTO⟩, h1, h2, h3⟩ := st
    obtain ⟨xs, ys, zs, x, y, u, hqx, hqy, hqz, hx, hy, hu⟩ := hg
    obtain ⟨its, rv, p, _⟩ := I.tuple hqx
    obtain ⟨its2, rv2, p2, _⟩ := I.tuple hqy
    obtain ⟨its3, rv3, p3, _⟩ := I.tuple hqz
    obtain ⟨v1, hv1, r1⟩ := rv.get hx
    obtain ⟨v2, hv2, r2⟩ := rv2.get hy
    obtain ⟨v3, hv3, r3⟩ := rv3.get hu
    have hzl : z < s.heap.objs.size := Heap.lt_size hz
    have hh : X.A.in1.handled = none := I.ok.hd hc
    refine wpAny_pyNext_zipD3_item S (Draws.tuple hh i1 a n1 its.toArray) (Draws.tuple hh i2 b n2 its2.toArray) (Draws.tuple hh i3 c n3 its3.toArray) hz hTI hTO ⟨h1, p⟩ ⟨h2, p2⟩ ⟨h3, p3⟩
      (by simpa using (List.getElem?_eq_some_iff.mp hv1).1) (by simpa using (List.getElem?_eq_some_iff.mp hv2).1) (by simpa using (List.getElem?_eq_some_iff.mp hv3).1)
      fun w1 w2 w3 h' tk q1 q2 q3 z' TO' d1 d2 d3 hT hsz hk => ?_
    have ew1 : v1 = w1 := Option.some.inj ((by simpa using hv1 : its.toArray[i]? = some v1).symm.trans q1)
    have ew2 : v2 = w2 := Option.some.inj ((by simpa using hv2 : its2.toArray[i]? = some v2).symm.trans q2)
    have ew3 : v3 = w3 := Option.some.inj ((by simpa using hv3 : its3.toArray[i]? = some v3).symm.trans q3)
    subst ew1 ew2 ew3
    refine ⟨_, rfl, wpAny_letOwnedTupleGo_zip (s := { s with heap := h', toks := tk }) z' fun h'' z'' sb => ?_⟩
    have hT2 : h''.get? s.heap.objs.size = some { cls := .type "tuple", data := .seq #[v1, v2, v3] } := (sb.2 _ (Nat.ne_of_gt hzl)).trans hT
    have new : ObjOk X.prog X.w (upd H s.heap.objs.size (.tup [x, y, u])) h'' s.heap.objs.size (.tup [x, y, u]) :=
      ⟨by show 3 ≤ sizeLine; decide, [v1, v2, v3], .cons r1 (.cons r2 (.cons r3 .nil)), ⟨_, hT2, rfl, _, rfl⟩⟩
    have I1 : Inv X pins σ (upd H s.heap.objs.size (.tup [x, y, u])) { s with heap := h'', toks := tk } :=
      I.turnedNew (ch := [z, TI, TO, i1, i2, i3]) (fun q o hb e => (sb.2 q (fun e' => hb (by simp [e']))).trans (hk q o (fun e' => hb (by simp [e'])) (fun e' => hb (by simp [e'])) (fun e' => hb (by simp [e'])) (fun e' => hb (by simp [e'])) (fun e' => hb (by simp [e'])) e)) hf (Nat.le_refl _) new
    refine ⟨.ref s.heap.objs.size, _, I1, rfl, ⟨_, x, y, u, rfl, I.hok.fresh (Nat.le_refl _), rfl, fun l hl => by rw [I.tuple_inj hl hqx]; exact hx, fun l hl => by rw [I.tuple_inj hl hqy]; exact hy, fun l hl => by rw [I.tuple_inj hl hqz]; exact hu⟩, ⟨z'', ?_, ⟨v1, v2, v3, ?_⟩, ?_, ?_, ?_⟩, fun q hq => ?_⟩
    · exact (sb.2 _ S.TIz).trans (hk _ _ S.TIz S.TITO S.TIi1 S.TIi2 S.TIi3 hTI)
    · exact (sb.2 _ S.TOz).trans TO'
    · exact d1.1.at fun o e => (sb.2 _ S.zi1.symm).trans e
    · exact d2.1.at fun o e => (sb.2 _ S.zi2.symm).trans e
    · exact d3.1.at fun o e => (sb.2 _ S.zi3.symm).trans e
    · obtain ⟨o, e, _⟩ := live q hq
      rw [upd_ne (Nat.ne_of_lt (Heap.lt_size e))]
      exact (hf q hq).1
  done := by
    intro X hP hw hK hc i pins s σ H E I hf st hg
    subst hP hw hK
    obtain ⟨hz, hTI, ⟨x0, y0, u0, hTO⟩, h1, h2, h3⟩ := st
    obtain ⟨xs, ys, zs, hqx, hqy, hqz, l1, l2, l3, hend⟩ := hg
    obtain ⟨its, rv, p, _⟩ := I.tuple hqx
    obtain ⟨its2, rv2, p2, _⟩ := I.tuple hqy
    obtain ⟨its3, rv3, p3, _⟩ := I.tuple hqz
    have e1 : its.toArray.size = xs.length := by rw [List.size_toArray, ← rv.length]
    have e2 : its2.toArray.size = ys.length := by rw [List.size_toArray, ← rv2.length]
    have e3 : its3.toArray.size = zs.length := by rw [List.size_toArray, ← rv3.length]
    have hh : X.A.in1.handled = none := I.ok.hd hc
    exact wpAny_pyNext_zipD3_end S (Draws.tuple hh i1 a n1 its.toArray) (Draws.tuple hh i2 b n2 its2.toArray) (Draws.tuple hh i3 c n3 its3.toArray) hz hTI hTO ⟨h1, p⟩ ⟨h2, p2⟩ ⟨h3, p3⟩ (by omega) (by omega) (by omega) (by omega)
      fun h' tk hk => ⟨rfl, I.turnedL (t' := tk) (ch := [z, TI, TO, i1, i2, i3]) (fun q o hb e =>
        hk q o (fun e' => hb (by simp [e'])) (fun e' => hb (by simp [e'])) (fun e' => hb (by simp [e'])) (fun e' => hb (by simp [e'])) (fun e' => hb (by simp [e'])) e) hf⟩
  self := fun A i s Q E st h => wpAny_pyIter_zip st.hz h
def iZip3 (K : PySem.W.Frag) (ta : TA) : TI := fun σ H R => ta σ H fun vs H1 => ∃ a b c xs ys zs, vs = [.ref a, .ref b, .ref c] ∧ SqT K H1 a xs ∧ SqT K H1 b ys ∧ SqT K H1 c zs ∧ R (It3 K a b c) H1
theorem pi_zip3 {X : Cx} {e e2 e3 : Expr} {ta : TA} {p pos tpos : Pos} {elts : List Expr} {kk : Nat} (hg : Gl X "zip") (hm : X.mg "zip" = none) (ha : PA X [e, e2, e3] ta)
    (hs : starEach [e, e2, e3] X.env = (false, eval e X.env) :: starEach [e2, e3] X.env := by rfl) (hpl : (backTo pos (starEach [e2, e3] X.env)).any (·.1) = false := by rfl) :
    PI X (.Tuple elts kk tpos) (.Call (.Name "zip" p) [e, e2, e3] [] pos) (iZip3 X.K ta) := by
  refine ⟨fun pins s σ H R I h => ?_⟩
  refine Call_ (ld_blt I hg hm PyProof.Rows.boot_zip (PyProof.Rows.callWith_type1 (thn (ha.run pos pins s σ H _ I h) fun us s1 ⟨vs, H1, I1, r1, q1⟩ => ?_) hs hpl))
  obtain ⟨a, b, c, xs, ys, zs, ex, hqx, hqy, hqz, q⟩ := q1
  subst ex
  cases r1 with
  | cons r rr =>
    cases rr with
    | cons r' rr =>
      cases rr with
      | cons r'' rr =>
        cases rr
        cases r
        cases r'
        cases r''
        obtain ⟨its, rv, p1, _⟩ := I1.tuple hqx
        obtain ⟨its2, rv2, p2, _⟩ := I1.tuple hqy
        obtain ⟨its3, rv3, p3, _⟩ := I1.tuple hqz
        have la : a < s1.heap.objs.size := p1.lt
        have lb : b < s1.heap.objs.size := p2.lt
        have lc : c < s1.heap.objs.size := p3.lt
        refine zip_begins3 (begins_tuple a its.toArray) (begins_tuple b its2.toArray) (begins_tuple c its3.toArray) p1 p2 p3 fun h' hz hTI hTO g1 g2 g3 hsz hk => wpAny_pyIter_zip hz ?_
        have I2 : Inv X pins σ H1 { s1 with heap := h' } := I1.kept (t' := s1.toks) hk
        refine ⟨s1.heap.objs.size + 5, [s1.heap.objs.size + 5, s1.heap.objs.size + 3, s1.heap.objs.size + 4, s1.heap.objs.size, s1.heap.objs.size + 1, s1.heap.objs.size + 2], _, _, H1, rfl, I2,
          turn3 (zip_sep3 (fun q hq => by rw [List.mem_singleton.mp hq]; exact la) (fun q hq => by rw [List.mem_singleton.mp hq]; exact lb) fun q hq => by rw [List.mem_singleton.mp hq]; exact lc) (Nat.ne_of_lt la) (Nat.ne_of_lt (Nat.lt_succ_of_lt lb)) (Nat.ne_of_lt (Nat.lt_succ_of_lt (Nat.lt_succ_of_lt lc))),
          ⟨hz, hTI, ⟨_, _, _, hTO⟩, ⟨_, g1, rfl, rfl⟩, ⟨_, g2, rfl, rfl⟩, ⟨_, g3, rfl, rfl⟩⟩, fun q hq => ?_, q⟩
        have hle : s1.heap.objs.size ≤ q := by
          have e' : q = s1.heap.objs.size + 5 ∨ q = s1.heap.objs.size + 3 ∨ q = s1.heap.objs.size + 4 ∨ q = s1.heap.objs.size ∨ q = s1.heap.objs.size + 1 ∨ q = s1.heap.objs.size + 2 := by simpa using hq
          rcases e' with e | e | e | e | e | e <;> rw [e] <;> first | exact Nat.le_refl _ | exact Nat.le_add_right _ _
        exact I1.fpOk hle (I1.hok.fresh hle)
/-- a new triple of the i-th items -/
def Y3 (xs ys zs : List V) : Nat → Hp → V → Hp → Prop := fun i H v H' => ∃ T x y u, v = .ref T ∧ H T = none ∧ H' = upd H T (.tup [x, y, u]) ∧ xs[i]? = some x ∧ ys[i]? = some y ∧ zs[i]? = some u
theorem walk3 {K : PySem.W.Frag} {a b c : Addr} {xs ys zs : List V} {n : Nat} (h1 : n ≤ xs.length) (h2 : n ≤ ys.length) (h3 : n ≤ zs.length) (h4 : n = xs.length ∨ n = ys.length ∨ n = zs.length) :
    Walk (It3 K a b c) n (fun H => SqT K H a xs ∧ SqT K H b ys ∧ SqT K H c zs) (Y3 xs ys zs) := by
  refine ⟨fun i H hi q => ?_, fun H q => ⟨xs, ys, zs, q.1, q.2.1, q.2.2, h1, h2, h3, h4⟩, fun i H v H' hi q y => ?_⟩
  · exact ⟨xs, ys, zs, xs[i]'(by omega), ys[i]'(by omega), zs[i]'(by omega), q.1, q.2.1, q.2.2, by simp [show i < xs.length by omega], by simp [show i < ys.length by omega], by simp [show i < zs.length by omega]⟩
  · obtain ⟨T, x, y', u, e1, e2, e3, f1, f2, f3⟩ := y
    exact ⟨T, x, y', u, e1, e2, e3, f1 xs q.1, f2 ys q.2.1, f3 zs q.2.2⟩
/-- zip of two tuples as a walk -/
theorem walk_zipT {K : PySem.W.Frag} {a b : Addr} {xs ys : List V} {n : Nat} (h1 : n = xs.length) (h2 : n = ys.length) :
    Walk (RZ.ItzT K a b) n (fun H => SqT K H a xs ∧ SqT K H b ys) (YPair (fun i => xs[i]?) (fun i => ys[i]?)) := by
  refine ⟨fun i H hi q => ?_, fun H q => ⟨xs, ys, q.1, q.2, .inl (by omega)⟩, fun i H v H' hi q y => ?_⟩
  · exact ⟨xs, ys, xs[i]'(by omega), ys[i]'(by omega), q.1, q.2, by simp [show i < xs.length by omega], by simp [show i < ys.length by omega]⟩
  · obtain ⟨T, x, y', e1, e2, e3, f1, f2⟩ := y
    exact ⟨T, x, y', e1, e2, e3, f1 xs q.1, f2 ys q.2⟩

/-! ### enumerate of a tuple -/
theorem meets_enumT {v : Value} {o : Obj} {H : Heap → Prop} (B : Begins v o H) :
    Meets (Builtin.«enumerate.__new__» ⟨[.type "enumerate", v], []⟩) (fun _ R s => H s.heap ∧
      R (.ok (.ret (.ref (s.heap.push o).objs.size))) { s with heap := (s.heap.push o).push { cls := .type "enumerate", data := .fields #[.none, .bool false, .ref s.heap.objs.size, rawInt 0, .none, .none] } }) :=
  .of_wp fun prog w A R s h => by
    obtain ⟨hp, g, d, tk, os⟩ := s
    obtain ⟨h1, h⟩ := h
    have hsub := sub_enumerate
    have q1 : ∀ {A' : Around} {E : Value → Shared → Prop} {Q : Value → Shared → Prop}, Q (.ref hp.objs.size) ⟨hp.push o, g, d, tk, os⟩ → wpAny (model prog w) A' (pyIter v) Q E ⟨hp, g, d, tk, os⟩ :=
      fun q => B.iter prog w _ _ ⟨hp, g, d, tk, os⟩ _ h1 q
    wp_walk using q1
    refine wpAny_stack_any fun st => wpAny_pure ?_
    split
    · rename_i c _ _ _ _ _
      cases (c == Value.type "enumerate")
      · wp_walk using q1
        exact ⟨_, rfl, h⟩
      · wp_walk using q1
        exact ⟨_, rfl, h⟩
    · wp_walk using q1
      exact ⟨_, rfl, h⟩
theorem call_enumT {prog : Program} {w : World} {A : Around} {E : Value → Shared → Prop} {s : Shared} {l : Addr} {items : Array Value} {Q : Value → Shared → Prop} (hL : s.heap.IsTuple l items)
    (h : ∀ h', IsEnum h' (s.heap.objs.size + 1) s.heap.objs.size 0 .none → h'.IsTupleIter s.heap.objs.size l 0 → h'.objs.size = s.heap.objs.size + 2 →
      (∀ b o, s.heap.get? b = some o → h'.get? b = some o) → Q (.ref (s.heap.objs.size + 1)) { s with heap := h' }) :
    wpAny (model prog w) A (call (.type "enumerate") [.ref l]) Q E s := by
  refine callType_new F.called_enumerate (by decide) (F.typeCall_enumerate_1 _) (F.newCall_enumerate_1 _) (fun obj => F.args_object_init_2 obj _) F.entry_enumerate_new
    (meets_enumT (begins_tuple l items)) ⟨hL, ?_⟩
  generalize ho : ({ cls := .type "tuple_iterator", data := .fields #[.ref l, .int 0 0] } : Obj) = o
  have hz : (s.heap.push o).objs.size = s.heap.objs.size + 1 := Heap.size_push ..
  show _ ∧ _
  rw [hz]
  have he := Heap.get?_push_size (s.heap.push o) (o := { cls := .type "enumerate", data := .fields #[.none, .bool false, .ref s.heap.objs.size, rawInt 0, .none, .none] }) rfl
  rw [hz] at he
  have hi : (s.heap.push o).get? s.heap.objs.size = some o := Heap.get?_push_size _ (by rw [← ho]; rfl)
  refine ⟨⟨_, he, rfl⟩, h _ he ⟨o, Heap.get?_push_of_some _ hi, by rw [← ho], by rw [← ho]; rfl⟩ (by rw [Heap.size_push, hz]) fun b o x => Heap.get?_push_of_some _ (Heap.get?_push_of_some _ x)⟩
def IteT (K : PySem.W.Frag) (a : Addr) : It :=
  ⟨fun i H => ∃ (xs : List V) (x : V), SqT K H a xs ∧ xs[i]? = some x, fun i H v H' => ∃ T x, v = .ref T ∧ H T = none ∧ H' = upd H T (.tup [.int (i : Nat), x]) ∧ ∀ xs, SqT K H a xs → xs[i]? = some x,
    fun i H => ∃ xs : List V, SqT K H a xs ∧ xs.length = i⟩
theorem turn_enumT {P : Program} {w : World} {K : PySem.W.Frag} {elts : List Expr} {kk : Nat} {tpos : Pos} {a e it : Addr} (hne : e ≠ it) (hai : a ≠ it) (hea : e ≠ a) :
    Turn P w K (.Tuple elts kk tpos) (IteT K a) [e, it] e (fun i h => (∃ old, IsEnum h e it ((i : Nat) : Int) old) ∧ h.IsTupleIter it a i) where
  mem := by simp
  obj := fun i h st b hb => by
    obtain ⟨⟨old, he⟩, o, ho, hc, hd⟩ := st
    have e' : b = e ∨ b = it := by simpa using hb
    rcases e' with z | z
    · rw [z]; exact ⟨_, he, fun v q => nomatch q⟩
    · rw [z]; exact ⟨o, ho, fun v q => by rw [hd] at q; cases q⟩
  keep := fun i h h' st k => let ⟨⟨old, he⟩, hi⟩ := st; ⟨⟨old, k e (by simp) _ he⟩, hi.at fun o q => k it (by simp) o q⟩
  item := by
    intro X hP hw hK hc i pins s σ H E I hf st hg
    subst hP hw hK
    obtain ⟨⟨old, he⟩, hit⟩ := st
    obtain ⟨xs, x, hq, hx⟩ := hg
    obtain ⟨its, rv, p, hz⟩ := I.tuple hq
    obtain ⟨u, hu, ru⟩ := rv.get hx
    have hel : e < s.heap.objs.size := Heap.lt_size he
    have hil : it < s.heap.objs.size := by obtain ⟨_, q, _⟩ := hit; exact Heap.lt_size q
    have hh : X.A.in1.handled = none := I.ok.hd hc
    refine wpAny_pyNext_enum_itemD (Draws.tuple hh it a hai its.toArray) he ⟨hit, p⟩ (by simpa using (List.getElem?_eq_some_iff.mp hu).1) hne (by simp only [List.mem_cons, List.not_mem_nil, or_false, not_or]; exact ⟨hne, hea⟩) fun u' h' tk q1 ho d1 hT hsz hk => ?_
    have eu : u = u' := Option.some.inj ((by simpa using hu : its.toArray[i]? = some u).symm.trans q1)
    subst eu
    refine ⟨_, rfl, wpAny_letOwnedTupleGo_enum (s := { s with heap := h', toks := tk + 1 }) ho fun h'' he' sb => ?_⟩
    have hT2 : h''.get? s.heap.objs.size = some { cls := .type "tuple", data := .seq #[.int i tk, u] } := (sb.2 _ (Nat.ne_of_gt hel)).trans hT
    have new : ObjOk X.prog X.w (upd H s.heap.objs.size (.tup [.int (i : Nat), x])) h'' s.heap.objs.size (.tup [.int (i : Nat), x]) :=
      ⟨by show 2 ≤ sizeLine; decide, [.int i tk, u], .cons ⟨_, rfl⟩ (.cons ru .nil), ⟨_, hT2, rfl, _, rfl⟩⟩
    have I1 : Inv X pins σ (upd H s.heap.objs.size (.tup [.int (i : Nat), x])) { s with heap := h'', toks := tk + 1 } :=
      I.turnedNew (ch := [e, it]) (fun b ob hb q => (sb.2 b (fun z => hb (by simp [z]))).trans (hk b ob (fun z => hb (by simp [z])) (fun z => hb (by simp [z])) q)) hf (Nat.le_refl _) new
    refine ⟨.ref s.heap.objs.size, _, I1, rfl, ⟨_, x, rfl, I.hok.fresh (Nat.le_refl _), rfl, fun ys hy => by rw [I.tuple_inj hy hq]; exact hx⟩, ⟨⟨u, ?_⟩, d1.1.at fun o q => (sb.2 it (Ne.symm hne)).trans q⟩, fun b hb => ?_⟩
    · have e1 : ((i + 1 : Nat) : Int) = (i : Int) + 1 := by omega
      rw [e1]; exact he'
    · have hb' : b < s.heap.objs.size := by
        have e' : b = e ∨ b = it := by simpa using hb
        rcases e' with z | z
        · rw [z]; exact hel
        · rw [z]; exact hil
      rw [upd_ne (Nat.ne_of_lt hb')]
      exact (hf b hb).1
  done := by
    intro X hP hw hK hc i pins s σ H E I hf st hg
    subst hP hw hK
    obtain ⟨⟨old, he⟩, hit⟩ := st
    obtain ⟨xs, hq, hx⟩ := hg
    obtain ⟨its, rv, p, hz⟩ := I.tuple hq
    obtain ⟨f0, f1, f2, f3, f4, f5⟩ := hf it (by simp)
    have hl := rv.length
    have hh : X.A.in1.handled = none := I.ok.hd hc
    have en : i = its.toArray.size := by rw [List.size_toArray]; omega
    subst en
    exact wpAny_pyNext_enum_endD (Draws.tuple hh it a hai its.toArray) he ⟨hit, p⟩ fun h' eb => ⟨rfl, I.turned (t' := s.toks) (fun b o hb q => eb b o hb q) f0 f1 f3 f4 f5⟩
  self := fun A i s Q E st h => let ⟨⟨_, he⟩, _⟩ := st; wpAny_pyIter_enum he h
def iEnumT (K : PySem.W.Frag) (ta : TA) : TI := fun σ H R => ta σ H fun vs H1 => ∃ a xs, vs = [.ref a] ∧ SqT K H1 a xs ∧ R (IteT K a) H1
theorem pi_enumT {X : Cx} {e : Expr} {ta : TA} {p pos tpos : Pos} {elts : List Expr} {kk : Nat} (hg : Gl X "enumerate") (hm : X.mg "enumerate" = none) (ha : PA X [e] ta) (hs : starEach [e] X.env = [(false, eval e X.env)] := by rfl) :
    PI X (.Tuple elts kk tpos) (.Call (.Name "enumerate" p) [e] [] pos) (iEnumT X.K ta) := by
  refine ⟨fun pins s σ H R I h => ?_⟩
  refine Call_ (ld_blt I hg hm boot_enumerate (PyProof.Rows.callWith_type1 (thn (ha.run pos pins s σ H _ I h) fun us s1 ⟨vs, H1, I1, r1, q1⟩ => ?_) hs rfl))
  obtain ⟨a, xs, ex, hq, q⟩ := q1
  subst ex
  cases r1 with
  | cons r rr =>
    cases rr
    cases r
    obtain ⟨its, rv, p', hz⟩ := I1.tuple hq
    have la : a < s1.heap.objs.size := p'.lt
    refine call_enumT p' fun h' he hit hsz hk => wpAny_pyIter_enum he ?_
    have I2 : Inv X pins σ H1 { s1 with heap := h' } := I1.kept (t' := s1.toks) hk
    refine ⟨s1.heap.objs.size + 1, [s1.heap.objs.size + 1, s1.heap.objs.size], _, _, H1, rfl, I2, turn_enumT (Nat.succ_ne_self _) (Nat.ne_of_lt la) (Nat.ne_of_gt (Nat.lt_succ_of_lt la)), ⟨⟨.none, he⟩, hit⟩, fun b hb => ?_, q⟩
    have e' : b = s1.heap.objs.size + 1 ∨ b = s1.heap.objs.size := by simpa using hb
    have hle : s1.heap.objs.size ≤ b := by
      rcases e' with z | z
      · rw [z]; exact Nat.le_add_right _ _
      · rw [z]; exact Nat.le_refl _
    exact I1.fpOk hle (I1.hok.fresh hle)
theorem walk_enumT {K : PySem.W.Frag} {a : Addr} {xs : List V} : Walk (IteT K a) xs.length (fun H => SqT K H a xs) (YPair (fun i => some (.int (i : Nat))) (fun i => xs[i]?)) := by
  refine ⟨fun i _ hi q => ⟨xs, xs[i], q, by simp [hi]⟩, fun _ q => ⟨xs, q, rfl⟩, fun i H v H' _ q y => ?_⟩
  obtain ⟨T, x, h1, h2, h3, h4⟩ := y
  exact ⟨T, .int (i : Nat), x, h1, h2, h3, rfl, h4 xs q⟩
end K66
/-! Calls over the layer: set(..), sorted(..), min(..), dict(..) of pairs of whole numbers, sum of a tuple. -/
namespace K66
set_option linter.all false
set_option maxRecDepth 100000
set_option maxHeartbeats 4000000
open PySem PySem.Spec PyProof.Rows L2

/-- a pair as the layer's values, as a set's key, as a dict's key -/
def pv2 (p : Pr) : List V := [.int p.1, .int p.2]
def lk (p : Pr) : List Int := [p.1, p.2]
def pk (p : Pr) : List Key := [Sum.inl p.1, Sum.inl p.2]
theorem lk_inj {p q : Pr} (e : lk p = lk q) : p = q := by
  unfold lk at e
  injection e with e1 e2
  injection e2 with e2 _
  exact pr_ext e1 e2
theorem pk_inj {p q : Pr} (e : pk p = pk q) : p = q := by
  unfold pk at e
  injection e with e1 e2
  injection e2 with e2 _
  exact pr_ext (Sum.inl.inj e1) (Sum.inl.inj e2)
/-- the pair p stands at t -/
def PrT (H : Hp) (t : Addr) (p : Pr) : Prop := H t = some (.tup (pv2 p))
theorem PrT.sq {K : PySem.W.Frag} {H : Hp} {t : Addr} {p : Pr} (h : PrT H t p) : SqT K H t (pv2 p) := .inl (.inl h)

theorem perm_map_inv {α β : Type} {f : α → β} : ∀ {l m : List β}, l.Perm m → ∀ L : List α, m = L.map f → ∃ L1 : List α, l = L1.map f ∧ L1.Perm L := by
  intro l m h
  induction h with
  | nil => intro L e; exact ⟨[], rfl, by rw [List.map_eq_nil_iff.mp e.symm]⟩
  | @cons x l m _ ih =>
    intro L e
    cases L with
    | nil => cases e
    | cons y L =>
      rw [List.map_cons] at e
      injection e with e1 e2
      obtain ⟨L1, q1, q2⟩ := ih L e2
      exact ⟨y :: L1, by rw [List.map_cons, q1, e1], q2.cons y⟩
  | swap x y l =>
    intro L e
    match L, e with
    | a :: b :: L, e =>
      rw [List.map_cons, List.map_cons] at e
      injection e with e1 e2
      injection e2 with e2 e3
      exact ⟨b :: a :: L, by rw [List.map_cons, List.map_cons, ← e1, ← e2, ← e3], .swap a b L⟩
  | trans _ _ ih1 ih2 =>
    intro L e
    obtain ⟨L2, q1, q2⟩ := ih2 L e
    obtain ⟨L1, r1, r2⟩ := ih1 L2 q1
    exact ⟨L1, r1, r2.trans q2⟩
theorem sub_map_inv {α β : Type} {f : α → β} {ks : List α} : ∀ L0 : List β, (∀ p ∈ L0, p ∈ ks.map f) → ∃ L : List α, L0 = L.map f ∧ ∀ q ∈ L, q ∈ ks
  | [], _ => ⟨[], rfl, fun _ h => (by cases h)⟩
  | p :: L0, h => by
    obtain ⟨q, hq, e⟩ := List.mem_map.mp (h p List.mem_cons_self)
    obtain ⟨L, e1, e2⟩ := sub_map_inv L0 fun r hr => h r (List.mem_cons_of_mem _ hr)
    exact ⟨q :: L, by rw [List.map_cons, e, e1], fun r hr => by
      rcases List.mem_cons.mp hr with z | z
      · rw [z]; exact hq
      · exact e2 r z⟩

/-! ### set -/
abbrev keyed (L : List (Addr × Pr)) : List (Addr × List Int) := L.map fun q => (q.1, lk q.2)
/-- the set at a, without the tuples themselves -/
structure SetBare (P : Program) (w : World) (h : Heap) (a : Addr) (L : List (Addr × List Int)) : Prop where
  ex : ∃ (es : Array (Int × Value)) (ep : Nat) (t : SetTable), (∃ o, h.get? a = some o ∧ o.ExactSet ∧ o.data = .set es ep t) ∧ es.toList = rowsOf P w L ∧ Tab t (L.map fun p => thash P w p.2) ∧ (L.map (·.2)).Nodup ∧ t.plain = true ∧
    (w.params.followText "set-order" = true ∨ t.led = true) ∧ L.length * 5 < t.mask * 3 ∧ L.length ≤ 300
def SetO (P : Program) (w : World) (a : Addr) (L : List (Addr × Pr)) : HO := .ext fun h => SetBare P w h a (keyed L)
theorem SetL.bare {P : Program} {w : World} {h : Heap} {a : Addr} {L : List (Addr × List Int)} {es : Array (Int × Value)} {ep : Nat} {t : SetTable} (R : SetL P w h a L es ep t) : SetBare P w h a L :=
  ⟨es, ep, t, R.ob, R.rows, R.tab, R.nd, R.plain, R.led, R.room, R.few⟩
theorem SetBare.whole {P : Program} {w : World} {h : Heap} {a : Addr} {L : List (Addr × List Int)} (R : SetBare P w h a L) (ht : ∀ p ∈ L, IsT P w h p.2 p.1) : ∃ es ep t, SetL P w h a L es ep t := by
  obtain ⟨es, ep, t, h1, h2, h3, h4, h5, h6, h7, h8⟩ := R.ex
  exact ⟨es, ep, t, h1, h2, h3, h4, ht, h5, h6, h7, h8⟩
theorem setO_ok {P : Program} {w : World} {H : Hp} {h : Heap} {a : Addr} {L : List (Addr × Pr)} (R : SetBare P w h a (keyed L)) : ObjOk P w H h a (SetO P w a L) := by
  have ⟨es, ep, t, ⟨o, ho, r⟩, q⟩ := R.ex
  refine ⟨R, ⟨o, ho⟩, fun h1 h2 p k => ?_⟩
  have ⟨es', ep', t', ⟨o', ho', r'⟩, q'⟩ := SetBare.ex p
  exact ⟨es', ep', t', ⟨o', k o' ho', r'⟩, q'⟩
section
variable {X : Cx}
theorem keyed_tup {pins : List (Addr × Obj)} {σ : L2.St} {H : Hp} {s : Shared} (I : Inv X pins σ H s) {L : List (Addr × Pr)} (h : ∀ q ∈ L, PrT H q.1 q.2) : ∀ p ∈ keyed L, IsT X.prog X.w s.heap p.2 p.1 := fun p hp => by
  obtain ⟨q, hq, e⟩ := List.mem_map.mp hp
  subst e
  exact L2.Inv.isT I (h q hq).sq
/-- set(xs), xs a list of pairs -/
def rSet (K : PySem.W.Frag) (P : Program) (w : World) : List V → Hp → VK → Prop := fun xs H Q => ∃ (l : Addr) (ks : List (Addr × Pr)), xs = [V.ref l] ∧ SqL K H l (ks.map fun q => V.ref q.1) ∧ (∀ q ∈ ks, PrT H q.1 q.2) ∧ ks.length ≤ 300 ∧
  ∀ a L, H a = none → (∀ q ∈ L, q ∈ ks) → (∀ q ∈ ks, q.2 ∈ L.map (·.2)) → (L.map (·.2)).Nodup → Q (.ref a) (upd H a (SetO P w a L))
theorem cr_set (hc : X.calm = true) (hu : X.A.units + 64 < cLine) : CallR X (.type "set") (rSet X.K X.prog X.w) := by
  intro pins s σ H xs us Q I r h
  obtain ⟨l, ks, rfl, hl, hk, hf, q⟩ := h
  rw [Vals.ref1 r]
  obtain ⟨its, rv, pl, hz⟩ := I.list hl
  have hn : H s.heap.objs.size = none := I.hok.fresh (Nat.le_refl _)
  have er : ks.map (fun q => V.ref q.1) = (keyed ks).map fun p => V.ref p.1 := by rw [List.map_map]; rfl
  rw [er] at rv
  refine set_call (P := X.prog) (w := X.w) (keyed ks) (I.ok.hd hc) pl.isList (by simpa using refs_of_vals rv) (keyed_tup I hk) (by rw [List.length_map]; exact hf) (by omega) fun h' tk L0 es ep t R g k => ?_
  obtain ⟨L, e, sub⟩ := sub_map_inv (f := fun q : Addr × Pr => (q.1, lk q.2)) (ks := ks) L0 fun p hp => List.mem_of_mem_take (g.sub p hp)
  subst e
  refine ⟨.ref s.heap.objs.size, upd H s.heap.objs.size (SetO X.prog X.w s.heap.objs.size L), I.laid (t' := tk) k (Nat.le_refl _) (setO_ok R.bare), rfl, q _ L hn sub (fun p hp => ?_) ?_⟩
  · have h1 := g.all (p.1, lk p.2) (by rw [List.take_length]; exact List.mem_map.mpr ⟨p, hp, rfl⟩)
    rw [List.map_map] at h1
    obtain ⟨y, hy, e⟩ := List.mem_map.mp h1
    exact List.mem_map.mpr ⟨y, hy, lk_inj e⟩
  · have h1 := R.nd
    rw [List.map_map] at h1
    have h2 : (L.map (fun q => lk q.2)).Nodup := h1
    rw [show L.map (fun q => lk q.2) = (L.map (·.2)).map lk by rw [List.map_map]; rfl] at h2
    exact nodup_of_map h2

/-! ### sorted(set) -/
def encP (b : Addr × Pr) : PyData := .tuple [.int b.2.1, .int b.2.2]
theorem read_pair {pins : List (Addr × Obj)} {σ : L2.St} {H : Hp} {s : Shared} (I : Inv X pins σ H s) {t : Addr} {p : Pr} (h : PrT H t p) : Reads s.heap (.ref t) (.tuple [.int p.1, .int p.2]) [] := by
  obtain ⟨its, rv, ⟨o, ho, hc, n, hd⟩, _⟩ := I.tuple h.sq
  unfold pv2 at rv
  cases rv with
  | cons r1 rr =>
    cases rr with
    | cons r2 rr =>
      cases rr
      obtain ⟨t1, rfl⟩ := r1
      obtain ⟨t2, rfl⟩ := r2
      exact Reads.tuple ho hc hd (ReadsAll.cons (Reads.int _ _) (ReadsAll.cons (Reads.int _ _) ReadsAll.nil))
theorem read_keep {h h' : Heap} {t : Addr} {d : PyData} {as : List Addr} (k : ∀ b o, h.get? b = some o → h'.get? b = some o) (r : Reads h (.ref t) d as) : Reads h' (.ref t) d as := PyProof.Rows.Reads.keeps k r
def leP (p q : Addr × Pr) : Bool := decide (p.2.1 < q.2.1 ∨ (p.2.1 = q.2.1 ∧ p.2.2 ≤ q.2.2))
theorem dataLe_P : PySem.W.dataLe false encP = leP := PySem.W.dataLe_ii (fun b : Addr × Pr => b.2.1) (fun b => b.2.2)
theorem leP_total (a b : Addr × Pr) : (leP a b || leP b a) = true := by
  unfold leP
  rw [Bool.or_eq_true, decide_eq_true_eq, decide_eq_true_eq]
  omega
theorem leP_trans (a b c : Addr × Pr) (h1 : leP a b = true) (h2 : leP b c = true) : leP a c = true := by
  unfold leP at *
  rw [decide_eq_true_eq] at *
  omega
theorem sorted_strict {L : List (Addr × Pr)} (nd : (L.map (·.2)).Nodup) (h : L.Pairwise (fun a b => leP a b = true)) : (L.map (·.2)).Pairwise lx := by
  have h2 : (L.map (·.2)).Pairwise (fun p q : Pr => p.1 < q.1 ∨ (p.1 = q.1 ∧ p.2 ≤ q.2)) := by
    rw [List.pairwise_map]
    exact List.Pairwise.imp (fun {a b} z => by unfold leP at z; rw [decide_eq_true_eq] at z; exact z) h
  refine List.Pairwise.imp (fun {p q} z => ?_) (h2.and nd)
  obtain ⟨z1, z2⟩ := z
  unfold lx
  rcases z1 with z | ⟨z, y⟩
  · exact .inl z
  · refine .inr ⟨z, ?_⟩
    rcases Int.lt_or_eq_of_le y with x | x
    · exact x
    · exact absurd (pr_ext z x) z2
theorem each_refs : ∀ (bs : List (Addr × Pr)), PySem.W.EachIs (fun (v : Value) (b : Addr × Pr) => v = Value.ref b.1) (bs.map fun q => Value.ref q.1) bs
  | [] => .nil
  | b :: bs => .cons rfl (each_refs bs)
theorem of_each : ∀ {out : List Value} {bs : List (Addr × Pr)}, PySem.W.EachIs (fun (v : Value) (b : Addr × Pr) => v = Value.ref b.1) out bs → out = bs.map fun q => Value.ref q.1
  | _, _, .nil => rfl
  | _, _, .cons e t => by rw [List.map_cons, e, of_each t]
theorem each_of {R : Value → Addr × Pr → Prop} : ∀ (bs : List (Addr × Pr)), (∀ b ∈ bs, R (Value.ref b.1) b) → PySem.W.EachIs R (bs.map fun q => Value.ref q.1) bs
  | [], _ => .nil
  | b :: bs, h => .cons (h b List.mem_cons_self) (each_of bs fun c hc => h c (List.mem_cons_of_mem _ hc))
theorem sorted_raw {P : Program} {w : World} {A : Around} {E : Value → Shared → Prop} {s : Shared} {a : Addr} {L : List (Addr × Pr)} {es : Array (Int × Value)} {ep : Nat} {t : SetTable} {Q : Value → Shared → Prop} (R : SetL P w s.heap a (keyed L) es ep t) (hh : A.handled = none) (hu : A.units + 8 < cLine)
    (rd : ∀ q ∈ L, Reads s.heap (.ref q.1) (encP q) [])
    (hQ : ∀ s' p (out : Array Value) (c : Nat) (L' : List (Addr × Pr)), (∀ b o, s.heap.get? b = some o → s'.heap.get? b = some o) → s'.gens = s.gens → s'.os = s.os → s.heap.objs.size ≤ p →
      s'.heap.get? p = some (seqObj "list" out c) → out.toList = L'.map (fun q => Value.ref q.1) → L'.Perm L → (L'.map (·.2)).Pairwise lx → Q (.ref p) s') :
    wpAny (model P w) A (call (.builtin "sorted") [.ref a]) Q E s := by
  obtain ⟨o, ho, hex, hd⟩ := R.ob
  have hsz := R.size
  have hfew := R.few
  rw [List.length_map] at hsz hfew
  refine Calls.call_function_entry kind_sorted plain_sorted entry_sorted (args_sorted1 _) ?_
  unfold Builtin.«sorted»
  refine wpAny_bind (m := checkCount "sorted" 1 1 _) (wpAny_pure ?_)
  refine wpAny_bind (collect_set (A := A.in1) hh ⟨o, ho, hex.1, hd⟩ R.fits (by unfold scanBound; omega) R.tab.ris R.led fun s1 vs k1 hz g1 o1 pm => ?_)
  have hes : es.toList.map (·.2) = L.map fun q => Value.ref q.1 := by
    rw [R.rows]
    unfold rowsOf
    rw [List.map_map, List.map_map]
    rfl
  rw [hes] at pm
  obtain ⟨bs, e, pb⟩ := perm_map_inv pm L rfl
  subst e
  have hbl : bs.length = L.length := pb.length_eq
  refine wpAny_bind (wpAny_newList ?_ (by rw [List.length_map, sizeLine_eq]; omega))
  have hoL : (s1.heap.push (seqObj "list" (bs.map fun q => Value.ref q.1).toArray 0)).get? s1.heap.objs.size = some (seqObj "list" (bs.map fun q => Value.ref q.1).toArray 0) := Heap.get?_push_size _ rfl
  refine wpAny_bind (wpAny_holding (PySem.W.list_sort_data (s := { s1 with heap := s1.heap.push (seqObj "list" (bs.map fun q => Value.ref q.1).toArray 0) }) (enc := encP) hoL (each_refs bs) (each_of bs fun b hb => ⟨[], ?_, List.not_mem_nil⟩)
    (PySem.W.AllAlike.of fun b b' => by simp [encP, PySem.W.alike, PySem.W.alikeAll]) (PySem.W.Sortable.tuples fun b => ⟨_, _, rfl⟩) (by rw [sizeLine_eq]; omega) (fun b _ => by
      have : (encP b).depth ≤ 1 := by simp [encP, PyData.depth, PyData.depthAll]
      show A.units + 1 + 1 + (encP b).depth < cLine
      omega) fun out hl ho2 => ?_))
  · exact read_keep (fun c u z => Heap.get?_push_of_some _ (k1 c u z)) (rd b (pb.mem_iff.mp hb))
  have eo := of_each ho2
  rw [dataLe_P] at eo
  obtain ⟨c, hc⟩ := sortedHeap_at (vs := bs.map fun q => Value.ref q.1) (out := out.toArray) hoL
  have pL : (bs.mergeSort leP).Perm L := (List.mergeSort_perm bs leP).trans pb
  have nd : (L.map (·.2)).Nodup := by
    have h1 := R.nd
    rw [List.map_map] at h1
    have h2 : ((L.map (·.2)).map lk).Nodup := by rw [List.map_map]; exact h1
    exact nodup_of_map h2
  have pw : ((bs.mergeSort leP).map (·.2)).Pairwise lx := sorted_strict ((pL.map (·.2)).nodup_iff.mpr nd) (List.pairwise_mergeSort leP_trans leP_total bs)
  refine wpAny_pure ⟨_, rfl, hQ _ s1.heap.objs.size out.toArray c (bs.mergeSort leP) (fun b u z => ?_) g1 o1 hz hc eo pL pw⟩
  have q := k1 b u z
  have hlt := Heap.lt_size q
  show (sortedHeap (s1.heap.push _) s1.heap.objs.size _ _).get? b = some u
  rw [sortedHeap_old (Nat.ne_of_lt hlt) (by rw [size_push']; exact Nat.lt_succ_of_lt hlt)]
  exact Heap.get?_push_of_some _ q
/-- sorted(the set at a) -/
def rSortedSet (P : Program) (w : World) : List V → Hp → VK → Prop := fun vs H Q => ∃ (a : Addr) (L : List (Addr × Pr)), vs = [V.ref a] ∧ H a = some (SetO P w a L) ∧ (∀ q ∈ L, PrT H q.1 q.2) ∧
  ∀ (L' : List (Addr × Pr)) (p : Addr), L'.Perm L → (L'.map (·.2)).Pairwise lx → H p = none → Q (.ref p) (upd H p (.lst (L'.map fun q => V.ref q.1)))
theorem vals_refs : ∀ (L : List (Addr × Pr)), Vals (L.map fun q => V.ref q.1) (L.map fun q => Value.ref q.1)
  | [] => .nil
  | p :: L => .cons rfl (vals_refs L)
theorem cr_sortedSet (hc : X.calm = true) (hu : X.A.units + 64 < cLine) : CallR X (.builtin "sorted") (rSortedSet X.prog X.w) := by
  intro pins s σ H vs us Q I r h
  obtain ⟨a, L, rfl, ha, hk, q⟩ := h
  have R0 : SetBare X.prog X.w s.heap a (keyed L) := (I.hok a _ ha).1
  obtain ⟨es, ep, t, R⟩ := R0.whole (keyed_tup I hk)
  rw [Vals.ref1 r]
  refine sorted_raw R (I.ok.hd hc) (by omega) (fun q hq => read_pair I (hk q hq)) fun s' p out c L' k g o hp hg hout pm pw => ?_
  have hlen : (L'.map fun q => V.ref q.1).length ≤ sizeLine := by
    have h1 := R.few
    rw [List.length_map] at h1
    rw [List.length_map, sizeLine_eq, pm.length_eq]
    omega
  have hn : H p = none := I.hok.fresh hp
  have hv : Vals (L'.map fun q => V.ref q.1) out.toList := by rw [hout]; exact vals_refs L'
  have J : Inv X pins σ (upd H p (.lst (L'.map fun q => V.ref q.1))) { s with heap := s'.heap, gens := s'.gens, drawn := s'.drawn, toks := s'.toks } :=
    I.call (ch := []) (Un.laid k hp hn) (I.hok.laid k hp ⟨hlen, out.toList, c, hv, hg⟩) (by rw [g]; exact I.bare) (fun _ z => nomatch z)
  have e : s' = { s with heap := s'.heap, gens := s'.gens, drawn := s'.drawn, toks := s'.toks } := by
    cases s'
    cases s
    cases o
    rfl
  rw [e]
  exact ⟨.ref p, _, J, rfl, q L' p pm pw hn⟩

/-! ### min of a list of pairs -/
theorem lt_iff (p q : Int × Int) : PySem.W.DatumOrd.lt p q = true ↔ lx p q := by
  show (if p.1 = q.1 then decide (p.2 < q.2) else decide (p.1 < q.1)) = true ↔ _
  unfold lx
  by_cases h : p.1 = q.1
  · rw [if_pos h, decide_eq_true_eq]
    omega
  · rw [if_neg h, decide_eq_true_eq]
    omega
theorem min_ok : ∀ (xs : List (Int × Int)) (x : Int × Int), PySem.W.minOf x xs ∈ x :: xs ∧ ∀ y ∈ x :: xs, ¬ lx y (PySem.W.minOf x xs)
  | [], x => ⟨List.mem_cons_self, fun y hy => by
    rw [List.mem_singleton.mp hy]
    exact lx_irr x⟩
  | z :: xs, x => by
    have e : PySem.W.minOf x (z :: xs) = PySem.W.minOf (if PySem.W.DatumOrd.lt z x = true then z else x) xs := rfl
    rw [e]
    by_cases h : PySem.W.DatumOrd.lt z x = true
    · rw [if_pos h]
      obtain ⟨h1, h2⟩ := min_ok xs z
      refine ⟨List.mem_cons_of_mem _ h1, fun y hy => ?_⟩
      rcases List.mem_cons.mp hy with q | q
      · subst q
        intro c
        exact h2 z List.mem_cons_self (lx_trans ((lt_iff z y).1 h) c)
      · exact h2 y q
    · rw [if_neg h]
      obtain ⟨h1, h2⟩ := min_ok xs x
      have h' : ¬ lx z x := fun c => h ((lt_iff z x).2 c)
      refine ⟨?_, fun y hy => ?_⟩
      · rcases List.mem_cons.mp h1 with q | q
        · rw [q]; exact List.mem_cons_self
        · exact List.mem_cons_of_mem _ (List.mem_cons_of_mem _ q)
      · rcases List.mem_cons.mp hy with q | q
        · rw [q]; exact h2 x List.mem_cons_self
        · rcases List.mem_cons.mp q with q | q
          · rw [q]
            intro c
            have h3 := h2 x List.mem_cons_self
            unfold lx at *
            omega
          · exact h2 y (List.mem_cons_of_mem _ q)
/-- min(xs), xs a list of pairs, not empty -/
def rMinP (K : PySem.W.Frag) : List V → Hp → VK → Prop := fun vs H Q => ∃ (a : Addr) (L : List (Addr × Pr)), vs = [V.ref a] ∧ SqL K H a (L.map fun q => V.ref q.1) ∧ (∀ q ∈ L, PrT H q.1 q.2) ∧ L ≠ [] ∧
  ∀ m ∈ L, (∀ q ∈ L, ¬ lx q.2 m.2) → Q (.ref m.1) H
theorem holds_of_read {h : Heap} {t : Addr} {p : Pr} (r : Reads h (.ref t) (.tuple [.int p.1, .int p.2]) []) : PySem.W.Holds h (.ref t) (p : Int × Int) := ⟨[], r⟩
theorem holdAll_of {h : Heap} : ∀ (L : List (Addr × Pr)), (∀ q ∈ L, Reads h (.ref q.1) (.tuple [.int q.2.1, .int q.2.2]) []) → PySem.W.HoldAll h (L.map fun q => Value.ref q.1) (L.map fun q => (q.2 : Int × Int))
  | [], _ => PySem.W.HoldAll.nil
  | q :: L, hr => PySem.W.HoldAll.cons (holds_of_read (hr q List.mem_cons_self)) (holdAll_of L fun c hc => hr c (List.mem_cons_of_mem _ hc))
theorem pair_unique {h : Heap} {t : Addr} {p q : Pr} (r1 : Reads h (.ref t) (.tuple [.int p.1, .int p.2]) []) (r2 : PySem.W.Holds h (.ref t) (q : Int × Int)) : p = q := by
  obtain ⟨as, r2⟩ := r2
  have e := SeqAt.plain_unique _ _ (.ref t) [] as (by simp [PyData.plain, PyData.plainAll]) r1 r2
  have e' : PyData.tuple [.int p.1, .int p.2] = PyData.tuple [.int q.1, .int q.2] := e
  injection e' with e'
  injection e' with e1 e2
  injection e2 with e2 _
  injection e1 with e1
  injection e2 with e2
  exact pr_ext e1 e2
theorem cr_minP (hc : X.calm = true) (hu : X.A.units + 64 < cLine) : CallR X (.builtin "min") (rMinP X.K) := by
  intro pins s σ H vs us Q I r h
  obtain ⟨a, L, rfl, hl, hk, hne, q⟩ := h
  rw [Vals.ref1 r]
  obtain ⟨its, rv, pl, hz⟩ := I.list hl
  have ei : its = L.map fun q => Value.ref q.1 := by
    have er : L.map (fun q => V.ref q.1) = (keyed L).map fun p => V.ref p.1 := by rw [List.map_map]; rfl
    rw [er] at rv
    have e := refs_of_vals rv
    rw [List.map_map] at e
    exact e
  subst ei
  have rd : ∀ q ∈ L, Reads s.heap (.ref q.1) (.tuple [.int q.2.1, .int q.2.2]) [] := fun q hq => read_pair I (hk q hq)
  cases L with
  | nil => exact absurd rfl hne
  | cons m0 L =>
    have hA := holdAll_of (m0 :: L) rd
    refine PySem.W.min_list_datum (x := (m0.2 : Int × Int)) (xs := L.map fun q => (q.2 : Int × Int)) (I.ok.hd hc) pl.isList (by simpa using hA) (by show X.A.units + 1 + _ < cLine; simp [PySem.W.Datum.depth]; omega) fun i v h' tk hi hv k => ?_
    obtain ⟨o1, o2⟩ := min_ok (L.map fun q => (q.2 : Int × Int)) m0.2
    have hi' : ((m0 :: L).map fun q => Value.ref q.1)[i]? = some v := by simpa using hi
    rw [List.getElem?_map] at hi'
    cases hm : (m0 :: L)[i]? with
    | none => rw [hm] at hi'; cases hi'
    | some m =>
      rw [hm] at hi'
      obtain rfl : Value.ref m.1 = v := Option.some.inj hi'
      have hmem : m ∈ m0 :: L := List.mem_of_getElem? hm
      have em : m.2 = PySem.W.minOf (m0.2 : Int × Int) (L.map fun q => (q.2 : Int × Int)) := pair_unique (read_keep k (rd m hmem)) hv
      refine ⟨.ref m.1, H, I.kept (t' := tk) k, rfl, q m hmem fun c hc2 => ?_⟩
      rw [em]
      exact o2 c.2 (by
        have : c.2 ∈ (m0 :: L).map (fun q => (q.2 : Int × Int)) := List.mem_map.mpr ⟨c, hc2, rfl⟩
        simpa using this)

/-! ### sum of a tuple -/
def rSumT (K : PySem.W.Frag) : List V → Hp → VK → Prop := fun vs H Q => ∃ (a : Addr) (ns : List Int), vs = [V.ref a] ∧ SqT K H a (ns.map V.int) ∧ Q (.int ns.sum) H
theorem cr_sumT (hc : X.calm = true) : CallR X (.builtin "sum") (rSumT X.K) := by
  intro pins s σ H vs us Q I r h
  obtain ⟨a, ns, rfl, ha, q⟩ := h
  rw [Vals.ref1 r]
  obtain ⟨its, rv, p, _⟩ := I.tuple ha
  have hi := Vals.ints rv
  obtain ⟨xs, e⟩ := hi.allInts.items
  have hn : numsOf (intItems xs).toList = ns := by rw [← e]; exact hi.numsOf
  rw [nums_intItems] at hn
  have p' : s.heap.IsTuple a (intItems xs) := by rw [← e]; exact p
  refine PySem.W.ktm_sumG (I.ok.hd hc) p' fun h' tk t' k => ⟨.int ns.sum, H, I.kept (t' := tk) k, ⟨t', ?_⟩, q⟩
  rw [preSum_eq, List.take_of_length_le (by simp), hn]

/-! ### dict of pairs with tuple keys -/
def rDictP : List V → Hp → VK → Prop := fun xs H Q => ∃ (l : Addr) (ps : List (Addr × Addr × Pr)), xs = [V.ref l] ∧ H l = some (.lst (ps.map fun q => V.ref q.1)) ∧ (∀ q ∈ ps, H q.1 = some (.tup [.ref q.2.1, .bl true]) ∧ PrT H q.2.1 q.2.2) ∧
  (ps.map (·.2.2)).Nodup ∧ ps.length ≤ 1000 ∧ ∀ d, H d = none → Q (.ref d) (upd H d (.dT (ps.map fun q => (pk q.2.2, V.bl true))))
theorem stored_all {K : Type} [DecidableEq K] : ∀ (ps acc : List (K × Addr × Value)), ((acc ++ ps).map (·.1)).Nodup → storedAllH acc ps = acc ++ ps
  | [], acc, _ => by rw [List.append_nil]; rfl
  | p :: ps, acc, h => by
    show storedAllH (storedH acc p.1 p.2.1 p.2.2) ps = _
    have hno : atKey acc p.1 = none := by
      cases q : atKey acc p.1 with
      | none => rfl
      | some y =>
        exfalso
        unfold atKey at q
        obtain ⟨x, hx, _⟩ := Option.map_eq_some_iff.mp q
        have hm := List.mem_of_find?_eq_some hx
        have he := List.find?_some hx
        have he' : x.1 = p.1 := by simpa using he
        rw [List.map_append] at h
        exact (List.nodup_append.mp h).2.2 x.1 (List.mem_map.mpr ⟨x, hm, rfl⟩) p.1 (by rw [List.map_cons]; exact List.mem_cons_self) he'
    rw [storedH_new hno, stored_all ps (acc ++ [(p.1, p.2.1, p.2.2)]) (by rw [List.append_assoc]; exact h), List.append_assoc]
    rfl
theorem pairs_rel {H : Hp} : ∀ (ps : List (Addr × Addr × Pr)), (∀ q ∈ ps, PrT H q.2.1 q.2.2) →
    Paired (fun (p : List Key × V) (q : List Key × Addr × Value) => p.1 = q.1 ∧ H q.2.1 = some (.tup (p.1.map kV)) ∧ RelV p.2 q.2.2) (ps.map fun q => (pk q.2.2, V.bl true)) (ps.map fun q => (pk q.2.2, q.2.1, Value.bool true))
  | [], _ => .nil
  | q :: ps, h => .cons ⟨rfl, h q List.mem_cons_self, rfl⟩ (pairs_rel ps fun c hc => h c (List.mem_cons_of_mem _ hc))
theorem cr_dictP (hc : X.calm = true) (hu : X.A.units + 64 < cLine) : CallR X (.type "dict") rDictP := by
  intro pins s σ H xs us Q I r h
  obtain ⟨l, ps, rfl, hl, hk, nd, hlen, q⟩ := h
  rw [Vals.ref1 r]
  obtain ⟨hz, its, n, rv, ho⟩ := I.hok l _ hl
  have ei : its = ps.map fun q => Value.ref q.1 := by
    have e := Vals.length rv
    refine List.ext_getElem? fun i => ?_
    cases hi : ps[i]? with
    | none =>
      have h1 : (ps.map fun q => V.ref q.1)[i]? = none := by rw [List.getElem?_map, hi]; rfl
      rw [rv.none_of h1, List.getElem?_map, hi]
      rfl
    | some p =>
      have h1 : (ps.map fun q => V.ref q.1)[i]? = some (V.ref p.1) := by rw [List.getElem?_map, hi]; rfl
      obtain ⟨u, hu1, hu2⟩ := rv.get h1
      cases hu2
      rw [hu1, List.getElem?_map, hi]
      rfl
  have hn : H s.heap.objs.size = none := I.hok.fresh (Nat.le_refl _)
  have hsub : ∀ i p, ps[i]? = some p → p ∈ ps := fun i p e => List.mem_of_getElem? e
  have hpairs : PairItems s.heap its.toArray (fun j => ((ps[j]?.map (·.1)).getD 0)) (ps.map fun q => (Value.ref q.2.1, Value.bool true)) := by
    refine ⟨by rw [List.size_toArray, ei, List.length_map, List.length_map], fun j k v hj => ?_⟩
    rw [List.getElem?_map] at hj
    cases hp : ps[j]? with
    | none => rw [hp] at hj; cases hj
    | some p =>
      rw [hp] at hj
      have e2 : (Value.ref p.2.1, Value.bool true) = (k, v) := Option.some.inj hj
      injection e2 with e2 e3
      subst e2
      subst e3
      refine ⟨by rw [ei]; simp [hp], ?_⟩
      obtain ⟨h1, _⟩ := hk p (hsub j p hp)
      obtain ⟨its2, rv2, ⟨o, ho2, hc2, n2, hd2⟩, _⟩ := I.tuple (show SqT X.K H p.1 [.ref p.2.1, .bl true] from .inl (.inl h1))
      cases rv2 with
      | cons r1 rr =>
        cases rr with
        | cons r2 rr =>
          cases rr
          cases r1
          cases r2
          show PairAt s.heap ((ps[j]?.map (·.1)).getD 0) (Value.ref p.2.1) (Value.bool true)
          rw [hp]
          exact .inl ⟨o, ho2, hc2, n2, hd2⟩
  refine call_dict_pairsH (knd := tupleKind (mixKind X.prog X.w)) (ps := ps.map fun q => (pk q.2.2, q.2.1, Value.bool true)) (PairArg.list l its.toArray (fun j => ((ps[j]?.map (·.1)).getD 0)) (ps.map fun q => (Value.ref q.2.1, Value.bool true))) (I.ok.hd hc)
    (by show X.A.units + 1 + 1 < cLine; omega) ⟨⟨_, n, ho, rfl, rfl, rfl⟩, hpairs⟩ ⟨by rw [List.length_map, List.length_map], fun i key v hr => ?_⟩ (fun h' hk' x hx => ?_) (by rw [List.length_map, sizeLine_eq]; omega) fun h' tk hd' k => ?_
  · have hr' : (ps.map fun q => (Value.ref q.2.1, Value.bool true))[i]? = some (key, v) := hr
    rw [List.getElem?_map] at hr'
    cases hp : ps[i]? with
    | none => rw [hp] at hr'; cases hr'
    | some p =>
      rw [hp] at hr'
      have e2 : (Value.ref p.2.1, Value.bool true) = (key, v) := Option.some.inj hr'
      injection e2 with e2 e3
      exact ⟨pk p.2.2, p.2.1, by rw [List.getElem?_map, hp, ← e3]; rfl, e2.symm⟩
  · obtain ⟨p, hp, e⟩ := List.mem_map.mp hx
    subst e
    obtain ⟨o, items, m, h1, h2⟩ := key_of (P := X.prog) (w := X.w) I.hok (ks := pk p.2.2) (hk p hp).2
    exact ⟨o, items, m, hk' _ o (Nat.ne_of_lt (Heap.lt_size h1)) (by simp) h1, h2⟩
  · have kk : ∀ b o, s.heap.get? b = some o → h'.get? b = some o := fun b o e => k b o (by simp) e
    have ndk : ((ps.map fun q => (pk q.2.2, q.2.1, Value.bool true)).map (·.1)).Nodup := by
      rw [List.map_map]
      have e : (ps.map (·.2.2)).map pk = ps.map ((·.1) ∘ fun q : Addr × Addr × Pr => (pk q.2.2, q.2.1, Value.bool true)) := by rw [List.map_map]; rfl
      rw [← e]
      exact List.pairwise_map.mpr (List.Pairwise.imp (fun {a b} (hne : a ≠ b) e => hne (pk_inj e)) nd)
    rw [stored_all _ [] (by rw [List.nil_append]; exact ndk), List.nil_append] at hd'
    obtain ⟨o, es, ep, g1, g2, g3, g4, g5, g6⟩ := hd'
    have new : ObjOk X.prog X.w (upd H s.heap.objs.size (.dT (ps.map fun q => (pk q.2.2, V.bl true)))) h' s.heap.objs.size (.dT (ps.map fun q => (pk q.2.2, V.bl true))) := by
      refine ⟨by rw [List.length_map, sizeLine_eq]; omega, beq_eq_false_iff_ne.mpr (Nat.ne_of_gt I.big), _, pairs_rel ps fun p hp => ?_, o, es, ep, g1, g2, g3, g4, g6⟩
      unfold PrT
      rw [upd_ne (ne_of_none (hk p hp).2 hn)]
      exact (hk p hp).2
    exact ⟨.ref s.heap.objs.size, _, I.laid (t' := tk) kk (Nat.le_refl _) new, rfl, q _ hn⟩
end
end K66
/-! The text by places; what the walk asks of the module; small checkers. -/
namespace K66
set_option linter.all false
set_option maxRecDepth 100000
set_option maxHeartbeats 4000000
open PySem L2
def top (i : Nat) : Stmt := PySem.Challenge.pw_casknotes_k66_whole_few_among_all.main.body.getD i (.Pass ⟨0, 0, 0, 0⟩)
abbrev sRows : Stmt := top 1
abbrev sChosen : Stmt := top 2
abbrev sFew : Stmt := top 3
abbrev sWhole : Stmt := top 5
abbrev sRising : Stmt := top 7
abbrev sNumbers : Stmt := top 8
abbrev sPair : Stmt := top 9
abbrev sPRow : Stmt := top 10
abbrev sLeads : Stmt := top 11
abbrev sHolds : Stmt := top 12
abbrev sDeck : Stmt := top 14
abbrev sDraw : Stmt := top 15
abbrev sGrains : Stmt := top 16
abbrev sChoices : Stmt := top 17
abbrev sDue : Stmt := top 19
abbrev sRight : Stmt := top 20
abbrev sLaw : Stmt := top 21
/-- the built-ins that the text calls -/
structure Txt (mg : Str → Option Value) : Prop where
  len : mg "len" = none
  sorted : mg "sorted" = none
  set : mg "set" = none
  list : mg "list" = none
  tuple : mg "tuple" = none
  range : mg "range" = none
  sum : mg "sum" = none
  min : mg "min" = none
  max : mg "max" = none
  isi : mg "isinstance" = none
  int : mg "int" = none
  bool : mg "bool" = none
  all : mg "all" = none
  any : mg "any" = none
  zip : mg "zip" = none
  dict : mg "dict" = none
  enum : mg "enumerate" = none
/-- a def of the text that keeps a promise, as a caller uses it -/
structure Cal (P : Program) (w : World) (K : PySem.W.Frag) (mg : Str → Option Value) (base : Heap) (x : Str) (k : Nat) (ps : List Str) (sp : Sp) (f : Addr) (fd : FuncData) : Prop where
  at_ : mg x = some (.ref f)
  kp : PySem.W.keepIn K (.ref f) = true
  bd : Binds K fd ps []
  ok : FnOk P w K mg base CX0 k f fd ps sp
section
variable {P : Program} {w : World} {K : PySem.W.Frag} {mg : Str → Option Value} {base : Heap}

/-! ### is_whole -/
def spWhole : Sp := fun vs H Q _ => ∃ i : Int, vs = [.int i] ∧ Q (.bl true) H
theorem scW : FnScope ["thing"] ["thing"] (defScope sWhole) := ⟨rfl, rfl, rfl, by decide +kernel, rfl, by decide +kernel, by decide +kernel⟩
theorem ok_whole {f : Addr} {fd : FuncData} (F : Fun K "is_whole" "is_whole" sWhole f fd) (T : Txt mg) : FnOk P w K mg base CX0 1 f fd ["thing"] spWhole := by
  refine F.ok scW (fun vs H Q E h => ?_) (fun cdv A outer s H vs Q E hr h => ?_)
  · obtain ⟨i, rfl, _⟩ := h
    rfl
  · obtain ⟨i, rfl, k⟩ := h
    refine ⟨_, pss_one (ps_ret (pe_and (pe_callB call_isi (by rfl) T.isi (by decide +kernel) (pa_cons (pv 0) (pa_cons (pe_bltn (v := .ty "int") (by rfl) T.int (by decide +kernel) rfl) pa_nil)))
      (pe_one (pe_not (pe_callB call_isi (by rfl) T.isi (by decide +kernel) (pa_cons (pv 0) (pa_cons (pe_bltn (v := .ty "bool") (by rfl) T.bool (by decide +kernel) rfl) pa_nil))))))), ?_⟩
    refine ⟨_, rfl, .int i, .ty "int", .type "int", .type "int", true, rfl, .ty _, .base (.int i), kit_ty (by decide +kernel), true, rfl, iteT ?_⟩
    exact ⟨_, rfl, .int i, .ty "bool", .type "int", .type "bool", false, rfl, .ty _, .base (.int i), kit_ty (by decide +kernel), false, rfl, k⟩
end
end K66
namespace K66
set_option linter.all false
set_option maxRecDepth 100000
set_option maxHeartbeats 4000000
open PySem L2
/-! ### a comprehension that leaves all that stood -/
/-- behind i turns: what stood at H1 stands, the list at D holds some acc of which R is true -/
def Gr (R : Nat → List V → Hp → Prop) (H1 : Hp) (D : Addr) (i : Nat) (H : Hp) : Prop := Same H1 H ∧ ∃ acc, H D = some (.lst acc) ∧ R i acc H
theorem same_new {H0 H : Hp} {T : Addr} {o : HO} (s : Same H0 H) (hT : H T = none) : Same H0 (upd H T o) := fun b u e => by
  rw [upd_ne (ne_of_none (s b u e) hT)]
  exact s b u e
theorem same_at {H0 H : Hp} {T : Addr} {o : HO} (s : Same H0 H) (hT : H0 T = none) : Same H0 (upd H T o) := fun b u e => by
  rw [upd_ne (ne_of_none e hT)]
  exact s b u e
theorem gr_start {R : Nat → List V → Hp → Prop} {H1 : Hp} {D : Addr} (hD : H1 D = none) (r : R 0 [] (upd H1 D (.lst []))) : Gr R H1 D 0 (upd H1 D (.lst [])) :=
  ⟨same_at (Same.refl H1) hD, [], upd_same, r⟩
theorem gr_next {R : Nat → List V → Hp → Prop} {H1 H4 : Hp} {D : Addr} {i : Nat} {acc : List V} {y : V} (hD : H1 D = none) (s : Same H1 H4) (h : H4 D = some (.lst acc)) (hl : acc.length < 5000) (r : R (i + 1) (acc ++ [y]) (upd H4 D (.lst (acc ++ [y])))) :
    ∃ acc, H4 D = some (.lst acc) ∧ acc.length < sizeLine ∧ Gr R H1 D (i + 1) (upd H4 D (.lst (acc ++ [y]))) :=
  ⟨acc, h, Nat.lt_of_lt_of_le hl (by decide), same_at s hD, acc ++ [y], upd_same, r⟩
theorem gr_skip {R : Nat → List V → Hp → Prop} {H1 H4 : Hp} {D : Addr} {i : Nat} {acc : List V} (s : Same H1 H4) (h : H4 D = some (.lst acc)) (r : R (i + 1) acc H4) : Gr R H1 D (i + 1) H4 := ⟨s, acc, h, r⟩
theorem tyes {σ : L2.St} {H : Hp} {F : Bool → Hp → Prop} (h : F true H) : tYes σ H F := h
/-- all Trues -/
def RT (i : Nat) (acc : List V) (_ : Hp) : Prop := acc = List.replicate i (V.bl true)
theorem rt_next {i : Nat} {acc : List V} {H H' : Hp} (r : RT i acc H) : RT (i + 1) (acc ++ [V.bl true]) H' := by
  unfold RT at *
  rw [r, List.replicate_succ']
theorem rt_bools (i : Nat) : List.replicate i (V.bl true) = (List.replicate i true).map V.bl := by rw [List.map_replicate]
theorem all_true (i : Nat) : (List.replicate i true).all id = true := by
  rw [List.all_eq_true]
  intro x hx
  rw [(List.mem_replicate.mp hx).2]
  rfl
theorem RT.len {i : Nat} {acc : List V} {H : Hp} (r : RT i acc H) : acc.length = i := by rw [show acc = _ from r, List.length_replicate]
/-! ### t[:-1], t[1:] of a tuple that isn't empty -/
theorem cut_last {xs : List V} (h : xs ≠ []) : cutV xs none (some (-1)) = xs.take (xs.length - 1) ∧ ¬ (HT.sIx xs.length 0 none = 0 ∧ HT.sIx xs.length xs.length (some (-1)) = xs.length) := by
  have hl : 0 < xs.length := List.length_pos_iff.mpr h
  have e : HT.sIx xs.length xs.length (some (-1)) = xs.length - 1 := by
    show (if (-1 : Int) < 0 then ((-1 : Int) + (xs.length : Int)).toNat else min (-1 : Int).toNat xs.length) = _
    rw [if_pos (show (-1 : Int) < 0 by decide)]
    omega
  refine ⟨?_, fun z => by rw [e] at z; omega⟩
  unfold cutV
  rw [e]
  rfl
theorem cut_first {xs : List V} (h : xs ≠ []) : cutV xs (some 1) none = xs.drop 1 ∧ ¬ (HT.sIx xs.length 0 (some 1) = 0 ∧ HT.sIx xs.length xs.length none = xs.length) := by
  have hl : 0 < xs.length := List.length_pos_iff.mpr h
  have e : HT.sIx xs.length 0 (some 1) = 1 := by
    rw [show (1 : Int) = ((1 : Nat) : Int) from rfl, HT.sIx_nat]
    omega
  refine ⟨?_, fun z => by rw [e] at z; omega⟩
  unfold cutV
  rw [e, HT.sIx_none]
  exact List.take_of_length_le (by rw [List.length_drop]; omega)
/-- a local name as a target -/
theorem pgl {X : Cx} (i : Nat) {x : Str} {pos : Pos} (hN : X.N.Nodup) (hi : X.N[i]? = some x) (hx : X.env.scope.names.lookup x = some .local) : PG X (.Name x pos) (gName i) := pg_name hN hi (.inl hx) (.inr hx)
/-- two, three local names as a target -/
theorem pgn2 {X : Cx} {K : PySem.W.Frag} (i j : Nat) {x y : Str} {p1 p2 p3 : Pos} {k : Nat} (hc : X.calm = true) (hK : X.K = K) (hN : X.N.Nodup) (hi : X.N[i]? = some x) (hx : X.env.scope.names.lookup x = some .local) (hj : X.N[j]? = some y) (hy : X.env.scope.names.lookup y = some .local) :
    PG X (.Tuple [.Name x p1, .Name y p2] k p3) (gTup K 2 (gCons (gName i) (gCons (gName j) gNil))) := by
  subst hK
  exact pg_tup (n := 2) hc (pgs_cons (pgl i hN hi hx) (pgs_cons (pgl j hN hj hy) pgs_nil))
theorem pgn3 {X : Cx} {K : PySem.W.Frag} (i j l : Nat) {x y z : Str} {p1 p2 p3 p4 : Pos} {k : Nat} (hc : X.calm = true) (hK : X.K = K) (hN : X.N.Nodup) (hi : X.N[i]? = some x) (hx : X.env.scope.names.lookup x = some .local) (hj : X.N[j]? = some y) (hy : X.env.scope.names.lookup y = some .local)
    (hl : X.N[l]? = some z) (hz : X.env.scope.names.lookup z = some .local) :
    PG X (.Tuple [.Name x p1, .Name y p2, .Name z p4] k p3) (gTup K 3 (gCons (gName i) (gCons (gName j) (gCons (gName l) gNil)))) := by
  subst hK
  exact pg_tup (n := 3) hc (pgs_cons (pgl i hN hi hx) (pgs_cons (pgl j hN hj hy) (pgs_cons (pgl l hN hl hz) pgs_nil)))
/-- tuples that stand -/
theorem sqT_same {K : PySem.W.Frag} {H H' : Hp} {a : Addr} {xs : List V} (s : Same H H') (h : SqT K H a xs) : SqT K H' a xs := by
  rcases h with (h | ⟨o, h⟩) | h
  · exact .inl (.inl (s _ _ h))
  · exact .inl (.inr ⟨o, s _ _ h⟩)
  · exact .inr h
theorem sqT_at {K : PySem.W.Frag} {H : Hp} {a : Addr} {xs : List V} (h : H a = some (.tup xs)) : SqT K H a xs := .inl (.inl h)
theorem cons_ix {α : Type} {xs : List α} {i : Nat} {x y : α} {R : α → α → Prop} (h : xs.Pairwise R) (hx : xs[i]? = some x) (hy : xs[i + 1]? = some y) : R x y := by
  obtain ⟨h1, e1⟩ := List.getElem?_eq_some_iff.mp hx
  obtain ⟨h2, e2⟩ := List.getElem?_eq_some_iff.mp hy
  rw [← e1, ← e2]
  exact List.pairwise_iff_getElem.mp h i (i + 1) h1 h2 (Nat.lt_succ_self i)
section
variable {P : Program} {w : World} {K : PySem.W.Frag} {mg : Str → Option Value} {base : Heap}
/-! ### are_rising -/
/-- one value below the next: whole numbers, or pairs -/
def LtV (H : Hp) (x y : V) : Prop := (∃ i j : Int, x = .int i ∧ y = .int j ∧ i < j) ∨ ∃ (s t : Addr) (p q : Pr), x = .ref s ∧ y = .ref t ∧ PrT H s p ∧ PrT H t q ∧ lx p q
theorem LtV.same {H H' : Hp} {x y : V} (s : Same H H') (h : LtV H x y) : LtV H' x y := by
  rcases h with h | ⟨a, b, p, q, e1, e2, h1, h2, h3⟩
  · exact .inl h
  · exact .inr ⟨a, b, p, q, e1, e2, s _ _ h1, s _ _ h2, h3⟩
def rLtA (K : PySem.W.Frag) : R2 := fun x y H Q => (∃ i j : Int, x = .int i ∧ y = .int j ∧ Q (.bl (decide (i < j))) H) ∨ rLtT K x y H Q
theorem op_ltA {X : Cx} {K : PySem.W.Frag} (hK : X.K = K) (hu : X.A.units < cLine) : OpR X (compareOp .Lt) (rLtA K) := fun pins s σ H x y v u Q I rx ry h => by
  subst hK
  rcases h with h | h
  · exact op_lt pins s σ H x y v u Q I rx ry h
  · exact op_ltT hu pins s σ H x y v u Q I rx ry h
theorem lex_lx (p q : Pr) : HT.lexLt (lk p) (lk q) = true ↔ lx p q := by
  unfold lk lx
  rw [HT.lexLt_cons]
  by_cases h : p.1 = q.1
  · rw [if_pos h, HT.lexLt_cons]
    by_cases h2 : p.2 = q.2
    · rw [if_pos h2, HT.lexLt_nil_nil]
      constructor
      · intro z; cases z
      · intro z; omega
    · rw [if_neg h2, decide_eq_true_eq]
      omega
  · rw [if_neg h, decide_eq_true_eq]
    omega
theorem LtV.op {K : PySem.W.Frag} {H : Hp} {x y : V} {Q : VK} (h : LtV H x y) (q : Q (.bl true) H) : rLtA K x y H Q := by
  rcases h with ⟨i, j, e1, e2, h⟩ | ⟨a, b, p, q', e1, e2, h1, h2, h3⟩
  · exact .inl ⟨i, j, e1, e2, by rw [decide_eq_true h]; exact q⟩
  · refine .inr ⟨a, b, lk p, lk q', e1, e2, h1.sq, h2.sq, ?_⟩
    rw [(lex_lx p q').2 h3]
    exact q
theorem scRi : FnScope ["thing", "one", "other"] ["thing"] (defScope sRising) := ⟨rfl, rfl, rfl, by decide +kernel, rfl, by decide +kernel, by decide +kernel⟩
def spRising (K : PySem.W.Frag) : Sp := fun vs H Q _ => ∃ (a : Addr) (xs : List V), vs = [.ref a] ∧ SqT K H a xs ∧ xs ≠ [] ∧ xs.length ≤ 4000 ∧ (∀ i x y, xs[i]? = some x → xs[i + 1]? = some y → LtV H x y) ∧ ∀ H', Same H H' → Q (.bl true) H'
theorem ok_rising {f : Addr} {fd : FuncData} (F : Fun K "are_rising" "are_rising" sRising f fd) (T : Txt mg) : FnOk P w K mg base CX0 1 f fd ["thing"] (spRising K) := by
  refine F.ok scRi (fun vs H Q E h => ?_) (fun cdv A outer s H vs Q E hr h => ?_)
  · obtain ⟨a, ns, rfl, _⟩ := h
    rfl
  · obtain ⟨a, xs, rfl, ha, hne, hlen, hp, k⟩ := h
    have hu := hu_of hr
    obtain ⟨c1, n1⟩ := cut_last hne
    obtain ⟨c2, n2⟩ := cut_first hne
    have hpos : 0 < xs.length := List.length_pos_iff.mpr hne
    refine ⟨_, pss_one (ps_ret (pe_callB (cr_all rfl) (by rfl) T.all (by decide +kernel) (pa_cons (pe_lc (own := [("one", 1), ("other", 2)]) rfl scRi.nd
      (RZ.pi_zipA (by rfl) T.zip (pa_cons (pe_slice sl_tupA (pv 0) po_none (po_some (pe_un un_neg pe_int))) (pa_cons (pe_slice sl_tupA (pv 0) (po_some pe_int) po_none) pa_nil)))
      (blkOk_by (own := [("one", 1), ("other", 2)]) (N := ["thing", "one", "other"]) (sc := defScope sRising) (by decide +kernel))
      (fun _ _ _ _ _ => pgn2 (K := K) 1 2 rfl rfl scRi.nd rfl rfl rfl rfl)
      (fun _ _ _ _ _ => pts_nil) (fun _ _ _ _ _ => pe_cmpR (op_ltA (K := K) rfl (Nat.lt_of_succ_lt hu)) (pv 1) (pv 2) (nomark _))) pa_nil))), ?_⟩
    -- thing[:-1], thing[1:]
    refine ⟨_, rfl, _, rfl, _, rfl, a, _, rfl, ha, fun z => absurd z n1, fun _ p hp0 => ?_⟩
    rw [c1]
    have s1 : Same H (upd H p (.tup (xs.take (xs.length - 1)))) := same_new (Same.refl H) hp0
    refine ⟨_, rfl, _, rfl, a, _, rfl, sqT_same s1 ha, fun z => absurd z n2, fun _ q hq0 => ?_⟩
    rw [c2]
    have s2 := same_new (o := .tup (xs.drop 1)) s1 hq0
    have pq : p ≠ q := fun e => by rw [e, upd_same] at hq0; cases hq0
    refine ⟨p, q, _, _, rfl, .inr ⟨sqT_at (by rw [upd_ne pq]; exact upd_same), sqT_at upd_same, ?_⟩⟩
    generalize hH2 : upd (upd H p (.tup (xs.take (xs.length - 1)))) q (.tup (xs.drop 1)) = H2 at s2
    have t1 : SqT K H2 p (xs.take (xs.length - 1)) := sqT_at (by rw [← hH2, upd_ne pq]; exact upd_same)
    have t2 : SqT K H2 q (xs.drop 1) := sqT_at (by rw [← hH2]; exact upd_same)
    intro D hD
    refine lc_it (walk_zipT (n := xs.length - 1) (by rw [List.length_take]; omega) (by rw [List.length_drop])) (Gr RT H2 D) (gr_start hD rfl) (fun i H h G => ⟨sqT_same G.1 t1, sqT_same G.1 t2⟩) ?_ ?_
    · rintro i v H3 H4 hi ⟨s3, acc, hacc, r⟩ ⟨t, x, y, rfl, ht, rfl, hx, hy⟩
      have hx' : (xs.take (xs.length - 1))[i]? = some x := hx
      have hy' : (xs.drop 1)[i]? = some y := hy
      rw [List.getElem?_take, if_pos hi] at hx'
      rw [List.getElem?_drop, Nat.add_comm] at hy'
      have lt : LtV (upd H3 t (.tup [x, y])) x y := (hp i x y hx' hy').same (same_new (s2.trans s3) ht)
      have tD : t ≠ D := fun e => by rw [e, hacc] at ht; cases ht
      refine ⟨t, _, rfl, sqT_at upd_same, rfl, _, _, rfl, _, _, rfl, rfl, rfl, ?_⟩
      refine tyes ?_
      refine iteT ⟨_, rfl, _, rfl, lt.op ?_⟩
      exact gr_next hD (same_new s3 ht) (by rw [upd_ne (Ne.symm tD)]; exact hacc) (by rw [r.len]; omega) (rt_next r)
    · rintro H3 ⟨s3, acc, hacc, r⟩
      refine ⟨D, List.replicate (xs.length - 1) true, rfl, .inl (.inl (by rw [hacc, show acc = _ from r, rt_bools])), ?_⟩
      rw [all_true]
      exact k _ (s2.trans s3)
end
end K66
namespace K66
set_option linter.all false
set_option maxRecDepth 100000
set_option maxHeartbeats 4000000
open PySem L2
theorem ty_tup {K : PySem.W.Frag} {H : Hp} {a : Addr} {xs : List V} (h : SqT K H a xs) : TyX K H (.ref a) (.type "tuple") := by
  rcases h with (h | ⟨o, h⟩) | ⟨o, its, n, h, hc, _⟩
  · exact .base (.tup h)
  · exact .fTuple h
  · exact .kTuple h hc
/-- a row of pairs stands at a -/
def RowAt (K : PySem.W.Frag) (H : Hp) (a : Addr) (L : List (Addr × Pr)) : Prop := SqT K H a (L.map fun q => V.ref q.1) ∧ ∀ q ∈ L, PrT H q.1 q.2
theorem RowAt.same {K : PySem.W.Frag} {H H' : Hp} {a : Addr} {L : List (Addr × Pr)} (s : Same H H') (h : RowAt K H a L) : RowAt K H' a L := ⟨sqT_same s h.1, fun q hq => s _ _ (h.2 q hq)⟩
section
variable {P : Program} {w : World} {K : PySem.W.Frag} {mg : Str → Option Value} {base : Heap}
/-! ### are_numbers -/
theorem scN : FnScope ["many", "thing", "one"] ["many", "thing"] (defScope sNumbers) := ⟨rfl, rfl, rfl, by decide +kernel, rfl, by decide +kernel, by decide +kernel⟩
def spNumbers (K : PySem.W.Frag) : Sp := fun vs H Q _ => ∃ (n : Int) (a : Addr) (ns : List Int), vs = [.int n, .ref a] ∧ SqT K H a (ns.map V.int) ∧ ns ≠ [] ∧ ns.length ≤ 4000 ∧ (∀ x ∈ ns, 0 ≤ x ∧ x < n) ∧ ns.Pairwise (· < ·) ∧ ∀ H', Same H H' → Q (.bl true) H'
theorem ok_numbers {f f1 f2 : Addr} {fd fd1 fd2 : FuncData} (F : Fun K "are_numbers" "are_numbers" sNumbers f fd) (T : Txt mg) (CW : Cal P w K mg base "is_whole" 1 ["thing"] spWhole f1 fd1) (CR : Cal P w K mg base "are_rising" 1 ["thing"] (spRising K) f2 fd2) :
    FnOk P w K mg base CX0 2 f fd ["many", "thing"] (spNumbers K) := by
  refine F.ok scN (fun vs H Q E h => ?_) (fun cdv A outer s H vs Q E hr h => ?_)
  · obtain ⟨n, a, ns, rfl, _⟩ := h
    rfl
  · obtain ⟨n, a, ns, rfl, ha, hne, hlen, hb, hp, k⟩ := h
    refine ⟨_, pss_cons (ps_if (PW.pt (pw_or (pt_not (pt_val (pe_callB call_isi (by rfl) T.isi (by decide +kernel) (pa_cons (pv 1) (pa_cons (pe_bltn (v := .ty "tuple") (by rfl) T.tuple (by decide +kernel) rfl) pa_nil)))))
        (pw_or1 (pt_not (pt_val (pe_callB (cr_all rfl) (by rfl) T.all (by decide +kernel) (pa_cons (pe_lc (own := [("one", 2)]) rfl scN.nd (pi_tup (pv 1))
          (blkOk_by (own := [("one", 2)]) (N := ["many", "thing", "one"]) (sc := defScope sNumbers) (by decide +kernel))
          (fun _ _ _ _ _ => pgl 2 scN.nd rfl rfl) (fun _ _ _ _ _ => pts_nil)
          (fun _ _ _ _ _ => pe_and (pe_call CW.ok hr rfl CW.at_ CW.kp CW.bd .nil pass0 (pa_cons (pv 2) pa_nil)) (pe_one (pe_chain op_le op_lt pe_int (pv 2) (pv 0))))) pa_nil)))))))
        (pss_one (ps_ret pe_bl)) pss_nil)
      (pss_one (ps_ret (pe_call CR.ok hr rfl CR.at_ CR.kp CR.bd .nil pass0 (pa_cons (pv 1) pa_nil)))), ?_⟩
    refine ⟨_, rfl, .ref a, .ty "tuple", .type "tuple", .type "tuple", true, rfl, .ty _, ty_tup ha, kit_ty (by decide +kernel), true, rfl, iteF ?_⟩
    refine ⟨_, rfl, a, rfl, ⟨_, ha⟩, ?_⟩
    intro D hD
    refine lc_it walk_tup (Gr RT H D) (gr_start hD rfl) (fun i H3 _ G => sqT_same G.1 ha) ?_ ?_
    · rintro i v H3 H4 hi ⟨s3, acc, hacc, r⟩ ⟨rfl, hx⟩
      rw [List.getElem?_map] at hx
      obtain ⟨u, hu, rfl⟩ := Option.map_eq_some_iff.mp hx
      obtain ⟨b1, b2⟩ := hb u (List.mem_of_getElem? hu)
      rw [List.length_map] at hi
      refine ⟨rfl, ?_⟩
      refine tyes ?_
      refine iteT ⟨_, rfl, u, rfl, true, rfl, iteT ⟨_, rfl, _, _, rfl, rfl, true, ?_, iteT ⟨_, rfl, _, _, rfl, rfl, ?_⟩⟩⟩
      · dsimp only
        rw [decide_eq_true b1]
      · dsimp only
        rw [decide_eq_true b2]
        exact gr_next hD s3 hacc (by rw [r.len]; omega) (rt_next r)
    · rintro H3 ⟨s3, acc, hacc, r⟩
      refine ⟨D, _, rfl, .inl (.inl (by rw [hacc, show acc = _ from r, rt_bools])), ?_⟩
      rw [all_true]
      refine ⟨true, rfl, iteF ⟨_, rfl, a, _, rfl, sqT_same s3 ha, fun e => hne (List.map_eq_nil_iff.mp e), by rw [List.length_map]; exact hlen, fun i x y hx hy => ?_, fun H4 s4 => k _ (s3.trans s4)⟩⟩
      rw [List.getElem?_map] at hx hy
      obtain ⟨u, hu, rfl⟩ := Option.map_eq_some_iff.mp hx
      obtain ⟨z, hz, rfl⟩ := Option.map_eq_some_iff.mp hy
      exact .inl ⟨u, z, rfl, rfl, cons_ix hp hu hz⟩
/-! ### is_sum_pair -/
theorem scSP : FnScope ["thing", "one"] ["thing"] (defScope sPair) := ⟨rfl, rfl, rfl, by decide +kernel, rfl, by decide +kernel, by decide +kernel⟩
def spPair : Sp := fun vs H Q _ => ∃ (a : Addr) (p : Pr), vs = [.ref a] ∧ PrT H a p ∧ 0 ≤ p.1 ∧ 0 ≤ p.2 ∧ ∀ H', Same H H' → Q (.bl true) H'
theorem ok_pair {f f1 : Addr} {fd fd1 : FuncData} (F : Fun K "is_sum_pair" "is_sum_pair" sPair f fd) (T : Txt mg) (CW : Cal P w K mg base "is_whole" 1 ["thing"] spWhole f1 fd1) : FnOk P w K mg base CX0 2 f fd ["thing"] spPair := by
  refine F.ok scSP (fun vs H Q E h => ?_) (fun cdv A outer s H vs Q E hr h => ?_)
  · obtain ⟨a, p, rfl, _⟩ := h
    rfl
  · obtain ⟨a, p, rfl, ha, p1, p2, k⟩ := h
    have ht : SqT K H a ([p.1, p.2].map V.int) := ha.sq
    refine ⟨_, pss_cons (ps_if (PW.pt (pw_or (pt_not (pt_val (pe_callB call_isi (by rfl) T.isi (by decide +kernel) (pa_cons (pv 0) (pa_cons (pe_bltn (v := .ty "tuple") (by rfl) T.tuple (by decide +kernel) rfl) pa_nil)))))
        (pw_or1 (pt_cmpR op_ne (pe_callB call_len_seq (by rfl) T.len PySem.boot_len (pa_cons (pv 0) pa_nil)) pe_int (nomark _)))))
        (pss_one (ps_ret pe_bl)) pss_nil)
      (pss_one (ps_ret (pe_callB (cr_all rfl) (by rfl) T.all (by decide +kernel) (pa_cons (pe_lc (own := [("one", 1)]) rfl scSP.nd (pi_tup (pv 0))
          (blkOk_by (own := [("one", 1)]) (N := ["thing", "one"]) (sc := defScope sPair) (by decide +kernel))
          (fun _ _ _ _ _ => pgl 1 scSP.nd rfl rfl) (fun _ _ _ _ _ => pts_nil)
          (fun _ _ _ _ _ => pe_and (pe_call CW.ok hr rfl CW.at_ CW.kp CW.bd .nil pass0 (pa_cons (pv 1) pa_nil)) (pe_one (pe_cmpR op_ge (pv 1) pe_int (nomark _))))) pa_nil)))), ?_⟩
    refine ⟨_, rfl, .ref a, .ty "tuple", .type "tuple", .type "tuple", true, rfl, .ty _, ty_tup ht, kit_ty (by decide +kernel), true, rfl, iteF ?_⟩
    refine ⟨_, rfl, a, _, rfl, .inr ht, rfl, false, rfl, iteF ?_⟩
    refine ⟨_, rfl, a, rfl, ⟨_, ht⟩, ?_⟩
    intro D hD
    refine lc_it walk_tup (Gr RT H D) (gr_start hD rfl) (fun i H3 _ G => sqT_same G.1 ht) ?_ ?_
    · rintro i v H3 H4 hi ⟨s3, acc, hacc, r⟩ ⟨rfl, hx⟩
      rw [List.getElem?_map] at hx
      obtain ⟨u, hu, rfl⟩ := Option.map_eq_some_iff.mp hx
      have b1 : 0 ≤ u := by
        have hm : u ∈ [p.1, p.2] := List.mem_of_getElem? hu
        rcases List.mem_cons.mp hm with e | hm
        · rw [e]; exact p1
        · rw [List.mem_singleton.mp hm]; exact p2
      have hi2 : i < 2 := hi
      refine ⟨rfl, ?_⟩
      refine tyes ?_
      refine iteT ⟨_, rfl, u, rfl, true, rfl, iteT ⟨_, rfl, _, _, rfl, rfl, ?_⟩⟩
      dsimp only
      rw [decide_eq_true b1]
      exact gr_next hD s3 hacc (by rw [r.len]; omega) (rt_next r)
    · rintro H3 ⟨s3, acc, hacc, r⟩
      refine ⟨D, _, rfl, .inl (.inl (by rw [hacc, show acc = _ from r, rt_bools])), ?_⟩
      rw [all_true]
      exact k _ s3
/-! ### is_paper_row -/
theorem scPR : FnScope ["thing", "one"] ["thing"] (defScope sPRow) := ⟨rfl, rfl, rfl, by decide +kernel, rfl, by decide +kernel, by decide +kernel⟩
def spPRow (K : PySem.W.Frag) : Sp := fun vs H Q _ => ∃ (a : Addr) (L : List (Addr × Pr)), vs = [.ref a] ∧ RowAt K H a L ∧ L ≠ [] ∧ L.length ≤ 4000 ∧ (L.map (·.2)).Pairwise lx ∧ (∀ q ∈ L, 0 ≤ q.2.1 ∧ 0 ≤ q.2.2) ∧ ∀ H', Same H H' → Q (.bl true) H'
theorem ok_prow {f f1 f2 : Addr} {fd fd1 fd2 : FuncData} (F : Fun K "is_paper_row" "is_paper_row" sPRow f fd) (T : Txt mg) (CP : Cal P w K mg base "is_sum_pair" 2 ["thing"] spPair f1 fd1) (CR : Cal P w K mg base "are_rising" 1 ["thing"] (spRising K) f2 fd2) :
    FnOk P w K mg base CX0 3 f fd ["thing"] (spPRow K) := by
  refine F.ok scPR (fun vs H Q E h => ?_) (fun cdv A outer s H vs Q E hr h => ?_)
  · obtain ⟨a, L, rfl, _⟩ := h
    rfl
  · obtain ⟨a, L, rfl, ⟨ht, hL⟩, hne, hlen, hp, hb, k⟩ := h
    refine ⟨_, pss_one (ps_ret (pe_and (pe_callB call_isi (by rfl) T.isi (by decide +kernel) (pa_cons (pv 0) (pa_cons (pe_bltn (v := .ty "tuple") (by rfl) T.tuple (by decide +kernel) rfl) pa_nil)))
      (pe_and (pe_callB (cr_all rfl) (by rfl) T.all (by decide +kernel) (pa_cons (pe_lc (own := [("one", 1)]) rfl scPR.nd (pi_tup (pv 0))
          (blkOk_by (own := [("one", 1)]) (N := ["thing", "one"]) (sc := defScope sPRow) (by decide +kernel))
          (fun _ _ _ _ _ => pgl 1 scPR.nd rfl rfl) (fun _ _ _ _ _ => pts_nil)
          (fun _ _ _ _ _ => pe_call CP.ok hr rfl CP.at_ CP.kp CP.bd .nil pass0 (pa_cons (pv 1) pa_nil))) pa_nil))
        (pe_one (pe_call CR.ok (hr.mono (by decide)) rfl CR.at_ CR.kp CR.bd .nil pass0 (pa_cons (pv 0) pa_nil)))))), ?_⟩
    refine ⟨_, rfl, .ref a, .ty "tuple", .type "tuple", .type "tuple", true, rfl, .ty _, ty_tup ht, kit_ty (by decide +kernel), true, rfl, iteT ?_⟩
    refine ⟨_, rfl, a, rfl, ⟨_, ht⟩, ?_⟩
    intro D hD
    refine lc_it walk_tup (Gr RT H D) (gr_start hD rfl) (fun i H3 _ G => sqT_same G.1 ht) ?_ ?_
    · rintro i v H3 H4 hi ⟨s3, acc, hacc, r⟩ ⟨rfl, hx⟩
      rw [List.getElem?_map] at hx
      obtain ⟨u, hu, rfl⟩ := Option.map_eq_some_iff.mp hx
      have hm := List.mem_of_getElem? hu
      rw [List.length_map] at hi
      refine ⟨rfl, ?_⟩
      refine tyes ?_
      refine iteT ⟨_, rfl, u.1, u.2, rfl, s3 _ _ (hL u hm), (hb u hm).1, (hb u hm).2, fun H4 s4 => ?_⟩
      exact gr_next hD (s3.trans s4) (s4 _ _ hacc) (by rw [r.len]; omega) (rt_next r)
    · rintro H3 ⟨s3, acc, hacc, r⟩
      refine ⟨D, _, rfl, .inl (.inl (by rw [hacc, show acc = _ from r, rt_bools])), ?_⟩
      rw [all_true]
      refine ⟨true, rfl, iteT ⟨_, rfl, a, _, rfl, sqT_same s3 ht, fun e => hne (List.map_eq_nil_iff.mp e), by rw [List.length_map]; exact hlen, fun i x y hx hy => ?_, fun H4 s4 => k _ (s3.trans s4)⟩⟩
      rw [List.getElem?_map] at hx hy
      obtain ⟨u, hu, rfl⟩ := Option.map_eq_some_iff.mp hx
      obtain ⟨z, hz, rfl⟩ := Option.map_eq_some_iff.mp hy
      exact .inr ⟨u.1, z.1, u.2, z.2, rfl, rfl, s3 _ _ (hL u (List.mem_of_getElem? hu)), s3 _ _ (hL z (List.mem_of_getElem? hz)), cons_ix hp (by rw [List.getElem?_map, hu]; rfl) (by rw [List.getElem?_map, hz]; rfl)⟩
/-! ### leads_on -/
theorem scLO : FnScope ["row", "one", "behind", "there", "number", "many", "pair"] ["row", "one", "behind"] (defScope sLeads) := ⟨rfl, rfl, rfl, by decide +kernel, rfl, by decide +kernel, by decide +kernel⟩
def spLeads (K : PySem.W.Frag) : Sp := fun vs H Q _ => ∃ (a : Addr) (one : Int) (b : Addr) (L M : List (Addr × Pr)), vs = [.ref a, .int one, .ref b] ∧ RowAt K H a L ∧ RowAt K H b M ∧ (M.map (·.2)).Nodup ∧ M.length ≤ 1000 ∧
  (∀ q ∈ L, q.2 ∈ M.map (·.2) ∧ addP one q.2 ∈ M.map (·.2)) ∧ ∀ H', Same H H' → Q (.bl true) H'
/-- the new list holds a pair (key, True) for each of the first i -/
def RD (M : List (Addr × Pr)) (i : Nat) (acc : List V) (H : Hp) : Prop := ∃ ps : List (Addr × Addr × Pr), acc = ps.map (fun q => V.ref q.1) ∧ ps.map (·.2) = M.take i ∧ ∀ q ∈ ps, H q.1 = some (.tup [.ref q.2.1, .bl true])
theorem val_in {M : List Pr} {p : Pr} (h : p ∈ M) : (valV (M.map fun q => (pk q, V.bl true)) (pk p)).isSome = true := by
  rw [← valV_any, List.any_eq_true]
  exact ⟨(pk p, .bl true), List.mem_map.mpr ⟨p, h, rfl⟩, decide_eq_true rfl⟩
theorem take_snoc {α : Type} {l : List α} {i : Nat} {x : α} (h : l[i]? = some x) : l.take (i + 1) = l.take i ++ [x] := by
  rw [List.take_add_one, h]
  rfl
theorem ok_leads {f : Addr} {fd : FuncData} (F : Fun K "leads_on" "leads_on" sLeads f fd) (T : Txt mg) : FnOk P w K mg base CX0 1 f fd ["row", "one", "behind"] (spLeads K) := by
  refine F.ok scLO (fun vs H Q E h => ?_) (fun cdv A outer s H vs Q E hr h => ?_)
  · obtain ⟨a, one, b, L, M, rfl, _⟩ := h
    rfl
  · obtain ⟨a, one, b, L, M, rfl, ha, hb, nd, hlen, hin, k⟩ := h
    have hu := hu_of hr
    refine ⟨_, pss_cons (ps_set (i := 3) scLO.nd rfl (Or.inl rfl) (pe_callTy (cr_dictP rfl hr.units) (by rfl) T.dict (by decide +kernel) (pa_cons (pe_lc (own := [("pair", 6)]) rfl scLO.nd (pi_tup (pv 2))
          (blkOk_by (own := [("pair", 6)]) (N := ["row", "one", "behind", "there", "number", "many", "pair"]) (sc := defScope sLeads) (by decide +kernel))
          (fun _ _ _ _ _ => pgl 6 scLO.nd rfl rfl) (fun _ _ _ _ _ => pts_nil)
          (fun _ _ _ _ _ => pe_tup (pa_cons (pv 6) (pa_cons pe_bl pa_nil)))) pa_nil)))
      (pss_cons (ps_for PassesOwn.never rfl (pi_tup (pv 0)) (pgn2 (K := K) 4 5 rfl rfl scLO.nd rfl rfl rfl rfl)
        (pss_one (ps_if (PW.pt (pw_or (pt_cmp (pc_dnotin hu (pe_tup (pa_cons (pv 4) (pa_cons (pv 5) pa_nil))) (pv 3)) rfl)
          (pw_or1 (pt_cmp (pc_dnotin hu (pe_tup (pa_cons (pe_op op_add (pv 4) (pv 1)) (pa_cons (pe_op op_add (pv 5) pe_int) pa_nil))) (pv 3)) rfl))))
          (pss_one (ps_ret pe_bl)) pss_nil)))
      (pss_one (ps_ret pe_bl))), ?_⟩
    -- the dict
    refine ⟨_, rfl, b, rfl, ⟨_, hb.1⟩, ?_⟩
    intro D hD
    refine lc_it walk_tup (Gr (RD M) H D) (gr_start hD ⟨[], rfl, rfl, fun q hq => (by cases hq)⟩) (fun i H3 _ G => sqT_same G.1 hb.1) ?_ ?_
    · rintro i v H3 H4 hi ⟨s3, acc, hacc, ps, e1, e2, e3⟩ ⟨rfl, hx⟩
      rw [List.getElem?_map] at hx
      obtain ⟨u, hu, rfl⟩ := Option.map_eq_some_iff.mp hx
      rw [List.length_map] at hi
      refine ⟨rfl, ?_⟩
      refine tyes ?_
      refine iteT ⟨_, rfl, by show 2 ≤ sizeLine; decide, fun t ht => ?_⟩
      have tD : D ≠ t := fun e => by rw [← e, hacc] at ht; cases ht
      refine gr_next hD (same_new s3 ht) (by rw [upd_ne tD]; exact hacc) (by rw [e1, List.length_map, ← List.length_map (f := (·.2)), e2, List.length_take]; omega) ⟨ps ++ [(t, u)], by rw [e1, List.map_append]; rfl, by rw [List.map_append, e2, take_snoc hu]; rfl, fun q hq => ?_⟩
      rcases List.mem_append.mp hq with z | z
      · have h3 := e3 q z
        have n1 : q.1 ≠ D := fun e => by rw [e, hacc] at h3; cases h3
        rw [upd_ne n1, upd_ne (ne_of_none h3 ht)]
        exact h3
      · rw [List.mem_singleton.mp z, upd_ne (Ne.symm tD)]
        exact upd_same
    · rintro H3 ⟨s3, acc, hacc, ps, e1, e2, e3⟩
      rw [List.length_map, List.take_length] at e2
      have e4 : ps.map (·.2.2) = M.map (·.2) := by rw [← e2, List.map_map]; rfl
      refine ⟨D, ps, rfl, by rw [hacc, e1], fun q hq => ⟨e3 q hq, s3 _ _ (hb.2 q.2 (by rw [← e2]; exact List.mem_map_of_mem hq))⟩, by rw [e4]; exact nd, by rw [← List.length_map (f := (·.2)), e2]; exact hlen, fun d hd => ?_⟩
      have e5 : ps.map (fun q => (pk q.2.2, V.bl true)) = (M.map (·.2)).map (fun q => (pk q, V.bl true)) := by rw [← e4, List.map_map]; rfl
      rw [e5]
      have s4 : Same H (upd H3 d (.dT ((M.map (·.2)).map fun q => (pk q, V.bl true)))) := same_new s3 hd
      generalize hH4 : upd H3 d (.dT ((M.map (·.2)).map fun q => (pk q, V.bl true))) = H4 at s4
      have hd4 : H4 d = some (.dT ((M.map (·.2)).map fun q => (pk q, V.bl true))) := by rw [← hH4]; exact upd_same
      -- the loop
      refine ⟨_, rfl, a, rfl, ⟨_, sqT_same s4 ha.1⟩, for_tup (K := K) (a := a) (xs := L.map fun q => V.ref q.1) (fun i σ H' => ∃ v4 v5, σ = [some (.ref a), some (.int one), some (.ref b), some (.ref d), v4, v5, none] ∧ Same H4 H') ⟨none, none, rfl, Same.refl H4⟩ (fun i σ H' _ ⟨_, _, _, s5⟩ => sqT_same (s4.trans s5) ha.1) ?_ ?_⟩
      · rintro i x σ H5 hx ⟨v4, v5, rfl, s5⟩
        rw [List.getElem?_map] at hx
        obtain ⟨u, hu, rfl⟩ := Option.map_eq_some_iff.mp hx
        have hm := List.mem_of_getElem? hu
        obtain ⟨i1, i2⟩ := hin u hm
        have hpr : PrT H5 u.1 u.2 := (s4.trans s5) _ _ (ha.2 u hm)
        refine ⟨u.1, _, rfl, hpr.sq, rfl, _, _, rfl, _, _, rfl, rfl, ?_⟩
        refine ⟨_, rfl, _, rfl, by show 2 ≤ sizeLine; decide, fun t ht => ?_⟩
        have s6 := same_new (o := .tup [.int u.2.1, .int u.2.2]) s5 ht
        refine ⟨_, rfl, d, _, rfl, DGet.t (k := pk u.2) (s6 _ _ hd4) upd_same, _, rfl, ?_⟩
        rw [val_in i1]
        refine iteF ?_
        refine ⟨_, rfl, _, rfl, _, _, rfl, rfl, _, rfl, _, _, rfl, rfl, by show 2 ≤ sizeLine; decide, fun t2 ht2 => ?_⟩
        have s7 := same_new (o := .tup [.int (u.2.1 + one), .int (u.2.2 + 1)]) s6 ht2
        refine ⟨_, rfl, d, _, rfl, DGet.t (k := pk (addP one u.2)) (s7 _ _ hd4) upd_same, _, rfl, ?_⟩
        rw [val_in i2]
        refine iteF ?_
        exact ⟨_, _, rfl, s7⟩
      · rintro σ H5 ⟨v4, v5, rfl, s5⟩
        exact k _ (s4.trans s5)
end
end K66
namespace K66
set_option linter.all false
set_option maxRecDepth 100000
set_option maxHeartbeats 8000000
open PySem L2
/-! ### a pair not in a tuple of pairs -/
def encD (p : Pr) : PyData := .tuple [.int p.1, .int p.2]
theorem encD_eqv (p q : Pr) : PyData.eqv (encD p) (encD q) = decide (p = q) := by
  have e : PyData.eqv (encD p) (encD q) = ((p.1 == q.1) && ((p.2 == q.2) && true)) := by simp only [encD, PyData.eqv, PyData.eqvAll]
  rw [e]
  by_cases h : p = q
  · subst h
    simp
  · rw [decide_eq_false h]
    by_cases h1 : p.1 = q.1
    · have h2 : ¬ p.2 = q.2 := fun z => h (pr_ext h1 z)
      simp [h2]
    · simp [h1]
theorem plain_encs : ∀ L : List Pr, PyData.plainAll (L.map encD) = true
  | [] => rfl
  | p :: L => by
    show (PyData.plain (encD p) && PyData.plainAll (L.map encD)) = true
    rw [plain_encs L]
    rfl
theorem depth_encs : ∀ L : List Pr, PyData.depthAll (L.map encD) ≤ 1
  | [] => by simp [PyData.depthAll]
  | p :: L => by
    have h1 := depth_encs L
    have h2 : (encD p).depth = 1 := by simp [encD, PyData.depth, PyData.depthAll]
    simp only [List.map_cons, PyData.depthAll]
    omega
theorem any_encs (p : Pr) (L : List Pr) : (L.map encD).any (fun y => PyData.eqv y (encD p)) = decide (p ∈ L) := by
  rw [List.any_map]
  by_cases h : p ∈ L
  · rw [decide_eq_true h, List.any_eq_true]
    exact ⟨p, h, by show PyData.eqv (encD p) (encD p) = true; rw [encD_eqv]; exact decide_eq_true rfl⟩
  · rw [decide_eq_false h, List.any_eq_false]
    intro x hx
    show ¬ PyData.eqv (encD x) (encD p) = true
    rw [encD_eqv, decide_eq_true_eq]
    exact fun e => h (e ▸ hx)
theorem dpAll_row {K : PySem.W.Frag} {H : Hp} : ∀ (L : List (Addr × Pr)), (∀ q ∈ L, PrT H q.1 q.2) → DpAll K H (L.map fun q => V.ref q.1) ((L.map (·.2)).map encD)
  | [], _ => .nil
  | q :: L, h => .cons (.tup (h q List.mem_cons_self).sq (.cons (.int _) (.cons (.int _) .nil))) (dpAll_row L fun c hc => h c (List.mem_cons_of_mem _ hc))
def rNotT (K : PySem.W.Frag) : R2 := fun x y H Q => ∃ (t b : Addr) (p : Pr) (L : List (Addr × Pr)), x = .ref t ∧ y = .ref b ∧ PrT H t p ∧ RowAt K H b L ∧ Q (.bl (!decide (p ∈ L.map (·.2)))) H
theorem op_notInT {X : Cx} (hu : X.A.units + 64 < cLine) : OpR X (compareOp .NotIn) (rNotT X.K) := by
  intro pins s σ H x y v u Q I rx ry h
  obtain ⟨t, b, p, L, rfl, rfl, ht, ⟨hb, hL⟩, q⟩ := h
  cases rx
  obtain ⟨as, r2⟩ := Dp.reads I (.tuple ((L.map (·.2)).map encD)) (.ref b) u (.tup hb (dpAll_row L hL)) ry
  have r1 := read_pair I ht
  have hd := depth_encs (L.map (·.2))
  refine SeqAt.notIn_tuple_data r2 r1 (plain_encs _) (by rfl) (by omega) ?_
  rw [show (PyData.tuple [.int p.1, .int p.2]) = encD p from rfl, any_encs]
  exact ⟨.bl _, H, I, rfl, q⟩
theorem ix_tupK {X : Cx} {K : PySem.W.Frag} (hK : X.K = K) : IxR X (rIxT K) := by
  subst hK
  exact ix_tup
/-- all Falses -/
def RF (i : Nat) (acc : List V) (_ : Hp) : Prop := acc = List.replicate i (V.bl false)
theorem rf_next {i : Nat} {acc : List V} {H H' : Hp} (r : RF i acc H) : RF (i + 1) (acc ++ [V.bl false]) H' := by
  unfold RF at *
  rw [r, List.replicate_succ']
theorem RF.len {i : Nat} {acc : List V} {H : Hp} (r : RF i acc H) : acc.length = i := by rw [show acc = _ from r, List.length_replicate]
theorem any_false (i : Nat) : (List.replicate i false).any id = false := by
  rw [List.any_eq_false]
  intro x hx
  rw [(List.mem_replicate.mp hx).2]
  decide
theorem rf_bools (i : Nat) : List.replicate i (V.bl false) = (List.replicate i false).map V.bl := by rw [List.map_replicate]
theorem atI_neg {α : Type} {xs : List α} {v : α} (h : xs[xs.length - 1]? = some v) : atI xs (-1) = some v := by
  have h1 := (List.getElem?_eq_some_iff.mp h).1
  have e : ixN xs.length (-1) = some (xs.length - 1) := by
    unfold ixN
    rw [if_neg (show ¬ (0 : Int) ≤ -1 by decide), if_pos (show -(xs.length : Int) ≤ -1 by omega)]
    exact congrArg some (by omega)
  unfold atI
  rw [e]
  exact h
theorem lex_no {p q : Pr} (h : ¬ lx p q) : HT.lexLt (lk p) (lk q) = false := by
  cases e : HT.lexLt (lk p) (lk q) with
  | false => rfl
  | true => exact absurd ((lex_lx p q).1 e) h
/-- a paper stands at p -/
def PaperAt (K : PySem.W.Frag) (H : Hp) (p : Addr) (R : List (Addr × List (Addr × Pr))) : Prop := SqT K H p (R.map fun r => V.ref r.1) ∧ ∀ r ∈ R, RowAt K H r.1 r.2
theorem PaperAt.same {K : PySem.W.Frag} {H H' : Hp} {p : Addr} {R : List (Addr × List (Addr × Pr))} (s : Same H H') (h : PaperAt K H p R) : PaperAt K H' p R := ⟨sqT_same s h.1, fun r hr => (h.2 r hr).same s⟩
abbrev plainR (R : List (Addr × List (Addr × Pr))) : List (List Pr) := R.map fun r => r.2.map (·.2)
/-- the first i of grains at the chosen places -/
def RC (gs : List Int) (cs : List Nat) (i : Nat) (acc : List V) (_ : Hp) : Prop := acc = ((cs.take i).map fun c => gs.getD c 0).map V.int
section
variable {P : Program} {w : World} {K : PySem.W.Frag} {mg : Str → Option Value} {base : Heap}
abbrev nHolds : List Str := ["grains", "due", "thing", "chosen", "paper", "own", "number", "row", "one", "behind", "pair"]
theorem scFH : FnScope nHolds ["grains", "due", "thing"] (defScope sHolds) := ⟨rfl, rfl, rfl, by decide +kernel, rfl, by decide +kernel, by decide +kernel⟩
def spHolds (K : PySem.W.Frag) : Sp := fun vs H Q _ => ∃ (g : Addr) (due : Int) (t c p : Addr) (gs : List Int) (cs : List Nat) (R : List (Addr × List (Addr × Pr))) (goal : Pr), vs = [.ref g, .int due, .ref t] ∧ SqT K H g (gs.map V.int) ∧ SqT K H t [.ref c, .ref p] ∧ SqT K H c (cs.map fun (i : Nat) => V.int (i : Nat)) ∧ PaperAt K H p R ∧
  Told gs due goal cs (plainR R) ∧ 1 ≤ due ∧ gs.length ≤ 8 ∧ (∀ x ∈ gs, 0 ≤ x) ∧ ∀ H', Same H H' → Q (.bl true) H'
theorem ok_holds {f f1 f2 f3 : Addr} {fd fd1 fd2 fd3 : FuncData} (F : Fun K "few_holds" "few_holds" sHolds f fd) (T : Txt mg) (CN : Cal P w K mg base "are_numbers" 2 ["many", "thing"] (spNumbers K) f1 fd1) (CP : Cal P w K mg base "is_paper_row" 3 ["thing"] (spPRow K) f2 fd2)
    (CL : Cal P w K mg base "leads_on" 1 ["row", "one", "behind"] (spLeads K) f3 fd3) : FnOk P w K mg base CX0 4 f fd ["grains", "due", "thing"] (spHolds K) := by
  refine F.ok scFH (fun vs H Q E h => ?_) (fun cdv A outer s H vs Q E hr h => ?_)
  · obtain ⟨g, due, t, c, p, gs, cs, R, goal, rfl, _⟩ := h
    rfl
  · obtain ⟨g, due, t, c, p, gs, cs, R, goal, rfl, hg, ht, hc, hP, told, due1, hlen, hpos, k⟩ := h
    have hu := hu_of hr
    have hu64 := hr.units
    refine ⟨_, pss_cons (ps_if (PW.pt (pw_or (pt_not (pt_val (pe_callB call_isi (by rfl) T.isi (by decide +kernel) (pa_cons (pv 2) (pa_cons (pe_bltn (v := .ty "tuple") (by rfl) T.tuple (by decide +kernel) rfl) pa_nil)))))
        (pw_or (pt_cmpR op_ne (pe_callB call_len_seq (by rfl) T.len PySem.boot_len (pa_cons (pv 2) pa_nil)) pe_int (nomark _))
        (pw_or1 (pt_not (pt_val (pe_call CN.ok (hr.mono (by decide)) rfl CN.at_ CN.kp CN.bd .nil pass0 (pa_cons (pe_callB call_len_seq (by rfl) T.len PySem.boot_len (pa_cons (pv 0) pa_nil)) (pa_cons (pe_ix ix_tup (pv 2) pe_int (fun _ _ => rfl)) pa_nil)))))))))
        (pss_one (ps_ret pe_bl)) pss_nil)
      (pss_cons (ps_asg (pv 2) (pgn2 (K := K) 3 4 rfl rfl scFH.nd rfl rfl rfl rfl))
      (pss_cons (ps_set (i := 5) scFH.nd rfl (Or.inr rfl) (pe_tup (pa_cons (pe_callB (cr_sum rfl) (by rfl) T.sum (by decide +kernel) (pa_cons (pe_lc (own := [("number", 6)]) rfl scFH.nd (pi_tup (pv 3))
          (blkOk_by (own := [("number", 6)]) (N := nHolds) (sc := defScope sHolds) (by decide +kernel))
          (fun _ _ _ _ _ => pgl 6 scFH.nd rfl rfl) (fun _ _ _ _ _ => pts_nil)
          (fun _ _ _ _ _ => pe_ix (ix_tupK (K := K) rfl) (pv 0) (pv 6) (fun _ _ => rfl))) pa_nil))
          (pa_cons (pe_callB call_len_seq (by rfl) T.len PySem.boot_len (pa_cons (pv 3) pa_nil)) pa_nil))))
      (pss_cons (ps_if (PW.pt (pw_or (pt_cmpR op_lt (pe_ix ix_tup (pv 5) pe_int (fun _ _ => rfl)) (pv 1) (nomark _))
        (pw_or (pt_not (pt_val (pe_callB call_isi (by rfl) T.isi (by decide +kernel) (pa_cons (pv 4) (pa_cons (pe_bltn (v := .ty "tuple") (by rfl) T.tuple (by decide +kernel) rfl) pa_nil)))))
        (pw_or1 (pt_cmpR op_ne (pe_callB call_len_seq (by rfl) T.len PySem.boot_len (pa_cons (pv 4) pa_nil)) (pe_op op_add (pe_callB call_len_seq (by rfl) T.len PySem.boot_len (pa_cons (pv 0) pa_nil)) pe_int) (nomark _))))))
        (pss_one (ps_ret pe_bl)) pss_nil)
      (pss_cons (ps_if (PW.pt (pw_or (pt_not (pt_val (pe_callB (cr_all rfl) (by rfl) T.all (by decide +kernel) (pa_cons (pe_lc (own := [("row", 7)]) rfl scFH.nd (pi_tup (pv 4))
          (blkOk_by (own := [("row", 7)]) (N := nHolds) (sc := defScope sHolds) (by decide +kernel))
          (fun _ _ _ _ _ => pgl 7 scFH.nd rfl rfl) (fun _ _ _ _ _ => pts_nil)
          (fun _ _ _ _ _ => pe_call CP.ok hr rfl CP.at_ CP.kp CP.bd .nil pass0 (pa_cons (pv 7) pa_nil))) pa_nil))))
        (pw_or1 (pt_cmpR (op_notInT hu64) (pe_tup (pa_cons pe_int (pa_cons pe_int pa_nil))) (pe_ix ix_tup (pv 4) pe_int (fun _ _ => rfl)) (by rfl)))))
        (pss_one (ps_ret pe_bl)) pss_nil)
      (pss_cons (ps_if (pt_not (pt_val (pe_callB (cr_all rfl) (by rfl) T.all (by decide +kernel) (pa_cons (pe_lc (own := [("row", 7), ("one", 8), ("behind", 9)]) rfl scFH.nd
          (pi_zip3 (by rfl) T.zip (pa_cons (pv 4) (pa_cons (pv 0) (pa_cons (pe_slice sl_tupA (pv 4) (po_some pe_int) po_none) pa_nil))))
          (blkOk_by (own := [("row", 7), ("one", 8), ("behind", 9)]) (N := nHolds) (sc := defScope sHolds) (by decide +kernel))
          (fun _ _ _ _ _ => pgn3 (K := K) 7 8 9 rfl rfl scFH.nd rfl rfl rfl rfl rfl rfl) (fun _ _ _ _ _ => pts_nil)
          (fun _ _ _ _ _ => pe_call CL.ok (hr.mono (by decide)) rfl CL.at_ CL.kp CL.bd .nil pass0 (pa_cons (pv 7) (pa_cons (pv 8) (pa_cons (pv 9) pa_nil))))) pa_nil))))
        (pss_one (ps_ret pe_bl)) pss_nil)
      (pss_one (ps_ret (pe_not (pe_callB (cr_any rfl) (by rfl) T.any (by decide +kernel) (pa_cons (pe_lc (own := [("pair", 10)]) rfl scFH.nd (pi_tup (pe_ix ix_tup (pv 4) (pe_un un_neg pe_int) (fun _ _ => rfl)))
          (blkOk_by (own := [("pair", 10)]) (N := nHolds) (sc := defScope sHolds) (by decide +kernel))
          (fun _ _ _ _ _ => pgl 10 scFH.nd rfl rfl) (fun _ _ _ _ _ => pts_nil)
          (fun _ _ _ _ _ => pe_and (pe_cmpR op_ge (pe_ix (ix_tupK (K := K) rfl) (pv 10) pe_int (fun _ _ => rfl)) (pv 1) (nomark _)) (pe_one (pe_cmpR (op_ltA (K := K) rfl (Nat.lt_of_succ_lt hu)) (pv 10) (pv 5) (nomark _))))) pa_nil)))))))))), ?_⟩
    obtain ⟨paper, choice, lp, lp1, lp2, lp3, lp4⟩ := told
    have csne : cs ≠ [] := choice.ne (by omega)
    have hcb : ∀ x ∈ cs, x < gs.length := choice.bd
    have hcl : cs.length ≤ 8 := by
      have h1 := nodup_sub_len cs (List.range gs.length) (List.Pairwise.imp (fun {a b} (z : a < b) => Nat.ne_of_lt z) choice.ris) fun x hx => List.mem_range.mpr (hcb x hx)
      rw [List.length_range] at h1
      omega
    have hRl : R.length = gs.length + 1 := by
      have h1 := paper.len
      rw [List.length_map] at h1
      exact h1
    have rowAt : ∀ (i : Nat) r, R[i]? = some r → (plainR R)[i]? = some (r.2.map (·.2)) := fun i r h => by rw [List.getElem?_map, h]; rfl
    have rowOk : ∀ (i : Nat) r, R[i]? = some r → RowOk i (r.2.map (·.2)) := fun i r h => paper.row hpos i _ (rowAt i r h)
    have small : ∀ (i : Nat) r, R[i]? = some r → r.2.length ≤ 256 := fun i r h => by
      have h1 := (rowOk i r h).len
      rw [List.length_map] at h1
      have h2 := (List.getElem?_eq_some_iff.mp h).1
      have h3 : 2 ^ i ≤ 2 ^ 8 := Nat.pow_le_pow_right (by decide) (by omega)
      omega
    -- isinstance(thing, tuple); len(thing); are_numbers(..)
    refine ⟨_, rfl, .ref t, .ty "tuple", .type "tuple", .type "tuple", true, rfl, .ty _, ty_tup ht, kit_ty (by decide +kernel), true, rfl, iteF ?_⟩
    refine ⟨_, rfl, t, _, rfl, .inr ht, rfl, false, rfl, iteF ?_⟩
    refine ⟨_, rfl, g, _, rfl, .inr hg, ?_⟩
    refine ⟨_, rfl, t, _, 0, .ref c, rfl, rfl, ht, rfl, ?_⟩
    refine ⟨_, c, cs.map (fun (i : Nat) => (i : Int)), rfl, by rw [List.map_map]; exact hc, fun e => csne (List.map_eq_nil_iff.mp e), by rw [List.length_map]; omega, fun x hx => ?_, ?_, fun H1 s1 => ⟨true, rfl, iteF ?_⟩⟩
    · obtain ⟨y, hy, e⟩ := List.mem_map.mp hx
      have h1 := hcb y hy
      rw [List.length_map]
      omega
    · exact List.pairwise_map.mpr (List.Pairwise.imp (fun {a b} (z : a < b) => Int.ofNat_lt.mpr z) choice.ris)
    -- chosen, paper = thing
    refine ⟨_, rfl, t, _, rfl, sqT_same s1 ht, rfl, _, _, rfl, _, _, rfl, rfl, ?_⟩
    -- own
    refine ⟨_, rfl, c, rfl, ⟨_, sqT_same s1 hc⟩, ?_⟩
    intro D hD
    refine lc_it walk_tup (Gr (RC gs cs) H1 D) (gr_start hD rfl) (fun i H3 _ G => sqT_same (s1.trans G.1) hc) ?_ ?_
    · rintro i v H3 H4 hi ⟨s3, acc, hacc, r⟩ ⟨rfl, hx⟩
      rw [List.getElem?_map] at hx
      obtain ⟨u, hu1, rfl⟩ := Option.map_eq_some_iff.mp hx
      have hub := hcb u (List.mem_of_getElem? hu1)
      have hgu : (gs.map V.int)[u]? = some (V.int (gs.getD u 0)) := by rw [List.getElem?_map, List.getElem?_eq_getElem hub, List.getD_eq_getElem?_getD, List.getElem?_eq_getElem hub]; rfl
      rw [List.length_map] at hi
      refine ⟨rfl, ?_⟩
      refine tyes ?_
      refine iteT ⟨_, rfl, _, rfl, g, _, (u : Nat), _, rfl, rfl, sqT_same (s1.trans s3) hg, atI_nat hgu, ?_⟩
      have ra : acc = _ := r
      refine gr_next hD s3 hacc (by rw [ra, List.length_map, List.length_map, List.length_take]; omega) ?_
      show _ = _
      rw [ra, take_snoc hu1, List.map_append, List.map_append]
      rfl
    rintro H3 ⟨s3, acc, hacc, r⟩
    have ra : acc = _ := r
    rw [List.length_map, List.take_length] at ra
    refine ⟨D, (cs.map fun c => gs.getD c 0), rfl, .inl (.inl (by rw [hacc, ra])), ?_⟩
    rw [choice.one]
    have s13 := s1.trans s3
    refine ⟨_, rfl, c, _, rfl, .inr (sqT_same s13 hc), ?_⟩
    refine ⟨by show 2 ≤ sizeLine; decide, fun o ho => ?_⟩
    rw [List.length_map, choice.two]
    have s4 : Same H (upd H3 o (.tup (pv2 goal))) := same_new s13 ho
    show tSeq _ _ _ _ (upd H3 o (.tup (pv2 goal)))
    have hown : PrT (upd H3 o (.tup (pv2 goal))) o goal := upd_same
    generalize upd H3 o (.tup (pv2 goal)) = H4 at s4 hown
    have h4t := sqT_same s4 ht
    have h4P := hP.same s4
    have h4g := sqT_same s4 hg
    -- own[0] < due ..
    refine ⟨_, rfl, o, _, 0, .int goal.1, rfl, rfl, hown.sq, rfl, _, rfl, _, _, rfl, rfl, false, by dsimp only; rw [decide_eq_false (by omega)], iteF ?_⟩
    refine ⟨_, rfl, .ref p, .ty "tuple", .type "tuple", .type "tuple", true, rfl, .ty _, ty_tup h4P.1, kit_ty (by decide +kernel), true, rfl, iteF ?_⟩
    refine ⟨_, rfl, p, _, rfl, .inr h4P.1, _, rfl, g, _, rfl, .inr h4g, _, _, rfl, rfl, rfl, false, ?_, iteF ?_⟩
    · dsimp only
      rw [List.length_map, List.length_map, hRl]
      simp
    -- all rows
    refine ⟨_, rfl, p, rfl, ⟨_, h4P.1⟩, ?_⟩
    intro D2 hD2
    refine lc_it walk_tup (Gr RT H4 D2) (gr_start hD2 rfl) (fun i H5 _ G => sqT_same G.1 h4P.1) ?_ ?_
    · rintro i v H5 H6 hi ⟨s5, acc2, hacc2, r2⟩ ⟨rfl, hx⟩
      rw [List.getElem?_map] at hx
      obtain ⟨u, hu1, rfl⟩ := Option.map_eq_some_iff.mp hx
      have hm := List.mem_of_getElem? hu1
      have ok := rowOk i u hu1
      rw [List.length_map] at hi
      refine ⟨rfl, ?_⟩
      refine tyes ?_
      refine iteT ⟨_, rfl, u.1, u.2, rfl, (h4P.2 u hm).same s5, fun e => ok.ne (by rw [e]; rfl), by have := small i u hu1; omega, ok.ris, fun q hq => ok.pos q.2 (List.mem_map_of_mem hq), fun H7 s7 => ?_⟩
      exact gr_next hD2 (s5.trans s7) (s7 _ _ hacc2) (by rw [r2.len]; omega) (rt_next r2)
    rintro H5 ⟨s5, acc2, hacc2, r2⟩
    refine ⟨D2, _, rfl, .inl (.inl (by rw [hacc2, show acc2 = _ from r2, rt_bools])), ?_⟩
    rw [all_true]
    refine ⟨true, rfl, iteF ?_⟩
    -- (0, 0) not in paper[0]
    obtain ⟨r0, hr0⟩ : ∃ r0, R[0]? = some r0 := ⟨_, List.getElem?_eq_getElem (by omega)⟩
    have e0 : r0.2.map (·.2) = [((0, 0) : Pr)] := Option.some.inj ((rowAt 0 r0 hr0).symm.trans paper.first)
    have h5P := h4P.same s5
    refine ⟨by show 2 ≤ sizeLine; decide, fun z hz => ?_⟩
    have s6 : Same H4 (upd H5 z (.tup (pv2 (0, 0)))) := same_new s5 hz
    have h6P := h4P.same s6
    refine ⟨_, rfl, p, _, 0, .ref r0.1, rfl, rfl, h6P.1, at_of (j := 0) rfl (by rw [List.getElem?_map, hr0]; rfl), z, r0.1, (0, 0), r0.2, rfl, rfl, upd_same, h6P.2 r0 (List.mem_of_getElem? hr0), false, ?_, iteF ?_⟩
    · rw [e0]
      rfl
    -- leads_on
    have Rne : R.map (fun r => V.ref r.1) ≠ [] := fun e => by
      have h1 := List.map_eq_nil_iff.mp e
      rw [h1] at hRl
      simp at hRl
    obtain ⟨c2, n2⟩ := cut_first Rne
    refine ⟨_, rfl, _, rfl, _, rfl, _, rfl, p, _, rfl, h6P.1, fun z => absurd z n2, fun _ q hq => ?_⟩
    rw [c2]
    have s7 : Same H4 (upd (upd H5 z (.tup [.int 0, .int 0])) q (.tup ((R.map fun r => V.ref r.1).drop 1))) := same_new s6 hq
    have t7 : SqT K (upd (upd H5 z (.tup [.int 0, .int 0])) q (.tup ((R.map fun r => V.ref r.1).drop 1))) q ((R.map fun r => V.ref r.1).drop 1) := sqT_at upd_same
    refine ⟨p, g, q, _, _, _, rfl, (h4P.same s7).1, sqT_same s7 h4g, t7, ?_⟩
    generalize upd (upd H5 z (.tup [.int 0, .int 0])) q (.tup ((R.map fun r => V.ref r.1).drop 1)) = H7 at s7 t7
    have h7P := h4P.same s7
    have h7g := sqT_same s7 h4g
    intro D3 hD3
    refine lc_it (walk3 (n := gs.length) (by rw [List.length_map]; omega) (by rw [List.length_map]; omega) (by rw [List.length_drop, List.length_map]; omega) (.inr (.inl (by rw [List.length_map])))) (Gr RT H7 D3) (gr_start hD3 rfl)
      (fun i H8 _ G => ⟨sqT_same G.1 h7P.1, sqT_same G.1 h7g, sqT_same G.1 t7⟩) ?_ ?_
    · rintro i v H8 H9 hi ⟨s8, acc3, hacc3, r3⟩ ⟨t', x, y, u, rfl, ht', rfl, hx, hy, hz'⟩
      rw [List.getElem?_map] at hx hy
      rw [List.getElem?_drop, Nat.add_comm, List.getElem?_map] at hz'
      obtain ⟨a1, ha1, rfl⟩ := Option.map_eq_some_iff.mp hx
      obtain ⟨g1, hg1, rfl⟩ := Option.map_eq_some_iff.mp hy
      obtain ⟨b1, hb1, rfl⟩ := Option.map_eq_some_iff.mp hz'
      have st := paper.step i g1 _ _ hg1 (rowAt i a1 ha1) (rowAt (i + 1) b1 hb1)
      have s9 := same_new (o := .tup [.ref a1.1, .int g1, .ref b1.1]) s8 ht'
      have D3t : D3 ≠ t' := fun e => by rw [← e, hacc3] at ht'; cases ht'
      refine ⟨t', _, rfl, sqT_at upd_same, rfl, _, _, rfl, _, _, rfl, _, _, rfl, rfl, rfl, ?_⟩
      refine tyes ?_
      refine iteT ⟨_, rfl, _, rfl, _, rfl, a1.1, g1, b1.1, a1.2, b1.2, rfl, (h7P.2 a1 (List.mem_of_getElem? ha1)).same s9, (h7P.2 b1 (List.mem_of_getElem? hb1)).same s9, nodup_of_ris (rowOk (i + 1) b1 hb1).ris, by have := small (i + 1) b1 hb1; omega, fun q hq => ⟨?_, ?_⟩, fun H10 s10 => ?_⟩
      · exact (st.mem q.2).2 (.inl (List.mem_map_of_mem hq))
      · exact (st.mem (addP g1 q.2)).2 (.inr ⟨q.2, List.mem_map_of_mem hq, rfl⟩)
      · exact gr_next hD3 (s9.trans s10) (s10 _ _ (by rw [upd_ne D3t]; exact hacc3)) (by rw [r3.len]; omega) (rt_next r3)
    rintro H8 ⟨s8, acc3, hacc3, r3⟩
    refine ⟨D3, _, rfl, .inl (.inl (by rw [hacc3, show acc3 = _ from r3, rt_bools])), ?_⟩
    rw [all_true]
    refine ⟨true, rfl, iteF ?_⟩
    -- not any
    have s48 := s7.trans s8
    have h8P := h4P.same s48
    obtain ⟨rl, hrl⟩ : ∃ rl, R[gs.length]? = some rl := ⟨_, List.getElem?_eq_getElem (by omega)⟩
    have el : rl.2.map (·.2) = lp := Option.some.inj ((rowAt gs.length rl hrl).symm.trans lp1)
    have hl := h8P.2 rl (List.mem_of_getElem? hrl)
    refine ⟨_, rfl, _, rfl, p, _, _, .ref rl.1, rfl, rfl, h8P.1, atI_neg (by rw [List.length_map, hRl, List.getElem?_map, Nat.add_sub_cancel, hrl]; rfl), rl.1, rfl, ⟨_, hl.1⟩, ?_⟩
    intro D4 hD4
    refine lc_it walk_tup (Gr RF H8 D4) (gr_start hD4 rfl) (fun i H9 _ G => sqT_same G.1 hl.1) ?_ ?_
    · rintro i v H9 H10 hi ⟨s9, acc4, hacc4, r4⟩ ⟨rfl, hx⟩
      rw [List.getElem?_map] at hx
      obtain ⟨u, hu1, rfl⟩ := Option.map_eq_some_iff.mp hx
      have hm := List.mem_of_getElem? hu1
      have hpu : PrT H10 u.1 u.2 := s9 _ _ (hl.2 u hm)
      have hup : u.2 ∈ lp := by rw [← el]; exact List.mem_map_of_mem hm
      rw [List.length_map] at hi
      have sm := small gs.length rl hrl
      refine ⟨rfl, ?_⟩
      refine tyes ?_
      refine iteT ⟨_, rfl, u.1, _, 0, .int u.2.1, rfl, rfl, hpu.sq, rfl, _, rfl, _, _, rfl, rfl, decide (due ≤ u.2.1), rfl, ?_⟩
      refine ite2 (fun hd => ?_) (fun hd => ?_)
      · have no := lp4 u.2 hup (of_decide_eq_true hd)
        refine ⟨_, rfl, _, rfl, .inr ⟨u.1, o, lk u.2, lk goal, rfl, rfl, hpu.sq, sqT_at ((s48.trans s9) _ _ hown), ?_⟩⟩
        rw [lex_no no]
        exact gr_next hD4 s9 hacc4 (by rw [r4.len]; omega) (rf_next r4)
      · exact gr_next hD4 s9 hacc4 (by rw [r4.len]; omega) (rf_next r4)
    rintro H9 ⟨s9, acc4, hacc4, r4⟩
    refine ⟨D4, _, rfl, .inl (.inl (by rw [hacc4, show acc4 = _ from r4, rf_bools])), ?_⟩
    rw [any_false]
    exact ⟨false, rfl, k _ ((s4.trans s48).trans s9)⟩
end
end K66
namespace K66
set_option linter.all false
set_option maxRecDepth 100000
set_option maxHeartbeats 8000000
open PySem L2
/-- tuples stand -/
def TSt (H H' : Hp) : Prop := ∀ b xs, H b = some (.tup xs) → H' b = some (.tup xs)
theorem TSt.of {H H' : Hp} (s : Same H H') : TSt H H' := fun b xs e => s b _ e
theorem TSt.trans {H H1 H2 : Hp} (a : TSt H H1) (b : TSt H1 H2) : TSt H H2 := fun c xs e => b c xs (a c xs e)
theorem tst_at {H : Hp} {l : Addr} {xs : List V} {o : HO} (h : H l = some (.lst xs)) : TSt H (upd H l o) := fun b ys e => by
  rw [upd_ne (ne_of e h (by intro z; cases z))]
  exact e
/-- a row stands at a, tracked -/
def RowS (H : Hp) (a : Addr) (L : List (Addr × Pr)) : Prop := H a = some (.tup (L.map fun q => V.ref q.1)) ∧ ∀ q ∈ L, PrT H q.1 q.2
theorem RowS.mv {H H' : Hp} {a : Addr} {L : List (Addr × Pr)} (s : TSt H H') (h : RowS H a L) : RowS H' a L := ⟨s _ _ h.1, fun q hq => s _ _ (h.2 q hq)⟩
theorem RowS.at_ {K : PySem.W.Frag} {H : Hp} {a : Addr} {L : List (Addr × Pr)} (h : RowS H a L) : RowAt K H a L := ⟨sqT_at h.1, h.2⟩
/-- the new pairs of the first i -/
def RM (one : Int) (L : List (Addr × Pr)) (i : Nat) (acc : List V) (H : Hp) : Prop := ∃ ks : List (Addr × Pr), acc = ks.map (fun q => V.ref q.1) ∧ ks.map (·.2) = ((L.map (·.2)).take i).map (addP one) ∧ ∀ q ∈ ks, PrT H q.1 q.2
theorem snoc_last {α : Type} {l : List α} {x : α} (n : Nat) (hl : l.length = n + 1) (h : l[n]? = some x) : l[l.length - 1]? = some x := by rw [hl, Nat.add_sub_cancel]; exact h
section
variable {P : Program} {w : World} {K : PySem.W.Frag} {mg : Str → Option Value} {base : Heap}
abbrev nRows : List Str := ["grains", "rows", "one", "more", "number", "many"]
theorem scRO : FnScope nRows ["grains"] (defScope sRows) := ⟨rfl, rfl, rfl, by decide +kernel, rfl, by decide +kernel, by decide +kernel⟩
def spRows (K : PySem.W.Frag) : Sp := fun vs H Q _ => ∃ (g : Addr) (gs : List Int), vs = [.ref g] ∧ SqT K H g (gs.map V.int) ∧ gs.length ≤ 8 ∧ (∀ x ∈ gs, 0 ≤ x) ∧
  ∀ (H' : Hp) (p : Addr) (R : List (Addr × List (Addr × Pr))), Same H H' → PaperAt K H' p R → Paper gs (plainR R) → Q (.ref p) H'
theorem ok_rows {f : Addr} {fd : FuncData} (F : Fun K "rows_of" "rows_of" sRows f fd) (T : Txt mg) : FnOk P w K mg base CX0 1 f fd ["grains"] (spRows K) := by
  refine F.ok scRO (fun vs H Q E h => ?_) (fun cdv A outer s H vs Q E hr h => ?_)
  · obtain ⟨g, gs, rfl, _⟩ := h
    rfl
  · obtain ⟨g, gs, rfl, hg, hlen, hpos, k⟩ := h
    have hu := hu_of hr
    have hu64 := hr.units
    refine ⟨_, pss_cons (ps_set (i := 1) scRO.nd rfl (Or.inl rfl) (pe_lst (pa_cons (pe_tup (pa_cons (pe_tup (pa_cons pe_int (pa_cons pe_int pa_nil))) pa_nil)) pa_nil)))
      (pss_cons (ps_for PassesOwn.never rfl (pi_tup (pv 0)) (pg_name (i := 2) scRO.nd rfl (Or.inr rfl))
        (pss_cons (ps_setLc (i := 3) (own := [("number", 4), ("many", 5)]) rfl scRO.nd rfl rfl (sw_true rfl rfl rfl (by decide +kernel)) (pi_tup (pe_ix ix_list (pv 1) (pe_un un_neg pe_int) (fun _ _ => rfl)))
          (blkOk_by (own := [("number", 4), ("many", 5)]) (N := nRows) (sc := defScope sRows) (by decide +kernel))
          (fun _ _ _ _ _ => pgn2 (K := K) 4 5 rfl rfl scRO.nd rfl rfl rfl rfl) (fun _ _ _ _ _ => pts_nil)
          (fun _ _ _ _ _ => pe_tup (pa_cons (pe_op op_add (pv 4) (pv 2)) (pa_cons (pe_op op_add (pv 5) pe_int) pa_nil))))
        (pss_one (ps_expr (pe_bm PySem.F.plainAttrs_list PySem.F.slot_list_append PySem.F.type_list_append mt_append (pv 1)
          (pa_cons (pe_callTy call_tuple_of (by rfl) T.tuple (by decide +kernel) (pa_cons (pe_callB (cr_sortedSet rfl hu64) (by rfl) T.sorted (by decide +kernel) (pa_cons
            (pe_callTy (cr_set rfl hu64) (by rfl) T.set (by decide +kernel) (pa_cons (pe_op op_cat (pe_callTy call_list_of (by rfl) T.list (by decide +kernel) (pa_cons (pe_ix ix_list (pv 1) (pe_un un_neg pe_int) (fun _ _ => rfl)) pa_nil)) (pv 3)) pa_nil)) pa_nil)) pa_nil)) pa_nil))))))
      (pss_one (ps_ret (pe_callTy call_tuple_of (by rfl) T.tuple (by decide +kernel) (pa_cons (pv 1) pa_nil))))), ?_⟩
    -- rows = [((0, 0),)]
    refine ⟨by show 2 ≤ sizeLine; decide, fun t0 ht0 => ⟨by show 1 ≤ sizeLine; decide, fun t1 ht1 => ⟨by show 1 ≤ sizeLine; decide, fun l hl => ?_⟩⟩⟩
    have s1 : Same H (upd H t0 (.tup [.int 0, .int 0])) := same_new (Same.refl H) ht0
    have s2 := same_new (o := .tup [.ref t0]) s1 ht1
    have s3 := same_new (o := .lst [.ref t1]) s2 hl
    have n01 : t0 ≠ t1 := fun e => by rw [← e, upd_same] at ht1; cases ht1
    have n0l : t0 ≠ l := fun e => by rw [← e, upd_ne n01, upd_same] at hl; cases hl
    have n1l : t1 ≠ l := fun e => by rw [← e, upd_same] at hl; cases hl
    have hl0 : H l = none := s2.free hl
    have r0 : RowS (upd (upd (upd H t0 (.tup [.int 0, .int 0])) t1 (.tup [.ref t0])) l (.lst [.ref t1])) t1 [(t0, ((0, 0) : Pr))] :=
      ⟨by rw [upd_ne n1l, upd_same]; rfl, fun q hq => by
        rw [List.mem_singleton.mp hq]
        show _ = _
        rw [upd_ne n0l, upd_ne n01, upd_same]
        rfl⟩
    have hl1 : (upd (upd (upd H t0 (.tup [.int 0, .int 0])) t1 (.tup [.ref t0])) l (.lst [.ref t1])) l = some (.lst [.ref t1]) := upd_same
    generalize upd (upd (upd H t0 (.tup [.int 0, .int 0])) t1 (.tup [.ref t0])) l (.lst [.ref t1]) = H1 at s3 r0 hl1
    refine ⟨_, rfl, g, rfl, ⟨_, sqT_same s3 hg⟩, for_tup (K := K) (a := g) (xs := gs.map V.int) (fun i σ H' => ∃ (R : List (Addr × List (Addr × Pr))) (v2 v3 : Option V), σ = [some (.ref g), some (.ref l), v2, v3, none, none] ∧ Same H H' ∧ H' l = some (.lst (R.map fun r => V.ref r.1)) ∧ (∀ r ∈ R, RowS H' r.1 r.2) ∧ Paper (gs.take i) (plainR R))
      ⟨[(t1, [(t0, (0, 0))])], none, none, rfl, s3, hl1, fun r hr => by rw [List.mem_singleton.mp hr]; exact r0, paper_nil⟩ (fun i σ H' _ ⟨_, _, _, _, s5, _⟩ => sqT_same s5 hg) ?_ ?_⟩
    · rintro i x σ H2 hx ⟨R, v2, v3, rfl, s5, hl2, hR, pap⟩
      rw [List.getElem?_map] at hx
      obtain ⟨one, hone, rfl⟩ := Option.map_eq_some_iff.mp hx
      have hi : i < gs.length := (List.getElem?_eq_some_iff.mp hone).1
      have hRl : R.length = i + 1 := by
        have h1 := pap.len
        rw [List.length_map, List.length_take] at h1
        omega
      obtain ⟨rl, hrl⟩ : ∃ rl, R[i]? = some rl := ⟨_, List.getElem?_eq_getElem (by omega)⟩
      have hrm : rl ∈ R := List.mem_of_getElem? hrl
      have rowi : (plainR R)[i]? = some (rl.2.map (·.2)) := by rw [List.getElem?_map, hrl]; rfl
      have rok := pap.row (fun y hy => hpos y (List.mem_of_mem_take hy)) i _ rowi
      have rlen : rl.2.length ≤ 128 := by
        have h1 := rok.len
        rw [List.length_map] at h1
        have h3 : 2 ^ i ≤ 2 ^ 7 := Nat.pow_le_pow_right (by decide) (by omega)
        omega
      have hlast : atI (R.map fun r => V.ref r.1) (-1) = some (V.ref rl.1) := atI_neg (by rw [List.length_map, hRl, List.getElem?_map, Nat.add_sub_cancel, hrl]; rfl)
      -- more = [..]
      refine ⟨_, rfl, _, rfl, l, _, _, _, rfl, rfl, SqL.of hl2, hlast, rl.1, rfl, ⟨_, (hR rl hrm).at_.1⟩, ?_⟩
      intro D hD
      refine lc_it walk_tup (Gr (RM one rl.2) H2 D) (gr_start hD ⟨[], rfl, rfl, fun q hq => (by cases hq)⟩) (fun j H3 _ G => sqT_same G.1 (hR rl hrm).at_.1) ?_ ?_
      · rintro j v H3 H4 hj ⟨s6, acc, hacc, ks, e1, e2, e3⟩ ⟨rfl, hx⟩
        rw [List.getElem?_map] at hx
        obtain ⟨u, hu1, rfl⟩ := Option.map_eq_some_iff.mp hx
        have hpu : PrT H4 u.1 u.2 := s6 _ _ ((hR rl hrm).2 u (List.mem_of_getElem? hu1))
        rw [List.length_map] at hj
        refine ⟨u.1, _, rfl, hpu.sq, rfl, _, _, rfl, _, _, rfl, rfl, rfl, ?_⟩
        refine tyes ?_
        refine iteT ⟨_, rfl, _, rfl, _, _, rfl, rfl, _, rfl, _, _, rfl, rfl, by show 2 ≤ sizeLine; decide, fun t ht => ?_⟩
        have tD : D ≠ t := fun e => by rw [← e, hacc] at ht; cases ht
        refine gr_next hD (same_new s6 ht) (by rw [upd_ne tD]; exact hacc) (by rw [e1, List.length_map, ← List.length_map (f := (·.2)), e2, List.length_map, List.length_take]; omega)
          ⟨ks ++ [(t, addP one u.2)], by rw [e1, List.map_append]; rfl, ?_, fun q hq => ?_⟩
        · rw [List.map_append, e2, take_snoc (x := u.2) (by rw [List.getElem?_map, hu1]; rfl), List.map_append]
          rfl
        · rcases List.mem_append.mp hq with z | z
          · have h3 : PrT H4 q.1 q.2 := e3 q z
            have n1 : q.1 ≠ D := fun e => by
              unfold PrT at h3
              rw [e, hacc] at h3
              cases h3
            show _ = _
            rw [upd_ne n1, upd_ne (ne_of_none h3 ht)]
            exact h3
          · rw [List.mem_singleton.mp z]
            show _ = _
            rw [upd_ne (Ne.symm tD)]
            exact upd_same
      rintro H3 ⟨s6, acc, hacc, ks, e1, e2, e3⟩
      rw [List.length_map, ← List.length_map (f := (·.2)), List.take_length] at e2
      have hl3 : H3 l = some (.lst (R.map fun r => V.ref r.1)) := s6 _ _ hl2
      have kslen : ks.length = rl.2.length := by
        have h1 := congrArg List.length e2
        rw [List.length_map, List.length_map, List.length_map] at h1
        exact h1
      -- rows.append(tuple(sorted(set(list(rows[-1]) + more))))
      refine ⟨_, rfl, .inl ⟨rfl, _, SqL.of hl3⟩, ?_⟩
      refine ⟨_, rfl, _, rfl, l, _, _, _, rfl, rfl, SqL.of hl3, hlast, rl.1, _, rfl, .inr (sqT_same s6 (hR rl hrm).at_.1), fun a1 ha1 => ?_⟩
      have s7 := same_new (o := .lst (rl.2.map fun q => V.ref q.1)) (Same.refl H3) ha1
      have hD7 : (upd H3 a1 (.lst (rl.2.map fun q => V.ref q.1))) D = some (.lst (ks.map fun q => V.ref q.1)) := by rw [s7 _ _ hacc, e1]
      refine ⟨_, rfl, a1, D, _, _, rfl, rfl, upd_same, hD7, by rw [List.length_map, List.length_map, kslen]; exact Nat.le_trans (by omega : _ ≤ 300) (by decide), fun a2 ha2 => ?_⟩
      have s8 := same_new (o := .lst (rl.2.map (fun q => V.ref q.1) ++ ks.map fun q => V.ref q.1)) s7 ha2
      refine ⟨a2, rl.2 ++ ks, rfl, .inl (.inl (by rw [List.map_append]; exact upd_same)), fun q hq => ?_, by rw [List.length_append, kslen]; omega, fun a3 L ha3 L1 L2 L3 => ?_⟩
      · rcases List.mem_append.mp hq with z | z
        · exact s8 _ _ (s6 _ _ ((hR rl hrm).2 q z))
        · exact s8 _ _ (e3 q z)
      have s9 := same_new (o := SetO P w a3 L) s8 ha3
      have hq9 : ∀ q ∈ L, PrT H3 q.1 q.2 := fun q hq => by
        rcases List.mem_append.mp (L1 q hq) with z | z
        · exact s6 _ _ ((hR rl hrm).2 q z)
        · exact e3 q z
      refine ⟨a3, L, rfl, upd_same, fun q hq => s9 _ _ (hq9 q hq), fun L' a4 pm pw ha4 => ?_⟩
      have s10 := same_new (o := .lst (L'.map fun q => V.ref q.1)) s9 ha4
      refine ⟨a4, _, rfl, .inl ⟨.inl (.inl upd_same), fun a5 ha5 => ?_⟩⟩
      have s11 := same_new (o := .tup (L'.map fun q => V.ref q.1)) s10 ha5
      have hnew : RowS (upd (upd (upd (upd (upd H3 a1 (.lst (rl.2.map fun q => V.ref q.1))) a2 (.lst (rl.2.map (fun q => V.ref q.1) ++ ks.map fun q => V.ref q.1))) a3 (SetO P w a3 L)) a4 (.lst (L'.map fun q => V.ref q.1))) a5 (.tup (L'.map fun q => V.ref q.1))) a5 L' :=
        ⟨upd_same, fun q hq => s11 _ _ (hq9 q (pm.mem_iff.mp hq))⟩
      refine ⟨l, _, _, rfl, rfl, s11 _ _ hl3, by rw [List.length_map, hRl]; exact Nat.lt_of_le_of_lt (by omega : _ ≤ 100) (by decide), ?_⟩
      have s611 := s6.trans s11
      have hl11 := s11 _ _ hl3
      have ts := tst_at (o := .lst (R.map (fun r => V.ref r.1) ++ [.ref a5])) hl11
      refine ⟨R ++ [(a5, L')], _, _, rfl, same_at (s5.trans s611) hl0, by rw [List.map_append]; exact upd_same, fun r hr => ?_, ?_⟩
      · rcases List.mem_append.mp hr with z | z
        · exact ((hR r z).mv (TSt.of s611)).mv ts
        · rw [List.mem_singleton.mp z]
          exact hnew.mv ts
      · rw [take_snoc hone]
        have e9 : plainR (R ++ [(a5, L')]) = plainR R ++ [L'.map (·.2)] := by
          show (R ++ [(a5, L')]).map _ = _
          rw [List.map_append]
          rfl
        rw [e9]
        refine pap.snoc (by rw [List.length_take, Nat.min_eq_left (Nat.le_of_lt hi)]; exact rowi) ⟨pw, fun q => ?_⟩
        rw [(pm.map (·.2)).mem_iff]
        constructor
        · intro hq
          obtain ⟨y, hy, rfl⟩ := List.mem_map.mp hq
          rcases List.mem_append.mp (L1 y hy) with z | z
          · exact .inl (List.mem_map_of_mem z)
          · have h2 : y.2 ∈ ks.map (·.2) := List.mem_map_of_mem z
            rw [e2] at h2
            obtain ⟨p, hp, e⟩ := List.mem_map.mp h2
            exact .inr ⟨p, hp, e.symm⟩
        · rintro (hq | ⟨p, hp, e⟩)
          · obtain ⟨y, hy, rfl⟩ := List.mem_map.mp hq
            exact L2 y (List.mem_append_left _ hy)
          · have h2 : q ∈ ks.map (·.2) := by
              rw [e2, e]
              exact List.mem_map_of_mem hp
            obtain ⟨y, hy, rfl⟩ := List.mem_map.mp h2
            exact L2 y (List.mem_append_right _ hy)
    · rintro σ H2 ⟨R, v2, v3, rfl, s5, hl2, hR, pap⟩
      rw [List.length_map, List.take_length] at pap
      refine ⟨_, rfl, l, _, rfl, .inl ⟨SqL.of hl2, fun p hp => ?_⟩⟩
      have s6 := same_new (o := .tup (R.map fun r => V.ref r.1)) (Same.refl H2) hp
      exact k _ p R (s5.trans s6) ⟨sqT_at upd_same, fun r hr => ((hR r hr).mv (TSt.of s6)).at_⟩ pap
end
end K66
namespace K66
set_option linter.all false
set_option maxRecDepth 100000
set_option maxHeartbeats 8000000
open PySem L2
/-- numbers as the layer's values -/
def nv (cs : List Nat) : List V := cs.map fun (c : Nat) => V.int (c : Int)
/-- of the first i those that are no less than due -/
def RG (due : Int) (L : List (Addr × Pr)) (i : Nat) (acc : List V) (_ : Hp) : Prop := acc = ((L.take i).filter fun q => decide (due ≤ q.2.1)).map fun q => V.ref q.1
section
variable {P : Program} {w : World} {K : PySem.W.Frag} {mg : Str → Option Value} {base : Heap}
abbrev nChosen : List Str := ["grains", "rows", "goal", "chosen", "number"]
theorem scCB : FnScope nChosen ["grains", "rows", "goal"] (defScope sChosen) := ⟨rfl, rfl, rfl, by decide +kernel, rfl, by decide +kernel, by decide +kernel⟩
def spChosen (K : PySem.W.Frag) : Sp := fun vs H Q _ => ∃ (g r go : Addr) (gs : List Int) (R : List (Addr × List (Addr × Pr))) (goal : Pr) (ps : List Pr), vs = [.ref g, .ref r, .ref go] ∧ SqT K H g (gs.map V.int) ∧ PaperAt K H r R ∧ PrT H go goal ∧ Paper gs (plainR R) ∧
  (plainR R)[gs.length]? = some ps ∧ goal ∈ ps ∧ gs.length ≤ 8 ∧ ∀ (H' : Hp) (c : Addr) (cs : List Nat), Same H H' → SqT K H' c (nv cs) → Choice gs goal cs → Q (.ref c) H'
theorem ok_chosen {f : Addr} {fd : FuncData} (F : Fun K "chosen_by" "chosen_by" sChosen f fd) (T : Txt mg) : FnOk P w K mg base CX0 1 f fd ["grains", "rows", "goal"] (spChosen K) := by
  refine F.ok scCB (fun vs H Q E h => ?_) (fun cdv A outer s H vs Q E hr h => ?_)
  · obtain ⟨g, r, go, gs, R, goal, ps, rfl, _⟩ := h
    rfl
  · obtain ⟨g, r, go, gs, R, goal, ps, rfl, hg, hR, hgo, pap, hps, hmem, hlen, k⟩ := h
    have hu64 := hr.units
    refine ⟨_, pss_cons (ps_set (i := 3) scCB.nd rfl (Or.inl rfl) (pe_lst pa_nil))
      (pss_cons (ps_for PassesOwn.never rfl (pi_range3 (by rfl) T.range (pa_cons (pe_op op_sub (pe_callB call_len_seq (by rfl) T.len PySem.boot_len (pa_cons (pv 0) pa_nil)) pe_int) (pa_cons (pe_un un_neg pe_int) (pa_cons (pe_un un_neg pe_int) pa_nil)))) (pg_name (i := 4) scCB.nd rfl (Or.inl rfl))
        (pss_one (ps_if (pt_cmpR (op_notInT hu64) (pv 2) (pe_ix ix_tup (pv 1) (pv 4) (fun _ _ => rfl)) (by rfl))
          (pss_cons (ps_expr (pe_bm PySem.F.plainAttrs_list PySem.F.slot_list_append PySem.F.type_list_append mt_append (pv 3) (pa_cons (pv 4) pa_nil)))
          (pss_one (ps_set (i := 2) scCB.nd rfl (Or.inl rfl) (pe_tup (pa_cons (pe_op op_sub (pe_ix ix_tup (pv 2) pe_int (fun _ _ => rfl)) (pe_ix ix_tup (pv 0) (pv 4) (fun _ _ => rfl))) (pa_cons (pe_op op_sub (pe_ix ix_tup (pv 2) pe_int (fun _ _ => rfl)) pe_int) pa_nil)))))) pss_nil)))
      (pss_one (ps_ret (pe_callTy call_tuple_of (by rfl) T.tuple (by decide +kernel) (pa_cons (pe_revL (pv 3)) pa_nil))))), ?_⟩
    have hRl : R.length = gs.length + 1 := by
      have h1 := pap.len
      rw [List.length_map] at h1
      exact h1
    refine ⟨by show 0 ≤ sizeLine; decide, fun l hl => ?_⟩
    have s1 := same_new (o := .lst []) (Same.refl H) hl
    have hl1 : (upd H l (.lst [])) l = some (.lst []) := upd_same
    show tSeq _ _ _ _ (upd H l (.lst []))
    generalize upd H l (.lst []) = H1 at s1 hl1
    refine ⟨_, rfl, g, _, rfl, .inr (sqT_same s1 hg), _, _, rfl, rfl, _, rfl, _, rfl, _, _, _, (((gs.map V.int).length : Int) - 1 - -1).toNat, rfl, RgC.neg (by rw [List.length_map]; omega) (by rw [List.length_map]; omega) (by omega) (by omega), ?_⟩
    have en : (((gs.map V.int).length : Int) - 1 - -1).toNat = gs.length := by rw [List.length_map]; omega
    rw [en]
    refine for_rangeC (fun i σ H' => ∃ (go' : Addr) (cs : List Nat) (left : Pr) (v4 : Option V) (qs : List Pr), σ = [some (.ref g), some (.ref r), some (.ref go'), some (.ref l), v4] ∧ Same H H' ∧ H' l = some (.lst (nv cs)) ∧ PrT H' go' left ∧ Back gs goal (gs.length - i) cs left ∧
      (plainR R)[gs.length - i]? = some qs ∧ left ∈ qs) ⟨go, [], goal, none, ps, rfl, s1, hl1, s1 _ _ hgo, Back.start gs goal, hps, hmem⟩ ?_ ?_
    · rintro i σ H2 hi ⟨go', cs, left, v4, qs, rfl, s5, hl2, hgo', bk, hqs, hle⟩
      obtain ⟨kk, hk⟩ : ∃ kk, gs.length - i = kk + 1 := ⟨gs.length - i - 1, by omega⟩
      have hkl : kk < gs.length := by omega
      have enum : (((gs.map V.int).length : Int) - 1 + ((i : Nat) : Int) * -1) = ((kk : Nat) : Int) := by rw [List.length_map]; omega
      rw [hk] at bk hqs
      have hk2 : gs.length - (i + 1) = kk := by omega
      obtain ⟨rk, hrk⟩ : ∃ rk, R[kk]? = some rk := ⟨_, List.getElem?_eq_getElem (by omega)⟩
      have rowk : (plainR R)[kk]? = some (rk.2.map (·.2)) := by rw [List.getElem?_map, hrk]; rfl
      have h5 := hR.same s5
      rw [enum]
      have cslen : cs.length ≤ 8 := by
        have h1 := nodup_sub_len cs (List.range gs.length) (List.Pairwise.imp (fun {a b} (z : a > b) => Nat.ne_of_gt z) bk.fall) fun x hx => List.mem_range.mpr (bk.bd x hx).2
        rw [List.length_range] at h1
        omega
      refine ⟨_, rfl, _, rfl, _, rfl, r, _, ((kk : Nat) : Int), .ref rk.1, rfl, rfl, h5.1, atI_nat (by rw [List.getElem?_map, hrk]; rfl), go', rk.1, left, rk.2, rfl, rfl, hgo', h5.2 rk (List.mem_of_getElem? hrk), _, rfl, ?_⟩
      by_cases hin : left ∈ rk.2.map (·.2)
      · rw [decide_eq_true hin]
        refine iteF ?_
        exact ⟨go', cs, left, _, _, rfl, s5, hl2, hgo', by rw [hk2]; exact bk.skip, by rw [hk2]; exact rowk, hin⟩
      · rw [decide_eq_false hin]
        refine iteT ?_
        refine ⟨_, rfl, .inl ⟨rfl, _, SqL.of hl2⟩, _, rfl, l, _, _, rfl, rfl, hl2, by rw [nv, List.length_map]; exact Nat.lt_of_le_of_lt cslen (by decide), ?_⟩
        have hl0 : H l = none := hl
        have s6 : Same H (upd H2 l (.lst (nv cs ++ [.int (kk : Nat)]))) := same_at s5 hl0
        have hgo6 : PrT (upd H2 l (.lst (nv cs ++ [.int (kk : Nat)]))) go' left := tst_at hl2 _ _ hgo'
        have hl6 : (upd H2 l (.lst (nv cs ++ [.int (kk : Nat)]))) l = some (.lst (nv (cs ++ [kk]))) := by rw [upd_same]; unfold nv; rw [List.map_append]; rfl
        have hgk : (gs.map V.int)[kk]? = some (V.int (gs.getD kk 0)) := by rw [List.getElem?_map, List.getElem?_eq_getElem hkl, List.getD_eq_getElem?_getD, List.getElem?_eq_getElem hkl]; rfl
        refine ⟨_, rfl, go', _, 0, .int left.1, rfl, rfl, hgo6.sq, rfl, _, rfl, _, rfl, g, _, ((kk : Nat) : Int), _, rfl, rfl, sqT_same s6 hg, atI_nat hgk, _, _, rfl, rfl, _, rfl, go', _, 1, .int left.2, rfl, rfl, hgo6.sq, rfl, _, _, rfl, rfl, by show 2 ≤ sizeLine; decide, fun t ht => ?_⟩
        have s7 := same_new (o := .tup [.int (left.1 - gs.getD kk 0), .int (left.2 - 1)]) (Same.refl (upd H2 l (.lst (nv cs ++ [.int (kk : Nat)])))) ht
        exact ⟨t, cs ++ [kk], (left.1 - gs.getD kk 0, left.2 - 1), _, _, rfl, s6.trans s7, s7 _ _ hl6, upd_same, by rw [hk2]; exact bk.take hkl, by rw [hk2]; exact rowk, pap.left hkl rowk hqs hle hin⟩
    · rintro σ H2 ⟨go', cs, left, v4, qs, rfl, s5, hl2, hgo', bk, hqs, hle⟩
      rw [Nat.sub_self] at bk hqs
      have e0 : qs = [((0, 0) : Pr)] := Option.some.inj (hqs.symm.trans pap.first)
      rw [e0, List.mem_singleton] at hle
      subst hle
      refine ⟨_, rfl, l, _, rfl, SqL.of hl2, fun a1 ha1 => ⟨a1, _, rfl, .inl ⟨SqL.of upd_same, fun c hc => ?_⟩⟩⟩
      have s6 := same_new (o := .lst (nv cs).reverse) (Same.refl H2) ha1
      have s7 := same_new (o := .tup (nv cs).reverse) s6 hc
      refine k _ c cs.reverse (s5.trans s7) (sqT_at ?_) bk.end
      rw [upd_same]
      unfold nv
      rw [List.map_reverse]
abbrev nFew : List Str := ["grains", "due", "rows", "goal", "pair"]
theorem scFN : FnScope nFew ["grains", "due"] (defScope sFew) := ⟨rfl, rfl, rfl, by decide +kernel, rfl, by decide +kernel, by decide +kernel⟩
def spFew (K : PySem.W.Frag) : Sp := fun vs H Q _ => ∃ (g : Addr) (due : Int) (gs : List Int), vs = [.ref g, .int due] ∧ SqT K H g (gs.map V.int) ∧ gs.length ≤ 8 ∧ (∀ x ∈ gs, 0 ≤ x) ∧ (gs.sum < due → Q .non H) ∧
  (¬ gs.sum < due → ∀ (H' : Hp) (t c p : Addr) (cs : List Nat) (R : List (Addr × List (Addr × Pr))) (goal : Pr), Same H H' → H' t = some (.tup [.ref c, .ref p]) → SqT K H' c (nv cs) → PaperAt K H' p R → Told gs due goal cs (plainR R) → Q (.ref t) H')
theorem ok_few {f f1 f2 : Addr} {fd fd1 fd2 : FuncData} (F : Fun K "few_notes" "few_notes" sFew f fd) (T : Txt mg) (CO : Cal P w K mg base "rows_of" 1 ["grains"] (spRows K) f1 fd1) (CC : Cal P w K mg base "chosen_by" 1 ["grains", "rows", "goal"] (spChosen K) f2 fd2) :
    FnOk P w K mg base CX0 2 f fd ["grains", "due"] (spFew K) := by
  refine F.ok scFN (fun vs H Q E h => ?_) (fun cdv A outer s H vs Q E hr h => ?_)
  · obtain ⟨g, due, gs, rfl, _⟩ := h
    rfl
  · obtain ⟨g, due, gs, rfl, hg, hlen, hpos, k0, k1⟩ := h
    have hu64 := hr.units
    refine ⟨_, pss_cons (ps_if (pt_cmpR op_lt (pe_callB (cr_sumT rfl) (by rfl) T.sum (by decide +kernel) (pa_cons (pv 0) pa_nil)) (pv 1) (nomark _)) (pss_one (ps_ret pe_non)) pss_nil)
      (pss_cons (ps_set (i := 2) scFN.nd rfl (Or.inl rfl) (pe_call CO.ok hr rfl CO.at_ CO.kp CO.bd .nil pass0 (pa_cons (pv 0) pa_nil)))
      (pss_cons (ps_set (i := 3) scFN.nd rfl (Or.inl rfl) (pe_callB (cr_minP rfl hu64) (by rfl) T.min (by decide +kernel) (pa_cons (pe_lc (own := [("pair", 4)]) rfl scFN.nd (pi_tup (pe_ix ix_tup (pv 2) (pe_un un_neg pe_int) (fun _ _ => rfl)))
          (blkOk_by (own := [("pair", 4)]) (N := nFew) (sc := defScope sFew) (by decide +kernel))
          (fun _ _ _ _ _ => pgl 4 scFN.nd rfl rfl) (fun _ _ _ _ _ => pts_one (pt_cmpR op_ge (pe_ix (ix_tupK (K := K) rfl) (pv 4) pe_int (fun _ _ => rfl)) (pv 1) (nomark _)))
          (fun _ _ _ _ _ => pv 4)) pa_nil)))
      (pss_one (ps_ret (pe_tup (pa_cons (pe_call CC.ok hr rfl CC.at_ CC.kp CC.bd .nil pass0 (pa_cons (pv 0) (pa_cons (pv 2) (pa_cons (pv 3) pa_nil)))) (pa_cons (pv 2) pa_nil))))))), ?_⟩
    refine ⟨_, rfl, g, gs, rfl, hg, _, rfl, _, _, rfl, rfl, _, rfl, ?_⟩
    refine ite2 (fun hd => ?_) (fun hd => ?_)
    · exact k0 (of_decide_eq_true hd)
    have hd' : ¬ gs.sum < due := fun c => hd (decide_eq_true c)
    refine ⟨_, rfl, g, gs, rfl, hg, hlen, hpos, fun H1 p R s1 hR pap => ?_⟩
    have hRl : R.length = gs.length + 1 := by
      have h1 := pap.len
      rw [List.length_map] at h1
      exact h1
    obtain ⟨rl, hrl⟩ : ∃ rl, R[gs.length]? = some rl := ⟨_, List.getElem?_eq_getElem (by omega)⟩
    have rowl : (plainR R)[gs.length]? = some (rl.2.map (·.2)) := by rw [List.getElem?_map, hrl]; rfl
    have rok := pap.row hpos _ _ rowl
    have rlen : rl.2.length ≤ 256 := by
      have h1 := rok.len
      rw [List.length_map] at h1
      have h3 : 2 ^ gs.length ≤ 2 ^ 8 := Nat.pow_le_pow_right (by decide) hlen
      omega
    have hrw := hR.2 rl (List.mem_of_getElem? hrl)
    refine ⟨_, rfl, _, rfl, p, _, _, .ref rl.1, rfl, rfl, hR.1, atI_neg (by rw [List.length_map, hRl, List.getElem?_map, Nat.add_sub_cancel, hrl]; rfl), rl.1, rfl, ⟨_, hrw.1⟩, ?_⟩
    intro D hD
    refine lc_it walk_tup (Gr (RG due rl.2) H1 D) (gr_start hD rfl) (fun i H3 _ G => sqT_same G.1 hrw.1) ?_ ?_
    · rintro i v H3 H4 hi ⟨s3, acc, hacc, ra⟩ ⟨rfl, hx⟩
      have ra' : acc = _ := ra
      rw [List.getElem?_map] at hx
      obtain ⟨u, hu1, rfl⟩ := Option.map_eq_some_iff.mp hx
      have hpu : PrT H4 u.1 u.2 := s3 _ _ (hrw.2 u (List.mem_of_getElem? hu1))
      rw [List.length_map] at hi
      have facc : acc.length ≤ 300 := by
        rw [ra', List.length_map]
        have h1 := List.length_filter_le (fun q : Addr × Pr => decide (due ≤ q.2.1)) (rl.2.take i)
        rw [List.length_take] at h1
        omega
      refine ⟨rfl, ?_⟩
      refine ⟨_, rfl, u.1, _, 0, .int u.2.1, rfl, rfl, hpu.sq, rfl, _, rfl, _, _, rfl, rfl, decide (due ≤ u.2.1), rfl, ?_⟩
      refine ite2 (fun h1 => ?_) (fun h1 => ?_)
      · refine ⟨_, rfl, gr_next hD s3 hacc (by omega) ?_⟩
        show _ = _
        rw [ra', take_snoc hu1, List.filter_append, List.map_append]
        have e : [u].filter (fun q : Addr × Pr => decide (due ≤ q.2.1)) = [u] := List.filter_cons_of_pos h1
        rw [e]
        rfl
      · refine gr_skip s3 hacc ?_
        show _ = _
        have e : [u].filter (fun q : Addr × Pr => decide (due ≤ q.2.1)) = [] := List.filter_eq_nil_iff.mpr fun q hq => by rw [List.mem_singleton.mp hq]; exact h1
        rw [ra', take_snoc hu1, List.filter_append, e, List.append_nil]
    rintro H3 ⟨s3, acc, hacc, ra⟩
    have ra' : acc = _ := ra
    rw [List.length_map, List.take_length] at ra'
    have hfull : (gs.sum, (gs.length : Int)) ∈ rl.2.map (·.2) := by
      obtain ⟨lp, h1, h2⟩ := pap.last
      have e : rl.2.map (·.2) = lp := Option.some.inj (rowl.symm.trans h1)
      rw [e]
      refine (h2 _).1 ?_
      have h3 := sums_all gs [((0, 0) : Pr)] (0, 0) (List.mem_singleton.mpr rfl)
      have e2 : ((((0, 0) : Pr).1 + gs.sum, ((0, 0) : Pr).2 + (gs.length : Int)) : Pr) = (gs.sum, (gs.length : Int)) := pr_ext (Int.zero_add _) (Int.zero_add _)
      rw [e2] at h3
      exact h3
    obtain ⟨y, hy, ey⟩ := List.mem_map.mp hfull
    refine ⟨D, rl.2.filter (fun q => decide (due ≤ q.2.1)), rfl, .inl (.inl (by rw [hacc, ra'])), fun q hq => s3 _ _ (hrw.2 q (List.mem_filter.mp hq).1), fun e => ?_, fun m hm hmin => ?_⟩
    · have h1 : y ∈ rl.2.filter (fun q => decide (due ≤ q.2.1)) := List.mem_filter.mpr ⟨hy, decide_eq_true (by rw [ey]; omega)⟩
      rw [e] at h1
      cases h1
    obtain ⟨hm1, hm2⟩ := List.mem_filter.mp hm
    have hmd : due ≤ m.2.1 := of_decide_eq_true hm2
    have hmr : m.2 ∈ rl.2.map (·.2) := List.mem_map_of_mem hm1
    refine ⟨_, rfl, _, rfl, _, rfl, g, p, m.1, gs, R, m.2, _, rfl, sqT_same (s1.trans s3) hg, hR.same s3, s3 _ _ (hrw.2 m hm1), pap, rowl, hmr, hlen, fun H4 c cs s4 hc ch => ?_⟩
    refine ⟨_, rfl, by show 2 ≤ sizeLine; decide, fun t ht => ?_⟩
    have s5 := same_new (o := .tup [.ref c, .ref p]) (Same.refl H4) ht
    refine k1 hd' _ t c p cs R m.2 (((s1.trans s3).trans s4).trans s5) upd_same (sqT_same s5 hc) (hR.same ((s3.trans s4).trans s5)) ⟨pap, ch, _, rowl, hmr, hmd, fun q hq hdq => ?_⟩
    obtain ⟨z, hz, rfl⟩ := List.mem_map.mp hq
    exact hmin z (List.mem_filter.mpr ⟨hz, decide_eq_true hdq⟩)
end
end K66
namespace K66
set_option linter.all false
set_option maxRecDepth 100000
set_option maxHeartbeats 8000000
open PySem L2
/-! ### a deck: a list of three whole numbers that its draws change -/
def DeckAt (H : Hp) (d : Addr) : Prop := ∃ x y z : Int, H d = some (.lst [.int x, .int y, .int z]) ∧ 0 ≤ x
/-- all but d stands -/
def But (d : Addr) (H H' : Hp) : Prop := ∀ b o, b ≠ d → H b = some o → H' b = some o
theorem But.refl (d : Addr) (H : Hp) : But d H H := fun _ _ _ e => e
theorem But.trans {d : Addr} {H H1 H2 : Hp} (a : But d H H1) (b : But d H1 H2) : But d H H2 := fun c o n e => b c o n (a c o n e)
theorem But.of {d : Addr} {H H' : Hp} (s : Same H H') : But d H H' := fun b o _ e => s b o e
theorem But.self {d : Addr} {H : Hp} {o : HO} : But d H (upd H d o) := fun b u n e => by rw [upd_ne n]; exact e
theorem But.tup {d : Addr} {H H' : Hp} (b : But d H H') (h : DeckAt H d) : TSt H H' := fun c xs e => by
  obtain ⟨x, y, z, hd, _⟩ := h
  exact b c _ (ne_of e hd (by intro z; cases z)) e
theorem But.sqT {K : PySem.W.Frag} {d a : Addr} {H H' : Hp} {xs : List V} (b : But d H H') (h : DeckAt H d) (s : SqT K H a xs) : SqT K H' a xs := by
  obtain ⟨x, y, z, hd, _⟩ := h
  rcases s with (s | ⟨o, s⟩) | s
  · exact .inl (.inl (b _ _ (ne_of s hd (by intro z; cases z)) s))
  · exact .inl (.inr ⟨o, b _ _ (ne_of s hd (by intro z; cases z)) s⟩)
  · exact .inr s
theorem DeckAt.same {d : Addr} {H H' : Hp} (s : Same H H') (h : DeckAt H d) : DeckAt H' d := by
  obtain ⟨x, y, z, hd, h0⟩ := h
  exact ⟨x, y, z, s _ _ hd, h0⟩
section
variable {P : Program} {w : World} {K : PySem.W.Frag} {mg : Str → Option Value} {base : Heap}
/-! ### _law_deck -/
theorem scDk : FnScope ["_law_script", "_law_k", "_law_cell"] ["_law_script", "_law_k"] (defScope sDeck) := ⟨rfl, rfl, rfl, by decide +kernel, rfl, by decide +kernel, by decide +kernel⟩
def spDeck (K : PySem.W.Frag) : Sp := fun vs H Q _ => ∃ (a : Addr) (ns : List Int) (n : Int), vs = [.ref a, .int n] ∧ SqL K H a (ns.map V.int) ∧ 0 ≤ n ∧ ∀ (H' : Hp) (d : Addr), Same H H' → H d = none → DeckAt H' d → Q (.ref d) H'
theorem ok_deck {f : Addr} {fd : FuncData} (F : Fun K "_law_deck" "_law_deck" sDeck f fd) (T : Txt mg) : FnOk P w K mg base CX0 1 f fd ["_law_script", "_law_k"] (spDeck K) := by
  refine F.ok scDk (fun vs H Q E h => ?_) (fun cdv A outer s H vs Q E hr h => ?_)
  · obtain ⟨a, ns, n, rfl, _⟩ := h
    rfl
  · obtain ⟨a, ns, n, rfl, ha, hn, k⟩ := h
    refine ⟨_, pss_cons (ps_set (i := 2) scDk.nd rfl (Or.inl rfl) pe_int)
      (pss_cons (ps_if (pt_cmpR op_lt (pv 1) (pe_callB call_len_seq (by rfl) T.len PySem.boot_len (pa_cons (pv 0) pa_nil)) (nomark _))
        (pss_one (ps_set (i := 2) scDk.nd rfl (Or.inl rfl) (pe_callB (call_max2 rfl) (by rfl) T.max (by decide +kernel) (pa_cons pe_int (pa_cons (pe_ix ix_list (pv 0) (pv 1) (fun _ _ => rfl)) pa_nil))))) pss_nil)
      (pss_one (ps_ret (pe_lst (pa_cons (pe_op op_mul (pv 2) (pe_callTy call_int1 (by rfl) T.int (by decide +kernel) (pa_cons (pe_cmpR op_ge (pv 2) (pe_op op_pow pe_int pe_int) (nomark _)) pa_nil)))
        (pa_cons (pe_op op_add (pe_op op_mod (pv 2) pe_int) (pe_op op_mul pe_int (pv 1))) (pa_cons pe_int pa_nil))))))), ?_⟩
    refine ⟨_, rfl, _, rfl, a, _, rfl, .inl ha, _, _, rfl, rfl, _, rfl, ?_⟩
    have fin : ∀ cell : Int, 0 ≤ cell → tRet (tLst (tCons (tOp (rI CMul fun i j => .int (i * j)) (tVar 2) (tCB (fun xs H Q => (∃ i, xs = [.int i] ∧ Q (.int i) H) ∨ ∃ k, xs = [.bl k] ∧ Q (.int (if k then 1 else 0)) H) (tCons (tOp (rI0 fun i j => .bl (decide (j ≤ i))) (tVar 2) (tOp (rI CPow fun i j => .int (i ^ j.toNat)) (tC (.int 10)) (tC (.int 18)))) tNil)))
        (tCons (tOp (rI0 fun i j => .int (i + j)) (tOp (rI (fun _ j => 0 < j) fun i j => .int (i % j)) (tVar 2) (tC (.int 2147483647))) (tOp (rI CMul fun i j => .int (i * j)) (tC (.int 7883)) (tVar 1))) (tCons (tC (.int 0)) tNil)))) { nx := fun _ H' => Q .non H', rt := Q } [some (V.ref a), some (V.int n), some (V.int cell)] H := fun cell hc => by
      refine ⟨_, rfl, _, rfl, _, _, rfl, rfl, ⟨by decide, by decide, by decide⟩, _, _, rfl, rfl, .inr ⟨_, rfl, _, _, rfl, rfl, .inr ⟨by split <;> decide, by split <;> decide⟩, ?_⟩⟩
      refine ⟨_, rfl, _, _, rfl, rfl, (by show (0 : Int) < 2147483647; decide), _, rfl, _, _, rfl, rfl, .inl ⟨by decide, by decide⟩, _, _, rfl, rfl, by show 3 ≤ sizeLine; decide, fun d hd => ?_⟩
      exact k _ d (same_new (Same.refl H) hd) hd ⟨_, _, _, upd_same, by split <;> simp [hc]⟩
    refine ite2 (fun hd => ?_) (fun hd => ?_)
    · have hd' : n < ((ns.map V.int).length : Int) := of_decide_eq_true hd
      rw [List.length_map] at hd'
      obtain ⟨kk, rfl⟩ : ∃ kk : Nat, n = (kk : Int) := ⟨n.toNat, by omega⟩
      have hkl : kk < ns.length := by omega
      refine ⟨_, rfl, _, rfl, a, _, _, .int ns[kk], rfl, rfl, ha, atI_nat (by rw [List.getElem?_map, List.getElem?_eq_getElem hkl]; rfl), _, _, rfl, ?_⟩
      exact fin _ (by split <;> omega)
    · exact fin 0 (Int.le_refl 0)
/-! ### _law_draw -/
theorem scDr : FnScope ["_law_deck_here", "_law_most", "_law_digit", "_law_number"] ["_law_deck_here", "_law_most"] (defScope sDraw) := ⟨rfl, rfl, rfl, by decide +kernel, rfl, by decide +kernel, by decide +kernel⟩
def spDraw : Sp := fun vs H Q _ => ∃ (d : Addr) (m : Int), vs = [.ref d, .int m] ∧ DeckAt H d ∧ 0 < m ∧ m < 1073741824 ∧ ∀ (H' : Hp) (r : Int), But d H H' → DeckAt H' d → 0 ≤ r → r < m → Q (.int r) H'
theorem ok_draw {f : Addr} {fd : FuncData} (F : Fun K "_law_draw" "_law_draw" sDraw f fd) (T : Txt mg) : FnOk P w K mg base CX0 1 f fd ["_law_deck_here", "_law_most"] spDraw := by
  refine F.ok scDr (fun vs H Q E h => ?_) (fun cdv A outer s H vs Q E hr h => ?_)
  · obtain ⟨d, m, rfl, _⟩ := h
    rfl
  · obtain ⟨d, m, rfl, ⟨x, y, z, hd, hx⟩, hm, hm2, k⟩ := h
    refine ⟨_, pss_cons (ps_if (pt_cmpR op_gt (pe_ix ix_list (pv 0) pe_int (fun _ _ => rfl)) pe_int (nomark _))
        (pss_cons (ps_set (i := 2) scDr.nd rfl (Or.inl rfl) (pe_op op_mod (pe_ix ix_list (pv 0) pe_int (fun _ _ => rfl)) (pv 1)))
        (pss_cons (ps_asg (pe_op op_fdivN (pe_ix ix_list (pv 0) pe_int (fun _ _ => rfl)) (pv 1)) (pg_sub (pv 0) pe_int set_list))
        (pss_one (ps_ret (pv 2))))) pss_nil)
      (pss_cons (ps_asg (pe_op op_add (pe_ix ix_list (pv 0) pe_int (fun _ _ => rfl)) pe_int) (pg_sub (pv 0) pe_int set_list))
      (pss_cons (ps_set (i := 3) scDr.nd rfl (Or.inl rfl) (pe_op op_mod (pe_op op_mul (pe_op op_add (pe_ix ix_list (pv 0) pe_int (fun _ _ => rfl)) (pe_op op_mul pe_int (pe_ix ix_list (pv 0) pe_int (fun _ _ => rfl)))) pe_int) pe_int))
      (pss_cons (ps_set (i := 3) scDr.nd rfl (Or.inl rfl) (pe_op op_mod (pe_op op_add (pe_op op_add (pe_op op_mul (pv 3) (pv 3)) (pe_op op_mul pe_int (pe_ix ix_list (pv 0) pe_int (fun _ _ => rfl)))) pe_int) pe_int))
      (pss_one (ps_ret (pe_op op_mod (pe_op op_fdivN (pe_op op_mod (pe_op op_add (pe_op op_mul (pv 3) (pv 3)) pe_int) pe_int) pe_int) (pv 1))))))), ?_⟩
    refine ⟨_, rfl, d, _, 0, .int x, rfl, rfl, SqL.of hd, rfl, _, _, rfl, rfl, _, rfl, ?_⟩
    refine ite2 (fun hd0 => ?_) (fun hd0 => ?_)
    · refine ⟨_, rfl, d, _, 0, .int x, rfl, rfl, SqL.of hd, rfl, _, rfl, _, _, rfl, rfl, hm, ?_⟩
      refine ⟨_, rfl, d, _, 0, .int x, rfl, rfl, SqL.of hd, rfl, _, rfl, _, _, rfl, rfl, ⟨by omega, by omega⟩, _, rfl, d, _, 0, 0, rfl, rfl, hd, rfl, ?_⟩
      refine ⟨_, rfl, ?_⟩
      refine k _ _ But.self ⟨_, _, _, upd_same, ?_⟩ (Int.emod_nonneg _ (by omega)) (Int.emod_lt_of_pos _ hm)
      rw [Int.fdiv_eq_ediv_of_nonneg _ (by omega)]
      exact Int.ediv_nonneg hx (by omega)
    · refine ⟨_, rfl, d, _, 2, .int z, rfl, rfl, SqL.of hd, rfl, _, _, rfl, rfl, _, rfl, d, _, 2, 2, rfl, rfl, hd, rfl, ?_⟩
      have hd2 : (upd H d (.lst [.int x, .int y, .int (z + 1)])) d = some (.lst [.int x, .int y, .int (z + 1)]) := upd_same
      refine ⟨_, rfl, d, _, 1, .int y, rfl, rfl, SqL.of hd2, rfl, _, rfl, d, _, 2, .int (z + 1), rfl, rfl, SqL.of hd2, rfl, _, _, rfl, rfl, .inl ⟨by decide, by decide⟩, _, _, rfl, rfl, _, _, rfl, rfl, .inr ⟨by decide, by decide⟩, _, _, rfl, rfl, (by show (0 : Int) < 2147483647; decide), ?_⟩
      dsimp only
      have b1 := Int.emod_nonneg ((y + 104711 * (z + 1)) * 48271) (show (2147483647 : Int) ≠ 0 by decide)
      have b2 := Int.emod_lt_of_pos ((y + 104711 * (z + 1)) * 48271) (show (0 : Int) < 2147483647 by decide)
      generalize (y + 104711 * (z + 1)) * 48271 % 2147483647 = n1 at b1 b2
      refine ⟨_, rfl, _, rfl, n1, n1, rfl, rfl, .inl ⟨by omega, by omega⟩, _, rfl, d, _, 2, .int (z + 1), rfl, rfl, SqL.of hd2, rfl, _, _, rfl, rfl, .inl ⟨by decide, by decide⟩, _, _, rfl, rfl, _, _, rfl, rfl, _, _, rfl, rfl, (by show (0 : Int) < 2147483629; decide), ?_⟩
      dsimp only
      have c1 := Int.emod_nonneg (n1 * n1 + 69621 * (z + 1) + 29) (show (2147483629 : Int) ≠ 0 by decide)
      have c2 := Int.emod_lt_of_pos (n1 * n1 + 69621 * (z + 1) + 29) (show (0 : Int) < 2147483629 by decide)
      generalize (n1 * n1 + 69621 * (z + 1) + 29) % 2147483629 = n2 at c1 c2
      refine ⟨_, rfl, _, rfl, n2, n2, rfl, rfl, .inl ⟨by omega, by omega⟩, _, _, rfl, rfl, _, _, rfl, rfl, (by show (0 : Int) < 2147483587; decide), _, _, rfl, rfl, ⟨by decide, by decide⟩, _, rfl, _, _, rfl, rfl, hm, ?_⟩
      exact k _ _ But.self ⟨_, _, _, upd_same, hx⟩ (Int.emod_nonneg _ (by omega)) (Int.emod_lt_of_pos _ hm)
end
end K66
namespace K66
set_option linter.all false
set_option maxRecDepth 100000
set_option maxHeartbeats 8000000
open PySem L2
theorem DeckAt.new {H : Hp} {d T : Addr} {o : HO} (h : DeckAt H d) (hT : H T = none) : DeckAt (upd H T o) d := h.same (same_new (Same.refl H) hT)
theorem But.new {d : Addr} {H H' : Hp} {T : Addr} {o : HO} (b : But d H H') (hT : H' T = none) : But d H (upd H' T o) := b.trans (But.of (same_new (Same.refl H') hT))
theorem But.lst {d l : Addr} {H H' : Hp} {xs : List V} (b : But d H H') (h : H l = some (.lst xs)) (n : l ≠ d) : H' l = some (.lst xs) := b l _ n h
/-- a write at a list that was not there -/
theorem But.at_ {d l : Addr} {H H' : Hp} {o : HO} (b : But d H H') (hl : H l = none) : But d H (upd H' l o) := fun c u n e => by
  rw [upd_ne (ne_of_none e hl)]
  exact b c u n e
theorem DeckAt.ne {H : Hp} {d t : Addr} (h : DeckAt H d) (ht : H t = none) : t ≠ d := fun e => by
  obtain ⟨x, y, z, hd, _⟩ := h
  rw [e, hd] at ht
  cases ht
section
variable {P : Program} {w : World} {K : PySem.W.Frag} {mg : Str → Option Value} {base : Heap}
/-! ### _law_grains -/
abbrev nGrains : List Str := ["_law_deck_here", "_law_least", "_law_way", "_law_many", "_law_found", "_law_k", "_law_some"]
theorem scGr : FnScope nGrains ["_law_deck_here", "_law_least"] (defScope sGrains) := ⟨rfl, rfl, rfl, by decide +kernel, rfl, by decide +kernel, by decide +kernel⟩
def spGrains : Sp := fun vs H Q _ => ∃ (d : Addr), vs = [.ref d, .int 1] ∧ DeckAt H d ∧ ∀ (H' : Hp) (g : Addr) (gs : List Int), But d H H' → DeckAt H' d → H g = none → H' g = some (.tup (gs.map V.int)) → gs ≠ [] → gs.length ≤ 8 → (∀ x ∈ gs, 1 ≤ x ∧ x ≤ 120000) → Q (.ref g) H'
theorem ok_grains {f f1 : Addr} {fd fd1 : FuncData} (F : Fun K "_law_grains" "_law_grains" sGrains f fd) (T : Txt mg) (CD : Cal P w K mg base "_law_draw" 1 ["_law_deck_here", "_law_most"] spDraw f1 fd1) : FnOk P w K mg base CX0 2 f fd ["_law_deck_here", "_law_least"] spGrains := by
  refine F.ok scGr (fun vs H Q E h => ?_) (fun cdv A outer s H vs Q E hr h => ?_)
  · obtain ⟨d, rfl, _⟩ := h
    rfl
  · obtain ⟨d, rfl, hd, k⟩ := h
    refine ⟨_, pss_cons (ps_set (i := 2) scGr.nd rfl (Or.inl rfl) (pe_call CD.ok hr rfl CD.at_ CD.kp CD.bd .nil pass0 (pa_cons (pv 0) (pa_cons pe_int pa_nil))))
      (pss_cons (ps_set (i := 3) scGr.nd rfl (Or.inl rfl) (pe_ix ix_list (pe_lst (pa_cons (pe_op op_add (pv 1) (pe_call CD.ok hr rfl CD.at_ CD.kp CD.bd .nil pass0 (pa_cons (pv 0) (pa_cons pe_int pa_nil)))) (pa_cons pe_int pa_nil)))
        (pe_callTy call_int1 (by rfl) T.int (by decide +kernel) (pa_cons (pe_cmpR op_eq (pe_call CD.ok hr rfl CD.at_ CD.kp CD.bd .nil pass0 (pa_cons (pv 0) (pa_cons pe_int pa_nil))) pe_int (nomark _)) pa_nil)) (fun _ _ => rfl)))
      (pss_cons (ps_set (i := 4) scGr.nd rfl (Or.inl rfl) (pe_lst pa_nil))
      (pss_cons (ps_for PassesOwn.never rfl (pi_range1 (by rfl) T.range (pa_cons (pe_callB (call_min2 rfl) (by rfl) T.min (by decide +kernel) (pa_cons pe_int (pa_cons (pv 3) pa_nil))) pa_nil)) (pg_name (i := 5) scGr.nd rfl (Or.inl rfl))
        (pss_cons (ps_set (i := 6) scGr.nd rfl (Or.inl rfl) (pe_lst (pa_cons (pe_op op_add pe_int (pe_call CD.ok hr rfl CD.at_ CD.kp CD.bd .nil pass0 (pa_cons (pv 0) (pa_cons pe_int pa_nil))))
          (pa_cons (pe_op op_add pe_int (pe_call CD.ok hr rfl CD.at_ CD.kp CD.bd .nil pass0 (pa_cons (pv 0) (pa_cons pe_int pa_nil))))
          (pa_cons (pe_op op_shl pe_int (pv 5))
          (pa_cons (pe_op op_add pe_int (pe_call CD.ok hr rfl CD.at_ CD.kp CD.bd .nil pass0 (pa_cons (pv 0) (pa_cons pe_int pa_nil)))) pa_nil))))))
        (pss_cons (ps_expr (pe_bm PySem.F.plainAttrs_list PySem.F.slot_list_append PySem.F.type_list_append mt_append (pv 6) (pa_cons (pe_ix ix_list (pe_lst (pa_cons pe_int (pa_cons pe_int pa_nil))) (pe_call CD.ok hr rfl CD.at_ CD.kp CD.bd .nil pass0 (pa_cons (pv 0) (pa_cons pe_int pa_nil))) (fun _ _ => rfl)) pa_nil)))
        (pss_one (ps_expr (pe_bm PySem.F.plainAttrs_list PySem.F.slot_list_append PySem.F.type_list_append mt_append (pv 4) (pa_cons (pe_ix ix_list (pv 6) (pv 2) (fun _ _ => rfl)) pa_nil)))))))
      (pss_one (ps_ret (pe_callTy call_tuple_of (by rfl) T.tuple (by decide +kernel) (pa_cons (pv 4) pa_nil))))))), ?_⟩
    -- way
    refine ⟨_, rfl, d, 5, rfl, hd, by decide, by decide, fun H1 way b1 d1 w0 w1 => ?_⟩
    -- many
    refine ⟨_, rfl, _, rfl, d, 6, rfl, d1, by decide, by decide, fun H2 r2 b2 d2 r20 r21 => ⟨_, _, rfl, rfl, by show 2 ≤ sizeLine; decide, fun a1 ha1 => ?_⟩⟩
    have d3 := d2.new (o := .lst [.int (1 + r2), .int 8]) ha1
    have b3 := (b1.trans b2).new (o := .lst [.int (1 + r2), .int 8]) ha1
    have ha1' : (upd H2 a1 (.lst [.int (1 + r2), .int 8])) a1 = some (.lst [.int (1 + r2), .int 8]) := upd_same
    have na1 : a1 ≠ d := d2.ne ha1
    refine ⟨_, rfl, d, 4, rfl, d3, by decide, by decide, fun H4 r4 b4 d4 r40 r41 => ?_⟩
    have many : ∃ mm : Int, atI [V.int (1 + r2), V.int 8] (if decide (V.int r4 = V.int 1) = true then 1 else 0) = some (V.int mm) ∧ 1 ≤ mm := by
      split
      · exact ⟨8, rfl, by decide⟩
      · exact ⟨1 + r2, rfl, by omega⟩
    obtain ⟨mm, hmm, mm1⟩ := many
    refine ⟨rfl, .inr ⟨_, rfl, a1, _, _, .int mm, rfl, rfl, SqL.of (b4.lst ha1' na1), hmm, ?_⟩⟩
    -- found
    refine ⟨by show 0 ≤ sizeLine; decide, fun l hl => ?_⟩
    have b5 : But d H (upd H4 l (.lst [])) := (b3.trans b4).new hl
    have d5 := d4.new (o := .lst []) hl
    have nl : l ≠ d := d4.ne hl
    have hl0 : H l = none := by
      cases e : H l with
      | none => rfl
      | some o =>
        have h1 := (b3.trans b4) l o nl e
        rw [hl] at h1
        cases h1
    have hl5 : (upd H4 l (.lst [])) l = some (.lst (([] : List Int).map V.int)) := upd_same
    refine ⟨_, rfl, _, _, rfl, _, rfl, by split <;> omega, by split <;> omega, ?_⟩
    refine for_range (fun i σ H' => ∃ (gs : List Int) (v5 v6 : Option V), σ = [some (.ref d), some (.int 1), some (.int way), some (.int mm), some (.ref l), v5, v6] ∧ But d H H' ∧ DeckAt H' d ∧ H' l = some (.lst (gs.map V.int)) ∧ gs.length = i ∧ ∀ x ∈ gs, 1 ≤ x ∧ x ≤ 120000)
      ⟨[], none, none, rfl, b5, d5, hl5, rfl, fun x hx => (by cases hx)⟩ ?_ ?_
    · rintro i σ H6 hi ⟨gs, v5, v6, rfl, b6, d6, hl6, hgl, hgb⟩
      have hi8 : i < 8 := by
        have h1 : (if mm < 8 then mm else 8) ≤ 8 := by split <;> omega
        omega
      -- some
      refine ⟨_, rfl, d, 4, rfl, d6, by decide, by decide, fun H7 r7 b7 d7 r70 r71 => ⟨_, _, rfl, rfl, ?_⟩⟩
      refine ⟨_, rfl, d, 30, rfl, d7, by decide, by decide, fun H8 r8 b8 d8 r80 r81 => ⟨_, _, rfl, rfl, ?_⟩⟩
      refine ⟨_, rfl, 1, _, rfl, rfl, ⟨by omega, by omega, by decide⟩, ?_⟩
      refine ⟨_, rfl, d, 120000, rfl, d8, by decide, by decide, fun H9 r9 b9 d9 r90 r91 => ⟨_, _, rfl, rfl, ?_⟩⟩
      refine ⟨by show 4 ≤ sizeLine; decide, fun t ht => ?_⟩
      have e2 : (1 : Int) * 2 ^ ((0 : Int) + (i : Nat)).toNat = ((2 ^ i : Nat) : Int) := by
        rw [Int.one_mul, Int.zero_add, Int.toNat_natCast]
        exact (Int.natCast_pow 2 i).symm
      have e3 : 2 ^ i ≤ 128 := by
        have := Nat.pow_le_pow_right (n := 2) (by decide) (show i ≤ 7 by omega)
        omega
      have e4 : 0 < 2 ^ i := Nat.pow_pos (by decide)
      dsimp only
      rw [e2]
      have d10 := d9.new (o := .lst [.int (1 + r7), .int (1 + r8), .int ((2 ^ i : Nat) : Int), .int (1 + r9)]) ht
      have b10 := (((b7.trans b8).trans b9)).new (o := .lst [.int (1 + r7), .int (1 + r8), .int ((2 ^ i : Nat) : Int), .int (1 + r9)]) ht
      have nt : t ≠ d := d9.ne ht
      have ht10 : (upd H9 t (.lst [.int (1 + r7), .int (1 + r8), .int ((2 ^ i : Nat) : Int), .int (1 + r9)])) t = some (.lst [.int (1 + r7), .int (1 + r8), .int ((2 ^ i : Nat) : Int), .int (1 + r9)]) := upd_same
      have hl10 := b10.lst hl6 nl
      have ntl : t ≠ l := fun e => by
        have h1 := ((b7.trans b8).trans b9).lst hl6 nl
        rw [e, h1] at ht
        cases ht
      generalize upd H9 t (.lst [.int (1 + r7), .int (1 + r8), .int ((2 ^ i : Nat) : Int), .int (1 + r9)]) = H10 at d10 b10 ht10 hl10 ⊢
      -- some.append([5, 7][..])
      refine ⟨_, rfl, .inl ⟨rfl, _, SqL.of ht10⟩, ?_⟩
      refine ⟨by show 2 ≤ sizeLine; decide, fun a2 ha2 => ?_⟩
      have d11 := d10.new (o := .lst [.int 5, .int 7]) ha2
      have s11 : Same H10 (upd H10 a2 (.lst [.int 5, .int 7])) := same_new (Same.refl H10) ha2
      have ha11 : (upd H10 a2 (.lst [.int 5, .int 7])) a2 = some (.lst [.int 5, .int 7]) := upd_same
      have na2 : a2 ≠ d := d10.ne ha2
      refine ⟨_, rfl, d, 2, rfl, d11, by decide, by decide, fun H12 r12 b12 d12 r120 r121 => ?_⟩
      have fv : ∃ ff : Int, atI [V.int 5, V.int 7] r12 = some (V.int ff) ∧ 1 ≤ ff ∧ ff ≤ 120000 := by
        rcases (show r12 = 0 ∨ r12 = 1 by omega) with e | e <;> subst e
        · exact ⟨5, rfl, by decide, by decide⟩
        · exact ⟨7, rfl, by decide, by decide⟩
      obtain ⟨ff, hff, f1, f2⟩ := fv
      have ht12 := b12.lst (s11 _ _ ht10) nt
      have hl12 := b12.lst (s11 _ _ hl10) nl
      refine ⟨a2, _, _, .int ff, rfl, rfl, SqL.of (b12.lst ha11 na2), hff, t, _, _, rfl, rfl, ht12, by show 4 < sizeLine; decide, ?_⟩
      have d13 : DeckAt (upd H12 t (.lst ([.int (1 + r7), .int (1 + r8), .int ((2 ^ i : Nat) : Int), .int (1 + r9)] ++ [.int ff]))) d := by
        obtain ⟨x, y, z, q1, q2⟩ := d12
        exact ⟨x, y, z, by rw [upd_ne (Ne.symm nt)]; exact q1, q2⟩
      have hl13 : (upd H12 t (.lst ([.int (1 + r7), .int (1 + r8), .int ((2 ^ i : Nat) : Int), .int (1 + r9)] ++ [.int ff]))) l = some (.lst (gs.map V.int)) := by rw [upd_ne (Ne.symm ntl)]; exact hl12
      have ht13 : (upd H12 t (.lst ([.int (1 + r7), .int (1 + r8), .int ((2 ^ i : Nat) : Int), .int (1 + r9)] ++ [.int ff]))) t = some (.lst [.int (1 + r7), .int (1 + r8), .int ((2 ^ i : Nat) : Int), .int (1 + r9), .int ff]) := upd_same
      have ht6 : H6 t = none := by
        cases e : H6 t with
        | none => rfl
        | some o =>
          have h1 := ((b7.trans b8).trans b9) t o nt e
          rw [ht] at h1
          cases h1
      have b13 : But d H6 (upd H12 t (.lst ([.int (1 + r7), .int (1 + r8), .int ((2 ^ i : Nat) : Int), .int (1 + r9)] ++ [.int ff]))) := But.at_ (b10.trans ((But.of s11).trans b12)) ht6
      generalize upd H12 t (.lst ([.int (1 + r7), .int (1 + r8), .int ((2 ^ i : Nat) : Int), .int (1 + r9)] ++ [.int ff])) = H13 at d13 hl13 ht13 b13 ⊢
      -- found.append(some[way])
      have wv : ∃ ww : Int, atI [V.int (1 + r7), V.int (1 + r8), V.int ((2 ^ i : Nat) : Int), V.int (1 + r9), V.int ff] way = some (V.int ww) ∧ 1 ≤ ww ∧ ww ≤ 120000 := by
        rcases (show way = 0 ∨ way = 1 ∨ way = 2 ∨ way = 3 ∨ way = 4 by omega) with e | e | e | e | e <;> subst e
        · exact ⟨_, rfl, by omega, by omega⟩
        · exact ⟨_, rfl, by omega, by omega⟩
        · exact ⟨_, rfl, by omega, by omega⟩
        · exact ⟨_, rfl, by omega, by omega⟩
        · exact ⟨_, rfl, f1, f2⟩
      obtain ⟨ww, hww, ww1, ww2⟩ := wv
      refine ⟨_, rfl, .inl ⟨rfl, _, SqL.of hl13⟩, _, rfl, _, rfl, t, _, _, .int ww, rfl, rfl, SqL.of ht13, hww, l, _, _, rfl, rfl, hl13, by rw [List.length_map]; exact Nat.lt_of_le_of_lt (by omega : _ ≤ 100) (by decide), ?_⟩
      refine ⟨gs ++ [ww], _, _, rfl, But.at_ (b6.trans b13) hl0, ?_, by rw [List.map_append]; exact upd_same, by rw [List.length_append]; simp [hgl], fun x hx => ?_⟩
      · obtain ⟨x, y, z, q1, q2⟩ := d13
        exact ⟨x, y, z, by rw [upd_ne (Ne.symm nl)]; exact q1, q2⟩
      · rcases List.mem_append.mp hx with z | z
        · exact hgb x z
        · rw [List.mem_singleton.mp z]
          exact ⟨ww1, ww2⟩
    · rintro σ H6 ⟨gs, v5, v6, rfl, b6, d6, hl6, hgl, hgb⟩
      have hn1 : 1 ≤ gs.length ∧ gs.length ≤ 8 := by
        rw [hgl]
        have h1 : (if mm < 8 then mm else 8) ≤ 8 := by split <;> omega
        have h2 : 1 ≤ (if mm < 8 then mm else 8) := by split <;> omega
        omega
      refine ⟨_, rfl, l, _, rfl, .inl ⟨SqL.of hl6, fun g hg => ?_⟩⟩
      have ng : g ≠ d := d6.ne hg
      refine k _ g gs (b6.new hg) (d6.new hg) ?_ upd_same (fun e => by rw [e] at hn1; simp at hn1) hn1.2 hgb
      cases e : H g with
      | none => rfl
      | some o =>
        have h1 := b6 g o ng e
        rw [hg] at h1
        cases h1
end
end K66
namespace K66
set_option linter.all false
set_option maxRecDepth 100000
set_option maxHeartbeats 8000000
open PySem L2
theorem ix_listK {X : Cx} {K : PySem.W.Frag} (hK : X.K = K) : IxR X (rIxL K) := by
  subst hK
  exact ix_list
theorem op_catAK {X : Cx} {K : PySem.W.Frag} (hK : X.K = K) : OpR X (PySem.binaryOp .Add) (rCatA K) := by
  subst hK
  exact op_catA
/-- a choice: its own tuple, the tuple of its numbers (ints), the pair; all lists of them -/
abbrev Cho := Addr × Addr × List Int × Pr
/-- it stands -/
def ChoT (K : PySem.W.Frag) (H : Hp) (n : Nat) (q : Cho) : Prop := H q.1 = some (.tup [.ref q.2.1, .int q.2.2.2.1, .int q.2.2.2.2]) ∧ SqT K H q.2.1 (q.2.2.1.map V.int) ∧ q.2.2.1.length ≤ n
theorem ChoT.same {K : PySem.W.Frag} {H H' : Hp} {n m : Nat} {q : Cho} (s : Same H H') (hnm : n ≤ m) (h : ChoT K H n q) : ChoT K H' m q := ⟨s _ _ h.1, sqT_same s h.2.1, Nat.le_trans h.2.2 hnm⟩
abbrev refs {α : Type} (L : List (Addr × α)) : List V := L.map fun q => V.ref q.1
/-- the new choices of the first j -/
def RK (K : PySem.W.Frag) (one : Int) (n : Nat) (L : List Cho) (j : Nat) (acc : List V) (H : Hp) : Prop := ∃ M : List Cho, acc = refs M ∧ M.map (·.2.2.2) = ((L.map (·.2.2.2)).take j).map (addP one) ∧ ∀ q ∈ M, ChoT K H (n + 1) q
section
variable {P : Program} {w : World} {K : PySem.W.Frag} {mg : Str → Option Value} {base : Heap}
/-! ### _law_choices -/
abbrev nChoices : List Str := ["_law_grains_here", "_law_found", "_law_number", "_law_one", "_law_chosen", "_law_sums", "_law_many"]
theorem scCh : FnScope nChoices ["_law_grains_here"] (defScope sChoices) := ⟨rfl, rfl, rfl, by decide +kernel, rfl, by decide +kernel, by decide +kernel⟩
def spChoices (K : PySem.W.Frag) : Sp := fun vs H Q _ => ∃ (g : Addr) (gs : List Int), vs = [.ref g] ∧ SqT K H g (gs.map V.int) ∧ gs.length ≤ 8 ∧ ∀ (H' : Hp) (l : Addr) (L : List Cho), Same H H' → H' l = some (.lst (refs L)) → (∀ q ∈ L, ChoT K H' 8 q) → L.map (·.2.2.2) = sums gs [((0, 0) : Pr)] → Q (.ref l) H'
theorem ok_choices {f : Addr} {fd : FuncData} (F : Fun K "_law_choices" "_law_choices" sChoices f fd) (T : Txt mg) : FnOk P w K mg base CX0 1 f fd ["_law_grains_here"] (spChoices K) := by
  refine F.ok scCh (fun vs H Q E h => ?_) (fun cdv A outer s H vs Q E hr h => ?_)
  · obtain ⟨g, gs, rfl, _⟩ := h
    rfl
  · obtain ⟨g, gs, rfl, hg, hlen, k⟩ := h
    refine ⟨_, pss_cons (ps_set (i := 1) scCh.nd rfl (Or.inl rfl) (pe_lst (pa_cons (pe_tup (pa_cons (pe_tup pa_nil) (pa_cons pe_int (pa_cons pe_int pa_nil)))) pa_nil)))
      (pss_cons (ps_for PassesOwn.never rfl (pi_enumT (by rfl) T.enum (pa_cons (pv 0) pa_nil)) (pg_tup (n := 2) rfl (pgs_cons (pg_name (i := 2) scCh.nd rfl (Or.inr rfl)) (pgs_cons (pg_name (i := 3) scCh.nd rfl (Or.inr rfl)) pgs_nil)))
        (pss_one (ps_set (i := 1) scCh.nd rfl (Or.inl rfl) (pe_op op_cat (pv 1) (pe_lc (own := [("_law_chosen", 4), ("_law_sums", 5), ("_law_many", 6)]) rfl scCh.nd (pi_list (pv 1))
          (blkOk_by (own := [("_law_chosen", 4), ("_law_sums", 5), ("_law_many", 6)]) (N := nChoices) (sc := defScope sChoices) (by decide +kernel))
          (fun _ _ _ _ _ => pgn3 (K := K) 4 5 6 rfl rfl scCh.nd rfl rfl rfl rfl rfl rfl) (fun _ _ _ _ _ => pts_nil)
          (fun _ _ _ _ _ => pe_tup (pa_cons (pe_op (op_catAK (K := K) rfl) (pv 4) (pe_tup (pa_cons (pv 2) pa_nil))) (pa_cons (pe_op op_add (pv 5) (pv 3)) (pa_cons (pe_op op_add (pv 6) pe_int) pa_nil)))))))))
      (pss_one (ps_ret (pv 1)))), ?_⟩
    refine ⟨by show 0 ≤ sizeLine; decide, fun t0 ht0 => ⟨by show 3 ≤ sizeLine; decide, fun t1 ht1 => ⟨by show 1 ≤ sizeLine; decide, fun l hl => ?_⟩⟩⟩
    have s1 : Same H (upd H t0 (.tup [])) := same_new (Same.refl H) ht0
    have s2 := same_new (o := .tup [.ref t0, .int 0, .int 0]) s1 ht1
    have s3 := same_new (o := .lst [.ref t1]) s2 hl
    have n01 : t0 ≠ t1 := fun e => by rw [← e, upd_same] at ht1; cases ht1
    have n0l : t0 ≠ l := fun e => by rw [← e, upd_ne n01, upd_same] at hl; cases hl
    have n1l : t1 ≠ l := fun e => by rw [← e, upd_same] at hl; cases hl
    have c0 : ChoT K (upd (upd (upd H t0 (.tup [])) t1 (.tup [.ref t0, .int 0, .int 0])) l (.lst [.ref t1])) 0 (t1, t0, [], (0, 0)) :=
      ⟨by rw [upd_ne n1l, upd_same], sqT_at (by rw [upd_ne n0l, upd_ne n01, upd_same]; rfl), Nat.le_refl _⟩
    refine ⟨_, rfl, g, _, rfl, sqT_same s3 hg, for_it (walk_enumT (xs := gs.map V.int)) (fun i σ H' => ∃ (l' : Addr) (L : List Cho) (v2 v3 : Option V), σ = [some (.ref g), some (.ref l'), v2, v3, none, none, none] ∧ Same H H' ∧ H' l' = some (.lst (refs L)) ∧ (∀ q ∈ L, ChoT K H' i q) ∧ L.map (·.2.2.2) = sums (gs.take i) [((0, 0) : Pr)])
      ⟨l, [(t1, t0, [], (0, 0))], none, none, rfl, s3, upd_same, fun q hq => by rw [List.mem_singleton.mp hq]; exact c0, rfl⟩ (fun i σ H' _ ⟨_, _, _, _, _, s5, _⟩ => sqT_same s5 hg) ?_ ?_⟩
    · rintro i v σ H2 H3 hi ⟨l', L, v2, v3, rfl, s5, hl2, hL, eL⟩ ⟨t, x, y, rfl, ht, rfl, hx, hy⟩
      obtain rfl : V.int (i : Nat) = x := Option.some.inj hx
      have hy' : (gs.map V.int)[i]? = some y := hy
      rw [List.getElem?_map] at hy'
      obtain ⟨one, hone, rfl⟩ := Option.map_eq_some_iff.mp hy'
      rw [List.length_map] at hi
      have Llen : L.length ≤ 128 := by
        have h1 := congrArg List.length eL
        rw [List.length_map, sums_len, List.length_take, Nat.min_eq_left (Nat.le_of_lt hi)] at h1
        have h3 : 2 ^ i ≤ 2 ^ 7 := Nat.pow_le_pow_right (by decide) (by omega)
        simp only [List.length_cons, List.length_nil] at h1
        omega
      have s6 : Same H2 (upd H2 t (.tup [.int (i : Nat), .int one])) := same_new (Same.refl H2) ht
      have ht3 : SqT K (upd H2 t (.tup [.int (i : Nat), .int one])) t [.int (i : Nat), .int one] := sqT_at upd_same
      generalize upd H2 t (.tup [.int (i : Nat), .int one]) = H3 at s6 ht3 ⊢
      refine ⟨t, _, rfl, ht3, rfl, _, _, rfl, _, _, rfl, rfl, ?_⟩
      have hl3 := s6 _ _ hl2
      refine ⟨_, rfl, _, rfl, l', rfl, ⟨_, SqL.of hl3⟩, ?_⟩
      intro D hD
      refine lc_it (walk_list (xs := refs L)) (Gr (RK K one i L) H3 D) (gr_start hD ⟨[], rfl, rfl, fun q hq => (by cases hq)⟩) (fun j H4 _ G => SqL.of (G.1 _ _ hl3)) ?_ ?_
      · rintro j v H4 H5 hj ⟨s7, acc, hacc, M, e1, e2, e3⟩ ⟨rfl, hx2⟩
        rw [List.getElem?_map] at hx2
        obtain ⟨u, hu1, rfl⟩ := Option.map_eq_some_iff.mp hx2
        obtain ⟨u1, u2, u3⟩ := (hL u (List.mem_of_getElem? hu1)).same (s6.trans s7) (Nat.le_refl i)
        rw [List.length_map] at hj
        have hi8 : i < 8 := by omega
        refine ⟨u.1, _, rfl, sqT_at u1, rfl, _, _, rfl, _, _, rfl, _, _, rfl, rfl, rfl, ?_⟩
        refine tyes ?_
        refine iteT ⟨_, rfl, _, rfl, by show 1 ≤ sizeLine; decide, fun t2 ht2 => ?_⟩
        have s8 := same_new (o := .tup [.int (i : Nat)]) (Same.refl H5) ht2
        -- chosen + (number,)
        have acclen : acc.length < 5000 := by rw [e1, List.length_map, ← List.length_map (f := (·.2.2.2)), e2, List.length_map, List.length_take]; omega
        have fin : ∀ (H6 : Hp) (c : Addr), Same H5 H6 → SqT K H6 c ((u.2.2.1 ++ [(i : Int)]).map V.int) → ∀ t3, H6 t3 = none → ∃ acc, (upd H6 t3 (.tup [.ref c, .int (u.2.2.2.1 + one), .int (u.2.2.2.2 + 1)])) D = some (.lst acc) ∧ acc.length < sizeLine ∧ Gr (RK K one i L) H3 D (j + 1) (upd (upd H6 t3 (.tup [.ref c, .int (u.2.2.2.1 + one), .int (u.2.2.2.2 + 1)])) D (.lst (acc ++ [.ref t3]))) := fun H6 c s9 hc t3 ht3 => by
          have s10 := same_new (o := .tup [.ref c, .int (u.2.2.2.1 + one), .int (u.2.2.2.2 + 1)]) (Same.refl H6) ht3
          have ht3' : (upd H6 t3 (.tup [.ref c, .int (u.2.2.2.1 + one), .int (u.2.2.2.2 + 1)])) t3 = some (.tup [.ref c, .int (u.2.2.2.1 + one), .int (u.2.2.2.2 + 1)]) := upd_same
          generalize upd H6 t3 (.tup [.ref c, .int (u.2.2.2.1 + one), .int (u.2.2.2.2 + 1)]) = H7 at s10 ht3' ⊢
          have hD7 := (s9.trans s10) _ _ hacc
          have ts := tst_at (o := .lst (acc ++ [.ref t3])) hD7
          have mv : ∀ a ys, SqT K H7 a ys → SqT K (upd H7 D (.lst (acc ++ [.ref t3]))) a ys := fun a ys h => by
            rcases h with (h | ⟨o, h⟩) | h
            · exact .inl (.inl (ts _ _ h))
            · exact .inl (.inr ⟨o, by rw [upd_ne (ne_of h hD7 (by intro z; cases z))]; exact h⟩)
            · exact .inr h
          refine gr_next hD (s7.trans (s9.trans s10)) hD7 acclen ⟨M ++ [(t3, c, u.2.2.1 ++ [(i : Int)], addP one u.2.2.2)], by rw [e1]; unfold refs; rw [List.map_append]; rfl, ?_, fun q hq => ?_⟩
          · rw [List.map_append, e2, take_snoc (x := u.2.2.2) (by rw [List.getElem?_map, hu1]; rfl), List.map_append]
            rfl
          · rcases List.mem_append.mp hq with z | z
            · obtain ⟨z1, z2, z3⟩ := (e3 q z).same (s9.trans s10) (Nat.le_refl _)
              exact ⟨ts _ _ z1, mv _ _ z2, z3⟩
            · rw [List.mem_singleton.mp z]
              exact ⟨ts _ _ ht3', mv _ _ (sqT_same s10 hc), by rw [List.length_append]; simp; omega⟩
        refine ⟨u.2.1, t2, _, _, rfl, rfl, sqT_same s8 u2, sqT_at upd_same, by rw [List.length_map]; exact Nat.le_trans (by show u.2.2.1.length + 1 ≤ 100; omega) (by decide), fun e => ?_, fun _ e => (by cases e), fun e _ => fun p hp => ?_⟩
        · have e' : u.2.2.1 = [] := List.map_eq_nil_iff.mp e
          refine ⟨_, rfl, _, rfl, _, _, rfl, rfl, _, rfl, _, _, rfl, rfl, by show 3 ≤ sizeLine; decide, fun t3 ht3 => ?_⟩
          exact fin _ t2 s8 (by rw [e']; exact sqT_at upd_same) t3 ht3
        · have s9 := same_new (o := .tup (u.2.2.1.map V.int ++ [.int (i : Nat)])) s8 hp
          refine ⟨_, rfl, _, rfl, _, _, rfl, rfl, _, rfl, _, _, rfl, rfl, by show 3 ≤ sizeLine; decide, fun t3 ht3 => ?_⟩
          exact fin _ p s9 (sqT_at (by rw [upd_same, List.map_append]; rfl)) t3 ht3
      · rintro H4 ⟨s7, acc, hacc, M, e1, e2, e3⟩
        rw [List.length_map, ← List.length_map (f := (·.2.2.2)), List.take_length] at e2
        have Mlen : M.length = L.length := by
          have h1 := congrArg List.length e2
          rw [List.length_map, List.length_map, List.length_map] at h1
          exact h1
        refine ⟨l', D, _, _, rfl, rfl, s7 _ _ hl3, hacc, by rw [e1, List.length_map, List.length_map, Mlen]; exact Nat.le_trans (by omega : _ ≤ 300) (by decide), fun p hp => ?_⟩
        have s8 := same_new (o := .lst (refs L ++ acc)) (Same.refl H4) hp
        refine ⟨p, L ++ M, _, _, rfl, s5.trans ((s6.trans s7).trans s8), by rw [upd_same, e1]; unfold refs; rw [List.map_append], fun q hq => ?_, ?_⟩
        · rcases List.mem_append.mp hq with z | z
          · exact (hL q z).same ((s6.trans s7).trans s8) (Nat.le_succ i)
          · exact (e3 q z).same s8 (Nat.le_refl _)
        · rw [take_snoc hone, sums_snoc, List.map_append, e2, eL]
    · rintro σ H2 ⟨l', L, v2, v3, rfl, s5, hl2, hL, eL⟩
      rw [List.length_map, List.take_length] at eL
      refine ⟨_, rfl, k _ l' L s5 hl2 (fun q hq => (hL q hq).same (Same.refl _) (by rw [List.length_map]; exact hlen)) eL⟩
end
end K66
namespace K66
set_option linter.all false
set_option maxRecDepth 100000
set_option maxHeartbeats 8000000
open PySem L2
theorem sum_bd : ∀ gs : List Int, (∀ x ∈ gs, 1 ≤ x ∧ x ≤ 120000) → 0 ≤ gs.sum ∧ gs.sum ≤ 120000 * (gs.length : Int)
  | [], _ => ⟨by simp, by simp⟩
  | g :: gs, h => by
    have h1 := h g List.mem_cons_self
    have h2 := sum_bd gs fun x hx => h x (List.mem_cons_of_mem _ hx)
    rw [List.sum_cons, List.length_cons]
    omega
/-- the sums of the first i -/
def RS (L : List Cho) (i : Nat) (acc : List V) (_ : Hp) : Prop := acc = (L.take i).map fun q => V.int q.2.2.2.1
section
variable {P : Program} {w : World} {K : PySem.W.Frag} {mg : Str → Option Value} {base : Heap}
abbrev nDue : List Str := ["_law_deck_here", "_law_grains_here", "_law_way", "_law_found", "_law_at", "_law_some", "_law_chosen", "_law_sums", "_law_many"]
theorem scDu : FnScope nDue ["_law_deck_here", "_law_grains_here"] (defScope sDue) := ⟨rfl, rfl, rfl, by decide +kernel, rfl, by decide +kernel, by decide +kernel⟩
def spDue (K : PySem.W.Frag) : Sp := fun vs H Q _ => ∃ (d g : Addr) (gs : List Int), vs = [.ref d, .ref g] ∧ DeckAt H d ∧ SqT K H g (gs.map V.int) ∧ gs.length ≤ 8 ∧ (∀ x ∈ gs, 1 ≤ x ∧ x ≤ 120000) ∧ ∀ (H' : Hp) (r : Int), But d H H' → DeckAt H' d → 1 ≤ r → Q (.int r) H'
theorem ok_due {f f1 f2 : Addr} {fd fd1 fd2 : FuncData} (F : Fun K "_law_due" "_law_due" sDue f fd) (T : Txt mg) (CD : Cal P w K mg base "_law_draw" 1 ["_law_deck_here", "_law_most"] spDraw f1 fd1) (CC : Cal P w K mg base "_law_choices" 1 ["_law_grains_here"] (spChoices K) f2 fd2) :
    FnOk P w K mg base CX0 2 f fd ["_law_deck_here", "_law_grains_here"] (spDue K) := by
  refine F.ok scDu (fun vs H Q E h => ?_) (fun cdv A outer s H vs Q E hr h => ?_)
  · obtain ⟨d, g, gs, rfl, _⟩ := h
    rfl
  · obtain ⟨d, g, gs, rfl, hd, hg, hlen, hb, k⟩ := h
    refine ⟨_, pss_cons (ps_set (i := 2) scDu.nd rfl (Or.inl rfl) (pe_call CD.ok hr rfl CD.at_ CD.kp CD.bd .nil pass0 (pa_cons (pv 0) (pa_cons pe_int pa_nil))))
      (pss_cons (ps_setLc (i := 3) (own := [("_law_chosen", 6), ("_law_sums", 7), ("_law_many", 8)]) rfl scDu.nd rfl rfl (sw_true rfl rfl rfl (by decide +kernel)) (pi_list (pe_call CC.ok hr rfl CC.at_ CC.kp CC.bd .nil pass0 (pa_cons (pv 1) pa_nil)))
          (blkOk_by (own := [("_law_chosen", 6), ("_law_sums", 7), ("_law_many", 8)]) (N := nDue) (sc := defScope sDue) (by decide +kernel))
          (fun _ _ _ _ _ => pgn3 (K := K) 6 7 8 rfl rfl scDu.nd rfl rfl rfl rfl rfl rfl) (fun _ _ _ _ _ => pts_nil) (fun _ _ _ _ _ => pv 7))
      (pss_cons (ps_set (i := 4) scDu.nd rfl (Or.inl rfl) (pe_ix ix_list (pv 3) (pe_call CD.ok hr rfl CD.at_ CD.kp CD.bd .nil pass0 (pa_cons (pv 0) (pa_cons (pe_callB call_len_seq (by rfl) T.len PySem.boot_len (pa_cons (pv 3) pa_nil)) pa_nil))) (fun _ _ => rfl)))
      (pss_cons (ps_set (i := 5) scDu.nd rfl (Or.inl rfl) (pe_lst (pa_cons pe_int (pa_cons (pv 4) (pa_cons (pe_op op_add (pv 4) pe_int) (pa_cons (pe_op op_sub (pv 4) pe_int)
          (pa_cons (pe_op op_add pe_int (pe_call CD.ok hr rfl CD.at_ CD.kp CD.bd .nil pass0 (pa_cons (pv 0) (pa_cons (pe_op op_add (pe_callB (cr_sumT rfl) (by rfl) T.sum (by decide +kernel) (pa_cons (pv 1) pa_nil)) pe_int) pa_nil))))
          (pa_cons (pe_op op_add (pe_callB (cr_sumT rfl) (by rfl) T.sum (by decide +kernel) (pa_cons (pv 1) pa_nil)) (pe_call CD.ok hr rfl CD.at_ CD.kp CD.bd .nil pass0 (pa_cons (pv 0) (pa_cons pe_int pa_nil)))) pa_nil))))))))
      (pss_one (ps_ret (pe_callB (call_max2 rfl) (by rfl) T.max (by decide +kernel) (pa_cons pe_int (pa_cons (pe_ix ix_list (pv 5) (pv 2) (fun _ _ => rfl)) pa_nil)))))))), ?_⟩
    obtain ⟨sb1, sb2⟩ := sum_bd gs hb
    -- way
    refine ⟨_, rfl, d, 6, rfl, hd, by decide, by decide, fun H1 way b1 d1 w0 w1 => ?_⟩
    have g1 := b1.sqT hd hg
    -- found
    refine ⟨_, rfl, g, gs, rfl, g1, hlen, fun H2 l L s2 hl2 hL eL => ⟨l, rfl, ⟨_, SqL.of hl2⟩, ?_⟩⟩
    have Llen : L.length = 2 ^ gs.length := by
      have h1 := congrArg List.length eL
      rw [List.length_map, sums_len] at h1
      simpa using h1
    have Lle : L.length ≤ 256 := by
      have h3 : 2 ^ gs.length ≤ 2 ^ 8 := Nat.pow_le_pow_right (by decide) hlen
      omega
    have Lpos : 0 < L.length := by rw [Llen]; exact Nat.pow_pos (by decide)
    intro D hD
    refine lc_it (walk_list (xs := refs L)) (Gr (RS L) H2 D) (gr_start hD rfl) (fun j H4 _ G => SqL.of (G.1 _ _ hl2)) ?_ ?_
    · rintro j v H4 H5 hj ⟨s7, acc, hacc, ra⟩ ⟨rfl, hx2⟩
      have ra' : acc = _ := ra
      rw [List.getElem?_map] at hx2
      obtain ⟨u, hu1, rfl⟩ := Option.map_eq_some_iff.mp hx2
      obtain ⟨u1, u2, u3⟩ := (hL u (List.mem_of_getElem? hu1)).same s7 (Nat.le_refl 8)
      rw [List.length_map] at hj
      refine ⟨u.1, _, rfl, sqT_at u1, rfl, _, _, rfl, _, _, rfl, _, _, rfl, rfl, rfl, ?_⟩
      refine tyes ?_
      refine iteT ⟨_, rfl, gr_next hD s7 hacc (by rw [ra', List.length_map, List.length_take]; omega) ?_⟩
      show _ = _
      rw [ra', take_snoc hu1, List.map_append]
      rfl
    rintro H4 ⟨s7, acc, hacc, ra⟩
    have ra' : acc = _ := ra
    rw [List.length_map, List.take_length] at ra'
    have s24 := s2.trans s7
    have d4 := d1.same s24
    have b4 := b1.trans (But.of s24)
    have hD4 : H4 D = some (.lst (L.map fun q => V.int q.2.2.2.1)) := by rw [hacc, ra']
    have nD : D ≠ d := fun e => by
      obtain ⟨x, y, z, q, _⟩ := d4
      have h1 := d1.same s2
      obtain ⟨x', y', z', q', _⟩ := h1
      rw [e, q'] at hD
      cases hD
    -- at
    refine ⟨_, rfl, _, rfl, _, rfl, D, _, rfl, .inl (SqL.of hD4), d, _, rfl, d4, by rw [List.length_map]; omega, by rw [List.length_map]; omega, fun H5 r b5 d5 r0 r1 => ?_⟩
    rw [List.length_map] at r1
    obtain ⟨rr, rfl⟩ : ∃ rr : Nat, r = (rr : Int) := ⟨r.toNat, by omega⟩
    have hrr : rr < L.length := by omega
    refine ⟨D, _, _, .int L[rr].2.2.2.1, rfl, rfl, SqL.of (b5.lst hD4 nD), atI_nat (by rw [List.getElem?_map, List.getElem?_eq_getElem hrr]; rfl), ?_⟩
    generalize L[rr].2.2.2.1 = atv
    have g5 := (b4.trans b5).sqT hd hg
    -- some
    refine ⟨_, rfl, _, rfl, _, _, rfl, rfl, _, rfl, _, _, rfl, rfl, ?_⟩
    refine ⟨_, rfl, _, rfl, g, gs, rfl, g5, _, _, rfl, rfl, d, _, rfl, d5, by omega, by omega, fun H6 r6 b6 d6 r60 r61 => ⟨_, _, rfl, rfl, ?_⟩⟩
    have g6 := b6.sqT d5 g5
    refine ⟨_, rfl, g, gs, rfl, g6, _, rfl, d, 3, rfl, d6, by decide, by decide, fun H7 r7 b7 d7 r70 r71 => ⟨_, _, rfl, rfl, ?_⟩⟩
    refine ⟨by show 6 ≤ sizeLine; decide, fun t ht => ?_⟩
    dsimp only
    have d8 := d7.new (o := .lst [.int 1, .int atv, .int (atv + 1), .int (atv - 1), .int (1 + r6), .int (gs.sum + r7)]) ht
    have b8 : But d H (upd H7 t (.lst [.int 1, .int atv, .int (atv + 1), .int (atv - 1), .int (1 + r6), .int (gs.sum + r7)])) := (((b4.trans b5).trans b6).trans b7).new ht
    have ht8 : (upd H7 t (.lst [.int 1, .int atv, .int (atv + 1), .int (atv - 1), .int (1 + r6), .int (gs.sum + r7)])) t = some (.lst [.int 1, .int atv, .int (atv + 1), .int (atv - 1), .int (1 + r6), .int (gs.sum + r7)]) := upd_same
    have wv : ∃ ww : Int, atI [V.int 1, V.int atv, V.int (atv + 1), V.int (atv - 1), V.int (1 + r6), V.int (gs.sum + r7)] way = some (V.int ww) := by
      rcases (show way = 0 ∨ way = 1 ∨ way = 2 ∨ way = 3 ∨ way = 4 ∨ way = 5 by omega) with e | e | e | e | e | e <;> subst e <;> exact ⟨_, rfl⟩
    obtain ⟨ww, hww⟩ := wv
    refine ⟨_, rfl, _, rfl, t, _, _, .int ww, rfl, rfl, SqL.of ht8, hww, _, _, rfl, ?_⟩
    exact k _ _ b8 d8 (by split <;> omega)
end
end K66
namespace K66
set_option linter.all false
set_option maxRecDepth 100000
set_option maxHeartbeats 8000000
open PySem L2
/-- nothing is kept -/
def RN (_ : Nat) (acc : List V) (_ : Hp) : Prop := acc = []
section
variable {P : Program} {w : World} {K : PySem.W.Frag} {mg : Str → Option Value} {base : Heap}
abbrev nRight : List Str := ["_law_grains_here", "_law_due_here", "_law_told", "_law_own", "_law_last", "_law_chosen", "_law_sums", "_law_many", "_law_number", "_law_pair"]
theorem scRt : FnScope nRight ["_law_grains_here", "_law_due_here"] (defScope sRight) := ⟨rfl, rfl, rfl, by decide +kernel, rfl, by decide +kernel, by decide +kernel⟩
def spRight (K : PySem.W.Frag) : Sp := fun vs H Q _ => ∃ (g : Addr) (due : Int) (gs : List Int), vs = [.ref g, .int due] ∧ SqT K H g (gs.map V.int) ∧ gs.length ≤ 8 ∧ (∀ x ∈ gs, 1 ≤ x ∧ x ≤ 120000) ∧ 1 ≤ due ∧ ∀ H', Same H H' → Q (.bl true) H'
theorem ok_right {f f1 f2 f3 : Addr} {fd fd1 fd2 fd3 : FuncData} (F : Fun K "_law_right" "_law_right" sRight f fd) (T : Txt mg) (CF : Cal P w K mg base "few_notes" 2 ["grains", "due"] (spFew K) f1 fd1) (CC : Cal P w K mg base "_law_choices" 1 ["_law_grains_here"] (spChoices K) f2 fd2)
    (CH : Cal P w K mg base "few_holds" 4 ["grains", "due", "thing"] (spHolds K) f3 fd3) : FnOk P w K mg base CX0 5 f fd ["_law_grains_here", "_law_due_here"] (spRight K) := by
  refine F.ok scRt (fun vs H Q E h => ?_) (fun cdv A outer s H vs Q E hr h => ?_)
  · obtain ⟨g, due, gs, rfl, _⟩ := h
    rfl
  · obtain ⟨g, due, gs, rfl, hg, hlen, hb, due1, k⟩ := h
    have hu := hu_of hr
    have hu64 := hr.units
    have hpos : ∀ x ∈ gs, 0 ≤ x := fun x hx => by have := hb x hx; omega
    refine ⟨_, pss_cons (ps_set (i := 2) scRt.nd rfl (Or.inl rfl) (pe_call CF.ok (hr.mono (by decide)) rfl CF.at_ CF.kp CF.bd .nil pass0 (pa_cons (pv 0) (pa_cons (pv 1) pa_nil))))
      (pss_cons (ps_if (pt_cmp (pc_isN (pv 2)) rfl) (pss_one (ps_ret (pe_cmpR op_lt (pe_callB (cr_sumT rfl) (by rfl) T.sum (by decide +kernel) (pa_cons (pv 0) pa_nil)) (pv 1) (nomark _)))) pss_nil)
      (pss_cons (ps_set (i := 3) scRt.nd rfl (Or.inr rfl) (pe_tup (pa_cons (pe_callB (cr_sum rfl) (by rfl) T.sum (by decide +kernel) (pa_cons (pe_lc (own := [("_law_number", 8)]) rfl scRt.nd (pi_tup (pe_ix ix_tup (pv 2) pe_int (fun _ _ => rfl)))
          (blkOk_by (own := [("_law_number", 8)]) (N := nRight) (sc := defScope sRight) (by decide +kernel))
          (fun _ _ _ _ _ => pgl 8 scRt.nd rfl rfl) (fun _ _ _ _ _ => pts_nil)
          (fun _ _ _ _ _ => pe_ix (ix_tupK (K := K) rfl) (pv 0) (pv 8) (fun _ _ => rfl))) pa_nil))
          (pa_cons (pe_callB call_len_seq (by rfl) T.len PySem.boot_len (pa_cons (pe_ix ix_tup (pv 2) pe_int (fun _ _ => rfl)) pa_nil)) pa_nil))))
      (pss_cons (ps_set (i := 4) scRt.nd rfl (Or.inl rfl) (pe_callTy (cr_dictP rfl hr.units) (by rfl) T.dict (by decide +kernel) (pa_cons (pe_lc (own := [("_law_pair", 9)]) rfl scRt.nd (pi_tup (pe_ix ix_tup (pe_ix ix_tup (pv 2) pe_int (fun _ _ => rfl)) (pe_un un_neg pe_int) (fun _ _ => rfl)))
          (blkOk_by (own := [("_law_pair", 9)]) (N := nRight) (sc := defScope sRight) (by decide +kernel))
          (fun _ _ _ _ _ => pgl 9 scRt.nd rfl rfl) (fun _ _ _ _ _ => pts_nil)
          (fun _ _ _ _ _ => pe_tup (pa_cons (pv 9) (pa_cons pe_bl pa_nil)))) pa_nil)))
      (pss_cons (ps_for PassesOwn.never rfl (pi_list (pe_call CC.ok (hr.mono (by decide)) rfl CC.at_ CC.kp CC.bd .nil pass0 (pa_cons (pv 0) pa_nil))) (pgn3 (K := K) 5 6 7 rfl rfl scRt.nd rfl rfl rfl rfl rfl rfl)
        (pss_one (ps_if (PW.pt (pw_or (PW.pt (pw_and (pt_cmpR op_le (pv 1) (pv 6) (nomark _)) (pw_and1 (pt_cmpR (op_ltA (K := K) rfl (Nat.lt_of_succ_lt hu)) (pe_tup (pa_cons (pv 6) (pa_cons (pv 7) pa_nil))) (pv 3) (nomark _)))))
          (pw_or1 (pt_cmp (pc_dnotin hu (pe_tup (pa_cons (pv 6) (pa_cons (pv 7) pa_nil))) (pv 4)) rfl))))
          (pss_one (ps_ret pe_bl)) pss_nil)))
      (pss_cons (ps_if (PW.pt (pw_or (pt_cmp (pc_dnotin hu (pv 3) (pv 4)) rfl) (pw_or1 (pt_cmpR (op_neD hu64) (pe_lock (pe_lc (own := [("_law_pair", 9)]) rfl scRt.nd (pi_keys (pv 4))
          (blkOk_by (own := [("_law_pair", 9)]) (N := nRight) (sc := defScope sRight) (by decide +kernel))
          (fun _ _ _ _ _ => pgl 9 scRt.nd rfl rfl)
          (fun _ _ _ _ _ => pts_one (PW.pt (pw_and (pt_cmpR op_ge (pe_ix (ix_tupK (K := K) rfl) (pv 9) pe_int (fun _ _ => rfl)) (pv 1) (nomark _)) (pw_and1 (pt_cmpR (op_ltA (K := K) rfl (Nat.lt_of_succ_lt hu)) (pv 9) (pv 3) (nomark _))))))
          (fun _ _ _ _ _ => pe_int))) (pe_lst pa_nil) (nomark _)))))
          (pss_one (ps_ret pe_bl)) pss_nil)
      (pss_one (ps_ret (pe_and (pe_cmpR op_ge (pe_ix ix_tup (pv 3) pe_int (fun _ _ => rfl)) (pv 1) (nomark _)) (pe_one (pe_cmpR op_isBl (pe_call CH.ok hr rfl CH.at_ CH.kp CH.bd .nil pass0 (pa_cons (pv 0) (pa_cons (pv 1) (pa_cons (pv 2) pa_nil)))) pe_bl (nomark _))))))))))), ?_⟩
    refine ⟨_, rfl, _, rfl, g, due, gs, rfl, hg, hlen, hpos, fun hd => ?_, fun hd H1 t c p cs R goal s1 ht hc hP told => ?_⟩
    · refine ⟨_, rfl, true, by simp, iteT ?_⟩
      refine ⟨_, rfl, g, gs, rfl, hg, _, rfl, _, _, rfl, rfl, ?_⟩
      dsimp only
      rw [decide_eq_true hd]
      exact k H (Same.refl H)
    refine ⟨_, rfl, false, by simp, iteF ?_⟩
    have told' := told
    obtain ⟨paper, choice, lp, lp1, lp2, lp3, lp4⟩ := told
    have hcb : ∀ x ∈ cs, x < gs.length := choice.bd
    have hcl : cs.length ≤ 8 := by
      have h1 := nodup_sub_len cs (List.range gs.length) (List.Pairwise.imp (fun {a b} (z : a < b) => Nat.ne_of_lt z) choice.ris) fun x hx => List.mem_range.mpr (hcb x hx)
      rw [List.length_range] at h1
      omega
    have hRl : R.length = gs.length + 1 := by
      have h1 := paper.len
      rw [List.length_map] at h1
      exact h1
    -- own
    refine ⟨_, rfl, t, _, 0, .ref c, rfl, rfl, sqT_at ht, rfl, c, rfl, ⟨_, hc⟩, ?_⟩
    intro D hD
    refine lc_it (walk_tup (xs := nv cs)) (Gr (RC gs cs) H1 D) (gr_start hD rfl) (fun i H3 _ G => sqT_same G.1 hc) ?_ ?_
    · rintro i v H3 H4 hi ⟨s3, acc, hacc, r⟩ ⟨rfl, hx⟩
      unfold nv at hx hi
      rw [List.getElem?_map] at hx
      obtain ⟨u, hu1, rfl⟩ := Option.map_eq_some_iff.mp hx
      have hub := hcb u (List.mem_of_getElem? hu1)
      have hgu : (gs.map V.int)[u]? = some (V.int (gs.getD u 0)) := by rw [List.getElem?_map, List.getElem?_eq_getElem hub, List.getD_eq_getElem?_getD, List.getElem?_eq_getElem hub]; rfl
      rw [List.length_map] at hi
      refine ⟨rfl, ?_⟩
      refine tyes ?_
      refine iteT ⟨_, rfl, _, rfl, g, _, (u : Nat), _, rfl, rfl, sqT_same (s1.trans s3) hg, atI_nat hgu, ?_⟩
      have ra : acc = _ := r
      refine gr_next hD s3 hacc (by rw [ra, List.length_map, List.length_map, List.length_take]; omega) ?_
      show _ = _
      rw [ra, take_snoc hu1, List.map_append, List.map_append]
      rfl
    rintro H3 ⟨s3, acc, hacc, r⟩
    have ra : acc = _ := r
    rw [show (nv cs).length = cs.length from List.length_map _, List.take_length] at ra
    refine ⟨D, (cs.map fun c => gs.getD c 0), rfl, .inl (.inl (by rw [hacc, ra])), ?_⟩
    rw [choice.one]
    refine ⟨_, rfl, t, _, 0, .ref c, rfl, rfl, sqT_at (s3 _ _ ht), rfl, c, _, rfl, .inr (sqT_same s3 hc), ?_⟩
    refine ⟨by show 2 ≤ sizeLine; decide, fun o ho => ?_⟩
    rw [show (nv cs).length = cs.length from List.length_map _, choice.two]
    have s4 : Same H1 (upd H3 o (.tup (pv2 goal))) := same_new s3 ho
    have hown : PrT (upd H3 o (.tup (pv2 goal))) o goal := upd_same
    show tSeq _ _ _ _ (upd H3 o (.tup (pv2 goal)))
    generalize upd H3 o (.tup (pv2 goal)) = H4 at s4 hown ⊢
    -- last
    obtain ⟨rl, hrl⟩ : ∃ rl, R[gs.length]? = some rl := ⟨_, List.getElem?_eq_getElem (by omega)⟩
    have rowl : (plainR R)[gs.length]? = some (rl.2.map (·.2)) := by rw [List.getElem?_map, hrl]; rfl
    have el : rl.2.map (·.2) = lp := Option.some.inj (rowl.symm.trans lp1)
    have rok := paper.row hpos _ _ rowl
    have rlen : rl.2.length ≤ 256 := by
      have h1 := rok.len
      rw [List.length_map] at h1
      have h3 : 2 ^ gs.length ≤ 2 ^ 8 := Nat.pow_le_pow_right (by decide) hlen
      omega
    have h4P := hP.same s4
    have hrw := h4P.2 rl (List.mem_of_getElem? hrl)
    refine ⟨_, rfl, t, _, 1, .ref p, rfl, rfl, sqT_at (s4 _ _ ht), rfl, _, rfl, p, _, _, .ref rl.1, rfl, rfl, h4P.1, atI_neg (by rw [List.length_map, hRl, List.getElem?_map, Nat.add_sub_cancel, hrl]; rfl), rl.1, rfl, ⟨_, hrw.1⟩, ?_⟩
    intro D2 hD2
    refine lc_it walk_tup (Gr (RD rl.2) H4 D2) (gr_start hD2 ⟨[], rfl, rfl, fun q hq => (by cases hq)⟩) (fun i H5 _ G => sqT_same G.1 hrw.1) ?_ ?_
    · rintro i v H5 H6 hi ⟨s5, acc2, hacc2, ps, e1, e2, e3⟩ ⟨rfl, hx⟩
      rw [List.getElem?_map] at hx
      obtain ⟨u, hu1, rfl⟩ := Option.map_eq_some_iff.mp hx
      rw [List.length_map] at hi
      refine ⟨rfl, ?_⟩
      refine tyes ?_
      refine iteT ⟨_, rfl, by show 2 ≤ sizeLine; decide, fun t' ht' => ?_⟩
      have tD : D2 ≠ t' := fun e => by rw [← e, hacc2] at ht'; cases ht'
      refine gr_next hD2 (same_new s5 ht') (by rw [upd_ne tD]; exact hacc2) (by rw [e1, List.length_map, ← List.length_map (f := (·.2)), e2, List.length_take]; omega) ⟨ps ++ [(t', u)], by rw [e1, List.map_append]; rfl, by rw [List.map_append, e2, take_snoc hu1]; rfl, fun q hq => ?_⟩
      rcases List.mem_append.mp hq with z | z
      · have h3 := e3 q z
        have n1 : q.1 ≠ D2 := fun e => by rw [e, hacc2] at h3; cases h3
        rw [upd_ne n1, upd_ne (ne_of_none h3 ht')]
        exact h3
      · rw [List.mem_singleton.mp z, upd_ne (Ne.symm tD)]
        exact upd_same
    rintro H5 ⟨s5, acc2, hacc2, ps, e1, e2, e3⟩
    rw [List.length_map, List.take_length] at e2
    have e4 : ps.map (·.2.2) = lp := by rw [← el, ← e2, List.map_map]; rfl
    refine ⟨D2, ps, rfl, by rw [hacc2, e1], fun q hq => ⟨e3 q hq, s5 _ _ (hrw.2 q.2 (by rw [← e2]; exact List.mem_map_of_mem hq))⟩, by rw [e4, ← el]; exact nodup_of_ris rok.ris, by rw [← List.length_map (f := (·.2)), e2]; omega, fun d hd => ?_⟩
    have e5 : ps.map (fun q => (pk q.2.2, V.bl true)) = lp.map (fun q => (pk q, V.bl true)) := by rw [← e4, List.map_map]; rfl
    rw [e5]
    have s6 : Same H4 (upd H5 d (.dT (lp.map fun q => (pk q, V.bl true)))) := same_new s5 hd
    have hd6 : (upd H5 d (.dT (lp.map fun q => (pk q, V.bl true)))) d = some (.dT (lp.map fun q => (pk q, V.bl true))) := upd_same
    generalize upd H5 d (.dT (lp.map fun q => (pk q, V.bl true))) = H6 at s6 hd6 ⊢
    -- the choices
    have s06 := (s1.trans s4).trans s6
    refine ⟨_, rfl, g, gs, rfl, sqT_same s06 hg, hlen, fun H7 l L s7 hl7 hL eL => ⟨l, rfl, ⟨_, SqL.of hl7⟩, ?_⟩⟩
    have lpm : ∀ q, q ∈ sums gs [((0, 0) : Pr)] ↔ q ∈ lp := by
      obtain ⟨lp', h1, h2⟩ := paper.last
      have e : lp' = lp := Option.some.inj (h1.symm.trans lp1)
      rw [← e]
      exact h2
    have s67 := s6.trans s7
    have hd7 := s7 _ _ hd6
    have hown7 : PrT H7 o goal := s67 _ _ hown
    refine for_list (K := K) (a := l) (xs := refs L) (fun i σ H' => ∃ v5 v6 v7, σ = [some (.ref g), some (.int due), some (.ref t), some (.ref o), some (.ref d), v5, v6, v7, none, none] ∧ Same H7 H') ⟨none, none, none, rfl, Same.refl H7⟩ (fun i σ H' _ ⟨_, _, _, _, s8⟩ => SqL.of (s8 _ _ hl7)) ?_ ?_
    · rintro i x σ H8 hx ⟨v5, v6, v7, rfl, s8⟩
      rw [List.getElem?_map] at hx
      obtain ⟨u, hu1, rfl⟩ := Option.map_eq_some_iff.mp hx
      have hm := List.mem_of_getElem? hu1
      obtain ⟨u1, u2, u3⟩ := (hL u hm).same s8 (Nat.le_refl 8)
      have hup : u.2.2.2 ∈ lp := (lpm _).1 (by rw [← eL]; exact List.mem_map_of_mem (f := fun q : Cho => q.2.2.2) hm)
      refine ⟨u.1, _, rfl, sqT_at u1, rfl, _, _, rfl, _, _, rfl, _, _, rfl, rfl, ?_⟩
      -- (sums, many) not in last
      have rest : ∀ H9, Same H7 H9 → ∀ t3, H9 t3 = none → ∃ a o', V.ref d = .ref a ∧ DGet (upd H9 t3 (.tup [.int u.2.2.2.1, .int u.2.2.2.2])) a (.ref t3) o' ∧ o'.isSome = true := fun H9 s9 t3 ht3 =>
        ⟨d, _, rfl, DGet.t (k := pk u.2.2.2) (same_new s9 ht3 _ _ hd7) upd_same, val_in hup⟩
      refine ⟨_, rfl, _, rfl, _, _, rfl, rfl, decide (due ≤ u.2.2.2.1), rfl, ?_⟩
      refine ite2 (fun hdu => ?_) (fun hdu => ?_)
      · refine ⟨_, rfl, _, rfl, by show 2 ≤ sizeLine; decide, fun t2 ht2 => ?_⟩
        have s9 := same_new (o := .tup [.int u.2.2.2.1, .int u.2.2.2.2]) s8 ht2
        refine ⟨_, rfl, .inr ⟨t2, o, lk u.2.2.2, lk goal, rfl, rfl, sqT_at upd_same, sqT_at (s9 _ _ hown7), _, rfl, ?_⟩⟩
        rw [lex_no (lp4 _ hup (of_decide_eq_true hdu))]
        refine iteF ?_
        refine ⟨_, rfl, _, rfl, by show 2 ≤ sizeLine; decide, fun t3 ht3 => ?_⟩
        obtain ⟨a, o', q1, q2, q3⟩ := rest _ s9 t3 ht3
        refine ⟨_, rfl, a, o', q1, q2, _, rfl, ?_⟩
        rw [q3]
        refine iteF ?_
        exact ⟨_, _, _, rfl, same_new s9 ht3⟩
      · refine iteF ?_
        refine ⟨_, rfl, _, rfl, by show 2 ≤ sizeLine; decide, fun t3 ht3 => ?_⟩
        obtain ⟨a, o', q1, q2, q3⟩ := rest _ s8 t3 ht3
        refine ⟨_, rfl, a, o', q1, q2, _, rfl, ?_⟩
        rw [q3]
        refine iteF ?_
        exact ⟨_, _, _, rfl, same_new s8 ht3⟩
    rintro σ H8 ⟨v5, v6, v7, rfl, s8⟩
    have hd8 := s8 _ _ hd7
    have hown8 : PrT H8 o goal := s8 _ _ hown7
    -- own not in last
    refine ⟨_, rfl, _, rfl, d, _, rfl, DGet.t (k := pk goal) hd8 hown8, _, rfl, ?_⟩
    rw [val_in lp2]
    refine iteF ?_
    -- [1 for pair in last if ..] != []
    refine ⟨d, _, hd8, trivial, fun od => ?_⟩
    have nod : o ≠ d := ne_of hown8 hd8 (by intro z; cases z)
    have but : ∀ b u, b ≠ d → H8 b = some u → (upd H8 d (.frz od (.dT (lp.map fun q => (pk q, V.bl true))))) b = some u := fun b u n e => by rw [upd_ne n]; exact e
    have hown9 : PrT (upd H8 d (.frz od (.dT (lp.map fun q => (pk q, V.bl true))))) o goal := but _ _ nod hown8
    have hd9 : (upd H8 d (.frz od (.dT (lp.map fun q => (pk q, V.bl true))))) d = some (.frz od (.dT (lp.map fun q => (pk q, V.bl true)))) := upd_same
    generalize upd H8 d (.frz od (.dT (lp.map fun q => (pk q, V.bl true)))) = H9 at but hown9 hd9 ⊢
    refine ⟨_, rfl, d, od, rfl, .inr ⟨_, hd9, ?_⟩⟩
    intro D3 hD3
    refine lc_it walk_keysT (Gr RN H9 D3) (gr_start hD3 rfl) (fun i H10 _ G => G.1 _ _ hd9) ?_ ?_
    · rintro i v H10 H11 hi ⟨s10, acc3, hacc3, r3⟩ ⟨rfl, k3, v3, q3, hk3, rfl, hq3⟩
      rw [List.getElem?_map] at hk3
      obtain ⟨u, hu1, e⟩ := Option.map_eq_some_iff.mp hk3
      injection e with ek ev
      subst ek
      have hup : u ∈ lp := List.mem_of_getElem? hu1
      have hpu : PrT H11 q3 u := hq3
      refine ⟨rfl, ?_⟩
      refine ⟨_, rfl, q3, _, 0, .int u.1, rfl, rfl, hpu.sq, rfl, _, rfl, _, _, rfl, rfl, decide (due ≤ u.1), rfl, ?_⟩
      refine ite2 (fun hdu => ?_) (fun hdu => ?_)
      · refine ⟨_, rfl, _, rfl, .inr ⟨q3, o, lk u, lk goal, rfl, rfl, hpu.sq, sqT_at (s10 _ _ hown9), _, rfl, ?_⟩⟩
        rw [lex_no (lp4 _ hup (of_decide_eq_true hdu))]
        exact gr_skip s10 hacc3 r3
      · exact gr_skip s10 hacc3 r3
    rintro H10 ⟨s10, acc3, hacc3, r3⟩
    have r3' : acc3 = [] := r3
    subst r3'
    have D3d : D3 ≠ d := fun e => by rw [e, hd9] at hD3; cases hD3
    refine ⟨s10 _ _ hd9, ?_⟩
    have s11 : Same H8 (upd H10 d (.dT (lp.map fun q => (pk q, V.bl true)))) := fun b u e => by
      by_cases n : b = d
      · subst n
        rw [hd8] at e
        rw [upd_same, ← e]
      · rw [upd_ne n]
        exact s10 b u (but b u n e)
    have hD11 : (upd H10 d (.dT (lp.map fun q => (pk q, V.bl true)))) D3 = some (.lst []) := by rw [upd_ne D3d]; exact hacc3
    generalize upd H10 d (.dT (lp.map fun q => (pk q, V.bl true))) = H11 at s11 hD11 ⊢
    refine ⟨by show 0 ≤ sizeLine; decide, fun e0 he0 => ?_⟩
    have s12 := same_new (o := .lst []) (Same.refl H11) he0
    refine ⟨.list [], .list [], .lst (SqL.of (s12 _ _ hD11)) .nil, .lst (SqL.of upd_same) .nil, by rfl, by rfl, _, rfl, ?_⟩
    have eq0 : PyData.eqv (.list []) (.list []) = true := by simp [PyData.eqv, PyData.eqvAll]
    rw [eq0]
    refine iteF ?_
    -- the end
    have s412 := (s67.trans s8).trans (s11.trans s12)
    refine ⟨_, rfl, o, _, 0, .int goal.1, rfl, rfl, sqT_at (s412 _ _ hown), rfl, _, rfl, _, _, rfl, rfl, decide (due ≤ goal.1), rfl, ?_⟩
    rw [decide_eq_true lp3]
    refine iteT ?_
    have s112 := s4.trans s412
    refine ⟨_, rfl, _, rfl, _, rfl, g, due, t, c, p, gs, cs, R, goal, rfl, sqT_same (s1.trans s112) hg, sqT_at (s112 _ _ ht), sqT_same s112 hc, hP.same s112, told', due1, hlen, hpos, fun H13 s13 => ?_⟩
    exact ⟨true, true, rfl, rfl, k _ ((s1.trans s112).trans s13)⟩
end
end K66
namespace K66
set_option linter.all false
set_option maxRecDepth 100000
set_option maxHeartbeats 8000000
open PySem L2
/-- a question: (grains, due), tracked -/
def AskAt (H : Hp) (v : V) : Prop := ∃ (t g : Addr) (x : Int) (gs : List Int), v = .ref t ∧ H t = some (.tup [.ref g, .int x]) ∧ H g = some (.tup (gs.map V.int)) ∧ gs.length ≤ 8 ∧ (∀ y ∈ gs, 1 ≤ y ∧ y ≤ 120000) ∧ 1 ≤ x
theorem AskAt.mv {H H' : Hp} {v : V} (s : TSt H H') (h : AskAt H v) : AskAt H' v := by
  obtain ⟨t, g, x, gs, h1, h2, h3, h4⟩ := h
  exact ⟨t, g, x, gs, h1, s _ _ h2, s _ _ h3, h4⟩
/-- a lot: a tuple of grains, tracked -/
def LotAt (H : Hp) (v : V) : Prop := ∃ (g : Addr) (gs : List Int), v = .ref g ∧ H g = some (.tup (gs.map V.int)) ∧ gs.length ≤ 8 ∧ ∀ y ∈ gs, 1 ≤ y ∧ y ≤ 120000
theorem LotAt.mv {H H' : Hp} {v : V} (s : TSt H H') (h : LotAt H v) : LotAt H' v := by
  obtain ⟨g, gs, h1, h2, h3⟩ := h
  exact ⟨g, gs, h1, s _ _ h2, h3⟩
/-- but d, and d was not there at first: all stands -/
theorem same_but {d : Addr} {H H1 H2 : Hp} (s : Same H H1) (hd : H d = none) (b : But d H1 H2) : Same H H2 := fun c o e => b c o (ne_of_none e hd) (s c o e)
theorem Same.none_of {H H' : Hp} (s : Same H H') {t : Addr} (h : H' t = none) : H t = none := by
  cases e : H t with
  | none => rfl
  | some o =>
    have := s t o e
    rw [h] at this
    cases this
/-- the questions that a row of the comprehension has -/
def GQ (d D : Addr) (H1 : Hp) (i : Nat) (H : Hp) : Prop := But d H1 H ∧ DeckAt H d ∧ ∃ acc, H D = some (.lst acc) ∧ acc.length = i ∧ ∀ v ∈ acc, AskAt H v
section
variable {P : Program} {w : World} {K : PySem.W.Frag} {mg : Str → Option Value} {base : Heap}
abbrev nLaw : List Str := ["_law_script", "_law_k", "_law_deck_here", "_law_lots", "_law_asked", "_law_turn", "_law_grains_here", "_law_due_here"]
theorem scLw : FnScope nLaw ["_law_script"] (defScope sLaw) := ⟨rfl, rfl, rfl, by decide +kernel, rfl, by decide +kernel, by decide +kernel⟩
def spLaw (K : PySem.W.Frag) : Sp := fun vs H Q _ => ∃ (a : Addr) (ns : List Int), vs = [.ref a] ∧ SqL K H a (ns.map V.int) ∧ ns.length ≤ 63 ∧ ∀ H', Q (.bl true) H'
theorem ok_law {f f1 f2 f3 f4 : Addr} {fd fd1 fd2 fd3 fd4 : FuncData} (F : Fun K "law" "law" sLaw f fd) (T : Txt mg) (CDk : Cal P w K mg base "_law_deck" 1 ["_law_script", "_law_k"] (spDeck K) f1 fd1) (CG : Cal P w K mg base "_law_grains" 2 ["_law_deck_here", "_law_least"] spGrains f2 fd2)
    (CDu : Cal P w K mg base "_law_due" 2 ["_law_deck_here", "_law_grains_here"] (spDue K) f3 fd3) (CR : Cal P w K mg base "_law_right" 5 ["_law_grains_here", "_law_due_here"] (spRight K) f4 fd4) : FnOk P w K mg base CX0 6 f fd ["_law_script"] (spLaw K) := by
  refine F.ok scLw (fun vs H Q E h => ?_) (fun cdv A outer s H vs Q E hr h => ?_)
  · obtain ⟨a, ns, rfl, _⟩ := h
    rfl
  · obtain ⟨a, ns, rfl, ha, hlen, k⟩ := h
    refine ⟨_, pss_cons (ps_for PassesOwn.never rfl (pi_range1 (by rfl) T.range (pa_cons (pe_callB (call_max2 rfl) (by rfl) T.max (by decide +kernel) (pa_cons pe_int (pa_cons (pe_callB (call_min2 rfl) (by rfl) T.min (by decide +kernel) (pa_cons (pe_callB call_len_seq (by rfl) T.len PySem.boot_len (pa_cons (pv 0) pa_nil)) (pa_cons pe_int pa_nil))) pa_nil))) pa_nil))
        (pg_name (i := 1) scLw.nd rfl (Or.inl rfl))
        (pss_cons (ps_set (i := 2) scLw.nd rfl (Or.inr rfl) (pe_call CDk.ok (hr.mono (by decide)) rfl CDk.at_ CDk.kp CDk.bd .nil pass0 (pa_cons (pv 0) (pa_cons (pv 1) pa_nil))))
        (pss_cons (ps_set (i := 3) scLw.nd rfl (Or.inl rfl) (pe_lst (pa_cons (pe_call CG.ok (hr.mono (by decide)) rfl CG.at_ CG.kp CG.bd .nil pass0 (pa_cons (pv 2) (pa_cons pe_int pa_nil))) (pa_cons (pe_call CG.ok (hr.mono (by decide)) rfl CG.at_ CG.kp CG.bd .nil pass0 (pa_cons (pv 2) (pa_cons pe_int pa_nil))) pa_nil))))
        (pss_cons (ps_set (i := 4) scLw.nd rfl (Or.inl rfl) (pe_lst pa_nil))
        (pss_cons (ps_for PassesOwn.never rfl (pi_range1 (by rfl) T.range (pa_cons pe_int pa_nil)) (pg_name (i := 5) scLw.nd rfl (Or.inl rfl))
          (pss_one (ps_expr (pe_bm PySem.F.plainAttrs_list PySem.F.slot_list_extend PySem.F.type_list_extend mt_extend (pv 4) (pa_cons (pe_lc (own := [("_law_grains_here", 6)]) rfl scLw.nd (pi_list (pv 3))
            (blkOk_by (own := [("_law_grains_here", 6)]) (N := nLaw) (sc := defScope sLaw) (by decide +kernel))
            (fun _ _ _ _ _ => pgl 6 scLw.nd rfl rfl) (fun _ _ _ _ _ => pts_nil)
            (fun _ _ _ _ _ => pe_tup (pa_cons (pv 6) (pa_cons (pe_call CDu.ok (hr.mono (by decide)) rfl CDu.at_ CDu.kp CDu.bd .nil pass0 (pa_cons (pv 2) (pa_cons (pv 6) pa_nil))) pa_nil)))) pa_nil)))))
        (pss_one (ps_for PassesOwn.never rfl (pi_list (pe_op op_cat (pv 4) (pe_slice sl_list (pv 4) po_none (po_some pe_int)))) (pgn2 (K := K) 6 7 rfl rfl scLw.nd rfl rfl rfl rfl)
          (pss_one (ps_if (pt_not (pt_val (pe_call CR.ok hr rfl CR.at_ CR.kp CR.bd .nil pass0 (pa_cons (pv 6) (pa_cons (pv 7) pa_nil)))))
            (pss_one (ps_ret pe_bl)) pss_nil)))))))))
      (pss_one (ps_ret pe_bl)), ?_⟩
    refine ⟨_, rfl, a, _, rfl, .inl ha, _, _, rfl, _, _, rfl, _, rfl, by rw [List.length_map]; split <;> split <;> omega, by rw [List.length_map]; split <;> split <;> omega, ?_⟩
    refine for_range (fun i σ H' => ∃ (v1 v2 v3 v4 v5 v6 v7 : Option V), σ = [some (.ref a), v1, v2, v3, v4, v5, v6, v7] ∧ Same H H')
      ⟨none, none, none, none, none, none, none, rfl, Same.refl H⟩ ?_ ?_
    · rintro i σ H0 hi ⟨v1, v2, v3, v4, v5, v6, v7, rfl, s0⟩
      -- deck
      refine ⟨_, rfl, _, rfl, a, ns, _, rfl, s0.seq ha, by omega, fun H1 d s1 hd0 hd => ?_⟩
      -- lots
      refine ⟨_, rfl, d, rfl, hd, fun H2 g1 gs1 b2 d2 hg1 hg1' hn1 hl1 hb1 => ?_⟩
      refine ⟨_, rfl, d, rfl, d2, fun H3 g2 gs2 b3 d3 hg2 hg2' hn2 hl2 hb2 => ?_⟩
      refine ⟨by show 2 ≤ sizeLine; decide, fun l hl => ?_⟩
      have L3 : ∀ v ∈ [V.ref g1, V.ref g2], LotAt H3 v := fun v hv => by
        rcases List.mem_cons.mp hv with z | z
        · exact ⟨g1, gs1, z, b3.tup d2 _ _ hg1', hl1, hb1⟩
        · exact ⟨g2, gs2, List.mem_singleton.mp z, hg2', hl2, hb2⟩
      have s4 : Same H3 (upd H3 l (.lst [.ref g1, .ref g2])) := same_new (Same.refl H3) hl
      have L4 : ∀ v ∈ [V.ref g1, V.ref g2], LotAt (upd H3 l (.lst [.ref g1, .ref g2])) v := fun v hv => (L3 v hv).mv (TSt.of s4)
      have hl4 : (upd H3 l (.lst [.ref g1, .ref g2])) l = some (.lst [.ref g1, .ref g2]) := upd_same
      have d4 := d3.same s4
      have b14 := (b2.trans b3).trans (But.of (d := d) s4)
      have hlz := d3.ne hl
      generalize upd H3 l (.lst [.ref g1, .ref g2]) = H4 at s4 L4 hl4 d4 b14 ⊢
      -- asked
      refine ⟨by show 0 ≤ sizeLine; decide, fun q hq => ?_⟩
      have s5 : Same H4 (upd H4 q (.lst [])) := same_new (Same.refl H4) hq
      have hq5 : (upd H4 q (.lst [])) q = some (.lst []) := upd_same
      have L5 : ∀ v ∈ [V.ref g1, V.ref g2], LotAt (upd H4 q (.lst [])) v := fun v hv => (L4 v hv).mv (TSt.of s5)
      have hl5 := s5 _ _ hl4
      have d5 := d4.same s5
      have hqz := d4.ne hq
      have nql : q ≠ l := fun e => by rw [e, hl4] at hq; cases hq
      have hd00 : H d = none := Same.none_of s0 hd0
      have hq0 : H q = none := Same.none_of (same_but (s0.trans s1) hd00 b14) hq
      have s05 : Same H (upd H4 q (.lst [])) := (same_but (s0.trans s1) hd00 b14).trans s5
      generalize upd H4 q (.lst []) = H5 at s5 hq5 L5 hl5 d5 s05 ⊢
      refine ⟨_, rfl, by decide, by decide, ?_⟩
      refine for_range (fun j σ H' => ∃ (acc : List V) (v5' : Option V), σ = [some (.ref a), some (.int (0 + (i : Nat))), some (.ref d), some (.ref l), some (.ref q), v5', v6, v7] ∧ Same H H' ∧ DeckAt H' d ∧ TSt H5 H' ∧ H' l = some (.lst [.ref g1, .ref g2]) ∧ H' q = some (.lst acc) ∧ acc.length = 2 * j ∧ ∀ v ∈ acc, AskAt H' v)
        ⟨[], v5, rfl, s05, d5, fun _ _ e => e, hl5, hq5, rfl, fun v hv => (by cases hv)⟩ ?_ ?_
      · rintro j σ H6 hj ⟨acc, v5', rfl, s6, d6, t6, hl6, hq6, hac, hask⟩
        refine ⟨_, rfl, .inl ⟨rfl, _, SqL.of hq6⟩, _, rfl, l, rfl, ⟨_, SqL.of hl6⟩, ?_⟩
        intro D hD
        have nDd : D ≠ d := d6.ne hD
        refine lc_it (walk_list (xs := [V.ref g1, V.ref g2])) (GQ d D H6) ⟨(But.refl d H6).new hD, d6.new hD, [], upd_same, rfl, fun v hv => (by cases hv)⟩ (fun m H7 _ G => SqL.of (G.1.lst hl6 hlz)) ?_ ?_
        · rintro m v H7 H8 hm ⟨b7, d7, acc7, hacc7, len7, ask7⟩ ⟨rfl, hx⟩
          obtain ⟨g, gs, rfl, hg, hgl, hgb⟩ := (L5 v (List.mem_of_getElem? hx)).mv (t6.trans (b7.tup d6))
          have hm2 : m < 2 := hm
          refine ⟨rfl, ?_⟩
          refine tyes ?_
          refine iteT ⟨_, rfl, _, rfl, _, rfl, d, g, gs, rfl, d7, sqT_at hg, hgl, hgb, fun H9 r b9 d9 hr1 => ?_⟩
          refine ⟨by show 2 ≤ sizeLine; decide, fun t ht => ?_⟩
          have d10 := d9.new (o := .tup [.ref g, .int r]) ht
          have b10 := (b7.trans b9).new (o := .tup [.ref g, .int r]) ht
          have t10 : TSt H8 (upd H9 t (.tup [.ref g, .int r])) := (b9.tup d7).trans (TSt.of (same_new (Same.refl H9) ht))
          have hg10 : (upd H9 t (.tup [.ref g, .int r])) g = some (.tup (gs.map V.int)) := t10 _ _ hg
          have hD10 : (upd H9 t (.tup [.ref g, .int r])) D = some (.lst acc7) := (b9.new ht).lst hacc7 nDd
          have ht10 : (upd H9 t (.tup [.ref g, .int r])) t = some (.tup [.ref g, .int r]) := upd_same
          generalize upd H9 t (.tup [.ref g, .int r]) = H10 at d10 b10 t10 hg10 hD10 ht10 ⊢
          have tD := tst_at (o := .lst (acc7 ++ [.ref t])) hD10
          refine ⟨acc7, hD10, by rw [len7]; exact Nat.lt_of_le_of_lt (by omega : _ ≤ 100) (by decide), But.at_ b10 hD, ?_, acc7 ++ [.ref t], upd_same, by rw [List.length_append, len7]; rfl, fun v hv => ?_⟩
          · obtain ⟨x, y, z, q1, q2⟩ := d10
            exact ⟨x, y, z, by rw [upd_ne (Ne.symm nDd)]; exact q1, q2⟩
          · rcases List.mem_append.mp hv with z | z
            · exact (ask7 v z).mv (t10.trans tD)
            · exact ⟨t, g, r, gs, List.mem_singleton.mp z, tD _ _ ht10, tD _ _ hg10, hgl, hgb, hr1⟩
        rintro H7 ⟨b7, d7, acc7, hacc7, len7, ask7⟩
        have hq7 := b7.lst hq6 hqz
        have tq := tst_at (o := .lst (acc ++ acc7)) hq7
        refine ⟨q, D, acc, acc7, rfl, rfl, hq7, hacc7, by rw [hac, len7]; exact Nat.le_trans (show 2 * j + 2 ≤ 100 by have : j < 3 := hj; omega) (by decide), ?_⟩
        refine ⟨acc ++ acc7, _, rfl, ?_, ?_, (t6.trans (b7.tup d6)).trans tq, ?_, upd_same, by rw [List.length_append, hac, len7]; rfl, fun v hv => ?_⟩
        · exact same_at (same_but s6 hd00 b7) hq0
        · obtain ⟨x, y, z, q1, q2⟩ := d7
          exact ⟨x, y, z, by rw [upd_ne (Ne.symm hqz)]; exact q1, q2⟩
        · rw [upd_ne (Ne.symm nql)]
          exact b7.lst hl6 hlz
        · rcases List.mem_append.mp hv with z | z
          · exact (hask v z).mv ((b7.tup d6).trans tq)
          · exact (ask7 v z).mv tq
      rintro σ H6 ⟨acc, v5', rfl, s6, d6, t6, hl6, hq6, hac, hask⟩
      refine ⟨_, rfl, _, rfl, _, rfl, q, _, rfl, SqL.of hq6, fun p hp => ?_⟩
      have s7 : Same H6 (upd H6 p (.lst (cutV acc none (some 2)))) := same_new (Same.refl H6) hp
      have hq7 := s7 _ _ hq6
      have hp7 : (upd H6 p (.lst (cutV acc none (some 2)))) p = some (.lst (cutV acc none (some 2))) := upd_same
      generalize upd H6 p (.lst (cutV acc none (some 2))) = H7 at s7 hq7 hp7 ⊢
      have hac6 : acc.length = 6 := hac
      have hcl := cutV_length acc none (some 2)
      refine ⟨q, p, _, _, rfl, rfl, hq7, hp7, Nat.le_trans (by omega : _ ≤ 100) (by decide), fun z hz => ⟨z, rfl, ⟨_, SqL.of upd_same⟩, ?_⟩⟩
      have s8 : Same H7 (upd H7 z (.lst (acc ++ cutV acc none (some 2)))) := same_new (Same.refl H7) hz
      have hz8 : (upd H7 z (.lst (acc ++ cutV acc none (some 2)))) z = some (.lst (acc ++ cutV acc none (some 2))) := upd_same
      generalize upd H7 z (.lst (acc ++ cutV acc none (some 2))) = H8 at s8 hz8 ⊢
      have ask8 : ∀ v ∈ acc ++ cutV acc none (some 2), AskAt H8 v := fun v hv => by
        have hv' : v ∈ acc := by
          rcases List.mem_append.mp hv with y | y
          · exact y
          · exact List.mem_of_mem_drop (List.mem_of_mem_take y)
        exact (hask v hv').mv (TSt.of (s7.trans s8))
      refine for_list (K := K) (a := z) (fun j σ H' => ∃ (v6 v7 : Option V), σ = [some (.ref a), some (.int (0 + (i : Nat))), some (.ref d), some (.ref l), some (.ref q), v5', v6, v7] ∧ Same H8 H')
        ⟨v6, v7, rfl, Same.refl H8⟩ (fun j σ H' _ ⟨_, _, _, s9⟩ => SqL.of (s9 _ _ hz8)) ?_ ?_
      · rintro j x σ H9 hx ⟨w6, w7, rfl, s9⟩
        obtain ⟨t, g, r, gs, rfl, ht, hg, hgl, hgb, hr1⟩ := (ask8 x (List.mem_of_getElem? hx)).mv (TSt.of s9)
        refine ⟨t, _, rfl, sqT_at ht, rfl, _, _, rfl, _, _, rfl, rfl, ?_⟩
        refine ⟨_, rfl, _, rfl, g, r, gs, rfl, sqT_at hg, hgl, hgb, hr1, fun H10 s10 => ?_⟩
        refine ⟨true, rfl, iteF ?_⟩
        exact ⟨_, _, rfl, s9.trans s10⟩
      · rintro σ H9 ⟨w6, w7, rfl, s9⟩
        exact ⟨_, _, _, _, _, _, _, rfl, (((s6.trans s7).trans s8)).trans s9⟩
    · rintro σ H' ⟨v1, v2, v3, v4, v5, v6, v7, rfl, s0⟩
      exact k H'
end
end K66
namespace K66
set_option linter.all false
set_option maxRecDepth 100000
set_option maxHeartbeats 8000000
open PySem L2
/-! ### what the top has written, the head -/
theorem all_mk {l : PySem.W.OpenLaw} {w : World} {K : PySem.W.Frag} {h : Heap} {mg : Str → Option Value} {fa : Addr} (X : K.In h) (G : h.Ns mainGlobals mg) (hfa : mg "law" = some (.ref fa))
    {fW fRi fN fP fPR fL fH fRO fCB fFN fDk fDr fGr fCh fDu fRt fLw : Addr} {odW anW odRi anRi odN anN odP anP odPR anPR odL anL odH anH odRO anRO odCB anCB odFN anFN odDk anDk odDr anDr odGr anGr odCh anCh odDu anDu odRt anRt odLw anLw : Option Addr} {slW slRi slN slP slPR slL slH slRO slCB slFN slDk slDr slGr slCh slDu slRt slLw : Array (Option Value)}
    {ocW kVW dcW pmW cdW ctW ocRi kVRi dcRi pmRi cdRi ctRi ocN kVN dcN pmN cdN ctN ocP kVP dcP pmP cdP ctP ocPR kVPR dcPR pmPR cdPR ctPR ocL kVL dcL pmL cdL ctL ocH kVH dcH pmH cdH ctH ocRO kVRO dcRO pmRO cdRO ctRO ocCB kVCB dcCB pmCB cdCB ctCB ocFN kVFN dcFN pmFN cdFN ctFN ocDk kVDk dcDk pmDk cdDk ctDk ocDr kVDr dcDr pmDr cdDr ctDr ocGr kVGr dcGr pmGr cdGr ctGr ocCh kVCh dcCh pmCh cdCh ctCh ocDu kVDu dcDu pmDu cdDu ctDu ocRt kVRt dcRt pmRt cdRt ctRt ocLw kVLw dcLw pmLw cdLw ctLw : Value}
    (aW : PySem.W.nsIn K mainGlobals "is_whole" = some (some (.ref fW))) (lW : K.lookup fW = some ⟨ocW, odW, .func (PySem.W.fnOf "is_whole" "is_whole" (defArgs sWhole) (defBody sWhole) (defScope sWhole) .none kVW dcW pmW anW cdW ctW), slW⟩) (cW : PySem.W.codeIn K cdW "is_whole" = true) (kW : PySem.W.keepIn K (.ref fW) = true)
    (aRi : PySem.W.nsIn K mainGlobals "are_rising" = some (some (.ref fRi))) (lRi : K.lookup fRi = some ⟨ocRi, odRi, .func (PySem.W.fnOf "are_rising" "are_rising" (defArgs sRising) (defBody sRising) (defScope sRising) .none kVRi dcRi pmRi anRi cdRi ctRi), slRi⟩) (cRi : PySem.W.codeIn K cdRi "are_rising" = true) (kRi : PySem.W.keepIn K (.ref fRi) = true)
    (aN : PySem.W.nsIn K mainGlobals "are_numbers" = some (some (.ref fN))) (lN : K.lookup fN = some ⟨ocN, odN, .func (PySem.W.fnOf "are_numbers" "are_numbers" (defArgs sNumbers) (defBody sNumbers) (defScope sNumbers) .none kVN dcN pmN anN cdN ctN), slN⟩) (cN : PySem.W.codeIn K cdN "are_numbers" = true) (kN : PySem.W.keepIn K (.ref fN) = true)
    (aP : PySem.W.nsIn K mainGlobals "is_sum_pair" = some (some (.ref fP))) (lP : K.lookup fP = some ⟨ocP, odP, .func (PySem.W.fnOf "is_sum_pair" "is_sum_pair" (defArgs sPair) (defBody sPair) (defScope sPair) .none kVP dcP pmP anP cdP ctP), slP⟩) (cP : PySem.W.codeIn K cdP "is_sum_pair" = true) (kP : PySem.W.keepIn K (.ref fP) = true)
    (aPR : PySem.W.nsIn K mainGlobals "is_paper_row" = some (some (.ref fPR))) (lPR : K.lookup fPR = some ⟨ocPR, odPR, .func (PySem.W.fnOf "is_paper_row" "is_paper_row" (defArgs sPRow) (defBody sPRow) (defScope sPRow) .none kVPR dcPR pmPR anPR cdPR ctPR), slPR⟩) (cPR : PySem.W.codeIn K cdPR "is_paper_row" = true) (kPR : PySem.W.keepIn K (.ref fPR) = true)
    (aL : PySem.W.nsIn K mainGlobals "leads_on" = some (some (.ref fL))) (lL : K.lookup fL = some ⟨ocL, odL, .func (PySem.W.fnOf "leads_on" "leads_on" (defArgs sLeads) (defBody sLeads) (defScope sLeads) .none kVL dcL pmL anL cdL ctL), slL⟩) (cL : PySem.W.codeIn K cdL "leads_on" = true) (kL : PySem.W.keepIn K (.ref fL) = true)
    (aH : PySem.W.nsIn K mainGlobals "few_holds" = some (some (.ref fH))) (lH : K.lookup fH = some ⟨ocH, odH, .func (PySem.W.fnOf "few_holds" "few_holds" (defArgs sHolds) (defBody sHolds) (defScope sHolds) .none kVH dcH pmH anH cdH ctH), slH⟩) (cH : PySem.W.codeIn K cdH "few_holds" = true) (kH : PySem.W.keepIn K (.ref fH) = true)
    (aRO : PySem.W.nsIn K mainGlobals "rows_of" = some (some (.ref fRO))) (lRO : K.lookup fRO = some ⟨ocRO, odRO, .func (PySem.W.fnOf "rows_of" "rows_of" (defArgs sRows) (defBody sRows) (defScope sRows) .none kVRO dcRO pmRO anRO cdRO ctRO), slRO⟩) (cRO : PySem.W.codeIn K cdRO "rows_of" = true) (kRO : PySem.W.keepIn K (.ref fRO) = true)
    (aCB : PySem.W.nsIn K mainGlobals "chosen_by" = some (some (.ref fCB))) (lCB : K.lookup fCB = some ⟨ocCB, odCB, .func (PySem.W.fnOf "chosen_by" "chosen_by" (defArgs sChosen) (defBody sChosen) (defScope sChosen) .none kVCB dcCB pmCB anCB cdCB ctCB), slCB⟩) (cCB : PySem.W.codeIn K cdCB "chosen_by" = true) (kCB : PySem.W.keepIn K (.ref fCB) = true)
    (aFN : PySem.W.nsIn K mainGlobals "few_notes" = some (some (.ref fFN))) (lFN : K.lookup fFN = some ⟨ocFN, odFN, .func (PySem.W.fnOf "few_notes" "few_notes" (defArgs sFew) (defBody sFew) (defScope sFew) .none kVFN dcFN pmFN anFN cdFN ctFN), slFN⟩) (cFN : PySem.W.codeIn K cdFN "few_notes" = true) (kFN : PySem.W.keepIn K (.ref fFN) = true)
    (aDk : PySem.W.nsIn K mainGlobals "_law_deck" = some (some (.ref fDk))) (lDk : K.lookup fDk = some ⟨ocDk, odDk, .func (PySem.W.fnOf "_law_deck" "_law_deck" (defArgs sDeck) (defBody sDeck) (defScope sDeck) .none kVDk dcDk pmDk anDk cdDk ctDk), slDk⟩) (cDk : PySem.W.codeIn K cdDk "_law_deck" = true) (kDk : PySem.W.keepIn K (.ref fDk) = true)
    (aDr : PySem.W.nsIn K mainGlobals "_law_draw" = some (some (.ref fDr))) (lDr : K.lookup fDr = some ⟨ocDr, odDr, .func (PySem.W.fnOf "_law_draw" "_law_draw" (defArgs sDraw) (defBody sDraw) (defScope sDraw) .none kVDr dcDr pmDr anDr cdDr ctDr), slDr⟩) (cDr : PySem.W.codeIn K cdDr "_law_draw" = true) (kDr : PySem.W.keepIn K (.ref fDr) = true)
    (aGr : PySem.W.nsIn K mainGlobals "_law_grains" = some (some (.ref fGr))) (lGr : K.lookup fGr = some ⟨ocGr, odGr, .func (PySem.W.fnOf "_law_grains" "_law_grains" (defArgs sGrains) (defBody sGrains) (defScope sGrains) .none kVGr dcGr pmGr anGr cdGr ctGr), slGr⟩) (cGr : PySem.W.codeIn K cdGr "_law_grains" = true) (kGr : PySem.W.keepIn K (.ref fGr) = true)
    (aCh : PySem.W.nsIn K mainGlobals "_law_choices" = some (some (.ref fCh))) (lCh : K.lookup fCh = some ⟨ocCh, odCh, .func (PySem.W.fnOf "_law_choices" "_law_choices" (defArgs sChoices) (defBody sChoices) (defScope sChoices) .none kVCh dcCh pmCh anCh cdCh ctCh), slCh⟩) (cCh : PySem.W.codeIn K cdCh "_law_choices" = true) (kCh : PySem.W.keepIn K (.ref fCh) = true)
    (aDu : PySem.W.nsIn K mainGlobals "_law_due" = some (some (.ref fDu))) (lDu : K.lookup fDu = some ⟨ocDu, odDu, .func (PySem.W.fnOf "_law_due" "_law_due" (defArgs sDue) (defBody sDue) (defScope sDue) .none kVDu dcDu pmDu anDu cdDu ctDu), slDu⟩) (cDu : PySem.W.codeIn K cdDu "_law_due" = true) (kDu : PySem.W.keepIn K (.ref fDu) = true)
    (aRt : PySem.W.nsIn K mainGlobals "_law_right" = some (some (.ref fRt))) (lRt : K.lookup fRt = some ⟨ocRt, odRt, .func (PySem.W.fnOf "_law_right" "_law_right" (defArgs sRight) (defBody sRight) (defScope sRight) .none kVRt dcRt pmRt anRt cdRt ctRt), slRt⟩) (cRt : PySem.W.codeIn K cdRt "_law_right" = true) (kRt : PySem.W.keepIn K (.ref fRt) = true)
    (aLw : PySem.W.nsIn K mainGlobals "law" = some (some (.ref fLw))) (lLw : K.lookup fLw = some ⟨ocLw, odLw, .func (PySem.W.fnOf "law" "law" (defArgs sLaw) (defBody sLaw) (defScope sLaw) .none kVLw dcLw pmLw anLw cdLw ctLw), slLw⟩) (cLw : PySem.W.codeIn K cdLw "law" = true) (kLw : PySem.W.keepIn K (.ref fLw) = true)
    (z0 : PySem.W.nsIn K mainGlobals "len" = some none) (z1 : PySem.W.nsIn K mainGlobals "sorted" = some none) (z2 : PySem.W.nsIn K mainGlobals "set" = some none) (z3 : PySem.W.nsIn K mainGlobals "list" = some none) (z4 : PySem.W.nsIn K mainGlobals "tuple" = some none) (z5 : PySem.W.nsIn K mainGlobals "range" = some none) (z6 : PySem.W.nsIn K mainGlobals "sum" = some none) (z7 : PySem.W.nsIn K mainGlobals "min" = some none) (z8 : PySem.W.nsIn K mainGlobals "max" = some none) (z9 : PySem.W.nsIn K mainGlobals "isinstance" = some none) (z10 : PySem.W.nsIn K mainGlobals "int" = some none) (z11 : PySem.W.nsIn K mainGlobals "bool" = some none) (z12 : PySem.W.nsIn K mainGlobals "all" = some none) (z13 : PySem.W.nsIn K mainGlobals "any" = some none) (z14 : PySem.W.nsIn K mainGlobals "zip" = some none) (z15 : PySem.W.nsIn K mainGlobals "dict" = some none) (z16 : PySem.W.nsIn K mainGlobals "enumerate" = some none) :
    ∃ fd : FuncData, (∀ (s : Shared) (v : Value), BindsTo s fd ⟨[v], []⟩ [("_law_script", v)]) ∧ ∀ base : Heap, K.In base → base.Ns mainGlobals mg → FnOk l.prog w K mg base CX0 6 fa fd ["_law_script"] (spLaw K) := by
  have e := hfa.symm.trans (PySem.W.mg_of X G aLw)
  cases e
  have T : Txt mg := ⟨PySem.W.mg_none_of X G z0, PySem.W.mg_none_of X G z1, PySem.W.mg_none_of X G z2, PySem.W.mg_none_of X G z3, PySem.W.mg_none_of X G z4, PySem.W.mg_none_of X G z5, PySem.W.mg_none_of X G z6, PySem.W.mg_none_of X G z7, PySem.W.mg_none_of X G z8, PySem.W.mg_none_of X G z9, PySem.W.mg_none_of X G z10, PySem.W.mg_none_of X G z11, PySem.W.mg_none_of X G z12, PySem.W.mg_none_of X G z13, PySem.W.mg_none_of X G z14, PySem.W.mg_none_of X G z15, PySem.W.mg_none_of X G z16⟩
  have FW := fun_mk (st := sWhole) lW cW kW
  have bW := FW.binds (ps := ["thing"]) fun _ _ _ _ _ _ us hl => match us, hl with | [_], _ => rfl
  have FRi := fun_mk (st := sRising) lRi cRi kRi
  have bRi := FRi.binds (ps := ["thing"]) fun _ _ _ _ _ _ us hl => match us, hl with | [_], _ => rfl
  have FN := fun_mk (st := sNumbers) lN cN kN
  have bN := FN.binds (ps := ["many", "thing"]) fun _ _ _ _ _ _ us hl => match us, hl with | [_, _], _ => rfl
  have FP := fun_mk (st := sPair) lP cP kP
  have bP := FP.binds (ps := ["thing"]) fun _ _ _ _ _ _ us hl => match us, hl with | [_], _ => rfl
  have FPR := fun_mk (st := sPRow) lPR cPR kPR
  have bPR := FPR.binds (ps := ["thing"]) fun _ _ _ _ _ _ us hl => match us, hl with | [_], _ => rfl
  have FL := fun_mk (st := sLeads) lL cL kL
  have bL := FL.binds (ps := ["row", "one", "behind"]) fun _ _ _ _ _ _ us hl => match us, hl with | [_, _, _], _ => rfl
  have FH := fun_mk (st := sHolds) lH cH kH
  have bH := FH.binds (ps := ["grains", "due", "thing"]) fun _ _ _ _ _ _ us hl => match us, hl with | [_, _, _], _ => rfl
  have FRO := fun_mk (st := sRows) lRO cRO kRO
  have bRO := FRO.binds (ps := ["grains"]) fun _ _ _ _ _ _ us hl => match us, hl with | [_], _ => rfl
  have FCB := fun_mk (st := sChosen) lCB cCB kCB
  have bCB := FCB.binds (ps := ["grains", "rows", "goal"]) fun _ _ _ _ _ _ us hl => match us, hl with | [_, _, _], _ => rfl
  have FFN := fun_mk (st := sFew) lFN cFN kFN
  have bFN := FFN.binds (ps := ["grains", "due"]) fun _ _ _ _ _ _ us hl => match us, hl with | [_, _], _ => rfl
  have FDk := fun_mk (st := sDeck) lDk cDk kDk
  have bDk := FDk.binds (ps := ["_law_script", "_law_k"]) fun _ _ _ _ _ _ us hl => match us, hl with | [_, _], _ => rfl
  have FDr := fun_mk (st := sDraw) lDr cDr kDr
  have bDr := FDr.binds (ps := ["_law_deck_here", "_law_most"]) fun _ _ _ _ _ _ us hl => match us, hl with | [_, _], _ => rfl
  have FGr := fun_mk (st := sGrains) lGr cGr kGr
  have bGr := FGr.binds (ps := ["_law_deck_here", "_law_least"]) fun _ _ _ _ _ _ us hl => match us, hl with | [_, _], _ => rfl
  have FCh := fun_mk (st := sChoices) lCh cCh kCh
  have bCh := FCh.binds (ps := ["_law_grains_here"]) fun _ _ _ _ _ _ us hl => match us, hl with | [_], _ => rfl
  have FDu := fun_mk (st := sDue) lDu cDu kDu
  have bDu := FDu.binds (ps := ["_law_deck_here", "_law_grains_here"]) fun _ _ _ _ _ _ us hl => match us, hl with | [_, _], _ => rfl
  have FRt := fun_mk (st := sRight) lRt cRt kRt
  have bRt := FRt.binds (ps := ["_law_grains_here", "_law_due_here"]) fun _ _ _ _ _ _ us hl => match us, hl with | [_, _], _ => rfl
  have FLw := fun_mk (st := sLaw) lLw cLw kLw
  refine ⟨PySem.W.fnOf "law" "law" (defArgs sLaw) (defBody sLaw) (defScope sLaw) .none kVLw dcLw pmLw anLw cdLw ctLw, fun s v => .of_eq rfl, fun base _ _ => ?_⟩
  have CW : Cal l.prog w K mg base "is_whole" 1 ["thing"] spWhole fW _ := ⟨PySem.W.mg_of X G aW, kW, bW, ok_whole FW T⟩
  have CRi : Cal l.prog w K mg base "are_rising" 1 ["thing"] (spRising K) fRi _ := ⟨PySem.W.mg_of X G aRi, kRi, bRi, ok_rising FRi T⟩
  have CN : Cal l.prog w K mg base "are_numbers" 2 ["many", "thing"] (spNumbers K) fN _ := ⟨PySem.W.mg_of X G aN, kN, bN, ok_numbers FN T CW CRi⟩
  have CP : Cal l.prog w K mg base "is_sum_pair" 2 ["thing"] spPair fP _ := ⟨PySem.W.mg_of X G aP, kP, bP, ok_pair FP T CW⟩
  have CPR : Cal l.prog w K mg base "is_paper_row" 3 ["thing"] (spPRow K) fPR _ := ⟨PySem.W.mg_of X G aPR, kPR, bPR, ok_prow FPR T CP CRi⟩
  have CL : Cal l.prog w K mg base "leads_on" 1 ["row", "one", "behind"] (spLeads K) fL _ := ⟨PySem.W.mg_of X G aL, kL, bL, ok_leads FL T⟩
  have CH : Cal l.prog w K mg base "few_holds" 4 ["grains", "due", "thing"] (spHolds K) fH _ := ⟨PySem.W.mg_of X G aH, kH, bH, ok_holds FH T CN CPR CL⟩
  have CRO : Cal l.prog w K mg base "rows_of" 1 ["grains"] (spRows K) fRO _ := ⟨PySem.W.mg_of X G aRO, kRO, bRO, ok_rows FRO T⟩
  have CCB : Cal l.prog w K mg base "chosen_by" 1 ["grains", "rows", "goal"] (spChosen K) fCB _ := ⟨PySem.W.mg_of X G aCB, kCB, bCB, ok_chosen FCB T⟩
  have CFN : Cal l.prog w K mg base "few_notes" 2 ["grains", "due"] (spFew K) fFN _ := ⟨PySem.W.mg_of X G aFN, kFN, bFN, ok_few FFN T CRO CCB⟩
  have CDk : Cal l.prog w K mg base "_law_deck" 1 ["_law_script", "_law_k"] (spDeck K) fDk _ := ⟨PySem.W.mg_of X G aDk, kDk, bDk, ok_deck FDk T⟩
  have CDr : Cal l.prog w K mg base "_law_draw" 1 ["_law_deck_here", "_law_most"] spDraw fDr _ := ⟨PySem.W.mg_of X G aDr, kDr, bDr, ok_draw FDr T⟩
  have CGr : Cal l.prog w K mg base "_law_grains" 2 ["_law_deck_here", "_law_least"] spGrains fGr _ := ⟨PySem.W.mg_of X G aGr, kGr, bGr, ok_grains FGr T CDr⟩
  have CCh : Cal l.prog w K mg base "_law_choices" 1 ["_law_grains_here"] (spChoices K) fCh _ := ⟨PySem.W.mg_of X G aCh, kCh, bCh, ok_choices FCh T⟩
  have CDu : Cal l.prog w K mg base "_law_due" 2 ["_law_deck_here", "_law_grains_here"] (spDue K) fDu _ := ⟨PySem.W.mg_of X G aDu, kDu, bDu, ok_due FDu T CDr CCh⟩
  have CRt : Cal l.prog w K mg base "_law_right" 5 ["_law_grains_here", "_law_due_here"] (spRight K) fRt _ := ⟨PySem.W.mg_of X G aRt, kRt, bRt, ok_right FRt T CFN CCh CH⟩
  exact ok_law FLw T CDk CGr CDu CRt
theorem walk {l : PySem.W.OpenLaw} {q : Program} {loose : List Str} {XP : (Str → Option Value) → Heap → Prop} {YP : World → Heap → Prop} {d : DefRec} {K : Params → PySem.W.Frag} (hn : l.most = some 63) (hdf : d.params.defaults = [])
    (hY : ∀ (w : World) (h : Heap), YP w h → (K w.params).In h)
    (F : ∀ (w : World) (mg : Str → Option Value) (fa : Addr) (h : Heap), (K w.params).In h → h.Ns mainGlobals mg → mg d.name = some (.ref fa) →
      ∃ fd : FuncData, (∀ (s : Shared) (u : Value), BindsTo s fd ⟨[u], []⟩ [("_law_script", u)]) ∧ ∀ base : Heap, (K w.params).In base → base.Ns mainGlobals mg → FnOk l.prog w (K w.params) mg base CX0 6 fa fd ["_law_script"] (spLaw (K w.params))) :
    PySem.W.WalkO q loose XP YP l.row.toRowW d [] (fun f vs => PySem.call f vs) :=
  L2.walk_of (n := 63) (k := 6) (x := "_law_script") (CX := fun _ => CX0) (sp := fun w => spLaw (K w.params)) hn (by decide) hdf ⟨rfl, by decide, by decide⟩ hY F (fun _ _ a ns hl _ hS => ⟨a, ns, rfl, hS, hl, fun _ => rfl⟩) fun _ _ _ _ _ z => z
end K66

open PySem PySem.W PyProof.Rows in
set_option maxRecDepth 100000 in
set_option maxHeartbeats 0 in
theorem PySem.Challenge.cw_casknotes_k66_whole_few_among_all_holds : PySem.Challenge.rw_casknotes_k66_whole_few_among_all.Holds := by
  w_on; o_law; k_head; (case hw => w_witness2)
  k_fill
  refine K66.walk (l := PySem.Challenge.rw_casknotes_k66_whole_few_among_all) rfl rfl (fun w h Y => PySem.W.kIn_of Y) ?F
  case F =>
    intro w mg fa h KX G hmg
    refine' K66.all_mk KX G hmg ?aW ?lW ?cW ?kW ?aRi ?lRi ?cRi ?kRi ?aN ?lN ?cN ?kN ?aP ?lP ?cP ?kP ?aPR ?lPR ?cPR ?kPR ?aL ?lL ?cL ?kL ?aH ?lH ?cH ?kH ?aRO ?lRO ?cRO ?kRO ?aCB ?lCB ?cCB ?kCB ?aFN ?lFN ?cFN ?kFN ?aDk ?lDk ?cDk ?kDk ?aDr ?lDr ?cDr ?kDr ?aGr ?lGr ?cGr ?kGr ?aCh ?lCh ?cCh ?kCh ?aDu ?lDu ?cDu ?kDu ?aRt ?lRt ?cRt ?kRt ?aLw ?lLw ?cLw ?kLw ?z0 ?z1 ?z2 ?z3 ?z4 ?z5 ?z6 ?z7 ?z8 ?z9 ?z10 ?z11 ?z12 ?z13 ?z14 ?z15 ?z16
    (case aW => k_is)
    (case lW => k_is)
    (case cW => k_is)
    (case kW => k_is)
    (case aRi => k_is)
    (case lRi => k_is)
    (case cRi => k_is)
    (case kRi => k_is)
    (case aN => k_is)
    (case lN => k_is)
    (case cN => k_is)
    (case kN => k_is)
    (case aP => k_is)
    (case lP => k_is)
    (case cP => k_is)
    (case kP => k_is)
    (case aPR => k_is)
    (case lPR => k_is)
    (case cPR => k_is)
    (case kPR => k_is)
    (case aL => k_is)
    (case lL => k_is)
    (case cL => k_is)
    (case kL => k_is)
    (case aH => k_is)
    (case lH => k_is)
    (case cH => k_is)
    (case kH => k_is)
    (case aRO => k_is)
    (case lRO => k_is)
    (case cRO => k_is)
    (case kRO => k_is)
    (case aCB => k_is)
    (case lCB => k_is)
    (case cCB => k_is)
    (case kCB => k_is)
    (case aFN => k_is)
    (case lFN => k_is)
    (case cFN => k_is)
    (case kFN => k_is)
    (case aDk => k_is)
    (case lDk => k_is)
    (case cDk => k_is)
    (case kDk => k_is)
    (case aDr => k_is)
    (case lDr => k_is)
    (case cDr => k_is)
    (case kDr => k_is)
    (case aGr => k_is)
    (case lGr => k_is)
    (case cGr => k_is)
    (case kGr => k_is)
    (case aCh => k_is)
    (case lCh => k_is)
    (case cCh => k_is)
    (case kCh => k_is)
    (case aDu => k_is)
    (case lDu => k_is)
    (case cDu => k_is)
    (case kDu => k_is)
    (case aRt => k_is)
    (case lRt => k_is)
    (case cRt => k_is)
    (case kRt => k_is)
    (case aLw => k_is)
    (case lLw => k_is)
    (case cLw => k_is)
    (case kLw => k_is)
    (case z0 => k_is)
    (case z1 => k_is)
    (case z2 => k_is)
    (case z3 => k_is)
    (case z4 => k_is)
    (case z5 => k_is)
    (case z6 => k_is)
    (case z7 => k_is)
    (case z8 => k_is)
    (case z9 => k_is)
    (case z10 => k_is)
    (case z11 => k_is)
    (case z12 => k_is)
    (case z13 => k_is)
    (case z14 => k_is)
    (case z15 => k_is)
    (case z16 => k_is)
