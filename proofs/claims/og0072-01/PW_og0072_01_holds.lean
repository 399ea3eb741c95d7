import PyProof.Rows.All
import Wide.All
import OpenK.AllK
import Wide.FinOn
import PyProof.SetScanFacts
import KE.KSortTup
import Lean
import PySem.Challenge.RW_og0072_01

set_option Elab.async false

section
open PySem
namespace Mine
noncomputable abbrev Pr := SetTable.Probe
noncomputable def nxt (m : Nat) (p : Pr) : Pr :=
  { j := (SetTable.leap m p.i p.perturb).1, more := SetTable.runEnd m (SetTable.leap m p.i p.perturb).1 - (SetTable.leap m p.i p.perturb).1,
    i := (SetTable.leap m p.i p.perturb).1, perturb := (SetTable.leap m p.i p.perturb).2, dummy := p.dummy }
noncomputable def adv (m : Nat) (p : Pr) : Pr := if p.more > 0 then { p with j := p.j + 1, more := p.more - 1 } else nxt m p
theorem advance_eq (t : SetTable) (p : Pr) : t.advance p = adv t.mask p := by
  unfold SetTable.advance adv; split <;> rfl
noncomputable def start (m : Nat) (h : Int) : Pr :=
  { j := SetTable.bits h % (m + 1), more := SetTable.runEnd m (SetTable.bits h % (m + 1)) - SetTable.bits h % (m + 1), i := SetTable.bits h % (m + 1), perturb := SetTable.bits h, dummy := none }
theorem start_eq (t : SetTable) (h : Int) : t.probeStart h = start t.mask h := rfl
noncomputable def itr (m : Nat) : Nat → Pr → Pr
  | 0, p => p
  | k + 1, p => itr m k (adv m p)
theorem itr_add (m a b : Nat) (p : Pr) : itr m (a + b) p = itr m b (itr m a p) := by
  induction a generalizing p with
  | zero => simp [itr]
  | succ a ih => rw [Nat.succ_add]; exact ih _
theorem itr_succ' (m a : Nat) (p : Pr) : itr m (a + 1) p = adv m (itr m a p) := itr_add m a 1 p
noncomputable def nb (m : Nat) : Nat → Pr → Pr
  | 0, p => p
  | k + 1, p => nb m k (nxt m p)
theorem nb_add (m a b : Nat) (p : Pr) : nb m (a + b) p = nb m b (nb m a p) := by
  induction a generalizing p with
  | zero => simp [nb]
  | succ a ih => rw [Nat.succ_add]; exact ih _
theorem runEnd_le (m i : Nat) : SetTable.runEnd m i - i ≤ 9 := by
  unfold SetTable.runEnd; split <;> (first | lia | omega)
structure OkP (m : Nat) (p : Pr) : Prop where
  i : p.i ≤ m
  pt : p.perturb < 2 ^ 64
  more : p.more ≤ 9
  dm : p.dummy = none
  top : p.j + p.more ≤ m
theorem leap_le (m i pt : Nat) : (SetTable.leap m i pt).1 ≤ m := by
  unfold SetTable.leap; exact Nat.le_of_lt_succ (Nat.mod_lt _ (Nat.succ_pos m))
theorem run_top {m i : Nat} (h : i ≤ m) : i + (SetTable.runEnd m i - i) ≤ m := by
  unfold SetTable.runEnd; split <;> (first | lia | omega)
theorem OkP.nxt {m : Nat} {p : Pr} (h : OkP m p) : OkP m (nxt m p) :=
  ⟨leap_le _ _ _, by show p.perturb / 32 < _; have := h.pt; (first | lia | omega), runEnd_le _ _, h.dm, run_top (leap_le _ _ _)⟩
theorem OkP.adv {m : Nat} {p : Pr} (h : OkP m p) : OkP m (adv m p) := by
  unfold Mine.adv; split
  · exact ⟨h.i, h.pt, by show p.more - 1 ≤ 9; have := h.more; (first | lia | omega), h.dm, by show p.j + 1 + (p.more - 1) ≤ m; have := h.top; (first | lia | omega)⟩
  · exact h.nxt
theorem OkP.itr {m : Nat} : ∀ {k : Nat} {p : Pr}, OkP m p → OkP m (itr m k p)
  | 0, _, h => h
  | k + 1, _, h => OkP.itr (k := k) h.adv
theorem bits_lt (h : Int) : SetTable.bits h < 2 ^ 64 := by unfold SetTable.bits; (first | lia | omega)
theorem start_ok (m : Nat) (h : Int) : OkP m (start m h) :=
  have l : SetTable.bits h % (m + 1) ≤ m := Nat.le_of_lt_succ (Nat.mod_lt _ (Nat.succ_pos m))
  ⟨l, bits_lt h, runEnd_le _ _, rfl, run_top l⟩
/-- the next block's start lies at most ten steps off -/
theorem to_nxt (m : Nat) : ∀ (n : Nat) (p : Pr), p.more = n → itr m (n + 1) p = nxt m p
  | 0, p, h => by show adv m p = _; unfold adv; rw [if_neg (by (first | lia | omega))]
  | n + 1, p, h => by
    show itr m (n + 1) (adv m p) = _
    have e : adv m p = { p with j := p.j + 1, more := p.more - 1 } := by unfold adv; rw [if_pos (by (first | lia | omega))]
    rw [e, to_nxt m n _ (by show p.more - 1 = n; (first | lia | omega))]
    rfl
theorem to_nb (m : Nat) : ∀ (b : Nat) (p : Pr), OkP m p → ∃ k, k ≤ 10 * b ∧ itr m k p = nb m b p
  | 0, p, _ => ⟨0, by (first | lia | omega), rfl⟩
  | b + 1, p, h => by
    obtain ⟨k, hk, e⟩ := to_nb m b (nxt m p) h.nxt
    refine ⟨p.more + 1 + k, by have := h.more; (first | lia | omega), ?_⟩
    rw [itr_add, to_nxt m _ p rfl, e]; rfl
theorem nb_pt (m : Nat) : ∀ (b : Nat) (p : Pr), (nb m b p).perturb = p.perturb / 32 ^ b
  | 0, p => by simp [nb]
  | b + 1, p => by
    show (nb m b (nxt m p)).perturb = _
    rw [nb_pt m b]
    show p.perturb / 32 / 32 ^ b = _
    rw [Nat.div_div_eq_div_mul, Nat.pow_succ, Nat.mul_comm]
theorem nb_j (m : Nat) (b : Nat) (p : Pr) : (nb m (b + 1) p).j = (nb m (b + 1) p).i := by rw [nb_add]; rfl
theorem nb_ok {m : Nat} : ∀ {k : Nat} {p : Pr}, OkP m p → OkP m (nb m k p)
  | 0, _, h => h
  | k + 1, _, h => nb_ok (k := k) h.nxt
noncomputable def f5 (m x : Nat) : Nat := (x * 5 + 1) % (m + 1)
noncomputable def it5 (m : Nat) : Nat → Nat → Nat
  | 0, x => x
  | k + 1, x => it5 m k (f5 m x)
theorem it5_add (m a b x : Nat) : it5 m (a + b) x = it5 m b (it5 m a x) := by
  induction a generalizing x with
  | zero => simp [it5]
  | succ a ih => rw [Nat.succ_add]; exact ih _
theorem nb_i (m : Nat) : ∀ (c : Nat) (p : Pr), p.perturb = 0 → (nb m c p).i = it5 m c p.i
  | 0, p, _ => rfl
  | c + 1, p, h => by
    show (nb m c (nxt m p)).i = _
    rw [nb_i m c _ (by show p.perturb / 32 = 0; rw [h])]
    show it5 m c ((p.i * 5 + 1 + p.perturb / 32) % (m + 1)) = _
    rw [h]; rfl
noncomputable def Mk (m : Nat) : Prop := m = 7 ∨ m = 31 ∨ m = 127
noncomputable def walk5 (m : Nat) : Nat → Nat → List Nat
  | 0, _ => []
  | k + 1, x => x :: walk5 m k (f5 m x)
theorem mem_walk5 {m j : Nat} : ∀ {k x : Nat}, j ∈ walk5 m k x → ∃ c, c < k ∧ it5 m c x = j
  | k + 1, x, h => by
    rcases List.mem_cons.mp h with rfl | h
    · exact ⟨0, by (first | lia | omega), rfl⟩
    · obtain ⟨c, hc, e⟩ := mem_walk5 h
      exact ⟨c + 1, by (first | lia | omega), e⟩
theorem all7 : (List.range 8).all (fun j => (walk5 7 8 0).contains j) = true := by decide +kernel
theorem all31 : (List.range 32).all (fun j => (walk5 31 32 0).contains j) = true := by decide +kernel
theorem all127 : (List.range 128).all (fun j => (walk5 127 128 0).contains j) = true := by decide +kernel
theorem from0 {m j : Nat} (hm : Mk m) (hj : j ≤ m) : ∃ c, c ≤ m ∧ it5 m c 0 = j := by
  rcases hm with rfl | rfl | rfl
  · obtain ⟨c, hc, e⟩ := mem_walk5 (by simpa using List.all_eq_true.mp all7 j (List.mem_range.mpr (by (first | lia | omega))))
    exact ⟨c, by (first | lia | omega), e⟩
  · obtain ⟨c, hc, e⟩ := mem_walk5 (by simpa using List.all_eq_true.mp all31 j (List.mem_range.mpr (by (first | lia | omega))))
    exact ⟨c, by (first | lia | omega), e⟩
  · obtain ⟨c, hc, e⟩ := mem_walk5 (by simpa using List.all_eq_true.mp all127 j (List.mem_range.mpr (by (first | lia | omega))))
    exact ⟨c, by (first | lia | omega), e⟩
theorem back0 {m : Nat} (hm : Mk m) : it5 m (m + 1) 0 = 0 := by
  rcases hm with rfl | rfl | rfl <;> decide +kernel
theorem full5 {m x j : Nat} (hm : Mk m) (hx : x ≤ m) (hj : j ≤ m) : ∃ c, c ≤ m ∧ it5 m c x = j := by
  obtain ⟨a, ha, rfl⟩ := from0 hm hx
  obtain ⟨b, hb, rfl⟩ := from0 hm hj
  by_cases h : a ≤ b
  · exact ⟨b - a, by (first | lia | omega), by rw [← it5_add]; congr 1; (first | lia | omega)⟩
  · refine ⟨b + (m + 1) - a, by (first | lia | omega), ?_⟩
    rw [← it5_add, show a + (b + (m + 1) - a) = (m + 1) + b by (first | lia | omega), it5_add, back0 hm]
/-- every place is met at the start of one of the first blocks -/
theorem cover_nb {m : Nat} (hm : Mk m) {p : Pr} (h : OkP m p) {j : Nat} (hj : j ≤ m) : ∃ b, 1 ≤ b ∧ b ≤ 13 + m ∧ (nb m b p).j = j := by
  have h13 : (nb m 13 p).perturb = 0 := by
    rw [nb_pt]; exact Nat.div_eq_of_lt (Nat.lt_of_lt_of_le h.pt (by decide))
  obtain ⟨c, hc, e⟩ := full5 hm (nb_ok (k := 13) h).i hj
  refine ⟨13 + c, by (first | lia | omega), by (first | lia | omega), ?_⟩
  have : 13 + c = 12 + c + 1 := by (first | lia | omega)
  rw [this, nb_j, ← this, nb_add, nb_i m c _ h13, e]
theorem cover {m : Nat} (hm : Mk m) {p : Pr} (h : OkP m p) {j : Nat} (hj : j ≤ m) : ∃ k, k < 10 * SetTable.turns m ∧ (itr m k p).j = j := by
  obtain ⟨b, _, hb, e⟩ := cover_nb hm h hj
  obtain ⟨k, hk, ek⟩ := to_nb m b p h
  exact ⟨k, by unfold SetTable.turns; (first | lia | omega), by rw [ek, e]⟩
end Mine

end

section
open PySem
set_option autoImplicit false
namespace Mine
theorem below_go (xs : Array Nat) (j : Nat) (hs : xs.toList.Pairwise (· < ·)) : ∀ (fuel lo hi : Nat), lo ≤ hi → hi ≤ xs.size → hi - lo ≤ fuel →
    (∀ i (h : i < xs.size), i < lo → xs[i] < j) → (∀ i (h : i < xs.size), hi ≤ i → j ≤ xs[i]) →
    SetTable.below.go xs j fuel lo hi ≤ xs.size ∧ (∀ i (h : i < xs.size), i < SetTable.below.go xs j fuel lo hi → xs[i] < j) ∧ (∀ i (h : i < xs.size), SetTable.below.go xs j fuel lo hi ≤ i → j ≤ xs[i]) := by
  have mono : ∀ a b (ha : a < xs.size) (hb : b < xs.size), a ≤ b → xs[a] ≤ xs[b] := fun a b ha hb hab => by
    by_cases e : a = b
    · subst e; exact Nat.le_refl _
    · have := (List.pairwise_iff_getElem.mp hs) a b (by simpa using ha) (by simpa using hb) (by (first | lia | omega))
      simpa using Nat.le_of_lt this
  intro fuel
  induction fuel with
  | zero => intro lo hi h1 h2 h3 h4 h5; unfold SetTable.below.go; exact ⟨by (first | lia | omega), h4, fun i h hi' => h5 i h (by (first | lia | omega))⟩
  | succ n ih =>
    intro lo hi h1 h2 h3 h4 h5
    unfold SetTable.below.go
    by_cases hlt : lo < hi
    · rw [if_pos hlt]
      dsimp only
      have hm : (lo + hi) / 2 < xs.size := by (first | lia | omega)
      have e : xs.getD ((lo + hi) / 2) j = xs[(lo + hi) / 2] := by simp [hm]
      rw [e]
      by_cases hc : xs[(lo + hi) / 2] < j
      · rw [if_pos hc]
        exact ih _ _ (by (first | lia | omega)) h2 (by (first | lia | omega)) (fun i h hi' => Nat.lt_of_le_of_lt (mono i _ h hm (by (first | lia | omega))) hc) h5
      · rw [if_neg hc]
        exact ih _ _ (by (first | lia | omega)) (by (first | lia | omega)) (by (first | lia | omega)) h4 fun i h hi' => Nat.le_trans (by (first | lia | omega)) (mono _ i hm h hi')
    · rw [if_neg hlt]
      exact ⟨by (first | lia | omega), h4, fun i h hi' => h5 i h (by (first | lia | omega))⟩
theorem below_spec {xs : Array Nat} (j : Nat) (hs : xs.toList.Pairwise (· < ·)) :
    SetTable.below xs j ≤ xs.size ∧ (∀ i (h : i < xs.size), i < SetTable.below xs j → xs[i] < j) ∧ (∀ i (h : i < xs.size), SetTable.below xs j ≤ i → j ≤ xs[i]) :=
  below_go xs j hs xs.size 0 xs.size (by (first | lia | omega)) (by (first | lia | omega)) (by (first | lia | omega)) (fun i h hi => by (first | lia | omega)) (fun i h hi => by (first | lia | omega))

theorem slot_is {t : SetTable} (hs : t.place.toList.Pairwise (· < ·)) (hd : t.dummies = #[]) (j : Nat) :
    (∃ i, t.slot j = .live i ∧ t.place.toList[i]? = some j) ∨ (t.slot j = .empty ∧ j ∉ t.place.toList) := by
  obtain ⟨h1, h2, h3⟩ := below_spec j hs
  unfold SetTable.slot
  dsimp only
  by_cases h : t.place[SetTable.below t.place j]? = some j
  · rw [if_pos (by rw [h]; simp)]
    exact .inl ⟨_, rfl, by rw [Array.getElem?_toList]; exact h⟩
  · rw [if_neg (by simpa using h)]
    have e : SetTable.has t.dummies j = false := by rw [hd]; unfold SetTable.has; simp
    rw [e]
    refine .inr ⟨by simp, fun hm => h ?_⟩
    obtain ⟨i, hi, hij⟩ := List.getElem_of_mem hm
    have hi' : i < t.place.size := by simpa using hi
    have hij' : t.place[i] = j := by simpa using hij
    by_cases hb : i < SetTable.below t.place j
    · have := h2 i hi' hb; (first | lia | omega)
    · have h4 := h3 (SetTable.below t.place j) (by (first | lia | omega)) (Nat.le_refl _)
      have h5 : SetTable.below t.place j = i := by
        by_cases e : SetTable.below t.place j = i
        · exact e
        · have := (List.pairwise_iff_getElem.mp hs) (SetTable.below t.place j) i (by rw [Array.length_toList]; (first | lia | omega)) hi (by (first | lia | omega))
          simp at this
          (first | lia | omega)
      rw [h5]; simp [hi', hij']

structure TabW (t : SetTable) (hs : List Int) : Prop where
  len : t.place.size = hs.length
  sorted : t.place.toList.Pairwise (· < ·)
  inR : ∀ j ∈ t.place.toList, j ≤ t.mask
  nod : t.dummies = #[]
  mask : Mk t.mask
  reach : ∀ (i j : Nat) (h : Int), t.place.toList[i]? = some j → hs[i]? = some h → ∃ k, (itr t.mask k (start t.mask h)).j = j ∧ ∀ k' < k, (itr t.mask k' (start t.mask h)).j ∈ t.place.toList
structure Tab (t : SetTable) (hs : List Int) : Prop extends TabW t hs where
  room : t.place.size * 5 < t.mask * 3

theorem Tab.fits {t : SetTable} {hs : List Int} (T : Tab t hs) {n : Nat} (hn : hs.length = n) : t.fits n = true := by
  have h0 : t.dummies.size = 0 := by rw [T.nod]; rfl
  have := T.room
  have := T.len
  unfold SetTable.fits SetTable.fill
  rw [h0, T.len, hn]
  have h2 : n ≤ t.mask := by (first | lia | omega)
  simp [h2]
theorem Tab.lt_mask {t : SetTable} {hs : List Int} (T : Tab t hs) : t.place.size ≤ t.mask := by have := T.room; (first | lia | omega)
theorem fresh_tab (finger moves : Nat) (led : Bool) : Tab (.fresh finger moves led) [] :=
  ⟨⟨rfl, .nil, fun _ h => (nomatch h), rfl, .inl rfl, fun i j h e => by simp [SetTable.fresh] at e⟩, by show 0 * 5 < 7 * 3; decide⟩

/-- an empty place there is -/
theorem Tab.hole {t : SetTable} {hs : List Int} (T : Tab t hs) : ∃ j, j ≤ t.mask ∧ j ∉ t.place.toList := by
  apply Classical.byContradiction
  intro hno
  have hall : ∀ j, j ≤ t.mask → j ∈ t.place.toList := fun j hj => Classical.byContradiction fun hn => hno ⟨j, hj, hn⟩
  have hl : (List.range (t.mask + 1)).length ≤ t.place.toList.length := by
    have hnd : (List.range (t.mask + 1)).Nodup := List.nodup_range
    exact List.Nodup.length_le_of_subset hnd fun j hj => hall j (by have := List.mem_range.mp hj; (first | lia | omega))
  have := T.lt_mask
  simp at hl
  (first | lia | omega)
/-- the first hole on the road from the start of h -/
theorem Tab.first {t : SetTable} {hs : List Int} (T : Tab t hs) {p : Pr} (hp : OkP t.mask p) : ∃ N, N < 10 * SetTable.turns t.mask ∧ (itr t.mask N p).j ∉ t.place.toList ∧ ∀ k < N, (itr t.mask k p).j ∈ t.place.toList := by
  obtain ⟨j, hj, hn⟩ := T.hole
  obtain ⟨k, hk, e⟩ := cover T.mask hp hj
  have : ∀ n, ∀ k, k ≤ n → (itr t.mask k p).j ∉ t.place.toList → ∃ N, N ≤ k ∧ (itr t.mask N p).j ∉ t.place.toList ∧ ∀ k < N, (itr t.mask k p).j ∈ t.place.toList := by
    intro n
    induction n with
    | zero => intro k hk h; have : k = 0 := by (first | lia | omega)
              subst this; exact ⟨0, Nat.le_refl _, h, fun k hk => by (first | lia | omega)⟩
    | succ n ih =>
      intro k hk h
      by_cases hall : ∀ k' < k, (itr t.mask k' p).j ∈ t.place.toList
      · exact ⟨k, Nat.le_refl _, h, hall⟩
      · obtain ⟨k', hk'⟩ := Classical.not_forall.mp hall
        obtain ⟨h1, h2⟩ := Classical.not_imp.mp hk'
        obtain ⟨N, hN, r⟩ := ih k' (by (first | lia | omega)) h2
        exact ⟨N, by (first | lia | omega), r⟩
  obtain ⟨N, hN, r⟩ := this k k (Nat.le_refl _) (by rw [e]; exact hn)
  exact ⟨N, by (first | lia | omega), r⟩

/-- the search's one run over the table -/
theorem probe_go {t : SetTable} (hs : t.place.toList.Pairwise (· < ·)) (hd : t.dummies = #[]) (hashAt : Nat → Int) (h : Int) : ∀ (N fuel : Nat) (p : Pr), N < fuel → p.dummy = none →
    (itr t.mask N p).j ∉ t.place.toList → (∀ k < N, (itr t.mask k p).j ∈ t.place.toList) →
    (SetTable.probe.go t hashAt h fuel p = some (.empty (itr t.mask N p).j none) ∧ (∀ k < N, ∃ i, t.place.toList[i]? = some (itr t.mask k p).j ∧ hashAt i ≠ h)) ∨
    (∃ n i, n < N ∧ t.place.toList[i]? = some (itr t.mask n p).j ∧ hashAt i = h ∧ SetTable.probe.go t hashAt h fuel p = some (.candidate (itr t.mask n p).j i (itr t.mask (n + 1) p)) ∧ (∀ k < n, ∃ i, t.place.toList[i]? = some (itr t.mask k p).j ∧ hashAt i ≠ h)) := by
  intro N
  induction N with
  | zero =>
    intro fuel p hf hdm hno hall
    obtain ⟨f, rfl⟩ : ∃ f, fuel = f + 1 := ⟨fuel - 1, by (first | lia | omega)⟩
    left
    unfold SetTable.probe.go
    rcases slot_is hs hd p.j with ⟨i, e1, e2⟩ | ⟨e1, e2⟩
    · exact absurd (List.mem_of_getElem? e2) hno
    · rw [e1]
      dsimp only
      refine ⟨by rw [hdm]; rfl, fun k hk => by (first | lia | omega)⟩
  | succ N ih =>
    intro fuel p hf hdm hno hall
    obtain ⟨f, rfl⟩ : ∃ f, fuel = f + 1 := ⟨fuel - 1, by (first | lia | omega)⟩
    have h0 := hall 0 (by (first | lia | omega))
    unfold SetTable.probe.go
    rcases slot_is hs hd p.j with ⟨i, e1, e2⟩ | ⟨e1, e2⟩
    · rw [e1]
      dsimp only
      by_cases hh : hashAt i = h
      · right
        refine ⟨0, i, by (first | lia | omega), e2, hh, ?_, fun k hk => by (first | lia | omega)⟩
        rw [if_pos (by simpa using hh), advance_eq]; rfl
      · rw [if_neg (by simpa using hh), advance_eq]
        have hdm' : (adv t.mask p).dummy = none := by unfold adv; split <;> exact hdm
        rcases ih f (adv t.mask p) (by (first | lia | omega)) hdm' hno (fun k hk => hall (k + 1) (by (first | lia | omega))) with ⟨g1, g2⟩ | ⟨n, i', hn, g1, g2, g3, g4⟩
        · left
          refine ⟨g1, fun k hk => ?_⟩
          cases k with
          | zero => exact ⟨i, e2, hh⟩
          | succ k => exact g2 k (by (first | lia | omega))
        · right
          refine ⟨n + 1, i', by (first | lia | omega), g1, g2, g3, fun k hk => ?_⟩
          cases k with
          | zero => exact ⟨i, e2, hh⟩
          | succ k => exact g4 k (by (first | lia | omega))
    · exact absurd h0 e2
end Mine

end

section
open PySem
set_option autoImplicit false
namespace Mine
theorem insert_sorted {xs : Array Nat} {j : Nat} (hs : xs.toList.Pairwise (· < ·)) (hj : j ∉ xs.toList) : (SetTable.insertAt xs (SetTable.below xs j) j).toList.Pairwise (· < ·) := by
  obtain ⟨h1, h2, h3⟩ := below_spec j hs
  rw [SetTable.toList_insertAt]
  have hd := (List.take_append_drop (SetTable.below xs j) xs.toList)
  rw [← hd] at hs
  obtain ⟨p1, p2, p3⟩ := List.pairwise_append.mp hs
  refine List.pairwise_append.mpr ⟨p1, List.pairwise_cons.mpr ⟨fun b hb => ?_, p2⟩, fun a ha b hb => ?_⟩
  · obtain ⟨i, hi, rfl⟩ := List.getElem_of_mem hb
    rw [List.length_drop, Array.length_toList] at hi
    have := h3 (SetTable.below xs j + i) (by (first | lia | omega)) (by (first | lia | omega))
    rw [List.getElem_drop, Array.getElem_toList]
    refine Nat.lt_of_le_of_ne this fun e => hj ?_
    rw [e]; exact Array.getElem_mem_toList _
  · rcases List.mem_cons.mp hb with rfl | hb
    · obtain ⟨i, hi, rfl⟩ := List.getElem_of_mem ha
      rw [List.length_take, Array.length_toList] at hi
      rw [List.getElem_take, Array.getElem_toList]
      exact h2 i (by (first | lia | omega)) (by (first | lia | omega))
    · exact p3 a ha b hb
noncomputable def insL {α : Type} (l : List α) (p : Nat) (x : α) : List α := l.take p ++ x :: l.drop p
theorem insL_get {α : Type} (l : List α) (p : Nat) (x : α) (hp : p ≤ l.length) (i : Nat) : (insL l p x)[i]? = if i < p then l[i]? else if i = p then some x else l[i - 1]? := by
  unfold insL
  by_cases h : i < p
  · rw [if_pos h, List.getElem?_append_left (by rw [List.length_take]; (first | lia | omega)), List.getElem?_take, if_pos h]
  · rw [if_neg h, List.getElem?_append_right (by rw [List.length_take]; (first | lia | omega)), List.length_take, Nat.min_eq_left hp]
    by_cases e : i = p
    · subst e; simp
    · rw [if_neg e, show i - p = (i - p - 1) + 1 by (first | lia | omega), List.getElem?_cons_succ, List.getElem?_drop]
      congr 1; (first | lia | omega)
theorem put_tab {t : SetTable} {hs : List Int} (T : TabW t hs) {h : Int} {N : Nat} (hN : (itr t.mask N (start t.mask h)).j ∉ t.place.toList) (hb : ∀ k < N, (itr t.mask k (start t.mask h)).j ∈ t.place.toList)
    {j : Nat} (ej : (itr t.mask N (start t.mask h)).j = j) :
    (t.put j).2 ≤ hs.length ∧ TabW (t.put j).1 (insL hs (t.put j).2 h) ∧ (t.put j).1.mask = t.mask ∧ (t.put j).1.led = t.led ∧ (t.put j).1.moves = t.moves ∧ (t.put j).1.place.size = t.place.size + 1 := by
  have hj : j ∉ t.place.toList := ej ▸ hN
  have e0 : SetTable.has t.dummies j = false := by rw [T.nod]; unfold SetTable.has; simp
  have hp : (t.put j).2 = SetTable.below t.place j := rfl
  have ht : (t.put j).1 = { t with place := SetTable.insertAt t.place (SetTable.below t.place j) j } := by
    unfold SetTable.put; simp [e0]
  obtain ⟨h1, _, _⟩ := below_spec j T.sorted
  have hle : SetTable.below t.place j ≤ hs.length := by rw [← T.len]; exact h1
  have pl : (SetTable.insertAt t.place (SetTable.below t.place j) j).toList = insL t.place.toList (SetTable.below t.place j) j := SetTable.toList_insertAt _ _ _
  have hsz : (SetTable.insertAt t.place (SetTable.below t.place j) j).size = t.place.size + 1 := by
    have := (SetTable.insertAt_perm t.place (SetTable.below t.place j) j).length_eq
    simpa using this
  have mem : ∀ x, x ∈ t.place.toList → x ∈ (SetTable.insertAt t.place (SetTable.below t.place j) j).toList := fun x hx =>
    (SetTable.insertAt_perm _ _ _).mem_iff.mpr (by rw [Array.toList_push]; exact List.mem_append.mpr (.inl hx))
  have memj : ∀ x, x ∈ (SetTable.insertAt t.place (SetTable.below t.place j) j).toList → x ∈ t.place.toList ∨ x = j := fun x hx => by
    have := (SetTable.insertAt_perm _ _ _).mem_iff.mp hx
    rw [Array.toList_push] at this
    rcases List.mem_append.mp this with h | h
    · exact .inl h
    · exact .inr (List.mem_singleton.mp h)
  have jle : j ≤ t.mask := by
    have := (OkP.itr (k := N) (start_ok t.mask h)).top
    rw [← ej]; (first | lia | omega)
  rw [hp, ht]
  refine ⟨hle, ⟨?_, insert_sorted T.sorted hj, fun x hx => ?_, T.nod, T.mask, fun i jj hh e1 e2 => ?_⟩, rfl, rfl, rfl, hsz⟩
  · show (SetTable.insertAt _ _ _).size = (insL hs _ h).length
    rw [hsz]; unfold insL; rw [List.length_append, List.length_take, List.length_cons, List.length_drop, T.len]; (first | lia | omega)
  · rcases memj x hx with q | q
    · exact T.inR x q
    · rw [q]; exact jle
  · dsimp only at e1 ⊢
    rw [pl, insL_get _ _ _ (by rw [Array.length_toList]; exact h1)] at e1
    rw [insL_get _ _ _ hle] at e2
    have old : ∀ i' : Nat, t.place.toList[i']? = some jj → hs[i']? = some hh → ∃ k, (itr t.mask k (start t.mask hh)).j = jj ∧ ∀ k' < k, (itr t.mask k' (start t.mask hh)).j ∈ (SetTable.insertAt t.place (SetTable.below t.place j) j).toList := fun i' a b => by
      obtain ⟨k, c, d⟩ := T.reach i' jj hh a b
      exact ⟨k, c, fun k' hk' => mem _ (d k' hk')⟩
    by_cases c1 : i < SetTable.below t.place j
    · rw [if_pos c1] at e1 e2; exact old _ e1 e2
    · rw [if_neg c1] at e1 e2
      by_cases c2 : i = SetTable.below t.place j
      · rw [if_pos c2] at e1 e2
        cases e1; cases e2
        exact ⟨N, ej, fun k' hk' => mem _ (hb k' hk')⟩
      · rw [if_neg c2] at e1 e2; exact old _ e1 e2
end Mine

end

section
open PySem
set_option autoImplicit false
namespace Mine
theorem in_blk (m : Nat) : ∀ (k : Nat) (p : Pr), k ≤ p.more → (itr m k p).j = p.j + k
  | 0, p, _ => rfl
  | k + 1, p, h => by
    show (itr m k (adv m p)).j = _
    have e : adv m p = { p with j := p.j + 1, more := p.more - 1 } := by unfold adv; rw [if_pos (by (first | lia | omega))]
    rw [e, in_blk m k _ (by show k ≤ p.more - 1; (first | lia | omega))]
    show p.j + 1 + k = _; (first | lia | omega)
theorem runEnd_ge (m i : Nat) : i ≤ SetTable.runEnd m i := by unfold SetTable.runEnd; split <;> (first | lia | omega)
theorem free_spec {m : Nat} {owner : Array (Option Nat)} : ∀ (fuel : Nat) (p : Pr), OkP m p → p.j = p.i → p.more = SetTable.runEnd m p.i - p.i →
    (∃ b, b < fuel ∧ owner.getD (nb m b p).i (some 0) = none) →
    ∃ j N, SetTable.layClean.free m owner fuel p.i p.perturb = some j ∧ (itr m N p).j = j ∧ owner.getD j (some 0) = none ∧ ∀ k < N, owner.getD (itr m k p).j (some 0) ≠ none := by
  intro fuel
  induction fuel with
  | zero => rintro p _ _ _ ⟨b, hb, _⟩; (first | lia | omega)
  | succ fuel ih =>
    rintro p hp hj hm ⟨b, hb, he⟩
    unfold SetTable.layClean.free
    have hge := runEnd_ge m p.i
    split
    · rename_i k hf
      have := List.find?_range_eq_some.mp hf
      obtain ⟨h1, h2, h3⟩ := this
      have h2' := List.mem_range.mp h2
      refine ⟨p.i + k, k, rfl, ?_, by simpa using h1, fun k' hk' => ?_⟩
      · rw [in_blk m k p (by (first | lia | omega)), hj]
      · rw [in_blk m k' p (by (first | lia | omega)), hj]
        intro e
        have := h3 k' hk'
        rw [e] at this; simp at this
    · rename_i hf
      have hno := List.find?_range_eq_none.mp hf
      have h0 : ∀ k, k ≤ p.more → owner.getD (p.i + k) (some 0) ≠ none := fun k hk e => by
        have := hno k (by (first | lia | omega))
        rw [e] at this; simp at this
      have hb0 : b ≠ 0 := fun e => by subst e; exact h0 0 (Nat.zero_le _) he
      obtain ⟨b', rfl⟩ : ∃ b', b = b' + 1 := ⟨b - 1, by (first | lia | omega)⟩
      obtain ⟨j, N, g1, g2, g3, g4⟩ := ih (nxt m p) hp.nxt rfl rfl ⟨b', by (first | lia | omega), he⟩
      refine ⟨j, p.more + 1 + N, g1, ?_, g3, fun k hk => ?_⟩
      · rw [itr_add, to_nxt m _ p rfl]; exact g2
      · by_cases hk' : k ≤ p.more
        · rw [in_blk m k p hk', hj]; exact h0 k hk'
        · have := g4 (k - (p.more + 1)) (by (first | lia | omega))
          rw [← to_nxt m _ p rfl, ← itr_add] at this
          rwa [show p.more + 1 + (k - (p.more + 1)) = k by (first | lia | omega)] at this

structure Own (m : Nat) (owner : Array (Option Nat)) (hs : List Int) (js : List Nat) : Prop where
  size : owner.size = m + 1
  len : js.length = hs.length
  iff : ∀ j k : Nat, owner[j]? = some (some k) ↔ js[k]? = some j
  reach : ∀ (k j : Nat) (h : Int), js[k]? = some j → hs[k]? = some h → ∃ N, (itr m N (start m h)).j = j ∧ ∀ k' < N, (itr m k' (start m h)).j ∈ js

noncomputable def layStep (m : Nat) (acc : Option (Array (Option Nat) × Nat)) (h : Int) : Option (Array (Option Nat) × Nat) := do
  let (owner, k) ← acc
  let j ← SetTable.layClean.free m owner (SetTable.turns m) (SetTable.bits h % (m + 1)) (SetTable.bits h)
  pure (owner.setIfInBounds j (some k), k + 1)
theorem layClean_eq (m : Nat) (hashes : Array Int) : SetTable.layClean m hashes = (hashes.foldl (layStep m) (some (Array.replicate (m + 1) none, 0))).map (·.1) := rfl

theorem own_step {m : Nat} (hm : Mk m) {owner : Array (Option Nat)} {hs : List Int} {js : List Nat} (O : Own m owner hs js) (hl : hs.length ≤ m) (h : Int) :
    ∃ owner' j, layStep m (some (owner, hs.length)) h = some (owner', hs.length + 1) ∧ Own m owner' (hs ++ [h]) (js ++ [j]) := by
  obtain ⟨x, hx, hfree⟩ : ∃ x, x ≤ m ∧ owner.getD x (some 0) = none := by
    apply Classical.byContradiction
    intro hno
    have hall : ∀ j, j ∈ List.range (m + 1) → j ∈ js := fun j hj => by
      have hj' := List.mem_range.mp hj
      have hlt : j < owner.size := by rw [O.size]; exact hj'
      cases e : owner[j] with
      | none => exact absurd ⟨j, by (first | lia | omega), by simp [hlt, e]⟩ hno
      | some k => exact List.mem_of_getElem? ((O.iff j k).mp (by simp [hlt, e]))
    have := List.Nodup.length_le_of_subset List.nodup_range hall
    rw [List.length_range, O.len] at this
    (first | lia | omega)
  obtain ⟨b, _, hb, e⟩ := cover_nb hm (start_ok m h) hx
  have ei : (nb m b (start m h)).i = x := by
    obtain ⟨b', rfl⟩ : ∃ b', b = b' + 1 := ⟨b - 1, by (first | lia | omega)⟩
    rw [← nb_j]; exact e
  obtain ⟨j, N, g1, g2, g3, g4⟩ := free_spec (m := m) (owner := owner) (SetTable.turns m) (start m h) (start_ok m h) rfl rfl ⟨b, by unfold SetTable.turns; (first | lia | omega), by rw [ei]; exact hfree⟩
  have hjs : j < owner.size := Nat.lt_of_not_le fun hge => by
    rw [Array.getD_eq_getD_getElem?, Array.getElem?_eq_none hge] at g3; cases g3
  have hj0 : owner[j]? = some none := by
    rw [Array.getD_eq_getD_getElem?, Array.getElem?_eq_getElem hjs] at g3
    rw [Array.getElem?_eq_getElem hjs]; exact congrArg some g3
  refine ⟨owner.setIfInBounds j (some hs.length), j, ?_, ⟨by rw [Array.size_setIfInBounds, O.size], by simp [O.len], fun y k => ?_, fun k y hh e1 e2 => ?_⟩⟩
  · have g1' : SetTable.layClean.free m owner (SetTable.turns m) (SetTable.bits h % (m + 1)) (SetTable.bits h) = some j := g1
    simp [layStep, g1']
  · rw [Array.getElem?_setIfInBounds]
    by_cases ey : j = y
    · subst ey
      rw [if_pos rfl, if_pos hjs]
      by_cases ek : k < js.length
      · rw [List.getElem?_append_left ek]
        constructor
        · intro q; injection q with q; injection q with q; have := O.len; (first | lia | omega)
        · intro q; have := (O.iff j k).mpr q; rw [hj0] at this; cases this
      · rw [List.getElem?_append_right (by (first | lia | omega))]
        constructor
        · intro q; injection q with q; injection q with q; rw [← q, O.len]; simp
        · intro q
          have : k - js.length = 0 := by
            cases z : k - js.length with
            | zero => rfl
            | succ n => rw [z] at q; simp at q
          have := O.len
          congr 2; (first | lia | omega)
    · rw [if_neg ey, O.iff]
      by_cases ek : k < js.length
      · rw [List.getElem?_append_left ek]
      · rw [List.getElem?_append_right (by (first | lia | omega)), List.getElem?_eq_none (by (first | lia | omega))]
        constructor
        · intro q; cases q
        · intro q
          cases z : k - js.length with
          | zero => rw [z] at q; simp at q; exact absurd q ey
          | succ n => rw [z] at q; simp at q
  · by_cases ek : k < js.length
    · rw [List.getElem?_append_left ek] at e1
      rw [List.getElem?_append_left (by rw [← O.len]; exact ek)] at e2
      obtain ⟨M, a, c⟩ := O.reach k y hh e1 e2
      exact ⟨M, a, fun k' hk' => List.mem_append.mpr (.inl (c k' hk'))⟩
    · have hk : k = js.length := by
        rw [List.getElem?_append_right (by (first | lia | omega))] at e1
        cases z : k - js.length with
        | zero => (first | lia | omega)
        | succ n => rw [z] at e1; simp at e1
      subst hk
      rw [List.getElem?_append_right (Nat.le_refl _)] at e1
      rw [O.len, List.getElem?_append_right (Nat.le_refl _)] at e2
      simp at e1 e2
      subst e1; subst e2
      refine ⟨N, g2, fun k' hk' => List.mem_append.mpr (.inl ?_)⟩
      have q := g4 k' hk'
      have hlt : (itr m k' (start m h)).j < owner.size := by
        have := (OkP.itr (k := k') (start_ok m h)).top
        rw [O.size]; (first | lia | omega)
      cases z : owner[(itr m k' (start m h)).j] with
      | none => rw [Array.getD_eq_getD_getElem?, Array.getElem?_eq_getElem hlt, z] at q; exact absurd rfl q
      | some kk => exact List.mem_of_getElem? ((O.iff _ kk).mp (by rw [Array.getElem?_eq_getElem hlt, z]))
theorem own_fold {m : Nat} (hm : Mk m) : ∀ (l hs : List Int) (owner : Array (Option Nat)) (js : List Nat), Own m owner hs js → hs.length + l.length ≤ m + 1 →
    ∃ owner' js', l.foldl (layStep m) (some (owner, hs.length)) = some (owner', hs.length + l.length) ∧ Own m owner' (hs ++ l) js'
  | [], hs, owner, js, O, _ => ⟨owner, js, rfl, by rw [List.append_nil]; exact O⟩
  | h :: l, hs, owner, js, O, hl => by
    rw [List.length_cons] at hl
    obtain ⟨o1, j1, e1, O1⟩ := own_step hm O (by (first | lia | omega)) h
    obtain ⟨o2, j2, e2, O2⟩ := own_fold hm l (hs ++ [h]) o1 (js ++ [j1]) O1 (by rw [List.length_append, List.length_singleton]; (first | lia | omega))
    refine ⟨o2, j2, ?_, by rw [List.append_assoc] at O2; exact O2⟩
    rw [List.foldl_cons, e1]
    rw [List.length_append, List.length_singleton] at e2
    rw [e2, List.length_cons]
    congr 2; (first | lia | omega)
theorem own_start (m : Nat) : Own m (Array.replicate (m + 1) none) [] [] :=
  ⟨by simp, rfl, fun j k => by
    rw [Array.getElem?_replicate]
    constructor
    · intro q; split at q <;> cases q
    · intro q; simp at q, fun k j h e => by simp at e⟩

theorem filterMap_all {α β : Type} {f : α → Option β} {g : α → β} : ∀ {l : List α}, (∀ p ∈ l, f p = some (g p)) → l.filterMap f = l.map g
  | [], _ => rfl
  | a :: l, h => by
    rw [List.filterMap_cons_some (h a (List.mem_cons_self ..)), List.map_cons, filterMap_all fun p hp => h p (List.mem_cons_of_mem _ hp)]
theorem laid_ok {m : Nat} (hm : Mk m) (es : Array (Int × Value)) (hz : es.size ≤ m) (f mv : Nat) (led pl : Bool) :
    ∃ t' order, SetTable.laid m f mv led pl (es.map (·.1)) = some (t', order) ∧ (order.filterMap (es[·]?)).toList.Perm es.toList ∧ TabW t' ((order.filterMap (es[·]?)).toList.map (·.1)) ∧
      t'.led = led ∧ t'.moves = mv ∧ t'.mask = m ∧ t'.place.size = es.size := by
  obtain ⟨owner, js, e, O⟩ := own_fold hm (es.toList.map (·.1)) [] _ [] (own_start m) (by simp; (first | lia | omega))
  rw [List.nil_append] at O
  have ec : SetTable.layClean m (es.map (·.1)) = some owner := by
    rw [layClean_eq, ← Array.foldl_toList, Array.toList_map, show (some (Array.replicate (m + 1) none, 0) : Option (Array (Option Nat) × Nat)) = some (Array.replicate (m + 1) none, ([] : List Int).length) from rfl, e]
    rfl
  let live := (List.range (m + 1)).filterMap fun j => (owner.getD j none).map (j, ·)
  have el : SetTable.laid m f mv led pl (es.map (·.1)) = some ({ mask := m, place := (live.map (·.1)).toArray, dummies := #[], finger := f, led := led, moves := mv, plain := pl }, (live.map (·.2)).toArray) := by
    unfold SetTable.laid; rw [ec]; rfl
  have jlt : ∀ (k j : Nat), js[k]? = some j → j < m + 1 := fun k j q => by
    have := (O.iff j k).mpr q
    have := (Array.getElem?_eq_some_iff.mp this).1
    rw [O.size] at this; exact this
  have hmem : ∀ j k : Nat, (j, k) ∈ live ↔ js[k]? = some j := fun j k => by
    constructor
    · intro q
      obtain ⟨j', hj', q⟩ := List.mem_filterMap.mp q
      rw [Option.map_eq_some_iff] at q
      obtain ⟨k', q1, q2⟩ := q
      injection q2 with a b
      subst a; subst b
      rw [← O.iff]
      rw [Array.getD_eq_getD_getElem?] at q1
      have : j' < owner.size := by rw [O.size]; exact List.mem_range.mp hj'
      rw [Array.getElem?_eq_getElem this] at q1 ⊢
      exact congrArg some q1
    · intro q
      refine List.mem_filterMap.mpr ⟨j, List.mem_range.mpr (jlt k j q), ?_⟩
      rw [Array.getD_eq_getD_getElem?, (O.iff j k).mpr q]; rfl
  have hpw : live.Pairwise fun a b => a.1 < b.1 := by
    refine List.Pairwise.filterMap _ (fun a a' haa' b hb b' hb' => ?_) List.pairwise_lt_range
    rw [Option.map_eq_some_iff] at hb hb'
    obtain ⟨_, _, rfl⟩ := hb
    obtain ⟨_, _, rfl⟩ := hb'
    exact haa'
  have hord : (live.map (·.2)).Perm (List.range es.size) := by
    refine (List.perm_ext_iff_of_nodup ?_ List.nodup_range).mpr fun k => ?_
    · refine List.pairwise_map.mpr (List.Pairwise.imp_of_mem (R := fun a b => a.1 < b.1) (fun {a b} ha hb hab hk => ?_) hpw)
      obtain ⟨j1, k1⟩ := a
      obtain ⟨j2, k2⟩ := b
      dsimp only at hk hab
      subst hk
      have h1 := (hmem _ _).mp ha
      have h2 := (hmem _ _).mp hb
      rw [h1] at h2; injection h2 with h2
      (first | lia | omega)
    · have hl : js.length = es.size := by rw [O.len]; simp
      constructor
      · intro q
        obtain ⟨⟨j, k'⟩, hm', rfl⟩ := List.mem_map.mp q
        have := (List.getElem?_eq_some_iff.mp ((hmem _ _).mp hm')).1
        exact List.mem_range.mpr (by rw [← hl]; exact this)
      · intro q
        have hk := List.mem_range.mp q
        rw [← hl] at hk
        exact List.mem_map.mpr ⟨(js[k], k), (hmem _ _).mpr (List.getElem?_eq_getElem hk), rfl⟩
  refine ⟨_, _, el, ?_, ?_, rfl, rfl, rfl, ?_⟩
  · rw [Array.toList_filterMap]
    exact (hord.filterMap _).trans (by rw [filterMap_getElem?_range])
  · have efl : ((live.map (·.2)).toArray.filterMap (es[·]?)).toList.map (·.1) = live.filterMap fun p => (es[p.2]?).map (·.1) := by
      rw [Array.toList_filterMap, List.filterMap_map, List.map_filterMap]; rfl
    have hlt : ∀ p ∈ live, p.2 < es.size := fun p hp => by
      have := (List.getElem?_eq_some_iff.mp ((hmem p.1 p.2).mp hp)).1
      rw [O.len] at this; simpa using this
    have efl2 : (live.filterMap fun p => (es[p.2]?).map (·.1)) = live.map fun p => (es.toList.map (·.1)).getD p.2 0 := by
      refine filterMap_all fun p hp => ?_
      have h := hlt p hp
      simp [h]
    rw [efl, efl2]
    have inj : ∀ j, j ∈ js → j ∈ live.map (·.1) := fun j hj => by
      obtain ⟨k, hk, rfl⟩ := List.getElem_of_mem hj
      exact List.mem_map.mpr ⟨(js[k], k), (hmem _ _).mpr (List.getElem?_eq_getElem hk), rfl⟩
    refine ⟨by simp, ?_, fun j hj => ?_, rfl, hm, fun i j h e1 e2 => ?_⟩
    · exact List.pairwise_map.mpr hpw
    · obtain ⟨⟨j', k'⟩, hp, rfl⟩ := List.mem_map.mp hj
      have := jlt k' j' ((hmem _ _).mp hp)
      show j' ≤ m; (first | lia | omega)
    · dsimp only at e1 ⊢
      rw [List.getElem?_map, Option.map_eq_some_iff] at e1 e2
      obtain ⟨p, hp, rfl⟩ := e1
      obtain ⟨p', hp', rfl⟩ := e2
      rw [hp] at hp'
      injection hp' with hp'
      subst hp'
      have hpm := List.mem_of_getElem? hp
      have h := hlt p hpm
      obtain ⟨N, a, b⟩ := O.reach p.2 p.1 ((es.toList.map (·.1)).getD p.2 0) ((hmem p.1 p.2).mp hpm) (by simp [h])
      exact ⟨N, a, fun k' hk' => inj _ (b k' hk')⟩
  · have := hord.length_eq
    simpa using this
end Mine

end

section
open PySem PyProof.Rows
set_option autoImplicit false
set_option maxRecDepth 100000
namespace Mine
noncomputable abbrev Mix := Int ⊕ Str
noncomputable def isMix : Mix → Value → Bool
  | .inl k, v => Value.isInt k v
  | .inr x, v => Value.isStrOf x v
noncomputable def hashMix (w : World) : Mix → Int
  | .inl k => hashInt k
  | .inr x => hashStr w x
theorem isMix_shape {k : Mix} {v : Value} (h : isMix k v = true) : (∃ n t, k = .inl n ∧ v = .int n t) ∨ (∃ x t, k = .inr x ∧ v = .str x t) := by
  cases k with
  | inl n => obtain ⟨t, rfl⟩ := Value.isInt_shape h; exact .inl ⟨n, t, rfl, rfl⟩
  | inr x => obtain ⟨t, rfl⟩ := Value.isStrOf_shape h; exact .inr ⟨x, t, rfl, rfl⟩
section
variable {prog : Program} {w : World} {A : Around} {E : Value → Shared → Prop} {s : Shared}
theorem eqBool_int_str {a : Int} {t : Tok} {b : Str} {u : Tok} {Q : Bool → Shared → Prop} (h : Q false s) : wpAny (model prog w) A (eqBool (.int a t) (.str b u)) Q E s := by
  unfold eqBool
  refine wpAny_holding ?_
  rw [if_neg (by intro e; have := eq_of_beq e; cases this)]
  exact wpAny_bind (EqMixed.eq_int_str (wpAny_truthy_bool h))
theorem eqBool_str_int {a : Str} {t : Tok} {b : Int} {u : Tok} {Q : Bool → Shared → Prop} (h : Q false s) : wpAny (model prog w) A (eqBool (.str a t) (.int b u)) Q E s := by
  unfold eqBool
  refine wpAny_holding ?_
  rw [if_neg (by intro e; have := eq_of_beq e; cases this)]
  exact wpAny_bind (EqMixed.eq_str_int (wpAny_truthy_bool h))
end
noncomputable def mixKind (prog : Program) (w : World) : KeyKind prog w Mix where
  is := isMix
  hash := hashMix w
  inj := fun v a b ha hb => by
    rcases isMix_shape ha with ⟨n, t, rfl, rfl⟩ | ⟨x, t, rfl, rfl⟩ <;> rcases isMix_shape hb with ⟨n', t', rfl, e⟩ | ⟨x', t', rfl, e⟩ <;> cases e <;> rfl
  byValue := fun k v h => by rcases isMix_shape h with ⟨n, t, rfl, rfl⟩ | ⟨x, t, rfl, rfl⟩ <;> rfl
  pyHash := fun hv h => by
    rcases isMix_shape hv with ⟨n, t, rfl, rfl⟩ | ⟨x, t, rfl, rfl⟩
    · exact wpAny_pyHash_int h
    · exact wpAny_pyHash_str h
  eqBool := fun hu hv h => by
    rcases isMix_shape hu with ⟨n, t, rfl, rfl⟩ | ⟨x, t, rfl, rfl⟩ <;> rcases isMix_shape hv with ⟨n', t', rfl, rfl⟩ | ⟨x', t', rfl, rfl⟩
    · refine wpAny_eqBool_int ?_
      rwa [show (n == n') = decide ((Sum.inl n : Mix) = .inl n') from by rw [Bool.eq_iff_iff]; simp]
    · exact eqBool_int_str (by simpa using h)
    · exact eqBool_str_int (by simpa using h)
    · refine wpAny_eqBool_str ?_
      rwa [show decide (x = x') = decide ((Sum.inr x : Mix) = .inr x') from by rw [Bool.eq_iff_iff]; simp]
  «strs» := fun k x t v h => by
    rcases isMix_shape h with ⟨n, t', rfl, e⟩ | ⟨y, t', rfl, e⟩
    · cases e
    · cases e
      show Value.isStrOf x v = v.isStr x
      cases v <;> rfl

noncomputable abbrev TK (prog : Program) (w : World) (h : Heap) (ks : List Mix) (a : Addr) : Prop := IsTupleKey (mixKind prog w) h ks a
noncomputable abbrev tkHash (prog : Program) (w : World) (ks : List Mix) : Int := tupleKeyHash (mixKind prog w) ks

section
variable {prog : Program} {w : World} {A : Around} {E : Value → Shared → Prop} {s : Shared}
theorem TK.items {h : Heap} {ks : List Mix} {a : Addr} (H : TK prog w h ks a) : ∃ o items n, h.get? a = some o ∧ o.cls = .type "tuple" ∧ o.data = .seq items n ∧ ∀ v ∈ items.toList, (∃ n t, v = .int n t) ∨ (∃ x t, v = .str x t) := by
  obtain ⟨o, items, n, h1, h2, h3, h4⟩ := H
  refine ⟨o, items, n, h1, h2, h3, ?_⟩
  have : ∀ (ks : List Mix) (l : List Value), ItemsAre (mixKind prog w) ks l → ∀ v ∈ l, (∃ n t, v = .int n t) ∨ (∃ x t, v = .str x t) := by
    intro ks l hl
    induction hl with
    | nil => intro v hv; cases hv
    | cons hk _ ih =>
      intro v hv
      rcases List.mem_cons.mp hv with rfl | hv
      · rcases isMix_shape hk with ⟨n, t, _, rfl⟩ | ⟨x, t, _, rfl⟩
        · exact .inl ⟨n, t, rfl⟩
        · exact .inr ⟨x, t, rfl⟩
      · exact ih v hv
  exact this ks _ h4
theorem cls_tuple {ks : List Mix} {a : Addr} {n : Nat} {Q : Bool → Shared → Prop} (H : TK prog w s.heap ks a) (h : Q false s) : wpAny (model prog w) A (ofAClassStatement (n + 1) (.ref a)) Q E s := by
  have hT := H.typeIs
  obtain ⟨o, items, nn, ho, hc, hd, hi⟩ := H.items
  unfold ofAClassStatement
  refine wpAny_bind (wpAny_typeOf hT ?_)
  dsimp only
  rw [if_pos (by decide)]
  refine wpAny_bind (wpAny_pure ?_)
  rw [if_neg (by decide)]
  refine wpAny_bind (wpAny_seqItems ho hd ?_)
  refine wpAny_bind ?_
  show wpAny _ _ (forIn items _ _) _ _ s
  rw [← Array.forIn_toList]
  refine wpAny_forIn_list _ (fun rest r s' => r.1 = none ∧ s' = s ∧ ∀ v ∈ rest, v ∈ items.toList) _ ?_ ?_ _ _ ⟨rfl, rfl, fun _ h => h⟩
  · rintro v rest r s' ⟨hr, rfl, hall⟩
    have e : ofAClassStatement n v = pure false := by
      rcases hi v (hall v (List.mem_cons_self ..)) with ⟨k, t, rfl⟩ | ⟨x, t, rfl⟩ <;> cases n <;> rfl
    rw [e]
    refine wpAny_bind (wpAny_pure ?_)
    simp only [Bool.false_eq_true, if_false]
    exact wpAny_pure ⟨rfl, rfl, fun u hu => hall u (List.mem_cons_of_mem _ hu)⟩
  · rintro ⟨r1, r2⟩ s' ⟨hr, rfl, _⟩
    simp only at hr
    subst hr
    exact wpAny_pure h
theorem unseen {ks : List Mix} {x : Addr} {stored : List Value} {Q : Bool → Shared → Prop} (H : TK prog w s.heap ks x) (hs : ∀ v ∈ stored, ∃ a ks, v = .ref a ∧ TK prog w s.heap ks a) (h : Q false s) :
    wpAny (model prog w) A (searchCouldBeSeen (.ref x) stored) Q E s := by
  unfold searchCouldBeSeen
  refine wpAny_bind ?_
  refine wpAny_forIn_list _ (fun rest r s' => r.1 = none ∧ s' = s ∧ ∀ v ∈ rest, v ∈ stored) _ ?_ ?_ _ _ ⟨rfl, rfl, fun _ h => h⟩
  · rintro v rest r s' ⟨hr, rfl, hall⟩
    obtain ⟨a, ks', rfl, H'⟩ := hs v (hall v (List.mem_cons_self ..))
    dsimp only
    split
    · exact wpAny_pure ⟨rfl, rfl, fun u hu => hall u (List.mem_cons_of_mem _ hu)⟩
    · refine wpAny_bind (wpAny_eqIsQuiet_tuple H ?_)
      simp only [Bool.not_true, Bool.false_eq_true, if_false]
      refine wpAny_bind (wpAny_eqIsQuiet_tuple H' ?_)
      simp only [Bool.not_true, Bool.false_eq_true, if_false]
      refine wpAny_bind (cls_tuple H ?_)
      simp only [Bool.false_eq_true, if_false]
      refine wpAny_bind (cls_tuple H' ?_)
      simp only [Bool.false_eq_true, if_false]
      exact wpAny_pure ⟨rfl, rfl, fun u hu => hall u (List.mem_cons_of_mem _ hu)⟩
  · rintro ⟨r1, r2⟩ s' ⟨hr, rfl, _⟩
    simp only at hr
    subst hr
    exact wpAny_pure h
theorem byValue_tuple {ks : List Mix} {a : Addr} {n : Nat} {Q : Bool → Shared → Prop} (H : TK prog w s.heap ks a) (h : ∀ b, Q b s) : wpAny (model prog w) A (hashByValue (n + 1) (.ref a)) Q E s := by
  have hT := H.typeIs
  obtain ⟨o, items, nn, ho, hc, hd, hi⟩ := H.items
  unfold hashByValue
  refine wpAny_bind (wpAny_specialOf hT F.slot_tuple_hash.lookup ?_)
  refine wpAny_bind (wpAny_seqItems ho hd ?_)
  refine wpAny_bind ?_
  show wpAny _ _ (forIn items _ _) _ _ s
  rw [← Array.forIn_toList]
  refine wpAny_forIn_list _ (fun rest r s' => s' = s ∧ ∀ v ∈ rest, v ∈ items.toList) _ ?_ ?_ _ _ ⟨rfl, fun _ h => h⟩
  · rintro v rest r s' ⟨rfl, hall⟩
    obtain ⟨b, e⟩ : ∃ b, hashByValue n v = pure b := by
      rcases hi v (hall v (List.mem_cons_self ..)) with ⟨k, t, rfl⟩ | ⟨x, t, rfl⟩ <;> cases n <;> exact ⟨_, rfl⟩
    rw [e]
    refine wpAny_bind (wpAny_pure ?_)
    cases b with
    | true =>
      simp only [Bool.not_true, Bool.false_eq_true, if_false]
      exact wpAny_pure ⟨rfl, fun u hu => hall u (List.mem_cons_of_mem _ hu)⟩
    | false =>
      simp only [Bool.not_false, if_true]
      exact wpAny_pure (wpAny_pure (h _))
  · rintro ⟨r1, r2⟩ s' ⟨rfl, _⟩
    cases r1 <;> exact wpAny_pure (h _)
end
end Mine

end

section
open PySem PyProof.Rows
set_option autoImplicit false
set_option maxRecDepth 100000
namespace Mine
/-- a table of tuples: every entry is one, its hash is the model's -/
noncomputable def Ents (prog : Program) (w : World) (h : Heap) (es : List (Int × Value)) (ms : List (List Mix × Addr)) : Prop :=
  es = ms.map (fun p => (tkHash prog w p.1, Value.ref p.2)) ∧ ∀ p ∈ ms, TK prog w h p.1 p.2
noncomputable abbrev setObj (es : Array (Int × Value)) (ep : Nat) (t : SetTable) : Obj := { cls := .type "set", dict := none, data := .set es ep t, slots := #[] }
section
variable {prog : Program} {w : World} {A : Around} {E : Value → Shared → Prop} {s : Shared}

theorem Ents.get {h : Heap} {es : List (Int × Value)} {ms : List (List Mix × Addr)} (H : Ents prog w h es ms) {i : Nat} {e : Int × Value} (hi : es[i]? = some e) :
    ∃ ks a, ms[i]? = some (ks, a) ∧ e = (tkHash prog w ks, .ref a) ∧ TK prog w h ks a := by
  rw [H.1, List.getElem?_map, Option.map_eq_some_iff] at hi
  obtain ⟨⟨ks, a⟩, h1, rfl⟩ := hi
  exact ⟨ks, a, h1, rfl, H.2 _ (List.mem_of_getElem? h1)⟩

theorem isSame_ref {a : Addr} {Q : Bool → Shared → Prop} (h : Q true s) : wpAny (model prog w) A (isSame (.ref a) (.ref a)) Q E s := by
  unfold isSame
  show wpAny _ _ (if (a == a) = true then _ else _) _ _ _
  rw [if_pos (by simp)]
  exact wpAny_pure h

theorem led_if {α : Type} {M : Model} {A : Around} {E : Value → Shared → Prop} {s : Shared} {Q : α → Shared → Prop} {led : Bool} {S : Sem Bool} {U : Bool → Sem α} {J : Sem α} (hS : ∀ Q' : Bool → Shared → Prop, Q' false s → wpAny M A S Q' E s) (hJ : wpAny M A J Q E s) :
    wpAny M A (if (!led) = true then S >>= fun b => if b = true then U b else J else J) Q E s := by
  cases led
  · exact wpAny_bind (hS _ hJ)
  · exact hJ

/-- the search from a stand on the road -/
theorem search_from {S x : Addr} {ks : List Mix} {es : Array (Int × Value)} {ep : Nat} {t : SetTable} {ms : List (List Mix × Addr)} {Q : SetFound → Shared → Prop} (hu : A.units < cLine)
    (ho : s.heap.get? S = some (setObj es ep t)) (T : Tab t (es.toList.map (·.1))) (H : Ents prog w s.heap es.toList ms) (hx : TK prog w s.heap ks x)
    {N : Nat} (hN : (itr t.mask N (start t.mask (tkHash prog w ks))).j ∉ t.place.toList) (hB : ∀ k < N, (itr t.mask k (start t.mask (tkHash prog w ks))).j ∈ t.place.toList)
    (hthere : ks ∈ ms.map (·.1) → Q (.there none) s)
    (hfree : ks ∉ ms.map (·.1) → Q (.free (itr t.mask N (start t.mask (tkHash prog w ks))).j false) s) :
    ∀ (d n fuel : Nat) (stand : Option Pr), N - n = d → n ≤ N → N - n < fuel → stand.getD (t.probeStart (tkHash prog w ks)) = itr t.mask n (start t.mask (tkHash prog w ks)) →
      (∀ k < n, ∀ i : Nat, t.place.toList[i]? = some (itr t.mask k (start t.mask (tkHash prog w ks))).j → ∀ p : List Mix × Addr, ms[i]? = some p → p.1 ≠ ks) →
      wpAny (model prog w) A (setSearchFrom S (.ref x) (tkHash prog w ks) true fuel stand) Q E s := by
  have hlen : es.toList.length = ms.length := by rw [H.1, List.length_map]
  have hfit : t.fits es.size = true := T.fits (by simp)
  have hgave : t.gaveWay = false := by
    unfold SetTable.gaveWay
    rcases T.mask with e | e | e <;> rw [e] <;> rfl
  have hnodup : ∀ i i' j : Nat, t.place.toList[i]? = some j → t.place.toList[i']? = some j → i = i' := fun i i' j h1 h2 => by
    obtain ⟨l1, e1⟩ := List.getElem?_eq_some_iff.mp h1
    obtain ⟨l2, e2⟩ := List.getElem?_eq_some_iff.mp h2
    have P := List.pairwise_iff_getElem.mp T.sorted
    rcases Nat.lt_trichotomy i i' with h | h | h
    · have := P i i' l1 l2 h; (first | lia | omega)
    · exact h
    · have := P i' i l2 l1 h; (first | lia | omega)
  intro d
  induction d using Nat.strongRecOn with
  | _ d ih =>
    intro n fuel stand hd hn hf hs hpast
    obtain ⟨f, rfl⟩ : ∃ f, fuel = f + 1 := ⟨fuel - 1, by (first | lia | omega)⟩
    have hok : OkP t.mask (itr t.mask n (start t.mask (tkHash prog w ks))) := (start_ok _ _).itr
    obtain ⟨N', hN', hno', hall'⟩ := T.first hok
    have eN : n + N' = N := by
      rw [← itr_add] at hno'
      have h1 : ¬ n + N' < N := fun h => hno' (hB _ h)
      have h2 : ¬ N < n + N' := fun h => by
        have := hall' (N - n) (by (first | lia | omega))
        rw [← itr_add, show n + (N - n) = N by (first | lia | omega)] at this
        exact hN this
      (first | lia | omega)
    unfold setSearchFrom
    refine wpAny_bind (wpAny_setState_of ho rfl hfit ?_)
    dsimp only
    rw [hgave]
    simp only [Bool.false_eq_true, if_false]
    have pg := probe_go T.sorted T.nod (fun i => (es[i]?.map (·.1)).getD 0) (tkHash prog w ks) N' (10 * SetTable.turns t.mask) (itr t.mask n (start t.mask (tkHash prog w ks))) hN' hok.dm hno' hall'
    have hEs : ∀ i : Nat, ∀ e, es[i]? = some e → ∃ ks' a, ms[i]? = some (ks', a) ∧ e = (tkHash prog w ks', .ref a) ∧ TK prog w s.heap ks' a := fun i e he => H.get (by rw [Array.getElem?_toList]; exact he)
    have ePr : ∀ st : Option Pr, st.getD (t.probeStart (tkHash prog w ks)) = itr t.mask n (start t.mask (tkHash prog w ks)) → True := fun _ _ => trivial
    rw [hs]
    -- a live place of the table is an entry
    have live : ∀ (i j : Nat), t.place.toList[i]? = some j → ∃ ks' a, ms[i]? = some (ks', a) ∧ es[i]? = some (tkHash prog w ks', .ref a) ∧ TK prog w s.heap ks' a := fun i j hp => by
      have hi : i < es.size := by
        have := (List.getElem?_eq_some_iff.mp hp).1
        have := T.len
        simp at *; (first | lia | omega)
      obtain ⟨ks', a, h1, h2, h3⟩ := hEs i _ (Array.getElem?_eq_getElem hi)
      exact ⟨ks', a, h1, by rw [Array.getElem?_eq_getElem hi, h2], h3⟩
    have past' : ∀ m, (∀ k < m, ∃ i : Nat, t.place.toList[i]? = some (itr t.mask k (itr t.mask n (start t.mask (tkHash prog w ks)))).j ∧ (es[i]?.map (·.1)).getD 0 ≠ tkHash prog w ks) →
        ∀ k < n + m, ∀ i : Nat, t.place.toList[i]? = some (itr t.mask k (start t.mask (tkHash prog w ks))).j → ∀ p : List Mix × Addr, ms[i]? = some p → p.1 ≠ ks := fun m hm k hk i hi p hp => by
      by_cases hkn : k < n
      · exact hpast k hkn i hi p hp
      · obtain ⟨i', h1, h2⟩ := hm (k - n) (by (first | lia | omega))
        rw [← itr_add, show n + (k - n) = k by (first | lia | omega)] at h1
        have := hnodup _ _ _ hi h1
        subst this
        obtain ⟨ks', a, g1, g2, _⟩ := live i _ hi
        rw [hp] at g1
        injection g1 with g1
        subst g1
        intro e
        dsimp only at e
        rw [g2, e] at h2
        exact h2 rfl
    rcases pg with ⟨g1, g2⟩ | ⟨m, i, hm, g1, g2, g3, g4⟩
    · have e1 : t.probe (fun i => (es[i]?.map (·.1)).getD 0) (tkHash prog w ks) (itr t.mask n (start t.mask (tkHash prog w ks))) = some (.empty (itr t.mask N (start t.mask (tkHash prog w ks))).j none) := by
        unfold SetTable.probe; rw [g1, ← itr_add, eN]
      show wpAny _ _ (match t.probe (fun i => (es[i]?.map (·.1)).getD 0) (tkHash prog w ks) (itr t.mask n (start t.mask (tkHash prog w ks))) with | some met => _ | _ => _) _ _ _
      rw [e1]
      refine wpAny_pure (hfree fun hmem => ?_)
      obtain ⟨p, hp, rfl⟩ := List.mem_map.mp hmem
      obtain ⟨i, hi, hip⟩ := List.getElem_of_mem hp
      have hip' : ms[i]? = some p := by rw [List.getElem?_eq_getElem hi, hip]
      have hi2 : i < t.place.toList.length := by have := T.len; simp at *; (first | lia | omega)
      obtain ⟨k, r1, r2⟩ := T.reach i (t.place.toList[i]) (tkHash prog w p.1) (List.getElem?_eq_getElem hi2) (by rw [H.1, List.map_map, List.getElem?_map, hip']; rfl)
      have hkN : k < N := by
        apply Nat.lt_of_not_le
        intro hge
        by_cases e : k = N
        · subst e; exact hN (by rw [r1]; exact List.getElem_mem hi2)
        · exact hN (r2 N (by (first | lia | omega)))
      refine past' N' g2 k (by (first | lia | omega)) i ?_ p hip' rfl
      rw [r1]; exact List.getElem?_eq_getElem hi2
    · have e1 : t.probe (fun i => (es[i]?.map (·.1)).getD 0) (tkHash prog w ks) (itr t.mask n (start t.mask (tkHash prog w ks))) = some (.candidate (itr t.mask (n + m) (start t.mask (tkHash prog w ks))).j i (itr t.mask (n + m + 1) (start t.mask (tkHash prog w ks)))) := by
        unfold SetTable.probe; rw [g3, ← itr_add, ← itr_add, Nat.add_assoc]
      rw [← itr_add] at g1
      obtain ⟨ks', a, q1, q2, q3⟩ := live i _ g1
      show wpAny _ _ (match t.probe (fun i => (es[i]?.map (·.1)).getD 0) (tkHash prog w ks) (itr t.mask n (start t.mask (tkHash prog w ks))) with | some met => _ | _ => _) _ _ _
      rw [e1]
      dsimp only
      have rest : ∀ Q' : Bool → Shared → Prop, Q' (decide (ks' = ks)) s → wpAny (model prog w) A (holding [Value.ref a] (eqBool (.ref a) (.ref x))) Q' E s := fun Q' h => wpAny_holding (wpAny_eqBool_tuple hu q3 hx h)
      refine led_if (fun Q' hQ => unseen hx ?hv hQ) ?_
      case hv =>
          intro v hv
          obtain ⟨e, he, rfl⟩ := List.mem_map.mp hv
          rw [Array.toList_filter] at he
          have he' := (List.mem_filter.mp he).1
          rw [H.1] at he'
          obtain ⟨p, hp, rfl⟩ := List.mem_map.mp he'
          exact ⟨p.2, p.1, rfl, H.2 p hp⟩
      · try dsimp only
        rw [q2]
        refine wpAny_bind (rest _ ?_)
        refine wpAny_bind (wpAny_setState_of ho rfl hfit ?_)
        dsimp only
        by_cases hk : ks' = ks
        · rw [if_pos (by simp [hk])]
          refine wpAny_pure (hthere ?_)
          subst hk
          exact List.mem_map.mpr ⟨_, List.mem_of_getElem? q1, rfl⟩
        · rw [if_neg (by simp [hk])]
          have es0 : t.sameMemory t.moves t.mask = some true := by unfold SetTable.sameMemory; simp
          rw [es0]
          dsimp only
          rw [if_pos rfl]
          obtain ⟨i', sl, sl2⟩ : ∃ i', t.slot (itr t.mask (n + m) (start t.mask (tkHash prog w ks))).j = .live i' ∧ t.place.toList[i']? = some (itr t.mask (n + m) (start t.mask (tkHash prog w ks))).j := by
            rcases slot_is T.sorted T.nod (itr t.mask (n + m) (start t.mask (tkHash prog w ks))).j with h | ⟨_, h⟩
            · exact h
            · exact absurd (List.mem_of_getElem? g1) h
          have ei := hnodup _ _ _ sl2 g1
          subst ei
          rw [sl]
          dsimp only
          rw [q2]
          refine wpAny_bind (isSame_ref ?_)
          refine wpAny_bind (wpAny_pure ?_)
          rw [if_pos rfl]
          dsimp only
          rw [if_neg (by simp [hk])]
          · refine ih (N - (n + m + 1)) (by (first | lia | omega)) (n + m + 1) f (some _) rfl (by (first | lia | omega)) (by (first | lia | omega)) rfl fun k hk' i₂ hi₂ p hp => ?_
            by_cases hke : k < n + m
            · exact past' m g4 k hke i₂ hi₂ p hp
            · have : k = n + m := by (first | lia | omega)
              subst this
              have := hnodup _ _ _ hi₂ g1
              subst this
              rw [q1] at hp
              injection hp with hp
              subst hp
              exact hk
end
end Mine

end

section
open PySem PyProof.Rows
set_option autoImplicit false
set_option maxRecDepth 100000
namespace Mine
theorem perm_map_inv {α β : Type} {f : α → β} {l l2 : List β} (h : l.Perm l2) : ∀ {m : List α}, l2 = m.map f → ∃ m' : List α, m'.Perm m ∧ l = m'.map f := by
  induction h with
  | nil => intro m e; exact ⟨m, .refl _, e⟩
  | cons a _ ih =>
    intro m e
    cases m with
    | nil => cases e
    | cons b m =>
      rw [List.map_cons] at e
      injection e with e1 e2
      obtain ⟨m', h1, h2⟩ := ih e2
      exact ⟨b :: m', h1.cons _, by rw [List.map_cons, ← e1, h2]⟩
  | swap a b l =>
    intro m e
    cases m with
    | nil => cases e
    | cons x m =>
      cases m with
      | nil => rw [List.map_cons] at e; injection e with _ e; cases e
      | cons y m =>
        simp only [List.map_cons, List.cons.injEq] at e
        obtain ⟨rfl, rfl, rfl⟩ := e
        exact ⟨y :: x :: m, .swap .., rfl⟩
  | trans _ _ ih1 ih2 =>
    intro m e
    obtain ⟨m2, h1, h2⟩ := ih2 e
    obtain ⟨m1, h3, h4⟩ := ih1 h2
    exact ⟨m1, h3.trans h1, h4⟩
theorem insL_perm {α : Type} (l : List α) (p : Nat) (x : α) : (insL l p x).Perm (l ++ [x]) := by
  unfold insL
  have e : l = l.take p ++ l.drop p := (List.take_append_drop p l).symm
  exact List.perm_middle.trans ((List.Perm.cons x (by rw [← e])).trans (List.perm_append_singleton x l).symm)
theorem insL_map {α β : Type} (f : α → β) (l : List α) (p : Nat) (x : α) : (insL l p x).map f = insL (l.map f) p (f x) := by
  unfold insL; rw [List.map_append, List.map_cons, List.map_take, List.map_drop]
section
variable {prog : Program} {w : World} {A : Around} {E : Value → Shared → Prop} {s : Shared}
theorem Ents.put {h : Heap} {es : List (Int × Value)} {ms : List (List Mix × Addr)} (H : Ents prog w h es ms) {ks : List Mix} {x : Addr} (hx : TK prog w h ks x) (p : Nat) :
    Ents prog w h (insL es p (tkHash prog w ks, .ref x)) (insL ms p (ks, x)) := by
  refine ⟨by rw [insL_map, H.1], fun q hq => ?_⟩
  rcases List.mem_append.mp ((insL_perm ms p (ks, x)).mem_iff.mp hq) with hq | hq
  · exact H.2 q hq
  · rw [List.mem_singleton.mp hq]; exact hx
theorem Ents.perm {h : Heap} {es es' : List (Int × Value)} {ms : List (List Mix × Addr)} (H : Ents prog w h es ms) (hp : es'.Perm es) : ∃ ms', ms'.Perm ms ∧ Ents prog w h es' ms' := by
  obtain ⟨ms', h1, h2⟩ := perm_map_inv hp H.1
  exact ⟨ms', h1, h2, fun q hq => H.2 q (h1.mem_iff.mp hq)⟩
theorem sizeAbove_20 : SetTable.sizeAbove 20 = 32 := by decide
theorem sizeAbove_76 : SetTable.sizeAbove 76 = 128 := by decide
theorem put_get {h : Heap} {S : Addr} {es es' : Array (Int × Value)} {ep : Nat} {t t' : SetTable} (ho : h.get? S = some (setObj es ep t)) : (h.update S (Obj.putSet es' t')).get? S = some (setObj es' (ep + 1) t') := by
  have := Heap.get?_update_self (Obj.putSet es' t') ho (by rw [putSet_of es' t' rfl]; rfl)
  rw [putSet_of es' t' rfl] at this; exact this
theorem set_add {S x : Addr} {ks : List Mix} {es : Array (Int × Value)} {ep : Nat} {t : SetTable} {ms : List (List Mix × Addr)} {Q : Bool → Shared → Prop} (hu : A.units < cLine)
    (ho : s.heap.get? S = some (setObj es ep t)) (T : Tab t (es.toList.map (·.1))) (H : Ents prog w s.heap es.toList ms) (hx : TK prog w s.heap ks x) (hz : es.size ≤ 40)
    (hthere : ks ∈ ms.map (·.1) → ∀ tk, Q false { s with toks := tk })
    (hnew : ks ∉ ms.map (·.1) → ∀ h' es' ep' t' ms' tk, Heap.SameBut S s.heap h' → h'.get? S = some (setObj es' ep' t') → Tab t' (es'.toList.map (·.1)) → Ents prog w s.heap es'.toList ms' → t'.led = t.led →
      ms'.Perm (ms ++ [(ks, x)]) → Q true { s with heap := h', toks := tk }) : wpAny (model prog w) A (setAdd S (.ref x)) Q E s := by
  unfold setAdd
  refine wpAny_holding (wpAny_bind (wpAny_pyHash_tuple hu hx ?_))
  unfold setAddHashed
  refine wpAny_holding ?_
  generalize htk : s.toks + (ks.length + 1) = tk
  have fit : t.fits es.size = true := T.fits (by simp)
  obtain ⟨N, hN1, hN2, hN3⟩ := T.first (start_ok t.mask (tkHash prog w ks))
  have hN : N < 100000 := by
    have : SetTable.turns t.mask ≤ 142 := by unfold SetTable.turns; rcases T.mask with e | e | e <;> (first | lia | omega)
    (first | lia | omega)
  show wpAny _ _ (setAddHashedIn S (.ref x) (tkHash prog w ks) 100000) _ _ _
  have e100 : (100000 : Nat) = 99999 + 1 := rfl
  rw [e100]
  unfold setAddHashedIn
  refine wpAny_bind (wpAny_setState_of (s := { s with toks := tk }) ho rfl fit ?_)
  dsimp only
  have hscan : byScan (.ref x) es = false := rfl
  rw [hscan]
  simp only [Bool.false_eq_true, if_false]
  unfold setSearch
  refine wpAny_bind (search_from (s := { s with toks := tk }) hu ho T H hx hN2 hN3 (fun hm => ?_) (fun hm => ?_) N 0 100000 none (by (first | lia | omega)) (by (first | lia | omega)) (by (first | lia | omega)) rfl (fun k hk => by (first | lia | omega)))
  · dsimp only
    exact wpAny_pure (hthere hm tk)
  · dsimp only
    refine wpAny_bind (wpAny_setState_of (s := { s with toks := tk }) ho rfl fit ?_)
    dsimp only
    obtain ⟨p1, p2, p3, p4, p5, p6⟩ := put_tab T.toTabW (h := tkHash prog w ks) hN2 hN3 rfl
    generalize hput : t.put (itr t.mask N (start t.mask (tkHash prog w ks))).j = tp at p1 p2 p3 p4 p5 p6
    obtain ⟨t1, p⟩ := tp
    dsimp only at p1 p2 p3 p4 p5 p6 ⊢
    -- whatever the mark of values by themselves
    have main : ∀ pl : Bool, wpAny (model prog w) A (storeSet S (SetTable.insertAt es p (tkHash prog w ks, .ref x)) { t1 with plain := pl } >>= fun _ => if (!false && ({ t1 with plain := pl } : SetTable).tooFull) = true then setRelay S (SetTable.grown (es.size + 1)) >>= fun _ => pure true else pure true) Q E { s with toks := tk } := fun pl => by
      have eI : (SetTable.insertAt es p (tkHash prog w ks, Value.ref x)).toList = insL es.toList p (tkHash prog w ks, .ref x) := SetTable.toList_insertAt _ _ _
      have hsz : (SetTable.insertAt es p (tkHash prog w ks, Value.ref x)).size = es.size + 1 := by
        have := (SetTable.insertAt_perm es p (tkHash prog w ks, Value.ref x)).length_eq
        simpa using this
      have TW : TabW { t1 with plain := pl } ((SetTable.insertAt es p (tkHash prog w ks, Value.ref x)).toList.map (·.1)) := by
        rw [eI, insL_map]; exact ⟨p2.len, p2.sorted, p2.inR, p2.nod, p2.mask, p2.reach⟩
      have H1 : Ents prog w s.heap (SetTable.insertAt es p (tkHash prog w ks, Value.ref x)).toList (insL ms p (ks, x)) := by rw [eI]; exact H.put hx p
      have hpm : (insL ms p (ks, x)).Perm (ms ++ [(ks, x)]) := insL_perm _ _ _
      have hn : t.place.size = es.size := by have := T.len; simpa using this
      refine wpAny_bind (wpAny_storeSet_of (s := { s with toks := tk }) ho rfl ?_ (by rw [hsz, sizeLine_eq]; (first | lia | omega)))
      have g1 : (s.heap.update S (Obj.putSet (SetTable.insertAt es p (tkHash prog w ks, Value.ref x)) { t1 with plain := pl })).get? S = some (setObj _ _ _) := put_get ho
      have sb1 : Heap.SameBut S s.heap (s.heap.update S (Obj.putSet (SetTable.insertAt es p (tkHash prog w ks, Value.ref x)) { t1 with plain := pl })) := Heap.SameBut.update ..
      by_cases hfull : ({ t1 with plain := pl } : SetTable).tooFull = true
      · rw [hfull]
        simp only [Bool.not_false, Bool.and_self, if_true]
        have hfl : (es.size + 1) * 5 ≥ t.mask * 3 := by
          unfold SetTable.tooFull SetTable.fill at hfull
          have : t1.dummies.size = 0 := by rw [p2.nod]; rfl
          dsimp only at hfull
          rw [this, p6, hn, p3] at hfull
          simpa using hfull
        have hgr : SetTable.grown (es.size + 1) = (es.size + 1) * 4 := by unfold SetTable.grown; rw [if_neg (by (first | lia | omega))]
        have hroom := T.room
        rw [hn] at hroom
        obtain ⟨m', hm', hab, hlow⟩ : ∃ m', Mk m' ∧ SetTable.sizeAbove ((es.size + 1) * 4) = m' + 1 ∧ (es.size + 1) * 5 < m' * 3 := by
          rcases T.mask with e | e | e
          · have : es.size = 4 := by (first | lia | omega)
            rw [this]; exact ⟨31, .inr (.inl rfl), sizeAbove_20, by (first | lia | omega)⟩
          · have : es.size = 18 := by (first | lia | omega)
            rw [this]; exact ⟨127, .inr (.inr rfl), sizeAbove_76, by (first | lia | omega)⟩
          · (first | lia | omega)
        refine wpAny_bind ?_
        unfold setRelay
        refine wpAny_bind (wpAny_setState_of (s := { s with toks := tk, heap := _ }) g1 rfl (by
          have h0 : t1.dummies.size = 0 := by rw [p2.nod]; rfl
          unfold SetTable.fits SetTable.fill
          show (t1.place.size == _ && decide (t1.place.size + t1.dummies.size ≤ t1.mask)) = true
          rw [h0, p6, hn, hsz, p3]
          have : es.size + 1 ≤ t.mask := by (first | lia | omega)
          simp [this]) ?_)
        dsimp only
        rw [hgr, hab, if_neg (by rw [sizeLine_eq]; rcases hm' with e | e | e <;> rw [e] <;> decide)]
        obtain ⟨t2, order, l1, l2, l3, l4, l5, l6, l7⟩ := laid_ok hm' (SetTable.insertAt es p (tkHash prog w ks, Value.ref x)) (by rw [hsz]; (first | lia | omega)) t1.finger (t1.movedTo (m' + 1 - 1)) t1.led pl
        have hre : ({ t1 with plain := pl } : SetTable).relaid ((SetTable.insertAt es p (tkHash prog w ks, Value.ref x)).map (·.1)) ((es.size + 1) * 4) = some (t2, order) := by
          unfold SetTable.relaid; rw [hab]; exact l1
        rw [hre]
        have hsz2 : (order.filterMap ((SetTable.insertAt es p (tkHash prog w ks, Value.ref x))[·]?)).size = es.size + 1 := by
          have := l2.length_eq
          simp only [Array.length_toList] at this
          rw [this, hsz]
        have hre2 : wpAny (model prog w) A (do
            let es' := order.filterMap ((SetTable.insertAt es p (tkHash prog w ks, Value.ref x))[·]?)
            if es'.size != (SetTable.insertAt es p (tkHash prog w ks, Value.ref x)).size then unsupported "internal:set-table-lost-an-element"
            pure (es', t2)) (fun r s' => r = (order.filterMap ((SetTable.insertAt es p (tkHash prog w ks, Value.ref x))[·]?), t2) ∧ s' = { s with heap := s.heap.update S (Obj.putSet (SetTable.insertAt es p (tkHash prog w ks, Value.ref x)) { t1 with plain := pl }), toks := tk }) E { s with heap := s.heap.update S (Obj.putSet (SetTable.insertAt es p (tkHash prog w ks, Value.ref x)) { t1 with plain := pl }), toks := tk } := by
          dsimp only
          rw [hsz2, hsz]
          rw [if_neg (by simp)]
          exact wpAny_pure ⟨rfl, rfl⟩
        refine wpAny_bind (wpAny_mono hre2 (fun r s' hr => ?_) fun _ _ e => e)
        obtain ⟨rfl, rfl⟩ := hr
        dsimp only
        refine wpAny_storeSet_of (s := { s with toks := tk, heap := _ }) g1 rfl ?_ (by rw [hsz2, sizeLine_eq]; (first | lia | omega))
        refine wpAny_pure ?_
        obtain ⟨ms2, q1, q2⟩ := H1.perm l2
        have T2 : Tab t2 ((order.filterMap ((SetTable.insertAt es p (tkHash prog w ks, Value.ref x))[·]?)).toList.map (·.1)) := ⟨l3, by rw [l7, hsz, l6]; exact hlow⟩
        refine hnew hm _ _ _ t2 ms2 _ ?_ (put_get g1) T2 q2 (by rw [l4, p4]) (q1.trans hpm)
        exact ⟨(Heap.SameBut.update ..).1.trans sb1.1, fun b hb => ((Heap.SameBut.update ..).2 b hb).trans (sb1.2 b hb)⟩
      · rw [Bool.not_eq_true] at hfull
        rw [hfull]
        simp only [Bool.and_false, Bool.false_eq_true, if_false]
        refine wpAny_pure (hnew hm _ _ _ _ _ _ sb1 g1 ⟨TW, ?_⟩ H1 p4 hpm)
        unfold SetTable.tooFull SetTable.fill at hfull
        have h0 : t1.dummies.size = 0 := by rw [p2.nod]; rfl
        dsimp only at hfull ⊢
        rw [h0] at hfull
        simpa using hfull
    have eta : ∀ pl : Bool, t1.plain = pl → t1 = { t1 with plain := pl } := fun pl e => by subst e; rfl
    cases hpl : t1.plain with
    | true =>
      simp only [if_true]
      refine wpAny_bind (byValue_tuple (s := { s with toks := tk }) hx fun b => ?_)
      cases b with
      | true =>
        simp only [if_true]
        rw [eta true hpl]
        exact main true
      | false =>
        simp only [Bool.false_eq_true, if_false]
        exact main false
    | false =>
      simp only [Bool.false_eq_true, if_false]
      refine wpAny_bind (wpAny_pure ?_)
      simp only [if_true]
      rw [eta false hpl]
      exact main false
end
end Mine

end

section
open PySem PyProof.Rows
set_option autoImplicit false
set_option maxRecDepth 100000
namespace Mine
/-- what stands in the set when `done` has been put in -/
structure Held (done ms : List (List Mix × Addr)) : Prop where
  sub : ∀ p ∈ ms, p ∈ done
  nd : (ms.map (·.1)).Nodup
  all : ∀ q ∈ done, q.1 ∈ ms.map (·.1)
theorem Held.nil : Held [] [] := ⟨fun _ h => (nomatch h), List.nodup_nil, fun _ h => (nomatch h)⟩
theorem Held.seen {done ms : List (List Mix × Addr)} (H : Held done ms) {p : List Mix × Addr} (h : p.1 ∈ ms.map (·.1)) : Held (done ++ [p]) ms :=
  ⟨fun q hq => List.mem_append.mpr (.inl (H.sub q hq)), H.nd, fun q hq => by
    rcases List.mem_append.mp hq with hq | hq
    · exact H.all q hq
    · rw [List.mem_singleton.mp hq]; exact h⟩
theorem Held.new {done ms ms' : List (List Mix × Addr)} (H : Held done ms) {p : List Mix × Addr} (h : p.1 ∉ ms.map (·.1)) (hp : ms'.Perm (ms ++ [p])) : Held (done ++ [p]) ms' :=
  ⟨fun q hq => by
    rcases List.mem_append.mp (hp.mem_iff.mp hq) with hq | hq
    · exact List.mem_append.mpr (.inl (H.sub q hq))
    · exact List.mem_append.mpr (.inr hq),
   by
    rw [(hp.map _).nodup_iff, List.map_append]
    refine List.nodup_append.mpr ⟨H.nd, by simp, fun a ha b hb e => ?_⟩
    rw [List.map_cons, List.map_nil, List.mem_singleton] at hb
    subst e; subst hb
    exact h ha,
   fun q hq => by
    refine (hp.map _).mem_iff.mpr ?_
    rw [List.map_append]
    rcases List.mem_append.mp hq with hq | hq
    · exact List.mem_append.mpr (.inl (H.all q hq))
    · exact List.mem_append.mpr (.inr (List.mem_map_of_mem hq))⟩
section
variable {prog : Program} {w : World} {A : Around} {E : Value → Shared → Prop} {R : Result → Shared → Prop}
theorem TK.keep {h h' : Heap} {ks : List Mix} {a : Addr} (H : TK prog w h ks a) (hk : ∀ o, h.get? a = some o → o.cls = .type "tuple" → h'.get? a = some o) : TK prog w h' ks a := by
  obtain ⟨o, items, n, h1, h2, h3⟩ := H
  exact ⟨o, items, n, hk o h1 h2, h2, h3⟩
theorem Ents.keep {h h' : Heap} {es : List (Int × Value)} {ms : List (List Mix × Addr)} (H : Ents prog w h es ms) (hk : ∀ a o, h.get? a = some o → o.cls = .type "tuple" → h'.get? a = some o) : Ents prog w h' es ms :=
  ⟨H.1, fun p hp => (H.2 p hp).keep (hk p.2)⟩
theorem update_loop {S I l : Addr} (hh : A.in1.handled = none) (hSI : S ≠ I) (hSl : S ≠ l) (hlI : l ≠ I) (xs : List (List Mix × Addr)) (hu : A.in1.units < cLine) (hn : xs.length ≤ 40) :
    ∀ (k i : Nat) (s : Shared) (es : Array (Int × Value)) (ep : Nat) (t : SetTable) (ms : List (List Mix × Addr)), xs.length - i = k → i ≤ xs.length → s.heap.IsListIter I l i → s.heap.IsList l (xs.map fun p => Value.ref p.2).toArray →
      (∀ p ∈ xs, TK prog w s.heap p.1 p.2) → s.heap.get? S = some (setObj es ep t) → Tab t (es.toList.map (·.1)) → Ents prog w s.heap es.toList ms → Held (xs.take i) ms →
      (∀ h' tk es' ep' t' ms', (∀ b o, b ≠ S → b ≠ I → s.heap.get? b = some o → h'.get? b = some o) → h'.get? S = some (setObj es' ep' t') → Tab t' (es'.toList.map (·.1)) → Ents prog w h' es'.toList ms' → t'.led = t.led → Held xs ms' →
        R (.ok (.ret .none)) { s with heap := h', toks := tk }) →
      codeAny (model prog w) A (.builtin "set.update.loop" ⟨[.ref S, .ref I], []⟩) R s := by
  have W := Walks.list (prog := prog) (w := w) (A := A.in1) hh I l hlI (xs.map fun p => Value.ref p.2).toArray
  have hlen : (xs.map fun p => Value.ref p.2).toArray.size = xs.length := by simp
  intro k
  induction k with
  | zero =>
    intro i s es ep t ms hk hi hit hl hT hS T H hH hR
    have hin : i = xs.length := by (first | lia | omega)
    subst hin
    rw [List.take_length] at hH
    refine codeAny_builtin F.entry_set_update_loop ?_
    rw [Around.under_plainId F.plain_set_update_loop _]
    show wpAny _ A.in1 (pyNext (.ref I) >>= _) _ _ s
    refine wpAny_bind (W.done s _ _ ⟨by rw [hlen]; exact hit, hl⟩ fun h' tk hk' => ?_)
    have keep : ∀ b o, b ≠ I → s.heap.get? b = some o → h'.get? b = some o := fun b o hb e => hk' b o (by simpa using hb) e
    have tupI : ∀ a o, s.heap.get? a = some o → o.cls = .type "tuple" → h'.get? a = some o := fun a o e c => keep a o (fun e2 => by
      obtain ⟨oi, hoi, hc, _⟩ := hit
      rw [e2, hoi] at e; injection e with e; subst e; rw [hc] at c; injection c with c; exact absurd c (by decide)) e
    exact wpAny_pure (hR h' tk es ep t ms (fun b o _ hb e => keep b o hb e) (keep S _ hSI hS) T (H.keep tupI) rfl hH)
  | succ k ih =>
    intro i s es ep t ms hk hi hit hl hT hS T H hH hR
    have hlt : i < xs.length := by (first | lia | omega)
    refine codeAny_builtin F.entry_set_update_loop ?_
    rw [Around.under_plainId F.plain_set_update_loop _]
    show wpAny _ A.in1 (pyNext (.ref I) >>= _) _ _ s
    refine wpAny_bind (W.item i s _ _ (by rw [hlen]; exact hlt) ⟨hit, hl⟩ fun v h1 tk1 hv st1 hk1 => ?_)
    have ev : v = .ref xs[i].2 := by simp [hlt] at hv; exact hv.symm
    subst ev
    have keep : ∀ b o, b ≠ I → s.heap.get? b = some o → h1.get? b = some o := fun b o hb e => hk1 b o (by simpa using hb) e
    have tupI : ∀ a o, s.heap.get? a = some o → o.cls = .type "tuple" → h1.get? a = some o := fun a o e c => keep a o (fun e2 => by
      obtain ⟨oi, hoi, hc, _⟩ := hit
      rw [e2, hoi] at e; injection e with e; subst e; rw [hc] at c; injection c with c; exact absurd c (by decide)) e
    have hT1 : ∀ p ∈ xs, TK prog w h1 p.1 p.2 := fun p hp => (hT p hp).keep (tupI p.2)
    have hS1 := keep S _ hSI hS
    have H1 : Ents prog w h1 es.toList ms := H.keep tupI
    have hsz : es.size ≤ 40 := by
      have e1 : es.toList.length = ms.length := by rw [H.1, List.length_map]
      have e2 : ms.length ≤ (xs.take i).length := by
        have := List.Nodup.length_le_of_subset hH.nd (l₂ := (xs.take i).map (·.1)) fun q hq => by
          obtain ⟨p, hp, rfl⟩ := List.mem_map.mp hq
          exact List.mem_map_of_mem (hH.sub p hp)
        simpa using this
      rw [List.length_take] at e2
      simp at e1; (first | lia | omega)
    have etake : xs.take (i + 1) = xs.take i ++ [xs[i]] := by rw [List.take_add_one, List.getElem?_eq_getElem hlt]; rfl
    show wpAny _ A.in1 (holding [Value.ref xs[i].2] (setAdd S (.ref xs[i].2)) >>= _) _ _ _
    refine wpAny_bind (wpAny_holding ?_)
    refine set_add (s := { s with heap := h1, toks := tk1 }) (ks := xs[i].1) hu hS1 T H1 (hT1 _ (List.getElem_mem hlt)) hsz (fun hm tk2 => ?_) fun hm h2 es2 ep2 t2 ms2 tk2 hsb hS2 T2 H2 hled hp => ?_
    · refine wpAny_pure ⟨plainId_quiet F.plain_set_update_loop _, ih (i + 1) _ es ep t ms (by (first | lia | omega)) hlt st1.1 st1.2 hT1 hS1 T H1 (by rw [etake]; exact hH.seen hm) fun h' tk es' ep' t' ms' a b c d e f => ?_⟩
      exact hR h' tk es' ep' t' ms' (fun b' o hb1 hb2 e' => a b' o hb1 hb2 (keep b' o hb2 e')) b c d e f
    · have keep2 : ∀ b o, b ≠ S → h1.get? b = some o → h2.get? b = some o := fun b o hb e => (hsb.2 b hb).trans e
      have tup2 : ∀ a o, h1.get? a = some o → o.cls = .type "tuple" → h2.get? a = some o := fun a o e c => keep2 a o (fun e2 => by
        rw [e2, hS1] at e; injection e with e; subst e; injection c with c; exact absurd c (by decide)) e
      refine wpAny_pure ⟨plainId_quiet F.plain_set_update_loop _, ih (i + 1) _ es2 ep2 t2 ms2 (by (first | lia | omega)) hlt ?_ ?_ (fun p hp => (hT1 p hp).keep (tup2 p.2)) hS2 T2 (H2.keep tup2) (by rw [etake]; exact hH.new hm hp) fun h' tk es' ep' t' ms' a b c d e f => ?_⟩
      · exact st1.1.at fun o e => keep2 I o (Ne.symm hSI) e
      · exact st1.2.at fun o e => keep2 l o (Ne.symm hSl) e
      · exact hR h' tk es' ep' t' ms' (fun b' o hb1 hb2 e' => a b' o hb1 hb2 (keep2 b' o hb1 (keep b' o hb2 e'))) b c d (e.trans hled) f
end
end Mine

end

section
open PySem PyProof.Rows
set_option autoImplicit false
set_option maxRecDepth 100000
namespace Mine
section
variable {prog : Program} {w : World} {A : Around} {E : Value → Shared → Prop} {s : Shared}
noncomputable abbrev ledOf (w : World) : Bool := !w.params.followText "set-order"
theorem set_new (a : Value) {Q₁ : Value → Shared → Prop}
    (h : Q₁ (.ref s.heap.objs.size) { s with heap := s.heap.push (setObj #[] 0 (.fresh 0 0 (ledOf w))) }) :
    codeAny (model prog w) A (.call (.builtin "set.__new__") ⟨[.type "set", a], []⟩) (wants Q₁ E) s := by
  refine codeAny_of_tree ?_
  show wpAny _ A.in1 (do checkBuiltinCall "set.__new__" ⟨[.type "set", a], []⟩; again (.builtin "set.__new__" ⟨[.type "set", a], []⟩)) _ _ s
  refine wpAny_bind (wpAny_of_eq (PySem.F.newCall_set_1 a) (wpAny_pure ⟨plainId_quiet PySem.F.plain_set_new _, codeAny_builtin PySem.F.entry_set_new ?_⟩))
  rw [Around.under_plainId PySem.F.plain_set_new _]
  unfold Builtin.«set.__new__» Builtin.Frozenset.newClass
  have hsub := sub_set_self
  obtain ⟨hp, g, d, tk, os⟩ := s
  dsimp only
  wp_walk
  refine wpAny_askSetting (wpAny_pure ?_)
  dsimp only
  simp only [newObj]
  refine wpAny_bind (wpAny_alloc (wpAny_pure ?_))
  exact wpAny_pure h
set_option maxHeartbeats 3200000 in
theorem set_init {S l : Addr} {led : Bool} {ol : Obj} (hh : A.in1.handled = none) (hu : A.in1.units + 8 < cLine) (xs : List (List Mix × Addr)) (hn : xs.length ≤ 40) {R : Result → Shared → Prop}
    (hS : s.heap.get? S = some (setObj #[] 0 (.fresh 0 0 led))) (hol : s.heap.get? l = some ol) (hcl : ol.cls = .type "list") {nl : Nat} (hdl : ol.data = .seq (xs.map fun p => Value.ref p.2).toArray nl)
    (hT : ∀ p ∈ xs, TK prog w s.heap p.1 p.2)
    (h : ∀ h' tk es' ep' t' ms', (∀ b o, b ≠ S → s.heap.get? b = some o → h'.get? b = some o) → h'.get? S = some (setObj es' ep' t') → Tab t' (es'.toList.map (·.1)) → Ents prog w h' es'.toList ms' → t'.led = led → Held xs ms' →
      wpAny (model prog w) A.in1 (ret Value.none) (fun fin s' => match fin with | .done f => R (.ok f) s' | .again c' => c'.quiet = true ∧ codeAny (model prog w) A c' R s') (fun e s' => R (.error e) s') { s with heap := h', toks := tk }) :
    wpAny (model prog w) A.in1 (Builtin.«set.__init__» ⟨[.ref S, .ref l], []⟩) (fun fin s' => match fin with | .done f => R (.ok f) s' | .again c' => c'.quiet = true ∧ codeAny (model prog w) A c' R s') (fun e s' => R (.error e) s') s := by
  obtain ⟨ocls, odict, odata, oslots⟩ := ol
  simp only at hcl hdl
  subst hcl; subst hdl
  have hsls := PySem.F.sub_list_set
  have hslf := PySem.F.sub_list_frozenset
  have hne : (Value.type "list" == Value.type "dict") = false := by decide
  have hl1 : s.heap.IsList l (xs.map fun p => Value.ref p.2).toArray := ⟨_, hol, rfl, nl, rfl⟩
  have hlS : S ≠ l := fun e => by
    rw [← e, hS] at hol; injection hol with hol
    injection hol with q
    injection q with q
    exact absurd q (by decide)
  unfold Builtin.«set.__init__» noKeywords Builtin.Frozenset.updateFrom
  obtain ⟨hp, g, d, tk, os⟩ := s
  dsimp only at *
  generalize hPI : pyIter = PI
  wp_walk
  subst hPI
  refine wpAny_pyIter_list hl1 ?_
  refine wpAny_bind (wpAny_runValue ?_)
  have hlt : l < hp.objs.size := Heap.lt_size hol
  have hSt : S < hp.objs.size := Heap.lt_size hS
  refine update_loop (s := { heap := hp.push _, gens := g, drawn := d, toks := tk, os := os }) (by simpa using hh) (Nat.ne_of_lt hSt) hlS (Nat.ne_of_lt hlt) xs (by simp at hu ⊢; (first | lia | omega)) hn xs.length 0 #[] 0 (.fresh 0 0 led) [] (by (first | lia | omega)) (by (first | lia | omega))
    ⟨_, Heap.get?_push_size _ rfl, rfl, rfl⟩ (hl1.push _) (fun p hp' => (hT p hp').keep fun o e _ => Heap.get?_push_of_some _ e) (Heap.get?_push_of_some _ hS) (fresh_tab _ _ _) ⟨rfl, fun _ h => (nomatch h)⟩ Held.nil fun h' tk' es' ep' t' ms' a b c d' e f => ?_
  dsimp only
  refine wpAny_pure ?_
  exact h h' tk' es' ep' t' ms' (fun b' o hb e' => a b' o hb (Nat.ne_of_lt (Heap.lt_size e')) (Heap.get?_push_of_some _ e')) b c d' e f
end
end Mine

end

section
open PySem PyProof.Rows
set_option autoImplicit false
set_option maxRecDepth 100000
namespace Mine
/-- a set of tuples in a heap: what it holds -/
noncomputable def SetHas (prog : Program) (w : World) (h : Heap) (S : Addr) (ms : List (List Mix × Addr)) : Prop :=
  ∃ es ep t, h.get? S = some (setObj es ep t) ∧ Tab t (es.toList.map (·.1)) ∧ Ents prog w h es.toList ms ∧ t.led = ledOf w
section
variable {prog : Program} {w : World} {A : Around} {E : Value → Shared → Prop} {s : Shared}
set_option maxHeartbeats 3200000 in
theorem call_set {l : Addr} (xs : List (List Mix × Addr)) (hh : A.handled = none) (hu : A.units + 16 < cLine) (hn : xs.length ≤ 40) {Q : Value → Shared → Prop}
    (hl : s.heap.IsList l (xs.map fun p => Value.ref p.2).toArray) (hT : ∀ p ∈ xs, TK prog w s.heap p.1 p.2)
    (h : ∀ h' tk S ms, s.heap.get? S = none → (∀ b o, s.heap.get? b = some o → h'.get? b = some o) → SetHas prog w h' S ms → Held xs ms → Q (.ref S) { s with heap := h', toks := tk }) :
    wpAny (model prog w) A (call (.type "set") [.ref l]) Q E s := by
  obtain ⟨ol, hol, hcl, nl, hdl⟩ := hl
  obtain ⟨c, tl, hmro⟩ := PySem.F.called_set.mro
  have hmade := PySem.F.called_set.made
  have hsub := PySem.F.called_set.sub
  refine wpAny_call (codeAny_of_tree ?_)
  show wpAny _ _ (callAny (.type "set") _) _ _ _
  refine wpAny_pure ⟨Code.quiet_builtin _ (by decide +kernel), codeAny_builtin PySem.F.entry_type_call ?_⟩
  rw [Around.under_plain (weight_type_call_type "set" [.ref l] []) rfl]
  have h1 := PySem.F.called_set.notType
  have h2 := PySem.F.called_set.canCreate
  have hct := PySem.F.typeCall_set_1 (.ref l)
  repeat (any_goals (first | assumption | wp_step))
  refine codeAny_mono (set_new (.ref l) (E := E) (Q₁ := fun obj s₁ => obj = .ref s.heap.objs.size ∧ s₁ = { s with heap := s.heap.push (setObj #[] 0 (.fresh 0 0 (ledOf w))) }) ⟨rfl, rfl⟩) fun r s₁ hr => ?_
  rcases r with e | fl
  · exact hr
  rcases fl with _ | _ | _ | obj
  iterate 3 exact hr.elim
  obtain ⟨rfl, rfl⟩ := hr
  have hS : (s.heap.push (setObj #[] 0 (.fresh 0 0 (ledOf w)))).get? s.heap.objs.size = some (setObj #[] 0 (.fresh 0 0 (ledOf w))) := Heap.get?_push_size _ rfl
  have hTy : Shared.TypeIs { s with heap := s.heap.push (setObj #[] 0 (.fresh 0 0 (ledOf w))) } (.ref s.heap.objs.size) "set" := ⟨_, hS, rfl⟩
  have hli := PySem.F.called_set.init.lookup
  have hbi := PySem.F.called_set.init.bind (.ref s.heap.objs.size)
  have up : ∀ b o, s.heap.get? b = some o → (s.heap.push (setObj #[] 0 (.fresh 0 0 (ledOf w)))).get? b = some o := fun b o e => Heap.get?_push_of_some _ e
  have fr : s.heap.get? s.heap.objs.size = none := by
    cases q : s.heap.get? s.heap.objs.size with
    | none => rfl
    | some o => exact absurd (Heap.lt_size q) (Nat.lt_irrefl _)
  repeat (any_goals (first | assumption | wp_step))
  refine codeAny_mono (codeAny_call_builtin (R := wants (fun r s₂ => r = .none ∧ ∃ h' tk ms, s₂ = { s with heap := h', toks := tk } ∧ (∀ b o, s.heap.get? b = some o → h'.get? b = some o) ∧ SetHas prog w h' s.heap.objs.size ms ∧ Held xs ms) E)
    PySem.F.called_set.init.plain PySem.F.entry_set_init (check_set_init_1 hTy ?_)) fun r₂ s₂ hr₂ => ?_
  · refine set_init (s := { s with heap := s.heap.push (setObj #[] 0 (.fresh 0 0 (ledOf w))) }) (by simpa using hh) (by simp; (first | lia | omega)) xs hn hS (up _ _ hol) hcl hdl (fun p hp => (hT p hp).keep fun o e _ => up _ _ e) fun h' tk es' ep' t' ms' a b c d e f => ?_
    exact wpAny_pure ⟨rfl, h', tk, ms', rfl, fun b' o e' => a b' o (fun q => by rw [q, fr] at e'; cases e') (up b' o e'), ⟨es', ep', t', b, c, d, e⟩, f⟩
  · rcases r₂ with e | fl₂
    · exact hr₂
    rcases fl₂ with _ | _ | _ | r
    iterate 3 exact hr₂.elim
    obtain ⟨rfl, h', tk, ms, rfl, k1, k2, k3⟩ := hr₂
    repeat (any_goals (first | assumption | wp_step))
    exact h h' tk _ ms fr k1 k2 k3
end
end Mine

end

section
open PySem PyProof.Rows
set_option autoImplicit false
set_option maxRecDepth 100000
namespace Mine
namespace F
theorem slot_si_next : Slot "set_iterator" "__next__" "set_iterator.__next__" :=
  .of (owner := "set_iterator") (n := "__next__") (by rw [typeLookup_type, builtinLookup_eq_fast]; kernel_rfl) (by decide +kernel) (by decide +kernel) (by decide +kernel)
    (by first | exact .inl (by decide +kernel) | exact .inr (by decide +kernel)) (by rw [isSubtype_type]; kernel_rfl)
theorem slot_si_iter : Slot "set_iterator" "__iter__" "set_iterator.__iter__" :=
  .of (owner := "set_iterator") (n := "__iter__") (by rw [typeLookup_type, builtinLookup_eq_fast]; kernel_rfl) (by decide +kernel) (by decide +kernel) (by decide +kernel)
    (by first | exact .inl (by decide +kernel) | exact .inr (by decide +kernel)) (by rw [isSubtype_type]; kernel_rfl)
theorem entry_si_next : entryFor table "set_iterator.__next__" = some Builtin.«set_iterator.__next__» := entryFor_of_tree (by kernel_rfl)
theorem args_si_next (a : Value) : argsOk "set_iterator.__next__" ⟨[a], []⟩ := by unfold argsOk; kernel_rfl
theorem args_si_iter (a : Value) : argsOk "set_iterator.__iter__" ⟨[a], []⟩ := by unfold argsOk; kernel_rfl
theorem entry_si_iter : entryFor table "set_iterator.__iter__" = some Builtin.«dict_keyiterator.__iter__» :=
  entryFor_alias (id' := "dict_keyiterator.__iter__") (by kernel_rfl) rfl (by decide +kernel) (by kernel_rfl)
theorem entry_set_iter : entryFor table "set.__iter__" = some Builtin.«frozenset.__iter__» :=
  entryFor_alias (id' := "frozenset.__iter__") (by kernel_rfl) rfl (by decide +kernel) (by kernel_rfl)
end F
theorem erase_perm {α : Type} : ∀ {l : List α} {i : Nat} {x : α}, l[i]? = some x → (x :: l.eraseIdx i).Perm l
  | a :: l, 0, x, h => by cases h; exact .refl _
  | a :: l, i + 1, x, h => by
    rw [List.getElem?_cons_succ] at h
    exact (List.Perm.swap a x _).trans ((erase_perm h).cons a)
theorem pick_perm {α : Type} (next : Nat → Nat) (xs : Array α) : (pickOrder next xs).toList.Perm xs.toList := by
  have go : ∀ (fuel k : Nat) (left : List α) (out : Array α), left.length = fuel → (pickOrder.go next fuel k left out).toList.Perm (out.toList ++ left) := by
    intro fuel
    induction fuel with
    | zero => intro k left out h; unfold pickOrder.go; rw [List.eq_nil_of_length_eq_zero h, List.append_nil]
    | succ n ih =>
      intro k left out h
      unfold pickOrder.go
      have hlt : next k % left.length < left.length := Nat.mod_lt _ (by (first | lia | omega))
      rw [List.getElem?_eq_getElem hlt]
      dsimp only
      refine (ih _ _ _ (by rw [List.length_eraseIdx, if_pos hlt]; (first | lia | omega))).trans ?_
      rw [Array.toList_push, List.append_assoc]
      exact List.Perm.append_left _ (erase_perm (List.getElem?_eq_getElem hlt))
  unfold pickOrder
  have := go xs.size 0 xs.toList #[] (by simp)
  simpa using this
section
variable {prog : Program} {w : World} {A : Around} {E : Value → Shared → Prop} {s : Shared}
theorem draw_perm {α : Type} : ∀ (n : Nat) (xs : List α) (s : Shared) {Q : List α → Shared → Prop}, xs.length = n → (∀ l d, l.Perm xs → Q l { s with drawn := d }) → wpAny (model prog w) A (drawOrder n xs) Q E s
  | 0, [], s, Q, _, h => by unfold drawOrder; exact wpAny_pure (h [] s.drawn (.refl _))
  | n + 1, [], s, Q, e, h => by cases e
  | 0, _ :: _, s, Q, e, h => by cases e
  | n + 1, a :: r, s, Q, e, h => by
    unfold drawOrder
    refine wpAny_bind ?_
    have ch : ∀ {Q' : Nat → Shared → Prop}, (∀ i d, i < (a :: r).length → Q' i { s with drawn := d }) → wpAny (model prog w) A (choose .order (a :: r).length) Q' E s := fun {Q'} h' Γ p hΓ => by
      show Sem.wp _ Γ (.choose .order (a :: r).length .pure) _ _ p s
      rw [Sem.wp_choose]
      exact ⟨by simp, h' _ _ (Nat.mod_lt _ (by simp))⟩
    refine ch fun i d hi => ?_
    rw [List.getElem?_eq_getElem hi]
    dsimp only
    refine wpAny_bind (draw_perm n _ _ (by rw [List.length_eraseIdx, if_pos hi]; rw [List.length_cons] at e ⊢; (first | lia | omega)) fun l d' hl => wpAny_pure (h _ d' ?_))
    exact (hl.cons _).trans (erase_perm (List.getElem?_eq_getElem hi))
end
/-- the end of a set's walk: StopIteration -/
noncomputable abbrev siObj (first : Value) (i : Int) (S : Value) (n ep : Int) : Obj := { cls := .type "set_iterator", data := .fields #[first, .int i 0, S, .int n 0, .int ep 0] }
section
variable {prog : Program} {w : World} {A : Around} {E : Value → Shared → Prop} {s : Shared}
theorem stop_now {A' : Around} {P : PySem.Fin → Shared → Prop} (hh : A.handled = none) {Q : Option Value → Shared → Prop}
    (hQ : ∀ h', (∀ b o, s.heap.get? b = some o → h'.get? b = some o) → Q none { s with heap := h' }) :
    wpAny (model prog w) A (newExc (.type "StopIteration") [] >>= fun e => (raiseNew e : Sem PySem.Fin)) P (fun e s' => wpAny (model prog w) A' (do if ← isInstance e (.type "StopIteration") then pure none else throw e) Q E s') s := by
  refine wpAny_bind ?_
  simp only [newExc, newTuple]
  refine wpAny_bind (wpAny_newObj_type ?_ (by size_fits))
  refine wpAny_bind (m := firstArgMember _ _) (wpAny_of_eq (a := Value.none) (by first | rfl | (simp only [firstArgMember]; rfl)) ?_)
  refine wpAny_newObj_type ?_ (by size_fits)
  simp only [raiseNew]
  refine wpAny_bind (wpAny_handled ?_)
  rw [hh]
  refine wpAny_bind (wpAny_pure (wpAny_throw ?_))
  refine wpAny_bind (wpAny_isInstance (T := "StopIteration") (b := true) ⟨_, Heap.get?_push_size _ rfl, rfl⟩ isSubtype_stop ?_)
  exact wpAny_pure (hQ _ fun b o e => Heap.get?_push_of_some _ (Heap.get?_push_of_some _ e))
end
end Mine

end

section
open PySem PyProof.Rows
set_option autoImplicit false
set_option maxRecDepth 100000
namespace Mine
section
variable {prog : Program} {w : World} {A : Around} {E : Value → Shared → Prop} {s : Shared} {S I : Addr} {es : Array (Int × Value)} {ep : Nat} {t : SetTable}
noncomputable def isDrawn (es : Array (Int × Value)) (t : SetTable) : Bool := !t.plain && decide (es.size > 1)
theorem get_upd {h : Heap} {I : Addr} {first S : Value} {i n e : Int} (hI : h.get? I = some (siObj first i S n e)) (f : Array Value → Array Value) :
    (h.update I (Obj.mapFields f)).get? I = some { cls := .type "set_iterator", data := .fields (f #[first, .int i 0, S, .int n 0, .int e 0]) } :=
  Heap.get?_update_self (Obj.mapFields f) hI rfl

/-- the state of a walk by places or by the written order: a value for each turn, and the slot behind it -/
structure Road (prog : Program) (w : World) (S : Addr) (es : Array (Int × Value)) (ep : Nat) (t : SetTable) (ord : List Value) (slot : Nat → Nat) : Prop where
  len : ord.length = es.size
  step : ∀ (A : Around) (E : Value → Shared → Prop) (s : Shared) (Q : Option (Value × Nat) → Shared → Prop) (i : Nat), s.heap.get? S = some (setObj es ep t) → i ≤ es.size →
    Q ((ord[i]?).map fun x => (x, slot (i + 1))) s → wpAny (model prog w) A (setNext S (slot i) i ep) Q E s

theorem road_text (hf : t.fits es.size = true) (hb : w.params.followText "set-order" = true) : Road prog w S es ep t ((pickOrder (w.params.setOrder S ep) es).toList.map (·.2)) (fun _ => 0) := by
  refine ⟨by simpa using (pick_perm (w.params.setOrder S ep) es).length_eq, fun A E s Q i ho _ h => ?_⟩
  unfold setNext
  refine wpAny_bind (wpAny_setState_of ho rfl hf ?_)
  dsimp only
  unfold setsByText
  refine wpAny_bind (wpAny_bind (wpAny_askSetting (wpAny_pure ?_)))
  dsimp only
  rw [show (model prog w).w.params.followText "set-order" = true from hb]
  simp only [if_true, bne_self_eq_false, Bool.false_eq_true, if_false]
  unfold setWalk
  refine wpAny_bind (wpAny_bind (wpAny_setState_of ho rfl hf ?_))
  dsimp only
  unfold setsByText
  refine wpAny_bind (wpAny_bind (wpAny_askSetting (wpAny_pure ?_)))
  dsimp only
  rw [show (model prog w).w.params.followText "set-order" = true from hb]
  simp only [if_true]
  refine wpAny_bind (wpAny_askSetting (wpAny_pure (wpAny_pure ?_)))
  dsimp only
  rw [List.getElem?_map, Array.getElem?_toList, Option.map_map] at h
  exact h

noncomputable def slotAt (t : SetTable) : Nat → Nat
  | 0 => 0
  | k + 1 => t.place.getD k 0 + 1
theorem slotAt_below {t : SetTable} (hs : t.place.toList.Pairwise (· < ·)) (i : Nat) (hi : i ≤ t.place.size) : SetTable.below t.place (slotAt t i) = i := by
  obtain ⟨b1, b2, b3⟩ := below_spec (slotAt t i) hs
  generalize SetTable.below t.place (slotAt t i) = B at b1 b2 b3
  have P := List.pairwise_iff_getElem.mp hs
  cases i with
  | zero =>
    apply Classical.byContradiction
    intro hne
    have := b2 0 (by (first | lia | omega)) (by (first | lia | omega))
    have e : slotAt t 0 = 0 := rfl
    (first | lia | omega)
  | succ k =>
    have hk : k < t.place.size := by (first | lia | omega)
    have ek : slotAt t (k + 1) = t.place[k] + 1 := by show t.place.getD k 0 + 1 = _; simp [hk]
    rw [ek] at b2 b3
    apply Classical.byContradiction
    intro hne
    by_cases hlt : B < k + 1
    · have := b3 k hk (by (first | lia | omega))
      (first | lia | omega)
    · have h1 := b2 (k + 1) (by (first | lia | omega)) (by (first | lia | omega))
      have h2 := P k (k + 1) (by rw [Array.length_toList]; (first | lia | omega)) (by rw [Array.length_toList]; (first | lia | omega)) (by (first | lia | omega))
      simp at h2
      (first | lia | omega)
theorem road_place (T : Tab t (es.toList.map (·.1))) (hb : w.params.followText "set-order" = false) (hl : t.led = true) (hd : isDrawn es t = false) :
    Road prog w S es ep t (es.toList.map (·.2)) (slotAt t) := by
  have hf : t.fits es.size = true := T.fits (by simp)
  have hsz : t.place.size = es.size := by have := T.len; simpa using this
  refine ⟨by simp, fun A E s Q i ho hi h => ?_⟩
  unfold setNext
  refine wpAny_bind (wpAny_setState_of ho rfl hf ?_)
  dsimp only
  unfold setsByText
  refine wpAny_bind (wpAny_bind (wpAny_askSetting (wpAny_pure ?_)))
  dsimp only
  rw [show (model prog w).w.params.followText "set-order" = false from hb]
  simp only [Bool.false_eq_true, if_false]
  split
  · rename_i q
    have q' : isDrawn es t = true := q
    rw [hd] at q'; cases q'
  · have hbel := slotAt_below T.sorted i (by (first | lia | omega))
    have led' : ∀ (P : Unit → Shared → Prop), P () s → wpAny (model prog w) A (if (!t.led && !es.isEmpty) = true then unsupported "set:maker-not-led" else pure ()) P E s := fun P hp => by
      rw [hl]; exact wpAny_pure hp
    refine wpAny_bind (led' _ ?_)
    have : ∀ j, SetTable.below t.place j = i → wpAny (model prog w) A (pure (match es[SetTable.below t.place j]?, t.place[SetTable.below t.place j]? with | some (_, x), some j => some (x, j + 1) | _, _ => none) : Sem (Option (Value × Nat))) Q E s := fun j e => by
      rw [e]
      refine wpAny_pure ?_
      by_cases hi' : i < es.size
      · rw [Array.getElem?_eq_getElem hi', Array.getElem?_eq_getElem (by rw [hsz]; exact hi')]
        dsimp only
        rw [List.getElem?_map, Array.getElem?_toList, Array.getElem?_eq_getElem hi'] at h
        have e2 : slotAt t (i + 1) = t.place[i]'(by rw [hsz]; exact hi') + 1 := by show t.place.getD i 0 + 1 = _; simp [hsz, hi']
        rw [← e2]
        exact h
      · rw [Array.getElem?_eq_none (by (first | lia | omega))]
        dsimp only
        rw [List.getElem?_map, Array.getElem?_toList, Array.getElem?_eq_none (by (first | lia | omega))] at h
        exact h
    exact this _ hbel
theorem entries_of (ho : s.heap.get? S = some (setObj es ep t)) (hf : t.fits es.size = true) {Q : Array (Int × Value) → Shared → Prop} (h : Q es s) : wpAny (model prog w) A (setEntries S) Q E s := by
  unfold setEntries
  exact wpAny_bind (wpAny_setState_of ho rfl hf (wpAny_pure h))
/-- the walk over a set by a road -/
theorem walks_road {ord : List Value} {slot : Nat → Nat} (R : Road prog w S es ep t ord slot) (hh : A.handled = none) (hf : t.fits es.size = true) (hSI : S ≠ I) :
    Walks prog w A I [I, S] [I] es.size (fun i v => ord[i]? = some v) (fun i h => h.get? I = some (siObj (.int (slot i) 0) i (.ref S) es.size ep) ∧ h.get? S = some (setObj es ep t)) where
  sub := fun b hb => by simp at hb; simp [hb]
  frame := fun _ _ _ st hk => ⟨hk I (by simp) _ st.1, hk S (by simp) _ st.2⟩
  item := fun i s Q E hi st hQ => by
    obtain ⟨hI, hS⟩ := st
    have hT : s.TypeIs (.ref I) "set_iterator" := ⟨_, hI, rfl⟩
    unfold pyNext
    refine wpAny_bind (wpAny_attempt (wpAny_callSpecial?_slot (name := Str.ofString "__next__") hT F.slot_si_next (wpAny_call_entry F.slot_si_next hT F.entry_si_next ?_ (F.args_si_next _))))
    unfold Builtin.«set_iterator.__next__»
    refine wpAny_bind (wpAny_pure ?_)
    refine wpAny_bind (wpAny_fieldsOf hI rfl ?_)
    dsimp only
    refine wpAny_bind (entries_of hS hf ?_)
    rw [if_neg (by simp)]
    refine wpAny_bind (R.step _ _ s _ i hS (by (first | lia | omega)) ?_)
    have hlt : i < ord.length := by rw [R.len]; exact hi
    rw [List.getElem?_eq_getElem hlt]
    dsimp only [Option.map]
    refine wpAny_bind (wpAny_setField hI rfl (by simp) ?_)
    have g1 := get_upd hI (fun vs => vs.setIfInBounds 0 (rawInt (slot (i + 1) : Nat)))
    refine wpAny_bind (wpAny_setField (s := { s with heap := _ }) g1 rfl (by simp) ?_)
    refine wpAny_pure ⟨_, rfl, wpAny_pure (hQ _ _ _ (List.getElem?_eq_getElem hlt) ⟨?_, ?_⟩ fun b o hb e => ?_)⟩
    · exact Heap.get?_update_self (Obj.mapFields fun vs => vs.setIfInBounds 1 (rawInt ((i : Int) + 1))) g1 rfl
    · exact ((Heap.SameBut.update ..).2 S hSI).trans (((Heap.SameBut.update ..).2 S hSI).trans hS)
    · have hb' : b ≠ I := by simpa using hb
      exact ((Heap.SameBut.update ..).2 b hb').trans (((Heap.SameBut.update ..).2 b hb').trans e)
  done := fun s Q E st hQ => by
    obtain ⟨hI, hS⟩ := st
    have hT : s.TypeIs (.ref I) "set_iterator" := ⟨_, hI, rfl⟩
    unfold pyNext
    refine wpAny_bind (wpAny_attempt (wpAny_callSpecial?_slot (name := Str.ofString "__next__") hT F.slot_si_next (wpAny_call_entry F.slot_si_next hT F.entry_si_next ?_ (F.args_si_next _))))
    unfold Builtin.«set_iterator.__next__»
    refine wpAny_bind (wpAny_pure ?_)
    refine wpAny_bind (wpAny_fieldsOf hI rfl ?_)
    dsimp only
    refine wpAny_bind (entries_of hS hf ?_)
    rw [if_neg (by simp)]
    refine wpAny_bind (R.step _ _ s _ es.size hS (Nat.le_refl _) ?_)
    rw [List.getElem?_eq_none (by rw [R.len]; exact Nat.le_refl _)]
    dsimp only [Option.map]
    refine wpAny_bind (wpAny_setField hI rfl (by simp) ?_)
    refine stop_now (A := A.in1) (A' := A) (by simpa using hh) fun h' hk => hQ _ _ fun b o hb e => ?_
    have hb' : b ≠ I := by simpa using hb
    exact hk b o (((Heap.SameBut.update ..).2 b hb').trans e)
  self := fun i s Q E st hQ => by
    have hT : s.TypeIs (.ref I) "set_iterator" := ⟨_, st.1, rfl⟩
    refine wpAny_pyIter_slot hT F.slot_si_iter (wpAny_call_entry F.slot_si_iter hT F.entry_si_iter ?_ (F.args_si_iter _))
    show wpAny _ _ (ret (.ref I)) _ _ s
    exact wpAny_pure ⟨_, rfl, "set_iterator", _, hT, F.slot_si_next.lookup, hQ⟩
end
end Mine

end

section
open PySem PyProof.Rows
set_option autoImplicit false
set_option maxRecDepth 100000
namespace Mine
section
variable {prog : Program} {w : World} {A : Around} {E : Value → Shared → Prop} {s : Shared} {S I T : Addr} {es : Array (Int × Value)} {ep : Nat} {t : SetTable}
/-- the walk over a set whose order is drawn -/
theorem walks_drawn {l : List Nat} (hl : ∀ k ∈ l, k < es.size) (hn : l.length = es.size) (hh : A.handled = none) (hf : t.fits es.size = true) (hSI : S ≠ I) (hTI : T ≠ I) :
    Walks prog w A I [I, S, T] [I] es.size (fun i v => (l.map fun k => (es.getD k (0, .none)).2)[i]? = some v)
      (fun i h => h.get? I = some (siObj (.ref T) i (.ref S) es.size ep) ∧ h.get? S = some (setObj es ep t) ∧ ∃ o n, h.get? T = some o ∧ o.data = .seq (l.map fun (k : Nat) => rawInt k).toArray n) where
  sub := fun b hb => by simp at hb; simp [hb]
  frame := fun _ _ _ st hk => ⟨hk I (by simp) _ st.1, hk S (by simp) _ st.2.1, let ⟨o, n, a, b⟩ := st.2.2; ⟨o, n, hk T (by simp) _ a, b⟩⟩
  item := fun i s Q E hi st hQ => by
    obtain ⟨hI, hS, o, n, hTo, hTd⟩ := st
    have hT : s.TypeIs (.ref I) "set_iterator" := ⟨_, hI, rfl⟩
    unfold pyNext
    refine wpAny_bind (wpAny_attempt (wpAny_callSpecial?_slot (name := Str.ofString "__next__") hT F.slot_si_next (wpAny_call_entry F.slot_si_next hT F.entry_si_next ?_ (F.args_si_next _))))
    unfold Builtin.«set_iterator.__next__»
    refine wpAny_bind (wpAny_pure ?_)
    refine wpAny_bind (wpAny_fieldsOf hI rfl ?_)
    dsimp only
    refine wpAny_bind (entries_of hS hf ?_)
    rw [if_neg (by simp)]
    refine wpAny_bind (wpAny_seqItems hTo hTd ?_)
    have hlt : i < l.length := by rw [hn]; exact hi
    have e1 : (l.map fun (k : Nat) => rawInt k).toArray[(i : Int).toNat]? = some (.int (l[i] : Nat) 0) := by simp [hlt, rawInt]
    dsimp only
    rw [e1]
    dsimp only
    have hk : l[i] < es.size := hl _ (List.getElem_mem hlt)
    refine wpAny_bind ?_
    unfold setNextDrawn
    refine wpAny_bind (wpAny_setState_of hS rfl hf ?_)
    dsimp only
    rw [if_neg (by simp)]
    rw [show ((l[i] : Nat) : Int).toNat = l[i] from rfl, Array.getElem?_eq_getElem hk]
    refine wpAny_pure ?_
    refine wpAny_bind (wpAny_setField hI rfl (by simp) ?_)
    refine wpAny_pure ⟨_, rfl, wpAny_pure (hQ _ _ _ ?_ ⟨?_, ?_, o, n, ?_, hTd⟩ fun b o hb e => ?_)⟩
    · simp [hlt, hk]
    · exact Heap.get?_update_self (Obj.mapFields fun vs => vs.setIfInBounds 1 (rawInt ((i : Int) + 1))) hI rfl
    · exact ((Heap.SameBut.update ..).2 S hSI).trans hS
    · exact ((Heap.SameBut.update ..).2 T hTI).trans hTo
    · have hb' : b ≠ I := by simpa using hb
      exact ((Heap.SameBut.update ..).2 b hb').trans e
  done := fun s Q E st hQ => by
    obtain ⟨hI, hS, o, n, hTo, hTd⟩ := st
    have hT : s.TypeIs (.ref I) "set_iterator" := ⟨_, hI, rfl⟩
    unfold pyNext
    refine wpAny_bind (wpAny_attempt (wpAny_callSpecial?_slot (name := Str.ofString "__next__") hT F.slot_si_next (wpAny_call_entry F.slot_si_next hT F.entry_si_next ?_ (F.args_si_next _))))
    unfold Builtin.«set_iterator.__next__»
    refine wpAny_bind (wpAny_pure ?_)
    refine wpAny_bind (wpAny_fieldsOf hI rfl ?_)
    dsimp only
    refine wpAny_bind (entries_of hS hf ?_)
    rw [if_neg (by simp)]
    refine wpAny_bind (wpAny_seqItems hTo hTd ?_)
    have e1 : (l.map fun (k : Nat) => rawInt k).toArray[(es.size : Int).toNat]? = none := by simp [hn]
    dsimp only
    rw [e1]
    dsimp only
    refine wpAny_bind (wpAny_setField hI rfl (by simp) ?_)
    have g1 := get_upd hI (fun vs => vs.setIfInBounds 0 (rawInt 0))
    refine wpAny_bind (wpAny_setField (s := { s with heap := _ }) g1 rfl (by simp) ?_)
    refine stop_now (A := A.in1) (A' := A) (by simpa using hh) fun h' hk => hQ _ _ fun b o hb e => ?_
    have hb' : b ≠ I := by simpa using hb
    exact hk b o (((Heap.SameBut.update ..).2 b hb').trans (((Heap.SameBut.update ..).2 b hb').trans e))
  self := fun i s Q E st hQ => by
    have hT : s.TypeIs (.ref I) "set_iterator" := ⟨_, st.1, rfl⟩
    refine wpAny_pyIter_slot hT F.slot_si_iter (wpAny_call_entry F.slot_si_iter hT F.entry_si_iter ?_ (F.args_si_iter _))
    show wpAny _ _ (ret (.ref I)) _ _ s
    exact wpAny_pure ⟨_, rfl, "set_iterator", _, hT, F.slot_si_next.lookup, hQ⟩

/-- a walk over a set, whatever the world's order -/
noncomputable def SetWalk (prog : Program) (w : World) (A : Around) (S : Addr) (ms : List (List Mix × Addr)) (base : Heap) (it : Value) (h : Heap) : Prop :=
  ∃ I fp St, ∃ (ord : List Value) (n : Nat), n = ms.length ∧ it = .ref I ∧ Walks prog w A I fp [I] n (fun i v => ord[i]? = some v) St ∧ St 0 h ∧ (∀ b ∈ fp, b < h.objs.size) ∧ base.get? I = none ∧ ord.Perm (ms.map fun p => Value.ref p.2) ∧ ∀ b ∈ fp, b = S ∨ base.get? b = none

theorem iter_set {ms : List (List Mix × Addr)} (B : Around) (hh : B.handled = none) (H : SetHas prog w s.heap S ms) {Q : Value → Shared → Prop}
    (h : ∀ it h' d, (∀ b o, s.heap.get? b = some o → h'.get? b = some o) → SetWalk prog w B S ms s.heap it h' → Q it { s with heap := h', drawn := d }) : wpAny (model prog w) A (pyIter (.ref S)) Q E s := by
  obtain ⟨es, ep, t, hS, T, He, hled⟩ := H
  have hf : t.fits es.size = true := T.fits (by simp)
  have hms : es.size = ms.length := by have := congrArg List.length He.1; simpa using this
  have hval : es.toList.map (·.2) = ms.map fun p => Value.ref p.2 := by rw [He.1, List.map_map]; rfl
  have hSt : S < s.heap.objs.size := Heap.lt_size hS
  have fresh : ∀ (h : Heap), s.heap.get? (s.heap.objs.size) = none := fun _ => by
    cases q : s.heap.get? s.heap.objs.size with
    | none => rfl
    | some o => exact absurd (Heap.lt_size q) (Nat.lt_irrefl _)
  have hT : s.TypeIs (.ref S) "set" := ⟨_, hS, rfl⟩
  refine wpAny_pyIter_slot hT PySem.F.slot_set_iter (wpAny_call_entry PySem.F.slot_set_iter hT F.entry_set_iter ?_ (PySem.F.args_set_iter_1 _))
  unfold Builtin.«frozenset.__iter__» Builtin.Frozenset.slot0
  refine wpAny_bind (wpAny_bind (wpAny_pure ?_))
  refine wpAny_pure ?_
  unfold Builtin.Frozenset.sizeOf
  refine wpAny_bind (wpAny_bind (entries_of hS hf (wpAny_pure ?_)))
  unfold setDrawn
  refine wpAny_bind (wpAny_bind (wpAny_setState_of hS rfl hf ?_))
  dsimp only
  unfold setsByText
  refine wpAny_bind (wpAny_bind (wpAny_askSetting (wpAny_pure ?_)))
  refine wpAny_pure ?_
  have plain : ∀ {ord : List Value} {slot : Nat → Nat}, Road prog w S es ep t ord slot → slot 0 = 0 → ord.Perm (ms.map fun p => Value.ref p.2) →
      wpAny (model prog w) A.in1 (do
        let first ← pure (rawInt 0)
        ret (← newFields "set_iterator" [first, rawInt 0, .ref S, rawInt es.size, rawInt (← setEpoch S)])) (fun fin s' => ∃ v, fin = PySem.Fin.done (.ret v) ∧ ∃ T' r, s'.TypeIs v T' ∧ typeLookup (.type T') "__next__" = pure (some r) ∧ Q v s') E s := fun {ord slot} R h0 hp => by
    refine wpAny_bind (wpAny_pure ?_)
    refine wpAny_bind (wpAny_setEpoch_of hS rfl hf ?_)
    refine wpAny_bind (wpAny_newObj_type ?_)
    have hI : (s.heap.push { cls := .type "set_iterator", data := .fields [rawInt 0, rawInt 0, .ref S, rawInt es.size, rawInt ep].toArray }).get? s.heap.objs.size = some (siObj (.int (slot 0) 0) (0 : Nat) (.ref S) es.size ep) := by
      rw [h0]; exact Heap.get?_push_size _ rfl
    refine wpAny_pure ⟨_, rfl, "set_iterator", _, ⟨_, hI, rfl⟩, F.slot_si_next.lookup, h _ _ s.drawn (fun b o e => Heap.get?_push_of_some _ e)
      ⟨s.heap.objs.size, _, _, ord, _, hms, rfl, walks_road R hh hf (Nat.ne_of_lt hSt), ⟨hI, Heap.get?_push_of_some _ hS⟩, fun b hb => ?_, fresh s.heap, hp, fun b hb => ?_⟩⟩
    · rw [Heap.size_push]
      rcases List.mem_cons.mp hb with rfl | hb
      · exact Nat.lt_succ_self _
      · rcases List.mem_cons.mp hb with rfl | hb
        · exact Nat.lt_succ_of_lt hSt
        · cases hb
    · rcases List.mem_cons.mp hb with rfl | hb
      · exact .inr (fresh s.heap)
      · exact .inl (List.mem_singleton.mp hb)
  rw [show (model prog w).w.params.followText "set-order" = w.params.followText "set-order" from rfl]
  cases hb : w.params.followText "set-order" with
  | true =>
    simp only [Bool.not_true, Bool.false_and, Bool.false_eq_true, if_false]
    refine plain (road_text hf hb) rfl ?_
    rw [← hval]
    exact (pick_perm _ _).map _
  | false =>
    simp only [Bool.not_false, Bool.true_and]
    split
    · refine wpAny_bind ?_
      refine draw_perm es.size (List.range es.size) s (by simp) fun l d hl => ?_
      refine wpAny_bind ?_
      refine wpAny_newObj_type ?_ (by
        show (l.map _).toArray.size ≤ _
        rw [List.size_toArray, List.length_map, hl.length_eq, List.length_range]
        have := T.room
        have := T.len
        have := T.mask
        rw [sizeLine_eq]
        simp at *
        rcases T.mask with e | e | e <;> (first | lia | omega))
      have hT1 : (s.heap.push { cls := .type "tuple", data := .seq (l.map fun (i : Nat) => rawInt i).toArray }).get? s.heap.objs.size = some { cls := .type "tuple", data := .seq (l.map fun (i : Nat) => rawInt i).toArray } := Heap.get?_push_size _ rfl
      have hS1 : (s.heap.push { cls := .type "tuple", data := .seq (l.map fun (i : Nat) => rawInt i).toArray }).get? S = some (setObj es ep t) := Heap.get?_push_of_some _ hS
      refine wpAny_bind (wpAny_setEpoch_of (s := { s with heap := _, drawn := d }) hS1 rfl hf ?_)
      refine wpAny_bind (wpAny_newObj_type ?_)
      have hI : ((s.heap.push { cls := .type "tuple", data := .seq (l.map fun (i : Nat) => rawInt i).toArray }).push { cls := .type "set_iterator", data := .fields [.ref s.heap.objs.size, rawInt 0, .ref S, rawInt es.size, rawInt ep].toArray }).get? (s.heap.objs.size + 1) = some (siObj (.ref s.heap.objs.size) (0 : Nat) (.ref S) es.size ep) := by
        have : s.heap.objs.size + 1 = (s.heap.push { cls := .type "tuple", data := .seq (l.map fun (i : Nat) => rawInt i).toArray }).objs.size := by rw [Heap.size_push]
        rw [this]
        exact Heap.get?_push_size _ rfl
      have hI' : (s.heap.push { cls := .type "tuple", data := .seq (l.map fun (i : Nat) => rawInt i).toArray }).objs.size = s.heap.objs.size + 1 := Heap.size_push ..
      show wpAny _ _ (ret (Value.ref (s.heap.push { cls := .type "tuple", data := .seq (l.map fun (i : Nat) => rawInt i).toArray }).objs.size)) _ _ _
      rw [hI']
      refine wpAny_pure ⟨_, rfl, "set_iterator", _, ⟨_, hI, rfl⟩, F.slot_si_next.lookup, h _ _ d (fun b o e => Heap.get?_push_of_some _ (Heap.get?_push_of_some _ e))
        ⟨s.heap.objs.size + 1, _, _, _, _, hms, rfl, walks_drawn (T := s.heap.objs.size) (l := l) (fun k hk => List.mem_range.mp (hl.mem_iff.mp hk)) (by simpa using hl.length_eq) hh hf (Nat.ne_of_lt (Nat.lt_succ_of_lt hSt)) (Nat.ne_of_lt (Nat.lt_succ_self _)),
          ⟨hI, Heap.get?_push_of_some _ hS1, _, _, Heap.get?_push_of_some _ hT1, rfl⟩, fun b hb => ?_, ?_, ?_, fun b hb => ?_⟩⟩
      · rw [Heap.size_push, Heap.size_push]
        rcases List.mem_cons.mp hb with rfl | hb
        · exact Nat.lt_succ_self _
        · rcases List.mem_cons.mp hb with rfl | hb
          · exact Nat.lt_succ_of_lt (Nat.lt_succ_of_lt hSt)
          · rw [List.mem_singleton.mp hb]; exact Nat.lt_succ_of_lt (Nat.lt_succ_self _)
      · cases q : s.heap.get? (s.heap.objs.size + 1) with
        | none => rfl
        | some o => exact absurd (Heap.lt_size q) (Nat.not_lt.mpr (Nat.le_succ _))
      · rw [← hval]
        refine (hl.map _).trans ?_
        have : (List.range es.size).map (fun k => (es.getD k (0, .none)).2) = es.toList.map (·.2) := by
          refine List.ext_getElem (by simp) fun i h1 h2 => ?_
          simp at h1 h2
          simp [h1]
        rw [this]
      · rcases List.mem_cons.mp hb with rfl | hb
        · right
          cases q : s.heap.get? (s.heap.objs.size + 1) with
          | none => rfl
          | some o => exact absurd (Heap.lt_size q) (Nat.not_lt.mpr (Nat.le_succ _))
        · rcases List.mem_cons.mp hb with rfl | hb
          · exact .inl rfl
          · rw [List.mem_singleton.mp hb]; exact .inr (fresh s.heap)
    · rename_i q
      have q' : isDrawn es t = false := by
        cases z : isDrawn es t with
        | false => rfl
        | true => exact absurd z q
      exact plain (road_place T hb (by rw [hled]; simp [hb]) q') rfl (by rw [hval])
end
end Mine

end

section
open PySem PySem.W PyProof.Rows
set_option autoImplicit false
set_option maxRecDepth 100000
namespace Mine
noncomputable def ev {α : Type} (lt : Nat → Nat → Bool) : KasT α → α
  | .ret a => a
  | .ask i j k => ev lt (k (lt i j))
theorem ev_bind {α β : Type} (lt : Nat → Nat → Bool) (f : α → KasT β) : ∀ t : KasT α, ev lt (t.bind f) = ev lt (f (ev lt t))
  | .ret _ => rfl
  | .ask i j k => ev_bind lt f (k (lt i j))
theorem wp_ev {α : Type} {lt : Nat → Nat → Bool} {cmp : Nat → Nat → (Bool → Shared → Prop) → Shared → Prop} {s : Shared} {Q : α → Shared → Prop} (hc : ∀ i j C, C (lt i j) s → cmp i j C s) :
    ∀ t : KasT α, Q (ev lt t) s → t.kasWp cmp Q s
  | .ret _, h => h
  | .ask i j k, h => hc i j _ (wp_ev hc (k (lt i j)) h)
structure Tot (lt : Nat → Nat → Bool) (n : Nat) : Prop where
  tr : ∀ a b c, a < n → b < n → c < n → lt a b = true → lt b c = true → lt a c = true
  tot : ∀ a b, a < n → b < n → a ≠ b → lt a b = true ∨ lt b a = true
  irr : ∀ a, a < n → lt a a = false
section
variable {lt : Nat → Nat → Bool} {n : Nat}
theorem Tot.asym (T : Tot lt n) {a b : Nat} (ha : a < n) (hb : b < n) (h : lt a b = true) : lt b a = false := by
  cases e : lt b a with
  | false => rfl
  | true => have := T.tr a b a ha hb ha h e; rw [T.irr a ha] at this; cases this
theorem Tot.flip (T : Tot lt n) {a b : Nat} (ha : a < n) (hb : b < n) (hne : a ≠ b) (h : lt a b = false) : lt b a = true := by
  rcases T.tot a b ha hb hne with q | q
  · rw [h] at q; cases q
  · exact q
/-- an order of the n places -/
structure Pm (n : Nat) (p : Array Nat) : Prop where
  size : p.size = n
  perm : p.Perm (List.range n).toArray
theorem Pm.below {p : Array Nat} (P : Pm n p) {i : Nat} (hi : i < n) : p.getD i 0 < n := by
  have hi' : i < p.size := by rw [P.size]; exact hi
  have : p[i] ∈ p := Array.getElem_mem hi'
  have := (P.perm.mem_iff).mp this
  rw [show p.getD i 0 = p[i] by simp [hi']]
  simpa using this
theorem Pm.inj {p : Array Nat} (P : Pm n p) {i j : Nat} (hi : i < n) (hj : j < n) (hne : i ≠ j) : p.getD i 0 ≠ p.getD j 0 := by
  have hnd : p.toList.Nodup := ((Array.perm_iff_toList_perm.mp P.perm).nodup_iff).mpr List.nodup_range
  have hi' : i < p.size := by rw [P.size]; exact hi
  have hj' : j < p.size := by rw [P.size]; exact hj
  rw [show p.getD i 0 = p[i] by simp [hi'], show p.getD j 0 = p[j] by simp [hj']]
  intro e
  exact hne ((List.getElem_inj (xs := p.toList) (h₀ := by simpa using hi') (h₁ := by simpa using hj') hnd).mp (by simpa using e))
noncomputable def Up (lt : Nat → Nat → Bool) (p : Array Nat) (k : Nat) : Prop := ∀ i j, i < j → j < k → lt (p.getD i 0) (p.getD j 0) = true
noncomputable def Dn (lt : Nat → Nat → Bool) (p : Array Nat) (k : Nat) : Prop := ∀ i j, i < j → j < k → lt (p.getD j 0) (p.getD i 0) = true
theorem Up.next (T : Tot lt n) {p : Array Nat} (P : Pm n p) {k : Nat} (h : Up lt p k) (hk : k < n) (h1 : 1 ≤ k) (hl : lt (p.getD (k - 1) 0) (p.getD k 0) = true) : Up lt p (k + 1) := fun i j hij hj => by
  by_cases e : j < k
  · exact h i j hij e
  · have : j = k := by (first | lia | omega)
    subst this
    by_cases e2 : i = j - 1
    · subst e2; exact hl
    · exact T.tr _ _ _ (P.below (by (first | lia | omega))) (P.below (by (first | lia | omega))) (P.below hk) (h i (j - 1) (by (first | lia | omega)) (by (first | lia | omega))) hl
theorem Dn.next (T : Tot lt n) {p : Array Nat} (P : Pm n p) {k : Nat} (h : Dn lt p k) (hk : k < n) (h1 : 1 ≤ k) (hl : lt (p.getD k 0) (p.getD (k - 1) 0) = true) : Dn lt p (k + 1) := fun i j hij hj => by
  by_cases e : j < k
  · exact h i j hij e
  · have : j = k := by (first | lia | omega)
    subst this
    by_cases e2 : i = j - 1
    · subst e2; exact hl
    · exact T.tr _ _ _ (P.below hk) (P.below (by (first | lia | omega))) (P.below (by (first | lia | omega))) hl (h i (j - 1) (by (first | lia | omega)) (by (first | lia | omega)))
theorem asc_ok (T : Tot lt n) {p : Array Nat} (P : Pm n p) : ∀ (f k : Nat), 1 ≤ k → k + f = n → Up lt p k →
    k ≤ ev lt (kas_asc p f k) ∧ ev lt (kas_asc p f k) ≤ n ∧ Up lt p (ev lt (kas_asc p f k)) ∧ (ev lt (kas_asc p f k) = n ∨ lt (p.getD (ev lt (kas_asc p f k)) 0) (p.getD (ev lt (kas_asc p f k) - 1) 0) = true)
  | 0, k, h1, hk, hu => by unfold kas_asc ev; exact ⟨Nat.le_refl _, by (first | lia | omega), hu, .inl (by (first | lia | omega))⟩
  | f + 1, k, h1, hk, hu => by
    unfold kas_asc
    show k ≤ ev lt (if lt (p.getD k 0) (p.getD (k - 1) 0) = true then .ret k else kas_asc p f (k + 1)) ∧ ev lt (if lt (p.getD k 0) (p.getD (k - 1) 0) = true then .ret k else kas_asc p f (k + 1)) ≤ n ∧
      Up lt p (ev lt (if lt (p.getD k 0) (p.getD (k - 1) 0) = true then .ret k else kas_asc p f (k + 1))) ∧ (ev lt (if lt (p.getD k 0) (p.getD (k - 1) 0) = true then .ret k else kas_asc p f (k + 1)) = n ∨
        lt (p.getD (ev lt (if lt (p.getD k 0) (p.getD (k - 1) 0) = true then .ret k else kas_asc p f (k + 1))) 0) (p.getD (ev lt (if lt (p.getD k 0) (p.getD (k - 1) 0) = true then .ret k else kas_asc p f (k + 1)) - 1) 0) = true)
    cases c : lt (p.getD k 0) (p.getD (k - 1) 0) with
    | true => simp only [if_true]; exact ⟨Nat.le_refl _, by show k ≤ n; (first | lia | omega), hu, .inr c⟩
    | false =>
      simp only [Bool.false_eq_true, if_false]
      have hl := T.flip (P.below (by (first | lia | omega))) (P.below (by (first | lia | omega))) (P.inj (i := k) (j := k - 1) (by (first | lia | omega)) (by (first | lia | omega)) (by (first | lia | omega))) c
      obtain ⟨a, b, c', d⟩ := asc_ok T P f (k + 1) (by (first | lia | omega)) (by (first | lia | omega)) (hu.next T P (by (first | lia | omega)) h1 hl)
      exact ⟨by (first | lia | omega), b, c', d⟩
theorem desc_ok (T : Tot lt n) {p : Array Nat} (P : Pm n p) : ∀ (f k : Nat), 1 ≤ k → k + f = n → Dn lt p k → ∃ m, ev lt (kas_desc f p k 0) = (p, m, 0) ∧ k ≤ m ∧ m ≤ n ∧ Dn lt p m
  | 0, k, h1, hk, hd => ⟨k, rfl, Nat.le_refl _, by (first | lia | omega), hd⟩
  | f + 1, k, h1, hk, hd => by
    unfold kas_desc
    show ∃ m, ev lt (if lt (p.getD k 0) (p.getD (k - 1) 0) = true then (if (0 : Nat) > 0 then kas_desc f (kas_rev p (k - (0 + 1)) k) (k + 1) 0 else kas_desc f p (k + 1) 0)
      else .ask (p.getD (k - 1) 0) (p.getD k 0) fun d => if d = true then .ret (p, k, 0) else kas_desc f p (k + 1) (0 + 1)) = (p, m, 0) ∧ _
    cases c : lt (p.getD k 0) (p.getD (k - 1) 0) with
    | true =>
      simp only [if_true, Nat.lt_irrefl, if_false, gt_iff_lt]
      obtain ⟨m, a, b, c', d⟩ := desc_ok T P f (k + 1) (by (first | lia | omega)) (by (first | lia | omega)) (hd.next T P (by (first | lia | omega)) h1 c)
      exact ⟨m, a, by (first | lia | omega), c', d⟩
    | false =>
      simp only [Bool.false_eq_true, if_false]
      have hl := T.flip (P.below (by (first | lia | omega))) (P.below (by (first | lia | omega))) (P.inj (i := k) (j := k - 1) (by (first | lia | omega)) (by (first | lia | omega)) (by (first | lia | omega))) c
      show ∃ m, ev lt (if lt (p.getD (k - 1) 0) (p.getD k 0) = true then .ret (p, k, 0) else kas_desc f p (k + 1) (0 + 1)) = (p, m, 0) ∧ _
      rw [hl]
      exact ⟨k, rfl, Nat.le_refl _, by (first | lia | omega), hd⟩
theorem getD_of {p q : Array Nat} {i j : Nat} (h : p[i]? = q[j]?) : p.getD i 0 = q.getD j 0 := by
  rw [Array.getD_eq_getD_getElem?, Array.getD_eq_getD_getElem?, h]
theorem rev_pm {p : Array Nat} (P : Pm n p) (i j : Nat) : Pm n (kas_rev p i j) := ⟨by unfold kas_rev; rw [mirror_size]; exact P.size, (mirror_perm ..).trans P.perm⟩
theorem rev_up {p : Array Nat} (P : Pm n p) {m : Nat} (hm : m ≤ n) (h : Dn lt p m) : Up lt (kas_rev p 0 m) m := fun i j hij hj => by
  have e : ∀ k, k < m → (kas_rev p 0 m).getD k 0 = p.getD (m - 1 - k) 0 := fun k hk => by
    refine getD_of ?_
    unfold kas_rev
    rw [getElem?_mirror_all (by rw [P.size]; exact hm), if_pos ⟨Nat.zero_le _, hk⟩]
    congr 1; (first | lia | omega)
  rw [e i (by (first | lia | omega)), e j hj]
  exact h _ _ (by (first | lia | omega)) (by (first | lia | omega))
theorem count_ok (T : Tot lt n) (h2 : 2 ≤ n) {p : Array Nat} (P : Pm n p) : ∃ k p', ev lt (kas_count n p) = (k, p') ∧ 1 ≤ k ∧ k ≤ n ∧ Pm n p' ∧ Up lt p' k := by
  unfold kas_count
  rw [ev_bind]
  obtain ⟨a, b, c, d⟩ := asc_ok T P (n - 1) 1 (Nat.le_refl _) (by (first | lia | omega)) (fun i j h1 h2 => by (first | lia | omega))
  generalize ev lt (kas_asc p (n - 1) 1) = k at a b c d
  by_cases hk : k = n
  · rw [if_pos (by simpa using hk)]
    exact ⟨k, p, rfl, a, b, P, c⟩
  · rw [if_neg (by simpa using hk)]
    have d := d.resolve_left hk
    by_cases hgt : k > 1
    · rw [if_pos hgt]
      show ∃ k' p', ev lt (if lt (p.getD 0 0) (p.getD (k - 1) 0) = true then .ret (k, p) else kas_descPart k n (kas_rev p 0 k)) = (k', p') ∧ _
      rw [c 0 (k - 1) (by (first | lia | omega)) (by (first | lia | omega))]
      exact ⟨k, p, rfl, a, b, P, c⟩
    · rw [if_neg hgt]
      have hk1 : k = 1 := by (first | lia | omega)
      subst hk1
      unfold kas_descPart
      rw [ev_bind]
      have hdn : Dn lt p 2 := fun i j h1 h2 => by
        have h3 : i = 0 := by (first | lia | omega)
        have h4 : j = 1 := by (first | lia | omega)
        subst h3; subst h4; exact d
      obtain ⟨m, e1, e2, e3, e4⟩ := desc_ok T P (n - (1 + 1)) (1 + 1) (by (first | lia | omega)) (by (first | lia | omega)) hdn
      rw [e1]
      dsimp only
      rw [if_neg (by (first | lia | omega))]
      unfold kas_tail3
      rw [ev_bind]
      obtain ⟨a', b', c', _⟩ := asc_ok T (rev_pm P 0 m) (n - m) m (by (first | lia | omega)) (by (first | lia | omega)) (rev_up P e3 e4)
      exact ⟨_, _, rfl, by (first | lia | omega), b', rev_pm P 0 m, c'⟩
theorem place_ok (T : Tot lt n) {p : Array Nat} (P : Pm n p) {k : Nat} (hk : k < n) (hu : Up lt p k) : ∀ (f l r : Nat), l ≤ r → r ≤ k → r - l ≤ f → (∀ i, i < l → lt (p.getD i 0) (p.getD k 0) = true) → (∀ i, r ≤ i → i < k → lt (p.getD k 0) (p.getD i 0) = true) →
    ev lt (kas_place p k f l r) ≤ k ∧ (∀ i, i < ev lt (kas_place p k f l r) → lt (p.getD i 0) (p.getD k 0) = true) ∧ (∀ i, ev lt (kas_place p k f l r) ≤ i → i < k → lt (p.getD k 0) (p.getD i 0) = true)
  | 0, l, r, h1, h2, h3, h4, h5 => ⟨by show l ≤ k; (first | lia | omega), h4, fun i hi hk' => h5 i (by have : l ≤ i := hi; (first | lia | omega)) hk'⟩
  | f + 1, l, r, h1, h2, h3, h4, h5 => by
    unfold kas_place
    by_cases hge : l ≥ r
    · rw [if_pos hge]
      exact ⟨by show l ≤ k; (first | lia | omega), h4, fun i hi hk' => h5 i (by have : l ≤ i := hi; (first | lia | omega)) hk'⟩
    · rw [if_neg hge]
      have hm : (l + r) / 2 < k := by (first | lia | omega)
      have key : (lt (p.getD k 0) (p.getD ((l + r) / 2) 0) = true → ev lt (.ask (p.getD k 0) (p.getD ((l + r) / 2) 0) fun c => if c = true then kas_place p k f l ((l + r) / 2) else kas_place p k f ((l + r) / 2 + 1) r) = ev lt (kas_place p k f l ((l + r) / 2))) ∧
          (lt (p.getD k 0) (p.getD ((l + r) / 2) 0) = false → ev lt (.ask (p.getD k 0) (p.getD ((l + r) / 2) 0) fun c => if c = true then kas_place p k f l ((l + r) / 2) else kas_place p k f ((l + r) / 2 + 1) r) = ev lt (kas_place p k f ((l + r) / 2 + 1) r)) := by
        constructor <;> intro q <;> (show ev lt (if lt (p.getD k 0) (p.getD ((l + r) / 2) 0) = true then _ else _) = _) <;> rw [q] <;> rfl
      cases c : lt (p.getD k 0) (p.getD ((l + r) / 2) 0) with
      | true =>
        rw [key.1 c]
        refine place_ok T P hk hu f l ((l + r) / 2) (by (first | lia | omega)) (by (first | lia | omega)) (by (first | lia | omega)) h4 fun i hi hk' => ?_
        by_cases e : i = (l + r) / 2
        · rw [e]; exact c
        · exact T.tr _ _ _ (P.below hk) (P.below (by (first | lia | omega))) (P.below (by (first | lia | omega))) c (hu _ _ (by (first | lia | omega)) hk')
      | false =>
        rw [key.2 c]
        have hl := T.flip (P.below hk) (P.below (by (first | lia | omega))) (P.inj hk (by (first | lia | omega)) (by (first | lia | omega))) c
        refine place_ok T P hk hu f ((l + r) / 2 + 1) r (by (first | lia | omega)) (by (first | lia | omega)) (by (first | lia | omega)) (fun i hi => ?_) h5
        by_cases e : i = (l + r) / 2
        · rw [e]; exact hl
        · exact T.tr _ _ _ (P.below (by (first | lia | omega))) (P.below (by (first | lia | omega))) (P.below hk) (hu _ _ (by (first | lia | omega)) hm) hl
theorem bin_ok (T : Tot lt n) : ∀ (f : Nat) (p : Array Nat) (k : Nat), Pm n p → Up lt p k → k + f = n → Pm n (ev lt (kas_bin f p k)) ∧ Up lt (ev lt (kas_bin f p k)) n
  | 0, p, k, P, hu, e => by unfold kas_bin ev; exact ⟨P, by rw [← e]; exact hu⟩
  | f + 1, p, k, P, hu, e => by
    unfold kas_bin
    rw [ev_bind]
    obtain ⟨a, b, c⟩ := place_ok T P (k := k) (by (first | lia | omega)) hu k 0 k (Nat.zero_le _) (Nat.le_refl _) (by (first | lia | omega)) (fun i hi => by (first | lia | omega)) (fun i h1 h2 => by (first | lia | omega))
    generalize ev lt (kas_place p k k 0 k) = l at a b c
    refine bin_ok T f _ (k + 1) ⟨by rw [bubble_size]; exact P.size, (bubble_perm ..).trans P.perm⟩ (fun i j hij hj => ?_) (by (first | lia | omega))
    have g : ∀ x, (bubble p k (k - l)).getD x 0 = if x = l then p.getD k 0 else if l < x ∧ x ≤ k then p.getD (x - 1) 0 else p.getD x 0 := fun x => by
      have q := getElem?_bubble (xs := p) (src := k) (by rw [P.size]; (first | lia | omega)) (k - l) (by (first | lia | omega)) x
      rw [show k - (k - l) = l by (first | lia | omega)] at q
      split
      · rename_i h; rw [if_pos h] at q; exact getD_of q
      · rename_i h; rw [if_neg h] at q
        split
        · rename_i h'; rw [if_pos h'] at q; exact getD_of q
        · rename_i h'; rw [if_neg h'] at q; exact getD_of q
    rw [g i, g j]
    repeat' split
    all_goals first
      | (exfalso; (first | lia | omega))
      | exact b _ (by (first | lia | omega))
      | exact c _ (by (first | lia | omega)) (by (first | lia | omega))
      | exact hu _ _ (by (first | lia | omega)) (by (first | lia | omega))
theorem sort_ok (T : Tot lt n) (h2 : 2 ≤ n) : Pm n (ev lt (kas_sort n)) ∧ Up lt (ev lt (kas_sort n)) n := by
  unfold kas_sort
  rw [ev_bind]
  obtain ⟨k, p, e, h1, hk, P, hu⟩ := count_ok T h2 (p := (List.range n).toArray) ⟨by simp, .refl _⟩
  rw [e]
  dsimp only
  by_cases h : k < n
  · rw [if_pos h, show max k 1 = k by (first | lia | omega)]
    exact bin_ok T _ _ _ P hu (by (first | lia | omega))
  · rw [if_neg h]
    exact ⟨P, by rw [show n = k by (first | lia | omega)]; exact hu⟩
/-- what is asked lies among the places -/
noncomputable def AA {α : Type} (n : Nat) (P : α → Prop) : KasT α → Prop
  | .ret a => P a
  | .ask i j k => i < n ∧ j < n ∧ ∀ b, AA n P (k b)
theorem AA.bind {α β : Type} {P : α → Prop} {Q : β → Prop} {f : α → KasT β} (hf : ∀ a, P a → AA n Q (f a)) : ∀ t : KasT α, AA n P t → AA n Q (t.bind f)
  | .ret a, h => hf a h
  | .ask _ _ k, h => ⟨h.1, h.2.1, fun b => AA.bind hf (k b) (h.2.2 b)⟩
theorem AA.ite {α : Type} {P : α → Prop} {c : Prop} [Decidable c] {a b : KasT α} (ha : AA n P a) (hb : AA n P b) : AA n P (if c then a else b) := by split <;> assumption
noncomputable def Bd (n : Nat) (p : Array Nat) : Prop := ∀ x, p.getD x 0 < n
theorem Bd.of_perm (h0 : 0 < n) {p q : Array Nat} (h : Bd n p) (hp : q.Perm p) : Bd n q := fun x => by
  by_cases hx : x < q.size
  · have : q[x] ∈ p := hp.mem_iff.mp (Array.getElem_mem hx)
    obtain ⟨y, hy, e⟩ := Array.getElem_of_mem this
    rw [show q.getD x 0 = q[x] by simp [hx], ← e]
    have := h y
    rwa [show p.getD y 0 = p[y] by simp [hy]] at this
  · rw [show q.getD x 0 = 0 by simp [hx]]; exact h0
theorem asc_aa {p : Array Nat} (h : Bd n p) : ∀ (f k : Nat), AA n (fun _ => True) (kas_asc p f k)
  | 0, _ => trivial
  | f + 1, k => ⟨h _, h _, fun _ => AA.ite trivial (asc_aa h f (k + 1))⟩
theorem desc_aa (h0 : 0 < n) : ∀ (f : Nat) (p : Array Nat) (k q : Nat), Bd n p → AA n (fun r => Bd n r.1) (kas_desc f p k q)
  | 0, p, _, _, h => h
  | f + 1, p, k, q, h => ⟨h _, h _, fun _ => AA.ite (AA.ite (desc_aa h0 f _ _ _ (h.of_perm h0 (mirror_perm ..))) (desc_aa h0 f _ _ _ h)) ⟨h _, h _, fun _ => AA.ite h (desc_aa h0 f _ _ _ h)⟩⟩
theorem AA.leaf {α : Type} {P : α → Prop} {a : α} (h : P a) : AA n P (.ret a) := h
theorem AA.q {α : Type} {P : α → Prop} {i j : Nat} {k : Bool → KasT α} (hi : i < n) (hj : j < n) (hk : ∀ b, AA n P (k b)) : AA n P (.ask i j k) := ⟨hi, hj, hk⟩
theorem Bd.rev (h0 : 0 < n) {p : Array Nat} (h : Bd n p) (i j : Nat) : Bd n (kas_rev p i j) := h.of_perm h0 (mirror_perm ..)
theorem tail_aa (h0 : 0 < n) {a b : Nat} {p : Array Nat} (h : Bd n p) : AA n (fun r => Bd n r.2) (kas_tail3 a b p) := by
  unfold kas_tail3
  refine AA.bind (P := fun _ => True) ?_ _ (asc_aa (h.rev h0 _ _) _ _)
  intro m _
  exact h.rev h0 _ _
theorem part_aa (h0 : 0 < n) {a b : Nat} {p : Array Nat} (h : Bd n p) : AA n (fun r => Bd n r.2) (kas_descPart a b p) := by
  unfold kas_descPart
  refine AA.bind (P := fun r => Bd n r.1) ?_ _ (desc_aa h0 _ _ _ _ h)
  intro r hr
  exact AA.ite (tail_aa h0 (Bd.rev h0 hr _ _)) (tail_aa h0 hr)
theorem count_aa (h0 : 0 < n) {b : Nat} {p : Array Nat} (h : Bd n p) : AA n (fun r => Bd n r.2) (kas_count b p) := by
  unfold kas_count
  refine AA.bind (P := fun _ => True) ?_ _ (asc_aa h _ _)
  intro k _
  refine AA.ite (AA.leaf h) (AA.ite ?_ (part_aa h0 h))
  refine AA.q (h _) (h _) ?_
  intro b
  exact AA.ite (AA.leaf h) (part_aa h0 (h.rev h0 _ _))
theorem place_aa {p : Array Nat} (h : Bd n p) (k : Nat) : ∀ (f l r : Nat), AA n (fun _ => True) (kas_place p k f l r)
  | 0, _, _ => trivial
  | f + 1, l, r => AA.ite (c := l ≥ r) trivial ⟨h _, h _, fun _ => AA.ite (place_aa h k f _ _) (place_aa h k f _ _)⟩
theorem bin_aa (h0 : 0 < n) : ∀ (f : Nat) (p : Array Nat) (k : Nat), Bd n p → AA n (fun _ => True) (kas_bin f p k)
  | 0, _, _, _ => trivial
  | f + 1, p, k, h => by
    unfold kas_bin
    exact AA.bind (P := fun _ => True) (fun l _ => bin_aa h0 f _ _ (h.of_perm h0 (bubble_perm ..))) _ (place_aa h k k 0 k)
theorem sort_aa (h0 : 0 < n) : AA n (fun _ => True) (kas_sort n) := by
  unfold kas_sort
  refine AA.bind (P := fun r => Bd n r.2) ?_ _ (count_aa h0 fun x => ?_)
  · intro r hr
    exact AA.ite (bin_aa h0 _ _ _ hr) (AA.leaf trivial)
  · by_cases hx : x < n
    · simpa [hx] using hx
    · simpa [hx] using h0
end
end Mine

end

section
open PySem PyProof.Rows PySem.W
set_option autoImplicit false
set_option maxRecDepth 100000
namespace Mine
section
variable {prog : Program} {w : World} {A : Around} {E : Value → Shared → Prop} {s : Shared} {S : Addr}
theorem collect_set {ms : List (List Mix × Addr)} (hh : A.handled = none) (H : SetHas prog w s.heap S ms) (hn : ms.length ≤ 40) {Q : List Value → Shared → Prop}
    (h : ∀ h' tk d acc, (∀ b o, s.heap.get? b = some o → h'.get? b = some o) → acc.Perm (ms.map fun p => Value.ref p.2) → Q acc { s with heap := h', toks := tk, drawn := d }) : wpAny (model prog w) A (collect (.ref S)) Q E s := by
  have hS0 := H
  obtain ⟨es, ep, t, hS, T, He, hled⟩ := hS0
  have hSlt : S < s.heap.objs.size := Heap.lt_size hS
  unfold collect
  refine wpAny_bind (wpAny_runValue (codeAny_builtin PySem.F.entry_proto_collect ?_))
  rw [Around.under_plainId PySem.F.plain_proto_collect _]
  show wpAny _ A.in1 (newList [] >>= fun l => again (.builtin "list.__iadd__" ⟨[l, .ref S], []⟩)) _ _ s
  refine wpAny_bind (wpAny_newObj_type ?_)
  refine wpAny_pure ⟨plainId_quiet PySem.F.plain_list_iadd _, codeAny_builtin PySem.F.entry_list_iadd ?_⟩
  rw [Around.under_plainId PySem.F.plain_list_iadd _]
  generalize hD : s.heap.objs.size = D
  have hDD : (s.heap.push { cls := .type "list", data := .seq ([] : List Value).toArray }).get? D = some { cls := .type "list", data := .seq ([] : List Value).toArray } := by rw [← hD]; exact Heap.get?_push_size _ rfl
  have up : ∀ b o, s.heap.get? b = some o → (s.heap.push { cls := .type "list", data := .seq ([] : List Value).toArray }).get? b = some o := fun b o e => Heap.get?_push_of_some _ e
  generalize hH1 : s.heap.push { cls := .type "list", data := .seq ([] : List Value).toArray } = H1 at hDD up ⊢
  have hS1 := up _ _ hS
  have SH1 : SetHas prog w H1 S ms := ⟨es, ep, t, hS1, T, He.keep fun a o e _ => up a o e, hled⟩
  have hDS : D ≠ S := by rw [← hD]; exact Nat.ne_of_gt hSlt
  have h1 : Builtin.List.listSameRef (.ref D) (.ref S) = false := by simp [Builtin.List.listSameRef, hDS]
  show wpAny _ A.in1 (Builtin.List.listExtendWith (.ref D) (.ref S) (.ref D)) _ _ _
  unfold Builtin.List.listExtendWith
  have hTy : Shared.TypeIs { s with heap := H1 } (.ref S) "set" := ⟨_, hS1, rfl⟩
  refine wpAny_bind (wpAny_typeOf hTy ?_)
  rw [if_neg (by rw [h1]; decide)]
  refine wpAny_bind (iter_set A.in1 hh SH1 fun it h' d keep W => ?_)
  have hTy' : Shared.TypeIs { s with heap := h', drawn := d } (.ref S) "set" := ⟨_, keep _ _ hS1, rfl⟩
  refine wpAny_bind (wpAny_holding ?_)
  unfold Builtin.List.listLengthHint
  refine wpAny_bind (wpAny_specialOf hTy' PySem.F.slot_set_len.lookup ?_)
  have hsp : splitId "set.__len__" = some ("set", "__len__") := by decide +kernel
  dsimp only
  rw [hsp]
  dsimp only
  refine wpAny_bind (wpAny_isInstance (b := true) hTy' (by rw [isSubtype_type]; kernel_rfl) ?_)
  simp only [Bool.not_true, Bool.false_eq_true, if_false]
  rw [if_pos (by decide +kernel)]
  refine wpAny_bind (wpAny_typeOf hTy' ?_)
  refine wpAny_pure ?_
  rw [if_pos (by decide +kernel)]
  refine wpAny_bind (wpAny_rule ?_)
  have hD' := keep _ _ hDD
  unfold Builtin.List.listTouch
  have d1 := get?_update_seq hD' (fun xs => xs.push Value.none)
  have d2 := get?_update_seq d1 (fun xs => xs.pop)
  refine wpAny_bind (wpAny_bind (listUpdate_at (s := { s with heap := h', drawn := d }) hD' rfl ?_))
  refine listUpdate_at (s := { s with heap := _, drawn := d }) d1 rfl ?_
  obtain ⟨I, fp, St, ord, n, hnms, rfl, Wk, hst, hfp, hI, hperm, hfS⟩ := W
  have hDfp : D ∉ fp := fun hm => (hfS D hm).elim hDS fun q => by rw [hDD] at q; cases q
  · have sb : ∀ b o, b ≠ D → h'.get? b = some o → ((h'.update D (Obj.mapSeq fun xs => xs.push Value.none)).update D (Obj.mapSeq fun xs => xs.pop)).get? b = some o := fun b o hb e =>
      ((Heap.SameBut.update ..).2 b hb).trans (((Heap.SameBut.update ..).2 b hb).trans e)
    refine wpAny_pure ⟨plainId_quiet PySem.F.plain_extend_loop _, codeAny_extend_loopS Wk.toS (by rw [sizeLine_eq]; (first | lia | omega)) D hDfp (.ref D) n 0 _ #[] _ (by (first | lia | omega)) (by (first | lia | omega))
      (Wk.frame 0 _ _ hst fun b hb o e => sb b o (fun q => hDfp (q ▸ hb)) e) d2 (ItemsOf.nil _) fun s' acc' c' hm hS' hacc => ?_⟩
    show wpAny _ A (load D >>= _) _ _ s'
    refine wpAny_bind (wpAny_load hS' ?_)
    have hv : acc'.toList = ord := by
      refine List.ext_getElem? fun j => ?_
      have hlen : ord.length = n := by rw [hperm.length_eq, List.length_map, hnms]
      by_cases hj : j < n
      · have hj' : j < acc'.size := by rw [hacc.1]; exact hj
        have := hacc.2 j acc'[j] (Array.getElem?_eq_getElem hj')
        rw [Array.getElem?_toList, Array.getElem?_eq_getElem hj', this]
      · rw [List.getElem?_eq_none (by rw [Array.length_toList, hacc.1]; (first | lia | omega)), List.getElem?_eq_none (by (first | lia | omega))]
    obtain ⟨h2, g2, dd2, tk2, os2⟩ := s'
    have eg : g2 = s.gens := hm.gens
    have ed : dd2 = d := hm.drawn
    have eo : os2 = s.os := hm.os
    subst eg; subst ed; subst eo
    refine wpAny_pure (h h2 tk2 dd2 _ (fun b o e => ?_) (by rw [hv]; exact hperm))
    have hbD : b ≠ D := by rw [← hD]; exact Nat.ne_of_lt (Heap.lt_size e)
    have hbI : b ≠ I := fun q => by rw [← q] at hI; rw [up b o e] at hI; cases hI
    exact hm.heap b o (by simp [hbD, hbI]) (sb b o hbD (keep b o (up b o e)))
end
end Mine

end

section
open PySem PyProof.Rows PySem.W
set_option autoImplicit false
set_option maxRecDepth 100000
namespace Mine
noncomputable abbrev FK := Int × Str
noncomputable def mx (k : FK) : List Mix := [.inl k.1, .inr k.2]
theorem mx_inj {a b : FK} (h : mx a = mx b) : a = b := by
  obtain ⟨a1, a2⟩ := a; obtain ⟨b1, b2⟩ := b
  simp [mx] at h; obtain ⟨rfl, rfl⟩ := h; rfl
noncomputable def ltP (a b : FK) : Bool := decide (a.1 < b.1) || (decide (a.1 = b.1) && decide (a.2.cps.toList < b.2.cps.toList))
theorem ltP_irr (a : FK) : ltP a a = false := by
  unfold ltP; simp [List.lt_irrefl]
theorem ltP_tr {a b c : FK} (h1 : ltP a b = true) (h2 : ltP b c = true) : ltP a c = true := by
  unfold ltP at *
  simp only [Bool.or_eq_true, Bool.and_eq_true, decide_eq_true_eq] at *
  rcases h1 with h1 | ⟨h1, h1'⟩ <;> rcases h2 with h2 | ⟨h2, h2'⟩
  · left; (first | lia | omega)
  · left; (first | lia | omega)
  · left; (first | lia | omega)
  · exact .inr ⟨by (first | lia | omega), List.lt_trans h1' h2'⟩
theorem ltP_tot {a b : FK} (h : a ≠ b) : ltP a b = true ∨ ltP b a = true := by
  unfold ltP
  simp only [Bool.or_eq_true, Bool.and_eq_true, decide_eq_true_eq]
  by_cases e : a.1 = b.1
  · by_cases l1 : a.2.cps.toList < b.2.cps.toList
    · exact .inl (.inr ⟨e, l1⟩)
    · by_cases l2 : b.2.cps.toList < a.2.cps.toList
      · exact .inr (.inr ⟨e.symm, l2⟩)
      · refine absurd ?_ h
        have := List.le_antisymm (List.not_lt.mp l2) (List.not_lt.mp l1)
        obtain ⟨a1, ⟨a2⟩⟩ := a; obtain ⟨b1, ⟨b2⟩⟩ := b
        dsimp only at e this
        rw [e, Array.toList_inj.mp this]
  · rcases Int.lt_or_gt_of_ne e with q | q
    · exact .inl (.inl q)
    · exact .inr (.inl q)
section
variable {prog : Program} {w : World} {A : Around} {E : Value → Shared → Prop} {s : Shared}
theorem TK.pair {h : Heap} {k : FK} {a : Addr} (H : TK prog w h (mx k) a) : ∃ o t u n, h.get? a = some o ∧ o.cls = .type "tuple" ∧ o.data = .seq (List.toArray [.int k.1 t, .str k.2 u]) n := by
  obtain ⟨o, items, n, h1, h2, h3, h4⟩ := H
  obtain ⟨l⟩ := items
  unfold mx at h4
  cases h4 with
  | cons g1 r1 =>
    cases r1 with
    | cons g2 r2 =>
      cases r2 with
      | nil =>
        rcases isMix_shape (show isMix (.inl k.1) _ = true from g1) with ⟨i, t, e, rfl⟩ | ⟨x, t, e, rfl⟩ <;> cases e
        rcases isMix_shape (show isMix (.inr k.2) _ = true from g2) with ⟨i, u, e, rfl⟩ | ⟨x, u, e, rfl⟩ <;> cases e
        exact ⟨o, t, u, n, h1, h2, h3⟩
theorem TK.mk {h : Heap} {k : FK} {a : Addr} {t u : Tok} (H : IsTup h a (List.toArray [.int k.1 t, .str k.2 u])) : TK prog w h (mx k) a := by
  obtain ⟨o, h1, h2, n, h3⟩ := H
  refine ⟨o, _, n, h1, h2, h3, ?_⟩
  exact .cons (k := (.inl k.1 : Mix)) (by show Value.isInt k.1 (.int k.1 t) = true; simp [Value.isInt]) (.cons (k := (.inr k.2 : Mix)) (by show Value.isStrOf k.2 (.str k.2 u) = true; simp [Value.isStrOf]) .nil)
theorem lt_pair {a b : Addr} {ka kb : FK} {Q : Bool → Shared → Prop} (Ha : TK prog w s.heap (mx ka) a) (Hb : TK prog w s.heap (mx kb) b) (h : Q (ltP ka kb) s) :
    wpAny (model prog w) A (keyLt' (tuples' true) (.ref a) (.ref b)) Q E s := by
  obtain ⟨oa, ta, ua, na, a1, _, a3⟩ := Ha.pair
  obtain ⟨ob, tb, ub, nb, b1, _, b3⟩ := Hb.pair
  refine kat_lt a1 a3 b1 b3 (kat_cons (wpAny_eqBool_int (kat_go (fun e => kat_yes (kat_cons (wpAny_eqBool_str (kat_go (fun e2 => kat_yes (kat_nil ?_)) fun e2 => kat_no ?_)))) fun e => kat_no ?_)))
  · have e' : ka.1 = kb.1 := by simpa using e
    have e2' : ka.2 = kb.2 := by simpa using e2
    have : ka = kb := Prod.ext e' e2'
    rw [this, ltP_irr] at h
    simpa using h
  · have e' : ka.1 = kb.1 := by simpa using e
    refine kat_one (E := fun _ _ => False) _ _ (PyProof.Rows.lt_str ?_)
    have : ltP ka kb = decide (ka.2.cps.toList < kb.2.cps.toList) := by unfold ltP; simp [e']
    rw [this] at h
    exact h
  · have e' : ka.1 ≠ kb.1 := by simpa using e
    refine oneLt_int ?_
    have : ltP ka kb = decide (ka.1 < kb.1) := by unfold ltP; simp [e']
    rw [this] at h
    exact h
theorem sort_short {a : Addr} {v : List Value} {n : Nat} {P : PySem.Fin → Shared → Prop} (ho : s.heap.get? a = some (seqObj "list" v.toArray n)) (h2 : v.length < 2)
    (h : ∀ h' c, (∀ b o, b ≠ a → s.heap.get? b = some o → h'.get? b = some o) → h'.get? a = some (seqObj "list" v.toArray c) → P (.done (.ret .none)) { s with heap := h' }) :
    wpAny (model prog w) A (Builtin.«list.sort» ⟨[.ref a], []⟩) P E s := by
  rw [list_sort_plain]
  refine wpAny_bind (listItems_at ho rfl ?_)
  refine wpAny_bind (listUpdate_at ho rfl ?_ (by rw [List.size_toArray, sizeLine_eq]; (first | lia | omega)) (Nat.zero_le _))
  obtain ⟨e1, ho1⟩ : ∃ e1, (s.heap.update a (Obj.mapSeq fun _ => (#[] : Array Value))).get? a = some (seqObj "list" #[] e1) := ⟨_, get?_update_seq ho (fun _ => #[])⟩
  refine wpAny_bind (seqEpoch_at ho1 rfl ?_)
  refine wpAny_bind (wpAny_newTuple ?_ (by show v.length ≤ _; rw [sizeLine_eq]; (first | lia | omega)))
  refine wpAny_bind (wpAny_newList ?_ (Nat.zero_le _))
  refine wpAny_holding ?_
  have hs : v.toArray.size < 2 := by rw [List.size_toArray]; exact h2
  rw [if_pos hs, if_pos hs]
  refine wpAny_bind (wpAny_pure ?_)
  dsimp only
  rw [StateT.run_pure]
  refine wpAny_bind (wpAny_pure ?_)
  dsimp only
  have g1 : (((s.heap.update a (Obj.mapSeq fun _ => (#[] : Array Value))).push (seqObj "tuple" v.toArray 0)).push (seqObj "list" #[] 0)).get? a = some (seqObj "list" #[] e1) := Heap.get?_push_of_some _ (Heap.get?_push_of_some _ ho1)
  refine wpAny_bind (seqEpoch_at (s := { s with heap := ((s.heap.update a (Obj.mapSeq fun _ => (#[] : Array Value))).push (seqObj "tuple" v.toArray 0)).push (seqObj "list" #[] 0) }) g1 rfl ?_)
  have eo : (arrOf (SortSt.mk' general' (v.toArray.zip v.toArray) #[] 7 none)).map (·.2) = v.toArray := by
    show (v.toArray.zip v.toArray).map (·.2) = v.toArray
    apply Array.toList_inj.mp
    simp
    exact List.map_snd_zip (Nat.le_refl _)
  rw [eo]
  refine wpAny_bind (listUpdate_at (s := { s with heap := ((s.heap.update a (Obj.mapSeq fun _ => (#[] : Array Value))).push (seqObj "tuple" v.toArray 0)).push (seqObj "list" #[] 0) }) g1 rfl ?_ (Nat.zero_le _) (by rw [List.size_toArray, sizeLine_eq]; (first | lia | omega)))
  simp only [bne_self_eq_false, Bool.false_eq_true, if_false]
  refine wpAny_pure (h _ _ (fun b o hb e => ?_) (get?_update_seq g1 fun _ => v.toArray))
  exact ((Heap.SameBut.update ..).2 b hb).trans (Heap.get?_push_of_some _ (Heap.get?_push_of_some _ (((Heap.SameBut.update ..).2 b hb).trans e)))
end
end Mine

end

section
open PySem PyProof.Rows PySem.W
set_option autoImplicit false
set_option maxRecDepth 100000
namespace Mine
section
variable {prog : Program} {w : World} {A : Around} {E : Value → Shared → Prop} {s : Shared} {h₀ : Heap} {L a : Addr} {m : Str → Option Value} {news : List (Addr × Obj)}
noncomputable abbrev refsP (ms : List (FK × Addr)) : List Value := ms.map fun p => Value.ref p.2
/-- the list of pairs is put into order -/
theorem sort_pairs {n : Nat} {P : PySem.Fin → Shared → Prop} (ms : List (FK × Addr)) (F : Fr h₀ L s.heap m) (N : News h₀ L s.heap news) (ho : s.heap.get? a = some (seqObj "list" (refsP ms).toArray n)) (haL : a ≠ L) (ha0 : h₀.get? a = none) (hna : ∀ p ∈ news, p.1 ≠ a)
    (h64 : ms.length < 64) (hTK : ∀ p ∈ ms, ∀ h', Fr h₀ L h' m → News h₀ L h' news → TK prog w h' (mx p.1) p.2) (hnd : (ms.map (·.1)).Nodup)
    (h : ∀ h' c ms', Fr h₀ L h' m → News h₀ L h' ((a, seqObj "list" (refsP ms').toArray c) :: news) → ms'.Perm ms → (ms'.map (·.1)).Pairwise (fun x y => ltP x y = true) → P (.done (.ret .none)) { s with heap := h' }) :
    wpAny (model prog w) A (Builtin.«list.sort» ⟨[.ref a], []⟩) P E s := by
  by_cases h2 : 2 ≤ ms.length
  · refine kat_list_sort (vs := refsP ms) F N ho haL ha0 hna (by simpa using h2) (by simpa using h64) fun e1 h' F' N' => ?_
    have N0 : News h₀ L h' news := fun p hp => N' p (List.mem_cons_of_mem _ hp)
    have hT : ∀ p ∈ ms, TK prog w h' (mx p.1) p.2 := fun p hp => hTK p hp h' F' N0
    have lenv : (refsP ms).length = ms.length := by simp
    -- the kind of the keys
    obtain ⟨fs, hfs, hfl, hft⟩ : ∃ fs, KatTups h' (refsP ms) fs ∧ fs.length = ms.length ∧ ∀ v ∈ fs, ∃ i t, v = Value.int i t := by
      have : ∀ l : List (FK × Addr), (∀ p ∈ l, TK prog w h' (mx p.1) p.2) → ∃ fs, KatTups h' (refsP l) fs ∧ fs.length = l.length ∧ ∀ v ∈ fs, ∃ i t, v = Value.int i t := by
        intro l
        induction l with
        | nil => intro _; exact ⟨[], trivial, rfl, fun _ h => (nomatch h)⟩
        | cons p l ih =>
          intro hl
          obtain ⟨fs, a1, a2, a3⟩ := ih fun q hq => hl q (List.mem_cons_of_mem _ hq)
          obtain ⟨o, t, u, n', b1, b2, b3⟩ := (hl p (List.mem_cons_self ..)).pair
          refine ⟨.int p.1.1 t :: fs, KatTups.cons b1 b2 b3 (by simp) a1, by simp [a2], fun v hv => ?_⟩
          rcases List.mem_cons.mp hv with rfl | hv
          · exact ⟨_, _, rfl⟩
          · exact a3 v hv
      exact this ms hT
    refine kat_kind (T := .type "int") hfs (by rw [hfl]; (first | lia | omega)) (fun v hv => ?_) (by decide) ?_
    · obtain ⟨i, t, rfl⟩ := hft v hv
      exact Looks.of_pure rfl
    rw [show (Value.type "int" != Value.type "tuple") = true from by decide]
    -- the comparisons
    let lt : Nat → Nat → Bool := fun i j => match ms[i]?, ms[j]? with
      | some p, some q => ltP p.1 q.1
      | _, _ => false
    have hlt : ∀ i j (hi : i < ms.length) (hj : j < ms.length), lt i j = ltP ms[i].1 ms[j].1 := fun i j hi hj => by
      show (match ms[i]?, ms[j]? with | some p, some q => ltP p.1 q.1 | _, _ => false) = _
      rw [List.getElem?_eq_getElem hi, List.getElem?_eq_getElem hj]
    have hinj : ∀ i j (hi : i < ms.length) (hj : j < ms.length), i ≠ j → ms[i].1 ≠ ms[j].1 := fun i j hi hj hne e =>
      hne ((List.getElem_inj (xs := ms.map (·.1)) (h₀ := by simpa using hi) (h₁ := by simpa using hj) hnd).mp (by simpa using e))
    have T : Tot lt ms.length := ⟨fun a b c ha hb hc h1 h2 => by rw [hlt _ _ ha hb] at h1; rw [hlt _ _ hb hc] at h2; rw [hlt _ _ ha hc]; exact ltP_tr h1 h2,
      fun a b ha hb hne => by rw [hlt _ _ ha hb, hlt _ _ hb ha]; exact ltP_tot (hinj a b ha hb hne), fun a ha => by rw [hlt _ _ ha ha]; exact ltP_irr _⟩
    obtain ⟨Pm1, Up1⟩ := sort_ok T h2
    have ask : ∀ {α : Type} {P : α → Prop} (t : KasT α) (G : α → Shared → Prop), AA ms.length P t → G (ev lt t) { s with heap := h' } → t.kasWp (kas_ask prog w A (tuples' true) (refsP ms)) G { s with heap := h' } := fun {α P} t => by
      induction t with
      | ret a => intro G _ h; exact h
      | ask i j k ih =>
        rintro G ⟨hi, hj, hk⟩ hG
        show wpAny _ _ (keyLt' _ ((refsP ms).getD i Value.none) ((refsP ms).getD j Value.none)) _ _ _
        rw [show (refsP ms).getD i Value.none = .ref ms[i].2 by simp [hi], show (refsP ms).getD j Value.none = .ref ms[j].2 by simp [hj]]
        refine lt_pair (s := { s with heap := h' }) (hT _ (List.getElem_mem hi)) (hT _ (List.getElem_mem hj)) ?_
        rw [← hlt i j hi hj]
        exact ih (lt i j) G (hk _) hG
    rw [lenv]
    refine ask (kas_sort ms.length) _ (sort_aa (by (first | lia | omega))) ?_
    refine KasFin.intro F' N' (UpdF.head fun p hp => hna p hp) fun h2' c F2 N2 => ?_
    generalize ev lt (kas_sort ms.length) = p at Pm1 Up1 N2
    -- what is laid
    have hp : p.toList.Perm (List.range ms.length) := by have := Array.perm_iff_toList_perm.mp Pm1.perm; simpa using this
    have dflt : FK × Addr := ((0, Str.ofString ""), 0)
    let ms' := p.toList.map fun i => ms.getD i dflt
    have e1 : (p.toList.map fun i => (refsP ms).getD i Value.none) = refsP ms' := by
      show _ = (p.toList.map fun i => ms.getD i dflt).map fun p => Value.ref p.2
      rw [List.map_map]
      refine List.map_congr_left fun i hi => ?_
      have : i < ms.length := List.mem_range.mp (hp.mem_iff.mp hi)
      simp [this]
    rw [e1] at N2
    refine h h2' c ms' F2 N2 ?_ ?_
    · refine (hp.map _).trans ?_
      have : (List.range ms.length).map (fun i => ms.getD i dflt) = ms := by
        refine List.ext_getElem (by simp) fun i h1 h2 => ?_
        simp at h1
        simp [h1]
      rw [this]
    · refine List.pairwise_map.mpr (List.pairwise_iff_getElem.mpr fun i j hi hj hij => ?_)
      have hi' : i < ms.length := by simpa [ms', Pm1.size] using hi
      have hj' : j < ms.length := by simpa [ms', Pm1.size] using hj
      have q := Up1 i j hij hj'
      rw [hlt _ _ (Pm1.below hi') (Pm1.below hj')] at q
      have gi : ∀ x, x < ms.length → ∀ hx : x < ms'.length, ms'[x] = ms.getD (p.getD x 0) dflt := fun x hx hx' => by
        have : x < p.size := by rw [Pm1.size]; exact hx
        simp [ms', this]
      have gx : ∀ x (hx : x < ms.length), ms.getD x dflt = ms[x] := fun x hx => by simp [hx]
      rw [gi i hi' hi, gi j hj' hj, gx _ (Pm1.below hi'), gx _ (Pm1.below hj')]
      exact q
  · have hshort : (refsP ms).length < 2 := by simpa using h2
    refine sort_short ho hshort fun h' c keep hA => ?_
    have haN : ∀ b o, h₀.get? b = some o → b ≠ a := fun b o e q => by rw [q, ha0] at e; cases e
    have F' : Fr h₀ L h' m := ⟨F.ns.at' fun o e => keep L o (Ne.symm haL) e, fun b o e => keep b o (haN b o e) (F.keep b o e), F.above⟩
    refine h h' c ms F' (fun p hp => ?_) (.refl _) ?_
    · rcases List.mem_cons.mp hp with rfl | hp
      · exact ⟨hA, haL, ha0⟩
      · exact ⟨keep _ _ (hna p hp) (N p hp).1, (N p hp).2⟩
    · match ms, h2 with
      | [], _ => exact .nil
      | [_], _ => exact List.pairwise_singleton ..
      | _ :: _ :: _, h => simp at h
end
end Mine

end

section
open PySem PyProof.Rows PySem.W
set_option autoImplicit false
set_option maxRecDepth 100000
namespace Mine
noncomputable abbrev mxA (p : FK × Addr) : List Mix × Addr := (mx p.1, p.2)
/-- a choice of the pairs, each once -/
structure HeldP (done ms : List (FK × Addr)) : Prop where
  sub : ∀ p ∈ ms, p ∈ done
  nd : (ms.map (·.1)).Nodup
  all : ∀ q ∈ done, q.1 ∈ ms.map (·.1)
theorem held_pairs {xs : List (FK × Addr)} {ms : List (List Mix × Addr)} (H : Held (xs.map mxA) ms) : ∃ ms0, ms = ms0.map mxA ∧ HeldP xs ms0 := by
  have : ∀ l : List (List Mix × Addr), (∀ p ∈ l, p ∈ xs.map mxA) → ∃ l0 : List (FK × Addr), l = l0.map mxA ∧ ∀ p ∈ l0, p ∈ xs := by
    intro l
    induction l with
    | nil => intro _; exact ⟨[], rfl, fun _ h => (nomatch h)⟩
    | cons p l ih =>
      intro h
      obtain ⟨l0, e, h0⟩ := ih fun q hq => h q (List.mem_cons_of_mem _ hq)
      obtain ⟨q, hq, rfl⟩ := List.mem_map.mp (h p (List.mem_cons_self ..))
      refine ⟨q :: l0, by rw [List.map_cons, e], fun r hr => ?_⟩
      rcases List.mem_cons.mp hr with rfl | hr
      · exact hq
      · exact h0 r hr
  obtain ⟨ms0, rfl, h0⟩ := this ms H.sub
  have em : (ms0.map mxA).map (·.1) = (ms0.map (·.1)).map mx := by rw [List.map_map, List.map_map]; rfl
  refine ⟨ms0, rfl, h0, ?_, fun q hq => ?_⟩
  · have := H.nd
    rw [em] at this
    exact List.Pairwise.imp (fun h e => h (by rw [e])) (List.pairwise_map.mp this)
  · have := H.all (mxA q) (List.mem_map_of_mem hq)
    rw [em] at this
    obtain ⟨k, hk, e⟩ := List.mem_map.mp this
    rw [← mx_inj e]; exact hk
section
variable {prog : Program} {w : World} {A : Around} {E : Value → Shared → Prop} {s : Shared} {h₀ : Heap} {L : Addr} {m : Str → Option Value} {news : List (Addr × Obj)}
theorem fr_ext {h' : Heap} (F : Fr h₀ L s.heap m) (hk : ∀ b o, s.heap.get? b = some o → h'.get? b = some o) : Fr h₀ L h' m := ⟨F.ns.keeps hk, fun b o e => hk b o (F.keep b o e), F.above⟩
theorem set_of_list {l : Addr} {Q : Value → Shared → Prop} (xs : List (FK × Addr)) (F : Fr h₀ L s.heap m) (N : News h₀ L s.heap news) (hh : A.handled = none) (hu : A.units + 16 < cLine) (hn : xs.length ≤ 40)
    (hl : s.heap.IsList l (refsP xs).toArray) (hT : ∀ p ∈ xs, TK prog w s.heap (mx p.1) p.2)
    (h : ∀ h' tk S ms, Fr h₀ L h' m → News h₀ L h' news → SetHas prog w h' S (ms.map mxA) → HeldP xs ms → Q (.ref S) { s with heap := h', toks := tk }) :
    wpAny (model prog w) A (call (.type "set") [.ref l]) Q E s := by
  refine call_set (xs.map mxA) hh hu (by simpa using hn) (by rw [List.map_map]; exact hl) (fun p hp => ?_) fun h' tk S ms _ keep H1 H2 => ?_
  · obtain ⟨q, hq, rfl⟩ := List.mem_map.mp hp
    exact hT q hq
  · obtain ⟨ms0, rfl, H⟩ := held_pairs H2
    exact h h' tk S ms0 (fr_ext F keep) (N.grown keep) H1 H
theorem sorted_set {S : Addr} {Q : Value → Shared → Prop} (ms : List (FK × Addr)) (F : Fr h₀ L s.heap m) (N : News h₀ L s.heap news) (hh : A.handled = none) (H : SetHas prog w s.heap S (ms.map mxA)) (hnd : (ms.map (·.1)).Nodup) (hn : ms.length ≤ 40)
    (hTK : ∀ p ∈ ms, ∀ h', Fr h₀ L h' m → News h₀ L h' news → TK prog w h' (mx p.1) p.2)
    (h : ∀ D h' tk d c ms', Fr h₀ L h' m → News h₀ L h' ((D, seqObj "list" (refsP ms').toArray c) :: news) → (∀ p ∈ news, p.1 < D) → ms'.Perm ms → (ms'.map (·.1)).Pairwise (fun x y => ltP x y = true) → Q (.ref D) { s with heap := h', toks := tk, drawn := d }) :
    wpAny (model prog w) A (call (.builtin "sorted") [.ref S]) Q E s := by
  refine Calls.call_function_entry kind_sorted plain_sorted entry_sorted (args_sorted1 _) ?_
  unfold Builtin.«sorted»
  refine wpAny_bind (m := checkCount "sorted" 1 1 _) (wpAny_pure ?_)
  refine wpAny_bind (collect_set (by simpa using hh) H (by simpa using hn) fun h1 tk d acc keep hp => ?_)
  rw [List.map_map] at hp
  obtain ⟨ms2, hp2, rfl⟩ := perm_map_inv hp rfl
  have e2 : ms2.map ((fun p => Value.ref p.2) ∘ mxA) = refsP ms2 := rfl
  rw [e2]
  have F1 := fr_ext F keep
  have N1 : News h₀ L h1 news := N.grown keep
  have hL : L < h1.objs.size := F1.ns.lt
  refine wpAny_bind (wpAny_newList ?_ (by show (refsP ms2).length ≤ _; rw [List.length_map, hp2.length_eq, sizeLine_eq]; (first | lia | omega)))
  have hD : (h1.push (seqObj "list" (refsP ms2).toArray 0)).get? h1.objs.size = some (seqObj "list" (refsP ms2).toArray 0) := Heap.get?_push_size _ rfl
  refine wpAny_bind (wpAny_holding (wpAny_call_entry slot_list_sort ⟨_, hD, rfl⟩ entry_list_sort ?body (args_list_sort _)))
  case body =>
    refine sort_pairs (s := { s with heap := h1.push (seqObj "list" (refsP ms2).toArray 0), toks := tk, drawn := d }) ms2 (F1.push _) (N1.grown fun b o e => Heap.get?_push_of_some _ e) hD (Nat.ne_of_gt hL)
      (Heap.get?_none_of_le (Nat.le_trans F1.above (Nat.le_of_lt hL))) (fun p hp => Nat.ne_of_lt (Heap.lt_size (N1 p hp).1)) (by rw [hp2.length_eq]; (first | lia | omega))
      (fun p hp => hTK p (hp2.mem_iff.mp hp)) (((hp2.map _).nodup_iff).mpr hnd) fun h2 c ms' F2 N2 q1 q2 => ⟨_, rfl, wpAny_pure ⟨_, rfl, ?_⟩⟩
    exact h _ h2 tk d c ms' F2 N2 (fun p hp => Heap.lt_size (N1 p hp).1) (q1.trans hp2) q2
/-- two orders of pairs, both rising, of the same keys are one -/
theorem rising_eq : ∀ {a b : List FK}, a.Pairwise (fun x y => ltP x y = true) → b.Pairwise (fun x y => ltP x y = true) → (∀ k, k ∈ a ↔ k ∈ b) → a = b
  | [], [], _, _, _ => rfl
  | [], y :: b, _, _, h => by have := (h y).mpr (List.mem_cons_self ..); cases this
  | x :: a, [], _, _, h => by have := (h x).mp (List.mem_cons_self ..); cases this
  | x :: a, y :: b, ha, hb, h => by
    obtain ⟨ha1, ha2⟩ := List.pairwise_cons.mp ha
    obtain ⟨hb1, hb2⟩ := List.pairwise_cons.mp hb
    have asym : ∀ {p q : FK}, ltP p q = true → ltP q p = true → False := fun h1 h2 => by have := ltP_tr h1 h2; rw [ltP_irr] at this; cases this
    have e : x = y := by
      rcases List.mem_cons.mp ((h x).mp (List.mem_cons_self ..)) with e | h1
      · exact e
      · rcases List.mem_cons.mp ((h y).mpr (List.mem_cons_self ..)) with e | h2
        · exact e.symm
        · exact (asym (hb1 x h1) (ha1 y h2)).elim
    subst e
    rw [rising_eq ha2 hb2 fun k => ?_]
    constructor
    · intro hk
      rcases List.mem_cons.mp ((h k).mp (List.mem_cons_of_mem _ hk)) with e | hk'
      · subst e; have := ha1 k hk; rw [ltP_irr] at this; cases this
      · exact hk'
    · intro hk
      rcases List.mem_cons.mp ((h k).mpr (List.mem_cons_of_mem _ hk)) with e | hk'
      · subst e; have := hb1 k hk; rw [ltP_irr] at this; cases this
      · exact hk'
end
end Mine

end

section
open PySem PySem.W PyProof.Rows
set_option Elab.async false
set_option maxRecDepth 100000
namespace Mine
theorem said_ok : OpenLaw.wellSaid PySem.Challenge.rw_og0072_01 = true := by kernel_rfl
noncomputable def pickAt {α : Type} (l : List α) (is : List Nat) : List α := is.filterMap fun i => l[i]?
noncomputable def view : Program :=
  { PySem.Challenge.pw_og0072_01 with main := { PySem.Challenge.pw_og0072_01.main with body := pickAt PySem.Challenge.pw_og0072_01.main.body [0, 2, 3, 4, 5, 6, 7, 8, 9, 10, 12, 14, 15, 16, 17, 18, 19, 20, 21] } }
noncomputable abbrev lo : List PySem.Str := [PySem.Str.ofString "ARGUMENTS"]
noncomputable abbrev xt (s : Shared) : Bool := xlAt view [] s && recOk (RowW.records (OpenRow.toRowW PySem.Challenge.rw_og0072_01.row)) s
theorem left_boot {H : Hook} (row : String) (e : opening PySem.Challenge.rw_og0072_01.row.prog = plainProg PySem.Challenge.rw_og0072_01.row.prog.main.scope.names) (f : ∀ s, fenceModules? PySem.Challenge.rw_og0072_01.row.prog s = some s)
    (h1 : ∀ (w : World) (os : OsState), (topFrom treeTable PySem.Challenge.rw_og0072_01.row.prog (w.withFollow row false) 2016 ⟨boot_heap w.params, Array.mk [], boot_drawn, boot_toks, os⟩).map (fun s => (openSeen view lo (importedModules PySem.Challenge.rw_og0072_01.row.prog.main.body) xt true s, H.obs s)) = some (openGood view lo, H.val (w.withFollow row false)))
    (h2 : ∀ (w : World) (os : OsState), (topFrom treeTable PySem.Challenge.rw_og0072_01.row.prog (w.withFollow row true) 2016 ⟨boot_heap w.params, Array.mk [], boot_drawn, boot_toks, os⟩).map (fun s => (openSeen view lo (importedModules PySem.Challenge.rw_og0072_01.row.prog.main.body) xt true s, H.obs s)) = some (openGood view lo, H.val (w.withFollow row true))) : LeftO PySem.Challenge.rw_og0072_01.row.prog view lo xt H.obs H.val 2016 := by
  refine LeftO.of_split row fun w => ?_
  obtain ⟨⟨h, gs, d, k, os⟩, a, b⟩ := Option.map_eq_some_iff.mp (boot_open (N := 2016) e rfl f w)
  obtain ⟨rfl, rfl, rfl, rfl⟩ : h = boot_heap w.params ∧ gs = Array.mk [] ∧ d = boot_drawn ∧ k = boot_toks := by simpa using b
  rw [a]
  simp only [Option.map_some, Option.some.injEq]
  rw [h1 w os, h2 w os]
set_option maxHeartbeats 8000000 in
theorem head_o (H : Hook) {d : DefRec} {kwd : List (PySem.Str × PySem.Expr)} (h1 : defOf view PySem.Challenge.rw_og0072_01.row.name = some (d, kwd)) (h2 : PySem.Challenge.rw_og0072_01.row.prog.theDef PySem.Challenge.rw_og0072_01.row.name = some (d.params, d.body, d.scope)) (h3 : kwWritten? d.params.kwonlyargs d.params.kw_defaults = some kwd)
    (said : PySem.Challenge.rw_og0072_01.row.wellSaid = true) (hw : PySem.Challenge.rw_og0072_01.row.promised) (hc : LeftO PySem.Challenge.rw_og0072_01.row.prog view lo xt H.obs H.val 2016 ∧ WalkO view lo (XL view []) H.says PySem.Challenge.rw_og0072_01.row.toRowW d kwd fun f vs => call f vs) : PySem.Challenge.rw_og0072_01.row.Holds :=
  holds_open (r := PySem.Challenge.rw_og0072_01.row) (q := view) (loose := lo) (Xt := xt) (XP := XL view []) (Yf := H.obs) (Ya := H.val) (YP := H.says) (N := 2016) hc.1 H.of H.keeps (fun s e => xl_of s (Bool.and_eq_true_iff.mp e).1) XL.keeps h1 h2 h3 (fun s e => recFacts_of (Bool.and_eq_true_iff.mp e).2) (by rfl) said (by decide +kernel) ⟨rfl, rfl, rfl, rfl, rfl, by decide +kernel⟩ hw hc.2
local macro_rules | `(tactic| o_law) => `(tactic| refine holds_law said_ok fun said => ?_)
local macro_rules | `(tactic| o_head $H) => `(tactic| (refine head_o $H (by rfl) (by rfl) (by rfl) (by assumption) ?hw ?hc))
set_option maxHeartbeats 8000000 in
open_top hd for PySem.Challenge.rw_og0072_01
noncomputable def hk : Hook := kHook Mine.hd.heap_1 [2, 3, 6, 15, 17, 18, 20, 21, 22, 23, 25, 26, 28, 29, 30, 33, 34, 35, 37, 38, 40, 41, 42, 44, 45, 47, 48, 49, 52, 53, 54, 57, 58, 59, 61, 62, 64, 65, 73, 75, 76, 78, 79, 80, 82, 83, 85, 86, 87, 88, 89, 90, 91, 94, 95, 97, 98, 100, 101, 102, 104, 105, 107, 108, 109, 112, 113, 114, 117, 118, 119, 122, 123, 124, 127, 128, 129, 132, 133] (fun _ => by kernel_rfl)
theorem open_plain : opening PySem.Challenge.rw_og0072_01.row.prog = plainProg PySem.Challenge.rw_og0072_01.row.prog.main.scope.names := by kernel_rfl
theorem fence_plain : ∀ s, fenceModules? PySem.Challenge.rw_og0072_01.row.prog s = some s := by intro s; kernel_rfl
theorem left_f (w : World) (os : OsState) : (topFrom treeTable PySem.Challenge.rw_og0072_01.row.prog (w.withFollow "special-get-raises" false) 2016 ⟨boot_heap w.params, Array.mk [], boot_drawn, boot_toks, os⟩).map (fun s => (openSeen view lo (importedModules PySem.Challenge.rw_og0072_01.row.prog.main.body) xt true s, hk.obs s)) = some (openGood view lo, hk.val (w.withFollow "special-get-raises" false)) := by
  kernel_rfl
theorem left_t (w : World) (os : OsState) : (topFrom treeTable PySem.Challenge.rw_og0072_01.row.prog (w.withFollow "special-get-raises" true) 2016 ⟨boot_heap w.params, Array.mk [], boot_drawn, boot_toks, os⟩).map (fun s => (openSeen view lo (importedModules PySem.Challenge.rw_og0072_01.row.prog.main.body) xt true s, hk.obs s)) = some (openGood view lo, hk.val (w.withFollow "special-get-raises" true)) := by
  kernel_rfl
theorem hdw : type_of% (fun h => Mine.hd ⟨left_boot (H := hk) "special-get-raises" open_plain fence_plain left_f left_t, h⟩) := fun h => Mine.hd ⟨left_boot (H := hk) "special-get-raises" open_plain fence_plain left_f left_t, h⟩
end Mine

end

section
open PySem PySem.W PyProof.Rows
set_option autoImplicit false
set_option maxRecDepth 100000
namespace Mine

inductive LK | put | key | test | less
inductive PK | do_ | count | none_
inductive SG | plus | neg | pow | minus | bad
inductive EN | end_ | stop | exit | halt
noncomputable def LK.str : LK → Str
  | .put => Str.ofString "put" | .key => Str.ofString "key" | .test => Str.ofString "test" | .less => Str.ofString "less"
noncomputable def PK.str : PK → Str
  | .do_ => Str.ofString "do" | .count => Str.ofString "count" | .none_ => Str.ofString "none"
noncomputable def SG.str : SG → Str
  | .plus => Str.ofString "+" | .neg => Str.ofString "neg" | .pow => Str.ofString "**" | .minus => Str.ofString "-" | .bad => Str.ofString "x"
noncomputable def EN.str : EN → Str
  | .end_ => Str.ofString "end" | .stop => Str.ofString "stop" | .exit => Str.ofString "exit" | .halt => Str.ofString "halt"
inductive Op
  | push (l : Int)
  | reck (g : SG) (l : Int)
  | lab (k : LK) (l : Int)
  | choose (ls : List Int)
  | perform (a b : Int)
  | jump (l : Int)
  | leave (b : Int)
  | stop (e : EN)
  | plain (k : PK)

noncomputable def OpAt (h : Heap) (a : Addr) : Op → Prop
  | .push l => ∃ t1 t2 t3, IsTup h a (List.toArray [.str (Str.ofString "push") t1, .str (Str.ofString "a") t2, .int l t3])
  | .reck g l => ∃ t1 t2 t3, IsTup h a (List.toArray [.str (Str.ofString "calc") t1, .str g.str t2, .int l t3])
  | .lab k l => ∃ t1 t2 t3, IsTup h a (List.toArray [.str k.str t1, .str (Str.ofString "b") t2, .int l t3])
  | .choose ls => ∃ t1 b vs, IsTup h a (List.toArray [.str (Str.ofString "choose") t1, .ref b]) ∧ IsTup h b vs.toArray ∧ IntsAre vs ls ∧ vs.toArray.size ≤ 40
  | .perform i j => ∃ t1 t2 t3, IsTup h a (List.toArray [.str (Str.ofString "perform") t1, .int i t2, .int j t3])
  | .jump l => ∃ t1 t2, IsTup h a (List.toArray [.str (Str.ofString "jump") t1, .int l t2])
  | .leave b => ∃ t1 t2, IsTup h a (List.toArray [.str (Str.ofString "leave") t1, .int b t2])
  | .stop e => ∃ t1 t2, IsTup h a (List.toArray [.str (Str.ofString "stop") t1, .str e.str t2])
  | .plain k => ∃ t1 t2, IsTup h a (List.toArray [.str k.str t1, .str (Str.ofString "c") t2])

theorem OpAt.keeps {h h' : Heap} {a : Addr} {op : Op} (k : ∀ b o, h.get? b = some o → h'.get? b = some o) (x : OpAt h a op) : OpAt h' a op := by
  cases op <;> simp only [OpAt] at x ⊢
  case choose ls => obtain ⟨t1, b, vs, x, y, z⟩ := x; exact ⟨t1, b, vs, x.keeps k, y.keeps k, z⟩
  all_goals first
    | (obtain ⟨t1, t2, t3, x⟩ := x; exact ⟨t1, t2, t3, x.keeps k⟩)
    | (obtain ⟨t1, t2, x⟩ := x; exact ⟨t1, t2, x.keeps k⟩)

noncomputable def labels : Op → List Int
  | .push l => if l = -1 then [] else [l]
  | .reck _ l => if l = -1 then [] else [l]
  | .lab _ l => [l]
  | .choose ls => ls
  | .jump l => [l]
  | _ => []

end Mine

end

section
open PySem PySem.W PyProof.Rows
set_option autoImplicit false
set_option Elab.async false
set_option maxRecDepth 100000
namespace Mine

theorem fill : (fun (_ : Params → Frag) (_ : OpenLaw) => True) Mine.hd.heap_1 PySem.Challenge.rw_og0072_01 := by
  k_fill
  trivial

noncomputable abbrev Ext (h h' : Heap) : Prop := ∀ b o, h.get? b = some o → h'.get? b = some o
section
variable {prog : Program} {w : World} {A : Around} {E : Value → Shared → Prop} {s : Shared} {K : Frag} {h₀ : Heap} {L : Addr} {m : Str → Option Value} {news : List (Addr × Obj)}
theorem enter {R : Result → Shared → Prop} {name qual : Str} {params : Arguments} {body : List Stmt} {scope : Scope} {dV kV doc pm cdv ct oc : Value} {an od : Option Addr} {osl : Array (Option Value)} {f : Addr} {args : Args} {binds : List (Str × Value)}
    (X : K.In s.heap) (hlim : s.heap.NoLimit)
    (ho : K.lookup f = some ⟨oc, od, .func (fnOf name qual params body scope dV kV doc pm an cdv ct), osl⟩) (hcd : codeIn K cdv qual = true) (hroom : A.depth < recursionLimit)
    (hbind : bindArgs (fnOf name qual params body scope dV kV doc pm an cdv ct) args = pure binds) (hloc : ∀ y ∈ binds, scope.names.lookup y.1 = some .local)
    (h : ∀ L h₁, Fr s.heap L h₁ (fun y => binds.reverse.lookup y) → News s.heap L h₁ [] →
      wpAny (model prog w) (A.deeper (envOf qual scope L f cdv)) (execs body (envOf qual scope L f cdv))
        (fun fl s' => R (.ok (.ret (match fl with | .ret v => v | _ => .none))) s')
        (fun _ _ => False)
        { s with heap := h₁, toks := s.toks + binds.length })
    (hco : scope.isCoroutine = false) (hgen : scope.isGenerator = false) (hk : scope.kind = .function)
    (hcell : ∀ x ∈ scope.names, x.2 ≠ .cell) : codeAny (model prog w) A (.call (.ref f) args) R s := by
  refine PySem.codeAny_call_def (fd := fnOf name qual params body scope dV kV doc pm an cdv ct) (body := body) (binds := binds) hroom (X _ _ ho) rfl hlim (codeRec_of X hcd) rfl (.of_eq hbind) hcell hloc (fun h₁ hns hk₁ => ?_) hco hgen hk
  exact wpAny_mono (h s.heap.objs.size h₁ ⟨hns, hk₁, Nat.le_refl _⟩ (fun _ h => nomatch h)) (fun fl s' hl => hl) fun _ _ y => y.elim

theorem itemT {value slice : PySem.Expr} {t : Addr} {l : List Value} {k : Int} {u : Tok} {j : Nat} {x : Value} {Q : Value → Shared → Prop} (F : Fr h₀ L s.heap m) (ht : IsTup h₀ t l.toArray)
    (hlo : -(2 ^ 63) ≤ k) (hhi : k < 2 ^ 63) (hj : seqIndex? k l.length = some j) (hx : l[j]? = some x) (h : Q x s)
    (hs : subscripted slice false (.ref t) (.int k u) = operate [.ref t, .int k u] (getItem (.ref t) (.int k u)) := by with_unfolding_all rfl) :
    wpAny (model prog w) A (subscriptTail value slice (.ref t) (.int k u)) Q E s :=
  item_tupleT (ht.keeps F.keep) hlo hhi hj hx h hs
/-- a new object, found by a callee -/
theorem News.ext_cons {h' : Heap} {r : Addr} {o : Obj} (F : Fr h₀ L s.heap m) (N : News h₀ L s.heap news) (k : Ext s.heap h') (hr : h'.get? r = some o) (hn : s.heap.get? r = none) : News h₀ L h' ((r, o) :: news) := by
  intro p hp
  rcases List.mem_cons.mp hp with rfl | hp
  · refine ⟨hr, fun e => ?_, ?_⟩
    · obtain ⟨oL, es, ep, hL, _⟩ := F.ns
      simp only at e
      rw [e] at hn
      rw [hn] at hL; cases hL
    · cases q : h₀.get? r with
      | none => rfl
      | some o' => exact absurd (F.keep r o' q) (by rw [hn]; exact fun h => nomatch h)
  · exact ⟨k _ _ (N p hp).1, (N p hp).2⟩
theorem News.ext_apart {r : Addr} (N : News h₀ L s.heap news) (hn : s.heap.get? r = none) : ∀ p ∈ news, p.1 ≠ r := fun p hp e => by
  have := (N p hp).1
  rw [e, hn] at this; cases this
end
end Mine

end

section
open PySem PySem.W PyProof.Rows
set_option autoImplicit false
set_option Elab.async false
set_option maxRecDepth 100000
namespace Mine

/-- how one walks over an object that is iterated -/
structure Iter (prog : Program) (w : World) (A : Around) (s : Shared) (xv : Value) (I : Addr) (h₂ : Heap) (xs : List (Addr × Obj)) (n : Nat) (P : Nat → Value → Prop) (St : Nat → Heap → Prop) : Prop where
  walks : Walks prog w A I (I :: xs.map (·.1)) [I] n P St
  here : ∀ p ∈ xs, s.heap.get? p.1 = some p.2
  start : St 0 h₂
  size : I = s.heap.objs.size
  push : ∃ o, h₂ = s.heap.push o
  obj : ∀ i h, St i h → ∃ o, h.get? I = some o ∧ o.cls ≠ .type "tuple" ∧ o.cls ≠ .type "list"
  iter : ∀ (Q : Value → Shared → Prop) (E : Value → Shared → Prop), Q (.ref I) { s with heap := h₂ } → wpAny (model prog w) A (pyIter xv) Q E s

section
variable {prog : Program} {w : World} {A : Around} {E : Value → Shared → Prop} {s : Shared}
theorem iter_list (hh : A.handled = none) {l : Addr} {vs : Array Value} (hl : s.heap.IsList l vs) : ∃ I h₂ o St, s.heap.get? l = some o ∧ Iter prog w A s (.ref l) I h₂ [(l, o)] vs.size (fun i v => vs[i]? = some v) St := by
  obtain ⟨o, ho, hr⟩ := id hl
  have hlt := Heap.lt_size ho
  refine ⟨s.heap.objs.size, _, o, _, ho, Walks.list hh _ _ (Nat.ne_of_lt hlt) vs, (fun p hp => by rw [List.mem_singleton.mp hp]; exact ho), ⟨⟨_, Heap.get?_push_size _ rfl, rfl, rfl⟩, hl.at fun o e => Heap.get?_push_of_some _ e⟩, rfl, ⟨_, rfl⟩, ?_, fun Q E h => wpAny_pyIter_list hl h⟩
  rintro i h ⟨⟨o, e, e2, _⟩, _⟩
  exact ⟨o, e, by rw [e2]; exact fun h => (by injection h with h; exact absurd h (by decide)), by rw [e2]; exact fun h => (by injection h with h; exact absurd h (by decide))⟩
theorem iter_tuple (hh : A.handled = none) {l : Addr} {vs : Array Value} (hl : IsTup s.heap l vs) : ∃ I h₂ o St, s.heap.get? l = some o ∧ Iter prog w A s (.ref l) I h₂ [(l, o)] vs.size (fun i v => vs[i]? = some v) St := by
  obtain ⟨o, ho, hr⟩ := id hl
  have hlt := Heap.lt_size ho
  have hl' : s.heap.IsTuple l vs := hl
  refine ⟨s.heap.objs.size, _, o, _, ho, Walks.tuple hh _ _ (Nat.ne_of_lt hlt) vs, (fun p hp => by rw [List.mem_singleton.mp hp]; exact ho), ⟨⟨_, Heap.get?_push_size _ rfl, rfl, rfl⟩, hl'.push _⟩, rfl, ⟨_, rfl⟩, ?_, fun Q E h => wpAny_pyIter_tuple hl' h⟩
  rintro i h ⟨⟨o, e, e2, _⟩, _⟩
  exact ⟨o, e, by rw [e2]; exact fun h => (by injection h with h; exact absurd h (by decide)), by rw [e2]; exact fun h => (by injection h with h; exact absurd h (by decide))⟩
theorem iter_range (hh : A.handled = none) {r : Addr} {t u v : Tok} {n : Nat} (hr : IsRange s.heap r 0 n 1 t u v) (hn : n ≤ 1000) : ∃ I h₂ St, Iter prog w A s (.ref r) I h₂ [] n (fun i v => ∃ t, v = .int (0 + i * 1) t) St := by
  have hrs : Builtin.Range.rangeSize 0 n 1 = (n : Int) := by
    unfold Builtin.Range.rangeSize
    simp
    (first | lia | omega)
  have hsm : Builtin.Range.small 0 n 1 = true := by
    unfold Builtin.Range.small
    rw [hrs]
    unfold Builtin.Range.rangeFitsLong
    simp
    (first | lia | omega)
  refine ⟨s.heap.objs.size, _, _, Walks.range hh s.heap.objs.size 0 1 n, (fun _ h => nomatch h), ?_, rfl, ⟨_, rfl⟩, ?_, fun Q E h => wpAny_pyIter_range hr hsm h⟩
  · show IsRangeIter _ _ _ _ _
    rw [hrs]
    have := Heap.get?_push_size s.heap (o := { cls := .type "range_iterator", data := .fields #[rawInt 0, rawInt n, rawInt 1] }) rfl
    simpa using this
  · intro i h e
    exact ⟨_, e, fun h => (by injection h with h; exact absurd h (by decide)), fun h => (by injection h with h; exact absurd h (by decide))⟩
end
end Mine

end

section
open PySem PySem.W PyProof.Rows
set_option autoImplicit false
set_option Elab.async false
set_option maxRecDepth 100000
namespace Mine
noncomputable abbrev Led := List (Addr × Obj)
noncomputable def CEnd (base : Heap) (C : Addr) (J : Led → Prop) (led own : Led) (s₁ s₂ : Shared) : Prop :=
  ∃ h' tk m' led', s₂ = { s₁ with heap := h', toks := tk } ∧ Fr base C h' m' ∧ News base C h' (led' ++ own) ∧ (∀ p ∈ led', p.1 ∈ led.map (·.1) ∨ p.2.cls = .type "tuple") ∧ J led'
section
variable {prog : Program} {w : World} {A : Around} {E : Value → Shared → Prop} {env : Env}
noncomputable def Turn (prog : Program) (w : World) (A : Around) (env : Env) (scope : Scope) (cl : List (Str × Addr)) (x : Str) (ifs : List PySem.Expr) (elt : PySem.Expr) (base : Heap) (s : Shared) (n : Nat) (P : Nat → Value → Prop) (J : Nat → List Value → Led → Prop) : Prop :=
  ∀ i v acc (led own : Led) (h : Heap) (tk : Nat) (m₁ : Str → Option Value) (C : Addr), i < n → P i v → J i acc led → (∀ p ∈ led, ∀ q ∈ own, p.1 ≠ q.1) → Fr base C h (fun y => if y = x then some v else m₁ y) → News base C h (led ++ own) →
    wpAny (model prog w) A (forIn ifs true fun c r => if r = true then do let ok ← isTrue c (compEnvC scope cl C env) (eval c (compEnvC scope cl C env)); pure (ForInStep.yield ok) else pure (ForInStep.yield r))
      (fun ok s₃ => if ok = true then wpAny (model prog w) A (eval elt (compEnvC scope cl C env)) (fun y s₄ => CEnd base C (J (i + 1) (acc ++ [y])) led own s s₄) (fun _ _ => False) s₃ else CEnd base C (J (i + 1) acc) led own s s₃)
      (fun _ _ => False) { s with heap := h, toks := tk }

theorem comp_block {elt iter : PySem.Expr} {x : Str} {px : Pos} {ifs : List PySem.Expr} {scope : Scope} {cl : List (Str × Addr)} {pos : Pos} {s : Shared} {news : Led} {xv : Value} {I : Addr} {h₂ : Heap} {xs : Led} {n : Nat} {P : Nat → Value → Prop} {St : Nat → Heap → Prop} {base : Heap}
    (hb : base = hideAll s.heap (news.map (·.1))) (IT : Iter prog w A s xv I h₂ xs n P St) (hsz : n ≤ sizeLine) (J : Nat → List Value → Led → Prop) {RR : Value → Addr → Result → Shared → Prop}
    (hcell : ∀ y ∈ scope.names, y.2 ≠ .cell) (hkind : scope.kind = .function) (hx : scope.names.lookup x = some .local)
    (hN0 : ∀ p ∈ news, s.heap.get? p.1 = some p.2) (hj : J 0 [] news)
    (hax : ∀ p ∈ xs, base.get? p.1 = some p.2 ∨ ∀ i acc led, J i acc led → p ∈ led)
    (turn : Turn prog w A env scope cl x ifs elt base s n P J)
    (hRR : ∀ D C h' tk m' c acc led, s.heap.get? D = none → s.heap.get? C = none → D ≠ C → h'.Ns C m' → h'.get? D = some (seqObj "list" acc.toArray c) → J n acc led → (∀ b o, base.get? b = some o → h'.get? b = some o) →
      (∀ p ∈ led, h'.get? p.1 = some p.2 ∧ p.1 ≠ D ∧ p.1 ≠ C ∧ base.get? p.1 = none) → RR (.ref D) C (.ok .next) { s with heap := h', toks := tk }) :
    wpAny (model prog w) A (newList []) (fun acc s₃ => wpAny (model prog w) A (newFunctionEnv scope env.globals cl [] env.qual none .none (some env)) (fun cenv s₄ =>
      codeAny (model prog w) A (.compStart (.ListComp elt [⟨.Name x px, iter, ifs, 0⟩] scope pos) 0 (.ref I) acc { cenv with scope := relabel scope env }) (RR acc cenv.locals) s₄) E s₃) E { s with heap := h₂ } := by
  refine wpAny_newObj_type (wpAny_newFunctionEnv hcell (by intro y hy; simp at hy) (fun h₁ hns₁ hsb₁ => ?_) hkind)
  dsimp only at hns₁ hsb₁ ⊢
  have IT' := IT
  obtain ⟨W, hhere, hst, hI, ⟨oi, rfl⟩, hobj, _⟩ := IT
  generalize hH2 : (s.heap.push oi).push { cls := .type "list", dict := none, data := .seq ([] : List Value).toArray } = H2 at hns₁ hsb₁ ⊢
  have hD : (s.heap.push oi).objs.size = s.heap.objs.size + 1 := Heap.size_push ..
  have hC : H2.objs.size = s.heap.objs.size + 2 := by rw [← hH2, Heap.size_push, hD]
  generalize hDD : (s.heap.push oi).objs.size = D at *
  generalize hCC : H2.objs.size = C at *
  have hbs : ∀ b o, base.get? b = some o → s.heap.get? b = some o := fun b o e => of_hideAll _ (hb ▸ e)
  have hDC : D ≠ C := by (first | lia | omega)
  have hIn : @Eq Nat I s.heap.objs.size := hI
  have hID : I ≠ D := fun e => by have e' : @Eq Nat I D := e; (first | lia | omega)
  have hIC : I ≠ C := fun e => by have e' : @Eq Nat I C := e; (first | lia | omega)
  have lt : ∀ b o, s.heap.get? b = some o → b ≠ D ∧ b ≠ C ∧ b ≠ I := fun b o e => by
    have h : @LT.lt Nat _ b s.heap.objs.size := Heap.lt_size e
    exact ⟨fun q => by have q' : @Eq Nat b D := q; (first | lia | omega), fun q => by have q' : @Eq Nat b C := q; (first | lia | omega), fun q => by have q' : @Eq Nat b I := q; (first | lia | omega)⟩
  have fresh : ∀ a, s.heap.objs.size ≤ a → s.heap.get? a = none := fun a ha => by
    cases e : s.heap.get? a with
    | none => rfl
    | some o' => exact absurd (Heap.lt_size e) (Nat.not_lt.mpr ha)
  have bfresh : ∀ a, s.heap.objs.size ≤ a → base.get? a = none := fun a ha => by
    cases e : base.get? a with
    | none => rfl
    | some o' => exact absurd (hbs a o' e) (by rw [fresh a ha]; exact fun h => nomatch h)
  have up2 : ∀ b o, s.heap.get? b = some o → H2.get? b = some o := fun b o e => by
    rw [← hH2]; exact Heap.get?_push_of_some _ (Heap.get?_push_of_some _ e)
  have up3 : ∀ b o, b ≠ C → H2.get? b = some o → h₁.get? b = some o := fun b o hbC e => hsb₁.extBut b o hbC (Heap.get?_push_of_some _ e)
  have hacc : h₁.PlainList D #[] := by
    have e : H2.get? D = some { cls := .type "list", dict := none, data := .seq ([] : List Value).toArray } := by
      rw [← hH2, ← hDD]
      exact Heap.get?_push_size _ rfl
    exact ⟨_, up3 _ _ hDC e⟩
  have hfp : ∀ b, b ∈ I :: xs.map (·.1) → b ≠ D ∧ b ≠ C := fun b hb' => by
    rcases List.mem_cons.mp hb' with rfl | hb'
    · exact ⟨hID, hIC⟩
    · obtain ⟨p, hp, rfl⟩ := List.mem_map.mp hb'
      exact ⟨(lt _ _ (hhere p hp)).1, (lt _ _ (hhere p hp)).2.1⟩
  have hst₁ : St 0 h₁ := W.frame _ _ _ hst fun b hb' o e => up3 b o (hfp b hb').2 (by rw [← hH2]; exact Heap.get?_push_of_some _ e)
  have hbase0 : base.objs.size ≤ C := by rw [hb, hideAll_size]; (first | lia | omega)
  have loop : ∀ s₃ : Shared, s₃ = { s with heap := h₁, toks := s.toks + ([] : List (Str × Value)).length } →
      codeAny (model prog w) A (.compLoop (.ListComp elt [⟨.Name x px, iter, ifs, 0⟩] scope pos) 0 (.ref I) (.ref D) (compEnvC scope cl C env)) (RR (.ref D) C) s₃ := by
    rintro s₃ rfl
    refine codeAny_compLoop_tests (fun k s' => ∃ i acc led h' tk m', s' = { s with heap := h', toks := tk } ∧ St i h' ∧ h'.PlainList D acc.toArray ∧ acc.length ≤ i ∧ h'.Ns C m' ∧ (∀ b o, base.get? b = some o → h'.get? b = some o) ∧
      (∀ p ∈ led, h'.get? p.1 = some p.2 ∧ base.get? p.1 = none ∧ p.1 ≠ C ∧ p.1 ≠ D ∧ p.1 ≠ I) ∧ J i acc led ∧ i ≤ n ∧ k = n + 1 - i) ?_ (n + 1) ?_
    case refine_2 =>
      refine ⟨0, [], news, h₁, _, _, rfl, hst₁, hacc, Nat.zero_le _, hns₁, fun b o e => up3 b o (lt b o (hbs b o e)).2.1 (up2 b o (hbs b o e)), fun p hp => ?_, hj, Nat.zero_le _, rfl⟩
      have e := hN0 p hp
      refine ⟨up3 _ _ (lt _ _ e).2.1 (up2 _ _ e), ?_, (lt _ _ e).2.1, (lt _ _ e).1, (lt _ _ e).2.2⟩
      rw [hb]; exact hideAll_none _ (List.mem_map_of_mem hp)
    rintro k s' ⟨i, acc, led, H, tk, m', rfl, hst', hacc', hlen, hn', hkb, hled, hJ, hi, rfl⟩
    have hIw : ∀ b, b ≠ I → b ∉ [I] := fun b hb' hm => hb' (List.mem_singleton.mp hm)
    by_cases hlt : i < n
    · refine W.item i _ _ _ hlt hst' fun v h₃ tk₃ hPv hst₃ hk₃ => ?_
      refine wpAny_assign_Name (wpAny_storeName_local (lookup_relabel_local hx) (hn'.at' fun o e => hk₃ _ o (hIw _ hIC.symm) e) (fun h₄ hn₄ hs₄ => ?_) (by simp [compEnvC, relabel, hkind]))
      obtain ⟨c, hD'⟩ := hacc'
      obtain ⟨oI, hI', hIc, hIl⟩ := hobj _ _ hst₃
      have up4 : ∀ b o, b ≠ C → b ≠ I → H.get? b = some o → h₄.get? b = some o := fun b o hbC hbI e => hs₄.extBut b o hbC (hk₃ b o (hIw b hbI) e)
      have hI4 : h₄.get? I = some oI := hs₄.extBut I oI hIC hI'
      have hD4 : h₄.get? D = some { cls := .type "list", data := .seq acc.toArray c } := up4 D _ hDC hID.symm hD'
      have F4 : Fr base C h₄ (fun y => if y = x then some v else m' y) := ⟨hn₄, fun b o e => up4 b o (lt b o (hbs b o e)).2.1 (lt b o (hbs b o e)).2.2 (hkb b o e), hbase0⟩
      have N4 : News base C h₄ (led ++ [(D, { cls := .type "list", data := .seq acc.toArray c }), (I, oI)]) := by
        intro p hp
        rcases List.mem_append.mp hp with hp | hp
        · obtain ⟨a1, a2, a3, a4, a5⟩ := hled p hp
          exact ⟨up4 _ _ a3 a5 a1, a3, a2⟩
        · rcases List.mem_cons.mp hp with rfl | hp
          · exact ⟨hD4, hDC, bfresh _ (by show s.heap.objs.size ≤ D; (first | lia | omega))⟩
          · rw [List.mem_singleton.mp hp]; exact ⟨hI4, hIC, bfresh _ (Nat.le_of_eq hI.symm)⟩
      have haxO : ∀ p ∈ xs, ∀ o, h₄.get? p.1 = some o → o = p.2 := fun p hp o e => by
        rcases hax p hp with hax | hax
        · exact Option.some.inj (e.symm.trans (F4.keep _ _ hax))
        · exact Option.some.inj (e.symm.trans (N4 _ (List.mem_append_left _ (hax _ _ _ hJ))).1)
      have fin : ∀ (acc' : List Value) (s₂ : Shared), CEnd base C (J (i + 1) acc') led [(D, { cls := .type "list", data := .seq acc.toArray c }), (I, oI)] s s₂ →
          ∃ h' tk m' led', s₂ = { s with heap := h', toks := tk } ∧ St (i + 1) h' ∧ h'.PlainList D acc.toArray ∧ h'.Ns C m' ∧ (∀ b o, base.get? b = some o → h'.get? b = some o) ∧
            (∀ p ∈ led', h'.get? p.1 = some p.2 ∧ base.get? p.1 = none ∧ p.1 ≠ C ∧ p.1 ≠ D ∧ p.1 ≠ I) ∧ J (i + 1) acc' led' := by
        rintro acc' s₂ ⟨h', tk', m'', led', rfl, F', N', hnew, hJ'⟩
        have eD := (N' (D, _) (List.mem_append_right _ (.head _))).1
        have eI := (N' (I, oI) (List.mem_append_right _ (.tail _ (.head _)))).1
        refine ⟨h', tk', m'', led', rfl, W.frame _ _ _ (W.frame _ _ _ hst₃ fun b hb' o e => hs₄.extBut b o (hfp b hb').2 e) (fun b hb' o e => ?_), ⟨_, eD⟩, F'.ns, F'.keep, fun p hp => ?_, hJ'⟩
        · rcases List.mem_cons.mp hb' with rfl | hb'
          · rw [hI4] at e; cases e; exact eI
          · obtain ⟨p, hp, rfl⟩ := List.mem_map.mp hb'
            rw [haxO p hp o e]
            rcases hax p hp with hax | hax
            · exact F'.keep _ _ hax
            · exact (N' _ (List.mem_append_left _ (hax _ _ _ hJ'))).1
        · obtain ⟨a1, a2, a3⟩ := N' p (List.mem_append_left _ hp)
          refine ⟨a1, a3, a2, ?_⟩
          rcases hnew p hp with hk | hk
          · obtain ⟨q, hq, e⟩ := List.mem_map.mp hk
            rw [← e]
            exact (hled q hq).2.2.2
          · constructor
            · intro e
              rw [e, eD] at a1
              rw [← Option.some.inj a1] at hk
              injection hk with hk
              exact absurd hk (by decide)
            · intro e
              rw [e, eI] at a1
              rw [← Option.some.inj a1] at hk
              exact hIc hk
      refine wpAny_mono (turn i v acc led _ h₄ _ m' C hlt hPv hJ (fun p hp q hq => ?_) F4 N4) (fun ok s₃ h₃ => ?_) fun _ _ f => f.elim
      · obtain ⟨_, _, _, a4, a5⟩ := hled p hp
        rcases List.mem_cons.mp hq with rfl | hq
        · exact a4
        · rw [List.mem_singleton.mp hq]; exact a5
      cases ok with
      | false =>
        simp only [Bool.false_eq_true, if_false] at h₃ ⊢
        obtain ⟨h', tk', m'', led', e, f1, f2, f3, f4, f5, f6⟩ := fin _ _ h₃
        exact ⟨n + 1 - (i + 1), by (first | lia | omega), i + 1, acc, led', h', tk', m'', e, f1, f2, by (first | lia | omega), f3, f4, f5, f6, hlt, rfl⟩
      | true =>
        simp only [if_true] at h₃ ⊢
        refine wpAny_mono h₃ (fun y s₄ h₄ => ?_) fun _ _ f => f.elim
        obtain ⟨h', tk', m'', led', rfl, f1, f2, f3, f4, f5, f6⟩ := fin _ _ h₄
        refine wpAny_list_append_plain (hsz := by rw [List.size_toArray]; (first | lia | omega)) f2 fun h₅ hl₅ hs₅ => ?_
        refine ⟨n + 1 - (i + 1), by (first | lia | omega), i + 1, acc ++ [y], led', h₅, tk', m'', rfl, ?_, ?_, by rw [List.length_append, List.length_singleton]; (first | lia | omega), f3.sameBut hs₅ hDC.symm, fun b o e => hs₅.extBut b o (lt b o (hbs b o e)).1 (f4 b o e), fun p hp => ?_, f6, hlt, rfl⟩
        · exact W.frame _ _ _ f1 fun b hb' o e => hs₅.extBut b o (hfp b hb').1 e
        · have : (acc ++ [y]).toArray = acc.toArray.push y := by simp
          rw [this]; exact hl₅
        · obtain ⟨a1, a2, a3, a4, a5⟩ := f5 p hp
          exact ⟨hs₅.extBut _ _ a4 a1, a2, a3, a4, a5⟩
    · have hin : i = n := by (first | lia | omega)
      refine W.done _ _ _ (hin ▸ hst') fun h₃ tk₃ hk₃ => ?_
      obtain ⟨c, hD'⟩ := hacc'
      exact hRR D C h₃ tk₃ m' c acc led (fresh _ (by (first | lia | omega))) (fresh _ (by (first | lia | omega))) hDC (hn'.at' fun o e => hk₃ _ o (hIw _ hIC.symm) e) (hk₃ _ _ (hIw _ hID.symm) hD') (hin ▸ hJ)
        (fun b o e => hk₃ b o (hIw b (lt b o (hbs b o e)).2.2) (hkb b o e)) fun p hp => ⟨hk₃ _ _ (hIw _ (hled p hp).2.2.2.2) (hled p hp).1, (hled p hp).2.2.2.1, (hled p hp).2.2.1, (hled p hp).2.1⟩
  exact codeAny_compStart_list (loop _ rfl) (W.self 0 _ _ _ hst₁ (loop _ rfl))
end
end Mine

end

section
open PySem PySem.W PyProof.Rows
set_option autoImplicit false
set_option Elab.async false
set_option maxRecDepth 100000
namespace Mine
theorem base_keeps {h₀ h : Heap} {L : Addr} {m : Str → Option Value} {news : Led} (F : Fr h₀ L h m) (N : News h₀ L h news) : Ext h₀ (hideAll h (news.map (·.1))) := fun b o e =>
  hideAll_get _ (F.keep b o e) fun q => by
    obtain ⟨p, hp, rfl⟩ := List.mem_map.mp q
    rw [(N p hp).2.2] at e; cases e
section
variable {prog : Program} {w : World} {A : Around} {E : Value → Shared → Prop} {env : Env} {s : Shared} {h₀ : Heap} {L : Addr} {m : Str → Option Value}
noncomputable def CompPack (prog : Program) (w : World) (A : Around) (env : Env) (scope : Scope) (cl : List (Str × Addr)) (x : Str) (ifs : List PySem.Expr) (elt : PySem.Expr) (h₀ : Heap) (L : Addr) (m m' : Str → Option Value) (y : Option Str) (Q : Addr → Shared → Prop) (xv : Value) (s₁ : Shared) : Prop :=
  ∃ (news : Led) (I : Addr) (h₂ : Heap) (xs : Led) (n : Nat) (P : Nat → Value → Prop) (St : Nat → Heap → Prop) (J : Nat → List Value → Led → Prop),
    Fr h₀ L s₁.heap m ∧ News h₀ L s₁.heap news ∧ Iter prog w A s₁ xv I h₂ xs n P St ∧ n ≤ sizeLine ∧ J 0 [] news ∧
    (∀ p ∈ xs, (hideAll s₁.heap (news.map (·.1))).get? p.1 = some p.2 ∨ ∀ i acc led, J i acc led → p ∈ led) ∧
    Turn prog w A env scope cl x ifs elt (hideAll s₁.heap (news.map (·.1))) s₁ n P J ∧
    ∀ D h' tk c acc led, Fr h₀ L h' (match y with | none => m | some y => fun z => if z = y then some (.ref D) else m z) → News h₀ L h' ((D, seqObj "list" acc.toArray c) :: led) → (∀ p ∈ led, p.1 ≠ D) → J n acc led → Q D { s₁ with heap := h', toks := tk }
theorem comp_inv {elt iter : PySem.Expr} {x : Str} {px : Pos} {ifs : List PySem.Expr} {scope : Scope} {cl : List (Str × Addr)} {pos : Pos} {Q : Value → Shared → Prop} (_F : Fr h₀ L s.heap m)
    (hclos : closureFor scope env = pure cl) (hcell : ∀ y ∈ scope.names, y.2 ≠ .cell) (hkind : scope.kind = .function)
    (hnames : ∀ y ∈ scope.names, y.2 = .local → scope.names.lookup y.1 = some .local) (hx : scope.names.lookup x = some .local)
    (h : wpAny (model prog w) A (eval iter env) (CompPack prog w A env scope cl x ifs elt h₀ L m m none fun D => Q (.ref D)) E s)
    (hs : ∀ x, foldedSetIterable iter env x = pure x) :
    wpAny (model prog w) A (eval (.ListComp elt [⟨.Name x px, iter, ifs, 0⟩] scope pos) env) Q E s := by
  rw [eval_ListComp]
  refine wpAny_comprehension_free (use := none) rfl hs hclos hkind hnames (wpAny_mono h (fun xv s₁ h₁ => ?_) fun _ _ e => e)
  obtain ⟨news, I, h₂, xs, n, P, St, J, F, N, IT, hsz, hj, hax, turn, hQ⟩ := h₁
  refine IT.iter _ _ ?_
  refine comp_block (RR := fun acc C => compPost (model prog w) A E none Q acc C) rfl IT hsz J hcell hkind hx (fun p hp => (N p hp).1) hj hax turn ?_
  intro D C h' tk m' c acc led hD hC hDC hn hl hJ hk hled
  refine ⟨m', hn, fun h'' hs'' => ?_⟩
  have up : ∀ b o, b ≠ C → h'.get? b = some o → h''.get? b = some o := fun b o hb e => hs''.extBut b o hb e
  have bC : ∀ b o, (hideAll s₁.heap (news.map (·.1))).get? b = some o → b ≠ C := fun b o e q => by
    have := of_hideAll _ e; rw [q, hC] at this; cases this
  have bs := base_keeps F N
  obtain ⟨oL, es, ep, hL, r⟩ := F.ns
  have nL : L ∉ news.map (·.1) := fun q => by
    obtain ⟨p, hp, e⟩ := List.mem_map.mp q
    exact (N p hp).2.1 e
  have hLb := hideAll_get (news.map (·.1)) hL nL
  refine hQ D h'' tk c acc led ⟨⟨oL, es, ep, up _ _ (bC _ _ hLb) (hk _ _ hLb), r⟩, fun b o e => up _ _ (bC _ _ (bs b o e)) (hk _ _ (bs b o e)), F.above⟩ ?_ (fun p hp => (hled p hp).2.1) hJ
  intro p hp
  rcases List.mem_cons.mp hp with rfl | hp
  · refine ⟨up _ _ hDC hl, fun e => ?_, ?_⟩
    · have e' : D = L := e
      rw [e'] at hD; rw [hD] at hL; cases hL
    · cases q : h₀.get? D with
      | none => rfl
      | some o' => have := F.keep _ _ q; rw [hD] at this; cases this
  · obtain ⟨a1, a2, a3, a4⟩ := hled p hp
    refine ⟨up _ _ a3 a1, fun e => ?_, ?_⟩
    · rw [e, hLb] at a4; cases a4
    · cases q : h₀.get? p.1 with
      | none => rfl
      | some o' => have := bs _ _ q; rw [a4] at this; cases this
theorem comp_assign {elt iter : PySem.Expr} {x y : Str} {px py : Pos} {ifs : List PySem.Expr} {scope : Scope} {cl : List (Str × Addr)} {pos spos : Pos} {Q : Flow → Shared → Prop} (_F : Fr h₀ L s.heap m)
    (hsw : swapsWith (.ListComp elt [⟨.Name x px, iter, ifs, 0⟩] scope pos) (some (.Name y py)) spos.line env = pure true) (hL : env.locals = L)
    (hclos : closureFor scope env = pure cl) (hcell : ∀ y ∈ scope.names, y.2 ≠ .cell) (hkind : scope.kind = .function)
    (hnames : ∀ y ∈ scope.names, y.2 = .local → scope.names.lookup y.1 = some .local) (hx : scope.names.lookup x = some .local)
    (hy : env.kindOf y = some .local) (hp : (env.scope.kind == .class || (env.scope.kind == .module && env.locals != env.globals)) = false)
    (h : wpAny (model prog w) A (eval iter env) (CompPack prog w A env scope cl x ifs elt h₀ L m m (some y) fun _ => Q .next) E s)
    (hs : ∀ x, foldedSetIterable iter env x = pure x) :
    wpAny (model prog w) A (exec (.Assign [.Name y py] (.ListComp elt [⟨.Name x px, iter, ifs, 0⟩] scope pos) spos) env) Q E s := by
  subst hL
  rw [exec_Assign_Name_used _ _ _ _ hsw]
  refine wpAny_bind (wpAny_standAt (wpAny_bind ?_))
  show wpAny _ A (do let _ ← comprehension (.ListComp elt [⟨.Name x px, iter, ifs, 0⟩] scope pos) scope env _ (newList []) false (eval iter env) (some (assign (.Name y py) env))) _ _ s
  refine wpAny_bind (wpAny_mono (wpAny_comprehension_free (use := some (assign (.Name y py) env)) (Q := fun _ s' => Q .next s') rfl hs hclos hkind hnames
    (wpAny_mono h (fun xv s₁ h₁ => ?_) fun _ _ e => e)) (fun _ s' hq => wpAny_pure (wpAny_pure hq)) fun _ _ e => e)
  obtain ⟨news, I, h₂, xs, n, P, St, J, F, N, IT, hsz, hj, hax, turn, hQ⟩ := h₁
  refine IT.iter _ _ ?_
  refine comp_block (RR := fun acc C => compPost (model prog w) A E (some (assign (.Name y py) env)) (fun _ s' => Q .next s') acc C) rfl IT hsz J hcell hkind hx (fun p hp => (N p hp).1) hj hax turn ?_
  intro D C h' tk m' c acc led hD hC hDC hn hl hJ hk hled
  have bC : ∀ b o, (hideAll s₁.heap (news.map (·.1))).get? b = some o → b ≠ C := fun b o e q => by
    have := of_hideAll _ e; rw [q, hC] at this; cases this
  have bs := base_keeps F N
  obtain ⟨oL, es, ep, hL, r⟩ := F.ns
  have nL : env.locals ∉ news.map (·.1) := fun q => by
    obtain ⟨p, hp, e⟩ := List.mem_map.mp q
    exact (N p hp).2.1 e
  have hLb := hideAll_get (news.map (·.1)) hL nL
  have hLC : env.locals ≠ C := bC _ _ hLb
  have hLD : env.locals ≠ D := by rintro rfl; rw [hD] at hL; cases hL
  have bD : ∀ b o, (hideAll s₁.heap (news.map (·.1))).get? b = some o → b ≠ D := fun b o e q => by
    have := of_hideAll _ e; rw [q, hD] at this; cases this
  show wpAny _ A (assign (.Name y py) env (.ref D)) _ _ _
  refine wpAny_assign_Name (wpAny_storeName_local hy (Heap.Ns.at' (h := hideAll s₁.heap (news.map (·.1))) ⟨oL, es, ep, hLb, r⟩ fun o e => hk _ o e) (fun h₃ hn₃ hs₃ => ?_) hp)
  refine ⟨m', hn.sameBut hs₃ hLC.symm, fun h₄ hs₄ => ?_⟩
  have up : ∀ b o, b ≠ C → b ≠ env.locals → h'.get? b = some o → h₄.get? b = some o := fun b o hb hb2 e => hs₄.extBut b o hb (hs₃.extBut b o hb2 e)
  refine hQ D h₄ _ c acc led ⟨hn₃.sameBut hs₄ hLC, fun b o e => up _ _ (bC _ _ (bs b o e)) (Nat.ne_of_lt (Nat.lt_of_lt_of_le (Heap.lt_size e) F.above)) (hk _ _ (bs b o e)), F.above⟩ ?_ (fun p hp => (hled p hp).2.1) hJ
  intro p hp
  rcases List.mem_cons.mp hp with rfl | hp
  · refine ⟨up _ _ hDC hLD.symm hl, hLD.symm, ?_⟩
    cases q : h₀.get? D with
    | none => rfl
    | some o' => have := F.keep _ _ q; rw [hD] at this; cases this
  · obtain ⟨a1, a2, a3, a4⟩ := hled p hp
    have hpL : p.1 ≠ env.locals := fun e => by rw [e, hLb] at a4; cases a4
    refine ⟨up _ _ a3 hpL a1, hpL, ?_⟩
    cases q : h₀.get? p.1 with
    | none => rfl
    | some o' => have := bs _ _ q; rw [a4] at this; cases this

noncomputable def WhileHere (P : Prop) : Prop := P
theorem while_stop {stm : Stmt} {Q : Flow → Shared → Prop} (h : WhileHere (wpAny (model prog w) A (exec stm env) Q E s)) : wpAny (model prog w) A (exec stm env) Q E s := h
/-- while, by an invariant -/
noncomputable def WEnd (h₀ : Heap) (L : Addr) (J : (Str → Option Value) → Led → Prop) (s₁ s₂ : Shared) : Prop := ∃ h' tk m' led', s₂ = { s₁ with heap := h', toks := tk } ∧ Fr h₀ L h' m' ∧ News h₀ L h' led' ∧ J m' led'
noncomputable def WPost (h₀ : Heap) (L : Addr) (J : (Str → Option Value) → Led → Prop) (s₁ : Shared) (Q : Flow → Shared → Prop) (f : Flow) (s₂ : Shared) : Prop :=
  match f with
  | .ret v => Q (.ret v) s₂
  | .brk => Q .next s₂
  | _ => WEnd h₀ L J s₁ s₂
theorem while_inv {test : PySem.Expr} {body : List Stmt} {pos : Pos} {Q : Flow → Shared → Prop} {news : Led} (F : Fr h₀ L s.heap m) (N : News h₀ L s.heap news) (J : Nat → (Str → Option Value) → Led → Prop) (n0 : Nat) (hj : J n0 m news)
    (turn : ∀ n m₁ led h tk, J n m₁ led → Fr h₀ L h m₁ → News h₀ L h led → wpAny (model prog w) A (isTrue test env (eval test env)) (fun b s₂ =>
      if b = true then wpAny (model prog w) A (execs body env) (WPost h₀ L (fun m' l' => ∃ k, k < n ∧ J k m' l') s Q) (fun _ _ => False) s₂ else Q .next s₂) (fun _ _ => False) { s with heap := h, toks := tk }) :
    wpAny (model prog w) A (exec (.While test body [] pos) env) Q E s := by
  refine wpAny_While (codeAny_whileLoop (fun n s' => ∃ h tk m₁ led, s' = { s with heap := h, toks := tk } ∧ J n m₁ led ∧ Fr h₀ L h m₁ ∧ News h₀ L h led) ?_ n0 ⟨s.heap, s.toks, m, news, rfl, hj, F, N⟩)
  rintro n s' ⟨h, tk, m₁, led, rfl, hJ, F', N'⟩
  refine wpAny_mono (turn n m₁ led h tk hJ F' N') (fun b s₂ h₂ => ?_) fun _ _ f => f.elim
  cases b with
  | false =>
    simp only [Bool.false_eq_true, if_false] at h₂ ⊢
    exact wpAny_execs_nil h₂
  | true =>
    simp only [if_true] at h₂ ⊢
    refine wpAny_mono h₂ (fun f s₃ h₃ => ?_) fun _ _ f => f.elim
    have fin : WEnd h₀ L (fun m' l' => ∃ k, k < n ∧ J k m' l') s s₃ → ∃ k, k < n ∧ ∃ h tk m₁ led, s₃ = { s with heap := h, toks := tk } ∧ J k m₁ led ∧ Fr h₀ L h m₁ ∧ News h₀ L h led := by
      rintro ⟨h', tk', m', led', rfl, F', N', k, hk, hJ'⟩
      exact ⟨k, hk, h', tk', m', led', rfl, hJ', F', N'⟩
    cases f with
    | next => exact fin h₃
    | cont => exact fin h₃
    | brk => exact h₃
    | ret v => exact h₃
end
end Mine

end

section
open PySem PySem.W PyProof.Rows
set_option autoImplicit false
set_option Elab.async false
set_option maxRecDepth 100000
namespace Mine
section
variable {prog : Program} {w : World} {A : Around} {E : Value → Shared → Prop} {env : Env} {s : Shared} {h₀ : Heap} {L : Addr} {m : Str → Option Value}
noncomputable def FEnd (h₀ : Heap) (L : Addr) (J : (Str → Option Value) → Led → Prop) (led own : Led) (s₁ s₂ : Shared) : Prop :=
  ∃ h' tk m' led', s₂ = { s₁ with heap := h', toks := tk } ∧ Fr h₀ L h' m' ∧ News h₀ L h' (led' ++ own) ∧ (∀ p ∈ led', p.1 ∈ led.map (·.1) ∨ p.2.cls = .type "tuple") ∧ J m' led'
noncomputable def FPost (h₀ : Heap) (L : Addr) (J : (Str → Option Value) → Led → Prop) (led own : Led) (s₁ : Shared) (Q : Flow → Shared → Prop) (f : Flow) (s₂ : Shared) : Prop :=
  match f with
  | .ret v => Q (.ret v) s₂
  | .brk => Q .next s₂
  | _ => FEnd h₀ L J led own s₁ s₂
noncomputable def ForPack (prog : Program) (w : World) (A : Around) (env : Env) (x : Str) (body : List Stmt) (h₀ : Heap) (L : Addr) (m : Str → Option Value) (Q : Flow → Shared → Prop) (xv : Value) (s₁ : Shared) : Prop :=
  ∃ (news : Led) (I : Addr) (h₂ : Heap) (xs : Led) (n : Nat) (P : Nat → Value → Prop) (St : Nat → Heap → Prop) (J : Nat → (Str → Option Value) → Led → Prop),
    Fr h₀ L s₁.heap m ∧ News h₀ L s₁.heap news ∧ Iter prog w A s₁ xv I h₂ xs n P St ∧ J 0 m news ∧
    (∀ p ∈ xs, h₀.get? p.1 = some p.2 ∨ ∀ i m led, J i m led → p ∈ led) ∧
    (∀ i v m₁ (led own : Led) (h : Heap) (tk : Nat), i < n → P i v → J i m₁ led → (∀ p ∈ led, ∀ q ∈ own, p.1 ≠ q.1) → Fr h₀ L h (fun y => if y = x then some v else m₁ y) → News h₀ L h (led ++ own) →
      wpAny (model prog w) A (execs body env) (FPost h₀ L (J (i + 1)) led own s₁ Q) (fun _ _ => False) { s₁ with heap := h, toks := tk }) ∧
    (∀ m' led h' tk, J n m' led → Fr h₀ L h' m' → News h₀ L h' led → Q .next { s₁ with heap := h', toks := tk })
theorem for_inv {iter : PySem.Expr} {x : Str} {px pos : Pos} {body : List Stmt} {Q : Flow → Shared → Prop} (_F : Fr h₀ L s.heap m) (hL : env.locals = L) (hx : env.kindOf x = some .local)
    (hp : (env.scope.kind == .class || (env.scope.kind == .module && env.locals != env.globals)) = false)
    (h : wpAny (model prog w) A (eval iter env) (ForPack prog w A env x body h₀ L m Q) E s)
    (hs : ∀ x, foldedSetIterable iter env x = pure x) :
    wpAny (model prog w) A (exec (.For (.Name x px) iter body [] pos) env) Q E s := by
  subst hL
  refine wpAny_For (wpAny_mono h (fun xv s₁ h₁ => ?_) fun _ _ e => e) hs
  obtain ⟨news, I, h₂, xs, n, P, St, J, F, N, IT, hj, hax, turn, hQ⟩ := h₁
  refine IT.iter _ _ ?_
  obtain ⟨W, hhere, hst, hI, ⟨oi, rfl⟩, hobj, _⟩ := IT
  have hLlt := F.ns.lt
  have hIL : I ≠ env.locals := by rw [hI]; exact Nat.ne_of_gt hLlt
  have hIw : ∀ b, b ≠ I → b ∉ [I] := fun b hb' hm => hb' (List.mem_singleton.mp hm)
  have oldI : ∀ b o, s₁.heap.get? b = some o → b ≠ I := fun b o e => by rw [hI]; exact Nat.ne_of_lt (Heap.lt_size e)
  have h0I : h₀.get? I = none := by
    cases q : h₀.get? I with
    | none => rfl
    | some o => exact absurd (F.keep _ _ q) (fun e => oldI _ _ e rfl)
  have h0n : ∀ b o, h₀.get? b = some o → b ≠ I ∧ b ≠ env.locals := fun b o e => ⟨oldI _ _ (F.keep _ _ e), Nat.ne_of_lt (Nat.lt_of_lt_of_le (Heap.lt_size e) F.above)⟩
  have hfpL : ∀ p ∈ xs, (∃ o, h₀.get? p.1 = some o) ∨ ∀ i m led, J i m led → p ∈ led := fun p hp => (hax p hp).imp (fun e => ⟨_, e⟩) id
  refine codeAny_forLoop (fun k s' => ∃ i m₁ led h' tk, s' = { s₁ with heap := h', toks := tk } ∧ St i h' ∧ Fr h₀ env.locals h' m₁ ∧ News h₀ env.locals h' led ∧ (∀ p ∈ led, p.1 ≠ I) ∧ J i m₁ led ∧ i ≤ n ∧ k = n + 1 - i) ?_ (n + 1) ?_
  case refine_2 =>
    exact ⟨0, m, news, _, _, rfl, hst, F.push _, fun p hp => ⟨Heap.get?_push_of_some _ (N p hp).1, (N p hp).2⟩, fun p hp => oldI _ _ (N p hp).1, hj, Nat.zero_le _, rfl⟩
  rintro k s' ⟨i, m₁, led, H, tk, rfl, hst', F', N', hled, hJ, hi, rfl⟩
  by_cases hlt : i < n
  · refine W.item i _ _ _ hlt hst' fun v h₃ tk₃ hPv hst₃ hk₃ => ?_
    refine wpAny_assign_Name (wpAny_storeName_local hx (F'.ns.at' fun o e => hk₃ _ o (hIw _ hIL.symm) e) (fun h₄ hn₄ hs₄ => ?_) hp)
    obtain ⟨oI, hI', hIc, hIl⟩ := hobj _ _ hst₃
    have hI4 : h₄.get? I = some oI := hs₄.extBut I oI hIL hI'
    have up4 : ∀ b o, b ≠ env.locals → b ≠ I → H.get? b = some o → h₄.get? b = some o := fun b o hbC hbI e => hs₄.extBut b o hbC (hk₃ b o (hIw b hbI) e)
    have F4 : Fr h₀ env.locals h₄ (fun y => if y = x then some v else m₁ y) := ⟨hn₄, fun b o e => up4 b o (h0n b o e).2 (h0n b o e).1 (F'.keep b o e), F.above⟩
    have N4 : News h₀ env.locals h₄ (led ++ [(I, oI)]) := by
      intro p hp
      rcases List.mem_append.mp hp with hp | hp
      · exact ⟨up4 _ _ (N' p hp).2.1 (hled p hp) (N' p hp).1, (N' p hp).2⟩
      · rw [List.mem_singleton.mp hp]; exact ⟨hI4, hIL, h0I⟩
    have haxO : ∀ p ∈ xs, h₄.get? p.1 = some p.2 := fun p hp => by
      rcases hax p hp with hax | hax
      · exact F4.keep _ _ hax
      · exact (N4 _ (List.mem_append_left _ (hax _ _ _ hJ))).1
    refine wpAny_mono (turn i v m₁ led _ h₄ _ hlt hPv hJ (fun p hp q hq => ?_) F4 N4) (fun f s₃ h₃ => ?_) fun _ _ f => f.elim
    · rw [List.mem_singleton.mp hq]; exact hled p hp
    have fin : FEnd h₀ env.locals (J (i + 1)) led [(I, oI)] s₁ s₃ → ∃ k, k < n + 1 - i ∧ ∃ i m₁ led h' tk, s₃ = { s₁ with heap := h', toks := tk } ∧ St i h' ∧ Fr h₀ env.locals h' m₁ ∧ News h₀ env.locals h' led ∧ (∀ p ∈ led, p.1 ≠ I) ∧ J i m₁ led ∧ i ≤ n ∧ k = n + 1 - i := by
      rintro ⟨h', tk', m', led', rfl, F5, N5, hnew, hJ'⟩
      have eI := (N5 (I, oI) (List.mem_append_right _ (.head _))).1
      refine ⟨n + 1 - (i + 1), by (first | lia | omega), i + 1, m', led', h', tk', rfl, ?_, F5, fun p hp => N5 p (List.mem_append_left _ hp), fun p hp e => ?_, hJ', hlt, rfl⟩
      · refine W.frame _ _ _ (W.frame _ _ _ hst₃ fun b hb' o e => hs₄.extBut b o ?_ e) fun b hb' o e => ?_
        · rcases List.mem_cons.mp hb' with rfl | hb'
          · exact hIL
          · obtain ⟨p, hp, rfl⟩ := List.mem_map.mp hb'
            rcases hax p hp with hax | hax
            · exact (h0n _ _ hax).2
            · exact (N4 _ (List.mem_append_left _ (hax _ _ _ hJ))).2.1
        · rcases List.mem_cons.mp hb' with rfl | hb'
          · rw [hI4] at e; cases e; exact eI
          · obtain ⟨p, hp, rfl⟩ := List.mem_map.mp hb'
            rw [haxO p hp] at e; cases e
            rcases hax p hp with hax | hax
            · exact F5.keep _ _ hax
            · exact (N5 _ (List.mem_append_left _ (hax _ _ _ hJ'))).1
      · have a1 := (N5 p (List.mem_append_left _ hp)).1
        rcases hnew p hp with hk | hk
        · obtain ⟨q, hq, e'⟩ := List.mem_map.mp hk
          exact hled q hq (e'.trans e)
        · rw [e, eI] at a1
          rw [← Option.some.inj a1] at hk
          exact hIc hk
    cases f with
    | next => exact fin h₃
    | cont => exact fin h₃
    | brk => exact h₃
    | ret v => exact h₃
  · have hin : i = n := by (first | lia | omega)
    refine W.done _ _ _ (hin ▸ hst') fun h₃ tk₃ hk₃ => ?_
    refine wpAny_execs_nil ?_
    exact hQ m₁ led h₃ tk₃ (hin ▸ hJ) ⟨F'.ns.at' fun o e => hk₃ _ o (hIw _ hIL.symm) e, fun b o e => hk₃ b o (hIw b (h0n b o e).1) (F'.keep b o e), F.above⟩ fun p hp => ⟨hk₃ _ _ (hIw _ (hled p hp)) (N' p hp).1, (N' p hp).2⟩
end
-- names in a comprehension's frame
section
variable {M : Model} {A : Around} {E : Value → Shared → Prop} {s : Shared} {K : Frag} {h₀ : Heap} {L : Addr} {m mg mb : Str → Option Value} {p : Program} {loose : List Str} {env : Env}
  {x : Str} {pos : Pos} {v : Value} {Q : Value → Shared → Prop} {news : Led} {c : Addr} {o : Obj}
theorem nameQ_B (F : Fr h₀ L s.heap m) (X : K.In h₀) (T : TopRead p loose mg mb h₀) (e : nsIn K mainGlobals x = some none) (hv : bootBuiltins x = some v) (hn : x ≠ "__name__") (h : Q v s)
    (hg : env.globals = mainGlobals) (hb : env.builtins = builtinsNs) (hk : env.scope.kind = .function) (hx : env.kindOf x = some .globalImplicit) (hd : (x == ("__debug__" : Str)) = false) :
    wpAny M A (eval (.Name x pos) env) Q E s :=
  PySem.Calls.Name_function_global hk hx (PySem.Calls.loadGlobal_builtin (env := env) (by rw [hg]; exact T.g.keeps F.keep) (mg_none_of X T.g e) (by rw [hb]; exact T.b.keeps F.keep) ((T.builtins x hn).trans hv) h) hd
theorem nameQ_L (F : Fr h₀ L s.heap m) (hv : m x = some v) (h : Q v s) (hL : env.locals = L)
    (hk : env.scope.kind = .function) (hx : env.kindOf x = some .local) (hd : (x == ("__debug__" : Str)) = false) :
    wpAny M A (eval (.Name x pos) env) Q E s := wpAny_Name (wpAny_loadName_local hk hx (hL ▸ F.ns) hv h) hd
theorem nameQ_F (N : News h₀ L s.heap news) (hc : env.cells.lookup x = some c) (hm : (c, o) ∈ news) (hd : o.data = .cell (some v)) (h : Q v s)
    (hk : env.scope.kind = .function) (hx : env.kindOf x = some .free) (hb : (x == ("__debug__" : Str)) = false) (hn : (x == ("__classdict__" : Str)) = false) :
    wpAny M A (eval (.Name x pos) env) Q E s := wpAny_Name (wpAny_loadName_free hk hx hc ⟨o, N.get hm, hd⟩ h hn) hb
theorem nameQ_C (N : News h₀ L s.heap news) (hc : env.cells.lookup x = some c) (hm : (c, o) ∈ news) (hd : o.data = .cell (some v)) (h : Q v s)
    (hk : env.scope.kind = .function) (hx : env.kindOf x = some .cell) (hb : (x == ("__debug__" : Str)) = false) :
    wpAny M A (eval (.Name x pos) env) Q E s := wpAny_Name (wpAny_loadName_cell hk hx hc ⟨o, N.get hm, hd⟩ h) hb
end
end Mine

end

section
open PySem PySem.W PyProof.Rows PySem.Calls
set_option autoImplicit false
set_option Elab.async false
set_option maxRecDepth 100000
namespace Mine
section
variable {prog : Program} {w : World} {A : Around} {s : Shared} {K : Frag} {R : Result → Shared → Prop} {name qual : Str} {params : Arguments} {body : List Stmt} {scope : Scope} {dV kV doc pm cdv ct oc : Value} {an od : Option Addr} {osl : Array (Option Value)} {f : Addr} {args : Args} {binds : List (Str × Value)}
theorem enterM (MS : Led) (hM : ∀ p ∈ MS, s.heap.get? p.1 = some p.2) (X : K.In s.heap) (hlim : s.heap.NoLimit)
    (ho : K.lookup f = some ⟨oc, od, .func (fnOf name qual params body scope dV kV doc pm an cdv ct), osl⟩) (hcd : codeIn K cdv qual = true) (hroom : A.depth < recursionLimit)
    (hbind : bindArgs (fnOf name qual params body scope dV kV doc pm an cdv ct) args = pure binds) (hloc : ∀ y ∈ binds, scope.names.lookup y.1 = some .local)
    (h : ∀ L h₁, Fr (hideAll s.heap (MS.map (·.1))) L h₁ (fun y => binds.reverse.lookup y) → News (hideAll s.heap (MS.map (·.1))) L h₁ MS →
      wpAny (model prog w) (A.deeper (envOf qual scope L f cdv)) (execs body (envOf qual scope L f cdv))
        (fun fl s' => R (.ok (.ret (match fl with | .ret v => v | _ => .none))) s')
        (fun _ _ => False)
        { s with heap := h₁, toks := s.toks + binds.length })
    (hco : scope.isCoroutine = false) (hgen : scope.isGenerator = false) (hk : scope.kind = .function)
    (hcell : ∀ x ∈ scope.names, x.2 ≠ .cell) : codeAny (model prog w) A (.call (.ref f) args) R s := by
  refine PySem.codeAny_call_def (fd := fnOf name qual params body scope dV kV doc pm an cdv ct) (body := body) (binds := binds) hroom (X _ _ ho) rfl hlim (codeRec_of X hcd) rfl (.of_eq hbind) hcell hloc (fun h₁ hns hk₁ => ?_) hco hgen hk
  exact wpAny_mono (h s.heap.objs.size h₁ ⟨hns, fun b o e => hk₁ b o (of_hideAll _ e), Nat.le_of_eq (hideAll_size _ _)⟩
    (fun p hp => ⟨hk₁ _ _ (hM p hp), Nat.ne_of_lt (Heap.lt_size (hM p hp)), hideAll_none _ (List.mem_map_of_mem hp)⟩)) (fun fl s' hl => hl) fun _ _ y => y.elim
theorem enterC (MS : Led) (hM : ∀ p ∈ MS, s.heap.get? p.1 = some p.2) (X : K.In s.heap) (hlim : s.heap.NoLimit)
    (ho : K.lookup f = some ⟨oc, od, .func (fnOf name qual params body scope dV kV doc pm an cdv ct), osl⟩) (hcd : codeIn K cdv qual = true) (hroom : A.depth < recursionLimit)
    (hbind : bindArgs (fnOf name qual params body scope dV kV doc pm an cdv ct) args = pure binds)
    (hkind : ∀ n, ∀ x ∈ binds, scope.names.lookup x.1 = some .local ∨ (scope.names.lookup x.1 = some .cell ∧ ((cellsFrom n scope.names []).lookup x.1).isSome = true))
    (hnd : ((cellsFrom 0 scope.names []).map (·.1)).Nodup)
    (h : ∀ L h₁ tk cells, Fr (hideAll s.heap (MS.map (·.1))) L h₁ (bindL (envOfC qual scope L f cdv).kindOf binds fun _ => none) → News (hideAll s.heap (MS.map (·.1))) L h₁ (cells ++ MS) →
      CellsAre (bindC (envOfC qual scope L f cdv).kindOf binds fun _ => none) (cellsFrom (L + 1) scope.names []) cells →
      wpAny (model prog w) (A.deeper (envOfC qual scope L f cdv)) (execs body (envOfC qual scope L f cdv))
        (fun fl s' => R (.ok (.ret (match fl with | .ret v => v | _ => .none))) s')
        (fun _ _ => False)
        { s with heap := h₁, toks := tk })
    (hco : scope.isCoroutine = false) (hgen : scope.isGenerator = false) (hk : scope.kind = .function) : codeAny (model prog w) A (.call (.ref f) args) R s := by
  refine codeAny_call_function (fd := fnOf name qual params body scope dV kV doc pm an cdv ct) hroom (X _ _ ho) rfl hco hgen rfl (codeRec_of X hcd) (BindsTo.of_eq hbind _ _ _ _ ?_)
  refine wpAny_newFunctionEnv_cells hk (hkind _) fun env' he s' x => ?_
  subst he
  refine ⟨hlim.keeps x.toInCall.keep, codeAny_func ?_⟩
  obtain ⟨h₁, tk, rfl, _⟩ := x.done
  have hk₁ := x.toInCall.keep
  obtain ⟨cells, NC, Y⟩ := Cl.news (h₀ := s.heap) (Nat.le_refl _) fun n c hm => ⟨x.cell n c (lookup_of_mem_nodup (cellsFrom_names scope.names 0 (s.heap.objs.size + 1) [] [] rfl ▸ hnd) hm), x.above n c hm⟩
  refine wpAny_mono (h s.heap.objs.size h₁ tk cells ⟨x.toInCall.ns, fun b o e => hk₁ b o (of_hideAll _ e), Nat.le_of_eq (hideAll_size _ _)⟩ (fun p hp => ?_) Y) (fun fl s' hl => hl) fun _ _ y => y.elim
  rcases List.mem_append.mp hp with hp | hp
  · refine ⟨(NC p hp).1, (NC p hp).2.1, ?_⟩
    cases q : (hideAll s.heap (MS.map (·.1))).get? p.1 with
    | none => rfl
    | some o => have := of_hideAll _ q; rw [(NC p hp).2.2] at this; cases this
  · exact ⟨hk₁ _ _ (hM p hp), Nat.ne_of_lt (Heap.lt_size (hM p hp)), hideAll_none _ (List.mem_map_of_mem hp)⟩
end
end Mine

end

section
open PySem PySem.W PyProof.Rows
set_option autoImplicit false
set_option Elab.async false
set_option maxRecDepth 100000
namespace Mine
structure Lv (A : Around) (k : Nat) : Prop where
  hh : A.handled = none
  hd : A.depth + 10 * k < 690
  hu : A.units + 200 * k < 9000
theorem Lv.down {A : Around} {k : Nat} {env : Env} (h : Lv A (k + 1)) : Lv (A.deeper env) k := ⟨h.hh, by have := h.hd; show A.depth + 1 + 10 * k < 690; (first | lia | omega), by have := h.hu; show A.units + 3 + 200 * k < 9000; (first | lia | omega)⟩
theorem Lv.in1 {A : Around} {k : Nat} (h : Lv A (k + 1)) : Lv A.in1 k := ⟨h.hh, by have := h.hd; show A.depth + 10 * k < 690; (first | lia | omega), by have := h.hu; show A.units + 1 + 200 * k < 9000; (first | lia | omega)⟩
theorem Lv.le {A : Around} {k j : Nat} (h : Lv A k) (hj : j ≤ k) : Lv A j := ⟨h.hh, by have := h.hd; (first | lia | omega), by have := h.hu; (first | lia | omega)⟩
theorem Lv.room {A : Around} {k : Nat} (h : Lv A k) : A.depth < recursionLimit := by have := h.hd; simp only [recursionLimit]; (first | lia | omega)
theorem instUp {h h' : Heap} {x C : Addr} {ox : Obj} {od : Option Obj} (I : InstAt h x ox C od) (k : Ext h h') : InstAt h' x ox C od :=
  ⟨k _ _ I.at_, I.cls, I.no, by
    have := I.dict
    revert this
    cases ox.dict <;> cases od <;> intro this <;> first | exact this | exact k _ _ this⟩
inductive OpsAt (h : Heap) : List Addr → List Op → Prop
  | nil : OpsAt h [] []
  | cons {a : Addr} {op : Op} {as : List Addr} {ops : List Op} : OpAt h a op → OpsAt h as ops → OpsAt h (a :: as) (op :: ops)
theorem OpsAt.keeps {h h' : Heap} (k : Ext h h') {as : List Addr} {ops : List Op} (x : OpsAt h as ops) : OpsAt h' as ops := by
  induction x with
  | nil => exact .nil
  | cons a _ ih => exact .cons (a.keeps k) ih
theorem OpsAt.length {h : Heap} {as : List Addr} {ops : List Op} (x : OpsAt h as ops) : as.length = ops.length := by
  induction x with
  | nil => rfl
  | cons a _ ih => simp [ih]
theorem OpsAt.get {h : Heap} {as : List Addr} {ops : List Op} (x : OpsAt h as ops) : ∀ {i : Nat} {op : Op}, ops[i]? = some op → ∃ a, as[i]? = some a ∧ OpAt h a op := by
  induction x with
  | nil => intro i op e; simp at e
  | cons a _ ih =>
    intro i op e
    cases i with
    | zero => simp only [List.getElem?_cons_zero, Option.some.injEq] at e; subst e; exact ⟨_, rfl, a⟩
    | succ i => simp only [List.getElem?_cons_succ] at e ⊢; exact ih e
theorem OpsAt.get' {h : Heap} {as : List Addr} {ops : List Op} (x : OpsAt h as ops) : ∀ {i : Nat} {a : Addr}, as[i]? = some a → ∃ op, ops[i]? = some op ∧ OpAt h a op := by
  induction x with
  | nil => intro i op e; simp at e
  | cons a _ ih =>
    intro i op e
    cases i with
    | zero => simp only [List.getElem?_cons_zero, Option.some.injEq] at e; subst e; exact ⟨_, rfl, a⟩
    | succ i => simp only [List.getElem?_cons_succ] at e ⊢; exact ih e
theorem OpsAt.snoc {h : Heap} {as : List Addr} {ops : List Op} (x : OpsAt h as ops) {a : Addr} {op : Op} (y : OpAt h a op) : OpsAt h (as ++ [a]) (ops ++ [op]) := by
  induction x with
  | nil => exact .cons y .nil
  | cons a _ ih => exact .cons a ih
/-- the code object, with its two tuples -/
structure CodeAt (P : Params) (h : Heap) (c o b : Addr) (as : List Addr) (bs : List Value) (ops : List Op) (begins : List Int) : Prop where
  obj : ∃ dx t1 t2 n, InstAt h c (instObj 89 dx) 89 (some (dictOf [⟨PyData.keyHash P (Str.ofString "ops"), .str (Str.ofString "ops") t1, .ref o⟩, ⟨PyData.keyHash P (Str.ofString "begins"), .str (Str.ofString "begins") t2, .ref b⟩] n))
  opsT : IsTup h o (as.map Value.ref).toArray
  eachOp : OpsAt h as ops
  begT : IsTup h b bs.toArray
  begI : IntsAre bs begins
theorem CodeAt.keeps {P : Params} {h h' : Heap} {c o b : Addr} {as : List Addr} {bs : List Value} {ops : List Op} {begins : List Int} (k : Ext h h') (x : CodeAt P h c o b as bs ops begins) : CodeAt P h' c o b as bs ops begins := by
  obtain ⟨⟨dx, t1, t2, n, I⟩, h2, h3, h4, h5⟩ := x
  exact ⟨⟨dx, t1, t2, n, instUp I k⟩, h2.keeps k, h3.keeps k, h4.keeps k, h5⟩
section
variable {prog : Program} {w : World} {A : Around} {E : Value → Shared → Prop} {s : Shared} {h₀ : Heap} {L : Addr} {m : Str → Option Value} {news : Led}
theorem lenT {t : Addr} {items : Array Value} {n : Nat} {Q : Value → Shared → Prop} (F : Fr h₀ L s.heap m) (ht : IsTup h₀ t items) (hn : items.size = n) (hz : n < 1000)
    (h : Q (.int n (s.toks + 1)) { s with toks := s.toks + 1 + 1 }) : wpAny (model prog w) A (call (.builtin "len") [.ref t]) Q E s := by
  subst hn
  exact len_tuple (ht.keeps F.keep) (by (first | lia | omega)) h
end
end Mine

end

section
open PySem PySem.W PyProof.Rows
set_option autoImplicit false
set_option Elab.async false
set_option maxRecDepth 100000
namespace Mine
theorem Lv.units {A : Around} {k : Nat} (h : Lv A k) : A.units < cLine := by have := h.hu; simp only [cLine]; (first | lia | omega)
theorem Lv.gen {α : Type} {M : Model} {A : Around} {k : Nat} {env : Env} {t : Sem α} {Q : α → Shared → Prop} {E : Value → Shared → Prop} {s : Shared} (hv : Lv A (k + 1)) (h : ∀ A', Lv A' k → wpAny M A' t Q E s) : wpAny M (A.deeper env) t Q E s := h _ hv.down
theorem lenOf {h : Heap} {a : Addr} {items : Array Value} {n : Nat} (_h : IsTup h a items) (e : items.size = n) : items.size = n := e
section
variable {prog : Program} {w : World} {A : Around} {E : Value → Shared → Prop} {s : Shared} {h₀ : Heap} {L : Addr} {m : Str → Option Value} {news : Led} {Q : Value → Shared → Prop} {a b : Addr}
theorem eqNil {vs : List Value} (hl : s.heap.IsList a vs.toArray) (hb : s.heap.IsList b #[]) (hu : A.units < cLine) (h : Q (.bool vs.isEmpty) s) : wpAny (model prog w) A (compareOp .Eq (.ref a) (.ref b)) Q E s := by
  cases vs with
  | nil => exact SeqAt.eq_listAt (e := fun _ => true) hl hb rfl hu (fun j h1 _ => absurd h1 (Nat.not_lt_zero _)) h
  | cons v vs => exact SeqAt.eq_list_lengthsAt hl hb (by simp) hu h
theorem neNil {vs : List Value} (hl : s.heap.IsList a vs.toArray) (hb : s.heap.IsList b #[]) (hu : A.units < cLine) (h : Q (.bool (!vs.isEmpty)) s) : wpAny (model prog w) A (compareOp .NotEq (.ref a) (.ref b)) Q E s := by
  cases vs with
  | nil => exact SeqAt.RcNeAt.lists (e := fun _ => true) hl hb rfl hu (fun j h1 _ => absurd h1 (Nat.not_lt_zero _)) prog w E Q h
  | cons v vs => exact SeqAt.RcNeAt.lists_lengths hl hb (by simp) hu prog w E Q h
theorem itemT0 {value slice : PySem.Expr} {t : Addr} {x : Value} {l : List Value} {u : Tok} (F : Fr h₀ L s.heap m) (ht : IsTup h₀ t (x :: l).toArray) (h : Q x s)
    (hs : subscripted slice false (.ref t) (.int 0 u) = operate [.ref t, .int 0 u] (getItem (.ref t) (.int 0 u)) := by with_unfolding_all rfl) :
    wpAny (model prog w) A (subscriptTail value slice (.ref t) (.int 0 u)) Q E s :=
  item_tupleT (j := 0) (ht.keeps F.keep) (by decide) (by decide) (by unfold seqIndex?; simp) rfl h hs
theorem topNotIn_K {K : Frag} {es : Array DictEntry} {n : Nat} {x : Str} {t : Tok} {r : Option Value} (F : Fr h₀ L s.heap m) (X₀ : K.In h₀) (hl : K.lookup a = some ⟨.type "dict", none, .dict es n, #[]⟩) (hk : KeysLit w.params es.toList) (e : nsIn K a x = some r) (lo : (a == sysModules) = false)
    (h : Q (.bool (!r.isSome)) { s with toks := s.toks + 1 }) : wpAny (model prog w) A (compareOp .NotIn (.str x t) (.ref a)) Q E s :=
  wpAny_notIn_of (strKind_is prog w x t) lo (mapOf_K (prog := prog) (X₀.keeps F.keep) hl hk) (by rw [find_K hl e]; exact h)
end
end Mine

end

section
open PySem PySem.W PyProof.Rows
set_option autoImplicit false
set_option Elab.async false
set_option maxRecDepth 100000
namespace Mine
/-- a turn of a comprehension that changes nothing of what is there -/
noncomputable def PEnd (base : Heap) (C : Addr) (news own : Led) (s : Shared) (g : Prop) (s₄ : Shared) : Prop :=
  (∃ h' tk m', s₄ = { s with heap := h', toks := tk } ∧ Fr base C h' m' ∧ News base C h' (news ++ own)) ∧ g
theorem PEnd.intro {base : Heap} {C : Addr} {news own news' : Led} {s : Shared} {g : Prop} {h' : Heap} {tk : Nat} {m' : Str → Option Value} (F : Fr base C h' m') (N : News base C h' news') (hs : ∀ p ∈ news ++ own, p ∈ news') (hg : g) :
    PEnd base C news own s g { s with heap := h', toks := tk } := ⟨⟨h', tk, m', rfl, F, fun p hp => N p (hs p hp)⟩, hg⟩
section
variable {prog : Program} {w : World} {A : Around} {env : Env} {s : Shared} {h₀ : Heap} {L : Addr} {m m' : Str → Option Value} {news : Led}
  {scope : Scope} {cl : List (Str × Addr)} {x : Str} {ifs : List PySem.Expr} {elt : PySem.Expr} {y : Option Str} {Q : Addr → Shared → Prop}
noncomputable def PTurn (prog : Program) (w : World) (A : Around) (env : Env) (scope : Scope) (cl : List (Str × Addr)) (x : Str) (ifs : List PySem.Expr) (elt : PySem.Expr) (h₀ : Heap) (s : Shared) (news : Led) (n : Nat) (P : Nat → Value → Prop) (G : Nat → List Value → Prop) : Prop :=
  ∀ base, Ext h₀ base → ∀ i v acc (own : Led) (h : Heap) (tk : Nat) (m₁ : Str → Option Value) (C : Addr), i < n → P i v → G i acc → Fr base C h (fun y => if y = x then some v else m₁ y) → News base C h (news ++ own) →
    wpAny (model prog w) A (forIn ifs true fun c r => if r = true then do let ok ← isTrue c (compEnvC scope cl C env) (eval c (compEnvC scope cl C env)); pure (ForInStep.yield ok) else pure (ForInStep.yield r))
      (fun ok s₃ => if ok = true then wpAny (model prog w) A (eval elt (compEnvC scope cl C env)) (fun y s₄ => PEnd base C news own s (G (i + 1) (acc ++ [y])) s₄) (fun _ _ => False) s₃ else PEnd base C news own s (G (i + 1) acc) s₃)
      (fun _ _ => False) { s with heap := h, toks := tk }
theorem pack_pure {xv : Value} {I : Addr} {h₂ : Heap} {xs : Led} {n : Nat} {P : Nat → Value → Prop} {St : Nat → Heap → Prop} (F : Fr h₀ L s.heap m) (N : News h₀ L s.heap news) (IT : Iter prog w A s xv I h₂ xs n P St) (hsz : n ≤ 1000)
    (hax : ∀ p ∈ xs, h₀.get? p.1 = some p.2 ∨ p ∈ news) (G : Nat → List Value → Prop) (hG : G 0 []) (turn : PTurn prog w A env scope cl x ifs elt h₀ s news n P G)
    (done : ∀ D h' tk c acc, Fr h₀ L h' (match y with | none => m | some y => fun z => if z = y then some (.ref D) else m z) → News h₀ L h' ((D, seqObj "list" acc.toArray c) :: news) → (∀ p ∈ news, p.1 ≠ D) → G n acc → Q D { s with heap := h', toks := tk }) :
    CompPack prog w A env scope cl x ifs elt h₀ L m m' y Q xv s := by
  refine ⟨news, I, h₂, xs, n, P, St, fun i acc led => led = news ∧ G i acc, F, N, IT, Nat.le_trans hsz (by decide), ⟨rfl, hG⟩, fun p hp => ?_, ?_, ?_⟩
  · rcases hax p hp with h | h
    · exact .inl (base_keeps F N _ _ h)
    · exact .inr fun i acc led hj => by rw [hj.1]; exact h
  · rintro i v acc led own h tk m₁ C hi hP ⟨rfl, hg⟩ hoff F' N'
    have fin : ∀ (g : List Value) (s₄ : Shared), PEnd (hideAll s.heap (led.map (·.1))) C led own s (G (i + 1) g) s₄ → CEnd (hideAll s.heap (led.map (·.1))) C (fun l => l = led ∧ G (i + 1) g) led own s s₄ := by
      rintro g s₄ ⟨⟨h', tk', m', rfl, F5, N5⟩, hg⟩
      exact ⟨h', tk', m', led, rfl, F5, N5, fun p hp => .inl (List.mem_map_of_mem hp), rfl, hg⟩
    refine wpAny_mono (turn _ (base_keeps F N) i v acc own h tk m₁ C hi hP hg F' N') (fun ok s₃ h₃ => ?_) fun _ _ f => f
    cases ok with
    | false => exact fin _ _ h₃
    | true => exact wpAny_mono h₃ (fun y s₄ h₄ => fin _ _ h₄) fun _ _ f => f
  · rintro D h' tk c acc led F' N' hd ⟨rfl, hg⟩
    exact done D h' tk c acc F' N' hd hg
theorem pack_list {r : Addr} {vs : List Value} {c₀ : Nat} (hh : A.handled = none) (F : Fr h₀ L s.heap m) (N : News h₀ L s.heap news) (hm : (r, seqObj "list" vs.toArray c₀) ∈ news) (hsz : vs.length ≤ 1000)
    (G : Nat → List Value → Prop) (hG : G 0 []) (turn : PTurn prog w A env scope cl x ifs elt h₀ s news vs.length (fun i v => vs[i]? = some v) G)
    (done : ∀ D h' tk c acc, Fr h₀ L h' (match y with | none => m | some y => fun z => if z = y then some (.ref D) else m z) → News h₀ L h' ((D, seqObj "list" acc.toArray c) :: news) → (∀ p ∈ news, p.1 ≠ D) → G vs.length acc → Q D { s with heap := h', toks := tk }) :
    CompPack prog w A env scope cl x ifs elt h₀ L m m' y Q (.ref r) s := by
  obtain ⟨I, h₂, o, St, eo, IT⟩ := iter_list (prog := prog) (w := w) hh (News.isList N hm)
  rw [N.get hm] at eo
  cases eo
  have e : vs.toArray.size = vs.length := by simp
  rw [e] at IT
  refine pack_pure F N IT hsz (fun p hp => .inr (by rw [List.mem_singleton.mp hp]; exact hm)) G hG (fun base kb i v acc own h tk m₁ C hi hP => ?_) done
  exact turn base kb i v acc own h tk m₁ C hi (by simpa using hP)
theorem pack_tup {r : Addr} {vs : List Value} (hh : A.handled = none) (F : Fr h₀ L s.heap m) (N : News h₀ L s.heap news) (hm : IsTup h₀ r vs.toArray) (hsz : vs.length ≤ 1000)
    (G : Nat → List Value → Prop) (hG : G 0 []) (turn : PTurn prog w A env scope cl x ifs elt h₀ s news vs.length (fun i v => vs[i]? = some v) G)
    (done : ∀ D h' tk c acc, Fr h₀ L h' (match y with | none => m | some y => fun z => if z = y then some (.ref D) else m z) → News h₀ L h' ((D, seqObj "list" acc.toArray c) :: news) → (∀ p ∈ news, p.1 ≠ D) → G vs.length acc → Q D { s with heap := h', toks := tk }) :
    CompPack prog w A env scope cl x ifs elt h₀ L m m' y Q (.ref r) s := by
  obtain ⟨I, h₂, o, St, eo, IT⟩ := iter_tuple (prog := prog) (w := w) hh (hm.keeps F.keep)
  obtain ⟨o', ho', _⟩ := hm
  rw [F.keep _ _ ho'] at eo
  cases eo
  have e : vs.toArray.size = vs.length := by simp
  rw [e] at IT
  refine pack_pure F N IT hsz (fun p hp => .inl (by rw [List.mem_singleton.mp hp]; exact ho')) G hG (fun base kb i v acc own h tk m₁ C hi hP => ?_) done
  exact turn base kb i v acc own h tk m₁ C hi (by simpa using hP)
theorem pack_range {r : Addr} {t u v : Tok} {n : Nat} (hh : A.handled = none) (F : Fr h₀ L s.heap m) (N : News h₀ L s.heap news) (hr : IsRange s.heap r 0 n 1 t u v) (hsz : n ≤ 1000)
    (G : Nat → List Value → Prop) (hG : G 0 []) (turn : PTurn prog w A env scope cl x ifs elt h₀ s news n (fun i v => ∃ t, v = .int (0 + i * 1) t) G)
    (done : ∀ D h' tk c acc, Fr h₀ L h' (match y with | none => m | some y => fun z => if z = y then some (.ref D) else m z) → News h₀ L h' ((D, seqObj "list" acc.toArray c) :: news) → (∀ p ∈ news, p.1 ≠ D) → G n acc → Q D { s with heap := h', toks := tk }) :
    CompPack prog w A env scope cl x ifs elt h₀ L m m' y Q (.ref r) s := by
  obtain ⟨I, h₂, St, IT⟩ := iter_range (prog := prog) (w := w) hh hr hsz
  exact pack_pure F N IT hsz (fun p hp => nomatch hp) G hG turn done
end
theorem ints_get : ∀ {vs : List Value} {ns : List Int} {i : Nat} {v : Value}, IntsAre vs ns → vs[i]? = some v → ∃ n t, ns[i]? = some n ∧ v = .int n t
  | _, _, i, v, .nil, e => by simp at e
  | _, _, 0, v, .cons n t r, e => by simp at e; exact ⟨n, t, by simp, e.symm⟩
  | _, _, i + 1, v, .cons n t r, e => by simp only [List.getElem?_cons_succ] at e ⊢; exact ints_get r e
theorem ints_snoc {vs : List Value} {ns : List Int} (h : IntsAre vs ns) (n : Int) (t : Tok) : IntsAre (vs ++ [.int n t]) (ns ++ [n]) := h.append (.cons n t .nil)
theorem ints_nil {vs : List Value} {ns : List Int} (h : IntsAre vs ns) : vs.isEmpty = ns.isEmpty := by cases h <;> rfl
theorem filter_take (p : Int → Bool) {ns : List Int} {i : Nat} {n : Int} (h : ns[i]? = some n) : (ns.take (i + 1)).filter p = (ns.take i).filter p ++ (if p n then [n] else []) := by
  rw [List.take_add_one, h, List.filter_append]
  cases hp : p n <;> simp [hp]
end Mine

end

section
open PySem PySem.W PyProof.Rows
set_option autoImplicit false
set_option Elab.async false
set_option maxRecDepth 100000
namespace Mine
noncomputable def Op.word : Op → Str
  | .push _ => Str.ofString "push"
  | .reck _ _ => Str.ofString "calc"
  | .lab k _ => k.str
  | .choose _ => Str.ofString "choose"
  | .perform _ _ => Str.ofString "perform"
  | .jump _ => Str.ofString "jump"
  | .leave _ => Str.ofString "leave"
  | .stop _ => Str.ofString "stop"
  | .plain k => k.str
theorem OpAt.view {h : Heap} {a : Addr} {op : Op} (x : OpAt h a op) : ∃ t0 rest, IsTup h a (.str op.word t0 :: rest).toArray := by
  cases op <;> simp only [OpAt] at x
  case choose ls => obtain ⟨t1, b, vs, x, _⟩ := x; exact ⟨_, _, x⟩
  all_goals first
    | (obtain ⟨t1, t2, t3, x⟩ := x; exact ⟨_, _, x⟩)
    | (obtain ⟨t1, t2, x⟩ := x; exact ⟨_, _, x⟩)
noncomputable def taken : Op → Int
  | .reck .neg _ => 1
  | .reck _ _ => 2
  | .lab .put _ => 1
  | .choose _ => 1
  | .plain .count => 1
  | _ => 0
noncomputable def isGive : Op → Bool
  | .push _ => true
  | .reck _ _ => true
  | _ => false
noncomputable def behind (op : Op) (h : Int) : Int := if h < taken op then -1 else h - taken op + (if isGive op then 1 else 0)
noncomputable def isEnd : Op → Bool
  | .jump _ => true
  | .stop _ => true
  | _ => false
noncomputable def isDeed : Op → Bool
  | .plain .do_ => true
  | .perform _ _ => true
  | .leave _ => true
  | .stop _ => true
  | _ => false
noncomputable def ways (op : Op) (place h : Int) : List (Int × Int) :=
  (labels op).map (fun l => (l, if isGive op then 0 else h)) ++ (if isEnd op then [] else [(place + 1, h)])
theorem word_give (op : Op) : ([Str.ofString "push", Str.ofString "calc"].any fun x => x == op.word) = isGive op := by
  cases op with
  | lab k l => cases k <;> rfl
  | plain k => cases k <;> rfl
  | _ => rfl
theorem word_end (op : Op) : ([Str.ofString "jump", Str.ofString "stop"].any fun x => x == op.word) = isEnd op := by
  cases op with
  | lab k l => cases k <;> rfl
  | plain k => cases k <;> rfl
  | _ => rfl
theorem word_deed (op : Op) : ([Str.ofString "do", Str.ofString "perform", Str.ofString "leave", Str.ofString "stop"].any fun x => x == op.word) = isDeed op := by
  cases op with
  | lab k l => cases k <;> rfl
  | plain k => cases k <;> rfl
  | _ => rfl
theorem ite_known_t {b : Bool} {P Q : Prop} (h : b = true) (x : P) : if b = true then P else Q := by rw [if_pos h]; exact x
theorem ite_known_f {b : Bool} {P Q : Prop} (h : b = false) (x : Q) : if b = true then P else Q := by rw [if_neg (by rw [h]; exact Bool.false_ne_true)]; exact x
end Mine

end

section
open PySem PySem.W PyProof.Rows
set_option autoImplicit false
set_option Elab.async false
set_option maxRecDepth 100000
namespace Mine
noncomputable abbrev TupAll (l : Led) : Prop := ∀ p ∈ l, p.2.cls = .type "tuple"
/-- a turn of a comprehension that makes new tuples -/
noncomputable def GEnd (base : Heap) (C : Addr) (news imm own : Led) (s : Shared) (g : Led → Prop) (s₄ : Shared) : Prop :=
  ∃ h' tk m' new, s₄ = { s with heap := h', toks := tk } ∧ Fr base C h' m' ∧ News base C h' (news ++ (new ++ imm ++ own)) ∧ TupAll new ∧ g (new ++ imm)
theorem GEnd.intro {base : Heap} {C : Addr} {news imm own news' : Led} {s : Shared} {g : Led → Prop} {h' : Heap} {tk : Nat} {m' : Str → Option Value} (new : Led) (F : Fr base C h' m') (N : News base C h' news') (hs : ∀ p ∈ new ++ (news ++ (imm ++ own)), p ∈ news') (ht : TupAll new) (hg : g (new ++ imm)) :
    GEnd base C news imm own s g { s with heap := h', toks := tk } := by
  refine ⟨h', tk, m', new, rfl, F, fun p hp => N p (hs p ?_), ht, hg⟩
  simp only [List.mem_append] at hp ⊢
  rcases hp with h | (h | h) | h <;> simp [h]
theorem GEnd.intro1 {base : Heap} {C : Addr} {news imm own n2 : Led} {p0 : Addr × Obj} {s : Shared} {g : Led → Prop} {h' : Heap} {tk : Nat} {m' : Str → Option Value} (F : Fr base C h' m') (N : News base C h' (p0 :: n2)) (hs : ∀ p ∈ news ++ (imm ++ own), p ∈ n2) (ht : p0.2.cls = .type "tuple") (hg : g (p0 :: imm)) :
    GEnd base C news imm own s g { s with heap := h', toks := tk } :=
  GEnd.intro [p0] F N (fun q hq => by
    rcases List.mem_cons.mp hq with rfl | hq
    · exact .head _
    · exact .tail _ (hs q hq)) (fun q hq => by rw [List.mem_singleton.mp hq]; exact ht) hg
section
variable {prog : Program} {w : World} {A : Around} {env : Env} {s : Shared} {h₀ : Heap} {L : Addr} {m m' : Str → Option Value} {news : Led}
  {scope : Scope} {cl : List (Str × Addr)} {x : Str} {ifs : List PySem.Expr} {elt : PySem.Expr} {y : Option Str} {Q : Addr → Shared → Prop}
noncomputable def GTurn (prog : Program) (w : World) (A : Around) (env : Env) (scope : Scope) (cl : List (Str × Addr)) (x : Str) (ifs : List PySem.Expr) (elt : PySem.Expr) (h₀ : Heap) (s : Shared) (news : Led) (n : Nat) (P : Nat → Value → Prop) (G : Nat → List Value → Led → Prop) : Prop :=
  ∀ base, Ext h₀ base → ∀ i v acc (imm own : Led) (h : Heap) (tk : Nat) (m₁ : Str → Option Value) (C : Addr), i < n → P i v → G i acc imm → Fr base C h (fun y => if y = x then some v else m₁ y) → News base C h (news ++ (imm ++ own)) →
    wpAny (model prog w) A (forIn ifs true fun c r => if r = true then do let ok ← isTrue c (compEnvC scope cl C env) (eval c (compEnvC scope cl C env)); pure (ForInStep.yield ok) else pure (ForInStep.yield r))
      (fun ok s₃ => if ok = true then wpAny (model prog w) A (eval elt (compEnvC scope cl C env)) (fun y s₄ => GEnd base C news imm own s (G (i + 1) (acc ++ [y])) s₄) (fun _ _ => False) s₃ else GEnd base C news imm own s (G (i + 1) acc) s₃)
      (fun _ _ => False) { s with heap := h, toks := tk }
theorem pack_grow {xv : Value} {I : Addr} {h₂ : Heap} {xs : Led} {n : Nat} {P : Nat → Value → Prop} {St : Nat → Heap → Prop} (F : Fr h₀ L s.heap m) (N : News h₀ L s.heap news) (IT : Iter prog w A s xv I h₂ xs n P St) (hsz : n ≤ 1000)
    (hax : ∀ p ∈ xs, h₀.get? p.1 = some p.2 ∨ p ∈ news) (G : Nat → List Value → Led → Prop) (hG : G 0 [] []) (turn : GTurn prog w A env scope cl x ifs elt h₀ s news n P G)
    (done : ∀ D h' tk c acc imm, Fr h₀ L h' (match y with | none => m | some y => fun z => if z = y then some (.ref D) else m z) → News h₀ L h' ((D, seqObj "list" acc.toArray c) :: (news ++ imm)) → (∀ p ∈ news ++ imm, p.1 ≠ D) → TupAll imm → G n acc imm → Q D { s with heap := h', toks := tk }) :
    CompPack prog w A env scope cl x ifs elt h₀ L m m' y Q xv s := by
  refine ⟨news, I, h₂, xs, n, P, St, fun i acc led => ∃ imm, led = news ++ imm ∧ TupAll imm ∧ G i acc imm, F, N, IT, Nat.le_trans hsz (by decide), ⟨[], by simp, (fun _ h => nomatch h), hG⟩, fun p hp => ?_, ?_, ?_⟩
  · rcases hax p hp with h | h
    · exact .inl (base_keeps F N _ _ h)
    · exact .inr fun i acc led hj => by obtain ⟨imm, e, _⟩ := hj; rw [e]; exact List.mem_append_left _ h
  · rintro i v acc led own h tk m₁ C hi hP ⟨imm, rfl, him, hg⟩ hoff F' N'
    have fin : ∀ (g : List Value) (s₄ : Shared), GEnd (hideAll s.heap (news.map (·.1))) C news imm own s (G (i + 1) g) s₄ → CEnd (hideAll s.heap (news.map (·.1))) C (fun l => ∃ imm, l = news ++ imm ∧ TupAll imm ∧ G (i + 1) g imm) (news ++ imm) own s s₄ := by
      rintro g s₄ ⟨h', tk', m', new, rfl, F5, N5, hnew, hg⟩
      refine ⟨h', tk', m', news ++ (new ++ imm), rfl, F5, by simpa only [List.append_assoc] using N5, fun p hp => ?_, new ++ imm, rfl, fun p hp => ?_, hg⟩
      · rcases List.mem_append.mp hp with h | h
        · exact .inl (List.mem_map_of_mem (List.mem_append_left _ h))
        · rcases List.mem_append.mp h with h | h
          · exact .inr (hnew p h)
          · exact .inl (List.mem_map_of_mem (List.mem_append_right _ h))
      · rcases List.mem_append.mp hp with h | h
        · exact hnew p h
        · exact him p h
    refine wpAny_mono (turn _ (base_keeps F N) i v acc imm own h tk m₁ C hi hP hg F' (by simpa only [List.append_assoc] using N')) (fun ok s₃ h₃ => ?_) fun _ _ f => f
    cases ok with
    | false => exact fin _ _ h₃
    | true => exact wpAny_mono h₃ (fun y s₄ h₄ => fin _ _ h₄) fun _ _ f => f
  · rintro D h' tk c acc led F' N' hd ⟨imm, rfl, him, hg⟩
    exact done D h' tk c acc imm F' N' hd him hg
theorem grow_list {r : Addr} {vs : List Value} {c₀ : Nat} (hh : A.handled = none) (F : Fr h₀ L s.heap m) (N : News h₀ L s.heap news) (hm : (r, seqObj "list" vs.toArray c₀) ∈ news) (hsz : vs.length ≤ 1000)
    (G : Nat → List Value → Led → Prop) (hG : G 0 [] []) (turn : GTurn prog w A env scope cl x ifs elt h₀ s news vs.length (fun i v => vs[i]? = some v) G)
    (done : ∀ D h' tk c acc imm, Fr h₀ L h' (match y with | none => m | some y => fun z => if z = y then some (.ref D) else m z) → News h₀ L h' ((D, seqObj "list" acc.toArray c) :: (news ++ imm)) → (∀ p ∈ news ++ imm, p.1 ≠ D) → TupAll imm → G vs.length acc imm → Q D { s with heap := h', toks := tk }) :
    CompPack prog w A env scope cl x ifs elt h₀ L m m' y Q (.ref r) s := by
  obtain ⟨I, h₂, o, St, eo, IT⟩ := iter_list (prog := prog) (w := w) hh (News.isList N hm)
  rw [N.get hm] at eo
  cases eo
  have e : vs.toArray.size = vs.length := by simp
  rw [e] at IT
  refine pack_grow F N IT hsz (fun p hp => .inr (by rw [List.mem_singleton.mp hp]; exact hm)) G hG (fun base kb i v acc imm own h tk m₁ C hi hP => ?_) done
  exact turn base kb i v acc imm own h tk m₁ C hi (by simpa using hP)
theorem grow_tup {r : Addr} {vs : List Value} (hh : A.handled = none) (F : Fr h₀ L s.heap m) (N : News h₀ L s.heap news) (hm : IsTup h₀ r vs.toArray) (hsz : vs.length ≤ 1000)
    (G : Nat → List Value → Led → Prop) (hG : G 0 [] []) (turn : GTurn prog w A env scope cl x ifs elt h₀ s news vs.length (fun i v => vs[i]? = some v) G)
    (done : ∀ D h' tk c acc imm, Fr h₀ L h' (match y with | none => m | some y => fun z => if z = y then some (.ref D) else m z) → News h₀ L h' ((D, seqObj "list" acc.toArray c) :: (news ++ imm)) → (∀ p ∈ news ++ imm, p.1 ≠ D) → TupAll imm → G vs.length acc imm → Q D { s with heap := h', toks := tk }) :
    CompPack prog w A env scope cl x ifs elt h₀ L m m' y Q (.ref r) s := by
  obtain ⟨I, h₂, o, St, eo, IT⟩ := iter_tuple (prog := prog) (w := w) hh (hm.keeps F.keep)
  obtain ⟨o', ho', _⟩ := hm
  rw [F.keep _ _ ho'] at eo
  cases eo
  have e : vs.toArray.size = vs.length := by simp
  rw [e] at IT
  refine pack_grow F N IT hsz (fun p hp => .inl (by rw [List.mem_singleton.mp hp]; exact ho')) G hG (fun base kb i v acc imm own h tk m₁ C hi hP => ?_) done
  exact turn base kb i v acc imm own h tk m₁ C hi (by simpa using hP)
end
section
variable {prog : Program} {w : World} {A : Around} {E : Value → Shared → Prop} {env : Env} {s : Shared} {h₀ : Heap} {L : Addr} {m m' : Str → Option Value} {news : Led}
  {scope : Scope} {cl : List (Str × Addr)} {x : Str} {ifs : List PySem.Expr} {elt : PySem.Expr} {y : Option Str} {Q : Addr → Shared → Prop}
theorem pack_tupN {r : Addr} {vs : List Value} {c₀ : Nat} (hh : A.handled = none) (F : Fr h₀ L s.heap m) (N : News h₀ L s.heap news) (hm : (r, seqObj "tuple" vs.toArray c₀) ∈ news) (hsz : vs.length ≤ 1000)
    (G : Nat → List Value → Prop) (hG : G 0 []) (turn : PTurn prog w A env scope cl x ifs elt h₀ s news vs.length (fun i v => vs[i]? = some v) G)
    (done : ∀ D h' tk c acc, Fr h₀ L h' (match y with | none => m | some y => fun z => if z = y then some (.ref D) else m z) → News h₀ L h' ((D, seqObj "list" acc.toArray c) :: news) → (∀ p ∈ news, p.1 ≠ D) → G vs.length acc → Q D { s with heap := h', toks := tk }) :
    CompPack prog w A env scope cl x ifs elt h₀ L m m' y Q (.ref r) s := by
  obtain ⟨I, h₂, o, St, eo, IT⟩ := iter_tuple (prog := prog) (w := w) hh (News.isTup N hm)
  rw [N.get hm] at eo
  cases eo
  have e : vs.toArray.size = vs.length := by simp
  rw [e] at IT
  refine pack_pure F N IT hsz (fun p hp => .inr (by rw [List.mem_singleton.mp hp]; exact hm)) G hG (fun base kb i v acc own h tk m₁ C hi hP => ?_) done
  exact turn base kb i v acc own h tk m₁ C hi (by simpa using hP)
theorem sliceT {value slice : PySem.Expr} {t : Addr} {items : List Value} {a : Nat} {u : Tok} {Q : Value → Shared → Prop}
    (F : Fr h₀ L s.heap m) (N : News h₀ L s.heap news) (ht : IsTup h₀ t items.toArray) (h1 : 1 ≤ a) (ha : a ≤ items.length) (hz : items.length ≤ 1000)
    (h : ∀ h' r, Fr h₀ L h' m → News h₀ L h' ((r, seqObj "tuple" (items.drop a).toArray 0) :: news) → (∀ p ∈ news, p.1 < r) → Q (.ref r) { s with heap := h' })
    (hs : subscripted slice false (.ref t) (.ref s.heap.objs.size) = operate [.ref s.heap.objs.size, .ref t] (getItem (.ref t) (.ref s.heap.objs.size)) := by with_unfolding_all rfl)
    (hg : ∀ r, letTemporaryGo value (.ref t) r = pure () := by intro _; with_unfolding_all rfl) :
    wpAny (model prog w) A (subscriptTail value slice (.ref t) (.ref s.heap.objs.size)) Q E { s with heap := s.heap.push { cls := .type "slice", data := .fields #[.int a u, .none, .none] } } :=
  slice_tuple_from F N (ht.keeps F.keep) h1 (by simpa using ha) (fun h' F' N' => h h' _ F' (by simpa using N') fun p hp => Nat.lt_succ_of_lt (Heap.lt_size (N p hp).1)) hs hg (by simp only [List.size_toArray]; exact Nat.le_trans hz (by decide))
end
/-- refs to pairs of ints -/
inductive PairsIn (imm : Led) : List Value → List (Int × Int) → Prop
  | nil : PairsIn imm [] []
  | cons {a : Addr} {x y : Int} {t1 t2 : Tok} {c : Nat} {vs : List Value} {ps : List (Int × Int)} : (a, seqObj "tuple" (List.toArray [.int x t1, .int y t2]) c) ∈ imm → PairsIn imm vs ps → PairsIn imm (.ref a :: vs) ((x, y) :: ps)
theorem PairsIn.mono {imm imm' : Led} (h : ∀ p ∈ imm, p ∈ imm') {vs : List Value} {ps : List (Int × Int)} (x : PairsIn imm vs ps) : PairsIn imm' vs ps := by
  induction x with
  | nil => exact .nil
  | cons a _ ih => exact .cons (h _ a) ih
theorem PairsIn.append {imm : Led} {vs us : List Value} {ps qs : List (Int × Int)} (x : PairsIn imm vs ps) (y : PairsIn imm us qs) : PairsIn imm (vs ++ us) (ps ++ qs) := by
  induction x with
  | nil => exact y
  | cons a _ ih => exact .cons a ih
theorem PairsIn.length {imm : Led} {vs : List Value} {ps : List (Int × Int)} (x : PairsIn imm vs ps) : vs.length = ps.length := by
  induction x with
  | nil => rfl
  | cons a _ ih => simp [ih]
/-- news of a callee -/
noncomputable def NewAt (h h' : Heap) (l : Led) : Prop := ∀ p ∈ l, h'.get? p.1 = some p.2 ∧ h.get? p.1 = none
theorem News.newAt {h₀ h : Heap} {L : Addr} {l : Led} (N : News h₀ L h l) : NewAt h₀ h l := fun p hp => ⟨(N p hp).1, (N p hp).2.2⟩
theorem News.ext_list {s : Shared} {h₀ : Heap} {L : Addr} {m : Str → Option Value} {news l : Led} {h' : Heap} (F : Fr h₀ L s.heap m) (N : News h₀ L s.heap news) (k : Ext s.heap h') (hn : NewAt s.heap h' l) : News h₀ L h' (l ++ news) := by
  intro p hp
  rcases List.mem_append.mp hp with hp | hp
  · exact News.ext_cons F N k (hn p hp).1 (hn p hp).2 p (.head _)
  · exact ⟨k _ _ (N p hp).1, (N p hp).2⟩
theorem waysEnd1 {h₀ h' : Heap} {L D : Addr} {p0 q : Addr × Obj} {acc : List Value} {c : Nat} {rest imm : Led} (N : News h₀ L h' (p0 :: q :: (D, seqObj "list" (acc.toArray.push (.ref p0.1)) c) :: rest)) (hi : ∀ p ∈ imm, p ∈ rest) :
    NewAt h₀ h' ((D, seqObj "list" (acc ++ [Value.ref p0.1]).toArray c) :: p0 :: imm) := by
  intro x hx
  refine News.newAt N x ?_
  rcases List.mem_cons.mp hx with rfl | hx
  · simp
  · rcases List.mem_cons.mp hx with rfl | hx
    · exact .head _
    · exact .tail _ (.tail _ (.tail _ (hi x hx)))
noncomputable def AllNe (d : Nat) : Led → Prop
  | [] => True
  | p :: r => @Ne Nat p.1 d ∧ AllNe d r
theorem allNe_of {d : Addr} : ∀ {l : Led}, (∀ p ∈ l, p.1 ≠ d) → AllNe d l
  | [], _ => trivial
  | p :: _, h => ⟨h p (.head _), allNe_of fun q hq => h q (.tail _ hq)⟩
theorem of_allLt {d : Addr} {l : Led} (h : AllLt d l) : ∀ p ∈ l, p.1 ≠ d := by
  induction l with
  | nil => intro p hp; cases hp
  | cons q l ih =>
    intro p hp
    rcases List.mem_cons.mp hp with rfl | hp
    · exact Nat.ne_of_lt h.1
    · exact ih h.2 p hp
end Mine

end

section
open PySem PySem.W PyProof.Rows
set_option autoImplicit false
set_option Elab.async false
set_option maxRecDepth 100000
namespace Mine
noncomputable abbrev PH := Int × Int
noncomputable def okAt (op : Op) (h : Int) : Prop := 0 ≤ behind op h ∧ ¬ (isDeed op = true ∧ h > 0)
noncomputable def starts (begins : List Int) : List PH := (begins ++ [0]).map fun b => (b, 0)
theorem nodup_lt_len : ∀ (n : Nat) (l : List Nat), l.Nodup → (∀ x ∈ l, x < n) → l.length ≤ n
  | 0, l, _, h => by
    cases l with
    | nil => exact Nat.le_refl _
    | cons x l => exact absurd (h x (.head _)) (Nat.not_lt_zero _)
  | n + 1, l, hn, h => by
    have h1 := nodup_lt_len n (l.erase n) (hn.erase _) (fun x hx => by
      have := (hn.mem_erase_iff).mp hx
      have := h x this.2
      (first | lia | omega))
    have h2 := List.length_erase (a := n) (l := l)
    split at h2 <;> (first | lia | omega)
/-- heights for all places on the ways, one for each place -/
structure Clo (ops : List Op) (begins : List Int) (K : Int → Int → Prop) : Prop where
  one : ∀ p h h', K p h → K p h' → h = h'
  start : ∀ x ∈ starts begins, K x.1 x.2
  inn : ∀ p h, K p h → p < ops.length
  ok : ∀ p h op, K p h → ops[p.toNat]? = some op → okAt op h
  next : ∀ p h op, K p h → ops[p.toNat]? = some op → ∀ x ∈ ways op p (behind op h), K x.1 x.2
structure Inv (ops : List Op) (begins : List Int) (kn line : List PH) (clean : Prop) : Prop where
  places : ∀ x ∈ line, 0 ≤ x.1 ∧ x.1 ≤ ops.length ∧ 0 ≤ x.2
  kplaces : ∀ x ∈ kn, 0 ≤ x.1 ∧ x.1 < ops.length
  kone : (kn.map (·.1)).Nodup
  sound : ∀ K, Clo ops begins K → (∀ x ∈ kn, K x.1 x.2) ∧ (∀ x ∈ line, K x.1 x.2) ∧ clean
  comp : clean → (∀ x ∈ starts begins, x ∈ kn ∨ x ∈ line) ∧ ∀ x ∈ kn, ∀ op, ops[x.1.toNat]? = some op → okAt op x.2 ∧ ∀ y ∈ ways op x.1 (behind op x.2), y ∈ kn ∨ y ∈ line
section
variable {ops : List Op} {begins : List Int} {kn l l' : List PH} {c : Prop} {x : PH}
theorem inv_start (hb : ∀ b ∈ begins, 0 ≤ b ∧ b ≤ ops.length) : Inv ops begins [] (starts begins) True where
  places := by
    intro x hx
    obtain ⟨b, hb', rfl⟩ := List.mem_map.mp hx
    rcases List.mem_append.mp hb' with h | h
    · have := hb b h; exact ⟨this.1, this.2, Int.le_refl _⟩
    · rw [List.mem_singleton.mp h]; exact ⟨Int.le_refl _, Int.natCast_nonneg _, Int.le_refl _⟩
  kplaces := fun _ h => nomatch h
  kone := .nil
  sound := fun K hK => ⟨(fun _ h => nomatch h), hK.start, trivial⟩
  comp := fun _ => ⟨fun x hx => .inr hx, fun _ h => nomatch h⟩
theorem inv_order (I : Inv ops begins kn l c) (h : ∀ y, y ∈ l ↔ y ∈ l') : Inv ops begins kn l' c where
  places := fun y hy => I.places y ((h y).mpr hy)
  kplaces := I.kplaces
  kone := I.kone
  sound := fun K hK => ⟨(I.sound K hK).1, fun y hy => (I.sound K hK).2.1 y ((h y).mpr hy), (I.sound K hK).2.2⟩
  comp := fun hc => ⟨fun y hy => ((I.comp hc).1 y hy).imp id (h y).mp, fun y hy op ho => ⟨((I.comp hc).2 y hy op ho).1, fun z hz => (((I.comp hc).2 y hy op ho).2 z hz).imp id (h z).mp⟩⟩
theorem inv_behind (I : Inv ops begins kn (x :: l) c) (h : (ops.length : Int) ≤ x.1) : Inv ops begins kn l False where
  places := fun y hy => I.places y (.tail _ hy)
  kplaces := I.kplaces
  kone := I.kone
  sound := fun K hK => by
    have := hK.inn _ _ ((I.sound K hK).2.1 x (.head _))
    exact absurd h (by (first | lia | omega))
  comp := False.elim
theorem inv_same (I : Inv ops begins kn (x :: l) c) (h : x ∈ kn) : Inv ops begins kn l c where
  places := fun y hy => I.places y (.tail _ hy)
  kplaces := I.kplaces
  kone := I.kone
  sound := fun K hK => ⟨(I.sound K hK).1, fun y hy => (I.sound K hK).2.1 y (.tail _ hy), (I.sound K hK).2.2⟩
  comp := fun hc => by
    have swap : ∀ y, y ∈ kn ∨ y ∈ x :: l → y ∈ kn ∨ y ∈ l := fun y hy => by
      rcases hy with hy | hy
      · exact .inl hy
      · rcases List.mem_cons.mp hy with rfl | hy
        · exact .inl h
        · exact .inr hy
    exact ⟨fun y hy => swap y ((I.comp hc).1 y hy), fun y hy op ho => ⟨((I.comp hc).2 y hy op ho).1, fun z hz => swap z (((I.comp hc).2 y hy op ho).2 z hz)⟩⟩
theorem no_clo_other (I : Inv ops begins kn (x :: l) c) {h' : Int} (h : (x.1, h') ∈ kn) (hne : h' ≠ x.2) (K : Int → Int → Prop) : ¬ Clo ops begins K := fun hK =>
  hne (hK.one _ _ _ ((I.sound K hK).1 _ h) ((I.sound K hK).2.1 x (.head _)))
theorem no_clo_bad (I : Inv ops begins kn (x :: l) c) {op : Op} (ho : ops[x.1.toNat]? = some op) (hb : ¬ okAt op x.2) (K : Int → Int → Prop) : ¬ Clo ops begins K := fun hK =>
  hb (hK.ok _ _ _ ((I.sound K hK).2.1 x (.head _)) ho)
theorem no_clo_behind (I : Inv ops begins kn (x :: l) c) (h : (ops.length : Int) ≤ x.1) (K : Int → Int → Prop) : ¬ Clo ops begins K := fun hK => by
  have := hK.inn _ _ ((I.sound K hK).2.1 x (.head _))
  exact absurd h (by (first | lia | omega))
theorem inv_other (I : Inv ops begins kn (x :: l) c) {h' : Int} (h : (x.1, h') ∈ kn) (hne : h' ≠ x.2) : Inv ops begins kn l False where
  places := fun y hy => I.places y (.tail _ hy)
  kplaces := I.kplaces
  kone := I.kone
  sound := fun K hK => absurd hK (no_clo_other I h hne K)
  comp := False.elim
theorem inv_bad (I : Inv ops begins kn (x :: l) c) {op : Op} (hn : x.1 ∉ kn.map (·.1)) (hlt : x.1 < ops.length) (ho : ops[x.1.toNat]? = some op) (hb : ¬ okAt op x.2) : Inv ops begins (kn ++ [x]) l False where
  places := fun y hy => I.places y (.tail _ hy)
  kplaces := fun y hy => by
    rcases List.mem_append.mp hy with h | h
    · exact I.kplaces y h
    · rw [List.mem_singleton.mp h]; exact ⟨(I.places x (.head _)).1, hlt⟩
  kone := by
    rw [List.map_append]
    exact List.nodup_append.mpr ⟨I.kone, by simp, fun a ha b hb' e => by
      simp only [List.map_cons, List.map_nil, List.mem_singleton] at hb'
      rw [e, hb'] at ha; exact hn ha⟩
  sound := fun K hK => absurd hK (no_clo_bad I ho hb K)
  comp := False.elim
theorem ways_places {op : Op} {p h : Int} (hp : 0 ≤ p ∧ p < ops.length) (hh : 0 ≤ h) (hl : ∀ y ∈ labels op, 0 ≤ y ∧ y < ops.length) : ∀ y ∈ ways op p h, 0 ≤ y.1 ∧ y.1 ≤ ops.length ∧ 0 ≤ y.2 := by
  intro y hy
  unfold ways at hy
  rcases List.mem_append.mp hy with hy | hy
  · obtain ⟨z, hz, rfl⟩ := List.mem_map.mp hy
    have := hl z hz
    refine ⟨this.1, Int.le_of_lt this.2, ?_⟩
    show 0 ≤ (if isGive op = true then (0 : Int) else h)
    split <;> (first | lia | omega)
  · cases he : isEnd op <;> rw [he] at hy <;> simp at hy
    subst hy
    exact ⟨by show 0 ≤ p + 1; (first | lia | omega), by show p + 1 ≤ _; (first | lia | omega), hh⟩
theorem inv_good (I : Inv ops begins kn (x :: l) c) {op : Op} (hn : x.1 ∉ kn.map (·.1)) (hlt : x.1 < ops.length) (ho : ops[x.1.toNat]? = some op) (hb : okAt op x.2) (hl : ∀ y ∈ labels op, 0 ≤ y ∧ y < ops.length) :
    Inv ops begins (kn ++ [x]) (l ++ ways op x.1 (behind op x.2)) c where
  places := fun y hy => by
    rcases List.mem_append.mp hy with h | h
    · exact I.places y (.tail _ h)
    · exact ways_places ⟨(I.places x (.head _)).1, hlt⟩ hb.1 hl y h
  kplaces := fun y hy => by
    rcases List.mem_append.mp hy with h | h
    · exact I.kplaces y h
    · rw [List.mem_singleton.mp h]; exact ⟨(I.places x (.head _)).1, hlt⟩
  kone := by
    rw [List.map_append]
    exact List.nodup_append.mpr ⟨I.kone, by simp, fun a ha b hb' e => by
      simp only [List.map_cons, List.map_nil, List.mem_singleton] at hb'
      rw [e, hb'] at ha; exact hn ha⟩
  sound := fun K hK => by
    obtain ⟨h1, h2, h3⟩ := I.sound K hK
    refine ⟨fun y hy => ?_, fun y hy => ?_, h3⟩
    · rcases List.mem_append.mp hy with h | h
      · exact h1 y h
      · rw [List.mem_singleton.mp h]; exact h2 x (.head _)
    · rcases List.mem_append.mp hy with h | h
      · exact h2 y (.tail _ h)
      · exact hK.next _ _ _ (h2 x (.head _)) ho y h
  comp := fun hc => by
    obtain ⟨h1, h2⟩ := I.comp hc
    have swap : ∀ y, y ∈ kn ∨ y ∈ x :: l → y ∈ kn ++ [x] ∨ y ∈ l ++ ways op x.1 (behind op x.2) := fun y hy => by
      rcases hy with hy | hy
      · exact .inl (List.mem_append_left _ hy)
      · rcases List.mem_cons.mp hy with rfl | hy
        · exact .inl (List.mem_append_right _ (.head _))
        · exact .inr (List.mem_append_left _ hy)
    refine ⟨fun y hy => swap y (h1 y hy), fun y hy op' ho' => ?_⟩
    rcases List.mem_append.mp hy with h | h
    · exact ⟨(h2 y h op' ho').1, fun z hz => swap z ((h2 y h op' ho').2 z hz)⟩
    · rw [List.mem_singleton.mp h] at ho' ⊢
      rw [ho] at ho'
      cases ho'
      exact ⟨hb, fun z hz => .inr (List.mem_append_right _ hz)⟩
theorem inv_end (I : Inv ops begins kn [] c) : c ↔ ∃ K, Clo ops begins K := by
  constructor
  · intro hc
    obtain ⟨h1, h2⟩ := I.comp hc
    refine ⟨fun p h => (p, h) ∈ kn, ?_, fun x hx => ?_, fun p h hk => (I.kplaces _ hk).2, fun p h op hk ho => (h2 _ hk op ho).1, fun p h op hk ho x hx => ?_⟩
    · intro p h h' hk hk'
      have : ∀ (l : List PH), (l.map (·.1)).Nodup → (p, h) ∈ l → (p, h') ∈ l → h = h' := by
        intro l
        induction l with
        | nil => intro _ h; cases h
        | cons y l ih =>
          intro hn a b
          rw [List.map_cons, List.nodup_cons] at hn
          rcases List.mem_cons.mp a with a | a <;> rcases List.mem_cons.mp b with b | b
          · rw [← a] at b; exact (Prod.ext_iff.mp b).2.symm
          · exact absurd (List.mem_map.mpr ⟨_, b, by rw [← a]⟩) hn.1
          · exact absurd (List.mem_map.mpr ⟨_, a, by rw [← b]⟩) hn.1
          · exact ih hn.2 a b
      exact this kn I.kone hk hk'
    · exact (h1 x hx).elim id fun h => nomatch h
    · exact ((h2 _ hk op ho).2 x hx).elim id fun h => nomatch h
  · rintro ⟨K, hK⟩
    exact (I.sound K hK).2.2
theorem known_le (I : Inv ops begins kn l c) : kn.length ≤ ops.length := by
  have h2 : ((kn.map (·.1)).map Int.toNat).Nodup := by
    have hp := I.kplaces
    have hk := I.kone
    clear I
    induction kn with
    | nil => exact .nil
    | cons y l ih =>
      rw [List.map_cons, List.map_cons, List.nodup_cons]
      rw [List.map_cons, List.nodup_cons] at hk
      refine ⟨fun hm => ?_, ih (fun z hz => hp z (.tail _ hz)) hk.2⟩
      obtain ⟨z, hz, e⟩ := List.mem_map.mp hm
      obtain ⟨q, hq, rfl⟩ := List.mem_map.mp hz
      have h3 := hp q (.tail _ hq)
      have h4 := hp y (.head _)
      have : q.1 = y.1 := by (first | lia | omega)
      exact hk.1 (List.mem_map.mpr ⟨q, hq, this⟩)
  have h3 : ∀ z ∈ (kn.map (·.1)).map Int.toNat, z ∈ List.range ops.length := by
    intro z hz
    obtain ⟨y, hy, rfl⟩ := List.mem_map.mp hz
    obtain ⟨q, hq, rfl⟩ := List.mem_map.mp hy
    have := I.kplaces q hq
    rw [List.mem_range]; (first | lia | omega)
  have h5 := nodup_lt_len ops.length _ h2 (fun z hz => List.mem_range.mp (h3 z hz))
  simpa using h5
end
end Mine

end

section
open PySem PySem.W PyProof.Rows PySem.Calls
set_option autoImplicit false
set_option Elab.async false
set_option maxRecDepth 100000
namespace Mine
inductive KV : List (Int × Value) → List PH → Prop
  | nil : KV [] []
  | cons {k h : Int} {t : Tok} {kvs : List (Int × Value)} {kn : List PH} : KV kvs kn → KV ((k, .int h t) :: kvs) ((k, h) :: kn)
theorem KV.snoc {kvs : List (Int × Value)} {kn : List PH} (x : KV kvs kn) (k h : Int) (t : Tok) : KV (kvs ++ [(k, .int h t)]) (kn ++ [(k, h)]) := by
  induction x with
  | nil => exact .cons .nil
  | cons _ ih => exact .cons ih
theorem KV.length {kvs : List (Int × Value)} {kn : List PH} (x : KV kvs kn) : kvs.length = kn.length := by
  induction x with
  | nil => rfl
  | cons _ ih => simp [ih]
theorem KV.none {kvs : List (Int × Value)} {kn : List PH} (x : KV kvs kn) {k : Int} (h : k ∉ kn.map (·.1)) : valueAt kvs k = Option.none := by
  induction x with
  | nil => rfl
  | cons y ih =>
    rename_i k' h' t kvs kn
    simp only [List.map_cons, List.mem_cons, not_or] at h
    unfold valueAt
    rw [List.find?_cons]
    have : decide (k' = k) = false := decide_eq_false fun e => h.1 e.symm
    simp only [this]
    exact ih h.2
theorem KV.some {kvs : List (Int × Value)} {kn : List PH} (x : KV kvs kn) {k h : Int} (hn : (kn.map (·.1)).Nodup) (hm : (k, h) ∈ kn) : ∃ t, valueAt kvs k = Option.some (.int h t) := by
  induction x with
  | nil => cases hm
  | cons y ih =>
    rename_i k' h' t kvs kn
    rw [List.map_cons, List.nodup_cons] at hn
    unfold valueAt
    rw [List.find?_cons]
    rcases List.mem_cons.mp hm with e | hm
    · cases e
      exact ⟨t, by simp⟩
    · have : decide (k' = k) = false := decide_eq_false fun e => hn.1 (List.mem_map.mpr ⟨_, hm, e.symm⟩)
      simp only [this]
      exact ih hn.2 hm
theorem KV.stored {kvs : List (Int × Value)} {kn : List PH} (x : KV kvs kn) {k : Int} (h : k ∉ kn.map (·.1)) (v : Value) : stored kvs k v = kvs ++ [(k, v)] := by
  unfold PySem.stored
  rw [if_neg]
  intro q
  obtain ⟨y, hy, e⟩ := List.any_eq_true.mp q
  have e' := of_decide_eq_true e
  apply h
  clear q e h
  induction x with
  | nil => cases hy
  | cons z ih =>
    rcases List.mem_cons.mp hy with rfl | hy
    · exact List.mem_map.mpr ⟨_, .head _, e'⟩
    · exact .tail _ (ih hy)
theorem apart_tup {h₀ h : Heap} {L d : Addr} {o : Obj} {led imm : Led} (N : News h₀ L h led) (hm : (d, o) ∈ led) (hs : ∀ p ∈ imm, p ∈ led) (ht : TupAll imm) (hc : o.cls ≠ .type "tuple") : ∀ p ∈ imm, p.1 ≠ d := fun p hp e => by
  have h1 := (N p (hs p hp)).1
  rw [e, (N _ hm).1] at h1
  have := ht p hp
  rw [← Option.some.inj h1] at this
  exact hc this
theorem dict_cls {prog : Program} {w : World} {o : Obj} {kvs : List (Int × Value)} (hd : o.IsDictOf (intKind prog w) kvs) : o.cls ≠ .type "tuple" := by
  obtain ⟨es, ep, hx, _⟩ := hd
  intro e
  have h1 : o.cls = .type "dict" := hx.1
  rw [h1] at e
  injection e with e
  exact absurd e (by decide)
theorem list_cls {xs : Array Value} {n : Nat} : (seqObj "list" xs n).cls ≠ .type "tuple" := fun e => by
  injection e with e
  exact absurd e (by decide)
theorem PairsIn.snoc_inv {imm : Led} {vs : List Value} {l : List PH} {x : PH} (h : PairsIn imm vs (l ++ [x])) : ∃ vs0 a t1 t2 c, vs = vs0 ++ [.ref a] ∧ PairsIn imm vs0 l ∧ (a, seqObj "tuple" (List.toArray [.int x.1 t1, .int x.2 t2]) c) ∈ imm := by
  induction l generalizing vs with
  | nil =>
    cases h with
    | cons m r => cases r; exact ⟨[], _, _, _, _, rfl, .nil, m⟩
  | cons y l ih =>
    cases h with
    | cons m r =>
      obtain ⟨vs0, a, t1, t2, c, rfl, h1, h2⟩ := ih r
      exact ⟨_ :: vs0, a, t1, t2, c, rfl, .cons m h1, h2⟩
noncomputable def FaultsIn (imm : Led) (xs : List (FK × Addr)) : Prop := ∀ q ∈ xs, ∃ t1 t2 c, (q.2, seqObj "tuple" (List.toArray [.int q.1.1 t1, .str q.1.2 t2]) c) ∈ imm
theorem FaultsIn.mono {imm imm' : Led} {xs : List (FK × Addr)} (h : ∀ p ∈ imm, p ∈ imm') (x : FaultsIn imm xs) : FaultsIn imm' xs := fun q hq => let ⟨a, b, c, e⟩ := x q hq; ⟨a, b, c, h _ e⟩
noncomputable def mDfs (c kd fl ln : Addr) (u : Str → Option Value) : Str → Option Value := fun y =>
  if y = Str.ofString "line" then some (.ref ln) else if y = Str.ofString "faults" then some (.ref fl) else if y = Str.ofString "known" then some (.ref kd) else if y = Str.ofString "code" then some (.ref c) else u y
theorem mDfs_of {c kd fl ln : Addr} {m : Str → Option Value} (h1 : m (Str.ofString "line") = some (.ref ln)) (h2 : m (Str.ofString "faults") = some (.ref fl)) (h3 : m (Str.ofString "known") = some (.ref kd)) (h4 : m (Str.ofString "code") = some (.ref c)) : m = mDfs c kd fl ln m := by
  funext y
  unfold mDfs
  split
  · rename_i e; rw [e, h1]
  · split
    · rename_i e; rw [e, h2]
    · split
      · rename_i e; rw [e, h3]
      · split
        · rename_i e; rw [e, h4]
        · rfl
noncomputable def DfsJ (prog : Program) (w : World) (ops : List Op) (begins : List Int) (c kd fl ln : Addr) (k : Nat) (m : Str → Option Value) (led : Led) : Prop :=
  ∃ u okn vs cl cf kvs xs imm kn lp, m = mDfs c kd fl ln u ∧ led = (kd, okn) :: (fl, seqObj "list" (refsP xs).toArray cf) :: (ln, seqObj "list" vs.toArray cl) :: imm ∧ TupAll imm ∧ okn.IsDictOf (intKind prog w) kvs ∧ KV kvs kn ∧ PairsIn imm vs lp ∧ FaultsIn imm xs ∧
    Inv ops begins kn lp (xs = []) ∧ (∀ q ∈ xs, 0 ≤ q.1.1 ∧ q.1.1 ≤ ops.length) ∧ xs.length + lp.length + 3 * (ops.length - kn.length) ≤ 3 * ops.length + 3 ∧ k = lp.length + 4 * (ops.length - kn.length)
section
variable {prog : Program} {w : World} {A : Around} {E : Value → Shared → Prop} {s : Shared} {h₀ : Heap} {L d b D : Addr} {m : Str → Option Value} {news : Led} {g : Obj → Led} {o : Obj} {kvs : List (Int × Value)}
theorem inD {k : Int} {t : Tok} {Q : Value → Shared → Prop} (N : News h₀ L s.heap news) (hm : (d, o) ∈ news) (hd : o.IsDictOf (intKind prog w) kvs) (lo : (d == sysModules) = false) (h : Q (.bool (valueAt kvs k).isSome) { s with toks := s.toks + 1 }) :
    wpAny (model prog w) A (compareOp .In (.int k t) (.ref d)) Q E s :=
  wpAny_in_of (intKind_is prog w k t) lo (Heap.dictOf_iff.mpr ⟨o, N.get hm, hd⟩).mapOf h
theorem notInD {k : Int} {t : Tok} {Q : Value → Shared → Prop} (N : News h₀ L s.heap news) (hm : (d, o) ∈ news) (hd : o.IsDictOf (intKind prog w) kvs) (lo : (d == sysModules) = false) (h : Q (.bool (!(valueAt kvs k).isSome)) { s with toks := s.toks + 1 }) :
    wpAny (model prog w) A (compareOp .NotIn (.int k t) (.ref d)) Q E s :=
  wpAny_notIn_of (intKind_is prog w k t) lo (Heap.dictOf_iff.mpr ⟨o, N.get hm, hd⟩).mapOf h
theorem itemD {value slice : PySem.Expr} {k : Int} {t : Tok} {v : Value} {Q : Value → Shared → Prop} (N : News h₀ L s.heap news) (hm : (d, o) ∈ news) (hd : o.IsDictOf (intKind prog w) kvs) (hv : valueAt kvs k = some v) (h : Q v { s with toks := s.toks + 1 })
    (hs : subscripted slice false (.ref d) (.int k t) = operate [.ref d, .int k t] (getItem (.ref d) (.int k t)) := by with_unfolding_all rfl) :
    wpAny (model prog w) A (subscriptTail value slice (.ref d) (.int k t)) Q E s :=
  have hD := Heap.dictOf_iff.mpr ⟨o, N.get hm, hd⟩
  tail_any hD.typeIs slot_dict_getitem.lookup (wpAny_getItem_of (intKind_is prog w k t) hD.mapOf hv h) hs
theorem getD {k : Int} {t : Tok} {v : Value} {Q : Value → Shared → Prop} (N : News h₀ L s.heap news) (hm : (d, o) ∈ news) (hd : o.IsDictOf (intKind prog w) kvs) (lo : (d == sysModules) = false) (h : Q ((valueAt kvs k).getD v) { s with toks := s.toks + 1 }) :
    wpAny (model prog w) A (call (.builtin "dict.get") [.ref d, .int k t, v]) Q E s :=
  have hD := Heap.dictOf_iff.mpr ⟨o, N.get hm, hd⟩
  call_meetsIn PySem.F.slot_dict_get hD.typeIs PySem.F.entry_dict_get (PySem.F.args_dict_get_3 _ _ _) (meets_dict_get_default (intKind prog w) d (intKind_is prog w k t) lo v) ⟨_, hD.mapOf, h⟩
theorem setD {k : Int} {t : Tok} {v : Value} {Q : Unit → Shared → Prop} (F : Fr h₀ L s.heap m) (N : News h₀ L s.heap news) (U : UpdF d o news g) (hd : o.IsDictOf (intKind prog w) kvs) (hz : kvs.length ≤ 1000)
    (h : ∀ h' o', Fr h₀ L h' m → News h₀ L h' (g o') → o'.IsDictOf (intKind prog w) (stored kvs k v) → Q () { s with heap := h', toks := s.toks + 1 }) :
    wpAny (model prog w) A (setItem (.ref d) (.int k t) v) Q E s := by
  obtain ⟨pre, post, rfl, hg, a, c⟩ := U.split
  have hm := N (d, o) (List.mem_append_right _ (.head _))
  refine wpAny_setItem_pairs (hsz := Nat.le_trans hz (by decide)) (intKind_is prog w k t) (Heap.dictOf_iff.mpr ⟨o, hm.1, hd⟩) fun h' hmm hs => ?_
  obtain ⟨o', ho', hd'⟩ := Heap.dictOf_iff.mp hmm
  exact h h' o' (F.change hs hm.2.1 hm.2.2) (hg o' ▸ N.setIn a c hs ho') hd'
theorem extendK {its its2 : List Value} {n n2 : Nat} {Q : Value → Shared → Prop} (F : Fr h₀ L s.heap m) (N : News h₀ L s.heap news) (hb : (b, seqObj "list" its2.toArray n2) ∈ news) (U : UpdF D (seqObj "list" its.toArray n) news g)
    (hz : its.length + its2.length ≤ 1000) (h : ∀ h' c', Fr h₀ L h' m → News h₀ L h' (g (seqObj "list" (its ++ its2).toArray c')) → Q .none { s with heap := h' }) :
    wpAny (model prog w) A (call (.builtin "list.extend") [.ref D, .ref b]) Q E s := by
  obtain ⟨pre, post, rfl, hg, a, c⟩ := U.split
  have z := N (D, seqObj "list" its.toArray n) (List.mem_append.mpr (.inr (.head _)))
  have e1 : its.toArray ++ its2.toArray = (its ++ its2).toArray := by simp
  have hlong : ¬(!its.toArray.isEmpty && Builtin.List.listTooLong (its.toArray.size + its2.toArray.size)) = true := by
    have : Builtin.List.listTooLong (its.toArray.size + its2.toArray.size) = false := by
      unfold Builtin.List.listTooLong
      simp only [List.size_toArray]
      refine decide_eq_false ?_
      have : 1000 ≤ sizeLine := by decide
      (first | lia | omega)
    rw [this]; simp
  have q := PySem.IsL.update z.1 (fun x => x ++ its2.toArray)
  rw [e1] at q
  exact call_meets PySem.F.slot_list_extend ⟨_, z.1, rfl⟩ PySem.F.entry_list_extend (PySem.F.args_list_extend_2 _ _) (PySem.AutoSeq1.list_extend_list_list_0 D its.toArray n b its2.toArray n2 hlong (by simp only [List.size_toArray]; exact Nat.le_trans (by (first | lia | omega)) (show 1000 ≤ sizeLine by decide)) (by simp only [List.size_toArray]; exact Nat.le_trans (by (first | lia | omega)) (show 1000 ≤ sizeLine + 1 by decide)))
    ⟨z.1, (N _ hb).1, h _ _ (F.change (Heap.SameBut.update ..) z.2.1 z.2.2) (hg _ ▸ news_set N a c (Heap.SameBut.update ..) q)⟩
theorem kl_last_snoc (l : List Value) (v : Value) : kl_last (l ++ [v]) = some (l, v) := by
  induction l with
  | nil => rfl
  | cons x l ih =>
    show (match kl_last (l ++ [v]) with | some (p, y) => some (x :: p, y) | none => some ([], x)) = _
    rw [ih]
theorem itemO {value slice : PySem.Expr} {t : Addr} {l : List Value} {k : Int} {u : Tok} {x : Value} {Q : Value → Shared → Prop} (F : Fr h₀ L s.heap m) (ht : IsTup h₀ t l.toArray)
    (hlo : 0 ≤ k) (hx : l[k.toNat]? = some x) (hz : l.length ≤ 1000) (h : Q x s)
    (hs : subscripted slice false (.ref t) (.int k u) = operate [.ref t, .int k u] (getItem (.ref t) (.int k u)) := by with_unfolding_all rfl) :
    wpAny (model prog w) A (subscriptTail value slice (.ref t) (.int k u)) Q E s := by
  have hk : k.toNat < l.length := by
    rcases Nat.lt_or_ge k.toNat l.length with h | h
    · exact h
    · rw [List.getElem?_eq_none h] at hx; cases hx
  have hi : k < l.length := by (first | lia | omega)
  refine item_tupleT (j := k.toNat) (ht.keeps F.keep) (Int.le_trans (by decide) hlo) (by (first | lia | omega)) ?_ hx h hs
  simp only [seqIndex?]
  rw [if_neg (show ¬ k < 0 by (first | lia | omega))]
  have e1 : decide (0 ≤ k) = true := decide_eq_true hlo
  have e2 : decide (k < (l.length : Int)) = true := decide_eq_true hi
  rw [e1, e2]
  rfl
theorem dfs_enter {env : Env} {ops : List Op} {begins : List Int} {c kd fl : Addr} {okd : Obj} {a1 a2 a3 a4 : Addr × Obj} {acc : List Value} {c2 cf : Nat} {imm : Led} {test : PySem.Expr} {body : List Stmt} {pos : Pos} {Q : Flow → Shared → Prop}
    (F : Fr h₀ L s.heap m) (N : News h₀ L s.heap ((D, seqObj "list" acc.toArray c2) :: a1 :: a2 :: a3 :: a4 :: (fl, seqObj "list" (refsP []).toArray cf) :: (kd, okd) :: imm))
    (hm1 : m (Str.ofString "line") = some (.ref D)) (hm2 : m (Str.ofString "faults") = some (.ref fl)) (hm3 : m (Str.ofString "known") = some (.ref kd)) (hm4 : m (Str.ofString "code") = some (.ref c))
    (hd : okd.IsDictOf (intKind prog w) []) (ht : TupAll imm) (hp : PairsIn imm acc ((begins ++ [0]).map (fun l => (l, 0)))) (hb : ∀ y ∈ begins, 0 ≤ y ∧ y < ops.length) (hlen : begins.length ≤ 2) (hz : ops.length ≤ 10)
    (d1 : @Ne Nat fl D) (d2 : @Ne Nat kd D)
    (turnN : ∀ n h tk u okn cl cf kvs xs imm kn, TupAll imm → okn.IsDictOf (intKind prog w) kvs → KV kvs kn → FaultsIn imm xs → Inv ops begins kn [] (xs = []) → (∀ q ∈ xs, 0 ≤ q.1.1 ∧ q.1.1 ≤ ops.length) → xs.length ≤ 3 * ops.length + 3 →
      Fr h₀ L h (mDfs c kd fl D u) → News h₀ L h ((kd, okn) :: (fl, seqObj "list" (refsP xs).toArray cf) :: (D, seqObj "list" ([] : List Value).toArray cl) :: imm) → wpAny (model prog w) A (isTrue test env (eval test env)) (fun b s₂ =>
      if b = true then wpAny (model prog w) A (execs body env) (WPost h₀ L (fun m' l' => ∃ k, k < n ∧ DfsJ prog w ops begins c kd fl D k m' l') s Q) (fun _ _ => False) s₂ else Q .next s₂) (fun _ _ => False) { s with heap := h, toks := tk })
    (turnC : @Ne Nat fl D → @Ne Nat kd D → ∀ h tk u okn vs cl cf kvs xs imm kn lq pl hg ax tx1 tx2 cx, TupAll imm → okn.IsDictOf (intKind prog w) kvs → KV kvs kn → PairsIn imm vs lq → (ax, seqObj "tuple" (List.toArray [.int pl tx1, .int hg tx2]) cx) ∈ imm → FaultsIn imm xs → Inv ops begins kn ((pl, hg) :: lq) (xs = []) → (∀ q ∈ xs, 0 ≤ q.1.1 ∧ q.1.1 ≤ ops.length) → xs.length + (lq.length + 1) + 3 * (ops.length - kn.length) ≤ 3 * ops.length + 3 →
      0 ≤ pl → pl ≤ ops.length → 0 ≤ hg → vs.length = lq.length → (vs ++ [Value.ref ax]).toArray.toList.length ≤ sizeLine → (refsP xs).toArray.size ≤ sizeLine → kvs.length ≤ 1000 → (∀ p ∈ imm, p.1 ≠ kd) → (∀ p ∈ imm, p.1 ≠ fl) → (∀ p ∈ imm, p.1 ≠ D) → (!(vs ++ [Value.ref ax]).isEmpty) = true →
      Fr h₀ L h (mDfs c kd fl D u) → News h₀ L h ((kd, okn) :: (fl, seqObj "list" (refsP xs).toArray cf) :: (D, seqObj "list" (vs ++ [Value.ref ax]).toArray cl) :: imm) → wpAny (model prog w) A (isTrue test env (eval test env)) (fun b s₂ =>
      if b = true then wpAny (model prog w) A (execs body env) (WPost h₀ L (fun m' l' => ∃ k, k < lq.length + 1 + 4 * (ops.length - kn.length) ∧ DfsJ prog w ops begins c kd fl D k m' l') s Q) (fun _ _ => False) s₂ else Q .next s₂) (fun _ _ => False) { s with heap := h, toks := tk }) :
    wpAny (model prog w) A (exec (.While test body [] pos) env) Q E s := by
  refine while_inv (news := (kd, okd) :: (fl, seqObj "list" (refsP []).toArray cf) :: (D, seqObj "list" acc.toArray c2) :: imm) F (fun q hq => N q ?_) (DfsJ prog w ops begins c kd fl D) (((begins ++ [0]).map (fun l => ((l : Int), (0 : Int)))).length + 4 * (ops.length - ([] : List PH).length)) ?_ (fun n m₁ led h tk hJ F6 N6 => by
    obtain ⟨u, okn, vs, cl, cf, kvs, xs, imm6, kn, lp, rfl, rfl, him6, hdk, hkv, hpl, hfa, hinv, hxr, hcnt, rfl⟩ := hJ
    rcases List.eq_nil_or_concat lp with rfl | ⟨lq, ⟨pl, hg⟩, rfl⟩
    · cases hpl
      exact turnN _ h tk u okn cl cf kvs xs imm6 kn him6 hdk hkv hfa hinv hxr (by simp only [List.length_nil] at hcnt; omega) F6 N6
    · rw [List.concat_eq_append] at hpl hinv hcnt
      obtain ⟨vs0, ax, tx1, tx2, cx, rfl, hp0, hax⟩ := hpl.snoc_inv
      simp only [List.concat_eq_append, List.length_append, List.length_singleton] at hcnt ⊢
      have hinv2 : Inv ops begins kn ((pl, hg) :: lq) (xs = []) := inv_order hinv fun y => by simp [or_comm]
      obtain ⟨hpl0, hpln, hhg⟩ := hinv2.places _ (.head _)
      have hlen := hp0.length
      have hkn := known_le hinv2
      have z0 : 1000 ≤ sizeLine := by decide
      have zk := hkv.length
      exact turnC d1 d2 h tk u okn vs0 cl cf kvs xs imm6 kn lq pl hg ax tx1 tx2 cx him6 hdk hkv hp0 hax hfa hinv2 hxr hcnt hpl0 hpln hhg hlen (by simp only [List.length_append, List.length_singleton]; omega) (by simp only [List.size_toArray, refsP, List.length_map]; omega) (by omega)
        (apart_tup N6 (.head _) (fun q hq => .tail _ (.tail _ (.tail _ hq))) him6 (dict_cls hdk)) (apart_tup N6 (.tail _ (.head _)) (fun q hq => .tail _ (.tail _ (.tail _ hq))) him6 list_cls) (apart_tup N6 (.tail _ (.tail _ (.head _))) (fun q hq => .tail _ (.tail _ (.tail _ hq))) him6 list_cls) (by simp) F6 N6)
  · rcases List.mem_cons.mp hq with rfl | hq
    · simp
    · rcases List.mem_cons.mp hq with rfl | hq
      · simp
      · rcases List.mem_cons.mp hq with rfl | hq
        · simp
        · simp [hq]
  · refine ⟨m, okd, acc, c2, cf, [], [], imm, [], _, mDfs_of hm1 hm2 hm3 hm4, rfl, ht, hd, .nil, hp, (fun _ h => nomatch h), ?_, (fun _ h => nomatch h), ?_, rfl⟩
    · have := inv_start (ops := ops) (begins := begins) fun b hb' => ⟨(hb b hb').1, Int.le_of_lt (hb b hb').2⟩
      have e : (([] : List (FK × Addr)) = []) = True := eq_true rfl
      rw [e]; exact this
    · simp only [List.length_map, List.length_append, List.length_singleton, List.length_nil]
      (first | lia | omega)
theorem dfs_end {ops : List Op} {begins : List Int} {c kd fl : Addr} {okn : Obj} {rest imm : Led} {xs : List (FK × Addr)} {vs : List Value} {cf cl n0 tk : Nat} {kn lp : List PH} {h' : Heap}
    (F : Fr h₀ L h' m) (N : News h₀ L h' rest) (hk : (kd, okn) ∈ rest) (hf : (fl, seqObj "list" (refsP xs).toArray cf) ∈ rest) (hl : (D, seqObj "list" vs.toArray cl) ∈ rest) (hi : ∀ p ∈ imm, p ∈ rest)
    (hm1 : m (Str.ofString "line") = some (.ref D)) (hm2 : m (Str.ofString "faults") = some (.ref fl)) (hm3 : m (Str.ofString "known") = some (.ref kd)) (hm4 : m (Str.ofString "code") = some (.ref c))
    (ht : TupAll imm) (hd : okn.IsDictOf (intKind prog w) kvs) (hkv : KV kvs kn) (hp : PairsIn imm vs lp) (hfa : FaultsIn imm xs) (hinv : Inv ops begins kn lp (xs = [])) (hxr : ∀ q ∈ xs, 0 ≤ q.1.1 ∧ q.1.1 ≤ ops.length)
    (hcnt : xs.length + lp.length + 3 * (ops.length - kn.length) ≤ 3 * ops.length + 3) (hlt : lp.length + 4 * (ops.length - kn.length) < n0) :
    WEnd h₀ L (fun m' l' => ∃ k, k < n0 ∧ DfsJ prog w ops begins c kd fl D k m' l') s { s with heap := h', toks := tk } := by
  refine ⟨h', tk, m, (kd, okn) :: (fl, seqObj "list" (refsP xs).toArray cf) :: (D, seqObj "list" vs.toArray cl) :: imm, rfl, F, fun q hq => N q ?_, _, hlt, m, okn, vs, cl, cf, kvs, xs, imm, kn, lp, mDfs_of hm1 hm2 hm3 hm4, rfl, ht, hd, hkv, hp, hfa, hinv, hxr, hcnt, rfl⟩
  rcases List.mem_cons.mp hq with rfl | hq
  · exact hk
  · rcases List.mem_cons.mp hq with rfl | hq
    · exact hf
    · rcases List.mem_cons.mp hq with rfl | hq
      · exact hl
      · exact hi q hq
theorem dfs_fault {ops : List Op} {begins : List Int} {c kd fl ad : Addr} {q : Int} {msg : Str} {t1 t2 : Tok} {cx : Nat} {okn : Obj} {rest imm : Led} {xs : List (FK × Addr)} {vs : List Value} {cf cl n0 tk : Nat} {kn lp : List PH} {h' : Heap}
    (F : Fr h₀ L h' m) (N : News h₀ L h' ((ad, seqObj "tuple" (List.toArray [.int q t1, .str msg t2]) cx) :: rest)) (hk : (kd, okn) ∈ rest) (hf : (fl, seqObj "list" ((refsP xs).toArray.push (.ref ad)) cf) ∈ rest) (hl : (D, seqObj "list" vs.toArray cl) ∈ rest) (hi : ∀ p ∈ imm, p ∈ rest)
    (hm1 : m (Str.ofString "line") = some (.ref D)) (hm2 : m (Str.ofString "faults") = some (.ref fl)) (hm3 : m (Str.ofString "known") = some (.ref kd)) (hm4 : m (Str.ofString "code") = some (.ref c))
    (ht : TupAll imm) (hd : okn.IsDictOf (intKind prog w) kvs) (hkv : KV kvs kn) (hp : PairsIn imm vs lp) (hfa : FaultsIn imm xs) (hinv : Inv ops begins kn lp False) (hxr : ∀ q ∈ xs, 0 ≤ q.1.1 ∧ q.1.1 ≤ ops.length) (hq : 0 ≤ q ∧ q ≤ ops.length)
    (hcnt : xs.length + 1 + lp.length + 3 * (ops.length - kn.length) ≤ 3 * ops.length + 3) (hlt : lp.length + 4 * (ops.length - kn.length) < n0) :
    WEnd h₀ L (fun m' l' => ∃ k, k < n0 ∧ DfsJ prog w ops begins c kd fl D k m' l') s { s with heap := h', toks := tk } := by
  have e : (refsP xs).toArray.push (.ref ad) = (refsP (xs ++ [((q, msg), ad)])).toArray := by simp [refsP]
  rw [e] at hf
  refine dfs_end (imm := (ad, seqObj "tuple" (List.toArray [.int q t1, .str msg t2]) cx) :: imm) (xs := xs ++ [((q, msg), ad)]) F N (.tail _ hk) (.tail _ hf) (.tail _ hl) (fun p hp => ?_) hm1 hm2 hm3 hm4 (fun p hp => ?_) hd hkv (hp.mono fun p hp => .tail _ hp) (fun p hp => ?_) ?_ (fun p hp => ?_) ?_ hlt
  · rcases List.mem_cons.mp hp with rfl | hp
    · exact .head _
    · exact .tail _ (hi p hp)
  · rcases List.mem_cons.mp hp with rfl | hp
    · rfl
    · exact ht p hp
  · rcases List.mem_append.mp hp with hp | hp
    · obtain ⟨a, b, c, e⟩ := hfa p hp
      exact ⟨a, b, c, .tail _ e⟩
    · rw [List.mem_singleton.mp hp]
      exact ⟨_, _, _, .head _⟩
  · have e : (xs ++ [((q, msg), ad)] = []) = False := eq_false (by simp)
    rw [e]; exact hinv
  · rcases List.mem_append.mp hp with hp | hp
    · exact hxr p hp
    · rw [List.mem_singleton.mp hp]; exact hq
  · rw [List.length_append, List.length_singleton]; exact hcnt
theorem dfs_extend {kd fl r : Addr} {okn : Obj} {led imm : Led} {xs : List (FK × Addr)} {vs ws : List Value} {cf cl cr : Nat} {Q : Value → Shared → Prop}
    (F : Fr h₀ L s.heap m) (N : News h₀ L s.heap led) (hr : (r, seqObj "list" ws.toArray cr) ∈ led) (hl : (D, seqObj "list" vs.toArray cl) ∈ led) (hk : (kd, okn) ∈ led) (hf : (fl, seqObj "list" (refsP xs).toArray cf) ∈ led) (hi : ∀ p ∈ imm, p ∈ led) (him : TupAll imm)
    (d1 : @Ne Nat fl D) (d2 : @Ne Nat kd D) (hrD : r ≠ D) (hz : vs.length + ws.length ≤ 1000)
    (h : ∀ h' c', Fr h₀ L h' m → News h₀ L h' ((kd, okn) :: (fl, seqObj "list" (refsP xs).toArray cf) :: (D, seqObj "list" (vs ++ ws).toArray c') :: imm) → Q .none { s with heap := h' }) :
    wpAny (model prog w) A (call (.builtin "list.extend") [.ref D, .ref r]) Q E s := by
  have ap := apart_tup N hl hi him list_cls
  have N1 : News h₀ L s.heap ((D, seqObj "list" vs.toArray cl) :: (r, seqObj "list" ws.toArray cr) :: (kd, okn) :: (fl, seqObj "list" (refsP xs).toArray cf) :: imm) := fun q hq => N q (by
    rcases List.mem_cons.mp hq with rfl | hq
    · exact hl
    · rcases List.mem_cons.mp hq with rfl | hq
      · exact hr
      · rcases List.mem_cons.mp hq with rfl | hq
        · exact hk
        · rcases List.mem_cons.mp hq with rfl | hq
          · exact hf
          · exact hi q hq)
  refine extendK F N1 (.tail _ (.head _)) (.head ?_) hz fun h' c' F' N' => h h' c' F' fun q hq => N' q ?_
  · intro q hq
    rcases List.mem_cons.mp hq with rfl | hq
    · exact hrD
    · rcases List.mem_cons.mp hq with rfl | hq
      · exact d2
      · rcases List.mem_cons.mp hq with rfl | hq
        · exact d1
        · exact ap q hq
  · rcases List.mem_cons.mp hq with rfl | hq
    · exact .tail _ (.tail _ (.head _))
    · rcases List.mem_cons.mp hq with rfl | hq
      · exact .tail _ (.tail _ (.tail _ (.head _)))
      · rcases List.mem_cons.mp hq with rfl | hq
        · exact .head _
        · exact .tail _ (.tail _ (.tail _ (.tail _ hq)))
end
end Mine

end

section
open PySem PySem.W PyProof.Rows PySem.Calls
set_option autoImplicit false
set_option Elab.async false
set_option maxRecDepth 100000
namespace Mine
theorem upto_succ {α : Type} {l : List α} {P : α → Prop} {i : Nat} {y : α} (hy : l[i]? = some y) : (∀ j z, j < i + 1 → l[j]? = some z → P z) ↔ (∀ j z, j < i → l[j]? = some z → P z) ∧ P y := by
  constructor
  · intro h
    exact ⟨fun j z hj => h j z (Nat.lt_succ_of_lt hj), h i y (Nat.lt_succ_self i) hy⟩
  · rintro ⟨h1, h2⟩ j z hj hz
    rcases Nat.lt_or_ge j i with h | h
    · exact h1 j z h hz
    · have : j = i := by (first | lia | omega)
      subst this
      rw [hy] at hz; cases hz; exact h2
theorem upto_all {α : Type} {l : List α} {P : α → Prop} : (∀ j z, j < l.length → l[j]? = some z → P z) ↔ ∀ z ∈ l, P z := by
  constructor
  · intro h z hz
    obtain ⟨j, hj, e⟩ := List.mem_iff_getElem.mp hz
    exact h j z hj (by rw [List.getElem?_eq_getElem hj, e])
  · intro h j z _ hz
    exact h z (List.mem_of_getElem? hz)
noncomputable def mWf (c fl : Addr) (u : Str → Option Value) : Str → Option Value := fun y =>
  if y = Str.ofString "faults" then some (.ref fl) else if y = Str.ofString "code" then some (.ref c) else u y
theorem mWf_of {c fl : Addr} {m : Str → Option Value} (h2 : m (Str.ofString "faults") = some (.ref fl)) (h4 : m (Str.ofString "code") = some (.ref c)) : m = mWf c fl m := by
  funext y
  unfold mWf
  split
  · rename_i e; rw [e, h2]
  · split
    · rename_i e; rw [e, h4]
    · rfl
noncomputable def WfJ (ops : List Op) (c fl : Addr) (B : Nat → Prop) (b0 : Nat) (i : Nat) (m : Str → Option Value) (led : Led) : Prop :=
  ∃ u xs cf imm, m = mWf c fl u ∧ led = (fl, seqObj "list" (refsP xs).toArray cf) :: imm ∧ TupAll imm ∧ FaultsIn imm xs ∧ xs.length ≤ b0 + i ∧ (∀ q ∈ xs, 0 ≤ q.1.1 ∧ q.1.1 ≤ ops.length) ∧ (xs = [] ↔ B i)
section
variable {prog : Program} {w : World} {A : Around} {E : Value → Shared → Prop} {s : Shared} {h₀ : Heap} {L c fl : Addr} {m : Str → Option Value} {ops : List Op} {B : Nat → Prop} {b0 i : Nat} {led own imm rest : Led} {xs : List (FK × Addr)} {cf : Nat} {h' : Heap} {tk : Nat}
theorem wf_next {o0 : Obj} (F : Fr h₀ L h' m) (N : News h₀ L h' rest) (hf : (fl, seqObj "list" (refsP xs).toArray cf) ∈ rest) (hi : ∀ p ∈ imm ++ own, p ∈ rest)
    (hm2 : m (Str.ofString "faults") = some (.ref fl)) (hm4 : m (Str.ofString "code") = some (.ref c)) (ht : TupAll imm) (hfa : FaultsIn imm xs) (hl : xs.length ≤ b0 + i) (hxr : ∀ q ∈ xs, 0 ≤ q.1.1 ∧ q.1.1 ≤ ops.length) (hb : xs = [] ↔ B i) :
    FEnd h₀ L (WfJ ops c fl B b0 i) ((fl, o0) :: imm) own s { s with heap := h', toks := tk } := by
  refine ⟨h', tk, m, (fl, seqObj "list" (refsP xs).toArray cf) :: imm, rfl, F, fun p hp => N p ?_, fun p hp => ?_, m, xs, cf, imm, mWf_of hm2 hm4, rfl, ht, hfa, hl, hxr, hb⟩
  · rcases List.mem_cons.mp hp with rfl | hp
    · exact hf
    · exact hi p hp
  · rcases List.mem_cons.mp hp with rfl | hp
    · exact .inl (.head _)
    · exact .inr (ht p hp)
theorem wf_fault {o0 : Obj} {q : Int} {msg : Str} {t1 t2 : Tok} {cx ad : Nat} (F : Fr h₀ L h' m) (N : News h₀ L h' ((ad, seqObj "tuple" (List.toArray [.int q t1, .str msg t2]) cx) :: rest)) (hf : (fl, seqObj "list" ((refsP xs).toArray.push (.ref ad)) cf) ∈ rest) (hi : ∀ p ∈ imm ++ own, p ∈ rest)
    (hm2 : m (Str.ofString "faults") = some (.ref fl)) (hm4 : m (Str.ofString "code") = some (.ref c)) (ht : TupAll imm) (hfa : FaultsIn imm xs) (hl : xs.length + 1 ≤ b0 + i) (hxr : ∀ q ∈ xs, 0 ≤ q.1.1 ∧ q.1.1 ≤ ops.length) (hq : 0 ≤ q ∧ q ≤ ops.length) (hb : ¬ B i) :
    FEnd h₀ L (WfJ ops c fl B b0 i) ((fl, o0) :: imm) own s { s with heap := h', toks := tk } := by
  have e : (refsP xs).toArray.push (.ref ad) = (refsP (xs ++ [((q, msg), ad)])).toArray := by simp [refsP]
  rw [e] at hf
  refine ⟨h', tk, m, (fl, seqObj "list" (refsP (xs ++ [((q, msg), ad)])).toArray cf) :: (ad, seqObj "tuple" (List.toArray [.int q t1, .str msg t2]) cx) :: imm, rfl, F, fun p hp => N p ?_, fun p hp => ?_, m, xs ++ [((q, msg), ad)], cf, _ :: imm, mWf_of hm2 hm4, rfl, fun p hp => ?_, fun p hp => ?_, by rw [List.length_append, List.length_singleton]; exact hl, fun p hp => ?_, ⟨fun q => absurd q (by simp), fun q => absurd q hb⟩⟩
  · rcases List.mem_cons.mp hp with rfl | hp
    · exact .tail _ hf
    · rcases List.mem_cons.mp hp with rfl | hp
      · exact .head _
      · exact .tail _ (hi p hp)
  · rcases List.mem_cons.mp hp with rfl | hp
    · exact .inl (.head _)
    · rcases List.mem_cons.mp hp with rfl | hp
      · exact .inr rfl
      · exact .inr (ht p hp)
  · rcases List.mem_cons.mp hp with rfl | hp
    · rfl
    · exact ht p hp
  · rcases List.mem_append.mp hp with hp | hp
    · obtain ⟨a, b, c, e⟩ := hfa p hp
      exact ⟨a, b, c, .tail _ e⟩
    · rw [List.mem_singleton.mp hp]; exact ⟨_, _, _, .head _⟩
  · rcases List.mem_append.mp hp with hp | hp
    · exact hxr p hp
    · rw [List.mem_singleton.mp hp]; exact hq
end
theorem wf_loop {prog : Program} {w : World} {A : Around} {s : Shared} {h₀ : Heap} {L c fl r : Addr} {m : Str → Option Value} {ops : List Op} {imm : Led} {xs : List (FK × Addr)} {cf n : Nat} {t₀ u₀ v₀ : Tok} {env : Env} {x : Str} {body : List Stmt} {Q : Flow → Shared → Prop}
    (B : Nat → Prop) (b0 : Nat) (hh : A.handled = none) (F : Fr h₀ L s.heap m) (N : News h₀ L s.heap ((fl, seqObj "list" (refsP xs).toArray cf) :: imm)) (hr : IsRange s.heap r 0 n 1 t₀ u₀ v₀) (hn : n ≤ 1000)
    (hm2 : m (Str.ofString "faults") = some (.ref fl)) (hm4 : m (Str.ofString "code") = some (.ref c)) (ht : TupAll imm) (hfa : FaultsIn imm xs) (hl : xs.length ≤ b0) (hxr : ∀ q ∈ xs, 0 ≤ q.1.1 ∧ q.1.1 ≤ ops.length) (hb : xs = [] ↔ B 0)
    (turn : ∀ i t u xs cf (imm own : Led) h tk, i < n → TupAll imm → FaultsIn imm xs → xs.length ≤ b0 + i → (∀ q ∈ xs, 0 ≤ q.1.1 ∧ q.1.1 ≤ ops.length) → (xs = [] ↔ B i) → (∀ p ∈ imm ++ own, p.1 ≠ fl) →
      Fr h₀ L h (fun y => if y = x then some (.int i t) else mWf c fl u y) → News h₀ L h ((fl, seqObj "list" (refsP xs).toArray cf) :: (imm ++ own)) →
      wpAny (model prog w) A (execs body env) (FPost h₀ L (WfJ ops c fl B b0 (i + 1)) ((fl, seqObj "list" (refsP xs).toArray cf) :: imm) own s Q) (fun _ _ => False) { s with heap := h, toks := tk })
    (done : ∀ u xs cf imm h' tk, TupAll imm → FaultsIn imm xs → xs.length ≤ b0 + n → (∀ q ∈ xs, 0 ≤ q.1.1 ∧ q.1.1 ≤ ops.length) → (xs = [] ↔ B n) → (∀ p ∈ imm, p.1 ≠ fl) → Fr h₀ L h' (mWf c fl u) → News h₀ L h' ((fl, seqObj "list" (refsP xs).toArray cf) :: imm) → Q .next { s with heap := h', toks := tk }) :
    ForPack prog w A env x body h₀ L m Q (.ref r) s := by
  obtain ⟨I, h₂, St, IT⟩ := iter_range (prog := prog) (w := w) hh hr hn
  refine ⟨_, I, h₂, [], n, _, St, WfJ ops c fl B b0, F, N, IT, ⟨m, xs, cf, imm, mWf_of hm2 hm4, rfl, ht, hfa, hl, hxr, hb⟩, (fun _ h => nomatch h), ?_, ?_⟩
  · rintro i v m₁ led own h tk hi ⟨t, rfl⟩ ⟨u, xs, cf, imm, rfl, rfl, ht, hfa, hl, hxr, hb⟩ hoff F' N'
    have e : (0 : Int) + (i : Int) * 1 = i := by (first | lia | omega)
    rw [e] at F'
    refine turn i t u xs cf imm own h tk hi ht hfa hl hxr hb (fun p hp => ?_) F' N'
    rcases List.mem_append.mp hp with hp | hp
    · exact apart_tup N' (.head _) (fun q hq => .tail _ (List.mem_append_left _ hq)) ht list_cls p hp
    · exact fun e => hoff _ (.head _) p hp e.symm
  · rintro m' led h' tk ⟨u, xs, cf, imm, rfl, rfl, ht, hfa, hl, hxr, hb⟩ F' N'
    exact done u xs cf imm h' tk ht hfa hl hxr hb (apart_tup N' (.head _) (fun q hq => .tail _ hq) ht list_cls) F' N'
theorem nodup_sub_len {α : Type} [DecidableEq α] : ∀ (l m : List α), l.Nodup → (∀ x ∈ l, x ∈ m) → l.length ≤ m.length
  | [], _, _, _ => Nat.zero_le _
  | x :: l, m, hn, h => by
    rw [List.nodup_cons] at hn
    have h1 := nodup_sub_len l (m.erase x) hn.2 fun y hy => (List.mem_erase_of_ne (fun (e : y = x) => hn.1 (by rw [← e]; exact hy))).mpr (h y (.tail _ hy))
    have h2 := List.length_erase_of_mem (h x (.head _))
    have h3 : 0 < m.length := List.length_pos_of_mem (h x (.head _))
    rw [List.length_cons]; (first | lia | omega)
theorem held_len {xs ms : List (FK × Addr)} (H : HeldP xs ms) : ms.length ≤ xs.length := by
  have := nodup_sub_len (ms.map (·.1)) (xs.map (·.1)) H.nd fun k hk => by
    obtain ⟨p, hp, rfl⟩ := List.mem_map.mp hk
    exact List.mem_map_of_mem (H.sub p hp)
  simpa using this
theorem held_nil {xs ms : List (FK × Addr)} (H : HeldP xs ms) : ms = [] ↔ xs = [] := by
  constructor
  · intro e
    cases xs with
    | nil => rfl
    | cons q xs => have := H.all q (.head _); rw [e] at this; cases this
  · intro e
    cases ms with
    | nil => rfl
    | cons q ms => have := H.sub q (.head _); rw [e] at this; cases this
theorem faults_tk {prog : Program} {w : World} {h₀ h : Heap} {L : Addr} {led imm : Led} {xs : List (FK × Addr)} (N : News h₀ L h led) (hs : ∀ p ∈ imm, p ∈ led) (hf : FaultsIn imm xs) : ∀ p ∈ xs, TK prog w h (mx p.1) p.2 := fun p hp => by
  obtain ⟨t1, t2, c, e⟩ := hf p hp
  exact TK.mk (News.isTup N (hs _ e))
end Mine

end

section
open PySem PySem.W PyProof.Rows PySem.Calls
set_option autoImplicit false
set_option Elab.async false
set_option maxRecDepth 100000
namespace Mine
noncomputable def takesW (x : Str) : Int := if x = Str.ofString "calc" then 2 else if x = Str.ofString "put" then 1 else if x = Str.ofString "choose" then 1 else if x = Str.ofString "count" then 1 else 0
noncomputable abbrev takesK (t1 t2 t3 t4 : Tok) : List (Str × Value) := [(Str.ofString "calc", .int 2 t1), (Str.ofString "put", .int 1 t2), (Str.ofString "choose", .int 1 t3), (Str.ofString "count", .int 1 t4)]
theorem takes_get (t1 t2 t3 t4 t : Tok) (x : Str) : ∃ t', (valueAt (takesK t1 t2 t3 t4) x).getD (.int 0 t) = .int (takesW x) t' := by
  unfold takesW
  by_cases h1 : x = Str.ofString "calc"
  · subst h1; exact ⟨t1, by rw [if_pos rfl]; rfl⟩
  · by_cases h2 : x = Str.ofString "put"
    · subst h2; exact ⟨t2, rfl⟩
    · by_cases h3 : x = Str.ofString "choose"
      · subst h3; exact ⟨t3, rfl⟩
      · by_cases h4 : x = Str.ofString "count"
        · subst h4; exact ⟨t4, rfl⟩
        · refine ⟨t, ?_⟩
          rw [if_neg h1, if_neg h2, if_neg h3, if_neg h4]
          have e : valueAt (takesK t1 t2 t3 t4) x = none := by
            unfold valueAt
            simp only [List.find?_cons, List.find?_nil]
            rw [decide_eq_false (fun e => h1 e.symm), decide_eq_false (fun e => h2 e.symm), decide_eq_false (fun e => h3 e.symm), decide_eq_false (fun e => h4 e.symm)]
            rfl
          rw [e]; rfl
section
variable {prog : Program} {w : World} {A : Around} {E : Value → Shared → Prop} {s : Shared} {h₀ : Heap} {L d : Addr} {m : Str → Option Value} {news : Led} {o : Obj}
theorem methD {K : Type} [DecidableEq K] {knd : KeyKind prog w K} {kvs : List (K × Value)} {pl : Sem Bool} {Q : Value × List Value → Shared → Prop} (N : News h₀ L s.heap news) (hm : (d, o) ∈ news) (hd : o.IsDictOf knd kvs) (h : Q (.builtin "dict.get", [.ref d]) s) :
    wpAny (model prog w) A (getMethod (.ref d) (Str.ofString "get") pl) Q E s :=
  have hD := Heap.dictOf_iff.mpr ⟨o, N.get hm, hd⟩
  getMethod_builtin hD.typeIs PySem.F.plainAttrs_dict PySem.F.slot_dict_get PySem.F.type_dict_get hD.mapOf.noDict h
theorem getS {x : Str} {t : Tok} {v : Value} {kvs : List (Str × Value)} {Q : Value → Shared → Prop} (N : News h₀ L s.heap news) (hm : (d, o) ∈ news) (hd : o.IsDictOf (strKind prog w) kvs) (lo : (d == sysModules) = false) (h : Q ((valueAt kvs x).getD v) { s with toks := s.toks + 1 }) :
    wpAny (model prog w) A (call (.builtin "dict.get") [.ref d, .str x t, v]) Q E s :=
  have hD := Heap.dictOf_iff.mpr ⟨o, N.get hm, hd⟩
  call_meetsIn PySem.F.slot_dict_get hD.typeIs PySem.F.entry_dict_get (PySem.F.args_dict_get_3 _ _ _) (meets_dict_get_default (strKind prog w) d (strKind_is prog w x t) lo v) ⟨_, hD.mapOf, h⟩
theorem getT {x : Str} {t t1 t2 t3 t4 t0 : Tok} {Q : Value → Shared → Prop} (N : News h₀ L s.heap news) (hm : (d, o) ∈ news) (hd : o.IsDictOf (strKind prog w) (takesK t1 t2 t3 t4)) (lo : (d == sysModules) = false) (h : ∀ t', Q (.int (takesW x) t') { s with toks := s.toks + 1 }) :
    wpAny (model prog w) A (call (.builtin "dict.get") [.ref d, .str x t, .int 0 t0]) Q E s := by
  refine getS N hm hd lo ?_
  obtain ⟨t', e⟩ := takes_get t1 t2 t3 t4 t0 x
  rw [e]; exact h t'
end
end Mine

end

section
open PySem PySem.W PyProof.Rows PySem.Calls
set_option autoImplicit false
set_option Elab.async false
set_option maxRecDepth 100000
namespace Mine
section
variable {prog : Program} {w : World} {A : Around} {E : Value → Shared → Prop} {s : Shared} {h₀ : Heap} {L d : Addr} {m : Str → Option Value} {news : Led} {o : Obj}
theorem sliceApplied_two {sl : Addr} {n : Nat} {u : Tok} {Q : Int × Int × Nat → Shared → Prop} (hs : s.heap.IsSliceOf sl .none (.int 2 u) .none) (ha : 2 ≤ n) (h : Q ((0 : Int), 1, 2) s) :
    wpAny (model prog w) A (Builtin.Slice.sliceApplied (.ref sl) (pure (n : Int))) Q E s := by
  obtain ⟨os, hos, hcs, hds⟩ := id hs
  unfold Builtin.Slice.sliceApplied Builtin.Slice.sliceFields
  refine wpAny_bind (wpAny_bind (wpAny_field hos hds (x := .none) rfl (wpAny_bind (wpAny_field hos hds (x := .int 2 u) rfl (wpAny_bind (wpAny_field hos hds (x := .none) rfl (wpAny_pure ?_)))))))
  refine wpAny_bind (slicePart_none ?_)
  show wpAny _ _ (if ((1 : Int) == 0) = true then _ else _) _ _ s
  rw [if_neg (by decide)]
  refine wpAny_bind (slicePart_none (wpAny_bind (slicePart_int (wpAny_bind (wpAny_pure ?_)))))
  show wpAny _ _ (match Builtin.Slice.sliceAdjust none (some (2 : Int)) 1 (n : Int) with | (lo, hi) => pure (lo, (1 : Int), Builtin.Slice.slicePlaces lo hi 1)) _ _ s
  have e : Builtin.Slice.sliceAdjust none (some (2 : Int)) 1 (n : Int) = ((0 : Int), (2 : Int)) := by
    unfold Builtin.Slice.sliceAdjust
    have h1 : ¬ ((1 : Int) < 0) := by (first | lia | omega)
    have h2 : ¬ ((2 : Int) < 0) := by (first | lia | omega)
    simp only [h1, h2, if_false]
    congr 1
    (first | lia | omega)
  rw [e]
  show wpAny _ _ (pure ((0 : Int), (1 : Int), Builtin.Slice.slicePlaces (0 : Int) (2 : Int) 1)) _ _ s
  have e2 : Builtin.Slice.slicePlaces (0 : Int) (2 : Int) 1 = 2 := by decide
  rw [e2]
  exact wpAny_pure h
theorem getItem_tuple_two {t sl : Addr} {x y : Value} {l : List Value} {u : Tok} {Q : Value → Shared → Prop} (ht : IsTup s.heap t (x :: y :: l).toArray) (hs : s.heap.IsSliceOf sl .none (.int 2 u) .none)
    (h1 : l = [] → Q (.ref t) s) (h2 : l ≠ [] → Q (.ref s.heap.objs.size) { s with heap := s.heap.push { cls := .type "tuple", data := .seq (List.toArray [x, y]) } }) :
    wpAny (model prog w) A (getItem (.ref t) (.ref sl)) Q E s := by
  obtain ⟨os, hos, hcs, hds⟩ := id hs
  have hTs : s.TypeIs (.ref sl) "slice" := ⟨os, hos, hcs⟩
  unfold getItem
  try with_reducible refine wpAny_holding ?_
  first | refine wpAny_bind (wpAny_pure ?_) | skip
  refine wpAny_bind (wpAny_sequenceKey ht.typeIs (by decide) ?_)
  refine wpAny_bind (wpAny_callSpecial?_slot (name := Str.ofString "__getitem__") ht.typeIs slot_tuple_getitem
    (wpAny_call_entry slot_tuple_getitem ht.typeIs entry_tuple_getitem ?_ (args_tuple_getitem _ _)))
  show wpAny _ _ (Builtin.Tuple.tupleItemsOf (.ref t) >>= _) _ _ s
  refine wpAny_bind (tupleItemsOf_ ht ?_)
  refine wpAny_bind (wpAny_typeOf hTs ?_)
  rw [if_pos (by decide)]
  refine wpAny_bind (sliceApplied_two hs (by simp) ?_)
  cases l with
  | nil =>
    show wpAny _ _ (if ((0 : Int) == 0 && (1 : Int) == 1 && (2 : Nat) == (List.toArray [x, y]).size) = true then _ else _) _ _ s
    rw [if_pos (by rfl)]
    unfold Builtin.Tuple.tupleIsExact
    exact wpAny_bind (wpAny_bind (wpAny_typeOf ht.typeIs (wpAny_pure (by rw [if_pos (by decide)]; exact wpAny_bind (wpAny_rule (wpAny_pure ⟨_, rfl, wpAny_pure (h1 rfl)⟩))))))
  | cons z l =>
    have hno : ¬ (((0 : Int) == 0 && (1 : Int) == 1 && (2 : Nat) == (x :: y :: z :: l).toArray.size) = true) := by simp
    show wpAny _ _ (if ((0 : Int) == 0 && (1 : Int) == 1 && (2 : Nat) == (x :: y :: z :: l).toArray.size) = true then _ else _) _ _ s
    rw [if_neg hno]
    have e : ((List.range 2).filterMap fun (k : Nat) => (x :: y :: z :: l).toArray[((0 : Int) + (k : Int) * 1).toNat]?).toArray = List.toArray [x, y] := by rfl
    rw [e]
    have hsz : sizeOk (.seq (List.toArray [x, y])) := by show 2 ≤ sizeLine; decide
    first
      | exact wpAny_bind (m := Builtin.Tuple.tupleExact _) (wpAny_newObj_type (wpAny_pure ⟨_, rfl, wpAny_pure (h2 (by simp))⟩) hsz)
      | exact wpAny_bind (m := Builtin.Tuple.tupleExact _) (wpAny_newObj_type (wpAny_bind (wpAny_pure (wpAny_pure ⟨_, rfl, wpAny_pure (h2 (by simp))⟩))) hsz)
      | exact wpAny_bind (wpAny_bind (m := Builtin.Tuple.tupleExact _) (wpAny_newObj_type (wpAny_pure (wpAny_pure ⟨_, rfl, wpAny_pure (h2 (by simp))⟩)) hsz))
      | exact wpAny_bind (wpAny_bind (m := Builtin.Tuple.tupleExact _) (wpAny_newObj_type (wpAny_pure ⟨_, rfl, wpAny_pure (h2 (by simp))⟩) hsz))
theorem sliceTwoA {value slice : PySem.Expr} {t : Addr} {x y : Value} {u : Tok} {Q : Value → Shared → Prop}
    (F : Fr h₀ L s.heap m) (N : News h₀ L s.heap news) (ht : IsTup h₀ t (List.toArray [x, y]))
    (h : ∀ h', Fr h₀ L h' m → News h₀ L h' news → Q (.ref t) { s with heap := h' })
    (hs : subscripted slice false (.ref t) (.ref s.heap.objs.size) = operate [.ref s.heap.objs.size, .ref t] (getItem (.ref t) (.ref s.heap.objs.size)) := by with_unfolding_all rfl)
    (hg : ∀ r, letTemporaryGo value (.ref t) r = pure () := by intro _; with_unfolding_all rfl) :
    wpAny (model prog w) A (subscriptTail value slice (.ref t) (.ref s.heap.objs.size)) Q E { s with heap := s.heap.push { cls := .type "slice", data := .fields #[.none, .int 2 u, .none] } } := by
  have ht' : IsTup (s.heap.push { cls := .type "slice", data := .fields #[.none, .int 2 u, .none] }) t (List.toArray [x, y]) := (ht.keeps F.keep).keeps fun _ _ e => Heap.get?_push_of_some _ e
  exact subscriptTail_ops (s := { s with heap := s.heap.push { cls := .type "slice", data := .fields #[.none, .int 2 u, .none] } }) ht'.typeIs slot_tuple_getitem.lookup
    (getItem_tuple_two ht' (Heap.IsSliceOf.new ..) (fun _ => h _ (F.push _) (N.grown fun _ _ e => Heap.get?_push_of_some _ e)) (fun e => absurd rfl e)) hs hg
theorem sliceTwoB {value slice : PySem.Expr} {t : Addr} {x y z : Value} {l : List Value} {u : Tok} {Q : Value → Shared → Prop}
    (F : Fr h₀ L s.heap m) (N : News h₀ L s.heap news) (ht : IsTup h₀ t (x :: y :: z :: l).toArray)
    (h : ∀ h' r, Fr h₀ L h' m → News h₀ L h' ((r, seqObj "tuple" (List.toArray [x, y]) 0) :: news) → (∀ p ∈ news, p.1 < r) → Q (.ref r) { s with heap := h' })
    (hs : subscripted slice false (.ref t) (.ref s.heap.objs.size) = operate [.ref s.heap.objs.size, .ref t] (getItem (.ref t) (.ref s.heap.objs.size)) := by with_unfolding_all rfl)
    (hg : ∀ r, letTemporaryGo value (.ref t) r = pure () := by intro _; with_unfolding_all rfl) :
    wpAny (model prog w) A (subscriptTail value slice (.ref t) (.ref s.heap.objs.size)) Q E { s with heap := s.heap.push { cls := .type "slice", data := .fields #[.none, .int 2 u, .none] } } := by
  have ht' : IsTup (s.heap.push { cls := .type "slice", data := .fields #[.none, .int 2 u, .none] }) t (x :: y :: z :: l).toArray := (ht.keeps F.keep).keeps fun _ _ e => Heap.get?_push_of_some _ e
  refine subscriptTail_ops (s := { s with heap := s.heap.push { cls := .type "slice", data := .fields #[.none, .int 2 u, .none] } }) ht'.typeIs slot_tuple_getitem.lookup
    (getItem_tuple_two ht' (Heap.IsSliceOf.new ..) (fun e => nomatch e) (fun _ => ?_)) hs hg
  have N1 := News.push (F.push { cls := .type "slice", data := .fields #[.none, .int 2 u, .none] }) (N.grown fun _ _ e => Heap.get?_push_of_some _ e) { cls := .type "tuple", data := .seq (List.toArray [x, y]) }
  rw [Heap.size_push] at N1
  show Q (.ref (s.heap.push _).objs.size) _
  rw [Heap.size_push]
  exact h _ _ ((F.push _).push _) N1 fun p hp => Nat.lt_succ_of_lt (Heap.lt_size (N p hp).1)
theorem eqTup2 {a b : Addr} {x1 x2 y1 y2 : Value} {b1 b2 : Bool} {Q : Value → Shared → Prop} (hu : A.units < cLine) (ha : IsTup s.heap a (List.toArray [x1, x2])) (hb : IsTup s.heap b (List.toArray [y1, y2]))
    (e1 : SeqAt.EqAt A.in1 s x1 y1 b1) (e2 : SeqAt.EqAt A.in1 s x2 y2 b2) (h : Q (.bool (b2 && b1)) s) : wpAny (model prog w) A (compareOp .Eq (.ref a) (.ref b)) Q E s := by
  refine SeqAt.eq_tupleAt (e := fun j => if j = 0 then b1 else b2) ha hb hu (fun j h1 h2 => ?_) ?_
  · match j, h1, h2 with
    | 0, _, _ => exact e1
    | 1, _, _ => exact e2
    | j + 2, h1, _ => exact absurd h1 (by simp)
  · have e : ((List.range (min (List.toArray [x1, x2]).size (List.toArray [y1, y2]).size)).all (fun j => if j = 0 then b1 else b2) && (List.toArray [x1, x2]).size == (List.toArray [y1, y2]).size) = (b2 && b1) := by
      show ((List.range 2).all (fun j => if j = 0 then b1 else b2) && (2 == 2)) = (b2 && b1)
      cases b1 <;> cases b2 <;> rfl
    rw [e]; exact h
end
end Mine

end

section
open PySem PySem.W PyProof.Rows PySem.Calls
set_option autoImplicit false
set_option Elab.async false
set_option maxRecDepth 100000
namespace Mine
section
variable {prog : Program} {w : World} {A : Around} {E : Value → Shared → Prop} {s : Shared} {h₀ : Heap} {L d D : Addr} {m : Str → Option Value} {news : Led} {o : Obj} {kvs : List (Int × Value)}
theorem getD_known {k : Int} {t : Tok} {v v' : Value} {Q : Value → Shared → Prop} (N : News h₀ L s.heap news) (hm : (d, o) ∈ news) (hd : o.IsDictOf (intKind prog w) kvs) (lo : (d == sysModules) = false) (hv : valueAt kvs k = some v') (h : Q v' { s with toks := s.toks + 1 }) :
    wpAny (model prog w) A (call (.builtin "dict.get") [.ref d, .int k t, v]) Q E s := getD N hm hd lo (by rw [hv]; exact h)
theorem getD_none {k : Int} {t : Tok} {v : Value} {Q : Value → Shared → Prop} (N : News h₀ L s.heap news) (hm : (d, o) ∈ news) (hd : o.IsDictOf (intKind prog w) kvs) (lo : (d == sysModules) = false) (hv : valueAt kvs k = none) (h : Q v { s with toks := s.toks + 1 }) :
    wpAny (model prog w) A (call (.builtin "dict.get") [.ref d, .int k t, v]) Q E s := getD N hm hd lo (by rw [hv]; exact h)
noncomputable def mBfs (hd ln : Addr) (u : Str → Option Value) : Str → Option Value := fun y =>
  if y = Str.ofString "line" then some (.ref ln) else if y = Str.ofString "heights" then some (.ref hd) else u y
theorem mBfs_of {hd ln : Addr} {m : Str → Option Value} (h2 : m (Str.ofString "line") = some (.ref ln)) (h4 : m (Str.ofString "heights") = some (.ref hd)) : m = mBfs hd ln m := by
  funext y
  unfold mBfs
  split
  · rename_i e; rw [e, h2]
  · split
    · rename_i e; rw [e, h4]
    · rfl
noncomputable def BfsJ (prog : Program) (w : World) (ops : List Op) (begins : List Int) (hd ln : Addr) (cel : Addr × Obj) (k : Nat) (m : Str → Option Value) (led : Led) : Prop :=
  ∃ u okn vs cl kvs imm kn lp, m = mBfs hd ln u ∧ led = (hd, okn) :: (ln, seqObj "list" vs.toArray cl) :: cel :: imm ∧ TupAll imm ∧ okn.IsDictOf (intKind prog w) kvs ∧ KV kvs kn ∧ PairsIn imm vs lp ∧
    Inv ops begins kn lp True ∧ lp.length + 5 * (ops.length - kn.length) ≤ 100 ∧ k = lp.length + 5 * (ops.length - kn.length)
theorem bfs_end {ops : List Op} {begins : List Int} {hd ln : Addr} {cel : Addr × Obj} {okn : Obj} {rest imm : Led} {vs : List Value} {cl n0 tk : Nat} {kn lp : List PH} {h' : Heap}
    (F : Fr h₀ L h' m) (N : News h₀ L h' rest) (hk : (hd, okn) ∈ rest) (hl : (ln, seqObj "list" vs.toArray cl) ∈ rest) (hc : cel ∈ rest) (hi : ∀ p ∈ imm, p ∈ rest)
    (hm1 : m (Str.ofString "line") = some (.ref ln)) (hm2 : m (Str.ofString "heights") = some (.ref hd))
    (ht : TupAll imm) (hdd : okn.IsDictOf (intKind prog w) kvs) (hkv : KV kvs kn) (hp : PairsIn imm vs lp) (hinv : Inv ops begins kn lp True)
    (hcnt : lp.length + 5 * (ops.length - kn.length) ≤ 100) (hlt : lp.length + 5 * (ops.length - kn.length) < n0) :
    WEnd h₀ L (fun m' l' => ∃ k, k < n0 ∧ BfsJ prog w ops begins hd ln cel k m' l') s { s with heap := h', toks := tk } := by
  refine ⟨h', tk, m, (hd, okn) :: (ln, seqObj "list" vs.toArray cl) :: cel :: imm, rfl, F, fun q hq => N q ?_, _, hlt, m, okn, vs, cl, kvs, imm, kn, lp, mBfs_of hm1 hm2, rfl, ht, hdd, hkv, hp, hinv, hcnt, rfl⟩
  rcases List.mem_cons.mp hq with rfl | hq
  · exact hk
  · rcases List.mem_cons.mp hq with rfl | hq
    · exact hl
    · rcases List.mem_cons.mp hq with rfl | hq
      · exact hc
      · exact hi q hq
theorem bfs_extend {hd ln r : Addr} {cel : Addr × Obj} {okn : Obj} {led imm : Led} {vs ws : List Value} {cl cr : Nat} {Q : Value → Shared → Prop}
    (F : Fr h₀ L s.heap m) (N : News h₀ L s.heap led) (hr : (r, seqObj "list" ws.toArray cr) ∈ led) (hl : (ln, seqObj "list" vs.toArray cl) ∈ led) (hk : (hd, okn) ∈ led) (hc : cel ∈ led) (hi : ∀ p ∈ imm, p ∈ led) (him : TupAll imm)
    (d1 : @Ne Nat hd ln) (d2 : @Ne Nat cel.1 ln) (hrD : r ≠ ln) (hz : vs.length + ws.length ≤ 1000)
    (h : ∀ h' c', Fr h₀ L h' m → News h₀ L h' ((hd, okn) :: (ln, seqObj "list" (vs ++ ws).toArray c') :: cel :: imm) → Q .none { s with heap := h' }) :
    wpAny (model prog w) A (call (.builtin "list.extend") [.ref ln, .ref r]) Q E s := by
  have ap := apart_tup N hl hi him list_cls
  have N1 : News h₀ L s.heap ((ln, seqObj "list" vs.toArray cl) :: (r, seqObj "list" ws.toArray cr) :: (hd, okn) :: cel :: imm) := fun q hq => N q (by
    rcases List.mem_cons.mp hq with rfl | hq
    · exact hl
    · rcases List.mem_cons.mp hq with rfl | hq
      · exact hr
      · rcases List.mem_cons.mp hq with rfl | hq
        · exact hk
        · rcases List.mem_cons.mp hq with rfl | hq
          · exact hc
          · exact hi q hq)
  refine extendK F N1 (.tail _ (.head _)) (.head ?_) hz fun h' c' F' N' => h h' c' F' fun q hq => N' q ?_
  · intro q hq
    rcases List.mem_cons.mp hq with rfl | hq
    · exact hrD
    · rcases List.mem_cons.mp hq with rfl | hq
      · exact d1
      · rcases List.mem_cons.mp hq with rfl | hq
        · exact d2
        · exact ap q hq
  · rcases List.mem_cons.mp hq with rfl | hq
    · exact .tail _ (.tail _ (.head _))
    · rcases List.mem_cons.mp hq with rfl | hq
      · exact .head _
      · rcases List.mem_cons.mp hq with rfl | hq
        · exact .tail _ (.tail _ (.tail _ (.head _)))
        · exact .tail _ (.tail _ (.tail _ (.tail _ hq)))
theorem PairsIn.cons_inv {imm : Led} {vs : List Value} {l : List PH} {x : PH} (h : PairsIn imm vs (x :: l)) : ∃ vs0 a t1 t2 c, vs = .ref a :: vs0 ∧ PairsIn imm vs0 l ∧ (a, seqObj "tuple" (List.toArray [.int x.1 t1, .int x.2 t2]) c) ∈ imm := by
  cases h with
  | cons m r => exact ⟨_, _, _, _, _, rfl, r, m⟩
theorem bfs_enter {env : Env} {ops : List Op} {begins : List Int} {hd ln : Addr} {co : Obj} {cv : Option Value} {okd : Obj} {vs : List Value} {cl : Nat} {imm led : Led} {lp : List PH} {test : PySem.Expr} {body : List Stmt} {pos : Pos} {Q : Flow → Shared → Prop}
    (ca : Addr) (hcd : co.data = .cell cv) (F : Fr h₀ L s.heap m) (N : News h₀ L s.heap led) (hk : (hd, okd) ∈ led) (hl : (ln, seqObj "list" vs.toArray cl) ∈ led) (hc : (ca, co) ∈ led) (hi : ∀ p ∈ imm, p ∈ led)
    (hm1 : m (Str.ofString "line") = some (.ref ln)) (hm2 : m (Str.ofString "heights") = some (.ref hd))
    (hdd : okd.IsDictOf (intKind prog w) []) (ht : TupAll imm) (hp : PairsIn imm vs lp) (hst : ∀ y, y ∈ lp ↔ y ∈ starts begins) (hlen : lp.length ≤ 3) (hb : ∀ y ∈ begins, 0 ≤ y ∧ y < ops.length) (hz : ops.length ≤ 10)
    (d1 : @Ne Nat hd ln) (d2 : @Ne Nat ca ln)
    (turnN : ∀ n h tk u okn cl kvs imm kn, TupAll imm → okn.IsDictOf (intKind prog w) kvs → KV kvs kn → Inv ops begins kn [] True →
      Fr h₀ L h (mBfs hd ln u) → News h₀ L h ((hd, okn) :: (ln, seqObj "list" ([] : List Value).toArray cl) :: (ca, co) :: imm) → wpAny (model prog w) A (isTrue test env (eval test env)) (fun b s₂ =>
      if b = true then wpAny (model prog w) A (execs body env) (WPost h₀ L (fun m' l' => ∃ k, k < n ∧ BfsJ prog w ops begins hd ln (ca, co) k m' l') s Q) (fun _ _ => False) s₂ else Q .next s₂) (fun _ _ => False) { s with heap := h, toks := tk })
    (turnC : @Ne Nat hd ln → @Ne Nat ca ln → ∀ h tk u okn vs cl kvs imm kn lq pl hg ax tx1 tx2 cx, TupAll imm → okn.IsDictOf (intKind prog w) kvs → KV kvs kn → PairsIn imm vs lq → (ax, seqObj "tuple" (List.toArray [.int pl tx1, .int hg tx2]) cx) ∈ imm → Inv ops begins kn ((pl, hg) :: lq) True → lq.length + 1 + 5 * (ops.length - kn.length) ≤ 100 →
      0 ≤ pl → pl ≤ ops.length → 0 ≤ hg → vs.length = lq.length → seqIndex? 0 (Value.ref ax :: vs).toArray.size = some 0 → (Value.ref ax :: vs).toArray.toList.length ≤ sizeLine → kvs.length ≤ 1000 → (∀ p ∈ imm, p.1 ≠ hd) → (∀ p ∈ imm, p.1 ≠ ln) →
      Fr h₀ L h (mBfs hd ln u) → News h₀ L h ((hd, okn) :: (ln, seqObj "list" (Value.ref ax :: vs).toArray cl) :: (ca, co) :: imm) → wpAny (model prog w) A (isTrue test env (eval test env)) (fun b s₂ =>
      if b = true then wpAny (model prog w) A (execs body env) (WPost h₀ L (fun m' l' => ∃ k, k < lq.length + 1 + 5 * (ops.length - kn.length) ∧ BfsJ prog w ops begins hd ln (ca, co) k m' l') s Q) (fun _ _ => False) s₂ else Q .next s₂) (fun _ _ => False) { s with heap := h, toks := tk }) :
    wpAny (model prog w) A (exec (.While test body [] pos) env) Q E s := by
  refine while_inv (news := (hd, okd) :: (ln, seqObj "list" vs.toArray cl) :: (ca, co) :: imm) F (fun q hq => N q ?_) (BfsJ prog w ops begins hd ln (ca, co)) (lp.length + 5 * (ops.length - ([] : List PH).length)) ?_ (fun n m₁ led h tk hJ F7 N7 => by
    obtain ⟨u, okn, vs, cl, kvs, imm7, kn, lp, rfl, rfl, him7, hdk, hkv, hpl, hinv, hcnt, rfl⟩ := hJ
    rcases lp with _ | ⟨⟨pl, hg⟩, lq⟩
    · cases hpl
      exact turnN _ h tk u okn cl kvs imm7 kn him7 hdk hkv hinv F7 N7
    · obtain ⟨vs0, ax, tx1, tx2, cx, rfl, hp0, hax⟩ := hpl.cons_inv
      obtain ⟨hpl0, hpln, hhg⟩ := hinv.places _ (.head _)
      simp only [List.length_cons] at hcnt ⊢
      have hlen := hp0.length
      have hkn := known_le hinv
      have z0 : 1000 ≤ sizeLine := by decide
      have zk := hkv.length
      exact turnC d1 d2 h tk u okn vs0 cl kvs imm7 kn lq pl hg ax tx1 tx2 cx him7 hdk hkv hp0 hax hinv hcnt hpl0 hpln hhg hlen (by unfold seqIndex?; simp) (by simp only [List.length_cons]; omega) (by omega)
        (apart_tup N7 (.head _) (fun q hq => .tail _ (.tail _ (.tail _ hq))) him7 (dict_cls hdk)) (apart_tup N7 (.tail _ (.head _)) (fun q hq => .tail _ (.tail _ (.tail _ hq))) him7 list_cls) F7 N7)
  · rcases List.mem_cons.mp hq with rfl | hq
    · exact hk
    · rcases List.mem_cons.mp hq with rfl | hq
      · exact hl
      · rcases List.mem_cons.mp hq with rfl | hq
        · exact hc
        · exact hi q hq
  · refine ⟨m, okd, vs, cl, [], imm, [], lp, mBfs_of hm1 hm2, rfl, ht, hdd, .nil, hp, ?_, ?_, rfl⟩
    · have := inv_start (ops := ops) (begins := begins) fun b hb' => ⟨(hb b hb').1, Int.le_of_lt (hb b hb').2⟩
      exact inv_order this fun y => (hst y).symm
    · simp only [List.length_nil]; (first | lia | omega)
end
end Mine

end

open PySem PySem.W PyProof.Rows
set_option maxRecDepth 100000
set_option autoImplicit false
namespace Mine
theorem filled : (fun (_ : Params → Frag) (_ : OpenLaw) => True) Mine.hd.heap_1 PySem.Challenge.rw_og0072_01 := by
  k_fill
  trivial
local macro_rules | `(tactic| walk_at $s:str) => `(tactic| k_extra $s)
local macro_rules | `(tactic| k_all) => `(tactic| k_extra "k_all")
local macro_rules | `(tactic| k_inst) => `(tactic| k_extra "k_inst")
local macro_rules | `(tactic| k_mem) => `(tactic| k_extra "k_mem")
local macro_rules | `(tactic| k_room) => `(tactic| k_extra "k_room")
local macro_rules | `(tactic| size_fits) => `(tactic| k_extra "size_fits")

section
theorem base_C1 : True := by
  k_with_none
  w_top off
  k_with "subscriptTail" => (k_here; (with_reducible show wpAny _ _ (subscriptTail _ _ (Value.ref _) (Value.int _ _)) _ _ _); k_dflt ( (refine' itemT ?Fzq ?tzq ?azq ?bzq ?czq ?dzq ?_; (case Fzq => k_asm); (case tzq => assumption); (case azq => decide); (case bzq => decide); (case czq => rfl); (case dzq => rfl); k_whole)))
  k_with "size_fits" => with_reducible assumption
  k_with "k_room" => exact Lv.room (by assumption)
  k_with "k_inst" => exact instUp (by assumption) (Fr.keep (by k_asm))
  k_with "call builtin:len" => (k_here; (with_reducible show wpAny _ _ (call (Value.builtin "len") [Value.ref _]) _ _ _); k_dflt ( (refine' lenT ?Fzq ?tzq ?azq ?bzq ?_; (case Fzq => k_asm); (case tzq => assumption); (case azq => first | assumption | rfl); (case bzq => first | assumption | decide); k_whole)))
  k_with "eval ListComp" => (k_here; (with_reducible rename Fr _ _ _ _ => zzlFq); k_dflt ( (refine' comp_inv zzlFq ?k1zq ?k2zq ?k3zq ?k4zq ?k5zq ?_ ?k6zq; (case k1zq => with_unfolding_all rfl); (case k2zq => decide); (case k3zq => with_unfolding_all rfl); (case k4zq => decide); (case k5zq => with_unfolding_all rfl); (case k6zq => (intro _; with_unfolding_all rfl)); k_whole)))
  k_with "exec Assign cons ListComp" => (k_here; (with_reducible rename Fr _ _ _ _ => zzlFq); k_dflt ( (refine' comp_assign zzlFq ?j1zq ?j2zq ?k1zq ?k2zq ?k3zq ?k4zq ?k5zq ?j3zq ?j4zq ?_ ?k6zq; (case j1zq => with_unfolding_all rfl); (case j2zq => with_unfolding_all rfl); (case j3zq => with_unfolding_all rfl); (case j4zq => with_unfolding_all rfl); (case k1zq => with_unfolding_all rfl); (case k2zq => decide); (case k3zq => with_unfolding_all rfl); (case k4zq => decide); (case k5zq => with_unfolding_all rfl); (case k6zq => (intro _; with_unfolding_all rfl)); k_whole)))
  k_with "compareOp NotEq ref ref" => (k_here; (with_reducible show wpAny _ _ (compareOp CmpOp.NotEq (Value.ref _) (Value.ref _)) _ _ _); k_dflt ( (refine' neNil ?azq ?bzq ?uzq ?_; (case azq => is_list); (case bzq => is_list); (case uzq => exact Lv.units (by assumption)); k_whole)))
  k_with "compareOp Eq ref ref" => (k_here; (with_reducible show wpAny _ _ (compareOp CmpOp.Eq (Value.ref _) (Value.ref _)) _ _ _); k_dflt ( (refine' eqNil ?azq ?bzq ?uzq ?_; (case azq => is_list); (case bzq => is_list); (case uzq => exact Lv.units (by assumption)); k_whole)))
  k_with "compareOp NotIn str ref" => (k_here; k_dflt (refine' topNotIn_K ?Fzq ?Xzq ?lzq ?kzq ?ezq ?ozq ?_; (case Fzq => k_asm); (case Xzq => k_asm); (case lzq => k_is); (case kzq => k_keys); (case ezq => first | with_reducible assumption | k_is); (case ozq => decide)))
  k_with "eval Name" => (k_here; k_inBlock; (with_reducible rename Fr _ _ _ _ => zzkF); k_dflt (first | (refine' nameQ_L zzkF ?azq ?_ ?bzq ?czq ?dzq ?ezq; (case azq => exact rfl); (case bzq => rfl); (case czq => rfl); (case dzq => rfl); (case ezq => decide); k_whole) | (refine' nameQ_F ?Nzq ?azq ?mzq ?dzq ?_ ?czq ?kzq ?xzq ?yzq; (case Nzq => k_asm); (case azq => exact rfl); (case mzq => k_mem); (case dzq => assumption); (case czq => rfl); (case kzq => rfl); (case xzq => decide); (case yzq => decide); k_whole) | (refine' nameQ_B zzkF ?k1zq ?k2zq ?k3zq ?k4zq ?k5zq ?_ ?bzq ?czq ?dzq ?ezq ?fzq; (case bzq => rfl); (case czq => rfl); (case dzq => rfl); (case ezq => rfl); (case fzq => decide); (case k1zq => k_asm); (case k2zq => k_asm); (case k3zq => k_is); (case k4zq => boot_by_name); (case k5zq => decide); k_whole)))
  k_with "subscriptTail" => (k_here; (with_reducible show wpAny _ _ (subscriptTail _ _ (Value.ref _) (Value.int 0 _)) _ _ _); k_dflt ( (refine' itemT0 ?Fzq ?tzq ?_; (case Fzq => k_asm); (case tzq => with_reducible assumption); k_whole)))
  k_with "ite" => (first | with_reducible refine ite_known_t (by assumption) ?_ | with_reducible refine ite_known_f (by assumption) ?_ | with_reducible refine ite_known_t rfl ?_ | with_reducible refine ite_known_f rfl ?_)
  k_with "k_all" => with_reducible assumption
  k_with "k_all" => ((repeat (rename _ ∧ _ => zzhqq; obtain ⟨_, _⟩ := zzhqq)); exact of_allLt (by with_reducible assumption))
  k_with "subscriptTail" => (k_here; (with_reducible show wpAny _ _ (subscriptTail _ _ (Value.ref _) (Value.str _ _)) _ _ _); k_dflt (refine' topItem_K ?Fzq ?Xzq ?lzq ?kzq ?ezq ?_; (case Fzq => k_asm); (case Xzq => k_asm); (case lzq => k_is); (case kzq => k_keys); (case ezq => with_reducible assumption); k_whole))
  k_with "subscriptTail" => (k_here; (with_reducible show wpAny _ _ (subscriptTail _ (PySem.Expr.Slice (some _) none none _) (Value.ref _) (Value.ref _)) _ _ _); k_dflt ( (refine' sliceT (a := 1) ?Fzq ?Nzq ?tzq ?azq ?bzq ?czq ?_ ?dzq ?ezq; (case Fzq => k_asm); (case Nzq => k_asm); (case tzq => assumption); (case azq => decide); (case bzq => exact Nat.le_of_ble_eq_true rfl); (case czq => exact Nat.le_of_ble_eq_true rfl); (case dzq => with_unfolding_all rfl); (case ezq => (intro _; with_unfolding_all rfl)); k_whole; intro zzhq zzrq zzFq zzNq zzl1; (try k_lt zzl1))))
  k_with "k_mem" => first | exact List.Mem.head _ | (refine' List.Mem.tail _ ?_; k_mem) | (show List.Mem _ _; assumption)
  k_with "unpackItems ref" => (k_here; k_dflt (refine' unpackItemsN_ ?k1zq ?k2zq ?k3zq ?k4zq ?k5zq ?_; (case k1zq => k_asm); (case k2zq => k_asm); (case k3zq => first | (with_reducible assumption) | exact News.isTup (by k_asm) (by k_mem) | exact Fr.tup (by k_asm) (by assumption)); (case k4zq => exact Lv.hh (by assumption)); (case k5zq => exact rfl); k_whole); intro zzhq zzFq zzNq; (try k_sweep))
  k_with "assign Tuple" => (k_here; (with_reducible show wpAny _ _ (assign (PySem.Expr.Tuple _ _ _) _ (Value.ref _)) _ _ _); k_dflt (refine' unpackN_ ?k1zq ?k2zq ?k3zq ?k4zq ?k5zq ?k6zq ?_; (case k1zq => k_asm); (case k2zq => k_asm); (case k3zq => first | (with_reducible assumption) | exact News.isTup (by k_asm) (by k_mem) | exact Fr.tup (by k_asm) (by assumption)); (case k4zq => exact Lv.hh (by assumption)); (case k5zq => exact rfl); (case k6zq => exact rfl); k_whole); intro zzhq zzFq zzNq; (try k_sweep))
  k_with "last exec While" => (k_here; (refine while_stop ?_))
  k_with "call builtin:list.pop" => (k_here; (try dsimp only); k_dflt ( (refine' kl_pop ?Fzq ?Nzq ?ezq ?Uzq ?zzq ?_; (case Fzq => k_asm); (case Nzq => k_asm); (case Uzq => k_upd); (case ezq => exact kl_last_snoc _ _); (case zzq => with_reducible assumption); k_whole; intro zzhq zzFq zzNq)))
  k_with "compareOp In int ref" => (k_here; k_dflt (refine' inD ?Nzq ?mzq ?dzq ?lzq ?_; (case Nzq => k_asm); (case mzq => k_mem); (case dzq => with_reducible assumption); (case lzq => with_reducible assumption); k_whole))
  k_with "subscriptTail" => (k_here; (with_reducible show wpAny _ _ (subscriptTail _ _ (Value.ref _) (Value.int _ _)) _ _ _); k_dflt (first | (refine' itemD ?Nzq ?mzq ?dzq ?vzq ?_ ?szq; (case Nzq => k_asm); (case mzq => k_mem); (case dzq => with_reducible assumption); (case vzq => with_reducible assumption); (case szq => with_unfolding_all rfl); k_whole) | (refine' itemO ?Fzq ?tzq ?azq ?xzq ?zzq ?_ ?szq; (case Fzq => k_asm); (case tzq => with_reducible assumption); (case azq => with_reducible assumption); (case xzq => with_reducible assumption); (case zzq => with_reducible assumption); (case szq => with_unfolding_all rfl); k_whole)))
  k_with "setItem ref int" => (k_here; k_dflt (refine' setD ?Fzq ?Nzq ?Uzq ?dzq ?zzq ?_; (case Fzq => k_asm); (case Nzq => k_asm); (case Uzq => k_updF); (case dzq => with_reducible assumption); (case zzq => with_reducible assumption); k_whole; intro zzhq zzoq zzFq zzNq zzdq; (try dsimp only at zzNq)))
  k_with "call builtin:list.extend" => (k_here; (with_reducible show wpAny _ _ (call (Value.builtin _) [Value.ref _, Value.ref _]) _ _ _); k_dflt (refine' extendK ?Fzq ?Nzq ?bzq ?Uzq ?zzq ?_; (case Fzq => k_asm); (case Nzq => k_asm); (case bzq => k_mem); (case Uzq => k_updF); (case zzq => with_reducible assumption); k_whole; intro zzhq zzcq zzFq zzNq; (try dsimp only at zzNq)))
  k_with "newTuple" => (k_here; k_dflt (refine' kup_newTuple ?Fzq ?Nzq ?_ ?zzq; (case Fzq => k_asm); (case Nzq => k_asm); (case zzq => exact Nat.le_of_ble_eq_true rfl)); intro zzDq zzhq zzFq zzNq zzl1; (try k_lt zzl1); (try k_sweep))
  k_with "exec For Name Call cons nil" => (k_here; (with_reducible rename Fr _ _ _ _ => zzlFq); k_dflt (refine' for_inv zzlFq ?j1zq ?j2zq ?j3zq ?_ ?j4zq; (case j1zq => with_unfolding_all rfl); (case j2zq => with_unfolding_all rfl); (case j3zq => with_unfolding_all rfl); (case j4zq => (intro _; with_unfolding_all rfl)); k_whole))
  k_with "execs cons Assign cons" => (k_here; (with_reducible refine wpAny_execs_cons ?_); (try dsimp only))
  k_with "subscriptTail" => (k_here; (with_reducible show wpAny _ _ (subscriptTail _ (PySem.Expr.Slice none (some _) none _) (Value.ref _) (Value.ref _)) _ _ _); k_dflt (first | (refine' sliceTwoA ?Fzq ?Nzq ?tzq ?_ ?dzq ?ezq; (case Fzq => k_asm); (case Nzq => k_asm); (case tzq => assumption); (case dzq => with_unfolding_all rfl); (case ezq => (intro _; with_unfolding_all rfl)); k_whole; intro zzhq zzFq zzNq) | (refine' sliceTwoB ?Fzq ?Nzq ?tzq ?_ ?dzq ?ezq; (case Fzq => k_asm); (case Nzq => k_asm); (case tzq => assumption); (case dzq => with_unfolding_all rfl); (case ezq => (intro _; with_unfolding_all rfl)); k_whole; intro zzhq zzrq zzFq zzNq zzl1; (try k_lt zzl1))))
  k_with "compareOp Eq ref ref" => (k_here; (with_reducible show wpAny _ _ (compareOp CmpOp.Eq (Value.ref _) (Value.ref _)) _ _ _); k_dflt ( (refine' eqTup2 ?uzq ?tazq ?tbzq ?e1zq ?e2zq ?_; (case uzq => exact Lv.units (by assumption)); (case tazq => first | exact News.isTup (by k_asm) (by k_mem) | exact Fr.tup (by k_asm) (by assumption)); (case tbzq => exact News.isTup (by k_asm) (by k_mem)); (case e1zq => exact SeqAt.EqAt.str_str _ _ _ _); (case e2zq => first | exact SeqAt.EqAt.str_str _ _ _ _ | exact SeqAt.EqAt.int_str _ _ _ _ | exact SeqAt.EqAt.tuple_str _ _ (Fr.tup (by k_asm) (by assumption)) (Lv.units (Lv.in1 (by assumption)))); k_whole)))
  k_with "compareOp In str ref" => (k_here; (with_reducible show wpAny _ _ (compareOp CmpOp.In (Value.str _ _) (Value.ref _)) _ _ _); (with_unfolding_all refine' in_tuple_strs ?k1zq ?k2zq ?_; (case k1zq => exact News.isTup (by k_asm) (List.Mem.head _)); (case k2zq => kde_strs); k_whole); (rename News _ _ _ _ => zzNq; replace zzNq := News.tail' zzNq); (try k_sweep))
  k_with "compareOp NotIn int ref" => (k_here; k_dflt (refine' notInD ?Nzq ?mzq ?dzq ?lzq ?_; (case Nzq => k_asm); (case mzq => k_mem); (case dzq => with_reducible assumption); (case lzq => with_reducible assumption); k_whole))
  k_with "assign Tuple" => (k_here; (with_reducible show wpAny _ _ (assign (PySem.Expr.Tuple _ _ _) _ (Value.ref _)) _ _ _); k_dflt (refine' kun_list ?k1zq ?k2zq ?k3zq ?k4zq ?k5zq ?k6zq ?_; (case k1zq => k_asm); (case k2zq => k_asm); (case k3zq => exact News.isList (by k_asm) (by k_mem)); (case k4zq => exact Lv.hh (by assumption)); (case k5zq => exact rfl); (case k6zq => exact rfl); k_whole); intro zzhq zzFq zzNq; (try k_sweep))
  trivial
section
variable {prog : Program} {w : World} {A : Around} {s : Shared} {R : Result → Shared → Prop} {a : Addr}
   {p : Program} {loose : List Str} {mean : ExcName → Option Value} {mg mb : Str → Option Value}
set_option maxHeartbeats 4000000 in
theorem labels_c {op : Op} (X : (Mine.hd.heap_1 w.params).In s.heap) (T : Top p loose mean mg mb s.heap) (hv : Lv A 1)
   (ho : OpAt s.heap a op)
   (h : ∀ h' tk r c vs, Ext s.heap h' → h'.get? r = some (seqObj "list" vs c) → s.heap.get? r = none → IntsAre vs.toList (labels op) → vs.size ≤ 40 → R (.ok (.ret (.ref r))) { s with heap := h', toks := tk }) :
   codeAny (model prog w) A (.call (.ref 29) ⟨[.ref a], []⟩) R s := by
  refine' enter (binds := [(Str.ofString "op", .ref a)]) X ?k5 ?k6 ?k7 ?k8 ?k9 ?kB ?_ ?c2 ?c3 ?c4 ?c5
  case k5 => exact T.nolimit
  case k6 => k_dflt k_is
  case k7 => k_dflt k_is
  case k8 => exact hv.room
  case k9 => exact rfl
  case c5 => decide
  case kB => exact locs rfl
  case c2 => exact rfl
  case c3 => exact rfl
  case c4 => exact rfl
  intro L h₁ F N
  refine hv.gen ?_
  clear hv
  intro A' hv
  try dsimp only
  try k_fold
  cases op with
  | jump l =>
    obtain ⟨t1, t2, ha⟩ := ho
    k_steps
    (rename Fr _ _ _ _ => Fe; rename News _ _ _ _ => Ne)
    exact h _ _ _ _ _ Fe.keep (Ne.get (.head _)) (Ne.fresh (.head _)) (.cons _ _ .nil) (Nat.le_of_ble_eq_true rfl)
  | lab k l =>
    obtain ⟨t1, t2, t3, ha⟩ := ho
    cases k <;> dsimp only [LK.str] at ha <;> k_steps <;> ((rename Fr _ _ _ _ => Fe; rename News _ _ _ _ => Ne); exact h _ _ _ _ _ Fe.keep (Ne.get (.head _)) (Ne.fresh (.head _)) (.cons _ _ .nil) (Nat.le_of_ble_eq_true rfl))
  | push l => 
    obtain ⟨t1, t2, t3, ha⟩ := ho
    k_steps
    · (rename Fr _ _ _ _ => Fe; rename News _ _ _ _ => Ne)
      rename l ≠ -1 => hl
      exact h _ _ _ _ _ Fe.keep (Ne.get (.head _)) (Ne.fresh (.head _)) (by simp only [labels, if_neg hl]; exact .cons _ _ .nil) (Nat.le_of_ble_eq_true rfl)
    · (rename Fr _ _ _ _ => Fe; rename News _ _ _ _ => Ne)
      rename l = -1 => hl
      exact h _ _ _ _ _ Fe.keep (Ne.get (.head _)) (Ne.fresh (.head _)) (by simp only [labels, if_pos hl]; exact .nil) (Nat.le_of_ble_eq_true rfl)
  | reck g l => 
    obtain ⟨t1, t2, t3, ha⟩ := ho
    k_steps
    · (rename Fr _ _ _ _ => Fe; rename News _ _ _ _ => Ne)
      rename l ≠ -1 => hl
      exact h _ _ _ _ _ Fe.keep (Ne.get (.head _)) (Ne.fresh (.head _)) (by simp only [labels, if_neg hl]; exact .cons _ _ .nil) (Nat.le_of_ble_eq_true rfl)
    · (rename Fr _ _ _ _ => Fe; rename News _ _ _ _ => Ne)
      rename l = -1 => hl
      exact h _ _ _ _ _ Fe.keep (Ne.get (.head _)) (Ne.fresh (.head _)) (by simp only [labels, if_pos hl]; exact .nil) (Nat.le_of_ble_eq_true rfl)
  | choose l => 
    obtain ⟨t1, b, vs, ha, hb, hv, hz⟩ := ho
    have hz2 : vs.toArray.size ≤ sizeLine := Nat.le_trans hz (Nat.le_of_ble_eq_true rfl)
    k_steps
    (rename Fr _ _ _ _ => Fe; rename News _ _ _ _ => Ne)
    exact h _ _ _ _ _ Fe.keep (Ne.get (.head _)) (Ne.fresh (.head _)) hv hz
  | perform i j => 
    obtain ⟨t1, t2, t3, ha⟩ := ho
    k_steps
    (rename Fr _ _ _ _ => Fe; rename News _ _ _ _ => Ne)
    exact h _ _ _ _ _ Fe.keep (Ne.get (.head _)) (Ne.fresh (.head _)) .nil (Nat.le_of_ble_eq_true rfl)
  | leave j => 
    obtain ⟨t1, t2, ha⟩ := ho
    k_steps
    (rename Fr _ _ _ _ => Fe; rename News _ _ _ _ => Ne)
    exact h _ _ _ _ _ Fe.keep (Ne.get (.head _)) (Ne.fresh (.head _)) .nil (Nat.le_of_ble_eq_true rfl)
  | stop e => 
    obtain ⟨t1, t2, ha⟩ := ho
    k_steps
    (rename Fr _ _ _ _ => Fe; rename News _ _ _ _ => Ne)
    exact h _ _ _ _ _ Fe.keep (Ne.get (.head _)) (Ne.fresh (.head _)) .nil (Nat.le_of_ble_eq_true rfl)
  | plain k => 
    obtain ⟨t1, t2, ha⟩ := ho
    cases k <;> dsimp only [PK.str] at ha <;> k_steps <;> ((rename Fr _ _ _ _ => Fe; rename News _ _ _ _ => Ne); exact h _ _ _ _ _ Fe.keep (Ne.get (.head _)) (Ne.fresh (.head _)) .nil (Nat.le_of_ble_eq_true rfl))
end
section
variable {prog : Program} {w : World} {A : Around} {s : Shared} {R : Result → Shared → Prop} {a : Addr} {h₀ : Heap} {L : Addr} {m : Str → Option Value} {news : Led}
   {p : Program} {loose : List Str} {mean : ExcName → Option Value} {mg mb : Str → Option Value}
theorem labels_k {op : Op} (F : Fr h₀ L s.heap m) (N : News h₀ L s.heap news) (X : (Mine.hd.heap_1 w.params).In h₀) (T : Top p loose mean mg mb h₀) (hv : Lv A 1) (ho : OpAt s.heap a op)
   (h : ∀ h' tk r c vs, Fr h₀ L h' m → News h₀ L h' ((r, seqObj "list" vs.toArray c) :: news) → (∀ q ∈ news, q.1 ≠ r) → IntsAre vs (labels op) → vs.length ≤ 40 → R (.ok (.ret (.ref r))) { s with heap := h', toks := tk }) :
   codeAny (model prog w) A (.call (.ref 29) ⟨[.ref a], []⟩) R s :=
  labels_c (X.keeps F.keep) (T.keeps F.keep) hv ho fun h' tk r c vs e1 e2 e3 e4 e5 => by
    obtain ⟨vs⟩ := vs
    exact h h' tk r c vs (fr_ext F e1) (News.ext_cons F N e1 e2 e3) (News.ext_apart N e3) e4 e5
end

end

section
theorem base_C2 : True := by
  k_with_none
  w_top off
  k_with "subscriptTail" => (k_here; (with_reducible show wpAny _ _ (subscriptTail _ _ (Value.ref _) (Value.int _ _)) _ _ _); k_dflt ( (refine' itemT ?Fzq ?tzq ?azq ?bzq ?czq ?dzq ?_; (case Fzq => k_asm); (case tzq => assumption); (case azq => decide); (case bzq => decide); (case czq => rfl); (case dzq => rfl); k_whole)))
  k_with "size_fits" => with_reducible assumption
  k_with "k_room" => exact Lv.room (by assumption)
  k_with "k_inst" => exact instUp (by assumption) (Fr.keep (by k_asm))
  k_with "call builtin:len" => (k_here; (with_reducible show wpAny _ _ (call (Value.builtin "len") [Value.ref _]) _ _ _); k_dflt ( (refine' lenT ?Fzq ?tzq ?azq ?bzq ?_; (case Fzq => k_asm); (case tzq => assumption); (case azq => first | assumption | rfl); (case bzq => first | assumption | decide); k_whole)))
  k_with "eval ListComp" => (k_here; (with_reducible rename Fr _ _ _ _ => zzlFq); k_dflt ( (refine' comp_inv zzlFq ?k1zq ?k2zq ?k3zq ?k4zq ?k5zq ?_ ?k6zq; (case k1zq => with_unfolding_all rfl); (case k2zq => decide); (case k3zq => with_unfolding_all rfl); (case k4zq => decide); (case k5zq => with_unfolding_all rfl); (case k6zq => (intro _; with_unfolding_all rfl)); k_whole)))
  k_with "exec Assign cons ListComp" => (k_here; (with_reducible rename Fr _ _ _ _ => zzlFq); k_dflt ( (refine' comp_assign zzlFq ?j1zq ?j2zq ?k1zq ?k2zq ?k3zq ?k4zq ?k5zq ?j3zq ?j4zq ?_ ?k6zq; (case j1zq => with_unfolding_all rfl); (case j2zq => with_unfolding_all rfl); (case j3zq => with_unfolding_all rfl); (case j4zq => with_unfolding_all rfl); (case k1zq => with_unfolding_all rfl); (case k2zq => decide); (case k3zq => with_unfolding_all rfl); (case k4zq => decide); (case k5zq => with_unfolding_all rfl); (case k6zq => (intro _; with_unfolding_all rfl)); k_whole)))
  k_with "compareOp NotEq ref ref" => (k_here; (with_reducible show wpAny _ _ (compareOp CmpOp.NotEq (Value.ref _) (Value.ref _)) _ _ _); k_dflt ( (refine' neNil ?azq ?bzq ?uzq ?_; (case azq => is_list); (case bzq => is_list); (case uzq => exact Lv.units (by assumption)); k_whole)))
  k_with "compareOp Eq ref ref" => (k_here; (with_reducible show wpAny _ _ (compareOp CmpOp.Eq (Value.ref _) (Value.ref _)) _ _ _); k_dflt ( (refine' eqNil ?azq ?bzq ?uzq ?_; (case azq => is_list); (case bzq => is_list); (case uzq => exact Lv.units (by assumption)); k_whole)))
  k_with "compareOp NotIn str ref" => (k_here; k_dflt (refine' topNotIn_K ?Fzq ?Xzq ?lzq ?kzq ?ezq ?ozq ?_; (case Fzq => k_asm); (case Xzq => k_asm); (case lzq => k_is); (case kzq => k_keys); (case ezq => first | with_reducible assumption | k_is); (case ozq => decide)))
  k_with "eval Name" => (k_here; k_inBlock; (with_reducible rename Fr _ _ _ _ => zzkF); k_dflt (first | (refine' nameQ_L zzkF ?azq ?_ ?bzq ?czq ?dzq ?ezq; (case azq => exact rfl); (case bzq => rfl); (case czq => rfl); (case dzq => rfl); (case ezq => decide); k_whole) | (refine' nameQ_F ?Nzq ?azq ?mzq ?dzq ?_ ?czq ?kzq ?xzq ?yzq; (case Nzq => k_asm); (case azq => exact rfl); (case mzq => k_mem); (case dzq => assumption); (case czq => rfl); (case kzq => rfl); (case xzq => decide); (case yzq => decide); k_whole) | (refine' nameQ_B zzkF ?k1zq ?k2zq ?k3zq ?k4zq ?k5zq ?_ ?bzq ?czq ?dzq ?ezq ?fzq; (case bzq => rfl); (case czq => rfl); (case dzq => rfl); (case ezq => rfl); (case fzq => decide); (case k1zq => k_asm); (case k2zq => k_asm); (case k3zq => k_is); (case k4zq => boot_by_name); (case k5zq => decide); k_whole)))
  k_with "subscriptTail" => (k_here; (with_reducible show wpAny _ _ (subscriptTail _ _ (Value.ref _) (Value.int 0 _)) _ _ _); k_dflt ( (refine' itemT0 ?Fzq ?tzq ?_; (case Fzq => k_asm); (case tzq => with_reducible assumption); k_whole)))
  k_with "ite" => (first | with_reducible refine ite_known_t (by assumption) ?_ | with_reducible refine ite_known_f (by assumption) ?_ | with_reducible refine ite_known_t rfl ?_ | with_reducible refine ite_known_f rfl ?_)
  k_with "k_all" => with_reducible assumption
  k_with "k_all" => ((repeat (rename _ ∧ _ => zzhqq; obtain ⟨_, _⟩ := zzhqq)); exact of_allLt (by with_reducible assumption))
  k_with "subscriptTail" => (k_here; (with_reducible show wpAny _ _ (subscriptTail _ _ (Value.ref _) (Value.str _ _)) _ _ _); k_dflt (refine' topItem_K ?Fzq ?Xzq ?lzq ?kzq ?ezq ?_; (case Fzq => k_asm); (case Xzq => k_asm); (case lzq => k_is); (case kzq => k_keys); (case ezq => with_reducible assumption); k_whole))
  k_with "subscriptTail" => (k_here; (with_reducible show wpAny _ _ (subscriptTail _ (PySem.Expr.Slice (some _) none none _) (Value.ref _) (Value.ref _)) _ _ _); k_dflt ( (refine' sliceT (a := 1) ?Fzq ?Nzq ?tzq ?azq ?bzq ?czq ?_ ?dzq ?ezq; (case Fzq => k_asm); (case Nzq => k_asm); (case tzq => assumption); (case azq => decide); (case bzq => exact Nat.le_of_ble_eq_true rfl); (case czq => exact Nat.le_of_ble_eq_true rfl); (case dzq => with_unfolding_all rfl); (case ezq => (intro _; with_unfolding_all rfl)); k_whole; intro zzhq zzrq zzFq zzNq zzl1; (try k_lt zzl1))))
  k_with "k_mem" => first | exact List.Mem.head _ | (refine' List.Mem.tail _ ?_; k_mem) | (show List.Mem _ _; assumption)
  k_with "unpackItems ref" => (k_here; k_dflt (refine' unpackItemsN_ ?k1zq ?k2zq ?k3zq ?k4zq ?k5zq ?_; (case k1zq => k_asm); (case k2zq => k_asm); (case k3zq => first | (with_reducible assumption) | exact News.isTup (by k_asm) (by k_mem) | exact Fr.tup (by k_asm) (by assumption)); (case k4zq => exact Lv.hh (by assumption)); (case k5zq => exact rfl); k_whole); intro zzhq zzFq zzNq; (try k_sweep))
  k_with "assign Tuple" => (k_here; (with_reducible show wpAny _ _ (assign (PySem.Expr.Tuple _ _ _) _ (Value.ref _)) _ _ _); k_dflt (refine' unpackN_ ?k1zq ?k2zq ?k3zq ?k4zq ?k5zq ?k6zq ?_; (case k1zq => k_asm); (case k2zq => k_asm); (case k3zq => first | (with_reducible assumption) | exact News.isTup (by k_asm) (by k_mem) | exact Fr.tup (by k_asm) (by assumption)); (case k4zq => exact Lv.hh (by assumption)); (case k5zq => exact rfl); (case k6zq => exact rfl); k_whole); intro zzhq zzFq zzNq; (try k_sweep))
  k_with "last exec While" => (k_here; (refine while_stop ?_))
  k_with "call builtin:list.pop" => (k_here; (try dsimp only); k_dflt ( (refine' kl_pop ?Fzq ?Nzq ?ezq ?Uzq ?zzq ?_; (case Fzq => k_asm); (case Nzq => k_asm); (case Uzq => k_upd); (case ezq => exact kl_last_snoc _ _); (case zzq => with_reducible assumption); k_whole; intro zzhq zzFq zzNq)))
  k_with "compareOp In int ref" => (k_here; k_dflt (refine' inD ?Nzq ?mzq ?dzq ?lzq ?_; (case Nzq => k_asm); (case mzq => k_mem); (case dzq => with_reducible assumption); (case lzq => with_reducible assumption); k_whole))
  k_with "subscriptTail" => (k_here; (with_reducible show wpAny _ _ (subscriptTail _ _ (Value.ref _) (Value.int _ _)) _ _ _); k_dflt (first | (refine' itemD ?Nzq ?mzq ?dzq ?vzq ?_ ?szq; (case Nzq => k_asm); (case mzq => k_mem); (case dzq => with_reducible assumption); (case vzq => with_reducible assumption); (case szq => with_unfolding_all rfl); k_whole) | (refine' itemO ?Fzq ?tzq ?azq ?xzq ?zzq ?_ ?szq; (case Fzq => k_asm); (case tzq => with_reducible assumption); (case azq => with_reducible assumption); (case xzq => with_reducible assumption); (case zzq => with_reducible assumption); (case szq => with_unfolding_all rfl); k_whole)))
  k_with "setItem ref int" => (k_here; k_dflt (refine' setD ?Fzq ?Nzq ?Uzq ?dzq ?zzq ?_; (case Fzq => k_asm); (case Nzq => k_asm); (case Uzq => k_updF); (case dzq => with_reducible assumption); (case zzq => with_reducible assumption); k_whole; intro zzhq zzoq zzFq zzNq zzdq; (try dsimp only at zzNq)))
  k_with "call builtin:list.extend" => (k_here; (with_reducible show wpAny _ _ (call (Value.builtin _) [Value.ref _, Value.ref _]) _ _ _); k_dflt (refine' extendK ?Fzq ?Nzq ?bzq ?Uzq ?zzq ?_; (case Fzq => k_asm); (case Nzq => k_asm); (case bzq => k_mem); (case Uzq => k_updF); (case zzq => with_reducible assumption); k_whole; intro zzhq zzcq zzFq zzNq; (try dsimp only at zzNq)))
  k_with "newTuple" => (k_here; k_dflt (refine' kup_newTuple ?Fzq ?Nzq ?_ ?zzq; (case Fzq => k_asm); (case Nzq => k_asm); (case zzq => exact Nat.le_of_ble_eq_true rfl)); intro zzDq zzhq zzFq zzNq zzl1; (try k_lt zzl1); (try k_sweep))
  k_with "exec For Name Call cons nil" => (k_here; (with_reducible rename Fr _ _ _ _ => zzlFq); k_dflt (refine' for_inv zzlFq ?j1zq ?j2zq ?j3zq ?_ ?j4zq; (case j1zq => with_unfolding_all rfl); (case j2zq => with_unfolding_all rfl); (case j3zq => with_unfolding_all rfl); (case j4zq => (intro _; with_unfolding_all rfl)); k_whole))
  k_with "execs cons Assign cons" => (k_here; (with_reducible refine wpAny_execs_cons ?_); (try dsimp only))
  k_with "subscriptTail" => (k_here; (with_reducible show wpAny _ _ (subscriptTail _ (PySem.Expr.Slice none (some _) none _) (Value.ref _) (Value.ref _)) _ _ _); k_dflt (first | (refine' sliceTwoA ?Fzq ?Nzq ?tzq ?_ ?dzq ?ezq; (case Fzq => k_asm); (case Nzq => k_asm); (case tzq => assumption); (case dzq => with_unfolding_all rfl); (case ezq => (intro _; with_unfolding_all rfl)); k_whole; intro zzhq zzFq zzNq) | (refine' sliceTwoB ?Fzq ?Nzq ?tzq ?_ ?dzq ?ezq; (case Fzq => k_asm); (case Nzq => k_asm); (case tzq => assumption); (case dzq => with_unfolding_all rfl); (case ezq => (intro _; with_unfolding_all rfl)); k_whole; intro zzhq zzrq zzFq zzNq zzl1; (try k_lt zzl1))))
  k_with "compareOp Eq ref ref" => (k_here; (with_reducible show wpAny _ _ (compareOp CmpOp.Eq (Value.ref _) (Value.ref _)) _ _ _); k_dflt ( (refine' eqTup2 ?uzq ?tazq ?tbzq ?e1zq ?e2zq ?_; (case uzq => exact Lv.units (by assumption)); (case tazq => first | exact News.isTup (by k_asm) (by k_mem) | exact Fr.tup (by k_asm) (by assumption)); (case tbzq => exact News.isTup (by k_asm) (by k_mem)); (case e1zq => exact SeqAt.EqAt.str_str _ _ _ _); (case e2zq => first | exact SeqAt.EqAt.str_str _ _ _ _ | exact SeqAt.EqAt.int_str _ _ _ _ | exact SeqAt.EqAt.tuple_str _ _ (Fr.tup (by k_asm) (by assumption)) (Lv.units (Lv.in1 (by assumption)))); k_whole)))
  k_with "compareOp In str ref" => (k_here; (with_reducible show wpAny _ _ (compareOp CmpOp.In (Value.str _ _) (Value.ref _)) _ _ _); (with_unfolding_all refine' in_tuple_strs ?k1zq ?k2zq ?_; (case k1zq => exact News.isTup (by k_asm) (List.Mem.head _)); (case k2zq => kde_strs); k_whole); (rename News _ _ _ _ => zzNq; replace zzNq := News.tail' zzNq); (try k_sweep))
  k_with "compareOp NotIn int ref" => (k_here; k_dflt (refine' notInD ?Nzq ?mzq ?dzq ?lzq ?_; (case Nzq => k_asm); (case mzq => k_mem); (case dzq => with_reducible assumption); (case lzq => with_reducible assumption); k_whole))
  k_with "assign Tuple" => (k_here; (with_reducible show wpAny _ _ (assign (PySem.Expr.Tuple _ _ _) _ (Value.ref _)) _ _ _); k_dflt (refine' kun_list ?k1zq ?k2zq ?k3zq ?k4zq ?k5zq ?k6zq ?_; (case k1zq => k_asm); (case k2zq => k_asm); (case k3zq => exact News.isList (by k_asm) (by k_mem)); (case k4zq => exact Lv.hh (by assumption)); (case k5zq => exact rfl); (case k6zq => exact rfl); k_whole); intro zzhq zzFq zzNq; (try k_sweep))
  trivial
theorem lines_C2_1 : True := by
  k_with "call ref" => (k_here; (with_reducible show wpAny _ _ (call (Value.ref _) _) _ _ _); (refine wpAny_call ?_); k_dflt ( (refine' labels_k ?Fzq ?Nzq ?Xzq ?Tzq ?vzq ?ozq ?_; (case Fzq => k_asm); (case Nzq => k_asm); (case Xzq => k_asm); (case Tzq => k_asm); (case vzq => exact Lv.le (by assumption) (by decide)); (case ozq => exact OpAt.keeps (Fr.keep (by k_asm)) (by assumption)); k_whole; intro zzhq zztkq zzrq zzcq zzvsq zzFq zzNq zzl1 zzei zzez; (try dsimp only); (try k_fold))))
  trivial
noncomputable def labOk (n : Int) (l : Int) : Bool := decide (0 ≤ l) && decide (l < n)
noncomputable def extraOk (nb : Int) : Op → Bool
  | .reck .bad _ => false
  | .perform i j => labOk nb i && labOk nb j
  | .leave i => labOk nb i
  | .stop .halt => false
  | .plain .none_ => false
  | _ => true
noncomputable def formOk (n nb : Int) (op : Op) : Bool := (labels op).all (labOk n) && extraOk nb op
theorem filt_bad {n : Int} {ls : List Int} {k : Nat} {acc : List Value} (h : IntsAre acc ((ls.take k).filter (fun l => !labOk n l))) (e : acc.isEmpty = false) : ls.all (labOk n) = false := by
  rw [ints_nil h] at e
  rw [List.all_eq_false]
  cases q : (ls.take k).filter (fun l => !labOk n l) with
  | nil => rw [q] at e; simp at e
  | cons x r =>
    have hx : x ∈ (ls.take k).filter (fun l => !labOk n l) := by rw [q]; exact .head _
    rw [List.mem_filter] at hx
    exact ⟨x, List.mem_of_mem_take hx.1, by simpa using hx.2⟩
theorem filt_good {n : Int} {ls : List Int} {acc : List Value} (h : IntsAre acc ((ls.take ls.length).filter (fun l => !labOk n l))) (e : acc.isEmpty = true) : ls.all (labOk n) = true := by
  rw [List.take_length] at h
  rw [ints_nil h] at e
  rw [List.all_eq_true]
  intro x hx
  cases q : labOk n x with
  | true => rfl
  | false =>
    have : x ∈ ls.filter (fun l => !labOk n l) := List.mem_filter.mpr ⟨hx, by simp [q]⟩
    cases q2 : ls.filter (fun l => !labOk n l) with
    | nil => rw [q2] at this; cases this
    | cons y r => rw [q2] at e; simp at e
theorem form_bad {n nb : Int} {op : Op} {acc : List Value} (h : IntsAre acc ((labels op).filter (fun l => !labOk n l))) (e : acc.isEmpty = false) : formOk n nb op = false := by
  rw [ints_nil h] at e
  unfold formOk
  rw [Bool.and_eq_false_iff]
  left
  rw [List.all_eq_false]
  cases q : (labels op).filter (fun l => !labOk n l) with
  | nil => rw [q] at e; simp at e
  | cons x r =>
    have hx : x ∈ (labels op).filter (fun l => !labOk n l) := by rw [q]; exact .head _
    rw [List.mem_filter] at hx
    exact ⟨x, hx.1, by simpa using hx.2⟩
theorem form_good {n nb : Int} {op : Op} {acc : List Value} (h : IntsAre acc ((labels op).filter (fun l => !labOk n l))) (e : acc.isEmpty = true) : formOk n nb op = extraOk nb op := by
  rw [ints_nil h] at e
  unfold formOk
  have : (labels op).all (labOk n) = true := by
    rw [List.all_eq_true]
    intro x hx
    cases q : labOk n x with
    | true => rfl
    | false =>
      have : x ∈ (labels op).filter (fun l => !labOk n l) := List.mem_filter.mpr ⟨hx, by simp [q]⟩
      cases q2 : (labels op).filter (fun l => !labOk n l) with
      | nil => rw [q2] at this; cases this
      | cons y r => rw [q2] at e; simp at e
  rw [this, Bool.true_and]
section
variable {prog : Program} {w : World} {A : Around} {s : Shared} {R : Result → Shared → Prop} {a c o b : Addr} {as : List Addr} {bs : List Value} {ops : List Op} {begins : List Int}
   {p : Program} {loose : List Str} {mean : ExcName → Option Value} {mg mb : Str → Option Value}
theorem word_args (op : Op) (hn : op ≠ .plain .none_) {h : Heap} {a : Addr} (ho : OpAt h a op) : ∃ n k t t0 rest, nsIn (Mine.hd.heap_1 w.params) 22 op.word = some (some (.int k t)) ∧ IsTup h a (.str op.word t0 :: rest).toArray ∧ (List.toArray (.str op.word t0 :: rest)).size = n ∧ k + 1 = (n : Int) ∧ n < 1000 := by
  cases op with
  | choose ls => obtain ⟨t1, b, vs, x, _⟩ := ho; exact ⟨2, 1, _, _, _, (by show nsIn _ _ (Str.ofString "choose") = _; k_dflt k_is), x, rfl, rfl, by decide⟩
  | jump l => obtain ⟨t1, t2, x⟩ := ho; exact ⟨2, 1, _, _, _, (by show nsIn _ _ (Str.ofString "jump") = _; k_dflt k_is), x, rfl, rfl, by decide⟩
  | leave l => obtain ⟨t1, t2, x⟩ := ho; exact ⟨2, 1, _, _, _, (by show nsIn _ _ (Str.ofString "leave") = _; k_dflt k_is), x, rfl, rfl, by decide⟩
  | stop l => obtain ⟨t1, t2, x⟩ := ho; exact ⟨2, 1, _, _, _, (by show nsIn _ _ (Str.ofString "stop") = _; k_dflt k_is), x, rfl, rfl, by decide⟩
  | plain k =>
    cases k with
    | none_ => exact absurd rfl hn
    | do_ => obtain ⟨t1, t2, x⟩ := ho; exact ⟨2, 1, _, _, _, (by show nsIn _ _ (Str.ofString "do") = _; k_dflt k_is), x, rfl, rfl, by decide⟩
    | count => obtain ⟨t1, t2, x⟩ := ho; exact ⟨2, 1, _, _, _, (by show nsIn _ _ (Str.ofString "count") = _; k_dflt k_is), x, rfl, rfl, by decide⟩
  | lab k l =>
    cases k with
    | put => obtain ⟨t1, t2, t3, x⟩ := ho; exact ⟨3, 2, _, _, _, (by show nsIn _ _ (Str.ofString "put") = _; k_dflt k_is), x, rfl, rfl, by decide⟩
    | key => obtain ⟨t1, t2, t3, x⟩ := ho; exact ⟨3, 2, _, _, _, (by show nsIn _ _ (Str.ofString "key") = _; k_dflt k_is), x, rfl, rfl, by decide⟩
    | test => obtain ⟨t1, t2, t3, x⟩ := ho; exact ⟨3, 2, _, _, _, (by show nsIn _ _ (Str.ofString "test") = _; k_dflt k_is), x, rfl, rfl, by decide⟩
    | less => obtain ⟨t1, t2, t3, x⟩ := ho; exact ⟨3, 2, _, _, _, (by show nsIn _ _ (Str.ofString "less") = _; k_dflt k_is), x, rfl, rfl, by decide⟩
  | push l => obtain ⟨t1, t2, t3, x⟩ := ho; exact ⟨3, 2, _, _, _, (by show nsIn _ _ (Str.ofString "push") = _; k_dflt k_is), x, rfl, rfl, by decide⟩
  | reck g l => obtain ⟨t1, t2, t3, x⟩ := ho; exact ⟨3, 2, _, _, _, (by show nsIn _ _ (Str.ofString "calc") = _; k_dflt k_is), x, rfl, rfl, by decide⟩
  | perform i j => obtain ⟨t1, t2, t3, x⟩ := ho; exact ⟨3, 2, _, _, _, (by show nsIn _ _ (Str.ofString "perform") = _; k_dflt k_is), x, rfl, rfl, by decide⟩
theorem form_words (op : Op) (hA : ¬ ((∃ g l, op = .reck g l) ∨ (∃ i j, op = .perform i j) ∨ (∃ i, op = .leave i) ∨ (∃ e, op = .stop e))) :
    (op.word == Str.ofString "calc") = false ∧ ([Str.ofString "perform", Str.ofString "leave"].any fun x => x == op.word) = false ∧ (op.word == Str.ofString "stop") = false ∧ (op ≠ .plain .none_ → ∀ nb, extraOk nb op = true) := by
  cases op with
  | reck g l => exact absurd (.inl ⟨_, _, rfl⟩) hA
  | perform g l => exact absurd (.inr (.inl ⟨_, _, rfl⟩)) hA
  | leave g => exact absurd (.inr (.inr (.inl ⟨_, rfl⟩))) hA
  | stop g => exact absurd (.inr (.inr (.inr ⟨_, rfl⟩))) hA
  | lab k l => cases k <;> exact ⟨rfl, rfl, rfl, fun _ _ => rfl⟩
  | plain k =>
    cases k with
    | none_ => exact ⟨rfl, rfl, rfl, fun q => absurd rfl q⟩
    | _ => exact ⟨rfl, rfl, rfl, fun _ _ => rfl⟩
  | _ => exact ⟨rfl, rfl, rfl, fun _ _ => rfl⟩
set_option maxHeartbeats 4000000 in
theorem form_c {op : Op} (X : (Mine.hd.heap_1 w.params).In s.heap) (T : Top p loose mean mg mb s.heap) (hv : Lv A 3)
   (hc : CodeAt w.params s.heap c o b as bs ops begins) (hz : ops.length < 40) (hz2 : begins.length < 40) (ho : OpAt s.heap a op)
   (h : ∀ h' tk x t, Ext s.heap h' → (x = Str.ofString "" ↔ formOk ops.length begins.length op = true) → R (.ok (.ret (.str x t))) { s with heap := h', toks := tk }) :
   codeAny (model prog w) A (.call (.ref 34) ⟨[.ref c, .ref a], []⟩) R s := by
  obtain ⟨⟨dx, tq1, tq2, nq, I⟩, hoT, hoE, hbT, hbI⟩ := hc
  have hn1 : (as.map Value.ref).toArray.size = ops.length := by simp [hoE.length]
  have hn2 : bs.toArray.size = begins.length := by simp [hbI.length]
  have hz1' : ops.length < 1000 := by (first | lia | omega)
  have hz2' : begins.length < 1000 := by (first | lia | omega)
  refine' enterC (binds := [(Str.ofString "code", .ref c), (Str.ofString "op", .ref a)]) [] (fun _ h => nomatch h) X ?k5 ?k6 ?k7 ?k8 ?k9 ?kB ?kD ?_ ?c2 ?c3 ?c4
  case k5 => exact T.nolimit
  case k6 => k_dflt k_is
  case k7 => k_dflt k_is
  case k8 => exact hv.room
  case k9 => exact rfl
  case kB => exact kindsX rfl
  case kD => decide +kernel
  case c2 => exact rfl
  case c3 => exact rfl
  case c4 => exact rfl
  intro L h₁ tk cells F N Y
  change Fr s.heap _ _ _ at F
  change News s.heap _ _ _ at N
  k_cells Y
  (try rw [List.append_nil] at N)
  refine hv.gen ?_
  clear hv
  intro A' hv
  try dsimp only
  try k_fold
  have ho' := ho
  by_cases hno : op = .plain .none_
  · subst hno
    obtain ⟨t1, t2, ha⟩ := ho
    dsimp only [PK.str] at ha
    k_steps
    (rename Fr _ _ _ _ => Fe; rename News _ _ _ _ => Ne)
    exact h _ _ _ _ Fe.keep ⟨fun q => absurd q (by decide), fun q => absurd (show (false : Bool) = true from q) (by decide)⟩
  · obtain ⟨nn, kk, tt, t0, rest, hns, ha, hla, hkn, hnn⟩ := word_args (w := w) op hno ho
    k_steps
    · exfalso; (first | lia | omega)
    · (rename Fr _ _ _ _ => Fe; rename News _ _ _ _ => Ne)
      rename IntsAre _ (labels _) => ei; rename List.length _ ≤ 40 => ez
      refine pack_list hv.hh Fe Ne (.head _) (by first | omega | exact Nat.le_of_ble_eq_true rfl) (fun i acc => IntsAre acc (((labels op).take i).filter (fun l => !labOk ops.length l))) .nil ?_ ?_
      · intro base kb i v acc own h tk m₁ C hi hP hG F5 N5
        obtain ⟨n, t, hn, rfl⟩ := ints_get ei hP
        replace X := X.keeps kb
        replace T := T.keeps kb
        try (replace I := instUp I kb)
        try (replace hoT := hoT.keeps kb)
        try (replace hbT := hbT.keeps kb)
        simp only [List.cons_append, List.nil_append] at N5
        refine wpAny_tests_one ?_
        try dsimp only
        try k_fold
        k_steps
        · (rename Fr _ _ _ _ => Fe; rename News _ _ _ _ => Ne)
          refine PEnd.intro Fe Ne (fun q hq => hq) ?_
          have e : labOk ops.length n = true := by unfold labOk; rw [Bool.and_eq_true]; exact ⟨decide_eq_true (by assumption), decide_eq_true (by assumption)⟩
          rw [filter_take _ hn, e]; simpa using hG
        · (rename Fr _ _ _ _ => Fe; rename News _ _ _ _ => Ne)
          refine PEnd.intro Fe Ne (fun q hq => hq) ?_
          have e : labOk ops.length n = false := by unfold labOk; rw [Bool.and_eq_false_iff]; exact .inr (decide_eq_false (by assumption))
          rw [filter_take _ hn, e]; simpa using ints_snoc hG n t
        · (rename Fr _ _ _ _ => Fe; rename News _ _ _ _ => Ne)
          refine PEnd.intro Fe Ne (fun q hq => hq) ?_
          have e : labOk ops.length n = false := by unfold labOk; rw [Bool.and_eq_false_iff]; exact .inl (decide_eq_false (by assumption))
          rw [filter_take _ hn, e]; simpa using ints_snoc hG n t
      · intro D h' tk c acc F5 N5 hd hG
        rw [ei.length, List.take_length] at hG
        try dsimp only
        try k_fold
        by_cases hA : (∃ g l, op = .reck g l) ∨ (∃ i j, op = .perform i j) ∨ (∃ i, op = .leave i) ∨ (∃ e, op = .stop e)
        · rcases hA with ⟨g, l, rfl⟩ | ⟨u1, u2, rfl⟩ | ⟨u1, rfl⟩ | ⟨e, rfl⟩
          · clear ha
            obtain ⟨t1, t2, t3, ha⟩ := ho
            k_steps
            · (rename Fr _ _ _ _ => Fe; rename News _ _ _ _ => Ne)
              rename List.any _ _ = true => q
              refine h _ _ _ _ Fe.keep ⟨fun _ => ?_, fun _ => rfl⟩
              rw [form_good hG (by assumption)]
              cases g <;> first | rfl | exact absurd q (by decide)
            · (rename Fr _ _ _ _ => Fe; rename News _ _ _ _ => Ne)
              rename List.any _ _ = false => q
              refine h _ _ _ _ Fe.keep ⟨fun q => absurd q (by decide), fun q2 => absurd q2 ?_⟩
              rw [form_good hG (by assumption)]
              cases g <;> first | exact absurd q (by decide) | exact Bool.false_ne_true
            · (rename Fr _ _ _ _ => Fe; rename News _ _ _ _ => Ne)
              exact h _ _ _ _ Fe.keep ⟨fun q => absurd q (by decide), fun q => absurd (form_bad hG (by assumption)) (by rw [q]; decide)⟩
          · clear ha
            obtain ⟨t1, t2, t3, ha⟩ := ho
            k_steps
            · (rename Fr _ _ _ _ => Fe; rename News _ _ _ _ => Ne)
              have ej : IntsAre _ [u1, u2] := .cons u1 t2 (.cons u2 t3 .nil)
              refine pack_tupN hv.hh Fe Ne (.head _) (by first | omega | exact Nat.le_of_ble_eq_true rfl) (fun i acc => IntsAre acc ((([u1, u2]).take i).filter (fun l => !labOk begins.length l))) .nil ?_ ?_
              · intro base kb i v acc own h tk m₁ C hi hP hG F5 N5
                obtain ⟨n, t, hn, rfl⟩ := ints_get ej hP
                replace X := X.keeps kb
                replace T := T.keeps kb
                try (replace I := instUp I kb)
                try (replace hoT := hoT.keeps kb)
                try (replace hbT := hbT.keeps kb)
                simp only [List.cons_append, List.nil_append] at N5
                refine wpAny_tests_one ?_
                try dsimp only
                try k_fold
                k_steps
                · (rename Fr _ _ _ _ => Fe; rename News _ _ _ _ => Ne)
                  refine PEnd.intro Fe Ne (fun q hq => hq) ?_
                  have e : labOk begins.length n = true := by unfold labOk; rw [Bool.and_eq_true]; exact ⟨decide_eq_true (by assumption), decide_eq_true (by assumption)⟩
                  rw [filter_take _ hn, e]; simpa using hG
                · (rename Fr _ _ _ _ => Fe; rename News _ _ _ _ => Ne)
                  refine PEnd.intro Fe Ne (fun q hq => hq) ?_
                  have e : labOk begins.length n = false := by unfold labOk; rw [Bool.and_eq_false_iff]; exact .inr (decide_eq_false (by assumption))
                  rw [filter_take _ hn, e]; simpa using ints_snoc hG n t
                · (rename Fr _ _ _ _ => Fe; rename News _ _ _ _ => Ne)
                  refine PEnd.intro Fe Ne (fun q hq => hq) ?_
                  have e : labOk begins.length n = false := by unfold labOk; rw [Bool.and_eq_false_iff]; exact .inl (decide_eq_false (by assumption))
                  rw [filter_take _ hn, e]; simpa using ints_snoc hG n t
              · intro D h' tk c acc' F5 N5 hd hG2
                try dsimp only
                try k_fold
                k_steps
                · (rename Fr _ _ _ _ => Fe; rename News _ _ _ _ => Ne)
                  refine h _ _ _ _ Fe.keep ⟨fun _ => ?_, fun _ => rfl⟩
                  rw [form_good hG (by assumption)]
                  have z := filt_good (ls := [u1, u2]) hG2 (by assumption)
                  simpa [extraOk] using z
                · (rename Fr _ _ _ _ => Fe; rename News _ _ _ _ => Ne)
                  refine h _ _ _ _ Fe.keep ⟨fun q => absurd q (by decide), fun q => absurd q ?_⟩
                  rw [form_good hG (by assumption)]
                  rw [show extraOk begins.length _ = ([u1, u2]).all (labOk begins.length) from by simp [extraOk]]
                  rw [filt_bad hG2 (by assumption)]
                  decide
            · (rename Fr _ _ _ _ => Fe; rename News _ _ _ _ => Ne)
              exact h _ _ _ _ Fe.keep ⟨fun q => absurd q (by decide), fun q => absurd (form_bad hG (by assumption)) (by rw [q]; decide)⟩
          · clear ha
            obtain ⟨t1, t2, ha⟩ := ho
            k_steps
            · (rename Fr _ _ _ _ => Fe; rename News _ _ _ _ => Ne)
              have ej : IntsAre _ [u1] := .cons u1 t2 .nil
              refine pack_tupN hv.hh Fe Ne (.head _) (by first | omega | exact Nat.le_of_ble_eq_true rfl) (fun i acc => IntsAre acc ((([u1]).take i).filter (fun l => !labOk begins.length l))) .nil ?_ ?_
              · intro base kb i v acc own h tk m₁ C hi hP hG F5 N5
                obtain ⟨n, t, hn, rfl⟩ := ints_get ej hP
                replace X := X.keeps kb
                replace T := T.keeps kb
                try (replace I := instUp I kb)
                try (replace hoT := hoT.keeps kb)
                try (replace hbT := hbT.keeps kb)
                simp only [List.cons_append, List.nil_append] at N5
                refine wpAny_tests_one ?_
                try dsimp only
                try k_fold
                k_steps
                · (rename Fr _ _ _ _ => Fe; rename News _ _ _ _ => Ne)
                  refine PEnd.intro Fe Ne (fun q hq => hq) ?_
                  have e : labOk begins.length n = true := by unfold labOk; rw [Bool.and_eq_true]; exact ⟨decide_eq_true (by assumption), decide_eq_true (by assumption)⟩
                  rw [filter_take _ hn, e]; simpa using hG
                · (rename Fr _ _ _ _ => Fe; rename News _ _ _ _ => Ne)
                  refine PEnd.intro Fe Ne (fun q hq => hq) ?_
                  have e : labOk begins.length n = false := by unfold labOk; rw [Bool.and_eq_false_iff]; exact .inr (decide_eq_false (by assumption))
                  rw [filter_take _ hn, e]; simpa using ints_snoc hG n t
                · (rename Fr _ _ _ _ => Fe; rename News _ _ _ _ => Ne)
                  refine PEnd.intro Fe Ne (fun q hq => hq) ?_
                  have e : labOk begins.length n = false := by unfold labOk; rw [Bool.and_eq_false_iff]; exact .inl (decide_eq_false (by assumption))
                  rw [filter_take _ hn, e]; simpa using ints_snoc hG n t
              · intro D h' tk c acc' F5 N5 hd hG2
                try dsimp only
                try k_fold
                k_steps
                · (rename Fr _ _ _ _ => Fe; rename News _ _ _ _ => Ne)
                  refine h _ _ _ _ Fe.keep ⟨fun _ => ?_, fun _ => rfl⟩
                  rw [form_good hG (by assumption)]
                  have z := filt_good (ls := [u1]) hG2 (by assumption)
                  simpa [extraOk] using z
                · (rename Fr _ _ _ _ => Fe; rename News _ _ _ _ => Ne)
                  refine h _ _ _ _ Fe.keep ⟨fun q => absurd q (by decide), fun q => absurd q ?_⟩
                  rw [form_good hG (by assumption)]
                  rw [show extraOk begins.length _ = ([u1]).all (labOk begins.length) from by simp [extraOk]]
                  rw [filt_bad hG2 (by assumption)]
                  decide
            · (rename Fr _ _ _ _ => Fe; rename News _ _ _ _ => Ne)
              exact h _ _ _ _ Fe.keep ⟨fun q => absurd q (by decide), fun q => absurd (form_bad hG (by assumption)) (by rw [q]; decide)⟩
          · clear ha
            obtain ⟨t1, t2, ha⟩ := ho
            k_steps
            · (rename Fr _ _ _ _ => Fe; rename News _ _ _ _ => Ne)
              rename List.any _ _ = true => q
              refine h _ _ _ _ Fe.keep ⟨fun _ => ?_, fun _ => rfl⟩
              rw [form_good hG (by assumption)]
              cases e <;> first | rfl | exact absurd q (by decide)
            · (rename Fr _ _ _ _ => Fe; rename News _ _ _ _ => Ne)
              rename List.any _ _ = false => q
              refine h _ _ _ _ Fe.keep ⟨fun q => absurd q (by decide), fun q2 => absurd q2 ?_⟩
              rw [form_good hG (by assumption)]
              cases e <;> first | exact absurd q (by decide) | exact Bool.false_ne_true
            · (rename Fr _ _ _ _ => Fe; rename News _ _ _ _ => Ne)
              exact h _ _ _ _ Fe.keep ⟨fun q => absurd q (by decide), fun q => absurd (form_bad hG (by assumption)) (by rw [q]; decide)⟩
        · obtain ⟨f1, f2, f3, f4⟩ := form_words op hA
          k_steps
          · (rename Fr _ _ _ _ => Fe; rename News _ _ _ _ => Ne)
            exact h _ _ _ _ Fe.keep ⟨fun _ => by rw [form_good hG (by assumption)]; exact f4 hno _, fun _ => rfl⟩
          · (rename Fr _ _ _ _ => Fe; rename News _ _ _ _ => Ne)
            exact h _ _ _ _ Fe.keep ⟨fun q => absurd q (by decide), fun q => absurd (form_bad hG (by assumption)) (by rw [q]; decide)⟩
end
section
variable {prog : Program} {w : World} {A : Around} {s : Shared} {R : Result → Shared → Prop} {a c o b : Addr} {h₀ : Heap} {L : Addr} {m : Str → Option Value} {news : Led} {as : List Addr} {bs : List Value} {ops : List Op} {begins : List Int}
   {p : Program} {loose : List Str} {mean : ExcName → Option Value} {mg mb : Str → Option Value}
theorem form_k {op : Op} (F : Fr h₀ L s.heap m) (N : News h₀ L s.heap news) (X : (Mine.hd.heap_1 w.params).In h₀) (T : Top p loose mean mg mb h₀) (hv : Lv A 3) (hc : CodeAt w.params h₀ c o b as bs ops begins) (hz : ops.length < 40) (hz2 : begins.length < 40) (ho : OpAt s.heap a op)
   (h : ∀ h' tk x t, Fr h₀ L h' m → News h₀ L h' news → (x = Str.ofString "" ↔ formOk ops.length begins.length op = true) → R (.ok (.ret (.str x t))) { s with heap := h', toks := tk }) :
   codeAny (model prog w) A (.call (.ref 34) ⟨[.ref c, .ref a], []⟩) R s :=
  form_c (X.keeps F.keep) (T.keeps F.keep) hv (hc.keeps F.keep) hz hz2 ho fun h' tk x t e1 e2 => h h' tk x t (fr_ext F e1) (N.grown e1) e2
end

end

section
theorem base_C3 : True := by
  k_with_none
  w_top off
  k_with "subscriptTail" => (k_here; (with_reducible show wpAny _ _ (subscriptTail _ _ (Value.ref _) (Value.int _ _)) _ _ _); k_dflt ( (refine' itemT ?Fzq ?tzq ?azq ?bzq ?czq ?dzq ?_; (case Fzq => k_asm); (case tzq => assumption); (case azq => decide); (case bzq => decide); (case czq => rfl); (case dzq => rfl); k_whole)))
  k_with "size_fits" => with_reducible assumption
  k_with "k_room" => exact Lv.room (by assumption)
  k_with "k_inst" => exact instUp (by assumption) (Fr.keep (by k_asm))
  k_with "call builtin:len" => (k_here; (with_reducible show wpAny _ _ (call (Value.builtin "len") [Value.ref _]) _ _ _); k_dflt ( (refine' lenT ?Fzq ?tzq ?azq ?bzq ?_; (case Fzq => k_asm); (case tzq => assumption); (case azq => first | assumption | rfl); (case bzq => first | assumption | decide); k_whole)))
  k_with "eval ListComp" => (k_here; (with_reducible rename Fr _ _ _ _ => zzlFq); k_dflt ( (refine' comp_inv zzlFq ?k1zq ?k2zq ?k3zq ?k4zq ?k5zq ?_ ?k6zq; (case k1zq => with_unfolding_all rfl); (case k2zq => decide); (case k3zq => with_unfolding_all rfl); (case k4zq => decide); (case k5zq => with_unfolding_all rfl); (case k6zq => (intro _; with_unfolding_all rfl)); k_whole)))
  k_with "exec Assign cons ListComp" => (k_here; (with_reducible rename Fr _ _ _ _ => zzlFq); k_dflt ( (refine' comp_assign zzlFq ?j1zq ?j2zq ?k1zq ?k2zq ?k3zq ?k4zq ?k5zq ?j3zq ?j4zq ?_ ?k6zq; (case j1zq => with_unfolding_all rfl); (case j2zq => with_unfolding_all rfl); (case j3zq => with_unfolding_all rfl); (case j4zq => with_unfolding_all rfl); (case k1zq => with_unfolding_all rfl); (case k2zq => decide); (case k3zq => with_unfolding_all rfl); (case k4zq => decide); (case k5zq => with_unfolding_all rfl); (case k6zq => (intro _; with_unfolding_all rfl)); k_whole)))
  k_with "compareOp NotEq ref ref" => (k_here; (with_reducible show wpAny _ _ (compareOp CmpOp.NotEq (Value.ref _) (Value.ref _)) _ _ _); k_dflt ( (refine' neNil ?azq ?bzq ?uzq ?_; (case azq => is_list); (case bzq => is_list); (case uzq => exact Lv.units (by assumption)); k_whole)))
  k_with "compareOp Eq ref ref" => (k_here; (with_reducible show wpAny _ _ (compareOp CmpOp.Eq (Value.ref _) (Value.ref _)) _ _ _); k_dflt ( (refine' eqNil ?azq ?bzq ?uzq ?_; (case azq => is_list); (case bzq => is_list); (case uzq => exact Lv.units (by assumption)); k_whole)))
  k_with "compareOp NotIn str ref" => (k_here; k_dflt (refine' topNotIn_K ?Fzq ?Xzq ?lzq ?kzq ?ezq ?ozq ?_; (case Fzq => k_asm); (case Xzq => k_asm); (case lzq => k_is); (case kzq => k_keys); (case ezq => first | with_reducible assumption | k_is); (case ozq => decide)))
  k_with "eval Name" => (k_here; k_inBlock; (with_reducible rename Fr _ _ _ _ => zzkF); k_dflt (first | (refine' nameQ_L zzkF ?azq ?_ ?bzq ?czq ?dzq ?ezq; (case azq => exact rfl); (case bzq => rfl); (case czq => rfl); (case dzq => rfl); (case ezq => decide); k_whole) | (refine' nameQ_F ?Nzq ?azq ?mzq ?dzq ?_ ?czq ?kzq ?xzq ?yzq; (case Nzq => k_asm); (case azq => exact rfl); (case mzq => k_mem); (case dzq => assumption); (case czq => rfl); (case kzq => rfl); (case xzq => decide); (case yzq => decide); k_whole) | (refine' nameQ_B zzkF ?k1zq ?k2zq ?k3zq ?k4zq ?k5zq ?_ ?bzq ?czq ?dzq ?ezq ?fzq; (case bzq => rfl); (case czq => rfl); (case dzq => rfl); (case ezq => rfl); (case fzq => decide); (case k1zq => k_asm); (case k2zq => k_asm); (case k3zq => k_is); (case k4zq => boot_by_name); (case k5zq => decide); k_whole)))
  k_with "subscriptTail" => (k_here; (with_reducible show wpAny _ _ (subscriptTail _ _ (Value.ref _) (Value.int 0 _)) _ _ _); k_dflt ( (refine' itemT0 ?Fzq ?tzq ?_; (case Fzq => k_asm); (case tzq => with_reducible assumption); k_whole)))
  k_with "ite" => (first | with_reducible refine ite_known_t (by assumption) ?_ | with_reducible refine ite_known_f (by assumption) ?_ | with_reducible refine ite_known_t rfl ?_ | with_reducible refine ite_known_f rfl ?_)
  k_with "k_all" => with_reducible assumption
  k_with "k_all" => ((repeat (rename _ ∧ _ => zzhqq; obtain ⟨_, _⟩ := zzhqq)); exact of_allLt (by with_reducible assumption))
  k_with "subscriptTail" => (k_here; (with_reducible show wpAny _ _ (subscriptTail _ _ (Value.ref _) (Value.str _ _)) _ _ _); k_dflt (refine' topItem_K ?Fzq ?Xzq ?lzq ?kzq ?ezq ?_; (case Fzq => k_asm); (case Xzq => k_asm); (case lzq => k_is); (case kzq => k_keys); (case ezq => with_reducible assumption); k_whole))
  k_with "subscriptTail" => (k_here; (with_reducible show wpAny _ _ (subscriptTail _ (PySem.Expr.Slice (some _) none none _) (Value.ref _) (Value.ref _)) _ _ _); k_dflt ( (refine' sliceT (a := 1) ?Fzq ?Nzq ?tzq ?azq ?bzq ?czq ?_ ?dzq ?ezq; (case Fzq => k_asm); (case Nzq => k_asm); (case tzq => assumption); (case azq => decide); (case bzq => exact Nat.le_of_ble_eq_true rfl); (case czq => exact Nat.le_of_ble_eq_true rfl); (case dzq => with_unfolding_all rfl); (case ezq => (intro _; with_unfolding_all rfl)); k_whole; intro zzhq zzrq zzFq zzNq zzl1; (try k_lt zzl1))))
  k_with "k_mem" => first | exact List.Mem.head _ | (refine' List.Mem.tail _ ?_; k_mem) | (show List.Mem _ _; assumption)
  k_with "unpackItems ref" => (k_here; k_dflt (refine' unpackItemsN_ ?k1zq ?k2zq ?k3zq ?k4zq ?k5zq ?_; (case k1zq => k_asm); (case k2zq => k_asm); (case k3zq => first | (with_reducible assumption) | exact News.isTup (by k_asm) (by k_mem) | exact Fr.tup (by k_asm) (by assumption)); (case k4zq => exact Lv.hh (by assumption)); (case k5zq => exact rfl); k_whole); intro zzhq zzFq zzNq; (try k_sweep))
  k_with "assign Tuple" => (k_here; (with_reducible show wpAny _ _ (assign (PySem.Expr.Tuple _ _ _) _ (Value.ref _)) _ _ _); k_dflt (refine' unpackN_ ?k1zq ?k2zq ?k3zq ?k4zq ?k5zq ?k6zq ?_; (case k1zq => k_asm); (case k2zq => k_asm); (case k3zq => first | (with_reducible assumption) | exact News.isTup (by k_asm) (by k_mem) | exact Fr.tup (by k_asm) (by assumption)); (case k4zq => exact Lv.hh (by assumption)); (case k5zq => exact rfl); (case k6zq => exact rfl); k_whole); intro zzhq zzFq zzNq; (try k_sweep))
  k_with "last exec While" => (k_here; (refine while_stop ?_))
  k_with "call builtin:list.pop" => (k_here; (try dsimp only); k_dflt ( (refine' kl_pop ?Fzq ?Nzq ?ezq ?Uzq ?zzq ?_; (case Fzq => k_asm); (case Nzq => k_asm); (case Uzq => k_upd); (case ezq => exact kl_last_snoc _ _); (case zzq => with_reducible assumption); k_whole; intro zzhq zzFq zzNq)))
  k_with "compareOp In int ref" => (k_here; k_dflt (refine' inD ?Nzq ?mzq ?dzq ?lzq ?_; (case Nzq => k_asm); (case mzq => k_mem); (case dzq => with_reducible assumption); (case lzq => with_reducible assumption); k_whole))
  k_with "subscriptTail" => (k_here; (with_reducible show wpAny _ _ (subscriptTail _ _ (Value.ref _) (Value.int _ _)) _ _ _); k_dflt (first | (refine' itemD ?Nzq ?mzq ?dzq ?vzq ?_ ?szq; (case Nzq => k_asm); (case mzq => k_mem); (case dzq => with_reducible assumption); (case vzq => with_reducible assumption); (case szq => with_unfolding_all rfl); k_whole) | (refine' itemO ?Fzq ?tzq ?azq ?xzq ?zzq ?_ ?szq; (case Fzq => k_asm); (case tzq => with_reducible assumption); (case azq => with_reducible assumption); (case xzq => with_reducible assumption); (case zzq => with_reducible assumption); (case szq => with_unfolding_all rfl); k_whole)))
  k_with "setItem ref int" => (k_here; k_dflt (refine' setD ?Fzq ?Nzq ?Uzq ?dzq ?zzq ?_; (case Fzq => k_asm); (case Nzq => k_asm); (case Uzq => k_updF); (case dzq => with_reducible assumption); (case zzq => with_reducible assumption); k_whole; intro zzhq zzoq zzFq zzNq zzdq; (try dsimp only at zzNq)))
  k_with "call builtin:list.extend" => (k_here; (with_reducible show wpAny _ _ (call (Value.builtin _) [Value.ref _, Value.ref _]) _ _ _); k_dflt (refine' extendK ?Fzq ?Nzq ?bzq ?Uzq ?zzq ?_; (case Fzq => k_asm); (case Nzq => k_asm); (case bzq => k_mem); (case Uzq => k_updF); (case zzq => with_reducible assumption); k_whole; intro zzhq zzcq zzFq zzNq; (try dsimp only at zzNq)))
  k_with "newTuple" => (k_here; k_dflt (refine' kup_newTuple ?Fzq ?Nzq ?_ ?zzq; (case Fzq => k_asm); (case Nzq => k_asm); (case zzq => exact Nat.le_of_ble_eq_true rfl)); intro zzDq zzhq zzFq zzNq zzl1; (try k_lt zzl1); (try k_sweep))
  k_with "exec For Name Call cons nil" => (k_here; (with_reducible rename Fr _ _ _ _ => zzlFq); k_dflt (refine' for_inv zzlFq ?j1zq ?j2zq ?j3zq ?_ ?j4zq; (case j1zq => with_unfolding_all rfl); (case j2zq => with_unfolding_all rfl); (case j3zq => with_unfolding_all rfl); (case j4zq => (intro _; with_unfolding_all rfl)); k_whole))
  k_with "execs cons Assign cons" => (k_here; (with_reducible refine wpAny_execs_cons ?_); (try dsimp only))
  k_with "subscriptTail" => (k_here; (with_reducible show wpAny _ _ (subscriptTail _ (PySem.Expr.Slice none (some _) none _) (Value.ref _) (Value.ref _)) _ _ _); k_dflt (first | (refine' sliceTwoA ?Fzq ?Nzq ?tzq ?_ ?dzq ?ezq; (case Fzq => k_asm); (case Nzq => k_asm); (case tzq => assumption); (case dzq => with_unfolding_all rfl); (case ezq => (intro _; with_unfolding_all rfl)); k_whole; intro zzhq zzFq zzNq) | (refine' sliceTwoB ?Fzq ?Nzq ?tzq ?_ ?dzq ?ezq; (case Fzq => k_asm); (case Nzq => k_asm); (case tzq => assumption); (case dzq => with_unfolding_all rfl); (case ezq => (intro _; with_unfolding_all rfl)); k_whole; intro zzhq zzrq zzFq zzNq zzl1; (try k_lt zzl1))))
  k_with "compareOp Eq ref ref" => (k_here; (with_reducible show wpAny _ _ (compareOp CmpOp.Eq (Value.ref _) (Value.ref _)) _ _ _); k_dflt ( (refine' eqTup2 ?uzq ?tazq ?tbzq ?e1zq ?e2zq ?_; (case uzq => exact Lv.units (by assumption)); (case tazq => first | exact News.isTup (by k_asm) (by k_mem) | exact Fr.tup (by k_asm) (by assumption)); (case tbzq => exact News.isTup (by k_asm) (by k_mem)); (case e1zq => exact SeqAt.EqAt.str_str _ _ _ _); (case e2zq => first | exact SeqAt.EqAt.str_str _ _ _ _ | exact SeqAt.EqAt.int_str _ _ _ _ | exact SeqAt.EqAt.tuple_str _ _ (Fr.tup (by k_asm) (by assumption)) (Lv.units (Lv.in1 (by assumption)))); k_whole)))
  k_with "compareOp In str ref" => (k_here; (with_reducible show wpAny _ _ (compareOp CmpOp.In (Value.str _ _) (Value.ref _)) _ _ _); (with_unfolding_all refine' in_tuple_strs ?k1zq ?k2zq ?_; (case k1zq => exact News.isTup (by k_asm) (List.Mem.head _)); (case k2zq => kde_strs); k_whole); (rename News _ _ _ _ => zzNq; replace zzNq := News.tail' zzNq); (try k_sweep))
  k_with "compareOp NotIn int ref" => (k_here; k_dflt (refine' notInD ?Nzq ?mzq ?dzq ?lzq ?_; (case Nzq => k_asm); (case mzq => k_mem); (case dzq => with_reducible assumption); (case lzq => with_reducible assumption); k_whole))
  k_with "assign Tuple" => (k_here; (with_reducible show wpAny _ _ (assign (PySem.Expr.Tuple _ _ _) _ (Value.ref _)) _ _ _); k_dflt (refine' kun_list ?k1zq ?k2zq ?k3zq ?k4zq ?k5zq ?k6zq ?_; (case k1zq => k_asm); (case k2zq => k_asm); (case k3zq => exact News.isList (by k_asm) (by k_mem)); (case k4zq => exact Lv.hh (by assumption)); (case k5zq => exact rfl); (case k6zq => exact rfl); k_whole); intro zzhq zzFq zzNq; (try k_sweep))
  trivial
section
variable {prog : Program} {w : World} {A : Around} {s : Shared} {R : Result → Shared → Prop} {a c o b : Addr}
   {p : Program} {loose : List Str} {mean : ExcName → Option Value} {mg mb : Str → Option Value}
set_option maxHeartbeats 4000000 in
theorem taken_c {op : Op} (X : (Mine.hd.heap_1 w.params).In s.heap) (T : Top p loose mean mg mb s.heap) (hv : Lv A 1) (ho : OpAt s.heap a op)
   (h : ∀ h' tk t, Ext s.heap h' → R (.ok (.ret (.int (taken op) t))) { s with heap := h', toks := tk }) :
   codeAny (model prog w) A (.call (.ref 41) ⟨[.ref a], []⟩) R s := by
  refine' enter (binds := [(Str.ofString "op", .ref a)]) X ?k5 ?k6 ?k7 ?k8 ?k9 ?kB ?_ ?c2 ?c3 ?c4 ?c5
  case k5 => exact T.nolimit
  case k6 => k_dflt k_is
  case k7 => k_dflt k_is
  case k8 => exact hv.room
  case k9 => exact rfl
  case c5 => decide
  case kB => exact locs rfl
  case c2 => exact rfl
  case c3 => exact rfl
  case c4 => exact rfl
  intro L h₁ F N
  refine hv.gen ?_
  clear hv
  intro A' hv
  try dsimp only
  try k_fold
  by_cases hr : ∃ g l, op = .reck g l
  · obtain ⟨g, l, rfl⟩ := hr
    obtain ⟨t1, t2, t3, ha⟩ := ho
    k_steps
    · (rename Fr _ _ _ _ => Fe; rename News _ _ _ _ => Ne)
      have e : (1 : Int) = taken (.reck g l) := by
        cases g <;> first | rfl | (rename (SG.str _ == _) = true => q; exact absurd q (by decide))
      rw [e]
      exact h _ _ _ Fe.keep
    · (rename Fr _ _ _ _ => Fe; rename News _ _ _ _ => Ne)
      have e : (2 : Int) = taken (.reck g l) := by
        cases g <;> first | rfl | (rename (SG.str _ == _) = false => q; exact absurd q (by decide))
      rw [e]
      exact h _ _ _ Fe.keep
  · obtain ⟨t0, rest, ha⟩ := ho.view
    have f1 : (op.word == Str.ofString "calc") = false := by
      cases op with
      | reck g l => exact absurd ⟨g, l, rfl⟩ hr
      | lab k l => cases k <;> rfl
      | plain k => cases k <;> rfl
      | _ => rfl
    have f2 : ([Str.ofString "put", Str.ofString "choose", Str.ofString "count"].any fun x => x == op.word) = decide (taken op = 1) := by
      cases op with
      | reck g l => exact absurd ⟨g, l, rfl⟩ hr
      | lab k l => cases k <;> rfl
      | plain k => cases k <;> rfl
      | _ => rfl
    have f3 : taken op = 1 ∨ taken op = 0 := by
      cases op with
      | reck g l => exact absurd ⟨g, l, rfl⟩ hr
      | lab k l => cases k <;> first | exact .inl rfl | exact .inr rfl
      | plain k => cases k <;> first | exact .inl rfl | exact .inr rfl
      | choose l => exact .inl rfl
      | _ => exact .inr rfl
    generalize op.word = wd at *
    rcases f3 with f3 | f3 <;> rw [f3] at f2 h
    · replace f2 := f2.trans (show decide ((1 : Int) = 1) = true from rfl)
      k_steps
      (rename Fr _ _ _ _ => Fe; rename News _ _ _ _ => Ne)
      exact h _ _ _ Fe.keep
    · replace f2 := f2.trans (show decide ((0 : Int) = 1) = false from rfl)
      k_steps
      (rename Fr _ _ _ _ => Fe; rename News _ _ _ _ => Ne)
      exact h _ _ _ Fe.keep
end
section
variable {prog : Program} {w : World} {A : Around} {s : Shared} {R : Result → Shared → Prop} {a : Addr} {h₀ : Heap} {L : Addr} {m : Str → Option Value} {news : Led}
   {p : Program} {loose : List Str} {mean : ExcName → Option Value} {mg mb : Str → Option Value}
theorem taken_k {op : Op} (F : Fr h₀ L s.heap m) (N : News h₀ L s.heap news) (X : (Mine.hd.heap_1 w.params).In h₀) (T : Top p loose mean mg mb h₀) (hv : Lv A 1) (ho : OpAt s.heap a op)
   (h : ∀ h' tk t, Fr h₀ L h' m → News h₀ L h' news → R (.ok (.ret (.int (taken op) t))) { s with heap := h', toks := tk }) :
   codeAny (model prog w) A (.call (.ref 41) ⟨[.ref a], []⟩) R s :=
  taken_c (X.keeps F.keep) (T.keeps F.keep) hv ho fun h' tk t e1 => h h' tk t (fr_ext F e1) (N.grown e1)
end

end

section
theorem base_C4 : True := by
  k_with_none
  w_top off
  k_with "subscriptTail" => (k_here; (with_reducible show wpAny _ _ (subscriptTail _ _ (Value.ref _) (Value.int _ _)) _ _ _); k_dflt ( (refine' itemT ?Fzq ?tzq ?azq ?bzq ?czq ?dzq ?_; (case Fzq => k_asm); (case tzq => assumption); (case azq => decide); (case bzq => decide); (case czq => rfl); (case dzq => rfl); k_whole)))
  k_with "size_fits" => with_reducible assumption
  k_with "k_room" => exact Lv.room (by assumption)
  k_with "k_inst" => exact instUp (by assumption) (Fr.keep (by k_asm))
  k_with "call builtin:len" => (k_here; (with_reducible show wpAny _ _ (call (Value.builtin "len") [Value.ref _]) _ _ _); k_dflt ( (refine' lenT ?Fzq ?tzq ?azq ?bzq ?_; (case Fzq => k_asm); (case tzq => assumption); (case azq => first | assumption | rfl); (case bzq => first | assumption | decide); k_whole)))
  k_with "eval ListComp" => (k_here; (with_reducible rename Fr _ _ _ _ => zzlFq); k_dflt ( (refine' comp_inv zzlFq ?k1zq ?k2zq ?k3zq ?k4zq ?k5zq ?_ ?k6zq; (case k1zq => with_unfolding_all rfl); (case k2zq => decide); (case k3zq => with_unfolding_all rfl); (case k4zq => decide); (case k5zq => with_unfolding_all rfl); (case k6zq => (intro _; with_unfolding_all rfl)); k_whole)))
  k_with "exec Assign cons ListComp" => (k_here; (with_reducible rename Fr _ _ _ _ => zzlFq); k_dflt ( (refine' comp_assign zzlFq ?j1zq ?j2zq ?k1zq ?k2zq ?k3zq ?k4zq ?k5zq ?j3zq ?j4zq ?_ ?k6zq; (case j1zq => with_unfolding_all rfl); (case j2zq => with_unfolding_all rfl); (case j3zq => with_unfolding_all rfl); (case j4zq => with_unfolding_all rfl); (case k1zq => with_unfolding_all rfl); (case k2zq => decide); (case k3zq => with_unfolding_all rfl); (case k4zq => decide); (case k5zq => with_unfolding_all rfl); (case k6zq => (intro _; with_unfolding_all rfl)); k_whole)))
  k_with "compareOp NotEq ref ref" => (k_here; (with_reducible show wpAny _ _ (compareOp CmpOp.NotEq (Value.ref _) (Value.ref _)) _ _ _); k_dflt ( (refine' neNil ?azq ?bzq ?uzq ?_; (case azq => is_list); (case bzq => is_list); (case uzq => exact Lv.units (by assumption)); k_whole)))
  k_with "compareOp Eq ref ref" => (k_here; (with_reducible show wpAny _ _ (compareOp CmpOp.Eq (Value.ref _) (Value.ref _)) _ _ _); k_dflt ( (refine' eqNil ?azq ?bzq ?uzq ?_; (case azq => is_list); (case bzq => is_list); (case uzq => exact Lv.units (by assumption)); k_whole)))
  k_with "compareOp NotIn str ref" => (k_here; k_dflt (refine' topNotIn_K ?Fzq ?Xzq ?lzq ?kzq ?ezq ?ozq ?_; (case Fzq => k_asm); (case Xzq => k_asm); (case lzq => k_is); (case kzq => k_keys); (case ezq => first | with_reducible assumption | k_is); (case ozq => decide)))
  k_with "eval Name" => (k_here; k_inBlock; (with_reducible rename Fr _ _ _ _ => zzkF); k_dflt (first | (refine' nameQ_L zzkF ?azq ?_ ?bzq ?czq ?dzq ?ezq; (case azq => exact rfl); (case bzq => rfl); (case czq => rfl); (case dzq => rfl); (case ezq => decide); k_whole) | (refine' nameQ_F ?Nzq ?azq ?mzq ?dzq ?_ ?czq ?kzq ?xzq ?yzq; (case Nzq => k_asm); (case azq => exact rfl); (case mzq => k_mem); (case dzq => assumption); (case czq => rfl); (case kzq => rfl); (case xzq => decide); (case yzq => decide); k_whole) | (refine' nameQ_B zzkF ?k1zq ?k2zq ?k3zq ?k4zq ?k5zq ?_ ?bzq ?czq ?dzq ?ezq ?fzq; (case bzq => rfl); (case czq => rfl); (case dzq => rfl); (case ezq => rfl); (case fzq => decide); (case k1zq => k_asm); (case k2zq => k_asm); (case k3zq => k_is); (case k4zq => boot_by_name); (case k5zq => decide); k_whole)))
  k_with "subscriptTail" => (k_here; (with_reducible show wpAny _ _ (subscriptTail _ _ (Value.ref _) (Value.int 0 _)) _ _ _); k_dflt ( (refine' itemT0 ?Fzq ?tzq ?_; (case Fzq => k_asm); (case tzq => with_reducible assumption); k_whole)))
  k_with "ite" => (first | with_reducible refine ite_known_t (by assumption) ?_ | with_reducible refine ite_known_f (by assumption) ?_ | with_reducible refine ite_known_t rfl ?_ | with_reducible refine ite_known_f rfl ?_)
  k_with "k_all" => with_reducible assumption
  k_with "k_all" => ((repeat (rename _ ∧ _ => zzhqq; obtain ⟨_, _⟩ := zzhqq)); exact of_allLt (by with_reducible assumption))
  k_with "subscriptTail" => (k_here; (with_reducible show wpAny _ _ (subscriptTail _ _ (Value.ref _) (Value.str _ _)) _ _ _); k_dflt (refine' topItem_K ?Fzq ?Xzq ?lzq ?kzq ?ezq ?_; (case Fzq => k_asm); (case Xzq => k_asm); (case lzq => k_is); (case kzq => k_keys); (case ezq => with_reducible assumption); k_whole))
  k_with "subscriptTail" => (k_here; (with_reducible show wpAny _ _ (subscriptTail _ (PySem.Expr.Slice (some _) none none _) (Value.ref _) (Value.ref _)) _ _ _); k_dflt ( (refine' sliceT (a := 1) ?Fzq ?Nzq ?tzq ?azq ?bzq ?czq ?_ ?dzq ?ezq; (case Fzq => k_asm); (case Nzq => k_asm); (case tzq => assumption); (case azq => decide); (case bzq => exact Nat.le_of_ble_eq_true rfl); (case czq => exact Nat.le_of_ble_eq_true rfl); (case dzq => with_unfolding_all rfl); (case ezq => (intro _; with_unfolding_all rfl)); k_whole; intro zzhq zzrq zzFq zzNq zzl1; (try k_lt zzl1))))
  k_with "k_mem" => first | exact List.Mem.head _ | (refine' List.Mem.tail _ ?_; k_mem) | (show List.Mem _ _; assumption)
  k_with "unpackItems ref" => (k_here; k_dflt (refine' unpackItemsN_ ?k1zq ?k2zq ?k3zq ?k4zq ?k5zq ?_; (case k1zq => k_asm); (case k2zq => k_asm); (case k3zq => first | (with_reducible assumption) | exact News.isTup (by k_asm) (by k_mem) | exact Fr.tup (by k_asm) (by assumption)); (case k4zq => exact Lv.hh (by assumption)); (case k5zq => exact rfl); k_whole); intro zzhq zzFq zzNq; (try k_sweep))
  k_with "assign Tuple" => (k_here; (with_reducible show wpAny _ _ (assign (PySem.Expr.Tuple _ _ _) _ (Value.ref _)) _ _ _); k_dflt (refine' unpackN_ ?k1zq ?k2zq ?k3zq ?k4zq ?k5zq ?k6zq ?_; (case k1zq => k_asm); (case k2zq => k_asm); (case k3zq => first | (with_reducible assumption) | exact News.isTup (by k_asm) (by k_mem) | exact Fr.tup (by k_asm) (by assumption)); (case k4zq => exact Lv.hh (by assumption)); (case k5zq => exact rfl); (case k6zq => exact rfl); k_whole); intro zzhq zzFq zzNq; (try k_sweep))
  k_with "last exec While" => (k_here; (refine while_stop ?_))
  k_with "call builtin:list.pop" => (k_here; (try dsimp only); k_dflt ( (refine' kl_pop ?Fzq ?Nzq ?ezq ?Uzq ?zzq ?_; (case Fzq => k_asm); (case Nzq => k_asm); (case Uzq => k_upd); (case ezq => exact kl_last_snoc _ _); (case zzq => with_reducible assumption); k_whole; intro zzhq zzFq zzNq)))
  k_with "compareOp In int ref" => (k_here; k_dflt (refine' inD ?Nzq ?mzq ?dzq ?lzq ?_; (case Nzq => k_asm); (case mzq => k_mem); (case dzq => with_reducible assumption); (case lzq => with_reducible assumption); k_whole))
  k_with "subscriptTail" => (k_here; (with_reducible show wpAny _ _ (subscriptTail _ _ (Value.ref _) (Value.int _ _)) _ _ _); k_dflt (first | (refine' itemD ?Nzq ?mzq ?dzq ?vzq ?_ ?szq; (case Nzq => k_asm); (case mzq => k_mem); (case dzq => with_reducible assumption); (case vzq => with_reducible assumption); (case szq => with_unfolding_all rfl); k_whole) | (refine' itemO ?Fzq ?tzq ?azq ?xzq ?zzq ?_ ?szq; (case Fzq => k_asm); (case tzq => with_reducible assumption); (case azq => with_reducible assumption); (case xzq => with_reducible assumption); (case zzq => with_reducible assumption); (case szq => with_unfolding_all rfl); k_whole)))
  k_with "setItem ref int" => (k_here; k_dflt (refine' setD ?Fzq ?Nzq ?Uzq ?dzq ?zzq ?_; (case Fzq => k_asm); (case Nzq => k_asm); (case Uzq => k_updF); (case dzq => with_reducible assumption); (case zzq => with_reducible assumption); k_whole; intro zzhq zzoq zzFq zzNq zzdq; (try dsimp only at zzNq)))
  k_with "call builtin:list.extend" => (k_here; (with_reducible show wpAny _ _ (call (Value.builtin _) [Value.ref _, Value.ref _]) _ _ _); k_dflt (refine' extendK ?Fzq ?Nzq ?bzq ?Uzq ?zzq ?_; (case Fzq => k_asm); (case Nzq => k_asm); (case bzq => k_mem); (case Uzq => k_updF); (case zzq => with_reducible assumption); k_whole; intro zzhq zzcq zzFq zzNq; (try dsimp only at zzNq)))
  k_with "newTuple" => (k_here; k_dflt (refine' kup_newTuple ?Fzq ?Nzq ?_ ?zzq; (case Fzq => k_asm); (case Nzq => k_asm); (case zzq => exact Nat.le_of_ble_eq_true rfl)); intro zzDq zzhq zzFq zzNq zzl1; (try k_lt zzl1); (try k_sweep))
  k_with "exec For Name Call cons nil" => (k_here; (with_reducible rename Fr _ _ _ _ => zzlFq); k_dflt (refine' for_inv zzlFq ?j1zq ?j2zq ?j3zq ?_ ?j4zq; (case j1zq => with_unfolding_all rfl); (case j2zq => with_unfolding_all rfl); (case j3zq => with_unfolding_all rfl); (case j4zq => (intro _; with_unfolding_all rfl)); k_whole))
  k_with "execs cons Assign cons" => (k_here; (with_reducible refine wpAny_execs_cons ?_); (try dsimp only))
  k_with "subscriptTail" => (k_here; (with_reducible show wpAny _ _ (subscriptTail _ (PySem.Expr.Slice none (some _) none _) (Value.ref _) (Value.ref _)) _ _ _); k_dflt (first | (refine' sliceTwoA ?Fzq ?Nzq ?tzq ?_ ?dzq ?ezq; (case Fzq => k_asm); (case Nzq => k_asm); (case tzq => assumption); (case dzq => with_unfolding_all rfl); (case ezq => (intro _; with_unfolding_all rfl)); k_whole; intro zzhq zzFq zzNq) | (refine' sliceTwoB ?Fzq ?Nzq ?tzq ?_ ?dzq ?ezq; (case Fzq => k_asm); (case Nzq => k_asm); (case tzq => assumption); (case dzq => with_unfolding_all rfl); (case ezq => (intro _; with_unfolding_all rfl)); k_whole; intro zzhq zzrq zzFq zzNq zzl1; (try k_lt zzl1))))
  k_with "compareOp Eq ref ref" => (k_here; (with_reducible show wpAny _ _ (compareOp CmpOp.Eq (Value.ref _) (Value.ref _)) _ _ _); k_dflt ( (refine' eqTup2 ?uzq ?tazq ?tbzq ?e1zq ?e2zq ?_; (case uzq => exact Lv.units (by assumption)); (case tazq => first | exact News.isTup (by k_asm) (by k_mem) | exact Fr.tup (by k_asm) (by assumption)); (case tbzq => exact News.isTup (by k_asm) (by k_mem)); (case e1zq => exact SeqAt.EqAt.str_str _ _ _ _); (case e2zq => first | exact SeqAt.EqAt.str_str _ _ _ _ | exact SeqAt.EqAt.int_str _ _ _ _ | exact SeqAt.EqAt.tuple_str _ _ (Fr.tup (by k_asm) (by assumption)) (Lv.units (Lv.in1 (by assumption)))); k_whole)))
  k_with "compareOp In str ref" => (k_here; (with_reducible show wpAny _ _ (compareOp CmpOp.In (Value.str _ _) (Value.ref _)) _ _ _); (with_unfolding_all refine' in_tuple_strs ?k1zq ?k2zq ?_; (case k1zq => exact News.isTup (by k_asm) (List.Mem.head _)); (case k2zq => kde_strs); k_whole); (rename News _ _ _ _ => zzNq; replace zzNq := News.tail' zzNq); (try k_sweep))
  k_with "compareOp NotIn int ref" => (k_here; k_dflt (refine' notInD ?Nzq ?mzq ?dzq ?lzq ?_; (case Nzq => k_asm); (case mzq => k_mem); (case dzq => with_reducible assumption); (case lzq => with_reducible assumption); k_whole))
  k_with "assign Tuple" => (k_here; (with_reducible show wpAny _ _ (assign (PySem.Expr.Tuple _ _ _) _ (Value.ref _)) _ _ _); k_dflt (refine' kun_list ?k1zq ?k2zq ?k3zq ?k4zq ?k5zq ?k6zq ?_; (case k1zq => k_asm); (case k2zq => k_asm); (case k3zq => exact News.isList (by k_asm) (by k_mem)); (case k4zq => exact Lv.hh (by assumption)); (case k5zq => exact rfl); (case k6zq => exact rfl); k_whole); intro zzhq zzFq zzNq; (try k_sweep))
  trivial
theorem lines_C4_1 : True := by
  k_with "call ref" => (k_here; (with_reducible show wpAny _ _ (call (Value.ref _) _) _ _ _); (refine wpAny_call ?_); k_dflt ( (refine' taken_k ?Fzq ?Nzq ?Xzq ?Tzq ?vzq ?ozq ?_; (case Fzq => k_asm); (case Nzq => k_asm); (case Xzq => k_asm); (case Tzq => k_asm); (case vzq => exact Lv.le (by assumption) (by decide)); (case ozq => exact OpAt.keeps (Fr.keep (by k_asm)) (by assumption)); k_whole; intro zzhq zztkq zztq zzFq zzNq; (try dsimp only); (try k_fold))))
  trivial
section
variable {prog : Program} {w : World} {A : Around} {s : Shared} {R : Result → Shared → Prop} {a c o b : Addr}
   {p : Program} {loose : List Str} {mean : ExcName → Option Value} {mg mb : Str → Option Value}
set_option maxHeartbeats 4000000 in
theorem behind_c {op : Op} {hg : Int} {tg : Tok} (X : (Mine.hd.heap_1 w.params).In s.heap) (T : Top p loose mean mg mb s.heap) (hv : Lv A 3) (ho : OpAt s.heap a op)
   (h : ∀ h' tk t, Ext s.heap h' → R (.ok (.ret (.int (behind op hg) t))) { s with heap := h', toks := tk }) :
   codeAny (model prog w) A (.call (.ref 48) ⟨[.ref a, .int hg tg], []⟩) R s := by
  refine' enter (binds := [(Str.ofString "op", .ref a), (Str.ofString "height", .int hg tg)]) X ?k5 ?k6 ?k7 ?k8 ?k9 ?kB ?_ ?c2 ?c3 ?c4 ?c5
  case k5 => exact T.nolimit
  case k6 => k_dflt k_is
  case k7 => k_dflt k_is
  case k8 => exact hv.room
  case k9 => exact rfl
  case c5 => decide
  case kB => exact locs rfl
  case c2 => exact rfl
  case c3 => exact rfl
  case c4 => exact rfl
  intro L h₁ F N
  refine hv.gen ?_
  clear hv
  intro A' hv
  try dsimp only
  try k_fold
  obtain ⟨t0, rest, ha⟩ := ho.view
  have f1 := word_give op
  cases hgv : isGive op <;> rw [hgv] at f1 <;> k_steps
  · (rename Fr _ _ _ _ => Fe; rename News _ _ _ _ => Ne)
    rename hg < taken op => q
    have e : (-1 : Int) = behind op hg := by unfold behind; rw [if_pos q]
    rw [e]
    exact h _ _ _ Fe.keep
  · (rename Fr _ _ _ _ => Fe; rename News _ _ _ _ => Ne)
    rename ¬ hg < taken op => q
    have e : hg - taken op + 0 = behind op hg := by unfold behind; rw [if_neg q, hgv]; rfl
    rw [e]
    exact h _ _ _ Fe.keep
  · (rename Fr _ _ _ _ => Fe; rename News _ _ _ _ => Ne)
    rename hg < taken op => q
    have e : (-1 : Int) = behind op hg := by unfold behind; rw [if_pos q]
    rw [e]
    exact h _ _ _ Fe.keep
  · (rename Fr _ _ _ _ => Fe; rename News _ _ _ _ => Ne)
    rename ¬ hg < taken op => q
    have e : hg - taken op + 1 = behind op hg := by unfold behind; rw [if_neg q, hgv]; rfl
    rw [e]
    exact h _ _ _ Fe.keep
end
section
variable {prog : Program} {w : World} {A : Around} {s : Shared} {R : Result → Shared → Prop} {a : Addr} {h₀ : Heap} {L : Addr} {m : Str → Option Value} {news : Led}
   {p : Program} {loose : List Str} {mean : ExcName → Option Value} {mg mb : Str → Option Value}
theorem behind_k {op : Op} {hg : Int} {tg : Tok} (F : Fr h₀ L s.heap m) (N : News h₀ L s.heap news) (X : (Mine.hd.heap_1 w.params).In h₀) (T : Top p loose mean mg mb h₀) (hv : Lv A 3) (ho : OpAt s.heap a op)
   (h : ∀ h' tk t, Fr h₀ L h' m → News h₀ L h' news → R (.ok (.ret (.int (behind op hg) t))) { s with heap := h', toks := tk }) :
   codeAny (model prog w) A (.call (.ref 48) ⟨[.ref a, .int hg tg], []⟩) R s :=
  behind_c (X.keeps F.keep) (T.keeps F.keep) hv ho fun h' tk t e1 => h h' tk t (fr_ext F e1) (N.grown e1)
end

end

section
theorem base_C5 : True := by
  k_with_none
  w_top off
  k_with "subscriptTail" => (k_here; (with_reducible show wpAny _ _ (subscriptTail _ _ (Value.ref _) (Value.int _ _)) _ _ _); k_dflt ( (refine' itemT ?Fzq ?tzq ?azq ?bzq ?czq ?dzq ?_; (case Fzq => k_asm); (case tzq => assumption); (case azq => decide); (case bzq => decide); (case czq => rfl); (case dzq => rfl); k_whole)))
  k_with "size_fits" => with_reducible assumption
  k_with "k_room" => exact Lv.room (by assumption)
  k_with "k_inst" => exact instUp (by assumption) (Fr.keep (by k_asm))
  k_with "call builtin:len" => (k_here; (with_reducible show wpAny _ _ (call (Value.builtin "len") [Value.ref _]) _ _ _); k_dflt ( (refine' lenT ?Fzq ?tzq ?azq ?bzq ?_; (case Fzq => k_asm); (case tzq => assumption); (case azq => first | assumption | rfl); (case bzq => first | assumption | decide); k_whole)))
  k_with "eval ListComp" => (k_here; (with_reducible rename Fr _ _ _ _ => zzlFq); k_dflt ( (refine' comp_inv zzlFq ?k1zq ?k2zq ?k3zq ?k4zq ?k5zq ?_ ?k6zq; (case k1zq => with_unfolding_all rfl); (case k2zq => decide); (case k3zq => with_unfolding_all rfl); (case k4zq => decide); (case k5zq => with_unfolding_all rfl); (case k6zq => (intro _; with_unfolding_all rfl)); k_whole)))
  k_with "exec Assign cons ListComp" => (k_here; (with_reducible rename Fr _ _ _ _ => zzlFq); k_dflt ( (refine' comp_assign zzlFq ?j1zq ?j2zq ?k1zq ?k2zq ?k3zq ?k4zq ?k5zq ?j3zq ?j4zq ?_ ?k6zq; (case j1zq => with_unfolding_all rfl); (case j2zq => with_unfolding_all rfl); (case j3zq => with_unfolding_all rfl); (case j4zq => with_unfolding_all rfl); (case k1zq => with_unfolding_all rfl); (case k2zq => decide); (case k3zq => with_unfolding_all rfl); (case k4zq => decide); (case k5zq => with_unfolding_all rfl); (case k6zq => (intro _; with_unfolding_all rfl)); k_whole)))
  k_with "compareOp NotEq ref ref" => (k_here; (with_reducible show wpAny _ _ (compareOp CmpOp.NotEq (Value.ref _) (Value.ref _)) _ _ _); k_dflt ( (refine' neNil ?azq ?bzq ?uzq ?_; (case azq => is_list); (case bzq => is_list); (case uzq => exact Lv.units (by assumption)); k_whole)))
  k_with "compareOp Eq ref ref" => (k_here; (with_reducible show wpAny _ _ (compareOp CmpOp.Eq (Value.ref _) (Value.ref _)) _ _ _); k_dflt ( (refine' eqNil ?azq ?bzq ?uzq ?_; (case azq => is_list); (case bzq => is_list); (case uzq => exact Lv.units (by assumption)); k_whole)))
  k_with "compareOp NotIn str ref" => (k_here; k_dflt (refine' topNotIn_K ?Fzq ?Xzq ?lzq ?kzq ?ezq ?ozq ?_; (case Fzq => k_asm); (case Xzq => k_asm); (case lzq => k_is); (case kzq => k_keys); (case ezq => first | with_reducible assumption | k_is); (case ozq => decide)))
  k_with "eval Name" => (k_here; k_inBlock; (with_reducible rename Fr _ _ _ _ => zzkF); k_dflt (first | (refine' nameQ_L zzkF ?azq ?_ ?bzq ?czq ?dzq ?ezq; (case azq => exact rfl); (case bzq => rfl); (case czq => rfl); (case dzq => rfl); (case ezq => decide); k_whole) | (refine' nameQ_F ?Nzq ?azq ?mzq ?dzq ?_ ?czq ?kzq ?xzq ?yzq; (case Nzq => k_asm); (case azq => exact rfl); (case mzq => k_mem); (case dzq => assumption); (case czq => rfl); (case kzq => rfl); (case xzq => decide); (case yzq => decide); k_whole) | (refine' nameQ_B zzkF ?k1zq ?k2zq ?k3zq ?k4zq ?k5zq ?_ ?bzq ?czq ?dzq ?ezq ?fzq; (case bzq => rfl); (case czq => rfl); (case dzq => rfl); (case ezq => rfl); (case fzq => decide); (case k1zq => k_asm); (case k2zq => k_asm); (case k3zq => k_is); (case k4zq => boot_by_name); (case k5zq => decide); k_whole)))
  k_with "subscriptTail" => (k_here; (with_reducible show wpAny _ _ (subscriptTail _ _ (Value.ref _) (Value.int 0 _)) _ _ _); k_dflt ( (refine' itemT0 ?Fzq ?tzq ?_; (case Fzq => k_asm); (case tzq => with_reducible assumption); k_whole)))
  k_with "ite" => (first | with_reducible refine ite_known_t (by assumption) ?_ | with_reducible refine ite_known_f (by assumption) ?_ | with_reducible refine ite_known_t rfl ?_ | with_reducible refine ite_known_f rfl ?_)
  k_with "k_all" => with_reducible assumption
  k_with "k_all" => ((repeat (rename _ ∧ _ => zzhqq; obtain ⟨_, _⟩ := zzhqq)); exact of_allLt (by with_reducible assumption))
  k_with "subscriptTail" => (k_here; (with_reducible show wpAny _ _ (subscriptTail _ _ (Value.ref _) (Value.str _ _)) _ _ _); k_dflt (refine' topItem_K ?Fzq ?Xzq ?lzq ?kzq ?ezq ?_; (case Fzq => k_asm); (case Xzq => k_asm); (case lzq => k_is); (case kzq => k_keys); (case ezq => with_reducible assumption); k_whole))
  k_with "subscriptTail" => (k_here; (with_reducible show wpAny _ _ (subscriptTail _ (PySem.Expr.Slice (some _) none none _) (Value.ref _) (Value.ref _)) _ _ _); k_dflt ( (refine' sliceT (a := 1) ?Fzq ?Nzq ?tzq ?azq ?bzq ?czq ?_ ?dzq ?ezq; (case Fzq => k_asm); (case Nzq => k_asm); (case tzq => assumption); (case azq => decide); (case bzq => exact Nat.le_of_ble_eq_true rfl); (case czq => exact Nat.le_of_ble_eq_true rfl); (case dzq => with_unfolding_all rfl); (case ezq => (intro _; with_unfolding_all rfl)); k_whole; intro zzhq zzrq zzFq zzNq zzl1; (try k_lt zzl1))))
  k_with "k_mem" => first | exact List.Mem.head _ | (refine' List.Mem.tail _ ?_; k_mem) | (show List.Mem _ _; assumption)
  k_with "unpackItems ref" => (k_here; k_dflt (refine' unpackItemsN_ ?k1zq ?k2zq ?k3zq ?k4zq ?k5zq ?_; (case k1zq => k_asm); (case k2zq => k_asm); (case k3zq => first | (with_reducible assumption) | exact News.isTup (by k_asm) (by k_mem) | exact Fr.tup (by k_asm) (by assumption)); (case k4zq => exact Lv.hh (by assumption)); (case k5zq => exact rfl); k_whole); intro zzhq zzFq zzNq; (try k_sweep))
  k_with "assign Tuple" => (k_here; (with_reducible show wpAny _ _ (assign (PySem.Expr.Tuple _ _ _) _ (Value.ref _)) _ _ _); k_dflt (refine' unpackN_ ?k1zq ?k2zq ?k3zq ?k4zq ?k5zq ?k6zq ?_; (case k1zq => k_asm); (case k2zq => k_asm); (case k3zq => first | (with_reducible assumption) | exact News.isTup (by k_asm) (by k_mem) | exact Fr.tup (by k_asm) (by assumption)); (case k4zq => exact Lv.hh (by assumption)); (case k5zq => exact rfl); (case k6zq => exact rfl); k_whole); intro zzhq zzFq zzNq; (try k_sweep))
  k_with "last exec While" => (k_here; (refine while_stop ?_))
  k_with "call builtin:list.pop" => (k_here; (try dsimp only); k_dflt ( (refine' kl_pop ?Fzq ?Nzq ?ezq ?Uzq ?zzq ?_; (case Fzq => k_asm); (case Nzq => k_asm); (case Uzq => k_upd); (case ezq => exact kl_last_snoc _ _); (case zzq => with_reducible assumption); k_whole; intro zzhq zzFq zzNq)))
  k_with "compareOp In int ref" => (k_here; k_dflt (refine' inD ?Nzq ?mzq ?dzq ?lzq ?_; (case Nzq => k_asm); (case mzq => k_mem); (case dzq => with_reducible assumption); (case lzq => with_reducible assumption); k_whole))
  k_with "subscriptTail" => (k_here; (with_reducible show wpAny _ _ (subscriptTail _ _ (Value.ref _) (Value.int _ _)) _ _ _); k_dflt (first | (refine' itemD ?Nzq ?mzq ?dzq ?vzq ?_ ?szq; (case Nzq => k_asm); (case mzq => k_mem); (case dzq => with_reducible assumption); (case vzq => with_reducible assumption); (case szq => with_unfolding_all rfl); k_whole) | (refine' itemO ?Fzq ?tzq ?azq ?xzq ?zzq ?_ ?szq; (case Fzq => k_asm); (case tzq => with_reducible assumption); (case azq => with_reducible assumption); (case xzq => with_reducible assumption); (case zzq => with_reducible assumption); (case szq => with_unfolding_all rfl); k_whole)))
  k_with "setItem ref int" => (k_here; k_dflt (refine' setD ?Fzq ?Nzq ?Uzq ?dzq ?zzq ?_; (case Fzq => k_asm); (case Nzq => k_asm); (case Uzq => k_updF); (case dzq => with_reducible assumption); (case zzq => with_reducible assumption); k_whole; intro zzhq zzoq zzFq zzNq zzdq; (try dsimp only at zzNq)))
  k_with "call builtin:list.extend" => (k_here; (with_reducible show wpAny _ _ (call (Value.builtin _) [Value.ref _, Value.ref _]) _ _ _); k_dflt (refine' extendK ?Fzq ?Nzq ?bzq ?Uzq ?zzq ?_; (case Fzq => k_asm); (case Nzq => k_asm); (case bzq => k_mem); (case Uzq => k_updF); (case zzq => with_reducible assumption); k_whole; intro zzhq zzcq zzFq zzNq; (try dsimp only at zzNq)))
  k_with "newTuple" => (k_here; k_dflt (refine' kup_newTuple ?Fzq ?Nzq ?_ ?zzq; (case Fzq => k_asm); (case Nzq => k_asm); (case zzq => exact Nat.le_of_ble_eq_true rfl)); intro zzDq zzhq zzFq zzNq zzl1; (try k_lt zzl1); (try k_sweep))
  k_with "exec For Name Call cons nil" => (k_here; (with_reducible rename Fr _ _ _ _ => zzlFq); k_dflt (refine' for_inv zzlFq ?j1zq ?j2zq ?j3zq ?_ ?j4zq; (case j1zq => with_unfolding_all rfl); (case j2zq => with_unfolding_all rfl); (case j3zq => with_unfolding_all rfl); (case j4zq => (intro _; with_unfolding_all rfl)); k_whole))
  k_with "execs cons Assign cons" => (k_here; (with_reducible refine wpAny_execs_cons ?_); (try dsimp only))
  k_with "subscriptTail" => (k_here; (with_reducible show wpAny _ _ (subscriptTail _ (PySem.Expr.Slice none (some _) none _) (Value.ref _) (Value.ref _)) _ _ _); k_dflt (first | (refine' sliceTwoA ?Fzq ?Nzq ?tzq ?_ ?dzq ?ezq; (case Fzq => k_asm); (case Nzq => k_asm); (case tzq => assumption); (case dzq => with_unfolding_all rfl); (case ezq => (intro _; with_unfolding_all rfl)); k_whole; intro zzhq zzFq zzNq) | (refine' sliceTwoB ?Fzq ?Nzq ?tzq ?_ ?dzq ?ezq; (case Fzq => k_asm); (case Nzq => k_asm); (case tzq => assumption); (case dzq => with_unfolding_all rfl); (case ezq => (intro _; with_unfolding_all rfl)); k_whole; intro zzhq zzrq zzFq zzNq zzl1; (try k_lt zzl1))))
  k_with "compareOp Eq ref ref" => (k_here; (with_reducible show wpAny _ _ (compareOp CmpOp.Eq (Value.ref _) (Value.ref _)) _ _ _); k_dflt ( (refine' eqTup2 ?uzq ?tazq ?tbzq ?e1zq ?e2zq ?_; (case uzq => exact Lv.units (by assumption)); (case tazq => first | exact News.isTup (by k_asm) (by k_mem) | exact Fr.tup (by k_asm) (by assumption)); (case tbzq => exact News.isTup (by k_asm) (by k_mem)); (case e1zq => exact SeqAt.EqAt.str_str _ _ _ _); (case e2zq => first | exact SeqAt.EqAt.str_str _ _ _ _ | exact SeqAt.EqAt.int_str _ _ _ _ | exact SeqAt.EqAt.tuple_str _ _ (Fr.tup (by k_asm) (by assumption)) (Lv.units (Lv.in1 (by assumption)))); k_whole)))
  k_with "compareOp In str ref" => (k_here; (with_reducible show wpAny _ _ (compareOp CmpOp.In (Value.str _ _) (Value.ref _)) _ _ _); (with_unfolding_all refine' in_tuple_strs ?k1zq ?k2zq ?_; (case k1zq => exact News.isTup (by k_asm) (List.Mem.head _)); (case k2zq => kde_strs); k_whole); (rename News _ _ _ _ => zzNq; replace zzNq := News.tail' zzNq); (try k_sweep))
  k_with "compareOp NotIn int ref" => (k_here; k_dflt (refine' notInD ?Nzq ?mzq ?dzq ?lzq ?_; (case Nzq => k_asm); (case mzq => k_mem); (case dzq => with_reducible assumption); (case lzq => with_reducible assumption); k_whole))
  k_with "assign Tuple" => (k_here; (with_reducible show wpAny _ _ (assign (PySem.Expr.Tuple _ _ _) _ (Value.ref _)) _ _ _); k_dflt (refine' kun_list ?k1zq ?k2zq ?k3zq ?k4zq ?k5zq ?k6zq ?_; (case k1zq => k_asm); (case k2zq => k_asm); (case k3zq => exact News.isList (by k_asm) (by k_mem)); (case k4zq => exact Lv.hh (by assumption)); (case k5zq => exact rfl); (case k6zq => exact rfl); k_whole); intro zzhq zzFq zzNq; (try k_sweep))
  trivial
theorem lines_C5_1 : True := by
  k_with "call ref" => (k_here; (with_reducible show wpAny _ _ (call (Value.ref _) _) _ _ _); (refine wpAny_call ?_); k_dflt ( (refine' labels_k ?Fzq ?Nzq ?Xzq ?Tzq ?vzq ?ozq ?_; (case Fzq => k_asm); (case Nzq => k_asm); (case Xzq => k_asm); (case Tzq => k_asm); (case vzq => exact Lv.le (by assumption) (by decide)); (case ozq => exact OpAt.keeps (Fr.keep (by k_asm)) (by assumption)); k_whole; intro zzhq zztkq zzrq zzcq zzvsq zzFq zzNq zzl1 zzei zzez; (try dsimp only); (try k_fold))))
  trivial
section
variable {prog : Program} {w : World} {A : Around} {s : Shared} {R : Result → Shared → Prop} {a c o b : Addr}
   {p : Program} {loose : List Str} {mean : ExcName → Option Value} {mg mb : Str → Option Value}
set_option maxHeartbeats 4000000 in
theorem ways_c {op : Op} {pl hg : Int} {tp tg : Tok} (X : (Mine.hd.heap_1 w.params).In s.heap) (T : Top p loose mean mg mb s.heap) (hv : Lv A 3) (ho : OpAt s.heap a op)
   (h : ∀ h' tk r c vs imm, Ext s.heap h' → NewAt s.heap h' ((r, seqObj "list" vs.toArray c) :: imm) → TupAll imm → PairsIn imm vs (ways op pl hg) → vs.length ≤ 41 → R (.ok (.ret (.ref r))) { s with heap := h', toks := tk }) :
   codeAny (model prog w) A (.call (.ref 53) ⟨[.ref a, .int pl tp, .int hg tg], []⟩) R s := by
  refine' enterC (binds := [(Str.ofString "op", .ref a), (Str.ofString "place", .int pl tp), (Str.ofString "height", .int hg tg)]) [] (fun _ h => nomatch h) X ?k5 ?k6 ?k7 ?k8 ?k9 ?kB ?kD ?_ ?c2 ?c3 ?c4
  case k5 => exact T.nolimit
  case k6 => k_dflt k_is
  case k7 => k_dflt k_is
  case k8 => exact hv.room
  case k9 => exact rfl
  case kB => exact kindsX rfl
  case kD => decide +kernel
  case c2 => exact rfl
  case c3 => exact rfl
  case c4 => exact rfl
  intro L h₁ tk cells F N Y
  change Fr s.heap _ _ _ at F
  change News s.heap _ _ _ at N
  k_cells Y
  (try rw [List.append_nil] at N)
  refine hv.gen ?_
  clear hv
  intro A' hv
  try dsimp only
  try k_fold
  obtain ⟨t0, rest, ha⟩ := ho.view
  have f1 := word_give op
  have f2 := word_end op
  k_steps
  rename Fr _ _ _ _ => Fe; rename News _ _ _ _ => Ne; rename IntsAre _ (labels _) => ei; rename List.length _ ≤ 40 => ez
  refine grow_list hv.hh Fe Ne (.head _) (by (first | lia | omega)) (fun i acc imm => PairsIn imm acc (((labels op).take i).map (fun l => (l, if isGive op then 0 else hg)))) .nil ?_ ?_
  · intro base kb i v acc imm own h tk m₁ C hi hP hG F5 N5
    obtain ⟨n, t, hn, rfl⟩ := ints_get ei hP
    replace X := X.keeps kb
    replace T := T.keeps kb
    replace ha := ha.keeps kb
    simp only [List.cons_append, List.nil_append] at N5
    refine wpAny_tests_nil ?_
    try dsimp only
    try k_fold
    rw [List.take_add_one, hn]
    cases hgv : isGive op <;> rw [hgv] at f1
    · k_steps
      (rename Fr _ _ _ _ => Fe; rename News _ _ _ _ => Ne)
      refine GEnd.intro1 Fe Ne (fun q hq => hq) rfl ?_
      · show PairsIn _ _ _
        rw [hgv] at hG
        rw [List.map_append]
        exact (hG.mono fun p hp => List.mem_cons_of_mem _ hp).append (.cons (.head _) .nil)
    · k_steps
      (rename Fr _ _ _ _ => Fe; rename News _ _ _ _ => Ne)
      refine GEnd.intro1 Fe Ne (fun q hq => hq) rfl ?_
      · show PairsIn _ _ _
        rw [hgv] at hG
        rw [List.map_append]
        exact (hG.mono fun p hp => List.mem_cons_of_mem _ hp).append (.cons (.head _) .nil)
  · intro D h' tk c acc imm F5 N5 hd him hG
    try dsimp only
    try k_fold
    simp only [List.cons_append, List.nil_append] at N5
    (have hdi : ∀ p ∈ imm, p.1 ≠ _ := fun p hp => hd p (List.mem_append_right _ hp)); (have hd0 := allNe_of (fun p hp => hd p (List.mem_append_left imm hp))); (simp only [AllNe, and_true] at hd0); (try clear hd)
    have hlen : acc.length ≤ 40 := by
      have e1 := hG.length
      have e2 := ei.length
      simp only [List.length_map, List.length_take] at e1
      (first | lia | omega)
    have hsz : acc.toArray.size ≤ sizeLine := by simp only [List.size_toArray]; exact Nat.le_trans hlen (by decide)
    rw [ei.length, List.take_length] at hG
    have hsp : ways op pl hg = (labels op).map (fun l => (l, if isGive op then 0 else hg)) ++ (if isEnd op then [] else [(pl + 1, hg)]) := rfl
    cases hgv : isEnd op <;> rw [hgv] at f2 hsp
    · k_steps
      (rename Fr _ _ _ _ => Fe; rename News _ _ _ _ => Ne)
      refine h _ _ D _ _ _ Fe.keep (waysEnd1 Ne (fun p hp => .tail _ (.tail _ (.tail _ hp)))) ?_ ?_ ?_
      · intro q hq; rcases List.mem_cons.mp hq with rfl | hq
        · rfl
        · exact him q hq
      · rw [hsp]
        exact (hG.mono fun p hp => List.mem_cons_of_mem _ hp).append (.cons (.head _) .nil)
      · rw [List.length_append, List.length_singleton]; (first | lia | omega)
    · k_steps
      (rename Fr _ _ _ _ => Fe; rename News _ _ _ _ => Ne)
      refine h _ _ D c acc imm Fe.keep ?_ him ?_ ?_
      · intro q hq
        refine News.newAt Ne q ?_
        rcases List.mem_cons.mp hq with rfl | hq
        · exact .tail _ (.head _)
        · exact .tail _ (.tail _ (.tail _ (.tail _ (.tail _ hq))))
      · rw [hsp]
        rw [if_pos rfl, List.append_nil]; exact hG
      · (first | lia | omega)
end
section
variable {prog : Program} {w : World} {A : Around} {s : Shared} {R : Result → Shared → Prop} {a : Addr} {h₀ : Heap} {L : Addr} {m : Str → Option Value} {news : Led}
   {p : Program} {loose : List Str} {mean : ExcName → Option Value} {mg mb : Str → Option Value}
theorem ways_k {op : Op} {pl hg : Int} {tp tg : Tok} (F : Fr h₀ L s.heap m) (N : News h₀ L s.heap news) (X : (Mine.hd.heap_1 w.params).In h₀) (T : Top p loose mean mg mb h₀) (hv : Lv A 3) (ho : OpAt s.heap a op)
   (h : ∀ h' tk r c vs imm, Fr h₀ L h' m → News h₀ L h' ((r, seqObj "list" vs.toArray c) :: (news ++ imm)) → (∀ q ∈ news ++ imm, q.1 ≠ r) → TupAll imm → PairsIn imm vs (ways op pl hg) → vs.length ≤ 41 → R (.ok (.ret (.ref r))) { s with heap := h', toks := tk }) :
   codeAny (model prog w) A (.call (.ref 53) ⟨[.ref a, .int pl tp, .int hg tg], []⟩) R s :=
  ways_c (X.keeps F.keep) (T.keeps F.keep) hv ho fun h' tk r c vs imm e1 e2 e3 e4 e5 => by
    have er := e2 _ (.head _)
    refine h h' tk r c vs imm (fr_ext F e1) (fun q hq => News.ext_list F N e1 e2 q (by simp only [List.mem_cons, List.mem_append] at hq ⊢; rcases hq with h | h | h <;> simp [h])) (fun q hq e => ?_) e3 e4 e5
    rcases List.mem_append.mp hq with hq | hq
    · have := (N q hq).1
      rw [e, er.2] at this; cases this
    · have h1 := (e2 q (.tail _ hq)).1
      rw [e, er.1] at h1
      have h2 := e3 q hq
      rw [← Option.some.inj h1] at h2
      injection h2 with h2
      exact absurd h2 (by decide)
end

end

section
theorem base_C6 : True := by
  k_with_none
  w_top off
  k_with "subscriptTail" => (k_here; (with_reducible show wpAny _ _ (subscriptTail _ _ (Value.ref _) (Value.int _ _)) _ _ _); k_dflt ( (refine' itemT ?Fzq ?tzq ?azq ?bzq ?czq ?dzq ?_; (case Fzq => k_asm); (case tzq => assumption); (case azq => decide); (case bzq => decide); (case czq => rfl); (case dzq => rfl); k_whole)))
  k_with "size_fits" => with_reducible assumption
  k_with "k_room" => exact Lv.room (by assumption)
  k_with "k_inst" => exact instUp (by assumption) (Fr.keep (by k_asm))
  k_with "call builtin:len" => (k_here; (with_reducible show wpAny _ _ (call (Value.builtin "len") [Value.ref _]) _ _ _); k_dflt ( (refine' lenT ?Fzq ?tzq ?azq ?bzq ?_; (case Fzq => k_asm); (case tzq => assumption); (case azq => first | assumption | rfl); (case bzq => first | assumption | decide); k_whole)))
  k_with "eval ListComp" => (k_here; (with_reducible rename Fr _ _ _ _ => zzlFq); k_dflt ( (refine' comp_inv zzlFq ?k1zq ?k2zq ?k3zq ?k4zq ?k5zq ?_ ?k6zq; (case k1zq => with_unfolding_all rfl); (case k2zq => decide); (case k3zq => with_unfolding_all rfl); (case k4zq => decide); (case k5zq => with_unfolding_all rfl); (case k6zq => (intro _; with_unfolding_all rfl)); k_whole)))
  k_with "exec Assign cons ListComp" => (k_here; (with_reducible rename Fr _ _ _ _ => zzlFq); k_dflt ( (refine' comp_assign zzlFq ?j1zq ?j2zq ?k1zq ?k2zq ?k3zq ?k4zq ?k5zq ?j3zq ?j4zq ?_ ?k6zq; (case j1zq => with_unfolding_all rfl); (case j2zq => with_unfolding_all rfl); (case j3zq => with_unfolding_all rfl); (case j4zq => with_unfolding_all rfl); (case k1zq => with_unfolding_all rfl); (case k2zq => decide); (case k3zq => with_unfolding_all rfl); (case k4zq => decide); (case k5zq => with_unfolding_all rfl); (case k6zq => (intro _; with_unfolding_all rfl)); k_whole)))
  k_with "compareOp NotEq ref ref" => (k_here; (with_reducible show wpAny _ _ (compareOp CmpOp.NotEq (Value.ref _) (Value.ref _)) _ _ _); k_dflt ( (refine' neNil ?azq ?bzq ?uzq ?_; (case azq => is_list); (case bzq => is_list); (case uzq => exact Lv.units (by assumption)); k_whole)))
  k_with "compareOp Eq ref ref" => (k_here; (with_reducible show wpAny _ _ (compareOp CmpOp.Eq (Value.ref _) (Value.ref _)) _ _ _); k_dflt ( (refine' eqNil ?azq ?bzq ?uzq ?_; (case azq => is_list); (case bzq => is_list); (case uzq => exact Lv.units (by assumption)); k_whole)))
  k_with "compareOp NotIn str ref" => (k_here; k_dflt (refine' topNotIn_K ?Fzq ?Xzq ?lzq ?kzq ?ezq ?ozq ?_; (case Fzq => k_asm); (case Xzq => k_asm); (case lzq => k_is); (case kzq => k_keys); (case ezq => first | with_reducible assumption | k_is); (case ozq => decide)))
  k_with "eval Name" => (k_here; k_inBlock; (with_reducible rename Fr _ _ _ _ => zzkF); k_dflt (first | (refine' nameQ_L zzkF ?azq ?_ ?bzq ?czq ?dzq ?ezq; (case azq => exact rfl); (case bzq => rfl); (case czq => rfl); (case dzq => rfl); (case ezq => decide); k_whole) | (refine' nameQ_F ?Nzq ?azq ?mzq ?dzq ?_ ?czq ?kzq ?xzq ?yzq; (case Nzq => k_asm); (case azq => exact rfl); (case mzq => k_mem); (case dzq => assumption); (case czq => rfl); (case kzq => rfl); (case xzq => decide); (case yzq => decide); k_whole) | (refine' nameQ_B zzkF ?k1zq ?k2zq ?k3zq ?k4zq ?k5zq ?_ ?bzq ?czq ?dzq ?ezq ?fzq; (case bzq => rfl); (case czq => rfl); (case dzq => rfl); (case ezq => rfl); (case fzq => decide); (case k1zq => k_asm); (case k2zq => k_asm); (case k3zq => k_is); (case k4zq => boot_by_name); (case k5zq => decide); k_whole)))
  k_with "subscriptTail" => (k_here; (with_reducible show wpAny _ _ (subscriptTail _ _ (Value.ref _) (Value.int 0 _)) _ _ _); k_dflt ( (refine' itemT0 ?Fzq ?tzq ?_; (case Fzq => k_asm); (case tzq => with_reducible assumption); k_whole)))
  k_with "ite" => (first | with_reducible refine ite_known_t (by assumption) ?_ | with_reducible refine ite_known_f (by assumption) ?_ | with_reducible refine ite_known_t rfl ?_ | with_reducible refine ite_known_f rfl ?_)
  k_with "k_all" => with_reducible assumption
  k_with "k_all" => ((repeat (rename _ ∧ _ => zzhqq; obtain ⟨_, _⟩ := zzhqq)); exact of_allLt (by with_reducible assumption))
  k_with "subscriptTail" => (k_here; (with_reducible show wpAny _ _ (subscriptTail _ _ (Value.ref _) (Value.str _ _)) _ _ _); k_dflt (refine' topItem_K ?Fzq ?Xzq ?lzq ?kzq ?ezq ?_; (case Fzq => k_asm); (case Xzq => k_asm); (case lzq => k_is); (case kzq => k_keys); (case ezq => with_reducible assumption); k_whole))
  k_with "subscriptTail" => (k_here; (with_reducible show wpAny _ _ (subscriptTail _ (PySem.Expr.Slice (some _) none none _) (Value.ref _) (Value.ref _)) _ _ _); k_dflt ( (refine' sliceT (a := 1) ?Fzq ?Nzq ?tzq ?azq ?bzq ?czq ?_ ?dzq ?ezq; (case Fzq => k_asm); (case Nzq => k_asm); (case tzq => assumption); (case azq => decide); (case bzq => exact Nat.le_of_ble_eq_true rfl); (case czq => exact Nat.le_of_ble_eq_true rfl); (case dzq => with_unfolding_all rfl); (case ezq => (intro _; with_unfolding_all rfl)); k_whole; intro zzhq zzrq zzFq zzNq zzl1; (try k_lt zzl1))))
  k_with "k_mem" => first | exact List.Mem.head _ | (refine' List.Mem.tail _ ?_; k_mem) | (show List.Mem _ _; assumption)
  k_with "unpackItems ref" => (k_here; k_dflt (refine' unpackItemsN_ ?k1zq ?k2zq ?k3zq ?k4zq ?k5zq ?_; (case k1zq => k_asm); (case k2zq => k_asm); (case k3zq => first | (with_reducible assumption) | exact News.isTup (by k_asm) (by k_mem) | exact Fr.tup (by k_asm) (by assumption)); (case k4zq => exact Lv.hh (by assumption)); (case k5zq => exact rfl); k_whole); intro zzhq zzFq zzNq; (try k_sweep))
  k_with "assign Tuple" => (k_here; (with_reducible show wpAny _ _ (assign (PySem.Expr.Tuple _ _ _) _ (Value.ref _)) _ _ _); k_dflt (refine' unpackN_ ?k1zq ?k2zq ?k3zq ?k4zq ?k5zq ?k6zq ?_; (case k1zq => k_asm); (case k2zq => k_asm); (case k3zq => first | (with_reducible assumption) | exact News.isTup (by k_asm) (by k_mem) | exact Fr.tup (by k_asm) (by assumption)); (case k4zq => exact Lv.hh (by assumption)); (case k5zq => exact rfl); (case k6zq => exact rfl); k_whole); intro zzhq zzFq zzNq; (try k_sweep))
  k_with "last exec While" => (k_here; (refine while_stop ?_))
  k_with "call builtin:list.pop" => (k_here; (try dsimp only); k_dflt ( (refine' kl_pop ?Fzq ?Nzq ?ezq ?Uzq ?zzq ?_; (case Fzq => k_asm); (case Nzq => k_asm); (case Uzq => k_upd); (case ezq => exact kl_last_snoc _ _); (case zzq => with_reducible assumption); k_whole; intro zzhq zzFq zzNq)))
  k_with "compareOp In int ref" => (k_here; k_dflt (refine' inD ?Nzq ?mzq ?dzq ?lzq ?_; (case Nzq => k_asm); (case mzq => k_mem); (case dzq => with_reducible assumption); (case lzq => with_reducible assumption); k_whole))
  k_with "subscriptTail" => (k_here; (with_reducible show wpAny _ _ (subscriptTail _ _ (Value.ref _) (Value.int _ _)) _ _ _); k_dflt (first | (refine' itemD ?Nzq ?mzq ?dzq ?vzq ?_ ?szq; (case Nzq => k_asm); (case mzq => k_mem); (case dzq => with_reducible assumption); (case vzq => with_reducible assumption); (case szq => with_unfolding_all rfl); k_whole) | (refine' itemO ?Fzq ?tzq ?azq ?xzq ?zzq ?_ ?szq; (case Fzq => k_asm); (case tzq => with_reducible assumption); (case azq => with_reducible assumption); (case xzq => with_reducible assumption); (case zzq => with_reducible assumption); (case szq => with_unfolding_all rfl); k_whole)))
  k_with "setItem ref int" => (k_here; k_dflt (refine' setD ?Fzq ?Nzq ?Uzq ?dzq ?zzq ?_; (case Fzq => k_asm); (case Nzq => k_asm); (case Uzq => k_updF); (case dzq => with_reducible assumption); (case zzq => with_reducible assumption); k_whole; intro zzhq zzoq zzFq zzNq zzdq; (try dsimp only at zzNq)))
  k_with "call builtin:list.extend" => (k_here; (with_reducible show wpAny _ _ (call (Value.builtin _) [Value.ref _, Value.ref _]) _ _ _); k_dflt (refine' extendK ?Fzq ?Nzq ?bzq ?Uzq ?zzq ?_; (case Fzq => k_asm); (case Nzq => k_asm); (case bzq => k_mem); (case Uzq => k_updF); (case zzq => with_reducible assumption); k_whole; intro zzhq zzcq zzFq zzNq; (try dsimp only at zzNq)))
  k_with "newTuple" => (k_here; k_dflt (refine' kup_newTuple ?Fzq ?Nzq ?_ ?zzq; (case Fzq => k_asm); (case Nzq => k_asm); (case zzq => exact Nat.le_of_ble_eq_true rfl)); intro zzDq zzhq zzFq zzNq zzl1; (try k_lt zzl1); (try k_sweep))
  k_with "exec For Name Call cons nil" => (k_here; (with_reducible rename Fr _ _ _ _ => zzlFq); k_dflt (refine' for_inv zzlFq ?j1zq ?j2zq ?j3zq ?_ ?j4zq; (case j1zq => with_unfolding_all rfl); (case j2zq => with_unfolding_all rfl); (case j3zq => with_unfolding_all rfl); (case j4zq => (intro _; with_unfolding_all rfl)); k_whole))
  k_with "execs cons Assign cons" => (k_here; (with_reducible refine wpAny_execs_cons ?_); (try dsimp only))
  k_with "subscriptTail" => (k_here; (with_reducible show wpAny _ _ (subscriptTail _ (PySem.Expr.Slice none (some _) none _) (Value.ref _) (Value.ref _)) _ _ _); k_dflt (first | (refine' sliceTwoA ?Fzq ?Nzq ?tzq ?_ ?dzq ?ezq; (case Fzq => k_asm); (case Nzq => k_asm); (case tzq => assumption); (case dzq => with_unfolding_all rfl); (case ezq => (intro _; with_unfolding_all rfl)); k_whole; intro zzhq zzFq zzNq) | (refine' sliceTwoB ?Fzq ?Nzq ?tzq ?_ ?dzq ?ezq; (case Fzq => k_asm); (case Nzq => k_asm); (case tzq => assumption); (case dzq => with_unfolding_all rfl); (case ezq => (intro _; with_unfolding_all rfl)); k_whole; intro zzhq zzrq zzFq zzNq zzl1; (try k_lt zzl1))))
  k_with "compareOp Eq ref ref" => (k_here; (with_reducible show wpAny _ _ (compareOp CmpOp.Eq (Value.ref _) (Value.ref _)) _ _ _); k_dflt ( (refine' eqTup2 ?uzq ?tazq ?tbzq ?e1zq ?e2zq ?_; (case uzq => exact Lv.units (by assumption)); (case tazq => first | exact News.isTup (by k_asm) (by k_mem) | exact Fr.tup (by k_asm) (by assumption)); (case tbzq => exact News.isTup (by k_asm) (by k_mem)); (case e1zq => exact SeqAt.EqAt.str_str _ _ _ _); (case e2zq => first | exact SeqAt.EqAt.str_str _ _ _ _ | exact SeqAt.EqAt.int_str _ _ _ _ | exact SeqAt.EqAt.tuple_str _ _ (Fr.tup (by k_asm) (by assumption)) (Lv.units (Lv.in1 (by assumption)))); k_whole)))
  k_with "compareOp In str ref" => (k_here; (with_reducible show wpAny _ _ (compareOp CmpOp.In (Value.str _ _) (Value.ref _)) _ _ _); (with_unfolding_all refine' in_tuple_strs ?k1zq ?k2zq ?_; (case k1zq => exact News.isTup (by k_asm) (List.Mem.head _)); (case k2zq => kde_strs); k_whole); (rename News _ _ _ _ => zzNq; replace zzNq := News.tail' zzNq); (try k_sweep))
  k_with "compareOp NotIn int ref" => (k_here; k_dflt (refine' notInD ?Nzq ?mzq ?dzq ?lzq ?_; (case Nzq => k_asm); (case mzq => k_mem); (case dzq => with_reducible assumption); (case lzq => with_reducible assumption); k_whole))
  k_with "assign Tuple" => (k_here; (with_reducible show wpAny _ _ (assign (PySem.Expr.Tuple _ _ _) _ (Value.ref _)) _ _ _); k_dflt (refine' kun_list ?k1zq ?k2zq ?k3zq ?k4zq ?k5zq ?k6zq ?_; (case k1zq => k_asm); (case k2zq => k_asm); (case k3zq => exact News.isList (by k_asm) (by k_mem)); (case k4zq => exact Lv.hh (by assumption)); (case k5zq => exact rfl); (case k6zq => exact rfl); k_whole); intro zzhq zzFq zzNq; (try k_sweep))
  trivial
theorem lines_C6_1 : True := by
  k_with "call ref" => (k_here; (with_reducible show wpAny _ _ (call (Value.ref _) _) _ _ _); (refine wpAny_call ?_); k_dflt (first | (refine' behind_k ?Fzq ?Nzq ?Xzq ?Tzq ?vzq ?ozq ?_; (case Fzq => k_asm); (case Nzq => k_asm); (case Xzq => k_asm); (case Tzq => k_asm); (case vzq => exact Lv.le (by assumption) (by decide)); (case ozq => exact OpAt.keeps (Fr.keep (by k_asm)) (by assumption)); k_whole; intro zzhq zztkq zztq zzFq zzNq; (try dsimp only); (try k_fold)) | (refine' ways_k ?Fzq ?Nzq ?Xzq ?Tzq ?vzq ?ozq ?_; (case Fzq => k_asm); (case Nzq => k_asm); (case Xzq => k_asm); (case Tzq => k_asm); (case vzq => exact Lv.le (by assumption) (by decide)); (case ozq => exact OpAt.keeps (Fr.keep (by k_asm)) (by assumption)); k_whole; intro zzhq zztkq zzrq zzcq zzvsq zzimmq zzFq zzNq zzl1 zzhtq zzhwq zzhzq; (try simp only [List.cons_append, List.nil_append] at zzNq); (try dsimp only); (try k_fold))))
  trivial
theorem cnt_same {x l o n d : Nat} (h : x + (l + 1) + 3 * (o - n) ≤ d) : x + l + 3 * (o - n) ≤ d := by omega
theorem cnt_fault {x l o n d : Nat} (h : x + (l + 1) + 3 * (o - n) ≤ d) : x + 1 + l + 3 * (o - n) ≤ d := by omega
theorem cnt_bad {x l o n d : Nat} (h : x + (l + 1) + 3 * (o - n) ≤ d) : x + 1 + l + 3 * (o - (n + 1)) ≤ d := by omega
theorem cnt_more {x l w o n d : Nat} (h : x + (l + 1) + 3 * (o - n) ≤ d) (hw : w ≤ 3) (hn : n + 1 ≤ o) : x + (l + w) + 3 * (o - (n + 1)) ≤ d := by omega
theorem lt_same {l c : Nat} : l + c < l + 1 + c := by omega
theorem lt_bad {l o n : Nat} : l + 4 * (o - (n + 1)) < l + 1 + 4 * (o - n) := by omega
theorem lt_more {l w o n : Nat} (hw : w ≤ 3) (hn : n + 1 ≤ o) : l + w + 4 * (o - (n + 1)) < l + 1 + 4 * (o - n) := by omega
theorem ways_len {op : Op} {pl h : Int} (h2 : (labels op).length ≤ 2) : (ways op pl h).length ≤ 3 := by
  unfold ways
  rw [List.length_append, List.length_map]
  split <;> simp <;> omega
theorem xs_len {x o : Nat} (h : x ≤ 3 * o + 3) (ho : o ≤ 10) : x ≤ 33 := by omega
theorem room_len {x l w c o : Nat} (h : x + (l + 1) + c ≤ 3 * o + 3) (ho : o ≤ 10) (hw : w ≤ 3) : l + w ≤ 1000 := by omega
section
variable {prog : Program} {w : World} {A : Around} {s : Shared} {R : Result → Shared → Prop} {a c o b : Addr} {as : List Addr} {bs : List Value} {ops : List Op} {begins : List Int}
   {p : Program} {loose : List Str} {mean : ExcName → Option Value} {mg mb : Str → Option Value}
set_option maxHeartbeats 4000000 in
theorem heights_c (X : (Mine.hd.heap_1 w.params).In s.heap) (T : Top p loose mean mg mb s.heap) (hv : Lv A 5)
   (hc : CodeAt w.params s.heap c o b as bs ops begins) (hz : ops.length ≤ 10) (hz2 : begins.length ≤ 2) (hlab : ∀ op ∈ ops, (∀ y ∈ labels op, 0 ≤ y ∧ y < ops.length) ∧ (labels op).length ≤ 2) (hbeg : ∀ y ∈ begins, 0 ≤ y ∧ y < ops.length)
   (h : ∀ h' tk r c xs imm, Ext s.heap h' → NewAt s.heap h' ((r, seqObj "list" (refsP xs).toArray c) :: imm) → TupAll imm → FaultsIn imm xs → xs.length ≤ 33 → (∀ q ∈ xs, 0 ≤ q.1.1 ∧ q.1.1 ≤ ops.length) → (xs = [] ↔ ∃ K, Clo ops begins K) → R (.ok (.ret (.ref r))) { s with heap := h', toks := tk }) :
   codeAny (model prog w) A (.call (.ref 58) ⟨[.ref c], []⟩) R s := by
  obtain ⟨⟨dx, tq1, tq2, nq, I⟩, hoT, hoE, hbT, hbI⟩ := hc
  have hn1 : (as.map Value.ref).toArray.size = ops.length := by simp [hoE.length]
  have hn2 : bs.toArray.size = begins.length := by simp [hbI.length]
  have hz1' : ops.length < 1000 := by (first | lia | omega)
  have hz2' : begins.length < 1000 := by (first | lia | omega)
  have hz3 : bs.toArray.size ≤ sizeLine := by rw [hn2]; exact Nat.le_trans hz2 (by decide)
  refine' enter (binds := [(Str.ofString "code", .ref c)]) X ?k5 ?k6 ?k7 ?k8 ?k9 ?kB ?_ ?c2 ?c3 ?c4 ?c5
  case k5 => exact T.nolimit
  case k6 => k_dflt k_is
  case k7 => k_dflt k_is
  case k8 => exact hv.room
  case k9 => exact rfl
  case c5 => decide
  case kB => exact locs rfl
  case c2 => exact rfl
  case c3 => exact rfl
  case c4 => exact rfl
  intro L h₁ F N
  refine hv.gen ?_
  clear hv
  intro A' hv
  try dsimp only
  try k_fold
  k_steps
  (rename Fr _ _ _ _ => Fe; rename News _ _ _ _ => Ne)
  rename IntsAre _ (begins ++ [0]) => ei
  refine grow_list hv.hh Fe Ne (.head _) (by rw [ei.length]; simp; (first | lia | omega)) (fun i acc imm => PairsIn imm acc (((begins ++ [0]).take i).map (fun l => (l, 0)))) .nil ?_ ?_
  · intro base kb i v acc imm own h tk m₁ C hi hP hG F5 N5
    obtain ⟨n, t, hn, rfl⟩ := ints_get ei hP
    replace X := X.keeps kb
    replace T := T.keeps kb
    simp only [List.cons_append, List.nil_append] at N5
    refine wpAny_tests_nil ?_
    try dsimp only
    try k_fold
    k_steps
    (rename Fr _ _ _ _ => Fe; rename News _ _ _ _ => Ne)
    refine GEnd.intro1 Fe Ne (fun q hq => hq) rfl ?_
    show PairsIn _ _ _
    rw [List.take_add_one, hn, List.map_append]
    exact (hG.mono fun p hp => List.mem_cons_of_mem _ hp).append (.cons (.head _) .nil)
  · intro D h' tk c2 acc imm F5 N5 hd him hG
    rw [ei.length, List.take_length] at hG
    try dsimp only
    try k_fold
    simp only [List.cons_append, List.nil_append] at N5
    k_steps
    (rename Fr _ _ _ _ => Fe; rename News _ _ _ _ => Ne)
    rename (_ == sysModules) = false => lo
    rename Obj.IsDictOf (intKind prog w) _ [] => hi0
    unfold WhileHere
    refine dfs_enter Fe Ne (by rfl) (by rfl) (by rfl) (by rfl) hi0 him hG hbeg hz2 hz ?_ ?_ ?_ ?_
    · have q := hd (_, _) (List.mem_append_left _ (.tail _ (.tail _ (.tail _ (.tail _ (.head _))))))
      exact q
    · have q := hd (_, _) (List.mem_append_left _ (.tail _ (.tail _ (.tail _ (.tail _ (.tail _ (.head _)))))))
      exact q
    · intro k hh tk2 u okn cl cf kvs xs imm6 kn him6 hdk hkv hfa hinv hxr hcnt F6 N6
      k_steps
      (rename Fr _ _ _ _ => Fe; rename News _ _ _ _ => Ne)
      refine h _ _ _ cf xs imm6 Fe.keep (fun q hq => ?_) him6 hfa (xs_len hcnt hz) hxr (inv_end hinv)
      refine News.newAt Ne q ?_
      rcases List.mem_cons.mp hq with rfl | hq
      · exact (by repeat (first | exact List.Mem.head _ | refine List.Mem.tail _ ?_))
      · exact ((fun q hq => by repeat (first | exact hq | exact List.mem_append_right _ hq | refine List.Mem.tail _ ?_)) : ∀ q ∈ imm6, _) q hq
    · intro d1 d2 hh tk2 u okn vs0 cl cf kvs xs imm6 kn lq pl hg ax tx1 tx2 cx him6 hdk hkv hp0 hax hfa hinv2 hxr hcnt hpl0 hpln hhg hlen z1 z2 z3 k1 k2 k3 hne F6 N6
      by_cases hlt : pl < ops.length
      · obtain ⟨op, hop⟩ : ∃ op, ops[pl.toNat]? = some op := ⟨_, List.getElem?_eq_getElem (by (first | lia | omega))⟩
        obtain ⟨ao, hao, hoa⟩ := hoE.get hop
        have hx : (as.map Value.ref)[pl.toNat]? = some (.ref ao) := by rw [List.getElem?_map, hao]; rfl
        have hzo : (as.map Value.ref).length ≤ 1000 := by rw [List.length_map, hoE.length]; (first | lia | omega)
        by_cases hkm : pl ∈ kn.map (·.1)
        · obtain ⟨⟨p2, hk⟩, hkx, hp2⟩ := List.mem_map.mp hkm
          replace hp2 : p2 = pl := hp2
          subst hp2
          obtain ⟨tk9, hva⟩ := hkv.some hinv2.kone hkx
          have hvs : (valueAt kvs p2).isSome = true := by rw [hva]; rfl
          by_cases heq : hk = hg
          · subst heq
            k_steps <;> first
              | (exfalso; (first | lia | omega))
              | ((rename Fr _ _ _ _ => Fe; rename News _ _ _ _ => Ne); refine dfs_end Fe Ne (by repeat (first | exact List.Mem.head _ | refine List.Mem.tail _ ?_)) (by repeat (first | exact List.Mem.head _ | refine List.Mem.tail _ ?_)) (by repeat (first | exact List.Mem.head _ | refine List.Mem.tail _ ?_)) (fun q hq => by repeat (first | exact hq | exact List.mem_append_right _ hq | refine List.Mem.tail _ ?_)) (by rfl) (by rfl) (by rfl) (by rfl) him6 hdk hkv hp0 hfa (inv_same hinv2 hkx) hxr (cnt_same hcnt) lt_same)
          · k_steps <;> first
              | (exfalso; (first | lia | omega))
              | ((rename Fr _ _ _ _ => Fe; rename News _ _ _ _ => Ne); refine dfs_fault Fe Ne (by repeat (first | exact List.Mem.head _ | refine List.Mem.tail _ ?_)) (by repeat (first | exact List.Mem.head _ | refine List.Mem.tail _ ?_)) (by repeat (first | exact List.Mem.head _ | refine List.Mem.tail _ ?_)) (fun q hq => by repeat (first | exact hq | exact List.mem_append_right _ hq | refine List.Mem.tail _ ?_)) (by rfl) (by rfl) (by rfl) (by rfl) him6 hdk hkv hp0 hfa (inv_other hinv2 hkx heq) hxr ⟨hpl0, hpln⟩ (cnt_fault hcnt) lt_same)
        · have hva := hkv.none hkm
          have hvs : (valueAt kvs pl).isSome = false := by rw [hva]; rfl
          obtain ⟨t0, rs, ha⟩ := hoa.view
          have hlb := hlab op (List.mem_of_getElem? hop)
          have f1 := word_deed op
          k_steps
          · (rename Fr _ _ _ _ => Fe; rename News _ _ _ _ => Ne)
            rename Obj.IsDictOf _ _ (stored _ _ _) => hst; rw [hkv.stored hkm] at hst
            have hbad : ¬ okAt op hg := fun q => by have := q.1; (first | lia | omega)
            refine dfs_fault Fe Ne (by repeat (first | exact List.Mem.head _ | refine List.Mem.tail _ ?_)) (by repeat (first | exact List.Mem.head _ | refine List.Mem.tail _ ?_)) (by repeat (first | exact List.Mem.head _ | refine List.Mem.tail _ ?_)) (fun q hq => by repeat (first | exact hq | exact List.mem_append_right _ hq | refine List.Mem.tail _ ?_)) (by rfl) (by rfl) (by rfl) (by rfl) him6 hst (hkv.snoc pl hg _) hp0 hfa (inv_bad hinv2 hkm hlt hop hbad) hxr ⟨hpl0, hpln⟩ (by simp only [List.length_append, List.length_singleton]; exact cnt_bad hcnt) (by simp only [List.length_append, List.length_singleton]; exact lt_bad)
          · (rename Fr _ _ _ _ => Fe; rename News _ _ _ _ => Ne)
            rename Obj.IsDictOf _ _ (stored _ _ _) => hst; rw [hkv.stored hkm] at hst
            have hbad : ¬ okAt op hg := fun q => q.2 ⟨by rw [← f1]; assumption, by (first | lia | omega)⟩
            refine dfs_fault Fe Ne (by repeat (first | exact List.Mem.head _ | refine List.Mem.tail _ ?_)) (by repeat (first | exact List.Mem.head _ | refine List.Mem.tail _ ?_)) (by repeat (first | exact List.Mem.head _ | refine List.Mem.tail _ ?_)) (fun q hq => by repeat (first | exact hq | exact List.mem_append_right _ hq | refine List.Mem.tail _ ?_)) (by rfl) (by rfl) (by rfl) (by rfl) him6 hst (hkv.snoc pl hg _) hp0 hfa (inv_bad hinv2 hkm hlt hop hbad) hxr ⟨hpl0, hpln⟩ (by simp only [List.length_append, List.length_singleton]; exact cnt_bad hcnt) (by simp only [List.length_append, List.length_singleton]; exact lt_bad)
          · (rename Fr _ _ _ _ => Fe; rename News _ _ _ _ => Ne)
            rename Obj.IsDictOf _ _ (stored _ _ _) => hst; rw [hkv.stored hkm] at hst
            rename PairsIn _ _ (ways _ _ _) => hpw; rename TupAll _ => htw
            rename (∀ q : Addr × Obj, q ∈ (_ : Led) → q.1 ≠ _) => hdw
            have hgood : okAt op hg := ⟨by (first | lia | omega), fun q => by have := q.2; (first | lia | omega)⟩
            have hinv3 := inv_good hinv2 hkm hlt hop hgood hlb.1
            have hkn3 := known_le hinv3
            rw [List.length_append, List.length_singleton] at hkn3
            have hwl : (ways op pl (behind op hg)).length ≤ 3 := ways_len hlb.2
            have hwv := hpw.length
            have him7 : TupAll (imm6 ++ _) := fun q hq => (List.mem_append.mp hq).elim (him6 q) (htw q)
            refine dfs_extend Fe Ne (.head _) (by repeat (first | exact List.Mem.head _ | refine List.Mem.tail _ ?_)) (by repeat (first | exact List.Mem.head _ | refine List.Mem.tail _ ?_)) (by repeat (first | exact List.Mem.head _ | refine List.Mem.tail _ ?_)) (fun q hq => by repeat (first | exact hq | exact List.mem_append_right _ hq | refine List.Mem.tail _ ?_)) him7 d1 d2 (fun e => hdw (D, seqObj "list" vs0.toArray (cl + 1)) (by repeat (first | exact List.Mem.head _ | refine List.Mem.tail _ ?_)) e.symm) (by rw [hlen, hwv]; exact room_len hcnt hz hwl) ?_
            intro h' c' F7 N7
            k_steps
            (rename Fr _ _ _ _ => Fe; rename News _ _ _ _ => Ne)
            refine dfs_end Fe Ne (by repeat (first | exact List.Mem.head _ | refine List.Mem.tail _ ?_)) (by repeat (first | exact List.Mem.head _ | refine List.Mem.tail _ ?_)) (by repeat (first | exact List.Mem.head _ | refine List.Mem.tail _ ?_)) (fun q hq => by repeat (first | exact hq | exact List.mem_append_right _ hq | refine List.Mem.tail _ ?_)) (by rfl) (by rfl) (by rfl) (by rfl) him7 hst (hkv.snoc pl hg _) ((hp0.mono fun q hq => List.mem_append_left _ hq).append (hpw.mono fun q hq => List.mem_append_right _ hq)) (hfa.mono fun q hq => List.mem_append_left _ hq) hinv3 hxr (by simp only [List.length_append, List.length_singleton]; exact cnt_more hcnt hwl hkn3) (by simp only [List.length_append, List.length_singleton]; exact lt_more hwl hkn3)
          · (rename Fr _ _ _ _ => Fe; rename News _ _ _ _ => Ne)
            rename Obj.IsDictOf _ _ (stored _ _ _) => hst; rw [hkv.stored hkm] at hst
            rename PairsIn _ _ (ways _ _ _) => hpw; rename TupAll _ => htw
            rename (∀ q : Addr × Obj, q ∈ (_ : Led) → q.1 ≠ _) => hdw
            have hgood : okAt op hg := ⟨by (first | lia | omega), fun q => by rw [← f1] at q; exact absurd q.1 (by simp only [Bool.not_eq_true]; assumption)⟩
            have hinv3 := inv_good hinv2 hkm hlt hop hgood hlb.1
            have hkn3 := known_le hinv3
            rw [List.length_append, List.length_singleton] at hkn3
            have hwl : (ways op pl (behind op hg)).length ≤ 3 := ways_len hlb.2
            have hwv := hpw.length
            have him7 : TupAll (imm6 ++ _) := fun q hq => (List.mem_append.mp hq).elim (him6 q) (htw q)
            refine dfs_extend Fe Ne (.head _) (by repeat (first | exact List.Mem.head _ | refine List.Mem.tail _ ?_)) (by repeat (first | exact List.Mem.head _ | refine List.Mem.tail _ ?_)) (by repeat (first | exact List.Mem.head _ | refine List.Mem.tail _ ?_)) (fun q hq => by repeat (first | exact hq | exact List.mem_append_right _ hq | refine List.Mem.tail _ ?_)) him7 d1 d2 (fun e => hdw (D, seqObj "list" vs0.toArray (cl + 1)) (by repeat (first | exact List.Mem.head _ | refine List.Mem.tail _ ?_)) e.symm) (by rw [hlen, hwv]; exact room_len hcnt hz hwl) ?_
            intro h' c' F7 N7
            k_steps
            (rename Fr _ _ _ _ => Fe; rename News _ _ _ _ => Ne)
            refine dfs_end Fe Ne (by repeat (first | exact List.Mem.head _ | refine List.Mem.tail _ ?_)) (by repeat (first | exact List.Mem.head _ | refine List.Mem.tail _ ?_)) (by repeat (first | exact List.Mem.head _ | refine List.Mem.tail _ ?_)) (fun q hq => by repeat (first | exact hq | exact List.mem_append_right _ hq | refine List.Mem.tail _ ?_)) (by rfl) (by rfl) (by rfl) (by rfl) him7 hst (hkv.snoc pl hg _) ((hp0.mono fun q hq => List.mem_append_left _ hq).append (hpw.mono fun q hq => List.mem_append_right _ hq)) (hfa.mono fun q hq => List.mem_append_left _ hq) hinv3 hxr (by simp only [List.length_append, List.length_singleton]; exact cnt_more hcnt hwl hkn3) (by simp only [List.length_append, List.length_singleton]; exact lt_more hwl hkn3)
      · k_steps
        (rename Fr _ _ _ _ => Fe; rename News _ _ _ _ => Ne)
        refine dfs_fault Fe Ne (by repeat (first | exact List.Mem.head _ | refine List.Mem.tail _ ?_)) (by repeat (first | exact List.Mem.head _ | refine List.Mem.tail _ ?_)) (by repeat (first | exact List.Mem.head _ | refine List.Mem.tail _ ?_)) (fun q hq => by repeat (first | exact hq | exact List.mem_append_right _ hq | refine List.Mem.tail _ ?_)) (by rfl) (by rfl) (by rfl) (by rfl) him6 hdk hkv hp0 hfa (inv_behind hinv2 (by dsimp only; (first | lia | omega))) hxr ⟨hpl0, hpln⟩ (cnt_fault hcnt) lt_same
end
section
variable {prog : Program} {w : World} {A : Around} {s : Shared} {R : Result → Shared → Prop} {a c o b : Addr} {h₀ : Heap} {L : Addr} {m : Str → Option Value} {news : Led} {as : List Addr} {bs : List Value} {ops : List Op} {begins : List Int}
   {p : Program} {loose : List Str} {mean : ExcName → Option Value} {mg mb : Str → Option Value}
theorem heights_k (F : Fr h₀ L s.heap m) (N : News h₀ L s.heap news) (X : (Mine.hd.heap_1 w.params).In h₀) (T : Top p loose mean mg mb h₀) (hv : Lv A 5)
   (hc : CodeAt w.params h₀ c o b as bs ops begins) (hz : ops.length ≤ 10) (hz2 : begins.length ≤ 2) (hlab : ∀ op ∈ ops, (∀ y ∈ labels op, 0 ≤ y ∧ y < ops.length) ∧ (labels op).length ≤ 2) (hbeg : ∀ y ∈ begins, 0 ≤ y ∧ y < ops.length)
   (h : ∀ h' tk r c xs imm, Fr h₀ L h' m → News h₀ L h' ((r, seqObj "list" (refsP xs).toArray c) :: (news ++ imm)) → TupAll imm → FaultsIn imm xs → xs.length ≤ 33 → (∀ q ∈ xs, 0 ≤ q.1.1 ∧ q.1.1 ≤ ops.length) → (xs = [] ↔ ∃ K, Clo ops begins K) → R (.ok (.ret (.ref r))) { s with heap := h', toks := tk }) :
   codeAny (model prog w) A (.call (.ref 58) ⟨[.ref c], []⟩) R s :=
  heights_c (X.keeps F.keep) (T.keeps F.keep) hv (hc.keeps F.keep) hz hz2 hlab hbeg fun h' tk r c xs imm e1 e2 e3 e4 e5 e6 e7 =>
    h h' tk r c xs imm (fr_ext F e1) (fun q hq => News.ext_list F N e1 e2 q (by simp only [List.mem_cons, List.mem_append] at hq ⊢; rcases hq with h | h | h <;> simp [h])) e3 e4 e5 e6 e7
end

end

section
theorem base_C7 : True := by
  k_with_none
  w_top off
  k_with "subscriptTail" => (k_here; (with_reducible show wpAny _ _ (subscriptTail _ _ (Value.ref _) (Value.int _ _)) _ _ _); k_dflt ( (refine' itemT ?Fzq ?tzq ?azq ?bzq ?czq ?dzq ?_; (case Fzq => k_asm); (case tzq => assumption); (case azq => decide); (case bzq => decide); (case czq => rfl); (case dzq => rfl); k_whole)))
  k_with "size_fits" => with_reducible assumption
  k_with "k_room" => exact Lv.room (by assumption)
  k_with "k_inst" => exact instUp (by assumption) (Fr.keep (by k_asm))
  k_with "call builtin:len" => (k_here; (with_reducible show wpAny _ _ (call (Value.builtin "len") [Value.ref _]) _ _ _); k_dflt ( (refine' lenT ?Fzq ?tzq ?azq ?bzq ?_; (case Fzq => k_asm); (case tzq => assumption); (case azq => first | assumption | rfl); (case bzq => first | assumption | decide); k_whole)))
  k_with "eval ListComp" => (k_here; (with_reducible rename Fr _ _ _ _ => zzlFq); k_dflt ( (refine' comp_inv zzlFq ?k1zq ?k2zq ?k3zq ?k4zq ?k5zq ?_ ?k6zq; (case k1zq => with_unfolding_all rfl); (case k2zq => decide); (case k3zq => with_unfolding_all rfl); (case k4zq => decide); (case k5zq => with_unfolding_all rfl); (case k6zq => (intro _; with_unfolding_all rfl)); k_whole)))
  k_with "exec Assign cons ListComp" => (k_here; (with_reducible rename Fr _ _ _ _ => zzlFq); k_dflt ( (refine' comp_assign zzlFq ?j1zq ?j2zq ?k1zq ?k2zq ?k3zq ?k4zq ?k5zq ?j3zq ?j4zq ?_ ?k6zq; (case j1zq => with_unfolding_all rfl); (case j2zq => with_unfolding_all rfl); (case j3zq => with_unfolding_all rfl); (case j4zq => with_unfolding_all rfl); (case k1zq => with_unfolding_all rfl); (case k2zq => decide); (case k3zq => with_unfolding_all rfl); (case k4zq => decide); (case k5zq => with_unfolding_all rfl); (case k6zq => (intro _; with_unfolding_all rfl)); k_whole)))
  k_with "compareOp NotEq ref ref" => (k_here; (with_reducible show wpAny _ _ (compareOp CmpOp.NotEq (Value.ref _) (Value.ref _)) _ _ _); k_dflt ( (refine' neNil ?azq ?bzq ?uzq ?_; (case azq => is_list); (case bzq => is_list); (case uzq => exact Lv.units (by assumption)); k_whole)))
  k_with "compareOp Eq ref ref" => (k_here; (with_reducible show wpAny _ _ (compareOp CmpOp.Eq (Value.ref _) (Value.ref _)) _ _ _); k_dflt ( (refine' eqNil ?azq ?bzq ?uzq ?_; (case azq => is_list); (case bzq => is_list); (case uzq => exact Lv.units (by assumption)); k_whole)))
  k_with "compareOp NotIn str ref" => (k_here; k_dflt (refine' topNotIn_K ?Fzq ?Xzq ?lzq ?kzq ?ezq ?ozq ?_; (case Fzq => k_asm); (case Xzq => k_asm); (case lzq => k_is); (case kzq => k_keys); (case ezq => first | with_reducible assumption | k_is); (case ozq => decide)))
  k_with "eval Name" => (k_here; k_inBlock; (with_reducible rename Fr _ _ _ _ => zzkF); k_dflt (first | (refine' nameQ_L zzkF ?azq ?_ ?bzq ?czq ?dzq ?ezq; (case azq => exact rfl); (case bzq => rfl); (case czq => rfl); (case dzq => rfl); (case ezq => decide); k_whole) | (refine' nameQ_F ?Nzq ?azq ?mzq ?dzq ?_ ?czq ?kzq ?xzq ?yzq; (case Nzq => k_asm); (case azq => exact rfl); (case mzq => k_mem); (case dzq => assumption); (case czq => rfl); (case kzq => rfl); (case xzq => decide); (case yzq => decide); k_whole) | (refine' nameQ_B zzkF ?k1zq ?k2zq ?k3zq ?k4zq ?k5zq ?_ ?bzq ?czq ?dzq ?ezq ?fzq; (case bzq => rfl); (case czq => rfl); (case dzq => rfl); (case ezq => rfl); (case fzq => decide); (case k1zq => k_asm); (case k2zq => k_asm); (case k3zq => k_is); (case k4zq => boot_by_name); (case k5zq => decide); k_whole)))
  k_with "subscriptTail" => (k_here; (with_reducible show wpAny _ _ (subscriptTail _ _ (Value.ref _) (Value.int 0 _)) _ _ _); k_dflt ( (refine' itemT0 ?Fzq ?tzq ?_; (case Fzq => k_asm); (case tzq => with_reducible assumption); k_whole)))
  k_with "ite" => (first | with_reducible refine ite_known_t (by assumption) ?_ | with_reducible refine ite_known_f (by assumption) ?_ | with_reducible refine ite_known_t rfl ?_ | with_reducible refine ite_known_f rfl ?_)
  k_with "k_all" => with_reducible assumption
  k_with "k_all" => ((repeat (rename _ ∧ _ => zzhqq; obtain ⟨_, _⟩ := zzhqq)); exact of_allLt (by with_reducible assumption))
  k_with "subscriptTail" => (k_here; (with_reducible show wpAny _ _ (subscriptTail _ _ (Value.ref _) (Value.str _ _)) _ _ _); k_dflt (refine' topItem_K ?Fzq ?Xzq ?lzq ?kzq ?ezq ?_; (case Fzq => k_asm); (case Xzq => k_asm); (case lzq => k_is); (case kzq => k_keys); (case ezq => with_reducible assumption); k_whole))
  k_with "subscriptTail" => (k_here; (with_reducible show wpAny _ _ (subscriptTail _ (PySem.Expr.Slice (some _) none none _) (Value.ref _) (Value.ref _)) _ _ _); k_dflt ( (refine' sliceT (a := 1) ?Fzq ?Nzq ?tzq ?azq ?bzq ?czq ?_ ?dzq ?ezq; (case Fzq => k_asm); (case Nzq => k_asm); (case tzq => assumption); (case azq => decide); (case bzq => exact Nat.le_of_ble_eq_true rfl); (case czq => exact Nat.le_of_ble_eq_true rfl); (case dzq => with_unfolding_all rfl); (case ezq => (intro _; with_unfolding_all rfl)); k_whole; intro zzhq zzrq zzFq zzNq zzl1; (try k_lt zzl1))))
  k_with "k_mem" => first | exact List.Mem.head _ | (refine' List.Mem.tail _ ?_; k_mem) | (show List.Mem _ _; assumption)
  k_with "unpackItems ref" => (k_here; k_dflt (refine' unpackItemsN_ ?k1zq ?k2zq ?k3zq ?k4zq ?k5zq ?_; (case k1zq => k_asm); (case k2zq => k_asm); (case k3zq => first | (with_reducible assumption) | exact News.isTup (by k_asm) (by k_mem) | exact Fr.tup (by k_asm) (by assumption)); (case k4zq => exact Lv.hh (by assumption)); (case k5zq => exact rfl); k_whole); intro zzhq zzFq zzNq; (try k_sweep))
  k_with "assign Tuple" => (k_here; (with_reducible show wpAny _ _ (assign (PySem.Expr.Tuple _ _ _) _ (Value.ref _)) _ _ _); k_dflt (refine' unpackN_ ?k1zq ?k2zq ?k3zq ?k4zq ?k5zq ?k6zq ?_; (case k1zq => k_asm); (case k2zq => k_asm); (case k3zq => first | (with_reducible assumption) | exact News.isTup (by k_asm) (by k_mem) | exact Fr.tup (by k_asm) (by assumption)); (case k4zq => exact Lv.hh (by assumption)); (case k5zq => exact rfl); (case k6zq => exact rfl); k_whole); intro zzhq zzFq zzNq; (try k_sweep))
  k_with "last exec While" => (k_here; (refine while_stop ?_))
  k_with "call builtin:list.pop" => (k_here; (try dsimp only); k_dflt ( (refine' kl_pop ?Fzq ?Nzq ?ezq ?Uzq ?zzq ?_; (case Fzq => k_asm); (case Nzq => k_asm); (case Uzq => k_upd); (case ezq => exact kl_last_snoc _ _); (case zzq => with_reducible assumption); k_whole; intro zzhq zzFq zzNq)))
  k_with "compareOp In int ref" => (k_here; k_dflt (refine' inD ?Nzq ?mzq ?dzq ?lzq ?_; (case Nzq => k_asm); (case mzq => k_mem); (case dzq => with_reducible assumption); (case lzq => with_reducible assumption); k_whole))
  k_with "subscriptTail" => (k_here; (with_reducible show wpAny _ _ (subscriptTail _ _ (Value.ref _) (Value.int _ _)) _ _ _); k_dflt (first | (refine' itemD ?Nzq ?mzq ?dzq ?vzq ?_ ?szq; (case Nzq => k_asm); (case mzq => k_mem); (case dzq => with_reducible assumption); (case vzq => with_reducible assumption); (case szq => with_unfolding_all rfl); k_whole) | (refine' itemO ?Fzq ?tzq ?azq ?xzq ?zzq ?_ ?szq; (case Fzq => k_asm); (case tzq => with_reducible assumption); (case azq => with_reducible assumption); (case xzq => with_reducible assumption); (case zzq => with_reducible assumption); (case szq => with_unfolding_all rfl); k_whole)))
  k_with "setItem ref int" => (k_here; k_dflt (refine' setD ?Fzq ?Nzq ?Uzq ?dzq ?zzq ?_; (case Fzq => k_asm); (case Nzq => k_asm); (case Uzq => k_updF); (case dzq => with_reducible assumption); (case zzq => with_reducible assumption); k_whole; intro zzhq zzoq zzFq zzNq zzdq; (try dsimp only at zzNq)))
  k_with "call builtin:list.extend" => (k_here; (with_reducible show wpAny _ _ (call (Value.builtin _) [Value.ref _, Value.ref _]) _ _ _); k_dflt (refine' extendK ?Fzq ?Nzq ?bzq ?Uzq ?zzq ?_; (case Fzq => k_asm); (case Nzq => k_asm); (case bzq => k_mem); (case Uzq => k_updF); (case zzq => with_reducible assumption); k_whole; intro zzhq zzcq zzFq zzNq; (try dsimp only at zzNq)))
  k_with "newTuple" => (k_here; k_dflt (refine' kup_newTuple ?Fzq ?Nzq ?_ ?zzq; (case Fzq => k_asm); (case Nzq => k_asm); (case zzq => exact Nat.le_of_ble_eq_true rfl)); intro zzDq zzhq zzFq zzNq zzl1; (try k_lt zzl1); (try k_sweep))
  k_with "exec For Name Call cons nil" => (k_here; (with_reducible rename Fr _ _ _ _ => zzlFq); k_dflt (refine' for_inv zzlFq ?j1zq ?j2zq ?j3zq ?_ ?j4zq; (case j1zq => with_unfolding_all rfl); (case j2zq => with_unfolding_all rfl); (case j3zq => with_unfolding_all rfl); (case j4zq => (intro _; with_unfolding_all rfl)); k_whole))
  k_with "execs cons Assign cons" => (k_here; (with_reducible refine wpAny_execs_cons ?_); (try dsimp only))
  k_with "subscriptTail" => (k_here; (with_reducible show wpAny _ _ (subscriptTail _ (PySem.Expr.Slice none (some _) none _) (Value.ref _) (Value.ref _)) _ _ _); k_dflt (first | (refine' sliceTwoA ?Fzq ?Nzq ?tzq ?_ ?dzq ?ezq; (case Fzq => k_asm); (case Nzq => k_asm); (case tzq => assumption); (case dzq => with_unfolding_all rfl); (case ezq => (intro _; with_unfolding_all rfl)); k_whole; intro zzhq zzFq zzNq) | (refine' sliceTwoB ?Fzq ?Nzq ?tzq ?_ ?dzq ?ezq; (case Fzq => k_asm); (case Nzq => k_asm); (case tzq => assumption); (case dzq => with_unfolding_all rfl); (case ezq => (intro _; with_unfolding_all rfl)); k_whole; intro zzhq zzrq zzFq zzNq zzl1; (try k_lt zzl1))))
  k_with "compareOp Eq ref ref" => (k_here; (with_reducible show wpAny _ _ (compareOp CmpOp.Eq (Value.ref _) (Value.ref _)) _ _ _); k_dflt ( (refine' eqTup2 ?uzq ?tazq ?tbzq ?e1zq ?e2zq ?_; (case uzq => exact Lv.units (by assumption)); (case tazq => first | exact News.isTup (by k_asm) (by k_mem) | exact Fr.tup (by k_asm) (by assumption)); (case tbzq => exact News.isTup (by k_asm) (by k_mem)); (case e1zq => exact SeqAt.EqAt.str_str _ _ _ _); (case e2zq => first | exact SeqAt.EqAt.str_str _ _ _ _ | exact SeqAt.EqAt.int_str _ _ _ _ | exact SeqAt.EqAt.tuple_str _ _ (Fr.tup (by k_asm) (by assumption)) (Lv.units (Lv.in1 (by assumption)))); k_whole)))
  k_with "compareOp In str ref" => (k_here; (with_reducible show wpAny _ _ (compareOp CmpOp.In (Value.str _ _) (Value.ref _)) _ _ _); (with_unfolding_all refine' in_tuple_strs ?k1zq ?k2zq ?_; (case k1zq => exact News.isTup (by k_asm) (List.Mem.head _)); (case k2zq => kde_strs); k_whole); (rename News _ _ _ _ => zzNq; replace zzNq := News.tail' zzNq); (try k_sweep))
  k_with "compareOp NotIn int ref" => (k_here; k_dflt (refine' notInD ?Nzq ?mzq ?dzq ?lzq ?_; (case Nzq => k_asm); (case mzq => k_mem); (case dzq => with_reducible assumption); (case lzq => with_reducible assumption); k_whole))
  k_with "assign Tuple" => (k_here; (with_reducible show wpAny _ _ (assign (PySem.Expr.Tuple _ _ _) _ (Value.ref _)) _ _ _); k_dflt (refine' kun_list ?k1zq ?k2zq ?k3zq ?k4zq ?k5zq ?k6zq ?_; (case k1zq => k_asm); (case k2zq => k_asm); (case k3zq => exact News.isList (by k_asm) (by k_mem)); (case k4zq => exact Lv.hh (by assumption)); (case k5zq => exact rfl); (case k6zq => exact rfl); k_whole); intro zzhq zzFq zzNq; (try k_sweep))
  trivial
theorem lines_C7_1 : True := by
  k_with "call ref" => (k_here; (with_reducible show wpAny _ _ (call (Value.ref _) _) _ _ _); (refine wpAny_call ?_); k_dflt ( (refine' form_k ?Fzq ?Nzq ?Xzq ?Tzq ?vzq ?czq ?zzq ?yzq ?ozq ?_; (case Fzq => k_asm); (case Nzq => k_asm); (case Xzq => k_asm); (case Tzq => k_asm); (case vzq => exact Lv.le (by assumption) (by decide)); (case czq => with_reducible assumption); (case zzq => (first | lia | omega)); (case yzq => (first | lia | omega)); (case ozq => exact OpAt.keeps (Fr.keep (by k_asm)) (by assumption)); k_whole; intro zzhq zztkq zzxq zztq zzFq zzNq zzexq; (try dsimp only); (try k_fold))))
  trivial
section
variable {prog : Program} {w : World} {A : Around} {s : Shared} {R : Result → Shared → Prop} {a c o b : Addr} {as : List Addr} {bs : List Value} {ops : List Op} {begins : List Int}
   {p : Program} {loose : List Str} {mean : ExcName → Option Value} {mg mb : Str → Option Value}
noncomputable def formsOk (ops : List Op) (begins : List Int) : Prop := (∀ y ∈ begins, labOk ops.length y = true) ∧ ∀ op ∈ ops, formOk ops.length begins.length op = true
set_option maxHeartbeats 4000000 in
theorem wellf_c (X : (Mine.hd.heap_1 w.params).In s.heap) (T : Top p loose mean mg mb s.heap) (hv : Lv A 7)
   (hc : CodeAt w.params s.heap c o b as bs ops begins) (hz : ops.length ≤ 10) (hz1 : 1 ≤ ops.length) (hz2 : begins.length ≤ 2) (hl2 : ∀ op ∈ ops, (labels op).length ≤ 2)
   (h : ∀ h' tk d r c xs imm, Ext s.heap h' → NewAt s.heap h' ((r, seqObj "list" (refsP xs).toArray c) :: imm) → TupAll imm → FaultsIn imm xs → xs.length ≤ 33 → (xs.map (·.1)).Pairwise (fun x y => ltP x y = true) → (∀ q ∈ xs, 0 ≤ q.1.1 ∧ q.1.1 ≤ ops.length) → (xs = [] ↔ formsOk ops begins ∧ ∃ K, Clo ops begins K) → R (.ok (.ret (.ref r))) { s with heap := h', toks := tk, drawn := d }) :
   codeAny (model prog w) A (.call (.ref 65) ⟨[.ref c], []⟩) R s := by
  have hc' := hc
  obtain ⟨⟨dx, tq1, tq2, nq, I⟩, hoT, hoE, hbT, hbI⟩ := hc
  have hn1 : (as.map Value.ref).toArray.size = ops.length := by simp [hoE.length]
  have hn2 : bs.toArray.size = begins.length := by simp [hbI.length]
  have hz1' : ops.length < 1000 := by (first | lia | omega)
  have hz2' : begins.length < 1000 := by (first | lia | omega)
  have hz3 : bs.toArray.size ≤ sizeLine := by rw [hn2]; exact Nat.le_trans hz2 (by decide)
  refine' enter (binds := [(Str.ofString "code", .ref c)]) X ?k5 ?k6 ?k7 ?k8 ?k9 ?kB ?_ ?c2 ?c3 ?c4 ?c5
  case k5 => exact T.nolimit
  case k6 => k_dflt k_is
  case k7 => k_dflt k_is
  case k8 => exact hv.room
  case k9 => exact rfl
  case c5 => decide
  case kB => exact locs rfl
  case c2 => exact rfl
  case c3 => exact rfl
  case c4 => exact rfl
  intro L h₁ F N
  refine hv.gen ?_
  clear hv
  intro A' hv
  try dsimp only
  try k_fold
  k_steps
  (rename Fr _ _ _ _ => Fe; rename News _ _ _ _ => Ne)
  rename IsRange _ _ _ _ _ _ _ _ => hr
  refine wf_loop (ops := ops) (xs := []) (imm := []) (fun i => ∀ j y, j < i → begins[j]? = some y → labOk ops.length y = true) 0 hv.hh Fe Ne hr (by (first | lia | omega)) (by rfl) (by rfl) (fun _ h => nomatch h) (fun _ h => nomatch h) (Nat.zero_le _) (fun _ h => nomatch h) ⟨fun _ j y hj => absurd hj (Nat.not_lt_zero _), fun _ => rfl⟩ ?_ ?_
  · intro i t u xs cf imm own hh tk3 hi him hfa hln hxr hb hap F5 N5
    obtain ⟨y, hy⟩ : ∃ y, begins[i]? = some y := ⟨_, List.getElem?_eq_getElem hi⟩
    obtain ⟨t9, ht9⟩ := hbI.get i y hy
    have hi0 : (0 : Int) ≤ (i : Int) := Int.natCast_nonneg i
    have hx : bs[(i : Int).toNat]? = some (.int y t9) := by rw [Int.toNat_natCast]; exact ht9
    have hzb : bs.length ≤ 1000 := by rw [hbI.length]; (first | lia | omega)
    have z2 : (refsP xs).toArray.size ≤ sizeLine := by
      have : 1000 ≤ sizeLine := by decide
      simp only [List.size_toArray, refsP, List.length_map]
      (first | lia | omega)
    have hB := upto_succ (P := fun y => labOk ops.length y = true) hy
    k_steps
    · (rename Fr _ _ _ _ => Fe; rename News _ _ _ _ => Ne)
      have e : labOk ops.length y = true := by unfold labOk; rw [Bool.and_eq_true]; exact ⟨decide_eq_true (by assumption), decide_eq_true (by assumption)⟩
      refine wf_next Fe Ne (by repeat (first | exact List.Mem.head _ | refine List.Mem.tail _ ?_)) (fun q hq => by repeat (first | exact hq | exact List.mem_append_right _ hq | refine List.Mem.tail _ ?_)) (by rfl) (by rfl) him hfa (by (first | lia | omega)) hxr ?_
      rw [hb, hB]; exact ⟨fun q => ⟨q, e⟩, fun q => q.1⟩
    · (rename Fr _ _ _ _ => Fe; rename News _ _ _ _ => Ne)
      have e : labOk ops.length y = false := by unfold labOk; rw [Bool.and_eq_false_iff]; exact .inr (decide_eq_false (by assumption))
      refine wf_fault Fe Ne (by repeat (first | exact List.Mem.head _ | refine List.Mem.tail _ ?_)) (fun q hq => by repeat (first | exact hq | exact List.mem_append_right _ hq | refine List.Mem.tail _ ?_)) (by rfl) (by rfl) him hfa (by (first | lia | omega)) hxr ⟨hi0, by (first | lia | omega)⟩ ?_
      rw [hB]; exact fun q => by rw [e] at q; exact Bool.false_ne_true q.2
    · (rename Fr _ _ _ _ => Fe; rename News _ _ _ _ => Ne)
      have e : labOk ops.length y = false := by unfold labOk; rw [Bool.and_eq_false_iff]; exact .inl (decide_eq_false (by assumption))
      refine wf_fault Fe Ne (by repeat (first | exact List.Mem.head _ | refine List.Mem.tail _ ?_)) (fun q hq => by repeat (first | exact hq | exact List.mem_append_right _ hq | refine List.Mem.tail _ ?_)) (by rfl) (by rfl) him hfa (by (first | lia | omega)) hxr ⟨hi0, by (first | lia | omega)⟩ ?_
      rw [hB]; exact fun q => by rw [e] at q; exact Bool.false_ne_true q.2
  · intro u xs cf imm h' tk3 him hfa hln hxr hb hap F5 N5
    try dsimp only
    try k_fold
    k_steps
    (rename Fr _ _ _ _ => Fe; rename News _ _ _ _ => Ne)
    rename IsRange _ _ _ _ _ _ _ _ => hr2
    refine wf_loop (ops := ops) (xs := xs) (imm := imm) (fun i => (∀ j y, j < begins.length → begins[j]? = some y → labOk ops.length y = true) ∧ ∀ j op, j < i → ops[j]? = some op → formOk ops.length begins.length op = true) begins.length hv.hh Fe Ne hr2 (by (first | lia | omega)) (by rfl) (by rfl) him hfa (by (first | lia | omega)) hxr ⟨fun q => ⟨hb.mp q, fun j y hj => absurd hj (Nat.not_lt_zero _)⟩, fun q => hb.mpr q.1⟩ ?_ ?_
    · clear hb hxr hln hfa him hap
      intro i t u xs cf imm own hh tk3 hi him hfa hln hxr hb hap F5 N5
      obtain ⟨op, hop⟩ : ∃ op, ops[i]? = some op := ⟨_, List.getElem?_eq_getElem hi⟩
      obtain ⟨ao, hao, hoa⟩ := hoE.get hop
      have hi0 : (0 : Int) ≤ (i : Int) := Int.natCast_nonneg i
      have hx : (as.map Value.ref)[(i : Int).toNat]? = some (.ref ao) := by rw [Int.toNat_natCast, List.getElem?_map, hao]; rfl
      have hzo : (as.map Value.ref).length ≤ 1000 := by rw [List.length_map, hoE.length]; (first | lia | omega)
      have z2 : (refsP xs).toArray.size ≤ sizeLine := by
        have : 1000 ≤ sizeLine := by decide
        simp only [List.size_toArray, refsP, List.length_map]
        (first | lia | omega)
      have hB := upto_succ (P := fun op => formOk ops.length begins.length op = true) hop
      k_steps
      · (rename Fr _ _ _ _ => Fe; rename News _ _ _ _ => Ne)
        rename (_ != Str.ofString "") = true => hq
        rename (_ = Str.ofString "" ↔ _) => hf
        refine wf_fault Fe Ne (by repeat (first | exact List.Mem.head _ | refine List.Mem.tail _ ?_)) (fun q hq => by repeat (first | exact hq | exact List.mem_append_right _ hq | refine List.Mem.tail _ ?_)) (by rfl) (by rfl) him hfa (by (first | lia | omega)) hxr ⟨hi0, by (first | lia | omega)⟩ ?_
        intro q
        have := hf.mpr (hB.mp q.2).2
        rw [this] at hq
        exact absurd hq (by decide)
      · (rename Fr _ _ _ _ => Fe; rename News _ _ _ _ => Ne)
        rename (_ != Str.ofString "") = false => hq
        rename (_ = Str.ofString "" ↔ _) => hf
        have e := hf.mp (by simpa using hq)
        refine wf_next Fe Ne (by repeat (first | exact List.Mem.head _ | refine List.Mem.tail _ ?_)) (fun q hq => by repeat (first | exact hq | exact List.mem_append_right _ hq | refine List.Mem.tail _ ?_)) (by rfl) (by rfl) him hfa (by (first | lia | omega)) hxr ?_
        rw [hb, hB]; exact ⟨fun q => ⟨q.1, q.2, e⟩, fun q => ⟨q.1, q.2.1⟩⟩
    · clear hb hxr hln hfa him hap
      intro u xs cf imm h' tk3 him hfa hln hxr hb hap F5 N5
      have hfo : xs = [] ↔ formsOk ops begins := hb.trans (and_congr upto_all upto_all)
      try dsimp only
      try k_fold
      k_steps
      · (rename Fr _ _ _ _ => Fe; rename News _ _ _ _ => Ne)
        rename (refsP xs).isEmpty = true => hq
        have hx0 : xs = [] := by cases xs with | nil => rfl | cons q xs => cases hq
        have hfs := hfo.mp hx0
        refine wpAny_call (heights_k Fe Ne X T (hv.le (by decide)) hc' hz hz2 (fun op hop => ⟨fun y hy => ?_, hl2 op hop⟩) (fun y hy => ?_) ?_)
        · have := hfs.2 op hop
          unfold formOk at this
          rw [Bool.and_eq_true, List.all_eq_true] at this
          have := this.1 y hy
          unfold labOk at this
          simpa using this
        · have := hfs.1 y hy
          unfold labOk at this
          simpa using this
        intro h' tk4 r4 c4 xs4 imm4 F6 N6 ht4 hf4 hl4 hr4 hq4
        try dsimp only
        try k_fold
        k_steps
        (rename Fr _ _ _ _ => Fe; rename News _ _ _ _ => Ne)
        refine set_of_list xs4 Fe Ne hv.hh (by have := hv.hu; simp only [cLine]; (first | lia | omega)) (by (first | lia | omega)) (News.isList Ne (by repeat (first | exact List.Mem.head _ | refine List.Mem.tail _ ?_))) (faults_tk Ne ((fun q hq => by repeat (first | exact hq | exact List.mem_append_right _ hq | refine List.Mem.tail _ ?_)) : ∀ q ∈ imm4, _) hf4) ?_
        intro h' tk5 S ms F7 N7 hS hH
        try dsimp only
        try k_fold
        k_steps
        (rename Fr _ _ _ _ => Fe; rename News _ _ _ _ => Ne)
        have hml := held_len hH
        have hfm : FaultsIn imm4 ms := fun q hq => hf4 q (hH.sub q hq)
        refine sorted_set ms Fe Ne hv.hh hS hH.nd (by (first | lia | omega)) (fun p hp h9 F9 N9 => faults_tk N9 ((fun q hq => by repeat (first | exact hq | exact List.mem_append_right _ hq | refine List.Mem.tail _ ?_)) : ∀ q ∈ imm4, _) hfm p hp) ?_
        intro D h' tk6 d c6 ms' F8 N8 lt8 hperm hrise
        try dsimp only
        try k_fold
        k_steps
        (rename Fr _ _ _ _ => Fe; rename News _ _ _ _ => Ne)
        refine h _ _ d D c6 ms' imm4 Fe.keep (fun q hq => ?_) ht4 (fun q hq => hfm q (hperm.mem_iff.mp hq)) (by rw [hperm.length_eq]; (first | lia | omega)) hrise (fun q hq => hr4 q (hH.sub q (hperm.mem_iff.mp hq))) ?_
        · refine News.newAt Ne q ?_
          rcases List.mem_cons.mp hq with rfl | hq
          · exact (by repeat (first | exact List.Mem.head _ | refine List.Mem.tail _ ?_))
          · exact ((fun q hq => by repeat (first | exact hq | exact List.mem_append_right _ hq | refine List.Mem.tail _ ?_)) : ∀ q ∈ imm4, _) q hq
        · have e1 : ms' = [] ↔ xs4 = [] := by
            rw [← held_nil hH]
            constructor
            · intro e; rw [e] at hperm; exact hperm.symm.eq_nil
            · intro e; rw [e] at hperm; exact hperm.eq_nil
          rw [e1]
          rw [hq4]; exact ⟨fun q => ⟨hfs, q⟩, fun q => q.2⟩
      · (rename Fr _ _ _ _ => Fe; rename News _ _ _ _ => Ne)
        rename (refsP xs).isEmpty = false => hq
        have hx0 : xs ≠ [] := fun e => by rw [e] at hq; cases hq
        refine set_of_list xs Fe Ne hv.hh (by have := hv.hu; simp only [cLine]; (first | lia | omega)) (by (first | lia | omega)) (News.isList Ne (by repeat (first | exact List.Mem.head _ | refine List.Mem.tail _ ?_))) (faults_tk Ne ((fun q hq => by repeat (first | exact hq | exact List.mem_append_right _ hq | refine List.Mem.tail _ ?_)) : ∀ q ∈ imm, _) hfa) ?_
        intro h' tk5 S ms F7 N7 hS hH
        try dsimp only
        try k_fold
        k_steps
        (rename Fr _ _ _ _ => Fe; rename News _ _ _ _ => Ne)
        have hml := held_len hH
        have hfm : FaultsIn imm ms := fun q hq => hfa q (hH.sub q hq)
        refine sorted_set ms Fe Ne hv.hh hS hH.nd (by (first | lia | omega)) (fun p hp h9 F9 N9 => faults_tk N9 ((fun q hq => by repeat (first | exact hq | exact List.mem_append_right _ hq | refine List.Mem.tail _ ?_)) : ∀ q ∈ imm, _) hfm p hp) ?_
        intro D h' tk6 d c6 ms' F8 N8 lt8 hperm hrise
        try dsimp only
        try k_fold
        k_steps
        (rename Fr _ _ _ _ => Fe; rename News _ _ _ _ => Ne)
        refine h _ _ d D c6 ms' imm Fe.keep (fun q hq => ?_) him (fun q hq => hfm q (hperm.mem_iff.mp hq)) (by rw [hperm.length_eq]; (first | lia | omega)) hrise (fun q hq => hxr q (hH.sub q (hperm.mem_iff.mp hq))) ?_
        · refine News.newAt Ne q ?_
          rcases List.mem_cons.mp hq with rfl | hq
          · exact (by repeat (first | exact List.Mem.head _ | refine List.Mem.tail _ ?_))
          · exact ((fun q hq => by repeat (first | exact hq | exact List.mem_append_right _ hq | refine List.Mem.tail _ ?_)) : ∀ q ∈ imm, _) q hq
        · have e1 : ms' = [] ↔ xs = [] := by
            rw [← held_nil hH]
            constructor
            · intro e; rw [e] at hperm; exact hperm.symm.eq_nil
            · intro e; rw [e] at hperm; exact hperm.eq_nil
          rw [e1]
          exact ⟨fun q => absurd q hx0, fun q => absurd (hfo.mpr q.1) hx0⟩
end

end

section
theorem base_C8 : True := by
  k_with_none
  w_top off
  k_with "subscriptTail" => (k_here; (with_reducible show wpAny _ _ (subscriptTail _ _ (Value.ref _) (Value.int _ _)) _ _ _); k_dflt ( (refine' itemT ?Fzq ?tzq ?azq ?bzq ?czq ?dzq ?_; (case Fzq => k_asm); (case tzq => assumption); (case azq => decide); (case bzq => decide); (case czq => rfl); (case dzq => rfl); k_whole)))
  k_with "size_fits" => with_reducible assumption
  k_with "k_room" => exact Lv.room (by assumption)
  k_with "k_inst" => exact instUp (by assumption) (Fr.keep (by k_asm))
  k_with "call builtin:len" => (k_here; (with_reducible show wpAny _ _ (call (Value.builtin "len") [Value.ref _]) _ _ _); k_dflt ( (refine' lenT ?Fzq ?tzq ?azq ?bzq ?_; (case Fzq => k_asm); (case tzq => assumption); (case azq => first | assumption | rfl); (case bzq => first | assumption | decide); k_whole)))
  k_with "eval ListComp" => (k_here; (with_reducible rename Fr _ _ _ _ => zzlFq); k_dflt ( (refine' comp_inv zzlFq ?k1zq ?k2zq ?k3zq ?k4zq ?k5zq ?_ ?k6zq; (case k1zq => with_unfolding_all rfl); (case k2zq => decide); (case k3zq => with_unfolding_all rfl); (case k4zq => decide); (case k5zq => with_unfolding_all rfl); (case k6zq => (intro _; with_unfolding_all rfl)); k_whole)))
  k_with "exec Assign cons ListComp" => (k_here; (with_reducible rename Fr _ _ _ _ => zzlFq); k_dflt ( (refine' comp_assign zzlFq ?j1zq ?j2zq ?k1zq ?k2zq ?k3zq ?k4zq ?k5zq ?j3zq ?j4zq ?_ ?k6zq; (case j1zq => with_unfolding_all rfl); (case j2zq => with_unfolding_all rfl); (case j3zq => with_unfolding_all rfl); (case j4zq => with_unfolding_all rfl); (case k1zq => with_unfolding_all rfl); (case k2zq => decide); (case k3zq => with_unfolding_all rfl); (case k4zq => decide); (case k5zq => with_unfolding_all rfl); (case k6zq => (intro _; with_unfolding_all rfl)); k_whole)))
  k_with "compareOp NotEq ref ref" => (k_here; (with_reducible show wpAny _ _ (compareOp CmpOp.NotEq (Value.ref _) (Value.ref _)) _ _ _); k_dflt ( (refine' neNil ?azq ?bzq ?uzq ?_; (case azq => is_list); (case bzq => is_list); (case uzq => exact Lv.units (by assumption)); k_whole)))
  k_with "compareOp Eq ref ref" => (k_here; (with_reducible show wpAny _ _ (compareOp CmpOp.Eq (Value.ref _) (Value.ref _)) _ _ _); k_dflt ( (refine' eqNil ?azq ?bzq ?uzq ?_; (case azq => is_list); (case bzq => is_list); (case uzq => exact Lv.units (by assumption)); k_whole)))
  k_with "compareOp NotIn str ref" => (k_here; k_dflt (refine' topNotIn_K ?Fzq ?Xzq ?lzq ?kzq ?ezq ?ozq ?_; (case Fzq => k_asm); (case Xzq => k_asm); (case lzq => k_is); (case kzq => k_keys); (case ezq => first | with_reducible assumption | k_is); (case ozq => decide)))
  k_with "eval Name" => (k_here; k_inBlock; (with_reducible rename Fr _ _ _ _ => zzkF); k_dflt (first | (refine' nameQ_L zzkF ?azq ?_ ?bzq ?czq ?dzq ?ezq; (case azq => exact rfl); (case bzq => rfl); (case czq => rfl); (case dzq => rfl); (case ezq => decide); k_whole) | (refine' nameQ_F ?Nzq ?azq ?mzq ?dzq ?_ ?czq ?kzq ?xzq ?yzq; (case Nzq => k_asm); (case azq => exact rfl); (case mzq => k_mem); (case dzq => assumption); (case czq => rfl); (case kzq => rfl); (case xzq => decide); (case yzq => decide); k_whole) | (refine' nameQ_B zzkF ?k1zq ?k2zq ?k3zq ?k4zq ?k5zq ?_ ?bzq ?czq ?dzq ?ezq ?fzq; (case bzq => rfl); (case czq => rfl); (case dzq => rfl); (case ezq => rfl); (case fzq => decide); (case k1zq => k_asm); (case k2zq => k_asm); (case k3zq => k_is); (case k4zq => boot_by_name); (case k5zq => decide); k_whole)))
  k_with "subscriptTail" => (k_here; (with_reducible show wpAny _ _ (subscriptTail _ _ (Value.ref _) (Value.int 0 _)) _ _ _); k_dflt ( (refine' itemT0 ?Fzq ?tzq ?_; (case Fzq => k_asm); (case tzq => with_reducible assumption); k_whole)))
  k_with "ite" => (first | with_reducible refine ite_known_t (by assumption) ?_ | with_reducible refine ite_known_f (by assumption) ?_ | with_reducible refine ite_known_t rfl ?_ | with_reducible refine ite_known_f rfl ?_)
  k_with "k_all" => with_reducible assumption
  k_with "k_all" => ((repeat (rename _ ∧ _ => zzhqq; obtain ⟨_, _⟩ := zzhqq)); exact of_allLt (by with_reducible assumption))
  k_with "subscriptTail" => (k_here; (with_reducible show wpAny _ _ (subscriptTail _ _ (Value.ref _) (Value.str _ _)) _ _ _); k_dflt (refine' topItem_K ?Fzq ?Xzq ?lzq ?kzq ?ezq ?_; (case Fzq => k_asm); (case Xzq => k_asm); (case lzq => k_is); (case kzq => k_keys); (case ezq => with_reducible assumption); k_whole))
  k_with "subscriptTail" => (k_here; (with_reducible show wpAny _ _ (subscriptTail _ (PySem.Expr.Slice (some _) none none _) (Value.ref _) (Value.ref _)) _ _ _); k_dflt ( (refine' sliceT (a := 1) ?Fzq ?Nzq ?tzq ?azq ?bzq ?czq ?_ ?dzq ?ezq; (case Fzq => k_asm); (case Nzq => k_asm); (case tzq => assumption); (case azq => decide); (case bzq => exact Nat.le_of_ble_eq_true rfl); (case czq => exact Nat.le_of_ble_eq_true rfl); (case dzq => with_unfolding_all rfl); (case ezq => (intro _; with_unfolding_all rfl)); k_whole; intro zzhq zzrq zzFq zzNq zzl1; (try k_lt zzl1))))
  k_with "k_mem" => first | exact List.Mem.head _ | (refine' List.Mem.tail _ ?_; k_mem) | (show List.Mem _ _; assumption)
  k_with "unpackItems ref" => (k_here; k_dflt (refine' unpackItemsN_ ?k1zq ?k2zq ?k3zq ?k4zq ?k5zq ?_; (case k1zq => k_asm); (case k2zq => k_asm); (case k3zq => first | (with_reducible assumption) | exact News.isTup (by k_asm) (by k_mem) | exact Fr.tup (by k_asm) (by assumption)); (case k4zq => exact Lv.hh (by assumption)); (case k5zq => exact rfl); k_whole); intro zzhq zzFq zzNq; (try k_sweep))
  k_with "assign Tuple" => (k_here; (with_reducible show wpAny _ _ (assign (PySem.Expr.Tuple _ _ _) _ (Value.ref _)) _ _ _); k_dflt (refine' unpackN_ ?k1zq ?k2zq ?k3zq ?k4zq ?k5zq ?k6zq ?_; (case k1zq => k_asm); (case k2zq => k_asm); (case k3zq => first | (with_reducible assumption) | exact News.isTup (by k_asm) (by k_mem) | exact Fr.tup (by k_asm) (by assumption)); (case k4zq => exact Lv.hh (by assumption)); (case k5zq => exact rfl); (case k6zq => exact rfl); k_whole); intro zzhq zzFq zzNq; (try k_sweep))
  k_with "last exec While" => (k_here; (refine while_stop ?_))
  k_with "call builtin:list.pop" => (k_here; (try dsimp only); k_dflt ( (refine' kl_pop ?Fzq ?Nzq ?ezq ?Uzq ?zzq ?_; (case Fzq => k_asm); (case Nzq => k_asm); (case Uzq => k_upd); (case ezq => exact kl_last_snoc _ _); (case zzq => with_reducible assumption); k_whole; intro zzhq zzFq zzNq)))
  k_with "compareOp In int ref" => (k_here; k_dflt (refine' inD ?Nzq ?mzq ?dzq ?lzq ?_; (case Nzq => k_asm); (case mzq => k_mem); (case dzq => with_reducible assumption); (case lzq => with_reducible assumption); k_whole))
  k_with "subscriptTail" => (k_here; (with_reducible show wpAny _ _ (subscriptTail _ _ (Value.ref _) (Value.int _ _)) _ _ _); k_dflt (first | (refine' itemD ?Nzq ?mzq ?dzq ?vzq ?_ ?szq; (case Nzq => k_asm); (case mzq => k_mem); (case dzq => with_reducible assumption); (case vzq => with_reducible assumption); (case szq => with_unfolding_all rfl); k_whole) | (refine' itemO ?Fzq ?tzq ?azq ?xzq ?zzq ?_ ?szq; (case Fzq => k_asm); (case tzq => with_reducible assumption); (case azq => with_reducible assumption); (case xzq => with_reducible assumption); (case zzq => with_reducible assumption); (case szq => with_unfolding_all rfl); k_whole)))
  k_with "setItem ref int" => (k_here; k_dflt (refine' setD ?Fzq ?Nzq ?Uzq ?dzq ?zzq ?_; (case Fzq => k_asm); (case Nzq => k_asm); (case Uzq => k_updF); (case dzq => with_reducible assumption); (case zzq => with_reducible assumption); k_whole; intro zzhq zzoq zzFq zzNq zzdq; (try dsimp only at zzNq)))
  k_with "call builtin:list.extend" => (k_here; (with_reducible show wpAny _ _ (call (Value.builtin _) [Value.ref _, Value.ref _]) _ _ _); k_dflt (refine' extendK ?Fzq ?Nzq ?bzq ?Uzq ?zzq ?_; (case Fzq => k_asm); (case Nzq => k_asm); (case bzq => k_mem); (case Uzq => k_updF); (case zzq => with_reducible assumption); k_whole; intro zzhq zzcq zzFq zzNq; (try dsimp only at zzNq)))
  k_with "newTuple" => (k_here; k_dflt (refine' kup_newTuple ?Fzq ?Nzq ?_ ?zzq; (case Fzq => k_asm); (case Nzq => k_asm); (case zzq => exact Nat.le_of_ble_eq_true rfl)); intro zzDq zzhq zzFq zzNq zzl1; (try k_lt zzl1); (try k_sweep))
  k_with "exec For Name Call cons nil" => (k_here; (with_reducible rename Fr _ _ _ _ => zzlFq); k_dflt (refine' for_inv zzlFq ?j1zq ?j2zq ?j3zq ?_ ?j4zq; (case j1zq => with_unfolding_all rfl); (case j2zq => with_unfolding_all rfl); (case j3zq => with_unfolding_all rfl); (case j4zq => (intro _; with_unfolding_all rfl)); k_whole))
  k_with "execs cons Assign cons" => (k_here; (with_reducible refine wpAny_execs_cons ?_); (try dsimp only))
  k_with "subscriptTail" => (k_here; (with_reducible show wpAny _ _ (subscriptTail _ (PySem.Expr.Slice none (some _) none _) (Value.ref _) (Value.ref _)) _ _ _); k_dflt (first | (refine' sliceTwoA ?Fzq ?Nzq ?tzq ?_ ?dzq ?ezq; (case Fzq => k_asm); (case Nzq => k_asm); (case tzq => assumption); (case dzq => with_unfolding_all rfl); (case ezq => (intro _; with_unfolding_all rfl)); k_whole; intro zzhq zzFq zzNq) | (refine' sliceTwoB ?Fzq ?Nzq ?tzq ?_ ?dzq ?ezq; (case Fzq => k_asm); (case Nzq => k_asm); (case tzq => assumption); (case dzq => with_unfolding_all rfl); (case ezq => (intro _; with_unfolding_all rfl)); k_whole; intro zzhq zzrq zzFq zzNq zzl1; (try k_lt zzl1))))
  k_with "compareOp Eq ref ref" => (k_here; (with_reducible show wpAny _ _ (compareOp CmpOp.Eq (Value.ref _) (Value.ref _)) _ _ _); k_dflt ( (refine' eqTup2 ?uzq ?tazq ?tbzq ?e1zq ?e2zq ?_; (case uzq => exact Lv.units (by assumption)); (case tazq => first | exact News.isTup (by k_asm) (by k_mem) | exact Fr.tup (by k_asm) (by assumption)); (case tbzq => exact News.isTup (by k_asm) (by k_mem)); (case e1zq => exact SeqAt.EqAt.str_str _ _ _ _); (case e2zq => first | exact SeqAt.EqAt.str_str _ _ _ _ | exact SeqAt.EqAt.int_str _ _ _ _ | exact SeqAt.EqAt.tuple_str _ _ (Fr.tup (by k_asm) (by assumption)) (Lv.units (Lv.in1 (by assumption)))); k_whole)))
  k_with "compareOp In str ref" => (k_here; (with_reducible show wpAny _ _ (compareOp CmpOp.In (Value.str _ _) (Value.ref _)) _ _ _); (with_unfolding_all refine' in_tuple_strs ?k1zq ?k2zq ?_; (case k1zq => exact News.isTup (by k_asm) (List.Mem.head _)); (case k2zq => kde_strs); k_whole); (rename News _ _ _ _ => zzNq; replace zzNq := News.tail' zzNq); (try k_sweep))
  k_with "compareOp NotIn int ref" => (k_here; k_dflt (refine' notInD ?Nzq ?mzq ?dzq ?lzq ?_; (case Nzq => k_asm); (case mzq => k_mem); (case dzq => with_reducible assumption); (case lzq => with_reducible assumption); k_whole))
  k_with "assign Tuple" => (k_here; (with_reducible show wpAny _ _ (assign (PySem.Expr.Tuple _ _ _) _ (Value.ref _)) _ _ _); k_dflt (refine' kun_list ?k1zq ?k2zq ?k3zq ?k4zq ?k5zq ?k6zq ?_; (case k1zq => k_asm); (case k2zq => k_asm); (case k3zq => exact News.isList (by k_asm) (by k_mem)); (case k4zq => exact Lv.hh (by assumption)); (case k5zq => exact rfl); (case k6zq => exact rfl); k_whole); intro zzhq zzFq zzNq; (try k_sweep))
  trivial
section
variable {prog : Program} {w : World} {A : Around} {s : Shared} {R : Result → Shared → Prop}
   {p : Program} {loose : List Str} {mean : ExcName → Option Value} {mg mb : Str → Option Value}
set_option maxHeartbeats 4000000 in
theorem takes_c (X : (Mine.hd.heap_1 w.params).In s.heap) (T : Top p loose mean mg mb s.heap) (hv : Lv A 1)
   (h : ∀ h' tk r o t1 t2 t3 t4, Ext s.heap h' → NewAt s.heap h' [(r, o)] → o.IsDictOf (strKind prog w) (takesK t1 t2 t3 t4) → (r == sysModules) = false → R (.ok (.ret (.ref r))) { s with heap := h', toks := tk }) :
   codeAny (model prog w) A (.call (.ref 101) ⟨[], []⟩) R s := by
  refine' enter (binds := []) X ?k5 ?k6 ?k7 ?k8 ?k9 ?kB ?_ ?c2 ?c3 ?c4 ?c5
  case k5 => exact T.nolimit
  case k6 => k_dflt k_is
  case k7 => k_dflt k_is
  case k8 => exact hv.room
  case k9 => exact rfl
  case c5 => decide
  case kB => exact locs rfl
  case c2 => exact rfl
  case c3 => exact rfl
  case c4 => exact rfl
  intro L h₁ F N
  refine hv.gen ?_
  clear hv
  intro A' hv
  try dsimp only
  try k_fold
  k_steps
  (rename Fr _ _ _ _ => Fe; rename News _ _ _ _ => Ne)
  rename Obj.IsDictOf _ _ _ => hdd
  rename (_ == sysModules) = false => lo
  exact h _ _ _ _ _ _ _ _ Fe.keep (News.newAt Ne) hdd lo
end
section
variable {prog : Program} {w : World} {A : Around} {s : Shared} {R : Result → Shared → Prop} {h₀ : Heap} {L : Addr} {m : Str → Option Value} {news : Led}
   {p : Program} {loose : List Str} {mean : ExcName → Option Value} {mg mb : Str → Option Value}
theorem takes_k (F : Fr h₀ L s.heap m) (N : News h₀ L s.heap news) (X : (Mine.hd.heap_1 w.params).In h₀) (T : Top p loose mean mg mb h₀) (hv : Lv A 1)
   (h : ∀ h' tk r o t1 t2 t3 t4, Fr h₀ L h' m → News h₀ L h' ((r, o) :: news) → (∀ q ∈ news, q.1 ≠ r) → o.IsDictOf (strKind prog w) (takesK t1 t2 t3 t4) → (r == sysModules) = false → R (.ok (.ret (.ref r))) { s with heap := h', toks := tk }) :
   codeAny (model prog w) A (.call (.ref 101) ⟨[], []⟩) R s :=
  takes_c (X.keeps F.keep) (T.keeps F.keep) hv fun h' tk r o t1 t2 t3 t4 e1 e2 e3 e4 => h h' tk r o t1 t2 t3 t4 (fr_ext F e1) (News.ext_cons F N e1 (e2 _ (.head _)).1 (e2 _ (.head _)).2) (News.ext_apart N (e2 _ (.head _)).2) e3 e4
end

end

section
theorem base_C9 : True := by
  k_with_none
  w_top off
  k_with "subscriptTail" => (k_here; (with_reducible show wpAny _ _ (subscriptTail _ _ (Value.ref _) (Value.int _ _)) _ _ _); k_dflt ( (refine' itemT ?Fzq ?tzq ?azq ?bzq ?czq ?dzq ?_; (case Fzq => k_asm); (case tzq => assumption); (case azq => decide); (case bzq => decide); (case czq => rfl); (case dzq => rfl); k_whole)))
  k_with "size_fits" => with_reducible assumption
  k_with "k_room" => exact Lv.room (by assumption)
  k_with "k_inst" => exact instUp (by assumption) (Fr.keep (by k_asm))
  k_with "call builtin:len" => (k_here; (with_reducible show wpAny _ _ (call (Value.builtin "len") [Value.ref _]) _ _ _); k_dflt ( (refine' lenT ?Fzq ?tzq ?azq ?bzq ?_; (case Fzq => k_asm); (case tzq => assumption); (case azq => first | assumption | rfl); (case bzq => first | assumption | decide); k_whole)))
  k_with "eval ListComp" => (k_here; (with_reducible rename Fr _ _ _ _ => zzlFq); k_dflt ( (refine' comp_inv zzlFq ?k1zq ?k2zq ?k3zq ?k4zq ?k5zq ?_ ?k6zq; (case k1zq => with_unfolding_all rfl); (case k2zq => decide); (case k3zq => with_unfolding_all rfl); (case k4zq => decide); (case k5zq => with_unfolding_all rfl); (case k6zq => (intro _; with_unfolding_all rfl)); k_whole)))
  k_with "exec Assign cons ListComp" => (k_here; (with_reducible rename Fr _ _ _ _ => zzlFq); k_dflt ( (refine' comp_assign zzlFq ?j1zq ?j2zq ?k1zq ?k2zq ?k3zq ?k4zq ?k5zq ?j3zq ?j4zq ?_ ?k6zq; (case j1zq => with_unfolding_all rfl); (case j2zq => with_unfolding_all rfl); (case j3zq => with_unfolding_all rfl); (case j4zq => with_unfolding_all rfl); (case k1zq => with_unfolding_all rfl); (case k2zq => decide); (case k3zq => with_unfolding_all rfl); (case k4zq => decide); (case k5zq => with_unfolding_all rfl); (case k6zq => (intro _; with_unfolding_all rfl)); k_whole)))
  k_with "compareOp NotEq ref ref" => (k_here; (with_reducible show wpAny _ _ (compareOp CmpOp.NotEq (Value.ref _) (Value.ref _)) _ _ _); k_dflt ( (refine' neNil ?azq ?bzq ?uzq ?_; (case azq => is_list); (case bzq => is_list); (case uzq => exact Lv.units (by assumption)); k_whole)))
  k_with "compareOp Eq ref ref" => (k_here; (with_reducible show wpAny _ _ (compareOp CmpOp.Eq (Value.ref _) (Value.ref _)) _ _ _); k_dflt ( (refine' eqNil ?azq ?bzq ?uzq ?_; (case azq => is_list); (case bzq => is_list); (case uzq => exact Lv.units (by assumption)); k_whole)))
  k_with "compareOp NotIn str ref" => (k_here; k_dflt (refine' topNotIn_K ?Fzq ?Xzq ?lzq ?kzq ?ezq ?ozq ?_; (case Fzq => k_asm); (case Xzq => k_asm); (case lzq => k_is); (case kzq => k_keys); (case ezq => first | with_reducible assumption | k_is); (case ozq => decide)))
  k_with "eval Name" => (k_here; k_inBlock; (with_reducible rename Fr _ _ _ _ => zzkF); k_dflt (first | (refine' nameQ_L zzkF ?azq ?_ ?bzq ?czq ?dzq ?ezq; (case azq => exact rfl); (case bzq => rfl); (case czq => rfl); (case dzq => rfl); (case ezq => decide); k_whole) | (refine' nameQ_F ?Nzq ?azq ?mzq ?dzq ?_ ?czq ?kzq ?xzq ?yzq; (case Nzq => k_asm); (case azq => exact rfl); (case mzq => k_mem); (case dzq => assumption); (case czq => rfl); (case kzq => rfl); (case xzq => decide); (case yzq => decide); k_whole) | (refine' nameQ_B zzkF ?k1zq ?k2zq ?k3zq ?k4zq ?k5zq ?_ ?bzq ?czq ?dzq ?ezq ?fzq; (case bzq => rfl); (case czq => rfl); (case dzq => rfl); (case ezq => rfl); (case fzq => decide); (case k1zq => k_asm); (case k2zq => k_asm); (case k3zq => k_is); (case k4zq => boot_by_name); (case k5zq => decide); k_whole)))
  k_with "subscriptTail" => (k_here; (with_reducible show wpAny _ _ (subscriptTail _ _ (Value.ref _) (Value.int 0 _)) _ _ _); k_dflt ( (refine' itemT0 ?Fzq ?tzq ?_; (case Fzq => k_asm); (case tzq => with_reducible assumption); k_whole)))
  k_with "ite" => (first | with_reducible refine ite_known_t (by assumption) ?_ | with_reducible refine ite_known_f (by assumption) ?_ | with_reducible refine ite_known_t rfl ?_ | with_reducible refine ite_known_f rfl ?_)
  k_with "k_all" => with_reducible assumption
  k_with "k_all" => ((repeat (rename _ ∧ _ => zzhqq; obtain ⟨_, _⟩ := zzhqq)); exact of_allLt (by with_reducible assumption))
  k_with "subscriptTail" => (k_here; (with_reducible show wpAny _ _ (subscriptTail _ _ (Value.ref _) (Value.str _ _)) _ _ _); k_dflt (refine' topItem_K ?Fzq ?Xzq ?lzq ?kzq ?ezq ?_; (case Fzq => k_asm); (case Xzq => k_asm); (case lzq => k_is); (case kzq => k_keys); (case ezq => with_reducible assumption); k_whole))
  k_with "subscriptTail" => (k_here; (with_reducible show wpAny _ _ (subscriptTail _ (PySem.Expr.Slice (some _) none none _) (Value.ref _) (Value.ref _)) _ _ _); k_dflt ( (refine' sliceT (a := 1) ?Fzq ?Nzq ?tzq ?azq ?bzq ?czq ?_ ?dzq ?ezq; (case Fzq => k_asm); (case Nzq => k_asm); (case tzq => assumption); (case azq => decide); (case bzq => exact Nat.le_of_ble_eq_true rfl); (case czq => exact Nat.le_of_ble_eq_true rfl); (case dzq => with_unfolding_all rfl); (case ezq => (intro _; with_unfolding_all rfl)); k_whole; intro zzhq zzrq zzFq zzNq zzl1; (try k_lt zzl1))))
  k_with "k_mem" => first | exact List.Mem.head _ | (refine' List.Mem.tail _ ?_; k_mem) | (show List.Mem _ _; assumption)
  k_with "unpackItems ref" => (k_here; k_dflt (refine' unpackItemsN_ ?k1zq ?k2zq ?k3zq ?k4zq ?k5zq ?_; (case k1zq => k_asm); (case k2zq => k_asm); (case k3zq => first | (with_reducible assumption) | exact News.isTup (by k_asm) (by k_mem) | exact Fr.tup (by k_asm) (by assumption)); (case k4zq => exact Lv.hh (by assumption)); (case k5zq => exact rfl); k_whole); intro zzhq zzFq zzNq; (try k_sweep))
  k_with "assign Tuple" => (k_here; (with_reducible show wpAny _ _ (assign (PySem.Expr.Tuple _ _ _) _ (Value.ref _)) _ _ _); k_dflt (refine' unpackN_ ?k1zq ?k2zq ?k3zq ?k4zq ?k5zq ?k6zq ?_; (case k1zq => k_asm); (case k2zq => k_asm); (case k3zq => first | (with_reducible assumption) | exact News.isTup (by k_asm) (by k_mem) | exact Fr.tup (by k_asm) (by assumption)); (case k4zq => exact Lv.hh (by assumption)); (case k5zq => exact rfl); (case k6zq => exact rfl); k_whole); intro zzhq zzFq zzNq; (try k_sweep))
  k_with "last exec While" => (k_here; (refine while_stop ?_))
  k_with "call builtin:list.pop" => (k_here; (try dsimp only); k_dflt ( (refine' kl_pop ?Fzq ?Nzq ?ezq ?Uzq ?zzq ?_; (case Fzq => k_asm); (case Nzq => k_asm); (case Uzq => k_upd); (case ezq => exact kl_last_snoc _ _); (case zzq => with_reducible assumption); k_whole; intro zzhq zzFq zzNq)))
  k_with "compareOp In int ref" => (k_here; k_dflt (refine' inD ?Nzq ?mzq ?dzq ?lzq ?_; (case Nzq => k_asm); (case mzq => k_mem); (case dzq => with_reducible assumption); (case lzq => with_reducible assumption); k_whole))
  k_with "subscriptTail" => (k_here; (with_reducible show wpAny _ _ (subscriptTail _ _ (Value.ref _) (Value.int _ _)) _ _ _); k_dflt (first | (refine' itemD ?Nzq ?mzq ?dzq ?vzq ?_ ?szq; (case Nzq => k_asm); (case mzq => k_mem); (case dzq => with_reducible assumption); (case vzq => with_reducible assumption); (case szq => with_unfolding_all rfl); k_whole) | (refine' itemO ?Fzq ?tzq ?azq ?xzq ?zzq ?_ ?szq; (case Fzq => k_asm); (case tzq => with_reducible assumption); (case azq => with_reducible assumption); (case xzq => with_reducible assumption); (case zzq => with_reducible assumption); (case szq => with_unfolding_all rfl); k_whole)))
  k_with "setItem ref int" => (k_here; k_dflt (refine' setD ?Fzq ?Nzq ?Uzq ?dzq ?zzq ?_; (case Fzq => k_asm); (case Nzq => k_asm); (case Uzq => k_updF); (case dzq => with_reducible assumption); (case zzq => with_reducible assumption); k_whole; intro zzhq zzoq zzFq zzNq zzdq; (try dsimp only at zzNq)))
  k_with "call builtin:list.extend" => (k_here; (with_reducible show wpAny _ _ (call (Value.builtin _) [Value.ref _, Value.ref _]) _ _ _); k_dflt (refine' extendK ?Fzq ?Nzq ?bzq ?Uzq ?zzq ?_; (case Fzq => k_asm); (case Nzq => k_asm); (case bzq => k_mem); (case Uzq => k_updF); (case zzq => with_reducible assumption); k_whole; intro zzhq zzcq zzFq zzNq; (try dsimp only at zzNq)))
  k_with "newTuple" => (k_here; k_dflt (refine' kup_newTuple ?Fzq ?Nzq ?_ ?zzq; (case Fzq => k_asm); (case Nzq => k_asm); (case zzq => exact Nat.le_of_ble_eq_true rfl)); intro zzDq zzhq zzFq zzNq zzl1; (try k_lt zzl1); (try k_sweep))
  k_with "exec For Name Call cons nil" => (k_here; (with_reducible rename Fr _ _ _ _ => zzlFq); k_dflt (refine' for_inv zzlFq ?j1zq ?j2zq ?j3zq ?_ ?j4zq; (case j1zq => with_unfolding_all rfl); (case j2zq => with_unfolding_all rfl); (case j3zq => with_unfolding_all rfl); (case j4zq => (intro _; with_unfolding_all rfl)); k_whole))
  k_with "execs cons Assign cons" => (k_here; (with_reducible refine wpAny_execs_cons ?_); (try dsimp only))
  k_with "subscriptTail" => (k_here; (with_reducible show wpAny _ _ (subscriptTail _ (PySem.Expr.Slice none (some _) none _) (Value.ref _) (Value.ref _)) _ _ _); k_dflt (first | (refine' sliceTwoA ?Fzq ?Nzq ?tzq ?_ ?dzq ?ezq; (case Fzq => k_asm); (case Nzq => k_asm); (case tzq => assumption); (case dzq => with_unfolding_all rfl); (case ezq => (intro _; with_unfolding_all rfl)); k_whole; intro zzhq zzFq zzNq) | (refine' sliceTwoB ?Fzq ?Nzq ?tzq ?_ ?dzq ?ezq; (case Fzq => k_asm); (case Nzq => k_asm); (case tzq => assumption); (case dzq => with_unfolding_all rfl); (case ezq => (intro _; with_unfolding_all rfl)); k_whole; intro zzhq zzrq zzFq zzNq zzl1; (try k_lt zzl1))))
  k_with "compareOp Eq ref ref" => (k_here; (with_reducible show wpAny _ _ (compareOp CmpOp.Eq (Value.ref _) (Value.ref _)) _ _ _); k_dflt ( (refine' eqTup2 ?uzq ?tazq ?tbzq ?e1zq ?e2zq ?_; (case uzq => exact Lv.units (by assumption)); (case tazq => first | exact News.isTup (by k_asm) (by k_mem) | exact Fr.tup (by k_asm) (by assumption)); (case tbzq => exact News.isTup (by k_asm) (by k_mem)); (case e1zq => exact SeqAt.EqAt.str_str _ _ _ _); (case e2zq => first | exact SeqAt.EqAt.str_str _ _ _ _ | exact SeqAt.EqAt.int_str _ _ _ _ | exact SeqAt.EqAt.tuple_str _ _ (Fr.tup (by k_asm) (by assumption)) (Lv.units (Lv.in1 (by assumption)))); k_whole)))
  k_with "compareOp In str ref" => (k_here; (with_reducible show wpAny _ _ (compareOp CmpOp.In (Value.str _ _) (Value.ref _)) _ _ _); (with_unfolding_all refine' in_tuple_strs ?k1zq ?k2zq ?_; (case k1zq => exact News.isTup (by k_asm) (List.Mem.head _)); (case k2zq => kde_strs); k_whole); (rename News _ _ _ _ => zzNq; replace zzNq := News.tail' zzNq); (try k_sweep))
  k_with "compareOp NotIn int ref" => (k_here; k_dflt (refine' notInD ?Nzq ?mzq ?dzq ?lzq ?_; (case Nzq => k_asm); (case mzq => k_mem); (case dzq => with_reducible assumption); (case lzq => with_reducible assumption); k_whole))
  k_with "assign Tuple" => (k_here; (with_reducible show wpAny _ _ (assign (PySem.Expr.Tuple _ _ _) _ (Value.ref _)) _ _ _); k_dflt (refine' kun_list ?k1zq ?k2zq ?k3zq ?k4zq ?k5zq ?k6zq ?_; (case k1zq => k_asm); (case k2zq => k_asm); (case k3zq => exact News.isList (by k_asm) (by k_mem)); (case k4zq => exact Lv.hh (by assumption)); (case k5zq => exact rfl); (case k6zq => exact rfl); k_whole); intro zzhq zzFq zzNq; (try k_sweep))
  trivial
theorem filt_eq {n : Int} {ls : List Int} {acc : List Value} (h : IntsAre acc ((ls.take ls.length).filter (fun l => !labOk n l))) : acc.isEmpty = ls.all (labOk n) := by
  cases e : acc.isEmpty with
  | true => exact (filt_good h e).symm
  | false => exact (filt_bad h e).symm
theorem form_lab {n nb : Int} {k : LK} {l : Int} : formOk n nb (.lab k l) = labOk n l := by simp [formOk, labels, extraOk]
theorem form_jump {n nb : Int} {l : Int} : formOk n nb (.jump l) = labOk n l := by simp [formOk, labels, extraOk]
theorem form_choose {n nb : Int} {ls : List Int} : formOk n nb (.choose ls) = ls.all (labOk n) := by simp [formOk, labels, extraOk]
theorem form_perform {n nb : Int} {i j : Int} : formOk n nb (.perform i j) = [i, j].all (labOk nb) := by simp [formOk, labels, extraOk]
theorem form_leave {n nb : Int} {i : Int} : formOk n nb (.leave i) = [i].all (labOk nb) := by simp [formOk, labels, extraOk]
theorem form_push {n : Nat} {nb : Int} {l : Int} : formOk n nb (.push l) = (decide (-1 ≤ l) && decide (l < n)) := by
  have e0 : formOk n nb (.push l) = (if l = -1 then ([] : List Int) else [l]).all (labOk n) := by simp [formOk, labels, extraOk]
  rw [e0]
  by_cases h : l = -1
  · subst h
    have : (-1 : Int) < n := by (first | lia | omega)
    simp [this]
  · rw [if_neg h]
    simp only [List.all_cons, List.all_nil, Bool.and_true, labOk]
    by_cases h2 : (-1 : Int) ≤ l
    · have : 0 ≤ l := by (first | lia | omega)
      simp [h2, this]
    · have : ¬ 0 ≤ l := by (first | lia | omega)
      simp [h2, this]
theorem form_reck {n : Nat} {nb : Int} {g : SG} {l : Int} : formOk n nb (.reck g l) = ((decide (-1 ≤ l) && decide (l < n)) && (g.str != Str.ofString "x")) := by
  have e : formOk n nb (.reck g l) = (formOk n nb (.push l) && extraOk nb (.reck g l)) := by
    unfold formOk
    rw [show labels (.reck g l) = labels (.push l) from rfl, show extraOk nb (.push l) = true from rfl, Bool.and_true]
  rw [e, form_push]
  cases g <;> rfl
section
variable {prog : Program} {w : World} {A : Around} {s : Shared} {R : Result → Shared → Prop} {a : Addr}
   {p : Program} {loose : List Str} {mean : ExcName → Option Value} {mg mb : Str → Option Value}
set_option maxHeartbeats 4000000 in
theorem alone_c {op : Op} {nm nb : Nat} {tn tb : Tok} (X : (Mine.hd.heap_1 w.params).In s.heap) (T : Top p loose mean mg mb s.heap) (hv : Lv A 1) (ho : OpAt s.heap a op)
   (h : ∀ h' tk b, Ext s.heap h' → b = formOk nm nb op → R (.ok (.ret (.bool b))) { s with heap := h', toks := tk }) :
   codeAny (model prog w) A (.call (.ref 118) ⟨[.ref a, .int nm tn, .int nb tb], []⟩) R s := by
  refine' enterC (binds := [(Str.ofString "op", .ref a), (Str.ofString "many", .int nm tn), (Str.ofString "begins", .int nb tb)]) [] (fun _ h => nomatch h) X ?k5 ?k6 ?k7 ?k8 ?k9 ?kB ?kD ?_ ?c2 ?c3 ?c4
  case k5 => exact T.nolimit
  case k6 => k_dflt k_is
  case k7 => k_dflt k_is
  case k8 => exact hv.room
  case k9 => exact rfl
  case kB => exact kindsX rfl
  case kD => decide +kernel
  case c2 => exact rfl
  case c3 => exact rfl
  case c4 => exact rfl
  intro L h₁ tk cells F N Y
  change Fr s.heap _ _ _ at F
  change News s.heap _ _ _ at N
  k_cells Y
  (try rw [List.append_nil] at N)
  refine hv.gen ?_
  clear hv
  intro A' hv
  try dsimp only
  try k_fold
  cases op with
  | lab k l =>
    obtain ⟨t1, t2, t3, ha⟩ := ho
    have f1 : ([Str.ofString "put", Str.ofString "key", Str.ofString "test", Str.ofString "less", Str.ofString "jump"].any fun x => x == k.str) = true := by cases k <;> rfl
    k_steps
    · (rename Fr _ _ _ _ => Fe; rename News _ _ _ _ => Ne)
      exact h _ _ _ Fe.keep (by rw [form_lab]; unfold labOk; rw [decide_eq_true (by assumption : (0 : Int) ≤ l)]; rfl)
    · (rename Fr _ _ _ _ => Fe; rename News _ _ _ _ => Ne)
      exact h _ _ _ Fe.keep (by rw [form_lab]; unfold labOk; rw [decide_eq_false (by assumption : ¬ (0 : Int) ≤ l)]; rfl)
  | jump l =>
    obtain ⟨t1, t2, ha⟩ := ho
    k_steps
    · (rename Fr _ _ _ _ => Fe; rename News _ _ _ _ => Ne)
      exact h _ _ _ Fe.keep (by rw [form_jump]; unfold labOk; rw [decide_eq_true (by assumption : (0 : Int) ≤ l)]; rfl)
    · (rename Fr _ _ _ _ => Fe; rename News _ _ _ _ => Ne)
      exact h _ _ _ Fe.keep (by rw [form_jump]; unfold labOk; rw [decide_eq_false (by assumption : ¬ (0 : Int) ≤ l)]; rfl)
  | push l =>
    obtain ⟨t1, t2, t3, ha⟩ := ho
    k_steps
    · (rename Fr _ _ _ _ => Fe; rename News _ _ _ _ => Ne)
      exact h _ _ _ Fe.keep (by rw [form_push, decide_eq_true (by assumption : (-1 : Int) ≤ l), decide_eq_true (by assumption : l < nm)]; rfl)
    · (rename Fr _ _ _ _ => Fe; rename News _ _ _ _ => Ne)
      exact h _ _ _ Fe.keep (by rw [form_push, decide_eq_true (by assumption : (-1 : Int) ≤ l)]; rfl)
    · (rename Fr _ _ _ _ => Fe; rename News _ _ _ _ => Ne)
      exact h _ _ _ Fe.keep (by rw [form_push, decide_eq_false (by assumption : ¬ (-1 : Int) ≤ l)]; rfl)
  | reck g l =>
    obtain ⟨t1, t2, t3, ha⟩ := ho
    k_steps
    · (rename Fr _ _ _ _ => Fe; rename News _ _ _ _ => Ne)
      exact h _ _ _ Fe.keep (by rw [form_reck, decide_eq_true (by assumption : (-1 : Int) ≤ l), decide_eq_true (by assumption : l < nm)]; rfl)
    · (rename Fr _ _ _ _ => Fe; rename News _ _ _ _ => Ne)
      exact h _ _ _ Fe.keep (by rw [form_reck, decide_eq_true (by assumption : (-1 : Int) ≤ l), decide_eq_false (by assumption : ¬ l < nm)]; rfl)
    · (rename Fr _ _ _ _ => Fe; rename News _ _ _ _ => Ne)
      exact h _ _ _ Fe.keep (by rw [form_reck, decide_eq_false (by assumption : ¬ (-1 : Int) ≤ l)]; rfl)
  | choose ls =>
    obtain ⟨t1, bb, vs, ha, hb, hiv, hz⟩ := ho
    k_steps
    (rename Fr _ _ _ _ => Fe; rename News _ _ _ _ => Ne)
    have hvz : vs.length ≤ 1000 := by simp only [List.size_toArray] at hz; (first | lia | omega)
    refine pack_tup hv.hh Fe Ne hb (by first | omega | exact Nat.le_of_ble_eq_true rfl) (fun i acc => IntsAre acc (((ls).take i).filter (fun l => !labOk nm l))) .nil ?_ ?_
    · intro base kb i v acc own h tk m₁ C hi hP hG F5 N5
      obtain ⟨n, t, hn, rfl⟩ := ints_get hiv hP
      replace X := X.keeps kb
      replace T := T.keeps kb
      try (replace I := instUp I kb)
      try (replace hoT := hoT.keeps kb)
      try (replace hbT := hbT.keeps kb)
      simp only [List.cons_append, List.nil_append] at N5
      refine wpAny_tests_one ?_
      try dsimp only
      try k_fold
      k_steps
      · (rename Fr _ _ _ _ => Fe; rename News _ _ _ _ => Ne)
        refine PEnd.intro Fe Ne (fun q hq => hq) ?_
        have e : labOk nm n = true := by unfold labOk; rw [Bool.and_eq_true]; exact ⟨decide_eq_true (by assumption), decide_eq_true (by assumption)⟩
        rw [filter_take _ hn, e]; simpa using hG
      · (rename Fr _ _ _ _ => Fe; rename News _ _ _ _ => Ne)
        refine PEnd.intro Fe Ne (fun q hq => hq) ?_
        have e : labOk nm n = false := by unfold labOk; rw [Bool.and_eq_false_iff]; exact .inr (decide_eq_false (by assumption))
        rw [filter_take _ hn, e]; simpa using ints_snoc hG n t
      · (rename Fr _ _ _ _ => Fe; rename News _ _ _ _ => Ne)
        refine PEnd.intro Fe Ne (fun q hq => hq) ?_
        have e : labOk nm n = false := by unfold labOk; rw [Bool.and_eq_false_iff]; exact .inl (decide_eq_false (by assumption))
        rw [filter_take _ hn, e]; simpa using ints_snoc hG n t
    · intro D h' tk c acc' F5 N5 hd hG2
      try dsimp only
      try k_fold
      k_steps
      (rename Fr _ _ _ _ => Fe; rename News _ _ _ _ => Ne)
      have z := filt_eq (ls := ls) (by rw [← hiv.length]; exact hG2)
      exact h _ _ _ Fe.keep (by rw [form_choose]; exact z)
  | perform u1 u2 =>
    obtain ⟨t1, t2, t3, ha⟩ := ho
    k_steps
    (rename Fr _ _ _ _ => Fe; rename News _ _ _ _ => Ne)
    have ej : IntsAre _ [u1, u2] := .cons u1 t2 (.cons u2 t3 .nil)
    refine pack_tupN hv.hh Fe Ne (.head _) (by first | omega | exact Nat.le_of_ble_eq_true rfl) (fun i acc => IntsAre acc ((([u1, u2]).take i).filter (fun l => !labOk nb l))) .nil ?_ ?_
    · intro base kb i v acc own h tk m₁ C hi hP hG F5 N5
      obtain ⟨n, t, hn, rfl⟩ := ints_get ej hP
      replace X := X.keeps kb
      replace T := T.keeps kb
      try (replace I := instUp I kb)
      try (replace hoT := hoT.keeps kb)
      try (replace hbT := hbT.keeps kb)
      simp only [List.cons_append, List.nil_append] at N5
      refine wpAny_tests_one ?_
      try dsimp only
      try k_fold
      k_steps
      · (rename Fr _ _ _ _ => Fe; rename News _ _ _ _ => Ne)
        refine PEnd.intro Fe Ne (fun q hq => hq) ?_
        have e : labOk nb n = true := by unfold labOk; rw [Bool.and_eq_true]; exact ⟨decide_eq_true (by assumption), decide_eq_true (by assumption)⟩
        rw [filter_take _ hn, e]; simpa using hG
      · (rename Fr _ _ _ _ => Fe; rename News _ _ _ _ => Ne)
        refine PEnd.intro Fe Ne (fun q hq => hq) ?_
        have e : labOk nb n = false := by unfold labOk; rw [Bool.and_eq_false_iff]; exact .inr (decide_eq_false (by assumption))
        rw [filter_take _ hn, e]; simpa using ints_snoc hG n t
      · (rename Fr _ _ _ _ => Fe; rename News _ _ _ _ => Ne)
        refine PEnd.intro Fe Ne (fun q hq => hq) ?_
        have e : labOk nb n = false := by unfold labOk; rw [Bool.and_eq_false_iff]; exact .inl (decide_eq_false (by assumption))
        rw [filter_take _ hn, e]; simpa using ints_snoc hG n t
    · intro D h' tk c acc' F5 N5 hd hG2
      try dsimp only
      try k_fold
      k_steps
      (rename Fr _ _ _ _ => Fe; rename News _ _ _ _ => Ne)
      have z := filt_eq (ls := [u1, u2]) (hG2)
      exact h _ _ _ Fe.keep (by rw [form_perform]; exact z)
  | leave u1 =>
    obtain ⟨t1, t2, ha⟩ := ho
    k_steps
    (rename Fr _ _ _ _ => Fe; rename News _ _ _ _ => Ne)
    have ej : IntsAre _ [u1] := .cons u1 t2 .nil
    refine pack_tupN hv.hh Fe Ne (.head _) (by first | omega | exact Nat.le_of_ble_eq_true rfl) (fun i acc => IntsAre acc ((([u1]).take i).filter (fun l => !labOk nb l))) .nil ?_ ?_
    · intro base kb i v acc own h tk m₁ C hi hP hG F5 N5
      obtain ⟨n, t, hn, rfl⟩ := ints_get ej hP
      replace X := X.keeps kb
      replace T := T.keeps kb
      try (replace I := instUp I kb)
      try (replace hoT := hoT.keeps kb)
      try (replace hbT := hbT.keeps kb)
      simp only [List.cons_append, List.nil_append] at N5
      refine wpAny_tests_one ?_
      try dsimp only
      try k_fold
      k_steps
      · (rename Fr _ _ _ _ => Fe; rename News _ _ _ _ => Ne)
        refine PEnd.intro Fe Ne (fun q hq => hq) ?_
        have e : labOk nb n = true := by unfold labOk; rw [Bool.and_eq_true]; exact ⟨decide_eq_true (by assumption), decide_eq_true (by assumption)⟩
        rw [filter_take _ hn, e]; simpa using hG
      · (rename Fr _ _ _ _ => Fe; rename News _ _ _ _ => Ne)
        refine PEnd.intro Fe Ne (fun q hq => hq) ?_
        have e : labOk nb n = false := by unfold labOk; rw [Bool.and_eq_false_iff]; exact .inr (decide_eq_false (by assumption))
        rw [filter_take _ hn, e]; simpa using ints_snoc hG n t
      · (rename Fr _ _ _ _ => Fe; rename News _ _ _ _ => Ne)
        refine PEnd.intro Fe Ne (fun q hq => hq) ?_
        have e : labOk nb n = false := by unfold labOk; rw [Bool.and_eq_false_iff]; exact .inl (decide_eq_false (by assumption))
        rw [filter_take _ hn, e]; simpa using ints_snoc hG n t
    · intro D h' tk c acc' F5 N5 hd hG2
      try dsimp only
      try k_fold
      k_steps
      (rename Fr _ _ _ _ => Fe; rename News _ _ _ _ => Ne)
      have z := filt_eq (ls := [u1]) (hG2)
      exact h _ _ _ Fe.keep (by rw [form_leave]; exact z)
  | stop e =>
    obtain ⟨t1, t2, ha⟩ := ho
    k_steps
    (rename Fr _ _ _ _ => Fe; rename News _ _ _ _ => Ne)
    exact h _ _ _ Fe.keep (by cases e <;> rfl)
  | plain k =>
    obtain ⟨t1, t2, ha⟩ := ho
    have f1 : ([Str.ofString "put", Str.ofString "key", Str.ofString "test", Str.ofString "less", Str.ofString "jump"].any fun x => x == k.str) = false := by cases k <;> rfl
    have f2 : ([Str.ofString "push", Str.ofString "calc"].any fun x => x == k.str) = false := by cases k <;> rfl
    have f3 : (k.str == Str.ofString "choose") = false := by cases k <;> rfl
    have f4 : ([Str.ofString "perform", Str.ofString "leave"].any fun x => x == k.str) = false := by cases k <;> rfl
    have f5 : (k.str == Str.ofString "stop") = false := by cases k <;> rfl
    k_steps
    (rename Fr _ _ _ _ => Fe; rename News _ _ _ _ => Ne)
    exact h _ _ _ Fe.keep (by cases k <;> rfl)
end
section
variable {prog : Program} {w : World} {A : Around} {s : Shared} {R : Result → Shared → Prop} {a : Addr} {h₀ : Heap} {L : Addr} {m : Str → Option Value} {news : Led}
   {p : Program} {loose : List Str} {mean : ExcName → Option Value} {mg mb : Str → Option Value}
theorem alone_k {op : Op} {n nb : Nat} {tn tb : Tok} (F : Fr h₀ L s.heap m) (N : News h₀ L s.heap news) (X : (Mine.hd.heap_1 w.params).In h₀) (T : Top p loose mean mg mb h₀) (hv : Lv A 1) (ho : OpAt s.heap a op)
   (h : ∀ h' tk b, Fr h₀ L h' m → News h₀ L h' news → b = formOk n nb op → R (.ok (.ret (.bool b))) { s with heap := h', toks := tk }) :
   codeAny (model prog w) A (.call (.ref 118) ⟨[.ref a, .int n tn, .int nb tb], []⟩) R s :=
  alone_c (X.keeps F.keep) (T.keeps F.keep) hv ho fun h' tk b e1 e2 => h h' tk b (fr_ext F e1) (N.grown e1) e2
end

end

section
theorem base_C10 : True := by
  k_with_none
  w_top off
  k_with "subscriptTail" => (k_here; (with_reducible show wpAny _ _ (subscriptTail _ _ (Value.ref _) (Value.int _ _)) _ _ _); k_dflt ( (refine' itemT ?Fzq ?tzq ?azq ?bzq ?czq ?dzq ?_; (case Fzq => k_asm); (case tzq => assumption); (case azq => decide); (case bzq => decide); (case czq => rfl); (case dzq => rfl); k_whole)))
  k_with "size_fits" => with_reducible assumption
  k_with "k_room" => exact Lv.room (by assumption)
  k_with "k_inst" => exact instUp (by assumption) (Fr.keep (by k_asm))
  k_with "call builtin:len" => (k_here; (with_reducible show wpAny _ _ (call (Value.builtin "len") [Value.ref _]) _ _ _); k_dflt ( (refine' lenT ?Fzq ?tzq ?azq ?bzq ?_; (case Fzq => k_asm); (case tzq => assumption); (case azq => first | assumption | rfl); (case bzq => first | assumption | decide); k_whole)))
  k_with "eval ListComp" => (k_here; (with_reducible rename Fr _ _ _ _ => zzlFq); k_dflt ( (refine' comp_inv zzlFq ?k1zq ?k2zq ?k3zq ?k4zq ?k5zq ?_ ?k6zq; (case k1zq => with_unfolding_all rfl); (case k2zq => decide); (case k3zq => with_unfolding_all rfl); (case k4zq => decide); (case k5zq => with_unfolding_all rfl); (case k6zq => (intro _; with_unfolding_all rfl)); k_whole)))
  k_with "exec Assign cons ListComp" => (k_here; (with_reducible rename Fr _ _ _ _ => zzlFq); k_dflt ( (refine' comp_assign zzlFq ?j1zq ?j2zq ?k1zq ?k2zq ?k3zq ?k4zq ?k5zq ?j3zq ?j4zq ?_ ?k6zq; (case j1zq => with_unfolding_all rfl); (case j2zq => with_unfolding_all rfl); (case j3zq => with_unfolding_all rfl); (case j4zq => with_unfolding_all rfl); (case k1zq => with_unfolding_all rfl); (case k2zq => decide); (case k3zq => with_unfolding_all rfl); (case k4zq => decide); (case k5zq => with_unfolding_all rfl); (case k6zq => (intro _; with_unfolding_all rfl)); k_whole)))
  k_with "compareOp NotEq ref ref" => (k_here; (with_reducible show wpAny _ _ (compareOp CmpOp.NotEq (Value.ref _) (Value.ref _)) _ _ _); k_dflt ( (refine' neNil ?azq ?bzq ?uzq ?_; (case azq => is_list); (case bzq => is_list); (case uzq => exact Lv.units (by assumption)); k_whole)))
  k_with "compareOp Eq ref ref" => (k_here; (with_reducible show wpAny _ _ (compareOp CmpOp.Eq (Value.ref _) (Value.ref _)) _ _ _); k_dflt ( (refine' eqNil ?azq ?bzq ?uzq ?_; (case azq => is_list); (case bzq => is_list); (case uzq => exact Lv.units (by assumption)); k_whole)))
  k_with "compareOp NotIn str ref" => (k_here; k_dflt (refine' topNotIn_K ?Fzq ?Xzq ?lzq ?kzq ?ezq ?ozq ?_; (case Fzq => k_asm); (case Xzq => k_asm); (case lzq => k_is); (case kzq => k_keys); (case ezq => first | with_reducible assumption | k_is); (case ozq => decide)))
  k_with "eval Name" => (k_here; k_inBlock; (with_reducible rename Fr _ _ _ _ => zzkF); k_dflt (first | (refine' nameQ_L zzkF ?azq ?_ ?bzq ?czq ?dzq ?ezq; (case azq => exact rfl); (case bzq => rfl); (case czq => rfl); (case dzq => rfl); (case ezq => decide); k_whole) | (refine' nameQ_F ?Nzq ?azq ?mzq ?dzq ?_ ?czq ?kzq ?xzq ?yzq; (case Nzq => k_asm); (case azq => exact rfl); (case mzq => k_mem); (case dzq => assumption); (case czq => rfl); (case kzq => rfl); (case xzq => decide); (case yzq => decide); k_whole) | (refine' nameQ_B zzkF ?k1zq ?k2zq ?k3zq ?k4zq ?k5zq ?_ ?bzq ?czq ?dzq ?ezq ?fzq; (case bzq => rfl); (case czq => rfl); (case dzq => rfl); (case ezq => rfl); (case fzq => decide); (case k1zq => k_asm); (case k2zq => k_asm); (case k3zq => k_is); (case k4zq => boot_by_name); (case k5zq => decide); k_whole)))
  k_with "subscriptTail" => (k_here; (with_reducible show wpAny _ _ (subscriptTail _ _ (Value.ref _) (Value.int 0 _)) _ _ _); k_dflt ( (refine' itemT0 ?Fzq ?tzq ?_; (case Fzq => k_asm); (case tzq => with_reducible assumption); k_whole)))
  k_with "ite" => (first | with_reducible refine ite_known_t (by assumption) ?_ | with_reducible refine ite_known_f (by assumption) ?_ | with_reducible refine ite_known_t rfl ?_ | with_reducible refine ite_known_f rfl ?_)
  k_with "k_all" => with_reducible assumption
  k_with "k_all" => ((repeat (rename _ ∧ _ => zzhqq; obtain ⟨_, _⟩ := zzhqq)); exact of_allLt (by with_reducible assumption))
  k_with "subscriptTail" => (k_here; (with_reducible show wpAny _ _ (subscriptTail _ _ (Value.ref _) (Value.str _ _)) _ _ _); k_dflt (refine' topItem_K ?Fzq ?Xzq ?lzq ?kzq ?ezq ?_; (case Fzq => k_asm); (case Xzq => k_asm); (case lzq => k_is); (case kzq => k_keys); (case ezq => with_reducible assumption); k_whole))
  k_with "subscriptTail" => (k_here; (with_reducible show wpAny _ _ (subscriptTail _ (PySem.Expr.Slice (some _) none none _) (Value.ref _) (Value.ref _)) _ _ _); k_dflt ( (refine' sliceT (a := 1) ?Fzq ?Nzq ?tzq ?azq ?bzq ?czq ?_ ?dzq ?ezq; (case Fzq => k_asm); (case Nzq => k_asm); (case tzq => assumption); (case azq => decide); (case bzq => exact Nat.le_of_ble_eq_true rfl); (case czq => exact Nat.le_of_ble_eq_true rfl); (case dzq => with_unfolding_all rfl); (case ezq => (intro _; with_unfolding_all rfl)); k_whole; intro zzhq zzrq zzFq zzNq zzl1; (try k_lt zzl1))))
  k_with "k_mem" => first | exact List.Mem.head _ | (refine' List.Mem.tail _ ?_; k_mem) | (show List.Mem _ _; assumption)
  k_with "unpackItems ref" => (k_here; k_dflt (refine' unpackItemsN_ ?k1zq ?k2zq ?k3zq ?k4zq ?k5zq ?_; (case k1zq => k_asm); (case k2zq => k_asm); (case k3zq => first | (with_reducible assumption) | exact News.isTup (by k_asm) (by k_mem) | exact Fr.tup (by k_asm) (by assumption)); (case k4zq => exact Lv.hh (by assumption)); (case k5zq => exact rfl); k_whole); intro zzhq zzFq zzNq; (try k_sweep))
  k_with "assign Tuple" => (k_here; (with_reducible show wpAny _ _ (assign (PySem.Expr.Tuple _ _ _) _ (Value.ref _)) _ _ _); k_dflt (refine' unpackN_ ?k1zq ?k2zq ?k3zq ?k4zq ?k5zq ?k6zq ?_; (case k1zq => k_asm); (case k2zq => k_asm); (case k3zq => first | (with_reducible assumption) | exact News.isTup (by k_asm) (by k_mem) | exact Fr.tup (by k_asm) (by assumption)); (case k4zq => exact Lv.hh (by assumption)); (case k5zq => exact rfl); (case k6zq => exact rfl); k_whole); intro zzhq zzFq zzNq; (try k_sweep))
  k_with "last exec While" => (k_here; (refine while_stop ?_))
  k_with "call builtin:list.pop" => (k_here; (try dsimp only); k_dflt ( (refine' kl_pop ?Fzq ?Nzq ?ezq ?Uzq ?zzq ?_; (case Fzq => k_asm); (case Nzq => k_asm); (case Uzq => k_upd); (case ezq => exact kl_last_snoc _ _); (case zzq => with_reducible assumption); k_whole; intro zzhq zzFq zzNq)))
  k_with "compareOp In int ref" => (k_here; k_dflt (refine' inD ?Nzq ?mzq ?dzq ?lzq ?_; (case Nzq => k_asm); (case mzq => k_mem); (case dzq => with_reducible assumption); (case lzq => with_reducible assumption); k_whole))
  k_with "subscriptTail" => (k_here; (with_reducible show wpAny _ _ (subscriptTail _ _ (Value.ref _) (Value.int _ _)) _ _ _); k_dflt (first | (refine' itemD ?Nzq ?mzq ?dzq ?vzq ?_ ?szq; (case Nzq => k_asm); (case mzq => k_mem); (case dzq => with_reducible assumption); (case vzq => with_reducible assumption); (case szq => with_unfolding_all rfl); k_whole) | (refine' itemO ?Fzq ?tzq ?azq ?xzq ?zzq ?_ ?szq; (case Fzq => k_asm); (case tzq => with_reducible assumption); (case azq => with_reducible assumption); (case xzq => with_reducible assumption); (case zzq => with_reducible assumption); (case szq => with_unfolding_all rfl); k_whole)))
  k_with "setItem ref int" => (k_here; k_dflt (refine' setD ?Fzq ?Nzq ?Uzq ?dzq ?zzq ?_; (case Fzq => k_asm); (case Nzq => k_asm); (case Uzq => k_updF); (case dzq => with_reducible assumption); (case zzq => with_reducible assumption); k_whole; intro zzhq zzoq zzFq zzNq zzdq; (try dsimp only at zzNq)))
  k_with "call builtin:list.extend" => (k_here; (with_reducible show wpAny _ _ (call (Value.builtin _) [Value.ref _, Value.ref _]) _ _ _); k_dflt (refine' extendK ?Fzq ?Nzq ?bzq ?Uzq ?zzq ?_; (case Fzq => k_asm); (case Nzq => k_asm); (case bzq => k_mem); (case Uzq => k_updF); (case zzq => with_reducible assumption); k_whole; intro zzhq zzcq zzFq zzNq; (try dsimp only at zzNq)))
  k_with "newTuple" => (k_here; k_dflt (refine' kup_newTuple ?Fzq ?Nzq ?_ ?zzq; (case Fzq => k_asm); (case Nzq => k_asm); (case zzq => exact Nat.le_of_ble_eq_true rfl)); intro zzDq zzhq zzFq zzNq zzl1; (try k_lt zzl1); (try k_sweep))
  k_with "exec For Name Call cons nil" => (k_here; (with_reducible rename Fr _ _ _ _ => zzlFq); k_dflt (refine' for_inv zzlFq ?j1zq ?j2zq ?j3zq ?_ ?j4zq; (case j1zq => with_unfolding_all rfl); (case j2zq => with_unfolding_all rfl); (case j3zq => with_unfolding_all rfl); (case j4zq => (intro _; with_unfolding_all rfl)); k_whole))
  k_with "execs cons Assign cons" => (k_here; (with_reducible refine wpAny_execs_cons ?_); (try dsimp only))
  k_with "subscriptTail" => (k_here; (with_reducible show wpAny _ _ (subscriptTail _ (PySem.Expr.Slice none (some _) none _) (Value.ref _) (Value.ref _)) _ _ _); k_dflt (first | (refine' sliceTwoA ?Fzq ?Nzq ?tzq ?_ ?dzq ?ezq; (case Fzq => k_asm); (case Nzq => k_asm); (case tzq => assumption); (case dzq => with_unfolding_all rfl); (case ezq => (intro _; with_unfolding_all rfl)); k_whole; intro zzhq zzFq zzNq) | (refine' sliceTwoB ?Fzq ?Nzq ?tzq ?_ ?dzq ?ezq; (case Fzq => k_asm); (case Nzq => k_asm); (case tzq => assumption); (case dzq => with_unfolding_all rfl); (case ezq => (intro _; with_unfolding_all rfl)); k_whole; intro zzhq zzrq zzFq zzNq zzl1; (try k_lt zzl1))))
  k_with "compareOp Eq ref ref" => (k_here; (with_reducible show wpAny _ _ (compareOp CmpOp.Eq (Value.ref _) (Value.ref _)) _ _ _); k_dflt ( (refine' eqTup2 ?uzq ?tazq ?tbzq ?e1zq ?e2zq ?_; (case uzq => exact Lv.units (by assumption)); (case tazq => first | exact News.isTup (by k_asm) (by k_mem) | exact Fr.tup (by k_asm) (by assumption)); (case tbzq => exact News.isTup (by k_asm) (by k_mem)); (case e1zq => exact SeqAt.EqAt.str_str _ _ _ _); (case e2zq => first | exact SeqAt.EqAt.str_str _ _ _ _ | exact SeqAt.EqAt.int_str _ _ _ _ | exact SeqAt.EqAt.tuple_str _ _ (Fr.tup (by k_asm) (by assumption)) (Lv.units (Lv.in1 (by assumption)))); k_whole)))
  k_with "compareOp In str ref" => (k_here; (with_reducible show wpAny _ _ (compareOp CmpOp.In (Value.str _ _) (Value.ref _)) _ _ _); (with_unfolding_all refine' in_tuple_strs ?k1zq ?k2zq ?_; (case k1zq => exact News.isTup (by k_asm) (List.Mem.head _)); (case k2zq => kde_strs); k_whole); (rename News _ _ _ _ => zzNq; replace zzNq := News.tail' zzNq); (try k_sweep))
  k_with "compareOp NotIn int ref" => (k_here; k_dflt (refine' notInD ?Nzq ?mzq ?dzq ?lzq ?_; (case Nzq => k_asm); (case mzq => k_mem); (case dzq => with_reducible assumption); (case lzq => with_reducible assumption); k_whole))
  k_with "assign Tuple" => (k_here; (with_reducible show wpAny _ _ (assign (PySem.Expr.Tuple _ _ _) _ (Value.ref _)) _ _ _); k_dflt (refine' kun_list ?k1zq ?k2zq ?k3zq ?k4zq ?k5zq ?k6zq ?_; (case k1zq => k_asm); (case k2zq => k_asm); (case k3zq => exact News.isList (by k_asm) (by k_mem)); (case k4zq => exact Lv.hh (by assumption)); (case k5zq => exact rfl); (case k6zq => exact rfl); k_whole); intro zzhq zzFq zzNq; (try k_sweep))
  trivial
theorem lines_C10_1 : True := by
  k_with "call ref" => (k_here; (with_reducible show wpAny _ _ (call (Value.ref _) _) _ _ _); (refine wpAny_call ?_); k_dflt ( (refine' takes_k ?Fzq ?Nzq ?Xzq ?Tzq ?vzq ?_; (case Fzq => k_asm); (case Nzq => k_asm); (case Xzq => k_asm); (case Tzq => k_asm); (case vzq => exact Lv.le (by assumption) (by decide)); k_whole; intro zzhq zztkq zzrq zzoq zzt1q zzt2q zzt3q zzt4q zzFq zzNq zzl1 zzhdq zzloq; (try (replace zzl1 := allNe_of zzl1; simp only [AllNe, and_true] at zzl1)); (try dsimp only); (try k_fold))))
  k_with "getMethod ref" => (k_here; (with_reducible show wpAny _ _ (getMethod (Value.ref _) (PySem.Str.ofString "get") _) _ _ _); k_dflt (refine' methD ?Nzq ?mzq ?dzq ?_; (case Nzq => k_asm); (case mzq => k_mem); (case dzq => with_reducible assumption); k_whole))
  k_with "call builtin:dict.get" => (k_here; (try dsimp only); k_dflt (refine' getT ?Nzq ?mzq ?dzq ?lzq ?_; (case Nzq => k_asm); (case mzq => k_mem); (case dzq => with_reducible assumption); (case lzq => with_reducible assumption); k_whole; intro zztq))
  trivial
theorem ok_iff {op : Op} {hg : Int} (hh : 0 ≤ hg) : okAt op hg ↔ ¬ hg < taken op ∧ ¬ (isDeed op = true ∧ hg > 0) := by
  unfold okAt behind
  constructor
  · rintro ⟨h1, h2⟩
    refine ⟨fun q => ?_, h2⟩
    rw [if_pos q] at h1
    omega
  · rintro ⟨h1, h2⟩
    refine ⟨?_, h2⟩
    rw [if_neg h1]
    split <;> omega
theorem behind_eq {op : Op} {hg : Int} (h : ¬ hg < taken op) : behind op hg = hg - taken op + (if isGive op then 1 else 0) := by unfold behind; rw [if_neg h]
theorem next_end {h₀ h' : Heap} {L r : Addr} {vs : List Value} {c : Nat} {led imm : Led} (N : News h₀ L h' led) (hr : (r, seqObj "list" vs.toArray c) ∈ led) (hi : ∀ p ∈ imm, p ∈ led) : NewAt h₀ h' ((r, seqObj "list" vs.toArray c) :: imm) := fun q hq => News.newAt N q (by
  rcases List.mem_cons.mp hq with rfl | hq
  · exact hr
  · exact hi q hq)
theorem mem1 {news : Led} {a : Addr} {o : Obj} (h : (a, o) ∈ news) : ∀ q ∈ [(a, o)], q ∈ news := fun q hq => by rw [List.mem_singleton.mp hq]; exact h
theorem tup1 {a : Addr} {o : Obj} (h : o.cls = .type "tuple") : TupAll [(a, o)] := fun q hq => by rw [List.mem_singleton.mp hq]; exact h
noncomputable def isNeg : Op → Bool
  | .reck .neg _ => true
  | _ => false
theorem taken_neg {op : Op} (h : isNeg op = true) : taken op = 1 := by
  cases op with
  | reck g l => cases g <;> first | rfl | cases h
  | _ => cases h
theorem taken_word {op : Op} (h : isNeg op = false) : taken op = takesW op.word := by
  cases op with
  | reck g l => cases g <;> first | rfl | cases h
  | lab k l => cases k <;> rfl
  | plain k => cases k <;> rfl
  | _ => rfl
theorem OpAt.view2 {h : Heap} {a : Addr} {op : Op} (x : OpAt h a op) : ∃ t0 y rst, IsTup h a (.str op.word t0 :: y :: rst).toArray ∧ rst.length ≤ 1 ∧
    ∀ (A : Around) (s : Shared) (t : Tok), A.units < cLine → Ext h s.heap → ∃ b, SeqAt.EqAt A s y (.str (Str.ofString "neg") t) b ∧ (b && (op.word == Str.ofString "calc")) = isNeg op := by
  cases op with
  | lab k l => obtain ⟨t1, t2, t3, x⟩ := x; exact ⟨t1, _, _, x, Nat.le_refl _, fun _ _ _ _ _ => ⟨_, SeqAt.EqAt.str_str _ _ _ _, by cases k <;> rfl⟩⟩
  | plain k => obtain ⟨t1, t2, x⟩ := x; exact ⟨t1, _, _, x, Nat.zero_le _, fun _ _ _ _ _ => ⟨_, SeqAt.EqAt.str_str _ _ _ _, by cases k <;> rfl⟩⟩
  | push l => obtain ⟨t1, t2, t3, x⟩ := x; exact ⟨t1, _, _, x, Nat.le_refl _, fun _ _ _ _ _ => ⟨_, SeqAt.EqAt.str_str _ _ _ _, rfl⟩⟩
  | reck g l => obtain ⟨t1, t2, t3, x⟩ := x; exact ⟨t1, _, _, x, Nat.le_refl _, fun _ _ _ _ _ => ⟨_, SeqAt.EqAt.str_str _ _ _ _, by cases g <;> rfl⟩⟩
  | choose ls => obtain ⟨t1, b, vs, x, y, _⟩ := x; exact ⟨t1, _, _, x, Nat.zero_le _, fun _ _ _ hu k => ⟨_, SeqAt.EqAt.tuple_str _ _ (y.keeps k) hu, rfl⟩⟩
  | perform i j => obtain ⟨t1, t2, t3, x⟩ := x; exact ⟨t1, _, _, x, Nat.le_refl _, fun _ _ _ _ _ => ⟨_, SeqAt.EqAt.int_str _ _ _ _, rfl⟩⟩
  | jump l => obtain ⟨t1, t2, x⟩ := x; exact ⟨t1, _, _, x, Nat.zero_le _, fun _ _ _ _ _ => ⟨_, SeqAt.EqAt.int_str _ _ _ _, rfl⟩⟩
  | leave b => obtain ⟨t1, t2, x⟩ := x; exact ⟨t1, _, _, x, Nat.zero_le _, fun _ _ _ _ _ => ⟨_, SeqAt.EqAt.int_str _ _ _ _, rfl⟩⟩
  | stop e => obtain ⟨t1, t2, x⟩ := x; exact ⟨t1, _, _, x, Nat.zero_le _, fun _ _ _ _ _ => ⟨_, SeqAt.EqAt.str_str _ _ _ _, by cases e <;> rfl⟩⟩
theorem eqTupV {prog : Program} {w : World} {A : Around} {E : Value → Shared → Prop} {s : Shared} {h₀ : Heap} {L a b : Addr} {m : Str → Option Value} {news : Led} {op : Op} {t0 t2 t3 : Tok} {y : Value} {nb : Nat} {Q : Value → Shared → Prop}
    (F : Fr h₀ L s.heap m) (N : News h₀ L s.heap news) (ha : IsTup s.heap a (List.toArray [.str op.word t0, y])) (hb : (b, seqObj "tuple" (List.toArray [.str (Str.ofString "calc") t2, .str (Str.ofString "neg") t3]) nb) ∈ news)
    (hn : ∀ (A : Around) (s : Shared) (t : Tok), A.units < cLine → Ext h₀ s.heap → ∃ b, SeqAt.EqAt A s y (.str (Str.ofString "neg") t) b ∧ (b && (op.word == Str.ofString "calc")) = isNeg op)
    (hu : A.units < cLine) (hu1 : A.in1.units < cLine) (h : Q (.bool (isNeg op)) s) : wpAny (model prog w) A (compareOp .Eq (.ref a) (.ref b)) Q E s := by
  obtain ⟨bb, e, e2⟩ := hn A.in1 s t3 hu1 F.keep
  exact eqTup2 hu ha (News.isTup N hb) (SeqAt.EqAt.str_str _ _ _ _) e (by rw [e2]; exact h)
noncomputable def mNx (a : Addr) (wd : Str) (tw : Tok) (T : Int) (tt : Tok) (pl : Int) (tn : Tok) (hg : Int) (tb : Tok) (u : Str → Option Value) : Str → Option Value := fun y =>
  if y = Str.ofString "takes" then some (.int T tt) else if y = Str.ofString "word" then some (.str wd tw) else if y = Str.ofString "op" then some (.ref a) else if y = Str.ofString "place" then some (.int pl tn) else if y = Str.ofString "height" then some (.int hg tb) else u y
theorem mNx_of {a : Addr} {wd : Str} {tw : Tok} {T : Int} {tt : Tok} {pl : Int} {tn : Tok} {hg : Int} {tb : Tok} {m : Str → Option Value} (h1 : m (Str.ofString "takes") = some (.int T tt)) (h2 : m (Str.ofString "word") = some (.str wd tw)) (h3 : m (Str.ofString "op") = some (.ref a)) (h4 : m (Str.ofString "place") = some (.int pl tn)) (h5 : m (Str.ofString "height") = some (.int hg tb)) :
    m = mNx a wd tw T tt pl tn hg tb m := by
  funext y
  unfold mNx
  repeat (split; · rename_i e; rw [e]; assumption)
  rfl
noncomputable def NxMid (g : Heap) (L a : Addr) (wd : Str) (T pl : Int) (tn : Tok) (hg : Int) (tb : Tok) (s : Shared) (f : Flow) (s' : Shared) : Prop :=
  f = .next ∧ ∃ (h' : Heap) (tk : Nat) (tw tt : Tok) (o1 : Obj) (u : Str → Option Value), s' = { s with heap := h', toks := tk } ∧ Fr g L h' (mNx a wd tw T tt pl tn hg tb u) ∧ News g L h' [(L + 1, o1)] ∧ o1.data = .cell none
theorem NxMid.intro {g h' : Heap} {L a : Addr} {wd : Str} {T T' pl : Int} {tn tb tw tt : Tok} {hg : Int} {s : Shared} {tk : Nat} {o1 : Obj} {news : Led} {m : Str → Option Value} (F : Fr g L h' m) (N : News g L h' news) (hm : (L + 1, o1) ∈ news) (ho : o1.data = .cell none) (e : T' = T)
    (h1 : m (Str.ofString "takes") = some (.int T' tt)) (h2 : m (Str.ofString "word") = some (.str wd tw)) (h3 : m (Str.ofString "op") = some (.ref a)) (h4 : m (Str.ofString "place") = some (.int pl tn)) (h5 : m (Str.ofString "height") = some (.int hg tb)) : NxMid g L a wd T pl tn hg tb s .next { s with heap := h', toks := tk } := by
  subst e
  exact ⟨rfl, h', tk, tw, tt, o1, m, rfl, (mNx_of h1 h2 h3 h4 h5) ▸ F, fun q hq => by rw [List.mem_singleton.mp hq]; exact N _ hm, ho⟩
theorem word_dd (op : Op) : ([Str.ofString "do", Str.ofString "perform", Str.ofString "leave", Str.ofString "stop"].any fun x => x == op.word) = isDeed op := word_deed op
theorem execs2 {M : Model} {A : Around} {E : Value → Shared → Prop} {s : Shared} {env : Env} {st1 st2 : Stmt} {rest : List Stmt} {Q Qm : Flow → Shared → Prop}
    (h1 : wpAny M A (exec st1 env) (fun f s' => match f with | .next => wpAny M A (exec st2 env) Qm E s' | f => Qm f s') E s)
    (h2 : ∀ f s', Qm f s' → (match f with | .next => wpAny M A (execs rest env) Q E s' | f => Q f s')) : wpAny M A (execs (st1 :: st2 :: rest) env) Q E s := by
  refine wpAny_execs_cons (wpAny_mono h1 (fun f s' hf => ?_) fun _ _ e => e)
  cases f with
  | next => exact wpAny_execs_cons (wpAny_mono hf (fun f s' hf => h2 f s' hf) fun _ _ e => e)
  | cont => exact h2 _ _ hf
  | brk => exact h2 _ _ hf
  | ret v => exact h2 _ _ hf
noncomputable def NxIf (g : Heap) (L a : Addr) (op : Op) (pl : Int) (tn : Tok) (hg : Int) (tb : Tok) (s : Shared) (f : Flow) (s' : Shared) : Prop :=
  (f = .ret .none ∧ ¬ okAt op hg ∧ ∃ h' tk, s' = { s with heap := h', toks := tk } ∧ Ext g h') ∨ (okAt op hg ∧ NxMid g L a op.word (taken op) pl tn hg tb s f s')
theorem nx_none {g h' : Heap} {L a : Addr} {op : Op} {pl hg : Int} {tn tb : Tok} {s : Shared} {tk : Nat} (hh : 0 ≤ hg) (k : Ext g h') (h : hg < taken op ∨ (isDeed op = true ∧ hg > 0)) : NxIf g L a op pl tn hg tb s (.ret .none) { s with heap := h', toks := tk } :=
  .inl ⟨rfl, fun q => have q := (ok_iff hh).mp q; h.elim q.1 q.2, h', tk, rfl, k⟩
theorem nx_go {g : Heap} {L a : Addr} {op : Op} {pl hg : Int} {tn tb : Tok} {s s' : Shared} (hh : 0 ≤ hg) (h1 : ¬ hg < taken op) (h2 : isDeed op = false ∨ ¬ hg > 0) (h : NxMid g L a op.word (taken op) pl tn hg tb s .next s') : NxIf g L a op pl tn hg tb s .next s' :=
  .inr ⟨(ok_iff hh).mpr ⟨h1, fun q => h2.elim (fun e => by rw [e] at q; cases q.1) fun e => e q.2⟩, h⟩
noncomputable def mFd (r a : Addr) (wd : Str) (tw : Tok) (T : Int) (tt : Tok) (pl : Int) (tn : Tok) (hg : Int) (tb : Tok) (u : Str → Option Value) : Str → Option Value := fun y =>
  if y = Str.ofString "found" then some (.ref r) else mNx a wd tw T tt pl tn hg tb u y
noncomputable def NxF (P : PH → Prop) (k : Nat) (g : Heap) (L a : Addr) (wd : Str) (T pl : Int) (tn : Tok) (hg : Int) (tb : Tok) (lt : Int) (s : Shared) (f : Flow) (s' : Shared) : Prop :=
  f = .next ∧ ∃ (h' : Heap) (tk : Nat) (tw tt tl : Tok) (o1 : Obj) (u : Str → Option Value) (r : Addr) (c : Nat) (vs : List Value) (imm : Led) (ws : List PH), s' = { s with heap := h', toks := tk } ∧ Fr g L h' (mFd r a wd tw T tt pl tn hg tb u) ∧ News g L h' ((r, seqObj "list" vs.toArray c) :: (L + 1, o1) :: imm) ∧
    @Ne Nat (L + 1) r ∧ o1.data = .cell (some (.int lt tl)) ∧ TupAll imm ∧ PairsIn imm vs ws ∧ (∀ y, y ∈ ws ↔ P y) ∧ ws.length ≤ k
theorem NxF.intro {P : PH → Prop} {k : Nat} {g h' : Heap} {L a r : Addr} {wd : Str} {T pl hg lt lt' : Int} {tn tb tw tt tl : Tok} {s : Shared} {tk c : Nat} {o1 : Obj} {vs : List Value} {imm news : Led} {m : Str → Option Value} (ws : List PH) (F : Fr g L h' m) (N : News g L h' news) (h0 : (r, seqObj "list" vs.toArray c) ∈ news) (hm : (L + 1, o1) ∈ news) (hi : ∀ q ∈ imm, q ∈ news) (hne : @Ne Nat (L + 1) r) (ho : o1.data = .cell (some (.int lt' tl))) (e : lt' = lt)
    (h6 : m (Str.ofString "found") = some (.ref r)) (h1 : m (Str.ofString "takes") = some (.int T tt)) (h2 : m (Str.ofString "word") = some (.str wd tw)) (h3 : m (Str.ofString "op") = some (.ref a)) (h4 : m (Str.ofString "place") = some (.int pl tn)) (h5 : m (Str.ofString "height") = some (.int hg tb))
    (ht : TupAll imm) (hp : PairsIn imm vs ws) (hw : ∀ y, y ∈ ws ↔ P y) (hk : ws.length ≤ k) : NxF P k g L a wd T pl tn hg tb lt s .next { s with heap := h', toks := tk } := by
  subst e
  refine ⟨rfl, h', tk, tw, tt, tl, o1, m, r, c, vs, imm, ws, rfl, ?_, fun q hq => N q ?_, hne, ho, ht, hp, hw, hk⟩
  · have e : m = mFd r a wd tw T tt pl tn hg tb m := by
      funext y
      unfold mFd
      split
      · rename_i e; rw [e, h6]
      · exact congrFun (mNx_of h1 h2 h3 h4 h5) y
    rw [← e]; exact F
  · rcases List.mem_cons.mp hq with rfl | hq
    · exact h0
    rcases List.mem_cons.mp hq with rfl | hq
    · exact hm
    exact hi q hq
theorem lat_give {op : Op} {hg : Int} (h : ¬ hg < taken op) (e : isGive op = true) : hg - taken op + 1 = behind op hg := by rw [behind_eq h, e]; rfl
theorem lat_not {op : Op} {hg : Int} (h : ¬ hg < taken op) (e : isGive op = false) : hg - taken op + 0 = behind op hg := by rw [behind_eq h, e]; rfl
noncomputable def hasLast : Op → Bool
  | .lab _ _ => true
  | .jump _ => true
  | _ => false
theorem word_last (op : Op) : ([Str.ofString "put", Str.ofString "key", Str.ofString "test", Str.ofString "less", Str.ofString "jump"].any fun x => x == op.word) = hasLast op := by
  cases op with
  | lab k l => cases k <;> rfl
  | plain k => cases k <;> rfl
  | _ => rfl
theorem give_shape {h : Heap} {a : Addr} {op : Op} (x : OpAt h a op) (e : isGive op = true) : ∃ l t0 y t, IsTup h a (List.toArray [.str op.word t0, y, .int l t]) ∧ labels op = if l = -1 then [] else [l] := by
  cases op with
  | push l => obtain ⟨t1, t2, t3, x⟩ := x; exact ⟨l, t1, _, t3, x, rfl⟩
  | reck g l => obtain ⟨t1, t2, t3, x⟩ := x; exact ⟨l, t1, _, t3, x, rfl⟩
  | _ => cases e
noncomputable def P5 (op : Op) (pl hg : Int) (y : PH) : Prop := isEnd op = false ∧ y = (pl + 1, behind op hg)
noncomputable def P6 (op : Op) (pl hg : Int) (y : PH) : Prop := P5 op pl hg y ∨ (isGive op = true ∧ y ∈ (labels op).map fun l => (l, 0))
noncomputable def P7 (op : Op) (pl hg : Int) (y : PH) : Prop := P6 op pl hg y ∨ (hasLast op = true ∧ y ∈ (labels op).map fun l => (l, behind op hg))
theorem tupc {a : Addr} {o : Obj} {imm : Led} (h : o.cls = .type "tuple") (ht : TupAll imm) : TupAll ((a, o) :: imm) := fun q hq => by
  rcases List.mem_cons.mp hq with rfl | hq
  · exact h
  · exact ht q hq
theorem memc {p : Addr × Obj} {imm news : Led} (h : p ∈ news) (hi : ∀ q ∈ imm, q ∈ news) : ∀ q ∈ p :: imm, q ∈ news := fun q hq => by
  rcases List.mem_cons.mp hq with rfl | hq
  · exact h
  · exact hi q hq
theorem len_app {α : Type} {l : List α} {x : α} {k : Nat} (h : l.length ≤ k) : (l ++ [x]).length ≤ k + 1 := by rw [List.length_append, List.length_singleton]; exact Nat.succ_le_succ h
theorem snoc_iff {α : Type} {l : List α} {x y : α} {P : α → Prop} {Q : Prop} (h : y ∈ l ↔ P y) (hq : y = x ↔ Q) : y ∈ l ++ [x] ↔ P y ∨ Q := by rw [List.mem_append, List.mem_singleton, h, hq]
theorem ways_iff {op : Op} {pl hg : Int} (hc : ∀ ls, op ≠ .choose ls) (y : PH) : P7 op pl hg y ↔ y ∈ ways op pl (behind op hg) := by
  unfold P7 P6 P5 ways
  cases op with
  | choose ls => exact absurd rfl (hc ls)
  | _ => simp [isEnd, isGive, hasLast, labels, or_comm]
theorem ways_choose {ls : List Int} {pl hg : Int} (y : PH) : (P7 (.choose ls) pl hg y ∨ y ∈ ls.map fun l => (l, behind (.choose ls) hg)) ↔ y ∈ ways (.choose ls) pl (behind (.choose ls) hg) := by
  unfold P7 P6 P5 ways
  simp [isEnd, isGive, hasLast, labels, or_comm]
theorem choose_word {op : Op} (h : ∀ ls, op ≠ .choose ls) : (op.word == Str.ofString "choose") = false := by
  cases op with
  | lab k l => cases k <;> rfl
  | plain k => cases k <;> rfl
  | choose ls => exact absurd rfl (h ls)
  | _ => rfl
theorem push_app {vs : List Value} {x : Value} {n : Nat} : W.listOf (vs.toArray.push x) n = seqObj "list" (vs ++ [x]).toArray n := by rw [show vs.toArray.push x = (vs ++ [x]).toArray from by simp]
theorem lines_C10_2 : True := by
  k_with "compareOp Eq ref ref" => (k_here; (with_reducible show wpAny _ _ (compareOp CmpOp.Eq (Value.ref _) (Value.ref _)) _ _ _); k_dflt ( (refine' eqTupV ?Fzq ?Nzq ?tazq ?tbzq ?nzq ?uzq ?u1zq ?_; (case Fzq => k_asm); (case Nzq => k_asm); (case tazq => first | exact News.isTup (by k_asm) (by k_mem) | exact Fr.tup (by k_asm) (by assumption)); (case tbzq => k_mem); (case nzq => assumption); (case uzq => exact Lv.units (by assumption)); (case u1zq => exact Lv.units (Lv.in1 (by assumption))); k_whole)))
  trivial
section
variable {prog : Program} {w : World} {A : Around} {s : Shared} {R : Result → Shared → Prop} {a : Addr}
   {p : Program} {loose : List Str} {mean : ExcName → Option Value} {mg mb : Str → Option Value}
set_option maxHeartbeats 4000000 in
theorem next_c {op : Op} {pl hg : Int} {tn tb : Tok} (X : (Mine.hd.heap_1 w.params).In s.heap) (T : Top p loose mean mg mb s.heap) (hv : Lv A 3) (ho : OpAt s.heap a op) (hh : 0 ≤ hg) (hf : ∀ y ∈ labels op, 0 ≤ y) (hl2 : (labels op).length ≤ 2)
   (hnone : ∀ h' tk, Ext s.heap h' → ¬ okAt op hg → R (.ok (.ret .none)) { s with heap := h', toks := tk })
   (hsome : ∀ h' tk r c vs imm ws, Ext s.heap h' → NewAt s.heap h' ((r, seqObj "list" vs.toArray c) :: imm) → TupAll imm → PairsIn imm vs ws → okAt op hg → (∀ y, y ∈ ws ↔ y ∈ ways op pl (behind op hg)) → ws.length ≤ 4 → R (.ok (.ret (.ref r))) { s with heap := h', toks := tk }) :
   codeAny (model prog w) A (.call (.ref 123) ⟨[.ref a, .int pl tn, .int hg tb], []⟩) R s := by
  obtain ⟨t0, y0, rst, hT, hrl, hneg⟩ := ho.view2
  refine' enterC (binds := [(Str.ofString "op", .ref a), (Str.ofString "place", .int pl tn), (Str.ofString "height", .int hg tb)]) [] (fun _ h => nomatch h) X ?k5 ?k6 ?k7 ?k8 ?k9 ?kB ?kD ?_ ?c2 ?c3 ?c4
  case k5 => exact T.nolimit
  case k6 => k_dflt k_is
  case k7 => k_dflt k_is
  case k8 => exact hv.room
  case k9 => exact rfl
  case kB => exact kindsX rfl
  case kD => decide +kernel
  case c2 => exact rfl
  case c3 => exact rfl
  case c4 => exact rfl
  intro L h₁ tk cells F N Y
  change Fr s.heap _ _ _ at F
  change News s.heap _ _ _ at N
  k_cells Y
  (try rw [List.append_nil] at N)
  refine hv.gen ?_
  clear hv
  intro A' hv
  try dsimp only
  try k_fold
  refine execs2 (Qm := NxMid s.heap L a op.word (taken op) pl tn hg tb s) ?mid (fun f s' hm => ?rest)
  case mid =>
    rcases rst with _ | ⟨z, rst⟩
    · k_steps
      all_goals (
        (rename Fr _ _ _ _ => Fe; rename News _ _ _ _ => Ne)
        exact NxMid.intro Fe Ne (by repeat (first | exact List.Mem.head _ | refine List.Mem.tail _ ?_)) (by assumption) (by first | exact (taken_neg (by assumption)).symm | exact (taken_word (by assumption)).symm) (by rfl) (by rfl) (by rfl) (by rfl) (by rfl))
    · obtain rfl : rst = [] := by
        cases rst with
        | nil => rfl
        | cons _ _ => simp at hrl
      k_steps
      all_goals (
        (rename Fr _ _ _ _ => Fe; rename News _ _ _ _ => Ne)
        exact NxMid.intro Fe Ne (by repeat (first | exact List.Mem.head _ | refine List.Mem.tail _ ?_)) (by assumption) (by first | exact (taken_neg (by assumption)).symm | exact (taken_word (by assumption)).symm) (by rfl) (by rfl) (by rfl) (by rfl) (by rfl))
  case rest =>
    clear hneg hrl hT F N
    obtain ⟨rfl, h6, tk6, tw, tt, o1, u6, rfl, F6, N6, ho1⟩ := hm
    have hwd := word_deed op
    try dsimp only
    try k_fold
    refine wpAny_execs_cons ?_
    refine' wpAny_mono (Q := NxIf s.heap L a op pl tn hg tb s) (E := fun _ _ => False) ?mid2 (fun f s' hm => ?rest2) (fun _ _ f => f.elim)
    case mid2 =>
      k_steps
      · (rename Fr _ _ _ _ => Fe; rename News _ _ _ _ => Ne)
        exact nx_none hh Fe.keep (.inl (by assumption))
      · (rename Fr _ _ _ _ => Fe; rename News _ _ _ _ => Ne)
        exact nx_none hh Fe.keep (.inr ⟨hwd.symm.trans (by assumption), by assumption⟩)
      · (rename Fr _ _ _ _ => Fe; rename News _ _ _ _ => Ne)
        exact nx_go hh (by assumption) (.inr (by assumption)) (NxMid.intro Fe Ne (by repeat (first | exact List.Mem.head _ | refine List.Mem.tail _ ?_)) ho1 rfl (by rfl) (by rfl) (by rfl) (by rfl) (by rfl))
      · (rename Fr _ _ _ _ => Fe; rename News _ _ _ _ => Ne)
        exact nx_go hh (by assumption) (.inl (hwd.symm.trans (by assumption))) (NxMid.intro Fe Ne (by repeat (first | exact List.Mem.head _ | refine List.Mem.tail _ ?_)) ho1 rfl (by rfl) (by rfl) (by rfl) (by rfl) (by rfl))
    case rest2 =>
      clear F6 N6 ho1 hwd
      rcases hm with ⟨rfl, hbad, h7, tk7, rfl, k7⟩ | ⟨hok, rfl, h6, tk6, tw, tt, o1, u6, rfl, F6, N6, ho1⟩
      · exact hnone _ _ k7 hbad
      · have hlt := ((ok_iff hh).mp hok).1
        clear hnone hh
        have hwg := word_give op
        have hwe := word_end op
        try dsimp only
        try k_fold
        refine execs2 (Qm := NxF (P5 op pl hg) 1 s.heap L a op.word (taken op) pl tn hg tb (behind op hg) s) ?mid3 (fun f s' hm => ?rest3)
        case mid3 =>
          k_steps
          · (rename Fr _ _ _ _ => Fe; rename News _ _ _ _ => Ne)
            have e := hwe.symm.trans (by assumption)
            exact NxF.intro [] (vs := []) (imm := []) Fe Ne (by repeat (first | exact List.Mem.head _ | refine List.Mem.tail _ ?_)) (by repeat (first | exact List.Mem.head _ | refine List.Mem.tail _ ?_)) (fun _ h => nomatch h) (by first | exact Nat.ne_of_lt (by assumption) | exact Nat.ne_of_lt (And.right (by assumption))) (by assumption) (lat_give hlt (hwg.symm.trans (by assumption))) (by rfl) (by rfl) (by rfl) (by rfl) (by rfl) (by rfl) (fun _ h => nomatch h) .nil (fun y => ⟨(fun h => nomatch h), fun h => by have := e.symm.trans h.1; cases this⟩) (Nat.zero_le _)
          · (rename Fr _ _ _ _ => Fe; rename News _ _ _ _ => Ne)
            have e := hwe.symm.trans (by assumption)
            have el := lat_give hlt (hwg.symm.trans (by assumption))
            exact NxF.intro [(pl + 1, _)] (vs := [_]) (imm := [(_, _)]) Fe Ne (by repeat (first | exact List.Mem.head _ | refine List.Mem.tail _ ?_)) (by repeat (first | exact List.Mem.head _ | refine List.Mem.tail _ ?_)) (mem1 (by repeat (first | exact List.Mem.head _ | refine List.Mem.tail _ ?_))) (by first | exact Nat.ne_of_lt (by assumption) | exact Nat.ne_of_lt (And.right (by assumption))) (by assumption) el (by rfl) (by rfl) (by rfl) (by rfl) (by rfl) (by rfl) (tup1 rfl) (.cons (.head _) .nil) (fun y => by rw [el]; exact ⟨fun h => ⟨e, List.mem_singleton.mp h⟩, fun h => List.mem_singleton.mpr h.2⟩) (Nat.le_refl _)
          · (rename Fr _ _ _ _ => Fe; rename News _ _ _ _ => Ne)
            have e := hwe.symm.trans (by assumption)
            exact NxF.intro [] (vs := []) (imm := []) Fe Ne (by repeat (first | exact List.Mem.head _ | refine List.Mem.tail _ ?_)) (by repeat (first | exact List.Mem.head _ | refine List.Mem.tail _ ?_)) (fun _ h => nomatch h) (by first | exact Nat.ne_of_lt (by assumption) | exact Nat.ne_of_lt (And.right (by assumption))) (by assumption) (lat_not hlt (hwg.symm.trans (by assumption))) (by rfl) (by rfl) (by rfl) (by rfl) (by rfl) (by rfl) (fun _ h => nomatch h) .nil (fun y => ⟨(fun h => nomatch h), fun h => by have := e.symm.trans h.1; cases this⟩) (Nat.zero_le _)
          · (rename Fr _ _ _ _ => Fe; rename News _ _ _ _ => Ne)
            have e := hwe.symm.trans (by assumption)
            have el := lat_not hlt (hwg.symm.trans (by assumption))
            exact NxF.intro [(pl + 1, _)] (vs := [_]) (imm := [(_, _)]) Fe Ne (by repeat (first | exact List.Mem.head _ | refine List.Mem.tail _ ?_)) (by repeat (first | exact List.Mem.head _ | refine List.Mem.tail _ ?_)) (mem1 (by repeat (first | exact List.Mem.head _ | refine List.Mem.tail _ ?_))) (by first | exact Nat.ne_of_lt (by assumption) | exact Nat.ne_of_lt (And.right (by assumption))) (by assumption) el (by rfl) (by rfl) (by rfl) (by rfl) (by rfl) (by rfl) (tup1 rfl) (.cons (.head _) .nil) (fun y => by rw [el]; exact ⟨fun h => ⟨e, List.mem_singleton.mp h⟩, fun h => List.mem_singleton.mpr h.2⟩) (Nat.le_refl _)
        case rest3 =>
          clear F6 N6 ho1 hwe
          obtain ⟨rfl, h8, tk8, tw8, tt8, tl8, o8, u8, r, c8, vs8, imm8, ws8, rfl, F8, N8, hne8, ho8, ht8, hp8, hw8, hk8⟩ := hm
          have hap8 := apart_tup N8 (.head _) (fun q hq => .tail _ (.tail _ hq)) ht8 list_cls
          have hz8 : vs8.length ≤ 1000 := by rw [hp8.length]; exact Nat.le_trans hk8 (by decide)
          try dsimp only
          try k_fold
          refine wpAny_execs_cons ?_
          refine' wpAny_mono (Q := NxF (P6 op pl hg) (1 + (isGive op).toNat) s.heap L a op.word (taken op) pl tn hg tb (behind op hg) s) (E := fun _ _ => False) ?mid4 (fun f s' hm => ?rest4) (fun _ _ f => f.elim)
          case mid4 =>
            cases hgv : isGive op with
            | false =>
              have hwf := hwg.trans hgv
              clear hwg ho
              k_steps
              (rename Fr _ _ _ _ => Fe; rename News _ _ _ _ => Ne)
              exact NxF.intro ws8 Fe Ne (by repeat (first | exact List.Mem.head _ | refine List.Mem.tail _ ?_)) (by repeat (first | exact List.Mem.head _ | refine List.Mem.tail _ ?_)) (fun q hq => by repeat (first | exact hq | refine List.Mem.tail _ ?_)) hne8 (by assumption) rfl (by rfl) (by rfl) (by rfl) (by rfl) (by rfl) (by rfl) ht8 hp8 (fun y => (hw8 y).trans ⟨.inl, fun h => h.elim id fun q => by have := hgv.symm.trans q.1; cases this⟩) (Nat.le_trans hk8 (Nat.le_add_right _ _))
            | true =>
              have hwf := hwg.trans hgv
              obtain ⟨l, tq0, yq, tq, hT, hlab⟩ := give_shape ho hgv
              clear hwg ho
              k_steps
              · (rename Fr _ _ _ _ => Fe; rename News _ _ _ _ => Ne)
                have hl1 : labels op = [l] := by rw [hlab, if_neg (by lia)]
                rw [push_app] at Ne
                exact NxF.intro (ws8 ++ [(_, _)]) (vs := vs8 ++ [_]) (imm := (_, _) :: imm8) Fe Ne (by repeat (first | exact List.Mem.head _ | refine List.Mem.tail _ ?_)) (by repeat (first | exact List.Mem.head _ | refine List.Mem.tail _ ?_)) (memc (by repeat (first | exact List.Mem.head _ | refine List.Mem.tail _ ?_)) (fun q hq => by repeat (first | exact hq | refine List.Mem.tail _ ?_))) hne8 (by assumption) rfl (by rfl) (by rfl) (by rfl) (by rfl) (by rfl) (by rfl) (tupc rfl ht8) ((hp8.mono fun q hq => .tail _ hq).append (.cons (.head _) .nil)) (fun y => snoc_iff (hw8 y) (by rw [hgv, hl1]; simp)) (len_app hk8)
              · (rename Fr _ _ _ _ => Fe; rename News _ _ _ _ => Ne)
                have hl0 : labels op = [] := by
                  rcases Int.decEq l (-1) with h | h
                  · rw [hlab, if_neg h] at hf
                    exact absurd (hf l (.head _)) (by lia)
                  · rw [hlab, if_pos h]
                exact NxF.intro ws8 Fe Ne (by repeat (first | exact List.Mem.head _ | refine List.Mem.tail _ ?_)) (by repeat (first | exact List.Mem.head _ | refine List.Mem.tail _ ?_)) (fun q hq => by repeat (first | exact hq | refine List.Mem.tail _ ?_)) hne8 (by assumption) rfl (by rfl) (by rfl) (by rfl) (by rfl) (by rfl) (by rfl) ht8 hp8 (fun y => (hw8 y).trans ⟨.inl, fun h => h.elim id fun q => by rw [hl0] at q; cases q.2⟩) (Nat.le_trans hk8 (Nat.le_add_right _ _))
          case rest4 =>
            clear F8 N8 ho8 hw8 hk8 hp8 ht8 hap8 hz8 hne8 hwg
            have hwl := word_last op
            obtain ⟨rfl, h8, tk8, tw8, tt8, tl8, o8, u8, r, c8, vs8, imm8, ws8, rfl, F8, N8, hne8, ho8, ht8, hp8, hw8, hk8⟩ := hm
            have hap8 := apart_tup N8 (.head _) (fun q hq => .tail _ (.tail _ hq)) ht8 list_cls
            have hz8 : vs8.length ≤ 1000 := by rw [hp8.length]; exact Nat.le_trans hk8 (by cases isGive op <;> decide)
            try dsimp only
            try k_fold
            refine wpAny_execs_cons ?_
            refine' wpAny_mono (Q := NxF (P7 op pl hg) (1 + (isGive op).toNat + (hasLast op).toNat) s.heap L a op.word (taken op) pl tn hg tb (behind op hg) s) (E := fun _ _ => False) ?mid5 (fun f s' hm => ?rest5) (fun _ _ f => f.elim)
            case mid5 =>
              by_cases hgl : hasLast op = true
              · have hwf := hwl.trans hgl
                clear hwl
                cases op with
                | lab k l =>
                  obtain ⟨tq0, tq1, tq2, hT⟩ := ho
                  k_steps
                  (rename Fr _ _ _ _ => Fe; rename News _ _ _ _ => Ne)
                  rw [push_app] at Ne
                  exact NxF.intro (ws8 ++ [(_, _)]) (vs := vs8 ++ [_]) (imm := (_, _) :: imm8) Fe Ne (by repeat (first | exact List.Mem.head _ | refine List.Mem.tail _ ?_)) (by repeat (first | exact List.Mem.head _ | refine List.Mem.tail _ ?_)) (memc (by repeat (first | exact List.Mem.head _ | refine List.Mem.tail _ ?_)) (fun q hq => by repeat (first | exact hq | refine List.Mem.tail _ ?_))) hne8 (by assumption) rfl (by rfl) (by rfl) (by rfl) (by rfl) (by rfl) (by rfl) (tupc rfl ht8) ((hp8.mono fun q hq => .tail _ hq).append (.cons (.head _) .nil)) (fun y => snoc_iff (hw8 y) (by simp [hasLast, labels])) (len_app hk8)
                | jump l =>
                  obtain ⟨tq0, tq1, hT⟩ := ho
                  k_steps
                  (rename Fr _ _ _ _ => Fe; rename News _ _ _ _ => Ne)
                  rw [push_app] at Ne
                  exact NxF.intro (ws8 ++ [(_, _)]) (vs := vs8 ++ [_]) (imm := (_, _) :: imm8) Fe Ne (by repeat (first | exact List.Mem.head _ | refine List.Mem.tail _ ?_)) (by repeat (first | exact List.Mem.head _ | refine List.Mem.tail _ ?_)) (memc (by repeat (first | exact List.Mem.head _ | refine List.Mem.tail _ ?_)) (fun q hq => by repeat (first | exact hq | refine List.Mem.tail _ ?_))) hne8 (by assumption) rfl (by rfl) (by rfl) (by rfl) (by rfl) (by rfl) (by rfl) (tupc rfl ht8) ((hp8.mono fun q hq => .tail _ hq).append (.cons (.head _) .nil)) (fun y => snoc_iff (hw8 y) (by simp [hasLast, labels])) (len_app hk8)
                | _ => cases hgl
              · have hgf : hasLast op = false := by simpa using hgl
                have hwf := hwl.trans hgf
                clear hwl ho
                k_steps
                (rename Fr _ _ _ _ => Fe; rename News _ _ _ _ => Ne)
                exact NxF.intro ws8 Fe Ne (by repeat (first | exact List.Mem.head _ | refine List.Mem.tail _ ?_)) (by repeat (first | exact List.Mem.head _ | refine List.Mem.tail _ ?_)) (fun q hq => by repeat (first | exact hq | refine List.Mem.tail _ ?_)) hne8 (by assumption) rfl (by rfl) (by rfl) (by rfl) (by rfl) (by rfl) (by rfl) ht8 hp8 (fun y => (hw8 y).trans ⟨.inl, fun h => h.elim id fun q => absurd q.1 hgl⟩) (Nat.le_trans hk8 (Nat.le_add_right _ _))
            case rest5 =>
              clear F8 N8 ho8 hw8 hk8 hp8 ht8 hap8 hz8 hne8 hwl
              obtain ⟨rfl, h8, tk8, tw8, tt8, tl8, o8, u8, r, c8, vs8, imm8, ws8, rfl, F8, N8, hne8, ho8, ht8, hp8, hw8, hk8⟩ := hm
              try dsimp only
              try k_fold
              have hvl : vs8.length ≤ 3 := by rw [hp8.length]; exact Nat.le_trans hk8 (by cases isGive op <;> cases hasLast op <;> decide)
              by_cases hch : ∃ ls, op = .choose ls
              · obtain ⟨ls, rfl⟩ := hch
                obtain ⟨t1, bb, vs, ha, hb, hiv, hz⟩ := ho
                k_steps
                (rename Fr _ _ _ _ => Fe; rename News _ _ _ _ => Ne)
                have hvz : vs.length ≤ 2 := by rw [hiv.length]; exact hl2
                refine grow_tup hv.hh Fe Ne hb (Nat.le_trans hvz (by decide)) (fun i acc imm => PairsIn imm acc ((ls.take i).map (fun l => (l, behind (.choose ls) hg)))) .nil ?_ ?_
                · intro base kb i v acc imm own h tk m₁ C hi hP hG F5 N5
                  obtain ⟨n, t, hn, rfl⟩ := ints_get hiv hP
                  replace X := X.keeps kb
                  replace T := T.keeps kb
                  simp only [List.cons_append, List.nil_append] at N5
                  refine wpAny_tests_nil ?_
                  try dsimp only
                  try k_fold
                  k_steps
                  (rename Fr _ _ _ _ => Fe; rename News _ _ _ _ => Ne)
                  refine GEnd.intro1 Fe Ne (fun q hq => hq) rfl ?_
                  show PairsIn _ _ _
                  rw [List.take_add_one, hn, List.map_append]
                  exact (hG.mono fun p hp => List.mem_cons_of_mem _ hp).append (.cons (.head _) .nil)
                · intro D h' tk c2 acc imm F5 N5 hd him hG
                  rw [hiv.length, List.take_length] at hG
                  try dsimp only
                  try k_fold
                  simp only [List.cons_append, List.nil_append] at N5
                  k_steps
                  (rename Fr _ _ _ _ => Fe; rename News _ _ _ _ => Ne)
                  have hal : acc.length ≤ 2 := by rw [hG.length, List.length_map]; exact hl2
                  refine add_lists (vs := vs8) Fe Ne (News.isList Ne (by repeat (first | exact List.Mem.head _ | refine List.Mem.tail _ ?_))) (News.isList Ne (.head _)) (fun h9 F9 N9 => ?_) (Nat.le_trans (Nat.add_le_add hvl hal) (by decide))
                  refine hsome _ _ _ _ _ (imm8 ++ imm) (ws8 ++ _) F9.keep (next_end (vs := vs8 ++ acc) N9 (.head _) (fun q hq => (by
                    simp only [List.mem_cons, List.mem_append] at hq ⊢
                    rcases hq with h | h <;> simp [h]))) (fun q hq => (List.mem_append.mp hq).elim (ht8 q) (him q)) ((hp8.mono fun q hq => List.mem_append_left _ hq).append (hG.mono fun q hq => List.mem_append_right _ hq)) hok (fun y => by rw [List.mem_append, hw8]; exact ways_choose y) (by rw [List.length_append, ← hG.length]; exact Nat.le_trans (Nat.add_le_add (show ws8.length ≤ 1 from hk8) hal) (by decide))
              · have hno : ∀ ls, op ≠ .choose ls := fun ls e => hch ⟨ls, e⟩
                have hwf := choose_word hno
                k_steps
                (rename Fr _ _ _ _ => Fe; rename News _ _ _ _ => Ne)
                refine hsome _ _ _ _ _ imm8 ws8 Fe.keep (next_end (vs := vs8 ++ []) Ne (.head _) (fun q hq => by repeat (first | exact hq | refine List.Mem.tail _ ?_))) ht8 (by rw [List.append_nil]; exact hp8) hok (fun y => (hw8 y).trans (ways_iff hno y)) (Nat.le_trans hk8 (by cases isGive op <;> cases hasLast op <;> decide))
end
section
variable {prog : Program} {w : World} {A : Around} {s : Shared} {R : Result → Shared → Prop} {a : Addr} {h₀ : Heap} {L : Addr} {m : Str → Option Value} {news : Led}
   {p : Program} {loose : List Str} {mean : ExcName → Option Value} {mg mb : Str → Option Value}
theorem next_k {op : Op} {pl hg : Int} {tn tb : Tok} (F : Fr h₀ L s.heap m) (N : News h₀ L s.heap news) (X : (Mine.hd.heap_1 w.params).In h₀) (T : Top p loose mean mg mb h₀) (hv : Lv A 3) (ho : OpAt s.heap a op) (hh : 0 ≤ hg) (hf : ∀ y ∈ labels op, 0 ≤ y) (hl2 : (labels op).length ≤ 2)
   (hnone : ∀ h' tk, Fr h₀ L h' m → News h₀ L h' news → ¬ okAt op hg → R (.ok (.ret .none)) { s with heap := h', toks := tk })
   (hsome : ∀ h' tk r c vs imm ws, Fr h₀ L h' m → News h₀ L h' ((r, seqObj "list" vs.toArray c) :: (news ++ imm)) → (∀ q ∈ news, q.1 ≠ r) → TupAll imm → PairsIn imm vs ws → okAt op hg → (∀ y, y ∈ ws ↔ y ∈ ways op pl (behind op hg)) → ws.length ≤ 4 → R (.ok (.ret (.ref r))) { s with heap := h', toks := tk }) :
   codeAny (model prog w) A (.call (.ref 123) ⟨[.ref a, .int pl tn, .int hg tb], []⟩) R s :=
  next_c (X.keeps F.keep) (T.keeps F.keep) hv ho hh hf hl2 (fun h' tk e1 e2 => hnone h' tk (fr_ext F e1) (N.grown e1) e2) fun h' tk r c vs imm ws e1 e2 e3 e4 e5 e6 e7 =>
    hsome h' tk r c vs imm ws (fr_ext F e1) (fun q hq => News.ext_list F N e1 e2 q (by simp only [List.mem_cons, List.mem_append] at hq ⊢; rcases hq with h | h | h <;> simp [h])) (News.ext_apart N (e2 _ (.head _)).2) e3 e4 e5 e6 e7
end

end

section
theorem base_C11 : True := by
  k_with_none
  w_top off
  k_with "subscriptTail" => (k_here; (with_reducible show wpAny _ _ (subscriptTail _ _ (Value.ref _) (Value.int _ _)) _ _ _); k_dflt ( (refine' itemT ?Fzq ?tzq ?azq ?bzq ?czq ?dzq ?_; (case Fzq => k_asm); (case tzq => assumption); (case azq => decide); (case bzq => decide); (case czq => rfl); (case dzq => rfl); k_whole)))
  k_with "size_fits" => with_reducible assumption
  k_with "k_room" => exact Lv.room (by assumption)
  k_with "k_inst" => exact instUp (by assumption) (Fr.keep (by k_asm))
  k_with "call builtin:len" => (k_here; (with_reducible show wpAny _ _ (call (Value.builtin "len") [Value.ref _]) _ _ _); k_dflt ( (refine' lenT ?Fzq ?tzq ?azq ?bzq ?_; (case Fzq => k_asm); (case tzq => assumption); (case azq => first | assumption | rfl); (case bzq => first | assumption | decide); k_whole)))
  k_with "eval ListComp" => (k_here; (with_reducible rename Fr _ _ _ _ => zzlFq); k_dflt ( (refine' comp_inv zzlFq ?k1zq ?k2zq ?k3zq ?k4zq ?k5zq ?_ ?k6zq; (case k1zq => with_unfolding_all rfl); (case k2zq => decide); (case k3zq => with_unfolding_all rfl); (case k4zq => decide); (case k5zq => with_unfolding_all rfl); (case k6zq => (intro _; with_unfolding_all rfl)); k_whole)))
  k_with "exec Assign cons ListComp" => (k_here; (with_reducible rename Fr _ _ _ _ => zzlFq); k_dflt ( (refine' comp_assign zzlFq ?j1zq ?j2zq ?k1zq ?k2zq ?k3zq ?k4zq ?k5zq ?j3zq ?j4zq ?_ ?k6zq; (case j1zq => with_unfolding_all rfl); (case j2zq => with_unfolding_all rfl); (case j3zq => with_unfolding_all rfl); (case j4zq => with_unfolding_all rfl); (case k1zq => with_unfolding_all rfl); (case k2zq => decide); (case k3zq => with_unfolding_all rfl); (case k4zq => decide); (case k5zq => with_unfolding_all rfl); (case k6zq => (intro _; with_unfolding_all rfl)); k_whole)))
  k_with "compareOp NotEq ref ref" => (k_here; (with_reducible show wpAny _ _ (compareOp CmpOp.NotEq (Value.ref _) (Value.ref _)) _ _ _); k_dflt ( (refine' neNil ?azq ?bzq ?uzq ?_; (case azq => is_list); (case bzq => is_list); (case uzq => exact Lv.units (by assumption)); k_whole)))
  k_with "compareOp Eq ref ref" => (k_here; (with_reducible show wpAny _ _ (compareOp CmpOp.Eq (Value.ref _) (Value.ref _)) _ _ _); k_dflt ( (refine' eqNil ?azq ?bzq ?uzq ?_; (case azq => is_list); (case bzq => is_list); (case uzq => exact Lv.units (by assumption)); k_whole)))
  k_with "compareOp NotIn str ref" => (k_here; k_dflt (refine' topNotIn_K ?Fzq ?Xzq ?lzq ?kzq ?ezq ?ozq ?_; (case Fzq => k_asm); (case Xzq => k_asm); (case lzq => k_is); (case kzq => k_keys); (case ezq => first | with_reducible assumption | k_is); (case ozq => decide)))
  k_with "eval Name" => (k_here; k_inBlock; (with_reducible rename Fr _ _ _ _ => zzkF); k_dflt (first | (refine' nameQ_L zzkF ?azq ?_ ?bzq ?czq ?dzq ?ezq; (case azq => exact rfl); (case bzq => rfl); (case czq => rfl); (case dzq => rfl); (case ezq => decide); k_whole) | (refine' nameQ_F ?Nzq ?azq ?mzq ?dzq ?_ ?czq ?kzq ?xzq ?yzq; (case Nzq => k_asm); (case azq => exact rfl); (case mzq => k_mem); (case dzq => assumption); (case czq => rfl); (case kzq => rfl); (case xzq => decide); (case yzq => decide); k_whole) | (refine' nameQ_B zzkF ?k1zq ?k2zq ?k3zq ?k4zq ?k5zq ?_ ?bzq ?czq ?dzq ?ezq ?fzq; (case bzq => rfl); (case czq => rfl); (case dzq => rfl); (case ezq => rfl); (case fzq => decide); (case k1zq => k_asm); (case k2zq => k_asm); (case k3zq => k_is); (case k4zq => boot_by_name); (case k5zq => decide); k_whole)))
  k_with "subscriptTail" => (k_here; (with_reducible show wpAny _ _ (subscriptTail _ _ (Value.ref _) (Value.int 0 _)) _ _ _); k_dflt ( (refine' itemT0 ?Fzq ?tzq ?_; (case Fzq => k_asm); (case tzq => with_reducible assumption); k_whole)))
  k_with "ite" => (first | with_reducible refine ite_known_t (by assumption) ?_ | with_reducible refine ite_known_f (by assumption) ?_ | with_reducible refine ite_known_t rfl ?_ | with_reducible refine ite_known_f rfl ?_)
  k_with "k_all" => with_reducible assumption
  k_with "k_all" => ((repeat (rename _ ∧ _ => zzhqq; obtain ⟨_, _⟩ := zzhqq)); exact of_allLt (by with_reducible assumption))
  k_with "subscriptTail" => (k_here; (with_reducible show wpAny _ _ (subscriptTail _ _ (Value.ref _) (Value.str _ _)) _ _ _); k_dflt (refine' topItem_K ?Fzq ?Xzq ?lzq ?kzq ?ezq ?_; (case Fzq => k_asm); (case Xzq => k_asm); (case lzq => k_is); (case kzq => k_keys); (case ezq => with_reducible assumption); k_whole))
  k_with "subscriptTail" => (k_here; (with_reducible show wpAny _ _ (subscriptTail _ (PySem.Expr.Slice (some _) none none _) (Value.ref _) (Value.ref _)) _ _ _); k_dflt ( (refine' sliceT (a := 1) ?Fzq ?Nzq ?tzq ?azq ?bzq ?czq ?_ ?dzq ?ezq; (case Fzq => k_asm); (case Nzq => k_asm); (case tzq => assumption); (case azq => decide); (case bzq => exact Nat.le_of_ble_eq_true rfl); (case czq => exact Nat.le_of_ble_eq_true rfl); (case dzq => with_unfolding_all rfl); (case ezq => (intro _; with_unfolding_all rfl)); k_whole; intro zzhq zzrq zzFq zzNq zzl1; (try k_lt zzl1))))
  k_with "k_mem" => first | exact List.Mem.head _ | (refine' List.Mem.tail _ ?_; k_mem) | (show List.Mem _ _; assumption)
  k_with "unpackItems ref" => (k_here; k_dflt (refine' unpackItemsN_ ?k1zq ?k2zq ?k3zq ?k4zq ?k5zq ?_; (case k1zq => k_asm); (case k2zq => k_asm); (case k3zq => first | (with_reducible assumption) | exact News.isTup (by k_asm) (by k_mem) | exact Fr.tup (by k_asm) (by assumption)); (case k4zq => exact Lv.hh (by assumption)); (case k5zq => exact rfl); k_whole); intro zzhq zzFq zzNq; (try k_sweep))
  k_with "assign Tuple" => (k_here; (with_reducible show wpAny _ _ (assign (PySem.Expr.Tuple _ _ _) _ (Value.ref _)) _ _ _); k_dflt (refine' unpackN_ ?k1zq ?k2zq ?k3zq ?k4zq ?k5zq ?k6zq ?_; (case k1zq => k_asm); (case k2zq => k_asm); (case k3zq => first | (with_reducible assumption) | exact News.isTup (by k_asm) (by k_mem) | exact Fr.tup (by k_asm) (by assumption)); (case k4zq => exact Lv.hh (by assumption)); (case k5zq => exact rfl); (case k6zq => exact rfl); k_whole); intro zzhq zzFq zzNq; (try k_sweep))
  k_with "last exec While" => (k_here; (refine while_stop ?_))
  k_with "call builtin:list.pop" => (k_here; (try dsimp only); k_dflt ( (refine' kl_pop ?Fzq ?Nzq ?ezq ?Uzq ?zzq ?_; (case Fzq => k_asm); (case Nzq => k_asm); (case Uzq => k_upd); (case ezq => exact kl_last_snoc _ _); (case zzq => with_reducible assumption); k_whole; intro zzhq zzFq zzNq)))
  k_with "compareOp In int ref" => (k_here; k_dflt (refine' inD ?Nzq ?mzq ?dzq ?lzq ?_; (case Nzq => k_asm); (case mzq => k_mem); (case dzq => with_reducible assumption); (case lzq => with_reducible assumption); k_whole))
  k_with "subscriptTail" => (k_here; (with_reducible show wpAny _ _ (subscriptTail _ _ (Value.ref _) (Value.int _ _)) _ _ _); k_dflt (first | (refine' itemD ?Nzq ?mzq ?dzq ?vzq ?_ ?szq; (case Nzq => k_asm); (case mzq => k_mem); (case dzq => with_reducible assumption); (case vzq => with_reducible assumption); (case szq => with_unfolding_all rfl); k_whole) | (refine' itemO ?Fzq ?tzq ?azq ?xzq ?zzq ?_ ?szq; (case Fzq => k_asm); (case tzq => with_reducible assumption); (case azq => with_reducible assumption); (case xzq => with_reducible assumption); (case zzq => with_reducible assumption); (case szq => with_unfolding_all rfl); k_whole)))
  k_with "setItem ref int" => (k_here; k_dflt (refine' setD ?Fzq ?Nzq ?Uzq ?dzq ?zzq ?_; (case Fzq => k_asm); (case Nzq => k_asm); (case Uzq => k_updF); (case dzq => with_reducible assumption); (case zzq => with_reducible assumption); k_whole; intro zzhq zzoq zzFq zzNq zzdq; (try dsimp only at zzNq)))
  k_with "call builtin:list.extend" => (k_here; (with_reducible show wpAny _ _ (call (Value.builtin _) [Value.ref _, Value.ref _]) _ _ _); k_dflt (refine' extendK ?Fzq ?Nzq ?bzq ?Uzq ?zzq ?_; (case Fzq => k_asm); (case Nzq => k_asm); (case bzq => k_mem); (case Uzq => k_updF); (case zzq => with_reducible assumption); k_whole; intro zzhq zzcq zzFq zzNq; (try dsimp only at zzNq)))
  k_with "newTuple" => (k_here; k_dflt (refine' kup_newTuple ?Fzq ?Nzq ?_ ?zzq; (case Fzq => k_asm); (case Nzq => k_asm); (case zzq => exact Nat.le_of_ble_eq_true rfl)); intro zzDq zzhq zzFq zzNq zzl1; (try k_lt zzl1); (try k_sweep))
  k_with "exec For Name Call cons nil" => (k_here; (with_reducible rename Fr _ _ _ _ => zzlFq); k_dflt (refine' for_inv zzlFq ?j1zq ?j2zq ?j3zq ?_ ?j4zq; (case j1zq => with_unfolding_all rfl); (case j2zq => with_unfolding_all rfl); (case j3zq => with_unfolding_all rfl); (case j4zq => (intro _; with_unfolding_all rfl)); k_whole))
  k_with "execs cons Assign cons" => (k_here; (with_reducible refine wpAny_execs_cons ?_); (try dsimp only))
  k_with "subscriptTail" => (k_here; (with_reducible show wpAny _ _ (subscriptTail _ (PySem.Expr.Slice none (some _) none _) (Value.ref _) (Value.ref _)) _ _ _); k_dflt (first | (refine' sliceTwoA ?Fzq ?Nzq ?tzq ?_ ?dzq ?ezq; (case Fzq => k_asm); (case Nzq => k_asm); (case tzq => assumption); (case dzq => with_unfolding_all rfl); (case ezq => (intro _; with_unfolding_all rfl)); k_whole; intro zzhq zzFq zzNq) | (refine' sliceTwoB ?Fzq ?Nzq ?tzq ?_ ?dzq ?ezq; (case Fzq => k_asm); (case Nzq => k_asm); (case tzq => assumption); (case dzq => with_unfolding_all rfl); (case ezq => (intro _; with_unfolding_all rfl)); k_whole; intro zzhq zzrq zzFq zzNq zzl1; (try k_lt zzl1))))
  k_with "compareOp Eq ref ref" => (k_here; (with_reducible show wpAny _ _ (compareOp CmpOp.Eq (Value.ref _) (Value.ref _)) _ _ _); k_dflt ( (refine' eqTup2 ?uzq ?tazq ?tbzq ?e1zq ?e2zq ?_; (case uzq => exact Lv.units (by assumption)); (case tazq => first | exact News.isTup (by k_asm) (by k_mem) | exact Fr.tup (by k_asm) (by assumption)); (case tbzq => exact News.isTup (by k_asm) (by k_mem)); (case e1zq => exact SeqAt.EqAt.str_str _ _ _ _); (case e2zq => first | exact SeqAt.EqAt.str_str _ _ _ _ | exact SeqAt.EqAt.int_str _ _ _ _ | exact SeqAt.EqAt.tuple_str _ _ (Fr.tup (by k_asm) (by assumption)) (Lv.units (Lv.in1 (by assumption)))); k_whole)))
  k_with "compareOp In str ref" => (k_here; (with_reducible show wpAny _ _ (compareOp CmpOp.In (Value.str _ _) (Value.ref _)) _ _ _); (with_unfolding_all refine' in_tuple_strs ?k1zq ?k2zq ?_; (case k1zq => exact News.isTup (by k_asm) (List.Mem.head _)); (case k2zq => kde_strs); k_whole); (rename News _ _ _ _ => zzNq; replace zzNq := News.tail' zzNq); (try k_sweep))
  k_with "compareOp NotIn int ref" => (k_here; k_dflt (refine' notInD ?Nzq ?mzq ?dzq ?lzq ?_; (case Nzq => k_asm); (case mzq => k_mem); (case dzq => with_reducible assumption); (case lzq => with_reducible assumption); k_whole))
  k_with "assign Tuple" => (k_here; (with_reducible show wpAny _ _ (assign (PySem.Expr.Tuple _ _ _) _ (Value.ref _)) _ _ _); k_dflt (refine' kun_list ?k1zq ?k2zq ?k3zq ?k4zq ?k5zq ?k6zq ?_; (case k1zq => k_asm); (case k2zq => k_asm); (case k3zq => exact News.isList (by k_asm) (by k_mem)); (case k4zq => exact Lv.hh (by assumption)); (case k5zq => exact rfl); (case k6zq => exact rfl); k_whole); intro zzhq zzFq zzNq; (try k_sweep))
  trivial
theorem lines_C11_1 : True := by
  k_with "getMethod ref" => (k_here; (with_reducible show wpAny _ _ (getMethod (Value.ref _) (PySem.Str.ofString "get") _) _ _ _); k_dflt (refine' methD ?Nzq ?mzq ?dzq ?_; (case Nzq => k_asm); (case mzq => k_mem); (case dzq => with_reducible assumption); k_whole))
  k_with "call builtin:dict.get" => (k_here; (try dsimp only); k_dflt (first | (refine' getD_known ?Nzq ?mzq ?dzq ?lzq ?vzq ?_; (case Nzq => k_asm); (case mzq => k_mem); (case dzq => with_reducible assumption); (case lzq => with_reducible assumption); (case vzq => with_reducible assumption); k_whole) | (refine' getD_none ?Nzq ?mzq ?dzq ?lzq ?vzq ?_; (case Nzq => k_asm); (case mzq => k_mem); (case dzq => with_reducible assumption); (case lzq => with_reducible assumption); (case vzq => with_reducible assumption); k_whole)))
  k_with "call ref" => (k_here; (with_reducible show wpAny _ _ (call (Value.ref _) _) _ _ _); (refine wpAny_call ?_); k_dflt ( (refine' alone_k ?Fzq ?Nzq ?Xzq ?Tzq ?vzq ?ozq ?_; (case Fzq => k_asm); (case Nzq => k_asm); (case Xzq => k_asm); (case Tzq => k_asm); (case vzq => exact Lv.le (by assumption) (by decide)); (case ozq => exact OpAt.keeps (Fr.keep (by k_asm)) (by assumption)); k_whole; intro zzhq zztkq zzbq zzFq zzNq zzebq; (try dsimp only); (try k_fold))))
  k_with "call ref" => (k_here; (with_reducible show wpAny _ _ (call (Value.ref _) _) _ _ _); (refine wpAny_call ?_); k_dflt ( (refine' next_k ?Fzq ?Nzq ?Xzq ?Tzq ?vzq ?ozq ?hzq ?fzq ?lzq ?_ ?_; (case Fzq => k_asm); (case Nzq => k_asm); (case Xzq => k_asm); (case Tzq => k_asm); (case vzq => exact Lv.le (by assumption) (by decide)); (case ozq => exact OpAt.keeps (Fr.keep (by k_asm)) (by assumption)); (case hzq => with_reducible assumption); (case fzq => with_reducible assumption); (case lzq => with_reducible assumption); k_whole)))
  k_with "call builtin:list.pop" => (k_here; (try dsimp only); k_dflt ( (refine' kl_popAt ?Fzq ?Nzq ?fzq ?kzq ?ezq ?Uzq ?zzq ?_; (case Fzq => k_asm); (case Nzq => k_asm); (case Uzq => k_upd); (case fzq => rfl); (case kzq => with_reducible assumption); (case ezq => exact rfl); (case zzq => with_reducible assumption); k_whole; intro zzhq zzFq zzNq)))
  trivial
theorem bcnt_same {l o n : Nat} (h : l + 1 + 5 * (o - n) ≤ 100) : l + 5 * (o - n) ≤ 100 := by omega
theorem bcnt_more {l w o n : Nat} (h : l + 1 + 5 * (o - n) ≤ 100) (hw : w ≤ 4) (hn : n + 1 ≤ o) : l + w + 5 * (o - (n + 1)) ≤ 100 := by omega
theorem blt_more {l w o n : Nat} (hw : w ≤ 4) (hn : n + 1 ≤ o) : l + w + 5 * (o - (n + 1)) < l + 1 + 5 * (o - n) := by omega
theorem bfs_room {l w c : Nat} (h : l + 1 + c ≤ 100) (hw : w ≤ 4) : l + w ≤ 1000 := by omega
section
variable {prog : Program} {w : World} {A : Around} {s : Shared} {R : Result → Shared → Prop} {a c o b : Addr} {as : List Addr} {bs : List Value} {ops : List Op} {begins : List Int}
   {p : Program} {loose : List Str} {mean : ExcName → Option Value} {mg mb : Str → Option Value}
set_option maxHeartbeats 4000000 in
theorem good_c (X : (Mine.hd.heap_1 w.params).In s.heap) (T : Top p loose mean mg mb s.heap) (hv : Lv A 5)
   (hc : CodeAt w.params s.heap c o b as bs ops begins) (hz : ops.length ≤ 10) (hz2 : begins.length ≤ 2) (hl2 : ∀ op ∈ ops, (labels op).length ≤ 2) (hb0 : ∀ y ∈ begins, 0 ≤ y)
   (h : ∀ h' tk v, Ext s.heap h' → (v = true ↔ formsOk ops begins ∧ ∃ K, Clo ops begins K) → R (.ok (.ret (.bool v))) { s with heap := h', toks := tk }) :
   codeAny (model prog w) A (.call (.ref 128) ⟨[.ref c], []⟩) R s := by
  have hc' := hc
  obtain ⟨⟨dx, tq1, tq2, nq, I⟩, hoT, hoE, hbT, hbI⟩ := hc
  have hn1 : (as.map Value.ref).toArray.size = ops.length := by simp [hoE.length]
  have hn2 : bs.toArray.size = begins.length := by simp [hbI.length]
  have hz1' : ops.length < 1000 := by (first | lia | omega)
  have hz2' : begins.length < 1000 := by (first | lia | omega)
  refine' enterC (binds := [(Str.ofString "code", .ref c)]) [] (fun _ h => nomatch h) X ?k5 ?k6 ?k7 ?k8 ?k9 ?kB ?kD ?_ ?c2 ?c3 ?c4
  case k5 => exact T.nolimit
  case k6 => k_dflt k_is
  case k7 => k_dflt k_is
  case k8 => exact hv.room
  case k9 => exact rfl
  case kB => exact kindsX rfl
  case kD => decide +kernel
  case c2 => exact rfl
  case c3 => exact rfl
  case c4 => exact rfl
  intro L h₁ tk cells F N Y
  change Fr s.heap _ _ _ at F
  change News s.heap _ _ _ at N
  k_cells Y
  (try rw [List.append_nil] at N)
  refine hv.gen ?_
  clear hv
  intro A' hv
  try dsimp only
  try k_fold
  k_steps
  (rename Fr _ _ _ _ => Fe; rename News _ _ _ _ => Ne)
  refine pack_tup hv.hh Fe Ne hbT (by rw [hbI.length]; (first | lia | omega)) (fun i acc => (acc.isEmpty = true ↔ ∀ j y, j < i → begins[j]? = some y → y < ops.length)) ⟨fun _ j y hj => absurd hj (Nat.not_lt_zero _), fun _ => rfl⟩ ?_ ?_
  · intro base kb i v acc own h tk m₁ C hi hP hG F5 N5
    obtain ⟨n, t, hn, rfl⟩ := ints_get hbI hP
    have hB := upto_succ (P := fun y => y < (ops.length : Int)) hn
    replace X := X.keeps kb
    replace T := T.keeps kb
    try (replace I := instUp I kb)
    try (replace hoT := hoT.keeps kb)
    try (replace hbT := hbT.keeps kb)
    simp only [List.cons_append, List.nil_append] at N5
    refine wpAny_tests_one ?_
    try dsimp only
    try k_fold
    k_steps
    · (rename Fr _ _ _ _ => Fe; rename News _ _ _ _ => Ne)
      refine PEnd.intro Fe Ne (fun q hq => hq) ?_
      rw [hB]
      exact ⟨fun q => absurd q (by simp), fun q => absurd q.2 (by (first | lia | omega))⟩
    · (rename Fr _ _ _ _ => Fe; rename News _ _ _ _ => Ne)
      refine PEnd.intro Fe Ne (fun q hq => hq) ?_
      rw [hB]
      exact ⟨fun q => ⟨hG.mp q, by (first | lia | omega)⟩, fun q => hG.mpr q.1⟩
  · intro D h' tk c1 acc F5 N5 hd hG
    rw [hbI.length] at hG
    have hG2 := hG.trans (upto_all (P := fun y => y < (ops.length : Int)))
    try dsimp only
    try k_fold
    k_steps
    · (rename Fr _ _ _ _ => Fe; rename News _ _ _ _ => Ne)
      rename acc.isEmpty = true => hq1
      have hbl := hG2.mp hq1
      refine pack_tup (vs := as.map Value.ref) hv.hh Fe Ne hoT (by rw [List.length_map, hoE.length]; (first | lia | omega)) (fun i acc => (acc.isEmpty = true ↔ ∀ j op, j < i → ops[j]? = some op → formOk ops.length begins.length op = true)) ⟨fun _ j y hj => absurd hj (Nat.not_lt_zero _), fun _ => rfl⟩ ?_ ?_
      · intro base kb i v acc own h tk m₁ C hi hP hG F5 N5
        rw [List.getElem?_map] at hP
        obtain ⟨ao, hao, rfl⟩ := Option.map_eq_some_iff.mp hP
        obtain ⟨op, hop, hoa0⟩ := hoE.get' hao
        have hoa := hoa0.keeps kb
        have hB := upto_succ (P := fun op => formOk ops.length begins.length op = true) hop
        replace X := X.keeps kb
        replace T := T.keeps kb
        replace I := instUp I kb
        replace hoT := hoT.keeps kb
        replace hbT := hbT.keeps kb
        simp only [List.cons_append, List.nil_append] at N5
        refine wpAny_tests_one ?_
        try dsimp only
        try k_fold
        k_steps
        · (rename Fr _ _ _ _ => Fe; rename News _ _ _ _ => Ne)
          rename _ = formOk _ _ _ => eb
          have e : formOk ops.length begins.length op = true := by rw [← eb]; assumption
          refine PEnd.intro Fe Ne (fun q hq => hq) ?_
          rw [hB]
          exact ⟨fun q => ⟨hG.mp q, e⟩, fun q => hG.mpr q.1⟩
        · (rename Fr _ _ _ _ => Fe; rename News _ _ _ _ => Ne)
          rename _ = formOk _ _ _ => eb
          have e : formOk ops.length begins.length op = false := by rw [← eb]; assumption
          refine PEnd.intro Fe Ne (fun q hq => hq) ?_
          rw [hB]
          exact ⟨fun q => absurd q (by simp), fun q => by rw [e] at q; exact absurd q.2 (by decide)⟩
      · intro D2 h' tk c2 acc2 F5 N5 hd hG3
        rw [List.length_map, hoE.length] at hG3
        have hG4 := hG3.trans (upto_all (P := fun op => formOk ops.length begins.length op = true))
        try dsimp only
        try k_fold
        k_steps
        · (rename Fr _ _ _ _ => Fe; rename News _ _ _ _ => Ne)
          rename acc2.isEmpty = true => hq2
          have hfo : formsOk ops begins := ⟨fun y hy => by unfold labOk; simp [hb0 y hy, hbl y hy], hG4.mp hq2⟩
          refine grow_tup hv.hh Fe Ne hbT (by rw [hbI.length]; (first | lia | omega)) (fun i acc imm => PairsIn imm acc ((begins.take i).map (fun l => (l, 0)))) .nil ?_ ?_
          · intro base kb i v acc imm own h tk m₁ C hi hP hG F5 N5
            obtain ⟨n, t, hn, rfl⟩ := ints_get hbI hP
            replace X := X.keeps kb
            replace T := T.keeps kb
            simp only [List.cons_append, List.nil_append] at N5
            refine wpAny_tests_nil ?_
            try dsimp only
            try k_fold
            k_steps
            (rename Fr _ _ _ _ => Fe; rename News _ _ _ _ => Ne)
            refine GEnd.intro1 Fe Ne (fun q hq => hq) rfl ?_
            show PairsIn _ _ _
            rw [List.take_add_one, hn, List.map_append]
            exact (hG.mono fun p hp => List.mem_cons_of_mem _ hp).append (.cons (.head _) .nil)
          · intro D3 h' tk c3 acc3 imm F6 N6 hd6 him6 hG6
            rw [hbI.length, List.take_length] at hG6
            try dsimp only
            try k_fold
            simp only [List.cons_append, List.nil_append] at N6
            (have hdi : ∀ p ∈ imm, p.1 ≠ _ := fun p hp => hd6 p (List.mem_append_right _ hp)); (have hd0 := allNe_of (fun p hp => hd6 p (List.mem_append_left imm hp))); (simp only [AllNe, and_true] at hd0); (try clear hd6)
            k_steps
            (rename Fr _ _ _ _ => Fe; rename News _ _ _ _ => Ne)
            have hal : acc3.length ≤ 2 := by
              have := hG6.length
              simp only [List.length_map] at this
              (first | lia | omega)
            refine add_lists (vs := [_]) Fe Ne (News.isList Ne (by repeat (first | exact List.Mem.head _ | refine List.Mem.tail _ ?_))) (News.isList Ne (.head _)) (fun h9 F9 N9 => ?_) (by simp only [List.length_cons, List.length_nil]; exact Nat.le_trans (show 0 + 1 + acc3.length ≤ 10 by (first | lia | omega)) (by decide))
            have hltN := allLt_of fun q hq => Heap.lt_size (Ne q hq).1
            simp only [AllLt, and_true] at hltN
            try dsimp only
            try k_fold
            k_steps
            (rename Fr _ _ _ _ => Fe; rename News _ _ _ _ => Ne)
            rename (_ == sysModules) = false => lo
            rename Obj.IsDictOf (intKind prog w) _ [] => hi0
            rename _ = Data.cell _ => hcell
            unfold WhileHere
            refine bfs_enter (ops := ops) (begins := begins) (imm := _ :: imm) (lp := (0, 0) :: begins.map (fun l => (l, 0))) (vs := [_] ++ acc3) (L + 1) hcell Fe Ne (by repeat (first | exact List.Mem.head _ | refine List.Mem.tail _ ?_)) (by repeat (first | exact List.Mem.head _ | refine List.Mem.tail _ ?_)) (by repeat (first | exact List.Mem.head _ | refine List.Mem.tail _ ?_)) (by
              intro q hq
              rcases List.mem_cons.mp hq with rfl | hq
              · exact (by repeat (first | exact List.Mem.head _ | refine List.Mem.tail _ ?_))
              · exact ((fun q hq => by repeat (first | exact hq | exact List.mem_append_right _ hq | refine List.Mem.tail _ ?_)) : ∀ q ∈ imm, _) q hq) (by rfl) (by rfl) hi0 (by
              intro q hq
              rcases List.mem_cons.mp hq with rfl | hq
              · rfl
              · exact him6 q hq) (.cons (.head _) (hG6.mono fun q hq => .tail _ hq)) ?_ ?_ ?_ hz ?_ ?_ ?_ ?_
            · intro y; simp [starts, or_comm]
            · simp; (first | lia | omega)
            · exact fun y hy => ⟨hb0 y hy, hbl y hy⟩
            · refine neN ?_; (try dsimp only); (first | lia | omega)
            · refine neN ?_; (try dsimp only); (first | lia | omega)
            · intro k hh tk2 u okn cl kvs imm7 kn him7 hdk hkv hinv F7 N7
              k_steps
              (rename Fr _ _ _ _ => Fe; rename News _ _ _ _ => Ne)
              exact h _ _ _ Fe.keep ⟨fun _ => ⟨hfo, (inv_end hinv).mp trivial⟩, fun _ => rfl⟩
            · intro d1 d2 hh tk2 u okn vs0 cl kvs imm7 kn lq pl hg ax tx1 tx2 cx him7 hdk hkv hp0 hax hinv hcnt hpl0 hpln hhg hlen z0 z1 z3 k1 k2 F7 N7
              by_cases hlt : pl < ops.length
              · obtain ⟨op, hop⟩ : ∃ op, ops[pl.toNat]? = some op := ⟨_, List.getElem?_eq_getElem (by (first | lia | omega))⟩
                obtain ⟨ao, hao, hoa⟩ := hoE.get hop
                have hx : (as.map Value.ref)[pl.toNat]? = some (.ref ao) := by rw [List.getElem?_map, hao]; rfl
                have hzo : (as.map Value.ref).length ≤ 1000 := by rw [List.length_map, hoE.length]; (first | lia | omega)
                by_cases hkm : pl ∈ kn.map (·.1)
                · obtain ⟨⟨p2, hk⟩, hkx, hp2⟩ := List.mem_map.mp hkm
                  replace hp2 : p2 = pl := hp2
                  subst hp2
                  obtain ⟨tk9, hva⟩ := hkv.some hinv.kone hkx
                  have hvs : (!(valueAt kvs p2).isSome) = false := by rw [hva]; rfl
                  by_cases heq : hk = hg
                  · subst heq
                    k_steps <;> first
                      | (exfalso; (first | lia | omega))
                      | ((rename Fr _ _ _ _ => Fe; rename News _ _ _ _ => Ne); refine bfs_end Fe Ne (by repeat (first | exact List.Mem.head _ | refine List.Mem.tail _ ?_)) (by repeat (first | exact List.Mem.head _ | refine List.Mem.tail _ ?_)) (by repeat (first | exact List.Mem.head _ | refine List.Mem.tail _ ?_)) (fun q hq => by repeat (first | exact hq | exact List.mem_append_right _ hq | refine List.Mem.tail _ ?_)) (by rfl) (by rfl) him7 hdk hkv hp0 (inv_same hinv hkx) (bcnt_same hcnt) lt_same)
                  · k_steps <;> first
                      | (exfalso; (first | lia | omega))
                      | ((rename Fr _ _ _ _ => Fe; rename News _ _ _ _ => Ne); exact h _ _ _ Fe.keep ⟨fun q => absurd q (by decide), fun q => by obtain ⟨_, K, hK⟩ := q; exact absurd hK (no_clo_other hinv hkx heq K)⟩)
                · have hva := hkv.none hkm
                  have hvs : (!(valueAt kvs pl).isSome) = true := by rw [hva]; rfl
                  have hlf : ∀ y ∈ labels op, 0 ≤ y ∧ y < ops.length := fun y hy => by
                    have := hfo.2 op (List.mem_of_getElem? hop)
                    unfold formOk at this
                    rw [Bool.and_eq_true, List.all_eq_true] at this
                    have := this.1 y hy
                    unfold labOk at this
                    simpa using this
                  have hlf0 : ∀ y ∈ labels op, 0 ≤ y := fun y hy => (hlf y hy).1
                  have hll := hl2 op (List.mem_of_getElem? hop)
                  k_steps
                  · exfalso; (first | lia | omega)
                  · exfalso; (first | lia | omega)
                  · (rename Fr _ _ _ _ => Fe; rename News _ _ _ _ => Ne)
                    rename ¬ okAt _ _ => hok
                    exact h _ _ _ Fe.keep ⟨fun q => absurd q (by decide), fun q => by obtain ⟨_, K, hK⟩ := q; exact absurd hK (no_clo_bad hinv hop hok K)⟩
                  · (rename Fr _ _ _ _ => Fe; rename News _ _ _ _ => Ne)
                    simp only [List.cons_append, List.nil_append] at Ne
                    rename Obj.IsDictOf _ _ (stored _ _ _) => hst; rw [hkv.stored hkm] at hst
                    rename okAt _ _ => hok
                    rename (∀ y : PH, y ∈ _ ↔ y ∈ ways _ _ _) => hwm
                    rename PairsIn _ _ _ => hpw
                    rename TupAll _ => htw
                    rename List.length _ ≤ 4 => hwl
                    rename (∀ q : Addr × Obj, q ∈ (_ : Led) → q.1 ≠ _) => hdw
                    have hinv3 := inv_order (inv_good hinv hkm hlt hop hok hlf) (l' := lq ++ _) (fun y => by simp only [List.mem_append, ← hwm]; exact Iff.rfl)
                    have hkn3 := known_le hinv3
                    have hwv := hpw.length
                    simp only [List.length_append, List.length_singleton] at hkn3
                    have him8 : TupAll (imm7 ++ _) := fun q hq => (List.mem_append.mp hq).elim (him7 q) (htw q)
                    refine bfs_extend (cel := (L + 1, _)) Fe Ne (.head _) (by repeat (first | exact List.Mem.head _ | refine List.Mem.tail _ ?_)) (by repeat (first | exact List.Mem.head _ | refine List.Mem.tail _ ?_)) (by repeat (first | exact List.Mem.head _ | refine List.Mem.tail _ ?_)) (fun q hq => by repeat (first | exact hq | exact List.mem_append_right _ hq | refine List.Mem.tail _ ?_)) him8 d1 d2 (fun e => hdw (_, seqObj "list" vs0.toArray (cl + 1)) (by repeat (first | exact List.Mem.head _ | refine List.Mem.tail _ ?_)) e.symm) (by rw [hlen]; first | exact bfs_room hcnt hwl | exact bfs_room hcnt (hwv ▸ hwl)) ?_
                    intro h' c' F8 N8
                    k_steps
                    (rename Fr _ _ _ _ => Fe; rename News _ _ _ _ => Ne)
                    refine bfs_end Fe Ne (by repeat (first | exact List.Mem.head _ | refine List.Mem.tail _ ?_)) (by repeat (first | exact List.Mem.head _ | refine List.Mem.tail _ ?_)) (by repeat (first | exact List.Mem.head _ | refine List.Mem.tail _ ?_)) (fun q hq => by repeat (first | exact hq | exact List.mem_append_right _ hq | refine List.Mem.tail _ ?_)) (by rfl) (by rfl) him8 hst (hkv.snoc pl hg _) ((hp0.mono fun q hq => List.mem_append_left _ hq).append (hpw.mono fun q hq => List.mem_append_right _ hq)) hinv3 (by simp only [List.length_append, List.length_singleton]; first | exact bcnt_more hcnt hwl hkn3 | exact bcnt_more hcnt (hwv ▸ hwl) hkn3) (by simp only [List.length_append, List.length_singleton]; first | exact blt_more hwl hkn3 | exact blt_more (hwv ▸ hwl) hkn3)
              · k_steps <;> first
                  | (exfalso; (first | lia | omega))
                  | ((rename Fr _ _ _ _ => Fe; rename News _ _ _ _ => Ne); exact h _ _ _ Fe.keep ⟨fun q => absurd q (by decide), fun q => by obtain ⟨_, K, hK⟩ := q; exact absurd hK (no_clo_behind hinv (by dsimp only; (first | lia | omega)) K)⟩)
        · (rename Fr _ _ _ _ => Fe; rename News _ _ _ _ => Ne)
          refine h _ _ _ Fe.keep ⟨fun q => absurd q (by decide), fun q => ?_⟩
          have : acc2.isEmpty = true := hG4.mpr q.1.2
          rename acc2.isEmpty = false => q2
          rw [this] at q2; cases q2
    · (rename Fr _ _ _ _ => Fe; rename News _ _ _ _ => Ne)
      refine h _ _ _ Fe.keep ⟨fun q => absurd q (by decide), fun q => ?_⟩
      have : acc.isEmpty = true := hG2.mpr fun y hy => by
        have := q.1.1 y hy
        unfold labOk at this
        simp at this
        exact this.2
      rename acc.isEmpty = false => q2
      rw [this] at q2; cases q2
end

end

section
theorem base_C12 : True := by
  k_with_none
  w_top off
  k_with "subscriptTail" => (k_here; (with_reducible show wpAny _ _ (subscriptTail _ _ (Value.ref _) (Value.int _ _)) _ _ _); k_dflt ( (refine' itemT ?Fzq ?tzq ?azq ?bzq ?czq ?dzq ?_; (case Fzq => k_asm); (case tzq => assumption); (case azq => decide); (case bzq => decide); (case czq => rfl); (case dzq => rfl); k_whole)))
  k_with "size_fits" => with_reducible assumption
  k_with "k_room" => exact Lv.room (by assumption)
  k_with "k_inst" => exact instUp (by assumption) (Fr.keep (by k_asm))
  k_with "call builtin:len" => (k_here; (with_reducible show wpAny _ _ (call (Value.builtin "len") [Value.ref _]) _ _ _); k_dflt ( (refine' lenT ?Fzq ?tzq ?azq ?bzq ?_; (case Fzq => k_asm); (case tzq => assumption); (case azq => first | assumption | rfl); (case bzq => first | assumption | decide); k_whole)))
  k_with "eval ListComp" => (k_here; (with_reducible rename Fr _ _ _ _ => zzlFq); k_dflt ( (refine' comp_inv zzlFq ?k1zq ?k2zq ?k3zq ?k4zq ?k5zq ?_ ?k6zq; (case k1zq => with_unfolding_all rfl); (case k2zq => decide); (case k3zq => with_unfolding_all rfl); (case k4zq => decide); (case k5zq => with_unfolding_all rfl); (case k6zq => (intro _; with_unfolding_all rfl)); k_whole)))
  k_with "exec Assign cons ListComp" => (k_here; (with_reducible rename Fr _ _ _ _ => zzlFq); k_dflt ( (refine' comp_assign zzlFq ?j1zq ?j2zq ?k1zq ?k2zq ?k3zq ?k4zq ?k5zq ?j3zq ?j4zq ?_ ?k6zq; (case j1zq => with_unfolding_all rfl); (case j2zq => with_unfolding_all rfl); (case j3zq => with_unfolding_all rfl); (case j4zq => with_unfolding_all rfl); (case k1zq => with_unfolding_all rfl); (case k2zq => decide); (case k3zq => with_unfolding_all rfl); (case k4zq => decide); (case k5zq => with_unfolding_all rfl); (case k6zq => (intro _; with_unfolding_all rfl)); k_whole)))
  k_with "compareOp NotEq ref ref" => (k_here; (with_reducible show wpAny _ _ (compareOp CmpOp.NotEq (Value.ref _) (Value.ref _)) _ _ _); k_dflt ( (refine' neNil ?azq ?bzq ?uzq ?_; (case azq => is_list); (case bzq => is_list); (case uzq => exact Lv.units (by assumption)); k_whole)))
  k_with "compareOp Eq ref ref" => (k_here; (with_reducible show wpAny _ _ (compareOp CmpOp.Eq (Value.ref _) (Value.ref _)) _ _ _); k_dflt ( (refine' eqNil ?azq ?bzq ?uzq ?_; (case azq => is_list); (case bzq => is_list); (case uzq => exact Lv.units (by assumption)); k_whole)))
  k_with "compareOp NotIn str ref" => (k_here; k_dflt (refine' topNotIn_K ?Fzq ?Xzq ?lzq ?kzq ?ezq ?ozq ?_; (case Fzq => k_asm); (case Xzq => k_asm); (case lzq => k_is); (case kzq => k_keys); (case ezq => first | with_reducible assumption | k_is); (case ozq => decide)))
  k_with "eval Name" => (k_here; k_inBlock; (with_reducible rename Fr _ _ _ _ => zzkF); k_dflt (first | (refine' nameQ_L zzkF ?azq ?_ ?bzq ?czq ?dzq ?ezq; (case azq => exact rfl); (case bzq => rfl); (case czq => rfl); (case dzq => rfl); (case ezq => decide); k_whole) | (refine' nameQ_F ?Nzq ?azq ?mzq ?dzq ?_ ?czq ?kzq ?xzq ?yzq; (case Nzq => k_asm); (case azq => exact rfl); (case mzq => k_mem); (case dzq => assumption); (case czq => rfl); (case kzq => rfl); (case xzq => decide); (case yzq => decide); k_whole) | (refine' nameQ_B zzkF ?k1zq ?k2zq ?k3zq ?k4zq ?k5zq ?_ ?bzq ?czq ?dzq ?ezq ?fzq; (case bzq => rfl); (case czq => rfl); (case dzq => rfl); (case ezq => rfl); (case fzq => decide); (case k1zq => k_asm); (case k2zq => k_asm); (case k3zq => k_is); (case k4zq => boot_by_name); (case k5zq => decide); k_whole)))
  k_with "subscriptTail" => (k_here; (with_reducible show wpAny _ _ (subscriptTail _ _ (Value.ref _) (Value.int 0 _)) _ _ _); k_dflt ( (refine' itemT0 ?Fzq ?tzq ?_; (case Fzq => k_asm); (case tzq => with_reducible assumption); k_whole)))
  k_with "ite" => (first | with_reducible refine ite_known_t (by assumption) ?_ | with_reducible refine ite_known_f (by assumption) ?_ | with_reducible refine ite_known_t rfl ?_ | with_reducible refine ite_known_f rfl ?_)
  k_with "k_all" => with_reducible assumption
  k_with "k_all" => ((repeat (rename _ ∧ _ => zzhqq; obtain ⟨_, _⟩ := zzhqq)); exact of_allLt (by with_reducible assumption))
  k_with "subscriptTail" => (k_here; (with_reducible show wpAny _ _ (subscriptTail _ _ (Value.ref _) (Value.str _ _)) _ _ _); k_dflt (refine' topItem_K ?Fzq ?Xzq ?lzq ?kzq ?ezq ?_; (case Fzq => k_asm); (case Xzq => k_asm); (case lzq => k_is); (case kzq => k_keys); (case ezq => with_reducible assumption); k_whole))
  k_with "subscriptTail" => (k_here; (with_reducible show wpAny _ _ (subscriptTail _ (PySem.Expr.Slice (some _) none none _) (Value.ref _) (Value.ref _)) _ _ _); k_dflt ( (refine' sliceT (a := 1) ?Fzq ?Nzq ?tzq ?azq ?bzq ?czq ?_ ?dzq ?ezq; (case Fzq => k_asm); (case Nzq => k_asm); (case tzq => assumption); (case azq => decide); (case bzq => exact Nat.le_of_ble_eq_true rfl); (case czq => exact Nat.le_of_ble_eq_true rfl); (case dzq => with_unfolding_all rfl); (case ezq => (intro _; with_unfolding_all rfl)); k_whole; intro zzhq zzrq zzFq zzNq zzl1; (try k_lt zzl1))))
  k_with "k_mem" => first | exact List.Mem.head _ | (refine' List.Mem.tail _ ?_; k_mem) | (show List.Mem _ _; assumption)
  k_with "unpackItems ref" => (k_here; k_dflt (refine' unpackItemsN_ ?k1zq ?k2zq ?k3zq ?k4zq ?k5zq ?_; (case k1zq => k_asm); (case k2zq => k_asm); (case k3zq => first | (with_reducible assumption) | exact News.isTup (by k_asm) (by k_mem) | exact Fr.tup (by k_asm) (by assumption)); (case k4zq => exact Lv.hh (by assumption)); (case k5zq => exact rfl); k_whole); intro zzhq zzFq zzNq; (try k_sweep))
  k_with "assign Tuple" => (k_here; (with_reducible show wpAny _ _ (assign (PySem.Expr.Tuple _ _ _) _ (Value.ref _)) _ _ _); k_dflt (refine' unpackN_ ?k1zq ?k2zq ?k3zq ?k4zq ?k5zq ?k6zq ?_; (case k1zq => k_asm); (case k2zq => k_asm); (case k3zq => first | (with_reducible assumption) | exact News.isTup (by k_asm) (by k_mem) | exact Fr.tup (by k_asm) (by assumption)); (case k4zq => exact Lv.hh (by assumption)); (case k5zq => exact rfl); (case k6zq => exact rfl); k_whole); intro zzhq zzFq zzNq; (try k_sweep))
  k_with "last exec While" => (k_here; (refine while_stop ?_))
  k_with "call builtin:list.pop" => (k_here; (try dsimp only); k_dflt ( (refine' kl_pop ?Fzq ?Nzq ?ezq ?Uzq ?zzq ?_; (case Fzq => k_asm); (case Nzq => k_asm); (case Uzq => k_upd); (case ezq => exact kl_last_snoc _ _); (case zzq => with_reducible assumption); k_whole; intro zzhq zzFq zzNq)))
  k_with "compareOp In int ref" => (k_here; k_dflt (refine' inD ?Nzq ?mzq ?dzq ?lzq ?_; (case Nzq => k_asm); (case mzq => k_mem); (case dzq => with_reducible assumption); (case lzq => with_reducible assumption); k_whole))
  k_with "subscriptTail" => (k_here; (with_reducible show wpAny _ _ (subscriptTail _ _ (Value.ref _) (Value.int _ _)) _ _ _); k_dflt (first | (refine' itemD ?Nzq ?mzq ?dzq ?vzq ?_ ?szq; (case Nzq => k_asm); (case mzq => k_mem); (case dzq => with_reducible assumption); (case vzq => with_reducible assumption); (case szq => with_unfolding_all rfl); k_whole) | (refine' itemO ?Fzq ?tzq ?azq ?xzq ?zzq ?_ ?szq; (case Fzq => k_asm); (case tzq => with_reducible assumption); (case azq => with_reducible assumption); (case xzq => with_reducible assumption); (case zzq => with_reducible assumption); (case szq => with_unfolding_all rfl); k_whole)))
  k_with "setItem ref int" => (k_here; k_dflt (refine' setD ?Fzq ?Nzq ?Uzq ?dzq ?zzq ?_; (case Fzq => k_asm); (case Nzq => k_asm); (case Uzq => k_updF); (case dzq => with_reducible assumption); (case zzq => with_reducible assumption); k_whole; intro zzhq zzoq zzFq zzNq zzdq; (try dsimp only at zzNq)))
  k_with "call builtin:list.extend" => (k_here; (with_reducible show wpAny _ _ (call (Value.builtin _) [Value.ref _, Value.ref _]) _ _ _); k_dflt (refine' extendK ?Fzq ?Nzq ?bzq ?Uzq ?zzq ?_; (case Fzq => k_asm); (case Nzq => k_asm); (case bzq => k_mem); (case Uzq => k_updF); (case zzq => with_reducible assumption); k_whole; intro zzhq zzcq zzFq zzNq; (try dsimp only at zzNq)))
  k_with "newTuple" => (k_here; k_dflt (refine' kup_newTuple ?Fzq ?Nzq ?_ ?zzq; (case Fzq => k_asm); (case Nzq => k_asm); (case zzq => exact Nat.le_of_ble_eq_true rfl)); intro zzDq zzhq zzFq zzNq zzl1; (try k_lt zzl1); (try k_sweep))
  k_with "exec For Name Call cons nil" => (k_here; (with_reducible rename Fr _ _ _ _ => zzlFq); k_dflt (refine' for_inv zzlFq ?j1zq ?j2zq ?j3zq ?_ ?j4zq; (case j1zq => with_unfolding_all rfl); (case j2zq => with_unfolding_all rfl); (case j3zq => with_unfolding_all rfl); (case j4zq => (intro _; with_unfolding_all rfl)); k_whole))
  k_with "execs cons Assign cons" => (k_here; (with_reducible refine wpAny_execs_cons ?_); (try dsimp only))
  k_with "subscriptTail" => (k_here; (with_reducible show wpAny _ _ (subscriptTail _ (PySem.Expr.Slice none (some _) none _) (Value.ref _) (Value.ref _)) _ _ _); k_dflt (first | (refine' sliceTwoA ?Fzq ?Nzq ?tzq ?_ ?dzq ?ezq; (case Fzq => k_asm); (case Nzq => k_asm); (case tzq => assumption); (case dzq => with_unfolding_all rfl); (case ezq => (intro _; with_unfolding_all rfl)); k_whole; intro zzhq zzFq zzNq) | (refine' sliceTwoB ?Fzq ?Nzq ?tzq ?_ ?dzq ?ezq; (case Fzq => k_asm); (case Nzq => k_asm); (case tzq => assumption); (case dzq => with_unfolding_all rfl); (case ezq => (intro _; with_unfolding_all rfl)); k_whole; intro zzhq zzrq zzFq zzNq zzl1; (try k_lt zzl1))))
  k_with "compareOp Eq ref ref" => (k_here; (with_reducible show wpAny _ _ (compareOp CmpOp.Eq (Value.ref _) (Value.ref _)) _ _ _); k_dflt ( (refine' eqTup2 ?uzq ?tazq ?tbzq ?e1zq ?e2zq ?_; (case uzq => exact Lv.units (by assumption)); (case tazq => first | exact News.isTup (by k_asm) (by k_mem) | exact Fr.tup (by k_asm) (by assumption)); (case tbzq => exact News.isTup (by k_asm) (by k_mem)); (case e1zq => exact SeqAt.EqAt.str_str _ _ _ _); (case e2zq => first | exact SeqAt.EqAt.str_str _ _ _ _ | exact SeqAt.EqAt.int_str _ _ _ _ | exact SeqAt.EqAt.tuple_str _ _ (Fr.tup (by k_asm) (by assumption)) (Lv.units (Lv.in1 (by assumption)))); k_whole)))
  k_with "compareOp In str ref" => (k_here; (with_reducible show wpAny _ _ (compareOp CmpOp.In (Value.str _ _) (Value.ref _)) _ _ _); (with_unfolding_all refine' in_tuple_strs ?k1zq ?k2zq ?_; (case k1zq => exact News.isTup (by k_asm) (List.Mem.head _)); (case k2zq => kde_strs); k_whole); (rename News _ _ _ _ => zzNq; replace zzNq := News.tail' zzNq); (try k_sweep))
  k_with "compareOp NotIn int ref" => (k_here; k_dflt (refine' notInD ?Nzq ?mzq ?dzq ?lzq ?_; (case Nzq => k_asm); (case mzq => k_mem); (case dzq => with_reducible assumption); (case lzq => with_reducible assumption); k_whole))
  k_with "assign Tuple" => (k_here; (with_reducible show wpAny _ _ (assign (PySem.Expr.Tuple _ _ _) _ (Value.ref _)) _ _ _); k_dflt (refine' kun_list ?k1zq ?k2zq ?k3zq ?k4zq ?k5zq ?k6zq ?_; (case k1zq => k_asm); (case k2zq => k_asm); (case k3zq => exact News.isList (by k_asm) (by k_mem)); (case k4zq => exact Lv.hh (by assumption)); (case k5zq => exact rfl); (case k6zq => exact rfl); k_whole); intro zzhq zzFq zzNq; (try k_sweep))
  trivial
noncomputable def TpB (a : Int) (n : Nat) : Prop := 0 ≤ a ∧ a + (n : Int) ≤ 1000
theorem TpB.step {a : Int} {n : Nat} (h : TpB a (n + 1)) : TpB (a + 1) n := ⟨by have := h.1; lia, by have := h.2; lia⟩
theorem TpB.to {a : Int} {n m : Nat} (h : TpB a m) (e : n ≤ m) : TpB a n := ⟨h.1, by have := h.2; lia⟩
theorem TpB.less {a : Int} {n k : Nat} (h : TpB a (n + k)) : TpB a n := h.to (Nat.le_add_right _ _)
theorem TpB.hi {a : Int} {n : Nat} (h : TpB a n) : a ≤ 1000 := by have := h.2; lia
theorem TpB.turn1 {a : Int} {n i : Nat} (hi : i < 16) (h : TpB a (n + (16 - i) + 24)) : TpB a (n + (16 - (i + 1)) + 24 + 1) := h.to (by lia)
theorem TpB.turn0 {a : Int} {n i : Nat} (h : TpB a (n + (16 - i) + 24)) : TpB a (n + (16 - (i + 1)) + 24) := h.to (by lia)
theorem one_lt {v many : Int} (h1 : 1 ≤ many) (h : many ≤ 10) (hv : 0 ≤ v ∧ v ≤ 1) : 1 ≤ many + v ∧ many + v ≤ 100 := by lia
theorem len_b {n : Nat} (h1 : 1 ≤ n) (h : n ≤ 16) : (1 : Int) ≤ n ∧ (n : Int) ≤ 100 := by lia
section
variable {prog : Program} {w : World} {A : Around} {s : Shared} {R : Result → Shared → Prop} {tp cl : Addr} {vs : List Value} {ns : List Int}
   {p : Program} {loose : List Str} {mean : ExcName → Option Value} {mg mb : Str → Option Value}
set_option maxHeartbeats 4000000 in
theorem draw_c {g : Heap} {at_ many : Int} {t tm : Tok} {n : Nat} (hM : ∀ q ∈ [(tp, seqObj "list" (List.toArray [.ref cl, .int at_ t]) n)], s.heap.get? q.1 = some q.2) (hg : g = hideAll s.heap [tp])
   (X0 : (Mine.hd.heap_1 w.params).In g) (T0 : Top p loose mean mg mb g) (hv : Lv A 1) (hcl : g.IsList cl vs.toArray) (hi : IntsAre vs ns) (hn1 : 1 ≤ ns.length) (hn2 : ns.length ≤ 60) (ha0 : 0 ≤ at_) (ha1 : at_ ≤ 1000) (hm1 : 1 ≤ many) (hm2 : many ≤ 100)
   (h : ∀ h' tk v tv t' n', (∀ b o, b ≠ tp → s.heap.get? b = some o → h'.get? b = some o) → h'.get? tp = some (seqObj "list" (List.toArray [.ref cl, .int (at_ + 1) t']) n') → 0 ≤ v → v < many → R (.ok (.ret (.int v tv))) { s with heap := h', toks := tk }) :
   codeAny (model prog w) A (.call (.ref 108) ⟨[.ref tp, .int many tm], []⟩) R s := by
  have X := X0.keeps (fun b o e => of_hideAll [tp] (hg ▸ e) : Ext g s.heap)
  have T := T0.keeps (fun b o e => of_hideAll [tp] (hg ▸ e) : Ext g s.heap)
  refine' enterM (binds := [(Str.ofString "tape", .ref tp), (Str.ofString "many", .int many tm)]) [(tp, seqObj "list" (List.toArray [.ref cl, .int at_ t]) n)] hM X ?k5 ?k6 ?k7 ?k8 ?k9 ?kB ?_ ?c2 ?c3 ?c4 ?c5
  case k5 => exact T.nolimit
  case k6 => k_dflt k_is
  case k7 => k_dflt k_is
  case k8 => exact hv.room
  case k9 => exact rfl
  case c5 => decide
  case kB => exact locs rfl
  case c2 => exact rfl
  case c3 => exact rfl
  case c4 => exact rfl
  intro L h₁ F N
  refine hv.gen ?_
  clear hv
  intro A' hv
  clear X T
  try dsimp only
  try k_fold
  rw [show hideAll s.heap ([(tp, seqObj "list" (List.toArray [.ref cl, .int at_ t]) n)].map (·.1)) = g from hg.symm] at F N
  k_steps
  (rename Fr _ _ _ _ => Fe; rename News _ _ _ _ => Ne)
  have hb0 : (0 : Int) < many := by (first | lia | omega)
  exact h _ _ _ _ _ _ (fun b o hb e => Fe.keep b o (by rw [hg]; exact hideAll_get [tp] e (by simpa using hb))) (News.get Ne (by repeat (first | exact List.Mem.head _ | refine List.Mem.tail _ ?_))) (Int.fmod_nonneg_of_pos _ hb0) (Int.fmod_lt_of_pos _ hb0)
end
section
variable {prog : Program} {w : World} {A : Around} {s : Shared} {R : Result → Shared → Prop} {tp cl : Addr} {vs : List Value} {ns : List Int} {h₀ : Heap} {L : Addr} {m : Str → Option Value} {news : Led} {gg : Obj → Led}
   {p : Program} {loose : List Str} {mean : ExcName → Option Value} {mg mb : Str → Option Value}
noncomputable abbrev tapeOf (cl : Addr) (at_ : Int) (t : Tok) (n : Nat) : Obj := seqObj "list" (List.toArray [.ref cl, .int at_ t]) n
theorem upd_tape {h' : Heap} {o o' : Obj} (F : Fr h₀ L s.heap m) (N : News h₀ L s.heap news) (U : UpdF tp o news gg) (k : ∀ b x, b ≠ tp → s.heap.get? b = some x → h'.get? b = some x) (ht : h'.get? tp = some o') :
    Fr h₀ L h' m ∧ News h₀ L h' (gg o') := by
  obtain ⟨pre, post, rfl, hg, a, c⟩ := U.split
  have hm := N (tp, o) (List.mem_append_right _ (.head _))
  refine ⟨⟨F.ns.at' fun x e => k _ x (fun q => hm.2.1 q.symm) e, fun b x e => k b x (fun q => by rw [q, hm.2.2] at e; cases e) (F.keep b x e), F.above⟩, ?_⟩
  rw [hg]
  intro q hq
  rcases List.mem_append.mp hq with hq | hq
  · have z := N q (List.mem_append_left _ hq)
    exact ⟨k _ _ (a q hq) z.1, z.2⟩
  · rcases List.mem_cons.mp hq with rfl | hq
    · exact ⟨ht, hm.2⟩
    · have z := N q (List.mem_append_right _ (.tail _ hq))
      exact ⟨k _ _ (c q hq) z.1, z.2⟩
theorem hide_keeps {o : Obj} (F : Fr h₀ L s.heap m) (N : News h₀ L s.heap news) (hm : (tp, o) ∈ news) : Ext h₀ (hideAll s.heap [tp]) := fun b x e =>
  hideAll_get [tp] (F.keep b x e) (by
    simp only [List.mem_singleton]
    intro q
    rw [q, (N _ hm).2.2] at e; cases e)
theorem draw_k {at_ many : Int} {t tm : Tok} {n bn : Nat} (F : Fr h₀ L s.heap m) (N : News h₀ L s.heap news) (hm : (tp, tapeOf cl at_ t n) ∈ news) (U : UpdF tp (tapeOf cl at_ t n) news gg)
   (X : (Mine.hd.heap_1 w.params).In h₀) (T : Top p loose mean mg mb h₀) (hv : Lv A 1) (hcl : s.heap.IsList cl vs.toArray) (hct : cl ≠ tp) (hi : IntsAre vs ns) (hn1 : 1 ≤ ns.length) (hn2 : ns.length ≤ 60) (hb : TpB at_ (bn + 1)) (hm1 : 1 ≤ many) (hm2 : many ≤ 100)
   (h : ∀ h' tk v tv t' n', Fr h₀ L h' m → News h₀ L h' (gg (tapeOf cl (at_ + 1) t' n')) → h'.IsList cl vs.toArray → 0 ≤ v → v < many → TpB (at_ + 1) bn → R (.ok (.ret (.int v tv))) { s with heap := h', toks := tk }) :
   codeAny (model prog w) A (.call (.ref 108) ⟨[.ref tp, .int many tm], []⟩) R s := by
  have kb := hide_keeps F N hm
  refine draw_c (cl := cl) (fun q hq => by rw [List.mem_singleton.mp hq]; exact (N _ hm).1) rfl (X.keeps kb) (T.keeps kb) hv ?_ hi hn1 hn2 hb.1 hb.hi hm1 hm2 fun h' tk v tv t' n' e1 e2 e3 e4 => ?_
  · obtain ⟨o, ho, r⟩ := hcl
    exact ⟨o, hideAll_get [tp] ho (by simpa using hct), r⟩
  · obtain ⟨F', N'⟩ := upd_tape F N U e1 e2
    obtain ⟨o, ho, r⟩ := hcl
    exact h h' tk v tv t' n' F' N' ⟨o, e1 _ _ hct ho, r⟩ e3 e4 hb.step
end

end

section
theorem base_G15 : True := by
  k_with_none
  w_top off
  k_with "subscriptTail" => (k_here; (with_reducible show wpAny _ _ (subscriptTail _ _ (Value.ref _) (Value.int _ _)) _ _ _); k_dflt ( (refine' itemT ?Fzq ?tzq ?azq ?bzq ?czq ?dzq ?_; (case Fzq => k_asm); (case tzq => assumption); (case azq => decide); (case bzq => decide); (case czq => rfl); (case dzq => rfl); k_whole)))
  k_with "size_fits" => with_reducible assumption
  k_with "k_room" => exact Lv.room (by assumption)
  k_with "k_inst" => exact instUp (by assumption) (Fr.keep (by k_asm))
  k_with "call builtin:len" => (k_here; (with_reducible show wpAny _ _ (call (Value.builtin "len") [Value.ref _]) _ _ _); k_dflt ( (refine' lenT ?Fzq ?tzq ?azq ?bzq ?_; (case Fzq => k_asm); (case tzq => assumption); (case azq => first | assumption | rfl); (case bzq => first | assumption | decide); k_whole)))
  k_with "eval ListComp" => (k_here; (with_reducible rename Fr _ _ _ _ => zzlFq); k_dflt ( (refine' comp_inv zzlFq ?k1zq ?k2zq ?k3zq ?k4zq ?k5zq ?_ ?k6zq; (case k1zq => with_unfolding_all rfl); (case k2zq => decide); (case k3zq => with_unfolding_all rfl); (case k4zq => decide); (case k5zq => with_unfolding_all rfl); (case k6zq => (intro _; with_unfolding_all rfl)); k_whole)))
  k_with "exec Assign cons ListComp" => (k_here; (with_reducible rename Fr _ _ _ _ => zzlFq); k_dflt ( (refine' comp_assign zzlFq ?j1zq ?j2zq ?k1zq ?k2zq ?k3zq ?k4zq ?k5zq ?j3zq ?j4zq ?_ ?k6zq; (case j1zq => with_unfolding_all rfl); (case j2zq => with_unfolding_all rfl); (case j3zq => with_unfolding_all rfl); (case j4zq => with_unfolding_all rfl); (case k1zq => with_unfolding_all rfl); (case k2zq => decide); (case k3zq => with_unfolding_all rfl); (case k4zq => decide); (case k5zq => with_unfolding_all rfl); (case k6zq => (intro _; with_unfolding_all rfl)); k_whole)))
  k_with "compareOp NotEq ref ref" => (k_here; (with_reducible show wpAny _ _ (compareOp CmpOp.NotEq (Value.ref _) (Value.ref _)) _ _ _); k_dflt ( (refine' neNil ?azq ?bzq ?uzq ?_; (case azq => is_list); (case bzq => is_list); (case uzq => exact Lv.units (by assumption)); k_whole)))
  k_with "compareOp Eq ref ref" => (k_here; (with_reducible show wpAny _ _ (compareOp CmpOp.Eq (Value.ref _) (Value.ref _)) _ _ _); k_dflt ( (refine' eqNil ?azq ?bzq ?uzq ?_; (case azq => is_list); (case bzq => is_list); (case uzq => exact Lv.units (by assumption)); k_whole)))
  k_with "compareOp NotIn str ref" => (k_here; k_dflt (refine' topNotIn_K ?Fzq ?Xzq ?lzq ?kzq ?ezq ?ozq ?_; (case Fzq => k_asm); (case Xzq => k_asm); (case lzq => k_is); (case kzq => k_keys); (case ezq => first | with_reducible assumption | k_is); (case ozq => decide)))
  k_with "eval Name" => (k_here; k_inBlock; (with_reducible rename Fr _ _ _ _ => zzkF); k_dflt (first | (refine' nameQ_L zzkF ?azq ?_ ?bzq ?czq ?dzq ?ezq; (case azq => exact rfl); (case bzq => rfl); (case czq => rfl); (case dzq => rfl); (case ezq => decide); k_whole) | (refine' nameQ_F ?Nzq ?azq ?mzq ?dzq ?_ ?czq ?kzq ?xzq ?yzq; (case Nzq => k_asm); (case azq => exact rfl); (case mzq => k_mem); (case dzq => assumption); (case czq => rfl); (case kzq => rfl); (case xzq => decide); (case yzq => decide); k_whole) | (refine' nameQ_B zzkF ?k1zq ?k2zq ?k3zq ?k4zq ?k5zq ?_ ?bzq ?czq ?dzq ?ezq ?fzq; (case bzq => rfl); (case czq => rfl); (case dzq => rfl); (case ezq => rfl); (case fzq => decide); (case k1zq => k_asm); (case k2zq => k_asm); (case k3zq => k_is); (case k4zq => boot_by_name); (case k5zq => decide); k_whole)))
  k_with "subscriptTail" => (k_here; (with_reducible show wpAny _ _ (subscriptTail _ _ (Value.ref _) (Value.int 0 _)) _ _ _); k_dflt ( (refine' itemT0 ?Fzq ?tzq ?_; (case Fzq => k_asm); (case tzq => with_reducible assumption); k_whole)))
  k_with "ite" => (first | with_reducible refine ite_known_t (by assumption) ?_ | with_reducible refine ite_known_f (by assumption) ?_ | with_reducible refine ite_known_t rfl ?_ | with_reducible refine ite_known_f rfl ?_)
  k_with "k_all" => with_reducible assumption
  k_with "k_all" => ((repeat (rename _ ∧ _ => zzhqq; obtain ⟨_, _⟩ := zzhqq)); exact of_allLt (by with_reducible assumption))
  k_with "subscriptTail" => (k_here; (with_reducible show wpAny _ _ (subscriptTail _ _ (Value.ref _) (Value.str _ _)) _ _ _); k_dflt (refine' topItem_K ?Fzq ?Xzq ?lzq ?kzq ?ezq ?_; (case Fzq => k_asm); (case Xzq => k_asm); (case lzq => k_is); (case kzq => k_keys); (case ezq => with_reducible assumption); k_whole))
  k_with "subscriptTail" => (k_here; (with_reducible show wpAny _ _ (subscriptTail _ (PySem.Expr.Slice (some _) none none _) (Value.ref _) (Value.ref _)) _ _ _); k_dflt ( (refine' sliceT (a := 1) ?Fzq ?Nzq ?tzq ?azq ?bzq ?czq ?_ ?dzq ?ezq; (case Fzq => k_asm); (case Nzq => k_asm); (case tzq => assumption); (case azq => decide); (case bzq => exact Nat.le_of_ble_eq_true rfl); (case czq => exact Nat.le_of_ble_eq_true rfl); (case dzq => with_unfolding_all rfl); (case ezq => (intro _; with_unfolding_all rfl)); k_whole; intro zzhq zzrq zzFq zzNq zzl1; (try k_lt zzl1))))
  k_with "k_mem" => first | exact List.Mem.head _ | (refine' List.Mem.tail _ ?_; k_mem) | (show List.Mem _ _; assumption)
  k_with "unpackItems ref" => (k_here; k_dflt (refine' unpackItemsN_ ?k1zq ?k2zq ?k3zq ?k4zq ?k5zq ?_; (case k1zq => k_asm); (case k2zq => k_asm); (case k3zq => first | (with_reducible assumption) | exact News.isTup (by k_asm) (by k_mem) | exact Fr.tup (by k_asm) (by assumption)); (case k4zq => exact Lv.hh (by assumption)); (case k5zq => exact rfl); k_whole); intro zzhq zzFq zzNq; (try k_sweep))
  k_with "assign Tuple" => (k_here; (with_reducible show wpAny _ _ (assign (PySem.Expr.Tuple _ _ _) _ (Value.ref _)) _ _ _); k_dflt (refine' unpackN_ ?k1zq ?k2zq ?k3zq ?k4zq ?k5zq ?k6zq ?_; (case k1zq => k_asm); (case k2zq => k_asm); (case k3zq => first | (with_reducible assumption) | exact News.isTup (by k_asm) (by k_mem) | exact Fr.tup (by k_asm) (by assumption)); (case k4zq => exact Lv.hh (by assumption)); (case k5zq => exact rfl); (case k6zq => exact rfl); k_whole); intro zzhq zzFq zzNq; (try k_sweep))
  k_with "last exec While" => (k_here; (refine while_stop ?_))
  k_with "call builtin:list.pop" => (k_here; (try dsimp only); k_dflt ( (refine' kl_pop ?Fzq ?Nzq ?ezq ?Uzq ?zzq ?_; (case Fzq => k_asm); (case Nzq => k_asm); (case Uzq => k_upd); (case ezq => exact kl_last_snoc _ _); (case zzq => with_reducible assumption); k_whole; intro zzhq zzFq zzNq)))
  k_with "compareOp In int ref" => (k_here; k_dflt (refine' inD ?Nzq ?mzq ?dzq ?lzq ?_; (case Nzq => k_asm); (case mzq => k_mem); (case dzq => with_reducible assumption); (case lzq => with_reducible assumption); k_whole))
  k_with "subscriptTail" => (k_here; (with_reducible show wpAny _ _ (subscriptTail _ _ (Value.ref _) (Value.int _ _)) _ _ _); k_dflt (first | (refine' itemD ?Nzq ?mzq ?dzq ?vzq ?_ ?szq; (case Nzq => k_asm); (case mzq => k_mem); (case dzq => with_reducible assumption); (case vzq => with_reducible assumption); (case szq => with_unfolding_all rfl); k_whole) | (refine' itemO ?Fzq ?tzq ?azq ?xzq ?zzq ?_ ?szq; (case Fzq => k_asm); (case tzq => with_reducible assumption); (case azq => with_reducible assumption); (case xzq => with_reducible assumption); (case zzq => with_reducible assumption); (case szq => with_unfolding_all rfl); k_whole)))
  k_with "setItem ref int" => (k_here; k_dflt (refine' setD ?Fzq ?Nzq ?Uzq ?dzq ?zzq ?_; (case Fzq => k_asm); (case Nzq => k_asm); (case Uzq => k_updF); (case dzq => with_reducible assumption); (case zzq => with_reducible assumption); k_whole; intro zzhq zzoq zzFq zzNq zzdq; (try dsimp only at zzNq)))
  k_with "call builtin:list.extend" => (k_here; (with_reducible show wpAny _ _ (call (Value.builtin _) [Value.ref _, Value.ref _]) _ _ _); k_dflt (refine' extendK ?Fzq ?Nzq ?bzq ?Uzq ?zzq ?_; (case Fzq => k_asm); (case Nzq => k_asm); (case bzq => k_mem); (case Uzq => k_updF); (case zzq => with_reducible assumption); k_whole; intro zzhq zzcq zzFq zzNq; (try dsimp only at zzNq)))
  k_with "newTuple" => (k_here; k_dflt (refine' kup_newTuple ?Fzq ?Nzq ?_ ?zzq; (case Fzq => k_asm); (case Nzq => k_asm); (case zzq => exact Nat.le_of_ble_eq_true rfl)); intro zzDq zzhq zzFq zzNq zzl1; (try k_lt zzl1); (try k_sweep))
  k_with "exec For Name Call cons nil" => (k_here; (with_reducible rename Fr _ _ _ _ => zzlFq); k_dflt (refine' for_inv zzlFq ?j1zq ?j2zq ?j3zq ?_ ?j4zq; (case j1zq => with_unfolding_all rfl); (case j2zq => with_unfolding_all rfl); (case j3zq => with_unfolding_all rfl); (case j4zq => (intro _; with_unfolding_all rfl)); k_whole))
  k_with "execs cons Assign cons" => (k_here; (with_reducible refine wpAny_execs_cons ?_); (try dsimp only))
  k_with "subscriptTail" => (k_here; (with_reducible show wpAny _ _ (subscriptTail _ (PySem.Expr.Slice none (some _) none _) (Value.ref _) (Value.ref _)) _ _ _); k_dflt (first | (refine' sliceTwoA ?Fzq ?Nzq ?tzq ?_ ?dzq ?ezq; (case Fzq => k_asm); (case Nzq => k_asm); (case tzq => assumption); (case dzq => with_unfolding_all rfl); (case ezq => (intro _; with_unfolding_all rfl)); k_whole; intro zzhq zzFq zzNq) | (refine' sliceTwoB ?Fzq ?Nzq ?tzq ?_ ?dzq ?ezq; (case Fzq => k_asm); (case Nzq => k_asm); (case tzq => assumption); (case dzq => with_unfolding_all rfl); (case ezq => (intro _; with_unfolding_all rfl)); k_whole; intro zzhq zzrq zzFq zzNq zzl1; (try k_lt zzl1))))
  k_with "compareOp Eq ref ref" => (k_here; (with_reducible show wpAny _ _ (compareOp CmpOp.Eq (Value.ref _) (Value.ref _)) _ _ _); k_dflt ( (refine' eqTup2 ?uzq ?tazq ?tbzq ?e1zq ?e2zq ?_; (case uzq => exact Lv.units (by assumption)); (case tazq => first | exact News.isTup (by k_asm) (by k_mem) | exact Fr.tup (by k_asm) (by assumption)); (case tbzq => exact News.isTup (by k_asm) (by k_mem)); (case e1zq => exact SeqAt.EqAt.str_str _ _ _ _); (case e2zq => first | exact SeqAt.EqAt.str_str _ _ _ _ | exact SeqAt.EqAt.int_str _ _ _ _ | exact SeqAt.EqAt.tuple_str _ _ (Fr.tup (by k_asm) (by assumption)) (Lv.units (Lv.in1 (by assumption)))); k_whole)))
  k_with "compareOp In str ref" => (k_here; (with_reducible show wpAny _ _ (compareOp CmpOp.In (Value.str _ _) (Value.ref _)) _ _ _); (with_unfolding_all refine' in_tuple_strs ?k1zq ?k2zq ?_; (case k1zq => exact News.isTup (by k_asm) (List.Mem.head _)); (case k2zq => kde_strs); k_whole); (rename News _ _ _ _ => zzNq; replace zzNq := News.tail' zzNq); (try k_sweep))
  k_with "compareOp NotIn int ref" => (k_here; k_dflt (refine' notInD ?Nzq ?mzq ?dzq ?lzq ?_; (case Nzq => k_asm); (case mzq => k_mem); (case dzq => with_reducible assumption); (case lzq => with_reducible assumption); k_whole))
  k_with "assign Tuple" => (k_here; (with_reducible show wpAny _ _ (assign (PySem.Expr.Tuple _ _ _) _ (Value.ref _)) _ _ _); k_dflt (refine' kun_list ?k1zq ?k2zq ?k3zq ?k4zq ?k5zq ?k6zq ?_; (case k1zq => k_asm); (case k2zq => k_asm); (case k3zq => exact News.isList (by k_asm) (by k_mem)); (case k4zq => exact Lv.hh (by assumption)); (case k5zq => exact rfl); (case k6zq => exact rfl); k_whole); intro zzhq zzFq zzNq; (try k_sweep))
  trivial
/-- a turn of a comprehension that reads the tape -/
noncomputable def TEnd (base : Heap) (C tp cl : Addr) (gg : Obj → Led) (own : Led) (s : Shared) (g : Int → Prop) (s₄ : Shared) : Prop :=
  ∃ h' tk m' at_ t n, s₄ = { s with heap := h', toks := tk } ∧ Fr base C h' m' ∧ News base C h' (gg (tapeOf cl at_ t n) ++ own) ∧ g at_
theorem TEnd.intro {base : Heap} {C tp cl : Addr} {gg : Obj → Led} {own news' : Led} {s : Shared} {g : Int → Prop} {h' : Heap} {tk : Nat} {m' : Str → Option Value} (at_ : Int) (t : Tok) (n : Nat) (F : Fr base C h' m') (N : News base C h' news') (hs : ∀ p ∈ gg (tapeOf cl at_ t n) ++ own, p ∈ news') (hg : g at_) :
    TEnd base C tp cl gg own s g { s with heap := h', toks := tk } := ⟨h', tk, m', at_, t, n, rfl, F, fun p hp => N p (hs p hp), hg⟩
section
variable {prog : Program} {w : World} {A : Around} {env : Env} {s : Shared} {h₀ : Heap} {L tp cl : Addr} {m m' : Str → Option Value} {news : Led} {gg : Obj → Led}
  {scope : Scope} {cls : List (Str × Addr)} {x : Str} {ifs : List PySem.Expr} {elt : PySem.Expr} {y : Option Str} {Q : Addr → Shared → Prop}
noncomputable def TTurn (prog : Program) (w : World) (A : Around) (env : Env) (scope : Scope) (cls : List (Str × Addr)) (x : Str) (ifs : List PySem.Expr) (elt : PySem.Expr) (h₀ : Heap) (s : Shared) (tp cl : Addr) (gg : Obj → Led) (n : Nat) (P : Nat → Value → Prop) (G : Nat → List Value → Int → Prop) : Prop :=
  ∀ base, Ext h₀ base → ∀ i v acc at_ t k (own : Led) (h : Heap) (tk : Nat) (m₁ : Str → Option Value) (C : Addr), i < n → P i v → G i acc at_ → (∀ q ∈ own, q.1 ≠ tp) → Fr base C h (fun y => if y = x then some v else m₁ y) → News base C h (gg (tapeOf cl at_ t k) ++ own) →
    wpAny (model prog w) A (forIn ifs true fun c r => if r = true then do let ok ← isTrue c (compEnvC scope cls C env) (eval c (compEnvC scope cls C env)); pure (ForInStep.yield ok) else pure (ForInStep.yield r))
      (fun ok s₃ => if ok = true then wpAny (model prog w) A (eval elt (compEnvC scope cls C env)) (fun y s₄ => TEnd base C tp cl gg own s (G (i + 1) (acc ++ [y])) s₄) (fun _ _ => False) s₃ else TEnd base C tp cl gg own s (G (i + 1) acc) s₃)
      (fun _ _ => False) { s with heap := h, toks := tk }
theorem upd_mem {o : Obj} (U : UpdF tp o news gg) (o' : Obj) : (tp, o') ∈ gg o' := by
  obtain ⟨pre, post, _, hg, _, _⟩ := U.split
  rw [hg]; exact List.mem_append_right _ (.head _)
theorem upd_keys {o : Obj} (U : UpdF tp o news gg) (o₁ o₂ : Obj) : ∀ q ∈ gg o₁, q.1 ∈ (gg o₂).map (·.1) := by
  obtain ⟨pre, post, _, hg, _, _⟩ := U.split
  intro q hq
  rw [hg] at hq ⊢
  rcases List.mem_append.mp hq with hq | hq
  · exact List.mem_map_of_mem (List.mem_append_left _ hq)
  · rcases List.mem_cons.mp hq with rfl | hq
    · exact List.mem_map.mpr ⟨_, List.mem_append_right _ (.head _), rfl⟩
    · exact List.mem_map_of_mem (List.mem_append_right _ (.tail _ hq))
theorem upd_self {o : Obj} (U : UpdF tp o news gg) : gg o = news := by
  obtain ⟨pre, post, e, hg, _, _⟩ := U.split
  rw [hg, e]
theorem pack_tape {xv : Value} {I : Addr} {h₂ : Heap} {xs : Led} {n k₀ : Nat} {at₀ : Int} {t₀ : Tok} {P : Nat → Value → Prop} {St : Nat → Heap → Prop} (F : Fr h₀ L s.heap m) (N : News h₀ L s.heap news) (U : UpdF tp (tapeOf cl at₀ t₀ k₀) news gg) (IT : Iter prog w A s xv I h₂ xs n P St) (hsz : n ≤ 1000)
    (hax : ∀ p ∈ xs, h₀.get? p.1 = some p.2) (G : Nat → List Value → Int → Prop) (hG : G 0 [] at₀) (turn : TTurn prog w A env scope cls x ifs elt h₀ s tp cl gg n P G)
    (done : ∀ D h' tk c acc at_ t k, Fr h₀ L h' (match y with | none => m | some y => fun z => if z = y then some (.ref D) else m z) → News h₀ L h' ((D, seqObj "list" acc.toArray c) :: gg (tapeOf cl at_ t k)) → (∀ p ∈ gg (tapeOf cl at_ t k), p.1 ≠ D) → G n acc at_ → Q D { s with heap := h', toks := tk }) :
    CompPack prog w A env scope cls x ifs elt h₀ L m m' y Q xv s := by
  refine ⟨news, I, h₂, xs, n, P, St, fun i acc led => ∃ at_ t k, led = gg (tapeOf cl at_ t k) ∧ G i acc at_, F, N, IT, Nat.le_trans hsz (by decide), ⟨at₀, t₀, k₀, (upd_self U).symm, hG⟩, fun p hp => .inl (base_keeps F N _ _ (hax p hp)), ?_, ?_⟩
  · rintro i v acc led own h tk m₁ C hi hP ⟨at_, t, k, rfl, hg⟩ hoff F' N'
    have fin : ∀ (g : List Value) (s₄ : Shared), TEnd (hideAll s.heap (news.map (·.1))) C tp cl gg own s (G (i + 1) g) s₄ → CEnd (hideAll s.heap (news.map (·.1))) C (fun l => ∃ at_ t k, l = gg (tapeOf cl at_ t k) ∧ G (i + 1) g at_) (gg (tapeOf cl at_ t k)) own s s₄ := by
      rintro g s₄ ⟨h', tk', m', at2, t2, n2, rfl, F5, N5, hg⟩
      exact ⟨h', tk', m', _, rfl, F5, N5, fun p hp => .inl (upd_keys U _ _ p hp), at2, t2, n2, rfl, hg⟩
    refine wpAny_mono (turn _ (base_keeps F N) i v acc at_ t k own h tk m₁ C hi hP hg (fun q hq e => hoff _ (upd_mem U _) q hq e.symm) F' N') (fun ok s₃ h₃ => ?_) fun _ _ f => f
    cases ok with
    | false => exact fin _ _ h₃
    | true => exact wpAny_mono h₃ (fun y s₄ h₄ => fin _ _ h₄) fun _ _ f => f
  · rintro D h' tk c acc led F' N' hd ⟨at_, t, k, rfl, hg⟩
    exact done D h' tk c acc at_ t k F' N' hd hg
theorem tape_tup {r : Addr} {vs : List Value} {k₀ : Nat} {at₀ : Int} {t₀ : Tok} (hh : A.handled = none) (F : Fr h₀ L s.heap m) (N : News h₀ L s.heap news) (U : UpdF tp (tapeOf cl at₀ t₀ k₀) news gg) (hm : IsTup h₀ r vs.toArray) (hsz : vs.length ≤ 1000)
    (G : Nat → List Value → Int → Prop) (hG : G 0 [] at₀) (turn : TTurn prog w A env scope cls x ifs elt h₀ s tp cl gg vs.length (fun i v => vs[i]? = some v) G)
    (done : ∀ D h' tk c acc at_ t k, Fr h₀ L h' (match y with | none => m | some y => fun z => if z = y then some (.ref D) else m z) → News h₀ L h' ((D, seqObj "list" acc.toArray c) :: gg (tapeOf cl at_ t k)) → (∀ p ∈ gg (tapeOf cl at_ t k), p.1 ≠ D) → G vs.length acc at_ → Q D { s with heap := h', toks := tk }) :
    CompPack prog w A env scope cls x ifs elt h₀ L m m' y Q (.ref r) s := by
  obtain ⟨I, h₂, o, St, eo, IT⟩ := iter_tuple (prog := prog) (w := w) hh (hm.keeps F.keep)
  obtain ⟨o', ho', _⟩ := hm
  rw [F.keep _ _ ho'] at eo
  cases eo
  have e : vs.toArray.size = vs.length := by simp
  rw [e] at IT
  refine pack_tape F N U IT hsz (fun p hp => by rw [List.mem_singleton.mp hp]; exact ho') G hG (fun base kb i v acc at_ t k own h tk m₁ C hi hP => ?_) done
  exact turn base kb i v acc at_ t k own h tk m₁ C hi (by simpa using hP)
theorem tape_range {r : Addr} {t u v : Tok} {n k₀ : Nat} {at₀ : Int} {t₀ : Tok} (hh : A.handled = none) (F : Fr h₀ L s.heap m) (N : News h₀ L s.heap news) (U : UpdF tp (tapeOf cl at₀ t₀ k₀) news gg) (hr : IsRange s.heap r 0 n 1 t u v) (hsz : n ≤ 1000)
    (G : Nat → List Value → Int → Prop) (hG : G 0 [] at₀) (turn : TTurn prog w A env scope cls x ifs elt h₀ s tp cl gg n (fun i v => ∃ t, v = .int (0 + i * 1) t) G)
    (done : ∀ D h' tk c acc at_ t k, Fr h₀ L h' (match y with | none => m | some y => fun z => if z = y then some (.ref D) else m z) → News h₀ L h' ((D, seqObj "list" acc.toArray c) :: gg (tapeOf cl at_ t k)) → (∀ p ∈ gg (tapeOf cl at_ t k), p.1 ≠ D) → G n acc at_ → Q D { s with heap := h', toks := tk }) :
    CompPack prog w A env scope cls x ifs elt h₀ L m m' y Q (.ref r) s := by
  obtain ⟨I, h₂, St, IT⟩ := iter_range (prog := prog) (w := w) hh hr hsz
  exact pack_tape F N U IT hsz (fun p hp => nomatch hp) G hG turn done
end

end

section
theorem base_C13 : True := by
  k_with_none
  w_top off
  k_with "subscriptTail" => (k_here; (with_reducible show wpAny _ _ (subscriptTail _ _ (Value.ref _) (Value.int _ _)) _ _ _); k_dflt ( (refine' itemT ?Fzq ?tzq ?azq ?bzq ?czq ?dzq ?_; (case Fzq => k_asm); (case tzq => assumption); (case azq => decide); (case bzq => decide); (case czq => rfl); (case dzq => rfl); k_whole)))
  k_with "size_fits" => with_reducible assumption
  k_with "k_room" => exact Lv.room (by assumption)
  k_with "k_inst" => exact instUp (by assumption) (Fr.keep (by k_asm))
  k_with "call builtin:len" => (k_here; (with_reducible show wpAny _ _ (call (Value.builtin "len") [Value.ref _]) _ _ _); k_dflt ( (refine' lenT ?Fzq ?tzq ?azq ?bzq ?_; (case Fzq => k_asm); (case tzq => assumption); (case azq => first | assumption | rfl); (case bzq => first | assumption | decide); k_whole)))
  k_with "eval ListComp" => (k_here; (with_reducible rename Fr _ _ _ _ => zzlFq); k_dflt ( (refine' comp_inv zzlFq ?k1zq ?k2zq ?k3zq ?k4zq ?k5zq ?_ ?k6zq; (case k1zq => with_unfolding_all rfl); (case k2zq => decide); (case k3zq => with_unfolding_all rfl); (case k4zq => decide); (case k5zq => with_unfolding_all rfl); (case k6zq => (intro _; with_unfolding_all rfl)); k_whole)))
  k_with "exec Assign cons ListComp" => (k_here; (with_reducible rename Fr _ _ _ _ => zzlFq); k_dflt ( (refine' comp_assign zzlFq ?j1zq ?j2zq ?k1zq ?k2zq ?k3zq ?k4zq ?k5zq ?j3zq ?j4zq ?_ ?k6zq; (case j1zq => with_unfolding_all rfl); (case j2zq => with_unfolding_all rfl); (case j3zq => with_unfolding_all rfl); (case j4zq => with_unfolding_all rfl); (case k1zq => with_unfolding_all rfl); (case k2zq => decide); (case k3zq => with_unfolding_all rfl); (case k4zq => decide); (case k5zq => with_unfolding_all rfl); (case k6zq => (intro _; with_unfolding_all rfl)); k_whole)))
  k_with "compareOp NotEq ref ref" => (k_here; (with_reducible show wpAny _ _ (compareOp CmpOp.NotEq (Value.ref _) (Value.ref _)) _ _ _); k_dflt ( (refine' neNil ?azq ?bzq ?uzq ?_; (case azq => is_list); (case bzq => is_list); (case uzq => exact Lv.units (by assumption)); k_whole)))
  k_with "compareOp Eq ref ref" => (k_here; (with_reducible show wpAny _ _ (compareOp CmpOp.Eq (Value.ref _) (Value.ref _)) _ _ _); k_dflt ( (refine' eqNil ?azq ?bzq ?uzq ?_; (case azq => is_list); (case bzq => is_list); (case uzq => exact Lv.units (by assumption)); k_whole)))
  k_with "compareOp NotIn str ref" => (k_here; k_dflt (refine' topNotIn_K ?Fzq ?Xzq ?lzq ?kzq ?ezq ?ozq ?_; (case Fzq => k_asm); (case Xzq => k_asm); (case lzq => k_is); (case kzq => k_keys); (case ezq => first | with_reducible assumption | k_is); (case ozq => decide)))
  k_with "eval Name" => (k_here; k_inBlock; (with_reducible rename Fr _ _ _ _ => zzkF); k_dflt (first | (refine' nameQ_L zzkF ?azq ?_ ?bzq ?czq ?dzq ?ezq; (case azq => exact rfl); (case bzq => rfl); (case czq => rfl); (case dzq => rfl); (case ezq => decide); k_whole) | (refine' nameQ_F ?Nzq ?azq ?mzq ?dzq ?_ ?czq ?kzq ?xzq ?yzq; (case Nzq => k_asm); (case azq => exact rfl); (case mzq => k_mem); (case dzq => assumption); (case czq => rfl); (case kzq => rfl); (case xzq => decide); (case yzq => decide); k_whole) | (refine' nameQ_B zzkF ?k1zq ?k2zq ?k3zq ?k4zq ?k5zq ?_ ?bzq ?czq ?dzq ?ezq ?fzq; (case bzq => rfl); (case czq => rfl); (case dzq => rfl); (case ezq => rfl); (case fzq => decide); (case k1zq => k_asm); (case k2zq => k_asm); (case k3zq => k_is); (case k4zq => boot_by_name); (case k5zq => decide); k_whole)))
  k_with "subscriptTail" => (k_here; (with_reducible show wpAny _ _ (subscriptTail _ _ (Value.ref _) (Value.int 0 _)) _ _ _); k_dflt ( (refine' itemT0 ?Fzq ?tzq ?_; (case Fzq => k_asm); (case tzq => with_reducible assumption); k_whole)))
  k_with "ite" => (first | with_reducible refine ite_known_t (by assumption) ?_ | with_reducible refine ite_known_f (by assumption) ?_ | with_reducible refine ite_known_t rfl ?_ | with_reducible refine ite_known_f rfl ?_)
  k_with "k_all" => with_reducible assumption
  k_with "k_all" => ((repeat (rename _ ∧ _ => zzhqq; obtain ⟨_, _⟩ := zzhqq)); exact of_allLt (by with_reducible assumption))
  k_with "subscriptTail" => (k_here; (with_reducible show wpAny _ _ (subscriptTail _ _ (Value.ref _) (Value.str _ _)) _ _ _); k_dflt (refine' topItem_K ?Fzq ?Xzq ?lzq ?kzq ?ezq ?_; (case Fzq => k_asm); (case Xzq => k_asm); (case lzq => k_is); (case kzq => k_keys); (case ezq => with_reducible assumption); k_whole))
  k_with "subscriptTail" => (k_here; (with_reducible show wpAny _ _ (subscriptTail _ (PySem.Expr.Slice (some _) none none _) (Value.ref _) (Value.ref _)) _ _ _); k_dflt ( (refine' sliceT (a := 1) ?Fzq ?Nzq ?tzq ?azq ?bzq ?czq ?_ ?dzq ?ezq; (case Fzq => k_asm); (case Nzq => k_asm); (case tzq => assumption); (case azq => decide); (case bzq => exact Nat.le_of_ble_eq_true rfl); (case czq => exact Nat.le_of_ble_eq_true rfl); (case dzq => with_unfolding_all rfl); (case ezq => (intro _; with_unfolding_all rfl)); k_whole; intro zzhq zzrq zzFq zzNq zzl1; (try k_lt zzl1))))
  k_with "k_mem" => first | exact List.Mem.head _ | (refine' List.Mem.tail _ ?_; k_mem) | (show List.Mem _ _; assumption)
  k_with "unpackItems ref" => (k_here; k_dflt (refine' unpackItemsN_ ?k1zq ?k2zq ?k3zq ?k4zq ?k5zq ?_; (case k1zq => k_asm); (case k2zq => k_asm); (case k3zq => first | (with_reducible assumption) | exact News.isTup (by k_asm) (by k_mem) | exact Fr.tup (by k_asm) (by assumption)); (case k4zq => exact Lv.hh (by assumption)); (case k5zq => exact rfl); k_whole); intro zzhq zzFq zzNq; (try k_sweep))
  k_with "assign Tuple" => (k_here; (with_reducible show wpAny _ _ (assign (PySem.Expr.Tuple _ _ _) _ (Value.ref _)) _ _ _); k_dflt (refine' unpackN_ ?k1zq ?k2zq ?k3zq ?k4zq ?k5zq ?k6zq ?_; (case k1zq => k_asm); (case k2zq => k_asm); (case k3zq => first | (with_reducible assumption) | exact News.isTup (by k_asm) (by k_mem) | exact Fr.tup (by k_asm) (by assumption)); (case k4zq => exact Lv.hh (by assumption)); (case k5zq => exact rfl); (case k6zq => exact rfl); k_whole); intro zzhq zzFq zzNq; (try k_sweep))
  k_with "last exec While" => (k_here; (refine while_stop ?_))
  k_with "call builtin:list.pop" => (k_here; (try dsimp only); k_dflt ( (refine' kl_pop ?Fzq ?Nzq ?ezq ?Uzq ?zzq ?_; (case Fzq => k_asm); (case Nzq => k_asm); (case Uzq => k_upd); (case ezq => exact kl_last_snoc _ _); (case zzq => with_reducible assumption); k_whole; intro zzhq zzFq zzNq)))
  k_with "compareOp In int ref" => (k_here; k_dflt (refine' inD ?Nzq ?mzq ?dzq ?lzq ?_; (case Nzq => k_asm); (case mzq => k_mem); (case dzq => with_reducible assumption); (case lzq => with_reducible assumption); k_whole))
  k_with "subscriptTail" => (k_here; (with_reducible show wpAny _ _ (subscriptTail _ _ (Value.ref _) (Value.int _ _)) _ _ _); k_dflt (first | (refine' itemD ?Nzq ?mzq ?dzq ?vzq ?_ ?szq; (case Nzq => k_asm); (case mzq => k_mem); (case dzq => with_reducible assumption); (case vzq => with_reducible assumption); (case szq => with_unfolding_all rfl); k_whole) | (refine' itemO ?Fzq ?tzq ?azq ?xzq ?zzq ?_ ?szq; (case Fzq => k_asm); (case tzq => with_reducible assumption); (case azq => with_reducible assumption); (case xzq => with_reducible assumption); (case zzq => with_reducible assumption); (case szq => with_unfolding_all rfl); k_whole)))
  k_with "setItem ref int" => (k_here; k_dflt (refine' setD ?Fzq ?Nzq ?Uzq ?dzq ?zzq ?_; (case Fzq => k_asm); (case Nzq => k_asm); (case Uzq => k_updF); (case dzq => with_reducible assumption); (case zzq => with_reducible assumption); k_whole; intro zzhq zzoq zzFq zzNq zzdq; (try dsimp only at zzNq)))
  k_with "call builtin:list.extend" => (k_here; (with_reducible show wpAny _ _ (call (Value.builtin _) [Value.ref _, Value.ref _]) _ _ _); k_dflt (refine' extendK ?Fzq ?Nzq ?bzq ?Uzq ?zzq ?_; (case Fzq => k_asm); (case Nzq => k_asm); (case bzq => k_mem); (case Uzq => k_updF); (case zzq => with_reducible assumption); k_whole; intro zzhq zzcq zzFq zzNq; (try dsimp only at zzNq)))
  k_with "newTuple" => (k_here; k_dflt (refine' kup_newTuple ?Fzq ?Nzq ?_ ?zzq; (case Fzq => k_asm); (case Nzq => k_asm); (case zzq => exact Nat.le_of_ble_eq_true rfl)); intro zzDq zzhq zzFq zzNq zzl1; (try k_lt zzl1); (try k_sweep))
  k_with "exec For Name Call cons nil" => (k_here; (with_reducible rename Fr _ _ _ _ => zzlFq); k_dflt (refine' for_inv zzlFq ?j1zq ?j2zq ?j3zq ?_ ?j4zq; (case j1zq => with_unfolding_all rfl); (case j2zq => with_unfolding_all rfl); (case j3zq => with_unfolding_all rfl); (case j4zq => (intro _; with_unfolding_all rfl)); k_whole))
  k_with "execs cons Assign cons" => (k_here; (with_reducible refine wpAny_execs_cons ?_); (try dsimp only))
  k_with "subscriptTail" => (k_here; (with_reducible show wpAny _ _ (subscriptTail _ (PySem.Expr.Slice none (some _) none _) (Value.ref _) (Value.ref _)) _ _ _); k_dflt (first | (refine' sliceTwoA ?Fzq ?Nzq ?tzq ?_ ?dzq ?ezq; (case Fzq => k_asm); (case Nzq => k_asm); (case tzq => assumption); (case dzq => with_unfolding_all rfl); (case ezq => (intro _; with_unfolding_all rfl)); k_whole; intro zzhq zzFq zzNq) | (refine' sliceTwoB ?Fzq ?Nzq ?tzq ?_ ?dzq ?ezq; (case Fzq => k_asm); (case Nzq => k_asm); (case tzq => assumption); (case dzq => with_unfolding_all rfl); (case ezq => (intro _; with_unfolding_all rfl)); k_whole; intro zzhq zzrq zzFq zzNq zzl1; (try k_lt zzl1))))
  k_with "compareOp Eq ref ref" => (k_here; (with_reducible show wpAny _ _ (compareOp CmpOp.Eq (Value.ref _) (Value.ref _)) _ _ _); k_dflt ( (refine' eqTup2 ?uzq ?tazq ?tbzq ?e1zq ?e2zq ?_; (case uzq => exact Lv.units (by assumption)); (case tazq => first | exact News.isTup (by k_asm) (by k_mem) | exact Fr.tup (by k_asm) (by assumption)); (case tbzq => exact News.isTup (by k_asm) (by k_mem)); (case e1zq => exact SeqAt.EqAt.str_str _ _ _ _); (case e2zq => first | exact SeqAt.EqAt.str_str _ _ _ _ | exact SeqAt.EqAt.int_str _ _ _ _ | exact SeqAt.EqAt.tuple_str _ _ (Fr.tup (by k_asm) (by assumption)) (Lv.units (Lv.in1 (by assumption)))); k_whole)))
  k_with "compareOp In str ref" => (k_here; (with_reducible show wpAny _ _ (compareOp CmpOp.In (Value.str _ _) (Value.ref _)) _ _ _); (with_unfolding_all refine' in_tuple_strs ?k1zq ?k2zq ?_; (case k1zq => exact News.isTup (by k_asm) (List.Mem.head _)); (case k2zq => kde_strs); k_whole); (rename News _ _ _ _ => zzNq; replace zzNq := News.tail' zzNq); (try k_sweep))
  k_with "compareOp NotIn int ref" => (k_here; k_dflt (refine' notInD ?Nzq ?mzq ?dzq ?lzq ?_; (case Nzq => k_asm); (case mzq => k_mem); (case dzq => with_reducible assumption); (case lzq => with_reducible assumption); k_whole))
  k_with "assign Tuple" => (k_here; (with_reducible show wpAny _ _ (assign (PySem.Expr.Tuple _ _ _) _ (Value.ref _)) _ _ _); k_dflt (refine' kun_list ?k1zq ?k2zq ?k3zq ?k4zq ?k5zq ?k6zq ?_; (case k1zq => k_asm); (case k2zq => k_asm); (case k3zq => exact News.isList (by k_asm) (by k_mem)); (case k4zq => exact Lv.hh (by assumption)); (case k5zq => exact rfl); (case k6zq => exact rfl); k_whole); intro zzhq zzFq zzNq; (try k_sweep))
  trivial
theorem lines_C13_1 : True := by
  k_with "call ref" => (k_here; (with_reducible show wpAny _ _ (call (Value.ref _) _) _ _ _); (refine wpAny_call ?_); k_dflt ( (refine' takes_k ?Fzq ?Nzq ?Xzq ?Tzq ?vzq ?_; (case Fzq => k_asm); (case Nzq => k_asm); (case Xzq => k_asm); (case Tzq => k_asm); (case vzq => exact Lv.le (by assumption) (by decide)); k_whole; intro zzhq zztkq zzrq zzoq zzt1q zzt2q zzt3q zzt4q zzFq zzNq zzl1 zzhdq zzloq; (try (replace zzl1 := allNe_of zzl1; simp only [AllNe, and_true] at zzl1)); (try dsimp only); (try k_fold))))
  k_with "call ref" => (k_here; (with_reducible show wpAny _ _ (call (Value.ref _) _) _ _ _); (refine wpAny_call ?_); k_dflt ( (refine' draw_k ?Fzq ?Nzq ?mzq ?Uzq ?Xzq ?Tzq ?vzq ?clzq ?ctzq ?izq ?n1zq ?n2zq ?bzq ?m1zq ?m2zq ?_; (case Fzq => k_asm); (case Nzq => k_asm); (case mzq => k_mem); (case Uzq => k_updF); (case Xzq => k_asm); (case Tzq => k_asm); (case vzq => exact Lv.le (by assumption) (by decide)); (case clzq => exact Fr.lst (by k_asm) (by assumption)); (case ctzq => assumption); (case izq => assumption); (case n1zq => assumption); (case n2zq => assumption); (case bzq => assumption); (case m1zq => first | decide | exact (one_lt (by assumption) (by assumption) (by assumption)).1 | exact (len_b (by assumption) (by assumption)).1); (case m2zq => first | decide | exact (one_lt (by assumption) (by assumption) (by assumption)).2 | exact (len_b (by assumption) (by assumption)).2); k_whole; intro zzhq zztkq zzvq zztvq zztq zznq zzFq zzNq _ zzloq zzhiq zzhbq; (try dsimp only at zzNq); (try dsimp only); (try k_fold))))
  k_with "getMethod ref" => (k_here; (with_reducible show wpAny _ _ (getMethod (Value.ref _) (PySem.Str.ofString "get") _) _ _ _); k_dflt (refine' methD ?Nzq ?mzq ?dzq ?_; (case Nzq => k_asm); (case mzq => k_mem); (case dzq => with_reducible assumption); k_whole))
  k_with "call builtin:dict.get" => (k_here; (try dsimp only); k_dflt (refine' getT ?Nzq ?mzq ?dzq ?lzq ?_; (case Nzq => k_asm); (case mzq => k_mem); (case dzq => with_reducible assumption); (case lzq => with_reducible assumption); k_whole; intro zztq))
  trivial
noncomputable def lawWords : List Str := [Str.ofString "push", Str.ofString "calc", Str.ofString "put", Str.ofString "do", Str.ofString "key", Str.ofString "test", Str.ofString "jump", Str.ofString "choose", Str.ofString "perform", Str.ofString "leave", Str.ofString "count", Str.ofString "less", Str.ofString "stop", Str.ofString "none"]
noncomputable def WordsIn (acc : List Value) : Prop := ∀ v ∈ acc, ∃ x t, v = .str x t ∧ x ∈ lawWords
noncomputable def mOp (D : Addr) (many : Int) (tm : Tok) (u : Str → Option Value) : Str → Option Value := fun y => if y = Str.ofString "some" then some (.ref D) else if y = Str.ofString "many" then some (.int many tm) else u y
theorem mOp_of {D : Addr} {many : Int} {tm : Tok} {m : Str → Option Value} (h2 : m (Str.ofString "some") = some (.ref D)) (h4 : m (Str.ofString "many") = some (.int many tm)) : m = mOp D many tm m := by
  funext y
  unfold mOp
  split
  · rename_i e; rw [e, h2]
  · split
    · rename_i e; rw [e, h4]
    · rfl
theorem mOp_fr {g h : Heap} {L D : Addr} {many : Int} {tm : Tok} {m : Str → Option Value} (F : Fr g L h m) (h2 : m (Str.ofString "some") = some (.ref D)) (h4 : m (Str.ofString "many") = some (.int many tm)) : Fr g L h (mOp D many tm m) := by
  rw [← mOp_of h2 h4]; exact F
theorem len_snoc {α : Type} {acc : List α} {x : α} {i : Nat} (h : acc.length ≤ i) : (acc ++ [x]).length ≤ i + 1 := by rw [List.length_append, List.length_singleton]; exact Nat.succ_le_succ h
theorem pos_snoc {α : Type} {acc : List α} {x : α} : 1 ≤ (acc ++ [x]).length := by rw [List.length_append, List.length_singleton]; exact Nat.succ_le_succ (Nat.zero_le _)
noncomputable def OpMid (g : Heap) (L tp cl : Addr) (cells : Led) (many : Int) (tm : Tok) (bn : Nat) (s : Shared) (f : Flow) (s' : Shared) : Prop :=
  f = .next ∧ ∃ (h' : Heap) (tk : Nat) (D : Addr) (acc : List Value) (c : Nat) (at2 : Int) (t2 : Tok) (k2 : Nat) (u : Str → Option Value), s' = { s with heap := h', toks := tk } ∧ Fr g L h' (mOp D many tm u) ∧
    News g L h' ((D, seqObj "list" acc.toArray c) :: (cells ++ [(tp, tapeOf cl at2 t2 k2)])) ∧ AllNe D (cells ++ [(tp, tapeOf cl at2 t2 k2)]) ∧ WordsIn acc ∧ 1 ≤ acc.length ∧ acc.length ≤ 16 ∧ TpB at2 (bn + 20)
theorem words_snoc {acc : List Value} {x : Str} {t : Tok} (h : WordsIn acc) (hx : x ∈ lawWords) : WordsIn (acc ++ [.str x t]) := fun v hv => by
  rcases List.mem_append.mp hv with hv | hv
  · exact h v hv
  · rw [List.mem_singleton.mp hv]; exact ⟨_, _, rfl, hx⟩
theorem push_snoc {acc : List Value} {x : Str} {t : Tok} {i : Nat} (h : 1 ≤ i → ∃ t, Value.str (Str.ofString "push") t ∈ acc) (hx : i = 0 → x = Str.ofString "push") : ∃ t', Value.str (Str.ofString "push") t' ∈ acc ++ [.str x t] := by
  rcases Nat.eq_zero_or_pos i with h0 | h0
  · exact ⟨t, by rw [hx h0]; exact List.mem_append_right _ (.head _)⟩
  · obtain ⟨t', e⟩ := h h0
    exact ⟨t', List.mem_append_left _ e⟩
section
variable {prog : Program} {w : World} {A : Around} {E : Value → Shared → Prop} {s : Shared} {h₀ : Heap} {L D : Addr} {news : Led}
theorem fdiv_in {v k n m : Int} (hv : v < n) (h0 : 0 ≤ v) (hk : 0 < k) (hm : n ≤ k * (m + 1)) : 0 ≤ v.fdiv k ∧ v.fdiv k ≤ m := by
  rw [Int.fdiv_eq_ediv_of_nonneg _ (Int.le_of_lt hk)]
  refine ⟨Int.ediv_nonneg h0 (Int.le_of_lt hk), ?_⟩
  have : v / k < m + 1 := Int.ediv_lt_of_lt_mul hk (by rw [Int.mul_comm]; (first | lia | omega))
  (first | lia | omega)
theorem fdiv19 {v : Int} (hv : v < 20) (h0 : 0 ≤ v) : 0 ≤ v.fdiv 19 ∧ v.fdiv 19 ≤ 1 := fdiv_in hv h0 (by decide) (by decide)
theorem range_nat {h : Heap} {r : Addr} {v : Int} {t u x : Tok} (hr : IsRange h r 0 v 1 t u x) (h3 : v < 3) (h0 : 0 ≤ v) : ∃ n : Nat, n ≤ 2 ∧ IsRange h r 0 n 1 t u x :=
  ⟨v.toNat, by (first | lia | omega), by rw [Int.toNat_of_nonneg h0]; exact hr⟩
theorem lab_of {x : Str} (h : ([Str.ofString "put", Str.ofString "key", Str.ofString "test", Str.ofString "less"].any fun y => y == x) = true) : ∃ k : LK, x = k.str := by
  simp only [List.any_cons, List.any_nil, Bool.or_false, Bool.or_eq_true, beq_iff_eq] at h
  rcases h with h | h | h | h
  · exact ⟨.put, h.symm⟩
  · exact ⟨.key, h.symm⟩
  · exact ⟨.test, h.symm⟩
  · exact ⟨.less, h.symm⟩
theorem plain_of {x : Str} (hx : x ∈ lawWords) (h1 : (x == Str.ofString "push") = false) (h2 : (x == Str.ofString "calc") = false) (h3 : ([Str.ofString "put", Str.ofString "key", Str.ofString "test", Str.ofString "less"].any fun y => y == x) = false)
    (h4 : (x == Str.ofString "choose") = false) (h5 : (x == Str.ofString "perform") = false) (h6 : (x == Str.ofString "jump") = false) (h7 : (x == Str.ofString "leave") = false) (h8 : (x == Str.ofString "stop") = false) : ∃ k : PK, x = k.str := by
  simp only [lawWords, List.mem_cons, List.not_mem_nil, or_false] at hx
  rcases hx with rfl | rfl | rfl | rfl | rfl | rfl | rfl | rfl | rfl | rfl | rfl | rfl | rfl | rfl
  · exact absurd h1 (by decide)
  · exact absurd h2 (by decide)
  · exact absurd h3 (by decide)
  · exact ⟨.do_, rfl⟩
  · exact absurd h3 (by decide)
  · exact absurd h3 (by decide)
  · exact absurd h6 (by decide)
  · exact absurd h4 (by decide)
  · exact absurd h5 (by decide)
  · exact absurd h7 (by decide)
  · exact ⟨.count, rfl⟩
  · exact absurd h3 (by decide)
  · exact absurd h8 (by decide)
  · exact ⟨.none_, rfl⟩
theorem lab_le {l : Int} : (if l = -1 then ([] : List Int) else [l]).length ≤ 2 := by split <;> simp
/-- an op, by what a ledger holds -/
noncomputable def EqNeg (imm : Led) (y : Value) : Prop := ∀ (A : Around) (s : Shared) (t : Tok), A.units < cLine → (∀ q ∈ imm, s.heap.get? q.1 = some q.2) → ∃ b, SeqAt.EqAt A s y (.str (Str.ofString "neg") t) b
noncomputable def OpIn (imm : Led) (a : Addr) (op : Op) : Prop := (∃ t0 y rest n, (a, seqObj "tuple" (Value.str op.word t0 :: y :: rest).toArray n) ∈ imm ∧ rest.length ≤ 1 ∧ EqNeg imm y) ∧ ∀ h : Heap, (∀ q ∈ imm, h.get? q.1 = some q.2) → OpAt h a op
theorem neg_str {imm : Led} (x : Str) (u : Tok) : EqNeg imm (.str x u) := fun _ _ _ _ _ => ⟨_, SeqAt.EqAt.str_str _ _ _ _⟩
theorem neg_int {imm : Led} (x : Int) (u : Tok) : EqNeg imm (.int x u) := fun _ _ _ _ _ => ⟨_, SeqAt.EqAt.int_str _ _ _ _⟩
theorem neg_tup {imm : Led} {r : Addr} {items : Array Value} {n : Nat} (h : (r, seqObj "tuple" items n) ∈ imm) : EqNeg imm (.ref r) := fun _ _ _ hu H => ⟨_, SeqAt.EqAt.tuple_str _ _ ⟨_, H _ h, rfl, _, rfl⟩ hu⟩
theorem opIn_of {imm : Led} {a : Addr} {w : Str} {t0 : Tok} {y : Value} {rest : List Value} {n : Nat} {op : Op} (hm : (a, seqObj "tuple" (Value.str w t0 :: y :: rest).toArray n) ∈ imm) (hw : w = op.word) (hr : rest.length ≤ 1) (he : EqNeg imm y) (hop : ∀ h : Heap, (∀ q ∈ imm, h.get? q.1 = some q.2) → OpAt h a op) : OpIn imm a op :=
  ⟨⟨t0, y, rest, n, hw ▸ hm, hr, he⟩, hop⟩
theorem tup_is {h : Heap} {a : Addr} {o : Obj} {items : Array Value} {n : Nat} (e : h.get? a = some o) (ho : o = { cls := .type "tuple", data := .seq items n }) : IsTup h a items := ⟨o, e, by rw [ho], n, by rw [ho]⟩
theorem op_fin {tp cl : Addr} {g h' : Heap} {m : Str → Option Value} {a : Addr} {at' : Int} {t' : Tok} {n' tk bn : Nat} {R : Result → Shared → Prop} (op : Op) (imm : Led)
    (h : ∀ h' tk a op at' t' n' imm, (∀ b o, b ≠ tp → s.heap.get? b = some o → h'.get? b = some o) → h'.get? tp = some (tapeOf cl at' t' n') → TpB at' bn → TupAll imm → NewAt s.heap h' imm → OpIn imm a op → (labels op).length ≤ 2 → R (.ok (.ret (.ref a))) { s with heap := h', toks := tk })
    (hg : g = hideAll s.heap [tp]) (Fe : Fr g L h' m) (Ne : News g L h' news) (ht : (tp, tapeOf cl at' t' n') ∈ news) (ha : ∀ q ∈ imm, q ∈ news) (hc : TupAll imm) (e1 : TpB at' bn) (hop : OpIn imm a op) (hl : (labels op).length ≤ 2) :
    R (.ok (.ret (.ref a))) { s with heap := h', toks := tk } := by
  refine h h' tk a op at' t' n' imm (fun b o hb e => Fe.keep b o (by rw [hg]; exact hideAll_get [tp] e (by simpa using hb))) (News.get Ne ht) e1 hc (fun q hq => ?_) hop hl
  have h1 := News.get Ne (ha q hq)
  have h2 := News.get Ne ht
  refine ⟨h1, ?_⟩
  have hat : q.1 ≠ tp := by
    intro e
    rw [e, h2] at h1
    injection h1 with h1
    have := hc q hq
    rw [← h1] at this
    exact absurd this (by simp)
  cases e : s.heap.get? q.1 with
  | none => rfl
  | some o =>
    have h3 := (Ne _ (ha q hq)).2.2
    rw [hg, hideAll_get [tp] e (by simpa using hat)] at h3
    cases h3
theorem one_tup {a : Addr} {o : Obj} (h : o.cls = .type "tuple") : TupAll [(a, o)] := fun q hq => by rw [List.mem_singleton.mp hq]; exact h
theorem one_in {a : Addr} {o : Obj} (h : (a, o) ∈ news) : ∀ q ∈ [(a, o)], q ∈ news := fun q hq => by rw [List.mem_singleton.mp hq]; exact h
theorem two_tup {a b : Addr} {o o2 : Obj} (h : o.cls = .type "tuple") (h2 : o2.cls = .type "tuple") : TupAll [(a, o), (b, o2)] := fun q hq => by
  rcases List.mem_cons.mp hq with rfl | hq
  · exact h
  · rw [List.mem_singleton.mp hq]; exact h2
theorem two_in {a b : Addr} {o o2 : Obj} (h : (a, o) ∈ news) (h2 : (b, o2) ∈ news) : ∀ q ∈ [(a, o), (b, o2)], q ∈ news := fun q hq => by
  rcases List.mem_cons.mp hq with rfl | hq
  · exact h
  · rw [List.mem_singleton.mp hq]; exact h2
theorem choose_mid {led : Led} {a b : Addr} {t0 : Tok} {n n2 : Nat} {vs : List Value} {ls : List Int} (h1 : (a, seqObj "tuple" (List.toArray [.str (Str.ofString "choose") t0, .ref b]) n) ∈ led) (h2 : (b, seqObj "tuple" vs.toArray n2) ∈ led) (hi : IntsAre vs ls) (hz : vs.toArray.size ≤ 40) :
    ∃ imm : Led, (∀ q ∈ imm, q ∈ led) ∧ TupAll imm ∧ OpIn imm a (.choose ls) :=
  ⟨[(a, seqObj "tuple" (List.toArray [.str (Str.ofString "choose") t0, .ref b]) n), (b, seqObj "tuple" vs.toArray n2)], two_in h1 h2, two_tup rfl rfl, opIn_of (List.Mem.head _) rfl (Nat.le_of_ble_eq_true rfl) (neg_tup (List.Mem.tail _ (List.Mem.head _)))
    fun _ H => ⟨t0, b, vs, ⟨_, H _ (List.Mem.head _), rfl, _, rfl⟩, ⟨_, H _ (List.Mem.tail _ (List.Mem.head _)), rfl, _, rfl⟩, hi, hz⟩⟩
theorem choose_fin {tp cl : Addr} {g h' : Heap} {m : Str → Option Value} {a b : Addr} {at' : Int} {t' t0 : Tok} {n' tk n n2 bn : Nat} {R : Result → Shared → Prop} {vs : List Value} {ls : List Int}
    (h : ∀ h' tk a op at' t' n' imm, (∀ b o, b ≠ tp → s.heap.get? b = some o → h'.get? b = some o) → h'.get? tp = some (tapeOf cl at' t' n') → TpB at' bn → TupAll imm → NewAt s.heap h' imm → OpIn imm a op → (labels op).length ≤ 2 → R (.ok (.ret (.ref a))) { s with heap := h', toks := tk })
    (hg : g = hideAll s.heap [tp]) (Fe : Fr g L h' m) (Ne : News g L h' news) (ht : (tp, tapeOf cl at' t' n') ∈ news) (h1 : (a, seqObj "tuple" (List.toArray [.str (Str.ofString "choose") t0, .ref b]) n) ∈ news) (h2 : (b, seqObj "tuple" vs.toArray n2) ∈ news)
    (hi : IntsAre vs ls) (hz : vs.toArray.size ≤ 40) (e1 : TpB at' bn) (hl : ls.length ≤ 2) :
    R (.ok (.ret (.ref a))) { s with heap := h', toks := tk } := by
  obtain ⟨imm, i1, i2, i3⟩ := choose_mid h1 h2 hi hz
  exact op_fin (.choose ls) imm h hg Fe Ne ht i1 i2 e1 i3 hl
theorem lenW {acc : List Value} {c : Nat} {Q : Value → Shared → Prop} (N : News h₀ L s.heap news) (hp : (D, seqObj "list" acc.toArray c) ∈ news) (hz : acc.length ≤ 16) (h : Q (.int (acc.length : Int) (s.toks + 1)) { s with toks := s.toks + 1 + 1 }) :
    wpAny (model prog w) A (call (.builtin "len") [.ref D]) Q E s :=
  kun_lenL (k := (acc.length : Int)) (News.isList N hp) (by simp) (by (first | lia | omega)) h
theorem itemSG {value slice : PySem.Expr} {i : Int} {u t1 t2 t3 t4 t5 : Tok} {n : Nat} {Q : Value → Shared → Prop} (N : News h₀ L s.heap news) (hp : (D, seqObj "tuple" (List.toArray [.str (Str.ofString "+") t1, .str (Str.ofString "neg") t2, .str (Str.ofString "**") t3, .str (Str.ofString "-") t4, .str (Str.ofString "x") t5]) n) ∈ news) (hb : 0 ≤ i ∧ i ≤ 4)
    (h : ∀ (g : SG) t, Q (.str g.str t) s)
    (hs : subscripted slice false (.ref D) (.int i u) = operate [.ref D, .int i u] (getItem (.ref D) (.int i u)) := by with_unfolding_all rfl) :
    wpAny (model prog w) A (subscriptTail value slice (.ref D) (.int i u)) Q E s := by
  obtain ⟨k, rfl⟩ := Int.eq_ofNat_of_zero_le hb.1
  have hk : k ≤ 4 := by have := hb.2; lia
  match k, hk with
  | 0, _ => exact item_tupleT (News.isTup N hp) (by decide) (by decide) (j := 0) rfl rfl (h .plus _) hs
  | 1, _ => exact item_tupleT (News.isTup N hp) (by decide) (by decide) (j := 1) rfl rfl (h .neg _) hs
  | 2, _ => exact item_tupleT (News.isTup N hp) (by decide) (by decide) (j := 2) rfl rfl (h .pow _) hs
  | 3, _ => exact item_tupleT (News.isTup N hp) (by decide) (by decide) (j := 3) rfl rfl (h .minus _) hs
  | 4, _ => exact item_tupleT (News.isTup N hp) (by decide) (by decide) (j := 4) rfl rfl (h .bad _) hs
theorem itemEN {value slice : PySem.Expr} {i : Int} {u t1 t2 t3 t4 : Tok} {n : Nat} {Q : Value → Shared → Prop} (N : News h₀ L s.heap news) (hp : (D, seqObj "tuple" (List.toArray [.str (Str.ofString "end") t1, .str (Str.ofString "stop") t2, .str (Str.ofString "exit") t3, .str (Str.ofString "halt") t4]) n) ∈ news) (hb : 0 ≤ i ∧ i ≤ 3)
    (h : ∀ (g : EN) t, Q (.str g.str t) s)
    (hs : subscripted slice false (.ref D) (.int i u) = operate [.ref D, .int i u] (getItem (.ref D) (.int i u)) := by with_unfolding_all rfl) :
    wpAny (model prog w) A (subscriptTail value slice (.ref D) (.int i u)) Q E s := by
  obtain ⟨k, rfl⟩ := Int.eq_ofNat_of_zero_le hb.1
  have hk : k ≤ 3 := by have := hb.2; lia
  match k, hk with
  | 0, _ => exact item_tupleT (News.isTup N hp) (by decide) (by decide) (j := 0) rfl rfl (h .end_ _) hs
  | 1, _ => exact item_tupleT (News.isTup N hp) (by decide) (by decide) (j := 1) rfl rfl (h .stop _) hs
  | 2, _ => exact item_tupleT (News.isTup N hp) (by decide) (by decide) (j := 2) rfl rfl (h .exit _) hs
  | 3, _ => exact item_tupleT (News.isTup N hp) (by decide) (by decide) (j := 3) rfl rfl (h .halt _) hs
theorem itemW {value slice : PySem.Expr} {acc : List Value} {c : Nat} {i : Int} {u : Tok} {Q : Value → Shared → Prop} (N : News h₀ L s.heap news) (hp : (D, seqObj "list" acc.toArray c) ∈ news) (hw : WordsIn acc) (h0 : 0 ≤ i) (h1 : i < (acc.length : Int)) (hz : acc.length ≤ 16)
    (h : ∀ x t, x ∈ lawWords → Q (.str x t) s)
    (hs : subscripted slice false (.ref D) (.int i u) = operate [.ref D, .int i u] (getItem (.ref D) (.int i u)) := by with_unfolding_all rfl) :
    wpAny (model prog w) A (subscriptTail value slice (.ref D) (.int i u)) Q E s := by
  have hlt : i.toNat < acc.length := by (first | lia | omega)
  obtain ⟨x, t, e, hx⟩ := hw _ (List.getElem_mem hlt)
  have hl := News.isList N hp
  exact tail_any hl.typeIs slot_list_getitem.lookup (wpAny_getItem_list hl h0 (by (first | lia | omega)) (x := .str x t) (by simp [List.getElem?_eq_getElem hlt, e]) (h x t hx)) hs
end
theorem lines_C13_2 : True := by
  k_with "call builtin:len" => (k_here; (with_reducible show wpAny _ _ (call (Value.builtin "len") [Value.ref _]) _ _ _); k_dflt (refine' lenW ?Nzq ?mzq ?zzq ?_; (case Nzq => k_asm); (case mzq => k_mem); (case zzq => with_reducible assumption); k_whole))
  k_with "subscriptTail" => (k_here; (with_reducible show wpAny _ _ (subscriptTail _ _ (Value.ref _) (Value.int _ _)) _ _ _); k_dflt (refine' itemW ?Nzq ?mzq ?wzq ?azq ?bzq ?zzq ?_ ?szq; (case Nzq => k_asm); (case mzq => k_mem); (case wzq => with_reducible assumption); (case azq => with_reducible assumption); (case bzq => with_reducible assumption); (case zzq => with_reducible assumption); (case szq => with_unfolding_all rfl); k_whole; intro zzx9 zzt9 zzhx9))
  k_with "subscriptTail Tuple cons" => (k_here; k_dflt (first | (refine' itemSG ?Nzq ?mzq ?bzq ?_ ?szq; (case Nzq => k_asm); (case mzq => k_mem); (case bzq => exact fdiv_in (by assumption) (by assumption) (by decide) (by decide)); (case szq => with_unfolding_all rfl); k_whole; intro zzg9 zzt9) | (refine' itemEN ?Nzq ?mzq ?bzq ?_ ?szq; (case Nzq => k_asm); (case mzq => k_mem); (case bzq => exact fdiv_in (by assumption) (by assumption) (by decide) (by decide)); (case szq => with_unfolding_all rfl); k_whole; intro zzg9 zzt9)))
  trivial
section
variable {prog : Program} {w : World} {A : Around} {s : Shared} {R : Result → Shared → Prop} {tp cl : Addr} {vs : List Value} {ns : List Int}
   {p : Program} {loose : List Str} {mean : ExcName → Option Value} {mg mb : Str → Option Value}
set_option maxHeartbeats 4000000 in
theorem op_c {g : Heap} {at_ many hgt : Int} {t tm th : Tok} {n bn : Nat} (hM : ∀ q ∈ [(tp, tapeOf cl at_ t n)], s.heap.get? q.1 = some q.2) (hg : g = hideAll s.heap [tp])
   (X0 : (Mine.hd.heap_1 w.params).In g) (T0 : Top p loose mean mg mb g) (hv : Lv A 3) (hcl : g.IsList cl vs.toArray) (hi : IntsAre vs ns) (hn1 : 1 ≤ ns.length) (hn2 : ns.length ≤ 60) (hb : TpB at_ (bn + 40)) (hm1 : 1 ≤ many) (hm2 : many ≤ 10) (hh0 : 0 ≤ hgt)
   (h : ∀ h' tk a op at' t' n' imm, (∀ b o, b ≠ tp → s.heap.get? b = some o → h'.get? b = some o) → h'.get? tp = some (tapeOf cl at' t' n') → TpB at' bn → TupAll imm → NewAt s.heap h' imm → OpIn imm a op → (labels op).length ≤ 2 → R (.ok (.ret (.ref a))) { s with heap := h', toks := tk }) :
   codeAny (model prog w) A (.call (.ref 113) ⟨[.ref tp, .int many tm, .int hgt th], []⟩) R s := by
  have X := X0.keeps (fun b o e => of_hideAll [tp] (hg ▸ e) : Ext g s.heap)
  have T := T0.keeps (fun b o e => of_hideAll [tp] (hg ▸ e) : Ext g s.heap)
  have htp : tp < s.heap.objs.size := Heap.lt_size (hM _ (.head _))
  refine' enterC (binds := [(Str.ofString "tape", .ref tp), (Str.ofString "many", .int many tm), (Str.ofString "height", .int hgt th)]) [(tp, tapeOf cl at_ t n)] hM X ?k5 ?k6 ?k7 ?k8 ?k9 ?kB ?kD ?_ ?c2 ?c3 ?c4
  case k5 => exact T.nolimit
  case k6 => k_dflt k_is
  case k7 => k_dflt k_is
  case k8 => exact hv.room
  case k9 => exact rfl
  case kB => exact kindsX rfl
  case kD => decide +kernel
  case c2 => exact rfl
  case c3 => exact rfl
  case c4 => exact rfl
  intro L h₁ tk cells F N Y
  obtain ⟨oc1, oc2, oc3, hcE, dc1, dc2, dc3⟩ := CellsAre.three Y
  subst hcE
  (try simp only [List.cons_append, List.nil_append] at N)
  refine hv.gen ?_
  clear hv
  intro A' hv
  clear X T
  try dsimp only
  try k_fold
  rw [show hideAll s.heap ([(tp, tapeOf cl at_ t n)].map (·.1)) = g from hg.symm] at F N
  k_steps
  (rename Fr _ _ _ _ => Fe; rename News _ _ _ _ => Ne)
  have hwT := tupK (a := 94) X0 (by k_dflt k_is)
  have hct : cl ≠ tp := by
    rintro rfl
    obtain ⟨o, ho, _⟩ := hcl
    rw [hg, hideAll_none [cl] (.head _)] at ho; cases ho
  have d0 : @LT.lt Nat _ tp L := Nat.lt_of_lt_of_le htp (by have := Fe.above; rw [hg, hideAll_size] at this; exact this)
  refine tape_tup (tp := tp) (cl := cl) (at₀ := at_) (t₀ := t) (k₀ := n) hv.hh Fe Ne (by k_updF) hwT (Nat.le_of_ble_eq_true rfl) (fun i acc at' => TpB at' (bn + (16 - i) + 24) ∧ acc.length ≤ i ∧ WordsIn acc ∧ (1 ≤ i → ∃ t, Value.str (Str.ofString "push") t ∈ acc)) ⟨hb, Nat.le_refl _, (fun _ h => nomatch h), fun q => absurd q (by decide)⟩ ?_ ?_
  · intro base kb i v acc at1 t1 k1 own h9 tk9 m₁ C hi9 hP hG hown F5 N5
    obtain ⟨x, tx, rfl, hxw, hx0⟩ : ∃ x tx, v = .str x tx ∧ x ∈ lawWords ∧ (i = 0 → x = Str.ofString "push") := by
      cases i with
      | zero => simp at hP; subst hP; exact ⟨_, _, rfl, by decide, fun _ => rfl⟩
      | succ i =>
        have := List.mem_of_getElem? hP
        simp only [List.mem_cons, List.not_mem_nil, or_false] at this
        rcases this with rfl | rfl | rfl | rfl | rfl | rfl | rfl | rfl | rfl | rfl | rfl | rfl | rfl | rfl | rfl | rfl <;> exact ⟨_, _, rfl, by decide, fun q => absurd q (Nat.succ_ne_zero _)⟩
    obtain ⟨g1, g3, g4, g5⟩ := hG
    have hi16 : i < 16 := hi9
    have g0 := g1.turn0
    replace g1 := TpB.turn1 hi16 g1
    have X := X0.keeps kb
    have T := T0.keeps kb
    have hcl9 := hcl.at (kb cl)
    simp only [List.cons_append, List.nil_append] at N5
    refine wpAny_tests_one ?_
    try dsimp only
    try k_fold
    k_steps
    · (rename Fr _ _ _ _ => Fe; rename News _ _ _ _ => Ne)
      exact TEnd.intro _ _ _ Fe Ne (fun q hq => by repeat (first | exact hq | exact List.mem_append_right _ hq | refine List.Mem.tail _ ?_)) ⟨by assumption, len_snoc g3, words_snoc g4 hxw, fun _ => push_snoc g5 hx0⟩
    · (rename Fr _ _ _ _ => Fe; rename News _ _ _ _ => Ne)
      exact TEnd.intro _ _ _ Fe Ne (fun q hq => by repeat (first | exact hq | exact List.mem_append_right _ hq | refine List.Mem.tail _ ?_)) ⟨by assumption, len_snoc g3, words_snoc g4 hxw, fun _ => push_snoc g5 hx0⟩
    · (rename Fr _ _ _ _ => Fe; rename News _ _ _ _ => Ne)
      refine TEnd.intro _ _ _ Fe Ne (fun q hq => by repeat (first | exact hq | exact List.mem_append_right _ hq | refine List.Mem.tail _ ?_)) ⟨by assumption, Nat.le_succ_of_le g3, g4, fun _ => ?_⟩
      rcases Nat.eq_zero_or_pos i with h0 | h0
      · rename ¬ takesW x ≤ hgt => hq
        rw [hx0 h0] at hq
        exact absurd (show takesW (Str.ofString "push") ≤ hgt from hh0) hq
      · exact g5 h0
  · intro D h' tk2 c1 acc at1 t1 k1 F6 N6 hd6 hG6
    obtain ⟨g1, g3, g4, g5⟩ := hG6
    replace g5 := g5 (by decide)
    replace g1 : TpB at1 (bn + 24) := g1
    replace g3 : acc.length ≤ 16 := g3
    try dsimp only
    try k_fold
    replace hd6 := allNe_of hd6
    simp only [AllNe, and_true] at hd6
    clear Fe Ne
    refine wpAny_execs_cons ?_
    refine' wpAny_mono (Q := OpMid g L tp cl [(L + 1 + 1 + 1, oc1), (L + 1 + 1, oc2), (L + 1, oc3)] many tm bn s) (E := fun _ _ => False) ?mid (fun f s' hm => ?rest) (fun _ _ f => f.elim)
    case mid =>
      try (simp only [List.cons_append, List.nil_append] at N6)
      k_steps
      · (rename Fr _ _ _ _ => Fe; rename News _ _ _ _ => Ne)
        refine pack_list (vs := acc) hv.hh Fe Ne (by repeat (first | exact List.Mem.head _ | refine List.Mem.tail _ ?_)) (Nat.le_trans g3 (by decide)) (fun i acc' => WordsIn acc' ∧ acc'.length ≤ i ∧ ((∃ j t, j < i ∧ acc[j]? = some (.str (Str.ofString "push") t)) → 1 ≤ acc'.length)) ⟨(fun _ h => nomatch h), Nat.le_refl _, fun ⟨j, t, q, _⟩ => absurd q (Nat.not_lt_zero _)⟩ ?_ ?_
        · intro base kb i v acc' own h9 tk9 m₁ C hi9 hP hG9 F9 N9
          obtain ⟨x, tx, rfl, hxw⟩ := g4 v (List.mem_of_getElem? hP)
          obtain ⟨q1, q2, q3⟩ := hG9
          have X := X0.keeps kb
          have T := T0.keeps kb
          simp only [List.cons_append, List.nil_append] at N9
          refine wpAny_tests_one ?_
          try dsimp only
          try k_fold
          k_steps
          · (rename Fr _ _ _ _ => Fe; rename News _ _ _ _ => Ne)
            refine PEnd.intro Fe Ne (fun q hq => by simp only [List.cons_append, List.nil_append] at hq; exact List.Mem.tail _ hq) ⟨q1, Nat.le_succ_of_le q2, fun ⟨j, t, hj, he⟩ => ?_⟩
            rename (List.any _ _ = true) => hq
            rcases Nat.lt_or_ge j i with hl | hl
            · exact q3 ⟨j, t, hl, he⟩
            · have hji : j = i := Nat.le_antisymm (Nat.le_of_lt_succ hj) hl
              rw [hji, hP] at he
              injection he with he; injection he with he
              rw [he] at hq
              exact absurd hq (by decide)
          · (rename Fr _ _ _ _ => Fe; rename News _ _ _ _ => Ne)
            exact PEnd.intro Fe Ne (fun q hq => by simp only [List.cons_append, List.nil_append] at hq; exact List.Mem.tail _ hq) ⟨words_snoc q1 hxw, len_snoc q2, fun _ => pos_snoc⟩
        · intro D2 h9 tk9 c9 acc9 F9 N9 hd9 hG9
          obtain ⟨q1, q2, q3⟩ := hG9
          replace hd9 := allNe_of hd9
          simp only [AllNe, and_true] at hd9
          have hpos : 1 ≤ acc9.length := q3 (by
            obtain ⟨t, ht⟩ := g5
            obtain ⟨j, hj, e⟩ := List.getElem_of_mem ht
            exact ⟨j, t, hj, by rw [List.getElem?_eq_getElem hj, e]⟩)
          try dsimp only
          try k_fold
          clear Fe Ne
          k_steps
          (rename Fr _ _ _ _ => Fe; rename News _ _ _ _ => Ne)
          exact ⟨rfl, _, _, D2, acc9, c9, at1 + 1, _, _, _, rfl, mOp_fr Fe (by rfl) (by rfl), (fun q hq => Ne q (by
            rcases List.mem_cons.mp hq with rfl | hq
            · exact List.Mem.head _
            · exact List.Mem.tail _ (List.Mem.tail _ hq))), (by simp only [AllNe, List.cons_append, List.nil_append]; exact ⟨hd9.2.1, hd9.2.2.1, hd9.2.2.2.1, hd9.2.2.2.2, trivial⟩), q1, hpos, Nat.le_trans q2 g3, TpB.to (by assumption) (Nat.add_le_add_left (Nat.le_of_ble_eq_true rfl) _)⟩
      · (rename Fr _ _ _ _ => Fe; rename News _ _ _ _ => Ne)
        exact ⟨rfl, _, _, D, acc, c1, _, _, _, _, rfl, mOp_fr Fe (by rfl) (by rfl), (fun q hq => Ne q (by simpa using hq)), (by simp only [AllNe, List.cons_append, List.nil_append]; exact ⟨hd6.1, hd6.2.1, hd6.2.2.1, hd6.2.2.2, trivial⟩), g4, List.length_pos_of_mem g5.choose_spec, g3, by first | exact TpB.to g1 (Nat.add_le_add_left (Nat.le_of_ble_eq_true rfl) _) | exact TpB.to (by assumption) (Nat.add_le_add_left (Nat.le_of_ble_eq_true rfl) _)⟩
      · (rename Fr _ _ _ _ => Fe; rename News _ _ _ _ => Ne)
        exact ⟨rfl, _, _, D, acc, c1, _, _, _, _, rfl, mOp_fr Fe (by rfl) (by rfl), (fun q hq => Ne q (by simpa using hq)), (by simp only [AllNe, List.cons_append, List.nil_append]; exact ⟨hd6.1, hd6.2.1, hd6.2.2.1, hd6.2.2.2, trivial⟩), g4, List.length_pos_of_mem g5.choose_spec, g3, by first | exact TpB.to g1 (Nat.add_le_add_left (Nat.le_of_ble_eq_true rfl) _) | exact TpB.to (by assumption) (Nat.add_le_add_left (Nat.le_of_ble_eq_true rfl) _)⟩
    case rest =>
      clear N6 F6
      obtain ⟨rfl, h6, tk6, D2, ws, c6, at2, t2, k2, u6, rfl, F6, N6, hd6, hw6, w1, w2, w3⟩ := hm
      simp only [AllNe, List.cons_append, List.nil_append, and_true] at hd6
      simp only [List.cons_append, List.nil_append] at N6
      try dsimp only
      try k_fold
      k_steps
      have hf19 := fdiv19 (by assumption) (by assumption)
      k_steps
      · ((rename Fr _ _ _ _ => Fe; rename News _ _ _ _ => Ne); exact (show R (.ok (.ret _)) _ from op_fin (s := s)  (.push _) [(_, _)] h hg Fe Ne (by repeat (first | exact List.Mem.head _ | refine List.Mem.tail _ ?_)) (one_in (by repeat (first | exact List.Mem.head _ | refine List.Mem.tail _ ?_))) (one_tup rfl) (TpB.less (by assumption)) (opIn_of (List.Mem.head _) rfl (Nat.le_of_ble_eq_true rfl) (neg_str _ _) (fun _ H => ⟨_, _, _, tup_is (H _ (List.Mem.head _)) rfl⟩)) (lab_le)))
      · ((rename Fr _ _ _ _ => Fe; rename News _ _ _ _ => Ne); exact (show R (.ok (.ret _)) _ from op_fin (s := s)  (.push _) [(_, _)] h hg Fe Ne (by repeat (first | exact List.Mem.head _ | refine List.Mem.tail _ ?_)) (one_in (by repeat (first | exact List.Mem.head _ | refine List.Mem.tail _ ?_))) (one_tup rfl) (TpB.less (by assumption)) (opIn_of (List.Mem.head _) rfl (Nat.le_of_ble_eq_true rfl) (neg_str _ _) (fun _ H => ⟨_, _, _, tup_is (H _ (List.Mem.head _)) rfl⟩)) (lab_le)))
      · ((rename Fr _ _ _ _ => Fe; rename News _ _ _ _ => Ne); exact (show R (.ok (.ret _)) _ from op_fin (s := s)  (.reck _ _) [(_, _)] h hg Fe Ne (by repeat (first | exact List.Mem.head _ | refine List.Mem.tail _ ?_)) (one_in (by repeat (first | exact List.Mem.head _ | refine List.Mem.tail _ ?_))) (one_tup rfl) (TpB.less (by assumption)) (opIn_of (List.Mem.head _) rfl (Nat.le_of_ble_eq_true rfl) (neg_str _ _) (fun _ H => ⟨_, _, _, tup_is (H _ (List.Mem.head _)) rfl⟩)) (lab_le)))
      · ((rename Fr _ _ _ _ => Fe; rename News _ _ _ _ => Ne); exact (show R (.ok (.ret _)) _ from op_fin (s := s)  (.reck _ _) [(_, _)] h hg Fe Ne (by repeat (first | exact List.Mem.head _ | refine List.Mem.tail _ ?_)) (one_in (by repeat (first | exact List.Mem.head _ | refine List.Mem.tail _ ?_))) (one_tup rfl) (TpB.less (by assumption)) (opIn_of (List.Mem.head _) rfl (Nat.le_of_ble_eq_true rfl) (neg_str _ _) (fun _ H => ⟨_, _, _, tup_is (H _ (List.Mem.head _)) rfl⟩)) (lab_le)))
      · obtain ⟨k, rfl⟩ := lab_of (by assumption)
        ((rename Fr _ _ _ _ => Fe; rename News _ _ _ _ => Ne); exact (show R (.ok (.ret _)) _ from op_fin (s := s)  (.lab k _) [(_, _)] h hg Fe Ne (by repeat (first | exact List.Mem.head _ | refine List.Mem.tail _ ?_)) (one_in (by repeat (first | exact List.Mem.head _ | refine List.Mem.tail _ ?_))) (one_tup rfl) (TpB.less (by assumption)) (opIn_of (List.Mem.head _) rfl (Nat.le_of_ble_eq_true rfl) (neg_str _ _) (fun _ H => ⟨_, _, _, tup_is (H _ (List.Mem.head _)) rfl⟩)) (Nat.le_of_ble_eq_true rfl)))
      · (rename Fr _ _ _ _ => Fe; rename News _ _ _ _ => Ne)
        obtain ⟨nk, hk, hr⟩ := range_nat (by assumption) (by assumption) (by assumption)
        refine pack_range hv.hh Fe Ne hr (Nat.le_trans hk (by decide)) (fun i acc => acc.length = i ∧ ∃ ls, IntsAre acc ls) ⟨rfl, _, .nil⟩ ?_ ?_
        · intro base kb i v acc own h9 tk9 m₁ C hi9 hP hG9 F9 N9
          obtain ⟨q1, ls, q2⟩ := hG9
          obtain ⟨tv, rfl⟩ := hP
          have X := X0.keeps kb
          have T := T0.keeps kb
          simp only [List.cons_append, List.nil_append] at N9
          refine wpAny_tests_nil ?_
          try dsimp only
          try k_fold
          k_steps
          (rename Fr _ _ _ _ => Fe; rename News _ _ _ _ => Ne)
          exact PEnd.intro Fe Ne (fun q hq => hq) ⟨by rw [List.length_append, List.length_singleton, q1], _, ints_snoc q2 _ _⟩
        · intro D3 h9 tk9 c9 acc9 F9 N9 hd9 hG9
          obtain ⟨q1, ls, q2⟩ := hG9
          replace hd9 := allNe_of hd9
          simp only [AllNe, and_true] at hd9
          clear Fe Ne
          try dsimp only
          try k_fold
          k_steps
          ((rename Fr _ _ _ _ => Fe; rename News _ _ _ _ => Ne); exact (show R (.ok (.ret _)) _ from choose_fin (s := s)  (vs := acc9) h hg Fe Ne (by repeat (first | exact List.Mem.head _ | refine List.Mem.tail _ ?_)) (by repeat (first | exact List.Mem.head _ | refine List.Mem.tail _ ?_)) (by repeat (first | exact List.Mem.head _ | refine List.Mem.tail _ ?_)) q2 (by rw [List.size_toArray, q1]; exact Nat.le_trans hk (by decide)) (TpB.less (by assumption)) (by rw [← q2.length, q1]; exact hk)))
      · ((rename Fr _ _ _ _ => Fe; rename News _ _ _ _ => Ne); exact (show R (.ok (.ret _)) _ from op_fin (s := s)  (.perform _ _) [(_, _)] h hg Fe Ne (by repeat (first | exact List.Mem.head _ | refine List.Mem.tail _ ?_)) (one_in (by repeat (first | exact List.Mem.head _ | refine List.Mem.tail _ ?_))) (one_tup rfl) (TpB.less (by assumption)) (opIn_of (List.Mem.head _) rfl (Nat.le_of_ble_eq_true rfl) (neg_int _ _) (fun _ H => ⟨_, _, _, tup_is (H _ (List.Mem.head _)) rfl⟩)) (Nat.le_of_ble_eq_true rfl)))
      · obtain rfl := eq_of_beq (show (_ == Str.ofString "jump") = true by assumption)
        ((rename Fr _ _ _ _ => Fe; rename News _ _ _ _ => Ne); exact (show R (.ok (.ret _)) _ from op_fin (s := s)  (.jump _) [(_, _)] h hg Fe Ne (by repeat (first | exact List.Mem.head _ | refine List.Mem.tail _ ?_)) (one_in (by repeat (first | exact List.Mem.head _ | refine List.Mem.tail _ ?_))) (one_tup rfl) (TpB.less (by assumption)) (opIn_of (List.Mem.head _) rfl (Nat.le_of_ble_eq_true rfl) (neg_int _ _) (fun _ H => ⟨_, _, tup_is (H _ (List.Mem.head _)) rfl⟩)) (Nat.le_of_ble_eq_true rfl)))
      · obtain rfl := eq_of_beq (show (_ == Str.ofString "leave") = true by assumption)
        ((rename Fr _ _ _ _ => Fe; rename News _ _ _ _ => Ne); exact (show R (.ok (.ret _)) _ from op_fin (s := s)  (.leave _) [(_, _)] h hg Fe Ne (by repeat (first | exact List.Mem.head _ | refine List.Mem.tail _ ?_)) (one_in (by repeat (first | exact List.Mem.head _ | refine List.Mem.tail _ ?_))) (one_tup rfl) (TpB.less (by assumption)) (opIn_of (List.Mem.head _) rfl (Nat.le_of_ble_eq_true rfl) (neg_int _ _) (fun _ H => ⟨_, _, tup_is (H _ (List.Mem.head _)) rfl⟩)) (Nat.le_of_ble_eq_true rfl)))
      · ((rename Fr _ _ _ _ => Fe; rename News _ _ _ _ => Ne); exact (show R (.ok (.ret _)) _ from op_fin (s := s)  (.stop _) [(_, _)] h hg Fe Ne (by repeat (first | exact List.Mem.head _ | refine List.Mem.tail _ ?_)) (one_in (by repeat (first | exact List.Mem.head _ | refine List.Mem.tail _ ?_))) (one_tup rfl) (TpB.less (by assumption)) (opIn_of (List.Mem.head _) rfl (Nat.le_of_ble_eq_true rfl) (neg_str _ _) (fun _ H => ⟨_, _, tup_is (H _ (List.Mem.head _)) rfl⟩)) (Nat.le_of_ble_eq_true rfl)))
      · obtain ⟨k, rfl⟩ := plain_of (by assumption) (by assumption) (by assumption) (by assumption) (by assumption) (by assumption) (by assumption) (by assumption) (by assumption)
        ((rename Fr _ _ _ _ => Fe; rename News _ _ _ _ => Ne); exact (show R (.ok (.ret _)) _ from op_fin (s := s)  (.plain k) [(_, _)] h hg Fe Ne (by repeat (first | exact List.Mem.head _ | refine List.Mem.tail _ ?_)) (one_in (by repeat (first | exact List.Mem.head _ | refine List.Mem.tail _ ?_))) (one_tup rfl) (TpB.less (by assumption)) (opIn_of (List.Mem.head _) rfl (Nat.le_of_ble_eq_true rfl) (neg_str _ _) (fun _ H => ⟨_, _, tup_is (H _ (List.Mem.head _)) rfl⟩)) (Nat.le_of_ble_eq_true rfl)))
end

end

section
theorem base_C14 : True := by
  k_with_none
  w_top off
  k_with "subscriptTail" => (k_here; (with_reducible show wpAny _ _ (subscriptTail _ _ (Value.ref _) (Value.int _ _)) _ _ _); k_dflt ( (refine' itemT ?Fzq ?tzq ?azq ?bzq ?czq ?dzq ?_; (case Fzq => k_asm); (case tzq => assumption); (case azq => decide); (case bzq => decide); (case czq => rfl); (case dzq => rfl); k_whole)))
  k_with "size_fits" => with_reducible assumption
  k_with "k_room" => exact Lv.room (by assumption)
  k_with "k_inst" => exact instUp (by assumption) (Fr.keep (by k_asm))
  k_with "call builtin:len" => (k_here; (with_reducible show wpAny _ _ (call (Value.builtin "len") [Value.ref _]) _ _ _); k_dflt ( (refine' lenT ?Fzq ?tzq ?azq ?bzq ?_; (case Fzq => k_asm); (case tzq => assumption); (case azq => first | assumption | rfl); (case bzq => first | assumption | decide); k_whole)))
  k_with "eval ListComp" => (k_here; (with_reducible rename Fr _ _ _ _ => zzlFq); k_dflt ( (refine' comp_inv zzlFq ?k1zq ?k2zq ?k3zq ?k4zq ?k5zq ?_ ?k6zq; (case k1zq => with_unfolding_all rfl); (case k2zq => decide); (case k3zq => with_unfolding_all rfl); (case k4zq => decide); (case k5zq => with_unfolding_all rfl); (case k6zq => (intro _; with_unfolding_all rfl)); k_whole)))
  k_with "exec Assign cons ListComp" => (k_here; (with_reducible rename Fr _ _ _ _ => zzlFq); k_dflt ( (refine' comp_assign zzlFq ?j1zq ?j2zq ?k1zq ?k2zq ?k3zq ?k4zq ?k5zq ?j3zq ?j4zq ?_ ?k6zq; (case j1zq => with_unfolding_all rfl); (case j2zq => with_unfolding_all rfl); (case j3zq => with_unfolding_all rfl); (case j4zq => with_unfolding_all rfl); (case k1zq => with_unfolding_all rfl); (case k2zq => decide); (case k3zq => with_unfolding_all rfl); (case k4zq => decide); (case k5zq => with_unfolding_all rfl); (case k6zq => (intro _; with_unfolding_all rfl)); k_whole)))
  k_with "compareOp NotEq ref ref" => (k_here; (with_reducible show wpAny _ _ (compareOp CmpOp.NotEq (Value.ref _) (Value.ref _)) _ _ _); k_dflt ( (refine' neNil ?azq ?bzq ?uzq ?_; (case azq => is_list); (case bzq => is_list); (case uzq => exact Lv.units (by assumption)); k_whole)))
  k_with "compareOp Eq ref ref" => (k_here; (with_reducible show wpAny _ _ (compareOp CmpOp.Eq (Value.ref _) (Value.ref _)) _ _ _); k_dflt ( (refine' eqNil ?azq ?bzq ?uzq ?_; (case azq => is_list); (case bzq => is_list); (case uzq => exact Lv.units (by assumption)); k_whole)))
  k_with "compareOp NotIn str ref" => (k_here; k_dflt (refine' topNotIn_K ?Fzq ?Xzq ?lzq ?kzq ?ezq ?ozq ?_; (case Fzq => k_asm); (case Xzq => k_asm); (case lzq => k_is); (case kzq => k_keys); (case ezq => first | with_reducible assumption | k_is); (case ozq => decide)))
  k_with "eval Name" => (k_here; k_inBlock; (with_reducible rename Fr _ _ _ _ => zzkF); k_dflt (first | (refine' nameQ_L zzkF ?azq ?_ ?bzq ?czq ?dzq ?ezq; (case azq => exact rfl); (case bzq => rfl); (case czq => rfl); (case dzq => rfl); (case ezq => decide); k_whole) | (refine' nameQ_F ?Nzq ?azq ?mzq ?dzq ?_ ?czq ?kzq ?xzq ?yzq; (case Nzq => k_asm); (case azq => exact rfl); (case mzq => k_mem); (case dzq => assumption); (case czq => rfl); (case kzq => rfl); (case xzq => decide); (case yzq => decide); k_whole) | (refine' nameQ_B zzkF ?k1zq ?k2zq ?k3zq ?k4zq ?k5zq ?_ ?bzq ?czq ?dzq ?ezq ?fzq; (case bzq => rfl); (case czq => rfl); (case dzq => rfl); (case ezq => rfl); (case fzq => decide); (case k1zq => k_asm); (case k2zq => k_asm); (case k3zq => k_is); (case k4zq => boot_by_name); (case k5zq => decide); k_whole)))
  k_with "subscriptTail" => (k_here; (with_reducible show wpAny _ _ (subscriptTail _ _ (Value.ref _) (Value.int 0 _)) _ _ _); k_dflt ( (refine' itemT0 ?Fzq ?tzq ?_; (case Fzq => k_asm); (case tzq => with_reducible assumption); k_whole)))
  k_with "ite" => (first | with_reducible refine ite_known_t (by assumption) ?_ | with_reducible refine ite_known_f (by assumption) ?_ | with_reducible refine ite_known_t rfl ?_ | with_reducible refine ite_known_f rfl ?_)
  k_with "k_all" => with_reducible assumption
  k_with "k_all" => ((repeat (rename _ ∧ _ => zzhqq; obtain ⟨_, _⟩ := zzhqq)); exact of_allLt (by with_reducible assumption))
  k_with "subscriptTail" => (k_here; (with_reducible show wpAny _ _ (subscriptTail _ _ (Value.ref _) (Value.str _ _)) _ _ _); k_dflt (refine' topItem_K ?Fzq ?Xzq ?lzq ?kzq ?ezq ?_; (case Fzq => k_asm); (case Xzq => k_asm); (case lzq => k_is); (case kzq => k_keys); (case ezq => with_reducible assumption); k_whole))
  k_with "subscriptTail" => (k_here; (with_reducible show wpAny _ _ (subscriptTail _ (PySem.Expr.Slice (some _) none none _) (Value.ref _) (Value.ref _)) _ _ _); k_dflt ( (refine' sliceT (a := 1) ?Fzq ?Nzq ?tzq ?azq ?bzq ?czq ?_ ?dzq ?ezq; (case Fzq => k_asm); (case Nzq => k_asm); (case tzq => assumption); (case azq => decide); (case bzq => exact Nat.le_of_ble_eq_true rfl); (case czq => exact Nat.le_of_ble_eq_true rfl); (case dzq => with_unfolding_all rfl); (case ezq => (intro _; with_unfolding_all rfl)); k_whole; intro zzhq zzrq zzFq zzNq zzl1; (try k_lt zzl1))))
  k_with "k_mem" => first | exact List.Mem.head _ | (refine' List.Mem.tail _ ?_; k_mem) | (show List.Mem _ _; assumption)
  k_with "unpackItems ref" => (k_here; k_dflt (refine' unpackItemsN_ ?k1zq ?k2zq ?k3zq ?k4zq ?k5zq ?_; (case k1zq => k_asm); (case k2zq => k_asm); (case k3zq => first | (with_reducible assumption) | exact News.isTup (by k_asm) (by k_mem) | exact Fr.tup (by k_asm) (by assumption)); (case k4zq => exact Lv.hh (by assumption)); (case k5zq => exact rfl); k_whole); intro zzhq zzFq zzNq; (try k_sweep))
  k_with "assign Tuple" => (k_here; (with_reducible show wpAny _ _ (assign (PySem.Expr.Tuple _ _ _) _ (Value.ref _)) _ _ _); k_dflt (refine' unpackN_ ?k1zq ?k2zq ?k3zq ?k4zq ?k5zq ?k6zq ?_; (case k1zq => k_asm); (case k2zq => k_asm); (case k3zq => first | (with_reducible assumption) | exact News.isTup (by k_asm) (by k_mem) | exact Fr.tup (by k_asm) (by assumption)); (case k4zq => exact Lv.hh (by assumption)); (case k5zq => exact rfl); (case k6zq => exact rfl); k_whole); intro zzhq zzFq zzNq; (try k_sweep))
  k_with "last exec While" => (k_here; (refine while_stop ?_))
  k_with "call builtin:list.pop" => (k_here; (try dsimp only); k_dflt ( (refine' kl_pop ?Fzq ?Nzq ?ezq ?Uzq ?zzq ?_; (case Fzq => k_asm); (case Nzq => k_asm); (case Uzq => k_upd); (case ezq => exact kl_last_snoc _ _); (case zzq => with_reducible assumption); k_whole; intro zzhq zzFq zzNq)))
  k_with "compareOp In int ref" => (k_here; k_dflt (refine' inD ?Nzq ?mzq ?dzq ?lzq ?_; (case Nzq => k_asm); (case mzq => k_mem); (case dzq => with_reducible assumption); (case lzq => with_reducible assumption); k_whole))
  k_with "subscriptTail" => (k_here; (with_reducible show wpAny _ _ (subscriptTail _ _ (Value.ref _) (Value.int _ _)) _ _ _); k_dflt (first | (refine' itemD ?Nzq ?mzq ?dzq ?vzq ?_ ?szq; (case Nzq => k_asm); (case mzq => k_mem); (case dzq => with_reducible assumption); (case vzq => with_reducible assumption); (case szq => with_unfolding_all rfl); k_whole) | (refine' itemO ?Fzq ?tzq ?azq ?xzq ?zzq ?_ ?szq; (case Fzq => k_asm); (case tzq => with_reducible assumption); (case azq => with_reducible assumption); (case xzq => with_reducible assumption); (case zzq => with_reducible assumption); (case szq => with_unfolding_all rfl); k_whole)))
  k_with "setItem ref int" => (k_here; k_dflt (refine' setD ?Fzq ?Nzq ?Uzq ?dzq ?zzq ?_; (case Fzq => k_asm); (case Nzq => k_asm); (case Uzq => k_updF); (case dzq => with_reducible assumption); (case zzq => with_reducible assumption); k_whole; intro zzhq zzoq zzFq zzNq zzdq; (try dsimp only at zzNq)))
  k_with "call builtin:list.extend" => (k_here; (with_reducible show wpAny _ _ (call (Value.builtin _) [Value.ref _, Value.ref _]) _ _ _); k_dflt (refine' extendK ?Fzq ?Nzq ?bzq ?Uzq ?zzq ?_; (case Fzq => k_asm); (case Nzq => k_asm); (case bzq => k_mem); (case Uzq => k_updF); (case zzq => with_reducible assumption); k_whole; intro zzhq zzcq zzFq zzNq; (try dsimp only at zzNq)))
  k_with "newTuple" => (k_here; k_dflt (refine' kup_newTuple ?Fzq ?Nzq ?_ ?zzq; (case Fzq => k_asm); (case Nzq => k_asm); (case zzq => exact Nat.le_of_ble_eq_true rfl)); intro zzDq zzhq zzFq zzNq zzl1; (try k_lt zzl1); (try k_sweep))
  k_with "exec For Name Call cons nil" => (k_here; (with_reducible rename Fr _ _ _ _ => zzlFq); k_dflt (refine' for_inv zzlFq ?j1zq ?j2zq ?j3zq ?_ ?j4zq; (case j1zq => with_unfolding_all rfl); (case j2zq => with_unfolding_all rfl); (case j3zq => with_unfolding_all rfl); (case j4zq => (intro _; with_unfolding_all rfl)); k_whole))
  k_with "execs cons Assign cons" => (k_here; (with_reducible refine wpAny_execs_cons ?_); (try dsimp only))
  k_with "subscriptTail" => (k_here; (with_reducible show wpAny _ _ (subscriptTail _ (PySem.Expr.Slice none (some _) none _) (Value.ref _) (Value.ref _)) _ _ _); k_dflt (first | (refine' sliceTwoA ?Fzq ?Nzq ?tzq ?_ ?dzq ?ezq; (case Fzq => k_asm); (case Nzq => k_asm); (case tzq => assumption); (case dzq => with_unfolding_all rfl); (case ezq => (intro _; with_unfolding_all rfl)); k_whole; intro zzhq zzFq zzNq) | (refine' sliceTwoB ?Fzq ?Nzq ?tzq ?_ ?dzq ?ezq; (case Fzq => k_asm); (case Nzq => k_asm); (case tzq => assumption); (case dzq => with_unfolding_all rfl); (case ezq => (intro _; with_unfolding_all rfl)); k_whole; intro zzhq zzrq zzFq zzNq zzl1; (try k_lt zzl1))))
  k_with "compareOp Eq ref ref" => (k_here; (with_reducible show wpAny _ _ (compareOp CmpOp.Eq (Value.ref _) (Value.ref _)) _ _ _); k_dflt ( (refine' eqTup2 ?uzq ?tazq ?tbzq ?e1zq ?e2zq ?_; (case uzq => exact Lv.units (by assumption)); (case tazq => first | exact News.isTup (by k_asm) (by k_mem) | exact Fr.tup (by k_asm) (by assumption)); (case tbzq => exact News.isTup (by k_asm) (by k_mem)); (case e1zq => exact SeqAt.EqAt.str_str _ _ _ _); (case e2zq => first | exact SeqAt.EqAt.str_str _ _ _ _ | exact SeqAt.EqAt.int_str _ _ _ _ | exact SeqAt.EqAt.tuple_str _ _ (Fr.tup (by k_asm) (by assumption)) (Lv.units (Lv.in1 (by assumption)))); k_whole)))
  k_with "compareOp In str ref" => (k_here; (with_reducible show wpAny _ _ (compareOp CmpOp.In (Value.str _ _) (Value.ref _)) _ _ _); (with_unfolding_all refine' in_tuple_strs ?k1zq ?k2zq ?_; (case k1zq => exact News.isTup (by k_asm) (List.Mem.head _)); (case k2zq => kde_strs); k_whole); (rename News _ _ _ _ => zzNq; replace zzNq := News.tail' zzNq); (try k_sweep))
  k_with "compareOp NotIn int ref" => (k_here; k_dflt (refine' notInD ?Nzq ?mzq ?dzq ?lzq ?_; (case Nzq => k_asm); (case mzq => k_mem); (case dzq => with_reducible assumption); (case lzq => with_reducible assumption); k_whole))
  k_with "assign Tuple" => (k_here; (with_reducible show wpAny _ _ (assign (PySem.Expr.Tuple _ _ _) _ (Value.ref _)) _ _ _); k_dflt (refine' kun_list ?k1zq ?k2zq ?k3zq ?k4zq ?k5zq ?k6zq ?_; (case k1zq => k_asm); (case k2zq => k_asm); (case k3zq => exact News.isList (by k_asm) (by k_mem)); (case k4zq => exact Lv.hh (by assumption)); (case k5zq => exact rfl); (case k6zq => exact rfl); k_whole); intro zzhq zzFq zzNq; (try k_sweep))
  trivial
section
variable {prog : Program} {w : World} {A : Around} {s : Shared} {R : Result → Shared → Prop} {tp cl : Addr} {vs : List Value} {ns : List Int} {h₀ : Heap} {L : Addr} {m : Str → Option Value} {news : Led} {gg : Obj → Led}
   {p : Program} {loose : List Str} {mean : ExcName → Option Value} {mg mb : Str → Option Value}
theorem news_imm {h' : Heap} {led imm : Led} (F : Fr h₀ L s.heap m) (N : News h₀ L h' led) (hn : NewAt s.heap h' imm) : News h₀ L h' (led ++ imm) := by
  intro q hq
  rcases List.mem_append.mp hq with hq | hq
  · exact N q hq
  · obtain ⟨e1, e2⟩ := hn q hq
    refine ⟨e1, fun e => ?_, ?_⟩
    · obtain ⟨oL, es, ep, hL, _⟩ := F.ns
      rw [show q.1 = L from e, hL] at e2; cases e2
    · cases e : h₀.get? q.1 with
      | none => rfl
      | some o => rw [F.keep _ _ e] at e2; cases e2
theorem op_k {at_ many hgt : Int} {t tm th : Tok} {n bn : Nat} (F : Fr h₀ L s.heap m) (N : News h₀ L s.heap news) (hm : (tp, tapeOf cl at_ t n) ∈ news) (U : UpdF tp (tapeOf cl at_ t n) news gg)
   (X : (Mine.hd.heap_1 w.params).In h₀) (T : Top p loose mean mg mb h₀) (hv : Lv A 3) (hcl : s.heap.IsList cl vs.toArray) (hct : cl ≠ tp) (hi : IntsAre vs ns) (hn1 : 1 ≤ ns.length) (hn2 : ns.length ≤ 60) (hb : TpB at_ (bn + 40)) (hm1 : 1 ≤ many) (hm2 : many ≤ 10) (hh0 : 0 ≤ hgt)
   (h : ∀ h' tk a op at' t' n' imm, Fr h₀ L h' m → News h₀ L h' (gg (tapeOf cl at' t' n') ++ imm) → h'.IsList cl vs.toArray → TpB at' bn → TupAll imm → OpIn imm a op → (labels op).length ≤ 2 → (∀ q ∈ gg (tapeOf cl at' t' n'), ∀ r ∈ imm, q.1 ≠ r.1) → R (.ok (.ret (.ref a))) { s with heap := h', toks := tk }) :
   codeAny (model prog w) A (.call (.ref 113) ⟨[.ref tp, .int many tm, .int hgt th], []⟩) R s := by
  have kb := hide_keeps F N hm
  refine op_c (cl := cl) (fun q hq => by rw [List.mem_singleton.mp hq]; exact (N _ hm).1) rfl (X.keeps kb) (T.keeps kb) hv ?_ hi hn1 hn2 hb hm1 hm2 hh0 fun h' tk a op at' t' n' imm e1 e2 e3 e5 e6 e7 e8 => ?_
  · obtain ⟨o, ho, r⟩ := hcl
    exact ⟨o, hideAll_get [tp] ho (by simpa using hct), r⟩
  · obtain ⟨F', N'⟩ := upd_tape F N U e1 e2
    obtain ⟨o, ho, r⟩ := hcl
    refine h h' tk a op at' t' n' imm F' (news_imm F N' e6) ⟨o, e1 _ _ hct ho, r⟩ e3 e5 e7 e8 fun q hq r hr e => ?_
    obtain ⟨q2, hq2, e9⟩ := List.mem_map.mp (upd_keys U (tapeOf cl at' t' n') (tapeOf cl at_ t n) q hq)
    rw [upd_self U] at hq2
    have := (N q2 hq2).1
    rw [e9, e, (e6 r hr).2] at this
    cases this
end

end

section
theorem base_G16 : True := by
  k_with_none
  w_top off
  k_with "subscriptTail" => (k_here; (with_reducible show wpAny _ _ (subscriptTail _ _ (Value.ref _) (Value.int _ _)) _ _ _); k_dflt ( (refine' itemT ?Fzq ?tzq ?azq ?bzq ?czq ?dzq ?_; (case Fzq => k_asm); (case tzq => assumption); (case azq => decide); (case bzq => decide); (case czq => rfl); (case dzq => rfl); k_whole)))
  k_with "size_fits" => with_reducible assumption
  k_with "k_room" => exact Lv.room (by assumption)
  k_with "k_inst" => exact instUp (by assumption) (Fr.keep (by k_asm))
  k_with "call builtin:len" => (k_here; (with_reducible show wpAny _ _ (call (Value.builtin "len") [Value.ref _]) _ _ _); k_dflt ( (refine' lenT ?Fzq ?tzq ?azq ?bzq ?_; (case Fzq => k_asm); (case tzq => assumption); (case azq => first | assumption | rfl); (case bzq => first | assumption | decide); k_whole)))
  k_with "eval ListComp" => (k_here; (with_reducible rename Fr _ _ _ _ => zzlFq); k_dflt ( (refine' comp_inv zzlFq ?k1zq ?k2zq ?k3zq ?k4zq ?k5zq ?_ ?k6zq; (case k1zq => with_unfolding_all rfl); (case k2zq => decide); (case k3zq => with_unfolding_all rfl); (case k4zq => decide); (case k5zq => with_unfolding_all rfl); (case k6zq => (intro _; with_unfolding_all rfl)); k_whole)))
  k_with "exec Assign cons ListComp" => (k_here; (with_reducible rename Fr _ _ _ _ => zzlFq); k_dflt ( (refine' comp_assign zzlFq ?j1zq ?j2zq ?k1zq ?k2zq ?k3zq ?k4zq ?k5zq ?j3zq ?j4zq ?_ ?k6zq; (case j1zq => with_unfolding_all rfl); (case j2zq => with_unfolding_all rfl); (case j3zq => with_unfolding_all rfl); (case j4zq => with_unfolding_all rfl); (case k1zq => with_unfolding_all rfl); (case k2zq => decide); (case k3zq => with_unfolding_all rfl); (case k4zq => decide); (case k5zq => with_unfolding_all rfl); (case k6zq => (intro _; with_unfolding_all rfl)); k_whole)))
  k_with "compareOp NotEq ref ref" => (k_here; (with_reducible show wpAny _ _ (compareOp CmpOp.NotEq (Value.ref _) (Value.ref _)) _ _ _); k_dflt ( (refine' neNil ?azq ?bzq ?uzq ?_; (case azq => is_list); (case bzq => is_list); (case uzq => exact Lv.units (by assumption)); k_whole)))
  k_with "compareOp Eq ref ref" => (k_here; (with_reducible show wpAny _ _ (compareOp CmpOp.Eq (Value.ref _) (Value.ref _)) _ _ _); k_dflt ( (refine' eqNil ?azq ?bzq ?uzq ?_; (case azq => is_list); (case bzq => is_list); (case uzq => exact Lv.units (by assumption)); k_whole)))
  k_with "compareOp NotIn str ref" => (k_here; k_dflt (refine' topNotIn_K ?Fzq ?Xzq ?lzq ?kzq ?ezq ?ozq ?_; (case Fzq => k_asm); (case Xzq => k_asm); (case lzq => k_is); (case kzq => k_keys); (case ezq => first | with_reducible assumption | k_is); (case ozq => decide)))
  k_with "eval Name" => (k_here; k_inBlock; (with_reducible rename Fr _ _ _ _ => zzkF); k_dflt (first | (refine' nameQ_L zzkF ?azq ?_ ?bzq ?czq ?dzq ?ezq; (case azq => exact rfl); (case bzq => rfl); (case czq => rfl); (case dzq => rfl); (case ezq => decide); k_whole) | (refine' nameQ_F ?Nzq ?azq ?mzq ?dzq ?_ ?czq ?kzq ?xzq ?yzq; (case Nzq => k_asm); (case azq => exact rfl); (case mzq => k_mem); (case dzq => assumption); (case czq => rfl); (case kzq => rfl); (case xzq => decide); (case yzq => decide); k_whole) | (refine' nameQ_B zzkF ?k1zq ?k2zq ?k3zq ?k4zq ?k5zq ?_ ?bzq ?czq ?dzq ?ezq ?fzq; (case bzq => rfl); (case czq => rfl); (case dzq => rfl); (case ezq => rfl); (case fzq => decide); (case k1zq => k_asm); (case k2zq => k_asm); (case k3zq => k_is); (case k4zq => boot_by_name); (case k5zq => decide); k_whole)))
  k_with "subscriptTail" => (k_here; (with_reducible show wpAny _ _ (subscriptTail _ _ (Value.ref _) (Value.int 0 _)) _ _ _); k_dflt ( (refine' itemT0 ?Fzq ?tzq ?_; (case Fzq => k_asm); (case tzq => with_reducible assumption); k_whole)))
  k_with "ite" => (first | with_reducible refine ite_known_t (by assumption) ?_ | with_reducible refine ite_known_f (by assumption) ?_ | with_reducible refine ite_known_t rfl ?_ | with_reducible refine ite_known_f rfl ?_)
  k_with "k_all" => with_reducible assumption
  k_with "k_all" => ((repeat (rename _ ∧ _ => zzhqq; obtain ⟨_, _⟩ := zzhqq)); exact of_allLt (by with_reducible assumption))
  k_with "subscriptTail" => (k_here; (with_reducible show wpAny _ _ (subscriptTail _ _ (Value.ref _) (Value.str _ _)) _ _ _); k_dflt (refine' topItem_K ?Fzq ?Xzq ?lzq ?kzq ?ezq ?_; (case Fzq => k_asm); (case Xzq => k_asm); (case lzq => k_is); (case kzq => k_keys); (case ezq => with_reducible assumption); k_whole))
  k_with "subscriptTail" => (k_here; (with_reducible show wpAny _ _ (subscriptTail _ (PySem.Expr.Slice (some _) none none _) (Value.ref _) (Value.ref _)) _ _ _); k_dflt ( (refine' sliceT (a := 1) ?Fzq ?Nzq ?tzq ?azq ?bzq ?czq ?_ ?dzq ?ezq; (case Fzq => k_asm); (case Nzq => k_asm); (case tzq => assumption); (case azq => decide); (case bzq => exact Nat.le_of_ble_eq_true rfl); (case czq => exact Nat.le_of_ble_eq_true rfl); (case dzq => with_unfolding_all rfl); (case ezq => (intro _; with_unfolding_all rfl)); k_whole; intro zzhq zzrq zzFq zzNq zzl1; (try k_lt zzl1))))
  k_with "k_mem" => first | exact List.Mem.head _ | (refine' List.Mem.tail _ ?_; k_mem) | (show List.Mem _ _; assumption)
  k_with "unpackItems ref" => (k_here; k_dflt (refine' unpackItemsN_ ?k1zq ?k2zq ?k3zq ?k4zq ?k5zq ?_; (case k1zq => k_asm); (case k2zq => k_asm); (case k3zq => first | (with_reducible assumption) | exact News.isTup (by k_asm) (by k_mem) | exact Fr.tup (by k_asm) (by assumption)); (case k4zq => exact Lv.hh (by assumption)); (case k5zq => exact rfl); k_whole); intro zzhq zzFq zzNq; (try k_sweep))
  k_with "assign Tuple" => (k_here; (with_reducible show wpAny _ _ (assign (PySem.Expr.Tuple _ _ _) _ (Value.ref _)) _ _ _); k_dflt (refine' unpackN_ ?k1zq ?k2zq ?k3zq ?k4zq ?k5zq ?k6zq ?_; (case k1zq => k_asm); (case k2zq => k_asm); (case k3zq => first | (with_reducible assumption) | exact News.isTup (by k_asm) (by k_mem) | exact Fr.tup (by k_asm) (by assumption)); (case k4zq => exact Lv.hh (by assumption)); (case k5zq => exact rfl); (case k6zq => exact rfl); k_whole); intro zzhq zzFq zzNq; (try k_sweep))
  k_with "last exec While" => (k_here; (refine while_stop ?_))
  k_with "call builtin:list.pop" => (k_here; (try dsimp only); k_dflt ( (refine' kl_pop ?Fzq ?Nzq ?ezq ?Uzq ?zzq ?_; (case Fzq => k_asm); (case Nzq => k_asm); (case Uzq => k_upd); (case ezq => exact kl_last_snoc _ _); (case zzq => with_reducible assumption); k_whole; intro zzhq zzFq zzNq)))
  k_with "compareOp In int ref" => (k_here; k_dflt (refine' inD ?Nzq ?mzq ?dzq ?lzq ?_; (case Nzq => k_asm); (case mzq => k_mem); (case dzq => with_reducible assumption); (case lzq => with_reducible assumption); k_whole))
  k_with "subscriptTail" => (k_here; (with_reducible show wpAny _ _ (subscriptTail _ _ (Value.ref _) (Value.int _ _)) _ _ _); k_dflt (first | (refine' itemD ?Nzq ?mzq ?dzq ?vzq ?_ ?szq; (case Nzq => k_asm); (case mzq => k_mem); (case dzq => with_reducible assumption); (case vzq => with_reducible assumption); (case szq => with_unfolding_all rfl); k_whole) | (refine' itemO ?Fzq ?tzq ?azq ?xzq ?zzq ?_ ?szq; (case Fzq => k_asm); (case tzq => with_reducible assumption); (case azq => with_reducible assumption); (case xzq => with_reducible assumption); (case zzq => with_reducible assumption); (case szq => with_unfolding_all rfl); k_whole)))
  k_with "setItem ref int" => (k_here; k_dflt (refine' setD ?Fzq ?Nzq ?Uzq ?dzq ?zzq ?_; (case Fzq => k_asm); (case Nzq => k_asm); (case Uzq => k_updF); (case dzq => with_reducible assumption); (case zzq => with_reducible assumption); k_whole; intro zzhq zzoq zzFq zzNq zzdq; (try dsimp only at zzNq)))
  k_with "call builtin:list.extend" => (k_here; (with_reducible show wpAny _ _ (call (Value.builtin _) [Value.ref _, Value.ref _]) _ _ _); k_dflt (refine' extendK ?Fzq ?Nzq ?bzq ?Uzq ?zzq ?_; (case Fzq => k_asm); (case Nzq => k_asm); (case bzq => k_mem); (case Uzq => k_updF); (case zzq => with_reducible assumption); k_whole; intro zzhq zzcq zzFq zzNq; (try dsimp only at zzNq)))
  k_with "newTuple" => (k_here; k_dflt (refine' kup_newTuple ?Fzq ?Nzq ?_ ?zzq; (case Fzq => k_asm); (case Nzq => k_asm); (case zzq => exact Nat.le_of_ble_eq_true rfl)); intro zzDq zzhq zzFq zzNq zzl1; (try k_lt zzl1); (try k_sweep))
  k_with "exec For Name Call cons nil" => (k_here; (with_reducible rename Fr _ _ _ _ => zzlFq); k_dflt (refine' for_inv zzlFq ?j1zq ?j2zq ?j3zq ?_ ?j4zq; (case j1zq => with_unfolding_all rfl); (case j2zq => with_unfolding_all rfl); (case j3zq => with_unfolding_all rfl); (case j4zq => (intro _; with_unfolding_all rfl)); k_whole))
  k_with "execs cons Assign cons" => (k_here; (with_reducible refine wpAny_execs_cons ?_); (try dsimp only))
  k_with "subscriptTail" => (k_here; (with_reducible show wpAny _ _ (subscriptTail _ (PySem.Expr.Slice none (some _) none _) (Value.ref _) (Value.ref _)) _ _ _); k_dflt (first | (refine' sliceTwoA ?Fzq ?Nzq ?tzq ?_ ?dzq ?ezq; (case Fzq => k_asm); (case Nzq => k_asm); (case tzq => assumption); (case dzq => with_unfolding_all rfl); (case ezq => (intro _; with_unfolding_all rfl)); k_whole; intro zzhq zzFq zzNq) | (refine' sliceTwoB ?Fzq ?Nzq ?tzq ?_ ?dzq ?ezq; (case Fzq => k_asm); (case Nzq => k_asm); (case tzq => assumption); (case dzq => with_unfolding_all rfl); (case ezq => (intro _; with_unfolding_all rfl)); k_whole; intro zzhq zzrq zzFq zzNq zzl1; (try k_lt zzl1))))
  k_with "compareOp Eq ref ref" => (k_here; (with_reducible show wpAny _ _ (compareOp CmpOp.Eq (Value.ref _) (Value.ref _)) _ _ _); k_dflt ( (refine' eqTup2 ?uzq ?tazq ?tbzq ?e1zq ?e2zq ?_; (case uzq => exact Lv.units (by assumption)); (case tazq => first | exact News.isTup (by k_asm) (by k_mem) | exact Fr.tup (by k_asm) (by assumption)); (case tbzq => exact News.isTup (by k_asm) (by k_mem)); (case e1zq => exact SeqAt.EqAt.str_str _ _ _ _); (case e2zq => first | exact SeqAt.EqAt.str_str _ _ _ _ | exact SeqAt.EqAt.int_str _ _ _ _ | exact SeqAt.EqAt.tuple_str _ _ (Fr.tup (by k_asm) (by assumption)) (Lv.units (Lv.in1 (by assumption)))); k_whole)))
  k_with "compareOp In str ref" => (k_here; (with_reducible show wpAny _ _ (compareOp CmpOp.In (Value.str _ _) (Value.ref _)) _ _ _); (with_unfolding_all refine' in_tuple_strs ?k1zq ?k2zq ?_; (case k1zq => exact News.isTup (by k_asm) (List.Mem.head _)); (case k2zq => kde_strs); k_whole); (rename News _ _ _ _ => zzNq; replace zzNq := News.tail' zzNq); (try k_sweep))
  k_with "compareOp NotIn int ref" => (k_here; k_dflt (refine' notInD ?Nzq ?mzq ?dzq ?lzq ?_; (case Nzq => k_asm); (case mzq => k_mem); (case dzq => with_reducible assumption); (case lzq => with_reducible assumption); k_whole))
  k_with "assign Tuple" => (k_here; (with_reducible show wpAny _ _ (assign (PySem.Expr.Tuple _ _ _) _ (Value.ref _)) _ _ _); k_dflt (refine' kun_list ?k1zq ?k2zq ?k3zq ?k4zq ?k5zq ?k6zq ?_; (case k1zq => k_asm); (case k2zq => k_asm); (case k3zq => exact News.isList (by k_asm) (by k_mem)); (case k4zq => exact Lv.hh (by assumption)); (case k5zq => exact rfl); (case k6zq => exact rfl); k_whole); intro zzhq zzFq zzNq; (try k_sweep))
  trivial
section
variable {prog : Program} {w : World} {A : Around} {E : Value → Shared → Prop} {s : Shared} {h₀ : Heap} {L d : Addr} {m : Str → Option Value} {news : Led} {o : Obj}
theorem sliceTwoAN {value slice : PySem.Expr} {t : Addr} {x y : Value} {u : Tok} {n : Nat} {Q : Value → Shared → Prop}
    (F : Fr h₀ L s.heap m) (N : News h₀ L s.heap news) (ht0 : (t, seqObj "tuple" (List.toArray [x, y]) n) ∈ news)
    (h : ∀ h', Fr h₀ L h' m → News h₀ L h' news → Q (.ref t) { s with heap := h' })
    (hs : subscripted slice false (.ref t) (.ref s.heap.objs.size) = operate [.ref s.heap.objs.size, .ref t] (getItem (.ref t) (.ref s.heap.objs.size)) := by with_unfolding_all rfl)
    (hg : ∀ r, letTemporaryGo value (.ref t) r = pure () := by intro _; with_unfolding_all rfl) :
    wpAny (model prog w) A (subscriptTail value slice (.ref t) (.ref s.heap.objs.size)) Q E { s with heap := s.heap.push { cls := .type "slice", data := .fields #[.none, .int 2 u, .none] } } := by
  have ht' : IsTup (s.heap.push { cls := .type "slice", data := .fields #[.none, .int 2 u, .none] }) t (List.toArray [x, y]) := (News.isTup N ht0).keeps fun _ _ e => Heap.get?_push_of_some _ e
  exact subscriptTail_ops (s := { s with heap := s.heap.push { cls := .type "slice", data := .fields #[.none, .int 2 u, .none] } }) ht'.typeIs slot_tuple_getitem.lookup
    (getItem_tuple_two ht' (Heap.IsSliceOf.new ..) (fun _ => h _ (F.push _) (N.grown fun _ _ e => Heap.get?_push_of_some _ e)) (fun e => absurd rfl e)) hs hg
theorem sliceTwoBN {value slice : PySem.Expr} {t : Addr} {x y z : Value} {l : List Value} {u : Tok} {n : Nat} {Q : Value → Shared → Prop}
    (F : Fr h₀ L s.heap m) (N : News h₀ L s.heap news) (ht0 : (t, seqObj "tuple" (x :: y :: z :: l).toArray n) ∈ news)
    (h : ∀ h' r, Fr h₀ L h' m → News h₀ L h' ((r, seqObj "tuple" (List.toArray [x, y]) 0) :: news) → (∀ p ∈ news, p.1 < r) → Q (.ref r) { s with heap := h' })
    (hs : subscripted slice false (.ref t) (.ref s.heap.objs.size) = operate [.ref s.heap.objs.size, .ref t] (getItem (.ref t) (.ref s.heap.objs.size)) := by with_unfolding_all rfl)
    (hg : ∀ r, letTemporaryGo value (.ref t) r = pure () := by intro _; with_unfolding_all rfl) :
    wpAny (model prog w) A (subscriptTail value slice (.ref t) (.ref s.heap.objs.size)) Q E { s with heap := s.heap.push { cls := .type "slice", data := .fields #[.none, .int 2 u, .none] } } := by
  have ht' : IsTup (s.heap.push { cls := .type "slice", data := .fields #[.none, .int 2 u, .none] }) t (x :: y :: z :: l).toArray := (News.isTup N ht0).keeps fun _ _ e => Heap.get?_push_of_some _ e
  refine subscriptTail_ops (s := { s with heap := s.heap.push { cls := .type "slice", data := .fields #[.none, .int 2 u, .none] } }) ht'.typeIs slot_tuple_getitem.lookup
    (getItem_tuple_two ht' (Heap.IsSliceOf.new ..) (fun e => nomatch e) (fun _ => ?_)) hs hg
  have N1 := News.push (F.push { cls := .type "slice", data := .fields #[.none, .int 2 u, .none] }) (N.grown fun _ _ e => Heap.get?_push_of_some _ e) { cls := .type "tuple", data := .seq (List.toArray [x, y]) }
  rw [Heap.size_push] at N1
  show Q (.ref (s.heap.push _).objs.size) _
  rw [Heap.size_push]
  exact h _ _ ((F.push _).push _) N1 fun p hp => Nat.lt_succ_of_lt (Heap.lt_size (N p hp).1)
theorem sliceTwoN {value slice : PySem.Expr} {t : Addr} {x y : Value} {l : List Value} {u : Tok} {n : Nat} {Q : Value → Shared → Prop}
    (F : Fr h₀ L s.heap m) (N : News h₀ L s.heap news) (ht0 : (t, seqObj "tuple" (x :: y :: l).toArray n) ∈ news)
    (h : ∀ h' r n', Fr h₀ L h' m → News h₀ L h' ((r, seqObj "tuple" (List.toArray [x, y]) n') :: news) → Q (.ref r) { s with heap := h' })
    (hs : subscripted slice false (.ref t) (.ref s.heap.objs.size) = operate [.ref s.heap.objs.size, .ref t] (getItem (.ref t) (.ref s.heap.objs.size)) := by with_unfolding_all rfl)
    (hg : ∀ r, letTemporaryGo value (.ref t) r = pure () := by intro _; with_unfolding_all rfl) :
    wpAny (model prog w) A (subscriptTail value slice (.ref t) (.ref s.heap.objs.size)) Q E { s with heap := s.heap.push { cls := .type "slice", data := .fields #[.none, .int 2 u, .none] } } := by
  cases l with
  | nil => exact sliceTwoAN F N ht0 (fun h' F' N' => h h' t n F' fun q hq => (List.mem_cons.mp hq).elim (fun e => e ▸ N' _ ht0) (N' q)) hs hg
  | cons z l => exact sliceTwoBN F N ht0 (fun h' r F' N' _ => h h' r 0 F' N') hs hg
theorem eqTup2N {a b : Addr} {x1 x2 : Str} {t1 t2 t3 : Tok} {y : Value} {imm : Led} {n nb : Nat} {Q : Value → Shared → Prop} (N : News h₀ L s.heap news) (ha : (a, seqObj "tuple" (List.toArray [.str x1 t1, y]) n) ∈ news) (hb : (b, seqObj "tuple" (List.toArray [.str x2 t2, .str (Str.ofString "neg") t3]) nb) ∈ news)
    (hu : A.units < cLine) (hu1 : A.in1.units < cLine) (hn : EqNeg imm y) (H : ∀ q ∈ imm, q ∈ news) (h : ∀ bb, Q (.bool (bb && (x1 == x2))) s) : wpAny (model prog w) A (compareOp .Eq (.ref a) (.ref b)) Q E s := by
  obtain ⟨bb, e⟩ := hn A.in1 s t3 hu1 fun q hq => (N q (H q hq)).1
  exact eqTup2 hu (News.isTup N ha) (News.isTup N hb) (SeqAt.EqAt.str_str _ _ _ _) e (h bb)
theorem max0N {b : Int} {t u : Tok} {Q : Value → Shared → Prop} (hh : A.handled = none) (F : Fr h₀ L s.heap m) (N : News h₀ L s.heap news)
    (h : ∀ h' tk x t', 0 ≤ x → Fr h₀ L h' m → News h₀ L h' news → Q (.int x t') { s with heap := h', toks := tk }) :
    wpAny (model prog w) A (call (.builtin "max") [.int 0 t, .int b u]) Q E s :=
  max_two_N hh F N fun h' tk F' N' => h h' tk _ _ (by split <;> (first | lia | omega)) F' N'
theorem itemN0 {value slice : PySem.Expr} {t : Addr} {x : Value} {l : List Value} {n : Nat} {u : Tok} {Q : Value → Shared → Prop} (N : News h₀ L s.heap news) (ht : (t, seqObj "tuple" (x :: l).toArray n) ∈ news) (h : Q x s)
    (hs : subscripted slice false (.ref t) (.int 0 u) = operate [.ref t, .int 0 u] (getItem (.ref t) (.int 0 u)) := by with_unfolding_all rfl) :
    wpAny (model prog w) A (subscriptTail value slice (.ref t) (.int 0 u)) Q E s :=
  item_tupleT (News.isTup N ht) (by decide) (by decide) (j := 0) (by unfold seqIndex?; simp) (by simp) h hs
end

end

section
theorem base_C15 : True := by
  k_with_none
  w_top off
  k_with "subscriptTail" => (k_here; (with_reducible show wpAny _ _ (subscriptTail _ _ (Value.ref _) (Value.int _ _)) _ _ _); k_dflt ( (refine' itemT ?Fzq ?tzq ?azq ?bzq ?czq ?dzq ?_; (case Fzq => k_asm); (case tzq => assumption); (case azq => decide); (case bzq => decide); (case czq => rfl); (case dzq => rfl); k_whole)))
  k_with "size_fits" => with_reducible assumption
  k_with "k_room" => exact Lv.room (by assumption)
  k_with "k_inst" => exact instUp (by assumption) (Fr.keep (by k_asm))
  k_with "call builtin:len" => (k_here; (with_reducible show wpAny _ _ (call (Value.builtin "len") [Value.ref _]) _ _ _); k_dflt ( (refine' lenT ?Fzq ?tzq ?azq ?bzq ?_; (case Fzq => k_asm); (case tzq => assumption); (case azq => first | assumption | rfl); (case bzq => first | assumption | decide); k_whole)))
  k_with "eval ListComp" => (k_here; (with_reducible rename Fr _ _ _ _ => zzlFq); k_dflt ( (refine' comp_inv zzlFq ?k1zq ?k2zq ?k3zq ?k4zq ?k5zq ?_ ?k6zq; (case k1zq => with_unfolding_all rfl); (case k2zq => decide); (case k3zq => with_unfolding_all rfl); (case k4zq => decide); (case k5zq => with_unfolding_all rfl); (case k6zq => (intro _; with_unfolding_all rfl)); k_whole)))
  k_with "exec Assign cons ListComp" => (k_here; (with_reducible rename Fr _ _ _ _ => zzlFq); k_dflt ( (refine' comp_assign zzlFq ?j1zq ?j2zq ?k1zq ?k2zq ?k3zq ?k4zq ?k5zq ?j3zq ?j4zq ?_ ?k6zq; (case j1zq => with_unfolding_all rfl); (case j2zq => with_unfolding_all rfl); (case j3zq => with_unfolding_all rfl); (case j4zq => with_unfolding_all rfl); (case k1zq => with_unfolding_all rfl); (case k2zq => decide); (case k3zq => with_unfolding_all rfl); (case k4zq => decide); (case k5zq => with_unfolding_all rfl); (case k6zq => (intro _; with_unfolding_all rfl)); k_whole)))
  k_with "compareOp NotEq ref ref" => (k_here; (with_reducible show wpAny _ _ (compareOp CmpOp.NotEq (Value.ref _) (Value.ref _)) _ _ _); k_dflt ( (refine' neNil ?azq ?bzq ?uzq ?_; (case azq => is_list); (case bzq => is_list); (case uzq => exact Lv.units (by assumption)); k_whole)))
  k_with "compareOp Eq ref ref" => (k_here; (with_reducible show wpAny _ _ (compareOp CmpOp.Eq (Value.ref _) (Value.ref _)) _ _ _); k_dflt ( (refine' eqNil ?azq ?bzq ?uzq ?_; (case azq => is_list); (case bzq => is_list); (case uzq => exact Lv.units (by assumption)); k_whole)))
  k_with "compareOp NotIn str ref" => (k_here; k_dflt (refine' topNotIn_K ?Fzq ?Xzq ?lzq ?kzq ?ezq ?ozq ?_; (case Fzq => k_asm); (case Xzq => k_asm); (case lzq => k_is); (case kzq => k_keys); (case ezq => first | with_reducible assumption | k_is); (case ozq => decide)))
  k_with "eval Name" => (k_here; k_inBlock; (with_reducible rename Fr _ _ _ _ => zzkF); k_dflt (first | (refine' nameQ_L zzkF ?azq ?_ ?bzq ?czq ?dzq ?ezq; (case azq => exact rfl); (case bzq => rfl); (case czq => rfl); (case dzq => rfl); (case ezq => decide); k_whole) | (refine' nameQ_F ?Nzq ?azq ?mzq ?dzq ?_ ?czq ?kzq ?xzq ?yzq; (case Nzq => k_asm); (case azq => exact rfl); (case mzq => k_mem); (case dzq => assumption); (case czq => rfl); (case kzq => rfl); (case xzq => decide); (case yzq => decide); k_whole) | (refine' nameQ_B zzkF ?k1zq ?k2zq ?k3zq ?k4zq ?k5zq ?_ ?bzq ?czq ?dzq ?ezq ?fzq; (case bzq => rfl); (case czq => rfl); (case dzq => rfl); (case ezq => rfl); (case fzq => decide); (case k1zq => k_asm); (case k2zq => k_asm); (case k3zq => k_is); (case k4zq => boot_by_name); (case k5zq => decide); k_whole)))
  k_with "subscriptTail" => (k_here; (with_reducible show wpAny _ _ (subscriptTail _ _ (Value.ref _) (Value.int 0 _)) _ _ _); k_dflt ( (refine' itemT0 ?Fzq ?tzq ?_; (case Fzq => k_asm); (case tzq => with_reducible assumption); k_whole)))
  k_with "ite" => (first | with_reducible refine ite_known_t (by assumption) ?_ | with_reducible refine ite_known_f (by assumption) ?_ | with_reducible refine ite_known_t rfl ?_ | with_reducible refine ite_known_f rfl ?_)
  k_with "k_all" => with_reducible assumption
  k_with "k_all" => ((repeat (rename _ ∧ _ => zzhqq; obtain ⟨_, _⟩ := zzhqq)); exact of_allLt (by with_reducible assumption))
  k_with "subscriptTail" => (k_here; (with_reducible show wpAny _ _ (subscriptTail _ _ (Value.ref _) (Value.str _ _)) _ _ _); k_dflt (refine' topItem_K ?Fzq ?Xzq ?lzq ?kzq ?ezq ?_; (case Fzq => k_asm); (case Xzq => k_asm); (case lzq => k_is); (case kzq => k_keys); (case ezq => with_reducible assumption); k_whole))
  k_with "subscriptTail" => (k_here; (with_reducible show wpAny _ _ (subscriptTail _ (PySem.Expr.Slice (some _) none none _) (Value.ref _) (Value.ref _)) _ _ _); k_dflt ( (refine' sliceT (a := 1) ?Fzq ?Nzq ?tzq ?azq ?bzq ?czq ?_ ?dzq ?ezq; (case Fzq => k_asm); (case Nzq => k_asm); (case tzq => assumption); (case azq => decide); (case bzq => exact Nat.le_of_ble_eq_true rfl); (case czq => exact Nat.le_of_ble_eq_true rfl); (case dzq => with_unfolding_all rfl); (case ezq => (intro _; with_unfolding_all rfl)); k_whole; intro zzhq zzrq zzFq zzNq zzl1; (try k_lt zzl1))))
  k_with "k_mem" => first | exact List.Mem.head _ | (refine' List.Mem.tail _ ?_; k_mem) | (show List.Mem _ _; assumption)
  k_with "unpackItems ref" => (k_here; k_dflt (refine' unpackItemsN_ ?k1zq ?k2zq ?k3zq ?k4zq ?k5zq ?_; (case k1zq => k_asm); (case k2zq => k_asm); (case k3zq => first | (with_reducible assumption) | exact News.isTup (by k_asm) (by k_mem) | exact Fr.tup (by k_asm) (by assumption)); (case k4zq => exact Lv.hh (by assumption)); (case k5zq => exact rfl); k_whole); intro zzhq zzFq zzNq; (try k_sweep))
  k_with "assign Tuple" => (k_here; (with_reducible show wpAny _ _ (assign (PySem.Expr.Tuple _ _ _) _ (Value.ref _)) _ _ _); k_dflt (refine' unpackN_ ?k1zq ?k2zq ?k3zq ?k4zq ?k5zq ?k6zq ?_; (case k1zq => k_asm); (case k2zq => k_asm); (case k3zq => first | (with_reducible assumption) | exact News.isTup (by k_asm) (by k_mem) | exact Fr.tup (by k_asm) (by assumption)); (case k4zq => exact Lv.hh (by assumption)); (case k5zq => exact rfl); (case k6zq => exact rfl); k_whole); intro zzhq zzFq zzNq; (try k_sweep))
  k_with "last exec While" => (k_here; (refine while_stop ?_))
  k_with "call builtin:list.pop" => (k_here; (try dsimp only); k_dflt ( (refine' kl_pop ?Fzq ?Nzq ?ezq ?Uzq ?zzq ?_; (case Fzq => k_asm); (case Nzq => k_asm); (case Uzq => k_upd); (case ezq => exact kl_last_snoc _ _); (case zzq => with_reducible assumption); k_whole; intro zzhq zzFq zzNq)))
  k_with "compareOp In int ref" => (k_here; k_dflt (refine' inD ?Nzq ?mzq ?dzq ?lzq ?_; (case Nzq => k_asm); (case mzq => k_mem); (case dzq => with_reducible assumption); (case lzq => with_reducible assumption); k_whole))
  k_with "subscriptTail" => (k_here; (with_reducible show wpAny _ _ (subscriptTail _ _ (Value.ref _) (Value.int _ _)) _ _ _); k_dflt (first | (refine' itemD ?Nzq ?mzq ?dzq ?vzq ?_ ?szq; (case Nzq => k_asm); (case mzq => k_mem); (case dzq => with_reducible assumption); (case vzq => with_reducible assumption); (case szq => with_unfolding_all rfl); k_whole) | (refine' itemO ?Fzq ?tzq ?azq ?xzq ?zzq ?_ ?szq; (case Fzq => k_asm); (case tzq => with_reducible assumption); (case azq => with_reducible assumption); (case xzq => with_reducible assumption); (case zzq => with_reducible assumption); (case szq => with_unfolding_all rfl); k_whole)))
  k_with "setItem ref int" => (k_here; k_dflt (refine' setD ?Fzq ?Nzq ?Uzq ?dzq ?zzq ?_; (case Fzq => k_asm); (case Nzq => k_asm); (case Uzq => k_updF); (case dzq => with_reducible assumption); (case zzq => with_reducible assumption); k_whole; intro zzhq zzoq zzFq zzNq zzdq; (try dsimp only at zzNq)))
  k_with "call builtin:list.extend" => (k_here; (with_reducible show wpAny _ _ (call (Value.builtin _) [Value.ref _, Value.ref _]) _ _ _); k_dflt (refine' extendK ?Fzq ?Nzq ?bzq ?Uzq ?zzq ?_; (case Fzq => k_asm); (case Nzq => k_asm); (case bzq => k_mem); (case Uzq => k_updF); (case zzq => with_reducible assumption); k_whole; intro zzhq zzcq zzFq zzNq; (try dsimp only at zzNq)))
  k_with "newTuple" => (k_here; k_dflt (refine' kup_newTuple ?Fzq ?Nzq ?_ ?zzq; (case Fzq => k_asm); (case Nzq => k_asm); (case zzq => exact Nat.le_of_ble_eq_true rfl)); intro zzDq zzhq zzFq zzNq zzl1; (try k_lt zzl1); (try k_sweep))
  k_with "exec For Name Call cons nil" => (k_here; (with_reducible rename Fr _ _ _ _ => zzlFq); k_dflt (refine' for_inv zzlFq ?j1zq ?j2zq ?j3zq ?_ ?j4zq; (case j1zq => with_unfolding_all rfl); (case j2zq => with_unfolding_all rfl); (case j3zq => with_unfolding_all rfl); (case j4zq => (intro _; with_unfolding_all rfl)); k_whole))
  k_with "execs cons Assign cons" => (k_here; (with_reducible refine wpAny_execs_cons ?_); (try dsimp only))
  k_with "subscriptTail" => (k_here; (with_reducible show wpAny _ _ (subscriptTail _ (PySem.Expr.Slice none (some _) none _) (Value.ref _) (Value.ref _)) _ _ _); k_dflt (first | (refine' sliceTwoA ?Fzq ?Nzq ?tzq ?_ ?dzq ?ezq; (case Fzq => k_asm); (case Nzq => k_asm); (case tzq => assumption); (case dzq => with_unfolding_all rfl); (case ezq => (intro _; with_unfolding_all rfl)); k_whole; intro zzhq zzFq zzNq) | (refine' sliceTwoB ?Fzq ?Nzq ?tzq ?_ ?dzq ?ezq; (case Fzq => k_asm); (case Nzq => k_asm); (case tzq => assumption); (case dzq => with_unfolding_all rfl); (case ezq => (intro _; with_unfolding_all rfl)); k_whole; intro zzhq zzrq zzFq zzNq zzl1; (try k_lt zzl1))))
  k_with "compareOp Eq ref ref" => (k_here; (with_reducible show wpAny _ _ (compareOp CmpOp.Eq (Value.ref _) (Value.ref _)) _ _ _); k_dflt ( (refine' eqTup2 ?uzq ?tazq ?tbzq ?e1zq ?e2zq ?_; (case uzq => exact Lv.units (by assumption)); (case tazq => first | exact News.isTup (by k_asm) (by k_mem) | exact Fr.tup (by k_asm) (by assumption)); (case tbzq => exact News.isTup (by k_asm) (by k_mem)); (case e1zq => exact SeqAt.EqAt.str_str _ _ _ _); (case e2zq => first | exact SeqAt.EqAt.str_str _ _ _ _ | exact SeqAt.EqAt.int_str _ _ _ _ | exact SeqAt.EqAt.tuple_str _ _ (Fr.tup (by k_asm) (by assumption)) (Lv.units (Lv.in1 (by assumption)))); k_whole)))
  k_with "compareOp In str ref" => (k_here; (with_reducible show wpAny _ _ (compareOp CmpOp.In (Value.str _ _) (Value.ref _)) _ _ _); (with_unfolding_all refine' in_tuple_strs ?k1zq ?k2zq ?_; (case k1zq => exact News.isTup (by k_asm) (List.Mem.head _)); (case k2zq => kde_strs); k_whole); (rename News _ _ _ _ => zzNq; replace zzNq := News.tail' zzNq); (try k_sweep))
  k_with "compareOp NotIn int ref" => (k_here; k_dflt (refine' notInD ?Nzq ?mzq ?dzq ?lzq ?_; (case Nzq => k_asm); (case mzq => k_mem); (case dzq => with_reducible assumption); (case lzq => with_reducible assumption); k_whole))
  k_with "assign Tuple" => (k_here; (with_reducible show wpAny _ _ (assign (PySem.Expr.Tuple _ _ _) _ (Value.ref _)) _ _ _); k_dflt (refine' kun_list ?k1zq ?k2zq ?k3zq ?k4zq ?k5zq ?k6zq ?_; (case k1zq => k_asm); (case k2zq => k_asm); (case k3zq => exact News.isList (by k_asm) (by k_mem)); (case k4zq => exact Lv.hh (by assumption)); (case k5zq => exact rfl); (case k6zq => exact rfl); k_whole); intro zzhq zzFq zzNq; (try k_sweep))
  trivial
section
variable {prog : Program} {w : World} {A : Around} {s : Shared} {R : Result → Shared → Prop} {a c o b : Addr} {as : List Addr} {bs : List Value} {ops : List Op} {begins : List Int} {h₀ : Heap} {L : Addr} {m : Str → Option Value} {news : Led}
   {p : Program} {loose : List Str} {mean : ExcName → Option Value} {mg mb : Str → Option Value}
theorem wellf_k (F : Fr h₀ L s.heap m) (N : News h₀ L s.heap news) (X : (Mine.hd.heap_1 w.params).In h₀) (T : Top p loose mean mg mb h₀) (hv : Lv A 7)
   (hc : CodeAt w.params s.heap c o b as bs ops begins) (hz : ops.length ≤ 10) (hz1 : 1 ≤ ops.length) (hz2 : begins.length ≤ 2) (hl2 : ∀ op ∈ ops, (labels op).length ≤ 2)
   (h : ∀ h' tk d r c xs imm, Fr h₀ L h' m → News h₀ L h' ((r, seqObj "list" (refsP xs).toArray c) :: (news ++ imm)) → (∀ q ∈ news ++ imm, q.1 ≠ r) → Ext s.heap h' → TupAll imm → FaultsIn imm xs → xs.length ≤ 33 → (xs.map (·.1)).Pairwise (fun x y => ltP x y = true) → (∀ q ∈ xs, 0 ≤ q.1.1 ∧ q.1.1 ≤ ops.length) → (xs = [] ↔ formsOk ops begins ∧ ∃ K, Clo ops begins K) → R (.ok (.ret (.ref r))) { s with heap := h', toks := tk, drawn := d }) :
   codeAny (model prog w) A (.call (.ref 65) ⟨[.ref c], []⟩) R s :=
  wellf_c (X.keeps F.keep) (T.keeps F.keep) hv hc hz hz1 hz2 hl2 fun h' tk d r c xs imm e1 e2 e3 e4 e5 e6 e7 e8 => by
    have N' : News h₀ L h' ((r, seqObj "list" (refsP xs).toArray c) :: (news ++ imm)) := fun q hq => News.ext_list F N e1 e2 q (by simp only [List.mem_cons, List.mem_append] at hq ⊢; rcases hq with h | h | h <;> simp [h])
    refine h h' tk d r c xs imm (fr_ext F e1) N' (fun q hq => ?_) e1 e3 e4 e5 e6 e7 e8
    rcases List.mem_append.mp hq with hq | hq
    · exact News.ext_apart N (e2 _ (.head _)).2 q hq
    · exact apart_tup N' (.head _) (fun q hq => .tail _ (List.mem_append_right _ hq)) e3 list_cls q hq
theorem good_k (F : Fr h₀ L s.heap m) (X : (Mine.hd.heap_1 w.params).In h₀) (T : Top p loose mean mg mb h₀) (hv : Lv A 5)
   (hc : CodeAt w.params s.heap c o b as bs ops begins) (hz : ops.length ≤ 10) (hz2 : begins.length ≤ 2) (hl2 : ∀ op ∈ ops, (labels op).length ≤ 2) (hb0 : ∀ y ∈ begins, 0 ≤ y)
   (h : ∀ h' tk v, Fr h₀ L h' m → (v = true ↔ formsOk ops begins ∧ ∃ K, Clo ops begins K) → R (.ok (.ret (.bool v))) { s with heap := h', toks := tk }) :
   codeAny (model prog w) A (.call (.ref 128) ⟨[.ref c], []⟩) R s :=
  good_c (X.keeps F.keep) (T.keeps F.keep) hv hc hz hz2 hl2 hb0 fun h' tk v e1 e2 => h h' tk v (fr_ext F e1) e2
end

end

section
theorem base_L2 : True := by
  k_with_none
  w_top off
  k_with "subscriptTail" => (k_here; (with_reducible show wpAny _ _ (subscriptTail _ _ (Value.ref _) (Value.int _ _)) _ _ _); k_dflt ( (refine' itemT ?Fzq ?tzq ?azq ?bzq ?czq ?dzq ?_; (case Fzq => k_asm); (case tzq => assumption); (case azq => decide); (case bzq => decide); (case czq => rfl); (case dzq => rfl); k_whole)))
  k_with "size_fits" => with_reducible assumption
  k_with "k_room" => exact Lv.room (by assumption)
  k_with "k_inst" => exact instUp (by assumption) (Fr.keep (by k_asm))
  k_with "call builtin:len" => (k_here; (with_reducible show wpAny _ _ (call (Value.builtin "len") [Value.ref _]) _ _ _); k_dflt ( (refine' lenT ?Fzq ?tzq ?azq ?bzq ?_; (case Fzq => k_asm); (case tzq => assumption); (case azq => first | assumption | rfl); (case bzq => first | assumption | decide); k_whole)))
  k_with "eval ListComp" => (k_here; (with_reducible rename Fr _ _ _ _ => zzlFq); k_dflt ( (refine' comp_inv zzlFq ?k1zq ?k2zq ?k3zq ?k4zq ?k5zq ?_ ?k6zq; (case k1zq => with_unfolding_all rfl); (case k2zq => decide); (case k3zq => with_unfolding_all rfl); (case k4zq => decide); (case k5zq => with_unfolding_all rfl); (case k6zq => (intro _; with_unfolding_all rfl)); k_whole)))
  k_with "exec Assign cons ListComp" => (k_here; (with_reducible rename Fr _ _ _ _ => zzlFq); k_dflt ( (refine' comp_assign zzlFq ?j1zq ?j2zq ?k1zq ?k2zq ?k3zq ?k4zq ?k5zq ?j3zq ?j4zq ?_ ?k6zq; (case j1zq => with_unfolding_all rfl); (case j2zq => with_unfolding_all rfl); (case j3zq => with_unfolding_all rfl); (case j4zq => with_unfolding_all rfl); (case k1zq => with_unfolding_all rfl); (case k2zq => decide); (case k3zq => with_unfolding_all rfl); (case k4zq => decide); (case k5zq => with_unfolding_all rfl); (case k6zq => (intro _; with_unfolding_all rfl)); k_whole)))
  k_with "compareOp NotEq ref ref" => (k_here; (with_reducible show wpAny _ _ (compareOp CmpOp.NotEq (Value.ref _) (Value.ref _)) _ _ _); k_dflt ( (refine' neNil ?azq ?bzq ?uzq ?_; (case azq => is_list); (case bzq => is_list); (case uzq => exact Lv.units (by assumption)); k_whole)))
  k_with "compareOp Eq ref ref" => (k_here; (with_reducible show wpAny _ _ (compareOp CmpOp.Eq (Value.ref _) (Value.ref _)) _ _ _); k_dflt ( (refine' eqNil ?azq ?bzq ?uzq ?_; (case azq => is_list); (case bzq => is_list); (case uzq => exact Lv.units (by assumption)); k_whole)))
  k_with "compareOp NotIn str ref" => (k_here; k_dflt (refine' topNotIn_K ?Fzq ?Xzq ?lzq ?kzq ?ezq ?ozq ?_; (case Fzq => k_asm); (case Xzq => k_asm); (case lzq => k_is); (case kzq => k_keys); (case ezq => first | with_reducible assumption | k_is); (case ozq => decide)))
  k_with "eval Name" => (k_here; k_inBlock; (with_reducible rename Fr _ _ _ _ => zzkF); k_dflt (first | (refine' nameQ_L zzkF ?azq ?_ ?bzq ?czq ?dzq ?ezq; (case azq => exact rfl); (case bzq => rfl); (case czq => rfl); (case dzq => rfl); (case ezq => decide); k_whole) | (refine' nameQ_F ?Nzq ?azq ?mzq ?dzq ?_ ?czq ?kzq ?xzq ?yzq; (case Nzq => k_asm); (case azq => exact rfl); (case mzq => k_mem); (case dzq => assumption); (case czq => rfl); (case kzq => rfl); (case xzq => decide); (case yzq => decide); k_whole) | (refine' nameQ_B zzkF ?k1zq ?k2zq ?k3zq ?k4zq ?k5zq ?_ ?bzq ?czq ?dzq ?ezq ?fzq; (case bzq => rfl); (case czq => rfl); (case dzq => rfl); (case ezq => rfl); (case fzq => decide); (case k1zq => k_asm); (case k2zq => k_asm); (case k3zq => k_is); (case k4zq => boot_by_name); (case k5zq => decide); k_whole)))
  k_with "subscriptTail" => (k_here; (with_reducible show wpAny _ _ (subscriptTail _ _ (Value.ref _) (Value.int 0 _)) _ _ _); k_dflt ( (refine' itemT0 ?Fzq ?tzq ?_; (case Fzq => k_asm); (case tzq => with_reducible assumption); k_whole)))
  k_with "ite" => (first | with_reducible refine ite_known_t (by assumption) ?_ | with_reducible refine ite_known_f (by assumption) ?_ | with_reducible refine ite_known_t rfl ?_ | with_reducible refine ite_known_f rfl ?_)
  k_with "k_all" => with_reducible assumption
  k_with "k_all" => ((repeat (rename _ ∧ _ => zzhqq; obtain ⟨_, _⟩ := zzhqq)); exact of_allLt (by with_reducible assumption))
  k_with "subscriptTail" => (k_here; (with_reducible show wpAny _ _ (subscriptTail _ _ (Value.ref _) (Value.str _ _)) _ _ _); k_dflt (refine' topItem_K ?Fzq ?Xzq ?lzq ?kzq ?ezq ?_; (case Fzq => k_asm); (case Xzq => k_asm); (case lzq => k_is); (case kzq => k_keys); (case ezq => with_reducible assumption); k_whole))
  k_with "subscriptTail" => (k_here; (with_reducible show wpAny _ _ (subscriptTail _ (PySem.Expr.Slice (some _) none none _) (Value.ref _) (Value.ref _)) _ _ _); k_dflt ( (refine' sliceT (a := 1) ?Fzq ?Nzq ?tzq ?azq ?bzq ?czq ?_ ?dzq ?ezq; (case Fzq => k_asm); (case Nzq => k_asm); (case tzq => assumption); (case azq => decide); (case bzq => exact Nat.le_of_ble_eq_true rfl); (case czq => exact Nat.le_of_ble_eq_true rfl); (case dzq => with_unfolding_all rfl); (case ezq => (intro _; with_unfolding_all rfl)); k_whole; intro zzhq zzrq zzFq zzNq zzl1; (try k_lt zzl1))))
  k_with "k_mem" => first | exact List.Mem.head _ | (refine' List.Mem.tail _ ?_; k_mem) | (show List.Mem _ _; assumption)
  k_with "unpackItems ref" => (k_here; k_dflt (refine' unpackItemsN_ ?k1zq ?k2zq ?k3zq ?k4zq ?k5zq ?_; (case k1zq => k_asm); (case k2zq => k_asm); (case k3zq => first | (with_reducible assumption) | exact News.isTup (by k_asm) (by k_mem) | exact Fr.tup (by k_asm) (by assumption)); (case k4zq => exact Lv.hh (by assumption)); (case k5zq => exact rfl); k_whole); intro zzhq zzFq zzNq; (try k_sweep))
  k_with "assign Tuple" => (k_here; (with_reducible show wpAny _ _ (assign (PySem.Expr.Tuple _ _ _) _ (Value.ref _)) _ _ _); k_dflt (refine' unpackN_ ?k1zq ?k2zq ?k3zq ?k4zq ?k5zq ?k6zq ?_; (case k1zq => k_asm); (case k2zq => k_asm); (case k3zq => first | (with_reducible assumption) | exact News.isTup (by k_asm) (by k_mem) | exact Fr.tup (by k_asm) (by assumption)); (case k4zq => exact Lv.hh (by assumption)); (case k5zq => exact rfl); (case k6zq => exact rfl); k_whole); intro zzhq zzFq zzNq; (try k_sweep))
  k_with "last exec While" => (k_here; (refine while_stop ?_))
  k_with "call builtin:list.pop" => (k_here; (try dsimp only); k_dflt ( (refine' kl_pop ?Fzq ?Nzq ?ezq ?Uzq ?zzq ?_; (case Fzq => k_asm); (case Nzq => k_asm); (case Uzq => k_upd); (case ezq => exact kl_last_snoc _ _); (case zzq => with_reducible assumption); k_whole; intro zzhq zzFq zzNq)))
  k_with "compareOp In int ref" => (k_here; k_dflt (refine' inD ?Nzq ?mzq ?dzq ?lzq ?_; (case Nzq => k_asm); (case mzq => k_mem); (case dzq => with_reducible assumption); (case lzq => with_reducible assumption); k_whole))
  k_with "subscriptTail" => (k_here; (with_reducible show wpAny _ _ (subscriptTail _ _ (Value.ref _) (Value.int _ _)) _ _ _); k_dflt (first | (refine' itemD ?Nzq ?mzq ?dzq ?vzq ?_ ?szq; (case Nzq => k_asm); (case mzq => k_mem); (case dzq => with_reducible assumption); (case vzq => with_reducible assumption); (case szq => with_unfolding_all rfl); k_whole) | (refine' itemO ?Fzq ?tzq ?azq ?xzq ?zzq ?_ ?szq; (case Fzq => k_asm); (case tzq => with_reducible assumption); (case azq => with_reducible assumption); (case xzq => with_reducible assumption); (case zzq => with_reducible assumption); (case szq => with_unfolding_all rfl); k_whole)))
  k_with "setItem ref int" => (k_here; k_dflt (refine' setD ?Fzq ?Nzq ?Uzq ?dzq ?zzq ?_; (case Fzq => k_asm); (case Nzq => k_asm); (case Uzq => k_updF); (case dzq => with_reducible assumption); (case zzq => with_reducible assumption); k_whole; intro zzhq zzoq zzFq zzNq zzdq; (try dsimp only at zzNq)))
  k_with "call builtin:list.extend" => (k_here; (with_reducible show wpAny _ _ (call (Value.builtin _) [Value.ref _, Value.ref _]) _ _ _); k_dflt (refine' extendK ?Fzq ?Nzq ?bzq ?Uzq ?zzq ?_; (case Fzq => k_asm); (case Nzq => k_asm); (case bzq => k_mem); (case Uzq => k_updF); (case zzq => with_reducible assumption); k_whole; intro zzhq zzcq zzFq zzNq; (try dsimp only at zzNq)))
  k_with "newTuple" => (k_here; k_dflt (refine' kup_newTuple ?Fzq ?Nzq ?_ ?zzq; (case Fzq => k_asm); (case Nzq => k_asm); (case zzq => exact Nat.le_of_ble_eq_true rfl)); intro zzDq zzhq zzFq zzNq zzl1; (try k_lt zzl1); (try k_sweep))
  k_with "exec For Name Call cons nil" => (k_here; (with_reducible rename Fr _ _ _ _ => zzlFq); k_dflt (refine' for_inv zzlFq ?j1zq ?j2zq ?j3zq ?_ ?j4zq; (case j1zq => with_unfolding_all rfl); (case j2zq => with_unfolding_all rfl); (case j3zq => with_unfolding_all rfl); (case j4zq => (intro _; with_unfolding_all rfl)); k_whole))
  k_with "execs cons Assign cons" => (k_here; (with_reducible refine wpAny_execs_cons ?_); (try dsimp only))
  k_with "subscriptTail" => (k_here; (with_reducible show wpAny _ _ (subscriptTail _ (PySem.Expr.Slice none (some _) none _) (Value.ref _) (Value.ref _)) _ _ _); k_dflt (first | (refine' sliceTwoA ?Fzq ?Nzq ?tzq ?_ ?dzq ?ezq; (case Fzq => k_asm); (case Nzq => k_asm); (case tzq => assumption); (case dzq => with_unfolding_all rfl); (case ezq => (intro _; with_unfolding_all rfl)); k_whole; intro zzhq zzFq zzNq) | (refine' sliceTwoB ?Fzq ?Nzq ?tzq ?_ ?dzq ?ezq; (case Fzq => k_asm); (case Nzq => k_asm); (case tzq => assumption); (case dzq => with_unfolding_all rfl); (case ezq => (intro _; with_unfolding_all rfl)); k_whole; intro zzhq zzrq zzFq zzNq zzl1; (try k_lt zzl1))))
  k_with "compareOp Eq ref ref" => (k_here; (with_reducible show wpAny _ _ (compareOp CmpOp.Eq (Value.ref _) (Value.ref _)) _ _ _); k_dflt ( (refine' eqTup2 ?uzq ?tazq ?tbzq ?e1zq ?e2zq ?_; (case uzq => exact Lv.units (by assumption)); (case tazq => first | exact News.isTup (by k_asm) (by k_mem) | exact Fr.tup (by k_asm) (by assumption)); (case tbzq => exact News.isTup (by k_asm) (by k_mem)); (case e1zq => exact SeqAt.EqAt.str_str _ _ _ _); (case e2zq => first | exact SeqAt.EqAt.str_str _ _ _ _ | exact SeqAt.EqAt.int_str _ _ _ _ | exact SeqAt.EqAt.tuple_str _ _ (Fr.tup (by k_asm) (by assumption)) (Lv.units (Lv.in1 (by assumption)))); k_whole)))
  k_with "compareOp In str ref" => (k_here; (with_reducible show wpAny _ _ (compareOp CmpOp.In (Value.str _ _) (Value.ref _)) _ _ _); (with_unfolding_all refine' in_tuple_strs ?k1zq ?k2zq ?_; (case k1zq => exact News.isTup (by k_asm) (List.Mem.head _)); (case k2zq => kde_strs); k_whole); (rename News _ _ _ _ => zzNq; replace zzNq := News.tail' zzNq); (try k_sweep))
  k_with "compareOp NotIn int ref" => (k_here; k_dflt (refine' notInD ?Nzq ?mzq ?dzq ?lzq ?_; (case Nzq => k_asm); (case mzq => k_mem); (case dzq => with_reducible assumption); (case lzq => with_reducible assumption); k_whole))
  k_with "assign Tuple" => (k_here; (with_reducible show wpAny _ _ (assign (PySem.Expr.Tuple _ _ _) _ (Value.ref _)) _ _ _); k_dflt (refine' kun_list ?k1zq ?k2zq ?k3zq ?k4zq ?k5zq ?k6zq ?_; (case k1zq => k_asm); (case k2zq => k_asm); (case k3zq => exact News.isList (by k_asm) (by k_mem)); (case k4zq => exact Lv.hh (by assumption)); (case k5zq => exact rfl); (case k6zq => exact rfl); k_whole); intro zzhq zzFq zzNq; (try k_sweep))
  trivial
theorem TpB.turn {a : Int} {i : Nat} (hi : i < 10) (h : TpB a (30 + 41 * (10 - i))) : TpB a (30 + 41 * (10 - (i + 1)) + 41) := h.to (by lia)
theorem TpB.two {a : Int} {i : Nat} (hi : i < 2) (h : TpB a (20 + 2 * (2 - i))) : TpB a (20 + 2 * (2 - (i + 1)) + 2) := h.to (by lia)
inductive OpsIn (imm : Led) : List Addr → List Op → Prop
  | nil : OpsIn imm [] []
  | cons {a : Addr} {op : Op} {as : List Addr} {ops : List Op} : OpIn imm a op → OpsIn imm as ops → OpsIn imm (a :: as) (op :: ops)
theorem OpIn.mono {imm imm' : Led} (h : ∀ q ∈ imm, q ∈ imm') {a : Addr} {op : Op} (x : OpIn imm a op) : OpIn imm' a op := by
  obtain ⟨⟨t0, y, rest, n, h1, h2, h3⟩, h4⟩ := x
  exact ⟨⟨t0, y, rest, n, h _ h1, h2, fun A s t hu H => h3 A s t hu fun q hq => H q (h q hq)⟩, fun hp H => h4 hp fun q hq => H q (h q hq)⟩
theorem OpsIn.mono {imm imm' : Led} (h : ∀ q ∈ imm, q ∈ imm') {as : List Addr} {ops : List Op} (x : OpsIn imm as ops) : OpsIn imm' as ops := by
  induction x with
  | nil => exact .nil
  | cons a _ ih => exact .cons (a.mono h) ih
theorem OpsIn.snoc {imm : Led} {as : List Addr} {ops : List Op} (x : OpsIn imm as ops) {a : Addr} {op : Op} (y : OpIn imm a op) : OpsIn imm (as ++ [a]) (ops ++ [op]) := by
  induction x with
  | nil => exact .cons y .nil
  | cons a _ ih => exact .cons a ih
theorem OpsIn.length {imm : Led} {as : List Addr} {ops : List Op} (x : OpsIn imm as ops) : as.length = ops.length := by
  induction x with
  | nil => rfl
  | cons a _ ih => simp [ih]
theorem OpsIn.at {imm : Led} {h : Heap} (H : ∀ q ∈ imm, h.get? q.1 = some q.2) {as : List Addr} {ops : List Op} (x : OpsIn imm as ops) : OpsAt h as ops := by
  induction x with
  | nil => exact .nil
  | cons a _ ih => exact .cons (a.2 h H) ih
noncomputable def mLaw (D : Addr) (hgt : Int) (th : Tok) (u : Str → Option Value) : Str → Option Value := fun y =>
  if y = Str.ofString "ops" then some (.ref D) else if y = Str.ofString "height" then some (.int hgt th) else u y
theorem mLaw_of {D : Addr} {hgt : Int} {th : Tok} {m : Str → Option Value} (h2 : m (Str.ofString "ops") = some (.ref D)) (h4 : m (Str.ofString "height") = some (.int hgt th)) : m = mLaw D hgt th m := by
  funext y
  unfold mLaw
  split
  · rename_i e; rw [e, h2]
  · split
    · rename_i e; rw [e, h4]
    · rfl
noncomputable def mTurn (a D : Addr) (hgt : Int) (th : Tok) (u : Str → Option Value) : Str → Option Value := fun y =>
  if y = Str.ofString "op" then some (.ref a) else mLaw D hgt th u y
theorem mTurn_of {a D : Addr} {hgt : Int} {th : Tok} {m : Str → Option Value} (h1 : m (Str.ofString "op") = some (.ref a)) (h2 : m (Str.ofString "ops") = some (.ref D)) (h4 : m (Str.ofString "height") = some (.int hgt th)) : m = mTurn a D hgt th m := by
  funext y
  unfold mTurn
  split
  · rename_i e; rw [e, h1]
  · exact congrFun (mLaw_of h2 h4) y
noncomputable abbrev opsOf (as : List Addr) (n : Nat) : Obj := seqObj "list" (as.map Value.ref).toArray n
noncomputable def LawJ (D tp cl ca cb : Addr) (vs : List Value) (c : Nat) (o1 o2 : Obj) (i : Nat) (m : Str → Option Value) (led : Led) : Prop :=
  ∃ u as ops at_ t n hgt th imm cO, m = mLaw D hgt th u ∧ led = (D, opsOf as cO) :: (tp, tapeOf cl at_ t n) :: (cl, seqObj "list" vs.toArray c) :: (cb, o2) :: (ca, o1) :: imm ∧ TupAll imm ∧ OpsIn imm as ops ∧ as.length = i ∧
    (∀ op ∈ ops, (labels op).length ≤ 2) ∧ 0 ≤ hgt ∧ TpB at_ (30 + 41 * (10 - i))
section
variable {prog : Program} {w : World} {A : Around} {E : Value → Shared → Prop} {s : Shared} {h₀ : Heap} {L D tp cl ca cb : Addr} {vs : List Value} {c : Nat} {o1 o2 : Obj} {m : Str → Option Value} {own imm rest : Led} {h' : Heap} {tk : Nat}
theorem five_mem {p1 p2 p3 p4 p5 : Addr × Obj} {imm rest : Led} (h1 : p1 ∈ rest) (h2 : p2 ∈ rest) (h3 : p3 ∈ rest) (h4 : p4 ∈ rest) (h5 : p5 ∈ rest) (hi : ∀ q ∈ imm, q ∈ rest) : ∀ q ∈ p1 :: p2 :: p3 :: p4 :: p5 :: imm, q ∈ rest := fun q hq => by
  rcases List.mem_cons.mp hq with rfl | hq
  · exact h1
  rcases List.mem_cons.mp hq with rfl | hq
  · exact h2
  rcases List.mem_cons.mp hq with rfl | hq
  · exact h3
  rcases List.mem_cons.mp hq with rfl | hq
  · exact h4
  rcases List.mem_cons.mp hq with rfl | hq
  · exact h5
  exact hi q hq
theorem law_turn_end {as : List Addr} {ops : List Op} {at_ hgt : Int} {t th : Tok} {n cO i : Nat} {oD oT : Obj} {imm0 : Led} (F : Fr h₀ L h' m) (N : News h₀ L h' rest) (h1 : (D, seqObj "list" (as.map Value.ref).toArray cO) ∈ rest) (h2 : (tp, tapeOf cl at_ t n) ∈ rest) (h3 : (cl, seqObj "list" vs.toArray c) ∈ rest)
    (h4 : (cb, o2) ∈ rest) (h5 : (ca, o1) ∈ rest) (hi : ∀ p ∈ imm ++ own, p ∈ rest) (hm1 : m (Str.ofString "ops") = some (.ref D)) (hm2 : m (Str.ofString "height") = some (.int hgt th)) (ht : TupAll imm) (ho : OpsIn imm as ops) (hl : as.length = i) (hlab : ∀ op ∈ ops, (labels op).length ≤ 2)
    (hg : 0 ≤ hgt) (ha : TpB at_ (30 + 41 * (10 - i))) :
    FEnd h₀ L (LawJ D tp cl ca cb vs c o1 o2 i) ((D, oD) :: (tp, oT) :: (cl, seqObj "list" vs.toArray c) :: (cb, o2) :: (ca, o1) :: imm0) own s { s with heap := h', toks := tk } := by
  refine ⟨h', tk, m, (D, opsOf as cO) :: (tp, tapeOf cl at_ t n) :: (cl, seqObj "list" vs.toArray c) :: (cb, o2) :: (ca, o1) :: imm, rfl, F, fun p hp => N p (five_mem h1 h2 h3 h4 h5 hi p (by simpa using hp)), fun p hp => ?_, m, as, ops, at_, t, n, hgt, th, imm, cO, mLaw_of hm1 hm2, rfl, ht, ho, hl, hlab, hg, ha⟩
  simp only [List.mem_cons, List.map_cons] at hp ⊢
  rcases hp with rfl | rfl | rfl | rfl | rfl | hp
  · exact .inl (.inl rfl)
  · exact .inl (.inr (.inl rfl))
  · exact .inl (.inr (.inr (.inl rfl)))
  · exact .inl (.inr (.inr (.inr (.inl rfl))))
  · exact .inl (.inr (.inr (.inr (.inr (.inl rfl)))))
  · exact .inr (ht p hp)
theorem law_loop {r : Addr} {M : Int} {n cO k0 : Nat} {t₀ u₀ v₀ t1 th0 : Tok} {at0 hgt0 : Int} {env : Env} {x : Str} {body : List Stmt} {Q : Flow → Shared → Prop}
    (hh : A.handled = none) (F : Fr h₀ L s.heap m) (N : News h₀ L s.heap rest) (h1 : (D, seqObj "list" #[] cO) ∈ rest) (h2 : (tp, tapeOf cl at0 t1 k0) ∈ rest) (h3 : (cl, seqObj "list" vs.toArray c) ∈ rest) (h4 : (cb, o2) ∈ rest) (h5 : (ca, o1) ∈ rest)
    (hr : IsRange s.heap r 0 M 1 t₀ u₀ v₀) (hM : M = (n : Int)) (hn : n ≤ 1000) (hm1 : m (Str.ofString "ops") = some (.ref D)) (hm2 : m (Str.ofString "height") = some (.int hgt0 th0)) (hg0 : 0 ≤ hgt0) (ha : TpB at0 440)
    (turn : ∀ i t u as ops at_ t1 k hgt th (imm own : Led) cO h tk, i < n → TupAll imm → OpsIn imm as ops → as.length = i → (∀ op ∈ ops, (labels op).length ≤ 2) → 0 ≤ hgt → TpB at_ (30 + 41 * (10 - i)) → (∀ p ∈ imm ++ own, p.1 ≠ D) → (∀ p ∈ imm ++ own, p.1 ≠ tp) →
      Fr h₀ L h (fun y => if y = x then some (.int i t) else mLaw D hgt th u y) → News h₀ L h ((D, opsOf as cO) :: (tp, tapeOf cl at_ t1 k) :: (cl, seqObj "list" vs.toArray c) :: (cb, o2) :: (ca, o1) :: (imm ++ own)) →
      wpAny (model prog w) A (execs body env) (FPost h₀ L (LawJ D tp cl ca cb vs c o1 o2 (i + 1)) ((D, opsOf as cO) :: (tp, tapeOf cl at_ t1 k) :: (cl, seqObj "list" vs.toArray c) :: (cb, o2) :: (ca, o1) :: imm) own s Q) (fun _ _ => False) { s with heap := h, toks := tk })
    (done : ∀ u as ops at_ t1 k hgt th (imm : Led) cO h tk, TupAll imm → OpsIn imm as ops → as.length = n → (∀ op ∈ ops, (labels op).length ≤ 2) → TpB at_ 30 → (∀ p ∈ imm, p.1 ≠ D) → (∀ p ∈ imm, p.1 ≠ tp) →
      Fr h₀ L h (mLaw D hgt th u) → News h₀ L h ((D, opsOf as cO) :: (tp, tapeOf cl at_ t1 k) :: (cl, seqObj "list" vs.toArray c) :: (cb, o2) :: (ca, o1) :: imm) → Q .next { s with heap := h, toks := tk }) :
    ForPack prog w A env x body h₀ L m Q (.ref r) s := by
  subst hM
  obtain ⟨I, h₂, St, IT⟩ := iter_range (prog := prog) (w := w) hh hr hn
  refine ⟨(D, opsOf [] cO) :: (tp, tapeOf cl at0 t1 k0) :: (cl, seqObj "list" vs.toArray c) :: (cb, o2) :: (ca, o1) :: [], I, h₂, [], n, _, St, LawJ D tp cl ca cb vs c o1 o2, F, fun q hq => N q (five_mem (imm := []) h1 h2 h3 h4 h5 (fun _ h => nomatch h) q hq), IT,
    ⟨m, [], [], at0, t1, k0, hgt0, th0, [], cO, mLaw_of hm1 hm2, rfl, (fun _ h => nomatch h), .nil, rfl, (fun _ h => nomatch h), hg0, ha⟩, (fun _ h => nomatch h), ?_, ?_⟩
  · rintro i v m₁ led own h tk hi ⟨t, rfl⟩ ⟨u, as, ops, at_, t2, k, hgt, th, imm, cO, rfl, rfl, ht, ho, hl, hlab, hg, ha⟩ hoff F' N'
    have e : (0 : Int) + (i : Int) * 1 = i := by (first | lia | omega)
    rw [e] at F'
    simp only [List.cons_append] at N'
    refine turn i t u as ops at_ t2 k hgt th imm own cO h tk hi ht ho hl hlab hg ha (fun p hp => ?_) (fun p hp => ?_) F' N'
    · rcases List.mem_append.mp hp with hp | hp
      · exact apart_tup N' (.head _) (fun q hq => .tail _ (.tail _ (.tail _ (.tail _ (.tail _ (List.mem_append_left _ hq)))))) ht list_cls p hp
      · exact fun e => hoff _ (.head _) p hp e.symm
    · rcases List.mem_append.mp hp with hp | hp
      · exact apart_tup N' (.tail _ (.head _)) (fun q hq => .tail _ (.tail _ (.tail _ (.tail _ (.tail _ (List.mem_append_left _ hq)))))) ht list_cls p hp
      · exact fun e => hoff _ (.tail _ (.head _)) p hp e.symm
  · rintro m' led h tk ⟨u, as, ops, at_, t2, k, hgt, th, imm, cO, rfl, rfl, ht, ho, hl, hlab, hg, ha⟩ F' N'
    exact done u as ops at_ t2 k hgt th imm cO h tk ht ho hl hlab ha.less (apart_tup N' (.head _) (fun q hq => .tail _ (.tail _ (.tail _ (.tail _ (.tail _ hq))))) ht list_cls) (apart_tup N' (.tail _ (.head _)) (fun q hq => .tail _ (.tail _ (.tail _ (.tail _ (.tail _ hq))))) ht list_cls) F' N'
noncomputable def TurnMid (g : Heap) (L D tp cl ca cb : Addr) (vs : List Value) (c : Nat) (o1 o2 : Obj) (as : List Addr) (cO : Nat) (hgt : Int) (th : Tok) (rest : Led) (bn : Nat) (s : Shared) (f : Flow) (s' : Shared) : Prop :=
  f = .next ∧ ∃ (h' : Heap) (tk : Nat) (a : Addr) (op : Op) (at' : Int) (t' : Tok) (n' : Nat) (imm2 : Led) (u : Str → Option Value), s' = { s with heap := h', toks := tk } ∧ Fr g L h' (mTurn a D hgt th u) ∧
    News g L h' ((D, opsOf as cO) :: (tp, tapeOf cl at' t' n') :: (cl, seqObj "list" vs.toArray c) :: (cb, o2) :: (ca, o1) :: (imm2 ++ rest)) ∧ TupAll imm2 ∧ OpIn imm2 a op ∧ (labels op).length ≤ 2 ∧ TpB at' bn
theorem TurnMid.intro {led : Led} {a : Addr} {op : Op} {at' hgt : Int} {t' th : Tok} {n' cO bn : Nat} {imm2 : Led} {as : List Addr} (F : Fr h₀ L h' m) (N : News h₀ L h' led) (h1 : (D, seqObj "list" (as.map Value.ref).toArray cO) ∈ led) (h2 : (tp, tapeOf cl at' t' n') ∈ led) (h3 : (cl, seqObj "list" vs.toArray c) ∈ led)
    (h4 : (cb, o2) ∈ led) (h5 : (ca, o1) ∈ led) (hi2 : ∀ p ∈ imm2, p ∈ led) (hi : ∀ p ∈ rest, p ∈ led) (hm0 : m (Str.ofString "op") = some (.ref a)) (hm1 : m (Str.ofString "ops") = some (.ref D)) (hm2 : m (Str.ofString "height") = some (.int hgt th)) (ht : TupAll imm2) (ho : OpIn imm2 a op) (hl : (labels op).length ≤ 2) (e1 : TpB at' bn) :
    TurnMid h₀ L D tp cl ca cb vs c o1 o2 as cO hgt th rest bn s .next { s with heap := h', toks := tk } :=
  ⟨rfl, h', tk, a, op, at', t', n', imm2, m, rfl, (mTurn_of hm0 hm1 hm2) ▸ F, fun q hq => N q (five_mem h1 h2 h3 h4 h5 (fun q hq => (List.mem_append.mp hq).elim (hi2 q) (hi q)) q hq), ht, ho, hl, e1⟩
theorem turn_open {as : List Addr} {cO : Nat} {p2 p3 p4 p5 : Addr × Obj} {imm6 : Led} {a : Addr} {op : Op} (N6 : News h₀ L h' ((D, opsOf as cO) :: p2 :: p3 :: p4 :: p5 :: (imm6 ++ rest))) (ht6 : TupAll imm6) (ho6 : OpIn imm6 a op) (hap : ∀ p ∈ rest, p.1 ≠ D) :
    ∃ t0 y rst nn, rst.length ≤ 1 ∧ EqNeg imm6 y ∧ @Ne Nat a D ∧ (∀ p ∈ imm6 ++ rest, p.1 ≠ D) ∧ News h₀ L h' ((a, seqObj "tuple" (Value.str op.word t0 :: y :: rst).toArray nn) :: (D, opsOf as cO) :: p2 :: p3 :: p4 :: p5 :: (imm6 ++ rest)) := by
  obtain ⟨⟨t0, y, rst, nn, hmem, hrl, hneg⟩, hOp⟩ := ho6
  have hs6 : ∀ q ∈ imm6, q ∈ ((D, opsOf as cO) :: p2 :: p3 :: p4 :: p5 :: (imm6 ++ rest) : Led) := fun q hq => .tail _ (.tail _ (.tail _ (.tail _ (.tail _ (List.mem_append_left rest hq)))))
  have hap6 := apart_tup N6 (.head _) hs6 ht6 list_cls
  refine ⟨t0, y, rst, nn, hrl, hneg, hap6 _ hmem, fun p hp => (List.mem_append.mp hp).elim (hap6 p) (hap p), fun q hq => N6 q ?_⟩
  rcases List.mem_cons.mp hq with rfl | hq
  · exact hs6 _ hmem
  · exact hq
theorem turn_cut {t : Sem Flow} {as : List Addr} {at_ hgt : Int} {t1 th : Tok} {n cO : Nat} (bn : Nat) {Q : Flow → Shared → Prop} (_N : News h₀ L h' ((D, opsOf as cO) :: (tp, tapeOf cl at_ t1 n) :: (cl, seqObj "list" vs.toArray c) :: (cb, o2) :: (ca, o1) :: rest))
    (F : Fr h₀ L h' m) (hm2 : m (Str.ofString "height") = some (.int hgt th)) (hap : ∀ p ∈ rest, p.1 ≠ D)
    (h : wpAny (model prog w) A t (TurnMid h₀ L D tp cl ca cb vs c o1 o2 as cO hgt th rest bn s) (fun _ _ => False) s)
    (hQ : ∀ h6 tk6 a op at6 t6 n6 imm6 u6 t0 y rst nn, TupAll imm6 → OpIn imm6 a op → (labels op).length ≤ 2 → TpB at6 bn → EqNeg imm6 y → @Ne Nat a D → (∀ p ∈ imm6 ++ rest, p.1 ≠ D) → Fr h₀ L h6 (mTurn a D hgt th u6) →
      News h₀ L h6 ((a, seqObj "tuple" (Value.str op.word t0 :: y :: rst).toArray nn) :: (D, opsOf as cO) :: (tp, tapeOf cl at6 t6 n6) :: (cl, seqObj "list" vs.toArray c) :: (cb, o2) :: (ca, o1) :: (imm6 ++ rest)) → Q .next { s with heap := h6, toks := tk6 }) : wpAny (model prog w) A t Q E s := by
  refine wpAny_mono h (fun f s' hm => ?_) fun _ _ f => f.elim
  obtain ⟨rfl, h6, tk6, a, op, at6, t6, n6, imm6, u6, rfl, F6, N6, ht6, ho6, hl6, e61⟩ := hm
  obtain ⟨t0, y, rst, nn, hrl, hneg, hda, hapD, N7⟩ := turn_open N6 ht6 ho6 hap
  exact hQ h6 tk6 a op at6 t6 n6 imm6 u6 t0 y rst nn ht6 ho6 hl6 e61 hneg hda hapD F6 N7
end
theorem tup_ne_list {h₀ h : Heap} {L a b : Addr} {led : Led} {items xs : Array Value} {n n2 : Nat} (N : News h₀ L h led) (h1 : (a, seqObj "tuple" items n) ∈ led) (h2 : (b, seqObj "list" xs n2) ∈ led) : @Ne Nat a b := fun e => by
  have e' : a = b := e
  have q1 := (N _ h1).1
  have q2 := (N _ h2).1
  have q3 : some (seqObj "tuple" items n) = some (seqObj "list" xs n2) := by rw [← q1, ← q2]; exact congrArg h.get? e'
  exact list_cls (congrArg Obj.cls (Option.some.inj q3).symm)

end

section
theorem base_L3 : True := by
  k_with_none
  w_top off
  k_with "subscriptTail" => (k_here; (with_reducible show wpAny _ _ (subscriptTail _ _ (Value.ref _) (Value.int _ _)) _ _ _); k_dflt ( (refine' itemT ?Fzq ?tzq ?azq ?bzq ?czq ?dzq ?_; (case Fzq => k_asm); (case tzq => assumption); (case azq => decide); (case bzq => decide); (case czq => rfl); (case dzq => rfl); k_whole)))
  k_with "size_fits" => with_reducible assumption
  k_with "k_room" => exact Lv.room (by assumption)
  k_with "k_inst" => exact instUp (by assumption) (Fr.keep (by k_asm))
  k_with "call builtin:len" => (k_here; (with_reducible show wpAny _ _ (call (Value.builtin "len") [Value.ref _]) _ _ _); k_dflt ( (refine' lenT ?Fzq ?tzq ?azq ?bzq ?_; (case Fzq => k_asm); (case tzq => assumption); (case azq => first | assumption | rfl); (case bzq => first | assumption | decide); k_whole)))
  k_with "eval ListComp" => (k_here; (with_reducible rename Fr _ _ _ _ => zzlFq); k_dflt ( (refine' comp_inv zzlFq ?k1zq ?k2zq ?k3zq ?k4zq ?k5zq ?_ ?k6zq; (case k1zq => with_unfolding_all rfl); (case k2zq => decide); (case k3zq => with_unfolding_all rfl); (case k4zq => decide); (case k5zq => with_unfolding_all rfl); (case k6zq => (intro _; with_unfolding_all rfl)); k_whole)))
  k_with "exec Assign cons ListComp" => (k_here; (with_reducible rename Fr _ _ _ _ => zzlFq); k_dflt ( (refine' comp_assign zzlFq ?j1zq ?j2zq ?k1zq ?k2zq ?k3zq ?k4zq ?k5zq ?j3zq ?j4zq ?_ ?k6zq; (case j1zq => with_unfolding_all rfl); (case j2zq => with_unfolding_all rfl); (case j3zq => with_unfolding_all rfl); (case j4zq => with_unfolding_all rfl); (case k1zq => with_unfolding_all rfl); (case k2zq => decide); (case k3zq => with_unfolding_all rfl); (case k4zq => decide); (case k5zq => with_unfolding_all rfl); (case k6zq => (intro _; with_unfolding_all rfl)); k_whole)))
  k_with "compareOp NotEq ref ref" => (k_here; (with_reducible show wpAny _ _ (compareOp CmpOp.NotEq (Value.ref _) (Value.ref _)) _ _ _); k_dflt ( (refine' neNil ?azq ?bzq ?uzq ?_; (case azq => is_list); (case bzq => is_list); (case uzq => exact Lv.units (by assumption)); k_whole)))
  k_with "compareOp Eq ref ref" => (k_here; (with_reducible show wpAny _ _ (compareOp CmpOp.Eq (Value.ref _) (Value.ref _)) _ _ _); k_dflt ( (refine' eqNil ?azq ?bzq ?uzq ?_; (case azq => is_list); (case bzq => is_list); (case uzq => exact Lv.units (by assumption)); k_whole)))
  k_with "compareOp NotIn str ref" => (k_here; k_dflt (refine' topNotIn_K ?Fzq ?Xzq ?lzq ?kzq ?ezq ?ozq ?_; (case Fzq => k_asm); (case Xzq => k_asm); (case lzq => k_is); (case kzq => k_keys); (case ezq => first | with_reducible assumption | k_is); (case ozq => decide)))
  k_with "eval Name" => (k_here; k_inBlock; (with_reducible rename Fr _ _ _ _ => zzkF); k_dflt (first | (refine' nameQ_L zzkF ?azq ?_ ?bzq ?czq ?dzq ?ezq; (case azq => exact rfl); (case bzq => rfl); (case czq => rfl); (case dzq => rfl); (case ezq => decide); k_whole) | (refine' nameQ_F ?Nzq ?azq ?mzq ?dzq ?_ ?czq ?kzq ?xzq ?yzq; (case Nzq => k_asm); (case azq => exact rfl); (case mzq => k_mem); (case dzq => assumption); (case czq => rfl); (case kzq => rfl); (case xzq => decide); (case yzq => decide); k_whole) | (refine' nameQ_B zzkF ?k1zq ?k2zq ?k3zq ?k4zq ?k5zq ?_ ?bzq ?czq ?dzq ?ezq ?fzq; (case bzq => rfl); (case czq => rfl); (case dzq => rfl); (case ezq => rfl); (case fzq => decide); (case k1zq => k_asm); (case k2zq => k_asm); (case k3zq => k_is); (case k4zq => boot_by_name); (case k5zq => decide); k_whole)))
  k_with "subscriptTail" => (k_here; (with_reducible show wpAny _ _ (subscriptTail _ _ (Value.ref _) (Value.int 0 _)) _ _ _); k_dflt ( (refine' itemT0 ?Fzq ?tzq ?_; (case Fzq => k_asm); (case tzq => with_reducible assumption); k_whole)))
  k_with "ite" => (first | with_reducible refine ite_known_t (by assumption) ?_ | with_reducible refine ite_known_f (by assumption) ?_ | with_reducible refine ite_known_t rfl ?_ | with_reducible refine ite_known_f rfl ?_)
  k_with "k_all" => with_reducible assumption
  k_with "k_all" => ((repeat (rename _ ∧ _ => zzhqq; obtain ⟨_, _⟩ := zzhqq)); exact of_allLt (by with_reducible assumption))
  k_with "subscriptTail" => (k_here; (with_reducible show wpAny _ _ (subscriptTail _ _ (Value.ref _) (Value.str _ _)) _ _ _); k_dflt (refine' topItem_K ?Fzq ?Xzq ?lzq ?kzq ?ezq ?_; (case Fzq => k_asm); (case Xzq => k_asm); (case lzq => k_is); (case kzq => k_keys); (case ezq => with_reducible assumption); k_whole))
  k_with "subscriptTail" => (k_here; (with_reducible show wpAny _ _ (subscriptTail _ (PySem.Expr.Slice (some _) none none _) (Value.ref _) (Value.ref _)) _ _ _); k_dflt ( (refine' sliceT (a := 1) ?Fzq ?Nzq ?tzq ?azq ?bzq ?czq ?_ ?dzq ?ezq; (case Fzq => k_asm); (case Nzq => k_asm); (case tzq => assumption); (case azq => decide); (case bzq => exact Nat.le_of_ble_eq_true rfl); (case czq => exact Nat.le_of_ble_eq_true rfl); (case dzq => with_unfolding_all rfl); (case ezq => (intro _; with_unfolding_all rfl)); k_whole; intro zzhq zzrq zzFq zzNq zzl1; (try k_lt zzl1))))
  k_with "k_mem" => first | exact List.Mem.head _ | (refine' List.Mem.tail _ ?_; k_mem) | (show List.Mem _ _; assumption)
  k_with "unpackItems ref" => (k_here; k_dflt (refine' unpackItemsN_ ?k1zq ?k2zq ?k3zq ?k4zq ?k5zq ?_; (case k1zq => k_asm); (case k2zq => k_asm); (case k3zq => first | (with_reducible assumption) | exact News.isTup (by k_asm) (by k_mem) | exact Fr.tup (by k_asm) (by assumption)); (case k4zq => exact Lv.hh (by assumption)); (case k5zq => exact rfl); k_whole); intro zzhq zzFq zzNq; (try k_sweep))
  k_with "assign Tuple" => (k_here; (with_reducible show wpAny _ _ (assign (PySem.Expr.Tuple _ _ _) _ (Value.ref _)) _ _ _); k_dflt (refine' unpackN_ ?k1zq ?k2zq ?k3zq ?k4zq ?k5zq ?k6zq ?_; (case k1zq => k_asm); (case k2zq => k_asm); (case k3zq => first | (with_reducible assumption) | exact News.isTup (by k_asm) (by k_mem) | exact Fr.tup (by k_asm) (by assumption)); (case k4zq => exact Lv.hh (by assumption)); (case k5zq => exact rfl); (case k6zq => exact rfl); k_whole); intro zzhq zzFq zzNq; (try k_sweep))
  k_with "last exec While" => (k_here; (refine while_stop ?_))
  k_with "call builtin:list.pop" => (k_here; (try dsimp only); k_dflt ( (refine' kl_pop ?Fzq ?Nzq ?ezq ?Uzq ?zzq ?_; (case Fzq => k_asm); (case Nzq => k_asm); (case Uzq => k_upd); (case ezq => exact kl_last_snoc _ _); (case zzq => with_reducible assumption); k_whole; intro zzhq zzFq zzNq)))
  k_with "compareOp In int ref" => (k_here; k_dflt (refine' inD ?Nzq ?mzq ?dzq ?lzq ?_; (case Nzq => k_asm); (case mzq => k_mem); (case dzq => with_reducible assumption); (case lzq => with_reducible assumption); k_whole))
  k_with "subscriptTail" => (k_here; (with_reducible show wpAny _ _ (subscriptTail _ _ (Value.ref _) (Value.int _ _)) _ _ _); k_dflt (first | (refine' itemD ?Nzq ?mzq ?dzq ?vzq ?_ ?szq; (case Nzq => k_asm); (case mzq => k_mem); (case dzq => with_reducible assumption); (case vzq => with_reducible assumption); (case szq => with_unfolding_all rfl); k_whole) | (refine' itemO ?Fzq ?tzq ?azq ?xzq ?zzq ?_ ?szq; (case Fzq => k_asm); (case tzq => with_reducible assumption); (case azq => with_reducible assumption); (case xzq => with_reducible assumption); (case zzq => with_reducible assumption); (case szq => with_unfolding_all rfl); k_whole)))
  k_with "setItem ref int" => (k_here; k_dflt (refine' setD ?Fzq ?Nzq ?Uzq ?dzq ?zzq ?_; (case Fzq => k_asm); (case Nzq => k_asm); (case Uzq => k_updF); (case dzq => with_reducible assumption); (case zzq => with_reducible assumption); k_whole; intro zzhq zzoq zzFq zzNq zzdq; (try dsimp only at zzNq)))
  k_with "call builtin:list.extend" => (k_here; (with_reducible show wpAny _ _ (call (Value.builtin _) [Value.ref _, Value.ref _]) _ _ _); k_dflt (refine' extendK ?Fzq ?Nzq ?bzq ?Uzq ?zzq ?_; (case Fzq => k_asm); (case Nzq => k_asm); (case bzq => k_mem); (case Uzq => k_updF); (case zzq => with_reducible assumption); k_whole; intro zzhq zzcq zzFq zzNq; (try dsimp only at zzNq)))
  k_with "newTuple" => (k_here; k_dflt (refine' kup_newTuple ?Fzq ?Nzq ?_ ?zzq; (case Fzq => k_asm); (case Nzq => k_asm); (case zzq => exact Nat.le_of_ble_eq_true rfl)); intro zzDq zzhq zzFq zzNq zzl1; (try k_lt zzl1); (try k_sweep))
  k_with "exec For Name Call cons nil" => (k_here; (with_reducible rename Fr _ _ _ _ => zzlFq); k_dflt (refine' for_inv zzlFq ?j1zq ?j2zq ?j3zq ?_ ?j4zq; (case j1zq => with_unfolding_all rfl); (case j2zq => with_unfolding_all rfl); (case j3zq => with_unfolding_all rfl); (case j4zq => (intro _; with_unfolding_all rfl)); k_whole))
  k_with "execs cons Assign cons" => (k_here; (with_reducible refine wpAny_execs_cons ?_); (try dsimp only))
  k_with "subscriptTail" => (k_here; (with_reducible show wpAny _ _ (subscriptTail _ (PySem.Expr.Slice none (some _) none _) (Value.ref _) (Value.ref _)) _ _ _); k_dflt (first | (refine' sliceTwoA ?Fzq ?Nzq ?tzq ?_ ?dzq ?ezq; (case Fzq => k_asm); (case Nzq => k_asm); (case tzq => assumption); (case dzq => with_unfolding_all rfl); (case ezq => (intro _; with_unfolding_all rfl)); k_whole; intro zzhq zzFq zzNq) | (refine' sliceTwoB ?Fzq ?Nzq ?tzq ?_ ?dzq ?ezq; (case Fzq => k_asm); (case Nzq => k_asm); (case tzq => assumption); (case dzq => with_unfolding_all rfl); (case ezq => (intro _; with_unfolding_all rfl)); k_whole; intro zzhq zzrq zzFq zzNq zzl1; (try k_lt zzl1))))
  k_with "compareOp Eq ref ref" => (k_here; (with_reducible show wpAny _ _ (compareOp CmpOp.Eq (Value.ref _) (Value.ref _)) _ _ _); k_dflt ( (refine' eqTup2 ?uzq ?tazq ?tbzq ?e1zq ?e2zq ?_; (case uzq => exact Lv.units (by assumption)); (case tazq => first | exact News.isTup (by k_asm) (by k_mem) | exact Fr.tup (by k_asm) (by assumption)); (case tbzq => exact News.isTup (by k_asm) (by k_mem)); (case e1zq => exact SeqAt.EqAt.str_str _ _ _ _); (case e2zq => first | exact SeqAt.EqAt.str_str _ _ _ _ | exact SeqAt.EqAt.int_str _ _ _ _ | exact SeqAt.EqAt.tuple_str _ _ (Fr.tup (by k_asm) (by assumption)) (Lv.units (Lv.in1 (by assumption)))); k_whole)))
  k_with "compareOp In str ref" => (k_here; (with_reducible show wpAny _ _ (compareOp CmpOp.In (Value.str _ _) (Value.ref _)) _ _ _); (with_unfolding_all refine' in_tuple_strs ?k1zq ?k2zq ?_; (case k1zq => exact News.isTup (by k_asm) (List.Mem.head _)); (case k2zq => kde_strs); k_whole); (rename News _ _ _ _ => zzNq; replace zzNq := News.tail' zzNq); (try k_sweep))
  k_with "compareOp NotIn int ref" => (k_here; k_dflt (refine' notInD ?Nzq ?mzq ?dzq ?lzq ?_; (case Nzq => k_asm); (case mzq => k_mem); (case dzq => with_reducible assumption); (case lzq => with_reducible assumption); k_whole))
  k_with "assign Tuple" => (k_here; (with_reducible show wpAny _ _ (assign (PySem.Expr.Tuple _ _ _) _ (Value.ref _)) _ _ _); k_dflt (refine' kun_list ?k1zq ?k2zq ?k3zq ?k4zq ?k5zq ?k6zq ?_; (case k1zq => k_asm); (case k2zq => k_asm); (case k3zq => exact News.isList (by k_asm) (by k_mem)); (case k4zq => exact Lv.hh (by assumption)); (case k5zq => exact rfl); (case k6zq => exact rfl); k_whole); intro zzhq zzFq zzNq; (try k_sweep))
  trivial
section
variable {prog : Program} {w : World} {A : Around} {s : Shared} {R : Result → Shared → Prop}
   {p : Program} {loose : List Str} {mean : ExcName → Option Value} {mg mb : Str → Option Value}
noncomputable abbrev codeDict (P : Params) (o b : Addr) (t1 t2 : Tok) (n : Nat) : Obj := dictOf [⟨PyData.keyHash P (Str.ofString "ops"), .str (Str.ofString "ops") t1, .ref o⟩, ⟨PyData.keyHash P (Str.ofString "begins"), .str (Str.ofString "begins") t2, .ref b⟩] n
set_option maxHeartbeats 4000000 in
theorem init_c {g : Heap} {x dx o b : Addr} (hM : ∀ q ∈ [(x, instObj 89 dx), (dx, dictOf [] 0)], s.heap.get? q.1 = some q.2) (hg : g = hideAll s.heap [x, dx]) (hne : @LT.lt Nat _ dx x)
   (X0 : (Mine.hd.heap_1 w.params).In g) (T0 : Top p loose mean mg mb g) (hv : Lv A 1)
   (h : ∀ h' tk t1 t2 n, (∀ b o, b ≠ x → b ≠ dx → s.heap.get? b = some o → h'.get? b = some o) → h'.get? x = some (instObj 89 dx) → h'.get? dx = some (codeDict w.params o b t1 t2 n) → R (.ok (.ret .none)) { s with heap := h', toks := tk }) :
   codeAny (model prog w) A (.call (.ref 79) ⟨[.ref x, .ref o, .ref b], []⟩) R s := by
  have X := X0.keeps (fun b o e => of_hideAll [x, dx] (hg ▸ e) : Ext g s.heap)
  have T := T0.keeps (fun b o e => of_hideAll [x, dx] (hg ▸ e) : Ext g s.heap)
  have d0 : @Ne Nat dx x := Nat.ne_of_lt hne
  refine' enterM (binds := [(Str.ofString "self", .ref x), (Str.ofString "ops", .ref o), (Str.ofString "begins", .ref b)]) [(x, instObj 89 dx), (dx, dictOf [] 0)] hM X ?k5 ?k6 ?k7 ?k8 ?k9 ?kB ?_ ?c2 ?c3 ?c4 ?c5
  case k5 => exact T.nolimit
  case k6 => k_dflt k_is
  case k7 => k_dflt k_is
  case k8 => exact hv.room
  case k9 => exact rfl
  case c5 => decide
  case kB => exact locs rfl
  case c2 => exact rfl
  case c3 => exact rfl
  case c4 => exact rfl
  intro L h₁ F N
  refine hv.gen ?_
  clear hv
  intro A' hv
  clear X T
  try dsimp only
  try k_fold
  rw [show hideAll s.heap ([(x, instObj 89 dx), (dx, dictOf [] 0)].map (·.1)) = g from hg.symm] at F N
  k_steps
  (rename Fr _ _ _ _ => Fe; rename News _ _ _ _ => Ne)
  exact h _ _ _ _ _ (fun b o h1 h2 e => Fe.keep b o (by rw [hg]; exact hideAll_get [x, dx] e (by simp only [List.mem_cons, List.not_mem_nil, or_false, not_or]; exact ⟨h1, h2⟩))) (News.get Ne (by repeat (first | exact List.Mem.head _ | refine List.Mem.tail _ ?_))) (News.get Ne (by repeat (first | exact List.Mem.head _ | refine List.Mem.tail _ ?_)))
end
section
variable {prog : Program} {w : World} {A : Around} {E : Value → Shared → Prop} {s : Shared} {Q : Value → Shared → Prop} {h₀ : Heap} {L : Addr} {m : Str → Option Value} {news : Led}
   {p : Program} {loose : List Str} {mean : ExcName → Option Value} {mg mb : Str → Option Value}
theorem hide2_keeps {h₀ h : Heap} {x dx : Addr} (k : Ext h₀ h) (hx : h₀.get? x = none) (hd : h₀.get? dx = none) : Ext h₀ (hideAll h [x, dx]) := fun b o e =>
  hideAll_get [x, dx] (k b o e) (by
    simp only [List.mem_cons, List.not_mem_nil, or_false, not_or]
    exact ⟨fun q => (by rw [q, hx] at e; cases e), fun q => (by rw [q, hd] at e; cases e)⟩)
theorem code_k {o b : Addr} (F : Fr h₀ L s.heap m) (N : News h₀ L s.heap news) (X : (Mine.hd.heap_1 w.params).In h₀) (T : Top p loose mean mg mb h₀) (hv : Lv A 3)
   (h : ∀ h' tk x dx t1 t2 n, Fr h₀ L h' m → News h₀ L h' ((x, instObj 89 dx) :: (dx, codeDict w.params o b t1 t2 n) :: news) → (∀ p ∈ news, p.1 < dx) → dx < x → Q (.ref x) { s with heap := h', toks := tk }) :
   wpAny (model prog w) A (call (.ref 89) [.ref o, .ref b] []) Q E s := by
  refine' call_cls F X N ?k4 ?k5 ?k6 ?_
  case k4 => k_dflt k_is
  case k5 => k_dflt k_is
  case k6 => k_dflt k_is
  intro x dx h1 F1 N1 l1 l2
  have hx := N1 _ (.head _)
  have hd := N1 _ (.tail _ (.head _))
  have hv1 : Lv (A.under (.builtin "type.__call__" ⟨[.ref 89, .ref o, .ref b], []⟩)) 1 := ⟨hv.hh, (by have := hv.hd; show A.depth + 1 + 10 * 1 < 690; (first | lia | omega)), (by have := hv.hu; show A.units + 1 + 200 * 1 < 9000; (first | lia | omega))⟩
  have kb := hide2_keeps F1.keep hx.2.2 hd.2.2
  refine init_c (fun q hq => (N1 q ?_).1) rfl l2 (X.keeps kb) (T.keeps kb) hv1 ?_
  · simp only [List.mem_cons, List.not_mem_nil, or_false] at hq
    rcases hq with rfl | rfl
    · exact .head _
    · exact .tail _ (.head _)
  intro h2 tk t1 t2 n k2 e1 e2
  refine ⟨rfl, h h2 tk x dx t1 t2 n ?_ ?_ l1 l2⟩
  · refine ⟨F1.ns.at' fun oL e => k2 _ oL (fun q => hx.2.1 q.symm) (fun q => hd.2.1 q.symm) e, fun a oa e => k2 a oa (fun q => ?_) (fun q => ?_) (F1.keep a oa e), F1.above⟩
    · have := hx.2.2; rw [← q, e] at this; cases this
    · have := hd.2.2; rw [← q, e] at this; cases this
  · intro q hq
    rcases List.mem_cons.mp hq with rfl | hq
    · exact ⟨e1, hx.2⟩
    rcases List.mem_cons.mp hq with rfl | hq
    · exact ⟨e2, hd.2⟩
    have z := N1 q (.tail _ (.tail _ hq))
    have l3 : @LT.lt Nat _ q.1 dx := l1 q hq
    exact ⟨k2 _ _ (Nat.ne_of_lt (Nat.lt_trans l3 l2)) (Nat.ne_of_lt l3) z.1, z.2⟩
end

end

section
theorem base_L4 : True := by
  k_with_none
  w_top off
  k_with "subscriptTail" => (k_here; (with_reducible show wpAny _ _ (subscriptTail _ _ (Value.ref _) (Value.int _ _)) _ _ _); k_dflt ( (refine' itemT ?Fzq ?tzq ?azq ?bzq ?czq ?dzq ?_; (case Fzq => k_asm); (case tzq => assumption); (case azq => decide); (case bzq => decide); (case czq => rfl); (case dzq => rfl); k_whole)))
  k_with "size_fits" => with_reducible assumption
  k_with "k_room" => exact Lv.room (by assumption)
  k_with "k_inst" => exact instUp (by assumption) (Fr.keep (by k_asm))
  k_with "call builtin:len" => (k_here; (with_reducible show wpAny _ _ (call (Value.builtin "len") [Value.ref _]) _ _ _); k_dflt ( (refine' lenT ?Fzq ?tzq ?azq ?bzq ?_; (case Fzq => k_asm); (case tzq => assumption); (case azq => first | assumption | rfl); (case bzq => first | assumption | decide); k_whole)))
  k_with "eval ListComp" => (k_here; (with_reducible rename Fr _ _ _ _ => zzlFq); k_dflt ( (refine' comp_inv zzlFq ?k1zq ?k2zq ?k3zq ?k4zq ?k5zq ?_ ?k6zq; (case k1zq => with_unfolding_all rfl); (case k2zq => decide); (case k3zq => with_unfolding_all rfl); (case k4zq => decide); (case k5zq => with_unfolding_all rfl); (case k6zq => (intro _; with_unfolding_all rfl)); k_whole)))
  k_with "exec Assign cons ListComp" => (k_here; (with_reducible rename Fr _ _ _ _ => zzlFq); k_dflt ( (refine' comp_assign zzlFq ?j1zq ?j2zq ?k1zq ?k2zq ?k3zq ?k4zq ?k5zq ?j3zq ?j4zq ?_ ?k6zq; (case j1zq => with_unfolding_all rfl); (case j2zq => with_unfolding_all rfl); (case j3zq => with_unfolding_all rfl); (case j4zq => with_unfolding_all rfl); (case k1zq => with_unfolding_all rfl); (case k2zq => decide); (case k3zq => with_unfolding_all rfl); (case k4zq => decide); (case k5zq => with_unfolding_all rfl); (case k6zq => (intro _; with_unfolding_all rfl)); k_whole)))
  k_with "compareOp NotEq ref ref" => (k_here; (with_reducible show wpAny _ _ (compareOp CmpOp.NotEq (Value.ref _) (Value.ref _)) _ _ _); k_dflt ( (refine' neNil ?azq ?bzq ?uzq ?_; (case azq => is_list); (case bzq => is_list); (case uzq => exact Lv.units (by assumption)); k_whole)))
  k_with "compareOp Eq ref ref" => (k_here; (with_reducible show wpAny _ _ (compareOp CmpOp.Eq (Value.ref _) (Value.ref _)) _ _ _); k_dflt ( (refine' eqNil ?azq ?bzq ?uzq ?_; (case azq => is_list); (case bzq => is_list); (case uzq => exact Lv.units (by assumption)); k_whole)))
  k_with "compareOp NotIn str ref" => (k_here; k_dflt (refine' topNotIn_K ?Fzq ?Xzq ?lzq ?kzq ?ezq ?ozq ?_; (case Fzq => k_asm); (case Xzq => k_asm); (case lzq => k_is); (case kzq => k_keys); (case ezq => first | with_reducible assumption | k_is); (case ozq => decide)))
  k_with "eval Name" => (k_here; k_inBlock; (with_reducible rename Fr _ _ _ _ => zzkF); k_dflt (first | (refine' nameQ_L zzkF ?azq ?_ ?bzq ?czq ?dzq ?ezq; (case azq => exact rfl); (case bzq => rfl); (case czq => rfl); (case dzq => rfl); (case ezq => decide); k_whole) | (refine' nameQ_F ?Nzq ?azq ?mzq ?dzq ?_ ?czq ?kzq ?xzq ?yzq; (case Nzq => k_asm); (case azq => exact rfl); (case mzq => k_mem); (case dzq => assumption); (case czq => rfl); (case kzq => rfl); (case xzq => decide); (case yzq => decide); k_whole) | (refine' nameQ_B zzkF ?k1zq ?k2zq ?k3zq ?k4zq ?k5zq ?_ ?bzq ?czq ?dzq ?ezq ?fzq; (case bzq => rfl); (case czq => rfl); (case dzq => rfl); (case ezq => rfl); (case fzq => decide); (case k1zq => k_asm); (case k2zq => k_asm); (case k3zq => k_is); (case k4zq => boot_by_name); (case k5zq => decide); k_whole)))
  k_with "subscriptTail" => (k_here; (with_reducible show wpAny _ _ (subscriptTail _ _ (Value.ref _) (Value.int 0 _)) _ _ _); k_dflt ( (refine' itemT0 ?Fzq ?tzq ?_; (case Fzq => k_asm); (case tzq => with_reducible assumption); k_whole)))
  k_with "ite" => (first | with_reducible refine ite_known_t (by assumption) ?_ | with_reducible refine ite_known_f (by assumption) ?_ | with_reducible refine ite_known_t rfl ?_ | with_reducible refine ite_known_f rfl ?_)
  k_with "k_all" => with_reducible assumption
  k_with "k_all" => ((repeat (rename _ ∧ _ => zzhqq; obtain ⟨_, _⟩ := zzhqq)); exact of_allLt (by with_reducible assumption))
  k_with "subscriptTail" => (k_here; (with_reducible show wpAny _ _ (subscriptTail _ _ (Value.ref _) (Value.str _ _)) _ _ _); k_dflt (refine' topItem_K ?Fzq ?Xzq ?lzq ?kzq ?ezq ?_; (case Fzq => k_asm); (case Xzq => k_asm); (case lzq => k_is); (case kzq => k_keys); (case ezq => with_reducible assumption); k_whole))
  k_with "subscriptTail" => (k_here; (with_reducible show wpAny _ _ (subscriptTail _ (PySem.Expr.Slice (some _) none none _) (Value.ref _) (Value.ref _)) _ _ _); k_dflt ( (refine' sliceT (a := 1) ?Fzq ?Nzq ?tzq ?azq ?bzq ?czq ?_ ?dzq ?ezq; (case Fzq => k_asm); (case Nzq => k_asm); (case tzq => assumption); (case azq => decide); (case bzq => exact Nat.le_of_ble_eq_true rfl); (case czq => exact Nat.le_of_ble_eq_true rfl); (case dzq => with_unfolding_all rfl); (case ezq => (intro _; with_unfolding_all rfl)); k_whole; intro zzhq zzrq zzFq zzNq zzl1; (try k_lt zzl1))))
  k_with "k_mem" => first | exact List.Mem.head _ | (refine' List.Mem.tail _ ?_; k_mem) | (show List.Mem _ _; assumption)
  k_with "unpackItems ref" => (k_here; k_dflt (refine' unpackItemsN_ ?k1zq ?k2zq ?k3zq ?k4zq ?k5zq ?_; (case k1zq => k_asm); (case k2zq => k_asm); (case k3zq => first | (with_reducible assumption) | exact News.isTup (by k_asm) (by k_mem) | exact Fr.tup (by k_asm) (by assumption)); (case k4zq => exact Lv.hh (by assumption)); (case k5zq => exact rfl); k_whole); intro zzhq zzFq zzNq; (try k_sweep))
  k_with "assign Tuple" => (k_here; (with_reducible show wpAny _ _ (assign (PySem.Expr.Tuple _ _ _) _ (Value.ref _)) _ _ _); k_dflt (refine' unpackN_ ?k1zq ?k2zq ?k3zq ?k4zq ?k5zq ?k6zq ?_; (case k1zq => k_asm); (case k2zq => k_asm); (case k3zq => first | (with_reducible assumption) | exact News.isTup (by k_asm) (by k_mem) | exact Fr.tup (by k_asm) (by assumption)); (case k4zq => exact Lv.hh (by assumption)); (case k5zq => exact rfl); (case k6zq => exact rfl); k_whole); intro zzhq zzFq zzNq; (try k_sweep))
  k_with "last exec While" => (k_here; (refine while_stop ?_))
  k_with "call builtin:list.pop" => (k_here; (try dsimp only); k_dflt ( (refine' kl_pop ?Fzq ?Nzq ?ezq ?Uzq ?zzq ?_; (case Fzq => k_asm); (case Nzq => k_asm); (case Uzq => k_upd); (case ezq => exact kl_last_snoc _ _); (case zzq => with_reducible assumption); k_whole; intro zzhq zzFq zzNq)))
  k_with "compareOp In int ref" => (k_here; k_dflt (refine' inD ?Nzq ?mzq ?dzq ?lzq ?_; (case Nzq => k_asm); (case mzq => k_mem); (case dzq => with_reducible assumption); (case lzq => with_reducible assumption); k_whole))
  k_with "subscriptTail" => (k_here; (with_reducible show wpAny _ _ (subscriptTail _ _ (Value.ref _) (Value.int _ _)) _ _ _); k_dflt (first | (refine' itemD ?Nzq ?mzq ?dzq ?vzq ?_ ?szq; (case Nzq => k_asm); (case mzq => k_mem); (case dzq => with_reducible assumption); (case vzq => with_reducible assumption); (case szq => with_unfolding_all rfl); k_whole) | (refine' itemO ?Fzq ?tzq ?azq ?xzq ?zzq ?_ ?szq; (case Fzq => k_asm); (case tzq => with_reducible assumption); (case azq => with_reducible assumption); (case xzq => with_reducible assumption); (case zzq => with_reducible assumption); (case szq => with_unfolding_all rfl); k_whole)))
  k_with "setItem ref int" => (k_here; k_dflt (refine' setD ?Fzq ?Nzq ?Uzq ?dzq ?zzq ?_; (case Fzq => k_asm); (case Nzq => k_asm); (case Uzq => k_updF); (case dzq => with_reducible assumption); (case zzq => with_reducible assumption); k_whole; intro zzhq zzoq zzFq zzNq zzdq; (try dsimp only at zzNq)))
  k_with "call builtin:list.extend" => (k_here; (with_reducible show wpAny _ _ (call (Value.builtin _) [Value.ref _, Value.ref _]) _ _ _); k_dflt (refine' extendK ?Fzq ?Nzq ?bzq ?Uzq ?zzq ?_; (case Fzq => k_asm); (case Nzq => k_asm); (case bzq => k_mem); (case Uzq => k_updF); (case zzq => with_reducible assumption); k_whole; intro zzhq zzcq zzFq zzNq; (try dsimp only at zzNq)))
  k_with "newTuple" => (k_here; k_dflt (refine' kup_newTuple ?Fzq ?Nzq ?_ ?zzq; (case Fzq => k_asm); (case Nzq => k_asm); (case zzq => exact Nat.le_of_ble_eq_true rfl)); intro zzDq zzhq zzFq zzNq zzl1; (try k_lt zzl1); (try k_sweep))
  k_with "exec For Name Call cons nil" => (k_here; (with_reducible rename Fr _ _ _ _ => zzlFq); k_dflt (refine' for_inv zzlFq ?j1zq ?j2zq ?j3zq ?_ ?j4zq; (case j1zq => with_unfolding_all rfl); (case j2zq => with_unfolding_all rfl); (case j3zq => with_unfolding_all rfl); (case j4zq => (intro _; with_unfolding_all rfl)); k_whole))
  k_with "execs cons Assign cons" => (k_here; (with_reducible refine wpAny_execs_cons ?_); (try dsimp only))
  k_with "subscriptTail" => (k_here; (with_reducible show wpAny _ _ (subscriptTail _ (PySem.Expr.Slice none (some _) none _) (Value.ref _) (Value.ref _)) _ _ _); k_dflt (first | (refine' sliceTwoA ?Fzq ?Nzq ?tzq ?_ ?dzq ?ezq; (case Fzq => k_asm); (case Nzq => k_asm); (case tzq => assumption); (case dzq => with_unfolding_all rfl); (case ezq => (intro _; with_unfolding_all rfl)); k_whole; intro zzhq zzFq zzNq) | (refine' sliceTwoB ?Fzq ?Nzq ?tzq ?_ ?dzq ?ezq; (case Fzq => k_asm); (case Nzq => k_asm); (case tzq => assumption); (case dzq => with_unfolding_all rfl); (case ezq => (intro _; with_unfolding_all rfl)); k_whole; intro zzhq zzrq zzFq zzNq zzl1; (try k_lt zzl1))))
  k_with "compareOp Eq ref ref" => (k_here; (with_reducible show wpAny _ _ (compareOp CmpOp.Eq (Value.ref _) (Value.ref _)) _ _ _); k_dflt ( (refine' eqTup2 ?uzq ?tazq ?tbzq ?e1zq ?e2zq ?_; (case uzq => exact Lv.units (by assumption)); (case tazq => first | exact News.isTup (by k_asm) (by k_mem) | exact Fr.tup (by k_asm) (by assumption)); (case tbzq => exact News.isTup (by k_asm) (by k_mem)); (case e1zq => exact SeqAt.EqAt.str_str _ _ _ _); (case e2zq => first | exact SeqAt.EqAt.str_str _ _ _ _ | exact SeqAt.EqAt.int_str _ _ _ _ | exact SeqAt.EqAt.tuple_str _ _ (Fr.tup (by k_asm) (by assumption)) (Lv.units (Lv.in1 (by assumption)))); k_whole)))
  k_with "compareOp In str ref" => (k_here; (with_reducible show wpAny _ _ (compareOp CmpOp.In (Value.str _ _) (Value.ref _)) _ _ _); (with_unfolding_all refine' in_tuple_strs ?k1zq ?k2zq ?_; (case k1zq => exact News.isTup (by k_asm) (List.Mem.head _)); (case k2zq => kde_strs); k_whole); (rename News _ _ _ _ => zzNq; replace zzNq := News.tail' zzNq); (try k_sweep))
  k_with "compareOp NotIn int ref" => (k_here; k_dflt (refine' notInD ?Nzq ?mzq ?dzq ?lzq ?_; (case Nzq => k_asm); (case mzq => k_mem); (case dzq => with_reducible assumption); (case lzq => with_reducible assumption); k_whole))
  k_with "assign Tuple" => (k_here; (with_reducible show wpAny _ _ (assign (PySem.Expr.Tuple _ _ _) _ (Value.ref _)) _ _ _); k_dflt (refine' kun_list ?k1zq ?k2zq ?k3zq ?k4zq ?k5zq ?k6zq ?_; (case k1zq => k_asm); (case k2zq => k_asm); (case k3zq => exact News.isList (by k_asm) (by k_mem)); (case k4zq => exact Lv.hh (by assumption)); (case k5zq => exact rfl); (case k6zq => exact rfl); k_whole); intro zzhq zzFq zzNq; (try k_sweep))
  trivial
section
variable {prog : Program} {w : World} {A : Around} {E : Value → Shared → Prop} {s : Shared} {Q : Value → Shared → Prop} {h₀ h' : Heap} {L : Addr} {m : Str → Option Value} {led : Led} {a b : Addr}
theorem codeAt_of {P : Params} {x dx tO tB : Addr} {t1 t2 : Tok} {n n1 n2 : Nat} {as : List Addr} {bs : List Value} {imm : Led} {ops : List Op} {ls : List Int} (N : News h₀ L h' led) (h1 : (x, instObj 89 dx) ∈ led) (h2 : (dx, codeDict P tO tB t1 t2 n) ∈ led) (h3 : (tO, seqObj "tuple" (as.map Value.ref).toArray n1) ∈ led) (h4 : (tB, seqObj "tuple" bs.toArray n2) ∈ led)
    (hi : ∀ q ∈ imm, q ∈ led) (ho : OpsIn imm as ops) (hb : IntsAre bs ls) : CodeAt P h' x tO tB as bs ops ls :=
  ⟨⟨dx, t1, t2, n, InstAt.of_news N h1 h2⟩, News.isTup N h3, ho.at fun q hq => (N q (hi q hq)).1, News.isTup N h4, hb⟩
theorem neSame {items : Array Value} (hl : s.heap.IsList a items) (hb : s.heap.IsList b items) (hu : A.units < cLine) (h : Q (.bool false) s) : wpAny (model prog w) A (compareOp .NotEq (.ref a) (.ref b)) Q E s := by
  refine SeqAt.RcNeAt.lists (e := fun _ => true) hl hb rfl hu (fun j h1 _ => SeqAt.EqAt.same _) prog w E Q ?_
  rw [show ((List.range items.size).all fun _ => true) = true from by simp]
  exact h
theorem key_inj : ∀ {xs : List (FK × Addr)}, (xs.map (·.1)).Pairwise (fun x y => ltP x y = true) → ∀ {p q : FK × Addr}, p ∈ xs → q ∈ xs → p.1 = q.1 → p = q := by
  intro xs
  induction xs with
  | nil => intro _ p q hp; cases hp
  | cons x xs ih =>
    intro hpw p q hp hq e
    rw [List.map_cons, List.pairwise_cons] at hpw
    rcases List.mem_cons.mp hp with e1 | hp1
    · rcases List.mem_cons.mp hq with e2 | hq1
      · rw [e1, e2]
      · have := hpw.1 q.1 (List.mem_map_of_mem hq1)
        rw [← e, e1, ltP_irr] at this; cases this
    · rcases List.mem_cons.mp hq with e2 | hq1
      · have := hpw.1 p.1 (List.mem_map_of_mem hp1)
        rw [e, e2, ltP_irr] at this; cases this
      · exact ih hpw.2 hp1 hq1 e
theorem same_of_keys {xs : List (FK × Addr)} (hx : (xs.map (·.1)).Pairwise (fun x y => ltP x y = true)) : ∀ {ys zs : List (FK × Addr)}, (∀ q ∈ ys, q ∈ xs) → (∀ q ∈ zs, q ∈ xs) → ys.map (·.1) = zs.map (·.1) → ys = zs := by
  intro ys
  induction ys with
  | nil => intro zs _ _ e; cases zs with | nil => rfl | cons z zs => cases e
  | cons y ys ih =>
    intro zs h1 h2 e
    cases zs with
    | nil => cases e
    | cons z zs =>
      rw [List.map_cons, List.map_cons] at e
      injection e with e1 e2
      rw [key_inj hx (h1 _ (.head _)) (h2 _ (.head _)) e1, ih (fun q hq => h1 q (.tail _ hq)) (fun q hq => h2 q (.tail _ hq)) e2]
theorem sorted_same {xs ms ms' : List (FK × Addr)} (hx : (xs.map (·.1)).Pairwise (fun x y => ltP x y = true)) (hs : ∀ q ∈ ms, q ∈ xs) (hk : ∀ q ∈ xs, q.1 ∈ ms.map (·.1)) (hp : ms.Perm ms') (hr : (ms'.map (·.1)).Pairwise (fun x y => ltP x y = true)) : ms' = xs := by
  refine same_of_keys hx (fun q hq => hs q (hp.mem_iff.mpr hq)) (fun q hq => hq) (rising_eq hr hx fun k => ?_)
  constructor
  · intro h
    obtain ⟨q, hq, rfl⟩ := List.mem_map.mp h
    exact List.mem_map_of_mem (hs q (hp.mem_iff.mpr hq))
  · intro h
    obtain ⟨q, hq, rfl⟩ := List.mem_map.mp h
    have := hk q hq
    obtain ⟨r, hr', e⟩ := List.mem_map.mp this
    exact List.mem_map.mpr ⟨r, hp.mem_iff.mp hr', e⟩
noncomputable def mCode (x : Addr) (u : Str → Option Value) : Str → Option Value := fun y => if y = Str.ofString "code" then some (.ref x) else u y
theorem mCode_of {x : Addr} {m : Str → Option Value} (h : m (Str.ofString "code") = some (.ref x)) : m = mCode x m := by
  funext y
  unfold mCode
  split
  · rename_i e; rw [e, h]
  · rfl
noncomputable def CodeMid (P : Params) (g : Heap) (L cb : Addr) (o2 : Obj) (k : Nat) (s : Shared) (f : Flow) (s' : Shared) : Prop :=
  f = .next ∧ ∃ (h' : Heap) (tk : Nat) (x dx tO tB : Addr) (t1 t2 : Tok) (n n1 n2 : Nat) (as : List Addr) (bs : List Value) (imm : Led) (ops : List Op) (ls : List Int) (u : Str → Option Value), s' = { s with heap := h', toks := tk } ∧ Fr g L h' (mCode x u) ∧
    News g L h' ((x, instObj 89 dx) :: (dx, codeDict P tO tB t1 t2 n) :: (tB, seqObj "tuple" bs.toArray n2) :: (tO, seqObj "tuple" (as.map Value.ref).toArray n1) :: (cb, o2) :: imm) ∧ TupAll imm ∧ OpsIn imm as ops ∧ IntsAre bs ls ∧ ls.length = 2 ∧ (∀ y ∈ ls, 0 ≤ y) ∧ as.length = k ∧ (∀ op ∈ ops, (labels op).length ≤ 2)
theorem CodeMid.intro {P : Params} {cb : Addr} {o2 : Obj} {k tk : Nat} {x dx tO tB : Addr} {t1 t2 : Tok} {n n1 n2 : Nat} {as : List Addr} {bs : List Value} {imm : Led} {ops : List Op} {ls : List Int} (F : Fr h₀ L h' m) (N : News h₀ L h' led) (h1 : (x, instObj 89 dx) ∈ led) (h2 : (dx, codeDict P tO tB t1 t2 n) ∈ led) (h3 : (tB, seqObj "tuple" bs.toArray n2) ∈ led) (h4 : (tO, seqObj "tuple" (as.map Value.ref).toArray n1) ∈ led) (h5 : (cb, o2) ∈ led)
    (hi : ∀ q ∈ imm, q ∈ led) (hm : m (Str.ofString "code") = some (.ref x)) (ht : TupAll imm) (ho : OpsIn imm as ops) (hb : IntsAre bs ls) (hb2 : ls.length = 2) (hb0 : ∀ y ∈ ls, 0 ≤ y) (hk : as.length = k) (hl : ∀ op ∈ ops, (labels op).length ≤ 2) : CodeMid P h₀ L cb o2 k s .next { s with heap := h', toks := tk } :=
  ⟨rfl, h', tk, x, dx, tO, tB, t1, t2, n, n1, n2, as, bs, imm, ops, ls, m, rfl, (mCode_of hm) ▸ F, fun q hq => N q (five_mem h1 h2 h3 h4 h5 hi q hq), ht, ho, hb, hb2, hb0, hk, hl⟩
theorem code_cut {P : Params} {cb : Addr} {o2 : Obj} {k : Nat} {t : Sem Flow} {Q : Flow → Shared → Prop} {p1 p2 p3 : Addr × Obj} {imm : Led} (_N : News h₀ L h' (p1 :: p2 :: p3 :: (cb, o2) :: imm))
    (h : wpAny (model prog w) A t (CodeMid P h₀ L cb o2 k s) (fun _ _ => False) s)
    (hQ : ∀ h6 tk6 x dx tO tB t1 t2 n n1 n2 as bs imm ops ls u, TupAll imm → OpsIn imm as ops → IntsAre bs ls → ls.length = 2 → (∀ y ∈ ls, 0 ≤ y) → as.length = k → (∀ op ∈ ops, (labels op).length ≤ 2) → Fr h₀ L h6 (mCode x u) →
      News h₀ L h6 ((x, instObj 89 dx) :: (dx, codeDict P tO tB t1 t2 n) :: (tB, seqObj "tuple" bs.toArray n2) :: (tO, seqObj "tuple" (as.map Value.ref).toArray n1) :: (cb, o2) :: imm) → Q .next { s with heap := h6, toks := tk6 }) : wpAny (model prog w) A t Q E s := by
  refine wpAny_mono h (fun f s' hm => ?_) fun _ _ f => f.elim
  obtain ⟨rfl, h6, tk6, x, dx, tO, tB, t1, t2, n, n1, n2, as6, bs, imm6, ops6, ls, u6, rfl, F6, N6, ht6, ho6, hb6, hb2, hb0, hk6, hl6⟩ := hm
  exact hQ h6 tk6 x dx tO tB t1 t2 n n1 n2 as6 bs imm6 ops6 ls u6 ht6 ho6 hb6 hb2 hb0 hk6 hl6 F6 N6
end
theorem News.cons_mem {h₀ h : Heap} {L : Addr} {led : Led} {p : Addr × Obj} (N : News h₀ L h led) (hp : p ∈ led) : News h₀ L h (p :: led) := fun q hq => N q (by
  rcases List.mem_cons.mp hq with rfl | hq
  · exact hp
  · exact hq)
section
variable {prog : Program} {w : World} {A : Around} {E : Value → Shared → Prop} {s : Shared} {Q : Value → Shared → Prop} {h₀ : Heap} {L : Addr} {led : Led} {a b : Addr}
theorem eqNilN {vs : List Value} {n n2 : Nat} (N : News h₀ L s.heap led) (hb : (b, listOf #[] n2) ∈ led) (hl : (a, seqObj "list" vs.toArray n) ∈ led) (hu : A.units < cLine) (h : Q (.bool vs.isEmpty) s) : wpAny (model prog w) A (compareOp .Eq (.ref a) (.ref b)) Q E s :=
  eqNil (News.isList N hl) (News.isList N hb) hu h
end

end

section
theorem base_L1 : True := by
  k_with_none
  w_top off
  k_with "subscriptTail" => (k_here; (with_reducible show wpAny _ _ (subscriptTail _ _ (Value.ref _) (Value.int _ _)) _ _ _); k_dflt ( (refine' itemT ?Fzq ?tzq ?azq ?bzq ?czq ?dzq ?_; (case Fzq => k_asm); (case tzq => assumption); (case azq => decide); (case bzq => decide); (case czq => rfl); (case dzq => rfl); k_whole)))
  k_with "size_fits" => with_reducible assumption
  k_with "k_room" => exact Lv.room (by assumption)
  k_with "k_inst" => exact instUp (by assumption) (Fr.keep (by k_asm))
  k_with "call builtin:len" => (k_here; (with_reducible show wpAny _ _ (call (Value.builtin "len") [Value.ref _]) _ _ _); k_dflt ( (refine' lenT ?Fzq ?tzq ?azq ?bzq ?_; (case Fzq => k_asm); (case tzq => assumption); (case azq => first | assumption | rfl); (case bzq => first | assumption | decide); k_whole)))
  k_with "eval ListComp" => (k_here; (with_reducible rename Fr _ _ _ _ => zzlFq); k_dflt ( (refine' comp_inv zzlFq ?k1zq ?k2zq ?k3zq ?k4zq ?k5zq ?_ ?k6zq; (case k1zq => with_unfolding_all rfl); (case k2zq => decide); (case k3zq => with_unfolding_all rfl); (case k4zq => decide); (case k5zq => with_unfolding_all rfl); (case k6zq => (intro _; with_unfolding_all rfl)); k_whole)))
  k_with "exec Assign cons ListComp" => (k_here; (with_reducible rename Fr _ _ _ _ => zzlFq); k_dflt ( (refine' comp_assign zzlFq ?j1zq ?j2zq ?k1zq ?k2zq ?k3zq ?k4zq ?k5zq ?j3zq ?j4zq ?_ ?k6zq; (case j1zq => with_unfolding_all rfl); (case j2zq => with_unfolding_all rfl); (case j3zq => with_unfolding_all rfl); (case j4zq => with_unfolding_all rfl); (case k1zq => with_unfolding_all rfl); (case k2zq => decide); (case k3zq => with_unfolding_all rfl); (case k4zq => decide); (case k5zq => with_unfolding_all rfl); (case k6zq => (intro _; with_unfolding_all rfl)); k_whole)))
  k_with "compareOp NotEq ref ref" => (k_here; (with_reducible show wpAny _ _ (compareOp CmpOp.NotEq (Value.ref _) (Value.ref _)) _ _ _); k_dflt ( (refine' neNil ?azq ?bzq ?uzq ?_; (case azq => is_list); (case bzq => is_list); (case uzq => exact Lv.units (by assumption)); k_whole)))
  k_with "compareOp Eq ref ref" => (k_here; (with_reducible show wpAny _ _ (compareOp CmpOp.Eq (Value.ref _) (Value.ref _)) _ _ _); k_dflt ( (refine' eqNil ?azq ?bzq ?uzq ?_; (case azq => is_list); (case bzq => is_list); (case uzq => exact Lv.units (by assumption)); k_whole)))
  k_with "compareOp NotIn str ref" => (k_here; k_dflt (refine' topNotIn_K ?Fzq ?Xzq ?lzq ?kzq ?ezq ?ozq ?_; (case Fzq => k_asm); (case Xzq => k_asm); (case lzq => k_is); (case kzq => k_keys); (case ezq => first | with_reducible assumption | k_is); (case ozq => decide)))
  k_with "eval Name" => (k_here; k_inBlock; (with_reducible rename Fr _ _ _ _ => zzkF); k_dflt (first | (refine' nameQ_L zzkF ?azq ?_ ?bzq ?czq ?dzq ?ezq; (case azq => exact rfl); (case bzq => rfl); (case czq => rfl); (case dzq => rfl); (case ezq => decide); k_whole) | (refine' nameQ_F ?Nzq ?azq ?mzq ?dzq ?_ ?czq ?kzq ?xzq ?yzq; (case Nzq => k_asm); (case azq => exact rfl); (case mzq => k_mem); (case dzq => assumption); (case czq => rfl); (case kzq => rfl); (case xzq => decide); (case yzq => decide); k_whole) | (refine' nameQ_B zzkF ?k1zq ?k2zq ?k3zq ?k4zq ?k5zq ?_ ?bzq ?czq ?dzq ?ezq ?fzq; (case bzq => rfl); (case czq => rfl); (case dzq => rfl); (case ezq => rfl); (case fzq => decide); (case k1zq => k_asm); (case k2zq => k_asm); (case k3zq => k_is); (case k4zq => boot_by_name); (case k5zq => decide); k_whole)))
  k_with "subscriptTail" => (k_here; (with_reducible show wpAny _ _ (subscriptTail _ _ (Value.ref _) (Value.int 0 _)) _ _ _); k_dflt ( (refine' itemT0 ?Fzq ?tzq ?_; (case Fzq => k_asm); (case tzq => with_reducible assumption); k_whole)))
  k_with "ite" => (first | with_reducible refine ite_known_t (by assumption) ?_ | with_reducible refine ite_known_f (by assumption) ?_ | with_reducible refine ite_known_t rfl ?_ | with_reducible refine ite_known_f rfl ?_)
  k_with "k_all" => with_reducible assumption
  k_with "k_all" => ((repeat (rename _ ∧ _ => zzhqq; obtain ⟨_, _⟩ := zzhqq)); exact of_allLt (by with_reducible assumption))
  k_with "subscriptTail" => (k_here; (with_reducible show wpAny _ _ (subscriptTail _ _ (Value.ref _) (Value.str _ _)) _ _ _); k_dflt (refine' topItem_K ?Fzq ?Xzq ?lzq ?kzq ?ezq ?_; (case Fzq => k_asm); (case Xzq => k_asm); (case lzq => k_is); (case kzq => k_keys); (case ezq => with_reducible assumption); k_whole))
  k_with "subscriptTail" => (k_here; (with_reducible show wpAny _ _ (subscriptTail _ (PySem.Expr.Slice (some _) none none _) (Value.ref _) (Value.ref _)) _ _ _); k_dflt ( (refine' sliceT (a := 1) ?Fzq ?Nzq ?tzq ?azq ?bzq ?czq ?_ ?dzq ?ezq; (case Fzq => k_asm); (case Nzq => k_asm); (case tzq => assumption); (case azq => decide); (case bzq => exact Nat.le_of_ble_eq_true rfl); (case czq => exact Nat.le_of_ble_eq_true rfl); (case dzq => with_unfolding_all rfl); (case ezq => (intro _; with_unfolding_all rfl)); k_whole; intro zzhq zzrq zzFq zzNq zzl1; (try k_lt zzl1))))
  k_with "k_mem" => first | exact List.Mem.head _ | (refine' List.Mem.tail _ ?_; k_mem) | (show List.Mem _ _; assumption)
  k_with "unpackItems ref" => (k_here; k_dflt (refine' unpackItemsN_ ?k1zq ?k2zq ?k3zq ?k4zq ?k5zq ?_; (case k1zq => k_asm); (case k2zq => k_asm); (case k3zq => first | (with_reducible assumption) | exact News.isTup (by k_asm) (by k_mem) | exact Fr.tup (by k_asm) (by assumption)); (case k4zq => exact Lv.hh (by assumption)); (case k5zq => exact rfl); k_whole); intro zzhq zzFq zzNq; (try k_sweep))
  k_with "assign Tuple" => (k_here; (with_reducible show wpAny _ _ (assign (PySem.Expr.Tuple _ _ _) _ (Value.ref _)) _ _ _); k_dflt (refine' unpackN_ ?k1zq ?k2zq ?k3zq ?k4zq ?k5zq ?k6zq ?_; (case k1zq => k_asm); (case k2zq => k_asm); (case k3zq => first | (with_reducible assumption) | exact News.isTup (by k_asm) (by k_mem) | exact Fr.tup (by k_asm) (by assumption)); (case k4zq => exact Lv.hh (by assumption)); (case k5zq => exact rfl); (case k6zq => exact rfl); k_whole); intro zzhq zzFq zzNq; (try k_sweep))
  k_with "last exec While" => (k_here; (refine while_stop ?_))
  k_with "call builtin:list.pop" => (k_here; (try dsimp only); k_dflt ( (refine' kl_pop ?Fzq ?Nzq ?ezq ?Uzq ?zzq ?_; (case Fzq => k_asm); (case Nzq => k_asm); (case Uzq => k_upd); (case ezq => exact kl_last_snoc _ _); (case zzq => with_reducible assumption); k_whole; intro zzhq zzFq zzNq)))
  k_with "compareOp In int ref" => (k_here; k_dflt (refine' inD ?Nzq ?mzq ?dzq ?lzq ?_; (case Nzq => k_asm); (case mzq => k_mem); (case dzq => with_reducible assumption); (case lzq => with_reducible assumption); k_whole))
  k_with "subscriptTail" => (k_here; (with_reducible show wpAny _ _ (subscriptTail _ _ (Value.ref _) (Value.int _ _)) _ _ _); k_dflt (first | (refine' itemD ?Nzq ?mzq ?dzq ?vzq ?_ ?szq; (case Nzq => k_asm); (case mzq => k_mem); (case dzq => with_reducible assumption); (case vzq => with_reducible assumption); (case szq => with_unfolding_all rfl); k_whole) | (refine' itemO ?Fzq ?tzq ?azq ?xzq ?zzq ?_ ?szq; (case Fzq => k_asm); (case tzq => with_reducible assumption); (case azq => with_reducible assumption); (case xzq => with_reducible assumption); (case zzq => with_reducible assumption); (case szq => with_unfolding_all rfl); k_whole)))
  k_with "setItem ref int" => (k_here; k_dflt (refine' setD ?Fzq ?Nzq ?Uzq ?dzq ?zzq ?_; (case Fzq => k_asm); (case Nzq => k_asm); (case Uzq => k_updF); (case dzq => with_reducible assumption); (case zzq => with_reducible assumption); k_whole; intro zzhq zzoq zzFq zzNq zzdq; (try dsimp only at zzNq)))
  k_with "call builtin:list.extend" => (k_here; (with_reducible show wpAny _ _ (call (Value.builtin _) [Value.ref _, Value.ref _]) _ _ _); k_dflt (refine' extendK ?Fzq ?Nzq ?bzq ?Uzq ?zzq ?_; (case Fzq => k_asm); (case Nzq => k_asm); (case bzq => k_mem); (case Uzq => k_updF); (case zzq => with_reducible assumption); k_whole; intro zzhq zzcq zzFq zzNq; (try dsimp only at zzNq)))
  k_with "newTuple" => (k_here; k_dflt (refine' kup_newTuple ?Fzq ?Nzq ?_ ?zzq; (case Fzq => k_asm); (case Nzq => k_asm); (case zzq => exact Nat.le_of_ble_eq_true rfl)); intro zzDq zzhq zzFq zzNq zzl1; (try k_lt zzl1); (try k_sweep))
  k_with "exec For Name Call cons nil" => (k_here; (with_reducible rename Fr _ _ _ _ => zzlFq); k_dflt (refine' for_inv zzlFq ?j1zq ?j2zq ?j3zq ?_ ?j4zq; (case j1zq => with_unfolding_all rfl); (case j2zq => with_unfolding_all rfl); (case j3zq => with_unfolding_all rfl); (case j4zq => (intro _; with_unfolding_all rfl)); k_whole))
  k_with "execs cons Assign cons" => (k_here; (with_reducible refine wpAny_execs_cons ?_); (try dsimp only))
  k_with "subscriptTail" => (k_here; (with_reducible show wpAny _ _ (subscriptTail _ (PySem.Expr.Slice none (some _) none _) (Value.ref _) (Value.ref _)) _ _ _); k_dflt (first | (refine' sliceTwoA ?Fzq ?Nzq ?tzq ?_ ?dzq ?ezq; (case Fzq => k_asm); (case Nzq => k_asm); (case tzq => assumption); (case dzq => with_unfolding_all rfl); (case ezq => (intro _; with_unfolding_all rfl)); k_whole; intro zzhq zzFq zzNq) | (refine' sliceTwoB ?Fzq ?Nzq ?tzq ?_ ?dzq ?ezq; (case Fzq => k_asm); (case Nzq => k_asm); (case tzq => assumption); (case dzq => with_unfolding_all rfl); (case ezq => (intro _; with_unfolding_all rfl)); k_whole; intro zzhq zzrq zzFq zzNq zzl1; (try k_lt zzl1))))
  k_with "compareOp Eq ref ref" => (k_here; (with_reducible show wpAny _ _ (compareOp CmpOp.Eq (Value.ref _) (Value.ref _)) _ _ _); k_dflt ( (refine' eqTup2 ?uzq ?tazq ?tbzq ?e1zq ?e2zq ?_; (case uzq => exact Lv.units (by assumption)); (case tazq => first | exact News.isTup (by k_asm) (by k_mem) | exact Fr.tup (by k_asm) (by assumption)); (case tbzq => exact News.isTup (by k_asm) (by k_mem)); (case e1zq => exact SeqAt.EqAt.str_str _ _ _ _); (case e2zq => first | exact SeqAt.EqAt.str_str _ _ _ _ | exact SeqAt.EqAt.int_str _ _ _ _ | exact SeqAt.EqAt.tuple_str _ _ (Fr.tup (by k_asm) (by assumption)) (Lv.units (Lv.in1 (by assumption)))); k_whole)))
  k_with "compareOp In str ref" => (k_here; (with_reducible show wpAny _ _ (compareOp CmpOp.In (Value.str _ _) (Value.ref _)) _ _ _); (with_unfolding_all refine' in_tuple_strs ?k1zq ?k2zq ?_; (case k1zq => exact News.isTup (by k_asm) (List.Mem.head _)); (case k2zq => kde_strs); k_whole); (rename News _ _ _ _ => zzNq; replace zzNq := News.tail' zzNq); (try k_sweep))
  k_with "compareOp NotIn int ref" => (k_here; k_dflt (refine' notInD ?Nzq ?mzq ?dzq ?lzq ?_; (case Nzq => k_asm); (case mzq => k_mem); (case dzq => with_reducible assumption); (case lzq => with_reducible assumption); k_whole))
  k_with "assign Tuple" => (k_here; (with_reducible show wpAny _ _ (assign (PySem.Expr.Tuple _ _ _) _ (Value.ref _)) _ _ _); k_dflt (refine' kun_list ?k1zq ?k2zq ?k3zq ?k4zq ?k5zq ?k6zq ?_; (case k1zq => k_asm); (case k2zq => k_asm); (case k3zq => exact News.isList (by k_asm) (by k_mem)); (case k4zq => exact Lv.hh (by assumption)); (case k5zq => exact rfl); (case k6zq => exact rfl); k_whole); intro zzhq zzFq zzNq; (try k_sweep))
  trivial
theorem lines_L1_1 : True := by
  k_with "call ref" => (k_here; (with_reducible show wpAny _ _ (call (Value.ref _) _) _ _ _); (refine wpAny_call ?_); k_dflt ( (refine' takes_k ?Fzq ?Nzq ?Xzq ?Tzq ?vzq ?_; (case Fzq => k_asm); (case Nzq => k_asm); (case Xzq => k_asm); (case Tzq => k_asm); (case vzq => exact Lv.le (by assumption) (by decide)); k_whole; intro zzhq zztkq zzrq zzoq zzt1q zzt2q zzt3q zzt4q zzFq zzNq zzl1 zzhdq zzloq; (try (replace zzl1 := allNe_of zzl1; simp only [AllNe, and_true] at zzl1)); (try dsimp only); (try k_fold))))
  k_with "call ref" => (k_here; (with_reducible show wpAny _ _ (call (Value.ref _) _) _ _ _); (refine wpAny_call ?_); k_dflt ( (refine' draw_k ?Fzq ?Nzq ?mzq ?Uzq ?Xzq ?Tzq ?vzq ?clzq ?ctzq ?izq ?n1zq ?n2zq ?bzq ?m1zq ?m2zq ?_; (case Fzq => k_asm); (case Nzq => k_asm); (case mzq => k_mem); (case Uzq => k_updF); (case Xzq => k_asm); (case Tzq => k_asm); (case vzq => exact Lv.le (by assumption) (by decide)); (case clzq => exact News.isList (by k_asm) (by k_mem)); (case ctzq => assumption); (case izq => assumption); (case n1zq => assumption); (case n2zq => assumption); (case bzq => assumption); (case m1zq => first | decide | exact (one_lt (by assumption) (by assumption) (by assumption)).1); (case m2zq => first | decide | exact (one_lt (by assumption) (by assumption) (by assumption)).2); k_whole; intro zzhq zztkq zzvq zztvq zztq zznq zzFq zzNq _ zzloq zzhiq zzhbq; (try dsimp only at zzNq); (try dsimp only); (try k_fold))))
  k_with "getMethod ref" => (k_here; (with_reducible show wpAny _ _ (getMethod (Value.ref _) (PySem.Str.ofString "get") _) _ _ _); k_dflt (refine' methD ?Nzq ?mzq ?dzq ?_; (case Nzq => k_asm); (case mzq => k_mem); (case dzq => with_reducible assumption); k_whole))
  k_with "call builtin:dict.get" => (k_here; (try dsimp only); k_dflt (refine' getT ?Nzq ?mzq ?dzq ?lzq ?_; (case Nzq => k_asm); (case mzq => k_mem); (case dzq => with_reducible assumption); (case lzq => with_reducible assumption); k_whole; intro zztq))
  k_with "call ref" => (k_here; (with_reducible show wpAny _ _ (call (Value.ref _) _) _ _ _); (refine wpAny_call ?_); k_dflt ( (refine' op_k ?Fzq ?Nzq ?mzq ?Uzq ?Xzq ?Tzq ?vzq ?clzq ?ctzq ?izq ?n1zq ?n2zq ?bzq ?m1zq ?m2zq ?h0zq ?_; (case Fzq => k_asm); (case Nzq => k_asm); (case mzq => k_mem); (case Uzq => k_updF); (case Xzq => k_asm); (case Tzq => k_asm); (case vzq => exact Lv.le (by assumption) (by decide)); (case clzq => exact News.isList (by k_asm) (by k_mem)); (case ctzq => assumption); (case izq => assumption); (case n1zq => assumption); (case n2zq => assumption); (case bzq => assumption); (case m1zq => assumption); (case m2zq => assumption); (case h0zq => assumption); k_whole; intro zzhq zztkq zzaq zzopq zzatq zztq zznq zzimmq zzFq zzNq _ zzhbq zztaq zzoiq zzlaq zzapq; (try dsimp only at zzNq); (try dsimp only); (try k_fold))))
  k_with "subscriptTail Name Constant ref int" => (k_here; (with_reducible show wpAny _ _ (subscriptTail _ _ (Value.ref _) (Value.int 0 _)) _ _ _); k_dflt ( (refine' itemN0 ?Nzq ?mzq ?_ ?szq; (case Nzq => k_asm); (case mzq => k_mem); (case szq => with_unfolding_all rfl); k_whole)))
  k_with "subscriptTail Name Slice ref ref" => (k_here; (with_reducible show wpAny _ _ (subscriptTail _ (PySem.Expr.Slice none (some _) none _) (Value.ref _) (Value.ref _)) _ _ _); k_dflt (refine' sliceTwoN ?Fzq ?Nzq ?tzq ?_ ?dzq ?ezq; (case Fzq => k_asm); (case Nzq => k_asm); (case tzq => k_mem); (case dzq => with_unfolding_all rfl); (case ezq => (intro _; with_unfolding_all rfl)); k_whole; intro zzhq zzrq zznq zzFq zzNq))
  k_with "compareOp Eq ref ref" => (k_here; (with_reducible show wpAny _ _ (compareOp CmpOp.Eq (Value.ref _) (Value.ref _)) _ _ _); k_dflt ( (refine' eqTup2N ?Nzq ?tazq ?tbzq ?uzq ?u1zq ?nzq ?Hzq ?_; (case Nzq => k_asm); (case tazq => k_mem); (case tbzq => k_mem); (case uzq => exact Lv.units (by assumption)); (case u1zq => exact Lv.units (Lv.in1 (by assumption))); (case nzq => assumption); (case Hzq => (intro q hq; repeat (first | exact List.mem_append_left _ hq | refine List.Mem.tail _ ?_))); k_whole; intro zzbbq)))
  k_with "call builtin:max" => (k_here; (with_reducible show wpAny _ _ (call (Value.builtin _) [Value.int 0 _, Value.int _ _]) _ _ _); k_dflt ( (refine' max0N ?hhzq ?Fzq ?Nzq ?_; (case hhzq => exact Lv.hh (by assumption)); (case Fzq => k_asm); (case Nzq => k_asm); k_whole; intro zzhq zztkq zzxq zztq zzloq zzFq zzNq)))
  k_with "call ref" => (k_here; (with_reducible show wpAny _ _ (call (Value.ref _) [Value.ref _, Value.ref _]) _ _ _); k_dflt (refine' code_k ?Fzq ?Nzq ?Xzq ?Tzq ?vzq ?_; (case Fzq => k_asm); (case Nzq => k_asm); (case Xzq => k_asm); (case Tzq => k_asm); (case vzq => exact Lv.le (by assumption) (by decide)); k_whole; intro zzhq zztkq zzxq zzdxq zzt1q zzt2q zznq zzFq zzNq zzl1 zzl2; (try k_lt zzl1); (try k_lt2 zzl2); (try dsimp only); (try k_fold)))
  k_with "call ref" => (k_here; (with_reducible show wpAny _ _ (call (Value.ref 65) [Value.ref _]) _ _ _); (refine wpAny_call ?_); k_dflt ( (refine' wellf_k ?Fzq ?Nzq ?Xzq ?Tzq ?vzq ?czq ?zzq ?z1zq ?z2zq ?lzq ?_; (case Fzq => k_asm); (case Nzq => k_asm); (case Xzq => k_asm); (case Tzq => k_asm); (case vzq => exact Lv.le (by assumption) (by decide)); (case czq => (refine' codeAt_of ?cNzq ?c1zq ?c2zq ?c3zq ?c4zq ?cizq ?cozq ?cbzq; (case cNzq => k_asm); (case c1zq => k_mem); (case c2zq => k_mem); (case c3zq => k_mem); (case c4zq => k_mem); (case cozq => assumption); (case cbzq => assumption); (case cizq => (intro q hq; repeat (first | exact hq | exact List.mem_append_left _ hq | refine List.Mem.tail _ ?_))))); (case zzq => (first | lia | omega)); (case z1zq => (first | lia | omega)); (case z2zq => (first | lia | omega)); (case lzq => assumption); k_whole; intro zzhq zztkq zzdq zzrq zzcq zzxsq zzimmq zzFq zzNq zzapq zzexq zztaq zzfiq zzleq zzpwq zzrgq zziffq; (try dsimp only); (try k_fold))))
  k_with "compareOp NotEq ref ref" => (k_here; (with_reducible show wpAny _ _ (compareOp CmpOp.NotEq (Value.ref _) (Value.ref _)) _ _ _); k_dflt ( (refine' neSame ?azq ?bzq ?uzq ?_; (case azq => exact News.isList (by k_asm) (by k_mem)); (case bzq => exact News.isList (by k_asm) (by k_mem)); (case uzq => exact Lv.units (by assumption)); k_whole)))
  k_with "call ref" => (k_here; (with_reducible show wpAny _ _ (call (Value.ref 128) [Value.ref _]) _ _ _); (refine wpAny_call ?_); k_dflt ( (refine' good_k ?Fzq ?Xzq ?Tzq ?vzq ?czq ?zzq ?z2zq ?lzq ?bzq ?_; (case Fzq => k_asm); (case Xzq => k_asm); (case Tzq => k_asm); (case vzq => exact Lv.le (by assumption) (by decide)); (case czq => (refine' codeAt_of ?cNzq ?c1zq ?c2zq ?c3zq ?c4zq ?cizq ?cozq ?cbzq; (case cNzq => k_asm); (case c1zq => k_mem); (case c2zq => k_mem); (case c3zq => k_mem); (case c4zq => k_mem); (case cozq => assumption); (case cbzq => assumption); (case cizq => (intro q hq; repeat (first | exact hq | exact List.mem_append_left _ hq | refine List.Mem.tail _ ?_))))); (case zzq => (first | lia | omega)); (case z2zq => (first | lia | omega)); (case lzq => assumption); (case bzq => assumption); k_whole; intro zzhq zztkq zzvq zzFq zzviq; (try dsimp only); (try k_fold))))
  k_with "compareOp Eq ref ref" => (k_here; (with_reducible show wpAny _ _ (compareOp CmpOp.Eq (Value.ref _) (Value.ref _)) _ _ _); k_dflt ( (refine' eqNilN ?Nzq ?bzq ?azq ?uzq ?_; (case Nzq => k_asm); (case bzq => exact List.Mem.head _); (case azq => k_mem); (case uzq => exact Lv.units (by assumption)); k_whole)))
  trivial
section
noncomputable def LawMid (g : Heap) (L : Addr) (s : Shared) (f : Flow) (s' : Shared) : Prop :=
  f = .next ∧ ∃ (h' : Heap) (tk : Nat) (tp cl : Addr) (vs : List Value) (ns : List Int) (c : Nat) (at1 : Int) (t1 : Tok) (n1 : Nat) (m : Str → Option Value) (o1 o2 : Obj), s' = { s with heap := h', toks := tk } ∧ Fr g L h' m ∧
    News g L h' [(tp, tapeOf cl at1 t1 n1), (cl, seqObj "list" vs.toArray c), (L + 1 + 1, o2), (L + 1, o1)] ∧ at1 = 0 ∧ @Ne Nat cl tp ∧ @LT.lt Nat _ (L + 1 + 1) tp ∧ @LT.lt Nat _ (L + 1 + 1) cl ∧ IntsAre vs ns ∧ 1 ≤ ns.length ∧ ns.length ≤ 60 ∧ o1.data = .cell (some (.ref tp)) ∧ o2.data = .cell none
theorem LawMid.intro {g h' : Heap} {L tp cl : Addr} {s : Shared} {tk : Nat} {vs : List Value} {ns : List Int} {c n1 : Nat} {t1 : Tok} {m : Str → Option Value} {o1 o2 : Obj} {news : Led} (F : Fr g L h' m) (N : News g L h' news) (h1 : (tp, tapeOf cl 0 t1 n1) ∈ news)
    (h2 : (cl, seqObj "list" vs.toArray c) ∈ news) (h3 : (L + 1 + 1, o2) ∈ news) (h4 : (L + 1, o1) ∈ news) (d1 : @Ne Nat cl tp) (d2 : @LT.lt Nat _ (L + 1 + 1) tp) (d3 : @LT.lt Nat _ (L + 1 + 1) cl) (hi : IntsAre vs ns) (hn1 : 1 ≤ ns.length) (hn2 : ns.length ≤ 60)
    (e1 : o1.data = .cell (some (.ref tp))) (e2 : o2.data = .cell none) : LawMid g L s .next { s with heap := h', toks := tk } := by
  refine ⟨rfl, h', tk, tp, cl, vs, ns, c, 0, t1, n1, m, o1, o2, rfl, F, fun q hq => ?_, rfl, d1, d2, d3, hi, hn1, hn2, e1, e2⟩
  rcases List.mem_cons.mp hq with rfl | hq
  · exact N _ h1
  rcases List.mem_cons.mp hq with rfl | hq
  · exact N _ h2
  rcases List.mem_cons.mp hq with rfl | hq
  · exact N _ h3
  rw [List.mem_singleton.mp hq]; exact N _ h4
end
local macro_rules
  | `(tactic| k_qdec) => `(tactic| decide +kernel)
theorem callerLv : Lv callerA 10 := ⟨rfl, by decide, by decide⟩
noncomputable def LawEnd (L : Addr) (s : Shared) (f : Flow) (s' : Shared) : Prop := f = .ret (.bool true) ∧ ∃ (h' : Heap) (tk : Nat) (d : Drawn) (m : Str → Option Value), s' = { s with heap := h', toks := tk, drawn := d } ∧ Fr s.heap L h' m
set_option maxHeartbeats 8000000 in
theorem law_w : PySem.Challenge.rw_og0072_01.Holds := Mine.hdw (by
  k_go0
  all_goals try k_fold
  dsimp only
  rename Shared => s₁
  rename World => w
  refine' wpAny_mono (Q := LawEnd s₁.heap.objs.size s₁) (E := fun _ _ => False) ?main (fun f s' hm => ?fin) (fun _ _ f => f.elim)
  case fin =>
    obtain ⟨rfl, h', tk, d, m, rfl, F⟩ := hm
    change GoodW _ _ _ _ _ (Except.ok (Flow.ret (Value.bool true))) _
    k_steps


  case main =>
    rename (Mine.hd.heap_1 _).In _ => X
    rename Top _ _ _ _ _ _ => T
    rename Heap.IsList _ _ _ => hl
    rename IntsAre _ _ => hi
    generalize hA : callerA.deeper _ = A'
    have hv : Lv A' 9 := by
      rw [← hA]
      exact callerLv.down
    clear hA
    try (rename Ground .. => z; clear z)
    try (rename Flt.MathXP .. => z; clear z)
    try (rename Glob .. => z; clear z)
    try (rename Tables .. => z; clear z)
    try (rename TopE .. => z; clear z)
    try (rename TopW .. => z; clear z)
    try (rename BMod .. => z; clear z)
    try (rename CellsAre .. => z; clear z)
    try (rename Dflts .. => z; clear z)
    try (rename Heap.CodeRec .. => z; clear z)
    try (rename LooseAre .. => z; clear z)
    try (rename Below .. => z; clear z)
    try (rename ReadsAllW .. => z; clear z)
    try (rename Reads .. => z; clear z)
    try (rename Well .. => z; clear z)
    try (rename ReadsAll .. => z; clear z)
    try clear qk ek
    refine wpAny_execs_cons ?_
    refine' wpAny_mono (Q := LawMid s₁.heap s₁.heap.objs.size s₁) (E := fun _ _ => False) ?mid (fun f s' hm => ?rest) (fun _ _ f => f.elim)
    case mid =>
      k_steps
      · (rename Fr _ _ _ _ => Fe; rename News _ _ _ _ => Ne)
        refine LawMid.intro Fe Ne (by repeat (first | exact List.Mem.head _ | refine List.Mem.tail _ ?_)) (by repeat (first | exact List.Mem.head _ | refine List.Mem.tail _ ?_)) (by repeat (first | exact List.Mem.head _ | refine List.Mem.tail _ ?_)) (by repeat (first | exact List.Mem.head _ | refine List.Mem.tail _ ?_)) ?_ ?_ ?_ (by assumption) ?_ ?_ (by assumption) (by assumption)
        all_goals (first | lia | omega)
      · (rename Fr _ _ _ _ => Fe; rename News _ _ _ _ => Ne)
        refine LawMid.intro Fe Ne (by repeat (first | exact List.Mem.head _ | refine List.Mem.tail _ ?_)) (by repeat (first | exact List.Mem.head _ | refine List.Mem.tail _ ?_)) (by repeat (first | exact List.Mem.head _ | refine List.Mem.tail _ ?_)) (by repeat (first | exact List.Mem.head _ | refine List.Mem.tail _ ?_)) ?_ ?_ ?_ (.cons _ _ .nil) ?_ ?_ (by assumption) (by assumption)
        all_goals first | lia | omega | decide
    case rest =>
      obtain ⟨rfl, h', tk, tp, cl, vs, ns, c, at1, t1, n1, m, o1, o2, rfl, F, N, rfl, d1, d2, d3, hI, hn1, hn2, e1, e2⟩ := hm
      have hct : cl ≠ tp := d1
      try (rename _ = Data.cell (bindC ..) => z; clear z)
      try (rename _ = Data.cell (bindC ..) => z; clear z)
      clear hl hi
      have hb0 : TpB 0 441 := ⟨by decide, by decide⟩
      try dsimp only
      try k_fold
      k_steps
      (rename Fr _ _ _ _ => Fe; rename News _ _ _ _ => Ne)
      rename 0 ≤ _ => lo
      rename _ < 10 => hi
      obtain ⟨kk, rfl⟩ := Int.eq_ofNat_of_zero_le lo
      rename IsRange _ _ _ _ _ _ _ _ => hr
      have hmm1 : (1 : Int) ≤ 1 + (kk : Int) := by lia
      have hmm2 : 1 + (kk : Int) ≤ 10 := by lia
      have hkk : kk < 10 := by lia
      refine law_loop (ca := s₁.heap.objs.size + 1) (cb := s₁.heap.objs.size + 1 + 1) (n := kk + 1) hv.hh Fe Ne (by repeat (first | exact List.Mem.head _ | refine List.Mem.tail _ ?_)) (by repeat (first | exact List.Mem.head _ | refine List.Mem.tail _ ?_)) (by repeat (first | exact List.Mem.head _ | refine List.Mem.tail _ ?_)) (by repeat (first | exact List.Mem.head _ | refine List.Mem.tail _ ?_)) (by repeat (first | exact List.Mem.head _ | refine List.Mem.tail _ ?_)) hr (by lia) (by lia) (by rfl) (by rfl) (Int.le_refl _) (by assumption) ?_ ?_
      · intro i t u as ops at_ t1 k hgt th imm own cO h tk hi2 ht ho hlen hlab hg ha hap1 hap2 F5 N5
        clear Fe Ne
        try dsimp only
        try k_fold
        refine wpAny_execs_cons ?_
        replace ha := TpB.turn (Nat.lt_of_lt_of_le hi2 hkk) ha
        refine turn_cut (30 + 41 * (10 - (i + 1))) N5 F5 (by rfl) hap1 ?tm ?tr
        case tm =>
          k_steps
          · (rename Fr _ _ _ _ => Fe; rename News _ _ _ _ => Ne)
            exact TurnMid.intro (op := .stop .end_) (imm2 := [(_, _)]) Fe Ne (by repeat (first | exact List.Mem.head _ | refine List.Mem.tail _ ?_)) (by repeat (first | exact List.Mem.head _ | refine List.Mem.tail _ ?_)) (by repeat (first | exact List.Mem.head _ | refine List.Mem.tail _ ?_)) (by repeat (first | exact List.Mem.head _ | refine List.Mem.tail _ ?_)) (by repeat (first | exact List.Mem.head _ | refine List.Mem.tail _ ?_)) (one_in (List.Mem.head _)) (fun p hp => by repeat (first | exact hp | refine List.Mem.tail _ ?_)) (by rfl) (by rfl) (by rfl) (one_tup rfl)
              (opIn_of (List.Mem.head _) rfl (Nat.le_of_ble_eq_true rfl) (neg_str _ _) (fun _ H => ⟨_, _, tup_is (H _ (List.Mem.head _)) rfl⟩)) (Nat.le_of_ble_eq_true rfl) (TpB.less (by assumption))
          all_goals (
            (rename Fr _ _ _ _ => Fe; rename News _ _ _ _ => Ne)
            rename OpIn _ _ _ => oi
            rename TupAll _ => ta
            rename (labels _).length ≤ 2 => la
            simp only [List.cons_append] at Ne
            exact TurnMid.intro Fe Ne (by repeat (first | exact List.Mem.head _ | refine List.Mem.tail _ ?_)) (by repeat (first | exact List.Mem.head _ | refine List.Mem.tail _ ?_)) (by repeat (first | exact List.Mem.head _ | refine List.Mem.tail _ ?_)) (by repeat (first | exact List.Mem.head _ | refine List.Mem.tail _ ?_)) (by repeat (first | exact List.Mem.head _ | refine List.Mem.tail _ ?_)) (fun p hp => by repeat (first | exact List.mem_append_right _ hp | refine List.Mem.tail _ ?_)) (fun p hp => by repeat (first | exact List.mem_append_left _ hp | refine List.Mem.tail _ ?_)) (by rfl) (by rfl) (by rfl) ta oi la (by first | assumption | exact TpB.less (by assumption)))
        case tr =>
          clear N5 F5
          intro h6 tk6 a op at6 t6 n6 imm6 u6 t0 y rst nn ht6 ho6 hl6 e61 hneg hda hapD F6 N7
          have hz : as.length ≤ 1000 := by lia
          try dsimp only
          try k_fold
          have hpe : (as.map Value.ref).toArray.push (Value.ref a) = ((as ++ [a]).map Value.ref).toArray := by simp
          k_steps
          all_goals (
            (rename Fr _ _ _ _ => Fe; rename News _ _ _ _ => Ne)
            rw [show W.listOf ((as.map Value.ref).toArray.push (Value.ref a)) (cO + 1) = seqObj "list" ((as ++ [a]).map Value.ref).toArray (cO + 1) from by rw [hpe]] at Ne
            exact law_turn_end (imm := imm6 ++ imm) Fe Ne (by repeat (first | exact List.Mem.head _ | refine List.Mem.tail _ ?_)) (by repeat (first | exact List.Mem.head _ | refine List.Mem.tail _ ?_)) (by repeat (first | exact List.Mem.head _ | refine List.Mem.tail _ ?_)) (by repeat (first | exact List.Mem.head _ | refine List.Mem.tail _ ?_)) (by repeat (first | exact List.Mem.head _ | refine List.Mem.tail _ ?_)) (fun p hp => by rw [List.append_assoc] at hp; repeat (first | exact hp | refine List.Mem.tail _ ?_)) (by rfl) (by rfl) (fun q hq => (List.mem_append.mp hq).elim (ht6 q) (ht q))
              (OpsIn.snoc (ho.mono fun q hq => List.mem_append_right _ hq) (ho6.mono fun q hq => List.mem_append_left _ hq)) (by rw [List.length_append, List.length_singleton, hlen]) (fun x hx => (List.mem_append.mp hx).elim (hlab x) fun e => by rw [List.mem_singleton.mp e]; exact hl6) (Int.add_nonneg (by assumption) (by decide)) e61)
      · intro u as ops at_ t1 k hgt th imm cO h tk ht ho hlen hlab ha hap1 hap2 F5 N5
        clear Fe Ne
        try dsimp only
        try k_fold
        refine wpAny_execs_cons ?_
        refine code_cut (P := w.params) (k := kk + 1) N5 ?tc ?ta
        case tc =>
          k_steps
          (rename Fr _ _ _ _ => Fe; rename News _ _ _ _ => Ne)
          rename IsRange _ _ _ _ _ _ _ _ => hr2
          have hDt := tup_ne_list (b := tp) Ne (.head _) (by repeat (first | exact List.Mem.head _ | refine List.Mem.tail _ ?_))
          refine tape_range (n := 2) (tp := tp) (cl := cl) (at₀ := at_) (t₀ := t1) (k₀ := k) hv.hh Fe Ne (by k_updF) hr2 (by decide) (fun i acc at' => TpB at' (20 + 2 * (2 - i)) ∧ ∃ ls, IntsAre acc ls ∧ ls.length = i ∧ ∀ y ∈ ls, 0 ≤ y) ⟨ha.to (by decide), [], .nil, rfl, (fun _ h => nomatch h)⟩ ?_ ?_
          · intro base kb i v acc at9 t9 k9 own h9 tk9 m₁ C hi9 hP hG hown F9 N9
            obtain ⟨g1, ls, g3, g4, g5⟩ := hG
            replace g1 := TpB.two hi9 g1
            have hap9 : ∀ p ∈ imm ++ own, p.1 ≠ tp := fun p hp => (List.mem_append.mp hp).elim (hap2 p) (hown p)
            replace X := X.keeps kb
            replace T := T.keeps kb
            clear Fe Ne
            simp only [List.cons_append, List.nil_append] at N9
            refine wpAny_tests_nil ?_
            try dsimp only
            try k_fold
            k_steps
            have hf19 := fdiv19 (by assumption) (by assumption)
            k_steps
            (rename Fr _ _ _ _ => Fe; rename News _ _ _ _ => Ne)
            exact TEnd.intro _ _ _ Fe Ne (fun q hq => by simpa only [List.cons_append] using hq) ⟨by assumption, _, ints_snoc g3 _ _, by rw [List.length_append, List.length_singleton, g4], fun y hy => (List.mem_append.mp hy).elim (g5 y) fun e => by rw [List.mem_singleton.mp e]; assumption⟩
          · intro D9 h9 tk9 c9 acc9 at9 t9 k9 F9 N9 hd9 hG9
            obtain ⟨g1, ls, g3, g4, g5⟩ := hG9
            clear Fe Ne
            try dsimp only
            try k_fold
            k_steps
            (rename Fr _ _ _ _ => Fe; rename News _ _ _ _ => Ne)
            exact CodeMid.intro Fe Ne (by repeat (first | exact List.Mem.head _ | refine List.Mem.tail _ ?_)) (by repeat (first | exact List.Mem.head _ | refine List.Mem.tail _ ?_)) (by repeat (first | exact List.Mem.head _ | refine List.Mem.tail _ ?_)) (by repeat (first | exact List.Mem.head _ | refine List.Mem.tail _ ?_)) (by repeat (first | exact List.Mem.head _ | refine List.Mem.tail _ ?_)) (imm := imm) (fun p hp => by repeat (first | exact hp | refine List.Mem.tail _ ?_)) (by rfl) ht ho g3 g4 g5 hlen hlab
        case ta =>
          clear N5 F5 ht ho hlab hap1 hap2 hlen
          intro h6 tk6 x dx tO tB t1 t2 n n1' n2' as6 bs imm6 ops6 ls u6 ht6 ho6 hb6 hb2 hb0 hk6 hl6 F6 N6
          have hol := ho6.length
          try dsimp only
          try k_fold
          k_steps
          (rename Fr _ _ _ _ => Fe; rename News _ _ _ _ => Ne)
          rename FaultsIn _ _ => hf
          rename List.Pairwise _ _ => hpw
          rename (_ = [] ↔ _) => hiff
          rename (∀ q : FK × Addr, q ∈ _ → 0 ≤ q.1.1 ∧ _) => hrg
          rename List.length _ ≤ 33 => hle
          rename TupAll _ => hti
          rename List (FK × Addr) => xs
          rename List (Addr × Obj) => imm7
          simp only [List.cons_append] at Ne
          have hux : A'.units + 16 < cLine := by have := hv.hu; simp only [cLine]; (first | lia | omega)
          refine set_of_list xs Fe Ne hv.hh hux (by (first | lia | omega)) (News.isList Ne (by repeat (first | exact List.Mem.head _ | refine List.Mem.tail _ ?_))) (faults_tk Ne (fun q hq => by repeat (first | exact List.mem_append_right _ hq | refine List.Mem.tail _ ?_)) hf) ?_
          intro h7 tk7 S ms F7 N7 hS hH
          try dsimp only
          try k_fold
          clear Fe Ne
          k_steps
          (rename Fr _ _ _ _ => Fe; rename News _ _ _ _ => Ne)
          have hml := held_len hH
          have hfm : FaultsIn imm7 ms := fun q hq => hf q (hH.sub q hq)
          refine sorted_set ms Fe Ne hv.hh hS hH.nd (by (first | lia | omega)) (fun p hp h9 F9 N9 => faults_tk N9 (fun q hq => by repeat (first | exact List.mem_append_right _ hq | refine List.Mem.tail _ ?_)) hfm p hp) ?_
          intro D h8 tk8 d8 c8 ms' F8 N8 lt8 hperm hrise
          obtain rfl := sorted_same hpw hH.sub hH.all hperm.symm hrise
          try dsimp only
          try k_fold
          clear Fe Ne
          k_steps
          (rename Fr _ _ _ _ => Fe; rename News _ _ _ _ => Ne)
          refine pack_list (vs := refsP ms') hv.hh Fe Ne (by repeat (first | exact List.Mem.head _ | refine List.Mem.tail _ ?_)) (by rw [refsP, List.length_map]; (first | lia | omega)) (fun i acc => acc = []) rfl ?_ ?_
          · intro base kb i v acc own h9 tk9 m₁ C hi9 hP hG F9 N9
            subst hG
            rw [refsP, List.getElem?_map] at hP
            obtain ⟨q, hq, rfl⟩ := Option.map_eq_some_iff.mp hP
            have hqm := List.mem_of_getElem? hq
            obtain ⟨tq1, tq2, cq, hqn⟩ := hf q hqm
            have hqb := hrg q hqm
            have N10 := News.cons_mem N9 (by repeat (first | exact List.mem_append_left _ (List.mem_append_right _ hqn) | refine List.Mem.tail _ ?_) : (q.2, seqObj "tuple" (List.toArray [.int q.1.1 tq1, .str q.1.2 tq2]) cq) ∈ _)
            replace X := X.keeps kb
            replace T := T.keeps kb
            clear Fe Ne N9
            try simp only [List.cons_append, List.nil_append] at N10
            refine wpAny_tests_one ?_
            try dsimp only
            try k_fold
            k_steps
            (rename Fr _ _ _ _ => Fe; rename News _ _ _ _ => Ne)
            exact PEnd.intro Fe Ne (fun q hq => List.mem_cons_of_mem _ (by simpa only [List.cons_append] using hq)) rfl
          · intro D9 h9 tk9 c9 acc9 F9 N9 hd9 hG9
            subst hG9
            clear Fe Ne
            try dsimp only
            try k_fold
            k_steps
            (rename Fr _ _ _ _ => Fe; rename News _ _ _ _ => Ne)
            rename (_ = true ↔ formsOk _ _ ∧ _) => hv9
            rename Bool => b9
            have eb : (refsP ms').isEmpty = b9 := by
              rw [Bool.eq_iff_iff, hv9, ← hiff, refsP]
              simp
            rw [eb, beq_self_eq_true]
            exact ⟨rfl, _, _, _, _, rfl, Fe⟩)

end

end Mine
theorem PySem.Challenge.cw_og0072_01_holds : PySem.Challenge.rw_og0072_01.Holds :=
  Mine.law_w
