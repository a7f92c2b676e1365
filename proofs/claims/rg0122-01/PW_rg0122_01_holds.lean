import PyProof.Rows.All
import Wide.All
import OpenK.AllK
import Wide.FinOn
import PySem.Challenge.RW_rg0122_01
set_option Elab.async false
set_option compiler.extract_closed false
set_option genInjectivity false
set_option genSizeOfSpec false
set_option maxRecDepth 100000
namespace Mine
section
open PySem
/-- the goal set aside, while facts are taken apart -/
theorem hide {G : Prop} (h : ∀ P : Prop, (G → P) → P) : G := h G fun x => x
/-! ### tables of sets: what is pure -/
theorem inc_lt {xs : Array Nat} (hp : xs.toList.Pairwise (· < ·)) {i k : Nat} (hik : i < k) (hk : k < xs.size) : xs.getD i 0 < xs.getD k 0 := by
  have h := List.pairwise_iff_getElem.mp hp i k (by simp; lia) (by simpa using hk) hik
  have hi : i < xs.size := by lia
  simpa [Array.getD, hi, hk] using h
theorem below_go (xs : Array Nat) (hp : xs.toList.Pairwise (· < ·)) (j : Nat) : ∀ (f lo hi : Nat), hi - lo ≤ f → lo ≤ hi → hi ≤ xs.size → (∀ i, i < lo → xs.getD i 0 < j) → (∀ i, hi ≤ i → i < xs.size → j ≤ xs.getD i 0) →
    SetTable.below.go xs j f lo hi ≤ xs.size ∧ (∀ i, i < SetTable.below.go xs j f lo hi → xs.getD i 0 < j) ∧ (∀ i, SetTable.below.go xs j f lo hi ≤ i → i < xs.size → j ≤ xs.getD i 0)
  | 0, lo, hi, hf, hl, hh, h1, h2 => by
    have e : lo = hi := by lia
    subst e
    unfold SetTable.below.go
    exact ⟨hh, h1, h2⟩
  | f + 1, lo, hi, hf, hl, hh, h1, h2 => by
    unfold SetTable.below.go
    by_cases hlt : lo < hi
    · rw [if_pos hlt]
      dsimp only
      have hms : (lo + hi) / 2 < xs.size := by lia
      have ed : xs.getD ((lo + hi) / 2) j = xs.getD ((lo + hi) / 2) 0 := by simp [Array.getD, hms]
      rw [ed]
      by_cases hm : xs.getD ((lo + hi) / 2) 0 < j
      · rw [if_pos hm]
        refine below_go xs hp j f _ _ (by lia) (by lia) hh (fun i hi' => ?_) h2
        by_cases e : i = (lo + hi) / 2
        · subst e; exact hm
        · exact Nat.lt_trans (inc_lt hp (by lia) (by lia)) hm
      · rw [if_neg hm]
        refine below_go xs hp j f _ _ (by lia) (by lia) (by lia) h1 (fun i hi' hs => ?_)
        by_cases e : i = (lo + hi) / 2
        · subst e; lia
        · have := inc_lt hp (show (lo + hi) / 2 < i by lia) hs; lia
    · rw [if_neg hlt]
      have e : lo = hi := by lia
      subst e
      exact ⟨hh, h1, h2⟩
theorem below_spec (xs : Array Nat) (hp : xs.toList.Pairwise (· < ·)) (j : Nat) :
    SetTable.below xs j ≤ xs.size ∧ (∀ i, i < SetTable.below xs j → xs.getD i 0 < j) ∧ (∀ i, SetTable.below xs j ≤ i → i < xs.size → j ≤ xs.getD i 0) :=
  below_go xs hp j xs.size 0 xs.size (by lia) (Nat.zero_le _) (Nat.le_refl _) (fun i h => absurd h (Nat.not_lt_zero _)) (fun i h1 h2 => by lia)
theorem getD_mem {xs : Array Nat} {j : Nat} (h : j ∈ xs.toList) : ∃ i, i < xs.size ∧ xs.getD i 0 = j := by
  obtain ⟨i, hi, e⟩ := List.getElem_of_mem h
  have hi' : i < xs.size := by simpa using hi
  exact ⟨i, hi', by simpa [Array.getD, hi'] using e⟩
theorem below_mem {xs : Array Nat} (hp : xs.toList.Pairwise (· < ·)) {j : Nat} (h : j ∈ xs.toList) : xs[SetTable.below xs j]? = some j := by
  obtain ⟨b1, b2, b3⟩ := below_spec xs hp j
  obtain ⟨i, hi, e⟩ := getD_mem h
  have hle : SetTable.below xs j ≤ i := by
    by_cases q : i < SetTable.below xs j
    · have := b2 i q; lia
    · lia
  have hb : SetTable.below xs j < xs.size := by lia
  have h3 := b3 _ (Nat.le_refl _) hb
  have : SetTable.below xs j = i := by
    by_cases q : SetTable.below xs j = i
    · exact q
    · have := inc_lt hp (show SetTable.below xs j < i by lia) hi; lia
  rw [this]
  rw [Array.getElem?_eq_getElem hi]
  simpa [Array.getD, hi] using e
theorem put_inc {xs : Array Nat} (hp : xs.toList.Pairwise (· < ·)) {j : Nat} (hj : j ∉ xs.toList) : (SetTable.insertAt xs (SetTable.below xs j) j).toList.Pairwise (· < ·) := by
  obtain ⟨b1, b2, b3⟩ := below_spec xs hp j
  rw [SetTable.toList_insertAt]
  have lo : ∀ a ∈ xs.toList.take (SetTable.below xs j), a < j := by
    intro a ha
    obtain ⟨i, hi, e⟩ := List.getElem_of_mem ha
    have hi' : i < SetTable.below xs j := by simp at hi; lia
    have h2 := b2 i hi'
    have hs : i < xs.size := by lia
    have : xs.getD i 0 = a := by rw [← e]; simp [Array.getD, hs]
    lia
  have hi : ∀ a ∈ xs.toList.drop (SetTable.below xs j), j < a := by
    intro a ha
    obtain ⟨i, hi, e⟩ := List.getElem_of_mem ha
    have hi' : SetTable.below xs j + i < xs.size := by simp at hi; lia
    have h3 := b3 _ (Nat.le_add_right _ i) hi'
    have e2 : xs.getD (SetTable.below xs j + i) 0 = a := by rw [← e]; simp [Array.getD, hi']
    have hne : a ≠ j := fun q => hj (q ▸ List.mem_of_mem_drop ha)
    lia
  refine List.pairwise_append.mpr ⟨hp.sublist (List.take_sublist _ _), List.pairwise_cons.mpr ⟨hi, hp.sublist (List.drop_sublist _ _)⟩, ?_⟩
  intro a ha b hb
  rcases List.mem_cons.mp hb with rfl | hb
  · exact lo a ha
  · exact Nat.lt_trans (lo a ha) (hi b hb)

/-- the table of a set of n elements, all of them added -/
structure Tb (led : Bool) (t : SetTable) (n : Nat) : Prop where
  sz : t.place.size = n
  fit : t.fits n = true
  nd : t.dummies = #[]
  inc : t.place.toList.Pairwise (· < ·)
  led : t.led = led

theorem Tb.fresh (led : Bool) : Tb led (.fresh 0 0 led) 0 := ⟨rfl, rfl, rfl, by simp [SetTable.fresh], rfl⟩
theorem Tb.unplain {led : Bool} {t : SetTable} {n : Nat} (h : Tb led t n) : Tb led { t with plain := false } n := ⟨h.sz, by have := h.fit; cases t; exact this, h.nd, h.inc, h.led⟩
theorem Tb.standIn {led : Bool} {t : SetTable} {n : Nat} (h : t.led = led) : Tb led (t.standIn n) n :=
  ⟨by simp [SetTable.standIn], SetTable.standIn_fits t n, rfl, by simpa [SetTable.standIn] using List.pairwise_lt_range, h⟩

theorem has_nil (j : Nat) : SetTable.has #[] j = false := by simp [SetTable.has]
theorem slot_live {led : Bool} {t : SetTable} {n : Nat} (h : Tb led t n) {j i : Nat} (e : t.slot j = .live i) : i < n ∧ t.place[i]? = some j := by
  unfold SetTable.slot at e
  dsimp only at e
  split at e
  · rename_i q
    cases e
    have q' : t.place[SetTable.below t.place j]? = some j := by simpa using q
    exact ⟨by rw [← h.sz]; exact (Array.getElem?_eq_some_iff.mp q').1, q'⟩
  · split at e <;> cases e
theorem slot_dummy {led : Bool} {t : SetTable} {n : Nat} (h : Tb led t n) {j : Nat} (e : t.slot j = .dummy) : False := by
  unfold SetTable.slot at e
  dsimp only at e
  split at e
  · cases e
  · rw [h.nd, has_nil] at e; simp at e
theorem slot_empty {led : Bool} {t : SetTable} {n : Nat} (h : Tb led t n) {j : Nat} (e : t.slot j = .empty) : j ∉ t.place.toList := by
  intro hj
  unfold SetTable.slot at e
  dsimp only at e
  rw [below_mem h.inc hj] at e
  simp at e
theorem slot_free {led : Bool} {t : SetTable} {n : Nat} (h : Tb led t n) {j : Nat} (hj : j ∉ t.place.toList) : t.slot j = .empty := by
  cases e : t.slot j with
  | empty => rfl
  | dummy => exact (slot_dummy h e).elim
  | live i =>
    have := (slot_live h e).2
    exact absurd (Array.mem_toList_iff.mpr (Array.mem_of_getElem? this)) hj

theorem probe_go_empty {led : Bool} {t : SetTable} {n : Nat} (h : Tb led t n) {ha : Nat → Int} {hh : Int} : ∀ (f : Nat) (p : SetTable.Probe) {j : Nat} {d : Option Nat}, p.dummy = none → SetTable.probe.go t ha hh f p = some (.empty j d) → d = none ∧ t.slot j = .empty
  | 0, p, j, d, _, e => by unfold SetTable.probe.go at e; cases e
  | f + 1, p, j, d, hp, e => by
    unfold SetTable.probe.go at e
    cases hs : t.slot p.j with
    | empty => rw [hs] at e; cases e; exact ⟨hp, hs⟩
    | dummy => exact (slot_dummy h hs).elim
    | live i =>
      rw [hs] at e
      dsimp only at e
      split at e
      · cases e
      · exact probe_go_empty h f (t.advance p) (by unfold SetTable.advance; split <;> exact hp) e

theorem put_tb {led : Bool} {t : SetTable} {n : Nat} (h : Tb led t n) {j : Nat} (hj : t.slot j = .empty) : ((t.put j).1.place.size = n + 1 ∧ (t.put j).1.dummies = #[] ∧ (t.put j).1.place.toList.Pairwise (· < ·) ∧ (t.put j).1.led = led) := by
  have hd : (t.put j).1.dummies = #[] := by
    show (if SetTable.has t.dummies j then _ else t.dummies) = #[]
    rw [h.nd, has_nil]; rfl
  refine ⟨?_, hd, put_inc h.inc (slot_empty h hj), h.led⟩
  show (SetTable.insertAt t.place (SetTable.below t.place j) j).size = n + 1
  rw [← Array.length_toList, (SetTable.insertAt_perm _ _ _).length_eq]
  simp [h.sz]

theorem layNew_tb {led : Bool} {t : SetTable} {es : Array (Int × Value)} (h : Tb led t es.size) (hh : Int) (x : Value) : Tb led (layNew t es hh x).2.1 (layNew t es hh x).1.size := by
  have hfit := layNew_fits t es hh x
  unfold layNew at hfit ⊢
  cases q : t.freeSlot hh with
  | none =>
    dsimp only
    rw [Array.size_push]
    exact Tb.standIn h.led
  | some r =>
    obtain ⟨slot, wd⟩ := r
    rw [q] at hfit
    dsimp only at hfit ⊢
    have hs : t.slot slot = .empty := by
      unfold SetTable.freeSlot at q
      split at q
      · rename_i j dummy e
        have := probe_go_empty h _ _ (show (t.probeStart hh).dummy = none from rfl) e
        obtain ⟨rfl, e2⟩ := this
        simp at q
        rw [← q.1]; exact e2
      · cases q
    obtain ⟨a1, a2, a3, a4⟩ := put_tb h hs
    have hsz : (SetTable.insertAt es (t.put slot).2 (hh, x)).size = es.size + 1 := by
      rw [← Array.length_toList, (SetTable.insertAt_perm _ _ _).length_eq]; simp
    rw [hsz] at hfit ⊢
    unfold SetTable.orStandIn at hfit ⊢
    split
    · rename_i hf; exact ⟨a1, hf, a2, a3, a4⟩
    · exact Tb.standIn a4

theorem live_inc (owner : Array (Option Nat)) (m : Nat) : (((List.range m).filterMap fun j => (owner.getD j none).map (j, ·)).map (·.1)).Pairwise (· < ·) := by
  rw [List.pairwise_map]
  refine List.Pairwise.filterMap _ (R := (· < ·)) ?_ List.pairwise_lt_range
  intro a a' haa b hb b' hb'
  simp only [Option.map_eq_some_iff] at hb hb'
  obtain ⟨_, _, rfl⟩ := hb
  obtain ⟨_, _, rfl⟩ := hb'
  exact haa
theorem relaid_tb {t t' : SetTable} {hs : Array Int} {wanted : Nat} {order : Array Nat} (e : t.relaid hs wanted = some (t', order)) : t'.place.toList.Pairwise (· < ·) ∧ t'.dummies = #[] ∧ t'.led = t.led ∧ t'.mask = SetTable.sizeAbove wanted - 1 ∧ t'.place.size = order.size := by
  unfold SetTable.relaid SetTable.laid at e
  cases q : SetTable.layClean (SetTable.sizeAbove wanted - 1) hs with
  | none => rw [q] at e; cases e
  | some owner =>
    rw [q] at e
    simp only [Option.pure_def, Option.bind_eq_bind, Option.bind_some, Option.some.injEq, Prod.mk.injEq] at e
    obtain ⟨rfl, rfl⟩ := e
    exact ⟨by simpa using live_inc owner _, rfl, rfl, rfl, by simp⟩
theorem relayAll_tb {led : Bool} {t : SetTable} {es : Array (Int × Value)} (h : t.led = led) (wanted : Nat) : Tb led (relayAll t es wanted).2.1 (relayAll t es wanted).1.size := by
  unfold relayAll
  cases q : t.relaid (es.map (·.1)) wanted with
  | none => exact Tb.standIn h
  | some r =>
    obtain ⟨t', order⟩ := r
    dsimp only
    obtain ⟨a1, a2, a3, a4, a5⟩ := relaid_tb q
    split
    · rename_i hc
      have hf : t'.fits (order.filterMap (es[·]?)).size = true := (Bool.and_eq_true_iff.mp hc).2
      refine ⟨?_, hf, a2, a1, a3.trans h⟩
      simp only [SetTable.fits, Bool.and_eq_true, beq_iff_eq] at hf
      exact hf.1
    · exact Tb.standIn h
noncomputable def adv (t : SetTable) : Nat → SetTable.Probe → SetTable.Probe
  | 0, p => p
  | k + 1, p => adv t k (t.advance p)
theorem adv_add (t : SetTable) : ∀ (a b : Nat) (p : SetTable.Probe), adv t (a + b) p = adv t b (adv t a p)
  | 0, b, p => by rw [Nat.zero_add]; rfl
  | a + 1, b, p => by rw [show a + 1 + b = (a + b) + 1 by lia]; exact adv_add t a b (t.advance p)
/-- k steps from p to an empty slot -/
noncomputable def Dist (t : SetTable) (p : SetTable.Probe) (k : Nat) : Prop := t.slot (adv t k p).j = .empty

theorem advance_dummy (t : SetTable) (p : SetTable.Probe) : (t.advance p).dummy = p.dummy := by unfold SetTable.advance; split <;> rfl

theorem go_dist {led : Bool} {t : SetTable} {n : Nat} (h : Tb led t n) {ha : Nat → Int} {hh : Int} : ∀ (f k : Nat) (p : SetTable.Probe), p.dummy = none → Dist t p k → k < f →
    ∃ met, SetTable.probe.go t ha hh f p = some met ∧ ((∃ j, met = .empty j none ∧ t.slot j = .empty) ∨ ∃ j i next k', met = .candidate j i next ∧ t.slot j = .live i ∧ next.dummy = none ∧ k' < k ∧ Dist t next k')
  | 0, k, p, _, _, hk => absurd hk (Nat.not_lt_zero _)
  | f + 1, k, p, hp, hd, hk => by
    unfold SetTable.probe.go
    cases hs : t.slot p.j with
    | empty => exact ⟨_, rfl, .inl ⟨p.j, by rw [hp], hs⟩⟩
    | dummy => exact (slot_dummy h hs).elim
    | live i =>
      dsimp only
      cases k with
      | zero => unfold Dist adv at hd; rw [hs] at hd; cases hd
      | succ k =>
        have hd' : Dist t (t.advance p) k := hd
        have hp' : (t.advance p).dummy = none := (advance_dummy t p).trans hp
        split
        · exact ⟨_, rfl, .inr ⟨p.j, i, t.advance p, k, rfl, hs, hp', by lia, hd'⟩⟩
        · obtain ⟨met, e, q⟩ := go_dist h f k (t.advance p) hp' hd' (by lia)
          refine ⟨met, e, q.imp id ?_⟩
          rintro ⟨j, i, next, k', a, b, c, d, e⟩
          exact ⟨j, i, next, k', a, b, c, by lia, e⟩

noncomputable def lpI (m i pt : Nat) : Nat := (i * 5 + 1 + pt / 32) % (m + 1)
/-- the place after n leaps -/
noncomputable def lps (m : Nat) : Nat → Nat → Nat → Nat
  | 0, i, _ => i
  | n + 1, i, pt => lps m n (lpI m i pt) (pt / 32)
theorem lps_add (m : Nat) : ∀ (a b i pt : Nat), lps m (a + b) i pt = lps m b (lps m a i pt) (pt / 32 ^ a)
  | 0, b, i, pt => by rw [Nat.zero_add]; simp [lps]
  | a + 1, b, i, pt => by
    rw [show a + 1 + b = (a + b) + 1 by lia]
    show lps m (a + b) (lpI m i pt) (pt / 32) = lps m b (lps m a (lpI m i pt) (pt / 32)) (pt / 32 ^ (a + 1))
    rw [lps_add m a b, Nat.div_div_eq_div_mul, Nat.pow_succ, Nat.mul_comm]
theorem lps_le (m : Nat) : ∀ (n i pt : Nat), i ≤ m → lps m n i pt ≤ m
  | 0, i, _, h => h
  | n + 1, i, pt, _ => lps_le m n _ _ (by unfold lpI; exact Nat.le_of_lt_succ (Nat.mod_lt _ (Nat.succ_pos m)))
noncomputable def orbs (m : Nat) : Bool := (List.range (m + 1)).all fun i => (List.range (m + 1)).all fun e => (List.range (m + 1)).any fun n => lps m n i 0 == e
theorem orb7 : orbs 7 = true := by decide +kernel
theorem orb31 : orbs 31 = true := by decide +kernel
theorem orb_hit {m : Nat} (h : orbs m = true) {i e : Nat} (hi : i ≤ m) (he : e ≤ m) : ∃ n, n ≤ m ∧ lps m n i 0 = e := by
  unfold orbs at h
  rw [List.all_eq_true] at h
  have h1 := h i (List.mem_range.mpr (by lia))
  rw [List.all_eq_true] at h1
  have h2 := h1 e (List.mem_range.mpr (by lia))
  rw [List.any_eq_true] at h2
  obtain ⟨n, hn, q⟩ := h2
  exact ⟨n, by have := List.mem_range.mp hn; lia, by simpa using q⟩
theorem lps_hit {m : Nat} (h : orbs m = true) {i pt e : Nat} (hi : i ≤ m) (hp : pt < 2 ^ 64) (he : e ≤ m) : ∃ n, n ≤ 13 + m ∧ lps m n i pt = e := by
  have z : pt / 32 ^ 13 = 0 := Nat.div_eq_of_lt (Nat.lt_of_lt_of_le hp (by decide))
  obtain ⟨n, hn, q⟩ := orb_hit h (lps_le m 13 i pt hi) he
  exact ⟨13 + n, by lia, by rw [lps_add, z]; exact q⟩

noncomputable def Fresh (t : SetTable) (p : SetTable.Probe) (i pt : Nat) : Prop := p = { j := i, more := SetTable.runEnd t.mask i - i, i, perturb := pt, dummy := none }
theorem runEnd_le (m i : Nat) : SetTable.runEnd m i - i ≤ 9 := by unfold SetTable.runEnd; split <;> lia
theorem adv_run (t : SetTable) : ∀ (r : Nat) (p : SetTable.Probe), p.more = r → p.dummy = none → Fresh t (adv t (r + 1) p) (lpI t.mask p.i p.perturb) (p.perturb / 32)
  | 0, p, h, hd => by
    show t.advance p = _
    unfold SetTable.advance
    rw [if_neg (by lia)]
    unfold SetTable.leap
    dsimp only
    rw [hd]; rfl
  | r + 1, p, h, hd => by
    have e : t.advance p = { p with j := p.j + 1, more := p.more - 1 } := by unfold SetTable.advance; rw [if_pos (by lia)]
    show Fresh t (adv t (r + 1) (t.advance p)) _ _
    rw [e]
    exact adv_run t r { p with j := p.j + 1, more := p.more - 1 } (by show p.more - 1 = r; lia) hd
theorem adv_leaps (t : SetTable) : ∀ (n i pt : Nat) (p : SetTable.Probe), Fresh t p i pt → ∃ k, k ≤ 10 * n ∧ Fresh t (adv t k p) (lps t.mask n i pt) (pt / 32 ^ n)
  | 0, i, pt, p, h => ⟨0, Nat.zero_le _, by simpa [adv, lps] using h⟩
  | n + 1, i, pt, p, h => by
    have h1 := adv_run t _ p rfl (by rw [h])
    have hm : p.more ≤ 9 := by rw [h]; exact runEnd_le _ _
    have e1 : p.i = i := by rw [h]
    have e2 : p.perturb = pt := by rw [h]
    rw [e1, e2] at h1
    obtain ⟨k, hk, h2⟩ := adv_leaps t n _ _ _ h1
    refine ⟨(p.more + 1) + k, by lia, ?_⟩
    rw [adv_add]
    rw [show pt / 32 ^ (n + 1) = pt / 32 / 32 ^ n by rw [Nat.div_div_eq_div_mul, Nat.pow_succ, Nat.mul_comm]]
    exact h2
theorem bits_lt (h : Int) : SetTable.bits h < 2 ^ 64 := by
  unfold SetTable.bits
  have h1 := Int.emod_nonneg h (show (2 ^ 64 : Int) ≠ 0 by decide)
  have h2 := Int.emod_lt_of_pos h (show (0 : Int) < 2 ^ 64 by decide)
  lia
theorem start_dist {led : Bool} {t : SetTable} {n : Nat} (h : Tb led t n) (ho : orbs t.mask = true) {e : Nat} (he : e ≤ t.mask) (hf : e ∉ t.place.toList) (hh : Int) :
    ∃ k, k < 10 * SetTable.turns t.mask ∧ Dist t (t.probeStart hh) k := by
  have hb : SetTable.bits hh % (t.mask + 1) ≤ t.mask := Nat.le_of_lt_succ (Nat.mod_lt _ (Nat.succ_pos _))
  obtain ⟨n, hn, q⟩ := lps_hit ho hb (bits_lt hh) he
  obtain ⟨k, hk, z⟩ := adv_leaps t n _ _ (t.probeStart hh) rfl
  refine ⟨k, by unfold SetTable.turns; lia, ?_⟩
  unfold Dist
  rw [z]
  dsimp only
  rw [q]
  exact slot_free h hf

theorem len_sub : ∀ (l r : List Nat), l.Nodup → (∀ x ∈ l, x ∈ r) → l.length ≤ r.length
  | [], r, _, _ => Nat.zero_le _
  | a :: l, r, hn, hs => by
    have ha := hs a (.head _)
    obtain ⟨hn1, hn2⟩ := List.nodup_cons.mp hn
    have := len_sub l (r.erase a) hn2 fun x hx => (List.mem_erase_of_ne (fun (e : x = a) => hn1 (e ▸ hx))).mpr (hs x (.tail _ hx))
    rw [List.length_erase_of_mem ha] at this
    have hpos : 0 < r.length := List.length_pos_of_mem ha
    simp only [List.length_cons]; lia
theorem hole {l : List Nat} {m : Nat} (h : l.length < m) : ∃ e, e < m ∧ e ∉ l := by
  refine Classical.byContradiction fun hc => ?_
  have : (List.range m).length ≤ l.length := len_sub _ _ List.nodup_range fun x hx => Classical.byContradiction fun hx' => hc ⟨x, List.mem_range.mp hx, hx'⟩
  rw [List.length_range] at this; lia
theorem tb_dist {led : Bool} {t : SetTable} {n : Nat} (h : Tb led t n) (ho : orbs t.mask = true) (hh : Int) : ∃ k, k < 10 * SetTable.turns t.mask ∧ Dist t (t.probeStart hh) k := by
  have hf := h.fit
  simp only [SetTable.fits, Bool.and_eq_true, beq_iff_eq, decide_eq_true_eq] at hf
  have h1 : t.place.size ≤ t.mask := by have := hf.2; unfold SetTable.fill at this; lia
  obtain ⟨e, he, hm⟩ := hole (l := t.place.toList) (m := t.mask + 1) (by simp; lia)
  exact start_dist h ho (by lia) hm hh

/-! ### laying anew -/
theorem free_some (owner : Array (Option Nat)) (m : Nat) : ∀ (n f i pt : Nat), n < f → (owner.getD (lps m n i pt) (some 0)).isNone = true → ∃ j, SetTable.layClean.free m owner f i pt = some j ∧ (owner.getD j (some 0)).isNone = true
  | n, 0, i, pt, h, _ => absurd h (Nat.not_lt_zero _)
  | n, f + 1, i, pt, h, hz => by
    unfold SetTable.layClean.free
    cases q : (List.range (SetTable.runEnd m i + 1 - i)).find? fun k => (owner.getD (i + k) (some 0)).isNone with
    | some k =>
      exact ⟨i + k, rfl, by simpa using List.find?_some q⟩
    | none =>
      cases n with
      | zero =>
        have := List.find?_eq_none.mp q 0 (List.mem_range.mpr (by unfold SetTable.runEnd; split <;> lia))
        exact absurd (by simpa [lps] using hz) this
      | succ n => exact free_some owner m n f _ _ (by lia) hz
theorem fm_set : ∀ (l : List (Option Nat)) (j k : Nat), l[j]? = some none → ((l.set j (some k)).filterMap id).Perm (k :: l.filterMap id)
  | [], j, k, h => by simp at h
  | a :: l, 0, k, h => by
    simp at h
    subst h
    simp
  | a :: l, j + 1, k, h => by
    simp only [List.getElem?_cons_succ] at h
    have ih := fm_set l j k h
    cases a with
    | none => simpa using ih
    | some b =>
      simp only [List.set_cons_succ, List.filterMap_cons, id]
      exact (ih.cons b).trans (List.Perm.swap _ _ _)
theorem fm_full : ∀ (l : List (Option Nat)), (∀ x ∈ l, x ≠ none) → (l.filterMap id).length = l.length
  | [], _ => rfl
  | a :: l, h => by
    cases a with
    | none => exact absurd rfl (h none (.head _))
    | some b => simp [fm_full l fun x hx => h x (.tail _ hx)]
structure Own (m : Nat) (owner : Array (Option Nat)) (k : Nat) : Prop where
  sz : owner.size = m + 1
  pm : (owner.toList.filterMap id).Perm (List.range k)
theorem own_hole {m : Nat} {owner : Array (Option Nat)} {k : Nat} (h : Own m owner k) (hk : k ≤ m) : ∃ e, e ≤ m ∧ (owner.getD e (some 0)).isNone = true := by
  refine Classical.byContradiction fun hc => ?_
  have : (owner.toList.filterMap id).length = owner.toList.length := fm_full _ fun x hx hn => by
    subst hn
    obtain ⟨i, hi, e⟩ := List.getElem_of_mem hx
    have hi' : i < owner.size := by simpa using hi
    refine hc ⟨i, by rw [h.sz] at hi'; lia, ?_⟩
    have e' : owner[i] = none := by simpa using e
    simp [Array.getD, hi', e']
  rw [h.pm.length_eq] at this
  simp [h.sz] at this
  lia
theorem own_next {m : Nat} (ho : orbs m = true) {owner : Array (Option Nat)} {k : Nat} (h : Own m owner k) (hk : k ≤ m) (hh : Int) :
    ∃ j, SetTable.layClean.free m owner (SetTable.turns m) (SetTable.bits hh % (m + 1)) (SetTable.bits hh) = some j ∧ Own m (owner.setIfInBounds j (some k)) (k + 1) := by
  obtain ⟨e, he, hz⟩ := own_hole h hk
  obtain ⟨n, hn, q⟩ := lps_hit ho (Nat.le_of_lt_succ (Nat.mod_lt (SetTable.bits hh) (Nat.succ_pos m))) (bits_lt hh) he
  obtain ⟨j, e1, e2⟩ := free_some owner m n (SetTable.turns m) _ _ (by unfold SetTable.turns; lia) (q.symm ▸ hz)
  refine ⟨j, e1, by simp [h.sz], ?_⟩
  have hj : owner.toList[j]? = some none := by
    by_cases hs : j < owner.size
    · have e3 : owner[j] = none := by simpa [Array.getD, hs] using e2
      rw [Array.getElem?_toList, Array.getElem?_eq_getElem hs, e3]
    · simp [Array.getD, hs] at e2
  rw [Array.toList_setIfInBounds]
  refine (fm_set _ _ _ hj).trans ?_
  rw [List.range_succ]
  exact ((h.pm).cons k).trans (List.perm_append_singleton _ _).symm
theorem lay_some {m : Nat} (ho : orbs m = true) (hashes : Array Int) (hz : hashes.size ≤ m) : ∃ owner, SetTable.layClean m hashes = some owner ∧ Own m owner hashes.size := by
  have go : ∀ (l : List Int) (owner : Array (Option Nat)) (k : Nat), Own m owner k → k + l.length ≤ m → ∃ owner', l.foldl (init := some (owner, k)) (fun acc h => do
      let (owner, k) ← acc
      let j ← SetTable.layClean.free m owner (SetTable.turns m) (SetTable.bits h % (m + 1)) (SetTable.bits h)
      pure (owner.setIfInBounds j (some k), k + 1)) = some (owner', k + l.length) ∧ Own m owner' (k + l.length) := by
    intro l
    induction l with
    | nil => intro owner k h _; exact ⟨owner, rfl, h⟩
    | cons x l ih =>
      intro owner k h hk
      simp only [List.length_cons] at hk
      obtain ⟨j, e, h'⟩ := own_next ho h (by lia) x
      obtain ⟨o', e', h''⟩ := ih _ _ h' (by lia)
      refine ⟨o', ?_, by simpa [Nat.add_assoc, Nat.add_comm 1] using h''⟩
      rw [List.foldl_cons]
      simp only [Option.bind_eq_bind, Option.bind_some, e, Option.pure_def]
      simp only [Option.bind_eq_bind, Option.pure_def] at e'
      rw [e']
      simp [Nat.add_assoc, Nat.add_comm 1]
  obtain ⟨o', e, h⟩ := go hashes.toList (Array.replicate (m + 1) none) 0 ⟨by simp, by
    have : ∀ n, (List.replicate n (none : Option Nat)).filterMap id = [] := fun n => by induction n with
      | zero => rfl
      | succ n ih => rw [List.replicate_succ, List.filterMap_cons]; exact ih
    simp [this]⟩ (by simpa using hz)
  refine ⟨o', ?_, by simpa using h⟩
  unfold SetTable.layClean
  rw [← Array.foldl_toList]
  rw [e]; rfl
theorem range_fm (owner : Array (Option Nat)) {m : Nat} (h : owner.size = m + 1) : ((List.range (m + 1)).filterMap fun j => (owner.getD j none).map (j, ·)).map (·.2) = owner.toList.filterMap id := by
  rw [List.map_filterMap]
  have e : (fun j => ((owner.getD j none).map (j, ·)).map (·.2)) = fun j => owner.getD j none := by funext j; cases owner.getD j none <;> rfl
  rw [e]
  have e2 : (List.range (m + 1)).map (fun j => owner.getD j none) = owner.toList := by
    refine List.ext_getElem (by simp [h]) fun i h1 h2 => ?_
    have : i < owner.size := by simpa using h2
    simp [Array.getD, this]
  rw [← e2, List.filterMap_map]; rfl
theorem relaid_some {t : SetTable} {es : Array (Int × Value)} {wanted : Nat} (ho : orbs (SetTable.sizeAbove wanted - 1) = true) (hz : es.size ≤ SetTable.sizeAbove wanted - 1) :
    ∃ t' order, t.relaid (es.map (·.1)) wanted = some (t', order) ∧ (order.filterMap (es[·]?)).toList.Perm es.toList ∧ Tb t.led t' es.size ∧ t'.mask = SetTable.sizeAbove wanted - 1 ∧ t'.plain = t.plain := by
  obtain ⟨owner, e, ow⟩ := lay_some ho (es.map (·.1)) (by simpa using hz)
  rw [Array.size_map] at ow
  have e2 : t.relaid (es.map (·.1)) wanted = some ({ mask := SetTable.sizeAbove wanted - 1, place := (((List.range (SetTable.sizeAbove wanted - 1 + 1)).filterMap fun j => (owner.getD j none).map (j, ·)).map (·.1)).toArray, dummies := #[], finger := t.finger, led := t.led, moves := t.movedTo (SetTable.sizeAbove wanted - 1), plain := t.plain }, (((List.range (SetTable.sizeAbove wanted - 1 + 1)).filterMap fun j => (owner.getD j none).map (j, ·)).map (·.2)).toArray) := by
    unfold SetTable.relaid SetTable.laid
    rw [e]; rfl
  refine ⟨_, _, e2, ?_, ?_, rfl, rfl⟩
  · rw [Array.toList_filterMap]
    have hp : List.Perm (((List.range (SetTable.sizeAbove wanted - 1 + 1)).filterMap fun j => (owner.getD j none).map (j, ·)).map (·.2)) (List.range es.size) := by
      rw [range_fm owner ow.sz]; exact ow.pm
    refine (hp.filterMap _).trans ?_
    have := filterMap_getElem?_range es
    rw [this]
  · obtain ⟨a1, a2, a3, a4, a5⟩ := relaid_tb e2
    have hs : (((List.range (SetTable.sizeAbove wanted - 1 + 1)).filterMap fun j => (owner.getD j none).map (j, ·)).map (·.2)).length = es.size := by
      rw [range_fm owner ow.sz, ow.pm.length_eq, List.length_range]
    have h5 := a5.trans ((List.size_toArray ..).trans hs)
    refine ⟨h5, ?_, a2, a1, a3⟩
    simp only [SetTable.fits, Bool.and_eq_true, beq_iff_eq, decide_eq_true_eq]
    refine ⟨h5, ?_⟩
    unfold SetTable.fill
    rw [h5]
    exact hz
theorem above20 : SetTable.sizeAbove 20 - 1 = 31 := by decide
end
section
open PySem PySem.W PyProof.Rows PySem.Calls
noncomputable abbrev hdRow : RowW := PySem.Challenge.rw_rg0122_01.row.toRowW
noncomputable def hdNth : List Stmt → Nat → Option Stmt
  | [], _ => none
  | s :: _, 0 => some s
  | _ :: r, n + 1 => hdNth r n
/-- the def at a place of the text, or at a place of the class there -/
noncomputable def hdDef (i j : Nat) : Option Stmt := match hdNth PySem.Challenge.pw_rg0122_01.main.body i with
  | some (.ClassDef _ _ _ b _ _ _ _ _ _ _) => hdNth b j
  | o => o
/-- a function object whose written parts are those of the def at a place -/
noncomputable def hdFn (i j : Nat) (f : FuncData) : FuncData := match hdDef i j with
  | some (.FunctionDef _ a b _ _ _ s _ _ _) => { f with params := a, body := .stmts b, scope := s }
  | _ => f
noncomputable def hdPs : Arguments := { posonlyargs := [], args := [], vararg := none, kwonlyargs := [], kw_defaults := [], kwarg := none, defaults := [] }
noncomputable def hdSc : Scope := { kind := .function, names := [], isGenerator := false, isCoroutine := false }
noncomputable abbrev hdMk (i j : Nat) {nm ps b x1 x2 x3 sc x4 x5 x6} (_ : hdDef i j = some (.FunctionDef nm ps b x1 x2 x3 sc x4 x5 x6)) (name qual : Str) (dV kV pm cdv ct : Value) : FuncData := fnOf name qual ps b sc dV kV .none pm none cdv ct
noncomputable def hd.view_39 : Program := { hdRow.prog with main := { hdRow.prog.main with body := [0, 2, 3, 5, 6, 8, 9, 10, 12, 14, 16, 17, 18, 19, 20, 21].filterMap fun i => hdNth hdRow.prog.main.body i } }
noncomputable def hd.heap_39 : Params → Frag := fun P =>
 (nat_lit 2, { cls := Value.none, data := Data.dict #[{ hash := PyData.keyHash P (Str.ofString "type.__subclasses__.Exception.0"), key := Value.str (Str.ofString "type.__subclasses__.Exception.0") 338, val := Value.int 132 0 }, { hash := PyData.keyHash P (Str.ofString "type.__subclasses__.Exception.n"), key := Value.str (Str.ofString "type.__subclasses__.Exception.n") 339, val := Value.int 1 0 }] 2 }) ::
 (nat_lit 3, { cls := Value.type "dict", data := Data.dict #[{ hash := PyData.keyHash P (Str.ofString "__name__"), key := Value.str (Str.ofString "__name__") 165, val := Value.str (Str.ofString "law_rg0122_01") 774 }, { hash := PyData.keyHash P (Str.ofString "__doc__"), key := Value.str (Str.ofString "__doc__") 166, val := Value.none }, { hash := PyData.keyHash P (Str.ofString "__package__"), key := Value.str (Str.ofString "__package__") 167, val := Value.none }, { hash := PyData.keyHash P (Str.ofString "__loader__"), key := Value.str (Str.ofString "__loader__") 168, val := Value.builtin "__main__.__loader__#opaque" }, { hash := PyData.keyHash P (Str.ofString "__spec__"), key := Value.str (Str.ofString "__spec__") 169, val := Value.none }, { hash := PyData.keyHash P (Str.ofString "__annotations__"), key := Value.str (Str.ofString "__annotations__") 170, val := Value.ref 6 }, { hash := PyData.keyHash P (Str.ofString "__builtins__"), key := Value.str (Str.ofString "__builtins__") 171, val := Value.ref 4 }, { hash := PyData.keyHash P (Str.ofString "__file__"), key := Value.str (Str.ofString "__file__") 173, val := Value.str (Str.ofString "/claim/cut.py") 172 }, { hash := PyData.keyHash P (Str.ofString "__cached__"), key := Value.str (Str.ofString "__cached__") 174, val := Value.none }, { hash := PyData.keyHash P (Str.ofString "_wall"), key := Value.str (Str.ofString "_wall") 193, val := Value.ref 21 }, { hash := PyData.keyHash P (Str.ofString "depth_over"), key := Value.str (Str.ofString "depth_over") 202, val := Value.ref 28 }, { hash := PyData.keyHash P (Str.ofString "Grammar"), key := Value.str (Str.ofString "Grammar") 301, val := Value.ref 102 }, { hash := PyData.keyHash P (Str.ofString "HeapError"), key := Value.str (Str.ofString "HeapError") 341, val := Value.ref 132 }, { hash := PyData.keyHash P (Str.ofString "TermFault"), key := Value.str (Str.ofString "TermFault") 357, val := Value.ref 145 }, { hash := PyData.keyHash P (Str.ofString "is_op"), key := Value.str (Str.ofString "is_op") 365, val := Value.ref 152 }, { hash := PyData.keyHash P (Str.ofString "parts"), key := Value.str (Str.ofString "parts") 371, val := Value.ref 157 }, { hash := PyData.keyHash P (Str.ofString "Bank"), key := Value.str (Str.ofString "Bank") 502, val := Value.ref 259 }, { hash := PyData.keyHash P (Str.ofString "Unions"), key := Value.str (Str.ofString "Unions") 606, val := Value.ref 341 }, { hash := PyData.keyHash P (Str.ofString "Heap"), key := Value.str (Str.ofString "Heap") 773, val := Value.ref 471 }, { hash := PyData.keyHash P (Str.ofString "_law_scan"), key := Value.str (Str.ofString "_law_scan") 784, val := Value.ref 482 }, { hash := PyData.keyHash P (Str.ofString "_law_added"), key := Value.str (Str.ofString "_law_added") 790, val := Value.ref 487 }, { hash := PyData.keyHash P (Str.ofString "_law_told"), key := Value.str (Str.ofString "_law_told") 799, val := Value.ref 494 }, { hash := PyData.keyHash P (Str.ofString "_law_layers"), key := Value.str (Str.ofString "_law_layers") 805, val := Value.ref 499 }, { hash := PyData.keyHash P (Str.ofString "_law_due"), key := Value.str (Str.ofString "_law_due") 811, val := Value.ref 504 }, { hash := PyData.keyHash P (Str.ofString "law"), key := Value.str (Str.ofString "law") 817, val := Value.ref 509 }] 25 }) ::
 (nat_lit 15, { cls := Value.type "tuple", data := Data.seq #[] }) ::
 (nat_lit 17, { cls := Value.type "tuple", data := Data.seq #[Value.str (Str.ofString "k") 190] }) ::
 (nat_lit 18, { cls := Value.type "tuple", data := Data.seq #[] }) ::
 (nat_lit 22, { cls := Value.type "tuple", data := Data.seq #[] }) ::
 (nat_lit 24, { cls := Value.type "tuple", data := Data.seq #[Value.str (Str.ofString "kids") 199] }) ::
 (nat_lit 25, { cls := Value.type "tuple", data := Data.seq #[] }) ::
 (nat_lit 27, { cls := Value.type "code", data := Data.fields #[Value.str (Str.ofString "depth_over") 196, Value.str (Str.ofString "depth_over") 197, Value.str (Str.ofString "/claim/cut.py") 198, Value.int 5 0, Value.int 1 0, Value.int 0 0, Value.int 0 0, Value.int 3 0, Value.ref 22, Value.bool true, Value.int 181 0, Value.ref 23, Value.none, Value.ref 24, Value.ref 25, Value.ref 26, Value.int 200 0, Value.int 5 0, Value.str (Str.ofString "/claim/cut.py") 201] }) ::
 (nat_lit 28, { cls := Value.type "function", data := Data.func ((hdMk 2 0 rfl (Str.ofString "depth_over") (Str.ofString "depth_over") Value.none Value.none (Value.str (Str.ofString "alikeheap.grammars") 194) (Value.ref 27) (Value.none))) }) ::
 (nat_lit 36, { cls := Value.type "tuple", data := Data.seq #[] }) ::
 (nat_lit 38, { cls := Value.type "tuple", data := Data.seq #[Value.str (Str.ofString "self") 218, Value.str (Str.ofString "heap") 219] }) ::
 (nat_lit 39, { cls := Value.type "tuple", data := Data.seq #[] }) ::
 (nat_lit 41, { cls := Value.type "code", data := Data.fields #[Value.str (Str.ofString "__init__") 215, Value.str (Str.ofString "Grammar.__init__") 216, Value.str (Str.ofString "/claim/cut.py") 217, Value.int 9 0, Value.int 2 0, Value.int 0 0, Value.int 0 0, Value.int 3 0, Value.ref 36, Value.bool true, Value.int 181 0, Value.ref 37, Value.none, Value.ref 38, Value.ref 39, Value.ref 40, Value.int 220 0, Value.int 9 0, Value.str (Str.ofString "/claim/cut.py") 221] }) ::
 (nat_lit 42, { cls := Value.type "function", data := Data.func ((hdMk 3 0 rfl (Str.ofString "__init__") (Str.ofString "Grammar.__init__") Value.none Value.none (Value.str (Str.ofString "alikeheap.grammars") 194) (Value.ref 41) (Value.none))) }) ::
 (nat_lit 43, { cls := Value.type "tuple", data := Data.seq #[] }) ::
 (nat_lit 45, { cls := Value.type "tuple", data := Data.seq #[Value.str (Str.ofString "self") 226, Value.str (Str.ofString "term") 227] }) ::
 (nat_lit 46, { cls := Value.type "tuple", data := Data.seq #[] }) ::
 (nat_lit 50, { cls := Value.type "tuple", data := Data.seq #[] }) ::
 (nat_lit 52, { cls := Value.type "tuple", data := Data.seq #[Value.str (Str.ofString "self") 234, Value.str (Str.ofString "c") 235, Value.str (Str.ofString "term") 236] }) ::
 (nat_lit 53, { cls := Value.type "tuple", data := Data.seq #[] }) ::
 (nat_lit 57, { cls := Value.type "tuple", data := Data.seq #[] }) ::
 (nat_lit 60, { cls := Value.type "code", data := Data.fields #[Value.str (Str.ofString "kids") 240, Value.str (Str.ofString "Grammar.kids") 241, Value.str (Str.ofString "/claim/cut.py") 242, Value.int 18 0, Value.int 2 0, Value.int 0 0, Value.int 0 0, Value.int 3 0, Value.ref 57, Value.bool true, Value.int 181 0, Value.ref 58, Value.none, Value.none, Value.none, Value.ref 59, Value.int 243 0, Value.int 18 0, Value.str (Str.ofString "/claim/cut.py") 244] }) ::
 (nat_lit 61, { cls := Value.type "function", data := Data.func ((hdMk 3 3 rfl (Str.ofString "kids") (Str.ofString "Grammar.kids") Value.none Value.none (Value.str (Str.ofString "alikeheap.grammars") 194) (Value.ref 60) (Value.none))) }) ::
 (nat_lit 62, { cls := Value.type "tuple", data := Data.seq #[] }) ::
 (nat_lit 64, { cls := Value.type "tuple", data := Data.seq #[Value.str (Str.ofString "self") 249, Value.str (Str.ofString "c") 250, Value.str (Str.ofString "seen") 251, Value.str (Str.ofString "waiting") 252, Value.str (Str.ofString "here") 253] }) ::
 (nat_lit 65, { cls := Value.type "tuple", data := Data.seq #[] }) ::
 (nat_lit 67, { cls := Value.type "code", data := Data.fields #[Value.str (Str.ofString "reached") 246, Value.str (Str.ofString "Grammar.reached") 247, Value.str (Str.ofString "/claim/cut.py") 248, Value.int 21 0, Value.int 2 0, Value.int 0 0, Value.int 0 0, Value.int 3 0, Value.ref 62, Value.bool true, Value.int 181 0, Value.ref 63, Value.none, Value.ref 64, Value.ref 65, Value.ref 66, Value.int 254 0, Value.int 21 0, Value.str (Str.ofString "/claim/cut.py") 255] }) ::
 (nat_lit 68, { cls := Value.type "function", data := Data.func ((hdMk 3 4 rfl (Str.ofString "reached") (Str.ofString "Grammar.reached") Value.none Value.none (Value.str (Str.ofString "alikeheap.grammars") 194) (Value.ref 67) (Value.none))) }) ::
 (nat_lit 69, { cls := Value.type "tuple", data := Data.seq #[] }) ::
 (nat_lit 72, { cls := Value.type "code", data := Data.fields #[Value.str (Str.ofString "greatest_depths") 257, Value.str (Str.ofString "Grammar.greatest_depths") 258, Value.str (Str.ofString "/claim/cut.py") 259, Value.int 30 0, Value.int 2 0, Value.int 0 0, Value.int 0 0, Value.int 3 0, Value.ref 69, Value.bool true, Value.int 181 0, Value.ref 70, Value.none, Value.none, Value.none, Value.ref 71, Value.int 260 0, Value.int 30 0, Value.str (Str.ofString "/claim/cut.py") 261] }) ::
 (nat_lit 73, { cls := Value.type "function", data := Data.func ((hdMk 3 5 rfl (Str.ofString "greatest_depths") (Str.ofString "Grammar.greatest_depths") Value.none Value.none (Value.str (Str.ofString "alikeheap.grammars") 194) (Value.ref 72) (Value.none))) }) ::
 (nat_lit 74, { cls := Value.type "tuple", data := Data.seq #[] }) ::
 (nat_lit 76, { cls := Value.type "tuple", data := Data.seq #[Value.str (Str.ofString "self") 266, Value.str (Str.ofString "c") 267] }) ::
 (nat_lit 77, { cls := Value.type "tuple", data := Data.seq #[] }) ::
 (nat_lit 79, { cls := Value.type "code", data := Data.fields #[Value.str (Str.ofString "is_endless") 263, Value.str (Str.ofString "Grammar.is_endless") 264, Value.str (Str.ofString "/claim/cut.py") 265, Value.int 39 0, Value.int 2 0, Value.int 0 0, Value.int 0 0, Value.int 3 0, Value.ref 74, Value.bool true, Value.int 181 0, Value.ref 75, Value.none, Value.ref 76, Value.ref 77, Value.ref 78, Value.int 268 0, Value.int 39 0, Value.str (Str.ofString "/claim/cut.py") 269] }) ::
 (nat_lit 80, { cls := Value.type "function", data := Data.func ((hdMk 3 6 rfl (Str.ofString "is_endless") (Str.ofString "Grammar.is_endless") Value.none Value.none (Value.str (Str.ofString "alikeheap.grammars") 194) (Value.ref 79) (Value.none))) }) ::
 (nat_lit 81, { cls := Value.type "tuple", data := Data.seq #[] }) ::
 (nat_lit 86, { cls := Value.type "tuple", data := Data.seq #[] }) ::
 (nat_lit 88, { cls := Value.type "tuple", data := Data.seq #[Value.str (Str.ofString "self") 280, Value.str (Str.ofString "c") 281] }) ::
 (nat_lit 89, { cls := Value.type "tuple", data := Data.seq #[] }) ::
 (nat_lit 93, { cls := Value.type "tuple", data := Data.seq #[] }) ::
 (nat_lit 95, { cls := Value.type "tuple", data := Data.seq #[Value.str (Str.ofString "self") 288, Value.str (Str.ofString "c") 289] }) ::
 (nat_lit 96, { cls := Value.type "tuple", data := Data.seq #[] }) ::
 (nat_lit 100, { cls := Value.type "tuple", data := Data.seq #[Value.str (Str.ofString "heap") 293] }) ::
 (nat_lit 101, { cls := Value.type "dict", data := Data.dict #[{ hash := PyData.keyHash P (Str.ofString "__module__"), key := Value.str (Str.ofString "__module__") 210, val := Value.str (Str.ofString "alikeheap.grammars") 194 }, { hash := PyData.keyHash P (Str.ofString "__firstlineno__"), key := Value.str (Str.ofString "__firstlineno__") 214, val := Value.int 7 213 }, { hash := PyData.keyHash P (Str.ofString "__init__"), key := Value.str (Str.ofString "__init__") 222, val := Value.ref 42 }, { hash := PyData.keyHash P (Str.ofString "class_of"), key := Value.str (Str.ofString "class_of") 230, val := Value.ref 49 }, { hash := PyData.keyHash P (Str.ofString "accepts"), key := Value.str (Str.ofString "accepts") 239, val := Value.ref 56 }, { hash := PyData.keyHash P (Str.ofString "kids"), key := Value.str (Str.ofString "kids") 245, val := Value.ref 61 }, { hash := PyData.keyHash P (Str.ofString "reached"), key := Value.str (Str.ofString "reached") 256, val := Value.ref 68 }, { hash := PyData.keyHash P (Str.ofString "greatest_depths"), key := Value.str (Str.ofString "greatest_depths") 262, val := Value.ref 73 }, { hash := PyData.keyHash P (Str.ofString "is_endless"), key := Value.str (Str.ofString "is_endless") 270, val := Value.ref 80 }, { hash := PyData.keyHash P (Str.ofString "least"), key := Value.str (Str.ofString "least") 276, val := Value.ref 85 }, { hash := PyData.keyHash P (Str.ofString "least_size"), key := Value.str (Str.ofString "least_size") 284, val := Value.ref 92 }, { hash := PyData.keyHash P (Str.ofString "heights"), key := Value.str (Str.ofString "heights") 292, val := Value.ref 99 }, { hash := PyData.keyHash P (Str.ofString "__static_attributes__"), key := Value.str (Str.ofString "__static_attributes__") 294, val := Value.ref 100 }, { hash := PyData.keyHash P (Str.ofString "__dict__"), key := Value.str (Str.ofString "__dict__") 296, val := Value.ref 103 }, { hash := PyData.keyHash P (Str.ofString "__weakref__"), key := Value.str (Str.ofString "__weakref__") 298, val := Value.ref 104 }, { hash := PyData.keyHash P (Str.ofString "__doc__"), key := Value.str (Str.ofString "__doc__") 299, val := Value.none }] 4 }) ::
 (nat_lit 102, { cls := Value.type "type", data := Data.cls { name := Str.ofString "Grammar", bases := [Value.type "object"], mro := [Value.ref 102, Value.type "object"], ns := 101, qualname := Str.ofString "Grammar" }, slots := #[none, none, some (Value.str (Str.ofString "Grammar") 203), some (Value.str (Str.ofString "Grammar") 211), some (Value.builtin "object.__new__"), some (Value.bool true)] }) ::
 (nat_lit 103, { cls := Value.type "getset_descriptor", data := Data.fields #[Value.str (Str.ofString "__dict__") 295, Value.ref 102, Value.builtin "function.__dict__", Value.builtin "function.__dict__#set"] }) ::
 (nat_lit 104, { cls := Value.type "getset_descriptor", data := Data.fields #[Value.str (Str.ofString "__weakref__") 297, Value.ref 102, Value.builtin "ExceptionGroup.__weakref__", Value.none] }) ::
 (nat_lit 107, { cls := Value.type "tuple", data := Data.seq #[Value.type "Exception"] }) ::
 (nat_lit 110, { cls := Value.type "cell", data := Data.cell (some (Value.ref 132)) }) ::
 (nat_lit 115, { cls := Value.type "tuple", data := Data.seq #[Value.ref 110] }) ::
 (nat_lit 116, { cls := Value.type "tuple", data := Data.seq #[Value.str (Str.ofString "__class__") 319] }) ::
 (nat_lit 118, { cls := Value.type "tuple", data := Data.seq #[Value.str (Str.ofString "self") 320, Value.str (Str.ofString "what") 321] }) ::
 (nat_lit 119, { cls := Value.type "tuple", data := Data.seq #[] }) ::
 (nat_lit 123, { cls := Value.type "tuple", data := Data.seq #[] }) ::
 (nat_lit 125, { cls := Value.type "tuple", data := Data.seq #[Value.str (Str.ofString "self") 328] }) ::
 (nat_lit 126, { cls := Value.type "tuple", data := Data.seq #[] }) ::
 (nat_lit 130, { cls := Value.type "tuple", data := Data.seq #[Value.str (Str.ofString "what") 332] }) ::
 (nat_lit 131, { cls := Value.type "dict", data := Data.dict #[{ hash := PyData.keyHash P (Str.ofString "__module__"), key := Value.str (Str.ofString "__module__") 311, val := Value.str (Str.ofString "alikeheap.errors") 302 }, { hash := PyData.keyHash P (Str.ofString "__firstlineno__"), key := Value.str (Str.ofString "__firstlineno__") 315, val := Value.int 60 314 }, { hash := PyData.keyHash P (Str.ofString "__init__"), key := Value.str (Str.ofString "__init__") 324, val := Value.ref 122 }, { hash := PyData.keyHash P (Str.ofString "told"), key := Value.str (Str.ofString "told") 331, val := Value.ref 129 }, { hash := PyData.keyHash P (Str.ofString "__static_attributes__"), key := Value.str (Str.ofString "__static_attributes__") 333, val := Value.ref 130 }, { hash := PyData.keyHash P (Str.ofString "__weakref__"), key := Value.str (Str.ofString "__weakref__") 336, val := Value.ref 133 }, { hash := PyData.keyHash P (Str.ofString "__doc__"), key := Value.str (Str.ofString "__doc__") 337, val := Value.none }] 4 }) ::
 (nat_lit 132, { cls := Value.type "type", data := Data.cls { name := Str.ofString "HeapError", bases := [Value.type "Exception"], mro := [Value.ref 132, Value.type "Exception", Value.type "BaseException", Value.type "object"], ns := 131, qualname := Str.ofString "HeapError", subclasses := [Value.ref 145] }, slots := #[some (Value.ref 107), none, some (Value.str (Str.ofString "HeapError") 304), some (Value.str (Str.ofString "HeapError") 312), some (Value.builtin "Exception.__new__"), some (Value.bool true)] }) ::
 (nat_lit 133, { cls := Value.type "getset_descriptor", data := Data.fields #[Value.str (Str.ofString "__weakref__") 335, Value.ref 132, Value.builtin "ExceptionGroup.__weakref__", Value.none] }) ::
 (nat_lit 136, { cls := Value.type "tuple", data := Data.seq #[Value.ref 132] }) ::
 (nat_lit 143, { cls := Value.type "tuple", data := Data.seq #[] }) ::
 (nat_lit 144, { cls := Value.type "dict", data := Data.dict #[{ hash := PyData.keyHash P (Str.ofString "__module__"), key := Value.str (Str.ofString "__module__") 349, val := Value.str (Str.ofString "alikeheap.errors") 302 }, { hash := PyData.keyHash P (Str.ofString "__firstlineno__"), key := Value.str (Str.ofString "__firstlineno__") 353, val := Value.int 68 352 }, { hash := PyData.keyHash P (Str.ofString "__static_attributes__"), key := Value.str (Str.ofString "__static_attributes__") 354, val := Value.ref 143 }, { hash := PyData.keyHash P (Str.ofString "__doc__"), key := Value.str (Str.ofString "__doc__") 355, val := Value.none }] 2 }) ::
 (nat_lit 145, { cls := Value.type "type", data := Data.cls { name := Str.ofString "TermFault", bases := [Value.ref 132], mro := [Value.ref 145, Value.ref 132, Value.type "Exception", Value.type "BaseException", Value.type "object"], ns := 144, qualname := Str.ofString "TermFault" }, slots := #[some (Value.ref 136), none, some (Value.str (Str.ofString "TermFault") 342), some (Value.str (Str.ofString "TermFault") 350), some (Value.builtin "Exception.__new__"), some (Value.bool true)] }) ::
 (nat_lit 148, { cls := Value.type "tuple", data := Data.seq #[] }) ::
 (nat_lit 151, { cls := Value.type "code", data := Data.fields #[Value.str (Str.ofString "is_op") 360, Value.str (Str.ofString "is_op") 361, Value.str (Str.ofString "/claim/cut.py") 362, Value.int 71 0, Value.int 1 0, Value.int 0 0, Value.int 0 0, Value.int 3 0, Value.ref 148, Value.bool true, Value.int 181 0, Value.ref 149, Value.none, Value.none, Value.none, Value.ref 150, Value.int 363 0, Value.int 71 0, Value.str (Str.ofString "/claim/cut.py") 364] }) ::
 (nat_lit 152, { cls := Value.type "function", data := Data.func ((hdMk 8 0 rfl (Str.ofString "is_op") (Str.ofString "is_op") Value.none Value.none (Value.str (Str.ofString "alikeheap.terms") 358) (Value.ref 151) (Value.none))) }) ::
 (nat_lit 153, { cls := Value.type "tuple", data := Data.seq #[] }) ::
 (nat_lit 165, { cls := Value.type "tuple", data := Data.seq #[] }) ::
 (nat_lit 167, { cls := Value.type "tuple", data := Data.seq #[Value.str (Str.ofString "self") 387] }) ::
 (nat_lit 168, { cls := Value.type "tuple", data := Data.seq #[] }) ::
 (nat_lit 170, { cls := Value.type "code", data := Data.fields #[Value.str (Str.ofString "__init__") 384, Value.str (Str.ofString "Bank.__init__") 385, Value.str (Str.ofString "/claim/cut.py") 386, Value.int 80 0, Value.int 1 0, Value.int 0 0, Value.int 0 0, Value.int 3 0, Value.ref 165, Value.bool true, Value.int 181 0, Value.ref 166, Value.none, Value.ref 167, Value.ref 168, Value.ref 169, Value.int 388 0, Value.int 80 0, Value.str (Str.ofString "/claim/cut.py") 389] }) ::
 (nat_lit 171, { cls := Value.type "function", data := Data.func ((hdMk 10 0 rfl (Str.ofString "__init__") (Str.ofString "Bank.__init__") Value.none Value.none (Value.str (Str.ofString "alikeheap.terms") 358) (Value.ref 170) (Value.none))) }) ::
 (nat_lit 172, { cls := Value.type "tuple", data := Data.seq #[] }) ::
 (nat_lit 174, { cls := Value.type "tuple", data := Data.seq #[Value.str (Str.ofString "self") 394] }) ::
 (nat_lit 175, { cls := Value.type "tuple", data := Data.seq #[] }) ::
 (nat_lit 177, { cls := Value.type "code", data := Data.fields #[Value.str (Str.ofString "size") 391, Value.str (Str.ofString "Bank.size") 392, Value.str (Str.ofString "/claim/cut.py") 393, Value.int 86 0, Value.int 1 0, Value.int 0 0, Value.int 0 0, Value.int 3 0, Value.ref 172, Value.bool true, Value.int 181 0, Value.ref 173, Value.none, Value.ref 174, Value.ref 175, Value.ref 176, Value.int 395 0, Value.int 86 0, Value.str (Str.ofString "/claim/cut.py") 396] }) ::
 (nat_lit 178, { cls := Value.type "function", data := Data.func ((hdMk 10 1 rfl (Str.ofString "size") (Str.ofString "Bank.size") Value.none Value.none (Value.str (Str.ofString "alikeheap.terms") 358) (Value.ref 177) (Value.none))) }) ::
 (nat_lit 179, { cls := Value.type "tuple", data := Data.seq #[] }) ::
 (nat_lit 182, { cls := Value.type "code", data := Data.fields #[Value.str (Str.ofString "take") 398, Value.str (Str.ofString "Bank.take") 399, Value.str (Str.ofString "/claim/cut.py") 400, Value.int 89 0, Value.int 3 0, Value.int 0 0, Value.int 0 0, Value.int 3 0, Value.ref 179, Value.bool true, Value.int 181 0, Value.ref 180, Value.none, Value.none, Value.none, Value.ref 181, Value.int 401 0, Value.int 89 0, Value.str (Str.ofString "/claim/cut.py") 402] }) ::
 (nat_lit 183, { cls := Value.type "function", data := Data.func ((hdMk 10 2 rfl (Str.ofString "take") (Str.ofString "Bank.take") Value.none Value.none (Value.str (Str.ofString "alikeheap.terms") 358) (Value.ref 182) (Value.none))) }) ::
 (nat_lit 184, { cls := Value.type "tuple", data := Data.seq #[] }) ::
 (nat_lit 186, { cls := Value.type "tuple", data := Data.seq #[Value.str (Str.ofString "self") 407, Value.str (Str.ofString "op") 408] }) ::
 (nat_lit 187, { cls := Value.type "tuple", data := Data.seq #[] }) ::
 (nat_lit 189, { cls := Value.type "code", data := Data.fields #[Value.str (Str.ofString "require") 404, Value.str (Str.ofString "Bank.require") 405, Value.str (Str.ofString "/claim/cut.py") 406, Value.int 103 0, Value.int 2 0, Value.int 0 0, Value.int 0 0, Value.int 3 0, Value.ref 184, Value.bool true, Value.int 181 0, Value.ref 185, Value.none, Value.ref 186, Value.ref 187, Value.ref 188, Value.int 409 0, Value.int 103 0, Value.str (Str.ofString "/claim/cut.py") 410] }) ::
 (nat_lit 190, { cls := Value.type "function", data := Data.func ((hdMk 10 3 rfl (Str.ofString "require") (Str.ofString "Bank.require") Value.none Value.none (Value.str (Str.ofString "alikeheap.terms") 358) (Value.ref 189) (Value.none))) }) ::
 (nat_lit 191, { cls := Value.type "tuple", data := Data.seq #[] }) ::
 (nat_lit 193, { cls := Value.type "tuple", data := Data.seq #[Value.str (Str.ofString "self") 415, Value.str (Str.ofString "t") 416, Value.str (Str.ofString "path") 417, Value.str (Str.ofString "part") 418] }) ::
 (nat_lit 194, { cls := Value.type "tuple", data := Data.seq #[] }) ::
 (nat_lit 198, { cls := Value.type "tuple", data := Data.seq #[] }) ::
 (nat_lit 203, { cls := Value.type "tuple", data := Data.seq #[] }) ::
 (nat_lit 205, { cls := Value.type "tuple", data := Data.seq #[Value.str (Str.ofString "self") 431, Value.str (Str.ofString "many") 432] }) ::
 (nat_lit 206, { cls := Value.type "tuple", data := Data.seq #[] }) ::
 (nat_lit 210, { cls := Value.type "tuple", data := Data.seq #[] }) ::
 (nat_lit 212, { cls := Value.type "tuple", data := Data.seq #[Value.str (Str.ofString "self") 439, Value.str (Str.ofString "n") 440] }) ::
 (nat_lit 213, { cls := Value.type "tuple", data := Data.seq #[] }) ::
 (nat_lit 215, { cls := Value.type "code", data := Data.fields #[Value.str (Str.ofString "op") 436, Value.str (Str.ofString "Bank.op") 437, Value.str (Str.ofString "/claim/cut.py") 438, Value.int 118 0, Value.int 2 0, Value.int 0 0, Value.int 0 0, Value.int 3 0, Value.ref 210, Value.bool true, Value.int 181 0, Value.ref 211, Value.none, Value.ref 212, Value.ref 213, Value.ref 214, Value.int 441 0, Value.int 118 0, Value.str (Str.ofString "/claim/cut.py") 442] }) ::
 (nat_lit 216, { cls := Value.type "function", data := Data.func ((hdMk 10 7 rfl (Str.ofString "op") (Str.ofString "Bank.op") Value.none Value.none (Value.str (Str.ofString "alikeheap.terms") 358) (Value.ref 215) (Value.none))) }) ::
 (nat_lit 217, { cls := Value.type "tuple", data := Data.seq #[] }) ::
 (nat_lit 219, { cls := Value.type "tuple", data := Data.seq #[Value.str (Str.ofString "self") 447, Value.str (Str.ofString "n") 448] }) ::
 (nat_lit 220, { cls := Value.type "tuple", data := Data.seq #[] }) ::
 (nat_lit 222, { cls := Value.type "code", data := Data.fields #[Value.str (Str.ofString "kids") 444, Value.str (Str.ofString "Bank.kids") 445, Value.str (Str.ofString "/claim/cut.py") 446, Value.int 121 0, Value.int 2 0, Value.int 0 0, Value.int 0 0, Value.int 3 0, Value.ref 217, Value.bool true, Value.int 181 0, Value.ref 218, Value.none, Value.ref 219, Value.ref 220, Value.ref 221, Value.int 449 0, Value.int 121 0, Value.str (Str.ofString "/claim/cut.py") 450] }) ::
 (nat_lit 223, { cls := Value.type "function", data := Data.func ((hdMk 10 8 rfl (Str.ofString "kids") (Str.ofString "Bank.kids") Value.none Value.none (Value.str (Str.ofString "alikeheap.terms") 358) (Value.ref 222) (Value.none))) }) ::
 (nat_lit 224, { cls := Value.type "tuple", data := Data.seq #[] }) ::
 (nat_lit 226, { cls := Value.type "tuple", data := Data.seq #[Value.str (Str.ofString "self") 455, Value.str (Str.ofString "n") 456] }) ::
 (nat_lit 227, { cls := Value.type "tuple", data := Data.seq #[] }) ::
 (nat_lit 229, { cls := Value.type "code", data := Data.fields #[Value.str (Str.ofString "node") 452, Value.str (Str.ofString "Bank.node") 453, Value.str (Str.ofString "/claim/cut.py") 454, Value.int 124 0, Value.int 2 0, Value.int 0 0, Value.int 0 0, Value.int 3 0, Value.ref 224, Value.bool true, Value.int 181 0, Value.ref 225, Value.none, Value.ref 226, Value.ref 227, Value.ref 228, Value.int 457 0, Value.int 124 0, Value.str (Str.ofString "/claim/cut.py") 458] }) ::
 (nat_lit 230, { cls := Value.type "function", data := Data.func ((hdMk 10 9 rfl (Str.ofString "node") (Str.ofString "Bank.node") Value.none Value.none (Value.str (Str.ofString "alikeheap.terms") 358) (Value.ref 229) (Value.none))) }) ::
 (nat_lit 231, { cls := Value.type "tuple", data := Data.seq #[] }) ::
 (nat_lit 236, { cls := Value.type "tuple", data := Data.seq #[] }) ::
 (nat_lit 238, { cls := Value.type "tuple", data := Data.seq #[Value.str (Str.ofString "self") 469, Value.str (Str.ofString "n") 470] }) ::
 (nat_lit 239, { cls := Value.type "tuple", data := Data.seq #[] }) ::
 (nat_lit 243, { cls := Value.type "tuple", data := Data.seq #[] }) ::
 (nat_lit 245, { cls := Value.type "tuple", data := Data.seq #[Value.str (Str.ofString "self") 477, Value.str (Str.ofString "n") 478] }) ::
 (nat_lit 246, { cls := Value.type "tuple", data := Data.seq #[] }) ::
 (nat_lit 250, { cls := Value.type "tuple", data := Data.seq #[] }) ::
 (nat_lit 252, { cls := Value.type "tuple", data := Data.seq #[Value.str (Str.ofString "self") 485, Value.str (Str.ofString "op") 486, Value.str (Str.ofString "kids") 487] }) ::
 (nat_lit 253, { cls := Value.type "tuple", data := Data.seq #[] }) ::
 (nat_lit 257, { cls := Value.type "tuple", data := Data.seq #[Value.str (Str.ofString "depths") 491, Value.str (Str.ofString "nodes") 492, Value.str (Str.ofString "numbers") 493, Value.str (Str.ofString "weights") 494] }) ::
 (nat_lit 258, { cls := Value.type "dict", data := Data.dict #[{ hash := PyData.keyHash P (Str.ofString "__module__"), key := Value.str (Str.ofString "__module__") 379, val := Value.str (Str.ofString "alikeheap.terms") 358 }, { hash := PyData.keyHash P (Str.ofString "__firstlineno__"), key := Value.str (Str.ofString "__firstlineno__") 383, val := Value.int 78 382 }, { hash := PyData.keyHash P (Str.ofString "__init__"), key := Value.str (Str.ofString "__init__") 390, val := Value.ref 171 }, { hash := PyData.keyHash P (Str.ofString "size"), key := Value.str (Str.ofString "size") 397, val := Value.ref 178 }, { hash := PyData.keyHash P (Str.ofString "take"), key := Value.str (Str.ofString "take") 403, val := Value.ref 183 }, { hash := PyData.keyHash P (Str.ofString "require"), key := Value.str (Str.ofString "require") 411, val := Value.ref 190 }, { hash := PyData.keyHash P (Str.ofString "put"), key := Value.str (Str.ofString "put") 421, val := Value.ref 197 }, { hash := PyData.keyHash P (Str.ofString "put_all"), key := Value.str (Str.ofString "put_all") 427, val := Value.ref 202 }, { hash := PyData.keyHash P (Str.ofString "cut"), key := Value.str (Str.ofString "cut") 435, val := Value.ref 209 }, { hash := PyData.keyHash P (Str.ofString "op"), key := Value.str (Str.ofString "op") 443, val := Value.ref 216 }, { hash := PyData.keyHash P (Str.ofString "kids"), key := Value.str (Str.ofString "kids") 451, val := Value.ref 223 }, { hash := PyData.keyHash P (Str.ofString "node"), key := Value.str (Str.ofString "node") 459, val := Value.ref 230 }, { hash := PyData.keyHash P (Str.ofString "term"), key := Value.str (Str.ofString "term") 465, val := Value.ref 235 }, { hash := PyData.keyHash P (Str.ofString "weight"), key := Value.str (Str.ofString "weight") 473, val := Value.ref 242 }, { hash := PyData.keyHash P (Str.ofString "depth"), key := Value.str (Str.ofString "depth") 481, val := Value.ref 249 }, { hash := PyData.keyHash P (Str.ofString "seek"), key := Value.str (Str.ofString "seek") 490, val := Value.ref 256 }, { hash := PyData.keyHash P (Str.ofString "__static_attributes__"), key := Value.str (Str.ofString "__static_attributes__") 495, val := Value.ref 257 }, { hash := PyData.keyHash P (Str.ofString "__dict__"), key := Value.str (Str.ofString "__dict__") 497, val := Value.ref 260 }, { hash := PyData.keyHash P (Str.ofString "__weakref__"), key := Value.str (Str.ofString "__weakref__") 499, val := Value.ref 261 }, { hash := PyData.keyHash P (Str.ofString "__doc__"), key := Value.str (Str.ofString "__doc__") 500, val := Value.none }] 4 }) ::
 (nat_lit 259, { cls := Value.type "type", data := Data.cls { name := Str.ofString "Bank", bases := [Value.type "object"], mro := [Value.ref 259, Value.type "object"], ns := 258, qualname := Str.ofString "Bank" }, slots := #[none, none, some (Value.str (Str.ofString "Bank") 372), some (Value.str (Str.ofString "Bank") 380), some (Value.builtin "object.__new__"), some (Value.bool true)] }) ::
 (nat_lit 260, { cls := Value.type "getset_descriptor", data := Data.fields #[Value.str (Str.ofString "__dict__") 496, Value.ref 259, Value.builtin "function.__dict__", Value.builtin "function.__dict__#set"] }) ::
 (nat_lit 261, { cls := Value.type "getset_descriptor", data := Data.fields #[Value.str (Str.ofString "__weakref__") 498, Value.ref 259, Value.builtin "ExceptionGroup.__weakref__", Value.none] }) ::
 (nat_lit 271, { cls := Value.type "tuple", data := Data.seq #[] }) ::
 (nat_lit 273, { cls := Value.type "tuple", data := Data.seq #[Value.str (Str.ofString "self") 520] }) ::
 (nat_lit 274, { cls := Value.type "tuple", data := Data.seq #[] }) ::
 (nat_lit 276, { cls := Value.type "code", data := Data.fields #[Value.str (Str.ofString "__init__") 517, Value.str (Str.ofString "Unions.__init__") 518, Value.str (Str.ofString "/claim/cut.py") 519, Value.int 150 0, Value.int 1 0, Value.int 0 0, Value.int 0 0, Value.int 3 0, Value.ref 271, Value.bool true, Value.int 181 0, Value.ref 272, Value.none, Value.ref 273, Value.ref 274, Value.ref 275, Value.int 521 0, Value.int 150 0, Value.str (Str.ofString "/claim/cut.py") 522] }) ::
 (nat_lit 277, { cls := Value.type "function", data := Data.func ((hdMk 12 0 rfl (Str.ofString "__init__") (Str.ofString "Unions.__init__") Value.none Value.none (Value.str (Str.ofString "alikeheap.unions") 503) (Value.ref 276) (Value.none))) }) ::
 (nat_lit 278, { cls := Value.type "tuple", data := Data.seq #[] }) ::
 (nat_lit 280, { cls := Value.type "tuple", data := Data.seq #[Value.str (Str.ofString "self") 527] }) ::
 (nat_lit 281, { cls := Value.type "tuple", data := Data.seq #[] }) ::
 (nat_lit 283, { cls := Value.type "code", data := Data.fields #[Value.str (Str.ofString "make") 524, Value.str (Str.ofString "Unions.make") 525, Value.str (Str.ofString "/claim/cut.py") 526, Value.int 155 0, Value.int 1 0, Value.int 0 0, Value.int 0 0, Value.int 3 0, Value.ref 278, Value.bool true, Value.int 181 0, Value.ref 279, Value.none, Value.ref 280, Value.ref 281, Value.ref 282, Value.int 528 0, Value.int 155 0, Value.str (Str.ofString "/claim/cut.py") 529] }) ::
 (nat_lit 284, { cls := Value.type "function", data := Data.func ((hdMk 12 1 rfl (Str.ofString "make") (Str.ofString "Unions.make") Value.none Value.none (Value.str (Str.ofString "alikeheap.unions") 503) (Value.ref 283) (Value.none))) }) ::
 (nat_lit 285, { cls := Value.type "tuple", data := Data.seq #[] }) ::
 (nat_lit 287, { cls := Value.type "tuple", data := Data.seq #[Value.str (Str.ofString "self") 534] }) ::
 (nat_lit 288, { cls := Value.type "tuple", data := Data.seq #[] }) ::
 (nat_lit 290, { cls := Value.type "code", data := Data.fields #[Value.str (Str.ofString "size") 531, Value.str (Str.ofString "Unions.size") 532, Value.str (Str.ofString "/claim/cut.py") 533, Value.int 160 0, Value.int 1 0, Value.int 0 0, Value.int 0 0, Value.int 3 0, Value.ref 285, Value.bool true, Value.int 181 0, Value.ref 286, Value.none, Value.ref 287, Value.ref 288, Value.ref 289, Value.int 535 0, Value.int 160 0, Value.str (Str.ofString "/claim/cut.py") 536] }) ::
 (nat_lit 291, { cls := Value.type "function", data := Data.func ((hdMk 12 2 rfl (Str.ofString "size") (Str.ofString "Unions.size") Value.none Value.none (Value.str (Str.ofString "alikeheap.unions") 503) (Value.ref 290) (Value.none))) }) ::
 (nat_lit 292, { cls := Value.type "tuple", data := Data.seq #[] }) ::
 (nat_lit 294, { cls := Value.type "tuple", data := Data.seq #[Value.str (Str.ofString "self") 541, Value.str (Str.ofString "a") 542] }) ::
 (nat_lit 295, { cls := Value.type "tuple", data := Data.seq #[] }) ::
 (nat_lit 297, { cls := Value.type "code", data := Data.fields #[Value.str (Str.ofString "find") 538, Value.str (Str.ofString "Unions.find") 539, Value.str (Str.ofString "/claim/cut.py") 540, Value.int 163 0, Value.int 2 0, Value.int 0 0, Value.int 0 0, Value.int 3 0, Value.ref 292, Value.bool true, Value.int 181 0, Value.ref 293, Value.none, Value.ref 294, Value.ref 295, Value.ref 296, Value.int 543 0, Value.int 163 0, Value.str (Str.ofString "/claim/cut.py") 544] }) ::
 (nat_lit 298, { cls := Value.type "function", data := Data.func ((hdMk 12 3 rfl (Str.ofString "find") (Str.ofString "Unions.find") Value.none Value.none (Value.str (Str.ofString "alikeheap.unions") 503) (Value.ref 297) (Value.none))) }) ::
 (nat_lit 299, { cls := Value.type "tuple", data := Data.seq #[] }) ::
 (nat_lit 301, { cls := Value.type "tuple", data := Data.seq #[Value.str (Str.ofString "self") 549, Value.str (Str.ofString "a") 550, Value.str (Str.ofString "b") 551, Value.str (Str.ofString "kept") 552, Value.str (Str.ofString "gone") 553] }) ::
 (nat_lit 302, { cls := Value.type "tuple", data := Data.seq #[] }) ::
 (nat_lit 304, { cls := Value.type "code", data := Data.fields #[Value.str (Str.ofString "merge") 546, Value.str (Str.ofString "Unions.merge") 547, Value.str (Str.ofString "/claim/cut.py") 548, Value.int 168 0, Value.int 3 0, Value.int 0 0, Value.int 0 0, Value.int 3 0, Value.ref 299, Value.bool true, Value.int 181 0, Value.ref 300, Value.none, Value.ref 301, Value.ref 302, Value.ref 303, Value.int 554 0, Value.int 168 0, Value.str (Str.ofString "/claim/cut.py") 555] }) ::
 (nat_lit 305, { cls := Value.type "function", data := Data.func ((hdMk 12 4 rfl (Str.ofString "merge") (Str.ofString "Unions.merge") Value.none Value.none (Value.str (Str.ofString "alikeheap.unions") 503) (Value.ref 304) (Value.none))) }) ::
 (nat_lit 306, { cls := Value.type "tuple", data := Data.seq #[] }) ::
 (nat_lit 308, { cls := Value.type "tuple", data := Data.seq #[Value.str (Str.ofString "self") 560, Value.str (Str.ofString "a") 561] }) ::
 (nat_lit 309, { cls := Value.type "tuple", data := Data.seq #[] }) ::
 (nat_lit 311, { cls := Value.type "code", data := Data.fields #[Value.str (Str.ofString "members") 557, Value.str (Str.ofString "Unions.members") 558, Value.str (Str.ofString "/claim/cut.py") 559, Value.int 177 0, Value.int 2 0, Value.int 0 0, Value.int 0 0, Value.int 3 0, Value.ref 306, Value.bool true, Value.int 181 0, Value.ref 307, Value.none, Value.ref 308, Value.ref 309, Value.ref 310, Value.int 562 0, Value.int 177 0, Value.str (Str.ofString "/claim/cut.py") 563] }) ::
 (nat_lit 312, { cls := Value.type "function", data := Data.func ((hdMk 12 5 rfl (Str.ofString "members") (Str.ofString "Unions.members") Value.none Value.none (Value.str (Str.ofString "alikeheap.unions") 503) (Value.ref 311) (Value.none))) }) ::
 (nat_lit 313, { cls := Value.type "tuple", data := Data.seq #[] }) ::
 (nat_lit 318, { cls := Value.type "tuple", data := Data.seq #[] }) ::
 (nat_lit 320, { cls := Value.type "tuple", data := Data.seq #[Value.str (Str.ofString "self") 574] }) ::
 (nat_lit 321, { cls := Value.type "tuple", data := Data.seq #[] }) ::
 (nat_lit 325, { cls := Value.type "tuple", data := Data.seq #[] }) ::
 (nat_lit 327, { cls := Value.type "tuple", data := Data.seq #[Value.str (Str.ofString "self") 581, Value.str (Str.ofString "many") 582, Value.str (Str.ofString "kept") 583, Value.str (Str.ofString "gone") 584] }) ::
 (nat_lit 328, { cls := Value.type "tuple", data := Data.seq #[] }) ::
 (nat_lit 332, { cls := Value.type "tuple", data := Data.seq #[] }) ::
 (nat_lit 334, { cls := Value.type "tuple", data := Data.seq #[Value.str (Str.ofString "self") 591, Value.str (Str.ofString "many") 592] }) ::
 (nat_lit 335, { cls := Value.type "tuple", data := Data.seq #[] }) ::
 (nat_lit 339, { cls := Value.type "tuple", data := Data.seq #[Value.str (Str.ofString "above") 596, Value.str (Str.ofString "lots") 597, Value.str (Str.ofString "merged") 598] }) ::
 (nat_lit 340, { cls := Value.type "dict", data := Data.dict #[{ hash := PyData.keyHash P (Str.ofString "__module__"), key := Value.str (Str.ofString "__module__") 512, val := Value.str (Str.ofString "alikeheap.unions") 503 }, { hash := PyData.keyHash P (Str.ofString "__firstlineno__"), key := Value.str (Str.ofString "__firstlineno__") 516, val := Value.int 148 515 }, { hash := PyData.keyHash P (Str.ofString "__init__"), key := Value.str (Str.ofString "__init__") 523, val := Value.ref 277 }, { hash := PyData.keyHash P (Str.ofString "make"), key := Value.str (Str.ofString "make") 530, val := Value.ref 284 }, { hash := PyData.keyHash P (Str.ofString "size"), key := Value.str (Str.ofString "size") 537, val := Value.ref 291 }, { hash := PyData.keyHash P (Str.ofString "find"), key := Value.str (Str.ofString "find") 545, val := Value.ref 298 }, { hash := PyData.keyHash P (Str.ofString "merge"), key := Value.str (Str.ofString "merge") 556, val := Value.ref 305 }, { hash := PyData.keyHash P (Str.ofString "members"), key := Value.str (Str.ofString "members") 564, val := Value.ref 312 }, { hash := PyData.keyHash P (Str.ofString "classes"), key := Value.str (Str.ofString "classes") 570, val := Value.ref 317 }, { hash := PyData.keyHash P (Str.ofString "log"), key := Value.str (Str.ofString "log") 577, val := Value.ref 324 }, { hash := PyData.keyHash P (Str.ofString "back"), key := Value.str (Str.ofString "back") 587, val := Value.ref 331 }, { hash := PyData.keyHash P (Str.ofString "cut"), key := Value.str (Str.ofString "cut") 595, val := Value.ref 338 }, { hash := PyData.keyHash P (Str.ofString "__static_attributes__"), key := Value.str (Str.ofString "__static_attributes__") 599, val := Value.ref 339 }, { hash := PyData.keyHash P (Str.ofString "__dict__"), key := Value.str (Str.ofString "__dict__") 601, val := Value.ref 342 }, { hash := PyData.keyHash P (Str.ofString "__weakref__"), key := Value.str (Str.ofString "__weakref__") 603, val := Value.ref 343 }, { hash := PyData.keyHash P (Str.ofString "__doc__"), key := Value.str (Str.ofString "__doc__") 604, val := Value.none }] 4 }) ::
 (nat_lit 341, { cls := Value.type "type", data := Data.cls { name := Str.ofString "Unions", bases := [Value.type "object"], mro := [Value.ref 341, Value.type "object"], ns := 340, qualname := Str.ofString "Unions" }, slots := #[none, none, some (Value.str (Str.ofString "Unions") 505), some (Value.str (Str.ofString "Unions") 513), some (Value.builtin "object.__new__"), some (Value.bool true)] }) ::
 (nat_lit 342, { cls := Value.type "getset_descriptor", data := Data.fields #[Value.str (Str.ofString "__dict__") 600, Value.ref 341, Value.builtin "function.__dict__", Value.builtin "function.__dict__#set"] }) ::
 (nat_lit 343, { cls := Value.type "getset_descriptor", data := Data.fields #[Value.str (Str.ofString "__weakref__") 602, Value.ref 341, Value.builtin "ExceptionGroup.__weakref__", Value.none] }) ::
 (nat_lit 353, { cls := Value.type "tuple", data := Data.seq #[] }) ::
 (nat_lit 355, { cls := Value.type "tuple", data := Data.seq #[Value.str (Str.ofString "self") 624] }) ::
 (nat_lit 356, { cls := Value.type "tuple", data := Data.seq #[] }) ::
 (nat_lit 358, { cls := Value.type "code", data := Data.fields #[Value.str (Str.ofString "__init__") 621, Value.str (Str.ofString "Heap.__init__") 622, Value.str (Str.ofString "/claim/cut.py") 623, Value.int 197 0, Value.int 1 0, Value.int 0 0, Value.int 0 0, Value.int 3 0, Value.ref 353, Value.bool true, Value.int 181 0, Value.ref 354, Value.none, Value.ref 355, Value.ref 356, Value.ref 357, Value.int 625 0, Value.int 197 0, Value.str (Str.ofString "/claim/cut.py") 626] }) ::
 (nat_lit 359, { cls := Value.type "function", data := Data.func ((hdMk 14 0 rfl (Str.ofString "__init__") (Str.ofString "Heap.__init__") Value.none Value.none (Value.str (Str.ofString "alikeheap.heap") 607) (Value.ref 358) (Value.none))) }) ::
 (nat_lit 360, { cls := Value.type "tuple", data := Data.seq #[] }) ::
 (nat_lit 362, { cls := Value.type "tuple", data := Data.seq #[Value.str (Str.ofString "self") 631] }) ::
 (nat_lit 363, { cls := Value.type "tuple", data := Data.seq #[] }) ::
 (nat_lit 365, { cls := Value.type "code", data := Data.fields #[Value.str (Str.ofString "size") 628, Value.str (Str.ofString "Heap.size") 629, Value.str (Str.ofString "/claim/cut.py") 630, Value.int 207 0, Value.int 1 0, Value.int 0 0, Value.int 0 0, Value.int 3 0, Value.ref 360, Value.bool true, Value.int 181 0, Value.ref 361, Value.none, Value.ref 362, Value.ref 363, Value.ref 364, Value.int 632 0, Value.int 207 0, Value.str (Str.ofString "/claim/cut.py") 633] }) ::
 (nat_lit 366, { cls := Value.type "function", data := Data.func ((hdMk 14 1 rfl (Str.ofString "size") (Str.ofString "Heap.size") Value.none Value.none (Value.str (Str.ofString "alikeheap.heap") 607) (Value.ref 365) (Value.none))) }) ::
 (nat_lit 367, { cls := Value.type "tuple", data := Data.seq #[] }) ::
 (nat_lit 370, { cls := Value.type "code", data := Data.fields #[Value.str (Str.ofString "node") 635, Value.str (Str.ofString "Heap.node") 636, Value.str (Str.ofString "/claim/cut.py") 637, Value.int 210 0, Value.int 2 0, Value.int 0 0, Value.int 0 0, Value.int 3 0, Value.ref 367, Value.bool true, Value.int 181 0, Value.ref 368, Value.none, Value.none, Value.none, Value.ref 369, Value.int 638 0, Value.int 210 0, Value.str (Str.ofString "/claim/cut.py") 639] }) ::
 (nat_lit 371, { cls := Value.type "function", data := Data.func ((hdMk 14 2 rfl (Str.ofString "node") (Str.ofString "Heap.node") Value.none Value.none (Value.str (Str.ofString "alikeheap.heap") 607) (Value.ref 370) (Value.none))) }) ::
 (nat_lit 372, { cls := Value.type "tuple", data := Data.seq #[] }) ::
 (nat_lit 375, { cls := Value.type "code", data := Data.fields #[Value.str (Str.ofString "add") 641, Value.str (Str.ofString "Heap.add") 642, Value.str (Str.ofString "/claim/cut.py") 643, Value.int 213 0, Value.int 3 0, Value.int 0 0, Value.int 0 0, Value.int 3 0, Value.ref 372, Value.bool true, Value.int 181 0, Value.ref 373, Value.none, Value.none, Value.none, Value.ref 374, Value.int 644 0, Value.int 213 0, Value.str (Str.ofString "/claim/cut.py") 645] }) ::
 (nat_lit 376, { cls := Value.type "function", data := Data.func ((hdMk 14 3 rfl (Str.ofString "add") (Str.ofString "Heap.add") Value.none Value.none (Value.str (Str.ofString "alikeheap.heap") 607) (Value.ref 375) (Value.none))) }) ::
 (nat_lit 377, { cls := Value.type "tuple", data := Data.seq #[] }) ::
 (nat_lit 380, { cls := Value.type "code", data := Data.fields #[Value.str (Str.ofString "put") 647, Value.str (Str.ofString "Heap.put") 648, Value.str (Str.ofString "/claim/cut.py") 649, Value.int 224 0, Value.int 2 0, Value.int 0 0, Value.int 0 0, Value.int 3 0, Value.ref 377, Value.bool true, Value.int 181 0, Value.ref 378, Value.none, Value.none, Value.none, Value.ref 379, Value.int 650 0, Value.int 224 0, Value.str (Str.ofString "/claim/cut.py") 651] }) ::
 (nat_lit 381, { cls := Value.type "function", data := Data.func ((hdMk 14 4 rfl (Str.ofString "put") (Str.ofString "Heap.put") Value.none Value.none (Value.str (Str.ofString "alikeheap.heap") 607) (Value.ref 380) (Value.none))) }) ::
 (nat_lit 382, { cls := Value.type "tuple", data := Data.seq #[] }) ::
 (nat_lit 384, { cls := Value.type "tuple", data := Data.seq #[Value.str (Str.ofString "self") 656, Value.str (Str.ofString "n") 657, Value.str (Str.ofString "other") 658] }) ::
 (nat_lit 385, { cls := Value.type "tuple", data := Data.seq #[] }) ::
 (nat_lit 387, { cls := Value.type "code", data := Data.fields #[Value.str (Str.ofString "look_at") 653, Value.str (Str.ofString "Heap.look_at") 654, Value.str (Str.ofString "/claim/cut.py") 655, Value.int 227 0, Value.int 2 0, Value.int 0 0, Value.int 0 0, Value.int 3 0, Value.ref 382, Value.bool true, Value.int 181 0, Value.ref 383, Value.none, Value.ref 384, Value.ref 385, Value.ref 386, Value.int 659 0, Value.int 227 0, Value.str (Str.ofString "/claim/cut.py") 660] }) ::
 (nat_lit 388, { cls := Value.type "function", data := Data.func ((hdMk 14 5 rfl (Str.ofString "look_at") (Str.ofString "Heap.look_at") Value.none Value.none (Value.str (Str.ofString "alikeheap.heap") 607) (Value.ref 387) (Value.none))) }) ::
 (nat_lit 389, { cls := Value.type "tuple", data := Data.seq #[] }) ::
 (nat_lit 391, { cls := Value.type "tuple", data := Data.seq #[Value.str (Str.ofString "self") 665, Value.str (Str.ofString "n") 666] }) ::
 (nat_lit 392, { cls := Value.type "tuple", data := Data.seq #[] }) ::
 (nat_lit 394, { cls := Value.type "code", data := Data.fields #[Value.str (Str.ofString "find") 662, Value.str (Str.ofString "Heap.find") 663, Value.str (Str.ofString "/claim/cut.py") 664, Value.int 232 0, Value.int 2 0, Value.int 0 0, Value.int 0 0, Value.int 3 0, Value.ref 389, Value.bool true, Value.int 181 0, Value.ref 390, Value.none, Value.ref 391, Value.ref 392, Value.ref 393, Value.int 667 0, Value.int 232 0, Value.str (Str.ofString "/claim/cut.py") 668] }) ::
 (nat_lit 395, { cls := Value.type "function", data := Data.func ((hdMk 14 6 rfl (Str.ofString "find") (Str.ofString "Heap.find") Value.none Value.none (Value.str (Str.ofString "alikeheap.heap") 607) (Value.ref 394) (Value.none))) }) ::
 (nat_lit 396, { cls := Value.type "tuple", data := Data.seq #[] }) ::
 (nat_lit 398, { cls := Value.type "tuple", data := Data.seq #[Value.str (Str.ofString "self") 673, Value.str (Str.ofString "a") 674, Value.str (Str.ofString "b") 675] }) ::
 (nat_lit 399, { cls := Value.type "tuple", data := Data.seq #[] }) ::
 (nat_lit 403, { cls := Value.type "tuple", data := Data.seq #[] }) ::
 (nat_lit 405, { cls := Value.type "tuple", data := Data.seq #[Value.str (Str.ofString "self") 682, Value.str (Str.ofString "a") 683, Value.str (Str.ofString "b") 684, Value.str (Str.ofString "reason") 685] }) ::
 (nat_lit 406, { cls := Value.type "tuple", data := Data.seq #[] }) ::
 (nat_lit 408, { cls := Value.type "code", data := Data.fields #[Value.str (Str.ofString "merge") 679, Value.str (Str.ofString "Heap.merge") 680, Value.str (Str.ofString "/claim/cut.py") 681, Value.int 238 0, Value.int 4 0, Value.int 0 0, Value.int 0 0, Value.int 3 0, Value.ref 403, Value.bool true, Value.int 181 0, Value.ref 404, Value.none, Value.ref 405, Value.ref 406, Value.ref 407, Value.int 686 0, Value.int 238 0, Value.str (Str.ofString "/claim/cut.py") 687] }) ::
 (nat_lit 409, { cls := Value.type "function", data := Data.func ((hdMk 14 8 rfl (Str.ofString "merge") (Str.ofString "Heap.merge") Value.none Value.none (Value.str (Str.ofString "alikeheap.heap") 607) (Value.ref 408) (Value.none))) }) ::
 (nat_lit 410, { cls := Value.type "tuple", data := Data.seq #[] }) ::
 (nat_lit 412, { cls := Value.type "tuple", data := Data.seq #[Value.str (Str.ofString "self") 692, Value.str (Str.ofString "a") 693, Value.str (Str.ofString "b") 694, Value.str (Str.ofString "reason") 695, Value.str (Str.ofString "merged") 696, Value.str (Str.ofString "kept") 697, Value.str (Str.ofString "gone") 698] }) ::
 (nat_lit 413, { cls := Value.type "tuple", data := Data.seq #[] }) ::
 (nat_lit 415, { cls := Value.type "code", data := Data.fields #[Value.str (Str.ofString "join") 689, Value.str (Str.ofString "Heap.join") 690, Value.str (Str.ofString "/claim/cut.py") 691, Value.int 241 0, Value.int 4 0, Value.int 0 0, Value.int 0 0, Value.int 3 0, Value.ref 410, Value.bool true, Value.int 181 0, Value.ref 411, Value.none, Value.ref 412, Value.ref 413, Value.ref 414, Value.int 699 0, Value.int 241 0, Value.str (Str.ofString "/claim/cut.py") 700] }) ::
 (nat_lit 416, { cls := Value.type "function", data := Data.func ((hdMk 14 9 rfl (Str.ofString "join") (Str.ofString "Heap.join") Value.none Value.none (Value.str (Str.ofString "alikeheap.heap") 607) (Value.ref 415) (Value.none))) }) ::
 (nat_lit 417, { cls := Value.type "tuple", data := Data.seq #[] }) ::
 (nat_lit 419, { cls := Value.type "tuple", data := Data.seq #[Value.str (Str.ofString "self") 705] }) ::
 (nat_lit 420, { cls := Value.type "tuple", data := Data.seq #[] }) ::
 (nat_lit 422, { cls := Value.type "code", data := Data.fields #[Value.str (Str.ofString "settle") 702, Value.str (Str.ofString "Heap.settle") 703, Value.str (Str.ofString "/claim/cut.py") 704, Value.int 252 0, Value.int 1 0, Value.int 0 0, Value.int 0 0, Value.int 3 0, Value.ref 417, Value.bool true, Value.int 181 0, Value.ref 418, Value.none, Value.ref 419, Value.ref 420, Value.ref 421, Value.int 706 0, Value.int 252 0, Value.str (Str.ofString "/claim/cut.py") 707] }) ::
 (nat_lit 423, { cls := Value.type "function", data := Data.func ((hdMk 14 10 rfl (Str.ofString "settle") (Str.ofString "Heap.settle") Value.none Value.none (Value.str (Str.ofString "alikeheap.heap") 607) (Value.ref 422) (Value.none))) }) ::
 (nat_lit 424, { cls := Value.type "tuple", data := Data.seq #[] }) ::
 (nat_lit 426, { cls := Value.type "tuple", data := Data.seq #[Value.str (Str.ofString "self") 712] }) ::
 (nat_lit 427, { cls := Value.type "tuple", data := Data.seq #[] }) ::
 (nat_lit 431, { cls := Value.type "tuple", data := Data.seq #[] }) ::
 (nat_lit 433, { cls := Value.type "tuple", data := Data.seq #[Value.str (Str.ofString "self") 719] }) ::
 (nat_lit 434, { cls := Value.type "tuple", data := Data.seq #[] }) ::
 (nat_lit 438, { cls := Value.type "tuple", data := Data.seq #[] }) ::
 (nat_lit 440, { cls := Value.type "tuple", data := Data.seq #[Value.str (Str.ofString "self") 726, Value.str (Str.ofString "c") 727] }) ::
 (nat_lit 441, { cls := Value.type "tuple", data := Data.seq #[] }) ::
 (nat_lit 443, { cls := Value.type "code", data := Data.fields #[Value.str (Str.ofString "members") 723, Value.str (Str.ofString "Heap.members") 724, Value.str (Str.ofString "/claim/cut.py") 725, Value.int 262 0, Value.int 2 0, Value.int 0 0, Value.int 0 0, Value.int 3 0, Value.ref 438, Value.bool true, Value.int 181 0, Value.ref 439, Value.none, Value.ref 440, Value.ref 441, Value.ref 442, Value.int 728 0, Value.int 262 0, Value.str (Str.ofString "/claim/cut.py") 729] }) ::
 (nat_lit 444, { cls := Value.type "function", data := Data.func ((hdMk 14 13 rfl (Str.ofString "members") (Str.ofString "Heap.members") Value.none Value.none (Value.str (Str.ofString "alikeheap.heap") 607) (Value.ref 443) (Value.none))) }) ::
 (nat_lit 445, { cls := Value.type "tuple", data := Data.seq #[] }) ::
 (nat_lit 448, { cls := Value.type "code", data := Data.fields #[Value.str (Str.ofString "nodes_of") 731, Value.str (Str.ofString "Heap.nodes_of") 732, Value.str (Str.ofString "/claim/cut.py") 733, Value.int 265 0, Value.int 2 0, Value.int 0 0, Value.int 0 0, Value.int 3 0, Value.ref 445, Value.bool true, Value.int 181 0, Value.ref 446, Value.none, Value.none, Value.none, Value.ref 447, Value.int 734 0, Value.int 265 0, Value.str (Str.ofString "/claim/cut.py") 735] }) ::
 (nat_lit 449, { cls := Value.type "function", data := Data.func ((hdMk 14 14 rfl (Str.ofString "nodes_of") (Str.ofString "Heap.nodes_of") Value.none Value.none (Value.str (Str.ofString "alikeheap.heap") 607) (Value.ref 448) (Value.none))) }) ::
 (nat_lit 450, { cls := Value.type "tuple", data := Data.seq #[] }) ::
 (nat_lit 452, { cls := Value.type "tuple", data := Data.seq #[Value.str (Str.ofString "self") 740] }) ::
 (nat_lit 453, { cls := Value.type "tuple", data := Data.seq #[] }) ::
 (nat_lit 457, { cls := Value.type "tuple", data := Data.seq #[] }) ::
 (nat_lit 462, { cls := Value.type "tuple", data := Data.seq #[] }) ::
 (nat_lit 464, { cls := Value.type "tuple", data := Data.seq #[Value.str (Str.ofString "self") 753, Value.str (Str.ofString "c") 754] }) ::
 (nat_lit 465, { cls := Value.type "tuple", data := Data.seq #[] }) ::
 (nat_lit 469, { cls := Value.type "tuple", data := Data.seq #[Value.str (Str.ofString "above") 758, Value.str (Str.ofString "backs") 759, Value.str (Str.ofString "bank") 760, Value.str (Str.ofString "edges") 761, Value.str (Str.ofString "forest") 762, Value.str (Str.ofString "known") 763, Value.str (Str.ofString "unions") 764, Value.str (Str.ofString "waiting") 765] }) ::
 (nat_lit 470, { cls := Value.type "dict", data := Data.dict #[{ hash := PyData.keyHash P (Str.ofString "__module__"), key := Value.str (Str.ofString "__module__") 616, val := Value.str (Str.ofString "alikeheap.heap") 607 }, { hash := PyData.keyHash P (Str.ofString "__firstlineno__"), key := Value.str (Str.ofString "__firstlineno__") 620, val := Value.int 195 619 }, { hash := PyData.keyHash P (Str.ofString "__init__"), key := Value.str (Str.ofString "__init__") 627, val := Value.ref 359 }, { hash := PyData.keyHash P (Str.ofString "size"), key := Value.str (Str.ofString "size") 634, val := Value.ref 366 }, { hash := PyData.keyHash P (Str.ofString "node"), key := Value.str (Str.ofString "node") 640, val := Value.ref 371 }, { hash := PyData.keyHash P (Str.ofString "add"), key := Value.str (Str.ofString "add") 646, val := Value.ref 376 }, { hash := PyData.keyHash P (Str.ofString "put"), key := Value.str (Str.ofString "put") 652, val := Value.ref 381 }, { hash := PyData.keyHash P (Str.ofString "look_at"), key := Value.str (Str.ofString "look_at") 661, val := Value.ref 388 }, { hash := PyData.keyHash P (Str.ofString "find"), key := Value.str (Str.ofString "find") 669, val := Value.ref 395 }, { hash := PyData.keyHash P (Str.ofString "are_like"), key := Value.str (Str.ofString "are_like") 678, val := Value.ref 402 }, { hash := PyData.keyHash P (Str.ofString "merge"), key := Value.str (Str.ofString "merge") 688, val := Value.ref 409 }, { hash := PyData.keyHash P (Str.ofString "join"), key := Value.str (Str.ofString "join") 701, val := Value.ref 416 }, { hash := PyData.keyHash P (Str.ofString "settle"), key := Value.str (Str.ofString "settle") 708, val := Value.ref 423 }, { hash := PyData.keyHash P (Str.ofString "is_settled"), key := Value.str (Str.ofString "is_settled") 715, val := Value.ref 430 }, { hash := PyData.keyHash P (Str.ofString "classes"), key := Value.str (Str.ofString "classes") 722, val := Value.ref 437 }, { hash := PyData.keyHash P (Str.ofString "members"), key := Value.str (Str.ofString "members") 730, val := Value.ref 444 }, { hash := PyData.keyHash P (Str.ofString "nodes_of"), key := Value.str (Str.ofString "nodes_of") 736, val := Value.ref 449 }, { hash := PyData.keyHash P (Str.ofString "many_nodes"), key := Value.str (Str.ofString "many_nodes") 743, val := Value.ref 456 }, { hash := PyData.keyHash P (Str.ofString "seek"), key := Value.str (Str.ofString "seek") 749, val := Value.ref 461 }, { hash := PyData.keyHash P (Str.ofString "users"), key := Value.str (Str.ofString "users") 757, val := Value.ref 468 }, { hash := PyData.keyHash P (Str.ofString "__static_attributes__"), key := Value.str (Str.ofString "__static_attributes__") 766, val := Value.ref 469 }, { hash := PyData.keyHash P (Str.ofString "__dict__"), key := Value.str (Str.ofString "__dict__") 768, val := Value.ref 472 }, { hash := PyData.keyHash P (Str.ofString "__weakref__"), key := Value.str (Str.ofString "__weakref__") 770, val := Value.ref 473 }, { hash := PyData.keyHash P (Str.ofString "__doc__"), key := Value.str (Str.ofString "__doc__") 771, val := Value.none }] 4 }) ::
 (nat_lit 471, { cls := Value.type "type", data := Data.cls { name := Str.ofString "Heap", bases := [Value.type "object"], mro := [Value.ref 471, Value.type "object"], ns := 470, qualname := Str.ofString "Heap" }, slots := #[none, none, some (Value.str (Str.ofString "Heap") 609), some (Value.str (Str.ofString "Heap") 617), some (Value.builtin "object.__new__"), some (Value.bool true)] }) ::
 (nat_lit 472, { cls := Value.type "getset_descriptor", data := Data.fields #[Value.str (Str.ofString "__dict__") 767, Value.ref 471, Value.builtin "function.__dict__", Value.builtin "function.__dict__#set"] }) ::
 (nat_lit 473, { cls := Value.type "getset_descriptor", data := Data.fields #[Value.str (Str.ofString "__weakref__") 769, Value.ref 471, Value.builtin "ExceptionGroup.__weakref__", Value.none] }) ::
 (nat_lit 476, { cls := Value.type "tuple", data := Data.seq #[] }) ::
 (nat_lit 478, { cls := Value.type "tuple", data := Data.seq #[Value.str (Str.ofString "belt") 779, Value.str (Str.ofString "many") 780, Value.str (Str.ofString "at") 781] }) ::
 (nat_lit 479, { cls := Value.type "tuple", data := Data.seq #[] }) ::
 (nat_lit 481, { cls := Value.type "code", data := Data.fields #[Value.str (Str.ofString "_law_scan") 776, Value.str (Str.ofString "_law_scan") 777, Value.str (Str.ofString "/claim/cut.py") 778, Value.int 278 0, Value.int 2 0, Value.int 0 0, Value.int 0 0, Value.int 3 0, Value.ref 476, Value.bool true, Value.int 181 0, Value.ref 477, Value.none, Value.ref 478, Value.ref 479, Value.ref 480, Value.int 782 0, Value.int 278 0, Value.str (Str.ofString "/claim/cut.py") 783] }) ::
 (nat_lit 482, { cls := Value.type "function", data := Data.func ((hdMk 16 0 rfl (Str.ofString "_law_scan") (Str.ofString "_law_scan") Value.none Value.none (Value.str (Str.ofString "law_rg0122_01") 774) (Value.ref 481) (Value.none))) }) ::
 (nat_lit 483, { cls := Value.type "tuple", data := Data.seq #[] }) ::
 (nat_lit 486, { cls := Value.type "code", data := Data.fields #[Value.str (Str.ofString "_law_added") 785, Value.str (Str.ofString "_law_added") 786, Value.str (Str.ofString "/claim/cut.py") 787, Value.int 282 0, Value.int 2 0, Value.int 0 0, Value.int 0 0, Value.int 3 0, Value.ref 483, Value.bool true, Value.int 181 0, Value.ref 484, Value.none, Value.none, Value.none, Value.ref 485, Value.int 788 0, Value.int 282 0, Value.str (Str.ofString "/claim/cut.py") 789] }) ::
 (nat_lit 487, { cls := Value.type "function", data := Data.func ((hdMk 17 0 rfl (Str.ofString "_law_added") (Str.ofString "_law_added") Value.none Value.none (Value.str (Str.ofString "law_rg0122_01") 774) (Value.ref 486) (Value.none))) }) ::
 (nat_lit 488, { cls := Value.type "tuple", data := Data.seq #[] }) ::
 (nat_lit 490, { cls := Value.type "tuple", data := Data.seq #[Value.str (Str.ofString "belt") 794, Value.str (Str.ofString "heap") 795, Value.str (Str.ofString "one") 796] }) ::
 (nat_lit 491, { cls := Value.type "tuple", data := Data.seq #[] }) ::
 (nat_lit 493, { cls := Value.type "code", data := Data.fields #[Value.str (Str.ofString "_law_told") 791, Value.str (Str.ofString "_law_told") 792, Value.str (Str.ofString "/claim/cut.py") 793, Value.int 285 0, Value.int 2 0, Value.int 0 0, Value.int 0 0, Value.int 3 0, Value.ref 488, Value.bool true, Value.int 181 0, Value.ref 489, Value.none, Value.ref 490, Value.ref 491, Value.ref 492, Value.int 797 0, Value.int 285 0, Value.str (Str.ofString "/claim/cut.py") 798] }) ::
 (nat_lit 494, { cls := Value.type "function", data := Data.func ((hdMk 18 0 rfl (Str.ofString "_law_told") (Str.ofString "_law_told") Value.none Value.none (Value.str (Str.ofString "law_rg0122_01") 774) (Value.ref 493) (Value.none))) }) ::
 (nat_lit 495, { cls := Value.type "tuple", data := Data.seq #[] }) ::
 (nat_lit 498, { cls := Value.type "code", data := Data.fields #[Value.str (Str.ofString "_law_layers") 800, Value.str (Str.ofString "_law_layers") 801, Value.str (Str.ofString "/claim/cut.py") 802, Value.int 288 0, Value.int 1 0, Value.int 0 0, Value.int 0 0, Value.int 3 0, Value.ref 495, Value.bool true, Value.int 181 0, Value.ref 496, Value.none, Value.none, Value.none, Value.ref 497, Value.int 803 0, Value.int 288 0, Value.str (Str.ofString "/claim/cut.py") 804] }) ::
 (nat_lit 499, { cls := Value.type "function", data := Data.func ((hdMk 19 0 rfl (Str.ofString "_law_layers") (Str.ofString "_law_layers") Value.none Value.none (Value.str (Str.ofString "law_rg0122_01") 774) (Value.ref 498) (Value.none))) }) ::
 (nat_lit 500, { cls := Value.type "tuple", data := Data.seq #[] }) ::
 (nat_lit 503, { cls := Value.type "code", data := Data.fields #[Value.str (Str.ofString "_law_due") 806, Value.str (Str.ofString "_law_due") 807, Value.str (Str.ofString "/claim/cut.py") 808, Value.int 293 0, Value.int 2 0, Value.int 0 0, Value.int 0 0, Value.int 3 0, Value.ref 500, Value.bool true, Value.int 181 0, Value.ref 501, Value.none, Value.none, Value.none, Value.ref 502, Value.int 809 0, Value.int 293 0, Value.str (Str.ofString "/claim/cut.py") 810] }) ::
 (nat_lit 504, { cls := Value.type "function", data := Data.func ((hdMk 20 0 rfl (Str.ofString "_law_due") (Str.ofString "_law_due") Value.none Value.none (Value.str (Str.ofString "law_rg0122_01") 774) (Value.ref 503) (Value.none))) }) ::
 (nat_lit 505, { cls := Value.type "tuple", data := Data.seq #[] }) ::
 (nat_lit 508, { cls := Value.type "code", data := Data.fields #[Value.str (Str.ofString "law") 812, Value.str (Str.ofString "law") 813, Value.str (Str.ofString "/claim/cut.py") 814, Value.int 304 0, Value.int 1 0, Value.int 0 0, Value.int 0 0, Value.int 3 0, Value.ref 505, Value.bool true, Value.int 181 0, Value.ref 506, Value.none, Value.none, Value.none, Value.ref 507, Value.int 815 0, Value.int 304 0, Value.str (Str.ofString "/claim/cut.py") 816] }) ::
 (nat_lit 509, { cls := Value.type "function", data := Data.func ((hdMk 21 0 rfl (Str.ofString "law") (Str.ofString "law") Value.none Value.none (Value.str (Str.ofString "law_rg0122_01") 774) (Value.ref 508) (Value.none))) }) :: []
noncomputable def hd.as : List Addr := [nat_lit 2, nat_lit 3, nat_lit 15, nat_lit 17, nat_lit 18, nat_lit 22, nat_lit 24, nat_lit 25, nat_lit 27, nat_lit 28, nat_lit 36, nat_lit 38, nat_lit 39, nat_lit 41, nat_lit 42, nat_lit 43, nat_lit 45, nat_lit 46, nat_lit 50, nat_lit 52, nat_lit 53, nat_lit 57, nat_lit 60, nat_lit 61, nat_lit 62, nat_lit 64, nat_lit 65, nat_lit 67, nat_lit 68, nat_lit 69, nat_lit 72, nat_lit 73, nat_lit 74, nat_lit 76, nat_lit 77, nat_lit 79, nat_lit 80, nat_lit 81, nat_lit 86, nat_lit 88, nat_lit 89, nat_lit 93, nat_lit 95, nat_lit 96, nat_lit 100, nat_lit 101, nat_lit 102, nat_lit 103, nat_lit 104, nat_lit 107, nat_lit 110, nat_lit 115, nat_lit 116, nat_lit 118, nat_lit 119, nat_lit 123, nat_lit 125, nat_lit 126, nat_lit 130, nat_lit 131, nat_lit 132, nat_lit 133, nat_lit 136, nat_lit 143, nat_lit 144, nat_lit 145, nat_lit 148, nat_lit 151, nat_lit 152, nat_lit 153, nat_lit 165, nat_lit 167, nat_lit 168, nat_lit 170, nat_lit 171, nat_lit 172, nat_lit 174, nat_lit 175, nat_lit 177, nat_lit 178, nat_lit 179, nat_lit 182, nat_lit 183, nat_lit 184, nat_lit 186, nat_lit 187, nat_lit 189, nat_lit 190, nat_lit 191, nat_lit 193, nat_lit 194, nat_lit 198, nat_lit 203, nat_lit 205, nat_lit 206, nat_lit 210, nat_lit 212, nat_lit 213, nat_lit 215, nat_lit 216, nat_lit 217, nat_lit 219, nat_lit 220, nat_lit 222, nat_lit 223, nat_lit 224, nat_lit 226, nat_lit 227, nat_lit 229, nat_lit 230, nat_lit 231, nat_lit 236, nat_lit 238, nat_lit 239, nat_lit 243, nat_lit 245, nat_lit 246, nat_lit 250, nat_lit 252, nat_lit 253, nat_lit 257, nat_lit 258, nat_lit 259, nat_lit 260, nat_lit 261, nat_lit 271, nat_lit 273, nat_lit 274, nat_lit 276, nat_lit 277, nat_lit 278, nat_lit 280, nat_lit 281, nat_lit 283, nat_lit 284, nat_lit 285, nat_lit 287, nat_lit 288, nat_lit 290, nat_lit 291, nat_lit 292, nat_lit 294, nat_lit 295, nat_lit 297, nat_lit 298, nat_lit 299, nat_lit 301, nat_lit 302, nat_lit 304, nat_lit 305, nat_lit 306, nat_lit 308, nat_lit 309, nat_lit 311, nat_lit 312, nat_lit 313, nat_lit 318, nat_lit 320, nat_lit 321, nat_lit 325, nat_lit 327, nat_lit 328, nat_lit 332, nat_lit 334, nat_lit 335, nat_lit 339, nat_lit 340, nat_lit 341, nat_lit 342, nat_lit 343, nat_lit 353, nat_lit 355, nat_lit 356, nat_lit 358, nat_lit 359, nat_lit 360, nat_lit 362, nat_lit 363, nat_lit 365, nat_lit 366, nat_lit 367, nat_lit 370, nat_lit 371, nat_lit 372, nat_lit 375, nat_lit 376, nat_lit 377, nat_lit 380, nat_lit 381, nat_lit 382, nat_lit 384, nat_lit 385, nat_lit 387, nat_lit 388, nat_lit 389, nat_lit 391, nat_lit 392, nat_lit 394, nat_lit 395, nat_lit 396, nat_lit 398, nat_lit 399, nat_lit 403, nat_lit 405, nat_lit 406, nat_lit 408, nat_lit 409, nat_lit 410, nat_lit 412, nat_lit 413, nat_lit 415, nat_lit 416, nat_lit 417, nat_lit 419, nat_lit 420, nat_lit 422, nat_lit 423, nat_lit 424, nat_lit 426, nat_lit 427, nat_lit 431, nat_lit 433, nat_lit 434, nat_lit 438, nat_lit 440, nat_lit 441, nat_lit 443, nat_lit 444, nat_lit 445, nat_lit 448, nat_lit 449, nat_lit 450, nat_lit 452, nat_lit 453, nat_lit 457, nat_lit 462, nat_lit 464, nat_lit 465, nat_lit 469, nat_lit 470, nat_lit 471, nat_lit 472, nat_lit 473, nat_lit 476, nat_lit 478, nat_lit 479, nat_lit 481, nat_lit 482, nat_lit 483, nat_lit 486, nat_lit 487, nat_lit 488, nat_lit 490, nat_lit 491, nat_lit 493, nat_lit 494, nat_lit 495, nat_lit 498, nat_lit 499, nat_lit 500, nat_lit 503, nat_lit 504, nat_lit 505, nat_lit 508, nat_lit 509]
theorem hd.said : OpenLaw.wellSaid PySem.Challenge.rw_rg0122_01 = true := by decide +kernel
theorem hd.as_eq (P : Params) : hd.as = (hd.heap_39 P).map (·.1) := by kernel_rfl
noncomputable def hd.H : Hook := kHook hd.heap_39 hd.as hd.as_eq
/-- the top's run over the heap as a tree, by a step of one's choice -/
noncomputable def hdRun (stp : SharedT → Thread → Option (SharedT × Thread)) (ok : Thread → Bool) : Nat → SharedT → Thread → Option SharedT
  | 0, _, _ => none
  | n + 1, s, t => match through t with
    | true => some s
    | false => match ok t with
      | false => none
      | true => match stp s t with
        | some (s', t') => hdRun stp ok n s' t'
        | none => none
theorem hdRun_of {tb : String → Option Builtin} {p : Program} {w : World} {n₀ : Nat} {ann : Option Value} : ∀ {n : Nat} {s s' : SharedT} {t : Thread}, hdRun (stepT (denote tb) p w) (stepOk n₀ ann) n s t = some s' → topRun tb p w n₀ ann n s.abs t = some s'.abs
  | 0, _, _, _, h => by cases h
  | n + 1, s, s', t, h => by
    unfold hdRun at h
    unfold topRun
    cases ht : through t with
    | true => rw [ht] at h; cases h; rfl
    | false =>
      rw [ht] at h
      cases hk : stepOk n₀ ann t with
      | false => rw [hk] at h; cases h
      | true =>
        rw [hk] at h
        cases hs : stepT (denote tb) p w s t with
        | none => rw [hs] at h; cases h
        | some r => obtain ⟨s₂, t₂⟩ := r; rw [hs] at h; rw [stepT_spec hs]; exact hdRun_of h
noncomputable def hdTree : List Obj → Nat → BT → BT
  | [], _, t => t
  | o :: r, n, t => hdTree r (n + 1) (t.ins n o)
noncomputable def hdT (s : Shared) : SharedT := ⟨hdTree s.heap.objs.toList 0 .nil, s.heap.objs.size, s.heap.life, s.gens, s.drawn, s.toks, s.os⟩
theorem hd.opens : ∀ w, (fencedOpening treeTable hdRow.prog w 6556).map (fun s => (hdT s).abs) = fencedOpening treeTable hdRow.prog w 6556 := by
  intro w
  unfold fencedOpening
  rw [PySem.W.Fast.te10274390034422433532, PySem.W.Fast.te14289696077712309145, PySem.W.Fast.te14364793385576792824, PySem.W.Fast.te1435165496053646825]
  kernel_rfl
noncomputable abbrev hd.Xt : Shared → Bool := fun s => xlAt hd.view_39 [] s && recOk (RowW.records hdRow) s
noncomputable abbrev hd.looks (s : Shared) (s₁ : Shared) := ((s.heap.isNs mainGlobals && s.gens.size == 0, staticsOk (importedModules hdRow.prog.main.body) s.heap s₁.heap && namesBound hdRow.prog s₁.heap && gensDone s₁ && laidKept s.heap s₁.heap), openSeen hd.view_39 [] (importedModules hdRow.prog.main.body) hd.Xt true s₁, Hook.obs hd.H s₁)
set_option maxHeartbeats 0 in
theorem hd.runs : ∀ w, (fencedOpening treeTable hdRow.prog w 6556).bind (fun s => (hdRun (stepT (denote treeTable) hdRow.prog w) (stepOk s.heap.objs.size (s.heap.nsMap mainGlobals "__annotations__")) 6556 (hdT s) (topStub hdRow.prog)).map fun s₁ => hd.looks s s₁.abs) = some ((true, true), openGood hd.view_39 [], Hook.val hd.H w) := by
  intro w
  unfold fencedOpening hd.looks
  rw [PySem.W.Fast.te10274390034422433532, PySem.W.Fast.te14289696077712309145, PySem.W.Fast.te1435165496053646825, PySem.W.Fast.te10156331382660048174, PySem.W.Fast.te11892475500146522536, PySem.W.Fast.te6613529449190102663, PySem.W.Fast.te14364793385576792824, PySem.W.Fast.te4187177175401517315]
  kernel_rfl
theorem hd.left : LeftO hdRow.prog hd.view_39 [] hd.Xt (Hook.obs hd.H) (Hook.val hd.H) 6556 := by
  intro w
  obtain ⟨s, hs, h⟩ := Option.bind_eq_some_iff.mp (hd.runs w)
  obtain ⟨s₁, h₁, e⟩ := Option.map_eq_some_iff.mp h
  have ha : (hdT s).abs = s := by
    have := hd.opens w
    rw [hs] at this
    exact Option.some.inj this
  have ht := hdRun_of h₁
  rw [ha] at ht
  have e1 := congrArg (fun x => x.1.1) e
  have e2 := congrArg (fun x => x.1.2) e
  have e3 := congrArg (fun x => x.2) e
  have hf : topFrom treeTable hdRow.prog w 6556 s = some s₁.abs := by
    unfold topFrom
    rw [show (s.heap.isNs mainGlobals && s.gens.size == 0) = true from e1]
    show (topRun treeTable hdRow.prog w s.heap.objs.size (s.heap.nsMap mainGlobals "__annotations__") 6556 s (topStub hdRow.prog)).bind _ = _
    rw [ht]
    show (match staticsOk (importedModules hdRow.prog.main.body) s.heap s₁.abs.heap && namesBound hdRow.prog s₁.abs.heap && gensDone s₁.abs && laidKept s.heap s₁.abs.heap with | true => some s₁.abs | false => none) = _
    rw [show (staticsOk (importedModules hdRow.prog.main.body) s.heap s₁.abs.heap && namesBound hdRow.prog s₁.abs.heap && gensDone s₁.abs && laidKept s.heap s₁.abs.heap) = true from e2]
  unfold openEnds
  rw [hs]
  show (topFrom treeTable hdRow.prog w 6556 s).map _ = _
  rw [hf]
  exact congrArg some e3
end
open PySem PySem.W PyProof.Rows PySem.Calls
theorem filled (w : World) (h : PySem.Heap) : (hd.heap_39 w.params).In h → PySem.Challenge.rw_rg0122_01 = PySem.Challenge.rw_rg0122_01 := by
  k_fill
  intro _; rfl
/-- room for k more frames -/
structure RoomOk (A : Around) (k : Nat) : Prop where
  hh : A.handled = none
  dp : A.depth + k ≤ 900
  un : A.units + 20 * k ≤ 9000
theorem RoomOk.deeper {A : Around} {k : Nat} (r : RoomOk A (k + 1)) (env : Env) : RoomOk (A.deeper env) k :=
  ⟨r.hh, by have := r.dp; show A.depth + 1 + k ≤ 900; lia, by have := r.un; show A.units + 3 + 20 * k ≤ 9000; lia⟩
theorem RoomOk.less {A : Around} {k j : Nat} (r : RoomOk A k) (h : j ≤ k) : RoomOk A j :=
  ⟨r.hh, by have := r.dp; lia, by have := r.un; lia⟩
theorem RoomOk.lim {A : Around} {k : Nat} (r : RoomOk A k) : A.depth < recursionLimit := by
  have := r.dp; show A.depth < 1000; lia
/-- what no step of ours touches -/
noncomputable def Sm (s s' : Shared) : Prop := s'.gens = s.gens ∧ s'.os = s.os
theorem Sm.rfl {s : Shared} : Sm s s := ⟨_root_.rfl, _root_.rfl⟩
theorem Sm.trans {s s' s'' : Shared} (a : Sm s s') (b : Sm s' s'') : Sm s s'' := ⟨b.1.trans a.1, b.2.trans a.2⟩

section
variable {prog : Program} {w : World} {A : Around} {s : Shared} {h₀ : PySem.Heap} {L : Addr} {m : PySem.Str → Option Value} {news : List (Addr × Obj)} {K : Frag}
  {R : Result → Shared → Prop} {name qual : PySem.Str} {params : Arguments} {body : List Stmt} {scope : Scope} {dV kV doc pm cdv ct oc : Value} {an od : Option Addr} {osl : Array (Option Value)} {f : Addr} {args : Args} {binds : List (PySem.Str × Value)}

/-- the ground of a callee: the ledger's objects hidden -/
theorem ground (F : Fr h₀ L s.heap m) (N : News h₀ L s.heap news) :
    h₀.StaysIn (hideAll s.heap (news.map (·.1))) ∧
      ∀ v s', LeaveK h₀ L m (hideAll s.heap (news.map (·.1))) R v s' → R (.ok (.ret v)) s' := by
  let e : Env := { scope := { kind := .function, names := [], isGenerator := false, isCoroutine := false, more := [] }, locals := L, globals := L, cells := [], frame := some L }
  have B : Below { frames := some [] } ({ objs := #[] } : PySem.Heap) [] h₀ :=
    ⟨rfl, fun b o e => absurd (Heap.lt_size e) (Nat.not_lt_zero b), trivial⟩
  obtain ⟨_, _, st, lv⟩ := groundX (R := R) (A := { frames := some [e] }) (env := e) B F N rfl rfl rfl
  exact ⟨st, lv⟩

theorem enterP (F : Fr h₀ L s.heap m) (N : News h₀ L s.heap news) (X : K.In h₀) (hlim : h₀.NoLimit) (hroom : A.depth < recursionLimit)
    (ho : K.lookup f = some ⟨oc, od, .func (fnOf name qual params body scope dV kV doc pm an cdv ct), osl⟩) (hcd : codeIn K cdv qual = true)
    (hbind : bindArgs (fnOf name qual params body scope dV kV doc pm an cdv ct) args = pure binds) (hloc : (binds.all fun x => decide (scope.names.lookup x.1 = some .local)) = true)
    (h : ∀ g L' h₁, h₀.StaysIn g → K.In g → Fr g L' h₁ (fun y => binds.reverse.lookup y) → News g L' h₁ news →
      wpAny (model prog w) (A.deeper (envOf qual scope L' f cdv)) (execs body (envOf qual scope L' f cdv))
        (fun fl s' => LeaveK h₀ L m g R (match fl with | .ret v => v | _ => .none) s') (fun _ _ => False)
        { s with heap := h₁, toks := s.toks + binds.length })
    (hcell : ∀ x ∈ scope.names, x.2 ≠ .cell) (hco : scope.isCoroutine = false) (hgen : scope.isGenerator = false) (hk : scope.kind = .function) :
    codeAny (model prog w) A (.call (.ref f) args) R s := by
  obtain ⟨st, lv⟩ := ground (R := R) F N
  refine codeAny_call_def (fd := fnOf name qual params body scope dV kV doc pm an cdv ct) (body := body) (binds := binds) hroom ((X.keeps F.keep) _ _ ho) rfl (hlim.keeps F.keep) (codeRec_of (X.keeps F.keep) hcd) rfl (BindsTo.of_eq hbind) hcell (locs hloc) (fun h₁ hns hk₁ => ?_) hco hgen hk
  exact wpAny_mono (h _ s.heap.objs.size h₁ st (X.keeps st) ⟨hns, fun b o e => hk₁ b o (of_hideAll _ e), Nat.le_of_eq (hideAll_size _ _)⟩
    (fun p hp => ⟨hk₁ _ _ (N p hp).1, Nat.ne_of_lt (Heap.lt_size (N p hp).1), hideAll_none _ (List.mem_map_of_mem hp)⟩)) (fun fl s' hl => lv _ _ hl) fun _ _ y => y.elim

theorem enterC (F : Fr h₀ L s.heap m) (N : News h₀ L s.heap news) (X : K.In h₀) (hlim : h₀.NoLimit) (hroom : A.depth < recursionLimit)
    (ho : K.lookup f = some ⟨oc, od, .func (fnOf name qual params body scope dV kV doc pm an cdv ct), osl⟩) (hcd : codeIn K cdv qual = true)
    (hbind : bindArgs (fnOf name qual params body scope dV kV doc pm an cdv ct) args = pure binds)
    (hkind : (binds.all fun y => scope.names.lookup y.1 == some .local || scope.names.lookup y.1 == some .cell) = true)
    (hnd : ((cellsFrom 0 scope.names []).map (·.1)).Nodup)
    (h : ∀ g L' h₁ tk cells, h₀.StaysIn g → K.In g → Fr g L' h₁ (bindL (envOfC qual scope L' f cdv).kindOf binds fun _ => none) → News g L' h₁ (cells ++ news) →
      CellsAre (bindC (envOfC qual scope L' f cdv).kindOf binds fun _ => none) (cellsFrom (L' + 1) scope.names []) cells → (∀ p ∈ news, p.1 < L') →
      wpAny (model prog w) (A.deeper (envOfC qual scope L' f cdv)) (execs body (envOfC qual scope L' f cdv))
        (fun fl s' => LeaveK h₀ L m g R (match fl with | .ret v => v | _ => .none) s') (fun _ _ => False)
        { s with heap := h₁, toks := tk })
    (hco : scope.isCoroutine = false) (hgen : scope.isGenerator = false) (hk : scope.kind = .function) :
    codeAny (model prog w) A (.call (.ref f) args) R s := by
  obtain ⟨st, lv⟩ := ground (R := R) F N
  refine codeAny_call_function hroom ((X.keeps F.keep) _ _ ho) rfl hco hgen rfl (codeRec_of (X.keeps F.keep) hcd) (BindsTo.of_eq hbind _ _ _ _ ?_)
  refine wpAny_newFunctionEnv_cells hk (kindsX hkind _) fun env' he s' x => ?_
  subst he
  refine ⟨(hlim.keeps F.keep).keeps x.toInCall.keep, codeAny_func ?_⟩
  obtain ⟨h₁, tk, rfl, _⟩ := x.done
  have hk₁ := x.toInCall.keep
  obtain ⟨cells, NC, Y⟩ := Cl.news (h₀ := s.heap) (Nat.le_refl _) fun n c hm => ⟨x.cell n c (lookup_of_mem_nodup (cellsFrom_names scope.names 0 (s.heap.objs.size + 1) [] [] rfl ▸ hnd) hm), x.above n c hm⟩
  refine wpAny_mono (h _ s.heap.objs.size h₁ tk cells st (X.keeps st) ⟨x.toInCall.ns, fun b o e => hk₁ b o (of_hideAll _ e), Nat.le_of_eq (hideAll_size _ _)⟩ (fun p hp => ?_) Y (fun p hp => Heap.lt_size (N p hp).1)) (fun fl s' hl => lv _ _ hl) fun _ _ y => y.elim
  rcases List.mem_append.mp hp with hp | hp
  · refine ⟨(NC p hp).1, (NC p hp).2.1, ?_⟩
    cases q : (hideAll s.heap (news.map (·.1))).get? p.1 with
    | none => rfl
    | some o => have := of_hideAll _ q; rw [(NC p hp).2.2] at this; cases this
  · exact ⟨hk₁ _ _ (N p hp).1, Nat.ne_of_lt (Heap.lt_size (N p hp).1), hideAll_none _ (List.mem_map_of_mem hp)⟩
end
/-! the steps' words, all in one: their names are looked up where they are used -/
set_option hygiene false in
local macro_rules
  | `(tactic| walk_at "mloc") => `(tactic| first | with_reducible assumption | exact rfl | exact if_pos rfl | refine (if_neg (by decide)).trans ?_; walk_at "mloc")
  | `(tactic| walk_at "wra") => `(tactic| with_reducible assumption)
  | `(tactic| walk_at "aNm") => `(tactic| (
      case zN => k_asm
      case zm => k_mem))
  | `(tactic| walk_at "aFN") => `(tactic| case zF | zN => k_asm)
  | `(tactic| walk_at "aFNm") => `(tactic| (
      case zF => k_asm
      walk_at "aNm"))
  | `(tactic| walk_at "az") => `(tactic| case zz => first | with_reducible assumption | simp only [List.length_cons, List.length_nil, List.length_append]; lia)
  | `(tactic| walk_at "iW") => `(tactic| intro DW hW FW NW ltW)
  | `(tactic| walk_at "i3") => `(tactic| intro hW FW NW)
  | `(tactic| walk_at "i2") => `(tactic| intro tkW tkX)
  | `(tactic| walk_at "abc") => `(tactic| (
      case za | zb => rfl
      case zc => decide))
  | `(tactic| walk_at "ald") => `(tactic| (
      case zF => k_asm
      case zv => walk_at "mloc"
      walk_at "abc"))
  | `(tactic| walk_at "ad") => `(tactic| (
      case zd => walk_at "wra"
      walk_at "aNm"))
  | `(tactic| walk_at "adk") => `(tactic| (
      case zk => walk_at "wra"
      walk_at "ad"
      case zl => walk_at "wra"))
  | `(tactic| walk_at "ah") => `(tactic| (
      walk_at "ad"
      case zh1 => with_unfolding_all rfl
      case zh2 => intro _; with_unfolding_all rfl))
  | `(tactic| walk_at "mine") => `(tactic| first
    | guard_target = wpAny _ _ (eval (Expr.Name _ _) (envOf _ _ _ _ _)) _ _ _
      refine' ld ?zF ?zv ?_ ?za ?zb ?zc
      walk_at "ald"
      k_whole
    | guard_target = wpAny _ _ (eval (Expr.Name _ _) (envOfC _ _ _ _ _)) _ _ _
      refine' nameX_L ?zF ?zv ?_ ?za ?zb ?zc
      walk_at "ald"
    | guard_target = wpAny _ _ (eval (Expr.Name _ _) (compEnvC _ _ _ _)) _ _ _
      first
        | refine' cn_local ?zF ?zv ?_ ?za ?zb ?zc
          walk_at "ald"
        | refine' kcf_cell ?zN ?zl ?zm ?zd ?_ ?za ?zb ?zc
          case zl => rfl
          case zm => k_mem
          case zN => k_asm
          case zd => walk_at "wra"
          walk_at "abc"
        | fail
    | guard_target = wpAny _ _ (subscriptTail _ _ (Value.ref _) (Value.int _ _)) _ _ _
      first
        | refine' rd_item ?zN ?zm ?zd ?zk ?_ ?zh1 ?zh2
          case zk => walk_at "wra"
          walk_at "ah"
        | refine' sub_ints ?zN ?zm ?zi ?zj ?zk ?_
          walk_at "aNm"
          case zi | zj | zk => walk_at "wra"
          intro tkW
        | refine' rl_item ?zN ?zm ?zj ?zz ?_
          walk_at "aNm"
          case zj => walk_at "wra"
          walk_at "az"
        | guard_target = wpAny _ _ (subscriptTail _ _ (Value.ref _) (Value.int 0 _)) _ _ _
          refine' rl_tup0 ?zN ?zm ?zz ?_
          walk_at "aNm"
          walk_at "az"
        | fail
    | guard_target = wpAny _ _ (subscriptTail _ _ (Value.ref _) (Value.ref _)) _ _ _
      refine' rl_slice1 ?zF ?zN ?zm ?zz ?_
      walk_at "aFNm"
      walk_at "az"
      walk_at "iW"
    | guard_target = wpAny _ _ (call (Value.type "tuple") [Value.ref _]) _ _ _
      refine' rl_tupOfList ?zF ?zN ?zm ?zz ?_
      walk_at "aFNm"
      walk_at "az"
      walk_at "iW"
    | guard_target = wpAny _ _ (call (Value.builtin "len") [Value.ref _]) _ _ _
      first
        | refine' rd_len ?zN ?zm ?zd ?zl ?zk ?_
          walk_at "ad"
          case zl | zk => walk_at "wra"
          walk_at "i2"
        | refine' rl_lenI ?zN ?zm ?zi ?zk ?_
          walk_at "aNm"
          case zi | zk => walk_at "wra"
          walk_at "i2"
        | refine' rl_len ?zN ?zm ?zz ?_
          walk_at "aNm"
          walk_at "az"
          walk_at "i2"
        | fail
    | guard_target = wpAny _ _ (call (Value.builtin "sorted") [Value.ref _]) _ _ _
      refine' rl_sorted2 ?zF ?zN ?zm ?_
      walk_at "aFNm"
      intro DW hW eW uW1 uW2 FW NW ltW
    | guard_target = wpAny _ _ (getMethod (Value.ref _) (PySem.Str.ofString "pop") _) _ _ _
      refine' rd_method PySem.F.slot_dict_pop PySem.F.type_dict_pop ?zN ?zm ?zd ?_
      walk_at "ad"
    | guard_target = wpAny _ _ (getMethod (Value.ref _) (PySem.Str.ofString "setdefault") _) _ _ _
      first
        | refine' rd_method PySem.F.slot_dict_setdefault PySem.F.type_dict_setdefault ?zN ?zm ?zd ?_
          walk_at "ad"
        | refine' dt_method PySem.F.slot_dict_setdefault PySem.F.type_dict_setdefault ?zN ?zm ?zd ?_
          walk_at "ad"
        | fail
    | guard_target = wpAny _ _ (compareOp CmpOp.NotIn (Value.int _ _) (Value.ref _)) _ _ _
      first
        | refine' rd_notIn_new ?zN ?zm ?zd ?zl ?zk ?_
          walk_at "adk"
        | refine' rd_notIn_old ?zN ?zm ?zd ?zl ?zk ?_
          walk_at "adk"
        | refine' rd_notIn ?zN ?zm ?zd ?zl ?_
          walk_at "ad"
          case zl => walk_at "wra"
        | fail
    | guard_target = wpAny _ _ (binaryOp Operator.Add (Value.ref _) (Value.ref _)) _ _ _
      first
        | refine' rl_addTup ?zF ?zN ?zm ?zd ?zz ?_
          walk_at "aFNm"
          case zd => k_mem
          walk_at "az"
          intro DW hW jW newsW FW NW subW memW orW
        | refine' rl_addList ?zF ?zN ?zm ?zd ?zz ?_
          walk_at "aFNm"
          case zd => k_mem
          walk_at "az"
          walk_at "iW"
        | fail
    | guard_target = wpAny _ _ (newList _) _ _ _
      refine' rl_newList ?zF ?zN ?zz ?_
      walk_at "aFN"
      walk_at "az"
      walk_at "iW"
    | guard_target = wpAny _ _ (newTuple _) _ _ _
      refine' rl_newTuple ?zF ?zN ?zz ?_
      walk_at "aFN"
      walk_at "az"
      walk_at "iW"
    | guard_target = wpAny _ _ (assign (Expr.Tuple _ _ _) _ (Value.ref _)) _ _ _
      first
        | refine' rl_unpackL ?zF ?zN ?zm ?zr ?za ?zb ?_
          walk_at "aFNm"
        | refine' rl_unpackT ?zF ?zN ?zm ?zr ?za ?zb ?_
          walk_at "aFNm"
      case zr => walk_at "wra"
      case za | zb => exact rfl
      walk_at "i3"
    | guard_target = wpAny _ _ (unpackItems (Value.ref _) _ _) _ _ _
      refine' rl_unpackItems ?zr ?zF ?zN ?zm ?zl ?_
      case zr => walk_at "wra"
      walk_at "aFNm"
      case zl => exact rfl
      walk_at "i3"
    | guard_target = wpAny _ _ (eval (Expr.Dict [] [] _) _) _ _ _
      refine' rd_new ?zF ?zN ?zl ?_
      walk_at "aFN"
      case zl => apply TopRead.nolimit; assumption
      intro DW oW hW FW NW ltW loW diW
    | guard_target = wpAny _ _ (eval (Expr.ListComp _ _ _ _) _) _ _ _
      refine' comp_eval ?_ ?zr ?za ?zb ?zc
      case zr => intro _; rfl
      walk_at "abc"
    | exact (Str.ofString "" : PySem.Str)
    | exact (0 : Nat)
    | exact Value.none
    | k_unfold
    | walk1)
local macro_rules | `(tactic| k_room) => `(tactic| exact RoomOk.lim (by assumption))
local macro_rules | `(tactic| k_mem) => `(tactic| first | with_reducible assumption | exact List.mem_cons_self | (refine List.mem_cons_of_mem _ ?_; k_mem))
theorem nsub {g h : PySem.Heap} {L : Addr} {l l' : List (Addr × Obj)} (N : News g L h l) (hs : ∀ p ∈ l', p ∈ l) : News g L h l' := fun p hp => N p (hs p hp)

/-- what is iterated: from heap h, its fixed objects src, n items -/
structure Src (prog : Program) (w : World) (x : Value) (h : PySem.Heap) (src : List Addr) (n : Nat) (P : Nat → Value → Prop) : Prop where
  go : ∀ {A : Around} {s : Shared} {E : Value → Shared → Prop} {Q : Value → Shared → Prop}, A.handled = none → s.heap = h →
    (∀ oI St, (∀ A' : Around, A'.handled = none → Walks prog w A' h.objs.size (h.objs.size :: src) [h.objs.size] n P St) → St 0 (h.push oI) →
      (∀ i h', St i h' → ∃ o, h'.get? h.objs.size = some o ∧ o.cls ≠ .type "tuple") → Q (.ref h.objs.size) { s with heap := h.push oI }) → wpAny (model prog w) A (pyIter x) Q E s

theorem Src.list {prog : Program} {w : World} {h : PySem.Heap} {l : Addr} {items : Array Value} (hl : h.IsList l items) :
    Src prog w (.ref l) h [l] items.size (fun i v => items[i]? = some v) where
  go := fun {A s E Q} hh hs hq => by
    subst hs
    have hlt : l < s.heap.objs.size := let ⟨_, ho, _⟩ := hl; Heap.lt_size ho
    refine wpAny_pyIter_list hl (hq _ _ (fun A' hA => Walks.list hA _ l (Nat.ne_of_lt hlt) items) ⟨⟨_, Heap.get?_push_size _ rfl, rfl, rfl⟩, hl.push _⟩ fun i h' st => ?_)
    obtain ⟨o, ho, hc, _⟩ := st.1
    exact ⟨o, ho, by rw [hc]; simp⟩
theorem Src.tuple {prog : Program} {w : World} {h : PySem.Heap} {l : Addr} {items : Array Value} (hl : h.IsTuple l items) :
    Src prog w (.ref l) h [l] items.size (fun i v => items[i]? = some v) where
  go := fun {A s E Q} hh hs hq => by
    subst hs
    obtain ⟨o0, ho0, hr⟩ := hl
    have hlt : l < s.heap.objs.size := Heap.lt_size ho0
    refine wpAny_pyIter_tuple ⟨o0, ho0, hr⟩ (hq _ _ (fun A' hA => Walks.tuple hA _ l (Nat.ne_of_lt hlt) items) ⟨⟨_, Heap.get?_push_size _ rfl, rfl, rfl⟩, ⟨o0, Heap.get?_push_of_some _ ho0, hr⟩⟩ fun i h' st => ?_)
    obtain ⟨o, ho, hc, _⟩ := st.1
    exact ⟨o, ho, by rw [hc]; simp⟩

section
variable {prog : Program} {w : World} {A : Around} {s : Shared} {g : PySem.Heap} {L : Addr} {m : PySem.Str → Option Value} {news srcO : List (Addr × Obj)} {env : Env}

/-- a turn of a for loop has come back -/
noncomputable def Back (g : PySem.Heap) (L I : Addr) (oI : Obj) (srcO : List (Addr × Obj)) (J : (PySem.Str → Option Value) → List (Addr × Obj) → Prop) (s s' : Shared) : Prop :=
  Sm s s' ∧ ∃ m' news', Fr g L s'.heap m' ∧ News g L s'.heap ((I, oI) :: news') ∧ (∀ q ∈ news', q.1 ≠ I) ∧ (∀ p ∈ srcO, p ∈ news') ∧ J m' news'

/-- the state of a for loop -/
inductive FwI (s : Shared) (g : PySem.Heap) (L I : Addr) (srcO : List (Addr × Obj)) (J : Nat → (PySem.Str → Option Value) → List (Addr × Obj) → Prop) (St : Nat → PySem.Heap → Prop) (n k : Nat) (s' : Shared) : Prop
  | mk (sm : Sm s s') (i : Nat) (m' : PySem.Str → Option Value) (news' : List (Addr × Obj)) (hk : k = n + 1 - i) (hi : i ≤ n) (st : St i s'.heap) (F : Fr g L s'.heap m') (N : News g L s'.heap news') (hn : ∀ q ∈ news', q.1 ≠ I) (hs : ∀ p ∈ srcO, p ∈ news') (hJ : J i m' news') : FwI s g L I srcO J St n k s'
theorem for_walk {x : PySem.Str} {px : Pos} {body : List Stmt} {xv : Value} {n : Nat} {P : Nat → Value → Prop} {Q : Flow → Shared → Prop} {R : Result → Shared → Prop} {E : Value → Shared → Prop}
    (hR : ∀ f s', Q f s' → R (.ok f) s')
    (F : Fr g L s.heap m) (N : News g L s.heap news) (hh : A.handled = none) (hL : env.locals = L)
    (hx : env.kindOf x = some .local) (hp : (env.scope.kind == .class || (env.scope.kind == .module && env.locals != env.globals)) = false)
    (S : Src prog w xv s.heap (srcO.map (·.1)) n P) (hs0 : ∀ p ∈ srcO, p ∈ news)
    (J : Nat → (PySem.Str → Option Value) → List (Addr × Obj) → Prop) (J0 : J 0 m news)
    (turn : ∀ i v m₀ news' s' I oI, i < n → P i v → Sm s s' → (∀ p ∈ news, p.1 < I) → Fr g L s'.heap (fun y => if y = x then some v else m₀ y) → News g L s'.heap ((I, oI) :: news') → (∀ q ∈ news', q.1 ≠ I) → oI.cls ≠ .type "tuple" →
      (∀ p ∈ srcO, p ∈ news') → J i m₀ news' →
      wpAny (model prog w) A (execs body env) (fun f s'' => (f = .next ∨ f = .cont) ∧ Back g L I oI srcO (J (i + 1)) s s'') (fun _ _ => False) s')
    (fin : ∀ m' news' s', Sm s s' → Fr g L s'.heap m' → News g L s'.heap news' → (∀ p ∈ srcO, p ∈ news') → J n m' news' → Q .next s') :
    wpAny (model prog w) A (pyIter xv) (fun it s₁ => codeAny (model prog w) A (.forLoop (.Name x px) it body [] env) R s₁) E s := by
  subst hL
  refine S.go hh rfl fun oI St W st0 live => ?_
  have W := W A hh
  generalize hI : s.heap.objs.size = I at *
  have hgI : g.get? I = none := by
    cases q : g.get? I with
    | none => rfl
    | some o => have := Heap.lt_size (F.keep _ _ q); rw [hI] at this; exact absurd this (Nat.lt_irrefl _)
  have hLI : env.locals ≠ I := by have := F.ns.lt; exact Nat.ne_of_lt (hI ▸ this)
  have hnI : ∀ p ∈ news, p.1 < I := fun p hp => hI ▸ Heap.lt_size (N p hp).1
  refine codeAny_forLoop_any (FwI s g env.locals I srcO J St n) ?_ (n + 1)
    ⟨⟨rfl, rfl⟩, 0, m, news, rfl, Nat.zero_le _, st0, F.push _, fun p hp => ⟨Heap.get?_push_of_some _ (N p hp).1, (N p hp).2⟩, fun q hq => Nat.ne_of_lt (hnI q hq), hs0, J0⟩
  rintro k s' ⟨sm, i, m', news', rfl, hi, st, F', N', hn', hs', hJ⟩
  by_cases hlt : i < n
  · refine W.item i s' _ _ hlt st fun v h' tk hPv st' hk => ?_
    obtain ⟨oI', hoI', hcI'⟩ := live _ _ st'
    have F1 : Fr g env.locals h' m' := ⟨F'.ns.at' fun o e => hk _ o (by simp [hLI]) e, fun b o e => hk b o (by simp; rintro rfl; rw [hgI] at e; cases e) (F'.keep b o e), F'.above⟩
    have N1 : News g env.locals h' ((I, oI') :: news') := fun p hp => by
      rcases List.mem_cons.mp hp with rfl | hp
      · exact ⟨hoI', Ne.symm hLI, hgI⟩
      · exact ⟨hk _ _ (by simpa using hn' p hp) (N' p hp).1, (N' p hp).2⟩
    show wpAny (model prog w) A (letOwnedTupleGo (.Name x px) _ _) _ _ _
    refine wpAny_pure (wpAny_assign_Name (wpAny_storeName_local hx F1.ns (fun h₂ hn₂ hs₂ => ?_) hp))
    refine wpAny_mono (turn i v m' news' { s' with heap := h₂, toks := tk + 1 } I oI' hlt hPv ⟨sm.1, sm.2⟩ hnI (F1.set hn₂ hs₂) (N1.set hs₂) hn' hcI' hs' hJ) (fun f s₃ hb => ?_) fun _ _ e => e.elim
    obtain ⟨hf, sm₃, m₃, news₃, F₃, N₃, hn₃, hs₃, hJ₃⟩ := hb
    have : St (i + 1) s₃.heap := by
      refine W.frame _ _ _ st' fun b hb o e => ?_
      rcases List.mem_cons.mp hb with rfl | hb
      · rw [hoI'] at e; cases e; exact (N₃ _ (.head _)).1
      · obtain ⟨p, hp, rfl⟩ := List.mem_map.mp hb
        have e1 := (N1 p (.tail _ (hs' p hp))).1
        rw [e1] at e; cases e
        exact (N₃ p (.tail _ (hs₃ p hp))).1
    have res : ∃ m, m < n + 1 - i ∧ FwI s g env.locals I srcO J St n m s₃ :=
      ⟨n + 1 - (i + 1), by lia, sm₃, i + 1, m₃, news₃, rfl, hlt, this, F₃, fun p hp => N₃ p (.tail _ hp), hn₃, hs₃, hJ₃⟩
    rcases hf with rfl | rfl <;> exact res
  · have hin : i = n := by lia
    subst hin
    refine W.done s' _ _ st fun h' tk hk => ?_
    have F1 : Fr g env.locals h' m' := ⟨F'.ns.at' fun o e => hk _ o (by simp [hLI]) e, fun b o e => hk b o (by simp; rintro rfl; rw [hgI] at e; cases e) (F'.keep b o e), F'.above⟩
    have N1 : News g env.locals h' news' := fun p hp => ⟨hk _ _ (by simpa using hn' p hp) (N' p hp).1, (N' p hp).2⟩
    exact wpAny_execs_nil (hR _ _ (fin m' news' _ ⟨sm.1, sm.2⟩ F1 N1 hs' hJ))
end
theorem leN {a b : Nat} (h : a ≤ b) : a ≤ b := h
theorem ifT {P Q : Prop} [Decidable (true = true)] (h : P) : if true = true then P else Q := by rw [if_pos rfl]; exact h
section
variable {prog : Program} {w : World} {A : Around} {s : Shared} {g : PySem.Heap} {L : Addr} {m : PySem.Str → Option Value} {news srcO : List (Addr × Obj)} {env : Env} {E : Value → Shared → Prop}

/-- a comprehension whose source has come -/
noncomputable def CompAt (prog : Program) (w : World) (A : Around) (E : Value → Shared → Prop) (e : PySem.Expr) (scope : Scope) (cl : List (PySem.Str × Addr)) (env : Env) (Q : Value → Shared → Prop) (xv : Value) (s : Shared) : Prop :=
  wpAny (model prog w) A (pyIter xv) (fun it s₂ => wpAny (model prog w) A (newList []) (fun acc s₃ =>
    wpAny (model prog w) A (newFunctionEnv scope env.globals cl [] env.qual none .none (some env)) (fun cenv s₄ =>
      codeAny (model prog w) A (.compStart e 0 it acc { cenv with scope := relabel scope env }) (compPost (model prog w) A E none Q acc cenv.locals) s₄) E s₃) E s₂) E s

theorem comp_eval {elt target iter : PySem.Expr} {ifs : List PySem.Expr} {gs : List Comprehension} {scope : Scope} {cl : List (PySem.Str × Addr)} {pos : Pos} {Q : Value → Shared → Prop}
    (h : wpAny (model prog w) A (eval iter env) (fun xv s₁ => CompAt prog w A E (.ListComp elt (⟨target, iter, ifs, 0⟩ :: gs) scope pos) scope cl env Q xv s₁) E s)
    (hs : ∀ x, foldedSetIterable iter env x = pure x) (hclos : closureFor scope env = pure cl) (hkind : scope.kind = .function)
    (hnames : ∀ x ∈ scope.names, x.2 = .local → scope.names.lookup x.1 = some .local) :
    wpAny (model prog w) A (eval (.ListComp elt (⟨target, iter, ifs, 0⟩ :: gs) scope pos) env) Q E s := by
  rw [eval_ListComp]
  exact wpAny_comprehension_free rfl hs hclos hkind hnames h

/-- a turn of a comprehension has come back -/
noncomputable def CBack (g : PySem.Heap) (C : Addr) (ext srcO : List (Addr × Obj)) (J : List (Addr × Obj) → Prop) (s s' : Shared) : Prop :=
  Sm s s' ∧ ∃ m' news', Fr g C s'.heap m' ∧ News g C s'.heap (ext ++ news') ∧ (∀ p ∈ ext, ∀ q ∈ news', p.1 ≠ q.1) ∧ (∀ p ∈ srcO, p ∈ news') ∧ J news'

/-- the tests of a comprehension -/
noncomputable abbrev testsOf (ifs : List PySem.Expr) (cenv : Env) : Sem Bool :=
  forIn ifs true fun c r => if r = true then do let ok ← isTrue c cenv (eval c cenv); pure (ForInStep.yield ok) else pure (ForInStep.yield r)

/-- the state of a comprehension's loop -/
inductive CpI (s : Shared) (g : PySem.Heap) (srcO : List (Addr × Obj)) (J : Nat → List Value → List (Addr × Obj) → Prop) (St : Nat → PySem.Heap → Prop) (n I b : Nat) (L : Addr) (oL : Obj) (k : Nat) (s' : Shared) : Prop
  | mk (sm : Sm s s') (i : Nat) (mC : PySem.Str → Option Value) (ys : List Value) (c : Nat) (news' : List (Addr × Obj)) (hk : k = n + 1 - i) (hi : i ≤ n) (hl : ys.length ≤ b * i) (st : St i s'.heap) (F : Fr g (I + 2) s'.heap mC)
      (N : News g (I + 2) s'.heap ((I + 1, listOf (List.toArray ys) c) :: (L, oL) :: news')) (hn : ∀ q ∈ news', q.1 ≠ I ∧ q.1 ≠ I + 1 ∧ q.1 ≠ L) (hs : ∀ p ∈ srcO, p ∈ news') (hJ : J i ys news')

theorem comp_front {elt target iter : PySem.Expr} {ifs : List PySem.Expr} {rest : List Comprehension} {scope : Scope} {cl : List (PySem.Str × Addr)} {pos : Pos} {xv : Value} {n : Nat} {P : Nat → Value → Prop} {Q : Value → Shared → Prop}
    (F : Fr g L s.heap m) (N : News g L s.heap news) (hh : A.handled = none) (hcell : ∀ y ∈ scope.names, y.2 ≠ .cell) (hkind : scope.kind = .function)
    (S : Src prog w xv s.heap (srcO.map (·.1)) n P)
    (k : ∀ (I : Nat) (oL : Obj) (St : Nat → PySem.Heap → Prop) (h₁ : PySem.Heap) (m₁ : PySem.Str → Option Value), Walks prog w A I (I :: srcO.map (·.1)) [I] n P St → (∀ i h', St i h' → ∃ o, h'.get? I = some o ∧ o.cls ≠ .type "tuple") → s.heap.get? L = some oL → @LT.lt Nat _ L I → (∀ p ∈ news, @LT.lt Nat _ p.1 I) →
      (∀ b o, s.heap.get? b = some o → h₁.get? b = some o) → (∀ (b : Nat) o, g.get? b = some o → b < I) → (∀ (b : Nat), I ≤ b → g.get? b = none) → h₁.get? (I + 1) = some (listOf (List.toArray []) 0) → St 0 h₁ → g.get? L = none → Fr g (I + 2) h₁ m₁ →
      ∀ s₃ : Shared, s₃ = { s with heap := h₁, toks := s.toks + ([] : List (PySem.Str × Value)).length } →
        codeAny (model prog w) A (.compLoop (.ListComp elt (⟨target, iter, ifs, 0⟩ :: rest) scope pos) 0 (.ref I) (.ref (I + 1)) (compEnvC scope cl (I + 2) env)) (compPost (model prog w) A E none Q (.ref (I + 1)) (I + 2)) s₃) :
    CompAt prog w A E (.ListComp elt (⟨target, iter, ifs, 0⟩ :: rest) scope pos) scope cl env Q xv s := by
  unfold CompAt
  refine S.go hh rfl fun oI St W st0 live => ?_
  have W := W A hh
  refine hide fun G0 hG0 => ?_
  obtain ⟨oL, hoL⟩ : ∃ oL, s.heap.get? L = some oL := let ⟨o, _, _, ho, _⟩ := F.ns; ⟨o, ho⟩
  refine hG0 ?_
  try clear hG0 G0
  have hLlt : @LT.lt Nat _ L s.heap.objs.size := Heap.lt_size hoL
  refine wpAny_newObj_type (wpAny_newFunctionEnv hcell (by intro y hy; simp at hy) (fun h₁ hns₁ hsb₁ => ?_) hkind)
  dsimp only at hns₁ hsb₁ ⊢
  generalize hI : s.heap.objs.size = I at *
  have hnI : ∀ p ∈ news, @LT.lt Nat _ p.1 I := fun p hp => hI ▸ Heap.lt_size (N p hp).1
  have hDsz : (s.heap.push oI).objs.size = I + 1 := by rw [Heap.size_push, hI]
  generalize hDD : (s.heap.push oI).objs.size = D at *
  subst hDsz
  generalize hH : (s.heap.push oI).push { cls := .type "list", dict := none, data := .seq ([] : List Value).toArray } = H2 at *
  have hCsz : H2.objs.size = I + 2 := by rw [← hH, Heap.size_push, hDD]
  generalize hCC : H2.objs.size = C at *
  subst hCsz
  have old : ∀ (b : Nat) o, b ≠ I + 2 → H2.get? b = some o → h₁.get? b = some o := fun b o hb e => hsb₁.extBut b o hb (Heap.get?_push_of_some _ e)
  have old1 : ∀ (b : Nat) o, (s.heap.push oI).get? b = some o → h₁.get? b = some o := fun b o e =>
    old b o (by have := ltN (Heap.lt_size e); rw [hDD] at this; ((first | lia | (refine neN ?_; (try dsimp only); lia) | (refine ltN ?_; (try dsimp only); lia) | (refine leN ?_; (try dsimp only); lia)))) (hH ▸ Heap.get?_push_of_some _ e)
  have old0 : ∀ b o, s.heap.get? b = some o → h₁.get? b = some o := fun b o e => old1 b o (Heap.get?_push_of_some _ e)
  have hgs : ∀ (b : Nat) o, g.get? b = some o → b < I := fun b o e => hI ▸ Heap.lt_size (F.keep _ _ e)
  have hgn : ∀ (b : Nat), I ≤ b → g.get? b = none := fun b hb => by
    cases q : g.get? b with
    | none => rfl
    | some o => exact absurd (hgs _ _ q) (by ((first | lia | (refine neN ?_; (try dsimp only); lia) | (refine ltN ?_; (try dsimp only); lia) | (refine leN ?_; (try dsimp only); lia))))
  have hD0 : h₁.get? (I + 1) = some (listOf (List.toArray []) 0) := old _ _ (by ((first | lia | (refine neN ?_; (try dsimp only); lia) | (refine ltN ?_; (try dsimp only); lia) | (refine leN ?_; (try dsimp only); lia)))) (by rw [← hH, ← hDD]; exact Heap.get?_push_size _ rfl)
  have stI : St 0 h₁ := W.frame _ _ _ st0 fun b hb o e => old1 b o e
  have hgL : g.get? L = none := by
    cases q : g.get? L with
    | none => rfl
    | some o => exact absurd (Heap.lt_size q) (Nat.not_lt.mpr F.above)
  have loop := k I oL St h₁ _ W live hoL hLlt hnI old0 hgs hgn hD0 stI hgL ⟨hns₁, fun b o e => old0 b o (F.keep b o e), by have := leN F.above; (first | lia | (refine neN ?_; (try dsimp only); lia) | (refine ltN ?_; (try dsimp only); lia) | (refine leN ?_; (try dsimp only); lia))⟩
  exact codeAny_compStart_list (loop _ rfl) (W.self 0 _ _ _ stI (loop _ rfl))

theorem comp_walk {elt iter : PySem.Expr} {x : PySem.Str} {px : Pos} {ifs : List PySem.Expr} {scope : Scope} {cl : List (PySem.Str × Addr)} {pos : Pos} {xv : Value} {n : Nat} {P : Nat → Value → Prop} {Q : Value → Shared → Prop}
    (F : Fr g L s.heap m) (N : News g L s.heap news) (hh : A.handled = none) (hn : n ≤ 1000)
    (hcell : ∀ y ∈ scope.names, y.2 ≠ .cell) (hkind : scope.kind = .function) (hx : scope.names.lookup x = some .local)
    (S : Src prog w xv s.heap (srcO.map (·.1)) n P) (hs0 : ∀ p ∈ srcO, p ∈ news)
    (J : Nat → List Value → List (Addr × Obj) → Prop) (J0 : J 0 [] news)
    (turn : ∀ i v ys mC news' ext C s', i < n → P i v → Sm s s' → Fr g C s'.heap mC → mC x = some v → News g C s'.heap (ext ++ news') → (∀ p ∈ ext, ∀ q ∈ news', p.1 ≠ q.1) →
      (∀ p ∈ srcO, p ∈ news') → J i ys news' → ∀ (Z : Value → Shared → Prop) (Z0 : Shared → Prop), (∀ y s₄, CBack g C ext srcO (J (i + 1) (ys ++ [y])) s s₄ → Z y s₄) → (∀ s₃, CBack g C ext srcO (J (i + 1) ys) s s₃ → Z0 s₃) →
      wpAny (model prog w) A (testsOf ifs (compEnvC scope cl C env)) (fun ok s₃ => if ok = true then wpAny (model prog w) A (eval elt (compEnvC scope cl C env)) Z (fun _ _ => False) s₃ else Z0 s₃) (fun _ _ => False) s')
    (fin : ∀ D c ys news' s', Sm s s' → Fr g L s'.heap m → News g L s'.heap ((D, listOf (List.toArray ys) c) :: news') → (∀ q ∈ news', q.1 ≠ D) → (∀ p ∈ news, p.1 < D) → J n ys news' → Q (.ref D) s') :
    CompAt prog w A E (.ListComp elt [⟨.Name x px, iter, ifs, 0⟩] scope pos) scope cl env Q xv s := by
  refine comp_front F N hh hcell hkind S fun I oL St h₁ m₁ W live hoL hLlt hnI old0 hgs hgn hD0 stI hgL F₁ => ?_
  rintro s₃ rfl
  refine codeAny_compLoop_tests (CpI s g srcO J St n I 1 L oL) ?_ (n + 1)
    ⟨⟨rfl, rfl⟩, 0, _, [], 0, news, rfl, Nat.zero_le _, Nat.le_refl _, stI, F₁, ?_, fun q hq => ?_, hs0, J0⟩
  rotate_left
  · intro p hp
    rcases List.mem_cons.mp hp with rfl | hp
    · exact ⟨hD0, by ((first | lia | (refine neN ?_; (try dsimp only); lia) | (refine ltN ?_; (try dsimp only); lia) | (refine leN ?_; (try dsimp only); lia))), hgn _ (by ((first | lia | (refine neN ?_; (try dsimp only); lia) | (refine ltN ?_; (try dsimp only); lia) | (refine leN ?_; (try dsimp only); lia))))⟩
    · rcases List.mem_cons.mp hp with rfl | hp
      · exact ⟨old0 _ _ hoL, by ((first | lia | (refine neN ?_; (try dsimp only); lia) | (refine ltN ?_; (try dsimp only); lia) | (refine leN ?_; (try dsimp only); lia))), hgL⟩
      · exact ⟨old0 _ _ (N p hp).1, by have := hnI p hp; ((first | lia | (refine neN ?_; (try dsimp only); lia) | (refine ltN ?_; (try dsimp only); lia) | (refine leN ?_; (try dsimp only); lia))), (N p hp).2.2⟩
  · have := hnI q hq
    exact ⟨by ((first | lia | (refine neN ?_; (try dsimp only); lia) | (refine ltN ?_; (try dsimp only); lia) | (refine leN ?_; (try dsimp only); lia))), by ((first | lia | (refine neN ?_; (try dsimp only); lia) | (refine ltN ?_; (try dsimp only); lia) | (refine leN ?_; (try dsimp only); lia))), (N q hq).2.1⟩
  rintro k s' ⟨sm, i, mC, ys, c, news', rfl, hi, hyl, st, F', N', hn', hs', hJ⟩
  by_cases hlt : i < n
  · refine W.item i s' _ _ hlt st fun v h' tk hPv st' hk => ?_
    refine hide fun G0 hG0 => ?_
    obtain ⟨oI', hoI', _⟩ := live _ _ st'
    refine hG0 ?_
    try clear hG0 G0
    have hk' : ∀ (b : Nat) o, b ≠ I → s'.heap.get? b = some o → h'.get? b = some o := fun b o hb e => hk b o (by simpa using hb) e
    have F1 : Fr g (I + 2) h' mC := ⟨F'.ns.at' fun o e => hk' _ o (by ((first | lia | (refine neN ?_; (try dsimp only); lia) | (refine ltN ?_; (try dsimp only); lia) | (refine leN ?_; (try dsimp only); lia)))) e, fun b o e => hk' b o (by have := hgs b o e; ((first | lia | (refine neN ?_; (try dsimp only); lia) | (refine ltN ?_; (try dsimp only); lia) | (refine leN ?_; (try dsimp only); lia)))) (F'.keep b o e), F'.above⟩
    have N1 : News g (I + 2) h' ([(I + 1, listOf (List.toArray ys) c), (I, oI'), (L, oL)] ++ news') := fun p hp => by
      simp only [List.cons_append, List.nil_append, List.mem_cons] at hp
      rcases hp with rfl | rfl | rfl | hp
      · have := N' _ (.head _); exact ⟨hk' _ _ (by simp) this.1, this.2⟩
      · exact ⟨hoI', by show I ≠ I + 2; ((first | lia | (refine neN ?_; (try dsimp only); lia) | (refine ltN ?_; (try dsimp only); lia) | (refine leN ?_; (try dsimp only); lia))), hgn _ (Nat.le_refl _)⟩
      · have := N' _ (.tail _ (.head _)); exact ⟨hk' _ _ (by show L ≠ I; ((first | lia | (refine neN ?_; (try dsimp only); lia) | (refine ltN ?_; (try dsimp only); lia) | (refine leN ?_; (try dsimp only); lia)))) this.1, this.2⟩
      · have := N' _ (.tail _ (.tail _ hp)); exact ⟨hk' _ _ (hn' p hp).1 this.1, this.2⟩
    have hdis : ∀ p ∈ [(I + 1, listOf (List.toArray ys) c), (I, oI'), (L, oL)], ∀ q ∈ news', p.1 ≠ q.1 := by
      intro p hp q hq
      simp only [List.mem_cons, List.not_mem_nil, or_false] at hp
      rcases hp with rfl | rfl | rfl
      · exact Ne.symm (hn' q hq).2.1
      · exact Ne.symm (hn' q hq).1
      · exact Ne.symm (hn' q hq).2.2
    refine wpAny_assign_Name (wpAny_storeName_local (env := compEnvC scope cl (I + 2) env) (lookup_relabel_local hx) F1.ns (fun h₂ hn₂ hs₂ => ?_) (by simp [compEnvC, relabel, hkind]))
    refine wpAny_mono (turn i v ys _ news' _ (I + 2) { s' with heap := h₂, toks := tk + 1 } hlt hPv ⟨sm.1, sm.2⟩ (F1.set hn₂ hs₂) (if_pos rfl) (N1.set hs₂) hdis hs' hJ _ _ (fun _ _ x => x) fun _ x => x) (fun ok s₃ h₃ => ?_) fun _ _ e => e.elim
    have back : ∀ {ys' : List Value} {s₅ : Shared} {c' : Nat}, ys'.length ≤ i + 1 → Sm s s₅ → (∃ mC' news'', Fr g (I + 2) s₅.heap mC' ∧ News g (I + 2) s₅.heap ((I + 1, listOf (List.toArray ys') c') :: (I, oI') :: (L, oL) :: news'') ∧ (∀ q ∈ news'', q.1 ≠ I ∧ q.1 ≠ I + 1 ∧ q.1 ≠ L) ∧ (∀ p ∈ srcO, p ∈ news'') ∧ J (i + 1) ys' news'') →
        ∃ m, m < n + 1 - i ∧ CpI s g srcO J St n I 1 L oL m s₅ := by
      rintro ys' s₅ c' hl sm₅ ⟨mC', news'', F₅, N₅, hn₅, hs₅, hJ₅⟩
      refine ⟨n + 1 - (i + 1), by ((first | lia | (refine neN ?_; (try dsimp only); lia) | (refine ltN ?_; (try dsimp only); lia) | (refine leN ?_; (try dsimp only); lia))), sm₅, i + 1, mC', ys', c', news'', rfl, hlt, by lia, ?_, F₅, ?_, hn₅, hs₅, hJ₅⟩
      · refine W.frame _ _ _ st' fun b hb o e => ?_
        rcases List.mem_cons.mp hb with rfl | hb
        · rw [hoI'] at e; cases e; exact (N₅ _ (.tail _ (.head _))).1
        · obtain ⟨p, hp, rfl⟩ := List.mem_map.mp hb
          have e1 := (N1 p (List.mem_append_right _ (hs' p hp))).1
          rw [e1] at e; cases e
          exact (N₅ p (.tail _ (.tail _ (.tail _ (hs₅ p hp))))).1
      · refine nsub N₅ fun p hp => ?_
        rcases List.mem_cons.mp hp with rfl | hp
        · exact .head _
        · exact .tail _ (.tail _ hp)
    by_cases hok : ok = true
    · subst hok
      simp only [if_true] at h₃ ⊢
      refine wpAny_mono h₃ (fun y s₄ h₄ => ?_) fun _ _ e => e.elim
      refine hide fun G0 hG0 => ?_
      obtain ⟨sm₄, mC', news'', F₄, N₄, hd₄, hs₄, hJ₄⟩ := h₄
      refine hG0 ?_
      try clear hG0 G0
      have hA := N₄ _ (List.mem_append_left _ (.head _))
      refine wpAny_list_append_plain (hsz := by rw [List.size_toArray]; have : sizeLine = 16777216 := rfl; ((first | lia | (refine neN ?_; (try dsimp only); lia) | (refine ltN ?_; (try dsimp only); lia) | (refine leN ?_; (try dsimp only); lia)))) ⟨c, hA.1⟩ fun h₅ hl₅ hs₅ => ?_
      obtain ⟨c', hc'⟩ := hl₅
      rw [List.push_toArray] at hc'
      refine back (c' := c') (by simp; ((first | lia | (refine neN ?_; (try dsimp only); lia) | (refine ltN ?_; (try dsimp only); lia) | (refine leN ?_; (try dsimp only); lia)))) ⟨sm₄.1, sm₄.2⟩ ⟨mC', news'', ⟨F₄.ns.sameBut hs₅ (by ((first | lia | (refine neN ?_; (try dsimp only); lia) | (refine ltN ?_; (try dsimp only); lia) | (refine leN ?_; (try dsimp only); lia)))), fun b o e => hs₅.extBut b o (by have := hgs b o e; ((first | lia | (refine neN ?_; (try dsimp only); lia) | (refine ltN ?_; (try dsimp only); lia) | (refine leN ?_; (try dsimp only); lia)))) (F₄.keep b o e), F₄.above⟩, ?_, fun q hq => ⟨Ne.symm (hd₄ (I, oI') (by simp) q hq), Ne.symm (hd₄ (I + 1, listOf (List.toArray ys) c) (by simp) q hq), Ne.symm (hd₄ (L, oL) (by simp) q hq)⟩, hs₄, hJ₄⟩
      intro p hp
      simp only [List.mem_cons] at hp
      rcases hp with rfl | rfl | rfl | hp
      · exact ⟨hc', hA.2⟩
      · have := N₄ (I, oI') (by simp); exact ⟨hs₅.extBut _ _ (by show I ≠ I + 1; ((first | lia | (refine neN ?_; (try dsimp only); lia) | (refine ltN ?_; (try dsimp only); lia) | (refine leN ?_; (try dsimp only); lia)))) this.1, this.2⟩
      · have := N₄ (L, oL) (by simp); exact ⟨hs₅.extBut _ _ (by show L ≠ I + 1; ((first | lia | (refine neN ?_; (try dsimp only); lia) | (refine ltN ?_; (try dsimp only); lia) | (refine leN ?_; (try dsimp only); lia)))) this.1, this.2⟩
      · have := N₄ p (List.mem_append_right _ hp); exact ⟨hs₅.extBut _ _ (Ne.symm (hd₄ (I + 1, listOf (List.toArray ys) c) (by simp) p hp)) this.1, this.2⟩
    · simp only [if_neg hok] at h₃ ⊢
      refine hide fun G0 hG0 => ?_
      obtain ⟨sm₄, mC', news'', F₄, N₄, hd₄, hs₄, hJ₄⟩ := h₃
      refine hG0 ?_
      try clear hG0 G0
      exact back (c' := c) (by ((first | lia | (refine neN ?_; (try dsimp only); lia) | (refine ltN ?_; (try dsimp only); lia) | (refine leN ?_; (try dsimp only); lia)))) sm₄ ⟨mC', news'', F₄, N₄, fun q hq => ⟨Ne.symm (hd₄ (I, oI') (by simp) q hq), Ne.symm (hd₄ (I + 1, listOf (List.toArray ys) c) (by simp) q hq), Ne.symm (hd₄ (L, oL) (by simp) q hq)⟩, hs₄, hJ₄⟩
  · have hin : i = n := by ((first | lia | (refine neN ?_; (try dsimp only); lia) | (refine ltN ?_; (try dsimp only); lia) | (refine leN ?_; (try dsimp only); lia)))
    subst hin
    refine W.done s' _ _ st fun h' tk hk => ?_
    have hk' : ∀ (b : Nat) o, b ≠ I → s'.heap.get? b = some o → h'.get? b = some o := fun b o hb e => hk b o (by simpa using hb) e
    refine ⟨mC, F'.ns.at' fun o e => hk' _ o (by ((first | lia | (refine neN ?_; (try dsimp only); lia) | (refine ltN ?_; (try dsimp only); lia) | (refine leN ?_; (try dsimp only); lia)))) e, fun h'' hs'' => ?_⟩
    have up : ∀ (b : Nat) o, b ≠ I → b ≠ I + 2 → s'.heap.get? b = some o → h''.get? b = some o := fun b o h1 h2 e => hs''.extBut b o h2 (hk' b o h1 e)
    have hL2 : h''.get? L = some oL := up _ _ (by ((first | lia | (refine neN ?_; (try dsimp only); lia) | (refine ltN ?_; (try dsimp only); lia) | (refine leN ?_; (try dsimp only); lia)))) (by ((first | lia | (refine neN ?_; (try dsimp only); lia) | (refine ltN ?_; (try dsimp only); lia) | (refine leN ?_; (try dsimp only); lia)))) (N' _ (.tail _ (.head _))).1
    refine fin (I + 1) c ys news' _ ⟨sm.1, sm.2⟩ ⟨F.ns.at' fun o e => by rw [hoL] at e; cases e; exact hL2, fun b o e => up b o (by have := hgs b o e; ((first | lia | (refine neN ?_; (try dsimp only); lia) | (refine ltN ?_; (try dsimp only); lia) | (refine leN ?_; (try dsimp only); lia)))) (by have := hgs b o e; ((first | lia | (refine neN ?_; (try dsimp only); lia) | (refine ltN ?_; (try dsimp only); lia) | (refine leN ?_; (try dsimp only); lia)))) (F'.keep b o e), F.above⟩ (fun p hp => ?_)
      (fun q hq => (hn' q hq).2.1) (fun p hp => by have := hnI p hp; ((first | lia | (refine neN ?_; (try dsimp only); lia) | (refine ltN ?_; (try dsimp only); lia) | (refine leN ?_; (try dsimp only); lia)))) hJ
    rcases List.mem_cons.mp hp with rfl | hp
    · exact ⟨up _ _ (by show I + 1 ≠ I; ((first | lia | (refine neN ?_; (try dsimp only); lia) | (refine ltN ?_; (try dsimp only); lia) | (refine leN ?_; (try dsimp only); lia)))) (by show I + 1 ≠ I + 2; ((first | lia | (refine neN ?_; (try dsimp only); lia) | (refine ltN ?_; (try dsimp only); lia) | (refine leN ?_; (try dsimp only); lia)))) (N' _ (.head _)).1, by show I + 1 ≠ L; ((first | lia | (refine neN ?_; (try dsimp only); lia) | (refine ltN ?_; (try dsimp only); lia) | (refine leN ?_; (try dsimp only); lia))), (N' _ (.head _)).2.2⟩
    · have := N' p (.tail _ (.tail _ hp)); exact ⟨up _ _ (hn' p hp).1 this.2.1 this.1, (hn' p hp).2.2, this.2.2⟩
end
theorem compTurn_out (elt t1 i1 t2 i2 : PySem.Expr) (scope : Scope) (pos : Pos) (it acc : Value) (env : Env) :
    compTurn (.ListComp elt [⟨t1, i1, [], 0⟩, ⟨t2, i2, [], 0⟩] scope pos) 0 it acc env = (do
      standAt i1.pos
      match ← pyNext it with
      | none => pure (.done .next)
      | some v =>
        letOwnedTupleGo t1 it v
        assign t1 env v
        let x ← eval i2 env
        standAt i2.pos
        let x ← foldedSetIterable i2 env x
        let _ ← runOwn (.compStart (.ListComp elt [⟨t1, i1, [], 0⟩, ⟨t2, i2, [], 0⟩] scope pos) 1 (← holding [x] (pyIter x)) acc env) env
        again (.compLoop (.ListComp elt [⟨t1, i1, [], 0⟩, ⟨t2, i2, [], 0⟩] scope pos) 0 it acc env)) := by rfl
theorem compTurn_in (elt t1 i1 t2 i2 : PySem.Expr) (scope : Scope) (pos : Pos) (it acc : Value) (env : Env) :
    compTurn (.ListComp elt [⟨t1, i1, [], 0⟩, ⟨t2, i2, [], 0⟩] scope pos) 1 it acc env = (do
      standAt i2.pos
      match ← pyNext it with
      | none => pure (.done .next)
      | some v =>
        letOwnedTupleGo t2 it v
        assign t2 env v
        (do let _ ← call (.builtin "list.append") [acc, ← eval elt env])
        again (.compLoop (.ListComp elt [⟨t1, i1, [], 0⟩, ⟨t2, i2, [], 0⟩] scope pos) 1 it acc env)) := by rfl

section
variable {prog : Program} {w : World} {A : Around} {s : Shared} {R : Result → Shared → Prop} {elt t1 i1 t2 i2 : PySem.Expr} {scope : Scope} {pos : Pos} {it acc : Value} {env : Env}

theorem fl_any {α : Type} {t : Sem α} {Q : α → Shared → Prop} {E : Value → Shared → Prop} (h : wpAny (model prog w) A t Q (fun _ _ => False) s) : wpAny (model prog w) A t Q E s :=
  wpAny_mono h (fun _ _ x => x) fun _ _ e => e.elim

theorem codeAny_out (I : Nat → Shared → Prop)
    (turn : ∀ n s, I n s → wpAny (model prog w) A (pyNext it) (fun r s₁ => match r with
      | none => R (.ok .next) s₁
      | some v => wpAny (model prog w) A (assign t1 env v) (fun _ s₂ => wpAny (model prog w) A (eval i2 env) (fun x s₃ => foldedSetIterable i2 env x = pure x ∧
          wpAny (model prog w) A (pyIter x) (fun it' s₄ => codeAny (model prog w) A (.compStart (.ListComp elt [⟨t1, i1, [], 0⟩, ⟨t2, i2, [], 0⟩] scope pos) 1 it' acc env)
            (fun r s₅ => match r with | .ok _ => ∃ m, m < n ∧ I m s₅ | .error _ => False) s₄) (fun _ _ => False) s₃) (fun _ _ => False) s₂) (fun _ _ => False) s₁) (fun _ _ => False) s)
    (n : Nat) (h : I n s) (ht : ∀ v, letOwnedTupleGo t1 it v = pure () := by intro _; rfl) :
    codeAny (model prog w) A (.compLoop (.ListComp elt [⟨t1, i1, [], 0⟩, ⟨t2, i2, [], 0⟩] scope pos) 0 it acc env) R s := by
  refine codeAny_loop rfl I (fun n s hI => ?_) n h
  show wpAny _ A ((compTurn (.ListComp elt [⟨t1, i1, [], 0⟩, ⟨t2, i2, [], 0⟩] scope pos) 0 it acc env).onRaise (fun x => do noteFrame x env; theTreesLotGoes x)) _ _ s
  refine wpAny_noted (fl_any ?_)
  rw [compTurn_out]
  refine wpAny_bind (wpAny_standAt (wpAny_bind (wpAny_mono (turn n s hI) (fun r s₁ h₁ => ?_) fun _ _ h' => h')))
  cases r with
  | none => exact wpAny_pure h₁
  | some v =>
    refine wpAny_bind (wpAny_of_eq (ht v) ?_)
    refine wpAny_bind (wpAny_mono h₁ (fun _ s₂ h₂ => wpAny_bind (wpAny_mono h₂ (fun x s₃ h₃ => ?_) fun _ _ h' => h')) fun _ _ h' => h')
    refine wpAny_bind (wpAny_standAt (wpAny_bind (wpAny_of_eq h₃.1 ?_)))
    refine wpAny_bind (wpAny_holding (wpAny_mono h₃.2 (fun it' s₄ h₄ => ?_) fun _ _ h' => h'))
    refine wpAny_bind (wpAny_runOwn (codeAny_mono h₄ fun r s₅ h₅ => ?_))
    cases r with
    | error e => exact h₅.elim
    | ok f => exact wpAny_pure ⟨rfl, h₅⟩

theorem codeAny_in (I : Nat → Shared → Prop)
    (turn : ∀ n s, I n s → wpAny (model prog w) A (pyNext it) (fun r s₁ => match r with
      | none => R (.ok .next) s₁
      | some v => wpAny (model prog w) A (assign t2 env v) (fun _ s₂ => wpAny (model prog w) A (eval elt env) (fun x s₃ =>
          wpAny (model prog w) A (call (.builtin "list.append") [acc, x]) (fun _ s₅ => ∃ m, m < n ∧ I m s₅) (fun _ _ => False) s₃) (fun _ _ => False) s₂) (fun _ _ => False) s₁) (fun _ _ => False) s)
    (n : Nat) (h : I n s) (ht : ∀ v, letOwnedTupleGo t2 it v = pure () := by intro _; rfl) :
    codeAny (model prog w) A (.compLoop (.ListComp elt [⟨t1, i1, [], 0⟩, ⟨t2, i2, [], 0⟩] scope pos) 1 it acc env) R s := by
  refine codeAny_loop rfl I (fun n s hI => ?_) n h
  show wpAny _ A ((compTurn (.ListComp elt [⟨t1, i1, [], 0⟩, ⟨t2, i2, [], 0⟩] scope pos) 1 it acc env).onRaise (fun x => do noteFrame x env; theTreesLotGoes x)) _ _ s
  refine wpAny_noted (fl_any ?_)
  rw [compTurn_in]
  refine wpAny_bind (wpAny_standAt (wpAny_bind (wpAny_mono (turn n s hI) (fun r s₁ h₁ => ?_) fun _ _ h' => h')))
  cases r with
  | none => exact wpAny_pure h₁
  | some v =>
    refine wpAny_bind (wpAny_of_eq (ht v) ?_)
    refine wpAny_bind (wpAny_mono h₁ (fun _ s₂ h₂ => wpAny_bind (wpAny_bind (wpAny_mono h₂ (fun x s₃ h₃ => wpAny_bind (wpAny_mono h₃ (fun _ s₅ h₅ => wpAny_pure (wpAny_pure ⟨rfl, h₅⟩)) fun _ _ h' => h')) fun _ _ h' => h'))) fun _ _ h' => h')

theorem codeAny_start_in
    (h0 : codeAny (model prog w) A (.compLoop (.ListComp elt [⟨t1, i1, [], 0⟩, ⟨t2, i2, [], 0⟩] scope pos) 1 it acc env) R s)
    (h : wpAny (model prog w) A (pyIter it) (fun it' s' => codeAny (model prog w) A (.compLoop (.ListComp elt [⟨t1, i1, [], 0⟩, ⟨t2, i2, [], 0⟩] scope pos) 1 it' acc env) R s') (fun _ _ => False) s) :
    codeAny (model prog w) A (.compStart (.ListComp elt [⟨t1, i1, [], 0⟩, ⟨t2, i2, [], 0⟩] scope pos) 1 it acc env) R s := by
  refine codeAny_of_tree ?_
  show wpAny _ _ ((compStart (.ListComp elt [⟨t1, i1, [], 0⟩, ⟨t2, i2, [], 0⟩] scope pos) 1 it acc env).onRaise (fun x => do noteFrame x env; standAt theWindowsPlace)) _ _ s
  refine wpAny_onRaise (fl_any ?_)
  unfold compStart
  show wpAny _ _ (ask >>= _) _ _ s
  refine wpAny_bind (wpAny_askSetting (wpAny_ite ?_))
  split
  · first
      | exact wpAny_bind (wpAny_pure (wpAny_pure (And.intro rfl h0)))
      | exact wpAny_pure (And.intro rfl h0)
  · refine wpAny_bind (wpAny_rule (wpAny_bind (wpAny_standAt ?_)))
    refine wpAny_bind (wpAny_mono h (fun it' s' h' => ?_) fun _ _ e => e)
    exact wpAny_pure (And.intro rfl h')
end
section
variable {prog : Program} {w : World} {A : Around} {s : Shared} {g : PySem.Heap} {L : Addr} {m : PySem.Str → Option Value} {news srcO : List (Addr × Obj)} {env : Env} {E : Value → Shared → Prop}

/-- the inner loop of a comprehension with two fors, its element the inner name -/
theorem comp_inner {i1 i2 t1 : PySem.Expr} {x2 : PySem.Str} {p2 pe : Pos} {scope : Scope} {pos : Pos} {cenv : Env} {C D : Nat} {mC : PySem.Str → Option Value} {ys : List Value} {c : Nat} {news : List (Addr × Obj)} {xv : Value} {items : Array Value} {srcO : List (Addr × Obj)} {R : Result → Shared → Prop}
    (hC : cenv.locals = C) (hkind : cenv.scope.kind = .function) (hx : cenv.kindOf x2 = some .local) (hdb : (x2 == ("__debug__" : PySem.Str)) = false) (hh : A.handled = none)
    (F : Fr g C s.heap mC) (N : News g C s.heap ((D, listOf (List.toArray ys) c) :: news)) (hDn : ∀ q ∈ news, q.1 ≠ D)
    (S : Src prog w xv s.heap (srcO.map (·.1)) items.size (fun i v => items[i]? = some v)) (hs0 : ∀ p ∈ srcO, p ∈ news) (hz : ys.length + items.size ≤ 2000000)
    (hR : ∀ c' mC' s', Sm s s' → Fr g C s'.heap mC' → News g C s'.heap ((D, listOf (List.toArray (ys ++ items.toList)) c') :: news) → R (.ok .next) s') :
    wpAny (model prog w) A (pyIter xv) (fun it' s₄ => codeAny (model prog w) A (.compStart (.ListComp (.Name x2 pe) [⟨t1, i1, [], 0⟩, ⟨.Name x2 p2, i2, [], 0⟩] scope pos) 1 it' (.ref D) cenv) R s₄) (fun _ _ => False) s := by
  subst hC
  refine S.go hh rfl fun oI St W st0 live => ?_
  have W := W A hh
  generalize hI : s.heap.objs.size = I at *
  have hnI : ∀ p ∈ ((D, listOf (List.toArray ys) c) :: news), @LT.lt Nat _ p.1 I := fun p hp => hI ▸ Heap.lt_size (N p hp).1
  have hDlt : @LT.lt Nat _ D I := hnI _ (.head _)
  have hgs : ∀ (b : Nat) o, g.get? b = some o → b < I := fun b o e => hI ▸ Heap.lt_size (F.keep _ _ e)
  have hCI : @LT.lt Nat _ cenv.locals I := hI ▸ F.ns.lt
  have loop : ∀ s₃ : Shared, s₃ = { s with heap := s.heap.push oI } →
      codeAny (model prog w) A (.compLoop (.ListComp (.Name x2 pe) [⟨t1, i1, [], 0⟩, ⟨.Name x2 p2, i2, [], 0⟩] scope pos) 1 (.ref I) (.ref D) cenv) R s₃ := by
    rintro s₃ rfl
    refine codeAny_in (fun k s' => Sm s s' ∧ ∃ i mC c, k = items.size + 1 - i ∧ i ≤ items.size ∧ St i s'.heap ∧ Fr g cenv.locals s'.heap mC ∧
        News g cenv.locals s'.heap ((D, listOf (List.toArray (ys ++ items.toList.take i)) c) :: news)) ?_ (items.size + 1)
      ⟨⟨rfl, rfl⟩, 0, mC, c, rfl, Nat.zero_le _, st0, F.push _, fun p hp => ⟨Heap.get?_push_of_some _ (N p (by simpa using hp)).1, (N p (by simpa using hp)).2⟩⟩
    rintro k s' ⟨sm, i, mC, c, rfl, hi, st, F', N'⟩
    by_cases hlt : i < items.size
    · refine W.item i s' _ _ hlt st fun v h' tk hPv st' hk => ?_
      refine hide fun G0 hG0 => ?_
      obtain ⟨oI', hoI', _⟩ := live _ _ st'
      refine hG0 ?_
      try clear hG0 G0
      have hk' : ∀ (b : Nat) o, b ≠ I → s'.heap.get? b = some o → h'.get? b = some o := fun b o hb e => hk b o (by simpa using hb) e
      have F1 : Fr g cenv.locals h' mC := ⟨F'.ns.at' fun o e => hk' _ o (by (first | lia | (refine neN ?_; (try dsimp only); lia) | (refine ltN ?_; (try dsimp only); lia) | (refine leN ?_; (try dsimp only); lia))) e, fun b o e => hk' b o (by have := hgs b o e; (first | lia | (refine neN ?_; (try dsimp only); lia) | (refine ltN ?_; (try dsimp only); lia) | (refine leN ?_; (try dsimp only); lia))) (F'.keep b o e), F'.above⟩
      have N1 : News g cenv.locals h' ((D, listOf (List.toArray (ys ++ items.toList.take i)) c) :: news) := fun p hp => by
        have hlt' : @LT.lt Nat _ p.1 I := by
          rcases List.mem_cons.mp hp with rfl | hp'
          · exact hDlt
          · exact hnI p (.tail _ hp')
        exact ⟨hk' _ _ (by (first | lia | (refine neN ?_; (try dsimp only); lia) | (refine ltN ?_; (try dsimp only); lia) | (refine leN ?_; (try dsimp only); lia))) (N' p hp).1, (N' p hp).2⟩
      refine wpAny_assign_Name (wpAny_storeName_local (env := cenv) hx F1.ns (fun h₂ hn₂ hs₂ => ?_) (by rw [hkind]; rfl))
      have F2 := F1.set hn₂ hs₂
      have N2 := N1.set hs₂
      refine wpAny_Name (wpAny_loadName_local hkind hx hn₂ (if_pos rfl) ?_) hdb
      have hA := N2 _ (.head _)
      refine wpAny_list_append_plain (hsz := by rw [List.size_toArray, List.length_append, List.length_take]; have : sizeLine = 16777216 := rfl; lia) ⟨c, hA.1⟩ fun h₅ hl₅ hs₅ => ?_
      obtain ⟨c', hc'⟩ := hl₅
      rw [List.push_toArray] at hc'
      have hv : items.toList.take (i + 1) = items.toList.take i ++ [v] := by
        rw [List.take_add_one]; rw [show items.toList[i]? = some v by simpa using hPv]; rfl
      have hDI : @LT.lt Nat _ D I := hDlt
      have hDg : g.get? D = none := (N _ (.head _)).2.2
      refine ⟨items.size + 1 - (i + 1), by lia, ⟨sm.1, sm.2⟩, i + 1, _, c', rfl, hlt, ?_, ⟨F2.ns.sameBut hs₅ (Ne.symm hA.2.1), fun b o e => hs₅.extBut b o (by rintro rfl; rw [hDg] at e; cases e) (F2.keep b o e), F2.above⟩, ?_⟩
      · refine W.frame _ _ _ st' fun b hb o e => ?_
        rcases List.mem_cons.mp hb with rfl | hb
        · exact hs₅.extBut _ _ (by (first | lia | (refine neN ?_; (try dsimp only); lia) | (refine ltN ?_; (try dsimp only); lia) | (refine leN ?_; (try dsimp only); lia))) (hs₂.extBut _ _ (by (first | lia | (refine neN ?_; (try dsimp only); lia) | (refine ltN ?_; (try dsimp only); lia) | (refine leN ?_; (try dsimp only); lia))) e)
        · obtain ⟨p, hp, rfl⟩ := List.mem_map.mp hb
          have e1 := N2 p (.tail _ (hs0 p hp))
          exact hs₅.extBut _ _ (hDn p (hs0 p hp)) (hs₂.extBut _ _ e1.2.1 e)
      · rw [hv, ← List.append_assoc]
        intro p hp
        rcases List.mem_cons.mp hp with rfl | hp
        · exact ⟨hc', hA.2⟩
        · have := N2 p (.tail _ hp); exact ⟨hs₅.extBut _ _ (hDn p hp) this.1, this.2⟩
    · have hin : i = items.size := by lia
      subst hin
      refine W.done s' _ _ st fun h' tk hk => ?_
      have hk' : ∀ (b : Nat) o, b ≠ I → s'.heap.get? b = some o → h'.get? b = some o := fun b o hb e => hk b o (by simpa using hb) e
      have e : items.toList.take items.size = items.toList := List.take_of_length_le (by simp)
      rw [e] at N'
      refine hR c mC _ ⟨sm.1, sm.2⟩ ⟨F'.ns.at' fun o e => hk' _ o (by (first | lia | (refine neN ?_; (try dsimp only); lia) | (refine ltN ?_; (try dsimp only); lia) | (refine leN ?_; (try dsimp only); lia))) e, fun b o e => hk' b o (by have := hgs b o e; (first | lia | (refine neN ?_; (try dsimp only); lia) | (refine ltN ?_; (try dsimp only); lia) | (refine leN ?_; (try dsimp only); lia))) (F'.keep b o e), F'.above⟩ fun p hp => ?_
      have hlt' : @LT.lt Nat _ p.1 I := by
        rcases List.mem_cons.mp hp with rfl | hp'
        · exact hDlt
        · exact hnI p (.tail _ hp')
      exact ⟨hk' _ _ (by (first | lia | (refine neN ?_; (try dsimp only); lia) | (refine ltN ?_; (try dsimp only); lia) | (refine leN ?_; (try dsimp only); lia))) (N' p hp).1, (N' p hp).2⟩
  exact codeAny_start_in (loop _ rfl) (W.self 0 _ _ _ st0 (loop _ rfl))

/-- the inner source of a comprehension's turn has come -/
noncomputable def CMid (prog : Program) (w : World) (g : PySem.Heap) (C : Addr) (ext srcO : List (Addr × Obj)) (i2 : PySem.Expr) (cenv : Env) (J : List Value → List (Addr × Obj) → Prop) (s : Shared) (xv2 : Value) (s₃ : Shared) : Prop :=
  foldedSetIterable i2 cenv xv2 = pure xv2 ∧ ∃ (items : Array Value) (srcO2 : List (Addr × Obj)), Src prog w xv2 s₃.heap (srcO2.map (·.1)) items.size (fun i v => items[i]? = some v) ∧ items.size ≤ 1000 ∧
    CBack g C ext srcO (fun news'' => (∀ p ∈ srcO2, p ∈ news'') ∧ J items.toList news'') s s₃

theorem comp2_walk {i1 i2 : PySem.Expr} {x1 x2 : PySem.Str} {p1 p2 pe : Pos} {scope : Scope} {cl : List (PySem.Str × Addr)} {pos : Pos} {xv : Value} {n : Nat} {P : Nat → Value → Prop} {Q : Value → Shared → Prop}
    (F : Fr g L s.heap m) (N : News g L s.heap news) (hh : A.handled = none) (hn : n ≤ 1000)
    (hcell : ∀ y ∈ scope.names, y.2 ≠ .cell) (hkind : scope.kind = .function) (hx1 : scope.names.lookup x1 = some .local) (hx2 : scope.names.lookup x2 = some .local) (hdb : (x2 == ("__debug__" : PySem.Str)) = false)
    (S : Src prog w xv s.heap (srcO.map (·.1)) n P) (hs0 : ∀ p ∈ srcO, p ∈ news)
    (J : Nat → List Value → List (Addr × Obj) → Prop) (J0 : J 0 [] news)
    (turn : ∀ i v ys mC news' ext C s', i < n → P i v → Sm s s' → Fr g C s'.heap mC → mC x1 = some v → News g C s'.heap (ext ++ news') → (∀ p ∈ ext, ∀ q ∈ news', p.1 ≠ q.1) →
      (∀ p ∈ srcO, p ∈ news') → J i ys news' → ∀ Z : Value → Shared → Prop, (∀ x s₃, CMid prog w g C ext srcO i2 (compEnvC scope cl C env) (fun vs => J (i + 1) (ys ++ vs)) s x s₃ → Z x s₃) →
      wpAny (model prog w) A (eval i2 (compEnvC scope cl C env)) Z (fun _ _ => False) s')
    (fin : ∀ D c ys news' s', Sm s s' → Fr g L s'.heap m → News g L s'.heap ((D, listOf (List.toArray ys) c) :: news') → (∀ q ∈ news', q.1 ≠ D) → (∀ p ∈ news, p.1 < D) → J n ys news' → Q (.ref D) s') :
    CompAt prog w A E (.ListComp (.Name x2 pe) [⟨.Name x1 p1, i1, [], 0⟩, ⟨.Name x2 p2, i2, [], 0⟩] scope pos) scope cl env Q xv s := by
  refine comp_front F N hh hcell hkind S fun I oL St h₁ m₁ W live hoL hLlt hnI old0 hgs hgn hD0 stI hgL F₁ => ?_
  rintro s₃ rfl
  refine codeAny_out (CpI s g srcO J St n I 1000 L oL) ?_ (n + 1)
    ⟨⟨rfl, rfl⟩, 0, _, [], 0, news, rfl, Nat.zero_le _, Nat.zero_le _, stI, F₁, ?_, fun q hq => ?_, hs0, J0⟩
  rotate_left
  · intro p hp
    rcases List.mem_cons.mp hp with rfl | hp
    · exact ⟨hD0, by ((first | lia | (refine neN ?_; (try dsimp only); lia) | (refine ltN ?_; (try dsimp only); lia) | (refine leN ?_; (try dsimp only); lia))), hgn _ (by (first | lia | (refine neN ?_; (try dsimp only); lia) | (refine ltN ?_; (try dsimp only); lia) | (refine leN ?_; (try dsimp only); lia)))⟩
    · rcases List.mem_cons.mp hp with rfl | hp
      · exact ⟨old0 _ _ hoL, by ((first | lia | (refine neN ?_; (try dsimp only); lia) | (refine ltN ?_; (try dsimp only); lia) | (refine leN ?_; (try dsimp only); lia))), hgL⟩
      · exact ⟨old0 _ _ (N p hp).1, by have := hnI p hp; ((first | lia | (refine neN ?_; (try dsimp only); lia) | (refine ltN ?_; (try dsimp only); lia) | (refine leN ?_; (try dsimp only); lia))), (N p hp).2.2⟩
  · have := hnI q hq
    exact ⟨by ((first | lia | (refine neN ?_; (try dsimp only); lia) | (refine ltN ?_; (try dsimp only); lia) | (refine leN ?_; (try dsimp only); lia))), by ((first | lia | (refine neN ?_; (try dsimp only); lia) | (refine ltN ?_; (try dsimp only); lia) | (refine leN ?_; (try dsimp only); lia))), (N q hq).2.1⟩
  rintro k s' ⟨sm, i, mC, ys, c, news', rfl, hi, hyl, st, F', N', hn', hs', hJ⟩
  by_cases hlt : i < n
  · refine W.item i s' _ _ hlt st fun v h' tk hPv st' hk => ?_
    refine hide fun G0 hG0 => ?_
    obtain ⟨oI', hoI', _⟩ := live _ _ st'
    refine hG0 ?_
    try clear hG0 G0
    have hk' : ∀ (b : Nat) o, b ≠ I → s'.heap.get? b = some o → h'.get? b = some o := fun b o hb e => hk b o (by simpa using hb) e
    have F1 : Fr g (I + 2) h' mC := ⟨F'.ns.at' fun o e => hk' _ o (by (first | lia | (refine neN ?_; (try dsimp only); lia) | (refine ltN ?_; (try dsimp only); lia) | (refine leN ?_; (try dsimp only); lia))) e, fun b o e => hk' b o (by have := hgs b o e; (first | lia | (refine neN ?_; (try dsimp only); lia) | (refine ltN ?_; (try dsimp only); lia) | (refine leN ?_; (try dsimp only); lia))) (F'.keep b o e), F'.above⟩
    have N1 : News g (I + 2) h' ([(I + 1, listOf (List.toArray ys) c), (I, oI'), (L, oL)] ++ news') := fun p hp => by
      simp only [List.cons_append, List.nil_append, List.mem_cons] at hp
      rcases hp with rfl | rfl | rfl | hp
      · have := N' _ (.head _); exact ⟨hk' _ _ (by simp) this.1, this.2⟩
      · exact ⟨hoI', by show I ≠ I + 2; lia, hgn _ (Nat.le_refl _)⟩
      · have := N' _ (.tail _ (.head _)); exact ⟨hk' _ _ (by show L ≠ I; ((first | lia | (refine neN ?_; (try dsimp only); lia) | (refine ltN ?_; (try dsimp only); lia) | (refine leN ?_; (try dsimp only); lia)))) this.1, this.2⟩
      · have := N' _ (.tail _ (.tail _ hp)); exact ⟨hk' _ _ (hn' p hp).1 this.1, this.2⟩
    have hdis : ∀ p ∈ [(I + 1, listOf (List.toArray ys) c), (I, oI'), (L, oL)], ∀ q ∈ news', p.1 ≠ q.1 := by
      intro p hp q hq
      simp only [List.mem_cons, List.not_mem_nil, or_false] at hp
      rcases hp with rfl | rfl | rfl
      · exact Ne.symm (hn' q hq).2.1
      · exact Ne.symm (hn' q hq).1
      · exact Ne.symm (hn' q hq).2.2
    refine wpAny_assign_Name (wpAny_storeName_local (env := compEnvC scope cl (I + 2) env) (lookup_relabel_local hx1) F1.ns (fun h₂ hn₂ hs₂ => ?_) (by simp [compEnvC, relabel, hkind]))
    refine wpAny_mono (turn i v ys _ news' _ (I + 2) { s' with heap := h₂, toks := tk + 1 } hlt hPv ⟨sm.1, sm.2⟩ (F1.set hn₂ hs₂) (if_pos rfl) (N1.set hs₂) hdis hs' hJ _ fun _ _ x => x) (fun xv2 s₃ h₃ => ?_) fun _ _ e => e.elim
    refine hide fun G0 hG0 => ?_
    obtain ⟨hfold, items, srcO2, S2, hz2, sm₃, mC₃, news₃, F₃, N₃, hd₃, hs₃, hs2₃, hJ₃⟩ := h₃
    refine hG0 ?_
    try clear hG0 G0
    refine ⟨hfold, ?_⟩
    refine comp_inner (srcO := srcO2) (C := I + 2) (D := I + 1) (news := (I, oI') :: (L, oL) :: news₃) (ys := ys) (c := c) rfl (by simp [compEnvC, relabel, hkind]) (lookup_relabel_local hx2) hdb hh F₃ N₃ (fun q hq => ?_) S2 (fun p hp => .tail _ (.tail _ (hs2₃ p hp))) (by lia)
      fun c' mC' s₅ sm₅ F₅ N₅ => ?_
    · rcases List.mem_cons.mp hq with rfl | hq
      · show I ≠ I + 1; lia
      · rcases List.mem_cons.mp hq with rfl | hq
        · show L ≠ I + 1; ((first | lia | (refine neN ?_; (try dsimp only); lia) | (refine ltN ?_; (try dsimp only); lia) | (refine leN ?_; (try dsimp only); lia)))
        · exact Ne.symm (hd₃ (I + 1, listOf (List.toArray ys) c) (by simp) q hq)
    · refine ⟨n + 1 - (i + 1), by lia, ⟨sm₅.1.trans sm₃.1, sm₅.2.trans sm₃.2⟩, i + 1, mC', ys ++ items.toList, c', news₃, rfl, hlt, by simp only [List.length_append, Array.length_toList]; clear hd₃ hs₃ hs2₃ N₅ N₃ F₅ F₃; have hz3 : items.size ≤ 1000 := hz2; lia, ?_, F₅, ?_, fun q hq => ⟨Ne.symm (hd₃ (I, oI') (by simp) q hq), Ne.symm (hd₃ (I + 1, listOf (List.toArray ys) c) (by simp) q hq), Ne.symm (hd₃ (L, oL) (by simp) q hq)⟩, hs₃, hJ₃⟩
      · refine W.frame _ _ _ st' fun b hb o e => ?_
        rcases List.mem_cons.mp hb with rfl | hb
        · rw [hoI'] at e; cases e; exact (N₅ _ (.tail _ (.head _))).1
        · obtain ⟨p, hp, rfl⟩ := List.mem_map.mp hb
          have e1 := (N1 p (List.mem_append_right _ (hs' p hp))).1
          rw [e1] at e; cases e
          exact (N₅ p (.tail _ (.tail _ (.tail _ (hs₃ p hp))))).1
      · refine nsub N₅ fun p hp => ?_
        rcases List.mem_cons.mp hp with rfl | hp
        · exact .head _
        · exact .tail _ (.tail _ hp)
  · have hin : i = n := by lia
    subst hin
    refine W.done s' _ _ st fun h' tk hk => ?_
    have hk' : ∀ (b : Nat) o, b ≠ I → s'.heap.get? b = some o → h'.get? b = some o := fun b o hb e => hk b o (by simpa using hb) e
    refine ⟨mC, F'.ns.at' fun o e => hk' _ o (by (first | lia | (refine neN ?_; (try dsimp only); lia) | (refine ltN ?_; (try dsimp only); lia) | (refine leN ?_; (try dsimp only); lia))) e, fun h'' hs'' => ?_⟩
    have up : ∀ (b : Nat) o, b ≠ I → b ≠ I + 2 → s'.heap.get? b = some o → h''.get? b = some o := fun b o h1 h2 e => hs''.extBut b o h2 (hk' b o h1 e)
    have hL2 : h''.get? L = some oL := up _ _ (by (first | lia | (refine neN ?_; (try dsimp only); lia) | (refine ltN ?_; (try dsimp only); lia) | (refine leN ?_; (try dsimp only); lia))) (by (first | lia | (refine neN ?_; (try dsimp only); lia) | (refine ltN ?_; (try dsimp only); lia) | (refine leN ?_; (try dsimp only); lia))) (N' _ (.tail _ (.head _))).1
    refine fin (I + 1) c ys news' _ ⟨sm.1, sm.2⟩ ⟨F.ns.at' fun o e => by rw [hoL] at e; cases e; exact hL2, fun b o e => up b o (by have := hgs b o e; (first | lia | (refine neN ?_; (try dsimp only); lia) | (refine ltN ?_; (try dsimp only); lia) | (refine leN ?_; (try dsimp only); lia))) (by have := hgs b o e; (first | lia | (refine neN ?_; (try dsimp only); lia) | (refine ltN ?_; (try dsimp only); lia) | (refine leN ?_; (try dsimp only); lia))) (F'.keep b o e), F.above⟩ (fun p hp => ?_)
      (fun q hq => (hn' q hq).2.1) (fun p hp => by have := hnI p hp; ((first | lia | (refine neN ?_; (try dsimp only); lia) | (refine ltN ?_; (try dsimp only); lia) | (refine leN ?_; (try dsimp only); lia)))) hJ
    rcases List.mem_cons.mp hp with rfl | hp
    · exact ⟨up _ _ (by show I + 1 ≠ I; lia) (by show I + 1 ≠ I + 2; lia) (N' _ (.head _)).1, by show I + 1 ≠ L; ((first | lia | (refine neN ?_; (try dsimp only); lia) | (refine ltN ?_; (try dsimp only); lia) | (refine leN ?_; (try dsimp only); lia))), (N' _ (.head _)).2.2⟩
    · have := N' p (.tail _ (.tail _ hp)); exact ⟨up _ _ (hn' p hp).1 this.2.1 this.1, (hn' p hp).2.2, this.2.2⟩
end
noncomputable abbrev P := PySem.Challenge.rw_rg0122_01.row.prog
noncomputable abbrev ent (P : Params) (x : PySem.Str) (t : Tok) (v : Value) : DictEntry := ⟨PyData.keyHash P x, .str x t, v⟩
noncomputable abbrev zs (ns : List Nat) : List Int := ns.map fun (n : Nat) => (n : Int)
noncomputable abbrev lo (us : List Value) (n : Nat) : Obj := PySem.W.listOf us.toArray n
noncomputable abbrev tu (us : List Value) (n : Nat) : Obj := { cls := .type "tuple", data := .seq us.toArray n }

/-- the ledger with a's object changed -/
noncomputable def upd (a : Addr) (o : Obj) (l : List (Addr × Obj)) : List (Addr × Obj) := l.map fun p => if p.1 = a then (a, o) else p
theorem upd_self {a : Addr} {o o' : Obj} {l : List (Addr × Obj)} (h : (a, o) ∈ l) : (a, o') ∈ upd a o' l :=
  List.mem_map.mpr ⟨_, h, if_pos rfl⟩
theorem upd_ne {a b : Addr} {o ob : Obj} {l : List (Addr × Obj)} (h : (b, ob) ∈ l) (hb : b ≠ a) : (b, ob) ∈ upd a o l :=
  List.mem_map.mpr ⟨_, h, if_neg hb⟩
theorem upd_not {a : Addr} {o : Obj} : ∀ {l : List (Addr × Obj)}, (∀ p ∈ l, p.1 ≠ a) → upd a o l = l
  | [], _ => rfl
  | p :: l, h => by
    have h1 := h p (.head _)
    show (if p.1 = a then (a, o) else p) :: upd a o l = p :: l
    rw [if_neg h1, upd_not fun q hq => h q (.tail _ hq)]
theorem upd_mem {a : Addr} {o : Obj} {l : List (Addr × Obj)} {p : Addr × Obj} (h : p ∈ upd a o l) : (∃ q ∈ l, q.1 = p.1) := by
  obtain ⟨q, hq, e⟩ := List.mem_map.mp h
  refine ⟨q, hq, ?_⟩
  by_cases hqa : q.1 = a
  · rw [if_pos hqa] at e; rw [← e, hqa]
  · rw [if_neg hqa] at e; rw [e]

section
variable {prog : Program} {w : World} {A : Around} {E : Value → Shared → Prop} {s : Shared} {g h h' : PySem.Heap} {L a : Addr} {m : PySem.Str → Option Value} {news : List (Addr × Obj)} {o o' : Obj}

theorem led_set (F : Fr g L h m) (N : News g L h news) (hm : (a, o) ∈ news) (hs : Heap.SameBut a h h') (ho : h'.get? a = some o') : Fr g L h' m ∧ News g L h' (upd a o' news) := by
  have D := N _ hm
  refine ⟨⟨F.ns.sameBut hs (Ne.symm D.2.1), fun b x e => hs.extBut b x (by rintro rfl; have := D.2.2; rw [e] at this; cases this) (F.keep b x e), F.above⟩, fun p hp => ?_⟩
  obtain ⟨q, hq, e⟩ := List.mem_map.mp hp
  by_cases hqa : q.1 = a
  · rw [if_pos hqa] at e; subst e; exact ⟨ho, D.2⟩
  · rw [if_neg hqa] at e; subst e
    exact ⟨hs.extBut _ _ hqa (N q hq).1, (N q hq).2⟩
theorem led_upd {f : Obj → Obj} (F : Fr g L h m) (N : News g L h news) (hm : (a, o) ∈ news) (e : f o = o') (hf : o'.isFreed = false) : Fr g L (h.update a f) m ∧ News g L (h.update a f) (upd a o' news) :=
  led_set F N hm (Heap.SameBut.update h a f) (by rw [← e]; exact Heap.get?_update_self _ (N _ hm).1 (by rw [e]; exact hf))
theorem led_one {o1 o2 : Obj} (N : News g L h news) (h1 : (a, o1) ∈ news) (h2 : (a, o2) ∈ news) : o1 = o2 := by
  have e1 := (N _ h1).1; have e2 := (N _ h2).1
  exact Option.some.inj (e1.symm.trans e2)
/-! ### lists -/
variable {D b : Addr} {us vs : List Value} {n k : Nat} {v : Value}

theorem mapSeq_lo (f : Array Value → Array Value) (us us' : List Value) (n : Nat) (e : f us.toArray = us'.toArray) : Obj.mapSeq f (lo us n) = lo us' (if us'.length = us.length then n else n + 1) := by
  unfold Obj.mapSeq
  dsimp only
  rw [e]
  simp only [List.size_toArray, beq_iff_eq]

theorem rl_append {Q : Value → Shared → Prop} (F : Fr g L s.heap m) (N : News g L s.heap news) (hm : (D, lo us n) ∈ news) (hz : us.length ≤ 100000)
    (h : ∀ h' n', Fr g L h' m → News g L h' (upd D (lo (us ++ [v]) n') news) → Q .none { s with heap := h' }) : wpAny (model prog w) A (call (.builtin "list.append") [.ref D, v]) Q E s := by
  have z := N _ hm
  refine call_meets PySem.F.slot_list_append ⟨_, z.1, rfl⟩ PySem.F.entry_list_append (PySem.F.args_list_append_2 _ _) (list_append D us.toArray n v (by rw [List.size_toArray]; have : sizeLine = 16777216 := rfl; lia)) ⟨z.1, ?_⟩
  obtain ⟨F', N'⟩ := led_upd (f := Obj.mapSeq (·.push v)) F N hm (mapSeq_lo _ us (us ++ [v]) n (by simp)) rfl
  exact h _ _ F' N'

theorem rl_pop {Q : Value → Shared → Prop} (F : Fr g L s.heap m) (N : News g L s.heap news) (hm : (D, lo (us ++ [v]) n) ∈ news) (hz : us.length ≤ 100000)
    (h : ∀ h' n', Fr g L h' m → News g L h' (upd D (lo us n') news) → Q v { s with heap := h' }) : wpAny (model prog w) A (call (.builtin "list.pop") [.ref D]) Q E s := by
  have z := N _ hm
  refine call_meets PySem.F.slot_list_pop ⟨_, z.1, rfl⟩ PySem.F.entry_list_pop (PySem.F.args_list_pop_1 _) (PySem.MeetsSeq.list_pop_last D (us ++ [v]).toArray n v (by simp) (by rw [List.size_toArray, List.length_append]; have : sizeLine = 16777216 := rfl; simp; lia)) ⟨z.1, ?_⟩
  obtain ⟨F', N'⟩ := led_upd (f := Obj.mapSeq fun xs => xs.eraseIdxIfInBounds ((us ++ [v]).toArray.size - 1)) F N hm (mapSeq_lo _ (us ++ [v]) us n (by
    rw [List.eraseIdxIfInBounds_toArray]
    simp [List.eraseIdx_append_of_length_le])) rfl
  exact h _ _ F' N'

theorem rl_extend {Q : Value → Shared → Prop} (F : Fr g L s.heap m) (N : News g L s.heap news) (hm : (D, lo us n) ∈ news) (hb : (b, lo vs k) ∈ news) (hz : us.length + vs.length ≤ 100000)
    (h : ∀ h' n', Fr g L h' m → News g L h' (upd D (lo (us ++ vs) n') news) → Q .none { s with heap := h' }) : wpAny (model prog w) A (call (.builtin "list.extend") [.ref D, .ref b]) Q E s := by
  have z := N _ hm
  have hs : sizeLine = 16777216 := rfl
  refine call_meets PySem.F.slot_list_extend ⟨_, z.1, rfl⟩ PySem.F.entry_list_extend (PySem.F.args_list_extend_2 _ _) (PySem.AutoSeq1.list_extend_list_list_0 D us.toArray n b vs.toArray k
    (by unfold Builtin.List.listTooLong; rw [List.size_toArray, List.size_toArray]; simp only [Bool.and_eq_true, decide_eq_true_eq, not_and]; lia) (by rw [List.size_toArray]; lia) (by rw [List.size_toArray, List.size_toArray]; lia)) ⟨z.1, (N _ hb).1, ?_⟩
  obtain ⟨F', N'⟩ := led_upd (f := Obj.mapSeq (· ++ vs.toArray)) F N hm (mapSeq_lo _ us (us ++ vs) n (by simp)) rfl
  exact h _ _ F' N'

theorem rl_list {us : List Value} (N : News g L h news) (hm : (D, lo us n) ∈ news) : h.IsList D us.toArray := ⟨_, (N _ hm).1, rfl, n, rfl⟩
theorem rl_tuple {us : List Value} (N : News g L h news) (hm : (D, tu us n) ∈ news) : h.IsTuple D us.toArray := ⟨_, (N _ hm).1, rfl, n, rfl⟩

theorem rl_item {value slice : PySem.Expr} {j : Nat} {u : Tok} {Q : Value → Shared → Prop} (N : News g L s.heap news) (hm : (D, lo us n) ∈ news) (hj : us[j]? = some v) (hz : us.length ≤ 100000) (h : Q v s)
    (hs : subscripted slice false (.ref D) (.int (j : Int) u) = operate [.ref D, .int (j : Int) u] (getItem (.ref D) (.int (j : Int) u)) := by with_unfolding_all rfl) :
    wpAny (model prog w) A (subscriptTail value slice (.ref D) (.int (j : Int) u)) Q E s := by
  have hlt := (List.getElem?_eq_some_iff.mp hj).1
  have hL := rl_list N hm
  refine tail_any hL.typeIs slot_list_getitem.lookup (wpAny_getItem_list hL (Int.natCast_nonneg j) (by lia) ?_ h) hs
  rw [Int.toNat_natCast]; simpa using hj

noncomputable def oth (D : Addr) (l : List (Addr × Obj)) : List (Addr × Obj) := l.filter fun p => decide (p.1 ≠ D)
theorem oth_ne {D : Addr} {l : List (Addr × Obj)} : ∀ p ∈ oth D l, p.1 ≠ D := fun p hp => by simpa using (List.mem_filter.mp hp).2
theorem oth_in {D : Addr} {l : List (Addr × Obj)} : ∀ p ∈ oth D l, p ∈ l := fun p hp => (List.mem_filter.mp hp).1
theorem oth_news (N : News g L h news) (hm : (D, o) ∈ news) : News g L h ((D, o) :: oth D news) := nsub N fun p hp => by
  rcases List.mem_cons.mp hp with rfl | hp
  · exact hm
  · exact oth_in p hp
theorem oth_back (N : News g L h ((D, o') :: oth D news)) : News g L h (upd D o' news) := nsub N fun p hp => by
  obtain ⟨q, hq, e⟩ := List.mem_map.mp hp
  by_cases hqa : q.1 = D
  · rw [if_pos hqa] at e; subst e; exact .head _
  · rw [if_neg hqa] at e; subst e; exact .tail _ (List.mem_filter.mpr ⟨hq, by simpa using hqa⟩)

theorem rl_setItem {j x : Nat} {t u : Tok} {ns : List Nat} {Q : Unit → Shared → Prop} (F : Fr g L s.heap m) (N : News g L s.heap news) (hm : (D, lo us n) ∈ news) (hi : IntsAre us (zs ns)) (hj : j < ns.length) (hz : ns.length ≤ 100000)
    (h : ∀ h', Fr g L h' m → News g L h' (upd D (lo (us.set j (.int (x : Int) u)) n) news) → IntsAre (us.set j (.int (x : Int) u)) (zs (ns.set j x)) → Q () { s with heap := h' }) : wpAny (model prog w) A (setItem (.ref D) (.int (j : Int) t) (.int (x : Int) u)) Q E s := by
  have e : IntsAre (us.set j (.int (x : Int) u)) (zs (ns.set j x)) := by
    have := ints_set (x := (x : Int)) (u := u) hi j
    rwa [show (zs ns).set j (x : Int) = zs (ns.set j x) by simp [zs, List.map_set]] at this
  have hjz : (j : Int) < ((zs ns).length : Nat) := by rw [List.length_map]; lia
  refine ksa_set F (oth_news N hm) (Upd.head oth_ne) hi (Int.natCast_nonneg j) hjz (by lia) fun h' F' N' _ _ _ => ?_
  exact h h' F' (oth_back N') e
end
/-! ### texts and ints as parts of a tuple -/
noncomputable def isAtom : PySem.Str ⊕ Int → Value → Bool
  | .inl x, v => Value.isStrOf x v
  | .inr n, v => Value.isInt n v
theorem isAtom_l {x : PySem.Str} {v : Value} (h : isAtom (.inl x) v = true) : ∃ t, v = .str x t := Value.isStrOf_shape h
theorem isAtom_r {n : Int} {v : Value} (h : isAtom (.inr n) v = true) : ∃ t, v = .int n t := Value.isInt_shape h
noncomputable def atomHash (w : World) : PySem.Str ⊕ Int → Int
  | .inl x => hashStr w x
  | .inr n => hashInt n
noncomputable def atomKind (prog : Program) (w : World) : KeyKind prog w (PySem.Str ⊕ Int) where
  is := isAtom
  hash := atomHash w
  inj := fun v a b ha hb => by
    cases a <;> cases b
    · exact congrArg _ (Value.isStrOf_inj v _ _ ha hb)
    · obtain ⟨t, rfl⟩ := isAtom_l ha; obtain ⟨u, e⟩ := isAtom_r hb; cases e
    · obtain ⟨t, rfl⟩ := isAtom_r ha; obtain ⟨u, e⟩ := isAtom_l hb; cases e
    · exact congrArg _ (Value.isInt_inj v _ _ ha hb)
  byValue := fun k v h => by
    cases k
    · obtain ⟨t, rfl⟩ := isAtom_l h; rfl
    · obtain ⟨t, rfl⟩ := isAtom_r h; rfl
  pyHash := fun {A E s k v Q} hv h => by
    cases k
    · obtain ⟨t, rfl⟩ := isAtom_l hv; exact wpAny_pyHash_str h
    · obtain ⟨t, rfl⟩ := isAtom_r hv; exact wpAny_pyHash_int h
  eqBool := fun {A E s a b u v Q} hu hv h => by
    cases a <;> cases b
    · obtain ⟨t, rfl⟩ := isAtom_l hu; obtain ⟨t', rfl⟩ := isAtom_l hv
      rename_i x y
      have e : decide (x = y) = decide ((Sum.inl x : PySem.Str ⊕ Int) = .inl y) := by simp
      exact wpAny_eqBool_str (by rw [e]; exact h)
    · obtain ⟨t, rfl⟩ := isAtom_l hu; obtain ⟨t', rfl⟩ := isAtom_r hv
      exact SeqAt.EqAt.str_int _ _ _ _ prog w E Q h
    · obtain ⟨t, rfl⟩ := isAtom_r hu; obtain ⟨t', rfl⟩ := isAtom_l hv
      exact SeqAt.EqAt.int_str _ _ _ _ prog w E Q h
    · obtain ⟨t, rfl⟩ := isAtom_r hu; obtain ⟨t', rfl⟩ := isAtom_r hv
      rename_i x y
      have e : (x == y) = decide ((Sum.inr x : PySem.Str ⊕ Int) = .inr y) := by
        by_cases q : x = y
        · subst q; simp
        · simp [q]
      exact wpAny_eqBool_int (by rw [e]; exact h)
  «strs» := fun k x t v h => by
    cases k
    · obtain ⟨u, hu⟩ := isAtom_l h
      injection hu with hx
      subst hx
      cases v <;> rfl
    · obtain ⟨u, hu⟩ := isAtom_r h; cases hu
noncomputable abbrev Atm := PySem.Str ⊕ Int
/-- a set object -/
noncomputable abbrev so (es : Array (Int × Value)) (ep : Nat) (t : SetTable) : Obj := { cls := .type "set", dict := none, data := .set es ep t, slots := #[] }
section
variable {prog : Program} {w : World} {A : Around} {E : Value → Shared → Prop} {s : Shared} {a c : Addr} {es : Array (Int × Value)} {ep : Nat} {t : SetTable} {led : Bool} {k : List Atm}

/-- the elements: tuples of texts and ints -/
noncomputable def ElT (prog : Program) (w : World) (h : PySem.Heap) (es : List (Int × Value)) : Prop := ∀ e ∈ es, ∃ y b, e.2 = .ref b ∧ IsTupleKey (atomKind prog w) h y b ∧ e.1 = tupleKeyHash (atomKind prog w) y

theorem hashByValue_tuple {Q : Bool → Shared → Prop} (hk : IsTupleKey (atomKind prog w) s.heap k c) (h : ∀ b, Q b s) : wpAny (model prog w) A (hashByValue 8 (.ref c)) Q E s := by
  have hT := hk.typeIs
  obtain ⟨o, items, n, ho, _, hd, hi⟩ := hk
  unfold hashByValue
  refine wpAny_bind (wpAny_specialOf hT F.slot_tuple_hash.lookup ?_)
  dsimp only
  refine wpAny_bind (wpAny_seqItems ho hd ?_)
  refine wpAny_bind ?_
  show wpAny _ _ (forIn items _ _) _ _ s
  rw [← Array.forIn_toList]
  refine wpAny_forIn_list _ (fun rest r s' => s' = s ∧ ∀ v ∈ rest, carriedByValue v = true) _ ?_ ?_ _ _ ⟨rfl, hi.byValue⟩
  · rintro v rest r s' ⟨rfl, hall⟩
    have hv : ∃ b, hashByValue 7 v = pure b := by
      have := hall v (.head _)
      cases v <;> first | exact ⟨_, rfl⟩ | (simp [carriedByValue] at this) | (refine ⟨_, by unfold hashByValue; rfl⟩)
    obtain ⟨b, hb⟩ := hv
    rw [hb]
    refine wpAny_bind (wpAny_pure ?_)
    cases b
    · exact wpAny_pure (wpAny_pure (h _))
    · exact wpAny_pure ⟨rfl, fun v hv => hall v (.tail _ hv)⟩
  · rintro ⟨r1, r2⟩ s' ⟨rfl, _⟩
    cases r1 <;> exact wpAny_pure (h _)

theorem tup_class {n : Nat} {Q : Bool → Shared → Prop} (hk : IsTupleKey (atomKind prog w) s.heap k c) (h : Q false s) : wpAny (model prog w) A (ofAClassStatement (n + 1) (.ref c)) Q E s := by
  have hT := hk.typeIs
  obtain ⟨o, items, n', ho, _, hd, hi⟩ := hk
  unfold ofAClassStatement
  refine wpAny_bind (wpAny_typeOf hT ?_)
  dsimp only
  rw [if_pos (by decide)]
  refine wpAny_bind (wpAny_pure ?_)
  simp only [Bool.not_true, Bool.false_eq_true, if_false]
  refine wpAny_bind (wpAny_seqItems ho hd ?_)
  dsimp only
  refine wpAny_bind ?_
  show wpAny _ _ (forIn items _ _) _ _ s
  rw [← Array.forIn_toList]
  refine wpAny_forIn_list _ (fun rest r s' => s' = s ∧ r.1 = none ∧ ∀ v ∈ rest, carriedByValue v = true) _ ?_ ?_ _ _ ⟨rfl, rfl, hi.byValue⟩
  · rintro v rest r s' ⟨rfl, hr, hall⟩
    have hv : ofAClassStatement n v = pure false := by
      have := hall v (.head _)
      cases v <;> first | (simp [carriedByValue] at this; done) | (cases n <;> rfl) | (unfold ofAClassStatement; rfl)
    rw [hv]
    refine wpAny_bind (wpAny_pure ?_)
    simp only [Bool.false_eq_true, if_false]
    exact wpAny_pure ⟨rfl, rfl, fun v hv => hall v (.tail _ hv)⟩
  · rintro ⟨r1, r2⟩ s' ⟨rfl, hr, _⟩
    simp only at hr
    subst hr
    exact wpAny_pure h

theorem seen_tuple {Q : Bool → Shared → Prop} (hk : IsTupleKey (atomKind prog w) s.heap k c) : ∀ (l : List Value), (∀ v ∈ l, ∃ y b, v = .ref b ∧ IsTupleKey (atomKind prog w) s.heap y b) → Q false s → wpAny (model prog w) A (searchCouldBeSeen (.ref c) l) Q E s := by
  intro l hl h
  unfold searchCouldBeSeen
  refine wpAny_bind ?_
  refine wpAny_forIn_list _ (fun rest r s' => s' = s ∧ r.1 = none ∧ ∀ v ∈ rest, ∃ y b, v = .ref b ∧ IsTupleKey (atomKind prog w) s.heap y b) _ ?_ ?_ _ _ ⟨rfl, rfl, hl⟩
  · rintro v rest r s' ⟨rfl, hr, hall⟩
    obtain ⟨y, b, rfl, hb⟩ := hall v (.head _)
    have hall' : ∀ v ∈ rest, ∃ y b, v = .ref b ∧ IsTupleKey (atomKind prog w) s'.heap y b := fun v hv => hall v (.tail _ hv)
    dsimp only
    by_cases q : (c == b || (carriedByValue (.ref c) && carriedByValue (.ref b))) = true
    · rw [if_pos q]
      exact wpAny_pure ⟨rfl, rfl, hall'⟩
    · rw [if_neg q]
      refine wpAny_bind (wpAny_eqIsQuiet_tuple hk ?_)
      simp only [Bool.not_true, Bool.false_eq_true, if_false]
      refine wpAny_bind (wpAny_eqIsQuiet_tuple hb ?_)
      simp only [Bool.not_true, Bool.false_eq_true, if_false]
      refine wpAny_bind (tup_class hk ?_)
      simp only [Bool.false_eq_true, if_false]
      refine wpAny_bind (tup_class hb ?_)
      simp only [Bool.false_eq_true, if_false]
      exact wpAny_pure ⟨rfl, rfl, hall'⟩
  · rintro ⟨r1, r2⟩ s' ⟨rfl, hr, _⟩
    simp only at hr
    subst hr
    exact wpAny_pure h

theorem search_tuple {Q : SetFound → Shared → Prop} (hu : A.units < cLine) (ho : s.heap.get? a = some (so es ep t)) (T : Tb led t es.size) (hm : t.gaveWay = false) (hel : ElT prog w s.heap es.toList) (hk : IsTupleKey (atomKind prog w) s.heap k c) (hh : Int)
    (h1 : ∀ j, t.slot j = .empty → Q (.free j false) s) (h2 : (∃ e ∈ es.toList, ∃ b, e.2 = .ref b ∧ IsTupleKey (atomKind prog w) s.heap k b) → Q (.there none) s) :
    ∀ (kk fuel : Nat) (stand : Option SetTable.Probe), Dist t (stand.getD (t.probeStart hh)) kk → kk < 10 * SetTable.turns t.mask → (stand.getD (t.probeStart hh)).dummy = none → kk < fuel →
      wpAny (model prog w) A (setSearchFrom a (.ref c) hh true fuel stand) Q E s := by
  intro kk
  induction kk using Nat.strongRecOn with
  | ind kk ih =>
    intro fuel stand hd hkk hdm hf
    obtain ⟨fuel, rfl⟩ : ∃ f, fuel = f + 1 := ⟨fuel - 1, by lia⟩
    unfold setSearchFrom
    refine wpAny_bind (wpAny_setState_of ho rfl T.fit ?_)
    dsimp only
    rw [hm]
    simp only [Bool.false_eq_true, if_false]
    have key : ∀ ha, ∃ met, t.probe ha hh (stand.getD (t.probeStart hh)) = some met ∧ _ := fun ha => go_dist T (ha := ha) (hh := hh) _ kk _ hdm hd hkk
    split
    · rename_i met heq
      obtain ⟨met', e', q⟩ := key _
      have em := Option.some.inj (heq.symm.trans e')
      subst em
      rcases q with ⟨j, rfl, hs⟩ | ⟨j, i, next, k', rfl, hs, hdm', hk', hd'⟩
      · exact wpAny_pure (h1 j hs)
      · dsimp only
        obtain ⟨hi, hpl⟩ := slot_live T hs
        have he : es[i]? = some es[i] := Array.getElem?_eq_getElem hi
        obtain ⟨y, b, hy, hb, hyh⟩ := hel es[i] (by simp)
        have tail : wpAny (model prog w) A (match es[i]? with
              | some (fst, y) => do
                let equal ← holding [y] (eqBool y (Value.ref c))
                let __x ← setState a
                if (true && equal) = true then pure (SetFound.there none)
                  else
                    match __x.2.snd.sameMemory t.moves t.mask with
                    | some same =>
                      match if same = true then __x.2.snd.slot j else SetTable.Slot.empty with
                      | SetTable.Slot.live i' =>
                        match __x.fst[i']? with
                        | some (fst, y') => do
                          let __do_lift ← isSame y' y
                          let still ← pure (if __do_lift = true then some i' else none)
                          match still with
                            | none => do
                              rule "set.search.anew"
                              setSearchFrom a (Value.ref c) hh true fuel none
                            | some i' =>
                              if equal = true then pure (SetFound.there (some i'))
                              else setSearchFrom a (Value.ref c) hh true fuel (some next)
                        | none => do
                          let still ← pure none
                          match still with
                            | none => do
                              rule "set.search.anew"
                              setSearchFrom a (Value.ref c) hh true fuel none
                            | some i' =>
                              if equal = true then pure (SetFound.there (some i'))
                              else setSearchFrom a (Value.ref c) hh true fuel (some next)
                      | x => do
                        let still ← pure none
                        match still with
                          | none => do
                            rule "set.search.anew"
                            setSearchFrom a (Value.ref c) hh true fuel none
                          | some i' =>
                            if equal = true then pure (SetFound.there (some i'))
                            else setSearchFrom a (Value.ref c) hh true fuel (some next)
                    | x => unsupported "set.changed-during-lookup:is-the-new-block-at-the-old-address"
              | x => unsupported "internal:set-entry") Q E s := by
          generalize hei : es[i] = ei at *
          obtain ⟨eh, ev⟩ := ei
          dsimp only at hy hyh
          subst hy
          rw [he]
          dsimp only
          refine wpAny_bind (wpAny_holding (wpAny_eqBool_tuple hu hb hk ?_))
          refine wpAny_bind (wpAny_setState_of ho rfl T.fit ?_)
          dsimp only
          by_cases hyk : y = k
          · subst hyk
            simp only [decide_true, Bool.and_self, if_true]
            exact wpAny_pure (h2 ⟨es[i], by simp, b, by rw [hei], hb⟩)
          · simp only [hyk, decide_false, Bool.and_false, Bool.false_eq_true, if_false]
            have hsm : t.sameMemory t.moves t.mask = some true := by unfold SetTable.sameMemory; simp
            rw [hsm]
            dsimp only
            rw [if_pos rfl, hs]
            dsimp only
            rw [he]
            dsimp only
            have hsame : isSame (.ref b) (.ref b) = (pure true : Sem Bool) := by unfold isSame; simp
            refine wpAny_bind (wpAny_of_eq hsame (wpAny_bind (wpAny_pure ?_)))
            rw [if_pos rfl]
            exact ih k' hk' fuel (some next) hd' (by lia) hdm' (by lia)
        by_cases hled : (!t.led) = true
        · rw [if_pos hled]
          refine wpAny_bind (seen_tuple hk _ (fun v hv => ?_) ?_)
          · obtain ⟨e, he', rfl⟩ := List.mem_map.mp hv
            have he2 : e ∈ es.toList := by
              have := Array.mem_toList_iff.mp he'
              exact Array.mem_toList_iff.mpr (Array.mem_filter.mp this).1
            obtain ⟨y, b, e1, e2, _⟩ := hel e he2
            exact ⟨y, b, e1, e2⟩
          · simp only [Bool.false_eq_true, if_false]
            exact tail
        · rw [if_neg hled]
          exact tail
    · rename_i hno
      obtain ⟨met', e', q⟩ := key _
      exact absurd e' (hno met')

theorem relay_ok {wanted : Nat} {Q : Unit → Shared → Prop} (ho : s.heap.get? a = some (so es ep t)) (T : Tb led t es.size) (hw : SetTable.sizeAbove wanted ≤ sizeLine) (horb : orbs (SetTable.sizeAbove wanted - 1) = true) (hz : es.size ≤ SetTable.sizeAbove wanted - 1)
    (h : ∀ es' t', es'.toList.Perm es.toList → Tb led t' es'.size → t'.mask = SetTable.sizeAbove wanted - 1 → Q () { s with heap := s.heap.update a (Obj.putSet es' t') }) : wpAny (model prog w) A (setRelay a wanted) Q E s := by
  obtain ⟨t', order, e, hp, T', hm, hpl⟩ := relaid_some (t := t) horb hz
  unfold setRelay
  refine wpAny_bind (wpAny_setState_of ho rfl T.fit ?_)
  dsimp only
  rw [if_neg (Nat.not_lt.mpr hw)]
  rw [e]
  have hs : (order.filterMap (es[·]?)).size = es.size := by rw [← Array.length_toList, hp.length_eq, Array.length_toList]
  refine wpAny_bind ?_
  show wpAny _ _ (if ((order.filterMap (es[·]?)).size != es.size) = true then (do unsupported "internal:set-table-lost-an-element"; pure (order.filterMap (es[·]?), t')) else pure (order.filterMap (es[·]?), t')) _ _ _
  rw [if_neg (by rw [hs]; simp)]
  refine wpAny_pure ?_
  refine wpAny_storeSet_of ho rfl (h _ _ hp (by rw [hs]; rw [T.led] at T'; exact T') hm) ?_
  rw [hs]
  exact Nat.le_trans (Nat.le_of_lt_succ (by lia)) hw

/-- what the adding of x does -/
structure Added (es es' : Array (Int × Value)) (x : Int × Value) (same : Prop) : Prop where
  or : (es' = es ∧ same) ∨ es'.toList.Perm (es.toList ++ [x])

theorem so_update {h : PySem.Heap} (ho : h.get? a = some (so es ep t)) (es' : Array (Int × Value)) (t' : SetTable) : (h.update a (Obj.putSet es' t')).get? a = some (so es' (ep + 1) t') :=
  Heap.get?_update_self (Obj.putSet es' t') ho rfl

/-- the masks that we meet -/
noncomputable def Mk (t : SetTable) (n : Nat) : Prop := (t.mask = 7 ∧ n ≤ 4) ∨ (t.mask = 31 ∧ n ≤ 16)
theorem Mk.orb {t : SetTable} {n : Nat} (h : Mk t n) : orbs t.mask = true := by
  rcases h with ⟨h, _⟩ | ⟨h, _⟩ <;> rw [h]
  · exact orb7
  · exact orb31
theorem Mk.gave {t : SetTable} {n : Nat} (h : Mk t n) : t.gaveWay = false := by
  unfold SetTable.gaveWay
  rcases h with ⟨h, _⟩ | ⟨h, _⟩ <;> rw [h] <;> rfl

theorem add_tuple {Q : Bool → Shared → Prop} (hu : A.units < cLine) (ho : s.heap.get? a = some (so es ep t)) (T : Tb led t es.size) (hm : Mk t es.size) (hz : es.size ≤ 15) (hel : ElT prog w s.heap es.toList) (hk : IsTupleKey (atomKind prog w) s.heap k c)
    (h : ∀ b h' es' ep' t' tk, Heap.SameBut a s.heap h' → h'.get? a = some (so es' ep' t') → Tb led t' es'.size → Mk t' es'.size → es'.size ≤ es.size + 1 → (∃ e ∈ es'.toList, ∃ b, e.2 = .ref b ∧ IsTupleKey (atomKind prog w) s.heap k b) →
      (∀ e ∈ es'.toList, e ∈ es.toList ∨ e = (tupleKeyHash (atomKind prog w) k, .ref c)) → (∀ e ∈ es.toList, e ∈ es'.toList) → s.toks ≤ tk → Q b { s with heap := h', toks := tk }) :
    wpAny (model prog w) A (setAdd a (.ref c)) Q E s := by
  have hf := T.fit
  simp only [SetTable.fits, Bool.and_eq_true, beq_iff_eq, decide_eq_true_eq] at hf
  unfold setAdd
  refine wpAny_holding (wpAny_bind (wpAny_pyHash_tuple hu hk ?_))
  generalize htk : s.toks + (k.length + 1) = tk
  have hle : s.toks ≤ tk := by rw [← htk]; exact Nat.le_add_right _ _
  unfold setAddHashed
  refine wpAny_holding ?_
  unfold setAddHashedIn
  refine wpAny_bind (wpAny_setState_of (s := { s with toks := tk }) ho rfl T.fit ?_)
  dsimp only
  have hbs : byScan (.ref c) es = false := by simp [byScan, Value.scannable]
  rw [hbs]
  simp only [Bool.false_eq_true, if_false]
  unfold setSearch
  obtain ⟨kk, hk1, hk2⟩ := tb_dist T hm.orb (tupleKeyHash (atomKind prog w) k)
  have hturn : 10 * SetTable.turns t.mask < 100000 := by unfold SetTable.turns; rcases hm with ⟨h, _⟩ | ⟨h, _⟩ <;> rw [h] <;> decide
  refine wpAny_bind (search_tuple (s := { s with toks := tk }) hu ho T hm.gave hel hk _ (fun j hj => ?_) (fun hex => ?_) kk 100000 none hk2 hk1 rfl (by lia))
  · dsimp only
    refine wpAny_bind (wpAny_setState_of (s := { s with toks := tk }) ho rfl T.fit ?_)
    dsimp only
    obtain ⟨p1, p2, p3, p4⟩ := put_tb T hj
    have hes : (SetTable.insertAt es (t.put j).2 (tupleKeyHash (atomKind prog w) k, .ref c)).toList.Perm (es.toList ++ [(tupleKeyHash (atomKind prog w) k, .ref c)]) := by
      have := SetTable.insertAt_perm es (t.put j).2 (tupleKeyHash (atomKind prog w) k, .ref c)
      rwa [Array.toList_push] at this
    have hsz : (SetTable.insertAt es (t.put j).2 (tupleKeyHash (atomKind prog w) k, .ref c)).size = es.size + 1 := by
      rw [← Array.length_toList, hes.length_eq]; simp
    have hmk : (t.put j).1.mask = t.mask := rfl
    have hfill : t.place.size ≤ t.mask := by have := hf.2; unfold SetTable.fill at this; lia
    have hroom : es.size + 1 ≤ t.mask := by rcases hm with ⟨h, _⟩ | ⟨h, _⟩ <;> lia
    -- the rest, for either table
    have rest : ∀ t2 : SetTable, Tb led t2 (es.size + 1) → t2.mask = t.mask → wpAny (model prog w) A (do
        storeSet a (SetTable.insertAt es (t.put j).2 (tupleKeyHash (atomKind prog w) k, .ref c)) t2
        if (!false && t2.tooFull) = true then do
          setRelay a (SetTable.grown (es.size + 1))
          pure true
        else pure true) Q E { s with toks := tk } := by
      intro t2 T2 hm2
      rw [← hsz] at T2
      refine wpAny_bind (wpAny_storeSet_of (s := { s with toks := tk }) ho rfl ?_ (by rw [hsz, sizeLine_eq]; lia))
      have ho2 := so_update ho (SetTable.insertAt es (t.put j).2 (tupleKeyHash (atomKind prog w) k, .ref c)) t2
      have sb := Heap.SameBut.update s.heap a (Obj.putSet (SetTable.insertAt es (t.put j).2 (tupleKeyHash (atomKind prog w) k, .ref c)) t2)
      have mem1 : ∀ e ∈ (SetTable.insertAt es (t.put j).2 (tupleKeyHash (atomKind prog w) k, .ref c)).toList, e ∈ es.toList ∨ e = (tupleKeyHash (atomKind prog w) k, .ref c) := fun e he => by
        simpa using hes.mem_iff.mp he
      have mem2 : ∀ e ∈ es.toList, e ∈ (SetTable.insertAt es (t.put j).2 (tupleKeyHash (atomKind prog w) k, .ref c)).toList := fun e he => hes.mem_iff.mpr (List.mem_append_left _ he)
      have mem3 : (tupleKeyHash (atomKind prog w) k, Value.ref c) ∈ (SetTable.insertAt es (t.put j).2 (tupleKeyHash (atomKind prog w) k, .ref c)).toList := hes.mem_iff.mpr (by simp)
      generalize SetTable.insertAt es (t.put j).2 (tupleKeyHash (atomKind prog w) k, .ref c) = es1 at *
      by_cases hfull : (!false && t2.tooFull) = true
      · rw [if_pos hfull]
        have h7 : es.size + 1 = 5 := by
          simp only [Bool.not_false, Bool.true_and, SetTable.tooFull, decide_eq_true_eq] at hfull
          have e1 : t2.fill = es.size + 1 := by unfold SetTable.fill; rw [T2.sz, T2.nd, hsz]; rfl
          rw [e1, hm2] at hfull
          rcases hm with ⟨h, _⟩ | ⟨h, _⟩ <;> rw [h] at hfull <;> lia
        rw [h7]
        refine wpAny_bind (relay_ok (s := { s with heap := s.heap.update a (Obj.putSet es1 t2), toks := tk }) (led := led) ho2 T2 (by rw [sizeLine_eq]; decide) (by show orbs (SetTable.sizeAbove 20 - 1) = true; rw [above20]; exact orb31) (by show es1.size ≤ SetTable.sizeAbove 20 - 1; rw [above20]; lia) fun es2 t3 hp T3 hm3 => ?_)
        have hm31 : t3.mask = 31 := hm3.trans above20
        have hs2 : es2.size = es1.size := by rw [← Array.length_toList, hp.length_eq, Array.length_toList]
        exact wpAny_pure (h _ _ _ _ _ _ (sb.trans (Heap.SameBut.update _ a _)) (so_update ho2 es2 t3) T3 (.inr ⟨hm31, by lia⟩) (by lia) ⟨_, hp.mem_iff.mpr mem3, c, rfl, hk⟩ (fun e he => mem1 e (hp.mem_iff.mp he)) (fun e he => hp.mem_iff.mpr (mem2 e he)) hle)
      · rw [if_neg hfull]
        have hmk2 : Mk t2 es1.size := by
          simp only [Bool.not_false, Bool.true_and, SetTable.tooFull, decide_eq_true_eq] at hfull
          have e1 : t2.fill = es.size + 1 := by unfold SetTable.fill; rw [T2.sz, T2.nd, hsz]; rfl
          rw [e1, hm2] at hfull
          unfold Mk
          rw [hm2, hsz]
          rcases hm with ⟨h, _⟩ | ⟨h, _⟩ <;> rw [h] at hfull ⊢ <;> lia
        exact wpAny_pure (h _ _ _ _ _ _ sb ho2 T2 hmk2 (by lia) ⟨_, mem3, c, rfl, hk⟩ mem1 mem2 hle)
    have T1 : Tb led (t.put j).1 (es.size + 1) := ⟨p1, by
      simp only [SetTable.fits, Bool.and_eq_true, beq_iff_eq, decide_eq_true_eq]
      refine ⟨p1, ?_⟩
      unfold SetTable.fill
      rw [p1, p2, hmk]
      exact hroom, p2, p3, p4⟩
    by_cases hpl : (t.put j).1.plain = true
    · rw [if_pos hpl]
      refine wpAny_bind (hashByValue_tuple (s := { s with toks := tk }) hk fun b => ?_)
      cases b
      · exact rest _ T1.unplain hmk
      · exact rest _ T1 hmk
    · rw [if_neg hpl]
      refine wpAny_bind (wpAny_pure ?_)
      exact rest _ T1 hmk
  · dsimp only
    exact wpAny_pure (h _ s.heap es ep t tk (Heap.SameBut.refl a s.heap) ho T hm (by lia) hex (fun e he => .inl he) (fun e he => he) hle)
end
section
variable {prog : Program} {w : World} {A : Around} {E : Value → Shared → Prop} {s : Shared} {a c : Addr} {es : Array (Int × Value)} {ep : Nat} {t : SetTable} {led : Bool} {k : Int} {tx : Tok}

theorem add_int {Q : Bool → Shared → Prop} (ho : s.heap.get? a = some (so es ep t)) (T : Tb led t es.size) (hz : es.size ≤ 1000) (hel : ElemsOf (intKind prog w) es.toList)
    (h : ∀ b h' es' ep' t' tk, Heap.SameBut a s.heap h' → h'.get? a = some (so es' ep' t') → Tb led t' es'.size → ElemsOf (intKind prog w) es'.toList →
      ((es' = es ∧ ∃ e ∈ es.toList, Value.isInt k e.2 = true) ∨ (es'.toList.Perm (es.toList ++ [(hashInt k, .int k tx)]) ∧ ∀ e ∈ es.toList, Value.isInt k e.2 = false)) → s.toks ≤ tk → Q b { s with heap := h', toks := tk }) :
    wpAny (model prog w) A (setAdd a (.int k tx)) Q E s := by
  have hbd : es.size < scanBound := by unfold scanBound; lia
  unfold setAdd
  refine wpAny_holding (wpAny_bind (wpAny_pyHash_int ?_))
  generalize htk : s.toks + 1 = tk
  have hle : s.toks ≤ tk := by rw [← htk]; exact Nat.le_add_right _ _
  unfold setAddHashed
  refine wpAny_holding ?_
  unfold setAddHashedIn
  refine wpAny_bind (wpAny_setState_of (s := { s with toks := tk }) ho rfl T.fit ?_)
  dsimp only
  rw [byScan_of (x := .int k tx) rfl hbd hel]
  simp only [↓reduceIte]
  unfold setAddByScan
  refine wpAny_bind ?_
  refine wpAny_bind (wpAny_rule ?_)
  refine wpAny_bind (wpAny_setScan_of (knd := intKind prog w) (s := { s with toks := tk }) (k := k) (intKind_is _ _ _ _) ho rfl T.fit hel ?_)
  cases hr : List.findIdx? (fun e => (intKind prog w).is k e.2) es.toList with
  | some j =>
    dsimp only
    obtain ⟨hj, hpj, _⟩ := List.findIdx?_eq_some_iff_getElem.mp hr
    exact wpAny_pure (wpAny_pure (h _ s.heap es ep t tk (Heap.SameBut.refl a s.heap) ho T hel (.inl ⟨rfl, _, List.getElem_mem hj, hpj⟩) hle))
  | none =>
    dsimp only
    have hno : ∀ e ∈ es.toList, Value.isInt k e.2 = false := fun e he => by
      have := List.findIdx?_eq_none_iff.mp hr e he
      exact this
    have hgw : ∀ (b : Bool) {s₁ : Shared} {Q' : Unit → Shared → Prop}, Q' () s₁ → wpAny (model prog w) A (match b with | true => rule "set.scan.the-table-gave-way" | false => pure ()) Q' E s₁ :=
      fun b s₁ Q' hq => by cases b <;> first | exact wpAny_pure hq | exact wpAny_rule hq
    have hperm := layNew_perm t es (hashInt k) (.int k tx)
    have T1 := layNew_tb T (hashInt k) (.int k tx)
    show wpAny (model prog w) A (match layNew t es (hashInt k) (.int k tx) with | (es, t, wasDummy, gave) => _) _ _ _
    generalize hL : layNew t es (hashInt k) (.int k tx) = L at hperm T1 ⊢
    obtain ⟨es1, t1, wasDummy, gave⟩ := L
    dsimp only at hperm T1 ⊢
    rw [Array.toList_push] at hperm
    have hel1 : ElemsOf (intKind prog w) es1.toList := (hel.push (k := k) (x := .int k tx) (intKind_is _ _ _ _) rfl).perm hperm
    have hsz1 : es1.size = es.size + 1 := by rw [← Array.length_toList, hperm.length_eq]; simp
    refine wpAny_bind (hgw _ ?_)
    have rest : ∀ t2 : SetTable, Tb led t2 es1.size → ∀ (g : Bool → Sem Unit), (∀ (b : Bool) (s₁ : Shared) (Q' : Unit → Shared → Prop), Q' () s₁ → wpAny (model prog w) A (g b) Q' E s₁) → wpAny (model prog w) A (do
        storeSet a es1 t2
        if (!wasDummy && t2.tooFull) = true then do
            g (relayAll t2 es1 (SetTable.grown es1.size)).2.2
            storeSet a (relayAll t2 es1 (SetTable.grown es1.size)).1 (relayAll t2 es1 (SetTable.grown es1.size)).2.1
            pure (some true)
          else pure (some true)) (fun r s' => ∃ b, r = some b ∧ Q b s') E { s with toks := tk } := by
      intro t2 T2 g hg
      refine wpAny_bind (wpAny_storeSet_of (s := { s with toks := tk }) ho rfl ?_ (by rw [hsz1, sizeLine_eq]; lia))
      have ho2 := so_update ho es1 t2
      have sb := Heap.SameBut.update s.heap a (Obj.putSet es1 t2)
      split
      · have hp := relayAll_perm t2 es1 (SetTable.grown es1.size)
        have T3 := relayAll_tb (es := es1) T2.led (SetTable.grown es1.size)
        generalize relayAll t2 es1 (SetTable.grown es1.size) = Rl at hp T3 ⊢
        obtain ⟨es2, t3, gave2⟩ := Rl
        dsimp only at hp T3 ⊢
        have hs2 : es2.size = es1.size := by rw [← Array.length_toList, hp.length_eq, Array.length_toList]
        refine wpAny_bind (hg _ _ _ ?_)
        refine wpAny_bind (wpAny_storeSet_of (s := { s with heap := s.heap.update a (Obj.putSet es1 t2), toks := tk }) ho2 rfl ?_ (by rw [hs2, hsz1, sizeLine_eq]; lia))
        exact wpAny_pure ⟨true, rfl, h _ _ _ _ _ _ (sb.trans (Heap.SameBut.update _ a _)) (so_update ho2 es2 t3) T3 (hel1.perm hp) (.inr ⟨hp.trans hperm, hno⟩) hle⟩
      · exact wpAny_pure ⟨true, rfl, h _ _ _ _ _ _ sb ho2 T2 hel1 (.inr ⟨hperm, hno⟩) hle⟩
    have fin : ∀ t2 : SetTable, Tb led t2 es1.size → ∀ (g : Bool → Sem Unit), (∀ (b : Bool) (s₁ : Shared) (Q' : Unit → Shared → Prop), Q' () s₁ → wpAny (model prog w) A (g b) Q' E s₁) → wpAny (model prog w) A (do
        storeSet a es1 t2
        if (!wasDummy && t2.tooFull) = true then do
            g (relayAll t2 es1 (SetTable.grown es1.size)).2.2
            storeSet a (relayAll t2 es1 (SetTable.grown es1.size)).1 (relayAll t2 es1 (SetTable.grown es1.size)).2.1
            pure (some true)
          else pure (some true)) (fun __do_lift s' => wpAny (model prog w) A (match __do_lift with | some added => pure added | none => setAddHashedIn a (.int k tx) (hashInt k) 99999) Q E s') E { s with toks := tk } := by
      intro t2 T2 g hg
      refine wpAny_mono (rest t2 T2 g hg) (fun r s' hr => ?_) fun _ _ x => x
      obtain ⟨b, rfl, hq⟩ := hr
      exact wpAny_pure hq
    split
    · refine wpAny_bind ?_
      rw [hashByValue_scannable 8 rfl]
      refine wpAny_pure ?_
      refine fin _ ?_ _ ?_
      · split
        · exact T1
        · exact T1.unplain
      · intro b s₁ Q' hq; cases b <;> first | exact wpAny_pure hq | exact wpAny_rule hq
    · refine wpAny_bind (wpAny_pure ?_)
      simp only [↓reduceIte]
      refine fin _ T1 _ ?_
      intro b s₁ Q' hq; cases b <;> first | exact wpAny_pure hq | exact wpAny_rule hq
end
noncomputable abbrev ledOf (w : World) : Bool := !w.params.followText "set-order"
/-- what was in h is in h' -/
noncomputable def Old (h h' : PySem.Heap) : Prop := ∀ b o, h.get? b = some o → h'.get? b = some o

section
variable {prog : Program} {w : World} {A : Around} {R : Result → Shared → Prop} {I : Addr} {fp wr : List Addr} {G : Array GenState → Array GenState → Prop} {n : Nat} {P : Nat → Value → Prop} {St : Nat → Shared → Prop}

theorem set_loop (W : WalksS prog w A.in1 I fp wr G n P St) (S : Addr) (hSf : S ∉ fp) (h0 : PySem.Heap) (hS0 : h0.get? S = none) (hw0 : ∀ b ∈ wr, h0.get? b = none) (Inv : Nat → Array (Int × Value) → SetTable → Prop)
    (step : ∀ i v (s : Shared) es ep t (Q : Bool → Shared → Prop) (E : Value → Shared → Prop), i < n → P i v → Old h0 s.heap → s.heap.get? S = some (so es ep t) → Inv i es t →
      (∀ b h' es' ep' t' tk, Heap.SameBut S s.heap h' → h'.get? S = some (so es' ep' t') → Inv (i + 1) es' t' → s.toks ≤ tk → Q b { s with heap := h', toks := tk }) → wpAny (model prog w) A.in1 (setAdd S v) Q E s) :
    ∀ (k i : Nat) (s : Shared) es ep t, n - i = k → i ≤ n → St i s → Old h0 s.heap → s.heap.get? S = some (so es ep t) → Inv i es t →
      (∀ s' es' ep' t', Moved (S :: wr) G s s' → Old h0 s'.heap → s'.heap.get? S = some (so es' ep' t') → Inv n es' t' → R (.ok (.ret .none)) s') →
      codeAny (model prog w) A (.builtin "set.update.loop" ⟨[.ref S, .ref I], []⟩) R s := by
  have hSw : S ∉ wr := fun h => hSf (W.sub _ h)
  have hsub : ∀ b ∈ wr, b ∈ S :: wr := fun b hb => List.mem_cons_of_mem _ hb
  have old : ∀ {s s' : Shared}, Old h0 s.heap → Moved (S :: wr) G s s' → Old h0 s'.heap := fun ho hm b o e => hm.heap b o (by
    intro hb
    rcases List.mem_cons.mp hb with rfl | hb
    · rw [hS0] at e; cases e
    · rw [hw0 b hb] at e; cases e) (ho b o e)
  intro k
  induction k with
  | zero =>
    intro i s es ep t hk hi hst ho hS hI hR
    have hin : i = n := by lia
    subst hin
    refine codeAny_builtin F.entry_set_update_loop ?_
    rw [Around.under_plainId F.plain_set_update_loop _]
    show wpAny _ A.in1 (pyNext (.ref I) >>= _) _ _ s
    refine wpAny_bind (W.done s _ _ hst fun s' hm => ?_)
    show wpAny _ A.in1 (ret Value.none) _ _ s'
    exact wpAny_pure (hR s' es ep t (hm.mono hsub) (old ho (hm.mono hsub)) (hm.heap S _ hSw hS) hI)
  | succ k ih =>
    intro i s es ep t hk hi hst ho hS hI hR
    have hlt : i < n := by lia
    refine codeAny_builtin F.entry_set_update_loop ?_
    rw [Around.under_plainId F.plain_set_update_loop _]
    show wpAny _ A.in1 (pyNext (.ref I) >>= _) _ _ s
    refine wpAny_bind (W.item i s _ _ hlt hst fun v s' hP hst' hm => ?_)
    have hm' := hm.mono hsub
    show wpAny _ A.in1 (holding [v] (setAdd S v) >>= _) _ _ s'
    refine wpAny_bind (wpAny_holding ?_)
    refine step i v s' es ep t _ _ hlt hP (old ho hm') (hm.heap S _ hSw hS) hI fun b h' es' ep' t' tk sb hS' hI' htk => ?_
    have hm2 : Moved (S :: wr) G s { s' with heap := h', toks := tk } := hm'.then_heap htk fun b o hb e => by rw [sb.2 b (fun h : b = S => hb (by rw [h]; exact List.mem_cons_self))]; exact e
    refine wpAny_pure ⟨plainId_quiet F.plain_set_update_loop _, ih (i + 1) _ es' ep' t' (by lia) hlt (W.frame _ s' _ _ hst' htk fun b hb o e => ?_) (old ho hm2) hS' hI' fun s'' es'' ep'' t'' hm'' ho'' hS'' hI'' => ?_⟩
    · rw [sb.2 b (fun h : b = S => hSf (by rw [← h]; exact hb))]; exact e
    · exact hR s'' es'' ep'' t'' (Moved.trans W.gtrans hm2 hm'') ho'' hS'' hI''
end

section
variable {prog : Program} {w : World} {A : Around} {E : Value → Shared → Prop} {s : Shared}

theorem code_set_new (a : Value) {Q₁ : Value → Shared → Prop} (h : Q₁ (.ref s.heap.objs.size) { s with heap := s.heap.push (so #[] 0 (.fresh 0 0 (ledOf w))) }) :
    codeAny (model prog w) A (.call (.builtin "set.__new__") ⟨[.type "set", a], []⟩) (wants Q₁ E) s := by
  refine codeAny_of_tree ?_
  show wpAny _ A.in1 (do checkBuiltinCall "set.__new__" ⟨[.type "set", a], []⟩; again (.builtin "set.__new__" ⟨[.type "set", a], []⟩)) _ _ s
  refine wpAny_bind (wpAny_of_eq (F.newCall_set_1 a) (wpAny_pure ⟨plainId_quiet F.plain_set_new _, codeAny_builtin F.entry_set_new ?_⟩))
  rw [Around.under_plainId F.plain_set_new _]
  unfold Builtin.«set.__new__» Builtin.Frozenset.newClass
  have hsub := sub_set_self
  obtain ⟨hp, g, d, tk, os⟩ := s
  dsimp only
  wp_walk
  refine wpAny_askSetting (wpAny_pure ?_)
  dsimp only
  simp only [newObj]
  refine wpAny_bind (wpAny_alloc (wpAny_pure ?_))
  exact wpAny_pure h

set_option maxHeartbeats 3200000 in
theorem call_set {l : Addr} {items : Array Value} {Q : Value → Shared → Prop} (hh : A.handled = none) (hl : s.heap.IsList l items) (Inv : Nat → Array (Int × Value) → SetTable → Prop) (I0 : Inv 0 #[] (.fresh 0 0 (ledOf w)))
    (step : ∀ i v (s' : Shared) S es ep t (A' : Around) (Q : Bool → Shared → Prop) (E : Value → Shared → Prop), A'.units ≤ A.units + 20 → i < items.size → items[i]? = some v → Old s.heap s'.heap → s'.heap.get? S = some (so es ep t) → Inv i es t →
      (∀ b h' es' ep' t' tk, Heap.SameBut S s'.heap h' → h'.get? S = some (so es' ep' t') → Inv (i + 1) es' t' → s'.toks ≤ tk → Q b { s' with heap := h', toks := tk }) → wpAny (model prog w) A' (setAdd S v) Q E s')
    (h : ∀ (h' : PySem.Heap) (tk : Nat) es ep t, Old s.heap h' → h'.get? s.heap.objs.size = some (so es ep t) → Inv items.size es t → Q (.ref s.heap.objs.size) { s with heap := h', toks := tk }) :
    wpAny (model prog w) A (call (.type "set") [.ref l]) Q E s := by
  obtain ⟨c, tl, hmro⟩ := F.called_set.mro
  have hmade := F.called_set.made
  have hsub := F.called_set.sub
  refine wpAny_call (codeAny_of_tree ?_)
  show wpAny _ _ (callAny (.type "set") _) _ _ _
  refine wpAny_pure ⟨Code.quiet_builtin _ (by decide +kernel), codeAny_builtin F.entry_type_call ?_⟩
  rw [Around.under_plain (weight_type_call_type "set" [.ref l] []) rfl]
  have h1 := F.called_set.notType
  have h2 := F.called_set.canCreate
  have hct := F.typeCall_set_1 (.ref l)
  repeat (any_goals (first | assumption | wp_step))
  refine codeAny_mono (code_set_new (.ref l) (E := E) (Q₁ := fun obj s₁ => obj = .ref s.heap.objs.size ∧ s₁ = { s with heap := s.heap.push (so #[] 0 (.fresh 0 0 (ledOf w))) }) ⟨rfl, rfl⟩) fun r s₁ hr => ?_
  cases r with
  | error e => exact hr
  | ok fl =>
    cases fl with
    | ret obj =>
      obtain ⟨rfl, rfl⟩ := hr
      have hS : (s.heap.push (so #[] 0 (.fresh 0 0 (ledOf w)))).get? s.heap.objs.size = some (so #[] 0 (.fresh 0 0 (ledOf w))) := Heap.get?_push_size _ rfl
      have hT : Shared.TypeIs { s with heap := s.heap.push (so #[] 0 (.fresh 0 0 (ledOf w))) } (.ref s.heap.objs.size) "set" := ⟨_, hS, rfl⟩
      have hli := F.called_set.init.lookup
      have hbi := F.called_set.init.bind (.ref s.heap.objs.size)
      repeat (any_goals (first | assumption | wp_step))
      refine codeAny_mono (codeAny_call_builtin (R := wants (fun r s₂ => r = .none ∧ ∃ h' tk es ep t, s₂ = { s with heap := h', toks := tk } ∧ Old s.heap h' ∧ h'.get? s.heap.objs.size = some (so es ep t) ∧ Inv items.size es t) E) F.called_set.init.plain F.entry_set_init (check_set_init_1 hT ?_)) fun r₂ s₂ hr₂ => ?_
      · have hl0 := hl
        obtain ⟨ol, hol, hcl, nl, hdl⟩ := hl
        obtain ⟨ocls, odict, odata, oslots⟩ := ol
        simp only at hcl hdl
        subst hcl; subst hdl
        have hol' : (s.heap.push (so #[] 0 (.fresh 0 0 (ledOf w)))).get? l = some { cls := .type "list", dict := odict, data := .seq items nl, slots := oslots } := Heap.get?_push_of_some _ hol
        have hsls := F.sub_list_set
        have hslf := F.sub_list_frozenset
        have hne : (Value.type "list" == Value.type "dict") = false := by decide
        have hl1 : (s.heap.push (so #[] 0 (.fresh 0 0 (ledOf w)))).IsList l items := ⟨_, hol', rfl, nl, rfl⟩
        unfold Builtin.«set.__init__» noKeywords Builtin.Frozenset.updateFrom
        generalize hPI : pyIter = PI
        wp_walk
        subst hPI
        refine wpAny_pyIter_list hl1 ?_
        refine wpAny_bind (wpAny_runValue ?_)
        have hlS : l < s.heap.objs.size := Heap.lt_size hol
        have hh3 : A.in1.in1.in1.handled = none := by simp [hh]
        have hneI : l ≠ (s.heap.push (so #[] 0 (.fresh 0 0 (ledOf w)))).objs.size := by
          rw [Heap.size_push]; exact Nat.ne_of_lt (Nat.lt_succ_of_lt hlS)
        have hSf : s.heap.objs.size ∉ [(s.heap.push (so #[] 0 (.fresh 0 0 (ledOf w)))).objs.size, l] := by
          rw [Heap.size_push]; simp only [List.mem_cons, List.mem_singleton, List.not_mem_nil, or_false, not_or]
          exact ⟨Nat.ne_of_lt (Nat.lt_succ_self _), Nat.ne_of_gt hlS⟩
        have hget : ((s.heap.push (so #[] 0 (.fresh 0 0 (ledOf w)))).push { cls := .type "list_iterator", data := .fields #[.ref l, .int 0 0] }).get? s.heap.objs.size
            = some (so #[] 0 (.fresh 0 0 (ledOf w))) := Heap.get?_push_of_some _ hS
        refine set_loop ((Walks.list hh3 _ l hneI items).toS) s.heap.objs.size hSf s.heap (Heap.get?_none_of_le (Nat.le_refl _)) (fun b hb => Heap.get?_none_of_le (by
            rw [List.mem_singleton.mp hb, Heap.size_push]; exact Nat.le_succ _)) Inv
          (fun i v s' es ep t Q E hi hP ho hS hI hQ => step i v s' _ es ep t _ Q E ?hu hi hP ho hS hI hQ) (items.size - 0) 0 _ _ _ _ (by lia) (Nat.zero_le _)
          ⟨⟨_, Heap.get?_push_size _ rfl, rfl, rfl⟩, (hl1.push _)⟩ (fun b o e => Heap.get?_push_of_some _ (Heap.get?_push_of_some _ e)) hget I0 ?hR
        case hu =>
          first | exact Nat.le_refl _ | (show A.units + _ ≤ A.units + 20; lia) | (simp only [Around.in1]; lia)
        case hR =>
          intro s' es ep t hm ho hS' hI'
          obtain ⟨h', g', d', tk', os'⟩ := s'
          have eg : g' = s.gens := hm.gens
          have ed : d' = s.drawn := hm.drawn
          have eo : os' = s.os := hm.os
          subst eg; subst ed; subst eo
          show wpAny _ _ _ _ _ _
          refine wpAny_pure ?_
          show wpAny _ _ (ret Value.none) _ _ _
          exact wpAny_pure ⟨rfl, h', tk', es, ep, t, rfl, ho, hS', hI'⟩
      · cases r₂ with
        | error e => exact hr₂
        | ok fl₂ =>
          cases fl₂ with
          | ret r =>
            obtain ⟨rfl, h', tk, es, ep, t, rfl, ho, hS', hI'⟩ := hr₂
            repeat (any_goals (first | assumption | wp_step))
            exact h _ _ _ _ _ ho hS' hI'
          | _ => exact hr₂.elim
    | _ => exact hr.elim
end
/-! ### walking a set -/
theorem slot_si_next : Slot "set_iterator" "__next__" "set_iterator.__next__" :=
  .of (owner := "set_iterator") (n := "__next__") (by rw [typeLookup_type, builtinLookup_eq_fast]; kernel_rfl) (by decide +kernel) (by decide +kernel) (by decide +kernel)
    (by first | exact .inl (by decide +kernel) | exact .inr (by decide +kernel)) (by rw [isSubtype_type]; kernel_rfl)
theorem entry_si_next : entryFor table "set_iterator.__next__" = some Builtin.«set_iterator.__next__» := entryFor_of_tree (by kernel_rfl)
theorem args_si_next (a : Value) : argsOk "set_iterator.__next__" ⟨[a], []⟩ := by unfold argsOk; kernel_rfl
theorem slot_si_iter : Slot "set_iterator" "__iter__" "set_iterator.__iter__" :=
  .of (owner := "set_iterator") (n := "__iter__") (by rw [typeLookup_type, builtinLookup_eq_fast]; kernel_rfl) (by decide +kernel) (by decide +kernel) (by decide +kernel)
    (by first | exact .inl (by decide +kernel) | exact .inr (by decide +kernel)) (by rw [isSubtype_type]; kernel_rfl)
theorem entry_si_iter : entryFor table "set_iterator.__iter__" = some Builtin.«dict_keyiterator.__iter__» :=
  entryFor_alias (id' := "dict_keyiterator.__iter__") (by kernel_rfl) rfl (by decide +kernel) (by kernel_rfl)
theorem args_si_iter (a : Value) : argsOk "set_iterator.__iter__" ⟨[a], []⟩ := by unfold argsOk; kernel_rfl
theorem entry_s_iter : entryFor table "set.__iter__" = some Builtin.«frozenset.__iter__» :=
  entryFor_alias (id' := "frozenset.__iter__") (by kernel_rfl) rfl (by decide +kernel) (by kernel_rfl)
noncomputable abbrev itObj (first : Value) (i : Nat) (a : Addr) (n ep : Nat) : Obj := { cls := .type "set_iterator", dict := none, data := .fields #[first, .int i 0, .ref a, .int n 0, .int ep 0], slots := #[] }
section
variable {prog : Program} {w : World} {A : Around} {E : Value → Shared → Prop} {s : Shared} {a I : Addr} {es : Array (Int × Value)} {ep : Nat} {t : SetTable} {led : Bool}

theorem wpAny_choose' {M : Model} {src : Source} {n : Nat} {Q : Nat → Shared → Prop} (hn : n ≠ 0) (h : ∀ k dr, k < n → Q k { s with drawn := dr }) : wpAny M A (choose src n) Q E s := fun Γ p _ => by
  show Sem.wp M Γ (.choose src n Sem.pure) _ _ p s
  rw [Sem.wp_choose]
  exact ⟨hn, h _ _ (Nat.mod_lt _ (Nat.pos_of_ne_zero hn))⟩

theorem erase_perm {α : Type} : ∀ (l : List α) (i : Nat) (h : i < l.length), (l[i] :: l.eraseIdx i).Perm l
  | [], i, h => absurd h (Nat.not_lt_zero _)
  | x :: l, 0, _ => List.Perm.refl _
  | x :: l, i + 1, h => by
    show ((l[i]'(by simpa using h)) :: x :: l.eraseIdx i).Perm (x :: l)
    exact (List.Perm.swap _ _ _).trans ((erase_perm l i (by simpa using h)).cons x)
theorem draw_ok {α : Type} {M : Model} : ∀ (n : Nat) (xs : List α) {Q : List α → Shared → Prop} {s : Shared}, xs.length = n → (∀ ys dr, ys.Perm xs → Q ys { s with drawn := dr }) → wpAny M A (drawOrder n xs) Q E s
  | 0, xs, Q, s, hn, h => by
    unfold drawOrder
    have : xs = [] := List.length_eq_zero_iff.mp hn
    subst this
    exact wpAny_pure (h [] s.drawn (List.Perm.refl _))
  | n + 1, [], Q, s, hn, h => by simp at hn
  | n + 1, x :: xs, Q, s, hn, h => by
    unfold drawOrder
    refine wpAny_bind (wpAny_choose' (by simp) fun k dr hk => ?_)
    have e : (x :: xs)[k]? = some (x :: xs)[k] := List.getElem?_eq_getElem hk
    rw [e]
    dsimp only
    refine wpAny_bind (draw_ok n _ (by rw [List.length_eraseIdx, if_pos hk, hn]; rfl) fun ys dr' hp => ?_)
    refine wpAny_pure (h _ _ ?_)
    refine (hp.cons _).trans ?_
    exact erase_perm _ _ hk

theorem pick_ok {α : Type} (next : Nat → Nat) : ∀ (f k : Nat) (left : List α) (out : Array α), left.length = f → (pickOrder.go next f k left out).toList.Perm (out.toList ++ left)
  | 0, k, left, out, h => by
    have : left = [] := List.length_eq_zero_iff.mp h
    subst this
    unfold pickOrder.go; simp
  | f + 1, k, left, out, h => by
    unfold pickOrder.go
    have hk : next k % left.length < left.length := Nat.mod_lt _ (by lia)
    rw [List.getElem?_eq_getElem hk]
    dsimp only
    refine (pick_ok next f _ _ _ (by rw [List.length_eraseIdx, if_pos hk, h]; rfl)).trans ?_
    rw [Array.toList_push, List.append_assoc]
    exact (erase_perm _ _ hk).append_left out.toList
theorem pick_perm {α : Type} (next : Nat → Nat) (xs : Array α) : (pickOrder next xs).toList.Perm xs.toList := by
  unfold pickOrder
  simpa using pick_ok next xs.size 0 xs.toList #[] (by simp)

theorem si_typeIs {first : Value} {i n : Nat} (hit : s.heap.get? I = some (itObj first i a n ep)) : s.TypeIs (.ref I) "set_iterator" := ⟨_, hit, rfl⟩

/-- the end of any walk over a set -/
theorem si_end {first : Value} {i n : Nat} {Q : Option Value → Shared → Prop} (hh : A.handled = none) (hit : s.heap.get? I = some (itObj first i a n ep))
    (hb : ∀ {A' : Around} {E' : Value → Shared → Prop} {Q' : PySem.Fin → Shared → Prop}, A'.handled = none → (∀ h' v', (∀ b o, b ≠ I → s.heap.get? b = some o → h'.get? b = some o) → Shared.TypeIs { s with heap := h' } v' "StopIteration" → E' v' { s with heap := h' }) → wpAny (model prog w) A' (Builtin.«set_iterator.__next__» ⟨[.ref I], []⟩) Q' E' s)
    (hQ : ∀ h', (∀ b o, b ≠ I → s.heap.get? b = some o → h'.get? b = some o) → Q none { s with heap := h' }) : wpAny (model prog w) A (pyNext (.ref I)) Q E s := by
  unfold pyNext
  refine wpAny_bind (wpAny_attempt (wpAny_callSpecial?_slot (name := Str.ofString "__next__") (si_typeIs hit) slot_si_next
    (wpAny_call_entry slot_si_next (si_typeIs hit) entry_si_next ?_ (args_si_next _))))
  refine hb hh fun h' v' hk hT => ?_
  refine wpAny_bind (wpAny_isInstance (T := "StopIteration") (b := true) hT isSubtype_stop ?_)
  exact wpAny_pure (hQ _ hk)

theorem stop_raise {Q : PySem.Fin → Shared → Prop} {h0 : PySem.Heap} (hh : A.handled = none) (hk : ∀ b o, b ≠ I → h0.get? b = some o → s.heap.get? b = some o)
    (h : ∀ h' v', (∀ b o, b ≠ I → h0.get? b = some o → h'.get? b = some o) → Shared.TypeIs { s with heap := h' } v' "StopIteration" → E v' { s with heap := h' }) :
    wpAny (model prog w) A (newExc (.type "StopIteration") [] >>= fun e => raiseNew e) Q E s := by
  refine wpAny_bind ?_
  simp only [newExc, newTuple]
  refine wpAny_bind (wpAny_newObj_type ?_ (by size_fits))
  refine wpAny_bind (m := firstArgMember _ _) (wpAny_of_eq (a := Value.none) (by first | rfl | (simp only [firstArgMember]; rfl)) ?_)
  refine wpAny_newObj_type ?_ (by size_fits)
  simp only [raiseNew]
  refine wpAny_bind (wpAny_handled ?_)
  rw [hh]
  refine wpAny_bind (wpAny_pure (wpAny_throw ?_))
  refine h _ _ (fun b o hb e => ?_) ⟨_, Heap.get?_push_size _ rfl, rfl⟩
  exact Heap.get?_push_of_some _ (Heap.get?_push_of_some _ (hk b o hb e))

theorem it_update {h : PySem.Heap} {first : Value} {i n : Nat} (hit : h.get? I = some (itObj first i a n ep)) (j : Nat) (x : Value) :
    (h.update I (Obj.mapFields (·.setIfInBounds j x))).get? I = some { itObj first i a n ep with data := .fields (#[first, .int i 0, .ref a, .int n 0, .int ep 0].setIfInBounds j x) } :=
  Heap.get?_update_self _ hit rfl

/-- one step of a walk over a set -/
theorem si_item {first : Value} {i n : Nat} {v : Value} {Q : Option Value → Shared → Prop} (X : PySem.Heap → Prop) (hit : s.heap.get? I = some (itObj first i a n ep))
    (hb : ∀ {A' : Around} {E' : Value → Shared → Prop} {Q' : PySem.Fin → Shared → Prop}, (∀ h', X h' → Q' (.done (.ret v)) { s with heap := h' }) → wpAny (model prog w) A' (Builtin.«set_iterator.__next__» ⟨[.ref I], []⟩) Q' E' s)
    (hQ : ∀ h', X h' → Q (some v) { s with heap := h' }) : wpAny (model prog w) A (pyNext (.ref I)) Q E s := by
  unfold pyNext
  refine wpAny_bind (wpAny_attempt (wpAny_callSpecial?_slot (name := Str.ofString "__next__") (si_typeIs hit) slot_si_next
    (wpAny_call_entry slot_si_next (si_typeIs hit) entry_si_next ?_ (args_si_next _))))
  exact hb fun h' hx => ⟨_, rfl, wpAny_pure (hQ h' hx)⟩

section
variable {first : Value} {i slot : Nat} {Q : PySem.Fin → Shared → Prop}
/-- the part of a step that is the same on every road -/
theorem si_head {first : Value} {i : Nat} {Q : PySem.Fin → Shared → Prop} (hit : s.heap.get? I = some (itObj first i a es.size ep)) (ho : s.heap.get? a = some (so es ep t)) (T : Tb led t es.size)
    (h : wpAny (model prog w) A (if let .int slot _ := first then (do
        match ← setNext a slot.toNat i ep with
        | some (x, next) =>
          setField (.ref I) 0 (rawInt next)
          setField (.ref I) 1 (rawInt (i + 1 : Nat))
          ret x
        | none => setField (.ref I) 2 .none; raiseNew (← newExc (.type "StopIteration") []))
      else (do
        let some places ← seqItems? first | unsupported "internal:set_iterator"
        match places[i]? with
        | some (.int place _) =>
          let x ← setNextDrawn a place.toNat ep
          setField (.ref I) 1 (rawInt (i + 1 : Nat))
          ret x
        | some _ => unsupported "internal:set_iterator"
        | none => setField (.ref I) 0 (rawInt 0); setField (.ref I) 2 .none; raiseNew (← newExc (.type "StopIteration") []))) Q E s) :
    wpAny (model prog w) A (Builtin.«set_iterator.__next__» ⟨[.ref I], []⟩) Q E s := by
  unfold Builtin.«set_iterator.__next__»
  refine wpAny_bind (wpAny_pure ?_)
  dsimp only
  refine wpAny_bind (wpAny_fieldsOf hit rfl ?_)
  dsimp only
  refine wpAny_bind (wpAny_setEntries_of ho rfl T.fit ?_)
  rw [if_neg (by simp)]
  simp only [Int.toNat_natCast]
  exact h
end
end
section
variable {prog : Program} {w : World} {A : Around} {E : Value → Shared → Prop} {s : Shared} {a I : Addr} {es : Array (Int × Value)} {ep : Nat} {t : SetTable} {led : Bool}

theorem below_zero {xs : Array Nat} (hp : xs.toList.Pairwise (· < ·)) : SetTable.below xs 0 = 0 := by
  obtain ⟨_, b2, _⟩ := below_spec xs hp 0
  by_cases h : 0 < SetTable.below xs 0
  · exact absurd (b2 0 h) (Nat.not_lt_zero _)
  · lia
theorem below_succ {xs : Array Nat} (hp : xs.toList.Pairwise (· < ·)) {i : Nat} (hi : i < xs.size) : SetTable.below xs (xs[i] + 1) = i + 1 := by
  obtain ⟨b1, b2, b3⟩ := below_spec xs hp (xs[i] + 1)
  have e : xs.getD i 0 = xs[i] := by simp [Array.getD, hi]
  have h1 : i < SetTable.below xs (xs[i] + 1) := by
    by_cases q : i < SetTable.below xs (xs[i] + 1)
    · exact q
    · have := b3 i (by lia) hi; lia
  by_cases h2 : i + 1 < SetTable.below xs (xs[i] + 1)
  · have h3 := b2 (i + 1) h2
    have h4 := inc_lt hp (show i < i + 1 by lia) (by lia)
    lia
  · lia

theorem wpAny_byText {Q : Bool → Shared → Prop} (h : Q (w.params.followText "set-order") s) : wpAny (model prog w) A setsByText Q E s := by
  unfold setsByText
  exact wpAny_bind (wpAny_askSetting (wpAny_pure h))

theorem walk_byText (hbt : w.params.followText "set-order" = true) (ho : s.heap.get? a = some (so es ep t)) (T : Tb led t es.size) {Q : Array (Int × Value) → Shared → Prop} (h : Q (pickOrder (w.params.setOrder a ep) es) s) : wpAny (model prog w) A (setWalk a) Q E s := by
  unfold setWalk
  refine wpAny_bind (wpAny_setState_of ho rfl T.fit ?_)
  dsimp only
  refine wpAny_bind (wpAny_byText ?_)
  rw [hbt, if_pos rfl]
  exact wpAny_bind (wpAny_askSetting (wpAny_pure h))

theorem next_byText (hbt : w.params.followText "set-order" = true) (ho : s.heap.get? a = some (so es ep t)) (T : Tb led t es.size) {slot i : Nat} {Q : Option (Value × Nat) → Shared → Prop}
    (h : Q (((pickOrder (w.params.setOrder a ep) es)[i]?).map fun e => (e.2, slot)) s) : wpAny (model prog w) A (setNext a slot i ep) Q E s := by
  unfold setNext
  refine wpAny_bind (wpAny_setState_of ho rfl T.fit ?_)
  dsimp only
  refine wpAny_bind (wpAny_byText ?_)
  rw [hbt, if_pos rfl]
  rw [if_neg (by simp)]
  exact wpAny_bind (walk_byText hbt ho T (wpAny_pure h))

theorem next_slot (hbt : w.params.followText "set-order" = false) (hd : t.plain = true ∨ es.size ≤ 1) (ho : s.heap.get? a = some (so es ep t)) (T : Tb (ledOf w) t es.size) {slot i : Nat} {Q : Option (Value × Nat) → Shared → Prop}
    (h : Q (match es[SetTable.below t.place slot]?, t.place[SetTable.below t.place slot]? with | some (_, x), some j => some (x, j + 1) | _, _ => none) s) : wpAny (model prog w) A (setNext a slot i ep) Q E s := by
  have hl : t.led = true := by rw [T.led]; show (!w.params.followText "set-order") = true; rw [hbt]; rfl
  unfold setNext
  refine wpAny_bind (wpAny_setState_of ho rfl T.fit ?_)
  dsimp only
  refine wpAny_bind (wpAny_byText ?_)
  rw [hbt, if_neg (by simp)]
  split
  · rename_i hdr
    have hdr' : (!t.plain && decide (es.size > 1)) = true := hdr
    rcases hd with hd | hd
    · rw [hd] at hdr'; cases hdr'
    · simp only [Bool.and_eq_true, decide_eq_true_eq] at hdr'; lia
  · refine wpAny_bind ?_
    show wpAny _ _ (if (!t.led && !es.isEmpty) = true then unsupported "set:maker-not-led" else pure ()) _ _ _
    rw [hl, if_neg (by simp)]
    exact wpAny_pure (wpAny_pure h)

/-- the roads by slots: the order, and what the slot says after i items -/
structure SlotRoad (prog : Program) (w : World) (a : Addr) (es : Array (Int × Value)) (ep : Nat) (t : SetTable) (ord : List Value) (ok : Nat → Nat → Prop) : Prop where
  perm : ord.Perm (es.toList.map (·.2))
  zero : ok 0 0
  item : ∀ {A : Around} {E : Value → Shared → Prop} {s : Shared} {slot i : Nat} {v : Value} {Q : Option (Value × Nat) → Shared → Prop}, s.heap.get? a = some (so es ep t) → ok slot i → ord[i]? = some v → (∀ nx, ok nx (i + 1) → Q (some (v, nx)) s) → wpAny (model prog w) A (setNext a slot i ep) Q E s
  done : ∀ {A : Around} {E : Value → Shared → Prop} {s : Shared} {slot : Nat} {Q : Option (Value × Nat) → Shared → Prop}, s.heap.get? a = some (so es ep t) → ok slot es.size → Q none s → wpAny (model prog w) A (setNext a slot es.size ep) Q E s

theorem SlotRoad.text (hbt : w.params.followText "set-order" = true) (T : Tb led t es.size) : SlotRoad prog w a es ep t ((pickOrder (w.params.setOrder a ep) es).toList.map (·.2)) (fun _ _ => True) where
  perm := (pick_perm _ es).map _
  zero := trivial
  item := fun {A E s slot i v Q} ho _ hv h => next_byText hbt ho T (by
    rw [List.getElem?_map, Array.getElem?_toList] at hv
    obtain ⟨e, he, rfl⟩ := Option.map_eq_some_iff.mp hv
    rw [he]; exact h slot trivial)
  done := fun {A E s slot Q} ho _ h => next_byText hbt ho T (by
    have : (pickOrder (w.params.setOrder a ep) es).size = es.size := by rw [← Array.length_toList, (pick_perm _ es).length_eq, Array.length_toList]
    rw [Array.getElem?_eq_none (Nat.le_of_eq this)]; exact h)
theorem SlotRoad.slots (hbt : w.params.followText "set-order" = false) (hd : t.plain = true ∨ es.size ≤ 1) (T : Tb (ledOf w) t es.size) : SlotRoad prog w a es ep t (es.toList.map (·.2)) (fun slot i => SetTable.below t.place slot = i) where
  perm := List.Perm.refl _
  zero := below_zero T.inc
  item := fun {A E s slot i v Q} ho hs hv h => next_slot hbt hd ho T (by
    rw [List.getElem?_map, Array.getElem?_toList] at hv
    obtain ⟨e, he, rfl⟩ := Option.map_eq_some_iff.mp hv
    obtain ⟨hi, _⟩ := Array.getElem?_eq_some_iff.mp he
    have hi' : i < t.place.size := by rw [T.sz]; exact hi
    rw [hs, he, Array.getElem?_eq_getElem hi']
    exact h _ (below_succ T.inc hi'))
  done := fun {A E s slot Q} ho hs h => next_slot hbt hd ho T (by
    rw [hs, Array.getElem?_eq_none (Nat.le_refl _)]; exact h)

theorem Walks.setSlots {ord : List Value} {ok : Nat → Nat → Prop} (hh : A.handled = none) (hne : a ≠ I) (T : Tb led t es.size) (R : SlotRoad prog w a es ep t ord ok) :
    Walks prog w A I [I, a] [I] es.size (fun i v => ord[i]? = some v) (fun i h => (∃ slot, ok slot i ∧ h.get? I = some (itObj (.int slot 0) i a es.size ep)) ∧ h.get? a = some (so es ep t)) where
  sub := fun b hb => by simp at hb; simp [hb]
  frame := fun _ _ _ st hk => ⟨let ⟨sl, h1, h2⟩ := st.1; ⟨sl, h1, hk I (by simp) _ h2⟩, hk a (by simp) _ st.2⟩
  item := fun i s Q E hi st hQ => by
    obtain ⟨⟨slot, hok, hit⟩, ho⟩ := st
    have hlen : ord.length = es.size := by rw [R.perm.length_eq]; simp
    obtain ⟨v, hv⟩ : ∃ v, ord[i]? = some v := ⟨ord[i], List.getElem?_eq_getElem (by rw [hlen]; exact hi)⟩
    have all : ∀ nx, ok nx (i + 1) → Q (some v) { s with heap := (s.heap.update I (Obj.mapFields (·.setIfInBounds 0 (rawInt nx)))).update I (Obj.mapFields (·.setIfInBounds 1 (rawInt (i + 1 : Nat)))) } := fun nx hnx => by
      refine hQ v _ s.toks hv ⟨⟨nx, hnx, ?_⟩, ?_⟩ fun b o hb e => ?_
      · have h1 := it_update hit 0 (rawInt nx)
        have h2 := Heap.get?_update_self (Obj.mapFields (·.setIfInBounds 1 (rawInt (i + 1 : Nat)))) h1 rfl
        exact h2
      · exact (Heap.get?_update_other _ _ (Ne.symm hne)).trans ((Heap.get?_update_other _ _ (Ne.symm hne)).trans ho)
      · have hb' : I ≠ b := fun q => hb (by simp [q])
        exact (Heap.get?_update_other _ _ hb').trans ((Heap.get?_update_other _ _ hb').trans e)
    refine si_item (v := v) (fun h' => ∃ nx, ok nx (i + 1) ∧ h' = (s.heap.update I (Obj.mapFields (·.setIfInBounds 0 (rawInt nx)))).update I (Obj.mapFields (·.setIfInBounds 1 (rawInt (i + 1 : Nat))))) hit (fun {A' E' Q'} hq => ?_) ?_
    · refine si_head hit ho T ?_
      dsimp only
      rw [Int.toNat_natCast]
      refine wpAny_bind (R.item ho hok hv fun nx hnx => ?_)
      dsimp only
      refine wpAny_bind (wpAny_setField hit rfl (by simp) ?_)
      refine wpAny_bind (wpAny_setField (it_update hit 0 (rawInt nx)) rfl (by simp) ?_)
      exact wpAny_pure (hq _ ⟨nx, hnx, rfl⟩)
    · rintro h' ⟨nx, hnx, rfl⟩
      exact all nx hnx
  done := fun s Q E st hQ => by
    obtain ⟨⟨slot, hok, hit⟩, ho⟩ := st
    refine si_end hh hit (fun {A' E' Q'} hh' hq => ?_) fun h' hk => hQ h' s.toks fun b o hb e => hk b o (fun h => hb (by simp [h])) e
    refine si_head hit ho T ?_
    dsimp only
    rw [Int.toNat_natCast]
    refine wpAny_bind (R.done ho hok ?_)
    dsimp only
    refine wpAny_bind (wpAny_setField hit rfl (by simp) ?_)
    exact stop_raise (s := { s with heap := s.heap.update I (Obj.mapFields (·.setIfInBounds 2 .none)) }) hh' (fun b o hb e => (Heap.get?_update_other _ _ (Ne.symm hb)).trans e) hq
  self := fun i s Q E st hQ => by
    obtain ⟨⟨slot, hok, hit⟩, ho⟩ := st
    refine wpAny_pyIter_slot (si_typeIs hit) slot_si_iter (wpAny_call_entry slot_si_iter (si_typeIs hit) entry_si_iter ?_ (args_si_iter _))
    show wpAny _ _ (ret (.ref I)) _ _ s
    exact wpAny_pure ⟨_, rfl, "set_iterator", _, si_typeIs hit, slot_si_next.lookup, hQ⟩

theorem Walks.setDrawn {places : List Nat} {pl : Addr} (hh : A.handled = none) (hne : a ≠ I) (hpI : pl ≠ I) (T : Tb led t es.size) (hp : places.Perm (List.range es.size)) :
    Walks prog w A I [I, a, pl] [I] es.size (fun i v => (places.map fun j => (es.getD j (0, .none)).2)[i]? = some v)
      (fun i h => h.get? I = some (itObj (.ref pl) i a es.size ep) ∧ h.get? a = some (so es ep t) ∧ h.get? pl = some { cls := .type "tuple", dict := none, data := .seq (places.map fun (j : Nat) => rawInt j).toArray 0, slots := #[] }) where
  sub := fun b hb => by simp at hb; simp [hb]
  frame := fun _ _ _ st hk => ⟨hk I (by simp) _ st.1, hk a (by simp) _ st.2.1, hk pl (by simp) _ st.2.2⟩
  item := fun i s Q E hi st hQ => by
    obtain ⟨hit, ho, hpl⟩ := st
    have hlen : places.length = es.size := by rw [hp.length_eq]; simp
    obtain ⟨j, hj⟩ : ∃ j, places[i]? = some j := ⟨places[i], List.getElem?_eq_getElem (by rw [hlen]; exact hi)⟩
    have hjn : j < es.size := List.mem_range.mp (hp.mem_iff.mp (List.mem_of_getElem? hj))
    have hej : es[j]? = some es[j] := Array.getElem?_eq_getElem hjn
    refine si_item (v := es[j].2) (fun h' => h' = s.heap.update I (Obj.mapFields (·.setIfInBounds 1 (rawInt (i + 1 : Nat))))) hit (fun {A' E' Q'} hq => ?_) ?_
    · refine si_head hit ho T ?_
      dsimp only
      refine wpAny_bind (wpAny_seqItems hpl rfl ?_)
      dsimp only
      have e1 : (places.map fun (j : Nat) => rawInt j).toArray[i]? = some (.int (j : Int) 0) := by
        rw [List.getElem?_toArray, List.getElem?_map, hj]; rfl
      rw [e1]
      dsimp only
      refine wpAny_bind ?_
      unfold setNextDrawn
      refine wpAny_bind (wpAny_setState_of ho rfl T.fit ?_)
      dsimp only
      rw [if_neg (by simp), Int.toNat_natCast, hej]
      refine wpAny_pure ?_
      refine wpAny_bind (wpAny_setField hit rfl (by simp) ?_)
      exact wpAny_pure (hq _ rfl)
    · rintro h' rfl
      refine hQ _ _ s.toks ?_ ⟨it_update hit 1 (rawInt (i + 1 : Nat)), (Heap.get?_update_other _ _ (Ne.symm hne)).trans ho, (Heap.get?_update_other _ _ (Ne.symm hpI)).trans hpl⟩ fun b o hb e => (Heap.get?_update_other _ _ (fun q : I = b => hb (by simp [q]))).trans e
      rw [List.getElem?_map, hj]
      simp [Array.getD, hjn]
  done := fun s Q E st hQ => by
    obtain ⟨hit, ho, hpl⟩ := st
    have hlen : places.length = es.size := by rw [hp.length_eq]; simp
    refine si_end hh hit (fun {A' E' Q'} hh' hq => ?_) fun h' hk => hQ h' s.toks fun b o hb e => hk b o (fun h => hb (by simp [h])) e
    refine si_head hit ho T ?_
    dsimp only
    refine wpAny_bind (wpAny_seqItems hpl rfl ?_)
    dsimp only
    have e1 : (places.map fun (j : Nat) => rawInt j).toArray[es.size]? = none := by
      rw [List.getElem?_toArray, List.getElem?_eq_none (by simp [hlen])]
    rw [e1]
    dsimp only
    refine wpAny_bind (wpAny_setField hit rfl (by simp) ?_)
    refine wpAny_bind (wpAny_setField (it_update hit 0 (rawInt 0)) rfl (by simp) ?_)
    exact stop_raise (s := { s with heap := (s.heap.update I (Obj.mapFields (·.setIfInBounds 0 (rawInt 0)))).update I (Obj.mapFields (·.setIfInBounds 2 .none)) }) hh' (fun b o hb e => (Heap.get?_update_other _ _ (Ne.symm hb)).trans ((Heap.get?_update_other _ _ (Ne.symm hb)).trans e)) hq
  self := fun i s Q E st hQ => by
    obtain ⟨hit, ho, hpl⟩ := st
    refine wpAny_pyIter_slot (si_typeIs hit) slot_si_iter (wpAny_call_entry slot_si_iter (si_typeIs hit) entry_si_iter ?_ (args_si_iter _))
    show wpAny _ _ (ret (.ref I)) _ _ s
    exact wpAny_pure ⟨_, rfl, "set_iterator", _, si_typeIs hit, slot_si_next.lookup, hQ⟩
theorem drawn_perm {places : List Nat} (hp : places.Perm (List.range es.size)) : (places.map fun j => (es.getD j (0, .none)).2).Perm (es.toList.map (·.2)) := by
  have e : es.toList.map (·.2) = (List.range es.size).map fun j => (es.getD j (0, .none)).2 := by
    refine List.ext_getElem (by simp) fun i h1 h2 => ?_
    have hi : i < es.size := by simpa using h1
    simp [Array.getD, hi]
  rw [e]
  exact hp.map _

/-- a walk over a set starts -/
theorem iter_set {Q : Value → Shared → Prop} (ho : s.heap.get? a = some (so es ep t)) (T : Tb (ledOf w) t es.size) (hz : es.size ≤ 1000)
    (h : ∀ (ord : List Value) I fp (St : Nat → PySem.Heap → Prop) h' dr, ord.Perm (es.toList.map (·.2)) → (∀ A' : Around, A'.handled = none → Walks prog w A' I fp [I] es.size (fun i v => ord[i]? = some v) St) → St 0 h' → Old s.heap h' → (∀ b ∈ fp, b = a ∨ s.heap.objs.size ≤ b) → s.heap.objs.size ≤ I →
      Q (.ref I) { s with heap := h', drawn := dr }) : wpAny (model prog w) A (pyIter (.ref a)) Q E s := by
  have hT : s.TypeIs (.ref a) "set" := ⟨_, ho, rfl⟩
  have haL : a < s.heap.objs.size := Heap.lt_size ho
  refine wpAny_pyIter_slot hT F.slot_set_iter (wpAny_call_entry F.slot_set_iter hT entry_s_iter ?_ (F.args_set_iter_1 _))
  unfold Builtin.«frozenset.__iter__»
  refine wpAny_bind (wpAny_pure ?_)
  unfold Builtin.Frozenset.sizeOf
  refine wpAny_bind (wpAny_bind (wpAny_setEntries_of ho rfl T.fit (wpAny_pure ?_)))
  unfold setDrawn
  refine wpAny_bind (wpAny_bind (wpAny_setState_of ho rfl T.fit ?_))
  dsimp only
  refine wpAny_bind (wpAny_byText (wpAny_pure ?_))
  -- the roads by slots
  have bySlot : ∀ {ord : List Value} {ok : Nat → Nat → Prop}, SlotRoad prog w a es ep t ord ok → wpAny (model prog w) A.in1 (do
      let first ← pure (rawInt 0)
      let e ← setEpoch a
      let r ← newFields "set_iterator" [first, rawInt 0, Value.ref a, rawInt ↑es.size, rawInt ↑e]
      ret r) (fun fin s' => ∃ v, fin = Fin.done (Flow.ret v) ∧ ∃ T' r, s'.TypeIs v T' ∧ typeLookup (Value.type T') (Str.ofString "__next__") = pure (some r) ∧ Q v s') E s := by
    intro ord ok R
    refine wpAny_bind (wpAny_pure ?_)
    refine wpAny_bind (wpAny_setEpoch_of ho rfl T.fit ?_)
    refine wpAny_bind (wpAny_newObj_type (wpAny_pure ⟨_, rfl, "set_iterator", _, ⟨_, Heap.get?_push_size _ rfl, rfl⟩, slot_si_next.lookup, ?_⟩))
    refine h ord _ _ _ _ s.drawn R.perm (fun A' hA => Walks.setSlots hA (Nat.ne_of_lt haL) T R) ⟨⟨0, R.zero, Heap.get?_push_size _ rfl⟩, Heap.get?_push_of_some _ ho⟩ (fun b o e => Heap.get?_push_of_some _ e) (fun b hb => ?_) (Nat.le_refl _)
    rcases List.mem_cons.mp hb with rfl | hb
    · exact .inr (Nat.le_refl _)
    · exact .inl (List.mem_singleton.mp hb)
  cases hbt : w.params.followText "set-order" with
  | true =>
    simp only [Bool.not_true, Bool.false_and, Bool.false_eq_true, if_false]
    exact bySlot (SlotRoad.text hbt T)
  | false =>
    split
    · refine wpAny_bind (draw_ok es.size (List.range es.size) (by simp) fun places dr hp => ?_)
      refine wpAny_bind (wpAny_newTuple ?_ (by rw [List.length_map, hp.length_eq, List.length_range, sizeLine_eq]; lia))
      refine wpAny_bind (wpAny_setEpoch_of (Heap.get?_push_of_some _ ho) rfl T.fit ?_)
      refine wpAny_bind (wpAny_newObj_type (wpAny_pure ⟨_, rfl, "set_iterator", _, ⟨_, Heap.get?_push_size _ rfl, rfl⟩, slot_si_next.lookup, ?_⟩))
      have hsz : (s.heap.push (seqObj "tuple" (List.map (fun (i : Nat) => rawInt i) places).toArray 0)).objs.size = s.heap.objs.size + 1 := Heap.size_push _ _
      refine h _ _ _ _ _ dr (drawn_perm hp) (fun A' hA => Walks.setDrawn (pl := s.heap.objs.size) hA ?_ ?_ T hp) ⟨Heap.get?_push_size _ rfl, Heap.get?_push_of_some _ (Heap.get?_push_of_some _ ho), Heap.get?_push_of_some _ (Heap.get?_push_size _ rfl)⟩ (fun b o e => Heap.get?_push_of_some _ (Heap.get?_push_of_some _ e)) (fun b hb => ?_) ?_
      · rw [hsz]; exact Nat.ne_of_lt (Nat.lt_succ_of_lt haL)
      · rw [hsz]; exact Nat.ne_of_lt (Nat.lt_succ_self _)
      · simp only [List.mem_cons, List.not_mem_nil, or_false] at hb
        rcases hb with rfl | rfl | rfl
        · exact .inr (by rw [hsz]; exact Nat.le_succ _)
        · exact .inl rfl
        · exact .inr (Nat.le_refl _)
      · rw [hsz]; exact Nat.le_succ _
    · rename_i hdr
      have hd : ¬ (!t.plain && decide (es.size > 1)) = true := hdr
      exact bySlot (SlotRoad.slots hbt (by
        simp only [Bool.and_eq_true, Bool.not_eq_true', decide_eq_true_eq, not_and] at hd
        cases hp : t.plain with
        | true => exact .inl rfl
        | false => exact .inr (Nat.le_of_not_lt (hd hp))) T)
end
/-! ### what a sort may ask, and where it ends -/
noncomputable def kOk {α : Type} (n : Nat) (P : α → Prop) : KasT α → Prop
  | .ret a => P a
  | .ask i j k => i < n ∧ j < n ∧ ∀ b, kOk n P (k b)
theorem kOk_bind {α β : Type} {n : Nat} {P : α → Prop} {R : β → Prop} {f : α → KasT β} (hf : ∀ a, P a → kOk n R (f a)) : ∀ t : KasT α, kOk n P t → kOk n R (t.bind f)
  | .ret a, h => hf a h
  | .ask _ _ k, h => ⟨h.1, h.2.1, fun b => kOk_bind hf (k b) (h.2.2 b)⟩
theorem kOk_wp {α : Type} {n : Nat} {P : α → Prop} {cmp : Nat → Nat → (Bool → Shared → Prop) → Shared → Prop} {Q : α → Shared → Prop} {s : Shared}
    (hc : ∀ i j C, i < n → j < n → (∀ b, C b s) → cmp i j C s) (hq : ∀ a, P a → Q a s) : ∀ t : KasT α, kOk n P t → t.kasWp cmp Q s
  | .ret a, h => hq a h
  | .ask i j k, h => hc i j _ h.1 h.2.1 fun b => kOk_wp hc hq (k b) (h.2.2 b)
noncomputable abbrev PA (n : Nat) (p : Array Nat) : Prop := p.toList.Perm (List.range n)
theorem PA.lt {n : Nat} {p : Array Nat} (h : PA n p) (hn : 0 < n) (i : Nat) : p.getD i 0 < n := by
  by_cases hi : i < p.size
  · have e : p.getD i 0 = p[i] := by simp [Array.getD, hi]
    rw [e]
    exact List.mem_range.mp (h.mem_iff.mp (by simp))
  · have e : p.getD i 0 = 0 := by simp [Array.getD, hi]
    rw [e]; exact hn
theorem rev_pa {n : Nat} {p : Array Nat} (h : PA n p) (i j : Nat) : PA n (kas_rev p i j) := (Array.perm_iff_toList_perm.mp (mirror_perm p i j _)).trans h
theorem bub_pa {n : Nat} {p : Array Nat} (h : PA n p) (k c : Nat) : PA n (bubble p k c) := (Array.perm_iff_toList_perm.mp (bubble_perm p k c)).trans h
section
variable {n : Nat}
theorem asc_ok {p : Array Nat} (h : PA n p) (hn : 0 < n) : ∀ (f m : Nat), kOk n (fun _ => True) (kas_asc p f m)
  | 0, _ => trivial
  | f + 1, m => ⟨h.lt hn _, h.lt hn _, fun b => by cases b; exact asc_ok h hn f (m + 1); exact trivial⟩
theorem desc_ok (hn : 0 < n) : ∀ (f : Nat) (p : Array Nat) (m q : Nat), PA n p → kOk n (fun r => PA n r.1) (kas_desc f p m q)
  | 0, _, _, _, h => h
  | f + 1, p, m, q, h => ⟨h.lt hn _, h.lt hn _, fun b => by
      cases b
      · exact ⟨h.lt hn _, h.lt hn _, fun d => by cases d; exact desc_ok hn f p _ _ h; exact h⟩
      · show kOk n _ (if q > 0 then _ else _)
        split
        · exact desc_ok hn f _ _ _ (rev_pa h _ _)
        · exact desc_ok hn f _ _ _ h⟩
theorem tail_ok (hn : 0 < n) {p : Array Nat} (h : PA n p) (m r : Nat) : kOk n (fun r => PA n r.2) (kas_tail3 m r p) := by
  unfold kas_tail3
  refine kOk_bind (P := fun _ => True) (fun a _ => ?_) _ (asc_ok (rev_pa h _ _) hn _ _)
  show PA n (kas_rev p 0 m)
  exact rev_pa h _ _
theorem dpart_ok (hn : 0 < n) {p : Array Nat} (h : PA n p) (m r : Nat) : kOk n (fun r => PA n r.2) (kas_descPart m r p) := by
  refine kOk_bind (fun a ha => ?_) _ (desc_ok hn _ _ _ _ h)
  show kOk n _ (if a.2.2 > 0 then _ else _)
  split
  · exact tail_ok hn (rev_pa ha _ _) _ _
  · exact tail_ok hn ha _ _
theorem count_ok (hn : 0 < n) {p : Array Nat} (h : PA n p) (r : Nat) : kOk n (fun r => PA n r.2) (kas_count r p) := by
  refine kOk_bind (fun a _ => ?_) _ (asc_ok h hn _ _)
  show kOk n _ (if (a == r) = true then _ else if a > 1 then _ else _)
  split
  · exact h
  · split
    · refine ⟨h.lt hn _, h.lt hn _, fun b => ?_⟩
      cases b
      · exact dpart_ok hn (rev_pa h _ _) _ _
      · exact h
    · exact dpart_ok hn h _ _
theorem place_ok {p : Array Nat} (h : PA n p) (hn : 0 < n) (k : Nat) : ∀ (f l r : Nat), kOk n (fun _ => True) (kas_place p k f l r)
  | 0, _, _ => trivial
  | f + 1, l, r => by
    unfold kas_place
    split
    · exact trivial
    · exact ⟨h.lt hn _, h.lt hn _, fun b => by cases b; exact place_ok h hn k f _ _; exact place_ok h hn k f _ _⟩
theorem bin_ok (hn : 0 < n) : ∀ (f : Nat) (p : Array Nat) (k : Nat), PA n p → kOk n (PA n) (kas_bin f p k)
  | 0, _, _, h => h
  | f + 1, p, k, h => kOk_bind (fun _ _ => bin_ok hn f _ _ (bub_pa h _ _)) _ (place_ok h hn k k 0 k)
theorem sort_ok (hn : 0 < n) : kOk n (PA n) (kas_sort n) := by
  refine kOk_bind (fun a ha => ?_) _ (count_ok hn (p := (List.range n).toArray) (List.Perm.refl _) n)
  show kOk n _ (if a.1 < n then _ else _)
  split
  · exact bin_ok hn _ _ _ ha
  · exact ha
end

section
variable {prog : Program} {w : World} {A : Around} {E : Value → Shared → Prop} {s : Shared} {a : Addr} {es : Array (Int × Value)} {ep : Nat} {t : SetTable} {h₀ : PySem.Heap} {L : Addr} {m : PySem.Str → Option Value} {news : List (Addr × Obj)}

theorem len_set_hint {Q : Bool → Shared → Prop} (hT : s.TypeIs (.ref a) "set") (h : Q false s) : wpAny (model prog w) A (Builtin.List.listLengthHint (.ref a)) Q E s := by
  unfold Builtin.List.listLengthHint
  refine wpAny_bind (wpAny_specialOf hT F.slot_set_len.lookup ?_)
  wp_delta
  refine wpAny_bind (wpAny_isInstance hT (b := true) (by rw [isSubtype_type]; kernel_rfl) ?_)
  show wpAny _ _ (typeOf (Value.ref a) >>= _) _ _ _
  refine wpAny_bind (wpAny_typeOf hT ?_)
  exact wpAny_pure h

set_option maxHeartbeats 1000000 in
theorem collect_set {Q : List Value → Shared → Prop} (hh : A.handled = none) (ho : s.heap.get? a = some (so es ep t)) (T : Tb (ledOf w) t es.size) (hz : es.size ≤ 1000)
    (h : ∀ (acc : List Value) h' tk dr, acc.Perm (es.toList.map (·.2)) → Old s.heap h' → Q acc { s with heap := h', toks := tk, drawn := dr }) : wpAny (model prog w) A (collect (.ref a)) Q E s := by
  have haL : a < s.heap.objs.size := Heap.lt_size ho
  unfold collect
  refine wpAny_bind (wpAny_runValue (codeAny_builtin F.entry_proto_collect ?_))
  rw [Around.under_plainId F.plain_proto_collect _]
  show wpAny _ A.in1 (newList [] >>= fun l => again (.builtin "list.__iadd__" ⟨[l, .ref a], []⟩)) _ _ s
  refine wpAny_bind (wpAny_newObj_type ?_)
  refine wpAny_pure ⟨plainId_quiet F.plain_list_iadd _, codeAny_builtin F.entry_list_iadd ?_⟩
  rw [Around.under_plainId F.plain_list_iadd _]
  show wpAny _ A.in1 (Builtin.List.listExtendWith (.ref s.heap.objs.size) (.ref a) (.ref s.heap.objs.size)) _ _ _
  generalize hH : s.heap.push { cls := .type "list", data := .seq ([] : List Value).toArray } = H
  have hS0 : H.get? s.heap.objs.size = some { cls := .type "list", data := .seq ([] : List Value).toArray } := hH ▸ Heap.get?_push_size _ rfl
  have hold : Old s.heap H := fun b o e => hH ▸ Heap.get?_push_of_some _ e
  have hHs : H.objs.size = s.heap.objs.size + 1 := by rw [← hH, Heap.size_push]
  have ho' := hold _ _ ho
  have hT : Shared.TypeIs { s with heap := H } (.ref a) "set" := ⟨_, ho', rfl⟩
  unfold Builtin.List.listExtendWith
  refine wpAny_bind (wpAny_typeOf hT ?_)
  have h1 : Builtin.List.listSameRef (.ref s.heap.objs.size) (.ref a) = false := by simp [Builtin.List.listSameRef, Nat.ne_of_gt haL]
  have h2 : (Value.type "set" == Value.type "list") = false := by decide
  have h3 : (Value.type "set" == Value.type "tuple") = false := by decide
  simp only [h1, h2, h3, Bool.or_false, Bool.false_eq_true, if_false]
  refine wpAny_bind (iter_set (s := { s with heap := H }) ho' T hz fun ord I fp St h' dr hp W st0 ok hfp hI => ?_)
  dsimp only at hfp hI ok
  refine wpAny_bind (wpAny_holding ?_)
  refine len_set_hint (s := { s with heap := h', drawn := dr }) ⟨_, ok _ _ ho', rfl⟩ ?_
  show wpAny _ A.in1 (rule "list.extend.makes-room" >>= fun _ => Builtin.List.listTouch (.ref s.heap.objs.size) >>= fun _ =>
    again (.builtin "list.extend.loop" ⟨[.ref s.heap.objs.size, .ref I, .ref s.heap.objs.size], []⟩)) _ _ _
  refine wpAny_bind (wpAny_rule ?_)
  have hS1 := ok _ _ hS0
  have hSf : s.heap.objs.size ∉ fp := fun hm => by
    rcases hfp _ hm with q | q
    · exact absurd haL (q ▸ Nat.lt_irrefl _)
    · rw [hHs] at q; exact absurd q (Nat.not_succ_le_self _)
  refine wpAny_bind ?_
  show wpAny _ A.in1 (updateSeq s.heap.objs.size (·.push .none) >>= fun _ => updateSeq s.heap.objs.size (·.pop)) _ _ _
  refine wpAny_bind (wpAny_updateSeq hS1 rfl ?_)
  have hS2 := Heap.get?_update_self (Obj.mapSeq (·.push Value.none)) hS1 rfl
  refine wpAny_updateSeq hS2 rfl ?_
  have hS3 := Heap.get?_update_self (Obj.mapSeq (·.pop)) hS2 rfl
  have oth : ∀ b o, b ≠ s.heap.objs.size → h'.get? b = some o → ((h'.update s.heap.objs.size (Obj.mapSeq (·.push Value.none))).update s.heap.objs.size (Obj.mapSeq (·.pop))).get? b = some o :=
    fun b o hb e => (Heap.get?_update_other _ _ (Ne.symm hb)).trans ((Heap.get?_update_other _ _ (Ne.symm hb)).trans e)
  have hlen : ord.length = es.size := by rw [hp.length_eq]; simp
  refine wpAny_pure ⟨plainId_quiet F.plain_extend_loop _, codeAny_extend_loopS ((W A.in1 hh).toS) (by rw [sizeLine_eq]; lia) _ hSf _ es.size 0 _ _ _ rfl (Nat.zero_le _)
    ((W A hh).frame 0 _ _ st0 fun b hb o e => oth b o (fun q => hSf (q ▸ hb)) e) hS3 (ItemsOf.nil _) fun s' acc c hm hS' hacc => ?_⟩
  show wpAny _ A (load s.heap.objs.size >>= _) _ _ s'
  refine wpAny_bind (wpAny_load hS' ?_)
  obtain ⟨h3, g3, d3, t3, o3⟩ := s'
  have eg : g3 = s.gens := hm.gens
  have ed : d3 = dr := hm.drawn
  have eo : o3 = s.os := hm.os
  subst eg; subst ed; subst eo
  have e : acc.toList = ord := by
    refine List.ext_getElem? fun i => ?_
    by_cases hi : i < acc.size
    · rw [Array.getElem?_toList, Array.getElem?_eq_getElem hi, hacc.2 i _ (Array.getElem?_eq_getElem hi)]
    · have h1 : es.size ≤ i := by rw [← hacc.1]; lia
      rw [List.getElem?_eq_none (by rw [Array.length_toList]; lia), List.getElem?_eq_none (by lia)]
  refine wpAny_pure ?_
  show Q acc.toList _
  rw [e]
  refine h ord h3 t3 _ hp fun b o eb => ?_
  have hlt := Heap.lt_size eb
  have hbS : b ≠ s.heap.objs.size := Nat.ne_of_lt hlt
  have hbI : b ≠ I := by
    rintro rfl
    rw [hHs] at hI
    exact absurd hlt (Nat.not_lt.mpr (Nat.le_of_succ_le hI))
  exact hm.heap b o (by simp [hbS, hbI]) (oth b o hbS (ok b o (hold b o eb)))
end
/-- the int in a value -/
noncomputable def vi : Value → Int
  | .int k _ => k
  | _ => 0
theorem intsAre_iff : ∀ {vs : List Value} {ns : List Int}, IntsAre vs ns ↔ ns = vs.map vi ∧ ∀ v ∈ vs, ∃ k t, v = .int k t
  | [], ns => ⟨fun h => by cases h; exact ⟨rfl, fun v hv => by cases hv⟩, fun ⟨h, _⟩ => by subst h; exact .nil⟩
  | v :: vs, ns => by
    constructor
    · intro h
      cases h with
      | cons n t hr =>
        obtain ⟨e, q⟩ := intsAre_iff.mp hr
        refine ⟨by rw [e]; rfl, fun u hu => ?_⟩
        rcases List.mem_cons.mp hu with rfl | hu
        · exact ⟨_, _, rfl⟩
        · exact q u hu
    · rintro ⟨rfl, q⟩
      obtain ⟨k, t, rfl⟩ := q _ (.head _)
      exact .cons k t (intsAre_iff.mpr ⟨rfl, fun u hu => q u (.tail _ hu)⟩)
theorem intsAre_perm {vs vs' : List Value} {ns : List Int} (h : IntsAre vs ns) (p : vs'.Perm vs) : ∃ ns', IntsAre vs' ns' ∧ ns'.Perm ns := by
  obtain ⟨rfl, q⟩ := intsAre_iff.mp h
  exact ⟨_, intsAre_iff.mpr ⟨rfl, fun v hv => q v (p.mem_iff.mp hv)⟩, p.map _⟩
theorem zs_mem {x : Nat} {ns : List Nat} : (x : Int) ∈ zs ns ↔ x ∈ ns := by
  simp only [zs, List.mem_map]
  exact ⟨fun ⟨y, hy, e⟩ => by have : y = x := by lia
                              exact this ▸ hy, fun h => ⟨x, h, rfl⟩⟩
theorem zs_of {ks : List Int} {ns : List Nat} (h : ∀ k ∈ ks, k ∈ zs ns) : ∃ ks' : List Nat, ks = zs ks' ∧ ∀ x ∈ ks', x ∈ ns := by
  refine ⟨ks.map Int.toNat, ?_, fun x hx => ?_⟩
  · refine List.ext_getElem (by simp) fun i h1 h2 => ?_
    have := h ks[i] (by simp)
    obtain ⟨y, _, e⟩ := List.mem_map.mp this
    simp only [List.getElem_map]
    rw [← e]; simp
  · obtain ⟨k, hk, rfl⟩ := List.mem_map.mp hx
    obtain ⟨y, hy, rfl⟩ := List.mem_map.mp (h k hk)
    simpa using hy

section
variable {prog : Program} {w : World} {A : Around} {E : Value → Shared → Prop} {s : Shared} {g : PySem.Heap} {L : Addr} {m : PySem.Str → Option Value} {news : List (Addr × Obj)} {D : Addr} {us : List Value} {n : Nat}

theorem fr_old {h h' : PySem.Heap} (F : Fr g L h m) (ho : Old h h') : Fr g L h' m := ⟨F.ns.at' fun o e => ho _ _ e, fun b o e => ho _ _ (F.keep b o e), F.above⟩
theorem news_old {h h' : PySem.Heap} (N : News g L h news) (ho : Old h h') : News g L h' news := fun p hp => ⟨ho _ _ (N p hp).1, (N p hp).2⟩

/-- a set of ints -/
structure SetI (prog : Program) (w : World) (es : Array (Int × Value)) (t : SetTable) (ks : List Int) : Prop where
  tb : Tb (ledOf w) t es.size
  el : ElemsOf (intKind prog w) es.toList
  kq : ks = es.toList.map fun e => vi e.2
  nd : ks.Nodup

theorem elem_int {es : List (Int × Value)} (h : ElemsOf (intKind prog w) es) {e : Int × Value} (he : e ∈ es) : ∃ t, e.2 = .int (vi e.2) t := by
  obtain ⟨⟨k, hk, _⟩, _⟩ := h e he
  obtain ⟨t, e'⟩ := Value.isInt_shape hk
  exact ⟨t, by rw [e']; rfl⟩

theorem set_ints {ns : List Int} {Q : Value → Shared → Prop} (hh : A.handled = none) (F : Fr g L s.heap m) (N : News g L s.heap news) (hm : (D, lo us n) ∈ news) (hi : IntsAre us ns) (hz : us.length ≤ 1000)
    (h : ∀ S es ep t ks h' tk, Fr g L h' m → News g L h' ((S, so es ep t) :: news) → (∀ p ∈ news, p.1 < S) → SetI prog w es t ks → (∀ x, x ∈ ks ↔ x ∈ ns) → Q (.ref S) { s with heap := h', toks := tk }) :
    wpAny (model prog w) A (call (.type "set") [.ref D]) Q E s := by
  have hlen := IntsAre.length hi
  refine call_set hh (rl_list N hm) (fun i es t => ∃ ks, SetI prog w es t ks ∧ es.size ≤ i ∧ ∀ x, x ∈ ks ↔ x ∈ ns.take i) ⟨[], ⟨Tb.fresh _, fun e he => by simp at he, rfl, List.nodup_nil⟩, Nat.le_refl _, fun x => by simp⟩ ?_ ?_
  · rintro i v s' S es ep t A' Q' E' hA hlt hv hold ho ⟨ks, hI, hsz, hks⟩ hq
    have hlt' : i < us.length := by simpa using hlt
    have hv' : us[i]? = some v := by simpa using hv
    obtain ⟨tx, rfl⟩ := PyProof.Rows.IntsAre.int_at hi i v hv'
    refine add_int ho hI.tb (by lia) hI.el fun b h' es' ep' t' tk sb hS' T' el' hor htk => hq b h' es' ep' t' tk sb hS' ?_ htk
    have hi' : i < ns.length := by lia
    have hk : ns.getD i 0 = ns[i] := by simp [hi']
    have htake : ns.take (i + 1) = ns.take i ++ [ns[i]] := by rw [List.take_add_one]; simp [hi']
    rcases hor with ⟨rfl, e, he, hke⟩ | ⟨hp, hno⟩
    · refine ⟨ks, ⟨T', el', hI.kq, hI.nd⟩, by lia, fun x => ?_⟩
      rw [htake, List.mem_append, ← hks x]
      refine ⟨.inl, fun hx => hx.elim id fun hx => ?_⟩
      rw [List.mem_singleton] at hx
      subst hx
      rw [hI.kq]
      refine List.mem_map.mpr ⟨e, he, ?_⟩
      obtain ⟨t2, e2⟩ := Value.isInt_shape hke
      rw [e2, ← hk]; rfl
    · have hkn : ns[i] ∉ ks := by
        rw [hI.kq]
        intro hx
        obtain ⟨e, he, e2⟩ := List.mem_map.mp hx
        have := hno e he
        obtain ⟨t2, e3⟩ := elem_int hI.el he
        rw [e3, e2, hk] at this
        simp [Value.isInt] at this
      have hp2 : (es'.toList.map fun e => vi e.2).Perm (ks ++ [ns[i]]) := by
        have := hp.map (fun e : Int × Value => vi e.2)
        rw [List.map_append, ← hI.kq] at this
        rw [show List.map (fun e : Int × Value => vi e.2) [(hashInt (ns.getD i 0), .int (ns.getD i 0) tx)] = [ns.getD i 0] from rfl, hk] at this
        exact this
      refine ⟨_, ⟨T', el', rfl, ?_⟩, ?_, fun x => ?_⟩
      · refine hp2.nodup_iff.mpr ?_
        rw [List.nodup_append]
        exact ⟨hI.nd, by simp, fun a ha b hb => by rw [List.mem_singleton.mp hb]; rintro rfl; exact hkn ha⟩
      · rw [← Array.length_toList, hp.length_eq]; simp; lia
      · rw [hp2.mem_iff, List.mem_append, hks x, htake, List.mem_append]
  · rintro h' tk es ep t hold ho ⟨ks, hI, hsz, hks⟩
    have hS : (g.get? s.heap.objs.size) = none := Heap.get?_none_of_le (Nat.le_of_lt (Nat.lt_of_le_of_lt F.above F.ns.lt))
    obtain ⟨oL, _, _, hL, _⟩ := F.ns
    refine h _ es ep t ks h' tk ⟨F.ns.at' fun o e => hold _ _ e, fun b o e => hold _ _ (F.keep b o e), F.above⟩ (fun p hp => ?_) (fun p hp => Heap.lt_size (N p hp).1) hI fun x => ?_
    · rcases List.mem_cons.mp hp with rfl | hp
      · exact ⟨ho, Nat.ne_of_gt (Heap.lt_size hL), hS⟩
      · exact ⟨hold _ _ (N p hp).1, (N p hp).2⟩
    · rw [hks x, List.take_of_length_le (by simp; lia)]

theorem sorted_setI {S : Addr} {es : Array (Int × Value)} {ep : Nat} {t : SetTable} {ks : List Int} {Q : Value → Shared → Prop} (hh : A.handled = none) (F : Fr g L s.heap m) (N : News g L s.heap news) (hm : (S, so es ep t) ∈ news) (hI : SetI prog w es t ks) (hz : es.size < 64)
    (h : ∀ D e vs ks' h' tk dr, Fr g L h' m → News g L h' ((D, lo vs e) :: news) → (∀ p ∈ news, p.1 < D) → IntsAre vs ks' → ks'.Perm ks → Q (.ref D) { s with heap := h', toks := tk, drawn := dr }) :
    wpAny (model prog w) A (call (.builtin "sorted") [.ref S]) Q E s := by
  have hS := (N _ hm).1
  refine Calls.call_function_entry kind_sorted plain_sorted entry_sorted (args_sorted1 _) ?_
  unfold Builtin.«sorted»
  refine wpAny_bind (m := checkCount "sorted" 1 1 _) (wpAny_pure ?_)
  refine wpAny_bind (collect_set hh hS hI.tb (by lia) fun acc h₁ tk dr hp hold => ?_)
  have hlen : acc.length = es.size := by rw [hp.length_eq]; simp
  have hints : IntsAre (es.toList.map (·.2)) ks := intsAre_iff.mpr ⟨by rw [hI.kq, List.map_map]; rfl, fun v hv => by
    obtain ⟨e, he, rfl⟩ := List.mem_map.mp hv
    obtain ⟨t', e'⟩ := elem_int hI.el he
    exact ⟨_, t', e'⟩⟩
  obtain ⟨ks1, hi1, hp1⟩ := intsAre_perm hints hp
  refine wpAny_bind (wpAny_newList ?_ (by rw [sizeLine_eq]; lia))
  have hoL : (h₁.push (seqObj "list" acc.toArray 0)).get? h₁.objs.size = some (seqObj "list" acc.toArray 0) := Heap.get?_push_size _ rfl
  refine wpAny_bind (wpAny_holding (wpAny_call_entry slot_list_sort ⟨_, hoL, rfl⟩ entry_list_sort (list_sort_tree hoL hi1 (by lia) fun out ns' a1 a2 a3 => ⟨_, rfl, ?_⟩) (args_list_sort _)))
  refine wpAny_pure ⟨_, rfl, ?_⟩
  obtain ⟨e, he⟩ := sortedHeap_at (out := out) hoL
  have F1 := fr_old F hold
  have N1 := news_old N hold
  have hLl : L < h₁.objs.size := F1.ns.lt
  have old2 : ∀ b o, h₁.get? b = some o → (sortedHeap (h₁.push (seqObj "list" acc.toArray 0)) h₁.objs.size acc out).get? b = some o := fun b o eb => by
    have hlt := Heap.lt_size eb
    rw [sortedHeap_old (Nat.ne_of_lt hlt) (by rw [Heap.size_push]; exact Nat.lt_succ_of_lt hlt), Heap.get?_push_ne _ _ _ (Nat.ne_of_lt hlt)]
    exact eb
  refine h _ e out.toList ns' _ tk dr (fr_old F1 old2) (fun p hp => ?_) (fun p hp => Heap.lt_size (N1 p hp).1) a1 (a2.trans hp1)
  rcases List.mem_cons.mp hp with rfl | hp
  · exact ⟨he, Nat.ne_of_gt hLl, Heap.get?_none_of_le (Nat.le_trans F.above (Nat.le_of_lt hLl))⟩
  · exact news_old N1 old2 p hp
end
/-- v is a tuple of a text and ints -/
noncomputable def TupV (news : List (Addr × Obj)) (v : Value) (k : PySem.Str × List Nat) : Prop := ∃ b t us n, v = .ref b ∧ (b, tu (.str k.1 t :: us) n) ∈ news ∧ IntsAre us (zs k.2)
noncomputable def tkey (k : PySem.Str × List Nat) : List Atm := .inl k.1 :: k.2.map fun (n : Nat) => (.inr (n : Int) : Atm)
theorem tkey_inj {k k' : PySem.Str × List Nat} (h : tkey k = tkey k') : k = k' := by
  obtain ⟨a, l⟩ := k
  obtain ⟨b, l'⟩ := k'
  unfold tkey at h
  rw [List.cons.injEq, Sum.inl.injEq] at h
  dsimp only at h
  obtain ⟨rfl, h⟩ := h
  have : l = l' := by
    have h2 := congrArg (List.map fun a : Atm => match a with | .inr n => n.toNat | .inl _ => 0) h
    rw [List.map_map, List.map_map] at h2
    have e : ((fun a : Atm => match a with | .inr n => n.toNat | .inl _ => 0) ∘ fun n : Nat => (.inr (n : Int) : Atm)) = id := by funext n; rfl
    rw [e] at h2
    simpa using h2
  rw [this]
section
variable {prog : Program} {w : World} {A : Around} {E : Value → Shared → Prop} {s : Shared} {g : PySem.Heap} {L : Addr} {m : PySem.Str → Option Value} {news : List (Addr × Obj)} {D : Addr} {us : List Value} {n : Nat} {tks : List (PySem.Str × List Nat)} {k : PySem.Str × List Nat}

theorem TupV.mono {news' : List (Addr × Obj)} {v : Value} (h : TupV news v k) (hs : ∀ p ∈ news, p ∈ news') : TupV news' v k := let ⟨b, t, us, n, e, hm, hi⟩ := h; ⟨b, t, us, n, e, hs _ hm, hi⟩
theorem items_atoms : ∀ {us : List Value} {ns : List Nat}, IntsAre us (zs ns) → PySem.ItemsAre (atomKind prog w) (ns.map fun (n : Nat) => (.inr (n : Int) : Atm)) us
  | us, [], h => by cases h; exact .nil
  | us, x :: ns, h => by
    cases h with
    | cons _ t hr => exact .cons (by simp [atomKind, isAtom, Value.isInt]) (items_atoms hr)
theorem TupV.key {h : PySem.Heap} (N : ∀ p ∈ news, h.get? p.1 = some p.2) {b : Addr} (x : TupV news (.ref b) k) : IsTupleKey (atomKind prog w) h (tkey k) b := by
  obtain ⟨b', t, us, n, e, hm, hi⟩ := x
  cases e
  exact ⟨_, _, n, N _ hm, rfl, rfl, .cons (by simp [atomKind, isAtom, Value.isStrOf]) (items_atoms hi)⟩

/-- a set of such tuples -/
structure SetT (w : World) (news : List (Addr × Obj)) (tks : List (PySem.Str × List Nat)) (es : Array (Int × Value)) (t : SetTable) : Prop where
  tb : Tb (ledOf w) t es.size
  sz : es.size ≤ tks.length
  out : ∀ e ∈ es.toList, ∃ k ∈ tks, TupV news e.2 k
  inn : ∀ k ∈ tks, ∃ e ∈ es.toList, TupV news e.2 k

theorem SetT.mono {news' : List (Addr × Obj)} {es : Array (Int × Value)} {t : SetTable} (h : SetT w news tks es t) (hs : ∀ p ∈ news, p ∈ news') : SetT w news' tks es t :=
  ⟨h.tb, h.sz, fun e he => let ⟨k, hk, hv⟩ := h.out e he; ⟨k, hk, hv.mono hs⟩, fun k hk => let ⟨e, he, hv⟩ := h.inn k hk; ⟨e, he, hv.mono hs⟩⟩
theorem set_tups {Q : Value → Shared → Prop} (hh : A.handled = none) (hu : A.units + 20 < cLine) (F : Fr g L s.heap m) (N : News g L s.heap news) (hm : (D, lo us n) ∈ news) (hl : us.length = tks.length) (ht : ∀ (i : Nat) (v : Value) (k : PySem.Str × List Nat), us[i]? = some v → tks[i]? = some k → TupV news v k) (hz : us.length ≤ 16)
    (h : ∀ S es ep t h' tk, Fr g L h' m → News g L h' ((S, so es ep t) :: news) → (∀ p ∈ news, p.1 < S) → SetT w news tks es t → Q (.ref S) { s with heap := h', toks := tk }) :
    wpAny (model prog w) A (call (.type "set") [.ref D]) Q E s := by
  refine call_set hh (rl_list N hm) (fun i es t => Tb (ledOf w) t es.size ∧ Mk t es.size ∧ es.size ≤ i ∧ (∀ e ∈ es.toList, ∃ k ∈ tks, TupV news e.2 k ∧ e.1 = tupleKeyHash (atomKind prog w) (tkey k)) ∧ ∀ k ∈ tks.take i, ∃ e ∈ es.toList, TupV news e.2 k)
    ⟨Tb.fresh _, .inl ⟨rfl, Nat.zero_le _⟩, Nat.le_refl _, fun e he => by simp at he, fun k hk => by simp at hk⟩ ?_ ?_
  · rintro i v s' S es ep t A' Q' E' hA hlt hv hold ho ⟨T, hM, hsz, h1, h2⟩ hq
    have hlt' : i < us.length := by simpa using hlt
    have hv' : us[i]? = some v := by simpa using hv
    have hk' : tks[i]? = some (tks[i]'(hl ▸ hlt')) := List.getElem?_eq_getElem _
    have hx := ht i v _ hv' hk'
    have hkt : tks[i]'(hl ▸ hlt') ∈ tks := List.getElem_mem _
    have htake : tks.take (i + 1) = tks.take i ++ [tks[i]'(hl ▸ hlt')] := by rw [List.take_add_one, hk']; rfl
    generalize tks[i]'(hl ▸ hlt') = k at *
    obtain ⟨c, rfl⟩ : ∃ c, v = .ref c := let ⟨b, _, _, _, e, _⟩ := hx; ⟨b, e⟩
    have N' : ∀ p ∈ news, s'.heap.get? p.1 = some p.2 := fun p hp => hold _ _ (N p hp).1
    have hcl : cLine = 9900 := rfl
    refine add_tuple (by lia) ho T hM (by lia) (fun e he => ?_) (hx.key N') fun b h' es' ep' t' tk sb hS' T' M' hz' hex hsub hsup htk => hq b h' es' ep' t' tk sb hS' ⟨T', M', by lia, fun e he => ?_, fun k2 hk2 => ?_⟩ htk
    · obtain ⟨k2, hk2, hv2, hh2⟩ := h1 e he
      obtain ⟨b, hb⟩ : ∃ b, e.2 = .ref b := let ⟨b, _, _, _, e, _⟩ := hv2; ⟨b, e⟩
      rw [hb] at hv2
      exact ⟨_, b, hb, hv2.key N', hh2⟩
    · rcases hsub e he with he | rfl
      · exact h1 e he
      · exact ⟨k, hkt, hx, rfl⟩
    · rw [htake, List.mem_append, List.mem_singleton] at hk2
      rcases hk2 with hk2 | rfl
      · obtain ⟨e, he, hv⟩ := h2 k2 hk2
        exact ⟨e, hsup e he, hv⟩
      · obtain ⟨e, he, b2, hb2, hkey⟩ := hex
        refine ⟨e, he, ?_⟩
        rcases hsub e he with he' | rfl
        · obtain ⟨k3, _, hv3, _⟩ := h1 e he'
          have hv3' := hv3
          rw [hb2] at hv3'
          have := (hv3'.key (prog := prog) (w := w) N').inj hkey
          rw [← tkey_inj this]; exact hv3
        · exact hx
  · rintro h' tk es ep t hold ho ⟨T, hM, hsz, h1, h2⟩
    have hS : (g.get? s.heap.objs.size) = none := Heap.get?_none_of_le (Nat.le_of_lt (Nat.lt_of_le_of_lt F.above F.ns.lt))
    refine h _ es ep t h' tk (fr_old F hold) (fun p hp => ?_) (fun p hp => Heap.lt_size (N p hp).1) ⟨T, by simp at hsz; lia, fun e he => ?_, fun k hk => h2 k ?_⟩
    · rcases List.mem_cons.mp hp with rfl | hp
      · exact ⟨ho, Nat.ne_of_gt F.ns.lt, hS⟩
      · exact ⟨hold _ _ (N p hp).1, (N p hp).2⟩
    · obtain ⟨k, hk, hv, _⟩ := h1 e he; exact ⟨k, hk, hv⟩
    · rw [List.take_of_length_le (by simp; lia)]; exact hk

theorem sort_small {a : Addr} {vs : List Value} {n : Nat} {P : PySem.Fin → Shared → Prop} (ho : s.heap.get? a = some (seqObj "list" vs.toArray n)) (h2 : vs.length < 2)
    (h : P (.done (.ret .none)) { s with heap := sortedHeap s.heap a vs ((vs.toArray.zip vs.toArray).map (·.2)) }) : wpAny (model prog w) A (Builtin.«list.sort» ⟨[.ref a], []⟩) P E s := by
  rw [list_sort_plain]
  have ha : a < s.heap.objs.size := Heap.lt_size ho
  refine wpAny_bind (listItems_at ho rfl ?_)
  refine wpAny_bind (listUpdate_at ho rfl ?_)
  obtain ⟨e1, ho1⟩ : ∃ e1, (s.heap.update a (Obj.mapSeq fun _ => #[])).get? a = some (seqObj "list" #[] e1) := ⟨_, get?_update_seq ho (fun _ => #[])⟩
  refine wpAny_bind (seqEpoch_at ho1 rfl ?_)
  refine wpAny_bind (wpAny_newTuple ?_)
  refine wpAny_bind (wpAny_newList ?_)
  refine wpAny_holding ?_
  have ho6 : (((s.heap.update a (Obj.mapSeq fun _ => #[])).push (seqObj "tuple" vs.toArray 0)).push (seqObj "list" #[] 0)).get? a = some (seqObj "list" #[] e1) := by
    rw [Heap.get?_push_ne _ _ _ (by rw [size_push', Heap.size_update]; exact Nat.ne_of_lt (Nat.lt_succ_of_lt ha)), Heap.get?_push_ne _ _ _ (by rw [Heap.size_update]; exact Nat.ne_of_lt ha)]
    exact ho1
  show wpAny (model prog w) A _ P E { s with heap := ((s.heap.update a (Obj.mapSeq fun _ => #[])).push (seqObj "tuple" vs.toArray 0)).push (seqObj "list" #[] 0) }
  dsimp only
  have h2' : vs.toArray.size < 2 := by simpa using h2
  rw [if_pos h2', if_pos h2']
  refine wpAny_bind (wpAny_pure ?_)
  rw [StateT.run_pure]
  refine wpAny_bind (wpAny_pure ?_)
  dsimp only
  refine wpAny_bind (seqEpoch_at ho6 rfl ?_)
  refine wpAny_bind (listUpdate_at ho6 rfl ?_ (hsz2 := by rw [Array.size_map]; show (pairsOf vs).size ≤ _; rw [pairsOf_size, sizeLine_eq]; lia))
  simp only [bne_self_eq_false, Bool.false_eq_true, if_false]
  exact wpAny_pure h
theorem zip_snd (vs : List Value) : (vs.toArray.zip vs.toArray).map (·.2) = vs.toArray := by
  apply Array.toList_inj.mp
  simp [List.map_snd_zip]

/-- comparing the parts of two tuples: any answer -/
theorem lex_any {fin : Bool} {Q : Bool → Shared → Prop} (h : ∀ b, Q b s) : ∀ {us vs : List Value} {ns ms : List Int} (i : Nat), IntsAre us ns → IntsAre vs ms → 0 < i → KatLex prog w A true fin Q (us.zip vs) i s
  | [], vs, _, _, i, _, _, _ => by rw [List.zip_nil_left]; exact h _
  | u :: us, [], _, _, i, _, _, _ => by rw [List.zip_nil_right]; exact h _
  | u :: us, v :: vs, _, _, i, hu, hv, hi => by
    cases hu with
    | cons a t hu => cases hv with
      | cons b t' hv =>
        rw [List.zip_cons_cons]
        refine kat_cons (wpAny_eqBool_int ?_)
        refine kat_go (fun _ => kat_yes (lex_any h (i + 1) hu hv (Nat.succ_pos _))) fun _ => kat_no ?_
        have e : (true && i == 0) = false := by simp; lia
        rw [e]
        exact kat_one _ _ (wpAny_lt_int (h _))
theorem lex_tup {fin : Bool} {Q : Bool → Shared → Prop} {x y : PySem.Str} {t t' : Tok} {us vs : List Value} {ns ms : List Int} (h : ∀ b, Q b s) (hu : IntsAre us ns) (hv : IntsAre vs ms) :
    KatLex prog w A true fin Q ((Value.str x t :: us).zip (.str y t' :: vs)) 0 s := by
  rw [List.zip_cons_cons]
  refine kat_cons (wpAny_eqBool_str ?_)
  refine kat_go (fun _ => kat_yes (lex_any h 1 hu hv Nat.one_pos)) fun _ => kat_no ?_
  exact oneLt_str (h _)

theorem kat_tups {h : PySem.Heap} (N : ∀ p ∈ news, h.get? p.1 = some p.2) : ∀ (vs : List Value), (∀ v ∈ vs, ∃ k, TupV news v k) → ∃ fs, KatTups h vs fs ∧ fs.length = vs.length ∧ ∀ f ∈ fs, ∃ x t, f = .str x t
  | [], _ => ⟨[], .nil, rfl, fun f hf => by cases hf⟩
  | v :: vs, hv => by
    obtain ⟨fs, h1, h2, h3⟩ := kat_tups N vs fun u hu => hv u (.tail _ hu)
    obtain ⟨k, b, t, us, n, rfl, hm, hi⟩ := hv v (.head _)
    refine ⟨.str k.1 t :: fs, .cons (N _ hm) rfl rfl (by simp) h1, by simp [h2], fun f hf => ?_⟩
    rcases List.mem_cons.mp hf with rfl | hf
    · exact ⟨_, _, rfl⟩
    · exact h3 f hf

theorem sorted_setT {S : Addr} {es : Array (Int × Value)} {ep : Nat} {t : SetTable} {Q : Value → Shared → Prop} (hh : A.handled = none) (F : Fr g L s.heap m) (N : News g L s.heap news) (hm : (S, so es ep t) ∈ news) (hT : SetT w news tks es t) (hz : tks.length ≤ 16)
    (h : ∀ D e vs h' tk dr, Fr g L h' m → News g L h' ((D, lo vs e) :: news) → (∀ p ∈ news, p.1 < D) → vs.length ≤ tks.length → (∀ v ∈ vs, ∃ k ∈ tks, TupV news v k) → (∀ k ∈ tks, ∃ v ∈ vs, TupV news v k) → Q (.ref D) { s with heap := h', toks := tk, drawn := dr }) :
    wpAny (model prog w) A (call (.builtin "sorted") [.ref S]) Q E s := by
  have hS := (N _ hm).1
  have hsz := hT.sz
  refine Calls.call_function_entry kind_sorted plain_sorted entry_sorted (args_sorted1 _) ?_
  unfold Builtin.«sorted»
  refine wpAny_bind (m := checkCount "sorted" 1 1 _) (wpAny_pure ?_)
  refine wpAny_bind (collect_set hh hS hT.tb (by lia) fun acc h₁ tk dr hp hold => ?_)
  have hlen : acc.length = es.size := by rw [hp.length_eq]; simp
  have hout : ∀ v ∈ acc, ∃ k ∈ tks, TupV news v k := fun v hv => by
    obtain ⟨e, he, rfl⟩ := List.mem_map.mp (hp.mem_iff.mp hv)
    exact hT.out e he
  have hin : ∀ k ∈ tks, ∃ v ∈ acc, TupV news v k := fun k hk => by
    obtain ⟨e, he, hv⟩ := hT.inn k hk
    exact ⟨e.2, hp.mem_iff.mpr (List.mem_map.mpr ⟨e, he, rfl⟩), hv⟩
  refine wpAny_bind (wpAny_newList ?_ (by rw [sizeLine_eq]; lia))
  have hoL : (h₁.push (seqObj "list" acc.toArray 0)).get? h₁.objs.size = some (seqObj "list" acc.toArray 0) := Heap.get?_push_size _ rfl
  have F1 := fr_old F hold
  have N1 := news_old N hold
  have hLl : L < h₁.objs.size := F1.ns.lt
  by_cases h2 : acc.length < 2
  · refine wpAny_bind (wpAny_holding (wpAny_call_entry slot_list_sort ⟨_, hoL, rfl⟩ entry_list_sort (sort_small hoL h2 ⟨_, rfl, ?_⟩) (args_list_sort _)))
    refine wpAny_pure ⟨_, rfl, ?_⟩
    rw [zip_snd]
    obtain ⟨e, he⟩ := sortedHeap_at (out := acc.toArray) hoL
    have old2 : ∀ b o, h₁.get? b = some o → (sortedHeap (h₁.push (seqObj "list" acc.toArray 0)) h₁.objs.size acc acc.toArray).get? b = some o := fun b o eb => by
      have hlt := Heap.lt_size eb
      rw [sortedHeap_old (Nat.ne_of_lt hlt) (by rw [Heap.size_push]; exact Nat.lt_succ_of_lt hlt), Heap.get?_push_ne _ _ _ (Nat.ne_of_lt hlt)]
      exact eb
    refine h _ e acc _ tk dr (fr_old F1 old2) (fun p hp => ?_) (fun p hp => Heap.lt_size (N1 p hp).1) (by lia) hout hin
    rcases List.mem_cons.mp hp with rfl | hp
    · exact ⟨he, Nat.ne_of_gt hLl, Heap.get?_none_of_le (Nat.le_trans F.above (Nat.le_of_lt hLl))⟩
    · exact news_old N1 old2 p hp
  · refine wpAny_bind (wpAny_holding (wpAny_call_entry slot_list_sort ⟨_, hoL, rfl⟩ entry_list_sort ?body (args_list_sort _)))
    case body =>
      have keep : Old h₁ (h₁.push (seqObj "list" acc.toArray 0)) := fun b o e => Heap.get?_push_of_some _ e
      refine kat_list_sort (s := { s with heap := h₁.push (seqObj "list" acc.toArray 0), toks := tk, drawn := dr }) (fr_old F1 keep) (news_old N1 keep) hoL (Nat.ne_of_gt hLl) (Heap.get?_none_of_le (Nat.le_trans F.above (Nat.le_of_lt hLl)))
        (fun p hp => Nat.ne_of_lt (Heap.lt_size (N1 p hp).1)) (by lia) (by lia) fun e1 h2 F2 N2 => ?_
      have NN : ∀ p ∈ news, h2.get? p.1 = some p.2 := fun p hp => (N2 p (.tail _ hp)).1
      obtain ⟨fs, kt, fl, fstr⟩ := kat_tups NN acc fun v hv => let ⟨k, _, hk⟩ := hout v hv; ⟨k, hk⟩
      refine kat_kind (T := .type "str") kt (by lia) (fun v hv => ?_) (by decide) ?_
      · obtain ⟨x, t', rfl⟩ := fstr v hv
        exact Looks.of_pure rfl
      · refine kOk_wp (n := acc.length) (fun i j C hi hj hC => ?_) (fun p hpp => ?_) _ (sort_ok (by lia))
        · unfold kas_ask
          have ei : acc.getD i .none = acc[i] := by simp [hi]
          have ej : acc.getD j .none = acc[j] := by simp [hj]
          rw [ei, ej]
          obtain ⟨k1, _, b1, t1, us1, n1, e1', m1, i1⟩ := hout acc[i] (by simp)
          obtain ⟨k2, _, b2, t2, us2, n2, e2', m2, i2⟩ := hout acc[j] (by simp)
          rw [e1', e2']
          refine kat_lt (NN _ m1) rfl (NN _ m2) rfl ?_
          exact lex_tup hC i1 i2
        · have hperm : (p.toList.map fun i => acc.getD i Value.none).Perm acc := by
            refine (hpp.map _).trans ?_
            have : (List.range acc.length).map (fun i => acc.getD i Value.none) = acc := by
              refine List.ext_getElem (by simp) fun i h1 h2 => ?_
              have : i < acc.length := by simpa using h1
              simp [this]
            rw [this]
          refine KasFin.intro (news := (h₁.objs.size, seqObj "list" #[] e1) :: news) F2 N2 (UpdF.head ?_) fun h' c F' N' => ?_
          · exact fun p hp => Nat.ne_of_lt (Heap.lt_size (N1 p hp).1)
          · refine ⟨_, rfl, wpAny_pure ⟨_, rfl, ?_⟩⟩
            refine h _ c _ h' tk dr F' ?_ (fun p hp => Heap.lt_size (N1 p hp).1) (by rw [hperm.length_eq]; lia) (fun v hv => hout v (hperm.mem_iff.mp hv)) (fun k hk => ?_)
            · exact N'
            · obtain ⟨v, hv, hk⟩ := hin k hk
              exact ⟨v, hperm.mem_iff.mpr hv, hk⟩
end
theorem IntsAre.get {vs : List Value} {ns : List Nat} (h : IntsAre vs (zs ns)) {j p : Nat} (hj : ns[j]? = some p) : ∃ t, vs[j]? = some (.int (p : Int) t) := by
  obtain ⟨hlt, he⟩ := List.getElem?_eq_some_iff.mp hj
  have hl := IntsAre.length h
  simp only [zs, List.length_map] at hl
  have hv : vs[j]? = some vs[j] := List.getElem?_eq_getElem (hl ▸ hlt)
  obtain ⟨t, e⟩ := PyProof.Rows.IntsAre.int_at h j _ hv
  refine ⟨t, ?_⟩
  rw [hv, e]
  simp [zs, List.getD_eq_getElem?_getD, hj]
theorem IntsAre.len {vs : List Value} {ns : List Nat} (h : IntsAre vs (zs ns)) : vs.length = ns.length := by
  have := IntsAre.length h
  simpa [zs] using this

section
variable {prog : Program} {w : World} {A : Around} {E : Value → Shared → Prop} {s : Shared} {g h h' : PySem.Heap} {L a : Addr} {m : PySem.Str → Option Value} {news : List (Addr × Obj)} {us : List Value} {ns : List Nat} {n : Nat}
theorem sub_ints {value slice : PySem.Expr} {j p : Nat} {u : Tok} {Q : Value → Shared → Prop}
    (N : News g L s.heap news) (hm : (a, lo us n) ∈ news) (hi : IntsAre us (zs ns)) (hj : ns[j]? = some p) (hz : ns.length ≤ 1000)
    (h : ∀ t, Q (.int (p : Int) t) s)
    (hs : subscripted slice false (.ref a) (.int (j : Int) u) = operate [.ref a, .int (j : Int) u] (getItem (.ref a) (.int (j : Int) u)) := by with_unfolding_all rfl) :
    wpAny (model prog w) A (subscriptTail value slice (.ref a) (.int (j : Int) u)) Q E s := by
  obtain ⟨t, ht⟩ := IntsAre.get hi hj
  exact rl_item N hm ht (by rw [IntsAre.len hi]; lia) (h t) hs

theorem rl_len {Q : Value → Shared → Prop} (N : News g L s.heap news) (hm : (a, lo us n) ∈ news) (hz : us.length ≤ 100000) (h : ∀ t t', Q (.int (us.length : Int) t) { s with toks := t' }) : wpAny (model prog w) A (call (.builtin "len") [.ref a]) Q E s := by
  refine call_len_list (rl_list N hm) (by rw [List.size_toArray]; lia) ?_
  rw [List.size_toArray]
  exact h _ _
theorem rl_lenI {Q : Value → Shared → Prop} (N : News g L s.heap news) (hm : (a, lo us n) ∈ news) (hi : IntsAre us (zs ns)) (hz : ns.length ≤ 1000) (h : ∀ t t', Q (.int (ns.length : Int) t) { s with toks := t' }) : wpAny (model prog w) A (call (.builtin "len") [.ref a]) Q E s :=
  rl_len N hm (by rw [IntsAre.len hi]; lia) fun t t' => by rw [IntsAre.len hi]; exact h t t'
theorem rl_newList {vs : List Value} {Q : Value → Shared → Prop} (F : Fr g L s.heap m) (N : News g L s.heap news) (hz : vs.length ≤ 100000)
    (h : ∀ D h', Fr g L h' m → News g L h' ((D, lo vs 0) :: news) → (∀ p ∈ news, p.1 < D) → Q (.ref D) { s with heap := h' }) : wpAny (model prog w) A (newList vs) Q E s :=
  newList_N F N (fun h' F' N' => h _ h' F' N' fun p hp => Heap.lt_size (N p hp).1) (by rw [sizeLine_eq]; lia)
theorem rl_newTuple {vs : List Value} {Q : Value → Shared → Prop} (F : Fr g L s.heap m) (N : News g L s.heap news) (hz : vs.length ≤ 100000)
    (h : ∀ D h', Fr g L h' m → News g L h' ((D, tu vs 0) :: news) → (∀ p ∈ news, p.1 < D) → Q (.ref D) { s with heap := h' }) : wpAny (model prog w) A (newTuple vs) Q E s :=
  newTuple_N F N (fun h' F' N' => h _ h' F' N' fun p hp => Heap.lt_size (N p hp).1) (by rw [sizeLine_eq]; lia)

theorem rl_unpackL {elts : List PySem.Expr} {k : Nat} {pos : Pos} {env : Env} {j : Nat} {Q : Unit → Shared → Prop} (F : Fr g L s.heap m) (N : News g L s.heap news) (hm : (a, lo us n) ∈ news) (hr : RoomOk A j)
    (hn : (assignEach elts env).length = us.length) (hstar : (assignEach elts env).findIdx? (·.1) = none)
    (h : ∀ h', Fr g L h' m → News g L h' news → wpAny (model prog w) A (assignInOrder ((assignEach elts env).map (·.2)) us) Q E { s with heap := h' }) : wpAny (model prog w) A (assign (.Tuple elts k pos) env (.ref a)) Q E s :=
  kun_list F N (rl_list N hm) hr.hh hn hstar h
theorem rl_unpackT {elts : List PySem.Expr} {k : Nat} {pos : Pos} {env : Env} {j : Nat} {Q : Unit → Shared → Prop} (F : Fr g L s.heap m) (N : News g L s.heap news) (hm : (a, tu us n) ∈ news) (hr : RoomOk A j)
    (hn : (assignEach elts env).length = us.length) (hstar : (assignEach elts env).findIdx? (·.1) = none)
    (h : ∀ h', Fr g L h' m → News g L h' news → wpAny (model prog w) A (assignInOrder ((assignEach elts env).map (·.2)) us) Q E { s with heap := h' }) : wpAny (model prog w) A (assign (.Tuple elts k pos) env (.ref a)) Q E s :=
  unpackN_ F N ⟨_, (N _ hm).1, rfl, _, rfl⟩ hr.hh hn hstar h

theorem rl_tup {us : List Value} {n : Nat} (N : News g L h news) (hm : (a, tu us n) ∈ news) : IsTup h a us.toArray := ⟨_, (N _ hm).1, rfl, n, rfl⟩
theorem rl_tup0 {value slice : PySem.Expr} {v : Value} {u : Tok} {Q : Value → Shared → Prop} (N : News g L s.heap news) (hm : (a, tu (v :: us) n) ∈ news) (hz : us.length ≤ 100000) (h : Q v s)
    (hs : subscripted slice false (.ref a) (.int 0 u) = operate [.ref a, .int 0 u] (getItem (.ref a) (.int 0 u)) := by with_unfolding_all rfl) :
    wpAny (model prog w) A (subscriptTail value slice (.ref a) (.int 0 u)) Q E s := by
  have ht := rl_tup N hm
  refine tail_any ht.typeIs slot_tuple_getitem.lookup (PyProof.Rows.getItem_tuple ht (by decide) (by decide) (j := 0) ?_ (by simp) h) hs
  simp [seqIndex?]
theorem rl_slice1 {value slice : PySem.Expr} {v : Value} {u : Tok} {Q : Value → Shared → Prop} (F : Fr g L s.heap m) (N : News g L s.heap news) (hm : (a, tu (v :: us) n) ∈ news) (hz : us.length ≤ 100000)
    (h : ∀ D h', Fr g L h' m → News g L h' ((D, tu us 0) :: news) → (∀ p ∈ news, p.1 < D) → Q (.ref D) { s with heap := h' })
    (hs : subscripted slice false (.ref a) (.ref s.heap.objs.size) = operate [.ref s.heap.objs.size, .ref a] (getItem (.ref a) (.ref s.heap.objs.size)) := by with_unfolding_all rfl)
    (hg : ∀ r, letTemporaryGo value (.ref a) r = pure () := by intro _; with_unfolding_all rfl) :
    wpAny (model prog w) A (subscriptTail value slice (.ref a) (.ref s.heap.objs.size)) Q E { s with heap := s.heap.push { cls := .type "slice", data := .fields #[.int 1 u, .none, .none] } } :=
  slice_tuple_from F N (rl_tup N hm) (Nat.le_refl 1) (by simp) (fun h' F' N' => h _ h' F' N' fun p hp => Nat.lt_succ_of_lt (Heap.lt_size (N p hp).1)) hs hg (by rw [List.size_toArray, sizeLine_eq]; simp; lia)
theorem rl_tupOfList {Q : Value → Shared → Prop} (F : Fr g L s.heap m) (N : News g L s.heap news) (hm : (a, lo us n) ∈ news) (hz : us.length ≤ 100000)
    (h : ∀ D h', Fr g L h' m → News g L h' ((D, tu us 0) :: news) → (∀ p ∈ news, p.1 < D) → Q (.ref D) { s with heap := h' }) : wpAny (model prog w) A (call (.type "tuple") [.ref a]) Q E s := by
  refine call_tuple_list (rl_list N hm) (fun h' hk => ?_) (by rw [List.size_toArray, sizeLine_eq]; lia)
  have F' := fr_old F hk
  have N' := news_old N hk
  exact h _ _ (F'.push _) (News.push F' N' _) fun p hp => Heap.lt_size (N' p hp).1
theorem rl_addTup {v : Value} {b : Addr} {vs ws : List Value} {k : Nat} {Q : Value → Shared → Prop} (F : Fr g L s.heap m) (N : News g L s.heap news) (hm : (a, tu (v :: vs) n) ∈ news) (hb : (b, tu ws k) ∈ news) (hz : vs.length + ws.length ≤ 100000)
    (h : ∀ D h' j news', Fr g L h' m → News g L h' news' → (∀ p ∈ news, p ∈ news') → (D, tu (v :: (vs ++ ws)) j) ∈ news' → (D = a ∨ ∀ p ∈ news, p.1 < D) → Q (.ref D) { s with heap := h' }) : wpAny (model prog w) A (binaryOp .Add (.ref a) (.ref b)) Q E s := by
  refine add_tuples F N (rl_tup N hm) (rl_tup N hb) (fun e => by cases e) (fun _ e => ?_) (fun _ _ h' F' N' => ?_) (by rw [List.length_cons, sizeLine_eq]; lia)
  · subst e
    exact h a s.heap n news F N (fun _ hp => hp) (by rw [List.append_nil]; exact hm) (.inl rfl)
  · exact h _ h' 0 _ F' N' (fun p hp => List.mem_cons_of_mem _ hp) List.mem_cons_self (.inr fun p hp => Heap.lt_size (N p hp).1)
theorem rl_addList {b : Addr} {vs : List Value} {k : Nat} {Q : Value → Shared → Prop} (F : Fr g L s.heap m) (N : News g L s.heap news) (hm : (a, lo us n) ∈ news) (hb : (b, lo vs k) ∈ news) (hz : us.length + vs.length ≤ 100000)
    (h : ∀ D h', Fr g L h' m → News g L h' ((D, lo (us ++ vs) 0) :: news) → (∀ p ∈ news, p.1 < D) → Q (.ref D) { s with heap := h' }) : wpAny (model prog w) A (binaryOp .Add (.ref a) (.ref b)) Q E s := by
  refine P.add_list (N _ hm).1 (N _ hb).1 ?_ (by rw [List.size_toArray, List.size_toArray, sizeLine_eq]; lia)
  have := h _ _ (F.push _) (News.push F N { cls := .type "list", data := .seq (us ++ vs).toArray }) fun p hp => Heap.lt_size (N p hp).1
  simpa using this

/-- what a call may change: the objects it owns, and new ones -/
structure Ch (own own' : List Addr) (news news' : List (Addr × Obj)) : Prop where
  keep : ∀ p ∈ news, p.1 ∉ own → p ∈ news'
  fresh : ∀ x ∈ own', x ∈ own ∨ ∀ p ∈ news, p.1 ≠ x
theorem Ch.rfl {own : List Addr} : Ch own own news news := ⟨fun _ h _ => h, fun _ h => .inl h⟩
theorem Ch.more {own : List Addr} {news' : List (Addr × Obj)} (hs : ∀ p ∈ news, p ∈ news') : Ch own own news news' := ⟨fun p h _ => hs p h, fun _ h => .inl h⟩
theorem Ch.trans {own own1 own2 : List Addr} {news1 news2 : List (Addr × Obj)} (a : Ch own own1 news news1) (b : Ch own1 own2 news1 news2) : Ch own own2 news news2 := by
  refine ⟨fun p hp hn => b.keep p (a.keep p hp hn) fun h1 => ?_, fun x hx => ?_⟩
  · rcases a.fresh _ h1 with h | h
    · exact hn h
    · exact h p hp _root_.rfl
  · rcases b.fresh x hx with h | h
    · exact a.fresh x h
    · by_cases ho : x ∈ own
      · exact .inl ho
      · refine .inr fun p hp e => ?_
        subst e
        exact h p (a.keep p hp ho) _root_.rfl
theorem Ch.out {own own' : List Addr} {news' : List (Addr × Obj)} (c : Ch own own' news news') {x : Addr} {o : Obj} (hx : x ∉ own) (hm : (x, o) ∈ news) : x ∉ own' ∧ (x, o) ∈ news' :=
  ⟨fun h => (c.fresh x h).elim hx fun h => h _ hm _root_.rfl, c.keep _ hm hx⟩
theorem Ch.upd {own : List Addr} {o : Obj} (ha : a ∈ own) : Ch own own news (upd a o news) :=
  ⟨fun p hp hn => upd_ne hp fun e => hn (e ▸ ha), fun _ h => .inl h⟩
end

/-- the end of a loop's turn -/
noncomputable def Nx (P : Shared → Prop) (f : Flow) (s : Shared) : Prop := (f = .next ∨ f = .cont) ∧ P s
theorem nx {P : Shared → Prop} {s : Shared} (h : P s) : Nx P .next s := ⟨.inl rfl, h⟩
/-- the end of a def's body -/
noncomputable def Rt (R : Value → Shared → Prop) : Flow → Shared → Prop
  | .ret v, s => R v s
  | _, s => R .none s
noncomputable def Lv (g : PySem.Heap) (L : Addr) (m : PySem.Str → Option Value) (g' : PySem.Heap) (Q : Value → Shared → Prop) (v : Value) (s : Shared) : Prop :=
  LeaveK g L m g' (fun r s' => match r with | .ok (.ret v) => Q v s' | _ => False) v s
theorem lv_ret {g g' : PySem.Heap} {L L' : Addr} {m m' : PySem.Str → Option Value} {news' : List (Addr × Obj)} {Q : Value → Shared → Prop} {v : Value} {s : Shared} (F' : Fr g' L' s.heap m') (N' : News g' L' s.heap news')
    (h : Fr g L s.heap m → News g L s.heap news' → Q v s) : Rt (Lv g L m g' Q) (.ret v) s := by
  change Lv g L m g' Q v s
  exact ⟨_, _, _, F', N', h⟩
theorem lv_next {g g' : PySem.Heap} {L L' : Addr} {m m' : PySem.Str → Option Value} {news' : List (Addr × Obj)} {Q : Value → Shared → Prop} {s : Shared} (F' : Fr g' L' s.heap m') (N' : News g' L' s.heap news')
    (h : Fr g L s.heap m → News g L s.heap news' → Q .none s) : Rt (Lv g L m g' Q) .next s := by
  change Lv g L m g' Q .none s
  exact ⟨_, _, _, F', N', h⟩
theorem lv_conv {g g' : PySem.Heap} {L : Addr} {m : PySem.Str → Option Value} {Q : Value → Shared → Prop} {E : Value → Shared → Prop} {fl : Flow} {s : Shared} (h : Rt (Lv g L m g' Q) fl s) :
    LeaveK g L m g' (fun r s' => match r with | .ok (.ret v) => Q v s' | .ok _ => False | .error e => E e s') (match (generalizing := false) fl with | .ret v => v | _ => .none) s := by
  cases fl <;> (obtain ⟨L', m', news', a, b, c⟩ := h; exact ⟨L', m', news', a, b, c⟩)

/-- the names that a call binds -/
noncomputable def Binds (_ : List (PySem.Str × Value)) (P : Prop) : Prop := P
theorem bd (b : List (PySem.Str × Value)) {P : Prop} (h : Binds b P) : P := h

section
variable {prog : Program} {w : World} {A : Around} {E : Value → Shared → Prop} {s : Shared} {g : PySem.Heap} {L : Addr} {m : PySem.Str → Option Value} {news : List (Addr × Obj)} {K : Frag}
  {Q : Value → Shared → Prop} {name qual : PySem.Str} {params : Arguments} {body : List Stmt} {scope : Scope} {dV kV doc pm cdv ct oc : Value} {an od : Option Addr} {osl : Array (Option Value)} {f : Addr} {args : List Value} {binds : List (PySem.Str × Value)} {env : Env} {k : Nat}
theorem callP (F : Fr g L s.heap m) (N : News g L s.heap news) (X : K.In g) (hlim : g.NoLimit) (hroom : RoomOk A (k + 1))
    (ho : K.lookup f = some ⟨oc, od, .func (fnOf name qual params body scope dV kV doc pm an cdv ct), osl⟩) (hcd : codeIn K cdv qual = true)
    (hbind : bindArgs (fnOf name qual params body scope dV kV doc pm an cdv ct) ⟨args, []⟩ = pure binds) (hloc : (binds.all fun x => decide (scope.names.lookup x.1 = some .local)) = true)
    (h : ∀ g' L' h₁, g.StaysIn g' → K.In g' → RoomOk (A.deeper (envOf qual scope L' f cdv)) k → Fr g' L' h₁ (fun y => binds.reverse.lookup y) → News g' L' h₁ news →
      wpAny (model prog w) (A.deeper (envOf qual scope L' f cdv)) (execs body (envOf qual scope L' f cdv)) (Rt (Lv g L m g' Q)) (fun _ _ => False) { s with heap := h₁, toks := s.toks + binds.length })
    (hcell : ∀ x ∈ scope.names, x.2 ≠ .cell) (hco : scope.isCoroutine = false) (hgen : scope.isGenerator = false) (hk : scope.kind = .function) :
    Binds binds (wpAny (model prog w) A (call (.ref f) args) Q E s) := by
  refine wpAny_call (enterP F N X hlim hroom.lim ho hcd hbind hloc (fun g' L' h₁ a b c d => ?_) hcell hco hgen hk)
  exact wpAny_mono (h g' L' h₁ a b (hroom.deeper _) c d) (fun fl s' hl => lv_conv hl) fun _ _ x => x

theorem callC (F : Fr g L s.heap m) (N : News g L s.heap news) (X : K.In g) (hlim : g.NoLimit) (hroom : RoomOk A (k + 1))
    (ho : K.lookup f = some ⟨oc, od, .func (fnOf name qual params body scope dV kV doc pm an cdv ct), osl⟩) (hcd : codeIn K cdv qual = true)
    (hbind : bindArgs (fnOf name qual params body scope dV kV doc pm an cdv ct) ⟨args, []⟩ = pure binds)
    (hkind : (binds.all fun y => scope.names.lookup y.1 == some .local || scope.names.lookup y.1 == some .cell) = true)
    (hnd : ((cellsFrom 0 scope.names []).map (·.1)).Nodup)
    (h : ∀ g' L' h₁ tk cells, g.StaysIn g' → K.In g' → RoomOk (A.deeper (envOfC qual scope L' f cdv)) k → Fr g' L' h₁ (bindL (envOfC qual scope L' f cdv).kindOf binds fun _ => none) → News g' L' h₁ (cells ++ news) →
      CellsAre (bindC (envOfC qual scope L' f cdv).kindOf binds fun _ => none) (cellsFrom (L' + 1) scope.names []) cells → (∀ p ∈ news, p.1 < L') →
      wpAny (model prog w) (A.deeper (envOfC qual scope L' f cdv)) (execs body (envOfC qual scope L' f cdv)) (Rt (Lv g L m g' Q)) (fun _ _ => False) { s with heap := h₁, toks := tk })
    (hco : scope.isCoroutine = false) (hgen : scope.isGenerator = false) (hk : scope.kind = .function) :
    Binds binds (wpAny (model prog w) A (call (.ref f) args) Q E s) := by
  refine wpAny_call (enterC F N X hlim hroom.lim ho hcd hbind hkind hnd (fun g' L' h₁ tk cells a b c d e i => ?_) hco hgen hk)
  exact wpAny_mono (h g' L' h₁ tk cells a b (hroom.deeper _) c d e i) (fun fl s' hl => lv_conv hl) fun _ _ x => x

theorem while_walk {test : PySem.Expr} {body : List Stmt} {pos : Pos} {Q : Flow → Shared → Prop} (I : Nat → Shared → Prop) (n : Nat) (h : I n s)
    (turn : ∀ n s', I n s' → ∀ Z : Shared → Prop, (∀ s₃, (∃ k, k < n ∧ I k s₃) → Z s₃) → wpAny (model prog w) A (isTrue test env (eval test env)) (fun b s₂ => if b = true then wpAny (model prog w) A (execs body env) (Nx Z) (fun _ _ => False) s₂ else Q .next s₂) (fun _ _ => False) s') :
    wpAny (model prog w) A (exec (.While test body [] pos) env) Q E s := by
  refine wpAny_While (codeAny_whileLoop I (fun n s' hI => ?_) n h)
  refine wpAny_mono (turn n s' hI _ fun _ h => h) (fun b s₂ hb => ?_) fun _ _ x => x.elim
  cases b with
  | false => simp only [Bool.false_eq_true, if_false] at hb ⊢; exact wpAny_execs_nil hb
  | true =>
    simp only [if_true] at hb ⊢
    refine wpAny_mono hb (fun f s₃ hn => ?_) fun _ _ x => x.elim
    rcases hn with ⟨rfl | rfl, hn⟩ <;> exact hn
end
structure UA where
  (U dU aL lL gL : Addr)
  lots : List Addr
structure USt where
  par : List Nat
  lots : List (List Nat)
  nm : Nat
/-- what may change -/
noncomputable def UA.own (a : UA) : List Addr := a.aL :: a.lL :: a.gL :: a.lots
inductive LsI (news : List (Addr × Obj)) (x : Addr) (ns : List Nat) : Prop
  | mk (us : List Value) (n : Nat) (h : (x, lo us n) ∈ news) (i : IntsAre us (zs ns)) : LsI news x ns
inductive LsN (news : List (Addr × Obj)) (x : Addr) (k : Nat) : Prop
  | mk (vs : List Value) (n : Nat) (h : (x, lo vs n) ∈ news) (i : vs.length = k) : LsN news x k
inductive LtI (news : List (Addr × Obj)) (lots : List (List Nat)) (i : Nat) (b : Addr) : Prop
  | mk (l : List Nat) (us : List Value) (n : Nat) (e : lots[i]? = some l) (h : (b, lo us n) ∈ news) (q : IntsAre us (zs l)) : LtI news lots i b
inductive HdU (w : World) (news : List (Addr × Obj)) (d x y z : Addr) : Prop
  | mk (t1 t2 t3 : Tok) (n : Nat) (h : (d, dictOf [ent w.params "above" t1 (.ref x), ent w.params "lots" t2 (.ref y), ent w.params "merged" t3 (.ref z)] n) ∈ news) : HdU w news d x y z
structure RepU (w : World) (news : List (Addr × Obj)) (a : UA) (st : USt) : Prop where
  hU : (a.U, instObj 341 a.dU) ∈ news
  hd : HdU w news a.dU a.aL a.lL a.gL
  ha : LsI news a.aL st.par
  hl : ∃ n, (a.lL, lo (a.lots.map Value.ref) n) ∈ news
  hg : LsN news a.gL st.nm
  hls : ∀ (i : Nat) b, a.lots[i]? = some b → LtI news st.lots i b
  nd : (a.U :: a.dU :: a.own).Nodup
structure LenU (a : UA) (st : USt) : Prop where
  l1 : a.lots.length = st.par.length
  l2 : st.lots.length = st.par.length
  sm : st.par.length ≤ 16
structure NeU (a : UA) : Prop where
  ua : a.U ≠ a.aL
  ul : a.U ≠ a.lL
  ug : a.U ≠ a.gL
  us : a.U ∉ a.lots
  da : a.dU ≠ a.aL
  dl : a.dU ≠ a.lL
  dg : a.dU ≠ a.gL
  ds : a.dU ∉ a.lots
  al : a.aL ≠ a.lL
  ag : a.aL ≠ a.gL
  as : a.aL ∉ a.lots
  lg : a.lL ≠ a.gL
  ls : a.lL ∉ a.lots
  gs : a.gL ∉ a.lots
  ss : a.lots.Nodup
theorem RepU.ne {w : World} {news : List (Addr × Obj)} {a : UA} {st : USt} (R : RepU w news a st) : NeU a := by
  have h := R.nd
  unfold UA.own at h
  simp only [List.nodup_cons, List.mem_cons, not_or] at h
  refine hide fun G0 hG0 => ?_
  obtain ⟨⟨h1, h2, h3, h4, h5⟩, ⟨h6, h7, h8, h9⟩, ⟨h10, h11, h12⟩, ⟨h13, h14⟩, h15, h16⟩ := h
  refine hG0 ?_
  try clear hG0 G0
  exact ⟨h2, h3, h4, h5, h6, h7, h8, h9, h10, h11, h12, h13, h14, h15, h16⟩
section
variable {w : World} {news news' : List (Addr × Obj)} {a : UA} {st : USt}
theorem RepU.mono (R : RepU w news a st) (hs : ∀ p ∈ news, p ∈ news') : RepU w news' a st where
  hU := hs _ R.hU
  hd := let ⟨t1, t2, t3, n, h⟩ := R.hd; ⟨t1, t2, t3, n, hs _ h⟩
  ha := let ⟨us, n, h, i⟩ := R.ha; ⟨us, n, hs _ h, i⟩
  hl := let ⟨n, h⟩ := R.hl; ⟨n, hs _ h⟩
  hg := let ⟨vs, n, h, i⟩ := R.hg; ⟨vs, n, hs _ h, i⟩
  hls := fun i b hb => let ⟨l, us, n, h1, h2, h3⟩ := R.hls i b hb; ⟨l, us, n, h1, hs _ h2, h3⟩
  nd := R.nd
theorem mem_of_get {α : Type} {l : List α} {i : Nat} {b : α} (h : l[i]? = some b) : b ∈ l := List.mem_of_getElem? h
theorem ne_mem {l : List Addr} {x b : Addr} (hx : x ∉ l) (hb : b ∈ l) : b ≠ x := fun e => hx (e ▸ hb)
theorem RepU.updA (R : RepU w news a st) {us' : List Value} {n' : Nat} {par' : List Nat} (hi : IntsAre us' (zs par')) : RepU w (upd a.aL (lo us' n') news) a { st with par := par' } where
  hU := upd_ne R.hU R.ne.ua
  hd := let ⟨t1, t2, t3, n, h⟩ := R.hd; ⟨t1, t2, t3, n, upd_ne h R.ne.da⟩
  ha := let ⟨us, n, h, i⟩ := R.ha; ⟨us', n', upd_self h, hi⟩
  hl := let ⟨n, h⟩ := R.hl; ⟨n, upd_ne h R.ne.al.symm⟩
  hg := let ⟨vs, n, h, i⟩ := R.hg; ⟨vs, n, upd_ne h R.ne.ag.symm, i⟩
  hls := fun i b hb => let ⟨l, us, n, h1, h2, h3⟩ := R.hls i b hb; ⟨l, us, n, h1, upd_ne h2 (ne_mem R.ne.as (mem_of_get hb)), h3⟩
  nd := R.nd
theorem RepU.updG (R : RepU w news a st) {vs' : List Value} {n' k : Nat} (hi : vs'.length = k) : RepU w (upd a.gL (lo vs' n') news) a { st with nm := k } where
  hU := upd_ne R.hU R.ne.ug
  hd := let ⟨t1, t2, t3, n, h⟩ := R.hd; ⟨t1, t2, t3, n, upd_ne h R.ne.dg⟩
  ha := let ⟨us, n, h, i⟩ := R.ha; ⟨us, n, upd_ne h R.ne.ag, i⟩
  hl := let ⟨n, h⟩ := R.hl; ⟨n, upd_ne h R.ne.lg⟩
  hg := let ⟨vs, n, h, i⟩ := R.hg; ⟨vs', n', upd_self h, hi⟩
  hls := fun i b hb => let ⟨l, us, n, h1, h2, h3⟩ := R.hls i b hb; ⟨l, us, n, h1, upd_ne h2 (ne_mem R.ne.gs (mem_of_get hb)), h3⟩
  nd := R.nd
theorem RepU.updLot (R : RepU w news a st) {us' l' : List _} {n' i : Nat} {b : Addr} (hb : a.lots[i]? = some b) (hi : IntsAre us' (zs l')) : RepU w (upd b (lo us' n') news) a { st with lots := st.lots.set i l' } where
  hU := upd_ne R.hU (ne_mem R.ne.us (mem_of_get hb)).symm
  hd := let ⟨t1, t2, t3, n, h⟩ := R.hd; ⟨t1, t2, t3, n, upd_ne h (ne_mem R.ne.ds (mem_of_get hb)).symm⟩
  ha := let ⟨us, n, h, i⟩ := R.ha; ⟨us, n, upd_ne h (ne_mem R.ne.as (mem_of_get hb)).symm, i⟩
  hl := let ⟨n, h⟩ := R.hl; ⟨n, upd_ne h (ne_mem R.ne.ls (mem_of_get hb)).symm⟩
  hg := let ⟨vs, n, h, i⟩ := R.hg; ⟨vs, n, upd_ne h (ne_mem R.ne.gs (mem_of_get hb)).symm, i⟩
  hls := fun j c hc => by
    obtain ⟨l, us, n, h1, h2, h3⟩ := R.hls j c hc
    by_cases e : i = j
    · subst e
      rw [hb] at hc
      cases hc
      exact ⟨l', us', n', by rw [List.getElem?_set_self (List.getElem?_eq_some_iff.mp h1).1], upd_self h2, hi⟩
    · refine ⟨l, us, n, by rw [List.getElem?_set_ne e]; exact h1, upd_ne h2 ?_, h3⟩
      rintro rfl
      refine e ?_
      refine hide fun G0 hG0 => ?_
      obtain ⟨q1, q2⟩ := List.getElem?_eq_some_iff.mp hb
      obtain ⟨q3, q4⟩ := List.getElem?_eq_some_iff.mp hc
      refine hG0 ?_
      try clear hG0 G0
      exact (List.getElem_inj R.ne.ss).mp (q2.trans q4.symm)
  nd := R.nd
theorem RepU.mem (R : RepU w news a st) {x : Addr} (hx : x ∈ a.U :: a.dU :: a.own) : ∃ o, (x, o) ∈ news := by
  unfold UA.own at hx
  simp only [List.mem_cons] at hx
  rcases hx with rfl | rfl | rfl | rfl | rfl | hx
  · exact ⟨_, R.hU⟩
  · obtain ⟨_, _, _, _, h⟩ := R.hd; exact ⟨_, h⟩
  · obtain ⟨_, _, h, _⟩ := R.ha; exact ⟨_, h⟩
  · obtain ⟨_, h⟩ := R.hl; exact ⟨_, h⟩
  · obtain ⟨_, _, h, _⟩ := R.hg; exact ⟨_, h⟩
  · obtain ⟨i, hi, e⟩ := List.getElem_of_mem hx
    obtain ⟨_, _, _, _, h, _⟩ := R.hls i x (by rw [List.getElem?_eq_getElem hi, e])
    exact ⟨_, h⟩
theorem RepU.new (R : RepU w news a st) {D : Addr} (h : ∀ p ∈ news, @LT.lt Nat _ p.1 D) : D ∉ a.U :: a.dU :: a.own := fun hx => by
  obtain ⟨o, ho⟩ := R.mem hx
  exact Nat.lt_irrefl _ (h _ ho)
theorem RepU.addLot (R : RepU w news a st) {us l : List _} {n n' : Nat} {b : Addr} (hb : (b, lo us n) ∈ news) (hn : b ∉ a.U :: a.dU :: a.own) (hi : IntsAre us (zs l)) (hl : a.lots.length = st.lots.length) :
    RepU w (upd a.lL (lo ((a.lots ++ [b]).map Value.ref) n') news) { a with lots := a.lots ++ [b] } { st with lots := st.lots ++ [l] } where
  hU := upd_ne R.hU R.ne.ul
  hd := let ⟨t1, t2, t3, n, h⟩ := R.hd; ⟨t1, t2, t3, n, upd_ne h R.ne.dl⟩
  ha := let ⟨us, n, h, i⟩ := R.ha; ⟨us, n, upd_ne h R.ne.al, i⟩
  hl := let ⟨n, h⟩ := R.hl; ⟨n', upd_self h⟩
  hg := let ⟨vs, n, h, i⟩ := R.hg; ⟨vs, n, upd_ne h R.ne.lg.symm, i⟩
  hls := fun j c hc => by
    by_cases hj : j < a.lots.length
    · rw [List.getElem?_append_left hj] at hc
      obtain ⟨l, us, n, h1, h2, h3⟩ := R.hls j c hc
      exact ⟨l, us, n, by rw [List.getElem?_append_left (List.getElem?_eq_some_iff.mp h1).1]; exact h1, upd_ne h2 (ne_mem R.ne.ls (mem_of_get hc)), h3⟩
    · rw [List.getElem?_append_right (by lia)] at hc
      have h0 : j - a.lots.length = 0 := by
        have := (List.getElem?_eq_some_iff.mp hc).1
        simp at this; lia
      rw [h0] at hc
      simp at hc
      subst hc
      refine ⟨l, us, n, ?_, upd_ne hb ?_, hi⟩
      · rw [List.getElem?_append_right (by lia), show j - st.lots.length = 0 by lia]; rfl
      · rintro rfl; exact hn (by simp [UA.own])
  nd := by
    have := R.nd
    have e : (a.U :: a.dU :: ({ a with lots := a.lots ++ [b] } : UA).own) = (a.U :: a.dU :: a.own) ++ [b] := by simp [UA.own]
    show (a.U :: a.dU :: ({ a with lots := a.lots ++ [b] } : UA).own).Nodup
    rw [e, List.nodup_append]
    exact ⟨this, by simp, fun x hx y hy => by rw [List.mem_singleton.mp hy]; rintro rfl; exact hn hx⟩
end
/-- the forest is well: rt tells the root -/
structure OkU (par : List Nat) (rt : Nat → Nat) : Prop where
  up : ∀ j, j < par.length → ∃ q, par[j]? = some q ∧ q ≤ j ∧ rt q = rt j ∧ (q = j → rt j = j)
  rr : ∀ j, j < par.length → rt j < par.length ∧ par[rt j]? = some (rt j) ∧ rt j ≤ j
theorem OkU.root {par : List Nat} {rt : Nat → Nat} (h : OkU par rt) {j : Nat} (hj : par[j]? = some j) : rt j = j := by
  have hlt := (List.getElem?_eq_some_iff.mp hj).1
  refine hide fun G0 hG0 => ?_
  obtain ⟨q, hq, _, _, e⟩ := h.up j hlt
  refine hG0 ?_
  try clear hG0 G0
  rw [hj] at hq
  exact e (Option.some.inj hq).symm

section
variable {w : World} {A : Around} {g : PySem.Heap} {L : Addr} {m mg mb : PySem.Str → Option Value} {s : Shared} {news : List (Addr × Obj)} {p : Program} {loose : List PySem.Str} {a : UA} {st : USt} {rt : Nat → Nat} {E : Value → Shared → Prop}
set_option maxHeartbeats 8000000 in
theorem find_ok {i : Nat} {ti : Tok} {Q : Value → Shared → Prop}
   (F : Fr g L s.heap m) (N : News g L s.heap news) (X : (hd.heap_39 w.params).In g) (T : TopRead p loose mg mb g) (hr : RoomOk A 1)
   (R : RepU w news a st) (Z : LenU a st) (hp : OkU st.par rt) (hi : i < st.par.length)
   (h : ∀ t s', Sm s s' → Fr g L s'.heap m → News g L s'.heap news → Q (.int (rt i : Int) t) s') :
   wpAny (model P w) A (call (.ref 298) [.ref a.U, .int i ti]) Q E s := by
  refine bd [("self", .ref a.U), ("a", .int i ti)] ?_
  (refine' callP ?zF ?zN ?zX ?zT ?zR ?k6 ?k7 ?k9 ?kB ?_ ?c5 ?c2 ?c3 ?c4; (case zF | zN | zX | zR => assumption); (case zT => apply TopRead.nolimit; assumption); (case k6 | k7 => k_is); (case k9 | kB | c2 | c3 | c4 => exact rfl); (case c5 => decide); intros)
  rename_i g' L' h' stay X' hr' F' N'
  have T' := T.keeps stay
  have hU := R.hU
  refine hide fun G0 hG0 => ?_
  obtain ⟨t1, t2, t3, n', hdU⟩ := R.hd
  obtain ⟨us, nA, hA, hI⟩ := R.ha
  refine hG0 ?_
  try clear hG0 G0
  have hz : st.par.length ≤ 1000 := Nat.le_trans Z.sm (by decide)
  have fin : ∀ {s1 : Shared} {m1 : PySem.Str → Option Value} {t : Tok}, Sm s s1 → Fr g' L' s1.heap m1 → News g' L' s1.heap news → Rt (Lv g L m g' Q) (.ret (.int (rt i : Int) t)) s1 := fun sm F1 N1 => lv_ret F1 N1 fun F2 N2 => h _ _ sm F2 N2
  clear X T F N R
  refine wpAny_execs_cons ?_
  refine while_walk (fun k s' => Sm s s' ∧ ∃ m' t, Fr g' L' s'.heap m' ∧ News g' L' s'.heap news ∧ m' "self" = some (.ref a.U) ∧ m' "a" = some (.int (k : Nat) t) ∧ rt k = rt i ∧ k < st.par.length) i ⟨⟨rfl, rfl⟩, _, _, F', N', by walk_at "mloc", by walk_at "mloc", rfl, hi⟩ ?_
  rintro k s' ⟨sm, m', t, F', N', h1, h2, h3, h4⟩ Z hZ
  refine hide fun G0 hG0 => ?_
  obtain ⟨q, hq, hqk, hrq, hqe⟩ := hp.up k h4
  refine hG0 ?_
  try clear hG0 G0
  k_fold
  repeat' (walk_at "mine")
  · refine nx <| hZ _ ⟨q, ?_, ⟨sm.1, sm.2⟩, _, _, by assumption, by assumption, by walk_at "mloc", by walk_at "mloc", hrq.trans h3, ?_⟩ <;> lia
  · have e : q = k := by lia
    subst e
    rw [← hqe rfl, h3]
    exact fin sm (by assumption) (by assumption)
end
section
variable {w : World} {A : Around} {g : PySem.Heap} {L : Addr} {m mg mb : PySem.Str → Option Value} {s : Shared} {news : List (Addr × Obj)} {p : Program} {loose : List PySem.Str} {a : UA} {st : USt} {rt : Nat → Nat} {E : Value → Shared → Prop}

theorem intsAre_append {us vs : List Value} {ns ms : List Nat} (h : IntsAre us (zs ns)) (h' : IntsAre vs (zs ms)) : IntsAre (us ++ vs) (zs (ns ++ ms)) := by
  refine hide fun G0 hG0 => ?_
  obtain ⟨e1, q1⟩ := intsAre_iff.mp h
  obtain ⟨e2, q2⟩ := intsAre_iff.mp h'
  refine hG0 ?_
  try clear hG0 G0
  refine intsAre_iff.mpr ⟨?_, fun v hv => (List.mem_append.mp hv).elim (q1 v) (q2 v)⟩
  rw [zs, List.map_append, List.map_append, ← e1, ← e2]
theorem intsAre_one (n : Nat) (t : Tok) : IntsAre [.int (n : Int) t] (zs [n]) := .cons _ _ .nil
set_option maxHeartbeats 8000000 in
theorem usize_ok {Q : Value → Shared → Prop}
   (F : Fr g L s.heap m) (N : News g L s.heap news) (X : (hd.heap_39 w.params).In g) (T : TopRead p loose mg mb g) (hr : RoomOk A 2)
   (R : RepU w news a st) (Z : LenU a st)
   (h : ∀ t s', Sm s s' → Fr g L s'.heap m → News g L s'.heap news → Q (.int (st.par.length : Int) t) s') :
   wpAny (model P w) A (call (.ref 291) [.ref a.U]) Q E s := by
  refine bd [("self", .ref a.U)] ?_
  (refine' callP ?zF ?zN ?zX ?zT ?zR ?k6 ?k7 ?k9 ?kB ?_ ?c5 ?c2 ?c3 ?c4; (case zF | zN | zX | zR => assumption); (case zT => apply TopRead.nolimit; assumption); (case k6 | k7 => k_is); (case k9 | kB | c2 | c3 | c4 => exact rfl); (case c5 => decide); intros)
  rename_i g' L' h' stay X' hr' F' N'
  have T' := T.keeps stay
  have hU := R.hU
  refine hide fun G0 hG0 => ?_
  obtain ⟨t1, t2, t3, n', hdU⟩ := R.hd
  obtain ⟨us, nA, hA, hI⟩ := R.ha
  refine hG0 ?_
  try clear hG0 G0
  have hz : st.par.length ≤ 1000 := Nat.le_trans Z.sm (by decide)
  have fin : ∀ {s1 : Shared} {m1 : PySem.Str → Option Value} {t : Tok}, Sm s s1 → Fr g' L' s1.heap m1 → News g' L' s1.heap news → Rt (Lv g L m g' Q) (.ret (.int (st.par.length : Int) t)) s1 := fun sm F1 N1 => lv_ret F1 N1 fun F2 N2 => h _ _ sm F2 N2
  clear X T F N R
  repeat' (walk_at "mine")
  exact fin ⟨rfl, rfl⟩ (by assumption) (by assumption)
set_option maxHeartbeats 8000000 in
theorem make_ok {Q : Value → Shared → Prop}
   (F : Fr g L s.heap m) (N : News g L s.heap news) (X : (hd.heap_39 w.params).In g) (T : TopRead p loose mg mb g) (hr : RoomOk A 2)
   (R : RepU w news a st) (Z : LenU a st) (hz : st.par.length ≤ 15)
   (h : ∀ t s' b news', Sm s s' → Fr g L s'.heap m → News g L s'.heap news' → RepU w news' { a with lots := a.lots ++ [b] } { st with par := st.par ++ [st.par.length], lots := st.lots ++ [[st.par.length]] } →
      LenU { a with lots := a.lots ++ [b] } { st with par := st.par ++ [st.par.length], lots := st.lots ++ [[st.par.length]] } → Ch a.own (a.own ++ [b]) news news' → Q (.int (st.par.length : Int) t) s') :
   wpAny (model P w) A (call (.ref 284) [.ref a.U]) Q E s := by
  refine bd [("self", .ref a.U)] ?_
  (refine' callP ?zF ?zN ?zX ?zT ?zR ?k6 ?k7 ?k9 ?kB ?_ ?c5 ?c2 ?c3 ?c4; (case zF | zN | zX | zR => assumption); (case zT => apply TopRead.nolimit; assumption); (case k6 | k7 => k_is); (case k9 | kB | c2 | c3 | c4 => exact rfl); (case c5 => decide); intros)
  rename_i g' L' h' stay X' hr' F' N'
  have T' := T.keeps stay
  have hz' : st.par.length ≤ 1000 := Nat.le_trans Z.sm (by decide)
  have hU := R.hU
  refine hide fun G0 hG0 => ?_
  obtain ⟨t1, t2, t3, n', hdU⟩ := R.hd
  obtain ⟨us, nA, hA, hI⟩ := R.ha
  refine hG0 ?_
  try clear hG0 G0
  clear X T F N
  repeat' (walk_at "mine")
  generalize tkW = tkW1 at *
  refine rl_append (by assumption) (by assumption) hA (by rw [IntsAre.len hI]; lia) fun h2 n2 F2 N2 => ?_
  clear N' F'
  have R1 := R.updA (n' := n2) (intsAre_append hI (intsAre_one st.par.length tkW1))
  clear hU hdU hA
  have hU := R1.hU
  refine hide fun G0 hG0 => ?_
  obtain ⟨u1, u2, u3, n1, hdU⟩ := R1.hd
  obtain ⟨nL, hL⟩ := R1.hl
  obtain ⟨us1, nA1, hA, hI1⟩ := R1.ha
  refine hG0 ?_
  try clear hG0 G0
  have hzl : (a.lots.map Value.ref).length ≤ 100000 := by rw [List.length_map, Z.l1]; lia
  repeat' (walk_at "mine")
  have hD := R1.new ltW
  refine rl_append FW NW (List.mem_cons_of_mem _ hL) hzl fun h4 n4 F4 N4 => ?_
  have e1 : a.lots.map Value.ref ++ [.ref DW] = (a.lots ++ [DW]).map Value.ref := by simp
  have e2 : ((a.lots.map Value.ref).length : Int) = (st.par.length : Int) := by rw [List.length_map, Z.l1]
  rw [e1, e2] at N4
  have R2 := (R1.mono (news' := (DW, lo [.int (st.par.length : Int) tkW] 0) :: _) fun q hq => List.mem_cons_of_mem _ hq).addLot (n' := n4) List.mem_cons_self hD (intsAre_one st.par.length tkW) (Z.l1.trans Z.l2.symm)
  clear hU hdU hA hL F2 N2 FW NW
  have hU := R2.hU
  refine hide fun G0 hG0 => ?_
  obtain ⟨v1, v2, v3, n5, hdU⟩ := R2.hd
  obtain ⟨us2, nA2, hA, hI2⟩ := R2.ha
  refine hG0 ?_
  try clear hG0 G0
  have hz2 : (st.par ++ [st.par.length]).length ≤ 1000 := by rw [List.length_append]; simp; lia
  repeat' (walk_at "mine")
  have e3 : ((st.par ++ [st.par.length]).length : Int) - 1 = (st.par.length : Int) := by rw [List.length_append]; simp
  rw [e3]
  refine lv_ret (by assumption) (by assumption) fun F9 N9 => h _ _ DW _ ⟨rfl, rfl⟩ F9 N9 R2 ⟨by simp [Z.l1], by simp [Z.l2], by simp; lia⟩ ?_
  refine Ch.trans (Ch.upd (by simp [UA.own])) ⟨fun q hq hn => upd_ne (List.mem_cons_of_mem _ hq) fun e => hn (by rw [e]; simp [UA.own]), fun x hx => ?_⟩
  rcases List.mem_append.mp hx with hx | hx
  · exact .inl hx
  · rw [List.mem_singleton.mp hx]; exact .inr fun q hq => Nat.ne_of_lt (ltW q hq)
end
section
variable {w : World} {A : Around} {g : PySem.Heap} {L : Addr} {m mg mb : PySem.Str → Option Value} {s : Shared} {news : List (Addr × Obj)} {p : Program} {loose : List PySem.Str} {a : UA} {st : USt} {rt : Nat → Nat} {E : Value → Shared → Prop} {D : Addr} {n : Nat}

theorem rl_sorted2 {x y : Nat} {t1 t2 : Tok} {Q : Value → Shared → Prop} (F : Fr g L s.heap m) (N : News g L s.heap news) (hm : (D, lo [.int (x : Int) t1, .int (y : Int) t2] n) ∈ news)
    (h : ∀ D' h' e u1 u2, Fr g L h' m → News g L h' ((D', lo [.int ((min x y : Nat) : Int) u1, .int ((max x y : Nat) : Int) u2] e) :: news) → (∀ p ∈ news, p.1 < D') → Q (.ref D') { s with heap := h' }) :
    wpAny (model P w) A (call (.builtin "sorted") [.ref D]) Q E s := by
  refine sorted_N (ns := [(x : Int), (y : Int)]) F N (rl_list N hm) (.cons _ _ (.cons _ _ .nil)) (by simp) fun h' vs' ns' e F' N' hi hp hs => ?_
  have hl : ns'.length = 2 := by rw [hp.length_eq]; rfl
  have hlt : ∀ p ∈ news, @LT.lt Nat _ p.1 (s.heap.objs.size + 1) := fun p hp => Nat.lt_succ_of_lt (Heap.lt_size (N p hp).1)
  refine hide fun G0 hG0 => ?_
  obtain ⟨k1, k2, rfl⟩ : ∃ k1 k2, ns' = [k1, k2] := by
    match ns', hl with
    | [k1, k2], _ => exact ⟨k1, k2, rfl⟩
  refine hG0 ?_
  try clear hG0 G0
  cases hi with
  | cons _ u1 hi => cases hi with
    | cons _ u2 hi =>
      cases hi
      have hle : k1 ≤ k2 := by simpa using hs
      have h1 : k1 ∈ [(x : Int), (y : Int)] := hp.mem_iff.mp (by simp)
      have h2 : k2 ∈ [(x : Int), (y : Int)] := hp.mem_iff.mp (by simp)
      have h3 : (x : Int) ∈ [k1, k2] := hp.mem_iff.mpr (by simp)
      have h4 : (y : Int) ∈ [k1, k2] := hp.mem_iff.mpr (by simp)
      simp only [List.mem_cons, List.not_mem_nil, or_false] at h1 h2 h3 h4
      have e1 : k1 = ((min x y : Nat) : Int) := by lia
      have e2 : k2 = ((max x y : Nat) : Int) := by lia
      subst e1
      subst e2
      exact h _ h' e u1 u2 F' N' hlt
end
section
variable {w : World} {A : Around} {g : PySem.Heap} {L : Addr} {m mg mb : PySem.Str → Option Value} {s : Shared} {news : List (Addr × Obj)} {p : Program} {loose : List PySem.Str} {a : UA} {st : USt} {rt : Nat → Nat} {E : Value → Shared → Prop} {D : Addr} {n : Nat}
set_option maxHeartbeats 8000000 in
theorem merge_ok {x y : Nat} {tx ty : Tok} {Q : Value → Shared → Prop}
   (F : Fr g L s.heap m) (N : News g L s.heap news) (X : (hd.heap_39 w.params).In g) (T : TopRead p loose mg mb g) (hr : RoomOk A 3)
   (R : RepU w news a st) (Z : LenU a st) (hp : OkU st.par rt) (hx : x < st.par.length) (hy : y < st.par.length) (hnm : st.nm ≤ 1000) (hlots : ∀ l ∈ st.lots, l.length ≤ 1000)
   (h1 : rt x = rt y → ∀ s', Sm s s' → Fr g L s'.heap m → News g L s'.heap news → Q .none s')
   (h2 : rt x ≠ rt y → ∀ s' D t t' l1 l2 news', Sm s s' → Fr g L s'.heap m → News g L s'.heap news' → st.lots[min (rt x) (rt y)]? = some l1 → st.lots[max (rt x) (rt y)]? = some l2 →
      RepU w news' a { st with par := st.par.set (max (rt x) (rt y)) (min (rt x) (rt y)), lots := st.lots.set (min (rt x) (rt y)) (l1 ++ l2), nm := st.nm + 1 } → Ch a.own a.own news news' →
      (D, tu [.int ((min (rt x) (rt y) : Nat) : Int) t, .int ((max (rt x) (rt y) : Nat) : Int) t'] 0) ∈ news' → D ∉ a.own → Q (.ref D) s') :
   wpAny (model P w) A (call (.ref 305) [.ref a.U, .int x tx, .int y ty]) Q E s := by
  refine bd [("self", .ref a.U), ("a", .int x tx), ("b", .int y ty)] ?_
  (refine' callP ?zF ?zN ?zX ?zT ?zR ?k6 ?k7 ?k9 ?kB ?_ ?c5 ?c2 ?c3 ?c4; (case zF | zN | zX | zR => assumption); (case zT => apply TopRead.nolimit; assumption); (case k6 | k7 => k_is); (case k9 | kB | c2 | c3 | c4 => exact rfl); (case c5 => decide); intros)
  rename_i g' L' h' stay X' hr' F' N'
  have T' := T.keeps stay
  have hU := R.hU
  obtain ⟨t1, t2, t3, n', hdU⟩ := R.hd
  clear X T F N
  repeat' (walk_at "mine")
  refine find_ok (by assumption) (by assumption) X' T' (hr'.less (by decide)) R Z hp hx fun ta s1 sm1 F1 N1 => ?_
  clear N' F'
  repeat' (walk_at "mine")
  refine find_ok (by assumption) (by assumption) X' T' (hr'.less (by decide)) R Z hp hy fun tb s2 sm2 F2 N2 => ?_
  clear N1 F1
  repeat' (walk_at "mine")
  · have heq : ((min (rt x) (rt y) : Nat) : Int) = ((max (rt x) (rt y) : Nat) : Int) := by assumption
    have e : rt x = rt y := by lia
    exact lv_ret (by assumption) (by assumption) fun F9 N9 => h1 e _ ⟨sm2.1.trans sm1.1, sm2.2.trans sm1.2⟩ F9 (nsub N9 fun q hq => List.mem_cons_of_mem _ (List.mem_cons_of_mem _ hq))
  have heq : ((min (rt x) (rt y) : Nat) : Int) ≠ ((max (rt x) (rt y) : Nat) : Int) := by assumption
  have hne : rt x ≠ rt y := by lia
  have h2 := h2 hne
  have hk : min (rt x) (rt y) < st.par.length := by have := (hp.rr x hx).1; lia
  have hg : max (rt x) (rt y) < st.par.length := by have := (hp.rr x hx).1; have := (hp.rr y hy).1; lia
  have hkg : min (rt x) (rt y) ≠ max (rt x) (rt y) := by lia
  generalize hkk : min (rt x) (rt y) = kept at *
  generalize hgg : max (rt x) (rt y) = gone at *
  obtain ⟨us, nA, hA, hI⟩ := R.ha
  have hsm := Z.sm
  refine rl_setItem (news := news) (by assumption) (nsub (by assumption : News g' L' _ (_ :: _ :: news)) fun q hq => List.mem_cons_of_mem _ (List.mem_cons_of_mem _ hq)) hA hI hg (by lia) fun h8 F8 N8 hI8 => ?_
  dsimp only
  have R1 := R.updA (n' := nA) hI8
  clear hU hdU hA
  have hU := R1.hU
  refine hide fun G0 hG0 => ?_
  obtain ⟨v1, v2, v3, n5, hdU⟩ := R1.hd
  obtain ⟨nL, hL⟩ := R1.hl
  have hb1 : a.lots[kept]? = some (a.lots[kept]'(by rw [Z.l1]; exact hk)) := List.getElem?_eq_getElem _
  have hb2 : a.lots[gone]? = some (a.lots[gone]'(by rw [Z.l1]; exact hg)) := List.getElem?_eq_getElem _
  obtain ⟨l1, us1, m1, hl1, hB1, hI1⟩ := R1.hls _ _ hb1
  obtain ⟨l2, us2, m2, hl2, hB2, hI2⟩ := R1.hls _ _ hb2
  refine hG0 ?_
  try clear hG0 G0
  generalize a.lots[kept]'(by rw [Z.l1]; exact hk) = b1 at *
  generalize a.lots[gone]'(by rw [Z.l1]; exact hg) = b2 at *
  have hq1 : (a.lots.map Value.ref)[kept]? = some (.ref b1) := by rw [List.getElem?_map, hb1]; rfl
  have hq2 : (a.lots.map Value.ref)[gone]? = some (.ref b2) := by rw [List.getElem?_map, hb2]; rfl
  have hzl : (a.lots.map Value.ref).length ≤ 100000 := by rw [List.length_map, Z.l1]; lia
  repeat' (walk_at "mine")
  dsimp only at hl1 hl2
  have hll1 := hlots l1 (List.mem_of_getElem? hl1)
  have hll2 := hlots l2 (List.mem_of_getElem? hl2)
  refine rl_extend (by assumption) (by assumption) hB1 hB2 (by rw [IntsAre.len hI1, IntsAre.len hI2]; lia) fun h9 n9 F9 N9 => ?_
  dsimp only
  have R2 := R1.updLot (n' := n9) hb1 (intsAre_append hI1 hI2)
  dsimp only at R2
  clear hU hdU hL hB1 hB2 N8
  have hU := R2.hU
  refine hide fun G0 hG0 => ?_
  obtain ⟨w1, w2, w3, n10, hdU⟩ := R2.hd
  obtain ⟨vs, nG, hG, hvs⟩ := R2.hg
  refine hG0 ?_
  try clear hG0 G0
  dsimp only at hvs
  have hzg : vs.length ≤ 100000 := by lia
  repeat' (walk_at "mine")
  refine rl_append (by assumption) (by assumption) (List.mem_cons_of_mem _ hG) hzg fun h11 n11 F11 N11 => ?_
  dsimp only
  have hDW := R2.new ltW
  have R3 := (R2.mono (fun q hq => List.mem_cons_of_mem (DW, tu [.int (kept : Int) uW1, .int (gone : Int) uW2] 0) hq)).updG (n' := n11) (vs' := vs ++ [.ref DW]) (k := st.nm + 1) (by simp [hvs])
  have hU := R3.hU
  clear hU hdU hG
  repeat' (walk_at "mine")
  have hb1o : b1 ∈ a.own := by
    have := mem_of_get hb1
    simp [UA.own, this]
  refine lv_ret FW NW fun F9 N9 => h2 _ DW _ _ l1 l2 _ ⟨sm2.1.trans sm1.1, sm2.2.trans sm1.2⟩ F9 N9 hl1 hl2 (R3.mono fun q hq => List.mem_cons_of_mem _ hq) ?_ List.mem_cons_self fun hD => R3.new ltW (by simp [hD])
  exact Ch.trans (Ch.upd (by simp [UA.own])) (Ch.trans (Ch.upd hb1o) (Ch.trans (Ch.more fun q hq => List.mem_cons_of_mem _ hq) (Ch.trans (Ch.upd (by simp [UA.own])) (Ch.more fun q hq => List.mem_cons_of_mem _ hq))))
end
section
variable {w : World} {A : Around} {g : PySem.Heap} {L : Addr} {m mg mb : PySem.Str → Option Value} {s : Shared} {news : List (Addr × Obj)} {p : Program} {loose : List PySem.Str} {a : UA} {st : USt} {rt : Nat → Nat} {E : Value → Shared → Prop} {D : Addr} {n : Nat}
theorem rl_sortedI {us : List Value} {ns : List Nat} {Q : Value → Shared → Prop} (F : Fr g L s.heap m) (N : News g L s.heap news) (hm : (D, lo us n) ∈ news) (hi : IntsAre us (zs ns)) (hz : ns.length ≤ 60)
    (h : ∀ D' h' e vs ks, Fr g L h' m → News g L h' ((D', lo vs e) :: news) → (∀ p ∈ news, p.1 < D') → IntsAre vs (zs ks) → ks.Perm ns → Q (.ref D') { s with heap := h' }) :
    wpAny (model P w) A (call (.builtin "sorted") [.ref D]) Q E s := by
  refine sorted_N F N (rl_list N hm) hi (by rw [IntsAre.len hi]; lia) fun h' vs' ns' e F' N' hi hp hs => ?_
  obtain ⟨ks, rfl, hk⟩ := zs_of (ks := ns') (ns := ns) fun k hk => hp.mem_iff.mp hk
  refine h _ h' e vs' ks F' N' (fun p hp => Nat.lt_succ_of_lt (Heap.lt_size (N p hp).1)) hi ?_
  have := hp.map Int.toNat
  have e : (Int.toNat ∘ fun (n : Nat) => (n : Int)) = id := by funext n; simp
  simpa [zs, List.map_map, e] using this
set_option maxHeartbeats 8000000 in
theorem umembers_ok {x : Nat} {tx : Tok} {Q : Value → Shared → Prop}
   (F : Fr g L s.heap m) (N : News g L s.heap news) (X : (hd.heap_39 w.params).In g) (T : TopRead p loose mg mb g) (hr : RoomOk A 3)
   (R : RepU w news a st) (Z : LenU a st) (hp : OkU st.par rt) (hx : x < st.par.length) (hlots : ∀ l ∈ st.lots, l.length ≤ 60)
   (h : ∀ s' D e vs ks l, Sm s s' → Fr g L s'.heap m → News g L s'.heap ((D, lo vs e) :: news) → (∀ p ∈ news, p.1 < D) → st.lots[rt x]? = some l → IntsAre vs (zs ks) → ks.Perm l → Q (.ref D) s') :
   wpAny (model P w) A (call (.ref 312) [.ref a.U, .int x tx]) Q E s := by
  refine bd [("self", .ref a.U), ("a", .int x tx)] ?_
  (refine' callP ?zF ?zN ?zX ?zT ?zR ?k6 ?k7 ?k9 ?kB ?_ ?c5 ?c2 ?c3 ?c4; (case zF | zN | zX | zR => assumption); (case zT => apply TopRead.nolimit; assumption); (case k6 | k7 => k_is); (case k9 | kB | c2 | c3 | c4 => exact rfl); (case c5 => decide); intros)
  rename_i g' L' h' stay X' hr' F' N'
  have T' := T.keeps stay
  have hU := R.hU
  obtain ⟨t1, t2, t3, n', hdU⟩ := R.hd
  clear X T F N
  repeat' (first | (guard_target = wpAny _ _ (compareOp CmpOp.NotEq (Value.ref _) (Value.ref _)) _ _ _; refine' rl_neB ?zr ?zN ?zm ?zl ?zi ?zj ?zk ?_; (case zr => with_reducible assumption); walk_at "aNm"; (case zl => k_mem); (case zi | zj => first | with_reducible assumption | exact nilN); (case zk => first | (show _ = true; simp; done) | (show _ = false; simp; done) | exact rfl)) | (guard_target = wpAny _ _ (compareOp CmpOp.Eq (Value.ref _) (Value.ref _)) _ _ _; refine' rl_eqB ?zr ?zN ?zm ?zl ?zi ?zj ?zk ?_; (case zr => with_reducible assumption); walk_at "aNm"; (case zl => k_mem); (case zi | zj => first | with_reducible assumption | exact nilN); (case zk => first | with_reducible assumption | exact rfl)) | walk_at "mine")
  refine find_ok (by assumption) (by assumption) X' T' (hr'.less (by decide)) R Z hp hx fun ta s1 sm1 F1 N1 => ?_
  clear N' F'
  have hrt := (hp.rr x hx).1
  obtain ⟨nL, hL⟩ := R.hl
  have hb1 : a.lots[rt x]? = some (a.lots[rt x]'(by rw [Z.l1]; exact hrt)) := List.getElem?_eq_getElem _
  obtain ⟨l1, us1, m1, hl1, hB1, hI1⟩ := R.hls _ _ hb1
  generalize a.lots[rt x]'(by rw [Z.l1]; exact hrt) = b1 at *
  have hq1 : (a.lots.map Value.ref)[rt x]? = some (.ref b1) := by rw [List.getElem?_map, hb1]; rfl
  have hzl : (a.lots.map Value.ref).length ≤ 100000 := by rw [List.length_map, Z.l1]; have := Z.sm; lia
  have hll1 := hlots l1 (List.mem_of_getElem? hl1)
  repeat' (first | (guard_target = wpAny _ _ (compareOp CmpOp.NotEq (Value.ref _) (Value.ref _)) _ _ _; refine' rl_neB ?zr ?zN ?zm ?zl ?zi ?zj ?zk ?_; (case zr => with_reducible assumption); walk_at "aNm"; (case zl => k_mem); (case zi | zj => first | with_reducible assumption | exact nilN); (case zk => first | (show _ = true; simp; done) | (show _ = false; simp; done) | exact rfl)) | (guard_target = wpAny _ _ (compareOp CmpOp.Eq (Value.ref _) (Value.ref _)) _ _ _; refine' rl_eqB ?zr ?zN ?zm ?zl ?zi ?zj ?zk ?_; (case zr => with_reducible assumption); walk_at "aNm"; (case zl => k_mem); (case zi | zj => first | with_reducible assumption | exact nilN); (case zk => first | with_reducible assumption | exact rfl)) | walk_at "mine")
  exact rl_sortedI (by assumption) (by assumption) hB1 hI1 hll1 fun D' h9 e9 vs ks F9 N9 lt9 hi9 hp9 => lv_ret F9 N9 fun F10 N10 => h _ D' e9 vs ks l1 ⟨sm1.1, sm1.2⟩ F10 N10 lt9 hl1 hi9 hp9
end
structure BA where
  (B dB nL nD wL pL : Addr)
/-- what may change -/
noncomputable def BA.own (b : BA) : List Addr := [b.nL, b.nD, b.wL, b.pL]
/-- the entry of a dict with tuples for keys -/
noncomputable def KEnt (w : World) (news : List (Addr × Obj)) (e : DictEntry) (k : PySem.Str × List Nat) (v : Value) : Prop :=
  TupV news e.key k ∧ e.hash = tupleKeyHash (atomKind P w) (tkey k) ∧ e.val = v
inductive HdB (w : World) (news : List (Addr × Obj)) (d x y z v : Addr) : Prop
  | mk (t1 t2 t3 t4 : Tok) (n : Nat) (h : (d, dictOf [ent w.params "nodes" t1 (.ref x), ent w.params "numbers" t2 (.ref y), ent w.params "weights" t3 (.ref z), ent w.params "depths" t4 (.ref v)] n) ∈ news) : HdB w news d x y z v
inductive NdL (news : List (Addr × Obj)) (x : Addr) (nodes : List (PySem.Str × List Nat)) : Prop
  | mk (us : List Value) (n : Nat) (h : (x, lo us n) ∈ news) (e : us.length = nodes.length) (q : ∀ (i : Nat) v k, us[i]? = some v → nodes[i]? = some k → TupV news v k) : NdL news x nodes
structure RepB (w : World) (news : List (Addr × Obj)) (b : BA) (nodes : List (PySem.Str × List Nat)) : Prop where
  hB : (b.B, instObj 259 b.dB) ∈ news
  hd : HdB w news b.dB b.nL b.nD b.wL b.pL
  hn : NdL news b.nL nodes
theorem RepB.mono {w : World} {news news' : List (Addr × Obj)} {b : BA} {nodes : List (PySem.Str × List Nat)} (R : RepB w news b nodes) (hs : ∀ p ∈ news, p ∈ news') : RepB w news' b nodes where
  hB := hs _ R.hB
  hd := let ⟨t1, t2, t3, t4, n, h⟩ := R.hd; ⟨t1, t2, t3, t4, n, hs _ h⟩
  hn := let ⟨us, n, h1, h2, h3⟩ := R.hn; ⟨us, n, hs _ h1, h2, fun i v k a b => (h3 i v k a b).mono hs⟩
section
variable {w : World} {A : Around} {g : PySem.Heap} {L : Addr} {m mg mb : PySem.Str → Option Value} {s : Shared} {news : List (Addr × Obj)} {p : Program} {loose : List PySem.Str} {b : BA} {nodes : List (PySem.Str × List Nat)} {E : Value → Shared → Prop}
set_option maxHeartbeats 8000000 in
theorem bop_ok {i : Nat} {ti : Tok} {k : PySem.Str × List Nat} {Q : Value → Shared → Prop}
   (F : Fr g L s.heap m) (N : News g L s.heap news) (X : (hd.heap_39 w.params).In g) (T : TopRead p loose mg mb g) (hr : RoomOk A 1)
   (R : RepB w news b nodes) (hi : nodes[i]? = some k) (hz : nodes.length ≤ 16) (hkz : k.2.length ≤ 16)
   (h : ∀ t s', Sm s s' → Fr g L s'.heap m → News g L s'.heap news → Q (.str k.1 t) s') :
   wpAny (model P w) A (call (.ref 216) [.ref b.B, .int i ti]) Q E s := by
  refine bd [("self", .ref b.B), ("n", .int i ti)] ?_
  (refine' callP ?zF ?zN ?zX ?zT ?zR ?k6 ?k7 ?k9 ?kB ?_ ?c5 ?c2 ?c3 ?c4; (case zF | zN | zX | zR => assumption); (case zT => apply TopRead.nolimit; assumption); (case k6 | k7 => k_is); (case k9 | kB | c2 | c3 | c4 => exact rfl); (case c5 => decide); intros)
  rename_i g' L' h' stay X' hr' F' N'
  have T' := T.keeps stay
  have hB := R.hB
  refine hide fun G0 hG0 => ?_
  obtain ⟨t1, t2, t3, t4, n', hdB⟩ := R.hd
  obtain ⟨us, n, hN, hlen, hT⟩ := R.hn
  have hi' := (List.getElem?_eq_some_iff.mp hi).1
  have hv : us[i]? = some us[i] := List.getElem?_eq_getElem (by lia)
  obtain ⟨tb, tt, tus, tn, e, htm, hti⟩ := hT i _ k hv hi
  refine hG0 ?_
  try clear hG0 G0
  rw [e] at hv
  have hz' : us.length ≤ 100000 := by lia
  have hl := IntsAre.len hti
  have hzt : tus.length ≤ 100000 := by lia
  clear X T F N
  repeat' (walk_at "mine")
  exact lv_ret (by assumption) (by assumption) fun F9 N9 => h _ _ ⟨rfl, rfl⟩ F9 N9
set_option maxHeartbeats 8000000 in
theorem bkids_ok {i : Nat} {ti : Tok} {k : PySem.Str × List Nat} {Q : Value → Shared → Prop}
   (F : Fr g L s.heap m) (N : News g L s.heap news) (X : (hd.heap_39 w.params).In g) (T : TopRead p loose mg mb g) (hr : RoomOk A 1)
   (R : RepB w news b nodes) (hi : nodes[i]? = some k) (hz : nodes.length ≤ 16) (hkz : k.2.length ≤ 16)
   (h : ∀ D us n s' news', Sm s s' → Fr g L s'.heap m → News g L s'.heap news' → (∀ p ∈ news, p ∈ news') → (D, tu us n) ∈ news' → IntsAre us (zs k.2) → Q (.ref D) s') :
   wpAny (model P w) A (call (.ref 223) [.ref b.B, .int i ti]) Q E s := by
  refine bd [("self", .ref b.B), ("n", .int i ti)] ?_
  (refine' callP ?zF ?zN ?zX ?zT ?zR ?k6 ?k7 ?k9 ?kB ?_ ?c5 ?c2 ?c3 ?c4; (case zF | zN | zX | zR => assumption); (case zT => apply TopRead.nolimit; assumption); (case k6 | k7 => k_is); (case k9 | kB | c2 | c3 | c4 => exact rfl); (case c5 => decide); intros)
  rename_i g' L' h' stay X' hr' F' N'
  have T' := T.keeps stay
  have hB := R.hB
  refine hide fun G0 hG0 => ?_
  obtain ⟨t1, t2, t3, t4, n', hdB⟩ := R.hd
  obtain ⟨us, n, hN, hlen, hT⟩ := R.hn
  have hi' := (List.getElem?_eq_some_iff.mp hi).1
  have hv : us[i]? = some us[i] := List.getElem?_eq_getElem (by lia)
  obtain ⟨tb, tt, tus, tn, e, htm, hti⟩ := hT i _ k hv hi
  refine hG0 ?_
  try clear hG0 G0
  rw [e] at hv
  have hz' : us.length ≤ 100000 := by lia
  have hl := IntsAre.len hti
  have hzt : tus.length ≤ 100000 := by lia
  clear X T F N
  repeat' (walk_at "mine")
  exact lv_ret FW NW fun F9 N9 => h DW _ 0 _ _ ⟨rfl, rfl⟩ F9 N9 (fun q hq => List.mem_cons_of_mem _ hq) List.mem_cons_self hti
set_option maxHeartbeats 8000000 in
theorem bnode_ok {i : Nat} {ti : Tok} {k : PySem.Str × List Nat} {Q : Value → Shared → Prop}
   (F : Fr g L s.heap m) (N : News g L s.heap news) (X : (hd.heap_39 w.params).In g) (T : TopRead p loose mg mb g) (hr : RoomOk A 1)
   (R : RepB w news b nodes) (hi : nodes[i]? = some k) (hz : nodes.length ≤ 16)
   (h : ∀ v s', Sm s s' → Fr g L s'.heap m → News g L s'.heap news → TupV news v k → Q v s') :
   wpAny (model P w) A (call (.ref 230) [.ref b.B, .int i ti]) Q E s := by
  refine bd [("self", .ref b.B), ("n", .int i ti)] ?_
  (refine' callP ?zF ?zN ?zX ?zT ?zR ?k6 ?k7 ?k9 ?kB ?_ ?c5 ?c2 ?c3 ?c4; (case zF | zN | zX | zR => assumption); (case zT => apply TopRead.nolimit; assumption); (case k6 | k7 => k_is); (case k9 | kB | c2 | c3 | c4 => exact rfl); (case c5 => decide); intros)
  rename_i g' L' h' stay X' hr' F' N'
  have T' := T.keeps stay
  have hB := R.hB
  obtain ⟨t1, t2, t3, t4, n', hdB⟩ := R.hd
  obtain ⟨us, n, hN, hlen, hT⟩ := R.hn
  have hi' := (List.getElem?_eq_some_iff.mp hi).1
  have hv : us[i]? = some us[i] := List.getElem?_eq_getElem (by lia)
  have hTv := hT i _ k hv hi
  have hz' : us.length ≤ 100000 := by lia
  clear X T F N
  repeat' (walk_at "mine")
  exact lv_ret (by assumption) (by assumption) fun F9 N9 => h _ _ ⟨rfl, rfl⟩ F9 N9 hTv
set_option maxHeartbeats 8000000 in
theorem bsize_ok {Q : Value → Shared → Prop}
   (F : Fr g L s.heap m) (N : News g L s.heap news) (X : (hd.heap_39 w.params).In g) (T : TopRead p loose mg mb g) (hr : RoomOk A 1)
   (R : RepB w news b nodes) (hz : nodes.length ≤ 16)
   (h : ∀ t s', Sm s s' → Fr g L s'.heap m → News g L s'.heap news → Q (.int (nodes.length : Int) t) s') :
   wpAny (model P w) A (call (.ref 178) [.ref b.B]) Q E s := by
  refine bd [("self", .ref b.B)] ?_
  (refine' callP ?zF ?zN ?zX ?zT ?zR ?k6 ?k7 ?k9 ?kB ?_ ?c5 ?c2 ?c3 ?c4; (case zF | zN | zX | zR => assumption); (case zT => apply TopRead.nolimit; assumption); (case k6 | k7 => k_is); (case k9 | kB | c2 | c3 | c4 => exact rfl); (case c5 => decide); intros)
  rename_i g' L' h' stay X' hr' F' N'
  have T' := T.keeps stay
  have hB := R.hB
  obtain ⟨t1, t2, t3, t4, n', hdB⟩ := R.hd
  obtain ⟨us, n, hN, hlen, hT⟩ := R.hn
  have hz' : us.length ≤ 100000 := by lia
  clear X T F N
  repeat' (walk_at "mine")
  rw [hlen]
  exact lv_ret (by assumption) (by assumption) fun F9 N9 => h _ _ ⟨rfl, rfl⟩ F9 N9
end
section
variable {M : Model} {A : Around} {E : Value → Shared → Prop} {s : Shared} {g : PySem.Heap} {C : Addr} {mC mg mb : PySem.Str → Option Value} {scope : Scope} {cl : List (PySem.Str × Addr)} {env : Env} {p : Program} {loose : List PySem.Str} {x : PySem.Str} {pos : Pos} {v : Value} {Q : Value → Shared → Prop} {K : Frag}
theorem cn_local (F : Fr g C s.heap mC) (hm : mC x = some v) (h : Q v s) (hk : (compEnvC scope cl C env).scope.kind = .function := by rfl) (hx : (compEnvC scope cl C env).kindOf x = some .local := by rfl) (hb : (x == ("__debug__" : PySem.Str)) = false := by decide) :
    wpAny M A (eval (.Name x pos) (compEnvC scope cl C env)) Q E s := wpAny_Name (wpAny_loadName_local hk hx F.ns hm h) hb
end

theorem take_map_succ {α β : Type} (f : α → β) (l : List α) {j : Nat} (h : j < l.length) : (l.take (j + 1)).map f = (l.take j).map f ++ [f l[j]] := by
  rw [List.take_add_one, List.getElem?_eq_getElem h, List.map_append]; rfl
structure HA where
  (H dH eL fL kD vD qL : Addr)
  b : BA
  u : UA
/-- what reading needs of a heap -/
inductive HdC (w : World) (news : List (Addr × Obj)) (d b u e f k v q : Addr) : Prop
  | mk (t1 t2 t3 t4 t5 t6 t7 t8 t9 : Tok) (n : Nat) (h : (d, dictOf [ent w.params "bank" t1 (.ref b), ent w.params "unions" t2 (.ref u), ent w.params "edges" t3 (.ref e), ent w.params "forest" t4 (.ref f), ent w.params "known" t5 (.ref k),
    ent w.params "above" t6 (.ref v), ent w.params "waiting" t7 (.ref q), ent w.params "backs" t8 (.int 0 t9)] n) ∈ news) : HdC w news d b u e f k v q
structure RepC (w : World) (news : List (Addr × Obj)) (a : HA) (nodes : List (PySem.Str × List Nat)) (st : USt) : Prop where
  hH : (a.H, instObj 471 a.dH) ∈ news
  hd : HdC w news a.dH a.b.B a.u.U a.eL a.fL a.kD a.vD a.qL
  rb : RepB w news a.b nodes
  ru : RepU w news a.u st
theorem RepC.mono {w : World} {news news' : List (Addr × Obj)} {a : HA} {nodes : List (PySem.Str × List Nat)} {st : USt} (R : RepC w news a nodes st) (hs : ∀ p ∈ news, p ∈ news') : RepC w news' a nodes st where
  hH := hs _ R.hH
  hd := let ⟨t1, t2, t3, t4, t5, t6, t7, t8, t9, n, h⟩ := R.hd; ⟨t1, t2, t3, t4, t5, t6, t7, t8, t9, n, hs _ h⟩
  rb := R.rb.mono hs
  ru := R.ru.mono hs
/-- what is so of a heap when it is read -/
structure OkC (a : HA) (nodes : List (PySem.Str × List Nat)) (st : USt) (rt : Nat → Nat) : Prop where
  len : LenU a.u st
  ok : OkU st.par rt
  nn : nodes.length = st.par.length
  kids : ∀ k ∈ nodes, k.2.length ≤ 2 ∧ ∀ x ∈ k.2, x < nodes.length
section
variable {w : World} {A : Around} {g : PySem.Heap} {L : Addr} {m mg mb : PySem.Str → Option Value} {s : Shared} {news : List (Addr × Obj)} {p : Program} {loose : List PySem.Str} {a : HA} {nodes : List (PySem.Str × List Nat)} {st : USt} {rt : Nat → Nat} {E : Value → Shared → Prop}
set_option maxHeartbeats 8000000 in
theorem hfind_ok {i : Nat} {ti : Tok} {Q : Value → Shared → Prop}
   (F : Fr g L s.heap m) (N : News g L s.heap news) (X : (hd.heap_39 w.params).In g) (T : TopRead p loose mg mb g) (hr : RoomOk A 2)
   (R : RepC w news a nodes st) (O : OkC a nodes st rt) (hi : i < nodes.length)
   (h : ∀ t s', Sm s s' → Fr g L s'.heap m → News g L s'.heap news → Q (.int (rt i : Int) t) s') :
   wpAny (model P w) A (call (.ref 395) [.ref a.H, .int i ti]) Q E s := by
  refine bd [("self", .ref a.H), ("n", .int i ti)] ?_
  (refine' callP ?zF ?zN ?zX ?zT ?zR ?k6 ?k7 ?k9 ?kB ?_ ?c5 ?c2 ?c3 ?c4; (case zF | zN | zX | zR => assumption); (case zT => apply TopRead.nolimit; assumption); (case k6 | k7 => k_is); (case k9 | kB | c2 | c3 | c4 => exact rfl); (case c5 => decide); intros)
  rename_i g' L' h' stay X' hr' F' N'
  have T' := T.keeps stay
  have hH := R.hH
  refine hide fun G0 hG0 => ?_
  obtain ⟨t1, t2, t3, t4, t5, t6, t7, t8, t9, n', hdH⟩ := R.hd
  have hU := R.ru.hU
  obtain ⟨u1, u2, u3, un, hdU⟩ := R.ru.hd
  refine hG0 ?_
  try clear hG0 G0
  clear X T F N
  repeat' (walk_at "mine")
  exact find_ok (by assumption) (by assumption) X' T' hr' R.ru O.len O.ok (by rw [← O.nn]; exact hi) fun t s1 sm F1 N1 => lv_ret F1 N1 fun F9 N9 => h _ _ ⟨sm.1, sm.2⟩ F9 N9
set_option maxHeartbeats 8000000 in
theorem hsize_ok {Q : Value → Shared → Prop}
   (F : Fr g L s.heap m) (N : News g L s.heap news) (X : (hd.heap_39 w.params).In g) (T : TopRead p loose mg mb g) (hr : RoomOk A 2)
   (R : RepC w news a nodes st) (hz : nodes.length ≤ 16)
   (h : ∀ t s', Sm s s' → Fr g L s'.heap m → News g L s'.heap news → Q (.int (nodes.length : Int) t) s') :
   wpAny (model P w) A (call (.ref 366) [.ref a.H]) Q E s := by
  refine bd [("self", .ref a.H)] ?_
  (refine' callP ?zF ?zN ?zX ?zT ?zR ?k6 ?k7 ?k9 ?kB ?_ ?c5 ?c2 ?c3 ?c4; (case zF | zN | zX | zR => assumption); (case zT => apply TopRead.nolimit; assumption); (case k6 | k7 => k_is); (case k9 | kB | c2 | c3 | c4 => exact rfl); (case c5 => decide); intros)
  rename_i g' L' h' stay X' hr' F' N'
  have T' := T.keeps stay
  have hH := R.hH
  refine hide fun G0 hG0 => ?_
  obtain ⟨t1, t2, t3, t4, t5, t6, t7, t8, t9, n', hdH⟩ := R.hd
  have hB := R.rb.hB
  obtain ⟨b1, b2, b3, b4, bn, hdB⟩ := R.rb.hd
  refine hG0 ?_
  try clear hG0 G0
  clear X T F N
  repeat' (walk_at "mine")
  exact bsize_ok (by assumption) (by assumption) X' T' hr' R.rb hz fun t s1 sm F1 N1 => lv_ret F1 N1 fun F9 N9 => h _ _ ⟨sm.1, sm.2⟩ F9 N9
set_option maxHeartbeats 8000000 in
theorem hmembers_ok {x : Nat} {tx : Tok} {Q : Value → Shared → Prop}
   (F : Fr g L s.heap m) (N : News g L s.heap news) (X : (hd.heap_39 w.params).In g) (T : TopRead p loose mg mb g) (hr : RoomOk A 4)
   (R : RepC w news a nodes st) (O : OkC a nodes st rt) (hx : x < nodes.length) (hlots : ∀ l ∈ st.lots, l.length ≤ 60)
   (h : ∀ s' D e vs ks l, Sm s s' → Fr g L s'.heap m → News g L s'.heap ((D, lo vs e) :: news) → (∀ p ∈ news, p.1 < D) → st.lots[rt x]? = some l → IntsAre vs (zs ks) → ks.Perm l → Q (.ref D) s') :
   wpAny (model P w) A (call (.ref 444) [.ref a.H, .int x tx]) Q E s := by
  refine bd [("self", .ref a.H), ("c", .int x tx)] ?_
  (refine' callP ?zF ?zN ?zX ?zT ?zR ?k6 ?k7 ?k9 ?kB ?_ ?c5 ?c2 ?c3 ?c4; (case zF | zN | zX | zR => assumption); (case zT => apply TopRead.nolimit; assumption); (case k6 | k7 => k_is); (case k9 | kB | c2 | c3 | c4 => exact rfl); (case c5 => decide); intros)
  rename_i g' L' h' stay X' hr' F' N'
  have T' := T.keeps stay
  have hH := R.hH
  refine hide fun G0 hG0 => ?_
  obtain ⟨t1, t2, t3, t4, t5, t6, t7, t8, t9, n', hdH⟩ := R.hd
  have hU := R.ru.hU
  obtain ⟨u1, u2, u3, un, hdU⟩ := R.ru.hd
  refine hG0 ?_
  try clear hG0 G0
  clear X T F N
  repeat' (walk_at "mine")
  exact umembers_ok (by assumption) (by assumption) X' T' hr' R.ru O.len O.ok (by rw [← O.nn]; exact hx) hlots fun s1 D e vs ks l sm F1 N1 lt1 hl hi hp => lv_ret F1 N1 fun F9 N9 => h _ D e vs ks l ⟨sm.1, sm.2⟩ F9 N9 lt1 hl hi hp
set_option maxHeartbeats 8000000 in
theorem hnode_ok {i : Nat} {ti : Tok} {k : PySem.Str × List Nat} {Q : Value → Shared → Prop}
   (F : Fr g L s.heap m) (N : News g L s.heap news) (X : (hd.heap_39 w.params).In g) (T : TopRead p loose mg mb g) (hr : RoomOk A 4)
   (R : RepC w news a nodes st) (O : OkC a nodes st rt) (hi : nodes[i]? = some k)
   (h : ∀ D s' news', Sm s s' → Fr g L s'.heap m → News g L s'.heap news' → (∀ p ∈ news, p ∈ news') → TupV news' (.ref D) (k.1, k.2.map rt) → (∀ p ∈ news, p.1 ≠ D) → Q (.ref D) s') :
   wpAny (model P w) A (call (.ref 371) [.ref a.H, .int i ti]) Q E s := by
  refine bd [("self", .ref a.H), ("n", .int i ti)] ?_
  (refine' callC ?zF ?zN ?zX ?zT ?zR ?k6 ?k7 ?k9 ?kB ?c5 ?_ ?c2 ?c3 ?c4; (case zF | zN | zX | zR => assumption); (case zT => apply TopRead.nolimit; assumption); (case k6 | k7 => k_is); (case k9 | kB | c2 | c3 | c4 => exact rfl); (case c5 => decide); intros)
  rename_i g' L' h' tk' cells stay X' hr' F' N' Y ltY
  refine hide fun G0 hG0 => ?_
  obtain ⟨oS, rfl, hcS0⟩ := CellsAre.one Y
  have hcS : oS.data = .cell (some (.ref a.H)) := hcS0
  clear hcS0 Y
  have T' := T.keeps stay
  have hH := R.hH
  obtain ⟨t1, t2, t3, t4, t5, t6, t7, t8, t9, n', hdH⟩ := R.hd
  have hU := R.ru.hU
  obtain ⟨u1, u2, u3, un, hdU⟩ := R.ru.hd
  have hB := R.rb.hB
  obtain ⟨b1, b2, b3, b4, bn, hdB⟩ := R.rb.hd
  refine hG0 ?_
  try clear hG0 G0
  clear X T F N
  repeat' (walk_at "mine")
  refine bop_ok (k := k) (by assumption) (by assumption) X' T' (hr'.less (by decide)) (R.rb.mono fun q hq => List.mem_cons_of_mem _ hq) hi (by have := O.len.sm; have := O.nn; lia) (by have := (O.kids k (List.mem_of_getElem? hi)).1; lia) fun t10 s1 sm1 F1 N1 => ?_
  clear F' N'
  repeat' (walk_at "mine")
  have ltT := ltW
  generalize DW = DT at *
  refine bkids_ok (k := k) (by assumption) (by assumption) X' T' (hr'.less (by decide)) (R.rb.mono fun q hq => List.mem_cons_of_mem _ (List.mem_cons_of_mem _ hq)) hi (by have := O.len.sm; have := O.nn; lia) (by have := (O.kids k (List.mem_of_getElem? hi)).1; lia) fun D1 us1 n1 s2 news1 sm2 F2 N2 sub2 hm1 hi1 => ?_
  have hl1 := IntsAre.len hi1
  have hk2 := (O.kids k (List.mem_of_getElem? hi)).1
  refine comp_walk (srcO := [(D1, tu us1 n1)]) F2 N2 hr'.hh (by rw [List.size_toArray]; lia) (by decide) rfl rfl (Src.tuple (rl_tuple N2 hm1)) (fun q hq => by rw [List.mem_singleton.mp hq]; exact hm1)
    (fun i ys news' => IntsAre ys (zs ((k.2.take i).map rt)) ∧ ∀ q ∈ news1, q ∈ news') ⟨.nil, fun q hq => hq⟩ ?turn ?fin
  case turn =>
    rintro j v ys mC news' ext C s' hj hv sm F' hmC N' hdis hsrc hJ0 Z Z0 hZ hZ0
    refine hide fun G0 hG0 => ?_
    obtain ⟨hys, hsub⟩ := hJ0
    refine hG0 ?_
    try clear hG0 G0
    have hjl : j < k.2.length := by rw [List.size_toArray] at hj; lia
    have hv' : us1[j]? = some v := by simpa using hv
    obtain ⟨tv, e⟩ := IntsAre.get hi1 (List.getElem?_eq_getElem hjl)
    rw [hv'] at e
    cases e
    have sub3 : ∀ q ∈ news, q ∈ ext ++ news' := fun q hq => List.mem_append_right _ (hsub q (sub2 q (List.mem_cons_of_mem _ (List.mem_cons_of_mem _ hq))))
    have hcell : (L' + 1, oS) ∈ ext ++ news' := List.mem_append_right _ (hsub _ (sub2 _ (List.mem_cons_of_mem _ List.mem_cons_self)))
    have R3 := R.mono sub3
    clear hH hdH hU hdU hB hdB
    have hH := R3.hH
    obtain ⟨v1, v2, v3, v4, v5, v6, v7, v8, v9, vn, hdH⟩ := R3.hd
    refine wpAny_tests_nil (ifT ?_)
    repeat' (walk_at "mine")
    refine hfind_ok (by assumption) (by assumption) X' T' (hr'.less (by decide)) R3 O ((O.kids k (List.mem_of_getElem? hi)).2 _ (List.getElem_mem hjl)) fun t4 s4 sm4 F4 N4 => ?_
    have htake := take_map_succ rt k.2 hjl
    exact hZ _ _ ⟨⟨sm4.1.trans sm.1, sm4.2.trans sm.2⟩, mC, news', F4, N4, hdis, hsrc, by rw [htake]; exact intsAre_append hys (intsAre_one _ t4), hsub⟩
  case fin =>
    rintro D2 c2 ys news' s' sm F' N' hD2 hlt2 ⟨hys, hsub⟩
    have htake : k.2.take us1.toArray.size = k.2 := List.take_of_length_le (by rw [List.size_toArray]; lia)
    rw [htake] at hys
    have hly := IntsAre.len hys
    rw [List.length_map] at hly
    have hzy : ys.length ≤ 100000 := by lia
    have hDW : (DT, tu [.str k.1 t10] 0) ∈ (D2, listOf (List.toArray ys) c2) :: news' := List.mem_cons_of_mem _ (hsub _ (sub2 _ List.mem_cons_self))
    repeat' (walk_at "mine")
    refine lv_ret FW NW fun F9 N9 => h DW _ newsW ⟨sm.1.trans (sm2.1.trans sm1.1), sm.2.trans (sm2.2.trans sm1.2)⟩ F9 N9
      (fun q hq => subW _ (List.mem_cons_of_mem _ (List.mem_cons_of_mem _ (hsub q (sub2 q (List.mem_cons_of_mem _ (List.mem_cons_of_mem _ hq))))))) ⟨DW, t10, ys, jW, rfl, memW, hys⟩ (fun q hq => ?_)
    rcases orW with e | e
    · subst e; exact Nat.ne_of_lt (ltT q (List.mem_cons_of_mem _ hq))
    · exact Nat.ne_of_lt (e q (List.mem_cons_of_mem _ (List.mem_cons_of_mem _ (hsub q (sub2 q (List.mem_cons_of_mem _ (List.mem_cons_of_mem _ hq)))))))
end
section
variable {w : World} {A : Around} {g : PySem.Heap} {L : Addr} {m mg mb : PySem.Str → Option Value} {s : Shared} {news : List (Addr × Obj)} {p : Program} {loose : List PySem.Str} {a : HA} {nodes : List (PySem.Str × List Nat)} {st : USt} {rt : Nat → Nat} {E : Value → Shared → Prop}
/-- a node as its class shows it -/
noncomputable def img (nodes : List (PySem.Str × List Nat)) (rt : Nat → Nat) (j : Nat) : PySem.Str × List Nat := ((nodes.getD j ("", [])).1, (nodes.getD j ("", [])).2.map rt)
theorem img_of {j : Nat} {k : PySem.Str × List Nat} (h : nodes[j]? = some k) : img nodes rt j = (k.1, k.2.map rt) := by unfold img; simp [h]
/-- the ledger again in the shape of a comprehension's turn -/
theorem cback_sub {h : PySem.Heap} {C : Addr} {ext news' news2 : List (Addr × Obj)} (N : News g C h news2) (hs : ∀ q ∈ ext ++ news', q ∈ news2) (hd : ∀ p ∈ ext, ∀ q ∈ news', p.1 ≠ q.1) :
    ∃ newsX, News g C h (ext ++ newsX) ∧ (∀ p ∈ ext, ∀ q ∈ newsX, p.1 ≠ q.1) ∧ (∀ q ∈ news', q ∈ newsX) ∧ ∀ q ∈ news2, (∀ p ∈ ext, p.1 ≠ q.1) → q ∈ newsX := by
  refine ⟨news2.filter fun q => ext.all fun p => decide (p.1 ≠ q.1), fun q hq => ?_, fun p hp q hq => ?_, fun q hq => ?_, fun q hq hne => ?_⟩
  · rcases List.mem_append.mp hq with hq | hq
    · exact N q (hs q (List.mem_append_left _ hq))
    · exact N q (List.mem_filter.mp hq).1
  · have := List.all_eq_true.mp (List.mem_filter.mp hq).2 p hp
    simpa using this
  · exact List.mem_filter.mpr ⟨hs q (List.mem_append_right _ hq), List.all_eq_true.mpr fun p hp => by simpa using hd p hp q hq⟩
  · exact List.mem_filter.mpr ⟨hq, List.all_eq_true.mpr fun p hp => by simpa using hne p hp⟩
set_option maxHeartbeats 8000000 in
theorem nodesOf_ok {x : Nat} {tx : Tok} {Q : Value → Shared → Prop}
   (F : Fr g L s.heap m) (N : News g L s.heap news) (X : (hd.heap_39 w.params).In g) (T : TopRead p loose mg mb g) (hr : RoomOk A 6)
   (R : RepC w news a nodes st) (O : OkC a nodes st rt) (hx : x < nodes.length) (hlots : ∀ l ∈ st.lots, l.length ≤ 16 ∧ ∀ j ∈ l, j < nodes.length)
   (h : ∀ s' D e vs news' l, Sm s s' → Fr g L s'.heap m → News g L s'.heap news' → (∀ p ∈ news, p ∈ news') → (D, lo vs e) ∈ news' → (∀ p ∈ news, p.1 ≠ D) → st.lots[rt x]? = some l → vs.length ≤ l.length →
      (∀ v ∈ vs, ∃ j ∈ l, TupV news' v (img nodes rt j)) → (∀ j ∈ l, ∃ v ∈ vs, TupV news' v (img nodes rt j)) → Q (.ref D) s') :
   wpAny (model P w) A (call (.ref 449) [.ref a.H, .int x tx]) Q E s := by
  refine bd [("self", .ref a.H), ("c", .int x tx)] ?_
  (refine' callC ?zF ?zN ?zX ?zT ?zR ?k6 ?k7 ?k9 ?kB ?c5 ?_ ?c2 ?c3 ?c4; (case zF | zN | zX | zR => assumption); (case zT => apply TopRead.nolimit; assumption); (case k6 | k7 => k_is); (case k9 | kB | c2 | c3 | c4 => exact rfl); (case c5 => decide); intros)
  rename_i g' L' h' tk' cells stay X' hr' F' N' Y ltY
  refine hide fun G0 hG0 => ?_
  obtain ⟨oS, rfl, hcS0⟩ := CellsAre.one Y
  have hcS : oS.data = .cell (some (.ref a.H)) := hcS0
  clear hcS0 Y
  have T' := T.keeps stay
  have hH := R.hH
  obtain ⟨t1, t2, t3, t4, t5, t6, t7, t8, t9, n', hdH⟩ := R.hd
  refine hG0 ?_
  try clear hG0 G0
  clear X T F N
  repeat' (walk_at "mine")
  refine hmembers_ok (by assumption) (by assumption) X' T' (hr'.less (by decide)) (R.mono fun q hq => List.mem_cons_of_mem _ hq) O hx (fun l hl => by have := (hlots l hl).1; lia) fun s1 D1 e1 vs1 ks1 l1 sm1 F1 N1 lt1 hl1 hi1 hp1 => ?_
  have hll := hlots l1 (List.mem_of_getElem? hl1)
  have hlen1 := IntsAre.len hi1
  have hpl := hp1.length_eq
  refine comp_walk (srcO := [(D1, lo vs1 e1)]) F1 N1 hr'.hh (by rw [List.size_toArray]; lia) (by decide) rfl rfl (Src.list (rl_list N1 (.head _))) (fun q hq => by rw [List.mem_singleton.mp hq]; exact .head _)
    (fun i ys news' => ys.length = i ∧ (∀ (j : Nat) v x, ys[j]? = some v → ks1[j]? = some x → TupV news' v (img nodes rt x)) ∧ ∀ q ∈ (L' + 1, oS) :: news, q ∈ news') ⟨rfl, fun j v x hv => by simp at hv, fun q hq => List.mem_cons_of_mem _ hq⟩ ?turn ?fin
  case turn =>
    rintro j v ys mC news' ext C s' hj hv sm F' hmC N' hdis hsrc hJ0 Z Z0 hZ hZ0
    refine hide fun G0 hG0 => ?_
    obtain ⟨hyl, hys, hsub⟩ := hJ0
    refine hG0 ?_
    try clear hG0 G0
    have hjl : j < ks1.length := by rw [List.size_toArray] at hj; lia
    have hv' : vs1[j]? = some v := by simpa using hv
    obtain ⟨tv, e⟩ := IntsAre.get hi1 (List.getElem?_eq_getElem hjl)
    rw [hv'] at e
    cases e
    have sub3 : ∀ q ∈ news, q ∈ ext ++ news' := fun q hq => List.mem_append_right _ (hsub q (List.mem_cons_of_mem _ hq))
    have hcell : (L' + 1, oS) ∈ ext ++ news' := List.mem_append_right _ (hsub _ List.mem_cons_self)
    have R3 := R.mono sub3
    clear hH hdH
    have hH := R3.hH
    obtain ⟨v1, v2, v3, v4, v5, v6, v7, v8, v9, vn, hdH⟩ := R3.hd
    refine wpAny_tests_nil (ifT ?_)
    repeat' (walk_at "mine")
    have hjn : ks1[j] < nodes.length := hll.2 _ (hp1.mem_iff.mp (List.getElem_mem hjl))
    refine hnode_ok (by assumption) (by assumption) X' T' (hr'.less (by decide)) R3 O (List.getElem?_eq_getElem hjn) fun D4 s4 news4 sm4 F4 N4 sub4 ht4 hf4 => ?_
    refine hide fun G0 hG0 => ?_
    obtain ⟨newsX, NX, hdX, hsX, hinX⟩ := cback_sub N4 sub4 hdis
    refine hG0 ?_
    try clear hG0 G0
    refine hZ _ _ ⟨⟨sm4.1.trans sm.1, sm4.2.trans sm.2⟩, mC, newsX, F4, NX, hdX, fun q hq => hsX q (hsrc q hq), by simp [hyl], fun i v2 x2 hv2 hx2 => ?_, fun q hq => hsX q (hsub q hq)⟩
    by_cases hij : i < ys.length
    · rw [List.getElem?_append_left hij] at hv2
      exact (hys i v2 x2 hv2 hx2).mono hsX
    · have hie : i = j := by
        have := (List.getElem?_eq_some_iff.mp hv2).1
        simp at this; lia
      subst hie
      rw [List.getElem?_append_right (by lia), show i - ys.length = 0 by lia] at hv2
      simp at hv2
      subst hv2
      rw [List.getElem?_eq_getElem hjl] at hx2
      cases hx2
      rw [img_of (List.getElem?_eq_getElem hjn)]
      refine hide fun G0 hG0 => ?_
      obtain ⟨b, t, us, n, eb, hm, hi⟩ := ht4
      refine hG0 ?_
      try clear hG0 G0
      cases eb
      exact ⟨_, t, us, n, rfl, hinX _ hm fun p hp => hf4 p (List.mem_append_left _ hp), hi⟩
  case fin =>
    rintro D2 c2 ys news' s' sm F' N' hD2 hlt2 ⟨hyl, hys, hsub⟩
    have hylen : ys.length = ks1.length := by rw [hyl, List.size_toArray]; lia
    repeat' (walk_at "mine")
    have hun := hr'.un
    have hcl : cLine = 9900 := rfl
    refine set_tups (tks := ks1.map (img nodes rt)) hr'.hh (by lia) (by assumption) (by assumption) (.head _) (by simp; lia) (fun i v k hv hk => ?_) (by lia) fun S es ep t h5 tk5 F5 N5 lt5 hT => ?_
    · rw [List.getElem?_map] at hk
      refine hide fun G0 hG0 => ?_
      obtain ⟨x, hx, rfl⟩ := Option.map_eq_some_iff.mp hk
      refine hG0 ?_
      try clear hG0 G0
      exact (hys i v x hv hx).mono fun q hq => List.mem_cons_of_mem _ hq
    clear F' N'
    repeat' (walk_at "mine")
    refine sorted_setT hr'.hh (by assumption) (by assumption) (.head _) (hT.mono fun q hq => List.mem_cons_of_mem _ hq) (by simp; lia) fun D6 e6 vs6 h6 tk6 dr6 F6 N6 lt6 hz6 ho6 hi6 => ?_
    rw [List.length_map] at hz6
    refine lv_ret F6 N6 fun F9 N9 => h _ D6 e6 vs6 _ l1 ⟨sm.1.trans sm1.1, sm.2.trans sm1.2⟩ F9 N9 (fun q hq => List.mem_cons_of_mem _ (List.mem_cons_of_mem _ (List.mem_cons_of_mem _ (hsub q (List.mem_cons_of_mem _ hq))))) (.head _)
      (fun q hq => Nat.ne_of_lt (lt6 q (List.mem_cons_of_mem _ (List.mem_cons_of_mem _ (hsub q (List.mem_cons_of_mem _ hq)))))) hl1 (by lia) (fun v hv => ?_) fun j hj => ?_
    · obtain ⟨k, hk, hv'⟩ := ho6 v hv
      refine hide fun G0 hG0 => ?_
      obtain ⟨j, hj, rfl⟩ := List.mem_map.mp hk
      refine hG0 ?_
      try clear hG0 G0
      exact ⟨j, hp1.mem_iff.mp hj, hv'.mono fun q hq => List.mem_cons_of_mem _ hq⟩
    · obtain ⟨v, hv, hv'⟩ := hi6 _ (List.mem_map.mpr ⟨j, hp1.mem_iff.mpr hj, rfl⟩)
      exact ⟨v, hv, hv'.mono fun q hq => List.mem_cons_of_mem _ hq⟩
end
section
variable {prog : Program} {w : World} {A : Around} {g : PySem.Heap} {L D : Addr} {m mg mb : PySem.Str → Option Value} {s : Shared} {news : List (Addr × Obj)} {us : List Value} {ns : List Nat} {n : Nat} {E : Value → Shared → Prop}
theorem zs_inj {a b : List Nat} (h : zs a = zs b) : a = b := by
  have := congrArg (List.map Int.toNat) h
  have e : (Int.toNat ∘ fun (n : Nat) => (n : Int)) = id := by funext n; simp
  simpa [zs, List.map_map, e] using this
theorem nodup_zs {ks : List Nat} (h : (zs ks).Nodup) : ks.Nodup := by
  have := h
  unfold zs at this
  exact (List.pairwise_map.mp this).imp fun hne e => hne (by rw [e])
theorem rl_setI {k : Nat} {Q : Value → Shared → Prop} (hr : RoomOk A k) (F : Fr g L s.heap m) (N : News g L s.heap news) (hm : (D, lo us n) ∈ news) (hi : IntsAre us (zs ns)) (hz : ns.length ≤ 1000) (hb : ∀ x ∈ ns, x < 16)
    (h : ∀ S es ep t ks h' tk, Fr g L h' m → News g L h' ((S, so es ep t) :: news) → (∀ p ∈ news, p.1 < S) → SetI prog w es t (zs ks) → ks.Nodup → (∀ x, x ∈ ks ↔ x ∈ ns) → es.size ≤ 16 → ks.length ≤ 16 → Q (.ref S) { s with heap := h', toks := tk }) :
    wpAny (model prog w) A (call (.type "set") [.ref D]) Q E s := by
  refine set_ints hr.hh F N hm hi (by rw [IntsAre.len hi]; lia) fun S es ep t ks h' tk F' N' hlt hI hks => ?_
  refine hide fun G0 hG0 => ?_
  obtain ⟨ks', rfl, hsub⟩ := zs_of (ks := ks) (ns := ns) fun k hk => (hks k).mp hk
  refine hG0 ?_
  try clear hG0 G0
  have hnd := nodup_zs hI.nd
  have hlen : ks'.length ≤ 16 := by
    have := len_sub ks' (List.range 16) hnd fun x hx => List.mem_range.mpr (hb x (hsub x hx))
    simpa using this
  have hsz : es.size = ks'.length := by
    have := congrArg List.length hI.kq
    simpa [zs] using this.symm
  exact h S es ep t ks' h' tk F' N' hlt hI hnd (fun x => by rw [← zs_mem, hks, zs_mem]) (by lia) hlen
theorem rl_sortedSetI {S : Addr} {es : Array (Int × Value)} {ep : Nat} {t : SetTable} {ks : List Nat} {k : Nat} {Q : Value → Shared → Prop} (hr : RoomOk A k) (F : Fr g L s.heap m) (N : News g L s.heap news) (hm : (S, so es ep t) ∈ news) (hI : SetI prog w es t (zs ks)) (hz : es.size ≤ 16)
    (h : ∀ D e vs ks' h' tk dr, Fr g L h' m → News g L h' ((D, lo vs e) :: news) → (∀ p ∈ news, p.1 < D) → IntsAre vs (zs ks') → ks'.Perm ks → Q (.ref D) { s with heap := h', toks := tk, drawn := dr }) :
    wpAny (model prog w) A (call (.builtin "sorted") [.ref S]) Q E s := by
  refine sorted_setI hr.hh F N hm hI (by lia) fun D e vs ks' h' tk dr F' N' hlt hi hp => ?_
  refine hide fun G0 hG0 => ?_
  obtain ⟨ks2, rfl, hsub⟩ := zs_of (ks := ks') (ns := ks) fun k hk => hp.mem_iff.mp hk
  refine hG0 ?_
  try clear hG0 G0
  refine h D e vs ks2 h' tk dr F' N' hlt hi ?_
  have := hp.map Int.toNat
  have e : (Int.toNat ∘ fun (n : Nat) => (n : Int)) = id := by funext n; simp
  simpa [zs, List.map_map, e] using this
theorem TupV.inj {h : PySem.Heap} {v : Value} {k k' : PySem.Str × List Nat} (N : News g L h news) (a : TupV news v k) (b : TupV news v k') : k = k' := by
  refine hide fun G0 hG0 => ?_
  obtain ⟨c, t, us, n, rfl, hm, hi⟩ := a
  obtain ⟨c', t', us', n', e, hm', hi'⟩ := b
  refine hG0 ?_
  try clear hG0 G0
  cases e
  have ho := led_one N hm hm'
  have hs : (Value.str k.1 t :: us) = (Value.str k'.1 t' :: us') := by
    have := congrArg (fun o : Obj => match o.data with | .seq xs _ => xs.toList | _ => []) ho
    simpa using this
  simp only [List.cons.injEq, Value.str.injEq] at hs
  refine hide fun G0 hG0 => ?_
  obtain ⟨⟨h1, _⟩, rfl⟩ := hs
  refine hG0 ?_
  try clear hG0 G0
  have h2 := zs_inj ((intsAre_iff.mp hi).1.trans (intsAre_iff.mp hi').1.symm)
  exact Prod.ext h1 h2
theorem pick_list {α β : Type} {R : α → β → Prop} : ∀ (l : List α), (∀ a ∈ l, ∃ b, R a b) → ∃ r : List β, r.length = l.length ∧ ∀ (i : Nat) a b, l[i]? = some a → r[i]? = some b → R a b
  | [], _ => ⟨[], rfl, fun i a b h => by simp at h⟩
  | a :: l, h => by
    refine hide fun G0 hG0 => ?_
    obtain ⟨b, hb⟩ := h a (.head _)
    obtain ⟨r, hl, hr⟩ := pick_list l fun x hx => h x (.tail _ hx)
    refine hG0 ?_
    try clear hG0 G0
    refine ⟨b :: r, by simp [hl], fun i a' b' h1 h2 => ?_⟩
    cases i with
    | zero => simp at h1 h2; subst h1; subst h2; exact hb
    | succ i => simp at h1 h2; exact hr i a' b' h1 h2
end
section
variable {w : World} {A : Around} {g : PySem.Heap} {L : Addr} {m mg mb : PySem.Str → Option Value} {s : Shared} {news : List (Addr × Obj)} {p : Program} {loose : List PySem.Str} {a : HA} {G dG : Addr} {nodes : List (PySem.Str × List Nat)} {st : USt} {rt : Nat → Nat} {E : Value → Shared → Prop}
/-- y is a class within the class of x -/
noncomputable def KK (nodes : List (PySem.Str × List Nat)) (st : USt) (rt : Nat → Nat) (x y : Nat) : Prop := ∃ l, st.lots[rt x]? = some l ∧ ∃ j ∈ l, y ∈ (img nodes rt j).2
structure RepG (w : World) (news : List (Addr × Obj)) (G dG : Addr) (a : HA) (nodes : List (PySem.Str × List Nat)) (st : USt) : Prop where
  hG : (G, instObj 102 dG) ∈ news
  hd : ∃ t n, (dG, dictOf [ent w.params "heap" t (.ref a.H)] n) ∈ news
  rc : RepC w news a nodes st
theorem RepG.mono {news' : List (Addr × Obj)} (R : RepG w news G dG a nodes st) (hs : ∀ p ∈ news, p ∈ news') : RepG w news' G dG a nodes st :=
  ⟨hs _ R.hG, let ⟨t, n, h⟩ := R.hd; ⟨t, n, hs _ h⟩, R.rc.mono hs⟩
/-- what is so of the lots -/
structure OkL (nodes : List (PySem.Str × List Nat)) (st : USt) (rt : Nat → Nat) : Prop where
  lots : ∀ l ∈ st.lots, l.length ≤ 16 ∧ ∀ j ∈ l, j < nodes.length
  small : nodes.length ≤ 16
theorem img_len {a : HA} (O : OkC a nodes st rt) {j : Nat} (hj : j < nodes.length) : (img nodes rt j).2.length ≤ 2 := by
  have hk := O.kids _ (List.getElem_mem hj)
  rw [img_of (List.getElem?_eq_getElem hj)]
  simpa using hk.1
theorem img_kids {a : HA} (O : OkC a nodes st rt) {j y : Nat} (hj : j < nodes.length) (hy : y ∈ (img nodes rt j).2) : (img nodes rt j).2.length ≤ 2 ∧ y < nodes.length := by
  have hk := O.kids _ (List.getElem_mem hj)
  rw [img_of (List.getElem?_eq_getElem hj)] at hy ⊢
  simp only [List.mem_map] at hy
  refine hide fun G0 hG0 => ?_
  obtain ⟨x, hx, rfl⟩ := hy
  refine hG0 ?_
  try clear hG0 G0
  exact ⟨by simpa using hk.1, by rw [O.nn]; exact (O.ok.rr x (by rw [← O.nn]; exact hk.2 x hx)).1⟩
set_option maxHeartbeats 8000000 in
theorem gkids_ok {x : Nat} {tx : Tok} {Q : Value → Shared → Prop}
   (F : Fr g L s.heap m) (N : News g L s.heap news) (X : (hd.heap_39 w.params).In g) (T : TopRead p loose mg mb g) (hr : RoomOk A 7)
   (R : RepG w news G dG a nodes st) (O : OkC a nodes st rt) (OL : OkL nodes st rt) (hx : x < nodes.length)
   (h : ∀ s' D e vs ks, Sm s s' → Fr g L s'.heap m → News g L s'.heap ((D, lo vs e) :: news) → (∀ p ∈ news, p.1 ≠ D) → IntsAre vs (zs ks) → ks.Nodup → ks.length ≤ 16 → (∀ y, y ∈ ks ↔ KK nodes st rt x y) → Q (.ref D) s') :
   wpAny (model P w) A (call (.ref 61) [.ref G, .int x tx]) Q E s := by
  refine bd [("self", .ref G), ("c", .int x tx)] ?_
  (refine' callP ?zF ?zN ?zX ?zT ?zR ?k6 ?k7 ?k9 ?kB ?_ ?c5 ?c2 ?c3 ?c4; (case zF | zN | zX | zR => assumption); (case zT => apply TopRead.nolimit; assumption); (case k6 | k7 => k_is); (case k9 | kB | c2 | c3 | c4 => exact rfl); (case c5 => decide); intros)
  rename_i g' L' h' stay X' hr' F' N'
  have T' := T.keeps stay
  have hG := R.hG
  refine hide fun G0 hG0 => ?_
  obtain ⟨t0, n0, hdG⟩ := R.hd
  have hH := R.rc.hH
  obtain ⟨t1, t2, t3, t4, t5, t6, t7, t8, t9, n', hdH⟩ := R.rc.hd
  refine hG0 ?_
  try clear hG0 G0
  clear X T F N
  repeat' (first | (guard_target = wpAny _ _ (compareOp CmpOp.Eq (Value.ref _) (Value.ref _)) _ _ _; refine' rl_eqB ?zr ?zN ?zm ?zl ?zi ?zj ?zk ?_; (case zr => with_reducible assumption); walk_at "aNm"; (case zl => k_mem); (case zi | zj => first | with_reducible assumption | exact nilN); (case zk => first | with_reducible assumption | exact rfl)) | walk_at "mine")
  refine nodesOf_ok (by assumption) (by assumption) X' T' hr' R.rc O hx OL.lots fun s1 D1 e1 vs1 news1 l1 sm1 F1 N1 sub1 hm1 hf1 hl1 hz1 ho1 hi1 => ?_
  refine hide fun G0 hG0 => ?_
  obtain ⟨js, hjl, hjs⟩ := pick_list (R := fun v j => j ∈ l1 ∧ TupV news1 v (img nodes rt j)) vs1 ho1
  refine hG0 ?_
  try clear hG0 G0
  have hll := OL.lots l1 (List.mem_of_getElem? hl1)
  refine comp2_walk (srcO := [(D1, lo vs1 e1)]) F1 N1 hr'.hh (by rw [List.size_toArray]; lia) (by decide) rfl rfl rfl (by decide) (Src.list (rl_list N1 hm1)) (fun q hq => by rw [List.mem_singleton.mp hq]; exact hm1)
    (fun i ys news' => IntsAre ys (zs ((js.take i).flatMap fun j => (img nodes rt j).2)) ∧ ∀ q ∈ news1, q ∈ news') ⟨.nil, fun q hq => hq⟩ ?turn ?fin
  case turn =>
    rintro i v ys mC news' ext C s' hi hv sm F' hmC N' hdis hsrc hJ0 Z hZ
    refine hide fun G0 hG0 => ?_
    obtain ⟨hys, hsub⟩ := hJ0
    refine hG0 ?_
    try clear hG0 G0
    have hil : i < vs1.length := by simpa using hi
    have hv' : vs1[i]? = some v := by simpa using hv
    have hj' : js[i]? = some (js[i]'(by lia)) := List.getElem?_eq_getElem _
    obtain ⟨hjm, htv⟩ := hjs i v _ hv' hj'
    have htake : js.take (i + 1) = js.take i ++ [js[i]'(by lia)] := by rw [List.take_add_one, hj']; rfl
    generalize js[i]'(by lia) = j at *
    have hjn := hll.2 j hjm
    refine hide fun G0 hG0 => ?_
    obtain ⟨b, t, tus, tn, rfl, hbm, hti⟩ := htv
    refine hG0 ?_
    try clear hG0 G0
    have hl := IntsAre.len hti
    have h2 := img_len O hjn
    have hzt : tus.length ≤ 100000 := by lia
    have hbm' : (b, tu (.str (img nodes rt j).1 t :: tus) tn) ∈ ext ++ news' := List.mem_append_right _ (hsub _ hbm)
    repeat' (first | (guard_target = wpAny _ _ (compareOp CmpOp.Eq (Value.ref _) (Value.ref _)) _ _ _; refine' rl_eqB ?zr ?zN ?zm ?zl ?zi ?zj ?zk ?_; (case zr => with_reducible assumption); walk_at "aNm"; (case zl => k_mem); (case zi | zj => first | with_reducible assumption | exact nilN); (case zk => first | with_reducible assumption | exact rfl)) | walk_at "mine")
    refine hZ _ _ ⟨rfl, tus.toArray, [(DW, tu tus 0)], Src.tuple (rl_tuple NW (.head _)), by rw [List.size_toArray]; lia, ⟨sm.1, sm.2⟩, mC, (DW, tu tus 0) :: news', FW, nsub NW fun q hq => ?_, fun p hp q hq => ?_, fun q hq => List.mem_cons_of_mem _ (hsrc q hq), fun q hq => by rw [List.mem_singleton.mp hq]; exact .head _, ?_, fun q hq => List.mem_cons_of_mem _ (hsub q hq)⟩
    · rcases List.mem_append.mp hq with hq | hq
      · exact List.mem_cons_of_mem _ (List.mem_append_left _ hq)
      · rcases List.mem_cons.mp hq with rfl | hq
        · exact List.mem_cons_self
        · exact List.mem_cons_of_mem _ (List.mem_append_right _ hq)
    · rcases List.mem_cons.mp hq with rfl | hq
      · exact Nat.ne_of_lt (ltW p (List.mem_append_left _ hp))
      · exact hdis p hp q hq
    · rw [htake, List.flatMap_append]
      simp only [List.flatMap_cons, List.flatMap_nil, List.append_nil]
      exact intsAre_append hys hti
  case fin =>
    rintro D2 c2 ys news' s' sm F' N' hD2 hlt2 ⟨hys, hsub⟩
    have e0 : js.take vs1.toArray.size = js := List.take_of_length_le (by rw [List.size_toArray]; lia)
    rw [e0] at hys
    have hmem : ∀ y, y ∈ (js.flatMap fun j => (img nodes rt j).2) ↔ KK nodes st rt x y := fun y => by
      rw [List.mem_flatMap]
      constructor
      · rintro ⟨j, hj, hy⟩
        refine hide fun G0 hG0 => ?_
        obtain ⟨i, hi, e⟩ := List.getElem_of_mem hj
        obtain ⟨hjm, _⟩ := hjs i _ j (List.getElem?_eq_getElem (by lia : i < vs1.length)) (by rw [List.getElem?_eq_getElem hi, e])
        refine hG0 ?_
        try clear hG0 G0
        exact ⟨l1, hl1, j, hjm, hy⟩
      · rintro ⟨l, hl, j, hj, hy⟩
        rw [hl1] at hl
        cases hl
        refine hide fun G0 hG0 => ?_
        obtain ⟨v, hv, hvt⟩ := hi1 j hj
        obtain ⟨i, hi, e⟩ := List.getElem_of_mem hv
        have hij : js[i]? = some (js[i]'(by lia)) := List.getElem?_eq_getElem _
        obtain ⟨_, hvt2⟩ := hjs i v _ (by rw [List.getElem?_eq_getElem hi, e]) hij
        refine hG0 ?_
        try clear hG0 G0
        have := hvt.inj N1 hvt2
        exact ⟨_, List.getElem_mem _, this ▸ hy⟩
    have hlt16 : ∀ y ∈ (js.flatMap fun j => (img nodes rt j).2), y < 16 := fun y hy => by
      refine hide fun G0 hG0 => ?_
      obtain ⟨l, hl, j, hj, hyj⟩ := (hmem y).mp hy
      refine hG0 ?_
      try clear hG0 G0
      have := (img_kids O ((OL.lots l (List.mem_of_getElem? hl)).2 j hj) hyj).2
      have := OL.small
      lia
    have hlen : (js.flatMap fun j => (img nodes rt j).2).length ≤ 1000 := by
      have : ∀ l : List Nat, (∀ j ∈ l, j < nodes.length) → (l.flatMap fun j => (img nodes rt j).2).length ≤ 2 * l.length := fun l => by
        induction l with
        | nil => intro _; simp
        | cons j l ih =>
          intro hl
          rw [List.flatMap_cons, List.length_append, List.length_cons]
          have := ih fun q hq => hl q (.tail _ hq)
          have := img_len O (hl j (.head _))
          lia
      have := this js fun j hj => by
        refine hide fun G0 hG0 => ?_
        obtain ⟨i, hi, e⟩ := List.getElem_of_mem hj
        refine hG0 ?_
        try clear hG0 G0
        exact hll.2 j (hjs i _ j (List.getElem?_eq_getElem (by lia : i < vs1.length)) (by rw [List.getElem?_eq_getElem hi, e])).1
      lia
    repeat' (first | (guard_target = wpAny _ _ (compareOp CmpOp.Eq (Value.ref _) (Value.ref _)) _ _ _; refine' rl_eqB ?zr ?zN ?zm ?zl ?zi ?zj ?zk ?_; (case zr => with_reducible assumption); walk_at "aNm"; (case zl => k_mem); (case zi | zj => first | with_reducible assumption | exact nilN); (case zk => first | with_reducible assumption | exact rfl)) | walk_at "mine")
    refine rl_setI hr' (by assumption) (by assumption) (.head _) hys hlen hlt16 fun S es ep t ks h5 tk5 F5 N5 lt5 hI hnd hks hsz hkl => ?_
    clear F' N'
    repeat' (first | (guard_target = wpAny _ _ (compareOp CmpOp.Eq (Value.ref _) (Value.ref _)) _ _ _; refine' rl_eqB ?zr ?zN ?zm ?zl ?zi ?zj ?zk ?_; (case zr => with_reducible assumption); walk_at "aNm"; (case zl => k_mem); (case zi | zj => first | with_reducible assumption | exact nilN); (case zk => first | with_reducible assumption | exact rfl)) | walk_at "mine")
    refine rl_sortedSetI hr' (by assumption) (by assumption) (.head _) hI hsz fun D6 e6 vs6 ks6 h6 tk6 dr6 F6 N6 lt6 hi6 hp6 => ?_
    refine lv_ret F6 N6 fun F9 N9 => h _ D6 e6 vs6 ks6 ⟨sm.1.trans sm1.1, sm.2.trans sm1.2⟩ F9 (nsub N9 fun q hq => ?_) (fun q hq => Nat.ne_of_lt (lt6 q (List.mem_cons_of_mem _ (List.mem_cons_of_mem _ (hsub q (sub1 q hq)))))) hi6 (hp6.nodup_iff.mpr hnd) (by rw [hp6.length_eq]; exact hkl) fun y => by rw [hp6.mem_iff, hks, hmem]
    rcases List.mem_cons.mp hq with rfl | hq
    · exact .head _
    · exact List.mem_cons_of_mem _ (List.mem_cons_of_mem _ (List.mem_cons_of_mem _ (hsub q (sub1 q hq))))
end
/-- a dict from naturals -/
noncomputable def DI (w : World) (o : Obj) (kvs : List (Nat × Value)) : Prop := o.IsDictOf (PySem.intKind P w) (kvs.map fun x => ((x.1 : Int), x.2))
noncomputable def lk (kvs : List (Nat × Value)) (k : Nat) : Option Value := (kvs.find? fun x => decide (x.1 = k)).map (·.2)
noncomputable def put (kvs : List (Nat × Value)) (k : Nat) (v : Value) : List (Nat × Value) := if kvs.any (fun x => decide (x.1 = k)) then kvs.map (fun x => if x.1 = k then (x.1, v) else x) else kvs ++ [(k, v)]
noncomputable def del (kvs : List (Nat × Value)) (k : Nat) : List (Nat × Value) := kvs.filter fun x => decide (x.1 ≠ k)
theorem lk_map (kvs : List (Nat × Value)) (k : Nat) : valueAt (kvs.map fun x => ((x.1 : Int), x.2)) (k : Int) = lk kvs k := by
  unfold valueAt lk
  rw [List.find?_map, Option.map_map]
  have e : ((fun kv : Int × Value => decide (kv.1 = (k : Int))) ∘ fun x : Nat × Value => ((x.1 : Int), x.2)) = fun x => decide (x.1 = k) := by
    funext x; simp; lia
  rw [e]; rfl
theorem put_map (kvs : List (Nat × Value)) (k : Nat) (v : Value) : stored (kvs.map fun x => ((x.1 : Int), x.2)) (k : Int) v = (put kvs k v).map fun x => ((x.1 : Int), x.2) := by
  unfold stored put
  have e : (kvs.map fun x => ((x.1 : Int), x.2)).any (fun kv => decide (kv.1 = (k : Int))) = kvs.any fun x => decide (x.1 = k) := by
    rw [List.any_map]; congr 1; funext x; simp; lia
  rw [e]
  split
  · rw [List.map_map, List.map_map]
    refine List.map_congr_left fun x _ => ?_
    by_cases h : x.1 = k
    · simp [h]
    · have : ¬ (x.1 : Int) = (k : Int) := by lia
      simp [h, this]
  · simp
theorem del_map (kvs : List (Nat × Value)) (k : Nat) : without (kvs.map fun x => ((x.1 : Int), x.2)) (k : Int) = (del kvs k).map fun x => ((x.1 : Int), x.2) := by
  unfold without del
  rw [List.filter_map]
  congr 1
  refine List.filter_congr fun x _ => ?_
  simp; lia
theorem lk_none {kvs : List (Nat × Value)} {k : Nat} : lk kvs k = none ↔ k ∉ kvs.map (·.1) := by
  unfold lk
  rw [Option.map_eq_none_iff, List.find?_eq_none]
  simp only [decide_eq_true_eq, List.mem_map, not_exists, not_and]
theorem lk_some {kvs : List (Nat × Value)} {k : Nat} {v : Value} (h : lk kvs k = some v) : (k, v) ∈ kvs := by
  unfold lk at h
  refine hide fun G0 hG0 => ?_
  obtain ⟨x, hx, rfl⟩ := Option.map_eq_some_iff.mp h
  refine hG0 ?_
  try clear hG0 G0
  have h1 := List.mem_of_find?_eq_some hx
  have h2 := List.find?_some hx
  simp only [decide_eq_true_eq] at h2
  rw [← h2]; exact h1
theorem put_new {kvs : List (Nat × Value)} {k : Nat} {v : Value} (h : lk kvs k = none) : put kvs k v = kvs ++ [(k, v)] := by
  unfold put
  rw [if_neg]
  rw [List.any_eq_true]
  rintro ⟨x, hx, e⟩
  exact lk_none.mp h (List.mem_map.mpr ⟨x, hx, by simpa using e⟩)
section
variable {w : World} {A : Around} {g : PySem.Heap} {L D : Addr} {m mg mb : PySem.Str → Option Value} {s : Shared} {news : List (Addr × Obj)} {o : Obj} {kvs : List (Nat × Value)} {k : Nat} {t : Tok} {v : Value} {E : Value → Shared → Prop}
theorem rd_new {env : Env} {pos : Pos} {Q : Value → Shared → Prop} (F : Fr g L s.heap m) (N : News g L s.heap news) (hbig : g.NoLimit)
    (h : ∀ D o h', Fr g L h' m → News g L h' ((D, o) :: news) → (∀ p ∈ news, p.1 < D) → (D == sysModules) = false → DI w o [] → Q (.ref D) { s with heap := h' }) :
    wpAny (model P w) A (eval (.Dict [] [] pos) env) Q E s := by
  exact newDict_K F N hbig fun d h' o F' N' hlt lo _ _ hi _ => h d o h' F' N' hlt lo hi
theorem rd_notIn {Q : Value → Shared → Prop} (N : News g L s.heap news) (hm : (D, o) ∈ news) (hd : DI w o kvs) (lo : (D == sysModules) = false) (h : Q (.bool (!(lk kvs k).isSome)) { s with toks := s.toks + 1 }) :
    wpAny (model P w) A (compareOp .NotIn (.int (k : Int) t) (.ref D)) Q E s :=
  wpAny_notIn_of (knd := PySem.intKind P w) (k := (k : Int)) (intKind_is _ _ _ _) lo (kda_dict N hm hd).mapOf (by rw [lk_map]; exact h)
theorem rd_notIn_new {Q : Value → Shared → Prop} (N : News g L s.heap news) (hm : (D, o) ∈ news) (hd : DI w o kvs) (lo : (D == sysModules) = false) (hl : lk kvs k = none) (h : Q (.bool true) { s with toks := s.toks + 1 }) :
    wpAny (model P w) A (compareOp .NotIn (.int (k : Int) t) (.ref D)) Q E s := rd_notIn N hm hd lo (by rw [hl]; exact h)
theorem rd_notIn_old {Q : Value → Shared → Prop} (N : News g L s.heap news) (hm : (D, o) ∈ news) (hd : DI w o kvs) (lo : (D == sysModules) = false) (hl : lk kvs k = some v) (h : Q (.bool false) { s with toks := s.toks + 1 }) :
    wpAny (model P w) A (compareOp .NotIn (.int (k : Int) t) (.ref D)) Q E s := rd_notIn N hm hd lo (by rw [hl]; exact h)
theorem rd_item {value slice : PySem.Expr} {Q : Value → Shared → Prop} (N : News g L s.heap news) (hm : (D, o) ∈ news) (hd : DI w o kvs) (hl : lk kvs k = some v) (h : Q v { s with toks := s.toks + 1 })
    (hs : subscripted slice false (.ref D) (.int (k : Int) t) = operate [.ref D, .int (k : Int) t] (getItem (.ref D) (.int (k : Int) t)) := by with_unfolding_all rfl) (hg : ∀ r, letTemporaryGo value (.ref D) r = pure () := by intro _; with_unfolding_all rfl) :
    wpAny (model P w) A (subscriptTail value slice (.ref D) (.int (k : Int) t)) Q E s :=
  kda_item (knd := PySem.intKind P w) (k := (k : Int)) N hm hd (intKind_is _ _ _ _) (by rw [lk_map]; exact hl) h hs hg
theorem rd_len {Q : Value → Shared → Prop} (N : News g L s.heap news) (hm : (D, o) ∈ news) (hd : DI w o kvs) (lo : (D == sysModules) = false) (hz : kvs.length ≤ 1000) (h : ∀ t t', Q (.int (kvs.length : Int) t) { s with toks := t' }) :
    wpAny (model P w) A (call (.builtin "len") [.ref D]) Q E s :=
  kda_len (knd := PySem.intKind P w) N hm hd lo (by rw [List.length_map]; lia) (by rw [List.length_map]; exact h _ _)
theorem rd_set {Q : Unit → Shared → Prop} (F : Fr g L s.heap m) (N : News g L s.heap news) (hm : (D, o) ∈ news) (hd : DI w o kvs) (hz : kvs.length ≤ 1000)
    (h : ∀ o' h', Fr g L h' m → News g L h' (upd D o' news) → DI w o' (put kvs k v) → Q () { s with heap := h', toks := s.toks + 1 }) : wpAny (model P w) A (setItem (.ref D) (.int (k : Int) t) v) Q E s := by
  refine kda_set (knd := PySem.intKind P w) (k := (k : Int)) F (oth_news N hm) (UpdF.head oth_ne) hd (intKind_is _ _ _ _) (by rw [List.length_map, sizeLine_eq]; lia) fun h' o' F' N' hd' => ?_
  rw [put_map] at hd'
  exact h o' h' F' (oth_back N') hd'
theorem rd_setdef_there {Q : Value → Shared → Prop} {dv : Value} (N : News g L s.heap news) (hm : (D, o) ∈ news) (hd : DI w o kvs) (lo : (D == sysModules) = false) (hl : lk kvs k = some v) (hz : kvs.length ≤ 1000) (h : Q v { s with toks := s.toks + 1 }) :
    wpAny (model P w) A (call (.builtin "dict.setdefault") [.ref D, .int (k : Int) t, dv]) Q E s :=
  kob_setdef_there (knd := PySem.intKind P w) (k := (k : Int)) N hm hd lo (intKind_is _ _ _ _) (PySem.F.args_dict_setdefault_3 _ _ _) (by rw [lk_map]; exact hl) (by rw [List.length_map, sizeLine_eq]; lia) h
theorem rd_setdef_new {Q : Value → Shared → Prop} {dv : Value} (F : Fr g L s.heap m) (N : News g L s.heap news) (hm : (D, o) ∈ news) (hd : DI w o kvs) (lo : (D == sysModules) = false) (hl : lk kvs k = none) (hz : kvs.length ≤ 1000)
    (h : ∀ o' h', Fr g L h' m → News g L h' (upd D o' news) → DI w o' (kvs ++ [(k, dv)]) → Q dv { s with heap := h', toks := s.toks + 1 }) :
    wpAny (model P w) A (call (.builtin "dict.setdefault") [.ref D, .int (k : Int) t, dv]) Q E s := by
  refine kob_setdef_new (knd := PySem.intKind P w) (k := (k : Int)) F (oth_news N hm) (UpdF.head oth_ne) hd lo (intKind_is _ _ _ _) (PySem.F.args_dict_setdefault_3 _ _ _) (by rw [lk_map]; exact hl) (by rw [List.length_map, sizeLine_eq]; lia) fun h' o' F' N' hd' => ?_
  rw [put_map, put_new hl] at hd'
  exact h o' h' F' (oth_back N') hd'
theorem rd_pop {Q : Value → Shared → Prop} (F : Fr g L s.heap m) (N : News g L s.heap news) (hm : (D, o) ∈ news) (hd : DI w o kvs) (hl : lk kvs k = some v) (hz : kvs.length ≤ 1000)
    (h : ∀ o' h', Fr g L h' m → News g L h' (upd D o' news) → DI w o' (del kvs k) → Q v { s with heap := h', toks := s.toks + 1 }) :
    wpAny (model P w) A (call (.builtin "dict.pop") [.ref D, .int (k : Int) t]) Q E s := by
  refine kob_pop (knd := PySem.intKind P w) (k := (k : Int)) (more := []) F (oth_news N hm) (UpdF.head oth_ne) hd (intKind_is _ _ _ _) (.inl rfl) rfl (PySem.F.args_dict_pop_2 _ _) (by rw [lk_map]; exact hl) (by rw [List.length_map, sizeLine_eq]; lia) fun h' o' F' N' hd' => ?_
  rw [del_map] at hd'
  exact h o' h' F' (oth_back N') hd'

theorem perm_zs {a b : List Nat} (h : (zs a).Perm (zs b)) : a.Perm b := by
  have := h.map Int.toNat
  have e : (Int.toNat ∘ fun (n : Nat) => (n : Int)) = id := by funext n; simp
  unfold zs at this
  rw [List.map_map, List.map_map, e] at this
  simpa using this
theorem len_dict_hint {d : Addr} {Q : Bool → Shared → Prop} (hT : s.TypeIs (.ref d) "dict") (h : Q false s) : wpAny (model P w) A (Builtin.List.listLengthHint (.ref d)) Q E s := by
  unfold Builtin.List.listLengthHint
  refine wpAny_bind (wpAny_specialOf hT PySem.F.slot_dict_len.lookup ?_)
  wp_delta
  refine wpAny_bind (wpAny_isInstance hT (b := true) (by rw [isSubtype_type]; kernel_rfl) ?_)
  show wpAny _ _ (typeOf (Value.ref d) >>= _) _ _ _
  refine wpAny_bind (wpAny_typeOf hT ?_)
  exact wpAny_pure h
set_option maxHeartbeats 1000000 in
theorem collect_dict {Q : List Value → Shared → Prop} (hh : A.handled = none) (hg : s.heap.get? D = some o) (hd : DI w o kvs) (lo : (D == sysModules) = false) (hz : kvs.length ≤ 1000)
    (h : ∀ (acc : List Value) h' tk, IntsAre acc (zs (kvs.map (·.1))) → Old s.heap h' → Q acc { s with heap := h', toks := tk }) : wpAny (model P w) A (collect (.ref D)) Q E s := by
  have haL : D < s.heap.objs.size := Heap.lt_size hg
  unfold collect
  refine wpAny_bind (wpAny_runValue (codeAny_builtin F.entry_proto_collect ?_))
  rw [Around.under_plainId F.plain_proto_collect _]
  show wpAny _ A.in1 (newList [] >>= fun l => again (.builtin "list.__iadd__" ⟨[l, .ref D], []⟩)) _ _ s
  refine wpAny_bind (wpAny_newObj_type ?_)
  refine wpAny_pure ⟨plainId_quiet F.plain_list_iadd _, codeAny_builtin F.entry_list_iadd ?_⟩
  rw [Around.under_plainId F.plain_list_iadd _]
  show wpAny _ A.in1 (Builtin.List.listExtendWith (.ref s.heap.objs.size) (.ref D) (.ref s.heap.objs.size)) _ _ _
  generalize hH : s.heap.push { cls := .type "list", data := .seq ([] : List Value).toArray } = H
  have hS0 : H.get? s.heap.objs.size = some { cls := .type "list", data := .seq ([] : List Value).toArray } := hH ▸ Heap.get?_push_size _ rfl
  have hold : Old s.heap H := fun b o e => hH ▸ Heap.get?_push_of_some _ e
  have hHs : H.objs.size = s.heap.objs.size + 1 := by rw [← hH, Heap.size_push]
  have ho' := hold _ _ hg
  have hDof : H.DictOf (PySem.intKind P w) D (kvs.map fun x => ((x.1 : Int), x.2)) := Heap.dictOf_iff.mpr ⟨o, ho', hd⟩
  have hT : Shared.TypeIs { s with heap := H } (.ref D) "dict" := Heap.DictOf.typeIs (s := { s with heap := H }) hDof
  obtain ⟨ep, hat⟩ := hDof.dictAt
  unfold Builtin.List.listExtendWith
  refine wpAny_bind (wpAny_typeOf hT ?_)
  have h1 : Builtin.List.listSameRef (.ref s.heap.objs.size) (.ref D) = false := by simp [Builtin.List.listSameRef, Nat.ne_of_gt haL]
  have h2 : (Value.type "dict" == Value.type "list") = false := by decide
  have h3 : (Value.type "dict" == Value.type "tuple") = false := by decide
  simp only [h1, h2, h3, Bool.or_false, Bool.false_eq_true, if_false]
  refine wpAny_bind (wpAny_pyIter_dict (s := { s with heap := H }) lo hat ?_)
  dsimp only
  have hI : s.heap.objs.size < H.objs.size := by rw [hHs]; exact Nat.lt_succ_self _
  generalize hHI : H.objs.size = I at *
  have hDI : D ≠ I := Nat.ne_of_lt (Nat.lt_trans haL hI)
  have W := fun (A' : Around) (hA : A'.handled = none) => Walks.dictKeys (prog := P) (w := w) (knd := PySem.intKind P w) (A := A') hA I D hDI (kvs.map fun x => ((x.1 : Int), x.2)) ep
  generalize hOI : ({ cls := .type "dict_keyiterator", data := .fields #[.ref D, .int 0 0, .int (kvs.map fun x => ((x.1 : Int), x.2)).length 0, .int ep 0] } : Obj) = oI at *
  have hgI : (H.push oI).get? I = some oI := hHI ▸ Heap.get?_push_size _ (by rw [← hOI]; rfl)
  have hpush : Old H (H.push oI) := fun b o e => Heap.get?_push_of_some _ e
  have st0 : (H.push oI).IsKeyIter I D 0 (kvs.map fun x => ((x.1 : Int), x.2)).length ep ∧ (H.push oI).DictAt (PySem.intKind P w) D (kvs.map fun x => ((x.1 : Int), x.2)) ep :=
    ⟨⟨_, hgI, by rw [← hOI], by rw [← hOI]; rfl⟩, hat.keep hpush⟩
  refine wpAny_bind (wpAny_holding ?_)
  refine len_dict_hint (s := { s with heap := H.push oI }) ?_ ?_
  · exact Heap.DictOf.typeIs (s := { s with heap := H.push oI }) (Heap.dictOf_iff.mpr ⟨o, hpush _ _ ho', hd⟩)
  show wpAny _ A.in1 (rule "list.extend.makes-room" >>= fun _ => Builtin.List.listTouch (.ref s.heap.objs.size) >>= fun _ =>
    again (.builtin "list.extend.loop" ⟨[.ref s.heap.objs.size, .ref I, .ref s.heap.objs.size], []⟩)) _ _ _
  refine wpAny_bind (wpAny_rule ?_)
  have hS1 := hpush _ _ hS0
  have hSf : s.heap.objs.size ∉ [I, D] := by
    simp only [List.mem_cons, List.not_mem_nil, or_false, not_or]
    exact ⟨Nat.ne_of_lt hI, Nat.ne_of_gt haL⟩
  refine wpAny_bind ?_
  show wpAny _ A.in1 (updateSeq s.heap.objs.size (·.push .none) >>= fun _ => updateSeq s.heap.objs.size (·.pop)) _ _ _
  refine wpAny_bind (wpAny_updateSeq hS1 rfl ?_)
  have hS2 := Heap.get?_update_self (Obj.mapSeq (·.push Value.none)) hS1 rfl
  refine wpAny_updateSeq hS2 rfl ?_
  have hS3 := Heap.get?_update_self (Obj.mapSeq (·.pop)) hS2 rfl
  have oth : ∀ b o, b ≠ s.heap.objs.size → (H.push oI).get? b = some o → (((H.push oI).update s.heap.objs.size (Obj.mapSeq (·.push Value.none))).update s.heap.objs.size (Obj.mapSeq (·.pop))).get? b = some o :=
    fun b o hb e => (Heap.get?_update_other _ _ (Ne.symm hb)).trans ((Heap.get?_update_other _ _ (Ne.symm hb)).trans e)
  refine wpAny_pure ⟨plainId_quiet F.plain_extend_loop _, codeAny_extend_loopS ((W A.in1 hh).toS) (by rw [List.length_map, sizeLine_eq]; lia) _ hSf _ (kvs.map fun x => ((x.1 : Int), x.2)).length 0 _ _ _ rfl (Nat.zero_le _)
    ((W A hh).frame 0 _ _ st0 fun b hb o e => oth b o (fun q => hSf (q ▸ hb)) e) hS3 (ItemsOf.nil _) fun s' acc c hm hS' hacc => ?_⟩
  show wpAny _ A (load s.heap.objs.size >>= _) _ _ s'
  refine wpAny_bind (wpAny_load hS' ?_)
  refine hide fun G0 hG0 => ?_
  obtain ⟨h3, g3, d3, t3, o3⟩ := s'
  refine hG0 ?_
  try clear hG0 G0
  have eg : g3 = s.gens := hm.gens
  have ed : d3 = s.drawn := hm.drawn
  have eo : o3 = s.os := hm.os
  subst eg; subst ed; subst eo
  refine wpAny_pure (h acc.toList h3 t3 ?_ fun b o eb => ?_)
  · refine intsAre_iff.mpr ⟨?_, fun v hv => ?_⟩
    · refine List.ext_getElem (by simp [zs, hacc.1]) fun i h1 h2 => ?_
      have hi : i < acc.size := by simpa [zs, hacc.1] using h1
      refine hide fun G0 hG0 => ?_
      obtain ⟨k, x, hk, hkv⟩ := hacc.2 i _ (Array.getElem?_eq_getElem hi)
      obtain ⟨tt, e⟩ := Value.isInt_shape hkv
      rw [List.getElem?_map] at hk
      obtain ⟨y, hy, hyk⟩ := Option.map_eq_some_iff.mp hk
      refine hG0 ?_
      try clear hG0 G0
      have hil : i < kvs.length := by simpa [zs] using h1
      rw [List.getElem?_eq_getElem hil] at hy
      cases hy
      simp only [zs, List.getElem_map, Array.getElem_toList]
      rw [e]
      exact congrArg Prod.fst hyk
    · obtain ⟨i, hi, e⟩ := List.getElem_of_mem hv
      have hi' : i < acc.size := by simpa using hi
      refine hide fun G0 hG0 => ?_
      obtain ⟨k, x, hk, hkv⟩ := hacc.2 i _ (Array.getElem?_eq_getElem hi')
      obtain ⟨tt, e'⟩ := Value.isInt_shape hkv
      refine hG0 ?_
      try clear hG0 G0
      exact ⟨k, tt, by rw [← e, Array.getElem_toList]; exact e'⟩
  have hlt := Heap.lt_size eb
  have hbS : b ≠ s.heap.objs.size := Nat.ne_of_lt hlt
  have hbI : b ≠ I := Nat.ne_of_lt (Nat.lt_trans hlt hI)
  exact hm.heap b o (by simp [hbS, hbI]) (oth b o hbS (hpush b o (hold b o eb)))
theorem rd_sorted {Q : Value → Shared → Prop} {j : Nat} (hr : RoomOk A j) (F : Fr g L s.heap m) (N : News g L s.heap news) (hm : (D, o) ∈ news) (hd : DI w o kvs) (lo : (D == sysModules) = false) (hz : kvs.length ≤ 60)
    (h : ∀ D' e vs ks h' tk, Fr g L h' m → News g L h' ((D', Mine.lo vs e) :: news) → (∀ p ∈ news, p.1 < D') → IntsAre vs (zs ks) → ks.Perm (kvs.map (·.1)) → Q (.ref D') { s with heap := h', toks := tk }) :
    wpAny (model P w) A (call (.builtin "sorted") [.ref D]) Q E s := by
  refine Calls.call_function_entry kind_sorted plain_sorted entry_sorted (args_sorted1 _) ?_
  unfold Builtin.«sorted»
  refine wpAny_bind (m := checkCount "sorted" 1 1 _) (wpAny_pure ?_)
  refine wpAny_bind (collect_dict hr.hh (N _ hm).1 hd lo (by lia) fun acc h₁ tk hi hold => ?_)
  have hlen : acc.length = kvs.length := by rw [IntsAre.len hi]; simp
  refine wpAny_bind (wpAny_newList ?_ (by rw [sizeLine_eq]; lia))
  have hoL : (h₁.push (seqObj "list" acc.toArray 0)).get? h₁.objs.size = some (seqObj "list" acc.toArray 0) := Heap.get?_push_size _ rfl
  refine wpAny_bind (wpAny_holding (wpAny_call_entry slot_list_sort ⟨_, hoL, rfl⟩ entry_list_sort (list_sort_tree hoL hi (by lia) fun out ns' a1 a2 a3 => ⟨_, rfl, ?_⟩) (args_list_sort _)))
  refine wpAny_pure ⟨_, rfl, ?_⟩
  refine hide fun G0 hG0 => ?_
  obtain ⟨e, he⟩ := sortedHeap_at (out := out) hoL
  have F1 := fr_old F hold
  have N1 := news_old N hold
  have hLl : L < h₁.objs.size := F1.ns.lt
  have old2 : ∀ b o, h₁.get? b = some o → (sortedHeap (h₁.push (seqObj "list" acc.toArray 0)) h₁.objs.size acc out).get? b = some o := fun b o eb => by
    have hlt := Heap.lt_size eb
    rw [sortedHeap_old (Nat.ne_of_lt hlt) (by rw [Heap.size_push]; exact Nat.lt_succ_of_lt hlt), Heap.get?_push_ne _ _ _ (Nat.ne_of_lt hlt)]
    exact eb
  obtain ⟨ks, rfl, _⟩ := zs_of (ks := ns') (ns := kvs.map (·.1)) fun k hk => a2.mem_iff.mp hk
  refine hG0 ?_
  try clear hG0 G0
  refine h _ e out.toList ks _ tk (fr_old F1 old2) (fun p hp => ?_) (fun p hp => Heap.lt_size (N1 p hp).1) a1 ?_
  · rcases List.mem_cons.mp hp with rfl | hp
    · exact ⟨he, Nat.ne_of_gt hLl, Heap.get?_none_of_le (Nat.le_trans F.above (Nat.le_of_lt hLl))⟩
    · exact news_old N1 old2 p hp
  · exact perm_zs a2
theorem nilN : IntsAre [] (zs []) := .nil
theorem rl_neB {us vs : List Value} {ns ms : List Nat} {n k j : Nat} {a b : Addr} {c : Bool} {Q : Value → Shared → Prop} (hr : RoomOk A j) (N : News g L s.heap news) (hm : (a, Mine.lo us n) ∈ news) (hb : (b, Mine.lo vs k) ∈ news) (hi : IntsAre us (zs ns)) (hi' : IntsAre vs (zs ms)) (hc : decide (ns ≠ ms) = c) (h : Q (.bool c) s) :
    wpAny (model P w) A (compareOp .NotEq (.ref a) (.ref b)) Q E s := by
  subst hc
  have hun := hr.un
  have hcl : cLine = 9900 := rfl
  refine ne_intsK (rl_list N hm) hi (rl_list N hb) hi' (by lia) ?_
  have e : (!decide (zs ns = zs ms)) = decide (ns ≠ ms) := by
    by_cases q : ns = ms
    · subst q; simp
    · have : ¬ zs ns = zs ms := fun h => q (zs_inj h)
      simp [q, this]
  rw [e]; exact h
theorem rl_unpackItems {us : List Value} {n k j : Nat} {Q : List Value → Shared → Prop} (hr : RoomOk A j) (F : Fr g L s.heap m) (N : News g L s.heap news) (hm : (D, tu us k) ∈ news) (hn : n = us.length)
    (h : ∀ h', Fr g L h' m → News g L h' news → Q us { s with heap := h' }) : wpAny (model P w) A (unpackItems (.ref D) n none) Q E s :=
  unpackItemsN_ F N (rl_tup N hm) hr.hh (by rw [hn, List.size_toArray]) h
end
/-- what is reached by steps of R -/
inductive Rch (R : Nat → Nat → Prop) (a : Nat) : Nat → Prop
  | refl : Rch R a a
  | step {b c : Nat} : Rch R a b → R b c → Rch R a c
structure RI (R : Nat → Nat → Prop) (a n : Nat) (sk ws : List Nat) : Prop where
  hs : ∀ y ∈ sk, Rch R a y ∧ y < n
  hw : ∀ y ∈ ws, Rch R a y ∧ y < n
  cl : ∀ y ∈ sk, ∀ z, R y z → z ∈ sk ∨ z ∈ ws
  st : a ∈ sk ∨ a ∈ ws
  nd : sk.Nodup
theorem RI.len {R : Nat → Nat → Prop} {a n : Nat} {sk ws : List Nat} (h : RI R a n sk ws) : sk.length ≤ n := by
  have := len_sub sk (List.range n) h.nd fun x hx => List.mem_range.mpr (h.hs x hx).2
  simpa using this
theorem RI.old {R : Nat → Nat → Prop} {a n y : Nat} {sk ws : List Nat} (h : RI R a n sk (ws ++ [y])) (hy : y ∈ sk) : RI R a n sk ws where
  hs := h.hs
  hw := fun z hz => h.hw z (List.mem_append_left _ hz)
  cl := fun z hz u hu => (h.cl z hz u hu).elim .inl fun q => (List.mem_append.mp q).elim .inr fun q => .inl (by rw [List.mem_singleton.mp q]; exact hy)
  st := h.st.elim .inl fun q => (List.mem_append.mp q).elim .inr fun q => .inl (by rw [List.mem_singleton.mp q]; exact hy)
  nd := h.nd
theorem RI.new {R : Nat → Nat → Prop} {a n y : Nat} {sk ws ks : List Nat} (h : RI R a n sk (ws ++ [y])) (hy : y ∉ sk) (hk : ∀ z, z ∈ ks ↔ R y z) (hn : ∀ z ∈ ks, z < n) : RI R a n (sk ++ [y]) (ws ++ ks) where
  hs := fun z hz => (List.mem_append.mp hz).elim (h.hs z) fun q => by rw [List.mem_singleton.mp q]; exact h.hw y (by simp)
  hw := fun z hz => (List.mem_append.mp hz).elim (fun q => h.hw z (List.mem_append_left _ q)) fun q => ⟨(h.hw y (by simp)).1.step ((hk z).mp q), hn z q⟩
  cl := fun z hz u hu => by
    rcases List.mem_append.mp hz with q | q
    · rcases h.cl z q u hu with q2 | q2
      · exact .inl (List.mem_append_left _ q2)
      · rcases List.mem_append.mp q2 with q3 | q3
        · exact .inr (List.mem_append_left _ q3)
        · exact .inl (List.mem_append_right _ q3)
    · rw [List.mem_singleton.mp q] at hu
      exact .inr (List.mem_append_right _ ((hk u).mpr hu))
  st := h.st.elim (fun q => .inl (List.mem_append_left _ q)) fun q => (List.mem_append.mp q).elim (fun q => .inr (List.mem_append_left _ q)) fun q => .inl (List.mem_append_right _ q)
  nd := by
    rw [List.nodup_append]
    exact ⟨h.nd, by simp, fun x hx z hz => by rw [List.mem_singleton.mp hz]; rintro rfl; exact hy hx⟩
theorem RI.done {R : Nat → Nat → Prop} {a n : Nat} {sk : List Nat} (h : RI R a n sk []) (y : Nat) : y ∈ sk ↔ Rch R a y := by
  refine ⟨fun hy => (h.hs y hy).1, fun hy => ?_⟩
  induction hy with
  | refl => exact h.st.elim id fun q => by cases q
  | step _ hr ih => exact (h.cl _ ih _ hr).elim id fun q => by cases q
theorem isNone_keys {sk : List Nat} {y : Nat} {v : Value} : lk (sk.map fun k => (k, v)) y = none ↔ y ∉ sk := by
  rw [lk_none, List.map_map]
  have : ((fun x : Nat × Value => x.1) ∘ fun k => (k, v)) = id := rfl
  rw [this, List.map_id]
theorem intsAre_snoc {us : List Value} {ns : List Nat} {y : Nat} (h : IntsAre us (zs (ns ++ [y]))) : ∃ us' t, us = us' ++ [.int (y : Int) t] ∧ IntsAre us' (zs ns) := by
  obtain ⟨e, q⟩ := intsAre_iff.mp h
  rw [zs, List.map_append] at e
  rcases List.eq_nil_or_concat us with rfl | ⟨us', v, rfl⟩
  · have := congrArg List.length e
    simp at this
  · rw [List.concat_eq_append] at e q ⊢
    rw [List.map_append] at e
    refine hide fun G0 hG0 => ?_
    obtain ⟨e1, e2⟩ := List.append_inj' e rfl
    obtain ⟨k, t, rfl⟩ := q v (by simp)
    refine hG0 ?_
    try clear hG0 G0
    simp [vi] at e2
    subst e2
    exact ⟨us', t, rfl, intsAre_iff.mpr ⟨e1, fun u hu => q u (List.mem_append_left _ hu)⟩⟩
section
variable {w : World} {A : Around} {g : PySem.Heap} {L : Addr} {m mg mb : PySem.Str → Option Value} {s : Shared} {news : List (Addr × Obj)} {p : Program} {loose : List PySem.Str} {a : HA} {G dG : Addr} {nodes : List (PySem.Str × List Nat)} {st : USt} {rt : Nat → Nat} {E : Value → Shared → Prop}
theorem KK_lt (O : OkC a nodes st rt) (OL : OkL nodes st rt) {x y : Nat} (h : KK nodes st rt x y) : y < nodes.length := by
  refine hide fun G0 hG0 => ?_
  obtain ⟨l, hl, j, hj, hy⟩ := h
  refine hG0 ?_
  try clear hG0 G0
  exact (img_kids O ((OL.lots l (List.mem_of_getElem? hl)).2 j hj) hy).2
inductive GrI (w : World) (s : Shared) (g' : PySem.Heap) (L' G : Addr) (nodes : List (PySem.Str × List Nat)) (st : USt) (rt : Nat → Nat) (x : Nat) (news : List (Addr × Obj)) (k : Nat) (s' : Shared) : Prop
  | mk (sm : Sm s s') (m' : PySem.Str → Option Value) (newsI : List (Addr × Obj)) (SD : Addr) (WL : Addr) (o : Obj) (us : List Value) (nW : Nat) (sk : List Nat) (ws : List Nat) (h0 : m' "self" = some (.ref G)) (h1 : m' "seen" = some (.ref SD)) (h2 : m' "waiting" = some (.ref WL)) (h3 : Fr g' L' s'.heap m') (h4 : News g' L' s'.heap newsI) (h5 : (SD, o) ∈ newsI) (h6 : (WL, lo us nW) ∈ newsI) (h7 : DI w o (sk.map fun k => (k, .bool true))) (h8 : IntsAre us (zs ws)) (h9 : (SD == sysModules) = false) (h10 : SD ≠ WL) (h11 : (∀ p ∈ news, p ∈ newsI ∧ p.1 ≠ SD ∧ p.1 ≠ WL)) (h12 : RI (KK nodes st rt) (rt x) nodes.length sk ws) (h13 : 17 * (16 - sk.length) + ws.length ≤ 17 * 16 + 1) (h14 : k = 17 * (16 - sk.length) + ws.length) : GrI w s g' L' G nodes st rt x news k s'
set_option maxHeartbeats 8000000 in
theorem greached_ok {x : Nat} {tx : Tok} {Q : Value → Shared → Prop}
   (F : Fr g L s.heap m) (N : News g L s.heap news) (X : (hd.heap_39 w.params).In g) (T : TopRead p loose mg mb g) (hr : RoomOk A 8)
   (R : RepG w news G dG a nodes st) (O : OkC a nodes st rt) (OL : OkL nodes st rt) (hx : x < nodes.length)
   (h : ∀ s' D e vs ks, Sm s s' → Fr g L s'.heap m → News g L s'.heap ((D, lo vs e) :: news) → (∀ p ∈ news, p.1 ≠ D) → IntsAre vs (zs ks) → ks.Nodup → (∀ y, y ∈ ks ↔ Rch (KK nodes st rt) (rt x) y) → Q (.ref D) s') :
   wpAny (model P w) A (call (.ref 68) [.ref G, .int x tx]) Q E s := by
  refine bd [("self", .ref G), ("c", .int x tx)] ?_
  (refine' callP ?zF ?zN ?zX ?zT ?zR ?k6 ?k7 ?k9 ?kB ?_ ?c5 ?c2 ?c3 ?c4; (case zF | zN | zX | zR => assumption); (case zT => apply TopRead.nolimit; assumption); (case k6 | k7 => k_is); (case k9 | kB | c2 | c3 | c4 => exact rfl); (case c5 => decide); intros)
  rename_i g' L' h' stay X' hr' F' N'
  have T' := T.keeps stay
  have hG := R.hG
  refine hide fun G0 hG0 => ?_
  obtain ⟨t0, n0, hdG⟩ := R.hd
  have hH := R.rc.hH
  obtain ⟨t1, t2, t3, t4, t5, t6, t7, t8, t9, n', hdH⟩ := R.rc.hd
  refine hG0 ?_
  try clear hG0 G0
  clear X T F N
  repeat' (first | (guard_target = wpAny _ _ (compareOp CmpOp.NotEq (Value.ref _) (Value.ref _)) _ _ _; refine' rl_neB ?zr ?zN ?zm ?zl ?zi ?zj ?zk ?_; (case zr => with_reducible assumption); walk_at "aNm"; (case zl => k_mem); (case zi | zj => first | with_reducible assumption | exact nilN); (case zk => first | (show _ = true; simp; done) | (show _ = false; simp; done) | exact rfl)) | (guard_target = wpAny _ _ (compareOp CmpOp.Eq (Value.ref _) (Value.ref _)) _ _ _; refine' rl_eqB ?zr ?zN ?zm ?zl ?zi ?zj ?zk ?_; (case zr => with_reducible assumption); walk_at "aNm"; (case zl => k_mem); (case zi | zj => first | with_reducible assumption | exact nilN); (case zk => first | with_reducible assumption | exact rfl)) | walk_at "mine")
  have ltS := ltW
  have diS := diW
  have loS := loW
  refine hfind_ok (by assumption) (by assumption) X' T' (hr'.less (by decide)) (R.rc.mono fun q hq => List.mem_cons_of_mem _ hq) O hx fun t10 s1 sm1 F1 N1 => ?_
  clear F' N'
  repeat' (first | (guard_target = wpAny _ _ (compareOp CmpOp.NotEq (Value.ref _) (Value.ref _)) _ _ _; refine' rl_neB ?zr ?zN ?zm ?zl ?zi ?zj ?zk ?_; (case zr => with_reducible assumption); walk_at "aNm"; (case zl => k_mem); (case zi | zj => first | with_reducible assumption | exact nilN); (case zk => first | (show _ = true; simp; done) | (show _ = false; simp; done) | exact rfl)) | (guard_target = wpAny _ _ (compareOp CmpOp.Eq (Value.ref _) (Value.ref _)) _ _ _; refine' rl_eqB ?zr ?zN ?zm ?zl ?zi ?zj ?zk ?_; (case zr => with_reducible assumption); walk_at "aNm"; (case zl => k_mem); (case zi | zj => first | with_reducible assumption | exact nilN); (case zk => first | with_reducible assumption | exact rfl)) | ((fail_if_success guard_target = wpAny _ _ (exec (Stmt.While _ _ _ _) _) _ _ _); (fail_if_success guard_target = wpAny _ _ (exec (Stmt.For _ _ _ _ _) _) _ _ _); walk_at "mine"))
  refine while_walk (GrI w s g' L' G nodes st rt x news)
    (17 * 16 + 1) ?start ?_
  case start =>
    refine' ⟨⟨sm1.1, sm1.2⟩, _, _, _, _, _, _, _, [], [rt x], ?e1, ?e2, ?e3, ?eF, ?eN, ?eS, ?eW, ?ed, intsAre_one _ _, ?el, ?i1, ?i2, ?i3, Nat.le_refl _, rfl⟩
    case eF => assumption
    case eN => assumption
    case e1 => walk_at "mloc"
    case e2 => walk_at "mloc"
    case e3 => walk_at "mloc"
    case ed => exact diS
    case eS => k_mem
    case eW => k_mem
    case el => exact loS
    case i1 => exact Nat.ne_of_lt (‹∀ p : Addr × Obj, p ∈ _ :: news → @LT.lt Nat _ p.1 _› _ (.head _))
    case i2 =>
      intro q hq
      exact ⟨List.mem_cons_of_mem _ (List.mem_cons_of_mem _ (List.mem_cons_of_mem _ hq)), Nat.ne_of_lt (ltS q hq), Nat.ne_of_lt (‹∀ p : Addr × Obj, p ∈ _ :: news → @LT.lt Nat _ p.1 _› q (List.mem_cons_of_mem _ hq))⟩
    case i3 =>
      refine ⟨fun y hy => by (cases hy), fun y hy => ?_, fun y hy => by (cases hy), .inr (.head _), List.nodup_nil⟩
      rw [List.mem_singleton.mp hy]
      exact ⟨.refl, by rw [O.nn]; exact (O.ok.rr x (by rw [← O.nn]; exact hx)).1⟩
  rintro k s' ⟨sm, m', newsI, SD, WL, o, us, nW, sk, ws, e1, e2, e3, F', N', hS, hW, dS, iW, loS, hSW, hsub, hRI, hMz, rfl⟩ Z hZ
  clear hG hdG hH hdH
  have R3 := R.mono fun q hq => (hsub q hq).1
  have hG := R3.hG
  obtain ⟨t0, n0, hdG⟩ := R3.hd
  have hskl := hRI.len
  have hsm := OL.small
  rcases List.eq_nil_or_concat ws with rfl | ⟨ws', y, rfl⟩
  · repeat' (first | (guard_target = wpAny _ _ (compareOp CmpOp.NotEq (Value.ref _) (Value.ref _)) _ _ _; refine' rl_neB ?zr ?zN ?zm ?zl ?zi ?zj ?zk ?_; (case zr => with_reducible assumption); walk_at "aNm"; (case zl => k_mem); (case zi | zj => first | with_reducible assumption | exact nilN); (case zk => first | (show _ = true; simp; done) | (show _ = false; simp; done) | exact rfl)) | (guard_target = wpAny _ _ (compareOp CmpOp.Eq (Value.ref _) (Value.ref _)) _ _ _; refine' rl_eqB ?zr ?zN ?zm ?zl ?zi ?zj ?zk ?_; (case zr => with_reducible assumption); walk_at "aNm"; (case zl => k_mem); (case zi | zj => first | with_reducible assumption | exact nilN); (case zk => first | with_reducible assumption | exact rfl)) | ((fail_if_success guard_target = wpAny _ _ (exec (Stmt.While _ _ _ _) _) _ _ _); (fail_if_success guard_target = wpAny _ _ (exec (Stmt.For _ _ _ _ _) _) _ _ _); walk_at "mine"))
    refine rd_sorted hr' (by assumption) (by assumption) (List.mem_cons_of_mem _ hS) dS loS (by rw [List.length_map]; lia) fun D9 e9 vs9 ks9 h9 tk9 F9 N9 lt9 hi9 hp9 => ?_
    rw [List.map_map, show ((fun x : Nat × Value => x.1) ∘ fun k => (k, Value.bool true)) = id from rfl, List.map_id] at hp9
    refine lv_ret F9 N9 fun F10 N10 => h _ D9 e9 vs9 ks9 ⟨sm.1, sm.2⟩ F10 (nsub N10 fun q hq => ?_) (fun q hq => Nat.ne_of_lt (lt9 q (List.mem_cons_of_mem _ (hsub q hq).1))) hi9 (hp9.nodup_iff.mpr hRI.nd) fun y => by rw [hp9.mem_iff, hRI.done]
    rcases List.mem_cons.mp hq with rfl | hq
    · exact .head _
    · exact List.mem_cons_of_mem _ (List.mem_cons_of_mem _ (hsub q hq).1)
  · rw [List.concat_eq_append] at *
    refine hide fun G0 hG0 => ?_
    obtain ⟨us', ty, rfl, iW'⟩ := intsAre_snoc iW
    refine hG0 ?_
    try clear hG0 G0
    have hwl := IntsAre.len iW'
    have hWL := hW
    have hy := hRI.hw y (by simp)
    have hwz : ws'.length ≤ 17 * 16 := by rw [List.length_append] at hMz; simp at hMz; lia
    repeat' (first | (guard_target = wpAny _ _ (compareOp CmpOp.NotEq (Value.ref _) (Value.ref _)) _ _ _; refine' rl_neB ?zr ?zN ?zm ?zl ?zi ?zj ?zk ?_; (case zr => with_reducible assumption); walk_at "aNm"; (case zl => k_mem); (case zi | zj => first | with_reducible assumption | exact nilN); (case zk => first | (show _ = true; simp; done) | (show _ = false; simp; done) | exact rfl)) | (guard_target = wpAny _ _ (compareOp CmpOp.Eq (Value.ref _) (Value.ref _)) _ _ _; refine' rl_eqB ?zr ?zN ?zm ?zl ?zi ?zj ?zk ?_; (case zr => with_reducible assumption); walk_at "aNm"; (case zl => k_mem); (case zi | zj => first | with_reducible assumption | exact nilN); (case zk => first | with_reducible assumption | exact rfl)) | ((fail_if_success guard_target = wpAny _ _ (exec (Stmt.While _ _ _ _) _) _ _ _); (fail_if_success guard_target = wpAny _ _ (exec (Stmt.For _ _ _ _ _) _) _ _ _); walk_at "mine"))
    refine rl_pop (news := newsI) (by assumption) (nsub NW fun q hq => List.mem_cons_of_mem _ hq) hWL (by lia) fun h3 n3 F3 N3 => ?_
    clear FW NW F' N' ltW
    have hS3 := upd_ne (a := WL) (o := lo us' n3) hS hSW
    have hW3 := upd_self (o' := lo us' n3) hWL
    have hsub3 : ∀ q ∈ news, q ∈ upd WL (lo us' n3) newsI ∧ q.1 ≠ SD ∧ q.1 ≠ WL := fun q hq => ⟨upd_ne (hsub q hq).1 (hsub q hq).2.2, (hsub q hq).2⟩
    clear hG hdG R3
    have R3 := R.mono fun q hq => (hsub3 q hq).1
    have hG := R3.hG
    obtain ⟨t0, n0, hdG⟩ := R3.hd
    generalize upd WL (lo us' n3) newsI = news3 at *
    by_cases hys : y ∈ sk
    · obtain ⟨b, hb⟩ : ∃ b, lk (sk.map fun k => (k, Value.bool true)) y = some b := by
        cases q : lk (sk.map fun k => (k, Value.bool true)) y with
        | none => exact absurd hys (isNone_keys.mp q)
        | some b => exact ⟨b, rfl⟩
      repeat' (first | (guard_target = wpAny _ _ (compareOp CmpOp.NotEq (Value.ref _) (Value.ref _)) _ _ _; refine' rl_neB ?zr ?zN ?zm ?zl ?zi ?zj ?zk ?_; (case zr => with_reducible assumption); walk_at "aNm"; (case zl => k_mem); (case zi | zj => first | with_reducible assumption | exact nilN); (case zk => first | (show _ = true; simp; done) | (show _ = false; simp; done) | exact rfl)) | (guard_target = wpAny _ _ (compareOp CmpOp.Eq (Value.ref _) (Value.ref _)) _ _ _; refine' rl_eqB ?zr ?zN ?zm ?zl ?zi ?zj ?zk ?_; (case zr => with_reducible assumption); walk_at "aNm"; (case zl => k_mem); (case zi | zj => first | with_reducible assumption | exact nilN); (case zk => first | with_reducible assumption | exact rfl)) | ((fail_if_success guard_target = wpAny _ _ (exec (Stmt.While _ _ _ _) _) _ _ _); (fail_if_success guard_target = wpAny _ _ (exec (Stmt.For _ _ _ _ _) _) _ _ _); walk_at "mine"))
      rw [List.length_append] at hMz hZ
      refine nx <| hZ _ ⟨17 * (16 - sk.length) + ws'.length, by simp, ⟨sm.1, sm.2⟩, _, _, SD, WL, o, us', n3, sk, ws', ?_, ?_, ?_, by assumption, by assumption, hS3, hW3, dS, iW', loS, hSW, hsub3, hRI.old hys, by simp at hMz; lia, rfl⟩
      · exact (if_neg (by decide)).trans e1
      · exact (if_neg (by decide)).trans e2
      · exact (if_neg (by decide)).trans e3
    · have hb := isNone_keys (v := .bool true).mpr hys
      repeat' (first | (guard_target = wpAny _ _ (compareOp CmpOp.NotEq (Value.ref _) (Value.ref _)) _ _ _; refine' rl_neB ?zr ?zN ?zm ?zl ?zi ?zj ?zk ?_; (case zr => with_reducible assumption); walk_at "aNm"; (case zl => k_mem); (case zi | zj => first | with_reducible assumption | exact nilN); (case zk => first | (show _ = true; simp; done) | (show _ = false; simp; done) | exact rfl)) | (guard_target = wpAny _ _ (compareOp CmpOp.Eq (Value.ref _) (Value.ref _)) _ _ _; refine' rl_eqB ?zr ?zN ?zm ?zl ?zi ?zj ?zk ?_; (case zr => with_reducible assumption); walk_at "aNm"; (case zl => k_mem); (case zi | zj => first | with_reducible assumption | exact nilN); (case zk => first | with_reducible assumption | exact rfl)) | ((fail_if_success guard_target = wpAny _ _ (exec (Stmt.While _ _ _ _) _) _ _ _); (fail_if_success guard_target = wpAny _ _ (exec (Stmt.For _ _ _ _ _) _) _ _ _); walk_at "mine"))
      refine rd_set (by assumption) (by assumption) hS3 dS (by rw [List.length_map]; lia) fun o4 h4 F4 N4 d4 => ?_
      dsimp only
      rw [put_new hb] at d4
      have d5 : DI w o4 ((sk ++ [y]).map fun k => (k, .bool true)) := by rw [List.map_append]; exact d4
      clear d4
      have hS4 := upd_self (o' := o4) hS3
      have hW4 := upd_ne (a := SD) (o := o4) hW3 hSW.symm
      have hsub4 : ∀ q ∈ news, q ∈ upd SD o4 news3 ∧ q.1 ≠ SD ∧ q.1 ≠ WL := fun q hq => ⟨upd_ne (hsub3 q hq).1 (hsub3 q hq).2.1, (hsub3 q hq).2⟩
      clear hG hdG R3
      have R3 := R.mono fun q hq => (hsub4 q hq).1
      have hG := R3.hG
      obtain ⟨t0, n0, hdG⟩ := R3.hd
      generalize upd SD o4 news3 = news4 at *
      repeat' (first | (guard_target = wpAny _ _ (compareOp CmpOp.NotEq (Value.ref _) (Value.ref _)) _ _ _; refine' rl_neB ?zr ?zN ?zm ?zl ?zi ?zj ?zk ?_; (case zr => with_reducible assumption); walk_at "aNm"; (case zl => k_mem); (case zi | zj => first | with_reducible assumption | exact nilN); (case zk => first | (show _ = true; simp; done) | (show _ = false; simp; done) | exact rfl)) | (guard_target = wpAny _ _ (compareOp CmpOp.Eq (Value.ref _) (Value.ref _)) _ _ _; refine' rl_eqB ?zr ?zN ?zm ?zl ?zi ?zj ?zk ?_; (case zr => with_reducible assumption); walk_at "aNm"; (case zl => k_mem); (case zi | zj => first | with_reducible assumption | exact nilN); (case zk => first | with_reducible assumption | exact rfl)) | ((fail_if_success guard_target = wpAny _ _ (exec (Stmt.While _ _ _ _) _) _ _ _); (fail_if_success guard_target = wpAny _ _ (exec (Stmt.For _ _ _ _ _) _) _ _ _); walk_at "mine"))
      refine gkids_ok (by assumption) (by assumption) X' T' hr' R3 O OL hy.2 fun s5 D5 e5 vs5 ks5 sm5 F5 N5 hD5 hi5 hnd5 hl5 hk5 => ?_
      repeat' (first | (guard_target = wpAny _ _ (compareOp CmpOp.NotEq (Value.ref _) (Value.ref _)) _ _ _; refine' rl_neB ?zr ?zN ?zm ?zl ?zi ?zj ?zk ?_; (case zr => with_reducible assumption); walk_at "aNm"; (case zl => k_mem); (case zi | zj => first | with_reducible assumption | exact nilN); (case zk => first | (show _ = true; simp; done) | (show _ = false; simp; done) | exact rfl)) | (guard_target = wpAny _ _ (compareOp CmpOp.Eq (Value.ref _) (Value.ref _)) _ _ _; refine' rl_eqB ?zr ?zN ?zm ?zl ?zi ?zj ?zk ?_; (case zr => with_reducible assumption); walk_at "aNm"; (case zl => k_mem); (case zi | zj => first | with_reducible assumption | exact nilN); (case zk => first | with_reducible assumption | exact rfl)) | ((fail_if_success guard_target = wpAny _ _ (exec (Stmt.While _ _ _ _) _) _ _ _); (fail_if_success guard_target = wpAny _ _ (exec (Stmt.For _ _ _ _ _) _) _ _ _); walk_at "mine"))
      refine rl_extend F5 N5 (List.mem_cons_of_mem _ hW4) (.head _) (by rw [IntsAre.len iW', IntsAre.len hi5]; lia) fun h6 n6 F6 N6 => ?_
      repeat' (first | (guard_target = wpAny _ _ (compareOp CmpOp.NotEq (Value.ref _) (Value.ref _)) _ _ _; refine' rl_neB ?zr ?zN ?zm ?zl ?zi ?zj ?zk ?_; (case zr => with_reducible assumption); walk_at "aNm"; (case zl => k_mem); (case zi | zj => first | with_reducible assumption | exact nilN); (case zk => first | (show _ = true; simp; done) | (show _ = false; simp; done) | exact rfl)) | (guard_target = wpAny _ _ (compareOp CmpOp.Eq (Value.ref _) (Value.ref _)) _ _ _; refine' rl_eqB ?zr ?zN ?zm ?zl ?zi ?zj ?zk ?_; (case zr => with_reducible assumption); walk_at "aNm"; (case zl => k_mem); (case zi | zj => first | with_reducible assumption | exact nilN); (case zk => first | with_reducible assumption | exact rfl)) | ((fail_if_success guard_target = wpAny _ _ (exec (Stmt.While _ _ _ _) _) _ _ _); (fail_if_success guard_target = wpAny _ _ (exec (Stmt.For _ _ _ _ _) _) _ _ _); walk_at "mine"))
      have hlen := (hRI.new hys hk5 fun z hz => KK_lt O OL ((hk5 z).mp hz)).len
      have hRI2 := hRI.new hys hk5 fun z hz => KK_lt O OL ((hk5 z).mp hz)
      rw [List.length_append] at hlen
      simp only [List.length_singleton] at hlen
      refine nx <| hZ _ ⟨17 * (16 - (sk ++ [y]).length) + (ws' ++ ks5).length, ?_, ⟨sm5.1.trans sm.1, sm5.2.trans sm.2⟩, _, _, SD, WL, o4, us' ++ vs5, n6, sk ++ [y], ws' ++ ks5, ?_, ?_, ?_, by assumption, by assumption, upd_ne (List.mem_cons_of_mem _ hS4) hSW, upd_self (List.mem_cons_of_mem _ hW4), d5, intsAre_append iW' hi5, loS, hSW,
        fun q hq => ⟨upd_ne (List.mem_cons_of_mem _ (hsub4 q hq).1) (hsub4 q hq).2.2, (hsub4 q hq).2⟩, hRI2, ?_, rfl⟩
      · simp only [List.length_append, List.length_singleton]; lia
      · exact (if_neg (by decide)).trans e1
      · exact (if_neg (by decide)).trans e2
      · exact (if_neg (by decide)).trans e3
      · simp only [List.length_append, List.length_singleton] at hMz ⊢; lia
end
section
variable {w : World} {A : Around} {g : PySem.Heap} {L D : Addr} {m mg mb : PySem.Str → Option Value} {s : Shared} {news : List (Addr × Obj)} {p : Program} {loose : List PySem.Str} {us : List Value} {ns : List Nat} {n : Nat} {E : Value → Shared → Prop}
/-- the greatest of a list, 0 for none -/
noncomputable def mx (l : List Nat) : Nat := l.foldl max 0
theorem mx_go : ∀ (l : List Nat) (a : Nat), a ≤ l.foldl max a ∧ (∀ x ∈ l, x ≤ l.foldl max a) ∧ (l.foldl max a = a ∨ l.foldl max a ∈ l)
  | [], a => ⟨Nat.le_refl _, fun x hx => (nomatch hx), .inl rfl⟩
  | y :: l, a => by
    obtain ⟨h1, h2, h3⟩ := mx_go l (max a y)
    rw [List.foldl_cons]
    refine ⟨by lia, fun x hx => ?_, ?_⟩
    · rcases List.mem_cons.mp hx with rfl | hx
      · lia
      · exact h2 x hx
    · rcases h3 with h3 | h3
      · rw [h3]
        by_cases q : a ≤ y
        · rw [Nat.max_eq_right q]; exact .inr (.head _)
        · rw [Nat.max_eq_left (by lia)]; exact .inl rfl
      · exact .inr (.tail _ h3)
theorem mx_ge {l : List Nat} {x : Nat} (h : x ∈ l) : x ≤ mx l := (mx_go l 0).2.1 x h
theorem mx_in (l : List Nat) : mx l = 0 ∨ mx l ∈ l := (mx_go l 0).2.2
theorem mx_of {l : List Nat} {M : Int} (h1 : M ∈ zs (l ++ [0])) (h2 : ∀ a, a ∈ zs (l ++ [0]) → a ≤ M) : M = (mx l : Int) := by
  obtain ⟨k, hk, rfl⟩ := List.mem_map.mp h1
  have a1 : (mx l : Int) ≤ (k : Int) := h2 _ (zs_mem.mpr (by
    rcases mx_in l with q | q
    · rw [q]; simp
    · exact List.mem_append_left _ q))
  have a2 : k ≤ mx l := by
    rcases List.mem_append.mp hk with q | q
    · exact mx_ge q
    · rw [List.mem_singleton.mp q]; exact Nat.zero_le _
  lia
set_option maxHeartbeats 8000000 in
theorem over_ok {Q : Value → Shared → Prop}
   (F : Fr g L s.heap m) (N : News g L s.heap news) (X : (hd.heap_39 w.params).In g) (T : TopRead p loose mg mb g) (hr : RoomOk A 1)
   (hm : (D, lo us n) ∈ news) (hi : IntsAre us (zs ns)) (hz : ns.length ≤ 60) (hb : ∀ x ∈ ns, x ≤ 1000)
   (h : ∀ t s', Sm s s' → Fr g L s'.heap m → News g L s'.heap news → Q (.int ((1 + mx ns : Nat) : Int) t) s') :
   wpAny (model P w) A (call (.ref 28) [.ref D]) Q E s := by
  refine bd [("kids", .ref D)] ?_
  (refine' callP ?zF ?zN ?zX ?zT ?zR ?k6 ?k7 ?k9 ?kB ?_ ?c5 ?c2 ?c3 ?c4; (case zF | zN | zX | zR => assumption); (case zT => apply TopRead.nolimit; assumption); (case k6 | k7 => k_is); (case k9 | kB | c2 | c3 | c4 => exact rfl); (case c5 => decide); intros)
  rename_i g' L' h' stay X' hr' F' N'
  have T' := T.keeps stay
  have hul := IntsAre.len hi
  have hzu : us.length + [Value.int 0 0].length ≤ 100000 := by simp; lia
  clear X T F N
  repeat' ((fail_if_success guard_target = wpAny _ _ (exec (Stmt.While _ _ _ _) _) _ _ _); (fail_if_success guard_target = wpAny _ _ (exec (Stmt.For _ _ _ _ _) _) _ _ _); walk_at "mine")
  have hi2 := intsAre_append hi (intsAre_one 0 (s.toks + [((Str.ofString "kids" : PySem.Str), Value.ref D)].length + 1))
  refine max_list_N hr'.hh (by assumption) (by assumption) (rl_list NW (.head _)) hi2 (by simp [zs]) fun h9 M t9 tk9 F9 N9 hM1 hM2 => ?_
  have hM := mx_of hM1 hM2
  subst hM
  repeat' ((fail_if_success guard_target = wpAny _ _ (exec (Stmt.While _ _ _ _) _) _ _ _); (fail_if_success guard_target = wpAny _ _ (exec (Stmt.For _ _ _ _ _) _) _ _ _); walk_at "mine")
  have e : (1 : Int) + (mx ns : Int) = ((1 + mx ns : Nat) : Int) := by lia
  rw [e]
  exact lv_ret (by assumption) (by assumption) fun F10 N10 => h _ _ ⟨rfl, rfl⟩ F10 (nsub N10 fun q hq => List.mem_cons_of_mem _ (List.mem_cons_of_mem _ hq))
end
/-! ### paths and depths -/
noncomputable def Pth (R : Nat → Nat → Prop) : Nat → Nat → Nat → Prop
  | 0, c, z => c = z
  | i + 1, c, z => ∃ y, R c y ∧ Pth R i y z
/-- d is the least length that no path from c has -/
noncomputable def Dep (R : Nat → Nat → Prop) (c d : Nat) : Prop := (∀ z, ¬ Pth R d c z) ∧ ∀ i, i < d → ∃ z, Pth R i c z
theorem pth_short {R : Nat → Nat → Prop} : ∀ {i j c z : Nat}, Pth R j c z → i ≤ j → ∃ u, Pth R i c u
  | 0, j, c, z, _, _ => ⟨c, rfl⟩
  | i + 1, 0, c, z, _, h => absurd h (by lia)
  | i + 1, j + 1, c, z, ⟨y, hr, hp⟩, h => by
    obtain ⟨u, hu⟩ := pth_short hp (show i ≤ j by lia)
    exact ⟨u, y, hr, hu⟩
theorem Dep.one {R : Nat → Nat → Prop} {c d e : Nat} (h : Dep R c d) (h' : Dep R c e) : d = e := by
  by_cases q : d < e
  · obtain ⟨z, hz⟩ := h'.2 d q; exact absurd hz (h.1 z)
  · by_cases q2 : e < d
    · obtain ⟨z, hz⟩ := h.2 e q2; exact absurd hz (h'.1 z)
    · lia
theorem Dep.pos {R : Nat → Nat → Prop} {c d : Nat} (h : Dep R c d) : 0 < d := by
  by_cases q : d = 0
  · subst q; exact absurd (show Pth R 0 c c from rfl) (h.1 c)
  · lia
theorem Dep.over {R : Nat → Nat → Prop} {c : Nat} {ks : List Nat} {f : Nat → Nat} (hk : ∀ y, y ∈ ks ↔ R c y) (hd : ∀ y ∈ ks, Dep R y (f y)) : Dep R c (1 + mx (ks.map f)) := by
  refine ⟨fun z hz => ?_, fun i hi => ?_⟩
  · rw [Nat.add_comm] at hz
    obtain ⟨y, hr, hp⟩ := hz
    have hy := (hk y).mpr hr
    obtain ⟨u, hu⟩ := pth_short hp (mx_ge (List.mem_map.mpr ⟨y, hy, rfl⟩) : f y ≤ _)
    exact (hd y hy).1 u hu
  · cases i with
    | zero => exact ⟨c, rfl⟩
    | succ i =>
      rcases mx_in (ks.map f) with q | q
      · rw [q] at hi; lia
      · obtain ⟨y, hy, e⟩ := List.mem_map.mp q
        obtain ⟨u, hu⟩ := (hd y hy).2 i (by lia)
        exact ⟨u, y, (hk y).mp hy, hu⟩
/-- the found depths, so far -/
structure GI (R : Nat → Nat → Prop) (S : List Nat) (fd : List (Nat × Nat)) : Prop where
  nd : (fd.map (·.1)).Nodup
  sub : ∀ p ∈ fd, p.1 ∈ S
  dep : ∀ p ∈ fd, Dep R p.1 p.2
  le : ∀ p ∈ fd, p.2 ≤ fd.length
/-- nothing more is to be found -/
noncomputable def Blk (R : Nat → Nat → Prop) (fd : List (Nat × Nat)) (c : Nat) : Prop := c ∈ fd.map (·.1) ∨ ∃ y, R c y ∧ y ∉ fd.map (·.1)
theorem GI.add {R : Nat → Nat → Prop} {S : List Nat} {fd : List (Nat × Nat)} (h : GI R S fd) {c : Nat} (hc : c ∈ S) (hn : c ∉ fd.map (·.1)) {ks ds : List Nat} (hk : ∀ y, y ∈ ks ↔ R c y) (hl : ds.length = ks.length)
    (hd : ∀ (i : Nat) y d, ks[i]? = some y → ds[i]? = some d → (y, d) ∈ fd) : GI R S (fd ++ [(c, 1 + mx ds)]) := by
  have hx : ∃ f : Nat → Nat, (∀ y ∈ ks, (y, f y) ∈ fd) := by
    have : ∀ y ∈ ks, ∃ d, (y, d) ∈ fd := fun y hy => by
      obtain ⟨i, hi, e⟩ := List.getElem_of_mem hy
      exact ⟨_, hd i y (ds[i]'(by lia)) (by rw [List.getElem?_eq_getElem hi, e]) (List.getElem?_eq_getElem _)⟩
    refine ⟨fun y => if hy : y ∈ ks then (this y hy).choose else 0, fun y hy => ?_⟩
    dsimp only
    rw [dif_pos hy]
    exact (this y hy).choose_spec
  obtain ⟨f, hf⟩ := hx
  have e : ds = ks.map f := by
    refine List.ext_getElem (by simp [hl]) fun i h1 h2 => ?_
    have hi : i < ks.length := by lia
    rw [List.getElem_map]
    exact (h.dep _ (hd i _ _ (List.getElem?_eq_getElem hi) (List.getElem?_eq_getElem h1))).one (h.dep _ (hf _ (List.getElem_mem hi)))
  have hD : Dep R c (1 + mx ds) := e ▸ Dep.over hk fun y hy => h.dep _ (hf y hy)
  refine ⟨?_, fun p hp => ?_, fun p hp => ?_, fun p hp => ?_⟩
  · rw [List.map_append, List.nodup_append]
    exact ⟨h.nd, by simp, fun a ha b hb => by
      rw [show b = c by simpa using hb]; rintro rfl; exact hn ha⟩
  · rcases List.mem_append.mp hp with hp | hp
    · exact h.sub p hp
    · rw [List.mem_singleton.mp hp]; exact hc
  · rcases List.mem_append.mp hp with hp | hp
    · exact h.dep p hp
    · rw [List.mem_singleton.mp hp]; exact hD
  · rw [List.length_append, List.length_singleton]
    rcases List.mem_append.mp hp with hp | hp
    · have := h.le p hp; lia
    · rw [List.mem_singleton.mp hp]
      show 1 + mx ds ≤ fd.length + 1
      rcases mx_in ds with q | q
      · lia
      · obtain ⟨i, hi, e⟩ := List.getElem_of_mem q
        have := h.le _ (hd i (ks[i]'(by lia)) _ (List.getElem?_eq_getElem _) (List.getElem?_eq_getElem hi))
        dsimp only at this
        lia
theorem GI.done {R : Nat → Nat → Prop} {S : List Nat} {fd : List (Nat × Nat)} (h : GI R S fd) (hcl : ∀ c ∈ S, ∀ y, R c y → y ∈ S) (hb : ∀ c ∈ S, Blk R fd c) (c d : Nat) : (c, d) ∈ fd ↔ c ∈ S ∧ Dep R c d := by
  refine ⟨fun hp => ⟨h.sub _ hp, h.dep _ hp⟩, fun ⟨hc, hd⟩ => ?_⟩
  by_cases hk : c ∈ fd.map (·.1)
  · obtain ⟨p, hp, e⟩ := List.mem_map.mp hk
    obtain ⟨c', d'⟩ := p
    dsimp only at e
    subst e
    have := (h.dep _ hp).one hd
    dsimp only at this
    rw [← this]; exact hp
  · exfalso
    have inf : ∀ i c, c ∈ S → c ∉ fd.map (·.1) → ∃ z, Pth R i c z := by
      intro i
      induction i with
      | zero => intro c _ _; exact ⟨c, rfl⟩
      | succ i ih =>
        intro c hc hn
        rcases hb c hc with q | ⟨y, hr, hy⟩
        · exact absurd q hn
        · obtain ⟨z, hz⟩ := ih y (hcl c hc y hr) hy
          exact ⟨z, y, hr, hz⟩
    obtain ⟨z, hz⟩ := inf d c hc hk
    exact hd.1 z hz
/-- a dict's values are these ints -/
structure DepsAre (kvs : List (Nat × Value)) (fd : List (Nat × Nat)) : Prop where
  keys : kvs.map (·.1) = fd.map (·.1)
  vals : IntsAre (kvs.map (·.2)) (zs (fd.map (·.2)))
theorem DepsAre.get {kvs : List (Nat × Value)} {fd : List (Nat × Nat)} (h : DepsAre kvs fd) (hn : (fd.map (·.1)).Nodup) {k d : Nat} (hm : (k, d) ∈ fd) : ∃ t, lk kvs k = some (.int (d : Int) t) := by
  obtain ⟨i, hi, e⟩ := List.getElem_of_mem hm
  have hl : kvs.length = fd.length := by have := congrArg List.length h.keys; simpa using this
  have hk : (kvs.map (·.1))[i]? = some k := by rw [h.keys, List.getElem?_map, List.getElem?_eq_getElem hi, e]; rfl
  obtain ⟨t, ht⟩ := IntsAre.get h.vals (j := i) (p := d) (by rw [List.getElem?_map, List.getElem?_eq_getElem hi, e]; rfl)
  cases q : lk kvs k with
  | none => exact absurd (List.mem_of_getElem? hk) (lk_none.mp q)
  | some v =>
    have hv := lk_some q
    obtain ⟨j, hj, ej⟩ := List.getElem_of_mem hv
    have hij : i = j := by
      have h1 : (kvs.map (·.1))[i]'(by simp; lia) = (kvs.map (·.1))[j]'(by simpa using hj) := by
        have := List.getElem?_eq_some_iff.mp hk
        obtain ⟨_, this⟩ := this
        rw [this]; simp [ej]
      exact (List.getElem_inj (by rw [h.keys]; exact hn)).mp h1
    subst hij
    rw [List.getElem?_map, List.getElem?_eq_getElem hj, ej] at ht
    simp at ht
    exact ⟨t, by rw [ht]⟩
theorem DepsAre.none {kvs : List (Nat × Value)} {fd : List (Nat × Nat)} (h : DepsAre kvs fd) {k : Nat} : lk kvs k = none ↔ k ∉ fd.map (·.1) := by rw [lk_none, h.keys]
theorem DepsAre.push {kvs : List (Nat × Value)} {fd : List (Nat × Nat)} (h : DepsAre kvs fd) (k d : Nat) (t : Tok) : DepsAre (kvs ++ [(k, .int (d : Int) t)]) (fd ++ [(k, d)]) :=
  ⟨by simp [h.keys], by rw [List.map_append, List.map_append]; exact intsAre_append h.vals (intsAre_one d t)⟩
section
variable {prog : Program} {w : World} {A : Around} {s : Shared} {g : PySem.Heap} {L : Addr} {m : PySem.Str → Option Value} {news srcO : List (Addr × Obj)} {env : Env}
/-- a for loop whose source has come -/
noncomputable def ForAt (prog : Program) (w : World) (A : Around) (E : Value → Shared → Prop) (x : PySem.Str) (px : Pos) (body : List Stmt) (env : Env) (Q : Flow → Shared → Prop) (xv : Value) (s : Shared) : Prop :=
  wpAny (model prog w) A (pyIter xv) (fun it s₂ => codeAny (model prog w) A (.forLoop (.Name x px) it body [] env) (fun r s' => match r with | .ok f => Q f s' | .error e => cameBackBy (model prog w) A env E e s') s₂) E s
theorem for_exec {x : PySem.Str} {px : Pos} {iter : PySem.Expr} {body : List Stmt} {pos : Pos} {Q : Flow → Shared → Prop} {E : Value → Shared → Prop}
    (h : wpAny (model prog w) A (eval iter env) (fun xv s₁ => ForAt prog w A E x px body env Q xv s₁) E s) (hs : ∀ v, foldedSetIterable iter env v = pure v := by intro _; rfl) :
    wpAny (model prog w) A (exec (.For (.Name x px) iter body [] pos) env) Q E s := by
  refine wpAny_For (wpAny_mono h (fun xv s₁ h₁ => ?_) fun _ _ e => e) hs
  exact h₁
/-- for_walk, with the turn's end closed -/
theorem for_at {x : PySem.Str} {px : Pos} {body : List Stmt} {xv : Value} {n k : Nat} {P : Nat → Value → Prop} {Q : Flow → Shared → Prop} {E : Value → Shared → Prop}
    (F : Fr g L s.heap m) (N : News g L s.heap news) (hr : RoomOk A k) (hL : env.locals = L)
    (hx : env.kindOf x = some .local) (hp : (env.scope.kind == .class || (env.scope.kind == .module && env.locals != env.globals)) = false)
    (S : Src prog w xv s.heap (srcO.map (·.1)) n P) (hs0 : ∀ p ∈ srcO, p ∈ news)
    (J : Nat → (PySem.Str → Option Value) → List (Addr × Obj) → Prop) (J0 : J 0 m news)
    (turn : ∀ i v m₀ news' s' I oI, i < n → P i v → Sm s s' → (∀ p ∈ news, p.1 < I) → Fr g L s'.heap (fun y => if y = x then some v else m₀ y) → News g L s'.heap ((I, oI) :: news') → (∀ q ∈ news', q.1 ≠ I) →
      (∀ p ∈ srcO, p ∈ news') → J i m₀ news' → ∀ Z : Shared → Prop, (∀ s'', Back g L I oI srcO (J (i + 1)) s s'' → Z s'') →
      wpAny (model prog w) A (execs body env) (Nx Z) (fun _ _ => False) s')
    (fin : ∀ m' news' s', Sm s s' → Fr g L s'.heap m' → News g L s'.heap news' → (∀ p ∈ srcO, p ∈ news') → J n m' news' → Q .next s') :
    ForAt prog w A E x px body env Q xv s := by
  unfold ForAt
  exact for_walk (fun f s' h => h) F N hr.hh hL hx hp S hs0 J J0 (fun i v m₀ news' s' I oI a b c d e f g' _ h i' => turn i v m₀ news' s' I oI a b c d e f g' h i' _ fun _ x => x) fin
end
section
variable {w : World} {A : Around} {g : PySem.Heap} {L : Addr} {m mg mb : PySem.Str → Option Value} {s : Shared} {news : List (Addr × Obj)} {p : Program} {loose : List PySem.Str} {a : HA} {G dG : Addr} {nodes : List (PySem.Str × List Nat)} {st : USt} {rt : Nat → Nat} {E : Value → Shared → Prop}
theorem st_cell {M : Model} {env : Env} {x : PySem.Str} {c : Addr} {oc : Obj} {v0 : Option Value} {v : Value} {Q : Unit → Shared → Prop} (F : Fr g L s.heap m) (N : News g L s.heap news) (hm : (c, oc) ∈ news) (hd : oc.data = .cell v0)
    (h : ∀ oc' h', Fr g L h' m → News g L h' (upd c oc' news) → oc'.data = .cell (some v) → Q () { s with heap := h' }) (hk : env.scope.kind = .function := by rfl) (hl : env.kindOf x = some .cell := by rfl) (hc : env.cells.lookup x = some c := by rfl) :
    wpAny M A (storeName env x v) Q E s := by
  refine wpAny_storeName_cell hk hl hc ⟨oc, (N _ hm).1, hd⟩ fun h' hic hs => ?_
  refine hide fun G0 hG0 => ?_
  obtain ⟨oc', ho, hd'⟩ := hic
  obtain ⟨F', N'⟩ := led_set F N hm hs ho
  refine hG0 ?_
  try clear hG0 G0
  exact h oc' h' F' N' hd'
theorem upd_sub {a : Addr} {o : Obj} {l l' : List (Addr × Obj)} (h : ∀ q ∈ l, q ∈ l') : ∀ q ∈ upd a o l, q ∈ upd a o l' := fun q hq => by
  refine hide fun G0 hG0 => ?_
  obtain ⟨p, hp, e⟩ := List.mem_map.mp hq
  refine hG0 ?_
  try clear hG0 G0
  exact List.mem_map.mpr ⟨p, h p hp, e⟩
theorem rl_eqB {us vs : List Value} {ns ms : List Nat} {n k j : Nat} {a b : Addr} {c : Bool} {Q : Value → Shared → Prop} (hr : RoomOk A j) (N : News g L s.heap news) (hm : (a, Mine.lo us n) ∈ news) (hb : (b, Mine.lo vs k) ∈ news) (hi : IntsAre us (zs ns)) (hi' : IntsAre vs (zs ms)) (hc : decide (ns = ms) = c) (h : Q (.bool c) s) :
    wpAny (model P w) A (compareOp .Eq (.ref a) (.ref b)) Q E s := by
  subst hc
  have hun := hr.un
  have hcl : cLine = 9900 := rfl
  refine eq_intsK (rl_list N hm) hi (rl_list N hb) hi' (by lia) ?_
  have e : decide (zs ns = zs ms) = decide (ns = ms) := by
    by_cases q : ns = ms
    · subst q; simp
    · have : ¬ zs ns = zs ms := fun h => q (zs_inj h)
      simp [q, this]
  rw [e]; exact h
end
section
variable {w : World} {A : Around} {g : PySem.Heap} {L : Addr} {m mg mb : PySem.Str → Option Value} {s : Shared} {news : List (Addr × Obj)} {p : Program} {loose : List PySem.Str} {a : HA} {G dG : Addr} {nodes : List (PySem.Str × List Nat)} {st : USt} {rt : Nat → Nat} {E : Value → Shared → Prop}
inductive GhI (w : World) (s : Shared) (g' : PySem.Heap) (L' G D1 FD : Addr) (oC : Obj) (vs1 : List Value) (ep1 : Nat) (nodes : List (PySem.Str × List Nat)) (st : USt) (rt : Nat → Nat) (ks1 : List Nat) (news : List (Addr × Obj)) (k : Nat) (s' : Shared) : Prop
  | mk (sm : Sm s s') (m' : PySem.Str → Option Value) (newsI : List (Addr × Obj)) (oF : Obj) (kvs : List (Nat × Value)) (fd : List (Nat × Nat)) (many : Int) (t : Tok) (h0 : m' "self" = some (.ref G)) (h1 : m' "some" = some (.ref D1)) (h2 : m' "many" = some (.int many t)) (h3 : Fr g' L' s'.heap m') (h4 : News g' L' s'.heap newsI) (h5 : (L' + 1, oC) ∈ newsI) (h6 : (D1, lo vs1 ep1) ∈ newsI) (h7 : (FD, oF) ∈ newsI) (h8 : DI w oF kvs) (h9 : DepsAre kvs fd) (h10 : GI (KK nodes st rt) ks1 fd) (h11 : (∀ q ∈ news, q ∈ newsI ∧ q.1 ≠ FD)) (h12 : (many = -1 ∨ ∃ mm : Nat, many = (mm : Int) ∧ mm ≤ fd.length ∧ (fd.length = mm → ∀ c ∈ ks1, Blk (KK nodes st rt) fd c))) (h13 : k = 2 * (17 - fd.length) + (if many < (fd.length : Int) then 1 else 0)) : GhI w s g' L' G D1 FD oC vs1 ep1 nodes st rt ks1 news k s'
inductive GhJ (w : World) (L' G D1 FD : Addr) (oC : Obj) (kvs : List (Nat × Value)) (tkW : Tok) (nodes : List (PySem.Str × List Nat)) (st : USt) (rt : Nat → Nat) (ks1 : List Nat) (news : List (Addr × Obj)) (fd : List (Nat × Nat)) (i : Nat) (m' : PySem.Str → Option Value) (newsF : List (Addr × Obj)) : Prop
  | mk (oF' : Obj) (kvs' : List (Nat × Value)) (fd' : List (Nat × Nat)) (h0 : m' "self" = some (.ref G)) (h1 : m' "some" = some (.ref D1)) (h2 : m' "many" = some (.int (kvs.length : Int) tkW)) (h3 : (L' + 1, oC) ∈ newsF) (h4 : (FD, oF') ∈ newsF) (h5 : DI w oF' kvs') (h6 : DepsAre kvs' fd') (h7 : GI (KK nodes st rt) ks1 fd') (h8 : (∀ q ∈ news, q ∈ newsF ∧ q.1 ≠ FD)) (h9 : fd.length ≤ fd'.length) (h10 : (fd'.length = fd.length → ∀ j c, j < i → ks1[j]? = some c → Blk (KK nodes st rt) fd' c)) : GhJ w L' G D1 FD oC kvs tkW nodes st rt ks1 news fd i m' newsF
set_option maxHeartbeats 8000000 in
theorem gdepths_ok {x : Nat} {tx : Tok} {Q : Value → Shared → Prop}
   (F : Fr g L s.heap m) (N : News g L s.heap news) (X : (hd.heap_39 w.params).In g) (T : TopRead p loose mg mb g) (hr : RoomOk A 9)
   (R : RepG w news G dG a nodes st) (O : OkC a nodes st rt) (OL : OkL nodes st rt) (hx : x < nodes.length)
   (h : ∀ s' D o kvs fd, Sm s s' → Fr g L s'.heap m → News g L s'.heap ((D, o) :: news) → (∀ p ∈ news, p.1 ≠ D) → (D == sysModules) = false → DI w o kvs → DepsAre kvs fd → (fd.map (·.1)).Nodup → fd.length ≤ nodes.length → (∀ q ∈ fd, q.2 ≤ fd.length) →
      (∀ c d, (c, d) ∈ fd ↔ Rch (KK nodes st rt) (rt x) c ∧ Dep (KK nodes st rt) c d) → Q (.ref D) s') :
   wpAny (model P w) A (call (.ref 73) [.ref G, .int x tx]) Q E s := by
  refine bd [("self", .ref G), ("c", .int x tx)] ?_
  (refine' callC ?zF ?zN ?zX ?zT ?zR ?k6 ?k7 ?k9 ?kB ?c5 ?_ ?c2 ?c3 ?c4; (case zF | zN | zX | zR => assumption); (case zT => apply TopRead.nolimit; assumption); (case k6 | k7 => k_is); (case k9 | kB | c2 | c3 | c4 => exact rfl); (case c5 => decide); intros)
  rename_i g' L' h' tk' cells stay X' hr' F' N' Y ltY
  refine hide fun G0 hG0 => ?_
  obtain ⟨oS, rfl, hcS0⟩ := CellsAre.one Y
  have hcS : oS.data = .cell none := hcS0
  clear hcS0 Y
  have T' := T.keeps stay
  have hG := R.hG
  obtain ⟨t0, n0, hdG⟩ := R.hd
  refine hG0 ?_
  try clear hG0 G0
  clear X T F N
  repeat' (first | (guard_target = wpAny _ _ (compareOp CmpOp.NotEq (Value.ref _) (Value.ref _)) _ _ _; refine' rl_neB ?zr ?zN ?zm ?zl ?zi ?zj ?zk ?_; (case zr => with_reducible assumption); walk_at "aNm"; (case zl => k_mem); (case zi | zj => first | with_reducible assumption | exact nilN); (case zk => first | (show _ = true; simp; done) | (show _ = false; simp; done) | exact rfl)) | (guard_target = wpAny _ _ (compareOp CmpOp.Eq (Value.ref _) (Value.ref _)) _ _ _; refine' rl_eqB ?zr ?zN ?zm ?zl ?zi ?zj ?zk ?_; (case zr => with_reducible assumption); walk_at "aNm"; (case zl => k_mem); (case zi | zj => first | with_reducible assumption | exact nilN); (case zk => first | with_reducible assumption | exact rfl)) | ((fail_if_success guard_target = wpAny _ _ (exec (Stmt.While _ _ _ _) _) _ _ _); (fail_if_success guard_target = wpAny _ _ (exec (Stmt.For _ _ _ _ _) _) _ _ _); walk_at "mine"))
  have ltS := ltW
  have diS := diW
  have loS := loW
  generalize DW = FD at *
  generalize oW = oF0 at *
  refine greached_ok (by assumption) (by assumption) X' T' hr' (R.mono fun q hq => List.mem_cons_of_mem _ (List.mem_cons_of_mem _ hq)) O OL hx fun s1 D1 ep1 vs1 ks1 sm1 F1 N1 hD1 hi1 hnd1 hk1 => ?_
  clear F' N'
  repeat' (first | (guard_target = wpAny _ _ (compareOp CmpOp.NotEq (Value.ref _) (Value.ref _)) _ _ _; refine' rl_neB ?zr ?zN ?zm ?zl ?zi ?zj ?zk ?_; (case zr => with_reducible assumption); walk_at "aNm"; (case zl => k_mem); (case zi | zj => first | with_reducible assumption | exact nilN); (case zk => first | (show _ = true; simp; done) | (show _ = false; simp; done) | exact rfl)) | (guard_target = wpAny _ _ (compareOp CmpOp.Eq (Value.ref _) (Value.ref _)) _ _ _; refine' rl_eqB ?zr ?zN ?zm ?zl ?zi ?zj ?zk ?_; (case zr => with_reducible assumption); walk_at "aNm"; (case zl => k_mem); (case zi | zj => first | with_reducible assumption | exact nilN); (case zk => first | with_reducible assumption | exact rfl)) | ((fail_if_success guard_target = wpAny _ _ (exec (Stmt.While _ _ _ _) _) _ _ _); (fail_if_success guard_target = wpAny _ _ (exec (Stmt.For _ _ _ _ _) _) _ _ _); walk_at "mine"))
  have hCFD : L' + 1 ≠ FD := Nat.ne_of_lt (ltS (L' + 1, oS) (.head _))
  have hCD1 : L' + 1 ≠ D1 := hD1 (L' + 1, oS) (.tail _ (.head _))
  have hFD1 : FD ≠ D1 := hD1 (FD, oF0) (.head _)
  refine st_cell (news := (D1, lo vs1 ep1) :: (FD, oF0) :: (L' + 1, oS) :: news) (by assumption) (nsub (by assumption : News g' L' _ (_ :: (D1, lo vs1 ep1) :: (FD, oF0) :: (L' + 1, oS) :: news)) fun q hq => List.mem_cons_of_mem _ hq) (by k_mem) hcS fun oC h2 F2 N2 hoC => ?_
  have hC2 : (L' + 1, oC) ∈ upd (L' + 1) oC ((D1, lo vs1 ep1) :: (FD, oF0) :: (L' + 1, oS) :: news) := upd_self (o := oS) (by k_mem)
  have hF2 : (FD, oF0) ∈ upd (L' + 1) oC ((D1, lo vs1 ep1) :: (FD, oF0) :: (L' + 1, oS) :: news) := upd_ne (by k_mem) hCFD.symm
  have hS2 : (D1, lo vs1 ep1) ∈ upd (L' + 1) oC ((D1, lo vs1 ep1) :: (FD, oF0) :: (L' + 1, oS) :: news) := upd_ne (by k_mem) hCD1.symm
  have hsub2 : ∀ q ∈ news, q ∈ upd (L' + 1) oC ((D1, lo vs1 ep1) :: (FD, oF0) :: (L' + 1, oS) :: news) ∧ q.1 ≠ FD := fun q hq =>
    ⟨upd_ne (List.mem_cons_of_mem _ (List.mem_cons_of_mem _ (List.mem_cons_of_mem _ hq))) (Nat.ne_of_lt (Nat.lt_succ_of_lt (ltY q hq))), Nat.ne_of_lt (ltS q (.tail _ hq))⟩
  generalize upd (L' + 1) oC ((D1, lo vs1 ep1) :: (FD, oF0) :: (L' + 1, oS) :: news) = news2 at *
  clear hG hdG
  repeat' (first | (guard_target = wpAny _ _ (compareOp CmpOp.NotEq (Value.ref _) (Value.ref _)) _ _ _; refine' rl_neB ?zr ?zN ?zm ?zl ?zi ?zj ?zk ?_; (case zr => with_reducible assumption); walk_at "aNm"; (case zl => k_mem); (case zi | zj => first | with_reducible assumption | exact nilN); (case zk => first | (show _ = true; simp; done) | (show _ = false; simp; done) | exact rfl)) | (guard_target = wpAny _ _ (compareOp CmpOp.Eq (Value.ref _) (Value.ref _)) _ _ _; refine' rl_eqB ?zr ?zN ?zm ?zl ?zi ?zj ?zk ?_; (case zr => with_reducible assumption); walk_at "aNm"; (case zl => k_mem); (case zi | zj => first | with_reducible assumption | exact nilN); (case zk => first | with_reducible assumption | exact rfl)) | ((fail_if_success guard_target = wpAny _ _ (exec (Stmt.While _ _ _ _) _) _ _ _); (fail_if_success guard_target = wpAny _ _ (exec (Stmt.For _ _ _ _ _) _) _ _ _); walk_at "mine"))
  refine while_walk (GhI w s g' L' G D1 FD oC vs1 ep1 nodes st rt ks1 news) (2 * 17 + 1) ?start ?_
  case start =>
    refine' ⟨⟨sm1.1, sm1.2⟩, _, _, oF0, [], [], _, _, ?e1, ?e2, ?e3, ?eF, ?eN, hC2, hS2, hF2, diS, ⟨rfl, .nil⟩, ⟨List.nodup_nil, fun p hp => (nomatch hp), fun p hp => (nomatch hp), fun p hp => (nomatch hp)⟩, hsub2, .inl rfl, rfl⟩
    case eF => assumption
    case eN => assumption
    case e1 => walk_at "mloc"
    case e2 => walk_at "mloc"
    case e3 => walk_at "mloc"
  rintro k s' ⟨sm, m', newsI, oF, kvs, fd, many, tm, e1, e2, e3, F', N', hC, hS, hF, dF, dA, hGI, hsub, hmany, rfl⟩ Z hZ
  have hkvl : kvs.length = fd.length := by have := congrArg List.length dA.keys; simpa using this
  have hfdl : fd.length ≤ ks1.length := by
    have := len_sub (fd.map (·.1)) ks1 hGI.nd fun y hy => by
      refine hide fun G0 hG0 => ?_
      obtain ⟨q, hq, rfl⟩ := List.mem_map.mp hy
      refine hG0 ?_
      try clear hG0 G0
      exact hGI.sub q hq
    simpa using this
  have hks1 : ks1.length ≤ nodes.length := by
    have := len_sub ks1 (List.range nodes.length) hnd1 fun y hy => by
      have hr1 := (hk1 y).mp hy
      refine List.mem_range.mpr ?_
      cases hr1 with
      | refl => rw [O.nn]; exact (O.ok.rr x (by rw [← O.nn]; exact hx)).1
      | step _ hkk => exact KK_lt O OL hkk
    simpa using this
  have hsmall := OL.small
  have hkz : kvs.length ≤ 1000 := by lia
  have hlenvs := IntsAre.len hi1
  repeat' (first | (guard_target = wpAny _ _ (compareOp CmpOp.NotEq (Value.ref _) (Value.ref _)) _ _ _; refine' rl_neB ?zr ?zN ?zm ?zl ?zi ?zj ?zk ?_; (case zr => with_reducible assumption); walk_at "aNm"; (case zl => k_mem); (case zi | zj => first | with_reducible assumption | exact nilN); (case zk => first | (show _ = true; simp; done) | (show _ = false; simp; done) | exact rfl)) | (guard_target = wpAny _ _ (compareOp CmpOp.Eq (Value.ref _) (Value.ref _)) _ _ _; refine' rl_eqB ?zr ?zN ?zm ?zl ?zi ?zj ?zk ?_; (case zr => with_reducible assumption); walk_at "aNm"; (case zl => k_mem); (case zi | zj => first | with_reducible assumption | exact nilN); (case zk => first | with_reducible assumption | exact rfl)) | ((fail_if_success guard_target = wpAny _ _ (exec (Stmt.While _ _ _ _) _) _ _ _); (fail_if_success guard_target = wpAny _ _ (exec (Stmt.For _ _ _ _ _) _) _ _ _); walk_at "mine"))
  rotate_left
  · have hmn : ¬ many < (kvs.length : Int) := by assumption
    rw [hkvl] at hmn
    have hb : ∀ c ∈ ks1, Blk (KK nodes st rt) fd c := by
      rcases hmany with e | ⟨mm, e, hle, hb⟩
      · lia
      · exact hb (by lia)
    have hcl : ∀ c ∈ ks1, ∀ y, KK nodes st rt c y → y ∈ ks1 := fun c hc y hy => (hk1 y).mpr (((hk1 c).mp hc).step hy)
    refine lv_ret F' N' fun F9 N9 => h _ FD oF kvs fd ⟨sm.1, sm.2⟩ F9 (nsub N9 fun q hq => ?_) (fun q hq => (hsub q hq).2) loS dF dA hGI.nd (by lia) hGI.le fun c d => by rw [hGI.done hcl hb, hk1]
    rcases List.mem_cons.mp hq with rfl | hq
    · exact hF
    · exact (hsub q hq).1
  have hmn : many < (kvs.length : Int) := by assumption
  refine for_exec ?_
  repeat' (first | (guard_target = wpAny _ _ (compareOp CmpOp.NotEq (Value.ref _) (Value.ref _)) _ _ _; refine' rl_neB ?zr ?zN ?zm ?zl ?zi ?zj ?zk ?_; (case zr => with_reducible assumption); walk_at "aNm"; (case zl => k_mem); (case zi | zj => first | with_reducible assumption | exact nilN); (case zk => first | (show _ = true; simp; done) | (show _ = false; simp; done) | exact rfl)) | (guard_target = wpAny _ _ (compareOp CmpOp.Eq (Value.ref _) (Value.ref _)) _ _ _; refine' rl_eqB ?zr ?zN ?zm ?zl ?zi ?zj ?zk ?_; (case zr => with_reducible assumption); walk_at "aNm"; (case zl => k_mem); (case zi | zj => first | with_reducible assumption | exact nilN); (case zk => first | with_reducible assumption | exact rfl)) | ((fail_if_success guard_target = wpAny _ _ (exec (Stmt.While _ _ _ _) _) _ _ _); (fail_if_success guard_target = wpAny _ _ (exec (Stmt.For _ _ _ _ _) _) _ _ _); walk_at "mine"))
  refine for_at (srcO := [(D1, lo vs1 ep1)]) (by assumption) (by assumption) hr' rfl rfl rfl (Src.list (rl_list (news := newsI) (by assumption) hS)) (fun q hq => by rw [List.mem_singleton.mp hq]; exact hS)
    (GhJ w L' G D1 FD oC kvs tkW nodes st rt ks1 news fd)
    ⟨oF, kvs, fd, by walk_at "mloc", by walk_at "mloc", by walk_at "mloc", hC, hF, dF, dA, hGI, hsub, Nat.le_refl _, fun _ j c hj => absurd hj (Nat.not_lt_zero _)⟩ ?turn ?fin
  case fin =>
    rintro m2 newsF s2 sm2 F2 N2 hsrc ⟨oF', kvs', fd', f1, f2, f3, hC2, hF2, dF2, dA2, hGI2, hsub2', hle, hblk⟩
    repeat' (first | (guard_target = wpAny _ _ (compareOp CmpOp.NotEq (Value.ref _) (Value.ref _)) _ _ _; refine' rl_neB ?zr ?zN ?zm ?zl ?zi ?zj ?zk ?_; (case zr => with_reducible assumption); walk_at "aNm"; (case zl => k_mem); (case zi | zj => first | with_reducible assumption | exact nilN); (case zk => first | (show _ = true; simp; done) | (show _ = false; simp; done) | exact rfl)) | (guard_target = wpAny _ _ (compareOp CmpOp.Eq (Value.ref _) (Value.ref _)) _ _ _; refine' rl_eqB ?zr ?zN ?zm ?zl ?zi ?zj ?zk ?_; (case zr => with_reducible assumption); walk_at "aNm"; (case zl => k_mem); (case zi | zj => first | with_reducible assumption | exact nilN); (case zk => first | with_reducible assumption | exact rfl)) | ((fail_if_success guard_target = wpAny _ _ (exec (Stmt.While _ _ _ _) _) _ _ _); (fail_if_success guard_target = wpAny _ _ (exec (Stmt.For _ _ _ _ _) _) _ _ _); walk_at "mine"))
    refine nx <| hZ _ ⟨2 * (17 - fd'.length) + (if (kvs.length : Int) < (fd'.length : Int) then 1 else 0), ?_, ⟨sm2.1.trans sm.1, sm2.2.trans sm.2⟩, _, newsF, oF', kvs', fd', (kvs.length : Int), _, f1, f2, f3, F2, N2, hC2, hsrc _ (.head _), hF2, dF2, dA2, hGI2, hsub2', .inr ⟨fd.length, by rw [hkvl], hle, fun e c hc => ?_⟩, rfl⟩
    · rw [hkvl] at hmn ⊢
      rw [if_pos hmn]
      by_cases q : fd'.length = fd.length
      · rw [q, if_neg (by lia)]; lia
      · split <;> lia
    · obtain ⟨j, hj, ej⟩ := List.getElem_of_mem hc
      exact hblk e j c (by rw [List.size_toArray]; lia) (by rw [List.getElem?_eq_getElem hj, ej])
  case turn =>
    rintro i v m0 newsF s2 I oI hi hv sm2 hltI F2 N2 hnI hsrc hJ0 Z hZ
    refine hide fun G0 hG0 => ?_
    obtain ⟨oF', kvs', fd', f1, f2, f3, hC2, hF2, dF2, dA2, hGI2, hsub2', hle, hblk⟩ := hJ0
    refine hG0 ?_
    try clear hG0 G0
    replace F2 : Fr g' L' s2.heap _ := F2
    replace N2 : News g' L' s2.heap _ := N2
    have hil : i < ks1.length := by rw [List.size_toArray] at hi; lia
    have hci : ks1[i]? = some (ks1[i]'hil) := List.getElem?_eq_getElem hil
    have hcs : ks1[i]'hil ∈ ks1 := List.getElem_mem hil
    generalize ks1[i]'hil = c at *
    obtain ⟨tc, htc⟩ := IntsAre.get hi1 hci
    have hv' : vs1[i]? = some v := by simpa using hv
    rw [hv'] at htc
    cases htc
    have hcn : c < nodes.length := by
      have hr1 := (hk1 c).mp hcs
      cases hr1 with
      | refl => rw [O.nn]; exact (O.ok.rr x (by rw [← O.nn]; exact hx)).1
      | step _ hkk => exact KK_lt O OL hkk
    have hD1s := hsrc _ (.head _)
    have hfd' : fd'.length ≤ nodes.length := by
      have := len_sub (fd'.map (·.1)) ks1 hGI2.nd fun y hy => by
        refine hide fun G0 hG0 => ?_
        obtain ⟨q, hq, rfl⟩ := List.mem_map.mp hy
        refine hG0 ?_
        try clear hG0 G0
        exact hGI2.sub q hq
      rw [List.length_map] at this
      lia
    by_cases hcf : c ∈ fd'.map (·.1)
    · obtain ⟨dv, hdv⟩ : ∃ dv, lk kvs' c = some dv := by
        cases q : lk kvs' c with
        | none => exact absurd hcf (dA2.none.mp q)
        | some b => exact ⟨b, rfl⟩
      repeat' (first | (guard_target = wpAny _ _ (compareOp CmpOp.NotEq (Value.ref _) (Value.ref _)) _ _ _; refine' rl_neB ?zr ?zN ?zm ?zl ?zi ?zj ?zk ?_; (case zr => with_reducible assumption); walk_at "aNm"; (case zl => k_mem); (case zi | zj => first | with_reducible assumption | exact nilN); (case zk => first | (show _ = true; simp; done) | (show _ = false; simp; done) | exact rfl)) | (guard_target = wpAny _ _ (compareOp CmpOp.Eq (Value.ref _) (Value.ref _)) _ _ _; refine' rl_eqB ?zr ?zN ?zm ?zl ?zi ?zj ?zk ?_; (case zr => with_reducible assumption); walk_at "aNm"; (case zl => k_mem); (case zi | zj => first | with_reducible assumption | exact nilN); (case zk => first | with_reducible assumption | exact rfl)) | ((fail_if_success guard_target = wpAny _ _ (exec (Stmt.While _ _ _ _) _) _ _ _); (fail_if_success guard_target = wpAny _ _ (exec (Stmt.For _ _ _ _ _) _) _ _ _); walk_at "mine"))
      refine nx <| hZ _ ⟨sm2, _, newsF, by assumption, by assumption, hnI, hsrc, oF', kvs', fd', ?g1, ?g2, ?g3, hC2, hF2, dF2, dA2, hGI2, hsub2', hle, fun e j c' hj hc' => ?_⟩
      case g1 => exact (if_neg (by decide)).trans f1
      case g2 => exact (if_neg (by decide)).trans f2
      case g3 => exact (if_neg (by decide)).trans f3
      by_cases q : j = i
      · subst q
        rw [hci] at hc'
        cases hc'
        exact .inl hcf
      · exact hblk e j c' (by lia) hc'
    have hl := dA2.none.mpr hcf
    have R3 := R.mono fun q hq => List.mem_cons_of_mem (I, oI) (hsub2' q hq).1
    have hG := R3.hG
    obtain ⟨t0, n0, hdG⟩ := R3.hd
    repeat' (first | (guard_target = wpAny _ _ (compareOp CmpOp.NotEq (Value.ref _) (Value.ref _)) _ _ _; refine' rl_neB ?zr ?zN ?zm ?zl ?zi ?zj ?zk ?_; (case zr => with_reducible assumption); walk_at "aNm"; (case zl => k_mem); (case zi | zj => first | with_reducible assumption | exact nilN); (case zk => first | (show _ = true; simp; done) | (show _ = false; simp; done) | exact rfl)) | (guard_target = wpAny _ _ (compareOp CmpOp.Eq (Value.ref _) (Value.ref _)) _ _ _; refine' rl_eqB ?zr ?zN ?zm ?zl ?zi ?zj ?zk ?_; (case zr => with_reducible assumption); walk_at "aNm"; (case zl => k_mem); (case zi | zj => first | with_reducible assumption | exact nilN); (case zk => first | with_reducible assumption | exact rfl)) | ((fail_if_success guard_target = wpAny _ _ (exec (Stmt.While _ _ _ _) _) _ _ _); (fail_if_success guard_target = wpAny _ _ (exec (Stmt.For _ _ _ _ _) _) _ _ _); walk_at "mine"))
    refine gkids_ok (by assumption) (by assumption) X' T' (hr'.less (by decide)) R3 O OL hcn fun s5 D5 e5 vs5 ks5 sm5 F5 N5 hD5 hi5 hnd5 hl5 hk5 => ?_
    refine comp_walk (srcO := [(D5, lo vs5 e5)]) F5 N5 hr'.hh (by rw [List.size_toArray, IntsAre.len hi5]; lia) (by decide) rfl rfl (Src.list (rl_list N5 (.head _))) (fun q hq => by rw [List.mem_singleton.mp hq]; exact .head _)
      (fun j ys news' => IntsAre ys (zs ((ks5.take j).filter fun y => decide (y ∉ fd'.map (·.1)))) ∧ ∀ q ∈ (I, oI) :: newsF, q ∈ news') ⟨.nil, fun q hq => List.mem_cons_of_mem _ hq⟩ ?t1 ?f1
    case t1 =>
      rintro j v ys mC news' ext C s' hj hv sm7 F7 hmC N7 hdis hsrc7 hJ0 Z Z0 hZ hZ0
      refine hide fun G0 hG0 => ?_
      obtain ⟨hys, hsub7⟩ := hJ0
      refine hG0 ?_
      try clear hG0 G0
      have hjl : j < ks5.length := by rw [List.size_toArray, IntsAre.len hi5] at hj; exact hj
      have hkj : ks5[j]? = some (ks5[j]'hjl) := List.getElem?_eq_getElem hjl
      have htake : ks5.take (j + 1) = ks5.take j ++ [ks5[j]'hjl] := by rw [List.take_add_one, hkj]; rfl
      generalize ks5[j]'hjl = y at *
      obtain ⟨ty, e⟩ := IntsAre.get hi5 hkj
      have hv' : vs5[j]? = some v := by simpa using hv
      rw [hv'] at e
      cases e
      have hC7 : (L' + 1, oC) ∈ ext ++ news' := List.mem_append_right _ (hsub7 _ (.tail _ hC2))
      have hF7 : (FD, oF') ∈ ext ++ news' := List.mem_append_right _ (hsub7 _ (.tail _ hF2))
      refine wpAny_tests_one ?_
      by_cases hy : y ∈ fd'.map (·.1)
      · obtain ⟨dv, hdv⟩ : ∃ dv, lk kvs' y = some dv := by
          cases q : lk kvs' y with
          | none => exact absurd hy (dA2.none.mp q)
          | some b => exact ⟨b, rfl⟩
        repeat' (first | (guard_target = wpAny _ _ (compareOp CmpOp.NotEq (Value.ref _) (Value.ref _)) _ _ _; refine' rl_neB ?zr ?zN ?zm ?zl ?zi ?zj ?zk ?_; (case zr => with_reducible assumption); walk_at "aNm"; (case zl => k_mem); (case zi | zj => first | with_reducible assumption | exact nilN); (case zk => first | (show _ = true; simp; done) | (show _ = false; simp; done) | exact rfl)) | (guard_target = wpAny _ _ (compareOp CmpOp.Eq (Value.ref _) (Value.ref _)) _ _ _; refine' rl_eqB ?zr ?zN ?zm ?zl ?zi ?zj ?zk ?_; (case zr => with_reducible assumption); walk_at "aNm"; (case zl => k_mem); (case zi | zj => first | with_reducible assumption | exact nilN); (case zk => first | with_reducible assumption | exact rfl)) | ((fail_if_success guard_target = wpAny _ _ (exec (Stmt.While _ _ _ _) _) _ _ _); (fail_if_success guard_target = wpAny _ _ (exec (Stmt.For _ _ _ _ _) _) _ _ _); walk_at "mine"))
        refine hZ0 _ ⟨⟨sm7.1, sm7.2⟩, mC, news', by assumption, by assumption, hdis, hsrc7, ?_, hsub7⟩
        rw [htake, List.filter_append]
        simpa [hy] using hys
      · have hly := dA2.none.mpr hy
        repeat' (first | (guard_target = wpAny _ _ (compareOp CmpOp.NotEq (Value.ref _) (Value.ref _)) _ _ _; refine' rl_neB ?zr ?zN ?zm ?zl ?zi ?zj ?zk ?_; (case zr => with_reducible assumption); walk_at "aNm"; (case zl => k_mem); (case zi | zj => first | with_reducible assumption | exact nilN); (case zk => first | (show _ = true; simp; done) | (show _ = false; simp; done) | exact rfl)) | (guard_target = wpAny _ _ (compareOp CmpOp.Eq (Value.ref _) (Value.ref _)) _ _ _; refine' rl_eqB ?zr ?zN ?zm ?zl ?zi ?zj ?zk ?_; (case zr => with_reducible assumption); walk_at "aNm"; (case zl => k_mem); (case zi | zj => first | with_reducible assumption | exact nilN); (case zk => first | with_reducible assumption | exact rfl)) | ((fail_if_success guard_target = wpAny _ _ (exec (Stmt.While _ _ _ _) _) _ _ _); (fail_if_success guard_target = wpAny _ _ (exec (Stmt.For _ _ _ _ _) _) _ _ _); walk_at "mine"))
        refine hZ _ _ ⟨⟨sm7.1, sm7.2⟩, mC, news', by assumption, by assumption, hdis, hsrc7, ?_, hsub7⟩
        rw [htake, List.filter_append]
        have := intsAre_append hys (intsAre_one y ty)
        simpa [hy] using this
    case f1 =>
      rintro D8 c8 ys news8 s8 sm8 F8 N8 hD8 hlt8 ⟨hys, hsub8⟩
      replace N8 : News g' L' s8.heap ((D8, lo ys c8) :: news8) := N8
      have e0 : ks5.take vs5.toArray.size = ks5 := List.take_of_length_le (by rw [List.size_toArray, IntsAre.len hi5]; lia)
      rw [e0] at hys
      have hfl : ∀ y, y ∈ (ks5.filter fun y => decide (y ∉ fd'.map (·.1))) ↔ KK nodes st rt c y ∧ y ∉ fd'.map (·.1) := fun y => by
        rw [List.mem_filter, hk5]; simp
      generalize (ks5.filter fun y => decide (y ∉ fd'.map (·.1))) = fl at *
      have hC8 := hsub8 _ (.tail _ hC2)
      have hF8 := hsub8 _ (.tail _ hF2)
      clear hG hdG R3
      have R8 := R.mono fun q hq => List.mem_cons_of_mem (D8, lo ys c8) (hsub8 _ (.tail _ (hsub2' q hq).1))
      have hG := R8.hG
      obtain ⟨t0, n0, hdG⟩ := R8.hd
      by_cases hfe : fl = []
      · have hcmp : decide (fl = []) = true := decide_eq_true hfe
        repeat' (first | (guard_target = wpAny _ _ (compareOp CmpOp.NotEq (Value.ref _) (Value.ref _)) _ _ _; refine' rl_neB ?zr ?zN ?zm ?zl ?zi ?zj ?zk ?_; (case zr => with_reducible assumption); walk_at "aNm"; (case zl => k_mem); (case zi | zj => first | with_reducible assumption | exact nilN); (case zk => first | (show _ = true; simp; done) | (show _ = false; simp; done) | exact rfl)) | (guard_target = wpAny _ _ (compareOp CmpOp.Eq (Value.ref _) (Value.ref _)) _ _ _; refine' rl_eqB ?zr ?zN ?zm ?zl ?zi ?zj ?zk ?_; (case zr => with_reducible assumption); walk_at "aNm"; (case zl => k_mem); (case zi | zj => first | with_reducible assumption | exact nilN); (case zk => first | with_reducible assumption | exact rfl)) | ((fail_if_success guard_target = wpAny _ _ (exec (Stmt.While _ _ _ _) _) _ _ _); (fail_if_success guard_target = wpAny _ _ (exec (Stmt.For _ _ _ _ _) _) _ _ _); walk_at "mine"))
        refine gkids_ok (by assumption) (by assumption) X' T' (hr'.less (by decide)) (R8.mono fun q hq => List.mem_cons_of_mem _ hq) O OL hcn fun sA DA eA vsA ksA smA FA NA hDA hiA hndA hlA hkA => ?_
        have hall : ∀ y ∈ ksA, y ∈ fd'.map (·.1) := fun y hy => by
          by_cases q : y ∈ fd'.map (·.1)
          · exact q
          · have := (hfl y).mpr ⟨(hkA y).mp hy, q⟩
            rw [hfe] at this
            cases this
        refine comp_walk (srcO := [(DA, lo vsA eA)]) FA NA hr'.hh (by rw [List.size_toArray, IntsAre.len hiA]; lia) (by decide) rfl rfl (Src.list (rl_list NA (.head _))) (fun q hq => by rw [List.mem_singleton.mp hq]; exact .head _)
          (fun j ys news' => (∃ ds, IntsAre ys (zs ds) ∧ ds.length = j ∧ ∀ (i : Nat) y d, ksA[i]? = some y → ds[i]? = some d → (y, d) ∈ fd') ∧ ∀ q ∈ (I, oI) :: newsF, q ∈ news') ⟨⟨[], .nil, rfl, fun i y d _ h => by simp at h⟩, fun q hq => List.mem_cons_of_mem _ (List.mem_cons_of_mem _ (List.mem_cons_of_mem _ (hsub8 q hq)))⟩ ?t2 ?f2
        case t2 =>
          rintro j v ys2 mC news' ext C s' hj hv smB FB hmC NB hdis hsrcB hJ0 Z Z0 hZ hZ0
          refine hide fun G0 hG0 => ?_
          obtain ⟨⟨ds, hys2, hdl, hds⟩, hsubB⟩ := hJ0
          refine hG0 ?_
          try clear hG0 G0
          have hjl : j < ksA.length := by rw [List.size_toArray, IntsAre.len hiA] at hj; exact hj
          have hkj : ksA[j]? = some (ksA[j]'hjl) := List.getElem?_eq_getElem hjl
          have hyA := hall _ (List.getElem_mem hjl)
          generalize ksA[j]'hjl = y at *
          obtain ⟨ty, e⟩ := IntsAre.get hiA hkj
          have hv' : vsA[j]? = some v := by simpa using hv
          rw [hv'] at e
          cases e
          refine hide fun G0 hG0 => ?_
          obtain ⟨pd, hpd, rfl⟩ := List.mem_map.mp hyA
          obtain ⟨td, hdv⟩ := dA2.get hGI2.nd (show (pd.1, pd.2) ∈ fd' from hpd)
          refine hG0 ?_
          try clear hG0 G0
          have hCB : (L' + 1, oC) ∈ ext ++ news' := List.mem_append_right _ (hsubB _ (.tail _ hC2))
          have hFB : (FD, oF') ∈ ext ++ news' := List.mem_append_right _ (hsubB _ (.tail _ hF2))
          refine wpAny_tests_nil (ifT ?_)
          repeat' (first | (guard_target = wpAny _ _ (compareOp CmpOp.NotEq (Value.ref _) (Value.ref _)) _ _ _; refine' rl_neB ?zr ?zN ?zm ?zl ?zi ?zj ?zk ?_; (case zr => with_reducible assumption); walk_at "aNm"; (case zl => k_mem); (case zi | zj => first | with_reducible assumption | exact nilN); (case zk => first | (show _ = true; simp; done) | (show _ = false; simp; done) | exact rfl)) | (guard_target = wpAny _ _ (compareOp CmpOp.Eq (Value.ref _) (Value.ref _)) _ _ _; refine' rl_eqB ?zr ?zN ?zm ?zl ?zi ?zj ?zk ?_; (case zr => with_reducible assumption); walk_at "aNm"; (case zl => k_mem); (case zi | zj => first | with_reducible assumption | exact nilN); (case zk => first | with_reducible assumption | exact rfl)) | ((fail_if_success guard_target = wpAny _ _ (exec (Stmt.While _ _ _ _) _) _ _ _); (fail_if_success guard_target = wpAny _ _ (exec (Stmt.For _ _ _ _ _) _) _ _ _); walk_at "mine"))
          refine hZ _ _ ⟨⟨smB.1, smB.2⟩, mC, news', by assumption, by assumption, hdis, hsrcB, ⟨ds ++ [pd.2], intsAre_append hys2 (intsAre_one _ _), by simp [hdl], fun i y d hy hd => ?_⟩, hsubB⟩
          by_cases q : i < ds.length
          · rw [List.getElem?_append_left q] at hd
            exact hds i y d hy hd
          · have hie : i = j := by
              have := (List.getElem?_eq_some_iff.mp hd).1
              simp at this; lia
            subst hie
            rw [List.getElem?_append_right (by lia), show i - ds.length = 0 by lia] at hd
            simp at hd
            subst hd
            rw [hkj] at hy
            cases hy
            exact hpd
        case f2 =>
          rintro DB cB ysB newsB sB smB FB NB hDB hltB ⟨⟨ds, hys2, hdl, hds⟩, hsubB⟩
          replace NB : News g' L' sB.heap ((DB, lo ysB cB) :: newsB) := NB
          have hdl2 : ds.length = ksA.length := by rw [hdl, List.size_toArray, IntsAre.len hiA]
          have hdb : ∀ d ∈ ds, d ≤ 1000 := fun d hd => by
            refine hide fun G0 hG0 => ?_
            obtain ⟨i, hi, e⟩ := List.getElem_of_mem hd
            refine hG0 ?_
            try clear hG0 G0
            have := hGI2.le _ (hds i (ksA[i]'(by lia)) d (List.getElem?_eq_getElem _) (by rw [List.getElem?_eq_getElem hi, e]))
            dsimp only at this
            lia
          have hCB := hsubB _ (.tail _ hC2)
          have hFB := hsubB _ (.tail _ hF2)
          repeat' (first | (guard_target = wpAny _ _ (compareOp CmpOp.NotEq (Value.ref _) (Value.ref _)) _ _ _; refine' rl_neB ?zr ?zN ?zm ?zl ?zi ?zj ?zk ?_; (case zr => with_reducible assumption); walk_at "aNm"; (case zl => k_mem); (case zi | zj => first | with_reducible assumption | exact nilN); (case zk => first | (show _ = true; simp; done) | (show _ = false; simp; done) | exact rfl)) | (guard_target = wpAny _ _ (compareOp CmpOp.Eq (Value.ref _) (Value.ref _)) _ _ _; refine' rl_eqB ?zr ?zN ?zm ?zl ?zi ?zj ?zk ?_; (case zr => with_reducible assumption); walk_at "aNm"; (case zl => k_mem); (case zi | zj => first | with_reducible assumption | exact nilN); (case zk => first | with_reducible assumption | exact rfl)) | ((fail_if_success guard_target = wpAny _ _ (exec (Stmt.While _ _ _ _) _) _ _ _); (fail_if_success guard_target = wpAny _ _ (exec (Stmt.For _ _ _ _ _) _) _ _ _); walk_at "mine"))
          refine over_ok (by assumption) (by assumption) X' T' (hr'.less (by decide)) (.head _) hys2 (by lia) hdb fun tE sE smE FE NE => ?_
          repeat' (first | (guard_target = wpAny _ _ (compareOp CmpOp.NotEq (Value.ref _) (Value.ref _)) _ _ _; refine' rl_neB ?zr ?zN ?zm ?zl ?zi ?zj ?zk ?_; (case zr => with_reducible assumption); walk_at "aNm"; (case zl => k_mem); (case zi | zj => first | with_reducible assumption | exact nilN); (case zk => first | (show _ = true; simp; done) | (show _ = false; simp; done) | exact rfl)) | (guard_target = wpAny _ _ (compareOp CmpOp.Eq (Value.ref _) (Value.ref _)) _ _ _; refine' rl_eqB ?zr ?zN ?zm ?zl ?zi ?zj ?zk ?_; (case zr => with_reducible assumption); walk_at "aNm"; (case zl => k_mem); (case zi | zj => first | with_reducible assumption | exact nilN); (case zk => first | with_reducible assumption | exact rfl)) | ((fail_if_success guard_target = wpAny _ _ (exec (Stmt.While _ _ _ _) _) _ _ _); (fail_if_success guard_target = wpAny _ _ (exec (Stmt.For _ _ _ _ _) _) _ _ _); walk_at "mine"))
          refine rd_set (by assumption) (by assumption) (.tail _ hFB) dF2 (by rw [show kvs'.length = fd'.length by simpa using congrArg List.length dA2.keys]; lia) fun o4 h4 F4 N4 d4 => ?_
          rw [put_new hl] at d4
          have hFI : FD ≠ I := hnI _ hF2
          repeat' (first | (guard_target = wpAny _ _ (compareOp CmpOp.NotEq (Value.ref _) (Value.ref _)) _ _ _; refine' rl_neB ?zr ?zN ?zm ?zl ?zi ?zj ?zk ?_; (case zr => with_reducible assumption); walk_at "aNm"; (case zl => k_mem); (case zi | zj => first | with_reducible assumption | exact nilN); (case zk => first | (show _ = true; simp; done) | (show _ = false; simp; done) | exact rfl)) | (guard_target = wpAny _ _ (compareOp CmpOp.Eq (Value.ref _) (Value.ref _)) _ _ _; refine' rl_eqB ?zr ?zN ?zm ?zl ?zi ?zj ?zk ?_; (case zr => with_reducible assumption); walk_at "aNm"; (case zl => k_mem); (case zi | zj => first | with_reducible assumption | exact nilN); (case zk => first | with_reducible assumption | exact rfl)) | ((fail_if_success guard_target = wpAny _ _ (exec (Stmt.While _ _ _ _) _) _ _ _); (fail_if_success guard_target = wpAny _ _ (exec (Stmt.For _ _ _ _ _) _) _ _ _); walk_at "mine"))
          refine nx <| hZ _ ⟨⟨smE.1.trans (smB.1.trans (smA.1.trans (sm8.1.trans (sm5.1.trans sm2.1)))), smE.2.trans (smB.2.trans (smA.2.trans (sm8.2.trans (sm5.2.trans sm2.2))))⟩, _, upd FD o4 newsF, by assumption,
            nsub (by assumption) fun q hq => (List.mem_cons.mp hq).elim (fun e => by subst e; exact upd_ne (.tail _ (hsubB _ (.head _))) hFI.symm) (fun hq => upd_sub (fun q hq => List.mem_cons_of_mem _ (hsubB q (.tail _ hq))) q hq),
            fun q hq => by
              refine hide fun G0 hG0 => ?_
              obtain ⟨q0, hq0, e0⟩ := upd_mem hq
              refine hG0 ?_
              try clear hG0 G0
              rw [← e0]; exact hnI q0 hq0,
            fun q hq => by
              rw [List.mem_singleton.mp hq]; exact upd_ne hD1s hFD1.symm,
            o4, _, fd' ++ [(c, 1 + mx ds)], ?g1, ?g2, ?g3, upd_ne hC2 hCFD, upd_self hF2, d4, dA2.push c (1 + mx ds) tE, hGI2.add hcs hcf hkA hdl2 hds, fun q hq => ⟨upd_ne (hsub2' q hq).1 (hsub2' q hq).2, (hsub2' q hq).2⟩, by rw [List.length_append]; lia, fun e => ?_⟩
          case g1 => exact (if_neg (by decide)).trans f1
          case g2 => exact (if_neg (by decide)).trans f2
          case g3 => exact (if_neg (by decide)).trans f3
          rw [List.length_append] at e
          simp at e
          lia
      · have hcmp : decide (fl = []) = false := decide_eq_false hfe
        repeat' (first | (guard_target = wpAny _ _ (compareOp CmpOp.NotEq (Value.ref _) (Value.ref _)) _ _ _; refine' rl_neB ?zr ?zN ?zm ?zl ?zi ?zj ?zk ?_; (case zr => with_reducible assumption); walk_at "aNm"; (case zl => k_mem); (case zi | zj => first | with_reducible assumption | exact nilN); (case zk => first | (show _ = true; simp; done) | (show _ = false; simp; done) | exact rfl)) | (guard_target = wpAny _ _ (compareOp CmpOp.Eq (Value.ref _) (Value.ref _)) _ _ _; refine' rl_eqB ?zr ?zN ?zm ?zl ?zi ?zj ?zk ?_; (case zr => with_reducible assumption); walk_at "aNm"; (case zl => k_mem); (case zi | zj => first | with_reducible assumption | exact nilN); (case zk => first | with_reducible assumption | exact rfl)) | ((fail_if_success guard_target = wpAny _ _ (exec (Stmt.While _ _ _ _) _) _ _ _); (fail_if_success guard_target = wpAny _ _ (exec (Stmt.For _ _ _ _ _) _) _ _ _); walk_at "mine"))
        refine nx <| hZ _ ⟨⟨sm8.1.trans (sm5.1.trans sm2.1), sm8.2.trans (sm5.2.trans sm2.2)⟩, _, newsF, by assumption, nsub (by assumption) fun q hq => List.mem_cons_of_mem _ (List.mem_cons_of_mem _ (hsub8 q hq)), hnI, hsrc, oF', kvs', fd', ?g1, ?g2, ?g3, hC2, hF2, dF2, dA2, hGI2, hsub2', hle, fun e j c' hj hc' => ?_⟩
        case g1 => exact (if_neg (by decide)).trans f1
        case g2 => exact (if_neg (by decide)).trans f2
        case g3 => exact (if_neg (by decide)).trans f3
        by_cases q : j = i
        · subst q
          rw [hci] at hc'
          cases hc'
          obtain ⟨y, hy⟩ := List.exists_mem_of_ne_nil _ hfe
          exact .inr ⟨y, (hfl y).mp hy⟩
        · exact hblk e j c' (by lia) hc'
end
section
variable {w : World} {A : Around} {g : PySem.Heap} {L : Addr} {m mg mb : PySem.Str → Option Value} {s : Shared} {news : List (Addr × Obj)} {p : Program} {loose : List PySem.Str} {a : HA} {G dG : Addr} {nodes : List (PySem.Str × List Nat)} {st : USt} {rt : Nat → Nat} {E : Value → Shared → Prop}
set_option maxHeartbeats 8000000 in
theorem gendless_ok {x : Nat} {tx : Tok} {Q : Value → Shared → Prop}
   (F : Fr g L s.heap m) (N : News g L s.heap news) (X : (hd.heap_39 w.params).In g) (T : TopRead p loose mg mb g) (hr : RoomOk A 10)
   (R : RepG w news G dG a nodes st) (O : OkC a nodes st rt) (OL : OkL nodes st rt) (hx : x < nodes.length)
   (h : ∀ s' b, Sm s s' → Fr g L s'.heap m → News g L s'.heap news → (b = true ↔ ¬ ∃ d, Dep (KK nodes st rt) (rt x) d) → Q (.bool b) s') :
   wpAny (model P w) A (call (.ref 80) [.ref G, .int x tx]) Q E s := by
  refine bd [("self", .ref G), ("c", .int x tx)] ?_
  (refine' callP ?zF ?zN ?zX ?zT ?zR ?k6 ?k7 ?k9 ?kB ?_ ?c5 ?c2 ?c3 ?c4; (case zF | zN | zX | zR => assumption); (case zT => apply TopRead.nolimit; assumption); (case k6 | k7 => k_is); (case k9 | kB | c2 | c3 | c4 => exact rfl); (case c5 => decide); intros)
  rename_i g' L' h' stay X' hr' F' N'
  have T' := T.keeps stay
  have hG := R.hG
  refine hide fun G0 hG0 => ?_
  obtain ⟨t0, n0, hdG⟩ := R.hd
  have hH := R.rc.hH
  obtain ⟨t1, t2, t3, t4, t5, t6, t7, t8, t9, n', hdH⟩ := R.rc.hd
  refine hG0 ?_
  try clear hG0 G0
  clear X T F N
  repeat' ((fail_if_success guard_target = wpAny _ _ (exec (Stmt.While _ _ _ _) _) _ _ _); (fail_if_success guard_target = wpAny _ _ (exec (Stmt.For _ _ _ _ _) _) _ _ _); walk_at "mine")
  refine hfind_ok (by assumption) (by assumption) X' T' (hr'.less (by decide)) R.rc O hx fun t10 s1 sm1 F1 N1 => ?_
  clear F' N'
  repeat' ((fail_if_success guard_target = wpAny _ _ (exec (Stmt.While _ _ _ _) _) _ _ _); (fail_if_success guard_target = wpAny _ _ (exec (Stmt.For _ _ _ _ _) _) _ _ _); walk_at "mine")
  refine gdepths_ok (by assumption) (by assumption) X' T' hr' R O OL hx fun s2 D o kvs fd sm2 F2 N2 hD lo2 dF dA hnd hle hle2 hfd => ?_
  have hkey : rt x ∈ fd.map (·.1) ↔ ∃ d, Dep (KK nodes st rt) (rt x) d := by
    constructor
    · intro hm
      refine hide fun G0 hG0 => ?_
      obtain ⟨p, hp, e⟩ := List.mem_map.mp hm
      refine hG0 ?_
      try clear hG0 G0
      exact ⟨p.2, by have := ((hfd p.1 p.2).mp hp).2; rwa [e] at this⟩
    · rintro ⟨d, hd⟩
      exact List.mem_map.mpr ⟨_, (hfd (rt x) d).mpr ⟨.refl, hd⟩, rfl⟩
  by_cases hk : rt x ∈ fd.map (·.1)
  · obtain ⟨dv, hdv⟩ : ∃ dv, lk kvs (rt x) = some dv := by
      cases q : lk kvs (rt x) with
      | none => exact absurd hk (dA.none.mp q)
      | some b => exact ⟨b, rfl⟩
    repeat' ((fail_if_success guard_target = wpAny _ _ (exec (Stmt.While _ _ _ _) _) _ _ _); (fail_if_success guard_target = wpAny _ _ (exec (Stmt.For _ _ _ _ _) _) _ _ _); walk_at "mine")
    refine lv_ret (by assumption) (by assumption) fun F9 N9 => h _ _ ⟨sm2.1.trans sm1.1, sm2.2.trans sm1.2⟩ F9 (nsub N9 fun q hq => List.mem_cons_of_mem _ hq) ?_
    simpa using hkey.mp hk
  · have hl := dA.none.mpr hk
    repeat' ((fail_if_success guard_target = wpAny _ _ (exec (Stmt.While _ _ _ _) _) _ _ _); (fail_if_success guard_target = wpAny _ _ (exec (Stmt.For _ _ _ _ _) _) _ _ _); walk_at "mine")
    refine lv_ret (by assumption) (by assumption) fun F9 N9 => h _ _ ⟨sm2.1.trans sm1.1, sm2.2.trans sm1.2⟩ F9 (nsub N9 fun q hq => List.mem_cons_of_mem _ hq) ?_
    simpa using fun d hd => hk (hkey.mpr ⟨d, hd⟩)
end
/-! ### dicts with tuples for keys, numbers for values -/
section
variable {prog : Program} {w : World} {K : Type} [DecidableEq K] {knd : HeapKind prog w K} {A : Around} {E : Value → Shared → Prop} {s : Shared} {d a : Addr} {k : K} {xs : List (K × Addr × Value)}
theorem sdH {dflt : Value} {Q : Value → Shared → Prop} (hu : knd.room A) (hkey : knd.is s.heap k a) (hm : s.heap.DictOfH knd d xs)
    (hthere : ∀ v, (atKey xs k).map (·.2) = some v → Q v { s with toks := s.toks + knd.draws k })
    (hnew : atKey xs k = none → ∀ h', h'.DictOfH knd d (xs ++ [(k, a, dflt)]) → Heap.SameBut d s.heap h' → Q dflt { s with heap := h', toks := s.toks + knd.draws k })
    (hsz : xs.length ≤ sizeLine) : wpAny (model prog w) A (dictSetDefault d (.ref a) dflt) Q E s := by
  obtain ⟨o, es, ep, ho, hc, hd, he, his, hn⟩ := hm
  unfold dictSetDefault
  try with_reducible refine wpAny_holding ?_
  refine wpAny_bind (knd.pyHash hu hkey (wpAny_bind (wpAny_dictFind_heap (s := { s with toks := s.toks + knd.draws k }) hu hkey ho hd he his hn ?_ ?_)))
  · intro hno
    have hnot : k ∉ xs.map (·.1) := not_mem_keys_of_get hno
    refine wpAny_bind (wpAny_rule (wpAny_bind (wpAny_updateDictKeys (hz := by have e := size_of_entries he; lia) (s := { s with toks := s.toks + knd.draws k }) ho hd (wpAny_pure (hnew (atKey_none_of_get hno) _ ⟨_, _, ep + 1, Heap.get?_update_self _ ho (Obj.isFreed_of_dict (Obj.data_mapDictKeys hd _)),
      hc.mapDictKeys _, Obj.data_mapDictKeys hd _, ?_, ?_, ?_⟩ (Heap.SameBut.update ..))))))
    · simp [he, entryOfKey]
    · intro x hx
      rcases List.mem_append.mp hx with hx | hx
      · exact knd.keeps (his x hx) ho hd (Heap.SameBut.update ..)
      · simp only [List.mem_singleton] at hx
        subst hx
        exact knd.keeps hkey ho hd (Heap.SameBut.update ..)
    · rw [List.map_append, List.nodup_append]
      refine ⟨hn, by simp, ?_⟩
      intro x hx y hy
      simp only [List.map_cons, List.map_nil, List.mem_singleton] at hy
      subst hy
      exact fun e => hnot (e ▸ hx)
  · intro j p hj
    refine wpAny_bind (wpAny_dictEntries (s := { s with toks := s.toks + knd.draws k }) ho hd ?_)
    rw [entry_at he j, hj]
    exact wpAny_bind (wpAny_rule (wpAny_pure (hthere p.2 (by rw [atKey_of_get hn hj]; rfl))))
theorem meetsH_setdefault (hd : (d == sysModules) = false) (dflt : Value) :
    MeetsIn prog w (Builtin.«dict.setdefault» ⟨[.ref d, .ref a, dflt], []⟩) (fun A R s => knd.room A.in1 ∧ ∃ k xs, knd.is s.heap k a ∧ s.heap.DictOfH knd d xs ∧ xs.length ≤ sizeLine ∧
      (∀ v, (atKey xs k).map (·.2) = some v → R (.ok (.ret v)) { s with toks := s.toks + knd.draws k }) ∧
      (atKey xs k = none → ∀ h', h'.DictOfH knd d (xs ++ [(k, a, dflt)]) → Heap.SameBut d s.heap h' → R (.ok (.ret dflt)) { s with heap := h', toks := s.toks + knd.draws k })) :=
  .of_wp fun A R s ⟨hu, k, xs, hkey, hm, hz, h1, h2⟩ => by
    unfold Builtin.«dict.setdefault»
    refine wpAny_bind ?_
    unfold Builtin.Dict.keyAndDefault
    refine wpAny_bind (wpAny_notOrdered_dict hm.typeIs ?_)
    show wpAny _ _ (pure (d, Value.ref a, some dflt)) _ _ s
    refine wpAny_pure ?_
    show wpAny _ _ (if (d == sysModules) = true then _ else (dictSetDefault d (.ref a) dflt >>= _)) _ _ s
    rw [if_neg (by rw [hd]; exact Bool.false_ne_true)]
    exact wpAny_bind (sdH hu hkey hm (fun v hv => wpAny_pure ⟨v, rfl, h1 v hv⟩) (fun hn h' hm' hs' => wpAny_pure ⟨dflt, rfl, h2 hn h' hm' hs'⟩) hz)
end

noncomputable abbrev TK (w : World) := tupleKind (atomKind P w)
inductive DTx (news : List (Addr × Obj)) : List (List Atm × Addr × Value) → List ((PySem.Str × List Nat) × Nat) → Prop
  | nil : DTx news [] []
  | cons {b : Addr} {k : PySem.Str × List Nat} {n : Nat} {t : Tok} {xs kvs} : TupV news (.ref b) k → DTx news xs kvs → DTx news ((tkey k, b, .int (n : Int) t) :: xs) ((k, n) :: kvs)
noncomputable def lkT (kvs : List ((PySem.Str × List Nat) × Nat)) (k : PySem.Str × List Nat) : Option Nat := (kvs.find? fun x => decide (x.1 = k)).map (·.2)
theorem lkT_some {kvs : List ((PySem.Str × List Nat) × Nat)} {k : PySem.Str × List Nat} {v : Nat} (h : lkT kvs k = some v) : (k, v) ∈ kvs := by
  unfold lkT at h
  obtain ⟨x, hx, rfl⟩ := Option.map_eq_some_iff.mp h
  have h1 := List.mem_of_find?_eq_some hx
  have h2 := List.find?_some hx
  simp only [decide_eq_true_eq] at h2
  rw [← h2]; exact h1
section
variable {news news' : List (Addr × Obj)} {xs : List (List Atm × Addr × Value)} {kvs : List ((PySem.Str × List Nat) × Nat)} {k : PySem.Str × List Nat} {n : Nat}
theorem DTx.mono (h : DTx news xs kvs) (hs : ∀ b us n, (b, tu us n) ∈ news → (b, tu us n) ∈ news') : DTx news' xs kvs := by
  induction h with
  | nil => exact .nil
  | cons hk _ ih =>
    obtain ⟨b, t, us, n, e, hm, hi⟩ := hk
    exact .cons ⟨b, t, us, n, e, hs _ _ _ hm, hi⟩ ih
theorem DTx.snoc (h : DTx news xs kvs) {b : Addr} {t : Tok} (hk : TupV news (.ref b) k) : DTx news (xs ++ [(tkey k, b, .int (n : Int) t)]) (kvs ++ [(k, n)]) := by
  induction h with
  | nil => exact .cons hk .nil
  | cons hk' _ ih => exact .cons hk' ih
theorem DTx.get (h : DTx news xs kvs) : (lkT kvs k = none → atKey xs (tkey k) = none) ∧ (∀ n, lkT kvs k = some n → ∃ b t, atKey xs (tkey k) = some (b, .int (n : Int) t)) := by
  induction h with
  | nil => exact ⟨fun _ => rfl, fun n h => by simp [lkT] at h⟩
  | @cons b k' n' t xs kvs hk _ ih =>
    by_cases e : k' = k
    · subst e
      refine ⟨fun h => ?_, fun n h => ⟨b, t, ?_⟩⟩
      · simp [lkT] at h
      · simp [lkT] at h
        subst h
        simp [atKey]
    · have e2 : ¬ tkey k' = tkey k := fun q => e (tkey_inj q)
      have a1 : lkT ((k', n') :: kvs) k = lkT kvs k := by simp [lkT, List.find?_cons, e]
      have a2 : atKey ((tkey k', b, Value.int (n' : Int) t) :: xs) (tkey k) = atKey xs (tkey k) := by simp [atKey, List.find?_cons, e2]
      rw [a1, a2]; exact ih
theorem DTx.len (h : DTx news xs kvs) : xs.length = kvs.length := by
  induction h with
  | nil => rfl
  | cons _ _ ih => simp [ih]
end
noncomputable def DT (w : World) (news : List (Addr × Obj)) (o : Obj) (kvs : List ((PySem.Str × List Nat) × Nat)) : Prop :=
  ∃ es ep xs, o.ExactDict ∧ o.data = .dict es ep ∧ es.toList = xs.map (entryOfKey (TK w)) ∧ DTx news xs kvs ∧ (xs.map (·.1)).Nodup
section
variable {w : World} {A : Around} {g : PySem.Heap} {L D b : Addr} {m mg mb : PySem.Str → Option Value} {s : Shared} {news news' : List (Addr × Obj)} {o : Obj} {kvs : List ((PySem.Str × List Nat) × Nat)} {k : PySem.Str × List Nat} {n j : Nat} {t : Tok} {v : Value} {E : Value → Shared → Prop}
theorem DT.mono (h : DT w news o kvs) (hs : ∀ b us n, (b, tu us n) ∈ news → (b, tu us n) ∈ news') : DT w news' o kvs :=
  let ⟨es, ep, xs, h1, h2, h3, h4, h5⟩ := h; ⟨es, ep, xs, h1, h2, h3, h4.mono hs, h5⟩
theorem DT.heap {h : PySem.Heap} (N : News g L h news) (hm : (D, o) ∈ news) (hd : DT w news o kvs) : ∃ xs, h.DictOfH (TK w) D xs ∧ DTx news xs kvs := by
  obtain ⟨es, ep, xs, h1, h2, h3, h4, h5⟩ := hd
  refine ⟨xs, ⟨o, es, ep, (N _ hm).1, h1, h2, h3, ?_, h5⟩, h4⟩
  clear h3 h5
  induction h4 with
  | nil => intro x hx; cases hx
  | cons hk _ ih =>
    intro x hx
    rcases List.mem_cons.mp hx with rfl | hx
    · exact hk.key fun p hp => (N p hp).1
    · exact ih x hx
theorem dt_ne (N : News g L s.heap news) (hm : (D, o) ∈ news) (hd : DT w news o kvs) {us : List Value} {i : Nat} : (D, tu us i) ∉ news := fun h => by
  obtain ⟨es, ep, xs, h1, _⟩ := hd
  have := led_one N hm h
  subst this
  have := h1.1
  simp at this
theorem DT.back {h' : PySem.Heap} {o' : Obj} {xs : List (List Atm × Addr × Value)} (hne : ∀ us i, (D, tu us i) ∉ news) (hD : h'.DictOfH (TK w) D xs) (ho' : h'.get? D = some o') (hx : DTx news xs kvs) : DT w (upd D o' news) o' kvs := by
  obtain ⟨o, es, ep, ho, h1, h2, h3, _, h5⟩ := hD
  rw [ho] at ho'
  cases ho'
  refine ⟨es, ep, xs, h1, h2, h3, hx.mono fun b us i hb => upd_ne hb ?_, h5⟩
  rintro rfl
  exact hne _ _ hb
theorem dt_in {Q : Value → Shared → Prop} (hr : RoomOk A j) (N : News g L s.heap news) (hm : (D, o) ∈ news) (hd : DT w news o kvs) (lo : (D == sysModules) = false) (hk : TupV news (.ref b) k) (h : ∀ tk, Q (.bool (lkT kvs k).isSome) { s with toks := tk }) :
    wpAny (model P w) A (compareOp .In (.ref b) (.ref D)) Q E s := by
  obtain ⟨xs, hD, hx⟩ := hd.heap N hm
  refine wpAny_in_heap (knd := TK w) (k := tkey k) (tupleKind_room_in1 (by have := hr.un; have : cLine = 9900 := rfl; lia)) (hk.key fun p hp => (N p hp).1) lo hD ?_
  have e : (atKey xs (tkey k)).isSome = (lkT kvs k).isSome := by
    cases q : lkT kvs k with
    | none => rw [hx.get.1 q]; rfl
    | some n => obtain ⟨b, t, e⟩ := hx.get.2 n q; rw [e]; rfl
  rw [e]; exact h _
theorem dt_item {value slice : PySem.Expr} {Q : Value → Shared → Prop} (hr : RoomOk A j) (N : News g L s.heap news) (hm : (D, o) ∈ news) (hd : DT w news o kvs) (hk : TupV news (.ref b) k) (hl : lkT kvs k = some n) (h : ∀ t tk, Q (.int (n : Int) t) { s with toks := tk })
    (hs : subscripted slice false (.ref D) (.ref b) = operate [.ref D, .ref b] (getItem (.ref D) (.ref b)) := by with_unfolding_all rfl) :
    wpAny (model P w) A (subscriptTail value slice (.ref D) (.ref b)) Q E s := by
  obtain ⟨xs, hD, hx⟩ := hd.heap N hm
  obtain ⟨b', t, e⟩ := hx.get.2 n hl
  refine tail_any hD.typeIs slot_dict_getitem.lookup ?_ hs
  exact wpAny_getItem_heap (knd := TK w) (k := tkey k) (tupleKind_room_in1 (by have := hr.un; have : cLine = 9900 := rfl; lia)) (hk.key fun p hp => (N p hp).1) hD e (h _ _)
theorem dt_set {Q : Unit → Shared → Prop} (hr : RoomOk A j) (F : Fr g L s.heap m) (N : News g L s.heap news) (hm : (D, o) ∈ news) (hd : DT w news o kvs) (hk : TupV news (.ref b) k) (hl : lkT kvs k = none) (hz : kvs.length ≤ 2000)
    (h : ∀ o' h' tk, Fr g L h' m → News g L h' (upd D o' news) → DT w (upd D o' news) o' (kvs ++ [(k, n)]) → Q () { s with heap := h', toks := tk }) : wpAny (model P w) A (setItem (.ref D) (.ref b) (.int (n : Int) t)) Q E s := by
  obtain ⟨xs, hD, hx⟩ := hd.heap N hm
  refine wpAny_setItem_heap (knd := TK w) (k := tkey k) (tupleKind_room_in1 (by have := hr.un; have : cLine = 9900 := rfl; lia)) (hk.key fun p hp => (N p hp).1) hD (fun h' hD' hs => ?_) (by rw [hx.len, sizeLine_eq]; lia)
  rw [storedH_new (hx.get.1 hl)] at hD'
  obtain ⟨o', ho'⟩ : ∃ o', h'.get? D = some o' := let ⟨o, _, _, ho, _⟩ := hD'; ⟨o, ho⟩
  obtain ⟨F', N'⟩ := led_set F N hm hs ho'
  exact h o' h' _ F' N' (DT.back (fun _ _ => dt_ne N hm hd) hD' ho' (hx.snoc hk))
theorem dt_setdef_there {Q : Value → Shared → Prop} {dv : Value} (hr : RoomOk A j) (N : News g L s.heap news) (hm : (D, o) ∈ news) (hd : DT w news o kvs) (lo : (D == sysModules) = false) (hk : TupV news (.ref b) k) (hl : lkT kvs k = some n) (hz : kvs.length ≤ 2000)
    (h : ∀ t tk, Q (.int (n : Int) t) { s with toks := tk }) : wpAny (model P w) A (call (.builtin "dict.setdefault") [.ref D, .ref b, dv]) Q E s := by
  obtain ⟨xs, hD, hx⟩ := hd.heap N hm
  obtain ⟨b', t, e⟩ := hx.get.2 n hl
  refine call_meetsIn PySem.F.slot_dict_setdefault hD.typeIs PySem.F.entry_dict_setdefault (PySem.F.args_dict_setdefault_3 _ _ _) (meetsH_setdefault (knd := TK w) lo dv) ⟨tupleKind_room_in1 (by have := hr.un; have : cLine = 9900 := rfl; lia), tkey k, xs, hk.key fun p hp => (N p hp).1, hD, by rw [hx.len, sizeLine_eq]; lia, fun v hv => ?_, fun hn => ?_⟩
  · rw [e] at hv
    cases hv
    exact h _ _
  · rw [e] at hn; cases hn
theorem dt_setdef_new {Q : Value → Shared → Prop} (hr : RoomOk A j) (F : Fr g L s.heap m) (N : News g L s.heap news) (hm : (D, o) ∈ news) (hd : DT w news o kvs) (lo : (D == sysModules) = false) (hk : TupV news (.ref b) k) (hl : lkT kvs k = none) (hz : kvs.length ≤ 2000)
    (h : ∀ o' h' tk, Fr g L h' m → News g L h' (upd D o' news) → DT w (upd D o' news) o' (kvs ++ [(k, n)]) → Q (.int (n : Int) t) { s with heap := h', toks := tk }) : wpAny (model P w) A (call (.builtin "dict.setdefault") [.ref D, .ref b, .int (n : Int) t]) Q E s := by
  obtain ⟨xs, hD, hx⟩ := hd.heap N hm
  refine call_meetsIn PySem.F.slot_dict_setdefault hD.typeIs PySem.F.entry_dict_setdefault (PySem.F.args_dict_setdefault_3 _ _ _) (meetsH_setdefault (knd := TK w) lo _) ⟨tupleKind_room_in1 (by have := hr.un; have : cLine = 9900 := rfl; lia), tkey k, xs, hk.key fun p hp => (N p hp).1, hD, by rw [hx.len, sizeLine_eq]; lia, fun v hv => ?_, fun hn h' hD' hs => ?_⟩
  · rw [hx.get.1 hl] at hv; cases hv
  · obtain ⟨o', ho'⟩ : ∃ o', h'.get? D = some o' := let ⟨o, _, _, ho, _⟩ := hD'; ⟨o, ho⟩
    obtain ⟨F', N'⟩ := led_set F N hm hs ho'
    exact h o' h' _ F' N' (DT.back (fun _ _ => dt_ne N hm hd) hD' ho' (hx.snoc hk))
end
/-! ### a heap that changes -/
structure HS where
  nodes : List (PySem.Str × List Nat)
  st : USt
  wt : List Nat
  dp : List Nat
  kn : List ((PySem.Str × List Nat) × Nat)
  ab : List (Nat × Addr × List Nat)
  wq : List Nat
  ne : Nat
  nf : Nat
inductive DtA (w : World) (news : List (Addr × Obj)) (x : Addr) (kn : List ((PySem.Str × List Nat) × Nat)) : Prop
  | mk (o : Obj) (h : (x, o) ∈ news) (d : DT w news o kn) : DtA w news x kn
structure RepBX (w : World) (news : List (Addr × Obj)) (b : BA) (nodes : List (PySem.Str × List Nat)) (wt dp : List Nat) : Prop where
  rb : RepB w news b nodes
  hw : LsI news b.wL wt
  hp : LsI news b.pL dp
  hk : DtA w news b.nD nodes.zipIdx
  lo : (b.nD == sysModules) = false
  nd : (b.B :: b.dB :: b.own).Nodup
structure RepHX (w : World) (news : List (Addr × Obj)) (a : HA) (S : HS) : Prop where
  he : LsN news a.eL S.ne
  hf : LsN news a.fL S.nf
  hk : DtA w news a.kD S.kn
  hv : ∃ o, (a.vD, o) ∈ news ∧ DI w o (S.ab.map fun x => (x.1, Value.ref x.2.1))
  hl : ∀ x ∈ S.ab, LsI news x.2.1 x.2.2
  hq : LsI news a.qL S.wq
  lk : (a.kD == sysModules) = false
  lv : (a.vD == sysModules) = false
structure RolE (a : HA) (ab : List (Nat × Addr × List Nat)) (r : Addr → Nat) : Prop where
  h0 : r a.H = 0
  d0 : r a.dH = 0
  e1 : r a.eL = 1
  f2 : r a.fL = 2
  k3 : r a.kD = 3
  v4 : r a.vD = 4
  q5 : r a.qL = 5
  b6 : ∀ x ∈ a.b.B :: a.b.dB :: a.b.own, r x = 6
  u7 : ∀ x ∈ a.u.U :: a.u.dU :: a.u.own, r x = 7
  l8 : ∀ x ∈ ab.map (·.2.1), r x = 8
  nd : (ab.map (·.2.1)).Nodup
structure RepH (w : World) (news : List (Addr × Obj)) (a : HA) (S : HS) : Prop where
  rc : RepC w news a S.nodes S.st
  bx : RepBX w news a.b S.nodes S.wt S.dp
  hx : RepHX w news a S
  rol : ∃ r, RolE a S.ab r
noncomputable def HA.own (a : HA) (ab : List (Nat × Addr × List Nat)) : List Addr := a.eL :: a.fL :: a.kD :: a.vD :: a.qL :: (a.b.own ++ a.u.own ++ ab.map (·.2.1))
/-- all but X stays -/
structure Kp (X : List Addr) (news news' : List (Addr × Obj)) : Prop where
  k : ∀ p ∈ news, p.1 ∉ X → p ∈ news'
  t : ∀ x ∈ X, ∀ us n, (x, tu us n) ∉ news
section
variable {w : World} {news news' : List (Addr × Obj)} {a : HA} {b : BA} {u : UA} {st : USt} {S : HS} {nodes : List (PySem.Str × List Nat)} {X : List Addr} {wt dp : List Nat}
theorem Kp.tu (K : Kp X news news') {x : Addr} {us : List Value} {n : Nat} (h : (x, tu us n) ∈ news) : (x, Mine.tu us n) ∈ news' := K.k _ h fun hx => K.t _ hx _ _ h
theorem Kp.tupV (K : Kp X news news') {v : Value} {k : PySem.Str × List Nat} (h : TupV news v k) : TupV news' v k := by
  obtain ⟨b, t, us, n, e, hm, hi⟩ := h
  exact ⟨b, t, us, n, e, K.tu hm, hi⟩
theorem RepB.keep (R : RepB w news b nodes) (K : Kp X news news') (h : ∀ x ∈ b.B :: b.dB :: b.own, x ∉ X) : RepB w news' b nodes where
  hB := K.k _ R.hB (h _ (by simp))
  hd := let ⟨t1, t2, t3, t4, n, e⟩ := R.hd; ⟨t1, t2, t3, t4, n, K.k _ e (h _ (by simp))⟩
  hn := let ⟨us, n, h1, h2, h3⟩ := R.hn; ⟨us, n, K.k _ h1 (h _ (by simp [BA.own])), h2, fun i v k a c => K.tupV (h3 i v k a c)⟩
theorem RepBX.keep (R : RepBX w news b nodes wt dp) (K : Kp X news news') (h : ∀ x ∈ b.B :: b.dB :: b.own, x ∉ X) : RepBX w news' b nodes wt dp where
  rb := R.rb.keep K h
  hw := let ⟨us, n, h1, h2⟩ := R.hw; ⟨us, n, K.k _ h1 (h _ (by simp [BA.own])), h2⟩
  hp := let ⟨us, n, h1, h2⟩ := R.hp; ⟨us, n, K.k _ h1 (h _ (by simp [BA.own])), h2⟩
  hk := let ⟨o, h1, h2⟩ := R.hk; ⟨o, K.k _ h1 (h _ (by simp [BA.own])), h2.mono fun _ _ _ hb => K.tu hb⟩
  lo := R.lo
  nd := R.nd
theorem RepU.keep (R : RepU w news u st) (K : ∀ p ∈ news, p.1 ∉ X → p ∈ news') (h : ∀ x ∈ u.U :: u.dU :: u.own, x ∉ X) : RepU w news' u st where
  hU := K _ R.hU (h _ (by simp))
  hd := let ⟨t1, t2, t3, n, e⟩ := R.hd; ⟨t1, t2, t3, n, K _ e (h _ (by simp))⟩
  ha := let ⟨us, n, e, i⟩ := R.ha; ⟨us, n, K _ e (h _ (by simp [UA.own])), i⟩
  hl := let ⟨n, e⟩ := R.hl; ⟨n, K _ e (h _ (by simp [UA.own]))⟩
  hg := let ⟨vs, n, e, i⟩ := R.hg; ⟨vs, n, K _ e (h _ (by simp [UA.own])), i⟩
  hls := fun i b hb => let ⟨l, us, n, h1, h2, h3⟩ := R.hls i b hb; ⟨l, us, n, h1, K _ h2 (h _ (by simp [UA.own, List.mem_of_getElem? hb])), h3⟩
  nd := R.nd
/-- the heap's own two objects -/
theorem RepC.keep {nodes' : List (PySem.Str × List Nat)} {st' : USt} (R : RepC w news a nodes st) (K : Kp X news news') (h0 : a.H ∉ X) (h1 : a.dH ∉ X) (hb : RepB w news' a.b nodes') (hu : RepU w news' a.u st') : RepC w news' a nodes' st' where
  hH := K.k _ R.hH h0
  hd := let ⟨t1, t2, t3, t4, t5, t6, t7, t8, t9, n, h⟩ := R.hd; ⟨t1, t2, t3, t4, t5, t6, t7, t8, t9, n, K.k _ h h1⟩
  rb := hb
  ru := hu
theorem RepH.mono (R : RepH w news a S) (hs : ∀ p ∈ news, p ∈ news') : RepH w news' a S := by
  have K : Kp [] news news' := ⟨fun p hp _ => hs p hp, fun x hx => by cases hx⟩
  refine ⟨R.rc.mono hs, R.bx.keep K (fun x _ h => nomatch h), ?_, R.rol⟩
  have H := R.hx
  exact ⟨let ⟨a, b, c, d⟩ := H.he; ⟨a, b, hs _ c, d⟩, let ⟨a, b, c, d⟩ := H.hf; ⟨a, b, hs _ c, d⟩, let ⟨o, c, d⟩ := H.hk; ⟨o, hs _ c, d.mono fun _ _ _ hb => hs _ hb⟩,
    let ⟨o, c, d⟩ := H.hv; ⟨o, hs _ c, d⟩, fun x hx => let ⟨a, b, c, d⟩ := H.hl x hx; ⟨a, b, hs _ c, d⟩, let ⟨a, b, c, d⟩ := H.hq; ⟨a, b, hs _ c, d⟩, H.lk, H.lv⟩
/-- bank and unions and head stay when something of the heap's own changes -/
theorem RepH.base (R : RepH w news a S) (K : Kp X news news') {r : Addr → Nat} (hr : RolE a S.ab r) (hX : ∀ x ∈ X, r x ≠ 0 ∧ r x ≠ 6 ∧ r x ≠ 7) : RepC w news' a S.nodes S.st ∧ RepBX w news' a.b S.nodes S.wt S.dp := by
  have hB := R.bx.keep K fun x hx h => (hX x h).2.1 (hr.b6 x hx)
  have hU := R.rc.ru.keep K.k fun x hx h => (hX x h).2.2 (hr.u7 x hx)
  exact ⟨R.rc.keep K (fun h => (hX _ h).1 hr.h0) (fun h => (hX _ h).1 hr.d0) hB.rb hU, hB⟩
theorem kp_upd {x : Addr} {o : Obj} (ht : ∀ us n, (x, tu us n) ∉ news) : Kp [x] news (upd x o news) :=
  ⟨fun p hp hn => upd_ne hp fun e => hn (by simp [e]), fun y hy => by rw [List.mem_singleton.mp hy]; exact ht⟩
theorem RepH.updE (R : RepH w news a S) {vs' : List Value} {n' : Nat} (ht : ∀ us n, (a.eL, tu us n) ∉ news) : RepH w (upd a.eL (lo vs' n') news) a { S with ne := vs'.length } := by
  obtain ⟨r, hr⟩ := R.rol
  have K := kp_upd (o := Mine.lo vs' n') ht
  obtain ⟨h1, h2⟩ := R.base K hr fun x hx => by rw [List.mem_singleton.mp hx, hr.e1]; decide
  have ne : ∀ y, r y ≠ 1 → y ∉ [a.eL] := fun y hy h => hy (by rw [List.mem_singleton.mp h]; exact hr.e1)
  have H := R.hx
  exact ⟨h1, h2, ⟨let ⟨_, _, c, _⟩ := H.he; ⟨vs', n', upd_self c, rfl⟩, let ⟨p, q, c, d⟩ := H.hf; ⟨p, q, K.k _ c (ne _ (by rw [hr.f2]; decide)), d⟩, let ⟨o, c, d⟩ := H.hk; ⟨o, K.k _ c (ne _ (by rw [hr.k3]; decide)), d.mono fun _ _ _ hb => K.tu hb⟩,
    let ⟨o, c, d⟩ := H.hv; ⟨o, K.k _ c (ne _ (by rw [hr.v4]; decide)), d⟩, fun x hx => let ⟨p, q, c, d⟩ := H.hl x hx; ⟨p, q, K.k _ c (ne _ (by rw [hr.l8 _ (List.mem_map.mpr ⟨x, hx, rfl⟩)]; decide)), d⟩,
    let ⟨p, q, c, d⟩ := H.hq; ⟨p, q, K.k _ c (ne _ (by rw [hr.q5]; decide)), d⟩, H.lk, H.lv⟩, ⟨r, hr.h0, hr.d0, hr.e1, hr.f2, hr.k3, hr.v4, hr.q5, hr.b6, hr.u7, hr.l8, hr.nd⟩⟩
theorem RepH.updF (R : RepH w news a S) {vs' : List Value} {n' : Nat} (ht : ∀ us n, (a.fL, tu us n) ∉ news) : RepH w (upd a.fL (lo vs' n') news) a { S with nf := vs'.length } := by
  obtain ⟨r, hr⟩ := R.rol
  have K := kp_upd (o := Mine.lo vs' n') ht
  obtain ⟨h1, h2⟩ := R.base K hr fun x hx => by rw [List.mem_singleton.mp hx, hr.f2]; decide
  have ne : ∀ y, r y ≠ 2 → y ∉ [a.fL] := fun y hy h => hy (by rw [List.mem_singleton.mp h]; exact hr.f2)
  have H := R.hx
  exact ⟨h1, h2, ⟨let ⟨p, q, c, d⟩ := H.he; ⟨p, q, K.k _ c (ne _ (by rw [hr.e1]; decide)), d⟩, let ⟨_, _, c, _⟩ := H.hf; ⟨vs', n', upd_self c, rfl⟩, let ⟨o, c, d⟩ := H.hk; ⟨o, K.k _ c (ne _ (by rw [hr.k3]; decide)), d.mono fun _ _ _ hb => K.tu hb⟩,
    let ⟨o, c, d⟩ := H.hv; ⟨o, K.k _ c (ne _ (by rw [hr.v4]; decide)), d⟩, fun x hx => let ⟨p, q, c, d⟩ := H.hl x hx; ⟨p, q, K.k _ c (ne _ (by rw [hr.l8 _ (List.mem_map.mpr ⟨x, hx, rfl⟩)]; decide)), d⟩,
    let ⟨p, q, c, d⟩ := H.hq; ⟨p, q, K.k _ c (ne _ (by rw [hr.q5]; decide)), d⟩, H.lk, H.lv⟩, ⟨r, hr.h0, hr.d0, hr.e1, hr.f2, hr.k3, hr.v4, hr.q5, hr.b6, hr.u7, hr.l8, hr.nd⟩⟩
theorem RepH.updK (R : RepH w news a S) {o' : Obj} {kn' : List ((PySem.Str × List Nat) × Nat)} (ht : ∀ us n, (a.kD, tu us n) ∉ news) (hd : DT w (upd a.kD o' news) o' kn') : RepH w (upd a.kD o' news) a { S with kn := kn' } := by
  obtain ⟨r, hr⟩ := R.rol
  have K := kp_upd (o := o') ht
  obtain ⟨h1, h2⟩ := R.base K hr fun x hx => by rw [List.mem_singleton.mp hx, hr.k3]; decide
  have ne : ∀ y, r y ≠ 3 → y ∉ [a.kD] := fun y hy h => hy (by rw [List.mem_singleton.mp h]; exact hr.k3)
  have H := R.hx
  exact ⟨h1, h2, ⟨let ⟨p, q, c, d⟩ := H.he; ⟨p, q, K.k _ c (ne _ (by rw [hr.e1]; decide)), d⟩, let ⟨p, q, c, d⟩ := H.hf; ⟨p, q, K.k _ c (ne _ (by rw [hr.f2]; decide)), d⟩, let ⟨_, c, _⟩ := H.hk; ⟨o', upd_self c, hd⟩,
    let ⟨o, c, d⟩ := H.hv; ⟨o, K.k _ c (ne _ (by rw [hr.v4]; decide)), d⟩, fun x hx => let ⟨p, q, c, d⟩ := H.hl x hx; ⟨p, q, K.k _ c (ne _ (by rw [hr.l8 _ (List.mem_map.mpr ⟨x, hx, rfl⟩)]; decide)), d⟩,
    let ⟨p, q, c, d⟩ := H.hq; ⟨p, q, K.k _ c (ne _ (by rw [hr.q5]; decide)), d⟩, H.lk, H.lv⟩, ⟨r, hr.h0, hr.d0, hr.e1, hr.f2, hr.k3, hr.v4, hr.q5, hr.b6, hr.u7, hr.l8, hr.nd⟩⟩
theorem RepH.updQ (R : RepH w news a S) {us' : List Value} {wq' : List Nat} {n' : Nat} (ht : ∀ us n, (a.qL, tu us n) ∉ news) (hi : IntsAre us' (zs wq')) : RepH w (upd a.qL (lo us' n') news) a { S with wq := wq' } := by
  obtain ⟨r, hr⟩ := R.rol
  have K := kp_upd (o := Mine.lo us' n') ht
  obtain ⟨h1, h2⟩ := R.base K hr fun x hx => by rw [List.mem_singleton.mp hx, hr.q5]; decide
  have ne : ∀ y, r y ≠ 5 → y ∉ [a.qL] := fun y hy h => hy (by rw [List.mem_singleton.mp h]; exact hr.q5)
  have H := R.hx
  exact ⟨h1, h2, ⟨let ⟨p, q, c, d⟩ := H.he; ⟨p, q, K.k _ c (ne _ (by rw [hr.e1]; decide)), d⟩, let ⟨p, q, c, d⟩ := H.hf; ⟨p, q, K.k _ c (ne _ (by rw [hr.f2]; decide)), d⟩, let ⟨o, c, d⟩ := H.hk; ⟨o, K.k _ c (ne _ (by rw [hr.k3]; decide)), d.mono fun _ _ _ hb => K.tu hb⟩,
    let ⟨o, c, d⟩ := H.hv; ⟨o, K.k _ c (ne _ (by rw [hr.v4]; decide)), d⟩, fun x hx => let ⟨p, q, c, d⟩ := H.hl x hx; ⟨p, q, K.k _ c (ne _ (by rw [hr.l8 _ (List.mem_map.mpr ⟨x, hx, rfl⟩)]; decide)), d⟩,
    let ⟨_, _, c, _⟩ := H.hq; ⟨us', n', upd_self c, hi⟩, H.lk, H.lv⟩, ⟨r, hr.h0, hr.d0, hr.e1, hr.f2, hr.k3, hr.v4, hr.q5, hr.b6, hr.u7, hr.l8, hr.nd⟩⟩
/-- the dict `above` changes: to entries that stand -/
theorem RepH.updV (R : RepH w news a S) {o' : Obj} {ab' : List (Nat × Addr × List Nat)} (ht : ∀ us n, (a.vD, tu us n) ∉ news) (hd : DI w o' (ab'.map fun x => (x.1, Value.ref x.2.1))) (hl : ∀ x ∈ ab', LsI news x.2.1 x.2.2)
    (hn : (ab'.map (·.2.1)).Nodup) (hf : ∀ x ∈ ab'.map (·.2.1), x ∈ S.ab.map (·.2.1) ∨ x ∉ a.H :: a.dH :: a.b.B :: a.b.dB :: a.u.U :: a.u.dU :: a.own []) : RepH w (upd a.vD o' news) a { S with ab := ab' } := by
  obtain ⟨r, hr⟩ := R.rol
  have K := kp_upd (o := o') ht
  obtain ⟨h1, h2⟩ := R.base K hr fun x hx => by rw [List.mem_singleton.mp hx, hr.v4]; decide
  have ne : ∀ y, r y ≠ 4 → y ∉ [a.vD] := fun y hy h => hy (by rw [List.mem_singleton.mp h]; exact hr.v4)
  have H := R.hx
  have no8 : ∀ x, x ∈ a.H :: a.dH :: a.b.B :: a.b.dB :: a.u.U :: a.u.dU :: a.own [] → r x ≠ 8 → x ∉ ab'.map (·.2.1) := fun x hx h8 hm => by
    rcases hf x hm with q | q
    · exact h8 (hr.l8 x q)
    · exact q hx
  have old : ∀ x, x ∈ a.H :: a.dH :: a.b.B :: a.b.dB :: a.u.U :: a.u.dU :: a.own [] → r x ≠ 8 → (if x ∈ ab'.map (·.2.1) then 8 else r x) = r x := fun x hx h8 => if_neg (no8 x hx h8)
  refine ⟨h1, h2, ⟨let ⟨p, q, c, d⟩ := H.he; ⟨p, q, K.k _ c (ne _ (by rw [hr.e1]; decide)), d⟩, let ⟨p, q, c, d⟩ := H.hf; ⟨p, q, K.k _ c (ne _ (by rw [hr.f2]; decide)), d⟩, let ⟨o, c, d⟩ := H.hk; ⟨o, K.k _ c (ne _ (by rw [hr.k3]; decide)), d.mono fun _ _ _ hb => K.tu hb⟩,
    let ⟨_, c, _⟩ := H.hv; ⟨o', upd_self c, hd⟩, fun x hx => let ⟨p, q, c, d⟩ := hl x hx; ⟨p, q, upd_ne c ?_, d⟩,
    let ⟨p, q, c, d⟩ := H.hq; ⟨p, q, K.k _ c (ne _ (by rw [hr.q5]; decide)), d⟩, H.lk, H.lv⟩, ⟨fun x => if x ∈ ab'.map (·.2.1) then 8 else r x, ?_⟩⟩
  · intro e
    exact no8 a.vD (by simp [HA.own]) (by rw [hr.v4]; decide) (e ▸ List.mem_map.mpr ⟨x, hx, rfl⟩)
  · refine ⟨?_, ?_, ?_, ?_, ?_, ?_, ?_, fun x hx => ?_, fun x hx => ?_, fun x hx => if_pos hx, hn⟩
    · rw [old _ (by simp) (by rw [hr.h0]; decide), hr.h0]
    · rw [old _ (by simp) (by rw [hr.d0]; decide), hr.d0]
    · rw [old _ (by simp [HA.own]) (by rw [hr.e1]; decide), hr.e1]
    · rw [old _ (by simp [HA.own]) (by rw [hr.f2]; decide), hr.f2]
    · rw [old _ (by simp [HA.own]) (by rw [hr.k3]; decide), hr.k3]
    · rw [old _ (by simp [HA.own]) (by rw [hr.v4]; decide), hr.v4]
    · rw [old _ (by simp [HA.own]) (by rw [hr.q5]; decide), hr.q5]
    · rw [old _ ?_ (by rw [hr.b6 x hx]; decide), hr.b6 x hx]
      simp only [List.mem_cons] at hx
      rcases hx with rfl | rfl | hx
      · simp
      · simp
      · simp [HA.own, hx]
    · rw [old _ ?_ (by rw [hr.u7 x hx]; decide), hr.u7 x hx]
      simp only [List.mem_cons] at hx
      rcases hx with rfl | rfl | hx
      · simp
      · simp
      · simp [HA.own, hx]
end
section
variable {w : World} {g h : PySem.Heap} {L : Addr} {news news' : List (Addr × Obj)} {a : HA} {b : BA} {u u' : UA} {st st' : USt} {S : HS} {nodes nodes' : List (PySem.Str × List Nat)} {X : List Addr} {wt dp wt' dp' : List Nat}
/-- one of the lists of `above` changes -/
noncomputable def setL (ab : List (Nat × Addr × List Nat)) (c : Nat) (l : List Nat) : List (Nat × Addr × List Nat) := ab.map fun y => if y.1 = c then (y.1, y.2.1, l) else y
theorem setL_refs {ab : List (Nat × Addr × List Nat)} {c : Nat} {l : List Nat} : (setL ab c l).map (fun x => (x.1, Value.ref x.2.1)) = ab.map fun x => (x.1, Value.ref x.2.1) := by
  unfold setL
  rw [List.map_map]
  refine List.map_congr_left fun x _ => ?_
  dsimp only [Function.comp]
  split <;> rfl
theorem setL_addrs {ab : List (Nat × Addr × List Nat)} {c : Nat} {l : List Nat} : (setL ab c l).map (·.2.1) = ab.map (·.2.1) := by
  unfold setL
  rw [List.map_map]
  refine List.map_congr_left fun x _ => ?_
  dsimp only [Function.comp]
  split <;> rfl
theorem setL_keys {ab : List (Nat × Addr × List Nat)} {c : Nat} {l : List Nat} : (setL ab c l).map (·.1) = ab.map (·.1) := by
  unfold setL
  rw [List.map_map]
  refine List.map_congr_left fun x _ => ?_
  dsimp only [Function.comp]
  split <;> rfl
theorem nodup_key {ab : List (Nat × Addr × List Nat)} (hn : (ab.map (·.2.1)).Nodup) {x y : Nat × Addr × List Nat} (hx : x ∈ ab) (hy : y ∈ ab) (e : x.2.1 = y.2.1) : x = y := by
  obtain ⟨i, hi, ei⟩ := List.getElem_of_mem hx
  obtain ⟨j, hj, ej⟩ := List.getElem_of_mem hy
  have : (ab.map (·.2.1))[i]'(by simpa using hi) = (ab.map (·.2.1))[j]'(by simpa using hj) := by simp [ei, ej, e]
  have hij := (List.getElem_inj hn).mp this
  subst hij
  exact ei.symm.trans ej
theorem RepH.updL (R : RepH w news a S) {x : Nat × Addr × List Nat} {us' : List Value} {l' : List Nat} {n' : Nat} (hx : x ∈ S.ab) (hkn : (S.ab.map (·.1)).Nodup) (ht : ∀ us n, (x.2.1, tu us n) ∉ news) (hi : IntsAre us' (zs l')) :
    RepH w (upd x.2.1 (lo us' n') news) a { S with ab := setL S.ab x.1 l' } := by
  obtain ⟨r, hr⟩ := R.rol
  have K := kp_upd (o := Mine.lo us' n') ht
  have hr8 : r x.2.1 = 8 := hr.l8 _ (List.mem_map.mpr ⟨x, hx, rfl⟩)
  obtain ⟨h1, h2⟩ := R.base K hr fun y hy => by rw [List.mem_singleton.mp hy, hr8]; decide
  have ne : ∀ y, r y ≠ 8 → y ∉ [x.2.1] := fun y hy h => hy (by rw [List.mem_singleton.mp h]; exact hr8)
  have H := R.hx
  refine ⟨h1, h2, ⟨let ⟨p, q, c, d⟩ := H.he; ⟨p, q, K.k _ c (ne _ (by rw [hr.e1]; decide)), d⟩, let ⟨p, q, c, d⟩ := H.hf; ⟨p, q, K.k _ c (ne _ (by rw [hr.f2]; decide)), d⟩, let ⟨o, c, d⟩ := H.hk; ⟨o, K.k _ c (ne _ (by rw [hr.k3]; decide)), d.mono fun _ _ _ hb => K.tu hb⟩,
    let ⟨o, c, d⟩ := H.hv; ⟨o, K.k _ c (ne _ (by rw [hr.v4]; decide)), by rw [setL_refs]; exact d⟩, fun y hy => ?_,
    let ⟨p, q, c, d⟩ := H.hq; ⟨p, q, K.k _ c (ne _ (by rw [hr.q5]; decide)), d⟩, H.lk, H.lv⟩, ⟨r, hr.h0, hr.d0, hr.e1, hr.f2, hr.k3, hr.v4, hr.q5, hr.b6, hr.u7, by rw [setL_addrs]; exact hr.l8, by rw [setL_addrs]; exact hr.nd⟩⟩
  obtain ⟨z, hz, rfl⟩ := List.mem_map.mp hy
  by_cases e : z.1 = x.1
  · have hzx : z = x := by
      obtain ⟨i, hi, ei⟩ := List.getElem_of_mem hz
      obtain ⟨j, hj, ej⟩ := List.getElem_of_mem hx
      have : (S.ab.map (·.1))[i]'(by simpa using hi) = (S.ab.map (·.1))[j]'(by simpa using hj) := by simp [ei, ej, e]
      have hij := (List.getElem_inj hkn).mp this
      subst hij
      exact ei.symm.trans ej
    subst hzx
    rw [if_pos rfl]
    obtain ⟨_, _, c, _⟩ := H.hl z hz
    exact ⟨us', n', upd_self c, hi⟩
  · rw [if_neg e]
    obtain ⟨p, q, c, d⟩ := H.hl z hz
    exact ⟨p, q, upd_ne c fun e2 => e (by rw [nodup_key hr.nd hz hx e2]), d⟩
theorem no_tu {x : Addr} {o : Obj} (N : News g L h news) (hm : (x, o) ∈ news) (hc : o.cls ≠ .type "tuple") (us : List Value) (n : Nat) : (x, tu us n) ∉ news := fun h2 => by
  have := led_one N hm h2
  subst this
  exact hc rfl
theorem RepU.notu (N : News g L h news) (R : RepU w news u st) : ∀ x ∈ u.own, ∀ us n, (x, tu us n) ∉ news := fun x hx us n => by
  have q : ∃ vs k, (x, lo vs k) ∈ news := by
    unfold UA.own at hx
    simp only [List.mem_cons] at hx
    rcases hx with rfl | rfl | rfl | hx
    · obtain ⟨p, q, h, _⟩ := R.ha; exact ⟨p, q, h⟩
    · obtain ⟨q, h⟩ := R.hl; exact ⟨_, q, h⟩
    · obtain ⟨p, q, h, _⟩ := R.hg; exact ⟨p, q, h⟩
    · obtain ⟨i, hi, e⟩ := List.getElem_of_mem hx
      obtain ⟨_, p, q, _, h, _⟩ := R.hls i x (by rw [List.getElem?_eq_getElem hi, e])
      exact ⟨p, q, h⟩
  obtain ⟨vs, k, hm⟩ := q
  exact no_tu N hm (by simp) us n
theorem RepBX.notu (N : News g L h news) (R : RepBX w news b nodes wt dp) : ∀ x ∈ b.own, ∀ us n, (x, tu us n) ∉ news := fun x hx us n => by
  unfold BA.own at hx
  simp only [List.mem_cons, List.not_mem_nil, or_false] at hx
  rcases hx with rfl | rfl | rfl | rfl
  · obtain ⟨p, q, h, _⟩ := R.rb.hn; exact no_tu N h (by simp) us n
  · obtain ⟨o, h, d⟩ := R.hk
    obtain ⟨es, ep, xs, h1, _⟩ := d
    exact no_tu N h (by rw [h1.1]; simp) us n
  · obtain ⟨p, q, h, _⟩ := R.hw; exact no_tu N h (by simp) us n
  · obtain ⟨p, q, h, _⟩ := R.hp; exact no_tu N h (by simp) us n
/-- the unions have changed -/
theorem RepH.chU (N : News g L h news) (R : RepH w news a S) (C : Ch a.u.own u'.own news news') (hu : u'.U = a.u.U) (hdu : u'.dU = a.u.dU) (R' : RepU w news' u' st') : RepH w news' { a with u := u' } { S with st := st' } := by
  obtain ⟨r, hr⟩ := R.rol
  have K : Kp a.u.own news news' := ⟨C.keep, R.rc.ru.notu N⟩
  have no7 : ∀ x, r x ≠ 7 → x ∉ a.u.own := fun x h7 hm => h7 (hr.u7 x (.tail _ (.tail _ hm)))
  have no7' : ∀ x o, r x ≠ 7 → (x, o) ∈ news → x ∉ u'.own := fun x o h7 hm => (C.out (no7 x h7) hm).1
  have old : ∀ x o, (x, o) ∈ news → r x ≠ 7 → (if x ∈ u'.own then 7 else r x) = r x := fun x o hm h7 => if_neg (no7' x o h7 hm)
  have hb : ∀ x ∈ a.b.B :: a.b.dB :: a.b.own, x ∉ a.u.own := fun x hx => no7 x (by rw [hr.b6 x hx]; decide)
  have hB := R.bx.keep K hb
  have H := R.hx
  have hbm : ∀ x ∈ a.b.B :: a.b.dB :: a.b.own, ∃ o, (x, o) ∈ news := fun x hx => by
    unfold BA.own at hx
    simp only [List.mem_cons, List.not_mem_nil, or_false] at hx
    rcases hx with rfl | rfl | rfl | rfl | rfl | rfl
    · exact ⟨_, R.rc.rb.hB⟩
    · obtain ⟨_, _, _, _, _, h⟩ := R.rc.rb.hd; exact ⟨_, h⟩
    · obtain ⟨_, _, h, _⟩ := R.rc.rb.hn; exact ⟨_, h⟩
    · obtain ⟨_, h, _⟩ := R.bx.hk; exact ⟨_, h⟩
    · obtain ⟨_, _, h, _⟩ := R.bx.hw; exact ⟨_, h⟩
    · obtain ⟨_, _, h, _⟩ := R.bx.hp; exact ⟨_, h⟩
  have hd : HdC w news' a.dH a.b.B u'.U a.eL a.fL a.kD a.vD a.qL := by
    obtain ⟨t1, t2, t3, t4, t5, t6, t7, t8, t9, n, h⟩ := R.rc.hd
    exact ⟨t1, t2, t3, t4, t5, t6, t7, t8, t9, n, by rw [hu]; exact K.k _ h (no7 _ (by rw [hr.d0]; decide))⟩
  refine ⟨⟨K.k _ R.rc.hH (no7 _ (by rw [hr.h0]; decide)), hd, hB.rb, R'⟩, hB, ⟨let ⟨p, q, c, d⟩ := H.he; ⟨p, q, K.k _ c (no7 _ (by rw [hr.e1]; decide)), d⟩, let ⟨p, q, c, d⟩ := H.hf; ⟨p, q, K.k _ c (no7 _ (by rw [hr.f2]; decide)), d⟩, let ⟨o, c, d⟩ := H.hk; ⟨o, K.k _ c (no7 _ (by rw [hr.k3]; decide)), d.mono fun _ _ _ hb => K.tu hb⟩,
    let ⟨o, c, d⟩ := H.hv; ⟨o, K.k _ c (no7 _ (by rw [hr.v4]; decide)), d⟩, fun x hx => let ⟨p, q, c, d⟩ := H.hl x hx; ⟨p, q, K.k _ c (no7 _ (by rw [hr.l8 _ (List.mem_map.mpr ⟨x, hx, rfl⟩)]; decide)), d⟩,
    let ⟨p, q, c, d⟩ := H.hq; ⟨p, q, K.k _ c (no7 _ (by rw [hr.q5]; decide)), d⟩, H.lk, H.lv⟩, ⟨fun x => if x ∈ u'.own then 7 else r x, ?_⟩⟩
  refine ⟨?_, ?_, ?_, ?_, ?_, ?_, ?_, fun x hx => ?_, fun x hx => ?_, fun x hx => ?_, hr.nd⟩
  · show (if a.H ∈ u'.own then 7 else r a.H) = 0
    rw [old _ _ R.rc.hH (by rw [hr.h0]; decide), hr.h0]
  · obtain ⟨_, _, _, _, _, _, _, _, _, _, h⟩ := R.rc.hd
    show (if a.dH ∈ u'.own then 7 else r a.dH) = 0
    rw [old _ _ h (by rw [hr.d0]; decide), hr.d0]
  · obtain ⟨_, _, h, _⟩ := H.he
    show (if a.eL ∈ u'.own then 7 else r a.eL) = 1
    rw [old _ _ h (by rw [hr.e1]; decide), hr.e1]
  · obtain ⟨_, _, h, _⟩ := H.hf
    show (if a.fL ∈ u'.own then 7 else r a.fL) = 2
    rw [old _ _ h (by rw [hr.f2]; decide), hr.f2]
  · obtain ⟨_, h, _⟩ := H.hk
    show (if a.kD ∈ u'.own then 7 else r a.kD) = 3
    rw [old _ _ h (by rw [hr.k3]; decide), hr.k3]
  · obtain ⟨_, h, _⟩ := H.hv
    show (if a.vD ∈ u'.own then 7 else r a.vD) = 4
    rw [old _ _ h (by rw [hr.v4]; decide), hr.v4]
  · obtain ⟨_, _, h, _⟩ := H.hq
    show (if a.qL ∈ u'.own then 7 else r a.qL) = 5
    rw [old _ _ h (by rw [hr.q5]; decide), hr.q5]
  · obtain ⟨o, h⟩ := hbm x hx
    rw [old _ _ h (by rw [hr.b6 x hx]; decide), hr.b6 x hx]
  · by_cases q : x ∈ u'.own
    · exact if_pos q
    · rw [if_neg q]
      simp only [List.mem_cons] at hx
      rcases hx with rfl | rfl | hx
      · rw [hu]; exact hr.u7 _ (.head _)
      · rw [hdu]; exact hr.u7 _ (.tail _ (.head _))
      · exact absurd hx q
  · obtain ⟨y, hy, rfl⟩ := List.mem_map.mp hx
    obtain ⟨_, _, h, _⟩ := H.hl y hy
    rw [old _ _ h (by rw [hr.l8 _ hx]; decide), hr.l8 _ hx]
/-- the bank has changed -/
theorem RepH.chB (N : News g L h news) (R : RepH w news a S) (C : Ch a.b.own a.b.own news news') (R' : RepBX w news' a.b nodes' wt' dp') : RepH w news' a { S with nodes := nodes', wt := wt', dp := dp' } := by
  obtain ⟨r, hr⟩ := R.rol
  have K : Kp a.b.own news news' := ⟨C.keep, R.bx.notu N⟩
  have no6 : ∀ x, r x ≠ 6 → x ∉ a.b.own := fun x h6 hm => h6 (hr.b6 x (.tail _ (.tail _ hm)))
  have hU := R.rc.ru.keep K.k fun x hx => no6 x (by rw [hr.u7 x hx]; decide)
  have H := R.hx
  exact ⟨R.rc.keep K (no6 _ (by rw [hr.h0]; decide)) (no6 _ (by rw [hr.d0]; decide)) R'.rb hU, R', ⟨let ⟨p, q, c, d⟩ := H.he; ⟨p, q, K.k _ c (no6 _ (by rw [hr.e1]; decide)), d⟩, let ⟨p, q, c, d⟩ := H.hf; ⟨p, q, K.k _ c (no6 _ (by rw [hr.f2]; decide)), d⟩, let ⟨o, c, d⟩ := H.hk; ⟨o, K.k _ c (no6 _ (by rw [hr.k3]; decide)), d.mono fun _ _ _ hb => K.tu hb⟩,
    let ⟨o, c, d⟩ := H.hv; ⟨o, K.k _ c (no6 _ (by rw [hr.v4]; decide)), d⟩, fun x hx => let ⟨p, q, c, d⟩ := H.hl x hx; ⟨p, q, K.k _ c (no6 _ (by rw [hr.l8 _ (List.mem_map.mpr ⟨x, hx, rfl⟩)]; decide)), d⟩,
    let ⟨p, q, c, d⟩ := H.hq; ⟨p, q, K.k _ c (no6 _ (by rw [hr.q5]; decide)), d⟩, H.lk, H.lv⟩, ⟨r, hr⟩⟩
end
/-! ### what is so of a heap, and what a join does to it -/
structure OkH (a : HA) (S : HS) (rt : Nat → Nat) (told : Nat) : Prop where
  okc : OkC a S.nodes S.st rt
  sm : S.nodes.length ≤ 10
  lotP : ∀ (i : Nat) l, S.st.lots[i]? = some l → l.Nodup ∧ ∀ j ∈ l, j < S.nodes.length
  lotR : ∀ j, j < S.nodes.length → rt j = j → ∀ l, S.st.lots[j]? = some l → ∀ x, x ∈ l ↔ x < S.nodes.length ∧ rt x = j
  kn : ∀ p ∈ S.kn, p.2 < S.nodes.length
  abk : ∀ c, c ∈ S.ab.map (·.1) ↔ c < S.nodes.length ∧ rt c = c
  abn : (S.ab.map (·.1)).Nodup
  abl : ∀ x ∈ S.ab, ∀ j ∈ x.2.2, j < S.nodes.length
  abs : (S.ab.map (·.2.2.length)).sum ≤ 2 * S.nodes.length
  wq : ∀ x ∈ S.wq, x < S.nodes.length
  pot : S.kn.length + S.wq.length + 100 * S.ab.length ≤ 101 * S.nodes.length
  edg : S.ne + 2 * S.ab.length ≤ 2 * S.nodes.length + told
  frs : S.nf ≤ S.ne
  nm : S.st.nm ≤ S.ne
  wd : S.wt.length = S.nodes.length ∧ S.dp.length = S.nodes.length
theorem OkH.lots {a : HA} {S : HS} {rt : Nat → Nat} {told : Nat} (O : OkH a S rt told) : ∀ l ∈ S.st.lots, l.length ≤ 10 ∧ ∀ j ∈ l, j < S.nodes.length := fun l hl => by
  obtain ⟨i, hi, e⟩ := List.getElem_of_mem hl
  obtain ⟨h1, h2⟩ := O.lotP i l (by rw [List.getElem?_eq_getElem hi, e])
  refine ⟨?_, h2⟩
  have := len_sub l (List.range S.nodes.length) h1 fun x hx => List.mem_range.mpr (h2 x hx)
  have := O.sm
  simp at *
  lia
theorem OkH.okl {a : HA} {S : HS} {rt : Nat → Nat} {told : Nat} (O : OkH a S rt told) : OkL S.nodes S.st rt :=
  ⟨fun l hl => ⟨by have := (O.lots l hl).1; lia, (O.lots l hl).2⟩, by have := O.sm; lia⟩
/-- the roots after a merge -/
noncomputable def rtM (rt : Nat → Nat) (kept gone : Nat) (j : Nat) : Nat := if rt j = gone then kept else rt j
theorem OkU.merge {par : List Nat} {rt : Nat → Nat} (h : OkU par rt) {kept gone : Nat} (hk : par[kept]? = some kept) (hg : par[gone]? = some gone) (hlt : kept < gone) : OkU (par.set gone kept) (rtM rt kept gone) := by
  have rk := h.root hk
  have rg := h.root hg
  have hgl := (List.getElem?_eq_some_iff.mp hg).1
  have hkl := (List.getElem?_eq_some_iff.mp hk).1
  refine ⟨fun j hj => ?_, fun j hj => ?_⟩
  · rw [List.length_set] at hj
    by_cases e : gone = j
    · subst e
      refine ⟨kept, List.getElem?_set_self hgl, by lia, ?_, fun q => by lia⟩
      unfold rtM
      rw [rk, rg, if_neg (by lia), if_pos rfl]
    · obtain ⟨q, h1, h2, h3, h4⟩ := h.up j hj
      refine ⟨q, by rw [List.getElem?_set_ne e]; exact h1, h2, by unfold rtM; rw [h3], fun hq => ?_⟩
      unfold rtM
      rw [h4 hq, if_neg (fun q => e q.symm)]
  · rw [List.length_set] at hj ⊢
    obtain ⟨h1, h2, h3⟩ := h.rr j hj
    unfold rtM
    by_cases e : rt j = gone
    · rw [if_pos e]
      exact ⟨hkl, by rw [List.getElem?_set_ne (by lia)]; exact hk, by lia⟩
    · rw [if_neg e]
      exact ⟨h1, by rw [List.getElem?_set_ne (fun q => e q.symm)]; exact h2, h3⟩
noncomputable def abDel (ab : List (Nat × Addr × List Nat)) (c : Nat) : List (Nat × Addr × List Nat) := ab.filter fun x => decide (x.1 ≠ c)
noncomputable def abPut (ab : List (Nat × Addr × List Nat)) (c : Nat) (D : Addr) (l : List Nat) : List (Nat × Addr × List Nat) := ab.map fun y => if y.1 = c then (y.1, D, l) else y
theorem del_refs (ab : List (Nat × Addr × List Nat)) (c : Nat) : del (ab.map fun x => (x.1, Value.ref x.2.1)) c = (abDel ab c).map fun x => (x.1, Value.ref x.2.1) := by
  unfold del abDel
  rw [List.filter_map]
  rfl
theorem put_refs {ab : List (Nat × Addr × List Nat)} {c : Nat} {D : Addr} {l : List Nat} (h : c ∈ ab.map (·.1)) : put (ab.map fun x => (x.1, Value.ref x.2.1)) c (.ref D) = (abPut ab c D l).map fun x => (x.1, Value.ref x.2.1) := by
  unfold put abPut
  rw [if_pos, List.map_map, List.map_map]
  · refine List.map_congr_left fun x _ => ?_
    dsimp only [Function.comp]
    split <;> rfl
  · rw [List.any_eq_true]
    obtain ⟨x, hx, e⟩ := List.mem_map.mp h
    exact ⟨(x.1, Value.ref x.2.1), List.mem_map.mpr ⟨x, hx, rfl⟩, by simpa using e⟩
theorem lk_refs {ab : List (Nat × Addr × List Nat)} (hn : (ab.map (·.1)).Nodup) {x : Nat × Addr × List Nat} (hx : x ∈ ab) : lk (ab.map fun x => (x.1, Value.ref x.2.1)) x.1 = some (.ref x.2.1) := by
  induction ab with
  | nil => cases hx
  | cons y ab ih =>
    rw [List.map_cons, List.nodup_cons] at hn
    rcases List.mem_cons.mp hx with rfl | hx
    · simp [lk]
    · have e : ¬ y.1 = x.1 := fun e => hn.1 (e ▸ List.mem_map.mpr ⟨x, hx, rfl⟩)
      have := ih hn.2 hx
      simpa [lk, List.find?_cons, e] using this
theorem abDel_keys {ab : List (Nat × Addr × List Nat)} {c d : Nat} : d ∈ (abDel ab c).map (·.1) ↔ d ∈ ab.map (·.1) ∧ d ≠ c := by
  unfold abDel
  simp only [List.mem_map, List.mem_filter, decide_eq_true_eq]
  constructor
  · rintro ⟨x, ⟨h1, h2⟩, rfl⟩; exact ⟨⟨x, h1, rfl⟩, h2⟩
  · rintro ⟨⟨x, h1, rfl⟩, h2⟩; exact ⟨x, ⟨h1, h2⟩, rfl⟩
theorem abPut_keys {ab : List (Nat × Addr × List Nat)} {c : Nat} {D : Addr} {l : List Nat} : (abPut ab c D l).map (·.1) = ab.map (·.1) := by
  unfold abPut
  rw [List.map_map]
  refine List.map_congr_left fun x _ => ?_
  dsimp only [Function.comp]
  split <;> rfl
theorem abDel_len {ab : List (Nat × Addr × List Nat)} (hn : (ab.map (·.1)).Nodup) {x : Nat × Addr × List Nat} (hx : x ∈ ab) : (abDel ab x.1).length + 1 = ab.length ∧ ((abDel ab x.1).map (·.2.2.length)).sum + x.2.2.length = (ab.map (·.2.2.length)).sum := by
  induction ab with
  | nil => cases hx
  | cons y ab ih =>
    rw [List.map_cons, List.nodup_cons] at hn
    rcases List.mem_cons.mp hx with rfl | hx
    · have e : abDel (x :: ab) x.1 = ab := by
        unfold abDel
        rw [List.filter_cons_of_neg (by simp)]
        refine List.filter_eq_self.mpr fun z hz => ?_
        simp only [decide_eq_true_eq]
        exact fun q => hn.1 (q ▸ List.mem_map.mpr ⟨z, hz, rfl⟩)
      rw [e]
      simp; lia
    · have e : ¬ y.1 = x.1 := fun e => hn.1 (e ▸ List.mem_map.mpr ⟨x, hx, rfl⟩)
      have e2 : abDel (y :: ab) x.1 = y :: abDel ab x.1 := by
        unfold abDel
        rw [List.filter_cons_of_pos (by simpa using e)]
      rw [e2]
      have := ih hn.2 hx
      simp only [List.length_cons, List.map_cons, List.sum_cons]
      lia
theorem abPut_sum {ab : List (Nat × Addr × List Nat)} (hn : (ab.map (·.1)).Nodup) {x : Nat × Addr × List Nat} (hx : x ∈ ab) {D : Addr} {l : List Nat} : ((abPut ab x.1 D l).map (·.2.2.length)).sum + x.2.2.length = (ab.map (·.2.2.length)).sum + l.length := by
  induction ab with
  | nil => cases hx
  | cons y ab ih =>
    rw [List.map_cons, List.nodup_cons] at hn
    rcases List.mem_cons.mp hx with rfl | hx
    · have e : abPut (x :: ab) x.1 D l = (x.1, D, l) :: ab := by
        unfold abPut
        rw [List.map_cons, if_pos rfl]
        congr 1
        have : ∀ z ∈ ab, (if z.1 = x.1 then (z.1, D, l) else z) = z := fun z hz => if_neg (show ¬ z.1 = x.1 from fun q => hn.1 (q ▸ List.mem_map.mpr ⟨z, hz, rfl⟩))
        exact (List.map_congr_left this).trans (List.map_id _)
      rw [e]
      simp; lia
    · have e : ¬ y.1 = x.1 := fun e => hn.1 (e ▸ List.mem_map.mpr ⟨x, hx, rfl⟩)
      have e2 : abPut (y :: ab) x.1 D l = y :: abPut ab x.1 D l := by
        unfold abPut
        rw [List.map_cons, if_neg e]
      rw [e2]
      have := ih hn.2 hx
      simp only [List.map_cons, List.sum_cons]
      lia
theorem sum_ge {ab : List (Nat × Addr × List Nat)} {x : Nat × Addr × List Nat} (hx : x ∈ ab) : x.2.2.length ≤ (ab.map (·.2.2.length)).sum := by
  induction ab with
  | nil => cases hx
  | cons y ab ih =>
    rcases List.mem_cons.mp hx with rfl | hx
    · simp
    · have := ih hx
      simp only [List.map_cons, List.sum_cons]
      lia
/-- the heap after a join of two classes -/
noncomputable def joinS (S : HS) (kept gone : Nat) (l1 l2 Lk Lg : List Nat) (D : Addr) : HS :=
  { S with
    st := { S.st with par := S.st.par.set gone kept, lots := S.st.lots.set kept (l1 ++ l2), nm := S.st.nm + 1 }
    ab := abPut (abDel S.ab gone) kept D (Lk ++ Lg)
    wq := S.wq ++ Lg
    ne := S.ne + 1
    nf := S.nf + 1 }
theorem OkH.join {a : HA} {S : HS} {rt : Nat → Nat} {told kept gone : Nat} {l1 l2 Lk Lg : List Nat} {D aK aG : Addr} (O : OkH a S rt told) (hk : kept < S.nodes.length) (hg : gone < S.nodes.length) (rk : rt kept = kept) (rg : rt gone = gone) (hlt : kept < gone)
    (h1 : S.st.lots[kept]? = some l1) (h2 : S.st.lots[gone]? = some l2) (hK : (kept, aK, Lk) ∈ S.ab) (hG : (gone, aG, Lg) ∈ S.ab) : OkH a (joinS S kept gone l1 l2 Lk Lg D) (rtM rt kept gone) told := by
  have hnn := O.okc.nn
  have pk : S.st.par[kept]? = some kept := by have := (O.okc.ok.rr kept (by lia)).2.1; rwa [rk] at this
  have pg : S.st.par[gone]? = some gone := by have := (O.okc.ok.rr gone (by lia)).2.1; rwa [rg] at this
  have hU := O.okc.ok.merge pk pg hlt
  have hL1 := O.lotR kept hk rk l1 h1
  have hL2 := O.lotR gone hg rg l2 h2
  have hP1 := O.lotP kept l1 h1
  have hP2 := O.lotP gone l2 h2
  have hdis : ∀ x ∈ l1, ∀ y ∈ l2, x ≠ y := fun x hx y hy e => by
    subst e
    have a1 := (hL1 x).mp hx
    have a2 := (hL2 x).mp hy
    lia
  have hkl := (List.getElem?_eq_some_iff.mp h1).1
  obtain ⟨d1, d2⟩ := abDel_len O.abn hG
  have hnD : ((abDel S.ab gone).map (·.1)).Nodup := O.abn.sublist (List.Sublist.map _ List.filter_sublist)
  have hKD : (kept, aK, Lk) ∈ abDel S.ab gone := List.mem_filter.mpr ⟨hK, by simp; lia⟩
  have hp := abPut_sum hnD hKD (D := D) (l := Lk ++ Lg)
  have hsg := sum_ge hG
  have habs := O.abs
  have hsm := O.sm
  have hpl : (abPut (abDel S.ab gone) kept D (Lk ++ Lg)).length = (abDel S.ab gone).length := by unfold abPut; simp
  dsimp only at d1 d2 hp hsg
  rw [List.length_append] at hp
  refine ⟨⟨⟨?_, ?_, ?_⟩, hU, ?_, O.okc.kids⟩, hsm, fun i l hl => ?_, fun j hj hrj l hl x => ?_, O.kn, fun c => ?_, ?_, fun x hx j hj => ?_, ?_, fun x hx => ?_, ?_, ?_, ?_, ?_, O.wd⟩
  · show a.u.lots.length = (S.st.par.set gone kept).length
    rw [List.length_set]; exact O.okc.len.l1
  · show (S.st.lots.set kept (l1 ++ l2)).length = (S.st.par.set gone kept).length
    rw [List.length_set, List.length_set]; exact O.okc.len.l2
  · show (S.st.par.set gone kept).length ≤ 16
    rw [List.length_set]; exact O.okc.len.sm
  · show S.nodes.length = (S.st.par.set gone kept).length
    rw [List.length_set]; exact hnn
  · change (S.st.lots.set kept (l1 ++ l2))[i]? = some l at hl
    by_cases e : kept = i
    · subst e
      rw [List.getElem?_set_self hkl] at hl
      cases hl
      refine ⟨List.nodup_append.mpr ⟨hP1.1, hP2.1, hdis⟩, fun j hj => (List.mem_append.mp hj).elim (hP1.2 j) (hP2.2 j)⟩
    · rw [List.getElem?_set_ne e] at hl
      exact O.lotP i l hl
  · change (S.st.lots.set kept (l1 ++ l2))[j]? = some l at hl
    change j < S.nodes.length at hj
    show x ∈ l ↔ x < S.nodes.length ∧ _
    by_cases e : kept = j
    · subst e
      rw [List.getElem?_set_self hkl] at hl
      cases hl
      rw [List.mem_append, hL1, hL2]
      unfold rtM
      by_cases q : rt x = gone
      · rw [if_pos q]
        constructor
        · rintro (h | h) <;> exact ⟨h.1, rfl⟩
        · intro h; exact .inr ⟨h.1, q⟩
      · rw [if_neg q]
        constructor
        · rintro (h | h)
          · exact h
          · exact absurd h.2 q
        · exact .inl
    · rw [List.getElem?_set_ne e] at hl
      have hrj' : rt j = j ∧ j ≠ gone := by
        unfold rtM at hrj
        by_cases q : rt j = gone
        · rw [if_pos q] at hrj; exact absurd hrj e
        · rw [if_neg q] at hrj; exact ⟨hrj, fun q2 => q (by rw [hrj, q2])⟩
      rw [O.lotR j hj hrj'.1 l hl x]
      unfold rtM
      by_cases q : rt x = gone
      · rw [if_pos q]
        exact ⟨fun h => absurd (h.2.symm.trans q) hrj'.2, fun h => absurd h.2 e⟩
      · rw [if_neg q]
  · show c ∈ (abPut (abDel S.ab gone) kept D (Lk ++ Lg)).map (·.1) ↔ c < S.nodes.length ∧ _
    rw [abPut_keys, abDel_keys, O.abk]
    unfold rtM
    by_cases q : rt c = gone
    · rw [if_pos q]
      constructor
      · rintro ⟨⟨_, e⟩, hne⟩; exact absurd (e.symm.trans q) hne
      · rintro ⟨_, e⟩; subst e; lia
    · rw [if_neg q]
      exact ⟨fun h => h.1, fun h => ⟨h, fun e => q (h.2.trans e)⟩⟩
  · show ((abPut (abDel S.ab gone) kept D (Lk ++ Lg)).map (·.1)).Nodup
    rw [abPut_keys]; exact hnD
  · change x ∈ abPut (abDel S.ab gone) kept D (Lk ++ Lg) at hx
    obtain ⟨z, hz, rfl⟩ := List.mem_map.mp hx
    have hz' := (List.mem_filter.mp hz).1
    show j < S.nodes.length
    by_cases e : z.1 = kept
    · rw [if_pos e] at hj
      exact (List.mem_append.mp hj).elim (O.abl _ hK j) (O.abl _ hG j)
    · rw [if_neg e] at hj
      exact O.abl z hz' j hj
  · show ((abPut (abDel S.ab gone) kept D (Lk ++ Lg)).map (·.2.2.length)).sum ≤ 2 * S.nodes.length
    lia
  · change x ∈ S.wq ++ Lg at hx
    exact (List.mem_append.mp hx).elim (O.wq x) (O.abl _ hG x)
  · show S.kn.length + (S.wq ++ Lg).length + 100 * (abPut (abDel S.ab gone) kept D (Lk ++ Lg)).length ≤ 101 * S.nodes.length
    rw [hpl, List.length_append]
    have := O.pot
    lia
  · show S.ne + 1 + 2 * (abPut (abDel S.ab gone) kept D (Lk ++ Lg)).length ≤ 2 * S.nodes.length + told
    rw [hpl]
    have := O.edg
    lia
  · show S.nf + 1 ≤ S.ne + 1
    have := O.frs
    lia
  · show S.st.nm + 1 ≤ S.ne + 1
    have := O.nm
    lia
theorem abPut_addr {ab : List (Nat × Addr × List Nat)} {c : Nat} {D x : Addr} {l : List Nat} (h : x ∈ (abPut ab c D l).map (·.2.1)) : x = D ∨ x ∈ ab.map (·.2.1) := by
  refine hide fun G0 hG0 => ?_
  obtain ⟨y, hy, rfl⟩ := List.mem_map.mp h
  obtain ⟨z, hz, rfl⟩ := List.mem_map.mp hy
  refine hG0 ?_
  try clear hG0 G0
  by_cases e : z.1 = c
  · rw [if_pos e]; exact .inl rfl
  · rw [if_neg e]; exact .inr (List.mem_map.mpr ⟨z, hz, rfl⟩)
theorem abPut_nd {ab : List (Nat × Addr × List Nat)} {c : Nat} {D : Addr} {l : List Nat} (hk : (ab.map (·.1)).Nodup) (hn : (ab.map (·.2.1)).Nodup) (hD : D ∉ ab.map (·.2.1)) : ((abPut ab c D l).map (·.2.1)).Nodup := by
  induction ab with
  | nil => exact List.nodup_nil
  | cons y ab ih =>
    rw [List.map_cons, List.nodup_cons] at hk hn
    rw [List.map_cons, List.mem_cons, not_or] at hD
    by_cases e : y.1 = c
    · have e2 : abPut (y :: ab) c D l = (y.1, D, l) :: ab := by
        unfold abPut
        rw [List.map_cons, if_pos e]
        congr 1
        have : ∀ z ∈ ab, (if z.1 = c then (z.1, D, l) else z) = z := fun z hz => if_neg (show ¬ z.1 = c from fun q => hk.1 ((e.trans q.symm) ▸ List.mem_map.mpr ⟨z, hz, rfl⟩))
        exact (List.map_congr_left this).trans (List.map_id _)
      rw [e2, List.map_cons, List.nodup_cons]
      exact ⟨hD.2, hn.2⟩
    · have e2 : abPut (y :: ab) c D l = y :: abPut ab c D l := by
        unfold abPut
        rw [List.map_cons, if_neg e]
      rw [e2, List.map_cons, List.nodup_cons]
      exact ⟨fun h => (abPut_addr h).elim (fun q => hD.1 q.symm) hn.1, ih hk.2 hn.2 hD.2⟩
theorem RepH.mem {w : World} {news : List (Addr × Obj)} {a : HA} {S : HS} (R : RepH w news a S) {x : Addr} (hx : x ∈ a.H :: a.dH :: a.b.B :: a.b.dB :: a.u.U :: a.u.dU :: a.own []) : ∃ o, (x, o) ∈ news := by
  unfold HA.own at hx
  simp only [List.mem_cons, List.mem_append, List.map_nil, List.not_mem_nil, or_false] at hx
  rcases hx with rfl | rfl | rfl | rfl | rfl | rfl | rfl | rfl | rfl | rfl | rfl | hx | hx
  · exact ⟨_, R.rc.hH⟩
  · obtain ⟨_, _, _, _, _, _, _, _, _, _, h⟩ := R.rc.hd; exact ⟨_, h⟩
  · exact ⟨_, R.rc.rb.hB⟩
  · obtain ⟨_, _, _, _, _, h⟩ := R.rc.rb.hd; exact ⟨_, h⟩
  · exact ⟨_, R.rc.ru.hU⟩
  · obtain ⟨_, _, _, _, h⟩ := R.rc.ru.hd; exact ⟨_, h⟩
  · obtain ⟨_, _, h, _⟩ := R.hx.he; exact ⟨_, h⟩
  · obtain ⟨_, _, h, _⟩ := R.hx.hf; exact ⟨_, h⟩
  · obtain ⟨_, h, _⟩ := R.hx.hk; exact ⟨_, h⟩
  · obtain ⟨_, h, _⟩ := R.hx.hv; exact ⟨_, h⟩
  · obtain ⟨_, _, h, _⟩ := R.hx.hq; exact ⟨_, h⟩
  · unfold BA.own at hx
    simp only [List.mem_cons, List.not_mem_nil, or_false] at hx
    rcases hx with rfl | rfl | rfl | rfl
    · obtain ⟨_, _, h, _⟩ := R.rc.rb.hn; exact ⟨_, h⟩
    · obtain ⟨_, h, _⟩ := R.bx.hk; exact ⟨_, h⟩
    · obtain ⟨_, _, h, _⟩ := R.bx.hw; exact ⟨_, h⟩
    · obtain ⟨_, _, h, _⟩ := R.bx.hp; exact ⟨_, h⟩
  · exact R.rc.ru.mem (.tail _ (.tail _ hx))
theorem RepH.memL {w : World} {news : List (Addr × Obj)} {a : HA} {S : HS} (R : RepH w news a S) {x : Addr} (hx : x ∈ S.ab.map (·.2.1)) : ∃ o, (x, o) ∈ news := by
  refine hide fun G0 hG0 => ?_
  obtain ⟨y, hy, rfl⟩ := List.mem_map.mp hx
  obtain ⟨_, _, h, _⟩ := R.hx.hl y hy
  refine hG0 ?_
  try clear hG0 G0
  exact ⟨_, h⟩
section
variable {w : World} {A : Around} {g : PySem.Heap} {L D : Addr} {s : Shared} {news : List (Addr × Obj)} {o : Obj} {E : Value → Shared → Prop}
theorem rd_method {name : PySem.Str} {id : String} {pl : Sem Bool} {kvs : List (Nat × Value)} {Q : Value × List Value → Shared → Prop} (slot : Slot "dict" name id) (ty : typeOf (.builtin id) = pure (.type "method_descriptor")) (N : News g L s.heap news) (hm : (D, o) ∈ news) (hd : DI w o kvs) (h : Q (.builtin id, [.ref D]) s) :
    wpAny (model P w) A (getMethod (.ref D) name pl) Q E s := by
  have hD := kda_dict N hm hd
  exact getMethod_builtin hD.typeIs PySem.F.plainAttrs_dict slot ty hD.mapOf.noDict h
theorem dt_method {name : PySem.Str} {id : String} {pl : Sem Bool} {kvs : List ((PySem.Str × List Nat) × Nat)} {Q : Value × List Value → Shared → Prop} (slot : Slot "dict" name id) (ty : typeOf (.builtin id) = pure (.type "method_descriptor")) (N : News g L s.heap news) (hm : (D, o) ∈ news) (hd : DT w news o kvs) (h : Q (.builtin id, [.ref D]) s) :
    wpAny (model P w) A (getMethod (.ref D) name pl) Q E s := by
  refine hide fun G0 hG0 => ?_
  obtain ⟨xs, hD, _⟩ := hd.heap N hm
  refine hG0 ?_
  try clear hG0 G0
  exact getMethod_builtin hD.typeIs PySem.F.plainAttrs_dict slot ty (dictOfH_noDict hD) h
end
section
variable {w : World} {A : Around} {g : PySem.Heap} {L : Addr} {m mg mb : PySem.Str → Option Value} {s : Shared} {news : List (Addr × Obj)} {p : Program} {loose : List PySem.Str} {a : HA} {S : HS} {rt : Nat → Nat} {told : Nat} {E : Value → Shared → Prop}
set_option maxHeartbeats 8000000 in
theorem join_ok {x y : Nat} {tx ty : Tok} {rv : Value} {Q : Value → Shared → Prop}
   (F : Fr g L s.heap m) (N : News g L s.heap news) (X : (hd.heap_39 w.params).In g) (T : TopRead p loose mg mb g) (hr : RoomOk A 5)
   (R : RepH w news a S) (O : OkH a S rt told) (hto : told ≤ 500) (hx : x < S.nodes.length) (hy : y < S.nodes.length)
   (h1 : rt x = rt y → ∀ s' S' news', Sm s s' → Fr g L s'.heap m → News g L s'.heap news' → RepH w news' a S' → OkH a S' rt (told + 1) → S'.nodes = S.nodes → Ch (a.own S.ab) (a.own S'.ab) news news' → Q (.bool false) s')
   (h2 : rt x ≠ rt y → ∀ s' S' rt' news', Sm s s' → Fr g L s'.heap m → News g L s'.heap news' → RepH w news' a S' → OkH a S' rt' told → S'.nodes = S.nodes → S'.wq.length + 100 * S'.ab.length < S.wq.length + 100 * S.ab.length → Ch (a.own S.ab) (a.own S'.ab) news news' → Q (.bool true) s') :
   wpAny (model P w) A (call (.ref 416) [.ref a.H, .int x tx, .int y ty, rv]) Q E s := by
  refine bd [("self", .ref a.H), ("a", .int x tx), ("b", .int y ty), ("reason", rv)] ?_
  (refine' callP ?zF ?zN ?zX ?zT ?zR ?k6 ?k7 ?k9 ?kB ?_ ?c5 ?c2 ?c3 ?c4; (case zF | zN | zX | zR => assumption); (case zT => apply TopRead.nolimit; assumption); (case k6 | k7 => k_is); (case k9 | kB | c2 | c3 | c4 => exact rfl); (case c5 => decide); intros)
  rename_i g' L' h' stay X' hr' F' N'
  have T' := T.keeps stay
  have hH := R.rc.hH
  refine hide fun G0 hG0 => ?_
  obtain ⟨t1, t2, t3, t4, t5, t6, t7, t8, t9, n', hdH⟩ := R.rc.hd
  obtain ⟨vsE, nE, hE, hEl⟩ := R.hx.he
  refine hG0 ?_
  try clear hG0 G0
  have hedg := O.edg
  have hsm := O.sm
  have hnm := O.nm
  have hfrs := O.frs
  have hzE : vsE.length ≤ 100000 := by lia
  clear X T F N
  repeat' ((fail_if_success guard_target = wpAny _ _ (exec (Stmt.While _ _ _ _) _) _ _ _); (fail_if_success guard_target = wpAny _ _ (exec (Stmt.For _ _ _ _ _) _) _ _ _); walk_at "mine")
  have ltT := ltW
  refine rl_append (by assumption) (by assumption) (List.mem_cons_of_mem _ hE) hzE fun h3 n3 F3 N3 => ?_
  dsimp only
  have hne1 := no_tu N' hE (by simp)
  have R1 := (R.mono (fun q hq => List.mem_cons_of_mem (DW, tu [.int (x : Int) tx, .int (y : Int) ty, rv] 0) hq)).updE (n' := n3) (vs' := vsE ++ [.ref DW]) (fun us n hm => by
    rcases List.mem_cons.mp hm with e | hm
    · exact absurd (congrArg Prod.fst e) (show a.eL ≠ DW from Nat.ne_of_lt (ltT (a.eL, Mine.lo vsE nE) hE))
    · exact hne1 us n hm)
  have C1 : Ch (a.own S.ab) (a.own S.ab) news (upd a.eL (lo (vsE ++ [.ref DW]) n3) ((DW, tu [.int (x : Int) tx, .int (y : Int) ty, rv] 0) :: news)) := Ch.trans (Ch.more fun q hq => List.mem_cons_of_mem _ hq) (Ch.upd (by simp [HA.own]))
  clear hH hdH hE FW NW ltW hne1
  generalize upd a.eL (lo (vsE ++ [.ref DW]) n3) ((DW, tu [.int (x : Int) tx, .int (y : Int) ty, rv] 0) :: news) = news1 at *
  have hH := R1.rc.hH
  refine hide fun G0 hG0 => ?_
  obtain ⟨t1, t2, t3, t4, t5, t6, t7, t8, t9, n', hdH⟩ := R1.rc.hd
  have hU := R1.rc.ru.hU
  obtain ⟨u1, u2, u3, un, hdU⟩ := R1.rc.ru.hd
  refine hG0 ?_
  try clear hG0 G0
  repeat' ((fail_if_success guard_target = wpAny _ _ (exec (Stmt.While _ _ _ _) _) _ _ _); (fail_if_success guard_target = wpAny _ _ (exec (Stmt.For _ _ _ _ _) _) _ _ _); walk_at "mine")
  have hnn := O.okc.nn
  refine merge_ok (by assumption) (by assumption) X' T' (hr'.less (by decide)) R1.rc.ru O.okc.len O.okc.ok (by show x < S.st.par.length; lia) (by show y < S.st.par.length; lia) (by show S.st.nm ≤ 1000; lia) (fun l hl => by have := (O.lots l hl).1; lia) (fun e s4 sm4 F4 N4 => ?_) (fun e s4 D t10 t11 l1 l2 news2 sm4 F4 N4 hl1 hl2 RU C2 hD hDo => ?_)
  · repeat' ((fail_if_success guard_target = wpAny _ _ (exec (Stmt.While _ _ _ _) _) _ _ _); (fail_if_success guard_target = wpAny _ _ (exec (Stmt.For _ _ _ _ _) _) _ _ _); walk_at "mine")
    refine lv_ret (by assumption) (by assumption) fun F9 N9 => h1 e _ { S with ne := (vsE ++ [Value.ref DW]).length } news1 ⟨sm4.1, sm4.2⟩ F9 N9 R1 ?_ rfl C1
    exact { O with edg := by show (vsE ++ [Value.ref DW]).length + _ ≤ _; simp; lia, frs := by show S.nf ≤ (vsE ++ [Value.ref DW]).length; simp; lia, nm := by show S.st.nm ≤ (vsE ++ [Value.ref DW]).length; simp; lia }
  · have R2 : RepH w news2 a { S with ne := (vsE ++ [Value.ref DW]).length, st := { S.st with par := S.st.par.set (max (rt x) (rt y)) (min (rt x) (rt y)), lots := S.st.lots.set (min (rt x) (rt y)) (l1 ++ l2), nm := S.st.nm + 1 } } := R1.chU N3 C2 rfl rfl RU
    have C3 : Ch (a.own S.ab) (a.own S.ab) news news2 := Ch.trans C1 ⟨fun p hp hn => C2.keep p hp fun h => hn (by simp [HA.own, h]), fun _ h => .inl h⟩
    have hkr := O.okc.ok.rr x (by lia)
    have hgr := O.okc.ok.rr y (by lia)
    have hroot : ∀ c, c < S.nodes.length → rt (rt c) = rt c := fun c hc => O.okc.ok.root (O.okc.ok.rr c (by lia)).2.1
    have rx := hroot x hx
    have ry := hroot y hy
    have hlt : min (rt x) (rt y) < max (rt x) (rt y) := by lia
    have hkl : min (rt x) (rt y) < S.nodes.length := by lia
    have hgl : max (rt x) (rt y) < S.nodes.length := by lia
    have rk : rt (min (rt x) (rt y)) = min (rt x) (rt y) := by
      by_cases q : rt x ≤ rt y
      · rw [Nat.min_eq_left q]; exact rx
      · rw [Nat.min_eq_right (by lia)]; exact ry
    have rg : rt (max (rt x) (rt y)) = max (rt x) (rt y) := by
      by_cases q : rt x ≤ rt y
      · rw [Nat.max_eq_right q]; exact ry
      · rw [Nat.max_eq_left (by lia)]; exact rx
    have h2 := h2 e
    dsimp only at hl1 hl2
    generalize min (rt x) (rt y) = kept at *
    generalize max (rt x) (rt y) = gone at *
    refine hide fun G0 hG0 => ?_
    obtain ⟨⟨_, aK, Lk⟩, hK, rfl⟩ := List.mem_map.mp ((O.abk kept).mpr ⟨hkl, rk⟩)
    obtain ⟨⟨_, aG, Lg⟩, hG, rfl⟩ := List.mem_map.mp ((O.abk gone).mpr ⟨hgl, rg⟩)
    refine hG0 ?_
    try clear hG0 G0
    dsimp only at *
    rename_i kept gone
    have hlk := lk_refs O.abn hK
    have hlg := lk_refs O.abn hG
    have hsg := sum_ge hG
    have hsk := sum_ge hK
    have habs := O.abs
    have hpot := O.pot
    dsimp only at hlk hlg hsg hsk
    clear hH hdH hU hdU
    have hH := R2.rc.hH
    refine hide fun G0 hG0 => ?_
    obtain ⟨t1, t2, t3, t4, t5, t6, t7, t8, t9, n', hdH⟩ := R2.rc.hd
    obtain ⟨vsE2, nE2, hE2, hEl2⟩ := R2.hx.he
    obtain ⟨vsF, nF, hF, hFl⟩ := R2.hx.hf
    refine hG0 ?_
    try clear hG0 G0
    dsimp only at hEl2 hFl
    have hzE2 : vsE2.length ≤ 100000 := by rw [hEl2]; simp; lia
    have hzF : vsF.length ≤ 100000 := by lia
    repeat' ((fail_if_success guard_target = wpAny _ _ (exec (Stmt.While _ _ _ _) _) _ _ _); (fail_if_success guard_target = wpAny _ _ (exec (Stmt.For _ _ _ _ _) _) _ _ _); walk_at "mine")
    generalize Value.int ((vsE2.length : Int) - 1) (tkX + 1) = v1 at *
    refine rl_append (news := news2) (by assumption) (by assumption) hF hzF fun h5 n5 F5 N5 => ?_
    dsimp only
    have R3 := R2.updF (n' := n5) (vs' := vsF ++ [v1]) (no_tu (show News g' L' _ news2 by assumption) hF (by simp))
    have C4 := C3.trans (Ch.upd (news := news2) (o := lo (vsF ++ [v1]) n5) (own := a.own S.ab) (a := a.fL) (by simp [HA.own]))
    clear hH hdH hE2 hF
    generalize upd a.fL (lo (vsF ++ [v1]) n5) news2 = news3 at *
    have hH := R3.rc.hH
    refine hide fun G0 hG0 => ?_
    obtain ⟨t1, t2, t3, t4, t5, t6, t7, t8, t9, n', hdH⟩ := R3.rc.hd
    obtain ⟨usQ, nQ, hQ, hQi⟩ := R3.hx.hq
    obtain ⟨oV, hV, dV⟩ := R3.hx.hv
    obtain ⟨usG, nG, hGm, hGi⟩ := R3.hx.hl _ hG
    refine hG0 ?_
    try clear hG0 G0
    dsimp only at hGm hGi dV hQi
    repeat' ((fail_if_success guard_target = wpAny _ _ (exec (Stmt.While _ _ _ _) _) _ _ _); (fail_if_success guard_target = wpAny _ _ (exec (Stmt.For _ _ _ _ _) _) _ _ _); walk_at "mine")
    refine rl_extend (news := news3) (by assumption) (by assumption) hQ hGm (by rw [IntsAre.len hQi, IntsAre.len hGi]; lia) fun h6 n6 F6 N6 => ?_
    dsimp only
    have R4 := R3.updQ (n' := n6) (no_tu N5 hQ (by simp)) (intsAre_append hQi hGi)
    have C5 := C4.trans (Ch.upd (news := news3) (o := lo (usQ ++ usG) n6) (own := a.own S.ab) (a := a.qL) (by simp [HA.own]))
    clear hH hdH hQ hV hGm dV
    generalize upd a.qL (lo (usQ ++ usG) n6) news3 = news4 at *
    have hH := R4.rc.hH
    refine hide fun G0 hG0 => ?_
    obtain ⟨t1, t2, t3, t4, t5, t6, t7, t8, t9, n', hdH⟩ := R4.rc.hd
    obtain ⟨oV, hV, dV⟩ := R4.hx.hv
    obtain ⟨usG, nG, hGm, hGi⟩ := R4.hx.hl _ hG
    obtain ⟨usK, nK, hKm, hKi⟩ := R4.hx.hl _ hK
    refine hG0 ?_
    try clear hG0 G0
    have loV := R4.hx.lv
    dsimp only at hGm hGi hKm hKi dV
    repeat' ((fail_if_success guard_target = wpAny _ _ (exec (Stmt.While _ _ _ _) _) _ _ _); (fail_if_success guard_target = wpAny _ _ (exec (Stmt.For _ _ _ _ _) _) _ _ _); walk_at "mine")
    refine rd_pop (news := news4) (by assumption) (by assumption) hV dV hlg (by rw [List.length_map]; lia) fun oV7 h7 F7 N7 dV7 => ?_
    rw [del_refs] at dV7
    have hnoV := no_tu N6 hV (by obtain ⟨_, _, q, _⟩ := dV; rw [q.1]; simp)
    repeat' ((fail_if_success guard_target = wpAny _ _ (exec (Stmt.While _ _ _ _) _) _ _ _); (fail_if_success guard_target = wpAny _ _ (exec (Stmt.For _ _ _ _ _) _) _ _ _); walk_at "mine")
    obtain ⟨r, hr8⟩ := R4.rol
    have hnl : ((abDel S.ab gone).map (·.2.1)).Nodup := hr8.nd.sublist (List.Sublist.map _ List.filter_sublist)
    have R5 := R4.updV hnoV dV7 (fun x hx => R4.hx.hl x (List.mem_filter.mp hx).1) hnl (fun x hx => .inl (by
      refine hide fun G0 hG0 => ?_
      obtain ⟨y, hy, rfl⟩ := List.mem_map.mp hx
      refine hG0 ?_
      try clear hG0 G0
      exact List.mem_map.mpr ⟨y, (List.mem_filter.mp hy).1, rfl⟩))
    have C6 := C5.trans (Ch.upd (news := news4) (o := oV7) (own := a.own S.ab) (a := a.vD) (by simp [HA.own]))
    have hgv : aG ≠ a.vD := fun q => by
      have q1 := hr8.l8 aG (List.mem_map.mpr ⟨_, hG, rfl⟩)
      have q2 := hr8.v4
      rw [q] at q1; lia
    have hkv : aK ≠ a.vD := fun q => by
      have q1 := hr8.l8 aK (List.mem_map.mpr ⟨_, hK, rfl⟩)
      have q2 := hr8.v4
      rw [q] at q1; lia
    have hGm5 := upd_ne (o := oV7) hGm hgv
    have hKm5 := upd_ne (o := oV7) hKm hkv
    clear hH hdH hV hGm hKm dV hnoV
    generalize upd a.vD oV7 news4 = news5 at *
    refine rl_addList (news := news5) (by assumption) (by assumption) hKm5 hGm5 (by rw [IntsAre.len hKi, IntsAre.len hGi]; lia) fun D8 h8 F8 N8 lt8 => ?_
    dsimp only
    have R6 := R5.mono (fun q hq => List.mem_cons_of_mem (D8, lo (usK ++ usG) 0) hq)
    have C7 : Ch (a.own S.ab) (a.own (abPut (abDel S.ab gone) kept D8 (Lk ++ Lg))) news ((D8, lo (usK ++ usG) 0) :: news5) := C6.trans ⟨fun q hq _ => List.mem_cons_of_mem _ hq, fun x hx => by
      unfold HA.own at hx ⊢
      simp only [List.mem_cons, List.mem_append] at hx ⊢
      rcases hx with hx | hx | hx | hx | hx | hx | hx
      · exact .inl (.inl hx)
      · exact .inl (.inr (.inl hx))
      · exact .inl (.inr (.inr (.inl hx)))
      · exact .inl (.inr (.inr (.inr (.inl hx))))
      · exact .inl (.inr (.inr (.inr (.inr (.inl hx)))))
      · exact .inl (.inr (.inr (.inr (.inr (.inr (.inl hx))))))
      · rcases abPut_addr hx with q | q
        · exact .inr fun p hp => q ▸ Nat.ne_of_lt (lt8 p hp)
        · obtain ⟨y, hy, e⟩ := List.mem_map.mp q
          exact .inl (.inr (.inr (.inr (.inr (.inr (.inr (List.mem_map.mpr ⟨y, (List.mem_filter.mp hy).1, e⟩)))))))⟩
    have hH := R6.rc.hH
    refine hide fun G0 hG0 => ?_
    obtain ⟨t1, t2, t3, t4, t5, t6, t7, t8, t9, n', hdH⟩ := R6.rc.hd
    obtain ⟨oV, hV, dV⟩ := R6.hx.hv
    refine hG0 ?_
    try clear hG0 G0
    dsimp only at dV
    repeat' ((fail_if_success guard_target = wpAny _ _ (exec (Stmt.While _ _ _ _) _) _ _ _); (fail_if_success guard_target = wpAny _ _ (exec (Stmt.For _ _ _ _ _) _) _ _ _); walk_at "mine")
    have hKD : kept ∈ (abDel S.ab gone).map (·.1) := abDel_keys.mpr ⟨List.mem_map.mpr ⟨_, hK, rfl⟩, by lia⟩
    have hdl : (abDel S.ab gone).length ≤ S.ab.length := List.length_filter_le _ _
    refine rd_set (news := (D8, lo (usK ++ usG) 0) :: news5) (by assumption) (by assumption) hV dV (by rw [List.length_map]; lia) fun oV9 h9 F9 N9 dV9 => ?_
    rw [put_refs (l := Lk ++ Lg) hKD] at dV9
    have hnoV := no_tu N8 hV (by obtain ⟨_, _, q, _⟩ := dV; rw [q.1]; simp)
    have hD8 : D8 ∉ (abDel S.ab gone).map (·.2.1) := fun q => by
      obtain ⟨o, ho⟩ := R5.memL q
      exact Nat.lt_irrefl _ (lt8 _ ho)
    have R7 := R6.updV hnoV dV9 (fun y hy => by
      refine hide fun G0 hG0 => ?_
      obtain ⟨z, hz, rfl⟩ := List.mem_map.mp hy
      refine hG0 ?_
      try clear hG0 G0
      by_cases q : z.1 = kept
      · rw [if_pos q]; exact ⟨_, _, .head _, intsAre_append hKi hGi⟩
      · rw [if_neg q]; exact R6.hx.hl z hz) (abPut_nd (O.abn.sublist (List.Sublist.map _ List.filter_sublist)) hnl hD8) (fun y hy => (abPut_addr hy).elim (fun q => .inr fun hm => by
        obtain ⟨o, ho⟩ := R5.mem hm
        rw [q] at ho
        exact Nat.lt_irrefl _ (lt8 _ ho)) .inl)
    have C8 := C7.trans (Ch.upd (news := (D8, lo (usK ++ usG) 0) :: news5) (o := oV9) (own := a.own (abPut (abDel S.ab gone) kept D8 (Lk ++ Lg))) (a := a.vD) (by simp [HA.own]))
    clear hH hdH hV dV hnoV
    generalize upd a.vD oV9 ((D8, lo (usK ++ usG) 0) :: news5) = news6 at *
    repeat' ((fail_if_success guard_target = wpAny _ _ (exec (Stmt.While _ _ _ _) _) _ _ _); (fail_if_success guard_target = wpAny _ _ (exec (Stmt.For _ _ _ _ _) _) _ _ _); walk_at "mine")
    have e1 : (vsE ++ [Value.ref DW]).length = S.ne + 1 := by simp [hEl]
    have e2 : (vsF ++ [v1]).length = S.nf + 1 := by simp [hFl]
    rw [e1, e2] at R7
    have R8 : RepH w news6 a (joinS S kept gone l1 l2 Lk Lg D8) := R7
    have hdl2 := (abDel_len O.abn hG).1
    dsimp only at hdl2
    refine lv_ret (by assumption) (by assumption) fun Fx Nx => h2 _ (joinS S kept gone l1 l2 Lk Lg D8) (rtM rt kept gone) news6 ⟨sm4.1, sm4.2⟩ Fx Nx R8 (O.join hkl hgl rk rg hlt hl1 hl2 hK hG) rfl ?_ C8
    show (S.wq ++ Lg).length + 100 * (abPut (abDel S.ab gone) kept D8 (Lk ++ Lg)).length < _
    have : (abPut (abDel S.ab gone) kept D8 (Lk ++ Lg)).length = (abDel S.ab gone).length := by unfold abPut; simp
    rw [this, List.length_append]
    lia
end
section
variable {w : World} {A : Around} {g : PySem.Heap} {L : Addr} {m mg mb : PySem.Str → Option Value} {s : Shared} {news : List (Addr × Obj)} {p : Program} {loose : List PySem.Str} {a : HA} {S : HS} {rt : Nat → Nat} {told : Nat} {E : Value → Shared → Prop}
theorem kn_setdef {b : Addr} {k : PySem.Str × List Nat} {x j : Nat} {t : Tok} {Q : Value → Shared → Prop} (hr : RoomOk A j) (F : Fr g L s.heap m) (N : News g L s.heap news) (R : RepH w news a S) (O : OkH a S rt told) (hk : TupV news (.ref b) k) (hx : x < S.nodes.length)
    (hpot : S.kn.length + S.wq.length + 100 * S.ab.length + 1 ≤ 101 * S.nodes.length)
    (h : ∀ v t h' tk S1 news1, v < S.nodes.length → Fr g L h' m → News g L h' news1 → RepH w news1 a S1 → OkH a S1 rt told → S1.nodes = S.nodes → S1.wq = S.wq → S1.ab = S.ab → Ch (a.own S.ab) (a.own S.ab) news news1 → Q (.int (v : Int) t) { s with heap := h', toks := tk }) :
    wpAny (model P w) A (call (.builtin "dict.setdefault") [.ref a.kD, .ref b, .int (x : Int) t]) Q E s := by
  obtain ⟨o, hm, hd⟩ := R.hx.hk
  have hz : S.kn.length ≤ 1100 := by have := O.pot; have := O.sm; lia
  have hsm := O.sm
  cases hl : lkT S.kn k with
  | some v => exact dt_setdef_there hr N hm hd R.hx.lk hk hl (by lia) fun t tk => h v t s.heap tk S news (O.kn _ (lkT_some hl)) F N R O rfl rfl rfl Ch.rfl
  | none =>
    refine dt_setdef_new hr F N hm hd R.hx.lk hk hl (by lia) fun o' h' tk F' N' hd' => h x t h' tk { S with kn := S.kn ++ [(k, x)] } _ hx F' N' (R.updK (fun us n => dt_ne N hm hd) hd') ?_ rfl rfl rfl (Ch.upd (by simp [HA.own]))
    exact { O with
      kn := fun q hq => (List.mem_append.mp hq).elim (O.kn q) fun e => by rw [List.mem_singleton.mp e]; exact hx
      pot := by show (S.kn ++ [(k, x)]).length + S.wq.length + 100 * S.ab.length ≤ 101 * S.nodes.length; simp; lia }
set_option maxHeartbeats 8000000 in
theorem look_ok {x : Nat} {tx : Tok} {Q : Value → Shared → Prop}
   (F : Fr g L s.heap m) (N : News g L s.heap news) (X : (hd.heap_39 w.params).In g) (T : TopRead p loose mg mb g) (hr : RoomOk A 6)
   (R : RepH w news a S) (O : OkH a S rt told) (hto : told ≤ 500) (hx : x < S.nodes.length) (hpot : S.kn.length + S.wq.length + 100 * S.ab.length + 1 ≤ 101 * S.nodes.length)
   (h : ∀ s' S' rt' news', Sm s s' → Fr g L s'.heap m → News g L s'.heap news' → RepH w news' a S' → OkH a S' rt' told → S'.nodes = S.nodes → S'.wq.length + 100 * S'.ab.length ≤ S.wq.length + 100 * S.ab.length → Ch (a.own S.ab) (a.own S'.ab) news news' → Q .none s') :
   wpAny (model P w) A (call (.ref 388) [.ref a.H, .int x tx]) Q E s := by
  refine bd [("self", .ref a.H), ("n", .int x tx)] ?_
  (refine' callP ?zF ?zN ?zX ?zT ?zR ?k6 ?k7 ?k9 ?kB ?_ ?c5 ?c2 ?c3 ?c4; (case zF | zN | zX | zR => assumption); (case zT => apply TopRead.nolimit; assumption); (case k6 | k7 => k_is); (case k9 | kB | c2 | c3 | c4 => exact rfl); (case c5 => decide); intros)
  rename_i g' L' h' stay X' hr' F' N'
  have T' := T.keeps stay
  have hH := R.rc.hH
  refine hide fun G0 hG0 => ?_
  obtain ⟨t1, t2, t3, t4, t5, t6, t7, t8, t9, n', hdH⟩ := R.rc.hd
  obtain ⟨oK, hK, dK⟩ := R.hx.hk
  refine hG0 ?_
  try clear hG0 G0
  clear X T F N
  repeat' ((fail_if_success guard_target = wpAny _ _ (exec (Stmt.While _ _ _ _) _) _ _ _); (fail_if_success guard_target = wpAny _ _ (exec (Stmt.For _ _ _ _ _) _) _ _ _); walk_at "mine")
  refine hnode_ok (by assumption) (by assumption) X' T' (hr'.less (by decide)) R.rc O.okc (List.getElem?_eq_getElem hx) fun D s1 news1 sm1 F1 N1 sub1 hT hne1 => ?_
  repeat' ((fail_if_success guard_target = wpAny _ _ (exec (Stmt.While _ _ _ _) _) _ _ _); (fail_if_success guard_target = wpAny _ _ (exec (Stmt.For _ _ _ _ _) _) _ _ _); walk_at "mine")
  refine kn_setdef hr' (by assumption) (by assumption) (R.mono sub1) O hT hx hpot fun v tv h2 tk S1 news2 hv F2 N2 R2 O2 en ew ea C2 => ?_
  clear hH hdH hK dK
  have hH := R2.rc.hH
  obtain ⟨t1, t2, t3, t4, t5, t6, t7, t8, t9, n', hdH⟩ := R2.rc.hd
  repeat' ((fail_if_success guard_target = wpAny _ _ (exec (Stmt.While _ _ _ _) _) _ _ _); (fail_if_success guard_target = wpAny _ _ (exec (Stmt.For _ _ _ _ _) _) _ _ _); walk_at "mine")
  refine hfind_ok (by assumption) (by assumption) X' T' (hr'.less (by decide)) R2.rc O2.okc (by rw [en]; exact hv) fun t10 s3 sm3 F3 N3 => ?_
  repeat' ((fail_if_success guard_target = wpAny _ _ (exec (Stmt.While _ _ _ _) _) _ _ _); (fail_if_success guard_target = wpAny _ _ (exec (Stmt.For _ _ _ _ _) _) _ _ _); walk_at "mine")
  refine hfind_ok (by assumption) (by assumption) X' T' (hr'.less (by decide)) R2.rc O2.okc (by rw [en]; exact hx) fun t11 s4 sm4 F4 N4 => ?_
  have C3 : Ch (a.own S.ab) (a.own S.ab) news news2 := Ch.trans (Ch.more sub1) C2
  repeat' ((fail_if_success guard_target = wpAny _ _ (exec (Stmt.While _ _ _ _) _) _ _ _); (fail_if_success guard_target = wpAny _ _ (exec (Stmt.For _ _ _ _ _) _) _ _ _); walk_at "mine")
  · have hne : ((rt v : Nat) : Int) ≠ ((rt x : Nat) : Int) := by assumption
    refine join_ok (by assumption) (by assumption) X' T' (hr'.less (by decide)) (R2.mono fun q hq => List.mem_cons_of_mem _ hq) O2 hto (by rw [en]; exact hv) (by rw [en]; exact hx) (fun e => absurd (congrArg Int.ofNat e) hne) (fun _ s5 S5 rt5 news5 sm5 F5 N5 R5 O5 en5 hm5 C5 => ?_)
    repeat' ((fail_if_success guard_target = wpAny _ _ (exec (Stmt.While _ _ _ _) _) _ _ _); (fail_if_success guard_target = wpAny _ _ (exec (Stmt.For _ _ _ _ _) _) _ _ _); walk_at "mine")
    rw [ea] at C5
    refine lv_next (by assumption) (by assumption) fun F9 N9 => h _ S5 rt5 news5 ⟨sm5.1.trans (sm4.1.trans (sm3.1.trans sm1.1)), sm5.2.trans (sm4.2.trans (sm3.2.trans sm1.2))⟩ F9 N9 R5 O5 (en5.trans en) (by rw [ew, ea] at hm5; lia) (C3.trans (Ch.trans (Ch.more fun q hq => List.mem_cons_of_mem _ hq) C5))
  · refine lv_next (by assumption) (by assumption) fun F9 N9 => h _ S1 rt news2 ⟨sm4.1.trans (sm3.1.trans sm1.1), sm4.2.trans (sm3.2.trans sm1.2)⟩ F9 N9 R2 O2 en (by rw [ew, ea]; lia) (by rw [ea]; exact C3)
end
section
variable {w : World} {A : Around} {g : PySem.Heap} {L : Addr} {m mg mb : PySem.Str → Option Value} {s : Shared} {news : List (Addr × Obj)} {p : Program} {loose : List PySem.Str} {a : HA} {S : HS} {rt : Nat → Nat} {told : Nat} {E : Value → Shared → Prop}
set_option maxHeartbeats 8000000 in
theorem settle_ok {Q : Value → Shared → Prop}
   (F : Fr g L s.heap m) (N : News g L s.heap news) (X : (hd.heap_39 w.params).In g) (T : TopRead p loose mg mb g) (hr : RoomOk A 7)
   (R : RepH w news a S) (O : OkH a S rt told) (hto : told ≤ 500)
   (h : ∀ s' S' rt' news', Sm s s' → Fr g L s'.heap m → News g L s'.heap news' → RepH w news' a S' → OkH a S' rt' told → S'.nodes = S.nodes → Ch (a.own S.ab) (a.own S'.ab) news news' → Q .none s') :
   wpAny (model P w) A (call (.ref 423) [.ref a.H]) Q E s := by
  refine bd [("self", .ref a.H)] ?_
  (refine' callP ?zF ?zN ?zX ?zT ?zR ?k6 ?k7 ?k9 ?kB ?_ ?c5 ?c2 ?c3 ?c4; (case zF | zN | zX | zR => assumption); (case zT => apply TopRead.nolimit; assumption); (case k6 | k7 => k_is); (case k9 | kB | c2 | c3 | c4 => exact rfl); (case c5 => decide); intros)
  rename_i g' L' h' stay X' hr' F' N'
  have T' := T.keeps stay
  clear X T F N
  refine wpAny_execs_cons ?_
  refine while_walk (fun k s' => Sm s s' ∧ ∃ m' newsI S1 rt1, Fr g' L' s'.heap m' ∧ News g' L' s'.heap newsI ∧ m' "self" = some (.ref a.H) ∧ RepH w newsI a S1 ∧ OkH a S1 rt1 told ∧ S1.nodes = S.nodes ∧ Ch (a.own S.ab) (a.own S1.ab) news newsI ∧ k = S1.wq.length + 100 * S1.ab.length) (S.wq.length + 100 * S.ab.length)
    ⟨⟨rfl, rfl⟩, _, news, S, rt, F', N', by walk_at "mloc", R, O, rfl, Ch.rfl, rfl⟩ ?_
  rintro k s' ⟨sm, m', newsI, S1, rt1, F', N', e1, R1, O1, en, C1, rfl⟩ Z hZ
  have hH := R1.rc.hH
  refine hide fun G0 hG0 => ?_
  obtain ⟨t1, t2, t3, t4, t5, t6, t7, t8, t9, n', hdH⟩ := R1.rc.hd
  obtain ⟨us, nq, hQ, hQi⟩ := R1.hx.hq
  refine hG0 ?_
  try clear hG0 G0
  have hsm := O1.sm
  have hpot := O1.pot
  have hul := IntsAre.len hQi
  have hzq : us.length ≤ 100000 := by lia
  repeat' (first | (guard_target = wpAny _ _ (compareOp CmpOp.NotEq (Value.ref _) (Value.ref _)) _ _ _; refine' rl_neB ?zr ?zN ?zm ?zl ?zi ?zj ?zk ?_; (case zr => with_reducible assumption); walk_at "aNm"; (case zl => k_mem); (case zi | zj => first | with_reducible assumption | exact nilN); (case zk => first | (show _ = true; simp; done) | (show _ = false; simp; done) | exact rfl)) | ((fail_if_success guard_target = wpAny _ _ (exec (Stmt.While _ _ _ _) _) _ _ _); (fail_if_success guard_target = wpAny _ _ (exec (Stmt.For _ _ _ _ _) _) _ _ _); walk_at "mine"))
  · have hpos : (0 : Int) < (us.length : Int) := by assumption
    rcases List.eq_nil_or_concat S1.wq with q0 | ⟨ws, y, q1⟩
    · have : us.length = 0 := by rw [hul, q0]; rfl
      lia
    rw [List.concat_eq_append] at q1
    rw [q1] at hQi
    refine hide fun G0 hG0 => ?_
    obtain ⟨us', ty, rfl, hQ'⟩ := intsAre_snoc hQi
    refine hG0 ?_
    try clear hG0 G0
    have hy := O1.wq y (by rw [q1]; simp)
    refine rl_pop (news := newsI) (by assumption) (by assumption) hQ (by rw [List.length_append] at hzq; lia) fun h3 n3 F3 N3 => ?_
    have R2 := R1.updQ (n' := n3) (no_tu N' hQ (by simp)) hQ'
    have C2 := C1.trans (Ch.upd (news := newsI) (o := lo us' n3) (own := a.own S1.ab) (a := a.qL) (by simp [HA.own]))
    have hwl : S1.wq.length = ws.length + 1 := by rw [q1]; simp
    have O2 : OkH a { S1 with wq := ws } rt1 told := { O1 with
      wq := fun z hz => O1.wq z (by rw [q1]; exact List.mem_append_left _ hz)
      pot := by show S1.kn.length + ws.length + 100 * S1.ab.length ≤ 101 * S1.nodes.length; lia }
    generalize upd a.qL (lo us' n3) newsI = news2 at *
    repeat' (first | (guard_target = wpAny _ _ (compareOp CmpOp.NotEq (Value.ref _) (Value.ref _)) _ _ _; refine' rl_neB ?zr ?zN ?zm ?zl ?zi ?zj ?zk ?_; (case zr => with_reducible assumption); walk_at "aNm"; (case zl => k_mem); (case zi | zj => first | with_reducible assumption | exact nilN); (case zk => first | (show _ = true; simp; done) | (show _ = false; simp; done) | exact rfl)) | ((fail_if_success guard_target = wpAny _ _ (exec (Stmt.While _ _ _ _) _) _ _ _); (fail_if_success guard_target = wpAny _ _ (exec (Stmt.For _ _ _ _ _) _) _ _ _); walk_at "mine"))
    refine look_ok (by assumption) (by assumption) X' T' (hr'.less (by decide)) R2 O2 hto hy (by show S1.kn.length + ws.length + 100 * S1.ab.length + 1 ≤ 101 * S1.nodes.length; lia) fun s5 S5 rt5 news5 sm5 F5 N5 R5 O5 en5 hm5 C5 => ?_
    repeat' (first | (guard_target = wpAny _ _ (compareOp CmpOp.NotEq (Value.ref _) (Value.ref _)) _ _ _; refine' rl_neB ?zr ?zN ?zm ?zl ?zi ?zj ?zk ?_; (case zr => with_reducible assumption); walk_at "aNm"; (case zl => k_mem); (case zi | zj => first | with_reducible assumption | exact nilN); (case zk => first | (show _ = true; simp; done) | (show _ = false; simp; done) | exact rfl)) | ((fail_if_success guard_target = wpAny _ _ (exec (Stmt.While _ _ _ _) _) _ _ _); (fail_if_success guard_target = wpAny _ _ (exec (Stmt.For _ _ _ _ _) _) _ _ _); walk_at "mine"))
    exact nx <| hZ _ ⟨S5.wq.length + 100 * S5.ab.length, by (try dsimp only at hm5); lia, ⟨sm5.1.trans sm.1, sm5.2.trans sm.2⟩, _, news5, S5, rt5, by assumption, by assumption, e1, R5, O5, en5.trans en, C2.trans C5, rfl⟩
  · exact lv_next (by assumption) (by assumption) fun F9 N9 => h _ S1 rt1 newsI ⟨sm.1, sm.2⟩ F9 N9 R1 O1 en C1
end
theorem OkH.more {a : HA} {S : HS} {rt : Nat → Nat} {told told' : Nat} (O : OkH a S rt told) (h : told ≤ told') : OkH a S rt told' := { O with edg := by have := O.edg; lia }
section
variable {w : World} {A : Around} {g : PySem.Heap} {L : Addr} {m mg mb : PySem.Str → Option Value} {s : Shared} {news : List (Addr × Obj)} {p : Program} {loose : List PySem.Str} {a : HA} {S : HS} {rt : Nat → Nat} {told : Nat} {E : Value → Shared → Prop}
set_option maxHeartbeats 8000000 in
theorem hmerge_ok {x y : Nat} {tx ty : Tok} {rv : Value} {Q : Value → Shared → Prop}
   (F : Fr g L s.heap m) (N : News g L s.heap news) (X : (hd.heap_39 w.params).In g) (T : TopRead p loose mg mb g) (hr : RoomOk A 6)
   (R : RepH w news a S) (O : OkH a S rt told) (hto : told ≤ 500) (hx : x < S.nodes.length) (hy : y < S.nodes.length)
   (h : ∀ b s' S' rt' news', Sm s s' → Fr g L s'.heap m → News g L s'.heap news' → RepH w news' a S' → OkH a S' rt' (told + 1) → S'.nodes = S.nodes → Ch (a.own S.ab) (a.own S'.ab) news news' → Q (.bool b) s') :
   wpAny (model P w) A (call (.ref 409) [.ref a.H, .int x tx, .int y ty, rv]) Q E s := by
  refine bd [("self", .ref a.H), ("a", .int x tx), ("b", .int y ty), ("reason", rv)] ?_
  (refine' callP ?zF ?zN ?zX ?zT ?zR ?k6 ?k7 ?k9 ?kB ?_ ?c5 ?c2 ?c3 ?c4; (case zF | zN | zX | zR => assumption); (case zT => apply TopRead.nolimit; assumption); (case k6 | k7 => k_is); (case k9 | kB | c2 | c3 | c4 => exact rfl); (case c5 => decide); intros)
  rename_i g' L' h' stay X' hr' F' N'
  have T' := T.keeps stay
  have hH := R.rc.hH
  obtain ⟨t1, t2, t3, t4, t5, t6, t7, t8, t9, n', hdH⟩ := R.rc.hd
  clear X T F N
  repeat' ((fail_if_success guard_target = wpAny _ _ (exec (Stmt.While _ _ _ _) _) _ _ _); (fail_if_success guard_target = wpAny _ _ (exec (Stmt.For _ _ _ _ _) _) _ _ _); walk_at "mine")
  refine join_ok (by assumption) (by assumption) X' T' (hr'.less (by decide)) R O hto hx hy (fun e s5 S5 news5 sm5 F5 N5 R5 O5 en5 C5 => ?_) (fun e s5 S5 rt5 news5 sm5 F5 N5 R5 O5 en5 hm5 C5 => ?_)
  · repeat' ((fail_if_success guard_target = wpAny _ _ (exec (Stmt.While _ _ _ _) _) _ _ _); (fail_if_success guard_target = wpAny _ _ (exec (Stmt.For _ _ _ _ _) _) _ _ _); walk_at "mine")
    exact lv_ret (by assumption) (by assumption) fun F9 N9 => h _ _ S5 rt news5 ⟨sm5.1, sm5.2⟩ F9 N9 R5 O5 en5 C5
  · repeat' ((fail_if_success guard_target = wpAny _ _ (exec (Stmt.While _ _ _ _) _) _ _ _); (fail_if_success guard_target = wpAny _ _ (exec (Stmt.For _ _ _ _ _) _) _ _ _); walk_at "mine")
    exact lv_ret (by assumption) (by assumption) fun F9 N9 => h _ _ S5 rt5 news5 ⟨sm5.1, sm5.2⟩ F9 N9 R5 (O5.more (Nat.le_succ _)) en5 C5
end
theorem Src.str {prog : Program} {w : World} {h : PySem.Heap} {x : PySem.Str} {t : Tok} (ha : x.cps.all (· < 128) = true) :
    Src prog w (.str x t) h [] x.cps.size (SignAt x) where
  go := fun {A s E Q} hh hs hq => by
    subst hs
    exact wpAny_pyIter_ascii ha (hq _ _ (fun A' hA => Walks.strAscii hA _ x t) ⟨_, Heap.get?_push_size _ rfl, rfl, rfl⟩ fun i h' st => by
      obtain ⟨o, ho, hc, _⟩ := st
      exact ⟨o, ho, by rw [hc]; simp⟩)
section
variable {w : World} {A : Around} {g : PySem.Heap} {L : Addr} {m mg mb : PySem.Str → Option Value} {s : Shared} {news : List (Addr × Obj)} {p : Program} {loose : List PySem.Str} {E : Value → Shared → Prop}
set_option maxHeartbeats 8000000 in
theorem isop_a {t : Tok} {Q : Value → Shared → Prop}
   (F : Fr g L s.heap m) (N : News g L s.heap news) (X : (hd.heap_39 w.params).In g) (T : TopRead p loose mg mb g) (hr : RoomOk A 1)
   (h : ∀ s', Sm s s' → Fr g L s'.heap m → News g L s'.heap news → Q (.bool true) s') :
   wpAny (model P w) A (call (.ref 152) [.str "a" t]) Q E s := by
  refine bd [("text", .str "a" t)] ?_
  (refine' callP ?zF ?zN ?zX ?zT ?zR ?k6 ?k7 ?k9 ?kB ?_ ?c5 ?c2 ?c3 ?c4; (case zF | zN | zX | zR => assumption); (case zT => apply TopRead.nolimit; assumption); (case k6 | k7 => k_is); (case k9 | kB | c2 | c3 | c4 => exact rfl); (case c5 => decide); intros)
  rename_i g' L' h' stay X' hr' F' N'
  have T' := T.keeps stay
  clear X T F N
  repeat' (first | (guard_target = wpAny _ _ (compareOp CmpOp.Eq (Value.ref _) (Value.ref _)) _ _ _; refine' rl_eqB ?zr ?zN ?zm ?zl ?zi ?zj ?zk ?_; (case zr => with_reducible assumption); walk_at "aNm"; (case zl => k_mem); (case zi | zj => first | with_reducible assumption | exact nilN); (case zk => first | with_reducible assumption | exact rfl)) | ((fail_if_success guard_target = wpAny _ _ (exec (Stmt.While _ _ _ _) _) _ _ _); (fail_if_success guard_target = wpAny _ _ (exec (Stmt.For _ _ _ _ _) _) _ _ _); walk_at "mine"))
  refine comp_walk (srcO := []) (by assumption) (by assumption) hr'.hh (n := 1) (by decide) (by decide) rfl rfl (Src.str (x := "a") (by decide +kernel)) (fun q hq => nomatch hq)
    (fun i ys news' => ys = [] ∧ ∀ q ∈ news, q ∈ news') ⟨rfl, fun q hq => hq⟩ ?t1 ?f1
  case t1 =>
    rintro j v ys mC news' ext C s' hj hv sm7 F7 hmC N7 hdis hsrc7 hJ0 Z Z0 hZ hZ0
    refine hide fun G0 hG0 => ?_
    obtain ⟨hys, hsub7⟩ := hJ0
    refine hG0 ?_
    try clear hG0 G0
    obtain ⟨c, u, hc, rfl⟩ := hv
    have hj0 : j = 0 := by lia
    subst hj0
    have hcc : c = 97 := by
      have e : (PySem.Str.ofString "a").cps[0]? = some 97 := by decide +kernel
      exact Option.some.inj (hc.symm.trans e)
    subst hcc
    refine wpAny_tests_one ?_
    repeat' (first | (guard_target = wpAny _ _ (compareOp CmpOp.Eq (Value.ref _) (Value.ref _)) _ _ _; refine' rl_eqB ?zr ?zN ?zm ?zl ?zi ?zj ?zk ?_; (case zr => with_reducible assumption); walk_at "aNm"; (case zl => k_mem); (case zi | zj => first | with_reducible assumption | exact nilN); (case zk => first | with_reducible assumption | exact rfl)) | ((fail_if_success guard_target = wpAny _ _ (exec (Stmt.While _ _ _ _) _) _ _ _); (fail_if_success guard_target = wpAny _ _ (exec (Stmt.For _ _ _ _ _) _) _ _ _); walk_at "mine"))
    · exact hZ0 _ ⟨⟨sm7.1, sm7.2⟩, mC, news', by assumption, by assumption, hdis, hsrc7, hys, hsub7⟩
    · exfalso
      rename_i hbad
      revert hbad
      decide +kernel
  case f1 =>
    rintro D8 c8 ys news8 s8 sm8 F8 N8 hD8 hlt8 ⟨rfl, hsub8⟩
    have hcmp : decide (([] : List Nat) = []) = true := rfl
    repeat' (first | (guard_target = wpAny _ _ (compareOp CmpOp.Eq (Value.ref _) (Value.ref _)) _ _ _; refine' rl_eqB ?zr ?zN ?zm ?zl ?zi ?zj ?zk ?_; (case zr => with_reducible assumption); walk_at "aNm"; (case zl => k_mem); (case zi | zj => first | with_reducible assumption | exact nilN); (case zk => first | with_reducible assumption | exact rfl)) | ((fail_if_success guard_target = wpAny _ _ (exec (Stmt.While _ _ _ _) _) _ _ _); (fail_if_success guard_target = wpAny _ _ (exec (Stmt.For _ _ _ _ _) _) _ _ _); walk_at "mine"))
    exact lv_ret (by assumption) (by assumption) fun F9 N9 => h _ ⟨sm8.1, sm8.2⟩ F9 (nsub N9 fun q hq => List.mem_cons_of_mem _ (List.mem_cons_of_mem _ (hsub8 q hq)))
set_option maxHeartbeats 8000000 in
theorem isop_b {t : Tok} {Q : Value → Shared → Prop}
   (F : Fr g L s.heap m) (N : News g L s.heap news) (X : (hd.heap_39 w.params).In g) (T : TopRead p loose mg mb g) (hr : RoomOk A 1)
   (h : ∀ s', Sm s s' → Fr g L s'.heap m → News g L s'.heap news → Q (.bool true) s') :
   wpAny (model P w) A (call (.ref 152) [.str "b" t]) Q E s := by
  refine bd [("text", .str "b" t)] ?_
  (refine' callP ?zF ?zN ?zX ?zT ?zR ?k6 ?k7 ?k9 ?kB ?_ ?c5 ?c2 ?c3 ?c4; (case zF | zN | zX | zR => assumption); (case zT => apply TopRead.nolimit; assumption); (case k6 | k7 => k_is); (case k9 | kB | c2 | c3 | c4 => exact rfl); (case c5 => decide); intros)
  rename_i g' L' h' stay X' hr' F' N'
  have T' := T.keeps stay
  clear X T F N
  repeat' (first | (guard_target = wpAny _ _ (compareOp CmpOp.Eq (Value.ref _) (Value.ref _)) _ _ _; refine' rl_eqB ?zr ?zN ?zm ?zl ?zi ?zj ?zk ?_; (case zr => with_reducible assumption); walk_at "aNm"; (case zl => k_mem); (case zi | zj => first | with_reducible assumption | exact nilN); (case zk => first | with_reducible assumption | exact rfl)) | ((fail_if_success guard_target = wpAny _ _ (exec (Stmt.While _ _ _ _) _) _ _ _); (fail_if_success guard_target = wpAny _ _ (exec (Stmt.For _ _ _ _ _) _) _ _ _); walk_at "mine"))
  refine comp_walk (srcO := []) (by assumption) (by assumption) hr'.hh (n := 1) (by decide) (by decide) rfl rfl (Src.str (x := "b") (by decide +kernel)) (fun q hq => nomatch hq)
    (fun i ys news' => ys = [] ∧ ∀ q ∈ news, q ∈ news') ⟨rfl, fun q hq => hq⟩ ?t1 ?f1
  case t1 =>
    rintro j v ys mC news' ext C s' hj hv sm7 F7 hmC N7 hdis hsrc7 hJ0 Z Z0 hZ hZ0
    refine hide fun G0 hG0 => ?_
    obtain ⟨hys, hsub7⟩ := hJ0
    refine hG0 ?_
    try clear hG0 G0
    obtain ⟨c, u, hc, rfl⟩ := hv
    have hj0 : j = 0 := by lia
    subst hj0
    have hcc : c = 98 := by
      have e : (PySem.Str.ofString "b").cps[0]? = some 98 := by decide +kernel
      exact Option.some.inj (hc.symm.trans e)
    subst hcc
    refine wpAny_tests_one ?_
    repeat' (first | (guard_target = wpAny _ _ (compareOp CmpOp.Eq (Value.ref _) (Value.ref _)) _ _ _; refine' rl_eqB ?zr ?zN ?zm ?zl ?zi ?zj ?zk ?_; (case zr => with_reducible assumption); walk_at "aNm"; (case zl => k_mem); (case zi | zj => first | with_reducible assumption | exact nilN); (case zk => first | with_reducible assumption | exact rfl)) | ((fail_if_success guard_target = wpAny _ _ (exec (Stmt.While _ _ _ _) _) _ _ _); (fail_if_success guard_target = wpAny _ _ (exec (Stmt.For _ _ _ _ _) _) _ _ _); walk_at "mine"))
    · exact hZ0 _ ⟨⟨sm7.1, sm7.2⟩, mC, news', by assumption, by assumption, hdis, hsrc7, hys, hsub7⟩
    · exfalso
      rename_i hbad
      revert hbad
      decide +kernel
  case f1 =>
    rintro D8 c8 ys news8 s8 sm8 F8 N8 hD8 hlt8 ⟨rfl, hsub8⟩
    have hcmp : decide (([] : List Nat) = []) = true := rfl
    repeat' (first | (guard_target = wpAny _ _ (compareOp CmpOp.Eq (Value.ref _) (Value.ref _)) _ _ _; refine' rl_eqB ?zr ?zN ?zm ?zl ?zi ?zj ?zk ?_; (case zr => with_reducible assumption); walk_at "aNm"; (case zl => k_mem); (case zi | zj => first | with_reducible assumption | exact nilN); (case zk => first | with_reducible assumption | exact rfl)) | ((fail_if_success guard_target = wpAny _ _ (exec (Stmt.While _ _ _ _) _) _ _ _); (fail_if_success guard_target = wpAny _ _ (exec (Stmt.For _ _ _ _ _) _) _ _ _); walk_at "mine"))
    exact lv_ret (by assumption) (by assumption) fun F9 N9 => h _ ⟨sm8.1, sm8.2⟩ F9 (nsub N9 fun q hq => List.mem_cons_of_mem _ (List.mem_cons_of_mem _ (hsub8 q hq)))
set_option maxHeartbeats 8000000 in
theorem isop_f {t : Tok} {Q : Value → Shared → Prop}
   (F : Fr g L s.heap m) (N : News g L s.heap news) (X : (hd.heap_39 w.params).In g) (T : TopRead p loose mg mb g) (hr : RoomOk A 1)
   (h : ∀ s', Sm s s' → Fr g L s'.heap m → News g L s'.heap news → Q (.bool true) s') :
   wpAny (model P w) A (call (.ref 152) [.str "f" t]) Q E s := by
  refine bd [("text", .str "f" t)] ?_
  (refine' callP ?zF ?zN ?zX ?zT ?zR ?k6 ?k7 ?k9 ?kB ?_ ?c5 ?c2 ?c3 ?c4; (case zF | zN | zX | zR => assumption); (case zT => apply TopRead.nolimit; assumption); (case k6 | k7 => k_is); (case k9 | kB | c2 | c3 | c4 => exact rfl); (case c5 => decide); intros)
  rename_i g' L' h' stay X' hr' F' N'
  have T' := T.keeps stay
  clear X T F N
  repeat' (first | (guard_target = wpAny _ _ (compareOp CmpOp.Eq (Value.ref _) (Value.ref _)) _ _ _; refine' rl_eqB ?zr ?zN ?zm ?zl ?zi ?zj ?zk ?_; (case zr => with_reducible assumption); walk_at "aNm"; (case zl => k_mem); (case zi | zj => first | with_reducible assumption | exact nilN); (case zk => first | with_reducible assumption | exact rfl)) | ((fail_if_success guard_target = wpAny _ _ (exec (Stmt.While _ _ _ _) _) _ _ _); (fail_if_success guard_target = wpAny _ _ (exec (Stmt.For _ _ _ _ _) _) _ _ _); walk_at "mine"))
  refine comp_walk (srcO := []) (by assumption) (by assumption) hr'.hh (n := 1) (by decide) (by decide) rfl rfl (Src.str (x := "f") (by decide +kernel)) (fun q hq => nomatch hq)
    (fun i ys news' => ys = [] ∧ ∀ q ∈ news, q ∈ news') ⟨rfl, fun q hq => hq⟩ ?t1 ?f1
  case t1 =>
    rintro j v ys mC news' ext C s' hj hv sm7 F7 hmC N7 hdis hsrc7 hJ0 Z Z0 hZ hZ0
    refine hide fun G0 hG0 => ?_
    obtain ⟨hys, hsub7⟩ := hJ0
    refine hG0 ?_
    try clear hG0 G0
    obtain ⟨c, u, hc, rfl⟩ := hv
    have hj0 : j = 0 := by lia
    subst hj0
    have hcc : c = 102 := by
      have e : (PySem.Str.ofString "f").cps[0]? = some 102 := by decide +kernel
      exact Option.some.inj (hc.symm.trans e)
    subst hcc
    refine wpAny_tests_one ?_
    repeat' (first | (guard_target = wpAny _ _ (compareOp CmpOp.Eq (Value.ref _) (Value.ref _)) _ _ _; refine' rl_eqB ?zr ?zN ?zm ?zl ?zi ?zj ?zk ?_; (case zr => with_reducible assumption); walk_at "aNm"; (case zl => k_mem); (case zi | zj => first | with_reducible assumption | exact nilN); (case zk => first | with_reducible assumption | exact rfl)) | ((fail_if_success guard_target = wpAny _ _ (exec (Stmt.While _ _ _ _) _) _ _ _); (fail_if_success guard_target = wpAny _ _ (exec (Stmt.For _ _ _ _ _) _) _ _ _); walk_at "mine"))
    · exact hZ0 _ ⟨⟨sm7.1, sm7.2⟩, mC, news', by assumption, by assumption, hdis, hsrc7, hys, hsub7⟩
    · exfalso
      rename_i hbad
      revert hbad
      decide +kernel
  case f1 =>
    rintro D8 c8 ys news8 s8 sm8 F8 N8 hD8 hlt8 ⟨rfl, hsub8⟩
    have hcmp : decide (([] : List Nat) = []) = true := rfl
    repeat' (first | (guard_target = wpAny _ _ (compareOp CmpOp.Eq (Value.ref _) (Value.ref _)) _ _ _; refine' rl_eqB ?zr ?zN ?zm ?zl ?zi ?zj ?zk ?_; (case zr => with_reducible assumption); walk_at "aNm"; (case zl => k_mem); (case zi | zj => first | with_reducible assumption | exact nilN); (case zk => first | with_reducible assumption | exact rfl)) | ((fail_if_success guard_target = wpAny _ _ (exec (Stmt.While _ _ _ _) _) _ _ _); (fail_if_success guard_target = wpAny _ _ (exec (Stmt.For _ _ _ _ _) _) _ _ _); walk_at "mine"))
    exact lv_ret (by assumption) (by assumption) fun F9 N9 => h _ ⟨sm8.1, sm8.2⟩ F9 (nsub N9 fun q hq => List.mem_cons_of_mem _ (List.mem_cons_of_mem _ (hsub8 q hq)))
set_option maxHeartbeats 8000000 in
theorem isop_g {t : Tok} {Q : Value → Shared → Prop}
   (F : Fr g L s.heap m) (N : News g L s.heap news) (X : (hd.heap_39 w.params).In g) (T : TopRead p loose mg mb g) (hr : RoomOk A 1)
   (h : ∀ s', Sm s s' → Fr g L s'.heap m → News g L s'.heap news → Q (.bool true) s') :
   wpAny (model P w) A (call (.ref 152) [.str "g" t]) Q E s := by
  refine bd [("text", .str "g" t)] ?_
  (refine' callP ?zF ?zN ?zX ?zT ?zR ?k6 ?k7 ?k9 ?kB ?_ ?c5 ?c2 ?c3 ?c4; (case zF | zN | zX | zR => assumption); (case zT => apply TopRead.nolimit; assumption); (case k6 | k7 => k_is); (case k9 | kB | c2 | c3 | c4 => exact rfl); (case c5 => decide); intros)
  rename_i g' L' h' stay X' hr' F' N'
  have T' := T.keeps stay
  clear X T F N
  repeat' (first | (guard_target = wpAny _ _ (compareOp CmpOp.Eq (Value.ref _) (Value.ref _)) _ _ _; refine' rl_eqB ?zr ?zN ?zm ?zl ?zi ?zj ?zk ?_; (case zr => with_reducible assumption); walk_at "aNm"; (case zl => k_mem); (case zi | zj => first | with_reducible assumption | exact nilN); (case zk => first | with_reducible assumption | exact rfl)) | ((fail_if_success guard_target = wpAny _ _ (exec (Stmt.While _ _ _ _) _) _ _ _); (fail_if_success guard_target = wpAny _ _ (exec (Stmt.For _ _ _ _ _) _) _ _ _); walk_at "mine"))
  refine comp_walk (srcO := []) (by assumption) (by assumption) hr'.hh (n := 1) (by decide) (by decide) rfl rfl (Src.str (x := "g") (by decide +kernel)) (fun q hq => nomatch hq)
    (fun i ys news' => ys = [] ∧ ∀ q ∈ news, q ∈ news') ⟨rfl, fun q hq => hq⟩ ?t1 ?f1
  case t1 =>
    rintro j v ys mC news' ext C s' hj hv sm7 F7 hmC N7 hdis hsrc7 hJ0 Z Z0 hZ hZ0
    refine hide fun G0 hG0 => ?_
    obtain ⟨hys, hsub7⟩ := hJ0
    refine hG0 ?_
    try clear hG0 G0
    obtain ⟨c, u, hc, rfl⟩ := hv
    have hj0 : j = 0 := by lia
    subst hj0
    have hcc : c = 103 := by
      have e : (PySem.Str.ofString "g").cps[0]? = some 103 := by decide +kernel
      exact Option.some.inj (hc.symm.trans e)
    subst hcc
    refine wpAny_tests_one ?_
    repeat' (first | (guard_target = wpAny _ _ (compareOp CmpOp.Eq (Value.ref _) (Value.ref _)) _ _ _; refine' rl_eqB ?zr ?zN ?zm ?zl ?zi ?zj ?zk ?_; (case zr => with_reducible assumption); walk_at "aNm"; (case zl => k_mem); (case zi | zj => first | with_reducible assumption | exact nilN); (case zk => first | with_reducible assumption | exact rfl)) | ((fail_if_success guard_target = wpAny _ _ (exec (Stmt.While _ _ _ _) _) _ _ _); (fail_if_success guard_target = wpAny _ _ (exec (Stmt.For _ _ _ _ _) _) _ _ _); walk_at "mine"))
    · exact hZ0 _ ⟨⟨sm7.1, sm7.2⟩, mC, news', by assumption, by assumption, hdis, hsrc7, hys, hsub7⟩
    · exfalso
      rename_i hbad
      revert hbad
      decide +kernel
  case f1 =>
    rintro D8 c8 ys news8 s8 sm8 F8 N8 hD8 hlt8 ⟨rfl, hsub8⟩
    have hcmp : decide (([] : List Nat) = []) = true := rfl
    repeat' (first | (guard_target = wpAny _ _ (compareOp CmpOp.Eq (Value.ref _) (Value.ref _)) _ _ _; refine' rl_eqB ?zr ?zN ?zm ?zl ?zi ?zj ?zk ?_; (case zr => with_reducible assumption); walk_at "aNm"; (case zl => k_mem); (case zi | zj => first | with_reducible assumption | exact nilN); (case zk => first | with_reducible assumption | exact rfl)) | ((fail_if_success guard_target = wpAny _ _ (exec (Stmt.While _ _ _ _) _) _ _ _); (fail_if_success guard_target = wpAny _ _ (exec (Stmt.For _ _ _ _ _) _) _ _ _); walk_at "mine"))
    exact lv_ret (by assumption) (by assumption) fun F9 N9 => h _ ⟨sm8.1, sm8.2⟩ F9 (nsub N9 fun q hq => List.mem_cons_of_mem _ (List.mem_cons_of_mem _ (hsub8 q hq)))
end
section
variable {w : World} {A : Around} {g : PySem.Heap} {L B : Addr} {m mg mb : PySem.Str → Option Value} {s : Shared} {news : List (Addr × Obj)} {p : Program} {loose : List PySem.Str} {E : Value → Shared → Prop}
set_option maxHeartbeats 8000000 in
theorem req_a {t : Tok} {Q : Value → Shared → Prop}
   (F : Fr g L s.heap m) (N : News g L s.heap news) (X : (hd.heap_39 w.params).In g) (T : TopRead p loose mg mb g) (hr : RoomOk A 2)
   (h : ∀ s', Sm s s' → Fr g L s'.heap m → News g L s'.heap news → Q .none s') :
   wpAny (model P w) A (call (.ref 190) [.ref B, .str "a" t]) Q E s := by
  refine bd [("self", .ref B), ("op", .str "a" t)] ?_
  (refine' callP ?zF ?zN ?zX ?zT ?zR ?k6 ?k7 ?k9 ?kB ?_ ?c5 ?c2 ?c3 ?c4; (case zF | zN | zX | zR => assumption); (case zT => apply TopRead.nolimit; assumption); (case k6 | k7 => k_is); (case k9 | kB | c2 | c3 | c4 => exact rfl); (case c5 => decide); intros)
  rename_i g' L' h' stay X' hr' F' N'
  have T' := T.keeps stay
  clear X T F N
  repeat' ((fail_if_success guard_target = wpAny _ _ (exec (Stmt.While _ _ _ _) _) _ _ _); (fail_if_success guard_target = wpAny _ _ (exec (Stmt.For _ _ _ _ _) _) _ _ _); walk_at "mine")
  refine isop_a (by assumption) (by assumption) X' T' hr' fun s1 sm1 F1 N1 => ?_
  repeat' ((fail_if_success guard_target = wpAny _ _ (exec (Stmt.While _ _ _ _) _) _ _ _); (fail_if_success guard_target = wpAny _ _ (exec (Stmt.For _ _ _ _ _) _) _ _ _); walk_at "mine")
  exact lv_next (by assumption) (by assumption) fun F9 N9 => h _ ⟨sm1.1, sm1.2⟩ F9 N9
set_option maxHeartbeats 8000000 in
theorem req_b {t : Tok} {Q : Value → Shared → Prop}
   (F : Fr g L s.heap m) (N : News g L s.heap news) (X : (hd.heap_39 w.params).In g) (T : TopRead p loose mg mb g) (hr : RoomOk A 2)
   (h : ∀ s', Sm s s' → Fr g L s'.heap m → News g L s'.heap news → Q .none s') :
   wpAny (model P w) A (call (.ref 190) [.ref B, .str "b" t]) Q E s := by
  refine bd [("self", .ref B), ("op", .str "b" t)] ?_
  (refine' callP ?zF ?zN ?zX ?zT ?zR ?k6 ?k7 ?k9 ?kB ?_ ?c5 ?c2 ?c3 ?c4; (case zF | zN | zX | zR => assumption); (case zT => apply TopRead.nolimit; assumption); (case k6 | k7 => k_is); (case k9 | kB | c2 | c3 | c4 => exact rfl); (case c5 => decide); intros)
  rename_i g' L' h' stay X' hr' F' N'
  have T' := T.keeps stay
  clear X T F N
  repeat' ((fail_if_success guard_target = wpAny _ _ (exec (Stmt.While _ _ _ _) _) _ _ _); (fail_if_success guard_target = wpAny _ _ (exec (Stmt.For _ _ _ _ _) _) _ _ _); walk_at "mine")
  refine isop_b (by assumption) (by assumption) X' T' hr' fun s1 sm1 F1 N1 => ?_
  repeat' ((fail_if_success guard_target = wpAny _ _ (exec (Stmt.While _ _ _ _) _) _ _ _); (fail_if_success guard_target = wpAny _ _ (exec (Stmt.For _ _ _ _ _) _) _ _ _); walk_at "mine")
  exact lv_next (by assumption) (by assumption) fun F9 N9 => h _ ⟨sm1.1, sm1.2⟩ F9 N9
set_option maxHeartbeats 8000000 in
theorem req_f {t : Tok} {Q : Value → Shared → Prop}
   (F : Fr g L s.heap m) (N : News g L s.heap news) (X : (hd.heap_39 w.params).In g) (T : TopRead p loose mg mb g) (hr : RoomOk A 2)
   (h : ∀ s', Sm s s' → Fr g L s'.heap m → News g L s'.heap news → Q .none s') :
   wpAny (model P w) A (call (.ref 190) [.ref B, .str "f" t]) Q E s := by
  refine bd [("self", .ref B), ("op", .str "f" t)] ?_
  (refine' callP ?zF ?zN ?zX ?zT ?zR ?k6 ?k7 ?k9 ?kB ?_ ?c5 ?c2 ?c3 ?c4; (case zF | zN | zX | zR => assumption); (case zT => apply TopRead.nolimit; assumption); (case k6 | k7 => k_is); (case k9 | kB | c2 | c3 | c4 => exact rfl); (case c5 => decide); intros)
  rename_i g' L' h' stay X' hr' F' N'
  have T' := T.keeps stay
  clear X T F N
  repeat' ((fail_if_success guard_target = wpAny _ _ (exec (Stmt.While _ _ _ _) _) _ _ _); (fail_if_success guard_target = wpAny _ _ (exec (Stmt.For _ _ _ _ _) _) _ _ _); walk_at "mine")
  refine isop_f (by assumption) (by assumption) X' T' hr' fun s1 sm1 F1 N1 => ?_
  repeat' ((fail_if_success guard_target = wpAny _ _ (exec (Stmt.While _ _ _ _) _) _ _ _); (fail_if_success guard_target = wpAny _ _ (exec (Stmt.For _ _ _ _ _) _) _ _ _); walk_at "mine")
  exact lv_next (by assumption) (by assumption) fun F9 N9 => h _ ⟨sm1.1, sm1.2⟩ F9 N9
set_option maxHeartbeats 8000000 in
theorem req_g {t : Tok} {Q : Value → Shared → Prop}
   (F : Fr g L s.heap m) (N : News g L s.heap news) (X : (hd.heap_39 w.params).In g) (T : TopRead p loose mg mb g) (hr : RoomOk A 2)
   (h : ∀ s', Sm s s' → Fr g L s'.heap m → News g L s'.heap news → Q .none s') :
   wpAny (model P w) A (call (.ref 190) [.ref B, .str "g" t]) Q E s := by
  refine bd [("self", .ref B), ("op", .str "g" t)] ?_
  (refine' callP ?zF ?zN ?zX ?zT ?zR ?k6 ?k7 ?k9 ?kB ?_ ?c5 ?c2 ?c3 ?c4; (case zF | zN | zX | zR => assumption); (case zT => apply TopRead.nolimit; assumption); (case k6 | k7 => k_is); (case k9 | kB | c2 | c3 | c4 => exact rfl); (case c5 => decide); intros)
  rename_i g' L' h' stay X' hr' F' N'
  have T' := T.keeps stay
  clear X T F N
  repeat' ((fail_if_success guard_target = wpAny _ _ (exec (Stmt.While _ _ _ _) _) _ _ _); (fail_if_success guard_target = wpAny _ _ (exec (Stmt.For _ _ _ _ _) _) _ _ _); walk_at "mine")
  refine isop_g (by assumption) (by assumption) X' T' hr' fun s1 sm1 F1 N1 => ?_
  repeat' ((fail_if_success guard_target = wpAny _ _ (exec (Stmt.While _ _ _ _) _) _ _ _); (fail_if_success guard_target = wpAny _ _ (exec (Stmt.For _ _ _ _ _) _) _ _ _); walk_at "mine")
  exact lv_next (by assumption) (by assumption) fun F9 N9 => h _ ⟨sm1.1, sm1.2⟩ F9 N9
/-- the four texts -/
noncomputable def Op4 (x : PySem.Str) : Prop := x = "a" ∨ x = "b" ∨ x = "f" ∨ x = "g"
theorem req_ok {x : PySem.Str} {t : Tok} {Q : Value → Shared → Prop} (hx : Op4 x)
   (F : Fr g L s.heap m) (N : News g L s.heap news) (X : (hd.heap_39 w.params).In g) (T : TopRead p loose mg mb g) (hr : RoomOk A 2)
   (h : ∀ s', Sm s s' → Fr g L s'.heap m → News g L s'.heap news → Q .none s') :
   wpAny (model P w) A (call (.ref 190) [.ref B, .str x t]) Q E s := by
  rcases hx with rfl | rfl | rfl | rfl
  · exact req_a F N X T hr h
  · exact req_b F N X T hr h
  · exact req_f F N X T hr h
  · exact req_g F N X T hr h
end
theorem Src.range {prog : Program} {w : World} {h : PySem.Heap} {r : Addr} {n : Nat} {t u v : Tok} (hr : IsRange h r 0 (n : Int) 1 t u v) (hz : n ≤ 1000) :
    Src prog w (.ref r) h [] n (fun i v => ∃ t, v = .int (i : Int) t) where
  go := fun {A s E Q} hh hs hq => by
    subst hs
    have e : Builtin.Range.rangeSize 0 (n : Int) 1 = (n : Int) := by
      unfold Builtin.Range.rangeSize
      simp
      try lia
    refine wpAny_pyIter_range hr (by unfold Builtin.Range.small; rw [e]; simp [Builtin.Range.rangeFitsLong]; lia) ?_
    rw [e]
    refine hq _ (fun i h => IsRangeIter h s.heap.objs.size (0 + (i : Nat) * 1) ((n : Int) - (i : Nat)) 1) (fun A' hA => ?_) ?_ fun i h' st => ?_
    · have W := Walks.range (prog := prog) (w := w) (A := A') hA s.heap.objs.size 0 1 n
      have ee : (fun (i : Nat) v => ∃ t, v = Value.int ((i : Nat) : Int) t) = fun (i : Nat) v => ∃ t, v = Value.int (0 + (i : Int) * 1) t := by
        funext i v; simp
      rw [ee]
      exact W
    · have ez : (0 : Int) + ((0 : Nat) : Int) * 1 = 0 := by simp
      have en : ((n : Int) - ((0 : Nat) : Int)) = (n : Int) := by simp
      rw [ez, en]
      exact Heap.get?_push_size _ rfl
    · exact ⟨_, st, by simp⟩
section
variable {w : World} {A : Around} {g : PySem.Heap} {L D : Addr} {m mg mb : PySem.Str → Option Value} {s : Shared} {news news' : List (Addr × Obj)} {p : Program} {loose : List PySem.Str} {b : BA} {nodes : List (PySem.Str × List Nat)} {wt dp : List Nat} {E : Value → Shared → Prop} {o : Obj} {kvs : List ((PySem.Str × List Nat) × Nat)} {k : PySem.Str × List Nat} {c : Addr} {i j : Nat}
theorem RepBX.mono (R : RepBX w news b nodes wt dp) (hs : ∀ p ∈ news, p ∈ news') : RepBX w news' b nodes wt dp :=
  R.keep (X := []) ⟨fun p hp _ => hs p hp, fun x hx => by cases hx⟩ fun x _ h => nomatch h
theorem dt_in_new {Q : Value → Shared → Prop} (hr : RoomOk A j) (N : News g L s.heap news) (hm : (D, o) ∈ news) (hd : DT w news o kvs) (lo : (D == sysModules) = false) (hk : TupV news (.ref c) k) (hl : lkT kvs k = none) (h : ∀ tk, Q (.bool false) { s with toks := tk }) :
    wpAny (model P w) A (compareOp .In (.ref c) (.ref D)) Q E s := dt_in hr N hm hd lo hk (by rw [hl]; exact h)
theorem dt_in_old {Q : Value → Shared → Prop} (hr : RoomOk A j) (N : News g L s.heap news) (hm : (D, o) ∈ news) (hd : DT w news o kvs) (lo : (D == sysModules) = false) (hk : TupV news (.ref c) k) (hl : lkT kvs k = some i) (h : ∀ tk, Q (.bool true) { s with toks := tk }) :
    wpAny (model P w) A (compareOp .In (.ref c) (.ref D)) Q E s := dt_in hr N hm hd lo hk (by rw [hl]; exact h)
theorem RepBX.ne (R : RepBX w news b nodes wt dp) : b.B ∉ b.own ∧ b.dB ∉ b.own ∧ b.nL ≠ b.nD ∧ b.nL ≠ b.wL ∧ b.nL ≠ b.pL ∧ b.nD ≠ b.wL ∧ b.nD ≠ b.pL ∧ b.wL ≠ b.pL := by
  have h := R.nd
  unfold BA.own at h ⊢
  simp only [List.nodup_cons, List.mem_cons, not_or, List.not_mem_nil, not_false_eq_true, and_true] at h ⊢
  refine hide fun G0 hG0 => ?_
  obtain ⟨⟨h1, h2, h3, h4, h5⟩, ⟨h6, h7, h8, h9⟩, ⟨h10, h11, h12⟩, ⟨h13, h14⟩, h15, _⟩ := h
  refine hG0 ?_
  try clear hG0 G0
  exact ⟨⟨h2, h3, h4, h5⟩, ⟨h6, h7, h8, h9⟩, h10, h11, h12, h13, h14, h15⟩
theorem RepBX.mem (R : RepBX w news b nodes wt dp) : ∀ x ∈ b.B :: b.dB :: b.own, ∃ o, (x, o) ∈ news := fun x hx => by
  unfold BA.own at hx
  simp only [List.mem_cons, List.not_mem_nil, or_false] at hx
  rcases hx with rfl | rfl | rfl | rfl | rfl | rfl
  · exact ⟨_, R.rb.hB⟩
  · obtain ⟨_, _, _, _, _, h⟩ := R.rb.hd; exact ⟨_, h⟩
  · obtain ⟨_, _, h, _⟩ := R.rb.hn; exact ⟨_, h⟩
  · obtain ⟨_, h, _⟩ := R.hk; exact ⟨_, h⟩
  · obtain ⟨_, _, h, _⟩ := R.hw; exact ⟨_, h⟩
  · obtain ⟨_, _, h, _⟩ := R.hp; exact ⟨_, h⟩
theorem zs_sum (l : List Nat) : (zs l).sum = (l.sum : Int) := by
  induction l with
  | nil => rfl
  | cons a l ih => simp only [zs, List.map_cons, List.sum_cons] at ih ⊢; rw [ih]; lia
theorem zip_lt {i : Nat} (h : lkT nodes.zipIdx k = some i) : i < nodes.length := by
  have := List.snd_lt_of_mem_zipIdx (lkT_some h)
  simpa using this
set_option maxHeartbeats 8000000 in
theorem take_ok {D : Addr} {us : List Value} {n : Nat} {op : PySem.Str} {ks : List Nat} {t : Tok} {Q : Value → Shared → Prop}
   (F : Fr g L s.heap m) (N : News g L s.heap news) (X : (hd.heap_39 w.params).In g) (T : TopRead p loose mg mb g) (hr : RoomOk A 3)
   (R : RepBX w news b nodes wt dp) (hop : Op4 op) (hD : (D, tu us n) ∈ news) (hi : IntsAre us (zs ks)) (hks : ks.length ≤ 2) (hkl : ∀ x ∈ ks, x < nodes.length) (hz : nodes.length ≤ 15) (hwl : wt.length = nodes.length) (hdl : dp.length = nodes.length)
   (h1 : ∀ i t s' news', i < nodes.length → Sm s s' → Fr g L s'.heap m → News g L s'.heap news' → (∀ q ∈ news, q ∈ news') → Q (.int (i : Int) t) s')
   (h2 : ∀ t s' news' wt' dp', Sm s s' → Fr g L s'.heap m → News g L s'.heap news' → RepBX w news' b (nodes ++ [(op, ks)]) wt' dp' → wt'.length = nodes.length + 1 → dp'.length = nodes.length + 1 → Ch b.own b.own news news' → Q (.int (nodes.length : Int) t) s') :
   wpAny (model P w) A (call (.ref 183) [.ref b.B, .str op t, .ref D]) Q E s := by
  refine bd [("self", .ref b.B), ("op", .str op t), ("kids", .ref D)] ?_
  (refine' callC ?zF ?zN ?zX ?zT ?zR ?k6 ?k7 ?k9 ?kB ?c5 ?_ ?c2 ?c3 ?c4; (case zF | zN | zX | zR => assumption); (case zT => apply TopRead.nolimit; assumption); (case k6 | k7 => k_is); (case k9 | kB | c2 | c3 | c4 => exact rfl); (case c5 => decide); intros)
  rename_i g' L' h' tk' cells stay X' hr' F' N' Y ltY
  refine hide fun G0 hG0 => ?_
  obtain ⟨oS, rfl, hcS0⟩ := CellsAre.one Y
  refine hG0 ?_
  try clear hG0 G0
  have hcS : oS.data = .cell (some (.ref b.B)) := hcS0
  clear hcS0 Y
  have T' := T.keeps stay
  have hul := IntsAre.len hi
  have hzu : us.length ≤ 100000 := by lia
  clear X T F N
  repeat' ((fail_if_success guard_target = wpAny _ _ (exec (Stmt.While _ _ _ _) _) _ _ _); (fail_if_success guard_target = wpAny _ _ (exec (Stmt.For _ _ _ _ _) _) _ _ _); walk_at "mine")
  have hD1 := List.mem_cons_of_mem (DW, Mine.tu [.str op t] 0) (List.mem_cons_of_mem (L' + 1, oS) hD)
  refine call_tuple_same (rl_tup (by assumption : News g' L' _ ((DW, Mine.tu [.str op t] 0) :: (L' + 1, oS) :: news)) hD1) ?_
  repeat' ((fail_if_success guard_target = wpAny _ _ (exec (Stmt.If _ _ _ _) _) _ _ _); (fail_if_success guard_target = wpAny _ _ (exec (Stmt.While _ _ _ _) _) _ _ _); (fail_if_success guard_target = wpAny _ _ (exec (Stmt.For _ _ _ _ _) _) _ _ _); walk_at "mine")
  have hcell : (L' + 1, oS) ∈ newsW := subW _ (.tail _ (.head _))
  have hsub : ∀ q ∈ news, q ∈ newsW := fun q hq => subW _ (.tail _ (.tail _ hq))
  have R1 := R.mono hsub
  rw [List.nil_append] at memW
  have hTV : TupV newsW (.ref DW) (op, ks) := ⟨DW, t, us, jW, rfl, memW, hi⟩
  clear subW orW hD1 ltW
  generalize DW = ND at *
  generalize newsW = news1 at *
  have hB := R1.rb.hB
  refine hide fun G0 hG0 => ?_
  obtain ⟨b1, b2, b3, b4, bn, hdB⟩ := R1.rb.hd
  obtain ⟨oN, hN, dN⟩ := R1.hk
  refine hG0 ?_
  try clear hG0 G0
  have loN := R1.lo
  repeat' ((fail_if_success guard_target = wpAny _ _ (exec (Stmt.While _ _ _ _) _) _ _ _); (fail_if_success guard_target = wpAny _ _ (exec (Stmt.For _ _ _ _ _) _) _ _ _); walk_at "mine")
  cases hl : lkT nodes.zipIdx (op, ks) with
  | some i =>
    refine dt_in_old (news := news1) hr' (by assumption) hN dN loN hTV hl fun tk2 => ?_
    repeat' ((fail_if_success guard_target = wpAny _ _ (exec (Stmt.While _ _ _ _) _) _ _ _); (fail_if_success guard_target = wpAny _ _ (exec (Stmt.For _ _ _ _ _) _) _ _ _); walk_at "mine")
    refine dt_item (news := news1) hr' (by assumption) hN dN hTV hl fun t3 tk3 => ?_
    repeat' ((fail_if_success guard_target = wpAny _ _ (exec (Stmt.While _ _ _ _) _) _ _ _); (fail_if_success guard_target = wpAny _ _ (exec (Stmt.For _ _ _ _ _) _) _ _ _); walk_at "mine")
    exact lv_ret (by assumption) (by assumption) fun F9 N9 => h1 i _ _ news1 (zip_lt hl) ⟨rfl, rfl⟩ F9 N9 hsub
  | none =>
    refine dt_in_new (news := news1) hr' (by assumption) hN dN loN hTV hl fun tk2 => ?_
    repeat' ((fail_if_success guard_target = wpAny _ _ (exec (Stmt.While _ _ _ _) _) _ _ _); (fail_if_success guard_target = wpAny _ _ (exec (Stmt.For _ _ _ _ _) _) _ _ _); walk_at "mine")
    refine req_ok hop (by assumption) (by assumption) X' T' hr' fun s1 sm1 F1 N1 => ?_
    repeat' ((fail_if_success guard_target = wpAny _ _ (exec (Stmt.While _ _ _ _) _) _ _ _); (fail_if_success guard_target = wpAny _ _ (exec (Stmt.For _ _ _ _ _) _) _ _ _); walk_at "mine")
    refine for_exec ?_
    repeat' ((fail_if_success guard_target = wpAny _ _ (exec (Stmt.While _ _ _ _) _) _ _ _); (fail_if_success guard_target = wpAny _ _ (exec (Stmt.For _ _ _ _ _) _) _ _ _); walk_at "mine")
    refine for_at (srcO := [(DW, Mine.tu us 0)]) (by assumption) (by assumption) hr' rfl rfl rfl (Src.tuple (rl_tuple NW (.head _))) (fun q hq => by rw [List.mem_singleton.mp hq]; exact .head _)
      (fun i m' newsF => m' "node" = some (.ref ND) ∧ m' "op" = some (.str op t) ∧ ∀ q ∈ news1, q ∈ newsF) ⟨by walk_at "mloc", by walk_at "mloc", fun q hq => .tail _ hq⟩ ?turn ?fin
    case turn =>
      rintro i v m0 newsF s2 I oI hi2 hv sm2 hltI F2 N2 hnI hsrc hJ0 Z hZ
      refine hide fun G0 hG0 => ?_
      obtain ⟨f1, f2, hs2⟩ := hJ0
      refine hG0 ?_
      try clear hG0 G0
      replace F2 : Fr g' L' s2.heap _ := F2
      replace N2 : News g' L' s2.heap _ := N2
      have hil : i < ks.length := by rw [List.size_toArray] at hi2; lia
      have hci : ks[i]? = some (ks[i]'hil) := List.getElem?_eq_getElem hil
      have hcl := hkl _ (List.getElem_mem hil)
      generalize ks[i]'hil = c at *
      obtain ⟨tc, htc⟩ := IntsAre.get hi hci
      have hv' : us[i]? = some v := by simpa using hv
      rw [hv'] at htc
      cases htc
      clear F1 N1 FW NW
      have hcell2 : (L' + 1, oS) ∈ (I, oI) :: newsF := .tail _ (hs2 _ hcell)
      have R2 := R1.mono fun q hq => List.mem_cons_of_mem (I, oI) (hs2 q hq)
      clear hB hdB hN dN
      have hB := R2.rb.hB
      refine hide fun G0 hG0 => ?_
      obtain ⟨b1, b2, b3, b4, bn, hdB⟩ := R2.rb.hd
      obtain ⟨usN, nN, hNL, hlenN, hTN⟩ := R2.rb.hn
      refine hG0 ?_
      try clear hG0 G0
      have hzN : usN.length ≤ 100000 := by lia
      repeat' ((fail_if_success guard_target = wpAny _ _ (exec (Stmt.While _ _ _ _) _) _ _ _); (fail_if_success guard_target = wpAny _ _ (exec (Stmt.For _ _ _ _ _) _) _ _ _); walk_at "mine")
      · refine nx <| hZ _ ⟨sm2, _, newsF, by assumption, nsub (by assumption) fun q hq => hq, hnI, hsrc, ?g1, ?g2, hs2⟩
        case g1 => exact (if_neg (by decide)).trans f1
        case g2 => exact (if_neg (by decide)).trans f2
      all_goals (exfalso; lia)
    case fin =>
      rintro m2 newsF s2 sm2 F2 N2 hsrc ⟨f1, f2, hs2⟩
      replace F2 : Fr g' L' s2.heap _ := F2
      replace N2 : News g' L' s2.heap _ := N2
      clear F1 N1 FW NW
      have R2 := R1.mono hs2
      have hcell2 := hs2 _ hcell
      have hND2 := hs2 _ memW
      have C2 : Ch b.own b.own news newsF := Ch.more fun q hq => hs2 q (hsub q hq)
      have smA : Sm s s2 := ⟨sm2.1.trans sm1.1, sm2.2.trans sm1.2⟩
      have hTV2 : TupV newsF (.ref ND) (op, ks) := hTV.mono hs2
      clear hTV hB hdB hN dN loN hcell memW hsub hs2 hsrc
      have hB := R2.rb.hB
      refine hide fun G0 hG0 => ?_
      obtain ⟨b1, b2, b3, b4, bn, hdB⟩ := R2.rb.hd
      obtain ⟨usN, nN, hNL, hlenN, hTN⟩ := R2.rb.hn
      obtain ⟨oN, hN, dN⟩ := R2.hk
      obtain ⟨usW, nW, hW1, hWi⟩ := R2.hw
      obtain ⟨usP, nP, hP1, hPi⟩ := R2.hp
      obtain ⟨neB, nedB, ne1, ne2, ne3, ne4, ne5, ne6⟩ := R2.ne
      refine hG0 ?_
      try clear hG0 G0
      have loN := R2.lo
      have hzN : usN.length ≤ 100000 := by lia
      have hcO : L' + 1 ∉ b.own := fun q => by
        obtain ⟨o, ho⟩ := R.mem _ (.tail _ (.tail _ q))
        exact Nat.lt_irrefl _ (Nat.lt_succ_of_lt (ltY _ ho))
      have hnO : ND ∉ b.own := fun q => R2.notu N2 _ q _ _ hND2
      repeat' ((fail_if_success guard_target = wpAny _ _ (exec (Stmt.While _ _ _ _) _) _ _ _); (fail_if_success guard_target = wpAny _ _ (exec (Stmt.For _ _ _ _ _) _) _ _ _); walk_at "mine")
      refine dt_set (news := newsF) hr' (by assumption) (by assumption) hN dN hTV2 hl (by rw [List.length_zipIdx]; lia) fun oN' h3 tk3 F3 N3 dN3 => ?_
      have own1 : b.nL ∈ b.own ∧ b.nD ∈ b.own ∧ b.wL ∈ b.own ∧ b.pL ∈ b.own := by simp [BA.own]
      have ezip : nodes.zipIdx ++ [((op, ks), usN.length)] = (nodes ++ [(op, ks)]).zipIdx := by
        rw [List.zipIdx_append, hlenN, Nat.zero_add]; rfl
      rw [ezip] at dN3
      have K3 : Ch b.own b.own newsF (upd b.nD oN' newsF) := Ch.upd own1.2.1
      have C3 := C2.trans K3
      replace hcell2 := K3.keep _ hcell2 hcO
      replace hND2 := K3.keep _ hND2 hnO
      replace hB := K3.keep _ hB neB
      replace hdB := K3.keep _ hdB nedB
      replace hNL := upd_ne (o := oN') hNL ne1
      replace hW1 := upd_ne (o := oN') hW1 ne4.symm
      replace hP1 := upd_ne (o := oN') hP1 ne5.symm
      replace hN : (b.nD, oN') ∈ upd b.nD oN' newsF := upd_self hN
      replace hTN : ∀ (i : Nat) v k, usN[i]? = some v → nodes[i]? = some k → TupV (upd b.nD oN' newsF) v k := fun i v k h1 h2 => by
        refine hide fun G0 hG0 => ?_
        obtain ⟨tb, tt, tus, tn, e, htm, hti⟩ := hTN i v k h1 h2
        refine hG0 ?_
        try clear hG0 G0
        exact ⟨tb, tt, tus, tn, e, K3.keep _ htm fun q => R2.notu N2 _ q _ _ htm, hti⟩
      clear N2 F2 dN R2
      have nt3 : ∀ x ∈ b.own, ∀ us n, (x, Mine.tu us n) ∉ upd b.nD oN' newsF := fun x hx us n => by
        unfold BA.own at hx
        simp only [List.mem_cons, List.not_mem_nil, or_false] at hx
        rcases hx with rfl | rfl | rfl | rfl
        · exact no_tu N3 hNL (by simp) us n
        · exact dt_ne (s := { s with heap := h3 }) N3 hN dN3
        · exact no_tu N3 hW1 (by simp) us n
        · exact no_tu N3 hP1 (by simp) us n
      generalize upd b.nD oN' newsF = news3 at *
      repeat' ((fail_if_success guard_target = wpAny _ _ (exec (Stmt.While _ _ _ _) _) _ _ _); (fail_if_success guard_target = wpAny _ _ (exec (Stmt.For _ _ _ _ _) _) _ _ _); walk_at "mine")
      refine rl_append (news := news3) (by assumption) (by assumption) hNL hzN fun h4 n4 F4 N4 => ?_
      have K4 : Ch b.own b.own news3 (upd b.nL (lo (usN ++ [.ref ND]) n4) news3) := Ch.upd own1.1
      have C4 := C3.trans K4
      replace hcell2 := K4.keep _ hcell2 hcO
      replace hND2 := K4.keep _ hND2 hnO
      replace hB := K4.keep _ hB neB
      replace hdB := K4.keep _ hdB nedB
      replace hW1 := upd_ne (o := lo (usN ++ [.ref ND]) n4) hW1 ne2.symm
      replace hP1 := upd_ne (o := lo (usN ++ [.ref ND]) n4) hP1 ne3.symm
      replace hN := upd_ne (o := lo (usN ++ [.ref ND]) n4) hN ne1.symm
      replace hNL : (b.nL, lo (usN ++ [.ref ND]) n4) ∈ upd b.nL (lo (usN ++ [.ref ND]) n4) news3 := upd_self hNL
      replace dN3 := dN3.mono (news' := upd b.nL (lo (usN ++ [.ref ND]) n4) news3) fun x us n hx => K4.keep _ hx fun q => nt3 _ q _ _ hx
      replace hTN : ∀ (i : Nat) v k, (usN ++ [.ref ND])[i]? = some v → (nodes ++ [(op, ks)])[i]? = some k → TupV (upd b.nL (lo (usN ++ [.ref ND]) n4) news3) v k := fun i v k h1 h2 => by
        by_cases q : i < nodes.length
        · rw [List.getElem?_append_left (by lia)] at h1 h2
          refine hide fun G0 hG0 => ?_
          obtain ⟨tb, tt, tus, tn, e, htm, hti⟩ := hTN i v k h1 h2
          refine hG0 ?_
          try clear hG0 G0
          exact ⟨tb, tt, tus, tn, e, K4.keep _ htm fun q => nt3 _ q _ _ htm, hti⟩
        · have e : i = nodes.length := by
            have := (List.getElem?_eq_some_iff.mp h2).1
            simp at this; lia
          subst e
          rw [List.getElem?_append_right (by lia), show nodes.length - usN.length = 0 by lia] at h1
          rw [List.getElem?_append_right (by lia), show nodes.length - nodes.length = 0 by lia] at h2
          simp at h1 h2
          subst h1; subst h2
          exact ⟨ND, t, us, jW, rfl, hND2, hi⟩
      clear N3 F3 nt3 hTV2
      have hlN4 : (usN ++ [Value.ref ND]).length = nodes.length + 1 := by simp [hlenN]
      have hzN4 : (usN ++ [Value.ref ND]).length ≤ 100000 := by lia
      have nt4 : ∀ x ∈ b.own, ∀ us n, (x, Mine.tu us n) ∉ upd b.nL (lo (usN ++ [.ref ND]) n4) news3 := fun x hx us n => by
        unfold BA.own at hx
        simp only [List.mem_cons, List.not_mem_nil, or_false] at hx
        rcases hx with rfl | rfl | rfl | rfl
        · exact no_tu N4 hNL (by simp) us n
        · exact dt_ne (s := { s with heap := h4 }) N4 hN dN3
        · exact no_tu N4 hW1 (by simp) us n
        · exact no_tu N4 hP1 (by simp) us n
      generalize upd b.nL (lo (usN ++ [.ref ND]) n4) news3 = news4 at *
      generalize usN ++ [Value.ref ND] = usN4 at *
      repeat' ((fail_if_success guard_target = wpAny _ _ (exec (Stmt.While _ _ _ _) _) _ _ _); (fail_if_success guard_target = wpAny _ _ (exec (Stmt.For _ _ _ _ _) _) _ _ _); walk_at "mine")
      refine comp_walk (srcO := [(DW, Mine.tu us 0)]) FW NW hr'.hh (by rw [List.size_toArray]; lia) (by decide) rfl rfl (Src.tuple (rl_tuple NW (.head _))) (fun q hq => by rw [List.mem_singleton.mp hq]; exact .head _)
        (fun i ys news' => (∃ ds, IntsAre ys (zs ds) ∧ ds.length = i) ∧ ∀ q ∈ news4, q ∈ news') ⟨⟨[], .nil, rfl⟩, fun q hq => .tail _ hq⟩ ?tW ?fW
      case tW =>
        rintro j v ys mC news' ext C s' hj hv sm7 F7 hmC N7 hdis hsrc7 hJ0 Z Z0 hZ hZ0
        refine hide fun G0 hG0 => ?_
        obtain ⟨⟨ds, hys, hds⟩, hsub7⟩ := hJ0
        refine hG0 ?_
        try clear hG0 G0
        have hjl : j < ks.length := by rw [List.size_toArray] at hj; lia
        have hkj : ks[j]? = some (ks[j]'hjl) := List.getElem?_eq_getElem hjl
        have hyl := hkl _ (List.getElem_mem hjl)
        generalize ks[j]'hjl = y at *
        obtain ⟨ty, e⟩ := IntsAre.get hi hkj
        have hv' : us[j]? = some v := by simpa using hv
        rw [hv'] at e
        cases e
        have hwy : wt[y]? = some (wt[y]'(by lia)) := List.getElem?_eq_getElem _
        generalize wt[y]'(by lia) = wy at *
        have hwz : wt.length ≤ 1000 := by lia
        have hcell7 : (L' + 1, oS) ∈ ext ++ news' := List.mem_append_right _ (hsub7 _ hcell2)
        have hB7 : (b.B, instObj 259 b.dB) ∈ ext ++ news' := List.mem_append_right _ (hsub7 _ hB)
        have hdB7 := List.mem_append_right ext (hsub7 _ hdB)
        have hW7 := List.mem_append_right ext (hsub7 _ hW1)
        refine wpAny_tests_nil (ifT ?_)
        clear FW NW
        repeat' ((fail_if_success guard_target = wpAny _ _ (exec (Stmt.While _ _ _ _) _) _ _ _); (fail_if_success guard_target = wpAny _ _ (exec (Stmt.For _ _ _ _ _) _) _ _ _); walk_at "mine")
        exact hZ _ _ ⟨⟨sm7.1, sm7.2⟩, mC, news', by assumption, by assumption, hdis, hsrc7, ⟨ds ++ [wy], intsAre_append hys (intsAre_one _ _), by simp [hds]⟩, hsub7⟩
      case fW =>
        rintro D8 c8 ys news8 s8 sm8 F8 N8 hD8 hlt8 ⟨⟨ds, hys, hds⟩, hsub8⟩
        replace N8 : News g' L' s8.heap ((D8, lo ys c8) :: news8) := N8
        clear FW NW
        have hdl2 : ds.length ≤ 2 := by rw [hds, List.size_toArray]; lia
        have hyl := IntsAre.len hys
        repeat' ((fail_if_success guard_target = wpAny _ _ (exec (Stmt.While _ _ _ _) _) _ _ _); (fail_if_success guard_target = wpAny _ _ (exec (Stmt.For _ _ _ _ _) _) _ _ _); walk_at "mine")
        refine LSm.sum_ints (by assumption) (by assumption) hr'.hh (rl_list N8 (.head _)) hys fun h9 tk9 t9 F9 N9 => ?_
        rw [zs_sum]
        generalize ds.sum = dsum at *
        repeat' ((fail_if_success guard_target = wpAny _ _ (exec (Stmt.While _ _ _ _) _) _ _ _); (fail_if_success guard_target = wpAny _ _ (exec (Stmt.For _ _ _ _ _) _) _ _ _); walk_at "mine")
        rw [show (1 : Int) + (dsum : Int) = ((1 + dsum : Nat) : Int) by lia]
        refine rl_append (news := news8) (by assumption) (nsub (by assumption : News g' L' _ ((D8, lo ys c8) :: news8)) fun q hq => .tail _ hq) (hsub8 _ hW1) (by rw [IntsAre.len hWi]; lia) fun hA nA FA NA => ?_
        have K5 : Ch b.own b.own news8 (upd b.wL (lo (usW ++ [.int ((1 + dsum : Nat) : Int) tk9]) nA) news8) := Ch.upd own1.2.2.1
        have C5 := (C4.trans (Ch.more hsub8)).trans K5
        replace hcell2 := K5.keep _ (hsub8 _ hcell2) hcO
        replace hND2 := K5.keep _ (hsub8 _ hND2) hnO
        replace hB := K5.keep _ (hsub8 _ hB) neB
        replace hdB := K5.keep _ (hsub8 _ hdB) nedB
        replace hNL := upd_ne (o := lo (usW ++ [.int ((1 + dsum : Nat) : Int) tk9]) nA) (hsub8 _ hNL) ne2
        replace hP1 := upd_ne (o := lo (usW ++ [.int ((1 + dsum : Nat) : Int) tk9]) nA) (hsub8 _ hP1) ne6.symm
        replace hN := upd_ne (o := lo (usW ++ [.int ((1 + dsum : Nat) : Int) tk9]) nA) (hsub8 _ hN) ne4
        replace hW1 : (b.wL, lo (usW ++ [.int ((1 + dsum : Nat) : Int) tk9]) nA) ∈ upd b.wL (lo (usW ++ [.int ((1 + dsum : Nat) : Int) tk9]) nA) news8 := upd_self (hsub8 _ hW1)
        replace dN3 := dN3.mono (news' := upd b.wL (lo (usW ++ [.int ((1 + dsum : Nat) : Int) tk9]) nA) news8) fun x us n hx => K5.keep _ (hsub8 _ hx) fun q => nt4 _ q _ _ hx
        replace hTN : ∀ (i : Nat) v k, usN4[i]? = some v → (nodes ++ [(op, ks)])[i]? = some k → TupV (upd b.wL (lo (usW ++ [.int ((1 + dsum : Nat) : Int) tk9]) nA) news8) v k := fun i v k h1 h2 => by
          refine hide fun G0 hG0 => ?_
          obtain ⟨tb, tt, tus, tn, e, htm, hti⟩ := hTN i v k h1 h2
          refine hG0 ?_
          try clear hG0 G0
          exact ⟨tb, tt, tus, tn, e, K5.keep _ (hsub8 _ htm) fun q => nt4 _ q _ _ htm, hti⟩
        have hWi5 := intsAre_append hWi (intsAre_one (1 + dsum) tk9)
        clear nt4 hsub8 N4 F4 N8 F8 N9 F9
        have nt5 : ∀ x ∈ b.own, ∀ us n, (x, Mine.tu us n) ∉ upd b.wL (lo (usW ++ [.int ((1 + dsum : Nat) : Int) tk9]) nA) news8 := fun x hx us n => by
          unfold BA.own at hx
          simp only [List.mem_cons, List.not_mem_nil, or_false] at hx
          rcases hx with rfl | rfl | rfl | rfl
          · exact no_tu NA hNL (by simp) us n
          · exact dt_ne (s := { s with heap := hA }) NA hN dN3
          · exact no_tu NA hW1 (by simp) us n
          · exact no_tu NA hP1 (by simp) us n
        have hwtl : (wt ++ [1 + dsum]).length = nodes.length + 1 := by simp [hwl]
        generalize upd b.wL (lo (usW ++ [.int ((1 + dsum : Nat) : Int) tk9]) nA) news8 = news5 at *
        generalize usW ++ [.int ((1 + dsum : Nat) : Int) tk9] = usW5 at *
        generalize wt ++ [1 + dsum] = wt5 at *
        repeat' ((fail_if_success guard_target = wpAny _ _ (exec (Stmt.While _ _ _ _) _) _ _ _); (fail_if_success guard_target = wpAny _ _ (exec (Stmt.For _ _ _ _ _) _) _ _ _); walk_at "mine")
        refine comp_walk (srcO := [(DW, Mine.tu us 0)]) FW NW hr'.hh (by rw [List.size_toArray]; lia) (by decide) rfl rfl (Src.tuple (rl_tuple NW (.head _))) (fun q hq => by rw [List.mem_singleton.mp hq]; exact .head _)
          (fun i ys news' => (∃ dq, IntsAre ys (zs dq) ∧ dq.length = i) ∧ ∀ q ∈ news5, q ∈ news') ⟨⟨[], .nil, rfl⟩, fun q hq => .tail _ hq⟩ ?tP ?fP
        case tP =>
          rintro j v ys mC news' ext C s' hj hv sm7 F7 hmC N7 hdis hsrc7 hJ0 Z Z0 hZ hZ0
          refine hide fun G0 hG0 => ?_
          obtain ⟨⟨dq, hys, hdq⟩, hsub7⟩ := hJ0
          refine hG0 ?_
          try clear hG0 G0
          have hjl : j < ks.length := by rw [List.size_toArray] at hj; lia
          have hkj : ks[j]? = some (ks[j]'hjl) := List.getElem?_eq_getElem hjl
          have hylB := hkl _ (List.getElem_mem hjl)
          generalize ks[j]'hjl = y at *
          obtain ⟨ty, e⟩ := IntsAre.get hi hkj
          have hv' : us[j]? = some v := by simpa using hv
          rw [hv'] at e
          cases e
          have hwy : dp[y]? = some (dp[y]'(by lia)) := List.getElem?_eq_getElem _
          generalize dp[y]'(by lia) = wy at *
          have hwz : dp.length ≤ 1000 := by lia
          have hcell7 : (L' + 1, oS) ∈ ext ++ news' := List.mem_append_right _ (hsub7 _ hcell2)
          have hB7 : (b.B, instObj 259 b.dB) ∈ ext ++ news' := List.mem_append_right _ (hsub7 _ hB)
          have hdB7 := List.mem_append_right ext (hsub7 _ hdB)
          have hW7 := List.mem_append_right ext (hsub7 _ hP1)
          refine wpAny_tests_nil (ifT ?_)
          clear FW NW
          repeat' ((fail_if_success guard_target = wpAny _ _ (exec (Stmt.While _ _ _ _) _) _ _ _); (fail_if_success guard_target = wpAny _ _ (exec (Stmt.For _ _ _ _ _) _) _ _ _); walk_at "mine")
          exact hZ _ _ ⟨⟨sm7.1, sm7.2⟩, mC, news', by assumption, by assumption, hdis, hsrc7, ⟨dq ++ [wy], intsAre_append hys (intsAre_one _ _), by simp [hdq]⟩, hsub7⟩
        case fP =>
          rintro DB cB ys newsB sB smB FB NB hDB hltB ⟨⟨dq, hys, hdq⟩, hsubB⟩
          replace NB : News g' L' sB.heap ((DB, lo ys cB) :: newsB) := NB
          clear FW NW
          have hdlB : dq.length ≤ 2 := by rw [hdq, List.size_toArray]; lia
          have hylB := IntsAre.len hys
          repeat' ((fail_if_success guard_target = wpAny _ _ (exec (Stmt.While _ _ _ _) _) _ _ _); (fail_if_success guard_target = wpAny _ _ (exec (Stmt.For _ _ _ _ _) _) _ _ _); walk_at "mine")
          refine max_list_N hr'.hh (by assumption) (by assumption) (rl_list NW (.head _)) (intsAre_append hys (intsAre_one 0 _)) (by simp [zs]) fun h9 M t9 tk9 F9 N9 hM1 hM2 => ?_
          have hM := mx_of hM1 hM2
          subst hM
          generalize mx dq = dsum at *
          repeat' ((fail_if_success guard_target = wpAny _ _ (exec (Stmt.While _ _ _ _) _) _ _ _); (fail_if_success guard_target = wpAny _ _ (exec (Stmt.For _ _ _ _ _) _) _ _ _); walk_at "mine")
          rw [show (1 : Int) + (dsum : Int) = ((1 + dsum : Nat) : Int) by lia]
          refine rl_append (news := newsB) (by assumption) (nsub N9 fun q hq => .tail _ (.tail _ (.tail _ hq))) (hsubB _ hP1) (by rw [IntsAre.len hPi]; lia) fun hC nC FC NC => ?_
          have tkE : ∃ u : Tok, u = tk9 := ⟨_, rfl⟩
          have K6 : Ch b.own b.own newsB (upd b.pL (lo (usP ++ [.int ((1 + dsum : Nat) : Int) tk9]) nC) newsB) := Ch.upd own1.2.2.2
          have C6 := (C5.trans (Ch.more hsubB)).trans K6
          replace hcell2 := K6.keep _ (hsubB _ hcell2) hcO
          replace hB := K6.keep _ (hsubB _ hB) neB
          replace hdB := K6.keep _ (hsubB _ hdB) nedB
          replace hNL := upd_ne (o := lo (usP ++ [.int ((1 + dsum : Nat) : Int) tk9]) nC) (hsubB _ hNL) ne3
          replace hW1 := upd_ne (o := lo (usP ++ [.int ((1 + dsum : Nat) : Int) tk9]) nC) (hsubB _ hW1) ne6
          replace hN := upd_ne (o := lo (usP ++ [.int ((1 + dsum : Nat) : Int) tk9]) nC) (hsubB _ hN) ne5
          replace hP1 : (b.pL, lo (usP ++ [.int ((1 + dsum : Nat) : Int) tk9]) nC) ∈ upd b.pL (lo (usP ++ [.int ((1 + dsum : Nat) : Int) tk9]) nC) newsB := upd_self (hsubB _ hP1)
          replace dN3 := dN3.mono (news' := upd b.pL (lo (usP ++ [.int ((1 + dsum : Nat) : Int) tk9]) nC) newsB) fun x us n hx => K6.keep _ (hsubB _ hx) fun q => nt5 _ q _ _ hx
          replace hTN : ∀ (i : Nat) v k, usN4[i]? = some v → (nodes ++ [(op, ks)])[i]? = some k → TupV (upd b.pL (lo (usP ++ [.int ((1 + dsum : Nat) : Int) tk9]) nC) newsB) v k := fun i v k h1 h2 => by
            refine hide fun G0 hG0 => ?_
            obtain ⟨tb, tt, tus, tn, e, htm, hti⟩ := hTN i v k h1 h2
            refine hG0 ?_
            try clear hG0 G0
            exact ⟨tb, tt, tus, tn, e, K6.keep _ (hsubB _ htm) fun q => nt5 _ q _ _ htm, hti⟩
          have hPi6 := intsAre_append hPi (intsAre_one (1 + dsum) tk9)
          have hdpl : (dp ++ [1 + dsum]).length = nodes.length + 1 := by simp [hdl]
          generalize upd b.pL (lo (usP ++ [.int ((1 + dsum : Nat) : Int) tk9]) nC) newsB = news6 at *
          generalize usP ++ [.int ((1 + dsum : Nat) : Int) tk9] = usP6 at *
          clear nt5 hsubB FW NW F9 N9 FA NA NB FB
          repeat' ((fail_if_success guard_target = wpAny _ _ (exec (Stmt.While _ _ _ _) _) _ _ _); (fail_if_success guard_target = wpAny _ _ (exec (Stmt.For _ _ _ _ _) _) _ _ _); walk_at "mine")
          have e9 : ((usN4.length : Int) - 1) = (nodes.length : Int) := by lia
          rw [e9]
          refine lv_ret (by assumption) (by assumption) fun Fx Nx => h2 _ _ news6 wt5 (dp ++ [1 + dsum]) ⟨smB.1.trans (sm8.1.trans smA.1), smB.2.trans (sm8.2.trans smA.2)⟩ Fx Nx ⟨⟨hB, ⟨_, _, _, _, _, hdB⟩, ⟨usN4, n4, hNL, by simp [hlN4], hTN⟩⟩, ⟨usW5, nA, hW1, hWi5⟩, ⟨usP6, nC, hP1, hPi6⟩, ⟨_, hN, dN3⟩, loN, R.nd⟩ hwtl hdpl C6
end
/-- the roots after a new node -/
noncomputable def rtN (rt : Nat → Nat) (n : Nat) (j : Nat) : Nat := if j = n then n else rt j
theorem rtN_lt {rt : Nat → Nat} {n j : Nat} (h : j < n) : rtN rt n j = rt j := if_neg (by lia)
theorem OkU.make {par : List Nat} {rt : Nat → Nat} (h : OkU par rt) : OkU (par ++ [par.length]) (rtN rt par.length) := by
  refine ⟨fun j hj => ?_, fun j hj => ?_⟩
  · rw [List.length_append, List.length_singleton] at hj
    by_cases e : j = par.length
    · subst e
      exact ⟨par.length, by simp, Nat.le_refl _, rfl, fun _ => if_pos rfl⟩
    · obtain ⟨q, h1, h2, h3, h4⟩ := h.up j (by lia)
      have hq : q < par.length := by lia
      refine ⟨q, by rw [List.getElem?_append_left (by lia)]; exact h1, h2, ?_, fun e2 => ?_⟩
      · rw [rtN_lt hq, rtN_lt (by lia)]; exact h3
      · rw [rtN_lt (by lia)]; exact h4 e2
  · rw [List.length_append, List.length_singleton] at hj ⊢
    by_cases e : j = par.length
    · subst e
      unfold rtN
      rw [if_pos rfl]
      exact ⟨by lia, by simp, Nat.le_refl _⟩
    · obtain ⟨h1, h2, h3⟩ := h.rr j (by lia)
      rw [rtN_lt (by lia)]
      exact ⟨by lia, by rw [List.getElem?_append_left h1]; exact h2, h3⟩
/-- the heap with a new node -/
noncomputable def addS (S : HS) (op : PySem.Str) (ks wt' dp' : List Nat) (ab' : List (Nat × Addr × List Nat)) : HS :=
  { S with nodes := S.nodes ++ [(op, ks)], st := { S.st with par := S.st.par ++ [S.st.par.length], lots := S.st.lots ++ [[S.st.par.length]] }, wt := wt', dp := dp', ab := ab' }
theorem OkC.add {a : HA} {nodes : List (PySem.Str × List Nat)} {st : USt} {rt : Nat → Nat} {op : PySem.Str} {ks : List Nat} {b : Addr} (O : OkC a nodes st rt) (hn : nodes.length ≤ 9) (hks : ks.length ≤ 2) (hkl : ∀ x ∈ ks, x < nodes.length) :
    OkC { a with u := { a.u with lots := a.u.lots ++ [b] } } (nodes ++ [(op, ks)]) { st with par := st.par ++ [st.par.length], lots := st.lots ++ [[st.par.length]] } (rtN rt nodes.length) := by
  have hnn := O.nn
  refine ⟨⟨?_, ?_, ?_⟩, ?_, ?_, fun k hk => ?_⟩
  · simp [O.len.l1]
  · simp [O.len.l2]
  · simp; lia
  · rw [hnn]; exact O.ok.make
  · simp [hnn]
  · rw [List.length_append, List.length_singleton]
    rcases List.mem_append.mp hk with hk | hk
    · obtain ⟨h1, h2⟩ := O.kids k hk
      exact ⟨h1, fun x hx => by have := h2 x hx; lia⟩
    · rw [List.mem_singleton.mp hk]
      exact ⟨hks, fun x hx => by have := hkl x hx; lia⟩
theorem OkH.add {a : HA} {S : HS} {rt : Nat → Nat} {told : Nat} {op : PySem.Str} {ks wt' dp' : List Nat} {ab' : List (Nat × Addr × List Nat)} {b : Addr} (O : OkH a S rt told) (hn : S.nodes.length ≤ 9) (hks : ks.length ≤ 2) (hkl : ∀ x ∈ ks, x < S.nodes.length)
    (hw : wt'.length = S.nodes.length + 1) (hd : dp'.length = S.nodes.length + 1) (hkeys : ab'.map (·.1) = S.ab.map (·.1) ++ [S.nodes.length]) (habl : ∀ x ∈ ab', ∀ j ∈ x.2.2, j < S.nodes.length + 1) (habs : (ab'.map (·.2.2.length)).sum ≤ (S.ab.map (·.2.2.length)).sum + 2) :
    OkH { a with u := { a.u with lots := a.u.lots ++ [b] } } (addS S op ks wt' dp' ab') (rtN rt S.nodes.length) told := by
  have hnn := O.okc.nn
  have hl2 := O.okc.len.l2
  have hln : (S.nodes ++ [(op, ks)]).length = S.nodes.length + 1 := by simp
  have habn : ab'.length = S.ab.length + 1 := by have := congrArg List.length hkeys; simpa using this
  have hlots : ∀ (i : Nat) l, (S.st.lots ++ [[S.st.par.length]])[i]? = some l → (i < S.nodes.length ∧ S.st.lots[i]? = some l) ∨ (i = S.nodes.length ∧ l = [S.nodes.length]) := fun i l hl => by
    by_cases q : i < S.st.lots.length
    · rw [List.getElem?_append_left q] at hl; exact .inl ⟨by lia, hl⟩
    · have e : i = S.st.lots.length := by
        have := (List.getElem?_eq_some_iff.mp hl).1
        simp at this; lia
      subst e
      rw [List.getElem?_append_right (Nat.le_refl _), Nat.sub_self] at hl
      simp at hl
      exact .inr ⟨by lia, by rw [← hl, hnn]⟩
  have hrl : ∀ x, x < S.nodes.length → rt x < S.nodes.length := fun x hx => by have := (O.okc.ok.rr x (by lia)).1; lia
  refine ⟨O.okc.add hn hks hkl, ?_, fun i l hl => ?_, fun j hj hrj l hl x => ?_, fun p hp => ?_, fun c => ?_, ?_, fun x hx j hj => ?_, ?_, fun x hx => ?_, ?_, ?_, O.frs, O.nm, ?_⟩
  · show (S.nodes ++ [(op, ks)]).length ≤ 10
    lia
  · show l.Nodup ∧ ∀ j ∈ l, j < (S.nodes ++ [(op, ks)]).length
    rw [hln]
    rcases hlots i l hl with ⟨_, h⟩ | ⟨_, rfl⟩
    · exact ⟨(O.lotP i l h).1, fun j hj => by have := (O.lotP i l h).2 j hj; lia⟩
    · exact ⟨by simp, fun j hj => by rw [List.mem_singleton.mp hj]; lia⟩
  · show x ∈ l ↔ x < (S.nodes ++ [(op, ks)]).length ∧ _
    rw [hln]
    rcases hlots j l hl with ⟨hjl, h⟩ | ⟨rfl, rfl⟩
    · rw [rtN_lt hjl] at hrj
      rw [O.lotR j hjl hrj l h x]
      by_cases q : x = S.nodes.length
      · subst q
        unfold rtN
        rw [if_pos rfl]
        constructor <;> (rintro ⟨h1, h2⟩; lia)
      · unfold rtN
        rw [if_neg q]
        constructor <;> (rintro ⟨h1, h2⟩; exact ⟨by lia, h2⟩)
    · rw [List.mem_singleton]
      constructor
      · rintro rfl; exact ⟨by lia, if_pos rfl⟩
      · rintro ⟨h1, h2⟩
        by_cases q : x = S.nodes.length
        · exact q
        · rw [rtN_lt (by lia)] at h2
          have := hrl x (by lia)
          lia
  · show p.2 < (S.nodes ++ [(op, ks)]).length
    have := O.kn p hp
    lia
  · show c ∈ ab'.map (·.1) ↔ c < (S.nodes ++ [(op, ks)]).length ∧ _
    rw [hkeys, hln, List.mem_append, O.abk, List.mem_singleton]
    by_cases q : c = S.nodes.length
    · subst q
      exact ⟨fun _ => ⟨by lia, if_pos rfl⟩, fun _ => .inr rfl⟩
    · unfold rtN
      rw [if_neg q]
      constructor
      · rintro (h | h)
        · exact ⟨by lia, h.2⟩
        · exact absurd h q
      · rintro ⟨h1, h2⟩; exact .inl ⟨by lia, h2⟩
  · show (ab'.map (·.1)).Nodup
    rw [hkeys, List.nodup_append]
    refine ⟨O.abn, by simp, fun x hx y hy => ?_⟩
    rw [List.mem_singleton.mp hy]
    have := ((O.abk x).mp hx).1
    lia
  · show j < (S.nodes ++ [(op, ks)]).length
    rw [hln]; exact habl x hx j hj
  · show (ab'.map (·.2.2.length)).sum ≤ 2 * (S.nodes ++ [(op, ks)]).length
    have := O.abs
    lia
  · show x < (S.nodes ++ [(op, ks)]).length
    have := O.wq x hx
    lia
  · show S.kn.length + S.wq.length + 100 * ab'.length ≤ 101 * (S.nodes ++ [(op, ks)]).length
    have := O.pot
    lia
  · show S.ne + 2 * ab'.length ≤ 2 * (S.nodes ++ [(op, ks)]).length + told
    have := O.edg
    lia
  · exact ⟨by show wt'.length = _; rw [hw]; exact hln.symm, by show dp'.length = _; rw [hd]; exact hln.symm⟩
/-- what stays as it is -/
noncomputable def HA.fix (a : HA) : List Addr := [a.H, a.dH, a.b.B, a.b.dB, a.u.U, a.u.dU]
theorem Ch.tail0 {own own' : List Addr} {q : Addr × Obj} {news news' : List (Addr × Obj)} (c : Ch own own' (q :: news) news') : Ch own own' news news' :=
  ⟨fun p hp hn => c.keep p (.tail _ hp) hn, fun x hx => (c.fresh x hx).imp id fun h p hp => h p (.tail _ hp)⟩
section
variable {w : World} {A : Around} {g h : PySem.Heap} {L : Addr} {m mg mb : PySem.Str → Option Value} {s : Shared} {news news' : List (Addr × Obj)} {p : Program} {loose : List PySem.Str} {a : HA} {S : HS} {rt : Nat → Nat} {told : Nat} {E : Value → Shared → Prop} {u' : UA}
theorem RepH.ownO (R : RepH w news a S) : ∀ x ∈ a.own S.ab, ∃ o, (x, o) ∈ news ∧ o.cls ≠ .type "tuple" := fun x hx => by
  unfold HA.own at hx
  simp only [List.mem_cons, List.mem_append] at hx
  have lol : ∀ {us : List Value} {n : Nat}, (x, lo us n) ∈ news → ∃ o, (x, o) ∈ news ∧ o.cls ≠ .type "tuple" := fun h => ⟨_, h, by simp⟩
  rcases hx with rfl | rfl | rfl | rfl | rfl | (hx | hx) | hx
  · obtain ⟨_, _, h, _⟩ := R.hx.he; exact lol h
  · obtain ⟨_, _, h, _⟩ := R.hx.hf; exact lol h
  · obtain ⟨_, h, d⟩ := R.hx.hk
    refine hide fun G0 hG0 => ?_
    obtain ⟨es, ep, xs, h1, _⟩ := d
    refine hG0 ?_
    try clear hG0 G0
    exact ⟨_, h, by rw [h1.1]; simp⟩
  · obtain ⟨_, h, d⟩ := R.hx.hv
    refine hide fun G0 hG0 => ?_
    obtain ⟨_, _, q, _⟩ := d
    refine hG0 ?_
    try clear hG0 G0
    exact ⟨_, h, by rw [q.1]; simp⟩
  · obtain ⟨_, _, h, _⟩ := R.hx.hq; exact lol h
  · unfold BA.own at hx
    simp only [List.mem_cons, List.not_mem_nil, or_false] at hx
    rcases hx with rfl | rfl | rfl | rfl
    · obtain ⟨_, _, h, _⟩ := R.rc.rb.hn; exact lol h
    · obtain ⟨_, h, d⟩ := R.bx.hk
      refine hide fun G0 hG0 => ?_
      obtain ⟨es, ep, xs, h1, _⟩ := d
      refine hG0 ?_
      try clear hG0 G0
      exact ⟨_, h, by rw [h1.1]; simp⟩
    · obtain ⟨_, _, h, _⟩ := R.bx.hw; exact lol h
    · obtain ⟨_, _, h, _⟩ := R.bx.hp; exact lol h
  · unfold UA.own at hx
    simp only [List.mem_cons] at hx
    rcases hx with rfl | rfl | rfl | hx
    · obtain ⟨_, _, h, _⟩ := R.rc.ru.ha; exact lol h
    · obtain ⟨_, h⟩ := R.rc.ru.hl; exact lol h
    · obtain ⟨_, _, h, _⟩ := R.rc.ru.hg; exact lol h
    · obtain ⟨i, hi, e⟩ := List.getElem_of_mem hx
      obtain ⟨_, _, _, _, h, _⟩ := R.rc.ru.hls i x (by rw [List.getElem?_eq_getElem hi, e])
      exact lol h
  · obtain ⟨y, hy, rfl⟩ := List.mem_map.mp hx
    refine hide fun G0 hG0 => ?_
    obtain ⟨_, _, h, _⟩ := R.hx.hl y hy
    refine hG0 ?_
    try clear hG0 G0
    exact lol h
theorem RepH.tuO (N : News g L h news) (R : RepH w news a S) {D : Addr} {us : List Value} {n : Nat} (hD : (D, tu us n) ∈ news) : D ∉ a.own S.ab := fun q => by
  refine hide fun G0 hG0 => ?_
  obtain ⟨o, ho, hc⟩ := R.ownO D q
  refine hG0 ?_
  try clear hG0 G0
  exact no_tu N ho hc us n hD
theorem Ch.bank (c : Ch a.b.own a.b.own news news') : Ch (a.own S.ab) (a.own S.ab) news news' :=
  ⟨fun p hp hn => c.keep p hp fun h => hn (by simp [HA.own, h]), fun _ h => .inl h⟩
theorem Ch.unions (c : Ch a.u.own u'.own news news') : Ch (a.own S.ab) (({ a with u := u' } : HA).own S.ab) news news' :=
  ⟨fun p hp hn => c.keep p hp fun h => hn (by simp [HA.own, h]), fun x hx => by
    unfold HA.own at hx ⊢
    simp only [List.mem_cons, List.mem_append] at hx ⊢
    rcases hx with hx | hx | hx | hx | hx | (hx | hx) | hx
    · exact .inl (.inl hx)
    · exact .inl (.inr (.inl hx))
    · exact .inl (.inr (.inr (.inl hx)))
    · exact .inl (.inr (.inr (.inr (.inl hx))))
    · exact .inl (.inr (.inr (.inr (.inr (.inl hx)))))
    · exact .inl (.inr (.inr (.inr (.inr (.inr (.inl (.inl hx)))))))
    · rcases c.fresh x hx with q | q
      · exact .inl (.inr (.inr (.inr (.inr (.inr (.inl (.inr q)))))))
      · exact .inr q
    · exact .inl (.inr (.inr (.inr (.inr (.inr (.inr hx))))))⟩
theorem own_snoc {ab : List (Nat × Addr × List Nat)} {e : Nat × Addr × List Nat} {x : Addr} (h : x ∈ a.own (ab ++ [e])) : x ∈ a.own ab ∨ x = e.2.1 := by
  unfold HA.own at h ⊢
  simp only [List.mem_cons, List.mem_append, List.map_append, List.map_cons, List.map_nil, List.not_mem_nil, or_false] at h ⊢
  rcases h with h | h | h | h | h | (h | h) | h | h
  · exact .inl (.inl h)
  · exact .inl (.inr (.inl h))
  · exact .inl (.inr (.inr (.inl h)))
  · exact .inl (.inr (.inr (.inr (.inl h))))
  · exact .inl (.inr (.inr (.inr (.inr (.inl h)))))
  · exact .inl (.inr (.inr (.inr (.inr (.inr (.inl (.inl h)))))))
  · exact .inl (.inr (.inr (.inr (.inr (.inr (.inl (.inr h)))))))
  · exact .inl (.inr (.inr (.inr (.inr (.inr (.inr h))))))
  · exact .inr h
theorem own_eq {ab ab' : List (Nat × Addr × List Nat)} (h : ab.map (·.2.1) = ab'.map (·.2.1)) : a.own ab = a.own ab' := by
  unfold HA.own; rw [h]
theorem setL_len {ab : List (Nat × Addr × List Nat)} (hn : (ab.map (·.1)).Nodup) {x : Nat × Addr × List Nat} (hx : x ∈ ab) {l : List Nat} : ((setL ab x.1 l).map (·.2.2.length)).sum + x.2.2.length = (ab.map (·.2.2.length)).sum + l.length := by
  have e : (setL ab x.1 l).map (·.2.2.length) = (abPut ab x.1 x.2.1 l).map (·.2.2.length) := by
    unfold setL abPut
    rw [List.map_map, List.map_map]
    refine List.map_congr_left fun z _ => ?_
    dsimp only [Function.comp]
    split <;> rfl
  rw [e]; exact abPut_sum hn hx
set_option maxHeartbeats 8000000 in
theorem add_ok {D : Addr} {us : List Value} {n : Nat} {op : PySem.Str} {ks : List Nat} {t : Tok} {Q : Value → Shared → Prop}
   (F : Fr g L s.heap m) (N : News g L s.heap news) (X : (hd.heap_39 w.params).In g) (T : TopRead p loose mg mb g) (hr : RoomOk A 7)
   (R : RepH w news a S) (O : OkH a S rt told) (hto : told ≤ 500) (hn : S.nodes.length ≤ 9) (hop : Op4 op) (hD : (D, tu us n) ∈ news) (hi : IntsAre us (zs ks)) (hks : ks.length ≤ 2) (hkl : ∀ x ∈ ks, x < S.nodes.length)
   (h : ∀ (i : Nat) t s' (a' : HA) (S' : HS) rt' news', i < S'.nodes.length → Sm s s' → Fr g L s'.heap m → News g L s'.heap news' → RepH w news' a' S' → OkH a' S' rt' told → a'.fix = a.fix → S.nodes.length ≤ S'.nodes.length → S'.nodes.length ≤ S.nodes.length + 1 →
      Ch (a.own S.ab) (a'.own S'.ab) news news' → Q (.int (i : Int) t) s') :
   wpAny (model P w) A (call (.ref 376) [.ref a.H, .str op t, .ref D]) Q E s := by
  refine bd [("self", .ref a.H), ("op", .str op t), ("numbers", .ref D)] ?_
  (refine' callC ?zF ?zN ?zX ?zT ?zR ?k6 ?k7 ?k9 ?kB ?c5 ?_ ?c2 ?c3 ?c4; (case zF | zN | zX | zR => assumption); (case zT => apply TopRead.nolimit; assumption); (case k6 | k7 => k_is); (case k9 | kB | c2 | c3 | c4 => exact rfl); (case c5 => decide); intros)
  rename_i g' L' h' tk' cells stay X' hr' F' N' Y ltY
  refine hide fun G0 hG0 => ?_
  obtain ⟨oS, rfl, hcS0⟩ := CellsAre.one Y
  have hcS : oS.data = .cell (some (.ref a.H)) := hcS0
  clear hcS0 Y
  have T' := T.keeps stay
  replace N' : News g' L' h' ((L' + 1, oS) :: news) := N'
  have R0 := R.mono fun q hq => List.mem_cons_of_mem (L' + 1, oS) hq
  have hcO : L' + 1 ∉ a.own S.ab := fun q => by
    obtain ⟨o, ho, _⟩ := R.ownO _ q
    exact Nat.lt_irrefl _ (Nat.lt_succ_of_lt (ltY _ ho))
  have hDO := R.tuO N hD
  have hul := IntsAre.len hi
  have hH := R0.rc.hH
  obtain ⟨t1, t2, t3, t4, t5, t6, t7, t8, t9, n', hdH⟩ := R0.rc.hd
  have hB := R0.rc.rb.hB
  obtain ⟨b1, b2, b3, b4, bn, hdB⟩ := R0.rc.rb.hd
  refine hG0 ?_
  try clear hG0 G0
  clear X T F N
  repeat' ((fail_if_success guard_target = wpAny _ _ (exec (Stmt.While _ _ _ _) _) _ _ _); (fail_if_success guard_target = wpAny _ _ (exec (Stmt.For _ _ _ _ _) _) _ _ _); walk_at "mine")
  refine take_ok (by assumption) (by assumption) X' T' (hr'.less (by decide)) R0.bx hop (.tail _ hD) hi hks hkl (by lia) O.wd.1 O.wd.2 (fun i ti s1 news1 hil sm1 F1 N1 sub1 => ?_) (fun ti s1 news1 wt' dp' sm1 F1 N1 RB hwl hdl C1 => ?_)
  · have R1 := R0.mono sub1
    clear hH hdH hB hdB F' N'
    have hcell := sub1 _ (.head _)
    have hH := R1.rc.hH
    refine hide fun G0 hG0 => ?_
    obtain ⟨t1, t2, t3, t4, t5, t6, t7, t8, t9, n', hdH⟩ := R1.rc.hd
    have hU := R1.rc.ru.hU
    obtain ⟨u1, u2, u3, un, hdU⟩ := R1.rc.ru.hd
    refine hG0 ?_
    try clear hG0 G0
    repeat' ((fail_if_success guard_target = wpAny _ _ (exec (Stmt.While _ _ _ _) _) _ _ _); (fail_if_success guard_target = wpAny _ _ (exec (Stmt.For _ _ _ _ _) _) _ _ _); walk_at "mine")
    refine usize_ok (by assumption) (by assumption) X' T' (hr'.less (by decide)) R1.rc.ru O.okc.len fun t10 s2 sm2 F2 N2 => ?_
    have hnn := O.okc.nn
    repeat' ((fail_if_success guard_target = wpAny _ _ (exec (Stmt.While _ _ _ _) _) _ _ _); (fail_if_success guard_target = wpAny _ _ (exec (Stmt.For _ _ _ _ _) _) _ _ _); walk_at "mine")
    · exact lv_ret (by assumption) (by assumption) fun F9 N9 => h i _ _ a S rt news1 hil ⟨sm2.1.trans sm1.1, sm2.2.trans sm1.2⟩ F9 N9 R1 O rfl (Nat.le_refl _) (Nat.le_succ _) (Ch.more fun q hq => sub1 q (.tail _ hq))
    all_goals (exfalso; lia)
  · have R1 := R0.chB N' C1 RB
    have K1 : Ch (a.own S.ab) (a.own S.ab) ((L' + 1, oS) :: news) news1 := Ch.bank C1
    clear hH hdH hB hdB F' N' R0 RB C1
    have hcell := (K1.out hcO (.head _)).2
    have hH := R1.rc.hH
    refine hide fun G0 hG0 => ?_
    obtain ⟨t1, t2, t3, t4, t5, t6, t7, t8, t9, n', hdH⟩ := R1.rc.hd
    have hU := R1.rc.ru.hU
    obtain ⟨u1, u2, u3, un, hdU⟩ := R1.rc.ru.hd
    refine hG0 ?_
    try clear hG0 G0
    have hnn := O.okc.nn
    repeat' ((fail_if_success guard_target = wpAny _ _ (exec (Stmt.While _ _ _ _) _) _ _ _); (fail_if_success guard_target = wpAny _ _ (exec (Stmt.For _ _ _ _ _) _) _ _ _); walk_at "mine")
    refine usize_ok (by assumption) (by assumption) X' T' (hr'.less (by decide)) R1.rc.ru O.okc.len fun t10 s2 sm2 F2 N2 => ?_
    repeat' ((fail_if_success guard_target = wpAny _ _ (exec (Stmt.While _ _ _ _) _) _ _ _); (fail_if_success guard_target = wpAny _ _ (exec (Stmt.For _ _ _ _ _) _) _ _ _); walk_at "mine")
    refine make_ok (by assumption) (by assumption) X' T' (hr'.less (by decide)) R1.rc.ru O.okc.len (by dsimp only; lia) fun t11 s3 b news3 sm3 F3 N3 RU3 Z3 C3 => ?_
    refine hide fun G0 hG0 => ?_
    obtain ⟨a', ha'⟩ : ∃ a' : HA, a' = { a with u := { a.u with lots := a.u.lots ++ [b] } } := ⟨_, rfl⟩
    have R2 : RepH w news3 a' (addS S op ks wt' dp' S.ab) := by subst ha'; exact R1.chU N2 C3 rfl rfl RU3
    have K2 : Ch (a.own S.ab) (a'.own S.ab) ((L' + 1, oS) :: news) news3 := by subst ha'; exact K1.trans (Ch.unions C3)
    have OC : OkC a' (addS S op ks wt' dp' S.ab).nodes (addS S op ks wt' dp' S.ab).st (rtN rt S.nodes.length) := by subst ha'; exact O.okc.add hn hks hkl
    have OA : ∀ ab', ab'.map (·.1) = S.ab.map (·.1) ++ [S.nodes.length] → (∀ x ∈ ab', ∀ j ∈ x.2.2, j < S.nodes.length + 1) → (ab'.map (·.2.2.length)).sum ≤ (S.ab.map (·.2.2.length)).sum + 2 → OkH a' (addS S op ks wt' dp' ab') (rtN rt S.nodes.length) told := by
      subst ha'; exact fun ab' h1 h2 h3 => O.add hn hks hkl hwl hdl h1 h2 h3
    have haH : a'.H = a.H := by subst ha'; rfl
    have haF : a'.fix = a.fix := by subst ha'; rfl
    rw [← haH] at hcS
    clear hH hdH hU hdU ha' R1 RU3 Z3 C3 K1 F2 N2 hcell
    have hcell := (K2.out hcO (.head _)).2
    have hH := R2.rc.hH
    obtain ⟨t1, t2, t3, t4, t5, t6, t7, t8, t9, n', hdH⟩ := R2.rc.hd
    obtain ⟨oV, hV, dV⟩ := R2.hx.hv
    refine hG0 ?_
    try clear hG0 G0
    have loV := R2.hx.lv
    repeat' ((fail_if_success guard_target = wpAny _ _ (exec (Stmt.While _ _ _ _) _) _ _ _); (fail_if_success guard_target = wpAny _ _ (exec (Stmt.For _ _ _ _ _) _) _ _ _); walk_at "mine")
    have habl : S.ab.length ≤ 20 := by have := O.pot; lia
    have hkn : S.nodes.length ∉ S.ab.map (·.1) := fun q => by have := ((O.abk _).mp q).1; lia
    have hknl : lk ((addS S op ks wt' dp' S.ab).ab.map fun x => (x.1, Value.ref x.2.1)) S.nodes.length = none := lk_none.mpr (by rw [List.map_map]; exact hkn)
    refine rd_set (news := (DW, lo [] 0) :: news3) (by assumption) (by assumption) (.tail _ hV) dV (by rw [List.length_map]; exact Nat.le_trans habl (by decide)) fun oV5 h5 F5 N5 dV5 => ?_
    rw [put_new hknl] at dV5
    have R3 := R2.mono fun q hq => List.mem_cons_of_mem (DW, Mine.lo [] 0) hq
    have N3' : News g' L' hW ((DW, Mine.lo [] 0) :: news3) := by assumption
    have hnV := no_tu N3' (List.mem_cons_of_mem _ hV) (by obtain ⟨_, _, q, _⟩ := dV; rw [q.1]; simp)
    have hDn : DW ∉ (addS S op ks wt' dp' S.ab).ab.map (·.2.1) := fun q => by
      obtain ⟨o, ho⟩ := R2.memL q
      exact Nat.lt_irrefl _ (ltW _ ho)
    have R4 := R3.updV (ab' := S.ab ++ [(S.nodes.length, DW, [])]) hnV (by rw [List.map_append]; exact dV5) (fun y hy => by
      rcases List.mem_append.mp hy with hy | hy
      · exact R3.hx.hl y hy
      · rw [List.mem_singleton.mp hy]; exact ⟨[], 0, .head _, .nil⟩) (by
      obtain ⟨r, hr8⟩ := R2.rol
      rw [List.map_append, List.nodup_append]
      refine ⟨hr8.nd, by simp, fun x hx y hy => ?_⟩
      have e : y = DW := by simpa using hy
      rintro rfl
      exact hDn (e ▸ hx)) (fun x hx => by
      rw [List.map_append] at hx
      rcases List.mem_append.mp hx with hx | hx
      · exact .inl hx
      · right
        rw [show x = DW by simpa using hx]
        intro q
        obtain ⟨o, ho⟩ := R2.mem q
        exact Nat.lt_irrefl _ (ltW _ ho))
    have K4 : Ch (a.own S.ab) (a'.own (S.ab ++ [(S.nodes.length, DW, [])])) ((L' + 1, oS) :: news) (upd a'.vD oV5 ((DW, lo [] 0) :: news3)) := by
      refine K2.trans ⟨fun p hp hn => upd_ne (List.mem_cons_of_mem _ hp) fun e => hn (by rw [e]; simp [HA.own]), fun x hx => ?_⟩
      rcases own_snoc hx with q | q
      · exact .inl q
      · exact .inr fun p hp => by rw [q]; exact Nat.ne_of_lt (ltW p hp)
    replace R4 : RepH w (upd a'.vD oV5 ((DW, lo [] 0) :: news3)) a' (addS S op ks wt' dp' (S.ab ++ [(S.nodes.length, DW, [])])) := R4
    have hk0 : (S.ab ++ [(S.nodes.length, DW, ([] : List Nat))]).map (·.1) = S.ab.map (·.1) ++ [S.nodes.length] := by simp
    have hj0 : ∀ x ∈ S.ab ++ [(S.nodes.length, DW, ([] : List Nat))], ∀ j ∈ x.2.2, j < S.nodes.length + 1 := fun x hx j hj => by
      rcases List.mem_append.mp hx with hx | hx
      · have := O.abl x hx j hj; lia
      · rw [List.mem_singleton.mp hx] at hj; cases hj
    have hs0 : ((S.ab ++ [(S.nodes.length, DW, ([] : List Nat))]).map (·.2.2.length)).sum = (S.ab.map (·.2.2.length)).sum := by simp
    have hnk0 : ((S.ab ++ [(S.nodes.length, DW, ([] : List Nat))]).map (·.1)).Nodup := by
      rw [hk0, List.nodup_append]
      exact ⟨O.abn, by simp, fun x hx y hy => by rw [List.mem_singleton.mp hy]; rintro rfl; exact hkn hx⟩
    clear hH hdH hV dV dV5 hDn hnV R3 R2 hcell
    generalize S.ab ++ [(S.nodes.length, DW, ([] : List Nat))] = ab0 at *
    generalize upd a'.vD oV5 ((DW, lo [] 0) :: news3) = news5 at *
    have hcell := (K4.out hcO (.head _)).2
    have hD5 := (K4.out hDO (.tail _ hD)).2
    have hDO5 := (K4.out hDO (.tail _ hD)).1
    have hcO5 := (K4.out hcO (.head _)).1
    refine wpAny_execs_cons ?_
    refine for_exec ?_
    repeat' ((fail_if_success guard_target = wpAny _ _ (exec (Stmt.While _ _ _ _) _) _ _ _); (fail_if_success guard_target = wpAny _ _ (exec (Stmt.For _ _ _ _ _) _) _ _ _); walk_at "mine")
    refine comp_walk (srcO := [(D, Mine.tu us n)]) F5 N5 hr'.hh (by rw [List.size_toArray]; lia) (by decide) rfl rfl (Src.tuple (rl_tuple N5 hD5)) (fun q hq => by rw [List.mem_singleton.mp hq]; exact hD5)
      (fun i ys news' => IntsAre ys (zs ((ks.take i).map (rtN rt S.nodes.length))) ∧ ∀ q ∈ news5, q ∈ news') ⟨.nil, fun q hq => hq⟩ ?t1 ?f1
    case t1 =>
      rintro j v ys mC news' ext C s' hj hv sm7 F7 hmC N7 hdis hsrc7 hJ0 Z Z0 hZ hZ0
      refine hide fun G0 hG0 => ?_
      obtain ⟨hys, hsub7⟩ := hJ0
      refine hG0 ?_
      try clear hG0 G0
      have hjl : j < ks.length := by rw [List.size_toArray] at hj; lia
      have htake := take_map_succ (rtN rt S.nodes.length) ks hjl
      have hkj : ks[j]? = some (ks[j]'hjl) := List.getElem?_eq_getElem hjl
      have hyl := hkl _ (List.getElem_mem hjl)
      generalize ks[j]'hjl = y at *
      obtain ⟨ty, e⟩ := IntsAre.get hi hkj
      have hv' : us[j]? = some v := by simpa using hv
      rw [hv'] at e
      cases e
      have R7 := R4.mono fun q hq => List.mem_append_right ext (hsub7 q hq)
      have hcell7 : (L' + 1, oS) ∈ ext ++ news' := List.mem_append_right _ (hsub7 _ hcell)
      have hH := R7.rc.hH
      obtain ⟨t1, t2, t3, t4, t5, t6, t7, t8, t9, n', hdH⟩ := R7.rc.hd
      refine wpAny_tests_nil (ifT ?_)
      clear F5 N5
      repeat' ((fail_if_success guard_target = wpAny _ _ (exec (Stmt.While _ _ _ _) _) _ _ _); (fail_if_success guard_target = wpAny _ _ (exec (Stmt.For _ _ _ _ _) _) _ _ _); walk_at "mine")
      refine hfind_ok (by assumption) (by assumption) X' T' (hr'.less (by decide)) R7.rc OC (by show y < (S.nodes ++ [(op, ks)]).length; simp; lia) fun t4 s4 sm4 F4 N4 => ?_
      exact hZ _ _ ⟨⟨sm4.1.trans sm7.1, sm4.2.trans sm7.2⟩, mC, news', F4, N4, hdis, hsrc7, by rw [htake]; exact intsAre_append hys (intsAre_one _ t4), hsub7⟩
    case f1 =>
      rintro D8 c8 ys news8 s8 sm8 F8 N8 hD8 hlt8 ⟨hys, hsub8⟩
      replace N8 : News g' L' s8.heap ((D8, lo ys c8) :: news8) := N8
      have e0 : ks.take us.toArray.size = ks := List.take_of_length_le (by rw [List.size_toArray]; lia)
      rw [e0] at hys
      clear F5 N5
      repeat' ((fail_if_success guard_target = wpAny _ _ (exec (Stmt.While _ _ _ _) _) _ _ _); (fail_if_success guard_target = wpAny _ _ (exec (Stmt.For _ _ _ _ _) _) _ _ _); walk_at "mine")
      refine rl_setI hr' (by assumption) (by assumption) (.head _) hys (by rw [List.length_map]; lia) (fun x hx => by
        refine hide fun G0 hG0 => ?_
        obtain ⟨y, hy, rfl⟩ := List.mem_map.mp hx
        refine hG0 ?_
        try clear hG0 G0
        rw [rtN_lt (hkl y hy)]
        have := hkl y hy
        have := (O.okc.ok.rr y (by lia)).1
        lia) fun S9 es ep9 tS ks9 h9 tk9 F9 N9 lt9 I9 hnd9 hks9 hz9 hl9 => ?_
      repeat' ((fail_if_success guard_target = wpAny _ _ (exec (Stmt.While _ _ _ _) _) _ _ _); (fail_if_success guard_target = wpAny _ _ (exec (Stmt.For _ _ _ _ _) _) _ _ _); walk_at "mine")
      refine rl_sortedSetI hr' (by assumption) (by assumption) (.head _) I9 hz9 fun D10 e10 vs10 ks10 h10 tk10 dr10 F10 N10 lt10 hi10 hp10 => ?_
      have hks10 : ∀ x ∈ ks10, ∃ y ∈ ks, rt y = x := fun x hx => by
        refine hide fun G0 hG0 => ?_
        obtain ⟨y, hy, e⟩ := List.mem_map.mp ((hks9 x).mp (hp10.mem_iff.mp hx))
        refine hG0 ?_
        try clear hG0 G0
        exact ⟨y, hy, by rw [← e, rtN_lt (hkl y hy)]⟩
      have hnd10 : ks10.Nodup := hp10.nodup_iff.mpr hnd9
      have hl10 : ks10.length ≤ 2 := by
        have := len_sub ks10 (ks.map rt) hnd10 fun x hx => by
          refine hide fun G0 hG0 => ?_
          obtain ⟨y, hy, e⟩ := hks10 x hx
          refine hG0 ?_
          try clear hG0 G0
          exact List.mem_map.mpr ⟨y, hy, e⟩
        rw [List.length_map] at this
        lia
      have hsub10 : ∀ q ∈ news5, q ∈ (D10, lo vs10 e10) :: (S9, so es ep9 tS) :: (D8, lo ys c8) :: news8 := fun q hq => .tail _ (.tail _ (.tail _ (hsub8 q hq)))
      have hDO10 : D10 ∉ a'.own ab0 := fun q => by
        refine hide fun G0 hG0 => ?_
        obtain ⟨o, ho, _⟩ := R4.ownO _ q
        refine hG0 ?_
        try clear hG0 G0
        exact Nat.lt_irrefl _ (lt10 _ (.tail _ (.tail _ (hsub8 _ ho))))
      have hD10 : (D10, lo vs10 e10) ∈ (D10, lo vs10 e10) :: (S9, so es ep9 tS) :: (D8, Mine.lo ys c8) :: news8 := .head _
      have R10 := R4.mono hsub10
      clear F8 N8 F9 N9 FW NW
      generalize (D10, lo vs10 e10) :: (S9, so es ep9 tS) :: (D8, Mine.lo ys c8) :: news8 = news10 at *
      refine for_at (srcO := [(D10, Mine.lo vs10 e10)]) (by assumption) (by assumption) hr' rfl rfl rfl (Src.list (rl_list N10 hD10)) (fun q hq => by rw [List.mem_singleton.mp hq]; exact hD10)
        (fun i m' newsF => m' "n" = some (.int (S.nodes.length : Int) ti) ∧ ∃ ab1, RepH w newsF a' (addS S op ks wt' dp' ab1) ∧ ab1.map (·.1) = S.ab.map (·.1) ++ [S.nodes.length] ∧ ab1.map (·.2.1) = ab0.map (·.2.1) ∧ (∀ x ∈ ab1, ∀ j ∈ x.2.2, j < S.nodes.length + 1) ∧
          (ab1.map (·.2.2.length)).sum ≤ (S.ab.map (·.2.2.length)).sum + i ∧ Ch (a'.own ab0) (a'.own ab0) news10 newsF) ⟨by walk_at "mloc", ab0, R10, hk0, rfl, hj0, by rw [hs0]; exact Nat.le_refl _, Ch.rfl⟩ ?turn ?fin
      case turn =>
        rintro i v m0 newsF s2 I oI hi2 hv sm2 hltI F2 N2 hnI hsrc hJ0 Z hZ
        refine hide fun G0 hG0 => ?_
        obtain ⟨f1, ab1, R1, k1, d1, j1, q1, C1⟩ := hJ0
        refine hG0 ?_
        try clear hG0 G0
        replace F2 : Fr g' L' s2.heap _ := F2
        replace N2 : News g' L' s2.heap _ := N2
        have hlen10 := IntsAre.len hi10
        have hil : i < ks10.length := by rw [List.size_toArray] at hi2; lia
        have hci : ks10[i]? = some (ks10[i]'hil) := List.getElem?_eq_getElem hil
        refine hide fun G0 hG0 => ?_
        obtain ⟨y, hy, hyc⟩ := hks10 _ (List.getElem_mem hil)
        refine hG0 ?_
        try clear hG0 G0
        generalize ks10[i]'hil = c at *
        obtain ⟨tc, htc⟩ := IntsAre.get hi10 hci
        have hv' : vs10[i]? = some v := by simpa using hv
        rw [hv'] at htc
        cases htc
        have hyl := hkl y hy
        have hnn := O.okc.nn
        have hcr := O.okc.ok.rr y (by lia)
        have hcc : rt c = c := by rw [← hyc]; exact O.okc.ok.root hcr.2.1
        have hck : c ∈ ab1.map (·.1) := by rw [k1]; exact List.mem_append_left _ ((O.abk c).mpr ⟨by lia, hcc⟩)
        refine hide fun G0 hG0 => ?_
        obtain ⟨⟨c', Dc, lc⟩, hx, e⟩ := List.mem_map.mp hck
        refine hG0 ?_
        try clear hG0 G0
        dsimp only at e
        subst e
        have hnk1 : (ab1.map (·.1)).Nodup := by rw [k1, ← hk0]; exact hnk0
        have hlk := lk_refs hnk1 hx
        dsimp only at hlk
        refine hide fun G0 hG0 => ?_
        obtain ⟨usc, nc, hDc, hic⟩ := R1.hx.hl _ hx
        dsimp only at hDc hic
        have hlc := IntsAre.len hic
        have hsg := sum_ge hx
        dsimp only at hsg
        have habs := O.abs
        have R2 := R1.mono fun q hq => List.mem_cons_of_mem (I, oI) hq
        have hcell2 : (L' + 1, oS) ∈ (I, oI) :: newsF := .tail _ (C1.keep _ (hsub10 _ hcell) hcO5)
        have hH := R2.rc.hH
        obtain ⟨t1, t2, t3, t4, t5, t6, t7, t8, t9, n', hdH⟩ := R2.rc.hd
        obtain ⟨oV, hV, dV⟩ := R2.hx.hv
        refine hG0 ?_
        try clear hG0 G0
        have loV := R2.hx.lv
        replace dV : DI w oV (ab1.map fun x => (x.1, Value.ref x.2.1)) := dV
        clear N10 F10
        repeat' ((fail_if_success guard_target = wpAny _ _ (exec (Stmt.While _ _ _ _) _) _ _ _); (fail_if_success guard_target = wpAny _ _ (exec (Stmt.For _ _ _ _ _) _) _ _ _); walk_at "mine")
        refine rl_append (news := (I, oI) :: newsF) (by assumption) (by assumption) (.tail _ hDc) (by lia) fun h4 n4 F4 N4 => ?_
        have hDcI : Dc ≠ I := hnI _ hDc
        have hDcO : Dc ∈ a'.own ab0 := by rw [← own_eq d1]; unfold HA.own; simp only [List.mem_cons, List.mem_append]; exact .inr (.inr (.inr (.inr (.inr (.inr (List.mem_map.mpr ⟨_, hx, rfl⟩))))))
        have R3 := R1.updL (n' := n4) (us' := usc ++ [Value.int (S.nodes.length : Int) ti]) (l' := lc ++ [S.nodes.length]) hx hnk1 (fun us n => by
          have := no_tu N2 (.tail _ hDc) (by simp) us n
          exact fun q => this (.tail _ q)) (intsAre_append hic (intsAre_one _ _))
        have hsl := setL_len hnk1 hx (l := lc ++ [S.nodes.length])
        rw [List.length_append, List.length_singleton] at hsl
        dsimp only at hsl R3
        repeat' ((fail_if_success guard_target = wpAny _ _ (exec (Stmt.While _ _ _ _) _) _ _ _); (fail_if_success guard_target = wpAny _ _ (exec (Stmt.For _ _ _ _ _) _) _ _ _); walk_at "mine")
        refine nx <| hZ _ ⟨sm2, _, upd Dc (Mine.lo (usc ++ [Value.int (S.nodes.length : Int) ti]) n4) newsF, by assumption, nsub (by assumption) fun q hq => ?_, fun q hq => ?_, fun q hq => ?_, ?g1, setL ab1 c' (lc ++ [S.nodes.length]), R3, by rw [setL_keys]; exact k1, by rw [setL_addrs]; exact d1, fun x hx2 j hj => ?_, by lia, C1.trans (Ch.upd hDcO)⟩
        case g1 => exact (if_neg (by decide)).trans f1
        · rcases List.mem_cons.mp hq with rfl | hq
          · exact upd_ne (.head _) hDcI.symm
          · exact upd_sub (fun q hq => List.mem_cons_of_mem _ hq) q hq
        · obtain ⟨q0, hq0, e0⟩ := upd_mem hq
          rw [← e0]; exact hnI q0 hq0
        · rw [List.mem_singleton.mp hq]
          exact upd_ne (hsrc _ (.head _)) fun e => hDO10 (by show D10 ∈ _; rw [show D10 = Dc from e]; exact hDcO)
        · obtain ⟨z, hz, rfl⟩ := List.mem_map.mp hx2
          by_cases ez : z.1 = c'
          · rw [if_pos ez] at hj
            rcases List.mem_append.mp hj with hj | hj
            · exact j1 _ hx j hj
            · rw [List.mem_singleton.mp hj]; lia
          · rw [if_neg ez] at hj
            exact j1 z hz j hj
      case fin =>
        rintro m2 newsF s12 sm12 F12 N12 hsrc ⟨f1, ab1, R1, k1, d1, j1, q1, C1⟩
        replace F12 : Fr g' L' s12.heap _ := F12
        replace N12 : News g' L' s12.heap _ := N12
        have hlen10 := IntsAre.len hi10
        rw [List.size_toArray] at q1
        have O5 := OA ab1 k1 j1 (by lia)
        have hcell2 := C1.keep _ (hsub10 _ hcell) hcO5
        have hH := R1.rc.hH
        obtain ⟨t1, t2, t3, t4, t5, t6, t7, t8, t9, n', hdH⟩ := R1.rc.hd
        have hab1 : ab1.length = S.ab.length + 1 := by have := congrArg List.length k1; simpa using this
        have hnl : (addS S op ks wt' dp' ab1).nodes.length = S.nodes.length + 1 := by simp [addS]
        have hpot := O.pot
        clear N10 F10
        repeat' ((fail_if_success guard_target = wpAny _ _ (exec (Stmt.While _ _ _ _) _) _ _ _); (fail_if_success guard_target = wpAny _ _ (exec (Stmt.For _ _ _ _ _) _) _ _ _); walk_at "mine")
        refine look_ok (by assumption) (by assumption) X' T' (hr'.less (by decide)) R1 O5 hto (by rw [hnl]; lia) (by rw [hnl]; show S.kn.length + S.wq.length + 100 * ab1.length + 1 ≤ _; lia) fun s11 S11 rt11 news11 sm11 F11 N11 R11 O11 en11 hm11 C11 => ?_
        repeat' ((fail_if_success guard_target = wpAny _ _ (exec (Stmt.While _ _ _ _) _) _ _ _); (fail_if_success guard_target = wpAny _ _ (exec (Stmt.For _ _ _ _ _) _) _ _ _); walk_at "mine")
        refine lv_ret (by assumption) (by assumption) fun F9 N9 => h S.nodes.length ti _ a' S11 rt11 news11 (by rw [en11, hnl]; lia) ⟨sm11.1.trans (sm12.1.trans (sm8.1.trans (sm3.1.trans (sm2.1.trans sm1.1)))), sm11.2.trans (sm12.2.trans (sm8.2.trans (sm3.2.trans (sm2.2.trans sm1.2))))⟩ F9 N9 R11 O11 haF (by rw [en11, hnl]; lia) (by rw [en11, hnl]; lia) ?_
        refine Ch.tail0 (((K4.trans (Ch.more hsub10)).trans C1).trans ?_)
        rw [← own_eq d1]
        exact C11
end
section
variable {w : World} {A : Around} {g h : PySem.Heap} {L : Addr} {m mg mb : PySem.Str → Option Value} {s : Shared} {news news' : List (Addr × Obj)} {p : Program} {loose : List PySem.Str} {a : HA} {S : HS} {rt : Nat → Nat} {told : Nat} {E : Value → Shared → Prop}
set_option maxHeartbeats 8000000 in
theorem put_ok {D : Addr} {n : Nat} {op : PySem.Str} {t : Tok} {Q : Value → Shared → Prop}
   (F : Fr g L s.heap m) (N : News g L s.heap news) (X : (hd.heap_39 w.params).In g) (T : TopRead p loose mg mb g) (hr : RoomOk A 8)
   (R : RepH w news a S) (O : OkH a S rt told) (hto : told ≤ 500) (hn : S.nodes.length ≤ 9) (hop : Op4 op) (hD : (D, tu [.str op t] n) ∈ news)
   (h : ∀ (i : Nat) t s' (a' : HA) (S' : HS) rt' news', i < S'.nodes.length → Sm s s' → Fr g L s'.heap m → News g L s'.heap news' → RepH w news' a' S' → OkH a' S' rt' told → a'.fix = a.fix → S.nodes.length ≤ S'.nodes.length → S'.nodes.length ≤ S.nodes.length + 1 →
      Ch (a.own S.ab) (a'.own S'.ab) news news' → Q (.int (i : Int) t) s') :
   wpAny (model P w) A (call (.ref 381) [.ref a.H, .ref D]) Q E s := by
  refine bd [("self", .ref a.H), ("term", .ref D)] ?_
  (refine' callC ?zF ?zN ?zX ?zT ?zR ?k6 ?k7 ?k9 ?kB ?c5 ?_ ?c2 ?c3 ?c4; (case zF | zN | zX | zR => assumption); (case zT => apply TopRead.nolimit; assumption); (case k6 | k7 => k_is); (case k9 | kB | c2 | c3 | c4 => exact rfl); (case c5 => decide); intros)
  rename_i g' L' h' tk' cells stay X' hr' F' N' Y ltY
  refine hide fun G0 hG0 => ?_
  obtain ⟨oS, rfl, hcS0⟩ := CellsAre.one Y
  have hcS : oS.data = .cell (some (.ref a.H)) := hcS0
  clear hcS0 Y
  have T' := T.keeps stay
  replace N' : News g' L' h' ((L' + 1, oS) :: news) := N'
  have R0 := R.mono fun q hq => List.mem_cons_of_mem (L' + 1, oS) hq
  have hH := R0.rc.hH
  obtain ⟨t1, t2, t3, t4, t5, t6, t7, t8, t9, n', hdH⟩ := R0.rc.hd
  refine hG0 ?_
  try clear hG0 G0
  clear X T F N
  repeat' ((fail_if_success guard_target = wpAny _ _ (exec (Stmt.While _ _ _ _) _) _ _ _); (fail_if_success guard_target = wpAny _ _ (exec (Stmt.For _ _ _ _ _) _) _ _ _); walk_at "mine")
  refine comp_walk (srcO := [(DW, Mine.tu [] 0)]) FW NW hr'.hh (n := 0) (by decide) (by decide) rfl rfl (Src.tuple (rl_tuple NW (.head _))) (fun q hq => by rw [List.mem_singleton.mp hq]; exact .head _)
    (fun i ys news' => ys = [] ∧ ∀ q ∈ (L' + 1, oS) :: news, q ∈ news') ⟨rfl, fun q hq => .tail _ hq⟩ ?t1 ?f1
  case t1 =>
    rintro j v ys mC news' ext C s' hj
    exact absurd hj (Nat.not_lt_zero _)
  case f1 =>
    rintro D8 c8 ys news8 s8 sm8 F8 N8 hD8 hlt8 ⟨rfl, hsub8⟩
    replace N8 : News g' L' s8.heap ((D8, lo [] c8) :: news8) := N8
    clear FW NW ltW
    repeat' ((fail_if_success guard_target = wpAny _ _ (exec (Stmt.While _ _ _ _) _) _ _ _); (fail_if_success guard_target = wpAny _ _ (exec (Stmt.For _ _ _ _ _) _) _ _ _); walk_at "mine")
    have K : ∀ q ∈ news, q ∈ (DW, Mine.tu [] 0) :: (D8, lo [] c8) :: news8 := fun q hq => .tail _ (.tail _ (hsub8 q (.tail _ hq)))
    refine add_ok (by assumption) (by assumption) X' T' hr' (R.mono K) O hto hn hop (.head _) (ks := []) .nil (by decide) (fun x hx => nomatch hx) fun i ti s9 a9 S9 rt9 news9 hi9 sm9 F9 N9 R9 O9 e9 l9 u9 C9 => ?_
    repeat' ((fail_if_success guard_target = wpAny _ _ (exec (Stmt.While _ _ _ _) _) _ _ _); (fail_if_success guard_target = wpAny _ _ (exec (Stmt.For _ _ _ _ _) _) _ _ _); walk_at "mine")
    exact lv_ret (by assumption) (by assumption) fun Fx Nx => h i ti _ a9 S9 rt9 news9 hi9 ⟨sm9.1.trans sm8.1, sm9.2.trans sm8.2⟩ Fx Nx R9 O9 e9 l9 u9 ((Ch.more K).trans C9)
end
noncomputable def BindsM (_ : Addr → List (PySem.Str × Value)) (P : Prop) : Prop := P
theorem bdM (b : Addr → List (PySem.Str × Value)) {P : Prop} (h : BindsM b P) : P := h
theorem tcall_weight (C : Addr) (args : List Value) : (Code.builtin "type.__call__" ⟨.ref C :: args, []⟩).weight = 1 := by kernel_rfl
theorem tcall_units (C : Addr) (args : List Value) : (Code.builtin "type.__call__" ⟨.ref C :: args, []⟩).cUnits = 1 := by kernel_rfl
theorem RoomOk.undT {A : Around} {k : Nat} {C : Addr} {args : List Value} (r : RoomOk A (k + 1)) : RoomOk (A.under (.builtin "type.__call__" ⟨.ref C :: args, []⟩)) k :=
  ⟨r.hh, by have := r.dp; show A.depth + (Code.builtin "type.__call__" ⟨.ref C :: args, []⟩).weight + k ≤ 900; rw [tcall_weight]; lia, by have := r.un; show A.units + (Code.builtin "type.__call__" ⟨.ref C :: args, []⟩).cUnits + 20 * k ≤ 9000; rw [tcall_units]; lia⟩
section
variable {prog : Program} {w : World} {A : Around} {E : Value → Shared → Prop} {s : Shared} {g : PySem.Heap} {L : Addr} {m : PySem.Str → Option Value} {news : List (Addr × Obj)} {K : Frag}
  {Q : Value → Shared → Prop} {name qual : PySem.Str} {params : Arguments} {body : List Stmt} {scope : Scope} {dV kV doc pm cdv ct oc : Value} {an od : Option Addr} {osl : Array (Option Value)} {f C : Addr} {args : List Value} {env : Env} {k : Nat}
theorem callMk {bf : Addr → List (PySem.Str × Value)} (F : Fr g L s.heap m) (N : News g L s.heap news) (X : K.In g) (hlim : g.NoLimit) (hroom : RoomOk A (k + 2))
    (hm : makesIn K C = true) (hi : findIn K (.ref C) "__init__" = some (some (.ref f))) (hf : isFn K (.ref f) = true)
    (ho : K.lookup f = some ⟨oc, od, .func (fnOf name qual params body scope dV kV doc pm an cdv ct), osl⟩) (hcd : codeIn K cdv qual = true)
    (hbind : ∀ x, bindArgs (fnOf name qual params body scope dV kV doc pm an cdv ct) ⟨.ref x :: args, []⟩ = pure (bf x)) (hloc : ∀ x, ((bf x).all fun x => decide (scope.names.lookup x.1 = some .local)) = true)
    (h : ∀ x dx g' L' h₁ tk, g.StaysIn g' → K.In g' → RoomOk ((A.under (.builtin "type.__call__" ⟨.ref C :: args, []⟩)).deeper (envOf qual scope L' f cdv)) k → Fr g' L' h₁ (fun y => (bf x).reverse.lookup y) → News g' L' h₁ ((x, instObj C dx) :: (dx, dictOf [] 0) :: news) → (∀ p ∈ news, @LT.lt Nat _ p.1 dx) → @LT.lt Nat _ dx x →
      wpAny (model prog w) ((A.under (.builtin "type.__call__" ⟨.ref C :: args, []⟩)).deeper (envOf qual scope L' f cdv)) (execs body (envOf qual scope L' f cdv)) (Rt (Lv g L m g' fun v s' => v = .none ∧ Q (.ref x) s')) (fun _ _ => False) { s with heap := h₁, toks := tk })
    (hcell : ∀ x ∈ scope.names, x.2 ≠ .cell) (hco : scope.isCoroutine = false) (hgen : scope.isGenerator = false) (hk : scope.kind = .function) :
    BindsM bf (wpAny (model prog w) A (call (.ref C) args) Q E s) := by
  refine call_cls F X N hm hi hf fun x dx h' F' N' l1 l2 => ?_
  have hr1 : RoomOk (A.under (.builtin "type.__call__" ⟨.ref C :: args, []⟩)) (k + 1) := hroom.undT
  refine enterP F' N' X hlim hr1.lim ho hcd (hbind x) (hloc x) (fun g' L' h₁ a b c d => ?_) hcell hco hgen hk
  refine wpAny_mono (h x dx g' L' h₁ _ a b (hr1.deeper _) c d l1 l2) (fun fl s' hl => ?_) fun _ _ x => x
  cases fl <;> (obtain ⟨L', m', news', a, b, c⟩ := hl; exact ⟨L', m', news', a, b, c⟩)
theorem rl_setAttr {x C dx : Addr} {es es' : List DictEntry} {n n' : Nat} {nm : PySem.Str} {v : Value} {Q : Unit → Shared → Prop} (F : Fr g L s.heap m) (X : K.In g) (N : News g L s.heap news) (hx : (x, instObj C dx) ∈ news) (hdx : (dx, dictOf es n) ∈ news)
    (hs : findIn K (.ref C) "__setattr__" = some (some (.builtin "object.__setattr__"))) (hp : plainOver K C = true) (ht : takerIn K C nm = some none) (hh : hasDictIn K C = true) (hl : (getL nm es).isSome = true)
    (e : (putL nm (PyData.keyHash w.params nm) (.str nm (s.toks + 1)) v es, putN nm es n) = (es', n')) (hz : es'.length ≤ 1000)
    (h : ∀ h', Fr g L h' m → News g L h' (upd dx (dictOf es' n') news) → Q () { s with heap := h', toks := s.toks + 2 }) :
    wpAny (model prog w) A (setAttr (.ref x) nm v) Q E s :=
  set_dict F X (oth_news N hdx) (InstAt.of_news N hx hdx) rfl hs hp ht hh hl e (Upd.head oth_ne) hz fun h' F' N' => h h' F' (oth_back N')
theorem nd_c {x : Addr} {l : List Addr} (h : ∀ y ∈ l, x ≠ y) (hl : l.Nodup) : (x :: l).Nodup := List.nodup_cons.mpr ⟨fun hx => h x hx rfl, hl⟩
theorem upd_hd {a : Addr} {o o1 : Obj} {l : List (Addr × Obj)} : upd a o ((a, o1) :: l) = (a, o) :: upd a o l := by
  unfold upd; rw [List.map_cons, if_pos rfl]
theorem upd_tl {a : Addr} {o : Obj} {q : Addr × Obj} {l : List (Addr × Obj)} (h : q.1 ≠ a) : upd a o (q :: l) = q :: upd a o l := by
  unfold upd; rw [List.map_cons, if_neg h]
end
section
variable {w : World} {A : Around} {g h : PySem.Heap} {L : Addr} {m mg mb : PySem.Str → Option Value} {s : Shared} {news news' : List (Addr × Obj)} {p : Program} {loose : List PySem.Str} {a : HA} {S : HS} {rt : Nat → Nat} {told : Nat} {E : Value → Shared → Prop}
set_option maxHeartbeats 8000000 in
theorem mkU_ok {Q : Value → Shared → Prop}
   (F : Fr g L s.heap m) (N : News g L s.heap news) (X : (hd.heap_39 w.params).In g) (T : TopRead p loose mg mb g) (hr : RoomOk A 2)
   (h : ∀ s' u news', Sm s s' → Fr g L s'.heap m → News g L s'.heap news' → (∀ q ∈ news, q ∈ news') → RepU w news' u ⟨[], [], 0⟩ → u.lots = [] → (∀ x ∈ u.U :: u.dU :: u.own, ∀ q ∈ news, q.1 ≠ x) → Q (.ref u.U) s') :
   wpAny (model P w) A (call (.ref 341) []) Q E s := by
  refine bdM (fun x => [("self", .ref x)]) ?_
  (refine' callMk ?zF ?zN ?zX ?zT ?zR ?km ?ki ?kf ?k6 ?k7 ?k9 ?kB ?_ ?c5 ?c2 ?c3 ?c4; (case zF | zN | zX | zR => assumption); (case zT => apply TopRead.nolimit; assumption); (case km | ki | kf | k6 | k7 => k_is); (case k9 | kB => intro x; exact rfl); (case c5 => decide); (case c2 | c3 | c4 => rfl); intro xO dO g' L' h' tk' stay X' hr' F' N' ltD ltX)
  have T' := T.keeps stay
  clear X T F N
  have hnd : ∀ q ∈ news, q.1 ≠ dO := fun q hq => Nat.ne_of_lt (ltD q hq)
  have hnx : ∀ q ∈ news, q.1 ≠ xO := fun q hq => Nat.ne_of_lt (Nat.lt_trans (ltD q hq) ltX)
  have hxd : xO ≠ dO := Nat.ne_of_gt ltX
  repeat' ((fail_if_success guard_target = wpAny _ _ (exec (Stmt.While _ _ _ _) _) _ _ _); (fail_if_success guard_target = wpAny _ _ (exec (Stmt.For _ _ _ _ _) _) _ _ _); walk_at "mine")
  have n1 : DW ≠ dO := Nat.ne_of_gt (ltW (dO, _) (by k_mem))
  have l1 := ltW
  generalize DW = D1 at *
  (refine' rl_setAttr ?zF ?zX ?zN ?zx ?zd ?zs ?zp ?zt ?zh ?zl ?ze ?zz ?_; (case zF | zX | zN => k_asm); (case zx | zd => k_mem); (case zs | zp | zt | zh => k_is); (case zl => k_get); (case ze => k_put); (case zz => exact Nat.le_of_ble_eq_true rfl); intro hW FW NW; (repeat (first | rw [upd_hd] at NW | rw [upd_tl (by with_reducible assumption)] at NW)); (rw [upd_not (by with_reducible assumption)] at NW))
  repeat' ((fail_if_success guard_target = wpAny _ _ (exec (Stmt.While _ _ _ _) _) _ _ _); (fail_if_success guard_target = wpAny _ _ (exec (Stmt.For _ _ _ _ _) _) _ _ _); walk_at "mine")
  have n2 : DW ≠ dO := Nat.ne_of_gt (ltW (dO, _) (by k_mem))
  have l2 := ltW
  generalize DW = D2 at *
  (refine' rl_setAttr ?zF ?zX ?zN ?zx ?zd ?zs ?zp ?zt ?zh ?zl ?ze ?zz ?_; (case zF | zX | zN => k_asm); (case zx | zd => k_mem); (case zs | zp | zt | zh => k_is); (case zl => k_get); (case ze => k_put); (case zz => exact Nat.le_of_ble_eq_true rfl); intro hW FW NW; (repeat (first | rw [upd_hd] at NW | rw [upd_tl (by with_reducible assumption)] at NW)); (rw [upd_not (by with_reducible assumption)] at NW))
  repeat' ((fail_if_success guard_target = wpAny _ _ (exec (Stmt.While _ _ _ _) _) _ _ _); (fail_if_success guard_target = wpAny _ _ (exec (Stmt.For _ _ _ _ _) _) _ _ _); walk_at "mine")
  have n3 : DW ≠ dO := Nat.ne_of_gt (ltW (dO, _) (by k_mem))
  have l3 := ltW
  generalize DW = D3 at *
  (refine' rl_setAttr ?zF ?zX ?zN ?zx ?zd ?zs ?zp ?zt ?zh ?zl ?ze ?zz ?_; (case zF | zX | zN => k_asm); (case zx | zd => k_mem); (case zs | zp | zt | zh => k_is); (case zl => k_get); (case ze => k_put); (case zz => exact Nat.le_of_ble_eq_true rfl); intro hW FW NW; (repeat (first | rw [upd_hd] at NW | rw [upd_tl (by with_reducible assumption)] at NW)); (rw [upd_not (by with_reducible assumption)] at NW))
  repeat' ((fail_if_success guard_target = wpAny _ _ (exec (Stmt.While _ _ _ _) _) _ _ _); (fail_if_success guard_target = wpAny _ _ (exec (Stmt.For _ _ _ _ _) _) _ _ _); walk_at "mine")
  have x1 : xO ≠ D1 := Nat.ne_of_lt (l1 (xO, _) (by k_mem))
  have x2 : xO ≠ D2 := Nat.ne_of_lt (l2 (xO, _) (by k_mem))
  have x3 : xO ≠ D3 := Nat.ne_of_lt (l3 (xO, _) (by k_mem))
  have y12 : D1 ≠ D2 := Nat.ne_of_lt (l2 (D1, _) (by k_mem))
  have y13 : D1 ≠ D3 := Nat.ne_of_lt (l3 (D1, _) (by k_mem))
  have y23 : D2 ≠ D3 := Nat.ne_of_lt (l3 (D2, _) (by k_mem))
  refine lv_next FW NW fun F9 N9 => ⟨rfl, h _ ⟨xO, dO, D1, D2, D3, []⟩ _ ⟨rfl, rfl⟩ F9 N9 (fun q hq => by simp [hq]) ⟨by k_mem, ⟨_, _, _, _, by k_mem⟩, ⟨[], 0, by k_mem, .nil⟩, ⟨0, by k_mem⟩, ⟨[], 0, by k_mem, rfl⟩, fun i b hb => by simp at hb, ?_⟩ rfl fun x hx q hq => ?_⟩
  · exact (nd_c (List.forall_mem_cons.mpr ⟨hxd, List.forall_mem_cons.mpr ⟨x1, List.forall_mem_cons.mpr ⟨x2, List.forall_mem_cons.mpr ⟨x3, fun _ h => nomatch h⟩⟩⟩⟩) (nd_c (List.forall_mem_cons.mpr ⟨n1.symm, List.forall_mem_cons.mpr ⟨n2.symm, List.forall_mem_cons.mpr ⟨n3.symm, fun _ h => nomatch h⟩⟩⟩) (nd_c (List.forall_mem_cons.mpr ⟨y12, List.forall_mem_cons.mpr ⟨y13, fun _ h => nomatch h⟩⟩) (nd_c (List.forall_mem_cons.mpr ⟨y23, fun _ h => nomatch h⟩) (nd_c (fun _ h => nomatch h) (List.nodup_nil))))) : [xO, dO, D1, D2, D3].Nodup)
  · exact (List.forall_mem_cons.mpr ⟨hnx q hq, List.forall_mem_cons.mpr ⟨hnd q hq, List.forall_mem_cons.mpr ⟨Nat.ne_of_lt (l1 q (by k_mem)), List.forall_mem_cons.mpr ⟨Nat.ne_of_lt (l2 q (by k_mem)), List.forall_mem_cons.mpr ⟨Nat.ne_of_lt (l3 q (by k_mem)), fun _ h => nomatch h⟩⟩⟩⟩⟩ : ∀ x ∈ [xO, dO, D1, D2, D3], q.1 ≠ x) x hx
theorem DI.toDT {o : Obj} (h : DI w o []) : DT w news o [] := by
  obtain ⟨es, ep, h1, h2, h3, h4, _⟩ := h
  have e : es.toList = [] := by
    cases q : es.toList with
    | nil => rfl
    | cons a l => rw [q] at h4; cases h4
  exact ⟨es, ep, [], h1, h2, by simpa using e, .nil, List.nodup_nil⟩
set_option maxHeartbeats 8000000 in
theorem mkB_ok {Q : Value → Shared → Prop}
   (F : Fr g L s.heap m) (N : News g L s.heap news) (X : (hd.heap_39 w.params).In g) (T : TopRead p loose mg mb g) (hr : RoomOk A 2)
   (h : ∀ s' b news', Sm s s' → Fr g L s'.heap m → News g L s'.heap news' → (∀ q ∈ news, q ∈ news') → RepBX w news' b [] [] [] → (∀ x ∈ b.B :: b.dB :: b.own, ∀ q ∈ news, q.1 ≠ x) → Q (.ref b.B) s') :
   wpAny (model P w) A (call (.ref 259) []) Q E s := by
  refine bdM (fun x => [("self", .ref x)]) ?_
  (refine' callMk ?zF ?zN ?zX ?zT ?zR ?km ?ki ?kf ?k6 ?k7 ?k9 ?kB ?_ ?c5 ?c2 ?c3 ?c4; (case zF | zN | zX | zR => assumption); (case zT => apply TopRead.nolimit; assumption); (case km | ki | kf | k6 | k7 => k_is); (case k9 | kB => intro x; exact rfl); (case c5 => decide); (case c2 | c3 | c4 => rfl); intro xO dO g' L' h' tk' stay X' hr' F' N' ltD ltX)
  have T' := T.keeps stay
  clear X T F N
  have hnd : ∀ q ∈ news, q.1 ≠ dO := fun q hq => Nat.ne_of_lt (ltD q hq)
  have hnx : ∀ q ∈ news, q.1 ≠ xO := fun q hq => Nat.ne_of_lt (Nat.lt_trans (ltD q hq) ltX)
  have hxd : xO ≠ dO := Nat.ne_of_gt ltX
  repeat' ((fail_if_success guard_target = wpAny _ _ (exec (Stmt.While _ _ _ _) _) _ _ _); (fail_if_success guard_target = wpAny _ _ (exec (Stmt.For _ _ _ _ _) _) _ _ _); walk_at "mine")
  have n1 : DW ≠ dO := Nat.ne_of_gt (ltW (dO, _) (by k_mem))
  have l1 := ltW
  generalize DW = D1 at *
  (refine' rl_setAttr ?zF ?zX ?zN ?zx ?zd ?zs ?zp ?zt ?zh ?zl ?ze ?zz ?_; (case zF | zX | zN => k_asm); (case zx | zd => k_mem); (case zs | zp | zt | zh => k_is); (case zl => k_get); (case ze => k_put); (case zz => exact Nat.le_of_ble_eq_true rfl); intro hW FW NW; (repeat (first | rw [upd_hd] at NW | rw [upd_tl (by with_reducible assumption)] at NW)); (rw [upd_not (by with_reducible assumption)] at NW))
  repeat' ((fail_if_success guard_target = wpAny _ _ (exec (Stmt.While _ _ _ _) _) _ _ _); (fail_if_success guard_target = wpAny _ _ (exec (Stmt.For _ _ _ _ _) _) _ _ _); walk_at "mine")
  have n2 : DW ≠ dO := Nat.ne_of_gt (ltW (dO, _) (by k_mem))
  have l2 := ltW
  have lo2 := loW
  have di2 := diW
  generalize DW = D2 at *
  generalize oW = o2 at *
  (refine' rl_setAttr ?zF ?zX ?zN ?zx ?zd ?zs ?zp ?zt ?zh ?zl ?ze ?zz ?_; (case zF | zX | zN => k_asm); (case zx | zd => k_mem); (case zs | zp | zt | zh => k_is); (case zl => k_get); (case ze => k_put); (case zz => exact Nat.le_of_ble_eq_true rfl); intro hW FW NW; (repeat (first | rw [upd_hd] at NW | rw [upd_tl (by with_reducible assumption)] at NW)); (rw [upd_not (by with_reducible assumption)] at NW))
  repeat' ((fail_if_success guard_target = wpAny _ _ (exec (Stmt.While _ _ _ _) _) _ _ _); (fail_if_success guard_target = wpAny _ _ (exec (Stmt.For _ _ _ _ _) _) _ _ _); walk_at "mine")
  have n3 : DW ≠ dO := Nat.ne_of_gt (ltW (dO, _) (by k_mem))
  have l3 := ltW
  generalize DW = D3 at *
  (refine' rl_setAttr ?zF ?zX ?zN ?zx ?zd ?zs ?zp ?zt ?zh ?zl ?ze ?zz ?_; (case zF | zX | zN => k_asm); (case zx | zd => k_mem); (case zs | zp | zt | zh => k_is); (case zl => k_get); (case ze => k_put); (case zz => exact Nat.le_of_ble_eq_true rfl); intro hW FW NW; (repeat (first | rw [upd_hd] at NW | rw [upd_tl (by with_reducible assumption)] at NW)); (rw [upd_not (by with_reducible assumption)] at NW))
  repeat' ((fail_if_success guard_target = wpAny _ _ (exec (Stmt.While _ _ _ _) _) _ _ _); (fail_if_success guard_target = wpAny _ _ (exec (Stmt.For _ _ _ _ _) _) _ _ _); walk_at "mine")
  have n4 : DW ≠ dO := Nat.ne_of_gt (ltW (dO, _) (by k_mem))
  have l4 := ltW
  generalize DW = D4 at *
  (refine' rl_setAttr ?zF ?zX ?zN ?zx ?zd ?zs ?zp ?zt ?zh ?zl ?ze ?zz ?_; (case zF | zX | zN => k_asm); (case zx | zd => k_mem); (case zs | zp | zt | zh => k_is); (case zl => k_get); (case ze => k_put); (case zz => exact Nat.le_of_ble_eq_true rfl); intro hW FW NW; (repeat (first | rw [upd_hd] at NW | rw [upd_tl (by with_reducible assumption)] at NW)); (rw [upd_not (by with_reducible assumption)] at NW))
  repeat' ((fail_if_success guard_target = wpAny _ _ (exec (Stmt.While _ _ _ _) _) _ _ _); (fail_if_success guard_target = wpAny _ _ (exec (Stmt.For _ _ _ _ _) _) _ _ _); walk_at "mine")
  have x1 : xO ≠ D1 := Nat.ne_of_lt (l1 (xO, _) (by k_mem))
  have x2 : xO ≠ D2 := Nat.ne_of_lt (l2 (xO, _) (by k_mem))
  have x3 : xO ≠ D3 := Nat.ne_of_lt (l3 (xO, _) (by k_mem))
  have x4 : xO ≠ D4 := Nat.ne_of_lt (l4 (xO, _) (by k_mem))
  have y12 : D1 ≠ D2 := Nat.ne_of_lt (l2 (D1, _) (by k_mem))
  have y13 : D1 ≠ D3 := Nat.ne_of_lt (l3 (D1, _) (by k_mem))
  have y14 : D1 ≠ D4 := Nat.ne_of_lt (l4 (D1, _) (by k_mem))
  have y23 : D2 ≠ D3 := Nat.ne_of_lt (l3 (D2, _) (by k_mem))
  have y24 : D2 ≠ D4 := Nat.ne_of_lt (l4 (D2, _) (by k_mem))
  have y34 : D3 ≠ D4 := Nat.ne_of_lt (l4 (D3, _) (by k_mem))
  refine lv_next FW NW fun F9 N9 => ⟨rfl, h _ ⟨xO, dO, D1, D2, D3, D4⟩ _ ⟨rfl, rfl⟩ F9 N9 (fun q hq => by simp [hq]) ⟨⟨by k_mem, ⟨_, _, _, _, _, by k_mem⟩, ⟨[], 0, by k_mem, rfl, fun i v k hv => by simp at hv⟩⟩, ⟨[], 0, by k_mem, .nil⟩, ⟨[], 0, by k_mem, .nil⟩, ⟨o2, by k_mem, di2.toDT⟩, lo2, ?_⟩ fun x hx q hq => ?_⟩
  · exact (nd_c (List.forall_mem_cons.mpr ⟨hxd, List.forall_mem_cons.mpr ⟨x1, List.forall_mem_cons.mpr ⟨x2, List.forall_mem_cons.mpr ⟨x3, List.forall_mem_cons.mpr ⟨x4, fun _ h => nomatch h⟩⟩⟩⟩⟩) (nd_c (List.forall_mem_cons.mpr ⟨n1.symm, List.forall_mem_cons.mpr ⟨n2.symm, List.forall_mem_cons.mpr ⟨n3.symm, List.forall_mem_cons.mpr ⟨n4.symm, fun _ h => nomatch h⟩⟩⟩⟩) (nd_c (List.forall_mem_cons.mpr ⟨y12, List.forall_mem_cons.mpr ⟨y13, List.forall_mem_cons.mpr ⟨y14, fun _ h => nomatch h⟩⟩⟩) (nd_c (List.forall_mem_cons.mpr ⟨y23, List.forall_mem_cons.mpr ⟨y24, fun _ h => nomatch h⟩⟩) (nd_c (List.forall_mem_cons.mpr ⟨y34, fun _ h => nomatch h⟩) (nd_c (fun _ h => nomatch h) (List.nodup_nil)))))) : [xO, dO, D1, D2, D3, D4].Nodup)
  · exact (List.forall_mem_cons.mpr ⟨hnx q hq, List.forall_mem_cons.mpr ⟨hnd q hq, List.forall_mem_cons.mpr ⟨Nat.ne_of_lt (l1 q (by k_mem)), List.forall_mem_cons.mpr ⟨Nat.ne_of_lt (l2 q (by k_mem)), List.forall_mem_cons.mpr ⟨Nat.ne_of_lt (l3 q (by k_mem)), List.forall_mem_cons.mpr ⟨Nat.ne_of_lt (l4 q (by k_mem)), fun _ h => nomatch h⟩⟩⟩⟩⟩⟩ : ∀ x ∈ [xO, dO, D1, D2, D3, D4], q.1 ≠ x) x hx
set_option maxHeartbeats 8000000 in
theorem mkG_ok {H : Addr} {Q : Value → Shared → Prop}
   (F : Fr g L s.heap m) (N : News g L s.heap news) (X : (hd.heap_39 w.params).In g) (T : TopRead p loose mg mb g) (hr : RoomOk A 2)
   (h : ∀ s' G dG t n, Sm s s' → Fr g L s'.heap m → News g L s'.heap ((G, instObj 102 dG) :: (dG, dictOf [ent w.params "heap" t (.ref H)] n) :: news) → (∀ q ∈ news, q.1 ≠ G ∧ q.1 ≠ dG) → Q (.ref G) s') :
   wpAny (model P w) A (call (.ref 102) [.ref H]) Q E s := by
  refine bdM (fun x => [("self", .ref x), ("heap", .ref H)]) ?_
  (refine' callMk ?zF ?zN ?zX ?zT ?zR ?km ?ki ?kf ?k6 ?k7 ?k9 ?kB ?_ ?c5 ?c2 ?c3 ?c4; (case zF | zN | zX | zR => assumption); (case zT => apply TopRead.nolimit; assumption); (case km | ki | kf | k6 | k7 => k_is); (case k9 | kB => intro x; exact rfl); (case c5 => decide); (case c2 | c3 | c4 => rfl); intro xO dO g' L' h' tk' stay X' hr' F' N' ltD ltX)
  have T' := T.keeps stay
  clear X T F N
  have hnd : ∀ q ∈ news, q.1 ≠ dO := fun q hq => Nat.ne_of_lt (ltD q hq)
  have hnx : ∀ q ∈ news, q.1 ≠ xO := fun q hq => Nat.ne_of_lt (Nat.lt_trans (ltD q hq) ltX)
  have hxd : xO ≠ dO := Nat.ne_of_gt ltX
  repeat' ((fail_if_success guard_target = wpAny _ _ (exec (Stmt.While _ _ _ _) _) _ _ _); (fail_if_success guard_target = wpAny _ _ (exec (Stmt.For _ _ _ _ _) _) _ _ _); walk_at "mine")
  exact lv_next (by assumption) (by assumption) fun F9 N9 => ⟨rfl, h _ xO dO _ _ ⟨rfl, rfl⟩ F9 N9 fun q hq => ⟨hnx q hq, hnd q hq⟩⟩
end
/-- a heap being made -/
structure RepM (w : World) (news : List (Addr × Obj)) (x d : Addr) (es : List DictEntry) (n : Nat) (b : BA) (u : UA) (l : List (Addr × Obj)) : Prop where
  hx : (x, instObj 471 d) ∈ news
  hd : (d, dictOf es n) ∈ news
  hb : RepBX w news b [] [] []
  hu : RepU w news u ⟨[], [], 0⟩
  hl : ∀ q ∈ l, q ∈ news
  nd : ([x, d] ++ (b.B :: b.dB :: b.own) ++ (u.U :: u.dU :: u.own) ++ l.map (·.1)).Nodup
section
variable {w : World} {A : Around} {g h : PySem.Heap} {L : Addr} {m mg mb : PySem.Str → Option Value} {s : Shared} {news news' : List (Addr × Obj)} {p : Program} {loose : List PySem.Str} {E : Value → Shared → Prop} {x d : Addr} {es : List DictEntry} {n : Nat} {b : BA} {u : UA} {l : List (Addr × Obj)}
theorem RepM.set {es' : List DictEntry} {n' : Nat} (N : News g L h news) {h' : PySem.Heap} (_ : News g L h' (upd d (dictOf es' n') news)) (R : RepM w news x d es n b u l) : RepM w (upd d (dictOf es' n') news) x d es' n' b u l := by
  have nd := R.nd
  have hne : ∀ y ∈ (b.B :: b.dB :: b.own) ++ (u.U :: u.dU :: u.own) ++ l.map (·.1), y ≠ d := fun y hy e => by
    subst e
    rw [List.append_assoc, List.append_assoc, List.nodup_append] at nd
    refine nd.2.2 y (by simp) y ?_ rfl
    rw [← List.append_assoc]; exact hy
  have hxd : x ≠ d := by
    rw [List.append_assoc, List.append_assoc, List.nodup_append] at nd
    have := nd.1
    simpa using this
  have K : Kp [d] news (upd d (dictOf es' n') news) := kp_upd (no_tu N R.hd (by simp))
  exact ⟨upd_ne R.hx hxd, upd_self R.hd, R.hb.keep K fun y hy q => hne y (by simp only [List.mem_append]; exact .inl (.inl hy)) (List.mem_singleton.mp q), R.hu.keep K.k fun y hy q => hne y (by simp only [List.mem_append]; exact .inl (.inr hy)) (List.mem_singleton.mp q),
    fun q hq => upd_ne (R.hl q hq) (hne q.1 (by simp only [List.mem_append]; exact .inr (List.mem_map.mpr ⟨q, hq, rfl⟩))), nd⟩
theorem RepM.mem (R : RepM w news x d es n b u l) : ∀ y ∈ [x, d] ++ (b.B :: b.dB :: b.own) ++ (u.U :: u.dU :: u.own) ++ l.map (·.1), ∃ o, (y, o) ∈ news := fun y hy => by
  simp only [List.append_assoc] at hy
  rcases List.mem_append.mp hy with hy | hy
  · simp only [List.mem_cons, List.not_mem_nil, or_false] at hy
    rcases hy with rfl | rfl
    · exact ⟨_, R.hx⟩
    · exact ⟨_, R.hd⟩
  · rcases List.mem_append.mp hy with hy | hy
    · exact R.hb.mem y hy
    · rcases List.mem_append.mp hy with hy | hy
      · exact R.hu.mem hy
      · obtain ⟨q, hq, rfl⟩ := List.mem_map.mp hy
        exact ⟨_, R.hl q hq⟩
theorem RepM.new {D : Addr} {o : Obj} (R : RepM w news x d es n b u l) (hD : ∀ q ∈ news, q.1 < D) : RepM w ((D, o) :: news) x d es n b u (l ++ [(D, o)]) := by
  have hs : ∀ q ∈ news, q ∈ (D, o) :: news := fun q hq => List.mem_cons_of_mem _ hq
  refine ⟨hs _ R.hx, hs _ R.hd, R.hb.mono hs, R.hu.mono hs, fun q hq => ?_, ?_⟩
  · rcases List.mem_append.mp hq with hq | hq
    · exact hs _ (R.hl q hq)
    · rw [List.mem_singleton.mp hq]; exact List.mem_cons_self
  · rw [List.map_append, ← List.append_assoc, List.nodup_append]
    refine ⟨R.nd, by simp, fun y hy z hz => ?_⟩
    obtain ⟨o', ho⟩ := R.mem y hy
    rw [show z = D by simpa using hz]
    exact Nat.ne_of_lt (hD _ ho)
theorem RepM.start {news1 news3 : List (Addr × Obj)} {es1 es2 : List DictEntry} {n1 n2 : Nat} (N1 : News g L h news1) {h3 : PySem.Heap} (N3 : News g L h3 news3) (hx : (x, instObj 471 d) ∈ news) (hd : (d, dictOf es n) ∈ news) (hxd : x ≠ d)
    (s1 : ∀ q ∈ news, q ∈ news1) (hb : RepBX w news1 b [] [] []) (f1 : ∀ y ∈ b.B :: b.dB :: b.own, ∀ q ∈ news, q.1 ≠ y) {h2 h4 : PySem.Heap} (_ : News g L h2 (upd d (dictOf es1 n1) news1))
    (s3 : ∀ q ∈ upd d (dictOf es1 n1) news1, q ∈ news3) (hu : RepU w news3 u ⟨[], [], 0⟩) (f3 : ∀ y ∈ u.U :: u.dU :: u.own, ∀ q ∈ upd d (dictOf es1 n1) news1, q.1 ≠ y) (_ : News g L h4 (upd d (dictOf es2 n2) news3)) : RepM w (upd d (dictOf es2 n2) news3) x d es2 n2 b u [] := by
  have K1 : Kp [d] news1 (upd d (dictOf es1 n1) news1) := kp_upd (no_tu N1 (s1 _ hd) (by simp))
  have b2 := hb.keep K1 fun y hy q => f1 y hy _ hd (List.mem_singleton.mp q).symm
  have hx2 := upd_ne (o := dictOf es1 n1) (s1 _ hx) hxd
  have hd2 : (d, dictOf es1 n1) ∈ upd d (dictOf es1 n1) news1 := upd_self (s1 _ hd)
  have K3 : Kp [d] news3 (upd d (dictOf es2 n2) news3) := kp_upd (no_tu N3 (s3 _ hd2) (by simp))
  have b3 := b2.mono s3
  refine ⟨upd_ne (s3 _ hx2) hxd, upd_self (s3 _ hd2), b3.keep K3 fun y hy q => f1 y hy _ hd (List.mem_singleton.mp q).symm, hu.keep K3.k fun y hy q => f3 y hy _ hd2 (List.mem_singleton.mp q).symm, fun q hq => (nomatch hq), ?_⟩
  rw [List.map_nil, List.append_nil, List.nodup_append, List.nodup_append]
  refine ⟨⟨by simp [hxd], hb.nd, fun y hy z hz => ?_⟩, hu.nd, fun y hy z hz => ?_⟩
  · simp only [List.mem_cons, List.not_mem_nil, or_false] at hy
    rcases hy with rfl | rfl
    · exact f1 z hz _ hx
    · exact f1 z hz _ hd
  · rcases List.mem_append.mp hy with hy | hy
    · simp only [List.mem_cons, List.not_mem_nil, or_false] at hy
      rcases hy with rfl | rfl
      · exact f3 z hz _ hx2
      · exact f3 z hz _ hd2
    · obtain ⟨o, ho⟩ := b2.mem y hy
      exact f3 z hz _ ho
theorem RepM.gen {news0 : List (Addr × Obj)} (N : News g L h news) (R : RepM w news x d es n b u l) (hs : ∀ q ∈ news0, q ∈ news) : ∃ news', News g L h news' ∧ RepM w news' x d es n b u l ∧ ∀ q ∈ news0, q ∈ news' := ⟨news, N, R, hs⟩
theorem RepM.done {e f k v q : Addr} {ok ov : Obj} {t1 t2 t3 t4 t5 t6 t7 t8 t9 : Tok} (R : RepM w news x d [ent w.params "bank" t1 (.ref b.B), ent w.params "unions" t2 (.ref u.U), ent w.params "edges" t3 (.ref e), ent w.params "forest" t4 (.ref f), ent w.params "known" t5 (.ref k),
    ent w.params "above" t6 (.ref v), ent w.params "waiting" t7 (.ref q), ent w.params "backs" t8 (.int 0 t9)] n b u [(e, lo [] 0), (f, lo [] 0), (k, ok), (v, ov), (q, lo [] 0)]) (hk : DI w ok []) (hv : DI w ov []) (lk : (k == sysModules) = false) (lv : (v == sysModules) = false) :
    RepH w news ⟨x, d, e, f, k, v, q, b, u⟩ ⟨[], ⟨[], [], 0⟩, [], [], [], [], [], 0, 0⟩ := by
  have nd := R.nd
  have hl := R.hl
  simp only [List.map_cons, List.map_nil, List.append_assoc] at nd
  refine hide fun G0 hG0 => ?_
  obtain ⟨n1, n2, n3⟩ := List.nodup_append.mp nd
  obtain ⟨n4, n5, n6⟩ := List.nodup_append.mp n2
  obtain ⟨n7, n8, n9⟩ := List.nodup_append.mp n5
  refine hG0 ?_
  try clear hG0 G0
  simp only [List.nodup_cons, List.mem_cons, List.not_mem_nil, or_false, not_or, List.nodup_nil, and_true, not_false_eq_true] at n8
  refine hide fun G0 hG0 => ?_
  obtain ⟨⟨e1, e2, e3, e4⟩, ⟨f1, f2, f3⟩, ⟨k1, k2⟩, v1⟩ := n8
  refine hG0 ?_
  try clear hG0 G0
  refine ⟨⟨R.hx, ⟨_, _, _, _, _, _, _, _, _, _, R.hd⟩, R.hb.rb, R.hu⟩, R.hb, ⟨⟨[], 0, hl _ (by simp), rfl⟩, ⟨[], 0, hl _ (by simp), rfl⟩, ⟨ok, hl _ (by simp), hk.toDT⟩, ⟨ov, hl _ (by simp), hv⟩, fun y hy => (nomatch hy), ⟨[], 0, hl _ (by simp), .nil⟩, lk, lv⟩,
    ⟨fun y => if y ∈ b.B :: b.dB :: b.own then 6 else if y ∈ u.U :: u.dU :: u.own then 7 else if y = e then 1 else if y = f then 2 else if y = k then 3 else if y = v then 4 else if y = q then 5 else 0, ?_⟩⟩
  have q3 : ∀ a ∈ [x, d], ∀ c ∈ (b.B :: b.dB :: b.own) ++ ((u.U :: u.dU :: u.own) ++ [e, f, k, v, q]), a ≠ c := n3
  have q6 : ∀ a ∈ b.B :: b.dB :: b.own, ∀ c ∈ (u.U :: u.dU :: u.own) ++ [e, f, k, v, q], a ≠ c := n6
  have q9 : ∀ a ∈ u.U :: u.dU :: u.own, ∀ c ∈ [e, f, k, v, q], a ≠ c := n9
  have z0 : ∀ a ∈ [x, d], (if a ∈ b.B :: b.dB :: b.own then 6 else if a ∈ u.U :: u.dU :: u.own then 7 else if a = e then 1 else if a = f then 2 else if a = k then 3 else if a = v then 4 else if a = q then 5 else 0) = 0 := fun a ha => by
    rw [if_neg fun h => q3 a ha a (List.mem_append_left _ h) rfl, if_neg fun h => q3 a ha a (List.mem_append_right _ (List.mem_append_left _ h)) rfl]
    have : ∀ c ∈ [e, f, k, v, q], a ≠ c := fun c hc => q3 a ha c (List.mem_append_right _ (List.mem_append_right _ hc))
    rw [if_neg (this e (by simp)), if_neg (this f (by simp)), if_neg (this k (by simp)), if_neg (this v (by simp)), if_neg (this q (by simp))]
  have zl : ∀ c ∈ [e, f, k, v, q], c ∉ b.B :: b.dB :: b.own ∧ c ∉ u.U :: u.dU :: u.own := fun c hc =>
    ⟨fun h => q6 c h c (List.mem_append_right _ hc) rfl, fun h => q9 c h c hc rfl⟩
  have ze := zl e (by simp)
  have zf := zl f (by simp)
  have zk := zl k (by simp)
  have zv := zl v (by simp)
  have zq := zl q (by simp)
  refine ⟨z0 x (by simp), z0 d (by simp), ?_, ?_, ?_, ?_, ?_, fun y hy => if_pos hy, fun y hy => ?_, fun y hy => (nomatch hy), List.nodup_nil⟩
  · rw [if_neg ze.1, if_neg ze.2, if_pos rfl]
  · rw [if_neg zf.1, if_neg zf.2, if_neg (Ne.symm e1), if_pos rfl]
  · rw [if_neg zk.1, if_neg zk.2, if_neg (Ne.symm e2), if_neg (Ne.symm f1), if_pos rfl]
  · rw [if_neg zv.1, if_neg zv.2, if_neg (Ne.symm e3), if_neg (Ne.symm f2), if_neg (Ne.symm k1), if_pos rfl]
  · rw [if_neg zq.1, if_neg zq.2, if_neg (Ne.symm e4), if_neg (Ne.symm f3), if_neg (Ne.symm k2), if_neg (Ne.symm v1), if_pos rfl]
  · rw [if_neg fun h => q6 y h y (List.mem_append_left _ hy) rfl, if_pos hy]
theorem ok0 {a : HA} (hu : a.u.lots = []) (told : Nat) : OkH a ⟨[], ⟨[], [], 0⟩, [], [], [], [], [], 0, 0⟩ id told := by
  refine ⟨⟨⟨by rw [hu], rfl, Nat.zero_le _⟩, ⟨fun j hj => absurd hj (Nat.not_lt_zero _), fun j hj => absurd hj (Nat.not_lt_zero _)⟩, rfl, fun k hk => (nomatch hk)⟩, Nat.zero_le _, fun i l hl => by simp at hl, fun j hj => absurd hj (Nat.not_lt_zero _), fun p hp => (nomatch hp), fun c => ?_, List.nodup_nil, fun x hx => (nomatch hx), Nat.zero_le _, fun x hx => (nomatch hx), Nat.zero_le _, Nat.zero_le _, Nat.le_refl _, Nat.le_refl _, rfl, rfl⟩
  simp
end
section
variable {w : World} {A : Around} {g h : PySem.Heap} {L : Addr} {m mg mb : PySem.Str → Option Value} {s : Shared} {news news' : List (Addr × Obj)} {p : Program} {loose : List PySem.Str} {E : Value → Shared → Prop}
set_option maxHeartbeats 8000000 in
theorem mkH_ok {Q : Value → Shared → Prop}
   (F : Fr g L s.heap m) (N : News g L s.heap news) (X : (hd.heap_39 w.params).In g) (T : TopRead p loose mg mb g) (hr : RoomOk A 4)
   (h : ∀ s' a news', Sm s s' → Fr g L s'.heap m → News g L s'.heap news' → RepH w news' a ⟨[], ⟨[], [], 0⟩, [], [], [], [], [], 0, 0⟩ → (∀ told, OkH a ⟨[], ⟨[], [], 0⟩, [], [], [], [], [], 0, 0⟩ id told) → (∀ q ∈ news, q ∈ news') → (∀ x ∈ a.fix ++ a.own [], ∀ q ∈ news, q.1 ≠ x) → Q (.ref a.H) s') :
   wpAny (model P w) A (call (.ref 471) []) Q E s := by
  refine bdM (fun x => [("self", .ref x)]) ?_
  (refine' callMk ?zF ?zN ?zX ?zT ?zR ?km ?ki ?kf ?k6 ?k7 ?k9 ?kB ?_ ?c5 ?c2 ?c3 ?c4; (case zF | zN | zX | zR => assumption); (case zT => apply TopRead.nolimit; assumption); (case km | ki | kf | k6 | k7 => k_is); (case k9 | kB => intro x; exact rfl); (case c5 => decide); (case c2 | c3 | c4 => rfl); intro xO dO g' L' h' tk' stay X' hr' F' N' ltD ltX)
  have T' := T.keeps stay
  clear X T F N
  have hxd : xO ≠ dO := Nat.ne_of_gt ltX
  have hx : (xO, instObj 471 dO) ∈ (xO, instObj 471 dO) :: (dO, dictOf [] 0) :: news := .head _
  have hdd : (dO, dictOf [] 0) ∈ (xO, instObj 471 dO) :: (dO, dictOf [] 0) :: news := .tail _ (.head _)
  repeat' ((fail_if_success guard_target = wpAny _ _ (exec (Stmt.While _ _ _ _) _) _ _ _); (fail_if_success guard_target = wpAny _ _ (exec (Stmt.For _ _ _ _ _) _) _ _ _); walk_at "mine")
  refine mkB_ok (by assumption) (by assumption) X' T' hr' fun s1 b news1 sm1 F1 N1 sub1 hb f1 => ?_
  have hx1 := sub1 _ hx
  have hd1 := sub1 _ hdd
  clear F' N'
  repeat' ((fail_if_success guard_target = wpAny _ _ (exec (Stmt.While _ _ _ _) _) _ _ _); (fail_if_success guard_target = wpAny _ _ (exec (Stmt.For _ _ _ _ _) _) _ _ _); walk_at "mine")
  (refine' rl_setAttr ?zF ?zX ?zN ?zx ?zd ?zs ?zp ?zt ?zh ?zl ?ze ?zz ?_; (case zF | zX | zN => k_asm); (case zx | zd => k_mem); (case zs | zp | zt | zh => k_is); (case zl => k_get); (case ze => k_put); (case zz => exact Nat.le_of_ble_eq_true rfl); intro hW FW NW)
  clear F1
  repeat' ((fail_if_success guard_target = wpAny _ _ (exec (Stmt.While _ _ _ _) _) _ _ _); (fail_if_success guard_target = wpAny _ _ (exec (Stmt.For _ _ _ _ _) _) _ _ _); walk_at "mine")
  refine mkU_ok (by assumption) (by assumption) X' T' hr' fun s3 u news3 sm3 F3 N3 sub3 hu hul f3 => ?_
  have N2 := NW
  clear FW
  have hx3 := sub3 _ (upd_ne hx1 hxd)
  have hd3 := sub3 _ (upd_self hd1)
  clear NW
  repeat' ((fail_if_success guard_target = wpAny _ _ (exec (Stmt.While _ _ _ _) _) _ _ _); (fail_if_success guard_target = wpAny _ _ (exec (Stmt.For _ _ _ _ _) _) _ _ _); walk_at "mine")
  (refine' rl_setAttr ?zF ?zX ?zN ?zx ?zd ?zs ?zp ?zt ?zh ?zl ?ze ?zz ?_; (case zF | zX | zN => k_asm); (case zx | zd => k_mem); (case zs | zp | zt | zh => k_is); (case zl => k_get); (case ze => k_put); (case zz => exact Nat.le_of_ble_eq_true rfl); intro hW FW NW)
  have hnd : ∀ q ∈ news, q.1 ≠ dO := fun q hq => Nat.ne_of_lt (ltD q hq)
  have hnx : ∀ q ∈ news, q.1 ≠ xO := fun q hq => Nat.ne_of_lt (Nat.lt_trans (ltD q hq) ltX)
  refine hide fun G0 hG0 => ?_
  obtain ⟨news4, N4, R4, sub4⟩ := RepM.gen NW (RepM.start N1 N3 hx hdd hxd sub1 hb f1 N2 sub3 hu f3 NW) (news0 := news) fun q hq => upd_ne (sub3 _ (upd_ne (sub1 q (.tail _ (.tail _ hq))) (hnd q hq))) (hnd q hq)
  refine hG0 ?_
  try clear hG0 G0
  replace f3 : ∀ y ∈ u.U :: u.dU :: u.own, ∀ q ∈ news, q.1 ≠ y := fun y hy q hq => f3 y hy q (upd_ne (sub1 q (.tail _ (.tail _ hq))) (hnd q hq))
  clear N1 N2 N3 hx hdd hx1 hd1 hx3 hd3 NW F3
  clear hb hu sub3 sub1
  repeat' ((fail_if_success guard_target = wpAny _ _ (exec (Stmt.While _ _ _ _) _) _ _ _); (fail_if_success guard_target = wpAny _ _ (exec (Stmt.For _ _ _ _ _) _) _ _ _); walk_at "mine")
  have R4n := R4.new (o := lo [] 0) ltW
  have sub4n : ∀ q ∈ news, q ∈ (DW, Mine.lo [] 0) :: news4 := fun q hq => .tail _ (sub4 q hq)
  have fr4 : ∀ q ∈ news, q.1 ≠ DW := fun q hq => Nat.ne_of_lt (ltW q (sub4 q hq))
  generalize DW = D4 at *
  have hx4 := R4n.hx
  have hd4 := R4n.hd
  have NB4 := NW
  clear ltW
  (refine' rl_setAttr ?zF ?zX ?zN ?zx ?zd ?zs ?zp ?zt ?zh ?zl ?ze ?zz ?_; (case zF | zX | zN => k_asm); (case zx | zd => k_mem); (case zs | zp | zt | zh => k_is); (case zl => k_get); (case ze => k_put); (case zz => exact Nat.le_of_ble_eq_true rfl); intro hW FW NW)
  refine hide fun G0 hG0 => ?_
  obtain ⟨news5, N5, R5, sub5⟩ := RepM.gen NW (R4n.set NB4 NW) (news0 := news) fun q hq => upd_ne (sub4n q hq) (hnd q hq)
  refine hG0 ?_
  try clear hG0 G0
  clear NW NB4 N4 R4 R4n sub4 sub4n hx4 hd4
  repeat' ((fail_if_success guard_target = wpAny _ _ (exec (Stmt.While _ _ _ _) _) _ _ _); (fail_if_success guard_target = wpAny _ _ (exec (Stmt.For _ _ _ _ _) _) _ _ _); walk_at "mine")
  have R5n := R5.new (o := lo [] 0) ltW
  have sub5n : ∀ q ∈ news, q ∈ (DW, Mine.lo [] 0) :: news5 := fun q hq => .tail _ (sub5 q hq)
  have fr5 : ∀ q ∈ news, q.1 ≠ DW := fun q hq => Nat.ne_of_lt (ltW q (sub5 q hq))
  generalize DW = D5 at *
  have hx5 := R5n.hx
  have hd5 := R5n.hd
  have NB5 := NW
  clear ltW
  (refine' rl_setAttr ?zF ?zX ?zN ?zx ?zd ?zs ?zp ?zt ?zh ?zl ?ze ?zz ?_; (case zF | zX | zN => k_asm); (case zx | zd => k_mem); (case zs | zp | zt | zh => k_is); (case zl => k_get); (case ze => k_put); (case zz => exact Nat.le_of_ble_eq_true rfl); intro hW FW NW)
  refine hide fun G0 hG0 => ?_
  obtain ⟨news6, N6, R6, sub6⟩ := RepM.gen NW (R5n.set NB5 NW) (news0 := news) fun q hq => upd_ne (sub5n q hq) (hnd q hq)
  refine hG0 ?_
  try clear hG0 G0
  clear NW NB5 N5 R5 R5n sub5 sub5n hx5 hd5
  repeat' ((fail_if_success guard_target = wpAny _ _ (exec (Stmt.While _ _ _ _) _) _ _ _); (fail_if_success guard_target = wpAny _ _ (exec (Stmt.For _ _ _ _ _) _) _ _ _); walk_at "mine")
  have R6n := R6.new (o := oW) ltW
  have sub6n : ∀ q ∈ news, q ∈ (DW, oW) :: news6 := fun q hq => .tail _ (sub6 q hq)
  have fr6 : ∀ q ∈ news, q.1 ≠ DW := fun q hq => Nat.ne_of_lt (ltW q (sub6 q hq))
  have lo6 := loW
  have di6 := diW
  generalize oW = o6 at *
  generalize DW = D6 at *
  have hx6 := R6n.hx
  have hd6 := R6n.hd
  have NB6 := NW
  clear ltW
  (refine' rl_setAttr ?zF ?zX ?zN ?zx ?zd ?zs ?zp ?zt ?zh ?zl ?ze ?zz ?_; (case zF | zX | zN => k_asm); (case zx | zd => k_mem); (case zs | zp | zt | zh => k_is); (case zl => k_get); (case ze => k_put); (case zz => exact Nat.le_of_ble_eq_true rfl); intro hW FW NW)
  refine hide fun G0 hG0 => ?_
  obtain ⟨news7, N7, R7, sub7⟩ := RepM.gen NW (R6n.set NB6 NW) (news0 := news) fun q hq => upd_ne (sub6n q hq) (hnd q hq)
  refine hG0 ?_
  try clear hG0 G0
  clear NW NB6 N6 R6 R6n sub6 sub6n hx6 hd6
  repeat' ((fail_if_success guard_target = wpAny _ _ (exec (Stmt.While _ _ _ _) _) _ _ _); (fail_if_success guard_target = wpAny _ _ (exec (Stmt.For _ _ _ _ _) _) _ _ _); walk_at "mine")
  have R7n := R7.new (o := oW) ltW
  have sub7n : ∀ q ∈ news, q ∈ (DW, oW) :: news7 := fun q hq => .tail _ (sub7 q hq)
  have fr7 : ∀ q ∈ news, q.1 ≠ DW := fun q hq => Nat.ne_of_lt (ltW q (sub7 q hq))
  have lo7 := loW
  have di7 := diW
  generalize oW = o7 at *
  generalize DW = D7 at *
  have hx7 := R7n.hx
  have hd7 := R7n.hd
  have NB7 := NW
  clear ltW
  (refine' rl_setAttr ?zF ?zX ?zN ?zx ?zd ?zs ?zp ?zt ?zh ?zl ?ze ?zz ?_; (case zF | zX | zN => k_asm); (case zx | zd => k_mem); (case zs | zp | zt | zh => k_is); (case zl => k_get); (case ze => k_put); (case zz => exact Nat.le_of_ble_eq_true rfl); intro hW FW NW)
  refine hide fun G0 hG0 => ?_
  obtain ⟨news8, N8, R8, sub8⟩ := RepM.gen NW (R7n.set NB7 NW) (news0 := news) fun q hq => upd_ne (sub7n q hq) (hnd q hq)
  refine hG0 ?_
  try clear hG0 G0
  clear NW NB7 N7 R7 R7n sub7 sub7n hx7 hd7
  repeat' ((fail_if_success guard_target = wpAny _ _ (exec (Stmt.While _ _ _ _) _) _ _ _); (fail_if_success guard_target = wpAny _ _ (exec (Stmt.For _ _ _ _ _) _) _ _ _); walk_at "mine")
  have R8n := R8.new (o := lo [] 0) ltW
  have sub8n : ∀ q ∈ news, q ∈ (DW, Mine.lo [] 0) :: news8 := fun q hq => .tail _ (sub8 q hq)
  have fr8 : ∀ q ∈ news, q.1 ≠ DW := fun q hq => Nat.ne_of_lt (ltW q (sub8 q hq))
  generalize DW = D8 at *
  have hx8 := R8n.hx
  have hd8 := R8n.hd
  have NB8 := NW
  clear ltW
  (refine' rl_setAttr ?zF ?zX ?zN ?zx ?zd ?zs ?zp ?zt ?zh ?zl ?ze ?zz ?_; (case zF | zX | zN => k_asm); (case zx | zd => k_mem); (case zs | zp | zt | zh => k_is); (case zl => k_get); (case ze => k_put); (case zz => exact Nat.le_of_ble_eq_true rfl); intro hW FW NW)
  refine hide fun G0 hG0 => ?_
  obtain ⟨news9, N9, R9, sub9⟩ := RepM.gen NW (R8n.set NB8 NW) (news0 := news) fun q hq => upd_ne (sub8n q hq) (hnd q hq)
  refine hG0 ?_
  try clear hG0 G0
  clear NW NB8 N8 R8 R8n sub8 sub8n hx8 hd8
  have hx9 := R9.hx
  have hd9 := R9.hd
  repeat' ((fail_if_success guard_target = wpAny _ _ (exec (Stmt.While _ _ _ _) _) _ _ _); (fail_if_success guard_target = wpAny _ _ (exec (Stmt.For _ _ _ _ _) _) _ _ _); walk_at "mine")
  (refine' rl_setAttr ?zF ?zX ?zN ?zx ?zd ?zs ?zp ?zt ?zh ?zl ?ze ?zz ?_; (case zF | zX | zN => k_asm); (case zx | zd => k_mem); (case zs | zp | zt | zh => k_is); (case zl => k_get); (case ze => k_put); (case zz => exact Nat.le_of_ble_eq_true rfl); intro hW FW NW)
  refine hide fun G0 hG0 => ?_
  obtain ⟨newsA, NA, RA, subA⟩ := RepM.gen NW (R9.set N9 NW) (news0 := news) fun q hq => upd_ne (sub9 q hq) (hnd q hq)
  refine hG0 ?_
  try clear hG0 G0
  repeat' ((fail_if_success guard_target = wpAny _ _ (exec (Stmt.While _ _ _ _) _) _ _ _); (fail_if_success guard_target = wpAny _ _ (exec (Stmt.For _ _ _ _ _) _) _ _ _); walk_at "mine")
  have R := RA.done di6 di7 lo6 lo7
  refine lv_next FW NA fun Fx Nx => ⟨rfl, h _ ⟨xO, dO, D4, D5, D6, D7, D8, b, u⟩ _ ⟨sm3.1.trans sm1.1, sm3.2.trans sm1.2⟩ Fx Nx R (fun told => ok0 hul told) subA fun x hx q hq => ?_⟩
  rcases List.mem_append.mp hx with hx | hx
  · exact (List.forall_mem_cons.mpr ⟨hnx q hq, List.forall_mem_cons.mpr ⟨hnd q hq, List.forall_mem_cons.mpr ⟨f1 _ (.head _) q (.tail _ (.tail _ hq)), List.forall_mem_cons.mpr ⟨f1 _ (.tail _ (.head _)) q (.tail _ (.tail _ hq)), List.forall_mem_cons.mpr ⟨f3 _ (.head _) q hq, List.forall_mem_cons.mpr ⟨f3 _ (.tail _ (.head _)) q hq, fun _ h => nomatch h⟩⟩⟩⟩⟩⟩ : ∀ x ∈ [xO, dO, b.B, b.dB, u.U, u.dU], q.1 ≠ x) x hx
  · exact (List.forall_mem_cons.mpr ⟨fr4 q hq, List.forall_mem_cons.mpr ⟨fr5 q hq, List.forall_mem_cons.mpr ⟨fr6 q hq, List.forall_mem_cons.mpr ⟨fr7 q hq, List.forall_mem_cons.mpr ⟨fr8 q hq, fun x hx => (List.mem_append.mp hx).elim (fun hx => (List.mem_append.mp hx).elim (fun hx => f1 x (.tail _ (.tail _ hx)) q (.tail _ (.tail _ hq))) fun hx => f3 x (.tail _ (.tail _ hx)) q hq) fun h => nomatch h⟩⟩⟩⟩⟩ : ∀ x ∈ D4 :: D5 :: D6 :: D7 :: D8 :: (b.own ++ u.own ++ []), q.1 ≠ x) x hx
end
/-- the belt -/
inductive HdT (w : World) (news : List (Addr × Obj)) (B Rw : Addr) (ix : Nat) : Prop
  | mk (o : Obj) (t : Tok) (h : (B, o) ∈ news) (d : o.IsDictOf (PySem.strKind P w) [((PySem.Str.ofString "row"), .ref Rw), (PySem.Str.ofString "at", .int (ix : Int) t)]) : HdT w news B Rw ix
structure RepT (w : World) (news : List (Addr × Obj)) (B Rw : Addr) (row : List Nat) (ix : Nat) : Prop where
  hd : HdT w news B Rw ix
  lo : (B == sysModules) = false
  hr : LsI news Rw row
  ne : Rw ≠ B
section
variable {w : World} {A : Around} {g h : PySem.Heap} {L B Rw : Addr} {m mg mb : PySem.Str → Option Value} {s : Shared} {news news' : List (Addr × Obj)} {p : Program} {loose : List PySem.Str} {E : Value → Shared → Prop} {row : List Nat} {ix : Nat} {o : Obj} {kvs : List (PySem.Str × Value)} {k : PySem.Str} {t : Tok} {v : Value}
theorem RepT.mono (R : RepT w news B Rw row ix) (hs : ∀ q ∈ news, q ∈ news') : RepT w news' B Rw row ix :=
  ⟨let ⟨o, t, a, b⟩ := R.hd; ⟨o, t, hs _ a, b⟩, R.lo, let ⟨us, n, a, b⟩ := R.hr; ⟨us, n, hs _ a, b⟩, R.ne⟩
theorem fmod_nat {k : Nat} (x : Int) (hk : 0 < k) : ∃ v : Nat, v < k ∧ x.fmod (k : Int) = (v : Int) := by
  have h1 : 0 ≤ x.fmod (k : Int) := Int.fmod_nonneg_of_pos x (by lia)
  have h2 : x.fmod (k : Int) < (k : Int) := Int.fmod_lt_of_pos x (by lia)
  exact ⟨(x.fmod (k : Int)).toNat, by lia, by lia⟩
theorem rs_item {value slice : PySem.Expr} {Q : Value → Shared → Prop} (N : News g L s.heap news) (hm : (B, o) ∈ news) (hd : o.IsDictOf (PySem.strKind P w) kvs) (hl : valueAt kvs k = some v) (h : Q v { s with toks := s.toks + 1 })
    (hs : subscripted slice false (.ref B) (.str k t) = operate [.ref B, .str k t] (getItem (.ref B) (.str k t)) := by with_unfolding_all rfl) (hg : ∀ r, letTemporaryGo value (.ref B) r = pure () := by intro _; with_unfolding_all rfl) :
    wpAny (model P w) A (subscriptTail value slice (.ref B) (.str k t)) Q E s :=
  kda_item (knd := PySem.strKind P w) (k := k) N hm hd (strKind_is _ _ _ _) hl h hs hg
theorem rs_row {value slice : PySem.Expr} {Q : Value → Shared → Prop} (N : News g L s.heap news) (hm : (B, o) ∈ news) (hd : o.IsDictOf (PySem.strKind P w) [(PySem.Str.ofString "row", .ref Rw), (PySem.Str.ofString "at", v)]) (h : Q (.ref Rw) { s with toks := s.toks + 1 })
    (hs : subscripted slice false (.ref B) (.str (PySem.Str.ofString "row") t) = operate [.ref B, .str (PySem.Str.ofString "row") t] (getItem (.ref B) (.str (PySem.Str.ofString "row") t)) := by with_unfolding_all rfl) (hg : ∀ r, letTemporaryGo value (.ref B) r = pure () := by intro _; with_unfolding_all rfl) :
    wpAny (model P w) A (subscriptTail value slice (.ref B) (.str (PySem.Str.ofString "row") t)) Q E s := rs_item N hm hd (v := .ref Rw) rfl h hs hg
theorem rs_at {value slice : PySem.Expr} {u : Value} {Q : Value → Shared → Prop} (N : News g L s.heap news) (hm : (B, o) ∈ news) (hd : o.IsDictOf (PySem.strKind P w) [(PySem.Str.ofString "row", u), (PySem.Str.ofString "at", v)]) (h : Q v { s with toks := s.toks + 1 })
    (hs : subscripted slice false (.ref B) (.str (PySem.Str.ofString "at") t) = operate [.ref B, .str (PySem.Str.ofString "at") t] (getItem (.ref B) (.str (PySem.Str.ofString "at") t)) := by with_unfolding_all rfl) (hg : ∀ r, letTemporaryGo value (.ref B) r = pure () := by intro _; with_unfolding_all rfl) :
    wpAny (model P w) A (subscriptTail value slice (.ref B) (.str (PySem.Str.ofString "at") t)) Q E s := rs_item N hm hd (v := v) rfl h hs hg
theorem rs_set {Q : Unit → Shared → Prop} (F : Fr g L s.heap m) (N : News g L s.heap news) (hm : (B, o) ∈ news) (hd : o.IsDictOf (PySem.strKind P w) kvs) (hz : kvs.length ≤ 1000)
    (h : ∀ o' h', Fr g L h' m → News g L h' (upd B o' news) → o'.IsDictOf (PySem.strKind P w) (stored kvs k v) → Q () { s with heap := h', toks := s.toks + 1 }) : wpAny (model P w) A (setItem (.ref B) (.str k t) v) Q E s := by
  refine kda_set (knd := PySem.strKind P w) (k := k) F (oth_news N hm) (UpdF.head oth_ne) hd (strKind_is _ _ _ _) (by rw [sizeLine_eq]; lia) fun h' o' F' N' hd' => ?_
  exact h o' h' F' (oth_back N') hd'
end
section
variable {w : World} {A : Around} {g h : PySem.Heap} {L B Rw : Addr} {m mg mb : PySem.Str → Option Value} {s : Shared} {news news' : List (Addr × Obj)} {p : Program} {loose : List PySem.Str} {E : Value → Shared → Prop} {row : List Nat} {ix : Nat} {o : Obj} {kvs : List (PySem.Str × Value)} {k : PySem.Str} {t : Tok} {v : Value}
set_option maxHeartbeats 8000000 in
theorem scan_ok {k : Nat} {tk : Tok} {Q : Value → Shared → Prop}
   (F : Fr g L s.heap m) (N : News g L s.heap news) (X : (hd.heap_39 w.params).In g) (T : TopRead p loose mg mb g) (hr : RoomOk A 1)
   (R : RepT w news B Rw row ix) (hrow : row.length ≤ 100) (hix : ix ≤ 200) (hk : 0 < k) (hkz : k ≤ 16)
   (h : ∀ (v : Nat) t s' news', v < k → Sm s s' → Fr g L s'.heap m → News g L s'.heap news' → RepT w news' B Rw row (ix + 1) → Ch [B] [B] news news' → Q (.int (v : Int) t) s') :
   wpAny (model P w) A (call (.ref 482) [.ref B, .int (k : Int) tk]) Q E s := by
  refine bd [("belt", .ref B), ("many", .int (k : Int) tk)] ?_
  (refine' callP ?zF ?zN ?zX ?zT ?zR ?k6 ?k7 ?k9 ?kB ?_ ?c5 ?c2 ?c3 ?c4; (case zF | zN | zX | zR => assumption); (case zT => apply TopRead.nolimit; assumption); (case k6 | k7 => k_is); (case k9 | kB | c2 | c3 | c4 => exact rfl); (case c5 => decide); intros)
  rename_i g' L' h' stay X' hr' F' N'
  have T' := T.keeps stay
  obtain ⟨o, t, hB, dB⟩ := R.hd
  have loB := R.lo
  clear X T F N
  repeat' (first | (guard_target = wpAny _ _ (subscriptTail _ _ (Value.ref _) (Value.str (PySem.Str.ofString "row") _)) _ _ _; refine' rs_row ?zN ?zm ?zd ?_ ?zh1 ?zh2; walk_at "ah") | (guard_target = wpAny _ _ (subscriptTail _ _ (Value.ref _) (Value.str (PySem.Str.ofString "at") _)) _ _ _; refine' rs_at ?zN ?zm ?zd ?_ ?zh1 ?zh2; walk_at "ah") | ((fail_if_success guard_target = wpAny _ _ (exec (Stmt.While _ _ _ _) _) _ _ _); (fail_if_success guard_target = wpAny _ _ (exec (Stmt.For _ _ _ _ _) _) _ _ _); walk_at "mine"))
  refine rs_set (by assumption) (by assumption) hB dB (by simp) fun o3 h3 F3 N3 d3 => ?_
  have d3' : Obj.IsDictOf (PySem.strKind P w) o3 [(PySem.Str.ofString "row", .ref Rw), (PySem.Str.ofString "at", .int ((ix : Int) + 1) _)] := d3
  obtain ⟨us, n, hR, hi⟩ := R.hr
  have hR3 := upd_ne (o := o3) hR R.ne
  have hB3 : (B, o3) ∈ upd B o3 news := upd_self hB
  have C3 : Ch [B] [B] news (upd B o3 news) := Ch.upd (by simp)
  have R3 : RepT w (upd B o3 news) B Rw row (ix + 1) := ⟨⟨o3, _, hB3, by
    have e : ((ix + 1 : Nat) : Int) = (ix : Int) + 1 := by lia
    rw [e]; exact d3'⟩, loB, ⟨us, n, hR3, hi⟩, R.ne⟩
  have hul := IntsAre.len hi
  have hzu : us.length ≤ 100000 := by lia
  have hzr : row.length ≤ 1000 := by lia
  clear d3 hB dB hR
  generalize upd B o3 news = news3 at *
  have hq : ∀ (x : Int) t s', Sm s s' → Fr g L s'.heap m → News g L s'.heap news3 → Q (.int (x.fmod (k : Int)) t) s' := fun x t s' sm Fx Nx => by
    refine hide fun G0 hG0 => ?_
    obtain ⟨v, hv, e⟩ := fmod_nat x hk
    refine hG0 ?_
    try clear hG0 G0
    rw [e]
    exact h v t s' news3 hv sm Fx Nx R3 C3
  by_cases hlt : ix < row.length
  · have hget : row[ix]? = some (row[ix]'hlt) := List.getElem?_eq_getElem hlt
    generalize row[ix]'hlt = c at *
    repeat' (first | (guard_target = wpAny _ _ (subscriptTail _ _ (Value.ref _) (Value.str (PySem.Str.ofString "row") _)) _ _ _; refine' rs_row ?zN ?zm ?zd ?_ ?zh1 ?zh2; walk_at "ah") | (guard_target = wpAny _ _ (subscriptTail _ _ (Value.ref _) (Value.str (PySem.Str.ofString "at") _)) _ _ _; refine' rs_at ?zN ?zm ?zd ?_ ?zh1 ?zh2; walk_at "ah") | ((fail_if_success guard_target = wpAny _ _ (exec (Stmt.While _ _ _ _) _) _ _ _); (fail_if_success guard_target = wpAny _ _ (exec (Stmt.For _ _ _ _ _) _) _ _ _); walk_at "mine"))
    exact lv_ret (by assumption) (by assumption) fun F9 N9 => hq _ _ _ ⟨rfl, rfl⟩ F9 N9
  · repeat' (first | (guard_target = wpAny _ _ (subscriptTail _ _ (Value.ref _) (Value.str (PySem.Str.ofString "row") _)) _ _ _; refine' rs_row ?zN ?zm ?zd ?_ ?zh1 ?zh2; walk_at "ah") | (guard_target = wpAny _ _ (subscriptTail _ _ (Value.ref _) (Value.str (PySem.Str.ofString "at") _)) _ _ _; refine' rs_at ?zN ?zm ?zd ?_ ?zh1 ?zh2; walk_at "ah") | ((fail_if_success guard_target = wpAny _ _ (exec (Stmt.While _ _ _ _) _) _ _ _); (fail_if_success guard_target = wpAny _ _ (exec (Stmt.For _ _ _ _ _) _) _ _ _); walk_at "mine"))
    exact lv_ret (by assumption) (by assumption) fun F9 N9 => hq _ _ _ ⟨rfl, rfl⟩ F9 N9
end
/-- the law's state: the heap and the belt, apart -/
structure LS (w : World) (news : List (Addr × Obj)) (a : HA) (S : HS) (B Rw : Addr) (row : List Nat) (ix : Nat) : Prop where
  rh : RepH w news a S
  bt : RepT w news B Rw row ix
  sepB : B ∉ a.fix ++ a.own S.ab
  sepR : Rw ∉ a.fix ++ a.own S.ab
section
variable {w : World} {g h : PySem.Heap} {L B Rw : Addr} {news news' : List (Addr × Obj)} {row : List Nat} {ix ix' : Nat} {a a' : HA} {S S' : HS} {X : List Addr}
theorem RepH.keep (R : RepH w news a S) (K : Kp X news news') (h : ∀ x ∈ a.fix ++ a.own S.ab, x ∉ X) : RepH w news' a S := by
  have hf : ∀ x ∈ a.fix, x ∉ X := fun x hx => h x (List.mem_append_left _ hx)
  have ho : ∀ x ∈ a.own S.ab, x ∉ X := fun x hx => h x (List.mem_append_right _ hx)
  have hB : ∀ x ∈ a.b.B :: a.b.dB :: a.b.own, x ∉ X := fun x hx => by
    simp only [List.mem_cons] at hx
    rcases hx with rfl | rfl | hx
    · exact hf _ (by simp [HA.fix])
    · exact hf _ (by simp [HA.fix])
    · exact ho _ (by simp [HA.own, hx])
  have hU : ∀ x ∈ a.u.U :: a.u.dU :: a.u.own, x ∉ X := fun x hx => by
    simp only [List.mem_cons] at hx
    rcases hx with rfl | rfl | hx
    · exact hf _ (by simp [HA.fix])
    · exact hf _ (by simp [HA.fix])
    · exact ho _ (by simp [HA.own, hx])
  have H := R.hx
  refine ⟨R.rc.keep K (hf _ (by simp [HA.fix])) (hf _ (by simp [HA.fix])) (R.rc.rb.keep K hB) (R.rc.ru.keep K.k hU), R.bx.keep K hB, ⟨let ⟨p, q, c, d⟩ := H.he; ⟨p, q, K.k _ c (ho _ (by simp [HA.own])), d⟩, let ⟨p, q, c, d⟩ := H.hf; ⟨p, q, K.k _ c (ho _ (by simp [HA.own])), d⟩,
    let ⟨o, c, d⟩ := H.hk; ⟨o, K.k _ c (ho _ (by simp [HA.own])), d.mono fun _ _ _ hb => K.tu hb⟩, let ⟨o, c, d⟩ := H.hv; ⟨o, K.k _ c (ho _ (by simp [HA.own])), d⟩, fun x hx => let ⟨p, q, c, d⟩ := H.hl x hx; ⟨p, q, K.k _ c (ho _ ?_), d⟩,
    let ⟨p, q, c, d⟩ := H.hq; ⟨p, q, K.k _ c (ho _ (by simp [HA.own])), d⟩, H.lk, H.lv⟩, R.rol⟩
  have : x.2.1 ∈ S.ab.map (·.2.1) := List.mem_map.mpr ⟨x, hx, rfl⟩
  unfold HA.own
  simp only [List.mem_cons, List.mem_append]
  exact .inr (.inr (.inr (.inr (.inr (.inr this)))))
theorem LS.mono (R : LS w news a S B Rw row ix) (hs : ∀ q ∈ news, q ∈ news') : LS w news' a S B Rw row ix := ⟨R.rh.mono hs, R.bt.mono hs, R.sepB, R.sepR⟩
theorem RepT.noB (N : News g L h news) (R : RepT w news B Rw row ix) (us : List Value) (n : Nat) : (B, tu us n) ∉ news := by
  obtain ⟨o, t, hm, d⟩ := R.hd
  obtain ⟨_, _, q, _⟩ := d
  exact no_tu N hm (by rw [q.1]; simp) us n
/-- the belt has gone on -/
theorem LS.scanned (N : News g L h news) (R : LS w news a S B Rw row ix) (C : Ch [B] [B] news news') (R' : RepT w news' B Rw row ix') : LS w news' a S B Rw row ix' :=
  ⟨R.rh.keep (X := [B]) ⟨C.keep, fun x hx us n => by rw [List.mem_singleton.mp hx]; exact R.bt.noB N us n⟩ fun x hx q => R.sepB (List.mem_singleton.mp q ▸ hx), R', R.sepB, R.sepR⟩
/-- the heap has changed -/
theorem LS.heaped (R : LS w news a S B Rw row ix) (C : Ch (a.own S.ab) (a'.own S'.ab) news news') (hf : a'.fix = a.fix) (R' : RepH w news' a' S') : LS w news' a' S' B Rw row ix := by
  obtain ⟨o, t, hm, d⟩ := R.bt.hd
  obtain ⟨us, n, hr, hi⟩ := R.bt.hr
  have hB := C.out (fun q => R.sepB (List.mem_append_right _ q)) hm
  have hR := C.out (fun q => R.sepR (List.mem_append_right _ q)) hr
  refine ⟨R', ⟨⟨o, t, hB.2, d⟩, R.bt.lo, ⟨us, n, hR.2, hi⟩, R.bt.ne⟩, fun q => ?_, fun q => ?_⟩
  · rw [hf] at q
    exact (List.mem_append.mp q).elim (fun q => R.sepB (List.mem_append_left _ q)) hB.1
  · rw [hf] at q
    exact (List.mem_append.mp q).elim (fun q => R.sepR (List.mem_append_left _ q)) hR.1
theorem Ch.belt (C : Ch [B] [B] news news') : Ch (B :: a.own S.ab) (B :: a.own S.ab) news news' :=
  ⟨fun p hp hn => C.keep p hp fun q => hn (by simp [List.mem_singleton.mp q]), fun _ hx => .inl hx⟩
theorem Ch.heap (C : Ch (a.own S.ab) (a'.own S'.ab) news news') : Ch (B :: a.own S.ab) (B :: a'.own S'.ab) news news' :=
  ⟨fun p hp hn => C.keep p hp fun q => hn (.tail _ q), fun x hx => by
    rcases List.mem_cons.mp hx with rfl | hx
    · exact .inl (.head _)
    · exact (C.fresh x hx).imp (.tail _) id⟩
theorem cback_ch {C : Addr} {ext news2 : List (Addr × Obj)} (N : News g C h news2) (hc : ∀ p ∈ ext, p ∈ news2) :
    ∃ newsX, News g C h (ext ++ newsX) ∧ (∀ p ∈ ext, ∀ q ∈ newsX, p.1 ≠ q.1) ∧ ∀ q ∈ news2, (∀ p ∈ ext, p.1 ≠ q.1) → q ∈ newsX := by
  refine ⟨news2.filter fun q => ext.all fun p => decide (p.1 ≠ q.1), fun q hq => ?_, fun p hp q hq => ?_, fun q hq hne => ?_⟩
  · rcases List.mem_append.mp hq with hq | hq
    · exact N q (hc q hq)
    · exact N q (List.mem_filter.mp hq).1
  · have := List.all_eq_true.mp (List.mem_filter.mp hq).2 p hp
    simpa using this
  · exact List.mem_filter.mpr ⟨hq, List.all_eq_true.mpr fun p hp => by simpa using hne p hp⟩
end
section
variable {w : World} {A : Around} {g h : PySem.Heap} {L B Rw : Addr} {m mg mb : PySem.Str → Option Value} {s : Shared} {news news' : List (Addr × Obj)} {p : Program} {loose : List PySem.Str} {E : Value → Shared → Prop} {row : List Nat} {ix : Nat} {a : HA} {S : HS} {rt : Nat → Nat} {told : Nat}
set_option maxHeartbeats 8000000 in
theorem added_ok {Q : Value → Shared → Prop}
   (F : Fr g L s.heap m) (N : News g L s.heap news) (X : (hd.heap_39 w.params).In g) (T : TopRead p loose mg mb g) (hr : RoomOk A 8)
   (R : LS w news a S B Rw row ix) (O : OkH a S rt told) (hto : told ≤ 500) (hn : S.nodes.length ≤ 9) (hpos : 0 < S.nodes.length) (hrow : row.length ≤ 100) (hix : ix ≤ 190)
   (h : ∀ s' (a' : HA) (S' : HS) rt' ix' news', Sm s s' → Fr g L s'.heap m → News g L s'.heap news' → LS w news' a' S' B Rw row ix' → OkH a' S' rt' told → ix' ≤ ix + 3 → a'.fix = a.fix → S.nodes.length ≤ S'.nodes.length → S'.nodes.length ≤ S.nodes.length + 1 →
      Ch (B :: a.own S.ab) (B :: a'.own S'.ab) news news' → Q .none s') :
   wpAny (model P w) A (call (.ref 487) [.ref B, .ref a.H]) Q E s := by
  refine bd [("belt", .ref B), ("heap", .ref a.H)] ?_
  (refine' callC ?zF ?zN ?zX ?zT ?zR ?k6 ?k7 ?k9 ?kB ?c5 ?_ ?c2 ?c3 ?c4; (case zF | zN | zX | zR => assumption); (case zT => apply TopRead.nolimit; assumption); (case k6 | k7 => k_is); (case k9 | kB | c2 | c3 | c4 => exact rfl); (case c5 => decide); intros)
  rename_i g' L' h' tk' cells stay X' hr' F' N' Y ltY
  refine hide fun G0 hG0 => ?_
  obtain ⟨oH, oB, rfl, hcH0, hcB0⟩ := CellsAre.two Y
  refine hG0 ?_
  try clear hG0 G0
  have hcB : oB.data = .cell (some (.ref B)) := hcB0
  have hcH : oH.data = .cell (some (.ref a.H)) := hcH0
  clear hcB0 hcH0 Y
  have T' := T.keeps stay
  replace N' : News g' L' h' ((L' + 1 + 1, oH) :: (L' + 1, oB) :: news) := N'
  have R0 := R.mono fun q hq => List.mem_cons_of_mem (L' + 1 + 1, oH) (List.mem_cons_of_mem (L' + 1, oB) hq)
  have hall : ∀ x ∈ B :: a.own S.ab, ∃ o, (x, o) ∈ news := fun x hx => by
    rcases List.mem_cons.mp hx with rfl | hx
    · obtain ⟨o, t, hm, _⟩ := R.bt.hd; exact ⟨o, hm⟩
    · obtain ⟨o, hm, _⟩ := R.rh.ownO x hx; exact ⟨o, hm⟩
  have hO1 : L' + 1 ∉ B :: a.own S.ab := fun q => by
    obtain ⟨o, ho⟩ := hall _ q
    exact Nat.lt_irrefl _ (Nat.lt_succ_of_lt (ltY _ ho))
  have hO2 : L' + 1 + 1 ∉ B :: a.own S.ab := fun q => by
    obtain ⟨o, ho⟩ := hall _ q
    exact Nat.lt_irrefl _ (Nat.lt_succ_of_lt (Nat.lt_succ_of_lt (ltY _ ho)))
  clear X T F N
  repeat' ((fail_if_success guard_target = wpAny _ _ (exec (Stmt.While _ _ _ _) _) _ _ _); (fail_if_success guard_target = wpAny _ _ (exec (Stmt.For _ _ _ _ _) _) _ _ _); walk_at "mine")
  refine scan_ok (k := 2) (by assumption) (by assumption) X' T' (hr'.less (by decide)) R0.bt hrow (by lia) (by decide) (by decide) fun v tv s1 news1 hv sm1 F1 N1 RT1 C1 => ?_
  have R1 := R0.scanned N' C1 RT1
  have K1 : Ch (B :: a.own S.ab) (B :: a.own S.ab) _ news1 := Ch.belt C1
  have hc1 := (K1.out hO1 (.tail _ (.head _))).2
  have hc2 := (K1.out hO2 (.head _)).2
  clear F' N' R0 RT1 C1
  have hH := R1.rh.rc.hH
  obtain ⟨t1, t2, t3, t4, t5, t6, t7, t8, t9, n', hdH⟩ := R1.rh.rc.hd
  repeat' ((fail_if_success guard_target = wpAny _ _ (exec (Stmt.While _ _ _ _) _) _ _ _); (fail_if_success guard_target = wpAny _ _ (exec (Stmt.For _ _ _ _ _) _) _ _ _); walk_at "mine")
  rename IsRange _ _ _ _ _ _ _ _ => hRg
  have ev : (1 : Int) + (v : Int) = ((1 + v : Nat) : Int) := by lia
  rw [ev] at hRg
  have hop : Op4 (Txt.item (PySem.Str.ofString "fg") (1 + (v : Int) - 1)) := by
    rcases (show v = 0 ∨ v = 1 by lia) with rfl | rfl
    · right; right; left; decide +kernel
    · right; right; right; decide +kernel
  have hb1 : L' + 1 ∉ [B] := fun q => hO1 (by rw [List.mem_singleton.mp q]; exact .head _)
  have hb2 : L' + 1 + 1 ∉ [B] := fun q => hO2 (by rw [List.mem_singleton.mp q]; exact .head _)
  have hnz := hn
  refine comp_walk (srcO := []) (by assumption) (by assumption) hr'.hh (n := 1 + v) (by lia) (by decide) rfl rfl (Src.range hRg (by lia)) (fun q hq => nomatch hq)
    (fun i ys news' => ∃ ix' ds, ix' ≤ ix + 1 + i ∧ LS w news' a S B Rw row ix' ∧ IntsAre ys (zs ds) ∧ ds.length = i ∧ (∀ d ∈ ds, d < S.nodes.length) ∧ Ch [B] [B] news1 news') ⟨ix + 1, [], by lia, R1, .nil, rfl, (fun d hd => nomatch hd), Ch.rfl⟩ ?t1 ?f1
  case t1 =>
    rintro j v' ys mC news' ext C s' hj hv' sm7 F7 hmC N7 hdis hsrc7 hJ0 Z Z0 hZ hZ0
    refine hide fun G0 hG0 => ?_
    obtain ⟨ix', ds, hix', R7, hys, hds, hdn, K7⟩ := hJ0
    refine hG0 ?_
    try clear hG0 G0
    have hcc2 : (L' + 1 + 1, oH) ∈ ext ++ news' := List.mem_append_right _ (K7.keep _ hc2 hb2)
    have hcc1 : (L' + 1, oB) ∈ ext ++ news' := List.mem_append_right _ (K7.keep _ hc1 hb1)
    have R7e := R7.mono fun q hq => List.mem_append_right ext hq
    clear hH hdH
    have hH := R7e.rh.rc.hH
    obtain ⟨t1, t2, t3, t4, t5, t6, t7, t8, t9, n', hdH⟩ := R7e.rh.rc.hd
    refine wpAny_tests_nil (ifT ?_)
    repeat' ((fail_if_success guard_target = wpAny _ _ (exec (Stmt.While _ _ _ _) _) _ _ _); (fail_if_success guard_target = wpAny _ _ (exec (Stmt.For _ _ _ _ _) _) _ _ _); walk_at "mine")
    refine hsize_ok (by assumption) (by assumption) X' T' (hr'.less (by decide)) R7e.rh.rc (by lia) fun t4 s4 sm4 F4 N4 => ?_
    repeat' ((fail_if_success guard_target = wpAny _ _ (exec (Stmt.While _ _ _ _) _) _ _ _); (fail_if_success guard_target = wpAny _ _ (exec (Stmt.For _ _ _ _ _) _) _ _ _); walk_at "mine")
    refine scan_ok (by assumption) (by assumption) X' T' (hr'.less (by decide)) R7e.bt hrow (by lia) hpos (by lia) fun v2 tv2 s5 news5 hv2 sm5 F5 N5 RT5 C5 => ?_
    refine hide fun G0 hG0 => ?_
    obtain ⟨oB7, tB7, hB7, _⟩ := R7.bt.hd
    obtain ⟨usR7, nR7, hR7, _⟩ := R7.bt.hr
    obtain ⟨newsX, NX, hdX, hX⟩ := cback_ch N5 fun p hp => C5.keep p (List.mem_append_left _ hp) fun q => hdis p hp _ hB7 (List.mem_singleton.mp q)
    refine hG0 ?_
    try clear hG0 G0
    have CX : Ch [B] [B] news' newsX := ⟨fun q hq hn => hX q (C5.keep q (List.mem_append_right _ hq) hn) fun p hp => hdis p hp q hq, fun _ hx => .inl hx⟩
    have RTX : RepT w newsX B Rw row (ix' + 1) := by
      refine hide fun G0 hG0 => ?_
      obtain ⟨o, t, ho, hdo⟩ := RT5.hd
      obtain ⟨us, n, hr, hi⟩ := RT5.hr
      refine hG0 ?_
      try clear hG0 G0
      exact ⟨⟨o, t, hX _ ho fun p hp => (hdis p hp _ hB7 : p.1 ≠ B), hdo⟩, RT5.lo, ⟨us, n, hX _ hr fun p hp => (hdis p hp _ hR7 : p.1 ≠ Rw), hi⟩, RT5.ne⟩
    have RX := R7.scanned (nsub N7 fun q hq => List.mem_append_right _ hq) CX RTX
    exact hZ _ _ ⟨⟨sm5.1.trans (sm4.1.trans sm7.1), sm5.2.trans (sm4.2.trans sm7.2)⟩, mC, newsX, F5, NX, hdX, (fun q hq => nomatch hq), ix' + 1, ds ++ [v2], by lia, RX, intsAre_append hys (intsAre_one _ _), by simp [hds], fun d hd => (List.mem_append.mp hd).elim (hdn d) fun q => by rw [List.mem_singleton.mp q]; exact hv2, K7.trans CX⟩
  case f1 =>
    rintro D8 c8 ys news8 s8 sm8 F8 N8 hD8 hlt8 ⟨ix', ds, hix', R8, hys, hds, hdn, K8⟩
    replace N8 : News g' L' s8.heap ((D8, lo ys c8) :: news8) := N8
    have hyl := IntsAre.len hys
    have hzy : ys.length ≤ 100000 := by lia
    clear hH hdH
    repeat' ((fail_if_success guard_target = wpAny _ _ (exec (Stmt.While _ _ _ _) _) _ _ _); (fail_if_success guard_target = wpAny _ _ (exec (Stmt.For _ _ _ _ _) _) _ _ _); walk_at "mine")
    have R9 := R8.mono fun q hq => List.mem_cons_of_mem (DW, Mine.tu ys 0) (List.mem_cons_of_mem (D8, lo ys c8) hq)
    refine add_ok (by assumption) (by assumption) X' T' (hr'.less (by decide)) R9.rh O hto hn hop (.head _) hys (by lia) hdn fun i ti s10 a10 S10 rt10 news10 hi10 sm10 F10 N10 R10 O10 e10 l10 u10 C10 => ?_
    repeat' ((fail_if_success guard_target = wpAny _ _ (exec (Stmt.While _ _ _ _) _) _ _ _); (fail_if_success guard_target = wpAny _ _ (exec (Stmt.For _ _ _ _ _) _) _ _ _); walk_at "mine")
    refine lv_next (by assumption) (by assumption) fun F9 N9 => h _ a10 S10 rt10 ix' news10 ⟨sm10.1.trans (sm8.1.trans sm1.1), sm10.2.trans (sm8.2.trans sm1.2)⟩ F9 N9 (R9.heaped C10 e10 R10) O10 (by lia) e10 l10 u10 ?_
    exact (((K1.tail0.tail0).trans (Ch.belt K8)).trans (Ch.more fun q hq => List.mem_cons_of_mem _ (List.mem_cons_of_mem _ hq))).trans (Ch.heap C10)
end
section
variable {w : World} {A : Around} {g h : PySem.Heap} {L B Rw : Addr} {m mg mb : PySem.Str → Option Value} {s : Shared} {news news' : List (Addr × Obj)} {p : Program} {loose : List PySem.Str} {E : Value → Shared → Prop} {row : List Nat} {ix : Nat} {a : HA} {S : HS} {rt : Nat → Nat} {told : Nat}
set_option maxHeartbeats 8000000 in
theorem told_ok {Q : Value → Shared → Prop}
   (F : Fr g L s.heap m) (N : News g L s.heap news) (X : (hd.heap_39 w.params).In g) (T : TopRead p loose mg mb g) (hr : RoomOk A 8)
   (R : LS w news a S B Rw row ix) (O : OkH a S rt told) (hto : told ≤ 500) (hpos : 0 < S.nodes.length) (hrow : row.length ≤ 100) (hix : ix ≤ 190)
   (h : ∀ s' (S' : HS) rt' ix' news', Sm s s' → Fr g L s'.heap m → News g L s'.heap news' → LS w news' a S' B Rw row ix' → OkH a S' rt' (told + 1) → ix' ≤ ix + 3 → S'.nodes = S.nodes →
      Ch (B :: a.own S.ab) (B :: a.own S'.ab) news news' → Q .none s') :
   wpAny (model P w) A (call (.ref 494) [.ref B, .ref a.H]) Q E s := by
  have hsm := O.sm
  refine bd [("belt", .ref B), ("heap", .ref a.H)] ?_
  (refine' callP ?zF ?zN ?zX ?zT ?zR ?k6 ?k7 ?k9 ?kB ?_ ?c5 ?c2 ?c3 ?c4; (case zF | zN | zX | zR => assumption); (case zT => apply TopRead.nolimit; assumption); (case k6 | k7 => k_is); (case k9 | kB | c2 | c3 | c4 => exact rfl); (case c5 => decide); intros)
  rename_i g' L' h' stay X' hr' F' N'
  have T' := T.keeps stay
  clear X T F N
  have hH := R.rh.rc.hH
  obtain ⟨t1, t2, t3, t4, t5, t6, t7, t8, t9, n', hdH⟩ := R.rh.rc.hd
  repeat' ((fail_if_success guard_target = wpAny _ _ (exec (Stmt.While _ _ _ _) _) _ _ _); (fail_if_success guard_target = wpAny _ _ (exec (Stmt.For _ _ _ _ _) _) _ _ _); walk_at "mine")
  refine hsize_ok (by assumption) (by assumption) X' T' (hr'.less (by decide)) R.rh.rc (by lia) fun t10 s1 sm1 F1 N1 => ?_
  repeat' ((fail_if_success guard_target = wpAny _ _ (exec (Stmt.While _ _ _ _) _) _ _ _); (fail_if_success guard_target = wpAny _ _ (exec (Stmt.For _ _ _ _ _) _) _ _ _); walk_at "mine")
  refine scan_ok (by assumption) (by assumption) X' T' (hr'.less (by decide)) R.bt hrow (by lia) hpos (by lia) fun v tv s2 news2 hv sm2 F2 N2 RT2 C2 => ?_
  have R2 := R.scanned N1 C2 RT2
  clear hH hdH F1 N1 N' F'
  have hH := R2.rh.rc.hH
  obtain ⟨t1, t2, t3, t4, t5, t6, t7, t8, t9, n', hdH⟩ := R2.rh.rc.hd
  repeat' ((fail_if_success guard_target = wpAny _ _ (exec (Stmt.While _ _ _ _) _) _ _ _); (fail_if_success guard_target = wpAny _ _ (exec (Stmt.For _ _ _ _ _) _) _ _ _); walk_at "mine")
  refine hsize_ok (by assumption) (by assumption) X' T' (hr'.less (by decide)) R2.rh.rc (by lia) fun t11 s3 sm3 F3 N3 => ?_
  repeat' ((fail_if_success guard_target = wpAny _ _ (exec (Stmt.While _ _ _ _) _) _ _ _); (fail_if_success guard_target = wpAny _ _ (exec (Stmt.For _ _ _ _ _) _) _ _ _); walk_at "mine")
  refine scan_ok (by assumption) (by assumption) X' T' (hr'.less (by decide)) R2.bt hrow (by lia) hpos (by lia) fun v4 tv4 s4 news4 hv4 sm4 F4 N4 RT4 C4 => ?_
  have R4 := R2.scanned N3 C4 RT4
  clear hH hdH F3 N3
  repeat' ((fail_if_success guard_target = wpAny _ _ (exec (Stmt.While _ _ _ _) _) _ _ _); (fail_if_success guard_target = wpAny _ _ (exec (Stmt.For _ _ _ _ _) _) _ _ _); walk_at "mine")
  refine hmerge_ok (by assumption) (by assumption) X' T' (hr'.less (by decide)) (R4.rh.mono fun q hq => List.mem_cons_of_mem _ hq) O hto hv hv4 fun b5 s5 S5 rt5 news5 sm5 F5 N5 R5 O5 e5 C5 => ?_
  repeat' ((fail_if_success guard_target = wpAny _ _ (exec (Stmt.While _ _ _ _) _) _ _ _); (fail_if_success guard_target = wpAny _ _ (exec (Stmt.For _ _ _ _ _) _) _ _ _); walk_at "mine")
  exact lv_next (by assumption) (by assumption) fun F9 N9 => h _ S5 rt5 (ix + 1 + 1) news5 ⟨sm5.1.trans (sm4.1.trans (sm3.1.trans (sm2.1.trans sm1.1))), sm5.2.trans (sm4.2.trans (sm3.2.trans (sm2.2.trans sm1.2)))⟩ F9 N9 ((R4.mono fun q hq => List.mem_cons_of_mem _ hq).heaped C5 rfl R5) O5 (by lia) e5
    ((((Ch.belt C2).trans (Ch.belt C4)).trans (Ch.more fun q hq => List.mem_cons_of_mem _ hq)).trans (Ch.heap C5))
end
/-- the dict of layers -/
structure RepL (w : World) (news : List (Addr × Obj)) (D : Addr) (fs : List (Nat × Addr × List Nat)) : Prop where
  hD : ∃ o, (D, o) ∈ news ∧ DI w o (fs.map fun x => (x.1, Value.ref x.2.1))
  lo : (D == sysModules) = false
  ls : ∀ x ∈ fs, LsI news x.2.1 x.2.2
  ne : D ∉ fs.map (·.2.1)
  an : (fs.map (·.2.1)).Nodup
/-- what is so of it: j nodes have their key, i nodes their kids -/
structure LyI (nodes : List (PySem.Str × List Nat)) (rt : Nat → Nat) (i j : Nat) (fs : List (Nat × Addr × List Nat)) : Prop where
  kn : (fs.map (·.1)).Nodup
  ky : ∀ c, c ∈ fs.map (·.1) ↔ ∃ n, n < j ∧ rt n = c
  ls : ∀ x ∈ fs, ∀ y, y ∈ x.2.2 ↔ ∃ n, n < i ∧ rt n = x.1 ∧ y ∈ (img nodes rt n).2
  ln : ∀ x ∈ fs, x.2.2.length ≤ 2 * i
section
variable {w : World} {A : Around} {g h : PySem.Heap} {L D B Rw : Addr} {m mg mb : PySem.Str → Option Value} {s : Shared} {news news' : List (Addr × Obj)} {p : Program} {loose : List PySem.Str} {E : Value → Shared → Prop} {fs : List (Nat × Addr × List Nat)} {nodes : List (PySem.Str × List Nat)} {rt : Nat → Nat} {st : USt} {a : HA}
theorem RepL.mono (R : RepL w news D fs) (hs : ∀ q ∈ news, q ∈ news') : RepL w news' D fs :=
  ⟨let ⟨o, a, b⟩ := R.hD; ⟨o, hs _ a, b⟩, R.lo, fun x hx => let ⟨us, n, a, b⟩ := R.ls x hx; ⟨us, n, hs _ a, b⟩, R.ne, R.an⟩
theorem fs_len {i j : Nat} (I : LyI nodes rt i j fs) : fs.length ≤ j := by
  have := len_sub (fs.map (·.1)) ((List.range j).map rt) I.kn fun c hc => by
    refine hide fun G0 hG0 => ?_
    obtain ⟨n, hn, e⟩ := (I.ky c).mp hc
    refine hG0 ?_
    try clear hG0 G0
    exact List.mem_map.mpr ⟨n, List.mem_range.mpr hn, e⟩
  simpa using this
theorem fs_key {x y : Nat × Addr × List Nat} (hn : (fs.map (·.1)).Nodup) (hx : x ∈ fs) (hy : y ∈ fs) (e : x.1 = y.1) : x = y := by
  refine hide fun G0 hG0 => ?_
  obtain ⟨i, hi, ei⟩ := List.getElem_of_mem hx
  obtain ⟨j, hj, ej⟩ := List.getElem_of_mem hy
  refine hG0 ?_
  try clear hG0 G0
  have : (fs.map (·.1))[i]'(by simpa using hi) = (fs.map (·.1))[j]'(by simpa using hj) := by simp [ei, ej, e]
  have hij := (List.getElem_inj hn).mp this
  subst hij
  exact ei.symm.trans ej
/-- setdefault of a class's list -/
theorem lay_setdef {i k : Nat} {t : Tok} {DW : Addr} {Q : Value → Shared → Prop} (F : Fr g L s.heap m) (N : News g L s.heap news) (R : RepL w news D fs) (I : LyI nodes rt i i fs) (hk : k = rt i) (hi : i ≤ 100) (hW : (DW, lo [] 0) ∈ news) (hWD : DW ≠ D) (hWf : DW ∉ fs.map (·.2.1))
    (h : ∀ ad l fs' h' tk news', Fr g L h' m → News g L h' news' → RepL w news' D fs' → LyI nodes rt i (i + 1) fs' → (k, ad, l) ∈ fs' → (∀ x ∈ fs'.map (·.2.1), x = DW ∨ x ∈ fs.map (·.2.1)) → (∀ q ∈ news, q.1 ≠ D → q ∈ news') → Q (.ref ad) { s with heap := h', toks := tk }) :
    wpAny (model P w) A (call (.builtin "dict.setdefault") [.ref D, .int (k : Int) t, .ref DW]) Q E s := by
  subst hk
  refine hide fun G0 hG0 => ?_
  obtain ⟨o, hD, hd⟩ := R.hD
  refine hG0 ?_
  try clear hG0 G0
  have hfl := fs_len I
  by_cases hm : rt i ∈ fs.map (·.1)
  · obtain ⟨⟨k', ad, l⟩, hx, e⟩ := List.mem_map.mp hm
    dsimp only at e
    subst e
    have hl := lk_refs I.kn hx
    dsimp only at hl
    refine rd_setdef_there N hD hd R.lo hl (by rw [List.length_map]; lia) (h ad l fs s.heap _ news F N R ⟨I.kn, fun c => ?_, I.ls, I.ln⟩ hx (fun x hx => .inr hx) fun q hq _ => hq)
    rw [I.ky]
    constructor
    · rintro ⟨n, hn, e⟩; exact ⟨n, by lia, e⟩
    · rintro ⟨n, hn, e⟩
      by_cases q : n = i
      · subst q
        refine hide fun G0 hG0 => ?_
        obtain ⟨n2, h2, e2⟩ := (I.ky _).mp hm
        refine hG0 ?_
        try clear hG0 G0
        exact ⟨n2, h2, e2.trans e⟩
      · exact ⟨n, by lia, e⟩
  · have hl : lk (fs.map fun x => (x.1, Value.ref x.2.1)) (rt i) = none := lk_none.mpr (by rw [List.map_map]; exact hm)
    refine rd_setdef_new F N hD hd R.lo hl (by rw [List.length_map]; lia) fun o' h' F' N' hd' => ?_
    have hno : ∀ n, n < i → rt n ≠ rt i := fun n hn e => hm ((I.ky _).mpr ⟨n, hn, e⟩)
    refine h DW [] (fs ++ [(rt i, DW, [])]) h' _ _ F' N' ⟨⟨o', upd_self hD, by rw [List.map_append]; exact hd'⟩, R.lo, fun x hx => ?_, fun q => ?_, ?_⟩ ⟨?_, fun c => ?_, fun x hx y => ?_, fun x hx => ?_⟩ (List.mem_append_right _ (.head _)) (fun x hx => ?_) (fun q hq hne => upd_ne hq hne)
    · rcases List.mem_append.mp hx with hx | hx
      · obtain ⟨us, n, h1, h2⟩ := R.ls x hx
        exact ⟨us, n, upd_ne h1 fun e => R.ne (e ▸ List.mem_map.mpr ⟨x, hx, rfl⟩), h2⟩
      · rw [List.mem_singleton.mp hx]
        exact ⟨[], 0, upd_ne hW hWD, .nil⟩
    · rw [List.map_append] at q
      rcases List.mem_append.mp q with q | q
      · exact R.ne q
      · have e : D = DW := by simpa using q
        exact hWD e.symm
    · rw [List.map_append, List.nodup_append]
      refine ⟨R.an, by simp, fun x hx y hy => ?_⟩
      rw [show y = DW by simpa using hy]
      rintro rfl
      exact hWf hx
    · rw [List.map_append, List.nodup_append]
      refine ⟨I.kn, by simp, fun x hx y hy => ?_⟩
      rw [show y = rt i by simpa using hy]
      rintro rfl
      exact hm hx
    · rw [List.map_append, List.mem_append, I.ky]
      constructor
      · rintro (⟨n, hn, e⟩ | q)
        · exact ⟨n, by lia, e⟩
        · have e : c = rt i := by simpa using q
          exact ⟨i, by lia, e.symm⟩
      · rintro ⟨n, hn, e⟩
        by_cases q : n = i
        · subst q; right; simp [e]
        · left; exact ⟨n, by lia, e⟩
    · rcases List.mem_append.mp hx with hx | hx
      · exact I.ls x hx y
      · rw [List.mem_singleton.mp hx]
        constructor
        · intro q; cases q
        · rintro ⟨n, hn, e, _⟩; exact absurd e (hno n hn)
    · rcases List.mem_append.mp hx with hx | hx
      · exact I.ln x hx
      · rw [List.mem_singleton.mp hx]; exact Nat.zero_le _
    · rw [List.map_append] at hx
      rcases List.mem_append.mp hx with hx | hx
      · exact .inr hx
      · exact .inl (by simpa using hx)
theorem lay_ext {i : Nat} {ad : Addr} {l us : List _} {n : Nat} (R : RepL w news D fs) (I : LyI nodes rt i (i + 1) fs) (hx : (rt i, ad, l) ∈ fs) (hi : IntsAre us (zs (l ++ (img nodes rt i).2))) (hz : (img nodes rt i).2.length ≤ 2) :
    RepL w (upd ad (lo us n) news) D (setL fs (rt i) (l ++ (img nodes rt i).2)) ∧ LyI nodes rt (i + 1) (i + 1) (setL fs (rt i) (l ++ (img nodes rt i).2)) := by
  have hDa : D ≠ ad := fun e => R.ne (e ▸ List.mem_map.mpr ⟨_, hx, rfl⟩)
  constructor
  · obtain ⟨o, hD, hd⟩ := R.hD
    refine ⟨⟨o, upd_ne hD hDa, by rw [setL_refs]; exact hd⟩, R.lo, fun y hy => ?_, by rw [setL_addrs]; exact R.ne, by rw [setL_addrs]; exact R.an⟩
    refine hide fun G0 hG0 => ?_
    obtain ⟨z, hz, rfl⟩ := List.mem_map.mp hy
    refine hG0 ?_
    try clear hG0 G0
    by_cases e : z.1 = rt i
    · have hzx : z = (rt i, ad, l) := fs_key I.kn hz hx e
      subst hzx
      rw [if_pos rfl]
      refine hide fun G0 hG0 => ?_
      obtain ⟨_, _, c, _⟩ := R.ls _ hz
      refine hG0 ?_
      try clear hG0 G0
      exact ⟨us, n, upd_self c, hi⟩
    · rw [if_neg e]
      refine hide fun G0 hG0 => ?_
      obtain ⟨p, q, c, d⟩ := R.ls z hz
      refine hG0 ?_
      try clear hG0 G0
      exact ⟨p, q, upd_ne c fun e2 => e (by rw [nodup_key R.an hz hx e2]), d⟩
  · refine ⟨by rw [setL_keys]; exact I.kn, fun c => by rw [setL_keys]; exact I.ky c, fun y hy v => ?_, fun y hy => ?_⟩
    · obtain ⟨z, hz', rfl⟩ := List.mem_map.mp hy
      by_cases e : z.1 = rt i
      · have hzx : z = (rt i, ad, l) := fs_key I.kn hz' hx e
        subst hzx
        rw [if_pos rfl]
        dsimp only
        have hls := I.ls _ hz' v
        dsimp only at hls
        rw [List.mem_append, hls]
        constructor
        · rintro (⟨n, hn, h1, h2⟩ | h)
          · exact ⟨n, by lia, h1, h2⟩
          · exact ⟨i, by lia, rfl, h⟩
        · rintro ⟨n, hn, h1, h2⟩
          by_cases q : n = i
          · subst q; exact .inr h2
          · exact .inl ⟨n, by lia, h1, h2⟩
      · rw [if_neg e, I.ls z hz' v]
        constructor
        · rintro ⟨n, hn, h1, h2⟩; exact ⟨n, by lia, h1, h2⟩
        · rintro ⟨n, hn, h1, h2⟩
          by_cases q : n = i
          · subst q; exact absurd h1.symm e
          · exact ⟨n, by lia, h1, h2⟩
    · obtain ⟨z, hz', rfl⟩ := List.mem_map.mp hy
      by_cases e : z.1 = rt i
      · have hzx : z = (rt i, ad, l) := fs_key I.kn hz' hx e
        subst hzx
        rw [if_pos rfl]
        dsimp only
        have := I.ln _ hz'
        dsimp only at this
        rw [List.length_append]; lia
      · rw [if_neg e]
        have := I.ln z hz'
        lia
theorem RepL.sub (R : RepL w news D fs) (hs : ∀ q ∈ news, (q.1 = D ∨ q.1 ∈ fs.map (·.2.1)) → q ∈ news') : RepL w news' D fs :=
  ⟨let ⟨o, a, b⟩ := R.hD; ⟨o, hs _ a (.inl rfl), b⟩, R.lo, fun x hx => let ⟨us, n, a, b⟩ := R.ls x hx; ⟨us, n, hs _ a (.inr (List.mem_map.mpr ⟨x, hx, rfl⟩)), b⟩, R.ne, R.an⟩
set_option maxHeartbeats 8000000 in
theorem layers_ok {Q : Value → Shared → Prop}
   (F : Fr g L s.heap m) (N : News g L s.heap news) (X : (hd.heap_39 w.params).In g) (T : TopRead p loose mg mb g) (hr : RoomOk A 5)
   (R : RepC w news a nodes st) (O : OkC a nodes st rt) (hz : nodes.length ≤ 16)
   (h : ∀ s' D fs news', Sm s s' → Fr g L s'.heap m → News g L s'.heap news' → (∀ q ∈ news, q ∈ news') → (∀ q ∈ news, q.1 ≠ D ∧ q.1 ∉ fs.map (·.2.1)) → RepL w news' D fs → LyI nodes rt nodes.length nodes.length fs → Q (.ref D) s') :
   wpAny (model P w) A (call (.ref 499) [.ref a.H]) Q E s := by
  refine bd [("heap", .ref a.H)] ?_
  (refine' callC ?zF ?zN ?zX ?zT ?zR ?k6 ?k7 ?k9 ?kB ?c5 ?_ ?c2 ?c3 ?c4; (case zF | zN | zX | zR => assumption); (case zT => apply TopRead.nolimit; assumption); (case k6 | k7 => k_is); (case k9 | kB | c2 | c3 | c4 => exact rfl); (case c5 => decide); intros)
  rename_i g' L' h' tk' cells stay X' hr' F' N' Y ltY
  refine hide fun G0 hG0 => ?_
  obtain ⟨oS, rfl, hcS0⟩ := CellsAre.one Y
  refine hG0 ?_
  try clear hG0 G0
  have hcS : oS.data = .cell (some (.ref a.H)) := hcS0
  clear hcS0 Y
  have T' := T.keeps stay
  replace N' : News g' L' h' ((L' + 1, oS) :: news) := N'
  clear X T F N
  repeat' (first | (guard_target = wpAny _ _ (compareOp CmpOp.NotEq (Value.ref _) (Value.ref _)) _ _ _; refine' rl_neB ?zr ?zN ?zm ?zl ?zi ?zj ?zk ?_; (case zr => with_reducible assumption); walk_at "aNm"; (case zl => k_mem); (case zi | zj => first | with_reducible assumption | exact nilN); (case zk => first | (show _ = true; simp; done) | (show _ = false; simp; done) | exact rfl)) | (guard_target = wpAny _ _ (compareOp CmpOp.Eq (Value.ref _) (Value.ref _)) _ _ _; refine' rl_eqB ?zr ?zN ?zm ?zl ?zi ?zj ?zk ?_; (case zr => with_reducible assumption); walk_at "aNm"; (case zl => k_mem); (case zi | zj => first | with_reducible assumption | exact nilN); (case zk => first | with_reducible assumption | exact rfl)) | ((fail_if_success guard_target = wpAny _ _ (exec (Stmt.While _ _ _ _) _) _ _ _); (fail_if_success guard_target = wpAny _ _ (exec (Stmt.For _ _ _ _ _) _) _ _ _); walk_at "mine"))
  have ltD := ltW
  have loD := loW
  have diD := diW
  generalize DW = D at *
  generalize oW = oD at *
  refine for_exec ?_
  have R0 := R.mono fun q hq => List.mem_cons_of_mem (D, oD) (List.mem_cons_of_mem (L' + 1, oS) hq)
  have hH := R0.hH
  obtain ⟨t1, t2, t3, t4, t5, t6, t7, t8, t9, n', hdH⟩ := R0.hd
  repeat' (first | (guard_target = wpAny _ _ (compareOp CmpOp.NotEq (Value.ref _) (Value.ref _)) _ _ _; refine' rl_neB ?zr ?zN ?zm ?zl ?zi ?zj ?zk ?_; (case zr => with_reducible assumption); walk_at "aNm"; (case zl => k_mem); (case zi | zj => first | with_reducible assumption | exact nilN); (case zk => first | (show _ = true; simp; done) | (show _ = false; simp; done) | exact rfl)) | (guard_target = wpAny _ _ (compareOp CmpOp.Eq (Value.ref _) (Value.ref _)) _ _ _; refine' rl_eqB ?zr ?zN ?zm ?zl ?zi ?zj ?zk ?_; (case zr => with_reducible assumption); walk_at "aNm"; (case zl => k_mem); (case zi | zj => first | with_reducible assumption | exact nilN); (case zk => first | with_reducible assumption | exact rfl)) | ((fail_if_success guard_target = wpAny _ _ (exec (Stmt.While _ _ _ _) _) _ _ _); (fail_if_success guard_target = wpAny _ _ (exec (Stmt.For _ _ _ _ _) _) _ _ _); walk_at "mine"))
  refine hsize_ok (by assumption) (by assumption) X' T' (hr'.less (by decide)) R0 hz fun t10 s1 sm1 F1 N1 => ?_
  repeat' (first | (guard_target = wpAny _ _ (compareOp CmpOp.NotEq (Value.ref _) (Value.ref _)) _ _ _; refine' rl_neB ?zr ?zN ?zm ?zl ?zi ?zj ?zk ?_; (case zr => with_reducible assumption); walk_at "aNm"; (case zl => k_mem); (case zi | zj => first | with_reducible assumption | exact nilN); (case zk => first | (show _ = true; simp; done) | (show _ = false; simp; done) | exact rfl)) | (guard_target = wpAny _ _ (compareOp CmpOp.Eq (Value.ref _) (Value.ref _)) _ _ _; refine' rl_eqB ?zr ?zN ?zm ?zl ?zi ?zj ?zk ?_; (case zr => with_reducible assumption); walk_at "aNm"; (case zl => k_mem); (case zi | zj => first | with_reducible assumption | exact nilN); (case zk => first | with_reducible assumption | exact rfl)) | ((fail_if_success guard_target = wpAny _ _ (exec (Stmt.While _ _ _ _) _) _ _ _); (fail_if_success guard_target = wpAny _ _ (exec (Stmt.For _ _ _ _ _) _) _ _ _); walk_at "mine"))
  rename IsRange _ _ _ _ _ _ _ _ => hRg
  have hcD : L' + 1 ≠ D := Nat.ne_of_lt (ltD (L' + 1, oS) (.head _))
  have hnD : ∀ q ∈ (L' + 1, oS) :: news, q.1 ≠ D := fun q hq => Nat.ne_of_lt (ltD q hq)
  clear hH hdH R0
  refine for_at (srcO := []) (by assumption) (by assumption) hr' rfl rfl rfl (Src.range hRg (by lia)) (fun q hq => nomatch hq)
    (fun i m' newsF => m' "found" = some (.ref D) ∧ ∃ fs, RepL w newsF D fs ∧ LyI nodes rt i i fs ∧ ∀ q ∈ (L' + 1, oS) :: news, q ∈ newsF ∧ q.1 ∉ fs.map (·.2.1))
    ⟨by walk_at "mloc", [], ⟨⟨oD, .head _, diD⟩, loD, fun x hx => (nomatch hx), fun h => (nomatch h), List.nodup_nil⟩, ⟨List.nodup_nil, fun c => ⟨fun h => (nomatch h), fun ⟨n, hn, _⟩ => absurd hn (Nat.not_lt_zero _)⟩, fun x hx => (nomatch hx), fun x hx => (nomatch hx)⟩, fun q hq => ⟨.tail _ hq, fun h => (nomatch h)⟩⟩ ?turn ?fin
  case fin =>
    rintro m2 newsF s2 sm2 F2 N2 hsrc ⟨f1, fs, RL, LI, hsub⟩
    replace F2 : Fr g' L' s2.heap _ := F2
    replace N2 : News g' L' s2.heap _ := N2
    repeat' (first | (guard_target = wpAny _ _ (compareOp CmpOp.NotEq (Value.ref _) (Value.ref _)) _ _ _; refine' rl_neB ?zr ?zN ?zm ?zl ?zi ?zj ?zk ?_; (case zr => with_reducible assumption); walk_at "aNm"; (case zl => k_mem); (case zi | zj => first | with_reducible assumption | exact nilN); (case zk => first | (show _ = true; simp; done) | (show _ = false; simp; done) | exact rfl)) | (guard_target = wpAny _ _ (compareOp CmpOp.Eq (Value.ref _) (Value.ref _)) _ _ _; refine' rl_eqB ?zr ?zN ?zm ?zl ?zi ?zj ?zk ?_; (case zr => with_reducible assumption); walk_at "aNm"; (case zl => k_mem); (case zi | zj => first | with_reducible assumption | exact nilN); (case zk => first | with_reducible assumption | exact rfl)) | ((fail_if_success guard_target = wpAny _ _ (exec (Stmt.While _ _ _ _) _) _ _ _); (fail_if_success guard_target = wpAny _ _ (exec (Stmt.For _ _ _ _ _) _) _ _ _); walk_at "mine"))
    exact lv_ret (by assumption) (by assumption) fun F9 N9 => h _ D fs newsF ⟨sm2.1.trans sm1.1, sm2.2.trans sm1.2⟩ F9 N9 (fun q hq => (hsub q (.tail _ hq)).1) (fun q hq => ⟨hnD q (.tail _ hq), (hsub q (.tail _ hq)).2⟩) RL LI
  case turn =>
    rintro i v m0 newsF s2 I oI hi2 hv sm2 hltI F2 N2 hnI hsrc hJ0 Z hZ
    refine hide fun G0 hG0 => ?_
    obtain ⟨f1, fs, RL, LI, hsub⟩ := hJ0
    obtain ⟨tv, rfl⟩ := hv
    replace F2 : Fr g' L' s2.heap _ := F2
    replace N2 : News g' L' s2.heap _ := N2
    have hcell2 : (L' + 1, oS) ∈ (I, oI) :: newsF := .tail _ (hsub _ (.head _)).1
    have R2 := R.mono fun q hq => List.mem_cons_of_mem (I, oI) (hsub q (.tail _ hq)).1
    have hH := R2.hH
    obtain ⟨t1, t2, t3, t4, t5, t6, t7, t8, t9, n', hdH⟩ := R2.hd
    obtain ⟨oF, hF, dF⟩ := RL.hD
    refine hG0 ?_
    try clear hG0 G0
    have hF2 := List.mem_cons_of_mem (I, oI) hF
    repeat' (first | (guard_target = wpAny _ _ (compareOp CmpOp.NotEq (Value.ref _) (Value.ref _)) _ _ _; refine' rl_neB ?zr ?zN ?zm ?zl ?zi ?zj ?zk ?_; (case zr => with_reducible assumption); walk_at "aNm"; (case zl => k_mem); (case zi | zj => first | with_reducible assumption | exact nilN); (case zk => first | (show _ = true; simp; done) | (show _ = false; simp; done) | exact rfl)) | (guard_target = wpAny _ _ (compareOp CmpOp.Eq (Value.ref _) (Value.ref _)) _ _ _; refine' rl_eqB ?zr ?zN ?zm ?zl ?zi ?zj ?zk ?_; (case zr => with_reducible assumption); walk_at "aNm"; (case zl => k_mem); (case zi | zj => first | with_reducible assumption | exact nilN); (case zk => first | with_reducible assumption | exact rfl)) | ((fail_if_success guard_target = wpAny _ _ (exec (Stmt.While _ _ _ _) _) _ _ _); (fail_if_success guard_target = wpAny _ _ (exec (Stmt.For _ _ _ _ _) _) _ _ _); walk_at "mine"))
    refine hfind_ok (by assumption) (by assumption) X' T' (hr'.less (by decide)) R2 O hi2 fun t4 s4 sm4 F4 N4 => ?_
    clear F2 N2
    repeat' (first | (guard_target = wpAny _ _ (compareOp CmpOp.NotEq (Value.ref _) (Value.ref _)) _ _ _; refine' rl_neB ?zr ?zN ?zm ?zl ?zi ?zj ?zk ?_; (case zr => with_reducible assumption); walk_at "aNm"; (case zl => k_mem); (case zi | zj => first | with_reducible assumption | exact nilN); (case zk => first | (show _ = true; simp; done) | (show _ = false; simp; done) | exact rfl)) | (guard_target = wpAny _ _ (compareOp CmpOp.Eq (Value.ref _) (Value.ref _)) _ _ _; refine' rl_eqB ?zr ?zN ?zm ?zl ?zi ?zj ?zk ?_; (case zr => with_reducible assumption); walk_at "aNm"; (case zl => k_mem); (case zi | zj => first | with_reducible assumption | exact nilN); (case zk => first | with_reducible assumption | exact rfl)) | ((fail_if_success guard_target = wpAny _ _ (exec (Stmt.While _ _ _ _) _) _ _ _); (fail_if_success guard_target = wpAny _ _ (exec (Stmt.For _ _ _ _ _) _) _ _ _); walk_at "mine"))
    have RLW := RL.mono fun q hq => List.mem_cons_of_mem (DW, Mine.lo [] 0) (List.mem_cons_of_mem (I, oI) hq)
    have hWf : DW ∉ fs.map (·.2.1) := fun q => by
      refine hide fun G0 hG0 => ?_
      obtain ⟨x, hx, e⟩ := List.mem_map.mp q
      obtain ⟨us, n, hm, _⟩ := RL.ls x hx
      refine hG0 ?_
      try clear hG0 G0
      exact Nat.lt_irrefl _ (e ▸ ltW _ (.tail _ hm))
    have hWn : ∀ q ∈ (L' + 1, oS) :: news, q.1 ≠ DW := fun q hq => Nat.ne_of_lt (ltW q (.tail _ (hsub q hq).1))
    have hIW : I ≠ DW := Nat.ne_of_lt (ltW (I, oI) (.head _))
    have hID : I ≠ D := fun e => hnI _ hF e.symm
    refine lay_setdef (by assumption) (by assumption) RLW LI rfl (by lia) (.head _) (Nat.ne_of_gt (ltW (D, oF) (.tail _ hF))) hWf fun ad l fs' h5 tk5 news5 F5 N5 R5 I5 hx5 hor5 hk5 => ?_
    have hsub5 : ∀ q ∈ (L' + 1, oS) :: news, q ∈ news5 ∧ q.1 ∉ fs'.map (·.2.1) := fun q hq =>
      ⟨hk5 q (.tail _ (.tail _ (hsub q hq).1)) (hnD q hq), fun hm => (hor5 _ hm).elim (hWn q hq) (hsub q hq).2⟩
    have hI5 : (I, oI) ∈ news5 := hk5 _ (.tail _ (.head _)) hID
    have hIf : I ∉ fs'.map (·.2.1) := fun hm => (hor5 _ hm).elim hIW fun q => by
      refine hide fun G0 hG0 => ?_
      obtain ⟨x, hx, e⟩ := List.mem_map.mp q
      obtain ⟨us, n, hm, _⟩ := RL.ls x hx
      refine hG0 ?_
      try clear hG0 G0
      exact hnI _ hm e
    refine hide fun G0 hG0 => ?_
    obtain ⟨usA, nA, hA, hAi⟩ := R5.ls _ hx5
    dsimp only at hA hAi
    have hln5 := I5.ln _ hx5
    dsimp only at hln5
    have hAl := IntsAre.len hAi
    have hcell5 := (hsub5 _ (.head _)).1
    have R5c := R.mono fun q hq => (hsub5 q (.tail _ hq)).1
    clear hH hdH hF hF2 dF F4 N4
    have hH := R5c.hH
    obtain ⟨t1, t2, t3, t4, t5, t6, t7, t8, t9, n', hdH⟩ := R5c.hd
    have hB := R5c.rb.hB
    obtain ⟨b1, b2, b3, b4, bn, hdB⟩ := R5c.rb.hd
    refine hG0 ?_
    try clear hG0 G0
    repeat' (first | (guard_target = wpAny _ _ (compareOp CmpOp.NotEq (Value.ref _) (Value.ref _)) _ _ _; refine' rl_neB ?zr ?zN ?zm ?zl ?zi ?zj ?zk ?_; (case zr => with_reducible assumption); walk_at "aNm"; (case zl => k_mem); (case zi | zj => first | with_reducible assumption | exact nilN); (case zk => first | (show _ = true; simp; done) | (show _ = false; simp; done) | exact rfl)) | (guard_target = wpAny _ _ (compareOp CmpOp.Eq (Value.ref _) (Value.ref _)) _ _ _; refine' rl_eqB ?zr ?zN ?zm ?zl ?zi ?zj ?zk ?_; (case zr => with_reducible assumption); walk_at "aNm"; (case zl => k_mem); (case zi | zj => first | with_reducible assumption | exact nilN); (case zk => first | with_reducible assumption | exact rfl)) | ((fail_if_success guard_target = wpAny _ _ (exec (Stmt.While _ _ _ _) _) _ _ _); (fail_if_success guard_target = wpAny _ _ (exec (Stmt.For _ _ _ _ _) _) _ _ _); walk_at "mine"))
    have hki : nodes[i]? = some (nodes[i]'hi2) := List.getElem?_eq_getElem hi2
    have hkk := O.kids _ (List.getElem_mem hi2)
    have himg := img_of (rt := rt) hki
    generalize nodes[i]'hi2 = kn at *
    refine bnode_ok (by assumption) (by assumption) X' T' (hr'.less (by decide)) R5c.rb hki hz fun v6 s6 sm6 F6 N6 hTV => ?_
    refine hide fun G0 hG0 => ?_
    obtain ⟨tb, tt, tus, tn, rfl, htm, hti⟩ := hTV
    refine hG0 ?_
    try clear hG0 G0
    have htl := IntsAre.len hti
    have hzt : tus.length ≤ 100000 := by lia
    repeat' (first | (guard_target = wpAny _ _ (compareOp CmpOp.NotEq (Value.ref _) (Value.ref _)) _ _ _; refine' rl_neB ?zr ?zN ?zm ?zl ?zi ?zj ?zk ?_; (case zr => with_reducible assumption); walk_at "aNm"; (case zl => k_mem); (case zi | zj => first | with_reducible assumption | exact nilN); (case zk => first | (show _ = true; simp; done) | (show _ = false; simp; done) | exact rfl)) | (guard_target = wpAny _ _ (compareOp CmpOp.Eq (Value.ref _) (Value.ref _)) _ _ _; refine' rl_eqB ?zr ?zN ?zm ?zl ?zi ?zj ?zk ?_; (case zr => with_reducible assumption); walk_at "aNm"; (case zl => k_mem); (case zi | zj => first | with_reducible assumption | exact nilN); (case zk => first | with_reducible assumption | exact rfl)) | ((fail_if_success guard_target = wpAny _ _ (exec (Stmt.While _ _ _ _) _) _ _ _); (fail_if_success guard_target = wpAny _ _ (exec (Stmt.For _ _ _ _ _) _) _ _ _); walk_at "mine"))
    have N7w := NW
    refine comp_walk (srcO := [(DW, Mine.tu tus 0)]) FW N7w hr'.hh (by rw [List.size_toArray]; lia) (by decide) rfl rfl (Src.tuple (rl_tuple N7w (.head _))) (fun q hq => by rw [List.mem_singleton.mp hq]; exact .head _)
      (fun i ys news' => IntsAre ys (zs ((kn.2.take i).map rt)) ∧ ∀ q ∈ news5, q ∈ news') ⟨.nil, fun q hq => .tail _ hq⟩ ?t1 ?f1
    case t1 =>
      rintro j v ys mC news' ext C s' hj hv sm7 F7 hmC N7 hdis hsrc7 hJ0 Z Z0 hZ hZ0
      refine hide fun G0 hG0 => ?_
      obtain ⟨hys, hsub7⟩ := hJ0
      refine hG0 ?_
      try clear hG0 G0
      have hjl : j < kn.2.length := by rw [List.size_toArray] at hj; lia
      have htake := take_map_succ rt kn.2 hjl
      have hkj : kn.2[j]? = some (kn.2[j]'hjl) := List.getElem?_eq_getElem hjl
      have hyl := hkk.2 _ (List.getElem_mem hjl)
      generalize kn.2[j]'hjl = y at *
      obtain ⟨ty, e⟩ := IntsAre.get hti hkj
      have hv' : tus[j]? = some v := by simpa using hv
      rw [hv'] at e
      cases e
      have hcell7 : (L' + 1, oS) ∈ ext ++ news' := List.mem_append_right _ (hsub7 _ hcell5)
      have R7 := R5c.mono fun q hq => List.mem_append_right ext (hsub7 q hq)
      clear hH hdH hB hdB FW NW N7w
      have hH := R7.hH
      obtain ⟨t1, t2, t3, t4, t5, t6, t7, t8, t9, n', hdH⟩ := R7.hd
      refine wpAny_tests_nil (ifT ?_)
      repeat' (first | (guard_target = wpAny _ _ (compareOp CmpOp.NotEq (Value.ref _) (Value.ref _)) _ _ _; refine' rl_neB ?zr ?zN ?zm ?zl ?zi ?zj ?zk ?_; (case zr => with_reducible assumption); walk_at "aNm"; (case zl => k_mem); (case zi | zj => first | with_reducible assumption | exact nilN); (case zk => first | (show _ = true; simp; done) | (show _ = false; simp; done) | exact rfl)) | (guard_target = wpAny _ _ (compareOp CmpOp.Eq (Value.ref _) (Value.ref _)) _ _ _; refine' rl_eqB ?zr ?zN ?zm ?zl ?zi ?zj ?zk ?_; (case zr => with_reducible assumption); walk_at "aNm"; (case zl => k_mem); (case zi | zj => first | with_reducible assumption | exact nilN); (case zk => first | with_reducible assumption | exact rfl)) | ((fail_if_success guard_target = wpAny _ _ (exec (Stmt.While _ _ _ _) _) _ _ _); (fail_if_success guard_target = wpAny _ _ (exec (Stmt.For _ _ _ _ _) _) _ _ _); walk_at "mine"))
      refine hfind_ok (by assumption) (by assumption) X' T' (hr'.less (by decide)) R7 O hyl fun t8 s8 sm8 F8 N8 => ?_
      exact hZ _ _ ⟨⟨sm8.1.trans sm7.1, sm8.2.trans sm7.2⟩, mC, news', F8, N8, hdis, hsrc7, by rw [htake]; exact intsAre_append hys (intsAre_one _ t8), hsub7⟩
    case f1 =>
      rintro D8 c8 ys news8 s8 sm8 F8 N8 hD8 hlt8 ⟨hys, hsub8⟩
      replace N8 : News g' L' s8.heap ((D8, lo ys c8) :: news8) := N8
      have e0 : kn.2.take tus.toArray.size = kn.2 := List.take_of_length_le (by rw [List.size_toArray]; lia)
      rw [e0] at hys
      have hyl := IntsAre.len hys
      rw [List.length_map] at hyl
      clear FW NW N7w
      repeat' (first | (guard_target = wpAny _ _ (compareOp CmpOp.NotEq (Value.ref _) (Value.ref _)) _ _ _; refine' rl_neB ?zr ?zN ?zm ?zl ?zi ?zj ?zk ?_; (case zr => with_reducible assumption); walk_at "aNm"; (case zl => k_mem); (case zi | zj => first | with_reducible assumption | exact nilN); (case zk => first | (show _ = true; simp; done) | (show _ = false; simp; done) | exact rfl)) | (guard_target = wpAny _ _ (compareOp CmpOp.Eq (Value.ref _) (Value.ref _)) _ _ _; refine' rl_eqB ?zr ?zN ?zm ?zl ?zi ?zj ?zk ?_; (case zr => with_reducible assumption); walk_at "aNm"; (case zl => k_mem); (case zi | zj => first | with_reducible assumption | exact nilN); (case zk => first | with_reducible assumption | exact rfl)) | ((fail_if_success guard_target = wpAny _ _ (exec (Stmt.While _ _ _ _) _) _ _ _); (fail_if_success guard_target = wpAny _ _ (exec (Stmt.For _ _ _ _ _) _) _ _ _); walk_at "mine"))
      refine rl_extend (news := (D8, lo ys c8) :: news8) (by assumption) (by assumption) (.tail _ (hsub8 _ hA)) (.head _) (by lia) fun h9 n9 F9 N9 => ?_
      have e2 : (img nodes rt i).2 = kn.2.map rt := by rw [himg]
      have hext := lay_ext (us := usA ++ ys) (n := n9) R5 I5 hx5 (by rw [e2]; exact intsAre_append hAi hys) (by rw [e2, List.length_map]; exact hkk.1)
      have hadI : ad ≠ I := fun e => hIf (e ▸ List.mem_map.mpr ⟨_, hx5, rfl⟩)
      have hI9 : (I, oI) ∈ upd ad (lo (usA ++ ys) n9) news5 := upd_ne hI5 hadI.symm
      repeat' (first | (guard_target = wpAny _ _ (compareOp CmpOp.NotEq (Value.ref _) (Value.ref _)) _ _ _; refine' rl_neB ?zr ?zN ?zm ?zl ?zi ?zj ?zk ?_; (case zr => with_reducible assumption); walk_at "aNm"; (case zl => k_mem); (case zi | zj => first | with_reducible assumption | exact nilN); (case zk => first | (show _ = true; simp; done) | (show _ = false; simp; done) | exact rfl)) | (guard_target = wpAny _ _ (compareOp CmpOp.Eq (Value.ref _) (Value.ref _)) _ _ _; refine' rl_eqB ?zr ?zN ?zm ?zl ?zi ?zj ?zk ?_; (case zr => with_reducible assumption); walk_at "aNm"; (case zl => k_mem); (case zi | zj => first | with_reducible assumption | exact nilN); (case zk => first | with_reducible assumption | exact rfl)) | ((fail_if_success guard_target = wpAny _ _ (exec (Stmt.While _ _ _ _) _) _ _ _); (fail_if_success guard_target = wpAny _ _ (exec (Stmt.For _ _ _ _ _) _) _ _ _); walk_at "mine"))
      refine nx <| hZ _ ⟨⟨sm8.1.trans (sm6.1.trans (sm4.1.trans sm2.1)), sm8.2.trans (sm6.2.trans (sm4.2.trans sm2.2))⟩, _, oth I (upd ad (lo (usA ++ ys) n9) news5), by assumption, ?n1, fun q hq => oth_ne q hq, fun q hq => (nomatch hq), ?g1, _, hext.1.sub fun q hq hor => List.mem_filter.mpr ⟨hq, ?_⟩, hext.2, fun q hq => ⟨List.mem_filter.mpr ⟨upd_ne (hsub5 q hq).1 fun e => (hsub5 q hq).2 (e ▸ List.mem_map.mpr ⟨_, hx5, rfl⟩), ?_⟩, by rw [setL_addrs]; exact (hsub5 q hq).2⟩⟩
      case n1 => exact oth_news (nsub (by assumption) fun q hq => upd_sub (fun q hq => List.mem_cons_of_mem _ (hsub8 q hq)) q hq) hI9
      case g1 => exact (if_neg (by decide)).trans f1
      · rw [setL_addrs] at hor
        have : q.1 ≠ I := by
          rcases hor with e | e
          · rw [e]; exact hID.symm
          · rintro e2; rw [e2] at e; exact hIf e
        simpa using this
      · have : q.1 ≠ I := hnI q (hsub q hq).1
        simpa using this
end
theorem list_no_keys : typeLookup (.type "list") "keys" = pure none := by rw [typeLookup_type, builtinLookup_eq_fast]; kernel_rfl
section
variable {prog : Program} {w : World} {A : Around} {E : Value → Shared → Prop} {s : Shared} {a : Addr} {o : Obj} {xs : Array Value} {k : Nat}
theorem keys_by {tkn : Tok} {Q : Value → Shared → Prop} (hx : s.heap.get? a = some o) (hc : o.cls = .type "list") (hdat : o.data = .seq xs k) (hd : o.dict = none) (hA : A.handled = none)
    (h : ∀ h' tk e, Heap.NewExcOf s.heap h' e "AttributeError" → E (.ref e) { s with heap := h', toks := tk }) :
    wpAny (model prog w) A (getAttrBy (.ref a) (.str "keys" tkn) false) Q E s := by
  obtain ⟨c, dct, dat, sl⟩ := o
  simp only at hc hdat hd
  subst hc hdat hd
  obtain ⟨hp, g, d, tk, os⟩ := s
  have hT : ∀ tk', (⟨hp, g, d, tk', os⟩ : Shared).TypeIs (.ref a) "list" := fun _ => ⟨_, hx, rfl⟩
  have f1 := sub_AttributeError
  have f3 := F.slot_list_getattribute.lookup
  have f4 := F.slot_list_getattribute.bind (.ref a)
  have f5 := am_list_getattr_none
  unfold getAttrBy
  repeat (any_goals (first | assumption | exact hT _ | ((with_reducible show wpAny _ _ (call (Value.builtin "list.__getattribute__") _ _) _ _ _); refine call_meets F.slot_list_getattribute (hT _) am_entry_list_getattribute (F.args_list_getattribute_2 _ _) (meets_getattribute_miss_list a xs k sl "keys" _ list_no_keys (by decide +kernel) (by size_fits)) ⟨hx, hA, fun h' tk' e hx' => ?_⟩) | wp_step))
  obtain ⟨t', u', he⟩ := hx'.there
  show wpAny _ _ (getattributeRaised _ _ _ _ _ _ _) _ _ _
  unfold getattributeRaised
  repeat (any_goals (first | assumption | wp_step))
  exact h _ _ _ hx'.of
theorem keys_miss {Q : Option Value → Shared → Prop} (hx : s.heap.get? a = some o) (hc : o.cls = .type "list") (hdat : o.data = .seq xs k) (hd : o.dict = none) (hA : A.handled = none)
    (h : ∀ h' tk, (∀ b o, s.heap.get? b = some o → h'.get? b = some o) → Q none { s with heap := h', toks := tk }) :
    wpAny (model prog w) A (getAttr? (.ref a) "keys") Q E s := by
  have f1 := sub_AttributeError
  unfold getAttr? getAttrBy?
  refine wpAny_bind ?_
  unfold mkText
  repeat (any_goals (first | assumption | ((with_reducible show wpAny _ _ (getAttrBy _ _ _) _ _ _); refine keys_by hx hc hdat hd hA fun h' tk' e hx' => ?_) | wp_step))
  obtain ⟨⟨c2, dct2, dat2, sl2⟩, vs2, he, hc2, hd2, _⟩ := hx'.there
  simp only at hc2 hd2
  subst hc2 hd2
  repeat (any_goals (first | assumption | wp_step))
  exact h _ _ hx'.keeps
theorem entry_updl : entryFor table "dict.update.loop" = some Builtin.«dict.update.loop» := entryFor_of_fast (by kernel_rfl)
theorem plain_updl : plainId "dict.update.loop" = true := by decide +kernel
theorem upd_loop {l I d : Addr} {us : List Value} {prs : List (Nat × Value)} {h₁ : PySem.Heap} {St : Nat → PySem.Heap → Prop} {R : Result → Shared → Prop} (W : ∀ A' : Around, A'.handled = none → Walks prog w A' I [I, l] [I] us.toArray.size (fun i v => us.toArray[i]? = some v) St) (hA : A.handled = none)
    (hlen : us.length = prs.length) (hnd : (prs.map (·.1)).Nodup) (hz : prs.length ≤ 1000) (hdI : d ≠ I) (hdl : d ≠ l) (h1d : h₁.get? d = none) (h1I : h₁.get? I = none)
    (tup : ∀ (i : Nat) v k x, us[i]? = some v → prs[i]? = some (k, x) → ∃ b t n, v = .ref b ∧ h₁.get? b = some (tu [.int (k : Int) t, x] n))
    (hR : ∀ (s' : Shared) (h' : PySem.Heap) (tk : Nat), s'.gens = s.gens → s'.os = s.os → s'.drawn = s.drawn → h'.DictOf (PySem.intKind prog w) d (prs.map fun x => ((x.1 : Int), x.2)) → (∀ b o, h₁.get? b = some o → h'.get? b = some o) → R (.ok (.ret .none)) { s' with heap := h', toks := tk }) :
    ∀ (j i : Nat) (s₁ : Shared) (ti : Int), s₁.gens = s.gens → s₁.os = s.os → s₁.drawn = s.drawn → prs.length - i = j → i ≤ prs.length → St i s₁.heap → (∀ b o, h₁.get? b = some o → s₁.heap.get? b = some o) → s₁.heap.DictOf (PySem.intKind prog w) d ((prs.take i).map fun x => ((x.1 : Int), x.2)) →
      codeAny (model prog w) A (.builtin "dict.update.loop" ⟨[.ref d, .ref I, .int ti 0, .none], []⟩) R s₁ := by
  intro j
  induction j with
  | zero =>
    intro i s₁ ti eg eo ed hj hi hst hold hdict
    have hin : i = us.toArray.size := by rw [List.size_toArray]; lia
    refine codeAny_builtin entry_updl ?_
    rw [Around.under_plainId plain_updl _]
    show wpAny _ A.in1 (pyNext (.ref I) >>= _) _ _ s₁
    refine wpAny_bind ((W A.in1 hA).done s₁ _ _ (hin ▸ hst) fun h' tk hk => ?_)
    show wpAny _ A.in1 (Builtin.Dict.addKeywords d [] >>= _) _ _ _
    refine wpAny_bind (wpAny_pure (wpAny_pure ?_))
    have hd' : h'.DictOf (PySem.intKind prog w) d (prs.map fun x => ((x.1 : Int), x.2)) := by
      have e : prs.take i = prs := List.take_of_length_le (by rw [List.size_toArray] at hin; lia)
      rw [e] at hdict
      obtain ⟨o, es, ep, ho, r⟩ := hdict
      exact ⟨o, es, ep, hk d o (by simpa using hdI) ho, r⟩
    exact hR s₁ h' tk eg eo ed hd' fun b o hb => hk b o (by
      simp only [List.mem_singleton]
      rintro rfl
      rw [h1I] at hb; cases hb) (hold b o hb)
  | succ j ih =>
    intro i s₁ ti eg eo ed hj hi hst hold hdict
    have hlt : i < us.toArray.size := by rw [List.size_toArray]; lia
    refine codeAny_builtin entry_updl ?_
    rw [Around.under_plainId plain_updl _]
    show wpAny _ A.in1 (pyNext (.ref I) >>= _) _ _ s₁
    refine wpAny_bind ((W A.in1 hA).item i s₁ _ _ hlt hst fun v h' tk hP st' hk => ?_)
    have hip : i < prs.length := by lia
    have hp : prs[i]? = some (prs[i]'hip) := List.getElem?_eq_getElem hip
    have htake : prs.take (i + 1) = prs.take i ++ [prs[i]'hip] := by rw [List.take_add_one, hp]; rfl
    have hnk : (prs[i]'hip).1 ∉ (prs.take i).map (·.1) := fun q => by
      have hn2 := hnd
      rw [← List.take_append_drop i prs, List.map_append, List.nodup_append] at hn2
      refine hn2.2.2 _ q _ ?_ rfl
      exact List.mem_map.mpr ⟨prs[i]'hip, by rw [List.drop_eq_getElem_cons hip]; exact .head _, rfl⟩
    generalize prs[i]'hip = kx at *
    obtain ⟨kk, x⟩ := kx
    obtain ⟨b, t, n, rfl, hb⟩ := tup i v kk x (by simpa using hP) hp
    have hbI : b ∉ [I] := by
      simp only [List.mem_singleton]
      rintro rfl
      rw [h1I] at hb; cases hb
    have hb' := hk b _ hbI (hold b _ hb)
    have hd' : h'.DictOf (PySem.intKind prog w) d ((prs.take i).map fun x => ((x.1 : Int), x.2)) := by
      obtain ⟨o, es, ep, ho, r⟩ := hdict
      exact ⟨o, es, ep, hk d o (by simpa using hdI) ho, r⟩
    have hT : Shared.TypeIs { s₁ with heap := h', toks := tk } (.ref b) "tuple" := ⟨_, hb', rfl⟩
    refine wpAny_bind (wpAny_holding (wpAny_bind (wpAny_tryCatch ?_)))
    unfold Builtin.Dict.pairItems
    refine wpAny_bind (wpAny_typeOf hT ?_)
    have e1 : (Value.type "tuple" == Value.type "list" || Value.type "tuple" == Value.type "tuple") = true := by decide
    rw [if_pos e1]
    refine wpAny_bind (wpAny_seqItems hb' rfl (wpAny_pure ?_))
    show wpAny _ A.in1 (holding [Value.int (kk : Int) t, x] (dictSet d (Value.int (kk : Int) t) x)) _ _ _
    refine wpAny_holding ?_
    unfold dictSet
    try with_reducible refine wpAny_holding ?_
    refine wpAny_bind ((PySem.intKind prog w).pyHash (k := (kk : Int)) (intKind_is _ _ _ _) (wpAny_dictSetHashed_pairs (k := (kk : Int)) (intKind_is _ _ _ _) hd' (fun h2 hd2 hs2 => ?_) (by rw [List.length_map, List.length_take, sizeLine_eq]; lia)))
    refine wpAny_pure ⟨plainId_quiet plain_updl _, ?_⟩
    refine ih (i + 1) _ (ti + 1) eg eo ed (by lia) (by lia) ?_ (fun c o hc => hs2.extBut _ _ (by rintro rfl; rw [h1d] at hc; cases hc) (hk c o (by
      simp only [List.mem_singleton]
      rintro rfl
      rw [h1I] at hc; cases hc) (hold c o hc))) ?_
    · refine (W A.in1 hA).frame _ _ _ st' fun c hc o ho => hs2.extBut _ _ ?_ ho
      simp only [List.mem_cons, List.not_mem_nil, or_false] at hc
      rcases hc with rfl | rfl
      · exact hdI.symm
      · exact hdl.symm
    · rw [htake, List.map_append]
      rw [put_map, put_new (lk_none.mpr hnk)] at hd2
      simpa using hd2
theorem rd_ofPairs {Lp : Addr} {us : List Value} {n j : Nat} {prs : List (Nat × Value)} {g : PySem.Heap} {L : Addr} {m : PySem.Str → Option Value} {news : List (Addr × Obj)} {Q : Value → Shared → Prop} (hr : RoomOk A j) (F : Fr g L s.heap m) (N : News g L s.heap news) (hlim : g.NoLimit) (hm : (Lp, lo us n) ∈ news)
    (hlen : us.length = prs.length) (hnd : (prs.map (·.1)).Nodup) (hz : prs.length ≤ 1000) (tup : ∀ (i : Nat) v k x, us[i]? = some v → prs[i]? = some (k, x) → ∃ b t n, v = .ref b ∧ (b, tu [.int (k : Int) t, x] n) ∈ news)
    (h : ∀ D o h' tk, Fr g L h' m → News g L h' ((D, o) :: news) → (∀ p ∈ news, p.1 < D) → (D == sysModules) = false → o.IsDictOf (PySem.intKind prog w) (prs.map fun x => ((x.1 : Int), x.2)) → Q (.ref D) { s with heap := h', toks := tk }) :
    wpAny (model prog w) A (call (.type "dict") [.ref Lp]) Q E s := by
  have hl := rl_list N hm
  have hLpN := N _ hm
  refine callType_codes (Q₁ := fun obj s₁ => obj = .ref s.heap.objs.size ∧ s₁ = { s with heap := s.heap.push { cls := .type "dict", data := .dict #[] } }) PySem.F.kt_called_dict (PySem.F.kt_typeCall_dict_1 _) PySem.F.entry_dict_init (kt_code_dict_new _ ⟨rfl, rfl⟩) ?_
  rintro obj s₁ ⟨rfl, rfl⟩
  have hnew : (s.heap.push { cls := .type "dict", data := .dict #[] }).DictOf (PySem.intKind prog w) s.heap.objs.size [] := Heap.DictOf.new s.heap
  refine ⟨hnew.typeIs, PySem.F.args_dict_init_2 _ _, ?_⟩
  unfold Builtin.«dict.__init__»
  refine wpAny_bind ?_
  unfold Builtin.Dict.selfAndRest
  refine wpAny_bind (wpAny_notOrdered_dict hnew.typeIs ?_)
  show wpAny _ _ (pure (s.heap.objs.size, [Value.ref Lp])) _ _ _
  refine wpAny_pure ?_
  show wpAny _ _ (Builtin.Dict.updateFrom "dict.__init__" s.heap.objs.size (.ref Lp) [] .none) _ _ _
  have hLp1 : (s.heap.push { cls := .type "dict", data := .dict #[] }).get? Lp = some (lo us n) := Heap.get?_push_of_some _ hLpN.1
  have hT : Shared.TypeIs { s with heap := s.heap.push { cls := .type "dict", data := .dict #[] } } (.ref Lp) "list" := ⟨_, hLp1, rfl⟩
  unfold Builtin.Dict.updateFrom
  refine wpAny_bind (wpAny_typeOf hT ?_)
  rw [if_pos (by decide)]
  have hh := hr.hh
  refine wpAny_bind (keys_miss (A := A.in1.in1) hLp1 rfl rfl rfl hh fun h2 tk2 hk2 => ?_)
  rw [if_pos (by rfl)]
  refine wpAny_bind (wpAny_rule ?_)
  have hLp2 : h2.IsList Lp us.toArray := ⟨_, hk2 _ _ hLp1, rfl, n, rfl⟩
  refine wpAny_bind (wpAny_pyIter_list hLp2 ?_)
  have hDd : (s.heap.push { cls := .type "dict", data := .dict #[] }).get? s.heap.objs.size = some { cls := .type "dict", data := .dict #[] } := Heap.get?_push_size _ rfl
  have hDlt : s.heap.objs.size < h2.objs.size := Heap.lt_size (hk2 _ _ hDd)
  have hLlt : Lp < s.heap.objs.size := Heap.lt_size hLpN.1
  have hLt2 : Lp < h2.objs.size := Nat.lt_trans hLlt hDlt
  have old2 : ∀ b o, s.heap.get? b = some o → h2.get? b = some o := fun b o e => hk2 b o (Heap.get?_push_of_some _ e)
  refine wpAny_pure ⟨plainId_quiet plain_updl _, ?_⟩
  refine upd_loop (A := A.in1) (s := s) (l := Lp) (I := h2.objs.size) (d := s.heap.objs.size) (us := us) (prs := prs) (h₁ := s.heap) (fun A' hA => Walks.list hA h2.objs.size Lp (Nat.ne_of_lt hLt2) us.toArray) hh hlen hnd hz (Nat.ne_of_lt hDlt) (Nat.ne_of_gt hLlt) (Heap.get?_none_of_le (Nat.le_refl _)) (Heap.get?_none_of_le (Nat.le_of_lt hDlt)) (fun i v k x h1 h2 => ?_) (fun s' h' tk eg eo ed hd hold => ?_)
    prs.length 0 { s with heap := h2.push { cls := .type "list_iterator", data := .fields #[.ref Lp, .int 0 0] }, toks := tk2 } 0 rfl rfl rfl (Nat.sub_zero _) (Nat.zero_le _) (by exact ⟨⟨_, Heap.get?_push_size _ rfl, rfl, rfl⟩, hLp2.push _⟩) (by exact fun b o e => Heap.get?_push_of_some _ (old2 b o e)) ?_
  · obtain ⟨b, t, n', e, hb⟩ := tup i v k x h1 h2
    exact ⟨b, t, n', e, (N _ hb).1⟩
  · obtain ⟨o', ho', hd'⟩ := Heap.dictOf_iff.mp hd
    have F1 := fr_old F hold
    have N1 := news_old N hold
    have hLs : L < s.heap.objs.size := F.ns.lt
    obtain ⟨h0, g0, d0, t0, os0⟩ := s'
    dsimp only at eg eo ed
    subst eg eo ed
    refine ⟨rfl, h s.heap.objs.size o' h' tk F1 (fun p hp => ?_) (fun p hp => Heap.lt_size (N p hp).1) (F.notModules (modules_low hlim)) hd'⟩
    rcases List.mem_cons.mp hp with rfl | hp
    · exact ⟨ho', Nat.ne_of_gt hLs, Heap.get?_none_of_le (Nat.le_trans F.above (Nat.le_of_lt hLs))⟩
    · exact N1 p hp
  · obtain ⟨o, es, ep, ho, r⟩ := hnew
    exact ⟨o, es, ep, Heap.get?_push_of_some _ (hk2 _ _ ho), r⟩
/-- the keys of a dict, as they stand -/
theorem Src.dict {h : PySem.Heap} {D : Addr} {kvs : List (Nat × Value)} (hg : h.get? D = some o) (hd : o.IsDictOf (PySem.intKind prog w) (kvs.map fun x => ((x.1 : Int), x.2))) (hlo : (D == sysModules) = false) :
    Src prog w (.ref D) h [D] kvs.length (fun i v => ∃ k t, (kvs.map (·.1))[i]? = some k ∧ v = .int (k : Int) t) where
  go := fun {A s E Q} hh hs hq => by
    subst hs
    have hlt : D < s.heap.objs.size := Heap.lt_size hg
    have hDof : s.heap.DictOf (PySem.intKind prog w) D (kvs.map fun x => ((x.1 : Int), x.2)) := Heap.dictOf_iff.mpr ⟨o, hg, hd⟩
    obtain ⟨ep, hat⟩ := hDof.dictAt
    refine wpAny_pyIter_dict hlo hat ?_
    refine hq _ (fun i h => h.IsKeyIter s.heap.objs.size D i (kvs.map fun x => ((x.1 : Int), x.2)).length ep ∧ h.DictAt (PySem.intKind prog w) D (kvs.map fun x => ((x.1 : Int), x.2)) ep) (fun A' hA => ?_) ⟨⟨_, Heap.get?_push_size _ rfl, rfl, rfl⟩, hat.keep fun b o e => Heap.get?_push_of_some _ e⟩ fun i h' st => ?_
    · have W := Walks.dictKeys (prog := prog) (w := w) (knd := PySem.intKind prog w) (A := A') hA s.heap.objs.size D (Nat.ne_of_lt hlt) (kvs.map fun x => ((x.1 : Int), x.2)) ep
      rw [List.length_map] at W ⊢
      refine ⟨W.sub, W.frame, fun i s Q E hi st hQ => W.item i s Q E hi st fun v h' tk hP => hQ v h' tk ?_, W.done, W.self⟩
      obtain ⟨k, x, hk, hkv⟩ := hP
      obtain ⟨tt, e⟩ := Value.isInt_shape hkv
      rw [List.getElem?_map] at hk
      obtain ⟨y, hy, hyk⟩ := Option.map_eq_some_iff.mp hk
      refine ⟨y.1, tt, by rw [List.getElem?_map, hy]; rfl, ?_⟩
      rw [e]
      simp only [Prod.mk.injEq] at hyk
      rw [← hyk.1]
    · obtain ⟨o, ho, hc, _⟩ := st.1
      exact ⟨o, ho, by rw [hc]; simp⟩
end
theorem pth_snoc {R : Nat → Nat → Prop} : ∀ {i c z : Nat}, Pth R (i + 1) c z ↔ ∃ y, Pth R i c y ∧ R y z
  | 0, c, z => ⟨fun ⟨y, hr, e⟩ => ⟨c, rfl, by cases e; exact hr⟩, fun ⟨y, e, hr⟩ => ⟨z, by cases e; exact hr, rfl⟩⟩
  | i + 1, c, z => by
    constructor
    · rintro ⟨u, hr, hp⟩
      obtain ⟨y, h1, h2⟩ := pth_snoc.mp hp
      exact ⟨y, ⟨u, hr, h1⟩, h2⟩
    · rintro ⟨y, ⟨u, hr, h1⟩, h2⟩
      exact ⟨u, hr, pth_snoc.mpr ⟨y, h1, h2⟩⟩
theorem dep_step {R : Nat → Nat → Prop} {c e : Nat} (h : Dep R c (e + 1)) (he : 0 < e) : ∃ y, R c y ∧ Dep R y e := by
  obtain ⟨z, hz⟩ := h.2 e (Nat.lt_succ_self e)
  obtain ⟨k, rfl⟩ : ∃ k, e = k + 1 := ⟨e - 1, by lia⟩
  obtain ⟨y, hr, hp⟩ := hz
  refine ⟨y, hr, fun u hu => h.1 u ⟨y, hr, hu⟩, fun i hi => pth_short hp (by lia)⟩
theorem dep_all {R : Nat → Nat → Prop} {S : List Nat} (hcl : ∀ c ∈ S, ∀ y, R c y → y ∈ S) {c d : Nat} (hc : c ∈ S) (h : Dep R c d) : ∀ k e, d - e = k → 0 < e → e ≤ d → ∃ y ∈ S, Dep R y e := by
  intro k
  induction k with
  | zero => intro e he h1 h2; exact ⟨c, hc, by rw [show e = d by lia]; exact h⟩
  | succ k ih =>
    intro e he h1 h2
    obtain ⟨y, hy, hd⟩ := ih (e + 1) (by lia) (by lia) (by lia)
    obtain ⟨z, hz, hdz⟩ := dep_step hd h1
    exact ⟨z, hcl y hy z hz, hdz⟩
theorem dep_le {R : Nat → Nat → Prop} {S : List Nat} (hcl : ∀ c ∈ S, ∀ y, R c y → y ∈ S) {c d : Nat} (hc : c ∈ S) (h : Dep R c d) : d ≤ S.length := by
  have hall : ∀ i, i < d → ∃ y ∈ S, Dep R y (i + 1) := fun i hi => dep_all hcl hc h _ (i + 1) rfl (by lia) (by lia)
  let f : Nat → Nat := fun i => if hi : i < d then (hall i hi).choose else 0
  have hf : ∀ i, i < d → f i ∈ S ∧ Dep R (f i) (i + 1) := fun i hi => by
    show (if hi : i < d then (hall i hi).choose else 0) ∈ S ∧ Dep R (if hi : i < d then (hall i hi).choose else 0) (i + 1)
    rw [dif_pos hi]
    exact (hall i hi).choose_spec
  have hn : ((List.range d).map f).Nodup := by
    rw [List.nodup_iff_pairwise_ne, List.pairwise_map]
    refine (List.nodup_iff_pairwise_ne.mp List.nodup_range).imp_of_mem fun {a b} ha hb hab e => ?_
    have h1 := (hf a (List.mem_range.mp ha)).2
    have h2 := (hf b (List.mem_range.mp hb)).2
    rw [e] at h1
    have := h1.one h2
    lia
  have := len_sub ((List.range d).map f) S hn fun x hx => by
    obtain ⟨i, hi, rfl⟩ := List.mem_map.mp hx
    exact (hf i (List.mem_range.mp hi)).1
  simpa using this
/-- the number that the law gives a class -/
noncomputable def Val (R : Nat → Nat → Prop) (c v : Nat) : Prop := (0 < v ∧ Dep R c v) ∨ (v = 0 ∧ ∀ d, ¬ Dep R c d)
theorem val_end {R : Nat → Nat → Prop} {S : List Nat} (hcl : ∀ c ∈ S, ∀ y, R c y → y ∈ S) {c k : Nat} {ly : List Nat} (hc : c ∈ S) (hly : ∀ z, z ∈ ly ↔ Pth R k c z) (hlt : ∀ i, i < k → ∃ z, Pth R i c z) (hend : ly = [] ∨ S.length < k) : Val R c (if ly = [] then k else 0) := by
  by_cases e : ly = []
  · rw [if_pos e]
    have hno : ∀ z, ¬ Pth R k c z := fun z hz => by
      have h1 := (hly z).mpr hz
      rw [e] at h1
      exact absurd h1 (by simp)
    have hd : Dep R c k := ⟨hno, hlt⟩
    exact .inl ⟨hd.pos, hd⟩
  · rw [if_neg e]
    refine .inr ⟨rfl, fun d hd => ?_⟩
    have hk := hend.resolve_left e
    have hdl := dep_le hcl hc hd
    obtain ⟨z, hz⟩ := List.exists_mem_of_ne_nil _ e
    obtain ⟨u, hu⟩ := pth_short ((hly z).mp hz) (show d ≤ k by lia)
    exact hd.1 u hu
/-- the relation of a dict of layers -/
noncomputable def RfOf (fs : List (Nat × Addr × List Nat)) (c y : Nat) : Prop := ∃ x ∈ fs, x.1 = c ∧ y ∈ x.2.2
theorem val_done {R : Nat → Nat → Prop} {b n : Nat} {dd : List (Nat × Nat)} (hv : ∀ p ∈ dd, Val R p.1 p.2) (hi : RI R b n (dd.map (·.1)) []) (c d : Nat) : (c, d) ∈ dd.filter (fun p => decide (0 < p.2)) ↔ Rch R b c ∧ Dep R c d := by
  rw [List.mem_filter]
  constructor
  · rintro ⟨h1, h2⟩
    have h0 : 0 < d := by simpa using h2
    refine ⟨(hi.done c).mp (List.mem_map.mpr ⟨_, h1, rfl⟩), ?_⟩
    rcases hv _ h1 with h | ⟨h, _⟩
    · exact h.2
    · dsimp only at h; lia
  · rintro ⟨h1, h2⟩
    obtain ⟨⟨c', v⟩, hp, e⟩ := List.mem_map.mp ((hi.done c).mpr h1)
    dsimp only at e
    subst e
    rcases hv _ hp with ⟨h3, h4⟩ | ⟨_, h4⟩
    · have := h4.one h2
      dsimp only at this h3
      subst this
      exact ⟨hp, by simpa using h3⟩
    · exact absurd h2 (h4 d)
theorem rch_in {R : Nat → Nat → Prop} {S : List Nat} {b c : Nat} (hb : b ∈ S) (hcl : ∀ x ∈ S, ∀ y, R x y → y ∈ S) (h : Rch R b c) : c ∈ S := by
  induction h with
  | refl => exact hb
  | step _ hr ih => exact hcl _ ih _ hr
theorem pth_in {R : Nat → Nat → Prop} {S : List Nat} (hcl : ∀ x ∈ S, ∀ y, R x y → y ∈ S) : ∀ {i c z : Nat}, c ∈ S → Pth R i c z → z ∈ S
  | 0, _, _, hc, e => by cases e; exact hc
  | _ + 1, _, _, hc, ⟨_, hr, hp⟩ => pth_in hcl (hcl _ hc _ hr) hp
theorem fs_get {fs : List (Nat × Addr × List Nat)} {c : Nat} (hc : c ∈ fs.map (·.1)) (hn : (fs.map (·.1)).Nodup) : ∃ ad l, (c, ad, l) ∈ fs ∧ ∀ y, y ∈ l ↔ RfOf fs c y := by
  refine hide fun G0 hG0 => ?_
  obtain ⟨⟨c', ad, l⟩, hx, e⟩ := List.mem_map.mp hc
  refine hG0 ?_
  try clear hG0 G0
  dsimp only at e
  subst e
  refine ⟨ad, l, hx, fun y => ⟨fun hy => ⟨_, hx, rfl, hy⟩, fun ⟨z, hz, e, hy⟩ => ?_⟩⟩
  have := fs_key hn hz hx e
  subst this
  exact hy
inductive DueI (w : World) (s : Shared) (g' : PySem.Heap) (L' DD WL : Addr) (oC oK : Obj) (news : List (Addr × Obj)) (fs : List (Nat × Addr × List Nat)) (b : Nat) (k : Nat) (s' : Shared) : Prop
  | mk (sm : Sm s s') (m' : PySem.Str → Option Value) (newsI : List (Addr × Obj)) (oDx : Obj) (kvs : List (Nat × Value)) (dd : List (Nat × Nat)) (us : List Value) (nW : Nat) (ws : List Nat) (h0 : m' "waiting" = some (.ref WL)) (h1 : Fr g' L' s'.heap m') (h2 : News g' L' s'.heap newsI) (h3 : (L' + 1 + 1, oC) ∈ newsI) (h4 : (L' + 1, oK) ∈ newsI) (h5 : (DD, oDx) ∈ newsI) (h6 : (WL, lo us nW) ∈ newsI) (h7 : DI w oDx kvs) (h8 : DepsAre kvs dd) (h9 : (∀ p ∈ dd, Val (RfOf fs) p.1 p.2 ∧ p.2 ≤ 100)) (h10 : IntsAre us (zs ws)) (h11 : (∀ q ∈ news, q ∈ newsI)) (h12 : RI (RfOf fs) b 16 (dd.map (·.1)) ws) (h13 : 40 * (16 - dd.length) + ws.length ≤ 40 * 16 + 1) (h14 : k = 40 * (16 - dd.length) + ws.length) : DueI w s g' L' DD WL oC oK news fs b k s'
inductive DueJ (s : Shared) (g' : PySem.Heap) (L' WL : Addr) (news3 : List (Addr × Obj)) (fs : List (Nat × Addr × List Nat)) (y : Nat) (ty : Tok) (k : Nat) (s' : Shared) : Prop
  | mk (sm : Sm s s') (m2 : PySem.Str → Option Value) (newsJ : List (Addr × Obj)) (LL : Addr) (usL : List Value) (nL : Nat) (ly : List Nat) (k0 : Nat) (t0 : Tok) (h0 : m2 "waiting" = some (.ref WL)) (h1 : m2 "here" = some (.int (y : Int) ty)) (h2 : m2 "layer" = some (.ref LL)) (h3 : m2 "many" = some (.int ((k0 : Nat) : Int) t0)) (h4 : Fr g' L' s'.heap m2) (h5 : News g' L' s'.heap newsJ) (h6 : (∀ q ∈ news3, q ∈ newsJ)) (h7 : (LL, lo usL nL) ∈ newsJ) (h8 : IntsAre usL (zs ly)) (h9 : (∀ z, z ∈ ly ↔ Pth (RfOf fs) k0 y z)) (h10 : (∀ i, i < k0 → ∃ z, Pth (RfOf fs) i y z)) (h11 : k0 ≤ fs.length + 1) (h12 : ly.length ≤ 16) (h13 : k = fs.length + 1 - k0) : DueJ s g' L' WL news3 fs y ty k s'
section
variable {w : World} {A : Around} {g h : PySem.Heap} {L D : Addr} {m mg mb : PySem.Str → Option Value} {s : Shared} {news news' : List (Addr × Obj)} {p : Program} {loose : List PySem.Str} {E : Value → Shared → Prop} {fs : List (Nat × Addr × List Nat)}
set_option maxHeartbeats 8000000 in
theorem due_ok {b : Nat} {tb : Tok} {Q : Value → Shared → Prop}
   (F : Fr g L s.heap m) (N : News g L s.heap news) (X : (hd.heap_39 w.params).In g) (T : TopRead p loose mg mb g) (hr : RoomOk A 1)
   (R : RepL w news D fs) (hkn : (fs.map (·.1)).Nodup) (hb : b ∈ fs.map (·.1)) (hcl : ∀ x ∈ fs, ∀ y ∈ x.2.2, y ∈ fs.map (·.1)) (hlt : ∀ c ∈ fs.map (·.1), c < 16) (hfl : fs.length ≤ 10) (hll : ∀ x ∈ fs, x.2.2.length ≤ 20)
   (h : ∀ s' D' o kvs fd news', Sm s s' → Fr g L s'.heap m → News g L s'.heap news' → (∀ q ∈ news, q ∈ news') → (D', o) ∈ news' → (D' == sysModules) = false → DI w o kvs → DepsAre kvs fd → (fd.map (·.1)).Nodup → fd.length ≤ 16 →
      (∀ c d, (c, d) ∈ fd ↔ Rch (RfOf fs) b c ∧ Dep (RfOf fs) c d) → Q (.ref D') s') :
   wpAny (model P w) A (call (.ref 504) [.ref D, .int (b : Int) tb]) Q E s := by
  refine bd [("kids", .ref D), ("begin", .int (b : Int) tb)] ?_
  (refine' callC ?zF ?zN ?zX ?zT ?zR ?k6 ?k7 ?k9 ?kB ?c5 ?_ ?c2 ?c3 ?c4; (case zF | zN | zX | zR => assumption); (case zT => apply TopRead.nolimit; assumption); (case k6 | k7 => k_is); (case k9 | kB | c2 | c3 | c4 => exact rfl); (case c5 => decide); intros)
  rename_i g' L' h' tk' cells stay X' hr' F' N' Y ltY
  refine hide fun G0 hG0 => ?_
  obtain ⟨oD0, oK, rfl, hcD0, hcK0⟩ := CellsAre.two Y
  refine hG0 ?_
  try clear hG0 G0
  have hcK : oK.data = .cell (some (.ref D)) := hcK0
  have hcD : oD0.data = .cell none := hcD0
  clear hcK0 hcD0 Y
  have T' := T.keeps stay
  replace N' : News g' L' h' ((L' + 1 + 1, oD0) :: (L' + 1, oK) :: news) := N'
  clear X T F N
  repeat' ((fail_if_success guard_target = wpAny _ _ (eval (Expr.List _ _) _) _ _ _); (fail_if_success guard_target = wpAny _ _ (exec (Stmt.While _ _ _ _) _) _ _ _); (fail_if_success guard_target = wpAny _ _ (exec (Stmt.For _ _ _ _ _) _) _ _ _); walk_at "mine")
  have ltD := ltW
  have loD := loW
  have diD := diW
  generalize DW = DD at *
  generalize oW = oD at *
  ((fail_if_success guard_target = wpAny _ _ (exec (Stmt.While _ _ _ _) _) _ _ _); (fail_if_success guard_target = wpAny _ _ (exec (Stmt.For _ _ _ _ _) _) _ _ _); walk_at "mine")
  ((fail_if_success guard_target = wpAny _ _ (exec (Stmt.While _ _ _ _) _) _ _ _); (fail_if_success guard_target = wpAny _ _ (exec (Stmt.For _ _ _ _ _) _) _ _ _); walk_at "mine")
  ((fail_if_success guard_target = wpAny _ _ (exec (Stmt.While _ _ _ _) _) _ _ _); (fail_if_success guard_target = wpAny _ _ (exec (Stmt.For _ _ _ _ _) _) _ _ _); walk_at "mine")
  ((fail_if_success guard_target = wpAny _ _ (exec (Stmt.While _ _ _ _) _) _ _ _); (fail_if_success guard_target = wpAny _ _ (exec (Stmt.For _ _ _ _ _) _) _ _ _); walk_at "mine")
  ((fail_if_success guard_target = wpAny _ _ (exec (Stmt.While _ _ _ _) _) _ _ _); (fail_if_success guard_target = wpAny _ _ (exec (Stmt.For _ _ _ _ _) _) _ _ _); walk_at "mine")
  have ltWL := ltW
  generalize DW = WL at *
  repeat' (first | (guard_target = wpAny _ _ (compareOp CmpOp.NotEq (Value.ref _) (Value.ref _)) _ _ _; refine' rl_neB ?zr ?zN ?zm ?zl ?zi ?zj ?zk ?_; (case zr => with_reducible assumption); walk_at "aNm"; (case zl => k_mem); (case zi | zj => first | with_reducible assumption | exact nilN); (case zk => first | (show _ = true; simp; done) | (show _ = false; simp; done) | exact rfl)) | (guard_target = wpAny _ _ (compareOp CmpOp.Eq (Value.ref _) (Value.ref _)) _ _ _; refine' rl_eqB ?zr ?zN ?zm ?zl ?zi ?zj ?zk ?_; (case zr => with_reducible assumption); walk_at "aNm"; (case zl => k_mem); (case zi | zj => first | with_reducible assumption | exact nilN); (case zk => first | with_reducible assumption | exact rfl)) | ((fail_if_success guard_target = wpAny _ _ (exec (Stmt.While _ _ _ _) _) _ _ _); (fail_if_success guard_target = wpAny _ _ (exec (Stmt.For _ _ _ _ _) _) _ _ _); walk_at "mine"))
  have hcc : L' + 1 ≠ L' + 1 + 1 := Nat.ne_of_lt (Nat.lt_succ_self _)
  have d1 : L' + 1 + 1 ≠ DD := Nat.ne_of_lt (ltD (L' + 1 + 1, oD0) (.head _))
  have d2 : L' + 1 ≠ DD := Nat.ne_of_lt (ltD (L' + 1, oK) (.tail _ (.head _)))
  have d3 : L' + 1 + 1 ≠ WL := Nat.ne_of_lt (ltWL (L' + 1 + 1, oD0) (.tail _ (.head _)))
  have d4 : L' + 1 ≠ WL := Nat.ne_of_lt (ltWL (L' + 1, oK) (.tail _ (.tail _ (.head _))))
  have d5 : DD ≠ WL := Nat.ne_of_lt (ltWL (DD, oD) (.head _))
  have hn1 : ∀ q ∈ news, q.1 ≠ DD ∧ q.1 ≠ WL ∧ q.1 ≠ L' + 1 + 1 := fun q hq => ⟨Nat.ne_of_lt (ltD q (.tail _ (.tail _ hq))), Nat.ne_of_lt (ltWL q (.tail _ (.tail _ (.tail _ hq)))), Nat.ne_of_lt (Nat.lt_succ_of_lt (Nat.lt_succ_of_lt (ltY q hq)))⟩
  refine st_cell (news := (WL, lo [.int (b : Int) tb] 0) :: (DD, oD) :: (L' + 1 + 1, oD0) :: (L' + 1, oK) :: news) (by assumption) (nsub NW fun q hq => .tail _ hq) (by k_mem) hcD fun oC h2 F2 N2 hoC => ?_
  have hC2 : (L' + 1 + 1, oC) ∈ upd (L' + 1 + 1) oC ((WL, lo [.int (b : Int) tb] 0) :: (DD, oD) :: (L' + 1 + 1, oD0) :: (L' + 1, oK) :: news) := upd_self (o := oD0) (by k_mem)
  have hK2 : (L' + 1, oK) ∈ upd (L' + 1 + 1) oC ((WL, lo [.int (b : Int) tb] 0) :: (DD, oD) :: (L' + 1 + 1, oD0) :: (L' + 1, oK) :: news) := upd_ne (by k_mem) hcc
  have hD2 : (DD, oD) ∈ upd (L' + 1 + 1) oC ((WL, lo [.int (b : Int) tb] 0) :: (DD, oD) :: (L' + 1 + 1, oD0) :: (L' + 1, oK) :: news) := upd_ne (by k_mem) d1.symm
  have hW2 : (WL, lo [.int (b : Int) tb] 0) ∈ upd (L' + 1 + 1) oC ((WL, lo [.int (b : Int) tb] 0) :: (DD, oD) :: (L' + 1 + 1, oD0) :: (L' + 1, oK) :: news) := upd_ne (by k_mem) d3.symm
  have hsub2 : ∀ q ∈ news, q ∈ upd (L' + 1 + 1) oC ((WL, lo [.int (b : Int) tb] 0) :: (DD, oD) :: (L' + 1 + 1, oD0) :: (L' + 1, oK) :: news) := fun q hq => upd_ne (.tail _ (.tail _ (.tail _ (.tail _ hq)))) (hn1 q hq).2.2
  generalize upd (L' + 1 + 1) oC ((WL, lo [.int (b : Int) tb] 0) :: (DD, oD) :: (L' + 1 + 1, oD0) :: (L' + 1, oK) :: news) = news2 at *
  clear FW NW ltW F' N'
  repeat' (first | (guard_target = wpAny _ _ (compareOp CmpOp.NotEq (Value.ref _) (Value.ref _)) _ _ _; refine' rl_neB ?zr ?zN ?zm ?zl ?zi ?zj ?zk ?_; (case zr => with_reducible assumption); walk_at "aNm"; (case zl => k_mem); (case zi | zj => first | with_reducible assumption | exact nilN); (case zk => first | (show _ = true; simp; done) | (show _ = false; simp; done) | exact rfl)) | (guard_target = wpAny _ _ (compareOp CmpOp.Eq (Value.ref _) (Value.ref _)) _ _ _; refine' rl_eqB ?zr ?zN ?zm ?zl ?zi ?zj ?zk ?_; (case zr => with_reducible assumption); walk_at "aNm"; (case zl => k_mem); (case zi | zj => first | with_reducible assumption | exact nilN); (case zk => first | with_reducible assumption | exact rfl)) | ((fail_if_success guard_target = wpAny _ _ (exec (Stmt.While _ _ _ _) _) _ _ _); (fail_if_success guard_target = wpAny _ _ (exec (Stmt.For _ _ _ _ _) _) _ _ _); walk_at "mine"))
  have hclR : ∀ x ∈ fs.map (·.1), ∀ y, RfOf fs x y → y ∈ fs.map (·.1) := fun x _ y ⟨z, hz, _, hy⟩ => hcl z hz y hy
  refine while_walk (DueI w s g' L' DD WL oC oK news fs b)
    (40 * 16 + 1) ?start ?_
  case start =>
    refine' ⟨⟨rfl, rfl⟩, _, _, oD, [], [], _, _, [b], ?e1, ?eF, ?eN, hC2, hK2, hD2, hW2, diD, ⟨rfl, .nil⟩, (fun p hp => nomatch hp), intsAre_one _ _, hsub2, ?i3, Nat.le_refl _, rfl⟩
    case eF => assumption
    case eN => assumption
    case e1 => walk_at "mloc"
    case i3 => exact ⟨fun y hy => (nomatch hy), fun y hy => by rw [List.mem_singleton.mp hy]; exact ⟨.refl, hlt b hb⟩, fun y hy => (nomatch hy), .inr (.head _), List.nodup_nil⟩
  rintro k s' ⟨sm, m', newsI, oDx, kvs, dd, us, nW, ws, e1, F', N', hC, hK, hDx, hWx, dX, dA, hval, iW, hsub, hRI, hMz, rfl⟩ Z hZ
  have hkvl : kvs.length = dd.length := by have := congrArg List.length dA.keys; simpa using this
  have hddl : dd.length ≤ 16 := by have := hRI.len; simpa using this
  rcases List.eq_nil_or_concat ws with rfl | ⟨ws', y, rfl⟩
  · repeat' (first | (guard_target = wpAny _ _ (compareOp CmpOp.NotEq (Value.ref _) (Value.ref _)) _ _ _; refine' rl_neB ?zr ?zN ?zm ?zl ?zi ?zj ?zk ?_; (case zr => with_reducible assumption); walk_at "aNm"; (case zl => k_mem); (case zi | zj => first | with_reducible assumption | exact nilN); (case zk => first | (show _ = true; simp; done) | (show _ = false; simp; done) | exact rfl)) | (guard_target = wpAny _ _ (compareOp CmpOp.Eq (Value.ref _) (Value.ref _)) _ _ _; refine' rl_eqB ?zr ?zN ?zm ?zl ?zi ?zj ?zk ?_; (case zr => with_reducible assumption); walk_at "aNm"; (case zl => k_mem); (case zi | zj => first | with_reducible assumption | exact nilN); (case zk => first | with_reducible assumption | exact rfl)) | ((fail_if_success guard_target = wpAny _ _ (exec (Stmt.While _ _ _ _) _) _ _ _); (fail_if_success guard_target = wpAny _ _ (exec (Stmt.For _ _ _ _ _) _) _ _ _); walk_at "mine"))
    refine comp_walk (srcO := [(DD, oDx)]) FW NW hr'.hh (n := kvs.length) (by lia) (by decide) rfl rfl (Src.dict (NW _ (.tail _ hDx)).1 dX loD) (fun q hq => by rw [List.mem_singleton.mp hq]; exact .tail _ hDx)
      (fun i ys news' => (∃ prs : List (Nat × Value), ys.length = prs.length ∧ (∀ (j : Nat) v (k : Nat) x, ys[j]? = some v → prs[j]? = some (k, x) → ∃ b t n, v = .ref b ∧ (b, Mine.tu [.int (k : Int) t, x] n) ∈ news') ∧ DepsAre prs ((dd.take i).filter fun p => decide (0 < p.2))) ∧ ∀ q ∈ newsI, q ∈ news')
      ⟨⟨[], rfl, fun j v k x hv => by simp at hv, ⟨rfl, .nil⟩⟩, fun q hq => .tail _ hq⟩ ?tR ?fR
    case tR =>
      rintro j v ys mC news' ext C s' hj hv sm7 F7 hmC N7 hdis hsrc7 hJ0 Z Z0 hZ hZ0
      refine hide fun G0 hG0 => ?_
      obtain ⟨⟨prs, hpl, hpt, hpd⟩, hsub7⟩ := hJ0
      obtain ⟨c, tc, hc, rfl⟩ := hv
      refine hG0 ?_
      try clear hG0 G0
      have hjd : j < dd.length := by lia
      have hdj : dd[j]? = some (dd[j]'hjd) := List.getElem?_eq_getElem hjd
      have htake : dd.take (j + 1) = dd.take j ++ [dd[j]'hjd] := by rw [List.take_add_one, hdj]; rfl
      have hmem := List.getElem_mem hjd
      have hcd : (dd[j]'hjd).1 = c := by
        rw [dA.keys, List.getElem?_map, hdj] at hc
        exact Option.some.inj hc
      have hval7 := (hval _ hmem).2
      generalize dd[j]'hjd = cd at *
      refine hide fun G0 hG0 => ?_
      obtain ⟨c', dv⟩ := cd
      dsimp only at hcd hval7
      subst hcd
      obtain ⟨td, hlkd⟩ := dA.get hRI.nd hmem
      refine hG0 ?_
      try clear hG0 G0
      have hC7 : (L' + 1 + 1, oC) ∈ ext ++ news' := List.mem_append_right _ (hsub7 _ hC)
      have hD7 : (DD, oDx) ∈ ext ++ news' := List.mem_append_right _ (hsub7 _ hDx)
      refine wpAny_tests_one ?_
      clear FW NW F' N'
      by_cases hd0 : 0 < dv
      · have hd0' : (0 : Int) < (dv : Int) := by lia
        repeat' (first | (guard_target = wpAny _ _ (compareOp CmpOp.NotEq (Value.ref _) (Value.ref _)) _ _ _; refine' rl_neB ?zr ?zN ?zm ?zl ?zi ?zj ?zk ?_; (case zr => with_reducible assumption); walk_at "aNm"; (case zl => k_mem); (case zi | zj => first | with_reducible assumption | exact nilN); (case zk => first | (show _ = true; simp; done) | (show _ = false; simp; done) | exact rfl)) | (guard_target = wpAny _ _ (compareOp CmpOp.Eq (Value.ref _) (Value.ref _)) _ _ _; refine' rl_eqB ?zr ?zN ?zm ?zl ?zi ?zj ?zk ?_; (case zr => with_reducible assumption); walk_at "aNm"; (case zl => k_mem); (case zi | zj => first | with_reducible assumption | exact nilN); (case zk => first | with_reducible assumption | exact rfl)) | ((fail_if_success guard_target = wpAny _ _ (exec (Stmt.While _ _ _ _) _) _ _ _); (fail_if_success guard_target = wpAny _ _ (exec (Stmt.For _ _ _ _ _) _) _ _ _); walk_at "mine"))
        all_goals try (exfalso; lia)
        refine hZ _ _ ⟨⟨sm7.1, sm7.2⟩, mC, (DW, Mine.tu [.int (c' : Int) tc, .int (dv : Int) td] 0) :: news', FW, nsub NW fun q hq => ?_, fun p hp q hq => ?_, fun q hq => .tail _ (hsrc7 q hq), ⟨prs ++ [(c', .int (dv : Int) td)], by simp [hpl], fun i v k x hv hk => ?_, ?_⟩, fun q hq => .tail _ (hsub7 q hq)⟩
        · rcases List.mem_append.mp hq with hq | hq
          · exact .tail _ (List.mem_append_left _ hq)
          · rcases List.mem_cons.mp hq with rfl | hq
            · exact .head _
            · exact .tail _ (List.mem_append_right _ hq)
        · rcases List.mem_cons.mp hq with rfl | hq
          · exact Nat.ne_of_lt (ltW p (List.mem_append_left _ hp))
          · exact hdis p hp q hq
        · by_cases hi : i < ys.length
          · rw [List.getElem?_append_left hi] at hv
            rw [List.getElem?_append_left (by lia)] at hk
            refine hide fun G0 hG0 => ?_
            obtain ⟨b, t, n, e, hb⟩ := hpt i v k x hv hk
            refine hG0 ?_
            try clear hG0 G0
            exact ⟨b, t, n, e, .tail _ hb⟩
          · have hie : i = ys.length := by
              have := (List.getElem?_eq_some_iff.mp hv).1
              simp at this; lia
            subst hie
            rw [List.getElem?_append_right (Nat.le_refl _), Nat.sub_self] at hv
            rw [List.getElem?_append_right (by lia), show ys.length - prs.length = 0 by lia] at hk
            simp at hv hk
            obtain ⟨rfl, rfl⟩ := hk
            subst hv
            exact ⟨DW, tc, 0, rfl, .head _⟩
        · rw [htake, List.filter_append]
          have : [(c', dv)].filter (fun p => decide (0 < p.2)) = [(c', dv)] := by simp [hd0]
          rw [this]
          exact hpd.push c' dv td
      · have hd0' : ¬ (0 : Int) < (dv : Int) := by lia
        repeat' (first | (guard_target = wpAny _ _ (compareOp CmpOp.NotEq (Value.ref _) (Value.ref _)) _ _ _; refine' rl_neB ?zr ?zN ?zm ?zl ?zi ?zj ?zk ?_; (case zr => with_reducible assumption); walk_at "aNm"; (case zl => k_mem); (case zi | zj => first | with_reducible assumption | exact nilN); (case zk => first | (show _ = true; simp; done) | (show _ = false; simp; done) | exact rfl)) | (guard_target = wpAny _ _ (compareOp CmpOp.Eq (Value.ref _) (Value.ref _)) _ _ _; refine' rl_eqB ?zr ?zN ?zm ?zl ?zi ?zj ?zk ?_; (case zr => with_reducible assumption); walk_at "aNm"; (case zl => k_mem); (case zi | zj => first | with_reducible assumption | exact nilN); (case zk => first | with_reducible assumption | exact rfl)) | ((fail_if_success guard_target = wpAny _ _ (exec (Stmt.While _ _ _ _) _) _ _ _); (fail_if_success guard_target = wpAny _ _ (exec (Stmt.For _ _ _ _ _) _) _ _ _); walk_at "mine"))
        all_goals try (exfalso; lia)
        refine hZ0 _ ⟨⟨sm7.1, sm7.2⟩, mC, news', by assumption, by assumption, hdis, hsrc7, ⟨prs, hpl, hpt, ?_⟩, hsub7⟩
        rw [htake, List.filter_append]
        have : [(c', dv)].filter (fun p => decide (0 < p.2)) = [] := by simp; lia
        rw [this, List.append_nil]
        exact hpd
    case fR =>
      rintro D8 c8 ys news8 s8 sm8 F8 N8 hD8 hlt8 ⟨⟨prs, hpl, hpt, hpd⟩, hsub8⟩
      replace N8 : News g' L' s8.heap ((D8, lo ys c8) :: news8) := N8
      have e0 : dd.take kvs.length = dd := List.take_of_length_le (by lia)
      rw [e0] at hpd
      have hfl2 : (dd.filter fun p => decide (0 < p.2)).length ≤ dd.length := List.length_filter_le _ _
      have hndF : ((dd.filter fun p => decide (0 < p.2)).map (·.1)).Nodup := hRI.nd.sublist (List.Sublist.map _ List.filter_sublist)
      have hprl : prs.length = (dd.filter fun p => decide (0 < p.2)).length := by have := congrArg List.length hpd.keys; simpa using this
      clear FW NW F' N'
      repeat' (first | (guard_target = wpAny _ _ (compareOp CmpOp.NotEq (Value.ref _) (Value.ref _)) _ _ _; refine' rl_neB ?zr ?zN ?zm ?zl ?zi ?zj ?zk ?_; (case zr => with_reducible assumption); walk_at "aNm"; (case zl => k_mem); (case zi | zj => first | with_reducible assumption | exact nilN); (case zk => first | (show _ = true; simp; done) | (show _ = false; simp; done) | exact rfl)) | (guard_target = wpAny _ _ (compareOp CmpOp.Eq (Value.ref _) (Value.ref _)) _ _ _; refine' rl_eqB ?zr ?zN ?zm ?zl ?zi ?zj ?zk ?_; (case zr => with_reducible assumption); walk_at "aNm"; (case zl => k_mem); (case zi | zj => first | with_reducible assumption | exact nilN); (case zk => first | with_reducible assumption | exact rfl)) | ((fail_if_success guard_target = wpAny _ _ (exec (Stmt.While _ _ _ _) _) _ _ _); (fail_if_success guard_target = wpAny _ _ (exec (Stmt.For _ _ _ _ _) _) _ _ _); walk_at "mine"))
      refine rd_ofPairs hr' (by assumption) (by assumption) (by apply TopRead.nolimit; assumption) (.head _) hpl (by rw [hpd.keys]; exact hndF) (by lia) (fun i v k x hv hk => by
        refine hide fun G0 hG0 => ?_
        obtain ⟨b, t, n, e, hb⟩ := hpt i v k x hv hk
        refine hG0 ?_
        try clear hG0 G0
        exact ⟨b, t, n, e, .tail _ hb⟩) fun D9 o9 h9 tk9 F9 N9 lt9 lo9 d9 => ?_
      repeat' (first | (guard_target = wpAny _ _ (compareOp CmpOp.NotEq (Value.ref _) (Value.ref _)) _ _ _; refine' rl_neB ?zr ?zN ?zm ?zl ?zi ?zj ?zk ?_; (case zr => with_reducible assumption); walk_at "aNm"; (case zl => k_mem); (case zi | zj => first | with_reducible assumption | exact nilN); (case zk => first | (show _ = true; simp; done) | (show _ = false; simp; done) | exact rfl)) | (guard_target = wpAny _ _ (compareOp CmpOp.Eq (Value.ref _) (Value.ref _)) _ _ _; refine' rl_eqB ?zr ?zN ?zm ?zl ?zi ?zj ?zk ?_; (case zr => with_reducible assumption); walk_at "aNm"; (case zl => k_mem); (case zi | zj => first | with_reducible assumption | exact nilN); (case zk => first | with_reducible assumption | exact rfl)) | ((fail_if_success guard_target = wpAny _ _ (exec (Stmt.While _ _ _ _) _) _ _ _); (fail_if_success guard_target = wpAny _ _ (exec (Stmt.For _ _ _ _ _) _) _ _ _); walk_at "mine"))
      exact lv_ret (by assumption) (by assumption) fun Fx Nx => h _ D9 o9 prs _ _ ⟨sm8.1.trans sm.1, sm8.2.trans sm.2⟩ Fx Nx (fun q hq => .tail _ (.tail _ (hsub8 q (hsub q hq)))) (.head _) lo9 d9 hpd hndF (by lia) (val_done (fun p hp => (hval p hp).1) hRI)
  · rw [List.concat_eq_append] at *
    refine hide fun G0 hG0 => ?_
    obtain ⟨us', ty, rfl, iW'⟩ := intsAre_snoc iW
    refine hG0 ?_
    try clear hG0 G0
    have hwl := IntsAre.len iW'
    have hy := hRI.hw y (by simp)
    have hwz : ws'.length ≤ 40 * 16 := by rw [List.length_append] at hMz; simp at hMz; lia
    repeat' (first | (guard_target = wpAny _ _ (compareOp CmpOp.NotEq (Value.ref _) (Value.ref _)) _ _ _; refine' rl_neB ?zr ?zN ?zm ?zl ?zi ?zj ?zk ?_; (case zr => with_reducible assumption); walk_at "aNm"; (case zl => k_mem); (case zi | zj => first | with_reducible assumption | exact nilN); (case zk => first | (show _ = true; simp; done) | (show _ = false; simp; done) | exact rfl)) | (guard_target = wpAny _ _ (compareOp CmpOp.Eq (Value.ref _) (Value.ref _)) _ _ _; refine' rl_eqB ?zr ?zN ?zm ?zl ?zi ?zj ?zk ?_; (case zr => with_reducible assumption); walk_at "aNm"; (case zl => k_mem); (case zi | zj => first | with_reducible assumption | exact nilN); (case zk => first | with_reducible assumption | exact rfl)) | ((fail_if_success guard_target = wpAny _ _ (exec (Stmt.While _ _ _ _) _) _ _ _); (fail_if_success guard_target = wpAny _ _ (exec (Stmt.For _ _ _ _ _) _) _ _ _); walk_at "mine"))
    refine rl_pop (news := newsI) (by assumption) (nsub NW fun q hq => List.mem_cons_of_mem _ hq) hWx (by lia) fun h3 n3 F3 N3 => ?_
    clear FW NW F' N' ltW
    have hC3 := upd_ne (a := WL) (o := lo us' n3) hC d3
    have hK3 := upd_ne (a := WL) (o := lo us' n3) hK d4
    have hD3 := upd_ne (a := WL) (o := lo us' n3) hDx d5
    have hW3 := upd_self (o' := lo us' n3) hWx
    have hsub3 : ∀ q ∈ news, q ∈ upd WL (lo us' n3) newsI := fun q hq => upd_ne (hsub q hq) (hn1 q hq).2.1
    generalize upd WL (lo us' n3) newsI = news3 at *
    have hyk : y ∈ fs.map (·.1) := rch_in hb hclR hy.1
    by_cases hys : y ∈ dd.map (·.1)
    · obtain ⟨bv, hbv⟩ : ∃ bv, lk kvs y = some bv := by
        cases q : lk kvs y with
        | none => exact absurd hys (dA.none.mp q)
        | some b => exact ⟨b, rfl⟩
      repeat' (first | (guard_target = wpAny _ _ (compareOp CmpOp.NotEq (Value.ref _) (Value.ref _)) _ _ _; refine' rl_neB ?zr ?zN ?zm ?zl ?zi ?zj ?zk ?_; (case zr => with_reducible assumption); walk_at "aNm"; (case zl => k_mem); (case zi | zj => first | with_reducible assumption | exact nilN); (case zk => first | (show _ = true; simp; done) | (show _ = false; simp; done) | exact rfl)) | (guard_target = wpAny _ _ (compareOp CmpOp.Eq (Value.ref _) (Value.ref _)) _ _ _; refine' rl_eqB ?zr ?zN ?zm ?zl ?zi ?zj ?zk ?_; (case zr => with_reducible assumption); walk_at "aNm"; (case zl => k_mem); (case zi | zj => first | with_reducible assumption | exact nilN); (case zk => first | with_reducible assumption | exact rfl)) | ((fail_if_success guard_target = wpAny _ _ (exec (Stmt.While _ _ _ _) _) _ _ _); (fail_if_success guard_target = wpAny _ _ (exec (Stmt.For _ _ _ _ _) _) _ _ _); walk_at "mine"))
      rw [List.length_append] at hMz hZ
      refine nx <| hZ _ ⟨40 * (16 - dd.length) + ws'.length, by simp, ⟨sm.1, sm.2⟩, _, _, oDx, kvs, dd, us', n3, ws', ?_, by assumption, by assumption, hC3, hK3, hD3, hW3, dX, dA, hval, iW', hsub3, hRI.old hys, by simp at hMz; lia, rfl⟩
      exact (if_neg (by decide)).trans e1
    · have hln := dA.none.mpr hys
      repeat' (first | (guard_target = wpAny _ _ (compareOp CmpOp.NotEq (Value.ref _) (Value.ref _)) _ _ _; refine' rl_neB ?zr ?zN ?zm ?zl ?zi ?zj ?zk ?_; (case zr => with_reducible assumption); walk_at "aNm"; (case zl => k_mem); (case zi | zj => first | with_reducible assumption | exact nilN); (case zk => first | (show _ = true; simp; done) | (show _ = false; simp; done) | exact rfl)) | (guard_target = wpAny _ _ (compareOp CmpOp.Eq (Value.ref _) (Value.ref _)) _ _ _; refine' rl_eqB ?zr ?zN ?zm ?zl ?zi ?zj ?zk ?_; (case zr => with_reducible assumption); walk_at "aNm"; (case zl => k_mem); (case zi | zj => first | with_reducible assumption | exact nilN); (case zk => first | with_reducible assumption | exact rfl)) | ((fail_if_success guard_target = wpAny _ _ (exec (Stmt.While _ _ _ _) _) _ _ _); (fail_if_success guard_target = wpAny _ _ (exec (Stmt.For _ _ _ _ _) _) _ _ _); walk_at "mine"))
      have hT0 := ltW
      refine hide fun G0 hG0 => ?_
      obtain ⟨ad, lY, hxY, hlY⟩ := fs_get hyk hkn
      refine hG0 ?_
      try clear hG0 G0
      have hlkY := lk_refs hkn hxY
      have hllY := hll _ hxY
      have d4' := d4
      dsimp only at hlkY hllY
      refine while_walk (DueJ s g' L' WL news3 fs y ty) (fs.length + 1) ?st2 ?_
      case st2 =>
        refine' ⟨⟨sm.1, sm.2⟩, _, _, _, _, _, [y], 0, _, ?e1, ?e2, ?e3, ?e4, ?eF, ?eN, ?eS, ?eL, intsAre_one _ _, ?ep, (fun i hi => absurd hi (Nat.not_lt_zero _)), Nat.zero_le _, ?el, rfl⟩
        case eF => assumption
        case eN => assumption
        case e1 => exact (if_neg (by decide)).trans ((if_neg (by decide)).trans ((if_neg (by decide)).trans e1))
        case e2 => walk_at "mloc"
        case e3 => walk_at "mloc"
        case e4 => walk_at "mloc"
        case eS => exact fun q hq => .tail _ (.tail _ hq)
        case eL => k_mem
        case ep => exact fun z => ⟨fun h => (List.mem_singleton.mp h).symm, fun h => List.mem_singleton.mpr h.symm⟩
        case el => simp
      rintro k2 s2 ⟨sm2, m2, newsJ, LL, usL, nL, ly, k0, t0, f1, f2, f3, f4, F2, N2, hsubJ, hLL, iL, hpth, hpre, hk0, hlyl, rfl⟩ Z2 hZ2
      have hpin : ∀ z ∈ ly, z ∈ fs.map (·.1) := fun z hz => pth_in hclR hyk ((hpth z).mp hz)
      have hKJ := hsubJ _ hK3
      have hCJ := hsubJ _ hC3
      have hDJ := hsubJ _ hD3
      have RJ := R.mono fun q hq => hsubJ _ (hsub3 q hq)
      refine hide fun G0 hG0 => ?_
      obtain ⟨oFJ, hFJ, dFJ⟩ := RJ.hD
      refine hG0 ?_
      try clear hG0 G0
      have hlm : (fs.map fun x => (x.1, Value.ref x.2.1)).length = fs.length := List.length_map _
      have loK := R.lo
      have hzK : (fs.map fun x => (x.1, Value.ref x.2.1)).length ≤ 1000 := by lia
      rcases ly with _ | ⟨z0, ly0⟩
      · have hcmp : decide (([] : List Nat) = []) = true := by simp
        repeat' (first | (guard_target = wpAny _ _ (compareOp CmpOp.NotEq (Value.ref _) (Value.ref _)) _ _ _; refine' rl_neB ?zr ?zN ?zm ?zl ?zi ?zj ?zk ?_; (case zr => with_reducible assumption); walk_at "aNm"; (case zl => k_mem); (case zi | zj => first | with_reducible assumption | exact nilN); (case zk => first | (show _ = true; simp; done) | (show _ = false; simp; done) | exact rfl)) | (guard_target = wpAny _ _ (compareOp CmpOp.Eq (Value.ref _) (Value.ref _)) _ _ _; refine' rl_eqB ?zr ?zN ?zm ?zl ?zi ?zj ?zk ?_; (case zr => with_reducible assumption); walk_at "aNm"; (case zl => k_mem); (case zi | zj => first | with_reducible assumption | exact nilN); (case zk => first | with_reducible assumption | exact rfl)) | ((fail_if_success guard_target = wpAny _ _ (exec (Stmt.While _ _ _ _) _) _ _ _); (fail_if_success guard_target = wpAny _ _ (exec (Stmt.For _ _ _ _ _) _) _ _ _); walk_at "mine"))
        refine rd_set (news := newsJ) (by assumption) (nsub NW fun q hq => .tail _ (.tail _ hq)) hDJ dX (by lia) fun o4 h4 F4 N4 d4 => ?_
        rw [put_new hln] at d4
        have hC4 := upd_ne (o := o4) hCJ d1
        have hK4 := upd_ne (o := o4) hKJ d2
        have hW4 := upd_ne (o := o4) (hsubJ _ hW3) d5.symm
        have hD4 := upd_self (o' := o4) hDJ
        have hsub4 : ∀ q ∈ news, q ∈ upd DD o4 newsJ := fun q hq => upd_ne (hsubJ _ (hsub3 q hq)) (hn1 q hq).1
        clear FW NW F2 N2 RJ hFJ dFJ hKJ hCJ hDJ
        generalize upd DD o4 newsJ = news4 at *
        have R4 := R.mono hsub4
        refine hide fun G0 hG0 => ?_
        obtain ⟨oF4, hF4, dF4⟩ := R4.hD
        obtain ⟨usA, nA, hA, hAi⟩ := R4.ls _ hxY
        refine hG0 ?_
        try clear hG0 G0
        dsimp only at hA hAi
        have hAl := IntsAre.len hAi
        repeat' (first | (guard_target = wpAny _ _ (compareOp CmpOp.NotEq (Value.ref _) (Value.ref _)) _ _ _; refine' rl_neB ?zr ?zN ?zm ?zl ?zi ?zj ?zk ?_; (case zr => with_reducible assumption); walk_at "aNm"; (case zl => k_mem); (case zi | zj => first | with_reducible assumption | exact nilN); (case zk => first | (show _ = true; simp; done) | (show _ = false; simp; done) | exact rfl)) | (guard_target = wpAny _ _ (compareOp CmpOp.Eq (Value.ref _) (Value.ref _)) _ _ _; refine' rl_eqB ?zr ?zN ?zm ?zl ?zi ?zj ?zk ?_; (case zr => with_reducible assumption); walk_at "aNm"; (case zl => k_mem); (case zi | zj => first | with_reducible assumption | exact nilN); (case zk => first | with_reducible assumption | exact rfl)) | ((fail_if_success guard_target = wpAny _ _ (exec (Stmt.While _ _ _ _) _) _ _ _); (fail_if_success guard_target = wpAny _ _ (exec (Stmt.For _ _ _ _ _) _) _ _ _); walk_at "mine"))
        refine rl_extend (news := news4) (by assumption) (by assumption) hW4 hA (by lia) fun h6 n6 F6 N6 => ?_
        repeat' (first | (guard_target = wpAny _ _ (compareOp CmpOp.NotEq (Value.ref _) (Value.ref _)) _ _ _; refine' rl_neB ?zr ?zN ?zm ?zl ?zi ?zj ?zk ?_; (case zr => with_reducible assumption); walk_at "aNm"; (case zl => k_mem); (case zi | zj => first | with_reducible assumption | exact nilN); (case zk => first | (show _ = true; simp; done) | (show _ = false; simp; done) | exact rfl)) | (guard_target = wpAny _ _ (compareOp CmpOp.Eq (Value.ref _) (Value.ref _)) _ _ _; refine' rl_eqB ?zr ?zN ?zm ?zl ?zi ?zj ?zk ?_; (case zr => with_reducible assumption); walk_at "aNm"; (case zl => k_mem); (case zi | zj => first | with_reducible assumption | exact nilN); (case zk => first | with_reducible assumption | exact rfl)) | ((fail_if_success guard_target = wpAny _ _ (exec (Stmt.While _ _ _ _) _) _ _ _); (fail_if_success guard_target = wpAny _ _ (exec (Stmt.For _ _ _ _ _) _) _ _ _); walk_at "mine"))
        have hRI2 : RI (RfOf fs) b 16 ((dd ++ [(y, k0)]).map (·.1)) (ws' ++ lY) := by
          rw [List.map_append]
          exact hRI.new hys hlY fun z hz => hlt z (hclR y hyk z ((hlY z).mp hz))
        have hlen2 := hRI2.len
        rw [List.length_map, List.length_append, List.length_singleton] at hlen2
        rw [List.length_append, List.length_singleton] at hMz hZ
        refine nx <| hZ _ ⟨40 * (16 - (dd ++ [(y, k0)]).length) + (ws' ++ lY).length, by simp only [List.length_append, List.length_singleton]; lia, ⟨sm2.1, sm2.2⟩, _, _, o4, _, dd ++ [(y, k0)], _, n6, ws' ++ lY, ?_, by assumption, by assumption, upd_ne hC4 d3, upd_ne hK4 d4', upd_ne hD4 d5, upd_self hW4, d4, dA.push y k0 _, fun p hp => ?_, intsAre_append iW' hAi, fun q hq => upd_ne (hsub4 q hq) (hn1 q hq).2.1, hRI2, by simp only [List.length_append, List.length_singleton]; lia, rfl⟩
        · exact f1
        · rcases List.mem_append.mp hp with hp | hp
          · exact hval p hp
          · rw [List.mem_singleton.mp hp]
            refine ⟨?_, by show k0 ≤ 100; lia⟩
            have hve := val_end hclR hyk hpth hpre (.inl rfl)
            simpa using hve
      · by_cases hkf : ¬ k0 ≤ fs.length
        · have hkf' : ¬ (k0 : Int) ≤ ((fs.map fun x => (x.1, Value.ref x.2.1)).length : Int) := by lia
          have hcmp : decide (z0 :: ly0 = []) = false := by simp
          repeat' (first | (guard_target = wpAny _ _ (compareOp CmpOp.NotEq (Value.ref _) (Value.ref _)) _ _ _; refine' rl_neB ?zr ?zN ?zm ?zl ?zi ?zj ?zk ?_; (case zr => with_reducible assumption); walk_at "aNm"; (case zl => k_mem); (case zi | zj => first | with_reducible assumption | exact nilN); (case zk => first | (show _ = true; simp; done) | (show _ = false; simp; done) | exact rfl)) | (guard_target = wpAny _ _ (compareOp CmpOp.Eq (Value.ref _) (Value.ref _)) _ _ _; refine' rl_eqB ?zr ?zN ?zm ?zl ?zi ?zj ?zk ?_; (case zr => with_reducible assumption); walk_at "aNm"; (case zl => k_mem); (case zi | zj => first | with_reducible assumption | exact nilN); (case zk => first | with_reducible assumption | exact rfl)) | ((fail_if_success guard_target = wpAny _ _ (exec (Stmt.While _ _ _ _) _) _ _ _); (fail_if_success guard_target = wpAny _ _ (exec (Stmt.For _ _ _ _ _) _) _ _ _); walk_at "mine"))
          refine rd_set (news := newsJ) (by assumption) (nsub NW fun q hq => .tail _ (.tail _ hq)) hDJ dX (by lia) fun o4 h4 F4 N4 d4 => ?_
          rw [put_new hln] at d4
          have hC4 := upd_ne (o := o4) hCJ d1
          have hK4 := upd_ne (o := o4) hKJ d2
          have hW4 := upd_ne (o := o4) (hsubJ _ hW3) d5.symm
          have hD4 := upd_self (o' := o4) hDJ
          have hsub4 : ∀ q ∈ news, q ∈ upd DD o4 newsJ := fun q hq => upd_ne (hsubJ _ (hsub3 q hq)) (hn1 q hq).1
          clear FW NW F2 N2 RJ hFJ dFJ hKJ hCJ hDJ
          generalize upd DD o4 newsJ = news4 at *
          have R4 := R.mono hsub4
          refine hide fun G0 hG0 => ?_
          obtain ⟨oF4, hF4, dF4⟩ := R4.hD
          obtain ⟨usA, nA, hA, hAi⟩ := R4.ls _ hxY
          refine hG0 ?_
          try clear hG0 G0
          dsimp only at hA hAi
          have hAl := IntsAre.len hAi
          repeat' (first | (guard_target = wpAny _ _ (compareOp CmpOp.NotEq (Value.ref _) (Value.ref _)) _ _ _; refine' rl_neB ?zr ?zN ?zm ?zl ?zi ?zj ?zk ?_; (case zr => with_reducible assumption); walk_at "aNm"; (case zl => k_mem); (case zi | zj => first | with_reducible assumption | exact nilN); (case zk => first | (show _ = true; simp; done) | (show _ = false; simp; done) | exact rfl)) | (guard_target = wpAny _ _ (compareOp CmpOp.Eq (Value.ref _) (Value.ref _)) _ _ _; refine' rl_eqB ?zr ?zN ?zm ?zl ?zi ?zj ?zk ?_; (case zr => with_reducible assumption); walk_at "aNm"; (case zl => k_mem); (case zi | zj => first | with_reducible assumption | exact nilN); (case zk => first | with_reducible assumption | exact rfl)) | ((fail_if_success guard_target = wpAny _ _ (exec (Stmt.While _ _ _ _) _) _ _ _); (fail_if_success guard_target = wpAny _ _ (exec (Stmt.For _ _ _ _ _) _) _ _ _); walk_at "mine"))
          refine rl_extend (news := news4) (by assumption) (by assumption) hW4 hA (by lia) fun h6 n6 F6 N6 => ?_
          repeat' (first | (guard_target = wpAny _ _ (compareOp CmpOp.NotEq (Value.ref _) (Value.ref _)) _ _ _; refine' rl_neB ?zr ?zN ?zm ?zl ?zi ?zj ?zk ?_; (case zr => with_reducible assumption); walk_at "aNm"; (case zl => k_mem); (case zi | zj => first | with_reducible assumption | exact nilN); (case zk => first | (show _ = true; simp; done) | (show _ = false; simp; done) | exact rfl)) | (guard_target = wpAny _ _ (compareOp CmpOp.Eq (Value.ref _) (Value.ref _)) _ _ _; refine' rl_eqB ?zr ?zN ?zm ?zl ?zi ?zj ?zk ?_; (case zr => with_reducible assumption); walk_at "aNm"; (case zl => k_mem); (case zi | zj => first | with_reducible assumption | exact nilN); (case zk => first | with_reducible assumption | exact rfl)) | ((fail_if_success guard_target = wpAny _ _ (exec (Stmt.While _ _ _ _) _) _ _ _); (fail_if_success guard_target = wpAny _ _ (exec (Stmt.For _ _ _ _ _) _) _ _ _); walk_at "mine"))
          have hRI2 : RI (RfOf fs) b 16 ((dd ++ [(y, (0 : Nat))]).map fun q => q.1) (ws' ++ lY) := by
            rw [List.map_append]
            exact hRI.new hys hlY fun z hz => hlt z (hclR y hyk z ((hlY z).mp hz))
          have hlen2 := hRI2.len
          rw [List.length_map, List.length_append, List.length_singleton] at hlen2
          rw [List.length_append, List.length_singleton] at hMz hZ
          refine nx <| hZ _ ⟨40 * (16 - (dd ++ [(y, (0 : Nat))]).length) + (ws' ++ lY).length, by simp only [List.length_append, List.length_singleton]; lia, ⟨sm2.1, sm2.2⟩, _, _, o4, _, dd ++ [(y, (0 : Nat))], _, n6, ws' ++ lY, ?_, by assumption, by assumption, upd_ne hC4 d3, upd_ne hK4 d4', upd_ne hD4 d5, upd_self hW4, d4, dA.push y 0 _, fun p hp => ?_, intsAre_append iW' hAi, fun q hq => upd_ne (hsub4 q hq) (hn1 q hq).2.1, hRI2, by simp only [List.length_append, List.length_singleton]; lia, rfl⟩
          · exact f1
          · rcases List.mem_append.mp hp with hp | hp
            · exact hval p hp
            · rw [List.mem_singleton.mp hp]
              refine ⟨?_, by show 0 ≤ 100; lia⟩
              have hve := val_end hclR hyk hpth hpre (.inr (by rw [List.length_map]; lia))
              simpa using hve
        · replace hkf : k0 ≤ fs.length := Decidable.not_not.mp hkf
          have hkf' : (k0 : Int) ≤ ((fs.map fun x => (x.1, Value.ref x.2.1)).length : Int) := by lia
          have hlL := IntsAre.len iL
          repeat' (first | (guard_target = wpAny _ _ (compareOp CmpOp.NotEq (Value.ref _) (Value.ref _)) _ _ _; refine' rl_neB ?zr ?zN ?zm ?zl ?zi ?zj ?zk ?_; (case zr => with_reducible assumption); walk_at "aNm"; (case zl => k_mem); (case zi | zj => first | with_reducible assumption | exact nilN); (case zk => first | (show _ = true; simp; done) | (show _ = false; simp; done) | exact rfl)) | (guard_target = wpAny _ _ (compareOp CmpOp.Eq (Value.ref _) (Value.ref _)) _ _ _; refine' rl_eqB ?zr ?zN ?zm ?zl ?zi ?zj ?zk ?_; (case zr => with_reducible assumption); walk_at "aNm"; (case zl => k_mem); (case zi | zj => first | with_reducible assumption | exact nilN); (case zk => first | with_reducible assumption | exact rfl)) | ((fail_if_success guard_target = wpAny _ _ (exec (Stmt.While _ _ _ _) _) _ _ _); (fail_if_success guard_target = wpAny _ _ (exec (Stmt.For _ _ _ _ _) _) _ _ _); walk_at "mine"))
          refine comp2_walk (srcO := [(LL, lo usL nL)]) FW NW hr'.hh (by rw [List.size_toArray]; lia) (by decide) rfl rfl rfl (by decide) (Src.list (rl_list NW (.tail _ hLL))) (fun q hq => by rw [List.mem_singleton.mp hq]; exact .tail _ hLL)
            (fun i ys news' => (∃ ds, IntsAre ys (zs ds) ∧ (∀ z, z ∈ ds ↔ ∃ c ∈ (z0 :: ly0).take i, RfOf fs c z) ∧ ds.length ≤ 20 * i) ∧ ∀ q ∈ newsJ, q ∈ news') ⟨⟨[], .nil, fun z => ⟨fun hz => (nomatch hz), fun ⟨c, hc, _⟩ => (nomatch hc)⟩, Nat.zero_le _⟩, fun q hq => .tail _ hq⟩ ?tC ?fC
          case tC =>
            rintro j v ys mC news' ext C s' hj hv sm7 F7 hmC N7 hdis hsrc7 hJ0 Z hZ
            refine hide fun G0 hG0 => ?_
            obtain ⟨⟨ds, hys, hds, hdl⟩, hsub7⟩ := hJ0
            refine hG0 ?_
            try clear hG0 G0
            have hjl : j < (z0 :: ly0).length := by rw [List.size_toArray] at hj; lia
            have hkj : (z0 :: ly0)[j]? = some ((z0 :: ly0)[j]'hjl) := List.getElem?_eq_getElem hjl
            have htake : (z0 :: ly0).take (j + 1) = (z0 :: ly0).take j ++ [(z0 :: ly0)[j]'hjl] := by rw [List.take_add_one, hkj]; rfl
            have hcin := hpin _ (List.getElem_mem hjl)
            generalize (z0 :: ly0)[j]'hjl = c at *
            obtain ⟨tc, e⟩ := IntsAre.get iL hkj
            have hv' : usL[j]? = some v := by simpa using hv
            rw [hv'] at e
            cases e
            refine hide fun G0 hG0 => ?_
            obtain ⟨adC, lC, hxC, hlC⟩ := fs_get hcin hkn
            have hlkC := lk_refs hkn hxC
            have hllC := hll _ hxC
            dsimp only at hlkC hllC
            obtain ⟨usC, nC, hAC, hCi⟩ := R.ls _ hxC
            refine hG0 ?_
            try clear hG0 G0
            dsimp only at hAC hCi
            have hCl := IntsAre.len hCi
            have hAC7 := hsub7 _ (hsubJ _ (hsub3 _ hAC))
            have hK7 : (L' + 1, oK) ∈ ext ++ news' := List.mem_append_right _ (hsub7 _ hKJ)
            have hF7 := List.mem_append_right ext (hsub7 _ hFJ)
            clear FW NW F2 N2
            repeat' (first | (guard_target = wpAny _ _ (compareOp CmpOp.NotEq (Value.ref _) (Value.ref _)) _ _ _; refine' rl_neB ?zr ?zN ?zm ?zl ?zi ?zj ?zk ?_; (case zr => with_reducible assumption); walk_at "aNm"; (case zl => k_mem); (case zi | zj => first | with_reducible assumption | exact nilN); (case zk => first | (show _ = true; simp; done) | (show _ = false; simp; done) | exact rfl)) | (guard_target = wpAny _ _ (compareOp CmpOp.Eq (Value.ref _) (Value.ref _)) _ _ _; refine' rl_eqB ?zr ?zN ?zm ?zl ?zi ?zj ?zk ?_; (case zr => with_reducible assumption); walk_at "aNm"; (case zl => k_mem); (case zi | zj => first | with_reducible assumption | exact nilN); (case zk => first | with_reducible assumption | exact rfl)) | ((fail_if_success guard_target = wpAny _ _ (exec (Stmt.While _ _ _ _) _) _ _ _); (fail_if_success guard_target = wpAny _ _ (exec (Stmt.For _ _ _ _ _) _) _ _ _); walk_at "mine"))
            refine hZ _ _ ⟨rfl, usC.toArray, [(adC, lo usC nC)], Src.list (rl_list N7 (List.mem_append_right _ hAC7)), by rw [List.size_toArray]; lia, ⟨sm7.1, sm7.2⟩, mC, news', F7, N7, hdis, hsrc7, fun q hq => by rw [List.mem_singleton.mp hq]; exact hAC7, ⟨ds ++ lC, intsAre_append hys hCi, fun z => ?_, by rw [List.length_append]; lia⟩, hsub7⟩
            rw [htake, List.mem_append, hds, hlC]
            constructor
            · rintro (⟨c2, h1, h2⟩ | h2)
              · exact ⟨c2, List.mem_append_left _ h1, h2⟩
              · exact ⟨c, List.mem_append_right _ (.head _), h2⟩
            · rintro ⟨c2, h1, h2⟩
              rcases List.mem_append.mp h1 with h1 | h1
              · exact .inl ⟨c2, h1, h2⟩
              · rw [List.mem_singleton.mp h1] at h2; exact .inr h2
          case fC =>
            rintro D8 c8 ys news8 s8 sm8 F8 N8 hD8 hlt8 ⟨⟨ds, hys, hds, hdl⟩, hsub8⟩
            replace N8 : News g' L' s8.heap ((D8, lo ys c8) :: news8) := N8
            have e0 : (z0 :: ly0).take usL.toArray.size = z0 :: ly0 := List.take_of_length_le (by rw [List.size_toArray]; lia)
            rw [e0] at hds
            rw [List.size_toArray] at hdl
            clear FW NW F2 N2
            repeat' (first | (guard_target = wpAny _ _ (compareOp CmpOp.NotEq (Value.ref _) (Value.ref _)) _ _ _; refine' rl_neB ?zr ?zN ?zm ?zl ?zi ?zj ?zk ?_; (case zr => with_reducible assumption); walk_at "aNm"; (case zl => k_mem); (case zi | zj => first | with_reducible assumption | exact nilN); (case zk => first | (show _ = true; simp; done) | (show _ = false; simp; done) | exact rfl)) | (guard_target = wpAny _ _ (compareOp CmpOp.Eq (Value.ref _) (Value.ref _)) _ _ _; refine' rl_eqB ?zr ?zN ?zm ?zl ?zi ?zj ?zk ?_; (case zr => with_reducible assumption); walk_at "aNm"; (case zl => k_mem); (case zi | zj => first | with_reducible assumption | exact nilN); (case zk => first | with_reducible assumption | exact rfl)) | ((fail_if_success guard_target = wpAny _ _ (exec (Stmt.While _ _ _ _) _) _ _ _); (fail_if_success guard_target = wpAny _ _ (exec (Stmt.For _ _ _ _ _) _) _ _ _); walk_at "mine"))
            refine rl_setI hr' (by assumption) (by assumption) (.head _) hys (by lia) (fun x hx => by
              refine hide fun G0 hG0 => ?_
              obtain ⟨c, hc, hr2⟩ := (hds x).mp hx
              refine hG0 ?_
              try clear hG0 G0
              exact hlt x (hclR c (hpin c hc) x hr2)) fun S9 es ep9 tS ks9 h9 tk9 F9 N9 lt9 I9 hnd9 hks9 hz9 hl9 => ?_
            repeat' (first | (guard_target = wpAny _ _ (compareOp CmpOp.NotEq (Value.ref _) (Value.ref _)) _ _ _; refine' rl_neB ?zr ?zN ?zm ?zl ?zi ?zj ?zk ?_; (case zr => with_reducible assumption); walk_at "aNm"; (case zl => k_mem); (case zi | zj => first | with_reducible assumption | exact nilN); (case zk => first | (show _ = true; simp; done) | (show _ = false; simp; done) | exact rfl)) | (guard_target = wpAny _ _ (compareOp CmpOp.Eq (Value.ref _) (Value.ref _)) _ _ _; refine' rl_eqB ?zr ?zN ?zm ?zl ?zi ?zj ?zk ?_; (case zr => with_reducible assumption); walk_at "aNm"; (case zl => k_mem); (case zi | zj => first | with_reducible assumption | exact nilN); (case zk => first | with_reducible assumption | exact rfl)) | ((fail_if_success guard_target = wpAny _ _ (exec (Stmt.While _ _ _ _) _) _ _ _); (fail_if_success guard_target = wpAny _ _ (exec (Stmt.For _ _ _ _ _) _) _ _ _); walk_at "mine"))
            refine rl_sortedSetI hr' (by assumption) (by assumption) (.head _) I9 hz9 fun D10 e10 vs10 ks10 h10 tk10 dr10 F10 N10 lt10 hi10 hp10 => ?_
            clear F8 N8 F9 N9
            repeat' (first | (guard_target = wpAny _ _ (compareOp CmpOp.NotEq (Value.ref _) (Value.ref _)) _ _ _; refine' rl_neB ?zr ?zN ?zm ?zl ?zi ?zj ?zk ?_; (case zr => with_reducible assumption); walk_at "aNm"; (case zl => k_mem); (case zi | zj => first | with_reducible assumption | exact nilN); (case zk => first | (show _ = true; simp; done) | (show _ = false; simp; done) | exact rfl)) | (guard_target = wpAny _ _ (compareOp CmpOp.Eq (Value.ref _) (Value.ref _)) _ _ _; refine' rl_eqB ?zr ?zN ?zm ?zl ?zi ?zj ?zk ?_; (case zr => with_reducible assumption); walk_at "aNm"; (case zl => k_mem); (case zi | zj => first | with_reducible assumption | exact nilN); (case zk => first | with_reducible assumption | exact rfl)) | ((fail_if_success guard_target = wpAny _ _ (exec (Stmt.While _ _ _ _) _) _ _ _); (fail_if_success guard_target = wpAny _ _ (exec (Stmt.For _ _ _ _ _) _) _ _ _); walk_at "mine"))
            have ek : (k0 : Int) + 1 = ((k0 + 1 : Nat) : Int) := by lia
            refine nx <| hZ2 _ ⟨fs.length + 1 - (k0 + 1), by lia, ⟨sm8.1.trans sm2.1, sm8.2.trans sm2.2⟩, _, _, D10, vs10, e10, ks10, k0 + 1, tk10 + 1, ?g1, ?g2, ?g3, ?g4, by assumption, by assumption, fun q hq => ?_, ?_, hi10, fun z => ?_, fun i hi => ?_, by lia, by rw [hp10.length_eq]; exact hl9, rfl⟩
            case g1 => exact (if_neg (by decide)).trans ((if_neg (by decide)).trans f1)
            case g2 => exact (if_neg (by decide)).trans ((if_neg (by decide)).trans f2)
            case g3 => walk_at "mloc"
            case g4 => rw [← ek]; walk_at "mloc"
            · exact .tail _ (.tail _ (.tail _ (.tail _ (hsub8 _ (hsubJ q hq)))))
            · k_mem
            · rw [hp10.mem_iff, hks9, hds, pth_snoc]
              constructor
              · rintro ⟨c, hc, h2⟩; exact ⟨c, (hpth c).mp hc, h2⟩
              · rintro ⟨c, hc, h2⟩; exact ⟨c, (hpth c).mpr hc, h2⟩
            · by_cases q : i = k0
              · subst q; exact ⟨z0, (hpth z0).mp (.head _)⟩
              · exact hpre i (by lia)
end
section
variable {prog : Program} {w : World} {A : Around} {s : Shared} {g : PySem.Heap} {L : Addr} {m : PySem.Str → Option Value} {news srcO : List (Addr × Obj)} {env : Env}
/-- for_walk, with the turn's end closed -/
theorem for_atT {x : PySem.Str} {px : Pos} {body : List Stmt} {xv : Value} {n k : Nat} {P : Nat → Value → Prop} {Q : Flow → Shared → Prop} {E : Value → Shared → Prop}
    (F : Fr g L s.heap m) (N : News g L s.heap news) (hr : RoomOk A k) (hL : env.locals = L)
    (hx : env.kindOf x = some .local) (hp : (env.scope.kind == .class || (env.scope.kind == .module && env.locals != env.globals)) = false)
    (S : Src prog w xv s.heap (srcO.map (·.1)) n P) (hs0 : ∀ p ∈ srcO, p ∈ news)
    (J : Nat → (PySem.Str → Option Value) → List (Addr × Obj) → Prop) (J0 : J 0 m news)
    (turn : ∀ i v m₀ news' s' I oI, i < n → P i v → Sm s s' → (∀ p ∈ news, p.1 < I) → Fr g L s'.heap (fun y => if y = x then some v else m₀ y) → News g L s'.heap ((I, oI) :: news') → (∀ q ∈ news', q.1 ≠ I) → oI.cls ≠ .type "tuple" →
      (∀ p ∈ srcO, p ∈ news') → J i m₀ news' → ∀ Z : Shared → Prop, (∀ s'', Back g L I oI srcO (J (i + 1)) s s'' → Z s'') →
      wpAny (model prog w) A (execs body env) (Nx Z) (fun _ _ => False) s')
    (fin : ∀ m' news' s', Sm s s' → Fr g L s'.heap m' → News g L s'.heap news' → (∀ p ∈ srcO, p ∈ news') → J n m' news' → Q .next s') :
    ForAt prog w A E x px body env Q xv s := by
  unfold ForAt
  exact for_walk (fun f s' h => h) F N hr.hh hL hx hp S hs0 J J0 (fun i v m₀ news' s' I oI a b c d e f g' hc h i' => turn i v m₀ news' s' I oI a b c d e f g' hc h i' _ fun _ x => x) fin
end
section
variable {w : World} {g h : PySem.Heap} {L B Rw I : Addr} {oI : Obj} {news news' : List (Addr × Obj)} {row : List Nat} {ix : Nat} {a : HA} {S : HS}
/-- the iterator set aside -/
theorem LS.oth (N : News g L h news) (R : LS w news a S B Rw row ix) (hI : (I, oI) ∈ news) (hc : oI.cls ≠ .type "tuple") (h1 : I ∉ a.fix ++ a.own S.ab) (hB : I ≠ B) (hR : I ≠ Rw) : LS w (oth I news) a S B Rw row ix := by
  have K : Kp [I] news (Mine.oth I news) := ⟨fun p hp hn => List.mem_filter.mpr ⟨hp, by simpa using hn⟩, fun x hx us n => by rw [List.mem_singleton.mp hx]; exact no_tu N hI hc us n⟩
  obtain ⟨o, t, hm, hd⟩ := R.bt.hd
  obtain ⟨us, n, hr, hi⟩ := R.bt.hr
  exact ⟨R.rh.keep K fun x hx q => h1 (List.mem_singleton.mp q ▸ hx), ⟨⟨o, t, K.k _ hm fun q => hB (List.mem_singleton.mp q).symm, hd⟩, R.bt.lo, ⟨us, n, K.k _ hr fun q => hR (List.mem_singleton.mp q).symm, hi⟩, R.bt.ne⟩, R.sepB, R.sepR⟩
theorem RepH.memF (R : RepH w news a S) : ∀ x ∈ a.fix ++ a.own S.ab, ∃ o, (x, o) ∈ news := fun x hx => by
  rcases List.mem_append.mp hx with hx | hx
  · unfold HA.fix at hx
    simp only [List.mem_cons, List.not_mem_nil, or_false] at hx
    rcases hx with rfl | rfl | rfl | rfl | rfl | rfl
    · exact ⟨_, R.rc.hH⟩
    · obtain ⟨_, _, _, _, _, _, _, _, _, _, h⟩ := R.rc.hd; exact ⟨_, h⟩
    · exact ⟨_, R.rc.rb.hB⟩
    · obtain ⟨_, _, _, _, _, h⟩ := R.rc.rb.hd; exact ⟨_, h⟩
    · exact ⟨_, R.rc.ru.hU⟩
    · obtain ⟨_, _, _, _, h⟩ := R.rc.ru.hd; exact ⟨_, h⟩
  · obtain ⟨o, h, _⟩ := R.ownO x hx
    exact ⟨o, h⟩
/-- the iterator is none of the law's objects -/
theorem LS.apart (R : LS w news a S B Rw row ix) (h : ∀ q ∈ news, q.1 ≠ I) : I ∉ a.fix ++ a.own S.ab ∧ I ≠ B ∧ I ≠ Rw ∧ I ∉ B :: a.own S.ab := by
  obtain ⟨o, t, hm, _⟩ := R.bt.hd
  obtain ⟨us, n, hr, _⟩ := R.bt.hr
  have h1 : I ∉ a.fix ++ a.own S.ab := fun q => by
    obtain ⟨o, ho⟩ := R.rh.memF I q
    exact h _ ho rfl
  have hB : I ≠ B := fun e => h _ hm e.symm
  exact ⟨h1, hB, fun e => h _ hr e.symm, fun q => (List.mem_cons.mp q).elim hB fun q => h1 (List.mem_append_right _ q)⟩
end
section
variable {w : World} {A : Around} {g h : PySem.Heap} {L D1 D2 B Rw I : Addr} {s : Shared} {oI o1 o2 : Obj} {news news' newsF : List (Addr × Obj)} {row : List Nat} {ix ix' : Nat} {a a' : HA} {S S' : HS} {E : Value → Shared → Prop} {k1 k2 : List (Nat × Value)} {f1 f2 : List (Nat × Nat)} {m : PySem.Str → Option Value} {j : Nat}
theorem turn_end (N : News g L h news') (R0 : LS w newsF a S B Rw row ix) (hnI : ∀ q ∈ newsF, q.1 ≠ I) (hc : oI.cls ≠ .type "tuple") (C : Ch (B :: a.own S.ab) (B :: a'.own S'.ab) ((I, oI) :: newsF) news') (R : LS w news' a' S' B Rw row ix') (hf : a'.fix = a.fix) :
    News g L h ((I, oI) :: oth I news') ∧ LS w (oth I news') a' S' B Rw row ix' := by
  obtain ⟨h1, hB, hR, hO⟩ := R0.apart hnI
  have ho := C.out hO (.head _)
  refine ⟨oth_news N ho.2, R.oth N ho.2 hc (fun q => ?_) hB hR⟩
  rcases List.mem_append.mp q with q | q
  · rw [hf] at q; exact h1 (List.mem_append_left _ q)
  · exact ho.1 (.tail _ q)
theorem same_len {f1 f2 : List (Nat × Nat)} (n1 : (f1.map (·.1)).Nodup) (n2 : (f2.map (·.1)).Nodup) (same : ∀ c d, (c, d) ∈ f1 ↔ (c, d) ∈ f2) : f1.length = f2.length := by
  have h1 := len_sub (f1.map (·.1)) (f2.map (·.1)) n1 fun x hx => by
    obtain ⟨p, hp, rfl⟩ := List.mem_map.mp hx
    exact List.mem_map.mpr ⟨p, (same p.1 p.2).mp hp, rfl⟩
  have h2 := len_sub (f2.map (·.1)) (f1.map (·.1)) n2 fun x hx => by
    obtain ⟨p, hp, rfl⟩ := List.mem_map.mp hx
    exact List.mem_map.mpr ⟨p, (same p.1 p.2).mpr hp, rfl⟩
  rw [List.length_map, List.length_map] at h1 h2
  lia
theorem hits_of {A : Around} (n2 : (f2.map (·.1)).Nodup) (d2 : DepsAre k2 f2) : ∀ (ka : List (Nat × Value)) (fa : List (Nat × Nat)), DepsAre ka fa → (∀ p ∈ fa, p ∈ f2) →
    KeqHits A s (k2.map fun x => ((x.1 : Int), x.2)) (ka.map fun x => ((x.1 : Int), x.2)) true
  | [], _, _, _ => .nil
  | (k, v) :: ka, [], hd, _ => by have := congrArg List.length hd.keys; simp at this
  | (k, v) :: ka, (c, d) :: fa, hd, hs => by
    have hk := hd.keys
    simp only [List.map_cons, List.cons.injEq] at hk
    obtain ⟨rfl, hk'⟩ := hk
    have hv := hd.vals
    simp only [List.map_cons, zs] at hv
    cases hv with
    | cons _ t hv' =>
      obtain ⟨t2, hl⟩ := d2.get n2 (hs _ (.head _))
      have r := hits_of (A := A) n2 d2 ka fa ⟨hk', hv'⟩ fun p hp => hs p (.tail _ hp)
      have e : SeqAt.EqAt A s (.int (d : Int) t) (.int (d : Int) t2) true := by
        have := keq_flat (A := A) (s := s) (PyProof.V.Flat.int (d : Int) t) (PyProof.V.Flat.int (d : Int) t2)
        simpa [PyData.eqv] using this
      exact .hit (e := true) (b := true) (by rw [lk_map]; exact hl) e r
theorem rd_neD {Q : Value → Shared → Prop} (hr : RoomOk A j) (N : News g L s.heap news) (h1 : (D1, o1) ∈ news) (h2 : (D2, o2) ∈ news) (i1 : DI w o1 k1) (i2 : DI w o2 k2) (l1 : (D1 == sysModules) = false) (l2 : (D2 == sysModules) = false) (d1 : DepsAre k1 f1) (d2 : DepsAre k2 f2)
    (n1 : (f1.map (·.1)).Nodup) (n2 : (f2.map (·.1)).Nodup) (same : ∀ c d, (c, d) ∈ f1 ↔ (c, d) ∈ f2) (h : Q (.bool false) s) : wpAny (model P w) A (compareOp .NotEq (.ref D1) (.ref D2)) Q E s := by
  have hun := hr.un
  have hcl : cLine = 9900 := rfl
  refine keq_ne (r := true) l1 l2 (kda_dict N h1 i1) (kda_dict N h2 i2) (by lia) (fun _ => hits_of n2 d2 k1 f1 d1 fun p hp => (same p.1 p.2).mp hp) ?_
  have e : k1.length = k2.length := by
    have e1 := congrArg List.length d1.keys
    have e2 := congrArg List.length d2.keys
    have e3 := same_len n1 n2 same
    simp at e1 e2
    lia
  rw [List.length_map, List.length_map, e]
  simpa using h
end
theorem pth_agree {R R' : Nat → Nat → Prop} {S : List Nat} (ha : ∀ c ∈ S, ∀ y, R c y ↔ R' c y) (hcl : ∀ c ∈ S, ∀ y, R c y → y ∈ S) : ∀ {i c z : Nat}, c ∈ S → (Pth R i c z ↔ Pth R' i c z)
  | 0, _, _, _ => Iff.rfl
  | i + 1, c, z, hc => by
    constructor
    · rintro ⟨y, hr, hp⟩
      exact ⟨y, (ha c hc y).mp hr, (pth_agree ha hcl (hcl c hc y hr)).mp hp⟩
    · rintro ⟨y, hr, hp⟩
      have hr' := (ha c hc y).mpr hr
      exact ⟨y, hr', (pth_agree ha hcl (hcl c hc y hr')).mpr hp⟩
theorem dep_agree {R R' : Nat → Nat → Prop} {S : List Nat} (ha : ∀ c ∈ S, ∀ y, R c y ↔ R' c y) (hcl : ∀ c ∈ S, ∀ y, R c y → y ∈ S) {c d : Nat} (hc : c ∈ S) : Dep R c d ↔ Dep R' c d := by
  unfold Dep
  constructor
  · rintro ⟨h1, h2⟩
    exact ⟨fun z hz => h1 z ((pth_agree ha hcl hc).mpr hz), fun i hi => (h2 i hi).imp fun z hz => (pth_agree ha hcl hc).mp hz⟩
  · rintro ⟨h1, h2⟩
    exact ⟨fun z hz => h1 z ((pth_agree ha hcl hc).mp hz), fun i hi => (h2 i hi).imp fun z hz => (pth_agree ha hcl hc).mpr hz⟩
theorem rch_mono {R R' : Nat → Nat → Prop} {S : List Nat} (ha : ∀ c ∈ S, ∀ y, R c y → R' c y) (hcl : ∀ c ∈ S, ∀ y, R c y → y ∈ S) {b c : Nat} (hb : b ∈ S) (h : Rch R b c) : Rch R' b c ∧ c ∈ S := by
  induction h with
  | refl => exact ⟨.refl, hb⟩
  | step _ hr ih => exact ⟨ih.1.step (ha _ ih.2 _ hr), hcl _ ih.2 _ hr⟩
theorem ends_agree {R R' : Nat → Nat → Prop} {S : List Nat} (ha : ∀ c ∈ S, ∀ y, R c y ↔ R' c y) (hcl : ∀ c ∈ S, ∀ y, R c y → y ∈ S) {b c d : Nat} (hb : b ∈ S) : (Rch R b c ∧ Dep R c d) ↔ (Rch R' b c ∧ Dep R' c d) := by
  constructor
  · rintro ⟨h1, h2⟩
    obtain ⟨h3, h4⟩ := rch_mono (fun c hc y => (ha c hc y).mp) hcl hb h1
    exact ⟨h3, (dep_agree ha hcl h4).mp h2⟩
  · rintro ⟨h1, h2⟩
    obtain ⟨h3, h4⟩ := rch_mono (fun c hc y => (ha c hc y).mpr) (fun c hc y hr => hcl c hc y ((ha c hc y).mpr hr)) hb h1
    exact ⟨h3, (dep_agree ha hcl h4).mpr h2⟩
section
variable {a : HA} {S : HS} {rt : Nat → Nat} {told : Nat} {fs : List (Nat × Addr × List Nat)}
structure LyFacts (S : HS) (rt : Nat → Nat) (fs : List (Nat × Addr × List Nat)) : Prop where
  key : ∀ n, n < S.nodes.length → rt n ∈ fs.map (·.1)
  cl : ∀ x ∈ fs, ∀ y ∈ x.2.2, y ∈ fs.map (·.1)
  lt : ∀ c ∈ fs.map (·.1), c < 16
  fl : fs.length ≤ 10
  ll : ∀ x ∈ fs, x.2.2.length ≤ 20
  ag : ∀ c ∈ fs.map (·.1), ∀ y, RfOf fs c y ↔ KK S.nodes S.st rt c y
  clR : ∀ c ∈ fs.map (·.1), ∀ y, RfOf fs c y → y ∈ fs.map (·.1)
theorem ly_facts (O : OkH a S rt told) (I : LyI S.nodes rt S.nodes.length S.nodes.length fs) : LyFacts S rt fs := by
  have hsm := O.sm
  have hnn := O.okc.nn
  have hkey : ∀ n, n < S.nodes.length → rt n ∈ fs.map (·.1) := fun n hn => (I.ky _).mpr ⟨n, hn, rfl⟩
  have hcl : ∀ x ∈ fs, ∀ y ∈ x.2.2, y ∈ fs.map (·.1) := fun x hx y hy => by
    obtain ⟨n, hn, _, hyn⟩ := (I.ls x hx y).mp hy
    rw [img_of (List.getElem?_eq_getElem hn)] at hyn
    obtain ⟨z, hz, rfl⟩ := List.mem_map.mp hyn
    exact hkey z ((O.okc.kids _ (List.getElem_mem hn)).2 z hz)
  refine ⟨hkey, hcl, fun c hc => ?_, by have := fs_len I; lia, fun x hx => by have := I.ln x hx; lia, fun c hc y => ?_, fun c _ y ⟨x, hx, _, hy⟩ => hcl x hx y hy⟩
  · obtain ⟨n, hn, rfl⟩ := (I.ky c).mp hc
    have := (O.okc.ok.rr n (by lia)).1
    lia
  · obtain ⟨n0, hn0, hnc⟩ := (I.ky c).mp hc
    have hrr := O.okc.ok.rr n0 (by lia)
    have hcc : rt c = c := by rw [← hnc]; exact O.okc.ok.root hrr.2.1
    have hcl2 : c < S.nodes.length := by rw [← hnc]; lia
    have hl2 := O.okc.len.l2
    have hget : S.st.lots[c]? = some (S.st.lots[c]'(by lia)) := List.getElem?_eq_getElem _
    generalize S.st.lots[c]'(by lia) = l at *
    have hL := O.lotR c hcl2 hcc l hget
    constructor
    · rintro ⟨x, hx, rfl, hy⟩
      obtain ⟨n, hn, hr, hyn⟩ := (I.ls x hx y).mp hy
      exact ⟨l, by rw [hcc]; exact hget, n, (hL n).mpr ⟨hn, hr⟩, hyn⟩
    · rintro ⟨l2, hl, n, hn, hyn⟩
      rw [hcc, hget] at hl
      cases hl
      obtain ⟨h1, h2⟩ := (hL n).mp hn
      obtain ⟨x, hx, e⟩ := List.mem_map.mp hc
      exact ⟨x, hx, e, (I.ls x hx y).mpr ⟨n, h1, h2.trans e.symm, hyn⟩⟩
end
theorem nb {w : World} {A : Around} {E : Value → Shared → Prop} {s : Shared} {b : Bool} {Q : Value → Shared → Prop} (h : Q (.bool false) s) : wpAny (model P w) A (compareOp .NotEq (.bool b) (.bool b)) Q E s :=
  PySem.SeqAt.RcNeAt.bool_bool b b _ _ _ _ (by simpa using h)
/-- the law has come to its end -/
noncomputable def Done (s₁ : Shared) (f : Flow) (s' : Shared) : Prop := f = .ret (.bool true) ∧ Sm s₁ s' ∧ ∀ b o, s₁.heap.get? b = some o → s'.heap.get? b = some o
theorem roomC (e : Env) : RoomOk (callerA.deeper e) 20 := ⟨rfl, by show callerA.depth + 1 + 20 ≤ 900; decide, by show callerA.units + 3 + 20 * 20 ≤ 9000; decide⟩
theorem room_is {M : Model} {e : Env} {α : Type} {m : Sem α} {Q : α → Shared → Prop} {E : Value → Shared → Prop} {s : Shared} (h : RoomOk (callerA.deeper e) 20 → wpAny M (callerA.deeper e) m Q E s) : wpAny M (callerA.deeper e) m Q E s := h (roomC e)
inductive LwA (w : World) (dX D8 : Addr) (row : List Nat) (a : HA) (i : Nat) (m' : PySem.Str → Option Value) (newsF : List (Addr × Obj)) : Prop
  | mk (z0 : m' "belt" = some (.ref dX)) (z1 : m' "heap" = some (.ref a.H)) (a' : HA) (S : HS) (rt : Nat → Nat) (h0 : a'.fix = a.fix) (h1 : LS w newsF a' S dX D8 row 0) (h2 : OkH a' S rt 0) (h3 : S.nodes.length ≤ i) (h4 : (0 < i → 0 < S.nodes.length)) : LwA w dX D8 row a i m' newsF
inductive LwB (w : World) (dX D8 : Addr) (row : List Nat) (a1 : HA) (i : Nat) (m' : PySem.Str → Option Value) (newsF : List (Addr × Obj)) : Prop
  | mk (z0 : m' "belt" = some (.ref dX)) (z1 : m' "heap" = some (.ref a1.H)) (a' : HA) (S : HS) (rt : Nat → Nat) (ix : Nat) (h0 : a'.fix = a1.fix) (h1 : LS w newsF a' S dX D8 row ix) (h2 : OkH a' S rt 0) (h3 : S.nodes.length ≤ 2 + i) (h4 : 0 < S.nodes.length) (h5 : ix ≤ 1 + 3 * i) : LwB w dX D8 row a1 i m' newsF
inductive LwC (w : World) (dX D8 : Addr) (row : List Nat) (a2 : HA) (S2 : HS) (i : Nat) (m' : PySem.Str → Option Value) (newsF : List (Addr × Obj)) : Prop
  | mk (z0 : m' "belt" = some (.ref dX)) (z1 : m' "heap" = some (.ref a2.H)) (S : HS) (rt : Nat → Nat) (ix : Nat) (h0 : LS w newsF a2 S dX D8 row ix) (h1 : OkH a2 S rt i) (h2 : S.nodes = S2.nodes) (h3 : ix ≤ 20 + 3 * i) : LwC w dX D8 row a2 S2 i m' newsF
inductive LwD (w : World) (dX D8 : Addr) (row : List Nat) (a2 : HA) (G dG : Addr) (v5 : Nat) (tG : Tok) (nG : Nat) (i : Nat) (m' : PySem.Str → Option Value) (newsF : List (Addr × Obj)) : Prop
  | mk (z0 : m' "belt" = some (.ref dX)) (z1 : m' "heap" = some (.ref a2.H)) (z2 : m' "grammar" = some (.ref G)) (S : HS) (rt : Nat → Nat) (ix : Nat) (h0 : LS w newsF a2 S dX D8 row ix) (h1 : OkH a2 S rt (v5 + i)) (h2 : 0 < S.nodes.length) (h3 : (G, instObj 102 dG) ∈ newsF) (h4 : (dG, dictOf [ent w.params "heap" tG (.ref a2.H)] nG) ∈ newsF) (h5 : G ∉ dX :: a2.own S.ab) (h6 : dG ∉ dX :: a2.own S.ab) (h7 : ix ≤ 30 + 10 * i) : LwD w dX D8 row a2 G dG v5 tG nG i m' newsF
inductive LwE (w : World) (dX D8 : Addr) (row : List Nat) (a2 : HA) (G D ix : Nat) (S : HS) (news12 : List (Addr × Obj)) (j : Nat) (m' : PySem.Str → Option Value) (newsE : List (Addr × Obj)) : Prop
  | mk (z0 : m' "belt" = some (.ref dX)) (z1 : m' "heap" = some (.ref a2.H)) (z2 : m' "grammar" = some (.ref G)) (z3 : m' "kids" = some (.ref D)) (ixE : Nat) (h0 : LS w newsE a2 S dX D8 row ixE) (h1 : Ch [dX] [dX] news12 newsE) (h2 : ixE ≤ ix + j) : LwE w dX D8 row a2 G D ix S news12 j m' newsE
set_option maxHeartbeats 8000000 in
theorem try0 : PySem.Challenge.rw_rg0122_01.Holds := by
  refine holds_law hd.said fun _ => ?_
  refine holds_open (q := hd.view_39) (loose := []) (Xt := fun s => xlAt hd.view_39 [] s && recOk (RowW.records hdRow) s) (XP := XL hd.view_39 []) (Yf := Hook.obs hd.H) (Ya := Hook.val hd.H) (YP := Hook.says hd.H) (N := 6556) hd.left (Hook.of hd.H) (Hook.keeps hd.H) (fun s e => xl_of s (Bool.and_eq_true_iff.mp e).1) XL.keeps (by rfl) (by rfl) (by rfl) (fun s e => recFacts_of (Bool.and_eq_true_iff.mp e).2) (by rfl) (by first | assumption | decide +kernel) (by decide +kernel) ⟨rfl, rfl, rfl, rfl, rfl, by decide +kernel⟩ ?hw ?hc
  case hw => w_witness2
  k_go0
  all_goals try k_fold
  rename (hd.heap_39 _).In _ => X
  rename Top _ _ _ _ _ _ => T0
  have T := topRead_of T0
  rename Below _ _ _ _ => K0b
  clear K0b
  rename Fr _ _ _ _ => F
  rename News _ _ _ _ => N
  rename IntsAre _ _ => hI
  rename Heap.IsList _ _ _ => hL
  rename Shared.gens _ = _ => hgens
  rename World => w
  rename Shared => s1x
  rename List Int => script
  rename ¬ _ < _ => hlen63
  refine wpAny_mono (Q := Done s1x) (E := fun _ _ => False) ?walk (fun f s' hf => ?good) (fun _ _ e => e.elim)
  case good =>
    refine hide fun G0 hG0 => ?_
    obtain ⟨rfl, sm, keep⟩ := hf
    refine hG0 ?_
    try clear hG0 G0
    refine ⟨.inl ⟨.bool true, .bool true, [], rfl, fun cls => ?a1, ?a2, ?a3, ?a4⟩, keep, sm.2, sm.1.trans hgens⟩
    case a1 => rfl
    case a2 => constructor
    case a3 => wrow_post
    case a4 => exact fun _ => ⟨List.nodup_nil, fun a ha => (nomatch ha)⟩
  case walk =>
    refine room_is fun hr => ?_
    repeat' ((fail_if_success guard_target = wpAny _ _ (exec (Stmt.While _ _ _ _) _) _ _ _); (fail_if_success guard_target = wpAny _ _ (exec (Stmt.For _ _ _ _ _) _) _ _ _); walk_at "mine")
    rename IntsAre _ (List.take 50 _) => hi5
    rename (_ == sysModules) = false => loB
    rename Obj.IsDictOf _ _ [] => dB
    rename Fr _ _ _ _ => F5
    rename News _ _ _ _ => N5
    have hl50 : (script.take 50).length ≤ 50 := List.length_take_le _ _
    rename_i dX hX1 oX lX1 DX wsX hX2 hCX hLX lX2
    have hsl5 : wsX.length = (script.take 50).length := PyProof.Rows.IntsAre.length hi5
    refine comp_walk (srcO := [(DX, lo wsX 0)]) (n := wsX.toArray.size) F5 N5 hr.hh (by rw [List.size_toArray]; lia) (by decide) rfl rfl (Src.list (rl_list N5 (.head _))) (fun q hq => by rw [List.mem_singleton.mp hq]; exact .head _)
      (fun i ys news' => (∃ row : List Nat, IntsAre ys (zs row) ∧ row.length = i) ∧ ∀ q ∈ [(DX, lo wsX 0), (dX, oX)], q ∈ news') ⟨⟨[], .nil, rfl⟩, fun q hq => hq⟩ ?t1 ?f1
    case t1 =>
      rintro j v ys mC news' ext C s' hj hv sm7 F7 hmC N7 hdis hsrc7 hJ0 Z Z0 hZ hZ0
      refine hide fun G0 hG0 => ?_
      obtain ⟨⟨row, hys, hrl⟩, hsub7⟩ := hJ0
      refine hG0 ?_
      try clear hG0 G0
      have hjl : j < (script.take 50).length := by rw [List.size_toArray] at hj; lia
      obtain ⟨tv, e⟩ := PyProof.Rows.IntsAre.int_at hi5 j _ (by simpa using hv)
      subst e
      generalize (script.take 50).getD j 0 = k at *
      refine wpAny_tests_nil (ifT ?_)
      repeat' ((fail_if_success guard_target = wpAny _ _ (exec (Stmt.While _ _ _ _) _) _ _ _); (fail_if_success guard_target = wpAny _ _ (exec (Stmt.For _ _ _ _ _) _) _ _ _); walk_at "mine")
      refine hide fun G0 hG0 => ?_
      obtain ⟨v2, _, e2⟩ := fmod_nat (k := 1000003) k (by decide)
      refine hG0 ?_
      try clear hG0 G0
      refine hZ _ _ ⟨⟨sm7.1, sm7.2⟩, mC, news', by assumption, by assumption, hdis, hsrc7, ⟨row ++ [v2], ?_, by simp [hrl]⟩, hsub7⟩
      have e3 : k.fmod 1000003 = (v2 : Int) := e2
      rw [e3]
      exact intsAre_append hys (intsAre_one v2 _)
    case f1 =>
      rintro D8 c8 ys news8 s8 sm8 F8 N8 hD8 hlt8 ⟨⟨row, hys, hrl⟩, hsub8⟩
      replace N8 : News _ _ s8.heap ((D8, lo ys c8) :: news8) := N8
      rw [List.size_toArray] at hrl
      have hrow : row.length ≤ 100 := by lia
      have hB8 := hsub8 _ (.tail _ (.head _))
      have hDB : D8 ≠ dX := Nat.ne_of_gt (hlt8 (dX, oX) (.tail _ (.head _)))
      repeat' ((fail_if_success guard_target = wpAny _ _ (call (Value.ref _) _) _ _ _); (fail_if_success guard_target = wpAny _ _ (exec (Stmt.While _ _ _ _) _) _ _ _); (fail_if_success guard_target = wpAny _ _ (exec (Stmt.For _ _ _ _ _) _) _ _ _); walk_at "mine")
      refine kdn_made_str (by assumption) (oth_news N8 (List.mem_cons_of_mem _ hB8)) (UpdF.head oth_ne) dB rfl (of_decide_eq_true (by first | rfl | kernel_rfl)) fun h9 o9 F9 N9 d9 => ?_
      have d9' : Obj.IsDictOf (PySem.strKind P w) o9 [(PySem.Str.ofString "row", .ref D8), (PySem.Str.ofString "at", .int 0 _)] := d9
      have RT9 : RepT w ((dX, o9) :: oth dX ((D8, lo ys c8) :: news8)) dX D8 row 0 := ⟨⟨o9, _, .head _, d9'⟩, loB, ⟨ys, c8, .tail _ (List.mem_filter.mpr ⟨.head _, by simpa using hDB⟩), hys⟩, hDB⟩
      generalize (dX, o9) :: oth dX ((D8, lo ys c8) :: news8) = news9 at *
      clear d9 d9' dB N5 F5 hi5 hB8 N8 F8
      repeat' ((fail_if_success guard_target = wpAny _ _ (call (Value.ref _) _) _ _ _); (fail_if_success guard_target = wpAny _ _ (exec (Stmt.While _ _ _ _) _) _ _ _); (fail_if_success guard_target = wpAny _ _ (exec (Stmt.For _ _ _ _ _) _) _ _ _); walk_at "mine")
      refine mkH_ok (by assumption) (by assumption) X T (hr.less (by decide)) fun s10 a news10 sm10 F10 N10 RH10 OH10 sub10 fr10 => ?_
      have L0 : LS w news10 a ⟨[], ⟨[], [], 0⟩, [], [], [], [], [], 0, 0⟩ dX D8 row 0 := by
        refine hide fun G0 hG0 => ?_
        obtain ⟨oo, tt, hmB, _⟩ := RT9.hd
        obtain ⟨uu, nn, hmR, _⟩ := RT9.hr
        refine hG0 ?_
        try clear hG0 G0
        exact ⟨RH10, RT9.mono sub10, fun q => fr10 _ q _ hmB rfl, fun q => fr10 _ q _ hmR rfl⟩
      have O0 := OH10 0
      have hS0 : ((⟨[], ⟨[], [], 0⟩, [], [], [], [], [], 0, 0⟩ : HS).nodes.length) = 0 := rfl
      clear RT9 RH10 OH10 sub10 fr10
      generalize (⟨[], ⟨[], [], 0⟩, [], [], [], [], [], 0, 0⟩ : HS) = S0 at *
      generalize (id : Nat → Nat) = rt0 at *
      repeat' ((fail_if_success guard_target = wpAny _ _ (call (Value.ref _) _) _ _ _); (fail_if_success guard_target = wpAny _ _ (exec (Stmt.While _ _ _ _) _) _ _ _); (fail_if_success guard_target = wpAny _ _ (exec (Stmt.For _ _ _ _ _) _) _ _ _); walk_at "mine")
      refine for_exec ?_
      repeat' ((fail_if_success guard_target = wpAny _ _ (call (Value.ref _) _) _ _ _); (fail_if_success guard_target = wpAny _ _ (exec (Stmt.While _ _ _ _) _) _ _ _); (fail_if_success guard_target = wpAny _ _ (exec (Stmt.For _ _ _ _ _) _) _ _ _); walk_at "mine")
      refine for_atT (srcO := []) (by assumption) (by assumption) hr rfl rfl rfl (Src.str (x := "ab") (by decide +kernel)) (fun q hq => nomatch hq)
        (LwA w dX D8 row a)
        ⟨by walk_at "mloc", by walk_at "mloc", a, S0, rt0, rfl, L0, O0, by rw [hS0]; exact Nat.le_refl _, fun h => absurd h (Nat.lt_irrefl _)⟩ ?tA ?fA
      case tA =>
        rintro i v m0 newsF s2 I oI hi2 hv sm2 hltI F2 N2 hnI hcI hsrc hJ0 Z hZ
        refine hide fun G0 hG0 => ?_
        obtain ⟨f1, f2, a', S, rt, hf, LF, OF, hSl, hS1⟩ := hJ0
        refine hG0 ?_
        try clear hG0 G0
        replace F2 : Fr _ _ s2.heap _ := F2
        replace N2 : News _ _ s2.heap _ := N2
        have hi3 : i < 2 := hi2
        refine hide fun G0 hG0 => ?_
        obtain ⟨c, u, hc, rfl⟩ := hv
        refine hG0 ?_
        try clear hG0 G0
        have hop : Op4 ⟨#[c]⟩ := by
          rcases (show i = 0 ∨ i = 1 by lia) with rfl | rfl
          · have e : (PySem.Str.ofString "ab").cps[0]? = some 97 := by decide +kernel
            have hc2 : c = 97 := Option.some.inj (hc.symm.trans e)
            subst hc2
            left; decide +kernel
          · have e : (PySem.Str.ofString "ab").cps[1]? = some 98 := by decide +kernel
            have hc2 : c = 98 := Option.some.inj (hc.symm.trans e)
            subst hc2
            right; left; decide +kernel
        have haH : a'.H = a.H := by have := hf; unfold HA.fix at this; exact (List.cons.inj this).1
        rw [← haH] at f2
        have L2 := LF.mono fun q hq => List.mem_cons_of_mem (I, oI) hq
        have hH := L2.rh.rc.hH
        obtain ⟨t1, t2, t3, t4, t5, t6, t7, t8, t9, n', hdH⟩ := L2.rh.rc.hd
        repeat' ((fail_if_success guard_target = wpAny _ _ (call (Value.ref _) _) _ _ _); (fail_if_success guard_target = wpAny _ _ (exec (Stmt.While _ _ _ _) _) _ _ _); (fail_if_success guard_target = wpAny _ _ (exec (Stmt.For _ _ _ _ _) _) _ _ _); walk_at "mine")
        refine put_ok (by assumption) (by assumption) X T (hr.less (by decide)) (L2.rh.mono fun q hq => List.mem_cons_of_mem _ hq) OF (by decide) (by lia) hop (.head _) fun i3 t3 s3 a3 S3 rt3 news3 hi3' sm3 F3 N3 R3 O3 e3 l3 u3 C3 => ?_
        repeat' ((fail_if_success guard_target = wpAny _ _ (call (Value.ref _) _) _ _ _); (fail_if_success guard_target = wpAny _ _ (exec (Stmt.While _ _ _ _) _) _ _ _); (fail_if_success guard_target = wpAny _ _ (exec (Stmt.For _ _ _ _ _) _) _ _ _); walk_at "mine")
        have L3 := (L2.mono fun q hq => List.mem_cons_of_mem _ hq).heaped C3 e3 R3
        obtain ⟨NX, LX⟩ := turn_end N3 LF hnI hcI ((Ch.more fun q hq => List.mem_cons_of_mem _ hq).trans (Ch.heap C3)) L3 e3
        refine nx <| hZ _ ⟨⟨sm3.1.trans sm2.1, sm3.2.trans sm2.2⟩, _, oth I news3, by assumption, NX, fun q hq => oth_ne q hq, fun q hq => (nomatch hq), ?g1, ?g2, a3, S3, rt3, e3.trans hf, LX, O3, by lia, fun _ => by lia⟩
        case g1 => exact (if_neg (by decide)).trans f1
        case g2 => rw [← haH]; exact (if_neg (by decide)).trans f2
      case fA =>
        rintro mA newsA sA smA FA NA hsrc ⟨f1, f2, a1, S1, rt1, hf1, LA, OA, hA1, hA2⟩
        replace FA : Fr _ _ sA.heap _ := FA
        replace NA : News _ _ sA.heap _ := NA
        have hpos1 : 0 < S1.nodes.length := hA2 (by decide)
        have hle1 : S1.nodes.length ≤ 2 := hA1
        have haH1 : a1.H = a.H := by have := hf1; unfold HA.fix at this; exact (List.cons.inj this).1
        rw [← haH1] at f2
        clear L0 O0 hS0
        repeat' ((fail_if_success guard_target = wpAny _ _ (call (Value.ref _) _) _ _ _); (fail_if_success guard_target = wpAny _ _ (exec (Stmt.While _ _ _ _) _) _ _ _); (fail_if_success guard_target = wpAny _ _ (exec (Stmt.For _ _ _ _ _) _) _ _ _); walk_at "mine")
        refine for_exec ?_
        repeat' ((fail_if_success guard_target = wpAny _ _ (call (Value.ref _) _) _ _ _); (fail_if_success guard_target = wpAny _ _ (exec (Stmt.While _ _ _ _) _) _ _ _); (fail_if_success guard_target = wpAny _ _ (exec (Stmt.For _ _ _ _ _) _) _ _ _); walk_at "mine")
        refine scan_ok (k := 4) (by assumption) (by assumption) X T (hr.less (by decide)) LA.bt hrow (by decide) (by decide) (by decide) fun v4 tv4 s4 news4 hv4 sm4 F4 N4 RT4 C4 => ?_
        have L4 := LA.scanned NA C4 RT4
        clear FA NA LA RT4 C4
        repeat' ((fail_if_success guard_target = wpAny _ _ (call (Value.ref _) _) _ _ _); (fail_if_success guard_target = wpAny _ _ (exec (Stmt.While _ _ _ _) _) _ _ _); (fail_if_success guard_target = wpAny _ _ (exec (Stmt.For _ _ _ _ _) _) _ _ _); walk_at "mine")
        rename IsRange _ _ _ _ _ _ _ _ => hRg4
        have ev4 : (2 : Int) + (v4 : Int) = ((2 + v4 : Nat) : Int) := by lia
        rw [ev4] at hRg4
        refine for_atT (srcO := []) (by assumption) (by assumption) hr rfl rfl rfl (Src.range hRg4 (by lia)) (fun q hq => nomatch hq)
          (LwB w dX D8 row a1)
          ⟨f1, f2, a1, S1, rt1, 1, rfl, L4, OA, hle1, hpos1, Nat.le_refl _⟩ ?tB ?fB
        case tB =>
          rintro i v m0 newsF s5 I oI hi5 hv sm5 hltI F5 N5 hnI hcI hsrc hJ0 Z hZ
          refine hide fun G0 hG0 => ?_
          obtain ⟨g1, g2, a', S, rt, ix, hf, LF, OF, hSl, hS1, hix⟩ := hJ0
          refine hG0 ?_
          try clear hG0 G0
          replace F5 : Fr _ _ s5.heap _ := F5
          replace N5 : News _ _ s5.heap _ := N5
          have hi6 : i < 2 + v4 := hi5
          obtain ⟨tv, rfl⟩ := hv
          have haH : a'.H = a1.H := by have := hf; unfold HA.fix at this; exact (List.cons.inj this).1
          rw [← haH] at g2
          have L5 := LF.mono fun q hq => List.mem_cons_of_mem (I, oI) hq
          repeat' ((fail_if_success guard_target = wpAny _ _ (call (Value.ref _) _) _ _ _); (fail_if_success guard_target = wpAny _ _ (exec (Stmt.While _ _ _ _) _) _ _ _); (fail_if_success guard_target = wpAny _ _ (exec (Stmt.For _ _ _ _ _) _) _ _ _); walk_at "mine")
          refine added_ok (by assumption) (by assumption) X T (hr.less (by decide)) L5 OF (by decide) (by lia) hS1 hrow (by lia) fun s6 a6 S6 rt6 ix6 news6 sm6 F6 N6 L6 O6 hx6 e6 l6 u6 C6 => ?_
          repeat' ((fail_if_success guard_target = wpAny _ _ (call (Value.ref _) _) _ _ _); (fail_if_success guard_target = wpAny _ _ (exec (Stmt.While _ _ _ _) _) _ _ _); (fail_if_success guard_target = wpAny _ _ (exec (Stmt.For _ _ _ _ _) _) _ _ _); walk_at "mine")
          obtain ⟨NX, LX⟩ := turn_end N6 LF hnI hcI C6 L6 e6
          refine nx <| hZ _ ⟨⟨sm6.1.trans sm5.1, sm6.2.trans sm5.2⟩, _, oth I news6, by assumption, NX, fun q hq => oth_ne q hq, fun q hq => (nomatch hq), ?h1, ?h2, a6, S6, rt6, ix6, e6.trans hf, LX, O6, by lia, by lia, by lia⟩
          case h1 => exact (if_neg (by decide)).trans g1
          case h2 => rw [← haH]; exact (if_neg (by decide)).trans g2
        case fB =>
          rintro mB newsB sB smB FB NB hsrcB ⟨g1, g2, a2, S2, rt2, ix2, hf2, LB, OB, hl2, hpos2, hix2⟩
          replace FB : Fr _ _ sB.heap _ := FB
          replace NB : News _ _ sB.heap _ := NB
          have haH2 : a2.H = a1.H := by have := hf2; unfold HA.fix at this; exact (List.cons.inj this).1
          rw [← haH2] at g2
          clear L4 hRg4
          repeat' ((fail_if_success guard_target = wpAny _ _ (call (Value.ref _) _) _ _ _); (fail_if_success guard_target = wpAny _ _ (exec (Stmt.While _ _ _ _) _) _ _ _); (fail_if_success guard_target = wpAny _ _ (exec (Stmt.For _ _ _ _ _) _) _ _ _); walk_at "mine")
          refine for_exec ?_
          repeat' ((fail_if_success guard_target = wpAny _ _ (call (Value.ref _) _) _ _ _); (fail_if_success guard_target = wpAny _ _ (exec (Stmt.While _ _ _ _) _) _ _ _); (fail_if_success guard_target = wpAny _ _ (exec (Stmt.For _ _ _ _ _) _) _ _ _); walk_at "mine")
          refine scan_ok (k := 3) (by assumption) (by assumption) X T (hr.less (by decide)) LB.bt hrow (by lia) (by decide) (by decide) fun v5 tv5 s6 news6 hv5 sm6 F6 N6 RT6 C6 => ?_
          have L6 := LB.scanned NB C6 RT6
          clear FB NB LB RT6 C6
          repeat' ((fail_if_success guard_target = wpAny _ _ (call (Value.ref _) _) _ _ _); (fail_if_success guard_target = wpAny _ _ (exec (Stmt.While _ _ _ _) _) _ _ _); (fail_if_success guard_target = wpAny _ _ (exec (Stmt.For _ _ _ _ _) _) _ _ _); walk_at "mine")
          rename IsRange _ _ _ _ _ _ _ _ => hRg6
          refine for_atT (srcO := []) (by assumption) (by assumption) hr rfl rfl rfl (Src.range hRg6 (by lia)) (fun q hq => nomatch hq)
            (LwC w dX D8 row a2 S2)
            ⟨g1, g2, S2, rt2, ix2 + 1, L6, OB, rfl, by lia⟩ ?tC ?fC
          case tC =>
            rintro i v m0 newsF s7 I oI hi7 hv sm7 hltI F7 N7 hnI hcI hsrc hJ0 Z hZ
            refine hide fun G0 hG0 => ?_
            obtain ⟨k1, k2, S, rt, ix, LF, OF, hSn, hix⟩ := hJ0
            refine hG0 ?_
            try clear hG0 G0
            replace F7 : Fr _ _ s7.heap _ := F7
            replace N7 : News _ _ s7.heap _ := N7
            have hi8 : i < v5 := hi7
            obtain ⟨tv, rfl⟩ := hv
            have L7 := LF.mono fun q hq => List.mem_cons_of_mem (I, oI) hq
            repeat' ((fail_if_success guard_target = wpAny _ _ (call (Value.ref _) _) _ _ _); (fail_if_success guard_target = wpAny _ _ (exec (Stmt.While _ _ _ _) _) _ _ _); (fail_if_success guard_target = wpAny _ _ (exec (Stmt.For _ _ _ _ _) _) _ _ _); walk_at "mine")
            refine told_ok (by assumption) (by assumption) X T (hr.less (by decide)) L7 OF (by lia) (by rw [hSn]; exact hpos2) hrow (by lia) fun s8 S8 rt8 ix8 news8 sm8 F8 N8 L8 O8 hx8 e8 C8 => ?_
            repeat' ((fail_if_success guard_target = wpAny _ _ (call (Value.ref _) _) _ _ _); (fail_if_success guard_target = wpAny _ _ (exec (Stmt.While _ _ _ _) _) _ _ _); (fail_if_success guard_target = wpAny _ _ (exec (Stmt.For _ _ _ _ _) _) _ _ _); walk_at "mine")
            obtain ⟨NX, LX⟩ := turn_end N8 LF hnI hcI C8 L8 rfl
            refine nx <| hZ _ ⟨⟨sm8.1.trans sm7.1, sm8.2.trans sm7.2⟩, _, oth I news8, by assumption, NX, fun q hq => oth_ne q hq, fun q hq => (nomatch hq), ?h1, ?h2, S8, rt8, ix8, LX, O8, e8.trans hSn, by lia⟩
            case h1 => exact (if_neg (by decide)).trans k1
            case h2 => exact (if_neg (by decide)).trans k2
          case fC =>
            rintro mC newsC sC smC FC NC hsrcC ⟨k1, k2, S3, rt3, ix3, LC, OC, hn3, hix3⟩
            replace FC : Fr _ _ sC.heap _ := FC
            replace NC : News _ _ sC.heap _ := NC
            clear L6 hRg6
            have hH := LC.rh.rc.hH
            obtain ⟨t1, t2, t3, t4, t5, t6, t7, t8, t9, n', hdH⟩ := LC.rh.rc.hd
            repeat' ((fail_if_success guard_target = wpAny _ _ (call (Value.ref _) _) _ _ _); (fail_if_success guard_target = wpAny _ _ (exec (Stmt.While _ _ _ _) _) _ _ _); (fail_if_success guard_target = wpAny _ _ (exec (Stmt.For _ _ _ _ _) _) _ _ _); walk_at "mine")
            refine settle_ok (by assumption) (by assumption) X T (hr.less (by decide)) LC.rh OC (by lia) fun s9 S9 rt9 news9 sm9 F9 N9 R9 O9 e9 C9 => ?_
            have L9 := LC.heaped C9 rfl R9
            clear FC NC LC hH hdH R9 C9
            repeat' ((fail_if_success guard_target = wpAny _ _ (call (Value.ref _) _) _ _ _); (fail_if_success guard_target = wpAny _ _ (exec (Stmt.While _ _ _ _) _) _ _ _); (fail_if_success guard_target = wpAny _ _ (exec (Stmt.For _ _ _ _ _) _) _ _ _); walk_at "mine")
            refine mkG_ok (by assumption) (by assumption) X T (hr.less (by decide)) fun s10 G dG tG nG smG FG NG frG => ?_
            have LG := L9.mono fun q hq => List.mem_cons_of_mem (G, instObj 102 dG) (List.mem_cons_of_mem (dG, dictOf [ent w.params "heap" tG (.ref a2.H)] nG) hq)
            repeat' ((fail_if_success guard_target = wpAny _ _ (call (Value.ref _) _) _ _ _); (fail_if_success guard_target = wpAny _ _ (exec (Stmt.While _ _ _ _) _) _ _ _); (fail_if_success guard_target = wpAny _ _ (exec (Stmt.For _ _ _ _ _) _) _ _ _); walk_at "mine")
            refine for_exec ?_
            repeat' ((fail_if_success guard_target = wpAny _ _ (call (Value.ref _) _) _ _ _); (fail_if_success guard_target = wpAny _ _ (exec (Stmt.While _ _ _ _) _) _ _ _); (fail_if_success guard_target = wpAny _ _ (exec (Stmt.For _ _ _ _ _) _) _ _ _); walk_at "mine")
            rename IsRange _ _ _ _ _ _ _ _ => hRgD
            refine hide fun G0 hG0 => ?_
            obtain ⟨_, hGB, _, hGo⟩ := L9.apart (I := G) fun q hq => (frG q hq).1
            obtain ⟨_, hdGB, _, hdGo⟩ := L9.apart (I := dG) fun q hq => (frG q hq).2
            refine hG0 ?_
            try clear hG0 G0
            refine for_atT (srcO := []) (by assumption) (by assumption) hr rfl rfl rfl (Src.range (n := 2) hRgD (by decide)) (fun q hq => nomatch hq)
              (LwD w dX D8 row a2 G dG v5 tG nG)
              ⟨by walk_at "mloc", by walk_at "mloc", by walk_at "mloc", S9, rt9, ix3, LG, O9, by rw [e9, hn3]; exact hpos2, .head _, .tail _ (.head _), hGo, hdGo, by lia⟩ ?tD ?fD
            case fD =>
              rintro mD newsD sD smD FD ND hsrcD ⟨p1, p2, p3, S, rt, ix, LD, OD, _⟩
              replace FD : Fr _ _ sD.heap _ := FD
              replace ND : News _ _ sD.heap _ := ND
              repeat' ((fail_if_success guard_target = wpAny _ _ (call (Value.ref _) _) _ _ _); (fail_if_success guard_target = wpAny _ _ (exec (Stmt.While _ _ _ _) _) _ _ _); (fail_if_success guard_target = wpAny _ _ (exec (Stmt.For _ _ _ _ _) _) _ _ _); walk_at "mine")
              exact ⟨rfl, ⟨smD.1.trans (smG.1.trans (sm9.1.trans (smC.1.trans (sm6.1.trans (smB.1.trans (sm4.1.trans (smA.1.trans (sm10.1.trans sm8.1)))))))), smD.2.trans (smG.2.trans (sm9.2.trans (smC.2.trans (sm6.2.trans (smB.2.trans (sm4.2.trans (smA.2.trans (sm10.2.trans sm8.2))))))))⟩, FD.keep⟩
            case tD =>
              rintro i v m0 newsF s11 I oI hi11 hv sm11 hltI F11 N11 hnI hcI hsrc hJ0 Z hZ
              refine hide fun G0 hG0 => ?_
              obtain ⟨p1, p2, p3, S, rt, ix, LF, OF, hpos, hG, hdG, hGo2, hdGo2, hix⟩ := hJ0
              refine hG0 ?_
              try clear hG0 G0
              replace F11 : Fr _ _ s11.heap _ := F11
              replace N11 : News _ _ s11.heap _ := N11
              obtain ⟨tv, rfl⟩ := hv
              have hi12 : i < 2 := hi11
              have hsmz := OF.sm
              have L11 := LF.mono fun q hq => List.mem_cons_of_mem (I, oI) hq
              repeat' ((fail_if_success guard_target = wpAny _ _ (call (Value.ref _) _) _ _ _); (fail_if_success guard_target = wpAny _ _ (exec (Stmt.While _ _ _ _) _) _ _ _); (fail_if_success guard_target = wpAny _ _ (exec (Stmt.For _ _ _ _ _) _) _ _ _); walk_at "mine")
              refine layers_ok (by assumption) (by assumption) X T (hr.less (by decide)) L11.rh.rc OF.okc (by lia) fun s12 D fs news12 sm12 F12 N12 sub12 frD RL LI => ?_
              have LYF := ly_facts OF LI
              have L12 := L11.mono sub12
              have hDX : D ≠ dX ∧ dX ∉ fs.map (·.2.1) := by
                obtain ⟨oo, tt, hm, _⟩ := L11.bt.hd
                have := frD _ hm
                exact ⟨fun e => this.1 e.symm, this.2⟩
              repeat' ((fail_if_success guard_target = wpAny _ _ (call (Value.ref _) _) _ _ _); (fail_if_success guard_target = wpAny _ _ (exec (Stmt.While _ _ _ _) _) _ _ _); (fail_if_success guard_target = wpAny _ _ (exec (Stmt.For _ _ _ _ _) _) _ _ _); walk_at "mine")
              refine for_exec ?_
              repeat' ((fail_if_success guard_target = wpAny _ _ (call (Value.ref _) _) _ _ _); (fail_if_success guard_target = wpAny _ _ (exec (Stmt.While _ _ _ _) _) _ _ _); (fail_if_success guard_target = wpAny _ _ (exec (Stmt.For _ _ _ _ _) _) _ _ _); walk_at "mine")
              rename IsRange _ _ _ _ _ _ _ _ => hRgE
              have hI12 := sub12 _ (.head _)
              have hIB : I ∉ dX :: a2.own S.ab := (LF.apart hnI).2.2.2
              refine for_atT (srcO := []) (by assumption) (by assumption) hr rfl rfl rfl (Src.range (n := 2) hRgE (by decide)) (fun q hq => nomatch hq)
                (LwE w dX D8 row a2 G D ix S news12)
                ⟨by walk_at "mloc", by walk_at "mloc", by walk_at "mloc", by walk_at "mloc", ix, L12, Ch.rfl, Nat.le_refl _⟩ ?tE ?fE
              case fE =>
                rintro mE newsE sE smE FE NE hsrcE ⟨q1, q2, q3, q4, ixE, LE, CE, hixE⟩
                replace FE : Fr _ _ sE.heap _ := FE
                replace NE : News _ _ sE.heap _ := NE
                repeat' ((fail_if_success guard_target = wpAny _ _ (call (Value.ref _) _) _ _ _); (fail_if_success guard_target = wpAny _ _ (exec (Stmt.While _ _ _ _) _) _ _ _); (fail_if_success guard_target = wpAny _ _ (exec (Stmt.For _ _ _ _ _) _) _ _ _); walk_at "mine")
                refine told_ok (by assumption) (by assumption) X T (hr.less (by decide)) LE OF (by lia) hpos hrow (by lia) fun s20 S20 rt20 ix20 news20 sm20 F20 N20 L20 O20 hx20 e20 C20 => ?_
                have hH := L20.rh.rc.hH
                obtain ⟨t1, t2, t3, t4, t5, t6, t7, t8, t9, n', hdH⟩ := L20.rh.rc.hd
                repeat' ((fail_if_success guard_target = wpAny _ _ (call (Value.ref _) _) _ _ _); (fail_if_success guard_target = wpAny _ _ (exec (Stmt.While _ _ _ _) _) _ _ _); (fail_if_success guard_target = wpAny _ _ (exec (Stmt.For _ _ _ _ _) _) _ _ _); walk_at "mine")
                refine settle_ok (by assumption) (by assumption) X T (hr.less (by decide)) L20.rh O20 (by lia) fun s21 S21 rt21 news21 sm21 F21 N21 R21 O21 e21 C21 => ?_
                have L21 := L20.heaped C21 rfl R21
                repeat' ((fail_if_success guard_target = wpAny _ _ (call (Value.ref _) _) _ _ _); (fail_if_success guard_target = wpAny _ _ (exec (Stmt.While _ _ _ _) _) _ _ _); (fail_if_success guard_target = wpAny _ _ (exec (Stmt.For _ _ _ _ _) _) _ _ _); walk_at "mine")
                have CX : Ch (dX :: a2.own S.ab) (dX :: a2.own S21.ab) ((I, oI) :: newsF) news21 := (((Ch.more sub12).trans (Ch.belt CE)).trans C20).trans (Ch.heap C21)
                obtain ⟨NX, LX⟩ := turn_end N21 LF hnI hcI CX L21 rfl
                have hGx := CX.out hGo2 (.tail _ hG)
                have hdGx := CX.out hdGo2 (.tail _ hdG)
                have hGI : G ≠ I := hnI _ hG
                have hdGI : dG ≠ I := hnI _ hdG
                refine nx <| hZ _ ⟨⟨sm21.1.trans (sm20.1.trans (smE.1.trans (sm12.1.trans sm11.1))), sm21.2.trans (sm20.2.trans (smE.2.trans (sm12.2.trans sm11.2)))⟩, _, oth I news21, by assumption, NX, fun q hq => oth_ne q hq, fun q hq => (nomatch hq), q1, q2, q3, S21, rt21, ix20, LX, O21, by rw [e21, e20]; exact hpos, List.mem_filter.mpr ⟨hGx.2, by simpa using hGI⟩, List.mem_filter.mpr ⟨hdGx.2, by simpa using hdGI⟩, hGx.1, hdGx.1, by lia⟩
              case tE =>
                rintro j v m1 newsE s13 I2 oI2 hj13 hv sm13 hltI2 F13 N13 hnI2 hcI2 hsrc2 hJ0 Z hZ
                refine hide fun G0 hG0 => ?_
                obtain ⟨q1, q2, q3, q4, ixE, LE, CE, hixE⟩ := hJ0
                refine hG0 ?_
                try clear hG0 G0
                replace F13 : Fr _ _ s13.heap _ := F13
                replace N13 : News _ _ s13.heap _ := N13
                refine hide fun G0 hG0 => ?_
                obtain ⟨tv2, rfl⟩ := hv
                have hj14 : j < 2 := hj13
                have L13 := LE.mono fun q hq => List.mem_cons_of_mem (I2, oI2) hq
                have hH := L13.rh.rc.hH
                obtain ⟨t1, t2, t3, t4, t5, t6, t7, t8, t9, n', hdH⟩ := L13.rh.rc.hd
                refine hG0 ?_
                try clear hG0 G0
                repeat' ((fail_if_success guard_target = wpAny _ _ (call (Value.ref _) _) _ _ _); (fail_if_success guard_target = wpAny _ _ (exec (Stmt.While _ _ _ _) _) _ _ _); (fail_if_success guard_target = wpAny _ _ (exec (Stmt.For _ _ _ _ _) _) _ _ _); walk_at "mine")
                refine hsize_ok (by assumption) (by assumption) X T (hr.less (by decide)) L13.rh.rc (by lia) fun t14 s14 sm14 F14 N14 => ?_
                repeat' ((fail_if_success guard_target = wpAny _ _ (call (Value.ref _) _) _ _ _); (fail_if_success guard_target = wpAny _ _ (exec (Stmt.While _ _ _ _) _) _ _ _); (fail_if_success guard_target = wpAny _ _ (exec (Stmt.For _ _ _ _ _) _) _ _ _); walk_at "mine")
                refine scan_ok (by assumption) (by assumption) X T (hr.less (by decide)) L13.bt hrow (by lia) hpos (by lia) fun n tn s15 news15 hn sm15 F15 N15 RT15 C15 => ?_
                have L15 := L13.scanned N14 C15 RT15
                clear hH hdH F13 N13 F14 N14
                have hH := L15.rh.rc.hH
                obtain ⟨t1, t2, t3, t4, t5, t6, t7, t8, t9, n', hdH⟩ := L15.rh.rc.hd
                have C12 : ∀ q ∈ news12, q.1 ≠ dX → q ∈ news15 := fun q hq hne => C15.keep q (.tail _ (CE.keep q hq (by simpa using hne))) (by simpa using hne)
                have RL15 : RepL w news15 D fs := RL.sub fun q hq hor => C12 q hq (by
                  rcases hor with e | e
                  · rw [e]; exact hDX.1
                  · intro e2; rw [e2] at e; exact hDX.2 e)
                have hG15 := C12 _ (sub12 _ (.tail _ hG)) (fun e => hGo2 (by rw [show G = dX from e]; exact .head _))
                have hdG15 := C12 _ (sub12 _ (.tail _ hdG)) (fun e => hdGo2 (by rw [show dG = dX from e]; exact .head _))
                repeat' ((fail_if_success guard_target = wpAny _ _ (call (Value.ref _) _) _ _ _); (fail_if_success guard_target = wpAny _ _ (exec (Stmt.While _ _ _ _) _) _ _ _); (fail_if_success guard_target = wpAny _ _ (exec (Stmt.For _ _ _ _ _) _) _ _ _); walk_at "mine")
                refine hfind_ok (by assumption) (by assumption) X T (hr.less (by decide)) L15.rh.rc OF.okc hn fun t16 s16 sm16 F16 N16 => ?_
                repeat' ((fail_if_success guard_target = wpAny _ _ (call (Value.ref _) _) _ _ _); (fail_if_success guard_target = wpAny _ _ (exec (Stmt.While _ _ _ _) _) _ _ _); (fail_if_success guard_target = wpAny _ _ (exec (Stmt.For _ _ _ _ _) _) _ _ _); walk_at "mine")
                refine due_ok (by assumption) (by assumption) X T (hr.less (by decide)) RL15 LI.kn (LYF.key n hn) LYF.cl LYF.lt LYF.fl LYF.ll fun s17 D' o' kvs fd news17 sm17 F17 N17 sub17 hD' lo' d' dA' nd' fl' hfd => ?_
                clear hH hdH F15 N15 F16 N16
                have L17 := L15.mono sub17
                have RG17 : RepG w news17 G dG a2 S.nodes S.st := ⟨sub17 _ hG15, ⟨tG, nG, sub17 _ hdG15⟩, L17.rh.rc⟩
                have hH := L17.rh.rc.hH
                refine hide fun G0 hG0 => ?_
                obtain ⟨t1, t2, t3, t4, t5, t6, t7, t8, t9, n', hdH⟩ := L17.rh.rc.hd
                have hG17 := RG17.hG
                obtain ⟨tG2, nG2, hdG17⟩ := RG17.hd
                refine hG0 ?_
                try clear hG0 G0
                repeat' ((fail_if_success guard_target = wpAny _ _ (call (Value.ref _) _) _ _ _); (fail_if_success guard_target = wpAny _ _ (exec (Stmt.While _ _ _ _) _) _ _ _); (fail_if_success guard_target = wpAny _ _ (exec (Stmt.For _ _ _ _ _) _) _ _ _); walk_at "mine")
                refine gdepths_ok (by assumption) (by assumption) X T (hr.less (by decide)) RG17 OF.okc OF.okl hn fun s18 D1 o1 kv1 fd1 sm18 F18 N18 frD1 lo1 d1 dA1 nd1 hle1 hle2 hfd1 => ?_
                have same : ∀ c d, (c, d) ∈ fd1 ↔ (c, d) ∈ fd := fun c d => by
                  rw [hfd1, hfd]
                  exact (ends_agree LYF.ag LYF.clR (LYF.key n hn)).symm
                repeat' ((fail_if_success guard_target = wpAny _ _ (call (Value.ref _) _) _ _ _); (fail_if_success guard_target = wpAny _ _ (exec (Stmt.While _ _ _ _) _) _ _ _); (fail_if_success guard_target = wpAny _ _ (exec (Stmt.For _ _ _ _ _) _) _ _ _); walk_at "mine")
                refine rd_neD hr (by assumption) (.head _) (.tail _ hD') d1 d' lo1 lo' dA1 dA' nd1 nd' same ?_
                repeat' ((fail_if_success guard_target = wpAny _ _ (call (Value.ref _) _) _ _ _); (fail_if_success guard_target = wpAny _ _ (exec (Stmt.While _ _ _ _) _) _ _ _); (fail_if_success guard_target = wpAny _ _ (exec (Stmt.For _ _ _ _ _) _) _ _ _); walk_at "mine")
                refine gendless_ok (by assumption) (by assumption) X T (hr.less (by decide)) (RG17.mono fun q hq => List.mem_cons_of_mem _ hq) OF.okc OF.okl hn fun s19 b19 sm19 F19 N19 hb19 => ?_
                repeat' ((fail_if_success guard_target = wpAny _ _ (call (Value.ref _) _) _ _ _); (fail_if_success guard_target = wpAny _ _ (exec (Stmt.While _ _ _ _) _) _ _ _); (fail_if_success guard_target = wpAny _ _ (exec (Stmt.For _ _ _ _ _) _) _ _ _); walk_at "mine")
                refine hfind_ok (by assumption) (by assumption) X T (hr.less (by decide)) (L17.rh.rc.mono fun q hq => List.mem_cons_of_mem _ hq) OF.okc hn fun t22 s22 sm22 F22 N22 => ?_
                have hkey : rt n ∈ fd.map (·.1) ↔ ∃ d, Dep (KK S.nodes S.st rt) (rt n) d := by
                  constructor
                  · intro hm
                    refine hide fun G0 hG0 => ?_
                    obtain ⟨p, hp, e⟩ := List.mem_map.mp hm
                    refine hG0 ?_
                    try clear hG0 G0
                    have hp2 := (hfd1 p.1 p.2).mp ((same p.1 p.2).mpr hp)
                    exact ⟨p.2, by rw [← e]; exact hp2.2⟩
                  · rintro ⟨d, hd⟩
                    exact List.mem_map.mpr ⟨_, (same (rt n) d).mp ((hfd1 (rt n) d).mpr ⟨.refl, hd⟩), rfl⟩
                obtain ⟨NX, LX⟩ := turn_end (nsub N22 fun q hq => List.mem_cons_of_mem _ hq) LE hnI2 hcI2 ((Ch.belt C15).trans (Ch.more sub17)) L17 rfl
                have CX2 : Ch [dX] [dX] news12 (oth I2 news17) := CE.trans ⟨fun q hq hne => List.mem_filter.mpr ⟨sub17 _ (C15.keep q (.tail _ hq) hne), by simpa using hnI2 q hq⟩, fun _ hx => .inl hx⟩
                clear hH hdH hG17 hdG17
                by_cases hk : rt n ∈ fd.map (·.1)
                · obtain ⟨dv, hdv⟩ : ∃ dv, lk kvs (rt n) = some dv := by
                    cases q : lk kvs (rt n) with
                    | none => exact absurd hk (dA'.none.mp q)
                    | some b => exact ⟨b, rfl⟩
                  have hb : b19 = false := by
                    cases b19 with
                    | false => rfl
                    | true => exact absurd (hkey.mp hk) (hb19.mp rfl)
                  subst hb
                  repeat' ((fail_if_success guard_target = wpAny _ _ (compareOp _ _ _) _ _ _); (fail_if_success guard_target = wpAny _ _ (call (Value.ref _) _) _ _ _); (fail_if_success guard_target = wpAny _ _ (exec (Stmt.While _ _ _ _) _) _ _ _); (fail_if_success guard_target = wpAny _ _ (exec (Stmt.For _ _ _ _ _) _) _ _ _); walk_at "mine")
                  refine rd_notIn_old (by assumption) (.tail _ hD') d' lo' hdv ?_
                  repeat' ((fail_if_success guard_target = wpAny _ _ (compareOp _ _ _) _ _ _); (fail_if_success guard_target = wpAny _ _ (call (Value.ref _) _) _ _ _); (fail_if_success guard_target = wpAny _ _ (exec (Stmt.While _ _ _ _) _) _ _ _); (fail_if_success guard_target = wpAny _ _ (exec (Stmt.For _ _ _ _ _) _) _ _ _); walk_at "mine")
                  refine nb ?_
                  repeat' ((fail_if_success guard_target = wpAny _ _ (call (Value.ref _) _) _ _ _); (fail_if_success guard_target = wpAny _ _ (exec (Stmt.While _ _ _ _) _) _ _ _); (fail_if_success guard_target = wpAny _ _ (exec (Stmt.For _ _ _ _ _) _) _ _ _); walk_at "mine")
                  refine nx <| hZ _ ⟨⟨sm22.1.trans (sm19.1.trans (sm18.1.trans (sm17.1.trans (sm16.1.trans (sm15.1.trans (sm14.1.trans sm13.1)))))), sm22.2.trans (sm19.2.trans (sm18.2.trans (sm17.2.trans (sm16.2.trans (sm15.2.trans (sm14.2.trans sm13.2))))))⟩, _, oth I2 news17, by assumption, NX, fun q hq => oth_ne q hq, fun q hq => (nomatch hq), ?z1, ?z2, ?z3, ?z4, ixE + 1, LX, CX2, by lia⟩
                  case z1 => exact (if_neg (by decide)).trans ((if_neg (by decide)).trans ((if_neg (by decide)).trans q1))
                  case z2 => exact (if_neg (by decide)).trans ((if_neg (by decide)).trans ((if_neg (by decide)).trans q2))
                  case z3 => exact (if_neg (by decide)).trans ((if_neg (by decide)).trans ((if_neg (by decide)).trans q3))
                  case z4 => exact (if_neg (by decide)).trans ((if_neg (by decide)).trans ((if_neg (by decide)).trans q4))
                · have hdv := dA'.none.mpr hk
                  have hb : b19 = true := hb19.mpr fun h => hk (hkey.mpr h)
                  subst hb
                  repeat' ((fail_if_success guard_target = wpAny _ _ (compareOp _ _ _) _ _ _); (fail_if_success guard_target = wpAny _ _ (call (Value.ref _) _) _ _ _); (fail_if_success guard_target = wpAny _ _ (exec (Stmt.While _ _ _ _) _) _ _ _); (fail_if_success guard_target = wpAny _ _ (exec (Stmt.For _ _ _ _ _) _) _ _ _); walk_at "mine")
                  refine rd_notIn_new (by assumption) (.tail _ hD') d' lo' hdv ?_
                  repeat' ((fail_if_success guard_target = wpAny _ _ (compareOp _ _ _) _ _ _); (fail_if_success guard_target = wpAny _ _ (call (Value.ref _) _) _ _ _); (fail_if_success guard_target = wpAny _ _ (exec (Stmt.While _ _ _ _) _) _ _ _); (fail_if_success guard_target = wpAny _ _ (exec (Stmt.For _ _ _ _ _) _) _ _ _); walk_at "mine")
                  refine nb ?_
                  repeat' ((fail_if_success guard_target = wpAny _ _ (call (Value.ref _) _) _ _ _); (fail_if_success guard_target = wpAny _ _ (exec (Stmt.While _ _ _ _) _) _ _ _); (fail_if_success guard_target = wpAny _ _ (exec (Stmt.For _ _ _ _ _) _) _ _ _); walk_at "mine")
                  refine nx <| hZ _ ⟨⟨sm22.1.trans (sm19.1.trans (sm18.1.trans (sm17.1.trans (sm16.1.trans (sm15.1.trans (sm14.1.trans sm13.1)))))), sm22.2.trans (sm19.2.trans (sm18.2.trans (sm17.2.trans (sm16.2.trans (sm15.2.trans (sm14.2.trans sm13.2))))))⟩, _, oth I2 news17, by assumption, NX, fun q hq => oth_ne q hq, fun q hq => (nomatch hq), ?y1, ?y2, ?y3, ?y4, ixE + 1, LX, CX2, by lia⟩
                  case y1 => exact (if_neg (by decide)).trans ((if_neg (by decide)).trans ((if_neg (by decide)).trans q1))
                  case y2 => exact (if_neg (by decide)).trans ((if_neg (by decide)).trans ((if_neg (by decide)).trans q2))
                  case y3 => exact (if_neg (by decide)).trans ((if_neg (by decide)).trans ((if_neg (by decide)).trans q3))
                  case y4 => exact (if_neg (by decide)).trans ((if_neg (by decide)).trans ((if_neg (by decide)).trans q4))
end Mine

theorem PySem.Challenge.cw_rg0122_01_holds : PySem.Challenge.rw_rg0122_01.Holds := by
  exact Mine.try0
