import PyProof.Rows.All
import Wide.All
import OpenK.AllK
import Wide.FinOn
import HandS.Base
import HandS.Call
import HandS.List
import HandS.Comp
import HandS.Dict
import HandS.Iter
import HandS.Ends
import HandS.More
import HandS.Conv
import HandS.SetFor
import HandS.IsInst
import HandS.Defaults
import HandS.Words
import HandS.WordsList
import HandS.WordsDict
import KE.DataMinMax
import KE.SortData
import KE.KIndexOf
import PyProof.Rows.RowBridgeK
import HandS.Walk
import PySem.Challenge.RW_ringtrade_k12_whole_nobody_below_the_own
set_option Elab.async false
set_option linter.all false
set_option maxRecDepth 100000
set_option maxHeartbeats 8000000
namespace RT
/-! ### lists -/
theorem len_le {α : Type} [DecidableEq α] {l1 : List α} (n1 : l1.Nodup) : ∀ {l2 : List α}, (∀ x ∈ l1, x ∈ l2) → l1.length ≤ l2.length := by
  induction l1 with
  | nil => intro l2 _; exact Nat.zero_le _
  | cons a r ih =>
    intro l2 sub
    have na := List.nodup_cons.mp n1
    have ha : a ∈ l2 := sub a List.mem_cons_self
    have e := List.length_erase_of_mem ha
    have p : 0 < l2.length := List.length_pos_of_mem ha
    have less := ih na.2 (l2 := l2.erase a) fun x hx => (List.mem_erase_of_ne fun (z : x = a) => na.1 (z ▸ hx)).mpr (sub x (List.mem_cons_of_mem _ hx))
    rw [List.length_cons]
    omega
theorem len_le_of_sub {l1 l2 : List Nat} (n1 : l1.Nodup) (sub : ∀ x ∈ l1, x ∈ l2) : l1.length ≤ l2.length := len_le n1 sub
/-! ### best left -/
def bestLeft (row things : List Nat) : Option Nat := row.find? fun t => decide (t ∈ things)
structure IsBest (row T : List Nat) (b : Nat) : Prop where
  inT : b ∈ T
  inR : b ∈ row
  le : ∀ t ∈ T, t ∈ row → row.idxOf b ≤ row.idxOf t
theorem bestLeft_is : ∀ {row T : List Nat} {b : Nat}, bestLeft row T = some b → IsBest row T b
  | [], T, b, h => by cases h
  | a :: r, T, b, h => by
    unfold bestLeft at h
    rw [List.find?_cons] at h
    by_cases e : a ∈ T
    · rw [decide_eq_true e] at h
      have z : a = b := Option.some.inj h
      subst z
      refine ⟨e, List.mem_cons_self, fun t _ _ => ?_⟩
      rw [List.idxOf_cons_self]
      exact Nat.zero_le _
    · rw [decide_eq_false e] at h
      have ih := bestLeft_is (row := r) (T := T) h
      have nb : ¬ a = b := fun z => e (z ▸ ih.inT)
      refine ⟨ih.inT, List.mem_cons_of_mem _ ih.inR, fun t ht hr => ?_⟩
      have nt : ¬ a = t := fun z => e (z ▸ ht)
      have q : t ∈ r := (List.mem_cons.mp hr).resolve_left fun z => nt z.symm
      have := ih.le t ht q
      rw [List.idxOf_cons, List.idxOf_cons]
      simp only [beq_iff_eq, nb, nt, if_false, cond_false, beq_eq_false_iff_ne.mpr nb, beq_eq_false_iff_ne.mpr nt]
      omega
theorem idxOf_inj {l : List Nat} {a b : Nat} (ha : a ∈ l) (hb : b ∈ l) (h : l.idxOf a = l.idxOf b) : a = b := by
  have h1 := List.idxOf_lt_length_iff.mpr ha
  have h2 := List.idxOf_lt_length_iff.mpr hb
  have e1 : l[l.idxOf a] = a := List.getElem_idxOf h1
  have e2 : l[l.idxOf b] = b := List.getElem_idxOf h2
  rw [← e1, ← e2]
  simp only [h]
theorem bestLeft_some {row T : List Nat} {t : Nat} (h1 : t ∈ row) (h2 : t ∈ T) : ∃ b, bestLeft row T = some b := by
  cases e : bestLeft row T with
  | some b => exact ⟨b, rfl⟩
  | none =>
    have := List.find?_eq_none.mp e t h1
    simp [h2] at this
theorem is_bestLeft {row T : List Nat} {b : Nat} (h : IsBest row T b) : bestLeft row T = some b := by
  obtain ⟨c, hc⟩ := bestLeft_some h.inR h.inT
  have k := bestLeft_is hc
  have e : row.idxOf b = row.idxOf c := Nat.le_antisymm (h.le c k.inT k.inR) (k.le b h.inT h.inR)
  rw [hc, idxOf_inj h.inR k.inR e]
/-! ### iterates -/
def it (p : Nat → Nat) : Nat → Nat → Nat
  | 0, h => h
  | k + 1, h => p (it p k h)
theorem it_add (p : Nat → Nat) (h : Nat) (b : Nat) : ∀ a, it p (a + b) h = it p a (it p b h)
  | 0 => by rw [Nat.zero_add]; rfl
  | a + 1 => by
    rw [Nat.succ_add]
    show p (it p (a + b) h) = p (it p a (it p b h))
    rw [it_add p h b a]
theorem it_comm (p : Nat → Nat) (h a b : Nat) : it p a (it p b h) = it p b (it p a h) := by
  rw [← it_add, ← it_add, Nat.add_comm]
theorem it_mem {p : Nat → Nat} {L : List Nat} (hp : ∀ h ∈ L, p h ∈ L) {h : Nat} (hh : h ∈ L) : ∀ k, it p k h ∈ L
  | 0 => hh
  | k + 1 => hp _ (it_mem hp hh k)
theorem it_mul {p : Nat → Nat} {h k : Nat} (e : it p k h = h) : ∀ c, it p (k * c) h = h
  | 0 => rfl
  | c + 1 => by
    rw [Nat.mul_succ, it_add, e]
    exact it_mul e c
theorem it_mod {p : Nat → Nat} {h k : Nat} (e : it p k h = h) (i : Nat) : it p i h = it p (i % k) h := by
  have q : it p (i % k + k * (i / k)) h = it p (i % k) h := by rw [it_add, it_mul e]
  rw [Nat.mod_add_div] at q
  exact q
/-- some hand of the line comes back -/
theorem some_cycle {p : Nat → Nat} {L : List Nat} (hp : ∀ h ∈ L, p h ∈ L) {x : Nat} (hx : x ∈ L) : ∃ h ∈ L, ∃ k, 1 ≤ k ∧ k ≤ L.length ∧ it p k h = h := by
  by_cases nd : ((List.range (L.length + 1)).map fun i => it p i x).Nodup
  · have := len_le_of_sub nd (l2 := L) fun y hy => by
      obtain ⟨i, _, rfl⟩ := List.mem_map.mp hy
      exact it_mem hp hx i
    rw [List.length_map, List.length_range] at this
    omega
  · have : ¬ ∀ i j, i < j → j ≤ L.length → it p i x ≠ it p j x := fun all => nd (by
      rw [List.Nodup, List.pairwise_map]
      refine List.Pairwise.imp_of_mem ?_ List.pairwise_lt_range
      intro a b ha hb hab
      exact all a b hab (by have := List.mem_range.mp hb; omega))
    have ⟨i, h2⟩ := Classical.not_forall.mp this
    have ⟨j, h3⟩ := Classical.not_forall.mp h2
    have ⟨hij, h4⟩ := Classical.not_imp.mp h3
    have ⟨hj, h5⟩ := Classical.not_imp.mp h4
    have e := Classical.not_not.mp h5
    refine ⟨it p i x, it_mem hp hx i, j - i, by omega, by omega, ?_⟩
    rw [← it_add, show j - i + i = j by omega]
    exact e.symm
/-- the least of all iterates -/
theorem least_it (p : Nat → Nat) (h : Nat) : ∃ j, ∀ i, it p j h ≤ it p i h := by
  have key : ∀ v i, it p i h ≤ v → ∃ j, ∀ i, it p j h ≤ it p i h := by
    intro v
    induction v with
    | zero => exact fun i hi => ⟨i, fun k => by omega⟩
    | succ v ih =>
      intro i hi
      by_cases q : ∃ k, it p k h ≤ v
      · obtain ⟨k, hk⟩ := q
        exact ih k hk
      · refine ⟨i, fun k => ?_⟩
        have : ¬ it p k h ≤ v := fun z => q ⟨k, z⟩
        omega
  exact key _ 0 (Nat.le_refl _)
/-! ### a ring from a hand -/
def firstRet (p : Nat → Nat) (N h : Nat) : Option Nat := (List.range N).find? fun i => decide (it p (i + 1) h = h)
def orbit (p w : Nat → Nat) (h k : Nat) : List (Nat × Nat) := (List.range k).map fun j => (it p j h, w (it p j h))
def ringFrom (p w : Nat → Nat) (N h : Nat) : Option (List (Nat × Nat)) := (firstRet p N h).map fun i => orbit p w h (i + 1)
theorem find?_range_some {N i : Nat} {f : Nat → Bool} : (List.range N).find? f = some i ↔ f i = true ∧ i < N ∧ ∀ j, j < i → f j = false := by
  rw [List.find?_range_eq_some]
  constructor
  · rintro ⟨a, b, c⟩
    exact ⟨a, by simpa using b, fun j hj => by have := c j hj; simpa using this⟩
  · rintro ⟨a, b, c⟩
    exact ⟨a, by simpa using b, fun j hj => by have := c j hj; simpa using this⟩
theorem ringFrom_some {p w : Nat → Nat} {N h i : Nat} (hi : i < N) (e : it p (i + 1) h = h) (no : ∀ j, j < i → it p (j + 1) h ≠ h) : ringFrom p w N h = some (orbit p w h (i + 1)) := by
  have : firstRet p N h = some i := find?_range_some.mpr ⟨decide_eq_true e, hi, fun j hj => decide_eq_false (no j hj)⟩
  unfold ringFrom
  rw [this]
  rfl
theorem ringFrom_none {p w : Nat → Nat} {N h : Nat} (no : ∀ j, j < N → it p (j + 1) h ≠ h) : ringFrom p w N h = none := by
  have : firstRet p N h = none := List.find?_eq_none.mpr fun j hj => by
    have := no j (List.mem_range.mp hj)
    simp [this]
  unfold ringFrom
  rw [this]
  rfl
theorem ringFrom_is {p w : Nat → Nat} {N h : Nat} {r : List (Nat × Nat)} (e : ringFrom p w N h = some r) : ∃ k, 1 ≤ k ∧ k ≤ N ∧ it p k h = h ∧ (∀ j, 1 ≤ j → j < k → it p j h ≠ h) ∧ r = orbit p w h k := by
  unfold ringFrom at e
  cases q : firstRet p N h with
  | none => rw [q] at e; cases e
  | some i =>
    rw [q] at e
    obtain ⟨a, b, c⟩ := find?_range_some.mp q
    refine ⟨i + 1, by omega, by omega, of_decide_eq_true a, fun j h1 h2 => ?_, (Option.some.inj e).symm⟩
    have := of_decide_eq_false (c (j - 1) (by omega))
    rw [show j - 1 + 1 = j by omega] at this
    exact this
/-- a ring that is told: its first hand is its least -/
def leadRing (p w : Nat → Nat) (N h : Nat) : Option (List (Nat × Nat)) :=
  match ringFrom p w N h with
  | some r => if ∀ x ∈ r, h ≤ x.1 then some r else none
  | none => none
theorem leadRing_is {p w : Nat → Nat} {N h : Nat} {r : List (Nat × Nat)} (e : leadRing p w N h = some r) : ∃ k, 1 ≤ k ∧ k ≤ N ∧ it p k h = h ∧ (∀ j, 1 ≤ j → j < k → it p j h ≠ h) ∧ r = orbit p w h k ∧ ∀ i, h ≤ it p i h := by
  unfold leadRing at e
  cases q : ringFrom p w N h with
  | none => rw [q] at e; cases e
  | some r' =>
    rw [q] at e
    obtain ⟨k, h1, h2, h3, h4, h5⟩ := ringFrom_is q
    simp only at e
    split at e
    · rename_i all
      have er := Option.some.inj e
      subst er
      refine ⟨k, h1, h2, h3, h4, h5, fun i => ?_⟩
      rw [it_mod h3 i]
      have hm : i % k < k := Nat.mod_lt _ h1
      exact all _ (by rw [h5]; exact List.mem_map.mpr ⟨i % k, List.mem_range.mpr hm, rfl⟩)
    · cases e
theorem leadRing_some {p w : Nat → Nat} {N h k : Nat} (h1 : 1 ≤ k) (h2 : k ≤ N) (h3 : it p k h = h) (h4 : ∀ i, h ≤ it p i h) : ∃ r, leadRing p w N h = some r := by
  unfold leadRing
  cases q : ringFrom p w N h with
  | none =>
    unfold ringFrom at q
    cases z : firstRet p N h with
    | some i => rw [z] at q; cases q
    | none =>
      have := List.find?_eq_none.mp z (k - 1) (List.mem_range.mpr (by omega))
      rw [show k - 1 + 1 = k by omega] at this
      simp [h3] at this
  | some r =>
    obtain ⟨k', g1, g2, g3, g4, g5⟩ := ringFrom_is q
    refine ⟨r, ?_⟩
    simp only
    rw [if_pos]
    rintro x hx
    rw [g5] at hx
    obtain ⟨i, _, rfl⟩ := List.mem_map.mp hx
    exact h4 i
def rings (p w : Nat → Nat) (N : Nat) (S : List Nat) : List (List (Nat × Nat)) := S.filterMap (leadRing p w N)
theorem mem_rings {p w : Nat → Nat} {N : Nat} {S : List Nat} {x : Nat × Nat} (hx : x ∈ (rings p w N S).flatten) :
    ∃ h ∈ S, ∃ k, 1 ≤ k ∧ k ≤ N ∧ it p k h = h ∧ (∀ j, 1 ≤ j → j < k → it p j h ≠ h) ∧ (∀ i, h ≤ it p i h) ∧ ∃ i, i < k ∧ x = (it p i h, w (it p i h)) ∧ leadRing p w N h = some (orbit p w h k) := by
  obtain ⟨r, hr, hxr⟩ := List.mem_flatten.mp hx
  obtain ⟨h, hS, e⟩ := List.mem_filterMap.mp hr
  obtain ⟨k, h1, h2, h3, h4, h5, h6⟩ := leadRing_is e
  rw [h5] at hxr
  obtain ⟨i, hi, ex⟩ := List.mem_map.mp hxr
  exact ⟨h, hS, k, h1, h2, h3, h4, h6, i, List.mem_range.mp hi, ex.symm, by rw [e, h5]⟩
theorem rings_mem {p w : Nat → Nat} {N : Nat} {S : List Nat} {h i : Nat} {r : List (Nat × Nat)} (hS : h ∈ S) (e : leadRing p w N h = some r) : (it p i h, w (it p i h)) ∈ (rings p w N S).flatten := by
  obtain ⟨k, h1, h2, h3, h4, h5, h6⟩ := leadRing_is e
  refine List.mem_flatten.mpr ⟨r, List.mem_filterMap.mpr ⟨h, hS, e⟩, ?_⟩
  rw [h5, it_mod h3 i]
  exact List.mem_map.mpr ⟨i % k, List.mem_range.mpr (Nat.mod_lt _ h1), rfl⟩
section
variable {p w : Nat → Nat} {N : Nat} {S : List Nat}
/-- who is in a ring comes back -/
theorem ring_period {x : Nat × Nat} (hx : x ∈ (rings p w N S).flatten) : x.2 = w x.1 ∧ ∃ k, 1 ≤ k ∧ it p k x.1 = x.1 := by
  obtain ⟨h, hS, k, h1, h2, h3, h4, h6, i, hi, rfl, e⟩ := mem_rings hx
  exact ⟨rfl, k, h1, by show it p k (it p i h) = it p i h; rw [it_comm, h3]⟩
theorem ring_in (hp : ∀ h ∈ S, p h ∈ S) {x : Nat × Nat} (hx : x ∈ (rings p w N S).flatten) : x.1 ∈ S := by
  obtain ⟨h, hS, k, h1, h2, h3, h4, h6, i, hi, rfl, e⟩ := mem_rings hx
  exact it_mem hp hS i
theorem ring_closed {x : Nat × Nat} (hx : x ∈ (rings p w N S).flatten) : (p x.1, w (p x.1)) ∈ (rings p w N S).flatten := by
  obtain ⟨h, hS, k, h1, h2, h3, h4, h6, i, hi, rfl, e⟩ := mem_rings hx
  exact rings_mem (i := i + 1) hS e
theorem p_inj {a b ka kb : Nat} (ha : 1 ≤ ka) (hb : 1 ≤ kb) (ea : it p ka a = a) (eb : it p kb b = b) (e : p a = p b) : a = b := by
  have key : ∀ c, 1 ≤ c → it p c a = it p c b := by
    intro c hc
    have := it_add p a 1 (c - 1)
    have := it_add p b 1 (c - 1)
    rw [show c - 1 + 1 = c by omega] at *
    rw [‹it p c a = _›, ‹it p c b = _›]
    show it p (c - 1) (p a) = it p (c - 1) (p b)
    rw [e]
  have q := key (ka * kb) (Nat.mul_pos ha hb)
  rw [it_mul ea, Nat.mul_comm, it_mul eb] at q
  exact q
theorem orbit_nodup {h k : Nat} (h3 : it p k h = h) (h4 : ∀ j, 1 ≤ j → j < k → it p j h ≠ h) : ((orbit p w h k).map (·.1)).Nodup := by
  unfold orbit
  rw [List.map_map, List.Nodup, List.pairwise_map]
  refine List.Pairwise.imp_of_mem ?_ List.pairwise_lt_range
  intro a b ha hb hab e
  have hb' := List.mem_range.mp hb
  have e : it p a h = it p b h := e
  have q : it p (k - b + a) h = h := by
    rw [it_add, e, ← it_add, show k - b + b = k by omega, h3]
  exact h4 (k - b + a) (by omega) (by omega) q
theorem rings_nodup (nS : S.Nodup) : ((rings p w N S).flatten.map (·.1)).Nodup := by
  induction S with
  | nil => exact List.nodup_nil
  | cons h r ih =>
    obtain ⟨n1, n2⟩ := List.nodup_cons.mp nS
    unfold rings
    rw [List.filterMap_cons]
    cases e : leadRing p w N h with
    | none => exact ih n2
    | some ring =>
      simp only
      rw [List.flatten_cons, List.map_append]
      obtain ⟨k, h1, h2, h3, h4, h5, h6⟩ := leadRing_is e
      refine List.nodup_append.mpr ⟨by rw [h5]; exact orbit_nodup h3 h4, ih n2, fun x hx y hy exy => ?_⟩
      subst exy
      obtain ⟨z, hz, ez⟩ := List.mem_map.mp hx
      obtain ⟨u, hu, eu⟩ := List.mem_map.mp hy
      rw [h5] at hz
      obtain ⟨i, hi, rfl⟩ := List.mem_map.mp hz
      have hi := List.mem_range.mp hi
      obtain ⟨g, hg, k', g1, g2, g3, g4, g6, j, hj, rfl, _⟩ := mem_rings hu
      have e1 : it p i h = x := ez
      have e2 : it p j g = x := eu
      have a1 : g ≤ h := by
        have : it p (k - i + j) g = h := by rw [it_add, e2, ← e1, ← it_add, show k - i + i = k by omega, h3]
        rw [← this]
        exact g6 _
      have a2 : h ≤ g := by
        have : it p (k' - j + i) h = g := by rw [it_add, e1, ← e2, ← it_add, show k' - j + j = k' by omega, g3]
        rw [← this]
        exact h6 _
      exact n1 (Nat.le_antisymm a2 a1 ▸ hg)
/-- what is wanted tells where it points: unlike hands in rings get unlike things -/
theorem rings_things (nS : S.Nodup) (q : Nat → Nat) (hq : ∀ h ∈ S, p h = q (w h)) (hp : ∀ h ∈ S, p h ∈ S) : ((rings p w N S).flatten.map (·.2)).Nodup := by
  have nd := rings_nodup (p := p) (w := w) (N := N) nS
  rw [List.Nodup, List.pairwise_map] at nd ⊢
  refine List.Pairwise.imp_of_mem ?_ nd
  intro a b ha hb hab e
  obtain ⟨ea, ka, ha1, ha2⟩ := ring_period ha
  obtain ⟨eb, kb, hb1, hb2⟩ := ring_period hb
  refine hab (p_inj ha1 hb1 ha2 hb2 ?_)
  rw [hq _ (ring_in hp ha), hq _ (ring_in hp hb), ← ea, ← eb, e]
theorem rings_some (hN : S.length ≤ N) (hp : ∀ h ∈ S, p h ∈ S) {x : Nat} (hx : x ∈ S) : ∃ y, y ∈ (rings p w N S).flatten := by
  obtain ⟨h, hh, k, k1, k2, k3⟩ := some_cycle hp hx
  obtain ⟨j, hj⟩ := least_it p h
  have e : it p k (it p j h) = it p j h := by rw [it_comm, k3]
  obtain ⟨r, hr⟩ := leadRing_some (w := w) (N := N) k1 (by omega) e fun i => by rw [← it_add]; exact hj _
  exact ⟨_, rings_mem (i := 0) (it_mem hp hh j) hr⟩
theorem rings_self (hN : 1 ≤ N) {x : Nat} (hx : x ∈ S) (e : p x = x) : (x, w x) ∈ (rings p w N S).flatten := by
  have all : ∀ i, it p i x = x := by
    intro i
    induction i with
    | zero => rfl
    | succ i ih => show p (it p i x) = x; rw [ih, e]
  obtain ⟨r, hr⟩ := leadRing_some (w := w) (N := N) (Nat.le_refl 1) hN (all 1) fun i => Nat.le_of_eq (all i).symm
  exact rings_mem (i := 0) hx hr
end
end RT
namespace RT
/-! ### the scene -/
def row (ws : List (List Nat)) (h : Nat) : List Nat := ws.getD h []
def own (ow : List (Option Nat)) (h : Nat) : Option Nat := ow.getD h none
structure Scene (n m : Nat) (ws : List (List Nat)) (ow : List (Option Nat)) (ord : List Nat) : Prop where
  n1 : 1 ≤ n
  n7 : n ≤ 7
  nm : n ≤ m
  m8 : m ≤ 8
  wl : ws.length = n
  wp : ∀ r ∈ ws, r.Perm (List.range m)
  ol : ow.length = n
  ob : ∀ h o, own ow h = some o → o < m
  oi : ∀ g h o, own ow g = some o → own ow h = some o → g = h
  op : ord.Perm (List.range n)
/-- each gets the best of what was left -/
inductive Ser (ws : List (List Nat)) (m : Nat) : List (Nat × Nat) → Prop
  | nil : Ser ws m []
  | snoc {D : List (Nat × Nat)} {h t : Nat} : Ser ws m D → (∀ t', t' < m → (row ws h).idxOf t' < (row ws h).idxOf t → t' ∈ D.map (·.2)) → Ser ws m (D ++ [(h, t)])
theorem Ser.more {ws : List (List Nat)} {m : Nat} {D : List (Nat × Nat)} (s : Ser ws m D) : ∀ (R : List (Nat × Nat)), (∀ x ∈ R, ∀ t', t' < m → (row ws x.1).idxOf t' < (row ws x.1).idxOf x.2 → t' ∈ D.map (·.2)) → Ser ws m (D ++ R)
  | [], _ => by rw [List.append_nil]; exact s
  | (h, t) :: R, H => by
    have s1 : Ser ws m (D ++ [(h, t)]) := .snoc s fun t' a b => H (h, t) List.mem_cons_self t' a b
    have := Ser.more s1 R fun x hx t' a b => by
      rw [List.map_append]
      exact List.mem_append_left _ (H x (List.mem_cons_of_mem _ hx) t' a b)
    rw [List.append_assoc] at this
    exact this
def FirstOk (ws : List (List Nat)) (ow : List (Option Nat)) (ord : List Nat) (D : List (Nat × Nat)) : Prop :=
  (own ow (ord.headD 0) = some ((row ws (ord.headD 0)).headD 0) ∨ ∀ h, own ow h ≠ some ((row ws (ord.headD 0)).headD 0)) → (ord.headD 0, (row ws (ord.headD 0)).headD 0) ∈ D
structure Inv (n m : Nat) (ws : List (List Nat)) (ow : List (Option Nat)) (ord : List Nat) (D : List (Nat × Nat)) (L T : List Nat) : Prop where
  Ln : L.Nodup
  Lm : ∀ h, h ∈ L ↔ h < n ∧ h ∉ D.map (·.1)
  Tn : T.Nodup
  Tm : ∀ t, t ∈ T ↔ t < m ∧ t ∉ D.map (·.2)
  Dh : (D.map (·.1)).Nodup
  Dhn : ∀ x ∈ D, x.1 < n
  Dt : (D.map (·.2)).Nodup
  Dtm : ∀ x ∈ D, x.2 < m
  ser : Ser ws m D
  ownD : ∀ x ∈ D, ∀ o, own ow x.1 = some o → (row ws x.1).idxOf x.2 ≤ (row ws x.1).idxOf o
  ownL : ∀ h ∈ L, ∀ o, own ow h = some o → o ∈ T
  st : D = [] → L = ord ∧ T = List.range m
  fst : D ≠ [] → FirstOk ws ow ord D
def wantOf (ws : List (List Nat)) (T : List Nat) (h : Nat) : Nat := (bestLeft (row ws h) T).getD 0
def ownerOf (ow : List (Option Nat)) (L : List Nat) (t : Nat) : Nat := (L.find? fun g => decide (own ow g = some t)).getD (L.headD 0)
def minus (L X : List Nat) : List Nat := L.filter fun h => decide (h ∉ X)
theorem mem_minus {L X : List Nat} {h : Nat} : h ∈ minus L X ↔ h ∈ L ∧ h ∉ X := by
  unfold minus
  rw [List.mem_filter]
  simp
theorem minus_nil (L : List Nat) : minus L [] = L := by
  unfold minus
  rw [List.filter_eq_self]
  intro a _
  simp
theorem minus_erase {L X : List Nat} {h : Nat} (nd : L.Nodup) : (minus L X).erase h = minus L (X ++ [h]) := by
  unfold minus
  rw [List.Nodup.erase_eq_filter (nd.filter _), List.filter_filter]
  refine List.filter_congr fun a _ => ?_
  by_cases e : a = h
  · subst e; simp
  · by_cases q : a ∈ X <;> simp [e, q]
theorem minus_nodup {L X : List Nat} (nd : L.Nodup) : (minus L X).Nodup := nd.filter _
section
variable {n m : Nat} {ws : List (List Nat)} {ow : List (Option Nat)} {ord : List Nat} {D : List (Nat × Nat)} {L T : List Nat}
theorem Scene.row_perm (S : Scene n m ws ow ord) {h : Nat} (hh : h < n) : (row ws h).Perm (List.range m) := by
  have hl : h < ws.length := by rw [S.wl]; exact hh
  unfold row
  rw [List.getD_eq_getElem?_getD, List.getElem?_eq_getElem hl]
  exact S.wp _ (List.getElem_mem hl)
theorem Scene.row_mem (S : Scene n m ws ow ord) {h t : Nat} (hh : h < n) : t ∈ row ws h ↔ t < m := by
  rw [(S.row_perm hh).mem_iff, List.mem_range]
theorem Scene.begin (S : Scene n m ws ow ord) : Inv n m ws ow ord [] ord (List.range m) := by
  refine ⟨(S.op.nodup_iff).mpr List.nodup_range, fun h => by rw [S.op.mem_iff]; simp, List.nodup_range, fun t => by simp, List.nodup_nil, (fun x hx => nomatch hx), List.nodup_nil, (fun x hx => nomatch hx), .nil, (fun x hx => nomatch hx), fun h _ o e => ?_, fun _ => ⟨rfl, rfl⟩, fun z => absurd rfl z⟩
  exact List.mem_range.mpr (S.ob h o e)
theorem Inv.thing (I : Inv n m ws ow ord D L T) (S : Scene n m ws ow ord) (hL : L ≠ []) : ∃ t, t ∈ T := by
  obtain ⟨h, r, e⟩ : ∃ h r, L = h :: r := by
    cases L with
    | nil => exact absurd rfl hL
    | cons h r => exact ⟨h, r, rfl⟩
  have hh := (I.Lm h).mp (by rw [e]; exact List.mem_cons_self)
  have l1 : D.length < n := by
    have nd : (h :: D.map (·.1)).Nodup := List.nodup_cons.mpr ⟨hh.2, I.Dh⟩
    have := len_le_of_sub nd (l2 := List.range n) fun x hx => by
      rcases List.mem_cons.mp hx with z | z
      · rw [z]; exact List.mem_range.mpr hh.1
      · obtain ⟨y, hy, rfl⟩ := List.mem_map.mp z
        exact List.mem_range.mpr (I.Dhn y hy)
    rw [List.length_cons, List.length_map, List.length_range] at this
    exact this
  have nm := S.nm
  have ne : ¬ ∀ t, t < m → t ∈ D.map (·.2) := fun all => by
    have := len_le_of_sub (l1 := List.range m) List.nodup_range (l2 := D.map (·.2)) fun x hx => all x (List.mem_range.mp hx)
    rw [List.length_map, List.length_range] at this
    omega
  obtain ⟨t, ht⟩ := Classical.not_forall.mp ne
  obtain ⟨h1, h2⟩ := Classical.not_imp.mp ht
  exact ⟨t, (I.Tm t).mpr ⟨h1, h2⟩⟩
theorem Inv.want (I : Inv n m ws ow ord D L T) (S : Scene n m ws ow ord) (hL : L ≠ []) {h : Nat} (hh : h ∈ L) : bestLeft (row ws h) T = some (wantOf ws T h) := by
  obtain ⟨t, ht⟩ := I.thing S hL
  have hn := ((I.Lm h).mp hh).1
  obtain ⟨b, hb⟩ := bestLeft_some (row := row ws h) ((S.row_mem hn).mpr ((I.Tm t).mp ht).1) ht
  unfold wantOf
  rw [hb]
  rfl
theorem headD_mem (hL : L ≠ []) : L.headD 0 ∈ L := by
  cases L with
  | nil => exact absurd rfl hL
  | cons h r => exact List.mem_cons_self
theorem owner_mem (hL : L ≠ []) (t : Nat) : ownerOf ow L t ∈ L := by
  unfold ownerOf
  cases e : L.find? fun g => decide (own ow g = some t) with
  | none => exact headD_mem hL
  | some g => exact List.mem_of_find?_eq_some e
theorem owner_is (S : Scene n m ws ow ord) {h t : Nat} (hh : h ∈ L) (e : own ow h = some t) : ownerOf ow L t = h := by
  unfold ownerOf
  cases q : L.find? fun g => decide (own ow g = some t) with
  | none =>
    have := List.find?_eq_none.mp q h hh
    simp [e] at this
  | some g =>
    have z := List.find?_some q
    exact S.oi g h t (of_decide_eq_true z) e
/-- the pairs of a round -/
def roundOf (ws : List (List Nat)) (ow : List (Option Nat)) (L T S : List Nat) : List (List (Nat × Nat)) :=
  rings (fun h => ownerOf ow L (wantOf ws T h)) (wantOf ws T) L.length S
theorem Inv.round (I : Inv n m ws ow ord D L T) (S : Scene n m ws ow ord) (hL : L ≠ []) {A : List Nat} (hA : A.Perm L) {R : List (Nat × Nat)} (hR : R = (roundOf ws ow L T A).flatten) :
    R ≠ [] ∧ (∀ x ∈ R, x.1 ∈ L ∧ x.2 ∈ T) ∧ (R.map (·.1)).Nodup ∧ (R.map (·.2)).Nodup ∧ Inv n m ws ow ord (D ++ R) (minus L (R.map (·.1))) (minus T (R.map (·.2))) := by
  have nA : A.Nodup := hA.nodup_iff.mpr I.Ln
  have hpL : ∀ h, ownerOf ow L (wantOf ws T h) ∈ A := fun h => hA.mem_iff.mpr (owner_mem hL _)
  have hp : ∀ h ∈ A, (fun h => ownerOf ow L (wantOf ws T h)) h ∈ A := fun h _ => hpL h
  obtain ⟨x0, hx0⟩ : ∃ x, x ∈ L := ⟨_, headD_mem hL⟩
  have ne : R ≠ [] := by
    obtain ⟨y, hy⟩ := rings_some (w := wantOf ws T) (N := L.length) (Nat.le_of_eq hA.length_eq) hp (hA.mem_iff.mpr hx0)
    intro z
    rw [hR] at z
    have hy : y ∈ (roundOf ws ow L T A).flatten := hy
    rw [z] at hy
    cases hy
  have inn : ∀ x ∈ R, x.1 ∈ L ∧ x.2 = wantOf ws T x.1 := fun x hx => by
    rw [hR] at hx
    exact ⟨hA.mem_iff.mp (ring_in hp hx), (ring_period hx).1⟩
  have best : ∀ x ∈ R, IsBest (row ws x.1) T x.2 := fun x hx => by
    obtain ⟨a, b⟩ := inn x hx
    rw [b]
    exact bestLeft_is (I.want S hL a)
  have nd1 : (R.map (·.1)).Nodup := by rw [hR]; exact rings_nodup nA
  have nd2 : (R.map (·.2)).Nodup := by rw [hR]; exact rings_things nA (ownerOf ow L) (fun _ _ => rfl) hp
  have low : ∀ x ∈ R, ∀ t', t' < m → (row ws x.1).idxOf t' < (row ws x.1).idxOf x.2 → t' ∈ D.map (·.2) := fun x hx t' a b => by
    have hn := ((I.Lm x.1).mp (inn x hx).1).1
    by_cases q : t' ∈ D.map (·.2)
    · exact q
    · have := (best x hx).le t' ((I.Tm t').mpr ⟨a, q⟩) ((S.row_mem hn).mpr a)
      omega
  refine ⟨ne, fun x hx => ⟨(inn x hx).1, (best x hx).inT⟩, nd1, nd2, ?_⟩
  refine ⟨minus_nodup I.Ln, fun h => ?_, minus_nodup I.Tn, fun t => ?_, ?_, fun x hx => ?_, ?_, fun x hx => ?_, I.ser.more R low, fun x hx o ho => ?_, fun h hh o ho => ?_, fun z => ?_, fun _ => ?_⟩
  · rw [mem_minus, I.Lm, List.map_append, List.mem_append]
    constructor
    · rintro ⟨⟨a, b⟩, c⟩
      exact ⟨a, fun z => z.elim b c⟩
    · rintro ⟨a, b⟩
      exact ⟨⟨a, fun z => b (.inl z)⟩, fun z => b (.inr z)⟩
  · rw [mem_minus, I.Tm, List.map_append, List.mem_append]
    constructor
    · rintro ⟨⟨a, b⟩, c⟩
      exact ⟨a, fun z => z.elim b c⟩
    · rintro ⟨a, b⟩
      exact ⟨⟨a, fun z => b (.inl z)⟩, fun z => b (.inr z)⟩
  · rw [List.map_append]
    refine List.nodup_append.mpr ⟨I.Dh, nd1, fun a ha b hb e => ?_⟩
    obtain ⟨y, hy, ey⟩ := List.mem_map.mp hb
    exact ((I.Lm y.1).mp (inn y hy).1).2 (by rw [ey, ← e]; exact ha)
  · rcases List.mem_append.mp hx with z | z
    · exact I.Dhn x z
    · exact ((I.Lm x.1).mp (inn x z).1).1
  · rw [List.map_append]
    refine List.nodup_append.mpr ⟨I.Dt, nd2, fun a ha b hb e => ?_⟩
    obtain ⟨y, hy, ey⟩ := List.mem_map.mp hb
    exact ((I.Tm y.2).mp (best y hy).inT).2 (by rw [ey, ← e]; exact ha)
  · rcases List.mem_append.mp hx with z | z
    · exact I.Dtm x z
    · exact ((I.Tm x.2).mp (best x z).inT).1
  · rcases List.mem_append.mp hx with z | z
    · exact I.ownD x z o ho
    · have oT := I.ownL x.1 (inn x z).1 o ho
      have hn := ((I.Lm x.1).mp (inn x z).1).1
      exact (best x z).le o oT ((S.row_mem hn).mpr ((I.Tm o).mp oT).1)
  · obtain ⟨a, b⟩ := mem_minus.mp hh
    refine mem_minus.mpr ⟨I.ownL h a o ho, fun z => b ?_⟩
    obtain ⟨y, hy, ey⟩ := List.mem_map.mp z
    have hy' := hy
    rw [hR] at hy'
    have cl := ring_closed hy'
    have e1 : ownerOf ow L (wantOf ws T y.1) = h := by
      rw [← (inn y hy).2, ey]
      exact owner_is S a ho
    have cl : (h, wantOf ws T h) ∈ (roundOf ws ow L T A).flatten := by
      have cl : (ownerOf ow L (wantOf ws T y.1), wantOf ws T (ownerOf ow L (wantOf ws T y.1))) ∈ (roundOf ws ow L T A).flatten := cl
      rw [e1] at cl
      exact cl
    exact List.mem_map.mpr ⟨_, by rw [hR]; exact cl, rfl⟩
  · have : R = [] := (List.append_eq_nil_iff.mp z).2
    exact absurd this ne
  · intro cond
    by_cases hD : D = []
    · obtain ⟨eL, eT⟩ := I.st hD
      have hf : ord.headD 0 ∈ L := by rw [eL] at hL ⊢; exact headD_mem hL
      have hn := ((I.Lm _).mp hf).1
      have hb : wantOf ws T (ord.headD 0) = (row ws (ord.headD 0)).headD 0 := by
        have pm := S.row_perm hn
        unfold wantOf
        rw [eT]
        cases e : row ws (ord.headD 0) with
        | nil =>
          have h1 := S.n1
          have h2 := S.nm
          have := pm.length_eq
          rw [e, List.length_nil, List.length_range] at this
          omega
        | cons b r =>
          have : b ∈ List.range m := pm.mem_iff.mp (by rw [e]; exact List.mem_cons_self)
          unfold bestLeft
          rw [List.find?_cons, decide_eq_true this]
          rfl
      have pf : ownerOf ow L (wantOf ws T (ord.headD 0)) = ord.headD 0 := by
        rw [hb]
        rcases cond with c | c
        · exact owner_is S hf c
        · unfold ownerOf
          rw [List.find?_eq_none.mpr fun g _ => by rw [decide_eq_true_eq]; exact c g, eL]
          rfl
      have l1 : 1 ≤ L.length := List.length_pos_of_mem hf
      have := rings_self (p := fun h => ownerOf ow L (wantOf ws T h)) (w := wantOf ws T) (N := L.length) l1 (hA.mem_iff.mpr hf) pf
      rw [hb] at this
      exact List.mem_append_right _ (by rw [hR]; exact this)
    · exact List.mem_append_left _ (I.fst hD cond)
end
/-! ### the dealing -/
def place (g : List Nat) (D : List (Nat × Nat)) : List Nat := D.foldl (fun g x => g.set x.1 x.2) g
theorem place_append (g : List Nat) (A B : List (Nat × Nat)) : place g (A ++ B) = place (place g A) B := by
  unfold place
  rw [List.foldl_append]
theorem place_length : ∀ (D : List (Nat × Nat)) (g : List Nat), (place g D).length = g.length
  | [], g => rfl
  | x :: D, g => by
    show (place (g.set x.1 x.2) D).length = g.length
    rw [place_length D, List.length_set]
theorem place_not : ∀ (D : List (Nat × Nat)) (g : List Nat) (h : Nat), h ∉ D.map (·.1) → (place g D)[h]? = g[h]?
  | [], g, h, _ => rfl
  | x :: D, g, h, nh => by
    show (place (g.set x.1 x.2) D)[h]? = g[h]?
    rw [List.map_cons, List.mem_cons] at nh
    rw [place_not D _ h fun z => nh (.inr z), List.getElem?_set_ne fun z => nh (.inl z.symm)]
theorem place_get : ∀ (D : List (Nat × Nat)) (g : List Nat) (x : Nat × Nat), (D.map (·.1)).Nodup → x.1 < g.length → x ∈ D → (place g D)[x.1]? = some x.2
  | [], g, x, _, _, h => nomatch h
  | y :: D, g, x, nd, hl, h => by
    obtain ⟨n1, n2⟩ := List.nodup_cons.mp nd
    show (place (g.set y.1 y.2) D)[x.1]? = some x.2
    rcases List.mem_cons.mp h with e | h
    · subst e
      rw [place_not D _ _ n1, List.getElem?_set_self hl]
    · exact place_get D _ x n2 (by rw [List.length_set]; exact hl) h
structure Deal (n m : Nat) (ws : List (List Nat)) (ow : List (Option Nat)) (ord : List Nat) (f : List Nat) : Prop where
  len : f.length = n
  lt : ∀ t ∈ f, t < m
  nd : f.Nodup
  ser : ∃ D, Ser ws m D ∧ ∀ h t, f[h]? = some t ↔ (h, t) ∈ D
  ownD : ∀ h t o, f[h]? = some t → own ow h = some o → (row ws h).idxOf t ≤ (row ws h).idxOf o
  first : (own ow (ord.headD 0) = some ((row ws (ord.headD 0)).headD 0) ∨ ∀ h, own ow h ≠ some ((row ws (ord.headD 0)).headD 0)) → f[ord.headD 0]? = some ((row ws (ord.headD 0)).headD 0)
theorem Inv.deal {n m : Nat} {ws : List (List Nat)} {ow : List (Option Nat)} {ord : List Nat} {D : List (Nat × Nat)} {T : List Nat} (I : Inv n m ws ow ord D [] T) (S : Scene n m ws ow ord) : Deal n m ws ow ord (place (List.replicate n 0) D) := by
  have hl : (place (List.replicate n 0) D).length = n := by rw [place_length, List.length_replicate]
  have all : ∀ h, h < n → ∃ t, (h, t) ∈ D := fun h hh => by
    have : h ∈ D.map (·.1) := Classical.not_not.mp fun z => by
      have := (I.Lm h).mpr ⟨hh, z⟩
      cases this
    obtain ⟨x, hx, ex⟩ := List.mem_map.mp this
    subst ex
    exact ⟨x.2, hx⟩
  have get : ∀ h t, (h, t) ∈ D → (place (List.replicate n 0) D)[h]? = some t := fun h t hx =>
    place_get D _ (h, t) I.Dh (by rw [List.length_replicate]; exact I.Dhn _ hx) hx
  have iff : ∀ h t, (place (List.replicate n 0) D)[h]? = some t ↔ (h, t) ∈ D := fun h t => by
    refine ⟨fun e => ?_, get h t⟩
    have hh : h < n := by
      have := (List.getElem?_eq_some_iff.mp e).1
      rw [hl] at this
      exact this
    obtain ⟨t', ht⟩ := all h hh
    have e2 := get h t' ht
    rw [e] at e2
    rw [Option.some.inj e2]
    exact ht
  refine ⟨hl, fun t ht => ?_, ?_, ⟨D, I.ser, iff⟩, fun h t o e ho => I.ownD (h, t) ((iff h t).mp e) o ho, fun c => (iff _ _).mpr ?_⟩
  · obtain ⟨h, e⟩ := List.mem_iff_getElem?.mp ht
    exact I.Dtm _ ((iff h t).mp e)
  · rw [List.nodup_iff_pairwise_ne, List.pairwise_iff_getElem]
    intro i j hi hj hij e
    have a := (iff i _).mp (List.getElem?_eq_getElem hi)
    have b := (iff j _).mp (List.getElem?_eq_getElem hj)
    rw [← e] at b
    have nd := I.Dt
    rw [List.Nodup, List.pairwise_map] at nd
    have key : ∀ {l : List (Nat × Nat)} {x y : Nat × Nat}, l.Pairwise (fun a b => a.2 ≠ b.2) → x ∈ l → y ∈ l → x.2 = y.2 → x = y := by
      intro l x y hp hx hy e
      induction l with
      | nil => cases hx
      | cons z l ih =>
        obtain ⟨p1, p2⟩ := List.pairwise_cons.mp hp
        rcases List.mem_cons.mp hx with ex | hx'
        · rcases List.mem_cons.mp hy with ey | hy'
          · rw [ex, ey]
          · exact absurd (ex ▸ e) (p1 y hy')
        · rcases List.mem_cons.mp hy with ey | hy'
          · exact absurd (ey ▸ e.symm) (p1 x hx')
          · exact ih p2 hx' hy'
    have := key nd a b rfl
    have : i = j := congrArg Prod.fst this
    omega
  · refine I.fst (fun z => ?_) c
    obtain ⟨t, ht⟩ := all 0 S.n1
    rw [z] at ht
    cases ht
/-! ### some hand left has the best thing left -/
structure Left (n m : Nat) (f : List Nat) (L T : List Nat) : Prop where
  Ln : L.Nodup
  Lm : ∀ h ∈ L, h < n
  Tn : T.Nodup
  Tm : ∀ t, t ∈ T ↔ t < m ∧ ∀ g, f[g]? = some t → g ∈ L
section
variable {n m : Nat} {ws : List (List Nat)} {ow : List (Option Nat)} {ord f : List Nat} {L T : List Nat}
theorem Left.begin (d : Deal n m ws ow ord f) : Left n m f (List.range n) (List.range m) :=
  ⟨List.nodup_range, fun h hh => List.mem_range.mp hh, List.nodup_range, fun t => by
    rw [List.mem_range]
    refine ⟨fun h => ⟨h, fun g e => ?_⟩, fun h => h.1⟩
    have := (List.getElem?_eq_some_iff.mp e).1
    rw [d.len] at this
    exact List.mem_range.mpr this⟩
theorem Left.served (l : Left n m f L T) (d : Deal n m ws ow ord f) (S : Scene n m ws ow ord) (hL : L ≠ []) : ∃ h ∈ L, ∃ t, f[h]? = some t ∧ bestLeft (row ws h) T = some t := by
  obtain ⟨D, s, iff⟩ := d.ser
  have key : ∀ {D}, Ser ws m D → (∀ h t, (h, t) ∈ D → f[h]? = some t) → (∀ x ∈ D, x.1 ∉ L) ∨ ∃ h t, h ∈ L ∧ (h, t) ∈ D ∧ ∀ t', t' < m → (row ws h).idxOf t' < (row ws h).idxOf t → ∃ g, g ∉ L ∧ (g, t') ∈ D := by
    intro D s
    induction s with
    | nil => exact fun _ => .inl fun x hx => nomatch hx
    | @snoc D h t s low ih =>
      intro hD
      rcases ih fun h t hx => hD h t (List.mem_append_left _ hx) with no | ⟨g, u, a, b, c⟩
      · by_cases hh : h ∈ L
        · refine .inr ⟨h, t, hh, by simp, fun t' a b => ?_⟩
          obtain ⟨x, hx, ex⟩ := List.mem_map.mp (low t' a b)
          exact ⟨x.1, no x hx, List.mem_append_left _ (by rw [← ex]; exact hx)⟩
        · refine .inl fun x hx => ?_
          rcases List.mem_append.mp hx with z | z
          · exact no x z
          · rw [List.mem_singleton.mp z]; exact hh
      · refine .inr ⟨g, u, a, List.mem_append_left _ b, fun t' p q => ?_⟩
        obtain ⟨k, k1, k2⟩ := c t' p q
        exact ⟨k, k1, List.mem_append_left _ k2⟩
  rcases key s fun h t hx => (iff h t).mpr hx with no | ⟨h, t, a, b, c⟩
  · have h0 := headD_mem hL
    have hn := l.Lm _ h0
    have hlt : L.headD 0 < f.length := by rw [d.len]; exact hn
    have := (iff _ _).mp (List.getElem?_eq_getElem hlt)
    exact absurd h0 (no _ this)
  · refine ⟨h, a, t, (iff h t).mpr b, is_bestLeft ?_⟩
    have hn := l.Lm h a
    have e := (iff h t).mpr b
    have tm : t < m := d.lt t (List.mem_of_getElem? e)
    have uniq : ∀ g, f[g]? = some t → g = h := fun g eg => by
      obtain ⟨i1, e1⟩ := List.getElem?_eq_some_iff.mp e
      obtain ⟨i2, e2⟩ := List.getElem?_eq_some_iff.mp eg
      exact (List.getElem_inj d.nd).mp (e2.trans e1.symm)
    refine ⟨(l.Tm t).mpr ⟨tm, fun g eg => uniq g eg ▸ a⟩, (S.row_mem hn).mpr tm, fun t' ht' _ => ?_⟩
    by_cases q : (row ws h).idxOf t' < (row ws h).idxOf t
    · obtain ⟨m1, m2⟩ := (l.Tm t').mp ht'
      obtain ⟨g, g1, g2⟩ := c t' m1 q
      exact absurd (m2 g ((iff g t').mpr g2)) g1
    · omega
theorem Left.step (l : Left n m f L T) (d : Deal n m ws ow ord f) {h t : Nat} (hh : h ∈ L) (e : f[h]? = some t) : Left n m f (L.erase h) (T.erase t) := by
  refine ⟨l.Ln.erase _, fun g hg => l.Lm g (List.mem_of_mem_erase hg), l.Tn.erase _, fun t' => ?_⟩
  rw [List.Nodup.mem_erase_iff l.Tn, l.Tm]
  constructor
  · rintro ⟨ne, a, b⟩
    refine ⟨a, fun g eg => (List.Nodup.mem_erase_iff l.Ln).mpr ⟨fun z => ?_, b g eg⟩⟩
    rw [z, e] at eg
    exact ne (Option.some.inj eg).symm
  · rintro ⟨a, b⟩
    refine ⟨fun z => ?_, a, fun g eg => List.mem_of_mem_erase (b g eg)⟩
    rw [z] at b
    exact ((List.Nodup.mem_erase_iff l.Ln).mp (b h e)).1 rfl
end
end RT
namespace RT
open PySem PySem.Spec PyProof.Rows L2
/-! ### the text -/
def topS (i : Nat) : Stmt := PySem.Challenge.pw_ringtrade_k12_whole_nobody_below_the_own.main.body.getD i (.Pass ⟨0, 0, 0, 0⟩)
abbrev sBelow : Stmt := topS 4
abbrev sIn : Stmt := topS 5
abbrev sOrder : Stmt := topS 6
abbrev sBest : Stmt := topS 8
abbrev sNext : Stmt := topS 9
abbrev sRing : Stmt := topS 10
abbrev sNow : Stmt := topS 11
abbrev sRounds : Stmt := topS 12
abbrev sBy : Stmt := topS 13
abbrev sCell : Stmt := topS 15
abbrev sRow : Stmt := topS 16
abbrev sWishes : Stmt := topS 17
abbrev sOwns : Stmt := topS 18
abbrev sLBest : Stmt := topS 19
abbrev sDeal : Stmt := topS 20
abbrev sOrdBy : Stmt := topS 21
abbrev sLine : Stmt := topS 22
abbrev sScene : Stmt := topS 23
abbrev sMade : Stmt := topS 24
abbrev sLaw : Stmt := topS 25
theorem scBelow : FnScope ["thing", "many"] ["thing", "many"] (defScope sBelow) := ⟨rfl, rfl, rfl, by decide +kernel, rfl, by decide +kernel, by decide +kernel⟩
theorem scIn : FnScope ["wishes"] ["wishes"] (defScope sIn) := ⟨rfl, rfl, rfl, by decide +kernel, rfl, by decide +kernel, by decide +kernel⟩
theorem scOrder : FnScope ["wishes", "order", "met", "at", "hand"] ["wishes", "order"] (defScope sOrder) := ⟨rfl, rfl, rfl, by decide +kernel, rfl, by decide +kernel, by decide +kernel⟩
theorem scBest : FnScope ["row", "things", "thing"] ["row", "things"] (defScope sBest) := ⟨rfl, rfl, rfl, by decide +kernel, rfl, by decide +kernel, by decide +kernel⟩
theorem scNext : FnScope ["owns", "line", "wants", "owners", "hand", "points"] ["owns", "line", "wants"] (defScope sNext) := ⟨rfl, rfl, rfl, by decide +kernel, rfl, by decide +kernel, by decide +kernel⟩
theorem scRing : FnScope ["hand", "wants", "points", "ring", "here", "step"] ["hand", "wants", "points"] (defScope sRing) := ⟨rfl, rfl, rfl, by decide +kernel, rfl, by decide +kernel, by decide +kernel⟩
theorem scNow : FnScope ["owns", "line", "wants", "points", "rings", "hand", "ring"] ["owns", "line", "wants"] (defScope sNow) := ⟨rfl, rfl, rfl, by decide +kernel, rfl, by decide +kernel, by decide +kernel⟩
theorem scRounds : FnScope ["wishes", "owns", "order", "line", "things", "told", "wants", "hand", "rings", "ring", "thing"] ["wishes", "owns", "order"] (defScope sRounds) := ⟨rfl, rfl, rfl, by decide +kernel, rfl, by decide +kernel, by decide +kernel⟩
theorem scBy : FnScope ["wishes", "owns", "order", "got", "rings", "ring", "hand", "thing", "row"] ["wishes", "owns", "order"] (defScope sBy) := ⟨rfl, rfl, rfl, by decide +kernel, rfl, by decide +kernel, by decide +kernel⟩
theorem scCell : FnScope ["_law_script", "_law_k", "_law_cell_here", "_law_stirred"] ["_law_script", "_law_k"] (defScope sCell) := ⟨rfl, rfl, rfl, by decide +kernel, rfl, by decide +kernel, by decide +kernel⟩
theorem scRow : FnScope ["_law_cell_here", "_law_m", "_law_row_here", "_law_thing"] ["_law_cell_here", "_law_m"] (defScope sRow) := ⟨rfl, rfl, rfl, by decide +kernel, rfl, by decide +kernel, by decide +kernel⟩
theorem scWishes : FnScope ["_law_script", "_law_at", "_law_n", "_law_m", "_law_hand"] ["_law_script", "_law_at", "_law_n", "_law_m"] (defScope sWishes) := ⟨rfl, rfl, rfl, by decide +kernel, rfl, by decide +kernel, by decide +kernel⟩
theorem scOwns : FnScope ["_law_cell_here", "_law_n", "_law_m", "_law_owns_here", "_law_hand", "_law_thing"] ["_law_cell_here", "_law_n", "_law_m"] (defScope sOwns) := ⟨rfl, rfl, rfl, by decide +kernel, rfl, by decide +kernel, by decide +kernel⟩
theorem scLBest : FnScope ["_law_row_here", "_law_left", "_law_thing"] ["_law_row_here", "_law_left"] (defScope sLBest) := ⟨rfl, rfl, rfl, by decide +kernel, rfl, by decide +kernel, by decide +kernel⟩
theorem scDeal : FnScope ["_law_found", "_law_n", "_law_m", "_law_thing"] ["_law_found", "_law_n", "_law_m"] (defScope sDeal) := ⟨rfl, rfl, rfl, by decide +kernel, rfl, by decide +kernel, by decide +kernel⟩
theorem scOrdBy : FnScope ["_law_cell_here", "_law_n"] ["_law_cell_here", "_law_n"] (defScope sOrdBy) := ⟨rfl, rfl, rfl, by decide +kernel, rfl, by decide +kernel, by decide +kernel⟩
theorem scLine : FnScope ["_law_order", "_law_n"] ["_law_order", "_law_n"] (defScope sLine) := ⟨rfl, rfl, rfl, by decide +kernel, rfl, by decide +kernel, by decide +kernel⟩
theorem scScene : FnScope ["_law_script", "_law_cell_here", "_law_n", "_law_m", "_law_owns_here"] ["_law_script"] (defScope sScene) := ⟨rfl, rfl, rfl, by decide +kernel, rfl, by decide +kernel, by decide +kernel⟩
theorem scMade : FnScope ["_law_wishes_here", "_law_found", "_law_line_here", "_law_things", "_law_served", "_law_hand"] ["_law_wishes_here", "_law_found"] (defScope sMade) := ⟨rfl, rfl, rfl, by decide +kernel, rfl, by decide +kernel, by decide +kernel⟩
theorem scLaw : FnScope ["_law_script", "_law_wishes_here", "_law_owns_here", "_law_order", "_law_n", "_law_found", "_law_hand", "_law_row_here", "_law_first", "_law_best_here"] ["_law_script"] (defScope sLaw) := ⟨rfl, rfl, rfl, by decide +kernel, rfl, by decide +kernel, by decide +kernel⟩
/-! ### values, heaps -/
def vN (k : Nat) : V := .int (k : Int)
def vO : Option Nat → V
  | none => .non
  | some k => vN k
theorem mapN (L : List Nat) : L.map vN = (L.map fun k : Nat => (k : Int)).map V.int := by
  rw [List.map_map]
  rfl
theorem vN_inj {a b : Nat} (h : vN a = vN b) : a = b := Int.ofNat.inj (V.int.inj h)
theorem small (n : Nat) (h : n ≤ 1000) : n < sizeLine := small1000 h
theorem small' (n : Nat) (h : n ≤ 1000) : n ≤ sizeLine := Nat.le_of_lt (small1000 h)
theorem same_upd {H : Hp} {p : Addr} {o : HO} (h : H p = none) : Same H (upd H p o) := fun b x e => by
  rw [upd_ne (ne_of_none e h)]
  exact e
/-- a write at an address that was free ahead -/
theorem same_write {H H1 : Hp} {p : Addr} {o : HO} (h : H p = none) (s : Same H H1) : Same H (upd H1 p o) := fun b x e => by
  rw [upd_ne (ne_of_none e h)]
  exact s _ _ e
/-- a tuple whose object has no dict of its own (its methods are asked for) -/
def FrzT (H : Hp) (a : Addr) (xs : List V) : Prop := ∃ ob : Obj, ob.dict = none ∧ H a = some (.frz ob (.tup xs))
theorem FrzT.sq {K : PySem.W.Frag} {H : Hp} {a : Addr} {xs : List V} (h : FrzT H a xs) : SqT K H a xs := let ⟨ob, _, e⟩ := h; .inl (.inr ⟨ob, e⟩)
theorem FrzT.same {H H' : Hp} {a : Addr} {xs : List V} (s : Same H H') (h : FrzT H a xs) : FrzT H' a xs := let ⟨ob, d, e⟩ := h; ⟨ob, d, s _ _ e⟩
def RowAt (H : Hp) (v : V) (r : List Nat) : Prop := ∃ a, v = .ref a ∧ FrzT H a (r.map vN)
def PairAt (H : Hp) (v : V) (x : Nat × Nat) : Prop := ∃ a, v = .ref a ∧ H a = some (.tup [vN x.1, vN x.2])
def TupAt {α : Type} (P : Hp → V → α → Prop) (H : Hp) (v : V) (xs : List α) : Prop := ∃ a vs, v = .ref a ∧ H a = some (.tup vs) ∧ Paired (P H) vs xs
def LstAt {α : Type} (P : Hp → V → α → Prop) (H : Hp) (v : V) (xs : List α) : Prop := ∃ a vs, v = .ref a ∧ H a = some (.lst vs) ∧ Paired (P H) vs xs
def RingAt : Hp → V → List (Nat × Nat) → Prop := TupAt PairAt
theorem RowAt.same {H H' : Hp} {v : V} {r : List Nat} (s : Same H H') : RowAt H v r → RowAt H' v r
  | ⟨a, e, h⟩ => ⟨a, e, h.same s⟩
theorem RowAt.put {H : Hp} {v : V} {r : List Nat} {p : Addr} {xs : List V} {o : HO} (hp : H p = some (.lst xs)) : RowAt H v r → RowAt (upd H p o) v r
  | ⟨a, e, ob, d, h⟩ => ⟨a, e, ob, d, by rw [upd_ne (ne_of h hp (by intro z; cases z))]; exact h⟩
theorem PairAt.same {H H' : Hp} {v : V} {r : Nat × Nat} (s : Same H H') : PairAt H v r → PairAt H' v r
  | ⟨a, e, h⟩ => ⟨a, e, s _ _ h⟩
/-- the tuples stand -/
def Tups (H H' : Hp) : Prop := ∀ b xs, H b = some (.tup xs) → H' b = some (.tup xs)
theorem sameTups {H H' : Hp} (s : Same H H') : Tups H H' := fun b xs h => s _ _ h
theorem Tups.trans {H H1 H2 : Hp} (a : Tups H H1) (b : Tups H1 H2) : Tups H H2 := fun c xs h => b c xs (a c xs h)
theorem tups_lst {H : Hp} {p : Addr} {xs : List V} {o : HO} (h : H p = some (.lst xs)) : Tups H (upd H p o) := fun b ys e => by
  rw [upd_ne (ne_of e h (by intro z; cases z))]
  exact e
theorem PairAt.tups {H H' : Hp} {v : V} {r : Nat × Nat} (s : Tups H H') : PairAt H v r → PairAt H' v r
  | ⟨a, e, h⟩ => ⟨a, e, s _ _ h⟩
theorem paired_get {α : Type} {R : V → α → Prop} {vs : List V} {xs : List α} (p : Paired R vs xs) : ∀ {i : Nat} {v : V}, vs[i]? = some v → ∃ x, xs[i]? = some x ∧ R v x := by
  induction p with
  | nil => intro i v h; simp at h
  | cons r _ ih =>
    intro i v h
    cases i with
    | zero =>
      rw [List.getElem?_cons_zero] at h
      obtain rfl := Option.some.inj h
      exact ⟨_, rfl, r⟩
    | succ i => exact ih (by simpa using h)
theorem paired_get' {α : Type} {R : V → α → Prop} {vs : List V} {xs : List α} (p : Paired R vs xs) : ∀ {i : Nat} {x : α}, xs[i]? = some x → ∃ v, vs[i]? = some v ∧ R v x := by
  induction p with
  | nil => intro i x h; simp at h
  | cons r _ ih =>
    intro i x h
    cases i with
    | zero =>
      rw [List.getElem?_cons_zero] at h
      obtain rfl := Option.some.inj h
      exact ⟨_, rfl, r⟩
    | succ i => exact ih (by simpa using h)
theorem paired_map {α : Type} {R R' : V → α → Prop} : ∀ {vs : List V} {xs : List α}, Paired R vs xs → (∀ v x, R v x → R' v x) → Paired R' vs xs
  | _, _, .nil, _ => .nil
  | _, _, .cons r t, f => .cons (f _ _ r) (paired_map t f)
theorem paired_snoc {α : Type} {R : V → α → Prop} {v : V} {x : α} (r : R v x) : ∀ {vs : List V} {xs : List α}, Paired R vs xs → Paired R (vs ++ [v]) (xs ++ [x])
  | _, _, .nil => .cons r .nil
  | _, _, .cons q t => .cons q (paired_snoc r t)
theorem paired_length {α : Type} {R : V → α → Prop} {vs : List V} {xs : List α} (p : Paired R vs xs) : vs.length = xs.length := Paired.length p
theorem TupAt.tups {α : Type} {P : Hp → V → α → Prop} {H H' : Hp} {v : V} {xs : List α} (hP : ∀ v x, P H v x → P H' v x) (s : Tups H H') : TupAt P H v xs → TupAt P H' v xs
  | ⟨a, vs, e, h, p⟩ => ⟨a, vs, e, s _ _ h, paired_map p hP⟩
theorem RingAt.tups {H H' : Hp} {v : V} {r : List (Nat × Nat)} (s : Tups H H') : RingAt H v r → RingAt H' v r := TupAt.tups (fun _ _ => PairAt.tups s) s
theorem map_at {L : List Nat} {i k : Nat} (h : L[i]? = some k) : (L.map vN)[i]? = some (vN k) := by
  rw [List.getElem?_map, h]
  rfl
theorem at_map {L : List Nat} {i : Nat} {v : V} (h : (L.map vN)[i]? = some v) : ∃ k, L[i]? = some k ∧ v = vN k := by
  rw [List.getElem?_map] at h
  cases e : L[i]? with
  | none => rw [e] at h; cases h
  | some k => rw [e] at h; exact ⟨k, rfl, (Option.some.inj h).symm⟩
theorem flatN (L : List Nat) : (L.map vN).all flatV = true := by
  rw [List.all_map]
  exact List.all_eq_true.mpr fun _ _ => rfl
theorem inV_N {k : Nat} {L : List Nat} : inV (vN k) (L.map vN) = decide (k ∈ L) := by
  unfold inV
  induction L with
  | nil => rfl
  | cons a L ih =>
    rw [List.map_cons, List.any_cons, ih]
    have : eqV (vN a) (vN k) = decide (a = k) := by
      show ((a : Int) == (k : Int)) = decide (a = k)
      rw [Bool.beq_eq_decide_eq]
      exact decide_eq_decide.mpr Int.ofNat_inj
    rw [this]
    by_cases e : a = k
    · simp [e]
    · have : ¬ k = a := fun z => e z.symm
      simp [e, this]
theorem same_tup {K : PySem.W.Frag} {H H' : Hp} {a : Addr} {xs : List V} (e : Same H H') (h : SqT K H a xs) : SqT K H' a xs :=
  h.elim (fun r => .inl (r.elim (fun z => .inl (e _ _ z)) fun ⟨o, z⟩ => .inr ⟨o, e _ _ z⟩)) .inr
end RT
namespace RT
open PySem PySem.Spec PyProof.Rows L2
/-! ### min of a tuple of pairs -/
def pd (x : Nat × Nat) : PyData := .tuple [.int x.1, .int x.2]
theorem alike_pd (x y : Nat × Nat) : PySem.W.alike (pd x) (pd y) = true := by
  unfold pd
  simp [PySem.W.alike, PySem.W.alikeAll]
theorem lt_pd (x y : Nat × Nat) : PySem.W.dataLt (pd x) (pd y) = decide (x.1 < y.1 ∨ (x.1 = y.1 ∧ x.2 < y.2)) := by
  unfold pd
  rw [PySem.W.dataLt_ii]
  exact decide_eq_decide.mpr (by omega)
theorem minD_pd : ∀ (r : List (Nat × Nat)) (x : Nat × Nat), ∃ y, PySem.W.minD (pd x) (r.map pd) = pd y ∧ ∀ z ∈ x :: r, y.1 ≤ z.1
  | [], x => ⟨x, rfl, fun z hz => by rw [List.mem_singleton.mp hz]; exact Nat.le_refl _⟩
  | a :: r, x => by
    have st : PySem.W.minD (pd x) ((a :: r).map pd) = PySem.W.minD (if PySem.W.dataLt (pd a) (pd x) then pd a else pd x) (r.map pd) := rfl
    rw [st, lt_pd]
    by_cases h : a.1 < x.1 ∨ (a.1 = x.1 ∧ a.2 < x.2)
    · rw [decide_eq_true h, if_pos rfl]
      obtain ⟨y, e, l⟩ := minD_pd r a
      refine ⟨y, e, fun z hz => ?_⟩
      have ha := l a List.mem_cons_self
      rcases List.mem_cons.mp hz with rfl | hz
      · omega
      · rcases List.mem_cons.mp hz with rfl | hz
        · exact ha
        · exact l z (List.mem_cons_of_mem _ hz)
    · rw [decide_eq_false h, if_neg (by simp)]
      obtain ⟨y, e, l⟩ := minD_pd r x
      refine ⟨y, e, fun z hz => ?_⟩
      have hx := l x List.mem_cons_self
      rcases List.mem_cons.mp hz with rfl | hz
      · exact hx
      · rcases List.mem_cons.mp hz with rfl | hz
        · omega
        · exact l z (List.mem_cons_of_mem _ hz)
theorem pd_inj {x y : Nat × Nat} (h : pd x = pd y) : x = y := by
  unfold pd at h
  injection h with h
  injection h with h1 h2
  injection h2 with h2 _
  injection h1 with h1
  injection h2 with h2
  exact Prod.ext (Int.ofNat.inj h1) (Int.ofNat.inj h2)
theorem dp_pair {K : PySem.W.Frag} {H : Hp} {v : V} {x : Nat × Nat} (h : PairAt H v x) : Dp K H v (pd x) := by
  obtain ⟨a, rfl, h⟩ := h
  exact .tup (.of h) (.cons (.int _) (.cons (.int _) .nil))
theorem dp_pairs {K : PySem.W.Frag} {H : Hp} : ∀ {vs : List V} {xs : List (Nat × Nat)}, Paired (PairAt H) vs xs → DpAll K H vs (xs.map pd)
  | _, _, .nil => .nil
  | _, _, .cons r t => .cons (dp_pair r) (dp_pairs t)
theorem depth_pd (xs : List (Nat × Nat)) : PyData.depthAll (xs.map pd) ≤ 3 := by
  induction xs with
  | nil => simp [PyData.depthAll]
  | cons x r ih =>
    rw [List.map_cons]
    simp only [PyData.depthAll]
    have : (pd x).depth ≤ 3 := by
      unfold pd
      simp [PyData.depth, PyData.depthAll]
    omega
def rMinP (K : PySem.W.Frag) : List V → Hp → VK → Prop := fun vs H Q => ∃ (a : Addr) (xs : List V) (x : Nat × Nat) (r : List (Nat × Nat)), vs = [.ref a] ∧ SqT K H a xs ∧ Paired (PairAt H) xs (x :: r) ∧
  ∀ v y, PairAt H v y → y ∈ x :: r → (∀ z ∈ x :: r, y.1 ≤ z.1) → Q v H
theorem cr_minP {X : Cx} (hc : X.calm = true) (hu : X.A.units + 64 < cLine) : CallR X (.builtin "min") (rMinP X.K) := by
  intro pins s σ H vs us Q I r h
  obtain ⟨a, xs, x, rr, rfl, hs, pr, q⟩ := h
  obtain ⟨its, rv, hl, _⟩ := I.tuple hs
  rw [Vals.ref1 r]
  obtain ⟨as, hr⟩ := Dp.readsAll I _ _ _ (dp_pairs pr) rv
  have al : PySem.W.AlikeAll ((x :: rr).map pd) := by
    refine ⟨fun d hd e he => ?_, fun d hd => ?_⟩
    · obtain ⟨y, _, rfl⟩ := List.mem_map.mp hd
      obtain ⟨z, _, rfl⟩ := List.mem_map.mp he
      exact alike_pd y z
    · obtain ⟨y, _, rfl⟩ := List.mem_map.mp hd
      intro z
      cases z
  have hd := depth_pd (x :: rr)
  refine PySem.W.min_tuple_data (x := pd x) (xs := rr.map pd) (I.ok.hd hc) (show s.heap.IsTuple a its.toArray from hl) (as := as) (by simpa using hr) al ?_ fun i v h' tk bs hv hrd hk => ?_
  · have e : PyData.depthAll (pd x :: rr.map pd) = PyData.depthAll ((x :: rr).map pd) := rfl
    rw [e]
    omega
  · have I2 : L2.Inv X pins σ H { s with heap := h', toks := tk } := I.kept hk
    have hv' : its[i]? = some v := by simpa using hv
    obtain ⟨vx, e1, r1⟩ : ∃ vx, xs[i]? = some vx ∧ RelV vx v := by
      cases e : xs[i]? with
      | none => rw [rv.none_of e] at hv'; cases hv'
      | some vx =>
        obtain ⟨u, hu, ru⟩ := rv.get e
        rw [hv'] at hu
        cases hu
        exact ⟨vx, rfl, ru⟩
    obtain ⟨y, ey, py⟩ := paired_get pr e1
    obtain ⟨cs, rd⟩ := Dp.reads I2 _ _ _ (dp_pair py) r1
    obtain ⟨y', em, le⟩ := minD_pd rr x
    rw [em] at hrd
    have ed := (reads_det (fun b o e _ => e) rd hrd).1
    have e2 := pd_inj ed
    subst e2
    exact ⟨vx, H, I2, r1, q vx y' py (List.mem_of_getElem? ey) le⟩
/-! ### t.index(k) of a tuple of ints -/
theorem idxOf_cast (L : List Nat) (k : Nat) : (L.map fun j : Nat => (j : Int)).idxOf (k : Int) = L.idxOf k := by
  induction L with
  | nil => rfl
  | cons a L ih =>
    rw [List.map_cons, List.idxOf_cons, List.idxOf_cons, ih]
    by_cases e : a = k
    · simp [e]
    · have : ¬ (a : Int) = (k : Int) := fun z => e (Int.ofNat.inj z)
      simp [e, this, beq_eq_false_iff_ne.mpr this, beq_eq_false_iff_ne.mpr e]
theorem mt_tup_indexN {X : Cx} : MtR X "tuple.index" (fun x xs H Q => ∃ (p : Addr) (L : List Nat) (k : Nat), x = .ref p ∧ xs = [vN k] ∧ SqT X.K H p (L.map vN) ∧ k ∈ L ∧ Q (vN (L.idxOf k)) H) := by
  rintro pins s σ H x xs v us Q I rx rs ⟨p, L, k, rfl, rfl, hq, hk, q⟩
  obtain rfl : v = .ref p := rx
  obtain ⟨u, rfl, ⟨t, rfl⟩⟩ := vals1 rs
  obtain ⟨its, iv, it, _⟩ := I.tuple hq
  have is := ints_of_vals (mapN L ▸ iv)
  refine PySem.SeqAt.tuple_index_ints (vs := its) (show s.heap.IsTuple p its.toArray from it) is (List.mem_map.mpr ⟨k, hk, rfl⟩) ?_
  rw [idxOf_cast]
  exact ⟨vN (L.idxOf k), H, I.tok _, ⟨_, rfl⟩, q⟩
/-! ### a tuple made of a list, its object known; a method of such a tuple -/
def tTupF (K : PySem.W.Frag) (ta : TE) : TE := fun σ H Q => ta σ H fun x H1 => ∃ p xs, x = .ref p ∧ SqL K H1 p xs ∧ ∀ q H2, H1 q = none → Same H1 H2 → FrzT H2 q xs → Q (.ref q) H2
theorem pe_tupleF {X : Cx} {a : Expr} {ta : TE} {p pos : Pos} (gt : Gl X "tuple") (mt : X.mg "tuple" = none) (ha : PE X a ta) (na : starEach [a] X.env = (false, eval a X.env) :: starEach [] X.env := by rfl) :
    PE X (.Call (.Name "tuple" p) [a] [] pos) (tTupF X.K ta) := by
  constructor
  intro pins s σ H Q I hh
  refine Call_ (ld_blt I gt mt PyProof.Rows.boot_tuple (PyProof.Rows.callWith_type1 (one_arg ha I hh (fun u s2 x H2 I2 rx q => ?_) na) na))
  obtain ⟨l, ys, rfl, hl, q⟩ := q
  obtain rfl : u = .ref l := rx
  obtain ⟨its, iv, pl, few⟩ := I2.list hl
  refine call_tuple_list pl.isList (fun g keep => ?_) (by rw [List.size_toArray, ← iv.length]; exact few)
  have I3 : L2.Inv X pins σ H2 { s2 with heap := g } := I2.kept (t' := s2.toks) keep
  have fr := I3.hok.fresh (Nat.le_refl g.objs.size)
  have I4 := I3.laid (h' := g.push { cls := .type "tuple", data := .seq its.toArray }) (o := .frz { cls := .type "tuple", data := .seq its.toArray } (.tup ys)) (t' := s2.toks) (fun b o e => Heap.get?_push_of_some _ e) (Nat.le_refl _)
    ⟨Heap.get?_push_size _ rfl, (show ObjOk X.prog X.w _ _ _ (.tup ys) from ⟨few, its, iv, IsTup.new _ _⟩)⟩
  exact ⟨.ref g.objs.size, _, I4, rfl, q _ _ fr (same_upd fr) ⟨_, rfl, upd_same⟩⟩
def tTIx (K : PySem.W.Frag) (to te : TE) : TE := fun σ H Q => to σ H fun x H1 => (∃ p ys, x = .ref p ∧ FrzT H1 p ys) ∧ te σ H1 fun y H2 => ∃ (p : Addr) (L : List Nat) (k : Nat), x = .ref p ∧ y = vN k ∧ SqT K H2 p (L.map vN) ∧ k ∈ L ∧ Q (vN (L.idxOf k)) H2
theorem pe_tix {X : Cx} {o e : Expr} {to te : TE} {apos cpos : Pos} (m : M1 X o "index" apos e cpos) (ho : PE X o to) (he : PE X e te) : PE X (.Call (.Attribute o "index" apos) [e] [] cpos) (tTIx X.K to te) := by
  constructor
  intro pins s σ H Q I hh
  refine wpAny_Call_method m.base m.few m.line PySem.F.plainAttrs_tuple PySem.F.slot_tuple_index PySem.F.type_tuple_index (thn (ho.run pins s σ H _ I hh) ?_)
  rintro u s1 ⟨x, H1, I1, rx, ⟨p, ys, rfl, ob, od, hp⟩, q1⟩
  obtain rfl : u = .ref p := rx
  have ok := I1.hok p _ hp
  obtain ⟨_, _, _, o2, h2, c2, _⟩ := ok.2
  refine ⟨⟨o2, h2, c2⟩, fun b eb => ⟨ob, by cases eb; exact ok.1, od⟩, ?_⟩
  rw [m.trees]
  refine Calls.callWith_builtin rfl (Calls.evalArgs_plain (Calls.spliced_cons (thn (he.run pins s1 σ H1 _ I1 q1) ?_)))
  rintro u2 s2 ⟨y, H2, I2, ry, q2⟩
  refine Calls.spliced_nil (mt_tup_indexN pins s2 σ H2 (.ref p) [y] (.ref p) [u2] Q I2 rfl (.cons ry .nil) ?_)
  obtain ⟨p', L, k, e1, e2, r⟩ := q2
  exact ⟨p', L, k, e1, by rw [e2], r⟩
/-! ### len(set(t)) of a tuple of unlike ints -/
def tLenSetT (K : PySem.W.Frag) (ta : TE) : TE := fun σ H Q => ta σ H fun x H1 => ∃ (l : Addr) (ns : List Int), x = .ref l ∧ SqT K H1 l (ns.map V.int) ∧ ns.Nodup ∧ ns.length ≤ 1000 ∧ Q (.int (ns.length : Nat)) H1
theorem pe_lenSetT {X : Cx} {a : Expr} {ta : TE} {p p2 qos pos : Pos} (gl : Gl X "len") (ml : X.mg "len" = none) (gs : Gl X "set") (ms : X.mg "set" = none) (ha : PE X a ta) (hc : X.calm = true := by rfl)
    (na : starEach [a] X.env = (false, eval a X.env) :: starEach [] X.env := by rfl) : PE X (.Call (.Name "len" p) [.Call (.Name "set" p2) [a] [] qos] [] pos) (tLenSetT X.K ta) := by
  constructor
  intro pins s σ H Q I hh
  refine Call_ (ld_blt I gl ml PySem.boot_len (PyProof.Rows.callWith_builtin1 (PyProof.Rows.args_cons (Call_ (ld_blt I gs ms PyProof.Rows.boot_set ?_)) rfl) rfl rfl))
  refine PyProof.Rows.callWith_type1 (PyProof.Rows.args_cons (thn (ha.run pins s σ H _ I hh) ?_) na) na rfl
  rintro u s1 ⟨x, H1, I1, rx, l, ns, rfl, hq, nd, few, q⟩
  obtain rfl : u = .ref l := rx
  obtain ⟨its, iv, it, _⟩ := I1.tuple hq
  have is := ints_of_vals iv
  refine PyProof.Rows.args_nil (call_set_tupI ns (I1.ok.hd hc) (show s1.heap.IsTuple l its.toArray from it) is (by unfold scanBound; omega) fun h' tk c made _ keep => PyProof.Rows.args_nil ?_)
  obtain ⟨ob, es, ep, tb, ho, exact_, hd, _, knd, kin, _, fits, _, _⟩ := made
  have size : es.size = ns.length := by
    have l1 : (es.toList.map keyOf).length = es.size := by simp
    have a1 := len_le knd (l2 := ns) fun y hy => of_decide_eq_true ((kin y).mpr hy)
    have a2 := len_le nd (l2 := es.toList.map keyOf) fun y hy => (kin y).mp (decide_eq_true hy)
    omega
  refine call_len_set ho exact_ hd fits (by rw [size] <;> omega) ?_
  rw [size]
  exact ⟨.int ns.length, H1, (I1.kept keep).tok _, ⟨_, rfl⟩, q⟩
end RT
namespace RT
open PySem PySem.Spec PyProof.Rows L2
/-- the built-in names that are used -/
structure Bt (mg : Str → Option Value) : Prop where
  isi : mg "isinstance" = none
  int : mg "int" = none
  bool : mg "bool" = none
  list : mg "list" = none
  range : mg "range" = none
  len : mg "len" = none
  enumerate : mg "enumerate" = none
  tuple : mg "tuple" = none
  sorted : mg "sorted" = none
  min : mg "min" = none
  set : mg "set" = none
section
variable {P : Program} {w : World} {K : PySem.W.Frag} {mg : Str → Option Value} {base : Heap}
/-! ### is_below, things_in -/
def spBelow : Sp := fun vs H Q _ => ∃ i j : Int, vs = [.int i, .int j] ∧ 0 ≤ i ∧ i < j ∧ Q (.bl true) H
theorem ok_below {f : Addr} {fd : FuncData} (F : Fun K "is_below" "is_below" sBelow f fd) (T : Bt mg) : FnOk P w K mg base CX0 1 f fd ["thing", "many"] spBelow := by
  refine F.ok scBelow (fun vs H Q E h => ?_) (fun cdv A outer s H vs Q E hr h => ?_)
  · obtain ⟨i, j, rfl, _⟩ := h
    rfl
  · obtain ⟨i, j, rfl, h0, h1, q⟩ := h
    refine ⟨_, pss_one (ps_ret (pe_and (pe_callB call_isi (by rfl) T.isi (by decide +kernel) (pa_cons (pv 0) (pa_cons (pe_bltn (v := .ty "int") (by rfl) T.int (by decide +kernel) rfl) pa_nil)))
      (pe_and (pe_not (pe_callB call_isi (by rfl) T.isi (by decide +kernel) (pa_cons (pv 0) (pa_cons (pe_bltn (v := .ty "bool") (by rfl) T.bool (by decide +kernel) rfl) pa_nil))))
        (pe_one (pe_chain op_le op_lt pe_int (pv 0) (pv 1)))))), ?_⟩
    refine ⟨_, rfl, _, _, _, _, true, rfl, .ty "int", .base (.int i), kit_ty (by decide +kernel), true, rfl, iteT ?_⟩
    refine ⟨_, rfl, _, _, _, _, false, rfl, .ty "bool", .base (.int i), kit_ty (by decide +kernel), false, rfl, true, rfl, iteT ?_⟩
    refine ⟨_, rfl, 0, i, rfl, rfl, true, ?_, iteT ⟨_, rfl, i, j, rfl, rfl, ?_⟩⟩
    · show V.bl (decide (0 ≤ i)) = V.bl true
      rw [decide_eq_true h0]
    · show Q (V.bl (decide (i < j))) H
      rw [decide_eq_true h1]
      exact q
def spIn (K : PySem.W.Frag) : Sp := fun vs H Q _ => ∃ (a b : Addr) (xs ys : List V), vs = [.ref a] ∧ SqT K H a (.ref b :: xs) ∧ SqT K H b ys ∧ Q (.int ys.length) H
theorem ok_in {f : Addr} {fd : FuncData} (F : Fun K "things_in" "things_in" sIn f fd) (T : Bt mg) : FnOk P w K mg base CX0 1 f fd ["wishes"] (spIn K) := by
  refine F.ok scIn (fun vs H Q E h => ?_) (fun cdv A outer s H vs Q E hr h => ?_)
  · obtain ⟨a, b, xs, ys, rfl, _⟩ := h
    rfl
  · obtain ⟨a, b, xs, ys, rfl, ha, hb, q⟩ := h
    refine ⟨_, pss_one (ps_ret (pe_callB call_len_seq (by rfl) T.len PySem.boot_len (pa_cons (pe_ix ix_tup (pv 0) pe_int (fun _ _ => rfl)) pa_nil))), ?_⟩
    exact ⟨_, rfl, a, _, 0, .ref b, rfl, rfl, ha, atI_nat (j := 0) rfl, b, ys, rfl, .inr hb, q⟩
/-! ### order_of -/
def OrdV (H : Hp) (v : V) (n : Nat) (ord : List Nat) : Prop := (v = .non ∧ ord = List.range n) ∨ ∃ a, v = .ref a ∧ H a = some (.lst (ord.map vN))
theorem rgV_nat (n : Nat) : rgV 0 (n : Int) = (List.range n).map vN := by
  unfold rgV
  rw [show ((n : Int) - 0).toNat = n by omega]
  refine List.map_congr_left fun i _ => ?_
  show V.int (0 + (i : Int)) = V.int (i : Int)
  rw [Int.zero_add]
theorem rgOk_nat {n : Nat} (h : n ≤ 1000) : RgOk 0 (n : Int) := .of_le (by omega) (by omega) (by omega) (by omega)
def spOrder (K : PySem.W.Frag) : Sp := fun vs H Q _ => ∃ (a : Addr) (o : V) (xs : List V) (n : Nat) (ord : List Nat), vs = [.ref a, o] ∧ SqT K H a xs ∧ xs.length = n ∧ n ≤ 7 ∧ OrdV H o n ord ∧ ord.Perm (List.range n) ∧
  ∀ H' p, Same H H' → H p = none → H' p = some (.lst (ord.map vN)) → Q (.ref p) H'
theorem ok_order {f g : Addr} {fd gd : FuncData} {dvs : List V} (F : FunD K "order_of" "order_of" (defArgs sOrder) (defBody sOrder) (defScope sOrder) dvs [] f fd) (T : Bt mg)
    (G : FnOk P w K mg base CX0 1 g gd ["thing", "many"] spBelow) (mG : mg "is_below" = some (.ref g)) (kG : PySem.W.keepIn K (.ref g) = true) (bG : Binds K gd ["thing", "many"] []) :
    FnOk P w K mg base CX0 2 f fd ["wishes", "order"] (spOrder K) := by
  refine F.ok scOrder (fun vs H Q E h => ?_) (fun cdv A outer s H vs Q E hr h => ?_)
  · obtain ⟨a, o, xs, n, ord, rfl, _⟩ := h
    rfl
  · obtain ⟨a, o, xs, n, ord, rfl, hX, hn, n7, hO, pm, q⟩ := h
    refine ⟨_, (pss_cons (ps_if (pt_cmp (pc_isN (pv 1))) (pss_one (ps_ret (pe_listRg rfl (by rfl) T.list (prg_1 (by rfl) T.range (pe_callB call_len_seq (by rfl) T.len PySem.boot_len (pa_cons (pv 0) pa_nil)))))) pss_nil)
      (pss_cons (ps_set (i := 2) scOrder.nd rfl (.inl rfl) (pe_lst pa_nil))
      (pss_cons (ps_for PassesOwn.never rfl (pi_enum (by rfl) T.enumerate (pa_cons (pv 1) pa_nil)) (pg_tup rfl (pgs_cons (pg_name (i := 3) scOrder.nd rfl (.inl rfl)) (pgs_cons (pg_name (i := 4) scOrder.nd rfl (.inl rfl)) pgs_nil)))
        (pss_cons (ps_if (PW.pt (pw_or (pt_not (pt_val (pe_call G hr (by rfl) mG kG bG .nil pass0 (pa_cons (pv 4) (pa_cons (pe_callB call_len_seq (by rfl) T.len PySem.boot_len (pa_cons (pv 0) pa_nil)) pa_nil)))))
            (pw_or1 (pt_cmpR op_in_seq (pv 4) (pv 2) (by rfl))))) (pss_one ps_never) pss_nil)
          (pss_one (ps_expr (pe_bm PySem.F.plainAttrs_list PySem.F.slot_list_append PySem.F.type_list_append mt_append (pv 2) (pa_cons (pv 4) pa_nil))))))
      (pss_cons (ps_if (pt_cmpR op_lt (pe_callB call_len_seq (by rfl) T.len PySem.boot_len (pa_cons (pv 2) pa_nil)) (pe_callB call_len_seq (by rfl) T.len PySem.boot_len (pa_cons (pv 0) pa_nil)) (nomark _)) (pss_one ps_never) pss_nil)
      (pss_one (ps_ret (pv 2))))))).nox, ?_⟩
    have hlen : ord.length = n := by rw [pm.length_eq, List.length_range]
    rcases hO with ⟨rfl, rfl⟩ | ⟨b, rfl, hb⟩
    · -- order is None
      refine ⟨_, rfl, true, rfl, iteT ⟨_, rfl, a, xs, rfl, .inr hX, _, rfl, ?_⟩⟩
      rw [hn]
      refine ⟨rgOk_nat (by omega), fun p hp => ?_⟩
      rw [rgV_nat]
      exact q _ p (same_upd hp) hp upd_same
    · refine ⟨_, rfl, false, rfl, iteF ?_⟩
      -- met = []
      refine ⟨Nat.zero_le _, fun p hp => ?_⟩
      have npb : b ≠ p := ne_of_none hb hp
      refine ⟨_, rfl, b, ord.map vN, rfl, .of (by rw [upd_ne npb]; exact hb), ?_⟩
      refine for_it walk_enum (fun i σ H' => ∃ y3 y4, σ = [some (.ref a), some (.ref b), some (.ref p), y3, y4] ∧ Same H H' ∧ H' p = some (.lst ((ord.take i).map vN)))
        ⟨none, none, rfl, same_upd hp, upd_same⟩ (fun i σ H' _ ⟨_, _, _, s', _⟩ => .of (s' _ _ hb)) ?_ ?_
      · rintro i x σ H1 H2 hi ⟨y3, y4, rfl, s1, hp1⟩ ⟨t, x1, x2, rfl, ht, rfl, e1, e2⟩
        obtain ⟨k, ek, rfl⟩ := at_map e2
        have hk : k < n := by
          have : k ∈ List.range n := pm.mem_iff.mp (List.mem_of_getElem? ek)
          exact List.mem_range.mp this
        have npt : p ≠ t := ne_of_none hp1 ht
        have s2 : Same H1 (upd H1 t (.tup [x1, vN k])) := same_upd ht
        have hX2 : SqT K (upd H1 t (.tup [x1, vN k])) a xs := by
          exact same_tup s2 (same_tup s1 hX)
        have hp2 : (upd H1 t (.tup [x1, vN k])) p = some (.lst ((ord.take i).map vN)) := s2 _ _ hp1
        refine ⟨t, [x1, vN k], rfl, .of upd_same, rfl, x1, [vN k], rfl, vN k, [], rfl, rfl, ?_⟩
        -- is_below(hand, len(wishes))
        refine ⟨_, rfl, _, rfl, a, xs, rfl, .inr hX2, k, (xs.length : Nat), rfl, by omega, by rw [hn]; omega, true, rfl, iteF ?_⟩
        refine ⟨_, rfl, _, rfl, p, _, rfl, .inl (.of hp2), rfl, flatN _, _, rfl, ?_⟩
        have no : inV (vN k) ((ord.take i).map vN) = false := by
          rw [inV_N]
          refine decide_eq_false fun hm => ?_
          obtain ⟨j, hj⟩ := List.mem_iff_getElem?.mp hm
          rw [List.getElem?_take] at hj
          by_cases hji : j < i
          · rw [if_pos hji] at hj
            have nd : ord.Nodup := pm.nodup_iff.mpr List.nodup_range
            have := nd_ix nd hj ek
            omega
          · rw [if_neg hji] at hj
            cases hj
        show if (if false = true then _ else inV (vN k) ((ord.take i).map vN)) = true then _ else _
        rw [if_neg Bool.false_ne_true, no]
        refine iteF ?_
        refine ⟨_, rfl, .inl ⟨rfl, _, .of hp2⟩, _, rfl, p, _, _, rfl, rfl, hp2, ?_, ?_⟩
        · rw [List.length_map, List.length_take]
          exact small _ (by omega)
        · refine ⟨_, _, rfl, same_write hp (s1.trans s2), ?_⟩
          rw [upd_same, List.take_add_one, ek, List.map_append]
          rfl
      · rintro σ H1 ⟨y3, y4, rfl, s1, hp1⟩
        rw [List.length_map, List.take_length] at hp1
        have hX1 : SqT K H1 a xs := by
          exact same_tup s1 hX
        refine ⟨_, rfl, p, _, rfl, .inl (.of hp1), _, rfl, a, xs, rfl, .inr hX1, _, _, rfl, rfl, _, rfl, ?_⟩
        rw [List.length_map, hlen, hn, decide_eq_false (by omega)]
        refine iteF ⟨_, rfl, q H1 p s1 hp hp1⟩
end
end RT
namespace RT
open PySem PySem.Spec PyProof.Rows L2
/-! ### the dicts -/
def dN (L : List Nat) (f : Nat → Nat) : List (Key × V) := L.map fun h : Nat => ((Sum.inl (h : Int), vN (f h)) : Key × V)
def kvO (ow : List (Option Nat)) (L : List Nat) : List (Key × V) := L.filterMap fun h => (own ow h).map fun t => (Sum.inl (t : Int), vN h)
theorem key_N {a b : Nat} : ((Sum.inl (a : Int) : Key) = Sum.inl (b : Int)) ↔ a = b :=
  ⟨fun h => Int.ofNat.inj (Sum.inl.inj h), fun h => by rw [h]⟩
theorem valV_dN (f : Nat → Nat) (k : Nat) : ∀ L : List Nat, valV (dN L f) (Sum.inl (k : Int)) = if k ∈ L then some (vN (f k)) else none
  | [] => rfl
  | a :: L => by
    show valV ((Sum.inl (a : Int), vN (f a)) :: dN L f) (Sum.inl (k : Int)) = _
    by_cases e : a = k
    · subst e
      rw [valV_pos rfl]
      simp
    · rw [valV_neg (fun z => e (key_N.mp z)), valV_dN f k L]
      have : ¬ k = a := fun z => e z.symm
      simp [this]
theorem valV_kvO (ow : List (Option Nat)) (t : Nat) : ∀ L : List Nat, valV (kvO ow L) (Sum.inl (t : Int)) = (L.find? fun g => decide (own ow g = some t)).map vN
  | [] => rfl
  | a :: L => by
    unfold kvO
    rw [List.filterMap_cons, List.find?_cons]
    cases e : own ow a with
    | none =>
      exact valV_kvO ow t L
    | some u =>
      show valV ((Sum.inl (u : Int), vN a) :: kvO ow L) (Sum.inl (t : Int)) = _
      by_cases q : u = t
      · subst q
        rw [valV_pos rfl, decide_eq_true rfl]
        rfl
      · rw [valV_neg (fun z => q (key_N.mp z)), decide_eq_false (fun z => q (Option.some.inj z))]
        exact valV_kvO ow t L
theorem dN_len (L : List Nat) (f : Nat → Nat) : (dN L f).length = L.length := List.length_map _
theorem kvO_len (ow : List (Option Nat)) (L : List Nat) : (kvO ow L).length ≤ L.length := List.length_filterMap_le _ _
theorem take_succ {L : List Nat} {i k : Nat} (h : L[i]? = some k) : L.take (i + 1) = L.take i ++ [k] := by
  rw [List.take_add_one, h]
  rfl
theorem not_in_take {L : List Nat} {i k : Nat} (nd : L.Nodup) (h : L[i]? = some k) : k ∉ L.take i := fun hm => by
  obtain ⟨j, hj⟩ := List.mem_iff_getElem?.mp hm
  rw [List.getElem?_take] at hj
  by_cases hji : j < i
  · rw [if_pos hji] at hj
    have := nd_ix nd hj h
    omega
  · rw [if_neg hji] at hj
    cases hj
theorem own_at {ow : List (Option Nat)} {h : Nat} (hh : h < ow.length) : (ow.map vO)[h]? = some (vO (own ow h)) := by
  rw [List.getElem?_map, List.getElem?_eq_getElem hh]
  unfold own
  rw [List.getD_eq_getElem?_getD, List.getElem?_eq_getElem hh]
  rfl
section
variable {P : Program} {w : World} {K : PySem.W.Frag} {mg : Str → Option Value} {base : Heap}
/-! ### best_left -/
theorem best_yes {row T : List Nat} {i k : Nat} (h : row[i]? = some k) (hk : k ∈ T) (no : ∀ t ∈ row.take i, t ∉ T) : bestLeft row T = some k := by
  obtain ⟨hi, e⟩ := List.getElem?_eq_some_iff.mp h
  unfold bestLeft
  rw [← List.take_append_drop i row, List.find?_append, List.find?_eq_none.mpr fun t ht => by simp [no t ht], List.drop_eq_getElem_cons hi, List.find?_cons, e, decide_eq_true hk]
  rfl
theorem best_no {row T : List Nat} (no : ∀ t ∈ row, t ∉ T) : bestLeft row T = none := List.find?_eq_none.mpr fun t ht => by simp [no t ht]
def spBest (K : PySem.W.Frag) : Sp := fun vs H Q _ => ∃ (a b : Addr) (row T : List Nat), vs = [.ref a, .ref b] ∧ SqT K H a (row.map vN) ∧ SqL K H b (T.map vN) ∧ Q (vO (bestLeft row T)) H
theorem ok_best {f : Addr} {fd : FuncData} (F : Fun K "best_left" "best_left" sBest f fd) : FnOk P w K mg base CX0 1 f fd ["row", "things"] (spBest K) := by
  refine F.ok scBest (fun vs H Q E h => ?_) (fun cdv A outer s H vs Q E hr h => ?_)
  · obtain ⟨a, b, row, T, rfl, _⟩ := h
    rfl
  · obtain ⟨a, b, row, T, rfl, ha, hb, q⟩ := h
    refine ⟨_, pss_cons (ps_for PassesOwn.never rfl (pi_tup (pv 0)) (pg_name (i := 2) scBest.nd rfl (.inl rfl)) (pss_one (ps_if (pt_cmpR op_in_seq (pv 2) (pv 1) (by rfl)) (pss_one (ps_ret (pv 2))) pss_nil))) (pss_one (ps_ret pe_non)), ?_⟩
    refine ⟨_, rfl, a, rfl, ⟨_, ha⟩, for_tup (xs := row.map vN) (fun i σ H' => ∃ y, σ = [some (.ref a), some (.ref b), y] ∧ H' = H ∧ ∀ t ∈ row.take i, t ∉ T) ⟨none, rfl, rfl, fun t ht => by simp at ht⟩
      (fun i σ H' _ ⟨_, _, e, _⟩ => by rw [e]; exact ha) ?_ ?_⟩
    · rintro i x σ H1 hi ⟨y, rfl, rfl, no⟩
      obtain ⟨k, ek, rfl⟩ := at_map hi
      refine ⟨_, rfl, _, rfl, b, _, rfl, .inl hb, rfl, flatN _, _, rfl, ?_⟩
      show if inV (vN k) (T.map vN) = true then _ else _
      rw [inV_N]
      refine ite2 (fun c => ?_) (fun c => ?_)
      · have := best_yes ek (of_decide_eq_true c) no
        rw [this] at q
        exact ⟨_, rfl, q⟩
      · refine ⟨_, rfl, rfl, fun t ht => ?_⟩
        rw [take_succ ek] at ht
        rcases List.mem_append.mp ht with z | z
        · exact no t z
        · rw [List.mem_singleton.mp z]
          exact fun m => c (decide_eq_true m)
    · rintro σ H1 ⟨y, rfl, rfl, no⟩
      rw [List.length_map, List.take_length] at no
      rw [best_no no] at q
      exact q
theorem ok_lbest {f : Addr} {fd : FuncData} (F : Fun K "_law_best" "_law_best" sLBest f fd) : FnOk P w K mg base CX0 1 f fd ["_law_row_here", "_law_left"] (spBest K) := by
  refine F.ok scLBest (fun vs H Q E h => ?_) (fun cdv A outer s H vs Q E hr h => ?_)
  · obtain ⟨a, b, row, T, rfl, _⟩ := h
    rfl
  · obtain ⟨a, b, row, T, rfl, ha, hb, q⟩ := h
    refine ⟨_, pss_cons (ps_for PassesOwn.never rfl (pi_tup (pv 0)) (pg_name (i := 2) scLBest.nd rfl (.inl rfl)) (pss_one (ps_if (pt_cmpR op_in_seq (pv 2) (pv 1) (by rfl)) (pss_one (ps_ret (pv 2))) pss_nil))) (pss_one (ps_ret pe_non)), ?_⟩
    refine ⟨_, rfl, a, rfl, ⟨_, ha⟩, for_tup (xs := row.map vN) (fun i σ H' => ∃ y, σ = [some (.ref a), some (.ref b), y] ∧ H' = H ∧ ∀ t ∈ row.take i, t ∉ T) ⟨none, rfl, rfl, fun t ht => by simp at ht⟩
      (fun i σ H' _ ⟨_, _, e, _⟩ => by rw [e]; exact ha) ?_ ?_⟩
    · rintro i x σ H1 hi ⟨y, rfl, rfl, no⟩
      obtain ⟨k, ek, rfl⟩ := at_map hi
      refine ⟨_, rfl, _, rfl, b, _, rfl, .inl hb, rfl, flatN _, _, rfl, ?_⟩
      show if inV (vN k) (T.map vN) = true then _ else _
      rw [inV_N]
      refine ite2 (fun c => ?_) (fun c => ?_)
      · have := best_yes ek (of_decide_eq_true c) no
        rw [this] at q
        exact ⟨_, rfl, q⟩
      · refine ⟨_, rfl, rfl, fun t ht => ?_⟩
        rw [take_succ ek] at ht
        rcases List.mem_append.mp ht with z | z
        · exact no t z
        · rw [List.mem_singleton.mp z]
          exact fun m => c (decide_eq_true m)
    · rintro σ H1 ⟨y, rfl, rfl, no⟩
      rw [List.length_map, List.take_length] at no
      rw [best_no no] at q
      exact q
/-! ### next_hands -/
structure NextIn (ow : List (Option Nat)) (L : List Nat) : Prop where
  ne : L ≠ []
  nd : L.Nodup
  lt : ∀ h ∈ L, h < ow.length
  len : L.length ≤ 7
  oi : ∀ g h o, own ow g = some o → own ow h = some o → g = h
def spNext (K : PySem.W.Frag) : Sp := fun vs H Q _ => ∃ (a l d : Addr) (ow : List (Option Nat)) (L : List Nat) (wt : Nat → Nat), vs = [.ref a, .ref l, .ref d] ∧ SqT K H a (ow.map vO) ∧ SqL K H l (L.map vN) ∧ H d = some (.dK (dN L wt)) ∧ NextIn ow L ∧
  ∀ H' p, Same H H' → H p = none → H' p = some (.dK (dN L fun h => ownerOf ow L (wt h))) → Q (.ref p) H'
theorem ok_next {f : Addr} {fd : FuncData} (F : Fun K "next_hands" "next_hands" sNext f fd) : FnOk P w K mg base CX0 1 f fd ["owns", "line", "wants"] (spNext K) := by
  refine F.ok scNext (fun vs H Q E h => ?_) (fun cdv A outer s H vs Q E hr h => ?_)
  · obtain ⟨a, l, d, ow, L, wt, rfl, _⟩ := h
    rfl
  · obtain ⟨a, l, d, ow, L, wt, rfl, ha, hl, hd, N, q⟩ := h
    have hu := hu_of hr
    refine ⟨_, pss_cons (ps_set (i := 3) scNext.nd rfl (.inl rfl) pe_dnewK)
      (pss_cons (ps_for PassesOwn.never rfl (pi_list (pv 1)) (pg_name (i := 4) scNext.nd rfl (.inl rfl))
        (pss_one (ps_if (pt_cmp (pc_notN (pe_ix ix_tup (pv 0) (pv 4) (fun _ _ => rfl)))) (pss_one (ps_dput hu (pv 3) (pe_ix ix_tup (pv 0) (pv 4) (fun _ _ => rfl)) (pv 4) rfl)) pss_nil)))
      (pss_cons (ps_set (i := 5) scNext.nd rfl (.inl rfl) pe_dnewK)
      (pss_cons (ps_for PassesOwn.never rfl (pi_list (pv 1)) (pg_name (i := 4) scNext.nd rfl (.inl rfl))
        (pss_one (ps_dput hu (pv 5) (pv 4) (pe_dget2 hu (pv 3) (pe_dget hu (pv 2) (pv 4) (fun _ _ => rfl)) (pe_ix ix_list (pv 1) pe_int (fun _ _ => rfl)) ⟨rfl, rfl, rfl, rfl⟩) rfl)))
      (pss_one (ps_ret (pv 5)))))), ?_⟩
    -- owners = {}
    intro o no
    have s0 : Same H (upd H o (.dK [])) := same_upd no
    refine ⟨_, rfl, l, rfl, ⟨_, s0.seq hl⟩, for_list (xs := L.map vN) (fun i σ H' => ∃ y, σ = [some (.ref a), some (.ref l), some (.ref d), some (.ref o), y, none] ∧ Same H H' ∧ H' o = some (.dK (kvO ow (L.take i))))
      ⟨none, rfl, s0, upd_same⟩ (fun i σ H' _ ⟨_, _, s', _⟩ => s'.seq hl) ?_ ?_⟩
    · rintro i x σ H1 hi ⟨y, rfl, s1, ho⟩
      obtain ⟨k, ek, rfl⟩ := at_map hi
      have hk : k < ow.length := N.lt k (List.mem_of_getElem? ek)
      refine ⟨_, rfl, _, rfl, a, _, k, vO (own ow k), rfl, rfl, same_tup s1 ha, atI_nat (own_at hk), _, rfl, ?_⟩
      cases e : own ow k with
      | none =>
        refine iteF ⟨_, rfl, s1, ?_⟩
        rw [ho, take_succ ek]
        unfold kvO
        rw [List.filterMap_append, List.filterMap_cons, e]
        simp
      | some t =>
        refine iteT ⟨_, rfl, _, rfl, _, rfl, _, rfl, a, _, k, vN t, rfl, rfl, same_tup s1 ha, atI_nat (by rw [own_at hk, e]; rfl), o, _, rfl, DPut.k (k := Sum.inl (t : Int)) ho ?_, ?_⟩
        · exact small _ (Nat.le_trans (kvO_len _ _) (by rw [List.length_take]; have := N.len; omega))
        · refine ⟨_, rfl, same_write no s1, ?_⟩
          have fresh : valV (kvO ow (L.take i)) (Sum.inl (t : Int)) = none := by
            rw [valV_kvO, List.find?_eq_none.mpr ?_]
            · rfl
            · intro g hg
              have : own ow g ≠ some t := fun z => not_in_take N.nd ek (N.oi g k t z e ▸ hg)
              simp [this]
          rw [upd_same, putK_new _ fresh, take_succ ek]
          unfold kvO
          rw [List.filterMap_append, List.filterMap_cons, e]
          rfl
    · rintro σ H1 ⟨y, rfl, s1, ho⟩
      rw [List.length_map, List.take_length] at ho
      -- points = {}
      intro p np
      have nop : o ≠ p := ne_of_none ho np
      have s2 : Same H (upd H1 p (.dK [])) := s1.trans (same_upd np)
      have np0 : H p = none := s1.free np
      refine ⟨_, rfl, l, rfl, ⟨_, s2.seq hl⟩, for_list (xs := L.map vN) (fun i σ H' => ∃ y, σ = [some (.ref a), some (.ref l), some (.ref d), some (.ref o), y, some (.ref p)] ∧ Same H H' ∧ H' o = some (.dK (kvO ow L)) ∧ H' p = some (.dK (dN (L.take i) fun h => ownerOf ow L (wt h))))
        ⟨_, rfl, s2, by rw [upd_ne nop]; exact ho, upd_same⟩ (fun i σ H' _ ⟨_, _, s', _⟩ => s'.seq hl) ?_ ?_⟩
      · rintro i x σ H2 hi ⟨y, rfl, s3, ho2, hp2⟩
        obtain ⟨k, ek, rfl⟩ := at_map hi
        have kL : k ∈ L := List.mem_of_getElem? ek
        have gw : valV (dN L wt) (Sum.inl (k : Int)) = some (vN (wt k)) := by rw [valV_dN, if_pos kL]
        have gd : DGet H2 d (vN k) (some (vN (wt k))) := by
          have := DGet.k (k := Sum.inl (k : Int)) (s3 _ _ hd)
          rw [gw] at this
          exact this
        have go := DGet.k (k := Sum.inl (wt k : Int)) ho2
        have hd0 : (L.map vN)[0]? = some (vN (L.headD 0)) := by
          cases hL : L with
          | nil => exact absurd hL N.ne
          | cons b r => rfl
        refine ⟨_, rfl, o, rfl, .inl ⟨_, .of ho2⟩, _, rfl, _, rfl, d, _, rfl, gd, _, rfl, l, _, 0, vN (L.headD 0), rfl, rfl, s3.seq hl, atI_nat (j := 0) hd0, _, go, ?_⟩
        have ev : (valV (kvO ow L) (Sum.inl (wt k : Int))).getD (vN (L.headD 0)) = vN (ownerOf ow L (wt k)) := by
          rw [valV_kvO]
          unfold ownerOf
          cases L.find? fun g => decide (own ow g = some (wt k)) <;> rfl
        rw [ev]
        have fresh : valV (dN (L.take i) fun h => ownerOf ow L (wt h)) (Sum.inl (k : Int)) = none := by
          rw [valV_dN, if_neg (not_in_take N.nd ek)]
        refine ⟨_, rfl, _, rfl, p, _, rfl, DPut.k (k := Sum.inl (k : Int)) hp2 ?_, ?_⟩
        · exact small _ (by rw [dN_len, List.length_take]; have := N.len; omega)
        · refine ⟨_, rfl, same_write np0 s3, by rw [upd_ne nop]; exact ho2, ?_⟩
          rw [upd_same, putK_new _ fresh, take_succ ek]
          unfold dN
          rw [List.map_append]
          rfl
      · rintro σ H2 ⟨y, rfl, s3, ho2, hp2⟩
        rw [List.length_map, List.take_length] at hp2
        exact ⟨_, rfl, q H2 p s3 np0 hp2⟩
end
end RT
namespace RT
open PySem PySem.Spec PyProof.Rows L2
theorem orbit_succ (p w : Nat → Nat) (h k : Nat) : orbit p w h (k + 1) = orbit p w h k ++ [(it p k h, w (it p k h))] := by
  unfold orbit
  rw [List.range_succ, List.map_append]
  rfl
theorem orbit_head (p w : Nat → Nat) (h k : Nat) : ∃ r, orbit p w h (k + 1) = (h, w h) :: r := by
  unfold orbit
  rw [List.range_succ_eq_map, List.map_cons]
  exact ⟨_, rfl⟩
theorem orbit_mem {p w : Nat → Nat} {h k : Nat} {y : Nat × Nat} (hy : y ∈ orbit p w h k) : y.2 = w y.1 := by
  obtain ⟨i, _, rfl⟩ := List.mem_map.mp hy
  rfl
theorem lead_yes {p w : Nat → Nat} {N h : Nat} {r : List (Nat × Nat)} (e : ringFrom p w N h = some r) (l : ∀ z ∈ r, h ≤ z.1) : leadRing p w N h = some r := by
  unfold leadRing
  rw [e]
  simp only
  rw [if_pos l]
theorem lead_no {p w : Nat → Nat} {N h : Nat} {r : List (Nat × Nat)} {y : Nat × Nat} (e : ringFrom p w N h = some r) (hy : y ∈ r) (le : ∀ z ∈ r, y.1 ≤ z.1) (ne : y ≠ (h, w h)) (hh : (h, w h) ∈ r) : leadRing p w N h = none := by
  unfold leadRing
  rw [e]
  simp only
  rw [if_neg]
  intro all
  obtain ⟨k, _, _, _, _, er⟩ := ringFrom_is e
  have a1 := all y hy
  have a2 : y.1 ≤ h := le _ hh
  rw [er] at hy
  have a3 := orbit_mem hy
  have a4 : y.1 = h := Nat.le_antisymm a2 a1
  exact ne (Prod.ext a4 (by rw [a3, a4]))
theorem lead_none {p w : Nat → Nat} {N h : Nat} (e : ringFrom p w N h = none) : leadRing p w N h = none := by
  unfold leadRing
  rw [e]
theorem rings_snoc {p w : Nat → Nat} {N h : Nat} (S : List Nat) : rings p w N (S ++ [h]) = rings p w N S ++ (match leadRing p w N h with | some r => [r] | none => []) := by
  unfold rings
  rw [List.filterMap_append, List.filterMap_cons]
  cases leadRing p w N h <;> rfl
theorem eqv_pd (x y : Nat × Nat) : PyData.eqv (pd x) (pd y) = decide (x = y) := by
  obtain ⟨x1, x2⟩ := x
  obtain ⟨y1, y2⟩ := y
  unfold pd
  simp only [PyData.eqv, PyData.eqvAll]
  by_cases e1 : x1 = y1 <;> by_cases e2 : x2 = y2 <;> simp [e1, e2, Int.ofNat_inj]
theorem shaped_pd (x : Nat × Nat) : SeqAt.shaped (pd x) = true := rfl
theorem nat_sorted {ns : List Int} {L : List Nat} (h : ns.Perm (L.map fun k : Nat => (k : Int))) : ∃ A : List Nat, ns = (A.map fun k : Nat => (k : Int)) ∧ A.Perm L := by
  refine ⟨ns.map Int.toNat, ?_, ?_⟩
  · rw [List.map_map]
    have : ns.map ((fun k : Nat => (k : Int)) ∘ Int.toNat) = ns.map id := List.map_congr_left fun x hx => by
      obtain ⟨k, _, rfl⟩ := List.mem_map.mp (h.mem_iff.mp hx)
      rfl
    rw [this, List.map_id]
  · have q := h.map Int.toNat
    rw [List.map_map] at q
    have : L.map (Int.toNat ∘ fun k : Nat => (k : Int)) = L.map id := List.map_congr_left fun x _ => rfl
    rw [this, List.map_id] at q
    exact q
section
variable {P : Program} {w : World} {K : PySem.W.Frag} {mg : Str → Option Value} {base : Heap}
theorem gdN {H : Hp} {d : Addr} {L : List Nat} {f : Nat → Nat} {k : Nat} (h : H d = some (.dK (dN L f))) (hk : k ∈ L) : DGet H d (vN k) (some (vN (f k))) := by
  have := DGet.k (k := Sum.inl (k : Int)) h
  rw [valV_dN, if_pos hk] at this
  exact this
/-! ### ring_from -/
def spRing (K : PySem.W.Frag) : Sp := fun vs H Q _ => ∃ (h : Nat) (dw dp : Addr) (L : List Nat) (wt p : Nat → Nat), vs = [vN h, .ref dw, .ref dp] ∧ H dw = some (.dK (dN L wt)) ∧ H dp = some (.dK (dN L p)) ∧ h ∈ L ∧ (∀ x ∈ L, p x ∈ L) ∧ L.length ≤ 7 ∧
  (ringFrom p wt L.length h = none → ∀ H', Same H H' → Q .non H') ∧ (∀ r H' a vs, ringFrom p wt L.length h = some r → Same H H' → H' a = some (.tup vs) → Paired (PairAt H') vs r → Q (.ref a) H')
theorem ok_ring {f : Addr} {fd : FuncData} (F : Fun K "ring_from" "ring_from" sRing f fd) (T : Bt mg) : FnOk P w K mg base CX0 1 f fd ["hand", "wants", "points"] (spRing K) := by
  refine F.ok scRing (fun vs H Q E h => ?_) (fun cdv A outer s H vs Q E hr h => ?_)
  · obtain ⟨h, dw, dp, L, wt, p, rfl, _⟩ := h
    rfl
  · obtain ⟨h, dw, dp, L, wt, p, rfl, hw, hp, hL, pL, len, q0, q1⟩ := h
    have hu := hu_of hr
    refine ⟨_, pss_cons (ps_set (i := 3) scRing.nd rfl (.inl rfl) (pe_lst pa_nil))
      (pss_cons (ps_set (i := 4) scRing.nd rfl (.inl rfl) (pv 0))
      (pss_cons (ps_for PassesOwn.never rfl (pi_range1 (by rfl) T.range (pa_cons (pe_callB call_lenD (by rfl) T.len PySem.boot_len (pa_cons (pv 2) pa_nil)) pa_nil)) (pg_name (i := 5) scRing.nd rfl (.inl rfl))
        (pss_cons (ps_expr (pe_bm PySem.F.plainAttrs_list PySem.F.slot_list_append PySem.F.type_list_append mt_append (pv 3) (pa_cons (pe_tup (pa_cons (pv 4) (pa_cons (pe_dget hu (pv 1) (pv 4) (fun _ _ => rfl)) pa_nil))) pa_nil)))
        (pss_cons (ps_set (i := 4) scRing.nd rfl (.inl rfl) (pe_dget hu (pv 2) (pv 4) (fun _ _ => rfl)))
        (pss_one (ps_if (pt_cmpR op_eq (pv 4) (pv 0) (nomark _)) (pss_one (ps_ret (pe_tupleOf (by rfl) T.tuple (pv 3)))) pss_nil)))))
      (pss_one (ps_ret pe_non)))), ?_⟩
    refine ⟨Nat.zero_le _, fun o no => ?_⟩
    refine ⟨_, rfl, _, rfl, dp, _, rfl, same_upd no _ _ hp, ((dN L p).length : Nat), rfl, by omega, by rw [dN_len]; omega, for_range (lo := 0) (n := (dN L p).length)
      (fun i σ H' => ∃ y vs, σ = [some (vN h), some (.ref dw), some (.ref dp), some (.ref o), some (vN (it p i h)), y] ∧ Same H H' ∧ H' o = some (.lst vs) ∧ Paired (PairAt H') vs (orbit p wt h i) ∧ ∀ j, j < i → it p (j + 1) h ≠ h)
      ⟨none, [], rfl, same_upd no, upd_same, .nil, fun j hj => absurd hj (Nat.not_lt_zero _)⟩ ?_ ?_⟩
    · rintro i σ H1 hi ⟨y, vs, rfl, s1, ho, pr, non⟩
      have hi' : i < L.length := by rw [dN_len] at hi; exact hi
      have hx : it p i h ∈ L := it_mem pL hL i
      have vl : vs.length = i := by
        rw [paired_length pr]
        unfold orbit
        rw [List.length_map, List.length_range]
      refine ⟨_, rfl, .inl ⟨rfl, _, .of ho⟩, _, rfl, _, rfl, _, rfl, dw, _, rfl, gdN (s1 _ _ hw) hx, by show 2 ≤ sizeLine; decide, fun t nt => ?_⟩
      have s2 : Same H1 (upd H1 t (.tup [vN (it p i h), vN (wt (it p i h))])) := same_upd nt
      have ot : o ≠ t := ne_of_none ho nt
      have ho2 : (upd H1 t (.tup [vN (it p i h), vN (wt (it p i h))])) o = some (.lst vs) := s2 _ _ ho
      refine ⟨o, vs, _, rfl, rfl, ho2, small _ (by omega), ?_⟩
      -- the heap with the longer ring
      have s3 : Same H (upd (upd H1 t (.tup [vN (it p i h), vN (wt (it p i h))])) o (.lst (vs ++ [.ref t]))) := same_write no (s1.trans s2)
      have tu : Tups H1 (upd (upd H1 t (.tup [vN (it p i h), vN (wt (it p i h))])) o (.lst (vs ++ [.ref t]))) := (sameTups s2).trans (tups_lst ho2)
      have pr2 : Paired (PairAt (upd (upd H1 t (.tup [vN (it p i h), vN (wt (it p i h))])) o (.lst (vs ++ [.ref t])))) (vs ++ [.ref t]) (orbit p wt h (i + 1)) := by
        rw [orbit_succ]
        exact paired_snoc ⟨t, rfl, by rw [upd_ne ot.symm, upd_same]⟩ (paired_map pr fun _ _ => PairAt.tups tu)
      have ho3 : (upd (upd H1 t (.tup [vN (it p i h), vN (wt (it p i h))])) o (.lst (vs ++ [.ref t]))) o = some (.lst (vs ++ [.ref t])) := upd_same
      revert s3 pr2 ho3
      generalize upd (upd H1 t (.tup [vN (it p i h), vN (wt (it p i h))])) o (.lst (vs ++ [.ref t])) = H3
      intro s3 pr2 ho3
      refine ⟨_, rfl, _, rfl, dp, _, rfl, gdN (s3 _ _ hp) hx, _, rfl, _, rfl, rfl, _, rfl, ite2 (fun c => ?_) (fun c => ?_)⟩
      · have e : it p (i + 1) h = h := vN_inj (of_decide_eq_true c)
        refine ⟨_, rfl, .inl ⟨o, _, rfl, .of ho3, fun a na => ?_⟩⟩
        have s4 : Same H3 (upd H3 a (.tup (vs ++ [.ref t]))) := same_upd na
        exact q1 _ _ a _ (ringFrom_some hi' e non) (s3.trans s4) upd_same (paired_map pr2 fun _ _ => PairAt.same s4)
      · refine ⟨_, _, rfl, s3, ho3, pr2, fun j hj e => ?_⟩
        by_cases z : j = i
        · subst z
          exact c (decide_eq_true (by show vN (it p (j + 1) h) = vN h; rw [e]))
        · exact non j (by omega) e
    · rintro σ H1 ⟨y, vs, rfl, s1, ho, pr, non⟩
      rw [dN_len] at non
      exact q0 (ringFrom_none non) H1 s1
/-! ### rings_now -/
def spNow (K : PySem.W.Frag) : Sp := fun vs H Q _ => ∃ (a l d : Addr) (ow : List (Option Nat)) (L : List Nat) (wt : Nat → Nat), vs = [.ref a, .ref l, .ref d] ∧ SqT K H a (ow.map vO) ∧ SqL K H l (L.map vN) ∧ H d = some (.dK (dN L wt)) ∧ NextIn ow L ∧
  ∀ H' p vs A, Same H H' → H p = none → H' p = some (.lst vs) → A.Perm L → Paired (RingAt H') vs (rings (fun h => ownerOf ow L (wt h)) wt L.length A) → Q (.ref p) H'
theorem ok_now {f fN fR : Addr} {fd fdN fdR : FuncData} (F : Fun K "rings_now" "rings_now" sNow f fd) (T : Bt mg)
    (GN : FnOk P w K mg base CX0 1 fN fdN ["owns", "line", "wants"] (spNext K)) (mN : mg "next_hands" = some (.ref fN)) (kN : PySem.W.keepIn K (.ref fN) = true) (bN : Binds K fdN ["owns", "line", "wants"] [])
    (GR : FnOk P w K mg base CX0 1 fR fdR ["hand", "wants", "points"] (spRing K)) (mR : mg "ring_from" = some (.ref fR)) (kR : PySem.W.keepIn K (.ref fR) = true) (bR : Binds K fdR ["hand", "wants", "points"] []) :
    FnOk P w K mg base CX0 2 f fd ["owns", "line", "wants"] (spNow K) := by
  refine F.ok scNow (fun vs H Q E h => ?_) (fun cdv A outer s H vs Q E hr h => ?_)
  · obtain ⟨a, l, d, ow, L, wt, rfl, _⟩ := h
    rfl
  · obtain ⟨a, l, d, ow, L, wt, rfl, ha, hl, hd, N, q⟩ := h
    have hu64 : (A.deeper (envOfC "rings_now" (defScope sNow) s.heap.objs.size f cdv)).units + 64 < cLine := hr.units
    refine ⟨_, pss_cons (ps_set (i := 3) scNow.nd rfl (.inl rfl) (pe_call GN hr (by rfl) mN kN bN .nil pass0 (pa_cons (pv 0) (pa_cons (pv 1) (pa_cons (pv 2) pa_nil)))))
      (pss_cons (ps_set (i := 4) scNow.nd rfl (.inl rfl) (pe_lst pa_nil))
      (pss_cons (ps_for PassesOwn.never rfl (pi_list (pe_callB cr_sorted (by rfl) T.sorted PyProof.Rows.boot_sorted (pa_cons (pv 1) pa_nil))) (pg_name (i := 5) scNow.nd rfl (.inl rfl))
        (pss_cons (ps_set (i := 6) scNow.nd rfl (.inl rfl) (pe_call GR hr (by rfl) mR kR bR .nil pass0 (pa_cons (pv 5) (pa_cons (pv 2) (pa_cons (pv 3) pa_nil)))))
        (pss_one (ps_if (PW.pt (pw_and (pt_cmp (pc_notN (pv 6))) (pw_and1 (pt_cmpR (op_eqD hr.units) (pe_callB (cr_minP rfl hu64) (by rfl) T.min PyProof.Rows.boot_min (pa_cons (pv 6) pa_nil)) (pe_ix ix_tup (pv 6) pe_int (fun _ _ => rfl)) (nomark _)))))
          (pss_one (ps_expr (pe_bm PySem.F.plainAttrs_list PySem.F.slot_list_append PySem.F.type_list_append mt_append (pv 4) (pa_cons (pv 6) pa_nil)))) pss_nil))))
      (pss_one (ps_ret (pv 4))))), ?_⟩
    refine ⟨_, rfl, _, rfl, _, rfl, a, l, d, ow, L, wt, rfl, ha, hl, hd, N, fun H1 p s1 np hp => ?_⟩
    refine ⟨Nat.zero_le _, fun o no => ?_⟩
    have no0 : H o = none := s1.free no
    have po : p ≠ o := ne_of_none hp no
    have s2 : Same H1 (upd H1 o (.lst [])) := same_upd no
    refine ⟨_, rfl, l, (L.map fun k : Nat => (k : Int)), rfl, by rw [← mapN]; exact s2.seq (s1.seq hl), by rw [List.length_map]; have := N.len; omega, fun ns' c perm _ nc => ?_⟩
    obtain ⟨A', rfl, pA⟩ := nat_sorted perm
    have s3 : Same (upd H1 o (.lst [])) (upd (upd H1 o (.lst [])) c (.lst ((A'.map fun k : Nat => (k : Int)).map V.int))) := same_upd nc
    have oc : o ≠ c := fun e => by rw [← e, upd_same] at nc; cases nc
    rw [← mapN] at s3 ⊢
    have hc : (upd (upd H1 o (.lst [])) c (.lst (A'.map vN))) c = some (.lst (A'.map vN)) := upd_same
    have ho : (upd (upd H1 o (.lst [])) c (.lst (A'.map vN))) o = some (.lst []) := by rw [upd_ne oc, upd_same]
    have sA : Same H1 (upd (upd H1 o (.lst [])) c (.lst (A'.map vN))) := s2.trans s3
    revert hc ho sA
    generalize upd (upd H1 o (.lst [])) c (.lst (A'.map vN)) = H2
    intro hc ho sA
    have s02 : Same H H2 := s1.trans sA
    have hp2 := sA _ _ hp
    have pL : ∀ x ∈ L, ownerOf ow L (wt x) ∈ L := fun x _ => owner_mem N.ne _
    refine ⟨c, rfl, ⟨_, .of hc⟩, for_list (xs := A'.map vN) (fun i σ H' => ∃ y5 y6 vs, σ = [some (.ref a), some (.ref l), some (.ref d), some (.ref p), some (.ref o), y5, y6] ∧ Same H H' ∧ H' c = some (.lst (A'.map vN)) ∧ H' p = some (.dK (dN L fun h => ownerOf ow L (wt h))) ∧
        H' o = some (.lst vs) ∧ Paired (RingAt H') vs (rings (fun h => ownerOf ow L (wt h)) wt L.length (A'.take i)) ∧ vs.length ≤ i)
      ⟨none, none, [], rfl, s02, hc, hp2, ho, .nil, Nat.zero_le _⟩ (fun i σ H' _ ⟨_, _, _, _, _, e, _⟩ => .of e) ?_ ?_⟩
    · rintro i x σ H3 hi ⟨y5, y6, vs, rfl, s3, hc3, hp3, ho3, pr, vl⟩
      obtain ⟨k, ek, rfl⟩ := at_map hi
      have kA : k ∈ A' := List.mem_of_getElem? ek
      have kL : k ∈ L := pA.mem_iff.mp kA
      have iL : i < 7 := by
        have h1 := (List.getElem?_eq_some_iff.mp ek).1
        have h2 := pA.length_eq
        have h3 := N.len
        omega
      refine ⟨_, rfl, _, rfl, _, rfl, k, d, p, L, wt, _, rfl, s3 _ _ hd, hp3, kL, pL, N.len, fun en H4 s4 => ?_, fun r H4 ra rvs er s4 hra prr => ?_⟩
      · -- no ring from there
        refine ⟨_, rfl, false, rfl, iteF (iteF ?_)⟩
        refine ⟨_, _, vs, rfl, s3.trans s4, s4 _ _ hc3, s4 _ _ hp3, s4 _ _ ho3, ?_, by omega⟩
        rw [take_succ ek, rings_snoc, lead_none en, List.append_nil]
        exact paired_map pr fun _ _ => RingAt.tups (sameTups s4)
      · obtain ⟨m, m1, _, _, _, eorb⟩ := ringFrom_is er
        obtain ⟨r', er'⟩ : ∃ r', r = (k, wt k) :: r' := by
          obtain ⟨z, ez⟩ := orbit_head (fun h => ownerOf ow L (wt h)) wt k (m - 1)
          rw [show m - 1 + 1 = m by omega] at ez
          exact ⟨z, eorb.trans ez⟩
        subst er'
        obtain ⟨v0, e0, p0⟩ := paired_get' (i := 0) prr rfl
        refine ⟨_, rfl, true, rfl, iteT ?_⟩
        refine ⟨_, rfl, ra, rvs, (k, wt k), r', rfl, .of hra, prr, fun v y pv hy le => ?_⟩
        refine ⟨_, rfl, ra, rvs, 0, v0, rfl, rfl, .of hra, atI_nat (j := 0) e0, _, _, dp_pair pv, dp_pair p0, shaped_pd _, shaped_pd _, _, rfl, ?_⟩
        rw [eqv_pd]
        refine ite2 (fun c2 => ?_) (fun c2 => ?_)
        · have ey : y = (k, wt k) := of_decide_eq_true c2
          have ld : leadRing (fun h => ownerOf ow L (wt h)) wt L.length k = some ((k, wt k) :: r') := lead_yes er fun z hz => by
            have := le z hz
            rw [ey] at this
            exact this
          have ho4 := s4 _ _ ho3
          refine ⟨_, rfl, .inl ⟨rfl, _, .of ho4⟩, _, rfl, o, vs, _, rfl, rfl, ho4, small _ (by omega), ?_⟩
          have s5 : Same H (upd H4 o (.lst (vs ++ [.ref ra]))) := same_write no0 (s3.trans s4)
          have tu : Tups H3 (upd H4 o (.lst (vs ++ [.ref ra]))) := (sameTups s4).trans (tups_lst ho4)
          refine ⟨_, _, vs ++ [.ref ra], rfl, s5, by rw [upd_ne oc.symm]; exact s4 _ _ hc3, by rw [upd_ne po]; exact s4 _ _ hp3, upd_same, ?_, by rw [List.length_append, List.length_singleton]; omega⟩
          rw [take_succ ek, rings_snoc, ld]
          exact paired_snoc (RingAt.tups (tups_lst ho4) ⟨ra, rvs, rfl, hra, prr⟩) (paired_map pr fun _ _ => RingAt.tups tu)
        · have ld : leadRing (fun h => ownerOf ow L (wt h)) wt L.length k = none := lead_no er hy le (fun e => c2 (decide_eq_true e)) List.mem_cons_self
          refine ⟨_, _, vs, rfl, s3.trans s4, s4 _ _ hc3, s4 _ _ hp3, s4 _ _ ho3, ?_, by omega⟩
          rw [take_succ ek, rings_snoc, ld, List.append_nil]
          exact paired_map pr fun _ _ => RingAt.tups (sameTups s4)
    · rintro σ H3 ⟨y5, y6, vs, rfl, s3, hc3, hp3, ho3, pr, vl⟩
      rw [List.length_map, List.take_length] at pr
      exact ⟨_, rfl, q H3 o vs A' s3 no0 ho3 pA pr⟩
end
end RT
namespace RT
open PySem PySem.Spec PyProof.Rows L2
/-! ### lists -/
theorem rem_at : ∀ {L : List Nat} {k : Nat}, k ∈ L → ∃ j, L[j]? = some k ∧ (∀ m, m < j → L[m]? ≠ some k) ∧ L.eraseIdx j = L.erase k
  | [], k, h => nomatch h
  | a :: r, k, h => by
    by_cases e : a = k
    · refine ⟨0, by rw [e]; rfl, fun m hm => absurd hm (Nat.not_lt_zero _), ?_⟩
      rw [e, List.erase_cons_head]
      rfl
    · obtain ⟨j, h1, h2, h3⟩ := rem_at (L := r) (k := k) ((List.mem_cons.mp h).resolve_left fun z => e z.symm)
      refine ⟨j + 1, h1, fun m hm => ?_, ?_⟩
      · cases m with
        | zero => exact fun z => e (Option.some.inj z)
        | succ m => exact h2 m (by omega)
      · rw [List.erase_cons_tail (by simpa using e), ← h3]
        rfl
theorem map_eraseN {α β : Type} (f : α → β) : ∀ (l : List α) (j : Nat), (l.map f).eraseIdx j = (l.eraseIdx j).map f
  | [], _ => rfl
  | _ :: _, 0 => rfl
  | a :: r, j + 1 => by
    show f a :: (r.map f).eraseIdx j = f a :: (r.eraseIdx j).map f
    rw [map_eraseN f r j]
theorem remN {L : List Nat} {k : Nat} (hk : k ∈ L) : ∃ j : Nat, (L.map fun i : Nat => (i : Int))[j]? = some (k : Int) ∧ (∀ m : Nat, m < j → (L.map fun i : Nat => (i : Int))[m]? ≠ some (k : Int)) ∧ ((L.map fun i : Nat => (i : Int)).eraseIdx j).map V.int = (L.erase k).map vN := by
  obtain ⟨j, h1, h2, h3⟩ := rem_at hk
  refine ⟨j, ?_, fun m hm e => ?_, ?_⟩
  · rw [List.getElem?_map, h1]
    rfl
  · rw [List.getElem?_map] at e
    cases z : L[m]? with
    | none => rw [z] at e; cases e
    | some u =>
      rw [z] at e
      have : (u : Int) = (k : Int) := Option.some.inj e
      exact h2 m hm (by rw [z, Int.ofNat.inj this])
  · rw [map_eraseN, ← mapN, h3]
theorem flat_cut {α : Type} {rs : List (List α)} {i j : Nat} {r : List α} {x : α} (hi : rs[i]? = some r) (hj : r[j]? = some x) : ∃ B, rs.flatten = ((rs.take i).flatten ++ r.take j) ++ x :: B := by
  obtain ⟨h1, e1⟩ := List.getElem?_eq_some_iff.mp hi
  obtain ⟨h2, e2⟩ := List.getElem?_eq_some_iff.mp hj
  refine ⟨r.drop (j + 1) ++ (rs.drop (i + 1)).flatten, ?_⟩
  have q1 : rs.flatten = (rs.take i ++ rs[i] :: rs.drop (i + 1)).flatten := by rw [← List.drop_eq_getElem_cons h1, List.take_append_drop]
  have q2 : r = r.take j ++ r[j] :: r.drop (j + 1) := by rw [← List.drop_eq_getElem_cons h2, List.take_append_drop]
  rw [q1, List.flatten_append, List.flatten_cons, e1]
  conv => lhs; rw [q2, e2]
  simp
theorem not_ahead {α : Type} {R A B : List α} {x : α} (f : α → Nat) (e : R = A ++ x :: B) (nd : (R.map f).Nodup) : f x ∉ A.map f := fun hm => by
  rw [e, List.map_append, List.map_cons] at nd
  exact (List.nodup_append.mp nd).2.2 _ hm _ List.mem_cons_self rfl
theorem minus_less {L X : List Nat} {x : Nat} (h1 : x ∈ L) (h2 : x ∈ X) : (minus L X).length < L.length := by
  unfold minus
  rw [List.length_filter_lt_length_iff_exists]
  exact ⟨x, h1, by simp [h2]⟩
theorem take_snoc {α : Type} {r : List α} {j : Nat} {x : α} (h : r[j]? = some x) : r.take (j + 1) = r.take j ++ [x] := by
  rw [List.take_add_one, h]
  rfl
section
variable {n m : Nat} {ws : List (List Nat)} {ow : List (Option Nat)} {ord : List Nat} {D : List (Nat × Nat)} {L T : List Nat}
theorem Inv.lenL (I : RT.Inv n m ws ow ord D L T) : L.length ≤ n := by
  have := len_le_of_sub I.Ln (l2 := List.range n) fun x hx => List.mem_range.mpr ((I.Lm x).mp hx).1
  rw [List.length_range] at this
  exact this
theorem Inv.lenT (I : RT.Inv n m ws ow ord D L T) : T.length ≤ m := by
  have := len_le_of_sub I.Tn (l2 := List.range m) fun x hx => List.mem_range.mpr ((I.Tm x).mp hx).1
  rw [List.length_range] at this
  exact this
theorem Inv.next (I : RT.Inv n m ws ow ord D L T) (S : Scene n m ws ow ord) (hL : L ≠ []) : NextIn ow L :=
  ⟨hL, I.Ln, fun h hh => by rw [S.ol]; exact ((I.Lm h).mp hh).1, Nat.le_trans I.lenL S.n7, S.oi⟩
end
/-! ### what stands while the rounds go on -/
/-- all but l and t -/
def Kp (l t : Addr) (H H' : Hp) : Prop := ∀ b o, b ≠ l → b ≠ t → H b = some o → H' b = some o
def RingsB (H0 : Hp) (l t d : Addr) (H : Hp) (v : V) (rs : List (List (Nat × Nat))) : Prop := ∃ a xs, v = .ref a ∧ H0 a = none ∧ a ≠ l ∧ a ≠ t ∧ a ≠ d ∧ H a = some (.lst xs) ∧ Paired (RingAt H) xs rs
/-- a list of rings that was free in H0 -/
def RingsF (H0 H : Hp) (v : V) (rs : List (List (Nat × Nat))) : Prop := ∃ a xs, v = .ref a ∧ H0 a = none ∧ H a = some (.lst xs) ∧ Paired (RingAt H) xs rs
section
variable {H0 : Hp} {l t d : Addr} {H H' : Hp} {v : V} {rs : List (List (Nat × Nat))}
theorem RingsB.same (s : Same H H') : RingsB H0 l t d H v rs → RingsB H0 l t d H' v rs
  | ⟨a, xs, e, h0, h1, h2, h3, h, p⟩ => ⟨a, xs, e, h0, h1, h2, h3, s _ _ h, paired_map p fun _ _ => RingAt.tups (sameTups s)⟩
theorem RingsB.kp (s : Kp l t H H') (u : Tups H H') : RingsB H0 l t d H v rs → RingsB H0 l t d H' v rs
  | ⟨a, xs, e, h0, h1, h2, h3, h, p⟩ => ⟨a, xs, e, h0, h1, h2, h3, s _ _ h1 h2 h, paired_map p fun _ _ => RingAt.tups u⟩
theorem RingsB.put {ys : List V} {o : HO} (hd : H d = some (.lst ys)) : RingsB H0 l t d H v rs → RingsB H0 l t d (upd H d o) v rs
  | ⟨a, xs, e, h0, h1, h2, h3, h, p⟩ => ⟨a, xs, e, h0, h1, h2, h3, by rw [upd_ne h3]; exact h, paired_map p fun _ _ => RingAt.tups (tups_lst hd)⟩
theorem RingsB.plain : RingsB H0 l t d H v rs → RingsF H0 H v rs
  | ⟨a, xs, e, h0, _, _, _, h, p⟩ => ⟨a, xs, e, h0, h, p⟩
end
theorem Kp.trans {l t : Addr} {H H1 H2 : Hp} (a : Kp l t H H1) (b : Kp l t H1 H2) : Kp l t H H2 := fun c o h1 h2 h => b c o h1 h2 (a c o h1 h2 h)
theorem kp_l {l t : Addr} {H : Hp} {o : HO} : Kp l t H (upd H l o) := fun b x h1 _ h => by rw [upd_ne h1]; exact h
theorem kp_t {l t : Addr} {H : Hp} {o : HO} : Kp l t H (upd H t o) := fun b x _ h2 h => by rw [upd_ne h2]; exact h
section
variable {P : Program} {w : World} {K : PySem.W.Frag} {mg : Str → Option Value} {base : Heap}
theorem while_set {c : TT} {tb u : TS} {i : Nat} {v : V} {D : Ends} {r : VK} {b k : L2.St → Hp → Prop} {σ : L2.St} {H : Hp} (h : tWhile c tb { D with nx := u D } (σ.set i (some v)) H) :
    gName i v σ H (Ends.nx ⟨tSeq (tWhile c tb) u D, r, b, k⟩) := h
def spRounds (K : PySem.W.Frag) : Sp := fun vs H Q _ => ∃ (aw ao : Addr) (o : V) (wv : List V) (n m : Nat) (ws : List (List Nat)) (ow : List (Option Nat)) (ord : List Nat), vs = [.ref aw, .ref ao, o] ∧ H aw = some (.tup wv) ∧ Paired (RowAt H) wv ws ∧ H ao = some (.tup (ow.map vO)) ∧
  OrdV H o n ord ∧ Scene n m ws ow ord ∧ ∀ H' p vs Z T, Same H H' → H p = none → H' p = some (.lst vs) → Paired (RingsF H H') vs Z → RT.Inv n m ws ow ord Z.flatten.flatten [] T → Q (.ref p) H'
def mu (l : Addr) (H : Hp) : Nat := match H l with
  | some (.lst xs) => xs.length
  | _ => 0
theorem mu_of {l : Addr} {H : Hp} {L : List Nat} (h : H l = some (.lst (L.map vN))) : mu l H = L.length := by
  unfold mu
  rw [h]
  exact List.length_map _
theorem ok_rounds {f fO fI fB fN : Addr} {fd fdO fdI fdB fdN : FuncData} {dvs : List V} (F : FunD K "rounds" "rounds" (defArgs sRounds) (defBody sRounds) (defScope sRounds) dvs [] f fd) (T : Bt mg)
    (GO : FnOk P w K mg base CX0 2 fO fdO ["wishes", "order"] (spOrder K)) (mO : mg "order_of" = some (.ref fO)) (kO : PySem.W.keepIn K (.ref fO) = true) (bO : Binds K fdO ["wishes", "order"] [])
    (GI : FnOk P w K mg base CX0 1 fI fdI ["wishes"] (spIn K)) (mI : mg "things_in" = some (.ref fI)) (kI : PySem.W.keepIn K (.ref fI) = true) (bI : Binds K fdI ["wishes"] [])
    (GB : FnOk P w K mg base CX0 1 fB fdB ["row", "things"] (spBest K)) (mB : mg "best_left" = some (.ref fB)) (kB : PySem.W.keepIn K (.ref fB) = true) (bB : Binds K fdB ["row", "things"] [])
    (GN : FnOk P w K mg base CX0 2 fN fdN ["owns", "line", "wants"] (spNow K)) (mN : mg "rings_now" = some (.ref fN)) (kN : PySem.W.keepIn K (.ref fN) = true) (bN : Binds K fdN ["owns", "line", "wants"] []) :
    FnOk P w K mg base CX0 3 f fd ["wishes", "owns", "order"] (spRounds K) := by
  refine F.ok scRounds (fun vs H Q E h => ?_) (fun cdv A outer s H vs Q E hr h => ?_)
  · obtain ⟨aw, ao, o, wv, n, m, ws, ow, ord, rfl, _⟩ := h
    rfl
  · obtain ⟨aw, ao, o, wv, n, m, ws, ow, ord, rfl, haw, pw, hao, hO, S, q⟩ := h
    have hu := hu_of hr
    have hr1 := hr.mono (show 1 ≤ 2 by decide)
    refine ⟨_, (pss_cons (ps_set (i := 3) scRounds.nd rfl (.inl rfl) (pe_call GO hr (by rfl) mO kO bO .nil pass0 (pa_cons (pv 0) (pa_cons (pv 2) pa_nil))))
      (pss_cons (ps_set (i := 4) scRounds.nd rfl (.inl rfl) (pe_listRg rfl (by rfl) T.list (prg_1 (by rfl) T.range (pe_call GI hr1 (by rfl) mI kI bI .nil pass0 (pa_cons (pv 0) pa_nil)))))
      (pss_cons (ps_set (i := 5) scRounds.nd rfl (.inl rfl) (pe_lst pa_nil))
      (pss_cons (ps_while PassesOwn.never (pt_truth (pv 3) (by intro _; rfl))
        (pss_cons (ps_set (i := 6) scRounds.nd rfl (.inl rfl) pe_dnewK)
        (pss_cons (ps_for PassesOwn.never rfl (pi_list (pv 3)) (pg_name (i := 7) scRounds.nd rfl (.inl rfl))
          (pss_one (ps_dput hu (pv 6) (pv 7) (pe_call GB hr1 (by rfl) mB kB bB .nil pass0 (pa_cons (pe_ix ix_tup (pv 0) (pv 7) (fun _ _ => rfl)) (pa_cons (pv 4) pa_nil))) rfl)))
        (pss_cons (ps_set (i := 8) scRounds.nd rfl (.inl rfl) (pe_call GN hr (by rfl) mN kN bN .nil pass0 (pa_cons (pv 1) (pa_cons (pv 3) (pa_cons (pv 6) pa_nil)))))
        (pss_cons (ps_expr (pe_bm PySem.F.plainAttrs_list PySem.F.slot_list_append PySem.F.type_list_append mt_append (pv 5) (pa_cons (pv 8) pa_nil)))
        (pss_one (ps_for PassesOwn.never rfl (pi_list (pv 8)) (pg_name (i := 9) scRounds.nd rfl (.inl rfl))
          (pss_one (ps_for PassesOwn.never rfl (pi_tup (pv 9)) (pg_tup rfl (pgs_cons (pg_name (i := 7) scRounds.nd rfl (.inl rfl)) (pgs_cons (pg_name (i := 10) scRounds.nd rfl (.inl rfl)) pgs_nil)))
            (pss_cons (ps_expr (pe_bm PySem.F.plainAttrs_list PySem.F.slot_list_remove PySem.F.type_list_remove mt_remove (pv 3) (pa_cons (pv 7) pa_nil)))
            (pss_one (ps_expr (pe_bm PySem.F.plainAttrs_list PySem.F.slot_list_remove PySem.F.type_list_remove mt_remove (pv 4) (pa_cons (pv 10) pa_nil))))))))))))))
      (pss_one (ps_ret (pv 5))))))).nox, ?_⟩
    have wl : wv.length = n := (paired_length pw).trans S.wl
    -- line, things, told
    refine ⟨_, rfl, _, rfl, aw, o, wv, n, ord, rfl, .of haw, wl, S.n7, hO, S.op, fun H1 l s1 nl hl => ?_⟩
    obtain ⟨v0, e0, b0, rfl, hb0⟩ : ∃ v, wv[0]? = some v ∧ ∃ b, v = .ref b ∧ FrzT H b ((row ws 0).map vN) := by
      have h0 : ws[0]? = some (row ws 0) := by
        have : 0 < ws.length := by rw [S.wl]; exact S.n1
        unfold row
        rw [List.getD_eq_getElem?_getD, List.getElem?_eq_getElem this]
        rfl
      obtain ⟨v, hv, b, rfl, hb⟩ := paired_get' pw h0
      exact ⟨_, hv, b, rfl, hb⟩
    obtain ⟨wr, hwr⟩ : ∃ wr, wv = .ref b0 :: wr := by
      cases wv with
      | nil => cases e0
      | cons x r => exact ⟨r, by rw [Option.some.inj e0]⟩
    have rl : ((row ws 0).map vN).length = m := by
      rw [List.length_map, (S.row_perm S.n1).length_eq, List.length_range]
    refine ⟨_, rfl, aw, b0, wr, (row ws 0).map vN, rfl, .of (by rw [← hwr]; exact s1 _ _ haw), (hb0.same s1).sq, m, by rw [rl], ?_⟩
    have m8 := S.m8
    refine ⟨rgOk_nat (by omega), fun t nt => ?_⟩
    rw [rgV_nat]
    have nlt : l ≠ t := ne_of_none hl nt
    have s2 : Same H1 (upd H1 t (.lst ((List.range m).map vN))) := same_upd nt
    refine ⟨Nat.zero_le _, fun d nd => ?_⟩
    have nt0 : H t = none := s1.free nt
    have nd0 : H d = none := (s1.trans s2).free nd
    have ntd : t ≠ d := fun e => by rw [← e, upd_same] at nd; cases nd
    have nld : l ≠ d := ne_of_none (s2 _ _ hl) nd
    have s3 : Same H (upd (upd H1 t (.lst ((List.range m).map vN))) d (.lst [])) := (s1.trans s2).trans (same_upd nd)
    -- the rounds
    refine while_set ?_
    refine while_by (fun σ H' => ∃ L T Z vs y6 y7 y8 y9 y10, σ = [some (.ref aw), some (.ref ao), some o, some (.ref l), some (.ref t), some (.ref d), y6, y7, y8, y9, y10] ∧ Same H H' ∧ H' l = some (.lst (L.map vN)) ∧ H' t = some (.lst (T.map vN)) ∧ H' d = some (.lst vs) ∧
        Paired (RingsB H l t d H') vs Z ∧ RT.Inv n m ws ow ord Z.flatten.flatten L T ∧ vs.length + L.length ≤ 7) (fun _ H' => mu l H')
      ⟨ord, List.range m, [], [], none, none, none, none, none, rfl, s3, ?_, ?_, upd_same, .nil, S.begin, ?_⟩ ?_ ?_
    · rw [upd_ne nld, upd_ne nlt]
      exact hl
    · rw [upd_ne ntd, upd_same]
    · rw [S.op.length_eq, List.length_range]
      have := S.n7
      show 0 + n ≤ 7
      omega
    · rintro σ H4 ⟨L, TT, Z, zs, y6, y7, y8, y9, y10, rfl, s4, hl4, ht4, hd4, pz, I, zl⟩
      refine ⟨_, rfl, _, .inl ⟨_, .of hl4, rfl⟩, ?_⟩
      by_cases hL : L = []
      · subst hL
        refine iteF ⟨_, rfl, q H4 d zs Z TT s4 nd0 hd4 (paired_map pz fun _ _ => RingsB.plain) I⟩
      · have hk : (!(L.map vN).isEmpty) = true := by
          cases L with
          | nil => exact absurd rfl hL
          | cons a r => rfl
        rw [hk]
        refine iteT ?_
        have N := I.next S hL
        have n7 := S.n7
        -- wants
        intro wa nw
        have s5 : Same H4 (upd H4 wa (.dK [])) := same_upd nw
        refine ⟨_, rfl, l, rfl, ⟨_, .of (s5 _ _ hl4)⟩, for_list (xs := L.map vN) (fun i σ H' => ∃ y7, σ = [some (.ref aw), some (.ref ao), some o, some (.ref l), some (.ref t), some (.ref d), some (.ref wa), y7, y8, y9, y10] ∧ Same H4 H' ∧ H' wa = some (.dK (dN (L.take i) (wantOf ws TT))))
          ⟨_, rfl, s5, upd_same⟩ (fun i σ H' _ ⟨_, _, s', _⟩ => .of (s' _ _ hl4)) ?_ ?_⟩
        · rintro i x σ H5 hi ⟨y7, rfl, s6, hw5⟩
          obtain ⟨k, ek, rfl⟩ := at_map hi
          have kL : k ∈ L := List.mem_of_getElem? ek
          have kn : k < n := ((I.Lm k).mp kL).1
          have kr : ws[k]? = some (row ws k) := by
            have : k < ws.length := by rw [S.wl]; exact kn
            unfold row
            rw [List.getD_eq_getElem?_getD, List.getElem?_eq_getElem this]
            rfl
          obtain ⟨vr, evr, br, rfl, hbr⟩ := paired_get' pw kr
          have best := I.want S hL kL
          refine ⟨_, rfl, _, rfl, aw, wv, k, .ref br, rfl, rfl, .of (s6 _ _ (s4 _ _ haw)), atI_nat evr, _, rfl, br, t, row ws k, TT, rfl, ((hbr.same s4).same s6).sq, .of (s6 _ _ ht4), ?_⟩
          rw [best]
          have fresh : valV (dN (L.take i) (wantOf ws TT)) (Sum.inl (k : Int)) = none := by rw [valV_dN, if_neg (not_in_take N.nd ek)]
          refine ⟨_, rfl, _, rfl, wa, _, rfl, DPut.k (k := Sum.inl (k : Int)) hw5 ?_, ?_⟩
          · exact small _ (by rw [dN_len, List.length_take]; have := N.len; omega)
          · refine ⟨_, rfl, same_write nw s6, ?_⟩
            rw [upd_same, putK_new _ fresh, take_succ ek]
            unfold dN
            rw [List.map_append]
            rfl
        · rintro σ H5 ⟨y7, rfl, s6, hw5⟩
          rw [List.length_map, List.take_length] at hw5
          -- rings
          refine ⟨_, rfl, _, rfl, _, rfl, ao, l, wa, ow, L, wantOf ws TT, rfl, .of (s6 _ _ (s4 _ _ hao)), .of (s6 _ _ hl4), hw5, N, fun H6 p rvs A s7 np hp pA pr => ?_⟩
          have hR : (rings (fun h => ownerOf ow L (wantOf ws TT h)) (wantOf ws TT) L.length A) = roundOf ws ow L TT A := rfl
          rw [hR] at pr
          obtain ⟨Rne, Rin, Rn1, Rn2, I2⟩ := I.round S hL pA (R := (roundOf ws ow L TT A).flatten) rfl
          revert pr Rne Rin Rn1 Rn2 I2
          generalize roundOf ws ow L TT A = rs
          intro pr Rne Rin Rn1 Rn2 I2
          have hl6 := s7 _ _ (s6 _ _ hl4)
          have ht6 := s7 _ _ (s6 _ _ ht4)
          have hd6 := s7 _ _ (s6 _ _ hd4)
          have npl : p ≠ l := fun e => by rw [e, s6 _ _ hl4] at np; cases np
          have npt : p ≠ t := fun e => by rw [e, s6 _ _ ht4] at np; cases np
          have npd : p ≠ d := fun e => by rw [e, s6 _ _ hd4] at np; cases np
          -- told.append(rings)
          refine ⟨_, rfl, .inl ⟨rfl, _, .of hd6⟩, _, rfl, d, zs, _, rfl, rfl, hd6, small _ (by omega), ?_⟩
          have s47 : Same H H6 := s4.trans (s6.trans s7)
          have s8 : Same H (upd H6 d (.lst (zs ++ [.ref p]))) := same_write nd0 s47
          have hl7 : (upd H6 d (.lst (zs ++ [.ref p]))) l = some (.lst (L.map vN)) := by rw [upd_ne nld]; exact hl6
          have ht7 : (upd H6 d (.lst (zs ++ [.ref p]))) t = some (.lst (TT.map vN)) := by rw [upd_ne ntd]; exact ht6
          have hd7 : (upd H6 d (.lst (zs ++ [.ref p]))) d = some (.lst (zs ++ [.ref p])) := upd_same
          have hp7 : (upd H6 d (.lst (zs ++ [.ref p]))) p = some (.lst rvs) := by rw [upd_ne npd]; exact hp
          have pr7 : Paired (RingAt (upd H6 d (.lst (zs ++ [.ref p])))) rvs rs := paired_map pr fun _ _ => RingAt.tups (tups_lst hd6)
          have pz7 : Paired (RingsB H l t d (upd H6 d (.lst (zs ++ [.ref p])))) (zs ++ [.ref p]) (Z ++ [rs]) :=
            paired_snoc ⟨p, rvs, rfl, (s4.trans s6).free np, npl, npt, npd, hp7, pr7⟩ (paired_map pz fun _ _ z => RingsB.put hd6 (RingsB.same (s6.trans s7) z))
          revert s8 hl7 ht7 hd7 hp7 pr7 pz7
          generalize upd H6 d (.lst (zs ++ [.ref p])) = H7
          intro s8 hl7 ht7 hd7 hp7 pr7 pz7
          -- the hands and the things of the rings leave
          refine ⟨_, rfl, p, rfl, ⟨_, .of hp7⟩, for_list (xs := rvs) (fun i σ H' => ∃ y7 y9 y10, σ = [some (.ref aw), some (.ref ao), some o, some (.ref l), some (.ref t), some (.ref d), some (.ref wa), y7, some (.ref p), y9, y10] ∧ Same H H' ∧ Kp l t H7 H' ∧ Tups H7 H' ∧
              H' l = some (.lst ((minus L ((rs.take i).flatten.map (·.1))).map vN)) ∧ H' t = some (.lst ((minus TT ((rs.take i).flatten.map (·.2))).map vN)))
            ⟨_, _, _, rfl, s8, fun _ _ _ _ h => h, fun _ _ h => h, ?_, ?_⟩ (fun i σ H' _ ⟨_, _, _, _, _, k', _⟩ => .of (k' _ _ npl npt hp7)) ?_ ?_⟩
          · show H7 l = some (.lst ((minus L []).map vN))
            rw [minus_nil]
            exact hl7
          · show H7 t = some (.lst ((minus TT []).map vN))
            rw [minus_nil]
            exact ht7
          · rintro i x σ H8 hi ⟨y7, y9, y10, rfl, s9, k9, u9, hl9, ht9⟩
            obtain ⟨r, er, ra, xs, rfl, hra, prr⟩ := paired_get (paired_map pr7 fun _ _ => RingAt.tups u9) hi
            refine ⟨_, rfl, ra, rfl, ⟨_, .of hra⟩, for_tup (xs := xs) (fun j σ H' => ∃ y7 y10, σ = [some (.ref aw), some (.ref ao), some o, some (.ref l), some (.ref t), some (.ref d), some (.ref wa), y7, some (.ref p), some (.ref ra), y10] ∧ Same H H' ∧ Kp l t H7 H' ∧ Tups H7 H' ∧ Tups H8 H' ∧
                H' l = some (.lst ((minus L (((rs.take i).flatten ++ r.take j).map (·.1))).map vN)) ∧ H' t = some (.lst ((minus TT (((rs.take i).flatten ++ r.take j).map (·.2))).map vN)))
              ⟨_, _, rfl, s9, k9, u9, fun _ _ h => h, ?_, ?_⟩ (fun j σ H' _ ⟨_, _, _, _, _, _, u', _⟩ => .of (u' _ _ hra)) ?_ ?_⟩
            · rw [List.take_zero, List.append_nil]
              exact hl9
            · rw [List.take_zero, List.append_nil]
              exact ht9
            · rintro j x σ H9 hj ⟨y7, y10, rfl, s10, k10, u10, u8, hl10, ht10⟩
              obtain ⟨y, ey, pa, rfl, hpa⟩ := paired_get (paired_map prr fun _ _ => PairAt.tups u8) hj
              obtain ⟨B, eB⟩ := flat_cut er ey
              have yin := Rin y (by rw [eB]; exact List.mem_append_right _ List.mem_cons_self)
              have m1 : y.1 ∈ minus L (((rs.take i).flatten ++ r.take j).map (·.1)) := mem_minus.mpr ⟨yin.1, not_ahead (·.1) eB Rn1⟩
              have m2 : y.2 ∈ minus TT (((rs.take i).flatten ++ r.take j).map (·.2)) := mem_minus.mpr ⟨yin.2, not_ahead (·.2) eB Rn2⟩
              refine ⟨pa, _, rfl, .of hpa, rfl, vN y.1, [vN y.2], rfl, vN y.2, [], rfl, rfl, ?_⟩
              obtain ⟨j1, f1, g1, d1⟩ := remN m1
              obtain ⟨j2, f2, g2, d2⟩ := remN m2
              refine ⟨_, rfl, .inl ⟨rfl, _, .of hl10⟩, _, rfl, l, _, y.1, j1, rfl, rfl, by rw [← mapN]; exact hl10, f1, g1, ?_⟩
              rw [d1]
              have ht11 : (upd H9 l (.lst (((minus L (((rs.take i).flatten ++ r.take j).map (·.1))).erase y.1).map vN))) t = some (.lst ((minus TT (((rs.take i).flatten ++ r.take j).map (·.2))).map vN)) := by rw [upd_ne nlt.symm]; exact ht10
              refine ⟨_, rfl, .inl ⟨rfl, _, .of ht11⟩, _, rfl, t, _, y.2, j2, rfl, rfl, by rw [← mapN]; exact ht11, f2, g2, ?_⟩
              rw [d2]
              refine ⟨_, _, rfl, same_write nt0 (same_write nl s10), k10.trans (kp_l.trans kp_t), u10.trans ((tups_lst hl10).trans (tups_lst ht11)), u8.trans ((tups_lst hl10).trans (tups_lst ht11)), ?_, ?_⟩
              · rw [upd_ne nlt, upd_same, minus_erase I.Ln, take_snoc ey, ← List.append_assoc, List.map_append (l₁ := (rs.take i).flatten ++ r.take j)]
                rfl
              · rw [upd_same, minus_erase I.Tn, take_snoc ey, ← List.append_assoc, List.map_append (l₁ := (rs.take i).flatten ++ r.take j)]
                rfl
            · rintro σ H9 ⟨y7, y10, rfl, s10, k10, u10, u8, hl10, ht10⟩
              have e1 : (rs.take (i + 1)).flatten = (rs.take i).flatten ++ r.take xs.length := by
                rw [take_snoc er, List.flatten_append, paired_length prr, List.take_length, List.flatten_singleton]
              exact ⟨_, _, _, rfl, s10, k10, u10, by rw [e1]; exact hl10, by rw [e1]; exact ht10⟩
          · rintro σ H8 ⟨y7, y9, y10, rfl, s9, k9, u9, hl9, ht9⟩
            rw [paired_length pr7, List.take_length] at hl9 ht9
            obtain ⟨x, hx⟩ := List.exists_mem_of_ne_nil _ Rne
            have less : (minus L (rs.flatten.map (·.1))).length < L.length := minus_less (Rin x hx).1 (List.mem_map.mpr ⟨x, hx, rfl⟩)
            refine ⟨⟨_, _, Z ++ [rs], _, _, _, _, _, _, rfl, s9, hl9, ht9, k9 _ _ nld.symm ntd.symm hd7, paired_map pz7 fun _ _ => RingsB.kp k9 u9, ?_, ?_⟩, ?_⟩
            · have e2 : (Z ++ [rs]).flatten.flatten = Z.flatten.flatten ++ rs.flatten := by
                rw [List.flatten_append, List.flatten_append, List.flatten_singleton]
              rw [e2]
              exact I2
            · rw [List.length_append, List.length_singleton]
              omega
            · show mu l H8 < mu l H4
              rw [mu_of hl9, mu_of hl4]
              exact less
    · rintro σ H Q Q' f ⟨v, e, k, t, q⟩
      exact ⟨v, e, k, t, f _ _ q⟩
end
end RT
namespace RT
open PySem PySem.Spec PyProof.Rows L2
theorem place_snoc (g : List Nat) (A : List (Nat × Nat)) (x : Nat × Nat) : place g (A ++ [x]) = (place g A).set x.1 x.2 := by
  rw [place_append]
  rfl
theorem set_map (g : List Nat) (j t : Nat) : (g.map vN).set j (vN t) = (g.set j t).map vN := by rw [List.map_set]
theorem ixN_nat {n k : Nat} (h : k < n) : ixN n (k : Int) = some k := by
  unfold ixN
  rw [if_pos (Int.natCast_nonneg k), if_pos (by omega)]
  rfl
def K1 (g : Addr) (H H' : Hp) : Prop := ∀ b o, b ≠ g → H b = some o → H' b = some o
section
variable {P : Program} {w : World} {K : PySem.W.Frag} {mg : Str → Option Value} {base : Heap}
def spBy (K : PySem.W.Frag) : Sp := fun vs H Q _ => ∃ (aw ao : Addr) (o : V) (wv : List V) (n m : Nat) (ws : List (List Nat)) (ow : List (Option Nat)) (ord : List Nat), vs = [.ref aw, .ref ao, o] ∧ H aw = some (.tup wv) ∧ Paired (RowAt H) wv ws ∧ H ao = some (.tup (ow.map vO)) ∧
  OrdV H o n ord ∧ Scene n m ws ow ord ∧ ∀ H' p f, Same H H' → H' p = some (.tup (f.map vN)) → Deal n m ws ow ord f → Q (.ref p) H'
theorem OrdV.same {H H' : Hp} {v : V} {n : Nat} {ord : List Nat} (s : Same H H') : OrdV H v n ord → OrdV H' v n ord
  | .inl h => .inl h
  | .inr ⟨a, e, h⟩ => .inr ⟨a, e, s _ _ h⟩
theorem ok_by {f fR : Addr} {fd fdR : FuncData} {dvs : List V} (F : FunD K "by_rings" "by_rings" (defArgs sBy) (defBody sBy) (defScope sBy) dvs [] f fd) (T : Bt mg)
    (GR : FnOk P w K mg base CX0 3 fR fdR ["wishes", "owns", "order"] (spRounds K)) (mR : mg "rounds" = some (.ref fR)) (kR : PySem.W.keepIn K (.ref fR) = true) (bR : Binds K fdR ["wishes", "owns", "order"] []) :
    FnOk P w K mg base CX0 4 f fd ["wishes", "owns", "order"] (spBy K) := by
  refine F.ok scBy (fun vs H Q E h => ?_) (fun cdv A outer s H vs Q E hr h => ?_)
  · obtain ⟨aw, ao, o, wv, n, m, ws, ow, ord, rfl, _⟩ := h
    rfl
  · obtain ⟨aw, ao, o, wv, n, m, ws, ow, ord, rfl, haw, pw, hao, hO, S, q⟩ := h
    refine ⟨_, (pss_cons (ps_setLc (i := 3) (own := [("row", 8)]) (g := gName 8) (tt := tYes) (te := tC (.int 0)) rfl scBy.nd rfl rfl (sw_true rfl rfl rfl (by decide +kernel)) (pi_tup (pv 0)) (blkOk_by (own := [("row", 8)]) (N := ["wishes", "owns", "order", "got", "rings", "ring", "hand", "thing", "row"]) (sc := defScope sBy) (by decide +kernel))
        (fun _ _ _ _ _ => pg_name (i := 8) scBy.nd rfl (.inl rfl)) (fun _ _ _ _ _ => pts_nil) (fun _ _ _ _ _ => pe_int))
      (pss_cons (ps_for PassesOwn.never rfl (pi_list (pe_call GR hr (by rfl) mR kR bR .nil pass0 (pa_cons (pv 0) (pa_cons (pv 1) (pa_cons (pv 2) pa_nil))))) (pg_name (i := 4) scBy.nd rfl (.inl rfl))
        (pss_one (ps_for PassesOwn.never rfl (pi_list (pv 4)) (pg_name (i := 5) scBy.nd rfl (.inl rfl))
          (pss_one (ps_for PassesOwn.never rfl (pi_tup (pv 5)) (pg_tup rfl (pgs_cons (pg_name (i := 6) scBy.nd rfl (.inl rfl)) (pgs_cons (pg_name (i := 7) scBy.nd rfl (.inl rfl)) pgs_nil)))
            (pss_one (ps_asg (pv 7) (pg_sub (pv 3) (pv 6) set_list))))))))
      (pss_one (ps_ret (pe_tupleOf (by rfl) T.tuple (pv 3)))))).nox, ?_⟩
    have wl : wv.length = n := (paired_length pw).trans S.wl
    have n7 := S.n7
    -- got = [0 for row in wishes]
    refine ⟨_, rfl, aw, rfl, ⟨_, .of haw⟩, fun g ng => ?_⟩
    have s0 : Same H (upd H g (.lst [])) := same_upd ng
    refine lc_tup (K := K) (a := aw) (xs := wv) (fun i H' => Same H H' ∧ H' g = some (.lst ((List.replicate i 0).map vN))) ⟨s0, upd_same⟩ (fun i H' _ h => .of (h.1 _ _ haw)) ?_ ?_
    · rintro i x H1 hi ⟨s1, hg1⟩
      have hil : i < wv.length := (List.getElem?_eq_some_iff.mp hi).1
      refine ⟨rfl, _, hg1, small _ (by rw [List.length_map, List.length_replicate]; omega), same_write ng s1, ?_⟩
      rw [upd_same, List.replicate_succ', List.map_append]
      rfl
    · rintro H1 ⟨s1, hg1⟩
      rw [wl] at hg1
      -- rounds
      refine ⟨_, rfl, _, rfl, _, rfl, aw, ao, o, wv, n, m, ws, ow, ord, rfl, s1 _ _ haw, paired_map pw fun _ _ => RowAt.same s1, s1 _ _ hao, hO.same s1, S, fun H2 p vs Z TT s2 np hp pz I => ?_⟩
      have hg2 := s2 _ _ hg1
      have npg : p ≠ g := fun e => by rw [e, hg1] at np; cases np
      have glen : ∀ A, (place (List.replicate n 0) A).length = n := fun A => by rw [place_length, List.length_replicate]
      refine ⟨p, rfl, ⟨_, .of hp⟩, for_list (xs := vs) (fun i σ H' => ∃ y4 y5 y6 y7 y8, σ = [some (.ref aw), some (.ref ao), some o, some (.ref g), y4, y5, y6, y7, y8] ∧ Same H H' ∧ K1 g H2 H' ∧ Tups H2 H' ∧ H' g = some (.lst ((place (List.replicate n 0) (Z.take i).flatten.flatten).map vN)))
        ⟨_, _, _, _, _, rfl, s1.trans s2, fun _ _ _ h => h, fun _ _ h => h, hg2⟩ (fun i σ H' _ ⟨_, _, _, _, _, _, _, k', _⟩ => .of (k' _ _ npg hp)) ?_ ?_⟩
      · rintro i x σ H3 hi ⟨y4, y5, y6, y7, y8, rfl, s3, k3, u3, hg3⟩
        obtain ⟨rs, ers, a, xs, rfl, a0, ha, pr⟩ := paired_get pz hi
        have nag : a ≠ g := fun e => by rw [e, hg1] at a0; cases a0
        refine ⟨_, rfl, a, rfl, ⟨_, .of (k3 _ _ nag ha)⟩, for_list (xs := xs) (fun j σ H' => ∃ y5 y6 y7, σ = [some (.ref aw), some (.ref ao), some o, some (.ref g), some (.ref a), y5, y6, y7, y8] ∧ Same H H' ∧ K1 g H2 H' ∧ Tups H2 H' ∧ H' g = some (.lst ((place (List.replicate n 0) ((Z.take i).flatten.flatten ++ (rs.take j).flatten)).map vN)))
          ⟨_, _, _, rfl, s3, k3, u3, by rw [List.take_zero, List.flatten_nil, List.append_nil]; exact hg3⟩ (fun i σ H' _ ⟨_, _, _, _, _, k', _⟩ => .of (k' _ _ nag ha)) ?_ ?_⟩
        · rintro j x σ H4 hj ⟨y5, y6, y7, rfl, s4, k4, u4, hg4⟩
          obtain ⟨r, er, b, ps, rfl, hb, pp⟩ := paired_get (paired_map pr fun _ _ => RingAt.tups u4) hj
          refine ⟨_, rfl, b, rfl, ⟨_, .of hb⟩, for_tup (xs := ps) (fun k σ H' => ∃ y6 y7, σ = [some (.ref aw), some (.ref ao), some o, some (.ref g), some (.ref a), some (.ref b), y6, y7, y8] ∧ Same H H' ∧ K1 g H2 H' ∧ Tups H2 H' ∧ Tups H4 H' ∧
              H' g = some (.lst ((place (List.replicate n 0) (((Z.take i).flatten.flatten ++ (rs.take j).flatten) ++ r.take k)).map vN)))
            ⟨_, _, rfl, s4, k4, u4, fun _ _ h => h, by rw [List.take_zero, List.append_nil]; exact hg4⟩ (fun i σ H' _ ⟨_, _, _, _, _, _, u', _⟩ => .of (u' _ _ hb)) ?_ ?_⟩
          · rintro k x σ H5 hk ⟨y6, y7, rfl, s5, k5, u5, u54, hg5⟩
            obtain ⟨y, ey, c, rfl, hc⟩ := paired_get (paired_map pp fun _ _ => PairAt.tups u54) hk
            have yD : y ∈ Z.flatten.flatten := List.mem_flatten.mpr ⟨r, List.mem_flatten.mpr ⟨rs, List.mem_of_getElem? ers, List.mem_of_getElem? er⟩, List.mem_of_getElem? ey⟩
            have yn := I.Dhn y yD
            refine ⟨c, _, rfl, .of hc, rfl, vN y.1, [vN y.2], rfl, vN y.2, [], rfl, rfl, ?_⟩
            refine ⟨_, rfl, _, rfl, _, rfl, g, _, y.1, y.1, rfl, rfl, hg5, ixN_nat (by rw [List.length_map, glen]; exact yn), ?_⟩
            refine ⟨_, _, rfl, same_write ng s5, fun z o' hz h => by rw [upd_ne hz]; exact k5 _ _ hz h, u5.trans (tups_lst hg5), u54.trans (tups_lst hg5), ?_⟩
            rw [upd_same, take_snoc ey, ← List.append_assoc, place_snoc, ← set_map]
          · rintro σ H5 ⟨y6, y7, rfl, s5, k5, u5, u54, hg5⟩
            have e1 : (Z.take i).flatten.flatten ++ (rs.take (j + 1)).flatten = ((Z.take i).flatten.flatten ++ (rs.take j).flatten) ++ r.take ps.length := by
              rw [take_snoc er, List.flatten_append, paired_length pp, List.take_length, List.flatten_singleton, List.append_assoc]
            exact ⟨_, _, _, rfl, s5, k5, u5, by rw [e1]; exact hg5⟩
        · rintro σ H4 ⟨y5, y6, y7, rfl, s4, k4, u4, hg4⟩
          have e1 : (Z.take (i + 1)).flatten.flatten = (Z.take i).flatten.flatten ++ (rs.take xs.length).flatten := by
            rw [take_snoc ers, List.flatten_append, List.flatten_append, paired_length pr, List.take_length, List.flatten_singleton]
          exact ⟨_, _, _, _, _, rfl, s4, k4, u4, by rw [e1]; exact hg4⟩
      · rintro σ H3 ⟨y4, y5, y6, y7, y8, rfl, s3, k3, u3, hg3⟩
        rw [paired_length pz, List.take_length] at hg3
        refine ⟨_, rfl, .inl ⟨g, _, rfl, .of hg3, fun c nc => ?_⟩⟩
        exact q _ c _ (s3.trans (same_upd nc)) upd_same (I.deal S)
end
end RT
namespace RT
open PySem PySem.Spec PyProof.Rows L2
/-- i % j, j above nought: a number from nought on -/
def rModN : R2 := fun x y H Q => ∃ i j : Int, x = .int i ∧ y = .int j ∧ 0 < j ∧ ∀ c : Nat, (c : Int) = i % j → Q (vN c) H
theorem op_modC {X : Cx} : OpR X (binaryOp .Mod) rModN := by
  intro pins s σ H x y v u Q I rx ry h
  obtain ⟨i, j, rfl, rfl, hj, q⟩ := h
  have e : ((i % j).toNat : Int) = i % j := Int.toNat_of_nonneg (Int.emod_nonneg i (by omega))
  refine op_mod pins s σ H _ _ v u Q I rx ry ⟨i, j, rfl, rfl, hj, ?_⟩
  have := q _ e
  unfold vN at this
  rw [e] at this
  exact this
/-- i // j of numbers from nought on -/
def rDivN : R2 := fun x y H Q => ∃ i j : Nat, x = vN i ∧ y = vN j ∧ 0 < j ∧ j < 1000000 ∧ Q (vN (i / j)) H
theorem op_divC {X : Cx} : OpR X (binaryOp .FloorDiv) rDivN := by
  intro pins s σ H x y v u Q I rx ry h
  obtain ⟨i, j, rfl, rfl, h0, h1, q⟩ := h
  refine op_fdiv pins s σ H _ _ v u Q I rx ry ⟨i, j, rfl, rfl, ⟨by omega, by omega⟩, ?_⟩
  unfold vN at q
  rw [Int.natCast_ediv] at q
  exact q
/-- sums of numbers from nought on -/
def rAddN : R2 := fun x y H Q => ∃ i j : Nat, x = vN i ∧ y = vN j ∧ Q (vN (i + j)) H
theorem op_addC {X : Cx} : OpR X (binaryOp .Add) rAddN := by
  intro pins s σ H x y v u Q I rx ry h
  obtain ⟨i, j, rfl, rfl, q⟩ := h
  refine op_add pins s σ H _ _ v u Q I rx ry ⟨i, j, rfl, rfl, ?_⟩
  unfold vN at q
  rw [Int.natCast_add] at q
  exact q
section
variable {P : Program} {w : World} {K : PySem.W.Frag} {mg : Str → Option Value} {base : Heap}
/-! ### _law_cell -/
def spCell (K : PySem.W.Frag) : Sp := fun vs H Q _ => ∃ (a : Addr) (ns : List Int) (k : Nat), vs = [.ref a, vN k] ∧ SqL K H a (ns.map V.int) ∧ k ≤ 1000 ∧ ∀ c : Nat, Q (vN c) H
theorem ok_cell {f : Addr} {fd : FuncData} (F : Fun K "_law_cell" "_law_cell" sCell f fd) (T : Bt mg) : FnOk P w K mg base CX0 1 f fd ["_law_script", "_law_k"] (spCell K) := by
  refine F.ok scCell (fun vs H Q E h => ?_) (fun cdv A outer s H vs Q E hr h => ?_)
  · obtain ⟨a, ns, k, rfl, _⟩ := h
    rfl
  · obtain ⟨a, ns, k, rfl, hS, hk, q⟩ := h
    have tail : ∃ t, PSs (cxOf CX0 P w K mg base ["_law_script", "_law_k", "_law_cell_here", "_law_stirred"] "_law_cell" (defScope sCell) f cdv A outer s H E).nox ((defBody sCell).drop 3) t ∧
        ∀ (D : Ends) (c : Nat) y, (∀ c : Nat, D.rt (vN c) H) → t D [some (.ref a), some (vN k), some (vN c), y] H := by
      refine ⟨_, pss_cons (ps_set (i := 3) scCell.nd rfl (.inl rfl) (pe_op op_modC (pe_op op_mul (pe_op op_modC (pe_op op_mul
          (pe_op op_add (pe_op op_add (pe_op op_add (pv 2) (pe_op op_mul (pe_op op_mul pe_int (pv 1)) (pv 1))) (pe_op op_mul pe_int (pv 1))) pe_int) pe_int) pe_int) pe_int) pe_int))
        (pss_one (ps_ret (pe_op op_modC (pe_op op_mul (pe_op op_modC (pe_op op_mul (pe_op op_add (pv 3) pe_int) pe_int) pe_int) pe_int) pe_int))), fun D c y q => ?_⟩
      refine ⟨_, rfl, _, rfl, 7, k, rfl, rfl, .inl ⟨by decide, by decide⟩, _, rfl, _, k, rfl, rfl, .inr ⟨by omega, by omega⟩, c, _, rfl, rfl, _, rfl, 13, k, rfl, rfl, .inl ⟨by decide, by decide⟩, _, _, rfl, rfl, _, 5, rfl, rfl, _, 48271, rfl, rfl, .inr ⟨by decide, by decide⟩,
        _, 2147483647, rfl, rfl, by decide, fun c1 _ => ?_⟩
      refine ⟨c1, 69621, rfl, rfl, .inr ⟨by decide, by decide⟩, _, 1000000007, rfl, rfl, by decide, fun c2 _ => ?_⟩
      refine ⟨_, rfl, c2, 1, rfl, rfl, _, 40692, rfl, rfl, .inr ⟨by decide, by decide⟩, _, 2147483629, rfl, rfl, by decide, fun c3 _ => ?_⟩
      exact ⟨c3, 39373, rfl, rfl, .inr ⟨by decide, by decide⟩, _, 999999937, rfl, rfl, by decide, fun c4 _ => q c4⟩
    obtain ⟨t3, p3, r3⟩ := tail
    have tail : ∃ t, PSs (cxOf CX0 P w K mg base ["_law_script", "_law_k", "_law_cell_here", "_law_stirred"] "_law_cell" (defScope sCell) f cdv A outer s H E).nox ((defBody sCell).drop 2) t ∧
        ∀ (D : Ends) (c : Nat) y, (∀ c : Nat, D.rt (vN c) H) → t D [some (.ref a), some (vN k), some (vN c), y] H := by
      refine ⟨_, pss_cons (ps_if (PW.pt (pw_and (pt_cmpR op_gt (pe_callB call_len_seq (by rfl) T.len PySem.boot_len (pa_cons (pv 0) pa_nil)) pe_int (nomark _))
          (pw_and1 (pt_cmpR op_eq (pe_op op_modC (pe_ix ix_list (pv 0) pe_int (fun _ _ => rfl)) pe_int) pe_int (nomark _))))) (pss_one (ps_ret (pv 2))) pss_nil) p3, fun D c y q => ?_⟩
      refine ⟨_, rfl, a, _, rfl, .inl hS, _, _, rfl, rfl, _, rfl, ite2 (fun c2 => ?_) (fun c2 => ?_)⟩
      · have h0 : 0 < ns.length := by
          have := of_decide_eq_true c2
          rw [List.length_map] at this
          omega
        have hg0 : (ns.map V.int)[0]? = some (.int ns[0]) := by
          rw [List.getElem?_map, List.getElem?_eq_getElem h0]
          rfl
        refine ⟨_, rfl, a, _, 0, .int ns[0], rfl, rfl, hS, atI_nat (j := 0) hg0, _, 2, rfl, rfl, by decide, fun c3 _ => ⟨rfl, _, rfl, ite2 (fun _ => ?_) (fun _ => ?_)⟩⟩
        · exact ⟨_, rfl, q c⟩
        · exact r3 _ c y q
      · exact r3 _ c y q
    obtain ⟨t2, p2, r2⟩ := tail
    refine ⟨_, pss_cons (ps_set (i := 2) scCell.nd rfl (.inl rfl) pe_int)
      (pss_cons (ps_if (pt_cmpR op_lt (pv 1) (pe_callB call_len_seq (by rfl) T.len PySem.boot_len (pa_cons (pv 0) pa_nil)) (nomark _))
        (pss_one (ps_set (i := 2) scCell.nd rfl (.inl rfl) (pe_op op_modC (pe_ix ix_list (pv 0) (pv 1) (fun _ _ => rfl)) (pe_op op_pow pe_int pe_int)))) pss_nil) p2), ?_⟩
    refine ⟨_, rfl, _, rfl, a, _, rfl, .inl hS, _, _, rfl, rfl, _, rfl, ite2 (fun c1 => ?_) (fun c1 => ?_)⟩
    · have hlt : k < ns.length := by
        have := of_decide_eq_true c1
        rw [List.length_map] at this
        omega
      have hg : (ns.map V.int)[k]? = some (.int ns[k]) := by
        rw [List.getElem?_map, List.getElem?_eq_getElem hlt]
        rfl
      exact ⟨_, rfl, _, rfl, a, _, k, .int ns[k], rfl, rfl, hS, atI_nat hg, 10, 60, rfl, rfl, ⟨by decide, by decide, by decide⟩, _, _, rfl, rfl, (by show (0 : Int) < 10 ^ 60; decide +kernel), fun c _ => r2 _ c _ q⟩
    · exact r2 _ 0 _ q
/-! ### _law_row -/
def spRow : Sp := fun vs H Q _ => ∃ c m : Nat, vs = [vN c, vN m] ∧ m ≤ 8 ∧ ∀ H' p (r : List Nat), Same H H' → H p = none → FrzT H' p (r.map vN) → r.Perm (List.range m) → Q (.ref p) H'
theorem insert_perm {r : List Nat} {i j : Nat} (h : r.Perm (List.range i)) : (r.take j ++ [i] ++ r.drop j).Perm (List.range (i + 1)) := by
  rw [List.range_succ]
  have h1 : (r.take j ++ [i] ++ r.drop j).Perm (r.take j ++ (r.drop j ++ [i])) := by
    rw [List.append_assoc]
    exact List.Perm.append_left _ List.perm_append_comm
  rw [← List.append_assoc, List.take_append_drop] at h1
  exact h1.trans (h.append_right _)
theorem ok_row {f : Addr} {fd : FuncData} (F : Fun K "_law_row" "_law_row" sRow f fd) (T : Bt mg) : FnOk P w K mg base CX0 1 f fd ["_law_cell_here", "_law_m"] spRow := by
  refine F.ok scRow (fun vs H Q E h => ?_) (fun cdv A outer s H vs Q E hr h => ?_)
  · obtain ⟨c, m, rfl, _⟩ := h
    rfl
  · obtain ⟨c, m, rfl, m8, q⟩ := h
    refine ⟨_, pss_cons (ps_set (i := 2) scRow.nd rfl (.inl rfl) (pe_lst pa_nil))
      (pss_cons (ps_for PassesOwn.never rfl (pi_range1 (by rfl) T.range (pa_cons (pv 1) pa_nil)) (pg_name (i := 3) scRow.nd rfl (.inl rfl))
        (pss_cons (ps_expr (pe_bm PySem.F.plainAttrs_list PySem.F.slot_list_insert PySem.F.type_list_insert mt_insert (pv 2) (pa_cons (pe_op op_modC (pv 0) (pe_op op_addC (pv 3) pe_int)) (pa_cons (pv 3) pa_nil))))
        (pss_one (ps_set (i := 0) scRow.nd rfl (.inl rfl) (pe_op op_divC (pv 0) (pe_op op_addC (pv 3) pe_int))))))
      (pss_one (ps_ret (pe_tupleF (by rfl) T.tuple (pv 2))))), ?_⟩
    refine ⟨Nat.zero_le _, fun o no => ?_⟩
    refine ⟨_, rfl, m, rfl, by omega, by omega, for_range (lo := 0) (n := m) (fun i σ H' => ∃ (c : Nat) (r : List Nat) (y : Option V), σ = [some (vN c), some (vN m), some (.ref o), y] ∧ Same H H' ∧ H' o = some (.lst (r.map vN)) ∧ r.Perm (List.range i))
      ⟨c, [], none, rfl, same_upd no, upd_same, .refl _⟩ ?_ ?_⟩
    · rintro i σ H1 hi ⟨c, r, y, rfl, s1, ho, pm⟩
      have e0 : V.int (0 + (i : Int)) = vN i := by unfold vN; rw [Int.zero_add]
      rw [e0]
      have rl : r.length = i := by rw [pm.length_eq, List.length_range]
      refine ⟨_, rfl, .inl ⟨rfl, _, .of ho⟩, _, rfl, _, rfl, i, 1, rfl, rfl, c, _, rfl, rfl, by omega, fun j ej => ?_⟩
      have jl : (j : Int) < (i + 1 : Nat) := by
        rw [ej]
        exact Int.emod_lt_of_pos _ (by omega)
      refine ⟨_, rfl, o, _, j, _, rfl, rfl, ho, small _ (by rw [List.length_map]; omega), by omega, by omega, ?_⟩
      refine ⟨_, rfl, _, rfl, i, 1, rfl, rfl, c, i + 1, rfl, rfl, by omega, by omega, ?_⟩
      refine ⟨_, r.take j ++ [i] ++ r.drop j, _, rfl, same_write no s1, ?_, insert_perm pm⟩
      rw [upd_same, List.map_append, List.map_append, List.map_take, List.map_drop]
      rfl
    · rintro σ H1 ⟨c, r, y, rfl, s1, ho, pm⟩
      refine ⟨_, rfl, o, _, rfl, .of ho, fun p H2 np s2 fz => ?_⟩
      exact q _ p r (s1.trans s2) (s1.free np) fz pm
end
end RT
namespace RT
open PySem PySem.Spec PyProof.Rows L2
theorem own_some {ow : List (Option Nat)} {h o : Nat} : own ow h = some o ↔ ow[h]? = some (some o) := by
  unfold own
  rw [List.getD_eq_getElem?_getD]
  cases ow[h]? with
  | none => simp
  | some x => simp
theorem own_mem {ow : List (Option Nat)} {h o : Nat} (e : own ow h = some o) : some o ∈ ow := List.mem_of_getElem? (own_some.mp e)
structure OwnsOk (m : Nat) (ow : List (Option Nat)) : Prop where
  ob : ∀ h o, own ow h = some o → o < m
  oi : ∀ g h o, own ow g = some o → own ow h = some o → g = h
theorem own_snoc {ow : List (Option Nat)} {x : Option Nat} {h o : Nat} (e : own (ow ++ [x]) h = some o) : own ow h = some o ∨ (h = ow.length ∧ x = some o) := by
  have e := own_some.mp e
  by_cases hl : h < ow.length
  · rw [List.getElem?_append_left hl] at e
    exact .inl (own_some.mpr e)
  · rw [List.getElem?_append_right (by omega)] at e
    by_cases h0 : h - ow.length = 0
    · rw [h0] at e
      exact .inr ⟨by omega, Option.some.inj e⟩
    · obtain ⟨k, hk⟩ : ∃ k, h - ow.length = k + 1 := ⟨h - ow.length - 1, by omega⟩
      rw [hk] at e
      simp at e
theorem OwnsOk.nil (m : Nat) : OwnsOk m [] := ⟨fun h o e => by simp [own] at e, fun g h o e => by simp [own] at e⟩
theorem OwnsOk.none {m : Nat} {ow : List (Option Nat)} (k : OwnsOk m ow) : OwnsOk m (ow ++ [Option.none]) := by
  refine ⟨fun h o e => ?_, fun g h o e1 e2 => ?_⟩
  · rcases own_snoc e with e | ⟨_, e⟩
    · exact k.ob h o e
    · cases e
  · rcases own_snoc e1 with e1 | ⟨_, e1⟩
    · rcases own_snoc e2 with e2 | ⟨_, e2⟩
      · exact k.oi g h o e1 e2
      · cases e2
    · cases e1
theorem OwnsOk.some {m t : Nat} {ow : List (Option Nat)} (k : OwnsOk m ow) (ht : t < m) (no : Option.some t ∉ ow) : OwnsOk m (ow ++ [Option.some t]) := by
  refine ⟨fun h o e => ?_, fun g h o e1 e2 => ?_⟩
  · rcases own_snoc e with e | ⟨_, e⟩
    · exact k.ob h o e
    · rw [← Option.some.inj e]
      exact ht
  · rcases own_snoc e1 with e1 | ⟨q1, e1⟩
    · rcases own_snoc e2 with e2 | ⟨_, e2⟩
      · exact k.oi g h o e1 e2
      · rw [← Option.some.inj e2] at e1
        exact absurd (own_mem e1) no
    · rcases own_snoc e2 with e2 | ⟨q2, e2⟩
      · rw [← Option.some.inj e1] at e2
        exact absurd (own_mem e2) no
      · rw [q1, q2]
theorem flatO (L : List (Option Nat)) : (L.map vO).all flatV = true := by
  rw [List.all_map]
  exact List.all_eq_true.mpr fun x _ => by cases x <;> rfl
theorem inV_O {k : Nat} {L : List (Option Nat)} : inV (vN k) (L.map vO) = decide (some k ∈ L) := by
  unfold inV
  induction L with
  | nil => rfl
  | cons a L ih =>
    rw [List.map_cons, List.any_cons, ih]
    have : eqV (vO a) (vN k) = decide (a = some k) := by
      cases a with
      | none => rfl
      | some a =>
        show ((a : Int) == (k : Int)) = decide (some a = some k)
        rw [Bool.beq_eq_decide_eq]
        exact decide_eq_decide.mpr (by rw [Option.some_inj]; exact Int.ofNat_inj)
    rw [this]
    by_cases e : a = some k
    · simp [e]
    · have : ¬ some k = a := fun z => e z.symm
      simp [e, this]
section
variable {P : Program} {w : World} {K : PySem.W.Frag} {mg : Str → Option Value} {base : Heap}
/-! ### _law_wishes -/
def spWishes (K : PySem.W.Frag) : Sp := fun vs H Q _ => ∃ (a : Addr) (ns : List Int) (at_ n m : Nat), vs = [.ref a, vN at_, vN n, vN m] ∧ SqL K H a (ns.map V.int) ∧ at_ ≤ 100 ∧ n ≤ 7 ∧ m ≤ 8 ∧
  ∀ H' p wv ws, Same H H' → H' p = some (.tup wv) → Paired (RowAt H') wv ws → ws.length = n → (∀ r ∈ ws, r.Perm (List.range m)) → Q (.ref p) H'
theorem ok_wishes {f fC fR : Addr} {fd fdC fdR : FuncData} (F : Fun K "_law_wishes" "_law_wishes" sWishes f fd) (T : Bt mg)
    (GC : FnOk P w K mg base CX0 1 fC fdC ["_law_script", "_law_k"] (spCell K)) (mC : mg "_law_cell" = some (.ref fC)) (kC : PySem.W.keepIn K (.ref fC) = true) (bC : Binds K fdC ["_law_script", "_law_k"] [])
    (GR : FnOk P w K mg base CX0 1 fR fdR ["_law_cell_here", "_law_m"] spRow) (mR : mg "_law_row" = some (.ref fR)) (kR : PySem.W.keepIn K (.ref fR) = true) (bR : Binds K fdR ["_law_cell_here", "_law_m"] []) :
    FnOk P w K mg base CX0 2 f fd ["_law_script", "_law_at", "_law_n", "_law_m"] (spWishes K) := by
  refine F.ok scWishes (fun vs H Q E h => ?_) (fun cdv A outer s H vs Q E hr h => ?_)
  · obtain ⟨a, ns, at_, n, m, rfl, _⟩ := h
    rfl
  · obtain ⟨a, ns, at_, n, m, rfl, hS, ha, n7, m8, q⟩ := h
    refine ⟨_, pss_one (ps_ret (pe_tupleOf (by rfl) T.tuple (pe_lc (own := [("_law_hand", 4)]) (g := gName 4) (tt := tYes) (te := tCall spRow [] E0 (tCons (tCall (spCell K) [] E0 (tCons (tVar 0) (tCons (tOp rAddN (tVar 1) (tVar 4)) tNil))) (tCons (tVar 3) tNil)))
        rfl scWishes.nd (pi_range1 (by rfl) T.range (pa_cons (pv 2) pa_nil)) (blkOk_by (own := [("_law_hand", 4)]) (N := ["_law_script", "_law_at", "_law_n", "_law_m", "_law_hand"]) (sc := defScope sWishes) (by decide +kernel))
        (fun _ _ _ _ _ => pg_name (i := 4) scWishes.nd rfl (.inl rfl)) (fun _ _ _ _ _ => pts_nil)
        (fun _ _ _ _ _ => pe_call GR hr (by rfl) mR kR bR .nil pass0 (pa_cons (pe_call GC hr (by rfl) mC kC bC .nil pass0 (pa_cons (pv 0) (pa_cons (pe_op op_addC (pv 1) (pv 4)) pa_nil))) (pa_cons (pv 3) pa_nil)))))), ?_⟩
    refine ⟨_, rfl, n, rfl, by omega, by omega, fun D nD => ?_⟩
    refine lc_range (lo := 0) (n := n) (fun i H' => ∃ vs ws, Same H H' ∧ H' D = some (.lst vs) ∧ Paired (RowAt H') vs ws ∧ ws.length = i ∧ ∀ r ∈ ws, r.Perm (List.range m))
      ⟨[], [], same_upd nD, upd_same, .nil, rfl, fun _ h => nomatch h⟩ ?_ ?_
    · rintro i H1 hi ⟨vs, ws, s1, hD, pw, wl, wp⟩
      have e0 : V.int (0 + (i : Int)) = vN i := by unfold vN; rw [Int.zero_add]
      rw [e0]
      refine ⟨rfl, _, rfl, _, rfl, _, rfl, at_, i, rfl, rfl, a, ns, at_ + i, rfl, s1.seq hS, by omega, fun c => ?_⟩
      refine ⟨_, rfl, c, m, rfl, m8, fun H2 p r s2 np hp pr => ?_⟩
      have hD2 := s2 _ _ hD
      have vl : vs.length ≤ 7 := by rw [paired_length pw]; omega
      refine ⟨vs, hD2, small _ (by omega), ?_⟩
      refine ⟨vs ++ [.ref p], ws ++ [r], same_write nD (s1.trans s2), upd_same, paired_snoc (RowAt.put hD2 ⟨p, rfl, hp⟩) (paired_map pw fun _ _ h => RowAt.put hD2 (RowAt.same s2 h)), by rw [List.length_append, wl]; rfl, fun r' hr' => ?_⟩
      rcases List.mem_append.mp hr' with h | h
      · exact wp r' h
      · rw [List.mem_singleton.mp h]
        exact pr
    · rintro H1 ⟨vs, ws, s1, hD, pw, wl, wp⟩
      refine .inl ⟨D, vs, rfl, .of hD, fun p np => ?_⟩
      have s2 : Same H1 (upd H1 p (.tup vs)) := same_upd np
      exact q _ p vs ws (s1.trans s2) upd_same (paired_map pw fun _ _ => RowAt.same s2) wl wp
/-! ### _law_owns -/
def spOwns : Sp := fun vs H Q _ => ∃ c n m : Nat, vs = [vN c, vN n, vN m] ∧ n ≤ 7 ∧ m ≤ 8 ∧ ∀ H' p (ow : List (Option Nat)), Same H H' → H' p = some (.tup (ow.map vO)) → ow.length = n → OwnsOk m ow → Q (.ref p) H'
theorem ok_owns {f : Addr} {fd : FuncData} (F : Fun K "_law_owns" "_law_owns" sOwns f fd) (T : Bt mg) : FnOk P w K mg base CX0 1 f fd ["_law_cell_here", "_law_n", "_law_m"] spOwns := by
  refine F.ok scOwns (fun vs H Q E h => ?_) (fun cdv A outer s H vs Q E hr h => ?_)
  · obtain ⟨c, n, m, rfl, _⟩ := h
    rfl
  · obtain ⟨c, n, m, rfl, n7, m8, q⟩ := h
    refine ⟨_, pss_cons (ps_set (i := 3) scOwns.nd rfl (.inl rfl) (pe_lst pa_nil))
      (pss_cons (ps_for PassesOwn.never rfl (pi_range1 (by rfl) T.range (pa_cons (pv 1) pa_nil)) (pg_name (i := 4) scOwns.nd rfl (.inl rfl))
        (pss_cons (ps_set (i := 5) scOwns.nd rfl (.inl rfl) (pe_op op_modC (pv 0) (pe_op op_addC (pv 2) pe_int)))
        (pss_cons (ps_set (i := 0) scOwns.nd rfl (.inl rfl) (pe_op op_divC (pv 0) (pe_op op_addC (pv 2) pe_int)))
        (pss_one (ps_if (PW.pt (pw_or (pt_cmpR op_eq (pv 5) (pv 2) (nomark _)) (pw_or1 (pt_cmpR op_in_seq (pv 5) (pv 3) (by rfl)))))
          (pss_one (ps_expr (pe_bm PySem.F.plainAttrs_list PySem.F.slot_list_append PySem.F.type_list_append mt_append (pv 3) (pa_cons pe_non pa_nil))))
          (pss_one (ps_expr (pe_bm PySem.F.plainAttrs_list PySem.F.slot_list_append PySem.F.type_list_append mt_append (pv 3) (pa_cons (pv 5) pa_nil)))))))))
      (pss_one (ps_ret (pe_tupleOf (by rfl) T.tuple (pv 3))))), ?_⟩
    refine ⟨Nat.zero_le _, fun o no => ?_⟩
    refine ⟨_, rfl, n, rfl, by omega, by omega, for_range (lo := 0) (n := n) (fun i σ H' => ∃ (c : Nat) (ow : List (Option Nat)) (y z : Option V), σ = [some (vN c), some (vN n), some (vN m), some (.ref o), y, z] ∧ Same H H' ∧ H' o = some (.lst (ow.map vO)) ∧ ow.length = i ∧ OwnsOk m ow)
      ⟨c, [], none, none, rfl, same_upd no, upd_same, rfl, .nil m⟩ ?_ ?_⟩
    · rintro i σ H1 hi ⟨c, ow, y, z, rfl, s1, ho, ol, ok⟩
      refine ⟨_, rfl, _, rfl, m, 1, rfl, rfl, c, _, rfl, rfl, by omega, fun t et => ?_⟩
      have tl : t < m + 1 := by
        have : (t : Int) < (m + 1 : Nat) := by
          rw [et]
          exact Int.emod_lt_of_pos _ (by omega)
        omega
      refine ⟨_, rfl, _, rfl, m, 1, rfl, rfl, c, m + 1, rfl, rfl, by omega, by omega, ?_⟩
      have hz : (ow.map vO).length ≤ 1000 := by rw [List.length_map]; omega
      have fin0 : ∀ x : Option Nat, OwnsOk m (ow ++ [x]) → ∃ (c' : Nat) (ow' : List (Option Nat)) (y z : Option V), [some (vN (c / (m + 1))), some (vN n), some (vN m), some (.ref o), some (V.int (0 + (i : Int))), some (vN t)] = [some (vN c'), some (vN n), some (vN m), some (.ref o), y, z] ∧
          Same H (upd H1 o (.lst (ow.map vO ++ [vO x]))) ∧ (upd H1 o (.lst (ow.map vO ++ [vO x]))) o = some (.lst (ow'.map vO)) ∧ ow'.length = i + 1 ∧ OwnsOk m ow' := fun x hx => by
        refine ⟨_, ow ++ [x], _, _, rfl, same_write no s1, ?_, by rw [List.length_append, ol]; rfl, hx⟩
        rw [upd_same, List.map_append]
        rfl
      refine ⟨_, rfl, _, rfl, rfl, _, rfl, ite2 (fun c1 => ?_) (fun c1 => ?_)⟩
      · refine iteT ⟨_, rfl, .inl ⟨rfl, _, .of ho⟩, o, _, _, rfl, rfl, ho, small _ hz, fin0 none ok.none⟩
      · have ne : t ≠ m := fun e => c1 (decide_eq_true (by show vN t = vN m; rw [e]))
        refine ⟨_, rfl, _, rfl, o, _, rfl, .inl (.of ho), rfl, flatO _, _, rfl, ?_⟩
        show if inV (vN t) (ow.map vO) = true then _ else _
        rw [inV_O]
        refine ite2 (fun c2 => ?_) (fun c2 => ?_)
        · exact ⟨_, rfl, .inl ⟨rfl, _, .of ho⟩, o, _, _, rfl, rfl, ho, small _ hz, fin0 none ok.none⟩
        · exact ⟨_, rfl, .inl ⟨rfl, _, .of ho⟩, _, rfl, o, _, _, rfl, rfl, ho, small _ hz, fin0 (some t) (ok.some (by omega) fun h => c2 (decide_eq_true h))⟩
    · rintro σ H1 ⟨c, ow, y, z, rfl, s1, ho, ol, ok⟩
      refine ⟨_, rfl, .inl ⟨o, _, rfl, .of ho, fun p np => ?_⟩⟩
      exact q _ p ow (s1.trans (same_upd np)) upd_same ol ok
/-! ### _law_is_dealing -/
def spDeal : Sp := fun vs H Q _ => ∃ (a : Addr) (n m : Nat) (f : List Nat), vs = [.ref a, vN n, vN m] ∧ H a = some (.tup (f.map vN)) ∧ f.length = n ∧ n ≤ 7 ∧ (∀ t ∈ f, t < m) ∧ f.Nodup ∧ Q (.bl true) H
theorem ok_deal {f : Addr} {fd : FuncData} (F : Fun K "_law_is_dealing" "_law_is_dealing" sDeal f fd) (T : Bt mg) : FnOk P w K mg base CX0 1 f fd ["_law_found", "_law_n", "_law_m"] spDeal := by
  refine F.ok scDeal (fun vs H Q E h => ?_) (fun cdv A outer s H vs Q E hr h => ?_)
  · obtain ⟨a, n, m, f, rfl, _⟩ := h
    rfl
  · obtain ⟨a, n, m, f, rfl, ha, fl, n7, ft, nd, q⟩ := h
    refine ⟨_, pss_cons (ps_if (PW.pt (pw_or (pt_not (pt_val (pe_callB call_isi (by rfl) T.isi (by decide +kernel) (pa_cons (pv 0) (pa_cons (pe_bltn (v := .ty "tuple") (by rfl) T.tuple (by decide +kernel) rfl) pa_nil)))))
          (pw_or1 (pt_cmpR op_ne (pe_callB call_len_seq (by rfl) T.len PySem.boot_len (pa_cons (pv 0) pa_nil)) (pv 1) (nomark _))))) (pss_one (ps_ret pe_bl)) pss_nil)
      (pss_cons (ps_for PassesOwn.never rfl (pi_tup (pv 0)) (pg_name (i := 3) scDeal.nd rfl (.inl rfl))
        (pss_one (ps_if (PW.pt (pw_or (pt_not (pt_val (pe_callB call_isi (by rfl) T.isi (by decide +kernel) (pa_cons (pv 3) (pa_cons (pe_bltn (v := .ty "int") (by rfl) T.int (by decide +kernel) rfl) pa_nil)))))
          (pw_or (pt_val (pe_callB call_isi (by rfl) T.isi (by decide +kernel) (pa_cons (pv 3) (pa_cons (pe_bltn (v := .ty "bool") (by rfl) T.bool (by decide +kernel) rfl) pa_nil))))
            (pw_or1 (pt_not (pt_chain op_le op_lt pe_int (pv 3) (pv 2))))))) (pss_one (ps_ret pe_bl)) pss_nil)))
      (pss_one (ps_ret (pe_cmpR op_eq (pe_lenSetT (by rfl) T.len (by rfl) T.set (pv 0)) (pv 1) (nomark _))))), ?_⟩
    refine ⟨_, rfl, _, _, _, _, true, rfl, .ty "tuple", .base (.tup ha), kit_ty (by decide +kernel), true, rfl, iteF ?_⟩
    refine ⟨_, rfl, a, _, rfl, .inr (.of ha), _, rfl, rfl, _, rfl, ?_⟩
    have el : decide (V.int ((f.map vN).length : Nat) = vN n) = true := decide_eq_true (by rw [List.length_map, fl]; rfl)
    rw [el]
    refine iteF ⟨_, rfl, a, rfl, ⟨_, .of ha⟩, for_tup (xs := f.map vN) (fun i σ H' => ∃ y, σ = [some (.ref a), some (vN n), some (vN m), y] ∧ H' = H) ⟨none, rfl, rfl⟩ (fun i σ H' _ ⟨_, _, e⟩ => by rw [e]; exact .of ha) ?_ ?_⟩
    · rintro i x σ H1 hi ⟨y, rfl, rfl⟩
      obtain ⟨t, et, rfl⟩ := at_map hi
      have tm := ft t (List.mem_of_getElem? et)
      refine ⟨_, rfl, _, _, _, _, true, rfl, .ty "int", .base (.int t), kit_ty (by decide +kernel), true, rfl, iteF ?_⟩
      refine ⟨_, rfl, _, _, _, _, false, rfl, .ty "bool", .base (.int t), kit_ty (by decide +kernel), false, rfl, iteF ?_⟩
      refine ⟨_, rfl, 0, t, rfl, rfl, true, ?_, iteT ⟨_, rfl, t, m, rfl, rfl, true, ?_, iteF ⟨_, rfl, rfl⟩⟩⟩
      · show V.bl (decide ((0 : Int) ≤ t)) = V.bl true
        rw [decide_eq_true (by omega)]
      · show V.bl (decide ((t : Int) < m)) = V.bl true
        rw [decide_eq_true (by omega)]
    · rintro σ H1 ⟨y, rfl, rfl⟩
      refine ⟨_, rfl, a, f.map fun k : Nat => (k : Int), rfl, by rw [← mapN]; exact .of ha, ?_, by rw [List.length_map]; omega, _, rfl, rfl, ?_⟩
      · rw [List.Nodup, List.pairwise_map]
        exact nd.imp fun h e => h (Int.ofNat.inj e)
      · have e2 : decide (V.int ((f.map fun k : Nat => (k : Int)).length : Nat) = vN n) = true := decide_eq_true (by rw [List.length_map, fl]; rfl)
        rw [e2]
        exact q
end
end RT
namespace RT
open PySem PySem.Spec PyProof.Rows L2
section
variable {P : Program} {w : World} {K : PySem.W.Frag} {mg : Str → Option Value} {base : Heap}
/-! ### _law_order_by, _law_line -/
def spOrdBy : Sp := fun vs H Q _ => ∃ c n : Nat, vs = [vN c, vN n] ∧ n ≤ 7 ∧ ∀ H' v ord, Same H H' → OrdV H' v n ord → ord.Perm (List.range n) → Q v H'
theorem ok_ordby {f fR : Addr} {fd fdR : FuncData} (F : Fun K "_law_order_by" "_law_order_by" sOrdBy f fd) (T : Bt mg)
    (GR : FnOk P w K mg base CX0 1 fR fdR ["_law_cell_here", "_law_m"] spRow) (mR : mg "_law_row" = some (.ref fR)) (kR : PySem.W.keepIn K (.ref fR) = true) (bR : Binds K fdR ["_law_cell_here", "_law_m"] []) :
    FnOk P w K mg base CX0 2 f fd ["_law_cell_here", "_law_n"] spOrdBy := by
  refine F.ok scOrdBy (fun vs H Q E h => ?_) (fun cdv A outer s H vs Q E hr h => ?_)
  · obtain ⟨c, n, rfl, _⟩ := h
    rfl
  · obtain ⟨c, n, rfl, n7, q⟩ := h
    refine ⟨_, pss_cons (ps_if (pt_cmpR op_eq (pe_op op_modC (pv 0) pe_int) pe_int (nomark _)) (pss_one (ps_ret pe_non)) pss_nil)
      (pss_one (ps_ret (pe_callTy call_list_of (by rfl) T.list PyProof.Rows.boot_list (pa_cons (pe_call GR hr (by rfl) mR kR bR .nil pass0 (pa_cons (pe_op op_divC (pv 0) pe_int) (pa_cons (pv 1) pa_nil))) pa_nil)))), ?_⟩
    refine ⟨_, rfl, _, 3, rfl, rfl, by decide, fun k _ => ⟨rfl, _, rfl, ite2 (fun _ => ?_) (fun _ => ?_)⟩⟩
    · exact q H .non _ (Same.refl H) (.inl ⟨rfl, rfl⟩) (.refl _)
    · refine ⟨_, rfl, c, 3, rfl, rfl, by decide, by decide, _, rfl, c / 3, n, rfl, by omega, fun H1 p r s1 np hp pr => ?_⟩
      refine ⟨p, r.map vN, rfl, .inr hp.sq, fun l nl => ?_⟩
      exact q _ (.ref l) r (s1.trans (same_upd nl)) (.inr ⟨l, rfl, upd_same⟩) pr
def spLine : Sp := fun vs H Q _ => ∃ (o : V) (n : Nat) (ord : List Nat), vs = [o, vN n] ∧ n ≤ 7 ∧ OrdV H o n ord ∧ ∀ H' p, Same H H' → H' p = some (.lst (ord.map vN)) → Q (.ref p) H'
theorem ok_line {f : Addr} {fd : FuncData} (F : Fun K "_law_line" "_law_line" sLine f fd) (T : Bt mg) : FnOk P w K mg base CX0 1 f fd ["_law_order", "_law_n"] spLine := by
  refine F.ok scLine (fun vs H Q E h => ?_) (fun cdv A outer s H vs Q E hr h => ?_)
  · obtain ⟨o, n, ord, rfl, _⟩ := h
    rfl
  · obtain ⟨o, n, ord, rfl, n7, hO, q⟩ := h
    refine ⟨_, pss_cons (ps_if (pt_cmp (pc_isN (pv 0))) (pss_one (ps_ret (pe_listRg rfl (by rfl) T.list (prg_1 (by rfl) T.range (pv 1))))) pss_nil)
      (pss_one (ps_ret (pe_callTy call_list_of (by rfl) T.list PyProof.Rows.boot_list (pa_cons (pv 0) pa_nil)))), ?_⟩
    rcases hO with ⟨rfl, rfl⟩ | ⟨b, rfl, hb⟩
    · refine ⟨_, rfl, true, rfl, iteT ⟨_, rfl, n, rfl, rgOk_nat (by omega), fun p np => ?_⟩⟩
      rw [rgV_nat]
      exact q _ p (same_upd np) upd_same
    · refine ⟨_, rfl, false, rfl, iteF ⟨_, rfl, b, _, rfl, .inl (.of hb), fun p np => ?_⟩⟩
      exact q _ p (same_upd np) upd_same
/-! ### _law_scene -/
def spScene (K : PySem.W.Frag) : Sp := fun vs H Q _ => ∃ (a : Addr) (ns : List Int), vs = [.ref a] ∧ SqL K H a (ns.map V.int) ∧
  ∀ H' p aw ao o wv n m ws ow ord, Same H H' → H' p = some (.tup [.ref aw, .ref ao, o]) → H' aw = some (.tup wv) → Paired (RowAt H') wv ws → H' ao = some (.tup (ow.map vO)) → OrdV H' o n ord → Scene n m ws ow ord → Q (.ref p) H'
theorem ok_scene {f fC fO fW fB : Addr} {fd fdC fdO fdW fdB : FuncData} (F : Fun K "_law_scene" "_law_scene" sScene f fd) (T : Bt mg)
    (GC : FnOk P w K mg base CX0 1 fC fdC ["_law_script", "_law_k"] (spCell K)) (mC : mg "_law_cell" = some (.ref fC)) (kC : PySem.W.keepIn K (.ref fC) = true) (bC : Binds K fdC ["_law_script", "_law_k"] [])
    (GO : FnOk P w K mg base CX0 1 fO fdO ["_law_cell_here", "_law_n", "_law_m"] spOwns) (mO : mg "_law_owns" = some (.ref fO)) (kO : PySem.W.keepIn K (.ref fO) = true) (bO : Binds K fdO ["_law_cell_here", "_law_n", "_law_m"] [])
    (GW : FnOk P w K mg base CX0 2 fW fdW ["_law_script", "_law_at", "_law_n", "_law_m"] (spWishes K)) (mW : mg "_law_wishes" = some (.ref fW)) (kW : PySem.W.keepIn K (.ref fW) = true) (bW : Binds K fdW ["_law_script", "_law_at", "_law_n", "_law_m"] [])
    (GB : FnOk P w K mg base CX0 2 fB fdB ["_law_cell_here", "_law_n"] spOrdBy) (mB : mg "_law_order_by" = some (.ref fB)) (kB : PySem.W.keepIn K (.ref fB) = true) (bB : Binds K fdB ["_law_cell_here", "_law_n"] []) :
    FnOk P w K mg base CX0 3 f fd ["_law_script"] (spScene K) := by
  refine F.ok scScene (fun vs H Q E h => ?_) (fun cdv A outer s H vs Q E hr h => ?_)
  · obtain ⟨a, ns, rfl, _⟩ := h
    rfl
  · obtain ⟨a, ns, rfl, hS, q⟩ := h
    have hr1 := hr.mono (show 1 ≤ 2 by decide)
    refine ⟨_, pss_cons (ps_set (i := 1) scScene.nd rfl (.inl rfl) (pe_call GC hr1 (by rfl) mC kC bC .nil pass0 (pa_cons (pv 0) (pa_cons pe_int pa_nil))))
      (pss_cons (ps_set (i := 2) scScene.nd rfl (.inl rfl) (pe_op op_addC pe_int (pe_op op_modC (pv 1) pe_int)))
      (pss_cons (ps_set (i := 3) scScene.nd rfl (.inl rfl) (pe_op op_addC (pv 2) (pe_op op_modC (pe_op op_divC (pv 1) pe_int) (pe_op op_sub pe_int (pv 2)))))
      (pss_cons (ps_set (i := 4) scScene.nd rfl (.inl rfl) (pe_call GO hr1 (by rfl) mO kO bO .nil pass0 (pa_cons (pe_call GC hr1 (by rfl) mC kC bC .nil pass0 (pa_cons (pv 0) (pa_cons pe_int pa_nil))) (pa_cons (pv 2) (pa_cons (pv 3) pa_nil)))))
      (pss_one (ps_ret (pe_tup (pa_cons (pe_call GW hr (by rfl) mW kW bW .nil pass0 (pa_cons (pv 0) (pa_cons pe_int (pa_cons (pv 2) (pa_cons (pv 3) pa_nil))))) (pa_cons (pv 4)
        (pa_cons (pe_call GB hr (by rfl) mB kB bB .nil pass0 (pa_cons (pe_call GC hr1 (by rfl) mC kC bC .nil pass0 (pa_cons (pv 0) (pa_cons pe_int pa_nil))) (pa_cons (pv 2) pa_nil))) pa_nil))))))))), ?_⟩
    refine ⟨_, rfl, a, ns, 1, rfl, hS, by decide, fun c => ?_⟩
    refine ⟨_, rfl, _, 7, rfl, rfl, by decide, fun k ek => ?_⟩
    have k7 : k < 7 := by
      have : (k : Int) < 7 := by
        rw [ek]
        exact Int.emod_lt_of_pos _ (by decide)
      omega
    refine ⟨1, k, rfl, rfl, ?_⟩
    obtain ⟨n, en⟩ : ∃ n, n = 1 + k := ⟨_, rfl⟩
    rw [← en]
    have n1 : 1 ≤ n := by omega
    have n7 : n ≤ 7 := by omega
    refine ⟨_, rfl, _, rfl, c, 7, rfl, rfl, by decide, by decide, _, rfl, 9, n, rfl, rfl, _, _, rfl, rfl, by omega, fun j ej => ?_⟩
    have jl : (j : Int) < 9 - (n : Int) := by
      rw [ej]
      exact Int.emod_lt_of_pos _ (by omega)
    refine ⟨n, j, rfl, rfl, ?_⟩
    obtain ⟨m, em⟩ : ∃ m, m = n + j := ⟨_, rfl⟩
    rw [← em]
    have nm : n ≤ m := by omega
    have m8 : m ≤ 8 := by omega
    refine ⟨_, rfl, a, ns, 2, rfl, hS, by decide, fun c2 => ?_⟩
    refine ⟨_, rfl, _, rfl, c2, n, m, rfl, n7, m8, fun H1 ao ow s1 hao ol ok => ?_⟩
    refine ⟨_, rfl, _, rfl, _, rfl, a, ns, 4, n, m, rfl, s1.seq hS, by decide, n7, m8, fun H2 aw wv ws s2 haw pw wl wp => ?_⟩
    refine ⟨_, rfl, _, rfl, a, ns, 3, rfl, s2.seq (s1.seq hS), by decide, fun c3 => ?_⟩
    refine ⟨_, rfl, c3, n, rfl, n7, fun H3 o ord s3 hO pm => ?_⟩
    refine ⟨by show 3 ≤ sizeLine; decide, fun p np => ?_⟩
    have s4 : Same H3 (upd H3 p (.tup [.ref aw, .ref ao, o])) := same_upd np
    exact q _ p aw ao o wv n m ws ow ord (s1.trans (s2.trans (s3.trans s4))) upd_same (s4 _ _ (s3 _ _ haw)) (paired_map pw fun _ _ h => RowAt.same s4 (RowAt.same s3 h)) (s4 _ _ (s3 _ _ (s2 _ _ hao))) (hO.same s4)
      ⟨n1, n7, nm, m8, wl, wp, ol, ok.ob, ok.oi, pm⟩
end
end RT
namespace RT
open PySem PySem.Spec PyProof.Rows L2
theorem Left.lenL {n m : Nat} {f L T : List Nat} (l : Left n m f L T) : L.length ≤ n := by
  have := len_le_of_sub l.Ln (l2 := List.range n) fun x hx => List.mem_range.mpr (l.Lm x hx)
  rw [List.length_range] at this
  exact this
theorem row_at {ws : List (List Nat)} {k : Nat} (h : k < ws.length) : ws[k]? = some (row ws k) := by
  unfold row
  rw [List.getD_eq_getElem?_getD, List.getElem?_eq_getElem h]
  rfl
section
variable {P : Program} {w : World} {K : PySem.W.Frag} {mg : Str → Option Value} {base : Heap}
/-! ### _law_made_by_order -/
def spMade (K : PySem.W.Frag) : Sp := fun vs H Q _ => ∃ (aw af : Addr) (wv : List V) (n m : Nat) (ws : List (List Nat)) (ow : List (Option Nat)) (ord f : List Nat), vs = [.ref aw, .ref af] ∧ H aw = some (.tup wv) ∧ Paired (RowAt H) wv ws ∧ H af = some (.tup (f.map vN)) ∧
  Scene n m ws ow ord ∧ Deal n m ws ow ord f ∧ ∀ H', Q (.bl true) H'
theorem ok_made {f fB : Addr} {fd fdB : FuncData} (F : Fun K "_law_made_by_order" "_law_made_by_order" sMade f fd) (T : Bt mg)
    (GB : FnOk P w K mg base CX0 1 fB fdB ["_law_row_here", "_law_left"] (spBest K)) (mB : mg "_law_best" = some (.ref fB)) (kB : PySem.W.keepIn K (.ref fB) = true) (bB : Binds K fdB ["_law_row_here", "_law_left"] []) :
    FnOk P w K mg base CX0 2 f fd ["_law_wishes_here", "_law_found"] (spMade K) := by
  refine F.ok scMade (fun vs H Q E h => ?_) (fun cdv A outer s H vs Q E hr h => ?_)
  · obtain ⟨aw, af, wv, n, m, ws, ow, ord, f, rfl, _⟩ := h
    rfl
  · obtain ⟨aw, af, wv, n, m, ws, ow, ord, fs, rfl, haw, pw, haf, S, dl, q⟩ := h
    refine ⟨_, pss_cons (ps_set (i := 2) scMade.nd rfl (.inl rfl) (pe_listRg rfl (by rfl) T.list (prg_1 (by rfl) T.range (pe_callB call_len_seq (by rfl) T.len PySem.boot_len (pa_cons (pv 1) pa_nil)))))
      (pss_cons (ps_set (i := 3) scMade.nd rfl (.inr rfl) (pe_listRg rfl (by rfl) T.list (prg_1 (by rfl) T.range (pe_callB call_len_seq (by rfl) T.len PySem.boot_len (pa_cons (pe_ix ix_tup (pv 0) pe_int (fun _ _ => rfl)) pa_nil)))))
      (pss_cons (ps_while PassesOwn.never (pt_cmpR op_gt (pe_callB call_len_seq (by rfl) T.len PySem.boot_len (pa_cons (pv 2) pa_nil)) pe_int (nomark _))
        (pss_cons (ps_setLc (i := 4) (own := [("_law_hand", 5)]) (g := gName 5)
            (tt := fun σ H Q => tTest (tOp rEq (tOp (rIxT K) (tVar 1) (tVar 5)) (tCall (spBest K) [] E0 (tCons (tOp (rIxT K) (tVar 0) (tVar 5)) (tCons (tVar 3) tNil)))) σ H Q) (te := tVar 5)
            rfl scMade.nd rfl rfl (sw_true rfl rfl rfl (by decide +kernel)) (pi_list (pv 2))
            (blkOk_by (own := [("_law_hand", 5)]) (N := ["_law_wishes_here", "_law_found", "_law_line_here", "_law_things", "_law_served", "_law_hand"]) (sc := defScope sMade) (by decide +kernel))
            (fun _ _ _ _ _ => pg_name (i := 5) scMade.nd rfl (.inl rfl))
            (fun _ _ _ _ _ => pts_one (pt_cmpR op_eq (pe_ix ix_tup (pv 1) (pv 5) (fun _ _ => rfl)) (pe_call GB hr (by rfl) mB kB bB .nil pass0 (pa_cons (pe_ix ix_tup (pv 0) (pv 5) (fun _ _ => rfl)) (pa_cons (pv 3) pa_nil))) (nomark _)))
            (fun _ _ _ _ _ => pv 5))
        (pss_cons (ps_if (pt_cmpR op_eq (pe_callB call_len_seq (by rfl) T.len PySem.boot_len (pa_cons (pv 4) pa_nil)) pe_int (nomark _)) (pss_one (ps_ret pe_bl)) pss_nil)
        (pss_cons (ps_expr (pe_bm PySem.F.plainAttrs_list PySem.F.slot_list_remove PySem.F.type_list_remove mt_remove (pv 2) (pa_cons (pe_ix ix_list (pv 4) pe_int (fun _ _ => rfl)) pa_nil)))
        (pss_one (ps_expr (pe_bm PySem.F.plainAttrs_list PySem.F.slot_list_remove PySem.F.type_list_remove mt_remove (pv 3) (pa_cons (pe_ix ix_tup (pv 1) (pe_ix ix_list (pv 4) pe_int (fun _ _ => rfl)) (fun _ _ => rfl)) pa_nil))))))))
      (pss_one (ps_ret pe_bl)))), ?_⟩
    have n7 := S.n7
    have m8 := S.m8
    have fl : (fs.map vN).length = n := by rw [List.length_map, dl.len]
    refine ⟨_, rfl, af, _, rfl, .inr (.of haf), n, by rw [fl], rgOk_nat (by omega), fun l nl => ?_⟩
    rw [rgV_nat]
    have s1 : Same H (upd H l (.lst ((List.range n).map vN))) := same_upd nl
    have hl1 : (upd H l (.lst ((List.range n).map vN))) l = some (.lst ((List.range n).map vN)) := upd_same
    revert s1 hl1
    generalize upd H l (.lst ((List.range n).map vN)) = H1
    intro s1 hl1
    obtain ⟨v0, e0, b0, rfl, hb0⟩ := paired_get' pw (row_at (k := 0) (by rw [S.wl]; exact S.n1))
    have rl : ((row ws 0).map vN).length = m := by rw [List.length_map, (S.row_perm S.n1).length_eq, List.length_range]
    refine ⟨_, rfl, aw, wv, 0, .ref b0, rfl, rfl, .of (s1 _ _ haw), atI_nat (j := 0) e0, b0, _, rfl, .inr (hb0.same s1).sq, m, by rw [rl], rgOk_nat (by omega), fun t nt => ?_⟩
    rw [rgV_nat]
    have nlt : l ≠ t := ne_of_none hl1 nt
    have s2 : Same H1 (upd H1 t (.lst ((List.range m).map vN))) := same_upd nt
    have nt0 : H t = none := s1.free nt
    refine while_set ?_
    refine while_by (fun σ H' => ∃ L TT y4 y5, σ = [some (.ref aw), some (.ref af), some (.ref l), some (.ref t), y4, y5] ∧ Same H H' ∧ H' l = some (.lst (L.map vN)) ∧ H' t = some (.lst (TT.map vN)) ∧ Left n m fs L TT) (fun _ H' => mu l H')
      ⟨List.range n, List.range m, none, none, rfl, s1.trans s2, s2 _ _ hl1, upd_same, Left.begin dl⟩ ?_ ?_
    · rintro σ H2 ⟨L, TT, y4, y5, rfl, s3, hl, ht, lf⟩
      refine ⟨_, rfl, l, _, rfl, .inl (.of hl), _, 0, rfl, rfl, _, rfl, ite2 (fun c1 => ?_) (fun c1 => ?_)⟩
      · have hL : L ≠ [] := fun e => by
          have := of_decide_eq_true c1
          rw [e] at this
          exact absurd this (by decide)
        have Ll := lf.lenL
        -- served
        refine ⟨_, rfl, l, rfl, ⟨_, .of hl⟩, fun D nD => ?_⟩
        have nlD : l ≠ D := ne_of_none hl nD
        have ntD : t ≠ D := ne_of_none ht nD
        refine lc_list (K := K) (a := l) (xs := L.map vN) (fun i H' => Same H2 H' ∧ ∃ sv : List Nat, H' D = some (.lst (sv.map vN)) ∧ (∀ x ∈ sv, x ∈ L ∧ ∃ u, fs[x]? = some u ∧ bestLeft (row ws x) TT = some u) ∧
            (∀ x ∈ L.take i, ∀ u, fs[x]? = some u → bestLeft (row ws x) TT = some u → sv ≠ []) ∧ sv.length ≤ i) ⟨same_upd nD, [], upd_same, (fun _ h => nomatch h), (fun x hx => by simp at hx), Nat.zero_le _⟩ (fun i H' _ h => .of (h.1 _ _ hl)) ?_ ?_
        · rintro i x H3 hi ⟨s4, sv, hD, sy, sn, sl⟩
          obtain ⟨k, ek, rfl⟩ := at_map hi
          have kL : k ∈ L := List.mem_of_getElem? ek
          have kn := lf.Lm k kL
          have iL : i < L.length := (List.getElem?_eq_some_iff.mp ek).1
          have ku : fs[k]? = some (fs[k]'(by rw [dl.len]; exact kn)) := List.getElem?_eq_getElem _
          revert ku
          generalize fs[k]'(by rw [dl.len]; exact kn) = u
          intro ku
          obtain ⟨vr, evr, br, rfl, hbr⟩ := paired_get' pw (row_at (k := k) (by rw [S.wl]; exact kn))
          have s24 := s3.trans s4
          refine ⟨rfl, _, rfl, _, rfl, af, _, k, vN u, rfl, rfl, .of (s24 _ _ haf), atI_nat (map_at ku), _, rfl, _, rfl, aw, wv, k, .ref br, rfl, rfl, .of (s24 _ _ haw), atI_nat evr, _, rfl, br, t, row ws k, TT, rfl, (hbr.same s24).sq, .of (s4 _ _ ht), ?_⟩
          refine ⟨by cases bestLeft (row ws k) TT <;> rfl, _, rfl, ite2 (fun c2 => ?_) (fun c2 => ?_)⟩
          · have eb : bestLeft (row ws k) TT = some u := by
              have := of_decide_eq_true c2
              cases e : bestLeft (row ws k) TT with
              | none => rw [e] at this; cases this
              | some b => rw [e] at this; rw [vN_inj this]
            refine ⟨_, rfl, _, hD, small _ (by rw [List.length_map]; omega), same_write nD s4, sv ++ [k], ?_, fun x hx => ?_, fun x _ u _ _ e => ?_, by rw [List.length_append, List.length_singleton]; omega⟩
            · rw [upd_same, List.map_append]
              rfl
            · rcases List.mem_append.mp hx with h | h
              · exact sy x h
              · rw [List.mem_singleton.mp h]
                exact ⟨kL, u, ku, eb⟩
            · exact absurd (List.append_eq_nil_iff.mp e).2 (by simp)
          · refine ⟨s4, sv, hD, sy, fun x hx u' eu eb => ?_, by omega⟩
            rw [take_succ ek] at hx
            rcases List.mem_append.mp hx with h | h
            · exact sn x h u' eu eb
            · rw [List.mem_singleton.mp h] at eu eb
              rw [ku] at eu
              have := Option.some.inj eu
              subst this
              exact absurd (decide_eq_true (by rw [eb]; rfl)) c2
        · rintro H3 ⟨s4, sv, hD, sy, sn, sl⟩
          rw [List.length_map, List.take_length] at sn
          obtain ⟨h0, hh, u0, eu0, eb0⟩ := lf.served dl S hL
          have ne := sn h0 hh u0 eu0 eb0
          obtain ⟨k, sv', rfl⟩ : ∃ k sv', sv = k :: sv' := by
            cases sv with
            | nil => exact absurd rfl ne
            | cons a b => exact ⟨a, b, rfl⟩
          obtain ⟨kL, u, ku, kb⟩ := sy k List.mem_cons_self
          have uT : u ∈ TT := (bestLeft_is kb).inT
          have hl3 := s4 _ _ hl
          have ht3 := s4 _ _ ht
          obtain ⟨j1, f1, g1, d1⟩ := remN kL
          obtain ⟨j2, f2, g2, d2⟩ := remN uT
          refine ⟨_, rfl, D, _, rfl, .inl (.of hD), rfl, _, rfl, ?_⟩
          have el : decide (V.int (((k :: sv').map vN).length : Nat) = V.int 0) = false := decide_eq_false fun e => by
            have := V.int.inj e
            rw [List.length_map, List.length_cons] at this
            omega
          rw [el]
          refine iteF ?_
          have at0 : ((k :: sv').map vN)[0]? = some (vN k) := rfl
          refine ⟨_, rfl, .inl ⟨rfl, _, .of hl3⟩, _, rfl, D, _, 0, vN k, rfl, rfl, .of hD, atI_nat (j := 0) at0, l, _, k, j1, rfl, rfl, by rw [← mapN]; exact hl3, f1, g1, ?_⟩
          rw [d1]
          have hD4 : (upd H3 l (.lst ((L.erase k).map vN))) D = some (.lst ((k :: sv').map vN)) := by rw [upd_ne nlD.symm]; exact hD
          have ht4 : (upd H3 l (.lst ((L.erase k).map vN))) t = some (.lst (TT.map vN)) := by rw [upd_ne nlt.symm]; exact ht3
          have haf4 : (upd H3 l (.lst ((L.erase k).map vN))) af = some (.tup (fs.map vN)) := (tups_lst hl3) _ _ (s4 _ _ (s3 _ _ haf))
          refine ⟨_, rfl, .inl ⟨rfl, _, .of ht4⟩, _, rfl, _, rfl, D, _, 0, vN k, rfl, rfl, .of hD4, atI_nat (j := 0) at0, af, _, k, vN u, rfl, rfl, .of haf4, atI_nat (map_at ku), t, _, u, j2, rfl, rfl, by rw [← mapN]; exact ht4, f2, g2, ?_⟩
          rw [d2]
          have hl5 : (upd (upd H3 l (.lst ((L.erase k).map vN))) t (.lst ((TT.erase u).map vN))) l = some (.lst ((L.erase k).map vN)) := by rw [upd_ne nlt, upd_same]
          refine ⟨⟨L.erase k, TT.erase u, _, _, rfl, same_write nt0 (same_write nl (s3.trans s4)), hl5, upd_same, lf.step dl kL ku⟩, ?_⟩
          show mu l _ < mu l H2
          rw [mu_of hl5, mu_of hl, List.length_erase_of_mem kL]
          have := List.length_pos_of_mem kL
          omega
      · exact q H2
    · rintro σ H Q Q' f ⟨v, e, p, ys, e1, e2, i, j, e3, e4, k, e5, q⟩
      exact ⟨v, e, p, ys, e1, e2, i, j, e3, e4, k, e5, f _ _ q⟩
end
end RT
namespace RT
open PySem PySem.Spec PyProof.Rows L2
section
variable {P : Program} {w : World} {K : PySem.W.Frag} {mg : Str → Option Value} {base : Heap}
def spLaw (K : PySem.W.Frag) : Sp := fun vs H Q _ => ∃ (a : Addr) (ns : List Int), vs = [.ref a] ∧ SqL K H a (ns.map V.int) ∧ ns.length ≤ 63 ∧ ∀ H', Q (.bl true) H'
theorem ok_law {f fS fB fD fL fM : Addr} {fd fdS fdB fdD fdL fdM : FuncData} (F : Fun K "law" "law" sLaw f fd) (T : Bt mg)
    (GS : FnOk P w K mg base CX0 3 fS fdS ["_law_script"] (spScene K)) (mS : mg "_law_scene" = some (.ref fS)) (kS : PySem.W.keepIn K (.ref fS) = true) (bS : Binds K fdS ["_law_script"] [])
    (GB : FnOk P w K mg base CX0 4 fB fdB ["wishes", "owns", "order"] (spBy K)) (mB : mg "by_rings" = some (.ref fB)) (kB : PySem.W.keepIn K (.ref fB) = true) (bB : Binds K fdB ["wishes", "owns", "order"] [])
    (GD : FnOk P w K mg base CX0 1 fD fdD ["_law_found", "_law_n", "_law_m"] spDeal) (mD : mg "_law_is_dealing" = some (.ref fD)) (kD : PySem.W.keepIn K (.ref fD) = true) (bD : Binds K fdD ["_law_found", "_law_n", "_law_m"] [])
    (GL : FnOk P w K mg base CX0 1 fL fdL ["_law_order", "_law_n"] spLine) (mL : mg "_law_line" = some (.ref fL)) (kL : PySem.W.keepIn K (.ref fL) = true) (bL : Binds K fdL ["_law_order", "_law_n"] [])
    (GM : FnOk P w K mg base CX0 2 fM fdM ["_law_wishes_here", "_law_found"] (spMade K)) (mM : mg "_law_made_by_order" = some (.ref fM)) (kM : PySem.W.keepIn K (.ref fM) = true) (bM : Binds K fdM ["_law_wishes_here", "_law_found"] []) :
    FnOk P w K mg base CX0 5 f fd ["_law_script"] (spLaw K) := by
  refine F.ok scLaw (fun vs H Q E h => ?_) (fun cdv A outer s H vs Q E hr h => ?_)
  · obtain ⟨a, ns, rfl, _⟩ := h
    rfl
  · obtain ⟨a, ns, rfl, hS, h63, q⟩ := h
    have hr1 := hr.mono (show 1 ≤ 4 by decide)
    have hr2 := hr.mono (show 2 ≤ 4 by decide)
    have hr3 := hr.mono (show 3 ≤ 4 by decide)
    refine ⟨_, pss_cons (ps_asg (pe_call GS hr3 (by rfl) mS kS bS .nil pass0 (pa_cons (pv 0) pa_nil)) (pg_tup rfl (pgs_cons (pg_name (i := 1) scLaw.nd rfl (.inl rfl)) (pgs_cons (pg_name (i := 2) scLaw.nd rfl (.inl rfl)) (pgs_cons (pg_name (i := 3) scLaw.nd rfl (.inl rfl)) pgs_nil)))))
      (pss_cons (ps_set (i := 4) scLaw.nd rfl (.inl rfl) (pe_callB call_len_seq (by rfl) T.len PySem.boot_len (pa_cons (pv 1) pa_nil)))
      (pss_cons (ps_set (i := 5) scLaw.nd rfl (.inl rfl) (pe_call GB hr (by rfl) mB kB bB .nil pass0 (pa_cons (pv 1) (pa_cons (pv 2) (pa_cons (pv 3) pa_nil)))))
      (pss_cons (ps_if (pt_not (pt_val (pe_call GD hr1 (by rfl) mD kD bD .nil pass0 (pa_cons (pv 5) (pa_cons (pv 4) (pa_cons (pe_callB call_len_seq (by rfl) T.len PySem.boot_len (pa_cons (pe_ix ix_tup (pv 1) pe_int (fun _ _ => rfl)) pa_nil)) pa_nil)))))) (pss_one (ps_ret pe_bl)) pss_nil)
      (pss_cons (ps_for PassesOwn.never rfl (pi_range1 (by rfl) T.range (pa_cons (pv 4) pa_nil)) (pg_name (i := 6) scLaw.nd rfl (.inl rfl))
        (pss_cons (ps_set (i := 7) scLaw.nd rfl (.inl rfl) (pe_ix ix_tup (pv 1) (pv 6) (fun _ _ => rfl)))
        (pss_one (ps_if (PW.pt (pw_and (pt_cmp (pc_notN (pe_ix ix_tup (pv 2) (pv 6) (fun _ _ => rfl))))
          (pw_and1 (pt_cmpR op_gt (pe_tix ⟨rfl, rfl, rfl, rfl⟩ (pv 7) (pe_ix ix_tup (pv 5) (pv 6) (fun _ _ => rfl)))
            (pe_tix ⟨rfl, rfl, rfl, rfl⟩ (pv 7) (pe_ix ix_tup (pv 2) (pv 6) (fun _ _ => rfl))) (nomark _))))) (pss_one (ps_ret pe_bl)) pss_nil))))
      (pss_cons (ps_set (i := 8) scLaw.nd rfl (.inl rfl) (pe_ix ix_list (pe_call GL hr1 (by rfl) mL kL bL .nil pass0 (pa_cons (pv 3) (pa_cons (pv 4) pa_nil))) pe_int (fun _ _ => rfl)))
      (pss_cons (ps_set (i := 9) scLaw.nd rfl (.inl rfl) (pe_ix ix_tup (pe_ix ix_tup (pv 1) (pv 8) (fun _ _ => rfl)) pe_int (fun _ _ => rfl)))
      (pss_cons (ps_if (PW.pt (pw_or (pt_cmpR op_eq (pe_ix ix_tup (pv 2) (pv 8) (fun _ _ => rfl)) (pv 9) (nomark _)) (pw_or1 (pt_cmpR op_notIn_seq (pv 9) (pv 2) (by rfl)))))
          (pss_one (ps_if (pt_cmpR op_ne (pe_ix ix_tup (pv 5) (pv 8) (fun _ _ => rfl)) (pv 9) (nomark _)) (pss_one (ps_ret pe_bl)) pss_nil)) pss_nil)
      (pss_one (ps_ret (pe_call GM hr2 (by rfl) mM kM bM .nil pass0 (pa_cons (pv 1) (pa_cons (pv 5) pa_nil)))))))))))), ?_⟩
    -- the scene
    refine ⟨_, rfl, a, ns, rfl, hS, fun H1 p aw ao o wv n m ws ow ord s1 hp haw pw hao hO S => ?_⟩
    refine ⟨p, _, rfl, .of hp, rfl, .ref aw, [.ref ao, o], rfl, .ref ao, [o], rfl, o, [], rfl, rfl, ?_⟩
    have wl : wv.length = n := (paired_length pw).trans S.wl
    have n1 := S.n1
    have n7 := S.n7
    have nm := S.nm
    have m8 := S.m8
    refine ⟨_, rfl, aw, wv, rfl, .inr (.of haw), ?_⟩
    rw [wl]
    -- found
    refine ⟨_, rfl, _, rfl, _, rfl, aw, ao, o, wv, n, m, ws, ow, ord, rfl, haw, pw, hao, hO, S, fun H2 r fs s2 hr' dl => ?_⟩
    have haw2 := s2 _ _ haw
    have hao2 := s2 _ _ hao
    have pw2 : Paired (RowAt H2) wv ws := paired_map pw fun _ _ => RowAt.same s2
    have hO2 := hO.same s2
    obtain ⟨v0, e0, b0, rfl, hb0⟩ := paired_get' pw2 (row_at (k := 0) (by rw [S.wl]; exact n1))
    have rl : ((row ws 0).map vN).length = m := by rw [List.length_map, (S.row_perm n1).length_eq, List.length_range]
    refine ⟨_, rfl, _, rfl, _, rfl, aw, wv, 0, .ref b0, rfl, rfl, .of haw2, atI_nat (j := 0) e0, b0, _, rfl, .inr hb0.sq, ?_⟩
    rw [rl]
    refine ⟨r, n, m, fs, rfl, hr', dl.len, n7, dl.lt, dl.nd, true, rfl, iteF ?_⟩
    -- nobody below the own
    refine ⟨_, rfl, n, rfl, by omega, by omega, for_range (lo := 0) (n := n) (fun i σ H' => ∃ y6 y7, σ = [some (.ref a), some (.ref aw), some (.ref ao), some o, some (vN n), some (.ref r), y6, y7, none, none] ∧ H' = H2) ⟨none, none, rfl, rfl⟩ ?_ ?_⟩
    · rintro i σ H3 hi ⟨y6, y7, rfl, rfl⟩
      have ee : V.int (0 + (i : Int)) = vN i := by unfold vN; rw [Int.zero_add]
      rw [ee]
      obtain ⟨vr, evr, br, rfl, hbr⟩ := paired_get' pw2 (row_at (k := i) (by rw [S.wl]; exact hi))
      have oi : i < ow.length := by rw [S.ol]; exact hi
      have fi : i < fs.length := by rw [dl.len]; exact hi
      have ft : fs[i]? = some fs[i] := List.getElem?_eq_getElem fi
      have tm : fs[i] < m := dl.lt _ (List.getElem_mem fi)
      refine ⟨_, rfl, _, rfl, aw, wv, i, .ref br, rfl, rfl, .of haw2, atI_nat evr, ?_⟩
      refine ⟨_, rfl, _, rfl, ao, _, i, vO (own ow i), rfl, rfl, .of hao2, atI_nat (own_at oi), _, rfl, ?_⟩
      cases eo : own ow i with
      | none => exact iteF (iteF ⟨_, _, rfl, rfl⟩)
      | some u =>
        have um : u < m := S.ob i u eo
        refine iteT ⟨_, rfl, ⟨br, _, rfl, hbr⟩, _, rfl, _, rfl, r, _, i, vN fs[i], rfl, rfl, .of hr', atI_nat (map_at ft), br, row ws i, fs[i], rfl, rfl, hbr.sq, (S.row_mem hi).mpr tm, ?_⟩
        refine ⟨_, rfl, ⟨br, _, rfl, hbr⟩, _, rfl, _, rfl, ao, _, i, vN u, rfl, rfl, .of hao2, atI_nat (by rw [own_at oi, eo]; rfl), br, row ws i, u, rfl, rfl, hbr.sq, (S.row_mem hi).mpr um, _, _, rfl, rfl, _, rfl, ?_⟩
        have le := dl.ownD i fs[i] u ft eo
        rw [decide_eq_false (by omega)]
        exact iteF ⟨_, _, rfl, rfl⟩
    · rintro σ H3 ⟨y6, y7, rfl, rfl⟩
      -- the first of the order
      have hd : ord ≠ [] := fun e => by
        have := S.op.length_eq
        rw [e, List.length_nil, List.length_range] at this
        omega
      have f0 : ord.headD 0 ∈ ord := headD_mem hd
      have fn : ord.headD 0 < n := List.mem_range.mp (S.op.mem_iff.mp f0)
      have at0 : (ord.map vN)[0]? = some (vN (ord.headD 0)) := by
        cases ord with
        | nil => exact absurd rfl hd
        | cons x y => rfl
      have first := dl.first
      revert f0 fn at0 first
      generalize ord.headD 0 = g
      intro f0 fn at0 first
      refine ⟨_, rfl, _, rfl, o, n, ord, rfl, n7, hO2, fun H4 l s4 hl => ?_⟩
      refine ⟨l, _, 0, vN g, rfl, rfl, .of hl, atI_nat (j := 0) at0, ?_⟩
      obtain ⟨vr, evr, br, rfl, hbr⟩ := paired_get' pw2 (row_at (k := g) (by rw [S.wl]; exact fn))
      have rne : row ws g ≠ [] := fun e => by
        have := (S.row_perm fn).length_eq
        rw [e, List.length_nil, List.length_range] at this
        omega
      have bt0 : ((row ws g).map vN)[0]? = some (vN ((row ws g).headD 0)) := by
        cases e : row ws g with
        | nil => exact absurd e rne
        | cons x y => rfl
      revert first bt0
      generalize (row ws g).headD 0 = b
      intro first bt0
      refine ⟨_, rfl, _, rfl, aw, wv, g, .ref br, rfl, rfl, .of (s4 _ _ haw2), atI_nat evr, br, _, 0, vN b, rfl, rfl, (hbr.same s4).sq, atI_nat (j := 0) bt0, ?_⟩
      have go : g < ow.length := by rw [S.ol]; exact fn
      have gf : g < fs.length := by rw [dl.len]; exact fn
      have fg : fs[g]? = some fs[g] := List.getElem?_eq_getElem gf
      have pw4 : Paired (RowAt H4) wv ws := paired_map pw2 fun _ _ => RowAt.same s4
      -- what is asked where it gets the best
      have yes : (own ow g = some b ∨ ∀ h, own ow h ≠ some b) → decide (vN fs[g] = vN b) = true := fun c => by
        have e := first c
        rw [fg] at e
        rw [Option.some.inj e]
        exact decide_eq_true rfl
      refine ⟨_, rfl, _, rfl, ao, _, g, vO (own ow g), rfl, rfl, .of (s4 _ _ hao2), atI_nat (own_at go), _, rfl, by cases own ow g <;> rfl, _, rfl, ite2 (fun c => ?_) (fun c => ?_)⟩
      · have ob : own ow g = some b := by
          have := of_decide_eq_true c
          cases e : own ow g with
          | none => rw [e] at this; cases this
          | some u => rw [e] at this; rw [vN_inj this]
        refine iteT ⟨_, rfl, _, rfl, r, _, g, vN fs[g], rfl, rfl, .of (s4 _ _ hr'), atI_nat (map_at fg), _, rfl, rfl, _, rfl, ?_⟩
        rw [yes (.inl ob)]
        exact iteF ⟨_, rfl, _, rfl, aw, r, wv, n, m, ws, ow, ord, fs, rfl, s4 _ _ haw2, pw4, s4 _ _ hr', S, dl, q⟩
      · refine ⟨_, rfl, _, rfl, ao, _, rfl, .inr (.of (s4 _ _ hao2)), rfl, flatO _, _, rfl, ?_⟩
        show if (!inV (vN b) (ow.map vO)) = true then _ else _
        rw [inV_O]
        by_cases mem : some b ∈ ow
        · rw [decide_eq_true mem]
          exact iteF ⟨_, rfl, _, rfl, aw, r, wv, n, m, ws, ow, ord, fs, rfl, s4 _ _ haw2, pw4, s4 _ _ hr', S, dl, q⟩
        · rw [decide_eq_false mem]
          refine iteT ⟨_, rfl, _, rfl, r, _, g, vN fs[g], rfl, rfl, .of (s4 _ _ hr'), atI_nat (map_at fg), _, rfl, rfl, _, rfl, ?_⟩
          rw [yes (.inr fun h e => mem (own_mem e))]
          exact iteF ⟨_, rfl, _, rfl, aw, r, wv, n, m, ws, ow, ord, fs, rfl, s4 _ _ haw2, pw4, s4 _ _ hr', S, dl, q⟩
end
end RT
namespace RT
open PySem PySem.Spec PyProof.Rows L2
theorem funD_mk {K : PySem.W.Frag} {x qual : Str} {st : Stmt} {f T : Addr} {oc ocT : Value} {od odT an : Option Addr} {osl slT : Array (Option Value)} {kV doc pm cdv ct : Value} {nT : Nat}
    (l : K.lookup f = some ⟨oc, od, .func (PySem.W.fnOf x qual (defArgs st) (defBody st) (defScope st) (.ref T) kV doc pm an cdv ct), osl⟩) (c : PySem.W.codeIn K cdv qual = true) (k : PySem.W.keepIn K (.ref f) = true)
    (d : K.lookup T = some ⟨ocT, odT, .seq #[.none] nT, slT⟩) : FunD K x qual (defArgs st) (defBody st) (defScope st) [V.non] [] f (PySem.W.fnOf x qual (defArgs st) (defBody st) (defScope st) (.ref T) kV doc pm an cdv ct) :=
  ⟨⟨oc, od, .ref T, kV, doc, pm, an, cdv, ct, osl, rfl, l, c, .inr ⟨by simp, T, _, [Value.none], nT, rfl, d, rfl, .cons rfl .nil⟩, .inl rfl⟩, k⟩
theorem all_mk {l : PySem.W.OpenLaw} {w : World} {K : PySem.W.Frag} {h : Heap} {mg : Str → Option Value} {fa : Addr} (X : K.In h) (G : h.Ns mainGlobals mg) (hfa : mg "law" = some (.ref fa))
    {f1 : Addr} {od1 an1 : Option Addr} {sl1 : Array (Option Value)} {oc1 kV1 dc1 pm1 cd1 ct1 : Value}
    (a1 : PySem.W.nsIn K mainGlobals "is_below" = some (some (.ref f1))) (l1 : K.lookup f1 = some ⟨oc1, od1, .func (PySem.W.fnOf "is_below" "is_below" (defArgs sBelow) (defBody sBelow) (defScope sBelow) .none kV1 dc1 pm1 an1 cd1 ct1), sl1⟩) (c1 : PySem.W.codeIn K cd1 "is_below" = true) (k1 : PySem.W.keepIn K (.ref f1) = true)
    {f2 : Addr} {od2 an2 : Option Addr} {sl2 : Array (Option Value)} {oc2 kV2 dc2 pm2 cd2 ct2 : Value}
    (a2 : PySem.W.nsIn K mainGlobals "things_in" = some (some (.ref f2))) (l2 : K.lookup f2 = some ⟨oc2, od2, .func (PySem.W.fnOf "things_in" "things_in" (defArgs sIn) (defBody sIn) (defScope sIn) .none kV2 dc2 pm2 an2 cd2 ct2), sl2⟩) (c2 : PySem.W.codeIn K cd2 "things_in" = true) (k2 : PySem.W.keepIn K (.ref f2) = true)
    {f3 : Addr} {od3 an3 : Option Addr} {sl3 : Array (Option Value)} {oc3 kV3 dc3 pm3 cd3 ct3 : Value} {T3 : Addr} {ocT3 : Value} {odT3 : Option Addr} {slT3 : Array (Option Value)} {nT3 : Nat}
    (a3 : PySem.W.nsIn K mainGlobals "order_of" = some (some (.ref f3))) (l3 : K.lookup f3 = some ⟨oc3, od3, .func (PySem.W.fnOf "order_of" "order_of" (defArgs sOrder) (defBody sOrder) (defScope sOrder) (.ref T3) kV3 dc3 pm3 an3 cd3 ct3), sl3⟩) (c3 : PySem.W.codeIn K cd3 "order_of" = true) (k3 : PySem.W.keepIn K (.ref f3) = true) (d3 : K.lookup T3 = some ⟨ocT3, odT3, .seq #[.none] nT3, slT3⟩)
    {f4 : Addr} {od4 an4 : Option Addr} {sl4 : Array (Option Value)} {oc4 kV4 dc4 pm4 cd4 ct4 : Value}
    (a4 : PySem.W.nsIn K mainGlobals "best_left" = some (some (.ref f4))) (l4 : K.lookup f4 = some ⟨oc4, od4, .func (PySem.W.fnOf "best_left" "best_left" (defArgs sBest) (defBody sBest) (defScope sBest) .none kV4 dc4 pm4 an4 cd4 ct4), sl4⟩) (c4 : PySem.W.codeIn K cd4 "best_left" = true) (k4 : PySem.W.keepIn K (.ref f4) = true)
    {f5 : Addr} {od5 an5 : Option Addr} {sl5 : Array (Option Value)} {oc5 kV5 dc5 pm5 cd5 ct5 : Value}
    (a5 : PySem.W.nsIn K mainGlobals "next_hands" = some (some (.ref f5))) (l5 : K.lookup f5 = some ⟨oc5, od5, .func (PySem.W.fnOf "next_hands" "next_hands" (defArgs sNext) (defBody sNext) (defScope sNext) .none kV5 dc5 pm5 an5 cd5 ct5), sl5⟩) (c5 : PySem.W.codeIn K cd5 "next_hands" = true) (k5 : PySem.W.keepIn K (.ref f5) = true)
    {f6 : Addr} {od6 an6 : Option Addr} {sl6 : Array (Option Value)} {oc6 kV6 dc6 pm6 cd6 ct6 : Value}
    (a6 : PySem.W.nsIn K mainGlobals "ring_from" = some (some (.ref f6))) (l6 : K.lookup f6 = some ⟨oc6, od6, .func (PySem.W.fnOf "ring_from" "ring_from" (defArgs sRing) (defBody sRing) (defScope sRing) .none kV6 dc6 pm6 an6 cd6 ct6), sl6⟩) (c6 : PySem.W.codeIn K cd6 "ring_from" = true) (k6 : PySem.W.keepIn K (.ref f6) = true)
    {f7 : Addr} {od7 an7 : Option Addr} {sl7 : Array (Option Value)} {oc7 kV7 dc7 pm7 cd7 ct7 : Value}
    (a7 : PySem.W.nsIn K mainGlobals "rings_now" = some (some (.ref f7))) (l7 : K.lookup f7 = some ⟨oc7, od7, .func (PySem.W.fnOf "rings_now" "rings_now" (defArgs sNow) (defBody sNow) (defScope sNow) .none kV7 dc7 pm7 an7 cd7 ct7), sl7⟩) (c7 : PySem.W.codeIn K cd7 "rings_now" = true) (k7 : PySem.W.keepIn K (.ref f7) = true)
    {f8 : Addr} {od8 an8 : Option Addr} {sl8 : Array (Option Value)} {oc8 kV8 dc8 pm8 cd8 ct8 : Value} {T8 : Addr} {ocT8 : Value} {odT8 : Option Addr} {slT8 : Array (Option Value)} {nT8 : Nat}
    (a8 : PySem.W.nsIn K mainGlobals "rounds" = some (some (.ref f8))) (l8 : K.lookup f8 = some ⟨oc8, od8, .func (PySem.W.fnOf "rounds" "rounds" (defArgs sRounds) (defBody sRounds) (defScope sRounds) (.ref T8) kV8 dc8 pm8 an8 cd8 ct8), sl8⟩) (c8 : PySem.W.codeIn K cd8 "rounds" = true) (k8 : PySem.W.keepIn K (.ref f8) = true) (d8 : K.lookup T8 = some ⟨ocT8, odT8, .seq #[.none] nT8, slT8⟩)
    {f9 : Addr} {od9 an9 : Option Addr} {sl9 : Array (Option Value)} {oc9 kV9 dc9 pm9 cd9 ct9 : Value} {T9 : Addr} {ocT9 : Value} {odT9 : Option Addr} {slT9 : Array (Option Value)} {nT9 : Nat}
    (a9 : PySem.W.nsIn K mainGlobals "by_rings" = some (some (.ref f9))) (l9 : K.lookup f9 = some ⟨oc9, od9, .func (PySem.W.fnOf "by_rings" "by_rings" (defArgs sBy) (defBody sBy) (defScope sBy) (.ref T9) kV9 dc9 pm9 an9 cd9 ct9), sl9⟩) (c9 : PySem.W.codeIn K cd9 "by_rings" = true) (k9 : PySem.W.keepIn K (.ref f9) = true) (d9 : K.lookup T9 = some ⟨ocT9, odT9, .seq #[.none] nT9, slT9⟩)
    {f10 : Addr} {od10 an10 : Option Addr} {sl10 : Array (Option Value)} {oc10 kV10 dc10 pm10 cd10 ct10 : Value}
    (a10 : PySem.W.nsIn K mainGlobals "_law_cell" = some (some (.ref f10))) (l10 : K.lookup f10 = some ⟨oc10, od10, .func (PySem.W.fnOf "_law_cell" "_law_cell" (defArgs sCell) (defBody sCell) (defScope sCell) .none kV10 dc10 pm10 an10 cd10 ct10), sl10⟩) (c10 : PySem.W.codeIn K cd10 "_law_cell" = true) (k10 : PySem.W.keepIn K (.ref f10) = true)
    {f11 : Addr} {od11 an11 : Option Addr} {sl11 : Array (Option Value)} {oc11 kV11 dc11 pm11 cd11 ct11 : Value}
    (a11 : PySem.W.nsIn K mainGlobals "_law_row" = some (some (.ref f11))) (l11 : K.lookup f11 = some ⟨oc11, od11, .func (PySem.W.fnOf "_law_row" "_law_row" (defArgs sRow) (defBody sRow) (defScope sRow) .none kV11 dc11 pm11 an11 cd11 ct11), sl11⟩) (c11 : PySem.W.codeIn K cd11 "_law_row" = true) (k11 : PySem.W.keepIn K (.ref f11) = true)
    {f12 : Addr} {od12 an12 : Option Addr} {sl12 : Array (Option Value)} {oc12 kV12 dc12 pm12 cd12 ct12 : Value}
    (a12 : PySem.W.nsIn K mainGlobals "_law_wishes" = some (some (.ref f12))) (l12 : K.lookup f12 = some ⟨oc12, od12, .func (PySem.W.fnOf "_law_wishes" "_law_wishes" (defArgs sWishes) (defBody sWishes) (defScope sWishes) .none kV12 dc12 pm12 an12 cd12 ct12), sl12⟩) (c12 : PySem.W.codeIn K cd12 "_law_wishes" = true) (k12 : PySem.W.keepIn K (.ref f12) = true)
    {f13 : Addr} {od13 an13 : Option Addr} {sl13 : Array (Option Value)} {oc13 kV13 dc13 pm13 cd13 ct13 : Value}
    (a13 : PySem.W.nsIn K mainGlobals "_law_owns" = some (some (.ref f13))) (l13 : K.lookup f13 = some ⟨oc13, od13, .func (PySem.W.fnOf "_law_owns" "_law_owns" (defArgs sOwns) (defBody sOwns) (defScope sOwns) .none kV13 dc13 pm13 an13 cd13 ct13), sl13⟩) (c13 : PySem.W.codeIn K cd13 "_law_owns" = true) (k13 : PySem.W.keepIn K (.ref f13) = true)
    {f14 : Addr} {od14 an14 : Option Addr} {sl14 : Array (Option Value)} {oc14 kV14 dc14 pm14 cd14 ct14 : Value}
    (a14 : PySem.W.nsIn K mainGlobals "_law_best" = some (some (.ref f14))) (l14 : K.lookup f14 = some ⟨oc14, od14, .func (PySem.W.fnOf "_law_best" "_law_best" (defArgs sLBest) (defBody sLBest) (defScope sLBest) .none kV14 dc14 pm14 an14 cd14 ct14), sl14⟩) (c14 : PySem.W.codeIn K cd14 "_law_best" = true) (k14 : PySem.W.keepIn K (.ref f14) = true)
    {f15 : Addr} {od15 an15 : Option Addr} {sl15 : Array (Option Value)} {oc15 kV15 dc15 pm15 cd15 ct15 : Value}
    (a15 : PySem.W.nsIn K mainGlobals "_law_is_dealing" = some (some (.ref f15))) (l15 : K.lookup f15 = some ⟨oc15, od15, .func (PySem.W.fnOf "_law_is_dealing" "_law_is_dealing" (defArgs sDeal) (defBody sDeal) (defScope sDeal) .none kV15 dc15 pm15 an15 cd15 ct15), sl15⟩) (c15 : PySem.W.codeIn K cd15 "_law_is_dealing" = true) (k15 : PySem.W.keepIn K (.ref f15) = true)
    {f16 : Addr} {od16 an16 : Option Addr} {sl16 : Array (Option Value)} {oc16 kV16 dc16 pm16 cd16 ct16 : Value}
    (a16 : PySem.W.nsIn K mainGlobals "_law_order_by" = some (some (.ref f16))) (l16 : K.lookup f16 = some ⟨oc16, od16, .func (PySem.W.fnOf "_law_order_by" "_law_order_by" (defArgs sOrdBy) (defBody sOrdBy) (defScope sOrdBy) .none kV16 dc16 pm16 an16 cd16 ct16), sl16⟩) (c16 : PySem.W.codeIn K cd16 "_law_order_by" = true) (k16 : PySem.W.keepIn K (.ref f16) = true)
    {f17 : Addr} {od17 an17 : Option Addr} {sl17 : Array (Option Value)} {oc17 kV17 dc17 pm17 cd17 ct17 : Value}
    (a17 : PySem.W.nsIn K mainGlobals "_law_line" = some (some (.ref f17))) (l17 : K.lookup f17 = some ⟨oc17, od17, .func (PySem.W.fnOf "_law_line" "_law_line" (defArgs sLine) (defBody sLine) (defScope sLine) .none kV17 dc17 pm17 an17 cd17 ct17), sl17⟩) (c17 : PySem.W.codeIn K cd17 "_law_line" = true) (k17 : PySem.W.keepIn K (.ref f17) = true)
    {f18 : Addr} {od18 an18 : Option Addr} {sl18 : Array (Option Value)} {oc18 kV18 dc18 pm18 cd18 ct18 : Value}
    (a18 : PySem.W.nsIn K mainGlobals "_law_scene" = some (some (.ref f18))) (l18 : K.lookup f18 = some ⟨oc18, od18, .func (PySem.W.fnOf "_law_scene" "_law_scene" (defArgs sScene) (defBody sScene) (defScope sScene) .none kV18 dc18 pm18 an18 cd18 ct18), sl18⟩) (c18 : PySem.W.codeIn K cd18 "_law_scene" = true) (k18 : PySem.W.keepIn K (.ref f18) = true)
    {f19 : Addr} {od19 an19 : Option Addr} {sl19 : Array (Option Value)} {oc19 kV19 dc19 pm19 cd19 ct19 : Value}
    (a19 : PySem.W.nsIn K mainGlobals "_law_made_by_order" = some (some (.ref f19))) (l19 : K.lookup f19 = some ⟨oc19, od19, .func (PySem.W.fnOf "_law_made_by_order" "_law_made_by_order" (defArgs sMade) (defBody sMade) (defScope sMade) .none kV19 dc19 pm19 an19 cd19 ct19), sl19⟩) (c19 : PySem.W.codeIn K cd19 "_law_made_by_order" = true) (k19 : PySem.W.keepIn K (.ref f19) = true)
    {f20 : Addr} {od20 an20 : Option Addr} {sl20 : Array (Option Value)} {oc20 kV20 dc20 pm20 cd20 ct20 : Value}
    (a20 : PySem.W.nsIn K mainGlobals "law" = some (some (.ref f20))) (l20 : K.lookup f20 = some ⟨oc20, od20, .func (PySem.W.fnOf "law" "law" (defArgs sLaw) (defBody sLaw) (defScope sLaw) .none kV20 dc20 pm20 an20 cd20 ct20), sl20⟩) (c20 : PySem.W.codeIn K cd20 "law" = true) (k20 : PySem.W.keepIn K (.ref f20) = true)
    (z1 : PySem.W.nsIn K mainGlobals "isinstance" = some none)
    (z2 : PySem.W.nsIn K mainGlobals "int" = some none)
    (z3 : PySem.W.nsIn K mainGlobals "bool" = some none)
    (z4 : PySem.W.nsIn K mainGlobals "list" = some none)
    (z5 : PySem.W.nsIn K mainGlobals "range" = some none)
    (z6 : PySem.W.nsIn K mainGlobals "len" = some none)
    (z7 : PySem.W.nsIn K mainGlobals "enumerate" = some none)
    (z8 : PySem.W.nsIn K mainGlobals "tuple" = some none)
    (z9 : PySem.W.nsIn K mainGlobals "sorted" = some none)
    (z10 : PySem.W.nsIn K mainGlobals "min" = some none)
    (z11 : PySem.W.nsIn K mainGlobals "set" = some none)
    : ∃ fd : FuncData, (∀ (s : Shared) (v : Value), BindsTo s fd ⟨[v], []⟩ [("_law_script", v)]) ∧ ∀ base : Heap, K.In base → base.Ns mainGlobals mg → FnOk l.prog w K mg base CX0 5 fa fd ["_law_script"] (spLaw K) := by
  have e := hfa.symm.trans (PySem.W.mg_of X G a20)
  cases e
  have T : Bt mg := ⟨PySem.W.mg_none_of X G z1, PySem.W.mg_none_of X G z2, PySem.W.mg_none_of X G z3, PySem.W.mg_none_of X G z4, PySem.W.mg_none_of X G z5, PySem.W.mg_none_of X G z6, PySem.W.mg_none_of X G z7, PySem.W.mg_none_of X G z8, PySem.W.mg_none_of X G z9, PySem.W.mg_none_of X G z10, PySem.W.mg_none_of X G z11⟩
  have F1 := fun_mk (st := sBelow) l1 c1 k1
  have b1 := F1.binds (ps := ["thing", "many"]) fun _ _ _ _ _ _ us hl => match us, hl with | [_, _], _ => rfl
  have F2 := fun_mk (st := sIn) l2 c2 k2
  have b2 := F2.binds (ps := ["wishes"]) fun _ _ _ _ _ _ us hl => match us, hl with | [_], _ => rfl
  have F3 := funD_mk (st := sOrder) l3 c3 k3 d3
  obtain ⟨ds3, v3, b3⟩ := F3.binds1 (ps := ["wishes", "order"]) 2 1 (by simp) rfl fun T kV doc pm an cdv ct us its h1 h2 => match us, its, h1, h2 with
    | [_, _], [_], _, _ => ⟨_, rfl, rfl⟩
  cases v3
  have F4 := fun_mk (st := sBest) l4 c4 k4
  have b4 := F4.binds (ps := ["row", "things"]) fun _ _ _ _ _ _ us hl => match us, hl with | [_, _], _ => rfl
  have F5 := fun_mk (st := sNext) l5 c5 k5
  have b5 := F5.binds (ps := ["owns", "line", "wants"]) fun _ _ _ _ _ _ us hl => match us, hl with | [_, _, _], _ => rfl
  have F6 := fun_mk (st := sRing) l6 c6 k6
  have b6 := F6.binds (ps := ["hand", "wants", "points"]) fun _ _ _ _ _ _ us hl => match us, hl with | [_, _, _], _ => rfl
  have F7 := fun_mk (st := sNow) l7 c7 k7
  have b7 := F7.binds (ps := ["owns", "line", "wants"]) fun _ _ _ _ _ _ us hl => match us, hl with | [_, _, _], _ => rfl
  have F8 := funD_mk (st := sRounds) l8 c8 k8 d8
  obtain ⟨ds8, v8, b8⟩ := F8.binds1 (ps := ["wishes", "owns", "order"]) 3 1 (by simp) rfl fun T kV doc pm an cdv ct us its h1 h2 => match us, its, h1, h2 with
    | [_, _, _], [_], _, _ => ⟨_, rfl, rfl⟩
  cases v8
  have F9 := funD_mk (st := sBy) l9 c9 k9 d9
  obtain ⟨ds9, v9, b9⟩ := F9.binds1 (ps := ["wishes", "owns", "order"]) 3 1 (by simp) rfl fun T kV doc pm an cdv ct us its h1 h2 => match us, its, h1, h2 with
    | [_, _, _], [_], _, _ => ⟨_, rfl, rfl⟩
  cases v9
  have F10 := fun_mk (st := sCell) l10 c10 k10
  have b10 := F10.binds (ps := ["_law_script", "_law_k"]) fun _ _ _ _ _ _ us hl => match us, hl with | [_, _], _ => rfl
  have F11 := fun_mk (st := sRow) l11 c11 k11
  have b11 := F11.binds (ps := ["_law_cell_here", "_law_m"]) fun _ _ _ _ _ _ us hl => match us, hl with | [_, _], _ => rfl
  have F12 := fun_mk (st := sWishes) l12 c12 k12
  have b12 := F12.binds (ps := ["_law_script", "_law_at", "_law_n", "_law_m"]) fun _ _ _ _ _ _ us hl => match us, hl with | [_, _, _, _], _ => rfl
  have F13 := fun_mk (st := sOwns) l13 c13 k13
  have b13 := F13.binds (ps := ["_law_cell_here", "_law_n", "_law_m"]) fun _ _ _ _ _ _ us hl => match us, hl with | [_, _, _], _ => rfl
  have F14 := fun_mk (st := sLBest) l14 c14 k14
  have b14 := F14.binds (ps := ["_law_row_here", "_law_left"]) fun _ _ _ _ _ _ us hl => match us, hl with | [_, _], _ => rfl
  have F15 := fun_mk (st := sDeal) l15 c15 k15
  have b15 := F15.binds (ps := ["_law_found", "_law_n", "_law_m"]) fun _ _ _ _ _ _ us hl => match us, hl with | [_, _, _], _ => rfl
  have F16 := fun_mk (st := sOrdBy) l16 c16 k16
  have b16 := F16.binds (ps := ["_law_cell_here", "_law_n"]) fun _ _ _ _ _ _ us hl => match us, hl with | [_, _], _ => rfl
  have F17 := fun_mk (st := sLine) l17 c17 k17
  have b17 := F17.binds (ps := ["_law_order", "_law_n"]) fun _ _ _ _ _ _ us hl => match us, hl with | [_, _], _ => rfl
  have F18 := fun_mk (st := sScene) l18 c18 k18
  have b18 := F18.binds (ps := ["_law_script"]) fun _ _ _ _ _ _ us hl => match us, hl with | [_], _ => rfl
  have F19 := fun_mk (st := sMade) l19 c19 k19
  have b19 := F19.binds (ps := ["_law_wishes_here", "_law_found"]) fun _ _ _ _ _ _ us hl => match us, hl with | [_, _], _ => rfl
  have F20 := fun_mk (st := sLaw) l20 c20 k20
  exact ⟨_, fun s v => .of_eq rfl, fun base _ _ => by
    have g1 := ok_below (P := l.prog) (w := w) (base := base) F1 T
    have g2 := ok_in (P := l.prog) (w := w) (base := base) F2 T
    have g3 := ok_order (P := l.prog) (w := w) (base := base) F3 T g1 (PySem.W.mg_of X G a1) k1 b1
    have g4 := ok_best (P := l.prog) (w := w) (base := base) (mg := mg) F4
    have g5 := ok_next (P := l.prog) (w := w) (base := base) (mg := mg) F5
    have g6 := ok_ring (P := l.prog) (w := w) (base := base) F6 T
    have g7 := ok_now (P := l.prog) (w := w) (base := base) F7 T g5 (PySem.W.mg_of X G a5) k5 b5 g6 (PySem.W.mg_of X G a6) k6 b6
    have g8 := ok_rounds (P := l.prog) (w := w) (base := base) F8 T g3 (PySem.W.mg_of X G a3) k3 b3 g2 (PySem.W.mg_of X G a2) k2 b2 g4 (PySem.W.mg_of X G a4) k4 b4 g7 (PySem.W.mg_of X G a7) k7 b7
    have g9 := ok_by (P := l.prog) (w := w) (base := base) F9 T g8 (PySem.W.mg_of X G a8) k8 b8
    have g10 := ok_cell (P := l.prog) (w := w) (base := base) F10 T
    have g11 := ok_row (P := l.prog) (w := w) (base := base) (K := K) F11 T
    have g12 := ok_wishes (P := l.prog) (w := w) (base := base) F12 T g10 (PySem.W.mg_of X G a10) k10 b10 g11 (PySem.W.mg_of X G a11) k11 b11
    have g13 := ok_owns (P := l.prog) (w := w) (base := base) F13 T
    have g14 := ok_lbest (P := l.prog) (w := w) (base := base) (mg := mg) F14
    have g15 := ok_deal (P := l.prog) (w := w) (base := base) F15 T
    have g16 := ok_ordby (P := l.prog) (w := w) (base := base) F16 T g11 (PySem.W.mg_of X G a11) k11 b11
    have g17 := ok_line (P := l.prog) (w := w) (base := base) F17 T
    have g18 := ok_scene (P := l.prog) (w := w) (base := base) F18 T g10 (PySem.W.mg_of X G a10) k10 b10 g13 (PySem.W.mg_of X G a13) k13 b13 g12 (PySem.W.mg_of X G a12) k12 b12 g16 (PySem.W.mg_of X G a16) k16 b16
    have g19 := ok_made (P := l.prog) (w := w) (base := base) F19 T g14 (PySem.W.mg_of X G a14) k14 b14
    exact ok_law F20 T g18 (PySem.W.mg_of X G a18) k18 b18 g9 (PySem.W.mg_of X G a9) k9 b9 g15 (PySem.W.mg_of X G a15) k15 b15 g17 (PySem.W.mg_of X G a17) k17 b17 g19 (PySem.W.mg_of X G a19) k19 b19⟩
end RT
open PySem PySem.W PyProof.Rows
set_option maxHeartbeats 0 in
theorem PySem.Challenge.cw_ringtrade_k12_whole_nobody_below_the_own_holds : PySem.Challenge.rw_ringtrade_k12_whole_nobody_below_the_own.Holds := by
  w_on; o_law; k_head; (case hw => w_witness2)
  k_fill
  refine L2.walk_of (l := PySem.Challenge.rw_ringtrade_k12_whole_nobody_below_the_own) (n := 63) (k := 5) (x := "_law_script") (CX := fun _ => L2.CX0) (sp := fun w => RT.spLaw _) rfl (by decide) rfl ⟨rfl, by decide, by decide⟩ (fun w h Y => PySem.W.kIn_of Y) ?F (fun _ _ a ns hl _ hS => ⟨a, ns, rfl, hS, hl, fun _ => rfl⟩) (fun _ _ _ _ _ h => h)
  case F =>
    intro w mg fa h KX G hmg
    refine' RT.all_mk KX G hmg ?a1 ?l1 ?c1 ?k1 ?a2 ?l2 ?c2 ?k2 ?a3 ?l3 ?c3 ?k3 ?d3 ?a4 ?l4 ?c4 ?k4 ?a5 ?l5 ?c5 ?k5 ?a6 ?l6 ?c6 ?k6 ?a7 ?l7 ?c7 ?k7 ?a8 ?l8 ?c8 ?k8 ?d8 ?a9 ?l9 ?c9 ?k9 ?d9 ?a10 ?l10 ?c10 ?k10 ?a11 ?l11 ?c11 ?k11 ?a12 ?l12 ?c12 ?k12 ?a13 ?l13 ?c13 ?k13 ?a14 ?l14 ?c14 ?k14 ?a15 ?l15 ?c15 ?k15 ?a16 ?l16 ?c16 ?k16 ?a17 ?l17 ?c17 ?k17 ?a18 ?l18 ?c18 ?k18 ?a19 ?l19 ?c19 ?k19 ?a20 ?l20 ?c20 ?k20 ?z1 ?z2 ?z3 ?z4 ?z5 ?z6 ?z7 ?z8 ?z9 ?z10 ?z11
    (case a1 => k_is)
    (case l1 => k_is)
    (case c1 => k_is)
    (case k1 => k_is)
    (case a2 => k_is)
    (case l2 => k_is)
    (case c2 => k_is)
    (case k2 => k_is)
    (case a3 => k_is)
    (case l3 => k_is)
    (case c3 => k_is)
    (case k3 => k_is)
    (case d3 => k_is)
    (case a4 => k_is)
    (case l4 => k_is)
    (case c4 => k_is)
    (case k4 => k_is)
    (case a5 => k_is)
    (case l5 => k_is)
    (case c5 => k_is)
    (case k5 => k_is)
    (case a6 => k_is)
    (case l6 => k_is)
    (case c6 => k_is)
    (case k6 => k_is)
    (case a7 => k_is)
    (case l7 => k_is)
    (case c7 => k_is)
    (case k7 => k_is)
    (case a8 => k_is)
    (case l8 => k_is)
    (case c8 => k_is)
    (case k8 => k_is)
    (case d8 => k_is)
    (case a9 => k_is)
    (case l9 => k_is)
    (case c9 => k_is)
    (case k9 => k_is)
    (case d9 => k_is)
    (case a10 => k_is)
    (case l10 => k_is)
    (case c10 => k_is)
    (case k10 => k_is)
    (case a11 => k_is)
    (case l11 => k_is)
    (case c11 => k_is)
    (case k11 => k_is)
    (case a12 => k_is)
    (case l12 => k_is)
    (case c12 => k_is)
    (case k12 => k_is)
    (case a13 => k_is)
    (case l13 => k_is)
    (case c13 => k_is)
    (case k13 => k_is)
    (case a14 => k_is)
    (case l14 => k_is)
    (case c14 => k_is)
    (case k14 => k_is)
    (case a15 => k_is)
    (case l15 => k_is)
    (case c15 => k_is)
    (case k15 => k_is)
    (case a16 => k_is)
    (case l16 => k_is)
    (case c16 => k_is)
    (case k16 => k_is)
    (case a17 => k_is)
    (case l17 => k_is)
    (case c17 => k_is)
    (case k17 => k_is)
    (case a18 => k_is)
    (case l18 => k_is)
    (case c18 => k_is)
    (case k18 => k_is)
    (case a19 => k_is)
    (case l19 => k_is)
    (case c19 => k_is)
    (case k19 => k_is)
    (case a20 => k_is)
    (case l20 => k_is)
    (case c20 => k_is)
    (case k20 => k_is)
    (case z1 => k_is)
    (case z2 => k_is)
    (case z3 => k_is)
    (case z4 => k_is)
    (case z5 => k_is)
    (case z6 => k_is)
    (case z7 => k_is)
    (case z8 => k_is)
    (case z9 => k_is)
    (case z10 => k_is)
    (case z11 => k_is)
