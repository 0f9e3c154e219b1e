import PyProof.Rows.All
import Wide.All
import OpenK.AllK
import Wide.FinOn
import KE.GoesMore
import HandS.ForMost
import HandS.TupMul
import HandS.TupAny
import HandS.IsInst
import HandS.Conv
import HandS.RevRange
import HandS.Zip
import HandS.Wide
import HandS.TupSets
import PySem.Challenge.RW_purseahead_k15_whole_long_runs_and_wide
set_option Elab.async false
set_option linter.all false
set_option maxRecDepth 100000
set_option maxHeartbeats 4000000
namespace K15
/-! walks -/
abbrev Edge := Nat × Nat × Int

inductive Wk (E : List Edge) : Nat → List Nat → Nat → Prop
  | nil (u : Nat) : Wk E u [] u
  | cons {u h v k : Nat} {g : Int} {ks : List Nat} (e : E[k]? = some (u, h, g)) (w : Wk E h ks v) : Wk E u (k :: ks) v

def et (E : List Edge) (k : Nat) : Nat := match E[k]? with | some e => e.1 | none => 0
def eh (E : List Edge) (k : Nat) : Nat := match E[k]? with | some e => e.2.1 | none => 0
def eg (E : List Edge) (k : Nat) : Int := match E[k]? with | some e => e.2.2 | none => 0
def gn (E : List Edge) (ks : List Nat) : Int := (ks.map (eg E)).sum

section
variable {E : List Edge}
theorem et_of {k u h : Nat} {g : Int} (e : E[k]? = some (u, h, g)) : et E k = u := by unfold et; rw [e]
theorem eh_of {k u h : Nat} {g : Int} (e : E[k]? = some (u, h, g)) : eh E k = h := by unfold eh; rw [e]
theorem eg_of {k u h : Nat} {g : Int} (e : E[k]? = some (u, h, g)) : eg E k = g := by unfold eg; rw [e]
theorem gn_nil : gn E [] = 0 := rfl
theorem gn_cons (k : Nat) (ks : List Nat) : gn E (k :: ks) = eg E k + gn E ks := by
  unfold gn
  rw [List.map_cons, List.sum_cons]
theorem gn_append (a b : List Nat) : gn E (a ++ b) = gn E a + gn E b := by
  induction a with
  | nil => rw [List.nil_append, gn_nil, Int.zero_add]
  | cons k a ih => rw [List.cons_append, gn_cons, gn_cons, ih, Int.add_assoc]
theorem gn_one (k : Nat) : gn E [k] = eg E k := by rw [gn_cons, gn_nil, Int.add_zero]
theorem Wk.append {u v w : Nat} {a b : List Nat} (h : Wk E u a v) (h2 : Wk E v b w) : Wk E u (a ++ b) w := by
  induction h with
  | nil u => exact h2
  | cons e _ ih => exact .cons e (ih h2)
theorem Wk.one {u h k : Nat} {g : Int} (e : E[k]? = some (u, h, g)) : Wk E u [k] h := .cons e (.nil h)
theorem Wk.snoc {u v h k : Nat} {g : Int} {a : List Nat} (w : Wk E u a v) (e : E[k]? = some (v, h, g)) : Wk E u (a ++ [k]) h := w.append (.one e)
theorem Wk.split {u w : Nat} : ∀ {a b : List Nat}, Wk E u (a ++ b) w → ∃ v, Wk E u a v ∧ Wk E v b w := by
  intro a
  induction a generalizing u with
  | nil => intro b h; exact ⟨u, .nil u, h⟩
  | cons k a ih =>
    intro b h
    cases h with
    | cons e h =>
      obtain ⟨v, h1, h2⟩ := ih h
      exact ⟨v, .cons e h1, h2⟩
theorem Wk.det {u v w : Nat} {a : List Nat} (h : Wk E u a v) (h2 : Wk E u a w) : v = w := by
  induction h with
  | nil u => cases h2; rfl
  | cons e _ ih =>
    cases h2 with
    | cons e' h' =>
      rw [e] at e'
      cases e'
      exact ih h'
/-- the places -/
def vs (E : List Edge) (u : Nat) : List Nat → List Nat
  | [] => [u]
  | k :: ks => u :: vs E (eh E k) ks
theorem vs_length (u : Nat) (ks : List Nat) : (vs E u ks).length = ks.length + 1 := by
  induction ks generalizing u with
  | nil => rfl
  | cons k ks ih => show (vs E (eh E k) ks).length + 1 = _; rw [ih, List.length_cons]
theorem Wk.tails {u v : Nat} {ks : List Nat} (h : Wk E u ks v) : vs E u ks = ks.map (et E) ++ [v] := by
  induction h with
  | nil u => rfl
  | cons e _ ih =>
    show _ :: vs E (eh E _) _ = _
    rw [eh_of e, ih, List.map_cons, et_of e, List.cons_append]
theorem Wk.lt {n u v : Nat} {ks : List Nat} (hE : ∀ e ∈ E, e.1 < n ∧ e.2.1 < n) (hu : u < n) (h : Wk E u ks v) : v < n := by
  induction h with
  | nil u => exact hu
  | cons e _ ih => exact ih (hE _ (List.mem_of_getElem? e)).2
theorem Wk.vs_lt {n u v : Nat} {ks : List Nat} (hE : ∀ e ∈ E, e.1 < n ∧ e.2.1 < n) (hu : u < n) (h : Wk E u ks v) : ∀ x ∈ vs E u ks, x < n := by
  induction h with
  | nil u => intro x hx; rw [List.mem_singleton.mp hx]; exact hu
  | cons e _ ih =>
    intro x hx
    rcases List.mem_cons.mp hx with rfl | hx
    · exact hu
    · rw [eh_of e] at hx
      exact ih (hE _ (List.mem_of_getElem? e)).2 x hx
/-- a walk cut at one of its places -/
theorem Wk.cut {u w x : Nat} {ks q : List Nat} : ∀ {p : List Nat}, Wk E u ks w → vs E u ks = p ++ x :: q → ∃ a b, ks = a ++ b ∧ a.length = p.length ∧ Wk E u a x ∧ Wk E x b w ∧ vs E x b = x :: q := by
  intro p
  induction p generalizing u ks with
  | nil =>
    intro h e
    refine ⟨[], ks, rfl, rfl, ?_⟩
    cases h with
    | nil =>
      have e1 := (List.cons.inj e).1
      subst e1
      exact ⟨.nil _, .nil _, e⟩
    | cons e2 h =>
      have e1 := (List.cons.inj e).1
      subst e1
      exact ⟨.nil _, .cons e2 h, e⟩
  | cons y p ih =>
    intro h e
    cases h with
    | nil u =>
      have e1 := (List.cons.inj e).2
      cases p <;> cases e1
    | cons e2 h =>
      have e1 := (List.cons.inj e).2
      rw [eh_of e2] at e1
      obtain ⟨a, b, rfl, hl, h1, h2, h3⟩ := ih h e1
      exact ⟨_ :: a, b, rfl, by rw [List.length_cons, List.length_cons, hl], .cons e2 h1, h2, h3⟩
end
/-! lists without repeats -/
theorem not_nodup {l : List Nat} (h : ¬ l.Nodup) : ∃ x p q r, l = p ++ x :: (q ++ x :: r) := by
  induction l with
  | nil => exact absurd List.nodup_nil h
  | cons a l ih =>
    by_cases ha : a ∈ l
    · obtain ⟨q, r, e⟩ := List.append_of_mem ha
      exact ⟨a, [], q, r, by rw [e]; rfl⟩
    · by_cases hl : l.Nodup
      · exact absurd (List.nodup_cons.mpr ⟨ha, hl⟩) h
      · obtain ⟨x, p, q, r, e⟩ := ih hl
        exact ⟨x, a :: p, q, r, by rw [e]; rfl⟩
theorem nodup_le : ∀ (d lo : Nat) {l : List Nat}, l.Nodup → (∀ x ∈ l, lo ≤ x ∧ x < lo + d) → l.length ≤ d := by
  intro d lo
  induction d with
  | zero =>
    intro l _ h
    cases l with
    | nil => exact Nat.le_refl _
    | cons a l => have := h a List.mem_cons_self; omega
  | succ d ih =>
    intro l hn h
    by_cases hm : lo + d ∈ l
    · have h1 := List.length_erase_of_mem hm
      have h2 := ih (l := l.erase (lo + d)) (hn.erase _) (fun x hx => by
        have h3 := (List.Nodup.mem_erase_iff hn).mp hx
        have h4 := h x h3.2
        have h5 := h3.1
        omega)
      have h6 := List.length_pos_of_mem hm
      omega
    · have := ih hn (fun x hx => by
        have h4 := h x hx
        have h5 : x ≠ lo + d := fun e => hm (e ▸ hx)
        omega)
      omega
section
variable {E : List Edge} {n : Nat}
/-- a walk that passes a place twice: a ring can be taken out -/
theorem Wk.loop {u w : Nat} {ks : List Nat} (h : Wk E u ks w) (hd : ¬ (vs E u ks).Nodup) : ∃ a b c x, ks = a ++ b ++ c ∧ b ≠ [] ∧ Wk E u a x ∧ Wk E x b x ∧ Wk E x c w := by
  obtain ⟨x, p, q, r, e⟩ := not_nodup hd
  obtain ⟨a, b', rfl, hl, h1, h2, h3⟩ := h.cut e
  have e2 : vs E x b' = (x :: q) ++ x :: r := h3
  obtain ⟨b, c, rfl, hl2, h4, h5, _⟩ := h2.cut e2
  refine ⟨a, b, c, x, by rw [List.append_assoc], ?_, h1, h4, h5⟩
  rintro rfl
  cases hl2
/-- a ring that passes a tail twice: two shorter rings -/
theorem Wk.two {u : Nat} {ks : List Nat} (h : Wk E u ks u) (hd : ¬ (ks.map (et E)).Nodup) : ∃ a b c x, ks = a ++ b ++ c ∧ b ≠ [] ∧ c ≠ [] ∧ Wk E x b x ∧ Wk E u (a ++ c) u := by
  obtain ⟨x, p, q, r, e⟩ := not_nodup hd
  have e1 := h.tails
  rw [e] at e1
  have e1' : vs E u ks = p ++ x :: (q ++ x :: (r ++ [u])) := by rw [e1]; simp
  obtain ⟨a, b', rfl, hl, h1, h2, h3⟩ := h.cut e1'
  have e2 : vs E x b' = (x :: q) ++ x :: (r ++ [u]) := h3
  obtain ⟨b, c, rfl, hl2, h4, h5, h6⟩ := h2.cut e2
  refine ⟨a, b, c, x, by rw [List.append_assoc], ?_, ?_, h4, h1.append h5⟩
  · rintro rfl
    cases hl2
  · rintro rfl
    have := congrArg List.length h6
    simp [vs] at this
/-- the least place of a ring, and the ring from it on -/
theorem min_mem : ∀ {l : List Nat}, l ≠ [] → ∃ m ∈ l, ∀ x ∈ l, m ≤ x
  | [a], _ => ⟨a, List.mem_singleton.mpr rfl, fun x hx => by rw [List.mem_singleton.mp hx]; exact Nat.le_refl _⟩
  | a :: b :: l, _ => by
    obtain ⟨m, hm, hl⟩ := min_mem (l := b :: l) (by simp)
    by_cases h : a ≤ m
    · refine ⟨a, List.mem_cons_self, fun x hx => ?_⟩
      rcases List.mem_cons.mp hx with rfl | hx
      · exact Nat.le_refl _
      · exact Nat.le_trans h (hl x hx)
    · refine ⟨m, List.mem_cons_of_mem _ hm, fun x hx => ?_⟩
      rcases List.mem_cons.mp hx with rfl | hx
      · omega
      · exact hl x hx
theorem Wk.turn {u : Nat} {ks : List Nat} (h : Wk E u ks u) (hk : ks ≠ []) : ∃ a b s, ks = a ++ b ∧ Wk E s (b ++ a) s ∧ ∀ x ∈ ks.map (et E), s ≤ x := by
  have hne : ks.map (et E) ≠ [] := by simpa using hk
  obtain ⟨s, hs, hl⟩ := min_mem hne
  obtain ⟨p, q, e⟩ := List.append_of_mem hs
  have e1 : vs E u ks = p ++ s :: (q ++ [u]) := by rw [h.tails, e]; simp
  obtain ⟨a, b, rfl, _, h1, h2, _⟩ := h.cut e1
  exact ⟨a, b, s, rfl, h2.append h1, hl⟩
/-- no ring gains: sense times its gain is never above 0 -/
def NoPos (E : List Edge) (sense : Int) (L : Nat) : Prop := ∀ u ks, Wk E u ks u → ks.length < L → sense * gn E ks ≤ 0
theorem noPos_of {sense : Int} {L : Nat} (hE : ∀ e ∈ E, e.1 < n ∧ e.2.1 < n)
    (h : ∀ s ks, ks.length < L → ks ≠ [] → s + ks.length ≤ n → Wk E s ks s → (∀ x ∈ ks.map (et E), s ≤ x) → sense * gn E ks ≤ 0) : NoPos E sense L := by
  suffices H : ∀ m u ks, ks.length = m → Wk E u ks u → ks.length < L → sense * gn E ks ≤ 0 from fun u ks w hl => H _ u ks rfl w hl
  intro m
  induction m using Nat.strongRecOn with
  | _ m ih =>
    intro u ks hm w hl
    cases hks : ks with
    | nil => rw [gn_nil]; simp
    | cons k0 ks0 =>
      have hk : ks ≠ [] := by rw [hks]; simp
      rw [← hks]
      by_cases hd : (ks.map (et E)).Nodup
      · obtain ⟨a, b, s, rfl, w2, hs⟩ := w.turn hk
        have hp : (b ++ a).Perm (a ++ b) := List.perm_append_comm
        have hlen : (b ++ a).length = (a ++ b).length := hp.length_eq
        have hg : gn E (b ++ a) = gn E (a ++ b) := by rw [gn_append, gn_append, Int.add_comm]
        have hmem : ∀ x ∈ (b ++ a).map (et E), s ≤ x := fun x hx => hs x ((hp.map (et E)).mem_iff.mp hx)
        rw [← hg]
        refine h s (b ++ a) (by rw [hlen]; exact hl) (by intro e; rw [e] at hlen; exact hk (List.length_eq_zero_iff.mp hlen.symm)) ?_ w2 hmem
        have hnd : ((b ++ a).map (et E)).Nodup := (hp.map (et E)).nodup_iff.mpr hd
        have hsn : s < n := by
          cases hba : (b ++ a) with
          | nil => rw [hba] at hlen; exact absurd (List.length_eq_zero_iff.mp hlen.symm) hk
          | cons k r =>
            rw [hba] at w2
            cases w2 with
            | cons e _ => exact (hE _ (List.mem_of_getElem? e)).1
        have hlt : ∀ x ∈ (b ++ a).map (et E), x < n := fun x hx => by
          refine w2.vs_lt hE hsn x ?_
          rw [w2.tails]
          exact List.mem_append_left _ hx
        have h5 := nodup_le (n - s) s hnd (fun x hx => ⟨hmem x hx, by have := hlt x hx; omega⟩)
        rw [List.length_map] at h5
        omega
      · obtain ⟨a, b, c, x, e, hb, hc, w1, w2⟩ := w.two hd
        have lb : 0 < b.length := List.length_pos_iff.mpr hb
        have lc : 0 < c.length := List.length_pos_iff.mpr hc
        have le : ks.length = a.length + b.length + c.length := by rw [e]; simp [Nat.add_assoc]
        have g1 := ih b.length (by omega) x b rfl w1 (by omega)
        have g2 := ih (a ++ c).length (by rw [List.length_append]; omega) u (a ++ c) rfl w2 (by rw [List.length_append]; omega)
        have eg : gn E ks = gn E b + gn E (a ++ c) := by
          rw [e, gn_append, gn_append, gn_append]
          omega
        rw [eg, Int.mul_add]
        omega
/-- a shortest drifting ring is simple -/
theorem simple_of {sense : Int} {u : Nat} {ks : List Nat} (w : Wk E u ks u) (h : NoPos E sense ks.length) (hp : 0 < sense * gn E ks) : (ks.map (et E)).Nodup := by
  refine Classical.byContradiction fun hd => ?_
  obtain ⟨a, b, c, x, e, hb, hc, w1, w2⟩ := w.two hd
  have lb : 0 < b.length := List.length_pos_iff.mpr hb
  have lc : 0 < c.length := List.length_pos_iff.mpr hc
  have le : ks.length = a.length + b.length + c.length := by rw [e]; simp [Nat.add_assoc]
  have g1 := h x b w1 (by omega)
  have g2 := h u (a ++ c) w2 (by rw [List.length_append]; omega)
  have eg : gn E ks = gn E b + gn E (a ++ c) := by
    rw [e, gn_append, gn_append, gn_append]
    omega
  rw [eg, Int.mul_add] at hp
  omega
/-- every walk can be made short, its worth not less -/
theorem Wk.shorten {sense : Int} (hE : ∀ e ∈ E, e.1 < n ∧ e.2.1 < n) (hN : ∀ u ks, Wk E u ks u → sense * gn E ks ≤ 0) {u v : Nat} {ks : List Nat} (hu : u < n) (w : Wk E u ks v) :
    ∃ ks', Wk E u ks' v ∧ ks'.length < n ∧ sense * gn E ks ≤ sense * gn E ks' := by
  suffices H : ∀ m ks, ks.length = m → Wk E u ks v → ∃ ks', Wk E u ks' v ∧ ks'.length < n ∧ sense * gn E ks ≤ sense * gn E ks' from H _ ks rfl w
  intro m
  induction m using Nat.strongRecOn with
  | _ m ih =>
    intro ks hm w
    by_cases hl : ks.length < n
    · exact ⟨ks, w, hl, Int.le_refl _⟩
    · have hd : ¬ (vs E u ks).Nodup := fun hd => by
        have h1 := nodup_le n 0 hd (fun x hx => ⟨Nat.zero_le _, by have := w.vs_lt hE hu x hx; omega⟩)
        rw [vs_length] at h1
        omega
      obtain ⟨a, b, c, x, e, hb, w1, w2, w3⟩ := w.loop hd
      have lb : 0 < b.length := List.length_pos_iff.mpr hb
      have le : ks.length = a.length + b.length + c.length := by rw [e]; simp [Nat.add_assoc]
      obtain ⟨ks', w', hl', hg'⟩ := ih (a ++ c).length (by rw [List.length_append]; omega) (a ++ c) rfl (w1.append w3)
      refine ⟨ks', w', hl', ?_⟩
      have g2 := hN x b w2
      have eg : gn E ks = gn E b + gn E (a ++ c) := by
        rw [e, gn_append, gn_append, gn_append]
        omega
      rw [eg, Int.mul_add]
      omega
/-- a walk of the least number of arrows between two places: short -/
theorem Wk.short (hE : ∀ e ∈ E, e.1 < n ∧ e.2.1 < n) {u v : Nat} {ks : List Nat} (hu : u < n) (w : Wk E u ks v) : ∃ ks', Wk E u ks' v ∧ ks'.length < n := by
  obtain ⟨ks', w', hl, _⟩ := w.shorten (sense := 0) hE (fun _ _ _ => by rw [Int.zero_mul]; exact Int.le_refl _) hu
  exact ⟨ks', w', hl⟩
end
end K15
namespace K15
/-! rows of best worths -/
def relax (prev row : List (Option Int)) (src dst : Nat) (g : Int) : List (Option Int) :=
  match prev.getD src none with
  | none => row
  | some x => match row.getD dst none with
    | none => row.set dst (some (x + g))
    | some y => if y < x + g then row.set dst (some (x + g)) else row
def restStep (sense : Int) (low : Nat) (prev row : List (Option Int)) (e : Edge) : List (Option Int) := if low ≤ e.1 then relax prev row e.2.1 e.1 (sense * e.2.2) else row
def leadStep (sense : Int) (prev row : List (Option Int)) (e : Edge) : List (Option Int) := relax prev row e.1 e.2.1 (sense * e.2.2)
def nextR (sense : Int) (low : Nat) (E : List Edge) (prev : List (Option Int)) : List (Option Int) := E.foldl (restStep sense low prev) (List.replicate prev.length none)
def nextL (sense : Int) (E : List Edge) (prev : List (Option Int)) : List (Option Int) := E.foldl (leadStep sense prev) (List.replicate prev.length none)
def rowR (sense : Int) (low : Nat) (E : List Edge) (last : List (Option Int)) : Nat → List (Option Int)
  | 0 => last
  | k + 1 => nextR sense low E (rowR sense low E last k)
def rowL (sense : Int) (E : List Edge) (first : List (Option Int)) : Nat → List (Option Int)
  | 0 => first
  | k + 1 => nextL sense E (rowL sense E first k)
theorem relax_length (prev row : List (Option Int)) (a b : Nat) (g : Int) : (relax prev row a b g).length = row.length := by
  unfold relax
  split
  · rfl
  · split
    · rw [List.length_set]
    · split
      · rw [List.length_set]
      · rfl
theorem restStep_length (sense : Int) (low : Nat) (prev row : List (Option Int)) (e : Edge) : (restStep sense low prev row e).length = row.length := by
  unfold restStep
  split
  · exact relax_length ..
  · rfl
theorem leadStep_length (sense : Int) (prev row : List (Option Int)) (e : Edge) : (leadStep sense prev row e).length = row.length := relax_length ..
theorem foldl_length {α : Type} {f : List (Option Int) → α → List (Option Int)} (h : ∀ r a, (f r a).length = r.length) : ∀ (l : List α) (r : List (Option Int)), (l.foldl f r).length = r.length
  | [], _ => rfl
  | a :: l, r => by rw [List.foldl_cons, foldl_length h l, h]
theorem nextR_length (sense : Int) (low : Nat) (E : List Edge) (prev : List (Option Int)) : (nextR sense low E prev).length = prev.length := by
  unfold nextR
  rw [foldl_length (restStep_length sense low prev), List.length_replicate]
theorem nextL_length (sense : Int) (E : List Edge) (prev : List (Option Int)) : (nextL sense E prev).length = prev.length := by
  unfold nextL
  rw [foldl_length (leadStep_length sense prev), List.length_replicate]
theorem rowR_length (sense : Int) (low : Nat) (E : List Edge) (last : List (Option Int)) : ∀ k, (rowR sense low E last k).length = last.length
  | 0 => rfl
  | k + 1 => (nextR_length ..).trans (rowR_length sense low E last k)
theorem rowL_length (sense : Int) (E : List Edge) (first : List (Option Int)) : ∀ k, (rowL sense E first k).length = first.length
  | 0 => rfl
  | k + 1 => (nextL_length ..).trans (rowL_length sense E first k)
def IsBest (S : Int → Prop) : Option Int → Prop
  | none => ∀ x, ¬ S x
  | some z => S z ∧ ∀ x, S x → x ≤ z
theorem IsBest.iff {S T : Int → Prop} {o : Option Int} (h : IsBest S o) (e : ∀ x, S x ↔ T x) : IsBest T o := by
  cases o with
  | none => exact fun x t => h x ((e x).mpr t)
  | some z => exact ⟨(e z).mp h.1, fun x t => h.2 x ((e x).mpr t)⟩
theorem IsBest.le {S : Int → Prop} {o : Option Int} (h : IsBest S o) {x : Int} (s : S x) : ∃ z, o = some z ∧ x ≤ z := by
  cases o with
  | none => exact (h x s).elim
  | some z => exact ⟨z, rfl, h.2 x s⟩
theorem IsBest.at {S : Int → Prop} {o : Option Int} (h : IsBest S o) {z : Int} (e : o = some z) : S z := by
  rw [e] at h
  exact h.1
theorem IsBest.top {S : Int → Prop} {o : Option Int} (h : IsBest S o) {z x : Int} (e : o = some z) (s : S x) : x ≤ z := by
  rw [e] at h
  exact h.2 x s
theorem getD_set_self {l : List (Option Int)} {i : Nat} {x : Option Int} (h : i < l.length) : (l.set i x).getD i none = x := by
  rw [List.getD_eq_getElem?_getD, List.getElem?_set_self h]
  rfl
theorem getD_set_ne {l : List (Option Int)} {i j : Nat} {x : Option Int} (h : i ≠ j) : (l.set i x).getD j none = l.getD j none := by
  rw [List.getD_eq_getElem?_getD, List.getD_eq_getElem?_getD, List.getElem?_set_ne h]
theorem relax_best {prev row : List (Option Int)} {a b : Nat} {g : Int} {S : Nat → Int → Prop} (hb : b < row.length) (h : ∀ d, d < row.length → IsBest (S d) (row.getD d none)) :
    ∀ d, d < row.length → IsBest (fun x => S d x ∨ (d = b ∧ ∃ y, prev.getD a none = some y ∧ x = y + g)) ((relax prev row a b g).getD d none) := by
  intro d hd
  have h1 := h d hd
  unfold relax
  cases hp : prev.getD a none with
  | none =>
    exact h1.iff fun x => ⟨.inl, fun z => z.elim id fun ⟨_, y, e, _⟩ => by cases e⟩
  | some x0 =>
    by_cases hdb : d = b
    · subst hdb
      cases hr : row.getD d none with
      | none =>
        rw [hr] at h1
        show IsBest _ ((row.set d (some (x0 + g))).getD d none)
        rw [getD_set_self hd]
        refine ⟨.inr ⟨rfl, x0, rfl, rfl⟩, fun x s => ?_⟩
        rcases s with s | ⟨_, y, e, rfl⟩
        · exact (h1 x s).elim
        · cases e
          exact Int.le_refl _
      | some y0 =>
        rw [hr] at h1
        show IsBest _ ((if y0 < x0 + g then row.set d (some (x0 + g)) else row).getD d none)
        by_cases hc : y0 < x0 + g
        · rw [if_pos hc, getD_set_self hd]
          refine ⟨.inr ⟨rfl, x0, rfl, rfl⟩, fun x s => ?_⟩
          rcases s with s | ⟨_, y, e, rfl⟩
          · have := h1.2 x s
            omega
          · cases e
            exact Int.le_refl _
        · rw [if_neg hc, hr]
          refine ⟨.inl h1.1, fun x s => ?_⟩
          rcases s with s | ⟨_, y, e, rfl⟩
          · exact h1.2 x s
          · cases e
            omega
    · have same : ∀ v : Option Int, (row.set b v).getD d none = row.getD d none := fun v => getD_set_ne (Ne.symm hdb)
      have h2 : IsBest (fun x => S d x ∨ (d = b ∧ ∃ y, some x0 = some y ∧ x = y + g)) (row.getD d none) := h1.iff fun x => ⟨.inl, fun z => z.elim id fun ⟨e, _⟩ => (hdb e).elim⟩
      show IsBest _ ((match row.getD b none with | none => row.set b (some (x0 + g)) | some y => if y < x0 + g then row.set b (some (x0 + g)) else row).getD d none)
      split
      · rw [same]; exact h2
      · split
        · rw [same]; exact h2
        · exact h2
section
variable {E : List Edge} {sense : Int}
theorem rest_fold {low : Nat} {prev : List (Option Int)} : ∀ (F : List Edge) (row : List (Option Int)) (S : Nat → Int → Prop), (∀ e ∈ F, e.1 < row.length) → (∀ d, d < row.length → IsBest (S d) (row.getD d none)) →
    ∀ d, d < row.length → IsBest (fun x => S d x ∨ ∃ e ∈ F, low ≤ e.1 ∧ e.1 = d ∧ ∃ y, prev.getD e.2.1 none = some y ∧ x = y + sense * e.2.2) ((F.foldl (restStep sense low prev) row).getD d none)
  | [], row, S, _, h => fun d hd => (h d hd).iff fun x => ⟨.inl, fun z => z.elim id fun ⟨_, h, _⟩ => by cases h⟩
  | e :: F, row, S, hF, h => fun d hd => by
    rw [List.foldl_cons]
    have hl := restStep_length sense low prev row e
    by_cases hc : low ≤ e.1
    · have h1 := relax_best (prev := prev) (a := e.2.1) (g := sense * e.2.2) (hF e List.mem_cons_self) h
      have h2 : restStep sense low prev row e = relax prev row e.2.1 e.1 (sense * e.2.2) := by unfold restStep; rw [if_pos hc]
      rw [h2]
      rw [h2] at hl
      have h3 := rest_fold (low := low) (prev := prev) F (relax prev row e.2.1 e.1 (sense * e.2.2)) _ (fun f hf => by rw [hl]; exact hF f (List.mem_cons_of_mem _ hf)) (fun d hd => h1 d (by rw [← hl]; exact hd)) d (by rw [hl]; exact hd)
      refine h3.iff fun x => ⟨fun z => ?_, fun z => ?_⟩
      · rcases z with (z | ⟨z1, z2⟩) | ⟨f, hf, z⟩
        · exact .inl z
        · exact .inr ⟨e, List.mem_cons_self, hc, z1.symm, z2⟩
        · exact .inr ⟨f, List.mem_cons_of_mem _ hf, z⟩
      · rcases z with z | ⟨f, hf, z1, z2, z3⟩
        · exact .inl (.inl z)
        · rcases List.mem_cons.mp hf with rfl | hf
          · exact .inl (.inr ⟨z2.symm, z3⟩)
          · exact .inr ⟨f, hf, z1, z2, z3⟩
    · have h2 : restStep sense low prev row e = row := by unfold restStep; rw [if_neg hc]
      rw [h2]
      have h3 := rest_fold (low := low) (prev := prev) F row S (fun f hf => hF f (List.mem_cons_of_mem _ hf)) h d hd
      refine h3.iff fun x => ⟨fun z => ?_, fun z => ?_⟩
      · rcases z with z | ⟨f, hf, z⟩
        · exact .inl z
        · exact .inr ⟨f, List.mem_cons_of_mem _ hf, z⟩
      · rcases z with z | ⟨f, hf, z1, z2, z3⟩
        · exact .inl z
        · rcases List.mem_cons.mp hf with rfl | hf
          · exact absurd z1 hc
          · exact .inr ⟨f, hf, z1, z2, z3⟩
theorem lead_fold {prev : List (Option Int)} : ∀ (F : List Edge) (row : List (Option Int)) (S : Nat → Int → Prop), (∀ e ∈ F, e.2.1 < row.length) → (∀ d, d < row.length → IsBest (S d) (row.getD d none)) →
    ∀ d, d < row.length → IsBest (fun x => S d x ∨ ∃ e ∈ F, e.2.1 = d ∧ ∃ y, prev.getD e.1 none = some y ∧ x = y + sense * e.2.2) ((F.foldl (leadStep sense prev) row).getD d none)
  | [], row, S, _, h => fun d hd => (h d hd).iff fun x => ⟨.inl, fun z => z.elim id fun ⟨_, h, _⟩ => by cases h⟩
  | e :: F, row, S, hF, h => fun d hd => by
    rw [List.foldl_cons]
    have hl := leadStep_length sense prev row e
    have h1 := relax_best (prev := prev) (a := e.1) (g := sense * e.2.2) (hF e List.mem_cons_self) h
    have h3 := lead_fold (prev := prev) F (leadStep sense prev row e) _ (fun f hf => by rw [hl]; exact hF f (List.mem_cons_of_mem _ hf)) (fun d hd => h1 d (by rw [← hl]; exact hd)) d (by rw [hl]; exact hd)
    refine h3.iff fun x => ⟨fun z => ?_, fun z => ?_⟩
    · rcases z with (z | ⟨z1, z2⟩) | ⟨f, hf, z⟩
      · exact .inl z
      · exact .inr ⟨e, List.mem_cons_self, z1.symm, z2⟩
      · exact .inr ⟨f, List.mem_cons_of_mem _ hf, z⟩
    · rcases z with z | ⟨f, hf, z1, z2⟩
      · exact .inl (.inl z)
      · rcases List.mem_cons.mp hf with rfl | hf
        · exact .inl (.inr ⟨z1.symm, z2⟩)
        · exact .inr ⟨f, hf, z1, z2⟩
theorem getD_replicate (n d : Nat) : (List.replicate n (none : Option Int)).getD d none = none := by
  rw [List.getD_eq_getElem?_getD, List.getElem?_replicate]
  split <;> rfl
theorem nextR_best {low : Nat} {prev : List (Option Int)} (hE : ∀ e ∈ E, e.1 < prev.length ∧ e.2.1 < prev.length) : ∀ d, d < prev.length →
    IsBest (fun x => ∃ e ∈ E, low ≤ e.1 ∧ e.1 = d ∧ ∃ y, prev.getD e.2.1 none = some y ∧ x = y + sense * e.2.2) ((nextR sense low E prev).getD d none) := fun d hd => by
  refine (rest_fold (low := low) (prev := prev) (sense := sense) E (List.replicate prev.length none) (fun _ _ => False) (fun e he => by rw [List.length_replicate]; exact (hE e he).1) (fun d _ => by rw [getD_replicate]; exact fun _ z => z) d (by rw [List.length_replicate]; exact hd)).iff fun x => ⟨fun z => z.elim False.elim id, .inr⟩
theorem nextL_best {prev : List (Option Int)} (hE : ∀ e ∈ E, e.1 < prev.length ∧ e.2.1 < prev.length) : ∀ d, d < prev.length →
    IsBest (fun x => ∃ e ∈ E, e.2.1 = d ∧ ∃ y, prev.getD e.1 none = some y ∧ x = y + sense * e.2.2) ((nextL sense E prev).getD d none) := fun d hd => by
  refine (lead_fold (prev := prev) (sense := sense) E (List.replicate prev.length none) (fun _ _ => False) (fun e he => by rw [List.length_replicate]; exact (hE e he).2) (fun d _ => by rw [getD_replicate]; exact fun _ z => z) d (by rw [List.length_replicate]; exact hd)).iff fun x => ⟨fun z => z.elim False.elim id, .inr⟩
/-- the worth of the walks from p with k arrows -/
def RestS (E : List Edge) (sense : Int) (low : Nat) (last : List (Option Int)) (k p : Nat) (x : Int) : Prop :=
  ∃ ks v y, Wk E p ks v ∧ ks.length = k ∧ last.getD v none = some y ∧ (∀ t ∈ ks.map (et E), low ≤ t) ∧ x = sense * gn E ks + y
def LeadS (E : List Edge) (sense first : Int) (k p : Nat) (x : Int) : Prop := ∃ ks, Wk E 0 ks p ∧ ks.length = k ∧ x = sense * (first + gn E ks)
theorem rowR_best {low : Nat} {last : List (Option Int)} (hE : ∀ e ∈ E, e.1 < last.length ∧ e.2.1 < last.length) : ∀ k p, p < last.length → IsBest (RestS E sense low last k p) ((rowR sense low E last k).getD p none)
  | 0, p, hp => by
    show IsBest _ (last.getD p none)
    cases h : last.getD p none with
    | none =>
      rintro x ⟨ks, v, y, w, hl, e, _, _⟩
      cases w with
      | nil => rw [h] at e; cases e
      | cons _ _ => cases hl
    | some z =>
      refine ⟨⟨[], p, z, .nil p, rfl, h, fun _ h => (by cases h), by rw [gn_nil, Int.mul_zero, Int.zero_add]⟩, ?_⟩
      rintro x ⟨ks, v, y, w, hl, e, _, hx⟩
      cases w with
      | nil =>
        rw [h] at e
        cases e
        rw [gn_nil, Int.mul_zero, Int.zero_add] at hx
        rw [hx]
        exact Int.le_refl _
      | cons _ _ => cases hl
  | k + 1, p, hp => by
    have hl := rowR_length sense low E last k
    have h1 := nextR_best (E := E) (sense := sense) (low := low) (prev := rowR sense low E last k) (by rw [hl]; exact hE) p (by rw [hl]; exact hp)
    have ih := fun q hq => rowR_best (low := low) (last := last) hE k q hq
    show IsBest _ ((nextR sense low E (rowR sense low E last k)).getD p none)
    cases hv : (nextR sense low E (rowR sense low E last k)).getD p none with
    | none =>
      rw [hv] at h1
      rintro x ⟨ks, v, y, w, hkl, e, ht, hx⟩
      cases w with
      | nil => cases hkl
      | @cons _ h _ j g ks' e2 w =>
        have hm := List.mem_of_getElem? e2
        obtain ⟨z, hz, _⟩ := (ih h (hE _ hm).2).le ⟨ks', v, y, w, by simpa using hkl, e, fun t ht' => ht t (List.mem_cons_of_mem _ ht'), rfl⟩
        exact h1 _ ⟨_, hm, by have := ht (et E j) (by simp); rw [et_of e2] at this; exact this, rfl, z, hz, rfl⟩
    | some z =>
      rw [hv] at h1
      obtain ⟨⟨e, hm, h2, h3, y, h4, h5⟩, h6⟩ := h1
      refine ⟨?_, ?_⟩
      · obtain ⟨j, hj⟩ := List.mem_iff_getElem?.mp hm
        obtain ⟨ks, v, y', w, hkl, e', ht, hy⟩ := (ih e.2.1 (hE e hm).2).at h4
        obtain ⟨t, h, g⟩ := e
        have h3' : t = p := h3
        subst h3'
        refine ⟨j :: ks, v, y', .cons hj w, by rw [List.length_cons, hkl], e', fun x hx => ?_, ?_⟩
        · rcases List.mem_cons.mp hx with rfl | hx
          · rw [et_of hj]; exact h2
          · exact ht x hx
        · have h5' : z = y + sense * g := h5
          rw [h5', hy, gn_cons, eg_of hj, Int.mul_add]
          omega
      · rintro x ⟨ks, v, y', w, hkl, e', ht, hx⟩
        cases w with
        | nil => cases hkl
        | @cons _ h _ j g ks' e2 w =>
          have hm2 := List.mem_of_getElem? e2
          obtain ⟨z', hz', hle⟩ := (ih h (hE _ hm2).2).le ⟨ks', v, y', w, by simpa using hkl, e', fun t ht' => ht t (List.mem_cons_of_mem _ ht'), rfl⟩
          have h7 := h6 (z' + sense * g) ⟨_, hm2, by have := ht (et E j) (by simp); rw [et_of e2] at this; exact this, rfl, z', hz', rfl⟩
          rw [hx, gn_cons, eg_of e2, Int.mul_add]
          omega
def firstRow (sense first : Int) (n : Nat) : List (Option Int) := some (sense * first) :: List.replicate (n - 1) none
theorem firstRow_length {first : Int} {n : Nat} (hn : 0 < n) : (firstRow sense first n).length = n := by
  unfold firstRow
  rw [List.length_cons, List.length_replicate]
  omega
theorem rowL_best {first : Int} {n : Nat} (hn : 0 < n) (hE : ∀ e ∈ E, e.1 < n ∧ e.2.1 < n) : ∀ k p, p < n → IsBest (LeadS E sense first k p) ((rowL sense E (firstRow sense first n) k).getD p none)
  | 0, p, hp => by
    show IsBest _ ((firstRow sense first n).getD p none)
    cases p with
    | zero =>
      show IsBest _ (some (sense * first))
      refine ⟨⟨[], .nil 0, rfl, by rw [gn_nil, Int.add_zero]⟩, ?_⟩
      rintro x ⟨ks, w, hl, hx⟩
      cases w with
      | nil =>
        rw [gn_nil, Int.add_zero] at hx
        rw [hx]
        exact Int.le_refl _
      | cons _ _ => cases hl
    | succ p =>
      have : (firstRow sense first n).getD (p + 1) none = none := by
        show (List.replicate (n - 1) (none : Option Int)).getD p none = none
        exact getD_replicate _ _
      rw [this]
      rintro x ⟨ks, w, hl, hx⟩
      have : ks = [] := List.length_eq_zero_iff.mp hl
      subst this
      cases w
  | k + 1, p, hp => by
    have hl : (rowL sense E (firstRow sense first n) k).length = n := (rowL_length ..).trans (firstRow_length hn)
    have h1 := nextL_best (E := E) (sense := sense) (prev := rowL sense E (firstRow sense first n) k) (by rw [hl]; exact hE) p (by rw [hl]; exact hp)
    have ih := fun q hq => rowL_best (first := first) (n := n) hn hE k q hq
    show IsBest _ ((nextL sense E (rowL sense E (firstRow sense first n) k)).getD p none)
    have back : ∀ x, LeadS E sense first (k + 1) p x → ∃ z y, (∃ e ∈ E, e.2.1 = p ∧ ∃ y, (rowL sense E (firstRow sense first n) k).getD e.1 none = some y ∧ z = y + sense * e.2.2) ∧ x ≤ z ∧ y = z := by
      rintro x ⟨ks, w, hkl, hx⟩
      have hne : ks ≠ [] := by intro e; rw [e] at hkl; cases hkl
      obtain ⟨a, j, rfl⟩ : ∃ a j, ks = a ++ [j] := ⟨ks.dropLast, ks.getLast hne, (List.dropLast_concat_getLast hne).symm⟩
      obtain ⟨u, w1, w2⟩ := w.split
      cases w2 with
      | @cons _ h _ _ g _ e2 w2 =>
        cases w2
        have hm := List.mem_of_getElem? e2
        have hal : a.length = k := by simpa using hkl
        obtain ⟨z, hz, hle⟩ := (ih u (hE _ hm).1).le ⟨a, w1, hal, rfl⟩
        refine ⟨z + sense * g, _, ⟨_, hm, rfl, z, hz, rfl⟩, ?_, rfl⟩
        rw [hx, gn_append, gn_one, eg_of e2, ← Int.add_assoc, Int.mul_add]
        omega
    cases hv : (nextL sense E (rowL sense E (firstRow sense first n) k)).getD p none with
    | none =>
      rw [hv] at h1
      intro x hx
      obtain ⟨z, _, hz, _⟩ := back x hx
      exact h1 z hz
    | some z =>
      rw [hv] at h1
      obtain ⟨⟨e, hm, h3, y, h4, h5⟩, h6⟩ := h1
      refine ⟨?_, fun x hx => ?_⟩
      · obtain ⟨j, hj⟩ := List.mem_iff_getElem?.mp hm
        obtain ⟨ks, w, hkl, hy⟩ := (ih e.1 (hE e hm).1).at h4
        obtain ⟨t, h, g⟩ := e
        have h3' : h = p := h3
        subst h3'
        refine ⟨ks ++ [j], w.snoc hj, by rw [List.length_append, hkl]; rfl, ?_⟩
        have h5' : z = y + sense * g := h5
        rw [h5', hy, gn_append, gn_one, eg_of hj, ← Int.add_assoc, Int.mul_add sense (first + gn E ks) g]
      · obtain ⟨z', _, hz, hle, _⟩ := back x hx
        have := h6 z' hz
        omega
/-- from a row to the one behind it: an arrow that bears the best -/
theorem rowR_step {low : Nat} {last : List (Option Int)} (hE : ∀ e ∈ E, e.1 < last.length ∧ e.2.1 < last.length) {k p : Nat} {x : Int} (hp : p < last.length) (h : (rowR sense low E last (k + 1)).getD p none = some x) :
    ∃ (j h : Nat) (g y : Int), E[j]? = some (p, h, g) ∧ low ≤ p ∧ (rowR sense low E last k).getD h none = some y ∧ x = y + sense * g := by
  have hl := rowR_length sense low E last k
  have h1 := nextR_best (E := E) (sense := sense) (low := low) (prev := rowR sense low E last k) (by rw [hl]; exact hE) p (by rw [hl]; exact hp)
  obtain ⟨e, hm, h2, h3, y, h4, h5⟩ := h1.at h
  obtain ⟨j, hj⟩ := List.mem_iff_getElem?.mp hm
  obtain ⟨t, hd, g⟩ := e
  have h3' : t = p := h3
  subst h3'
  exact ⟨j, hd, g, y, hj, h2, h4, h5⟩
end
/-! drifting rings -/
def lastRow (n start : Nat) : List (Option Int) := (List.range n).map fun p => if p = start then some 0 else none
theorem lastRow_length (n start : Nat) : (lastRow n start).length = n := by
  unfold lastRow
  rw [List.length_map, List.length_range]
theorem lastRow_at {n start p : Nat} {y : Int} (h : (lastRow n start).getD p none = some y) : p = start ∧ y = 0 := by
  unfold lastRow at h
  rw [List.getD_eq_getElem?_getD, List.getElem?_map] at h
  by_cases hp : p < n
  · rw [List.getElem?_range hp] at h
    show p = start ∧ y = 0
    by_cases e : p = start
    · subst e
      simp at h
      exact ⟨rfl, h.symm⟩
    · simp [e] at h
  · rw [List.getElem?_eq_none (by simpa using hp)] at h
    cases h
theorem lastRow_self {n start : Nat} (h : start < n) : (lastRow n start).getD start none = some 0 := by
  unfold lastRow
  rw [List.getD_eq_getElem?_getD, List.getElem?_map, List.getElem?_range h]
  simp
/-- in one of the senses a walk from place of left arrows makes a drift -/
def CanDrift (E : List Edge) (n start : Nat) (senses : List Int) (place left : Nat) (gained : Int) : Prop :=
  ∃ s ∈ senses, ∃ r, (rowR s start E (lastRow n start) left).getD place none = some r ∧ 0 < s * gained + r
section
variable {E : List Edge} {n start : Nat} {senses : List Int}
theorem CanDrift.step (hE : ∀ e ∈ E, e.1 < n ∧ e.2.1 < n) {place left : Nat} {gained : Int} (hp : place < n) (h : CanDrift E n start senses place (left + 1) gained) :
    ∃ (j h : Nat) (g : Int), E[j]? = some (place, h, g) ∧ start ≤ place ∧ CanDrift E n start senses h left (gained + g) := by
  obtain ⟨s, hs, r, hr, h0⟩ := h
  obtain ⟨j, hd, g, y, hj, hlo, hy, e⟩ := rowR_step (by rw [lastRow_length]; exact hE) (by rw [lastRow_length]; exact hp) hr
  refine ⟨j, hd, g, hj, hlo, s, hs, y, hy, ?_⟩
  rw [Int.mul_add]
  omega
theorem CanDrift.fin {place : Nat} {gained : Int} (h : CanDrift E n start senses place 0 gained) : place = start ∧ ∃ s ∈ senses, 0 < s * gained := by
  obtain ⟨s, hs, r, hr, h0⟩ := h
  obtain ⟨e1, e2⟩ := lastRow_at hr
  exact ⟨e1, s, hs, by omega⟩
theorem noPos_rows {L : Nat} {s : Int} (hs : s ∈ senses) (hE : ∀ e ∈ E, e.1 < n ∧ e.2.1 < n) (h : ∀ len start, 0 < len → len < L → start + len ≤ n → ¬ CanDrift E n start senses start len 0) : NoPos E s L := by
  refine noPos_of hE fun u ks hl hk hn w ht => ?_
  have h0 : 0 < ks.length := List.length_pos_iff.mpr hk
  have hu : u < n := by omega
  have h1 := rowR_best (E := E) (sense := s) (low := u) (last := lastRow n u) (by rw [lastRow_length]; exact hE) ks.length u (by rw [lastRow_length]; exact hu)
  obtain ⟨z, hz, hle⟩ := h1.le ⟨ks, u, 0, w, rfl, lastRow_self hu, ht, rfl⟩
  have h2 := h ks.length u h0 hl hn
  refine Classical.byContradiction fun hc => h2 ⟨s, hs, z, hz, ?_⟩
  omega
end
end K15
/-! rules that the hand layer lacks: enumerate over a tuple; a tuple times 1; is False -/
namespace K15
open PySem PySem.Spec PyProof.Rows L2

theorem meets_enumerate_newT (l : Addr) (items : Array Value) (n : Nat) (dct : Option Addr) (sl : Array (Option Value)) :
    Meets (Builtin.«enumerate.__new__» ⟨[.type "enumerate", .ref l], []⟩) (fun _ R s => s.heap.get? l = some { cls := .type "tuple", dict := dct, data := .seq items n, slots := sl } ∧
      R (.ok (.ret (.ref (s.heap.push { cls := .type "tuple_iterator", data := .fields #[.ref l, .int 0 0] }).objs.size)))
        { s with heap := (s.heap.push { cls := .type "tuple_iterator", data := .fields #[.ref l, .int 0 0] }).push { cls := .type "enumerate", data := .fields #[.none, .bool false, .ref s.heap.objs.size, rawInt 0, .none, .none] } }) :=
  .of_wp fun prog w A R s h => by
    obtain ⟨hp, g, d, tk, os⟩ := s; obtain ⟨hl, h⟩ := h
    have hsub := sub_enumerate
    have hL : Heap.IsTuple (Shared.heap ⟨hp, g, d, tk, os⟩) l items := ⟨_, hl, rfl, n, rfl⟩
    wp_walk using AutoSeq1.wpAny_loadPart' hl
    refine wpAny_stack_any fun st => wpAny_pure ?_
    split
    · rename_i c _ _ _ _ _
      cases (c == Value.type "enumerate")
      · wp_walk using AutoSeq1.wpAny_loadPart' hl, wpAny_pyIter_tuple hL
        exact ⟨_, rfl, h⟩
      · wp_walk using AutoSeq1.wpAny_loadPart' hl, wpAny_pyIter_tuple hL
        exact ⟨_, rfl, h⟩
    · wp_walk using AutoSeq1.wpAny_loadPart' hl, wpAny_pyIter_tuple hL
      exact ⟨_, rfl, h⟩
theorem call_enumerate_tuple {prog : Program} {w : World} {A : Around} {E : Value → Shared → Prop} {s : Shared} {l : Addr} {items : Array Value} {Q : Value → Shared → Prop} (hL : s.heap.IsTuple l items)
    (h : ∀ h', IsEnum h' (s.heap.objs.size + 1) s.heap.objs.size 0 .none → h'.IsTupleIter s.heap.objs.size l 0 → h'.objs.size = s.heap.objs.size + 2 →
      (∀ b o, s.heap.get? b = some o → h'.get? b = some o) → Q (.ref (s.heap.objs.size + 1)) { s with heap := h' }) :
    wpAny (model prog w) A (call (.type "enumerate") [.ref l]) Q E s := by
  obtain ⟨⟨c, dct, dt, sl⟩, hl, hc, n, hd⟩ := hL
  replace hc : c = .type "tuple" := hc
  replace hd : dt = .seq items n := hd
  subst hc hd
  refine callType_new F.called_enumerate (by decide) (F.typeCall_enumerate_1 _) (F.newCall_enumerate_1 _) (fun obj => F.args_object_init_2 obj _) F.entry_enumerate_new
    (meets_enumerate_newT l items n dct sl) ⟨hl, ?_⟩
  have hz : (s.heap.push { cls := .type "tuple_iterator", data := .fields #[.ref l, .int 0 0] }).objs.size = s.heap.objs.size + 1 := Heap.size_push ..
  show _ ∧ _
  rw [hz]
  have he : IsEnum ((s.heap.push { cls := .type "tuple_iterator", data := .fields #[.ref l, .int 0 0] }).push
      { cls := .type "enumerate", data := .fields #[.none, .bool false, .ref s.heap.objs.size, rawInt 0, .none, .none] }) (s.heap.objs.size + 1) s.heap.objs.size 0 .none := by
    have := Heap.get?_push_size (s.heap.push { cls := .type "tuple_iterator", data := .fields #[.ref l, .int 0 0] })
      (o := { cls := .type "enumerate", data := .fields #[.none, .bool false, .ref s.heap.objs.size, rawInt 0, .none, .none] }) rfl
    rw [hz] at this; exact this
  refine ⟨⟨_, he, rfl⟩, h _ he ⟨_, Heap.get?_push_of_some _ (Heap.get?_push_size _ rfl), rfl, rfl⟩ (by rw [Heap.size_push, hz]) fun b o x => Heap.get?_push_of_some _ (Heap.get?_push_of_some _ x)⟩
/-- the tuple at a, each item in a new pair -/
def IteT (K : PySem.W.Frag) (a : Addr) : It :=
  ⟨fun i H => ∃ (xs : List V) (x : V), SqT K H a xs ∧ xs[i]? = some x, fun i H v H' => ∃ T x, v = .ref T ∧ H T = none ∧ H' = upd H T (.tup [.int (i : Nat), x]) ∧ ∀ xs, SqT K H a xs → xs[i]? = some x, fun i H => ∃ xs : List V, SqT K H a xs ∧ xs.length ≤ i⟩
theorem tup_ne_iter {h : Heap} {a it : Addr} {items : Array Value} {i : Nat} (ht : h.IsTuple a items) (hi : h.IsTupleIter it a i) : a ≠ it := by
  rintro rfl
  obtain ⟨o, e, c, _⟩ := ht
  obtain ⟨o', e', c', _⟩ := hi
  rw [e] at e'
  cases e'
  have hc : o.cls = .type "tuple" := c
  have hc' : o.cls = .type "tuple_iterator" := c'
  rw [hc] at hc'
  exact absurd hc' (by decide)
theorem wpAny_pyNext_enum_endT {prog : Program} {w : World} {A : Around} {E : Value → Shared → Prop} {s : Shared} {e it t : Addr} {i : Int} {j : Nat} {items : Array Value} {old : Value} {Q : Option Value → Shared → Prop} (hh : A.handled = none)
    (he : IsEnum s.heap e it i old) (hit : s.heap.IsTupleIter it t j) (ht : s.heap.IsTuple t items) (hx : items[j]? = none)
    (hQ : ∀ h', Heap.ExtBut it s.heap h' → Q none { s with heap := h' }) : wpAny (model prog w) A (pyNext (.ref e)) Q E s := by
  have hT : s.TypeIs (.ref e) "enumerate" := ⟨_, he, rfl⟩
  unfold pyNext
  refine wpAny_bind (wpAny_attempt (wpAny_callSpecial?_slot (name := Str.ofString "__next__") hT F.slot_enumerate_next
    (wpAny_call_entry F.slot_enumerate_next hT F.entry_enumerate_next ?_ (F.args_enumerate_next_1 _))))
  show wpAny _ _ (field (.ref e) 2 >>= _) _ _ _
  refine wpAny_bind (wpAny_field he rfl (x := .ref it) rfl ?_)
  refine wpAny_bind (wpAny_nextOf_tuple_end hh hit ht hx fun h' x he' hx' => ?_)
  obtain ⟨o, ho, hc⟩ := hx'
  refine wpAny_bind (wpAny_isInstance (T := "StopIteration") (b := true) ⟨o, ho, hc⟩ isSubtype_stop ?_)
  exact wpAny_pure (hQ _ he')
theorem turn_enumT {P : Program} {w : World} {K : PySem.W.Frag} {elts : List Expr} {kk : Nat} {tpos : Pos} (a e it : Addr) :
    Turn P w K (.Tuple elts kk tpos) (IteT K a) [e, it] e (fun i h => (∃ old, IsEnum h e it ((i : Nat) : Int) old) ∧ h.IsTupleIter it a i ∧ e ≠ it ∧ e ≠ a) where
  mem := by simp
  obj := fun i h st b hb => by
    obtain ⟨⟨old, he⟩, ⟨o, ho, hc, hd⟩, _⟩ := st
    have e' : b = e ∨ b = it := by simpa using hb
    rcases e' with z | z
    · rw [z]; exact ⟨_, he, fun v q => nomatch q⟩
    · rw [z]; exact ⟨o, ho, fun v q => by rw [hd] at q; cases q⟩
  keep := fun i h h' st k => let ⟨⟨old, he⟩, hi, hne⟩ := st; ⟨⟨old, k e (by simp) _ he⟩, hi.at fun o q => k it (by simp) o q, hne⟩
  item := by
    intro X hP hw hK hc i pins s σ H E I hf st hg
    subst hP hw hK
    obtain ⟨⟨old, he⟩, hit, hne, hea⟩ := st
    obtain ⟨xs, x, hq, hx⟩ := hg
    obtain ⟨its, rv, p, hz⟩ := I.tuple hq
    obtain ⟨u, hu, ru⟩ := rv.get hx
    have hel : e < s.heap.objs.size := Heap.lt_size he
    have hil : it < s.heap.objs.size := by obtain ⟨_, q, _⟩ := hit; exact Heap.lt_size q
    have hT : s.heap.IsTuple a its.toArray := p
    have hai : a ≠ it := tup_ne_iter hT hit
    have hi : i < its.toArray.size := by
      have := (List.getElem?_eq_some_iff.mp hu).1
      simpa using this
    have D := Draws.tuple (prog := X.prog) (w := X.w) (A := X.A.in1) (I.ok.hd hc) it a hai its.toArray
    refine wpAny_pyNext_enum_itemD D he ⟨hit, hT⟩ hi hne (by simp; exact ⟨hne, hea⟩) fun x' h' tk hx' ho hst' hT' hsz hk => ?_
    have ex : x' = u := by
      have q : its.toArray[i]? = some x' := hx'
      have q2 : its[i]? = some x' := by simpa using q
      rw [hu] at q2
      exact (Option.some.inj q2).symm
    subst ex
    refine ⟨_, rfl, wpAny_letOwnedTupleGo_enum (s := { s with heap := h', toks := tk + 1 }) ho fun h'' he' sb => ?_⟩
    have hT2 : h''.get? s.heap.objs.size = some { cls := .type "tuple", data := .seq #[.int i tk, x'] } := (sb.2 _ (Nat.ne_of_gt hel)).trans hT'
    have new : ObjOk X.prog X.w (upd H s.heap.objs.size (.tup [.int (i : Nat), x])) h'' s.heap.objs.size (.tup [.int (i : Nat), x]) :=
      ⟨by show 2 ≤ sizeLine; decide, [.int i tk, x'], .cons ⟨_, rfl⟩ (.cons ru .nil), ⟨_, hT2, rfl, _, rfl⟩⟩
    have I1 : Inv X pins σ (upd H s.heap.objs.size (.tup [.int (i : Nat), x])) { s with heap := h'', toks := tk + 1 } :=
      I.turnedNew (ch := [e, it]) (fun b ob hb q => (sb.2 b (fun z => hb (by simp [z]))).trans (hk b ob (fun z => hb (by simp [z])) (fun z => hb (by simp [z])) q)) hf (Nat.le_refl _) new
    refine ⟨.ref s.heap.objs.size, _, I1, rfl, ⟨_, x, rfl, I.hok.fresh (Nat.le_refl _), rfl, fun ys hy => by rw [I.tuple_inj hy hq]; exact hx⟩, ⟨⟨x', ?_⟩, hst'.1.at fun o q => (sb.2 it (Ne.symm hne)).trans q, hne, hea⟩, fun b hb => ?_⟩
    · have e1 : ((i + 1 : Nat) : Int) = (i : Int) + 1 := by omega
      rw [e1]; exact he'
    · have hb' : b < s.heap.objs.size := by
        have e' : b = e ∨ b = it := by simpa using hb
        rcases e' with z | z
        · rw [z]; exact hel
        · rw [z]; exact hil
      rw [upd_ne (Nat.ne_of_lt hb')]
      exact (hf b hb).1
  done := by
    intro X hP hw hK hc i pins s σ H E I hf st hg
    subst hP hw hK
    obtain ⟨⟨old, he⟩, hit, hne, hea⟩ := st
    obtain ⟨xs, hq, hx⟩ := hg
    obtain ⟨its, rv, p, hz⟩ := I.tuple hq
    obtain ⟨f0, f1, f2, f3, f4, f5⟩ := hf it (by simp)
    have hl := rv.length
    have hT : s.heap.IsTuple a its.toArray := p
    exact wpAny_pyNext_enum_endT (I.ok.hd hc) he hit hT (by simp; omega) fun h' eb => ⟨rfl, I.turned (t' := s.toks) (fun b o hb q => eb b o hb q) f0 f1 f3 f4 f5⟩
  self := fun A i s Q E st h => let ⟨⟨_, he⟩, _⟩ := st; wpAny_pyIter_enum he h

def iEnumT (K : PySem.W.Frag) (ta : TA) : TI := fun σ H R => ta σ H fun vs H1 => ∃ a xs, vs = [.ref a] ∧ SqT K H1 a xs ∧ R (IteT K a) H1
theorem pi_enumT {X : Cx} {e : Expr} {ta : TA} {p pos tpos : Pos} {elts : List Expr} {kk : Nat} (hg : Gl X "enumerate") (hm : X.mg "enumerate" = none) (ha : PA X [e] ta) (hs : starEach [e] X.env = [(false, eval e X.env)] := by rfl) :
    PI X (.Tuple elts kk tpos) (.Call (.Name "enumerate" p) [e] [] pos) (iEnumT X.K ta) := by
  refine ⟨fun pins s σ H R I h => ?_⟩
  refine Call_ (ld_blt I hg hm boot_enumerate (PyProof.Rows.callWith_type1 (thn (ha.run pos pins s σ H _ I h) fun us s1 ⟨vs, H1, I1, r1, q1⟩ => ?_) hs rfl))
  obtain ⟨a, xs, ex, hq, q⟩ := q1
  subst ex
  cases r1 with
  | cons r rr =>
    cases rr
    cases r
    obtain ⟨its, rv, p', hz⟩ := I1.tuple hq
    have p2 : s1.heap.IsTuple a its.toArray := p'
    refine call_enumerate_tuple p2 fun h' he hit hsz hk => wpAny_pyIter_enum he ?_
    have I2 : Inv X pins σ H1 { s1 with heap := h' } := I1.kept (t' := s1.toks) hk
    have la : a < s1.heap.objs.size := p'.lt
    refine ⟨s1.heap.objs.size + 1, [s1.heap.objs.size + 1, s1.heap.objs.size], _, _, H1, rfl, I2, turn_enumT a (s1.heap.objs.size + 1) s1.heap.objs.size, ⟨⟨.none, he⟩, hit, Nat.succ_ne_self _, (Nat.ne_of_lt (Nat.lt_succ_of_lt la)).symm⟩, fun b hb => ?_, q⟩
    have e' : b = s1.heap.objs.size + 1 ∨ b = s1.heap.objs.size := by simpa using hb
    have hle : s1.heap.objs.size ≤ b := by
      rcases e' with z | z
      · rw [z]; exact Nat.le_add_right _ _
      · rw [z]; exact Nat.le_refl _
    exact I1.fpOk hle (I1.hok.fresh hle)
/-! a tuple times 1 is itself -/
theorem tuple_mul1 (l : Addr) (items : Array Value) (n : Nat) (dd : Option Addr) (sl : Array (Option Value)) (u : Tok) (c1 : items.isEmpty = false) :
    Meets (Builtin.«tuple.__mul__» ⟨[.ref l, .int 1 u], []⟩) (fun _ R s => s.heap.get? l = some { cls := .type "tuple", dict := dd, data := .seq items n, slots := sl } ∧ R (.ok (.ret (Value.ref l))) s) :=
  .of_wp fun prog w A R s h => by
    obtain ⟨hp, g, d, tk, os⟩ := s
    obtain ⟨hl, h⟩ := h
    have f1 := AutoSeq1.idx_int
    wp_walk using AutoSeq1.wpAny_loadPart' hl
    exact ⟨_, rfl, h⟩
def rRepT1 (K : PySem.W.Frag) : R2 := fun x y H Q => ∃ l xs, x = .ref l ∧ y = .int 1 ∧ SqT K H l xs ∧ xs ≠ [] ∧ Q (.ref l) H
theorem op_repT1 {X : Cx} : OpR X (binaryOp .Mult) (rRepT1 X.K) := by
  intro pins s σ H x y v u Q I rx ry h
  obtain ⟨l, xs, rfl, rfl, hT, hne, q⟩ := h
  cases rx
  obtain ⟨t, rfl⟩ := ry
  obtain ⟨its, r, ⟨⟨cls, dd, data, sl⟩, ho, hc, n, hd⟩, hs⟩ := I.tuple hT
  simp only at hc hd
  subst hc hd
  have hle : its.length = xs.length := r.length.symm
  have hn : its ≠ [] := fun e => hne (by
    rw [e] at hle
    exact List.eq_nil_of_length_eq_zero hle.symm)
  have hi : its.toArray.isEmpty = false := by
    cases its with
    | nil => exact absurd rfl hn
    | cons a b => rfl
  refine wpAny_binaryOp_repeat_ref (T := "tuple") (U := "int") (by decide) ⟨_, ho, rfl⟩ (fun s' => typeIs_int s' 1 t) noFill_tuple_mul F.fills_int_mul F.slot_int_rmul repeat_tuple F.slot_int_index.lookup
    (call_meets F.slot_int_rmul (typeIs_int s 1 t) F.entry_int_rmul (F.args_int_rmul_2 _ _) (int_rmul_tuple 1 t l its.toArray n dd sl)
      ⟨ho, rfl, ⟨_, ho, rfl⟩, call_meets F.slot_tuple_mul ⟨_, ho, rfl⟩ F.entry_tuple_mul (F.args_tuple_mul_2 _ _) (tuple_mul1 l its.toArray n dd sl t hi) ⟨ho, ?_⟩⟩)
  exact ⟨.ref l, H, I, rfl, q⟩
/-- a tuple times a number from 1 on -/
theorem op_repTA {X : Cx} : OpR X (binaryOp .Mult) (fun x y H Q => rRepT1 X.K x y H Q ∨ rRepT X.K x y H Q) := OpR.or op_repT1 op_repT
/-! is False -/
def rIsF : R2 := fun x y H Q => y = .bl false ∧ ((x = .non ∧ Q (.bl false) H) ∨ ∃ a, x = .ref a ∧ Q (.bl false) H)
theorem op_isF {X : Cx} : OpR X (compareOp .Is) rIsF := by
  intro pins s σ H x y v u Q I rx ry h
  obtain ⟨rfl, h⟩ := h
  cases ry
  rcases h with ⟨rfl, q⟩ | ⟨a, rfl, q⟩
  · cases rx
    have e : compareOp .Is Value.none (Value.bool false) = pure (Value.bool false) := by rfl
    rw [e]
    exact wpAny_pure ⟨.bl false, H, I, rfl, q⟩
  · cases rx
    have e : compareOp .Is (Value.ref a) (Value.bool false) = pure (Value.bool false) := by rfl
    rw [e]
    exact wpAny_pure ⟨.bl false, H, I, rfl, q⟩
end K15
namespace K15
open PySem PySem.Spec PyProof.Rows L2 RZ
/-! ### the text by places -/
def topS (i : Nat) : Stmt := PySem.Challenge.pw_purseahead_k15_whole_long_runs_and_wide.main.body.getD i (.Pass ⟨0, 0, 0, 0⟩)
/-! ### sequences: lists or tuples -/
def SqA (K : PySem.W.Frag) (H : Hp) (a : Addr) (xs : List V) : Prop := SqL K H a xs ∨ SqT K H a xs
theorem Rd.at {H H' : Hp} {a : Addr} {u : HO} (k : ∀ o, H a = some o → H' a = some o) (h : Rd H a u) : Rd H' a u := by
  rcases h with h | ⟨o, h⟩
  · exact .inl (k _ h)
  · exact .inr ⟨o, k _ h⟩
theorem SqL.at {K : PySem.W.Frag} {H H' : Hp} {a : Addr} {xs : List V} (k : ∀ o, H a = some o → H' a = some o) (h : SqL K H a xs) : SqL K H' a xs := by
  rcases h with h | h
  · exact .inl (Rd.at k h)
  · exact .inr h
theorem SqT.at {K : PySem.W.Frag} {H H' : Hp} {a : Addr} {xs : List V} (k : ∀ o, H a = some o → H' a = some o) (h : SqT K H a xs) : SqT K H' a xs := by
  rcases h with h | h
  · exact .inl (Rd.at k h)
  · exact .inr h
theorem SqA.at {K : PySem.W.Frag} {H H' : Hp} {a : Addr} {xs : List V} (k : ∀ o, H a = some o → H' a = some o) (h : SqA K H a xs) : SqA K H' a xs := by
  rcases h with h | h
  · exact .inl (SqL.at k h)
  · exact .inr (SqT.at k h)
theorem SqA.l {K : PySem.W.Frag} {H : Hp} {a : Addr} {xs : List V} (h : H a = some (.lst xs)) : SqA K H a xs := .inl (SqL.of h)
theorem SqA.t {K : PySem.W.Frag} {H : Hp} {a : Addr} {xs : List V} (h : H a = some (.tup xs)) : SqA K H a xs := .inr (SqT.of h)
/-- x[i] -/
def rIxA (K : PySem.W.Frag) : R2 := fun x y H Q => ∃ p xs i v, x = .ref p ∧ y = .int i ∧ SqA K H p xs ∧ atI xs i = some v ∧ Q v H
theorem ix_any {X : Cx} : IxR X (rIxA X.K) := by
  have h := IxR.or (X := X) ix_list ix_tup
  intro value slice pins s σ H x y v u Q I rx ry hq hsub
  obtain ⟨p, xs, i, z, e1, e2, hs, ha, q⟩ := hq
  refine h value slice pins s σ H x y v u Q I rx ry ?_ hsub
  rcases hs with hs | hs
  · exact .inl ⟨p, xs, i, z, e1, e2, hs, ha, q⟩
  · exact .inr ⟨p, xs, i, z, e1, e2, hs, ha, q⟩
def iSeq (K : PySem.W.Frag) (tl : TE) : TI := fun σ H R => tl σ H fun x H1 => ∃ a, x = .ref a ∧ (((∃ xs, SqL K H1 a xs) ∧ R (Itl K a) H1) ∨ ((∃ xs, SqT K H1 a xs) ∧ R (Itt K a) H1))
theorem pi_seq {X : Cx} {tg l : Expr} {tl : TE} (hl : PE X l tl) : PI X tg l (iSeq X.K tl) := by
  refine ⟨fun pins s σ H R I h => ?_⟩
  refine thn (hl.run pins s σ H _ I h) fun v s1 ⟨x, H1, I1, r1, q1⟩ => ?_
  obtain ⟨a, e, q⟩ := q1
  subst e
  cases r1
  rcases q with ⟨⟨xs, hq⟩, q⟩ | ⟨⟨xs, hq⟩, q⟩
  · obtain ⟨its, rv, p, hz⟩ := I1.list hq
    refine wpAny_pyIter_list p.isList ?_
    refine ⟨s1.heap.objs.size, [s1.heap.objs.size], _, _, H1, rfl, I1.kept (t' := s1.toks) fun b o e => Heap.get?_push_of_some _ e, turn_list a _, ⟨_, Heap.get?_push_size _ rfl, rfl, rfl⟩, fun b hb => ?_, q⟩
    have e : b = s1.heap.objs.size := by simpa using hb
    subst e
    exact I1.fpOk (Nat.le_refl _) (I1.hok.fresh (Nat.le_refl _))
  · obtain ⟨its, rv, p, hz⟩ := I1.tuple hq
    refine wpAny_pyIter_tuple (show s1.heap.IsTuple a its.toArray from p) ?_
    refine ⟨s1.heap.objs.size, [s1.heap.objs.size], _, _, H1, rfl, I1.kept (t' := s1.toks) fun b o e => Heap.get?_push_of_some _ e, turn_tuple a _, ⟨_, Heap.get?_push_size _ rfl, rfl, rfl⟩, fun b hb => ?_, q⟩
    have e : b = s1.heap.objs.size := by simpa using hb
    subst e
    exact I1.fpOk (Nat.le_refl _) (I1.hok.fresh (Nat.le_refl _))
def iEnumA (K : PySem.W.Frag) (ta : TA) : TI := fun σ H R => ta σ H fun vs H1 => ∃ a xs, vs = [.ref a] ∧ ((SqL K H1 a xs ∧ R (Ite K a) H1) ∨ (SqT K H1 a xs ∧ R (IteT K a) H1))
theorem pi_enumA {X : Cx} {e : Expr} {ta : TA} {p pos tpos : Pos} {elts : List Expr} {kk : Nat} (hg : Gl X "enumerate") (hm : X.mg "enumerate" = none) (ha : PA X [e] ta) (hs : starEach [e] X.env = [(false, eval e X.env)] := by rfl) :
    PI X (.Tuple elts kk tpos) (.Call (.Name "enumerate" p) [e] [] pos) (iEnumA X.K ta) := by
  refine ⟨fun pins s σ H R I h => ?_⟩
  refine Call_ (ld_blt I hg hm boot_enumerate (PyProof.Rows.callWith_type1 (thn (ha.run pos pins s σ H _ I h) fun us s1 ⟨vs, H1, I1, r1, q1⟩ => ?_) hs rfl))
  obtain ⟨a, xs, ex, hq⟩ := q1
  subst ex
  cases r1 with
  | cons r rr =>
    cases rr
    cases r
    have fin : ∀ b, b = s1.heap.objs.size + 1 ∨ b = s1.heap.objs.size → s1.heap.objs.size ≤ b := fun b e' => by
      rcases e' with z | z
      · rw [z]; exact Nat.le_add_right _ _
      · rw [z]; exact Nat.le_refl _
    rcases hq with ⟨hq, q⟩ | ⟨hq, q⟩
    · obtain ⟨its, rv, p', hz⟩ := I1.list hq
      refine call_enumerate_list p'.isList fun h' he hit hsz hk => wpAny_pyIter_enum he ?_
      have I2 : Inv X pins σ H1 { s1 with heap := h' } := I1.kept (t' := s1.toks) hk
      refine ⟨s1.heap.objs.size + 1, [s1.heap.objs.size + 1, s1.heap.objs.size], _, _, H1, rfl, I2, turn_enum a (s1.heap.objs.size + 1) s1.heap.objs.size, ⟨⟨.none, he⟩, hit, Nat.succ_ne_self _⟩, fun b hb => ?_, q⟩
      have hle := fin b (by simpa using hb)
      exact I1.fpOk hle (I1.hok.fresh hle)
    · obtain ⟨its, rv, p', hz⟩ := I1.tuple hq
      have p2 : s1.heap.IsTuple a its.toArray := p'
      refine call_enumerate_tuple p2 fun h' he hit hsz hk => wpAny_pyIter_enum he ?_
      have I2 : Inv X pins σ H1 { s1 with heap := h' } := I1.kept (t' := s1.toks) hk
      have la : a < s1.heap.objs.size := p'.lt
      refine ⟨s1.heap.objs.size + 1, [s1.heap.objs.size + 1, s1.heap.objs.size], _, _, H1, rfl, I2, turn_enumT a (s1.heap.objs.size + 1) s1.heap.objs.size, ⟨⟨.none, he⟩, hit, Nat.succ_ne_self _, (Nat.ne_of_lt (Nat.lt_succ_of_lt la)).symm⟩, fun b hb => ?_, q⟩
      have hle := fin b (by simpa using hb)
      exact I1.fpOk hle (I1.hok.fresh hle)
/-! ### what a for reads -/
section
variable {K : PySem.W.Frag} {a : Addr} {xs : List V} {g : TG} {tb : TS} {D : Ends} {σ : L2.St} {H : Hp}
/-- the word of a for over the walk J -/
abbrev ForW (J : It) (g : TG) (tb : TS) (D : Ends) (σ : L2.St) (H : Hp) : Prop := ∃ W : Nat → Nat → L2.St → Hp → Prop, (∃ m, W 0 m σ H) ∧ ∀ i m σ H, W i m σ H →
  (J.stop i H ∧ D.nx σ H) ∨ (J.go i H ∧ ∃ N : L2.St → Hp → Prop, (∀ σ' H', N σ' H' → ∃ m', m' < m ∧ W (i + 1) m' σ' H') ∧ ∀ x H', J.yld i H x H' → g x σ H' fun σ2 H2 => tb { D with nx := N, ct := N, bk := D.nx } σ2 H2)
theorem for_seq (hx : SqA K H a xs) (Pv : Nat → L2.St → Hp → Prop) (h0 : Pv 0 σ H) (hl : ∀ i σ' H', Pv i σ' H' → ∀ o, H a = some o → H' a = some o)
    (hs : ∀ i x σ' H', xs[i]? = some x → Pv i σ' H' → g x σ' H' fun σ2 H2 => tb { D with nx := Pv (i + 1), ct := Pv (i + 1), bk := D.nx } σ2 H2) (hd : ∀ σ' H', Pv xs.length σ' H' → D.nx σ' H') :
    ((∃ xs, SqL K H a xs) ∧ ForW (Itl K a) g tb D σ H) ∨ ((∃ xs, SqT K H a xs) ∧ ForW (Itt K a) g tb D σ H) := by
  rcases hx with h | h
  · exact .inl ⟨⟨xs, h⟩, for_list Pv h0 (fun i σ' H' _ p => SqL.at (hl i σ' H' p) h) hs hd⟩
  · exact .inr ⟨⟨xs, h⟩, for_tup Pv h0 (fun i σ' H' _ p => SqT.at (hl i σ' H' p) h) hs hd⟩
theorem for_enum (hx : SqA K H a xs) (Pv : Nat → L2.St → Hp → Prop) (h0 : Pv 0 σ H) (hl : ∀ i σ' H', Pv i σ' H' → ∀ o, H a = some o → H' a = some o)
    (hs : ∀ i x T σ' H', xs[i]? = some x → Pv i σ' H' → H' T = none → g (.ref T) σ' (upd H' T (.tup [.int (i : Nat), x])) fun σ2 H2 => tb { D with nx := Pv (i + 1), ct := Pv (i + 1), bk := D.nx } σ2 H2) (hd : ∀ σ' H', Pv xs.length σ' H' → D.nx σ' H') :
    (SqL K H a xs ∧ ForW (Ite K a) g tb D σ H) ∨ (SqT K H a xs ∧ ForW (IteT K a) g tb D σ H) := by
  rcases hx with h | h
  · refine .inl ⟨h, fun i m σ H => m = xs.length - i ∧ i ≤ xs.length ∧ Pv i σ H, ⟨xs.length, by simp, Nat.zero_le _, h0⟩, ?_⟩
    rintro i m σ' H' ⟨rfl, hi, p⟩
    have q := SqL.at (hl i σ' H' p) h
    by_cases hlt : i < xs.length
    · refine .inr ⟨⟨xs, xs[i], q, by simp [hlt]⟩, Pv (i + 1), fun σ2 H2 p' => ⟨xs.length - (i + 1), by omega, rfl, hlt, p'⟩, fun x H2 y => ?_⟩
      obtain ⟨T, x', rfl, hT, rfl, y⟩ := y
      exact hs i x' T σ' H' (y xs q) p hT
    · have e : i = xs.length := by omega
      subst e
      exact .inl ⟨⟨xs, q, Nat.le_refl _⟩, hd σ' H' p⟩
  · refine .inr ⟨h, fun i m σ H => m = xs.length - i ∧ i ≤ xs.length ∧ Pv i σ H, ⟨xs.length, by simp, Nat.zero_le _, h0⟩, ?_⟩
    rintro i m σ' H' ⟨rfl, hi, p⟩
    have q := SqT.at (hl i σ' H' p) h
    by_cases hlt : i < xs.length
    · refine .inr ⟨⟨xs, xs[i], q, by simp [hlt]⟩, Pv (i + 1), fun σ2 H2 p' => ⟨xs.length - (i + 1), by omega, rfl, hlt, p'⟩, fun x H2 y => ?_⟩
      obtain ⟨T, x', rfl, hT, rfl, y⟩ := y
      exact hs i x' T σ' H' (y xs q) p hT
    · have e : i = xs.length := by omega
      subst e
      exact .inl ⟨⟨xs, q, Nat.le_refl _⟩, hd σ' H' p⟩
/-- reversed(range(n)) -/
theorem for_rev {lo : Int} {n : Nat} (hlo : lo = (n : Int) - 1) (Pv : Nat → L2.St → Hp → Prop) (h0 : Pv 0 σ H)
    (hs : ∀ i σ' H', i < n → Pv i σ' H' → g (.int ((n - 1 - i : Nat) : Int)) σ' H' fun σ2 H2 => tb { D with nx := Pv (i + 1), ct := Pv (i + 1), bk := D.nx } σ2 H2) (hd : ∀ σ' H', Pv n σ' H' → D.nx σ' H') :
    ForW (Itc lo (-1) n) g tb D σ H := by
  refine ⟨fun i m σ H => m = n - i ∧ i ≤ n ∧ Pv i σ H, ⟨n, by simp, Nat.zero_le _, h0⟩, ?_⟩
  rintro i m σ' H' ⟨rfl, hi, p⟩
  by_cases hlt : i < n
  · refine .inr ⟨hlt, Pv (i + 1), fun σ2 H2 p' => ⟨n - (i + 1), by omega, rfl, hlt, p'⟩, fun x H2 y => ?_⟩
    obtain ⟨e, e2⟩ := y
    subst e e2
    have e3 : lo + (i : Nat) * (-1) = ((n - 1 - i : Nat) : Int) := by omega
    rw [e3]
    exact hs i σ' _ hlt p
  · have e : i = n := by omega
    subst e
    exact .inl ⟨Nat.le_refl _, hd σ' H' p⟩
end
/-- a, b = a pair -/
theorem g_two {K : PySem.W.Frag} {i j : Nat} {T : Addr} {x y : V} {σ : L2.St} {H : Hp} {R : L2.St → Hp → Prop} (h : H T = some (.tup [x, y])) (k : R ((σ.set i (some x)).set j (some y)) H) :
    gTup K 2 (gCons (gName i) (gCons (gName j) gNil)) (.ref T) σ H R := ⟨T, [x, y], rfl, SqT.of h, rfl, x, [y], rfl, y, [], rfl, rfl, k⟩
/-- a, (b, c) = a pair whose second is a pair -/
theorem g_three {K : PySem.W.Frag} {i j l : Nat} {T U : Addr} {x y z : V} {σ : L2.St} {H : Hp} {R : L2.St → Hp → Prop} (h : H T = some (.tup [x, .ref U])) (h2 : H U = some (.tup [y, z])) (k : R (((σ.set i (some x)).set j (some y)).set l (some z)) H) :
    gTup K 2 (gCons (gName i) (gCons (gTup K 2 (gCons (gName j) (gCons (gName l) gNil))) gNil)) (.ref T) σ H R := ⟨T, [x, .ref U], rfl, SqT.of h, rfl, x, [.ref U], rfl, .ref U, [], rfl, U, [y, z], rfl, SqT.of h2, rfl, y, [z], rfl, z, [], rfl, rfl, rfl, k⟩
/-! ### what a comprehension reads -/
section
variable {K : PySem.W.Frag} {a : Addr} {xs : List V} {g : TG} {tt : TT} {te : TE} {vs : List Nat} {σ : L2.St} {H1 : Hp} {D : Addr} {Qd : Hp → Prop}
abbrev LcW (J : It) (g : TG) (tt : TT) (te : TE) (vs : List Nat) (σ : L2.St) (H1 : Hp) (D : Addr) (Qd : Hp → Prop) : Prop := ∃ W : Nat → Nat → Hp → Prop, (∃ m, W 0 m (upd H1 D (.lst []))) ∧ ∀ i m H, W i m H →
  (J.stop i H ∧ Qd H) ∨ (J.go i H ∧ ∃ Nx : Hp → Prop, (∀ H', Nx H' → ∃ m', m' < m ∧ W (i + 1) m' H') ∧ ∀ x H', J.yld i H x H' → g x (wipe σ vs) H' fun σ2 H2 => wipe σ2 vs = wipe σ vs ∧ tt σ2 H2 fun b H3 =>
    if b = true then te σ2 H3 fun y H4 => ∃ acc, H4 D = some (.lst acc) ∧ acc.length < sizeLine ∧ Nx (upd H4 D (.lst (acc ++ [y]))) else Nx H3)
/-- one turn's end: the element kept -/
abbrev LcT (g : TG) (tt : TT) (te : TE) (vs : List Nat) (σ : L2.St) (D : Addr) (Nx : Hp → Prop) (x : V) (H' : Hp) : Prop := g x (wipe σ vs) H' fun σ2 H2 => wipe σ2 vs = wipe σ vs ∧ tt σ2 H2 fun b H3 =>
    if b = true then te σ2 H3 fun y H4 => ∃ acc, H4 D = some (.lst acc) ∧ acc.length < sizeLine ∧ Nx (upd H4 D (.lst (acc ++ [y]))) else Nx H3
/-- over a list or a tuple, any word -/
theorem lc_seq {Q : VK} (hx : SqA K H1 a xs) (Pv : Addr → Nat → Hp → Prop) (h0 : ∀ D, H1 D = none → Pv D 0 (upd H1 D (.lst []))) (hl : ∀ D i H', H1 D = none → Pv D i H' → ∀ o, H1 a = some o → H' a = some o)
    (hs : ∀ D i x H', H1 D = none → xs[i]? = some x → Pv D i H' → LcT g tt te vs σ D (Pv D (i + 1)) x H') (hd : ∀ D H', H1 D = none → Pv D xs.length H' → Q (.ref D) H') :
    ((∃ xs, SqL K H1 a xs) ∧ ∀ D, H1 D = none → LcW (Itl K a) g tt te vs σ H1 D (Q (.ref D))) ∨ ((∃ xs, SqT K H1 a xs) ∧ ∀ D, H1 D = none → LcW (Itt K a) g tt te vs σ H1 D (Q (.ref D))) := by
  rcases hx with h | h
  · exact .inl ⟨⟨xs, h⟩, fun D e => lc_list (xs := xs) (Pv D) (h0 D e) (fun i H' _ p => SqL.at (hl D i H' e p) h) (fun i x H' hi p => hs D i x H' e hi p) (fun H' p => hd D H' e p)⟩
  · exact .inr ⟨⟨xs, h⟩, fun D e => lc_tup (xs := xs) (Pv D) (h0 D e) (fun i H' _ p => SqT.at (hl D i H' e p) h) (fun i x H' hi p => hs D i x H' e hi p) (fun H' p => hd D H' e p)⟩
/-- over enumerate of a list or a tuple, any word -/
theorem lc_enum {Q : VK} (hx : SqA K H1 a xs) (Pv : Addr → Nat → Hp → Prop) (h0 : ∀ D, H1 D = none → Pv D 0 (upd H1 D (.lst []))) (hl : ∀ D i H', H1 D = none → Pv D i H' → ∀ o, H1 a = some o → H' a = some o)
    (hs : ∀ D i x T H', H1 D = none → xs[i]? = some x → Pv D i H' → H' T = none → LcT g tt te vs σ D (Pv D (i + 1)) (.ref T) (upd H' T (.tup [.int (i : Nat), x]))) (hd : ∀ D H', H1 D = none → Pv D xs.length H' → Q (.ref D) H') :
    (SqL K H1 a xs ∧ ∀ D, H1 D = none → LcW (Ite K a) g tt te vs σ H1 D (Q (.ref D))) ∨ (SqT K H1 a xs ∧ ∀ D, H1 D = none → LcW (IteT K a) g tt te vs σ H1 D (Q (.ref D))) := by
  rcases hx with h | h
  · refine .inl ⟨h, fun D eD => ⟨fun i m H => m = xs.length - i ∧ i ≤ xs.length ∧ Pv D i H, ⟨xs.length, by simp, Nat.zero_le _, h0 D eD⟩, ?_⟩⟩
    rintro i m H' ⟨rfl, hi, p⟩
    have q := SqL.at (hl D i H' eD p) h
    by_cases hlt : i < xs.length
    · refine .inr ⟨⟨xs, xs[i], q, by simp [hlt]⟩, Pv D (i + 1), fun H2 p' => ⟨xs.length - (i + 1), by omega, rfl, hlt, p'⟩, fun x H2 y => ?_⟩
      obtain ⟨T, x', rfl, hT, rfl, y⟩ := y
      exact hs D i x' T H' eD (y xs q) p hT
    · have e : i = xs.length := by omega
      subst e
      exact .inl ⟨⟨xs, q, Nat.le_refl _⟩, hd D H' eD p⟩
  · refine .inr ⟨h, fun D eD => ⟨fun i m H => m = xs.length - i ∧ i ≤ xs.length ∧ Pv D i H, ⟨xs.length, by simp, Nat.zero_le _, h0 D eD⟩, ?_⟩⟩
    rintro i m H' ⟨rfl, hi, p⟩
    have q := SqT.at (hl D i H' eD p) h
    by_cases hlt : i < xs.length
    · refine .inr ⟨⟨xs, xs[i], q, by simp [hlt]⟩, Pv D (i + 1), fun H2 p' => ⟨xs.length - (i + 1), by omega, rfl, hlt, p'⟩, fun x H2 y => ?_⟩
      obtain ⟨T, x', rfl, hT, rfl, y⟩ := y
      exact hs D i x' T H' eD (y xs q) p hT
    · have e : i = xs.length := by omega
      subst e
      exact .inl ⟨⟨xs, q, Nat.le_refl _⟩, hd D H' eD p⟩
/-- over range(n) -/
theorem lc_rng {Q : VK} {n : Nat} (Pv : Addr → Nat → Hp → Prop) (h0 : ∀ D, H1 D = none → Pv D 0 (upd H1 D (.lst [])))
    (hs : ∀ D (i : Nat) H', H1 D = none → i < n → Pv D i H' → LcT g tt te vs σ D (Pv D (i + 1)) (.int (i : Int)) H') (hd : ∀ D H', H1 D = none → Pv D n H' → Q (.ref D) H') :
    ∀ D, H1 D = none → LcW (Itr 0 n) g tt te vs σ H1 D (Q (.ref D)) := fun D e =>
  lc_range (lo := 0) (n := n) (Pv D) (h0 D e) (fun i H' hi p => by
    have e0 : (0 : Int) + (i : Int) = (i : Int) := Int.zero_add _
    rw [e0]
    exact hs D i H' e hi p) (fun H' p => hd D H' e p)
/-- over zip of two tuples or two lists of one length, any word -/
theorem lc_zip {Q : VK} {b : Addr} {ys : List V} (hlen : xs.length = ys.length) (hx : (SqL K H1 a xs ∧ SqL K H1 b ys) ∨ (SqT K H1 a xs ∧ SqT K H1 b ys)) (Pv : Addr → Nat → Hp → Prop) (h0 : ∀ D, H1 D = none → Pv D 0 (upd H1 D (.lst [])))
    (hl : ∀ D i H', H1 D = none → Pv D i H' → (∀ o, H1 a = some o → H' a = some o) ∧ ∀ o, H1 b = some o → H' b = some o)
    (hs : ∀ D i x y T H', H1 D = none → xs[i]? = some x → ys[i]? = some y → Pv D i H' → H' T = none → LcT g tt te vs σ D (Pv D (i + 1)) (.ref T) (upd H' T (.tup [x, y]))) (hd : ∀ D H', H1 D = none → Pv D xs.length H' → Q (.ref D) H') :
    (SqL K H1 a xs ∧ SqL K H1 b ys ∧ ∀ D, H1 D = none → LcW (Itz K a b) g tt te vs σ H1 D (Q (.ref D))) ∨ (SqT K H1 a xs ∧ SqT K H1 b ys ∧ ∀ D, H1 D = none → LcW (ItzT K a b) g tt te vs σ H1 D (Q (.ref D))) := by
  rcases hx with ⟨h, h'⟩ | ⟨h, h'⟩
  · refine .inl ⟨h, h', fun D eD => ⟨fun i m H => m = xs.length - i ∧ i ≤ xs.length ∧ Pv D i H, ⟨xs.length, by simp, Nat.zero_le _, h0 D eD⟩, ?_⟩⟩
    rintro i m H' ⟨rfl, hi, p⟩
    have q := SqL.at (hl D i H' eD p).1 h
    have q' := SqL.at (hl D i H' eD p).2 h'
    by_cases hlt : i < xs.length
    · have hlt' : i < ys.length := by omega
      refine .inr ⟨⟨xs, ys, xs[i], ys[i], q, q', by simp [hlt], by simp [hlt']⟩, Pv D (i + 1), fun H2 p' => ⟨xs.length - (i + 1), by omega, rfl, hlt, p'⟩, fun x H2 y => ?_⟩
      obtain ⟨T, x', y', rfl, hT, rfl, y1, y2⟩ := y
      exact hs D i x' y' T H' eD (y1 xs q) (y2 ys q') p hT
    · have e : i = xs.length := by omega
      subst e
      exact .inl ⟨⟨xs, ys, q, q', .inl (Nat.le_refl _)⟩, hd D H' eD p⟩
  · refine .inr ⟨h, h', fun D eD => ⟨fun i m H => m = xs.length - i ∧ i ≤ xs.length ∧ Pv D i H, ⟨xs.length, by simp, Nat.zero_le _, h0 D eD⟩, ?_⟩⟩
    rintro i m H' ⟨rfl, hi, p⟩
    have q := SqT.at (hl D i H' eD p).1 h
    have q' := SqT.at (hl D i H' eD p).2 h'
    by_cases hlt : i < xs.length
    · have hlt' : i < ys.length := by omega
      refine .inr ⟨⟨xs, ys, xs[i], ys[i], q, q', by simp [hlt], by simp [hlt']⟩, Pv D (i + 1), fun H2 p' => ⟨xs.length - (i + 1), by omega, rfl, hlt, p'⟩, fun x H2 y => ?_⟩
      obtain ⟨T, x', y', rfl, hT, rfl, y1, y2⟩ := y
      exact hs D i x' y' T H' eD (y1 xs q) (y2 ys q') p hT
    · have e : i = xs.length := by omega
      subst e
      exact .inl ⟨⟨xs, ys, q, q', .inl (Nat.le_refl _)⟩, hd D H' eD p⟩
end
/-! ### heaps -/
theorem same_upd {H : Hp} {p : Addr} {o : HO} (h : H p = none) : Same H (upd H p o) := fun b x e => by
  rw [upd_ne (ne_of_none e h)]
  exact e
/-- an object that H does not know may change -/
theorem _root_.L2.Same.mut {H H' : Hp} {p : Addr} {o : HO} (e : Same H H') (h : H p = none) : Same H (upd H' p o) := fun a u ha => by
  rw [upd_ne (ne_of_none ha h)]
  exact e a u ha
theorem _root_.L2.Same.new {H H' : Hp} {p : Addr} {o : HO} (e : Same H H') (h : H' p = none) : Same H (upd H' p o) := e.trans (same_upd h)
theorem _root_.L2.Same.at {H H' : Hp} (e : Same H H') {a : Addr} : ∀ o, H a = some o → H' a = some o := fun o h => e a o h
theorem _root_.L2.Same.sa {K : PySem.W.Frag} {H H' : Hp} {a : Addr} {xs : List V} (e : Same H H') (h : SqA K H a xs) : SqA K H' a xs := SqA.at e.at h
/-- te evaluates to v and only makes new things -/
def EvS (te : TE) (σ : L2.St) (H : Hp) (v : V) : Prop := ∀ Q : VK, (∀ H', Same H H' → Q v H') → te σ H Q
def EtS (tt : TT) (σ : L2.St) (H : Hp) (b : Bool) : Prop := ∀ Q : Bool → Hp → Prop, (∀ H', Same H H' → Q b H') → tt σ H Q
theorem EtS.yes {σ : L2.St} {H : Hp} : EtS tYes σ H true := fun Q q => q H (Same.refl H)
/-- what a comprehension keeps -/
def fmI (F : Nat → V → Option V) : Nat → List V → List V
  | _, [] => []
  | i, x :: xs => (F i x).toList ++ fmI F (i + 1) xs
theorem fmI_take {F : Nat → V → Option V} : ∀ {xs : List V} {k i : Nat} {x : V}, xs[i]? = some x → fmI F k (xs.take (i + 1)) = fmI F k (xs.take i) ++ (F (k + i) x).toList
  | [], _, _, _, h => by simp at h
  | y :: xs, k, 0, x, h => by
    have e : y = x := by simpa using h
    subst e
    show (F k y).toList ++ fmI F (k + 1) (xs.take 0) = [] ++ (F (k + 0) y).toList
    rw [List.take_zero]
    show (F k y).toList ++ [] = _
    rw [List.append_nil]
    rfl
  | y :: xs, k, i + 1, x, h => by
    have ih := fmI_take (F := F) (xs := xs) (k := k + 1) (i := i) (x := x) (by simpa using h)
    show (F k y).toList ++ fmI F (k + 1) (xs.take (i + 1)) = ((F k y).toList ++ fmI F (k + 1) (xs.take i)) ++ (F (k + (i + 1)) x).toList
    rw [ih, List.append_assoc, show k + 1 + i = k + (i + 1) by omega]
theorem fmI_len (F : Nat → V → Option V) : ∀ (xs : List V) (k : Nat), (fmI F k xs).length ≤ xs.length
  | [], _ => Nat.le_refl _
  | x :: xs, k => by
    have h := fmI_len F xs (k + 1)
    show ((F k x).toList ++ fmI F (k + 1) xs).length ≤ xs.length + 1
    rw [List.length_append]
    have : (F k x).toList.length ≤ 1 := by cases F k x <;> simp
    omega
section
variable {K : PySem.W.Frag} {a : Addr} {xs : List V} {g : TG} {tt : TT} {te : TE} {vs : List Nat} {σ : L2.St} {H1 : Hp}
/-- one turn of a comprehension that only makes new things -/
theorem lcT_pure {j : Nat} {x : V} {D : Addr} {H' : Hp} {acc : List V} {o : Option V} {Nx : Hp → Prop} (hD : H1 D = none) (s : Same H1 H') (hA : H' D = some (.lst acc)) (hz : acc.length < 5000)
    (hw : wipe ((wipe σ vs).set j (some x)) vs = wipe σ vs) (ht : EtS tt ((wipe σ vs).set j (some x)) H' o.isSome) (he : ∀ y, o = some y → ∀ H2, Same H' H2 → EvS te ((wipe σ vs).set j (some x)) H2 y)
    (k : ∀ H4, Same H1 H4 → H4 D = some (.lst (acc ++ o.toList)) → Nx H4) : LcT (gName j) tt te vs σ D Nx x H' := by
  refine ⟨hw, ht _ fun H3 s3 => ?_⟩
  cases o with
  | none =>
    rw [show (Option.isSome (none : Option V)) = false from rfl, if_neg Bool.false_ne_true]
    refine k H3 (s.trans s3) ?_
    rw [s3 _ _ hA]
    simp
  | some y =>
    rw [show (Option.isSome (some y)) = true from rfl, if_pos rfl]
    refine he y rfl H3 s3 _ fun H4 s4 => ⟨acc, s4 _ _ (s3 _ _ hA), Nat.lt_of_lt_of_le hz (by decide), ?_⟩
    exact k _ ((s.trans (s3.trans s4)).mut hD) upd_same
/-- [e for x in xs if t], xs a list or a tuple -/
theorem lc_fm {Q : VK} {j : Nat} (F : Nat → V → Option V) (hx : SqA K H1 a xs) (hz : xs.length ≤ 1000) (hw : ∀ x, wipe ((wipe σ vs).set j (some x)) vs = wipe σ vs)
    (ht : ∀ i x H', xs[i]? = some x → Same H1 H' → EtS tt ((wipe σ vs).set j (some x)) H' (F i x).isSome) (he : ∀ i x y H', xs[i]? = some x → F i x = some y → Same H1 H' → EvS te ((wipe σ vs).set j (some x)) H' y)
    (hd : ∀ D H', H1 D = none → Same H1 H' → H' D = some (.lst (fmI F 0 xs)) → Q (.ref D) H') :
    ((∃ xs, SqL K H1 a xs) ∧ ∀ D, H1 D = none → LcW (Itl K a) (gName j) tt te vs σ H1 D (Q (.ref D))) ∨ ((∃ xs, SqT K H1 a xs) ∧ ∀ D, H1 D = none → LcW (Itt K a) (gName j) tt te vs σ H1 D (Q (.ref D))) := by
  refine lc_seq hx (fun D i H' => Same H1 H' ∧ H' D = some (.lst (fmI F 0 (xs.take i)))) (fun D hD => ⟨same_upd hD, upd_same⟩) (fun D i H' _ p => p.1.at) (fun D i x H' hD hi p => ?_) (fun D H' hD p => ?_)
  · refine lcT_pure (o := F i x) hD p.1 p.2 ?_ (hw x) (ht i x H' hi p.1) (fun y e H2 s2 => he i x y H2 hi e (p.1.trans s2)) fun H4 s4 e4 => ⟨s4, ?_⟩
    · have := fmI_len F (xs.take i) 0
      rw [List.length_take] at this
      omega
    · rw [fmI_take hi, Nat.zero_add]
      exact e4
  · rw [List.take_length] at p
    exact hd D H' hD p.1 p.2
/-- [e for x in range(n) if t] -/
theorem lc_fmR {Q : VK} {j n : Nat} (F : Nat → V → Option V) (hz : n ≤ 1000) (hw : ∀ x, wipe ((wipe σ vs).set j (some x)) vs = wipe σ vs)
    (ht : ∀ (i : Nat) H', i < n → Same H1 H' → EtS tt ((wipe σ vs).set j (some (.int (i : Int)))) H' (F i (.int (i : Int))).isSome) (he : ∀ (i : Nat) y H', i < n → F i (.int (i : Int)) = some y → Same H1 H' → EvS te ((wipe σ vs).set j (some (.int (i : Int)))) H' y)
    (hd : ∀ D H', H1 D = none → Same H1 H' → H' D = some (.lst (fmI F 0 ((List.range n).map fun (i : Nat) => V.int (i : Int)))) → Q (.ref D) H') :
    ∀ D, H1 D = none → LcW (Itr 0 n) (gName j) tt te vs σ H1 D (Q (.ref D)) := by
  have hlen : ((List.range n).map fun (i : Nat) => V.int (i : Int)).length = n := by rw [List.length_map, List.length_range]
  have hat : ∀ i, i < n → ((List.range n).map fun (i : Nat) => V.int (i : Int))[i]? = some (V.int (i : Int)) := fun i hi => by rw [List.getElem?_map, List.getElem?_range hi]; rfl
  refine lc_rng (fun D i H' => Same H1 H' ∧ H' D = some (.lst (fmI F 0 (((List.range n).map fun (i : Nat) => V.int (i : Int)).take i)))) (fun D hD => ⟨same_upd hD, upd_same⟩) (fun D i H' hD hi p => ?_) (fun D H' hD p => ?_)
  · refine lcT_pure (o := F i (.int (i : Int))) hD p.1 p.2 ?_ (hw _) (ht i H' hi p.1) (fun y e H2 s2 => he i y H2 hi e (p.1.trans s2)) fun H4 s4 e4 => ⟨s4, ?_⟩
    · have := fmI_len F (((List.range n).map fun (i : Nat) => V.int (i : Int)).take i) 0
      rw [List.length_take] at this
      omega
    · rw [fmI_take (hat i hi), Nat.zero_add]
      exact e4
  · rw [List.take_of_length_le (by rw [hlen]; exact Nat.le_refl _)] at p
    exact hd D H' hD p.1 p.2
/-- what maps keep -/
theorem fmI_map {α : Type} (f : α → V) (F : Nat → V → Option V) (e : α → V) : ∀ (l : List α) (k : Nat), (∀ i x, l[i]? = some x → F (k + i) (e x) = some (f x)) → fmI F k (l.map e) = l.map f
  | [], _, _ => rfl
  | x :: l, k, h => by
    have h0 := h 0 x rfl
    rw [Nat.add_zero] at h0
    show (F k (e x)).toList ++ fmI F (k + 1) (l.map e) = f x :: l.map f
    rw [h0, fmI_map f F e l (k + 1) (fun i y hi => by rw [show k + 1 + i = k + (i + 1) by omega]; exact h (i + 1) y hi)]
    rfl
end
/-! ### defs that can be called -/
structure Cal (P : Program) (w : World) (K : PySem.W.Frag) (mg : Str → Option Value) (base : Heap) (k : Nat) (x : Str) (ps : List Str) (sp : Sp) : Prop where
  ex : ∃ (f : Addr) (fd : FuncData), FnOk P w K mg base CX0 k f fd ps sp ∧ mg x = some (.ref f) ∧ PySem.W.keepIn K (.ref f) = true ∧ Binds K fd ps []
structure CalM (P : Program) (w : World) (K : PySem.W.Frag) (mg : Str → Option Value) (base : Heap) (k : Nat) (C : Addr) (m : Str) (ps : List Str) (sp : Sp) : Prop where
  ex : ∃ (f : Addr) (fd : FuncData), FnOk P w K mg base CX0 k f fd ps sp ∧ Meth K C m f ∧ Binds K fd ps []
  cl : Cls K C
structure CalC (P : Program) (w : World) (K : PySem.W.Frag) (mg : Str → Option Value) (base : Heap) (k : Nat) (x : Str) (C : Addr) (ps : List Str) (sp : Sp) : Prop where
  ex : ∃ (f : Addr) (fd : FuncData), FnOk P w K mg base CX0 k f fd ps sp ∧ Mk K C f ∧ Binds K fd ps []
  g : mg x = some (.ref C)
section
variable {X : Cx} {k j : Nat} {x m : Str} {ps : List Str} {sp : Sp} {e o : Expr} {es : List Expr} {p pos apos : Pos} {t : TA} {ta : TE} {C : Addr}
theorem pe_cal (c : Cal X.prog X.w X.K X.mg X.base k x ps sp) (hr : Room j X.A) (hg : Gl X x) (ha : PA X (e :: es) t) (hk : k ≤ j := by decide) (hdb : (x == ("__debug__" : Str)) = false := by decide)
    (he : starEach (e :: es) X.env = (false, eval e X.env) :: starEach es X.env := by rfl) (hpl : (backTo pos (starEach es X.env)).any (·.1) = false := by rfl) : PE X (.Call (.Name x p) (e :: es) [] pos) (tCall sp [] E0 t) := by
  obtain ⟨f, fd, F, hm, kp, b⟩ := c.ex
  exact pe_call F (hr.mono hk) hg hm kp b .nil pass0 ha hdb he hpl
theorem pe_mcal {pl : Sem Bool} (c : CalM X.prog X.w X.K X.mg X.base k C m ps sp) (hr : Room j X.A) (he : PE X o ta) (ha : PA X (e :: es) t) (hk : k ≤ j := by decide)
    (hst : starEach (e :: es) X.env = (false, eval e X.env) :: starEach es X.env := by rfl) (hpl : (backTo pos (starEach es X.env)).any (·.1) = false := by rfl)
    (ht : eval (.Call (.Attribute o m apos) (e :: es) [] pos) X.env = (do
      let ov ← eval o X.env
      standAt apos.atName
      let (f, first) ← holding [ov] (getMethod ov m pl)
      callWith pos f first (backTo pos (starEach (e :: es) X.env)) (backToKw pos (keywordEach [] X.env))) := by rfl) : PE X (.Call (.Attribute o m apos) (e :: es) [] pos) (tMeth C m sp [] E0 ta t) := by
  obtain ⟨f, fd, F, hm, b⟩ := c.ex
  exact pe_meth he c.cl hm F (hr.mono hk) b .nil pass0 ha hst hpl ht
theorem pe_mkcal (c : CalC X.prog X.w X.K X.mg X.base k x C ps sp) (hr : Room j X.A) (hg : Gl X x) (ha : PA X (e :: es) t) (hk : k + 1 ≤ j := by decide) (hdb : (x == ("__debug__" : Str)) = false := by decide)
    (he : starEach (e :: es) X.env = (false, eval e X.env) :: starEach es X.env := by rfl) (hpl : (backTo pos (starEach es X.env)).any (·.1) = false := by rfl) : PE X (.Call (.Name x p) (e :: es) [] pos) (tMake C sp [] E0 t) := by
  obtain ⟨f, fd, F, M, b⟩ := c.ex
  exact pe_make M F (hr.mono hk) hg c.g b .nil pass0 ha hdb he hpl
end
/-- a def of the text: where it stands, how its arguments bind -/
structure Df (K : PySem.W.Frag) (mg : Str → Option Value) (x : Str) (st : Stmt) (ps : List Str) : Prop where
  ex : ∃ (f : Addr) (fd : FuncData), Fun K x x st f fd ∧ mg x = some (.ref f) ∧ Binds K fd ps []
structure DfM (K : PySem.W.Frag) (C : Addr) (m qual : Str) (st : Stmt) (ps : List Str) : Prop where
  ex : ∃ (f : Addr) (fd : FuncData), Fun K m qual st f fd ∧ Meth K C m f ∧ Binds K fd ps []
structure DfC (K : PySem.W.Frag) (C : Addr) (qual : Str) (st : Stmt) (ps : List Str) : Prop where
  ex : ∃ (f : Addr) (fd : FuncData), Fun K "__init__" qual st f fd ∧ Mk K C f ∧ Binds K fd ps []
section
variable {P : Program} {w : World} {K : PySem.W.Frag} {mg : Str → Option Value} {base : Heap} {k : Nat} {x m qual : Str} {st : Stmt} {N ps : List Str} {sp : Sp} {C : Addr}
abbrev BodyOk (P : Program) (w : World) (K : PySem.W.Frag) (mg : Str → Option Value) (base : Heap) (k : Nat) (qual : Str) (st : Stmt) (N : List Str) (sp : Sp) : Prop :=
  ∀ (f : Addr) (cdv : Value) (A : Around) (outer : List Env) (s : Shared) (H : Hp) (vs : List V) (Q : VK) (E : XK), Room k (A.deeper (envOfC qual (defScope st) s.heap.objs.size f cdv)) → sp vs H Q E →
      ∃ t, PSs (cxOf CX0 P w K mg base N qual (defScope st) f cdv A outer s H E).nox (defBody st) t ∧ t { nx := fun _ H' => Q .non H', rt := Q } (start N vs) H
theorem Df.ok (D : Df K mg x st ps) (S : FnScope N ps (defScope st)) (len : ∀ vs H Q E, sp vs H Q E → vs.length = ps.length) (hb : BodyOk P w K mg base k x st N sp) : Cal P w K mg base (k + 1) x ps sp := by
  obtain ⟨f, fd, F, g, b⟩ := D.ex
  exact ⟨f, fd, F.ok S len (hb f), g, F.kp, b⟩
theorem DfM.ok (D : DfM K C m qual st ps) (c : Cls K C) (S : FnScope N ps (defScope st)) (len : ∀ vs H Q E, sp vs H Q E → vs.length = ps.length) (hb : BodyOk P w K mg base k qual st N sp) : CalM P w K mg base (k + 1) C m ps sp := by
  obtain ⟨f, fd, F, g, b⟩ := D.ex
  exact ⟨⟨f, fd, F.ok S len (hb f), g, b⟩, c⟩
theorem DfC.ok (D : DfC K C qual st ps) (g : mg x = some (.ref C)) (S : FnScope N ps (defScope st)) (len : ∀ vs H Q E, sp vs H Q E → vs.length = ps.length) (hb : BodyOk P w K mg base k qual st N sp) : CalC P w K mg base (k + 1) x C ps sp := by
  obtain ⟨f, fd, F, M, b⟩ := D.ex
  exact ⟨⟨f, fd, F.ok S len (hb f), M, b⟩, g⟩
end
end K15
namespace K15
open PySem PySem.Spec PyProof.Rows L2 RZ
/-! ### named readings of the calls that are used -/
def rLenA (K : PySem.W.Frag) : List V → Hp → VK → Prop := fun xs H Q => ∃ p ys, xs = [.ref p] ∧ SqA K H p ys ∧ Q (.int ys.length) H
theorem cr_len {X : Cx} : CallR X (.builtin "len") (rLenA X.K) := call_len_seq
def rListOf (K : PySem.W.Frag) : List V → Hp → VK → Prop := fun xs H Q => ∃ p ys, xs = [.ref p] ∧ SqA K H p ys ∧ ∀ l, H l = none → Q (.ref l) (upd H l (.lst ys))
theorem cr_list {X : Cx} : CallR X (.type "list") (rListOf X.K) := call_list_of
def rTupOf (K : PySem.W.Frag) : List V → Hp → VK → Prop := fun xs H Q => ∃ p ys, xs = [.ref p] ∧ ((SqL K H p ys ∧ ∀ l, H l = none → Q (.ref l) (upd H l (.tup ys))) ∨ (SqT K H p ys ∧ Q (.ref p) H))
theorem cr_tup {X : Cx} : CallR X (.type "tuple") (rTupOf X.K) := call_tuple_of
def rAbs : List V → Hp → VK → Prop := fun xs H Q => ∃ i, xs = [.int i] ∧ Q (.int (if i < 0 then -i else i)) H
theorem cr_abs {X : Cx} : CallR X (.builtin "abs") rAbs := call_abs
def rMax2 : List V → Hp → VK → Prop := fun xs H Q => ∃ i j, xs = [.int i, .int j] ∧ Q (.int (if j > i then j else i)) H
theorem cr_max2 {X : Cx} (hc : X.calm = true) : CallR X (.builtin "max") rMax2 := call_max2 hc
def rMin2 : List V → Hp → VK → Prop := fun xs H Q => ∃ i j, xs = [.int i, .int j] ∧ Q (.int (if j < i then j else i)) H
theorem cr_min2 {X : Cx} (hc : X.calm = true) : CallR X (.builtin "min") rMin2 := call_min2 hc
def rInt1 : List V → Hp → VK → Prop := fun xs H Q => ∃ i, xs = [.int i] ∧ Q (.int i) H
theorem cr_int {X : Cx} : CallR X (.type "int") rInt1 := fun pins s σ H xs us Q I r h => call_int1 pins s σ H xs us Q I r (.inl h)
def rIsN : R2 := fun x y H Q => y = .non ∧ Q (.bl (decide (x = .non))) H
theorem op_isNI {X : Cx} : OpR X (compareOp .Is) rIsN := op_isN
def rNotN : R2 := fun x y H Q => y = .non ∧ Q (.bl (!decide (x = .non))) H
theorem op_notNI {X : Cx} : OpR X (compareOp .IsNot) rNotN := op_notN
def rAddI : R2 := rI0 fun i j => .int (i + j)
theorem op_addI {X : Cx} : OpR X (binaryOp .Add) rAddI := op_add
def rSubI : R2 := rI0 fun i j => .int (i - j)
theorem op_subI {X : Cx} : OpR X (binaryOp .Sub) rSubI := op_sub
def rLtI : R2 := rI0 fun i j => .bl (decide (i < j))
theorem op_ltI {X : Cx} : OpR X (compareOp .Lt) rLtI := op_lt
def rLeI : R2 := rI0 fun i j => .bl (decide (i ≤ j))
theorem op_leI {X : Cx} : OpR X (compareOp .LtE) rLeI := op_le
def rGtI : R2 := rI0 fun i j => .bl (decide (j < i))
theorem op_gtI {X : Cx} : OpR X (compareOp .Gt) rGtI := op_gt
def rGeI : R2 := rI0 fun i j => .bl (decide (j ≤ i))
theorem op_geI {X : Cx} : OpR X (compareOp .GtE) rGeI := op_ge
def rNegI : V → Hp → VK → Prop := rU fun i => .int (-i)
theorem un_negI {X : Cx} : UnR X (unaryOp .USub) rNegI := un_neg
def rMulI : R2 := fun x y H Q => ∃ i j, x = .int i ∧ y = .int j ∧ ((-(2 ^ 64) < i ∧ i < 2 ^ 64) ∨ (-(2 ^ 64) < j ∧ j < 2 ^ 64)) ∧ Q (.int (i * j)) H
theorem op_mulI {X : Cx} : OpR X (binaryOp .Mult) rMulI := op_mul
def rModI : R2 := rI (fun _ j => 0 < j) fun i j => .int (i % j)
theorem op_modI {X : Cx} : OpR X (binaryOp .Mod) rModI := op_mod
def rPowI : R2 := rI CPow fun i j => .int (i ^ j.toNat)
theorem op_powI {X : Cx} : OpR X (binaryOp .Pow) rPowI := op_pow
def rDivI : R2 := rI CDiv fun i j => .int (i / j)
theorem op_divI {X : Cx} : OpR X (binaryOp .FloorDiv) rDivI := op_fdiv
def rDivW : R2 := rI CDivW fun i j => .int (i / j)
theorem op_divW {X : Cx} : OpR X (binaryOp .FloorDiv) rDivW := op_fdivW
def tTru (K : PySem.W.Frag) (ta : TE) : TT := fun σ H Q => ta σ H fun x H' => ∃ k, TruV K x H' k ∧ Q k H'
theorem pt_tru {X : Cx} {a : Expr} {ta : TE} (ha : PE X a ta) (he : ∀ whole, isTrue a X.env whole = (do let v ← whole; standAt a.pos; holding [v] (truthy v))) : PT X a (tTru X.K ta) := pt_truth ha he
/-- sorted of tuples of numbers, of one length: some order of them -/
def rSortX (K : PySem.W.Frag) : List V → Hp → VK → Prop := fun vs H Q => ∃ (a : Addr) (xs : List V) (d : Nat) (B : Int), vs = [V.ref a] ∧ SqL K H a xs ∧ xs.length < 64 ∧ 1 ≤ d ∧ (∀ x ∈ xs, ∃ ns, TupI K H x ns ∧ ns.length = d ∧ TS.Bd B ns) ∧
  ∀ (ys : List V) (p : Addr), ys.Perm xs → H p = none → Q (.ref p) (upd H p (.lst ys))
theorem cr_sortX {X : Cx} : CallR X (.builtin "sorted") (rSortX X.K) := by
  intro pins s σ H vs us Q I r h
  obtain ⟨a, xs, d, B, e, hx, hl, hd, hb, q⟩ := h
  exact cr_sortT (B := B) hd pins s σ H vs us Q I r ⟨a, xs, e, hx, hl, hb, fun ys p hp _ hn => q ys p hp hn⟩
/-! ### what evaluates to what, the heap as it was -/
def EvE (te : TE) (σ : L2.St) (H : Hp) (v : V) : Prop := ∀ Q : VK, Q v H → te σ H Q
def EtE (tt : TT) (σ : L2.St) (H : Hp) (b : Bool) : Prop := ∀ Q : Bool → Hp → Prop, Q b H → tt σ H Q
def EaE (ta : TA) (σ : L2.St) (H : Hp) (vs : List V) : Prop := ∀ Q : List V → Hp → Prop, Q vs H → ta σ H Q
section
variable {K : PySem.W.Frag} {σ : L2.St} {H : Hp} {ta tb tc te : TE} {tt tu : TT} {tl : TA} {x y z v : V} {i j : Nat} {a b : Int} {p : Addr} {xs : List V}
theorem EvE.s (h : EvE te σ H v) : EvS te σ H v := fun Q q => h Q (q H (Same.refl H))
theorem EtE.s {b : Bool} (h : EtE tt σ H b) : EtS tt σ H b := fun Q q => h Q (q H (Same.refl H))
theorem EvE.is (h : EvE te σ H v) (e : v = x) : EvE te σ H x := e ▸ h
theorem EtE.is {b c : Bool} (h : EtE tt σ H b) (e : b = c) : EtE tt σ H c := e ▸ h
theorem ev_var (h : σ[i]? = some (some v)) : EvE (tVar i) σ H v := fun _ q => ⟨v, h, q⟩
theorem ev_c : EvE (tC v) σ H v := fun _ q => q
theorem ev_op {r : R2} (ha : EvE ta σ H x) (hb : EvE tb σ H y) (hr : ∀ Q : VK, Q z H → r x y H Q) : EvE (tOp r ta tb) σ H z := fun Q q => ha _ (hb _ (hr Q q))
theorem ev_add (ha : EvE ta σ H (.int a)) (hb : EvE tb σ H (.int b)) : EvE (tOp rAddI ta tb) σ H (.int (a + b)) := ev_op ha hb fun _ q => ⟨a, b, rfl, rfl, q⟩
theorem ev_sub (ha : EvE ta σ H (.int a)) (hb : EvE tb σ H (.int b)) : EvE (tOp rSubI ta tb) σ H (.int (a - b)) := ev_op ha hb fun _ q => ⟨a, b, rfl, rfl, q⟩
theorem ev_mul (ha : EvE ta σ H (.int a)) (hb : EvE tb σ H (.int b)) (hc : (-(2 ^ 64) < a ∧ a < 2 ^ 64) ∨ (-(2 ^ 64) < b ∧ b < 2 ^ 64)) : EvE (tOp rMulI ta tb) σ H (.int (a * b)) := ev_op ha hb fun _ q => ⟨a, b, rfl, rfl, hc, q⟩
theorem ev_lt (ha : EvE ta σ H (.int a)) (hb : EvE tb σ H (.int b)) : EvE (tOp rLtI ta tb) σ H (.bl (decide (a < b))) := ev_op ha hb fun _ q => ⟨a, b, rfl, rfl, q⟩
theorem ev_le (ha : EvE ta σ H (.int a)) (hb : EvE tb σ H (.int b)) : EvE (tOp rLeI ta tb) σ H (.bl (decide (a ≤ b))) := ev_op ha hb fun _ q => ⟨a, b, rfl, rfl, q⟩
theorem ev_gt (ha : EvE ta σ H (.int a)) (hb : EvE tb σ H (.int b)) : EvE (tOp rGtI ta tb) σ H (.bl (decide (b < a))) := ev_op ha hb fun _ q => ⟨a, b, rfl, rfl, q⟩
theorem ev_ge (ha : EvE ta σ H (.int a)) (hb : EvE tb σ H (.int b)) : EvE (tOp rGeI ta tb) σ H (.bl (decide (b ≤ a))) := ev_op ha hb fun _ q => ⟨a, b, rfl, rfl, q⟩
theorem ev_eq (ha : EvE ta σ H x) (hb : EvE tb σ H y) (hs : scal x y = true) : EvE (tOp rEq ta tb) σ H (.bl (decide (x = y))) := ev_op ha hb fun _ q => ⟨hs, q⟩
theorem ev_ne (ha : EvE ta σ H x) (hb : EvE tb σ H y) (hs : scal x y = true) : EvE (tOp rNe ta tb) σ H (.bl (!decide (x = y))) := ev_op ha hb fun _ q => ⟨hs, q⟩
theorem ev_isN (ha : EvE ta σ H x) : EvE (tOp rIsN ta (tC .non)) σ H (.bl (decide (x = .non))) := ev_op ha ev_c fun _ q => ⟨rfl, q⟩
theorem ev_notN (ha : EvE ta σ H x) : EvE (tOp rNotN ta (tC .non)) σ H (.bl (!decide (x = .non))) := ev_op ha ev_c fun _ q => ⟨rfl, q⟩
theorem ev_isN0 (ha : EvE ta σ H .non) : EvE (tOp rIsN ta (tC .non)) σ H (.bl true) := ev_isN ha
theorem ev_isN1 (ha : EvE ta σ H (.int a)) : EvE (tOp rIsN ta (tC .non)) σ H (.bl false) := ev_isN ha
theorem ev_isN2 (ha : EvE ta σ H (.ref p)) : EvE (tOp rIsN ta (tC .non)) σ H (.bl false) := ev_isN ha
theorem ev_notN0 (ha : EvE ta σ H .non) : EvE (tOp rNotN ta (tC .non)) σ H (.bl false) := ev_notN ha
theorem ev_notN1 (ha : EvE ta σ H (.int a)) : EvE (tOp rNotN ta (tC .non)) σ H (.bl true) := ev_notN ha
theorem ev_notN2 (ha : EvE ta σ H (.ref p)) : EvE (tOp rNotN ta (tC .non)) σ H (.bl true) := ev_notN ha
theorem ev_ix (ha : EvE ta σ H (.ref p)) (hb : EvE tb σ H (.int a)) (hs : SqA K H p xs) (hv : atI xs a = some v) : EvE (tOp (rIxA K) ta tb) σ H v := ev_op ha hb fun _ q => ⟨p, xs, a, v, rfl, rfl, hs, hv, q⟩
theorem ev_ixn {n : Nat} (ha : EvE ta σ H (.ref p)) (hb : EvE tb σ H (.int (n : Int))) (hs : SqA K H p xs) (hv : xs[n]? = some v) : EvE (tOp (rIxA K) ta tb) σ H v := ev_ix ha hb hs (atI_nat hv)
theorem ev_fld {C dx : Addr} {fs : List (Str × V)} {f : Str} (ha : EvE ta σ H (.ref p)) (ho : H p = some (.ins C dx fs)) (hc : Cls K C) (hn : NoAttr K C f) (hl : fs.lookup f = some v) : EvE (tFld K ta f) σ H v := fun Q q =>
  ha _ ⟨p, C, dx, fs, v, rfl, ho, hc, hn, hl, q⟩
theorem ev_neg (ha : EvE ta σ H (.int a)) : EvE (tUn rNegI ta) σ H (.int (-a)) := fun Q q => ha _ ⟨a, rfl, q⟩
theorem ev_len (ha : EvE ta σ H (.ref p)) (hs : SqA K H p xs) : EvE (tCB (rLenA K) (tCons ta tNil)) σ H (.int (xs.length : Int)) := fun Q q => ha _ ⟨p, xs, rfl, hs, q⟩
theorem ev_int (ha : EvE ta σ H (.int a)) : EvE (tCB rInt1 (tCons ta tNil)) σ H (.int a) := fun Q q => ha _ ⟨a, rfl, q⟩
theorem ev_abs (ha : EvE ta σ H (.int a)) : EvE (tCB rAbs (tCons ta tNil)) σ H (.int (if a < 0 then -a else a)) := fun Q q => ha _ ⟨a, rfl, q⟩
theorem ev_max2 (ha : EvE ta σ H (.int a)) (hb : EvE tb σ H (.int b)) : EvE (tCB rMax2 (tCons ta (tCons tb tNil))) σ H (.int (if b > a then b else a)) := fun Q q => ha _ (hb _ ⟨a, b, rfl, q⟩)
theorem ev_min2 (ha : EvE ta σ H (.int a)) (hb : EvE tb σ H (.int b)) : EvE (tCB rMin2 (tCons ta (tCons tb tNil))) σ H (.int (if b < a then b else a)) := fun Q q => ha _ (hb _ ⟨a, b, rfl, q⟩)
theorem ev_mod (ha : EvE ta σ H (.int a)) (hb : EvE tb σ H (.int b)) (hc : 0 < b) : EvE (tOp rModI ta tb) σ H (.int (a % b)) := ev_op ha hb fun _ q => ⟨a, b, rfl, rfl, hc, q⟩
theorem ev_div (ha : EvE ta σ H (.int a)) (hb : EvE tb σ H (.int b)) (hc : 0 < b ∧ b < 1073741824) : EvE (tOp rDivI ta tb) σ H (.int (a / b)) := ev_op ha hb fun _ q => ⟨a, b, rfl, rfl, hc, q⟩
theorem ev_divW (ha : EvE ta σ H (.int a)) (hb : EvE tb σ H (.int b)) (hc : CDivW a b) : EvE (tOp rDivW ta tb) σ H (.int (a / b)) := ev_op ha hb fun _ q => ⟨a, b, rfl, rfl, hc, q⟩
theorem ev_pow {c d e : Int} (h : c ^ d.toNat = e) (hc : CPow c d) : EvE (tOp rPowI (tC (.int c)) (tC (.int d))) σ H (.int e) := (ev_op ev_c ev_c fun _ q => ⟨c, d, rfl, rfl, hc, q⟩ : EvE (tOp rPowI (tC (.int c)) (tC (.int d))) σ H (.int (c ^ d.toNat))).is (congrArg V.int h)
theorem ev_chain {r r' : R2} {k : Bool} (ha : EvE ta σ H x) (hb : EvE tb σ H y) (hr : ∀ Q : VK, Q (.bl k) H → r x y H Q) (hk : k = true → EvE tc σ H z) {l : Bool} (hr' : k = true → ∀ Q : VK, Q (.bl l) H → r' y z H Q) : EvE (tChain r r' ta tb tc) σ H (.bl (k && l)) := fun Q q =>
  ha _ (hb _ (hr _ ⟨k, rfl, by
    cases k with
    | true => rw [if_pos rfl]; exact hk rfl _ (hr' rfl _ q)
    | false => rw [if_neg Bool.false_ne_true]; exact q⟩))
theorem ea_nil : EaE tNil σ H [] := fun _ q => q
theorem ea_cons {vs : List V} (h : EvE te σ H v) (hl : EaE tl σ H vs) : EaE (tCons te tl) σ H (v :: vs) := fun Q q => h _ (hl _ q)
theorem ev_call {sp : Sp} {vs : List V} (h : EaE tl σ H vs) (hs : ∀ Q : VK, Q v H → sp vs H Q E0) : EvE (tCall sp [] E0 tl) σ H v := fun Q q => h _ (by rw [List.append_nil]; exact hs Q q)
theorem ev_if {b : Bool} (h : EtE tt σ H b) (h1 : b = true → EvE ta σ H v) (h2 : b = false → EvE tb σ H v) : EvE (tIf tt ta tb) σ H v := fun Q q => h _ (by
  cases b with
  | true => rw [if_pos rfl]; exact h1 rfl _ q
  | false => rw [if_neg Bool.false_ne_true]; exact h2 rfl _ q)
theorem et_test {b : Bool} (h : EvE te σ H (.bl b)) : EtE (tTest te) σ H b := fun _ q => h _ ⟨b, rfl, q⟩
theorem et_B {b : Bool} (h : EvE te σ H (.bl b)) : EtE (tB te) σ H b := fun _ q => h _ ⟨b, rfl, q⟩
theorem et_and {b c : Bool} (h : EtE tt σ H b) (h2 : b = true → EtE tu σ H c) : EtE (tAnd tt tu) σ H (b && c) := fun Q q => h _ (by
  cases b with
  | true => rw [if_pos rfl]; exact h2 rfl _ q
  | false => rw [if_neg Bool.false_ne_true]; exact q)
theorem et_or {b c : Bool} (h : EtE tt σ H b) (h2 : b = false → EtE tu σ H c) : EtE (tOr tt tu) σ H (b || c) := fun Q q => h _ (by
  cases b with
  | true => rw [if_pos rfl]; exact q
  | false => rw [if_neg Bool.false_ne_true]; exact h2 rfl _ q)
theorem et_not {b : Bool} (h : EtE tt σ H b) : EtE (tNot tt) σ H (!b) := fun _ q => h _ q
theorem et_tru {b : Bool} (h : EvE te σ H v) (ht : TruV K v H b) : EtE (tTru K te) σ H b := fun _ q => h _ ⟨b, ht, q⟩
theorem tru_seq (h : SqA K H p xs) : TruV K (.ref p) H (!xs.isEmpty) := by
  rcases h with h | h
  · exact .inl ⟨xs, h, rfl⟩
  · exact .inr (.inl ⟨xs, h, rfl⟩)
-- statements whose expressions make nothing
variable {D : Ends} {t1 t2 t3 : TS}
theorem sx_if {b : Bool} (h : EtE tt σ H b) (h1 : b = true → t1 D σ H) (h2 : b = false → t2 D σ H) : tIfS tt t1 t2 D σ H := h _ (by
  cases b with
  | true => rw [if_pos rfl]; exact h1 rfl
  | false => rw [if_neg Bool.false_ne_true]; exact h2 rfl)
theorem sx_yes (h : EtE tt σ H true) (h1 : t1 D σ H) : tIfS tt t1 t2 D σ H := sx_if h (fun _ => h1) (fun e => by cases e)
theorem sx_no (h : EtE tt σ H false) (h2 : t2 D σ H) : tIfS tt t1 t2 D σ H := sx_if h (fun e => by cases e) (fun _ => h2)
theorem sx_set (h : EvE te σ H v) (k : D.nx (σ.set i (some v)) H) : tAsg te (gName i) D σ H := h _ k
theorem sx_ret (h : EvE te σ H v) (k : D.rt v H) : tRet te D σ H := h _ k
theorem sx_seq (h : t1 { D with nx := t2 D } σ H) : tSeq t1 t2 D σ H := h
theorem sx_app {l : Addr} (hl : EvE ta σ H (.ref l)) (he : EvE te σ H v) (hx : H l = some (.lst xs)) (hz : xs.length < 5000) (k : D.nx σ (upd H l (.lst (xs ++ [v])))) : tDrop (tBM K "list" rAppend ta (tCons te tNil)) D σ H :=
  hl _ ⟨.inl ⟨rfl, xs, SqL.of hx⟩, he _ ⟨l, xs, v, rfl, rfl, hx, Nat.lt_of_lt_of_le hz (by decide), k⟩⟩
theorem sx_put {l : Addr} {n : Nat} (he : EvE te σ H v) (hl : EvE ta σ H (.ref l)) (hi : EvE tb σ H (.int (n : Int))) (hx : H l = some (.lst xs)) (hn : n < xs.length) (k : D.nx σ (upd H l (.lst (xs.set n v)))) : tAsg te (gSub ta tb rSetL) D σ H :=
  he _ (hl _ (hi _ ⟨l, xs, (n : Int), n, rfl, rfl, hx, by unfold ixN; rw [if_pos (by omega), if_pos (by omega)]; simp, k⟩))
end
/-! ### what evaluates to something with a property -/
def EvR (te : TE) (σ : L2.St) (H : Hp) (Pc : V → Hp → Prop) : Prop := ∀ Q : VK, (∀ v H', Pc v H' → Q v H') → te σ H Q
def EaR (ta : TA) (σ : L2.St) (H : Hp) (Pc : List V → Hp → Prop) : Prop := ∀ Q : List V → Hp → Prop, (∀ v H', Pc v H' → Q v H') → ta σ H Q
section
variable {K : PySem.W.Frag} {σ : L2.St} {H : Hp} {ta tb tc te tl : TE} {tt tu : TT} {tg : TA} {g : TG} {tb1 : TS} {D : Ends} {vs : List Nat} {Q : VK} {x y z v : V}
theorem EvE.r (h : EvE te σ H v) : EvR te σ H (fun u H' => v = u ∧ H = H') := fun Q q => h Q (q v H ⟨rfl, rfl⟩)
theorem EaE.r {us : List V} (h : EaE tg σ H us) : EaR tg σ H (fun u H' => us = u ∧ H = H') := fun Q q => h Q (q us H ⟨rfl, rfl⟩)
theorem EvR.mono {Pc Pd : V → Hp → Prop} (h : EvR te σ H Pc) (k : ∀ v H', Pc v H' → Pd v H') : EvR te σ H Pd := fun Q q => h Q fun v H' p => q v H' (k v H' p)
theorem EaR.one {Pc : V → Hp → Prop} (h : EvR te σ H Pc) : EaR (tCons te tNil) σ H (fun us H' => ∃ v, us = [v] ∧ Pc v H') := fun Q q => h _ fun v H' p => q [v] H' ⟨v, rfl, p⟩
theorem ev_callR {sp : Sp} {us : List V} {Pc : V → Hp → Prop} (h : EaE tg σ H us) (hs : ∀ Q : VK, (∀ v H', Pc v H' → Q v H') → sp us H Q E0) : EvR (tCall sp [] E0 tg) σ H Pc := fun Q q => h _ (by rw [List.append_nil]; exact hs Q q)
theorem ev_methR {C a dx : Addr} {fs : List (Str × V)} {m : Str} {sp : Sp} {us : List V} {Pc : V → Hp → Prop} (ho : EvE ta σ H (.ref a)) (hi : H a = some (.ins C dx fs)) (hl : fs.lookup m = none) (h : EaE tg σ H us) (hs : ∀ Q : VK, (∀ v H', Pc v H' → Q v H') → sp (.ref a :: us) H Q E0) :
    EvR (tMeth C m sp [] E0 ta tg) σ H Pc := fun Q q => ho _ ⟨a, dx, fs, rfl, hi, hl, h _ (by rw [List.append_nil]; exact hs Q q)⟩
theorem sx_setR {i : Nat} {Pc : V → Hp → Prop} (h : EvR te σ H Pc) (k : ∀ v H', Pc v H' → D.nx (σ.set i (some v)) H') : tAsg te (gName i) D σ H := h _ k
theorem sx_retR {Pc : V → Hp → Prop} (h : EvR te σ H Pc) (k : ∀ v H', Pc v H' → D.rt v H') : tRet te D σ H := h _ k
theorem sx_dropR {Pc : V → Hp → Prop} (h : EvR te σ H Pc) (k : ∀ v H', Pc v H' → D.nx σ H') : tDrop te D σ H := h _ fun v H' p => k v H' p
/-- loops -/
theorem rd_forSeq {Pc : V → Hp → Prop} (h : EvR tl σ H Pc) (k : ∀ v H1, Pc v H1 → ∃ (a : Addr) (xs : List V), v = .ref a ∧ SqA K H1 a xs ∧ ∃ Pv : Nat → L2.St → Hp → Prop, Pv 0 σ H1 ∧ (∀ i σ' H', Pv i σ' H' → ∀ o, H1 a = some o → H' a = some o) ∧
    (∀ i x σ' H', xs[i]? = some x → Pv i σ' H' → g x σ' H' fun σ2 H2 => tb1 { D with nx := Pv (i + 1), ct := Pv (i + 1), bk := D.nx } σ2 H2) ∧ ∀ σ' H', Pv xs.length σ' H' → D.nx σ' H') : tFor (iSeq K tl) g tb1 D σ H := by
  refine h _ fun v H1 p => ?_
  obtain ⟨a, xs, rfl, hx, Pv, h0, hl, hs, hd⟩ := k v H1 p
  exact ⟨a, rfl, for_seq hx Pv h0 hl hs hd⟩
theorem rd_forEnum {Pc : List V → Hp → Prop} (h : EaR tg σ H Pc) (k : ∀ us H1, Pc us H1 → ∃ (a : Addr) (xs : List V), us = [.ref a] ∧ SqA K H1 a xs ∧ ∃ Pv : Nat → L2.St → Hp → Prop, Pv 0 σ H1 ∧ (∀ i σ' H', Pv i σ' H' → ∀ o, H1 a = some o → H' a = some o) ∧
    (∀ i x U σ' H', xs[i]? = some x → Pv i σ' H' → H' U = none → g (.ref U) σ' (upd H' U (.tup [.int (i : Nat), x])) fun σ2 H2 => tb1 { D with nx := Pv (i + 1), ct := Pv (i + 1), bk := D.nx } σ2 H2) ∧ ∀ σ' H', Pv xs.length σ' H' → D.nx σ' H') : tFor (iEnumA K tg) g tb1 D σ H := by
  refine h _ fun v H1 p => ?_
  obtain ⟨a, xs, rfl, hx, Pv, h0, hl, hs, hd⟩ := k v H1 p
  refine ⟨a, xs, rfl, for_enum hx Pv h0 hl hs hd⟩
theorem rd_forRng1 {n : Nat} (h : EaE tg σ H [.int (n : Int)]) (hn : n ≤ 1000000) (Pv : Nat → L2.St → Hp → Prop) (h0 : Pv 0 σ H)
    (hs : ∀ (i : Nat) σ' H', i < n → Pv i σ' H' → g (.int (i : Int)) σ' H' fun σ2 H2 => tb1 { D with nx := Pv (i + 1), ct := Pv (i + 1), bk := D.nx } σ2 H2) (hd : ∀ σ' H', Pv n σ' H' → D.nx σ' H') : tFor (iRng1 tg) g tb1 D σ H := by
  refine h _ ⟨(n : Int), rfl, by omega, by omega, ?_⟩
  rw [Int.toNat_natCast]
  refine for_range (lo := 0) (n := n) Pv h0 (fun i σ' H' hi p => ?_) hd
  have e0 : (0 : Int) + (i : Int) = (i : Int) := Int.zero_add _
  rw [e0]
  exact hs i σ' H' hi p
theorem rd_forRng1R {n : Nat} {Pc : Hp → Prop} (h : EaR tg σ H (fun us H' => us = [.int (n : Int)] ∧ Pc H')) (hn : n ≤ 1000000) (k : ∀ H1, Pc H1 → ∃ Pv : Nat → L2.St → Hp → Prop, Pv 0 σ H1 ∧
    (∀ (i : Nat) σ' H', i < n → Pv i σ' H' → g (.int (i : Int)) σ' H' fun σ2 H2 => tb1 { D with nx := Pv (i + 1), ct := Pv (i + 1), bk := D.nx } σ2 H2) ∧ ∀ σ' H', Pv n σ' H' → D.nx σ' H') : tFor (iRng1 tg) g tb1 D σ H := by
  refine h _ fun us H1 ⟨eu, p⟩ => ?_
  subst eu
  obtain ⟨Pv, h0, hs, hd⟩ := k H1 p
  refine ⟨(n : Int), rfl, by omega, by omega, ?_⟩
  rw [Int.toNat_natCast]
  refine for_range (lo := 0) (n := n) Pv h0 (fun i σ' H' hi p => ?_) hd
  have e0 : (0 : Int) + (i : Int) = (i : Int) := Int.zero_add _
  rw [e0]
  exact hs i σ' H' hi p
theorem rd_forRng2 {lo : Int} {n : Nat} {hi : Int} (h : EaE tg σ H [.int lo, .int hi]) (hlo : -1000000 ≤ lo ∧ lo ≤ 1000000) (hn : n ≤ 1000000) (hhi : hi = lo + n) (Pv : Nat → L2.St → Hp → Prop) (h0 : Pv 0 σ H)
    (hs : ∀ (i : Nat) σ' H', i < n → Pv i σ' H' → g (.int (lo + (i : Int))) σ' H' fun σ2 H2 => tb1 { D with nx := Pv (i + 1), ct := Pv (i + 1), bk := D.nx } σ2 H2) (hd : ∀ σ' H', Pv n σ' H' → D.nx σ' H') : tFor (iRng2 tg) g tb1 D σ H := by
  refine h _ ⟨lo, hi, rfl, ⟨by omega, by omega, by omega, by omega⟩, ?_⟩
  have e : (hi - lo).toNat = n := by omega
  rw [e]
  exact for_range (lo := lo) (n := n) Pv h0 (fun i σ' H' hi p => hs i σ' H' hi p) hd
theorem rd_forRev {n : Nat} (h : EvE te σ H (.int (n : Int))) (hn : n ≤ 1000000) (Pv : Nat → L2.St → Hp → Prop) (h0 : Pv 0 σ H)
    (hs : ∀ (i : Nat) σ' H', i < n → Pv i σ' H' → g (.int ((n - 1 - i : Nat) : Int)) σ' H' fun σ2 H2 => tb1 { D with nx := Pv (i + 1), ct := Pv (i + 1), bk := D.nx } σ2 H2) (hd : ∀ σ' H', Pv n σ' H' → D.nx σ' H') : tFor (iRevR (tRg1 te)) g tb1 D σ H := by
  refine h _ ⟨(n : Int), rfl, by omega, by omega, by omega, by omega, ?_⟩
  have e : ((n : Int) - 0).toNat = n := by omega
  rw [e]
  exact for_rev (by omega) Pv h0 hs hd
/-- comprehensions -/
theorem rd_lcSeq {Pc : V → Hp → Prop} (h : EvR tl σ H Pc) (k : ∀ v H1, Pc v H1 → ∃ (a : Addr) (xs : List V), v = .ref a ∧ SqA K H1 a xs ∧ ∃ Pv : Addr → Nat → Hp → Prop, (∀ D, H1 D = none → Pv D 0 (upd H1 D (.lst []))) ∧ (∀ D i H', H1 D = none → Pv D i H' → ∀ o, H1 a = some o → H' a = some o) ∧
    (∀ D i x H', H1 D = none → xs[i]? = some x → Pv D i H' → LcT g tt te vs σ D (Pv D (i + 1)) x H') ∧ ∀ D H', H1 D = none → Pv D xs.length H' → Q (.ref D) H') : tLc (iSeq K tl) g tt te vs σ H Q := by
  refine h _ fun v H1 p => ?_
  obtain ⟨a, xs, rfl, hx, Pv, h0, hl, hs, hd⟩ := k v H1 p
  exact ⟨a, rfl, lc_seq (Q := Q) hx Pv h0 hl hs hd⟩
theorem rd_lcFm {j : Nat} {Pc : V → Hp → Prop} (h : EvR tl σ H Pc) (k : ∀ v H1, Pc v H1 → ∃ (a : Addr) (xs : List V) (F : Nat → V → Option V), v = .ref a ∧ SqA K H1 a xs ∧ xs.length ≤ 1000 ∧ (∀ x, wipe ((wipe σ vs).set j (some x)) vs = wipe σ vs) ∧
    (∀ i x H', xs[i]? = some x → Same H1 H' → EtS tt ((wipe σ vs).set j (some x)) H' (F i x).isSome) ∧ (∀ i x y H', xs[i]? = some x → F i x = some y → Same H1 H' → EvS te ((wipe σ vs).set j (some x)) H' y) ∧
    ∀ D H', H1 D = none → Same H1 H' → H' D = some (.lst (fmI F 0 xs)) → Q (.ref D) H') : tLc (iSeq K tl) (gName j) tt te vs σ H Q := by
  refine h _ fun v H1 p => ?_
  obtain ⟨a, xs, F, rfl, hx, hz, hw, ht, he, hd⟩ := k v H1 p
  exact ⟨a, rfl, lc_fm (Q := Q) F hx hz hw ht he hd⟩
theorem rd_lcEnum {Pc : List V → Hp → Prop} (h : EaR tg σ H Pc) (k : ∀ us H1, Pc us H1 → ∃ (a : Addr) (xs : List V), us = [.ref a] ∧ SqA K H1 a xs ∧ ∃ Pv : Addr → Nat → Hp → Prop, (∀ D, H1 D = none → Pv D 0 (upd H1 D (.lst []))) ∧ (∀ D i H', H1 D = none → Pv D i H' → ∀ o, H1 a = some o → H' a = some o) ∧
    (∀ D i x U H', H1 D = none → xs[i]? = some x → Pv D i H' → H' U = none → LcT g tt te vs σ D (Pv D (i + 1)) (.ref U) (upd H' U (.tup [.int (i : Nat), x]))) ∧ ∀ D H', H1 D = none → Pv D xs.length H' → Q (.ref D) H') : tLc (iEnumA K tg) g tt te vs σ H Q := by
  refine h _ fun v H1 p => ?_
  obtain ⟨a, xs, rfl, hx, Pv, h0, hl, hs, hd⟩ := k v H1 p
  exact ⟨a, xs, rfl, lc_enum (Q := Q) hx Pv h0 hl hs hd⟩
theorem rd_lcRng {n : Nat} (h : EaE tg σ H [.int (n : Int)]) (hn : n ≤ 1000) (Pv : Addr → Nat → Hp → Prop) (h0 : ∀ D, H D = none → Pv D 0 (upd H D (.lst [])))
    (hs : ∀ D (i : Nat) H', H D = none → i < n → Pv D i H' → LcT g tt te vs σ D (Pv D (i + 1)) (.int (i : Int)) H') (hd : ∀ D H', H D = none → Pv D n H' → Q (.ref D) H') : tLc (iRng1 tg) g tt te vs σ H Q := by
  refine h _ ⟨(n : Int), rfl, by omega, by omega, ?_⟩
  rw [Int.toNat_natCast]
  exact lc_rng (Q := Q) Pv h0 hs hd
theorem rd_lcFmR {j n : Nat} (h : EaE tg σ H [.int (n : Int)]) (hn : n ≤ 1000) (F : Nat → V → Option V) (hw : ∀ x, wipe ((wipe σ vs).set j (some x)) vs = wipe σ vs)
    (ht : ∀ (i : Nat) H', i < n → Same H H' → EtS tt ((wipe σ vs).set j (some (.int (i : Int)))) H' (F i (.int (i : Int))).isSome) (he : ∀ (i : Nat) y H', i < n → F i (.int (i : Int)) = some y → Same H H' → EvS te ((wipe σ vs).set j (some (.int (i : Int)))) H' y)
    (hd : ∀ D H', H D = none → Same H H' → H' D = some (.lst (fmI F 0 ((List.range n).map fun (i : Nat) => V.int (i : Int)))) → Q (.ref D) H') : tLc (iRng1 tg) (gName j) tt te vs σ H Q := by
  refine h _ ⟨(n : Int), rfl, by omega, by omega, ?_⟩
  rw [Int.toNat_natCast]
  exact lc_fmR (Q := Q) F hn hw ht he hd
end
/-! ### one layer off -/
section
variable {K : PySem.W.Frag} {σ : L2.St} {H : Hp} {ta tb tc te : TE} {tt tu : TT} {tg : TA} {t1 t2 : TS} {D : Ends} {Q : VK} {i : Nat} {r : R2}
theorem pl_ret (h : te σ H D.rt) : tRet te D σ H := h
theorem pl_set (h : te σ H fun v H1 => D.nx (σ.set i (some v)) H1) : tAsg te (gName i) D σ H := h
theorem pl_seq (h : t1 { D with nx := t2 D } σ H) : tSeq t1 t2 D σ H := h
theorem pl_drop (h : te σ H fun _ H1 => D.nx σ H1) : tDrop te D σ H := h
theorem pl_if (h : tt σ H fun b H1 => if b = true then t1 D σ H1 else t2 D σ H1) : tIfS tt t1 t2 D σ H := h
theorem pl_cb1 {r : List V → Hp → VK → Prop} (h : te σ H fun v H1 => r [v] H1 Q) : tCB r (tCons te tNil) σ H Q := h
theorem pl_cb2 {r : List V → Hp → VK → Prop} (h : ta σ H fun v H1 => tb σ H1 fun u H2 => r [v, u] H2 Q) : tCB r (tCons ta (tCons tb tNil)) σ H Q := h
theorem pl_op (h : ta σ H fun x H1 => tb σ H1 fun y H2 => r x y H2 Q) : tOp r ta tb σ H Q := h
theorem pl_un {r : V → Hp → VK → Prop} (h : ta σ H fun x H1 => r x H1 Q) : tUn r ta σ H Q := h
theorem pl_call {sp : Sp} (h : tg σ H fun vs H1 => sp (vs ++ []) H1 Q E0) : tCall sp [] E0 tg σ H Q := h
theorem pl_cons {Qa : List V → Hp → Prop} (h : te σ H fun x H1 => tg σ H1 fun xs H2 => Qa (x :: xs) H2) : tCons te tg σ H Qa := h
theorem pl_test {Qb : Bool → Hp → Prop} (h : te σ H fun x H' => ∃ k, x = .bl k ∧ Qb k H') : tTest te σ H Qb := h
theorem pl_B {Qb : Bool → Hp → Prop} (h : te σ H fun x H' => ∃ k, x = .bl k ∧ Qb k H') : tB te σ H Qb := h
theorem pl_not {Qb : Bool → Hp → Prop} (h : tt σ H fun c H1 => Qb (!c) H1) : tNot tt σ H Qb := h
theorem pl_and {Qb : Bool → Hp → Prop} (h : tt σ H fun c H1 => if c = true then tu σ H1 Qb else Qb false H1) : tAnd tt tu σ H Qb := h
theorem pl_or {Qb : Bool → Hp → Prop} (h : tt σ H fun c H1 => if c = true then Qb true H1 else tu σ H1 Qb) : tOr tt tu σ H Qb := h
theorem pl_tru {Qb : Bool → Hp → Prop} (h : ta σ H fun x H' => ∃ k, TruV K x H' k ∧ Qb k H') : tTru K ta σ H Qb := h
theorem pl_tup (h : tg σ H fun xs H1 => xs.length ≤ sizeLine ∧ ∀ p, H1 p = none → Q (.ref p) (upd H1 p (.tup xs))) : tTup tg σ H Q := h
theorem pl_lst (h : tg σ H fun xs H1 => xs.length ≤ sizeLine ∧ ∀ p, H1 p = none → Q (.ref p) (upd H1 p (.lst xs))) : tLst tg σ H Q := h
theorem pl_ifx (h : tt σ H fun c H1 => if c = true then ta σ H1 Q else tb σ H1 Q) : tIf tt ta tb σ H Q := h
theorem pl_bm {T : String} {r : V → List V → Hp → VK → Prop} (h : ta σ H fun x H1 => tyV K T x H1 ∧ tg σ H1 fun xs H2 => r x xs H2 Q) : tBM K T r ta tg σ H Q := h
theorem pl_nx {f : L2.St → Hp → Prop} {a : VK} {b c : L2.St → Hp → Prop} (h : f σ H) : Ends.nx ⟨f, a, b, c⟩ σ H := h
theorem pl_rt {f : L2.St → Hp → Prop} {a : VK} {b c : L2.St → Hp → Prop} {v : V} (h : a v H) : Ends.rt ⟨f, a, b, c⟩ v H := h
theorem pl_bk {f : L2.St → Hp → Prop} {a : VK} {b c : L2.St → Hp → Prop} (h : b σ H) : tBreak ⟨f, a, b, c⟩ σ H := h
theorem pl_next {f : L2.St → Hp → Prop} {a : VK} {b c : L2.St → Hp → Prop} (h : f σ H) : tNext ⟨f, a, b, c⟩ σ H := h
/-- a statement, then the rest -/
theorem sq_set {v : V} (h : EvE te σ H v) (k : t2 D (σ.set i (some v)) H) : tSeq (tAsg te (gName i)) t2 D σ H := h _ k
theorem sq_setR {Pc : V → Hp → Prop} (h : EvR te σ H Pc) (k : ∀ v H', Pc v H' → t2 D (σ.set i (some v)) H') : tSeq (tAsg te (gName i)) t2 D σ H := h _ k
theorem sq_dropR {Pc : V → Hp → Prop} (h : EvR te σ H Pc) (k : ∀ v H', Pc v H' → t2 D σ H') : tSeq (tDrop te) t2 D σ H := h _ fun v H' p => k v H' p
theorem sq_app {l : Addr} {v : V} {xs : List V} (hl : EvE ta σ H (.ref l)) (he : EvE te σ H v) (hx : H l = some (.lst xs)) (hz : xs.length < 5000) (k : t2 D σ (upd H l (.lst (xs ++ [v])))) : tSeq (tDrop (tBM K "list" rAppend ta (tCons te tNil))) t2 D σ H :=
  sx_app (D := { D with nx := t2 D }) hl he hx hz k
theorem sq_put {l : Addr} {n : Nat} {v : V} {xs : List V} (he : EvE te σ H v) (hl : EvE ta σ H (.ref l)) (hi : EvE tb σ H (.int (n : Int))) (hx : H l = some (.lst xs)) (hn : n < xs.length) (k : t2 D σ (upd H l (.lst (xs.set n v)))) : tSeq (tAsg te (gSub ta tb rSetL)) t2 D σ H :=
  sx_put (D := { D with nx := t2 D }) he hl hi hx hn k
/-- if .. : raise, never taken -/
theorem sq_never {t1 : TS} (h : EtE tt σ H false) (k : t2 D σ H) : tSeq (tIfS tt t1 tNext) t2 D σ H := h _ (by rw [if_neg Bool.false_ne_true]; exact k)
theorem sq_if {b : Bool} {t1 t3 : TS} (h : EtE tt σ H b) (h1 : b = true → t1 { D with nx := t2 D } σ H) (h2 : b = false → t3 { D with nx := t2 D } σ H) : tSeq (tIfS tt t1 t3) t2 D σ H := sx_if (D := { D with nx := t2 D }) h h1 h2
theorem pl_make {C : Addr} {sp : Sp} (h : tg σ H fun vs H1 => ∀ x dx, H1 x = none → H1 dx = none → dx ≠ x → sp (.ref x :: (vs ++ [])) (upd (upd H1 dx (.own x)) x (.ins C dx [])) (fun v H2 => v = .non ∧ Q (.ref x) H2) E0) : tMake C sp [] E0 tg σ H Q := h
theorem tyl {K : PySem.W.Frag} {H : Hp} {p : Addr} {xs : List V} (h : H p = some (.lst xs)) : tyV K "list" (.ref p) H := Or.inl ⟨rfl, _, Or.inl (Or.inl h)⟩
theorem lcT_yes {j : Nat} {x : V} {D : Addr} {H' : Hp} {Nx : Hp → Prop} {vs : List Nat} (hw : wipe ((wipe σ vs).set j (some x)) vs = wipe σ vs)
    (h : te ((wipe σ vs).set j (some x)) H' fun y H4 => ∃ acc, H4 D = some (.lst acc) ∧ acc.length < sizeLine ∧ Nx (upd H4 D (.lst (acc ++ [y])))) : LcT (gName j) tYes te vs σ D Nx x H' :=
  ⟨hw, by unfold tYes; dsimp only; rw [if_pos rfl]; exact h⟩
end
end K15
namespace K15
open PySem PySem.Spec PyProof.Rows L2 RZ
/-! ### each def's text and slots (printed by gen.py) -/
abbrev s_is_whole : Stmt := topS 10
theorem sc_is_whole : FnScope ["thing", "low", "high"] ["thing", "low", "high"] (defScope s_is_whole) := ⟨rfl, rfl, rfl, by decide +kernel, rfl, by decide +kernel, by decide +kernel⟩
abbrev s_is_row : Stmt := topS 11
theorem sc_is_row : FnScope ["thing", "least", "most"] ["thing", "least", "most"] (defScope s_is_row) := ⟨rfl, rfl, rfl, by decide +kernel, rfl, by decide +kernel, by decide +kernel⟩
abbrev s_check_place : Stmt := topS 13
theorem sc_check_place : FnScope ["chart", "place"] ["chart", "place"] (defScope s_check_place) := ⟨rfl, rfl, rfl, by decide +kernel, rfl, by decide +kernel, by decide +kernel⟩
abbrev s_reached_places : Stmt := topS 14
theorem sc_reached_places : FnScope ["many", "arrows", "reached", "found", "place", "tail", "head"] ["many", "arrows"] (defScope s_reached_places) := ⟨rfl, rfl, rfl, by decide +kernel, rfl, by decide +kernel, by decide +kernel⟩
abbrev s_ChartInit : Stmt := inClass (topS 15) 0
theorem sc_ChartInit : FnScope ["self", "costs", "arrows", "index", "cost", "last", "arrow", "place", "reached"] ["self", "costs", "arrows"] (defScope s_ChartInit) := ⟨rfl, rfl, rfl, by decide +kernel, rfl, by decide +kernel, by decide +kernel⟩
abbrev s_Chartouts : Stmt := inClass (topS 15) 2
theorem sc_Chartouts : FnScope ["self", "place", "number", "arrow"] ["self", "place"] (defScope s_Chartouts) := ⟨rfl, rfl, rfl, by decide +kernel, rfl, by decide +kernel, by decide +kernel⟩
abbrev s_behind_places : Stmt := topS 17
theorem sc_behind_places : FnScope ["chart", "place", "found", "waiting", "tail", "arrow", "head"] ["chart", "place"] (defScope s_behind_places) := ⟨rfl, rfl, rfl, by decide +kernel, rfl, by decide +kernel, by decide +kernel⟩
abbrev s_part_of : Stmt := topS 18
theorem sc_part_of : FnScope ["chart", "place", "found", "other"] ["chart", "place"] (defScope s_part_of) := ⟨rfl, rfl, rfl, by decide +kernel, rfl, by decide +kernel, by decide +kernel⟩
abbrev s_parts_of : Stmt := topS 19
theorem sc_parts_of : FnScope ["chart", "found", "place", "part"] ["chart"] (defScope s_parts_of) := ⟨rfl, rfl, rfl, by decide +kernel, rfl, by decide +kernel, by decide +kernel⟩
abbrev s_DriftInit : Stmt := inClass (topS 21) 0
theorem sc_DriftInit : FnScope ["self", "ring", "by"] ["self", "ring", "by"] (defScope s_DriftInit) := ⟨rfl, rfl, rfl, by decide +kernel, rfl, by decide +kernel, by decide +kernel⟩
abbrev s_arrow_gain : Stmt := topS 22
theorem sc_arrow_gain : FnScope ["meter", "arrow"] ["meter", "arrow"] (defScope s_arrow_gain) := ⟨rfl, rfl, rfl, by decide +kernel, rfl, by decide +kernel, by decide +kernel⟩
abbrev s_rest_rows : Stmt := topS 23
theorem sc_rest_rows : FnScope ["meter", "last_row", "lowest", "length", "sense", "rows", "k", "row", "arrow", "tail", "head", "worth"] ["meter", "last_row", "lowest", "length", "sense"] (defScope s_rest_rows) := ⟨rfl, rfl, rfl, by decide +kernel, rfl, by decide +kernel, by decide +kernel⟩
abbrev s_can_drift : Stmt := topS 24
theorem sc_can_drift : FnScope ["tables", "place", "left", "gained", "sense", "rows", "rest"] ["tables", "place", "left", "gained"] (defScope s_can_drift) := ⟨rfl, rfl, rfl, by decide +kernel, rfl, by decide +kernel, by decide +kernel⟩
abbrev s_least_ring : Stmt := topS 25
theorem sc_least_ring : FnScope ["meter", "tables", "start", "length", "ring", "place", "gained", "left", "arrow", "head"] ["meter", "tables", "start", "length"] (defScope s_least_ring) := ⟨rfl, rfl, rfl, by decide +kernel, rfl, by decide +kernel, by decide +kernel⟩
abbrev s_first_drift : Stmt := topS 26
theorem sc_first_drift : FnScope ["meter", "senses", "many", "tables", "start", "last_row", "length", "found", "ring", "place", "sense", "arrow"] ["meter", "senses"] (defScope s_first_drift) := ⟨rfl, rfl, rfl, by decide +kernel, rfl, by decide +kernel, by decide +kernel⟩
abbrev s_find_drift : Stmt := topS 27
theorem sc_find_drift : FnScope ["meter"] ["meter"] (defScope s_find_drift) := ⟨rfl, rfl, rfl, by decide +kernel, rfl, by decide +kernel, by decide +kernel⟩
abbrev s_find_fall : Stmt := topS 28
theorem sc_find_fall : FnScope ["meter"] ["meter"] (defScope s_find_fall) := ⟨rfl, rfl, rfl, by decide +kernel, rfl, by decide +kernel, by decide +kernel⟩
abbrev s_find_rise : Stmt := topS 29
theorem sc_find_rise : FnScope ["meter"] ["meter"] (defScope s_find_rise) := ⟨rfl, rfl, rfl, by decide +kernel, rfl, by decide +kernel, by decide +kernel⟩
abbrev s_part_levels : Stmt := topS 30
theorem sc_part_levels : FnScope ["meter", "drift", "levels", "part", "known", "_"] ["meter"] (defScope s_part_levels) := ⟨rfl, rfl, rfl, by decide +kernel, rfl, by decide +kernel, by decide +kernel⟩
abbrev s_spread_levels : Stmt := topS 31
theorem sc_spread_levels : FnScope ["meter", "part", "known", "levels", "found", "place", "arrow", "head"] ["meter", "part", "known", "levels"] (defScope s_spread_levels) := ⟨rfl, rfl, rfl, by decide +kernel, rfl, by decide +kernel, by decide +kernel⟩
abbrev s_check_run : Stmt := topS 33
theorem sc_check_run : FnScope ["chart", "run", "place", "index", "arrow"] ["chart", "run"] (defScope s_check_run) := ⟨rfl, rfl, rfl, by decide +kernel, rfl, by decide +kernel, by decide +kernel⟩
abbrev s_places_of : Stmt := topS 34
theorem sc_places_of : FnScope ["chart", "run", "arrow"] ["chart", "run"] (defScope s_places_of) := ⟨rfl, rfl, rfl, by decide +kernel, rfl, by decide +kernel, by decide +kernel⟩
abbrev s_used_by : Stmt := topS 35
theorem sc_used_by : FnScope ["chart", "run", "place"] ["chart", "run"] (defScope s_used_by) := ⟨rfl, rfl, rfl, by decide +kernel, rfl, by decide +kernel, by decide +kernel⟩
abbrev s_run_to : Stmt := topS 36
theorem sc_run_to : FnScope ["chart", "place", "known", "order", "at", "tail", "arrow", "head"] ["chart", "place"] (defScope s_run_to) := ⟨rfl, rfl, rfl, by decide +kernel, rfl, by decide +kernel, by decide +kernel⟩
abbrev s_lead_rows : Stmt := topS 38
theorem sc_lead_rows : FnScope ["meter", "sense", "many", "rows", "k", "row", "arrow", "tail", "head", "worth"] ["meter", "sense"] (defScope s_lead_rows) := ⟨rfl, rfl, rfl, by decide +kernel, rfl, by decide +kernel, by decide +kernel⟩
abbrev s_extreme_worths : Stmt := topS 39
theorem sc_extreme_worths : FnScope ["meter", "sense", "drift", "rows", "place", "row"] ["meter", "sense"] (defScope s_extreme_worths) := ⟨rfl, rfl, rfl, by decide +kernel, rfl, by decide +kernel, by decide +kernel⟩
abbrev s_low_leads : Stmt := topS 40
theorem sc_low_leads : FnScope ["meter", "worth"] ["meter"] (defScope s_low_leads) := ⟨rfl, rfl, rfl, by decide +kernel, rfl, by decide +kernel, by decide +kernel⟩
abbrev s_high_leads : Stmt := topS 41
theorem sc_high_leads : FnScope ["meter"] ["meter"] (defScope s_high_leads) := ⟨rfl, rfl, rfl, by decide +kernel, rfl, by decide +kernel, by decide +kernel⟩
abbrev s_greatest_lead : Stmt := topS 42
theorem sc_greatest_lead : FnScope ["meter"] ["meter"] (defScope s_greatest_lead) := ⟨rfl, rfl, rfl, by decide +kernel, rfl, by decide +kernel, by decide +kernel⟩
abbrev s_least_walk : Stmt := topS 43
theorem sc_least_walk : FnScope ["meter", "rests", "length", "start", "wanted", "sense", "walk", "place", "worth", "left", "arrow", "head", "more"] ["meter", "rests", "length", "start", "wanted", "sense"] (defScope s_least_walk) := ⟨rfl, rfl, rfl, by decide +kernel, rfl, by decide +kernel, by decide +kernel⟩
abbrev s_extreme_run : Stmt := topS 44
theorem sc_extreme_run : FnScope ["meter", "place", "sense", "wanted", "rows", "length", "last_row", "rests", "k", "other"] ["meter", "place", "sense"] (defScope s_extreme_run) := ⟨rfl, rfl, rfl, by decide +kernel, rfl, by decide +kernel, by decide +kernel⟩
abbrev s_find_low_run : Stmt := topS 45
theorem sc_find_low_run : FnScope ["meter", "place"] ["meter", "place"] (defScope s_find_low_run) := ⟨rfl, rfl, rfl, by decide +kernel, rfl, by decide +kernel, by decide +kernel⟩
abbrev s_find_high_run : Stmt := topS 46
theorem sc_find_high_run : FnScope ["meter", "place"] ["meter", "place"] (defScope s_find_high_run) := ⟨rfl, rfl, rfl, by decide +kernel, rfl, by decide +kernel, by decide +kernel⟩
abbrev s_ShortInit : Stmt := inClass (topS 48) 0
theorem sc_ShortInit : FnScope ["self", "run", "by"] ["self", "run", "by"] (defScope s_ShortInit) := ⟨rfl, rfl, rfl, by decide +kernel, rfl, by decide +kernel, by decide +kernel⟩
abbrev s_UnevenInit : Stmt := inClass (topS 49) 0
theorem sc_UnevenInit : FnScope ["self", "place", "one", "other"] ["self", "place", "one", "other"] (defScope s_UnevenInit) := ⟨rfl, rfl, rfl, by decide +kernel, rfl, by decide +kernel, by decide +kernel⟩
abbrev s_find_short : Stmt := topS 50
theorem sc_find_short : FnScope ["meter", "fall", "costs", "length", "row", "rests", "run", "worth", "cost"] ["meter"] (defScope s_find_short) := ⟨rfl, rfl, rfl, by decide +kernel, rfl, by decide +kernel, by decide +kernel⟩
abbrev s_least_first : Stmt := topS 51
theorem sc_least_first : FnScope ["meter", "fall", "spare", "low", "cost"] ["meter"] (defScope s_least_first) := ⟨rfl, rfl, rfl, by decide +kernel, rfl, by decide +kernel, by decide +kernel⟩
abbrev s_even_leads : Stmt := topS 52
theorem sc_even_leads : FnScope ["meter", "drift", "place", "run", "lows", "highs"] ["meter"] (defScope s_even_leads) := ⟨rfl, rfl, rfl, by decide +kernel, rfl, by decide +kernel, by decide +kernel⟩
abbrev s_MeterInit : Stmt := inClass (topS 55) 0
theorem sc_MeterInit : FnScope ["self", "chart", "first", "charges", "arrow", "charge"] ["self", "chart", "first", "charges"] (defScope s_MeterInit) := ⟨rfl, rfl, rfl, by decide +kernel, rfl, by decide +kernel, by decide +kernel⟩
abbrev s_Metercharged : Stmt := inClass (topS 55) 3
theorem sc_Metercharged : FnScope ["self", "run", "arrow"] ["self", "run"] (defScope s_Metercharged) := ⟨rfl, rfl, rfl, by decide +kernel, rfl, by decide +kernel, by decide +kernel⟩
abbrev s_Meterlead_ahead : Stmt := inClass (topS 55) 4
theorem sc_Meterlead_ahead : FnScope ["self", "run", "arrows", "last"] ["self", "run"] (defScope s_Meterlead_ahead) := ⟨rfl, rfl, rfl, by decide +kernel, rfl, by decide +kernel, by decide +kernel⟩
abbrev s_Meterlead_behind : Stmt := inClass (topS 55) 5
theorem sc_Meterlead_behind : FnScope ["self", "run"] ["self", "run"] (defScope s_Meterlead_behind) := ⟨rfl, rfl, rfl, by decide +kernel, rfl, by decide +kernel, by decide +kernel⟩
abbrev s_w_mix : Stmt := topS 57
theorem sc_w_mix : FnScope ["_law_number", "_law_turn", "_law_once", "_law_twice"] ["_law_number", "_law_turn"] (defScope s_w_mix) := ⟨rfl, rfl, rfl, by decide +kernel, rfl, by decide +kernel, by decide +kernel⟩
abbrev s_w_hand : Stmt := topS 58
theorem sc_w_hand : FnScope ["_law_script", "_law_total", "_law_k", "_law_cell"] ["_law_script"] (defScope s_w_hand) := ⟨rfl, rfl, rfl, by decide +kernel, rfl, by decide +kernel, by decide +kernel⟩
abbrev s_w_draw : Stmt := topS 59
theorem sc_w_draw : FnScope ["_law_hand_here", "_law_many", "_law_cell", "_law_rest"] ["_law_hand_here", "_law_many"] (defScope s_w_draw) := ⟨rfl, rfl, rfl, by decide +kernel, rfl, by decide +kernel, by decide +kernel⟩
abbrev s_w_take : Stmt := topS 60
theorem sc_w_take : FnScope ["_law_hand_here", "_law_row"] ["_law_hand_here", "_law_row"] (defScope s_w_take) := ⟨rfl, rfl, rfl, by decide +kernel, rfl, by decide +kernel, by decide +kernel⟩
abbrev s_w_cost : Stmt := topS 61
theorem sc_w_cost : FnScope ["_law_hand_here", "_law_small"] ["_law_hand_here", "_law_small"] (defScope s_w_cost) := ⟨rfl, rfl, rfl, by decide +kernel, rfl, by decide +kernel, by decide +kernel⟩
abbrev s_w_order : Stmt := topS 62
theorem sc_w_order : FnScope ["_law_hand_here", "_law_many", "_law_left", "_law_told", "_law_k"] ["_law_hand_here", "_law_many"] (defScope s_w_order) := ⟨rfl, rfl, rfl, by decide +kernel, rfl, by decide +kernel, by decide +kernel⟩
abbrev s_w_behind : Stmt := topS 63
theorem sc_w_behind : FnScope ["_law_chart", "_law_place", "_law_told", "_law_turn", "_law_arrow"] ["_law_chart", "_law_place"] (defScope s_w_behind) := ⟨rfl, rfl, rfl, by decide +kernel, rfl, by decide +kernel, by decide +kernel⟩
abbrev s_w_inner : Stmt := topS 64
theorem sc_w_inner : FnScope ["_law_chart", "_law_behind_here", "_law_place", "_law_arrow"] ["_law_chart"] (defScope s_w_inner) := ⟨rfl, rfl, rfl, by decide +kernel, rfl, by decide +kernel, by decide +kernel⟩
abbrev s_w_even_row : Stmt := topS 65
theorem sc_w_even_row : FnScope ["_law_hand_here", "_law_chart", "_law_top", "_law_over", "_law_turn", "_law_arrow", "_law_leads", "_law_less", "_law_cost_here", "_law_place", "_law_lead"] ["_law_hand_here", "_law_chart"] (defScope s_w_even_row) := ⟨rfl, rfl, rfl, by decide +kernel, rfl, by decide +kernel, by decide +kernel⟩
abbrev s_w_meter : Stmt := topS 66
theorem sc_w_meter : FnScope ["_law_hand_here", "_law_chart", "_law_costs", "_law_leads", "_law_charges", "_law_way", "_law_inner_here", "_law_inside", "_law_k", "_law_at", "_law_by", "_law_most", "_law_first", "_law_arrow"] ["_law_hand_here", "_law_chart"] (defScope s_w_meter) := ⟨rfl, rfl, rfl, by decide +kernel, rfl, by decide +kernel, by decide +kernel⟩
abbrev s_w_made : Stmt := topS 67
theorem sc_w_made : FnScope ["_law_hand_here", "_law_meter_here"] ["_law_hand_here", "_law_meter_here"] (defScope s_w_made) := ⟨rfl, rfl, rfl, by decide +kernel, rfl, by decide +kernel, by decide +kernel⟩
abbrev s_w_gain : Stmt := topS 68
theorem sc_w_gain : FnScope ["_law_meter_here", "_law_arrow"] ["_law_meter_here", "_law_arrow"] (defScope s_w_gain) := ⟨rfl, rfl, rfl, by decide +kernel, rfl, by decide +kernel, by decide +kernel⟩
abbrev s_w_sum : Stmt := topS 69
theorem sc_w_sum : FnScope ["_law_meter_here", "_law_arrows", "_law_arrow"] ["_law_meter_here", "_law_arrows"] (defScope s_w_sum) := ⟨rfl, rfl, rfl, by decide +kernel, rfl, by decide +kernel, by decide +kernel⟩
abbrev s_w_run : Stmt := topS 70
theorem sc_w_run : FnScope ["_law_hand_here", "_law_chart", "_law_most", "_law_run_here", "_law_place", "_law_k", "_law_outs", "_law_j"] ["_law_hand_here", "_law_chart", "_law_most"] (defScope s_w_run) := ⟨rfl, rfl, rfl, by decide +kernel, rfl, by decide +kernel, by decide +kernel⟩
abbrev s_w_last : Stmt := topS 71
theorem sc_w_last : FnScope ["_law_chart", "_law_run_here"] ["_law_chart", "_law_run_here"] (defScope s_w_last) := ⟨rfl, rfl, rfl, by decide +kernel, rfl, by decide +kernel, by decide +kernel⟩
abbrev s_w_wide : Stmt := topS 72
theorem sc_w_wide : FnScope ["_law_hand_here", "_law_many", "_law_small", "_law_pairs", "_law_k", "_law_place", "_law_arrows"] ["_law_hand_here"] (defScope s_w_wide) := ⟨rfl, rfl, rfl, by decide +kernel, rfl, by decide +kernel, by decide +kernel⟩
abbrev s_w_ends : Stmt := topS 73
theorem sc_w_ends : FnScope ["_law_meter_here", "_law_run_here", "_law_place", "_law_arrow"] ["_law_meter_here", "_law_run_here"] (defScope s_w_ends) := ⟨rfl, rfl, rfl, by decide +kernel, rfl, by decide +kernel, by decide +kernel⟩
abbrev s_w_shortest : Stmt := topS 74
theorem sc_w_shortest : FnScope ["_law_chart", "_law_place", "_law_told", "_law_seen", "_law_at", "_law_last_here", "_law_k", "_law_run_here"] ["_law_chart", "_law_place"] (defScope s_w_shortest) := ⟨rfl, rfl, rfl, by decide +kernel, rfl, by decide +kernel, by decide +kernel⟩
abbrev s_w_ring_right : Stmt := topS 75
theorem sc_w_ring_right : FnScope ["_law_hand_here", "_law_meter_here", "_law_made_here", "_law_told", "_law_sense", "_law_places", "_law_arrow", "_law_heads", "_law_by", "_law_run_here", "_law_times", "_law_lead"] ["_law_hand_here", "_law_meter_here", "_law_made_here", "_law_told", "_law_sense"] (defScope s_w_ring_right) := ⟨rfl, rfl, rfl, by decide +kernel, rfl, by decide +kernel, by decide +kernel⟩
abbrev s_w_side : Stmt := topS 76
theorem sc_w_side : FnScope ["_law_hand_here", "_law_meter_here", "_law_made_here", "_law_sense", "_law_drift", "_law_row", "_law_k", "_law_place", "_law_run_here"] ["_law_hand_here", "_law_meter_here", "_law_made_here", "_law_sense"] (defScope s_w_side) := ⟨rfl, rfl, rfl, by decide +kernel, rfl, by decide +kernel, by decide +kernel⟩
abbrev s_w_levels_right : Stmt := topS 77
theorem sc_w_levels_right : FnScope ["_law_hand_here", "_law_meter_here", "_law_made_here", "_law_drift", "_law_row", "_law_inner_here", "_law_k"] ["_law_hand_here", "_law_meter_here", "_law_made_here"] (defScope s_w_levels_right) := ⟨rfl, rfl, rfl, by decide +kernel, rfl, by decide +kernel, by decide +kernel⟩
abbrev s_w_cover_right : Stmt := topS 78
theorem sc_w_cover_right : FnScope ["_law_meter_here", "_law_made_here", "_law_lows", "_law_told", "_law_spare", "_law_last_here", "_law_place"] ["_law_meter_here", "_law_made_here", "_law_lows"] (defScope s_w_cover_right) := ⟨rfl, rfl, rfl, by decide +kernel, rfl, by decide +kernel, by decide +kernel⟩
abbrev s_w_even_right : Stmt := topS 79
theorem sc_w_even_right : FnScope ["_law_meter_here", "_law_made_here", "_law_lows", "_law_highs", "_law_told"] ["_law_meter_here", "_law_made_here", "_law_lows", "_law_highs"] (defScope s_w_even_right) := ⟨rfl, rfl, rfl, by decide +kernel, rfl, by decide +kernel, by decide +kernel⟩
abbrev s_law : Stmt := topS 80
theorem sc_law : FnScope ["_law_script", "_law_hand_here", "_law_chart", "_law_meter_here", "_law_made_here", "_law_lows", "_law_highs", "_law_run_here", "_law_lead", "_law_place", "_law_arrow"] ["_law_script"] (defScope s_law) := ⟨rfl, rfl, rfl, by decide +kernel, rfl, by decide +kernel, by decide +kernel⟩
/-! ### what the top has written -/
structure Ad where
  ch : Addr
  me : Addr
  dr : Addr
  sh : Addr
  un : Addr
  tk : Tok
/-- an own class for isinstance -/
structure IsiC (K : PySem.W.Frag) (C : Addr) : Prop where
  ha : PySem.W.findIn K (.ref C) "__class__" = some (some (.builtin "object.__class__"))
  hn : PySem.W.specialIn K (.builtin "object.__class__") "__get__" = some (some (.builtin "getset_descriptor.__get__"))
  htk : PySem.W.takesIn K (.builtin "object.__class__") = some true
  hm : PySem.W.mroIn K C (.type "object") = some true
structure Txt (K : PySem.W.Frag) (mg : Str → Option Value) (A : Ad) : Prop where
  z_len : mg "len" = none
  z_enumerate : mg "enumerate" = none
  z_range : mg "range" = none
  z_isinstance : mg "isinstance" = none
  z_int : mg "int" = none
  z_bool : mg "bool" = none
  z_list : mg "list" = none
  z_tuple : mg "tuple" = none
  z_sorted : mg "sorted" = none
  z_sum : mg "sum" = none
  z_max : mg "max" = none
  z_min : mg "min" = none
  z_any : mg "any" = none
  z_zip : mg "zip" = none
  z_reversed : mg "reversed" = none
  z_abs : mg "abs" = none
  cl_ch : Cls K A.ch
  g_ch : mg "Chart" = some (.ref A.ch)
  cl_me : Cls K A.me
  g_me : mg "Meter" = some (.ref A.me)
  cl_dr : Cls K A.dr
  g_dr : mg "Drift" = some (.ref A.dr)
  cl_sh : Cls K A.sh
  g_sh : mg "Short" = some (.ref A.sh)
  cl_un : Cls K A.un
  g_un : mg "Uneven" = some (.ref A.un)
  n_ch_costs : NoAttr K A.ch "costs"
  n_ch_arrows : NoAttr K A.ch "arrows"
  n_me_chart : NoAttr K A.me "chart"
  n_me_first : NoAttr K A.me "first"
  n_me_charges : NoAttr K A.me "charges"
  n_dr_ring : NoAttr K A.dr "ring"
  n_dr_by : NoAttr K A.dr "by"
  n_sh_run : NoAttr K A.sh "run"
  n_sh_by : NoAttr K A.sh "by"
  n_un_place : NoAttr K A.un "place"
  n_un_one : NoAttr K A.un "one"
  n_un_other : NoAttr K A.un "other"
  i_dr : IsiC K A.dr
  i_sh : IsiC K A.sh
  i_un : IsiC K A.un
  k_un : PySem.W.kitOne K (.type "tuple") (.ref A.un) = some false
  k_dd : PySem.W.kitOne K (.ref A.dr) (.ref A.dr) = some true
  k_ss : PySem.W.kitOne K (.ref A.sh) (.ref A.sh) = some true
  k_uu : PySem.W.kitOne K (.ref A.un) (.ref A.un) = some true
  gMost : mg "MOST_CHARGE" = some (.int 1000000000000 A.tk)
/-! ### data on the heap -/
/-- meters -/
structure Mt where
  costs : List Int
  arrows : List (Nat × Nat)
  first : Int
  charges : List Int
abbrev Mt.n (M : Mt) : Nat := M.costs.length
def Mt.E (M : Mt) : List Edge := (M.arrows.zip M.charges).map fun e => (e.1.1, e.1.2, e.2 - M.costs.getD e.1.1 0)
/-- what holds of a chart -/
structure ChOk (cs : List Int) (ar : List (Nat × Nat)) : Prop where
  n1 : 1 ≤ cs.length
  n16 : cs.length ≤ 16
  a32 : ar.length ≤ 32
  ends : ∀ e ∈ ar, e.1 < cs.length ∧ e.2 < cs.length
structure Mt.Ok (M : Mt) : Prop where
  ch : ChOk M.costs M.arrows
  len : M.charges.length = M.arrows.length
  reach : ∀ p, p < M.costs.length → ∃ ks, Wk M.E 0 ks p
theorem Mt.E_at {M : Mt} {k t h : Nat} {c : Int} (h1 : M.arrows[k]? = some (t, h)) (h2 : M.charges[k]? = some c) : M.E[k]? = some (t, h, c - M.costs.getD t 0) := by
  unfold Mt.E
  rw [List.getElem?_map, List.getElem?_zip_eq_some (z := ((t, h), c)) |>.mpr ⟨h1, h2⟩]
  rfl
theorem Mt.E_inv {M : Mt} {k t h : Nat} {g : Int} (e : M.E[k]? = some (t, h, g)) : M.arrows[k]? = some (t, h) ∧ ∃ c, M.charges[k]? = some c ∧ g = c - M.costs.getD t 0 := by
  unfold Mt.E at e
  rw [List.getElem?_map] at e
  cases q : (M.arrows.zip M.charges)[k]? with
  | none => rw [q] at e; cases e
  | some z =>
    obtain ⟨⟨t', h'⟩, c⟩ := z
    rw [q] at e
    have e2 : (t', h', c - M.costs.getD t' 0) = (t, h, g) := Option.some.inj e
    obtain ⟨q1, q2⟩ := List.getElem?_zip_eq_some.mp q
    cases e2
    exact ⟨q1, c, q2, rfl⟩
theorem Mt.E_len {M : Mt} (h : M.charges.length = M.arrows.length) : M.E.length = M.arrows.length := by
  unfold Mt.E
  rw [List.length_map, List.length_zip, h, Nat.min_self]
theorem Mt.Ok.E_lt {M : Mt} (o : M.Ok) : ∀ e ∈ M.E, e.1 < M.n ∧ e.2.1 < M.n := by
  rintro ⟨t, h, g⟩ he
  obtain ⟨k, hk⟩ := List.mem_iff_getElem?.mp he
  obtain ⟨h1, _⟩ := Mt.E_inv hk
  exact o.ch.ends _ (List.mem_of_getElem? h1)
theorem Mt.Ok.at {M : Mt} (o : M.Ok) {k : Nat} (hk : k < M.arrows.length) : ∃ t h c, M.arrows[k]? = some (t, h) ∧ M.charges[k]? = some c ∧ t < M.n ∧ h < M.n ∧ M.E[k]? = some (t, h, c - M.costs.getD t 0) := by
  have h1 : M.arrows[k]? = some M.arrows[k] := List.getElem?_eq_getElem hk
  have hc : k < M.charges.length := by rw [o.len]; exact hk
  have h2 : M.charges[k]? = some M.charges[k] := List.getElem?_eq_getElem hc
  have h3 := o.ch.ends _ (List.mem_of_getElem? h1)
  exact ⟨_, _, _, h1, h2, h3.1, h3.2, Mt.E_at h1 h2⟩
def IT (H : Hp) (a : Addr) (ns : List Int) : Prop := H a = some (.tup (ns.map V.int))
def IL (H : Hp) (a : Addr) (ns : List Int) : Prop := H a = some (.lst (ns.map V.int))
/-- Nat lists as ints -/
def nv (n : Nat) : V := .int (n : Int)
def NT (H : Hp) (a : Addr) (ns : List Nat) : Prop := H a = some (.tup (ns.map nv))
def NL (H : Hp) (a : Addr) (ns : List Nat) : Prop := H a = some (.lst (ns.map nv))
def optV : Option Int → V
  | none => .non
  | some i => .int i
def RowL (H : Hp) (a : Addr) (r : List (Option Int)) : Prop := H a = some (.lst (r.map optV))
/-- addresses and what stands at each -/
def Each {α : Type} (R : Addr → α → Prop) (ps : List Addr) (xs : List α) : Prop := ps.length = xs.length ∧ ∀ (i : Nat) (p : Addr) (x : α), ps[i]? = some p → xs[i]? = some x → R p x
theorem Each.mono {α : Type} {R S : Addr → α → Prop} {ps : List Addr} {xs : List α} (h : Each R ps xs) (k : ∀ p x, R p x → S p x) : Each S ps xs := ⟨h.1, fun i p x h1 h2 => k p x (h.2 i p x h1 h2)⟩
theorem Each.nil {α : Type} {R : Addr → α → Prop} : Each R [] ([] : List α) := ⟨rfl, fun i p x h => by simp at h⟩
theorem Each.snoc {α : Type} {R : Addr → α → Prop} {ps : List Addr} {xs : List α} {p : Addr} {x : α} (h : Each R ps xs) (r : R p x) : Each R (ps ++ [p]) (xs ++ [x]) := by
  refine ⟨by rw [List.length_append, List.length_append, h.1]; rfl, fun i q y h1 h2 => ?_⟩
  by_cases hi : i < ps.length
  · rw [List.getElem?_append_left hi] at h1
    rw [List.getElem?_append_left (by rw [← h.1]; exact hi)] at h2
    exact h.2 i q y h1 h2
  · have hlt := (List.getElem?_eq_some_iff.mp h1).1
    rw [List.length_append, List.length_singleton] at hlt
    have e : i = ps.length := by omega
    subst e
    rw [List.getElem?_append_right (Nat.le_refl _), Nat.sub_self] at h1
    rw [List.getElem?_append_right (by rw [h.1]; exact Nat.le_refl _), h.1, Nat.sub_self] at h2
    cases h1
    cases h2
    exact r
theorem Each.get {α : Type} {R : Addr → α → Prop} {ps : List Addr} {xs : List α} (h : Each R ps xs) {i : Nat} {x : α} (hx : xs[i]? = some x) : ∃ p, ps[i]? = some p ∧ R p x := by
  have hi : i < ps.length := by rw [h.1]; exact (List.getElem?_eq_some_iff.mp hx).1
  exact ⟨ps[i], List.getElem?_eq_getElem hi, h.2 i _ x (List.getElem?_eq_getElem hi) hx⟩
def PairAt (H : Hp) (p : Addr) (e : Nat × Nat) : Prop := H p = some (.tup [nv e.1, nv e.2])
def ArrT (H : Hp) (a : Addr) (ar : List (Nat × Nat)) : Prop := ∃ ps : List Addr, H a = some (.tup (ps.map V.ref)) ∧ Each (PairAt H) ps ar
def chF (pc pa : Addr) : List (Str × V) := [("costs", .ref pc), ("arrows", .ref pa)]
def meF (ch : Addr) (first : Int) (pg : Addr) : List (Str × V) := [("chart", .ref ch), ("first", .int first), ("charges", .ref pg)]
theorem lk_here {k : Str} {v : V} {r : List (Str × V)} : List.lookup k ((k, v) :: r) = some v := by
  have e : (k == k) = true := beq_self_eq_true k
  simp only [List.lookup, e]
theorem lk_past {k g : Str} {v : V} {r : List (Str × V)} (h : (k == g) = false) : List.lookup k ((g, v) :: r) = List.lookup k r := by
  simp only [List.lookup, h]
theorem put_here {f : Str} {v x : V} {r : List (Str × V)} : putF f v ((f, x) :: r) = (f, v) :: r := if_pos rfl
theorem put_past {f g : Str} {v x : V} {r : List (Str × V)} (h : ¬ g = f) : putF f v ((g, x) :: r) = (g, x) :: putF f v r := if_neg h
theorem chF_costs (pc pa : Addr) : (chF pc pa).lookup ("costs" : Str) = some (.ref pc) := lk_here
theorem chF_arrows (pc pa : Addr) : (chF pc pa).lookup ("arrows" : Str) = some (.ref pa) := (lk_past (by decide +kernel)).trans lk_here
theorem chF_outs (pc pa : Addr) : (chF pc pa).lookup ("outs" : Str) = none := (lk_past (by decide +kernel)).trans ((lk_past (by decide +kernel)).trans rfl)
theorem meF_chart (ch : Addr) (f : Int) (pg : Addr) : (meF ch f pg).lookup ("chart" : Str) = some (.ref ch) := lk_here
theorem meF_first (ch : Addr) (f : Int) (pg : Addr) : (meF ch f pg).lookup ("first" : Str) = some (.int f) := (lk_past (by decide +kernel)).trans lk_here
theorem meF_charges (ch : Addr) (f : Int) (pg : Addr) : (meF ch f pg).lookup ("charges" : Str) = some (.ref pg) := (lk_past (by decide +kernel)).trans ((lk_past (by decide +kernel)).trans lk_here)
theorem meF_no (ch : Addr) (f : Int) (pg : Addr) {m : Str} (h1 : (m == ("chart" : Str)) = false) (h2 : (m == ("first" : Str)) = false) (h3 : (m == ("charges" : Str)) = false) : (meF ch f pg).lookup m = none := (lk_past h1).trans ((lk_past h2).trans ((lk_past h3).trans rfl))
def ChartAt (A : Ad) (H : Hp) (a : Addr) (cs : List Int) (ar : List (Nat × Nat)) : Prop := ∃ dx pc pa, H a = some (.ins A.ch dx (chF pc pa)) ∧ IT H pc cs ∧ ArrT H pa ar
def MeterAt (A : Ad) (H : Hp) (a : Addr) (M : Mt) : Prop := ∃ dx ch pg, H a = some (.ins A.me dx (meF ch M.first pg)) ∧ ChartAt A H ch M.costs M.arrows ∧ IT H pg M.charges
/-- tuples and instances stay -/
def Fix (o : HO) : Prop := match o with
  | .lst _ => False
  | _ => True
/-- what does not change but lists -/
def KeepF (H H' : Hp) : Prop := ∀ b o, Fix o → H b = some o → H' b = some o
theorem _root_.L2.Same.kf {H H' : Hp} (s : Same H H') : KeepF H H' := fun b o _ h => s b o h
theorem ArrT.kf {H H' : Hp} (s : KeepF H H') {a : Addr} {ar : List (Nat × Nat)} (h : ArrT H a ar) : ArrT H' a ar := by
  obtain ⟨ps, h1, h2⟩ := h
  exact ⟨ps, s _ _ trivial h1, h2.mono fun p x e => s _ _ trivial e⟩
theorem IT.kf {H H' : Hp} (s : KeepF H H') {a : Addr} {ns : List Int} (h : IT H a ns) : IT H' a ns := s _ _ trivial h
theorem NT.kf {H H' : Hp} (s : KeepF H H') {a : Addr} {ns : List Nat} (h : NT H a ns) : NT H' a ns := s _ _ trivial h
theorem ChartAt.kf {A : Ad} {H H' : Hp} (s : KeepF H H') {a : Addr} {cs : List Int} {ar : List (Nat × Nat)} (h : ChartAt A H a cs ar) : ChartAt A H' a cs ar := by
  obtain ⟨dx, pc, pa, h1, h2, h3⟩ := h
  exact ⟨dx, pc, pa, s _ _ trivial h1, h2.kf s, h3.kf s⟩
theorem MeterAt.kf {A : Ad} {H H' : Hp} (s : KeepF H H') {a : Addr} {M : Mt} (h : MeterAt A H a M) : MeterAt A H' a M := by
  obtain ⟨dx, ch, pg, h1, h2, h3⟩ := h
  exact ⟨dx, ch, pg, s _ _ trivial h1, h2.kf s, h3.kf s⟩
theorem MeterAt.s {A : Ad} {H H' : Hp} {a : Addr} {M : Mt} (h : MeterAt A H a M) (s : Same H H') : MeterAt A H' a M := h.kf s.kf
theorem ChartAt.s {A : Ad} {H H' : Hp} {a : Addr} {cs : List Int} {ar : List (Nat × Nat)} (h : ChartAt A H a cs ar) (s : Same H H') : ChartAt A H' a cs ar := h.kf s.kf
/-! ### what is read off them -/
section
variable {K : PySem.W.Frag} {mg : Str → Option Value} {A : Ad} {σ : L2.St} {H : Hp} {ta tb : TE} {a : Addr} {M : Mt} {cs : List Int} {ar : List (Nat × Nat)} {k t h : Nat}
theorem int_at {ns : List Int} {k : Nat} {c : Int} (h : ns[k]? = some c) : (ns.map V.int)[k]? = some (V.int c) := by rw [List.getElem?_map, h]; rfl
theorem nat_at {ns : List Nat} {k c : Nat} (h : ns[k]? = some c) : (ns.map nv)[k]? = some (V.int (c : Int)) := by rw [List.getElem?_map, h]; rfl
theorem ref_at {ps : List Addr} {k : Nat} {p : Addr} (h : ps[k]? = some p) : (ps.map V.ref)[k]? = some (V.ref p) := by rw [List.getElem?_map, h]; rfl
theorem getD_at {ns : List Int} {k : Nat} (h : k < ns.length) : ns[k]? = some (ns.getD k 0) := by
  rw [List.getD_eq_getElem?_getD, List.getElem?_eq_getElem h]
  rfl
theorem rd_costs (T : Txt K mg A) (hc : ChartAt A H a cs ar) (ha : EvE ta σ H (.ref a)) : ∃ pc, EvE (tFld K ta "costs") σ H (.ref pc) ∧ IT H pc cs := by
  obtain ⟨dx, pc, pa, h1, h2, h3⟩ := hc
  exact ⟨pc, ev_fld ha h1 T.cl_ch T.n_ch_costs (chF_costs _ _), h2⟩
theorem rd_arrows (T : Txt K mg A) (hc : ChartAt A H a cs ar) (ha : EvE ta σ H (.ref a)) : ∃ pa ps, EvE (tFld K ta "arrows") σ H (.ref pa) ∧ H pa = some (.tup (ps.map V.ref)) ∧ Each (PairAt H) ps ar := by
  obtain ⟨dx, pc, pa, h1, h2, ps, h3, h4⟩ := hc
  exact ⟨pa, ps, ev_fld ha h1 T.cl_ch T.n_ch_arrows (chF_arrows _ _), h3, h4⟩
theorem rd_chart (T : Txt K mg A) (hm : MeterAt A H a M) (ha : EvE ta σ H (.ref a)) : ∃ ch, EvE (tFld K ta "chart") σ H (.ref ch) ∧ ChartAt A H ch M.costs M.arrows := by
  obtain ⟨dx, ch, pg, h1, h2, h3⟩ := hm
  exact ⟨ch, ev_fld ha h1 T.cl_me T.n_me_chart (meF_chart _ _ _), h2⟩
theorem rd_first (T : Txt K mg A) (hm : MeterAt A H a M) (ha : EvE ta σ H (.ref a)) : EvE (tFld K ta "first") σ H (.int M.first) := by
  obtain ⟨dx, ch, pg, h1, h2, h3⟩ := hm
  exact ev_fld ha h1 T.cl_me T.n_me_first (meF_first _ _ _)
theorem rd_charges (T : Txt K mg A) (hm : MeterAt A H a M) (ha : EvE ta σ H (.ref a)) : ∃ pg, EvE (tFld K ta "charges") σ H (.ref pg) ∧ IT H pg M.charges := by
  obtain ⟨dx, ch, pg, h1, h2, h3⟩ := hm
  exact ⟨pg, ev_fld ha h1 T.cl_me T.n_me_charges (meF_charges _ _ _), h3⟩
/-- chart.costs[e] -/
theorem rd_cost (T : Txt K mg A) (hc : ChartAt A H a cs ar) (ha : EvE ta σ H (.ref a)) (hb : EvE tb σ H (.int (k : Int))) (hk : k < cs.length) : EvE (tOp (rIxA K) (tFld K ta "costs") tb) σ H (.int (cs.getD k 0)) := by
  obtain ⟨pc, h1, h2⟩ := rd_costs T hc ha
  exact ev_ixn h1 hb (SqA.t h2) (int_at (getD_at hk))
/-- chart.arrows[e][0], chart.arrows[e][1] -/
theorem rd_tail (T : Txt K mg A) (hc : ChartAt A H a cs ar) (ha : EvE ta σ H (.ref a)) (hb : EvE tb σ H (.int (k : Int))) (hk : ar[k]? = some (t, h)) : EvE (tOp (rIxA K) (tOp (rIxA K) (tFld K ta "arrows") tb) (tC (.int 0))) σ H (.int (t : Int)) := by
  obtain ⟨pa, ps, h1, h2, h3⟩ := rd_arrows T hc ha
  obtain ⟨p, hp, hpr⟩ := h3.get hk
  exact ev_ixn (n := 0) (ev_ixn h1 hb (SqA.t h2) (ref_at hp)) ev_c (SqA.t hpr) rfl
theorem rd_head (T : Txt K mg A) (hc : ChartAt A H a cs ar) (ha : EvE ta σ H (.ref a)) (hb : EvE tb σ H (.int (k : Int))) (hk : ar[k]? = some (t, h)) : EvE (tOp (rIxA K) (tOp (rIxA K) (tFld K ta "arrows") tb) (tC (.int 1))) σ H (.int (h : Int)) := by
  obtain ⟨pa, ps, h1, h2, h3⟩ := rd_arrows T hc ha
  obtain ⟨p, hp, hpr⟩ := h3.get hk
  exact ev_ixn (n := 1) (ev_ixn h1 hb (SqA.t h2) (ref_at hp)) ev_c (SqA.t hpr) rfl
theorem rd_charge (T : Txt K mg A) (hm : MeterAt A H a M) (ha : EvE ta σ H (.ref a)) (hb : EvE tb σ H (.int (k : Int))) {c : Int} (hk : M.charges[k]? = some c) : EvE (tOp (rIxA K) (tFld K ta "charges") tb) σ H (.int c) := by
  obtain ⟨pg, h1, h2⟩ := rd_charges T hm ha
  exact ev_ixn h1 hb (SqA.t h2) (int_at hk)
end
end K15
namespace K15
open PySem PySem.Spec PyProof.Rows L2 RZ
/-! ### is_whole, is_row, check_place, arrow_gain, Chart.outs -/
def Sq (H : Hp) (a : Addr) (xs : List V) : Prop := H a = some (.lst xs) ∨ H a = some (.tup xs)
theorem Sq.a {K : PySem.W.Frag} {H : Hp} {a : Addr} {xs : List V} (h : Sq H a xs) : SqA K H a xs := h.elim SqA.l SqA.t
theorem Sq.s {H H' : Hp} {a : Addr} {xs : List V} (h : Sq H a xs) (s : Same H H') : Sq H' a xs := h.elim (fun e => .inl (s _ _ e)) fun e => .inr (s _ _ e)
def sp_is_whole (_ : Ad) : Sp := fun vs H Q _ => ∃ i lo hi : Int, vs = [.int i, .int lo, .int hi] ∧ Q (.bl (decide (lo ≤ i) && decide (i ≤ hi))) H
def sp_is_row (_ : Ad) : Sp := fun vs H Q _ => ∃ (a : Addr) (xs : List V) (lo hi : Int), vs = [.ref a, .int lo, .int hi] ∧ Sq H a xs ∧ ∀ H', Same H H' → Q (.bl (decide (lo ≤ (xs.length : Int)) && decide ((xs.length : Int) ≤ hi))) H'
def sp_check_place (A : Ad) : Sp := fun vs H Q _ => ∃ (c : Addr) (cs : List Int) (ar : List (Nat × Nat)) (p : Nat), vs = [.ref c, nv p] ∧ ChartAt A H c cs ar ∧ p < cs.length ∧ Q (nv p) H
def sp_arrow_gain (A : Ad) : Sp := fun vs H Q _ => ∃ (m : Addr) (M : Mt) (k t h : Nat) (g : Int), vs = [.ref m, nv k] ∧ MeterAt A H m M ∧ M.E[k]? = some (t, h, g) ∧ t < M.n ∧ Q (.int g) H
def outsUp (ar : List (Nat × Nat)) (p n : Nat) : List Nat := (List.range n).filter fun k => decide ((ar.getD k (0, 0)).1 = p)
def outs (ar : List (Nat × Nat)) (p : Nat) : List Nat := outsUp ar p ar.length
theorem outsUp_succ (ar : List (Nat × Nat)) (p n : Nat) : outsUp ar p (n + 1) = outsUp ar p n ++ if (ar.getD n (0, 0)).1 = p then [n] else [] := by
  unfold outsUp
  rw [List.range_succ, List.filter_append, List.filter_cons]
  by_cases h : (ar.getD n (0, 0)).1 = p
  · rw [if_pos (decide_eq_true h), if_pos h]; rfl
  · rw [if_neg (by rw [decide_eq_false h]; decide), if_neg h]; rfl
theorem outsUp_len (ar : List (Nat × Nat)) (p n : Nat) : (outsUp ar p n).length ≤ n := by
  have h := List.length_filter_le (fun k => decide ((ar.getD k (0, 0)).1 = p)) (List.range n)
  rw [List.length_range] at h
  exact h
theorem mem_outs {ar : List (Nat × Nat)} {p k : Nat} : k ∈ outs ar p ↔ ∃ h, ar[k]? = some (p, h) := by
  unfold outs outsUp
  rw [List.mem_filter, List.mem_range, decide_eq_true_eq, List.getD_eq_getElem?_getD]
  constructor
  · rintro ⟨h1, h2⟩
    rw [List.getElem?_eq_getElem h1] at h2 ⊢
    refine ⟨ar[k].2, ?_⟩
    have h3 : ar[k].1 = p := h2
    rw [← h3]
  · rintro ⟨h, e⟩
    exact ⟨(List.getElem?_eq_some_iff.mp e).1, by rw [e]; rfl⟩
def sp_Chartouts (A : Ad) : Sp := fun vs H Q _ => ∃ (c : Addr) (cs : List Int) (ar : List (Nat × Nat)) (p : Nat), vs = [.ref c, nv p] ∧ ChartAt A H c cs ar ∧ p < cs.length ∧ ar.length ≤ 32 ∧ ∀ H' q, Same H H' → H q = none → NT H' q (outs ar p) → Q (.ref q) H'
section
variable {P : Program} {w : World} {K : PySem.W.Frag} {mg : Str → Option Value} {base : Heap} {A : Ad} (T : Txt K mg A)
include T
theorem ok_is_whole (d : Df K mg "is_whole" s_is_whole ["thing", "low", "high"]) : Cal P w K mg base 1 "is_whole" ["thing", "low", "high"] (sp_is_whole A) := by
  refine d.ok sc_is_whole (fun vs H Q E h => ?_) (fun f cdv A' outer s H vs Q E hr h => ?_)
  · obtain ⟨i, lo, hi, rfl, _⟩ := h
    rfl
  · obtain ⟨i, lo, hi, rfl, q⟩ := h
    refine ⟨_, (pss_one (ps_ret (pe_and (pe_callB call_isi (by rfl) T.z_isinstance (by decide +kernel) (pa_cons (pv 0) (pa_cons (pe_bltn (v := .ty "int") (by rfl) T.z_int (by decide +kernel) rfl) pa_nil))) (pe_and (pe_not (pe_callB call_isi (by rfl) T.z_isinstance (by decide +kernel) (pa_cons (pv 0) (pa_cons (pe_bltn (v := .ty "bool") (by rfl) T.z_bool (by decide +kernel) rfl) pa_nil)))) (pe_one (pe_chain op_leI op_leI (pv 1) (pv 0) (pv 2))))))), ?_⟩
    refine ⟨_, rfl, .int i, .ty "int", .type "int", .type "int", true, rfl, .ty _, .base (.int i), kit_ty (by decide +kernel), true, rfl, ?_⟩
    refine iteT ⟨_, rfl, .int i, .ty "bool", .type "int", .type "bool", false, rfl, .ty _, .base (.int i), kit_ty (by decide +kernel), false, rfl, true, rfl, ?_⟩
    refine iteT (ev_chain (k := decide (lo ≤ i)) (l := decide (i ≤ hi)) (ev_var rfl) (ev_var rfl) (fun _ q => ⟨_, _, rfl, rfl, q⟩) (fun _ => ev_var rfl) (fun _ _ q => ⟨_, _, rfl, rfl, q⟩) _ ?_)
    exact q
theorem ok_is_row (d : Df K mg "is_row" s_is_row ["thing", "least", "most"]) : Cal P w K mg base 1 "is_row" ["thing", "least", "most"] (sp_is_row A) := by
  refine d.ok sc_is_row (fun vs H Q E h => ?_) (fun f cdv A' outer s H vs Q E hr h => ?_)
  · obtain ⟨a, xs, lo, hi, rfl, _⟩ := h
    rfl
  · obtain ⟨a, xs, lo, hi, rfl, hS, q⟩ := h
    refine ⟨_, (pss_one (ps_ret (pe_and (pe_callB call_isiT (by rfl) T.z_isinstance (by decide +kernel) (pa_cons (pv 0) (pa_cons (pe_tup (pa_cons (pe_bltn (v := .ty "list") (by rfl) T.z_list (by decide +kernel) rfl) (pa_cons (pe_bltn (v := .ty "tuple") (by rfl) T.z_tuple (by decide +kernel) rfl) pa_nil))) pa_nil))) (pe_one (pe_chain op_leI op_leI (pv 1) (pe_callB cr_len (by rfl) T.z_len (by decide +kernel) (pa_cons (pv 0) pa_nil)) (pv 2)))))), ?_⟩
    refine ⟨_, rfl, by show 2 ≤ sizeLine; decide, fun p hp => ?_⟩
    have s1 : Same H (upd H p (.tup [.ty "list", .ty "tuple"])) := same_upd hp
    have kit : ∃ t, TyX K (upd H p (.tup [.ty "list", .ty "tuple"])) (.ref a) t ∧ PySem.W.kitAny K t [.type "list", .type "tuple"] = some true := by
      rcases hS.s s1 with e | e
      · exact ⟨.type "list", .base (.lst e), kitAny_cons (kit_ty (b := "list") (r := true) (by decide +kernel)) (fun z => by cases z) (fun _ => rfl)⟩
      · exact ⟨.type "tuple", .base (.tup e), kitAny_cons (kit_ty (b := "list") (r := false) (by decide +kernel)) (fun _ => kitAny_cons (kit_ty (b := "tuple") (r := true) (by decide +kernel)) (fun z => by cases z) (fun _ => rfl)) (fun z => by cases z)⟩
    obtain ⟨t, h1, h2⟩ := kit
    refine ⟨.ref a, p, [.ty "list", .ty "tuple"], t, [.type "list", .type "tuple"], true, rfl, upd_same, .cons (.ty _) (.cons (.ty _) .nil), h1, h2, true, rfl, ?_⟩
    refine iteT (ev_chain (k := decide (lo ≤ (xs.length : Int))) (l := decide ((xs.length : Int) ≤ hi)) (ev_var rfl) (ev_len (ev_var rfl) (hS.s s1).a) (fun _ q => ⟨_, _, rfl, rfl, q⟩) (fun _ => ev_var rfl) (fun _ _ q => ⟨_, _, rfl, rfl, q⟩) _ ?_)
    exact q _ s1
theorem ok_check_place (d : Df K mg "check_place" s_check_place ["chart", "place"]) (c_is_whole : Cal P w K mg base 1 "is_whole" ["thing", "low", "high"] (sp_is_whole A)) : Cal P w K mg base 2 "check_place" ["chart", "place"] (sp_check_place A) := by
  refine d.ok sc_check_place (fun vs H Q E h => ?_) (fun f cdv A' outer s H vs Q E hr h => ?_)
  · obtain ⟨c, cs, ar, p, rfl, _⟩ := h
    rfl
  · obtain ⟨c, cs, ar, p, rfl, hc, hp, q⟩ := h
    refine ⟨_, (pss_cons (ps_if (pt_not (pt_val (pe_cal c_is_whole hr (by rfl) (pa_cons (pv 1) (pa_cons pe_int (pa_cons (pe_op op_subI (pe_callB cr_len (by rfl) T.z_len (by decide +kernel) (pa_cons (pe_fld (pv 0) rfl) pa_nil)) pe_int) pa_nil)))))) (pss_one ps_never) pss_nil)
    (pss_one (ps_ret (pv 1)))), ?_⟩
    obtain ⟨pc, h1, h2⟩ := rd_costs (σ := start ["chart", "place"] [.ref c, nv p]) (ta := tVar 0) T hc (ev_var rfl)
    have hw : EvE (tCall (sp_is_whole A) [] E0 (tCons (tVar 1) (tCons (tC (.int 0)) (tCons (tOp rSubI (tCB (rLenA K) (tCons (tFld K (tVar 0) "costs") tNil)) (tC (.int 1))) tNil)))) (start ["chart", "place"] [.ref c, nv p]) H (.bl true) :=
      ev_call (ea_cons (ev_var rfl) (ea_cons ev_c (ea_cons (ev_sub (ev_len h1 (SqA.t h2)) ev_c) ea_nil))) fun Q q => ⟨_, _, _, rfl, by
        rw [decide_eq_true (show (0 : Int) ≤ (p : Int) by omega), decide_eq_true (show (p : Int) ≤ ((cs.map V.int).length : Int) - 1 by rw [List.length_map]; omega)]
        exact q⟩
    exact sx_seq (sx_no (et_not (et_B hw)) (sx_ret (ev_var rfl) q))
theorem ok_arrow_gain (d : Df K mg "arrow_gain" s_arrow_gain ["meter", "arrow"]) : Cal P w K mg base 1 "arrow_gain" ["meter", "arrow"] (sp_arrow_gain A) := by
  refine d.ok sc_arrow_gain (fun vs H Q E h => ?_) (fun f cdv A' outer s H vs Q E hr h => ?_)
  · obtain ⟨m, M, k, t, h, g, rfl, _⟩ := h
    rfl
  · obtain ⟨m, M, k, t, hd, g, rfl, hm, he, ht, q⟩ := h
    refine ⟨_, (pss_one (ps_ret (pe_op op_subI (pe_ix ix_any (pe_fld (pv 0) rfl) (pv 1) (fun _ _ => rfl)) (pe_ix ix_any (pe_fld (pe_fld (pv 0) rfl) rfl) (pe_ix ix_any (pe_ix ix_any (pe_fld (pe_fld (pv 0) rfl) rfl) (pv 1) (fun _ _ => rfl)) pe_int (fun _ _ => rfl)) (fun _ _ => rfl))))), ?_⟩
    obtain ⟨e1, c, e2, rfl⟩ := Mt.E_inv he
    obtain ⟨ch, h1, h2⟩ := rd_chart (σ := start ["meter", "arrow"] [.ref m, nv k]) (ta := tVar 0) T hm (ev_var rfl)
    exact sx_ret (ev_sub (rd_charge T hm (ev_var rfl) (ev_var rfl) e2) (rd_cost T h2 h1 (rd_tail T h2 h1 (ev_var rfl) e1) ht)) q
theorem ok_Chartouts (d : DfM K A.ch "outs" "Chart.outs" s_Chartouts ["self", "place"]) (c_check_place : Cal P w K mg base 2 "check_place" ["chart", "place"] (sp_check_place A)) : CalM P w K mg base 3 A.ch "outs" ["self", "place"] (sp_Chartouts A) := by
  refine d.ok T.cl_ch sc_Chartouts (fun vs H Q E h => ?_) (fun f cdv A' outer s H vs Q E hr h => ?_)
  · obtain ⟨c, cs, ar, p, rfl, _⟩ := h
    rfl
  · obtain ⟨c, cs, ar, p, rfl, hc, hp, h32, q⟩ := h
    refine ⟨_, (pss_cons (ps_expr (pe_cal c_check_place hr (by rfl) (pa_cons (pv 0) (pa_cons (pv 1) pa_nil))))
    (pss_one (ps_ret (pe_callTy cr_tup (by rfl) T.z_tuple (by decide +kernel) (pa_cons (pe_lc (own := [("number", 2), ("arrow", 3)]) (g := (gTup K 2 (gCons (gName 2) (gCons (gName 3) gNil)))) (tt := (tTest (tOp rEq (tOp (rIxA K) (tVar 3) (tC (.int 0))) (tVar 1)))) (te := (tVar 2)) rfl sc_Chartouts.nd (pi_enumA (by rfl) T.z_enumerate (pa_cons (pe_fld (pv 0) rfl) pa_nil)) (blkOk_by (N := ["self", "place", "number", "arrow"]) (own := [("number", 2), ("arrow", 3)]) (sc := defScope s_Chartouts) (by decide +kernel)) (fun _ _ _ _ _ => (pg_tup rfl (pgs_cons (pg_name (i := 2) sc_Chartouts.nd rfl (.inl rfl)) (pgs_cons (pg_name (i := 3) sc_Chartouts.nd rfl (.inl rfl)) pgs_nil)))) (fun _ _ _ _ _ => (pts_one (pt_cmpR op_eq (pe_ix ix_any (pv 3) pe_int (fun _ _ => rfl)) (pv 1) (nomark _)))) (fun _ _ _ _ _ => (pv 2))) pa_nil))))), ?_⟩
    refine ⟨_, rfl, _, rfl, c, cs, ar, p, rfl, hc, hp, ?_⟩
    obtain ⟨pa, ps, h1, h2, h3⟩ := rd_arrows (σ := start ["self", "place", "number", "arrow"] [.ref c, nv p]) (ta := tVar 0) T hc (ev_var rfl)
    refine pl_nx (pl_ret (pl_cb1 ?_))
    refine rd_lcEnum (EaR.one h1.r) fun us H1 he => ?_
    obtain ⟨_, rfl, rfl, rfl⟩ := he
    refine ⟨pa, ps.map V.ref, rfl, SqA.t h2, fun D i H' => Same H H' ∧ H' D = some (.lst ((outsUp ar p i).map nv)), fun D hD => ⟨same_upd hD, upd_same⟩, fun D i H' hD e => e.1.at, fun D i x U H' hD hi e hU => ?_, fun D H' hD e => ?_⟩
    · obtain ⟨s1, e1⟩ := e
      have s2 : Same H (upd H' U (.tup [.int (i : Int), x])) := s1.new hU
      have hil : i < ar.length := by
        have := (List.getElem?_eq_some_iff.mp hi).1
        rw [List.length_map, h3.1] at this
        exact this
      obtain ⟨u, hu, hpr⟩ := h3.get (List.getElem?_eq_getElem hil)
      have ex : x = .ref u := Option.some.inj (hi.symm.trans (ref_at hu))
      subst ex
      refine g_two upd_same ⟨rfl, ?_⟩
      have hDU : D ≠ U := ne_of_none e1 hU
      have tst : EtE (tTest (tOp rEq (tOp (rIxA K) (tVar 3) (tC (.int 0))) (tVar 1))) [some (.ref c), some (nv p), some (.int (i : Int)), some (.ref u)] (upd H' U (.tup [.int (i : Int), .ref u])) (decide (nv (ar[i]).1 = nv p)) :=
        et_test (ev_eq (ev_ixn (n := 0) (ev_var rfl) ev_c (SqA.t (s2 _ _ hpr)) rfl) (ev_var rfl) rfl)
      refine tst _ ?_
      have hg : ar.getD i (0, 0) = ar[i] := by rw [List.getD_eq_getElem?_getD, List.getElem?_eq_getElem hil]; rfl
      have e3 : (upd H' U (.tup [.int (i : Int), .ref u])) D = some (.lst ((outsUp ar p i).map nv)) := by rw [upd_ne hDU]; exact e1
      refine ite2 (fun z => ?_) (fun z => ?_)
      · have z2 : (ar[i]).1 = p := by
          have := V.int.inj (of_decide_eq_true z)
          omega
        refine ⟨_, rfl, _, e3, ?_, s2.mut hD, ?_⟩
        · rw [List.length_map]
          exact Nat.lt_of_le_of_lt (outsUp_len ar p i) (Nat.lt_of_lt_of_le (show i < 1000 by omega) (by decide))
        · rw [upd_same, outsUp_succ, if_pos (by rw [hg]; exact z2), List.map_append]
          rfl
      · refine ⟨s2, ?_⟩
        rw [e3, outsUp_succ, if_neg (by rw [hg]; intro y; exact z (decide_eq_true (by rw [y]))), List.append_nil]
    · obtain ⟨s1, e1⟩ := e
      rw [List.length_map, h3.1] at e1
      refine ⟨D, _, rfl, .inl ⟨SqL.of e1, fun l hl => ?_⟩⟩
      exact q _ l (s1.new hl) (s1.free hl) upd_same
end
end K15
namespace K15
open PySem PySem.Spec PyProof.Rows L2 RZ
/-! ### calls as evaluations -/
section
variable {K : PySem.W.Frag} {mg : Str → Option Value} {A : Ad} {σ : L2.St} {H : Hp} {ta tb : TE}
theorem ev_gain {m : Addr} {M : Mt} {k t h : Nat} {g : Int} (hm : MeterAt A H m M) (he : M.E[k]? = some (t, h, g)) (ht : t < M.n) (ha : EvE ta σ H (.ref m)) (hb : EvE tb σ H (nv k)) : EvE (tCall (sp_arrow_gain A) [] E0 (tCons ta (tCons tb tNil))) σ H (.int g) :=
  ev_call (ea_cons ha (ea_cons hb ea_nil)) fun Q q => ⟨m, M, k, t, h, g, rfl, hm, he, ht, q⟩
theorem ev_outs {c : Addr} {cs : List Int} {ar : List (Nat × Nat)} {p : Nat} (hc : ChartAt A H c cs ar) (hp : p < cs.length) (h32 : ar.length ≤ 32) (ha : EvE ta σ H (.ref c)) (hb : EvE tb σ H (nv p)) :
    EvR (tMeth A.ch "outs" (sp_Chartouts A) [] E0 ta (tCons tb tNil)) σ H (fun v H' => ∃ q, v = .ref q ∧ Same H H' ∧ H q = none ∧ NT H' q (outs ar p)) := by
  obtain ⟨dx, pc, pa, h1, h2⟩ := id hc
  refine ev_methR ha h1 (chF_outs _ _) (ea_cons hb ea_nil) fun Q q => ⟨c, cs, ar, p, rfl, hc, hp, h32, fun H' u s hu hN => q _ _ ⟨u, rfl, s, hu, hN⟩⟩
theorem sq_fld {C dx p : Addr} {fs : List (Str × V)} {f : Str} {v : V} {tv : TE} {t2 : TS} {D : Ends} (hv : EvE tv σ H v) (ha : EvE ta σ H (.ref p)) (ho : H p = some (.ins C dx fs)) (hc : Cls K C) (hn : NoAttr K C f) (hl : fs.length < 1000)
    (k : t2 D σ (upd H p (.ins C dx (putF f v fs)))) : tSeq (sFld K ta tv f) t2 D σ H := hv _ (ha _ ⟨p, C, dx, fs, rfl, ho, hc, hn, hl, k⟩)
theorem sx_fld {C dx p : Addr} {fs : List (Str × V)} {f : Str} {v : V} {tv : TE} {D : Ends} (hv : EvE tv σ H v) (ha : EvE ta σ H (.ref p)) (ho : H p = some (.ins C dx fs)) (hc : Cls K C) (hn : NoAttr K C f) (hl : fs.length < 1000)
    (k : D.nx σ (upd H p (.ins C dx (putF f v fs)))) : sFld K ta tv f D σ H := hv _ (ha _ ⟨p, C, dx, fs, rfl, ho, hc, hn, hl, k⟩)
/-- tuple(t) is t -/
theorem ev_tupT {a : Addr} {xs : List V} (h : EvE ta σ H (.ref a)) (hx : H a = some (.tup xs)) : EvE (tCB (rTupOf K) (tCons ta tNil)) σ H (.ref a) := fun Q q => h _ ⟨a, xs, rfl, .inr ⟨SqT.of hx, q⟩⟩
/-- tuple(a list) -/
theorem ev_tupL {a : Addr} {xs : List V} (h : EvE ta σ H (.ref a)) (hx : H a = some (.lst xs)) : EvR (tCB (rTupOf K) (tCons ta tNil)) σ H (fun v H' => ∃ l, v = .ref l ∧ H l = none ∧ H' = upd H l (.tup xs)) := fun Q q => h _ ⟨a, xs, rfl, .inl ⟨SqL.of hx, fun l hl => q _ _ ⟨l, rfl, hl, rfl⟩⟩⟩
theorem rep_small {n : Nat} {v : V} (hn : n ≤ 1000) : [v].length * (n : Int).toNat ≤ sizeLine := by
  rw [Int.toNat_natCast, List.length_singleton, Nat.one_mul]
  exact Nat.le_trans hn (by decide)
/-- [None] * n -/
theorem ev_rep {n : Nat} {v : V} (hb : ∀ H', Same H H' → EvE tb σ H' (.int (n : Int))) (hv : EvE ta σ H v) (hn : n ≤ 1000) : EvR (tOp rRep (tLst (tCons ta tNil)) tb) σ H (fun u H' => ∃ q H1, u = .ref q ∧ Same H H1 ∧ H1 q = none ∧ H' = upd H1 q (.lst (List.replicate n v))) := fun Q q =>
  hv _ ⟨by show 1 ≤ sizeLine; decide, fun p hp => hb _ (same_upd hp) _ ⟨p, (n : Int), [v], rfl, rfl, upd_same, by omega, by omega, rep_small hn, fun r hr => by
    have e : (List.replicate (n : Int).toNat [v]).flatten = List.replicate n v := by
      rw [Int.toNat_natCast]
      induction n with
      | zero => rfl
      | succ n ih => rw [List.replicate_succ, List.flatten_cons, List.replicate_succ]; simp
    rw [e]
    exact q _ _ ⟨r, _, rfl, same_upd hp, hr, rfl⟩⟩⟩
end
theorem row_at {r : List (Option Int)} {k : Nat} (h : k < r.length) : (r.map optV)[k]? = some (optV (r.getD k none)) := by
  rw [List.getElem?_map, List.getD_eq_getElem?_getD, List.getElem?_eq_getElem h]
  rfl
theorem row_set {r : List (Option Int)} {k : Nat} {w : Int} : (r.map optV).set k (.int w) = (r.set k (some w)).map optV := by rw [List.map_set]; rfl
theorem optV_none {o : Option Int} : decide (optV o = .non) = o.isNone := by
  cases o with
  | none => rfl
  | some i => rfl
theorem Each.monoM {α : Type} {R S : Addr → α → Prop} {ps : List Addr} {xs : List α} (h : Each R ps xs) (k : ∀ p x, p ∈ ps → R p x → S p x) : Each S ps xs := ⟨h.1, fun i p x h1 h2 => k p x (List.mem_of_getElem? h1) (h.2 i p x h1 h2)⟩
/-- a list of rows -/
def RowsL (H : Hp) (a : Addr) (rows : List (List (Option Int))) : Prop := ∃ ps : List Addr, H a = some (.lst (ps.map V.ref)) ∧ Each (RowL H) ps rows
theorem RowL.s {H H' : Hp} {a : Addr} {r : List (Option Int)} (h : RowL H a r) (s : Same H H') : RowL H' a r := s _ _ h
theorem RowsL.s {H H' : Hp} {a : Addr} {r : List (List (Option Int))} (h : RowsL H a r) (s : Same H H') : RowsL H' a r := by
  obtain ⟨ps, h1, h2⟩ := h
  exact ⟨ps, s _ _ h1, h2.mono fun p x e => e.s s⟩
/-- P holds by the part S of the heap alone -/
def Fr (S : Addr → Prop) (H : Hp) (P : Hp → Prop) : Prop := ∀ G : Hp, (∀ b o, S b → H b = some o → G b = some o) → P G
theorem Fr.here {S : Addr → Prop} {H : Hp} {P : Hp → Prop} (h : Fr S H P) : P H := h H fun _ _ _ e => e
theorem Fr.next {S T : Addr → Prop} {H H' : Hp} {P : Hp → Prop} (h : Fr S H P) (k : ∀ b o, S b → H b = some o → T b ∧ H' b = some o) : Fr T H' P := fun G hG => h G fun b o s e => hG b o (k b o s e).1 (k b o s e).2
/-- rows[k][p] -/
theorem rd_rows {K : PySem.W.Frag} {σ : L2.St} {H : Hp} {ta tb tc : TE} {a : Addr} {rows : List (List (Option Int))} {r : List (Option Int)} {k p : Nat} (hr : RowsL H a rows) (ha : EvE ta σ H (.ref a)) (hb : EvE tb σ H (nv k)) (hc : EvE tc σ H (nv p)) (hk : rows[k]? = some r) (hp : p < r.length) :
    EvE (tOp (rIxA K) (tOp (rIxA K) ta tb) tc) σ H (optV (r.getD p none)) := by
  obtain ⟨ps, h1, h2⟩ := hr
  obtain ⟨q, hq, hr2⟩ := h2.get hk
  exact ev_ixn (ev_ixn ha hb (SqA.l h1) (ref_at hq)) hc (SqA.l hr2) (row_at hp)
def sp_rest_rows (A : Ad) : Sp := fun vs H Q _ => ∃ (m l : Addr) (M : Mt) (last : List (Option Int)) (low len : Nat) (sense : Int), vs = [.ref m, .ref l, nv low, nv len, .int sense] ∧ MeterAt A H m M ∧ M.Ok ∧ RowL H l last ∧ last.length = M.n ∧ len ≤ 100 ∧ (sense = 1 ∨ sense = -1) ∧
  ∀ H' p, Same H H' → H p = none → Fr (fun b => H b = none ∨ b = l) H' (fun G => RowsL G p ((List.range (len + 1)).map (rowR sense low M.E last))) → Q (.ref p) H'
section
variable {P : Program} {w : World} {K : PySem.W.Frag} {mg : Str → Option Value} {base : Heap} {A : Ad} (T : Txt K mg A)
include T
theorem ok_rest_rows (d : Df K mg "rest_rows" s_rest_rows ["meter", "last_row", "lowest", "length", "sense"]) (c_arrow_gain : Cal P w K mg base 1 "arrow_gain" ["meter", "arrow"] (sp_arrow_gain A)) :
    Cal P w K mg base 2 "rest_rows" ["meter", "last_row", "lowest", "length", "sense"] (sp_rest_rows A) := by
  refine d.ok sc_rest_rows (fun vs H Q E h => ?_) (fun f cdv A' outer s H vs Q E hr h => ?_)
  · obtain ⟨m, l, M, last, low, len, sense, rfl, _⟩ := h
    rfl
  · obtain ⟨m, l, M, last, low, len, sense, rfl, hm, ok, hl, hll, hlen, hsen, q⟩ := h
    have hn16 : M.n ≤ 16 := ok.ch.n16
    have h32 := ok.ch.a32
    have hEl := Mt.E_len ok.len
    refine ⟨_, (pss_cons (ps_set (i := 5) sc_rest_rows.nd rfl (.inl rfl) (pe_lst (pa_cons (pv 1) pa_nil)))
    (pss_cons (ps_for PassesOwn.never rfl (pi_range1 (by rfl) T.z_range (pa_cons (pv 3) pa_nil)) (pg_name (i := 6) sc_rest_rows.nd rfl (.inl rfl)) (pss_cons (ps_set (i := 7) sc_rest_rows.nd rfl (.inl rfl) (pe_op op_rep (pe_lst (pa_cons pe_non pa_nil)) (pe_callB cr_len (by rfl) T.z_len (by decide +kernel) (pa_cons (pv 1) pa_nil))))
    (pss_cons (ps_for PassesOwn.never rfl (pi_enumA (by rfl) T.z_enumerate (pa_cons (pe_fld (pe_fld (pv 0) rfl) rfl) pa_nil)) (pg_tup rfl (pgs_cons (pg_name (i := 8) sc_rest_rows.nd rfl (.inl rfl)) (pgs_cons (pg_tup rfl (pgs_cons (pg_name (i := 9) sc_rest_rows.nd rfl (.inl rfl)) (pgs_cons (pg_name (i := 10) sc_rest_rows.nd rfl (.inl rfl)) pgs_nil))) pgs_nil))) (pss_one (ps_if (PW.pt (pw_and (pt_cmpR op_geI (pv 9) (pv 2) (nomark _)) (pw_and1 (pt_cmpR op_notNI (pe_ix ix_any (pe_ix ix_any (pv 5) (pv 6) (fun _ _ => rfl)) (pv 10) (fun _ _ => rfl)) pe_non (nomark _))))) (pss_cons (ps_set (i := 11) sc_rest_rows.nd rfl (.inl rfl) (pe_op op_addI (pe_ix ix_any (pe_ix ix_any (pv 5) (pv 6) (fun _ _ => rfl)) (pv 10) (fun _ _ => rfl)) (pe_op op_mulI (pv 4) (pe_cal c_arrow_gain hr (by rfl) (pa_cons (pv 0) (pa_cons (pv 8) pa_nil))))))
    (pss_one (ps_if (PW.pt (pw_or (pt_cmpR op_isNI (pe_ix ix_any (pv 7) (pv 9) (fun _ _ => rfl)) pe_non (nomark _)) (pw_or1 (pt_cmpR op_gtI (pv 11) (pe_ix ix_any (pv 7) (pv 9) (fun _ _ => rfl)) (nomark _))))) (pss_one (ps_asg (pv 11) (pg_sub (pv 7) (pv 9) set_list))) pss_nil))) pss_nil)))
    (pss_one (ps_expr (pe_bm PySem.F.plainAttrs_list PySem.F.slot_list_append PySem.F.type_list_append mt_append (pv 5) (pa_cons (pv 7) pa_nil)))))))
    (pss_one (ps_ret (pv 5))))), ?_⟩
    -- rows = [last_row]
    refine pl_seq (pl_set (ev_var rfl _ ⟨by show 1 ≤ sizeLine; decide, fun r hrn => ?_⟩))
    refine pl_nx (pl_seq ?_)
    have sr : Same H (upd H r (.lst [.ref l])) := same_upd hrn
    have hlr : l ≠ r := ne_of_none hl hrn
    refine rd_forRng1 (n := len) (ea_cons (ev_var rfl) ea_nil) (by omega)
      (fun i σ' H' => ∃ (ps : List Addr) (o6 o7 o8 o9 o10 o11 : Option V), σ' = [some (.ref m), some (.ref l), some (nv low), some (nv len), some (.int sense), some (.ref r), o6, o7, o8, o9, o10, o11] ∧ Same H H' ∧ H' r = some (.lst (ps.map V.ref)) ∧
        Each (RowL H') ps ((List.range (i + 1)).map (rowR sense low M.E last)) ∧ ∀ p ∈ ps, p ≠ r ∧ (H p = none ∨ p = l))
      ⟨[l], _, _, _, _, _, _, rfl, sr, upd_same, ⟨rfl, fun i p x h1 h2 => ?_⟩, fun p hp => by rw [List.mem_singleton.mp hp]; exact ⟨hlr, .inr rfl⟩⟩ (fun i σ' H' hi hP => ?_) (fun σ' H' hP => ?_)
    · cases i with
      | zero =>
        cases h1
        cases h2
        show (upd H r _) l = _
        rw [upd_ne hlr]
        exact hl
      | succ i => simp at h1
    · obtain ⟨ps, o6, o7, o8, o9, o10, o11, rfl, s1, hr1, he1, hpr⟩ := hP
      -- row = [None] * len(last_row)
      refine sq_setR (ev_rep (n := M.n) (fun H2 s2 => (ev_len (ev_var rfl) (SqA.l (s2 _ _ (s1 _ _ hl)))).is (by rw [List.length_map, hll])) ev_c (by omega)) fun v H2 hv => ?_
      obtain ⟨r2, H1, rfl, s2, hr2, rfl⟩ := hv
      have s12 : Same H' (upd H1 r2 (.lst (List.replicate M.n .non))) := s2.new hr2
      have hm1 : MeterAt A H1 m M := hm.s (s1.trans s2)
      have hrr2 : r ≠ r2 := ne_of_none (s2 _ _ hr1) hr2
      have hrow0 : (upd H1 r2 (.lst (List.replicate M.n .non))) r2 = some (.lst ((List.replicate M.n (none : Option Int)).map optV)) := by rw [upd_same, List.map_replicate]; rfl
      have hfi : ((List.range (i + 1)).map (rowR sense low M.E last))[i]? = some (rowR sense low M.E last i) := by rw [List.getElem?_map, List.getElem?_range (by omega)]; rfl
      have hrl : (rowR sense low M.E last i).length = M.n := (rowR_length ..).trans hll
      refine pl_seq ?_
      -- for arrow, (tail, head) in enumerate(meter.chart.arrows)
      obtain ⟨ch, hch, hca⟩ := rd_chart (H := upd H1 r2 (.lst (List.replicate M.n .non))) (σ := [some (.ref m), some (.ref l), some (nv low), some (nv len), some (.int sense), some (.ref r), some (nv i), some (.ref r2), o8, o9, o10, o11]) (ta := tVar 0) T (hm1.s (same_upd hr2)) (ev_var rfl)
      obtain ⟨pa, pas, hpa, hpt, hpe⟩ := rd_arrows T hca hch
      refine rd_forEnum (EaR.one hpa.r) fun us H3 hu => ?_
      obtain ⟨_, rfl, rfl, rfl⟩ := hu
      refine ⟨pa, pas.map V.ref, rfl, SqA.t hpt, fun j σ' H' => ∃ (o8 o9 o10 o11 : Option V), σ' = [some (.ref m), some (.ref l), some (nv low), some (nv len), some (.int sense), some (.ref r), some (nv i), some (.ref r2), o8, o9, o10, o11] ∧ Same H1 H' ∧
        RowL H' r2 ((M.E.take j).foldl (restStep sense low (rowR sense low M.E last i)) (List.replicate M.n none)), ⟨_, _, _, _, rfl, same_upd hr2, hrow0⟩, ?_, ?_, ?_⟩
      · rintro j σ' H4 ⟨p8, p9, p10, p11, rfl, s4, h4⟩ o ho
        have hne : pa ≠ r2 := fun e => by rw [e, upd_same] at hpt; cases hpt
        rw [upd_ne hne] at ho
        exact s4 _ _ ho
      · rintro j x U σ' H4 hj ⟨p8, p9, p10, p11, rfl, s4, h4⟩ hU
        have hjl : j < M.arrows.length := by
          have := (List.getElem?_eq_some_iff.mp hj).1
          rw [List.length_map, hpe.1] at this
          exact this
        obtain ⟨t, hd, c, ha1, hc1, ht, hh, hE⟩ := ok.at hjl
        obtain ⟨u, hu, hpu⟩ := hpe.get ha1
        have ex : x = .ref u := Option.some.inj (hj.symm.trans (ref_at hu))
        subst ex
        have s5 : Same H1 (upd H4 U (.tup [.int (j : Int), .ref u])) := s4.new hU
        have hu2 : u ≠ r2 := fun e => by
          have hpu' : (upd H1 r2 _) u = _ := hpu
          rw [e, upd_same] at hpu'
          cases hpu'
        have hpu1 : H1 u = some (.tup [nv t, nv hd]) := by
          have hpu' : (upd H1 r2 _) u = _ := hpu
          rw [upd_ne hu2] at hpu'
          exact hpu'
        refine g_three upd_same (s5 _ _ hpu1) ?_
        have h4' : RowL (upd H4 U (.tup [.int (j : Int), .ref u])) r2 ((M.E.take j).foldl (restStep sense low (rowR sense low M.E last i)) (List.replicate M.n none)) := by
          show (upd H4 U _) r2 = _
          rw [upd_ne (ne_of_none h4 hU)]
          exact h4
        generalize hH5 : upd H4 U (.tup [.int (j : Int), .ref u]) = H5 at s5 h4'
        have hrows : RowsL H5 r ((List.range (i + 1)).map (rowR sense low M.E last)) := ⟨ps, s5 _ _ (s2 _ _ hr1), he1.mono fun p y e => s5 _ _ (s2 _ _ e)⟩
        have hm5 : MeterAt A H5 m M := hm1.s s5
        have hlen2 : ((M.E.take j).foldl (restStep sense low (rowR sense low M.E last i)) (List.replicate M.n none)).length = M.n := by rw [foldl_length (fun r a => restStep_length ..), List.length_replicate]
        have step : (M.E.take (j + 1)).foldl (restStep sense low (rowR sense low M.E last i)) (List.replicate M.n none) = restStep sense low (rowR sense low M.E last i) ((M.E.take j).foldl (restStep sense low (rowR sense low M.E last i)) (List.replicate M.n none)) (t, hd, c - M.costs.getD t 0) := by
          rw [List.take_add_one, hE, List.foldl_append]
          rfl
        generalize hrow : (M.E.take j).foldl (restStep sense low (rowR sense low M.E last i)) (List.replicate M.n none) = row at h4' hlen2 step
        -- the test
        have e1 : EvE (tOp (rIxA K) (tOp (rIxA K) (tVar 5) (tVar 6)) (tVar 10)) [some (.ref m), some (.ref l), some (nv low), some (nv len), some (.int sense), some (.ref r), some (nv i), some (.ref r2), some (.int (j : Int)), some (nv t), some (nv hd), p11] H5 (optV ((rowR sense low M.E last i).getD hd none)) :=
          rd_rows hrows (ev_var rfl) (ev_var rfl) (ev_var rfl) hfi (by rw [hrl]; exact hh)
        have e2 : EtE (tAnd (tTest (tOp rGeI (tVar 9) (tVar 2))) (tTest (tOp rNotN (tOp (rIxA K) (tOp (rIxA K) (tVar 5) (tVar 6)) (tVar 10)) (tC .non)))) [some (.ref m), some (.ref l), some (nv low), some (nv len), some (.int sense), some (.ref r), some (nv i), some (.ref r2), some (.int (j : Int)), some (nv t), some (nv hd), p11] H5 (decide ((low : Int) ≤ (t : Int)) && !decide (optV ((rowR sense low M.E last i).getD hd none) = .non)) :=
          et_and (et_test (ev_ge (ev_var rfl) (ev_var rfl))) fun _ => et_test (ev_notN e1)
        refine sx_if e2 (fun hb => ?_) (fun hb => ?_)
        · obtain ⟨hb1, hb2⟩ := Bool.and_eq_true_iff.mp hb
          have hlo : low ≤ t := by have := of_decide_eq_true hb1; omega
          cases hv : (rowR sense low M.E last i).getD hd none with
          | none => rw [hv] at hb2; simp [optV] at hb2
          | some x0 =>
            rw [hv] at e1
            have hstep : restStep sense low (rowR sense low M.E last i) row (t, hd, c - M.costs.getD t 0) = match row.getD t none with | none => row.set t (some (x0 + sense * (c - M.costs.getD t 0))) | some y => if y < x0 + sense * (c - M.costs.getD t 0) then row.set t (some (x0 + sense * (c - M.costs.getD t 0))) else row := by
              unfold restStep relax
              rw [if_pos hlo]
              show (match (rowR sense low M.E last i).getD hd none with | none => row | some x => _) = _
              rw [hv]
              all_goals rfl
            -- worth = rows[k][head] + sense * arrow_gain(meter, arrow)
            refine sq_set (ev_add e1 (ev_mul (ev_var rfl) (ev_gain hm5 hE ht (ev_var rfl) (ev_var rfl)) (.inl (by rcases hsen with e | e <;> rw [e] <;> decide)))) ?_
            have e3 : EvE (tOp (rIxA K) (tVar 7) (tVar 9)) [some (.ref m), some (.ref l), some (nv low), some (nv len), some (.int sense), some (.ref r), some (nv i), some (.ref r2), some (.int (j : Int)), some (nv t), some (nv hd), some (.int (x0 + sense * (c - M.costs.getD t 0)))] H5 (optV (row.getD t none)) :=
              ev_ixn (ev_var rfl) (ev_var rfl) (SqA.l h4') (row_at (by rw [hlen2]; exact ht))
            cases ho : row.getD t none with
            | none =>
              rw [ho] at e3
              rw [ho] at hstep
              refine sx_yes ((et_or (b := true) (c := true) (et_test (ev_isN e3)) (fun z => by cases z)).is rfl) ?_
              refine sx_put (n := t) (ev_var rfl) (ev_var rfl) (ev_var rfl) h4' (by rw [List.length_map, hlen2]; exact ht) ?_
              refine ⟨_, _, _, _, rfl, s5.mut hr2, ?_⟩
              rw [step, hstep]
              show (upd H5 r2 _) r2 = _
              rw [upd_same, row_set]
            | some y0 =>
              rw [ho] at e3
              rw [ho] at hstep
              have e4 : EtE (tOr (tTest (tOp rIsN (tOp (rIxA K) (tVar 7) (tVar 9)) (tC .non))) (tTest (tOp rGtI (tVar 11) (tOp (rIxA K) (tVar 7) (tVar 9))))) [some (.ref m), some (.ref l), some (nv low), some (nv len), some (.int sense), some (.ref r), some (nv i), some (.ref r2), some (.int (j : Int)), some (nv t), some (nv hd), some (.int (x0 + sense * (c - M.costs.getD t 0)))] H5 (false || decide (y0 < x0 + sense * (c - M.costs.getD t 0))) :=
                et_or (et_test (ev_isN e3)) fun _ => et_test (ev_gt (ev_var rfl) e3)
              refine sx_if e4 (fun hb3 => ?_) (fun hb3 => ?_)
              · have hlt : y0 < x0 + sense * (c - M.costs.getD t 0) := of_decide_eq_true (by simpa using hb3)
                refine sx_put (n := t) (ev_var rfl) (ev_var rfl) (ev_var rfl) h4' (by rw [List.length_map, hlen2]; exact ht) ?_
                refine ⟨_, _, _, _, rfl, s5.mut hr2, ?_⟩
                rw [step, hstep]
                show (upd H5 r2 _) r2 = some (.lst ((if _ then _ else _ : List (Option Int)).map optV))
                rw [if_pos hlt, upd_same, row_set]
              · have hlt : ¬ y0 < x0 + sense * (c - M.costs.getD t 0) := of_decide_eq_false (by simpa using hb3)
                refine ⟨_, _, _, _, rfl, s5, ?_⟩
                rw [step, hstep]
                show H5 r2 = some (.lst ((if _ then _ else _ : List (Option Int)).map optV))
                rw [if_neg hlt]
                exact h4'
        · refine ⟨_, _, _, _, rfl, s5, ?_⟩
          rw [step]
          have : restStep sense low (rowR sense low M.E last i) row (t, hd, c - M.costs.getD t 0) = row := by
            unfold restStep relax
            split
            · rename_i hlo
              have hlo' : low ≤ t := hlo
              show (match (rowR sense low M.E last i).getD hd none with | none => row | some x => _) = _
              cases hv : (rowR sense low M.E last i).getD hd none with
              | none => rfl
              | some x0 =>
                rw [hv, decide_eq_true (show (low : Int) ≤ (t : Int) by omega)] at hb
                simp [optV] at hb
            · rfl
          rw [this]
          exact h4'
      · rintro σ' H4 ⟨p8, p9, p10, p11, rfl, s4, h4⟩
        rw [List.length_map, hpe.1, ← hEl, List.take_length] at h4
        have hnext : (M.E.foldl (restStep sense low (rowR sense low M.E last i)) (List.replicate M.n none)) = rowR sense low M.E last (i + 1) := by
          show _ = nextR sense low M.E (rowR sense low M.E last i)
          unfold nextR
          rw [hrl]
        rw [hnext] at h4
        -- rows.append(row)
        refine pl_nx (sx_app (ev_var rfl) (ev_var rfl) (s4 _ _ (s2 _ _ hr1)) (by rw [List.length_map, he1.1, List.length_map, List.length_range]; omega) ?_)
        refine ⟨ps ++ [r2], _, _, _, _, _, _, rfl, ?_, ?_, ?_, ?_⟩
        · exact ((s1.trans s2).trans s4).mut hrn
        · rw [upd_same, List.map_append]
          rfl
        · rw [List.range_succ, List.map_append]
          refine (he1.monoM fun p y hp e => ?_).snoc (x := rowR sense low M.E last (i + 1)) ?_
          · show (upd H4 r _) p = _
            rw [upd_ne (hpr p hp).1]
            exact s4 _ _ (s2 _ _ e)
          · show (upd H4 r _) r2 = _
            rw [upd_ne hrr2.symm]
            exact h4
        · intro p hp
          rcases List.mem_append.mp hp with hp | hp
          · exact hpr p hp
          · rw [List.mem_singleton.mp hp]
            exact ⟨hrr2.symm, .inl ((s1.trans s2).free hr2)⟩
    · obtain ⟨ps, o6, o7, o8, o9, o10, o11, rfl, s1, hr1, he1, hpr⟩ := hP
      exact sx_ret (ev_var rfl) (q H' r s1 hrn fun G hG => ⟨ps, hG _ _ (.inl hrn) hr1, he1.monoM fun p y hp e => hG _ _ (hpr p hp).2 e⟩)
end
end K15
namespace K15
open PySem PySem.Spec PyProof.Rows L2 RZ
/-! ### can_drift, least_ring, Drift -/
def rowsR (E : List Edge) (n start : Nat) (s : Int) : List (List (Option Int)) := (List.range (n - start + 1)).map (rowR s start E (lastRow n start))
def TabRow (E : List Edge) (n start : Nat) (H : Hp) (u : Addr) (s : Int) : Prop := ∃ rr, H u = some (.tup [.int s, .ref rr]) ∧ RowsL H rr (rowsR E n start s)
def TabsAt (E : List Edge) (n : Nat) (senses : List Int) (H : Hp) (p : Addr) (start : Nat) : Prop := ∃ us : List Addr, H p = some (.lst (us.map V.ref)) ∧ Each (TabRow E n start H) us senses
theorem TabRow.s {E : List Edge} {n start : Nat} {H H' : Hp} {u : Addr} {s : Int} (h : TabRow E n start H u s) (e : Same H H') : TabRow E n start H' u s := by
  obtain ⟨rr, h1, h2⟩ := h
  exact ⟨rr, e _ _ h1, h2.s e⟩
theorem TabsAt.s {E : List Edge} {n start : Nat} {senses : List Int} {H H' : Hp} {p : Addr} (h : TabsAt E n senses H p start) (e : Same H H') : TabsAt E n senses H' p start := by
  obtain ⟨us, h1, h2⟩ := h
  exact ⟨us, e _ _ h1, h2.mono fun p x z => z.s e⟩
def Pm (senses : List Int) : Prop := ∀ s ∈ senses, s = 1 ∨ s = -1
def sp_can_drift (_ : Ad) : Sp := fun vs H Q _ => ∃ (tb : Addr) (E : List Edge) (n start place left : Nat) (senses : List Int) (gained : Int), vs = [.ref tb, nv place, nv left, .int gained] ∧ TabsAt E n senses H tb start ∧ Pm senses ∧ place < n ∧ left ≤ n - start ∧
  ∀ b : Bool, (b = true ↔ CanDrift E n start senses place left gained) → Q (.bl b) H
def drF (pr : Addr) (by_ : Int) : List (Str × V) := [("ring", .ref pr), ("by", .int by_)]
theorem drF_ring (pr : Addr) (b : Int) : (drF pr b).lookup ("ring" : Str) = some (.ref pr) := lk_here
theorem drF_by (pr : Addr) (b : Int) : (drF pr b).lookup ("by" : Str) = some (.int b) := (lk_past (by decide +kernel)).trans lk_here
def DriftAt (A : Ad) (H : Hp) (p : Addr) (ring : List Nat) (by_ : Int) : Prop := ∃ dx pr, H p = some (.ins A.dr dx (drF pr by_)) ∧ NT H pr ring
theorem DriftAt.s {A : Ad} {H H' : Hp} {p : Addr} {ring : List Nat} {b : Int} (h : DriftAt A H p ring b) (e : KeepF H H') : DriftAt A H' p ring b := by
  obtain ⟨dx, pr, h1, h2⟩ := h
  exact ⟨dx, pr, e _ _ trivial h1, h2.kf e⟩
def sp_DriftInit (A : Ad) : Sp := fun vs H Q _ => ∃ (x r dx : Addr) (ring : List Nat) (by_ : Int), vs = [.ref x, .ref r, .int by_] ∧ H x = some (.ins A.dr dx []) ∧ NT H r ring ∧ ∀ H', (∀ b o, b ≠ x → H b = some o → H' b = some o) → DriftAt A H' x ring by_ → Q .non H'
theorem made_same {H H' : Hp} {x dx C : Addr} (nx : H x = none) (nd : H dx = none) (k : ∀ b o, b ≠ x → (upd (upd H dx (.own x)) x (.ins C dx [])) b = some o → H' b = some o) : Same H H' := fun b o e =>
  k b o (ne_of_none e nx) (by rw [upd_ne (ne_of_none e nx), upd_ne (ne_of_none e nd)]; exact e)
/-- what a drift is -/
structure IsRing (M : Mt) (senses : List Int) (start : Nat) (ks : List Nat) : Prop where
  ne : ks ≠ []
  wk : Wk M.E start ks start
  lo : ∀ t ∈ ks.map (et M.E), start ≤ t
  lt : start < M.n
  sg : ∃ s ∈ senses, 0 < s * gn M.E ks
def sp_least_ring (A : Ad) : Sp := fun vs H Q _ => ∃ (m tb : Addr) (M : Mt) (senses : List Int) (start len : Nat), vs = [.ref m, .ref tb, nv start, nv len] ∧ MeterAt A H m M ∧ M.Ok ∧ TabsAt M.E M.n senses H tb start ∧ Pm senses ∧ 0 < len ∧ start + len ≤ M.n ∧
  (¬ CanDrift M.E M.n start senses start len 0 → ∀ H', Same H H' → Q .non H') ∧ (∀ H' q ks, Same H H' → H q = none → NT H' q ks → ks.length = len → IsRing M senses start ks → Q (.ref q) H')
section
variable {K : PySem.W.Frag} {mg : Str → Option Value} {A : Ad} {σ : L2.St} {H : Hp} {ta tb tc td : TE}
theorem ev_can {t : Addr} {E : List Edge} {n start place left : Nat} {senses : List Int} {gained : Int} (ht : TabsAt E n senses H t start) (hp : Pm senses) (h1 : place < n) (h2 : left ≤ n - start)
    (e1 : EvE ta σ H (.ref t)) (e2 : EvE tb σ H (nv place)) (e3 : EvE tc σ H (nv left)) (e4 : EvE td σ H (.int gained)) : ∃ b : Bool, (b = true ↔ CanDrift E n start senses place left gained) ∧ EvE (tCall (sp_can_drift A) [] E0 (tCons ta (tCons tb (tCons tc (tCons td tNil))))) σ H (.bl b) := by
  classical
  refine ⟨decide (CanDrift E n start senses place left gained), by simp, ev_call (ea_cons e1 (ea_cons e2 (ea_cons e3 (ea_cons e4 ea_nil)))) fun Q q => ⟨t, E, n, start, place, left, senses, gained, rfl, ht, hp, h1, h2, fun b hb => ?_⟩⟩
  have : b = decide (CanDrift E n start senses place left gained) := by
    rw [Bool.eq_iff_iff, hb]
    simp
  rw [this]
  exact q
theorem sq_aug {i : Nat} {te : TE} {a b : Int} {t2 : TS} {D : Ends} (hx : σ[i]? = some (some (.int a))) (h : EvE te σ H (.int b)) (k : t2 D (σ.set i (some (.int (a + b)))) H) : tSeq (tAug i te (ipI fun i j => i + j)) t2 D σ H := ⟨.int a, hx, h _ ⟨a, b, rfl, rfl, k⟩⟩
end
section
variable {P : Program} {w : World} {K : PySem.W.Frag} {mg : Str → Option Value} {base : Heap} {A : Ad} (T : Txt K mg A)
include T
theorem ok_DriftInit (d : DfC K A.dr "Drift.__init__" s_DriftInit ["self", "ring", "by"]) : CalC P w K mg base 1 "Drift" A.dr ["self", "ring", "by"] (sp_DriftInit A) := by
  refine d.ok T.g_dr sc_DriftInit (fun vs H Q E h => ?_) (fun f cdv A' outer s H vs Q E hr h => ?_)
  · obtain ⟨x, r, dx, ring, by_, rfl, _⟩ := h
    rfl
  · obtain ⟨x, r, dx, ring, by_, rfl, hx, hR, q⟩ := h
    refine ⟨_, (pss_cons (ps_fld (pv 0) (pe_callTy cr_tup (by rfl) T.z_tuple (by decide +kernel) (pa_cons (pv 1) pa_nil)) rfl)
    (pss_one (ps_fld (pv 0) (pv 2) rfl))), ?_⟩
    refine sq_fld (ev_tupT (ev_var rfl) hR) (ev_var rfl) hx T.cl_dr T.n_dr_ring (by show 0 < 1000; decide) ?_
    refine sx_fld (ev_var rfl) (ev_var rfl) upd_same T.cl_dr T.n_dr_by (by show 1 < 1000; decide) ?_
    have hrx : r ≠ x := ne_of hR hx (by intro e; cases e)
    refine q _ (fun b o hb e => by rw [upd_ne hb, upd_ne hb]; exact e) ⟨dx, r, ?_, ?_⟩
    · rw [upd_same]
      show some (HO.ins A.dr dx (putF "by" (.int by_) (putF "ring" (.ref r) []))) = _
      rw [show putF "by" (.int by_) (putF "ring" (.ref r) []) = drF r by_ from (put_past (by decide +kernel)).trans rfl]
    · show (upd (upd H x _) x _) r = _
      rw [upd_ne hrx, upd_ne hrx]
      exact hR
theorem ok_can_drift (d : Df K mg "can_drift" s_can_drift ["tables", "place", "left", "gained"]) : Cal P w K mg base 1 "can_drift" ["tables", "place", "left", "gained"] (sp_can_drift A) := by
  refine d.ok sc_can_drift (fun vs H Q E h => ?_) (fun f cdv A' outer s H vs Q E hr h => ?_)
  · obtain ⟨tb, E, n, start, place, left, senses, gained, rfl, _⟩ := h
    rfl
  · obtain ⟨tb, Eg, n, start, place, left, senses, gained, rfl, ⟨us, hus, hEa⟩, hpm, hpl, hlf, q⟩ := h
    refine ⟨_, (pss_cons (ps_for PassesOwn.never rfl (pi_seq (pv 0)) (pg_tup rfl (pgs_cons (pg_name (i := 4) sc_can_drift.nd rfl (.inl rfl)) (pgs_cons (pg_name (i := 5) sc_can_drift.nd rfl (.inl rfl)) pgs_nil))) (pss_cons (ps_set (i := 6) sc_can_drift.nd rfl (.inl rfl) (pe_ix ix_any (pe_ix ix_any (pv 5) (pv 2) (fun _ _ => rfl)) (pv 1) (fun _ _ => rfl)))
    (pss_one (ps_if (PW.pt (pw_and (pt_cmpR op_notNI (pv 6) pe_non (nomark _)) (pw_and1 (pt_cmpR op_gtI (pe_op op_addI (pe_op op_mulI (pv 4) (pv 3)) (pv 6)) pe_int (nomark _))))) (pss_one (ps_ret pe_bl)) pss_nil))))
    (pss_one (ps_ret pe_bl))), ?_⟩
    refine pl_seq (rd_forSeq (ev_var rfl).r fun v H1 hv => ?_)
    obtain ⟨rfl, rfl⟩ := hv
    refine ⟨tb, us.map V.ref, rfl, SqA.l hus, fun i σ' H' => H' = H ∧ (∃ (o4 o5 o6 : Option V), σ' = [some (.ref tb), some (nv place), some (nv left), some (.int gained), o4, o5, o6]) ∧ ∀ s ∈ senses.take i, ∀ r, (rowR s start Eg (lastRow n start) left).getD place none = some r → ¬ 0 < s * gained + r,
      ⟨rfl, ⟨_, _, _, rfl⟩, fun s hs => by simp at hs⟩, fun i σ' H' p => by obtain ⟨rfl, _⟩ := p; exact fun o e => e, ?_, ?_⟩
    · rintro i x σ' H' hi ⟨rfl, ⟨o4, o5, o6, rfl⟩, hno⟩
      have hil : i < senses.length := by
        have := (List.getElem?_eq_some_iff.mp hi).1
        rw [List.length_map, hEa.1] at this
        exact this
      obtain ⟨u, hu, rr, hu2, hrr⟩ := hEa.get (List.getElem?_eq_getElem hil)
      have ex : x = .ref u := Option.some.inj (hi.symm.trans (ref_at hu))
      subst ex
      refine g_two hu2 ?_
      have hs1 := hpm _ (List.getElem_mem hil)
      generalize hsv : senses[i] = s at hrr hs1
      have hlen : (rowR s start Eg (lastRow n start) left).length = n := (rowR_length ..).trans (lastRow_length _ _)
      have e1 : EvE (tOp (rIxA K) (tOp (rIxA K) (tVar 5) (tVar 2)) (tVar 1)) [some (.ref tb), some (nv place), some (nv left), some (.int gained), some (.int s), some (.ref rr), o6] H' (optV ((rowR s start Eg (lastRow n start) left).getD place none)) :=
        rd_rows hrr (ev_var rfl) (ev_var rfl) (ev_var rfl) (by unfold rowsR; rw [List.getElem?_map, List.getElem?_range (by omega)]; rfl) (by rw [hlen]; exact hpl)
      refine sq_set e1 ?_
      have htake : senses.take (i + 1) = senses.take i ++ [s] := by rw [List.take_add_one, List.getElem?_eq_getElem hil, hsv]; rfl
      cases hv : (rowR s start Eg (lastRow n start) left).getD place none with
      | none =>
        refine sx_no ((et_and (b := false) (c := false) (et_test (ev_notN0 (ev_var rfl))) (fun z => by cases z)).is rfl) ?_
        refine ⟨rfl, ⟨_, _, _, rfl⟩, fun s' hs' r hr' => ?_⟩
        rw [htake] at hs'
        rcases List.mem_append.mp hs' with hs' | hs'
        · exact hno s' hs' r hr'
        · rw [List.mem_singleton.mp hs', hv] at hr'
          cases hr'
      | some r =>
        have e2 : EtE (tAnd (tTest (tOp rNotN (tVar 6) (tC .non))) (tTest (tOp rGtI (tOp rAddI (tOp rMulI (tVar 4) (tVar 3)) (tVar 6)) (tC (.int 0))))) [some (.ref tb), some (nv place), some (nv left), some (.int gained), some (.int s), some (.ref rr), some (.int r)] H' (true && decide (0 < s * gained + r)) :=
          et_and (et_test (ev_notN1 (ev_var rfl))) fun _ => et_test (ev_gt (ev_add (ev_mul (ev_var rfl) (ev_var rfl) (.inl (by rcases hs1 with e | e <;> rw [e] <;> decide))) (ev_var rfl)) ev_c)
        refine sx_if e2 (fun hb => ?_) (fun hb => ?_)
        · refine sx_ret ev_c (q true ⟨fun _ => ⟨s, ?_, r, hv, ?_⟩, fun _ => rfl⟩)
          · rw [← hsv]; exact List.getElem_mem hil
          · exact of_decide_eq_true (by simpa using hb)
        · refine ⟨rfl, ⟨_, _, _, rfl⟩, fun s' hs' r' hr' => ?_⟩
          rw [htake] at hs'
          rcases List.mem_append.mp hs' with hs' | hs'
          · exact hno s' hs' r' hr'
          · rw [List.mem_singleton.mp hs', hv] at hr'
            rw [List.mem_singleton.mp hs']
            cases hr'
            exact of_decide_eq_false (by simpa using hb)
    · rintro σ' H' ⟨rfl, ⟨o4, o5, o6, rfl⟩, hno⟩
      rw [List.length_map, hEa.1, List.take_length] at hno
      refine pl_nx (sx_ret ev_c (q false ⟨fun z => (by cases z), fun z => ?_⟩))
      obtain ⟨s, hs, r, hr', h0⟩ := z
      exact absurd h0 (hno s hs r hr')
end
end K15
namespace K15
open PySem PySem.Spec PyProof.Rows L2 RZ
/-! ### least_ring -/
section
variable {P : Program} {w : World} {K : PySem.W.Frag} {mg : Str → Option Value} {base : Heap} {A : Ad} (T : Txt K mg A)
include T
theorem ok_least_ring (d : Df K mg "least_ring" s_least_ring ["meter", "tables", "start", "length"]) (c_can_drift : Cal P w K mg base 1 "can_drift" ["tables", "place", "left", "gained"] (sp_can_drift A))
    (c_Chartouts : CalM P w K mg base 3 A.ch "outs" ["self", "place"] (sp_Chartouts A)) (c_arrow_gain : Cal P w K mg base 1 "arrow_gain" ["meter", "arrow"] (sp_arrow_gain A)) :
    Cal P w K mg base 4 "least_ring" ["meter", "tables", "start", "length"] (sp_least_ring A) := by
  refine d.ok sc_least_ring (fun vs H Q E h => ?_) (fun f cdv A' outer s H vs Q E hr h => ?_)
  · obtain ⟨m, tb, M, senses, start, len, rfl, _⟩ := h
    rfl
  · obtain ⟨m, tb, M, senses, start, len, rfl, hm, ok, htb, hpm, hl0, hln, q1, q2⟩ := h
    have hn16 : M.n ≤ 16 := ok.ch.n16
    have h32 := ok.ch.a32
    have hst : start < M.n := by omega
    refine ⟨_, (pss_cons (ps_if (pt_not (pt_val (pe_cal c_can_drift hr (by rfl) (pa_cons (pv 1) (pa_cons (pv 2) (pa_cons (pv 3) (pa_cons pe_int pa_nil))))))) (pss_one (ps_ret pe_non)) pss_nil)
    (pss_cons (ps_set (i := 4) sc_least_ring.nd rfl (.inl rfl) (pe_lst pa_nil))
    (pss_cons (ps_set (i := 5) sc_least_ring.nd rfl (.inl rfl) (pv 2))
    (pss_cons (ps_set (i := 6) sc_least_ring.nd rfl (.inl rfl) pe_int)
    (pss_cons (ps_for PassesOwn.never rfl (pi_revR (by rfl) T.z_reversed (prg_1 (by rfl) T.z_range (pv 3))) (pg_name (i := 7) sc_least_ring.nd rfl (.inl rfl)) (pss_one (ps_for PassesOwn.never rfl (pi_seq (pe_mcal c_Chartouts hr (pe_fld (pv 0) rfl) (pa_cons (pv 5) pa_nil))) (pg_name (i := 8) sc_least_ring.nd rfl (.inl rfl)) (pss_cons (ps_set (i := 9) sc_least_ring.nd rfl (.inl rfl) (pe_ix ix_any (pe_ix ix_any (pe_fld (pe_fld (pv 0) rfl) rfl) (pv 8) (fun _ _ => rfl)) pe_int (fun _ _ => rfl)))
    (pss_one (ps_if (pt_val (pe_cal c_can_drift hr (by rfl) (pa_cons (pv 1) (pa_cons (pv 9) (pa_cons (pv 7) (pa_cons (pe_op op_addI (pv 6) (pe_cal c_arrow_gain hr (by rfl) (pa_cons (pv 0) (pa_cons (pv 8) pa_nil)))) pa_nil)))))) (pss_cons (ps_expr (pe_bm PySem.F.plainAttrs_list PySem.F.slot_list_append PySem.F.type_list_append mt_append (pv 4) (pa_cons (pv 8) pa_nil)))
    (pss_cons (ps_aug (i := 6) sc_least_ring.nd rfl (.inl rfl) (pe_cal c_arrow_gain hr (by rfl) (pa_cons (pv 0) (pa_cons (pv 8) pa_nil))) ip_add)
    (pss_cons (ps_set (i := 5) sc_least_ring.nd rfl (.inl rfl) (pv 9))
    (pss_one ps_break)))) pss_nil))))))
    (pss_one (ps_ret (pe_callTy cr_tup (by rfl) T.z_tuple (by decide +kernel) (pa_cons (pv 4) pa_nil))))))))), ?_⟩
    obtain ⟨b0, hb0, ev0⟩ := ev_can (A := A) (σ := L2.start ["meter", "tables", "start", "length", "ring", "place", "gained", "left", "arrow", "head"] [.ref m, .ref tb, nv start, nv len]) (ta := tVar 1) (tb := tVar 2) (tc := tVar 3) (td := tC (.int 0)) htb hpm hst (by omega : len ≤ M.n - start) (ev_var rfl) (ev_var rfl) (ev_var rfl) ev_c
    refine sq_if (et_not (et_B ev0)) (fun hb => ?_) (fun hb => ?_)
    · refine sx_ret ev_c (q1 (fun z => ?_) H (Same.refl H))
      rw [hb0.mpr z] at hb
      cases hb
    · have can0 : CanDrift M.E M.n start senses start len 0 := hb0.mp (by cases b0 with | true => rfl | false => cases hb)
      refine pl_nx (pl_seq (pl_set ⟨Nat.zero_le _, fun rg hrg => ?_⟩))
      have srg : Same H (upd H rg (.lst [])) := same_upd hrg
      refine pl_nx (sq_set (ev_var rfl) (sq_set ev_c (pl_seq ?_)))
      refine rd_forRev (n := len) (ev_var rfl) (by omega)
        (fun i σ' H' => ∃ (ks : List Nat) (place : Nat) (gained : Int) (o7 o8 o9 : Option V), σ' = [some (.ref m), some (.ref tb), some (nv start), some (nv len), some (.ref rg), some (nv place), some (.int gained), o7, o8, o9] ∧ Same H H' ∧ NL H' rg ks ∧ ks.length = i ∧
          Wk M.E start ks place ∧ (∀ t ∈ ks.map (et M.E), start ≤ t) ∧ gained = gn M.E ks ∧ place < M.n ∧ CanDrift M.E M.n start senses place (len - i) gained)
        ⟨[], start, 0, _, _, _, rfl, srg, upd_same, rfl, .nil _, fun t ht => by simp at ht, rfl, hst, can0⟩ (fun i σ' H' hi hP => ?_) (fun σ' H' hP => ?_)
      · obtain ⟨ks, place, gained, o7, o8, o9, rfl, s1, hrg1, hkl, hwk, hlo, hgn, hpl, hcan⟩ := hP
        have hm1 := hm.s s1
        obtain ⟨ch, hch, hca⟩ := rd_chart (H := H') (σ := [some (.ref m), some (.ref tb), some (nv start), some (nv len), some (.ref rg), some (nv place), some (.int gained), some (nv (len - 1 - i)), o8, o9]) (ta := tVar 0) T hm1 (ev_var rfl)
        refine rd_forSeq (ev_outs hca hpl h32 hch (ev_var rfl)) fun v H1 hv => ?_
        obtain ⟨qa, rfl, s2, hqa, hN⟩ := hv
        have left1 : len - i = (len - 1 - i) + 1 := by omega
        rw [left1] at hcan
        obtain ⟨j0, h0, g0, hE0, hlo0, hcan0⟩ := hcan.step ok.E_lt hpl
        refine ⟨qa, _, rfl, SqA.t hN, fun j σ' H'' => (∃ (o8 o9 : Option V), σ' = [some (.ref m), some (.ref tb), some (nv start), some (nv len), some (.ref rg), some (nv place), some (.int gained), some (nv (len - 1 - i)), o8, o9]) ∧ Same H1 H'' ∧
          ∀ k ∈ (outs M.arrows place).take j, ∀ h g, M.E[k]? = some (place, h, g) → ¬ CanDrift M.E M.n start senses h (len - 1 - i) (gained + g), ⟨⟨_, _, rfl⟩, Same.refl H1, fun k hk => by simp at hk⟩, fun j σ' H'' p => p.2.1.at, ?_, ?_⟩
        · rintro j x σ' H2 hj ⟨⟨o8, o9, rfl⟩, s3, hno⟩
          have hjl : j < (outs M.arrows place).length := by
            have := (List.getElem?_eq_some_iff.mp hj).1
            rw [List.length_map] at this
            exact this
          have hk : (outs M.arrows place)[j]? = some (outs M.arrows place)[j] := List.getElem?_eq_getElem hjl
          have ex : x = nv (outs M.arrows place)[j] := Option.some.inj (hj.symm.trans (nat_at hk))
          have hmem : (outs M.arrows place)[j] ∈ outs M.arrows place := List.getElem_mem hjl
          generalize (outs M.arrows place)[j] = k at hk ex hmem
          subst ex
          obtain ⟨hd, har⟩ := mem_outs.mp hmem
          obtain ⟨t', hd', c, ha1, hc1, ht, hh, hE⟩ := ok.at (List.getElem?_eq_some_iff.mp har).1
          rw [har] at ha1
          cases ha1
          have s13 := (s1.trans s2).trans s3
          have hm2 := hm.s s13
          have htb2 := htb.s s13
          obtain ⟨ch2, hch2, hca2⟩ := rd_chart (H := H2) (σ := [some (.ref m), some (.ref tb), some (nv start), some (nv len), some (.ref rg), some (nv place), some (.int gained), some (nv (len - 1 - i)), some (nv k), o9]) (ta := tVar 0) T hm2 (ev_var rfl)
          refine sq_set (rd_head T hca2 hch2 (ev_var rfl) har) ?_
          have eg : EvE (tCall (sp_arrow_gain A) [] E0 (tCons (tVar 0) (tCons (tVar 8) tNil))) [some (.ref m), some (.ref tb), some (nv start), some (nv len), some (.ref rg), some (nv place), some (.int gained), some (nv (len - 1 - i)), some (nv k), some (nv hd)] H2 (.int (c - M.costs.getD place 0)) := ev_gain hm2 hE hpl (ev_var rfl) (ev_var rfl)
          obtain ⟨b1, hb1, ev1⟩ := ev_can (A := A) (σ := [some (.ref m), some (.ref tb), some (nv start), some (nv len), some (.ref rg), some (nv place), some (.int gained), some (nv (len - 1 - i)), some (nv k), some (nv hd)]) (ta := tVar 1) (tb := tVar 9) (tc := tVar 7) (td := tOp rAddI (tVar 6) (tCall (sp_arrow_gain A) [] E0 (tCons (tVar 0) (tCons (tVar 8) tNil)))) htb2 hpm hh (by omega : len - 1 - i ≤ M.n - start) (ev_var rfl) (ev_var rfl) (ev_var rfl) (ev_add (ev_var rfl) eg)
          refine sx_if (et_B ev1) (fun hb => ?_) (fun hb => ?_)
          · have hc2 := hb1.mp hb
            have hrg2 : NL H2 rg ks := s3 _ _ (s2 _ _ hrg1)
            refine sq_app (ev_var rfl) (ev_var rfl) hrg2 (by rw [List.length_map]; omega) ?_
            have s4 : Same H (upd H2 rg (.lst (ks.map nv ++ [nv k]))) := s13.mut hrg
            have hm3 := hm.s s4
            refine sq_aug rfl (ev_gain hm3 hE hpl (ev_var rfl) (ev_var rfl)) (sq_set (ev_var rfl) ?_)
            refine ⟨ks ++ [k], hd, gained + (c - M.costs.getD place 0), _, _, _, rfl, s4, ?_, by rw [List.length_append, hkl]; rfl, hwk.snoc hE, ?_, ?_, hh, ?_⟩
            · show (upd H2 rg _) rg = _
              rw [upd_same, List.map_append]
              rfl
            · intro t ht
              rw [List.map_append] at ht
              rcases List.mem_append.mp ht with ht | ht
              · exact hlo t ht
              · rw [List.mem_singleton.mp ht, et_of hE]
                exact hlo0
            · rw [gn_append, gn_one, eg_of hE, hgn]
            · rw [show len - (i + 1) = len - 1 - i by omega]
              exact hc2
          · refine ⟨⟨_, _, rfl⟩, s3, fun k' hk' h' g' hE' => ?_⟩
            rw [List.take_add_one, hk] at hk'
            rcases List.mem_append.mp hk' with hk' | hk'
            · exact hno k' hk' h' g' hE'
            · have e : k' = k := by simpa using hk'
              subst e
              rw [hE] at hE'
              cases hE'
              intro z
              rw [hb1.mpr z] at hb
              cases hb
        · rintro σ' H2 ⟨_, _, hno⟩
          rw [List.length_map, List.take_length] at hno
          have hmem : j0 ∈ outs M.arrows place := mem_outs.mpr ⟨h0, (Mt.E_inv hE0).1⟩
          exact absurd hcan0 (hno j0 hmem h0 g0 hE0)
      · obtain ⟨ks, place, gained, o7, o8, o9, rfl, s1, hrg1, hkl, hwk, hlo, hgn, hpl, hcan⟩ := hP
        rw [Nat.sub_self] at hcan
        obtain ⟨rfl, hsg⟩ := hcan.fin
        refine pl_nx (sx_retR (ev_tupL (ev_var rfl) hrg1) fun v H' hv => ?_)
        obtain ⟨l, rfl, hl, rfl⟩ := hv
        refine q2 _ l ks (s1.new hl) (s1.free hl) upd_same hkl ⟨?_, hwk, hlo, hpl, ?_⟩
        · intro e
          rw [e] at hkl
          exact absurd hkl.symm (Nat.ne_of_gt hl0)
        · rw [← hgn]
          exact hsg
end
end K15
namespace K15
open PySem PySem.Spec PyProof.Rows L2 RZ
/-! ### first_drift, find_drift, find_fall, find_rise -/
theorem Wk.idx {E : List Edge} {u v : Nat} {ks : List Nat} (h : Wk E u ks v) : ∀ k ∈ ks, k < E.length := by
  induction h with
  | nil u => intro k hk; cases hk
  | cons e _ ih =>
    intro k hk
    rcases List.mem_cons.mp hk with rfl | hk
    · exact (List.getElem?_eq_some_iff.mp e).1
    · exact ih k hk
theorem NT.mut {H : Hp} {a l : Addr} {ns : List Nat} {xs : List V} {o : HO} (h : NT H a ns) (hl : H l = some (.lst xs)) : NT (upd H l o) a ns := by
  show (upd H l o) a = _
  rw [upd_ne (ne_of h hl (by intro e; cases e))]
  exact h
/-- what first_drift tells -/
def DriftRes (A : Ad) (M : Mt) (senses : List Int) (H : Hp) (p : Addr) : Prop := ∃ ks start, DriftAt A H p ks (gn M.E ks) ∧ IsRing M senses start ks ∧ (ks.map (et M.E)).Nodup ∧ ks.length ≤ 16
def NoDrift (M : Mt) (senses : List Int) : Prop := ∀ s ∈ senses, ∀ u ks, Wk M.E u ks u → s * gn M.E ks ≤ 0
def sp_first_drift (A : Ad) : Sp := fun vs H Q _ => ∃ (m sn : Addr) (M : Mt) (senses : List Int), vs = [.ref m, .ref sn] ∧ MeterAt A H m M ∧ M.Ok ∧ IT H sn senses ∧ Pm senses ∧ senses.length ≤ 2 ∧
  (NoDrift M senses → ∀ H', Same H H' → Q .non H') ∧ (∀ H' p, Same H H' → H p = none → DriftRes A M senses H' p → Q (.ref p) H')
def sp_find (A : Ad) (senses : List Int) : Sp := fun vs H Q _ => ∃ (m : Addr) (M : Mt), vs = [.ref m] ∧ MeterAt A H m M ∧ M.Ok ∧
  (NoDrift M senses → ∀ H', Same H H' → Q .non H') ∧ (∀ H' p, Same H H' → H p = none → DriftRes A M senses H' p → Q (.ref p) H')
def sp_find_drift (A : Ad) : Sp := sp_find A [1, -1]
def sp_find_fall (A : Ad) : Sp := sp_find A [-1]
def sp_find_rise (A : Ad) : Sp := sp_find A [1]
theorem lastRow_map (n st : Nat) : ((List.range n).map fun (i : Nat) => if (i : Int) = (st : Int) then V.int 0 else V.non) = (lastRow n st).map optV := by
  unfold lastRow
  rw [List.map_map]
  refine List.map_congr_left fun i _ => ?_
  show (if (i : Int) = (st : Int) then V.int 0 else V.non) = optV (if i = st then some 0 else none)
  by_cases h : i = st
  · rw [if_pos (by omega), if_pos h]; rfl
  · rw [if_neg (by omega), if_neg h]; rfl
section
variable {P : Program} {w : World} {K : PySem.W.Frag} {mg : Str → Option Value} {base : Heap} {A : Ad} (T : Txt K mg A)
include T
theorem ok_first_drift (d : Df K mg "first_drift" s_first_drift ["meter", "senses"]) (c_rest_rows : Cal P w K mg base 2 "rest_rows" ["meter", "last_row", "lowest", "length", "sense"] (sp_rest_rows A))
    (c_least_ring : Cal P w K mg base 4 "least_ring" ["meter", "tables", "start", "length"] (sp_least_ring A)) (c_DriftInit : CalC P w K mg base 1 "Drift" A.dr ["self", "ring", "by"] (sp_DriftInit A))
    (c_arrow_gain : Cal P w K mg base 1 "arrow_gain" ["meter", "arrow"] (sp_arrow_gain A)) : Cal P w K mg base 5 "first_drift" ["meter", "senses"] (sp_first_drift A) := by
  refine d.ok sc_first_drift (fun vs H Q E h => ?_) (fun f cdv A' outer s H vs Q E hr h => ?_)
  · obtain ⟨m, sn, M, senses, rfl, _⟩ := h
    rfl
  · obtain ⟨m, sn, M, senses, rfl, hm, ok, hsn, hpm, hs2, q1, q2⟩ := h
    have hn1 : 1 ≤ M.n := ok.ch.n1
    have hn16 : M.n ≤ 16 := ok.ch.n16
    have h32 := ok.ch.a32
    have hEl := Mt.E_len ok.len
    refine ⟨_, (pss_cons (ps_set (i := 2) sc_first_drift.nd rfl (.inr rfl) (pe_callB cr_len (by rfl) T.z_len (by decide +kernel) (pa_cons (pe_fld (pe_fld (pv 0) rfl) rfl) pa_nil)))
    (pss_cons (ps_set (i := 3) sc_first_drift.nd rfl (.inl rfl) (pe_lst pa_nil))
    (pss_cons (ps_for PassesOwn.never rfl (pi_range1 (by rfl) T.z_range (pa_cons (pv 2) pa_nil)) (pg_name (i := 4) sc_first_drift.nd rfl (.inr rfl)) (pss_cons (ps_set (i := 5) sc_first_drift.nd rfl (.inr rfl) (pe_lc (own := [("place", 9)]) (g := (gName 9)) (tt := tYes) (te := (tIf (tTest (tOp rEq (tVar 9) (tVar 4))) (tC (.int 0)) (tC .non))) rfl sc_first_drift.nd (pi_range1 (by rfl) T.z_range (pa_cons (pv 2) pa_nil)) (blkOk_by (N := ["meter", "senses", "many", "tables", "start", "last_row", "length", "found", "ring", "place", "sense", "arrow"]) (own := [("place", 9)]) (sc := defScope s_first_drift) (by decide +kernel)) (fun _ _ _ _ _ => (pg_name (i := 9) sc_first_drift.nd rfl (.inl rfl))) (fun _ _ _ _ _ => pts_nil) (fun _ _ _ _ _ => (pe_ifExp (pt_cmpR op_eq (pv 9) (pv 4) (nomark _)) pe_int pe_non))))
    (pss_one (ps_expr (pe_bm PySem.F.plainAttrs_list PySem.F.slot_list_append PySem.F.type_list_append mt_append (pv 3) (pa_cons (pe_lc (own := [("sense", 10)]) (g := (gName 10)) (tt := tYes) (te := (tTup (tCons (tVar 10) (tCons (tCall (sp_rest_rows A) [] E0 (tCons (tVar 0) (tCons (tVar 5) (tCons (tVar 4) (tCons (tOp rSubI (tVar 2) (tVar 4)) (tCons (tVar 10) tNil)))))) tNil)))) rfl sc_first_drift.nd (pi_seq (pv 1)) (blkOk_by (N := ["meter", "senses", "many", "tables", "start", "last_row", "length", "found", "ring", "place", "sense", "arrow"]) (own := [("sense", 10)]) (sc := defScope s_first_drift) (by decide +kernel)) (fun _ _ _ _ _ => (pg_name (i := 10) sc_first_drift.nd rfl (.inl rfl))) (fun _ _ _ _ _ => pts_nil) (fun _ _ _ _ _ => (pe_tup (pa_cons (pv 10) (pa_cons (pe_cal c_rest_rows hr (by rfl) (pa_cons (pv 0) (pa_cons (pv 5) (pa_cons (pv 4) (pa_cons (pe_op op_subI (pv 2) (pv 4)) (pa_cons (pv 10) pa_nil)))))) pa_nil))))) pa_nil))))))
    (pss_cons (ps_for PassesOwn.never rfl (pi_range2 (by rfl) T.z_range (pa_cons pe_int (pa_cons (pe_op op_addI (pv 2) pe_int) pa_nil))) (pg_name (i := 6) sc_first_drift.nd rfl (.inl rfl)) (pss_cons (ps_set (i := 7) sc_first_drift.nd rfl (.inl rfl) (pe_lst pa_nil))
    (pss_cons (ps_for PassesOwn.never rfl (pi_range1 (by rfl) T.z_range (pa_cons (pe_op op_subI (pe_op op_addI (pv 2) pe_int) (pv 6)) pa_nil)) (pg_name (i := 4) sc_first_drift.nd rfl (.inr rfl)) (pss_cons (ps_set (i := 8) sc_first_drift.nd rfl (.inl rfl) (pe_cal c_least_ring hr (by rfl) (pa_cons (pv 0) (pa_cons (pe_ix ix_any (pv 3) (pv 4) (fun _ _ => rfl)) (pa_cons (pv 4) (pa_cons (pv 6) pa_nil))))))
    (pss_one (ps_if (pt_cmpR op_notNI (pv 8) pe_non (nomark _)) (pss_one (ps_expr (pe_bm PySem.F.plainAttrs_list PySem.F.slot_list_append PySem.F.type_list_append mt_append (pv 7) (pa_cons (pv 8) pa_nil)))) pss_nil))))
    (pss_one (ps_if (pt_tru (pv 7) (by intro _; rfl)) (pss_cons (ps_set (i := 8) sc_first_drift.nd rfl (.inl rfl) (pe_ix ix_any (pe_callB cr_sortX (by rfl) T.z_sorted (by decide +kernel) (pa_cons (pv 7) pa_nil)) pe_int (fun _ _ => rfl)))
    (pss_one (ps_ret (pe_mkcal c_DriftInit hr (by rfl) (pa_cons (pv 8) (pa_cons (pe_callB (cr_sum rfl) (by rfl) T.z_sum (by decide +kernel) (pa_cons (pe_lc (own := [("arrow", 11)]) (g := (gName 11)) (tt := tYes) (te := (tCall (sp_arrow_gain A) [] E0 (tCons (tVar 0) (tCons (tVar 11) tNil)))) rfl sc_first_drift.nd (pi_seq (pv 8)) (blkOk_by (N := ["meter", "senses", "many", "tables", "start", "last_row", "length", "found", "ring", "place", "sense", "arrow"]) (own := [("arrow", 11)]) (sc := defScope s_first_drift) (by decide +kernel)) (fun _ _ _ _ _ => (pg_name (i := 11) sc_first_drift.nd rfl (.inl rfl))) (fun _ _ _ _ _ => pts_nil) (fun _ _ _ _ _ => (pe_cal c_arrow_gain hr (by rfl) (pa_cons (pv 0) (pa_cons (pv 11) pa_nil))))) pa_nil)) pa_nil)))))) pss_nil)))))
    (pss_one (ps_ret pe_non)))))), ?_⟩
    obtain ⟨ch, hch, hca⟩ := rd_chart (σ := L2.start ["meter", "senses", "many", "tables", "start", "last_row", "length", "found", "ring", "place", "sense", "arrow"] [.ref m, .ref sn]) (ta := tVar 0) T hm (ev_var rfl)
    obtain ⟨pc, hpc, hpct⟩ := rd_costs T hca hch
    refine sq_set ((ev_len hpc (SqA.t hpct)).is (v := _) (x := nv M.n) (by rw [List.length_map]; rfl)) ?_
    refine pl_seq (pl_set ⟨Nat.zero_le _, fun tb htb => ?_⟩)
    have stb : Same H (upd H tb (.lst [])) := same_upd htb
    refine pl_nx (pl_seq ?_)
    refine rd_forRng1 (n := M.n) (ea_cons (ev_var rfl) ea_nil) (by omega)
      (fun i σ' H' => ∃ (ps : List Addr) (o4 o5 : Option V), σ' = [some (.ref m), some (.ref sn), some (nv M.n), some (.ref tb), o4, o5, none, none, none, none, none, none] ∧ Same H H' ∧ H' tb = some (.lst (ps.map V.ref)) ∧
        Each (fun p st => Fr (fun b => H b = none ∧ b ≠ tb) H' (fun G => TabsAt M.E M.n senses G p st)) ps (List.range i))
      ⟨[], _, _, rfl, stb, upd_same, Each.nil⟩ (fun i σ' Hi hi hP => ?_) (fun σ' H3 hP => ?_)
    · obtain ⟨ps, o4, o5, rfl, s1, htb1, hEa⟩ := hP
      -- last_row
      refine pl_seq (pl_set ?_)
      refine rd_lcFmR (n := M.n) (ea_cons (ev_var rfl) ea_nil) (by omega) (fun j _ => some (if (j : Int) = (i : Int) then V.int 0 else V.non)) (fun _ => rfl) (fun j H' _ _ => EtS.yes) (fun j y H' hj hy s => ?_) (fun l H' hl s2 hL => ?_)
      · have e : (if (j : Int) = (i : Int) then V.int 0 else V.non) = y := Option.some.inj hy
        subst e
        refine (ev_if (b := decide (nv j = nv i)) (et_test (ev_eq (ev_var rfl) (ev_var rfl) rfl)) (fun hb => ?_) (fun hb => ?_)).s
        · have : (j : Int) = (i : Int) := V.int.inj (of_decide_eq_true hb)
          rw [if_pos this]
          exact ev_c
        · have : ¬ (j : Int) = (i : Int) := fun e => of_decide_eq_false hb (congrArg V.int e)
          rw [if_neg this]
          exact ev_c
      · have eL : fmI (fun j _ => some (if (j : Int) = (i : Int) then V.int 0 else V.non)) 0 ((List.range M.n).map fun (i : Nat) => V.int (i : Int)) = (lastRow M.n i).map optV := by
          rw [← lastRow_map]
          exact fmI_map (fun (j : Nat) => if (j : Int) = (i : Int) then V.int 0 else V.non) _ _ _ 0 (fun j x hj => by
            have hjn : j < M.n := by
              have := (List.getElem?_eq_some_iff.mp hj).1
              rwa [List.length_range] at this
            rw [List.getElem?_range hjn] at hj
            cases hj
            rw [Nat.zero_add])
        rw [eL] at hL
        have hLR : RowL H' l (lastRow M.n i) := hL
        have hlH : H l = none := s1.free hl
        have hltb : l ≠ tb := (ne_of_none htb1 hl).symm
        -- tables.append([(sense, rest_rows(..)) for sense in senses])
        refine pl_nx (pl_drop (pl_bm (ev_var rfl _ ⟨tyl (s2 _ _ htb1), pl_cons ?_⟩)))
        have s12 := s1.trans s2
        refine rd_lcSeq (ev_var rfl).r fun v H1 hv => ?_
        obtain ⟨rfl, rfl⟩ := hv
        refine ⟨sn, senses.map V.int, rfl, SqA.t (s12 _ _ hsn), fun D k Hc => ∃ us : List Addr, Hc D = some (.lst (us.map V.ref)) ∧ Same H' Hc ∧ Each (fun u s => Fr (fun b => Hi b = none ∧ b ≠ D) Hc (fun G => TabRow M.E M.n i G u s)) us (senses.take k),
          fun D hD => ⟨[], upd_same, same_upd hD, Each.nil⟩, fun D k Hc hD p => by obtain ⟨_, _, s, _⟩ := p; exact s.at, fun D k x Hc hD hk p => ?_, fun D Hc hD p => ?_⟩
        · obtain ⟨us, hDc, s3, hEu⟩ := p
          have hkl : k < senses.length := by
            have := (List.getElem?_eq_some_iff.mp hk).1
            rwa [List.length_map] at this
          have hsk : senses[k]? = some senses[k] := List.getElem?_eq_getElem hkl
          have ex : x = V.int senses[k] := Option.some.inj (hk.symm.trans (int_at hsk))
          have hsm := hpm _ (List.getElem_mem hkl)
          generalize hsv : senses[k] = sv at hsk ex hsm
          subst ex
          have s13 := s12.trans s3
          refine lcT_yes rfl ?_
          have hlD : l ≠ D := ne_of_none hLR hD
          refine pl_tup (pl_cons (ev_var rfl _ (pl_cons ?_)))
          refine ev_callR (us := [.ref m, .ref l, nv i, nv (M.n - i), .int sv]) (Pc := fun v H2 => ∃ rr, v = .ref rr ∧ Same Hc H2 ∧ Hc rr = none ∧ Fr (fun b => Hc b = none ∨ b = l) H2 (fun G => RowsL G rr (rowsR M.E M.n i sv))) (ea_cons (ev_var rfl) (ea_cons (ev_var rfl) (ea_cons (ev_var rfl) (ea_cons ((ev_sub (ev_var rfl) (ev_var rfl)).is (congrArg V.int (by omega))) (ea_cons (ev_var rfl) ea_nil)))))
            (fun Q' k' => ⟨m, l, M, lastRow M.n i, i, M.n - i, sv, rfl, hm.s s13, ok, hLR.s s3, lastRow_length _ _, by omega, hsm, fun H2 rr s hrr hf => k' _ _ ⟨rr, rfl, s, hrr, hf⟩⟩) _ fun v H2 hv => ?_
          obtain ⟨rr, rfl, s4, hrr, hf⟩ := hv
          refine ⟨by show 2 ≤ sizeLine; decide, fun u hu => ?_⟩
          have hDu : D ≠ u := ne_of_none (s4 _ _ hDc) hu
          refine ⟨us.map V.ref, ?_, ?_, us ++ [u], ?_, ?_, ?_⟩
          · rw [upd_ne hDu]
            exact s4 _ _ hDc
          · rw [List.length_map, hEu.1, List.length_take]
            exact Nat.lt_of_le_of_lt (Nat.min_le_right _ _) (Nat.lt_of_le_of_lt hs2 (by decide))
          · rw [upd_same, List.map_append]
            rfl
          · exact ((s3.trans s4).new hu).mut hD
          · rw [List.take_add_one, hsk]
            refine (hEu.mono fun p y hy => hy.next fun b o sb e => ⟨sb, ?_⟩).snoc ?_
            · rw [upd_ne sb.2, upd_ne (ne_of_none (s4 _ _ e) hu)]
              exact s4 _ _ e
            · intro G hG
              have hui : Hi u = none := (s2.trans (s3.trans s4)).free hu
              refine ⟨rr, hG u _ ⟨hui, hDu.symm⟩ (by rw [upd_ne hDu.symm, upd_same]), hf G fun b o sb e => hG b o ?_ ?_⟩
              · rcases sb with sb | rfl
                · exact ⟨(s2.trans s3).free sb, fun e' => by rw [e', hDc] at sb; cases sb⟩
                · exact ⟨hl, hlD⟩
              · have hbD : b ≠ D := by
                  rcases sb with sb | rfl
                  · exact fun e' => by rw [e', hDc] at sb; cases sb
                  · exact hlD
                rw [upd_ne hbD, upd_ne (ne_of_none e hu)]
                exact e
        · obtain ⟨us, hDc, s3, hEu⟩ := p
          rw [List.length_map, List.take_length] at hEu
          have hDi : Hi D = none := s2.free hD
          have htbc : Hc tb = some (.lst (ps.map V.ref)) := s3 _ _ (s2 _ _ htb1)
          refine ⟨tb, _, .ref D, rfl, rfl, htbc, ?_, ps ++ [D], _, _, rfl, (s12.trans s3).mut htb, ?_, ?_⟩
          · rw [List.length_map, hEa.1, List.length_range]
            exact Nat.lt_of_lt_of_le hi (Nat.le_trans hn16 (by decide))
          · rw [upd_same, List.map_append]
            rfl
          · rw [List.range_succ]
            refine (hEa.mono fun p y hy => hy.next fun b o sb e => ⟨sb, ?_⟩).snoc ?_
            · rw [upd_ne sb.2]
              exact s3 _ _ (s2 _ _ e)
            · intro G hG
              have hDtb : D ≠ tb := (ne_of_none (s2 _ _ htb1) hD).symm
              have key : ∀ b o, Hi b = none → Hc b = some o → G b = some o := fun b o hb e => by
                have hbt : b ≠ tb := fun e' => by rw [e', htb1] at hb; cases hb
                refine hG b o ⟨s1.free hb, hbt⟩ ?_
                rw [upd_ne hbt]
                exact e
              exact ⟨us, key D _ hDi hDc, hEu.mono fun u y hy => hy G fun b o sb e => key b o sb.1 e⟩
    · obtain ⟨ps, o4, o5, rfl, s1, htb1, hEa⟩ := hP
      have hTab : ∀ st, st < M.n → ∃ p, ps[st]? = some p ∧ TabsAt M.E M.n senses H3 p st := fun st hst => by
        obtain ⟨p, hp, hf⟩ := hEa.get (List.getElem?_range hst)
        exact ⟨p, hp, hf.here⟩
      refine pl_nx (pl_seq ?_)
      refine rd_forRng2 (lo := 1) (n := M.n) (hi := (M.n : Int) + 1) (ea_cons ev_c (ea_cons (ev_add (ev_var rfl) ev_c) ea_nil)) (by omega) (by omega) (by omega)
        (fun i σ' H' => (∃ (o4 o5 o6 o7 o8 : Option V), σ' = [some (.ref m), some (.ref sn), some (nv M.n), some (.ref tb), o4, o5, o6, o7, o8, none, none, none]) ∧ Same H3 H' ∧ ∀ len st, 0 < len → len ≤ i → st + len ≤ M.n → ¬ CanDrift M.E M.n st senses st len 0)
        ⟨⟨_, _, _, _, _, rfl⟩, Same.refl _, fun len st h0 h1 => by omega⟩ (fun i σ' H4 hi hP => ?_) (fun σ' H' hP => ?_)
      · obtain ⟨⟨o4, o5, o6, o7, o8, rfl⟩, s2, hno⟩ := hP
        have hlen : (1 : Int) + (i : Int) = ((i + 1 : Nat) : Int) := by omega
        rw [hlen]
        -- found = []
        refine pl_seq (pl_set ⟨Nat.zero_le _, fun fa hfa => ?_⟩)
        refine pl_nx (pl_seq ?_)
        have sfa : Same H4 (upd H4 fa (.lst [])) := same_upd hfa
        refine rd_forRng1 (n := M.n + 1 - (i + 1)) (ea_cons ((ev_sub (ev_add (ev_var rfl) ev_c) (ev_var rfl)).is (congrArg V.int (by omega))) ea_nil) (by omega)
          (fun j σ' H' => (∃ (o4 o5 o8 : Option V), σ' = [some (.ref m), some (.ref sn), some (nv M.n), some (.ref tb), o4, o5, some (nv (i + 1)), some (.ref fa), o8, none, none, none]) ∧ Same H4 H' ∧ ∃ rs : List (Addr × List Nat), H' fa = some (.lst (rs.map fun r => V.ref r.1)) ∧
            (∀ r ∈ rs, NT H' r.1 r.2 ∧ r.2.length = i + 1 ∧ ∃ st, IsRing M senses st r.2) ∧ rs.length ≤ j ∧ (rs = [] → ∀ st, st < j → ¬ CanDrift M.E M.n st senses st (i + 1) 0))
          ⟨⟨_, _, _, rfl⟩, sfa, [], upd_same, fun r hr => by simp at hr, Nat.le_refl _, fun _ st hst => by omega⟩ (fun j σ' H5 hj hP => ?_) (fun σ' H5 hP => ?_)
        · obtain ⟨⟨o4, o5, o8, rfl⟩, s3, rs, hfa1, hrs, hrl, hre⟩ := hP
          have s13 := s2.trans s3
          obtain ⟨p, hp, htab⟩ := hTab j (by omega)
          have hmm := hm.s (s1.trans s13)
          -- ring = least_ring(..)
          have ev1 := ev_callR (σ := [some (.ref m), some (.ref sn), some (nv M.n), some (.ref tb), some (nv j), o5, some (nv (i + 1)), some (.ref fa), o8, none, none, none]) (H := H5) (tg := tCons (tVar 0) (tCons (tOp (rIxA K) (tVar 3) (tVar 4)) (tCons (tVar 4) (tCons (tVar 6) tNil)))) (sp := sp_least_ring A) (us := [.ref m, .ref p, nv j, nv (i + 1)])
            (Pc := fun v H' => Same H5 H' ∧ ((v = .non ∧ ¬ CanDrift M.E M.n j senses j (i + 1) 0) ∨ ∃ q ks, v = .ref q ∧ H5 q = none ∧ NT H' q ks ∧ ks.length = i + 1 ∧ IsRing M senses j ks))
            (ea_cons (ev_var rfl) (ea_cons (ev_ixn (ev_var rfl) (ev_var rfl) (SqA.l (s13 _ _ htb1)) (ref_at hp)) (ea_cons (ev_var rfl) (ea_cons (ev_var rfl) ea_nil))))
            (fun Q' k' => by
              classical
              exact ⟨m, p, M, senses, j, i + 1, rfl, hmm, ok, htab.s s13, hpm, by omega, by omega, fun hc H' s => k' _ _ ⟨s, .inl ⟨rfl, hc⟩⟩, fun H' q ks s hq hN hk hR => k' _ _ ⟨s, .inr ⟨q, ks, rfl, hq, hN, hk, hR⟩⟩⟩)
          refine sq_setR ev1 fun v H6 hv => ?_
          obtain ⟨s4, hv⟩ := hv
          rcases hv with ⟨rfl, hc⟩ | ⟨q, ks, rfl, hq, hN, hk, hR⟩
          · refine sx_no (et_test (ev_notN0 (ev_var rfl))) ⟨⟨_, _, _, rfl⟩, s3.trans s4, rs, s4 _ _ hfa1, fun r hr => ⟨(hrs r hr).1.kf s4.kf, (hrs r hr).2⟩, by omega, fun e st hst => ?_⟩
            by_cases hsj : st < j
            · exact hre e st hsj
            · have : st = j := by omega
              subst this
              exact hc
          · refine sx_yes (et_test (ev_notN2 (ev_var rfl))) (sx_app (ev_var rfl) (ev_var rfl) (s4 _ _ hfa1) (by rw [List.length_map]; omega) ?_)
            refine ⟨⟨_, _, _, rfl⟩, (s3.trans s4).mut hfa, rs ++ [(q, ks)], ?_, fun r hr => ?_, by rw [List.length_append, List.length_singleton]; omega, fun e => by simp at e⟩
            · rw [upd_same, List.map_append]
              rfl
            · rcases List.mem_append.mp hr with hr | hr
              · exact ⟨((hrs r hr).1.kf s4.kf).mut (s4 _ _ hfa1), (hrs r hr).2⟩
              · rw [List.mem_singleton.mp hr]
                exact ⟨hN.mut (s4 _ _ hfa1), hk, j, hR⟩
        · obtain ⟨⟨o4, o5, o8, rfl⟩, s3, rs, hfa1, hrs, hrl, hre⟩ := hP
          have s13 := s2.trans s3
          have hmm := hm.s (s1.trans s13)
          refine pl_nx (sx_if (et_tru (ev_var rfl) (tru_seq (SqA.l hfa1))) (fun hb => ?_) (fun hb => ?_))
          · -- ring = sorted(found)[0]
            have hidx : ∀ r ∈ rs, TS.Bd 32 (r.2.map fun (k : Nat) => (k : Int)) := fun r hr z hz => by
              obtain ⟨k, hk, rfl⟩ := List.mem_map.mp hz
              obtain ⟨_, _, st, hR⟩ := hrs r hr
              have := hR.wk.idx k hk
              omega
            refine pl_seq (pl_set (pl_op (pl_cb1 (ev_var rfl _ ⟨fa, _, i + 1, 32, rfl, SqL.of hfa1, by rw [List.length_map]; omega, by omega, fun x hx => ?_, fun ys p hperm hp => ?_⟩))))
            · obtain ⟨r, hr, rfl⟩ := List.mem_map.mp hx
              obtain ⟨h1, h2, _⟩ := hrs r hr
              refine ⟨r.2.map fun (k : Nat) => (k : Int), ⟨r.1, rfl, SqT.of (by rw [List.map_map]; exact h1)⟩, by rw [List.length_map, h2], hidx r hr⟩
            · have hne : ys ≠ [] := fun e => by
                rw [e] at hperm
                have := hperm.length_eq
                rw [List.length_map] at this
                cases rs with
                | nil => simp at hb
                | cons a b => simp at this
              obtain ⟨y, yr, rfl⟩ := List.exists_cons_of_ne_nil hne
              obtain ⟨r, hr, ey⟩ := List.mem_map.mp (hperm.mem_iff.mp (List.mem_cons_self (a := y) (l := yr)))
              subst ey
              refine ⟨p, _, 0, _, rfl, rfl, SqA.l upd_same, atI_nat (j := 0) rfl, ?_⟩
              have s4 : Same H5 (upd H5 p (.lst (V.ref r.1 :: yr))) := same_upd hp
              obtain ⟨h1, h2, st, hR⟩ := hrs r hr
              obtain ⟨qa, ks⟩ := r
              have h2k : ks.length = i + 1 := h2
              generalize hH6 : upd H5 p (.lst (V.ref qa :: yr)) = H6 at s4
              have h1' : NT H6 qa ks := h1.kf s4.kf
              have hm6 := hmm.s s4
              -- return Drift(ring, sum([..]))
              refine pl_nx (pl_ret (pl_make (pl_cons (ev_var rfl _ (pl_cons (pl_cb1 ?_))))))
              refine rd_lcFm (ev_var rfl).r fun v H1 hv => ?_
              obtain ⟨rfl, rfl⟩ := hv
              refine ⟨qa, ks.map nv, fun _ x => match x with | .int z => some (.int (eg M.E z.toNat)) | _ => none, rfl, SqA.t h1', by rw [List.length_map, h2]; omega, fun _ => rfl, fun k x H' hk _ => ?_, fun k x y H' hk hy s => ?_, fun D H' hD s hL => ?_⟩
              · rw [List.getElem?_map] at hk
                cases e : ks[k]? with
                | none => rw [e] at hk; cases hk
                | some kk =>
                  rw [e] at hk
                  cases hk
                  exact EtS.yes
              · rw [List.getElem?_map] at hk
                cases e : ks[k]? with
                | none => rw [e] at hk; cases hk
                | some kk =>
                  rw [e] at hk
                  cases hk
                  have ey : V.int (eg M.E kk) = y := Option.some.inj hy
                  subst ey
                  have hkE := hR.wk.idx kk (List.mem_of_getElem? e)
                  obtain ⟨t, hd, c, ha1, hc1, ht, hh, hE⟩ := ok.at (k := kk) (by omega)
                  rw [eg_of hE]
                  exact (ev_gain (hm6.s s) hE ht (ev_var rfl) (ev_var rfl)).s
              · have eL : fmI (fun _ x => match x with | .int z => some (V.int (eg M.E z.toNat)) | _ => none) 0 (ks.map nv) = (ks.map (eg M.E)).map V.int := by
                  rw [List.map_map]
                  exact fmI_map (fun k => V.int (eg M.E k)) _ nv ks 0 (fun k x _ => rfl)
                rw [eL] at hL
                refine ⟨D, ks.map (eg M.E), rfl, SqL.of hL, ?_⟩
                intro x dx nx ndx nex
                have h1'' : NT H' qa ks := h1'.kf s.kf
                have hxq : qa ≠ x := ne_of_none h1'' nx
                refine ⟨x, qa, dx, ks, gn M.E ks, rfl, upd_same, ?_, fun H8 hk8 hD8 => ⟨rfl, ?_⟩⟩
                · show (upd (upd H' dx _) x _) qa = _
                  rw [upd_ne hxq, upd_ne (ne_of_none h1'' ndx)]
                  exact h1''
                have s8 : Same H' H8 := made_same nx ndx hk8
                have sAll := ((s1.trans s13).trans s4).trans (s.trans s8)
                refine q2 H8 x sAll (((s1.trans s13).trans s4).trans s |>.free nx) ⟨ks, st, hD8, hR, ?_, by rw [h2k]; omega⟩
                obtain ⟨sg, hsg, hpos⟩ := hR.sg
                refine simple_of hR.wk (noPos_rows hsg ok.E_lt fun len st' h0 h1 h2' => hno len st' h0 ?_ h2') hpos
                have h1k : len < ks.length := h1
                omega
          · have hrs0 : rs = [] := by
              cases rs with
              | nil => rfl
              | cons a b => simp at hb
            refine ⟨⟨_, _, _, _, _, rfl⟩, s13, fun len st h0 h1 h2 => ?_⟩
            by_cases hli : len ≤ i
            · exact hno len st h0 hli h2
            · have : len = i + 1 := by omega
              subst this
              exact hre hrs0 st (by omega)
      · obtain ⟨⟨o4, o5, o6, o7, o8, rfl⟩, s2, hno⟩ := hP
        refine pl_nx (sx_ret ev_c (q1 (fun sg hsg u ks hw => ?_) H' (s1.trans s2)))
        exact noPos_rows (L := ks.length + 1) hsg ok.E_lt (fun len st h0 h1 h2 => hno len st h0 (by omega) h2) u ks hw (Nat.lt_succ_self _)
theorem ok_find_drift (d : Df K mg "find_drift" s_find_drift ["meter"]) (c_first_drift : Cal P w K mg base 5 "first_drift" ["meter", "senses"] (sp_first_drift A)) : Cal P w K mg base 6 "find_drift" ["meter"] (sp_find_drift A) := by
  refine d.ok sc_find_drift (fun vs H Q E h => ?_) (fun f cdv A' outer s H vs Q E hr h => ?_)
  · obtain ⟨m, M, rfl, _⟩ := h
    rfl
  · obtain ⟨m, M, rfl, hm, ok, q1, q2⟩ := h
    refine ⟨_, (pss_one (ps_ret (pe_cal c_first_drift hr (by rfl) (pa_cons (pv 0) (pa_cons (pe_tup (pa_cons pe_int (pa_cons (pe_un un_negI pe_int) pa_nil))) pa_nil))))), ?_⟩
    refine pl_ret (pl_call (pl_cons (ev_var rfl _ (pl_cons (pl_tup ((ea_cons ev_c (ea_cons (ev_neg ev_c) ea_nil)) _ ?_))))))
    refine ⟨by show 2 ≤ sizeLine; decide, fun p hp => ?_⟩
    have s1 : Same H (upd H p (.tup [.int 1, .int (-1)])) := same_upd hp
    exact ⟨m, p, M, [1, -1], rfl, hm.s s1, ok, upd_same, fun s hs => by simp at hs; omega, by decide, fun hn H' s => q1 hn H' (s1.trans s), fun H' q s hq hD => q2 H' q (s1.trans s) (s1.free hq) hD⟩
theorem ok_find_fall (d : Df K mg "find_fall" s_find_fall ["meter"]) (c_first_drift : Cal P w K mg base 5 "first_drift" ["meter", "senses"] (sp_first_drift A)) : Cal P w K mg base 6 "find_fall" ["meter"] (sp_find_fall A) := by
  refine d.ok sc_find_fall (fun vs H Q E h => ?_) (fun f cdv A' outer s H vs Q E hr h => ?_)
  · obtain ⟨m, M, rfl, _⟩ := h
    rfl
  · obtain ⟨m, M, rfl, hm, ok, q1, q2⟩ := h
    refine ⟨_, (pss_one (ps_ret (pe_cal c_first_drift hr (by rfl) (pa_cons (pv 0) (pa_cons (pe_tup (pa_cons (pe_un un_negI pe_int) pa_nil)) pa_nil))))), ?_⟩
    refine pl_ret (pl_call (pl_cons (ev_var rfl _ (pl_cons (pl_tup ((ea_cons (ev_neg ev_c) ea_nil) _ ?_))))))
    refine ⟨by show 1 ≤ sizeLine; decide, fun p hp => ?_⟩
    have s1 : Same H (upd H p (.tup [.int (-1)])) := same_upd hp
    exact ⟨m, p, M, [-1], rfl, hm.s s1, ok, upd_same, fun s hs => by simp at hs; omega, by decide, fun hn H' s => q1 hn H' (s1.trans s), fun H' q s hq hD => q2 H' q (s1.trans s) (s1.free hq) hD⟩
theorem ok_find_rise (d : Df K mg "find_rise" s_find_rise ["meter"]) (c_first_drift : Cal P w K mg base 5 "first_drift" ["meter", "senses"] (sp_first_drift A)) : Cal P w K mg base 6 "find_rise" ["meter"] (sp_find_rise A) := by
  refine d.ok sc_find_rise (fun vs H Q E h => ?_) (fun f cdv A' outer s H vs Q E hr h => ?_)
  · obtain ⟨m, M, rfl, _⟩ := h
    rfl
  · obtain ⟨m, M, rfl, hm, ok, q1, q2⟩ := h
    refine ⟨_, (pss_one (ps_ret (pe_cal c_first_drift hr (by rfl) (pa_cons (pv 0) (pa_cons (pe_tup (pa_cons pe_int pa_nil)) pa_nil))))), ?_⟩
    refine pl_ret (pl_call (pl_cons (ev_var rfl _ (pl_cons (pl_tup ((ea_cons ev_c ea_nil) _ ?_))))))
    refine ⟨by show 1 ≤ sizeLine; decide, fun p hp => ?_⟩
    have s1 : Same H (upd H p (.tup [.int 1])) := same_upd hp
    exact ⟨m, p, M, [1], rfl, hm.s s1, ok, upd_same, fun s hs => by simp at hs; omega, by decide, fun hn H' s => q1 hn H' (s1.trans s), fun H' q s hq hD => q2 H' q (s1.trans s) (s1.free hq) hD⟩
end
end K15
namespace K15
open PySem PySem.Spec PyProof.Rows L2 RZ
/-! ### lead_rows -/
def sp_lead_rows (A : Ad) : Sp := fun vs H Q _ => ∃ (m : Addr) (M : Mt) (sense : Int), vs = [.ref m, .int sense] ∧ MeterAt A H m M ∧ M.Ok ∧ (sense = 1 ∨ sense = -1) ∧
  ∀ H' p, Same H H' → H p = none → RowsL H' p ((List.range M.n).map (rowL sense M.E (firstRow sense M.first M.n))) → Q (.ref p) H'
section
variable {P : Program} {w : World} {K : PySem.W.Frag} {mg : Str → Option Value} {base : Heap} {A : Ad} (T : Txt K mg A)
include T
theorem ok_lead_rows (d : Df K mg "lead_rows" s_lead_rows ["meter", "sense"]) (c_arrow_gain : Cal P w K mg base 1 "arrow_gain" ["meter", "arrow"] (sp_arrow_gain A)) :
    Cal P w K mg base 2 "lead_rows" ["meter", "sense"] (sp_lead_rows A) := by
  refine d.ok sc_lead_rows (fun vs H Q E h => ?_) (fun f cdv A' outer s H vs Q E hr h => ?_)
  · obtain ⟨m, M, sense, rfl, _⟩ := h
    rfl
  · obtain ⟨m, M, sense, rfl, hm, ok, hsen, q⟩ := h
    have hn1 : 1 ≤ M.n := ok.ch.n1
    have hn16 : M.n ≤ 16 := ok.ch.n16
    have h32 := ok.ch.a32
    have hEl := Mt.E_len ok.len
    have hsb : (-(2 ^ 64) < sense ∧ sense < 2 ^ 64) := by rcases hsen with e | e <;> rw [e] <;> decide
    refine ⟨_, (pss_cons (ps_set (i := 2) sc_lead_rows.nd rfl (.inl rfl) (pe_callB cr_len (by rfl) T.z_len (by decide +kernel) (pa_cons (pe_fld (pe_fld (pv 0) rfl) rfl) pa_nil)))
    (pss_cons (ps_set (i := 3) sc_lead_rows.nd rfl (.inl rfl) (pe_lst (pa_cons (pe_op op_cat (pe_lst (pa_cons (pe_op op_mulI (pv 1) (pe_fld (pv 0) rfl)) pa_nil)) (pe_op op_rep (pe_lst (pa_cons pe_non pa_nil)) (pe_op op_subI (pv 2) pe_int))) pa_nil)))
    (pss_cons (ps_for PassesOwn.never rfl (pi_range1 (by rfl) T.z_range (pa_cons (pe_op op_subI (pv 2) pe_int) pa_nil)) (pg_name (i := 4) sc_lead_rows.nd rfl (.inl rfl)) (pss_cons (ps_set (i := 5) sc_lead_rows.nd rfl (.inl rfl) (pe_op op_rep (pe_lst (pa_cons pe_non pa_nil)) (pv 2)))
    (pss_cons (ps_for PassesOwn.never rfl (pi_enumA (by rfl) T.z_enumerate (pa_cons (pe_fld (pe_fld (pv 0) rfl) rfl) pa_nil)) (pg_tup rfl (pgs_cons (pg_name (i := 6) sc_lead_rows.nd rfl (.inl rfl)) (pgs_cons (pg_tup rfl (pgs_cons (pg_name (i := 7) sc_lead_rows.nd rfl (.inl rfl)) (pgs_cons (pg_name (i := 8) sc_lead_rows.nd rfl (.inl rfl)) pgs_nil))) pgs_nil))) (pss_one (ps_if (pt_cmpR op_notNI (pe_ix ix_any (pe_ix ix_any (pv 3) (pv 4) (fun _ _ => rfl)) (pv 7) (fun _ _ => rfl)) pe_non (nomark _)) (pss_cons (ps_set (i := 9) sc_lead_rows.nd rfl (.inl rfl) (pe_op op_addI (pe_ix ix_any (pe_ix ix_any (pv 3) (pv 4) (fun _ _ => rfl)) (pv 7) (fun _ _ => rfl)) (pe_op op_mulI (pv 1) (pe_cal c_arrow_gain hr (by rfl) (pa_cons (pv 0) (pa_cons (pv 6) pa_nil))))))
    (pss_one (ps_if (PW.pt (pw_or (pt_cmpR op_isNI (pe_ix ix_any (pv 5) (pv 8) (fun _ _ => rfl)) pe_non (nomark _)) (pw_or1 (pt_cmpR op_gtI (pv 9) (pe_ix ix_any (pv 5) (pv 8) (fun _ _ => rfl)) (nomark _))))) (pss_one (ps_asg (pv 9) (pg_sub (pv 5) (pv 8) set_list))) pss_nil))) pss_nil)))
    (pss_one (ps_expr (pe_bm PySem.F.plainAttrs_list PySem.F.slot_list_append PySem.F.type_list_append mt_append (pv 3) (pa_cons (pv 5) pa_nil)))))))
    (pss_one (ps_ret (pv 3)))))), ?_⟩
    obtain ⟨ch, hch, hca⟩ := rd_chart (σ := L2.start ["meter", "sense", "many", "rows", "k", "row", "arrow", "tail", "head", "worth"] [.ref m, .int sense]) (ta := tVar 0) T hm (ev_var rfl)
    obtain ⟨pc, hpc, hpct⟩ := rd_costs T hca hch
    refine sq_set ((ev_len hpc (SqA.t hpct)).is (v := _) (x := nv M.n) (by rw [List.length_map]; rfl)) ?_
    -- rows = [[sense * meter.first] + [None] * (many - 1)]
    refine pl_seq (pl_set (pl_lst (pl_cons (pl_op (pl_lst ((ea_cons (ev_mul (ev_var rfl) (rd_first T hm (ev_var rfl)) (.inl hsb)) ea_nil) _ ⟨by show 1 ≤ sizeLine; decide, fun p1 hp1 => ?_⟩))))))
    refine ev_rep (n := M.n - 1) (fun H2 s2 => (ev_sub (ev_var rfl) ev_c).is (congrArg V.int (by omega))) ev_c (by omega) _ fun v H2 hv => ?_
    obtain ⟨p2, H2', rfl, s2, hp2, rfl⟩ := hv
    have h12 : p1 ≠ p2 := ne_of_none (s2 _ _ upd_same) hp2
    refine ⟨p1, p2, _, _, rfl, rfl, by rw [upd_ne h12]; exact s2 _ _ upd_same, upd_same, by rw [List.length_replicate]; exact Nat.le_trans (show [V.int (sense * M.first)].length + (M.n - 1) ≤ 1000 by rw [List.length_singleton]; omega) (by decide), fun l hl => ?_⟩
    have sl : Same H (upd (upd H2' p2 (.lst (List.replicate (M.n - 1) .non))) l (.lst ([V.int (sense * M.first)] ++ List.replicate (M.n - 1) .non))) := (((same_upd hp1).trans s2).new hp2).new hl
    have hlr0 : RowL (upd (upd H2' p2 (.lst (List.replicate (M.n - 1) .non))) l (.lst ([V.int (sense * M.first)] ++ List.replicate (M.n - 1) .non))) l (firstRow sense M.first M.n) := by
      show (upd _ l _) l = _
      rw [upd_same]
      unfold firstRow
      rw [List.map_cons, List.map_replicate]
      rfl
    generalize upd (upd H2' p2 (.lst (List.replicate (M.n - 1) .non))) l (.lst ([V.int (sense * M.first)] ++ List.replicate (M.n - 1) .non)) = H0 at sl hlr0
    refine ⟨by show 1 ≤ sizeLine; decide, fun r hrn0 => ?_⟩
    have hrn : H r = none := sl.free hrn0
    have hlr : l ≠ r := ne_of_none hlr0 hrn0
    have sr : Same H (upd H0 r (.lst [.ref l])) := sl.new hrn0
    refine pl_nx (pl_seq ?_)
    refine rd_forRng1 (n := M.n - 1) (ea_cons ((ev_sub (ev_var rfl) ev_c).is (congrArg V.int (by omega))) ea_nil) (by omega)
      (fun i σ' H' => ∃ (ps : List Addr) (o6 o7 o8 o9 o10 o11 : Option V), σ' = [some (.ref m), some (.int sense), some (nv M.n), some (.ref r), o6, o7, o8, o9, o10, o11] ∧ Same H H' ∧ H' r = some (.lst (ps.map V.ref)) ∧
        Each (RowL H') ps ((List.range (i + 1)).map (rowL sense M.E (firstRow sense M.first M.n))) ∧ ∀ p ∈ ps, p ≠ r)
      ⟨[l], _, _, _, _, _, _, rfl, sr, upd_same, ⟨rfl, fun i p x h1 h2 => ?_⟩, fun p hp => by rw [List.mem_singleton.mp hp]; exact hlr⟩ (fun i σ' H' hi hP => ?_) (fun σ' H' hP => ?_)
    · cases i with
      | zero =>
        cases h1
        cases h2
        show (upd H0 r _) l = _
        rw [upd_ne hlr]
        exact hlr0
      | succ i => simp at h1
    · obtain ⟨ps, o6, o7, o8, o9, o10, o11, rfl, s1, hr1, he1, hpr⟩ := hP
      refine sq_setR (ev_rep (n := M.n) (fun H2 s2 => ev_var rfl) ev_c (by omega)) fun v H2 hv => ?_
      obtain ⟨r2, H1, rfl, s2, hr2, rfl⟩ := hv
      have hm1 : MeterAt A H1 m M := hm.s (s1.trans s2)
      have hrr2 : r ≠ r2 := ne_of_none (s2 _ _ hr1) hr2
      have hrow0 : (upd H1 r2 (.lst (List.replicate M.n .non))) r2 = some (.lst ((List.replicate M.n (none : Option Int)).map optV)) := by rw [upd_same, List.map_replicate]; rfl
      have hfi : ((List.range (i + 1)).map (rowL sense M.E (firstRow sense M.first M.n)))[i]? = some (rowL sense M.E (firstRow sense M.first M.n) i) := by rw [List.getElem?_map, List.getElem?_range (by omega)]; rfl
      have hrl : (rowL sense M.E (firstRow sense M.first M.n) i).length = M.n := (rowL_length ..).trans (firstRow_length hn1)
      refine pl_seq ?_
      obtain ⟨ch, hch, hca⟩ := rd_chart (H := upd H1 r2 (.lst (List.replicate M.n .non))) (σ := [some (.ref m), some (.int sense), some (nv M.n), some (.ref r), some (nv i), some (.ref r2), o8, o9, o10, o11]) (ta := tVar 0) T (hm1.s (same_upd hr2)) (ev_var rfl)
      obtain ⟨pa, pas, hpa, hpt, hpe⟩ := rd_arrows T hca hch
      refine rd_forEnum (EaR.one hpa.r) fun us H3 hu => ?_
      obtain ⟨_, rfl, rfl, rfl⟩ := hu
      refine ⟨pa, pas.map V.ref, rfl, SqA.t hpt, fun j σ' H' => ∃ (o8 o9 o10 o11 : Option V), σ' = [some (.ref m), some (.int sense), some (nv M.n), some (.ref r), some (nv i), some (.ref r2), o8, o9, o10, o11] ∧ Same H1 H' ∧
        RowL H' r2 ((M.E.take j).foldl (leadStep sense (rowL sense M.E (firstRow sense M.first M.n) i)) (List.replicate M.n none)), ⟨_, _, _, _, rfl, same_upd hr2, hrow0⟩, ?_, ?_, ?_⟩
      · rintro j σ' H4 ⟨p8, p9, p10, p11, rfl, s4, h4⟩ o ho
        have hne : pa ≠ r2 := fun e => by rw [e, upd_same] at hpt; cases hpt
        rw [upd_ne hne] at ho
        exact s4 _ _ ho
      · rintro j x U σ' H4 hj ⟨p8, p9, p10, p11, rfl, s4, h4⟩ hU
        have hjl : j < M.arrows.length := by
          have := (List.getElem?_eq_some_iff.mp hj).1
          rw [List.length_map, hpe.1] at this
          exact this
        obtain ⟨t, hd, c, ha1, hc1, ht, hh, hE⟩ := ok.at hjl
        obtain ⟨u, hu, hpu⟩ := hpe.get ha1
        have ex : x = .ref u := Option.some.inj (hj.symm.trans (ref_at hu))
        subst ex
        have s5 : Same H1 (upd H4 U (.tup [.int (j : Int), .ref u])) := s4.new hU
        have hu2 : u ≠ r2 := fun e => by
          have hpu' : (upd H1 r2 _) u = _ := hpu
          rw [e, upd_same] at hpu'
          cases hpu'
        have hpu1 : H1 u = some (.tup [nv t, nv hd]) := by
          have hpu' : (upd H1 r2 _) u = _ := hpu
          rw [upd_ne hu2] at hpu'
          exact hpu'
        refine g_three upd_same (s5 _ _ hpu1) ?_
        have h4' : RowL (upd H4 U (.tup [.int (j : Int), .ref u])) r2 ((M.E.take j).foldl (leadStep sense (rowL sense M.E (firstRow sense M.first M.n) i)) (List.replicate M.n none)) := by
          show (upd H4 U _) r2 = _
          rw [upd_ne (ne_of_none h4 hU)]
          exact h4
        generalize hH5 : upd H4 U (.tup [.int (j : Int), .ref u]) = H5 at s5 h4'
        have hrows : RowsL H5 r ((List.range (i + 1)).map (rowL sense M.E (firstRow sense M.first M.n))) := ⟨ps, s5 _ _ (s2 _ _ hr1), he1.mono fun p y e => s5 _ _ (s2 _ _ e)⟩
        have hm5 : MeterAt A H5 m M := hm1.s s5
        have hlen2 : ((M.E.take j).foldl (leadStep sense (rowL sense M.E (firstRow sense M.first M.n) i)) (List.replicate M.n none)).length = M.n := by rw [foldl_length (fun r a => leadStep_length ..), List.length_replicate]
        have step : (M.E.take (j + 1)).foldl (leadStep sense (rowL sense M.E (firstRow sense M.first M.n) i)) (List.replicate M.n none) = leadStep sense (rowL sense M.E (firstRow sense M.first M.n) i) ((M.E.take j).foldl (leadStep sense (rowL sense M.E (firstRow sense M.first M.n) i)) (List.replicate M.n none)) (t, hd, c - M.costs.getD t 0) := by
          rw [List.take_add_one, hE, List.foldl_append]
          rfl
        generalize hrow : (M.E.take j).foldl (leadStep sense (rowL sense M.E (firstRow sense M.first M.n) i)) (List.replicate M.n none) = row at h4' hlen2 step
        have e1 : EvE (tOp (rIxA K) (tOp (rIxA K) (tVar 3) (tVar 4)) (tVar 7)) [some (.ref m), some (.int sense), some (nv M.n), some (.ref r), some (nv i), some (.ref r2), some (.int (j : Int)), some (nv t), some (nv hd), p11] H5 (optV ((rowL sense M.E (firstRow sense M.first M.n) i).getD t none)) :=
          rd_rows hrows (ev_var rfl) (ev_var rfl) (ev_var rfl) hfi (by rw [hrl]; exact ht)
        cases hv : (rowL sense M.E (firstRow sense M.first M.n) i).getD t none with
        | none =>
          rw [hv] at e1
          refine sx_no (et_test (ev_notN0 e1)) ⟨_, _, _, _, rfl, s5, ?_⟩
          rw [step]
          have : leadStep sense (rowL sense M.E (firstRow sense M.first M.n) i) row (t, hd, c - M.costs.getD t 0) = row := by
            unfold leadStep relax
            show (match (rowL sense M.E (firstRow sense M.first M.n) i).getD t none with | none => row | some x => _) = _
            rw [hv]
          rw [this]
          exact h4'
        | some x0 =>
          rw [hv] at e1
          have hstep : leadStep sense (rowL sense M.E (firstRow sense M.first M.n) i) row (t, hd, c - M.costs.getD t 0) = match row.getD hd none with | none => row.set hd (some (x0 + sense * (c - M.costs.getD t 0))) | some y => if y < x0 + sense * (c - M.costs.getD t 0) then row.set hd (some (x0 + sense * (c - M.costs.getD t 0))) else row := by
            unfold leadStep relax
            show (match (rowL sense M.E (firstRow sense M.first M.n) i).getD t none with | none => row | some x => _) = _
            rw [hv]
            all_goals rfl
          refine sx_yes (et_test (ev_notN1 e1)) ?_
          refine sq_set (ev_add e1 (ev_mul (ev_var rfl) (ev_gain hm5 hE ht (ev_var rfl) (ev_var rfl)) (.inl hsb))) ?_
          have e3 : EvE (tOp (rIxA K) (tVar 5) (tVar 8)) [some (.ref m), some (.int sense), some (nv M.n), some (.ref r), some (nv i), some (.ref r2), some (.int (j : Int)), some (nv t), some (nv hd), some (.int (x0 + sense * (c - M.costs.getD t 0)))] H5 (optV (row.getD hd none)) :=
            ev_ixn (ev_var rfl) (ev_var rfl) (SqA.l h4') (row_at (by rw [hlen2]; exact hh))
          cases ho : row.getD hd none with
          | none =>
            rw [ho] at e3
            rw [ho] at hstep
            refine sx_yes ((et_or (b := true) (c := true) (et_test (ev_isN e3)) (fun z => by cases z)).is rfl) ?_
            refine sx_put (n := hd) (ev_var rfl) (ev_var rfl) (ev_var rfl) h4' (by rw [List.length_map, hlen2]; exact hh) ?_
            refine ⟨_, _, _, _, rfl, s5.mut hr2, ?_⟩
            rw [step, hstep]
            show (upd H5 r2 _) r2 = _
            rw [upd_same, row_set]
          | some y0 =>
            rw [ho] at e3
            rw [ho] at hstep
            have e4 : EtE (tOr (tTest (tOp rIsN (tOp (rIxA K) (tVar 5) (tVar 8)) (tC .non))) (tTest (tOp rGtI (tVar 9) (tOp (rIxA K) (tVar 5) (tVar 8))))) [some (.ref m), some (.int sense), some (nv M.n), some (.ref r), some (nv i), some (.ref r2), some (.int (j : Int)), some (nv t), some (nv hd), some (.int (x0 + sense * (c - M.costs.getD t 0)))] H5 (false || decide (y0 < x0 + sense * (c - M.costs.getD t 0))) :=
              et_or (et_test (ev_isN e3)) fun _ => et_test (ev_gt (ev_var rfl) e3)
            refine sx_if e4 (fun hb3 => ?_) (fun hb3 => ?_)
            · have hlt : y0 < x0 + sense * (c - M.costs.getD t 0) := of_decide_eq_true (by simpa using hb3)
              refine sx_put (n := hd) (ev_var rfl) (ev_var rfl) (ev_var rfl) h4' (by rw [List.length_map, hlen2]; exact hh) ?_
              refine ⟨_, _, _, _, rfl, s5.mut hr2, ?_⟩
              rw [step, hstep]
              show (upd H5 r2 _) r2 = some (.lst ((if _ then _ else _ : List (Option Int)).map optV))
              rw [if_pos hlt, upd_same, row_set]
            · have hlt : ¬ y0 < x0 + sense * (c - M.costs.getD t 0) := of_decide_eq_false (by simpa using hb3)
              refine ⟨_, _, _, _, rfl, s5, ?_⟩
              rw [step, hstep]
              show H5 r2 = some (.lst ((if _ then _ else _ : List (Option Int)).map optV))
              rw [if_neg hlt]
              exact h4'
      · rintro σ' H4 ⟨p8, p9, p10, p11, rfl, s4, h4⟩
        rw [List.length_map, hpe.1, ← hEl, List.take_length] at h4
        have hnext : (M.E.foldl (leadStep sense (rowL sense M.E (firstRow sense M.first M.n) i)) (List.replicate M.n none)) = rowL sense M.E (firstRow sense M.first M.n) (i + 1) := by
          show _ = nextL sense M.E (rowL sense M.E (firstRow sense M.first M.n) i)
          unfold nextL
          rw [hrl]
        rw [hnext] at h4
        refine pl_nx (sx_app (ev_var rfl) (ev_var rfl) (s4 _ _ (s2 _ _ hr1)) (by rw [List.length_map, he1.1, List.length_map, List.length_range]; omega) ?_)
        refine ⟨ps ++ [r2], _, _, _, _, _, _, rfl, ?_, ?_, ?_, ?_⟩
        · exact ((s1.trans s2).trans s4).mut hrn
        · rw [upd_same, List.map_append]
          rfl
        · rw [List.range_succ, List.map_append]
          refine (he1.monoM fun p y hp e => ?_).snoc (x := rowL sense M.E (firstRow sense M.first M.n) (i + 1)) ?_
          · show (upd H4 r _) p = _
            rw [upd_ne (hpr p hp)]
            exact s4 _ _ (s2 _ _ e)
          · show (upd H4 r _) r2 = _
            rw [upd_ne hrr2.symm]
            exact h4
        · intro p hp
          rcases List.mem_append.mp hp with hp | hp
          · exact hpr p hp
          · rw [List.mem_singleton.mp hp]
            exact hrr2.symm
    · obtain ⟨ps, o6, o7, o8, o9, o10, o11, rfl, s1, hr1, he1, hpr⟩ := hP
      rw [show M.n - 1 + 1 = M.n by omega] at he1
      exact pl_nx (sx_ret (ev_var rfl) (q H' r s1 hrn ⟨ps, hr1, he1⟩))
end
end K15
namespace K15
open PySem PySem.Spec PyProof.Rows L2 RZ
/-! ### extreme_worths, low_leads, high_leads, greatest_lead -/
def Good (M : Mt) (sense : Int) (p : Nat) (z : Int) : Prop := (∃ ks, Wk M.E 0 ks p ∧ z = sense * (M.first + gn M.E ks)) ∧ ∀ ks, Wk M.E 0 ks p → sense * (M.first + gn M.E ks) ≤ z
def IsExt (M : Mt) (sense : Int) (ws : List Int) : Prop := ws.length = M.n ∧ ∀ p, p < M.n → Good M sense p (ws.getD p 0)
/-- lows (sense -1), highs (sense 1) -/
def IsRow (M : Mt) (sense : Int) (ls : List Int) : Prop := ls.length = M.n ∧ ∀ p, p < M.n → (∃ ks, Wk M.E 0 ks p ∧ ls.getD p 0 = M.first + gn M.E ks) ∧ ∀ ks, Wk M.E 0 ks p → sense * (M.first + gn M.E ks) ≤ sense * ls.getD p 0
theorem Good.uniq {M : Mt} {sense : Int} {p : Nat} {y z : Int} (h : Good M sense p y) (h2 : Good M sense p z) : y = z := by
  obtain ⟨⟨ks, w, e⟩, h⟩ := h
  obtain ⟨⟨ks', w', e'⟩, h'⟩ := h2
  have := h ks' w'
  have := h' ks w
  omega
theorem getD_map {f : Int → Int} {l : List Int} {p : Nat} (h : p < l.length) : (l.map f).getD p 0 = f (l.getD p 0) := by
  rw [List.getD_eq_getElem?_getD, List.getD_eq_getElem?_getD, List.getElem?_map, List.getElem?_eq_getElem h]
  rfl
theorem IsExt.high {M : Mt} {ws : List Int} (h : IsExt M 1 ws) : IsRow M 1 ws := ⟨h.1, fun p hp => by
  obtain ⟨⟨ks, w, e⟩, h2⟩ := h.2 p hp
  exact ⟨⟨ks, w, by rw [e, Int.one_mul]⟩, fun ks' w' => by rw [Int.one_mul (ws.getD p 0)]; exact h2 ks' w'⟩⟩
theorem IsExt.low {M : Mt} {ws : List Int} (h : IsExt M (-1) ws) : IsRow M (-1) (ws.map fun x => -x) := ⟨by rw [List.length_map, h.1], fun p hp => by
  obtain ⟨⟨ks, w, e⟩, h2⟩ := h.2 p hp
  rw [getD_map (by rw [h.1]; exact hp)]
  exact ⟨⟨ks, w, by rw [e]; omega⟩, fun ks' w' => by have := h2 ks' w'; omega⟩⟩
def sp_extreme_worths (A : Ad) : Sp := fun vs H Q _ => ∃ (m : Addr) (M : Mt) (sense : Int), vs = [.ref m, .int sense] ∧ MeterAt A H m M ∧ M.Ok ∧ (sense = 1 ∨ sense = -1) ∧ NoDrift M [sense] ∧
  ∀ H' p ws, Same H H' → H p = none → IsExt M sense ws → IL H' p ws → Q (.ref p) H'
def sp_low_leads (A : Ad) : Sp := fun vs H Q _ => ∃ (m : Addr) (M : Mt), vs = [.ref m] ∧ MeterAt A H m M ∧ M.Ok ∧ NoDrift M [-1] ∧ ∀ H' p ls, Same H H' → H p = none → IsRow M (-1) ls → IT H' p ls → Q (.ref p) H'
def sp_high_leads (A : Ad) : Sp := fun vs H Q _ => ∃ (m : Addr) (M : Mt), vs = [.ref m] ∧ MeterAt A H m M ∧ M.Ok ∧ NoDrift M [1] ∧ ∀ H' p ls, Same H H' → H p = none → IsRow M 1 ls → IT H' p ls → Q (.ref p) H'
def sp_greatest_lead (A : Ad) : Sp := fun vs H Q _ => ∃ (m : Addr) (M : Mt), vs = [.ref m] ∧ MeterAt A H m M ∧ M.Ok ∧ NoDrift M [1] ∧ ∀ H' ls x, Same H H' → IsRow M 1 ls → x ∈ ls → (∀ y ∈ ls, y ≤ x) → Q (.int x) H'
theorem DriftRes.no {A : Ad} {M : Mt} {senses : List Int} {H : Hp} {p : Addr} (h : DriftRes A M senses H p) (n : NoDrift M senses) : False := by
  obtain ⟨ks, st, _, R, _⟩ := h
  obtain ⟨s, hs, h0⟩ := R.sg
  have := n s hs st ks R.wk
  omega
theorem fmI_idx (f : Nat → Option Int) : ∀ (xs : List V) (k : Nat), fmI (fun i _ => (f i).map V.int) k xs = ((List.range' k xs.length).filterMap f).map V.int
  | [], _ => rfl
  | x :: xs, k => by
    show ((f k).map V.int).toList ++ fmI _ (k + 1) xs = _
    rw [fmI_idx f xs (k + 1), List.length_cons, List.range'_succ, List.filterMap_cons]
    cases f k with
    | none => rfl
    | some y => rfl
/-- the greatest of the rows at a place -/
theorem good_of {M : Mt} (ok : M.Ok) {sense : Int} (hn : NoDrift M [sense]) {p : Nat} (hp : p < M.n) {z : Int}
    (h1 : z ∈ (List.range M.n).filterMap fun k => (rowL sense M.E (firstRow sense M.first M.n) k).getD p none) (h2 : ∀ y ∈ (List.range M.n).filterMap (fun k => (rowL sense M.E (firstRow sense M.first M.n) k).getD p none), y ≤ z) : Good M sense p z := by
  have hn1 : 0 < M.n := ok.ch.n1
  constructor
  · obtain ⟨k, hk, e⟩ := List.mem_filterMap.mp h1
    obtain ⟨ks, w, _, e2⟩ := (rowL_best hn1 ok.E_lt k p hp).at e
    exact ⟨ks, w, e2⟩
  · intro ks w
    obtain ⟨ks', w', hl, hg⟩ := w.shorten (sense := sense) ok.E_lt (fun u ks w => hn sense (by simp) u ks w) hn1
    obtain ⟨y, e, hy⟩ := (rowL_best (first := M.first) hn1 ok.E_lt ks'.length p hp).le ⟨ks', w', rfl, rfl⟩
    have := h2 y (List.mem_filterMap.mpr ⟨ks'.length, List.mem_range.mpr hl, e⟩)
    rw [Int.mul_add] at hy ⊢
    omega
theorem rows_ne {M : Mt} (ok : M.Ok) (sense : Int) {p : Nat} (hp : p < M.n) : 0 < ((List.range M.n).filterMap fun k => (rowL sense M.E (firstRow sense M.first M.n) k).getD p none).length := by
  have hn1 : 0 < M.n := ok.ch.n1
  obtain ⟨ks, w⟩ := ok.reach p hp
  obtain ⟨ks', w', hl⟩ := w.short ok.E_lt hn1
  obtain ⟨y, e, hy⟩ := (rowL_best (sense := sense) (first := M.first) hn1 ok.E_lt ks'.length p hp).le ⟨ks', w', rfl, rfl⟩
  exact List.length_pos_of_mem (List.mem_filterMap.mpr ⟨ks'.length, List.mem_range.mpr hl, e⟩)
def retE (s : Stmt) : Expr := match s with
  | .Return (some e) _ => e
  | _ => .Constant .none 0 ⟨0, 0, 0, 0⟩
def lcSc (e : Expr) : Scope := match e with
  | .ListComp _ _ sc _ => sc
  | _ => { kind := .function, names := [], isGenerator := false, isCoroutine := false }
def lcEl (e : Expr) : Expr := match e with
  | .ListComp (.Call _ [x] _ _) _ _ _ => x
  | _ => e
abbrev nestSc : Scope := lcSc (retE ((defBody s_extreme_worths).getD 3 (.Pass ⟨0, 0, 0, 0⟩)))
abbrev nestIn : Scope := lcSc (lcEl (retE ((defBody s_extreme_worths).getD 3 (.Pass ⟨0, 0, 0, 0⟩))))
theorem blk_extreme_worths0 : BlkOk ["meter", "sense", "drift", "rows", "place", "row"] nestSc nestIn [("row", 5)] := blkOk_by (by decide +kernel)
theorem nestIn_free : ∀ y ∈ nestIn.names, y.2 = .free → y.1 = ("place" : Str) := by decide +kernel
theorem blk_extreme_worths (env : Env) : BlkOk ["meter", "sense", "drift", "rows", "place", "row"] (relabel nestSc env) nestIn [("row", 5)] := ⟨blk_extreme_worths0.kind, blk_extreme_worths0.uniq, blk_extreme_worths0.ix, fun y hy e => .inl (by rw [nestIn_free y hy e]; rfl), blk_extreme_worths0.own⟩
section
variable {P : Program} {w : World} {K : PySem.W.Frag} {mg : Str → Option Value} {base : Heap} {A : Ad} (T : Txt K mg A)
include T
theorem ok_extreme_worths (d : Df K mg "extreme_worths" s_extreme_worths ["meter", "sense"]) (c_find_rise : Cal P w K mg base 6 "find_rise" ["meter"] (sp_find_rise A)) (c_find_fall : Cal P w K mg base 6 "find_fall" ["meter"] (sp_find_fall A))
    (c_lead_rows : Cal P w K mg base 2 "lead_rows" ["meter", "sense"] (sp_lead_rows A)) : Cal P w K mg base 7 "extreme_worths" ["meter", "sense"] (sp_extreme_worths A) := by
  refine d.ok sc_extreme_worths (fun vs H Q E h => ?_) (fun f cdv A' outer s H vs Q E hr h => ?_)
  · obtain ⟨m, M, sense, rfl, _⟩ := h
    rfl
  · obtain ⟨m, M, sense, rfl, hm, ok, hsen, hno, q⟩ := h
    have hn16 : M.n ≤ 16 := ok.ch.n16
    refine ⟨_, (pss_cons (ps_set (i := 2) sc_extreme_worths.nd rfl (.inl rfl) (pe_ifExp (pt_cmpR op_eq (pv 1) pe_int (nomark _)) (pe_cal c_find_rise hr (by rfl) (pa_cons (pv 0) pa_nil)) (pe_cal c_find_fall hr (by rfl) (pa_cons (pv 0) pa_nil))))
    (pss_cons (ps_if (pt_cmpR op_notNI (pv 2) pe_non (nomark _)) (pss_one ps_never) pss_nil)
    (pss_cons (ps_set (i := 3) sc_extreme_worths.nd rfl (.inr rfl) (pe_cal c_lead_rows hr (by rfl) (pa_cons (pv 0) (pa_cons (pv 1) pa_nil))))
    (pss_one (ps_ret (pe_lc (own := [("place", 4)]) (g := (gName 4)) (tt := tYes) (te := (tCB (rMax K) (tCons (tLc (iSeq K (tVar 3)) (gName 5) (tTest (tOp rNotN (tOp (rIxA K) (tVar 5) (tVar 4)) (tC .non))) (tOp (rIxA K) (tVar 5) (tVar 4)) [5]) tNil))) rfl sc_extreme_worths.nd (pi_range1 (by rfl) T.z_range (pa_cons (pe_callB cr_len (by rfl) T.z_len (by decide +kernel) (pa_cons (pe_fld (pe_fld (pv 0) rfl) rfl) pa_nil)) pa_nil)) (blkOk_by (N := ["meter", "sense", "drift", "rows", "place", "row"]) (own := [("place", 4)]) (sc := defScope s_extreme_worths) (by decide +kernel)) (fun _ _ _ _ _ => (pg_name (i := 4) sc_extreme_worths.nd rfl (.inr rfl))) (fun _ _ _ _ _ => pts_nil) (fun _ _ _ _ _ => (pe_callB (cr_max rfl) (by rfl) T.z_max (by decide +kernel) (pa_cons (pe_lc (own := [("row", 5)]) (g := (gName 5)) (tt := (tTest (tOp rNotN (tOp (rIxA K) (tVar 5) (tVar 4)) (tC .non)))) (te := (tOp (rIxA K) (tVar 5) (tVar 4))) rfl sc_extreme_worths.nd (pi_seq (pv 3)) (blk_extreme_worths _) (fun _ _ _ _ _ => (pg_name (i := 5) sc_extreme_worths.nd rfl (.inl rfl))) (fun _ _ _ _ _ => (pts_one (pt_cmpR op_notNI (pe_ix ix_any (pv 5) (pv 4) (fun _ _ => rfl)) pe_non (nomark _)))) (fun _ _ _ _ _ => (pe_ix ix_any (pv 5) (pv 4) (fun _ _ => rfl)))) pa_nil))))))))), ?_⟩
    -- drift = .. if sense == 1 else ..
    refine sq_setR (Pc := fun v H' => v = .non ∧ Same H H') (fun Q' k' => pl_ifx ((et_test (ev_eq (ev_var rfl) ev_c rfl)) _ ?_)) fun v H1 hv => ?_
    · rcases hsen with rfl | rfl
      · exact iteT (ev_callR (ea_cons (ev_var rfl) ea_nil) (fun Q2 k2 => ⟨m, M, rfl, hm, ok, fun _ H' s => k2 _ _ ⟨rfl, s⟩, fun H' p s hp hD => (hD.no hno).elim⟩) _ fun v H' hv => k' v H' hv)
      · exact iteF (ev_callR (ea_cons (ev_var rfl) ea_nil) (fun Q2 k2 => ⟨m, M, rfl, hm, ok, fun _ H' s => k2 _ _ ⟨rfl, s⟩, fun H' p s hp hD => (hD.no hno).elim⟩) _ fun v H' hv => k' v H' hv)
    · obtain ⟨rfl, s1⟩ := hv
      refine sq_never (et_test (ev_notN0 (ev_var rfl))) ?_
      refine sq_setR (Pc := fun v H' => ∃ p, v = .ref p ∧ Same H1 H' ∧ H1 p = none ∧ RowsL H' p ((List.range M.n).map (rowL sense M.E (firstRow sense M.first M.n)))) (ev_callR (ea_cons (ev_var rfl) (ea_cons (ev_var rfl) ea_nil)) (fun Q2 k2 => ⟨m, M, sense, rfl, hm.s s1, ok, hsen, fun H' p s hp hR => k2 _ _ ⟨p, rfl, s, hp, hR⟩⟩)) fun v H2 hv => ?_
      obtain ⟨rr, rfl, s2, hrr, ps, hps, hEa⟩ := hv
      have s12 := s1.trans s2
      obtain ⟨ch, hch, hca⟩ := rd_chart (H := H2) (σ := [some (.ref m), some (.int sense), some .non, some (.ref rr), none, none]) (ta := tVar 0) T (hm.s s12) (ev_var rfl)
      obtain ⟨pc, hpc, hpct⟩ := rd_costs T hca hch
      refine pl_ret ?_
      refine rd_lcRng (n := M.n) (ea_cons ((ev_len hpc (SqA.t hpct)).is (x := nv M.n) (by rw [List.length_map]; rfl)) ea_nil) (by omega)
        (fun D i H' => ∃ ws : List Int, ws.length = i ∧ IL H' D ws ∧ Same H2 H' ∧ ∀ p, p < i → Good M sense p (ws.getD p 0)) (fun D hD => ⟨[], rfl, upd_same, same_upd hD, fun p hp => by omega⟩) (fun D i H' hD hi hP => ?_) (fun D H' hD hP => ?_)
      · obtain ⟨ws, hwl, hDw, s3, hg⟩ := hP
        refine lcT_yes rfl ?_
        refine pl_cb1 ?_
        refine rd_lcFm (ev_var rfl).r fun v H3 hv => ?_
        obtain ⟨rfl, rfl⟩ := hv
        have hrow : ∀ k x H4, (ps.map V.ref)[k]? = some x → Same H' H4 → ∃ a, x = .ref a ∧ k < M.n ∧ RowL H4 a (rowL sense M.E (firstRow sense M.first M.n) k) := fun k x H4 hk s4 => by
          rw [List.getElem?_map] at hk
          cases e : ps[k]? with
          | none => rw [e] at hk; cases hk
          | some a =>
            rw [e] at hk
            have hkl : k < M.n := by
              have := (List.getElem?_eq_some_iff.mp e).1
              rw [hEa.1, List.length_map, List.length_range] at this
              exact this
            have := hEa.2 k a _ e (by rw [List.getElem?_map, List.getElem?_range hkl]; rfl)
            exact ⟨a, (Option.some.inj hk).symm, hkl, s4 _ _ (s3 _ _ this)⟩
        have hrl : ∀ k, (rowL sense M.E (firstRow sense M.first M.n) k).length = M.n := fun k => (rowL_length ..).trans (firstRow_length ok.ch.n1)
        refine ⟨rr, ps.map V.ref, fun k _ => ((rowL sense M.E (firstRow sense M.first M.n) k).getD i none).map V.int, rfl, SqA.l (s3 _ _ hps), by rw [List.length_map, hEa.1, List.length_map, List.length_range]; omega, fun _ => rfl, fun k x H4 hk s4 => ?_, fun k x y H4 hk hy s4 => ?_, fun D2 H4 hD2 s4 hL => ?_⟩
        · obtain ⟨a, rfl, hkl, hR⟩ := hrow k x H4 hk s4
          have e1 : EvE (tOp (rIxA K) (tVar 5) (tVar 4)) [some (.ref m), some (.int sense), some .non, some (.ref rr), some (nv i), some (.ref a)] H4 (optV ((rowL sense M.E (firstRow sense M.first M.n) k).getD i none)) := ev_ixn (ev_var rfl) (ev_var rfl) (SqA.l hR) (row_at (by rw [hrl]; exact hi))
          show EtS _ [some (.ref m), some (.int sense), some .non, some (.ref rr), some (nv i), some (.ref a)] H4 _
          dsimp only
          cases hv : (rowL sense M.E (firstRow sense M.first M.n) k).getD i none with
          | none => rw [hv] at e1; exact (et_test (ev_notN0 e1)).s
          | some z => rw [hv] at e1; exact (et_test (ev_notN1 e1)).s
        · obtain ⟨a, rfl, hkl, hR⟩ := hrow k x H4 hk s4
          show EvS _ [some (.ref m), some (.int sense), some .non, some (.ref rr), some (nv i), some (.ref a)] H4 _
          have e1 : EvE (tOp (rIxA K) (tVar 5) (tVar 4)) [some (.ref m), some (.int sense), some .non, some (.ref rr), some (nv i), some (.ref a)] H4 (optV ((rowL sense M.E (firstRow sense M.first M.n) k).getD i none)) := ev_ixn (ev_var rfl) (ev_var rfl) (SqA.l hR) (row_at (by rw [hrl]; exact hi))
          dsimp only at hy
          cases hv : (rowL sense M.E (firstRow sense M.first M.n) k).getD i none with
          | none => rw [hv] at hy; cases hy
          | some z =>
            rw [hv] at hy e1
            cases hy
            exact e1.s
        · rw [fmI_idx] at hL
          rw [List.length_map, hEa.1, List.length_map, List.length_range, ← List.range_eq_range'] at hL
          refine ⟨D2, _, rfl, SqL.of hL, rows_ne ok sense hi, fun z hz hle => ?_⟩
          have hgz := good_of ok hno hi hz hle
          refine ⟨ws.map V.int, s4 _ _ hDw, by rw [List.length_map, hwl]; exact Nat.lt_of_lt_of_le hi (Nat.le_trans hn16 (by decide)), ws ++ [z], by rw [List.length_append, hwl]; rfl, ?_, (s3.trans s4).mut hD, fun p hp => ?_⟩
          · show (upd H4 D _) D = _
            rw [upd_same, List.map_append]
            rfl
          · by_cases hpi : p < i
            · have : (ws ++ [z]).getD p 0 = ws.getD p 0 := by
                rw [List.getD_eq_getElem?_getD, List.getElem?_append_left (by rw [hwl]; exact hpi), ← List.getD_eq_getElem?_getD]
              rw [this]
              exact hg p hpi
            · have e : p = i := by omega
              subst e
              have : (ws ++ [z]).getD p 0 = z := by
                rw [List.getD_eq_getElem?_getD, List.getElem?_append_right (by rw [hwl]; exact Nat.le_refl _), hwl, Nat.sub_self]
                rfl
              rw [this]
              exact hgz
      · obtain ⟨ws, hwl, hDw, s3, hg⟩ := hP
        exact q H' D ws (s12.trans s3) (s12.free hD) ⟨hwl, hg⟩ hDw
theorem ev_ext {σ : L2.St} {H : Hp} {ta tb : TE} {m : Addr} {M : Mt} {sense : Int} (hm : MeterAt A H m M) (ok : M.Ok) (hsen : sense = 1 ∨ sense = -1) (hno : NoDrift M [sense]) (ha : EvE ta σ H (.ref m)) (hb : EvE tb σ H (.int sense)) :
    EvR (tCall (sp_extreme_worths A) [] E0 (tCons ta (tCons tb tNil))) σ H (fun v H' => ∃ p ws, v = .ref p ∧ Same H H' ∧ H p = none ∧ IsExt M sense ws ∧ IL H' p ws) :=
  ev_callR (ea_cons ha (ea_cons hb ea_nil)) fun Q k => ⟨m, M, sense, rfl, hm, ok, hsen, hno, fun H' p ws s hp hE hL => k _ _ ⟨p, ws, rfl, s, hp, hE, hL⟩⟩
theorem ok_low_leads (d : Df K mg "low_leads" s_low_leads ["meter"]) (c_extreme_worths : Cal P w K mg base 7 "extreme_worths" ["meter", "sense"] (sp_extreme_worths A)) : Cal P w K mg base 8 "low_leads" ["meter"] (sp_low_leads A) := by
  refine d.ok sc_low_leads (fun vs H Q E h => ?_) (fun f cdv A' outer s H vs Q E hr h => ?_)
  · obtain ⟨m, M, rfl, _⟩ := h
    rfl
  · obtain ⟨m, M, rfl, hm, ok, hno, q⟩ := h
    have hn16 : M.n ≤ 16 := ok.ch.n16
    refine ⟨_, (pss_one (ps_ret (pe_callTy cr_tup (by rfl) T.z_tuple (by decide +kernel) (pa_cons (pe_lc (own := [("worth", 1)]) (g := (gName 1)) (tt := tYes) (te := (tUn rNegI (tVar 1))) rfl sc_low_leads.nd (pi_seq (pe_cal c_extreme_worths hr (by rfl) (pa_cons (pv 0) (pa_cons (pe_un un_negI pe_int) pa_nil)))) (blkOk_by (N := ["meter", "worth"]) (own := [("worth", 1)]) (sc := defScope s_low_leads) (by decide +kernel)) (fun _ _ _ _ _ => (pg_name (i := 1) sc_low_leads.nd rfl (.inl rfl))) (fun _ _ _ _ _ => pts_nil) (fun _ _ _ _ _ => (pe_un un_negI (pv 1)))) pa_nil)))), ?_⟩
    refine pl_ret (pl_cb1 ?_)
    refine rd_lcFm (ev_ext T hm ok (.inr rfl) hno (ev_var rfl) (ev_neg ev_c)) fun v H1 hv => ?_
    obtain ⟨p, ws, rfl, s1, hp, hE, hL⟩ := hv
    refine ⟨p, ws.map V.int, fun _ x => match x with | .int z => some (.int (-z)) | _ => none, rfl, SqA.l hL, by rw [List.length_map, hE.1]; omega, fun _ => rfl, fun k x H' hk _ => ?_, fun k x y H' hk hy s => ?_, fun D H' hD s hL2 => ?_⟩
    · rw [List.getElem?_map] at hk
      cases e : ws[k]? with
      | none => rw [e] at hk; cases hk
      | some z => rw [e] at hk; cases hk; exact EtS.yes
    · rw [List.getElem?_map] at hk
      cases e : ws[k]? with
      | none => rw [e] at hk; cases hk
      | some z =>
        rw [e] at hk
        cases hk
        have ey : V.int (-z) = y := Option.some.inj hy
        subst ey
        exact (ev_neg (ev_var rfl)).s
    · have eL : fmI (fun _ x => match x with | .int z => some (V.int (-z)) | _ => none) 0 (ws.map V.int) = (ws.map fun z => -z).map V.int := by
        rw [List.map_map]
        exact fmI_map (fun z => V.int (-z)) _ V.int ws 0 (fun k x _ => rfl)
      rw [eL] at hL2
      refine ⟨D, _, rfl, .inl ⟨SqL.of hL2, fun l hl => ?_⟩⟩
      exact q _ l _ ((s1.trans s).new hl) ((s1.trans s).free hl) hE.low upd_same
theorem ok_high_leads (d : Df K mg "high_leads" s_high_leads ["meter"]) (c_extreme_worths : Cal P w K mg base 7 "extreme_worths" ["meter", "sense"] (sp_extreme_worths A)) : Cal P w K mg base 8 "high_leads" ["meter"] (sp_high_leads A) := by
  refine d.ok sc_high_leads (fun vs H Q E h => ?_) (fun f cdv A' outer s H vs Q E hr h => ?_)
  · obtain ⟨m, M, rfl, _⟩ := h
    rfl
  · obtain ⟨m, M, rfl, hm, ok, hno, q⟩ := h
    refine ⟨_, (pss_one (ps_ret (pe_callTy cr_tup (by rfl) T.z_tuple (by decide +kernel) (pa_cons (pe_cal c_extreme_worths hr (by rfl) (pa_cons (pv 0) (pa_cons pe_int pa_nil))) pa_nil)))), ?_⟩
    refine pl_ret (pl_cb1 (ev_ext T hm ok (.inl rfl) hno (ev_var rfl) ev_c _ fun v H1 hv => ?_))
    obtain ⟨p, ws, rfl, s1, hp, hE, hL⟩ := hv
    refine ⟨p, _, rfl, .inl ⟨SqL.of hL, fun l hl => ?_⟩⟩
    exact q _ l _ (s1.new hl) (s1.free hl) hE.high upd_same
theorem ok_greatest_lead (d : Df K mg "greatest_lead" s_greatest_lead ["meter"]) (c_high_leads : Cal P w K mg base 8 "high_leads" ["meter"] (sp_high_leads A)) : Cal P w K mg base 9 "greatest_lead" ["meter"] (sp_greatest_lead A) := by
  refine d.ok sc_greatest_lead (fun vs H Q E h => ?_) (fun f cdv A' outer s H vs Q E hr h => ?_)
  · obtain ⟨m, M, rfl, _⟩ := h
    rfl
  · obtain ⟨m, M, rfl, hm, ok, hno, q⟩ := h
    refine ⟨_, (pss_one (ps_ret (pe_callB (cr_max rfl) (by rfl) T.z_max (by decide +kernel) (pa_cons (pe_callTy cr_list (by rfl) T.z_list (by decide +kernel) (pa_cons (pe_cal c_high_leads hr (by rfl) (pa_cons (pv 0) pa_nil)) pa_nil)) pa_nil)))), ?_⟩
    refine pl_ret (pl_cb1 (pl_cb1 (ev_callR (Pc := fun v H' => ∃ p ls, v = .ref p ∧ Same H H' ∧ IsRow M 1 ls ∧ IT H' p ls) (ea_cons (ev_var rfl) ea_nil) (fun Q k => ⟨m, M, rfl, hm, ok, hno, fun H' p ls s hp hR hT => k _ _ ⟨p, ls, rfl, s, hR, hT⟩⟩) _ fun v H1 hv => ?_)))
    obtain ⟨p, ls, rfl, s1, hR, hT⟩ := hv
    refine ⟨p, _, rfl, SqA.t hT, fun l hl => ?_⟩
    refine ⟨l, ls, rfl, SqL.of upd_same, ?_, fun x hx hle => q _ ls x (s1.new hl) hR hx hle⟩
    rw [hR.1]
    exact ok.ch.n1
end
end K15
namespace K15
open PySem PySem.Spec PyProof.Rows L2 RZ
/-! ### least_walk, extreme_run, find_low_run, find_high_run -/
def sp_least_walk (A : Ad) : Sp := fun vs H Q _ => ∃ (m rr : Addr) (M : Mt) (last : List (Option Int)) (len : Nat) (start wanted sense x0 : Int), vs = [.ref m, .ref rr, nv len, .int start, .int wanted, .int sense] ∧ MeterAt A H m M ∧ M.Ok ∧
  RowsL H rr ((List.range (len + 1)).map (rowR sense 0 M.E last)) ∧ last.length = M.n ∧ len ≤ 100 ∧ (sense = 1 ∨ sense = -1) ∧ (rowR sense 0 M.E last len).getD 0 none = some x0 ∧ wanted ≤ start + x0 ∧
  ∀ H' q ks v y, Same H H' → H q = none → NT H' q ks → ks.length = len → Wk M.E 0 ks v → last.getD v none = some y → wanted ≤ start + sense * gn M.E ks + y → Q (.ref q) H'
def sp_run_ext (A : Ad) (sense : Int) (m : Addr) (M : Mt) (p : Nat) (H : Hp) (Q : VK) : Prop := MeterAt A H m M ∧ M.Ok ∧ p < M.n ∧ NoDrift M [sense] ∧
  ∀ H' q ks, Same H H' → H q = none → NT H' q ks → ks.length ≤ 16 → Wk M.E 0 ks p → (∀ ks', Wk M.E 0 ks' p → sense * (M.first + gn M.E ks') ≤ sense * (M.first + gn M.E ks)) → Q (.ref q) H'
def sp_extreme_run (A : Ad) : Sp := fun vs H Q _ => ∃ (m : Addr) (M : Mt) (p : Nat) (sense : Int), vs = [.ref m, nv p, .int sense] ∧ (sense = 1 ∨ sense = -1) ∧ sp_run_ext A sense m M p H Q
def sp_find_low_run (A : Ad) : Sp := fun vs H Q _ => ∃ (m : Addr) (M : Mt) (p : Nat), vs = [.ref m, nv p] ∧ sp_run_ext A (-1) m M p H Q
def sp_find_high_run (A : Ad) : Sp := fun vs H Q _ => ∃ (m : Addr) (M : Mt) (p : Nat), vs = [.ref m, nv p] ∧ sp_run_ext A 1 m M p H Q
/-- some row holds the best at its place -/
theorem Good.row {M : Mt} (ok : M.Ok) {sense : Int} (hn : NoDrift M [sense]) {p : Nat} (hp : p < M.n) {z : Int} (h : Good M sense p z) : ∃ k, k < M.n ∧ (rowL sense M.E (firstRow sense M.first M.n) k).getD p none = some z := by
  have hn1 : 0 < M.n := ok.ch.n1
  obtain ⟨⟨ks, w, e⟩, h2⟩ := h
  obtain ⟨ks', w', hl, hg⟩ := w.shorten (sense := sense) ok.E_lt (fun u ks w => hn sense (by simp) u ks w) hn1
  have hb := rowL_best (sense := sense) (first := M.first) hn1 ok.E_lt ks'.length p hp
  obtain ⟨y, e1, hy⟩ := hb.le ⟨ks', w', rfl, rfl⟩
  obtain ⟨ks2, w2, _, e2⟩ := hb.at e1
  have h3 := h2 ks2 w2
  refine ⟨ks'.length, hl, ?_⟩
  rw [e1]
  rw [Int.mul_add] at *
  congr 1
  omega
section
variable {P : Program} {w : World} {K : PySem.W.Frag} {mg : Str → Option Value} {base : Heap} {A : Ad} (T : Txt K mg A)
include T
theorem ok_least_walk (d : Df K mg "least_walk" s_least_walk ["meter", "rests", "length", "start", "wanted", "sense"]) (c_Chartouts : CalM P w K mg base 3 A.ch "outs" ["self", "place"] (sp_Chartouts A))
    (c_arrow_gain : Cal P w K mg base 1 "arrow_gain" ["meter", "arrow"] (sp_arrow_gain A)) : Cal P w K mg base 4 "least_walk" ["meter", "rests", "length", "start", "wanted", "sense"] (sp_least_walk A) := by
  refine d.ok sc_least_walk (fun vs H Q E h => ?_) (fun f cdv A' outer s H vs Q E hr h => ?_)
  · obtain ⟨m, rr, M, last, len, start, wanted, sense, x0, rfl, _⟩ := h
    rfl
  · obtain ⟨m, rr, M, last, len, start, wanted, sense, x0, rfl, hm, ok, hrows, hll, hlen, hsen, hx0, hw0, q⟩ := h
    have hn1 : 1 ≤ M.n := ok.ch.n1
    have hn16 : M.n ≤ 16 := ok.ch.n16
    have h32 := ok.ch.a32
    have hsb : (-(2 ^ 64) < sense ∧ sense < 2 ^ 64) := by rcases hsen with e | e <;> rw [e] <;> decide
    have hEl : ∀ e ∈ M.E, e.1 < last.length ∧ e.2.1 < last.length := by rw [hll]; exact ok.E_lt
    refine ⟨_, (pss_cons (ps_set (i := 6) sc_least_walk.nd rfl (.inl rfl) (pe_lst pa_nil))
    (pss_cons (ps_set (i := 7) sc_least_walk.nd rfl (.inl rfl) pe_int)
    (pss_cons (ps_set (i := 8) sc_least_walk.nd rfl (.inl rfl) (pv 3))
    (pss_cons (ps_for PassesOwn.never rfl (pi_revR (by rfl) T.z_reversed (prg_1 (by rfl) T.z_range (pv 2))) (pg_name (i := 9) sc_least_walk.nd rfl (.inl rfl)) (pss_one (ps_for PassesOwn.never rfl (pi_seq (pe_mcal c_Chartouts hr (pe_fld (pv 0) rfl) (pa_cons (pv 7) pa_nil))) (pg_name (i := 10) sc_least_walk.nd rfl (.inl rfl)) (pss_cons (ps_set (i := 11) sc_least_walk.nd rfl (.inl rfl) (pe_ix ix_any (pe_ix ix_any (pe_fld (pe_fld (pv 0) rfl) rfl) (pv 10) (fun _ _ => rfl)) pe_int (fun _ _ => rfl)))
    (pss_cons (ps_set (i := 12) sc_least_walk.nd rfl (.inl rfl) (pe_op op_addI (pv 8) (pe_op op_mulI (pv 5) (pe_cal c_arrow_gain hr (by rfl) (pa_cons (pv 0) (pa_cons (pv 10) pa_nil))))))
    (pss_one (ps_if (PW.pt (pw_and (pt_cmpR op_notNI (pe_ix ix_any (pe_ix ix_any (pv 1) (pv 9) (fun _ _ => rfl)) (pv 11) (fun _ _ => rfl)) pe_non (nomark _)) (pw_and1 (pt_cmpR op_geI (pe_op op_addI (pv 12) (pe_ix ix_any (pe_ix ix_any (pv 1) (pv 9) (fun _ _ => rfl)) (pv 11) (fun _ _ => rfl))) (pv 4) (nomark _))))) (pss_cons (ps_expr (pe_bm PySem.F.plainAttrs_list PySem.F.slot_list_append PySem.F.type_list_append mt_append (pv 6) (pa_cons (pv 10) pa_nil)))
    (pss_cons (ps_set (i := 8) sc_least_walk.nd rfl (.inl rfl) (pv 12))
    (pss_cons (ps_set (i := 7) sc_least_walk.nd rfl (.inl rfl) (pv 11))
    (pss_one ps_break)))) pss_nil)))))))
    (pss_one (ps_ret (pe_callTy cr_tup (by rfl) T.z_tuple (by decide +kernel) (pa_cons (pv 6) pa_nil)))))))), ?_⟩
    refine pl_seq (pl_set ⟨Nat.zero_le _, fun wk hwk0 => ?_⟩)
    have swk : Same H (upd H wk (.lst [])) := same_upd hwk0
    refine pl_nx (sq_set ev_c (sq_set (ev_var rfl) (pl_seq ?_)))
    refine rd_forRev (n := len) (ev_var rfl) (by omega)
      (fun i σ' H' => ∃ (ks : List Nat) (place : Nat) (worth x : Int) (o9 o10 o11 o12 : Option V), σ' = [some (.ref m), some (.ref rr), some (nv len), some (.int start), some (.int wanted), some (.int sense), some (.ref wk), some (nv place), some (.int worth), o9, o10, o11, o12] ∧ Same H H' ∧ NL H' wk ks ∧ ks.length = i ∧
        Wk M.E 0 ks place ∧ worth = start + sense * gn M.E ks ∧ place < M.n ∧ (rowR sense 0 M.E last (len - i)).getD place none = some x ∧ wanted ≤ worth + x)
      ⟨[], 0, start, x0, _, _, _, _, rfl, swk, upd_same, rfl, .nil _, by rw [gn_nil]; omega, by omega, hx0, hw0⟩ (fun i σ' H' hi hP => ?_) (fun σ' H' hP => ?_)
    · obtain ⟨ks, place, worth, x, o9, o10, o11, o12, rfl, s1, hwk1, hkl, hwk, hwo, hpl, hx, hw⟩ := hP
      have hm1 := hm.s s1
      obtain ⟨ch, hch, hca⟩ := rd_chart (H := H') (σ := [some (.ref m), some (.ref rr), some (nv len), some (.int start), some (.int wanted), some (.int sense), some (.ref wk), some (nv place), some (.int worth), some (nv (len - 1 - i)), o10, o11, o12]) (ta := tVar 0) T hm1 (ev_var rfl)
      refine rd_forSeq (ev_outs hca hpl h32 hch (ev_var rfl)) fun v H1 hv => ?_
      obtain ⟨qa, rfl, s2, hqa, hN⟩ := hv
      have left1 : len - i = (len - 1 - i) + 1 := by omega
      rw [left1] at hx
      obtain ⟨j0, h0, g0, y0, hE0, _, hy0, ex0⟩ := rowR_step hEl (by rw [hll]; exact hpl) hx
      refine ⟨qa, _, rfl, SqA.t hN, fun j σ' H'' => (∃ (o10 o11 o12 : Option V), σ' = [some (.ref m), some (.ref rr), some (nv len), some (.int start), some (.int wanted), some (.int sense), some (.ref wk), some (nv place), some (.int worth), some (nv (len - 1 - i)), o10, o11, o12]) ∧ Same H1 H'' ∧
        ∀ k ∈ (outs M.arrows place).take j, ∀ h g y, M.E[k]? = some (place, h, g) → (rowR sense 0 M.E last (len - 1 - i)).getD h none = some y → ¬ wanted ≤ worth + sense * g + y, ⟨⟨_, _, _, rfl⟩, Same.refl H1, fun k hk => by simp at hk⟩, fun j σ' H'' p => p.2.1.at, ?_, ?_⟩
      · rintro j x1 σ' H2 hj ⟨⟨o10, o11, o12, rfl⟩, s3, hno⟩
        have hjl : j < (outs M.arrows place).length := by
          have := (List.getElem?_eq_some_iff.mp hj).1
          rw [List.length_map] at this
          exact this
        have hk : (outs M.arrows place)[j]? = some (outs M.arrows place)[j] := List.getElem?_eq_getElem hjl
        have ex : x1 = nv (outs M.arrows place)[j] := Option.some.inj (hj.symm.trans (nat_at hk))
        have hmem : (outs M.arrows place)[j] ∈ outs M.arrows place := List.getElem_mem hjl
        generalize (outs M.arrows place)[j] = k at hk ex hmem
        subst ex
        obtain ⟨hd, har⟩ := mem_outs.mp hmem
        obtain ⟨t', hd', c, ha1, hc1, ht, hh, hE⟩ := ok.at (List.getElem?_eq_some_iff.mp har).1
        rw [har] at ha1
        cases ha1
        have s13 := (s1.trans s2).trans s3
        have hm2 := hm.s s13
        have hr2 := hrows.s s13
        obtain ⟨ch2, hch2, hca2⟩ := rd_chart (H := H2) (σ := [some (.ref m), some (.ref rr), some (nv len), some (.int start), some (.int wanted), some (.int sense), some (.ref wk), some (nv place), some (.int worth), some (nv (len - 1 - i)), some (nv k), o11, o12]) (ta := tVar 0) T hm2 (ev_var rfl)
        refine sq_set (rd_head T hca2 hch2 (ev_var rfl) har) ?_
        refine sq_set (ev_add (ev_var rfl) (ev_mul (ev_var rfl) (ev_gain hm2 hE hpl (ev_var rfl) (ev_var rfl)) (.inl hsb))) ?_
        have hrl : (rowR sense 0 M.E last (len - 1 - i)).length = M.n := (rowR_length ..).trans hll
        have e1 : EvE (tOp (rIxA K) (tOp (rIxA K) (tVar 1) (tVar 9)) (tVar 11)) [some (.ref m), some (.ref rr), some (nv len), some (.int start), some (.int wanted), some (.int sense), some (.ref wk), some (nv place), some (.int worth), some (nv (len - 1 - i)), some (nv k), some (nv hd), some (.int (worth + sense * (c - M.costs.getD place 0)))] H2 (optV ((rowR sense 0 M.E last (len - 1 - i)).getD hd none)) :=
          rd_rows hr2 (ev_var rfl) (ev_var rfl) (ev_var rfl) (by rw [List.getElem?_map, List.getElem?_range (by omega)]; rfl) (by rw [hrl]; exact hh)
        cases hv : (rowR sense 0 M.E last (len - 1 - i)).getD hd none with
        | none =>
          rw [hv] at e1
          refine sx_no ((et_and (b := false) (c := false) (et_test (ev_notN0 e1)) (fun z => by cases z)).is rfl) ?_
          refine ⟨⟨_, _, _, rfl⟩, s3, fun k' hk' h' g' y' hE' hy' => ?_⟩
          rw [List.take_add_one, hk] at hk'
          rcases List.mem_append.mp hk' with hk' | hk'
          · exact hno k' hk' h' g' y' hE' hy'
          · have e : k' = k := by simpa using hk'
            subst e
            rw [hE] at hE'
            cases hE'
            rw [hv] at hy'
            cases hy'
        | some y =>
          rw [hv] at e1
          have e2 : EtE (tAnd (tTest (tOp rNotN (tOp (rIxA K) (tOp (rIxA K) (tVar 1) (tVar 9)) (tVar 11)) (tC .non))) (tTest (tOp rGeI (tOp rAddI (tVar 12) (tOp (rIxA K) (tOp (rIxA K) (tVar 1) (tVar 9)) (tVar 11))) (tVar 4)))) [some (.ref m), some (.ref rr), some (nv len), some (.int start), some (.int wanted), some (.int sense), some (.ref wk), some (nv place), some (.int worth), some (nv (len - 1 - i)), some (nv k), some (nv hd), some (.int (worth + sense * (c - M.costs.getD place 0)))] H2 (true && decide (wanted ≤ worth + sense * (c - M.costs.getD place 0) + y)) :=
            et_and (et_test (ev_notN1 e1)) fun _ => et_test (ev_ge (ev_add (ev_var rfl) e1) (ev_var rfl))
          refine sx_if e2 (fun hb => ?_) (fun hb => ?_)
          · have hb' : wanted ≤ worth + sense * (c - M.costs.getD place 0) + y := of_decide_eq_true (by simpa using hb)
            have hwk2 : NL H2 wk ks := s3 _ _ (s2 _ _ hwk1)
            refine sq_app (ev_var rfl) (ev_var rfl) hwk2 (by rw [List.length_map]; omega) ?_
            refine sq_set (ev_var rfl) (sq_set (ev_var rfl) ?_)
            refine ⟨ks ++ [k], hd, _, y, _, _, _, _, rfl, s13.mut hwk0, ?_, by rw [List.length_append, hkl]; rfl, hwk.snoc hE, ?_, hh, ?_, hb'⟩
            · show (upd H2 wk _) wk = _
              rw [upd_same, List.map_append]
              rfl
            · rw [gn_append, gn_one, eg_of hE, hwo, Int.mul_add]
              omega
            · rw [show len - (i + 1) = len - 1 - i by omega]
              exact hv
          · have hb' : ¬ wanted ≤ worth + sense * (c - M.costs.getD place 0) + y := of_decide_eq_false (by simpa using hb)
            refine ⟨⟨_, _, _, rfl⟩, s3, fun k' hk' h' g' y' hE' hy' => ?_⟩
            rw [List.take_add_one, hk] at hk'
            rcases List.mem_append.mp hk' with hk' | hk'
            · exact hno k' hk' h' g' y' hE' hy'
            · have e : k' = k := by simpa using hk'
              subst e
              rw [hE] at hE'
              cases hE'
              rw [hv] at hy'
              cases hy'
              exact hb'
      · rintro σ' H2 ⟨_, _, hno⟩
        rw [List.length_map, List.take_length] at hno
        have hmem : j0 ∈ outs M.arrows place := mem_outs.mpr ⟨h0, (Mt.E_inv hE0).1⟩
        exact absurd (show wanted ≤ worth + sense * g0 + y0 by omega) (hno j0 hmem h0 g0 y0 hE0 hy0)
    · obtain ⟨ks, place, worth, x, o9, o10, o11, o12, rfl, s1, hwk1, hkl, hwk, hwo, hpl, hx, hw⟩ := hP
      rw [Nat.sub_self] at hx
      refine pl_nx (sx_retR (ev_tupL (ev_var rfl) hwk1) fun v H' hv => ?_)
      obtain ⟨l, rfl, hl, rfl⟩ := hv
      exact q _ l ks place x (s1.new hl) (s1.free hl) upd_same hkl hwk hx (by rw [← hwo]; exact hw)
theorem ok_extreme_run (d : Df K mg "extreme_run" s_extreme_run ["meter", "place", "sense"]) (c_check_place : Cal P w K mg base 2 "check_place" ["chart", "place"] (sp_check_place A)) (c_extreme_worths : Cal P w K mg base 7 "extreme_worths" ["meter", "sense"] (sp_extreme_worths A))
    (c_lead_rows : Cal P w K mg base 2 "lead_rows" ["meter", "sense"] (sp_lead_rows A)) (c_rest_rows : Cal P w K mg base 2 "rest_rows" ["meter", "last_row", "lowest", "length", "sense"] (sp_rest_rows A))
    (c_least_walk : Cal P w K mg base 4 "least_walk" ["meter", "rests", "length", "start", "wanted", "sense"] (sp_least_walk A)) : Cal P w K mg base 8 "extreme_run" ["meter", "place", "sense"] (sp_extreme_run A) := by
  refine d.ok sc_extreme_run (fun vs H Q E h => ?_) (fun f cdv A' outer s H vs Q E hr h => ?_)
  · obtain ⟨m, M, p, sense, rfl, _⟩ := h
    rfl
  · obtain ⟨m, M, p, sense, rfl, hsen, hm, ok, hp, hno, q⟩ := h
    have hn1 : 0 < M.n := ok.ch.n1
    have hn16 : M.n ≤ 16 := ok.ch.n16
    have hsb : (-(2 ^ 64) < sense ∧ sense < 2 ^ 64) := by rcases hsen with e | e <;> rw [e] <;> decide
    refine ⟨_, (pss_cons (ps_expr (pe_cal c_check_place hr (by rfl) (pa_cons (pe_fld (pv 0) rfl) (pa_cons (pv 1) pa_nil))))
    (pss_cons (ps_set (i := 3) sc_extreme_run.nd rfl (.inr rfl) (pe_ix ix_any (pe_cal c_extreme_worths hr (by rfl) (pa_cons (pv 0) (pa_cons (pv 2) pa_nil))) (pv 1) (fun _ _ => rfl)))
    (pss_cons (ps_set (i := 4) sc_extreme_run.nd rfl (.inr rfl) (pe_cal c_lead_rows hr (by rfl) (pa_cons (pv 0) (pa_cons (pv 2) pa_nil))))
    (pss_cons (ps_set (i := 5) sc_extreme_run.nd rfl (.inl rfl) (pe_ix ix_any (pe_lc (own := [("k", 8)]) (g := (gName 8)) (tt := (tTest (tOp rEq (tOp (rIxA K) (tOp (rIxA K) (tVar 4) (tVar 8)) (tVar 1)) (tVar 3)))) (te := (tVar 8)) rfl sc_extreme_run.nd (pi_range1 (by rfl) T.z_range (pa_cons (pe_callB cr_len (by rfl) T.z_len (by decide +kernel) (pa_cons (pv 4) pa_nil)) pa_nil)) (blkOk_by (N := ["meter", "place", "sense", "wanted", "rows", "length", "last_row", "rests", "k", "other"]) (own := [("k", 8)]) (sc := defScope s_extreme_run) (by decide +kernel)) (fun _ _ _ _ _ => (pg_name (i := 8) sc_extreme_run.nd rfl (.inl rfl))) (fun _ _ _ _ _ => (pts_one (pt_cmpR op_eq (pe_ix ix_any (pe_ix ix_any (pv 4) (pv 8) (fun _ _ => rfl)) (pv 1) (fun _ _ => rfl)) (pv 3) (nomark _)))) (fun _ _ _ _ _ => (pv 8))) pe_int (fun _ _ => rfl)))
    (pss_cons (ps_setLc (i := 6) (own := [("other", 9)]) (g := (gName 9)) (tt := tYes) (te := (tIf (tTest (tOp rEq (tVar 9) (tVar 1))) (tC (.int 0)) (tC .non))) rfl sc_extreme_run.nd rfl rfl (sw_true rfl rfl rfl (by decide +kernel)) (pi_range1 (by rfl) T.z_range (pa_cons (pe_callB cr_len (by rfl) T.z_len (by decide +kernel) (pa_cons (pe_fld (pe_fld (pv 0) rfl) rfl) pa_nil)) pa_nil)) (blkOk_by (N := ["meter", "place", "sense", "wanted", "rows", "length", "last_row", "rests", "k", "other"]) (own := [("other", 9)]) (sc := defScope s_extreme_run) (by decide +kernel)) (fun _ _ _ _ _ => (pg_name (i := 9) sc_extreme_run.nd rfl (.inl rfl))) (fun _ _ _ _ _ => pts_nil) (fun _ _ _ _ _ => (pe_ifExp (pt_cmpR op_eq (pv 9) (pv 1) (nomark _)) pe_int pe_non)))
    (pss_cons (ps_set (i := 7) sc_extreme_run.nd rfl (.inl rfl) (pe_cal c_rest_rows hr (by rfl) (pa_cons (pv 0) (pa_cons (pv 6) (pa_cons pe_int (pa_cons (pv 5) (pa_cons (pv 2) pa_nil)))))))
    (pss_one (ps_ret (pe_cal c_least_walk hr (by rfl) (pa_cons (pv 0) (pa_cons (pv 7) (pa_cons (pv 5) (pa_cons (pe_op op_mulI (pv 2) (pe_fld (pv 0) rfl)) (pa_cons (pv 3) (pa_cons (pv 2) pa_nil))))))))))))))), ?_⟩
    obtain ⟨ch, hch, hca⟩ := rd_chart (σ := L2.start ["meter", "place", "sense", "wanted", "rows", "length", "last_row", "rests", "k", "other"] [.ref m, nv p, .int sense]) (ta := tVar 0) T hm (ev_var rfl)
    refine sq_dropR (Pc := fun v H' => v = nv p ∧ H' = H) (ev_callR (ea_cons hch (ea_cons (ev_var rfl) ea_nil)) fun Q2 k2 => ⟨ch, M.costs, M.arrows, p, rfl, hca, hp, k2 _ _ ⟨rfl, rfl⟩⟩) fun v H' hv => ?_
    obtain ⟨_, rfl⟩ := hv
    -- wanted = extreme_worths(meter, sense)[place]
    refine pl_seq (pl_set (pl_op (ev_ext T hm ok hsen hno (ev_var rfl) (ev_var rfl) _ fun v H1 hv => ?_)))
    obtain ⟨pw, ws, rfl, s1, hpw, hE, hL⟩ := hv
    refine ev_var rfl _ ⟨pw, ws.map V.int, (p : Int), _, rfl, rfl, SqA.l hL, atI_nat (int_at (getD_at (by rw [hE.1]; exact hp))), ?_⟩
    have hg := hE.2 p hp
    generalize hz : ws.getD p 0 = z at hg
    refine pl_nx ?_
    refine sq_setR (Pc := fun v H' => ∃ p, v = .ref p ∧ Same H1 H' ∧ H1 p = none ∧ RowsL H' p ((List.range M.n).map (rowL sense M.E (firstRow sense M.first M.n)))) (ev_callR (ea_cons (ev_var rfl) (ea_cons (ev_var rfl) ea_nil)) (fun Q2 k2 => ⟨m, M, sense, rfl, hm.s s1, ok, hsen, fun H' p s hp hR => k2 _ _ ⟨p, rfl, s, hp, hR⟩⟩)) fun v H2 hv => ?_
    obtain ⟨rr, rfl, s2, hrr, hrows⟩ := hv
    obtain ⟨ps, hps, hEa⟩ := id hrows
    have hpl : ps.length = M.n := by rw [hEa.1, List.length_map, List.length_range]
    -- length = [..][0]
    refine pl_seq (pl_set (pl_op ?_))
    refine rd_lcFmR (n := M.n) (ea_cons ((ev_len (ev_var rfl) (SqA.l hps)).is (x := nv M.n) (by rw [List.length_map, hpl]; rfl)) ea_nil) (by omega)
      (fun k _ => (if (rowL sense M.E (firstRow sense M.first M.n) k).getD p none = some z then some (k : Int) else none).map V.int) (fun _ => rfl) (fun k H3 hk s3 => ?_) (fun k y H3 hk hy s3 => ?_) (fun D H3 hD s3 hDL => ?_)
    · have hrl : (rowL sense M.E (firstRow sense M.first M.n) k).length = M.n := (rowL_length ..).trans (firstRow_length hn1)
      have e1 : EvE (tOp (rIxA K) (tOp (rIxA K) (tVar 4) (tVar 8)) (tVar 1)) [some (.ref m), some (nv p), some (.int sense), some (.int z), some (.ref rr), none, none, none, some (nv k), none] H3 (optV ((rowL sense M.E (firstRow sense M.first M.n) k).getD p none)) :=
        rd_rows (hrows.s s3) (ev_var rfl) (ev_var rfl) (ev_var rfl) (by rw [List.getElem?_map, List.getElem?_range hk]; rfl) (by rw [hrl]; exact hp)
      cases hv : (rowL sense M.E (firstRow sense M.first M.n) k).getD p none with
      | none =>
        rw [hv] at e1
        exact ((et_test (ev_eq e1 (ev_var rfl) rfl)).is (by simp [optV])).s
      | some x =>
        rw [hv] at e1
        refine ((et_test (ev_eq e1 (ev_var rfl) rfl)).is ?_).s
        by_cases hxz : x = z
        · subst hxz
          simp [optV]
        · simp [optV, hxz]
    · skip
      by_cases hc : (rowL sense M.E (firstRow sense M.first M.n) k).getD p none = some z
      · rw [if_pos hc] at hy
        cases hy
        exact (ev_var rfl).s
      · rw [if_neg hc] at hy
        cases hy
    · rw [fmI_idx, List.length_map, List.length_range, ← List.range_eq_range'] at hDL
      have hmem : ∀ y ∈ (List.range M.n).filterMap (fun k => if (rowL sense M.E (firstRow sense M.first M.n) k).getD p none = some z then some (k : Int) else none), ∃ k : Nat, y = (k : Int) ∧ k < M.n ∧ (rowL sense M.E (firstRow sense M.first M.n) k).getD p none = some z := fun y hy => by
        obtain ⟨k, hk, e⟩ := List.mem_filterMap.mp hy
        by_cases hc : (rowL sense M.E (firstRow sense M.first M.n) k).getD p none = some z
        · rw [if_pos hc] at e
          exact ⟨k, (Option.some.inj e).symm, List.mem_range.mp hk, hc⟩
        · rw [if_neg hc] at e
          cases e
      have hne : (List.range M.n).filterMap (fun k => if (rowL sense M.E (firstRow sense M.first M.n) k).getD p none = some z then some (k : Int) else none) ≠ [] := fun e => by
        obtain ⟨k, hk, hc⟩ := hg.row ok hno hp
        have : (k : Int) ∈ (List.range M.n).filterMap (fun k => if (rowL sense M.E (firstRow sense M.first M.n) k).getD p none = some z then some (k : Int) else none) := List.mem_filterMap.mpr ⟨k, List.mem_range.mpr hk, by rw [if_pos hc]⟩
        rw [e] at this
        cases this
      obtain ⟨y, yr, hyy⟩ := List.exists_cons_of_ne_nil hne
      rw [hyy] at hDL hmem
      obtain ⟨k0, rfl, hk0, hc0⟩ := hmem y (List.mem_cons_self ..)
      refine ev_c _ ⟨D, _, 0, _, rfl, rfl, SqA.l hDL, atI_nat (j := 0) rfl, ?_⟩
      refine pl_nx ?_
      have s13 := (s1.trans s2).trans s3
      obtain ⟨ch2, hch2, hca2⟩ := rd_chart (H := H3) (σ := [some (.ref m), some (nv p), some (.int sense), some (.int z), some (.ref rr), some (nv k0), none, none, none, none]) (ta := tVar 0) T (hm.s s13) (ev_var rfl)
      obtain ⟨pc, hpc, hpct⟩ := rd_costs T hca2 hch2
      refine pl_seq (pl_set ?_)
      refine rd_lcFmR (n := M.n) (ea_cons ((ev_len hpc (SqA.t hpct)).is (x := nv M.n) (by rw [List.length_map]; rfl)) ea_nil) (by omega) (fun j _ => some (if (j : Int) = (p : Int) then V.int 0 else V.non)) (fun _ => rfl) (fun j H' _ _ => EtS.yes) (fun j y H' hj hy s => ?_) (fun l H4 hl s4 hL4 => ?_)
      · have e : (if (j : Int) = (p : Int) then V.int 0 else V.non) = y := Option.some.inj hy
        subst e
        refine (ev_if (b := decide (nv j = nv p)) (et_test (ev_eq (ev_var rfl) (ev_var rfl) rfl)) (fun hb => ?_) (fun hb => ?_)).s
        · have : (j : Int) = (p : Int) := V.int.inj (of_decide_eq_true hb)
          rw [if_pos this]
          exact ev_c
        · have : ¬ (j : Int) = (p : Int) := fun e => of_decide_eq_false hb (congrArg V.int e)
          rw [if_neg this]
          exact ev_c
      · have eL : fmI (fun j _ => some (if (j : Int) = (p : Int) then V.int 0 else V.non)) 0 ((List.range M.n).map fun (i : Nat) => V.int (i : Int)) = (lastRow M.n p).map optV := by
          rw [← lastRow_map]
          exact fmI_map (fun (j : Nat) => if (j : Int) = (p : Int) then V.int 0 else V.non) _ _ _ 0 (fun j x hj => by
            have hjn : j < M.n := by
              have := (List.getElem?_eq_some_iff.mp hj).1
              rwa [List.length_range] at this
            rw [List.getElem?_range hjn] at hj
            cases hj
            rw [Nat.zero_add])
        rw [eL] at hL4
        have hLR : RowL H4 l (lastRow M.n p) := hL4
        refine pl_nx ?_
        have s14 := s13.trans s4
        refine sq_setR (ev_callR (us := [.ref m, .ref l, nv 0, nv k0, .int sense]) (Pc := fun v H5 => ∃ rs, v = .ref rs ∧ Same H4 H5 ∧ H4 rs = none ∧ RowsL H5 rs ((List.range (k0 + 1)).map (rowR sense 0 M.E (lastRow M.n p)))) (ea_cons (ev_var rfl) (ea_cons (ev_var rfl) (ea_cons ev_c (ea_cons (ev_var rfl) (ea_cons (ev_var rfl) ea_nil)))))
          (fun Q' k' => ⟨m, l, M, lastRow M.n p, 0, k0, sense, rfl, hm.s s14, ok, hLR, lastRow_length _ _, by omega, hsen, fun H5 rs s hrs hf => k' _ _ ⟨rs, rfl, s, hrs, hf.here⟩⟩)) fun v H5 hv => ?_
        obtain ⟨rs, rfl, s5, hrs, hRs⟩ := hv
        have s15 := s14.trans s5
        obtain ⟨ks0, w0, hl0, hz0⟩ := (rowL_best (sense := sense) (first := M.first) hn1 ok.E_lt k0 p hp).at hc0
        obtain ⟨x0, hx0, hle0⟩ := (rowR_best (E := M.E) (sense := sense) (low := 0) (last := lastRow M.n p) (by rw [lastRow_length]; exact ok.E_lt) k0 0 (by rw [lastRow_length]; exact hn1)).le ⟨ks0, p, 0, w0, hl0, lastRow_self hp, fun _ _ => Nat.zero_le _, rfl⟩
        rw [Int.mul_add] at hz0
        refine pl_ret (pl_call ((ea_cons (ev_var rfl) (ea_cons (ev_var rfl) (ea_cons (ev_var rfl) (ea_cons (ev_mul (ev_var rfl) (rd_first T (hm.s s15) (ev_var rfl)) (.inl hsb)) (ea_cons (ev_var rfl) (ea_cons (ev_var rfl) ea_nil)))))) _ ?_))
        refine ⟨m, rs, M, lastRow M.n p, k0, sense * M.first, z, sense, x0, rfl, hm.s s15, ok, hRs, lastRow_length _ _, by omega, hsen, hx0, by omega, fun H6 qa ks v y s6 hqa hN hkl hw hv hle => ?_⟩
        obtain ⟨rfl, rfl⟩ := lastRow_at hv
        refine q H6 qa ks (s15.trans s6) (s15.free hqa) hN (by omega) hw fun ks' w' => ?_
        have := hg.2 ks' w'
        rw [Int.mul_add sense M.first (gn M.E ks)]
        omega
theorem ok_find_low_run (d : Df K mg "find_low_run" s_find_low_run ["meter", "place"]) (c_extreme_run : Cal P w K mg base 8 "extreme_run" ["meter", "place", "sense"] (sp_extreme_run A)) : Cal P w K mg base 9 "find_low_run" ["meter", "place"] (sp_find_low_run A) := by
  refine d.ok sc_find_low_run (fun vs H Q E h => ?_) (fun f cdv A' outer s H vs Q E hr h => ?_)
  · obtain ⟨m, M, p, rfl, _⟩ := h
    rfl
  · obtain ⟨m, M, p, rfl, h⟩ := h
    refine ⟨_, (pss_one (ps_ret (pe_cal c_extreme_run hr (by rfl) (pa_cons (pv 0) (pa_cons (pv 1) (pa_cons (pe_un un_negI pe_int) pa_nil)))))), ?_⟩
    exact pl_ret (pl_call ((ea_cons (ev_var rfl) (ea_cons (ev_var rfl) (ea_cons (ev_neg ev_c) ea_nil))) _ ⟨m, M, p, -1, rfl, .inr rfl, h⟩))
theorem ok_find_high_run (d : Df K mg "find_high_run" s_find_high_run ["meter", "place"]) (c_extreme_run : Cal P w K mg base 8 "extreme_run" ["meter", "place", "sense"] (sp_extreme_run A)) : Cal P w K mg base 9 "find_high_run" ["meter", "place"] (sp_find_high_run A) := by
  refine d.ok sc_find_high_run (fun vs H Q E h => ?_) (fun f cdv A' outer s H vs Q E hr h => ?_)
  · obtain ⟨m, M, p, rfl, _⟩ := h
    rfl
  · obtain ⟨m, M, p, rfl, h⟩ := h
    refine ⟨_, (pss_one (ps_ret (pe_cal c_extreme_run hr (by rfl) (pa_cons (pv 0) (pa_cons (pv 1) (pa_cons pe_int pa_nil)))))), ?_⟩
    exact pl_ret (pl_call ((ea_cons (ev_var rfl) (ea_cons (ev_var rfl) (ea_cons ev_c ea_nil))) _ ⟨m, M, p, 1, rfl, .inl rfl, h⟩))
end
end K15
namespace K15
open PySem PySem.Spec PyProof.Rows L2 RZ
/-! ### check_run, places_of, used_by, charged, lead_ahead, lead_behind; Meter, Short, Uneven -/
theorem rd_lcNat {K : PySem.W.Frag} {σ : L2.St} {H : Hp} {tl te : TE} {vs : List Nat} {Q : VK} {j : Nat} {ks : List Nat} {f : Nat → Int} {Pc : Hp → Prop} (h : EvR tl σ H (fun v H1 => ∃ a, v = .ref a ∧ SqA K H1 a (ks.map nv) ∧ Pc H1)) (hz : ks.length ≤ 1000) (hw : ∀ x, wipe ((wipe σ vs).set j (some x)) vs = wipe σ vs)
    (he : ∀ H1 H' k, Pc H1 → Same H1 H' → k ∈ ks → EvS te ((wipe σ vs).set j (some (nv k))) H' (.int (f k))) (hd : ∀ H1 D H', Pc H1 → Same H1 H' → H1 D = none → IL H' D (ks.map f) → Q (.ref D) H') : tLc (iSeq K tl) (gName j) tYes te vs σ H Q := by
  refine rd_lcFm h fun v H1 hv => ?_
  obtain ⟨a, rfl, hs, hp⟩ := hv
  refine ⟨a, ks.map nv, fun _ x => match x with | .int z => some (.int (f z.toNat)) | _ => none, rfl, hs, by rw [List.length_map]; exact hz, hw, fun k x H' hk _ => ?_, fun k x y H' hk hy s => ?_, fun D H' hD s hL => ?_⟩
  · rw [List.getElem?_map] at hk
    cases e : ks[k]? with
    | none => rw [e] at hk; cases hk
    | some z => rw [e] at hk; cases hk; exact EtS.yes
  · rw [List.getElem?_map] at hk
    cases e : ks[k]? with
    | none => rw [e] at hk; cases hk
    | some z =>
      rw [e] at hk
      cases hk
      have ey : V.int (f z) = y := Option.some.inj hy
      subst ey
      exact he H1 H' z hp s (List.mem_of_getElem? e)
  · have eL : fmI (fun _ x => match x with | .int z => some (V.int (f z.toNat)) | _ => none) 0 (ks.map nv) = (ks.map f).map V.int := by
      rw [List.map_map]
      exact fmI_map (fun k => V.int (f k)) _ nv ks 0 (fun k x _ => rfl)
    rw [eL] at hL
    exact hd H1 D H' hp s hD hL
/-! plain: what is charged and used on a walk -/
def chgs (M : Mt) (ks : List Nat) : Int := (ks.map fun k => M.charges.getD k 0).sum
def uses (M : Mt) (ps : List Nat) : Int := (ps.map fun p => M.costs.getD p 0).sum
theorem vs_eq {E : List Edge} (u : Nat) (ks : List Nat) : vs E u ks = u :: ks.map (eh E) := by
  induction ks generalizing u with
  | nil => rfl
  | cons k ks ih => show u :: vs E (eh E k) ks = _; rw [ih]; rfl
theorem Wk.behind {M : Mt} {u v : Nat} {ks : List Nat} (h : Wk M.E u ks v) : chgs M ks - uses M (vs M.E u ks) = gn M.E ks - M.costs.getD v 0 := by
  induction h with
  | nil u =>
    show (0 : Int) - (M.costs.getD u 0 + 0) = 0 - M.costs.getD u 0
    omega
  | @cons u h w k g ks e _ ih =>
    obtain ⟨e1, c, e2, rfl⟩ := Mt.E_inv e
    rw [gn_cons, eg_of e]
    have h1 : chgs M (k :: ks) = c + chgs M ks := by
      unfold chgs
      rw [List.map_cons, List.sum_cons, List.getD_eq_getElem?_getD, e2]
      rfl
    have h2 : uses M (vs M.E u (k :: ks)) = M.costs.getD u 0 + uses M (vs M.E h ks) := by
      show uses M (u :: vs M.E (eh M.E k) ks) = _
      rw [eh_of e]
      unfold uses
      rw [List.map_cons, List.sum_cons]
    omega
theorem Wk.end {E : List Edge} {u v : Nat} {ks : List Nat} {k : Nat} (h : Wk E u (ks ++ [k]) v) : ∃ t g, E[k]? = some (t, v, g) := by
  obtain ⟨x, _, h2⟩ := h.split
  cases h2 with
  | cons e h3 =>
    cases h3
    exact ⟨_, _, e⟩
theorem Wk.E_idx {M : Mt} (ok : M.Ok) {u v : Nat} {ks : List Nat} (h : Wk M.E u ks v) : ∀ k ∈ ks, k < M.arrows.length := fun k hk => by
  have := h.idx k hk
  rwa [Mt.E_len ok.len] at this
def sp_check_run (A : Ad) : Sp := fun vs H Q _ => ∃ (c r : Addr) (M : Mt) (ks : List Nat) (v : Nat), vs = [.ref c, .ref r] ∧ ChartAt A H c M.costs M.arrows ∧ M.Ok ∧ Sq H r (ks.map nv) ∧ ks.length ≤ 400 ∧ Wk M.E 0 ks v ∧ ∀ H' q, Same H H' → NT H' q ks → Q (.ref q) H'
def sp_places_of (A : Ad) : Sp := fun us H Q _ => ∃ (c r : Addr) (M : Mt) (ks : List Nat) (v : Nat), us = [.ref c, .ref r] ∧ ChartAt A H c M.costs M.arrows ∧ M.Ok ∧ Sq H r (ks.map nv) ∧ ks.length ≤ 400 ∧ Wk M.E 0 ks v ∧ ∀ H' q, Same H H' → NT H' q (vs M.E 0 ks) → Q (.ref q) H'
def sp_used_by (A : Ad) : Sp := fun us H Q _ => ∃ (c r : Addr) (M : Mt) (ks : List Nat) (v : Nat), us = [.ref c, .ref r] ∧ ChartAt A H c M.costs M.arrows ∧ M.Ok ∧ Sq H r (ks.map nv) ∧ ks.length ≤ 400 ∧ Wk M.E 0 ks v ∧ ∀ H', Same H H' → Q (.int (uses M (vs M.E 0 ks))) H'
def sp_lead (f : Mt → List Nat → Nat → Int) (A : Ad) : Sp := fun us H Q _ => ∃ (m r : Addr) (M : Mt) (ks : List Nat) (v : Nat), us = [.ref m, .ref r] ∧ MeterAt A H m M ∧ M.Ok ∧ Sq H r (ks.map nv) ∧ ks.length ≤ 400 ∧ Wk M.E 0 ks v ∧ ∀ H', Same H H' → Q (.int (f M ks v)) H'
def sp_Metercharged : Ad → Sp := sp_lead fun M ks v => M.first + chgs M ks
def sp_Meterlead_ahead : Ad → Sp := sp_lead fun M ks v => M.first + gn M.E ks
def sp_Meterlead_behind : Ad → Sp := sp_lead fun M ks v => M.first + gn M.E ks - M.costs.getD v 0
def sp_MeterInit (A : Ad) : Sp := fun us H Q _ => ∃ (x dx c g : Addr) (M : Mt), us = [.ref x, .ref c, .int M.first, .ref g] ∧ H x = some (.ins A.me dx []) ∧ ChartAt A H c M.costs M.arrows ∧ Sq H g (M.charges.map V.int) ∧ 0 ≤ M.first ∧ M.first ≤ 1000000000000 ∧ M.charges.length = M.arrows.length ∧
  M.arrows.length ≤ 32 ∧ (∀ z ∈ M.charges, 0 ≤ z ∧ z ≤ 1000000000000) ∧ ∀ H', (∀ b o, b ≠ x → H b = some o → H' b = some o) → MeterAt A H' x M → Q .non H'
def shF (pr : Addr) (by_ : Int) : List (Str × V) := [("run", .ref pr), ("by", .int by_)]
theorem shF_run (pr : Addr) (b : Int) : (shF pr b).lookup ("run" : Str) = some (.ref pr) := lk_here
theorem shF_by (pr : Addr) (b : Int) : (shF pr b).lookup ("by" : Str) = some (.int b) := (lk_past (by decide +kernel)).trans lk_here
def ShortAt (A : Ad) (H : Hp) (p : Addr) (run : List Nat) (by_ : Int) : Prop := ∃ dx pr, H p = some (.ins A.sh dx (shF pr by_)) ∧ NT H pr run
def unF (p : Nat) (a b : Addr) : List (Str × V) := [("place", nv p), ("one", .ref a), ("other", .ref b)]
theorem unF_place (p : Nat) (a b : Addr) : (unF p a b).lookup ("place" : Str) = some (nv p) := lk_here
theorem unF_one (p : Nat) (a b : Addr) : (unF p a b).lookup ("one" : Str) = some (.ref a) := (lk_past (by decide +kernel)).trans lk_here
theorem unF_other (p : Nat) (a b : Addr) : (unF p a b).lookup ("other" : Str) = some (.ref b) := (lk_past (by decide +kernel)).trans ((lk_past (by decide +kernel)).trans lk_here)
def UnevenAt (A : Ad) (H : Hp) (q : Addr) (p : Nat) (one other : List Nat) : Prop := ∃ dx a b, H q = some (.ins A.un dx (unF p a b)) ∧ NT H a one ∧ NT H b other
def sp_ShortInit (A : Ad) : Sp := fun vs H Q _ => ∃ (x r dx : Addr) (run : List Nat) (by_ : Int), vs = [.ref x, .ref r, .int by_] ∧ H x = some (.ins A.sh dx []) ∧ NT H r run ∧ ∀ H', (∀ b o, b ≠ x → H b = some o → H' b = some o) → ShortAt A H' x run by_ → Q .non H'
def sp_UnevenInit (A : Ad) : Sp := fun vs H Q _ => ∃ (x a b dx : Addr) (p : Nat) (one other : List Nat), vs = [.ref x, nv p, .ref a, .ref b] ∧ H x = some (.ins A.un dx []) ∧ NT H a one ∧ NT H b other ∧ ∀ H', (∀ b o, b ≠ x → H b = some o → H' b = some o) → UnevenAt A H' x p one other → Q .non H'
section
variable {K : PySem.W.Frag} {mg : Str → Option Value} {A : Ad} {σ : L2.St} {H : Hp} {ta tb tc : TE}
theorem ev_whole {i lo hi : Int} (ha : EvE ta σ H (.int i)) (hb : EvE tb σ H (.int lo)) (hc : EvE tc σ H (.int hi)) (h1 : lo ≤ i) (h2 : i ≤ hi) : EvE (tCall (sp_is_whole A) [] E0 (tCons ta (tCons tb (tCons tc tNil)))) σ H (.bl true) :=
  ev_call (ea_cons ha (ea_cons hb (ea_cons hc ea_nil))) fun Q q => ⟨_, _, _, rfl, by rw [decide_eq_true h1, decide_eq_true h2]; exact q⟩
theorem ev_rowR {a : Addr} {xs : List V} {lo hi : Int} (ha : EvE ta σ H (.ref a)) (hb : EvE tb σ H (.int lo)) (hc : EvE tc σ H (.int hi)) (hs : Sq H a xs) (h1 : lo ≤ (xs.length : Int)) (h2 : (xs.length : Int) ≤ hi) : EvR (tCall (sp_is_row A) [] E0 (tCons ta (tCons tb (tCons tc tNil)))) σ H (fun v H' => v = .bl true ∧ Same H H') :=
  ev_callR (ea_cons ha (ea_cons hb (ea_cons hc ea_nil))) fun Q q => ⟨a, xs, lo, hi, rfl, hs, fun H' s => by rw [decide_eq_true h1, decide_eq_true h2]; exact q _ _ ⟨rfl, s⟩⟩
/-- if not is_row(..): raise -/
theorem sq_rowOk {t1 t2 : TS} {D : Ends} {te : TE} (h : EvR te σ H (fun v H' => v = .bl true ∧ Same H H')) (k : ∀ H', Same H H' → t2 D σ H') : tSeq (tIfS (tNot (tB te)) t1 tNext) t2 D σ H := by
  refine pl_seq (pl_if (pl_not (pl_B (h _ fun v H' hv => ?_))))
  obtain ⟨rfl, s⟩ := hv
  refine ⟨true, rfl, ?_⟩
  show (if (!true) = true then _ else tNext _ σ H')
  rw [if_neg (by decide)]
  exact pl_next (k H' s)
theorem Sq.tup {r : Addr} {xs : List V} (hs : Sq H r xs) (h : EvE ta σ H (.ref r)) : EvR (tCB (rTupOf K) (tCons ta tNil)) σ H (fun v H' => ∃ q, v = .ref q ∧ Same H H' ∧ H' q = some (.tup xs)) := by
  rcases hs with e | e
  · refine (ev_tupL h e).mono fun v H' hv => ?_
    obtain ⟨l, rfl, hl, rfl⟩ := hv
    exact ⟨l, rfl, same_upd hl, upd_same⟩
  · refine (ev_tupT h e).r.mono fun v H' hv => ?_
    obtain ⟨rfl, rfl⟩ := hv
    exact ⟨r, rfl, Same.refl _, e⟩
end
section
variable {P : Program} {w : World} {K : PySem.W.Frag} {mg : Str → Option Value} {base : Heap} {A : Ad} (T : Txt K mg A)
include T
theorem ok_check_run (d : Df K mg "check_run" s_check_run ["chart", "run"]) (c_is_whole : Cal P w K mg base 1 "is_whole" ["thing", "low", "high"] (sp_is_whole A)) (c_is_row : Cal P w K mg base 1 "is_row" ["thing", "least", "most"] (sp_is_row A)) :
    Cal P w K mg base 2 "check_run" ["chart", "run"] (sp_check_run A) := by
  refine d.ok sc_check_run (fun vs H Q E h => ?_) (fun f cdv A' outer s H vs Q E hr h => ?_)
  · obtain ⟨c, r, M, ks, v, rfl, _⟩ := h
    rfl
  · obtain ⟨c, r, M, ks, v, rfl, hca, ok, hks, hlen, hwk, q⟩ := h
    have h32 := ok.ch.a32
    refine ⟨_, (pss_cons (ps_if (pt_not (pt_val (pe_cal c_is_row hr (by rfl) (pa_cons (pv 1) (pa_cons pe_int (pa_cons pe_int pa_nil)))))) (pss_one ps_never) pss_nil)
    (pss_cons (ps_set (i := 2) sc_check_run.nd rfl (.inl rfl) pe_int)
    (pss_cons (ps_for PassesOwn.never rfl (pi_enumA (by rfl) T.z_enumerate (pa_cons (pv 1) pa_nil)) (pg_tup rfl (pgs_cons (pg_name (i := 3) sc_check_run.nd rfl (.inl rfl)) (pgs_cons (pg_name (i := 4) sc_check_run.nd rfl (.inl rfl)) pgs_nil))) (pss_cons (ps_if (PW.pt (pw_or (pt_not (pt_val (pe_cal c_is_whole hr (by rfl) (pa_cons (pv 4) (pa_cons pe_int (pa_cons (pe_op op_subI (pe_callB cr_len (by rfl) T.z_len (by decide +kernel) (pa_cons (pe_fld (pv 0) rfl) pa_nil)) pe_int) pa_nil)))))) (pw_or1 (pt_cmpR op_ne (pe_ix ix_any (pe_ix ix_any (pe_fld (pv 0) rfl) (pv 4) (fun _ _ => rfl)) pe_int (fun _ _ => rfl)) (pv 2) (nomark _))))) (pss_one ps_never) pss_nil)
    (pss_one (ps_set (i := 2) sc_check_run.nd rfl (.inl rfl) (pe_ix ix_any (pe_ix ix_any (pe_fld (pv 0) rfl) (pv 4) (fun _ _ => rfl)) pe_int (fun _ _ => rfl))))))
    (pss_one (ps_ret (pe_callTy cr_tup (by rfl) T.z_tuple (by decide +kernel) (pa_cons (pv 1) pa_nil))))))), ?_⟩
    refine sq_rowOk (ev_rowR (ev_var rfl) ev_c ev_c hks (by omega) (by rw [List.length_map]; omega)) fun H1 s1 => ?_
    refine sq_set ev_c (pl_seq ?_)
    refine rd_forEnum (EaR.one (ev_var rfl).r) fun us H2 hu => ?_
    obtain ⟨_, rfl, rfl, rfl⟩ := hu
    refine ⟨r, ks.map nv, rfl, (hks.s s1).a, fun i σ' H' => ∃ (o3 o4 : Option V) (p : Nat), σ' = [some (.ref c), some (.ref r), some (nv p), o3, o4] ∧ Same H1 H' ∧ Wk M.E 0 (ks.take i) p, ⟨_, _, 0, rfl, Same.refl _, .nil _⟩, fun i σ' H' p => by obtain ⟨_, _, _, _, s, _⟩ := p; exact s.at, ?_, ?_⟩
    · rintro i x U σ' H' hi ⟨o3, o4, p, rfl, s2, hw⟩ hU
      have hil : i < ks.length := by
        have := (List.getElem?_eq_some_iff.mp hi).1
        rwa [List.length_map] at this
      have hk : ks[i]? = some ks[i] := List.getElem?_eq_getElem hil
      have ex : x = nv ks[i] := Option.some.inj (hi.symm.trans (nat_at hk))
      subst ex
      have hsplit : ks = ks.take i ++ ks[i] :: ks.drop (i + 1) := by
        rw [← List.drop_eq_getElem_cons hil, List.take_append_drop]
      have hwk' := hwk
      rw [hsplit] at hwk'
      obtain ⟨x, hwa, hwb⟩ := hwk'.split
      have hxp : x = p := hwa.det hw
      subst hxp
      cases hwb with
      | @cons _ hd _ _ g _ e _ =>
        obtain ⟨e1, cc, e2, e3⟩ := Mt.E_inv e
        have hkl := (List.getElem?_eq_some_iff.mp e1).1
        refine g_two upd_same ?_
        have s3 : Same H (upd H' U (.tup [.int (i : Int), nv ks[i]])) := s1.trans (s2.new hU)
        have s3' : Same H1 (upd H' U (.tup [.int (i : Int), nv ks[i]])) := s2.new hU
        have htk : ks.take (i + 1) = ks.take i ++ [ks[i]] := by rw [List.take_add_one, hk]; rfl
        generalize hH3 : upd H' U (.tup [.int (i : Int), nv ks[i]]) = H3 at s3 s3'
        have hc3 := hca.s s3
        obtain ⟨pa, ps, hpa, hpt, hpe⟩ := rd_arrows (H := H3) (σ := [some (.ref c), some (.ref r), some (nv x), some (.int (i : Int)), some (nv ks[i])]) (ta := tVar 0) T hc3 (ev_var rfl)
        refine sq_never ((et_or (b := false) (c := false) (et_not (et_B (ev_whole (ev_var rfl) ev_c (ev_sub (ev_len hpa (SqA.t hpt)) ev_c) (by omega) (by rw [List.length_map, hpe.1]; omega)))) fun _ => (et_test (ev_ne (rd_tail T hc3 (ev_var rfl) (ev_var rfl) e1) (ev_var rfl) rfl)).is (by simp [nv])).is rfl) ?_
        refine sx_set (rd_head T hc3 (ev_var rfl) (ev_var rfl) e1) ?_
        refine ⟨_, _, hd, rfl, s3', ?_⟩
        rw [htk]
        exact hw.snoc e
    · rintro σ' H' ⟨o3, o4, p, rfl, s2, hw⟩
      refine pl_nx (sx_retR ((hks.s (s1.trans s2)).tup (ev_var rfl)) fun v H3 hv => ?_)
      obtain ⟨l, rfl, s3, hl⟩ := hv
      exact q _ l ((s1.trans s2).trans s3) hl
theorem ev_check {σ : L2.St} {H : Hp} {ta tb : TE} {c r : Addr} {M : Mt} {ks : List Nat} {v : Nat} (hc : ChartAt A H c M.costs M.arrows) (ok : M.Ok) (hr : Sq H r (ks.map nv)) (hl : ks.length ≤ 400) (hw : Wk M.E 0 ks v) (ha : EvE ta σ H (.ref c)) (hb : EvE tb σ H (.ref r)) :
    EvR (tCall (sp_check_run A) [] E0 (tCons ta (tCons tb tNil))) σ H (fun v H' => ∃ q, v = .ref q ∧ Same H H' ∧ NT H' q ks) :=
  ev_callR (ea_cons ha (ea_cons hb ea_nil)) fun Q k => ⟨c, r, M, ks, v, rfl, hc, ok, hr, hl, hw, fun H' q s hN => k _ _ ⟨q, rfl, s, hN⟩⟩
theorem ok_places_of (d : Df K mg "places_of" s_places_of ["chart", "run"]) (c_check_run : Cal P w K mg base 2 "check_run" ["chart", "run"] (sp_check_run A)) : Cal P w K mg base 3 "places_of" ["chart", "run"] (sp_places_of A) := by
  refine d.ok sc_places_of (fun vs H Q E h => ?_) (fun f cdv A' outer s H vs Q E hr h => ?_)
  · obtain ⟨c, r, M, ks, v, rfl, _⟩ := h
    rfl
  · obtain ⟨c, r, M, ks, v, rfl, hca, ok, hks, hlen, hwk, q⟩ := h
    refine ⟨_, (pss_one (ps_ret (pe_op op_catA (pe_tup (pa_cons pe_int pa_nil)) (pe_callTy cr_tup (by rfl) T.z_tuple (by decide +kernel) (pa_cons (pe_lc (own := [("arrow", 2)]) (g := (gName 2)) (tt := tYes) (te := (tOp (rIxA K) (tOp (rIxA K) (tFld K (tVar 0) "arrows") (tVar 2)) (tC (.int 1)))) rfl sc_places_of.nd (pi_seq (pe_cal c_check_run hr (by rfl) (pa_cons (pv 0) (pa_cons (pv 1) pa_nil)))) (blkOk_by (N := ["chart", "run", "arrow"]) (own := [("arrow", 2)]) (sc := defScope s_places_of) (by decide +kernel)) (fun _ _ _ _ _ => (pg_name (i := 2) sc_places_of.nd rfl (.inl rfl))) (fun _ _ _ _ _ => pts_nil) (fun _ _ _ _ _ => (pe_ix ix_any (pe_ix ix_any (pe_fld (pv 0) rfl) (pv 2) (fun _ _ => rfl)) pe_int (fun _ _ => rfl)))) pa_nil))))), ?_⟩
    refine pl_ret (pl_op (pl_tup (pl_cons (ev_c _ ⟨by show 1 ≤ sizeLine; decide, fun p0 hp0 => ?_⟩))))
    have s0 : Same H (upd H p0 (.tup [nv 0])) := same_upd hp0
    have hp0t : NT (upd H p0 (.tup [nv 0])) p0 [0] := upd_same
    refine pl_cb1 ?_
    generalize hH0 : upd H p0 (.tup [nv 0]) = H0 at s0 hp0t
    have hH0' : upd H p0 (.tup [.int 0]) = H0 := hH0
    rw [hH0']
    refine rd_lcNat (ks := ks) (f := fun k => (eh M.E k : Int)) (Pc := fun H1 => Same H0 H1) ((ev_check T (hca.s s0) ok (hks.s s0) hlen hwk (ev_var rfl) (ev_var rfl)).mono fun v H1 hv => ?_) (by omega) (fun _ => rfl) (fun H1 H' k s1 s2 hk => ?_) (fun H1 D H' s1 s2 hD hL => ?_)
    · obtain ⟨l, rfl, s, hN⟩ := hv
      exact ⟨l, rfl, SqA.t hN, s⟩
    · obtain ⟨t, hd, cc, ha1, hc1, ht, hh, hE⟩ := ok.at (hwk.E_idx ok k hk)
      rw [eh_of hE]
      exact (rd_head T (hca.s (s0.trans (s1.trans s2))) (ev_var rfl) (ev_var rfl) ha1).s
    · have s3 := s1.trans s2
      refine ⟨D, _, rfl, .inl ⟨SqL.of hL, fun l hl => ?_⟩⟩
      have hp1 : (upd H' l (.tup ((ks.map fun k => (eh M.E k : Int)).map V.int))) p0 = some (.tup [nv 0]) := by
        rw [upd_ne (ne_of_none (s3 _ _ hp0t) hl)]
        exact s3 _ _ hp0t
      have sl : Same H (upd H' l (.tup ((ks.map fun k => (eh M.E k : Int)).map V.int))) := (s0.trans s3).new hl
      have hl1 : (upd H' l (.tup ((ks.map fun k => (eh M.E k : Int)).map V.int))) l = some (.tup ((ks.map (eh M.E)).map nv)) := by
        rw [upd_same, List.map_map, List.map_map]
        rfl
      generalize upd H' l (.tup ((ks.map fun k => (eh M.E k : Int)).map V.int)) = H5 at hp1 sl hl1
      refine ⟨p0, l, _, _, rfl, rfl, SqT.of hp1, SqT.of hl1, ?_, fun e => by simp at e, fun _ e => ?_, fun _ _ p hp => ?_⟩
      · rw [List.length_map, List.length_map]
        exact Nat.le_trans (show 1 + ks.length ≤ 1000 by omega) (by decide)
      · have : ks = [] := by
          cases ks with
          | nil => rfl
          | cons a b => simp at e
        subst this
        exact q _ p0 sl (by rw [vs_eq]; exact hp1)
      · refine q _ p (sl.new hp) ?_
        rw [vs_eq]
        exact upd_same
theorem ok_used_by (d : Df K mg "used_by" s_used_by ["chart", "run"]) (c_places_of : Cal P w K mg base 3 "places_of" ["chart", "run"] (sp_places_of A)) : Cal P w K mg base 4 "used_by" ["chart", "run"] (sp_used_by A) := by
  refine d.ok sc_used_by (fun vs H Q E h => ?_) (fun f cdv A' outer s H vs Q E hr h => ?_)
  · obtain ⟨c, r, M, ks, v, rfl, _⟩ := h
    rfl
  · obtain ⟨c, r, M, ks, v, rfl, hca, ok, hks, hlen, hwk, q⟩ := h
    refine ⟨_, (pss_one (ps_ret (pe_callB (cr_sum rfl) (by rfl) T.z_sum (by decide +kernel) (pa_cons (pe_lc (own := [("place", 2)]) (g := (gName 2)) (tt := tYes) (te := (tOp (rIxA K) (tFld K (tVar 0) "costs") (tVar 2))) rfl sc_used_by.nd (pi_seq (pe_cal c_places_of hr (by rfl) (pa_cons (pv 0) (pa_cons (pv 1) pa_nil)))) (blkOk_by (N := ["chart", "run", "place"]) (own := [("place", 2)]) (sc := defScope s_used_by) (by decide +kernel)) (fun _ _ _ _ _ => (pg_name (i := 2) sc_used_by.nd rfl (.inl rfl))) (fun _ _ _ _ _ => pts_nil) (fun _ _ _ _ _ => (pe_ix ix_any (pe_fld (pv 0) rfl) (pv 2) (fun _ _ => rfl)))) pa_nil)))), ?_⟩
    refine pl_ret (pl_cb1 ?_)
    refine rd_lcNat (ks := vs M.E 0 ks) (f := fun p => M.costs.getD p 0) (Pc := fun H1 => Same H H1) (ev_callR (ea_cons (ev_var rfl) (ea_cons (ev_var rfl) ea_nil)) fun Q2 k2 => ⟨c, r, M, ks, v, rfl, hca, ok, hks, hlen, hwk, fun H' qa s hN => k2 _ _ ⟨qa, rfl, SqA.t hN, s⟩⟩) (by rw [vs_length]; omega) (fun _ => rfl) (fun H1 H' p s1 s2 hk => ?_) (fun H1 D H' s1 s2 hD hL => ?_)
    · exact (rd_cost T (hca.s (s1.trans s2)) (ev_var rfl) (ev_var rfl) (hwk.vs_lt ok.E_lt ok.ch.n1 p hk)).s
    · exact ⟨D, _, rfl, SqL.of hL, q _ (s1.trans s2)⟩
theorem ok_Metercharged (d : DfM K A.me "charged" "Meter.charged" s_Metercharged ["self", "run"]) (c_check_run : Cal P w K mg base 2 "check_run" ["chart", "run"] (sp_check_run A)) : CalM P w K mg base 3 A.me "charged" ["self", "run"] (sp_Metercharged A) := by
  refine d.ok T.cl_me sc_Metercharged (fun vs H Q E h => ?_) (fun f cdv A' outer s H vs Q E hr h => ?_)
  · obtain ⟨m, r, M, ks, v, rfl, _⟩ := h
    rfl
  · obtain ⟨m, r, M, ks, v, rfl, hm, ok, hks, hlen, hwk, q⟩ := h
    refine ⟨_, (pss_one (ps_ret (pe_op op_addI (pe_fld (pv 0) rfl) (pe_callB (cr_sum rfl) (by rfl) T.z_sum (by decide +kernel) (pa_cons (pe_lc (own := [("arrow", 2)]) (g := (gName 2)) (tt := tYes) (te := (tOp (rIxA K) (tFld K (tVar 0) "charges") (tVar 2))) rfl sc_Metercharged.nd (pi_seq (pe_cal c_check_run hr (by rfl) (pa_cons (pe_fld (pv 0) rfl) (pa_cons (pv 1) pa_nil)))) (blkOk_by (N := ["self", "run", "arrow"]) (own := [("arrow", 2)]) (sc := defScope s_Metercharged) (by decide +kernel)) (fun _ _ _ _ _ => (pg_name (i := 2) sc_Metercharged.nd rfl (.inl rfl))) (fun _ _ _ _ _ => pts_nil) (fun _ _ _ _ _ => (pe_ix ix_any (pe_fld (pv 0) rfl) (pv 2) (fun _ _ => rfl)))) pa_nil))))), ?_⟩
    refine pl_ret (pl_op (rd_first T hm (ev_var rfl) _ (pl_cb1 ?_)))
    obtain ⟨ch, hch, hca⟩ := rd_chart (σ := L2.start ["self", "run", "arrow"] [.ref m, .ref r]) (ta := tVar 0) T hm (ev_var rfl)
    refine rd_lcNat (ks := ks) (f := fun k => M.charges.getD k 0) (Pc := fun H1 => Same H H1) ((ev_check T hca ok hks hlen hwk hch (ev_var rfl)).mono fun v H1 hv => ?_) (by omega) (fun _ => rfl) (fun H1 H' k s1 s2 hk => ?_) (fun H1 D H' s1 s2 hD hL => ?_)
    · obtain ⟨l, rfl, s, hN⟩ := hv
      exact ⟨l, rfl, SqA.t hN, s⟩
    · exact (rd_charge T (hm.s (s1.trans s2)) (ev_var rfl) (ev_var rfl) (getD_at (by rw [ok.len]; exact hwk.E_idx ok k hk))).s
    · exact ⟨D, _, rfl, SqL.of hL, ⟨_, _, rfl, rfl, q _ (s1.trans s2)⟩⟩
theorem ev_charged {σ : L2.St} {H : Hp} {ta tb : TE} {m r : Addr} {M : Mt} {ks : List Nat} {v : Nat} (hm : MeterAt A H m M) (ok : M.Ok) (hr : Sq H r (ks.map nv)) (hl : ks.length ≤ 400) (hw : Wk M.E 0 ks v) (ha : EvE ta σ H (.ref m)) (hb : EvE tb σ H (.ref r)) :
    EvR (tMeth A.me "charged" (sp_Metercharged A) [] E0 ta (tCons tb tNil)) σ H (fun u H' => u = .int (M.first + chgs M ks) ∧ Same H H') := by
  obtain ⟨dx, ch, pg, h1, h2⟩ := id hm
  exact ev_methR ha h1 (meF_no _ _ _ (by decide +kernel) (by decide +kernel) (by decide +kernel)) (ea_cons hb ea_nil) fun Q k => ⟨m, r, M, ks, v, rfl, hm, ok, hr, hl, hw, fun H' s => k _ _ ⟨rfl, s⟩⟩
theorem ev_used {σ : L2.St} {H : Hp} {ta tb : TE} {c r : Addr} {M : Mt} {ks : List Nat} {v : Nat} (hc : ChartAt A H c M.costs M.arrows) (ok : M.Ok) (hr : Sq H r (ks.map nv)) (hl : ks.length ≤ 400) (hw : Wk M.E 0 ks v) (ha : EvE ta σ H (.ref c)) (hb : EvE tb σ H (.ref r)) :
    EvR (tCall (sp_used_by A) [] E0 (tCons ta (tCons tb tNil))) σ H (fun u H' => u = .int (uses M (vs M.E 0 ks)) ∧ Same H H') :=
  ev_callR (ea_cons ha (ea_cons hb ea_nil)) fun Q k => ⟨c, r, M, ks, v, rfl, hc, ok, hr, hl, hw, fun H' s => k _ _ ⟨rfl, s⟩⟩
theorem ok_Meterlead_behind (d : DfM K A.me "lead_behind" "Meter.lead_behind" s_Meterlead_behind ["self", "run"]) (c_Metercharged : CalM P w K mg base 3 A.me "charged" ["self", "run"] (sp_Metercharged A)) (c_used_by : Cal P w K mg base 4 "used_by" ["chart", "run"] (sp_used_by A)) :
    CalM P w K mg base 5 A.me "lead_behind" ["self", "run"] (sp_Meterlead_behind A) := by
  refine d.ok T.cl_me sc_Meterlead_behind (fun vs H Q E h => ?_) (fun f cdv A' outer s H vs Q E hr h => ?_)
  · obtain ⟨m, r, M, ks, v, rfl, _⟩ := h
    rfl
  · obtain ⟨m, r, M, ks, v, rfl, hm, ok, hks, hlen, hwk, q⟩ := h
    refine ⟨_, (pss_one (ps_ret (pe_op op_subI (pe_mcal c_Metercharged hr (pv 0) (pa_cons (pv 1) pa_nil)) (pe_cal c_used_by hr (by rfl) (pa_cons (pe_fld (pv 0) rfl) (pa_cons (pv 1) pa_nil)))))), ?_⟩
    refine pl_ret (pl_op (ev_charged T hm ok hks hlen hwk (ev_var rfl) (ev_var rfl) _ fun v' H1 hv => ?_))
    obtain ⟨rfl, s1⟩ := hv
    obtain ⟨ch, hch, hca⟩ := rd_chart (σ := L2.start ["self", "run"] [.ref m, .ref r]) (ta := tVar 0) T (hm.s s1) (ev_var rfl)
    refine ev_used T hca ok (hks.s s1) hlen hwk hch (ev_var rfl) _ fun v' H2 hv => ?_
    obtain ⟨rfl, s2⟩ := hv
    refine ⟨_, _, rfl, rfl, ?_⟩
    have := hwk.behind
    show Q (.int (M.first + chgs M ks - uses M (vs M.E 0 ks))) H2
    rw [show M.first + chgs M ks - uses M (vs M.E 0 ks) = M.first + gn M.E ks - M.costs.getD v 0 by omega]
    exact q _ (s1.trans s2)
theorem ok_Meterlead_ahead (d : DfM K A.me "lead_ahead" "Meter.lead_ahead" s_Meterlead_ahead ["self", "run"]) (c_Metercharged : CalM P w K mg base 3 A.me "charged" ["self", "run"] (sp_Metercharged A)) (c_used_by : Cal P w K mg base 4 "used_by" ["chart", "run"] (sp_used_by A))
    (c_check_run : Cal P w K mg base 2 "check_run" ["chart", "run"] (sp_check_run A)) : CalM P w K mg base 5 A.me "lead_ahead" ["self", "run"] (sp_Meterlead_ahead A) := by
  refine d.ok T.cl_me sc_Meterlead_ahead (fun vs H Q E h => ?_) (fun f cdv A' outer s H vs Q E hr h => ?_)
  · obtain ⟨m, r, M, ks, v, rfl, _⟩ := h
    rfl
  · obtain ⟨m, r, M, ks, v, rfl, hm, ok, hks, hlen, hwk, q⟩ := h
    refine ⟨_, (pss_cons (ps_set (i := 2) sc_Meterlead_ahead.nd rfl (.inl rfl) (pe_cal c_check_run hr (by rfl) (pa_cons (pe_fld (pv 0) rfl) (pa_cons (pv 1) pa_nil))))
    (pss_cons (ps_set (i := 3) sc_Meterlead_ahead.nd rfl (.inl rfl) (pe_ifExp (pt_tru (pv 2) (by intro _; rfl)) (pe_ix ix_any (pe_ix ix_any (pe_fld (pe_fld (pv 0) rfl) rfl) (pe_ix ix_any (pv 2) (pe_un un_negI pe_int) (fun _ _ => rfl)) (fun _ _ => rfl)) pe_int (fun _ _ => rfl)) pe_int))
    (pss_one (ps_ret (pe_op op_addI (pe_op op_subI (pe_mcal c_Metercharged hr (pv 0) (pa_cons (pv 2) pa_nil)) (pe_cal c_used_by hr (by rfl) (pa_cons (pe_fld (pv 0) rfl) (pa_cons (pv 2) pa_nil)))) (pe_ix ix_any (pe_fld (pe_fld (pv 0) rfl) rfl) (pv 3) (fun _ _ => rfl))))))), ?_⟩
    obtain ⟨ch, hch, hca⟩ := rd_chart (σ := L2.start ["self", "run", "arrows", "last"] [.ref m, .ref r]) (ta := tVar 0) T hm (ev_var rfl)
    refine sq_setR (ev_check T hca ok hks hlen hwk hch (ev_var rfl)) fun v' H1 hv => ?_
    obtain ⟨ar, rfl, s1, hN⟩ := hv
    have hm1 := hm.s s1
    obtain ⟨ch1, hch1, hca1⟩ := rd_chart (σ := [some (.ref m), some (.ref r), some (.ref ar), none]) (ta := tVar 0) T hm1 (ev_var rfl)
    refine sq_set (v := nv v) (ev_if (b := !(ks.map nv).isEmpty) (et_tru (ev_var rfl) (tru_seq (SqA.t hN))) (fun hb => ?_) (fun hb => ?_)) ?_
    · have hne : ks ≠ [] := fun e => by rw [e] at hb; simp at hb
      obtain ⟨k, hkk⟩ : ∃ k, ks.getLast? = some k := ⟨ks.getLast hne, List.getLast?_eq_getLast hne⟩
      have hsp : ks = ks.dropLast ++ [ks.getLast hne] := (List.dropLast_concat_getLast hne).symm
      have hwk2 := hwk
      rw [hsp] at hwk2
      obtain ⟨t, g, hE⟩ := hwk2.end
      have hat : atI (ks.map nv) (-1) = some (nv (ks.getLast hne)) := by
        unfold atI ixN
        rw [if_neg (by decide), List.length_map]
        have h0 : 0 < ks.length := List.length_pos_iff.mpr hne
        rw [if_pos (by omega)]
        show (ks.map nv)[((-1 : Int) + (ks.length : Int)).toNat]? = _
        rw [show ((-1 : Int) + (ks.length : Int)).toNat = ks.length - 1 by omega, List.getElem?_map, List.getLast_eq_getElem, List.getElem?_eq_getElem (by omega)]
        rfl
      exact rd_head T hca1 hch1 (ev_ix (ev_var rfl) (ev_neg ev_c) (SqA.t hN) hat) (Mt.E_inv hE).1
    · have e : ks = [] := by
        cases ks with
        | nil => rfl
        | cons a b => simp at hb
      subst e
      cases hwk
      exact ev_c
    · refine pl_ret (pl_op (pl_op (ev_charged T hm1 ok (.inr hN) hlen hwk (ev_var rfl) (ev_var rfl) _ fun v' H2 hv => ?_)))
      obtain ⟨rfl, s2⟩ := hv
      have hm2 := hm1.s s2
      obtain ⟨ch2, hch2, hca2⟩ := rd_chart (σ := [some (.ref m), some (.ref r), some (.ref ar), some (nv v)]) (ta := tVar 0) T hm2 (ev_var rfl)
      refine ev_used T hca2 ok (.inr (hN.kf s2.kf)) hlen hwk hch2 (ev_var rfl) _ fun v' H3 hv => ?_
      obtain ⟨rfl, s3⟩ := hv
      have hm3 := hm2.s s3
      obtain ⟨ch3, hch3, hca3⟩ := rd_chart (σ := [some (.ref m), some (.ref r), some (.ref ar), some (nv v)]) (ta := tVar 0) T hm3 (ev_var rfl)
      refine ⟨_, _, rfl, rfl, rd_cost T hca3 hch3 (ev_var rfl) (hwk.lt ok.E_lt ok.ch.n1) _ ⟨_, _, rfl, rfl, ?_⟩⟩
      have := hwk.behind
      show Q (.int (M.first + chgs M ks - uses M (vs M.E 0 ks) + M.costs.getD v 0)) H3
      rw [show M.first + chgs M ks - uses M (vs M.E 0 ks) + M.costs.getD v 0 = M.first + gn M.E ks by omega]
      exact q _ ((s1.trans s2).trans s3)
theorem ok_MeterInit (d : DfC K A.me "Meter.__init__" s_MeterInit ["self", "chart", "first", "charges"]) (c_is_whole : Cal P w K mg base 1 "is_whole" ["thing", "low", "high"] (sp_is_whole A)) (c_is_row : Cal P w K mg base 1 "is_row" ["thing", "least", "most"] (sp_is_row A)) :
    CalC P w K mg base 2 "Meter" A.me ["self", "chart", "first", "charges"] (sp_MeterInit A) := by
  refine d.ok T.g_me sc_MeterInit (fun vs H Q E h => ?_) (fun f cdv A' outer s H vs Q E hr h => ?_)
  · obtain ⟨x, dx, c, g, M, rfl, _⟩ := h
    rfl
  · obtain ⟨x, dx, c, g, M, rfl, hx, hca, hg, h0, h12, hlen, h32, hch, q⟩ := h
    refine ⟨_, (pss_cons (ps_if (pt_not (pt_val (pe_cal c_is_whole hr (by rfl) (pa_cons (pv 2) (pa_cons pe_int (pa_cons (pe_glob (v := .int 1000000000000) (by rfl) T.gMost ⟨_, rfl⟩) pa_nil)))))) (pss_one ps_never) pss_nil)
    (pss_cons (ps_if (pt_not (pt_val (pe_cal c_is_row hr (by rfl) (pa_cons (pv 3) (pa_cons (pe_callB cr_len (by rfl) T.z_len (by decide +kernel) (pa_cons (pe_fld (pv 1) rfl) pa_nil)) (pa_cons (pe_callB cr_len (by rfl) T.z_len (by decide +kernel) (pa_cons (pe_fld (pv 1) rfl) pa_nil)) pa_nil)))))) (pss_one ps_never) pss_nil)
    (pss_cons (ps_for PassesOwn.never rfl (pi_enumA (by rfl) T.z_enumerate (pa_cons (pv 3) pa_nil)) (pg_tup rfl (pgs_cons (pg_name (i := 4) sc_MeterInit.nd rfl (.inl rfl)) (pgs_cons (pg_name (i := 5) sc_MeterInit.nd rfl (.inl rfl)) pgs_nil))) (pss_one (ps_if (pt_not (pt_val (pe_cal c_is_whole hr (by rfl) (pa_cons (pv 5) (pa_cons pe_int (pa_cons (pe_glob (v := .int 1000000000000) (by rfl) T.gMost ⟨_, rfl⟩) pa_nil)))))) (pss_one ps_never) pss_nil)))
    (pss_cons (ps_fld (pv 0) (pv 1) rfl)
    (pss_cons (ps_fld (pv 0) (pv 2) rfl)
    (pss_one (ps_fld (pv 0) (pe_callTy cr_tup (by rfl) T.z_tuple (by decide +kernel) (pa_cons (pv 3) pa_nil)) rfl))))))), ?_⟩
    refine sq_never (et_not (et_B (ev_whole (ev_var rfl) ev_c ev_c h0 h12))) ?_
    obtain ⟨pa, ps, hpa, hpt, hpe⟩ := rd_arrows (σ := L2.start ["self", "chart", "first", "charges", "arrow", "charge"] [.ref x, .ref c, .int M.first, .ref g]) (ta := tVar 1) T hca (ev_var rfl)
    have hlv : EvE (tCB (rLenA K) (tCons (tFld K (tVar 1) "arrows") tNil)) (L2.start ["self", "chart", "first", "charges", "arrow", "charge"] [.ref x, .ref c, .int M.first, .ref g]) H (nv M.arrows.length) := (ev_len hpa (SqA.t hpt)).is (by rw [List.length_map, hpe.1]; rfl)
    refine sq_rowOk (ev_rowR (ev_var rfl) hlv hlv hg (by rw [List.length_map, hlen]; exact Int.le_refl _) (by rw [List.length_map, hlen]; exact Int.le_refl _)) fun H1 s1 => ?_
    refine pl_seq ?_
    refine rd_forEnum (EaR.one (ev_var rfl).r) fun us H2 hu => ?_
    obtain ⟨_, rfl, rfl, rfl⟩ := hu
    refine ⟨g, M.charges.map V.int, rfl, (hg.s s1).a, fun i σ' H' => ∃ (o4 o5 : Option V), σ' = [some (.ref x), some (.ref c), some (.int M.first), some (.ref g), o4, o5] ∧ Same H1 H', ⟨_, _, rfl, Same.refl _⟩, fun i σ' H' p => by obtain ⟨_, _, _, s⟩ := p; exact s.at, ?_, ?_⟩
    · rintro i x2 U σ' H' hi ⟨o4, o5, rfl, s2⟩ hU
      rw [List.getElem?_map] at hi
      cases e : M.charges[i]? with
      | none => rw [e] at hi; cases hi
      | some z =>
        rw [e] at hi
        cases hi
        obtain ⟨hz0, hz1⟩ := hch z (List.mem_of_getElem? e)
        refine g_two upd_same (sx_no (et_not (et_B (ev_whole (ev_var rfl) ev_c ev_c hz0 hz1))) ?_)
        exact ⟨_, _, rfl, s2.new hU⟩
    · rintro σ' H' ⟨o4, o5, rfl, s2⟩
      have s3 := s1.trans s2
      have hx3 := s3 _ _ hx
      have hca3 := hca.s s3
      have hg3 := hg.s s3
      refine pl_nx ?_
      refine sq_fld (ev_var rfl) (ev_var rfl) hx3 T.cl_me T.n_me_chart (by show 0 < 1000; decide) ?_
      refine sq_fld (ev_var rfl) (ev_var rfl) upd_same T.cl_me T.n_me_first (by show 1 < 1000; decide) ?_
      have hgx : ∀ xs, H' g = some (.lst xs) ∨ H' g = some (.tup xs) → g ≠ x := fun xs h e => by
        rw [e, hx3] at h
        rcases h with h | h <;> cases h
      have hne : g ≠ x := hgx _ hg3
      have hput : putF "first" (.int M.first) (putF "chart" (.ref c) []) = [(("chart" : Str), V.ref c), (("first" : Str), V.int M.first)] := (put_past (by decide +kernel)).trans rfl
      have hg4 : Sq (upd (upd H' x (.ins A.me dx (putF "chart" (.ref c) []))) x (.ins A.me dx (putF "first" (.int M.first) (putF "chart" (.ref c) [])))) g (M.charges.map V.int) := by
        rcases hg3 with e | e
        · exact .inl (by rw [upd_ne hne, upd_ne hne]; exact e)
        · exact .inr (by rw [upd_ne hne, upd_ne hne]; exact e)
      refine hg4.tup (ev_var rfl) _ fun v H4 hv => ?_
      obtain ⟨l, rfl, s4, hl⟩ := hv
      have hx4 : H4 x = some (.ins A.me dx [("chart", .ref c), ("first", .int M.first)]) := by
        rw [← hput]
        exact s4 _ _ upd_same
      refine ev_var rfl _ ⟨x, A.me, dx, _, rfl, hx4, T.cl_me, T.n_me_charges, by show 2 < 1000; decide, ?_⟩
      have hlx : l ≠ x := ne_of hl hx4 (by intro e; cases e)
      have key : ∀ b o, b ≠ x → H b = some o → (upd H4 x (.ins A.me dx (putF "charges" (.ref l) [("chart", .ref c), ("first", .int M.first)]))) b = some o := fun b o hb e => by
        rw [upd_ne hb]
        exact s4 _ _ (by rw [upd_ne hb, upd_ne hb]; exact s3 _ _ e)
      refine q _ key ⟨dx, c, l, ?_, ?_, ?_⟩
      · rw [upd_same]
        exact congrArg (fun z => some (HO.ins A.me dx z)) ((put_past (by decide +kernel)).trans (congrArg (List.cons _) ((put_past (by decide +kernel)).trans rfl)))
      · obtain ⟨dxc, pc, pa, h1, h2, ps, h3, h4⟩ := hca
        have hn : ∀ {b o}, H b = some o → o ≠ .ins A.me dx [] → b ≠ x := fun e ho e2 => ho (by rw [e2, hx] at e; exact (Option.some.inj e).symm)
        refine ⟨dxc, pc, pa, key _ _ (hn h1 (fun e => List.cons_ne_nil _ _ (HO.ins.inj e).2.2)) h1, key _ _ (hn h2 (fun e => by cases e)) h2, ps, key _ _ (hn h3 (fun e => by cases e)) h3, h4.mono fun p y e => key _ _ (hn e (fun e => by cases e)) e⟩
      · show (upd H4 x _) l = _
        rw [upd_ne hlx]
        exact hl
theorem ok_ShortInit (d : DfC K A.sh "Short.__init__" s_ShortInit ["self", "run", "by"]) : CalC P w K mg base 1 "Short" A.sh ["self", "run", "by"] (sp_ShortInit A) := by
  refine d.ok T.g_sh sc_ShortInit (fun vs H Q E h => ?_) (fun f cdv A' outer s H vs Q E hr h => ?_)
  · obtain ⟨x, r, dx, ring, by_, rfl, _⟩ := h
    rfl
  · obtain ⟨x, r, dx, ring, by_, rfl, hx, hR, q⟩ := h
    refine ⟨_, (pss_cons (ps_fld (pv 0) (pe_callTy cr_tup (by rfl) T.z_tuple (by decide +kernel) (pa_cons (pv 1) pa_nil)) rfl)
    (pss_one (ps_fld (pv 0) (pv 2) rfl))), ?_⟩
    refine sq_fld (ev_tupT (ev_var rfl) hR) (ev_var rfl) hx T.cl_sh T.n_sh_run (by show 0 < 1000; decide) ?_
    refine sx_fld (ev_var rfl) (ev_var rfl) upd_same T.cl_sh T.n_sh_by (by show 1 < 1000; decide) ?_
    have hrx : r ≠ x := ne_of hR hx (by intro e; cases e)
    refine q _ (fun b o hb e => by rw [upd_ne hb, upd_ne hb]; exact e) ⟨dx, r, ?_, ?_⟩
    · rw [upd_same]
      exact congrArg (fun z => some (HO.ins A.sh dx z)) ((put_past (by decide +kernel)).trans rfl)
    · show (upd (upd H x _) x _) r = _
      rw [upd_ne hrx, upd_ne hrx]
      exact hR
theorem ok_UnevenInit (d : DfC K A.un "Uneven.__init__" s_UnevenInit ["self", "place", "one", "other"]) : CalC P w K mg base 1 "Uneven" A.un ["self", "place", "one", "other"] (sp_UnevenInit A) := by
  refine d.ok T.g_un sc_UnevenInit (fun vs H Q E h => ?_) (fun f cdv A' outer s H vs Q E hr h => ?_)
  · obtain ⟨x, a, b, dx, p, one, other, rfl, _⟩ := h
    rfl
  · obtain ⟨x, a, b, dx, p, one, other, rfl, hx, h1, h2, q⟩ := h
    refine ⟨_, (pss_cons (ps_fld (pv 0) (pv 1) rfl)
    (pss_cons (ps_fld (pv 0) (pe_callTy cr_tup (by rfl) T.z_tuple (by decide +kernel) (pa_cons (pv 2) pa_nil)) rfl)
    (pss_one (ps_fld (pv 0) (pe_callTy cr_tup (by rfl) T.z_tuple (by decide +kernel) (pa_cons (pv 3) pa_nil)) rfl)))), ?_⟩
    have hax : a ≠ x := ne_of h1 hx (by intro e; cases e)
    have hbx : b ≠ x := ne_of h2 hx (by intro e; cases e)
    refine sq_fld (ev_var rfl) (ev_var rfl) hx T.cl_un T.n_un_place (by show 0 < 1000; decide) ?_
    refine sq_fld (ev_tupT (ev_var rfl) (xs := one.map nv) (by rw [upd_ne hax]; exact h1)) (ev_var rfl) upd_same T.cl_un T.n_un_one (by show 1 < 1000; decide) ?_
    have hp2 : putF "one" (.ref a) (putF "place" (nv p) []) = [(("place" : Str), nv p), (("one" : Str), V.ref a)] := (put_past (by decide +kernel)).trans rfl
    refine sx_fld (fs := [(("place" : Str), nv p), (("one" : Str), V.ref a)]) (dx := dx) (C := A.un) (ev_tupT (ev_var rfl) (xs := other.map nv) (by rw [upd_ne hbx, upd_ne hbx]; exact h2)) (ev_var rfl) (by rw [upd_same, hp2]) T.cl_un T.n_un_other (by show 2 < 1000; decide) ?_
    refine q _ (fun b o hb e => by rw [upd_ne hb, upd_ne hb, upd_ne hb]; exact e) ⟨dx, a, b, ?_, ?_, ?_⟩
    · rw [upd_same]
      exact congrArg (fun z => some (HO.ins A.un dx z)) ((put_past (by decide +kernel)).trans (congrArg (List.cons _) ((put_past (by decide +kernel)).trans rfl)))
    · show (upd (upd (upd H x _) x _) x _) a = _
      rw [upd_ne hax, upd_ne hax, upd_ne hax]
      exact h1
    · show (upd (upd (upd H x _) x _) x _) b = _
      rw [upd_ne hbx, upd_ne hbx, upd_ne hbx]
      exact h2
end
end K15
namespace K15
open PySem PySem.Spec PyProof.Rows L2 RZ
/-! ### find_short, least_first -/
section
variable {K : PySem.W.Frag} {σ : L2.St} {H : Hp} {ta tb te : TE} {c : TT} {tg : TA} {t1 : TS} {D : Ends} {vs : List Nat} {Q : VK}
/-- while, a measure beside the word -/
theorem rd_while (Pv : Nat → L2.St → Hp → Prop) (h0 : ∃ m, Pv m σ H)
    (hs : ∀ m σ H, Pv m σ H → ∃ b, EtE c σ H b ∧ (b = true → t1 { D with nx := fun σ' H' => ∃ m', m' < m ∧ Pv m' σ' H', ct := fun σ' H' => ∃ m', m' < m ∧ Pv m' σ' H', bk := D.nx } σ H) ∧ (b = false → D.nx σ H)) : tWhile c t1 D σ H := by
  refine ⟨Pv, h0, fun m σ H p => ?_⟩
  obtain ⟨b, hb, h1, h2⟩ := hs m σ H p
  refine hb _ ?_
  cases b with
  | true => rw [if_pos rfl]; exact ⟨_, fun σ' H' q => q, h1 rfl⟩
  | false => rw [if_neg Bool.false_ne_true]; exact h2 rfl
theorem inV_nat (h : Nat) : ∀ f : List Nat, inV (nv h) (f.map nv) = decide (h ∈ f)
  | [] => rfl
  | x :: f => by
    have ih := inV_nat h f
    unfold inV at ih ⊢
    rw [List.map_cons, List.any_cons, ih]
    have e : eqV (nv x) (nv h) = decide (h = x) := by
      by_cases e : h = x
      · subst e
        simp [eqV, nv]
      · have : ¬ (x : Int) = (h : Int) := by omega
        simp [eqV, nv, e, this]
    rw [e, ← Bool.decide_or]
    simp only [List.mem_cons]
theorem flat_nats (f : List Nat) : (f.map nv).all flatV = true := by
  rw [List.all_eq_true]
  intro x hx
  obtain ⟨y, _, rfl⟩ := List.mem_map.mp hx
  rfl
theorem ev_in {a : Addr} {h : Nat} {f : List Nat} (ha : EvE ta σ H (nv h)) (hb : EvE tb σ H (.ref a)) (hs : SqA K H a (f.map nv)) : EvE (tOp (rIn K false) ta tb) σ H (.bl (decide (h ∈ f))) := ev_op ha hb fun Q q => ⟨a, _, rfl, hs, rfl, flat_nats f, by rw [if_neg Bool.false_ne_true, inV_nat]; exact q⟩
theorem ev_notin {a : Addr} {h : Nat} {f : List Nat} (ha : EvE ta σ H (nv h)) (hb : EvE tb σ H (.ref a)) (hs : SqA K H a (f.map nv)) : EvE (tOp (rIn K true) ta tb) σ H (.bl (!decide (h ∈ f))) := ev_op ha hb fun Q q => ⟨a, _, rfl, hs, rfl, flat_nats f, by rw [if_pos rfl, inV_nat]; exact q⟩
/-- [e for x, y in zip(a, b)] -/
theorem rd_lcZip {i j : Nat} {Pc : List V → Hp → Prop} (h : EaR tg σ H Pc) (k : ∀ us H1, Pc us H1 → ∃ (a b : Addr) (xs ys : List V) (f : Nat → V), us = [.ref a, .ref b] ∧ xs.length = ys.length ∧ xs.length ≤ 1000 ∧ ((H1 a = some (.lst xs) ∧ H1 b = some (.lst ys)) ∨ (H1 a = some (.tup xs) ∧ H1 b = some (.tup ys))) ∧
    (∀ x y, wipe (((wipe σ vs).set i (some x)).set j (some y)) vs = wipe σ vs) ∧ (∀ n x y H', xs[n]? = some x → ys[n]? = some y → Same H1 H' → EvS te (((wipe σ vs).set i (some x)).set j (some y)) H' (f n)) ∧
    ∀ D H', H1 D = none → Same H1 H' → H' D = some (.lst ((List.range xs.length).map f)) → Q (.ref D) H') : tLc (iZipA K tg) (gTup K 2 (gCons (gName i) (gCons (gName j) gNil))) tYes te vs σ H Q := by
  refine h _ fun us H1 p => ?_
  obtain ⟨a, b, xs, ys, f, rfl, hlen, hz, hab, hw, he, hd⟩ := k us H1 p
  have hx : (SqL K H1 a xs ∧ SqL K H1 b ys) ∨ (SqT K H1 a xs ∧ SqT K H1 b ys) := hab.elim (fun h => .inl ⟨SqL.of h.1, SqL.of h.2⟩) fun h => .inr ⟨SqT.of h.1, SqT.of h.2⟩
  refine ⟨a, b, xs, ys, rfl, lc_zip (Q := Q) hlen hx (fun D n H' => Same H1 H' ∧ H' D = some (.lst ((List.range n).map f))) (fun D hD => ⟨same_upd hD, upd_same⟩) (fun D n H' _ p => ⟨p.1.at, p.1.at⟩) (fun D n x y U H' hD hxn hyn p hU => ?_) fun D H' hD p => hd D H' hD p.1 p.2⟩
  have s2 : Same H1 (upd H' U (.tup [x, y])) := p.1.new hU
  have hDU : D ≠ U := ne_of_none p.2 hU
  refine g_two upd_same ⟨hw x y, ?_⟩
  unfold tYes
  dsimp only
  rw [if_pos rfl]
  refine he n x y _ hxn hyn s2 _ fun H4 s4 => ⟨_, s4 _ _ (by rw [upd_ne hDU]; exact p.2), ?_, (s2.trans s4).mut hD, ?_⟩
  · rw [List.length_map, List.length_range]
    have := (List.getElem?_eq_some_iff.mp hxn).1
    exact Nat.lt_of_lt_of_le (show n < 1000 by omega) (by decide)
  · rw [upd_same, List.range_succ, List.map_append]
    rfl
theorem ev_andV {a b : Bool} (ha : EvE ta σ H (.bl a)) (hb : a = true → EvE tb σ H (.bl b)) : EvE (tAndV ta tb) σ H (.bl (a && b)) := fun Q q => ha _ ⟨a, rfl, by
  cases a with
  | true => rw [if_pos rfl]; exact hb rfl _ q
  | false => rw [if_neg Bool.false_ne_true]; exact q⟩
theorem ev_orV {a b : Bool} (ha : EvE ta σ H (.bl a)) (hb : a = false → EvE tb σ H (.bl b)) : EvE (tOrV ta tb) σ H (.bl (a || b)) := fun Q q => ha _ ⟨a, rfl, by
  cases a with
  | true => rw [if_pos rfl]; exact q
  | false => rw [if_neg Bool.false_ne_true]; exact hb rfl _ q⟩
theorem ev_notV {a : Bool} (ha : EvE ta σ H (.bl a)) : EvE (tNotV ta) σ H (.bl (!a)) := fun Q q => ha _ ⟨a, rfl, q⟩
end
/-- lead_rows' row k tells a place whose cost is not covered -/
def shortB (row : List (Option Int)) (costs : List Int) (p : Nat) : Bool := match row.getD p none with
  | none => false
  | some x => decide (0 < x + costs.getD p 0)
theorem shortB_iff {row : List (Option Int)} {costs : List Int} {p : Nat} : shortB row costs p = true ↔ ∃ x, row.getD p none = some x ∧ 0 < x + costs.getD p 0 := by
  unfold shortB
  cases row.getD p none with
  | none => simp
  | some x => simp
def Covers (M : Mt) : Prop := ∀ ks v, Wk M.E 0 ks v → M.costs.getD v 0 ≤ M.first + gn M.E ks
def sp_find_short (A : Ad) : Sp := fun vs H Q _ => ∃ (m : Addr) (M : Mt), vs = [.ref m] ∧ MeterAt A H m M ∧ M.Ok ∧ (∀ H' p, Same H H' → H p = none → DriftRes A M [-1] H' p → Q (.ref p) H') ∧
  (NoDrift M [-1] → (∀ H' p ks v, Same H H' → H p = none → Wk M.E 0 ks v → 0 < M.costs.getD v 0 - (M.first + gn M.E ks) → ks.length ≤ 400 → ShortAt A H' p ks (M.costs.getD v 0 - (M.first + gn M.E ks)) → Q (.ref p) H') ∧ (Covers M → ∀ H', Same H H' → Q .non H'))
def IsSpare (M : Mt) (ls : List Int) (x : Int) : Prop := (∃ p, p < M.n ∧ x = ls.getD p 0 - M.costs.getD p 0) ∧ ∀ p, p < M.n → x ≤ ls.getD p 0 - M.costs.getD p 0
def sp_least_first (A : Ad) : Sp := fun vs H Q _ => ∃ (m : Addr) (M : Mt), vs = [.ref m] ∧ MeterAt A H m M ∧ M.Ok ∧ NoDrift M [-1] ∧ ∀ H' ls x, Same H H' → IsRow M (-1) ls → IsSpare M ls x → Q (.int (M.first - x)) H'
section
variable {P : Program} {w : World} {K : PySem.W.Frag} {mg : Str → Option Value} {base : Heap} {A : Ad} (T : Txt K mg A)
include T
theorem ok_least_first (d : Df K mg "least_first" s_least_first ["meter"]) (c_find_fall : Cal P w K mg base 6 "find_fall" ["meter"] (sp_find_fall A)) (c_low_leads : Cal P w K mg base 8 "low_leads" ["meter"] (sp_low_leads A)) :
    Cal P w K mg base 9 "least_first" ["meter"] (sp_least_first A) := by
  refine d.ok sc_least_first (fun vs H Q E h => ?_) (fun f cdv A' outer s H vs Q E hr h => ?_)
  · obtain ⟨m, M, rfl, _⟩ := h
    rfl
  · obtain ⟨m, M, rfl, hm, ok, hno, q⟩ := h
    have hn16 : M.n ≤ 16 := ok.ch.n16
    have hn1 : 1 ≤ M.n := ok.ch.n1
    refine ⟨_, (pss_cons (ps_set (i := 1) sc_least_first.nd rfl (.inl rfl) (pe_cal c_find_fall hr (by rfl) (pa_cons (pv 0) pa_nil)))
    (pss_cons (ps_if (pt_cmpR op_notNI (pv 1) pe_non (nomark _)) (pss_one ps_never) pss_nil)
    (pss_cons (ps_set (i := 2) sc_least_first.nd rfl (.inl rfl) (pe_callB (cr_min rfl) (by rfl) T.z_min (by decide +kernel) (pa_cons (pe_lc (own := [("low", 3), ("cost", 4)]) (g := (gTup K 2 (gCons (gName 3) (gCons (gName 4) gNil)))) (tt := tYes) (te := (tOp rSubI (tVar 3) (tVar 4))) rfl sc_least_first.nd (pi_zipA (by rfl) T.z_zip (pa_cons (pe_cal c_low_leads hr (by rfl) (pa_cons (pv 0) pa_nil)) (pa_cons (pe_fld (pe_fld (pv 0) rfl) rfl) pa_nil))) (blkOk_by (N := ["meter", "fall", "spare", "low", "cost"]) (own := [("low", 3), ("cost", 4)]) (sc := defScope s_least_first) (by decide +kernel)) (fun _ _ _ _ _ => (pg_tup rfl (pgs_cons (pg_name (i := 3) sc_least_first.nd rfl (.inl rfl)) (pgs_cons (pg_name (i := 4) sc_least_first.nd rfl (.inl rfl)) pgs_nil)))) (fun _ _ _ _ _ => pts_nil) (fun _ _ _ _ _ => (pe_op op_subI (pv 3) (pv 4)))) pa_nil)))
    (pss_one (ps_ret (pe_op op_subI (pe_fld (pv 0) rfl) (pv 2))))))), ?_⟩
    refine sq_setR (Pc := fun v H' => v = .non ∧ Same H H') (ev_callR (ea_cons (ev_var rfl) ea_nil) (fun Q2 k2 => ⟨m, M, rfl, hm, ok, fun _ H' s => k2 _ _ ⟨rfl, s⟩, fun H' p s hp hD => (hD.no hno).elim⟩)) fun v H1 hv => ?_
    obtain ⟨rfl, s1⟩ := hv
    refine sq_never (et_test (ev_notN0 (ev_var rfl))) ?_
    have hm1 := hm.s s1
    refine pl_seq (pl_set (pl_cb1 ?_))
    refine rd_lcZip (Pc := fun us H2 => ∃ l pc ls, us = [.ref l, .ref pc] ∧ Same H1 H2 ∧ IsRow M (-1) ls ∧ IT H2 l ls ∧ IT H2 pc M.costs) (fun Q3 k3 => ?_) fun us H2 hu => ?_
    · refine pl_cons ?_
      refine ev_callR (Pc := fun v H2 => ∃ l ls, v = .ref l ∧ Same H1 H2 ∧ IsRow M (-1) ls ∧ IT H2 l ls) (ea_cons (ev_var rfl) ea_nil) (fun Q2 k2 => ⟨m, M, rfl, hm1, ok, hno, fun H' p ls s hp hR hT => k2 _ _ ⟨p, ls, rfl, s, hR, hT⟩⟩) _ fun v H2 hv => ?_
      obtain ⟨l, ls, rfl, s2, hR, hT⟩ := hv
      obtain ⟨ch, hch, hca⟩ := rd_chart (H := H2) (σ := [some (.ref m), some .non, none, none, none]) (ta := tVar 0) T (hm1.s s2) (ev_var rfl)
      obtain ⟨pc, hpc, hpct⟩ := rd_costs T hca hch
      exact ea_cons hpc ea_nil _ (k3 _ _ ⟨l, pc, ls, rfl, s2, hR, hT, hpct⟩)
    · obtain ⟨l, pc, ls, rfl, s2, hR, hT, hpct⟩ := hu
      refine ⟨l, pc, ls.map V.int, M.costs.map V.int, fun n => V.int (ls.getD n 0 - M.costs.getD n 0), rfl, by rw [List.length_map, List.length_map, hR.1], by rw [List.length_map, hR.1]; omega, .inr ⟨hT, hpct⟩, fun _ _ => rfl, fun n x y H' hx hy s3 => ?_, fun D H3 hD s3 hL => ?_⟩
      · have hn : n < ls.length := by
          have := (List.getElem?_eq_some_iff.mp hx).1
          rwa [List.length_map] at this
        have ex : x = V.int (ls.getD n 0) := Option.some.inj (hx.symm.trans (int_at (getD_at hn)))
        have ey : y = V.int (M.costs.getD n 0) := Option.some.inj (hy.symm.trans (int_at (getD_at (by rw [hR.1] at hn; exact hn))))
        subst ex ey
        exact (ev_sub (ev_var rfl) (ev_var rfl)).s
      · have hL2 : H3 D = some (.lst (((List.range M.n).map fun n => ls.getD n 0 - M.costs.getD n 0).map V.int)) := by
          rw [hL, List.length_map, hR.1, List.map_map]
          rfl
        refine ⟨D, _, rfl, SqL.of hL2, by rw [List.length_map, List.length_range]; exact hn1, fun x hx hle => ?_⟩
        refine pl_nx (pl_ret (ev_sub (rd_first T (hm1.s (s2.trans s3)) (ev_var rfl)) (ev_var rfl) _ ?_))
        obtain ⟨p, hp, ex⟩ := List.mem_map.mp hx
        exact q _ ls x ((s1.trans s2).trans s3) hR ⟨⟨p, List.mem_range.mp hp, ex.symm⟩, fun p' hp' => hle _ (List.mem_map.mpr ⟨p', List.mem_range.mpr hp', rfl⟩)⟩
theorem ok_find_short (d : Df K mg "find_short" s_find_short ["meter"]) (c_find_fall : Cal P w K mg base 6 "find_fall" ["meter"] (sp_find_fall A)) (c_lead_rows : Cal P w K mg base 2 "lead_rows" ["meter", "sense"] (sp_lead_rows A))
    (c_rest_rows : Cal P w K mg base 2 "rest_rows" ["meter", "last_row", "lowest", "length", "sense"] (sp_rest_rows A)) (c_least_walk : Cal P w K mg base 4 "least_walk" ["meter", "rests", "length", "start", "wanted", "sense"] (sp_least_walk A))
    (c_ShortInit : CalC P w K mg base 1 "Short" A.sh ["self", "run", "by"] (sp_ShortInit A)) (c_Meterlead_behind : CalM P w K mg base 5 A.me "lead_behind" ["self", "run"] (sp_Meterlead_behind A)) : Cal P w K mg base 7 "find_short" ["meter"] (sp_find_short A) := by
  refine d.ok sc_find_short (fun vs H Q E h => ?_) (fun f cdv A' outer s H vs Q E hr h => ?_)
  · obtain ⟨m, M, rfl, _⟩ := h
    rfl
  · obtain ⟨m, M, rfl, hm, ok, q1, q2⟩ := h
    have hn16 : M.n ≤ 16 := ok.ch.n16
    have hn1 : 1 ≤ M.n := ok.ch.n1
    refine ⟨_, (pss_cons (ps_set (i := 1) sc_find_short.nd rfl (.inl rfl) (pe_cal c_find_fall hr (by rfl) (pa_cons (pv 0) pa_nil)))
    (pss_cons (ps_if (pt_cmpR op_notNI (pv 1) pe_non (nomark _)) (pss_one (ps_ret (pv 1))) pss_nil)
    (pss_cons (ps_set (i := 2) sc_find_short.nd rfl (.inl rfl) (pe_callTy cr_list (by rfl) T.z_list (by decide +kernel) (pa_cons (pe_fld (pe_fld (pv 0) rfl) rfl) pa_nil)))
    (pss_cons (ps_for PassesOwn.never rfl (pi_enumA (by rfl) T.z_enumerate (pa_cons (pe_cal c_lead_rows hr (by rfl) (pa_cons (pv 0) (pa_cons (pe_un un_negI pe_int) pa_nil))) pa_nil)) (pg_tup rfl (pgs_cons (pg_name (i := 3) sc_find_short.nd rfl (.inl rfl)) (pgs_cons (pg_name (i := 4) sc_find_short.nd rfl (.inl rfl)) pgs_nil))) (pss_one (ps_if (pt_val (pe_callB (cr_any rfl) (by rfl) T.z_any (by decide +kernel) (pa_cons (pe_lc (own := [("worth", 7), ("cost", 8)]) (g := (gTup K 2 (gCons (gName 7) (gCons (gName 8) gNil)))) (tt := tYes) (te := (tAndV (tOp rNotN (tVar 7) (tC .non)) (tOp rGtI (tOp rAddI (tVar 7) (tVar 8)) (tC (.int 0))))) rfl sc_find_short.nd (pi_zipA (by rfl) T.z_zip (pa_cons (pv 4) (pa_cons (pv 2) pa_nil))) (blkOk_by (N := ["meter", "fall", "costs", "length", "row", "rests", "run", "worth", "cost"]) (own := [("worth", 7), ("cost", 8)]) (sc := defScope s_find_short) (by decide +kernel)) (fun _ _ _ _ _ => (pg_tup rfl (pgs_cons (pg_name (i := 7) sc_find_short.nd rfl (.inl rfl)) (pgs_cons (pg_name (i := 8) sc_find_short.nd rfl (.inl rfl)) pgs_nil)))) (fun _ _ _ _ _ => pts_nil) (fun _ _ _ _ _ => (pe_and (pe_cmpR op_notNI (pv 7) pe_non (nomark _)) (pe_one (pe_cmpR op_gtI (pe_op op_addI (pv 7) (pv 8)) pe_int (nomark _)))))) pa_nil))) (pss_cons (ps_set (i := 5) sc_find_short.nd rfl (.inl rfl) (pe_cal c_rest_rows hr (by rfl) (pa_cons (pv 0) (pa_cons (pv 2) (pa_cons pe_int (pa_cons (pv 3) (pa_cons (pe_un un_negI pe_int) pa_nil)))))))
    (pss_cons (ps_set (i := 6) sc_find_short.nd rfl (.inl rfl) (pe_cal c_least_walk hr (by rfl) (pa_cons (pv 0) (pa_cons (pv 5) (pa_cons (pv 3) (pa_cons (pe_un un_negI (pe_fld (pv 0) rfl)) (pa_cons pe_int (pa_cons (pe_un un_negI pe_int) pa_nil))))))))
    (pss_one (ps_ret (pe_mkcal c_ShortInit hr (by rfl) (pa_cons (pv 6) (pa_cons (pe_un un_negI (pe_mcal c_Meterlead_behind hr (pv 0) (pa_cons (pv 6) pa_nil))) pa_nil))))))) pss_nil)))
    (pss_one (ps_ret pe_non)))))), ?_⟩
    refine sq_setR (Pc := fun v H' => Same H H' ∧ ((v = .non ∧ NoDrift M [-1]) ∨ ∃ p, v = .ref p ∧ H p = none ∧ DriftRes A M [-1] H' p)) (ev_callR (ea_cons (ev_var rfl) ea_nil) (fun Q2 k2 => ⟨m, M, rfl, hm, ok, fun hn H' s => k2 _ _ ⟨s, .inl ⟨rfl, hn⟩⟩, fun H' p s hp hD => k2 _ _ ⟨s, .inr ⟨p, rfl, hp, hD⟩⟩⟩)) fun v H1 hv => ?_
    obtain ⟨s1, hv⟩ := hv
    rcases hv with ⟨rfl, hno⟩ | ⟨p, rfl, hp, hD⟩
    · obtain ⟨q2, q3⟩ := q2 hno
      refine sq_if (et_test (ev_notN0 (ev_var rfl))) (fun z => by cases z) fun _ => ?_
      have hm1 := hm.s s1
      obtain ⟨ch, hch, hca⟩ := rd_chart (H := H1) (σ := [some (.ref m), some .non, none, none, none, none, none, none, none]) (ta := tVar 0) T hm1 (ev_var rfl)
      obtain ⟨pc, hpc, hpct⟩ := rd_costs T hca hch
      refine pl_nx ?_
      refine pl_seq (pl_set (pl_cb1 (hpc _ ⟨pc, _, rfl, SqA.t hpct, fun cl hcl => ?_⟩)))
      have scl : Same H1 (upd H1 cl (.lst (M.costs.map V.int))) := same_upd hcl
      have hcl1 : IL (upd H1 cl (.lst (M.costs.map V.int))) cl M.costs := upd_same
      generalize upd H1 cl (.lst (M.costs.map V.int)) = H2 at scl hcl1
      have s2 := s1.trans scl
      have hm2 := hm.s s2
      refine pl_nx (pl_seq ?_)
      refine rd_forEnum (Pc := fun us H3 => ∃ rr, us = [.ref rr] ∧ Same H2 H3 ∧ RowsL H3 rr ((List.range M.n).map (rowL (-1) M.E (firstRow (-1) M.first M.n)))) (fun Q3 k3 => ?_) fun us H3 hu => ?_
      · refine pl_cons ?_
        refine ev_callR (Pc := fun v H3 => ∃ rr, v = .ref rr ∧ Same H2 H3 ∧ RowsL H3 rr ((List.range M.n).map (rowL (-1) M.E (firstRow (-1) M.first M.n)))) (ea_cons (ev_var rfl) (ea_cons (ev_neg ev_c) ea_nil)) (fun Q2 k2 => ⟨m, M, -1, rfl, hm2, ok, .inr rfl, fun H' p s hp hR => k2 _ _ ⟨p, rfl, s, hR⟩⟩) _ fun v H3 hv => ?_
        obtain ⟨rr, rfl, s3, hR⟩ := hv
        exact ea_nil _ (k3 _ _ ⟨rr, rfl, s3, hR⟩)
      obtain ⟨rr, rfl, s3, ps, hps, hEa⟩ := hu
      have hpl : ps.length = M.n := by rw [hEa.1, List.length_map, List.length_range]
      refine ⟨rr, ps.map V.ref, rfl, SqA.l hps, fun i σ' H' => ∃ (o3 o4 : Option V), σ' = [some (.ref m), some .non, some (.ref cl), o3, o4, none, none, none, none] ∧ Same H3 H' ∧ ∀ k, k < i → ∀ p, p < M.n → shortB (rowL (-1) M.E (firstRow (-1) M.first M.n) k) M.costs p = false,
        ⟨_, _, rfl, Same.refl _, fun k hk => by omega⟩, fun i σ' H' p => by obtain ⟨_, _, _, s, _⟩ := p; exact s.at, ?_, ?_⟩
      · rintro i x U σ' H' hi ⟨o3, o4, rfl, s4, hno2⟩ hU
        have hil : i < M.n := by
          have := (List.getElem?_eq_some_iff.mp hi).1
          rwa [List.length_map, hpl] at this
        obtain ⟨u, hu, hur⟩ := hEa.get (i := i) (x := rowL (-1) M.E (firstRow (-1) M.first M.n) i) (by rw [List.getElem?_map, List.getElem?_range hil]; rfl)
        have ex : x = .ref u := Option.some.inj (hi.symm.trans (ref_at hu))
        subst ex
        refine g_two upd_same ?_
        have s5 : Same H3 (upd H' U (.tup [.int (i : Int), .ref u])) := s4.new hU
        generalize upd H' U (.tup [.int (i : Int), .ref u]) = H5 at s5
        have hur5 : RowL H5 u (rowL (-1) M.E (firstRow (-1) M.first M.n) i) := hur.s s5
        have hcl5 : IL H5 cl M.costs := s5 _ _ (s3 _ _ hcl1)
        have hrl : (rowL (-1) M.E (firstRow (-1) M.first M.n) i).length = M.n := (rowL_length ..).trans (firstRow_length hn1)
        have s25 := (s2.trans s3).trans s5
        generalize hrow : rowL (-1) M.E (firstRow (-1) M.first M.n) i = row at hur5 hrl
        refine pl_if (pl_B (pl_cb1 ?_))
        refine rd_lcZip (EaE.r (ea_cons (ev_var rfl) (ea_cons (ev_var rfl) ea_nil))) fun us H6 hu6 => ?_
        obtain ⟨rfl, rfl⟩ := hu6
        refine ⟨u, cl, row.map optV, M.costs.map V.int, fun n => .bl (shortB row M.costs n), rfl, by rw [List.length_map, List.length_map, hrl], by rw [List.length_map, hrl]; omega, .inl ⟨hur5, hcl5⟩, fun _ _ => rfl, fun n x y H7 hx hy s7 => ?_, fun D H7 hD s7 hL => ?_⟩
        · have hn : n < row.length := by
            have := (List.getElem?_eq_some_iff.mp hx).1
            rwa [List.length_map] at this
          have ex : x = optV (row.getD n none) := Option.some.inj (hx.symm.trans (row_at hn))
          have ey : y = V.int (M.costs.getD n 0) := Option.some.inj (hy.symm.trans (int_at (getD_at (by rw [hrl] at hn; exact hn))))
          subst ex ey
          show EvS _ _ _ (V.bl (match row.getD n none with | none => false | some x => decide (0 < x + M.costs.getD n 0)))
          cases hv : row.getD n none with
          | none => exact ((ev_andV (a := false) (b := false) (ev_notN0 (ev_var rfl)) (fun z => by cases z)).is rfl).s
          | some x => exact ((ev_andV (a := true) (ev_notN1 (a := x) (ev_var rfl)) fun _ => ev_gt (ev_add (a := x) (ev_var rfl) (ev_var rfl)) ev_c).is (by rw [Bool.true_and])).s
        · have hL2 : H7 D = some (.lst (((List.range M.n).map fun n => shortB row M.costs n).map V.bl)) := by
            rw [hL, List.length_map, hrl, List.map_map]
            rfl
          have s27 := s25.trans s7
          have hm7 := hm.s s27
          have hcl7 : IL H7 cl M.costs := s7 _ _ hcl5
          have s37 := s5.trans s7
          refine ⟨D, _, rfl, SqL.of hL2, _, rfl, ?_⟩
          refine ite2 (fun hb => ?_) (fun hb => ?_)
          · obtain ⟨y, hy, hyt⟩ := List.any_eq_true.mp hb
            obtain ⟨p, hp, rfl⟩ := List.mem_map.mp hy
            have hp' := List.mem_range.mp hp
            obtain ⟨x0, hx0, hpos⟩ := shortB_iff.mp hyt
            obtain ⟨ks0, w0, hl0, hx0e⟩ := (rowL_best (sense := -1) (first := M.first) hn1 ok.E_lt i p hp').at (by rw [hrow]; exact hx0)
            have hlen : (M.costs.map (some : Int → Option Int)).length = M.n := List.length_map ..
            obtain ⟨xr, hxr, hler⟩ := (rowR_best (E := M.E) (sense := -1) (low := 0) (last := M.costs.map (some : Int → Option Int)) (by rw [hlen]; exact ok.E_lt) i 0 (by rw [hlen]; exact hn1)).le ⟨ks0, p, M.costs.getD p 0, w0, hl0, by rw [List.getD_eq_getElem?_getD, List.getElem?_map, getD_at hp']; rfl, fun _ _ => Nat.zero_le _, rfl⟩
            have hclR : RowL H7 cl (M.costs.map (some : Int → Option Int)) := by
              show H7 cl = _
              rw [List.map_map]
              exact hcl7
            refine sq_setR (ev_callR (us := [.ref m, .ref cl, nv 0, nv i, .int (-1)]) (Pc := fun v H8 => ∃ rs, v = .ref rs ∧ Same H7 H8 ∧ RowsL H8 rs ((List.range (i + 1)).map (rowR (-1) 0 M.E (M.costs.map (some : Int → Option Int))))) (ea_cons (ev_var rfl) (ea_cons (ev_var rfl) (ea_cons ev_c (ea_cons (ev_var rfl) (ea_cons (ev_neg ev_c) ea_nil)))))
              (fun Q' k' => ⟨m, cl, M, _, 0, i, -1, rfl, hm7, ok, hclR, hlen, by omega, .inr rfl, fun H8 rs s hrs hf => k' _ _ ⟨rs, rfl, s, hf.here⟩⟩)) fun v H8 hv => ?_
            obtain ⟨rs, rfl, s8, hRs⟩ := hv
            have hm8 := hm7.s s8
            refine sq_setR (ev_callR (us := [.ref m, .ref rs, nv i, .int (-M.first), .int 1, .int (-1)]) (Pc := fun v H9 => ∃ rn ks vv, v = .ref rn ∧ Same H8 H9 ∧ NT H9 rn ks ∧ ks.length = i ∧ Wk M.E 0 ks vv ∧ 0 < M.costs.getD vv 0 - (M.first + gn M.E ks)) (ea_cons (ev_var rfl) (ea_cons (ev_var rfl) (ea_cons (ev_var rfl) (ea_cons (ev_neg (rd_first T hm8 (ev_var rfl))) (ea_cons ev_c (ea_cons (ev_neg ev_c) ea_nil))))))
              (fun Q' k' => ⟨m, rs, M, _, i, -M.first, 1, -1, xr, rfl, hm8, ok, hRs, hlen, by omega, .inr rfl, hxr, by omega, fun H9 rn ks vv y s hrn hN hkl hw hy hle => k' _ _ ⟨rn, ks, vv, rfl, s, hN, hkl, hw, ?_⟩⟩)) fun v H9 hv => ?_
            · have hvl := hw.lt ok.E_lt hn1
              rw [List.getD_eq_getElem?_getD, List.getElem?_map, getD_at hvl] at hy
              have : M.costs.getD vv 0 = y := Option.some.inj hy
              omega
            · obtain ⟨rn, ks, vv, rfl, s9, hN, hkl, hw, hpos2⟩ := hv
              have hm9 := hm8.s s9
              refine pl_ret (pl_make (pl_cons (ev_var rfl _ (pl_cons (pl_un ?_)))))
              obtain ⟨dxm, chm, pgm, hmi, _⟩ := id hm9
              refine ev_methR (us := [.ref rn]) (Pc := fun v H10 => v = .int (M.first + gn M.E ks - M.costs.getD vv 0) ∧ Same H9 H10) (ev_var rfl) hmi (meF_no _ _ _ (by decide +kernel) (by decide +kernel) (by decide +kernel)) (ea_cons (ev_var rfl) ea_nil) (fun Q' k' => ⟨m, rn, M, ks, vv, rfl, hm9, ok, .inr hN, by omega, hw, fun H10 s => k' _ _ ⟨rfl, s⟩⟩) _ fun v H10 hv => ?_
              obtain ⟨rfl, s10⟩ := hv
              refine ⟨_, rfl, ?_⟩
              intro x dx nx ndx nex
              have hN10 : NT H10 rn ks := hN.kf s10.kf
              have hxq : rn ≠ x := ne_of_none hN10 nx
              have sA := ((s27.trans s8).trans s9).trans s10
              refine ⟨x, rn, dx, ks, -(M.first + gn M.E ks - M.costs.getD vv 0), rfl, upd_same, ?_, fun H11 hk11 hS => ⟨rfl, ?_⟩⟩
              · show (upd (upd H10 dx _) x _) rn = _
                rw [upd_ne hxq, upd_ne (ne_of_none hN10 ndx)]
                exact hN10
              · have s11 : Same H10 H11 := made_same nx ndx hk11
                rw [show -(M.first + gn M.E ks - M.costs.getD vv 0) = M.costs.getD vv 0 - (M.first + gn M.E ks) by omega] at hS
                exact q2 H11 x ks vv (sA.trans s11) (sA.free nx) hw hpos2 (by omega) hS
          · refine ⟨_, _, rfl, s37, fun k hk p hp => ?_⟩
            by_cases hki : k < i
            · exact hno2 k hki p hp
            · have : k = i := by omega
              subst this
              rw [hrow]
              have := List.any_eq_false.mp (Bool.eq_false_iff.mpr hb) (shortB row M.costs p) (List.mem_map.mpr ⟨p, List.mem_range.mpr hp, rfl⟩)
              exact Bool.eq_false_iff.mpr this
      · rintro σ' H' ⟨o3, o4, rfl, s4, hno2⟩
        rw [List.length_map, hpl] at hno2
        refine pl_nx (sx_ret ev_c (q3 (fun ks v hw => ?_) H' ((s2.trans s3).trans s4)))
        have hvl := hw.lt ok.E_lt hn1
        obtain ⟨ks', w', hl, hg⟩ := hw.shorten (sense := -1) ok.E_lt (fun u ks w => hno (-1) (by simp) u ks w) hn1
        obtain ⟨x, hx, hle⟩ := (rowL_best (sense := -1) (first := M.first) hn1 ok.E_lt ks'.length v hvl).le ⟨ks', w', rfl, rfl⟩
        have hb := hno2 ks'.length hl v hvl
        have : ¬ 0 < x + M.costs.getD v 0 := fun h => by
          rw [shortB_iff.mpr ⟨x, hx, h⟩] at hb
          cases hb
        omega
    · refine sq_if (et_test (ev_notN2 (ev_var rfl))) (fun _ => ?_) (fun z => by cases z)
      exact sx_ret (ev_var rfl) (q1 H1 p s1 hp hD)
end
end K15
namespace K15
open PySem PySem.Spec PyProof.Rows L2 RZ
/-! ### run_to, even_leads -/
def sp_run_to (A : Ad) : Sp := fun vs H Q _ => ∃ (c : Addr) (M : Mt) (p : Nat), vs = [.ref c, nv p] ∧ ChartAt A H c M.costs M.arrows ∧ M.Ok ∧ p < M.n ∧ ∀ H' q ks, Same H H' → NT H' q ks → ks.length ≤ 16 → Wk M.E 0 ks p → Q (.ref q) H'
def sp_even_leads (A : Ad) : Sp := fun vs H Q _ => ∃ (m : Addr) (M : Mt), vs = [.ref m] ∧ MeterAt A H m M ∧ M.Ok ∧
  (∀ H' x p one other, Same H H' → H x = none → p < M.n → Wk M.E 0 one p → Wk M.E 0 other p → gn M.E one ≠ gn M.E other → one.length ≤ 400 → other.length ≤ 400 → UnevenAt A H' x p one other → Q (.ref x) H') ∧
  (∀ H' l ls, Same H H' → H l = none → NoDrift M [1, -1] → IsRow M (-1) ls → IsRow M 1 ls → IT H' l ls → Q (.ref l) H')
/-- what run_to knows: a place, the tuple, the walk -/
abbrev Kn := Nat × Addr × List Nat
def knV (e : Kn) : Key × V := (.inl (e.1 : Int), .ref e.2.1)
theorem kn_val {es : List Kn} {p : Nat} : valV (es.map knV) (.inl (p : Int)) = none ∧ p ∉ es.map (·.1) ∨ ∃ e ∈ es, e.1 = p ∧ valV (es.map knV) (.inl (p : Int)) = some (.ref e.2.1) := by
  induction es with
  | nil => exact .inl ⟨rfl, by simp⟩
  | cons e es ih =>
    by_cases h : e.1 = p
    · subst h
      exact .inr ⟨e, List.mem_cons_self .., rfl, valV_pos rfl⟩
    · have hk : ¬ (knV e).1 = (Sum.inl (p : Int) : Key) := fun z => h (by have := Sum.inl.inj z; omega)
      rcases ih with ⟨h1, h2⟩ | ⟨e2, h1, h2, h3⟩
      · refine .inl ⟨by rw [List.map_cons, valV_neg hk]; exact h1, fun z => ?_⟩
        rcases List.mem_cons.mp z with z | z
        · exact h z.symm
        · exact h2 z
      · exact .inr ⟨e2, List.mem_cons_of_mem _ h1, h2, by rw [List.map_cons, valV_neg hk]; exact h3⟩
theorem nodup_fst {α : Type} {es : List (Nat × α)} (h : (es.map (·.1)).Nodup) {a b : Nat × α} (ha : a ∈ es) (hb : b ∈ es) (e : a.1 = b.1) : a = b := by
  induction es with
  | nil => cases ha
  | cons x es ih =>
    rw [List.map_cons, List.nodup_cons] at h
    rcases List.mem_cons.mp ha with h1 | h1
    · rcases List.mem_cons.mp hb with h2 | h2
      · rw [h1, h2]
      · exact (h.1 (by rw [← h1, e]; exact List.mem_map.mpr ⟨b, h2, rfl⟩)).elim
    · rcases List.mem_cons.mp hb with h2 | h2
      · exact (h.1 (by rw [← h2, ← e]; exact List.mem_map.mpr ⟨a, h1, rfl⟩)).elim
      · exact ih h.2 h1 h2
theorem NoDrift.low {M : Mt} (h : NoDrift M [1, -1]) : NoDrift M [-1] := fun s hs => h s (by simp at hs ⊢; omega)
theorem NoDrift.high {M : Mt} (h : NoDrift M [1, -1]) : NoDrift M [1] := fun s hs => h s (by simp at hs ⊢; omega)
theorem IsRow.best {M : Mt} {sense : Int} {ls : List Int} (h : IsRow M sense ls) (hs : sense = 1 ∨ sense = -1) {p : Nat} (hp : p < M.n) {ks : List Nat} (w : Wk M.E 0 ks p) (hb : ∀ ks', Wk M.E 0 ks' p → sense * (M.first + gn M.E ks') ≤ sense * (M.first + gn M.E ks)) : M.first + gn M.E ks = ls.getD p 0 := by
  obtain ⟨⟨ks2, w2, e2⟩, h2⟩ := h.2 p hp
  have h3 := h2 ks w
  have h4 := hb ks2 w2
  rcases hs with rfl | rfl <;> omega
theorem list_eq_getD {a b : List Int} (hl : a.length = b.length) (h : ∀ p, p < a.length → a.getD p 0 = b.getD p 0) : a = b := by
  refine List.ext_getElem hl fun i h1 h2 => ?_
  have := h i h1
  rw [List.getD_eq_getElem?_getD, List.getD_eq_getElem?_getD, List.getElem?_eq_getElem h1, List.getElem?_eq_getElem h2] at this
  exact this
section
variable {K : PySem.W.Frag} {σ : L2.St} {H : Hp} {ta tb : TE}
/-- a + b, tuples -/
theorem ev_catA {a b : Addr} {xs ys : List V} (ha : EvE ta σ H (.ref a)) (hb : EvE tb σ H (.ref b)) (hx : H a = some (.tup xs)) (hy : H b = some (.tup ys)) (hz : xs.length + ys.length ≤ 1000) : EvR (tOp (rCatA K) ta tb) σ H (fun v H' => ∃ q, v = .ref q ∧ Same H H' ∧ H' q = some (.tup (xs ++ ys))) := fun Q k =>
  ha _ (hb _ ⟨a, b, xs, ys, rfl, rfl, SqT.of hx, SqT.of hy, Nat.le_trans hz (by decide), fun e => k _ _ ⟨b, rfl, Same.refl H, by rw [e]; exact hy⟩, fun _ e => k _ _ ⟨a, rfl, Same.refl H, by rw [e, List.append_nil]; exact hx⟩, fun _ _ p hp => k _ _ ⟨p, rfl, same_upd hp, upd_same⟩⟩)
end
section
variable {P : Program} {w : World} {K : PySem.W.Frag} {mg : Str → Option Value} {base : Heap} {A : Ad} (T : Txt K mg A)
include T
theorem ok_run_to (d : Df K mg "run_to" s_run_to ["chart", "place"]) (c_check_place : Cal P w K mg base 2 "check_place" ["chart", "place"] (sp_check_place A)) (c_Chartouts : CalM P w K mg base 3 A.ch "outs" ["self", "place"] (sp_Chartouts A)) :
    Cal P w K mg base 4 "run_to" ["chart", "place"] (sp_run_to A) := by
  refine d.ok sc_run_to (fun vs H Q E h => ?_) (fun f cdv A' outer s H vs Q E hr h => ?_)
  · obtain ⟨c, M, p, rfl, _⟩ := h
    rfl
  · obtain ⟨c, M, p, rfl, hca, ok, hp, q⟩ := h
    have hn16 : M.n ≤ 16 := ok.ch.n16
    have hn1 : 1 ≤ M.n := ok.ch.n1
    have h32 := ok.ch.a32
    have hu := hu_of hr
    refine ⟨_, (pss_cons (ps_expr (pe_cal c_check_place hr (by rfl) (pa_cons (pv 0) (pa_cons (pv 1) pa_nil))))
    (pss_cons (ps_set (i := 2) sc_run_to.nd rfl (.inl rfl) (pe_disp (pps_cons pe_int (pe_tup pa_nil) pps_nil) (by rfl) (by rfl) (fun z => by cases z) (by decide)))
    (pss_cons (ps_set (i := 3) sc_run_to.nd rfl (.inl rfl) (pe_lst (pa_cons pe_int pa_nil)))
    (pss_cons (ps_set (i := 4) sc_run_to.nd rfl (.inl rfl) pe_int)
    (pss_cons (ps_while PassesOwn.never (pt_cmpR op_ltI (pv 4) (pe_callB cr_len (by rfl) T.z_len (by decide +kernel) (pa_cons (pv 3) pa_nil)) (nomark _)) (pss_cons (ps_set (i := 5) sc_run_to.nd rfl (.inl rfl) (pe_ix ix_any (pv 3) (pv 4) (fun _ _ => rfl)))
    (pss_cons (ps_for PassesOwn.never rfl (pi_seq (pe_mcal c_Chartouts hr (pv 0) (pa_cons (pv 5) pa_nil))) (pg_name (i := 6) sc_run_to.nd rfl (.inl rfl)) (pss_cons (ps_set (i := 7) sc_run_to.nd rfl (.inl rfl) (pe_ix ix_any (pe_ix ix_any (pe_fld (pv 0) rfl) (pv 6) (fun _ _ => rfl)) pe_int (fun _ _ => rfl)))
    (pss_one (ps_if (pt_cmp (pc_dnotin hu (pv 7) (pv 2))) (pss_cons (ps_dput hu (pv 2) (pv 7) (pe_op op_catA (pe_dget hu (pv 2) (pv 5) (fun _ _ => rfl)) (pe_tup (pa_cons (pv 6) pa_nil))) rfl)
    (pss_one (ps_expr (pe_bm PySem.F.plainAttrs_list PySem.F.slot_list_append PySem.F.type_list_append mt_append (pv 3) (pa_cons (pv 7) pa_nil))))) pss_nil))))
    (pss_one (ps_aug (i := 4) sc_run_to.nd rfl (.inl rfl) pe_int ip_add)))))
    (pss_one (ps_ret (pe_dget hu (pv 2) (pv 1) (fun _ _ => rfl))))))))), ?_⟩
    refine sq_dropR (Pc := fun v H' => v = nv p ∧ H' = H) (ev_callR (ea_cons (ev_var rfl) (ea_cons (ev_var rfl) ea_nil)) fun Q2 k2 => ⟨c, M.costs, M.arrows, p, rfl, hca, hp, k2 _ _ ⟨rfl, rfl⟩⟩) fun v H' hv => ?_
    obtain ⟨_, rfl⟩ := hv
    -- known = {0: ()}
    refine pl_seq (pl_set (fun dk hdk => ?_))
    have sd : Same H' (upd H' dk (.dK [])) := same_upd hdk
    have hd0 : (upd H' dk (.dK [])) dk = some (.dK []) := upd_same
    generalize upd H' dk (.dK []) = H0 at sd hd0
    refine ev_c (v := .int 0) _ ⟨Nat.zero_le _, fun t0 ht0 => ?_⟩
    have st0 : Same H0 (upd H0 t0 (.tup [])) := same_upd ht0
    have ht0t : NT (upd H0 t0 (.tup [])) t0 [] := upd_same
    have hd1 := st0 _ _ hd0
    generalize upd H0 t0 (.tup []) = H1 at st0 ht0t hd1
    refine ⟨hd1, [(.inl 0, .ref t0)], rfl, (by show 1 ≤ 15; decide), ?_⟩
    have s2 : Same H' (upd H1 dk (.dK (mergeK [] [(.inl 0, .ref t0)]))) := (sd.trans st0).mut hdk
    have hd2 : (upd H1 dk (.dK (mergeK [] [(.inl 0, .ref t0)]))) dk = some (.dK ([((0 : Nat), t0, ([] : List Nat))].map knV)) := upd_same
    have ht2 : NT (upd H1 dk (.dK (mergeK [] [(.inl 0, .ref t0)]))) t0 [] := by
      show (upd H1 dk _) t0 = _
      rw [upd_ne (ne_of_none hd0 ht0).symm]
      exact ht0t
    generalize upd H1 dk (.dK (mergeK [] [(.inl 0, .ref t0)])) = H2 at s2 hd2 ht2
    refine pl_nx (pl_seq (pl_set (pl_lst (pl_cons (ev_c _ ⟨by show 1 ≤ sizeLine; decide, fun l hl => ?_⟩)))))
    have s3 : Same H2 (upd H2 l (.lst [.int 0])) := same_upd hl
    have hl3 : (upd H2 l (.lst [.int 0])) l = some (.lst ([((0 : Nat), t0, ([] : List Nat))].map fun e => nv e.1)) := upd_same
    have hd3 := s3 _ _ hd2
    have ht3 : NT (upd H2 l (.lst [.int 0])) t0 [] := s3 _ _ ht2
    have hlH : H' l = none := s2.free hl
    have hld : l ≠ dk := (ne_of_none hd2 hl).symm
    have s23 := s2.trans s3
    generalize upd H2 l (.lst [.int 0]) = H3 at s23 hl3 hd3 ht3
    refine pl_nx (sq_set ev_c (pl_seq ?_))
    refine rd_while (fun m σ' G => ∃ (es : List Kn) (i : Nat) (o5 o6 o7 : Option V), σ' = [some (.ref c), some (nv p), some (.ref dk), some (.ref l), some (nv i), o5, o6, o7] ∧ m = M.n - i ∧ Same H' G ∧ G dk = some (.dK (es.map knV)) ∧ G l = some (.lst (es.map fun e => nv e.1)) ∧
        (∀ e ∈ es, NT G e.2.1 e.2.2 ∧ Wk M.E 0 e.2.2 e.1 ∧ e.2.2.length < es.length ∧ e.1 < M.n) ∧ (es.map (·.1)).Nodup ∧ i ≤ es.length ∧ 0 ∈ es.map (·.1) ∧ ∀ e ∈ es.take i, ∀ (k h : Nat), M.arrows[k]? = some (e.1, h) → h ∈ es.map (·.1))
      ⟨M.n, [(0, t0, [])], 0, _, _, _, rfl, rfl, s23, hd3, hl3, fun e he => by rw [List.mem_singleton.mp he]; exact ⟨ht3, .nil _, Nat.zero_lt_one, hn1⟩, by simp, Nat.zero_le _, by simp, fun e he => by simp at he⟩ ?_
    rintro m0 σ' G ⟨es, i, o5, o6, o7, rfl, rfl, s, hd, hls, hes, hnd, hi, h0, hcl⟩
    have hesn : es.length ≤ M.n := by
      have := nodup_le M.n 0 hnd (fun x hx => by
        obtain ⟨e, he, rfl⟩ := List.mem_map.mp hx
        exact ⟨Nat.zero_le _, by rw [Nat.zero_add]; exact (hes e he).2.2.2⟩)
      rwa [List.length_map] at this
    refine ⟨decide ((i : Int) < ((es.map fun e => nv e.1).length : Int)), et_test (ev_lt (ev_var rfl) (ev_len (ev_var rfl) (SqA.l hls))), fun hb => ?_, fun hb => ?_⟩
    · have hil : i < es.length := by
        have := of_decide_eq_true hb
        rw [List.length_map] at this
        omega
      have hei : es[i]? = some es[i] := List.getElem?_eq_getElem hil
      have hmem : es[i] ∈ es := List.getElem_mem hil
      generalize es[i] = e at hei hmem
      obtain ⟨tl, ta, tks⟩ := e
      obtain ⟨hN, hw, hkl, htl⟩ := hes _ hmem
      refine sq_set (ev_ixn (v := nv tl) (ev_var rfl) (ev_var rfl) (SqA.l hls) (by rw [List.getElem?_map, hei]; rfl)) (pl_seq ?_)
      have hca1 := hca.s s
      refine rd_forSeq (ev_outs hca1 htl h32 (ev_var rfl) (ev_var rfl)) fun v G1 hv => ?_
      obtain ⟨qa, rfl, s4, hqa, hNo⟩ := hv
      have hqd : qa ≠ dk := (ne_of_none hd hqa).symm
      have hql : qa ≠ l := (ne_of_none hls hqa).symm
      refine ⟨qa, _, rfl, SqA.t hNo, fun j σ' G' => ∃ (es' : List Kn) (o6 o7 : Option V), σ' = [some (.ref c), some (nv p), some (.ref dk), some (.ref l), some (nv i), some (nv tl), o6, o7] ∧ Same H' G' ∧ G' qa = some (.tup ((outs M.arrows tl).map nv)) ∧ G' dk = some (.dK (es'.map knV)) ∧ G' l = some (.lst (es'.map fun e => nv e.1)) ∧
        (∀ e ∈ es', NT G' e.2.1 e.2.2 ∧ Wk M.E 0 e.2.2 e.1 ∧ e.2.2.length < es'.length ∧ e.1 < M.n) ∧ (es'.map (·.1)).Nodup ∧ (∃ more, es' = es ++ more) ∧ ∀ k ∈ (outs M.arrows tl).take j, ∀ (h : Nat), M.arrows[k]? = some (tl, h) → h ∈ es'.map (·.1),
        ⟨es, _, _, rfl, s.trans s4, hNo, s4 _ _ hd, s4 _ _ hls, fun e he => ⟨(hes e he).1.kf s4.kf, (hes e he).2⟩, hnd, ⟨[], (List.append_nil _).symm⟩, fun k hk => by simp at hk⟩,
        fun j σ' G' z => by obtain ⟨_, _, _, _, _, z, _⟩ := z; intro o ho; rw [hNo] at ho; rw [← ho]; exact z, ?_, ?_⟩
      · rintro j x σ' G' hj ⟨es', o6, o7, rfl, s5, hq5, hd5, hl5, hes5, hnd5, ⟨more, hmore⟩, hcl5⟩
        have hjl : j < (outs M.arrows tl).length := by
          have := (List.getElem?_eq_some_iff.mp hj).1
          rwa [List.length_map] at this
        have hk : (outs M.arrows tl)[j]? = some (outs M.arrows tl)[j] := List.getElem?_eq_getElem hjl
        have ex : x = nv (outs M.arrows tl)[j] := Option.some.inj (hj.symm.trans (nat_at hk))
        have hmk : (outs M.arrows tl)[j] ∈ outs M.arrows tl := List.getElem_mem hjl
        generalize (outs M.arrows tl)[j] = k at hk ex hmk
        subst ex
        obtain ⟨hd', har⟩ := mem_outs.mp hmk
        obtain ⟨t', hd2', cc, ha1, hc1, ht, hh, hE⟩ := ok.at (List.getElem?_eq_some_iff.mp har).1
        rw [har] at ha1
        cases ha1
        have hes5n : es'.length ≤ M.n := by
          have := nodup_le M.n 0 hnd5 (fun x hx => by
            obtain ⟨e, he, rfl⟩ := List.mem_map.mp hx
            exact ⟨Nat.zero_le _, by rw [Nat.zero_add]; exact (hes5 e he).2.2.2⟩)
          rwa [List.length_map] at this
        refine sq_set (rd_head T (hca.s s5) (ev_var rfl) (ev_var rfl) har) ?_
        rcases kn_val (es := es') (p := hd') with ⟨hv, hnm⟩ | ⟨e, he, hep, hv⟩
        · -- not known
          have e1 : EtE (tTest (tDNotIn (tVar 7) (tVar 2))) [some (.ref c), some (nv p), some (.ref dk), some (.ref l), some (nv i), some (nv tl), some (nv k), some (nv hd')] G' true := et_test (fun Q' k' => ⟨_, rfl, _, rfl, dk, none, rfl, by rw [← hv]; exact DGet.k (k := .inl (hd' : Int)) hd5, k'⟩)
          refine sx_yes e1 ?_
          -- known[head] = known[tail] + (arrow,)
          have hte : (tl, ta, tks) ∈ es' := by rw [hmore]; exact List.mem_append_left _ hmem
          have htv : valV (es'.map knV) (.inl (tl : Int)) = some (.ref ta) := by
            rcases kn_val (es := es') (p := tl) with ⟨_, hnm2⟩ | ⟨e2, he2, hep2, hv2⟩
            · exact (hnm2 (List.mem_map.mpr ⟨_, hte, rfl⟩)).elim
            · have : e2 = (tl, ta, tks) := by
                have hinj := hnd5
                exact nodup_fst hinj he2 hte hep2
              rw [hv2, this]
          obtain ⟨hNt, hwt, hlt, _⟩ := hes5 _ hte
          have hlt : tks.length < es'.length := hlt
          refine pl_seq ?_
          refine (show EvR (tOp (rCatA K) (tDGet (tVar 2) (tVar 5)) (tTup (tCons (tVar 6) tNil))) [some (.ref c), some (nv p), some (.ref dk), some (.ref l), some (nv i), some (nv tl), some (nv k), some (nv hd')] G' (fun v G2 => ∃ qt, v = .ref qt ∧ Same G' G2 ∧ NT G2 qt (tks ++ [k])) from fun Q' k' => ?_) _ fun v G2 hv2 => ?_
          · refine ⟨_, rfl, _, rfl, dk, _, rfl, by rw [← htv]; exact DGet.k (k := .inl (tl : Int)) hd5, ?_⟩
            refine ⟨_, rfl, by show 1 ≤ sizeLine; decide, fun u hu' => ?_⟩
            have hNt2 : NT (upd G' u (.tup [nv k])) ta tks := (same_upd hu') _ _ hNt
            refine ⟨ta, u, tks.map nv, [nv k], rfl, rfl, SqT.of hNt2, SqT.of upd_same, ?_, fun e => ?_, fun _ e => (by cases e), fun _ _ pp hpp => ?_⟩
            · rw [List.length_map]
              exact Nat.le_trans (show tks.length + 1 ≤ 1000 by omega) (by decide)
            · have : tks = [] := by
                cases tks with
                | nil => rfl
                | cons a b => simp at e
              subst this
              exact k' _ _ ⟨u, rfl, same_upd hu', upd_same⟩
            · refine k' _ _ ⟨pp, rfl, (same_upd hu').new hpp, ?_⟩
              show (upd _ pp _) pp = _
              rw [upd_same, List.map_append]
              rfl
          · obtain ⟨qt, rfl, s6, hNq⟩ := hv2
            refine ⟨_, rfl, _, rfl, dk, _, rfl, DPut.k (k := .inl (hd' : Int)) (s6 _ _ hd5) (by rw [List.length_map]; exact Nat.lt_of_le_of_lt (show es'.length ≤ 16 by omega) (by decide)), ?_⟩
            have hput : putK (es'.map knV) (.inl (hd' : Int)) (.ref qt) = (es' ++ [(hd', qt, tks ++ [k])]).map knV := by
              rw [putK_new _ hv, List.map_append]
              rfl
            have hput' : putK (es'.map knV) (Sum.inl ((hd' : Nat) : Int)) (.ref qt) = (es' ++ [(hd', qt, tks ++ [k])]).map knV := hput
            have hdne : ∀ {b o}, G2 b = some o → (∀ z, o ≠ .dK z) → b ≠ dk := fun e ho e2 => by
              rw [e2, s6 _ _ hd5] at e
              exact ho _ (Option.some.inj e).symm
            have s7 : Same H' (upd G2 dk (.dK (putK (es'.map knV) (Sum.inl ((hd' : Nat) : Int)) (.ref qt)))) := (s5.trans s6).mut hdk
            have keep : ∀ b o, G2 b = some o → (∀ z, o ≠ .dK z) → (upd G2 dk (.dK (putK (es'.map knV) (Sum.inl ((hd' : Nat) : Int)) (.ref qt)))) b = some o := fun b o e ho => by rw [upd_ne (hdne e ho)]; exact e
            have hd7 : (upd G2 dk (.dK (putK (es'.map knV) (Sum.inl ((hd' : Nat) : Int)) (.ref qt)))) dk = some (.dK ((es' ++ [(hd', qt, tks ++ [k])]).map knV)) := by rw [upd_same, hput']
            have hl7 := keep _ _ (s6 _ _ hl5) (fun z e => by cases e)
            have hq7 := keep _ _ (s6 _ _ hq5) (fun z e => by cases e)
            have hN7 : NT _ qt (tks ++ [k]) := keep _ _ hNq (fun z e => by cases e)
            have hes7 : ∀ e ∈ es', NT (upd G2 dk (.dK (putK (es'.map knV) (Sum.inl ((hd' : Nat) : Int)) (.ref qt)))) e.2.1 e.2.2 := fun e he => keep _ _ ((hes5 e he).1.kf s6.kf) (fun z e => by cases e)
            have hkE : kV (Sum.inl ((hd' : Nat) : Int)) = nv hd' := rfl
            generalize upd G2 dk (.dK (putK (es'.map knV) (Sum.inl ((hd' : Nat) : Int)) (.ref qt))) = G3 at s7 hd7 hl7 hq7 hN7 hes7
            -- order.append(head)
            refine pl_nx ?_
            refine sx_app (ev_var rfl) (ev_var rfl) hl7 (by rw [List.length_map]; omega) ?_
            have hlne : ∀ {b o}, G3 b = some o → (∀ z, o ≠ .lst z) → b ≠ l := fun e ho e2 => by
              rw [e2, hl7] at e
              exact ho _ (Option.some.inj e).symm
            refine ⟨es' ++ [(hd', qt, tks ++ [k])], _, _, rfl, s7.mut hlH, ?_, ?_, ?_, fun e he => ?_, ?_, ⟨more ++ [(hd', qt, tks ++ [k])], by rw [hmore, List.append_assoc]⟩, fun k' hk' h' ha' => ?_⟩
            · rw [upd_ne hql]; exact hq7
            · rw [upd_ne hld.symm]; exact hd7
            · rw [upd_same, List.map_append]; rfl
            · rw [List.length_append, List.length_singleton]
              rcases List.mem_append.mp he with he | he
              · obtain ⟨_, a2, a3, a4⟩ := hes5 e he
                refine ⟨?_, a2, by omega, a4⟩
                have z := hes7 e he
                show (upd G3 l _) e.2.1 = _
                rw [upd_ne (hlne z (fun z e => by cases e))]
                exact z
              · rw [List.mem_singleton.mp he]
                refine ⟨?_, hwt.snoc hE, ?_, hh⟩
                · show (upd G3 l _) qt = _
                  rw [upd_ne (hlne hN7 (fun z e => by cases e))]
                  exact hN7
                · show (tks ++ [k]).length < _
                  rw [List.length_append, List.length_singleton]
                  have : tks.length < es'.length := hlt
                  omega
            · rw [List.map_append]
              refine List.nodup_append.mpr ⟨hnd5, by simp, fun a ha b hb e => ?_⟩
              have : b = hd' := by simpa using hb
              rw [e, this] at ha
              exact hnm ha
            · rw [List.map_append]
              rw [List.take_add_one, hk] at hk'
              rcases List.mem_append.mp hk' with hk' | hk'
              · exact List.mem_append_left _ (hcl5 k' hk' h' ha')
              · have : k' = k := by simpa using hk'
                subst this
                rw [har] at ha'
                cases ha'
                exact List.mem_append_right _ (by simp)
        · have e1 : EtE (tTest (tDNotIn (tVar 7) (tVar 2))) [some (.ref c), some (nv p), some (.ref dk), some (.ref l), some (nv i), some (nv tl), some (nv k), some (nv hd')] G' false := et_test (fun Q' k' => ⟨_, rfl, _, rfl, dk, some (.ref e.2.1), rfl, by rw [← hv]; exact DGet.k (k := .inl (hd' : Int)) hd5, k'⟩)
          refine sx_no e1 ⟨es', _, _, rfl, s5, hq5, hd5, hl5, hes5, hnd5, ⟨more, hmore⟩, fun k' hk' h' ha' => ?_⟩
          rw [List.take_add_one, hk] at hk'
          rcases List.mem_append.mp hk' with hk' | hk'
          · exact hcl5 k' hk' h' ha'
          · have : k' = k := by simpa using hk'
            subst this
            rw [har] at ha'
            cases ha'
            exact List.mem_map.mpr ⟨e, he, hep⟩
      · rintro σ' G' ⟨es', o6, o7, rfl, s5, hq5, hd5, hl5, hes5, hnd5, ⟨more, hmore⟩, hcl5⟩
        rw [List.length_map, List.take_length] at hcl5
        refine pl_nx ?_
        refine ⟨.int i, rfl, ev_c _ ⟨i, 1, rfl, rfl, ?_⟩⟩
        refine ⟨M.n - (i + 1), by omega, es', i + 1, _, _, _, rfl, rfl, s5, hd5, hl5, hes5, hnd5, ?_, ?_, fun e he k h ha => ?_⟩
        · rw [hmore, List.length_append]; omega
        · rw [hmore, List.map_append]; exact List.mem_append_left _ h0
        · have htk : es'.take (i + 1) = es.take i ++ [(tl, ta, tks)] := by
            rw [hmore, List.take_append_of_le_length (by omega), List.take_add_one, hei]
            rfl
          rw [htk] at he
          rcases List.mem_append.mp he with he | he
          · rw [hmore, List.map_append]
            exact List.mem_append_left _ (hcl e he k h ha)
          · rw [List.mem_singleton.mp he] at ha
            exact hcl5 k (mem_outs.mpr ⟨h, ha⟩) h ha
    · have hil : i = es.length := by
        have := of_decide_eq_false hb
        rw [List.length_map] at this
        omega
      subst hil
      rw [List.take_length] at hcl
      have reach : ∀ u ks v, Wk M.E u ks v → u ∈ es.map (·.1) → v ∈ es.map (·.1) := fun u ks v hw => by
        induction hw with
        | nil u => exact id
        | cons e _ ih =>
          intro hu
          obtain ⟨e2, he2, rfl⟩ := List.mem_map.mp hu
          exact ih (hcl e2 he2 _ _ (Mt.E_inv e).1)
      obtain ⟨ks0, w0⟩ := ok.reach p hp
      have hpm := reach 0 ks0 p w0 h0
      rcases kn_val (es := es) (p := p) with ⟨_, hnm⟩ | ⟨e, he, hep, hv⟩
      · exact (hnm hpm).elim
      · obtain ⟨a1, a2, a3, a4⟩ := hes e he
        rw [hep] at a2
        refine pl_nx (pl_ret ⟨_, rfl, _, rfl, dk, _, rfl, by rw [← hv]; exact DGet.k (k := .inl (p : Int)) hd, ?_⟩)
        exact q G _ _ s a1 (by omega) a2
end
end K15
namespace K15
open PySem PySem.Spec PyProof.Rows L2 RZ
/-! ### even_leads -/
section
variable {P : Program} {w : World} {K : PySem.W.Frag} {mg : Str → Option Value} {base : Heap} {A : Ad} (T : Txt K mg A)
include T
theorem ok_even_leads (d : Df K mg "even_leads" s_even_leads ["meter"]) (c_find_drift : Cal P w K mg base 6 "find_drift" ["meter"] (sp_find_drift A)) (c_run_to : Cal P w K mg base 4 "run_to" ["chart", "place"] (sp_run_to A))
    (c_low_leads : Cal P w K mg base 8 "low_leads" ["meter"] (sp_low_leads A)) (c_high_leads : Cal P w K mg base 8 "high_leads" ["meter"] (sp_high_leads A)) (c_find_low_run : Cal P w K mg base 9 "find_low_run" ["meter", "place"] (sp_find_low_run A))
    (c_find_high_run : Cal P w K mg base 9 "find_high_run" ["meter", "place"] (sp_find_high_run A)) (c_UnevenInit : CalC P w K mg base 1 "Uneven" A.un ["self", "place", "one", "other"] (sp_UnevenInit A)) : Cal P w K mg base 10 "even_leads" ["meter"] (sp_even_leads A) := by
  refine d.ok sc_even_leads (fun vs H Q E h => ?_) (fun f cdv A' outer s H vs Q E hr h => ?_)
  · obtain ⟨m, M, rfl, _⟩ := h
    rfl
  · obtain ⟨m, M, rfl, hm, ok, q1, q2⟩ := h
    have hn16 : M.n ≤ 16 := ok.ch.n16
    have hn1 : 1 ≤ M.n := ok.ch.n1
    refine ⟨_, (pss_cons (ps_set (i := 1) sc_even_leads.nd rfl (.inl rfl) (pe_cal c_find_drift hr (by rfl) (pa_cons (pv 0) pa_nil)))
    (pss_cons (ps_if (pt_cmpR op_notNI (pv 1) pe_non (nomark _)) (pss_cons (ps_set (i := 2) sc_even_leads.nd rfl (.inl rfl) (pe_ix ix_any (pe_ix ix_any (pe_fld (pe_fld (pv 0) rfl) rfl) (pe_ix ix_any (pe_fld (pv 1) rfl) pe_int (fun _ _ => rfl)) (fun _ _ => rfl)) pe_int (fun _ _ => rfl)))
    (pss_cons (ps_set (i := 3) sc_even_leads.nd rfl (.inl rfl) (pe_cal c_run_to hr (by rfl) (pa_cons (pe_fld (pv 0) rfl) (pa_cons (pv 2) pa_nil))))
    (pss_one (ps_ret (pe_mkcal c_UnevenInit hr (by rfl) (pa_cons (pv 2) (pa_cons (pv 3) (pa_cons (pe_op op_catA (pv 3) (pe_fld (pv 1) rfl)) pa_nil)))))))) pss_nil)
    (pss_cons (ps_set (i := 4) sc_even_leads.nd rfl (.inl rfl) (pe_cal c_low_leads hr (by rfl) (pa_cons (pv 0) pa_nil)))
    (pss_cons (ps_set (i := 5) sc_even_leads.nd rfl (.inl rfl) (pe_cal c_high_leads hr (by rfl) (pa_cons (pv 0) pa_nil)))
    (pss_cons (ps_for PassesOwn.never rfl (pi_range1 (by rfl) T.z_range (pa_cons (pe_callB cr_len (by rfl) T.z_len (by decide +kernel) (pa_cons (pv 4) pa_nil)) pa_nil)) (pg_name (i := 2) sc_even_leads.nd rfl (.inl rfl)) (pss_one (ps_if (pt_cmpR op_ltI (pe_ix ix_any (pv 4) (pv 2) (fun _ _ => rfl)) (pe_ix ix_any (pv 5) (pv 2) (fun _ _ => rfl)) (nomark _)) (pss_one (ps_ret (pe_mkcal c_UnevenInit hr (by rfl) (pa_cons (pv 2) (pa_cons (pe_cal c_find_low_run hr (by rfl) (pa_cons (pv 0) (pa_cons (pv 2) pa_nil))) (pa_cons (pe_cal c_find_high_run hr (by rfl) (pa_cons (pv 0) (pa_cons (pv 2) pa_nil))) pa_nil)))))) pss_nil)))
    (pss_one (ps_ret (pv 4)))))))), ?_⟩
    refine sq_setR (Pc := fun v H' => Same H H' ∧ ((v = .non ∧ NoDrift M [1, -1]) ∨ ∃ p, v = .ref p ∧ H p = none ∧ DriftRes A M [1, -1] H' p)) (ev_callR (ea_cons (ev_var rfl) ea_nil) (fun Q2 k2 => ⟨m, M, rfl, hm, ok, fun hn H' s => k2 _ _ ⟨s, .inl ⟨rfl, hn⟩⟩, fun H' p s hp hD => k2 _ _ ⟨s, .inr ⟨p, rfl, hp, hD⟩⟩⟩)) fun v H1 hv => ?_
    obtain ⟨s1, hv⟩ := hv
    have hm1 := hm.s s1
    rcases hv with ⟨rfl, hno⟩ | ⟨p, rfl, hp, ks, st, hDr, hR, hnd, hk16⟩
    · refine sq_if (et_test (ev_notN0 (ev_var rfl))) (fun z => by cases z) fun _ => pl_nx ?_
      refine sq_setR (Pc := fun v H' => ∃ l ls, v = .ref l ∧ Same H1 H' ∧ H1 l = none ∧ IsRow M (-1) ls ∧ IT H' l ls) (ev_callR (ea_cons (ev_var rfl) ea_nil) (fun Q2 k2 => ⟨m, M, rfl, hm1, ok, hno.low, fun H' p ls s hp hR hT => k2 _ _ ⟨p, ls, rfl, s, hp, hR, hT⟩⟩)) fun v H2 hv => ?_
      obtain ⟨l, ls, rfl, s2, hl, hRl, hTl⟩ := hv
      have hm2 := hm1.s s2
      refine sq_setR (Pc := fun v H' => ∃ g hs, v = .ref g ∧ Same H2 H' ∧ IsRow M 1 hs ∧ IT H' g hs) (ev_callR (ea_cons (ev_var rfl) ea_nil) (fun Q2 k2 => ⟨m, M, rfl, hm2, ok, hno.high, fun H' p ls s hp hR hT => k2 _ _ ⟨p, ls, rfl, s, hR, hT⟩⟩)) fun v H3 hv => ?_
      obtain ⟨g, hs, rfl, s3, hRh, hTh⟩ := hv
      have hTl3 : IT H3 l ls := hTl.kf s3.kf
      have hle : ∀ p, p < M.n → ls.getD p 0 ≤ hs.getD p 0 := fun p hp => by
        obtain ⟨⟨kl, wl, el⟩, _⟩ := hRl.2 p hp
        obtain ⟨_, hu⟩ := hRh.2 p hp
        have := hu kl wl
        omega
      refine pl_seq ?_
      refine rd_forRng1 (n := M.n) (ea_cons ((ev_len (ev_var rfl) (SqA.t hTl3)).is (x := nv M.n) (by rw [List.length_map, hRl.1]; rfl)) ea_nil) (by omega)
        (fun i σ' H' => ∃ (o2 o3 : Option V), σ' = [some (.ref m), some .non, o2, o3, some (.ref l), some (.ref g)] ∧ Same H3 H' ∧ ∀ p, p < i → ls.getD p 0 = hs.getD p 0) ⟨_, _, rfl, Same.refl _, fun p hp => by omega⟩ (fun i σ' H' hi hP => ?_) (fun σ' H' hP => ?_)
      · obtain ⟨o2, o3, rfl, s4, heq⟩ := hP
        have hTl4 : IT H' l ls := hTl3.kf s4.kf
        have hTh4 : IT H' g hs := hTh.kf s4.kf
        have hm4 := (hm2.s s3).s s4
        refine sx_if (et_test (ev_lt (ev_ixn (ev_var rfl) (ev_var rfl) (SqA.t hTl4) (int_at (getD_at (by rw [hRl.1]; exact hi)))) (ev_ixn (ev_var rfl) (ev_var rfl) (SqA.t hTh4) (int_at (getD_at (by rw [hRh.1]; exact hi)))))) (fun hb => ?_) (fun hb => ?_)
        · have hlt := of_decide_eq_true hb
          refine pl_ret (pl_make (pl_cons (ev_var rfl _ (pl_cons ?_))))
          refine ev_callR (Pc := fun v H5 => ∃ a ks, v = .ref a ∧ Same H' H5 ∧ NT H5 a ks ∧ ks.length ≤ 16 ∧ Wk M.E 0 ks i ∧ ∀ ks', Wk M.E 0 ks' i → -1 * (M.first + gn M.E ks') ≤ -1 * (M.first + gn M.E ks)) (ea_cons (ev_var rfl) (ea_cons (ev_var rfl) ea_nil)) (fun Q2 k2 => ⟨m, M, i, rfl, hm4, ok, hi, hno.low, fun H5 a ks s ha hN hl hw hb => k2 _ _ ⟨a, ks, rfl, s, hN, hl, hw, hb⟩⟩) _ fun v H5 hv => ?_
          obtain ⟨a, ks, rfl, s5, hN, hk1, hw, hbst⟩ := hv
          refine pl_cons ?_
          refine ev_callR (Pc := fun v H6 => ∃ a ks, v = .ref a ∧ Same H5 H6 ∧ NT H6 a ks ∧ ks.length ≤ 16 ∧ Wk M.E 0 ks i ∧ ∀ ks', Wk M.E 0 ks' i → 1 * (M.first + gn M.E ks') ≤ 1 * (M.first + gn M.E ks)) (ea_cons (ev_var rfl) (ea_cons (ev_var rfl) ea_nil)) (fun Q2 k2 => ⟨m, M, i, rfl, hm4.s s5, ok, hi, hno.high, fun H5 a ks s ha hN hl hw hb => k2 _ _ ⟨a, ks, rfl, s, hN, hl, hw, hb⟩⟩) _ fun v H6 hv => ?_
          obtain ⟨b, ks2, rfl, s6, hN2, hk2, hw2, hbst2⟩ := hv
          have hN6 : NT H6 a ks := hN.kf s6.kf
          intro x dx nx ndx nex
          have hax : a ≠ x := ne_of_none hN6 nx
          have hbx : b ≠ x := ne_of_none hN2 nx
          have e1 := hRl.best (.inr rfl) hi hw hbst
          have e2 := hRh.best (.inl rfl) hi hw2 hbst2
          refine ⟨x, a, b, dx, i, ks, ks2, rfl, upd_same, ?_, ?_, fun H8 hk8 hU => ⟨rfl, ?_⟩⟩
          · show (upd (upd H6 dx _) x _) a = _
            rw [upd_ne hax, upd_ne (ne_of_none hN6 ndx)]
            exact hN6
          · show (upd (upd H6 dx _) x _) b = _
            rw [upd_ne hbx, upd_ne (ne_of_none hN2 ndx)]
            exact hN2
          · have sA := ((((s1.trans s2).trans s3).trans s4).trans s5).trans s6
            refine q1 H8 x i ks ks2 (sA.trans (made_same nx ndx hk8)) (sA.free nx) hi hw hw2 (fun e => ?_) (by omega) (by omega) hU
            omega
        · have hlt := of_decide_eq_false hb
          refine ⟨_, _, rfl, s4, fun p hp => ?_⟩
          by_cases hpi : p < i
          · exact heq p hpi
          · have : p = i := by omega
            subst this
            have := hle p hi
            omega
      · obtain ⟨o2, o3, rfl, s4, heq⟩ := hP
        have e : ls = hs := list_eq_getD (by rw [hRl.1, hRh.1]) fun p hp => heq p (by rw [hRl.1] at hp; exact hp)
        have hl0 : H l = none := s1.free hl
        refine pl_nx (sx_ret (ev_var rfl) (q2 H' l ls (((s1.trans s2).trans s3).trans s4) hl0 hno hRl (by rw [e]; exact hRh) (hTl3.kf s4.kf)))
    · refine sq_if (et_test (ev_notN2 (ev_var rfl))) (fun _ => ?_) (fun z => by cases z)
      obtain ⟨dx, pr, hp1, hpr⟩ := hDr
      obtain ⟨ch, hch, hca⟩ := rd_chart (H := H1) (σ := [some (.ref m), some (.ref p), none, none, none, none]) (ta := tVar 0) T hm1 (ev_var rfl)
      obtain ⟨k0, kr, hks⟩ := List.exists_cons_of_ne_nil hR.ne
      have hwk := hR.wk
      rw [hks] at hwk
      obtain ⟨hd, g, hE⟩ : ∃ hd g, M.E[k0]? = some (st, hd, g) := by
        cases hwk with
        | cons e _ => exact ⟨_, _, e⟩
      have hring : EvE (tFld K (tVar 1) "ring") [some (.ref m), some (.ref p), none, none, none, none] H1 (.ref pr) := ev_fld (ev_var rfl) hp1 T.cl_dr T.n_dr_ring (drF_ring _ _)
      refine sq_set (rd_tail T hca hch (ev_ixn (n := 0) hring ev_c (SqA.t hpr) (by rw [hks]; rfl)) (Mt.E_inv hE).1) ?_
      obtain ⟨ch2, hch2, hca2⟩ := rd_chart (H := H1) (σ := [some (.ref m), some (.ref p), some (nv st), none, none, none]) (ta := tVar 0) T hm1 (ev_var rfl)
      refine sq_setR (Pc := fun v H2 => ∃ a run, v = .ref a ∧ Same H1 H2 ∧ NT H2 a run ∧ run.length ≤ 16 ∧ Wk M.E 0 run st) (ev_callR (ea_cons hch2 (ea_cons (ev_var rfl) ea_nil)) (fun Q2 k2 => ⟨ch2, M, st, rfl, hca2, ok, hR.lt, fun H2 a run s hN hl hw => k2 _ _ ⟨a, run, rfl, s, hN, hl, hw⟩⟩)) fun v H2 hv => ?_
      obtain ⟨a, run, rfl, s2, hN, hl, hw⟩ := hv
      have hp2 := s2 _ _ hp1
      have hpr2 : NT H2 pr ks := hpr.kf s2.kf
      refine pl_ret (pl_make (pl_cons (ev_var rfl _ (pl_cons (ev_var rfl _ (pl_cons ?_))))))
      refine ev_catA (ev_var rfl) (ev_fld (ev_var rfl) hp2 T.cl_dr T.n_dr_ring (drF_ring _ _)) hN hpr2 (by rw [List.length_map, List.length_map]; omega) _ fun v H3 hv => ?_
      obtain ⟨b, rfl, s3, hb⟩ := hv
      have hN3 : NT H3 a run := hN.kf s3.kf
      have hb3 : NT H3 b (run ++ ks) := by
        show H3 b = _
        rw [hb, List.map_append]
      intro x dx nx ndx nex
      have hax : a ≠ x := ne_of_none hN3 nx
      have hbx : b ≠ x := ne_of_none hb3 nx
      refine ⟨x, a, b, dx, st, run, run ++ ks, rfl, upd_same, ?_, ?_, fun H8 hk8 hU => ⟨rfl, ?_⟩⟩
      · show (upd (upd H3 dx _) x _) a = _
        rw [upd_ne hax, upd_ne (ne_of_none hN3 ndx)]
        exact hN3
      · show (upd (upd H3 dx _) x _) b = _
        rw [upd_ne hbx, upd_ne (ne_of_none hb3 ndx)]
        exact hb3
      · have sA := (s1.trans s2).trans s3
        refine q1 H8 x st run (run ++ ks) (sA.trans (made_same nx ndx hk8)) (sA.free nx) hR.lt hw (hw.append hR.wk) (fun e => ?_) (by omega) (by rw [List.length_append]; omega) hU
        rw [gn_append] at e
        obtain ⟨sg, _, h0⟩ := hR.sg
        rw [show gn M.E ks = 0 by omega] at h0
        omega
end
end K15
namespace K15
open PySem PySem.Spec PyProof.Rows L2 RZ
/-! ### behind_places, part_of, parts_of -/
/-- x lies behind u -/
def Bh (M : Mt) (u x : Nat) : Prop := ∃ ks, ks ≠ [] ∧ Wk M.E u ks x
theorem Bh.trans {M : Mt} {a b c : Nat} (h : Bh M a b) (h2 : Bh M b c) : Bh M a c := by
  obtain ⟨k1, n1, w1⟩ := h
  obtain ⟨k2, _, w2⟩ := h2
  exact ⟨k1 ++ k2, by simp [n1], w1.append w2⟩
theorem Bh.snoc {M : Mt} {a b c k : Nat} {g : Int} (h : Bh M a b) (e : M.E[k]? = some (b, c, g)) : Bh M a c := h.trans ⟨[k], by simp, .one e⟩
theorem Bh.lt {M : Mt} (ok : M.Ok) {a b : Nat} (h : Bh M a b) : a < M.n ∧ b < M.n := by
  obtain ⟨ks, hn, w⟩ := h
  cases w with
  | nil => exact (hn rfl).elim
  | cons e w2 =>
    have h1 := ok.E_lt _ (List.mem_of_getElem? e)
    exact ⟨h1.1, w2.lt ok.E_lt h1.2⟩
def sp_behind_places (A : Ad) : Sp := fun vs H Q _ => ∃ (c : Addr) (M : Mt) (p : Nat), vs = [.ref c, nv p] ∧ ChartAt A H c M.costs M.arrows ∧ M.Ok ∧ p < M.n ∧ ∀ H' q fs, Same H H' → H q = none → NL H' q fs → fs.Nodup → (∀ x, x ∈ fs ↔ Bh M p x) → Q (.ref q) H'
/-- the places on a ring with p -/
structure IsPart (M : Mt) (p : Nat) (L : List Nat) : Prop where
  self : p ∈ L
  nd : L.Nodup
  mem : ∀ x, x ∈ L ↔ Bh M p x ∧ Bh M x p
  up : L.Pairwise (· ≤ ·)
def sp_part_of (A : Ad) : Sp := fun vs H Q _ => ∃ (c : Addr) (M : Mt) (p : Nat), vs = [.ref c, nv p] ∧ ChartAt A H c M.costs M.arrows ∧ M.Ok ∧ p < M.n ∧ (¬ Bh M p p → ∀ H', Same H H' → Q .non H') ∧ (∀ H' q L, Same H H' → H q = none → NT H' q L → IsPart M p L → Q (.ref q) H')
structure Parts (M : Mt) (Ls : List (Nat × List Nat)) : Prop where
  part : ∀ e ∈ Ls, IsPart M e.1 e.2 ∧ ∃ r, e.2 = e.1 :: r
  nd : (Ls.map (·.1)).Nodup
def sp_parts_of (A : Ad) : Sp := fun vs H Q _ => ∃ (c : Addr) (M : Mt), vs = [.ref c] ∧ ChartAt A H c M.costs M.arrows ∧ M.Ok ∧ ∀ H' q ps Ls, Same H H' → H q = none → H' q = some (.tup (ps.map V.ref)) → Each (fun a (e : Nat × List Nat) => NT H' a e.2) ps Ls → Parts M Ls → (∀ x, Bh M x x → ∃ e ∈ Ls, x ∈ e.2) → Q (.ref q) H'
theorem nodup_lt {f : List Nat} {n : Nat} (h : f.Nodup) (hl : ∀ x ∈ f, x < n) : f.length ≤ n := nodup_le n 0 h fun x hx => ⟨Nat.zero_le _, by rw [Nat.zero_add]; exact hl x hx⟩
theorem fmI_filter (p : Nat → Bool) : ∀ (l : List Nat) (k : Nat), fmI (fun _ x => match x with | .int z => if p z.toNat = true then some x else none | _ => none) k (l.map nv) = (l.filter p).map nv
  | [], _ => rfl
  | x :: l, k => by
    show ((if p ((x : Int)).toNat = true then some (nv x) else none).toList ++ fmI _ (k + 1) (l.map nv)) = _
    rw [fmI_filter p l (k + 1), Int.toNat_natCast, List.filter_cons]
    by_cases h : p x = true
    · rw [if_pos h, if_pos h]; rfl
    · rw [if_neg h, if_neg h]; rfl
section
variable {P : Program} {w : World} {K : PySem.W.Frag} {mg : Str → Option Value} {base : Heap} {A : Ad} (T : Txt K mg A)
include T
theorem ok_behind_places (d : Df K mg "behind_places" s_behind_places ["chart", "place"]) (c_Chartouts : CalM P w K mg base 3 A.ch "outs" ["self", "place"] (sp_Chartouts A)) : Cal P w K mg base 4 "behind_places" ["chart", "place"] (sp_behind_places A) := by
  refine d.ok sc_behind_places (fun vs H Q E h => ?_) (fun f cdv A' outer s H vs Q E hr h => ?_)
  · obtain ⟨c, M, p, rfl, _⟩ := h
    rfl
  · obtain ⟨c, M, p, rfl, hca, ok, hp, q⟩ := h
    have hn16 : M.n ≤ 16 := ok.ch.n16
    have h32 := ok.ch.a32
    refine ⟨_, (pss_cons (ps_set (i := 2) sc_behind_places.nd rfl (.inl rfl) (pe_lst pa_nil))
    (pss_cons (ps_set (i := 3) sc_behind_places.nd rfl (.inl rfl) (pe_lst (pa_cons (pv 1) pa_nil)))
    (pss_cons (ps_while PassesOwn.never (pt_tru (pv 3) (by intro _; rfl)) (pss_cons (ps_set (i := 4) sc_behind_places.nd rfl (.inl rfl) (pe_bm0 PySem.F.plainAttrs_list PySem.F.slot_list_pop PySem.F.type_list_pop mt_pop (pv 3)))
    (pss_one (ps_for PassesOwn.never rfl (pi_seq (pe_mcal c_Chartouts hr (pv 0) (pa_cons (pv 4) pa_nil))) (pg_name (i := 5) sc_behind_places.nd rfl (.inl rfl)) (pss_cons (ps_set (i := 6) sc_behind_places.nd rfl (.inl rfl) (pe_ix ix_any (pe_ix ix_any (pe_fld (pv 0) rfl) (pv 5) (fun _ _ => rfl)) pe_int (fun _ _ => rfl)))
    (pss_one (ps_if (pt_cmpR op_notIn_seq (pv 6) (pv 2) (by rfl)) (pss_cons (ps_expr (pe_bm PySem.F.plainAttrs_list PySem.F.slot_list_append PySem.F.type_list_append mt_append (pv 2) (pa_cons (pv 6) pa_nil)))
    (pss_one (ps_expr (pe_bm PySem.F.plainAttrs_list PySem.F.slot_list_append PySem.F.type_list_append mt_append (pv 3) (pa_cons (pv 6) pa_nil))))) pss_nil)))))))
    (pss_one (ps_ret (pv 2)))))), ?_⟩
    refine pl_seq (pl_set ⟨Nat.zero_le _, fun fa hfa => ?_⟩)
    have s0 : Same H (upd H fa (.lst [])) := same_upd hfa
    have hf0 : NL (upd H fa (.lst [])) fa [] := upd_same
    generalize upd H fa (.lst []) = H0 at s0 hf0
    refine pl_nx (pl_seq (pl_set (pl_lst (pl_cons (ev_var rfl _ ⟨by show 1 ≤ sizeLine; decide, fun wa hwa0 => ?_⟩)))))
    have s1 : Same H (upd H0 wa (.lst [nv p])) := s0.new hwa0
    have hw1 : NL (upd H0 wa (.lst [nv p])) wa [p] := upd_same
    have hf1 : NL (upd H0 wa (.lst [nv p])) fa [] := (same_upd hwa0) _ _ hf0
    have hwa : H wa = none := s0.free hwa0
    have hfw : fa ≠ wa := ne_of_none hf0 hwa0
    generalize upd H0 wa (.lst [nv p]) = H1 at s1 hw1 hf1
    refine pl_nx (pl_seq ?_)
    refine rd_while (fun m σ' G => ∃ (fs ws : List Nat) (o4 o5 o6 : Option V), σ' = [some (.ref c), some (nv p), some (.ref fa), some (.ref wa), o4, o5, o6] ∧ m = 2 * (M.n - fs.length) + ws.length ∧ m ≤ 2 * M.n + 1 ∧ Same H G ∧ NL G fa fs ∧ NL G wa ws ∧ fs.Nodup ∧ (∀ x ∈ fs, Bh M p x) ∧
        (∀ x ∈ ws, x = p ∨ x ∈ fs) ∧ ∀ x, (x = p ∨ x ∈ fs) → x ∈ ws ∨ ∀ (k h : Nat), M.arrows[k]? = some (x, h) → h ∈ fs)
      ⟨_, [], [p], _, _, _, rfl, rfl, by simp, s1, hf1, hw1, List.nodup_nil, fun x hx => by simp at hx, fun x hx => .inl (by simpa using hx), fun x hx => .inl (by rcases hx with rfl | hx <;> simp_all)⟩ ?_
    rintro m0 σ' G ⟨fs, ws, o4, o5, o6, rfl, rfl, hm0, s, hf, hw, hnd, hbh, hws, hcl⟩
    refine ⟨!(ws.map nv).isEmpty, et_tru (ev_var rfl) (tru_seq (SqA.l hw)), fun hb => ?_, fun hb => ?_⟩
    · have hne : ws ≠ [] := fun e => by rw [e] at hb; simp at hb
      have hlast : ws = ws.dropLast ++ [ws.getLast hne] := (List.dropLast_concat_getLast hne).symm
      generalize ws.getLast hne = tl at hlast
      generalize ws.dropLast = w0 at hlast
      subst hlast
      have hlast2 : ((w0 ++ [tl]).map nv)[((w0 ++ [tl]).map nv).length - 1]? = some (nv tl) := by
        rw [List.length_map, List.length_append, List.length_singleton, Nat.add_sub_cancel, List.getElem?_map, List.getElem?_append_right (Nat.le_refl _), Nat.sub_self]
        rfl
      have hdrop : ((w0 ++ [tl]).map nv).dropLast = w0.map nv := by rw [List.map_append, List.map_singleton, List.dropLast_concat]
      refine pl_seq (pl_set (ev_var rfl _ ⟨tyl hw, wa, _, _, rfl, rfl, hw, hlast2, ?_⟩))
      rw [hdrop]
      have s2 : Same H (upd G wa (.lst (w0.map nv))) := s.mut hwa
      have hw2 : NL (upd G wa (.lst (w0.map nv))) wa w0 := upd_same
      have hf2 : NL (upd G wa (.lst (w0.map nv))) fa fs := by
        show (upd G wa _) fa = _
        rw [upd_ne hfw]
        exact hf
      generalize upd G wa (.lst (w0.map nv)) = G1 at s2 hw2 hf2
      have htl : tl < M.n := by
        rcases hws tl (by simp) with e | e
        · rw [e]; exact hp
        · exact ((hbh tl e).lt ok).2
      have htlp : ∀ {k h : Nat} {g : Int}, M.E[k]? = some (tl, h, g) → Bh M p h := fun e => by
        rcases hws tl (by simp) with e2 | e2
        · rw [e2] at e
          exact ⟨[_], by simp, .one e⟩
        · exact (hbh tl e2).snoc e
      refine pl_nx ?_
      refine rd_forSeq (ev_outs (hca.s s2) htl h32 (ev_var rfl) (ev_var rfl)) fun v G2 hv => ?_
      obtain ⟨qa, rfl, s3, hqa, hNo⟩ := hv
      have hqf : qa ≠ fa := (ne_of_none hf2 hqa).symm
      have hqw : qa ≠ wa := (ne_of_none hw2 hqa).symm
      refine ⟨qa, _, rfl, SqA.t hNo, fun j σ' G' => ∃ (fs' ws' : List Nat) (o5 o6 : Option V), σ' = [some (.ref c), some (nv p), some (.ref fa), some (.ref wa), some (nv tl), o5, o6] ∧ 2 * (M.n - fs'.length) + ws'.length + 1 ≤ 2 * (M.n - fs.length) + (w0 ++ [tl]).length ∧ Same H G' ∧ NT G' qa (outs M.arrows tl) ∧ NL G' fa fs' ∧ NL G' wa ws' ∧ fs'.Nodup ∧ (∀ x ∈ fs', Bh M p x) ∧
          (∀ x ∈ ws', x = p ∨ x ∈ fs') ∧ (∀ x, (x = p ∨ x ∈ fs') → x ∈ ws' ∨ x = tl ∨ ∀ (k h : Nat), M.arrows[k]? = some (x, h) → h ∈ fs') ∧ ∀ k ∈ (outs M.arrows tl).take j, ∀ (h : Nat), M.arrows[k]? = some (tl, h) → h ∈ fs',
        ⟨fs, w0, _, _, rfl, by rw [List.length_append, List.length_singleton]; omega, s2.trans s3, hNo, s3 _ _ hf2, s3 _ _ hw2, hnd, hbh, fun x hx => hws x (by simp [hx]), fun x hx => ?_, fun k hk => by simp at hk⟩,
        fun j σ' G' z => by obtain ⟨_, _, _, _, _, _, _, z, _⟩ := z; intro o ho; rw [hNo] at ho; rw [← ho]; exact z, ?_, ?_⟩
      · rcases hcl x hx with h | h
        · rcases List.mem_append.mp h with h | h
          · exact .inl h
          · exact .inr (.inl (by simpa using h))
        · exact .inr (.inr h)
      · rintro j x σ' G' hj ⟨fs', ws', o5, o6, rfl, hms, s4, hq4, hf4, hw4, hnd4, hbh4, hws4, hcl4, hdo4⟩
        have hjl : j < (outs M.arrows tl).length := by
          have := (List.getElem?_eq_some_iff.mp hj).1
          rwa [List.length_map] at this
        have hk : (outs M.arrows tl)[j]? = some (outs M.arrows tl)[j] := List.getElem?_eq_getElem hjl
        have ex : x = nv (outs M.arrows tl)[j] := Option.some.inj (hj.symm.trans (nat_at hk))
        have hmk : (outs M.arrows tl)[j] ∈ outs M.arrows tl := List.getElem_mem hjl
        generalize (outs M.arrows tl)[j] = k at hk ex hmk
        subst ex
        obtain ⟨hd', har⟩ := mem_outs.mp hmk
        obtain ⟨t', hd2', cc, ha1, hc1, ht, hh, hE⟩ := ok.at (List.getElem?_eq_some_iff.mp har).1
        rw [har] at ha1
        cases ha1
        refine sq_set (rd_head T (hca.s s4) (ev_var rfl) (ev_var rfl) har) ?_
        refine sx_if (et_test (ev_notin (ev_var rfl) (ev_var rfl) (SqA.l hf4))) (fun hb => ?_) (fun hb => ?_)
        · have hnm : hd' ∉ fs' := fun h => by simp [h] at hb
          have hnd5 : (fs' ++ [hd']).Nodup := List.nodup_append.mpr ⟨hnd4, by simp, fun a ha b hb e => by
            have : b = hd' := by simpa using hb
            rw [e, this] at ha
            exact hnm ha⟩
          have hlen := nodup_lt hnd5 (n := M.n) (fun x hx => by
            rcases List.mem_append.mp hx with hx | hx
            · exact ((hbh4 x hx).lt ok).2
            · rw [List.mem_singleton.mp hx]; exact hh)
          rw [List.length_append, List.length_singleton] at hlen
          refine sq_app (ev_var rfl) (ev_var rfl) hf4 (by rw [List.length_map]; omega) ?_
          have hw5 : (upd G' fa (.lst (fs'.map nv ++ [nv hd']))) wa = some (.lst (ws'.map nv)) := by rw [upd_ne hfw.symm]; exact hw4
          rw [List.length_append, List.length_singleton] at hms hm0
          refine sx_app (ev_var rfl) (ev_var rfl) hw5 (by rw [List.length_map]; omega) ?_
          refine ⟨fs' ++ [hd'], ws' ++ [hd'], _, _, rfl, ?_, (s4.mut hfa).mut hwa, ?_, ?_, ?_, hnd5, fun x hx => ?_, fun x hx => ?_, fun x hx => ?_, fun k' hk' h' ha' => ?_⟩
          · simp only [List.length_append, List.length_singleton]
            omega
          · show (upd (upd G' fa _) wa _) qa = _
            rw [upd_ne hqw, upd_ne hqf]
            exact hq4
          · show (upd (upd G' fa _) wa _) fa = _
            rw [upd_ne hfw, upd_same, List.map_append]
            rfl
          · show (upd (upd G' fa _) wa _) wa = _
            rw [upd_same, List.map_append]
            rfl
          · rcases List.mem_append.mp hx with hx | hx
            · exact hbh4 x hx
            · rw [List.mem_singleton.mp hx]
              exact htlp hE
          · rcases List.mem_append.mp hx with hx | hx
            · rcases hws4 x hx with h | h
              · exact .inl h
              · exact .inr (List.mem_append_left _ h)
            · exact .inr (List.mem_append_right _ hx)
          · by_cases hx1 : x = p ∨ x ∈ fs'
            · rcases hcl4 x hx1 with h | h | h
              · exact .inl (List.mem_append_left _ h)
              · exact .inr (.inl h)
              · exact .inr (.inr fun k h2 e => List.mem_append_left _ (h k h2 e))
            · refine .inl (List.mem_append_right _ ?_)
              rcases hx with hx | hx
              · exact (hx1 (.inl hx)).elim
              · rcases List.mem_append.mp hx with hx | hx
                · exact (hx1 (.inr hx)).elim
                · exact hx
          · rw [List.take_add_one, hk] at hk'
            rcases List.mem_append.mp hk' with hk' | hk'
            · exact List.mem_append_left _ (hdo4 k' hk' h' ha')
            · have : k' = k := by simpa using hk'
              subst this
              rw [har] at ha'
              cases ha'
              exact List.mem_append_right _ (by simp)
        · have hm : hd' ∈ fs' := by
            refine Classical.byContradiction fun h => ?_
            simp [h] at hb
          refine ⟨fs', ws', _, _, rfl, hms, s4, hq4, hf4, hw4, hnd4, hbh4, hws4, hcl4, fun k' hk' h' ha' => ?_⟩
          rw [List.take_add_one, hk] at hk'
          rcases List.mem_append.mp hk' with hk' | hk'
          · exact hdo4 k' hk' h' ha'
          · have : k' = k := by simpa using hk'
            subst this
            rw [har] at ha'
            cases ha'
            exact hm
      · rintro σ' G' ⟨fs', ws', o5, o6, rfl, hms, s4, hq4, hf4, hw4, hnd4, hbh4, hws4, hcl4, hdo4⟩
        rw [List.length_map, List.take_length] at hdo4
        refine ⟨2 * (M.n - fs'.length) + ws'.length, by omega, fs', ws', _, _, _, rfl, rfl, by omega, s4, hf4, hw4, hnd4, hbh4, hws4, fun x hx => ?_⟩
        rcases hcl4 x hx with h | h | h
        · exact .inl h
        · subst h
          exact .inr fun k h e => hdo4 k (mem_outs.mpr ⟨h, e⟩) h e
        · exact .inr h
    · have e : ws = [] := by
        cases ws with
        | nil => rfl
        | cons a b => simp at hb
      subst e
      have hcl' : ∀ x, (x = p ∨ x ∈ fs) → ∀ (k h : Nat), M.arrows[k]? = some (x, h) → h ∈ fs := fun x hx => (hcl x hx).resolve_left (by simp)
      have key : ∀ u ks v, Wk M.E u ks v → (u = p ∨ u ∈ fs) → ks ≠ [] → v ∈ fs := fun u ks v hw => by
        induction hw with
        | nil u => intro _ h; exact (h rfl).elim
        | @cons u h w k g ks e hw2 ih =>
          intro hu _
          have hm := hcl' u hu k h (Mt.E_inv e).1
          by_cases hks : ks = []
          · subst hks
            cases hw2
            exact hm
          · exact ih (.inr hm) hks
      refine pl_nx (pl_ret (ev_var rfl _ (q G fa fs s hfa hf hnd fun x => ⟨hbh x, fun h => ?_⟩)))
      obtain ⟨ks, hn, hw⟩ := h
      exact key p ks x hw (.inl rfl) hn
theorem ev_behind {σ : L2.St} {H : Hp} {ta tb : TE} {c : Addr} {M : Mt} {p : Nat} (hc : ChartAt A H c M.costs M.arrows) (ok : M.Ok) (hp : p < M.n) (ha : EvE ta σ H (.ref c)) (hb : EvE tb σ H (nv p)) :
    EvR (tCall (sp_behind_places A) [] E0 (tCons ta (tCons tb tNil))) σ H (fun v H' => ∃ q fs, v = .ref q ∧ Same H H' ∧ H q = none ∧ NL H' q fs ∧ fs.Nodup ∧ ∀ x, x ∈ fs ↔ Bh M p x) :=
  ev_callR (ea_cons ha (ea_cons hb ea_nil)) fun Q k => ⟨c, M, p, rfl, hc, ok, hp, fun H' q fs s hq hN hnd hm => k _ _ ⟨q, fs, rfl, s, hq, hN, hnd, hm⟩⟩
theorem ok_part_of (d : Df K mg "part_of" s_part_of ["chart", "place"]) (c_check_place : Cal P w K mg base 2 "check_place" ["chart", "place"] (sp_check_place A)) (c_behind_places : Cal P w K mg base 4 "behind_places" ["chart", "place"] (sp_behind_places A)) :
    Cal P w K mg base 5 "part_of" ["chart", "place"] (sp_part_of A) := by
  classical
  refine d.ok sc_part_of (fun vs H Q E h => ?_) (fun f cdv A' outer s H vs Q E hr h => ?_)
  · obtain ⟨c, M, p, rfl, _⟩ := h
    rfl
  · obtain ⟨c, M, p, rfl, hca, ok, hp, q1, q2⟩ := h
    have hn16 : M.n ≤ 16 := ok.ch.n16
    refine ⟨_, (pss_cons (ps_expr (pe_cal c_check_place hr (by rfl) (pa_cons (pv 0) (pa_cons (pv 1) pa_nil))))
    (pss_cons (ps_set (i := 2) sc_part_of.nd rfl (.inl rfl) (pe_cal c_behind_places hr (by rfl) (pa_cons (pv 0) (pa_cons (pv 1) pa_nil))))
    (pss_cons (ps_if (pt_cmpR op_notIn_seq (pv 1) (pv 2) (by rfl)) (pss_one (ps_ret pe_non)) pss_nil)
    (pss_one (ps_ret (pe_callTy cr_tup (by rfl) T.z_tuple (by decide +kernel) (pa_cons (pe_lc (own := [("other", 3)]) (g := (gName 3)) (tt := (tTest (tOp (rIn K false) (tVar 1) (tCall (sp_behind_places A) [] E0 (tCons (tVar 0) (tCons (tVar 3) tNil)))))) (te := (tVar 3)) rfl sc_part_of.nd (pi_seq (pe_callB cr_sorted (by rfl) T.z_sorted (by decide +kernel) (pa_cons (pv 2) pa_nil))) (blkOk_by (N := ["chart", "place", "found", "other"]) (own := [("other", 3)]) (sc := defScope s_part_of) (by decide +kernel)) (fun _ _ _ _ _ => (pg_name (i := 3) sc_part_of.nd rfl (.inl rfl))) (fun _ _ _ _ _ => (pts_one (pt_cmpR op_in_seq (pv 1) (pe_cal c_behind_places hr (by rfl) (pa_cons (pv 0) (pa_cons (pv 3) pa_nil))) (by rfl)))) (fun _ _ _ _ _ => (pv 3))) pa_nil))))))), ?_⟩
    refine sq_dropR (Pc := fun v H' => v = nv p ∧ H' = H) (ev_callR (ea_cons (ev_var rfl) (ea_cons (ev_var rfl) ea_nil)) fun Q2 k2 => ⟨c, M.costs, M.arrows, p, rfl, hca, hp, k2 _ _ ⟨rfl, rfl⟩⟩) fun v H' hv => ?_
    obtain ⟨_, rfl⟩ := hv
    refine sq_setR (ev_behind T hca ok hp (ev_var rfl) (ev_var rfl)) fun v H1 hv => ?_
    obtain ⟨fa, fs, rfl, s1, hfa, hf, hnd, hm⟩ := hv
    have hfl : fs.length ≤ M.n := nodup_lt hnd fun x hx => (((hm x).mp hx).lt ok).2
    refine sq_if (et_test (ev_notin (ev_var rfl) (ev_var rfl) (SqA.l hf))) (fun hb => ?_) (fun hb => ?_)
    · have hnm : p ∉ fs := fun h => by simp [h] at hb
      exact sx_ret ev_c (q1 (fun h => hnm ((hm p).mpr h)) H1 s1)
    · have hpm : p ∈ fs := by
        refine Classical.byContradiction fun h => ?_
        simp [h] at hb
      refine pl_nx (pl_ret (pl_cb1 ?_))
      refine rd_lcFm (Pc := fun v H2 => ∃ a gs, v = .ref a ∧ Same H1 H2 ∧ NL H2 a gs ∧ gs.Perm fs ∧ gs.Pairwise (· ≤ ·)) (fun Q3 k3 => ?_) fun v H2 hv => ?_
      · refine pl_cb1 (ev_var rfl _ ⟨fa, fs.map (fun (x : Nat) => (x : Int)), rfl, SqL.of (by rw [List.map_map]; exact hf), by rw [List.length_map]; omega, fun ns a hpm hpw ha => ?_⟩)
        have hge : ∀ z ∈ ns, 0 ≤ z := fun z hz => by
          obtain ⟨x, _, rfl⟩ := List.mem_map.mp (hpm.mem_iff.mp hz)
          omega
        refine k3 _ _ ⟨a, ns.map Int.toNat, rfl, same_upd ha, ?_, ?_, ?_⟩
        · show (upd H1 a _) a = _
          rw [upd_same, List.map_map]
          refine congrArg (fun l => some (HO.lst l)) (List.map_congr_left fun z hz => ?_)
          have := hge z hz
          show V.int z = V.int ((z.toNat : Nat) : Int)
          rw [Int.toNat_of_nonneg this]
        · have := hpm.map Int.toNat
          rw [List.map_map] at this
          have e : (Int.toNat ∘ fun (x : Nat) => (x : Int)) = id := by funext x; simp
          rwa [e, List.map_id] at this
        · exact hpw.map _ fun a b h => Int.toNat_le_toNat h
      · obtain ⟨a, gs, rfl, s2, hN, hpm2, hpw⟩ := hv
        have hgm : ∀ x, x ∈ gs ↔ Bh M p x := fun x => hpm2.mem_iff.trans (hm x)
        refine ⟨a, gs.map nv, fun _ x => match x with | .int z => if (decide (Bh M z.toNat p)) = true then some x else none | _ => none, rfl, SqA.l hN, by rw [List.length_map, hpm2.length_eq]; omega, fun _ => rfl, fun k x H3 hk s3 => ?_, fun k x y H3 hk hy s3 => ?_, fun D H3 hD s3 hL => ?_⟩
        · rw [List.getElem?_map] at hk
          cases e : gs[k]? with
          | none => rw [e] at hk; cases hk
          | some z =>
            rw [e] at hk
            cases hk
            have hz := (hgm z).mp (List.mem_of_getElem? e)
            have e1 : (if (decide (Bh M ((z : Int)).toNat p)) = true then some (nv z) else none).isSome = decide (Bh M z p) := by
              rw [Int.toNat_natCast]
              by_cases h : Bh M z p
              · simp [h]
              · simp [h]
            show EtS _ _ _ (if (decide (Bh M ((z : Int)).toNat p)) = true then some (nv z) else none).isSome
            rw [e1]
            intro Q4 k4
            refine pl_test (pl_op (ev_var (v := nv p) rfl _ ?_))
            refine ev_behind T (hca.s ((s1.trans s2).trans s3)) ok (hz.lt ok).2 (ev_var rfl) (ev_var rfl) _ fun v H4 hv => ?_
            obtain ⟨qb, f2, rfl, s4, _, hf2, _, hm2⟩ := hv
            refine ⟨qb, _, rfl, .inl (SqL.of hf2), rfl, flat_nats f2, ?_⟩
            rw [if_neg Bool.false_ne_true, inV_nat]
            refine ⟨_, rfl, ?_⟩
            have e2 : decide (p ∈ f2) = decide (Bh M z p) := by
              by_cases h : Bh M z p
              · rw [decide_eq_true h, decide_eq_true ((hm2 p).mpr h)]
              · rw [decide_eq_false h, decide_eq_false fun z => h ((hm2 p).mp z)]
            rw [e2]
            exact k4 H4 s4
        · rw [List.getElem?_map] at hk
          cases e : gs[k]? with
          | none => rw [e] at hk; cases hk
          | some z =>
            rw [e] at hk
            cases hk
            by_cases h : Bh M ((z : Int)).toNat p
            · have hy2 : (if (decide (Bh M ((z : Int)).toNat p)) = true then some (nv z) else none) = some y := hy
              rw [if_pos (decide_eq_true h)] at hy2
              cases hy2
              exact (ev_var rfl).s
            · have hy2 : (if (decide (Bh M ((z : Int)).toNat p)) = true then some (nv z) else none) = some y := hy
              rw [if_neg (by rw [decide_eq_false h]; decide)] at hy2
              cases hy2
        · rw [fmI_filter (fun z => decide (Bh M z p))] at hL
          refine ⟨D, _, rfl, .inl ⟨SqL.of hL, fun l hl => ?_⟩⟩
          have sA := (s1.trans s2).trans s3
          refine q2 _ l (gs.filter fun z => decide (Bh M z p)) (sA.new hl) (sA.free hl) upd_same ⟨?_, ?_, fun x => ?_, hpw.filter _⟩
          · have hpp := (hm p).mp hpm
            exact List.mem_filter.mpr ⟨(hgm p).mpr hpp, decide_eq_true hpp⟩
          · exact (hpm2.nodup_iff.mpr hnd).filter _
          · rw [List.mem_filter, hgm x, decide_eq_true_eq]
theorem ok_parts_of (d : Df K mg "parts_of" s_parts_of ["chart"]) (c_part_of : Cal P w K mg base 5 "part_of" ["chart", "place"] (sp_part_of A)) : Cal P w K mg base 6 "parts_of" ["chart"] (sp_parts_of A) := by
  classical
  refine d.ok sc_parts_of (fun vs H Q E h => ?_) (fun f cdv A' outer s H vs Q E hr h => ?_)
  · obtain ⟨c, M, rfl, _⟩ := h
    rfl
  · obtain ⟨c, M, rfl, hca, ok, q⟩ := h
    have hn16 : M.n ≤ 16 := ok.ch.n16
    refine ⟨_, (pss_cons (ps_set (i := 1) sc_parts_of.nd rfl (.inl rfl) (pe_lst pa_nil))
    (pss_cons (ps_for PassesOwn.never rfl (pi_range1 (by rfl) T.z_range (pa_cons (pe_callB cr_len (by rfl) T.z_len (by decide +kernel) (pa_cons (pe_fld (pv 0) rfl) pa_nil)) pa_nil)) (pg_name (i := 2) sc_parts_of.nd rfl (.inl rfl)) (pss_cons (ps_set (i := 3) sc_parts_of.nd rfl (.inl rfl) (pe_cal c_part_of hr (by rfl) (pa_cons (pv 0) (pa_cons (pv 2) pa_nil))))
    (pss_one (ps_if (PW.pt (pw_and (pt_cmpR op_notNI (pv 3) pe_non (nomark _)) (pw_and1 (pt_cmpR op_eq (pe_ix ix_any (pv 3) pe_int (fun _ _ => rfl)) (pv 2) (nomark _))))) (pss_one (ps_expr (pe_bm PySem.F.plainAttrs_list PySem.F.slot_list_append PySem.F.type_list_append mt_append (pv 1) (pa_cons (pv 3) pa_nil)))) pss_nil))))
    (pss_one (ps_ret (pe_callTy cr_tup (by rfl) T.z_tuple (by decide +kernel) (pa_cons (pv 1) pa_nil)))))), ?_⟩
    refine pl_seq (pl_set ⟨Nat.zero_le _, fun fa hfa => ?_⟩)
    have s0 : Same H (upd H fa (.lst [])) := same_upd hfa
    have hf0 : (upd H fa (.lst [])) fa = some (.lst (([] : List Addr).map V.ref)) := upd_same
    generalize upd H fa (.lst []) = H0 at s0 hf0
    refine pl_nx (pl_seq ?_)
    obtain ⟨pc, hpc, hpct⟩ := rd_costs (H := H0) (σ := [some (.ref c), some (.ref fa), none, none]) (ta := tVar 0) T (hca.s s0) (ev_var rfl)
    refine rd_forRng1 (n := M.n) (ea_cons ((ev_len hpc (SqA.t hpct)).is (x := nv M.n) (by rw [List.length_map]; rfl)) ea_nil) (by omega)
      (fun i σ' G => ∃ (ps : List Addr) (Ls : List (Nat × List Nat)) (o2 o3 : Option V), σ' = [some (.ref c), some (.ref fa), o2, o3] ∧ Same H G ∧ G fa = some (.lst (ps.map V.ref)) ∧ Each (fun a (e : Nat × List Nat) => NT G a e.2) ps Ls ∧ Parts M Ls ∧ Ls.length ≤ i ∧ (∀ e ∈ Ls, e.1 < i) ∧
        ∀ m, m < i → Bh M m m → (∀ y, Bh M m y → Bh M y m → m ≤ y) → ∃ e ∈ Ls, e.1 = m)
      ⟨[], [], _, _, rfl, s0, hf0, Each.nil, ⟨fun e he => by simp at he, List.nodup_nil⟩, Nat.le_refl _, fun e he => by simp at he, fun m hm => by omega⟩ (fun i σ' G hi hP => ?_) (fun σ' G hP => ?_)
    · obtain ⟨ps, Ls, o2, o3, rfl, s1, hf1, hEa, hPa, hll, hlt, hcov⟩ := hP
      have hk5 : ps.length ≤ i := by rw [hEa.1]; exact hll
      refine sq_setR (Pc := fun v G2 => Same G G2 ∧ ((v = .non ∧ ¬ Bh M i i) ∨ ∃ a L, v = .ref a ∧ NT G2 a L ∧ IsPart M i L)) (ev_callR (ea_cons (ev_var rfl) (ea_cons (ev_var rfl) ea_nil)) fun Q2 k2 => ⟨c, M, i, rfl, hca.s s1, ok, hi, fun hn H' s => k2 _ _ ⟨s, .inl ⟨rfl, hn⟩⟩, fun H' a L s ha hN hp => k2 _ _ ⟨s, .inr ⟨a, L, rfl, hN, hp⟩⟩⟩) fun v G2 hv => ?_
      obtain ⟨s2, hv⟩ := hv
      rcases hv with ⟨rfl, hn⟩ | ⟨a, L, rfl, hN, hp⟩
      · refine sx_no ((et_and (b := false) (c := false) (et_test (ev_notN0 (ev_var rfl))) (fun z => by cases z)).is rfl) ?_
        refine ⟨ps, Ls, _, _, rfl, s1.trans s2, s2 _ _ hf1, hEa.mono fun p x e => e.kf s2.kf, hPa, by omega, fun e he => by have := hlt e he; omega, fun m hm hmm hmin => ?_⟩
        by_cases hmi : m < i
        · exact hcov m hmi hmm hmin
        · have : m = i := by omega
          subst this
          exact (hn hmm).elim
      · obtain ⟨x, L', rfl⟩ : ∃ x L', L = x :: L' := by
          cases L with
          | nil => exact absurd hp.self (by simp)
          | cons x L' => exact ⟨x, L', rfl⟩
        have e2 := et_and (et_test (ev_notN2 (p := a) (ev_var (σ := [some (.ref c), some (.ref fa), some (nv i), some (.ref a)]) (H := G2) (i := 3) rfl))) fun _ => et_test (ev_eq (ev_ixn (K := K) (n := 0) (ev_var (σ := [some (.ref c), some (.ref fa), some (nv i), some (.ref a)]) (H := G2) (i := 3) rfl) ev_c (SqA.t hN) rfl) (ev_var (i := 2) rfl) rfl)
        refine sx_if e2 (fun hb => ?_) (fun hb => ?_)
        · have hxi : x = i := by
            have : nv x = nv i := of_decide_eq_true (by simpa using hb)
            have := V.int.inj this
            omega
          subst hxi
          refine sx_app (ev_var rfl) (ev_var rfl) (s2 _ _ hf1) (by rw [List.length_map]; omega) ?_
          have hNe : ∀ {b : Addr} {l : List Nat}, NT G2 b l → NT (upd G2 fa (.lst (ps.map V.ref ++ [.ref a]))) b l := fun h => h.mut (s2 _ _ hf1)
          refine ⟨ps ++ [a], Ls ++ [(x, x :: L')], _, _, rfl, (s1.trans s2).mut hfa, ?_, (hEa.mono fun p e h => hNe (h.kf s2.kf)).snoc (hNe hN), ⟨fun e he => ?_, ?_⟩, by rw [List.length_append, List.length_singleton]; omega, fun e he => ?_, fun m hm hmm hmin => ?_⟩
          · rw [upd_same, List.map_append]
            rfl
          · rcases List.mem_append.mp he with he | he
            · exact hPa.part e he
            · rw [List.mem_singleton.mp he]
              exact ⟨hp, L', rfl⟩
          · rw [List.map_append]
            refine List.nodup_append.mpr ⟨hPa.nd, by simp, fun a ha b hb e => ?_⟩
            have hb2 : b = x := by simpa using hb
            obtain ⟨e3, he3, rfl⟩ := List.mem_map.mp ha
            have := hlt e3 he3
            omega
          · rcases List.mem_append.mp he with he | he
            · have := hlt e he
              omega
            · rw [List.mem_singleton.mp he]
              exact Nat.lt_succ_self x
          · by_cases hmi : m < x
            · obtain ⟨e, he, h⟩ := hcov m hmi hmm hmin
              exact ⟨e, List.mem_append_left _ he, h⟩
            · have : m = x := by omega
              subst this
              exact ⟨(m, m :: L'), List.mem_append_right _ (List.mem_singleton.mpr rfl), rfl⟩
        · refine ⟨ps, Ls, _, _, rfl, s1.trans s2, s2 _ _ hf1, hEa.mono fun p x e => e.kf s2.kf, hPa, by omega, fun e he => by have := hlt e he; omega, fun m hm hmm hmin => ?_⟩
          by_cases hmi : m < i
          · exact hcov m hmi hmm hmin
          · have : m = i := by omega
            subst this
            have hx := (hp.mem x).mp (by simp)
            have h1 := hmin x hx.1 hx.2
            have h2 : x ≤ m := by
              have hs := hp.self
              rcases List.mem_cons.mp hs with e | e
              · omega
              · exact (List.pairwise_cons.mp hp.up).1 m e
            have : x = m := by omega
            subst this
            simp at hb
    · obtain ⟨ps, Ls, o2, o3, rfl, s1, hf1, hEa, hPa, hll, hlt, hcov⟩ := hP
      refine pl_nx (sx_retR (ev_tupL (ev_var rfl) hf1) fun v H' hv => ?_)
      obtain ⟨l, rfl, hl, rfl⟩ := hv
      refine q _ l ps Ls (s1.new hl) (s1.free hl) upd_same (hEa.mono fun p e h => h.kf (same_upd hl).kf) hPa fun x hx => ?_
      obtain ⟨m, hm, hmin⟩ := min_mem (l := (List.range M.n).filter fun y => decide (Bh M x y ∧ Bh M y x)) (fun e => by
        have : x ∈ (List.range M.n).filter fun y => decide (Bh M x y ∧ Bh M y x) := List.mem_filter.mpr ⟨List.mem_range.mpr (hx.lt ok).1, decide_eq_true ⟨hx, hx⟩⟩
        rw [e] at this
        simp at this)
      obtain ⟨hm1, hm2⟩ := List.mem_filter.mp hm
      obtain ⟨h1, h2⟩ := of_decide_eq_true hm2
      obtain ⟨e, he, rfl⟩ := hcov m (List.mem_range.mp hm1) (h2.trans h1) fun y hy1 hy2 => hmin y (List.mem_filter.mpr ⟨List.mem_range.mpr (hy1.lt ok).2, decide_eq_true ⟨h1.trans hy1, hy2.trans h2⟩⟩)
      exact ⟨e, he, ((hPa.part e he).1.mem x).mpr ⟨h2, h1⟩⟩
end
end K15
namespace K15
open PySem PySem.Spec PyProof.Rows L2 RZ
/-! ### spread_levels, part_levels -/
/-- all but one list stay -/
def Kb (la : Addr) (H H' : Hp) : Prop := ∀ b o, b ≠ la → H b = some o → H' b = some o
theorem Kb.of {la : Addr} {H H' : Hp} (s : Same H H') : Kb la H H' := fun b o _ e => s b o e
theorem Kb.trans {la : Addr} {H H1 H2 : Hp} (a : Kb la H H1) (b : Kb la H1 H2) : Kb la H H2 := fun x o h e => b x o h (a x o h e)
theorem Kb.upd {la : Addr} {H H' : Hp} {o : HO} (a : Kb la H H') : Kb la H (L2.upd H' la o) := fun x o' h e => by rw [upd_ne h]; exact a x o' h e
theorem Kb.mut {la p : Addr} {H H' : Hp} {o : HO} (a : Kb la H H') (h : H p = none) : Kb la H (L2.upd H' p o) := fun x o' hx e => by
  rw [upd_ne (ne_of_none e h)]
  exact a x o' hx e
theorem Kb.kf {la : Addr} {H H' : Hp} {xs : List V} (a : Kb la H H') (h : H la = some (.lst xs)) : KeepF H H' := fun b o hf e => a b o (fun e2 => by
  rw [e2, h] at e
  cases e
  exact hf) e
theorem Kb.free {la x : Addr} {H H' : Hp} {o : HO} (a : Kb la H H') (h : H' la = some o) (hx : H' x = none) : H x = none := by
  cases e : H x with
  | none => rfl
  | some u =>
    have hne : x ≠ la := fun e2 => by rw [e2, h] at hx; cases hx
    rw [a x u hne e] at hx
    cases hx
theorem Kb.same {la : Addr} {H H1 H2 : Hp} (s : Same H H1) (a : Kb la H1 H2) (h : H la = none) : Same H H2 := fun b o e => a b o (fun e2 => by rw [e2, h] at e; cases e) (s b o e)
theorem getD_set {l : List Int} {i x : Nat} {v : Int} (hi : i < l.length) : (l.set i v).getD x 0 = if x = i then v else l.getD x 0 := by
  rw [List.getD_eq_getElem?_getD, List.getD_eq_getElem?_getD, List.getElem?_set]
  by_cases h : i = x
  · subst h
    rw [if_pos rfl, if_pos hi, if_pos rfl]
    rfl
  · rw [if_neg h, if_neg (fun e => h e.symm)]
theorem nodup_sub : ∀ {k l : List Nat}, k.Nodup → (∀ x ∈ k, x ∈ l) → k.length ≤ l.length
  | [], _, _, _ => Nat.zero_le _
  | x :: k, l, h, hs => by
    rw [List.nodup_cons] at h
    have hx := hs x (List.mem_cons_self ..)
    have ih := nodup_sub (k := k) (l := l.erase x) h.2 fun y hy => (List.mem_erase_of_ne (fun e => h.1 (by rw [← e]; exact hy))).mpr (hs y (List.mem_cons_of_mem _ hy))
    rw [List.length_erase_of_mem hx] at ih
    have := List.length_pos_of_mem hx
    rw [List.length_cons]
    omega
structure SpreadOk (M : Mt) (s0 : Nat) (L kn : List Nat) (lv : List Int) (fd : List Nat) (lv' : List Int) : Prop where
  len : lv'.length = M.n
  keep : ∀ x, x ∉ fd → lv'.getD x 0 = lv.getD x 0
  nd : fd.Nodup
  new : ∀ x ∈ fd, x ∈ L ∧ x ∉ kn ∧ x < M.n ∧ (∃ y ∈ kn, ∃ k : Nat, M.arrows[k]? = some (y, x)) ∧ ∃ ks, Wk M.E s0 ks x ∧ lv'.getD x 0 = gn M.E ks
def sp_spread_levels (A : Ad) : Sp := fun vs H Q _ => ∃ (m pa ka la : Addr) (M : Mt) (s0 : Nat) (L kn : List Nat) (lv : List Int), vs = [.ref m, .ref pa, .ref ka, .ref la] ∧ MeterAt A H m M ∧ M.Ok ∧ NT H pa L ∧ NL H ka kn ∧ IL H la lv ∧ ka ≠ la ∧ lv.length = M.n ∧
  (∀ x ∈ kn, x < M.n ∧ ∃ ks, Wk M.E s0 ks x ∧ lv.getD x 0 = gn M.E ks) ∧ ∀ H' q fd lv', Kb la H H' → H q = none → NL H' q fd → IL H' la lv' → SpreadOk M s0 L kn lv fd lv' → (∀ x ∈ kn, ∀ (k h : Nat), M.arrows[k]? = some (x, h) → h ∈ L → h ∈ kn ∨ h ∈ fd) → Q (.ref q) H'
/-- the levels rise as the arrows tell, on rings -/
structure LvOk (M : Mt) (lv : List Int) : Prop where
  len : lv.length = M.n
  on : ∀ (k t h : Nat) (g : Int), M.E[k]? = some (t, h, g) → Bh M h t → lv.getD h 0 = lv.getD t 0 + g
def sp_part_levels (A : Ad) : Sp := fun vs H Q _ => ∃ (m : Addr) (M : Mt), vs = [.ref m] ∧ MeterAt A H m M ∧ M.Ok ∧ NoDrift M [1, -1] ∧ ∀ H' q lv, Same H H' → H q = none → IT H' q lv → LvOk M lv → Q (.ref q) H'
theorem Parts.disj {M : Mt} {Ls : List (Nat × List Nat)} (h : Parts M Ls) {e e' : Nat × List Nat} (he : e ∈ Ls) (he' : e' ∈ Ls) {x : Nat} (hx : x ∈ e.2) (hx' : x ∈ e'.2) : e = e' := by
  obtain ⟨p1, r1, q1⟩ := h.part e he
  obtain ⟨p2, r2, q2⟩ := h.part e' he'
  obtain ⟨a1, a2⟩ := (p1.mem x).mp hx
  obtain ⟨b1, b2⟩ := (p2.mem x).mp hx'
  have m1 : e.1 ∈ e'.2 := (p2.mem _).mpr ⟨b1.trans a2, a1.trans b2⟩
  have m2 : e'.1 ∈ e.2 := (p1.mem _).mpr ⟨a1.trans b2, b1.trans a2⟩
  have l1 : e'.1 ≤ e.1 := by
    have u := p2.up
    rw [q2] at m1 u
    rcases List.mem_cons.mp m1 with z | z
    · omega
    · exact (List.pairwise_cons.mp u).1 _ z
  have l2 : e.1 ≤ e'.1 := by
    have u := p1.up
    rw [q1] at m2 u
    rcases List.mem_cons.mp m2 with z | z
    · omega
    · exact (List.pairwise_cons.mp u).1 _ z
  exact nodup_fst h.nd he he' (by omega)
theorem not_before {α : Type} {Ls : List (Nat × α)} (h : (Ls.map (·.1)).Nodup) {i : Nat} {e : Nat × α} (hi : Ls[i]? = some e) : e ∉ Ls.take i := fun hm => by
  have hil := (List.getElem?_eq_some_iff.mp hi).1
  have hsp : Ls = Ls.take i ++ Ls[i] :: Ls.drop (i + 1) := by rw [← List.drop_eq_getElem_cons hil, List.take_append_drop]
  rw [List.getElem?_eq_getElem hil] at hi
  rw [Option.some.inj hi] at hsp
  rw [hsp, List.map_append, List.map_cons] at h
  exact (List.nodup_append.mp h).2.2 e.1 (List.mem_map.mpr ⟨e, hm, rfl⟩) e.1 (List.mem_cons_self ..) rfl
section
variable {P : Program} {w : World} {K : PySem.W.Frag} {mg : Str → Option Value} {base : Heap} {A : Ad} (T : Txt K mg A)
include T
theorem ok_spread_levels (d : Df K mg "spread_levels" s_spread_levels ["meter", "part", "known", "levels"]) (c_Chartouts : CalM P w K mg base 3 A.ch "outs" ["self", "place"] (sp_Chartouts A)) (c_arrow_gain : Cal P w K mg base 1 "arrow_gain" ["meter", "arrow"] (sp_arrow_gain A)) :
    Cal P w K mg base 4 "spread_levels" ["meter", "part", "known", "levels"] (sp_spread_levels A) := by
  refine d.ok sc_spread_levels (fun vs H Q E h => ?_) (fun f cdv A' outer s H vs Q E hr h => ?_)
  · obtain ⟨m, pa, ka, la, M, s0, L, kn, lv, rfl, _⟩ := h
    rfl
  · obtain ⟨m, pa, ka, la, M, s0, L, kn, lv, rfl, hm, ok, hL, hk, hl, hkl, hlv, hkn, q⟩ := h
    have hn16 : M.n ≤ 16 := ok.ch.n16
    have h32 := ok.ch.a32
    refine ⟨_, (pss_cons (ps_set (i := 4) sc_spread_levels.nd rfl (.inl rfl) (pe_lst pa_nil))
    (pss_cons (ps_for PassesOwn.never rfl (pi_seq (pv 2)) (pg_name (i := 5) sc_spread_levels.nd rfl (.inl rfl)) (pss_one (ps_for PassesOwn.never rfl (pi_seq (pe_mcal c_Chartouts hr (pe_fld (pv 0) rfl) (pa_cons (pv 5) pa_nil))) (pg_name (i := 6) sc_spread_levels.nd rfl (.inl rfl)) (pss_cons (ps_set (i := 7) sc_spread_levels.nd rfl (.inl rfl) (pe_ix ix_any (pe_ix ix_any (pe_fld (pe_fld (pv 0) rfl) rfl) (pv 6) (fun _ _ => rfl)) pe_int (fun _ _ => rfl)))
    (pss_one (ps_if (PW.pt (pw_and (pt_cmpR op_in_seq (pv 7) (pv 1) (by rfl)) (pw_and (pt_cmpR op_notIn_seq (pv 7) (pv 2) (by rfl)) (pw_and1 (pt_cmpR op_notIn_seq (pv 7) (pv 4) (by rfl)))))) (pss_cons (ps_asg (pe_op op_addI (pe_ix ix_any (pv 3) (pv 5) (fun _ _ => rfl)) (pe_cal c_arrow_gain hr (by rfl) (pa_cons (pv 0) (pa_cons (pv 6) pa_nil)))) (pg_sub (pv 3) (pv 7) set_list))
    (pss_one (ps_expr (pe_bm PySem.F.plainAttrs_list PySem.F.slot_list_append PySem.F.type_list_append mt_append (pv 4) (pa_cons (pv 7) pa_nil))))) pss_nil))))))
    (pss_one (ps_ret (pv 4))))), ?_⟩
    refine pl_seq (pl_set ⟨Nat.zero_le _, fun fa hfa => ?_⟩)
    have s1 : Same H (upd H fa (.lst [])) := same_upd hfa
    have hf1 : NL (upd H fa (.lst [])) fa [] := upd_same
    have hl1 := s1 _ _ hl
    generalize upd H fa (.lst []) = H1 at s1 hf1 hl1
    have hlf : la ≠ fa := ne_of_none hl hfa
    have hkf : ka ≠ fa := ne_of_none hk hfa
    have hpl : pa ≠ la := ne_of hL hl (by intro e; cases e)
    have hpf : pa ≠ fa := ne_of_none hL hfa
    refine pl_nx (pl_seq ?_)
    refine rd_forSeq (ev_var rfl).r fun v H2 hv => ?_
    obtain ⟨rfl, rfl⟩ := hv
    refine ⟨ka, kn.map nv, rfl, SqA.l (s1 _ _ hk), fun i σ' G => ∃ (fd : List Nat) (lv' : List Int) (o5 o6 o7 : Option V), σ' = [some (.ref m), some (.ref pa), some (.ref ka), some (.ref la), some (.ref fa), o5, o6, o7] ∧ Kb la H G ∧ NL G ka kn ∧ NL G fa fd ∧ IL G la lv' ∧ SpreadOk M s0 L kn lv fd lv' ∧
      ∀ x ∈ kn.take i, ∀ (k h : Nat), M.arrows[k]? = some (x, h) → h ∈ L → h ∈ kn ∨ h ∈ fd,
      ⟨[], lv, _, _, _, rfl, Kb.of s1, s1 _ _ hk, hf1, hl1, ⟨hlv, fun _ _ => rfl, List.nodup_nil, fun x hx => by simp at hx⟩, fun x hx => by simp at hx⟩,
      fun i σ' G z => by obtain ⟨_, _, _, _, _, _, _, z, _⟩ := z; intro o ho; rw [s1 _ _ hk] at ho; rw [← ho]; exact z, ?_, ?_⟩
    · rintro i x σ' G hi ⟨fd, lv', o5, o6, o7, rfl, kb, hk2, hf2, hl2, hsp, hdone⟩
      have hil : i < kn.length := by
        have := (List.getElem?_eq_some_iff.mp hi).1
        rwa [List.length_map] at this
      have hki : kn[i]? = some kn[i] := List.getElem?_eq_getElem hil
      have ex : x = nv kn[i] := Option.some.inj (hi.symm.trans (nat_at hki))
      have hpm : kn[i] ∈ kn := List.getElem_mem hil
      generalize kn[i] = p at hki ex hpm
      subst ex
      obtain ⟨hpn, ksp, wp, hlp⟩ := hkn p hpm
      have hm2 := hm.kf (kb.kf hl)
      obtain ⟨ch, hch, hca⟩ := rd_chart (H := G) (σ := [some (.ref m), some (.ref pa), some (.ref ka), some (.ref la), some (.ref fa), some (nv p), o6, o7]) (ta := tVar 0) T hm2 (ev_var rfl)
      refine rd_forSeq (ev_outs hca hpn h32 hch (ev_var rfl)) fun v G2 hv => ?_
      obtain ⟨qa, rfl, s3, hqa, hNo⟩ := hv
      have hqf : qa ≠ fa := (ne_of_none hf2 hqa).symm
      have hql : qa ≠ la := (ne_of_none hl2 hqa).symm
      refine ⟨qa, _, rfl, SqA.t hNo, fun j σ' G' => ∃ (fd : List Nat) (lv' : List Int) (o6 o7 : Option V), σ' = [some (.ref m), some (.ref pa), some (.ref ka), some (.ref la), some (.ref fa), some (nv p), o6, o7] ∧ Kb la H G' ∧ NT G' qa (outs M.arrows p) ∧ NL G' ka kn ∧ NL G' fa fd ∧ IL G' la lv' ∧ SpreadOk M s0 L kn lv fd lv' ∧
        (∀ x ∈ kn.take i, ∀ (k h : Nat), M.arrows[k]? = some (x, h) → h ∈ L → h ∈ kn ∨ h ∈ fd) ∧ ∀ k ∈ (outs M.arrows p).take j, ∀ (h : Nat), M.arrows[k]? = some (p, h) → h ∈ L → h ∈ kn ∨ h ∈ fd,
        ⟨fd, lv', _, _, rfl, kb.trans (Kb.of s3), hNo, s3 _ _ hk2, s3 _ _ hf2, s3 _ _ hl2, hsp, hdone, fun k hk => by simp at hk⟩,
        fun j σ' G' z => by obtain ⟨_, _, _, _, _, _, z, _⟩ := z; intro o ho; rw [hNo] at ho; rw [← ho]; exact z, ?_, ?_⟩
      · rintro j x σ' G' hj ⟨fd, lv', o6, o7, rfl, kb4, hq4, hk4, hf4, hl4, hsp4, hdone4, hnow4⟩
        have hjl : j < (outs M.arrows p).length := by
          have := (List.getElem?_eq_some_iff.mp hj).1
          rwa [List.length_map] at this
        have hkk : (outs M.arrows p)[j]? = some (outs M.arrows p)[j] := List.getElem?_eq_getElem hjl
        have ex : x = nv (outs M.arrows p)[j] := Option.some.inj (hj.symm.trans (nat_at hkk))
        have hmk : (outs M.arrows p)[j] ∈ outs M.arrows p := List.getElem_mem hjl
        generalize (outs M.arrows p)[j] = k at hkk ex hmk
        subst ex
        obtain ⟨hd, har⟩ := mem_outs.mp hmk
        obtain ⟨t', hd2', cc, ha1, hc1, ht, hh, hE⟩ := ok.at (List.getElem?_eq_some_iff.mp har).1
        rw [har] at ha1
        cases ha1
        have hm4 := hm.kf (kb4.kf hl)
        obtain ⟨ch4, hch4, hca4⟩ := rd_chart (H := G') (σ := [some (.ref m), some (.ref pa), some (.ref ka), some (.ref la), some (.ref fa), some (nv p), some (nv k), o7]) (ta := tVar 0) T hm4 (ev_var rfl)
        refine sq_set (rd_head T hca4 hch4 (ev_var rfl) har) ?_
        have hL4 : NT G' pa L := kb4 _ _ hpl hL
        have step : ∀ (fd' : List Nat), (∀ y, y ∈ fd → y ∈ fd') → (hd ∈ L → hd ∈ kn ∨ hd ∈ fd') → ∀ k' ∈ (outs M.arrows p).take (j + 1), ∀ (h : Nat), M.arrows[k']? = some (p, h) → h ∈ L → h ∈ kn ∨ h ∈ fd' := fun fd' hsub hin k' hk' h' ha' hL' => by
          rw [List.take_add_one, hkk] at hk'
          rcases List.mem_append.mp hk' with hk' | hk'
          · exact (hnow4 k' hk' h' ha' hL').imp id (hsub _)
          · have : k' = k := by simpa using hk'
            subst this
            rw [har] at ha'
            cases ha'
            exact hin hL'
        refine sx_if (et_and (et_test (ev_in (ev_var rfl) (ev_var rfl) (SqA.t hL4))) fun _ => et_and (et_test (ev_notin (ev_var rfl) (ev_var rfl) (SqA.l hk4))) fun _ => et_test (ev_notin (ev_var rfl) (ev_var rfl) (SqA.l hf4))) (fun hb => ?_) (fun hb => ?_)
        · simp only [Bool.and_eq_true, decide_eq_true_eq, Bool.not_eq_true', decide_eq_false_iff_not] at hb
          obtain ⟨hbL, hbk, hbf⟩ := hb
          have hpf4 : p ∉ fd := fun h => (hsp4.new p h).2.1 hpm
          refine sq_put (n := hd) (ev_add (ev_ixn (ev_var rfl) (ev_var rfl) (SqA.l hl4) (int_at (getD_at (by rw [hsp4.len]; exact hpn)))) (ev_gain hm4 hE hpn (ev_var rfl) (ev_var rfl))) (ev_var rfl) (ev_var rfl) hl4 (by rw [List.length_map, hsp4.len]; exact hh) ?_
          have hset : (lv'.map V.int).set hd (.int (lv'.getD p 0 + (cc - M.costs.getD p 0))) = (lv'.set hd (lv'.getD p 0 + (cc - M.costs.getD p 0))).map V.int := by rw [List.map_set]
          rw [hset]
          have hf5 : NL (upd G' la (.lst ((lv'.set hd (lv'.getD p 0 + (cc - M.costs.getD p 0))).map V.int))) fa fd := by
            show (upd G' la _) fa = _
            rw [upd_ne hlf.symm]
            exact hf4
          have hfl : fd.length ≤ M.n := nodup_lt hsp4.nd fun x hx => (hsp4.new x hx).2.2.1
          refine sx_app (ev_var rfl) (ev_var rfl) hf5 (by rw [List.length_map]; omega) ?_
          have hdl : hd < lv'.length := by rw [hsp4.len]; exact hh
          refine ⟨fd ++ [hd], lv'.set hd (lv'.getD p 0 + (cc - M.costs.getD p 0)), _, _, rfl, (kb4.upd).mut hfa, ?_, ?_, ?_, ?_, ⟨by rw [List.length_set]; exact hsp4.len, fun x hx => ?_, ?_, fun x hx => ?_⟩, fun x hx k' h' ha' hL' => (hdone4 x hx k' h' ha' hL').imp id (List.mem_append_left _), step _ (fun y hy => List.mem_append_left _ hy) fun _ => .inr (by simp)⟩
          · show (upd (upd G' la _) fa _) qa = _
            rw [upd_ne hqf, upd_ne hql]
            exact hq4
          · show (upd (upd G' la _) fa _) ka = _
            rw [upd_ne hkf, upd_ne hkl]
            exact hk4
          · show (upd (upd G' la _) fa _) fa = _
            rw [upd_same, List.map_append]
            rfl
          · show (upd (upd G' la _) fa _) la = _
            rw [upd_ne hlf, upd_same]
          · have h1 : x ∉ fd := fun h => hx (List.mem_append_left _ h)
            have h2 : x ≠ hd := fun h => hx (by simp [h])
            rw [getD_set hdl, if_neg h2]
            exact hsp4.keep x h1
          · exact List.nodup_append.mpr ⟨hsp4.nd, by simp, fun a ha b hb e => by
              have : b = hd := by simpa using hb
              rw [e, this] at ha
              exact hbf ha⟩
          · by_cases hxd : x = hd
            · subst hxd
              refine ⟨hbL, hbk, hh, ⟨p, hpm, k, har⟩, ksp ++ [k], wp.snoc hE, ?_⟩
              rw [getD_set hdl, if_pos rfl, hsp4.keep p hpf4, hlp, gn_append, gn_one, eg_of hE]
            · rcases List.mem_append.mp hx with hx | hx
              · obtain ⟨a1, a2, a3, a4, ks, w5, a5⟩ := hsp4.new x hx
                refine ⟨a1, a2, a3, a4, ks, w5, ?_⟩
                rw [getD_set hdl, if_neg hxd]
                exact a5
              · exact (hxd (by simpa using hx)).elim
        · refine ⟨fd, lv', _, _, rfl, kb4, hq4, hk4, hf4, hl4, hsp4, hdone4, step fd (fun y hy => hy) fun hin => ?_⟩
          refine Classical.byContradiction fun hc => ?_
          rw [not_or] at hc
          simp [hin, hc.1, hc.2] at hb
      · rintro σ' G' ⟨fd, lv', o6, o7, rfl, kb4, hq4, hk4, hf4, hl4, hsp4, hdone4, hnow4⟩
        rw [List.length_map, List.take_length] at hnow4
        refine ⟨fd, lv', _, _, _, rfl, kb4, hk4, hf4, hl4, hsp4, fun x hx k h ha hL' => ?_⟩
        rw [List.take_add_one, hki] at hx
        rcases List.mem_append.mp hx with hx | hx
        · exact hdone4 x hx k h ha hL'
        · have : x = p := by simpa using hx
          subst this
          exact hnow4 k (mem_outs.mpr ⟨h, ha⟩) h ha hL'
    · rintro σ' G ⟨fd, lv', o5, o6, o7, rfl, kb, hk2, hf2, hl2, hsp, hdone⟩
      rw [List.length_map, List.take_length] at hdone
      exact pl_nx (pl_ret (ev_var rfl _ (q G fa fd lv' kb hfa hf2 hl2 hsp hdone)))
theorem ok_part_levels (d : Df K mg "part_levels" s_part_levels ["meter"]) (c_find_drift : Cal P w K mg base 6 "find_drift" ["meter"] (sp_find_drift A)) (c_parts_of : Cal P w K mg base 6 "parts_of" ["chart"] (sp_parts_of A))
    (c_spread_levels : Cal P w K mg base 4 "spread_levels" ["meter", "part", "known", "levels"] (sp_spread_levels A)) : Cal P w K mg base 7 "part_levels" ["meter"] (sp_part_levels A) := by
  refine d.ok sc_part_levels (fun vs H Q E h => ?_) (fun f cdv A' outer s H vs Q E hr h => ?_)
  · obtain ⟨m, M, rfl, _⟩ := h
    rfl
  · obtain ⟨m, M, rfl, hm, ok, hno, q⟩ := h
    have hn16 : M.n ≤ 16 := ok.ch.n16
    refine ⟨_, (pss_cons (ps_set (i := 1) sc_part_levels.nd rfl (.inl rfl) (pe_cal c_find_drift hr (by rfl) (pa_cons (pv 0) pa_nil)))
    (pss_cons (ps_if (pt_cmpR op_notNI (pv 1) pe_non (nomark _)) (pss_one ps_never) pss_nil)
    (pss_cons (ps_set (i := 2) sc_part_levels.nd rfl (.inl rfl) (pe_op op_rep (pe_lst (pa_cons pe_int pa_nil)) (pe_callB cr_len (by rfl) T.z_len (by decide +kernel) (pa_cons (pe_fld (pe_fld (pv 0) rfl) rfl) pa_nil))))
    (pss_cons (ps_for PassesOwn.never rfl (pi_seq (pe_cal c_parts_of hr (by rfl) (pa_cons (pe_fld (pv 0) rfl) pa_nil))) (pg_name (i := 3) sc_part_levels.nd rfl (.inl rfl)) (pss_cons (ps_set (i := 4) sc_part_levels.nd rfl (.inl rfl) (pe_lst (pa_cons (pe_ix ix_any (pv 3) pe_int (fun _ _ => rfl)) pa_nil)))
    (pss_one (ps_for PassesOwn.never rfl (pi_seq (pv 3)) (pg_name (i := 5) sc_part_levels.nd rfl (.inl rfl)) (pss_one (ps_set (i := 4) sc_part_levels.nd rfl (.inl rfl) (pe_op op_cat (pv 4) (pe_cal c_spread_levels hr (by rfl) (pa_cons (pv 0) (pa_cons (pv 3) (pa_cons (pv 4) (pa_cons (pv 2) pa_nil))))))))))))
    (pss_one (ps_ret (pe_callTy cr_tup (by rfl) T.z_tuple (by decide +kernel) (pa_cons (pv 2) pa_nil)))))))), ?_⟩
    refine sq_setR (Pc := fun v H' => v = .non ∧ Same H H') (ev_callR (ea_cons (ev_var rfl) ea_nil) (fun Q2 k2 => ⟨m, M, rfl, hm, ok, fun _ H' s => k2 _ _ ⟨rfl, s⟩, fun H' p s hp hD => (hD.no hno).elim⟩)) fun v H1 hv => ?_
    obtain ⟨rfl, s1⟩ := hv
    refine sq_never (et_test (ev_notN0 (ev_var rfl))) ?_
    have hm1 := hm.s s1
    refine sq_setR (ev_rep (n := M.n) (v := .int 0) (fun H2 s2 => ?_) ev_c (by omega)) fun v H2 hv => ?_
    · obtain ⟨ch, hch, hca⟩ := rd_chart (H := H2) (σ := [some (.ref m), some .non, none, none, none, none]) (ta := tVar 0) T (hm1.s s2) (ev_var rfl)
      obtain ⟨pc, hpc, hpct⟩ := rd_costs T hca hch
      exact (ev_len hpc (SqA.t hpct)).is (by rw [List.length_map])
    · obtain ⟨la, H2', rfl, s2, hla0, rfl⟩ := hv
      have s12 : Same H (upd H2' la (.lst (List.replicate M.n (.int 0)))) := (s1.trans s2).new hla0
      have hla : H la = none := (s1.trans s2).free hla0
      have hl2 : IL (upd H2' la (.lst (List.replicate M.n (.int 0)))) la (List.replicate M.n 0) := by
        show (upd _ la _) la = _
        rw [upd_same, List.map_replicate]
      generalize upd H2' la (.lst (List.replicate M.n (.int 0))) = H3 at s12 hl2
      refine pl_seq ?_
      have hm3 := hm.s s12
      obtain ⟨ch, hch, hca⟩ := rd_chart (H := H3) (σ := [some (.ref m), some .non, some (.ref la), none, none, none]) (ta := tVar 0) T hm3 (ev_var rfl)
      refine rd_forSeq (Pc := fun v H4 => ∃ qp ps Ls, v = .ref qp ∧ Same H3 H4 ∧ H3 qp = none ∧ H4 qp = some (.tup (ps.map V.ref)) ∧ Each (fun a (e : Nat × List Nat) => NT H4 a e.2) ps Ls ∧ Parts M Ls ∧ (∀ x, Bh M x x → ∃ e ∈ Ls, x ∈ e.2))
        (ev_callR (ea_cons hch ea_nil) fun Q2 k2 => ⟨ch, M, rfl, hca, ok, fun H4 qp ps Ls s hqp hp hEa hPa hcov => k2 _ _ ⟨qp, ps, Ls, rfl, s, hqp, hp, hEa, hPa, hcov⟩⟩) fun v H4 hv => ?_
      obtain ⟨qp, ps, Ls, rfl, s4, hqp, hp4, hEa, hPa, hcov⟩ := hv
      have hl4 := s4 _ _ hl2
      refine ⟨qp, ps.map V.ref, rfl, SqA.t hp4, fun i σ' G => ∃ (lv : List Int) (o3 o4 o5 : Option V), σ' = [some (.ref m), some .non, some (.ref la), o3, o4, o5] ∧ Kb la H4 G ∧ IL G la lv ∧ lv.length = M.n ∧ (∀ e ∈ Ls.take i, ∀ x ∈ e.2, ∃ ks, Wk M.E e.1 ks x ∧ lv.getD x 0 = gn M.E ks) ∧
        ∀ x, (∀ e ∈ Ls.take i, x ∉ e.2) → lv.getD x 0 = 0,
        ⟨_, _, _, _, rfl, Kb.of (Same.refl H4), hl4, List.length_replicate .., fun e he => by simp at he, fun x _ => by
          rw [List.getD_eq_getElem?_getD, List.getElem?_replicate]
          split <;> rfl⟩,
        fun i σ' G z => by obtain ⟨_, _, _, _, _, kb, _⟩ := z; exact fun o ho => kb _ _ (ne_of hp4 hl4 (by intro e; cases e)) ho, ?_, ?_⟩
      · rintro i x σ' G hi ⟨lv, o3, o4, o5, rfl, kb, hl, hll, hon, hoff⟩
        have hil : i < Ls.length := by
          have := (List.getElem?_eq_some_iff.mp hi).1
          rw [List.length_map, hEa.1] at this
          exact this
        have hei : Ls[i]? = some Ls[i] := List.getElem?_eq_getElem hil
        have hem : Ls[i] ∈ Ls := List.getElem_mem hil
        generalize Ls[i] = e at hei hem
        obtain ⟨a, ha, haN⟩ := hEa.get hei
        have ex : x = .ref a := Option.some.inj (hi.symm.trans (ref_at ha))
        subst ex
        obtain ⟨hpt, r, hr⟩ := hPa.part e hem
        have hal : a ≠ la := ne_of haN hl4 (by intro e; cases e)
        have hN1 : NT G a e.2 := kb _ _ hal haN
        have htk : Ls.take (i + 1) = Ls.take i ++ [e] := by rw [List.take_add_one, hei]; rfl
        have hlt : ∀ x ∈ e.2, x < M.n := fun x hx => (((hpt.mem x).mp hx).1.lt ok).2
        have hsep : ∀ x ∈ e.2, ∀ e' ∈ Ls.take i, x ∉ e'.2 := fun x hx e' he' hx' => by
          have := hPa.disj hem (List.mem_of_mem_take he') hx hx'
          rw [← this] at he'
          exact not_before hPa.nd hei he'
        -- known = [part[0]]
        refine pl_seq (pl_set (pl_lst (pl_cons ((ev_ixn (n := 0) (v := nv e.1) (ev_var rfl) ev_c (SqA.t hN1) (by rw [hr]; rfl)) _ ⟨by show 1 ≤ sizeLine; decide, fun ka hka => ?_⟩))))
        have hGl : IL G la lv := hl
        have s5 : Same G (upd G ka (.lst [nv e.1])) := same_upd hka
        have hk5 : NL (upd G ka (.lst [nv e.1])) ka [e.1] := upd_same
        have hkla : ka ≠ la := (ne_of_none hl hka).symm
        have hl5 := s5 _ _ hl
        have hN5 : NT (upd G ka (.lst [nv e.1])) a e.2 := s5 _ _ hN1
        generalize upd G ka (.lst [nv e.1]) = G5 at s5 hk5 hl5 hN5
        have kb5 : Kb la H4 G5 := kb.trans (Kb.of s5)
        refine pl_nx ?_
        refine rd_forSeq (ev_var rfl).r fun v G6 hv => ?_
        obtain ⟨rfl, rfl⟩ := hv
        refine ⟨a, e.2.map nv, rfl, SqA.t hN5, fun j σ' G' => ∃ (kn : List Nat) (lv' : List Int) (ka : Addr) (o5 : Option V), σ' = [some (.ref m), some .non, some (.ref la), some (.ref a), some (.ref ka), o5] ∧ Kb la H4 G' ∧ IL G' la lv' ∧ NL G' ka kn ∧ ka ≠ la ∧ lv'.length = M.n ∧ kn.Nodup ∧ (∀ x ∈ kn, x ∈ e.2) ∧ e.1 ∈ kn ∧
          (∀ x ∈ kn, ∃ ks, Wk M.E e.1 ks x ∧ lv'.getD x 0 = gn M.E ks) ∧ (∀ x, x ∉ e.2 → lv'.getD x 0 = lv.getD x 0) ∧ ((∀ x ∈ kn, ∀ (k h : Nat), M.arrows[k]? = some (x, h) → h ∈ e.2 → h ∈ kn) ∨ j + 1 ≤ kn.length),
          ⟨[e.1], lv, ka, _, rfl, kb5, hl5, hk5, hkla, hll, by simp, fun x hx => by rw [List.mem_singleton.mp hx]; exact hpt.self, by simp, fun x hx => ⟨[], by rw [List.mem_singleton.mp hx]; exact .nil _, by rw [List.mem_singleton.mp hx, hoff e.1 fun e' he' => hsep e.1 hpt.self e' he']; rfl⟩, fun _ _ => rfl, .inr (by simp)⟩,
          fun j σ' G' z => by obtain ⟨_, _, _, _, _, kb, _⟩ := z; intro o ho; rw [hN5] at ho; rw [← ho]; exact kb _ _ hal haN, ?_, ?_⟩
        · rintro j x σ' G' hj ⟨kn, lv', ka, o5, rfl, kb6, hl6, hk6, hkl6, hll6, hnd6, hsub6, h06, hkn6, hout6, hgrow6⟩
          have hm6 : MeterAt A G' m M := (hm3.s s4).kf (kb6.kf hl4)
          have hN6 : NT G' a e.2 := kb6 _ _ hal haN
          have hknl : kn.length ≤ M.n := nodup_lt hnd6 fun x hx => hlt x (hsub6 x hx)
          refine pl_set (pl_op (ev_var rfl _ ?_))
          refine ev_callR (us := [.ref m, .ref a, .ref ka, .ref la]) (Pc := fun v G7 => ∃ qf fd lv2, v = .ref qf ∧ Kb la G' G7 ∧ G' qf = none ∧ NL G7 qf fd ∧ IL G7 la lv2 ∧ SpreadOk M e.1 e.2 kn lv' fd lv2 ∧ ∀ x ∈ kn, ∀ (k h : Nat), M.arrows[k]? = some (x, h) → h ∈ e.2 → h ∈ kn ∨ h ∈ fd) (ea_cons (ev_var rfl) (ea_cons (ev_var rfl) (ea_cons (ev_var rfl) (ea_cons (ev_var rfl) ea_nil))))
            (fun Q2 k2 => ⟨m, a, ka, la, M, e.1, e.2, kn, lv', rfl, hm6, ok, hN6, hk6, hl6, hkl6, hll6, fun x hx => ⟨hlt x (hsub6 x hx), hkn6 x hx⟩, fun G7 qf fd lv2 kb7 hqf hf hl hS hall => k2 _ _ ⟨qf, fd, lv2, rfl, kb7, hqf, hf, hl, hS, hall⟩⟩) _ fun v G7 hv => ?_
          obtain ⟨qf, fd, lv2, rfl, kb7, hqf, hf7, hl7, hS, hall⟩ := hv
          have hfl : fd.length ≤ M.n := nodup_lt hS.nd fun x hx => (hS.new x hx).2.2.1
          refine ⟨ka, qf, _, _, rfl, rfl, kb7 _ _ hkl6 hk6, hf7, ?_, fun kb' hkb' => ?_⟩
          · rw [List.length_map, List.length_map]
            exact Nat.le_trans (show kn.length + fd.length ≤ 1000 by omega) (by decide)
          have hkbl : kb' ≠ la := (ne_of_none hl7 hkb').symm
          refine ⟨kn ++ fd, lv2, kb', _, rfl, kb6.trans (kb7.trans (Kb.of (same_upd hkb'))), (same_upd hkb') _ _ hl7, ?_, hkbl, hS.len, ?_, fun x hx => ?_, List.mem_append_left _ h06, fun x hx => ?_, fun x hx => ?_, ?_⟩
          · show (upd G7 kb' _) kb' = _
            rw [upd_same, List.map_append]
          · exact List.nodup_append.mpr ⟨hnd6, hS.nd, fun a ha b hb e => by rw [e] at ha; exact (hS.new b hb).2.1 ha⟩
          · rcases List.mem_append.mp hx with hx | hx
            · exact hsub6 x hx
            · exact (hS.new x hx).1
          · rcases List.mem_append.mp hx with hx | hx
            · have hxf : x ∉ fd := fun h => (hS.new x h).2.1 hx
              rw [hS.keep x hxf]
              exact hkn6 x hx
            · exact (hS.new x hx).2.2.2.2
          · rw [hS.keep x fun h => hx (hS.new x h).1]
            exact hout6 x hx
          · cases fd with
            | nil =>
              rw [List.append_nil]
              exact .inl fun x hx k h ha hL => (hall x hx k h ha hL).resolve_right (by simp)
            | cons f0 fr =>
              rcases hgrow6 with hc | hg
              · obtain ⟨hfL, hfk, _, ⟨y, hy, k, hyk⟩, _⟩ := hS.new f0 (by simp)
                exact (hfk (hc y hy k f0 hyk hfL)).elim
              · refine .inr ?_
                rw [List.length_append, List.length_cons]
                omega
        · rintro σ' G' ⟨kn, lv', ka, o5, rfl, kb6, hl6, hk6, hkl6, hll6, hnd6, hsub6, h06, hkn6, hout6, hgrow6⟩
          have hclosed : ∀ x ∈ kn, ∀ (k h : Nat), M.arrows[k]? = some (x, h) → h ∈ e.2 → h ∈ kn := by
            rcases hgrow6 with hc | hg
            · exact hc
            · rw [List.length_map] at hg
              have : kn.length ≤ e.2.length := nodup_sub hnd6 hsub6
              omega
          have hreach : ∀ u ks v, Wk M.E u ks v → u ∈ kn → v ∈ e.2 → v ∈ kn := fun u ks v hw => by
            induction hw with
            | nil u => exact fun h _ => h
            | @cons u h w k g ks ek hw2 ih =>
              intro hu hv
              have hbu := ((hpt.mem u).mp (hsub6 u hu)).1
              have hbv := ((hpt.mem w).mp hv).2
              have hbh : Bh M e.1 h := hbu.snoc ek
              have hhb : Bh M h e.1 := by
                cases hw2 with
                | nil => exact hbv
                | cons e2 w3 => exact Bh.trans ⟨_, List.cons_ne_nil _ _, .cons e2 w3⟩ hbv
              exact ih (hclosed u hu k h (Mt.E_inv ek).1 ((hpt.mem h).mpr ⟨hbh, hhb⟩)) hv
          refine ⟨lv', _, _, _, rfl, kb6, hl6, hll6, fun e' he' x hx => ?_, fun x hx => ?_⟩
          · rw [htk] at he'
            rcases List.mem_append.mp he' with he' | he'
            · have hxe : x ∉ e.2 := fun h => hsep x h e' he' hx
              rw [hout6 x hxe]
              exact hon e' he' x hx
            · rw [List.mem_singleton.mp he'] at hx ⊢
              obtain ⟨ks, _, wk⟩ := ((hpt.mem x).mp hx).1
              exact hkn6 x (hreach e.1 ks x wk h06 hx)
          · rw [htk] at hx
            rw [hout6 x (hx e (by simp))]
            exact hoff x fun e' he' => hx e' (List.mem_append_left _ he')
      · rintro σ' G ⟨lv, o3, o4, o5, rfl, kb, hl, hll, hon, hoff⟩
        rw [List.length_map, hEa.1, List.take_length] at hon
        refine pl_nx (sx_retR (ev_tupL (ev_var rfl) hl) fun v H' hv => ?_)
        obtain ⟨l, rfl, hl', rfl⟩ := hv
        have sA : Same H G := Kb.same (s12.trans s4) kb hla
        refine q _ l lv (sA.new hl') (sA.free hl') upd_same ⟨hll, fun k t h g hE hb => ?_⟩
        have htt : Bh M t t := Bh.trans ⟨[k], by simp, .one hE⟩ hb
        obtain ⟨e, he, hte⟩ := hcov t htt
        obtain ⟨hpt, r, hr⟩ := hPa.part e he
        obtain ⟨b1, b2⟩ := (hpt.mem t).mp hte
        have hhe : h ∈ e.2 := (hpt.mem h).mpr ⟨b1.snoc hE, hb.trans b2⟩
        obtain ⟨kt, wt, et'⟩ := hon e he t hte
        obtain ⟨kh, wh, eh'⟩ := hon e he h hhe
        obtain ⟨kr, _, wr⟩ := hb.trans b2
        have r1 : gn M.E (kh ++ kr) = 0 := by
          have a1 := hno 1 (by simp) _ _ (wh.append wr)
          have a2 := hno (-1) (by simp) _ _ (wh.append wr)
          omega
        have r2 : gn M.E ((kt ++ [k]) ++ kr) = 0 := by
          have a1 := hno 1 (by simp) _ _ ((wt.snoc hE).append wr)
          have a2 := hno (-1) (by simp) _ _ ((wt.snoc hE).append wr)
          omega
        rw [gn_append] at r1
        rw [gn_append, gn_append, gn_one, eg_of hE] at r2
        omega
end
end K15
namespace K15
open PySem PySem.Spec PyProof.Rows L2 RZ
/-! ### reached_places, Chart -/
/-- the arrows alone -/
def bare (ar : List (Nat × Nat)) : List Edge := ar.map fun e => (e.1, e.2, 0)
def Reach (ar : List (Nat × Nat)) (p : Nat) : Prop := ∃ ks, Wk (bare ar) 0 ks p
theorem bare_inv {ar : List (Nat × Nat)} {k t h : Nat} {g : Int} (e : (bare ar)[k]? = some (t, h, g)) : ar[k]? = some (t, h) := by
  unfold bare at e
  rw [List.getElem?_map] at e
  cases q : ar[k]? with
  | none => rw [q] at e; cases e
  | some z =>
    rw [q] at e
    cases e
    rfl
theorem bare_at {ar : List (Nat × Nat)} {k t h : Nat} (e : ar[k]? = some (t, h)) : (bare ar)[k]? = some (t, h, 0) := by
  unfold bare
  rw [List.getElem?_map, e]
  rfl
theorem Wk.full {M : Mt} (hl : M.charges.length = M.arrows.length) {u v : Nat} {ks : List Nat} (h : Wk (bare M.arrows) u ks v) : Wk M.E u ks v := by
  induction h with
  | nil u => exact .nil u
  | cons e _ ih =>
    have e1 := bare_inv e
    have hk := (List.getElem?_eq_some_iff.mp e1).1
    have e2 : M.charges[_]? = some _ := List.getElem?_eq_getElem (by rw [hl]; exact hk)
    exact .cons (Mt.E_at e1 e2) ih
def sp_reached_places (_ : Ad) : Sp := fun vs H Q _ => ∃ (a : Addr) (n : Nat) (ps : List Addr) (ar : List (Nat × Nat)), vs = [nv n, .ref a] ∧ Sq H a (ps.map V.ref) ∧ Each (PairAt H) ps ar ∧ 1 ≤ n ∧ n ≤ 16 ∧ (∀ e ∈ ar, e.1 < n ∧ e.2 < n) ∧ (∀ p, p < n → Reach ar p) ∧
  ∀ H' q, Same H H' → H q = none → H' q = some (.lst (List.replicate n (.bl true))) → Q (.ref q) H'
def sp_ChartInit (A : Ad) : Sp := fun us H Q _ => ∃ (x dx c a : Addr) (cs : List Int) (ps : List Addr) (ar : List (Nat × Nat)), us = [.ref x, .ref c, .ref a] ∧ H x = some (.ins A.ch dx []) ∧ Sq H c (cs.map V.int) ∧ Sq H a (ps.map V.ref) ∧ Each (PairAt H) ps ar ∧ ChOk cs ar ∧ (∀ z ∈ cs, 0 ≤ z ∧ z ≤ 1000000000) ∧ (∀ p, p < cs.length → Reach ar p) ∧
  ∀ H', (∀ b o, b ≠ x → H b = some o → H' b = some o) → ChartAt A H' x cs ar → Q .non H'
theorem count_set_true {l : List Bool} {i : Nat} (hi : i < l.length) (h : l.getD i false = false) : (l.set i true).count false + 1 = l.count false := by
  induction l generalizing i with
  | nil => simp at hi
  | cons a l ih =>
    cases i with
    | zero =>
      have : a = false := h
      subst this
      simp
    | succ i =>
      have := ih (i := i) (by simpa using hi) (by simpa using h)
      cases a <;> simp <;> omega
theorem bool_at {l : List Bool} {i : Nat} (hi : i < l.length) : (l.map V.bl)[i]? = some (V.bl (l.getD i false)) := by
  rw [List.getElem?_map, List.getD_eq_getElem?_getD, List.getElem?_eq_getElem hi]
  rfl
theorem getD_setB {l : List Bool} {i x : Nat} {v : Bool} (hi : i < l.length) : (l.set i v).getD x false = if x = i then v else l.getD x false := by
  rw [List.getD_eq_getElem?_getD, List.getD_eq_getElem?_getD, List.getElem?_set]
  by_cases h : i = x
  · subst h
    rw [if_pos rfl, if_pos hi, if_pos rfl]
    rfl
  · rw [if_neg h, if_neg (fun e => h e.symm)]
section
variable {K : PySem.W.Frag} {σ : L2.St} {H : Hp} {te : TE} {tt tu : TT} {t1 t2 : TS} {D : Ends}
theorem sq_neverS (h : EtS tt σ H false) (k : ∀ H', Same H H' → t2 D σ H') : tSeq (tIfS tt t1 tNext) t2 D σ H := h _ fun H' s => (by rw [if_neg Bool.false_ne_true]; exact k H' s)
theorem sx_neverS (h : EtS tt σ H false) (k : ∀ H', Same H H' → D.nx σ H') : tIfS tt t1 tNext D σ H := h _ fun H' s => (by rw [if_neg Bool.false_ne_true]; exact k H' s)
theorem EtS.or (h : EtS tt σ H false) (h2 : ∀ H', Same H H' → EtS tu σ H' false) : EtS (tOr tt tu) σ H false := fun Q q => h _ fun H' s => (by rw [if_neg Bool.false_ne_true]; exact h2 H' s _ fun H2 s2 => q H2 (s.trans s2))
theorem EtS.notB (h : EvR te σ H (fun v H' => v = .bl true ∧ Same H H')) : EtS (tNot (tB te)) σ H false := fun Q q => h _ fun v H' ⟨e, s⟩ => ⟨true, e, q H' s⟩
end
section
variable {P : Program} {w : World} {K : PySem.W.Frag} {mg : Str → Option Value} {base : Heap} {A : Ad} (T : Txt K mg A)
include T
theorem ok_reached_places (d : Df K mg "reached_places" s_reached_places ["many", "arrows"]) : Cal P w K mg base 1 "reached_places" ["many", "arrows"] (sp_reached_places A) := by
  refine d.ok sc_reached_places (fun vs H Q E h => ?_) (fun f cdv A' outer s H vs Q E hr h => ?_)
  · obtain ⟨a, n, ps, ar, rfl, _⟩ := h
    rfl
  · obtain ⟨a, n, ps, ar, rfl, hS, hEa, hn1, hn16, hends, hreach, q⟩ := h
    refine ⟨_, (pss_cons (ps_setLc (i := 2) (own := [("place", 4)]) (g := (gName 4)) (tt := tYes) (te := (tOp rEq (tVar 4) (tC (.int 0)))) rfl sc_reached_places.nd rfl rfl (sw_true rfl rfl rfl (by decide +kernel)) (pi_range1 (by rfl) T.z_range (pa_cons (pv 0) pa_nil)) (blkOk_by (N := ["many", "arrows", "reached", "found", "place", "tail", "head"]) (own := [("place", 4)]) (sc := defScope s_reached_places) (by decide +kernel)) (fun _ _ _ _ _ => (pg_name (i := 4) sc_reached_places.nd rfl (.inl rfl))) (fun _ _ _ _ _ => pts_nil) (fun _ _ _ _ _ => (pe_cmpR op_eq (pv 4) pe_int (nomark _))))
    (pss_cons (ps_set (i := 3) sc_reached_places.nd rfl (.inl rfl) (pe_lst (pa_cons pe_int pa_nil)))
    (pss_cons (ps_while PassesOwn.never (pt_tru (pv 3) (by intro _; rfl)) (pss_cons (ps_set (i := 4) sc_reached_places.nd rfl (.inl rfl) (pe_bm0 PySem.F.plainAttrs_list PySem.F.slot_list_pop PySem.F.type_list_pop mt_pop (pv 3)))
    (pss_one (ps_for PassesOwn.never rfl (pi_seq (pv 1)) (pg_tup rfl (pgs_cons (pg_name (i := 5) sc_reached_places.nd rfl (.inl rfl)) (pgs_cons (pg_name (i := 6) sc_reached_places.nd rfl (.inl rfl)) pgs_nil))) (pss_one (ps_if (PW.pt (pw_and (pt_cmpR op_eq (pv 5) (pv 4) (nomark _)) (pw_and1 (pt_not (pt_val (pe_ix ix_any (pv 2) (pv 6) (fun _ _ => rfl))))))) (pss_cons (ps_asg pe_bl (pg_sub (pv 2) (pv 6) set_list))
    (pss_one (ps_expr (pe_bm PySem.F.plainAttrs_list PySem.F.slot_list_append PySem.F.type_list_append mt_append (pv 3) (pa_cons (pv 6) pa_nil))))) pss_nil))))))
    (pss_one (ps_ret (pv 2)))))), ?_⟩
    refine pl_seq (pl_set ?_)
    refine rd_lcFmR (n := n) (ea_cons (ev_var rfl) ea_nil) (by omega) (fun j _ => some (.bl (decide (j = 0)))) (fun _ => rfl) (fun j H' _ _ => EtS.yes) (fun j y H' hj hy s => ?_) (fun ra H1 hra s1 hL => ?_)
    · have e : V.bl (decide (j = 0)) = y := Option.some.inj hy
      subst e
      refine ((ev_eq (ev_var (v := nv j) rfl) ev_c rfl).is ?_).s
      by_cases h : j = 0
      · subst h; rfl
      · have : ¬ nv j = V.int 0 := fun e => h (by have := V.int.inj e; omega)
        rw [decide_eq_false h, decide_eq_false this]
    · have eL : fmI (fun j _ => some (.bl (decide (j = 0)))) 0 ((List.range n).map fun (i : Nat) => V.int (i : Int)) = ((List.range n).map fun j => decide (j = 0)).map V.bl := by
        rw [List.map_map]
        exact fmI_map (fun (j : Nat) => V.bl (decide (j = 0))) _ _ _ 0 (fun j x hj => by
          have hjn : j < n := by
            have := (List.getElem?_eq_some_iff.mp hj).1
            rwa [List.length_range] at this
          rw [List.getElem?_range hjn] at hj
          cases hj
          rw [Nat.zero_add])
      rw [eL] at hL
      have hlen0 : ((List.range n).map fun j => decide (j = 0)).length = n := by rw [List.length_map, List.length_range]
      have h00 : ((List.range n).map fun j => decide (j = 0)).getD 0 false = true := by
        rw [List.getD_eq_getElem?_getD, List.getElem?_map, List.getElem?_range hn1]
        rfl
      have hx0 : ∀ x, ((List.range n).map fun j => decide (j = 0)).getD x false = true → x = 0 := fun x hx => by
        rw [List.getD_eq_getElem?_getD, List.getElem?_map] at hx
        by_cases hxn : x < n
        · rw [List.getElem?_range hxn] at hx
          exact of_decide_eq_true hx
        · rw [List.getElem?_eq_none (by rw [List.length_range]; omega)] at hx
          cases hx
      generalize (List.range n).map (fun j => decide (j = 0)) = rs0 at hL hlen0 h00 hx0
      refine pl_nx (pl_seq (pl_set (pl_lst (pl_cons (ev_c _ ⟨by show 1 ≤ sizeLine; decide, fun fa hfa0 => ?_⟩)))))
      have s2 : Same H (upd H1 fa (.lst [.int 0])) := s1.new hfa0
      have hf2 : NL (upd H1 fa (.lst [.int 0])) fa [0] := upd_same
      have hr2 : (upd H1 fa (.lst [.int 0])) ra = some (.lst (rs0.map V.bl)) := (same_upd hfa0) _ _ hL
      have hfa : H fa = none := s1.free hfa0
      have hrf : ra ≠ fa := ne_of_none hL hfa0
      generalize upd H1 fa (.lst [.int 0]) = H2 at s2 hf2 hr2
      refine pl_nx (pl_seq ?_)
      refine rd_while (fun m σ' G => ∃ (fs : List Nat) (rs : List Bool) (o4 o5 o6 : Option V), σ' = [some (nv n), some (.ref a), some (.ref ra), some (.ref fa), o4, o5, o6] ∧ m = 2 * rs.count false + fs.length ∧ m ≤ 2 * n + 1 ∧ Same H G ∧ NL G fa fs ∧ G ra = some (.lst (rs.map V.bl)) ∧ rs.length = n ∧ (∀ x ∈ fs, x < n) ∧ rs.getD 0 false = true ∧
          ∀ x, x < n → rs.getD x false = true → x ∈ fs ∨ ∀ e ∈ ar, e.1 = x → rs.getD e.2 false = true)
        ⟨_, [0], rs0, _, _, _, rfl, rfl, by have := List.count_le_length (a := false) (l := rs0); simp; omega, s2, hf2, hr2, hlen0, fun x hx => by rw [List.mem_singleton.mp hx]; exact hn1, h00, fun x hx hr => .inl (by rw [hx0 x hr]; simp)⟩ ?_
      rintro m0 σ' G ⟨fs, rs, o4, o5, o6, rfl, rfl, hm0, s, hf, hr', hrl, hfn, hr0, hcl⟩
      refine ⟨!(fs.map nv).isEmpty, et_tru (ev_var rfl) (tru_seq (SqA.l hf)), fun hb => ?_, fun hb => ?_⟩
      · have hne : fs ≠ [] := fun e => by rw [e] at hb; simp at hb
        have hlast : fs = fs.dropLast ++ [fs.getLast hne] := (List.dropLast_concat_getLast hne).symm
        generalize fs.getLast hne = tl at hlast
        generalize fs.dropLast = w0 at hlast
        subst hlast
        have hlast2 : ((w0 ++ [tl]).map nv)[((w0 ++ [tl]).map nv).length - 1]? = some (nv tl) := by
          rw [List.length_map, List.length_append, List.length_singleton, Nat.add_sub_cancel, List.getElem?_map, List.getElem?_append_right (Nat.le_refl _), Nat.sub_self]
          rfl
        have hdrop : ((w0 ++ [tl]).map nv).dropLast = w0.map nv := by rw [List.map_append, List.map_singleton, List.dropLast_concat]
        refine pl_seq (pl_set (ev_var rfl _ ⟨tyl hf, fa, _, _, rfl, rfl, hf, hlast2, ?_⟩))
        rw [hdrop]
        have s3 : Same H (upd G fa (.lst (w0.map nv))) := s.mut hfa
        have hf3 : NL (upd G fa (.lst (w0.map nv))) fa w0 := upd_same
        have hr3 : (upd G fa (.lst (w0.map nv))) ra = some (.lst (rs.map V.bl)) := by rw [upd_ne hrf]; exact hr'
        generalize upd G fa (.lst (w0.map nv)) = G1 at s3 hf3 hr3
        refine pl_nx ?_
        refine rd_forSeq (ev_var rfl).r fun v G2 hv => ?_
        obtain ⟨rfl, rfl⟩ := hv
        refine ⟨a, ps.map V.ref, rfl, (hS.s s3).a, fun j σ' G' => ∃ (fs' : List Nat) (rs' : List Bool) (o5 o6 : Option V), σ' = [some (nv n), some (.ref a), some (.ref ra), some (.ref fa), some (nv tl), o5, o6] ∧ 2 * rs'.count false + fs'.length + 1 ≤ 2 * rs.count false + (w0 ++ [tl]).length ∧ Same H G' ∧ NL G' fa fs' ∧ G' ra = some (.lst (rs'.map V.bl)) ∧ rs'.length = n ∧ (∀ x ∈ fs', x < n) ∧ rs'.getD 0 false = true ∧
            (∀ x, x < n → rs'.getD x false = true → x ∈ fs' ∨ x = tl ∨ ∀ e ∈ ar, e.1 = x → rs'.getD e.2 false = true) ∧ ∀ e ∈ ar.take j, e.1 = tl → rs'.getD e.2 false = true,
          ⟨w0, rs, _, _, rfl, by rw [List.length_append, List.length_singleton]; omega, s3, hf3, hr3, hrl, fun x hx => hfn x (by simp [hx]), hr0, fun x hx hxr => ?_, fun e he => by simp at he⟩,
          fun j σ' G' z => by obtain ⟨_, _, _, _, _, _, z, _⟩ := z; rcases hS with h | h <;> (intro o ho; rw [s3 _ _ h] at ho; rw [← ho]; exact z _ _ h), ?_, ?_⟩
        · rcases hcl x hx hxr with h | h
          · rcases List.mem_append.mp h with h | h
            · exact .inl h
            · exact .inr (.inl (by simpa using h))
          · exact .inr (.inr h)
        · rintro j x σ' G' hj ⟨fs', rs', o5, o6, rfl, hms, s4, hf4, hr4, hrl4, hfn4, hr04, hcl4, hdo4⟩
          have hjl : j < ar.length := by
            have := (List.getElem?_eq_some_iff.mp hj).1
            rwa [List.length_map, hEa.1] at this
          have hje : ar[j]? = some ar[j] := List.getElem?_eq_getElem hjl
          have hem : ar[j] ∈ ar := List.getElem_mem hjl
          generalize ar[j] = e at hje hem
          obtain ⟨t, h⟩ := e
          obtain ⟨u, hu, hpu⟩ := hEa.get hje
          have ex : x = .ref u := Option.some.inj (hj.symm.trans (ref_at hu))
          subst ex
          obtain ⟨htn, hhn⟩ := hends _ hem
          refine g_two (s4 _ _ hpu) ?_
          have step : ∀ (rs2 : List Bool), (∀ x, rs'.getD x false = true → rs2.getD x false = true) → (t = tl → rs2.getD h false = true) → ∀ e ∈ ar.take (j + 1), e.1 = tl → rs2.getD e.2 false = true := fun rs2 hsub hin e he het => by
            rw [List.take_add_one, hje] at he
            rcases List.mem_append.mp he with he | he
            · exact hsub _ (hdo4 e he het)
            · have : e = (t, h) := by simpa using he
              subst this
              exact hin het
          have hhl : h < rs'.length := by rw [hrl4]; exact hhn
          have e1 : EtE (tAnd (tTest (tOp rEq (tVar 5) (tVar 4))) (tNot (tB (tOp (rIxA K) (tVar 2) (tVar 6))))) [some (nv n), some (.ref a), some (.ref ra), some (.ref fa), some (nv tl), some (nv t), some (nv h)] G' (decide (nv t = nv tl) && !rs'.getD h false) :=
            et_and (et_test (ev_eq (ev_var rfl) (ev_var rfl) rfl)) fun _ => et_not (et_B (ev_ixn (ev_var rfl) (ev_var rfl) (SqA.l hr4) (bool_at hhl)))
          refine sx_if e1 (fun hb => ?_) (fun hb => ?_)
          · rw [Bool.and_eq_true, decide_eq_true_eq, Bool.not_eq_true'] at hb
            obtain ⟨hb1, hb2⟩ := hb
            have htl : t = tl := by have := V.int.inj hb1; omega
            refine sq_put (n := h) ev_c (ev_var rfl) (ev_var rfl) hr4 (by rw [List.length_map]; exact hhl) ?_
            have hset : (rs'.map V.bl).set h (.bl true) = (rs'.set h true).map V.bl := by rw [List.map_set]
            rw [hset]
            have hf5 : NL (upd G' ra (.lst ((rs'.set h true).map V.bl))) fa fs' := by
              show (upd G' ra _) fa = _
              rw [upd_ne hrf.symm]
              exact hf4
            have hcnt := count_set_true hhl hb2
            rw [List.length_append, List.length_singleton] at hms hm0
            refine sx_app (ev_var rfl) (ev_var rfl) hf5 (by rw [List.length_map]; omega) ?_
            refine ⟨fs' ++ [h], rs'.set h true, _, _, rfl, by simp only [List.length_append, List.length_singleton]; omega, (s4.mut hra).mut hfa, ?_, ?_, by rw [List.length_set]; exact hrl4, fun x hx => ?_, ?_, fun x hx hxr => ?_, step _ (fun x hx => ?_) fun _ => ?_⟩
            · show (upd (upd G' ra _) fa _) fa = _
              rw [upd_same, List.map_append]
              rfl
            · rw [upd_ne hrf, upd_same]
            · rcases List.mem_append.mp hx with hx | hx
              · exact hfn4 x hx
              · rw [List.mem_singleton.mp hx]; exact hhn
            · rw [getD_setB hhl]
              split
              · rfl
              · exact hr04
            · rw [getD_setB hhl] at hxr
              by_cases hxh : x = h
              · exact .inl (List.mem_append_right _ (by simp [hxh]))
              · rw [if_neg hxh] at hxr
                rcases hcl4 x hx hxr with z | z | z
                · exact .inl (List.mem_append_left _ z)
                · exact .inr (.inl z)
                · refine .inr (.inr fun e he hex => ?_)
                  rw [getD_setB hhl]
                  split
                  · rfl
                  · exact z e he hex
            · rw [getD_setB hhl]
              split
              · rfl
              · exact hx
            · rw [getD_setB hhl, if_pos rfl]
          · refine ⟨fs', rs', _, _, rfl, hms, s4, hf4, hr4, hrl4, hfn4, hr04, hcl4, step _ (fun _ z => z) fun htl => ?_⟩
            subst htl
            cases hz : rs'.getD h false with
            | true => rfl
            | false => rw [hz] at hb; simp at hb
        · rintro σ' G' ⟨fs', rs', o5, o6, rfl, hms, s4, hf4, hr4, hrl4, hfn4, hr04, hcl4, hdo4⟩
          rw [List.length_map, hEa.1, List.take_length] at hdo4
          refine ⟨_, ?_, fs', rs', _, _, _, rfl, rfl, by omega, s4, hf4, hr4, hrl4, hfn4, hr04, fun x hx hxr => ?_⟩
          · omega
          · rcases hcl4 x hx hxr with z | z | z
            · exact .inl z
            · subst z
              exact .inr hdo4
            · exact .inr z
      · have e : fs = [] := by
          cases fs with
          | nil => rfl
          | cons a b => simp at hb
        subst e
        have hall : ∀ u ks v, Wk (bare ar) u ks v → u < n → rs.getD u false = true → v < n ∧ rs.getD v false = true := fun u ks v hw => by
          induction hw with
          | nil u => exact fun a b => ⟨a, b⟩
          | cons e _ ih =>
            intro hu hur
            have hm := List.mem_of_getElem? (bare_inv e)
            exact ih (hends _ hm).2 ((hcl _ hu hur).resolve_left (by simp) _ hm rfl)
        have hrs : rs.map V.bl = List.replicate n (.bl true) := by
          refine List.ext_getElem (by rw [List.length_map, List.length_replicate, hrl]) fun i h1 h2 => ?_
          rw [List.length_map] at h1
          obtain ⟨ks, hw⟩ := hreach i (by omega)
          have hi := (hall 0 ks i hw hn1 hr0).2
          rw [List.getD_eq_getElem?_getD, List.getElem?_eq_getElem h1] at hi
          rw [List.getElem_map, List.getElem_replicate]
          exact congrArg V.bl hi
        rw [hrs] at hr'
        exact pl_nx (pl_ret (ev_var rfl _ (q G ra s hra hr')))
theorem ok_ChartInit (d : DfC K A.ch "Chart.__init__" s_ChartInit ["self", "costs", "arrows"]) (c_is_whole : Cal P w K mg base 1 "is_whole" ["thing", "low", "high"] (sp_is_whole A)) (c_is_row : Cal P w K mg base 1 "is_row" ["thing", "least", "most"] (sp_is_row A))
    (c_reached_places : Cal P w K mg base 1 "reached_places" ["many", "arrows"] (sp_reached_places A)) : CalC P w K mg base 2 "Chart" A.ch ["self", "costs", "arrows"] (sp_ChartInit A) := by
  refine d.ok T.g_ch sc_ChartInit (fun vs H Q E h => ?_) (fun f cdv A' outer s H vs Q E hr h => ?_)
  · obtain ⟨x, dx, c, a, cs, ps, ar, rfl, _⟩ := h
    rfl
  · obtain ⟨x, dx, c, a, cs, ps, ar, rfl, hx, hc, ha, hEa, ok, hcs, hre, q⟩ := h
    have hn1 := ok.n1
    have hn16 := ok.n16
    have h32 := ok.a32
    refine ⟨_, (pss_cons (ps_if (pt_not (pt_val (pe_cal c_is_row hr (by rfl) (pa_cons (pv 1) (pa_cons pe_int (pa_cons pe_int pa_nil)))))) (pss_one ps_never) pss_nil)
    (pss_cons (ps_for PassesOwn.never rfl (pi_enumA (by rfl) T.z_enumerate (pa_cons (pv 1) pa_nil)) (pg_tup rfl (pgs_cons (pg_name (i := 3) sc_ChartInit.nd rfl (.inl rfl)) (pgs_cons (pg_name (i := 4) sc_ChartInit.nd rfl (.inl rfl)) pgs_nil))) (pss_one (ps_if (pt_not (pt_val (pe_cal c_is_whole hr (by rfl) (pa_cons (pv 4) (pa_cons pe_int (pa_cons (pe_op op_powI pe_int pe_int) pa_nil)))))) (pss_one ps_never) pss_nil)))
    (pss_cons (ps_if (pt_not (pt_val (pe_cal c_is_row hr (by rfl) (pa_cons (pv 2) (pa_cons pe_int (pa_cons pe_int pa_nil)))))) (pss_one ps_never) pss_nil)
    (pss_cons (ps_set (i := 5) sc_ChartInit.nd rfl (.inl rfl) (pe_op op_subI (pe_callB cr_len (by rfl) T.z_len (by decide +kernel) (pa_cons (pv 1) pa_nil)) pe_int))
    (pss_cons (ps_for PassesOwn.never rfl (pi_enumA (by rfl) T.z_enumerate (pa_cons (pv 2) pa_nil)) (pg_tup rfl (pgs_cons (pg_name (i := 3) sc_ChartInit.nd rfl (.inl rfl)) (pgs_cons (pg_name (i := 6) sc_ChartInit.nd rfl (.inl rfl)) pgs_nil))) (pss_one (ps_if (PW.pt (pw_or (pt_not (pt_val (pe_cal c_is_row hr (by rfl) (pa_cons (pv 6) (pa_cons pe_int (pa_cons pe_int pa_nil)))))) (pw_or (pt_not (pt_val (pe_cal c_is_whole hr (by rfl) (pa_cons (pe_ix ix_any (pv 6) pe_int (fun _ _ => rfl)) (pa_cons pe_int (pa_cons (pv 5) pa_nil)))))) (pw_or1 (pt_not (pt_val (pe_cal c_is_whole hr (by rfl) (pa_cons (pe_ix ix_any (pv 6) pe_int (fun _ _ => rfl)) (pa_cons pe_int (pa_cons (pv 5) pa_nil)))))))))) (pss_one ps_never) pss_nil)))
    (pss_cons (ps_for PassesOwn.never rfl (pi_enumA (by rfl) T.z_enumerate (pa_cons (pe_cal c_reached_places hr (by rfl) (pa_cons (pe_callB cr_len (by rfl) T.z_len (by decide +kernel) (pa_cons (pv 1) pa_nil)) (pa_cons (pv 2) pa_nil))) pa_nil)) (pg_tup rfl (pgs_cons (pg_name (i := 7) sc_ChartInit.nd rfl (.inl rfl)) (pgs_cons (pg_name (i := 8) sc_ChartInit.nd rfl (.inl rfl)) pgs_nil))) (pss_one (ps_if (pt_not (pt_val (pv 8))) (pss_one ps_never) pss_nil)))
    (pss_cons (ps_fld (pv 0) (pe_callTy cr_tup (by rfl) T.z_tuple (by decide +kernel) (pa_cons (pv 1) pa_nil)) rfl)
    (pss_one (ps_fld (pv 0) (pe_callTy cr_tup (by rfl) T.z_tuple (by decide +kernel) (pa_cons (pe_lc (own := [("arrow", 6)]) (g := (gName 6)) (tt := tYes) (te := (tCB (rTupOf K) (tCons (tVar 6) tNil))) rfl sc_ChartInit.nd (pi_seq (pv 2)) (blkOk_by (N := ["self", "costs", "arrows", "index", "cost", "last", "arrow", "place", "reached"]) (own := [("arrow", 6)]) (sc := defScope s_ChartInit) (by decide +kernel)) (fun _ _ _ _ _ => (pg_name (i := 6) sc_ChartInit.nd rfl (.inl rfl))) (fun _ _ _ _ _ => pts_nil) (fun _ _ _ _ _ => (pe_callTy cr_tup (by rfl) T.z_tuple (by decide +kernel) (pa_cons (pv 6) pa_nil)))) pa_nil)) rfl))))))))), ?_⟩
    refine sq_rowOk (ev_rowR (ev_var rfl) ev_c ev_c hc (by rw [List.length_map]; omega) (by rw [List.length_map]; omega)) fun H1 s1 => ?_
    refine pl_seq ?_
    refine rd_forEnum (EaR.one (ev_var rfl).r) fun us H2 hu => ?_
    obtain ⟨_, rfl, rfl, rfl⟩ := hu
    refine ⟨c, cs.map V.int, rfl, (hc.s s1).a, fun i σ' H' => ∃ (o3 o4 : Option V), σ' = [some (.ref x), some (.ref c), some (.ref a), o3, o4, none, none, none, none] ∧ Same H1 H', ⟨_, _, rfl, Same.refl _⟩, fun i σ' H' p => by obtain ⟨_, _, _, s⟩ := p; exact s.at, ?_, ?_⟩
    · rintro i x2 U σ' H' hi ⟨o3, o4, rfl, s2⟩ hU
      rw [List.getElem?_map] at hi
      cases e : cs[i]? with
      | none => rw [e] at hi; cases hi
      | some z =>
        rw [e] at hi
        cases hi
        obtain ⟨hz0, hz1⟩ := hcs z (List.mem_of_getElem? e)
        refine g_two upd_same (sx_no (et_not (et_B (ev_whole (ev_var rfl) ev_c (ev_pow (e := 1000000000) (by decide) (by unfold CPow; decide)) hz0 hz1))) ?_)
        exact ⟨_, _, rfl, s2.new hU⟩
    · rintro σ' H2 ⟨o3, o4, rfl, s2⟩
      have s12 := s1.trans s2
      refine pl_nx ?_
      refine sq_rowOk (ev_rowR (ev_var rfl) ev_c ev_c (ha.s s12) (by omega) (by rw [List.length_map, hEa.1]; omega)) fun H3 s3 => ?_
      have s13 := s12.trans s3
      refine sq_set (v := .int ((cs.length : Int) - 1)) ((ev_sub (ev_len (ev_var rfl) (hc.s s13).a) ev_c).is (by rw [List.length_map])) (pl_seq ?_)
      refine rd_forEnum (EaR.one (ev_var rfl).r) fun us H4 hu => ?_
      obtain ⟨_, rfl, rfl, rfl⟩ := hu
      refine ⟨a, ps.map V.ref, rfl, (ha.s s13).a, fun i σ' H' => ∃ (o3 o4 o6 : Option V), σ' = [some (.ref x), some (.ref c), some (.ref a), o3, o4, some (.int ((cs.length : Int) - 1)), o6, none, none] ∧ Same H3 H', ⟨_, _, _, rfl, Same.refl _⟩, fun i σ' H' p => by obtain ⟨_, _, _, _, s⟩ := p; exact s.at, ?_, ?_⟩
      · rintro i x2 U σ' H' hi ⟨o3, o4, o6, rfl, s4⟩ hU
        have hil : i < ar.length := by
          have := (List.getElem?_eq_some_iff.mp hi).1
          rwa [List.length_map, hEa.1] at this
        have hie : ar[i]? = some ar[i] := List.getElem?_eq_getElem hil
        have hem : ar[i] ∈ ar := List.getElem_mem hil
        generalize ar[i] = e at hie hem
        obtain ⟨t, h⟩ := e
        obtain ⟨u, hu, hpu⟩ := hEa.get hie
        have ex : x2 = .ref u := Option.some.inj (hi.symm.trans (ref_at hu))
        subst ex
        obtain ⟨htn, hhn⟩ := ok.ends _ hem
        have htn' : t < cs.length := htn
        have hhn' : h < cs.length := hhn
        refine g_two upd_same ?_
        have s5 : Same H3 (upd H' U (.tup [.int (i : Int), .ref u])) := s4.new hU
        have hp5 : (upd H' U (.tup [.int (i : Int), .ref u])) u = some (.tup [nv t, nv h]) := s5 _ _ (s13 _ _ hpu)
        generalize upd H' U (.tup [.int (i : Int), .ref u]) = H5 at s5 hp5
        refine sx_neverS (EtS.or (EtS.notB (ev_rowR (ev_var rfl) ev_c ev_c (.inr hp5) (by show (2 : Int) ≤ 2; decide) (by show (2 : Int) ≤ 2; decide))) fun H6 s6 => EtS.or (EtE.s (et_not (et_B (ev_whole (ev_ixn (n := 0) (v := nv t) (ev_var rfl) ev_c (SqA.t (s6 _ _ hp5)) rfl) ev_c (ev_var rfl) (by omega) (by omega))))) fun H7 s7 => EtE.s (et_not (et_B (ev_whole (ev_ixn (n := 1) (v := nv h) (ev_var rfl) ev_c (SqA.t (s7 _ _ (s6 _ _ hp5))) rfl) ev_c (ev_var rfl) (by omega) (by omega))))) fun H' s' => ?_
        exact ⟨_, _, _, rfl, s5.trans s'⟩
      · rintro σ' H4 ⟨o3, o4, o6, rfl, s4⟩
        have s14 := s13.trans s4
        refine pl_nx (pl_seq ?_)
        refine rd_forEnum (Pc := fun us H5 => ∃ ra, us = [.ref ra] ∧ Same H4 H5 ∧ H5 ra = some (.lst (List.replicate cs.length (.bl true)))) (fun Q3 k3 => ?_) fun us H5 hu => ?_
        · refine pl_cons ?_
          refine ev_callR (Pc := fun v H5 => ∃ ra, v = .ref ra ∧ Same H4 H5 ∧ H5 ra = some (.lst (List.replicate cs.length (.bl true)))) (ea_cons ((ev_len (ev_var rfl) (hc.s s14).a).is (x := nv cs.length) (by rw [List.length_map]; rfl)) (ea_cons (ev_var rfl) ea_nil)) (fun Q2 k2 => ⟨a, cs.length, ps, ar, rfl, ha.s s14, hEa.mono fun p y e => s14 _ _ e, hn1, hn16, ok.ends, hre, fun H' q s hq hL => k2 _ _ ⟨q, rfl, s, hL⟩⟩) _ fun v H5 hv => ?_
          obtain ⟨ra, rfl, s5, hL⟩ := hv
          exact ea_nil _ (k3 _ _ ⟨ra, rfl, s5, hL⟩)
        · obtain ⟨ra, rfl, s5, hL⟩ := hu
          refine ⟨ra, List.replicate cs.length (.bl true), rfl, SqA.l hL, fun i σ' H' => ∃ (o3 o4 o6 o7 o8 : Option V), σ' = [some (.ref x), some (.ref c), some (.ref a), o3, o4, some (.int ((cs.length : Int) - 1)), o6, o7, o8] ∧ Same H5 H', ⟨_, _, _, _, _, rfl, Same.refl _⟩, fun i σ' H' p => by obtain ⟨_, _, _, _, _, _, s⟩ := p; exact s.at, ?_, ?_⟩
          · rintro i x2 U σ' H' hi ⟨o3, o4, o6, o7, o8, rfl, s6⟩ hU
            rw [List.getElem?_replicate] at hi
            have hil : i < cs.length := by
              refine Classical.byContradiction fun hh => ?_
              rw [if_neg hh] at hi
              cases hi
            rw [if_pos hil] at hi
            cases hi
            refine g_two upd_same (sx_no (et_not (b := true) (et_B (ev_var rfl))) ?_)
            exact ⟨_, _, _, _, _, rfl, s6.new hU⟩
          · rintro σ' H6 ⟨o3, o4, o6, o7, o8, rfl, s6⟩
            have s16 := (s14.trans s5).trans s6
            have hx6 := s16 _ _ hx
            refine pl_nx ?_
            -- self.costs = tuple(costs)
            refine pl_seq ((hc.s s16).tup (ev_var rfl) _ fun v H7 hv => ?_)
            obtain ⟨lc, rfl, s7, hlc⟩ := hv
            have hx7 := s7 _ _ hx6
            refine ev_var rfl _ ⟨x, A.ch, dx, [], rfl, hx7, T.cl_ch, T.n_ch_costs, by show 0 < 1000; decide, ?_⟩
            have hlcx : lc ≠ x := ne_of hlc hx7 (by intro e; cases e)
            have s17 := s16.trans s7
            have hput : putF "costs" (.ref lc) [] = [(("costs" : Str), V.ref lc)] := rfl
            rw [hput]
            have hx8 : (upd H7 x (.ins A.ch dx [(("costs" : Str), V.ref lc)])) x = some (.ins A.ch dx [(("costs" : Str), V.ref lc)]) := upd_same
            have key8 : ∀ b o, b ≠ x → H b = some o → (upd H7 x (.ins A.ch dx [(("costs" : Str), V.ref lc)])) b = some o := fun b o hb e => by rw [upd_ne hb]; exact s17 _ _ e
            have hlc8 : IT (upd H7 x (.ins A.ch dx [(("costs" : Str), V.ref lc)])) lc cs := by
              show (upd H7 x _) lc = _
              rw [upd_ne hlcx]
              exact hlc
            generalize upd H7 x (.ins A.ch dx [(("costs" : Str), V.ref lc)]) = H8 at hx8 key8 hlc8
            have hn : ∀ {b o}, H b = some o → o ≠ .ins A.ch dx [] → b ≠ x := fun e ho e2 => ho (by rw [e2, hx] at e; exact (Option.some.inj e).symm)
            have ha8 : Sq H8 a (ps.map V.ref) := ha.elim (fun e => .inl (key8 _ _ (hn e (fun e => by cases e)) e)) fun e => .inr (key8 _ _ (hn e (fun e => by cases e)) e)
            have hE8 : Each (PairAt H8) ps ar := hEa.mono fun p y e => key8 _ _ (hn e (fun e => by cases e)) e
            -- self.arrows = tuple([..])
            refine pl_nx (pl_cb1 ?_)
            refine rd_lcFm (ev_var rfl).r fun v H9 hv => ?_
            obtain ⟨rfl, rfl⟩ := hv
            refine ⟨a, ps.map V.ref, fun _ x => some x, rfl, ha8.a, by rw [List.length_map, hEa.1]; omega, fun _ => rfl, fun k y H' hk _ => EtS.yes, fun k y z H' hk hy s => ?_, fun D H' hD s hL => ?_⟩
            · have hyz : y = z := Option.some.inj hy
              subst hyz
              rw [List.getElem?_map] at hk
              cases e : ps[k]? with
              | none => rw [e] at hk; cases hk
              | some u =>
                rw [e] at hk
                cases hk
                have hkl : k < ar.length := by rw [← hEa.1]; exact (List.getElem?_eq_some_iff.mp e).1
                have := hE8.2 k u ar[k] e (List.getElem?_eq_getElem hkl)
                exact (ev_tupT (ev_var rfl) (s _ _ this)).s
            · have eL : fmI (fun _ x => some x) 0 (ps.map V.ref) = ps.map V.ref := fmI_map V.ref _ V.ref ps 0 (fun k x _ => rfl)
              rw [eL] at hL
              refine ⟨D, _, rfl, .inl ⟨SqL.of hL, fun l hl => ?_⟩⟩
              have hx9 := s _ _ hx8
              have hlx : l ≠ x := (ne_of_none hx9 hl).symm
              have hx10 : (upd H' l (.tup (ps.map V.ref))) x = some (.ins A.ch dx [(("costs" : Str), V.ref lc)]) := by rw [upd_ne hlx.symm]; exact hx9
              refine ev_var rfl _ ⟨x, A.ch, dx, _, rfl, hx10, T.cl_ch, T.n_ch_arrows, by show 1 < 1000; decide, ?_⟩
              have keyZ : ∀ b o, b ≠ x → H8 b = some o → (upd (upd H' l (.tup (ps.map V.ref))) x (.ins A.ch dx (putF "arrows" (.ref l) [(("costs" : Str), V.ref lc)]))) b = some o := fun b o hb e => by
                rw [upd_ne hb]
                exact (s.new hl) _ _ e
              refine q _ (fun b o hb e => keyZ b o hb (key8 b o hb e)) ⟨dx, lc, l, ?_, keyZ _ _ hlcx hlc8, ps, ?_, hE8.mono fun p y e => keyZ _ _ (ne_of e hx8 (by intro e; cases e)) e⟩
              · rw [upd_same]
                exact congrArg (fun z => some (HO.ins A.ch dx z)) ((put_past (by decide +kernel)).trans rfl)
              · rw [upd_ne hlx, upd_same]
end
end K15
namespace K15
open PySem PySem.Spec PyProof.Rows L2 RZ
/-! ### the hand: mix, hand, draw, take, cost, order -/
def HandAt (H : Hp) (hh ca : Addr) : Prop := ∃ (cells : List Int) (i : Nat) (rest total : Int), H hh = some (.lst [.ref ca, nv i, .int rest, .int total]) ∧ IL H ca cells ∧ ca ≠ hh ∧ (∀ z ∈ cells, 0 ≤ z) ∧ i ≤ cells.length ∧ 0 ≤ rest ∧ 0 ≤ total ∧ total < 2147483629
def sp_w_mix (_ : Ad) : Sp := fun vs H Q _ => ∃ a b : Int, vs = [.int a, .int b] ∧ ∀ v : Int, Q (.int v) H
def sp_w_hand (K : PySem.W.Frag) : Sp := fun vs H Q _ => ∃ (a : Addr) (ns : List Int), vs = [.ref a] ∧ SqL K H a (ns.map V.int) ∧ ns.length ≤ 1000 ∧ ∀ H' hh ca, Same H H' → HandAt H' hh ca → Q (.ref hh) H'
def sp_w_draw (_ : Ad) : Sp := fun vs H Q _ => ∃ (hh ca : Addr) (many : Int), vs = [.ref hh, .int many] ∧ HandAt H hh ca ∧ 0 < many ∧ many ≤ 2000000000000 ∧ ∀ H' z, Kb hh H H' → HandAt H' hh ca → 0 ≤ z → z < many → Q (.int z) H'
def sp_w_take (_ : Ad) : Sp := fun vs H Q _ => ∃ (hh ca r : Addr) (xs : List V), vs = [.ref hh, .ref r] ∧ HandAt H hh ca ∧ H r = some (.tup xs) ∧ ∀ H' q, Kb hh H H' → HandAt H' hh ca → Sq H' q xs → Q (.ref q) H'
def sp_w_cost (_ : Ad) : Sp := fun vs H Q _ => ∃ (hh ca : Addr) (b : Bool), vs = [.ref hh, .bl b] ∧ HandAt H hh ca ∧ ∀ H' z, Kb hh H H' → HandAt H' hh ca → 0 ≤ z → z ≤ 1000000000 → Q (.int z) H'
def sp_w_order (_ : Ad) : Sp := fun vs H Q _ => ∃ (hh ca : Addr) (n : Nat), vs = [.ref hh, nv n] ∧ HandAt H hh ca ∧ n ≤ 100 ∧ ∀ H' q ks, Kb hh H H' → HandAt H' hh ca → H q = none → q ≠ hh → NL H' q ks → ks.Perm (List.range n) → Q (.ref q) H'
/-- a statement, then the rest from what holds between -/
theorem sq_mid {t1 t2 : TS} {D : Ends} {σ : L2.St} {H : Hp} (Mid : L2.St → Hp → Prop) (k : ∀ σ' H', Mid σ' H' → t2 D σ' H') (h : ∀ N : L2.St → Hp → Prop, (∀ σ' H', Mid σ' H' → N σ' H') → t1 { D with nx := N } σ H) : tSeq t1 t2 D σ H := h _ k
theorem Kb.refl {la : Addr} {H : Hp} : Kb la H H := fun _ _ _ e => e
section
variable {σ : L2.St} {H : Hp} {ta tb : TE} {A : Ad}
theorem ev_draw {hh ca : Addr} {many : Int} (hH : HandAt H hh ca) (h0 : 0 < many) (h1 : many ≤ 2000000000000) (ha : EvE ta σ H (.ref hh)) (hb : EvE tb σ H (.int many)) :
    EvR (tCall (sp_w_draw A) [] E0 (tCons ta (tCons tb tNil))) σ H (fun v H' => ∃ z, v = .int z ∧ Kb hh H H' ∧ HandAt H' hh ca ∧ 0 ≤ z ∧ z < many) :=
  ev_callR (ea_cons ha (ea_cons hb ea_nil)) fun Q k => ⟨hh, ca, many, rfl, hH, h0, h1, fun H' z kb hH' z0 z1 => k _ _ ⟨z, rfl, kb, hH', z0, z1⟩⟩
/-- a draw's outcome as a natural number -/
theorem ev_drawN {hh ca : Addr} {n : Nat} (hH : HandAt H hh ca) (h0 : 0 < n) (h1 : n ≤ 1000000) (ha : EvE ta σ H (.ref hh)) (hb : EvE tb σ H (.int (n : Int))) :
    EvR (tCall (sp_w_draw A) [] E0 (tCons ta (tCons tb tNil))) σ H (fun v H' => ∃ z : Nat, v = nv z ∧ Kb hh H H' ∧ HandAt H' hh ca ∧ z < n) :=
  (ev_draw hH (by omega) (by omega) ha hb).mono fun v H' hv => by
    obtain ⟨z, rfl, kb, hH', z0, z1⟩ := hv
    refine ⟨z.toNat, ?_, kb, hH', by omega⟩
    show V.int z = V.int ((z.toNat : Nat) : Int)
    rw [Int.toNat_of_nonneg z0]
end
section
variable {P : Program} {w : World} {K : PySem.W.Frag} {mg : Str → Option Value} {base : Heap} {A : Ad} (T : Txt K mg A)
include T
theorem ok_w_mix (d : Df K mg "_law_mix" s_w_mix ["_law_number", "_law_turn"]) : Cal P w K mg base 1 "_law_mix" ["_law_number", "_law_turn"] (sp_w_mix A) := by
  refine d.ok sc_w_mix (fun vs H Q E h => ?_) (fun f cdv A' outer s H vs Q E hr h => ?_)
  · obtain ⟨a, b, rfl, _⟩ := h
    rfl
  · obtain ⟨a, b, rfl, q⟩ := h
    refine ⟨_, (pss_cons (ps_set (i := 2) sc_w_mix.nd rfl (.inl rfl) (pe_op op_modI (pe_callTy cr_int (by rfl) T.z_int (by decide +kernel) (pa_cons (pe_op op_addI (pe_op op_addI (pe_op op_mulI (pv 0) pe_int) (pe_op op_mulI (pv 1) pe_int)) pe_int) pa_nil)) pe_int))
    (pss_cons (ps_set (i := 3) sc_w_mix.nd rfl (.inl rfl) (pe_op op_modI (pe_callTy cr_int (by rfl) T.z_int (by decide +kernel) (pa_cons (pe_op op_addI (pe_op op_addI (pe_op op_mulI (pv 2) (pv 2)) (pe_op op_mulI (pe_op op_divI (pv 2) pe_int) pe_int)) (pe_op op_mulI (pv 1) pe_int)) pa_nil)) pe_int))
    (pss_one (ps_ret (pe_op op_divI (pe_op op_modI (pe_callTy cr_int (by rfl) T.z_int (by decide +kernel) (pa_cons (pe_op op_addI (pe_op op_divI (pe_op op_mulI (pv 3) (pv 3)) pe_int) (pv 2)) pa_nil)) pe_int) pe_int))))), ?_⟩
    refine sq_set (ev_mod (ev_int (ev_add (ev_add (ev_mul (ev_var rfl) ev_c (.inr (by decide))) (ev_mul (ev_var rfl) ev_c (.inr (by decide)))) ev_c)) ev_c (by decide)) ?_
    have h1 := Int.emod_nonneg (a * 48271 + b * 16807 + 29) (show (2147483647 : Int) ≠ 0 by decide)
    have h2 := Int.emod_lt_of_pos (a * 48271 + b * 16807 + 29) (show (0 : Int) < 2147483647 by decide)
    generalize (a * 48271 + b * 16807 + 29) % 2147483647 = o at h1 h2
    refine sq_set (ev_mod (ev_int (ev_add (ev_add (ev_mul (ev_var rfl) (ev_var rfl) (.inr (by omega))) (ev_mul (ev_div (ev_var rfl) ev_c (by decide)) ev_c (.inr (by decide)))) (ev_mul (ev_var rfl) ev_c (.inr (by decide))))) ev_c (by decide)) ?_
    have h3 := Int.emod_nonneg (o * o + o / 131 * 40692 + b * 69621) (show (2147483399 : Int) ≠ 0 by decide)
    have h4 := Int.emod_lt_of_pos (o * o + o / 131 * 40692 + b * 69621) (show (0 : Int) < 2147483399 by decide)
    generalize (o * o + o / 131 * 40692 + b * 69621) % 2147483399 = t at h3 h4
    exact sx_ret (ev_div (ev_mod (ev_int (ev_add (ev_div (ev_mul (ev_var rfl) (ev_var rfl) (.inr (by omega))) ev_c (by decide)) (ev_var rfl))) ev_c (by decide)) ev_c (by decide)) (q _)
theorem ok_w_hand (d : Df K mg "_law_hand" s_w_hand ["_law_script"]) : Cal P w K mg base 1 "_law_hand" ["_law_script"] (sp_w_hand K) := by
  refine d.ok sc_w_hand (fun vs H Q E h => ?_) (fun f cdv A' outer s H vs Q E hr h => ?_)
  · obtain ⟨a, ns, rfl, _⟩ := h
    rfl
  · obtain ⟨a, ns, rfl, hL, hlen, q⟩ := h
    refine ⟨_, (pss_cons (ps_set (i := 1) sc_w_hand.nd rfl (.inl rfl) pe_int)
    (pss_cons (ps_for PassesOwn.never rfl (pi_enumA (by rfl) T.z_enumerate (pa_cons (pv 0) pa_nil)) (pg_tup rfl (pgs_cons (pg_name (i := 2) sc_w_hand.nd rfl (.inl rfl)) (pgs_cons (pg_name (i := 3) sc_w_hand.nd rfl (.inl rfl)) pgs_nil))) (pss_one (ps_set (i := 1) sc_w_hand.nd rfl (.inl rfl) (pe_op op_modI (pe_callTy cr_int (by rfl) T.z_int (by decide +kernel) (pa_cons (pe_op op_addI (pe_op op_mulI (pv 1) pe_int) (pe_op op_mulI (pe_callTy cr_int (by rfl) T.z_int (by decide +kernel) (pa_cons (pv 3) pa_nil)) (pe_op op_addI (pv 2) pe_int))) pa_nil)) pe_int))))
    (pss_one (ps_ret (pe_lst (pa_cons (pe_lc (own := [("_law_cell", 3)]) (g := (gName 3)) (tt := tYes) (te := (tCB rAbs (tCons (tCB rInt1 (tCons (tVar 3) tNil)) tNil))) rfl sc_w_hand.nd (pi_seq (pv 0)) (blkOk_by (N := ["_law_script", "_law_total", "_law_k", "_law_cell"]) (own := [("_law_cell", 3)]) (sc := defScope s_w_hand) (by decide +kernel)) (fun _ _ _ _ _ => (pg_name (i := 3) sc_w_hand.nd rfl (.inl rfl))) (fun _ _ _ _ _ => pts_nil) (fun _ _ _ _ _ => (pe_callB cr_abs (by rfl) T.z_abs (by decide +kernel) (pa_cons (pe_callTy cr_int (by rfl) T.z_int (by decide +kernel) (pa_cons (pv 3) pa_nil)) pa_nil)))) (pa_cons pe_int (pa_cons pe_int (pa_cons (pv 1) pa_nil))))))))), ?_⟩
    refine sq_set ev_c (pl_seq ?_)
    refine rd_forEnum (EaR.one (ev_var rfl).r) fun us H2 hu => ?_
    obtain ⟨_, rfl, rfl, rfl⟩ := hu
    refine ⟨a, ns.map V.int, rfl, .inl hL, fun i σ' H' => ∃ (t : Int) (o2 o3 : Option V), σ' = [some (.ref a), some (.int t), o2, o3] ∧ Same H H' ∧ 0 ≤ t ∧ t < 2147483629, ⟨0, _, _, rfl, Same.refl _, by decide, by decide⟩, fun i σ' H' p => by obtain ⟨_, _, _, _, s, _⟩ := p; exact s.at, ?_, ?_⟩
    · rintro i x U σ' H' hi ⟨t, o2, o3, rfl, s1, h0, h1⟩ hU
      have hil : i < ns.length := by
        have := (List.getElem?_eq_some_iff.mp hi).1
        rwa [List.length_map] at this
      rw [List.getElem?_map] at hi
      cases e : ns[i]? with
      | none => rw [e] at hi; cases hi
      | some z =>
        rw [e] at hi
        cases hi
        refine g_two upd_same (sx_set (ev_mod (ev_int (ev_add (ev_mul (ev_var rfl) ev_c (.inr (by decide))) (ev_mul (ev_int (ev_var rfl)) (ev_add (ev_var rfl) ev_c) (.inr (by omega))))) ev_c (by decide)) ?_)
        exact ⟨_, _, _, rfl, s1.new hU, Int.emod_nonneg _ (by decide), Int.emod_lt_of_pos _ (by decide)⟩
    · rintro σ' H' ⟨t, o2, o3, rfl, s1, h0, h1⟩
      refine pl_nx (pl_ret (pl_lst (pl_cons ?_)))
      refine rd_lcFm (ev_var rfl).r fun v H1 hv => ?_
      obtain ⟨rfl, rfl⟩ := hv
      refine ⟨a, ns.map V.int, fun _ x => match x with | .int z => some (.int (if z < 0 then -z else z)) | _ => none, rfl, s1.sa (.inl hL), by rw [List.length_map]; exact hlen, fun _ => rfl, fun k x H3 hk _ => ?_, fun k x y H3 hk hy s => ?_, fun D H3 hD s hL2 => ?_⟩
      · rw [List.getElem?_map] at hk
        cases e : ns[k]? with
        | none => rw [e] at hk; cases hk
        | some z => rw [e] at hk; cases hk; exact EtS.yes
      · rw [List.getElem?_map] at hk
        cases e : ns[k]? with
        | none => rw [e] at hk; cases hk
        | some z =>
          rw [e] at hk
          cases hk
          have ey : V.int (if z < 0 then -z else z) = y := Option.some.inj hy
          subst ey
          exact (ev_abs (ev_int (ev_var rfl))).s
      · have eL : fmI (fun _ x => match x with | .int z => some (V.int (if z < 0 then -z else z)) | _ => none) 0 (ns.map V.int) = (ns.map fun z => if z < 0 then -z else z).map V.int := by
          rw [List.map_map]
          exact fmI_map (fun z => V.int (if z < 0 then -z else z)) _ V.int ns 0 (fun k x _ => rfl)
        rw [eL] at hL2
        refine (ea_cons ev_c (ea_cons ev_c (ea_cons (ev_var rfl) ea_nil))) _ ⟨by show 4 ≤ sizeLine; decide, fun p hp => ?_⟩
        have hDp : D ≠ p := ne_of_none hL2 hp
        refine q _ p D ((s1.trans s).new hp) ⟨ns.map fun z => if z < 0 then -z else z, 0, 0, t, upd_same, ?_, hDp, fun z hz => ?_, Nat.zero_le _, by decide, h0, h1⟩
        · show (upd H3 p _) D = _
          rw [upd_ne hDp]
          exact hL2
        · obtain ⟨y, _, rfl⟩ := List.mem_map.mp hz
          split <;> omega
theorem ok_w_draw (d : Df K mg "_law_draw" s_w_draw ["_law_hand_here", "_law_many"]) (c_w_mix : Cal P w K mg base 1 "_law_mix" ["_law_number", "_law_turn"] (sp_w_mix A)) : Cal P w K mg base 2 "_law_draw" ["_law_hand_here", "_law_many"] (sp_w_draw A) := by
  refine d.ok sc_w_draw (fun vs H Q E h => ?_) (fun f cdv A' outer s H vs Q E hr h => ?_)
  · obtain ⟨hh, ca, many, rfl, _⟩ := h
    rfl
  · obtain ⟨hh, ca, many, rfl, ⟨cells, i, rest, total, hH, hca, hne, hcells, hi, hr0, ht0, ht1⟩, h0, h1, q⟩ := h
    have hmul : CDivW rest many := ⟨h0, by
      have : many.natAbs ≠ 0 := by omega
      rw [Nat.log2_lt this]
      exact Nat.lt_of_le_of_lt (show many.natAbs ≤ 2 ^ 64 by omega) (Nat.pow_lt_pow_right (by decide) (by decide))⟩
    have hfin : ∀ (H' : Hp) (z : Int) (i' : Nat) (rest' total' : Int), Kb hh H H' → H' hh = some (.lst [.ref ca, nv i', .int rest', .int total']) → i' ≤ cells.length → 0 ≤ rest' → 0 ≤ total' → total' < 2147483629 → Q (.int (z % many)) H' := fun H' z i' rest' total' kb hH' a1 a2 a3 a4 =>
      q H' _ kb ⟨cells, i', rest', total', hH', kb _ _ hne hca, hne, hcells, a1, a2, a3, a4⟩ (Int.emod_nonneg _ (by omega)) (Int.emod_lt_of_pos _ h0)
    refine ⟨_, (pss_cons (ps_if (PW.pt (pw_and (pt_cmpR op_eq (pe_ix ix_any (pv 0) pe_int (fun _ _ => rfl)) pe_int (nomark _)) (pw_and1 (pt_cmpR op_ltI (pe_ix ix_any (pv 0) pe_int (fun _ _ => rfl)) (pe_callB cr_len (by rfl) T.z_len (by decide +kernel) (pa_cons (pe_ix ix_any (pv 0) pe_int (fun _ _ => rfl)) pa_nil)) (nomark _))))) (pss_cons (ps_set (i := 2) sc_w_draw.nd rfl (.inl rfl) (pe_ix ix_any (pe_ix ix_any (pv 0) pe_int (fun _ _ => rfl)) (pe_ix ix_any (pv 0) pe_int (fun _ _ => rfl)) (fun _ _ => rfl)))
    (pss_cons (ps_asg (pe_op op_addI (pe_ix ix_any (pv 0) pe_int (fun _ _ => rfl)) pe_int) (pg_sub (pv 0) pe_int set_list))
    (pss_cons (ps_if (pt_cmpR op_ltI (pv 2) (pe_op op_powI pe_int pe_int) (nomark _)) (pss_one (ps_ret (pe_op op_modI (pe_callTy cr_int (by rfl) T.z_int (by decide +kernel) (pa_cons (pe_cal c_w_mix hr (by rfl) (pa_cons (pe_op op_modI (pe_callTy cr_int (by rfl) T.z_int (by decide +kernel) (pa_cons (pv 2) pa_nil)) pe_int) (pa_cons (pe_ix ix_any (pv 0) pe_int (fun _ _ => rfl)) pa_nil))) pa_nil)) (pv 1)))) pss_nil)
    (pss_one (ps_asg (pv 2) (pg_sub (pv 0) pe_int set_list)))))) pss_nil)
    (pss_cons (ps_if (pt_cmpR op_gtI (pe_ix ix_any (pv 0) pe_int (fun _ _ => rfl)) pe_int (nomark _)) (pss_cons (ps_set (i := 3) sc_w_draw.nd rfl (.inl rfl) (pe_ix ix_any (pv 0) pe_int (fun _ _ => rfl)))
    (pss_cons (ps_asg (pe_op op_divW (pv 3) (pv 1)) (pg_sub (pv 0) pe_int set_list))
    (pss_one (ps_ret (pe_op op_modI (pe_callTy cr_int (by rfl) T.z_int (by decide +kernel) (pa_cons (pv 3) pa_nil)) (pv 1)))))) pss_nil)
    (pss_cons (ps_asg (pe_op op_modI (pe_callTy cr_int (by rfl) T.z_int (by decide +kernel) (pa_cons (pe_op op_addI (pe_ix ix_any (pv 0) pe_int (fun _ _ => rfl)) pe_int) pa_nil)) pe_int) (pg_sub (pv 0) pe_int set_list))
    (pss_one (ps_ret (pe_op op_modI (pe_callTy cr_int (by rfl) T.z_int (by decide +kernel) (pa_cons (pe_cal c_w_mix hr (by rfl) (pa_cons (pe_ix ix_any (pv 0) pe_int (fun _ _ => rfl)) (pa_cons (pe_ix ix_any (pv 0) pe_int (fun _ _ => rfl)) pa_nil))) pa_nil)) (pv 1))))))), ?_⟩
    refine sq_mid (fun σ' H' => ∃ (o2 : Option V) (i' : Nat) (rest' : Int), σ' = [some (.ref hh), some (.int many), o2, none] ∧ Kb hh H H' ∧ H' hh = some (.lst [.ref ca, nv i', .int rest', .int total]) ∧ i' ≤ cells.length ∧ 0 ≤ rest') (fun σ' H' hm => ?_) (fun N hN => ?_)
    · obtain ⟨o2, i', rest', rfl, kb, hH', hi', hr'⟩ := hm
      refine sq_if (et_test (ev_gt (ev_ixn (n := 2) (ev_var rfl) ev_c (SqA.l hH') rfl) ev_c)) (fun hb => ?_) (fun hb => ?_)
      · refine sq_set (ev_ixn (n := 2) (v := .int rest') (ev_var rfl) ev_c (SqA.l hH') rfl) ?_
        refine sq_put (n := 2) (ev_divW (ev_var rfl) (ev_var rfl) hmul) (ev_var rfl) ev_c hH' (by show 2 < 4; decide) ?_
        refine sx_ret (ev_mod (ev_int (ev_var rfl)) (ev_var rfl) h0) ?_
        exact hfin _ rest' i' (rest' / many) total kb.upd upd_same hi' (Int.ediv_nonneg hr' (by omega)) ht0 ht1
      · refine pl_nx ?_
        refine sq_put (n := 3) (v := .int ((total + 1) % 2147483629)) (ev_mod (ev_int (ev_add (ev_ixn (n := 3) (v := .int total) (ev_var rfl) ev_c (SqA.l hH') rfl) ev_c)) ev_c (by decide)) (ev_var rfl) ev_c hH' (by show 3 < 4; decide) ?_
        have hH2 : (upd H' hh (.lst ([V.ref ca, nv i', .int rest', .int total].set 3 (.int ((total + 1) % 2147483629))))) hh = some (.lst [.ref ca, nv i', .int rest', .int ((total + 1) % 2147483629)]) := upd_same
        refine pl_ret (pl_op (pl_cb1 ?_))
        refine ev_callR (us := [.int ((total + 1) % 2147483629), nv i']) (Pc := fun v H2 => ∃ z, v = .int z ∧ H2 = upd H' hh (.lst ([V.ref ca, nv i', .int rest', .int total].set 3 (.int ((total + 1) % 2147483629))))) (ea_cons (ev_ixn (n := 3) (ev_var rfl) ev_c (SqA.l hH2) rfl) (ea_cons (ev_ixn (n := 1) (ev_var rfl) ev_c (SqA.l hH2) rfl) ea_nil)) (fun Q2 k2 => ⟨_, _, rfl, fun z => k2 _ _ ⟨z, rfl, rfl⟩⟩) _ fun v H2 hv => ?_
        obtain ⟨z, rfl, rfl⟩ := hv
        refine ⟨z, rfl, ev_var rfl _ ⟨z, many, rfl, rfl, h0, ?_⟩⟩
        exact hfin _ z i' rest' _ kb.upd hH2 hi' hr' (Int.emod_nonneg _ (by decide)) (Int.emod_lt_of_pos _ (by decide))
    · refine sx_if (et_and (et_test (ev_eq (ev_ixn (n := 2) (ev_var rfl) ev_c (SqA.l hH) rfl) ev_c rfl)) fun _ => et_test (ev_lt (ev_ixn (n := 1) (ev_var rfl) ev_c (SqA.l hH) rfl) (ev_len (ev_ixn (n := 0) (ev_var rfl) ev_c (SqA.l hH) rfl) (SqA.l hca)))) (fun hb => ?_) (fun hb => ?_)
      · rw [Bool.and_eq_true, decide_eq_true_eq, decide_eq_true_eq, List.length_map] at hb
        have hil : i < cells.length := by omega
        have hci := getD_at hil
        have hc0 := hcells _ (List.mem_of_getElem? hci)
        generalize cells.getD i 0 = cell at hci hc0
        refine sq_set (ev_ixn (v := .int cell) (ev_ixn (n := 0) (ev_var rfl) ev_c (SqA.l hH) rfl) (ev_ixn (n := 1) (ev_var rfl) ev_c (SqA.l hH) rfl) (SqA.l hca) (int_at hci)) ?_
        refine sq_put (n := 1) (v := nv (i + 1)) (ev_add (ev_ixn (n := 1) (v := nv i) (ev_var rfl) ev_c (SqA.l hH) rfl) ev_c) (ev_var rfl) ev_c hH (by show 1 < 4; decide) ?_
        have hH2 : (upd H hh (.lst ([V.ref ca, nv i, .int rest, .int total].set 1 (nv (i + 1))))) hh = some (.lst [.ref ca, nv (i + 1), .int rest, .int total]) := upd_same
        have kb2 : Kb hh H (upd H hh (.lst ([V.ref ca, nv i, .int rest, .int total].set 1 (nv (i + 1))))) := Kb.refl.upd
        generalize upd H hh (.lst ([V.ref ca, nv i, .int rest, .int total].set 1 (nv (i + 1)))) = H2 at hH2 kb2
        refine sq_if (et_test (ev_lt (ev_var rfl) (ev_pow (e := 1000000000000000000) (by decide) (by unfold CPow; decide)))) (fun hb2 => ?_) (fun hb2 => ?_)
        · refine pl_ret (pl_op (pl_cb1 ?_))
          refine ev_callR (us := [.int (cell % 2147483647), nv (i + 1)]) (Pc := fun v H3 => ∃ z, v = .int z ∧ H3 = H2) (ea_cons (ev_mod (ev_int (ev_var rfl)) ev_c (by decide)) (ea_cons (ev_ixn (n := 1) (ev_var rfl) ev_c (SqA.l hH2) rfl) ea_nil)) (fun Q2 k2 => ⟨_, _, rfl, fun z => k2 _ _ ⟨z, rfl, rfl⟩⟩) _ fun v H3 hv => ?_
          obtain ⟨z, rfl, rfl⟩ := hv
          refine ⟨z, rfl, ev_var rfl _ ⟨z, many, rfl, rfl, h0, ?_⟩⟩
          exact hfin _ z (i + 1) rest total kb2 hH2 (by omega) hr0 ht0 ht1
        · refine pl_nx (sx_put (n := 2) (v := .int cell) (ev_var rfl) (ev_var rfl) ev_c hH2 (by show 2 < 4; decide) ?_)
          exact hN _ _ ⟨_, i + 1, cell, rfl, kb2.upd, upd_same, by omega, hc0⟩
      · exact hN _ _ ⟨_, i, rest, rfl, Kb.refl, hH, hi, hr0⟩
theorem ok_w_take (d : Df K mg "_law_take" s_w_take ["_law_hand_here", "_law_row"]) (c_w_draw : Cal P w K mg base 2 "_law_draw" ["_law_hand_here", "_law_many"] (sp_w_draw A)) : Cal P w K mg base 3 "_law_take" ["_law_hand_here", "_law_row"] (sp_w_take A) := by
  refine d.ok sc_w_take (fun vs H Q E h => ?_) (fun f cdv A' outer s H vs Q E hr h => ?_)
  · obtain ⟨hh, ca, r, xs, rfl, _⟩ := h
    rfl
  · obtain ⟨hh, ca, r, xs, rfl, hH, hr', q⟩ := h
    refine ⟨_, (pss_one (ps_ret (pe_ifExp (pt_cmpR op_eq (pe_cal c_w_draw hr (by rfl) (pa_cons (pv 0) (pa_cons pe_int pa_nil))) pe_int (nomark _)) (pe_callTy cr_list (by rfl) T.z_list (by decide +kernel) (pa_cons (pv 1) pa_nil)) (pe_callTy cr_tup (by rfl) T.z_tuple (by decide +kernel) (pa_cons (pv 1) pa_nil))))), ?_⟩
    refine pl_ret (pl_ifx (pl_test (pl_op (ev_draw hH (by decide) (by decide) (ev_var rfl) ev_c _ fun v H1 hv => ?_))))
    obtain ⟨z, rfl, kb, hH1, z0, z1⟩ := hv
    have hrh : r ≠ hh := by
      obtain ⟨cells, i, rest, total, hx, _⟩ := hH
      exact ne_of hr' hx (by intro e; cases e)
    have hr1 := kb _ _ hrh hr'
    refine ev_c _ ⟨rfl, _, rfl, ?_⟩
    refine ite2 (fun hb => ?_) (fun hb => ?_)
    · refine pl_cb1 (ev_var rfl _ ⟨r, xs, rfl, SqA.t hr1, fun l hl => ?_⟩)
      obtain ⟨cells, i, rest, total, hx, hc, rst⟩ := hH1
      exact q _ l (kb.trans (Kb.of (same_upd hl))) ⟨cells, i, rest, total, (same_upd hl) _ _ hx, (same_upd hl) _ _ hc, rst⟩ (.inl upd_same)
    · exact ev_tupT (ev_var rfl) hr1 _ (q _ r kb hH1 (.inr hr1))
end
end K15
namespace K15
open PySem PySem.Spec PyProof.Rows L2 RZ
/-! ### the law's own charts and meters: cost, order, last, gain, sum, behind, inner -/
def LC (H : Hp) (a : Addr) (cs : List Int) (ar : List (Nat × Nat)) : Prop := ∃ pc pa, H a = some (.lst [.ref pc, .ref pa]) ∧ IT H pc cs ∧ ArrT H pa ar
def LM (H : Hp) (a : Addr) (M : Mt) : Prop := ∃ pc pa pg, H a = some (.lst [.ref pc, .ref pa, .int M.first, .ref pg]) ∧ IT H pc M.costs ∧ ArrT H pa M.arrows ∧ IT H pg M.charges
theorem HandAt.s {H H' : Hp} {hh ca : Addr} (h : HandAt H hh ca) (s : Same H H') : HandAt H' hh ca := by
  obtain ⟨cells, i, rest, total, hx, hc, rst⟩ := h
  exact ⟨cells, i, rest, total, s _ _ hx, s _ _ hc, rst⟩
theorem HandAt.lst {H : Hp} {hh ca : Addr} (h : HandAt H hh ca) : ∃ xs, H hh = some (.lst xs) := by
  obtain ⟨cells, i, rest, total, hx, _⟩ := h
  exact ⟨_, hx⟩
theorem HandAt.kf {H H' : Hp} {hh ca : Addr} (h : HandAt H hh ca) (kb : Kb hh H H') : KeepF H H' := by
  obtain ⟨xs, hx⟩ := h.lst
  exact kb.kf hx
/-- a list that the hand is not -/
theorem HandAt.ne {H : Hp} {hh ca a : Addr} (h : HandAt H hh ca) {xs : List V} (ha : H a = some (.lst xs)) (hx : ∀ (i j k : Int) (c : Addr), xs ≠ [.ref c, .int i, .int j, .int k]) : a ≠ hh := fun e => by
  obtain ⟨cells, i, rest, total, hy, _⟩ := h
  rw [e, hy] at ha
  exact hx _ _ _ _ (HO.lst.inj (Option.some.inj ha)).symm
theorem LC.ne {H : Hp} {hh ca a : Addr} {cs : List Int} {ar : List (Nat × Nat)} (h : LC H a cs ar) (hH : HandAt H hh ca) : a ≠ hh := by
  obtain ⟨pc, pa, h1, _⟩ := h
  exact hH.ne h1 fun i j k c e => by cases e
theorem LM.ne {H : Hp} {hh ca a : Addr} {M : Mt} (h : LM H a M) (hH : HandAt H hh ca) : a ≠ hh := by
  obtain ⟨pc, pa, pg, h1, _⟩ := h
  exact hH.ne h1 fun i j k c e => by cases e
theorem LC.kb {H H' : Hp} {hh ca a : Addr} {cs : List Int} {ar : List (Nat × Nat)} (h : LC H a cs ar) (hH : HandAt H hh ca) (kb : Kb hh H H') : LC H' a cs ar := by
  have hn := h.ne hH
  obtain ⟨pc, pa, h1, h2, h3⟩ := h
  exact ⟨pc, pa, kb _ _ hn h1, h2.kf (hH.kf kb), h3.kf (hH.kf kb)⟩
theorem LM.kb {H H' : Hp} {hh ca a : Addr} {M : Mt} (h : LM H a M) (hH : HandAt H hh ca) (kb : Kb hh H H') : LM H' a M := by
  have hn := h.ne hH
  obtain ⟨pc, pa, pg, h1, h2, h3, h4⟩ := h
  exact ⟨pc, pa, pg, kb _ _ hn h1, h2.kf (hH.kf kb), h3.kf (hH.kf kb), h4.kf (hH.kf kb)⟩
theorem LC.s {H H' : Hp} {a : Addr} {cs : List Int} {ar : List (Nat × Nat)} (h : LC H a cs ar) (s : Same H H') : LC H' a cs ar := by
  obtain ⟨pc, pa, h1, h2, h3⟩ := h
  exact ⟨pc, pa, s _ _ h1, h2.kf s.kf, h3.kf s.kf⟩
theorem LM.s {H H' : Hp} {a : Addr} {M : Mt} (h : LM H a M) (s : Same H H') : LM H' a M := by
  obtain ⟨pc, pa, pg, h1, h2, h3, h4⟩ := h
  exact ⟨pc, pa, pg, s _ _ h1, h2.kf s.kf, h3.kf s.kf, h4.kf s.kf⟩
section
variable {K : PySem.W.Frag} {σ : L2.St} {H : Hp} {ta tb : TE} {a : Addr} {cs : List Int} {ar : List (Nat × Nat)} {M : Mt} {k t h : Nat}
theorem rd_lc0 (hc : LC H a cs ar) (ha : EvE ta σ H (.ref a)) : ∃ pc, EvE (tOp (rIxA K) ta (tC (.int 0))) σ H (.ref pc) ∧ IT H pc cs := by
  obtain ⟨pc, pa, h1, h2, h3⟩ := hc
  exact ⟨pc, ev_ixn (n := 0) ha ev_c (SqA.l h1) rfl, h2⟩
theorem rd_lc1 (hc : LC H a cs ar) (ha : EvE ta σ H (.ref a)) : ∃ pa ps, EvE (tOp (rIxA K) ta (tC (.int 1))) σ H (.ref pa) ∧ H pa = some (.tup (ps.map V.ref)) ∧ Each (PairAt H) ps ar := by
  obtain ⟨pc, pa, h1, h2, ps, h3, h4⟩ := hc
  exact ⟨pa, ps, ev_ixn (n := 1) ha ev_c (SqA.l h1) rfl, h3, h4⟩
/-- chart[1][k][0], chart[1][k][1] -/
theorem rd_ltail (hc : LC H a cs ar) (ha : EvE ta σ H (.ref a)) (hb : EvE tb σ H (.int (k : Int))) (hk : ar[k]? = some (t, h)) : EvE (tOp (rIxA K) (tOp (rIxA K) (tOp (rIxA K) ta (tC (.int 1))) tb) (tC (.int 0))) σ H (.int (t : Int)) := by
  obtain ⟨pa, ps, h1, h2, h3⟩ := rd_lc1 hc ha
  obtain ⟨p, hp, hpr⟩ := h3.get hk
  exact ev_ixn (n := 0) (ev_ixn h1 hb (SqA.t h2) (ref_at hp)) ev_c (SqA.t hpr) rfl
theorem rd_lhead (hc : LC H a cs ar) (ha : EvE ta σ H (.ref a)) (hb : EvE tb σ H (.int (k : Int))) (hk : ar[k]? = some (t, h)) : EvE (tOp (rIxA K) (tOp (rIxA K) (tOp (rIxA K) ta (tC (.int 1))) tb) (tC (.int 1))) σ H (.int (h : Int)) := by
  obtain ⟨pa, ps, h1, h2, h3⟩ := rd_lc1 hc ha
  obtain ⟨p, hp, hpr⟩ := h3.get hk
  exact ev_ixn (n := 1) (ev_ixn h1 hb (SqA.t h2) (ref_at hp)) ev_c (SqA.t hpr) rfl
theorem rd_lcost (hc : LC H a cs ar) (ha : EvE ta σ H (.ref a)) (hb : EvE tb σ H (.int (k : Int))) (hk : k < cs.length) : EvE (tOp (rIxA K) (tOp (rIxA K) ta (tC (.int 0))) tb) σ H (.int (cs.getD k 0)) := by
  obtain ⟨pc, h1, h2⟩ := rd_lc0 hc ha
  exact ev_ixn h1 hb (SqA.t h2) (int_at (getD_at hk))
theorem rd_lm0 (hm : LM H a M) (ha : EvE ta σ H (.ref a)) : ∃ pc, EvE (tOp (rIxA K) ta (tC (.int 0))) σ H (.ref pc) ∧ IT H pc M.costs := by
  obtain ⟨pc, pa, pg, h1, h2, h3, h4⟩ := hm
  exact ⟨pc, ev_ixn (n := 0) ha ev_c (SqA.l h1) rfl, h2⟩
theorem rd_lm1 (hm : LM H a M) (ha : EvE ta σ H (.ref a)) : ∃ pa ps, EvE (tOp (rIxA K) ta (tC (.int 1))) σ H (.ref pa) ∧ H pa = some (.tup (ps.map V.ref)) ∧ Each (PairAt H) ps M.arrows := by
  obtain ⟨pc, pa, pg, h1, h2, ⟨ps, h3, h5⟩, h4⟩ := hm
  exact ⟨pa, ps, ev_ixn (n := 1) ha ev_c (SqA.l h1) rfl, h3, h5⟩
theorem rd_lm2 (hm : LM H a M) (ha : EvE ta σ H (.ref a)) : EvE (tOp (rIxA K) ta (tC (.int 2))) σ H (.int M.first) := by
  obtain ⟨pc, pa, pg, h1, h2, h3, h4⟩ := hm
  exact ev_ixn (n := 2) ha ev_c (SqA.l h1) rfl
theorem rd_lm3 (hm : LM H a M) (ha : EvE ta σ H (.ref a)) : ∃ pg, EvE (tOp (rIxA K) ta (tC (.int 3))) σ H (.ref pg) ∧ IT H pg M.charges := by
  obtain ⟨pc, pa, pg, h1, h2, h3, h4⟩ := hm
  exact ⟨pg, ev_ixn (n := 3) ha ev_c (SqA.l h1) rfl, h4⟩
theorem rd_lmtail (hm : LM H a M) (ha : EvE ta σ H (.ref a)) (hb : EvE tb σ H (.int (k : Int))) (hk : M.arrows[k]? = some (t, h)) : EvE (tOp (rIxA K) (tOp (rIxA K) (tOp (rIxA K) ta (tC (.int 1))) tb) (tC (.int 0))) σ H (.int (t : Int)) := by
  obtain ⟨pa, ps, h1, h2, h3⟩ := rd_lm1 hm ha
  obtain ⟨p, hp, hpr⟩ := h3.get hk
  exact ev_ixn (n := 0) (ev_ixn h1 hb (SqA.t h2) (ref_at hp)) ev_c (SqA.t hpr) rfl
theorem rd_lmhead (hm : LM H a M) (ha : EvE ta σ H (.ref a)) (hb : EvE tb σ H (.int (k : Int))) (hk : M.arrows[k]? = some (t, h)) : EvE (tOp (rIxA K) (tOp (rIxA K) (tOp (rIxA K) ta (tC (.int 1))) tb) (tC (.int 1))) σ H (.int (h : Int)) := by
  obtain ⟨pa, ps, h1, h2, h3⟩ := rd_lm1 hm ha
  obtain ⟨p, hp, hpr⟩ := h3.get hk
  exact ev_ixn (n := 1) (ev_ixn h1 hb (SqA.t h2) (ref_at hp)) ev_c (SqA.t hpr) rfl
theorem rd_lmcost (hm : LM H a M) (ha : EvE ta σ H (.ref a)) (hb : EvE tb σ H (.int (k : Int))) (hk : k < M.n) : EvE (tOp (rIxA K) (tOp (rIxA K) ta (tC (.int 0))) tb) σ H (.int (M.costs.getD k 0)) := by
  obtain ⟨pc, h1, h2⟩ := rd_lm0 hm ha
  exact ev_ixn h1 hb (SqA.t h2) (int_at (getD_at hk))
end
theorem erase_map {α β : Type} (f : α → β) : ∀ (l : List α) (k : Nat), (l.map f).eraseIdx k = (l.eraseIdx k).map f
  | [], _ => rfl
  | _ :: _, 0 => rfl
  | a :: l, k + 1 => congrArg (List.cons (f a)) (erase_map f l k)
theorem erase_perm {α : Type} : ∀ (l : List α) (k : Nat) (h : k < l.length), (l[k] :: l.eraseIdx k).Perm l
  | a :: l, 0, _ => List.Perm.refl _
  | a :: l, k + 1, h => (List.Perm.swap a (l[k]'(by simpa using h)) _).trans ((erase_perm l k (by simpa using h)).cons a)
/-- x lies behind u, by the arrows alone -/
def BhB (ar : List (Nat × Nat)) (u x : Nat) : Prop := ∃ ks, ks ≠ [] ∧ Wk (bare ar) u ks x
theorem BhB.full {M : Mt} (hl : M.charges.length = M.arrows.length) {u x : Nat} (h : BhB M.arrows u x) : Bh M u x := by
  obtain ⟨ks, hn, w⟩ := h
  exact ⟨ks, hn, w.full hl⟩
theorem BhB.snoc {ar : List (Nat × Nat)} {a b c k : Nat} (h : BhB ar a b) (e : ar[k]? = some (b, c)) : BhB ar a c := by
  obtain ⟨ks, hn, w⟩ := h
  exact ⟨ks ++ [k], by simp, w.snoc (bare_at e)⟩
def sp_w_last (_ : Ad) : Sp := fun vs H Q _ => ∃ (c r : Addr) (M : Mt) (ks : List Nat) (v : Nat), vs = [.ref c, .ref r] ∧ LC H c M.costs M.arrows ∧ Sq H r (ks.map nv) ∧ Wk M.E 0 ks v ∧ Q (nv v) H
def sp_w_gain (_ : Ad) : Sp := fun vs H Q _ => ∃ (m : Addr) (M : Mt) (k t h : Nat) (g : Int), vs = [.ref m, nv k] ∧ LM H m M ∧ M.E[k]? = some (t, h, g) ∧ t < M.n ∧ Q (.int g) H
def sp_w_sum (_ : Ad) : Sp := fun vs H Q _ => ∃ (m r : Addr) (M : Mt) (ks : List Nat), vs = [.ref m, .ref r] ∧ LM H m M ∧ M.Ok ∧ Sq H r (ks.map nv) ∧ ks.length ≤ 1000 ∧ (∀ k ∈ ks, k < M.arrows.length) ∧ ∀ H', Same H H' → Q (.int (gn M.E ks)) H'
def sp_w_behind (_ : Ad) : Sp := fun vs H Q _ => ∃ (c : Addr) (cs : List Int) (ar : List (Nat × Nat)) (p : Nat), vs = [.ref c, nv p] ∧ LC H c cs ar ∧ ChOk cs ar ∧ p < cs.length ∧ ∀ H' q fs, Same H H' → H q = none → NL H' q fs → (∀ x ∈ fs, BhB ar p x) → Q (.ref q) H'
def sp_w_inner (_ : Ad) : Sp := fun vs H Q _ => ∃ (c : Addr) (cs : List Int) (ar : List (Nat × Nat)), vs = [.ref c] ∧ LC H c cs ar ∧ ChOk cs ar ∧ ∀ H' q (bs : List Bool), Same H H' → H q = none → H' q = some (.lst (bs.map V.bl)) → bs.length = ar.length → (∀ (k t h : Nat), ar[k]? = some (t, h) → bs.getD k false = true → BhB ar h t) → Q (.ref q) H'
section
variable {K : PySem.W.Frag} {σ : L2.St} {H : Hp} {ta tb : TE} {A : Ad}
theorem ev_wgain {m : Addr} {M : Mt} {k t h : Nat} {g : Int} (hm : LM H m M) (he : M.E[k]? = some (t, h, g)) (ht : t < M.n) (ha : EvE ta σ H (.ref m)) (hb : EvE tb σ H (nv k)) : EvE (tCall (sp_w_gain A) [] E0 (tCons ta (tCons tb tNil))) σ H (.int g) :=
  ev_call (ea_cons ha (ea_cons hb ea_nil)) fun Q q => ⟨m, M, k, t, h, g, rfl, hm, he, ht, q⟩
theorem ev_wsum {m r : Addr} {M : Mt} {ks : List Nat} (hm : LM H m M) (ok : M.Ok) (hr : Sq H r (ks.map nv)) (hl : ks.length ≤ 1000) (hk : ∀ k ∈ ks, k < M.arrows.length) (ha : EvE ta σ H (.ref m)) (hb : EvE tb σ H (.ref r)) : EvR (tCall (sp_w_sum A) [] E0 (tCons ta (tCons tb tNil))) σ H (fun v H' => v = .int (gn M.E ks) ∧ Same H H') :=
  ev_callR (ea_cons ha (ea_cons hb ea_nil)) fun Q q => ⟨m, r, M, ks, rfl, hm, ok, hr, hl, hk, fun H' s => q _ _ ⟨rfl, s⟩⟩
theorem last_at {ks : List Nat} (hne : ks ≠ []) : atI (ks.map nv) (-1) = some (nv (ks.getLast hne)) := by
  unfold atI ixN
  rw [if_neg (by decide), List.length_map]
  have h0 : 0 < ks.length := List.length_pos_iff.mpr hne
  rw [if_pos (by omega)]
  show (ks.map nv)[((-1 : Int) + (ks.length : Int)).toNat]? = _
  rw [show ((-1 : Int) + (ks.length : Int)).toNat = ks.length - 1 by omega, List.getElem?_map, List.getLast_eq_getElem, List.getElem?_eq_getElem (by omega)]
  rfl
end
section
variable {P : Program} {w : World} {K : PySem.W.Frag} {mg : Str → Option Value} {base : Heap} {A : Ad} (T : Txt K mg A)
include T
theorem ok_w_cost (d : Df K mg "_law_cost" s_w_cost ["_law_hand_here", "_law_small"]) (c_w_draw : Cal P w K mg base 2 "_law_draw" ["_law_hand_here", "_law_many"] (sp_w_draw A)) : Cal P w K mg base 3 "_law_cost" ["_law_hand_here", "_law_small"] (sp_w_cost A) := by
  refine d.ok sc_w_cost (fun vs H Q E h => ?_) (fun f cdv A' outer s H vs Q E hr h => ?_)
  · obtain ⟨hh, ca, b, rfl, _⟩ := h
    rfl
  · obtain ⟨hh, ca, b, rfl, hH, q⟩ := h
    refine ⟨_, (pss_cons (ps_if (PW.pt (pw_or (pt_val (pv 1)) (pw_or1 (pt_cmpR op_eq (pe_cal c_w_draw hr (by rfl) (pa_cons (pv 0) (pa_cons pe_int pa_nil))) pe_int (nomark _))))) (pss_one (ps_ret (pe_ix ix_any (pe_lst (pa_cons pe_int (pa_cons pe_int (pa_cons pe_int (pa_cons pe_int (pa_cons pe_int (pa_cons pe_int pa_nil))))))) (pe_cal c_w_draw hr (by rfl) (pa_cons (pv 0) (pa_cons pe_int pa_nil))) (fun _ _ => rfl)))) pss_nil)
    (pss_one (ps_ret (pe_ifExp (pt_cmpR op_gtI (pe_cal c_w_draw hr (by rfl) (pa_cons (pv 0) (pa_cons pe_int pa_nil))) pe_int (nomark _)) (pe_cal c_w_draw hr (by rfl) (pa_cons (pv 0) (pa_cons (pe_op op_addI (pe_op op_powI pe_int pe_int) pe_int) pa_nil))) (pe_op op_subI (pe_op op_powI pe_int pe_int) (pe_cal c_w_draw hr (by rfl) (pa_cons (pv 0) (pa_cons pe_int pa_nil)))))))), ?_⟩
    have hpow : EvE (tOp rPowI (tC (.int 10)) (tC (.int 9))) (L2.start ["_law_hand_here", "_law_small"] [.ref hh, .bl b]) H (.int 1000000000) := ev_pow (e := 1000000000) (by decide) (by unfold CPow; decide)
    refine sq_mid (fun σ' H' => σ' = [some (.ref hh), some (.bl b)] ∧ Kb hh H H' ∧ HandAt H' hh ca) (fun σ' H' hm => ?_) (fun N hN => ?_)
    · obtain ⟨rfl, kb, hH'⟩ := hm
      refine pl_ret (pl_ifx (pl_test (pl_op (ev_draw hH' (by decide) (by decide) (ev_var rfl) ev_c _ fun v H1 hv => ?_))))
      obtain ⟨z, rfl, kb1, hH1, z0, z1⟩ := hv
      refine ev_c _ ⟨_, _, rfl, rfl, _, rfl, ?_⟩
      refine ite2 (fun hb => ?_) (fun hb => ?_)
      · refine ev_draw hH1 (by decide) (by decide) (ev_var rfl) (ev_add (ev_pow (e := 1000000000) (by decide) (by unfold CPow; decide)) ev_c) _ fun v H2 hv => ?_
        obtain ⟨z, rfl, kb2, hH2, y0, y1⟩ := hv
        exact q H2 z (kb.trans (kb1.trans kb2)) hH2 y0 (by omega)
      · refine pl_op (ev_pow (e := 1000000000) (by decide) (by unfold CPow; decide) _ (ev_draw hH1 (by decide) (by decide) (ev_var rfl) ev_c _ fun v H2 hv => ?_))
        obtain ⟨z, rfl, kb2, hH2, y0, y1⟩ := hv
        exact ⟨_, _, rfl, rfl, q H2 _ (kb.trans (kb1.trans kb2)) hH2 (by omega) (by omega)⟩
    · have body : ∀ H1, Kb hh H H1 → HandAt H1 hh ca → tRet (tOp (rIxA K) (tLst (tCons (tC (.int 0)) (tCons (tC (.int 1)) (tCons (tC (.int 2)) (tCons (tC (.int 3)) (tCons (tC (.int 4)) (tCons (tC (.int 6)) tNil))))))) (tCall (sp_w_draw A) [] E0 (tCons (tVar 0) (tCons (tC (.int 6)) tNil)))) { nx := N, rt := Q } [some (.ref hh), some (.bl b)] H1 := fun H1 kb hH1 => by
        refine pl_ret (pl_op (pl_lst ((ea_cons ev_c (ea_cons ev_c (ea_cons ev_c (ea_cons ev_c (ea_cons ev_c (ea_cons ev_c ea_nil)))))) _ ⟨by show 6 ≤ sizeLine; decide, fun p hp => ?_⟩)))
        have s1 : Same H1 (upd H1 p (.lst [.int 0, .int 1, .int 2, .int 3, .int 4, .int 6])) := same_upd hp
        have hp1 : IL (upd H1 p (.lst [.int 0, .int 1, .int 2, .int 3, .int 4, .int 6])) p [0, 1, 2, 3, 4, 6] := upd_same
        have hH2 := hH1.s s1
        generalize upd H1 p (.lst [.int 0, .int 1, .int 2, .int 3, .int 4, .int 6]) = H2 at s1 hp1 hH2
        refine ev_drawN (n := 6) hH2 (by decide) (by decide) (ev_var rfl) ev_c _ fun v H3 hv => ?_
        obtain ⟨z, rfl, kb2, hH3, z1⟩ := hv
        have hph : p ≠ hh := hH2.ne hp1 fun i j k c e => by cases e
        have hz : ([0, 1, 2, 3, 4, 6] : List Int)[z]? = some (([0, 1, 2, 3, 4, 6] : List Int).getD z 0) := getD_at z1
        refine ⟨p, _, _, _, rfl, rfl, SqA.l (kb2 _ _ hph hp1), atI_nat (int_at hz), ?_⟩
        have hm := List.mem_of_getElem? hz
        have hb : 0 ≤ ([0, 1, 2, 3, 4, 6] : List Int).getD z 0 ∧ ([0, 1, 2, 3, 4, 6] : List Int).getD z 0 ≤ 1000000000 := by
          generalize ([0, 1, 2, 3, 4, 6] : List Int).getD z 0 = y at hm
          simp at hm
          omega
        exact q H3 _ (kb.trans ((Kb.of s1).trans kb2)) hH3 hb.1 hb.2
      refine pl_if (pl_or (pl_B (ev_var rfl _ ⟨b, rfl, ?_⟩)))
      cases b with
      | true =>
        rw [if_pos rfl, if_pos rfl]
        exact body H Kb.refl hH
      | false =>
        rw [if_neg Bool.false_ne_true]
        refine pl_test (pl_op (ev_draw hH (by decide) (by decide) (ev_var rfl) ev_c _ fun v H1 hv => ?_))
        obtain ⟨z, rfl, kb, hH1, z0, z1⟩ := hv
        refine ev_c _ ⟨rfl, _, rfl, ?_⟩
        exact ite2 (fun _ => body H1 kb hH1) (fun _ => hN _ _ ⟨rfl, kb, hH1⟩)
theorem ok_w_order (d : Df K mg "_law_order" s_w_order ["_law_hand_here", "_law_many"]) (c_w_draw : Cal P w K mg base 2 "_law_draw" ["_law_hand_here", "_law_many"] (sp_w_draw A)) : Cal P w K mg base 3 "_law_order" ["_law_hand_here", "_law_many"] (sp_w_order A) := by
  refine d.ok sc_w_order (fun vs H Q E h => ?_) (fun f cdv A' outer s H vs Q E hr h => ?_)
  · obtain ⟨hh, ca, n, rfl, _⟩ := h
    rfl
  · obtain ⟨hh, ca, n, rfl, hH, hn, q⟩ := h
    refine ⟨_, (pss_cons (ps_set (i := 2) sc_w_order.nd rfl (.inl rfl) (pe_listRg rfl (by rfl) T.z_list (prg_1 (by rfl) T.z_range (pv 1))))
    (pss_cons (ps_set (i := 3) sc_w_order.nd rfl (.inl rfl) (pe_lst pa_nil))
    (pss_cons (ps_for PassesOwn.never rfl (pi_range1 (by rfl) T.z_range (pa_cons (pv 1) pa_nil)) (pg_name (i := 4) sc_w_order.nd rfl (.inl rfl)) (pss_one (ps_expr (pe_bm PySem.F.plainAttrs_list PySem.F.slot_list_append PySem.F.type_list_append mt_append (pv 3) (pa_cons (pe_bm PySem.F.plainAttrs_list PySem.F.slot_list_pop PySem.F.type_list_pop mt_popAt (pv 2) (pa_cons (pe_cal c_w_draw hr (by rfl) (pa_cons (pv 0) (pa_cons (pe_callB cr_len (by rfl) T.z_len (by decide +kernel) (pa_cons (pv 2) pa_nil)) pa_nil))) pa_nil)) pa_nil)))))
    (pss_one (ps_ret (pv 3)))))), ?_⟩
    refine pl_seq (pl_set ?_)
    unfold tLstRg tRg1
    refine ev_var (v := nv n) rfl _ ⟨(n : Int), rfl, ⟨by omega, by omega, by omega, by omega, by omega⟩, fun la hla => ?_⟩
    have hrg : rgV 0 (n : Int) = (List.range n).map nv := by
      unfold rgV
      rw [Int.sub_zero, Int.toNat_natCast]
      exact List.map_congr_left fun i _ => congrArg V.int (Int.zero_add _)
    rw [hrg]
    have s1 : Same H (upd H la (.lst ((List.range n).map nv))) := same_upd hla
    have hl1 : NL (upd H la (.lst ((List.range n).map nv))) la (List.range n) := upd_same
    generalize upd H la (.lst ((List.range n).map nv)) = H1 at s1 hl1
    refine pl_nx (pl_seq (pl_set ⟨Nat.zero_le _, fun ta hta => ?_⟩))
    have s2 : Same H (upd H1 ta (.lst [])) := s1.new hta
    have ht2 : NL (upd H1 ta (.lst [])) ta [] := upd_same
    have hl2 : NL (upd H1 ta (.lst [])) la (List.range n) := (same_upd hta) _ _ hl1
    have hlt : la ≠ ta := ne_of_none hl1 hta
    have htaH : H ta = none := s1.free hta
    obtain ⟨hxs, hhx⟩ := hH.lst
    obtain ⟨cells0, _, _, _, _, hca0, _⟩ := id hH
    have hlc : la ≠ ca := (ne_of_none hca0 hla).symm
    have htc : ta ≠ ca := (ne_of_none hca0 htaH).symm
    have hlh : la ≠ hh := (ne_of_none hhx hla).symm
    have hth : ta ≠ hh := (ne_of_none hhx htaH).symm
    have hH2 := hH.s s2
    generalize upd H1 ta (.lst []) = H2 at s2 ht2 hl2 hH2
    refine pl_nx (pl_seq ?_)
    refine rd_forRng1 (n := n) (ea_cons (ev_var rfl) ea_nil) (by omega)
      (fun i σ' G => ∃ (lf tl : List Nat) (o4 : Option V), σ' = [some (.ref hh), some (nv n), some (.ref la), some (.ref ta), o4] ∧ Kb hh H G ∧ HandAt G hh ca ∧ NL G la lf ∧ NL G ta tl ∧ tl.length = i ∧ lf.length = n - i ∧ (tl ++ lf).Perm (List.range n))
      ⟨List.range n, [], _, rfl, Kb.of s2, hH2, hl2, ht2, rfl, List.length_range .., List.Perm.refl _⟩ (fun i σ' G hi hP => ?_) (fun σ' G hP => ?_)
    · obtain ⟨lf, tl, o4, rfl, kb, hHG, hl, ht, htl, hll, hperm⟩ := hP
      refine pl_drop (pl_bm (ev_var rfl _ ⟨tyl ht, pl_cons (pl_bm (ev_var rfl _ ⟨tyl hl, pl_cons ?_⟩))⟩))
      refine ev_drawN (n := n - i) hHG (by omega) (by omega) (ev_var rfl) ((ev_len (ev_var rfl) (SqA.l hl)).is (by rw [List.length_map, hll])) _ fun v G1 hv => ?_
      obtain ⟨z, rfl, kb1, hH1, z1⟩ := hv
      have hzl : z < lf.length := by omega
      have hl3 := kb1 _ _ hlh hl
      have ht3 := kb1 _ _ hth ht
      refine ⟨la, _, _, z, _, rfl, rfl, hl3, by omega, by omega, ?_, nat_at (List.getElem?_eq_getElem hzl), ?_⟩
      · rw [seqIndex_of (by omega) (by rw [List.length_map]; omega), Int.toNat_natCast]
      · have her : (lf.map nv).eraseIdx z = (lf.eraseIdx z).map nv := erase_map ..
        rw [her]
        have ht4 : NL (upd G1 la (.lst ((lf.eraseIdx z).map nv))) ta tl := by
          show (upd G1 la _) ta = _
          rw [upd_ne hlt.symm]
          exact ht3
        refine ⟨ta, _, _, rfl, rfl, ht4, ?_, lf.eraseIdx z, tl ++ [lf[z]], _, rfl, ?_, ?_, ?_, ?_, ?_, ?_, ?_⟩
        · rw [List.length_map, htl]
          exact Nat.lt_of_lt_of_le (show i < 1000 by omega) (by decide)
        · exact ((kb.trans kb1).mut hla).mut htaH
        · obtain ⟨cells, ii, rest, total, hx, hc, hne, rst⟩ := hH1
          refine ⟨cells, ii, rest, total, ?_, ?_, hne, rst⟩
          · rw [upd_ne hth.symm, upd_ne hlh.symm]
            exact hx
          · show (upd (upd G1 la _) ta _) ca = _
            rw [upd_ne htc.symm, upd_ne hlc.symm]
            exact hc
        · show (upd (upd G1 la _) ta _) la = _
          rw [upd_ne hlt, upd_same]
        · show (upd (upd G1 la _) ta _) ta = _
          rw [upd_same, List.map_append]
          rfl
        · rw [List.length_append, htl]; rfl
        · rw [List.length_eraseIdx, if_pos hzl, hll]; omega
        · refine List.Perm.trans ?_ hperm
          rw [List.append_assoc]
          exact (erase_perm lf z hzl).append_left tl
    · obtain ⟨lf, tl, o4, rfl, kb, hHG, hl, ht, htl, hll, hperm⟩ := hP
      have : lf = [] := List.eq_nil_of_length_eq_zero (by omega)
      subst this
      rw [List.append_nil] at hperm
      exact pl_nx (pl_ret (ev_var rfl _ (q G ta tl kb hHG htaH hth ht hperm)))
theorem ok_w_last (d : Df K mg "_law_last" s_w_last ["_law_chart", "_law_run_here"]) : Cal P w K mg base 1 "_law_last" ["_law_chart", "_law_run_here"] (sp_w_last A) := by
  refine d.ok sc_w_last (fun vs H Q E h => ?_) (fun f cdv A' outer s H vs Q E hr h => ?_)
  · obtain ⟨c, r, M, ks, v, rfl, _⟩ := h
    rfl
  · obtain ⟨c, r, M, ks, v, rfl, hc, hr', hw, q⟩ := h
    refine ⟨_, (pss_one (ps_ret (pe_ifExp (pt_tru (pv 1) (by intro _; rfl)) (pe_ix ix_any (pe_ix ix_any (pe_ix ix_any (pv 0) pe_int (fun _ _ => rfl)) (pe_ix ix_any (pv 1) (pe_un un_negI pe_int) (fun _ _ => rfl)) (fun _ _ => rfl)) pe_int (fun _ _ => rfl)) pe_int))), ?_⟩
    refine sx_ret (v := nv v) (ev_if (b := !(ks.map nv).isEmpty) (et_tru (ev_var rfl) (tru_seq hr'.a)) (fun hb => ?_) (fun hb => ?_)) q
    · have hne : ks ≠ [] := fun e => by rw [e] at hb; simp at hb
      have hsp : ks = ks.dropLast ++ [ks.getLast hne] := (List.dropLast_concat_getLast hne).symm
      rw [hsp] at hw
      obtain ⟨t, g, hE⟩ := hw.end
      exact rd_lhead hc (ev_var rfl) (ev_ix (ev_var rfl) (ev_neg ev_c) hr'.a (last_at hne)) (Mt.E_inv hE).1
    · have e : ks = [] := by
        cases ks with
        | nil => rfl
        | cons a b => simp at hb
      subst e
      cases hw
      exact ev_c
theorem ok_w_gain (d : Df K mg "_law_gain" s_w_gain ["_law_meter_here", "_law_arrow"]) : Cal P w K mg base 1 "_law_gain" ["_law_meter_here", "_law_arrow"] (sp_w_gain A) := by
  refine d.ok sc_w_gain (fun vs H Q E h => ?_) (fun f cdv A' outer s H vs Q E hr h => ?_)
  · obtain ⟨m, M, k, t, h, g, rfl, _⟩ := h
    rfl
  · obtain ⟨m, M, k, t, hd, g, rfl, hm, he, ht, q⟩ := h
    refine ⟨_, (pss_one (ps_ret (pe_op op_subI (pe_ix ix_any (pe_ix ix_any (pv 0) pe_int (fun _ _ => rfl)) (pv 1) (fun _ _ => rfl)) (pe_ix ix_any (pe_ix ix_any (pv 0) pe_int (fun _ _ => rfl)) (pe_ix ix_any (pe_ix ix_any (pe_ix ix_any (pv 0) pe_int (fun _ _ => rfl)) (pv 1) (fun _ _ => rfl)) pe_int (fun _ _ => rfl)) (fun _ _ => rfl))))), ?_⟩
    obtain ⟨e1, c, e2, rfl⟩ := Mt.E_inv he
    obtain ⟨pg, h3, h4⟩ := rd_lm3 (K := K) (σ := L2.start ["_law_meter_here", "_law_arrow"] [.ref m, nv k]) (ta := tVar 0) hm (ev_var rfl)
    exact sx_ret (ev_sub (ev_ixn h3 (ev_var rfl) (SqA.t h4) (int_at e2)) (rd_lmcost hm (ev_var rfl) (rd_lmtail hm (ev_var rfl) (ev_var rfl) e1) ht)) q
theorem ok_w_sum (d : Df K mg "_law_sum" s_w_sum ["_law_meter_here", "_law_arrows"]) (c_w_gain : Cal P w K mg base 1 "_law_gain" ["_law_meter_here", "_law_arrow"] (sp_w_gain A)) : Cal P w K mg base 2 "_law_sum" ["_law_meter_here", "_law_arrows"] (sp_w_sum A) := by
  refine d.ok sc_w_sum (fun vs H Q E h => ?_) (fun f cdv A' outer s H vs Q E hr h => ?_)
  · obtain ⟨m, r, M, ks, rfl, _⟩ := h
    rfl
  · obtain ⟨m, r, M, ks, rfl, hm, ok, hr', hl, hk, q⟩ := h
    refine ⟨_, (pss_one (ps_ret (pe_callB (cr_sum rfl) (by rfl) T.z_sum (by decide +kernel) (pa_cons (pe_lc (own := [("_law_arrow", 2)]) (g := (gName 2)) (tt := tYes) (te := (tCall (sp_w_gain A) [] E0 (tCons (tVar 0) (tCons (tVar 2) tNil)))) rfl sc_w_sum.nd (pi_seq (pv 1)) (blkOk_by (N := ["_law_meter_here", "_law_arrows", "_law_arrow"]) (own := [("_law_arrow", 2)]) (sc := defScope s_w_sum) (by decide +kernel)) (fun _ _ _ _ _ => (pg_name (i := 2) sc_w_sum.nd rfl (.inl rfl))) (fun _ _ _ _ _ => pts_nil) (fun _ _ _ _ _ => (pe_cal c_w_gain hr (by rfl) (pa_cons (pv 0) (pa_cons (pv 2) pa_nil))))) pa_nil)))), ?_⟩
    refine pl_ret (pl_cb1 ?_)
    refine rd_lcNat (ks := ks) (f := eg M.E) (Pc := fun H1 => H1 = H) (fun Q3 k3 => ev_var rfl _ (k3 _ _ ⟨r, rfl, hr'.a, rfl⟩)) hl (fun _ => rfl) (fun H1 H' k e1 s2 hkm => ?_) (fun H1 D H' e1 s2 hD hL => ?_)
    · subst e1
      obtain ⟨t, hd, c, ha1, hc1, ht, hh, hE⟩ := ok.at (hk k hkm)
      rw [eg_of hE]
      exact (ev_wgain (hm.s s2) hE ht (ev_var rfl) (ev_var rfl)).s
    · subst e1
      exact ⟨D, _, rfl, SqL.of hL, q _ s2⟩
theorem ok_w_behind (d : Df K mg "_law_behind" s_w_behind ["_law_chart", "_law_place"]) : Cal P w K mg base 1 "_law_behind" ["_law_chart", "_law_place"] (sp_w_behind A) := by
  refine d.ok sc_w_behind (fun vs H Q E h => ?_) (fun f cdv A' outer s H vs Q E hr h => ?_)
  · obtain ⟨c, cs, ar, p, rfl, _⟩ := h
    rfl
  · obtain ⟨c, cs, ar, p, rfl, hc, ok, hp, q⟩ := h
    have hn16 := ok.n16
    refine ⟨_, (pss_cons (ps_set (i := 2) sc_w_behind.nd rfl (.inl rfl) (pe_lst pa_nil))
    (pss_cons (ps_for PassesOwn.never rfl (pi_range1 (by rfl) T.z_range (pa_cons (pe_callB cr_len (by rfl) T.z_len (by decide +kernel) (pa_cons (pe_ix ix_any (pv 0) pe_int (fun _ _ => rfl)) pa_nil)) pa_nil)) (pg_name (i := 3) sc_w_behind.nd rfl (.inl rfl)) (pss_one (ps_for PassesOwn.never rfl (pi_seq (pe_ix ix_any (pv 0) pe_int (fun _ _ => rfl))) (pg_name (i := 4) sc_w_behind.nd rfl (.inl rfl)) (pss_one (ps_if (PW.pt (pw_and (PW.pt (pw_or (pt_cmpR op_eq (pe_ix ix_any (pv 4) pe_int (fun _ _ => rfl)) (pv 1) (nomark _)) (pw_or1 (pt_cmpR op_in_seq (pe_ix ix_any (pv 4) pe_int (fun _ _ => rfl)) (pv 2) (by rfl))))) (pw_and1 (pt_cmpR op_notIn_seq (pe_ix ix_any (pv 4) pe_int (fun _ _ => rfl)) (pv 2) (by rfl))))) (pss_one (ps_expr (pe_bm PySem.F.plainAttrs_list PySem.F.slot_list_append PySem.F.type_list_append mt_append (pv 2) (pa_cons (pe_ix ix_any (pv 4) pe_int (fun _ _ => rfl)) pa_nil)))) pss_nil)))))
    (pss_one (ps_ret (pv 2))))), ?_⟩
    refine pl_seq (pl_set ⟨Nat.zero_le _, fun fa hfa => ?_⟩)
    have s0 : Same H (upd H fa (.lst [])) := same_upd hfa
    have hf0 : NL (upd H fa (.lst [])) fa [] := upd_same
    generalize upd H fa (.lst []) = H0 at s0 hf0
    have hc0 := hc.s s0
    obtain ⟨pc, hpc, hpct⟩ := rd_lc0 (K := K) (σ := [some (.ref c), some (nv p), some (.ref fa), none, none]) (ta := tVar 0) hc0 (ev_var rfl)
    refine pl_nx (pl_seq ?_)
    refine rd_forRng1 (n := cs.length) (ea_cons ((ev_len hpc (SqA.t hpct)).is (by rw [List.length_map])) ea_nil) (by omega)
      (fun i σ' G => ∃ (fs : List Nat) (o3 o4 : Option V), σ' = [some (.ref c), some (nv p), some (.ref fa), o3, o4] ∧ Same H G ∧ NL G fa fs ∧ fs.Nodup ∧ (∀ x ∈ fs, x < cs.length) ∧ ∀ x ∈ fs, BhB ar p x)
      ⟨[], _, _, rfl, s0, hf0, List.nodup_nil, fun x hx => by simp at hx, fun x hx => by simp at hx⟩ (fun i σ' G hi hP => ?_) (fun σ' G hP => ?_)
    · obtain ⟨fs, o3, o4, rfl, s1, hf, hnd, hlt, hbh⟩ := hP
      obtain ⟨pa, ps, hpa, hpt, hpe⟩ := rd_lc1 (K := K) (σ := [some (.ref c), some (nv p), some (.ref fa), some (nv i), o4]) (ta := tVar 0) (hc.s s1) (ev_var rfl)
      refine rd_forSeq hpa.r fun v G1 hv => ?_
      obtain ⟨rfl, rfl⟩ := hv
      refine ⟨pa, ps.map V.ref, rfl, SqA.t hpt, fun j σ' G' => ∃ (fs : List Nat) (o4 : Option V), σ' = [some (.ref c), some (nv p), some (.ref fa), some (nv i), o4] ∧ Same H G' ∧ G' pa = some (.tup (ps.map V.ref)) ∧ Each (PairAt G') ps ar ∧ NL G' fa fs ∧ fs.Nodup ∧ (∀ x ∈ fs, x < cs.length) ∧ ∀ x ∈ fs, BhB ar p x,
        ⟨fs, _, rfl, s1, hpt, hpe, hf, hnd, hlt, hbh⟩, fun j σ' G' z => by obtain ⟨_, _, _, _, z, _⟩ := z; intro o ho; rw [hpt] at ho; rw [← ho]; exact z, ?_, ?_⟩
      · rintro j x σ' G' hj ⟨fs, o4, rfl, s2, hpt2, hpe2, hf2, hnd2, hlt2, hbh2⟩
        have hjl : j < ar.length := by
          have := (List.getElem?_eq_some_iff.mp hj).1
          rwa [List.length_map, hpe2.1] at this
        have hje : ar[j]? = some ar[j] := List.getElem?_eq_getElem hjl
        have hem : ar[j] ∈ ar := List.getElem_mem hjl
        generalize ar[j] = e at hje hem
        obtain ⟨t, h⟩ := e
        obtain ⟨u, hu, hpu⟩ := hpe2.get hje
        have ex : x = .ref u := Option.some.inj (hj.symm.trans (ref_at hu))
        subst ex
        obtain ⟨htn, hhn⟩ := ok.ends _ hem
        have hfl := nodup_lt hnd2 hlt2
        have ht : EvE (tOp (rIxA K) (tVar 4) (tC (.int 0))) [some (.ref c), some (nv p), some (.ref fa), some (nv i), some (.ref u)] G' (nv t) := ev_ixn (n := 0) (ev_var rfl) ev_c (SqA.t hpu) rfl
        have hhd : EvE (tOp (rIxA K) (tVar 4) (tC (.int 1))) [some (.ref c), some (nv p), some (.ref fa), some (nv i), some (.ref u)] G' (nv h) := ev_ixn (n := 1) (ev_var rfl) ev_c (SqA.t hpu) rfl
        refine sx_if (et_and (et_or (et_test (ev_eq ht (ev_var rfl) rfl)) fun _ => et_test (ev_in ht (ev_var rfl) (SqA.l hf2))) fun _ => et_test (ev_notin hhd (ev_var rfl) (SqA.l hf2))) (fun hb => ?_) (fun hb => ?_)
        · simp only [Bool.and_eq_true, Bool.or_eq_true, decide_eq_true_eq, Bool.not_eq_true', decide_eq_false_iff_not] at hb
          obtain ⟨hb1, hb2⟩ := hb
          refine sx_app (ev_var rfl) hhd hf2 (by rw [List.length_map]; omega) ?_
          have hpf : ∀ {b : Addr} {ys : List V}, G' b = some (.tup ys) → (upd G' fa (.lst (fs.map nv ++ [nv h]))) b = some (.tup ys) := fun e => by
            rw [upd_ne (ne_of e hf2 (by intro e; cases e))]
            exact e
          refine ⟨fs ++ [h], _, rfl, s2.mut hfa, hpf hpt2, hpe2.mono fun p y e => hpf e, ?_, ?_, fun x hx => ?_, fun x hx => ?_⟩
          · show (upd G' fa _) fa = _
            rw [upd_same, List.map_append]
            rfl
          · exact List.nodup_append.mpr ⟨hnd2, by simp, fun a ha b hb e => by
              have : b = h := by simpa using hb
              rw [e, this] at ha
              exact hb2 ha⟩
          · rcases List.mem_append.mp hx with hx | hx
            · exact hlt2 x hx
            · rw [List.mem_singleton.mp hx]; exact hhn
          · rcases List.mem_append.mp hx with hx | hx
            · exact hbh2 x hx
            · rw [List.mem_singleton.mp hx]
              rcases hb1 with e | e
              · have : t = p := by have := V.int.inj e; omega
                subst this
                exact ⟨[j], by simp, .one (bare_at hje)⟩
              · exact (hbh2 t e).snoc hje
        · exact ⟨fs, _, rfl, s2, hpt2, hpe2, hf2, hnd2, hlt2, hbh2⟩
      · rintro σ' G' ⟨fs, o4, rfl, s2, hpt2, hpe2, hf2, hnd2, hlt2, hbh2⟩
        exact ⟨fs, _, _, rfl, s2, hf2, hnd2, hlt2, hbh2⟩
    · obtain ⟨fs, o3, o4, rfl, s1, hf, hnd, hlt, hbh⟩ := hP
      exact pl_nx (pl_ret (ev_var rfl _ (q G fa fs s1 hfa hf hbh)))
end
end K15
namespace K15
open PySem PySem.Spec PyProof.Rows L2 RZ
/-! ### inner, even_row -/
/-- rounds of lowering, plain -/
def cosE (cs : List Int) (ar : List (Nat × Nat)) : List Edge := ar.map fun e => (e.1, e.2, cs.getD e.2 0)
theorem cosE_inv {cs : List Int} {ar : List (Nat × Nat)} {k t h : Nat} {g : Int} (e : (cosE cs ar)[k]? = some (t, h, g)) : ar[k]? = some (t, h) ∧ g = cs.getD h 0 := by
  unfold cosE at e
  rw [List.getElem?_map] at e
  cases q : ar[k]? with
  | none => rw [q] at e; cases e
  | some z =>
    rw [q] at e
    cases e
    exact ⟨rfl, rfl⟩
theorem cosE_at {cs : List Int} {ar : List (Nat × Nat)} {k t h : Nat} (e : ar[k]? = some (t, h)) : (cosE cs ar)[k]? = some (t, h, cs.getD h 0) := by
  unfold cosE
  rw [List.getElem?_map, e]
  rfl
theorem gn_nonneg {E : List Edge} (h : ∀ (k t h : Nat) (g : Int), E[k]? = some (t, h, g) → 0 ≤ g) {u v : Nat} {ks : List Nat} (w : Wk E u ks v) : 0 ≤ gn E ks := by
  induction w with
  | nil u => exact Int.le_refl _
  | cons e _ ih =>
    rw [gn_cons, eg_of e]
    have := h _ _ _ _ e
    omega
/-- each entry is made of a walk and a first entry -/
def OvA (E : List Edge) (o0 ov : List Int) (n : Nat) : Prop := ∀ v, v < n → ∃ ks x, Wk E v ks x ∧ ov.getD v 0 = o0.getD x 0 + gn E ks
/-- no walk of at most r arrows makes less -/
def OvU (E : List Edge) (o0 ov : List Int) (r : Nat) : Prop := ∀ v ks x, Wk E v ks x → ks.length ≤ r → ov.getD v 0 ≤ o0.getD x 0 + gn E ks
theorem ov_done {cs : List Int} {ar : List (Nat × Nat)} {o0 ov : List Int} (ok : ChOk cs ar) (hcs : ∀ p, 0 ≤ cs.getD p 0) (ha : OvA (cosE cs ar) o0 ov cs.length) (hu : OvU (cosE cs ar) o0 ov cs.length) {k t h : Nat} (e : ar[k]? = some (t, h)) : ov.getD t 0 ≤ cs.getD h 0 + ov.getD h 0 := by
  have hE : ∀ e ∈ cosE cs ar, e.1 < cs.length ∧ e.2.1 < cs.length := by
    rintro ⟨t, h, g⟩ he
    obtain ⟨k, hk⟩ := List.mem_iff_getElem?.mp he
    exact ok.ends _ (List.mem_of_getElem? (cosE_inv hk).1)
  have hg : ∀ (k t h : Nat) (g : Int), (cosE cs ar)[k]? = some (t, h, g) → 0 ≤ g := fun k t h g e => by rw [(cosE_inv e).2]; exact hcs _
  have hh := (ok.ends _ (List.mem_of_getElem? e)).2
  obtain ⟨ks, x, w, hx⟩ := ha h hh
  obtain ⟨ks', w', hl, hle⟩ := w.shorten (sense := -1) hE (fun u ks w => by have := gn_nonneg hg w; omega) hh
  have := hu t (k :: ks') x (.cons (cosE_at e) w') (by rw [List.length_cons]; omega)
  rw [gn_cons, eg_of (cosE_at e)] at this
  omega
/-- one step: over[t] = min(over[t], costs[h] + over[h]) -/
theorem ov_step {cs : List Int} {ar : List (Nat × Nat)} {o0 ov ov0 : List Int} {n k t h : Nat} (hl : ov.length = n) (htn : t < n) (hhn : h < n) (e : ar[k]? = some (t, h)) (ha : OvA (cosE cs ar) o0 ov n) (hle : ∀ p, p < n → ov.getD p 0 ≤ ov0.getD p 0) {w : Int} (hw : w = if cs.getD h 0 + ov.getD h 0 < ov.getD t 0 then cs.getD h 0 + ov.getD h 0 else ov.getD t 0) :
    OvA (cosE cs ar) o0 (ov.set t w) n ∧ (∀ p, p < n → (ov.set t w).getD p 0 ≤ ov.getD p 0) ∧ (ov.set t w).getD t 0 ≤ cs.getD h 0 + ov0.getD h 0 := by
  have htl : t < ov.length := by rw [hl]; exact htn
  have h1 := hle h hhn
  have hw1 : w ≤ ov.getD t 0 := by rw [hw]; split <;> omega
  have hw2 : w ≤ cs.getD h 0 + ov.getD h 0 := by rw [hw]; split <;> omega
  refine ⟨fun v hv => ?_, fun p hp => ?_, ?_⟩
  · rw [getD_set htl]
    by_cases hvt : v = t
    · rw [if_pos hvt]
      subst hvt
      by_cases hc : cs.getD h 0 + ov.getD h 0 < ov.getD v 0
      · obtain ⟨ks, x, w2, hx⟩ := ha h hhn
        refine ⟨k :: ks, x, .cons (cosE_at e) w2, ?_⟩
        rw [hw, if_pos hc, gn_cons, eg_of (cosE_at e), hx]
        omega
      · obtain ⟨ks, x, w2, hx⟩ := ha v hv
        exact ⟨ks, x, w2, by rw [hw, if_neg hc, hx]⟩
    · rw [if_neg hvt]
      exact ha v hv
  · rw [getD_set htl]
    split
    · rename_i hpt
      rw [hpt]
      exact hw1
    · exact Int.le_refl _
  · rw [getD_set htl, if_pos rfl]
    omega
theorem fmI_idxB (f : Nat → Bool) : ∀ (xs : List V) (k : Nat), fmI (fun i _ => some (V.bl (f i))) k xs = (List.range' k xs.length).map fun i => V.bl (f i)
  | [], _ => rfl
  | x :: xs, k => by
    show V.bl (f k) :: fmI _ (k + 1) xs = _
    rw [fmI_idxB f xs (k + 1), List.length_cons, List.range'_succ, List.map_cons]
def sp_w_even_row (_ : Ad) : Sp := fun vs H Q _ => ∃ (hh ca c : Addr) (cs : List Int) (ar : List (Nat × Nat)), vs = [.ref hh, .ref c] ∧ HandAt H hh ca ∧ LC H c cs ar ∧ ChOk cs ar ∧ (∀ z ∈ cs, 0 ≤ z ∧ z ≤ 1000000000) ∧
  ∀ H' q ls, Kb hh H H' → HandAt H' hh ca → H q = none → q ≠ hh → IL H' q ls → ls.length = cs.length → 0 ≤ ls.getD 0 0 → ls.getD 0 0 ≤ 2000000000 → (∀ (k t h : Nat), ar[k]? = some (t, h) → 0 ≤ ls.getD h 0 - ls.getD t 0 + cs.getD t 0 ∧ ls.getD h 0 - ls.getD t 0 + cs.getD t 0 ≤ 2000000000) → Q (.ref q) H'
theorem HandAt.mut {H : Hp} {hh ca a : Addr} {o : HO} (h : HandAt H hh ca) (h1 : a ≠ hh) (h2 : a ≠ ca) : HandAt (upd H a o) hh ca := by
  obtain ⟨cells, i, rest, total, hx, hc, rst⟩ := h
  refine ⟨cells, i, rest, total, ?_, ?_, rst⟩
  · rw [upd_ne h1.symm]; exact hx
  · show (upd H a _) ca = _
    rw [upd_ne h2.symm]
    exact hc
/-- what is new in H is neither the hand nor its cells -/
theorem HandAt.apart {H : Hp} {hh ca a : Addr} (h : HandAt H hh ca) (ha : H a = none) : a ≠ hh ∧ a ≠ ca := by
  obtain ⟨cells, i, rest, total, hx, hc, _⟩ := h
  exact ⟨(ne_of_none hx ha).symm, (ne_of_none hc ha).symm⟩
theorem HandAt.tup {H H' : Hp} {hh ca a : Addr} {xs : List V} (h : HandAt H hh ca) (kb : Kb hh H H') (ha : H a = some (.tup xs)) : H' a = some (.tup xs) := h.kf kb _ _ trivial ha
section
variable {P : Program} {w : World} {K : PySem.W.Frag} {mg : Str → Option Value} {base : Heap} {A : Ad} (T : Txt K mg A)
include T
theorem ok_w_inner (d : Df K mg "_law_inner" s_w_inner ["_law_chart"]) (c_w_behind : Cal P w K mg base 1 "_law_behind" ["_law_chart", "_law_place"] (sp_w_behind A)) : Cal P w K mg base 2 "_law_inner" ["_law_chart"] (sp_w_inner A) := by
  refine d.ok sc_w_inner (fun vs H Q E h => ?_) (fun f cdv A' outer s H vs Q E hr h => ?_)
  · obtain ⟨c, cs, ar, rfl, _⟩ := h
    rfl
  · obtain ⟨c, cs, ar, rfl, hc, ok, q⟩ := h
    have hn16 := ok.n16
    have h32 := ok.a32
    refine ⟨_, (pss_cons (ps_set (i := 1) sc_w_inner.nd rfl (.inr rfl) (pe_lc (own := [("_law_place", 2)]) (g := (gName 2)) (tt := tYes) (te := (tCall (sp_w_behind A) [] E0 (tCons (tVar 0) (tCons (tVar 2) tNil)))) rfl sc_w_inner.nd (pi_range1 (by rfl) T.z_range (pa_cons (pe_callB cr_len (by rfl) T.z_len (by decide +kernel) (pa_cons (pe_ix ix_any (pv 0) pe_int (fun _ _ => rfl)) pa_nil)) pa_nil)) (blkOk_by (N := ["_law_chart", "_law_behind_here", "_law_place", "_law_arrow"]) (own := [("_law_place", 2)]) (sc := defScope s_w_inner) (by decide +kernel)) (fun _ _ _ _ _ => (pg_name (i := 2) sc_w_inner.nd rfl (.inl rfl))) (fun _ _ _ _ _ => pts_nil) (fun _ _ _ _ _ => (pe_cal c_w_behind hr (by rfl) (pa_cons (pv 0) (pa_cons (pv 2) pa_nil))))))
    (pss_one (ps_ret (pe_lc (own := [("_law_arrow", 3)]) (g := (gName 3)) (tt := tYes) (te := (tOp (rIn K false) (tOp (rIxA K) (tVar 3) (tC (.int 0))) (tOp (rIxA K) (tVar 1) (tOp (rIxA K) (tVar 3) (tC (.int 1)))))) rfl sc_w_inner.nd (pi_seq (pe_ix ix_any (pv 0) pe_int (fun _ _ => rfl))) (blkOk_by (N := ["_law_chart", "_law_behind_here", "_law_place", "_law_arrow"]) (own := [("_law_arrow", 3)]) (sc := defScope s_w_inner) (by decide +kernel)) (fun _ _ _ _ _ => (pg_name (i := 3) sc_w_inner.nd rfl (.inl rfl))) (fun _ _ _ _ _ => pts_nil) (fun _ _ _ _ _ => (pe_cmpR op_in_seq (pe_ix ix_any (pv 3) pe_int (fun _ _ => rfl)) (pe_ix ix_any (pv 1) (pe_ix ix_any (pv 3) pe_int (fun _ _ => rfl)) (fun _ _ => rfl)) (by rfl))))))), ?_⟩
    obtain ⟨pc, hpc, hpct⟩ := rd_lc0 (K := K) (σ := L2.start ["_law_chart", "_law_behind_here", "_law_place", "_law_arrow"] [.ref c]) (ta := tVar 0) hc (ev_var rfl)
    refine pl_seq (pl_set ?_)
    refine rd_lcRng (n := cs.length) (ea_cons ((ev_len hpc (SqA.t hpct)).is (by rw [List.length_map])) ea_nil) (by omega)
      (fun D i G => ∃ (ps : List Addr) (fss : List (List Nat)), G D = some (.lst (ps.map V.ref)) ∧ Same H G ∧ Each (fun p fs => p ≠ D ∧ NL G p fs) ps fss ∧ fss.length = i ∧ ∀ (j : Nat) fs, fss[j]? = some fs → ∀ x ∈ fs, BhB ar j x)
      (fun D hD => ⟨[], [], upd_same, same_upd hD, Each.nil, rfl, fun j fs hj => by simp at hj⟩) (fun D i G hD hi hP => ?_) (fun D G hD hP => ?_)
    · obtain ⟨ps, fss, hDG, s1, hEa, hfl, hsd⟩ := hP
      refine lcT_yes rfl ?_
      refine ev_callR (Pc := fun v G2 => ∃ q fs, v = .ref q ∧ Same G G2 ∧ G q = none ∧ NL G2 q fs ∧ ∀ x ∈ fs, BhB ar i x) (ea_cons (ev_var rfl) (ea_cons (ev_var rfl) ea_nil)) (fun Q2 k2 => ⟨c, cs, ar, i, rfl, hc.s s1, ok, hi, fun H' q fs s hq hN hm => k2 _ _ ⟨q, fs, rfl, s, hq, hN, hm⟩⟩) _ fun v G2 hv => ?_
      obtain ⟨qa, fs, rfl, s2, hqa, hN, hm⟩ := hv
      have hD2 := s2 _ _ hDG
      have hqD : qa ≠ D := (ne_of_none hDG hqa).symm
      have hpl : ps.length = i := by rw [hEa.1, hfl]
      have hold : ∀ (p : Addr) (y : List Nat), p ≠ D ∧ NL G p y → NL (upd G2 D (.lst (ps.map V.ref ++ [.ref qa]))) p y := fun p y e => by
        show (upd G2 D _) p = _
        rw [upd_ne e.1]
        exact s2 _ _ e.2
      have hnew : NL (upd G2 D (.lst (ps.map V.ref ++ [.ref qa]))) qa fs := by
        show (upd G2 D _) qa = _
        rw [upd_ne hqD]
        exact hN
      refine ⟨ps.map V.ref, hD2, ?_, ps ++ [qa], fss ++ [fs], ?_, (s1.trans s2).mut hD, (hEa.mono fun p y e => ⟨e.1, hold p y e⟩).snoc ⟨hqD, hnew⟩, by rw [List.length_append, hfl]; rfl, fun j gs hj => ?_⟩
      · rw [List.length_map, hpl]
        exact Nat.lt_of_lt_of_le (show i < 1000 by omega) (by decide)
      · rw [upd_same, List.map_append]
        rfl
      · by_cases hji : j < fss.length
        · rw [List.getElem?_append_left hji] at hj
          exact hsd j gs hj
        · have hjl := (List.getElem?_eq_some_iff.mp hj).1
          rw [List.length_append, List.length_singleton] at hjl
          have : j = fss.length := by omega
          subst this
          rw [List.getElem?_append_right (Nat.le_refl _), Nat.sub_self] at hj
          cases hj
          rw [hfl]
          exact hm
    · obtain ⟨ps, fss, hDG, s1, hEa, hfl, hsd⟩ := hP
      obtain ⟨pa, as, hpa, hpt, hpe⟩ := rd_lc1 (K := K) (H := G) (σ := [some (.ref c), some (.ref D), none, none]) (ta := tVar 0) (hc.s s1) (ev_var rfl)
      refine pl_nx (pl_ret ?_)
      refine rd_lcFm hpa.r fun v H1 hv => ?_
      obtain ⟨rfl, rfl⟩ := hv
      have hb : ∀ (k : Nat), k < ar.length → ∃ t h u, ar[k]? = some (t, h) ∧ as[k]? = some u ∧ PairAt G u (t, h) ∧ h < cs.length := fun k hk => by
        have hke : ar[k]? = some ar[k] := List.getElem?_eq_getElem hk
        obtain ⟨u, hu, hpu⟩ := hpe.get hke
        exact ⟨ar[k].1, ar[k].2, u, hke, hu, hpu, (ok.ends _ (List.getElem_mem hk)).2⟩
      refine ⟨pa, as.map V.ref, fun k _ => some (.bl (decide ((ar.getD k (0, 0)).1 ∈ fss.getD (ar.getD k (0, 0)).2 []))), rfl, SqA.t hpt, by rw [List.length_map, hpe.1]; omega, fun _ => rfl, fun k x H' _ _ => EtS.yes, fun k x y H' hk hy s => ?_, fun D2 H' hD2 s hL => ?_⟩
      · have ey := Option.some.inj hy
        subst ey
        have hkl : k < ar.length := by
          have := (List.getElem?_eq_some_iff.mp hk).1
          rwa [List.length_map, hpe.1] at this
        obtain ⟨t, h, u, har, hu, hpu, hhn⟩ := hb k hkl
        have ex : x = .ref u := Option.some.inj (hk.symm.trans (ref_at hu))
        subst ex
        have eg : ar.getD k (0, 0) = (t, h) := by rw [List.getD_eq_getElem?_getD, har]; rfl
        rw [eg]
        have hpu2 := s _ _ hpu
        have hfs : fss[h]? = some (fss.getD h []) := by
          rw [List.getD_eq_getElem?_getD, List.getElem?_eq_getElem (by rw [hfl]; exact hhn)]
          rfl
        obtain ⟨pf, hpf, _, hN⟩ := hEa.get hfs
        exact (ev_in (ev_ixn (n := 0) (v := nv t) (ev_var rfl) ev_c (SqA.t hpu2) rfl) (ev_ixn (ev_var rfl) (ev_ixn (n := 1) (v := nv h) (ev_var rfl) ev_c (SqA.t hpu2) rfl) (SqA.l (s _ _ hDG)) (ref_at hpf)) (SqA.l (s _ _ hN))).s
      · have eL : fmI (fun k _ => some (V.bl (decide ((ar.getD k (0, 0)).1 ∈ fss.getD (ar.getD k (0, 0)).2 [])))) 0 (as.map V.ref) = ((List.range ar.length).map fun k => decide ((ar.getD k (0, 0)).1 ∈ fss.getD (ar.getD k (0, 0)).2 [])).map V.bl := by
          have := fmI_idxB (fun k => decide ((ar.getD k (0, 0)).1 ∈ fss.getD (ar.getD k (0, 0)).2 [])) (as.map V.ref) 0
          rw [this, List.length_map, hpe.1, ← List.range_eq_range', List.map_map]
          rfl
        rw [eL] at hL
        refine q H' D2 _ (s1.trans s) (s1.free hD2) hL (by rw [List.length_map, List.length_range]) fun k t h har hbk => ?_
        have hkl := (List.getElem?_eq_some_iff.mp har).1
        rw [List.getD_eq_getElem?_getD, List.getElem?_map, List.getElem?_range hkl] at hbk
        have eg : ar.getD k (0, 0) = (t, h) := by rw [List.getD_eq_getElem?_getD, har]; rfl
        have hbk2 : decide ((ar.getD k (0, 0)).1 ∈ fss.getD (ar.getD k (0, 0)).2 []) = true := hbk
        rw [eg] at hbk2
        have hm := of_decide_eq_true hbk2
        have hhn := (ok.ends _ (List.mem_of_getElem? har)).2
        exact hsd h _ (by rw [List.getD_eq_getElem?_getD, List.getElem?_eq_getElem (by rw [hfl]; exact hhn)]; rfl) t hm
end
end K15
namespace K15
open PySem PySem.Spec PyProof.Rows L2 RZ
/-! ### even_row -/
section
variable {K : PySem.W.Frag} {σ : L2.St} {H : Hp} {tg : TA} {ta : TE} {A : Ad}
/-- [..ints..][draw(hand, n)] -/
theorem ev_pick {hh ca : Addr} {ns : List Int} {n : Nat} (hH : HandAt H hh ca) (hn : ns.length = n) (h0 : 0 < n) (h1 : n ≤ 1000) (hne : ∀ (i j k : Int) (c : Addr), ns.map V.int ≠ [.ref c, .int i, .int j, .int k]) (hg : EaE tg σ H (ns.map V.int)) (ha : ∀ H', EvE ta σ H' (.ref hh)) :
    EvR (tOp (rIxA K) (tLst tg) (tCall (sp_w_draw A) [] E0 (tCons ta (tCons (tC (.int (n : Int))) tNil)))) σ H (fun v H' => ∃ z, v = .int z ∧ Kb hh H H' ∧ HandAt H' hh ca ∧ z ∈ ns) := fun Q q => by
  refine pl_op (pl_lst (hg _ ⟨by rw [List.length_map, hn]; exact Nat.le_trans h1 (by decide), fun p hp => ?_⟩))
  have s1 : Same H (upd H p (.lst (ns.map V.int))) := same_upd hp
  have hp1 : IL (upd H p (.lst (ns.map V.int))) p ns := upd_same
  have hH2 := hH.s s1
  generalize upd H p (.lst (ns.map V.int)) = H2 at s1 hp1 hH2
  refine ev_drawN (n := n) hH2 h0 (by omega) (ha H2) ev_c _ fun v H3 hv => ?_
  obtain ⟨z, rfl, kb2, hH3, z1⟩ := hv
  have hph : p ≠ hh := hH2.ne hp1 fun i j k c e => hne i j k c e
  have hz := getD_at (ns := ns) (k := z) (by omega)
  exact ⟨p, _, _, _, rfl, rfl, SqA.l (kb2 _ _ hph hp1), atI_nat (int_at hz), q _ _ ⟨_, rfl, (Kb.of s1).trans kb2, hH3, List.mem_of_getElem? hz⟩⟩
end
section
variable {P : Program} {w : World} {K : PySem.W.Frag} {mg : Str → Option Value} {base : Heap} {A : Ad} (T : Txt K mg A)
include T
theorem ok_w_even_row (d : Df K mg "_law_even_row" s_w_even_row ["_law_hand_here", "_law_chart"]) (c_w_draw : Cal P w K mg base 2 "_law_draw" ["_law_hand_here", "_law_many"] (sp_w_draw A)) : Cal P w K mg base 3 "_law_even_row" ["_law_hand_here", "_law_chart"] (sp_w_even_row A) := by
  refine d.ok sc_w_even_row (fun vs H Q E h => ?_) (fun f cdv A' outer s H vs Q E hr h => ?_)
  · obtain ⟨hh, ca, c, cs, ar, rfl, _⟩ := h
    rfl
  · obtain ⟨hh, ca, c, cs, ar, rfl, hH, hc, ok, hcs, q⟩ := h
    have hn16 := ok.n16
    have hn1 := ok.n1
    have h32 := ok.a32
    have hcs0 : ∀ p, 0 ≤ cs.getD p 0 := fun p => by
      by_cases hp : p < cs.length
      · exact (hcs _ (List.mem_of_getElem? (getD_at hp))).1
      · rw [List.getD_eq_getElem?_getD, List.getElem?_eq_none (by omega)]
        exact Int.le_refl _
    have hcs1 : ∀ p, cs.getD p 0 ≤ 1000000000 := fun p => by
      by_cases hp : p < cs.length
      · exact (hcs _ (List.mem_of_getElem? (getD_at hp))).2
      · rw [List.getD_eq_getElem?_getD, List.getElem?_eq_none (by omega)]
        decide
    refine ⟨_, (pss_cons (ps_set (i := 2) sc_w_even_row.nd rfl (.inr rfl) (pe_ix ix_any (pe_lst (pa_cons pe_int (pa_cons pe_int (pa_cons pe_int (pa_cons (pe_op op_powI pe_int pe_int) pa_nil))))) (pe_cal c_w_draw hr (by rfl) (pa_cons (pv 0) (pa_cons pe_int pa_nil))) (fun _ _ => rfl)))
    (pss_cons (ps_set (i := 3) sc_w_even_row.nd rfl (.inr rfl) (pe_lc (own := [("_law_cost_here", 8)]) (g := (gName 8)) (tt := tYes) (te := (tCall (sp_w_draw A) [] E0 (tCons (tVar 0) (tCons (tOp rAddI (tVar 2) (tC (.int 1))) tNil)))) rfl sc_w_even_row.nd (pi_seq (pe_ix ix_any (pv 1) pe_int (fun _ _ => rfl))) (blkOk_by (N := ["_law_hand_here", "_law_chart", "_law_top", "_law_over", "_law_turn", "_law_arrow", "_law_leads", "_law_less", "_law_cost_here", "_law_place", "_law_lead"]) (own := [("_law_cost_here", 8)]) (sc := defScope s_w_even_row) (by decide +kernel)) (fun _ _ _ _ _ => (pg_name (i := 8) sc_w_even_row.nd rfl (.inl rfl))) (fun _ _ _ _ _ => pts_nil) (fun _ _ _ _ _ => (pe_cal c_w_draw hr (by rfl) (pa_cons (pv 0) (pa_cons (pe_op op_addI (pv 2) pe_int) pa_nil))))))
    (pss_cons (ps_for PassesOwn.never rfl (pi_range1 (by rfl) T.z_range (pa_cons (pe_callB cr_len (by rfl) T.z_len (by decide +kernel) (pa_cons (pe_ix ix_any (pv 1) pe_int (fun _ _ => rfl)) pa_nil)) pa_nil)) (pg_name (i := 4) sc_w_even_row.nd rfl (.inl rfl)) (pss_one (ps_for PassesOwn.never rfl (pi_seq (pe_ix ix_any (pv 1) pe_int (fun _ _ => rfl))) (pg_name (i := 5) sc_w_even_row.nd rfl (.inl rfl)) (pss_one (ps_asg (pe_callB (cr_min2 rfl) (by rfl) T.z_min (by decide +kernel) (pa_cons (pe_ix ix_any (pv 3) (pe_ix ix_any (pv 5) pe_int (fun _ _ => rfl)) (fun _ _ => rfl)) (pa_cons (pe_op op_addI (pe_ix ix_any (pe_ix ix_any (pv 1) pe_int (fun _ _ => rfl)) (pe_ix ix_any (pv 5) pe_int (fun _ _ => rfl)) (fun _ _ => rfl)) (pe_ix ix_any (pv 3) (pe_ix ix_any (pv 5) pe_int (fun _ _ => rfl)) (fun _ _ => rfl))) pa_nil))) (pg_sub (pv 3) (pe_ix ix_any (pv 5) pe_int (fun _ _ => rfl)) set_list))))))
    (pss_cons (ps_setLc (i := 6) (own := [("_law_place", 9)]) (g := (gName 9)) (tt := tYes) (te := (tOp rAddI (tOp (rIxA K) (tOp (rIxA K) (tVar 1) (tC (.int 0))) (tVar 9)) (tOp (rIxA K) (tVar 3) (tVar 9)))) rfl sc_w_even_row.nd rfl rfl (sw_true rfl rfl rfl (by decide +kernel)) (pi_range1 (by rfl) T.z_range (pa_cons (pe_callB cr_len (by rfl) T.z_len (by decide +kernel) (pa_cons (pv 3) pa_nil)) pa_nil)) (blkOk_by (N := ["_law_hand_here", "_law_chart", "_law_top", "_law_over", "_law_turn", "_law_arrow", "_law_leads", "_law_less", "_law_cost_here", "_law_place", "_law_lead"]) (own := [("_law_place", 9)]) (sc := defScope s_w_even_row) (by decide +kernel)) (fun _ _ _ _ _ => (pg_name (i := 9) sc_w_even_row.nd rfl (.inl rfl))) (fun _ _ _ _ _ => pts_nil) (fun _ _ _ _ _ => (pe_op op_addI (pe_ix ix_any (pe_ix ix_any (pv 1) pe_int (fun _ _ => rfl)) (pv 9) (fun _ _ => rfl)) (pe_ix ix_any (pv 3) (pv 9) (fun _ _ => rfl)))))
    (pss_cons (ps_set (i := 7) sc_w_even_row.nd rfl (.inr rfl) (pe_ifExp (pt_cmpR op_eq (pe_cal c_w_draw hr (by rfl) (pa_cons (pv 0) (pa_cons pe_int pa_nil))) pe_int (nomark _)) (pe_cal c_w_draw hr (by rfl) (pa_cons (pv 0) (pa_cons (pe_op op_addI (pe_ix ix_any (pv 6) pe_int (fun _ _ => rfl)) pe_int) pa_nil))) pe_int))
    (pss_one (ps_ret (pe_lc (own := [("_law_lead", 10)]) (g := (gName 10)) (tt := tYes) (te := (tOp rSubI (tVar 10) (tVar 7))) rfl sc_w_even_row.nd (pi_seq (pv 6)) (blkOk_by (N := ["_law_hand_here", "_law_chart", "_law_top", "_law_over", "_law_turn", "_law_arrow", "_law_leads", "_law_less", "_law_cost_here", "_law_place", "_law_lead"]) (own := [("_law_lead", 10)]) (sc := defScope s_w_even_row) (by decide +kernel)) (fun _ _ _ _ _ => (pg_name (i := 10) sc_w_even_row.nd rfl (.inl rfl))) (fun _ _ _ _ _ => pts_nil) (fun _ _ _ _ _ => (pe_op op_subI (pv 10) (pv 7))))))))))), ?_⟩
    refine sq_setR (ev_pick (ns := [1, 4, 9, 1000000000]) (n := 4) hH rfl (by decide) (by decide) (fun i j k c e => by cases e) (ea_cons ev_c (ea_cons ev_c (ea_cons ev_c (ea_cons (ev_pow (by decide) (by unfold CPow; decide)) ea_nil)))) (fun H' => ev_var rfl)) fun v H1 hv => ?_
    obtain ⟨top, rfl, kb1, hH1, htop⟩ := hv
    have ht0 : 0 < top ∧ top ≤ 1000000000 := by simp at htop; omega
    have hc1 := hc.kb hH kb1
    obtain ⟨pc, hpc, hpct⟩ := rd_lc0 (K := K) (H := H1) (σ := [some (.ref hh), some (.ref c), some (.int top), none, none, none, none, none, none, none, none]) (ta := tVar 1) hc1 (ev_var rfl)
    -- over
    refine pl_seq (pl_set ?_)
    refine rd_lcSeq hpc.r fun v H2 hv => ?_
    obtain ⟨rfl, rfl⟩ := hv
    refine ⟨pc, cs.map V.int, rfl, SqA.t hpct, fun D i G => ∃ ws : List Int, IL G D ws ∧ Kb hh H1 G ∧ HandAt G hh ca ∧ ws.length = i ∧ ∀ z ∈ ws, 0 ≤ z ∧ z ≤ 1000000000, fun D hD => ⟨[], upd_same, Kb.of (same_upd hD), hH1.s (same_upd hD), rfl, fun z hz => by simp at hz⟩,
      fun D i G hD p => by obtain ⟨ws, _, kb, _⟩ := p; exact fun o ho => by rw [hpct] at ho; rw [← ho]; exact hH1.tup kb hpct, fun D i x G hD hi p => ?_, fun D G hD p => ?_⟩
    · obtain ⟨ws, hDw, kb, hHG, hwl, hws⟩ := p
      have hil : i < cs.length := by
        have := (List.getElem?_eq_some_iff.mp hi).1
        rwa [List.length_map] at this
      refine lcT_yes rfl ?_
      refine ev_draw hHG (by omega) (by omega) (ev_var rfl) (ev_add (ev_var rfl) ev_c) _ fun v G2 hv => ?_
      obtain ⟨z, rfl, kb2, hH2, z0, z1⟩ := hv
      obtain ⟨hDh, hDc⟩ := hH1.apart hD
      refine ⟨_, kb2 _ _ hDh hDw, ?_, ws ++ [z], ?_, (kb.trans kb2).mut hD, hH2.mut hDh hDc, by rw [List.length_append, hwl]; rfl, fun y hy => ?_⟩
      · rw [List.length_map, hwl]
        exact Nat.lt_of_lt_of_le (show i < 1000 by omega) (by decide)
      · show (upd G2 D _) D = _
        rw [upd_same, List.map_append]
        rfl
      · rcases List.mem_append.mp hy with hy | hy
        · exact hws y hy
        · rw [List.mem_singleton.mp hy]
          omega
    · obtain ⟨o0, hDw, kb, hHG, hwl, hws⟩ := p
      rw [List.length_map] at hwl
      have hD0 : H D = none := kb1.free (Classical.choose_spec hH1.lst) hD
      obtain ⟨hDh, hDc⟩ := hH1.apart hD
      have kbG := kb1.trans kb
      have hcG := hc.kb hH kbG
      have ho0 : ∀ p, p < cs.length → 0 ≤ o0.getD p 0 ∧ o0.getD p 0 ≤ 1000000000 := fun p hp => hws _ (List.mem_of_getElem? (getD_at (by rw [hwl]; exact hp)))
      have ho0' : ∀ p, 0 ≤ o0.getD p 0 := fun p => by
        by_cases hp : p < cs.length
        · exact (ho0 p hp).1
        · rw [List.getD_eq_getElem?_getD, List.getElem?_eq_none (by omega)]
          exact Int.le_refl _
      obtain ⟨pc2, hpc2, hpct2⟩ := rd_lc0 (K := K) (H := G) (σ := [some (.ref hh), some (.ref c), some (.int top), some (.ref D), none, none, none, none, none, none, none]) (ta := tVar 1) hcG (ev_var rfl)
      refine pl_nx (pl_seq ?_)
      refine rd_forRng1 (n := cs.length) (ea_cons ((ev_len hpc2 (SqA.t hpct2)).is (by rw [List.length_map])) ea_nil) (by omega)
        (fun i σ' F => ∃ (ov : List Int) (o4 o5 : Option V), σ' = [some (.ref hh), some (.ref c), some (.int top), some (.ref D), o4, o5, none, none, none, none, none] ∧ IL F D ov ∧ Kb hh H F ∧ HandAt F hh ca ∧ ov.length = cs.length ∧ OvA (cosE cs ar) o0 ov cs.length ∧ OvU (cosE cs ar) o0 ov i ∧ ∀ p, p < cs.length → ov.getD p 0 ≤ o0.getD p 0)
        ⟨o0, _, _, rfl, hDw, kbG, hHG, hwl, fun v hv => ⟨[], v, .nil v, by rw [gn_nil, Int.add_zero]⟩, fun v ks x w hl => ?_, fun p _ => Int.le_refl _⟩ (fun i σ' F hi hP => ?_) (fun σ' F hP => ?_)
      · cases w with
        | nil => rw [gn_nil, Int.add_zero]; exact Int.le_refl _
        | cons _ _ => simp at hl
      · obtain ⟨ov0, o4, o5, rfl, hDo, kbF, hHF, hol, hA, hU, hle0⟩ := hP
        obtain ⟨pa, as, hpa, hpt, hpe⟩ := rd_lc1 (K := K) (H := F) (σ := [some (.ref hh), some (.ref c), some (.int top), some (.ref D), some (nv i), o5, none, none, none, none, none]) (ta := tVar 1) (hc.kb hH kbF) (ev_var rfl)
        have hneD : ∀ {b : Addr} {ys : List V}, F b = some (.tup ys) → b ≠ D := fun e => ne_of e hDo (by intro e; cases e)
        refine rd_forSeq hpa.r fun v F1 hv => ?_
        obtain ⟨rfl, rfl⟩ := hv
        refine ⟨pa, as.map V.ref, rfl, SqA.t hpt, fun j σ' F' => ∃ (ov : List Int) (o5 : Option V), σ' = [some (.ref hh), some (.ref c), some (.int top), some (.ref D), some (nv i), o5, none, none, none, none, none] ∧ IL F' D ov ∧ Kb D F F' ∧ HandAt F' hh ca ∧ ov.length = cs.length ∧ OvA (cosE cs ar) o0 ov cs.length ∧ (∀ p, p < cs.length → ov.getD p 0 ≤ ov0.getD p 0) ∧
            ∀ (k t h : Nat), k < j → ar[k]? = some (t, h) → ov.getD t 0 ≤ cs.getD h 0 + ov0.getD h 0,
          ⟨ov0, _, rfl, hDo, Kb.refl, hHF, hol, hA, fun p _ => Int.le_refl _, fun k t h hk => by omega⟩, fun j σ' F' z => by obtain ⟨_, _, _, _, kb, _⟩ := z; exact fun o ho => kb _ _ (hneD hpt) ho, ?_, ?_⟩
        · rintro j x σ' F' hj ⟨ov, o5, rfl, hDo2, kbD, hHF2, hol2, hA2, hle2, hdo⟩
          have hjl : j < ar.length := by
            have := (List.getElem?_eq_some_iff.mp hj).1
            rwa [List.length_map, hpe.1] at this
          have hje : ar[j]? = some ar[j] := List.getElem?_eq_getElem hjl
          have hem : ar[j] ∈ ar := List.getElem_mem hjl
          generalize ar[j] = e at hje hem
          obtain ⟨t, h⟩ := e
          obtain ⟨u, hu, hpu⟩ := hpe.get hje
          have ex : x = .ref u := Option.some.inj (hj.symm.trans (ref_at hu))
          subst ex
          obtain ⟨htn, hhn⟩ := ok.ends _ hem
          have htn' : t < cs.length := htn
          have hhn' : h < cs.length := hhn
          have hpu2 : F' u = some (.tup [nv t, nv h]) := kbD _ _ (hneD hpu) hpu
          have hcF2 : LC F' c cs ar := by
            obtain ⟨pc3, pa3, h1, h2, ps3, h3, h4⟩ := hc.kb hH kbF
            have hcD : c ≠ D := fun e => by
              have hc0 : ∃ xs, H c = some (.lst xs) := by
                obtain ⟨_, _, e1, _⟩ := hc
                exact ⟨_, e1⟩
              obtain ⟨xs, hx⟩ := hc0
              rw [e, hD0] at hx
              cases hx
            exact ⟨pc3, pa3, kbD _ _ hcD h1, kbD _ _ (hneD h2) h2, ps3, kbD _ _ (hneD h3) h3, h4.mono fun p y e => kbD _ _ (hneD e) e⟩
          have et : EvE (tOp (rIxA K) (tVar 5) (tC (.int 0))) [some (.ref hh), some (.ref c), some (.int top), some (.ref D), some (nv i), some (.ref u), none, none, none, none, none] F' (nv t) := ev_ixn (n := 0) (ev_var rfl) ev_c (SqA.t hpu2) rfl
          have eh2 : EvE (tOp (rIxA K) (tVar 5) (tC (.int 1))) [some (.ref hh), some (.ref c), some (.int top), some (.ref D), some (nv i), some (.ref u), none, none, none, none, none] F' (nv h) := ev_ixn (n := 1) (ev_var rfl) ev_c (SqA.t hpu2) rfl
          have hmin := ev_min2 (ev_ixn (K := K) (ev_var (i := 3) rfl) et (SqA.l hDo2) (int_at (getD_at (by rw [hol2]; exact htn')))) (ev_add (rd_lcost (K := K) hcF2 (ev_var (i := 1) rfl) eh2 hhn') (ev_ixn (K := K) (ev_var (i := 3) rfl) eh2 (SqA.l hDo2) (int_at (getD_at (by rw [hol2]; exact hhn')))))
          refine sx_put (n := t) hmin (ev_var rfl) et hDo2 (by rw [List.length_map, hol2]; exact htn') ?_
          have hst := ov_step (cs := cs) (ar := ar) (o0 := o0) (ov := ov) (ov0 := ov0) hol2 htn' hhn' hje hA2 hle2 rfl
          generalize (if cs.getD h 0 + ov.getD h 0 < ov.getD t 0 then cs.getD h 0 + ov.getD h 0 else ov.getD t 0) = w at hst
          obtain ⟨b1, b2, b3⟩ := hst
          refine ⟨ov.set t w, _, rfl, ?_, kbD.upd, hHF2.mut hDh hDc, by rw [List.length_set, hol2], b1, fun p hp => Int.le_trans (b2 p hp) (hle2 p hp), fun k t' h' hk hk' => ?_⟩
          · show (upd F' D _) D = _
            rw [upd_same, List.map_set]
          · by_cases hkj : k < j
            · have ht' := (ok.ends _ (List.mem_of_getElem? hk')).1
              exact Int.le_trans (b2 t' ht') (hdo k t' h' hkj hk')
            · have : k = j := by omega
              subst this
              rw [hje] at hk'
              cases hk'
              exact b3
        · rintro σ' F' ⟨ov, o5, rfl, hDo2, kbD, hHF2, hol2, hA2, hle2, hdo⟩
          rw [List.length_map, hpe.1] at hdo
          have kbF2 : Kb hh H F' := fun b o hb e => kbD _ _ (fun e2 => by rw [e2, hD0] at e; cases e) (kbF b o hb e)
          refine ⟨ov, _, _, rfl, hDo2, kbF2, hHF2, hol2, hA2, fun v ks x w hl => ?_, fun p hp => Int.le_trans (hle2 p hp) (hle0 p hp)⟩
          cases w with
          | nil =>
            rw [gn_nil, Int.add_zero]
            by_cases hv : v < cs.length
            · exact Int.le_trans (hle2 v hv) (hle0 v hv)
            · rw [List.getD_eq_getElem?_getD, List.getElem?_eq_none (by omega)]
              exact ho0' v
          | @cons _ h _ k g ks' e w2 =>
            obtain ⟨e1, rfl⟩ := cosE_inv e
            have h1 := hdo k v h (List.getElem?_eq_some_iff.mp e1).1 e1
            have h2 := hU h ks' x w2 (by rw [List.length_cons] at hl; omega)
            rw [gn_cons, eg_of e]
            omega
      · obtain ⟨ov, o4, o5, rfl, hDo, kbF, hHF, hol, hA, hU, hle0⟩ := hP
        have hfin : ∀ (k t h : Nat), ar[k]? = some (t, h) → ov.getD t 0 ≤ cs.getD h 0 + ov.getD h 0 := fun k t h e => ov_done ok hcs0 hA hU e
        have hov0 : ∀ p, p < cs.length → 0 ≤ ov.getD p 0 := fun p hp => by
          obtain ⟨ks, x, w, hx⟩ := hA p hp
          have := gn_nonneg (E := cosE cs ar) (fun k t h g e => by rw [(cosE_inv e).2]; exact hcs0 _) w
          have := ho0' x
          omega
        have hov1 : ∀ p, p < cs.length → ov.getD p 0 ≤ 1000000000 := fun p hp => Int.le_trans (hle0 p hp) (ho0 p hp).2
        have hcF := hc.kb hH kbF
        -- leads
        refine pl_nx (pl_seq (pl_set ?_))
        refine rd_lcFmR (n := cs.length) (ea_cons ((ev_len (ev_var rfl) (SqA.l hDo)).is (by rw [List.length_map, hol])) ea_nil) (by omega) (fun k _ => some (.int (cs.getD k 0 + ov.getD k 0))) (fun _ => rfl) (fun k G2 hk s3 => EtS.yes) (fun k y G2 hk hy s3 => ?_) (fun L G2 hL0 s3 hL => ?_)
        · have ey := Option.some.inj hy
          subst ey
          exact (ev_add (rd_lcost (hcF.s s3) (ev_var rfl) (ev_var rfl) hk) (ev_ixn (ev_var rfl) (ev_var rfl) (SqA.l (s3 _ _ hDo)) (int_at (getD_at (by rw [hol]; exact hk))))).s
        · have eL : fmI (fun k _ => some (V.int (cs.getD k 0 + ov.getD k 0))) 0 ((List.range cs.length).map fun (i : Nat) => V.int (i : Int)) = ((List.range cs.length).map fun k => cs.getD k 0 + ov.getD k 0).map V.int := by
            rw [List.map_map]
            exact fmI_map (fun (j : Nat) => V.int (cs.getD j 0 + ov.getD j 0)) _ _ _ 0 (fun j x hj => by
              have hjn : j < cs.length := by
                have := (List.getElem?_eq_some_iff.mp hj).1
                rwa [List.length_range] at this
              rw [List.getElem?_range hjn] at hj
              cases hj
              rw [Nat.zero_add])
          rw [eL] at hL
          have hld : ∀ p, p < cs.length → ((List.range cs.length).map fun k => cs.getD k 0 + ov.getD k 0).getD p 0 = cs.getD p 0 + ov.getD p 0 := fun p hp => by
            rw [List.getD_eq_getElem?_getD, List.getElem?_map, List.getElem?_range hp]
            rfl
          have hll : ((List.range cs.length).map fun k => cs.getD k 0 + ov.getD k 0).length = cs.length := by rw [List.length_map, List.length_range]
          have hL' : IL G2 L ((List.range cs.length).map fun k => cs.getD k 0 + ov.getD k 0) := hL
          generalize (List.range cs.length).map (fun k => cs.getD k 0 + ov.getD k 0) = lds at hL' hld hll
          have kbG2 : Kb hh H G2 := kbF.trans (Kb.of s3)
          have hHG2 := hHF.s s3
          have hLH : H L = none := kbF.free (Classical.choose_spec hHF.lst) hL0
          obtain ⟨hLh, hLc⟩ := hHF.apart hL0
          have hl0 := hld 0 hn1
          have hb0 := hov0 0 hn1
          have hb1 := hov1 0 hn1
          have hb2 := hcs0 0
          have hb3 := hcs1 0
          -- less
          refine pl_nx ?_
          refine sq_setR (Pc := fun v G3 => ∃ z, v = .int z ∧ Kb hh G2 G3 ∧ HandAt G3 hh ca ∧ 0 ≤ z ∧ z ≤ lds.getD 0 0) (fun Q5 k5 => ?_) fun v G3 hv => ?_
          · refine pl_ifx (pl_test (pl_op (ev_draw hHG2 (by decide) (by decide) (ev_var rfl) ev_c _ fun v G3 hv => ?_)))
            obtain ⟨z, rfl, kb3, hH3, z0, z1⟩ := hv
            refine ev_c _ ⟨rfl, _, rfl, ?_⟩
            refine ite2 (fun hb => ?_) (fun hb => ?_)
            · refine ev_draw hH3 (by omega) (by omega) (ev_var rfl) (ev_add (ev_ixn (n := 0) (ev_var rfl) ev_c (SqA.l (kb3 _ _ hLh hL')) (int_at (getD_at (by rw [hll]; exact hn1)))) ev_c) _ fun v G4 hv => ?_
              obtain ⟨y, rfl, kb4, hH4, y0, y1⟩ := hv
              exact k5 _ _ ⟨y, rfl, kb3.trans kb4, hH4, y0, by omega⟩
            · exact ev_c _ (k5 _ _ ⟨0, rfl, kb3, hH3, by omega, by omega⟩)
          · obtain ⟨less, rfl, kb3, hH3, z0, z1⟩ := hv
            refine pl_ret ?_
            refine rd_lcFm (ev_var rfl).r fun v G4 hv => ?_
            obtain ⟨rfl, rfl⟩ := hv
            refine ⟨L, lds.map V.int, fun _ x => match x with | .int z => some (.int (z - less)) | _ => none, rfl, SqA.l (kb3 _ _ hLh hL'), by rw [List.length_map, hll]; omega, fun _ => rfl, fun k x H' hk _ => ?_, fun k x y H' hk hy s => ?_, fun D2 H' hD2 s hL2 => ?_⟩
            · rw [List.getElem?_map] at hk
              cases e : lds[k]? with
              | none => rw [e] at hk; cases hk
              | some z => rw [e] at hk; cases hk; exact EtS.yes
            · rw [List.getElem?_map] at hk
              cases e : lds[k]? with
              | none => rw [e] at hk; cases hk
              | some z =>
                rw [e] at hk
                cases hk
                have ey : V.int (z - less) = y := Option.some.inj hy
                subst ey
                exact (ev_sub (ev_var rfl) (ev_var rfl)).s
            · have eL2 : fmI (fun _ x => match x with | .int z => some (V.int (z - less)) | _ => none) 0 (lds.map V.int) = (lds.map fun z => z - less).map V.int := by
                rw [List.map_map]
                exact fmI_map (fun z => V.int (z - less)) _ V.int lds 0 (fun k x _ => rfl)
              rw [eL2] at hL2
              have hgd : ∀ p, p < cs.length → (lds.map fun z => z - less).getD p 0 = cs.getD p 0 + ov.getD p 0 - less := fun p hp => by
                rw [getD_map (f := fun z => z - less) (by rw [hll]; exact hp), hld p hp]
              have kbZ : Kb hh H H' := (kbG2.trans kb3).trans (Kb.of s)
              have hfr : H D2 = none := (kbG2.trans kb3).free (Classical.choose_spec hH3.lst) hD2
              refine q H' D2 _ kbZ (hH3.s s) hfr (hH3.apart hD2).1 hL2 (by rw [List.length_map, hll]) ?_ ?_ fun k t h e => ?_
              · rw [hgd 0 hn1]; omega
              · rw [hgd 0 hn1]; omega
              · have he := ok.ends _ (List.mem_of_getElem? e)
                have ht : t < cs.length := he.1
                have hh2 : h < cs.length := he.2
                rw [hgd t ht, hgd h hh2]
                have := hfin k t h e
                have := hov0 t ht
                have := hov1 h hh2
                have := hcs1 h
                omega
end
end K15
namespace K15
open PySem PySem.Spec PyProof.Rows L2 RZ
/-! ### wide -/
def sp_w_wide (_ : Ad) : Sp := fun vs H Q _ => ∃ (hh ca : Addr), vs = [.ref hh] ∧ HandAt H hh ca ∧ ∀ H' c cs ar, Kb hh H H' → HandAt H' hh ca → H c = none → LC H' c cs ar → ChOk cs ar → (∀ z ∈ cs, 0 ≤ z ∧ z ≤ 1000000000) → (∀ p, p < cs.length → Reach ar p) → Q (.ref c) H'
theorem rd_forRng1X {σ : L2.St} {H : Hp} {tg : TA} {g : TG} {tb1 : TS} {D : Ends} {Pc : Nat → Hp → Prop} (h : EaR tg σ H (fun us H' => ∃ n : Nat, us = [.int (n : Int)] ∧ n ≤ 1000000 ∧ Pc n H')) (k : ∀ n H1, Pc n H1 → ∃ Pv : Nat → L2.St → Hp → Prop, Pv 0 σ H1 ∧
    (∀ (i : Nat) σ' H', i < n → Pv i σ' H' → g (.int (i : Int)) σ' H' fun σ2 H2 => tb1 { D with nx := Pv (i + 1), ct := Pv (i + 1), bk := D.nx } σ2 H2) ∧ ∀ σ' H', Pv n σ' H' → D.nx σ' H') : tFor (iRng1 tg) g tb1 D σ H := by
  refine h _ fun us H1 ⟨n, eu, hn, p⟩ => ?_
  subst eu
  obtain ⟨Pv, h0, hs, hd⟩ := k n H1 p
  refine ⟨(n : Int), rfl, by omega, by omega, ?_⟩
  rw [Int.toNat_natCast]
  refine for_range (lo := 0) (n := n) Pv h0 (fun i σ' H' hi p => ?_) hd
  have e0 : (0 : Int) + (i : Int) = (i : Int) := Int.zero_add _
  rw [e0]
  exact hs i σ' H' hi p
def PL (G : Hp) (D : Addr) (qs : List (Nat × Nat)) : Prop := ∃ ps : List Addr, G D = some (.lst (ps.map V.ref)) ∧ Each (PairAt G) ps qs
/-- the pairs so far, in a loop -/
structure PLo (H : Hp) (hh ca D : Addr) (n : Nat) (qs : List (Nat × Nat)) (G : Hp) : Prop where
  kb : Kb hh H G
  hd : HandAt G hh ca
  pl : PL G D qs
  lt : ∀ e ∈ qs, e.1 < n ∧ e.2 < n
theorem PLo.hand {H : Hp} {hh ca D : Addr} {n : Nat} {qs : List (Nat × Nat)} {G G' : Hp} (h : PLo H hh ca D n qs G) (hD : D ≠ hh) (kb : Kb hh G G') (hd : HandAt G' hh ca) : PLo H hh ca D n qs G' := by
  obtain ⟨kb0, hd0, ⟨ps, h1, h2⟩, h3⟩ := h
  exact ⟨kb0.trans kb, hd, ⟨ps, kb _ _ hD h1, h2.mono fun p y e => hd0.tup kb e⟩, h3⟩
/-- pairs.append((a, b)) -/
theorem PLo.put {H : Hp} {hh ca D : Addr} {n : Nat} {qs : List (Nat × Nat)} {G : Hp} (h : PLo H hh ca D n qs G) (hDh : D ≠ hh) (hDc : D ≠ ca) (hD : H D = none) {a b : Nat} (ha : a < n) (hb : b < n) {p : Addr} (hp : G p = none) :
    ∃ xs, (upd G p (.tup [nv a, nv b])) D = some (.lst xs) ∧ xs.length = qs.length ∧ PLo H hh ca D n (qs ++ [(a, b)]) (upd (upd G p (.tup [nv a, nv b])) D (.lst (xs ++ [.ref p]))) := by
  obtain ⟨kb0, hd0, ⟨ps, h1, h2⟩, h3⟩ := h
  have s1 : Same G (upd G p (.tup [nv a, nv b])) := same_upd hp
  have hDp : D ≠ p := ne_of_none h1 hp
  have hD1 := s1 _ _ h1
  refine ⟨ps.map V.ref, hD1, by rw [List.length_map, h2.1], (kb0.trans (Kb.of s1)).mut hD, (hd0.s s1).mut hDh hDc, ⟨ps ++ [p], ?_, (h2.mono fun q y e => ?_).snoc ?_⟩, fun e he => ?_⟩
  · rw [upd_same, List.map_append]; rfl
  · show (upd _ D _) q = _
    rw [upd_ne (ne_of (s1 _ _ e) hD1 (by intro e; cases e))]
    exact s1 _ _ e
  · show (upd _ D _) p = _
    rw [upd_ne hDp.symm, upd_same]
  · rcases List.mem_append.mp he with he | he
    · exact h3 e he
    · rw [List.mem_singleton.mp he]
      exact ⟨ha, hb⟩
theorem reach_tree {ar : List (Nat × Nat)} {n : Nat} (h : ∀ k, 0 < k → k < n → ∃ t, t < k ∧ (t, k) ∈ ar) : ∀ p, p < n → Reach ar p := by
  intro p
  induction p using Nat.strongRecOn with
  | ind p ih =>
    intro hp
    by_cases h0 : p = 0
    · subst h0
      exact ⟨[], .nil _⟩
    · obtain ⟨t, ht, hm⟩ := h p (by omega) hp
      obtain ⟨ks, w⟩ := ih t ht (by omega)
      obtain ⟨j, hj⟩ := List.mem_iff_getElem?.mp hm
      exact ⟨ks ++ [j], w.snoc (bare_at hj)⟩
section
variable {P : Program} {w : World} {K : PySem.W.Frag} {mg : Str → Option Value} {base : Heap} {A : Ad} (T : Txt K mg A)
include T
theorem ok_w_wide (d : Df K mg "_law_wide" s_w_wide ["_law_hand_here"]) (c_w_draw : Cal P w K mg base 2 "_law_draw" ["_law_hand_here", "_law_many"] (sp_w_draw A)) (c_w_order : Cal P w K mg base 3 "_law_order" ["_law_hand_here", "_law_many"] (sp_w_order A))
    (c_w_cost : Cal P w K mg base 3 "_law_cost" ["_law_hand_here", "_law_small"] (sp_w_cost A)) : Cal P w K mg base 4 "_law_wide" ["_law_hand_here"] (sp_w_wide A) := by
  refine d.ok sc_w_wide (fun vs H Q E h => ?_) (fun f cdv A' outer s H vs Q E hr h => ?_)
  · obtain ⟨hh, ca, rfl, _⟩ := h
    rfl
  · obtain ⟨hh, ca, rfl, hH, q⟩ := h
    refine ⟨_, (pss_cons (ps_set (i := 1) sc_w_wide.nd rfl (.inl rfl) (pe_ifExp (pt_cmpR op_eq (pe_cal c_w_draw hr (by rfl) (pa_cons (pv 0) (pa_cons pe_int pa_nil))) pe_int (nomark _)) pe_int (pe_op op_addI pe_int (pe_cal c_w_draw hr (by rfl) (pa_cons (pv 0) (pa_cons pe_int pa_nil))))))
    (pss_cons (ps_set (i := 2) sc_w_wide.nd rfl (.inr rfl) (pe_cmpR op_eq (pe_cal c_w_draw hr (by rfl) (pa_cons (pv 0) (pa_cons pe_int pa_nil))) pe_int (nomark _)))
    (pss_cons (ps_set (i := 3) sc_w_wide.nd rfl (.inr rfl) (pe_lst pa_nil))
    (pss_cons (ps_for PassesOwn.never rfl (pi_range2 (by rfl) T.z_range (pa_cons pe_int (pa_cons (pv 1) pa_nil))) (pg_name (i := 4) sc_w_wide.nd rfl (.inl rfl)) (pss_one (ps_expr (pe_bm PySem.F.plainAttrs_list PySem.F.slot_list_append PySem.F.type_list_append mt_append (pv 3) (pa_cons (pe_tup (pa_cons (pe_ifExp (pt_cmpR op_gtI (pe_cal c_w_draw hr (by rfl) (pa_cons (pv 0) (pa_cons pe_int pa_nil))) pe_int (nomark _)) (pe_op op_subI (pv 4) pe_int) (pe_cal c_w_draw hr (by rfl) (pa_cons (pv 0) (pa_cons (pv 4) pa_nil)))) (pa_cons (pv 4) pa_nil))) pa_nil)))))
    (pss_cons (ps_for PassesOwn.never rfl (pi_range1 (by rfl) T.z_range (pa_cons (pe_cal c_w_draw hr (by rfl) (pa_cons (pv 0) (pa_cons pe_int pa_nil))) pa_nil)) (pg_name (i := 4) sc_w_wide.nd rfl (.inl rfl)) (pss_one (ps_expr (pe_bm PySem.F.plainAttrs_list PySem.F.slot_list_append PySem.F.type_list_append mt_append (pv 3) (pa_cons (pe_tup (pa_cons (pe_cal c_w_draw hr (by rfl) (pa_cons (pv 0) (pa_cons (pv 1) pa_nil))) (pa_cons (pe_cal c_w_draw hr (by rfl) (pa_cons (pv 0) (pa_cons (pv 1) pa_nil))) pa_nil))) pa_nil)))))
    (pss_cons (ps_if (pt_cmpR op_eq (pe_cal c_w_draw hr (by rfl) (pa_cons (pv 0) (pa_cons pe_int pa_nil))) pe_int (nomark _)) (pss_one (ps_for PassesOwn.never rfl (pi_range1 (by rfl) T.z_range (pa_cons (pe_op op_subI pe_int (pe_callB cr_len (by rfl) T.z_len (by decide +kernel) (pa_cons (pv 3) pa_nil))) pa_nil)) (pg_name (i := 4) sc_w_wide.nd rfl (.inl rfl)) (pss_cons (ps_set (i := 5) sc_w_wide.nd rfl (.inl rfl) (pe_cal c_w_draw hr (by rfl) (pa_cons (pv 0) (pa_cons (pv 1) pa_nil))))
    (pss_one (ps_expr (pe_bm PySem.F.plainAttrs_list PySem.F.slot_list_append PySem.F.type_list_append mt_append (pv 3) (pa_cons (pe_tup (pa_cons (pv 5) (pa_cons (pv 5) pa_nil))) pa_nil))))))) pss_nil)
    (pss_cons (ps_setLc (i := 6) (own := [("_law_k", 4)]) (g := (gName 4)) (tt := tYes) (te := (tOp (rIxA K) (tVar 3) (tVar 4))) rfl sc_w_wide.nd rfl rfl (sw_true rfl rfl rfl (by decide +kernel)) (pi_seq (pe_cal c_w_order hr (by rfl) (pa_cons (pv 0) (pa_cons (pe_callB cr_len (by rfl) T.z_len (by decide +kernel) (pa_cons (pv 3) pa_nil)) pa_nil)))) (blkOk_by (N := ["_law_hand_here", "_law_many", "_law_small", "_law_pairs", "_law_k", "_law_place", "_law_arrows"]) (own := [("_law_k", 4)]) (sc := defScope s_w_wide) (by decide +kernel)) (fun _ _ _ _ _ => (pg_name (i := 4) sc_w_wide.nd rfl (.inl rfl))) (fun _ _ _ _ _ => pts_nil) (fun _ _ _ _ _ => (pe_ix ix_any (pv 3) (pv 4) (fun _ _ => rfl))))
    (pss_one (ps_ret (pe_lst (pa_cons (pe_callTy cr_tup (by rfl) T.z_tuple (by decide +kernel) (pa_cons (pe_lc (own := [("_law_k", 4)]) (g := (gName 4)) (tt := tYes) (te := (tCall (sp_w_cost A) [] E0 (tCons (tVar 0) (tCons (tVar 2) tNil)))) rfl sc_w_wide.nd (pi_range1 (by rfl) T.z_range (pa_cons (pv 1) pa_nil)) (blkOk_by (N := ["_law_hand_here", "_law_many", "_law_small", "_law_pairs", "_law_k", "_law_place", "_law_arrows"]) (own := [("_law_k", 4)]) (sc := defScope s_w_wide) (by decide +kernel)) (fun _ _ _ _ _ => (pg_name (i := 4) sc_w_wide.nd rfl (.inl rfl))) (fun _ _ _ _ _ => pts_nil) (fun _ _ _ _ _ => (pe_cal c_w_cost hr (by rfl) (pa_cons (pv 0) (pa_cons (pv 2) pa_nil))))) pa_nil)) (pa_cons (pe_callTy cr_tup (by rfl) T.z_tuple (by decide +kernel) (pa_cons (pv 6) pa_nil)) pa_nil)))))))))))), ?_⟩
    -- many
    refine sq_setR (Pc := fun v H' => ∃ n : Nat, v = nv n ∧ Kb hh H H' ∧ HandAt H' hh ca ∧ 10 ≤ n ∧ n ≤ 16) (fun Q5 k5 => ?_) fun v H1 hv => ?_
    · refine pl_ifx (pl_test (pl_op (ev_drawN (n := 3) hH (by decide) (by decide) (ev_var rfl) ev_c _ fun v H1 hv => ?_)))
      obtain ⟨z, rfl, kb1, hH1, z1⟩ := hv
      refine ev_c _ ⟨rfl, _, rfl, ?_⟩
      refine ite2 (fun hb => ?_) (fun hb => ?_)
      · exact ev_c _ (k5 _ _ ⟨16, rfl, kb1, hH1, by decide, by decide⟩)
      · refine pl_op (ev_c _ (ev_drawN (n := 6) hH1 (by decide) (by decide) (ev_var rfl) ev_c _ fun v H2 hv => ?_))
        obtain ⟨y, rfl, kb2, hH2, y1⟩ := hv
        exact ⟨_, _, rfl, rfl, k5 _ _ ⟨10 + y, congrArg V.int (by omega), kb1.trans kb2, hH2, by omega, by omega⟩⟩
    obtain ⟨n, rfl, kb1, hH1, hn10, hn16⟩ := hv
    -- small
    refine sq_setR (Pc := fun v H' => ∃ b : Bool, v = .bl b ∧ Kb hh H1 H' ∧ HandAt H' hh ca) (fun Q5 k5 => ?_) fun v H2 hv => ?_
    · refine pl_op (ev_drawN (n := 2) hH1 (by decide) (by decide) (ev_var rfl) ev_c _ fun v H2 hv => ?_)
      obtain ⟨z, rfl, kb2, hH2, z1⟩ := hv
      exact ev_c _ ⟨rfl, k5 _ _ ⟨_, rfl, kb2, hH2⟩⟩
    obtain ⟨b, rfl, kb2, hH2⟩ := hv
    have kb02 := kb1.trans kb2
    -- pairs
    refine pl_seq (pl_set ⟨Nat.zero_le _, fun D hD2 => ?_⟩)
    have hD : H D = none := kb02.free (Classical.choose_spec hH2.lst) hD2
    obtain ⟨hDh, hDc⟩ := hH2.apart hD2
    have hP0 : PLo H hh ca D n [] (upd H2 D (.lst [])) := ⟨kb02.trans (Kb.of (same_upd hD2)), hH2.s (same_upd hD2), ⟨[], upd_same, Each.nil⟩, fun e he => by simp at he⟩
    generalize upd H2 D (.lst []) = H3 at hP0
    refine pl_nx (pl_seq ?_)
    refine rd_forRng2 (lo := 1) (n := n - 1) (hi := (n : Int)) (ea_cons ev_c (ea_cons (ev_var rfl) ea_nil)) (by omega) (by omega) (by omega)
      (fun i σ' G => ∃ (qs : List (Nat × Nat)) (o4 : Option V), σ' = [some (.ref hh), some (nv n), some (.bl b), some (.ref D), o4, none, none] ∧ PLo H hh ca D n qs G ∧ qs.length = i ∧ ∀ k, 0 < k → k ≤ i → ∃ t, t < k ∧ (t, k) ∈ qs)
      ⟨[], _, rfl, hP0, rfl, fun k h0 h1 => by omega⟩ (fun i σ' G hi hP => ?_) (fun σ' G hP => ?_)
    · obtain ⟨qs, o4, rfl, hPL, hql, htree⟩ := hP
      have e1 : (1 : Int) + (i : Int) = ((i + 1 : Nat) : Int) := by omega
      rw [e1]
      have hl0 : ∃ xs, G D = some (.lst xs) := by
        obtain ⟨_, _, ⟨ps, h1, _⟩, _⟩ := hPL
        exact ⟨_, h1⟩
      obtain ⟨xs0, hx0⟩ := hl0
      refine pl_drop (pl_bm (ev_var rfl _ ⟨tyl hx0, pl_cons (pl_tup (pl_cons ?_))⟩))
      refine (show EvR _ _ _ (fun v G2 => ∃ t : Nat, v = nv t ∧ Kb hh G G2 ∧ HandAt G2 hh ca ∧ t < i + 1) from fun Q5 k5 => ?_) _ fun v G2 hv => ?_
      · refine pl_ifx (pl_test (pl_op (ev_drawN (n := 3) hPL.hd (by decide) (by decide) (ev_var rfl) ev_c _ fun v G1 hv => ?_)))
        obtain ⟨z, rfl, kb3, hH3, z1⟩ := hv
        refine ev_c _ ⟨_, _, rfl, rfl, _, rfl, ?_⟩
        refine ite2 (fun hb => ?_) (fun hb => ?_)
        · exact (ev_sub (ev_var rfl) ev_c) _ (k5 _ _ ⟨i, congrArg V.int (by omega), kb3, hH3, by omega⟩)
        · refine ev_drawN (n := i + 1) hH3 (by omega) (by omega) (ev_var rfl) (ev_var rfl) _ fun v G2 hv => ?_
          obtain ⟨y, rfl, kb4, hH4, y1⟩ := hv
          exact k5 _ _ ⟨y, rfl, kb3.trans kb4, hH4, y1⟩
      · obtain ⟨t, rfl, kb3, hH3, ht⟩ := hv
        have hPL2 := hPL.hand hDh kb3 hH3
        refine ev_var rfl _ ⟨by show 2 ≤ sizeLine; decide, fun p hp => ?_⟩
        obtain ⟨xs, hx, hxl, hPL3⟩ := hPL2.put hDh hDc hD (a := t) (b := i + 1) (by omega) (by omega) hp
        refine ⟨D, xs, _, rfl, rfl, hx, ?_, qs ++ [(t, i + 1)], _, rfl, hPL3, by rw [List.length_append, hql]; rfl, fun k h0 h1 => ?_⟩
        · exact Nat.lt_of_lt_of_le (show xs.length < 1000 by omega) (by decide)
        · by_cases hk : k ≤ i
          · obtain ⟨t', h2, h3⟩ := htree k h0 hk
            exact ⟨t', h2, List.mem_append_left _ h3⟩
          · have : k = i + 1 := by omega
            subst this
            exact ⟨t, ht, List.mem_append_right _ (by simp)⟩
    · obtain ⟨qs1, o4, rfl, hPL1, hql1, htree1⟩ := hP
      -- second loop
      refine pl_nx (pl_seq ?_)
      refine rd_forRng1X (Pc := fun m G1 => m < 7 ∧ PLo H hh ca D n qs1 G1) (fun Q5 k5 => ?_) fun m G1 hm => ?_
      · refine pl_cons (ev_drawN (n := 7) hPL1.hd (by decide) (by decide) (ev_var rfl) ev_c _ fun v G1 hv => ?_)
        obtain ⟨z, rfl, kb3, hH3, z1⟩ := hv
        exact ea_nil _ (k5 _ _ ⟨z, rfl, by omega, z1, hPL1.hand hDh kb3 hH3⟩)
      obtain ⟨hm7, hPLm⟩ := hm
      refine ⟨fun i σ' G => ∃ (qs : List (Nat × Nat)) (o4 : Option V), σ' = [some (.ref hh), some (nv n), some (.bl b), some (.ref D), o4, none, none] ∧ PLo H hh ca D n qs G ∧ qs.length ≤ 15 + i ∧ ∀ k, 0 < k → k < n → ∃ t, t < k ∧ (t, k) ∈ qs,
        ⟨qs1, _, rfl, hPLm, by omega, fun k h0 h1 => htree1 k h0 (by omega)⟩, fun i σ' G hi hP => ?_, fun σ' G hP => ?_⟩
      · obtain ⟨qs, o4, rfl, hPL, hql, htree⟩ := hP
        have hl0 : ∃ xs, G D = some (.lst xs) := by
          obtain ⟨_, _, ⟨ps, h1, _⟩, _⟩ := hPL
          exact ⟨_, h1⟩
        obtain ⟨xs0, hx0⟩ := hl0
        refine pl_drop (pl_bm (ev_var rfl _ ⟨tyl hx0, pl_cons (pl_tup (pl_cons ?_))⟩))
        refine ev_drawN (n := n) hPL.hd (by omega) (by omega) (ev_var rfl) (ev_var rfl) _ fun v G1 hv => ?_
        obtain ⟨a, rfl, kb3, hH3, a1⟩ := hv
        refine pl_cons (ev_drawN (n := n) hH3 (by omega) (by omega) (ev_var rfl) (ev_var rfl) _ fun v G2 hv => ?_)
        obtain ⟨b2, rfl, kb4, hH4, b1⟩ := hv
        refine ⟨by show 2 ≤ sizeLine; decide, fun p hp => ?_⟩
        obtain ⟨xs, hx, hxl, hPL3⟩ := (hPL.hand hDh (kb3.trans kb4) hH4).put hDh hDc hD (a := a) (b := b2) a1 b1 hp
        refine ⟨D, xs, _, rfl, rfl, hx, ?_, qs ++ [(a, b2)], _, rfl, hPL3, by rw [List.length_append, List.length_singleton]; omega, fun k h0 h1 => ?_⟩
        · exact Nat.lt_of_lt_of_le (show xs.length < 1000 by omega) (by decide)
        · obtain ⟨t', h2, h3⟩ := htree k h0 h1
          exact ⟨t', h2, List.mem_append_left _ h3⟩
      · obtain ⟨qs2, o4, rfl, hPL2, hql2, htree2⟩ := hP
        refine pl_nx ?_
        refine sq_mid (fun σ' G => ∃ (qs : List (Nat × Nat)) (o4 o5 : Option V), σ' = [some (.ref hh), some (nv n), some (.bl b), some (.ref D), o4, o5, none] ∧ PLo H hh ca D n qs G ∧ qs.length ≤ 32 ∧ ∀ k, 0 < k → k < n → ∃ t, t < k ∧ (t, k) ∈ qs) (fun σ' G hP => ?_) (fun N hN => ?_)
        · obtain ⟨qs, o4, o5, rfl, hPL, hql, htree⟩ := hP
          obtain ⟨ps, hps, hpe⟩ := hPL.pl
          -- arrows
          refine pl_seq (pl_set ?_)
          refine rd_lcFm (Pc := fun v G1 => ∃ qa ks, v = .ref qa ∧ Kb hh G G1 ∧ HandAt G1 hh ca ∧ NL G1 qa ks ∧ ks.Perm (List.range qs.length)) (fun Q5 k5 => ?_) fun v G1 hv => ?_
          · refine ev_callR (Pc := fun v G1 => ∃ qa ks, v = .ref qa ∧ Kb hh G G1 ∧ HandAt G1 hh ca ∧ NL G1 qa ks ∧ ks.Perm (List.range qs.length)) (ea_cons (ev_var rfl) (ea_cons ((ev_len (ev_var rfl) (SqA.l hps)).is (x := nv qs.length) (by rw [List.length_map, hpe.1]; rfl)) ea_nil)) (fun Q2 k2 => ⟨hh, ca, qs.length, rfl, hPL.hd, by omega, fun H' qa ks kb hHx hqa hqh hN hp => k2 _ _ ⟨qa, ks, rfl, kb, hHx, hN, hp⟩⟩) _ fun v G1 hv => k5 v G1 hv
          · obtain ⟨qa, ks, rfl, kb3, hH3, hN, hperm⟩ := hv
            have hks : ∀ k ∈ ks, k < qs.length := fun k hk => List.mem_range.mp (hperm.mem_iff.mp hk)
            have hkl : ks.length = qs.length := by rw [hperm.length_eq, List.length_range]
            have hps1 := kb3 _ _ hDh hps
            have hpe1 : Each (PairAt G1) ps qs := hpe.mono fun p y e => hPL.hd.tup kb3 e
            refine ⟨qa, ks.map nv, fun _ x => match x with | .int z => some (.ref (ps.getD z.toNat 0)) | _ => none, rfl, SqA.l hN, by rw [List.length_map]; omega, fun _ => rfl, fun k x H' hk _ => ?_, fun k x y H' hk hy s => ?_, fun D2 G2 hD2 s2 hL => ?_⟩
            · rw [List.getElem?_map] at hk
              cases e : ks[k]? with
              | none => rw [e] at hk; cases hk
              | some z => rw [e] at hk; cases hk; exact EtS.yes
            · rw [List.getElem?_map] at hk
              cases e : ks[k]? with
              | none => rw [e] at hk; cases hk
              | some z =>
                rw [e] at hk
                cases hk
                have ey : V.ref (ps.getD z 0) = y := Option.some.inj hy
                subst ey
                have hz := hks z (List.mem_of_getElem? e)
                refine (ev_ixn (ev_var rfl) (ev_var rfl) (SqA.l (s _ _ hps1)) (ref_at (p := ps.getD z 0) ?_)).s
                rw [List.getD_eq_getElem?_getD, List.getElem?_eq_getElem (by rw [hpe.1]; exact hz)]
                rfl
            · have eL : fmI (fun _ x => match x with | .int z => some (V.ref (ps.getD z.toNat 0)) | _ => none) 0 (ks.map nv) = (ks.map fun z => ps.getD z 0).map V.ref := by
                rw [List.map_map]
                exact fmI_map (fun z => V.ref (ps.getD z 0)) _ nv ks 0 (fun k x _ => rfl)
              rw [eL] at hL
              have hEar : Each (PairAt G2) (ks.map fun z => ps.getD z 0) (ks.map fun z => qs.getD z (0, 0)) := by
                refine ⟨by rw [List.length_map, List.length_map], fun i p x h1 h2 => ?_⟩
                rw [List.getElem?_map] at h1 h2
                cases e : ks[i]? with
                | none => rw [e] at h1; cases h1
                | some z =>
                  rw [e] at h1 h2
                  have hz := hks z (List.mem_of_getElem? e)
                  have hzp : z < ps.length := by rw [hpe.1]; exact hz
                  have e1 : ps.getD z 0 = p := Option.some.inj h1
                  have e2 : qs.getD z (0, 0) = x := Option.some.inj h2
                  have h5 := hpe1.2 z ps[z] qs[z] (List.getElem?_eq_getElem hzp) (List.getElem?_eq_getElem hz)
                  rw [List.getD_eq_getElem?_getD, List.getElem?_eq_getElem hzp] at e1
                  rw [List.getD_eq_getElem?_getD, List.getElem?_eq_getElem hz] at e2
                  rw [← e1, ← e2]
                  exact s2 _ _ h5
              have hmem : ∀ e ∈ ks.map (fun z => qs.getD z (0, 0)), e ∈ qs := fun e he => by
                obtain ⟨z, hz, rfl⟩ := List.mem_map.mp he
                have := hks z hz
                rw [List.getD_eq_getElem?_getD, List.getElem?_eq_getElem this]
                exact List.getElem_mem this
              have hmem2 : ∀ e ∈ qs, e ∈ ks.map (fun z => qs.getD z (0, 0)) := fun e he => by
                obtain ⟨j, hj⟩ := List.mem_iff_getElem?.mp he
                have hjl := (List.getElem?_eq_some_iff.mp hj).1
                exact List.mem_map.mpr ⟨j, hperm.mem_iff.mpr (List.mem_range.mpr hjl), by rw [List.getD_eq_getElem?_getD, hj]; rfl⟩
              have hlar : (ks.map fun z => qs.getD z (0, 0)).length ≤ 32 := by rw [List.length_map]; omega
              generalize ks.map (fun z => qs.getD z (0, 0)) = ar at hEar hmem hmem2 hlar
              generalize ks.map (fun z => ps.getD z 0) = as at hL hEar
              have hH4 := hH3.s s2
              have kb4 : Kb hh H G2 := (hPL.kb.trans kb3).trans (Kb.of s2)
              obtain ⟨hD2h, hD2c⟩ := hH3.apart hD2
              -- the costs
              refine pl_nx (pl_ret (pl_lst (pl_cons (pl_cb1 ?_))))
              refine rd_lcRng (n := n) (ea_cons (ev_var rfl) ea_nil) (by omega) (fun D3 i G3 => ∃ ws : List Int, IL G3 D3 ws ∧ Kb hh G2 G3 ∧ HandAt G3 hh ca ∧ ws.length = i ∧ ∀ z ∈ ws, 0 ≤ z ∧ z ≤ 1000000000)
                (fun D3 hD3 => ⟨[], upd_same, Kb.of (same_upd hD3), hH4.s (same_upd hD3), rfl, fun z hz => by simp at hz⟩) (fun D3 i G3 hD3 hi hP3 => ?_) (fun D3 G3 hD3 hP3 => ?_)
              · obtain ⟨ws, hDw, kb5, hH5, hwl, hws⟩ := hP3
                refine lcT_yes rfl ?_
                refine ev_callR (Pc := fun v G4 => ∃ z, v = .int z ∧ Kb hh G3 G4 ∧ HandAt G4 hh ca ∧ 0 ≤ z ∧ z ≤ 1000000000) (ea_cons (ev_var rfl) (ea_cons (ev_var rfl) ea_nil)) (fun Q2 k2 => ⟨hh, ca, b, rfl, hH5, fun H' z kb hHx z0 z1 => k2 _ _ ⟨z, rfl, kb, hHx, z0, z1⟩⟩) _ fun v G4 hv => ?_
                obtain ⟨z, rfl, kb6, hH6, z0, z1⟩ := hv
                obtain ⟨hDh3, hDc3⟩ := hH4.apart hD3
                refine ⟨_, kb6 _ _ hDh3 hDw, ?_, ws ++ [z], ?_, (kb5.trans kb6).mut hD3, hH6.mut hDh3 hDc3, by rw [List.length_append, hwl]; rfl, fun y hy => ?_⟩
                · rw [List.length_map, hwl]
                  exact Nat.lt_of_lt_of_le (show i < 1000 by omega) (by decide)
                · show (upd G4 D3 _) D3 = _
                  rw [upd_same, List.map_append]
                  rfl
                · rcases List.mem_append.mp hy with hy | hy
                  · exact hws y hy
                  · rw [List.mem_singleton.mp hy]
                    omega
              · obtain ⟨cs, hDw, kb5, hH5, hcl, hcs⟩ := hP3
                refine ⟨D3, _, rfl, .inl ⟨SqL.of hDw, fun l hl => ?_⟩⟩
                have s6 : Same G3 (upd G3 l (.tup (cs.map V.int))) := same_upd hl
                have hl6 : IT (upd G3 l (.tup (cs.map V.int))) l cs := upd_same
                have hH6 := hH5.s s6
                have hA6 := s6 _ _ (kb5 _ _ hD2h hL)
                have hE6 : Each (PairAt (upd G3 l (.tup (cs.map V.int)))) as ar := hEar.mono fun p y e => s6 _ _ (hH4.tup kb5 e)
                have kb6 : Kb hh H (upd G3 l (.tup (cs.map V.int))) := (kb4.trans kb5).trans (Kb.of s6)
                generalize upd G3 l (.tup (cs.map V.int)) = G4 at hl6 hH6 hA6 hE6 kb6
                refine pl_cons (pl_cb1 (ev_var rfl _ ⟨D2, _, rfl, .inl ⟨SqL.of hA6, fun l2 hl2 => ?_⟩⟩))
                refine ⟨by show 2 ≤ sizeLine; decide, fun c hc => ?_⟩
                have s7 : Same G4 (upd (upd G4 l2 (.tup (as.map V.ref))) c (.lst [.ref l, .ref l2])) := (same_upd hl2).new hc
                have hl2c : l2 ≠ c := ne_of_none (H := upd G4 l2 (.tup (as.map V.ref))) upd_same hc
                have kb7 : Kb hh H (upd (upd G4 l2 (.tup (as.map V.ref))) c (.lst [.ref l, .ref l2])) := kb6.trans (Kb.of s7)
                have hc0 : H c = none := kb6.free (Classical.choose_spec hH6.lst) ((same_upd hl2).free hc)
                refine q _ c cs ar kb7 (hH6.s s7) hc0 ⟨l, l2, upd_same, s7 _ _ hl6, as, ?_, hE6.mono fun p y e => s7 _ _ e⟩ ⟨by omega, by omega, hlar, fun e he => by rw [hcl]; exact hPL.lt e (hmem e he)⟩ hcs ?_
                · rw [upd_ne hl2c, upd_same]
                · rw [hcl]
                  exact reach_tree fun k h0 h1 => by
                    obtain ⟨t, h2, h3⟩ := htree k h0 h1
                    exact ⟨t, h2, hmem2 _ h3⟩
        · refine pl_if (pl_test (pl_op (ev_drawN (n := 4) hPL2.hd (by decide) (by decide) (ev_var rfl) ev_c _ fun v G1 hv => ?_)))
          obtain ⟨z, rfl, kb3, hH3, z1⟩ := hv
          have hPL3 := hPL2.hand hDh kb3 hH3
          refine ev_c _ ⟨rfl, _, rfl, ?_⟩
          refine ite2 (fun hb => ?_) (fun hb => ?_)
          · obtain ⟨ps, hps, hpe⟩ := hPL3.pl
            refine rd_forRng1 (n := 32 - qs2.length) (ea_cons ((ev_sub ev_c ((ev_len (ev_var rfl) (SqA.l hps)).is (x := nv qs2.length) (by rw [List.length_map, hpe.1]; rfl))).is (congrArg V.int (by omega))) ea_nil) (by omega)
              (fun i σ' G => ∃ (qs : List (Nat × Nat)) (o4 o5 : Option V), σ' = [some (.ref hh), some (nv n), some (.bl b), some (.ref D), o4, o5, none] ∧ PLo H hh ca D n qs G ∧ qs.length = qs2.length + i ∧ ∀ k, 0 < k → k < n → ∃ t, t < k ∧ (t, k) ∈ qs)
              ⟨qs2, _, _, rfl, hPL3, rfl, htree2⟩ (fun i σ' G hi hP => ?_) (fun σ' G hP => ?_)
            · obtain ⟨qs, o4, o5, rfl, hPL, hql, htree⟩ := hP
              refine sq_setR (ev_drawN (n := n) hPL.hd (by omega) (by omega) (ev_var rfl) (ev_var rfl)) fun v G1 hv => ?_
              obtain ⟨a, rfl, kb4, hH4, a1⟩ := hv
              have hPL4 := hPL.hand hDh kb4 hH4
              have hl0 : ∃ xs, G1 D = some (.lst xs) := by
                obtain ⟨_, _, ⟨ps, h1, _⟩, _⟩ := hPL4
                exact ⟨_, h1⟩
              obtain ⟨xs0, hx0⟩ := hl0
              refine pl_drop (pl_bm (ev_var rfl _ ⟨tyl hx0, pl_cons (pl_tup (pl_cons (ev_var rfl _ (pl_cons (ev_var rfl _ ?_)))))⟩))
              refine ⟨by show 2 ≤ sizeLine; decide, fun p hp => ?_⟩
              obtain ⟨xs, hx, hxl, hPL5⟩ := hPL4.put hDh hDc hD (a := a) (b := a) a1 a1 hp
              refine ⟨D, xs, _, rfl, rfl, hx, ?_, qs ++ [(a, a)], _, _, rfl, hPL5, by rw [List.length_append, List.length_singleton]; omega, fun k h0 h1 => ?_⟩
              · exact Nat.lt_of_lt_of_le (show xs.length < 1000 by omega) (by decide)
              · obtain ⟨t', h2, h3⟩ := htree k h0 h1
                exact ⟨t', h2, List.mem_append_left _ h3⟩
            · obtain ⟨qs, o4, o5, rfl, hPL, hql, htree⟩ := hP
              exact hN _ _ ⟨qs, _, _, rfl, hPL, by omega, htree⟩
          · exact hN _ _ ⟨qs2, _, _, rfl, hPL3, by omega, htree2⟩
end
end K15
namespace K15
open PySem PySem.Spec PyProof.Rows L2 RZ
/-! ### meter, made -/
/-- what the law's own meters are -/
structure MOk (M : Mt) : Prop where
  ch : ChOk M.costs M.arrows
  len : M.charges.length = M.arrows.length
  cs : ∀ z ∈ M.costs, 0 ≤ z ∧ z ≤ 1000000000
  f0 : 0 ≤ M.first
  f1 : M.first ≤ 1000000000000
  cg : ∀ z ∈ M.charges, 0 ≤ z ∧ z ≤ 1000000000000
  re : ∀ p, p < M.costs.length → Reach M.arrows p
theorem MOk.ok {M : Mt} (h : MOk M) : M.Ok := ⟨h.ch, h.len, fun p hp => by
  obtain ⟨ks, w⟩ := h.re p hp
  exact ⟨ks, w.full h.len⟩⟩
def sp_w_meter (_ : Ad) : Sp := fun vs H Q _ => ∃ (hh ca c : Addr) (cs : List Int) (ar : List (Nat × Nat)), vs = [.ref hh, .ref c] ∧ HandAt H hh ca ∧ LC H c cs ar ∧ ChOk cs ar ∧ (∀ z ∈ cs, 0 ≤ z ∧ z ≤ 1000000000) ∧ (∀ p, p < cs.length → Reach ar p) ∧
  ∀ H' m M, Kb hh H H' → HandAt H' hh ca → LM H' m M → MOk M → M.costs = cs → M.arrows = ar → Q (.ref m) H'
def sp_w_made (A : Ad) : Sp := fun vs H Q _ => ∃ (hh ca m : Addr) (M : Mt), vs = [.ref hh, .ref m] ∧ HandAt H hh ca ∧ LM H m M ∧ MOk M ∧ ∀ H' p, Kb hh H H' → HandAt H' hh ca → MeterAt A H' p M → Q (.ref p) H'
theorem fmI_idxV (f : Nat → V) : ∀ (xs : List V) (k : Nat), fmI (fun i _ => some (f i)) k xs = (List.range' k xs.length).map f
  | [], _ => rfl
  | x :: xs, k => by
    show f k :: fmI _ (k + 1) xs = _
    rw [fmI_idxV f xs (k + 1), List.length_cons, List.range'_succ, List.map_cons]
theorem sx_putR {σ : L2.St} {H : Hp} {te ta tb : TE} {D : Ends} {Pc : V → Hp → Prop} (he : EvR te σ H Pc) (k : ∀ v H1, Pc v H1 → ∃ (l : Addr) (n : Nat) (xs : List V), EvE ta σ H1 (.ref l) ∧ EvE tb σ H1 (.int (n : Int)) ∧ H1 l = some (.lst xs) ∧ n < xs.length ∧ D.nx σ (upd H1 l (.lst (xs.set n v)))) : tAsg te (gSub ta tb rSetL) D σ H :=
  he _ fun v H1 p => by
    obtain ⟨l, n, xs, hl, hi, hx, hn, k⟩ := k v H1 p
    exact sx_put (te := tC v) (D := D) ev_c hl hi hx hn k
structure MeI (H : Hp) (hh ca la ia na : Addr) (ls : List Int) (bs : List Bool) (ins : List Nat) (m : Nat) (cha : Addr) (B : Int) (ch : List Int) (G : Hp) : Prop where
  kb : Kb hh H G
  hd : HandAt G hh ca
  lea : IL G la ls
  inn : G ia = some (.lst (bs.map V.bl))
  ind : NL G na ins
  chg : IL G cha ch
  len : ch.length = m
  bd : ∀ z ∈ ch, 0 ≤ z ∧ z ≤ B
  nh : cha ≠ hh ∧ cha ≠ ca ∧ cha ≠ la ∧ cha ≠ ia ∧ cha ≠ na
  oth : la ≠ hh ∧ ia ≠ hh ∧ na ≠ hh
  new : H cha = none
section
variable {H : Hp} {hh ca la ia na : Addr} {ls : List Int} {bs : List Bool} {ins : List Nat} {m : Nat} {cha : Addr} {B : Int} {ch : List Int} {G G' : Hp}
theorem MeI.hand (h : MeI H hh ca la ia na ls bs ins m cha B ch G) (kb : Kb hh G G') (hd : HandAt G' hh ca) : MeI H hh ca la ia na ls bs ins m cha B ch G' :=
  ⟨h.kb.trans kb, hd, kb _ _ h.oth.1 h.lea, kb _ _ h.oth.2.1 h.inn, kb _ _ h.oth.2.2 h.ind, kb _ _ h.nh.1 h.chg, h.len, h.bd, h.nh, h.oth, h.new⟩
theorem MeI.put (h : MeI H hh ca la ia na ls bs ins m cha B ch G) {k : Nat} {z B' : Int} (hB : B ≤ B') (h0 : 0 ≤ z) (h1 : z ≤ B') : MeI H hh ca la ia na ls bs ins m cha B' (ch.set k z) (upd G cha (.lst ((ch.map V.int).set k (.int z)))) := by
  obtain ⟨n1, n2, n3, n4, n5⟩ := h.nh
  refine ⟨h.kb.mut h.new, h.hd.mut n1 n2, ?_, ?_, ?_, ?_, by rw [List.length_set]; exact h.len, fun y hy => ?_, h.nh, h.oth, h.new⟩
  · show (upd G cha _) la = _
    rw [upd_ne n3.symm]; exact h.lea
  · rw [upd_ne n4.symm]; exact h.inn
  · show (upd G cha _) na = _
    rw [upd_ne n5.symm]; exact h.ind
  · show (upd G cha _) cha = _
    rw [upd_same, List.map_set]
  · rcases List.mem_or_eq_of_mem_set hy with hy | rfl
    · have := h.bd y hy
      omega
    · exact ⟨h0, h1⟩
theorem MeI.up (h : MeI H hh ca la ia na ls bs ins m cha B ch G) {B' : Int} (hB : B ≤ B') : MeI H hh ca la ia na ls bs ins m cha B' ch G :=
  ⟨h.kb, h.hd, h.lea, h.inn, h.ind, h.chg, h.len, fun y hy => by have := h.bd y hy; omega, h.nh, h.oth, h.new⟩
end
section
variable {P : Program} {w : World} {K : PySem.W.Frag} {mg : Str → Option Value} {base : Heap} {A : Ad} (T : Txt K mg A)
include T
theorem ok_w_meter (d : Df K mg "_law_meter" s_w_meter ["_law_hand_here", "_law_chart"]) (c_w_draw : Cal P w K mg base 2 "_law_draw" ["_law_hand_here", "_law_many"] (sp_w_draw A)) (c_w_inner : Cal P w K mg base 2 "_law_inner" ["_law_chart"] (sp_w_inner A))
    (c_w_even_row : Cal P w K mg base 3 "_law_even_row" ["_law_hand_here", "_law_chart"] (sp_w_even_row A)) : Cal P w K mg base 4 "_law_meter" ["_law_hand_here", "_law_chart"] (sp_w_meter A) := by
  refine d.ok sc_w_meter (fun vs H Q E h => ?_) (fun f cdv A' outer s H vs Q E hr h => ?_)
  · obtain ⟨hh, ca, c, cs, ar, rfl, _⟩ := h
    rfl
  · obtain ⟨hh, ca, c, cs, ar, rfl, hH, hc, ok, hcs, hre, q⟩ := h
    have hn16 := ok.n16
    have hn1 := ok.n1
    have h32 := ok.a32
    refine ⟨_, (pss_cons (ps_set (i := 2) sc_w_meter.nd rfl (.inr rfl) (pe_ix ix_any (pv 1) pe_int (fun _ _ => rfl)))
    (pss_cons (ps_set (i := 3) sc_w_meter.nd rfl (.inr rfl) (pe_cal c_w_even_row hr (by rfl) (pa_cons (pv 0) (pa_cons (pv 1) pa_nil))))
    (pss_cons (ps_setLc (i := 4) (own := [("_law_arrow", 13)]) (g := (gName 13)) (tt := tYes) (te := (tOp rAddI (tOp rSubI (tOp (rIxA K) (tVar 3) (tOp (rIxA K) (tVar 13) (tC (.int 1)))) (tOp (rIxA K) (tVar 3) (tOp (rIxA K) (tVar 13) (tC (.int 0))))) (tOp (rIxA K) (tVar 2) (tOp (rIxA K) (tVar 13) (tC (.int 0)))))) rfl sc_w_meter.nd rfl rfl (sw_true rfl rfl rfl (by decide +kernel)) (pi_seq (pe_ix ix_any (pv 1) pe_int (fun _ _ => rfl))) (blkOk_by (N := ["_law_hand_here", "_law_chart", "_law_costs", "_law_leads", "_law_charges", "_law_way", "_law_inner_here", "_law_inside", "_law_k", "_law_at", "_law_by", "_law_most", "_law_first", "_law_arrow"]) (own := [("_law_arrow", 13)]) (sc := defScope s_w_meter) (by decide +kernel)) (fun _ _ _ _ _ => (pg_name (i := 13) sc_w_meter.nd rfl (.inl rfl))) (fun _ _ _ _ _ => pts_nil) (fun _ _ _ _ _ => (pe_op op_addI (pe_op op_subI (pe_ix ix_any (pv 3) (pe_ix ix_any (pv 13) pe_int (fun _ _ => rfl)) (fun _ _ => rfl)) (pe_ix ix_any (pv 3) (pe_ix ix_any (pv 13) pe_int (fun _ _ => rfl)) (fun _ _ => rfl))) (pe_ix ix_any (pv 2) (pe_ix ix_any (pv 13) pe_int (fun _ _ => rfl)) (fun _ _ => rfl)))))
    (pss_cons (ps_set (i := 5) sc_w_meter.nd rfl (.inl rfl) (pe_cal c_w_draw hr (by rfl) (pa_cons (pv 0) (pa_cons pe_int pa_nil))))
    (pss_cons (ps_set (i := 6) sc_w_meter.nd rfl (.inr rfl) (pe_cal c_w_inner hr (by rfl) (pa_cons (pv 1) pa_nil)))
    (pss_cons (ps_setLc (i := 7) (own := [("_law_k", 8)]) (g := (gName 8)) (tt := (tB (tOp (rIxA K) (tVar 6) (tVar 8)))) (te := (tVar 8)) rfl sc_w_meter.nd rfl rfl (sw_true rfl rfl rfl (by decide +kernel)) (pi_range1 (by rfl) T.z_range (pa_cons (pe_callB cr_len (by rfl) T.z_len (by decide +kernel) (pa_cons (pv 4) pa_nil)) pa_nil)) (blkOk_by (N := ["_law_hand_here", "_law_chart", "_law_costs", "_law_leads", "_law_charges", "_law_way", "_law_inner_here", "_law_inside", "_law_k", "_law_at", "_law_by", "_law_most", "_law_first", "_law_arrow"]) (own := [("_law_k", 8)]) (sc := defScope s_w_meter) (by decide +kernel)) (fun _ _ _ _ _ => (pg_name (i := 8) sc_w_meter.nd rfl (.inl rfl))) (fun _ _ _ _ _ => (pts_one (pt_val (pe_ix ix_any (pv 6) (pv 8) (fun _ _ => rfl))))) (fun _ _ _ _ _ => (pv 8)))
    (pss_cons (ps_if (PW.pt (pw_or (pt_cmpR op_eq (pv 5) pe_int (nomark _)) (pw_or1 (pt_cmpR op_eq (pv 5) pe_int (nomark _))))) (pss_one (ps_for PassesOwn.never rfl (pi_range1 (by rfl) T.z_range (pa_cons (pe_callB cr_len (by rfl) T.z_len (by decide +kernel) (pa_cons (pv 4) pa_nil)) pa_nil)) (pg_name (i := 8) sc_w_meter.nd rfl (.inl rfl)) (pss_one (ps_if (pt_not (pt_val (pe_ix ix_any (pv 6) (pv 8) (fun _ _ => rfl)))) (pss_one (ps_asg (pe_callB (cr_max2 rfl) (by rfl) T.z_max (by decide +kernel) (pa_cons pe_int (pa_cons (pe_op op_subI (pe_op op_addI (pe_ix ix_any (pv 4) (pv 8) (fun _ _ => rfl)) (pe_cal c_w_draw hr (by rfl) (pa_cons (pv 0) (pa_cons pe_int pa_nil)))) pe_int) pa_nil))) (pg_sub (pv 4) (pv 8) set_list))) pss_nil)))) pss_nil)
    (pss_cons (ps_if (PW.pt (pw_and (pt_cmpR op_gtI (pv 5) pe_int (nomark _)) (pw_and (pt_cmpR op_ltI (pv 5) pe_int (nomark _)) (pw_and1 (pt_tru (pv 7) (by intro _; rfl)))))) (pss_one (ps_for PassesOwn.never rfl (pi_range1 (by rfl) T.z_range (pa_cons (pe_op op_addI pe_int (pe_cal c_w_draw hr (by rfl) (pa_cons (pv 0) (pa_cons pe_int pa_nil)))) pa_nil)) (pg_name (i := 8) sc_w_meter.nd rfl (.inl rfl)) (pss_cons (ps_set (i := 9) sc_w_meter.nd rfl (.inl rfl) (pe_ix ix_any (pv 7) (pe_cal c_w_draw hr (by rfl) (pa_cons (pv 0) (pa_cons (pe_callB cr_len (by rfl) T.z_len (by decide +kernel) (pa_cons (pv 7) pa_nil)) pa_nil))) (fun _ _ => rfl)))
    (pss_cons (ps_set (i := 10) sc_w_meter.nd rfl (.inl rfl) (pe_ix ix_any (pe_lst (pa_cons (pe_un un_negI pe_int) (pa_cons pe_int (pa_cons pe_int (pa_cons (pe_un un_negI pe_int) (pa_cons (pe_un un_negI (pe_op op_powI pe_int pe_int)) (pa_cons (pe_op op_powI pe_int pe_int) pa_nil))))))) (pe_cal c_w_draw hr (by rfl) (pa_cons (pv 0) (pa_cons pe_int pa_nil))) (fun _ _ => rfl)))
    (pss_one (ps_asg (pe_callB (cr_max2 rfl) (by rfl) T.z_max (by decide +kernel) (pa_cons pe_int (pa_cons (pe_op op_addI (pe_ix ix_any (pv 4) (pv 9) (fun _ _ => rfl)) (pv 10)) pa_nil))) (pg_sub (pv 4) (pv 9) set_list))))))) pss_nil)
    (pss_cons (ps_if (pt_cmpR op_eq (pv 5) pe_int (nomark _)) (pss_cons (ps_set (i := 11) sc_w_meter.nd rfl (.inr rfl) (pe_ix ix_any (pe_lst (pa_cons pe_int (pa_cons pe_int (pa_cons (pe_op op_powI pe_int pe_int) (pa_cons (pe_op op_powI pe_int pe_int) pa_nil))))) (pe_cal c_w_draw hr (by rfl) (pa_cons (pv 0) (pa_cons pe_int pa_nil))) (fun _ _ => rfl)))
    (pss_one (ps_setLc (i := 4) (own := [("_law_arrow", 13)]) (g := (gName 13)) (tt := tYes) (te := (tCall (sp_w_draw A) [] E0 (tCons (tVar 0) (tCons (tOp rAddI (tVar 11) (tC (.int 1))) tNil)))) rfl sc_w_meter.nd rfl rfl (sw_true rfl rfl rfl (by decide +kernel)) (pi_seq (pv 4)) (blkOk_by (N := ["_law_hand_here", "_law_chart", "_law_costs", "_law_leads", "_law_charges", "_law_way", "_law_inner_here", "_law_inside", "_law_k", "_law_at", "_law_by", "_law_most", "_law_first", "_law_arrow"]) (own := [("_law_arrow", 13)]) (sc := defScope s_w_meter) (by decide +kernel)) (fun _ _ _ _ _ => (pg_name (i := 13) sc_w_meter.nd rfl (.inl rfl))) (fun _ _ _ _ _ => pts_nil) (fun _ _ _ _ _ => (pe_cal c_w_draw hr (by rfl) (pa_cons (pv 0) (pa_cons (pe_op op_addI (pv 11) pe_int) pa_nil))))))) pss_nil)
    (pss_cons (ps_set (i := 12) sc_w_meter.nd rfl (.inl rfl) (pe_ifExp (pt_cmpR op_gtI (pe_cal c_w_draw hr (by rfl) (pa_cons (pv 0) (pa_cons pe_int pa_nil))) pe_int (nomark _)) (pe_ix ix_any (pv 3) pe_int (fun _ _ => rfl)) (pe_op op_addI (pe_ix ix_any (pv 3) pe_int (fun _ _ => rfl)) (pe_cal c_w_draw hr (by rfl) (pa_cons (pv 0) (pa_cons pe_int pa_nil))))))
    (pss_one (ps_ret (pe_lst (pa_cons (pv 2) (pa_cons (pe_ix ix_any (pv 1) pe_int (fun _ _ => rfl)) (pa_cons (pv 12) (pa_cons (pe_callTy cr_tup (by rfl) T.z_tuple (by decide +kernel) (pa_cons (pv 4) pa_nil)) pa_nil))))))))))))))))), ?_⟩
    obtain ⟨pc, hpc, hpct⟩ := rd_lc0 (K := K) (σ := L2.start ["_law_hand_here", "_law_chart", "_law_costs", "_law_leads", "_law_charges", "_law_way", "_law_inner_here", "_law_inside", "_law_k", "_law_at", "_law_by", "_law_most", "_law_first", "_law_arrow"] [.ref hh, .ref c]) (ta := tVar 1) hc (ev_var rfl)
    refine sq_set hpc ?_
    refine sq_setR (Pc := fun v H1 => ∃ la ls, v = .ref la ∧ Kb hh H H1 ∧ HandAt H1 hh ca ∧ H la = none ∧ la ≠ hh ∧ IL H1 la ls ∧ ls.length = cs.length ∧ 0 ≤ ls.getD 0 0 ∧ ls.getD 0 0 ≤ 2000000000 ∧ ∀ (k t h : Nat), ar[k]? = some (t, h) → 0 ≤ ls.getD h 0 - ls.getD t 0 + cs.getD t 0 ∧ ls.getD h 0 - ls.getD t 0 + cs.getD t 0 ≤ 2000000000)
      (ev_callR (ea_cons (ev_var rfl) (ea_cons (ev_var rfl) ea_nil)) fun Q2 k2 => ⟨hh, ca, c, cs, ar, rfl, hH, hc, ok, hcs, fun H' la ls kb hHx hla hlh hL h1 h2 h3 h4 => k2 _ _ ⟨la, ls, rfl, kb, hHx, hla, hlh, hL, h1, h2, h3, h4⟩⟩) fun v H1 hv => ?_
    obtain ⟨la, ls, rfl, kb1, hH1, hla, hlh, hL1, hll, hl0, hl1, hch⟩ := hv
    have hc1 := hc.kb hH kb1
    have hpct1 : IT H1 pc cs := hH.tup kb1 hpct
    -- charges
    obtain ⟨pa, as, hpa, hpt, hpe⟩ := rd_lc1 (K := K) (H := H1) (σ := [some (.ref hh), some (.ref c), some (.ref pc), some (.ref la), none, none, none, none, none, none, none, none, none, none]) (ta := tVar 1) hc1 (ev_var rfl)
    refine pl_seq (pl_set ?_)
    refine rd_lcFm hpa.r fun v H2 hv => ?_
    obtain ⟨rfl, rfl⟩ := hv
    refine ⟨pa, as.map V.ref, fun k _ => some (.int (ls.getD (ar.getD k (0, 0)).2 0 - ls.getD (ar.getD k (0, 0)).1 0 + cs.getD (ar.getD k (0, 0)).1 0)), rfl, SqA.t hpt, by rw [List.length_map, hpe.1]; omega, fun _ => rfl, fun k x H' _ _ => EtS.yes, fun k x y H' hk hy s => ?_, fun cha G hcha s2 hLc => ?_⟩
    · have ey := Option.some.inj hy
      subst ey
      have hkl : k < ar.length := by
        have := (List.getElem?_eq_some_iff.mp hk).1
        rwa [List.length_map, hpe.1] at this
      have hke : ar[k]? = some ar[k] := List.getElem?_eq_getElem hkl
      obtain ⟨u, hu, hpu⟩ := hpe.get hke
      have ex : x = .ref u := Option.some.inj (hk.symm.trans (ref_at hu))
      subst ex
      have he := ok.ends _ (List.getElem_mem hkl)
      have eg : ar.getD k (0, 0) = ar[k] := by rw [List.getD_eq_getElem?_getD, hke]; rfl
      rw [eg]
      generalize ar[k] = e at hpu he
      obtain ⟨t, h⟩ := e
      have hpu2 := s _ _ hpu
      have ht : t < cs.length := he.1
      have hh2 : h < cs.length := he.2
      have et : EvE (tOp (rIxA K) (tVar 13) (tC (.int 0))) [some (.ref hh), some (.ref c), some (.ref pc), some (.ref la), none, none, none, none, none, none, none, none, none, some (.ref u)] H' (nv t) := ev_ixn (n := 0) (ev_var rfl) ev_c (SqA.t hpu2) rfl
      have eh2 : EvE (tOp (rIxA K) (tVar 13) (tC (.int 1))) [some (.ref hh), some (.ref c), some (.ref pc), some (.ref la), none, none, none, none, none, none, none, none, none, some (.ref u)] H' (nv h) := ev_ixn (n := 1) (ev_var rfl) ev_c (SqA.t hpu2) rfl
      have hL' := s _ _ hL1
      exact (ev_add (ev_sub (ev_ixn (ev_var (i := 3) rfl) eh2 (SqA.l hL') (int_at (getD_at (by rw [hll]; exact hh2)))) (ev_ixn (ev_var (i := 3) rfl) et (SqA.l hL') (int_at (getD_at (by rw [hll]; exact ht))))) (ev_ixn (ev_var (i := 2) rfl) et (SqA.t (s _ _ hpct1)) (int_at (getD_at ht)))).s
    · rw [fmI_idxV, List.length_map, hpe.1, ← List.range_eq_range'] at hLc
      have hLc2 : IL G cha ((List.range ar.length).map fun k => ls.getD (ar.getD k (0, 0)).2 0 - ls.getD (ar.getD k (0, 0)).1 0 + cs.getD (ar.getD k (0, 0)).1 0) := by
        show G cha = _
        rw [hLc, List.map_map]
        rfl
      have hbd0 : ∀ z ∈ (List.range ar.length).map (fun k => ls.getD (ar.getD k (0, 0)).2 0 - ls.getD (ar.getD k (0, 0)).1 0 + cs.getD (ar.getD k (0, 0)).1 0), 0 ≤ z ∧ z ≤ 2000000000 := fun z hz => by
        obtain ⟨k, hk, rfl⟩ := List.mem_map.mp hz
        have hke : ar[k]? = some (ar.getD k (0, 0)) := by rw [List.getD_eq_getElem?_getD, List.getElem?_eq_getElem (List.mem_range.mp hk)]; rfl
        exact hch k _ _ hke
      have hlen0 : ((List.range ar.length).map fun k => ls.getD (ar.getD k (0, 0)).2 0 - ls.getD (ar.getD k (0, 0)).1 0 + cs.getD (ar.getD k (0, 0)).1 0).length = ar.length := by rw [List.length_map, List.length_range]
      generalize (List.range ar.length).map (fun k => ls.getD (ar.getD k (0, 0)).2 0 - ls.getD (ar.getD k (0, 0)).1 0 + cs.getD (ar.getD k (0, 0)).1 0) = ch0 at hLc2 hbd0 hlen0
      have hHG := hH1.s s2
      have kbG : Kb hh H G := kb1.trans (Kb.of s2)
      have hLG := s2 _ _ hL1
      have hchaH : H cha = none := kb1.free (Classical.choose_spec hH1.lst) hcha
      obtain ⟨hch1, hch2⟩ := hH1.apart hcha
      have hchla : cha ≠ la := (ne_of_none hL1 hcha).symm
      -- way
      refine pl_nx ?_
      refine sq_setR (ev_drawN (n := 8) hHG (by decide) (by decide) (ev_var rfl) ev_c) fun v G2 hv => ?_
      obtain ⟨way, rfl, kb3, hH3, hway⟩ := hv
      have kbG2 := kbG.trans kb3
      have hLG2 := kb3 _ _ hlh hLG
      have hcG2 := kb3 _ _ hch1 hLc2
      -- inner
      refine sq_setR (Pc := fun v G3 => ∃ ia bs, v = .ref ia ∧ Same G2 G3 ∧ G2 ia = none ∧ G3 ia = some (.lst (bs.map V.bl)) ∧ bs.length = ar.length) (ev_callR (ea_cons (ev_var rfl) ea_nil) fun Q2 k2 => ⟨c, cs, ar, rfl, hc.kb hH kbG2, ok, fun H' ia bs s hia hb hbl _ => k2 _ _ ⟨ia, bs, rfl, s, hia, hb, hbl⟩⟩) fun v G3 hv => ?_
      obtain ⟨ia, bs, rfl, s4, hia, hbs3, hbl⟩ := hv
      have hH4 := hH3.s s4
      obtain ⟨hiah, hiac⟩ := hH3.apart hia
      have hcia : cha ≠ ia := ne_of_none hcG2 hia
      have hcG3 := s4 _ _ hcG2
      have hLG3 := s4 _ _ hLG2
      -- inside
      refine pl_seq (pl_set ?_)
      refine rd_lcFmR (n := ar.length) (ea_cons ((ev_len (ev_var rfl) (SqA.l hcG3)).is (by rw [List.length_map, hlen0])) ea_nil) (by omega) (fun k _ => (if bs.getD k false = true then some (k : Int) else none).map V.int) (fun _ => rfl) (fun k G4 hk s5 => ?_) (fun k y G4 hk hy s5 => ?_) (fun na G4 hna s5 hL4 => ?_)
      · refine ((et_B (ev_ixn (ev_var rfl) (ev_var rfl) (SqA.l (s5 _ _ hbs3)) (bool_at (by rw [hbl]; exact hk)))).is ?_).s
        by_cases hb : bs.getD k false = true
        · rw [if_pos hb, hb]; rfl
        · rw [if_neg hb, Bool.eq_false_iff.mpr hb]; rfl
      · by_cases hb : bs.getD k false = true
        · rw [if_pos hb] at hy
          cases hy
          exact (ev_var rfl).s
        · rw [if_neg hb] at hy
          cases hy
      · rw [fmI_idx, List.length_map, List.length_range, ← List.range_eq_range'] at hL4
        have hins : ∃ ins : List Nat, (List.range ar.length).filterMap (fun k => if bs.getD k false = true then some (k : Int) else none) = ins.map (fun (k : Nat) => (k : Int)) ∧ ∀ k ∈ ins, k < ar.length := by
          refine ⟨(List.range ar.length).filter fun k => bs.getD k false, ?_, fun k hk => List.mem_range.mp (List.mem_filter.mp hk).1⟩
          generalize List.range ar.length = l
          induction l with
          | nil => rfl
          | cons a l ih =>
            rw [List.filterMap_cons, List.filter_cons]
            by_cases hb : bs.getD a false = true
            · rw [if_pos hb, if_pos hb, List.map_cons, ih]
            · rw [if_neg hb, if_neg hb, ih]
        obtain ⟨ins, hie, hin⟩ := hins
        rw [hie, List.map_map] at hL4
        have hL4' : NL G4 na ins := hL4
        have hcna : cha ≠ na := ne_of_none hcG3 hna
        obtain ⟨hnah, hnac⟩ := hH4.apart hna
        have hI0 : MeI H hh ca la ia na ls bs ins ar.length cha 2000000000 ch0 G4 := ⟨kbG2.trans (Kb.of (s4.trans s5)), hH4.s s5, s5 _ _ hLG3, s5 _ _ hbs3, hL4', s5 _ _ hcG3, hlen0, hbd0, ⟨hch1, hch2, hchla, hcia, hcna⟩, ⟨hlh, hiah, hnah⟩, hchaH⟩
        refine pl_nx ?_
        -- the ways
        refine sq_mid (fun σ' F => ∃ (ch : List Int) (o8 : Option V), σ' = [some (.ref hh), some (.ref c), some (.ref pc), some (.ref la), some (.ref cha), some (nv way), some (.ref ia), some (.ref na), o8, none, none, none, none, none] ∧ MeI H hh ca la ia na ls bs ins ar.length cha 3000000000 ch F) (fun σ' F hP => ?_) (fun N hN => ?_)
        · obtain ⟨ch1, o8, rfl, hI1⟩ := hP
          refine sq_mid (fun σ' F => ∃ (ch : List Int) (o8 o9 o10 : Option V), σ' = [some (.ref hh), some (.ref c), some (.ref pc), some (.ref la), some (.ref cha), some (nv way), some (.ref ia), some (.ref na), o8, o9, o10, none, none, none] ∧ MeI H hh ca la ia na ls bs ins ar.length cha 100000000000 ch F) (fun σ' F hP => ?_) (fun N hN => ?_)
          · obtain ⟨ch2, o8, o9, o10, rfl, hI2⟩ := hP
            refine sq_mid (fun σ' F => ∃ (cha : Addr) (ch : List Int) (o8 o9 o10 o11 : Option V), σ' = [some (.ref hh), some (.ref c), some (.ref pc), some (.ref la), some (.ref cha), some (nv way), some (.ref ia), some (.ref na), o8, o9, o10, o11, none, none] ∧ MeI H hh ca la ia na ls bs ins ar.length cha 1000000000000 ch F) (fun σ' F hP => ?_) (fun N hN => ?_)
            · obtain ⟨cha3, ch3, o8, o9, o10, o11, rfl, hI3⟩ := hP
              have hcF := hc.kb hH hI3.kb
              -- first
              refine sq_setR (Pc := fun v F2 => ∃ z, v = .int z ∧ Kb hh F F2 ∧ HandAt F2 hh ca ∧ 0 ≤ z ∧ z ≤ 1000000000000) (fun Q5 k5 => ?_) fun v F2 hv => ?_
              · refine pl_ifx (pl_test (pl_op (ev_drawN (n := 4) hI3.hd (by decide) (by decide) (ev_var rfl) ev_c _ fun v F1 hv => ?_)))
                obtain ⟨z, rfl, kb6, hH6, z1⟩ := hv
                have hI4 := hI3.hand kb6 hH6
                have el : EvE (tOp (rIxA K) (tVar 3) (tC (.int 0))) [some (.ref hh), some (.ref c), some (.ref pc), some (.ref la), some (.ref cha3), some (nv way), some (.ref ia), some (.ref na), o8, o9, o10, o11, none, none] F1 (.int (ls.getD 0 0)) := ev_ixn (n := 0) (ev_var rfl) ev_c (SqA.l hI4.lea) (int_at (getD_at (by rw [hll]; exact hn1)))
                refine ev_c _ ⟨_, _, rfl, rfl, _, rfl, ?_⟩
                refine ite2 (fun hb => ?_) (fun hb => ?_)
                · exact el _ (k5 _ _ ⟨_, rfl, kb6, hH6, hl0, by omega⟩)
                · refine pl_op (el _ (ev_drawN (n := 6) hH6 (by decide) (by decide) (ev_var rfl) ev_c _ fun v F2 hv => ?_))
                  obtain ⟨y, rfl, kb7, hH7, y1⟩ := hv
                  exact ⟨_, _, rfl, rfl, k5 _ _ ⟨_, rfl, kb6.trans kb7, hH7, by omega, by omega⟩⟩
              · obtain ⟨fi, rfl, kb6, hH6, f0, f1⟩ := hv
                have hI4 := hI3.hand kb6 hH6
                have hcF2 := hc.kb hH hI4.kb
                have hpct2 : IT F2 pc cs := hH.tup hI4.kb hpct
                obtain ⟨pa2, as2, hpa2, hpt2, hpe2⟩ := rd_lc1 (K := K) (H := F2) (σ := [some (.ref hh), some (.ref c), some (.ref pc), some (.ref la), some (.ref cha3), some (nv way), some (.ref ia), some (.ref na), o8, o9, o10, o11, some (.int fi), none]) (ta := tVar 1) hcF2 (ev_var rfl)
                refine pl_ret (pl_lst (pl_cons (ev_var rfl _ (pl_cons (hpa2 _ (pl_cons (ev_var rfl _ (pl_cons ?_))))))))
                refine pl_cb1 (ev_var rfl _ ⟨cha3, _, rfl, .inl ⟨SqL.of hI4.chg, fun l hl => ?_⟩⟩)
                refine ⟨by show 4 ≤ sizeLine; decide, fun mm hmm => ?_⟩
                have s7 : Same F2 (upd (upd F2 l (.tup (ch3.map V.int))) mm (.lst [.ref pc, .ref pa2, .int fi, .ref l])) := (same_upd hl).new hmm
                have hlm : l ≠ mm := ne_of_none (H := upd F2 l (.tup (ch3.map V.int))) upd_same hmm
                refine q _ mm ⟨cs, ar, fi, ch3⟩ (hI4.kb.trans (Kb.of s7)) (hI4.hd.s s7) ⟨pc, pa2, l, upd_same, s7 _ _ hpct2, ⟨as2, s7 _ _ hpt2, hpe2.mono fun p y e => s7 _ _ e⟩, ?_⟩ ⟨ok, hI4.len, hcs, f0, f1, hI4.bd, hre⟩ rfl rfl
                show (upd _ mm _) l = _
                rw [upd_ne hlm, upd_same]
            · refine sx_if (et_test (ev_eq (ev_var rfl) ev_c rfl)) (fun hb => ?_) (fun hb => ?_)
              · refine sq_setR (ev_pick (ns := [3, 8, 1000000000, 1000000000000]) (n := 4) hI2.hd rfl (by decide) (by decide) (fun i j k c e => by cases e) (ea_cons ev_c (ea_cons ev_c (ea_cons (ev_pow (by decide) (by unfold CPow; decide)) (ea_cons (ev_pow (by decide) (by unfold CPow; decide)) ea_nil)))) (fun H' => ev_var rfl)) fun v F1 hv => ?_
                obtain ⟨most, rfl, kb6, hH6, hmost⟩ := hv
                have hm0 : 0 < most ∧ most ≤ 1000000000000 := by simp at hmost; omega
                have hI3 := hI2.hand kb6 hH6
                refine pl_set ?_
                refine rd_lcSeq (ev_var rfl).r fun v F2 hv => ?_
                obtain ⟨rfl, rfl⟩ := hv
                refine ⟨cha, ch2.map V.int, rfl, SqA.l hI3.chg, fun D i G => ∃ ws : List Int, IL G D ws ∧ Kb hh F1 G ∧ HandAt G hh ca ∧ ws.length = i ∧ ∀ z ∈ ws, 0 ≤ z ∧ z ≤ 1000000000000, fun D hD => ⟨[], upd_same, Kb.of (same_upd hD), hH6.s (same_upd hD), rfl, fun z hz => by simp at hz⟩,
                  fun D i G hD p => by obtain ⟨ws, _, kb, _⟩ := p; exact fun o ho => kb _ _ hch1 ho, fun D i x G hD hi p => ?_, fun D G hD p => ?_⟩
                · obtain ⟨ws, hDw, kb, hHG, hwl, hws⟩ := p
                  have hil : i < ar.length := by
                    have := (List.getElem?_eq_some_iff.mp hi).1
                    rwa [List.length_map, hI3.len] at this
                  refine lcT_yes rfl ?_
                  refine ev_draw hHG (by omega) (by omega) (ev_var rfl) (ev_add (ev_var rfl) ev_c) _ fun v G2 hv => ?_
                  obtain ⟨z, rfl, kb2, hH2, z0, z1⟩ := hv
                  obtain ⟨hDh, hDc⟩ := hH6.apart hD
                  refine ⟨_, kb2 _ _ hDh hDw, ?_, ws ++ [z], ?_, (kb.trans kb2).mut hD, hH2.mut hDh hDc, by rw [List.length_append, hwl]; rfl, fun y hy => ?_⟩
                  · rw [List.length_map, hwl]
                    exact Nat.lt_of_lt_of_le (show i < 1000 by omega) (by decide)
                  · show (upd G2 D _) D = _
                    rw [upd_same, List.map_append]
                    rfl
                  · rcases List.mem_append.mp hy with hy | hy
                    · exact hws y hy
                    · rw [List.mem_singleton.mp hy]
                      omega
                · obtain ⟨ws, hDw, kb, hHG, hwl, hws⟩ := p
                  rw [List.length_map, hI3.len] at hwl
                  obtain ⟨hDh, hDc⟩ := hH6.apart hD
                  have hI4 := hI3.hand kb hHG
                  exact hN _ _ ⟨D, ws, _, _, _, _, rfl, hI4.kb, hI4.hd, hI4.lea, hI4.inn, hI4.ind, hDw, hwl, hws, ⟨hDh, hDc, (ne_of_none hI3.lea hD).symm, (ne_of_none hI3.inn hD).symm, (ne_of_none hI3.ind hD).symm⟩, hI4.oth, hI3.kb.free (Classical.choose_spec hH6.lst) hD⟩
              · exact hN _ _ ⟨cha, ch2, _, _, _, _, rfl, hI2.up (by decide)⟩
          · refine sx_if (et_and (et_test (ev_gt (ev_var rfl) ev_c)) fun _ => et_and (et_test (ev_lt (ev_var rfl) ev_c)) fun _ => et_tru (ev_var rfl) (tru_seq (SqA.l hI1.ind))) (fun hb => ?_) (fun hb => ?_)
            · have hne : 0 < ins.length := by
                cases ins with
                | nil => simp at hb
                | cons a b => simp
              have hil : ins.length ≤ 1000000 := by
                have h1 : (List.range ar.length).filterMap (fun k => if bs.getD k false = true then some (k : Int) else none) = ins.map (fun (k : Nat) => (k : Int)) := hie
                have h2 := List.length_filterMap_le (fun k => if bs.getD k false = true then some (k : Int) else none) (List.range ar.length)
                rw [h1, List.length_map, List.length_range] at h2
                omega
              refine rd_forRng1X (Pc := fun m F1 => m ≤ 2 ∧ MeI H hh ca la ia na ls bs ins ar.length cha 3000000000 ch1 F1) (fun Q5 k5 => ?_) fun m F1 hm => ?_
              · refine pl_cons (pl_op (ev_c _ (ev_drawN (n := 2) hI1.hd (by decide) (by decide) (ev_var rfl) ev_c _ fun v F1 hv => ?_)))
                obtain ⟨z, rfl, kb6, hH6, z1⟩ := hv
                exact ⟨_, _, rfl, rfl, ea_nil _ (k5 _ _ ⟨1 + z, congrArg (fun x => [V.int x]) (by omega), by omega, by omega, hI1.hand kb6 hH6⟩)⟩
              · obtain ⟨hm2, hIm⟩ := hm
                refine ⟨fun i σ' F => ∃ (ch : List Int) (o8 o9 o10 : Option V), σ' = [some (.ref hh), some (.ref c), some (.ref pc), some (.ref la), some (.ref cha), some (nv way), some (.ref ia), some (.ref na), o8, o9, o10, none, none, none] ∧ MeI H hh ca la ia na ls bs ins ar.length cha (3000000000 + 1000000000 * i) ch F, ⟨ch1, _, _, _, rfl, hIm.up (by omega)⟩, fun i σ' F hi hP => ?_, fun σ' F hP => ?_⟩
                · obtain ⟨ch, o8, o9, o10, rfl, hI⟩ := hP
                  -- at
                  refine pl_seq (pl_set (pl_op (ev_var rfl _ ?_)))
                  refine ev_drawN (n := ins.length) hI.hd hne hil (ev_var rfl) ((ev_len (ev_var rfl) (SqA.l hI.ind)).is (by rw [List.length_map])) _ fun v F2 hv => ?_
                  obtain ⟨z, rfl, kb6, hH6, z1⟩ := hv
                  have hI2 := hI.hand kb6 hH6
                  have hzi : ins[z]? = some ins[z] := List.getElem?_eq_getElem z1
                  have hat := hin _ (List.getElem_mem z1)
                  generalize ins[z] = atk at hzi hat
                  refine ⟨na, _, _, _, rfl, rfl, SqA.l hI2.ind, atI_nat (nat_at hzi), ?_⟩
                  refine pl_nx ?_
                  refine sq_setR (ev_pick (ns := [-1, 1, 2, -2, -1000000000, 1000000000]) (n := 6) hI2.hd rfl (by decide) (by decide) (fun i j k c e => by cases e) (ea_cons (ev_neg ev_c) (ea_cons ev_c (ea_cons ev_c (ea_cons (ev_neg ev_c) (ea_cons (ev_neg (ev_pow (e := 1000000000) (by decide) (by unfold CPow; decide))) (ea_cons (ev_pow (by decide) (by unfold CPow; decide)) ea_nil)))))) (fun H' => ev_var rfl)) fun v F3 hv => ?_
                  obtain ⟨by_, rfl, kb7, hH7, hby⟩ := hv
                  have hby2 : -1000000000 ≤ by_ ∧ by_ ≤ 1000000000 := by simp at hby; omega
                  have hI3 := hI2.hand kb7 hH7
                  have hatl : atk < ch.length := by rw [hI3.len]; exact hat
                  have hca := hI3.bd _ (List.mem_of_getElem? (getD_at hatl))
                  refine sx_put (n := atk) (ev_max2 ev_c (ev_add (ev_ixn (ev_var rfl) (ev_var rfl) (SqA.l hI3.chg) (int_at (getD_at hatl))) (ev_var rfl))) (ev_var rfl) (ev_var rfl) hI3.chg (by rw [List.length_map]; exact hatl) ?_
                  refine ⟨_, _, _, _, rfl, hI3.put (by omega) ?_ ?_⟩
                  · split <;> omega
                  · split <;> omega
                · obtain ⟨ch, o8, o9, o10, rfl, hI⟩ := hP
                  exact hN _ _ ⟨ch, _, _, _, rfl, hI.up (by omega)⟩
            · exact hN _ _ ⟨ch1, _, _, _, rfl, hI1.up (by decide)⟩
        · refine sx_if (et_or (et_test (ev_eq (ev_var rfl) ev_c rfl)) fun _ => et_test (ev_eq (ev_var rfl) ev_c rfl)) (fun hb => ?_) (fun hb => ?_)
          · refine rd_forRng1 (n := ar.length) (ea_cons ((ev_len (ev_var rfl) (SqA.l hI0.chg)).is (by rw [List.length_map, hI0.len])) ea_nil) (by omega)
              (fun i σ' F => ∃ (ch : List Int) (o8 : Option V), σ' = [some (.ref hh), some (.ref c), some (.ref pc), some (.ref la), some (.ref cha), some (nv way), some (.ref ia), some (.ref na), o8, none, none, none, none, none] ∧ MeI H hh ca la ia na ls bs ins ar.length cha (2000000000 + 4 * i) ch F) ⟨ch0, _, rfl, hI0.up (by omega)⟩ (fun i σ' F hi hP => ?_) (fun σ' F hP => ?_)
            · obtain ⟨ch, o8, rfl, hI⟩ := hP
              refine sx_if (et_not (et_B (ev_ixn (ev_var rfl) (ev_var rfl) (SqA.l hI.inn) (bool_at (by rw [hbl]; exact hi))))) (fun hb => ?_) (fun hb => ?_)
              · have hil : i < ch.length := by rw [hI.len]; exact hi
                have hci := hI.bd _ (List.mem_of_getElem? (getD_at hil))
                refine sx_putR (Pc := fun v F2 => ∃ z, v = .int z ∧ Kb hh F F2 ∧ HandAt F2 hh ca ∧ 0 ≤ z ∧ z ≤ 2000000000 + 4 * (i + 1 : Int)) (fun Q5 k5 => ?_) fun v F2 hv => ?_
                · refine pl_cb2 (ev_c _ (pl_op (pl_op ((ev_ixn (ev_var rfl) (ev_var rfl) (SqA.l hI.chg) (int_at (getD_at hil))) _ (ev_drawN (n := 7) hI.hd (by decide) (by decide) (ev_var rfl) ev_c _ fun v F2 hv => ?_)))))
                  obtain ⟨z, rfl, kb6, hH6, z1⟩ := hv
                  refine ⟨_, _, rfl, rfl, ev_c _ ⟨_, _, rfl, rfl, _, _, rfl, k5 _ _ ⟨_, rfl, kb6, hH6, ?_, ?_⟩⟩⟩
                  · split <;> omega
                  · split <;> omega
                · obtain ⟨z, rfl, kb6, hH6, z0, z1⟩ := hv
                  have hI2 := hI.hand kb6 hH6
                  exact ⟨cha, i, _, ev_var rfl, ev_var rfl, hI2.chg, by rw [List.length_map]; exact hil, _, _, rfl, hI2.put (by omega) z0 (by omega)⟩
              · exact ⟨ch, _, rfl, hI.up (by omega)⟩
            · obtain ⟨ch, o8, rfl, hI⟩ := hP
              exact hN _ _ ⟨ch, _, rfl, hI.up (by omega)⟩
          · exact hN _ _ ⟨ch0, _, rfl, hI0.up (by decide)⟩
end
end K15
namespace K15
open PySem PySem.Spec PyProof.Rows L2 RZ
/-! ### made, run, ends, shortest -/
def sp_w_run (_ : Ad) : Sp := fun vs H Q _ => ∃ (hh ca c : Addr) (M : Mt) (most : Nat), vs = [.ref hh, .ref c, nv most] ∧ HandAt H hh ca ∧ LC H c M.costs M.arrows ∧ M.Ok ∧ most ≤ 400 ∧ ∀ H' q ks v, Kb hh H H' → HandAt H' hh ca → NL H' q ks → q ≠ hh → ks.length ≤ 400 → Wk M.E 0 ks v → Q (.ref q) H'
def sp_w_ends (_ : Ad) : Sp := fun vs H Q _ => ∃ (m r : Addr) (M : Mt) (ks : List Nat) (v : Nat), vs = [.ref m, .ref r] ∧ LM H m M ∧ M.Ok ∧ Sq H r (ks.map nv) ∧ Wk M.E 0 ks v ∧ Q (nv v) H
def sp_w_shortest (_ : Ad) : Sp := fun vs H Q _ => ∃ (c : Addr) (M : Mt) (p : Nat), vs = [.ref c, nv p] ∧ LC H c M.costs M.arrows ∧ M.Ok ∧ p < M.n ∧ ∀ H' q ks, Same H H' → NT H' q ks → ks.length ≤ 16 → Wk M.E 0 ks p → Q (.ref q) H'
section
variable {K : PySem.W.Frag} {σ : L2.St} {H : Hp} {ta tb tc : TE} {A : Ad} {mg : Str → Option Value}
theorem ev_isInt {i : Int} (ha : EvE ta σ H (.int i)) : EvE (tCB (rIsi K) (tCons ta (tCons (tC (.ty "int")) tNil))) σ H (.bl true) := fun Q q => ha _ ⟨.int i, .ty "int", .type "int", .type "int", true, rfl, .ty _, .base (.int i), kit_ty (by decide +kernel), q⟩
theorem ev_inB {i lo hi : Int} (hb : EvE tb σ H (.int i)) (ha : EvE ta σ H (.int lo)) (hc : EvE tc σ H (.int hi)) (h1 : lo ≤ i) (h2 : i < hi) : EvE (tChain rLeI rLtI ta tb tc) σ H (.bl true) :=
  (ev_chain (k := decide (lo ≤ i)) (l := decide (i < hi)) ha hb (fun _ q => ⟨_, _, rfl, rfl, q⟩) (fun _ => hc) (fun _ _ q => ⟨_, _, rfl, rfl, q⟩)).is (by rw [decide_eq_true h1, decide_eq_true h2]; rfl)
theorem ev_take {hh ca r : Addr} {xs : List V} (hH : HandAt H hh ca) (hr : H r = some (.tup xs)) (ha : EvE ta σ H (.ref hh)) (hb : EvE tb σ H (.ref r)) : EvR (tCall (sp_w_take A) [] E0 (tCons ta (tCons tb tNil))) σ H (fun v H' => ∃ q, v = .ref q ∧ Kb hh H H' ∧ HandAt H' hh ca ∧ Sq H' q xs) :=
  ev_callR (ea_cons ha (ea_cons hb ea_nil)) fun Q k => ⟨hh, ca, r, xs, rfl, hH, hr, fun H' q kb hH' hs => k _ _ ⟨q, rfl, kb, hH', hs⟩⟩
theorem ev_last {c r : Addr} {M : Mt} {ks : List Nat} {v : Nat} (hc : LC H c M.costs M.arrows) (hr : Sq H r (ks.map nv)) (hw : Wk M.E 0 ks v) (ha : EvE ta σ H (.ref c)) (hb : EvE tb σ H (.ref r)) : EvE (tCall (sp_w_last A) [] E0 (tCons ta (tCons tb tNil))) σ H (nv v) :=
  ev_call (ea_cons ha (ea_cons hb ea_nil)) fun Q q => ⟨c, r, M, ks, v, rfl, hc, hr, hw, q⟩
end
section
variable {P : Program} {w : World} {K : PySem.W.Frag} {mg : Str → Option Value} {base : Heap} {A : Ad} (T : Txt K mg A)
include T
theorem ok_w_made (d : Df K mg "_law_made" s_w_made ["_law_hand_here", "_law_meter_here"]) (c_w_take : Cal P w K mg base 3 "_law_take" ["_law_hand_here", "_law_row"] (sp_w_take A)) (c_ChartInit : CalC P w K mg base 2 "Chart" A.ch ["self", "costs", "arrows"] (sp_ChartInit A))
    (c_MeterInit : CalC P w K mg base 2 "Meter" A.me ["self", "chart", "first", "charges"] (sp_MeterInit A)) : Cal P w K mg base 4 "_law_made" ["_law_hand_here", "_law_meter_here"] (sp_w_made A) := by
  refine d.ok sc_w_made (fun vs H Q E h => ?_) (fun f cdv A' outer s H vs Q E hr h => ?_)
  · obtain ⟨hh, ca, m, M, rfl, _⟩ := h
    rfl
  · obtain ⟨hh, ca, m, M, rfl, hH, hm, ok, q⟩ := h
    refine ⟨_, (pss_one (ps_ret (pe_mkcal c_MeterInit hr (by rfl) (pa_cons (pe_mkcal c_ChartInit hr (by rfl) (pa_cons (pe_cal c_w_take hr (by rfl) (pa_cons (pv 0) (pa_cons (pe_ix ix_any (pv 1) pe_int (fun _ _ => rfl)) pa_nil))) (pa_cons (pe_cal c_w_take hr (by rfl) (pa_cons (pv 0) (pa_cons (pe_ix ix_any (pv 1) pe_int (fun _ _ => rfl)) pa_nil))) pa_nil))) (pa_cons (pe_ix ix_any (pv 1) pe_int (fun _ _ => rfl)) (pa_cons (pe_cal c_w_take hr (by rfl) (pa_cons (pv 0) (pa_cons (pe_ix ix_any (pv 1) pe_int (fun _ _ => rfl)) pa_nil))) pa_nil)))))), ?_⟩
    refine pl_ret (pl_make (pl_cons (pl_make (pl_cons ?_))))
    obtain ⟨pc, hpc, hpct⟩ := rd_lm0 (K := K) (σ := L2.start ["_law_hand_here", "_law_meter_here"] [.ref hh, .ref m]) (ta := tVar 1) hm (ev_var rfl)
    refine ev_take hH hpct (ev_var rfl) hpc _ fun v H1 hv => ?_
    obtain ⟨qc, rfl, kb1, hH1, hqc⟩ := hv
    have hm1 := hm.kb hH kb1
    obtain ⟨pa, ps, hpa, hpt, hpe⟩ := rd_lm1 (K := K) (H := H1) (σ := L2.start ["_law_hand_here", "_law_meter_here"] [.ref hh, .ref m]) (ta := tVar 1) hm1 (ev_var rfl)
    refine pl_cons ?_
    have hqh : qc ≠ hh := by
      rcases hqc with e | e
      · refine hH1.ne e fun i j k c z => ?_
        have := congrArg List.head? z
        rw [List.head?_map] at this
        cases M.costs with
        | nil => simp at this
        | cons a b => simp at this
      · obtain ⟨xs, hx⟩ := hH1.lst
        exact ne_of e hx (by intro e; cases e)
    refine ev_take hH1 hpt (ev_var rfl) hpa _ fun v H2 hv => ?_
    obtain ⟨qa, rfl, kb2, hH2, hqa⟩ := hv
    have hqc2 : Sq H2 qc (M.costs.map V.int) := hqc.elim (fun e => .inl (kb2 _ _ hqh e)) fun e => .inr (kb2 _ _ hqh e)
    have hpe2 : Each (PairAt H2) ps M.arrows := hpe.mono fun p y e => hH1.tup kb2 e
    have hm2 := hm1.kb hH1 kb2
    -- Chart(..)
    intro x dx nx ndx nex
    have s3 : Same H2 (upd (upd H2 dx (.own x)) x (.ins A.ch dx [])) := (same_upd ndx).new (by rw [upd_ne nex.symm]; exact nx)
    refine ⟨x, dx, qc, qa, M.costs, ps, M.arrows, rfl, upd_same, hqc2.s s3, hqa.s s3, hpe2.mono fun p y e => s3 _ _ e, ok.ch, ok.cs, ok.re, fun H3 hk3 hC => ⟨rfl, ?_⟩⟩
    have s23 : Same H2 H3 := made_same nx ndx hk3
    have hH3 := hH2.s s23
    have hm3 := hm2.s s23
    refine pl_cons (rd_lm2 hm3 (ev_var rfl) _ (pl_cons ?_))
    obtain ⟨pg, hpg, hpgt⟩ := rd_lm3 (K := K) (H := H3) (σ := L2.start ["_law_hand_here", "_law_meter_here"] [.ref hh, .ref m]) (ta := tVar 1) hm3 (ev_var rfl)
    refine ev_take hH3 hpgt (ev_var rfl) hpg _ fun v H4 hv => ?_
    obtain ⟨qg, rfl, kb4, hH4, hqg⟩ := hv
    have hC4 : ChartAt A H4 x M.costs M.arrows := hC.kf (hH3.kf kb4)
    intro y dy ny ndy ney
    have s5 : Same H4 (upd (upd H4 dy (.own y)) y (.ins A.me dy [])) := (same_upd ndy).new (by rw [upd_ne ney.symm]; exact ny)
    refine ⟨y, dy, x, qg, M, rfl, upd_same, hC4.s s5, hqg.s s5, ok.f0, ok.f1, ok.len, ok.ch.a32, ok.cg, fun H5 hk5 hM => ⟨rfl, ?_⟩⟩
    have s45 : Same H4 H5 := made_same ny ndy hk5
    exact q H5 y (((kb1.trans kb2).trans (Kb.of s23)).trans (kb4.trans (Kb.of s45))) (hH4.s s45) hM
theorem ok_w_ends (d : Df K mg "_law_ends" s_w_ends ["_law_meter_here", "_law_run_here"]) : Cal P w K mg base 1 "_law_ends" ["_law_meter_here", "_law_run_here"] (sp_w_ends A) := by
  refine d.ok sc_w_ends (fun vs H Q E h => ?_) (fun f cdv A' outer s H vs Q E hr h => ?_)
  · obtain ⟨m, r, M, ks, v, rfl, _⟩ := h
    rfl
  · obtain ⟨m, r, M, ks, v, rfl, hm, ok, hks, hwk, q⟩ := h
    refine ⟨_, (pss_cons (ps_set (i := 2) sc_w_ends.nd rfl (.inl rfl) pe_int)
    (pss_cons (ps_for PassesOwn.never rfl (pi_seq (pv 1)) (pg_name (i := 3) sc_w_ends.nd rfl (.inl rfl)) (pss_cons (ps_if (PW.pt (pw_or (pt_not (pt_val (pe_callB call_isi (by rfl) T.z_isinstance (by decide +kernel) (pa_cons (pv 3) (pa_cons (pe_bltn (v := .ty "int") (by rfl) T.z_int (by decide +kernel) rfl) pa_nil))))) (pw_or (pt_not (pt_chain op_leI op_ltI pe_int (pv 3) (pe_callB cr_len (by rfl) T.z_len (by decide +kernel) (pa_cons (pe_ix ix_any (pv 0) pe_int (fun _ _ => rfl)) pa_nil)))) (pw_or1 (pt_cmpR op_ne (pe_ix ix_any (pe_ix ix_any (pe_ix ix_any (pv 0) pe_int (fun _ _ => rfl)) (pv 3) (fun _ _ => rfl)) pe_int (fun _ _ => rfl)) (pv 2) (nomark _)))))) (pss_one (ps_ret pe_non)) pss_nil)
    (pss_one (ps_set (i := 2) sc_w_ends.nd rfl (.inl rfl) (pe_ix ix_any (pe_ix ix_any (pe_ix ix_any (pv 0) pe_int (fun _ _ => rfl)) (pv 3) (fun _ _ => rfl)) pe_int (fun _ _ => rfl))))))
    (pss_one (ps_ret (pv 2))))), ?_⟩
    refine sq_set ev_c (pl_seq ?_)
    refine rd_forSeq (ev_var rfl).r fun u H1 hv => ?_
    obtain ⟨rfl, rfl⟩ := hv
    refine ⟨r, ks.map nv, rfl, hks.a, fun i σ' H' => ∃ (o3 : Option V) (p : Nat), σ' = [some (.ref m), some (.ref r), some (nv p), o3] ∧ H' = H ∧ Wk M.E 0 (ks.take i) p, ⟨_, 0, rfl, rfl, .nil _⟩, fun i σ' H' p => by obtain ⟨_, _, _, rfl, _⟩ := p; exact fun o e => e, ?_, ?_⟩
    · rintro i x σ' H' hi ⟨o3, p, rfl, rfl, hw⟩
      have hil : i < ks.length := by
        have := (List.getElem?_eq_some_iff.mp hi).1
        rwa [List.length_map] at this
      have hk : ks[i]? = some ks[i] := List.getElem?_eq_getElem hil
      have ex : x = nv ks[i] := Option.some.inj (hi.symm.trans (nat_at hk))
      subst ex
      have hsplit : ks = ks.take i ++ ks[i] :: ks.drop (i + 1) := by
        rw [← List.drop_eq_getElem_cons hil, List.take_append_drop]
      have hwk' := hwk
      rw [hsplit] at hwk'
      obtain ⟨x, hwa, hwb⟩ := hwk'.split
      have hxp : x = p := hwa.det hw
      subst hxp
      cases hwb with
      | @cons _ hd _ _ g _ e _ =>
        obtain ⟨e1, cc, e2, e3⟩ := Mt.E_inv e
        have hkl := (List.getElem?_eq_some_iff.mp e1).1
        have htk : ks.take (i + 1) = ks.take i ++ [ks[i]] := by rw [List.take_add_one, hk]; rfl
        obtain ⟨pa, ps, hpa, hpt, hpe⟩ := rd_lm1 (K := K) (H := H') (σ := [some (.ref m), some (.ref r), some (nv x), some (nv ks[i])]) (ta := tVar 0) hm (ev_var rfl)
        refine sq_never ((et_or (b := false) (c := false) (et_not (et_B (ev_isInt (ev_var rfl)))) fun _ => (et_or (b := false) (c := false) (et_not (et_test (ev_inB (ev_var rfl) ev_c (ev_len hpa (SqA.t hpt)) (by omega) (by rw [List.length_map, hpe.1]; omega)))) fun _ => (et_test (ev_ne (rd_lmtail hm (ev_var rfl) (ev_var rfl) e1) (ev_var rfl) rfl)).is (by simp [nv])).is rfl).is rfl) ?_
        refine sx_set (rd_lmhead hm (ev_var rfl) (ev_var rfl) e1) ?_
        refine ⟨_, hd, rfl, rfl, ?_⟩
        rw [htk]
        exact hw.snoc e
    · rintro σ' H' ⟨o3, p, rfl, rfl, hw⟩
      rw [List.length_map, List.take_length] at hw
      have : p = v := hw.det hwk
      subst this
      exact pl_nx (pl_ret (ev_var rfl _ q))
theorem ok_w_run (d : Df K mg "_law_run" s_w_run ["_law_hand_here", "_law_chart", "_law_most"]) (c_w_draw : Cal P w K mg base 2 "_law_draw" ["_law_hand_here", "_law_many"] (sp_w_draw A)) : Cal P w K mg base 3 "_law_run" ["_law_hand_here", "_law_chart", "_law_most"] (sp_w_run A) := by
  refine d.ok sc_w_run (fun vs H Q E h => ?_) (fun f cdv A' outer s H vs Q E hr h => ?_)
  · obtain ⟨hh, ca, c, M, most, rfl, _⟩ := h
    rfl
  · obtain ⟨hh, ca, c, M, most, rfl, hH, hc, ok, hmost, q⟩ := h
    have h32 := ok.ch.a32
    refine ⟨_, (pss_cons (ps_set (i := 3) sc_w_run.nd rfl (.inl rfl) (pe_lst pa_nil))
    (pss_cons (ps_set (i := 4) sc_w_run.nd rfl (.inr rfl) pe_int)
    (pss_cons (ps_for PassesOwn.never rfl (pi_range1 (by rfl) T.z_range (pa_cons (pe_cal c_w_draw hr (by rfl) (pa_cons (pv 0) (pa_cons (pe_op op_addI (pv 2) pe_int) pa_nil))) pa_nil)) (pg_name (i := 5) sc_w_run.nd rfl (.inl rfl)) (pss_cons (ps_setLc (i := 6) (own := [("_law_j", 7)]) (g := (gName 7)) (tt := (tTest (tOp rEq (tOp (rIxA K) (tOp (rIxA K) (tOp (rIxA K) (tVar 1) (tC (.int 1))) (tVar 7)) (tC (.int 0))) (tVar 4)))) (te := (tVar 7)) rfl sc_w_run.nd rfl rfl (sw_true rfl rfl rfl (by decide +kernel)) (pi_range1 (by rfl) T.z_range (pa_cons (pe_callB cr_len (by rfl) T.z_len (by decide +kernel) (pa_cons (pe_ix ix_any (pv 1) pe_int (fun _ _ => rfl)) pa_nil)) pa_nil)) (blkOk_by (N := ["_law_hand_here", "_law_chart", "_law_most", "_law_run_here", "_law_place", "_law_k", "_law_outs", "_law_j"]) (own := [("_law_j", 7)]) (sc := defScope s_w_run) (by decide +kernel)) (fun _ _ _ _ _ => (pg_name (i := 7) sc_w_run.nd rfl (.inl rfl))) (fun _ _ _ _ _ => (pts_one (pt_cmpR op_eq (pe_ix ix_any (pe_ix ix_any (pe_ix ix_any (pv 1) pe_int (fun _ _ => rfl)) (pv 7) (fun _ _ => rfl)) pe_int (fun _ _ => rfl)) (pv 4) (nomark _)))) (fun _ _ _ _ _ => (pv 7)))
    (pss_cons (ps_if (pt_not (pt_tru (pv 6) (by intro _; rfl))) (pss_one (ps_ret (pv 3))) pss_nil)
    (pss_cons (ps_expr (pe_bm PySem.F.plainAttrs_list PySem.F.slot_list_append PySem.F.type_list_append mt_append (pv 3) (pa_cons (pe_ix ix_any (pv 6) (pe_cal c_w_draw hr (by rfl) (pa_cons (pv 0) (pa_cons (pe_callB cr_len (by rfl) T.z_len (by decide +kernel) (pa_cons (pv 6) pa_nil)) pa_nil))) (fun _ _ => rfl)) pa_nil)))
    (pss_one (ps_set (i := 4) sc_w_run.nd rfl (.inr rfl) (pe_ix ix_any (pe_ix ix_any (pe_ix ix_any (pv 1) pe_int (fun _ _ => rfl)) (pe_ix ix_any (pv 3) (pe_un un_negI pe_int) (fun _ _ => rfl)) (fun _ _ => rfl)) pe_int (fun _ _ => rfl))))))))
    (pss_one (ps_ret (pv 3)))))), ?_⟩
    refine pl_seq (pl_set ⟨Nat.zero_le _, fun ra hra => ?_⟩)
    obtain ⟨hrh, hrc⟩ := hH.apart hra
    have s0 : Same H (upd H ra (.lst [])) := same_upd hra
    have hr0 : NL (upd H ra (.lst [])) ra [] := upd_same
    have hH0 := hH.s s0
    generalize upd H ra (.lst []) = H0 at s0 hr0 hH0
    refine pl_nx (sq_set ev_c (pl_seq ?_))
    refine rd_forRng1X (Pc := fun n H1 => n ≤ 400 ∧ Kb hh H H1 ∧ HandAt H1 hh ca ∧ NL H1 ra []) (fun Q5 k5 => ?_) fun n H1 hm => ?_
    · refine pl_cons (ev_drawN (n := most + 1) hH0 (by omega) (by omega) (ev_var rfl) ((ev_add (a := (most : Int)) (ev_var rfl) ev_c).is (congrArg V.int (by omega))) _ fun v H1 hv => ?_)
      obtain ⟨z, rfl, kb, hH1, z1⟩ := hv
      exact ea_nil _ (k5 _ _ ⟨z, rfl, by omega, by omega, (Kb.of s0).trans kb, hH1, kb _ _ hrh hr0⟩)
    · obtain ⟨hn, kb1, hH1, hr1⟩ := hm
      refine ⟨fun i σ' G => ∃ (ks : List Nat) (p : Nat) (o5 o6 o7 : Option V), σ' = [some (.ref hh), some (.ref c), some (nv most), some (.ref ra), some (nv p), o5, o6, o7] ∧ Kb hh H G ∧ HandAt G hh ca ∧ NL G ra ks ∧ ks.length ≤ i ∧ Wk M.E 0 ks p ∧ p < M.n,
        ⟨[], 0, _, _, _, rfl, kb1, hH1, hr1, Nat.le_refl _, .nil _, ok.ch.n1⟩, fun i σ' G hi hP => ?_, fun σ' G hP => ?_⟩
      · obtain ⟨ks, p, o5, o6, o7, rfl, kb, hHG, hrG, hkl, hw, hp⟩ := hP
        have hcG := hc.kb hH kb
        obtain ⟨pa, ps, hpa, hpt, hpe⟩ := rd_lc1 (K := K) (H := G) (σ := [some (.ref hh), some (.ref c), some (nv most), some (.ref ra), some (nv p), some (nv i), o6, o7]) (ta := tVar 1) hcG (ev_var rfl)
        refine pl_seq (pl_set ?_)
        refine rd_lcFmR (n := M.arrows.length) (ea_cons ((ev_len hpa (SqA.t hpt)).is (by rw [List.length_map, hpe.1])) ea_nil) (by omega) (fun _ x => match x with | .int z => if decide ((M.arrows.getD z.toNat (0, 0)).1 = p) = true then some x else none | _ => none) (fun _ => rfl) (fun k G2 hk s3 => ?_) (fun k y G2 hk hy s3 => ?_) (fun L G2 hL0 s3 hL => ?_)
        · have hke : M.arrows[k]? = some (M.arrows.getD k (0, 0)) := by rw [List.getD_eq_getElem?_getD, List.getElem?_eq_getElem hk]; rfl
          refine ((et_test (ev_eq (rd_ltail (t := (M.arrows.getD k (0, 0)).1) (h := (M.arrows.getD k (0, 0)).2) (hcG.s s3) (ev_var rfl) (ev_var rfl) hke) (ev_var rfl) rfl)).is ?_).s
          show _ = (if decide ((M.arrows.getD ((k : Int)).toNat (0, 0)).1 = p) = true then some (nv k) else none).isSome
          rw [Int.toNat_natCast]
          by_cases h : (M.arrows.getD k (0, 0)).1 = p
          · rw [if_pos (decide_eq_true h), h]
            simp [nv]
          · rw [if_neg (by rw [decide_eq_false h]; decide)]
            have : ¬ ((M.arrows.getD k (0, 0)).1 : Int) = (p : Int) := by omega
            exact decide_eq_false (fun e => this (V.int.inj e))
        · have hy2 : (if decide ((M.arrows.getD ((k : Int)).toNat (0, 0)).1 = p) = true then some (nv k) else none) = some y := hy
          by_cases h : (M.arrows.getD ((k : Int)).toNat (0, 0)).1 = p
          · rw [if_pos (decide_eq_true h)] at hy2
            cases hy2
            exact (ev_var rfl).s
          · rw [if_neg (by rw [decide_eq_false h]; decide)] at hy2
            cases hy2
        · have hLo : NL G2 L (outs M.arrows p) := by
            have := fmI_filter (fun k => decide ((M.arrows.getD k (0, 0)).1 = p)) (List.range M.arrows.length) 0
            show G2 L = _
            rw [hL]
            exact congrArg (fun l => some (HO.lst l)) this
          have hHG2 := hHG.s s3
          have hrG2 := s3 _ _ hrG
          have hLr : L ≠ ra := (ne_of_none hrG hL0).symm
          obtain ⟨hLh, hLc⟩ := hHG.apart hL0
          refine pl_nx ?_
          refine sq_if (et_not (et_tru (ev_var rfl) (tru_seq (SqA.l hLo)))) (fun hb => ?_) (fun hb => ?_)
          · exact sx_ret (ev_var rfl) (q G2 ra ks p (kb.trans (Kb.of s3)) hHG2 hrG2 hrh (by omega) hw)
          · have hne : 0 < (outs M.arrows p).length := by
              cases ho : outs M.arrows p with
              | nil => rw [ho] at hb; simp at hb
              | cons a b => simp
            have hol : (outs M.arrows p).length ≤ 32 := Nat.le_trans (outsUp_len _ _ _) h32
            refine pl_nx (pl_seq (pl_drop (pl_bm (ev_var rfl _ ⟨tyl hrG2, pl_cons (pl_op (ev_var rfl _ ?_))⟩))))
            refine ev_drawN (n := (outs M.arrows p).length) hHG2 hne (by omega) (ev_var rfl) ((ev_len (ev_var rfl) (SqA.l hLo)).is (by rw [List.length_map])) _ fun v G3 hv => ?_
            obtain ⟨z, rfl, kb4, hH4, z1⟩ := hv
            have hzk : (outs M.arrows p)[z]? = some (outs M.arrows p)[z] := List.getElem?_eq_getElem z1
            have hmk : (outs M.arrows p)[z] ∈ outs M.arrows p := List.getElem_mem z1
            generalize (outs M.arrows p)[z] = k at hzk hmk
            obtain ⟨hd, har⟩ := mem_outs.mp hmk
            obtain ⟨t', hd', cc, ha1, hc1, ht, hhd, hE⟩ := ok.at (List.getElem?_eq_some_iff.mp har).1
            rw [har] at ha1
            cases ha1
            have hrG3 := kb4 _ _ hrh hrG2
            refine ⟨L, _, _, _, rfl, rfl, SqA.l (kb4 _ _ hLh hLo), atI_nat (nat_at hzk), ?_⟩
            refine ⟨ra, _, _, rfl, rfl, hrG3, ?_, ?_⟩
            · rw [List.length_map]
              exact Nat.lt_of_lt_of_le (show ks.length < 1000 by omega) (by decide)
            · have kb5 : Kb hh H (upd G3 ra (.lst (ks.map nv ++ [V.int (k : Int)]))) := ((kb.trans (Kb.of s3)).trans kb4).mut hra
              have hH5 : HandAt (upd G3 ra (.lst (ks.map nv ++ [V.int (k : Int)]))) hh ca := hH4.mut hrh hrc
              have hr5 : NL (upd G3 ra (.lst (ks.map nv ++ [V.int (k : Int)]))) ra (ks ++ [k]) := by
                show (upd G3 ra _) ra = _
                rw [upd_same, List.map_append]
                rfl
              generalize upd G3 ra (.lst (ks.map nv ++ [V.int (k : Int)])) = G5 at kb5 hH5 hr5
              have hne5 : ks ++ [k] ≠ [] := by simp
              have hl5 : (ks ++ [k]).getLast hne5 = k := by simp
              refine pl_nx (sx_set (rd_lhead (hc.kb hH kb5) (ev_var rfl) (ev_ix (ev_var rfl) (ev_neg ev_c) (SqA.l hr5) (by rw [last_at hne5, hl5]; rfl)) har) ?_)
              exact ⟨ks ++ [k], hd, _, _, _, rfl, kb5, hH5, hr5, by rw [List.length_append, List.length_singleton]; omega, hw.snoc hE, hhd⟩
      · obtain ⟨ks, p, o5, o6, o7, rfl, kb, hHG, hrG, hkl, hw, hp⟩ := hP
        exact pl_nx (pl_ret (ev_var rfl _ (q G ra ks p kb hHG hrG hrh (by omega) hw)))
end
end K15
namespace K15
open PySem PySem.Spec PyProof.Rows L2 RZ
/-! ### shortest -/
theorem fmI_filterK {α : Type} (g : α → V) (p : α → Bool) (F : Nat → V → Option V) : ∀ (es : List α) (k : Nat), (∀ (i : Nat) e, es[i]? = some e → F (k + i) (g e) = if p e = true then some (g e) else none) → fmI F k (es.map g) = (es.filter p).map g
  | [], _, _ => rfl
  | e :: es, k, h => by
    have h0 := h 0 e rfl
    rw [Nat.add_zero] at h0
    show (F k (g e)).toList ++ fmI F (k + 1) (es.map g) = _
    rw [h0, fmI_filterK g p F es (k + 1) (fun i e' hi => by rw [show k + 1 + i = k + (i + 1) by omega]; exact h (i + 1) e' hi), List.filter_cons]
    by_cases hp : p e = true
    · rw [if_pos hp, if_pos hp]; rfl
    · rw [if_neg hp, if_neg hp]; rfl
section
variable {P : Program} {w : World} {K : PySem.W.Frag} {mg : Str → Option Value} {base : Heap} {A : Ad} (T : Txt K mg A)
include T
theorem ok_w_shortest (d : Df K mg "_law_shortest" s_w_shortest ["_law_chart", "_law_place"]) (c_w_last : Cal P w K mg base 1 "_law_last" ["_law_chart", "_law_run_here"] (sp_w_last A)) : Cal P w K mg base 2 "_law_shortest" ["_law_chart", "_law_place"] (sp_w_shortest A) := by
  refine d.ok sc_w_shortest (fun vs H Q E h => ?_) (fun f cdv A' outer s H vs Q E hr h => ?_)
  · obtain ⟨c, M, p, rfl, _⟩ := h
    rfl
  · obtain ⟨c, M, p, rfl, hc, ok, hp, q⟩ := h
    have hn16 : M.n ≤ 16 := ok.ch.n16
    have hn1 : 1 ≤ M.n := ok.ch.n1
    have h32 := ok.ch.a32
    refine ⟨_, (pss_cons (ps_set (i := 2) sc_w_shortest.nd rfl (.inl rfl) (pe_lst (pa_cons (pe_tup pa_nil) pa_nil)))
    (pss_cons (ps_set (i := 3) sc_w_shortest.nd rfl (.inl rfl) (pe_lst (pa_cons pe_int pa_nil)))
    (pss_cons (ps_set (i := 4) sc_w_shortest.nd rfl (.inl rfl) pe_int)
    (pss_cons (ps_while PassesOwn.never (PW.pt (pw_and (pt_cmpR op_ltI (pv 4) (pe_callB cr_len (by rfl) T.z_len (by decide +kernel) (pa_cons (pv 2) pa_nil)) (nomark _)) (pw_and1 (pt_cmpR op_ltI (pv 4) pe_int (nomark _))))) (pss_cons (ps_set (i := 5) sc_w_shortest.nd rfl (.inl rfl) (pe_cal c_w_last hr (by rfl) (pa_cons (pv 0) (pa_cons (pe_ix ix_any (pv 2) (pv 4) (fun _ _ => rfl)) pa_nil))))
    (pss_cons (ps_for PassesOwn.never rfl (pi_range1 (by rfl) T.z_range (pa_cons (pe_callB cr_len (by rfl) T.z_len (by decide +kernel) (pa_cons (pe_ix ix_any (pv 0) pe_int (fun _ _ => rfl)) pa_nil)) pa_nil)) (pg_name (i := 6) sc_w_shortest.nd rfl (.inl rfl)) (pss_one (ps_if (PW.pt (pw_and (pt_cmpR op_eq (pe_ix ix_any (pe_ix ix_any (pe_ix ix_any (pv 0) pe_int (fun _ _ => rfl)) (pv 6) (fun _ _ => rfl)) pe_int (fun _ _ => rfl)) (pv 5) (nomark _)) (pw_and1 (pt_cmpR op_notIn_seq (pe_ix ix_any (pe_ix ix_any (pe_ix ix_any (pv 0) pe_int (fun _ _ => rfl)) (pv 6) (fun _ _ => rfl)) pe_int (fun _ _ => rfl)) (pv 3) (by rfl))))) (pss_cons (ps_expr (pe_bm PySem.F.plainAttrs_list PySem.F.slot_list_append PySem.F.type_list_append mt_append (pv 3) (pa_cons (pe_ix ix_any (pe_ix ix_any (pe_ix ix_any (pv 0) pe_int (fun _ _ => rfl)) (pv 6) (fun _ _ => rfl)) pe_int (fun _ _ => rfl)) pa_nil)))
    (pss_one (ps_expr (pe_bm PySem.F.plainAttrs_list PySem.F.slot_list_append PySem.F.type_list_append mt_append (pv 2) (pa_cons (pe_op op_catA (pe_ix ix_any (pv 2) (pv 4) (fun _ _ => rfl)) (pe_tup (pa_cons (pv 6) pa_nil))) pa_nil))))) pss_nil)))
    (pss_one (ps_set (i := 4) sc_w_shortest.nd rfl (.inl rfl) (pe_op op_addI (pv 4) pe_int))))))
    (pss_one (ps_ret (pe_ix ix_any (pe_lc (own := [("_law_run_here", 7)]) (g := (gName 7)) (tt := (tTest (tOp rEq (tCall (sp_w_last A) [] E0 (tCons (tVar 0) (tCons (tVar 7) tNil))) (tVar 1)))) (te := (tVar 7)) rfl sc_w_shortest.nd (pi_seq (pv 2)) (blkOk_by (N := ["_law_chart", "_law_place", "_law_told", "_law_seen", "_law_at", "_law_last_here", "_law_k", "_law_run_here"]) (own := [("_law_run_here", 7)]) (sc := defScope s_w_shortest) (by decide +kernel)) (fun _ _ _ _ _ => (pg_name (i := 7) sc_w_shortest.nd rfl (.inl rfl))) (fun _ _ _ _ _ => (pts_one (pt_cmpR op_eq (pe_cal c_w_last hr (by rfl) (pa_cons (pv 0) (pa_cons (pv 7) pa_nil))) (pv 1) (nomark _)))) (fun _ _ _ _ _ => (pv 7))) pe_int (fun _ _ => rfl)))))))), ?_⟩
    -- told = [()]
    refine pl_seq (pl_set (pl_lst (pl_cons (pl_tup ⟨Nat.zero_le _, fun t0 ht0 => ?_⟩))))
    have s1 : Same H (upd H t0 (.tup [])) := same_upd ht0
    have ht1 : NT (upd H t0 (.tup [])) t0 [] := upd_same
    generalize upd H t0 (.tup []) = H1 at s1 ht1
    refine ⟨by show 1 ≤ sizeLine; decide, fun dk hdk1 => ?_⟩
    have hdk : H dk = none := s1.free hdk1
    have s2 : Same H (upd H1 dk (.lst [.ref t0])) := s1.new hdk1
    have hd2 : (upd H1 dk (.lst [.ref t0])) dk = some (.lst ([((0 : Nat), t0, ([] : List Nat))].map fun e => V.ref e.2.1)) := upd_same
    have ht2 : NT (upd H1 dk (.lst [.ref t0])) t0 [] := (same_upd hdk1) _ _ ht1
    generalize upd H1 dk (.lst [.ref t0]) = H2 at s2 hd2 ht2
    refine pl_nx (pl_seq (pl_set (pl_lst (pl_cons (ev_c _ ⟨by show 1 ≤ sizeLine; decide, fun l hl2 => ?_⟩)))))
    have s3 : Same H2 (upd H2 l (.lst [.int 0])) := same_upd hl2
    have hl3 : (upd H2 l (.lst [.int 0])) l = some (.lst ([((0 : Nat), t0, ([] : List Nat))].map fun e => nv e.1)) := upd_same
    have hd3 := s3 _ _ hd2
    have ht3 : NT (upd H2 l (.lst [.int 0])) t0 [] := s3 _ _ ht2
    have hl : H l = none := s2.free hl2
    have hld : l ≠ dk := (ne_of_none hd2 hl2).symm
    have s23 := s2.trans s3
    generalize upd H2 l (.lst [.int 0]) = H3 at s23 hl3 hd3 ht3
    refine pl_nx (sq_set ev_c (pl_seq ?_))
    refine rd_while (fun m σ' G => ∃ (es : List Kn) (i : Nat) (o5 o6 : Option V), σ' = [some (.ref c), some (nv p), some (.ref dk), some (.ref l), some (nv i), o5, o6, none] ∧ m = M.n - i ∧ Same H G ∧ G dk = some (.lst (es.map fun e => V.ref e.2.1)) ∧ G l = some (.lst (es.map fun e => nv e.1)) ∧
        (∀ e ∈ es, NT G e.2.1 e.2.2 ∧ Wk M.E 0 e.2.2 e.1 ∧ e.2.2.length < es.length ∧ e.1 < M.n) ∧ (es.map (·.1)).Nodup ∧ i ≤ es.length ∧ 0 ∈ es.map (·.1) ∧ ∀ e ∈ es.take i, ∀ (k h : Nat), M.arrows[k]? = some (e.1, h) → h ∈ es.map (·.1))
      ⟨M.n, [(0, t0, [])], 0, _, _, rfl, rfl, s23, hd3, hl3, fun e he => by rw [List.mem_singleton.mp he]; exact ⟨ht3, .nil _, Nat.zero_lt_one, hn1⟩, by simp, Nat.zero_le _, by simp, fun e he => by simp at he⟩ ?_
    rintro m0 σ' G ⟨es, i, o5, o6, rfl, rfl, s, hd, hls, hes, hnd, hi, h0, hcl⟩
    have hesn : es.length ≤ M.n := by
      have := nodup_le M.n 0 hnd (fun x hx => by
        obtain ⟨e, he, rfl⟩ := List.mem_map.mp hx
        exact ⟨Nat.zero_le _, by rw [Nat.zero_add]; exact (hes e he).2.2.2⟩)
      rwa [List.length_map] at this
    refine ⟨decide ((i : Int) < ((es.map fun e => V.ref e.2.1).length : Int)) && decide ((i : Int) < 40), et_and (et_test (ev_lt (ev_var rfl) (ev_len (ev_var rfl) (SqA.l hd)))) fun _ => et_test (ev_lt (ev_var rfl) ev_c), fun hb => ?_, fun hb => ?_⟩
    · have hil : i < es.length := by
        rw [Bool.and_eq_true, decide_eq_true_eq, List.length_map] at hb
        omega
      have hei : es[i]? = some es[i] := List.getElem?_eq_getElem hil
      have hmem : es[i] ∈ es := List.getElem_mem hil
      generalize es[i] = e at hei hmem
      obtain ⟨tl, ta, tks⟩ := e
      obtain ⟨hN, hw, hkl, htl⟩ := hes _ hmem
      have hc1 := hc.s s
      refine sq_set (v := nv tl) (ev_last hc1 (.inr hN) hw (ev_var rfl) (ev_ixn (ev_var rfl) (ev_var rfl) (SqA.l hd) (by rw [List.getElem?_map, hei]; rfl))) (pl_seq ?_)
      obtain ⟨pa, ps, hpa, hpt, hpe⟩ := rd_lc1 (K := K) (H := G) (σ := [some (.ref c), some (nv p), some (.ref dk), some (.ref l), some (nv i), some (nv tl), o6, none]) (ta := tVar 0) hc1 (ev_var rfl)
      refine rd_forRng1 (n := M.arrows.length) (ea_cons ((ev_len hpa (SqA.t hpt)).is (by rw [List.length_map, hpe.1])) ea_nil) (by omega)
        (fun j σ' G' => ∃ (es' : List Kn) (o6 : Option V), σ' = [some (.ref c), some (nv p), some (.ref dk), some (.ref l), some (nv i), some (nv tl), o6, none] ∧ Same H G' ∧ G' dk = some (.lst (es'.map fun e => V.ref e.2.1)) ∧ G' l = some (.lst (es'.map fun e => nv e.1)) ∧
          (∀ e ∈ es', NT G' e.2.1 e.2.2 ∧ Wk M.E 0 e.2.2 e.1 ∧ e.2.2.length < es'.length ∧ e.1 < M.n) ∧ (es'.map (·.1)).Nodup ∧ (∃ more, es' = es ++ more) ∧ ∀ (k h : Nat), k < j → M.arrows[k]? = some (tl, h) → h ∈ es'.map (·.1))
        ⟨es, _, rfl, s, hd, hls, hes, hnd, ⟨[], (List.append_nil _).symm⟩, fun k h hk => by omega⟩ (fun j σ' G' hj hP => ?_) (fun σ' G' hP => ?_)
      · obtain ⟨es', o6, rfl, s5, hd5, hl5, hes5, hnd5, ⟨more, hmore⟩, hcl5⟩ := hP
        obtain ⟨t, hd', cc, har, hc1', ht, hh, hE⟩ := ok.at hj
        have hc5 := hc.s s5
        have hes5n : es'.length ≤ M.n := by
          have := nodup_le M.n 0 hnd5 (fun x hx => by
            obtain ⟨e, he, rfl⟩ := List.mem_map.mp hx
            exact ⟨Nat.zero_le _, by rw [Nat.zero_add]; exact (hes5 e he).2.2.2⟩)
          rwa [List.length_map] at this
        have hseen : SqA K G' l ((es'.map (·.1)).map nv) := by
          rw [List.map_map]
          exact SqA.l hl5
        have step : ∀ (es2 : List Kn), (∀ x ∈ es'.map (·.1), x ∈ es2.map (·.1)) → (t = tl → hd' ∈ es2.map (·.1)) → ∀ (k h : Nat), k < j + 1 → M.arrows[k]? = some (tl, h) → h ∈ es2.map (·.1) := fun es2 hsub hin k h hk ha => by
          by_cases hkj : k < j
          · exact hsub _ (hcl5 k h hkj ha)
          · have : k = j := by omega
            subst this
            rw [har] at ha
            cases ha
            exact hin rfl
        have hhead : EvE (tOp (rIxA K) (tOp (rIxA K) (tOp (rIxA K) (tVar 0) (tC (.int 1))) (tVar 6)) (tC (.int 1))) [some (.ref c), some (nv p), some (.ref dk), some (.ref l), some (nv i), some (nv tl), some (nv j), none] G' (nv hd') := rd_lhead hc5 (ev_var rfl) (ev_var rfl) har
        refine sx_if (et_and (et_test (ev_eq (rd_ltail hc5 (ev_var rfl) (ev_var rfl) har) (ev_var rfl) rfl)) fun _ => et_test (ev_notin hhead (ev_var rfl) hseen)) (fun hb => ?_) (fun hb => ?_)
        · rw [Bool.and_eq_true, decide_eq_true_eq, Bool.not_eq_true', decide_eq_false_iff_not] at hb
          obtain ⟨hb1, hnm⟩ := hb
          have htt : t = tl := by have := V.int.inj hb1; omega
          subst htt
          have hte : (t, ta, tks) ∈ es' := by rw [hmore]; exact List.mem_append_left _ hmem
          obtain ⟨hNt, hwt, hlt, _⟩ := hes5 _ hte
          have hlt : tks.length < es'.length := hlt
          -- seen.append(head)
          refine sq_app (v := nv hd') (ev_var rfl) hhead hl5 (by rw [List.length_map]; omega) ?_
          have hne : ∀ {b : Addr} {ys : List V}, G' b = some (.tup ys) → (upd G' l (.lst ((es'.map fun e => nv e.1) ++ [nv hd']))) b = some (.tup ys) := fun e => by
            rw [upd_ne (ne_of e hl5 (by intro e; cases e))]
            exact e
          have s6 : Same H (upd G' l (.lst ((es'.map fun e => nv e.1) ++ [nv hd']))) := s5.mut hl
          have hl6 : (upd G' l (.lst ((es'.map fun e => nv e.1) ++ [nv hd']))) l = some (.lst ((es'.map fun e => nv e.1) ++ [nv hd'])) := upd_same
          have hd6 : (upd G' l (.lst ((es'.map fun e => nv e.1) ++ [nv hd']))) dk = some (.lst (es'.map fun e => V.ref e.2.1)) := by rw [upd_ne hld.symm]; exact hd5
          have hes6 : ∀ e ∈ es', NT (upd G' l (.lst ((es'.map fun e => nv e.1) ++ [nv hd']))) e.2.1 e.2.2 := fun e he => hne (hes5 e he).1
          have hNt6 : NT (upd G' l (.lst ((es'.map fun e => nv e.1) ++ [nv hd']))) ta tks := hne hNt
          generalize upd G' l (.lst ((es'.map fun e => nv e.1) ++ [nv hd'])) = G6 at s6 hl6 hd6 hes6 hNt6
          have hei6 : (es'.map fun e => V.ref e.2.1)[i]? = some (V.ref ta) := by
            rw [List.getElem?_map, hmore, List.getElem?_append_left hil, hei]
            rfl
          refine pl_drop (pl_bm (ev_var rfl _ ⟨tyl hd6, pl_cons (pl_op ((ev_ixn (ev_var rfl) (ev_var rfl) (SqA.l hd6) hei6) _ (pl_tup (pl_cons (ev_var rfl _ ⟨by show 1 ≤ sizeLine; decide, fun u hu => ?_⟩)))))⟩))
          have hu1 : (upd G6 u (.tup [nv j])) u = some (.tup [nv j]) := upd_same
          have s7 : Same G6 (upd G6 u (.tup [nv j])) := same_upd hu
          have fin : ∀ (G7 : Hp) (qt : Addr), Same G6 G7 → NT G7 qt (tks ++ [j]) → rAppend (.ref dk) [.ref qt] G7 fun _ H1 => ∃ (es2 : List Kn) (o6 : Option V), [some (.ref c), some (nv p), some (.ref dk), some (.ref l), some (nv i), some (nv t), some (nv j), none] = [some (.ref c), some (nv p), some (.ref dk), some (.ref l), some (nv i), some (nv t), o6, none] ∧ Same H H1 ∧ H1 dk = some (.lst (es2.map fun e => V.ref e.2.1)) ∧ H1 l = some (.lst (es2.map fun e => nv e.1)) ∧
              (∀ e ∈ es2, NT H1 e.2.1 e.2.2 ∧ Wk M.E 0 e.2.2 e.1 ∧ e.2.2.length < es2.length ∧ e.1 < M.n) ∧ (es2.map (·.1)).Nodup ∧ (∃ more, es2 = es ++ more) ∧ ∀ (k h : Nat), k < j + 1 → M.arrows[k]? = some (t, h) → h ∈ es2.map (·.1) := fun G7 qt s8 hNq => by
            have hd8 := s8 _ _ hd6
            have hl8 := s8 _ _ hl6
            have hne8 : ∀ {b : Addr} {ys : List V}, G7 b = some (.tup ys) → (upd G7 dk (.lst ((es'.map fun e => V.ref e.2.1) ++ [.ref qt]))) b = some (.tup ys) := fun e => by
              rw [upd_ne (ne_of e hd8 (by intro e; cases e))]
              exact e
            refine ⟨dk, _, _, rfl, rfl, hd8, ?_, es' ++ [(hd', qt, tks ++ [j])], _, rfl, (s6.trans s8).mut hdk, ?_, ?_, fun e he => ?_, ?_, ⟨more ++ [(hd', qt, tks ++ [j])], by rw [hmore, List.append_assoc]⟩, step _ (fun x hx => by rw [List.map_append]; exact List.mem_append_left _ hx) fun _ => by simp⟩
            · rw [List.length_map]
              exact Nat.lt_of_lt_of_le (show es'.length < 1000 by omega) (by decide)
            · rw [upd_same, List.map_append]; rfl
            · rw [upd_ne hld, hl8, List.map_append]; rfl
            · rw [List.length_append, List.length_singleton]
              rcases List.mem_append.mp he with he | he
              · obtain ⟨_, a2, a3, a4⟩ := hes5 e he
                exact ⟨hne8 ((hes6 e he).kf s8.kf), a2, by omega, a4⟩
              · rw [List.mem_singleton.mp he]
                refine ⟨hne8 hNq, hwt.snoc hE, ?_, hh⟩
                show (tks ++ [j]).length < _
                rw [List.length_append, List.length_singleton]
                omega
            · rw [List.map_append]
              refine List.nodup_append.mpr ⟨hnd5, by simp, fun a ha b hb e => ?_⟩
              have : b = hd' := by simpa using hb
              rw [e, this] at ha
              exact hnm ha
          refine ⟨ta, u, tks.map nv, [nv j], rfl, rfl, SqT.of (s7 _ _ hNt6), SqT.of hu1, ?_, fun e => ?_, fun _ e => (by cases e), fun _ _ pp hpp => ?_⟩
          · rw [List.length_map]
            exact Nat.le_trans (show tks.length + 1 ≤ 1000 by omega) (by decide)
          · have : tks = [] := by
              cases tks with
              | nil => rfl
              | cons a b => simp at e
            subst this
            exact fin _ u s7 hu1
          · refine fin _ pp (s7.new hpp) ?_
            show (upd _ pp _) pp = _
            rw [upd_same, List.map_append]
            rfl
        · refine ⟨es', _, rfl, s5, hd5, hl5, hes5, hnd5, ⟨more, hmore⟩, step _ (fun _ h => h) fun htt => ?_⟩
          subst htt
          refine Classical.byContradiction fun hn => ?_
          rw [Bool.and_eq_false_iff] at hb
          rcases hb with h | h
          · exact absurd rfl (of_decide_eq_false h)
          · rw [Bool.not_eq_false', decide_eq_true_eq] at h
            exact hn h
      · obtain ⟨es', o6, rfl, s5, hd5, hl5, hes5, hnd5, ⟨more, hmore⟩, hcl5⟩ := hP
        refine pl_nx (sx_set (v := nv (i + 1)) ((ev_add (a := (i : Int)) (b := 1) (ev_var rfl) ev_c).is (congrArg V.int (by omega))) ?_)
        refine ⟨M.n - (i + 1), by omega, es', i + 1, _, _, rfl, rfl, s5, hd5, hl5, hes5, hnd5, ?_, ?_, fun e he k h ha => ?_⟩
        · rw [hmore, List.length_append]; omega
        · rw [hmore, List.map_append]; exact List.mem_append_left _ h0
        · have htk : es'.take (i + 1) = es.take i ++ [(tl, ta, tks)] := by
            rw [hmore, List.take_append_of_le_length (by omega), List.take_add_one, hei]
            rfl
          rw [htk] at he
          rcases List.mem_append.mp he with he | he
          · rw [hmore, List.map_append]
            exact List.mem_append_left _ (hcl e he k h ha)
          · rw [List.mem_singleton.mp he] at ha
            exact hcl5 k h (List.getElem?_eq_some_iff.mp ha).1 ha
    · have hil : i = es.length := by
        rw [Bool.and_eq_false_iff, decide_eq_false_iff_not, decide_eq_false_iff_not, List.length_map] at hb
        omega
      subst hil
      rw [List.take_length] at hcl
      have reach : ∀ u ks v, Wk M.E u ks v → u ∈ es.map (·.1) → v ∈ es.map (·.1) := fun u ks v hw => by
        induction hw with
        | nil u => exact id
        | cons e _ ih =>
          intro hu
          obtain ⟨e2, he2, rfl⟩ := List.mem_map.mp hu
          exact ih (hcl e2 he2 _ _ (Mt.E_inv e).1)
      obtain ⟨ks0, w0⟩ := ok.reach p hp
      obtain ⟨e0, he0, he0p⟩ := List.mem_map.mp (reach 0 ks0 p w0 h0)
      refine pl_nx (pl_ret (pl_op ?_))
      refine rd_lcFm (ev_var rfl).r fun v G1 hv => ?_
      obtain ⟨rfl, rfl⟩ := hv
      refine ⟨dk, es.map fun e => V.ref e.2.1, fun k x => match es[k]? with | some e => if decide (e.1 = p) = true then some x else none | none => none, rfl, SqA.l hd, by rw [List.length_map]; omega, fun _ => rfl, fun k x G2 hk s5 => ?_, fun k x y G2 hk hy s5 => ?_, fun D G2 hD s5 hL => ?_⟩
      · rw [List.getElem?_map] at hk
        cases e : es[k]? with
        | none => rw [e] at hk; cases hk
        | some e1 =>
          rw [e] at hk
          cases hk
          obtain ⟨a1, a2, _, _⟩ := hes e1 (List.mem_of_getElem? e)
          refine ((et_test (ev_eq (ev_last (hc.s (s.trans s5)) (.inr (a1.kf s5.kf)) a2 (ev_var rfl) (ev_var rfl)) (ev_var rfl) rfl)).is ?_).s
          dsimp only
          rw [e]
          dsimp only
          by_cases h : e1.1 = p
          · rw [if_pos (decide_eq_true h), h]
            simp [nv]
          · rw [if_neg (by rw [decide_eq_false h]; decide)]
            have : ¬ (e1.1 : Int) = (p : Int) := by omega
            exact decide_eq_false (fun z => this (V.int.inj z))
      · dsimp only at hy
        cases e : es[k]? with
        | none => rw [e] at hy; cases hy
        | some e1 =>
          rw [e] at hy
          dsimp only at hy
          by_cases h : e1.1 = p
          · rw [if_pos (decide_eq_true h)] at hy
            cases hy
            exact (ev_var rfl).s
          · rw [if_neg (by rw [decide_eq_false h]; decide)] at hy
            cases hy
      · have eL := fmI_filterK (fun (e : Kn) => V.ref e.2.1) (fun e => decide (e.1 = p)) (fun k x => match es[k]? with | some e => if decide (e.1 = p) = true then some x else none | none => none) es 0 (fun i e hi => by rw [Nat.zero_add, hi])
        rw [eL] at hL
        have hne : es.filter (fun e => decide (e.1 = p)) ≠ [] := fun e => by
          have : e0 ∈ es.filter (fun e => decide (e.1 = p)) := List.mem_filter.mpr ⟨he0, decide_eq_true he0p⟩
          rw [e] at this
          cases this
        obtain ⟨e1, er, hee⟩ := List.exists_cons_of_ne_nil hne
        rw [hee] at hL
        have he1 : e1 ∈ es.filter (fun e => decide (e.1 = p)) := by rw [hee]; exact List.mem_cons_self ..
        obtain ⟨hm1, hm2⟩ := List.mem_filter.mp he1
        have hp1 := of_decide_eq_true hm2
        obtain ⟨a1, a2, a3, a4⟩ := hes e1 hm1
        rw [hp1] at a2
        refine ev_c _ ⟨D, _, 0, _, rfl, rfl, SqA.l hL, atI_nat (j := 0) rfl, ?_⟩
        exact q G2 _ _ (s.trans s5) (a1.kf s5.kf) (by omega) a2
end
end K15
namespace K15
open PySem PySem.Spec PyProof.Rows L2 RZ
/-! ### ring_right -/
def sp_w_ring_right (A : Ad) : Sp := fun vs H Q _ => ∃ (hh ca m mm told : Addr) (M : Mt) (sense : Int) (senses : List Int), vs = [.ref hh, .ref m, .ref mm, .ref told, .int sense] ∧ HandAt H hh ca ∧ LM H m M ∧ MeterAt A H mm M ∧ M.Ok ∧ DriftRes A M senses H told ∧ (∀ st ks, IsRing M senses st ks → gn M.E ks ≠ 0 ∧ 0 ≤ sense * gn M.E ks) ∧
  -(2 ^ 64) < sense ∧ sense < 2 ^ 64 ∧ ∀ H', Kb hh H H' → HandAt H' hh ca → Q (.bl true) H'
theorem dp_ints {K : PySem.W.Frag} {H : Hp} : ∀ ns : List Int, DpAll K H (ns.map V.int) (ns.map PyData.int)
  | [] => .nil
  | n :: ns => .cons (.int n) (dp_ints ns)
theorem eqv_ints : ∀ ns : List Int, PyData.eqvAll (ns.map PyData.int) (ns.map PyData.int) = true
  | [] => by simp [PyData.eqvAll]
  | n :: ns => by
    have := eqv_ints ns
    simp [PyData.eqvAll, PyData.eqv, this]
theorem lay_ints : ∀ ns : List Int, PyData.canLayAll0 (ns.map PyData.int) = true
  | [] => by simp [PyData.canLayAll0]
  | n :: ns => by
    have := lay_ints ns
    simp [PyData.canLayAll0, PyData.canLay0, this]
theorem dep_ints : ∀ ns : List Int, PyData.depthAll (ns.map PyData.int) = 0
  | [] => by simp [PyData.depthAll]
  | n :: ns => by
    have := dep_ints ns
    simp [PyData.depthAll, PyData.depth, this]
theorem sh_list (ns : List Int) : SeqAt.shaped (.list (ns.map PyData.int)) = true := by
  unfold SeqAt.shaped
  rw [show PyData.canLay0 (.list (ns.map PyData.int)) = true by simp [PyData.canLay0, lay_ints], show PyData.depth (.list (ns.map PyData.int)) = 1 by simp [PyData.depth, dep_ints]]
  rfl
theorem sh_tup (ns : List Int) : SeqAt.shaped (.tuple (ns.map PyData.int)) = true := by
  unfold SeqAt.shaped
  rw [show PyData.canLay0 (.tuple (ns.map PyData.int)) = true by simp [PyData.canLay0, lay_ints], show PyData.depth (.tuple (ns.map PyData.int)) = 1 by simp [PyData.depth, dep_ints]]
  rfl
theorem cut_tail (x : V) (r : List V) : cutV (x :: r) (some 1) none = r := by
  unfold cutV
  rw [HT.sIx_none, show HT.sIx (x :: r).length 0 (some 1) = 1 by
    have := HT.sIx_nat (x :: r).length 0 1
    rw [List.length_cons] at *
    simpa using this]
  simp
theorem cut_head (x : V) (r : List V) : cutV (x :: r) none (some 1) = [x] := by
  unfold cutV
  rw [HT.sIx_none, show HT.sIx (x :: r).length (x :: r).length (some 1) = 1 by
    have := HT.sIx_nat (x :: r).length (x :: r).length 1
    rw [List.length_cons] at *
    simpa using this]
  simp
theorem pl_noPart {σ : L2.St} {H : Hp} {Qo : Option Int → Hp → Prop} (h : Qo none H) : tNoPart σ H Qo := h
theorem pl_part {σ : L2.St} {H : Hp} {t : TE} {Qo : Option Int → Hp → Prop} (h : t σ H fun x H1 => ∃ i, x = .int i ∧ Qo (some i) H1) : tPart t σ H Qo := h
theorem natLM {H : Hp} {m : Addr} {M : Mt} {σ : L2.St} {K : PySem.W.Frag} {ta : TE} (hm : LM H m M) (ha : EvE ta σ H (.ref m)) : EvE (tCB (rLenA K) (tCons (tOp (rIxA K) ta (tC (.int 1))) tNil)) σ H (nv M.arrows.length) := by
  obtain ⟨pa, ps, hpa, hpt, hpe⟩ := rd_lm1 (K := K) hm ha
  exact (ev_len hpa (SqA.t hpt)).is (by rw [List.length_map, hpe.1]; rfl)
theorem Wk.rep {E : List Edge} {u : Nat} {ks : List Nat} (h : Wk E u ks u) : ∀ n : Nat, Wk E u (List.replicate n ks).flatten u ∧ gn E (List.replicate n ks).flatten = n * gn E ks ∧ (List.replicate n ks).flatten.length = n * ks.length
  | 0 => ⟨.nil u, by simp [gn_nil], by simp⟩
  | n + 1 => by
    obtain ⟨h1, h2, h3⟩ := Wk.rep h n
    rw [List.replicate_succ, List.flatten_cons]
    refine ⟨h.append h1, ?_, ?_⟩
    · rw [gn_append, h2]
      have : ((n + 1 : Nat) : Int) * gn E ks = (n : Int) * gn E ks + gn E ks := by
        rw [show ((n + 1 : Nat) : Int) = (n : Int) + 1 by omega, Int.add_mul, Int.one_mul]
      omega
    · rw [List.length_append, h3, Nat.succ_mul]
      omega
theorem flat_map {α β : Type} (f : α → β) (n : Nat) (l : List α) : (List.replicate n (l.map f)).flatten = (List.replicate n l).flatten.map f := by
  induction n with
  | zero => rfl
  | succ n ih => rw [List.replicate_succ, List.flatten_cons, ih, List.replicate_succ, List.flatten_cons, List.map_append]
section
variable {P : Program} {w : World} {K : PySem.W.Frag} {mg : Str → Option Value} {base : Heap} {A : Ad} (T : Txt K mg A)
include T
theorem ev_isDr {σ : L2.St} {H : Hp} {ta : TE} {p dx : Addr} {fs : List (Str × V)} (ha : EvE ta σ H (.ref p)) (h : H p = some (.ins A.dr dx fs)) : EvE (tCB (rIsi K) (tCons ta (tCons (tC (.ref A.dr)) tNil))) σ H (.bl true) := fun Q q =>
  ha _ ⟨.ref p, .ref A.dr, .ref A.dr, .ref A.dr, true, rfl, .own _, .base (.ins h T.cl_dr T.i_dr.ha T.i_dr.hn T.i_dr.htk T.i_dr.hm), T.k_dd, q⟩
theorem ok_w_ring_right (d : Df K mg "_law_ring_right" s_w_ring_right ["_law_hand_here", "_law_meter_here", "_law_made_here", "_law_told", "_law_sense"]) (c_w_draw : Cal P w K mg base 2 "_law_draw" ["_law_hand_here", "_law_many"] (sp_w_draw A))
    (c_w_sum : Cal P w K mg base 2 "_law_sum" ["_law_meter_here", "_law_arrows"] (sp_w_sum A)) (c_w_shortest : Cal P w K mg base 2 "_law_shortest" ["_law_chart", "_law_place"] (sp_w_shortest A)) (c_Meterlead_ahead : CalM P w K mg base 5 A.me "lead_ahead" ["self", "run"] (sp_Meterlead_ahead A)) :
    Cal P w K mg base 6 "_law_ring_right" ["_law_hand_here", "_law_meter_here", "_law_made_here", "_law_told", "_law_sense"] (sp_w_ring_right A) := by
  refine d.ok sc_w_ring_right (fun vs H Q E h => ?_) (fun f cdv A' outer s H vs Q E hr h => ?_)
  · obtain ⟨hh, ca, m, mm, told, M, sense, senses, rfl, _⟩ := h
    rfl
  · obtain ⟨hh, ca, m, mm, told, M, sense, senses, rfl, hH, hm, hmm, ok, ⟨ks, st, hDr, hR, hnd, hk16⟩, hsen, hs0, hs1, q⟩ := h
    obtain ⟨hby0, hbys⟩ := hsen st ks hR
    have hn16 := ok.ch.n16
    have h32 := ok.ch.a32
    have hu64 := hr.units
    have hidx := hR.wk.E_idx ok
    obtain ⟨k0, kr, hks⟩ := List.exists_cons_of_ne_nil hR.ne
    have htails : st :: ks.map (eh M.E) = ks.map (et M.E) ++ [st] := by rw [← vs_eq, hR.wk.tails]
    refine ⟨_, (pss_cons (ps_if (PW.pt (pw_or (pt_not (pt_val (pe_callB call_isi (by rfl) T.z_isinstance (by decide +kernel) (pa_cons (pv 3) (pa_cons (pe_glob (v := .ref _) (by rfl) T.g_dr rfl) pa_nil))))) (pw_or1 (pt_not (pt_tru (pe_fld (pv 3) rfl) (by intro _; rfl)))))) (pss_one (ps_ret pe_bl)) pss_nil)
    (pss_cons (ps_set (i := 5) sc_w_ring_right.nd rfl (.inl rfl) (pe_lst pa_nil))
    (pss_cons (ps_for PassesOwn.never rfl (pi_seq (pe_fld (pv 3) rfl)) (pg_name (i := 6) sc_w_ring_right.nd rfl (.inl rfl)) (pss_cons (ps_if (PW.pt (pw_or (pt_not (pt_val (pe_callB call_isi (by rfl) T.z_isinstance (by decide +kernel) (pa_cons (pv 6) (pa_cons (pe_bltn (v := .ty "int") (by rfl) T.z_int (by decide +kernel) rfl) pa_nil))))) (pw_or (pt_not (pt_chain op_leI op_ltI pe_int (pv 6) (pe_callB cr_len (by rfl) T.z_len (by decide +kernel) (pa_cons (pe_ix ix_any (pv 1) pe_int (fun _ _ => rfl)) pa_nil)))) (pw_or1 (pt_cmpR op_in_seq (pe_ix ix_any (pe_ix ix_any (pe_ix ix_any (pv 1) pe_int (fun _ _ => rfl)) (pv 6) (fun _ _ => rfl)) pe_int (fun _ _ => rfl)) (pv 5) (by rfl)))))) (pss_one (ps_ret pe_bl)) pss_nil)
    (pss_one (ps_expr (pe_bm PySem.F.plainAttrs_list PySem.F.slot_list_append PySem.F.type_list_append mt_append (pv 5) (pa_cons (pe_ix ix_any (pe_ix ix_any (pe_ix ix_any (pv 1) pe_int (fun _ _ => rfl)) (pv 6) (fun _ _ => rfl)) pe_int (fun _ _ => rfl)) pa_nil))))))
    (pss_cons (ps_setLc (i := 7) (own := [("_law_arrow", 6)]) (g := (gName 6)) (tt := tYes) (te := (tOp (rIxA K) (tOp (rIxA K) (tOp (rIxA K) (tVar 1) (tC (.int 1))) (tVar 6)) (tC (.int 1)))) rfl sc_w_ring_right.nd rfl rfl (sw_true rfl rfl rfl (by decide +kernel)) (pi_seq (pe_fld (pv 3) rfl)) (blkOk_by (N := ["_law_hand_here", "_law_meter_here", "_law_made_here", "_law_told", "_law_sense", "_law_places", "_law_arrow", "_law_heads", "_law_by", "_law_run_here", "_law_times", "_law_lead"]) (own := [("_law_arrow", 6)]) (sc := defScope s_w_ring_right) (by decide +kernel)) (fun _ _ _ _ _ => (pg_name (i := 6) sc_w_ring_right.nd rfl (.inl rfl))) (fun _ _ _ _ _ => pts_nil) (fun _ _ _ _ _ => (pe_ix ix_any (pe_ix ix_any (pe_ix ix_any (pv 1) pe_int (fun _ _ => rfl)) (pv 6) (fun _ _ => rfl)) pe_int (fun _ _ => rfl))))
    (pss_cons (ps_if (PW.pt (pw_or (pt_cmpR (op_neD hu64) (pv 7) (pe_op op_cat (pe_slice sl_list (pv 5) (po_some pe_int) po_none) (pe_slice sl_list (pv 5) po_none (po_some pe_int))) (nomark _)) (pw_or1 (pt_cmpR op_ne (pe_ix ix_any (pv 5) pe_int (fun _ _ => rfl)) (pe_callB (cr_min rfl) (by rfl) T.z_min (by decide +kernel) (pa_cons (pv 5) pa_nil)) (nomark _))))) (pss_one (ps_ret pe_bl)) pss_nil)
    (pss_cons (ps_set (i := 8) sc_w_ring_right.nd rfl (.inl rfl) (pe_cal c_w_sum hr (by rfl) (pa_cons (pv 1) (pa_cons (pe_fld (pv 3) rfl) pa_nil))))
    (pss_cons (ps_if (PW.pt (pw_or (pt_cmpR op_ne (pe_fld (pv 3) rfl) (pv 8) (nomark _)) (pw_or (pt_cmpR op_eq (pv 8) pe_int (nomark _)) (pw_or1 (pt_cmpR op_ltI (pe_op op_mulI (pv 4) (pv 8)) pe_int (nomark _)))))) (pss_one (ps_ret pe_bl)) pss_nil)
    (pss_cons (ps_set (i := 9) sc_w_ring_right.nd rfl (.inl rfl) (pe_cal c_w_shortest hr (by rfl) (pa_cons (pe_lst (pa_cons (pe_ix ix_any (pv 1) pe_int (fun _ _ => rfl)) (pa_cons (pe_ix ix_any (pv 1) pe_int (fun _ _ => rfl)) pa_nil))) (pa_cons (pe_ix ix_any (pv 5) pe_int (fun _ _ => rfl)) pa_nil))))
    (pss_cons (ps_set (i := 10) sc_w_ring_right.nd rfl (.inl rfl) (pe_op op_addI pe_int (pe_cal c_w_draw hr (by rfl) (pa_cons (pv 0) (pa_cons (pe_op op_divW (pe_op op_subI pe_int (pe_callB cr_len (by rfl) T.z_len (by decide +kernel) (pa_cons (pv 9) pa_nil))) (pe_callB cr_len (by rfl) T.z_len (by decide +kernel) (pa_cons (pe_fld (pv 3) rfl) pa_nil))) pa_nil)))))
    (pss_cons (ps_set (i := 11) sc_w_ring_right.nd rfl (.inl rfl) (pe_op op_addI (pe_ix ix_any (pv 1) pe_int (fun _ _ => rfl)) (pe_cal c_w_sum hr (by rfl) (pa_cons (pv 1) (pa_cons (pv 9) pa_nil)))))
    (pss_one (ps_ret (pe_cmpR op_eq (pe_mcal c_Meterlead_ahead hr (pv 2) (pa_cons (pe_op op_catA (pv 9) (pe_op op_repTA (pe_fld (pv 3) rfl) (pv 10))) pa_nil)) (pe_op op_addI (pv 11) (pe_op op_mulI (pv 10) (pv 8))) (nomark _)))))))))))))), ?_⟩
    obtain ⟨dx, pr, hp1, hpr⟩ := hDr
    have hringS : ∀ {H' : Hp} (σ : L2.St), σ[3]? = some (some (.ref told)) → KeepF H H' → EvE (tFld K (tVar 3) "ring") σ H' (.ref pr) ∧ NT H' pr ks ∧ EvE (tFld K (tVar 3) "by") σ H' (.int (gn M.E ks)) := fun σ h3 kf => ⟨ev_fld (ev_var h3) (kf _ _ trivial hp1) T.cl_dr T.n_dr_ring (drF_ring _ _), hpr.kf kf, ev_fld (ev_var h3) (kf _ _ trivial hp1) T.cl_dr T.n_dr_by (drF_by _ _)⟩
    obtain ⟨ring0, hring0, by0⟩ := hringS (L2.start ["_law_hand_here", "_law_meter_here", "_law_made_here", "_law_told", "_law_sense", "_law_places", "_law_arrow", "_law_heads", "_law_by", "_law_run_here", "_law_times", "_law_lead"] [.ref hh, .ref m, .ref mm, .ref told, .int sense]) rfl (Same.refl H).kf
    refine sq_never ((et_or (b := false) (c := false) (et_not (et_B (ev_isDr T (ev_var rfl) hp1))) fun _ => (et_not (et_tru ring0 (tru_seq (SqA.t hring0)))).is (by rw [hks]; rfl)).is rfl) ?_
    -- places
    refine pl_seq (pl_set ⟨Nat.zero_le _, fun pl hpl => ?_⟩)
    have s1 : Same H (upd H pl (.lst [])) := same_upd hpl
    have hpl1 : NL (upd H pl (.lst [])) pl [] := upd_same
    generalize upd H pl (.lst []) = H1 at s1 hpl1
    obtain ⟨ring1, hring1, by1⟩ := hringS (H' := H1) [some (.ref hh), some (.ref m), some (.ref mm), some (.ref told), some (.int sense), some (.ref pl), none, none, none, none, none, none] rfl s1.kf
    refine pl_nx (pl_seq ?_)
    refine rd_forSeq ring1.r fun v H2 hv => ?_
    obtain ⟨rfl, rfl⟩ := hv
    refine ⟨pr, ks.map nv, rfl, SqA.t hring1, fun i σ' G => ∃ (o6 : Option V), σ' = [some (.ref hh), some (.ref m), some (.ref mm), some (.ref told), some (.int sense), some (.ref pl), o6, none, none, none, none, none] ∧ Same H G ∧ NL G pl ((ks.take i).map (et M.E)), ⟨_, rfl, s1, hpl1⟩,
      fun i σ' G z => by obtain ⟨_, _, s, _⟩ := z; intro o ho; rw [hring1] at ho; rw [← ho]; exact s _ _ hpr, ?_, ?_⟩
    · rintro i x σ' G hi ⟨o6, rfl, s2, hplG⟩
      have hil : i < ks.length := by
        have := (List.getElem?_eq_some_iff.mp hi).1
        rwa [List.length_map] at this
      have hk : ks[i]? = some ks[i] := List.getElem?_eq_getElem hil
      have ex : x = nv ks[i] := Option.some.inj (hi.symm.trans (nat_at hk))
      subst ex
      obtain ⟨t, hd, c, ha1, hc1, ht, hhd, hE⟩ := ok.at (hidx ks[i] (List.getElem_mem hil))
      have hkl := (List.getElem?_eq_some_iff.mp ha1).1
      have hmG := hm.s s2
      have htl : EvE (tOp (rIxA K) (tOp (rIxA K) (tOp (rIxA K) (tVar 1) (tC (.int 1))) (tVar 6)) (tC (.int 0))) [some (.ref hh), some (.ref m), some (.ref mm), some (.ref told), some (.int sense), some (.ref pl), some (nv ks[i]), none, none, none, none, none] G (nv t) := rd_lmtail hmG (ev_var rfl) (ev_var rfl) ha1
      have hnot : t ∉ (ks.take i).map (et M.E) := fun hmem => by
        have hsp : ks = ks.take i ++ ks[i] :: ks.drop (i + 1) := by rw [← List.drop_eq_getElem_cons hil, List.take_append_drop]
        have hnd2 := hnd
        rw [hsp, List.map_append, List.map_cons, et_of hE] at hnd2
        exact (List.nodup_append.mp hnd2).2.2 t hmem t (List.mem_cons_self ..) rfl
      refine sq_never ((et_or (b := false) (c := false) (et_not (et_B (ev_isInt (ev_var rfl)))) fun _ => (et_or (b := false) (c := false) (et_not (et_test (ev_inB (ev_var rfl) ev_c (natLM hmG (ev_var rfl)) (by omega) (by omega)))) fun _ => (et_test (ev_in htl (ev_var rfl) (SqA.l hplG))).is (decide_eq_false hnot)).is rfl).is rfl) ?_
      refine sx_app (ev_var rfl) htl hplG (by rw [List.length_map, List.length_map, List.length_take]; omega) ?_
      refine ⟨_, rfl, s2.mut hpl, ?_⟩
      show (upd G pl _) pl = _
      rw [upd_same, List.take_add_one, hk, List.map_append, List.map_append]
      show _ = some (HO.lst (_ ++ [nv (et M.E ks[i])]))
      rw [et_of hE]
    · rintro σ' G ⟨o6, rfl, s2, hplG⟩
      rw [List.length_map, List.take_length] at hplG
      obtain ⟨ring2, hring2, by2⟩ := hringS (H' := G) [some (.ref hh), some (.ref m), some (.ref mm), some (.ref told), some (.int sense), some (.ref pl), o6, none, none, none, none, none] rfl s2.kf
      -- heads
      refine pl_nx (pl_seq (pl_set ?_))
      refine rd_lcNat (ks := ks) (f := fun k => (eh M.E k : Int)) (Pc := fun H1 => H1 = G) (fun Q3 k3 => ring2 _ (k3 _ _ ⟨pr, rfl, SqA.t hring2, rfl⟩)) (by omega) (fun _ => rfl) (fun H1 H' k e1 s3 hk => ?_) (fun H1 hd G2 e1 s3 hhd0 hhd => ?_)
      · subst e1
        obtain ⟨t, hd, c, ha1, hc1, ht, hhd, hE⟩ := ok.at (hidx k hk)
        rw [eh_of hE]
        exact (rd_lmhead ((hm.s s2).s s3) (ev_var rfl) (ev_var rfl) ha1).s
      · subst e1
        have s23 := s2.trans s3
        have hhd2 : NL G2 hd (ks.map (eh M.E)) := by
          show G2 hd = _
          rw [hhd, List.map_map, List.map_map]
          rfl
        have hpl2 : NL G2 pl (ks.map (et M.E)) := s3 _ _ hplG
        obtain ⟨tr, htr⟩ : ∃ tr, ks.map (et M.E) = st :: tr := by
          have hwk := hR.wk
          rw [hks] at hwk
          cases hwk with
          | cons e _ => exact ⟨kr.map (et M.E), by rw [hks, List.map_cons, et_of e]⟩
        have hheads : ks.map (eh M.E) = tr ++ [st] := by
          have := htails
          rw [htr, List.cons_append] at this
          exact (List.cons.inj this).2
        rw [hheads] at hhd2
        rw [htr] at hpl2
        have hmin : ∀ y ∈ st :: tr, st ≤ y := by rw [← htr]; exact hR.lo
        refine pl_nx ?_
        refine sq_neverS (EtS.or (fun Q3 k3 => ?_) fun G3 s4 => ?_) fun G3 s4 => ?_
        · -- heads != places[1:] + places[:1]
          refine pl_test (pl_op (ev_var rfl _ (pl_op (ev_var rfl _ (ev_c _ ⟨1, rfl, ⟨pl, _, rfl, SqL.of hpl2, fun p1 hp1 => ?_⟩⟩)))))
          rw [List.map_cons, cut_tail]
          have sp1 : Same G2 (upd G2 p1 (.lst (tr.map nv))) := same_upd hp1
          have hp1' : NL (upd G2 p1 (.lst (tr.map nv))) p1 tr := upd_same
          generalize upd G2 p1 (.lst (tr.map nv)) = G4 at sp1 hp1'
          refine ev_var rfl _ (pl_noPart (pl_part (ev_c _ ⟨1, rfl, ⟨pl, _, rfl, SqL.of (sp1 _ _ hpl2), fun p2 hp2 => ?_⟩⟩)))
          rw [List.map_cons, cut_head]
          have sp2 : Same G4 (upd G4 p2 (.lst [nv st])) := same_upd hp2
          have hp2' : (upd G4 p2 (.lst [nv st])) p2 = some (.lst [nv st]) := upd_same
          have hp1'' := sp2 _ _ hp1'
          generalize upd G4 p2 (.lst [nv st]) = G5 at sp2 hp2' hp1''
          refine ⟨p1, p2, _, _, rfl, rfl, hp1'', hp2', ?_, fun p3 hp3 => ?_⟩
          · have : tr.length + 1 = ks.length := by
              have := congrArg List.length htr
              rw [List.length_map, List.length_cons] at this
              omega
            rw [List.length_map, List.length_singleton]
            exact Nat.le_trans (show tr.length + 1 ≤ 1000 by omega) (by decide)
          · have sp3 : Same G5 (upd G5 p3 (.lst (tr.map nv ++ [nv st]))) := same_upd hp3
            have hp3' : (upd G5 p3 (.lst (tr.map nv ++ [nv st]))) p3 = some (.lst (((tr ++ [st]).map fun (k : Nat) => (k : Int)).map V.int)) := by
              rw [upd_same, List.map_map, List.map_append]
              rfl
            have hhd5 : (upd G5 p3 (.lst (tr.map nv ++ [nv st]))) hd = some (.lst (((tr ++ [st]).map fun (k : Nat) => (k : Int)).map V.int)) := by
              rw [sp3 _ _ (sp2 _ _ (sp1 _ _ hhd2)), List.map_map]
              rfl
            have sA := ((sp1.trans sp2).trans sp3)
            generalize upd G5 p3 (.lst (tr.map nv ++ [nv st])) = G6 at hp3' hhd5 sA
            refine ⟨_, _, .lst (SqL.of hhd5) (dp_ints _), .lst (SqL.of hp3') (dp_ints _), sh_list _, sh_list _, _, rfl, ?_⟩
            have : PyData.eqv (.list (((tr ++ [st]).map fun (k : Nat) => (k : Int)).map PyData.int)) (.list (((tr ++ [st]).map fun (k : Nat) => (k : Int)).map PyData.int)) = true := by
              rw [PyData.eqv]
              exact eqv_ints _
            rw [this]
            exact k3 _ sA
        · -- places[0] != min(places)
          have hpl3 := s4 _ _ hpl2
          intro Q3 k3
          refine pl_test (pl_op ((ev_ixn (n := 0) (v := nv st) (ev_var rfl) ev_c (SqA.l hpl3) rfl) _ (pl_cb1 (ev_var rfl _ ⟨pl, (st :: tr).map (fun (k : Nat) => (k : Int)), rfl, SqL.of (by rw [List.map_map]; exact hpl3), by simp, fun y hy hle => ?_⟩))))
          have hyst : y = (st : Int) := by
            obtain ⟨z, hz, rfl⟩ := List.mem_map.mp hy
            have h1 := hmin z hz
            have h2 := hle (st : Int) (List.mem_map.mpr ⟨st, List.mem_cons_self .., rfl⟩)
            omega
          subst hyst
          refine ⟨rfl, _, rfl, ?_⟩
          have : (!decide (nv st = V.int (st : Int))) = false := by rw [decide_eq_true (show nv st = V.int (st : Int) from rfl)]; rfl
          rw [this]
          exact k3 G3 (Same.refl G3)
        · have s24 := s23.trans s4
          have hm4 := hm.s s24
          have hpl4 := s4 _ _ hpl2
          obtain ⟨ring3, hring3, by3⟩ := hringS (H' := G3) [some (.ref hh), some (.ref m), some (.ref mm), some (.ref told), some (.int sense), some (.ref pl), o6, some (.ref hd), none, none, none, none] rfl s24.kf
          -- by
          refine sq_setR (ev_wsum hm4 ok (.inr hring3) (by omega) hidx (ev_var rfl) ring3) fun v G4 hv => ?_
          obtain ⟨rfl, s5⟩ := hv
          have s25 := s24.trans s5
          obtain ⟨ring4, hring4, by4⟩ := hringS (H' := G4) [some (.ref hh), some (.ref m), some (.ref mm), some (.ref told), some (.int sense), some (.ref pl), o6, some (.ref hd), some (.int (gn M.E ks)), none, none, none] rfl s25.kf
          refine sq_never ((et_or (b := false) (c := false) ((et_test (ev_ne by4 (ev_var rfl) rfl)).is (by simp)) fun _ => (et_or (b := false) (c := false) ((et_test (ev_eq (ev_var rfl) ev_c rfl)).is (by simp [hby0])) fun _ => (et_test (ev_lt (ev_mul (ev_var rfl) (ev_var rfl) (.inl ⟨hs0, hs1⟩)) ev_c)).is (decide_eq_false (by omega))).is rfl).is rfl) ?_
          -- run
          have hm5 := hm4.s s5
          obtain ⟨pc, hpc, hpct⟩ := rd_lm0 (K := K) (H := G4) (σ := [some (.ref hh), some (.ref m), some (.ref mm), some (.ref told), some (.int sense), some (.ref pl), o6, some (.ref hd), some (.int (gn M.E ks)), none, none, none]) (ta := tVar 1) hm5 (ev_var rfl)
          obtain ⟨pa, ps, hpa, hpt, hpe⟩ := rd_lm1 (K := K) (H := G4) (σ := [some (.ref hh), some (.ref m), some (.ref mm), some (.ref told), some (.int sense), some (.ref pl), o6, some (.ref hd), some (.int (gn M.E ks)), none, none, none]) (ta := tVar 1) hm5 (ev_var rfl)
          refine pl_seq (pl_set (pl_call (pl_cons (pl_lst ((ea_cons hpc (ea_cons hpa ea_nil)) _ ⟨by show 2 ≤ sizeLine; decide, fun cl hcl => ?_⟩)))))
          have s6 : Same G4 (upd G4 cl (.lst [.ref pc, .ref pa])) := same_upd hcl
          have hLC : LC (upd G4 cl (.lst [.ref pc, .ref pa])) cl M.costs M.arrows := ⟨pc, pa, upd_same, s6 _ _ hpct, ps, s6 _ _ hpt, hpe.mono fun p y e => s6 _ _ e⟩
          have hpl6 : NL (upd G4 cl (.lst [.ref pc, .ref pa])) pl (st :: tr) := s6 _ _ (s5 _ _ hpl4)
          have s26 := s25.trans s6
          generalize upd G4 cl (.lst [.ref pc, .ref pa]) = G5 at hLC hpl6 s26
          refine pl_cons ((ev_ixn (n := 0) (v := nv st) (ev_var rfl) ev_c (SqA.l hpl6) rfl) _ ?_)
          refine ⟨cl, M, st, rfl, hLC, ok, hR.lt, fun G6 rn run s7 hN hrl hw => ?_⟩
          have s27 := s26.trans s7
          refine pl_nx ?_
          have hH6 := hH.s s27
          -- times
          have hR1 : 0 < ks.length := List.length_pos_iff.mpr hR.ne
          have hdiv : 24 ≤ (400 - run.length) / ks.length := by
            rw [Nat.le_div_iff_mul_le hR1]
            have : 24 * ks.length ≤ 24 * 16 := Nat.mul_le_mul_left 24 hk16
            omega
          have hdiv2 : (400 - run.length) / ks.length ≤ 400 := Nat.le_trans (Nat.div_le_self _ _) (by omega)
          obtain ⟨ring6, hring6, by6⟩ := hringS (H' := G6) [some (.ref hh), some (.ref m), some (.ref mm), some (.ref told), some (.int sense), some (.ref pl), o6, some (.ref hd), some (.int (gn M.E ks)), some (.ref rn), none, none] rfl s27.kf
          refine sq_setR (Pc := fun v G7 => ∃ t : Nat, v = nv t ∧ Kb hh G6 G7 ∧ HandAt G7 hh ca ∧ 1 ≤ t ∧ t ≤ (400 - run.length) / ks.length) (fun Q3 k3 => ?_) fun v G7 hv => ?_
          · refine pl_op (ev_c _ (ev_drawN (n := (400 - run.length) / ks.length) hH6 (by omega) (by omega) (ev_var rfl) ((ev_divW (ev_sub ev_c (ev_len (ev_var rfl) (SqA.t hN))) (ev_len ring6 (SqA.t hring6)) ?_).is ?_) _ fun v G7 hv => ?_))
            · rw [List.length_map, List.length_map]
              refine ⟨by omega, ?_⟩
              rw [Int.natAbs_natCast]
              exact Nat.lt_of_le_of_lt (Nat.log2_le_self _) (by omega)
            · rw [List.length_map, List.length_map]
              refine congrArg V.int ?_
              rw [show (400 : Int) - (run.length : Int) = ((400 - run.length : Nat) : Int) by omega]
              exact (Int.natCast_ediv _ _).symm
            · obtain ⟨z, rfl, kb, hH7, z1⟩ := hv
              exact ⟨_, _, rfl, rfl, k3 _ _ ⟨1 + z, congrArg V.int (by omega), kb, hH7, by omega, by omega⟩⟩
          · obtain ⟨t, rfl, kb, hH7, ht1, ht2⟩ := hv
            have kb7 : Kb hh H G7 := (Kb.of s27).trans kb
            have hm7 := hm.kb hH kb7
            have hN7 : NT G7 rn run := hH6.tup kb hN
            -- lead
            refine pl_seq (pl_set (pl_op (rd_lm2 hm7 (ev_var rfl) _ (ev_wsum hm7 ok (.inr hN7) (by omega) (hw.E_idx ok) (ev_var rfl) (ev_var rfl) _ fun v G8 hv => ?_))))
            obtain ⟨rfl, s8⟩ := hv
            refine ⟨_, _, rfl, rfl, pl_nx ?_⟩
            have kb8 : Kb hh H G8 := kb7.trans (Kb.of s8)
            have hH8 := hH7.s s8
            have hmm8 : MeterAt A G8 mm M := hmm.kf (hH.kf kb8)
            have hN8 : NT G8 rn run := hN7.kf s8.kf
            obtain ⟨ring8, hring8, by8⟩ := hringS (H' := G8) [some (.ref hh), some (.ref m), some (.ref mm), some (.ref told), some (.int sense), some (.ref pl), o6, some (.ref hd), some (.int (gn M.E ks)), some (.ref rn), some (nv t), some (.int (M.first + gn M.E run))] rfl (hH.kf kb8)
            obtain ⟨wr, gr, lr⟩ := hR.wk.rep t
            have hlen : run.length + (List.replicate t ks).flatten.length ≤ 400 := by
              rw [lr]
              have := Nat.mul_le_mul_right ks.length ht2
              have h2 := Nat.div_mul_le_self (400 - run.length) ks.length
              omega
            -- ring * times
            obtain ⟨dxm, chm, pgm, hmi, _⟩ := id hmm8
            refine pl_ret (pl_op (ev_var rfl _ ⟨mm, dxm, _, rfl, hmi, meF_no _ _ _ (by decide +kernel) (by decide +kernel) (by decide +kernel), pl_cons (pl_op (ev_var rfl _ (pl_op (ring8 _ (ev_var rfl _ ?_)))))⟩))
            have fin : ∀ (G9 : Hp) (fl : Addr), Same G8 G9 → NT G9 fl (List.replicate t ks).flatten → rCatA K (.ref rn) (.ref fl) G9 fun x H1 => tNil [some (.ref hh), some (.ref m), some (.ref mm), some (.ref told), some (.int sense), some (.ref pl), o6, some (.ref hd), some (.int (gn M.E ks)), some (.ref rn), some (nv t), some (.int (M.first + gn M.E run))] H1 fun xs H2 => sp_Meterlead_ahead A (.ref mm :: ([x] ++ [])) H2 (fun v H3 => tOp rAddI (tVar 11) (tOp rMulI (tVar 10) (tVar 8)) [some (.ref hh), some (.ref m), some (.ref mm), some (.ref told), some (.int sense), some (.ref pl), o6, some (.ref hd), some (.int (gn M.E ks)), some (.ref rn), some (nv t), some (.int (M.first + gn M.E run))] H3 fun y H4 => rEq v y H4 Q) E0 := fun G9 fl s9 hfl => by
              have hN9 : NT G9 rn run := hN8.kf s9.kf
              have hne : (List.replicate t ks).flatten ≠ [] := fun e => by
                have := congrArg List.length e
                rw [lr, List.length_nil] at this
                have := Nat.mul_pos ht1 hR1
                omega
              have done : ∀ (G10 : Hp) (x : Addr), Same G9 G10 → NT G10 x (run ++ (List.replicate t ks).flatten) → sp_Meterlead_ahead A [.ref mm, .ref x] G10 (fun v H3 => tOp rAddI (tVar 11) (tOp rMulI (tVar 10) (tVar 8)) [some (.ref hh), some (.ref m), some (.ref mm), some (.ref told), some (.int sense), some (.ref pl), o6, some (.ref hd), some (.int (gn M.E ks)), some (.ref rn), some (nv t), some (.int (M.first + gn M.E run))] H3 fun y H4 => rEq v y H4 Q) E0 := fun G10 x s10 hx => by
                refine ⟨mm, x, M, run ++ (List.replicate t ks).flatten, st, rfl, hmm8.s (s9.trans s10), ok, .inr hx, by rw [List.length_append]; exact hlen, hw.append wr, fun H3 s11 => ?_⟩
                have hb := ev_add (H := H3) (ev_var (σ := [some (.ref hh), some (.ref m), some (.ref mm), some (.ref told), some (.int sense), some (.ref pl), o6, some (.ref hd), some (.int (gn M.E ks)), some (.ref rn), some (nv t), some (.int (M.first + gn M.E run))]) (i := 11) rfl) (ev_mul (a := (t : Int)) (b := gn M.E ks) (ev_var (i := 10) rfl) (ev_var (i := 8) rfl) (.inl ⟨by omega, by omega⟩))
                refine hb _ ⟨rfl, ?_⟩
                rw [decide_eq_true (show V.int (M.first + gn M.E (run ++ (List.replicate t ks).flatten)) = V.int (M.first + gn M.E run + (t : Int) * gn M.E ks) from by rw [gn_append, gr]; exact congrArg V.int (by omega))]
                exact q H3 (kb8.trans (Kb.of ((s9.trans s10).trans s11))) (hH8.s ((s9.trans s10).trans s11))
              refine ⟨rn, fl, _, _, rfl, rfl, SqT.of hN9, SqT.of hfl, ?_, fun e => ?_, fun _ e => ?_, fun _ _ p hp => ?_⟩
              · rw [List.length_map, List.length_map]
                exact Nat.le_trans (show run.length + (List.replicate t ks).flatten.length ≤ 1000 by omega) (by decide)
              · have : run = [] := by
                  cases run with
                  | nil => rfl
                  | cons a b => simp at e
                subst this
                exact done G9 fl (Same.refl G9) hfl
              · exact absurd (List.map_eq_nil_iff.mp e) hne
              · refine done _ p (same_upd hp) ?_
                show (upd G9 p _) p = _
                rw [upd_same, List.map_append]
            by_cases ht : t = 1
            · subst ht
              refine .inl ⟨pr, _, rfl, rfl, SqT.of hring8, by simp [hR.ne], ?_⟩
              exact fin G8 pr (Same.refl G8) (by
                have : (List.replicate 1 ks).flatten = ks := by simp
                rw [this]
                exact hring8)
            · refine .inr ⟨pr, (t : Int), _, rfl, rfl, SqT.of hring8, by simp [hR.ne], by omega, by omega, by rw [List.length_map]; omega, fun p hp => ?_⟩
              refine fin _ p (same_upd hp) ?_
              show (upd G8 p _) p = _
              rw [upd_same, Int.toNat_natCast, flat_map]
end
end K15
namespace K15
open PySem PySem.Spec PyProof.Rows L2 RZ
/-! ### side, levels_right, cover_right, even_right -/
def sp_w_side (A : Ad) : Sp := fun vs H Q _ => ∃ (hh ca m mm : Addr) (M : Mt) (sense : Int), vs = [.ref hh, .ref m, .ref mm, .int sense] ∧ (sense = 1 ∨ sense = -1) ∧ HandAt H hh ca ∧ LM H m M ∧ MeterAt A H mm M ∧ M.Ok ∧
  (∀ H', Kb hh H H' → HandAt H' hh ca → ¬ NoDrift M [sense] → Q .non H') ∧ (∀ H' r ls, Kb hh H H' → HandAt H' hh ca → NoDrift M [sense] → IsRow M sense ls → IT H' r ls → Q (.ref r) H')
def sp_w_levels_right (A : Ad) : Sp := fun vs H Q _ => ∃ (hh ca m mm : Addr) (M : Mt), vs = [.ref hh, .ref m, .ref mm] ∧ HandAt H hh ca ∧ LM H m M ∧ MeterAt A H mm M ∧ M.Ok ∧ ∀ H', Kb hh H H' → HandAt H' hh ca → Q (.bl true) H'
/-- what side tells -/
def SideV (M : Mt) (sense : Int) (v : V) (H : Hp) : Prop := (v = .non ∧ ¬ NoDrift M [sense]) ∨ ∃ r ls, v = .ref r ∧ IT H r ls ∧ IsRow M sense ls ∧ NoDrift M [sense]
def sp_w_cover_right (A : Ad) : Sp := fun vs H Q _ => ∃ (m mm : Addr) (M : Mt) (lv : V), vs = [.ref m, .ref mm, lv] ∧ LM H m M ∧ MeterAt A H mm M ∧ M.Ok ∧ SideV M (-1) lv H ∧ ∀ H', Same H H' → Q (.bl true) H'
def sp_w_even_right (A : Ad) : Sp := fun vs H Q _ => ∃ (m mm : Addr) (M : Mt) (lv hv : V), vs = [.ref m, .ref mm, lv, hv] ∧ LM H m M ∧ MeterAt A H mm M ∧ M.Ok ∧ SideV M (-1) lv H ∧ SideV M 1 hv H ∧ ∀ H', Same H H' → Q (.bl true) H'
theorem IsRow.uniq {M : Mt} {sense : Int} {a b : List Int} (h : IsRow M sense a) (h2 : IsRow M sense b) (hs : sense = 1 ∨ sense = -1) : a = b := by
  refine list_eq_getD (by rw [h.1, h2.1]) fun p hp => ?_
  rw [h.1] at hp
  obtain ⟨⟨ks, w, e⟩, hb⟩ := h.2 p hp
  rw [e]
  exact h2.best hs hp w fun ks' w' => by
    have := hb ks' w'
    rw [e] at this
    exact this
theorem IsSpare.uniq {M : Mt} {ls : List Int} {x y : Int} (h : IsSpare M ls x) (h2 : IsSpare M ls y) : x = y := by
  obtain ⟨⟨p, hp, e⟩, h⟩ := h
  obtain ⟨⟨p', hp', e'⟩, h'⟩ := h2
  have := h p' hp'
  have := h' p hp
  omega
section
variable {σ : L2.St} {H : Hp} {ta tb : TE} {Q : VK}
theorem if_yes {b : Bool} {X Y : Prop} (h : b = true) (x : X) : if b = true then X else Y := by rw [if_pos h]; exact x
theorem if_no {b : Bool} {X Y : Prop} (h : b = false) (y : Y) : if b = true then X else Y := by rw [if_neg (by rw [h]; decide)]; exact y
theorem pl_andV (h : ta σ H fun x H1 => ∃ c, x = .bl c ∧ if c = true then tb σ H1 Q else Q (.bl false) H1) : tAndV ta tb σ H Q := h
/-- a test that holds, then the rest -/
theorem and_yes (h : EvE ta σ H (.bl true)) (k : tb σ H Q) : tAndV ta tb σ H Q := h _ ⟨true, rfl, by rw [if_pos rfl]; exact k⟩
end
section
variable {P : Program} {w : World} {K : PySem.W.Frag} {mg : Str → Option Value} {base : Heap} {A : Ad} (T : Txt K mg A)
include T
theorem ev_isSh {σ : L2.St} {H : Hp} {ta : TE} {p dx : Addr} {fs : List (Str × V)} (ha : EvE ta σ H (.ref p)) (h : H p = some (.ins A.sh dx fs)) : EvE (tCB (rIsi K) (tCons ta (tCons (tC (.ref A.sh)) tNil))) σ H (.bl true) := fun Q q =>
  ha _ ⟨.ref p, .ref A.sh, .ref A.sh, .ref A.sh, true, rfl, .own _, .base (.ins h T.cl_sh T.i_sh.ha T.i_sh.hn T.i_sh.htk T.i_sh.hm), T.k_ss, q⟩
theorem ev_isUn {σ : L2.St} {H : Hp} {ta : TE} {p dx : Addr} {fs : List (Str × V)} (ha : EvE ta σ H (.ref p)) (h : H p = some (.ins A.un dx fs)) : EvE (tCB (rIsi K) (tCons ta (tCons (tC (.ref A.un)) tNil))) σ H (.bl true) := fun Q q =>
  ha _ ⟨.ref p, .ref A.un, .ref A.un, .ref A.un, true, rfl, .own _, .base (.ins h T.cl_un T.i_un.ha T.i_un.hn T.i_un.htk T.i_un.hm), T.k_uu, q⟩
theorem ev_isUnT {σ : L2.St} {H : Hp} {ta : TE} {p : Addr} {xs : List V} (ha : EvE ta σ H (.ref p)) (h : H p = some (.tup xs)) : EvE (tCB (rIsi K) (tCons ta (tCons (tC (.ref A.un)) tNil))) σ H (.bl false) := fun Q q =>
  ha _ ⟨.ref p, .ref A.un, .type "tuple", .ref A.un, false, rfl, .own _, .base (.tup h), T.k_un, q⟩
omit T in
theorem ev_isTup {σ : L2.St} {H : Hp} {ta : TE} {p : Addr} {xs : List V} (ha : EvE ta σ H (.ref p)) (h : H p = some (.tup xs)) : EvE (tCB (rIsi K) (tCons ta (tCons (tC (.ty "tuple")) tNil))) σ H (.bl true) := fun Q q =>
  ha _ ⟨.ref p, .ty "tuple", .type "tuple", .type "tuple", true, rfl, .ty _, .base (.tup h), kit_ty (by decide +kernel), q⟩
omit T in
theorem ev_ends {σ : L2.St} {H : Hp} {ta tb : TE} {m r : Addr} {M : Mt} {ks : List Nat} {v : Nat} (hm : LM H m M) (ok : M.Ok) (hr : Sq H r (ks.map nv)) (hw : Wk M.E 0 ks v) (ha : EvE ta σ H (.ref m)) (hb : EvE tb σ H (.ref r)) : EvE (tCall (sp_w_ends A) [] E0 (tCons ta (tCons tb tNil))) σ H (nv v) :=
  ev_call (ea_cons ha (ea_cons hb ea_nil)) fun Q q => ⟨m, r, M, ks, v, rfl, hm, ok, hr, hw, q⟩
theorem ok_w_side (d : Df K mg "_law_side" s_w_side ["_law_hand_here", "_law_meter_here", "_law_made_here", "_law_sense"]) (c_w_draw : Cal P w K mg base 2 "_law_draw" ["_law_hand_here", "_law_many"] (sp_w_draw A)) (c_w_sum : Cal P w K mg base 2 "_law_sum" ["_law_meter_here", "_law_arrows"] (sp_w_sum A))
    (c_w_ends : Cal P w K mg base 1 "_law_ends" ["_law_meter_here", "_law_run_here"] (sp_w_ends A)) (c_find_low_run : Cal P w K mg base 9 "find_low_run" ["meter", "place"] (sp_find_low_run A)) (c_find_high_run : Cal P w K mg base 9 "find_high_run" ["meter", "place"] (sp_find_high_run A))
    (c_w_gain : Cal P w K mg base 1 "_law_gain" ["_law_meter_here", "_law_arrow"] (sp_w_gain A)) (c_low_leads : Cal P w K mg base 8 "low_leads" ["meter"] (sp_low_leads A)) (c_high_leads : Cal P w K mg base 8 "high_leads" ["meter"] (sp_high_leads A))
    (c_w_ring_right : Cal P w K mg base 6 "_law_ring_right" ["_law_hand_here", "_law_meter_here", "_law_made_here", "_law_told", "_law_sense"] (sp_w_ring_right A)) (c_find_fall : Cal P w K mg base 6 "find_fall" ["meter"] (sp_find_fall A)) (c_find_rise : Cal P w K mg base 6 "find_rise" ["meter"] (sp_find_rise A)) :
    Cal P w K mg base 10 "_law_side" ["_law_hand_here", "_law_meter_here", "_law_made_here", "_law_sense"] (sp_w_side A) := by
  refine d.ok sc_w_side (fun vs H Q E h => ?_) (fun f cdv A' outer s H vs Q E hr h => ?_)
  · obtain ⟨hh, ca, m, mm, M, sense, rfl, _⟩ := h
    rfl
  · obtain ⟨hh, ca, m, mm, M, sense, rfl, hsen, hH, hm, hmm, ok, q1, q2⟩ := h
    have hn16 : M.n ≤ 16 := ok.ch.n16
    have hn1 : 1 ≤ M.n := ok.ch.n1
    have h32 := ok.ch.a32
    have hsb : (-(2 ^ 64) < sense ∧ sense < 2 ^ 64) := by rcases hsen with e | e <;> rw [e] <;> decide
    refine ⟨_, (pss_cons (ps_set (i := 4) sc_w_side.nd rfl (.inl rfl) (pe_ifExp (pt_cmpR op_eq (pv 3) (pe_un un_negI pe_int) (nomark _)) (pe_cal c_find_fall hr (by rfl) (pa_cons (pv 2) pa_nil)) (pe_cal c_find_rise hr (by rfl) (pa_cons (pv 2) pa_nil))))
    (pss_cons (ps_if (pt_cmpR op_notNI (pv 4) pe_non (nomark _)) (pss_one (ps_ret (pe_ifExp (pt_val (pe_cal c_w_ring_right hr (by rfl) (pa_cons (pv 0) (pa_cons (pv 1) (pa_cons (pv 2) (pa_cons (pv 4) (pa_cons (pv 3) pa_nil))))))) pe_non pe_bl))) pss_nil)
    (pss_cons (ps_set (i := 5) sc_w_side.nd rfl (.inl rfl) (pe_ifExp (pt_cmpR op_eq (pv 3) (pe_un un_negI pe_int) (nomark _)) (pe_cal c_low_leads hr (by rfl) (pa_cons (pv 2) pa_nil)) (pe_cal c_high_leads hr (by rfl) (pa_cons (pv 2) pa_nil))))
    (pss_cons (ps_if (PW.pt (pw_or (pt_not (pt_val (pe_callB call_isi (by rfl) T.z_isinstance (by decide +kernel) (pa_cons (pv 5) (pa_cons (pe_bltn (v := .ty "tuple") (by rfl) T.z_tuple (by decide +kernel) rfl) pa_nil))))) (pw_or (pt_cmpR op_ne (pe_callB cr_len (by rfl) T.z_len (by decide +kernel) (pa_cons (pv 5) pa_nil)) (pe_callB cr_len (by rfl) T.z_len (by decide +kernel) (pa_cons (pe_ix ix_any (pv 1) pe_int (fun _ _ => rfl)) pa_nil)) (nomark _)) (pw_or1 (pt_cmpR op_gtI (pe_op op_mulI (pv 3) (pe_ix ix_any (pv 1) pe_int (fun _ _ => rfl))) (pe_op op_mulI (pv 3) (pe_ix ix_any (pv 5) pe_int (fun _ _ => rfl))) (nomark _)))))) (pss_one (ps_ret pe_bl)) pss_nil)
    (pss_cons (ps_for PassesOwn.never rfl (pi_range1 (by rfl) T.z_range (pa_cons (pe_callB cr_len (by rfl) T.z_len (by decide +kernel) (pa_cons (pe_ix ix_any (pv 1) pe_int (fun _ _ => rfl)) pa_nil)) pa_nil)) (pg_name (i := 6) sc_w_side.nd rfl (.inl rfl)) (pss_one (ps_if (pt_cmpR op_gtI (pe_op op_mulI (pv 3) (pe_op op_addI (pe_ix ix_any (pv 5) (pe_ix ix_any (pe_ix ix_any (pe_ix ix_any (pv 1) pe_int (fun _ _ => rfl)) (pv 6) (fun _ _ => rfl)) pe_int (fun _ _ => rfl)) (fun _ _ => rfl)) (pe_cal c_w_gain hr (by rfl) (pa_cons (pv 1) (pa_cons (pv 6) pa_nil))))) (pe_op op_mulI (pv 3) (pe_ix ix_any (pv 5) (pe_ix ix_any (pe_ix ix_any (pe_ix ix_any (pv 1) pe_int (fun _ _ => rfl)) (pv 6) (fun _ _ => rfl)) pe_int (fun _ _ => rfl)) (fun _ _ => rfl))) (nomark _)) (pss_one (ps_ret pe_bl)) pss_nil)))
    (pss_cons (ps_for PassesOwn.never rfl (pi_seq (pe_lst (pa_cons (pe_op op_subI (pe_callB cr_len (by rfl) T.z_len (by decide +kernel) (pa_cons (pv 5) pa_nil)) pe_int) (pa_cons (pe_cal c_w_draw hr (by rfl) (pa_cons (pv 0) (pa_cons (pe_callB cr_len (by rfl) T.z_len (by decide +kernel) (pa_cons (pv 5) pa_nil)) pa_nil))) pa_nil)))) (pg_name (i := 7) sc_w_side.nd rfl (.inl rfl)) (pss_cons (ps_set (i := 8) sc_w_side.nd rfl (.inl rfl) (pe_ifExp (pt_cmpR op_eq (pv 3) (pe_un un_negI pe_int) (nomark _)) (pe_cal c_find_low_run hr (by rfl) (pa_cons (pv 2) (pa_cons (pv 7) pa_nil))) (pe_cal c_find_high_run hr (by rfl) (pa_cons (pv 2) (pa_cons (pv 7) pa_nil)))))
    (pss_one (ps_if (PW.pt (pw_or (pt_cmpR op_ne (pe_cal c_w_ends hr (by rfl) (pa_cons (pv 1) (pa_cons (pv 8) pa_nil))) (pv 7) (nomark _)) (pw_or1 (pt_cmpR op_ne (pe_op op_addI (pe_ix ix_any (pv 1) pe_int (fun _ _ => rfl)) (pe_cal c_w_sum hr (by rfl) (pa_cons (pv 1) (pa_cons (pv 8) pa_nil)))) (pe_ix ix_any (pv 5) (pv 7) (fun _ _ => rfl)) (nomark _))))) (pss_one (ps_ret pe_bl)) pss_nil))))
    (pss_one (ps_ret (pv 5))))))))), ?_⟩
    have pick : ∀ {σ : L2.St} {H1 : Hp} {ta tb : TE} {Q2 : VK}, σ[3]? = some (some (.int sense)) → (sense = -1 → ta σ H1 Q2) → (sense = 1 → tb σ H1 Q2) → tIf (tTest (tOp rEq (tVar 3) (tUn rNegI (tC (.int 1))))) ta tb σ H1 Q2 := fun {σ H1 ta tb Q2} h3 ha hb => by
      refine pl_ifx ((et_test (ev_eq (ev_var h3) (ev_neg ev_c) rfl)) _ ?_)
      rcases hsen with e | e
      · exact if_no (by rw [decide_eq_false (fun z => by have := V.int.inj z; omega)]) (hb e)
      · exact if_yes (by rw [decide_eq_true (by rw [e])]) (ha e)
    -- drift
    refine sq_setR (Pc := fun v H' => Same H H' ∧ ((v = .non ∧ NoDrift M [sense]) ∨ ∃ p, v = .ref p ∧ H p = none ∧ DriftRes A M [sense] H' p)) (fun Q5 k5 => ?_) fun v H1 hv => ?_
    · refine pick rfl (fun e => ?_) (fun e => ?_)
      · subst e
        exact ev_callR (ea_cons (ev_var rfl) ea_nil) (fun Q2 k2 => ⟨mm, M, rfl, hmm, ok, fun hn H' s => k2 _ _ ⟨s, .inl ⟨rfl, hn⟩⟩, fun H' p s hp hD => k2 _ _ ⟨s, .inr ⟨p, rfl, hp, hD⟩⟩⟩) _ k5
      · subst e
        exact ev_callR (ea_cons (ev_var rfl) ea_nil) (fun Q2 k2 => ⟨mm, M, rfl, hmm, ok, fun hn H' s => k2 _ _ ⟨s, .inl ⟨rfl, hn⟩⟩, fun H' p s hp hD => k2 _ _ ⟨s, .inr ⟨p, rfl, hp, hD⟩⟩⟩) _ k5
    obtain ⟨s1, hv⟩ := hv
    have hH1 := hH.s s1
    have hm1 := hm.s s1
    have hmm1 := hmm.s s1
    rcases hv with ⟨rfl, hno⟩ | ⟨p, rfl, hp, hD⟩
    · refine sq_if (et_test (ev_notN0 (ev_var rfl))) (fun z => by cases z) fun _ => pl_nx ?_
      -- row
      refine sq_setR (Pc := fun v H' => ∃ r ls, v = .ref r ∧ Same H1 H' ∧ IsRow M sense ls ∧ IT H' r ls) (fun Q5 k5 => ?_) fun v H2 hv => ?_
      · refine pick rfl (fun e => ?_) (fun e => ?_)
        · subst e
          exact ev_callR (ea_cons (ev_var rfl) ea_nil) (fun Q2 k2 => ⟨mm, M, rfl, hmm1, ok, hno, fun H' p ls s hp hR hT => k2 _ _ ⟨p, ls, rfl, s, hR, hT⟩⟩) _ k5
        · subst e
          exact ev_callR (ea_cons (ev_var rfl) ea_nil) (fun Q2 k2 => ⟨mm, M, rfl, hmm1, ok, hno, fun H' p ls s hp hR hT => k2 _ _ ⟨p, ls, rfl, s, hR, hT⟩⟩) _ k5
      obtain ⟨r, ls, rfl, s2, hR, hT⟩ := hv
      have hm2 := hm1.s s2
      have hH2 := hH1.s s2
      have hl0 : ∀ p, p < M.n → p < ls.length := fun p hp => by rw [hR.1]; exact hp
      obtain ⟨pc, hpc, hpct⟩ := rd_lm0 (K := K) (H := H2) (σ := [some (.ref hh), some (.ref m), some (.ref mm), some (.int sense), some .non, some (.ref r), none, none, none]) (ta := tVar 1) hm2 (ev_var rfl)
      have hfst : sense * M.first ≤ sense * ls.getD 0 0 := by
        have := (hR.2 0 hn1).2 [] (.nil 0)
        rwa [gn_nil, Int.add_zero] at this
      refine sq_never ((et_or (b := false) (c := false) (et_not (et_B (ev_isTup (ev_var rfl) hT))) fun _ => (et_or (b := false) (c := false) ((et_test (ev_ne (ev_len (ev_var rfl) (SqA.t hT)) (ev_len hpc (SqA.t hpct)) rfl)).is (by rw [List.length_map, List.length_map, hR.1]; simp)) fun _ => (et_test (ev_gt (ev_mul (ev_var rfl) (rd_lm2 hm2 (ev_var rfl)) (.inl hsb)) (ev_mul (ev_var rfl) (ev_ixn (n := 0) (ev_var rfl) ev_c (SqA.t hT) (int_at (getD_at (hl0 0 hn1)))) (.inl hsb)))).is (decide_eq_false (by omega))).is rfl).is rfl) ?_
      -- for each arrow
      refine pl_seq ?_
      refine rd_forRng1 (n := M.arrows.length) (ea_cons (natLM hm2 (ev_var rfl)) ea_nil) (by omega)
        (fun i σ' G => ∃ (o6 : Option V), σ' = [some (.ref hh), some (.ref m), some (.ref mm), some (.int sense), some .non, some (.ref r), o6, none, none] ∧ G = H2) ⟨_, rfl, rfl⟩ (fun i σ' G hi hP => ?_) (fun σ' G hP => ?_)
      · obtain ⟨o6, rfl, rfl⟩ := hP
        obtain ⟨t, hd, c, ha1, hc1, ht, hhd, hE⟩ := ok.at hi
        obtain ⟨⟨kt, wt, et'⟩, _⟩ := hR.2 t ht
        have hle := (hR.2 hd hhd).2 (kt ++ [i]) (wt.snoc hE)
        rw [gn_append, gn_one, eg_of hE, ← Int.add_assoc, ← et'] at hle
        refine sx_no ((et_test (ev_gt (ev_mul (ev_var rfl) (ev_add (ev_ixn (ev_var rfl) (rd_lmtail hm2 (ev_var rfl) (ev_var rfl) ha1) (SqA.t hT) (int_at (getD_at (hl0 t ht)))) (ev_wgain hm2 hE ht (ev_var rfl) (ev_var rfl))) (.inl hsb)) (ev_mul (ev_var rfl) (ev_ixn (ev_var rfl) (rd_lmhead hm2 (ev_var rfl) (ev_var rfl) ha1) (SqA.t hT) (int_at (getD_at (hl0 hd hhd)))) (.inl hsb)))).is (decide_eq_false (by omega))) ⟨_, rfl, rfl⟩
      · obtain ⟨o6, rfl, rfl⟩ := hP
        refine pl_nx (pl_seq ?_)
        refine rd_forSeq (Pc := fun v G1 => ∃ a z, v = .ref a ∧ Kb hh G G1 ∧ HandAt G1 hh ca ∧ G1 a = some (.lst [nv (M.n - 1), nv z]) ∧ z < M.n) (fun Q5 k5 => ?_) fun v G1 hv => ?_
        · have hlr : EvE (tCB (rLenA K) (tCons (tVar 5) tNil)) [some (.ref hh), some (.ref m), some (.ref mm), some (.int sense), some .non, some (.ref r), o6, none, none] G (nv M.n) := (ev_len (ev_var rfl) (SqA.t hT)).is (by rw [List.length_map, hR.1]; rfl)
          refine pl_lst (pl_cons ((ev_sub hlr ev_c) _ (pl_cons (ev_drawN (n := M.n) hH2 (by omega) (by omega) (ev_var rfl) hlr _ fun v G1 hv => ?_))))
          obtain ⟨z, rfl, kb, hH3, z1⟩ := hv
          refine ⟨by show 2 ≤ sizeLine; decide, fun a ha => ?_⟩
          refine k5 _ _ ⟨a, z, rfl, kb.trans (Kb.of (same_upd ha)), hH3.s (same_upd ha), ?_, z1⟩
          rw [upd_same, show ((M.n : Nat) : Int) - 1 = ((M.n - 1 : Nat) : Int) by omega]
          rfl
        · obtain ⟨a, z, rfl, kb, hHG, haG, hz⟩ := hv
          have kb2 : Kb hh H G1 := (Kb.of (s1.trans s2)).trans kb
          have hTG : IT G1 r ls := hH2.tup kb hT
          refine ⟨a, _, rfl, SqA.l haG, fun i σ' F => ∃ (o7 o8 : Option V), σ' = [some (.ref hh), some (.ref m), some (.ref mm), some (.int sense), some .non, some (.ref r), o6, o7, o8] ∧ Same G1 F, ⟨_, _, rfl, Same.refl _⟩, fun i σ' F z => by obtain ⟨_, _, _, s⟩ := z; exact s.at, ?_, ?_⟩
          · rintro i x σ' F hi ⟨o7, o8, rfl, s3⟩
            obtain ⟨pl, ex, hpl⟩ : ∃ pl : Nat, x = nv pl ∧ pl < M.n := by
              rcases i with _ | _ | i
              · exact ⟨M.n - 1, (Option.some.inj hi).symm, by omega⟩
              · exact ⟨z, (Option.some.inj hi).symm, hz⟩
              · simp at hi
            subst ex
            have kb3 : Kb hh H F := kb2.trans (Kb.of s3)
            have hmm3 := hmm.kf (hH.kf kb3)
            have hm3 := hm.kb hH kb3
            refine sq_setR (Pc := fun v F2 => ∃ rn ks, v = .ref rn ∧ Same F F2 ∧ NT F2 rn ks ∧ ks.length ≤ 16 ∧ Wk M.E 0 ks pl ∧ ∀ ks', Wk M.E 0 ks' pl → sense * (M.first + gn M.E ks') ≤ sense * (M.first + gn M.E ks)) (fun Q5 k5 => ?_) fun v F2 hv => ?_
            · refine pick rfl (fun e => ?_) (fun e => ?_)
              · subst e
                exact ev_callR (ea_cons (ev_var rfl) (ea_cons (ev_var rfl) ea_nil)) (fun Q2 k2 => ⟨mm, M, pl, rfl, hmm3, ok, hpl, hno, fun H5 a ks s ha hN hl hw hb => k2 _ _ ⟨a, ks, rfl, s, hN, hl, hw, hb⟩⟩) _ k5
              · subst e
                exact ev_callR (ea_cons (ev_var rfl) (ea_cons (ev_var rfl) ea_nil)) (fun Q2 k2 => ⟨mm, M, pl, rfl, hmm3, ok, hpl, hno, fun H5 a ks s ha hN hl hw hb => k2 _ _ ⟨a, ks, rfl, s, hN, hl, hw, hb⟩⟩) _ k5
            · obtain ⟨rn, ks, rfl, s4, hN, hkl, hw, hb⟩ := hv
              have hm4 := hm3.s s4
              have hbest := hR.best hsen hpl hw hb
              have hT4 : IT F2 r ls := hTG.kf (s3.trans s4).kf
              refine sx_neverS (EtS.or (EtE.s ((et_test (ev_ne (ev_ends hm4 ok (.inr hN) hw (ev_var rfl) (ev_var rfl)) (ev_var rfl) rfl)).is (by simp))) fun F3 s5 Q5 k5 => ?_) fun F4 s6 => ⟨_, _, rfl, s3.trans (s4.trans s6)⟩
              have hm5 := hm4.s s5
              refine pl_test (pl_op (pl_op (rd_lm2 hm5 (ev_var rfl) _ (ev_wsum hm5 ok (.inr (hN.kf s5.kf)) (by omega) (hw.E_idx ok) (ev_var rfl) (ev_var rfl) _ fun v F4 hv => ?_))))
              obtain ⟨rfl, s6⟩ := hv
              refine ⟨_, _, rfl, rfl, (ev_ixn (ev_var rfl) (ev_var rfl) (SqA.t (hT4.kf (s5.trans s6).kf)) (int_at (getD_at (hl0 pl hpl)))) _ ⟨rfl, _, rfl, ?_⟩⟩
              rw [show (!decide (V.int (M.first + gn M.E ks) = V.int (ls.getD pl 0))) = false by rw [decide_eq_true (congrArg V.int hbest)]; rfl]
              exact k5 _ s6
          · rintro σ' F ⟨o7, o8, rfl, s3⟩
            exact pl_nx (pl_ret (ev_var rfl _ (q2 F r ls (kb2.trans (Kb.of s3)) (hHG.s s3) hno hR (hTG.kf s3.kf))))
    · refine sq_if (et_test (ev_notN2 (ev_var rfl))) (fun _ => ?_) (fun z => by cases z)
      have hring : ∀ st ks, IsRing M [sense] st ks → gn M.E ks ≠ 0 ∧ 0 ≤ sense * gn M.E ks := fun st ks hI => by
        obtain ⟨sg, hsg, h0⟩ := hI.sg
        have : sg = sense := by simpa using hsg
        subst this
        exact ⟨fun e => by rw [e] at h0; simp at h0, by omega⟩
      refine pl_ret (pl_ifx (pl_B ?_))
      refine ev_callR (us := [.ref hh, .ref m, .ref mm, .ref p, .int sense]) (Pc := fun v H' => v = .bl true ∧ Kb hh H1 H' ∧ HandAt H' hh ca) (ea_cons (ev_var rfl) (ea_cons (ev_var rfl) (ea_cons (ev_var rfl) (ea_cons (ev_var rfl) (ea_cons (ev_var rfl) ea_nil))))) (fun Q2 k2 => ⟨hh, ca, m, mm, p, M, sense, [sense], rfl, hH1, hm1, hmm1, ok, hD, hring, hsb.1, hsb.2, fun H' kb hH' => k2 _ _ ⟨rfl, kb, hH'⟩⟩) _ fun v H2 hv => ?_
      obtain ⟨rfl, kb, hH2⟩ := hv
      refine ⟨true, rfl, ?_⟩
      rw [if_pos rfl]
      exact ev_c _ (q1 H2 ((Kb.of s1).trans kb) hH2 fun hn => hD.no hn)
theorem ok_w_levels_right (d : Df K mg "_law_levels_right" s_w_levels_right ["_law_hand_here", "_law_meter_here", "_law_made_here"]) (c_w_gain : Cal P w K mg base 1 "_law_gain" ["_law_meter_here", "_law_arrow"] (sp_w_gain A)) (c_w_inner : Cal P w K mg base 2 "_law_inner" ["_law_chart"] (sp_w_inner A))
    (c_part_levels : Cal P w K mg base 7 "part_levels" ["meter"] (sp_part_levels A)) (c_w_ring_right : Cal P w K mg base 6 "_law_ring_right" ["_law_hand_here", "_law_meter_here", "_law_made_here", "_law_told", "_law_sense"] (sp_w_ring_right A))
    (c_find_drift : Cal P w K mg base 6 "find_drift" ["meter"] (sp_find_drift A)) : Cal P w K mg base 8 "_law_levels_right" ["_law_hand_here", "_law_meter_here", "_law_made_here"] (sp_w_levels_right A) := by
  refine d.ok sc_w_levels_right (fun vs H Q E h => ?_) (fun f cdv A' outer s H vs Q E hr h => ?_)
  · obtain ⟨hh, ca, m, mm, M, rfl, _⟩ := h
    rfl
  · obtain ⟨hh, ca, m, mm, M, rfl, hH, hm, hmm, ok, q⟩ := h
    have hn16 : M.n ≤ 16 := ok.ch.n16
    have h32 := ok.ch.a32
    have hu64 := hr.units
    refine ⟨_, (pss_cons (ps_set (i := 3) sc_w_levels_right.nd rfl (.inl rfl) (pe_cal c_find_drift hr (by rfl) (pa_cons (pv 2) pa_nil)))
    (pss_cons (ps_if (pt_cmpR op_notNI (pv 3) pe_non (nomark _)) (pss_one (ps_ret (pe_cal c_w_ring_right hr (by rfl) (pa_cons (pv 0) (pa_cons (pv 1) (pa_cons (pv 2) (pa_cons (pv 3) (pa_cons pe_int pa_nil)))))))) pss_nil)
    (pss_cons (ps_set (i := 4) sc_w_levels_right.nd rfl (.inr rfl) (pe_cal c_part_levels hr (by rfl) (pa_cons (pv 2) pa_nil)))
    (pss_cons (ps_set (i := 5) sc_w_levels_right.nd rfl (.inr rfl) (pe_cal c_w_inner hr (by rfl) (pa_cons (pe_lst (pa_cons (pe_ix ix_any (pv 1) pe_int (fun _ _ => rfl)) (pa_cons (pe_ix ix_any (pv 1) pe_int (fun _ _ => rfl)) pa_nil))) pa_nil)))
    (pss_one (ps_ret (pe_cmpR (op_eqD hu64) (pe_lc (own := [("_law_k", 6)]) (g := (gName 6)) (tt := (tAnd (tB (tOp (rIxA K) (tVar 5) (tVar 6))) (tTest (tOp rNe (tOp (rIxA K) (tVar 4) (tOp (rIxA K) (tOp (rIxA K) (tOp (rIxA K) (tVar 1) (tC (.int 1))) (tVar 6)) (tC (.int 1)))) (tOp rAddI (tOp (rIxA K) (tVar 4) (tOp (rIxA K) (tOp (rIxA K) (tOp (rIxA K) (tVar 1) (tC (.int 1))) (tVar 6)) (tC (.int 0)))) (tCall (sp_w_gain A) [] E0 (tCons (tVar 1) (tCons (tVar 6) tNil)))))))) (te := (tVar 6)) rfl sc_w_levels_right.nd (pi_range1 (by rfl) T.z_range (pa_cons (pe_callB cr_len (by rfl) T.z_len (by decide +kernel) (pa_cons (pv 5) pa_nil)) pa_nil)) (blkOk_by (N := ["_law_hand_here", "_law_meter_here", "_law_made_here", "_law_drift", "_law_row", "_law_inner_here", "_law_k"]) (own := [("_law_k", 6)]) (sc := defScope s_w_levels_right) (by decide +kernel)) (fun _ _ _ _ _ => (pg_name (i := 6) sc_w_levels_right.nd rfl (.inl rfl))) (fun _ _ _ _ _ => (pts_one (PW.pt (pw_and (pt_val (pe_ix ix_any (pv 5) (pv 6) (fun _ _ => rfl))) (pw_and1 (pt_cmpR op_ne (pe_ix ix_any (pv 4) (pe_ix ix_any (pe_ix ix_any (pe_ix ix_any (pv 1) pe_int (fun _ _ => rfl)) (pv 6) (fun _ _ => rfl)) pe_int (fun _ _ => rfl)) (fun _ _ => rfl)) (pe_op op_addI (pe_ix ix_any (pv 4) (pe_ix ix_any (pe_ix ix_any (pe_ix ix_any (pv 1) pe_int (fun _ _ => rfl)) (pv 6) (fun _ _ => rfl)) pe_int (fun _ _ => rfl)) (fun _ _ => rfl)) (pe_cal c_w_gain hr (by rfl) (pa_cons (pv 1) (pa_cons (pv 6) pa_nil)))) (nomark _))))))) (fun _ _ _ _ _ => (pv 6))) (pe_lst pa_nil) (nomark _)))))))), ?_⟩
    refine sq_setR (Pc := fun v H' => Same H H' ∧ ((v = .non ∧ NoDrift M [1, -1]) ∨ ∃ p, v = .ref p ∧ H p = none ∧ DriftRes A M [1, -1] H' p)) (ev_callR (ea_cons (ev_var rfl) ea_nil) (fun Q2 k2 => ⟨mm, M, rfl, hmm, ok, fun hn H' s => k2 _ _ ⟨s, .inl ⟨rfl, hn⟩⟩, fun H' p s hp hD => k2 _ _ ⟨s, .inr ⟨p, rfl, hp, hD⟩⟩⟩)) fun v H1 hv => ?_
    obtain ⟨s1, hv⟩ := hv
    have hH1 := hH.s s1
    have hm1 := hm.s s1
    have hmm1 := hmm.s s1
    rcases hv with ⟨rfl, hno⟩ | ⟨p, rfl, hp, hD⟩
    · refine sq_if (et_test (ev_notN0 (ev_var rfl))) (fun z => by cases z) fun _ => pl_nx ?_
      refine sq_setR (Pc := fun v H' => ∃ r lv, v = .ref r ∧ Same H1 H' ∧ IT H' r lv ∧ LvOk M lv) (ev_callR (ea_cons (ev_var rfl) ea_nil) (fun Q2 k2 => ⟨mm, M, rfl, hmm1, ok, hno, fun H' r lv s hr hT hL => k2 _ _ ⟨r, lv, rfl, s, hT, hL⟩⟩)) fun v H2 hv => ?_
      obtain ⟨r, lv, rfl, s2, hT, hLv⟩ := hv
      have s12 := s1.trans s2
      have hm2 := hm.s s12
      -- inner
      obtain ⟨pc, hpc, hpct⟩ := rd_lm0 (K := K) (H := H2) (σ := [some (.ref hh), some (.ref m), some (.ref mm), some .non, some (.ref r), none, none]) (ta := tVar 1) hm2 (ev_var rfl)
      obtain ⟨pa, ps, hpa, hpt, hpe⟩ := rd_lm1 (K := K) (H := H2) (σ := [some (.ref hh), some (.ref m), some (.ref mm), some .non, some (.ref r), none, none]) (ta := tVar 1) hm2 (ev_var rfl)
      refine pl_seq (pl_set (pl_call (pl_cons (pl_lst ((ea_cons hpc (ea_cons hpa ea_nil)) _ ⟨by show 2 ≤ sizeLine; decide, fun cl hcl => ?_⟩)))))
      have s3 : Same H2 (upd H2 cl (.lst [.ref pc, .ref pa])) := same_upd hcl
      have hLC : LC (upd H2 cl (.lst [.ref pc, .ref pa])) cl M.costs M.arrows := ⟨pc, pa, upd_same, s3 _ _ hpct, ps, s3 _ _ hpt, hpe.mono fun p y e => s3 _ _ e⟩
      generalize upd H2 cl (.lst [.ref pc, .ref pa]) = H3 at s3 hLC
      refine ⟨cl, M.costs, M.arrows, rfl, hLC, ok.ch, fun H4 ia bs s4 hia hbs hbl hin => ?_⟩
      have s14 := s12.trans (s3.trans s4)
      have hm4 := hm.s s14
      have hT4 : IT H4 r lv := hT.kf (s3.trans s4).kf
      refine pl_nx (pl_ret (pl_op ?_))
      refine rd_lcFmR (n := M.arrows.length) (ea_cons ((ev_len (ev_var rfl) (SqA.l hbs)).is (by rw [List.length_map, hbl])) ea_nil) (by omega) (fun _ _ => none) (fun _ => rfl) (fun k H5 hk s5 => ?_) (fun k y H5 hk hy s5 => by cases hy) (fun D H5 hD s5 hL => ?_)
      · obtain ⟨t, hd, c, ha1, hc1, ht, hhd, hE⟩ := ok.at hk
        have hm5 := hm4.s s5
        have hT5 := s5 _ _ hT4
        refine ((et_and (b := bs.getD k false) (c := !decide (V.int (lv.getD hd 0) = V.int (lv.getD t 0 + (c - M.costs.getD t 0)))) (et_B (ev_ixn (ev_var rfl) (ev_var rfl) (SqA.l (s5 _ _ hbs)) (bool_at (by rw [hbl]; exact hk)))) fun _ => et_test (ev_ne (ev_ixn (ev_var rfl) (rd_lmhead hm5 (ev_var rfl) (ev_var rfl) ha1) (SqA.t hT5) (int_at (getD_at (by rw [hLv.len]; exact hhd)))) (ev_add (ev_ixn (ev_var rfl) (rd_lmtail hm5 (ev_var rfl) (ev_var rfl) ha1) (SqA.t hT5) (int_at (getD_at (by rw [hLv.len]; exact ht)))) (ev_wgain hm5 hE ht (ev_var rfl) (ev_var rfl))) rfl)).is ?_).s
        show _ = false
        cases hb : bs.getD k false with
        | false => rfl
        | true =>
          have := hLv.on k t hd _ hE ((hin k t hd ha1 hb).full ok.len)
          rw [decide_eq_true (congrArg V.int this)]
          rfl
      · have hL2 : H5 D = some (.lst []) := by
          rw [hL]
          refine congrArg (fun l => some (HO.lst l)) ?_
          generalize ((List.range M.arrows.length).map fun (i : Nat) => V.int (i : Int)) = xs
          generalize 0 = k
          induction xs generalizing k with
          | nil => rfl
          | cons x xs ih => exact ih (k + 1)
        refine pl_lst ⟨Nat.zero_le _, fun e he => ?_⟩
        have s6 : Same H5 (upd H5 e (.lst [])) := same_upd he
        refine ⟨.list [], .list [], .lst (SqL.of (s6 _ _ hL2)) .nil, .lst (SqL.of upd_same) .nil, sh_list [], sh_list [], ?_⟩
        have : PyData.eqv (.list []) (.list []) = true := by
          rw [PyData.eqv]
          exact eqv_ints []
        rw [this]
        exact q _ (Kb.of (s14.trans (s5.trans s6))) (hH.s (s14.trans (s5.trans s6)))
    · refine sq_if (et_test (ev_notN2 (ev_var rfl))) (fun _ => ?_) (fun z => by cases z)
      have hring : ∀ st ks, IsRing M [1, -1] st ks → gn M.E ks ≠ 0 ∧ 0 ≤ 0 * gn M.E ks := fun st ks hI => by
        obtain ⟨sg, hsg, h0⟩ := hI.sg
        exact ⟨fun e => by rw [e] at h0; simp at h0, by simp⟩
      refine pl_ret ?_
      refine ev_callR (us := [.ref hh, .ref m, .ref mm, .ref p, .int 0]) (Pc := fun v H' => v = .bl true ∧ Kb hh H1 H' ∧ HandAt H' hh ca) (ea_cons (ev_var rfl) (ea_cons (ev_var rfl) (ea_cons (ev_var rfl) (ea_cons (ev_var rfl) (ea_cons ev_c ea_nil))))) (fun Q2 k2 => ⟨hh, ca, m, mm, p, M, 0, [1, -1], rfl, hH1, hm1, hmm1, ok, hD, hring, by decide, by decide, fun H' kb hH' => k2 _ _ ⟨rfl, kb, hH'⟩⟩) _ fun v H2 hv => ?_
      obtain ⟨rfl, kb, hH2⟩ := hv
      exact q H2 ((Kb.of s1).trans kb) hH2
end
end K15
namespace K15
open PySem PySem.Spec PyProof.Rows L2 RZ
/-! ### cover_right, even_right, law -/
def sp_law (K : PySem.W.Frag) : Sp := fun vs H Q _ => ∃ (a : Addr) (ns : List Int), vs = [.ref a] ∧ SqL K H a (ns.map V.int) ∧ ns.length ≤ 1000 ∧ ∀ H', Q (.bl true) H'
section
variable {P : Program} {w : World} {K : PySem.W.Frag} {mg : Str → Option Value} {base : Heap} {A : Ad} (T : Txt K mg A)
include T
theorem ok_w_cover_right (d : Df K mg "_law_cover_right" s_w_cover_right ["_law_meter_here", "_law_made_here", "_law_lows"]) (c_w_sum : Cal P w K mg base 2 "_law_sum" ["_law_meter_here", "_law_arrows"] (sp_w_sum A)) (c_w_ends : Cal P w K mg base 1 "_law_ends" ["_law_meter_here", "_law_run_here"] (sp_w_ends A))
    (c_least_first : Cal P w K mg base 9 "least_first" ["meter"] (sp_least_first A)) (c_find_short : Cal P w K mg base 7 "find_short" ["meter"] (sp_find_short A)) : Cal P w K mg base 10 "_law_cover_right" ["_law_meter_here", "_law_made_here", "_law_lows"] (sp_w_cover_right A) := by
  refine d.ok sc_w_cover_right (fun vs H Q E h => ?_) (fun f cdv A' outer s H vs Q E hr h => ?_)
  · obtain ⟨m, mm, M, lv, rfl, _⟩ := h
    rfl
  · obtain ⟨m, mm, M, lv, rfl, hm, hmm, ok, hlv, q⟩ := h
    have hn16 : M.n ≤ 16 := ok.ch.n16
    have hn1 : 1 ≤ M.n := ok.ch.n1
    refine ⟨_, (pss_cons (ps_set (i := 3) sc_w_cover_right.nd rfl (.inl rfl) (pe_cal c_find_short hr (by rfl) (pa_cons (pv 1) pa_nil)))
    (pss_cons (ps_if (pt_cmpR op_isNI (pv 2) pe_non (nomark _)) (pss_one (ps_ret (pe_callB call_isi (by rfl) T.z_isinstance (by decide +kernel) (pa_cons (pv 3) (pa_cons (pe_glob (v := .ref _) (by rfl) T.g_dr rfl) pa_nil))))) pss_nil)
    (pss_cons (ps_set (i := 4) sc_w_cover_right.nd rfl (.inl rfl) (pe_callB (cr_min rfl) (by rfl) T.z_min (by decide +kernel) (pa_cons (pe_lc (own := [("_law_place", 6)]) (g := (gName 6)) (tt := tYes) (te := (tOp rSubI (tOp (rIxA K) (tVar 2) (tVar 6)) (tOp (rIxA K) (tOp (rIxA K) (tVar 0) (tC (.int 0))) (tVar 6)))) rfl sc_w_cover_right.nd (pi_range1 (by rfl) T.z_range (pa_cons (pe_callB cr_len (by rfl) T.z_len (by decide +kernel) (pa_cons (pv 2) pa_nil)) pa_nil)) (blkOk_by (N := ["_law_meter_here", "_law_made_here", "_law_lows", "_law_told", "_law_spare", "_law_last_here", "_law_place"]) (own := [("_law_place", 6)]) (sc := defScope s_w_cover_right) (by decide +kernel)) (fun _ _ _ _ _ => (pg_name (i := 6) sc_w_cover_right.nd rfl (.inl rfl))) (fun _ _ _ _ _ => pts_nil) (fun _ _ _ _ _ => (pe_op op_subI (pe_ix ix_any (pv 2) (pv 6) (fun _ _ => rfl)) (pe_ix ix_any (pe_ix ix_any (pv 0) pe_int (fun _ _ => rfl)) (pv 6) (fun _ _ => rfl))))) pa_nil)))
    (pss_cons (ps_if (pt_cmpR op_ne (pe_cal c_least_first hr (by rfl) (pa_cons (pv 1) pa_nil)) (pe_op op_subI (pe_ix ix_any (pv 0) pe_int (fun _ _ => rfl)) (pv 4)) (nomark _)) (pss_one (ps_ret pe_bl)) pss_nil)
    (pss_cons (ps_if (pt_cmpR op_isNI (pv 3) pe_non (nomark _)) (pss_one (ps_ret (pe_cmpR op_geI (pv 4) pe_int (nomark _)))) pss_nil)
    (pss_cons (ps_if (pt_not (pt_val (pe_callB call_isi (by rfl) T.z_isinstance (by decide +kernel) (pa_cons (pv 3) (pa_cons (pe_glob (v := .ref _) (by rfl) T.g_sh rfl) pa_nil))))) (pss_one (ps_ret pe_bl)) pss_nil)
    (pss_cons (ps_set (i := 5) sc_w_cover_right.nd rfl (.inl rfl) (pe_cal c_w_ends hr (by rfl) (pa_cons (pv 0) (pa_cons (pe_fld (pv 3) rfl) pa_nil))))
    (pss_one (ps_ret (pe_and (pe_cmpR op_notNI (pv 5) pe_non (nomark _)) (pe_and (pe_chain op_ltI op_ltI (pv 4) pe_int (pe_fld (pv 3) rfl)) (pe_one (pe_cmpR op_eq (pe_op op_subI (pe_op op_addI (pe_ix ix_any (pv 0) pe_int (fun _ _ => rfl)) (pe_cal c_w_sum hr (by rfl) (pa_cons (pv 0) (pa_cons (pe_fld (pv 3) rfl) pa_nil)))) (pe_ix ix_any (pe_ix ix_any (pv 0) pe_int (fun _ _ => rfl)) (pv 5) (fun _ _ => rfl))) (pe_un un_negI (pe_fld (pv 3) rfl)) (nomark _)))))))))))))), ?_⟩
    refine sq_setR (Pc := fun v H' => Same H H' ∧ ((∃ p, v = .ref p ∧ DriftRes A M [-1] H' p) ∨ (∃ p ks x, v = .ref p ∧ NoDrift M [-1] ∧ Wk M.E 0 ks x ∧ 0 < M.costs.getD x 0 - (M.first + gn M.E ks) ∧ ShortAt A H' p ks (M.costs.getD x 0 - (M.first + gn M.E ks)) ∧ ks.length ≤ 400) ∨ (v = .non ∧ NoDrift M [-1] ∧ Covers M))) (fun Q5 k5 => ?_) fun v H1 hv => ?_
    · classical
      refine ev_callR (Pc := fun v H' => Same H H' ∧ ((∃ p, v = .ref p ∧ DriftRes A M [-1] H' p) ∨ (∃ p ks x, v = .ref p ∧ NoDrift M [-1] ∧ Wk M.E 0 ks x ∧ 0 < M.costs.getD x 0 - (M.first + gn M.E ks) ∧ ShortAt A H' p ks (M.costs.getD x 0 - (M.first + gn M.E ks)) ∧ ks.length ≤ 400) ∨ (v = .non ∧ NoDrift M [-1] ∧ Covers M))) (ea_cons (ev_var rfl) ea_nil) (fun Q2 k2 => ⟨mm, M, rfl, hmm, ok, fun H' p s hp hD => k2 _ _ ⟨s, .inl ⟨p, rfl, hD⟩⟩, fun hn => ⟨fun H' p ks x s hp hw h0 hl hS => k2 _ _ ⟨s, .inr (.inl ⟨p, ks, x, rfl, hn, hw, h0, hS, hl⟩)⟩, fun hc H' s => k2 _ _ ⟨s, .inr (.inr ⟨rfl, hn, hc⟩)⟩⟩⟩) _ k5
    obtain ⟨s1, hv⟩ := hv
    rcases hlv with ⟨rfl, hnd⟩ | ⟨r, ls, rfl, hT, hR, hno⟩
    · -- lows is None
      refine sq_if (et_test (ev_isN0 (ev_var rfl))) (fun _ => ?_) (fun z => by cases z)
      have hD : ∃ p, v = .ref p ∧ DriftRes A M [-1] H1 p := by
        rcases hv with h | ⟨p, ks, x, _, hn, _⟩ | ⟨_, hn, _⟩
        · exact h
        · exact (hnd hn).elim
        · exact (hnd hn).elim
      obtain ⟨p, rfl, ks, st, ⟨dx, pr, h1, h2⟩, _⟩ := hD
      exact pl_ret (ev_isDr T (ev_var rfl) h1 _ (q H1 s1))
    · have hv2 : (∃ p ks x, v = .ref p ∧ Wk M.E 0 ks x ∧ 0 < M.costs.getD x 0 - (M.first + gn M.E ks) ∧ ShortAt A H1 p ks (M.costs.getD x 0 - (M.first + gn M.E ks)) ∧ ks.length ≤ 400) ∨ (v = .non ∧ Covers M) := by
        rcases hv with ⟨p, _, hD⟩ | ⟨p, ks, x, e, _, h⟩ | h
        · exact (hD.no hno).elim
        · exact .inl ⟨p, ks, x, e, h⟩
        · exact .inr ⟨h.1, h.2.2⟩
      refine sq_if (et_test (ev_isN2 (ev_var rfl))) (fun z => by cases z) fun _ => pl_nx ?_
      have hT1 : IT H1 r ls := hT.kf s1.kf
      have hm1 := hm.s s1
      have hmm1 := hmm.s s1
      -- spare
      refine pl_seq (pl_set (pl_cb1 ?_))
      refine rd_lcFmR (n := M.n) (ea_cons ((ev_len (ev_var rfl) (SqA.t hT1)).is (by rw [List.length_map, hR.1])) ea_nil) (by omega) (fun k _ => some (.int (ls.getD k 0 - M.costs.getD k 0))) (fun _ => rfl) (fun k G hk s3 => EtS.yes) (fun k y G hk hy s3 => ?_) (fun D G hD s3 hL => ?_)
      · have ey := Option.some.inj hy
        subst ey
        exact (ev_sub (ev_ixn (ev_var rfl) (ev_var rfl) (SqA.t (s3 _ _ hT1)) (int_at (getD_at (by rw [hR.1]; exact hk)))) (rd_lmcost (hm1.s s3) (ev_var rfl) (ev_var rfl) hk)).s
      · rw [fmI_idxV, List.length_map, List.length_range, ← List.range_eq_range'] at hL
        have hL2 : G D = some (.lst (((List.range M.n).map fun k => ls.getD k 0 - M.costs.getD k 0).map V.int)) := by
          rw [hL, List.map_map]
          rfl
        refine ⟨D, _, rfl, SqL.of hL2, by rw [List.length_map, List.length_range]; exact hn1, fun x hx hle => ?_⟩
        have hspare : IsSpare M ls x := by
          obtain ⟨p, hp, e⟩ := List.mem_map.mp hx
          exact ⟨⟨p, List.mem_range.mp hp, e.symm⟩, fun p' hp' => hle _ (List.mem_map.mpr ⟨p', List.mem_range.mpr hp', rfl⟩)⟩
        have s13 := s1.trans s3
        have hmm3 := hmm.s s13
        have hm3 := hm.s s13
        -- least_first
        have hxx : ∀ ls' x', IsRow M (-1) ls' → IsSpare M ls' x' → V.int (M.first - x') = V.int (M.first - x) := fun ls' x' hR' hS' => by
          have e1 : ls' = ls := hR'.uniq hR (.inr rfl)
          subst e1
          rw [hS'.uniq hspare]
        refine pl_nx (sq_neverS (fun Q5 k5 => ?_) fun G2 s4 => ?_)
        · refine pl_test (pl_op ?_)
          refine ev_callR (Pc := fun v G2 => v = .int (M.first - x) ∧ Same G G2) (ea_cons (ev_var rfl) ea_nil) (fun Q2 k2 => ⟨mm, M, rfl, hmm3, ok, hno, fun H' ls' x' s hR' hS' => k2 _ _ ⟨hxx ls' x' hR' hS', s⟩⟩) _ fun v G2 hv => ?_
          obtain ⟨rfl, s4⟩ := hv
          refine (ev_sub (rd_lm2 (hm3.s s4) (ev_var rfl)) (ev_var rfl)) _ ⟨rfl, _, rfl, ?_⟩
          rw [decide_eq_true rfl]
          exact k5 G2 s4
        · have s14 := s13.trans s4
          have hm4 := hm.s s14
          rcases hv2 with ⟨p, ks, v, rfl, hw, h0, ⟨dx, pr, hp1, hpr⟩, hkl⟩ | ⟨rfl, hc⟩
          · refine sq_if (et_test (ev_isN2 (ev_var rfl))) (fun z => by cases z) fun _ => pl_nx ?_
            have hp4 := s4 _ _ (s3 _ _ hp1)
            have hpr4 : NT G2 pr ks := hpr.kf (s3.trans s4).kf
            refine sq_never ((et_not (et_B (ev_isSh T (ev_var rfl) hp4))).is rfl) ?_
            have hvl := hw.lt ok.E_lt hn1
            have hle : x ≤ ls.getD v 0 - M.costs.getD v 0 := hspare.2 v hvl
            have hlow := (hR.2 v hvl).2 ks hw
            have hrun : ∀ {H' : Hp} (σ : L2.St), σ[3]? = some (some (.ref p)) → H' p = some (.ins A.sh dx (shF pr (M.costs.getD v 0 - (M.first + gn M.E ks)))) → EvE (tFld K (tVar 3) "run") σ H' (.ref pr) ∧ EvE (tFld K (tVar 3) "by") σ H' (.int (M.costs.getD v 0 - (M.first + gn M.E ks))) := fun σ h3 h => ⟨ev_fld (ev_var h3) h T.cl_sh T.n_sh_run (shF_run _ _), ev_fld (ev_var h3) h T.cl_sh T.n_sh_by (shF_by _ _)⟩
            obtain ⟨run4, by4⟩ := hrun (H' := G2) [some (.ref m), some (.ref mm), some (.ref r), some (.ref p), some (.int x), none, none] rfl hp4
            refine sq_set (ev_ends hm4 ok (.inr hpr4) hw (ev_var rfl) run4) ?_
            obtain ⟨run5, by5⟩ := hrun (H' := G2) [some (.ref m), some (.ref mm), some (.ref r), some (.ref p), some (.int x), some (nv v), none] rfl hp4
            refine pl_ret (and_yes (ev_notN1 (a := (v : Int)) (ev_var rfl)) (and_yes ((ev_chain (k := decide (x < 0)) (l := decide (0 < M.costs.getD v 0 - (M.first + gn M.E ks))) (ev_var rfl) ev_c (fun _ q => ⟨_, _, rfl, rfl, q⟩) (fun _ => by5) (fun _ _ q => ⟨_, _, rfl, rfl, q⟩)).is (by rw [decide_eq_true (show x < 0 by omega), decide_eq_true h0]; rfl)) ?_))
            refine pl_op (pl_op (pl_op (rd_lm2 hm4 (ev_var rfl) _ (ev_wsum hm4 ok (.inr hpr4) (by omega) (hw.E_idx ok) (ev_var rfl) run5 _ fun u G3 hu => ?_))))
            obtain ⟨rfl, s5⟩ := hu
            have hp5 := s5 _ _ hp4
            obtain ⟨run6, by6⟩ := hrun (H' := G3) [some (.ref m), some (.ref mm), some (.ref r), some (.ref p), some (.int x), some (nv v), none] rfl hp5
            refine ⟨_, _, rfl, rfl, rd_lmcost (hm4.s s5) (ev_var rfl) (ev_var rfl) hvl _ ⟨_, _, rfl, rfl, (ev_neg by6) _ ⟨rfl, ?_⟩⟩⟩
            rw [decide_eq_true (show V.int (M.first + gn M.E ks - M.costs.getD v 0) = V.int (-(M.costs.getD v 0 - (M.first + gn M.E ks))) from congrArg V.int (by omega))]
            exact q G3 (s14.trans s5)
          · refine sq_if (et_test (ev_isN0 (ev_var rfl))) (fun _ => ?_) (fun z => by cases z)
            have hx0 : 0 ≤ x := by
              obtain ⟨⟨p, hp, e⟩, _⟩ := hspare
              obtain ⟨⟨ks, w, el⟩, _⟩ := hR.2 p hp
              have := hc ks p w
              omega
            refine pl_ret ((ev_ge (ev_var rfl) ev_c).is (by rw [decide_eq_true hx0]) _ (q G2 s14))
theorem ok_w_even_right (d : Df K mg "_law_even_right" s_w_even_right ["_law_meter_here", "_law_made_here", "_law_lows", "_law_highs"]) (c_w_sum : Cal P w K mg base 2 "_law_sum" ["_law_meter_here", "_law_arrows"] (sp_w_sum A)) (c_w_ends : Cal P w K mg base 1 "_law_ends" ["_law_meter_here", "_law_run_here"] (sp_w_ends A))
    (c_even_leads : Cal P w K mg base 10 "even_leads" ["meter"] (sp_even_leads A)) : Cal P w K mg base 11 "_law_even_right" ["_law_meter_here", "_law_made_here", "_law_lows", "_law_highs"] (sp_w_even_right A) := by
  refine d.ok sc_w_even_right (fun vs H Q E h => ?_) (fun f cdv A' outer s H vs Q E hr h => ?_)
  · obtain ⟨m, mm, M, lv, hv, rfl, _⟩ := h
    rfl
  · obtain ⟨m, mm, M, lv, hv, rfl, hm, hmm, ok, hlv, hhv, q⟩ := h
    have hu64 := hr.units
    refine ⟨_, (pss_cons (ps_set (i := 4) sc_w_even_right.nd rfl (.inl rfl) (pe_cal c_even_leads hr (by rfl) (pa_cons (pv 1) pa_nil)))
    (pss_cons (ps_if (pt_not (pt_val (pe_callB call_isi (by rfl) T.z_isinstance (by decide +kernel) (pa_cons (pv 4) (pa_cons (pe_glob (v := .ref _) (by rfl) T.g_un rfl) pa_nil))))) (pss_one (ps_ret (pe_and (pe_cmpR op_notNI (pv 2) pe_non (nomark _)) (pe_and (pe_cmpR op_notNI (pv 3) pe_non (nomark _)) (pe_and (pe_cmpR (op_eqD hu64) (pv 4) (pv 2) (nomark _)) (pe_one (pe_cmpR (op_eqD hu64) (pv 4) (pv 3) (nomark _)))))))) pss_nil)
    (pss_cons (ps_if (PW.pt (pw_or (pt_cmpR op_ne (pe_cal c_w_ends hr (by rfl) (pa_cons (pv 0) (pa_cons (pe_fld (pv 4) rfl) pa_nil))) (pe_fld (pv 4) rfl) (nomark _)) (pw_or1 (pt_cmpR op_ne (pe_cal c_w_ends hr (by rfl) (pa_cons (pv 0) (pa_cons (pe_fld (pv 4) rfl) pa_nil))) (pe_fld (pv 4) rfl) (nomark _))))) (pss_one (ps_ret pe_bl)) pss_nil)
    (pss_one (ps_ret (pe_cmpR op_ne (pe_cal c_w_sum hr (by rfl) (pa_cons (pv 0) (pa_cons (pe_fld (pv 4) rfl) pa_nil))) (pe_cal c_w_sum hr (by rfl) (pa_cons (pv 0) (pa_cons (pe_fld (pv 4) rfl) pa_nil))) (nomark _))))))), ?_⟩
    refine sq_setR (Pc := fun v H' => Same H H' ∧ ((∃ x p one other, v = .ref x ∧ p < M.n ∧ Wk M.E 0 one p ∧ Wk M.E 0 other p ∧ gn M.E one ≠ gn M.E other ∧ one.length ≤ 400 ∧ other.length ≤ 400 ∧ UnevenAt A H' x p one other) ∨ ∃ l ls, v = .ref l ∧ NoDrift M [1, -1] ∧ IsRow M (-1) ls ∧ IsRow M 1 ls ∧ IT H' l ls))
      (ev_callR (ea_cons (ev_var rfl) ea_nil) fun Q2 k2 => ⟨mm, M, rfl, hmm, ok, fun H' x p one other s hx hp h1 h2 hne hl1 hl2 hU => k2 _ _ ⟨s, .inl ⟨x, p, one, other, rfl, hp, h1, h2, hne, hl1, hl2, hU⟩⟩, fun H' l ls s hl hn hR1 hR2 hT => k2 _ _ ⟨s, .inr ⟨l, ls, rfl, hn, hR1, hR2, hT⟩⟩⟩) fun v H1 hv => ?_
    obtain ⟨s1, hv⟩ := hv
    have hm1 := hm.s s1
    rcases hv with ⟨x, p, one, other, rfl, hp, hw1, hw2, hne, hl1, hl2, dx, a, b, hx, ha, hb⟩ | ⟨l, ls, rfl, hno, hR1, hR2, hT⟩
    · refine sq_if ((et_not (et_B (ev_isUn T (ev_var rfl) hx))).is rfl) (fun z => by cases z) fun _ => pl_nx ?_
      have hfld : ∀ {H' : Hp}, Same H1 H' → EvE (tFld K (tVar 4) "place") [some (.ref m), some (.ref mm), some lv, some hv, some (.ref x)] H' (nv p) ∧ EvE (tFld K (tVar 4) "one") [some (.ref m), some (.ref mm), some lv, some hv, some (.ref x)] H' (.ref a) ∧ EvE (tFld K (tVar 4) "other") [some (.ref m), some (.ref mm), some lv, some hv, some (.ref x)] H' (.ref b) := fun s => ⟨ev_fld (ev_var rfl) (s _ _ hx) T.cl_un T.n_un_place (unF_place _ _ _), ev_fld (ev_var rfl) (s _ _ hx) T.cl_un T.n_un_one (unF_one _ _ _), ev_fld (ev_var rfl) (s _ _ hx) T.cl_un T.n_un_other (unF_other _ _ _)⟩
      obtain ⟨e1, e2, e3⟩ := hfld (Same.refl H1)
      refine sq_never ((et_or (b := false) (c := false) ((et_test (ev_ne (ev_ends hm1 ok (.inr ha) hw1 (ev_var rfl) e2) e1 rfl)).is (by simp)) fun _ => (et_test (ev_ne (ev_ends hm1 ok (.inr hb) hw2 (ev_var rfl) e3) e1 rfl)).is (by simp)).is rfl) ?_
      refine pl_ret (pl_op (ev_wsum hm1 ok (.inr ha) (by omega) (hw1.E_idx ok) (ev_var rfl) e2 _ fun u H2 hu => ?_))
      obtain ⟨rfl, s2⟩ := hu
      obtain ⟨f1, f2, f3⟩ := hfld s2
      refine ev_wsum (hm1.s s2) ok (.inr (hb.kf s2.kf)) (by omega) (hw2.E_idx ok) (ev_var rfl) f3 _ fun u H3 hu => ?_
      obtain ⟨rfl, s3⟩ := hu
      refine ⟨rfl, ?_⟩
      rw [decide_eq_false (fun e => hne (V.int.inj e))]
      exact q H3 ((s1.trans s2).trans s3)
    · refine sq_if ((et_not (et_B (ev_isUnT T (ev_var rfl) hT))).is rfl) (fun _ => ?_) (fun z => by cases z)
      rcases hlv with ⟨_, hn⟩ | ⟨r1, l1, rfl, hT1, hRl, _⟩
      · exact (hn hno.low).elim
      rcases hhv with ⟨_, hn⟩ | ⟨r2, l2, rfl, hT2, hRh, _⟩
      · exact (hn hno.high).elim
      have el : l1 = ls := hRl.uniq hR1 (.inr rfl)
      have eh : l2 = ls := hRh.uniq hR2 (.inl rfl)
      subst el
      subst eh
      have heq : PyData.eqv (.tuple (l2.map PyData.int)) (.tuple (l2.map PyData.int)) = true := by
        rw [PyData.eqv]
        exact eqv_ints _
      have hD : Dp K H1 (.ref l) (.tuple (l2.map PyData.int)) := .tup (SqT.of hT) (dp_ints _)
      have hD1 : Dp K H1 (.ref r1) (.tuple (l2.map PyData.int)) := .tup (SqT.of (hT1.kf s1.kf)) (dp_ints _)
      have hD2 : Dp K H1 (.ref r2) (.tuple (l2.map PyData.int)) := .tup (SqT.of (hT2.kf s1.kf)) (dp_ints _)
      have ev1 : EvE (tOp (rEqD K) (tVar 4) (tVar 2)) [some (.ref m), some (.ref mm), some (.ref r1), some (.ref r2), some (.ref l)] H1 (.bl true) := ev_op (ev_var rfl) (ev_var rfl) fun Q q => ⟨_, _, hD, hD1, sh_tup _, sh_tup _, by rw [heq]; exact q⟩
      have ev2 : EvE (tOp (rEqD K) (tVar 4) (tVar 3)) [some (.ref m), some (.ref mm), some (.ref r1), some (.ref r2), some (.ref l)] H1 (.bl true) := ev_op (ev_var rfl) (ev_var rfl) fun Q q => ⟨_, _, hD, hD2, sh_tup _, sh_tup _, by rw [heq]; exact q⟩
      exact pl_ret (and_yes (ev_notN2 (p := r1) (ev_var rfl)) (and_yes (ev_notN2 (p := r2) (ev_var rfl)) (and_yes ev1 (ev2 _ (q H1 s1)))))
end
end K15
namespace K15
open PySem PySem.Spec PyProof.Rows L2 RZ
/-! ### law -/
theorem SideV.kf {M : Mt} {sense : Int} {v : V} {H H' : Hp} (h : SideV M sense v H) (k : KeepF H H') : SideV M sense v H' := by
  rcases h with h | ⟨r, ls, h1, h2, h3⟩
  · exact .inl h
  · exact .inr ⟨r, ls, h1, h2.kf k, h3⟩
theorem sq_neverR {σ : L2.St} {H : Hp} {tt : TT} {t1 t2 : TS} {D : Ends} {Pc : Hp → Prop} (h : ∀ Q : Bool → Hp → Prop, (∀ H', Pc H' → Q false H') → tt σ H Q) (k : ∀ H', Pc H' → t2 D σ H') : tSeq (tIfS tt t1 tNext) t2 D σ H :=
  h _ fun H' p => (by rw [if_neg Bool.false_ne_true]; exact k H' p)
theorem ev_isF {σ : L2.St} {H : Hp} {ta : TE} {M : Mt} {sense : Int} {v : V} (h : SideV M sense v H) (ha : EvE ta σ H v) : EvE (tOp rIsF ta (tC (.bl false))) σ H (.bl false) := by
  rcases h with ⟨rfl, _⟩ | ⟨r, ls, rfl, _⟩
  · exact ev_op ha ev_c fun Q q => ⟨rfl, .inl ⟨rfl, q⟩⟩
  · exact ev_op ha ev_c fun Q q => ⟨rfl, .inr ⟨r, rfl, q⟩⟩
section
variable {P : Program} {w : World} {K : PySem.W.Frag} {mg : Str → Option Value} {base : Heap} {A : Ad} (T : Txt K mg A)
include T
theorem ok_law {fa : Addr} {fd : FuncData} (F : Fun K "law" "law" s_law fa fd) (c_Meterlead_behind : CalM P w K mg base 5 A.me "lead_behind" ["self", "run"] (sp_Meterlead_behind A)) (c_Meterlead_ahead : CalM P w K mg base 5 A.me "lead_ahead" ["self", "run"] (sp_Meterlead_ahead A))
    (c_w_gain : Cal P w K mg base 1 "_law_gain" ["_law_meter_here", "_law_arrow"] (sp_w_gain A)) (c_w_run : Cal P w K mg base 3 "_law_run" ["_law_hand_here", "_law_chart", "_law_most"] (sp_w_run A)) (c_greatest_lead : Cal P w K mg base 9 "greatest_lead" ["meter"] (sp_greatest_lead A))
    (c_w_even_right : Cal P w K mg base 11 "_law_even_right" ["_law_meter_here", "_law_made_here", "_law_lows", "_law_highs"] (sp_w_even_right A)) (c_w_cover_right : Cal P w K mg base 10 "_law_cover_right" ["_law_meter_here", "_law_made_here", "_law_lows"] (sp_w_cover_right A))
    (c_w_levels_right : Cal P w K mg base 8 "_law_levels_right" ["_law_hand_here", "_law_meter_here", "_law_made_here"] (sp_w_levels_right A)) (c_w_side : Cal P w K mg base 10 "_law_side" ["_law_hand_here", "_law_meter_here", "_law_made_here", "_law_sense"] (sp_w_side A))
    (c_w_made : Cal P w K mg base 4 "_law_made" ["_law_hand_here", "_law_meter_here"] (sp_w_made A)) (c_w_meter : Cal P w K mg base 4 "_law_meter" ["_law_hand_here", "_law_chart"] (sp_w_meter A)) (c_w_wide : Cal P w K mg base 4 "_law_wide" ["_law_hand_here"] (sp_w_wide A))
    (c_w_hand : Cal P w K mg base 1 "_law_hand" ["_law_script"] (sp_w_hand K)) : FnOk P w K mg base CX0 12 fa fd ["_law_script"] (sp_law K) := by
  refine F.ok sc_law (fun vs H Q E h => ?_) (fun cdv A' outer s H vs Q E hr h => ?_)
  · obtain ⟨a, ns, rfl, _⟩ := h
    rfl
  · obtain ⟨a, ns, rfl, hL, hlen, q⟩ := h
    refine ⟨_, (pss_cons (ps_set (i := 1) sc_law.nd rfl (.inl rfl) (pe_cal c_w_hand hr (by rfl) (pa_cons (pv 0) pa_nil)))
    (pss_cons (ps_set (i := 2) sc_law.nd rfl (.inl rfl) (pe_cal c_w_wide hr (by rfl) (pa_cons (pv 1) pa_nil)))
    (pss_cons (ps_set (i := 3) sc_law.nd rfl (.inl rfl) (pe_cal c_w_meter hr (by rfl) (pa_cons (pv 1) (pa_cons (pv 2) pa_nil))))
    (pss_cons (ps_set (i := 4) sc_law.nd rfl (.inl rfl) (pe_cal c_w_made hr (by rfl) (pa_cons (pv 1) (pa_cons (pv 3) pa_nil))))
    (pss_cons (ps_set (i := 5) sc_law.nd rfl (.inl rfl) (pe_cal c_w_side hr (by rfl) (pa_cons (pv 1) (pa_cons (pv 3) (pa_cons (pv 4) (pa_cons (pe_un un_negI pe_int) pa_nil))))))
    (pss_cons (ps_set (i := 6) sc_law.nd rfl (.inl rfl) (pe_cal c_w_side hr (by rfl) (pa_cons (pv 1) (pa_cons (pv 3) (pa_cons (pv 4) (pa_cons pe_int pa_nil))))))
    (pss_cons (ps_if (PW.pt (pw_or (pt_cmpR op_isF (pv 5) pe_bl (nomark _)) (pw_or (pt_cmpR op_isF (pv 6) pe_bl (nomark _)) (pw_or1 (pt_not (pt_val (pe_cal c_w_levels_right hr (by rfl) (pa_cons (pv 1) (pa_cons (pv 3) (pa_cons (pv 4) pa_nil)))))))))) (pss_one (ps_ret pe_bl)) pss_nil)
    (pss_cons (ps_if (PW.pt (pw_or (pt_not (pt_val (pe_cal c_w_cover_right hr (by rfl) (pa_cons (pv 3) (pa_cons (pv 4) (pa_cons (pv 5) pa_nil)))))) (pw_or1 (pt_not (pt_val (pe_cal c_w_even_right hr (by rfl) (pa_cons (pv 3) (pa_cons (pv 4) (pa_cons (pv 5) (pa_cons (pv 6) pa_nil)))))))))) (pss_one (ps_ret pe_bl)) pss_nil)
    (pss_cons (ps_if (PW.pt (pw_and (pt_cmpR op_notNI (pv 6) pe_non (nomark _)) (pw_and1 (pt_cmpR op_ne (pe_cal c_greatest_lead hr (by rfl) (pa_cons (pv 4) pa_nil)) (pe_callB (cr_max rfl) (by rfl) T.z_max (by decide +kernel) (pa_cons (pe_callTy cr_list (by rfl) T.z_list (by decide +kernel) (pa_cons (pv 6) pa_nil)) pa_nil)) (nomark _))))) (pss_one (ps_ret pe_bl)) pss_nil)
    (pss_cons (ps_set (i := 7) sc_law.nd rfl (.inl rfl) (pe_cal c_w_run hr (by rfl) (pa_cons (pv 1) (pa_cons (pv 2) (pa_cons pe_int pa_nil)))))
    (pss_cons (ps_set (i := 8) sc_law.nd rfl (.inl rfl) (pe_ix ix_any (pv 3) pe_int (fun _ _ => rfl)))
    (pss_cons (ps_set (i := 9) sc_law.nd rfl (.inl rfl) pe_int)
    (pss_cons (ps_for PassesOwn.never rfl (pi_seq (pv 7)) (pg_name (i := 10) sc_law.nd rfl (.inl rfl)) (pss_cons (ps_if (PW.pt (pw_or (PW.pt (pw_and (pt_cmpR op_notNI (pv 5) pe_non (nomark _)) (pw_and1 (pt_cmpR op_ltI (pv 8) (pe_ix ix_any (pv 5) (pv 9) (fun _ _ => rfl)) (nomark _))))) (pw_or1 (PW.pt (pw_and (pt_cmpR op_notNI (pv 6) pe_non (nomark _)) (pw_and1 (pt_cmpR op_gtI (pv 8) (pe_ix ix_any (pv 6) (pv 9) (fun _ _ => rfl)) (nomark _)))))))) (pss_one (ps_ret pe_bl)) pss_nil)
    (pss_cons (ps_set (i := 8) sc_law.nd rfl (.inl rfl) (pe_op op_addI (pv 8) (pe_cal c_w_gain hr (by rfl) (pa_cons (pv 3) (pa_cons (pv 10) pa_nil)))))
    (pss_one (ps_set (i := 9) sc_law.nd rfl (.inl rfl) (pe_ix ix_any (pe_ix ix_any (pe_ix ix_any (pv 3) pe_int (fun _ _ => rfl)) (pv 10) (fun _ _ => rfl)) pe_int (fun _ _ => rfl)))))))
    (pss_one (ps_ret (pe_and (pe_cmpR op_eq (pe_mcal c_Meterlead_ahead hr (pv 4) (pa_cons (pv 7) pa_nil)) (pv 8) (nomark _)) (pe_one (pe_cmpR op_eq (pe_mcal c_Meterlead_behind hr (pv 4) (pa_cons (pv 7) pa_nil)) (pe_op op_subI (pv 8) (pe_ix ix_any (pe_ix ix_any (pv 3) pe_int (fun _ _ => rfl)) (pv 9) (fun _ _ => rfl))) (nomark _))))))))))))))))))), ?_⟩
    -- hand, chart, meter, made
    refine sq_setR (Pc := fun v H1 => ∃ hh ca, v = .ref hh ∧ HandAt H1 hh ca) (ev_callR (ea_cons (ev_var rfl) ea_nil) fun Q2 k2 => ⟨a, ns, rfl, hL, hlen, fun H1 hh ca s hH => k2 _ _ ⟨hh, ca, rfl, hH⟩⟩) fun v H1 hv => ?_
    obtain ⟨hh, ca, rfl, hH1⟩ := hv
    refine sq_setR (Pc := fun v H2 => ∃ c cs ar, v = .ref c ∧ Kb hh H1 H2 ∧ HandAt H2 hh ca ∧ LC H2 c cs ar ∧ ChOk cs ar ∧ (∀ z ∈ cs, 0 ≤ z ∧ z ≤ 1000000000) ∧ ∀ p, p < cs.length → Reach ar p) (ev_callR (ea_cons (ev_var rfl) ea_nil) fun Q2 k2 => ⟨hh, ca, rfl, hH1, fun H2 c cs ar kb hH hc hLC h1 h2 h3 => k2 _ _ ⟨c, cs, ar, rfl, kb, hH, hLC, h1, h2, h3⟩⟩) fun v H2 hv => ?_
    obtain ⟨c, cs, ar, rfl, kb2, hH2, hc2, hok, hcs, hre⟩ := hv
    refine sq_setR (Pc := fun v H3 => ∃ m M, v = .ref m ∧ Kb hh H2 H3 ∧ HandAt H3 hh ca ∧ LM H3 m M ∧ MOk M ∧ M.costs = cs ∧ M.arrows = ar) (ev_callR (ea_cons (ev_var rfl) (ea_cons (ev_var rfl) ea_nil)) fun Q2 k2 => ⟨hh, ca, c, cs, ar, rfl, hH2, hc2, hok, hcs, hre, fun H3 m M kb hH hm h1 h2 h3 => k2 _ _ ⟨m, M, rfl, kb, hH, hm, h1, h2, h3⟩⟩) fun v H3 hv => ?_
    obtain ⟨m, M, rfl, kb3, hH3, hm3, mok, rfl, rfl⟩ := hv
    have hc3 := hc2.kb hH2 kb3
    have ok := mok.ok
    have hn1 : 1 ≤ M.n := ok.ch.n1
    refine sq_setR (Pc := fun v H4 => ∃ mm, v = .ref mm ∧ Kb hh H3 H4 ∧ HandAt H4 hh ca ∧ MeterAt A H4 mm M) (ev_callR (ea_cons (ev_var rfl) (ea_cons (ev_var rfl) ea_nil)) fun Q2 k2 => ⟨hh, ca, m, M, rfl, hH3, hm3, mok, fun H4 mm kb hH hmm => k2 _ _ ⟨mm, rfl, kb, hH, hmm⟩⟩) fun v H4 hv => ?_
    obtain ⟨mm, rfl, kb4, hH4, hmm4⟩ := hv
    have hc4 := hc3.kb hH3 kb4
    have hm4 := hm3.kb hH3 kb4
    -- lows, highs
    refine sq_setR (Pc := fun v H5 => Kb hh H4 H5 ∧ HandAt H5 hh ca ∧ SideV M (-1) v H5) (ev_callR (ea_cons (ev_var rfl) (ea_cons (ev_var rfl) (ea_cons (ev_var rfl) (ea_cons (ev_neg ev_c) ea_nil)))) fun Q2 k2 => ⟨hh, ca, m, mm, M, -1, rfl, .inr rfl, hH4, hm4, hmm4, ok, fun H5 kb hH hn => k2 _ _ ⟨kb, hH, .inl ⟨rfl, hn⟩⟩, fun H5 r ls kb hH hn hR hT => k2 _ _ ⟨kb, hH, .inr ⟨r, ls, rfl, hT, hR, hn⟩⟩⟩) fun lv H5 hv => ?_
    obtain ⟨kb5, hH5, hlv5⟩ := hv
    have hc5 := hc4.kb hH4 kb5
    have hm5 := hm4.kb hH4 kb5
    have hmm5 := hmm4.kf (hH4.kf kb5)
    refine sq_setR (Pc := fun v H6 => Kb hh H5 H6 ∧ HandAt H6 hh ca ∧ SideV M 1 v H6) (ev_callR (ea_cons (ev_var rfl) (ea_cons (ev_var rfl) (ea_cons (ev_var rfl) (ea_cons ev_c ea_nil)))) fun Q2 k2 => ⟨hh, ca, m, mm, M, 1, rfl, .inl rfl, hH5, hm5, hmm5, ok, fun H5 kb hH hn => k2 _ _ ⟨kb, hH, .inl ⟨rfl, hn⟩⟩, fun H5 r ls kb hH hn hR hT => k2 _ _ ⟨kb, hH, .inr ⟨r, ls, rfl, hT, hR, hn⟩⟩⟩) fun hv6 H6 hv => ?_
    obtain ⟨kb6, hH6, hhv6⟩ := hv
    have hc6 := hc5.kb hH5 kb6
    have hm6 := hm5.kb hH5 kb6
    have hmm6 := hmm5.kf (hH5.kf kb6)
    have hlv6 := hlv5.kf (hH5.kf kb6)
    -- levels
    refine sq_neverR (Pc := fun H7 => Kb hh H6 H7 ∧ HandAt H7 hh ca) (fun Q5 k5 => ?_) fun H7 h7 => ?_
    · refine pl_or (et_test (ev_isF hlv6 (ev_var rfl)) _ ?_)
      refine if_no rfl (pl_or (et_test (ev_isF hhv6 (ev_var rfl)) _ (if_no rfl ?_)))
      refine pl_not (pl_B ?_)
      refine ev_callR (Pc := fun v H7 => v = .bl true ∧ Kb hh H6 H7 ∧ HandAt H7 hh ca) (ea_cons (ev_var rfl) (ea_cons (ev_var rfl) (ea_cons (ev_var rfl) ea_nil))) (fun Q2 k2 => ⟨hh, ca, m, mm, M, rfl, hH6, hm6, hmm6, ok, fun H7 kb hH => k2 _ _ ⟨rfl, kb, hH⟩⟩) _ fun v H7 hv => ?_
      obtain ⟨rfl, kb, hH⟩ := hv
      exact ⟨true, rfl, k5 H7 ⟨kb, hH⟩⟩
    obtain ⟨kb7, hH7⟩ := h7
    have hc7 := hc6.kb hH6 kb7
    have hm7 := hm6.kb hH6 kb7
    have hmm7 := hmm6.kf (hH6.kf kb7)
    have hlv7 := hlv6.kf (hH6.kf kb7)
    have hhv7 := hhv6.kf (hH6.kf kb7)
    -- cover, even
    refine sq_neverS (EtS.or (EtS.notB (ev_callR (ea_cons (ev_var rfl) (ea_cons (ev_var rfl) (ea_cons (ev_var rfl) ea_nil))) fun Q2 k2 => ⟨m, mm, M, lv, rfl, hm7, hmm7, ok, hlv7, fun H8 s => k2 _ _ ⟨rfl, s⟩⟩)) fun H8 s8 => EtS.notB (ev_callR (ea_cons (ev_var rfl) (ea_cons (ev_var rfl) (ea_cons (ev_var rfl) (ea_cons (ev_var rfl) ea_nil)))) fun Q2 k2 => ⟨m, mm, M, lv, hv6, rfl, hm7.s s8, hmm7.s s8, ok, hlv7.kf s8.kf, hhv7.kf s8.kf, fun H9 s => k2 _ _ ⟨rfl, s⟩⟩)) fun H8 s8 => ?_
    have hmm8 := hmm7.s s8
    have hlv8 := hlv7.kf s8.kf
    have hhv8 := hhv7.kf s8.kf
    -- greatest
    refine sq_neverS (fun Q5 k5 => ?_) fun H9 s9 => ?_
    · rcases hhv8 with ⟨rfl, _⟩ | ⟨r, ls, rfl, hT, hR, hno⟩
      · exact (et_and (b := false) (c := false) (et_test (ev_notN0 (ev_var rfl))) (fun z => by cases z)) _ (k5 H8 (Same.refl H8))
      · refine pl_and (et_test (ev_notN2 (p := r) (ev_var rfl)) _ (if_yes rfl (pl_test (pl_op ?_))))
        refine ev_callR (Pc := fun v H9 => ∃ x, v = .int x ∧ Same H8 H9 ∧ x ∈ ls ∧ ∀ y ∈ ls, y ≤ x) (ea_cons (ev_var rfl) ea_nil) (fun Q2 k2 => ⟨mm, M, rfl, hmm8, ok, hno, fun H9 ls' x s hR' hx hle => k2 _ _ ⟨x, rfl, s, hR'.uniq hR (.inl rfl) ▸ ⟨hx, hle⟩⟩⟩) _ fun v H9 hv => ?_
        obtain ⟨x, rfl, s9, hx, hle⟩ := hv
        refine pl_cb1 (pl_cb1 (ev_var rfl _ ⟨r, _, rfl, SqA.t (s9 _ _ hT), fun l hl => ?_⟩))
        refine ⟨l, ls, rfl, SqL.of upd_same, List.length_pos_of_mem hx, fun y hy hle2 => ⟨rfl, _, rfl, ?_⟩⟩
        have : x = y := by
          have := hle y hy
          have := hle2 x hx
          omega
        subst this
        rw [decide_eq_true rfl]
        exact k5 _ (s9.new hl)
    have s79 := s8.trans s9
    have hH9 := hH7.s s79
    have hc9 := hc7.s s79
    have hm9 := hm7.s s79
    have hmm9 := hmm7.s s79
    have hlv9 := hlv8.kf s9.kf
    have hhv9 := hhv8.kf s9.kf
    -- run
    refine sq_setR (Pc := fun v G => ∃ rn ks x, v = .ref rn ∧ Kb hh H9 G ∧ HandAt G hh ca ∧ NL G rn ks ∧ ks.length ≤ 400 ∧ Wk M.E 0 ks x) (ev_callR (us := [.ref hh, .ref c, nv 400]) (ea_cons (ev_var rfl) (ea_cons (ev_var rfl) (ea_cons ev_c ea_nil))) fun Q2 k2 => ⟨hh, ca, c, M, 400, rfl, hH9, hc9, ok, Nat.le_refl _, fun G rn ks x kb hH hN _ hl hw => k2 _ _ ⟨rn, ks, x, rfl, kb, hH, hN, hl, hw⟩⟩) fun v G hv => ?_
    obtain ⟨rn, ks, x, rfl, kbG, hHG, hN, hkl, hw⟩ := hv
    have hmG := hm9.kb hH9 kbG
    have hmmG := hmm9.kf (hH9.kf kbG)
    have hlvG := hlv9.kf (hH9.kf kbG)
    have hhvG := hhv9.kf (hH9.kf kbG)
    refine sq_set (rd_lm2 hmG (ev_var rfl)) (sq_set ev_c (pl_seq ?_))
    refine rd_forSeq (ev_var rfl).r fun v G1 hv => ?_
    obtain ⟨rfl, rfl⟩ := hv
    refine ⟨rn, ks.map nv, rfl, SqA.l hN, fun i σ' F => ∃ (p : Nat) (o10 : Option V), σ' = [some (.ref a), some (.ref hh), some (.ref c), some (.ref m), some (.ref mm), some lv, some hv6, some (.ref rn), some (.int (M.first + gn M.E (ks.take i))), some (nv p), o10] ∧ F = G ∧ Wk M.E 0 (ks.take i) p,
      ⟨0, _, by rw [List.take_zero, gn_nil, Int.add_zero]; rfl, rfl, .nil _⟩, fun i σ' F z => by obtain ⟨_, _, _, rfl, _⟩ := z; exact fun o e => e, ?_, ?_⟩
    · rintro i y σ' F hi ⟨p, o10, rfl, rfl, hwi⟩
      have hil : i < ks.length := by
        have := (List.getElem?_eq_some_iff.mp hi).1
        rwa [List.length_map] at this
      have hk : ks[i]? = some ks[i] := List.getElem?_eq_getElem hil
      have ex : y = nv ks[i] := Option.some.inj (hi.symm.trans (nat_at hk))
      subst ex
      have hsplit : ks = ks.take i ++ ks[i] :: ks.drop (i + 1) := by
        rw [← List.drop_eq_getElem_cons hil, List.take_append_drop]
      have hwk' := hw
      rw [hsplit] at hwk'
      obtain ⟨z, hwa, hwb⟩ := hwk'.split
      have hzp : z = p := hwa.det hwi
      subst hzp
      have hzl := hwi.lt ok.E_lt hn1
      cases hwb with
      | @cons _ hd _ _ g _ e _ =>
        obtain ⟨e1, cc, e2, e3⟩ := Mt.E_inv e
        have htk : ks.take (i + 1) = ks.take i ++ [ks[i]] := by rw [List.take_add_one, hk]; rfl
        have t1 : EtE (tAnd (tTest (tOp rNotN (tVar 5) (tC .non))) (tTest (tOp rLtI (tVar 8) (tOp (rIxA K) (tVar 5) (tVar 9))))) [some (.ref a), some (.ref hh), some (.ref c), some (.ref m), some (.ref mm), some lv, some hv6, some (.ref rn), some (.int (M.first + gn M.E (ks.take i))), some (nv z), some (nv ks[i])] F false := by
          rcases hlvG with ⟨rfl, _⟩ | ⟨r, ls, rfl, hT, hR, hno⟩
          · exact (et_and (b := false) (c := false) (et_test (ev_notN0 (ev_var rfl))) (fun z => by cases z))
          · refine (et_and (b := true) (c := false) (et_test (ev_notN2 (p := r) (ev_var rfl))) fun _ => (et_test (ev_lt (ev_var rfl) (ev_ixn (ev_var rfl) (ev_var rfl) (SqA.t hT) (int_at (getD_at (by rw [hR.1]; exact hzl)))))).is (decide_eq_false ?_))
            have := (hR.2 z hzl).2 _ hwi
            omega
        have t2 : EtE (tAnd (tTest (tOp rNotN (tVar 6) (tC .non))) (tTest (tOp rGtI (tVar 8) (tOp (rIxA K) (tVar 6) (tVar 9))))) [some (.ref a), some (.ref hh), some (.ref c), some (.ref m), some (.ref mm), some lv, some hv6, some (.ref rn), some (.int (M.first + gn M.E (ks.take i))), some (nv z), some (nv ks[i])] F false := by
          rcases hhvG with ⟨rfl, _⟩ | ⟨r, ls, rfl, hT, hR, hno⟩
          · exact (et_and (b := false) (c := false) (et_test (ev_notN0 (ev_var rfl))) (fun z => by cases z))
          · refine (et_and (b := true) (c := false) (et_test (ev_notN2 (p := r) (ev_var rfl))) fun _ => (et_test (ev_gt (ev_var rfl) (ev_ixn (ev_var rfl) (ev_var rfl) (SqA.t hT) (int_at (getD_at (by rw [hR.1]; exact hzl)))))).is (decide_eq_false ?_))
            have := (hR.2 z hzl).2 _ hwi
            omega
        refine sq_never ((et_or (b := false) (c := false) t1 fun _ => t2).is rfl) ?_
        refine sq_set (ev_add (ev_var rfl) (ev_wgain hmG e hzl (ev_var rfl) (ev_var rfl))) ?_
        refine sx_set (rd_lmhead hmG (ev_var rfl) (ev_var rfl) e1) ?_
        refine ⟨hd, some (nv ks[i]), ?_, rfl, by rw [htk]; exact hwi.snoc e⟩
        rw [htk, gn_append, gn_one, eg_of e, ← Int.add_assoc]
        rfl
    · rintro σ' F ⟨p, o10, rfl, rfl, hwi⟩
      rw [List.length_map, List.take_length] at hwi ⊢
      have hxp : p = x := hwi.det hw
      subst hxp
      have hpl := hw.lt ok.E_lt hn1
      refine pl_nx (pl_ret (pl_andV (pl_op ?_)))
      obtain ⟨dxm, chm, pgm, hmi, _⟩ := id hmmG
      refine ev_methR (us := [.ref rn]) (Pc := fun v H10 => v = .int (M.first + gn M.E ks) ∧ Same F H10) (ev_var rfl) hmi (meF_no _ _ _ (by decide +kernel) (by decide +kernel) (by decide +kernel)) (ea_cons (ev_var rfl) ea_nil) (fun Q' k' => ⟨mm, rn, M, ks, p, rfl, hmmG, ok, .inl hN, hkl, hw, fun H10 s => k' _ _ ⟨rfl, s⟩⟩) _ fun v H10 hv => ?_
      obtain ⟨rfl, s10⟩ := hv
      refine ev_var rfl _ ⟨rfl, _, rfl, if_yes (decide_eq_true rfl) (pl_op ?_)⟩
      have hmm10 := hmmG.s s10
      obtain ⟨dxm2, chm2, pgm2, hmi2, _⟩ := id hmm10
      refine ev_methR (us := [.ref rn]) (Pc := fun v H11 => v = .int (M.first + gn M.E ks - M.costs.getD p 0) ∧ Same H10 H11) (ev_var rfl) hmi2 (meF_no _ _ _ (by decide +kernel) (by decide +kernel) (by decide +kernel)) (ea_cons (ev_var rfl) ea_nil) (fun Q' k' => ⟨mm, rn, M, ks, p, rfl, hmm10, ok, .inl (s10 _ _ hN), hkl, hw, fun H11 s => k' _ _ ⟨rfl, s⟩⟩) _ fun v H11 hv => ?_
      obtain ⟨rfl, s11⟩ := hv
      have hm11 := hmG.s (s10.trans s11)
      refine (ev_sub (ev_var rfl) (rd_lmcost hm11 (ev_var rfl) (ev_var rfl) hpl)) _ ⟨rfl, ?_⟩
      rw [decide_eq_true rfl]
      exact q H11
end
end K15
namespace K15
open PySem PySem.Spec PyProof.Rows L2 RZ
/-! ### what the top has written, the walk -/
theorem kit_self {K : PySem.W.Frag} (C : Addr) : PySem.W.kitOne K (.ref C) (.ref C) = some true := by
  unfold PySem.W.kitOne
  rw [if_pos (by simp)]
theorem kit_no {K : PySem.W.Frag} {C : Addr} {b : Value} {r : Bool} (h : PySem.W.mroIn K C b = some r) (h2 : PySem.W.typeIn K (.ref C) = some (.type "type")) (h3 : PySem.W.subIn K (.type "tuple") (.ref C) = some false) : PySem.W.kitOne K (.type "tuple") (.ref C) = some false := by
  unfold PySem.W.kitOne
  rw [if_neg (by simp)]
  unfold PySem.W.kitCls
  have hc : (PySem.W.clsIn K C).isSome = true := by
    unfold PySem.W.mroIn at h
    cases e : PySem.W.clsIn K C with
    | none => rw [e] at h; cases h
    | some _ => rfl
  dsimp only
  rw [if_pos (by rw [hc, h2]; simp), h3]
theorem all_mk {l : PySem.W.OpenLaw} {w : World} {K : PySem.W.Frag} {h : Heap} {mg : Str → Option Value} {fa C_ch C_me C_dr C_sh C_un f0 f1 f2 f3 f4 f5 f6 f7 f8 f9 f10 f11 f12 f13 f14 f15 f16 f17 f18 f19 f20 f21 f22 f23 f24 f25 f26 f27 f28 f29 f30 f31 f32 f33 f34 f35 f36 f37 f38 f39 f40 f41 f42 f43 f44 f45 f46 f47 f48 f49 f50 f51 f52 f53 f54 f55 f56 f57 f58 f59 f60 f61 f62 f63 f64 f65 : Addr} {tk : Tok} (X : K.In h) (G : h.Ns mainGlobals mg) (hfa : mg "law" = some (.ref fa))
    {od0 an0 od1 an1 od2 an2 od3 an3 od4 an4 od5 an5 od6 an6 od7 an7 od8 an8 od9 an9 od10 an10 od11 an11 od12 an12 od13 an13 od14 an14 od15 an15 od16 an16 od17 an17 od18 an18 od19 an19 od20 an20 od21 an21 od22 an22 od23 an23 od24 an24 od25 an25 od26 an26 od27 an27 od28 an28 od29 an29 od30 an30 od31 an31 od32 an32 od33 an33 od34 an34 od35 an35 od36 an36 od37 an37 od38 an38 od39 an39 od40 an40 od41 an41 od42 an42 od43 an43 od44 an44 od45 an45 od46 an46 od47 an47 od48 an48 od49 an49 od50 an50 od51 an51 od52 an52 od53 an53 od54 an54 od55 an55 od56 an56 od57 an57 od58 an58 od59 an59 od60 an60 od61 an61 od62 an62 od63 an63 od64 an64 od65 an65 : Option Addr}
    {sl0 sl1 sl2 sl3 sl4 sl5 sl6 sl7 sl8 sl9 sl10 sl11 sl12 sl13 sl14 sl15 sl16 sl17 sl18 sl19 sl20 sl21 sl22 sl23 sl24 sl25 sl26 sl27 sl28 sl29 sl30 sl31 sl32 sl33 sl34 sl35 sl36 sl37 sl38 sl39 sl40 sl41 sl42 sl43 sl44 sl45 sl46 sl47 sl48 sl49 sl50 sl51 sl52 sl53 sl54 sl55 sl56 sl57 sl58 sl59 sl60 sl61 sl62 sl63 sl64 sl65 : Array (Option Value)}
    {oc0 kV0 dc0 pm0 cd0 ct0 oc1 kV1 dc1 pm1 cd1 ct1 oc2 kV2 dc2 pm2 cd2 ct2 oc3 kV3 dc3 pm3 cd3 ct3 oc4 kV4 dc4 pm4 cd4 ct4 oc5 kV5 dc5 pm5 cd5 ct5 oc6 kV6 dc6 pm6 cd6 ct6 oc7 kV7 dc7 pm7 cd7 ct7 oc8 kV8 dc8 pm8 cd8 ct8 oc9 kV9 dc9 pm9 cd9 ct9 oc10 kV10 dc10 pm10 cd10 ct10 oc11 kV11 dc11 pm11 cd11 ct11 oc12 kV12 dc12 pm12 cd12 ct12 oc13 kV13 dc13 pm13 cd13 ct13 oc14 kV14 dc14 pm14 cd14 ct14 oc15 kV15 dc15 pm15 cd15 ct15 oc16 kV16 dc16 pm16 cd16 ct16 oc17 kV17 dc17 pm17 cd17 ct17 oc18 kV18 dc18 pm18 cd18 ct18 oc19 kV19 dc19 pm19 cd19 ct19 oc20 kV20 dc20 pm20 cd20 ct20 oc21 kV21 dc21 pm21 cd21 ct21 oc22 kV22 dc22 pm22 cd22 ct22 oc23 kV23 dc23 pm23 cd23 ct23 oc24 kV24 dc24 pm24 cd24 ct24 oc25 kV25 dc25 pm25 cd25 ct25 oc26 kV26 dc26 pm26 cd26 ct26 oc27 kV27 dc27 pm27 cd27 ct27 oc28 kV28 dc28 pm28 cd28 ct28 oc29 kV29 dc29 pm29 cd29 ct29 oc30 kV30 dc30 pm30 cd30 ct30 oc31 kV31 dc31 pm31 cd31 ct31 oc32 kV32 dc32 pm32 cd32 ct32 oc33 kV33 dc33 pm33 cd33 ct33 oc34 kV34 dc34 pm34 cd34 ct34 oc35 kV35 dc35 pm35 cd35 ct35 oc36 kV36 dc36 pm36 cd36 ct36 oc37 kV37 dc37 pm37 cd37 ct37 oc38 kV38 dc38 pm38 cd38 ct38 oc39 kV39 dc39 pm39 cd39 ct39 oc40 kV40 dc40 pm40 cd40 ct40 oc41 kV41 dc41 pm41 cd41 ct41 oc42 kV42 dc42 pm42 cd42 ct42 oc43 kV43 dc43 pm43 cd43 ct43 oc44 kV44 dc44 pm44 cd44 ct44 oc45 kV45 dc45 pm45 cd45 ct45 oc46 kV46 dc46 pm46 cd46 ct46 oc47 kV47 dc47 pm47 cd47 ct47 oc48 kV48 dc48 pm48 cd48 ct48 oc49 kV49 dc49 pm49 cd49 ct49 oc50 kV50 dc50 pm50 cd50 ct50 oc51 kV51 dc51 pm51 cd51 ct51 oc52 kV52 dc52 pm52 cd52 ct52 oc53 kV53 dc53 pm53 cd53 ct53 oc54 kV54 dc54 pm54 cd54 ct54 oc55 kV55 dc55 pm55 cd55 ct55 oc56 kV56 dc56 pm56 cd56 ct56 oc57 kV57 dc57 pm57 cd57 ct57 oc58 kV58 dc58 pm58 cd58 ct58 oc59 kV59 dc59 pm59 cd59 ct59 oc60 kV60 dc60 pm60 cd60 ct60 oc61 kV61 dc61 pm61 cd61 ct61 oc62 kV62 dc62 pm62 cd62 ct62 oc63 kV63 dc63 pm63 cd63 ct63 oc64 kV64 dc64 pm64 cd64 ct64 oc65 kV65 dc65 pm65 cd65 ct65 : Value}
    (a_ch : PySem.W.nsIn K mainGlobals "Chart" = some (some (.ref C_ch)))
    (a_me : PySem.W.nsIn K mainGlobals "Meter" = some (some (.ref C_me)))
    (a_dr : PySem.W.nsIn K mainGlobals "Drift" = some (some (.ref C_dr)))
    (a_sh : PySem.W.nsIn K mainGlobals "Short" = some (some (.ref C_sh)))
    (a_un : PySem.W.nsIn K mainGlobals "Uneven" = some (some (.ref C_un)))
    (a0 : PySem.W.nsIn K mainGlobals "is_whole" = some (some (.ref f0)))
    (l0 : K.lookup f0 = some ⟨oc0, od0, .func (PySem.W.fnOf "is_whole" "is_whole" (defArgs s_is_whole) (defBody s_is_whole) (defScope s_is_whole) .none kV0 dc0 pm0 an0 cd0 ct0), sl0⟩)
    (c0 : PySem.W.codeIn K cd0 "is_whole" = true)
    (k0 : PySem.W.keepIn K (.ref f0) = true)
    (a1 : PySem.W.nsIn K mainGlobals "is_row" = some (some (.ref f1)))
    (l1 : K.lookup f1 = some ⟨oc1, od1, .func (PySem.W.fnOf "is_row" "is_row" (defArgs s_is_row) (defBody s_is_row) (defScope s_is_row) .none kV1 dc1 pm1 an1 cd1 ct1), sl1⟩)
    (c1 : PySem.W.codeIn K cd1 "is_row" = true)
    (k1 : PySem.W.keepIn K (.ref f1) = true)
    (a2 : PySem.W.nsIn K mainGlobals "check_place" = some (some (.ref f2)))
    (l2 : K.lookup f2 = some ⟨oc2, od2, .func (PySem.W.fnOf "check_place" "check_place" (defArgs s_check_place) (defBody s_check_place) (defScope s_check_place) .none kV2 dc2 pm2 an2 cd2 ct2), sl2⟩)
    (c2 : PySem.W.codeIn K cd2 "check_place" = true)
    (k2 : PySem.W.keepIn K (.ref f2) = true)
    (a3 : PySem.W.nsIn K mainGlobals "arrow_gain" = some (some (.ref f3)))
    (l3 : K.lookup f3 = some ⟨oc3, od3, .func (PySem.W.fnOf "arrow_gain" "arrow_gain" (defArgs s_arrow_gain) (defBody s_arrow_gain) (defScope s_arrow_gain) .none kV3 dc3 pm3 an3 cd3 ct3), sl3⟩)
    (c3 : PySem.W.codeIn K cd3 "arrow_gain" = true)
    (k3 : PySem.W.keepIn K (.ref f3) = true)
    (a4 : PySem.W.findIn K (.ref C_ch) "outs" = some (some (.ref f4)))
    (i4 : PySem.W.isFn K (.ref f4) = true)
    (l4 : K.lookup f4 = some ⟨oc4, od4, .func (PySem.W.fnOf "outs" "Chart.outs" (defArgs s_Chartouts) (defBody s_Chartouts) (defScope s_Chartouts) .none kV4 dc4 pm4 an4 cd4 ct4), sl4⟩)
    (c4 : PySem.W.codeIn K cd4 "Chart.outs" = true)
    (k4 : PySem.W.keepIn K (.ref f4) = true)
    (a5 : PySem.W.nsIn K mainGlobals "rest_rows" = some (some (.ref f5)))
    (l5 : K.lookup f5 = some ⟨oc5, od5, .func (PySem.W.fnOf "rest_rows" "rest_rows" (defArgs s_rest_rows) (defBody s_rest_rows) (defScope s_rest_rows) .none kV5 dc5 pm5 an5 cd5 ct5), sl5⟩)
    (c5 : PySem.W.codeIn K cd5 "rest_rows" = true)
    (k5 : PySem.W.keepIn K (.ref f5) = true)
    (a6 : PySem.W.findIn K (.ref C_dr) "__init__" = some (some (.ref f6)))
    (i6 : PySem.W.isFn K (.ref f6) = true)
    (l6 : K.lookup f6 = some ⟨oc6, od6, .func (PySem.W.fnOf "__init__" "Drift.__init__" (defArgs s_DriftInit) (defBody s_DriftInit) (defScope s_DriftInit) .none kV6 dc6 pm6 an6 cd6 ct6), sl6⟩)
    (c6 : PySem.W.codeIn K cd6 "Drift.__init__" = true)
    (k6 : PySem.W.keepIn K (.ref f6) = true)
    (a7 : PySem.W.nsIn K mainGlobals "can_drift" = some (some (.ref f7)))
    (l7 : K.lookup f7 = some ⟨oc7, od7, .func (PySem.W.fnOf "can_drift" "can_drift" (defArgs s_can_drift) (defBody s_can_drift) (defScope s_can_drift) .none kV7 dc7 pm7 an7 cd7 ct7), sl7⟩)
    (c7 : PySem.W.codeIn K cd7 "can_drift" = true)
    (k7 : PySem.W.keepIn K (.ref f7) = true)
    (a8 : PySem.W.nsIn K mainGlobals "least_ring" = some (some (.ref f8)))
    (l8 : K.lookup f8 = some ⟨oc8, od8, .func (PySem.W.fnOf "least_ring" "least_ring" (defArgs s_least_ring) (defBody s_least_ring) (defScope s_least_ring) .none kV8 dc8 pm8 an8 cd8 ct8), sl8⟩)
    (c8 : PySem.W.codeIn K cd8 "least_ring" = true)
    (k8 : PySem.W.keepIn K (.ref f8) = true)
    (a9 : PySem.W.nsIn K mainGlobals "first_drift" = some (some (.ref f9)))
    (l9 : K.lookup f9 = some ⟨oc9, od9, .func (PySem.W.fnOf "first_drift" "first_drift" (defArgs s_first_drift) (defBody s_first_drift) (defScope s_first_drift) .none kV9 dc9 pm9 an9 cd9 ct9), sl9⟩)
    (c9 : PySem.W.codeIn K cd9 "first_drift" = true)
    (k9 : PySem.W.keepIn K (.ref f9) = true)
    (a10 : PySem.W.nsIn K mainGlobals "find_drift" = some (some (.ref f10)))
    (l10 : K.lookup f10 = some ⟨oc10, od10, .func (PySem.W.fnOf "find_drift" "find_drift" (defArgs s_find_drift) (defBody s_find_drift) (defScope s_find_drift) .none kV10 dc10 pm10 an10 cd10 ct10), sl10⟩)
    (c10 : PySem.W.codeIn K cd10 "find_drift" = true)
    (k10 : PySem.W.keepIn K (.ref f10) = true)
    (a11 : PySem.W.nsIn K mainGlobals "find_fall" = some (some (.ref f11)))
    (l11 : K.lookup f11 = some ⟨oc11, od11, .func (PySem.W.fnOf "find_fall" "find_fall" (defArgs s_find_fall) (defBody s_find_fall) (defScope s_find_fall) .none kV11 dc11 pm11 an11 cd11 ct11), sl11⟩)
    (c11 : PySem.W.codeIn K cd11 "find_fall" = true)
    (k11 : PySem.W.keepIn K (.ref f11) = true)
    (a12 : PySem.W.nsIn K mainGlobals "find_rise" = some (some (.ref f12)))
    (l12 : K.lookup f12 = some ⟨oc12, od12, .func (PySem.W.fnOf "find_rise" "find_rise" (defArgs s_find_rise) (defBody s_find_rise) (defScope s_find_rise) .none kV12 dc12 pm12 an12 cd12 ct12), sl12⟩)
    (c12 : PySem.W.codeIn K cd12 "find_rise" = true)
    (k12 : PySem.W.keepIn K (.ref f12) = true)
    (a13 : PySem.W.nsIn K mainGlobals "lead_rows" = some (some (.ref f13)))
    (l13 : K.lookup f13 = some ⟨oc13, od13, .func (PySem.W.fnOf "lead_rows" "lead_rows" (defArgs s_lead_rows) (defBody s_lead_rows) (defScope s_lead_rows) .none kV13 dc13 pm13 an13 cd13 ct13), sl13⟩)
    (c13 : PySem.W.codeIn K cd13 "lead_rows" = true)
    (k13 : PySem.W.keepIn K (.ref f13) = true)
    (a14 : PySem.W.nsIn K mainGlobals "extreme_worths" = some (some (.ref f14)))
    (l14 : K.lookup f14 = some ⟨oc14, od14, .func (PySem.W.fnOf "extreme_worths" "extreme_worths" (defArgs s_extreme_worths) (defBody s_extreme_worths) (defScope s_extreme_worths) .none kV14 dc14 pm14 an14 cd14 ct14), sl14⟩)
    (c14 : PySem.W.codeIn K cd14 "extreme_worths" = true)
    (k14 : PySem.W.keepIn K (.ref f14) = true)
    (a15 : PySem.W.nsIn K mainGlobals "low_leads" = some (some (.ref f15)))
    (l15 : K.lookup f15 = some ⟨oc15, od15, .func (PySem.W.fnOf "low_leads" "low_leads" (defArgs s_low_leads) (defBody s_low_leads) (defScope s_low_leads) .none kV15 dc15 pm15 an15 cd15 ct15), sl15⟩)
    (c15 : PySem.W.codeIn K cd15 "low_leads" = true)
    (k15 : PySem.W.keepIn K (.ref f15) = true)
    (a16 : PySem.W.nsIn K mainGlobals "high_leads" = some (some (.ref f16)))
    (l16 : K.lookup f16 = some ⟨oc16, od16, .func (PySem.W.fnOf "high_leads" "high_leads" (defArgs s_high_leads) (defBody s_high_leads) (defScope s_high_leads) .none kV16 dc16 pm16 an16 cd16 ct16), sl16⟩)
    (c16 : PySem.W.codeIn K cd16 "high_leads" = true)
    (k16 : PySem.W.keepIn K (.ref f16) = true)
    (a17 : PySem.W.nsIn K mainGlobals "greatest_lead" = some (some (.ref f17)))
    (l17 : K.lookup f17 = some ⟨oc17, od17, .func (PySem.W.fnOf "greatest_lead" "greatest_lead" (defArgs s_greatest_lead) (defBody s_greatest_lead) (defScope s_greatest_lead) .none kV17 dc17 pm17 an17 cd17 ct17), sl17⟩)
    (c17 : PySem.W.codeIn K cd17 "greatest_lead" = true)
    (k17 : PySem.W.keepIn K (.ref f17) = true)
    (a18 : PySem.W.nsIn K mainGlobals "least_walk" = some (some (.ref f18)))
    (l18 : K.lookup f18 = some ⟨oc18, od18, .func (PySem.W.fnOf "least_walk" "least_walk" (defArgs s_least_walk) (defBody s_least_walk) (defScope s_least_walk) .none kV18 dc18 pm18 an18 cd18 ct18), sl18⟩)
    (c18 : PySem.W.codeIn K cd18 "least_walk" = true)
    (k18 : PySem.W.keepIn K (.ref f18) = true)
    (a19 : PySem.W.nsIn K mainGlobals "extreme_run" = some (some (.ref f19)))
    (l19 : K.lookup f19 = some ⟨oc19, od19, .func (PySem.W.fnOf "extreme_run" "extreme_run" (defArgs s_extreme_run) (defBody s_extreme_run) (defScope s_extreme_run) .none kV19 dc19 pm19 an19 cd19 ct19), sl19⟩)
    (c19 : PySem.W.codeIn K cd19 "extreme_run" = true)
    (k19 : PySem.W.keepIn K (.ref f19) = true)
    (a20 : PySem.W.nsIn K mainGlobals "find_low_run" = some (some (.ref f20)))
    (l20 : K.lookup f20 = some ⟨oc20, od20, .func (PySem.W.fnOf "find_low_run" "find_low_run" (defArgs s_find_low_run) (defBody s_find_low_run) (defScope s_find_low_run) .none kV20 dc20 pm20 an20 cd20 ct20), sl20⟩)
    (c20 : PySem.W.codeIn K cd20 "find_low_run" = true)
    (k20 : PySem.W.keepIn K (.ref f20) = true)
    (a21 : PySem.W.nsIn K mainGlobals "find_high_run" = some (some (.ref f21)))
    (l21 : K.lookup f21 = some ⟨oc21, od21, .func (PySem.W.fnOf "find_high_run" "find_high_run" (defArgs s_find_high_run) (defBody s_find_high_run) (defScope s_find_high_run) .none kV21 dc21 pm21 an21 cd21 ct21), sl21⟩)
    (c21 : PySem.W.codeIn K cd21 "find_high_run" = true)
    (k21 : PySem.W.keepIn K (.ref f21) = true)
    (a22 : PySem.W.nsIn K mainGlobals "check_run" = some (some (.ref f22)))
    (l22 : K.lookup f22 = some ⟨oc22, od22, .func (PySem.W.fnOf "check_run" "check_run" (defArgs s_check_run) (defBody s_check_run) (defScope s_check_run) .none kV22 dc22 pm22 an22 cd22 ct22), sl22⟩)
    (c22 : PySem.W.codeIn K cd22 "check_run" = true)
    (k22 : PySem.W.keepIn K (.ref f22) = true)
    (a23 : PySem.W.nsIn K mainGlobals "places_of" = some (some (.ref f23)))
    (l23 : K.lookup f23 = some ⟨oc23, od23, .func (PySem.W.fnOf "places_of" "places_of" (defArgs s_places_of) (defBody s_places_of) (defScope s_places_of) .none kV23 dc23 pm23 an23 cd23 ct23), sl23⟩)
    (c23 : PySem.W.codeIn K cd23 "places_of" = true)
    (k23 : PySem.W.keepIn K (.ref f23) = true)
    (a24 : PySem.W.nsIn K mainGlobals "used_by" = some (some (.ref f24)))
    (l24 : K.lookup f24 = some ⟨oc24, od24, .func (PySem.W.fnOf "used_by" "used_by" (defArgs s_used_by) (defBody s_used_by) (defScope s_used_by) .none kV24 dc24 pm24 an24 cd24 ct24), sl24⟩)
    (c24 : PySem.W.codeIn K cd24 "used_by" = true)
    (k24 : PySem.W.keepIn K (.ref f24) = true)
    (a25 : PySem.W.findIn K (.ref C_me) "charged" = some (some (.ref f25)))
    (i25 : PySem.W.isFn K (.ref f25) = true)
    (l25 : K.lookup f25 = some ⟨oc25, od25, .func (PySem.W.fnOf "charged" "Meter.charged" (defArgs s_Metercharged) (defBody s_Metercharged) (defScope s_Metercharged) .none kV25 dc25 pm25 an25 cd25 ct25), sl25⟩)
    (c25 : PySem.W.codeIn K cd25 "Meter.charged" = true)
    (k25 : PySem.W.keepIn K (.ref f25) = true)
    (a26 : PySem.W.findIn K (.ref C_me) "lead_behind" = some (some (.ref f26)))
    (i26 : PySem.W.isFn K (.ref f26) = true)
    (l26 : K.lookup f26 = some ⟨oc26, od26, .func (PySem.W.fnOf "lead_behind" "Meter.lead_behind" (defArgs s_Meterlead_behind) (defBody s_Meterlead_behind) (defScope s_Meterlead_behind) .none kV26 dc26 pm26 an26 cd26 ct26), sl26⟩)
    (c26 : PySem.W.codeIn K cd26 "Meter.lead_behind" = true)
    (k26 : PySem.W.keepIn K (.ref f26) = true)
    (a27 : PySem.W.findIn K (.ref C_me) "lead_ahead" = some (some (.ref f27)))
    (i27 : PySem.W.isFn K (.ref f27) = true)
    (l27 : K.lookup f27 = some ⟨oc27, od27, .func (PySem.W.fnOf "lead_ahead" "Meter.lead_ahead" (defArgs s_Meterlead_ahead) (defBody s_Meterlead_ahead) (defScope s_Meterlead_ahead) .none kV27 dc27 pm27 an27 cd27 ct27), sl27⟩)
    (c27 : PySem.W.codeIn K cd27 "Meter.lead_ahead" = true)
    (k27 : PySem.W.keepIn K (.ref f27) = true)
    (a28 : PySem.W.findIn K (.ref C_me) "__init__" = some (some (.ref f28)))
    (i28 : PySem.W.isFn K (.ref f28) = true)
    (l28 : K.lookup f28 = some ⟨oc28, od28, .func (PySem.W.fnOf "__init__" "Meter.__init__" (defArgs s_MeterInit) (defBody s_MeterInit) (defScope s_MeterInit) .none kV28 dc28 pm28 an28 cd28 ct28), sl28⟩)
    (c28 : PySem.W.codeIn K cd28 "Meter.__init__" = true)
    (k28 : PySem.W.keepIn K (.ref f28) = true)
    (a29 : PySem.W.findIn K (.ref C_sh) "__init__" = some (some (.ref f29)))
    (i29 : PySem.W.isFn K (.ref f29) = true)
    (l29 : K.lookup f29 = some ⟨oc29, od29, .func (PySem.W.fnOf "__init__" "Short.__init__" (defArgs s_ShortInit) (defBody s_ShortInit) (defScope s_ShortInit) .none kV29 dc29 pm29 an29 cd29 ct29), sl29⟩)
    (c29 : PySem.W.codeIn K cd29 "Short.__init__" = true)
    (k29 : PySem.W.keepIn K (.ref f29) = true)
    (a30 : PySem.W.findIn K (.ref C_un) "__init__" = some (some (.ref f30)))
    (i30 : PySem.W.isFn K (.ref f30) = true)
    (l30 : K.lookup f30 = some ⟨oc30, od30, .func (PySem.W.fnOf "__init__" "Uneven.__init__" (defArgs s_UnevenInit) (defBody s_UnevenInit) (defScope s_UnevenInit) .none kV30 dc30 pm30 an30 cd30 ct30), sl30⟩)
    (c30 : PySem.W.codeIn K cd30 "Uneven.__init__" = true)
    (k30 : PySem.W.keepIn K (.ref f30) = true)
    (a31 : PySem.W.nsIn K mainGlobals "least_first" = some (some (.ref f31)))
    (l31 : K.lookup f31 = some ⟨oc31, od31, .func (PySem.W.fnOf "least_first" "least_first" (defArgs s_least_first) (defBody s_least_first) (defScope s_least_first) .none kV31 dc31 pm31 an31 cd31 ct31), sl31⟩)
    (c31 : PySem.W.codeIn K cd31 "least_first" = true)
    (k31 : PySem.W.keepIn K (.ref f31) = true)
    (a32 : PySem.W.nsIn K mainGlobals "find_short" = some (some (.ref f32)))
    (l32 : K.lookup f32 = some ⟨oc32, od32, .func (PySem.W.fnOf "find_short" "find_short" (defArgs s_find_short) (defBody s_find_short) (defScope s_find_short) .none kV32 dc32 pm32 an32 cd32 ct32), sl32⟩)
    (c32 : PySem.W.codeIn K cd32 "find_short" = true)
    (k32 : PySem.W.keepIn K (.ref f32) = true)
    (a33 : PySem.W.nsIn K mainGlobals "run_to" = some (some (.ref f33)))
    (l33 : K.lookup f33 = some ⟨oc33, od33, .func (PySem.W.fnOf "run_to" "run_to" (defArgs s_run_to) (defBody s_run_to) (defScope s_run_to) .none kV33 dc33 pm33 an33 cd33 ct33), sl33⟩)
    (c33 : PySem.W.codeIn K cd33 "run_to" = true)
    (k33 : PySem.W.keepIn K (.ref f33) = true)
    (a34 : PySem.W.nsIn K mainGlobals "even_leads" = some (some (.ref f34)))
    (l34 : K.lookup f34 = some ⟨oc34, od34, .func (PySem.W.fnOf "even_leads" "even_leads" (defArgs s_even_leads) (defBody s_even_leads) (defScope s_even_leads) .none kV34 dc34 pm34 an34 cd34 ct34), sl34⟩)
    (c34 : PySem.W.codeIn K cd34 "even_leads" = true)
    (k34 : PySem.W.keepIn K (.ref f34) = true)
    (a35 : PySem.W.nsIn K mainGlobals "behind_places" = some (some (.ref f35)))
    (l35 : K.lookup f35 = some ⟨oc35, od35, .func (PySem.W.fnOf "behind_places" "behind_places" (defArgs s_behind_places) (defBody s_behind_places) (defScope s_behind_places) .none kV35 dc35 pm35 an35 cd35 ct35), sl35⟩)
    (c35 : PySem.W.codeIn K cd35 "behind_places" = true)
    (k35 : PySem.W.keepIn K (.ref f35) = true)
    (a36 : PySem.W.nsIn K mainGlobals "part_of" = some (some (.ref f36)))
    (l36 : K.lookup f36 = some ⟨oc36, od36, .func (PySem.W.fnOf "part_of" "part_of" (defArgs s_part_of) (defBody s_part_of) (defScope s_part_of) .none kV36 dc36 pm36 an36 cd36 ct36), sl36⟩)
    (c36 : PySem.W.codeIn K cd36 "part_of" = true)
    (k36 : PySem.W.keepIn K (.ref f36) = true)
    (a37 : PySem.W.nsIn K mainGlobals "parts_of" = some (some (.ref f37)))
    (l37 : K.lookup f37 = some ⟨oc37, od37, .func (PySem.W.fnOf "parts_of" "parts_of" (defArgs s_parts_of) (defBody s_parts_of) (defScope s_parts_of) .none kV37 dc37 pm37 an37 cd37 ct37), sl37⟩)
    (c37 : PySem.W.codeIn K cd37 "parts_of" = true)
    (k37 : PySem.W.keepIn K (.ref f37) = true)
    (a38 : PySem.W.nsIn K mainGlobals "spread_levels" = some (some (.ref f38)))
    (l38 : K.lookup f38 = some ⟨oc38, od38, .func (PySem.W.fnOf "spread_levels" "spread_levels" (defArgs s_spread_levels) (defBody s_spread_levels) (defScope s_spread_levels) .none kV38 dc38 pm38 an38 cd38 ct38), sl38⟩)
    (c38 : PySem.W.codeIn K cd38 "spread_levels" = true)
    (k38 : PySem.W.keepIn K (.ref f38) = true)
    (a39 : PySem.W.nsIn K mainGlobals "part_levels" = some (some (.ref f39)))
    (l39 : K.lookup f39 = some ⟨oc39, od39, .func (PySem.W.fnOf "part_levels" "part_levels" (defArgs s_part_levels) (defBody s_part_levels) (defScope s_part_levels) .none kV39 dc39 pm39 an39 cd39 ct39), sl39⟩)
    (c39 : PySem.W.codeIn K cd39 "part_levels" = true)
    (k39 : PySem.W.keepIn K (.ref f39) = true)
    (a40 : PySem.W.nsIn K mainGlobals "reached_places" = some (some (.ref f40)))
    (l40 : K.lookup f40 = some ⟨oc40, od40, .func (PySem.W.fnOf "reached_places" "reached_places" (defArgs s_reached_places) (defBody s_reached_places) (defScope s_reached_places) .none kV40 dc40 pm40 an40 cd40 ct40), sl40⟩)
    (c40 : PySem.W.codeIn K cd40 "reached_places" = true)
    (k40 : PySem.W.keepIn K (.ref f40) = true)
    (a41 : PySem.W.findIn K (.ref C_ch) "__init__" = some (some (.ref f41)))
    (i41 : PySem.W.isFn K (.ref f41) = true)
    (l41 : K.lookup f41 = some ⟨oc41, od41, .func (PySem.W.fnOf "__init__" "Chart.__init__" (defArgs s_ChartInit) (defBody s_ChartInit) (defScope s_ChartInit) .none kV41 dc41 pm41 an41 cd41 ct41), sl41⟩)
    (c41 : PySem.W.codeIn K cd41 "Chart.__init__" = true)
    (k41 : PySem.W.keepIn K (.ref f41) = true)
    (a42 : PySem.W.nsIn K mainGlobals "_law_mix" = some (some (.ref f42)))
    (l42 : K.lookup f42 = some ⟨oc42, od42, .func (PySem.W.fnOf "_law_mix" "_law_mix" (defArgs s_w_mix) (defBody s_w_mix) (defScope s_w_mix) .none kV42 dc42 pm42 an42 cd42 ct42), sl42⟩)
    (c42 : PySem.W.codeIn K cd42 "_law_mix" = true)
    (k42 : PySem.W.keepIn K (.ref f42) = true)
    (a43 : PySem.W.nsIn K mainGlobals "_law_hand" = some (some (.ref f43)))
    (l43 : K.lookup f43 = some ⟨oc43, od43, .func (PySem.W.fnOf "_law_hand" "_law_hand" (defArgs s_w_hand) (defBody s_w_hand) (defScope s_w_hand) .none kV43 dc43 pm43 an43 cd43 ct43), sl43⟩)
    (c43 : PySem.W.codeIn K cd43 "_law_hand" = true)
    (k43 : PySem.W.keepIn K (.ref f43) = true)
    (a44 : PySem.W.nsIn K mainGlobals "_law_draw" = some (some (.ref f44)))
    (l44 : K.lookup f44 = some ⟨oc44, od44, .func (PySem.W.fnOf "_law_draw" "_law_draw" (defArgs s_w_draw) (defBody s_w_draw) (defScope s_w_draw) .none kV44 dc44 pm44 an44 cd44 ct44), sl44⟩)
    (c44 : PySem.W.codeIn K cd44 "_law_draw" = true)
    (k44 : PySem.W.keepIn K (.ref f44) = true)
    (a45 : PySem.W.nsIn K mainGlobals "_law_take" = some (some (.ref f45)))
    (l45 : K.lookup f45 = some ⟨oc45, od45, .func (PySem.W.fnOf "_law_take" "_law_take" (defArgs s_w_take) (defBody s_w_take) (defScope s_w_take) .none kV45 dc45 pm45 an45 cd45 ct45), sl45⟩)
    (c45 : PySem.W.codeIn K cd45 "_law_take" = true)
    (k45 : PySem.W.keepIn K (.ref f45) = true)
    (a46 : PySem.W.nsIn K mainGlobals "_law_cost" = some (some (.ref f46)))
    (l46 : K.lookup f46 = some ⟨oc46, od46, .func (PySem.W.fnOf "_law_cost" "_law_cost" (defArgs s_w_cost) (defBody s_w_cost) (defScope s_w_cost) .none kV46 dc46 pm46 an46 cd46 ct46), sl46⟩)
    (c46 : PySem.W.codeIn K cd46 "_law_cost" = true)
    (k46 : PySem.W.keepIn K (.ref f46) = true)
    (a47 : PySem.W.nsIn K mainGlobals "_law_order" = some (some (.ref f47)))
    (l47 : K.lookup f47 = some ⟨oc47, od47, .func (PySem.W.fnOf "_law_order" "_law_order" (defArgs s_w_order) (defBody s_w_order) (defScope s_w_order) .none kV47 dc47 pm47 an47 cd47 ct47), sl47⟩)
    (c47 : PySem.W.codeIn K cd47 "_law_order" = true)
    (k47 : PySem.W.keepIn K (.ref f47) = true)
    (a48 : PySem.W.nsIn K mainGlobals "_law_last" = some (some (.ref f48)))
    (l48 : K.lookup f48 = some ⟨oc48, od48, .func (PySem.W.fnOf "_law_last" "_law_last" (defArgs s_w_last) (defBody s_w_last) (defScope s_w_last) .none kV48 dc48 pm48 an48 cd48 ct48), sl48⟩)
    (c48 : PySem.W.codeIn K cd48 "_law_last" = true)
    (k48 : PySem.W.keepIn K (.ref f48) = true)
    (a49 : PySem.W.nsIn K mainGlobals "_law_gain" = some (some (.ref f49)))
    (l49 : K.lookup f49 = some ⟨oc49, od49, .func (PySem.W.fnOf "_law_gain" "_law_gain" (defArgs s_w_gain) (defBody s_w_gain) (defScope s_w_gain) .none kV49 dc49 pm49 an49 cd49 ct49), sl49⟩)
    (c49 : PySem.W.codeIn K cd49 "_law_gain" = true)
    (k49 : PySem.W.keepIn K (.ref f49) = true)
    (a50 : PySem.W.nsIn K mainGlobals "_law_sum" = some (some (.ref f50)))
    (l50 : K.lookup f50 = some ⟨oc50, od50, .func (PySem.W.fnOf "_law_sum" "_law_sum" (defArgs s_w_sum) (defBody s_w_sum) (defScope s_w_sum) .none kV50 dc50 pm50 an50 cd50 ct50), sl50⟩)
    (c50 : PySem.W.codeIn K cd50 "_law_sum" = true)
    (k50 : PySem.W.keepIn K (.ref f50) = true)
    (a51 : PySem.W.nsIn K mainGlobals "_law_behind" = some (some (.ref f51)))
    (l51 : K.lookup f51 = some ⟨oc51, od51, .func (PySem.W.fnOf "_law_behind" "_law_behind" (defArgs s_w_behind) (defBody s_w_behind) (defScope s_w_behind) .none kV51 dc51 pm51 an51 cd51 ct51), sl51⟩)
    (c51 : PySem.W.codeIn K cd51 "_law_behind" = true)
    (k51 : PySem.W.keepIn K (.ref f51) = true)
    (a52 : PySem.W.nsIn K mainGlobals "_law_inner" = some (some (.ref f52)))
    (l52 : K.lookup f52 = some ⟨oc52, od52, .func (PySem.W.fnOf "_law_inner" "_law_inner" (defArgs s_w_inner) (defBody s_w_inner) (defScope s_w_inner) .none kV52 dc52 pm52 an52 cd52 ct52), sl52⟩)
    (c52 : PySem.W.codeIn K cd52 "_law_inner" = true)
    (k52 : PySem.W.keepIn K (.ref f52) = true)
    (a53 : PySem.W.nsIn K mainGlobals "_law_even_row" = some (some (.ref f53)))
    (l53 : K.lookup f53 = some ⟨oc53, od53, .func (PySem.W.fnOf "_law_even_row" "_law_even_row" (defArgs s_w_even_row) (defBody s_w_even_row) (defScope s_w_even_row) .none kV53 dc53 pm53 an53 cd53 ct53), sl53⟩)
    (c53 : PySem.W.codeIn K cd53 "_law_even_row" = true)
    (k53 : PySem.W.keepIn K (.ref f53) = true)
    (a54 : PySem.W.nsIn K mainGlobals "_law_wide" = some (some (.ref f54)))
    (l54 : K.lookup f54 = some ⟨oc54, od54, .func (PySem.W.fnOf "_law_wide" "_law_wide" (defArgs s_w_wide) (defBody s_w_wide) (defScope s_w_wide) .none kV54 dc54 pm54 an54 cd54 ct54), sl54⟩)
    (c54 : PySem.W.codeIn K cd54 "_law_wide" = true)
    (k54 : PySem.W.keepIn K (.ref f54) = true)
    (a55 : PySem.W.nsIn K mainGlobals "_law_meter" = some (some (.ref f55)))
    (l55 : K.lookup f55 = some ⟨oc55, od55, .func (PySem.W.fnOf "_law_meter" "_law_meter" (defArgs s_w_meter) (defBody s_w_meter) (defScope s_w_meter) .none kV55 dc55 pm55 an55 cd55 ct55), sl55⟩)
    (c55 : PySem.W.codeIn K cd55 "_law_meter" = true)
    (k55 : PySem.W.keepIn K (.ref f55) = true)
    (a56 : PySem.W.nsIn K mainGlobals "_law_made" = some (some (.ref f56)))
    (l56 : K.lookup f56 = some ⟨oc56, od56, .func (PySem.W.fnOf "_law_made" "_law_made" (defArgs s_w_made) (defBody s_w_made) (defScope s_w_made) .none kV56 dc56 pm56 an56 cd56 ct56), sl56⟩)
    (c56 : PySem.W.codeIn K cd56 "_law_made" = true)
    (k56 : PySem.W.keepIn K (.ref f56) = true)
    (a57 : PySem.W.nsIn K mainGlobals "_law_ends" = some (some (.ref f57)))
    (l57 : K.lookup f57 = some ⟨oc57, od57, .func (PySem.W.fnOf "_law_ends" "_law_ends" (defArgs s_w_ends) (defBody s_w_ends) (defScope s_w_ends) .none kV57 dc57 pm57 an57 cd57 ct57), sl57⟩)
    (c57 : PySem.W.codeIn K cd57 "_law_ends" = true)
    (k57 : PySem.W.keepIn K (.ref f57) = true)
    (a58 : PySem.W.nsIn K mainGlobals "_law_run" = some (some (.ref f58)))
    (l58 : K.lookup f58 = some ⟨oc58, od58, .func (PySem.W.fnOf "_law_run" "_law_run" (defArgs s_w_run) (defBody s_w_run) (defScope s_w_run) .none kV58 dc58 pm58 an58 cd58 ct58), sl58⟩)
    (c58 : PySem.W.codeIn K cd58 "_law_run" = true)
    (k58 : PySem.W.keepIn K (.ref f58) = true)
    (a59 : PySem.W.nsIn K mainGlobals "_law_shortest" = some (some (.ref f59)))
    (l59 : K.lookup f59 = some ⟨oc59, od59, .func (PySem.W.fnOf "_law_shortest" "_law_shortest" (defArgs s_w_shortest) (defBody s_w_shortest) (defScope s_w_shortest) .none kV59 dc59 pm59 an59 cd59 ct59), sl59⟩)
    (c59 : PySem.W.codeIn K cd59 "_law_shortest" = true)
    (k59 : PySem.W.keepIn K (.ref f59) = true)
    (a60 : PySem.W.nsIn K mainGlobals "_law_ring_right" = some (some (.ref f60)))
    (l60 : K.lookup f60 = some ⟨oc60, od60, .func (PySem.W.fnOf "_law_ring_right" "_law_ring_right" (defArgs s_w_ring_right) (defBody s_w_ring_right) (defScope s_w_ring_right) .none kV60 dc60 pm60 an60 cd60 ct60), sl60⟩)
    (c60 : PySem.W.codeIn K cd60 "_law_ring_right" = true)
    (k60 : PySem.W.keepIn K (.ref f60) = true)
    (a61 : PySem.W.nsIn K mainGlobals "_law_side" = some (some (.ref f61)))
    (l61 : K.lookup f61 = some ⟨oc61, od61, .func (PySem.W.fnOf "_law_side" "_law_side" (defArgs s_w_side) (defBody s_w_side) (defScope s_w_side) .none kV61 dc61 pm61 an61 cd61 ct61), sl61⟩)
    (c61 : PySem.W.codeIn K cd61 "_law_side" = true)
    (k61 : PySem.W.keepIn K (.ref f61) = true)
    (a62 : PySem.W.nsIn K mainGlobals "_law_levels_right" = some (some (.ref f62)))
    (l62 : K.lookup f62 = some ⟨oc62, od62, .func (PySem.W.fnOf "_law_levels_right" "_law_levels_right" (defArgs s_w_levels_right) (defBody s_w_levels_right) (defScope s_w_levels_right) .none kV62 dc62 pm62 an62 cd62 ct62), sl62⟩)
    (c62 : PySem.W.codeIn K cd62 "_law_levels_right" = true)
    (k62 : PySem.W.keepIn K (.ref f62) = true)
    (a63 : PySem.W.nsIn K mainGlobals "_law_cover_right" = some (some (.ref f63)))
    (l63 : K.lookup f63 = some ⟨oc63, od63, .func (PySem.W.fnOf "_law_cover_right" "_law_cover_right" (defArgs s_w_cover_right) (defBody s_w_cover_right) (defScope s_w_cover_right) .none kV63 dc63 pm63 an63 cd63 ct63), sl63⟩)
    (c63 : PySem.W.codeIn K cd63 "_law_cover_right" = true)
    (k63 : PySem.W.keepIn K (.ref f63) = true)
    (a64 : PySem.W.nsIn K mainGlobals "_law_even_right" = some (some (.ref f64)))
    (l64 : K.lookup f64 = some ⟨oc64, od64, .func (PySem.W.fnOf "_law_even_right" "_law_even_right" (defArgs s_w_even_right) (defBody s_w_even_right) (defScope s_w_even_right) .none kV64 dc64 pm64 an64 cd64 ct64), sl64⟩)
    (c64 : PySem.W.codeIn K cd64 "_law_even_right" = true)
    (k64 : PySem.W.keepIn K (.ref f64) = true)
    (a65 : PySem.W.nsIn K mainGlobals "law" = some (some (.ref f65)))
    (l65 : K.lookup f65 = some ⟨oc65, od65, .func (PySem.W.fnOf "law" "law" (defArgs s_law) (defBody s_law) (defScope s_law) .none kV65 dc65 pm65 an65 cd65 ct65), sl65⟩)
    (c65 : PySem.W.codeIn K cd65 "law" = true)
    (k65 : PySem.W.keepIn K (.ref f65) = true)
    (pg_ch : PySem.W.plainGet K C_ch Str.empty = true)
    (hd_ch : PySem.W.hasDictIn K C_ch = true)
    (po_ch : PySem.W.plainOver K C_ch = true)
    (sa_ch : PySem.W.findIn K (.ref C_ch) "__setattr__" = some (some (.builtin "object.__setattr__")))
    (mk_ch : PySem.W.makesIn K C_ch = true)
    (kc_ch : PySem.W.keepIn K (.ref C_ch) = true)
    (pg_me : PySem.W.plainGet K C_me Str.empty = true)
    (hd_me : PySem.W.hasDictIn K C_me = true)
    (po_me : PySem.W.plainOver K C_me = true)
    (sa_me : PySem.W.findIn K (.ref C_me) "__setattr__" = some (some (.builtin "object.__setattr__")))
    (mk_me : PySem.W.makesIn K C_me = true)
    (kc_me : PySem.W.keepIn K (.ref C_me) = true)
    (pg_dr : PySem.W.plainGet K C_dr Str.empty = true)
    (hd_dr : PySem.W.hasDictIn K C_dr = true)
    (po_dr : PySem.W.plainOver K C_dr = true)
    (sa_dr : PySem.W.findIn K (.ref C_dr) "__setattr__" = some (some (.builtin "object.__setattr__")))
    (mk_dr : PySem.W.makesIn K C_dr = true)
    (kc_dr : PySem.W.keepIn K (.ref C_dr) = true)
    (pg_sh : PySem.W.plainGet K C_sh Str.empty = true)
    (hd_sh : PySem.W.hasDictIn K C_sh = true)
    (po_sh : PySem.W.plainOver K C_sh = true)
    (sa_sh : PySem.W.findIn K (.ref C_sh) "__setattr__" = some (some (.builtin "object.__setattr__")))
    (mk_sh : PySem.W.makesIn K C_sh = true)
    (kc_sh : PySem.W.keepIn K (.ref C_sh) = true)
    (pg_un : PySem.W.plainGet K C_un Str.empty = true)
    (hd_un : PySem.W.hasDictIn K C_un = true)
    (po_un : PySem.W.plainOver K C_un = true)
    (sa_un : PySem.W.findIn K (.ref C_un) "__setattr__" = some (some (.builtin "object.__setattr__")))
    (mk_un : PySem.W.makesIn K C_un = true)
    (kc_un : PySem.W.keepIn K (.ref C_un) = true)
    (n_ch_costs : PySem.W.findIn K (.ref C_ch) "costs" = some none)
    (n_ch_arrows : PySem.W.findIn K (.ref C_ch) "arrows" = some none)
    (n_me_chart : PySem.W.findIn K (.ref C_me) "chart" = some none)
    (n_me_first : PySem.W.findIn K (.ref C_me) "first" = some none)
    (n_me_charges : PySem.W.findIn K (.ref C_me) "charges" = some none)
    (n_dr_ring : PySem.W.findIn K (.ref C_dr) "ring" = some none)
    (n_dr_by : PySem.W.findIn K (.ref C_dr) "by" = some none)
    (n_sh_run : PySem.W.findIn K (.ref C_sh) "run" = some none)
    (n_sh_by : PySem.W.findIn K (.ref C_sh) "by" = some none)
    (n_un_place : PySem.W.findIn K (.ref C_un) "place" = some none)
    (n_un_one : PySem.W.findIn K (.ref C_un) "one" = some none)
    (n_un_other : PySem.W.findIn K (.ref C_un) "other" = some none)
    (z_len : PySem.W.nsIn K mainGlobals "len" = some none)
    (z_enumerate : PySem.W.nsIn K mainGlobals "enumerate" = some none)
    (z_range : PySem.W.nsIn K mainGlobals "range" = some none)
    (z_isinstance : PySem.W.nsIn K mainGlobals "isinstance" = some none)
    (z_int : PySem.W.nsIn K mainGlobals "int" = some none)
    (z_bool : PySem.W.nsIn K mainGlobals "bool" = some none)
    (z_list : PySem.W.nsIn K mainGlobals "list" = some none)
    (z_tuple : PySem.W.nsIn K mainGlobals "tuple" = some none)
    (z_sorted : PySem.W.nsIn K mainGlobals "sorted" = some none)
    (z_sum : PySem.W.nsIn K mainGlobals "sum" = some none)
    (z_max : PySem.W.nsIn K mainGlobals "max" = some none)
    (z_min : PySem.W.nsIn K mainGlobals "min" = some none)
    (z_any : PySem.W.nsIn K mainGlobals "any" = some none)
    (z_zip : PySem.W.nsIn K mainGlobals "zip" = some none)
    (z_reversed : PySem.W.nsIn K mainGlobals "reversed" = some none)
    (z_abs : PySem.W.nsIn K mainGlobals "abs" = some none)
    (ha_dr : PySem.W.findIn K (.ref C_dr) "__class__" = some (some (.builtin "object.__class__")))
    (hm_dr : PySem.W.mroIn K C_dr (.type "object") = some true)
    (ha_sh : PySem.W.findIn K (.ref C_sh) "__class__" = some (some (.builtin "object.__class__")))
    (hm_sh : PySem.W.mroIn K C_sh (.type "object") = some true)
    (ha_un : PySem.W.findIn K (.ref C_un) "__class__" = some (some (.builtin "object.__class__")))
    (hm_un : PySem.W.mroIn K C_un (.type "object") = some true)
    (hn_o : PySem.W.specialIn K (.builtin "object.__class__") "__get__" = some (some (.builtin "getset_descriptor.__get__")))
    (ht_o : PySem.W.takesIn K (.builtin "object.__class__") = some true)
    (ty_un : PySem.W.typeIn K (.ref C_un) = some (.type "type"))
    (su_un : PySem.W.subIn K (.type "tuple") (.ref C_un) = some false)
    (most : PySem.W.nsIn K mainGlobals "MOST_CHARGE" = some (some (.int 1000000000000 tk)))
    : ∃ fd : FuncData, (∀ (s : Shared) (v : Value), BindsTo s fd ⟨[v], []⟩ [("_law_script", v)]) ∧ ∀ base : Heap, K.In base → base.Ns mainGlobals mg → FnOk l.prog w K mg base CX0 12 fa fd ["_law_script"] (sp_law K) := by
  have e := hfa.symm.trans (PySem.W.mg_of X G a65)
  cases e
  have cl_ch : Cls K C_ch := ⟨pg_ch, hd_ch, po_ch, sa_ch⟩
  have cl_me : Cls K C_me := ⟨pg_me, hd_me, po_me, sa_me⟩
  have cl_dr : Cls K C_dr := ⟨pg_dr, hd_dr, po_dr, sa_dr⟩
  have cl_sh : Cls K C_sh := ⟨pg_sh, hd_sh, po_sh, sa_sh⟩
  have cl_un : Cls K C_un := ⟨pg_un, hd_un, po_un, sa_un⟩
  have T : Txt K mg ⟨C_ch, C_me, C_dr, C_sh, C_un, tk⟩ := ⟨PySem.W.mg_none_of X G z_len, PySem.W.mg_none_of X G z_enumerate, PySem.W.mg_none_of X G z_range, PySem.W.mg_none_of X G z_isinstance, PySem.W.mg_none_of X G z_int, PySem.W.mg_none_of X G z_bool, PySem.W.mg_none_of X G z_list, PySem.W.mg_none_of X G z_tuple, PySem.W.mg_none_of X G z_sorted, PySem.W.mg_none_of X G z_sum, PySem.W.mg_none_of X G z_max, PySem.W.mg_none_of X G z_min, PySem.W.mg_none_of X G z_any, PySem.W.mg_none_of X G z_zip, PySem.W.mg_none_of X G z_reversed, PySem.W.mg_none_of X G z_abs, cl_ch, PySem.W.mg_of X G a_ch, cl_me, PySem.W.mg_of X G a_me, cl_dr, PySem.W.mg_of X G a_dr, cl_sh, PySem.W.mg_of X G a_sh, cl_un, PySem.W.mg_of X G a_un, n_ch_costs, n_ch_arrows, n_me_chart, n_me_first, n_me_charges, n_dr_ring, n_dr_by, n_sh_run, n_sh_by, n_un_place, n_un_one, n_un_other, ⟨ha_dr, hn_o, ht_o, hm_dr⟩, ⟨ha_sh, hn_o, ht_o, hm_sh⟩, ⟨ha_un, hn_o, ht_o, hm_un⟩, kit_no hm_un ty_un su_un, kit_self C_dr, kit_self C_sh, kit_self C_un, PySem.W.mg_of X G most⟩
  have F0 := fun_mk (st := s_is_whole) l0 c0 k0
  have b0 := F0.binds (ps := ["thing", "low", "high"]) fun _ _ _ _ _ _ us hl => match us, hl with | [_, _, _], _ => rfl
  have F1 := fun_mk (st := s_is_row) l1 c1 k1
  have b1 := F1.binds (ps := ["thing", "least", "most"]) fun _ _ _ _ _ _ us hl => match us, hl with | [_, _, _], _ => rfl
  have F2 := fun_mk (st := s_check_place) l2 c2 k2
  have b2 := F2.binds (ps := ["chart", "place"]) fun _ _ _ _ _ _ us hl => match us, hl with | [_, _], _ => rfl
  have F3 := fun_mk (st := s_arrow_gain) l3 c3 k3
  have b3 := F3.binds (ps := ["meter", "arrow"]) fun _ _ _ _ _ _ us hl => match us, hl with | [_, _], _ => rfl
  have F4 := fun_mk (st := s_Chartouts) l4 c4 k4
  have b4 := F4.binds (ps := ["self", "place"]) fun _ _ _ _ _ _ us hl => match us, hl with | [_, _], _ => rfl
  have F5 := fun_mk (st := s_rest_rows) l5 c5 k5
  have b5 := F5.binds (ps := ["meter", "last_row", "lowest", "length", "sense"]) fun _ _ _ _ _ _ us hl => match us, hl with | [_, _, _, _, _], _ => rfl
  have F6 := fun_mk (st := s_DriftInit) l6 c6 k6
  have b6 := F6.binds (ps := ["self", "ring", "by"]) fun _ _ _ _ _ _ us hl => match us, hl with | [_, _, _], _ => rfl
  have F7 := fun_mk (st := s_can_drift) l7 c7 k7
  have b7 := F7.binds (ps := ["tables", "place", "left", "gained"]) fun _ _ _ _ _ _ us hl => match us, hl with | [_, _, _, _], _ => rfl
  have F8 := fun_mk (st := s_least_ring) l8 c8 k8
  have b8 := F8.binds (ps := ["meter", "tables", "start", "length"]) fun _ _ _ _ _ _ us hl => match us, hl with | [_, _, _, _], _ => rfl
  have F9 := fun_mk (st := s_first_drift) l9 c9 k9
  have b9 := F9.binds (ps := ["meter", "senses"]) fun _ _ _ _ _ _ us hl => match us, hl with | [_, _], _ => rfl
  have F10 := fun_mk (st := s_find_drift) l10 c10 k10
  have b10 := F10.binds (ps := ["meter"]) fun _ _ _ _ _ _ us hl => match us, hl with | [_], _ => rfl
  have F11 := fun_mk (st := s_find_fall) l11 c11 k11
  have b11 := F11.binds (ps := ["meter"]) fun _ _ _ _ _ _ us hl => match us, hl with | [_], _ => rfl
  have F12 := fun_mk (st := s_find_rise) l12 c12 k12
  have b12 := F12.binds (ps := ["meter"]) fun _ _ _ _ _ _ us hl => match us, hl with | [_], _ => rfl
  have F13 := fun_mk (st := s_lead_rows) l13 c13 k13
  have b13 := F13.binds (ps := ["meter", "sense"]) fun _ _ _ _ _ _ us hl => match us, hl with | [_, _], _ => rfl
  have F14 := fun_mk (st := s_extreme_worths) l14 c14 k14
  have b14 := F14.binds (ps := ["meter", "sense"]) fun _ _ _ _ _ _ us hl => match us, hl with | [_, _], _ => rfl
  have F15 := fun_mk (st := s_low_leads) l15 c15 k15
  have b15 := F15.binds (ps := ["meter"]) fun _ _ _ _ _ _ us hl => match us, hl with | [_], _ => rfl
  have F16 := fun_mk (st := s_high_leads) l16 c16 k16
  have b16 := F16.binds (ps := ["meter"]) fun _ _ _ _ _ _ us hl => match us, hl with | [_], _ => rfl
  have F17 := fun_mk (st := s_greatest_lead) l17 c17 k17
  have b17 := F17.binds (ps := ["meter"]) fun _ _ _ _ _ _ us hl => match us, hl with | [_], _ => rfl
  have F18 := fun_mk (st := s_least_walk) l18 c18 k18
  have b18 := F18.binds (ps := ["meter", "rests", "length", "start", "wanted", "sense"]) fun _ _ _ _ _ _ us hl => match us, hl with | [_, _, _, _, _, _], _ => rfl
  have F19 := fun_mk (st := s_extreme_run) l19 c19 k19
  have b19 := F19.binds (ps := ["meter", "place", "sense"]) fun _ _ _ _ _ _ us hl => match us, hl with | [_, _, _], _ => rfl
  have F20 := fun_mk (st := s_find_low_run) l20 c20 k20
  have b20 := F20.binds (ps := ["meter", "place"]) fun _ _ _ _ _ _ us hl => match us, hl with | [_, _], _ => rfl
  have F21 := fun_mk (st := s_find_high_run) l21 c21 k21
  have b21 := F21.binds (ps := ["meter", "place"]) fun _ _ _ _ _ _ us hl => match us, hl with | [_, _], _ => rfl
  have F22 := fun_mk (st := s_check_run) l22 c22 k22
  have b22 := F22.binds (ps := ["chart", "run"]) fun _ _ _ _ _ _ us hl => match us, hl with | [_, _], _ => rfl
  have F23 := fun_mk (st := s_places_of) l23 c23 k23
  have b23 := F23.binds (ps := ["chart", "run"]) fun _ _ _ _ _ _ us hl => match us, hl with | [_, _], _ => rfl
  have F24 := fun_mk (st := s_used_by) l24 c24 k24
  have b24 := F24.binds (ps := ["chart", "run"]) fun _ _ _ _ _ _ us hl => match us, hl with | [_, _], _ => rfl
  have F25 := fun_mk (st := s_Metercharged) l25 c25 k25
  have b25 := F25.binds (ps := ["self", "run"]) fun _ _ _ _ _ _ us hl => match us, hl with | [_, _], _ => rfl
  have F26 := fun_mk (st := s_Meterlead_behind) l26 c26 k26
  have b26 := F26.binds (ps := ["self", "run"]) fun _ _ _ _ _ _ us hl => match us, hl with | [_, _], _ => rfl
  have F27 := fun_mk (st := s_Meterlead_ahead) l27 c27 k27
  have b27 := F27.binds (ps := ["self", "run"]) fun _ _ _ _ _ _ us hl => match us, hl with | [_, _], _ => rfl
  have F28 := fun_mk (st := s_MeterInit) l28 c28 k28
  have b28 := F28.binds (ps := ["self", "chart", "first", "charges"]) fun _ _ _ _ _ _ us hl => match us, hl with | [_, _, _, _], _ => rfl
  have F29 := fun_mk (st := s_ShortInit) l29 c29 k29
  have b29 := F29.binds (ps := ["self", "run", "by"]) fun _ _ _ _ _ _ us hl => match us, hl with | [_, _, _], _ => rfl
  have F30 := fun_mk (st := s_UnevenInit) l30 c30 k30
  have b30 := F30.binds (ps := ["self", "place", "one", "other"]) fun _ _ _ _ _ _ us hl => match us, hl with | [_, _, _, _], _ => rfl
  have F31 := fun_mk (st := s_least_first) l31 c31 k31
  have b31 := F31.binds (ps := ["meter"]) fun _ _ _ _ _ _ us hl => match us, hl with | [_], _ => rfl
  have F32 := fun_mk (st := s_find_short) l32 c32 k32
  have b32 := F32.binds (ps := ["meter"]) fun _ _ _ _ _ _ us hl => match us, hl with | [_], _ => rfl
  have F33 := fun_mk (st := s_run_to) l33 c33 k33
  have b33 := F33.binds (ps := ["chart", "place"]) fun _ _ _ _ _ _ us hl => match us, hl with | [_, _], _ => rfl
  have F34 := fun_mk (st := s_even_leads) l34 c34 k34
  have b34 := F34.binds (ps := ["meter"]) fun _ _ _ _ _ _ us hl => match us, hl with | [_], _ => rfl
  have F35 := fun_mk (st := s_behind_places) l35 c35 k35
  have b35 := F35.binds (ps := ["chart", "place"]) fun _ _ _ _ _ _ us hl => match us, hl with | [_, _], _ => rfl
  have F36 := fun_mk (st := s_part_of) l36 c36 k36
  have b36 := F36.binds (ps := ["chart", "place"]) fun _ _ _ _ _ _ us hl => match us, hl with | [_, _], _ => rfl
  have F37 := fun_mk (st := s_parts_of) l37 c37 k37
  have b37 := F37.binds (ps := ["chart"]) fun _ _ _ _ _ _ us hl => match us, hl with | [_], _ => rfl
  have F38 := fun_mk (st := s_spread_levels) l38 c38 k38
  have b38 := F38.binds (ps := ["meter", "part", "known", "levels"]) fun _ _ _ _ _ _ us hl => match us, hl with | [_, _, _, _], _ => rfl
  have F39 := fun_mk (st := s_part_levels) l39 c39 k39
  have b39 := F39.binds (ps := ["meter"]) fun _ _ _ _ _ _ us hl => match us, hl with | [_], _ => rfl
  have F40 := fun_mk (st := s_reached_places) l40 c40 k40
  have b40 := F40.binds (ps := ["many", "arrows"]) fun _ _ _ _ _ _ us hl => match us, hl with | [_, _], _ => rfl
  have F41 := fun_mk (st := s_ChartInit) l41 c41 k41
  have b41 := F41.binds (ps := ["self", "costs", "arrows"]) fun _ _ _ _ _ _ us hl => match us, hl with | [_, _, _], _ => rfl
  have F42 := fun_mk (st := s_w_mix) l42 c42 k42
  have b42 := F42.binds (ps := ["_law_number", "_law_turn"]) fun _ _ _ _ _ _ us hl => match us, hl with | [_, _], _ => rfl
  have F43 := fun_mk (st := s_w_hand) l43 c43 k43
  have b43 := F43.binds (ps := ["_law_script"]) fun _ _ _ _ _ _ us hl => match us, hl with | [_], _ => rfl
  have F44 := fun_mk (st := s_w_draw) l44 c44 k44
  have b44 := F44.binds (ps := ["_law_hand_here", "_law_many"]) fun _ _ _ _ _ _ us hl => match us, hl with | [_, _], _ => rfl
  have F45 := fun_mk (st := s_w_take) l45 c45 k45
  have b45 := F45.binds (ps := ["_law_hand_here", "_law_row"]) fun _ _ _ _ _ _ us hl => match us, hl with | [_, _], _ => rfl
  have F46 := fun_mk (st := s_w_cost) l46 c46 k46
  have b46 := F46.binds (ps := ["_law_hand_here", "_law_small"]) fun _ _ _ _ _ _ us hl => match us, hl with | [_, _], _ => rfl
  have F47 := fun_mk (st := s_w_order) l47 c47 k47
  have b47 := F47.binds (ps := ["_law_hand_here", "_law_many"]) fun _ _ _ _ _ _ us hl => match us, hl with | [_, _], _ => rfl
  have F48 := fun_mk (st := s_w_last) l48 c48 k48
  have b48 := F48.binds (ps := ["_law_chart", "_law_run_here"]) fun _ _ _ _ _ _ us hl => match us, hl with | [_, _], _ => rfl
  have F49 := fun_mk (st := s_w_gain) l49 c49 k49
  have b49 := F49.binds (ps := ["_law_meter_here", "_law_arrow"]) fun _ _ _ _ _ _ us hl => match us, hl with | [_, _], _ => rfl
  have F50 := fun_mk (st := s_w_sum) l50 c50 k50
  have b50 := F50.binds (ps := ["_law_meter_here", "_law_arrows"]) fun _ _ _ _ _ _ us hl => match us, hl with | [_, _], _ => rfl
  have F51 := fun_mk (st := s_w_behind) l51 c51 k51
  have b51 := F51.binds (ps := ["_law_chart", "_law_place"]) fun _ _ _ _ _ _ us hl => match us, hl with | [_, _], _ => rfl
  have F52 := fun_mk (st := s_w_inner) l52 c52 k52
  have b52 := F52.binds (ps := ["_law_chart"]) fun _ _ _ _ _ _ us hl => match us, hl with | [_], _ => rfl
  have F53 := fun_mk (st := s_w_even_row) l53 c53 k53
  have b53 := F53.binds (ps := ["_law_hand_here", "_law_chart"]) fun _ _ _ _ _ _ us hl => match us, hl with | [_, _], _ => rfl
  have F54 := fun_mk (st := s_w_wide) l54 c54 k54
  have b54 := F54.binds (ps := ["_law_hand_here"]) fun _ _ _ _ _ _ us hl => match us, hl with | [_], _ => rfl
  have F55 := fun_mk (st := s_w_meter) l55 c55 k55
  have b55 := F55.binds (ps := ["_law_hand_here", "_law_chart"]) fun _ _ _ _ _ _ us hl => match us, hl with | [_, _], _ => rfl
  have F56 := fun_mk (st := s_w_made) l56 c56 k56
  have b56 := F56.binds (ps := ["_law_hand_here", "_law_meter_here"]) fun _ _ _ _ _ _ us hl => match us, hl with | [_, _], _ => rfl
  have F57 := fun_mk (st := s_w_ends) l57 c57 k57
  have b57 := F57.binds (ps := ["_law_meter_here", "_law_run_here"]) fun _ _ _ _ _ _ us hl => match us, hl with | [_, _], _ => rfl
  have F58 := fun_mk (st := s_w_run) l58 c58 k58
  have b58 := F58.binds (ps := ["_law_hand_here", "_law_chart", "_law_most"]) fun _ _ _ _ _ _ us hl => match us, hl with | [_, _, _], _ => rfl
  have F59 := fun_mk (st := s_w_shortest) l59 c59 k59
  have b59 := F59.binds (ps := ["_law_chart", "_law_place"]) fun _ _ _ _ _ _ us hl => match us, hl with | [_, _], _ => rfl
  have F60 := fun_mk (st := s_w_ring_right) l60 c60 k60
  have b60 := F60.binds (ps := ["_law_hand_here", "_law_meter_here", "_law_made_here", "_law_told", "_law_sense"]) fun _ _ _ _ _ _ us hl => match us, hl with | [_, _, _, _, _], _ => rfl
  have F61 := fun_mk (st := s_w_side) l61 c61 k61
  have b61 := F61.binds (ps := ["_law_hand_here", "_law_meter_here", "_law_made_here", "_law_sense"]) fun _ _ _ _ _ _ us hl => match us, hl with | [_, _, _, _], _ => rfl
  have F62 := fun_mk (st := s_w_levels_right) l62 c62 k62
  have b62 := F62.binds (ps := ["_law_hand_here", "_law_meter_here", "_law_made_here"]) fun _ _ _ _ _ _ us hl => match us, hl with | [_, _, _], _ => rfl
  have F63 := fun_mk (st := s_w_cover_right) l63 c63 k63
  have b63 := F63.binds (ps := ["_law_meter_here", "_law_made_here", "_law_lows"]) fun _ _ _ _ _ _ us hl => match us, hl with | [_, _, _], _ => rfl
  have F64 := fun_mk (st := s_w_even_right) l64 c64 k64
  have b64 := F64.binds (ps := ["_law_meter_here", "_law_made_here", "_law_lows", "_law_highs"]) fun _ _ _ _ _ _ us hl => match us, hl with | [_, _, _, _], _ => rfl
  have F65 := fun_mk (st := s_law) l65 c65 k65
  refine ⟨PySem.W.fnOf "law" "law" (defArgs s_law) (defBody s_law) (defScope s_law) .none kV65 dc65 pm65 an65 cd65 ct65, fun s v => .of_eq rfl, fun base _ _ => ?_⟩
  have c_is_whole := ok_is_whole (P := l.prog) (w := w) (base := base) T ⟨⟨_, _, F0, PySem.W.mg_of X G a0, b0⟩⟩ 
  have c_is_row := ok_is_row (P := l.prog) (w := w) (base := base) T ⟨⟨_, _, F1, PySem.W.mg_of X G a1, b1⟩⟩ 
  have c_check_place := ok_check_place (P := l.prog) (w := w) (base := base) T ⟨⟨_, _, F2, PySem.W.mg_of X G a2, b2⟩⟩ (c_is_whole := c_is_whole)
  have c_arrow_gain := ok_arrow_gain (P := l.prog) (w := w) (base := base) T ⟨⟨_, _, F3, PySem.W.mg_of X G a3, b3⟩⟩ 
  have c_Chartouts := ok_Chartouts (P := l.prog) (w := w) (base := base) T ⟨⟨_, _, F4, ⟨a4, i4, k4⟩, b4⟩⟩ (c_check_place := c_check_place)
  have c_rest_rows := ok_rest_rows (P := l.prog) (w := w) (base := base) T ⟨⟨_, _, F5, PySem.W.mg_of X G a5, b5⟩⟩ (c_arrow_gain := c_arrow_gain)
  have c_DriftInit := ok_DriftInit (P := l.prog) (w := w) (base := base) T ⟨⟨_, _, F6, ⟨mk_dr, a6, i6, kc_dr⟩, b6⟩⟩ 
  have c_can_drift := ok_can_drift (P := l.prog) (w := w) (base := base) T ⟨⟨_, _, F7, PySem.W.mg_of X G a7, b7⟩⟩ 
  have c_least_ring := ok_least_ring (P := l.prog) (w := w) (base := base) T ⟨⟨_, _, F8, PySem.W.mg_of X G a8, b8⟩⟩ (c_can_drift := c_can_drift) (c_Chartouts := c_Chartouts) (c_arrow_gain := c_arrow_gain)
  have c_first_drift := ok_first_drift (P := l.prog) (w := w) (base := base) T ⟨⟨_, _, F9, PySem.W.mg_of X G a9, b9⟩⟩ (c_rest_rows := c_rest_rows) (c_least_ring := c_least_ring) (c_DriftInit := c_DriftInit) (c_arrow_gain := c_arrow_gain)
  have c_find_drift := ok_find_drift (P := l.prog) (w := w) (base := base) T ⟨⟨_, _, F10, PySem.W.mg_of X G a10, b10⟩⟩ (c_first_drift := c_first_drift)
  have c_find_fall := ok_find_fall (P := l.prog) (w := w) (base := base) T ⟨⟨_, _, F11, PySem.W.mg_of X G a11, b11⟩⟩ (c_first_drift := c_first_drift)
  have c_find_rise := ok_find_rise (P := l.prog) (w := w) (base := base) T ⟨⟨_, _, F12, PySem.W.mg_of X G a12, b12⟩⟩ (c_first_drift := c_first_drift)
  have c_lead_rows := ok_lead_rows (P := l.prog) (w := w) (base := base) T ⟨⟨_, _, F13, PySem.W.mg_of X G a13, b13⟩⟩ (c_arrow_gain := c_arrow_gain)
  have c_extreme_worths := ok_extreme_worths (P := l.prog) (w := w) (base := base) T ⟨⟨_, _, F14, PySem.W.mg_of X G a14, b14⟩⟩ (c_find_rise := c_find_rise) (c_find_fall := c_find_fall) (c_lead_rows := c_lead_rows)
  have c_low_leads := ok_low_leads (P := l.prog) (w := w) (base := base) T ⟨⟨_, _, F15, PySem.W.mg_of X G a15, b15⟩⟩ (c_extreme_worths := c_extreme_worths)
  have c_high_leads := ok_high_leads (P := l.prog) (w := w) (base := base) T ⟨⟨_, _, F16, PySem.W.mg_of X G a16, b16⟩⟩ (c_extreme_worths := c_extreme_worths)
  have c_greatest_lead := ok_greatest_lead (P := l.prog) (w := w) (base := base) T ⟨⟨_, _, F17, PySem.W.mg_of X G a17, b17⟩⟩ (c_high_leads := c_high_leads)
  have c_least_walk := ok_least_walk (P := l.prog) (w := w) (base := base) T ⟨⟨_, _, F18, PySem.W.mg_of X G a18, b18⟩⟩ (c_Chartouts := c_Chartouts) (c_arrow_gain := c_arrow_gain)
  have c_extreme_run := ok_extreme_run (P := l.prog) (w := w) (base := base) T ⟨⟨_, _, F19, PySem.W.mg_of X G a19, b19⟩⟩ (c_check_place := c_check_place) (c_extreme_worths := c_extreme_worths) (c_lead_rows := c_lead_rows) (c_rest_rows := c_rest_rows) (c_least_walk := c_least_walk)
  have c_find_low_run := ok_find_low_run (P := l.prog) (w := w) (base := base) T ⟨⟨_, _, F20, PySem.W.mg_of X G a20, b20⟩⟩ (c_extreme_run := c_extreme_run)
  have c_find_high_run := ok_find_high_run (P := l.prog) (w := w) (base := base) T ⟨⟨_, _, F21, PySem.W.mg_of X G a21, b21⟩⟩ (c_extreme_run := c_extreme_run)
  have c_check_run := ok_check_run (P := l.prog) (w := w) (base := base) T ⟨⟨_, _, F22, PySem.W.mg_of X G a22, b22⟩⟩ (c_is_whole := c_is_whole) (c_is_row := c_is_row)
  have c_places_of := ok_places_of (P := l.prog) (w := w) (base := base) T ⟨⟨_, _, F23, PySem.W.mg_of X G a23, b23⟩⟩ (c_check_run := c_check_run)
  have c_used_by := ok_used_by (P := l.prog) (w := w) (base := base) T ⟨⟨_, _, F24, PySem.W.mg_of X G a24, b24⟩⟩ (c_places_of := c_places_of)
  have c_Metercharged := ok_Metercharged (P := l.prog) (w := w) (base := base) T ⟨⟨_, _, F25, ⟨a25, i25, k25⟩, b25⟩⟩ (c_check_run := c_check_run)
  have c_Meterlead_behind := ok_Meterlead_behind (P := l.prog) (w := w) (base := base) T ⟨⟨_, _, F26, ⟨a26, i26, k26⟩, b26⟩⟩ (c_Metercharged := c_Metercharged) (c_used_by := c_used_by)
  have c_Meterlead_ahead := ok_Meterlead_ahead (P := l.prog) (w := w) (base := base) T ⟨⟨_, _, F27, ⟨a27, i27, k27⟩, b27⟩⟩ (c_Metercharged := c_Metercharged) (c_used_by := c_used_by) (c_check_run := c_check_run)
  have c_MeterInit := ok_MeterInit (P := l.prog) (w := w) (base := base) T ⟨⟨_, _, F28, ⟨mk_me, a28, i28, kc_me⟩, b28⟩⟩ (c_is_whole := c_is_whole) (c_is_row := c_is_row)
  have c_ShortInit := ok_ShortInit (P := l.prog) (w := w) (base := base) T ⟨⟨_, _, F29, ⟨mk_sh, a29, i29, kc_sh⟩, b29⟩⟩ 
  have c_UnevenInit := ok_UnevenInit (P := l.prog) (w := w) (base := base) T ⟨⟨_, _, F30, ⟨mk_un, a30, i30, kc_un⟩, b30⟩⟩ 
  have c_least_first := ok_least_first (P := l.prog) (w := w) (base := base) T ⟨⟨_, _, F31, PySem.W.mg_of X G a31, b31⟩⟩ (c_find_fall := c_find_fall) (c_low_leads := c_low_leads)
  have c_find_short := ok_find_short (P := l.prog) (w := w) (base := base) T ⟨⟨_, _, F32, PySem.W.mg_of X G a32, b32⟩⟩ (c_find_fall := c_find_fall) (c_lead_rows := c_lead_rows) (c_rest_rows := c_rest_rows) (c_least_walk := c_least_walk) (c_ShortInit := c_ShortInit) (c_Meterlead_behind := c_Meterlead_behind)
  have c_run_to := ok_run_to (P := l.prog) (w := w) (base := base) T ⟨⟨_, _, F33, PySem.W.mg_of X G a33, b33⟩⟩ (c_check_place := c_check_place) (c_Chartouts := c_Chartouts)
  have c_even_leads := ok_even_leads (P := l.prog) (w := w) (base := base) T ⟨⟨_, _, F34, PySem.W.mg_of X G a34, b34⟩⟩ (c_find_drift := c_find_drift) (c_run_to := c_run_to) (c_low_leads := c_low_leads) (c_high_leads := c_high_leads) (c_find_low_run := c_find_low_run) (c_find_high_run := c_find_high_run) (c_UnevenInit := c_UnevenInit)
  have c_behind_places := ok_behind_places (P := l.prog) (w := w) (base := base) T ⟨⟨_, _, F35, PySem.W.mg_of X G a35, b35⟩⟩ (c_Chartouts := c_Chartouts)
  have c_part_of := ok_part_of (P := l.prog) (w := w) (base := base) T ⟨⟨_, _, F36, PySem.W.mg_of X G a36, b36⟩⟩ (c_check_place := c_check_place) (c_behind_places := c_behind_places)
  have c_parts_of := ok_parts_of (P := l.prog) (w := w) (base := base) T ⟨⟨_, _, F37, PySem.W.mg_of X G a37, b37⟩⟩ (c_part_of := c_part_of)
  have c_spread_levels := ok_spread_levels (P := l.prog) (w := w) (base := base) T ⟨⟨_, _, F38, PySem.W.mg_of X G a38, b38⟩⟩ (c_Chartouts := c_Chartouts) (c_arrow_gain := c_arrow_gain)
  have c_part_levels := ok_part_levels (P := l.prog) (w := w) (base := base) T ⟨⟨_, _, F39, PySem.W.mg_of X G a39, b39⟩⟩ (c_find_drift := c_find_drift) (c_parts_of := c_parts_of) (c_spread_levels := c_spread_levels)
  have c_reached_places := ok_reached_places (P := l.prog) (w := w) (base := base) T ⟨⟨_, _, F40, PySem.W.mg_of X G a40, b40⟩⟩ 
  have c_ChartInit := ok_ChartInit (P := l.prog) (w := w) (base := base) T ⟨⟨_, _, F41, ⟨mk_ch, a41, i41, kc_ch⟩, b41⟩⟩ (c_is_whole := c_is_whole) (c_is_row := c_is_row) (c_reached_places := c_reached_places)
  have c_w_mix := ok_w_mix (P := l.prog) (w := w) (base := base) T ⟨⟨_, _, F42, PySem.W.mg_of X G a42, b42⟩⟩ 
  have c_w_hand := ok_w_hand (P := l.prog) (w := w) (base := base) T ⟨⟨_, _, F43, PySem.W.mg_of X G a43, b43⟩⟩ 
  have c_w_draw := ok_w_draw (P := l.prog) (w := w) (base := base) T ⟨⟨_, _, F44, PySem.W.mg_of X G a44, b44⟩⟩ (c_w_mix := c_w_mix)
  have c_w_take := ok_w_take (P := l.prog) (w := w) (base := base) T ⟨⟨_, _, F45, PySem.W.mg_of X G a45, b45⟩⟩ (c_w_draw := c_w_draw)
  have c_w_cost := ok_w_cost (P := l.prog) (w := w) (base := base) T ⟨⟨_, _, F46, PySem.W.mg_of X G a46, b46⟩⟩ (c_w_draw := c_w_draw)
  have c_w_order := ok_w_order (P := l.prog) (w := w) (base := base) T ⟨⟨_, _, F47, PySem.W.mg_of X G a47, b47⟩⟩ (c_w_draw := c_w_draw)
  have c_w_last := ok_w_last (P := l.prog) (w := w) (base := base) T ⟨⟨_, _, F48, PySem.W.mg_of X G a48, b48⟩⟩ 
  have c_w_gain := ok_w_gain (P := l.prog) (w := w) (base := base) T ⟨⟨_, _, F49, PySem.W.mg_of X G a49, b49⟩⟩ 
  have c_w_sum := ok_w_sum (P := l.prog) (w := w) (base := base) T ⟨⟨_, _, F50, PySem.W.mg_of X G a50, b50⟩⟩ (c_w_gain := c_w_gain)
  have c_w_behind := ok_w_behind (P := l.prog) (w := w) (base := base) T ⟨⟨_, _, F51, PySem.W.mg_of X G a51, b51⟩⟩ 
  have c_w_inner := ok_w_inner (P := l.prog) (w := w) (base := base) T ⟨⟨_, _, F52, PySem.W.mg_of X G a52, b52⟩⟩ (c_w_behind := c_w_behind)
  have c_w_even_row := ok_w_even_row (P := l.prog) (w := w) (base := base) T ⟨⟨_, _, F53, PySem.W.mg_of X G a53, b53⟩⟩ (c_w_draw := c_w_draw)
  have c_w_wide := ok_w_wide (P := l.prog) (w := w) (base := base) T ⟨⟨_, _, F54, PySem.W.mg_of X G a54, b54⟩⟩ (c_w_draw := c_w_draw) (c_w_order := c_w_order) (c_w_cost := c_w_cost)
  have c_w_meter := ok_w_meter (P := l.prog) (w := w) (base := base) T ⟨⟨_, _, F55, PySem.W.mg_of X G a55, b55⟩⟩ (c_w_draw := c_w_draw) (c_w_inner := c_w_inner) (c_w_even_row := c_w_even_row)
  have c_w_made := ok_w_made (P := l.prog) (w := w) (base := base) T ⟨⟨_, _, F56, PySem.W.mg_of X G a56, b56⟩⟩ (c_w_take := c_w_take) (c_ChartInit := c_ChartInit) (c_MeterInit := c_MeterInit)
  have c_w_ends := ok_w_ends (P := l.prog) (w := w) (base := base) T ⟨⟨_, _, F57, PySem.W.mg_of X G a57, b57⟩⟩ 
  have c_w_run := ok_w_run (P := l.prog) (w := w) (base := base) T ⟨⟨_, _, F58, PySem.W.mg_of X G a58, b58⟩⟩ (c_w_draw := c_w_draw)
  have c_w_shortest := ok_w_shortest (P := l.prog) (w := w) (base := base) T ⟨⟨_, _, F59, PySem.W.mg_of X G a59, b59⟩⟩ (c_w_last := c_w_last)
  have c_w_ring_right := ok_w_ring_right (P := l.prog) (w := w) (base := base) T ⟨⟨_, _, F60, PySem.W.mg_of X G a60, b60⟩⟩ (c_w_draw := c_w_draw) (c_w_sum := c_w_sum) (c_w_shortest := c_w_shortest) (c_Meterlead_ahead := c_Meterlead_ahead)
  have c_w_side := ok_w_side (P := l.prog) (w := w) (base := base) T ⟨⟨_, _, F61, PySem.W.mg_of X G a61, b61⟩⟩ (c_w_draw := c_w_draw) (c_w_sum := c_w_sum) (c_w_ends := c_w_ends) (c_find_low_run := c_find_low_run) (c_find_high_run := c_find_high_run) (c_w_gain := c_w_gain) (c_low_leads := c_low_leads) (c_high_leads := c_high_leads) (c_w_ring_right := c_w_ring_right) (c_find_fall := c_find_fall) (c_find_rise := c_find_rise)
  have c_w_levels_right := ok_w_levels_right (P := l.prog) (w := w) (base := base) T ⟨⟨_, _, F62, PySem.W.mg_of X G a62, b62⟩⟩ (c_w_gain := c_w_gain) (c_w_inner := c_w_inner) (c_part_levels := c_part_levels) (c_w_ring_right := c_w_ring_right) (c_find_drift := c_find_drift)
  have c_w_cover_right := ok_w_cover_right (P := l.prog) (w := w) (base := base) T ⟨⟨_, _, F63, PySem.W.mg_of X G a63, b63⟩⟩ (c_w_sum := c_w_sum) (c_w_ends := c_w_ends) (c_least_first := c_least_first) (c_find_short := c_find_short)
  have c_w_even_right := ok_w_even_right (P := l.prog) (w := w) (base := base) T ⟨⟨_, _, F64, PySem.W.mg_of X G a64, b64⟩⟩ (c_w_sum := c_w_sum) (c_w_ends := c_w_ends) (c_even_leads := c_even_leads)
  exact ok_law (P := l.prog) (w := w) (base := base) T F65 (c_Meterlead_behind := c_Meterlead_behind) (c_Meterlead_ahead := c_Meterlead_ahead) (c_w_gain := c_w_gain) (c_w_run := c_w_run) (c_greatest_lead := c_greatest_lead) (c_w_even_right := c_w_even_right) (c_w_cover_right := c_w_cover_right) (c_w_levels_right := c_w_levels_right) (c_w_side := c_w_side) (c_w_made := c_w_made) (c_w_meter := c_w_meter) (c_w_wide := c_w_wide) (c_w_hand := c_w_hand)
theorem walk {l : PySem.W.OpenLaw} {q : Program} {loose : List Str} {XP : (Str → Option Value) → Heap → Prop} {YP : World → Heap → Prop} {d : DefRec} {K : Params → PySem.W.Frag} (hn : l.most = some 63) (hdf : d.params.defaults = [])
    (hY : ∀ (w : World) (h : Heap), YP w h → (K w.params).In h)
    (F : ∀ (w : World) (mg : Str → Option Value) (fa : Addr) (h : Heap), (K w.params).In h → h.Ns mainGlobals mg → mg d.name = some (.ref fa) →
      ∃ fd : FuncData, (∀ (s : Shared) (u : Value), BindsTo s fd ⟨[u], []⟩ [("_law_script", u)]) ∧ ∀ base : Heap, (K w.params).In base → base.Ns mainGlobals mg → FnOk l.prog w (K w.params) mg base CX0 12 fa fd ["_law_script"] (sp_law (K w.params))) :
    PySem.W.WalkO q loose XP YP l.row.toRowW d [] (fun f vs => PySem.call f vs) :=
  L2.walk_ofK (n := 63) (k := 12) (x := "_law_script") (CX := CX0) (sp := sp_law) hn (by decide) hdf ⟨rfl, by decide, by decide⟩ hY F (fun _ _ a ns hl _ hS => ⟨a, ns, rfl, hS, by omega, fun _ => rfl⟩) fun _ _ _ _ z => z
end K15
set_option maxHeartbeats 0
open PySem PySem.W PyProof.Rows
open_top head15 for PySem.Challenge.rw_purseahead_k15_whole_long_runs_and_wide
open PySem PySem.W PyProof.Rows
set_option maxHeartbeats 0 in
theorem PySem.Challenge.cw_purseahead_k15_whole_long_runs_and_wide_holds : PySem.Challenge.rw_purseahead_k15_whole_long_runs_and_wide.Holds :=
  head15 (by
  k_fill
  refine K15.walk (l := PySem.Challenge.rw_purseahead_k15_whole_long_runs_and_wide) rfl rfl (fun w h Y => PySem.W.kIn_of Y) ?F
  case F =>
    intro w mg fa h KX G hmg
    refine' K15.all_mk KX G hmg ?a_ch ?a_me ?a_dr ?a_sh ?a_un ?a0 ?l0 ?c0 ?k0 ?a1 ?l1 ?c1 ?k1 ?a2 ?l2 ?c2 ?k2 ?a3 ?l3 ?c3 ?k3 ?a4 ?i4 ?l4 ?c4 ?k4 ?a5 ?l5 ?c5 ?k5 ?a6 ?i6 ?l6 ?c6 ?k6 ?a7 ?l7 ?c7 ?k7 ?a8 ?l8 ?c8 ?k8 ?a9 ?l9 ?c9 ?k9 ?a10 ?l10 ?c10 ?k10 ?a11 ?l11 ?c11 ?k11 ?a12 ?l12 ?c12 ?k12 ?a13 ?l13 ?c13 ?k13 ?a14 ?l14 ?c14 ?k14 ?a15 ?l15 ?c15 ?k15 ?a16 ?l16 ?c16 ?k16 ?a17 ?l17 ?c17 ?k17 ?a18 ?l18 ?c18 ?k18 ?a19 ?l19 ?c19 ?k19 ?a20 ?l20 ?c20 ?k20 ?a21 ?l21 ?c21 ?k21 ?a22 ?l22 ?c22 ?k22 ?a23 ?l23 ?c23 ?k23 ?a24 ?l24 ?c24 ?k24 ?a25 ?i25 ?l25 ?c25 ?k25 ?a26 ?i26 ?l26 ?c26 ?k26 ?a27 ?i27 ?l27 ?c27 ?k27 ?a28 ?i28 ?l28 ?c28 ?k28 ?a29 ?i29 ?l29 ?c29 ?k29 ?a30 ?i30 ?l30 ?c30 ?k30 ?a31 ?l31 ?c31 ?k31 ?a32 ?l32 ?c32 ?k32 ?a33 ?l33 ?c33 ?k33 ?a34 ?l34 ?c34 ?k34 ?a35 ?l35 ?c35 ?k35 ?a36 ?l36 ?c36 ?k36 ?a37 ?l37 ?c37 ?k37 ?a38 ?l38 ?c38 ?k38 ?a39 ?l39 ?c39 ?k39 ?a40 ?l40 ?c40 ?k40 ?a41 ?i41 ?l41 ?c41 ?k41 ?a42 ?l42 ?c42 ?k42 ?a43 ?l43 ?c43 ?k43 ?a44 ?l44 ?c44 ?k44 ?a45 ?l45 ?c45 ?k45 ?a46 ?l46 ?c46 ?k46 ?a47 ?l47 ?c47 ?k47 ?a48 ?l48 ?c48 ?k48 ?a49 ?l49 ?c49 ?k49 ?a50 ?l50 ?c50 ?k50 ?a51 ?l51 ?c51 ?k51 ?a52 ?l52 ?c52 ?k52 ?a53 ?l53 ?c53 ?k53 ?a54 ?l54 ?c54 ?k54 ?a55 ?l55 ?c55 ?k55 ?a56 ?l56 ?c56 ?k56 ?a57 ?l57 ?c57 ?k57 ?a58 ?l58 ?c58 ?k58 ?a59 ?l59 ?c59 ?k59 ?a60 ?l60 ?c60 ?k60 ?a61 ?l61 ?c61 ?k61 ?a62 ?l62 ?c62 ?k62 ?a63 ?l63 ?c63 ?k63 ?a64 ?l64 ?c64 ?k64 ?a65 ?l65 ?c65 ?k65 ?pg_ch ?hd_ch ?po_ch ?sa_ch ?mk_ch ?kc_ch ?pg_me ?hd_me ?po_me ?sa_me ?mk_me ?kc_me ?pg_dr ?hd_dr ?po_dr ?sa_dr ?mk_dr ?kc_dr ?pg_sh ?hd_sh ?po_sh ?sa_sh ?mk_sh ?kc_sh ?pg_un ?hd_un ?po_un ?sa_un ?mk_un ?kc_un ?n_ch_costs ?n_ch_arrows ?n_me_chart ?n_me_first ?n_me_charges ?n_dr_ring ?n_dr_by ?n_sh_run ?n_sh_by ?n_un_place ?n_un_one ?n_un_other ?z_len ?z_enumerate ?z_range ?z_isinstance ?z_int ?z_bool ?z_list ?z_tuple ?z_sorted ?z_sum ?z_max ?z_min ?z_any ?z_zip ?z_reversed ?z_abs ?ha_dr ?hm_dr ?ha_sh ?hm_sh ?ha_un ?hm_un ?hn_o ?ht_o ?ty_un ?su_un ?most
    (case a_ch => k_is)
    (case a_me => k_is)
    (case a_dr => k_is)
    (case a_sh => k_is)
    (case a_un => k_is)
    (case a0 => k_is)
    (case l0 => k_is)
    (case c0 => k_is)
    (case k0 => k_is)
    (case a1 => k_is)
    (case l1 => k_is)
    (case c1 => k_is)
    (case k1 => k_is)
    (case a2 => k_is)
    (case l2 => k_is)
    (case c2 => k_is)
    (case k2 => k_is)
    (case a3 => k_is)
    (case l3 => k_is)
    (case c3 => k_is)
    (case k3 => k_is)
    (case a4 => k_is)
    (case i4 => k_is)
    (case l4 => k_is)
    (case c4 => k_is)
    (case k4 => k_is)
    (case a5 => k_is)
    (case l5 => k_is)
    (case c5 => k_is)
    (case k5 => k_is)
    (case a6 => k_is)
    (case i6 => k_is)
    (case l6 => k_is)
    (case c6 => k_is)
    (case k6 => k_is)
    (case a7 => k_is)
    (case l7 => k_is)
    (case c7 => k_is)
    (case k7 => k_is)
    (case a8 => k_is)
    (case l8 => k_is)
    (case c8 => k_is)
    (case k8 => k_is)
    (case a9 => k_is)
    (case l9 => k_is)
    (case c9 => k_is)
    (case k9 => k_is)
    (case a10 => k_is)
    (case l10 => k_is)
    (case c10 => k_is)
    (case k10 => k_is)
    (case a11 => k_is)
    (case l11 => k_is)
    (case c11 => k_is)
    (case k11 => k_is)
    (case a12 => k_is)
    (case l12 => k_is)
    (case c12 => k_is)
    (case k12 => k_is)
    (case a13 => k_is)
    (case l13 => k_is)
    (case c13 => k_is)
    (case k13 => k_is)
    (case a14 => k_is)
    (case l14 => k_is)
    (case c14 => k_is)
    (case k14 => k_is)
    (case a15 => k_is)
    (case l15 => k_is)
    (case c15 => k_is)
    (case k15 => k_is)
    (case a16 => k_is)
    (case l16 => k_is)
    (case c16 => k_is)
    (case k16 => k_is)
    (case a17 => k_is)
    (case l17 => k_is)
    (case c17 => k_is)
    (case k17 => k_is)
    (case a18 => k_is)
    (case l18 => k_is)
    (case c18 => k_is)
    (case k18 => k_is)
    (case a19 => k_is)
    (case l19 => k_is)
    (case c19 => k_is)
    (case k19 => k_is)
    (case a20 => k_is)
    (case l20 => k_is)
    (case c20 => k_is)
    (case k20 => k_is)
    (case a21 => k_is)
    (case l21 => k_is)
    (case c21 => k_is)
    (case k21 => k_is)
    (case a22 => k_is)
    (case l22 => k_is)
    (case c22 => k_is)
    (case k22 => k_is)
    (case a23 => k_is)
    (case l23 => k_is)
    (case c23 => k_is)
    (case k23 => k_is)
    (case a24 => k_is)
    (case l24 => k_is)
    (case c24 => k_is)
    (case k24 => k_is)
    (case a25 => k_is)
    (case i25 => k_is)
    (case l25 => k_is)
    (case c25 => k_is)
    (case k25 => k_is)
    (case a26 => k_is)
    (case i26 => k_is)
    (case l26 => k_is)
    (case c26 => k_is)
    (case k26 => k_is)
    (case a27 => k_is)
    (case i27 => k_is)
    (case l27 => k_is)
    (case c27 => k_is)
    (case k27 => k_is)
    (case a28 => k_is)
    (case i28 => k_is)
    (case l28 => k_is)
    (case c28 => k_is)
    (case k28 => k_is)
    (case a29 => k_is)
    (case i29 => k_is)
    (case l29 => k_is)
    (case c29 => k_is)
    (case k29 => k_is)
    (case a30 => k_is)
    (case i30 => k_is)
    (case l30 => k_is)
    (case c30 => k_is)
    (case k30 => k_is)
    (case a31 => k_is)
    (case l31 => k_is)
    (case c31 => k_is)
    (case k31 => k_is)
    (case a32 => k_is)
    (case l32 => k_is)
    (case c32 => k_is)
    (case k32 => k_is)
    (case a33 => k_is)
    (case l33 => k_is)
    (case c33 => k_is)
    (case k33 => k_is)
    (case a34 => k_is)
    (case l34 => k_is)
    (case c34 => k_is)
    (case k34 => k_is)
    (case a35 => k_is)
    (case l35 => k_is)
    (case c35 => k_is)
    (case k35 => k_is)
    (case a36 => k_is)
    (case l36 => k_is)
    (case c36 => k_is)
    (case k36 => k_is)
    (case a37 => k_is)
    (case l37 => k_is)
    (case c37 => k_is)
    (case k37 => k_is)
    (case a38 => k_is)
    (case l38 => k_is)
    (case c38 => k_is)
    (case k38 => k_is)
    (case a39 => k_is)
    (case l39 => k_is)
    (case c39 => k_is)
    (case k39 => k_is)
    (case a40 => k_is)
    (case l40 => k_is)
    (case c40 => k_is)
    (case k40 => k_is)
    (case a41 => k_is)
    (case i41 => k_is)
    (case l41 => k_is)
    (case c41 => k_is)
    (case k41 => k_is)
    (case a42 => k_is)
    (case l42 => k_is)
    (case c42 => k_is)
    (case k42 => k_is)
    (case a43 => k_is)
    (case l43 => k_is)
    (case c43 => k_is)
    (case k43 => k_is)
    (case a44 => k_is)
    (case l44 => k_is)
    (case c44 => k_is)
    (case k44 => k_is)
    (case a45 => k_is)
    (case l45 => k_is)
    (case c45 => k_is)
    (case k45 => k_is)
    (case a46 => k_is)
    (case l46 => k_is)
    (case c46 => k_is)
    (case k46 => k_is)
    (case a47 => k_is)
    (case l47 => k_is)
    (case c47 => k_is)
    (case k47 => k_is)
    (case a48 => k_is)
    (case l48 => k_is)
    (case c48 => k_is)
    (case k48 => k_is)
    (case a49 => k_is)
    (case l49 => k_is)
    (case c49 => k_is)
    (case k49 => k_is)
    (case a50 => k_is)
    (case l50 => k_is)
    (case c50 => k_is)
    (case k50 => k_is)
    (case a51 => k_is)
    (case l51 => k_is)
    (case c51 => k_is)
    (case k51 => k_is)
    (case a52 => k_is)
    (case l52 => k_is)
    (case c52 => k_is)
    (case k52 => k_is)
    (case a53 => k_is)
    (case l53 => k_is)
    (case c53 => k_is)
    (case k53 => k_is)
    (case a54 => k_is)
    (case l54 => k_is)
    (case c54 => k_is)
    (case k54 => k_is)
    (case a55 => k_is)
    (case l55 => k_is)
    (case c55 => k_is)
    (case k55 => k_is)
    (case a56 => k_is)
    (case l56 => k_is)
    (case c56 => k_is)
    (case k56 => k_is)
    (case a57 => k_is)
    (case l57 => k_is)
    (case c57 => k_is)
    (case k57 => k_is)
    (case a58 => k_is)
    (case l58 => k_is)
    (case c58 => k_is)
    (case k58 => k_is)
    (case a59 => k_is)
    (case l59 => k_is)
    (case c59 => k_is)
    (case k59 => k_is)
    (case a60 => k_is)
    (case l60 => k_is)
    (case c60 => k_is)
    (case k60 => k_is)
    (case a61 => k_is)
    (case l61 => k_is)
    (case c61 => k_is)
    (case k61 => k_is)
    (case a62 => k_is)
    (case l62 => k_is)
    (case c62 => k_is)
    (case k62 => k_is)
    (case a63 => k_is)
    (case l63 => k_is)
    (case c63 => k_is)
    (case k63 => k_is)
    (case a64 => k_is)
    (case l64 => k_is)
    (case c64 => k_is)
    (case k64 => k_is)
    (case a65 => k_is)
    (case l65 => k_is)
    (case c65 => k_is)
    (case k65 => k_is)
    (case pg_ch => k_is)
    (case hd_ch => k_is)
    (case po_ch => k_is)
    (case sa_ch => k_is)
    (case mk_ch => k_is)
    (case kc_ch => k_is)
    (case pg_me => k_is)
    (case hd_me => k_is)
    (case po_me => k_is)
    (case sa_me => k_is)
    (case mk_me => k_is)
    (case kc_me => k_is)
    (case pg_dr => k_is)
    (case hd_dr => k_is)
    (case po_dr => k_is)
    (case sa_dr => k_is)
    (case mk_dr => k_is)
    (case kc_dr => k_is)
    (case pg_sh => k_is)
    (case hd_sh => k_is)
    (case po_sh => k_is)
    (case sa_sh => k_is)
    (case mk_sh => k_is)
    (case kc_sh => k_is)
    (case pg_un => k_is)
    (case hd_un => k_is)
    (case po_un => k_is)
    (case sa_un => k_is)
    (case mk_un => k_is)
    (case kc_un => k_is)
    (case n_ch_costs => k_is)
    (case n_ch_arrows => k_is)
    (case n_me_chart => k_is)
    (case n_me_first => k_is)
    (case n_me_charges => k_is)
    (case n_dr_ring => k_is)
    (case n_dr_by => k_is)
    (case n_sh_run => k_is)
    (case n_sh_by => k_is)
    (case n_un_place => k_is)
    (case n_un_one => k_is)
    (case n_un_other => k_is)
    (case z_len => k_is)
    (case z_enumerate => k_is)
    (case z_range => k_is)
    (case z_isinstance => k_is)
    (case z_int => k_is)
    (case z_bool => k_is)
    (case z_list => k_is)
    (case z_tuple => k_is)
    (case z_sorted => k_is)
    (case z_sum => k_is)
    (case z_max => k_is)
    (case z_min => k_is)
    (case z_any => k_is)
    (case z_zip => k_is)
    (case z_reversed => k_is)
    (case z_abs => k_is)
    (case ha_dr => k_is)
    (case hm_dr => k_is)
    (case ha_sh => k_is)
    (case hm_sh => k_is)
    (case ha_un => k_is)
    (case hm_un => k_is)
    (case hn_o => k_is)
    (case ht_o => k_is)
    (case ty_un => k_is)
    (case su_un => k_is)
    (case most => k_is))
