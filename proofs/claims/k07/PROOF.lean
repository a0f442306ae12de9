import PyProof.Rows.All
import Wide.All
import OpenK.AllK
import Wide.FinOn
import PyProof.EnumMake
import PyProof.Draws
import KE.GoesMore
import PyProof.Rows.SortShellAny
import HandS.ForMost
import HandS.Walk
import HandS.IsInst
import HandS.Style
import HandS.Conv
import HandS.Lambda
import HandS.DictTup
import HandS.SortKw
import KE.SortKeyHeap
import KE.SortData
import KE.KDictWalk
import KE.DataMinMax
import HandS.Strs
import HandS.Set
import HandS.SetFor
import HandS.SetTxt0
import PyProof.StrWalks
import HandS.SetTxtIn
import KE.KNest
import HandS.EndBits
import HandS.EndTab
import PySem.Challenge.RW_jumpcuts_k07_whole_last_outcomes
set_option Elab.async false
set_option linter.all false
set_option maxRecDepth 100000
set_option maxHeartbeats 8000000
/-! The plain law, part 1: cuts, partings, the automaton of nexts; Reach = Out. Words are lists of codes. -/
namespace K07
abbrev Wd := List Nat
/-- one cut -/
def Cut (w v : Wd) : Prop := ∃ a m d x, w = a ++ x :: (m ++ x :: d) ∧ v = a ++ x :: d
inductive Reach : Wd → Wd → Prop
  | refl (w) : Reach w w
  | step {w v u} : Cut w v → Reach v u → Reach w u
theorem Reach.trans {w v u : Wd} (h : Reach w v) (k : Reach v u) : Reach w u := by
  induction h with
  | refl _ => exact k
  | step c _ ih => exact .step c (ih k)
/-- by places -/
theorem cut_at {w : Wd} {i j : Nat} (h : i < j) (hj : j < w.length) (e : w[i]? = w[j]?) : Cut w (w.take (i + 1) ++ w.drop (j + 1)) := by
  have hi : i < w.length := by omega
  rw [List.getElem?_eq_getElem hi, List.getElem?_eq_getElem hj] at e
  have e' := Option.some.inj e
  refine ⟨w.take i, (w.drop (i + 1)).take (j - i - 1), w.drop (j + 1), w[i], ?_, ?_⟩
  · have h1 : w = w.take i ++ w.drop i := (List.take_append_drop i w).symm
    have h2 : w.drop i = w[i] :: w.drop (i + 1) := List.drop_eq_getElem_cons hi
    have h3 : w.drop (i + 1) = (w.drop (i + 1)).take (j - i - 1) ++ (w.drop (i + 1)).drop (j - i - 1) := (List.take_append_drop _ _).symm
    have h4 : (w.drop (i + 1)).drop (j - i - 1) = w.drop j := by
      rw [List.drop_drop]
      congr 1
      omega
    have h5 : w.drop j = w[j] :: w.drop (j + 1) := List.drop_eq_getElem_cons hj
    rw [h4, h5, ← e'] at h3
    calc w = w.take i ++ w.drop i := h1
      _ = w.take i ++ (w[i] :: w.drop (i + 1)) := by rw [h2]
      _ = _ := by rw [← h3]
  · rw [List.take_add_one, List.getElem?_eq_getElem hi, List.append_assoc]
    rfl
theorem cut_places {w v : Wd} (c : Cut w v) : ∃ i j, i < j ∧ j < w.length ∧ w[i]? = w[j]? ∧ v = w.take (i + 1) ++ w.drop (j + 1) := by
  obtain ⟨a, m, d, x, rfl, rfl⟩ := c
  refine ⟨a.length, a.length + 1 + m.length, by omega, ?_, ?_, ?_⟩
  · simp only [List.length_append, List.length_cons]
    omega
  · rw [List.getElem?_append_right (Nat.le_refl _), List.getElem?_append_right (by omega), Nat.sub_self,
      show a.length + 1 + m.length - a.length = m.length + 1 by omega, List.getElem?_cons_zero, List.getElem?_cons_succ,
      List.getElem?_append_right (Nat.le_refl _), Nat.sub_self, List.getElem?_cons_zero]
  · have e1 : (a ++ x :: (m ++ x :: d)).take (a.length + 1) = a ++ [x] := by
      rw [List.take_append, List.take_of_length_le (by omega), show a.length + 1 - a.length = 1 by omega]
      rfl
    have e2 : (a ++ x :: (m ++ x :: d)).drop (a.length + 1 + m.length + 1) = d := by
      rw [show a ++ x :: (m ++ x :: d) = (a ++ x :: (m ++ [x])) ++ d by simp, List.drop_append,
        List.drop_of_length_le (by simp only [List.length_append, List.length_cons, List.length_nil]; omega)]
      simp only [List.length_append, List.length_cons, List.length_nil, List.nil_append]
      rw [show a.length + 1 + m.length + 1 - (a.length + (m.length + (0 + 1) + 1)) = 0 by omega]
      rfl
    rw [e1, e2]
    simp
theorem Cut.pre (b : Wd) {w v : Wd} (c : Cut w v) : Cut (b ++ w) (b ++ v) := by
  obtain ⟨a, m, d, x, rfl, rfl⟩ := c
  exact ⟨b ++ a, m, d, x, by simp, by simp⟩
theorem Reach.pre (b : Wd) {w v : Wd} (c : Reach w v) : Reach (b ++ w) (b ++ v) := by
  induction c with
  | refl _ => exact .refl _
  | step c _ ih => exact .step (c.pre b) ih
theorem Cut.sub {w v : Wd} (c : Cut w v) : List.Sublist v w := by
  obtain ⟨a, m, d, x, rfl, rfl⟩ := c
  refine List.Sublist.append (List.Sublist.refl a) ((List.sublist_append_right (x :: m) (x :: d)).trans ?_)
  simp
theorem Reach.sub {w v : Wd} (c : Reach w v) : List.Sublist v w := by
  induction c with
  | refl _ => exact List.Sublist.refl _
  | step c _ ih => exact ih.trans c.sub
theorem no_cut_iff {w : Wd} : (∀ v, ¬ Cut w v) ↔ w.Nodup := by
  constructor
  · intro h
    rw [List.Nodup, List.pairwise_iff_getElem]
    intro i j hi hj hij e
    exact h _ (cut_at hij hj (by rw [List.getElem?_eq_getElem hi, List.getElem?_eq_getElem hj, e]))
  · rintro h v ⟨a, m, d, x, rfl, rfl⟩
    rw [List.nodup_append] at h
    have := h.2.1
    rw [List.nodup_cons] at this
    exact this.1 (by simp)
/-- a block of the letter c: begins and ends with it -/
def Block (b : Wd) (c : Nat) : Prop := b.head? = some c ∧ b.getLast? = some c
inductive Part : Wd → Wd → Prop
  | one {b c} : Block b c → Part b [c]
  | cons {b c w g} : Block b c → Part w g → Part (b ++ w) (c :: g)
theorem block_one (c : Nat) : Block [c] c := ⟨rfl, rfl⟩
theorem Part.self : ∀ {w : Wd}, w ≠ [] → Part w w
  | [], h => absurd rfl h
  | [c], _ => .one (block_one c)
  | c :: x :: r, _ => Part.cons (b := [c]) (block_one c) (Part.self (w := x :: r) (by simp))
theorem block_open {a d1 m : Wd} {x c : Nat} (h : Block (a ++ x :: d1) c) : Block (a ++ x :: (m ++ x :: d1)) c := by
  obtain ⟨h1, h2⟩ := h
  refine ⟨?_, ?_⟩
  · cases a with
    | nil => exact h1
    | cons y a => exact h1
  · rw [show a ++ x :: (m ++ x :: d1) = (a ++ x :: m) ++ x :: d1 by simp]
    rw [List.getLast?_append] at h2 ⊢
    cases q : (x :: d1).getLast? with
    | none => simp at q
    | some z =>
      rw [q] at h2
      exact h2
theorem app_split {b v' a d : Wd} {x : Nat} (e : b ++ v' = a ++ x :: d) : (∃ d1, b = a ++ x :: d1 ∧ d = d1 ++ v') ∨ (∃ a', a = b ++ a' ∧ v' = a' ++ x :: d) := by
  rcases List.append_eq_append_iff.mp e with ⟨a', h1, h2⟩ | ⟨c', h1, h2⟩
  · exact .inr ⟨a', h1, h2⟩
  · cases c' with
    | nil =>
      refine .inr ⟨[], by simpa using h1.symm, ?_⟩
      simpa using h2.symm
    | cons y c' =>
      have : x :: d = y :: (c' ++ v') := h2
      injection this with e1 e2
      subst e1
      exact .inl ⟨c', h1, e2⟩
theorem part_back {v g : Wd} (p : Part v g) : ∀ {a d m : Wd} {x : Nat}, v = a ++ x :: d → Part (a ++ x :: (m ++ x :: d)) g := by
  induction p with
  | one hb =>
    intro a d m x e
    subst e
    exact .one (block_open hb)
  | @cons b c w g hb _ ih =>
    intro a d m x e
    rcases app_split e with ⟨d1, rfl, rfl⟩ | ⟨a', rfl, rfl⟩
    · have := Part.cons (block_open (m := m) hb) (by assumption : Part w g)
      rw [show a ++ x :: (m ++ x :: (d1 ++ w)) = (a ++ x :: (m ++ x :: d1)) ++ w by simp]
      exact this
    · have := Part.cons hb (ih (a := a') (d := d) (m := m) (x := x) rfl)
      rw [List.append_assoc]
      exact this
theorem Reach.part {w v : Wd} (r : Reach w v) (h : w ≠ []) : Part w v := by
  induction r with
  | refl _ => exact Part.self h
  | step c r ih =>
    obtain ⟨a, m, d, x, rfl, rfl⟩ := c
    exact part_back (ih (by simp)) rfl
theorem block_cut {b : Wd} {c : Nat} (h : Block b c) (r : Wd) : Reach (b ++ r) (c :: r) := by
  obtain ⟨h1, h2⟩ := h
  cases b with
  | nil => simp at h1
  | cons y b =>
    have ey : y = c := Option.some.inj h1
    subst ey
    rcases List.eq_nil_or_concat b with rfl | ⟨m, z, rfl⟩
    · exact .refl _
    · have ez : z = y := by
        have h3 : ((y :: m) ++ [z]).getLast? = some y := by simpa using h2
        rw [List.getLast?_concat] at h3
        exact Option.some.inj h3
      subst ez
      refine .step ⟨[], m, r, z, by simp, rfl⟩ (.refl _)
theorem Part.reach {w v : Wd} (p : Part w v) : Reach w v := by
  induction p with
  | one hb =>
    have := block_cut hb []
    rwa [List.append_nil] at this
  | cons hb _ ih => exact Reach.trans (Reach.pre _ ih) (block_cut hb _)
theorem part_ne {w g : Wd} (p : Part w g) : w ≠ [] := by
  cases p with
  | one h =>
    rintro rfl
    cases h.1
  | cons h _ =>
    intro e
    rw [List.append_eq_nil_iff] at e
    rw [e.1] at h
    cases h.1
theorem reach_iff_part {w v : Wd} (h : w ≠ []) : Reach w v ↔ Part w v := ⟨fun r => r.part h, fun p => p.reach⟩
/-! ### nexts -/
/-- the letter at a place -/
def at_ (f : Wd) (p : Nat) : Nat := f.getD p 0
/-- nexts(film, place) behind k turns -/
def nxTo (f : Wd) (p : Nat) : Nat → List (Nat × Nat)
  | 0 => []
  | k + 1 => if at_ f (p + k) = at_ f p ∧ at_ f (p + k + 1) ∉ (nxTo f p k).map (·.1) then nxTo f p k ++ [(at_ f (p + k + 1), p + k + 1)] else nxTo f p k
def nx (f : Wd) (p : Nat) : List (Nat × Nat) := nxTo f p (f.length - 1 - p)
/-- q is the first place of a next block with the letter c -/
structure Nx (f : Wd) (p c q : Nat) : Prop where
  lt : p < q
  le : q < f.length
  here : at_ f q = c
  ends : at_ f (q - 1) = at_ f p
  first : ∀ r, p < r → r < q → at_ f (r - 1) = at_ f p → at_ f r ≠ c
theorem nxTo_mem {f : Wd} {p : Nat} : ∀ {k c q : Nat}, (c, q) ∈ nxTo f p k ↔ p < q ∧ q ≤ p + k ∧ at_ f q = c ∧ at_ f (q - 1) = at_ f p ∧ ∀ r, p < r → r < q → at_ f (r - 1) = at_ f p → at_ f r ≠ c
  | 0, c, q => by
    simp only [nxTo, List.not_mem_nil, false_iff]
    omega
  | k + 1, c, q => by
    unfold nxTo
    have ih := fun c q => nxTo_mem (f := f) (p := p) (k := k) (c := c) (q := q)
    split
    · next h =>
      rw [List.mem_append, ih, List.mem_singleton, Prod.mk.injEq]
      constructor
      · rintro (⟨h1, h2, h3⟩ | ⟨rfl, rfl⟩)
        · exact ⟨h1, by omega, h3⟩
        · refine ⟨by omega, by omega, rfl, ?_, fun r h1 h2 h3 h4 => ?_⟩
          · rw [Nat.add_sub_cancel]
            exact h.1
          · -- the first r' ≤ r with it is in nxTo
            have : ∃ r', (at_ f (p + k + 1), r') ∈ nxTo f p k := by
              have key : ∀ n r, r < n → p < r → r < p + k + 1 → at_ f (r - 1) = at_ f p → at_ f r = at_ f (p + k + 1) → ∃ r', (at_ f (p + k + 1), r') ∈ nxTo f p k := by
                intro n
                induction n with
                | zero => intro r h; omega
                | succ n ihn =>
                  intro r hr h1 h2 h3 h4
                  by_cases z : ∃ r2, p < r2 ∧ r2 < r ∧ at_ f (r2 - 1) = at_ f p ∧ at_ f r2 = at_ f (p + k + 1)
                  · obtain ⟨r2, z1, z2, z3, z4⟩ := z
                    exact ihn r2 (by omega) z1 (by omega) z3 z4
                  · refine ⟨r, (ih _ _).mpr ⟨h1, by omega, h4, h3, fun r2 y1 y2 y3 y4 => z ⟨r2, y1, y2, y3, y4⟩⟩⟩
              exact key (r + 1) r (by omega) h1 h2 h3 h4
            obtain ⟨r', hr'⟩ := this
            exact h.2 (List.mem_map.mpr ⟨_, hr', rfl⟩)
      · rintro ⟨h1, h2, h3, h4, h5⟩
        by_cases e : q = p + k + 1
        · subst e
          exact .inr ⟨h3.symm, rfl⟩
        · exact .inl ⟨h1, by omega, h3, h4, h5⟩
    · next h =>
      rw [ih]
      constructor
      · rintro ⟨h1, h2, h3⟩
        exact ⟨h1, by omega, h3⟩
      · rintro ⟨h1, h2, h3, h4, h5⟩
        by_cases e : q = p + k + 1
        · subst e
          rw [Nat.add_sub_cancel] at h4
          refine absurd ⟨h4, fun hm => ?_⟩ h
          obtain ⟨⟨c', r⟩, hr, e'⟩ := List.mem_map.mp hm
          have e' : c' = at_ f (p + k + 1) := e'
          have z := (ih _ _).mp hr
          exact h5 r z.1 (by omega) z.2.2.2.1 (by rw [z.2.2.1, e', h3])
        · exact ⟨h1, by omega, h3, h4, h5⟩
theorem nx_mem {f : Wd} {p c q : Nat} : (c, q) ∈ nx f p ↔ Nx f p c q := by
  unfold nx
  rw [nxTo_mem]
  constructor
  · rintro ⟨h1, h2, h3, h4, h5⟩
    exact ⟨h1, by omega, h3, h4, h5⟩
  · rintro ⟨h1, h2, h3, h4, h5⟩
    exact ⟨h1, by omega, h3, h4, h5⟩
theorem nxTo_keys {f : Wd} {p : Nat} : ∀ k, ((nxTo f p k).map (·.1)).Nodup
  | 0 => List.nodup_nil
  | k + 1 => by
    unfold nxTo
    split
    · next h =>
      rw [List.map_append, List.nodup_append]
      refine ⟨nxTo_keys k, by simp, fun x hx y hy => ?_⟩
      have : y = at_ f (p + k + 1) := by simpa using hy
      rintro rfl
      exact h.2 (this ▸ hx)
    · exact nxTo_keys k
theorem nx_keys (f : Wd) (p : Nat) : ((nx f p).map (·.1)).Nodup := nxTo_keys _
theorem nxTo_len {f : Wd} {p : Nat} : ∀ k, (nxTo f p k).length ≤ k
  | 0 => Nat.le_refl _
  | k + 1 => by
    unfold nxTo
    have := nxTo_len (f := f) (p := p) k
    split
    · rw [List.length_append, List.length_singleton]
      omega
    · omega
theorem nx_len (f : Wd) (p : Nat) : (nx f p).length ≤ f.length := by
  have := nxTo_len (f := f) (p := p) (f.length - 1 - p)
  unfold nx
  omega
theorem nx_det {f : Wd} {p c q q' : Nat} (h : (c, q) ∈ nx f p) (h' : (c, q') ∈ nx f p) : q = q' := by
  rw [nx_mem] at h h'
  rcases Nat.lt_trichotomy q q' with l | e | l
  · exact absurd h.here (h'.first q h.lt l h.ends)
  · exact e
  · exact absurd h'.here (h.first q' h'.lt l h'.ends)
/-- there is a first one -/
theorem nx_ex {f : Wd} {p s : Nat} (h : p < s) (hs : s < f.length) (e : at_ f (s - 1) = at_ f p) : ∃ q, (at_ f s, q) ∈ nx f p ∧ q ≤ s := by
  have key : ∀ n r, r < n → p < r → r ≤ s → at_ f (r - 1) = at_ f p → at_ f r = at_ f s → ∃ q, (at_ f s, q) ∈ nx f p ∧ q ≤ s := by
    intro n
    induction n with
    | zero => intro r h; omega
    | succ n ihn =>
      intro r hr h1 h2 h3 h4
      by_cases z : ∃ r2, p < r2 ∧ r2 < r ∧ at_ f (r2 - 1) = at_ f p ∧ at_ f r2 = at_ f s
      · obtain ⟨r2, z1, z2, z3, z4⟩ := z
        exact ihn r2 (by omega) z1 (by omega) z3 z4
      · exact ⟨r, nx_mem.mpr ⟨h1, by omega, h4, h3, fun r2 y1 y2 y3 y4 => z ⟨r2, y1, y2, y3, y4⟩⟩, h2⟩
  exact key (s + 1) s (by omega) h (Nat.le_refl _) e rfl
/-! ### the automaton -/
/-- from p the word g leads to q -/
def Go (f : Wd) : Nat → Wd → Nat → Prop
  | p, [], q => q = p
  | p, c :: g, q => ∃ r, (c, r) ∈ nx f p ∧ Go f r g q
def last (f : Wd) : Nat := at_ f (f.length - 1)
/-- p is a place at which an outcome may end -/
def Acc (f : Wd) (p : Nat) : Prop := at_ f p = last f
instance (f : Wd) (p : Nat) : Decidable (Acc f p) := inferInstanceAs (Decidable (_ = _))
def Out (f w : Wd) : Prop := ∃ g q, w = at_ f 0 :: g ∧ Go f 0 g q ∧ Acc f q
theorem Go.det {f : Wd} : ∀ {g : Wd} {p q q' : Nat}, Go f p g q → Go f p g q' → q = q'
  | [], _, _, _, h, h' => h.trans h'.symm
  | c :: g, p, q, q', ⟨r, h1, h2⟩, ⟨r', h1', h2'⟩ => by
    have := nx_det h1 h1'
    subst this
    exact Go.det h2 h2'
theorem go_append {f : Wd} : ∀ {g g' : Wd} {p q : Nat}, Go f p (g ++ g') q ↔ ∃ r, Go f p g r ∧ Go f r g' q
  | [], g', p, q => ⟨fun h => ⟨p, rfl, h⟩, fun ⟨r, h1, h2⟩ => by
      have : r = p := h1
      subst this
      exact h2⟩
  | c :: g, g', p, q => by
    constructor
    · rintro ⟨r, h1, h2⟩
      obtain ⟨r', h3, h4⟩ := go_append.mp h2
      exact ⟨r', ⟨r, h1, h3⟩, h4⟩
    · rintro ⟨r', ⟨r, h1, h3⟩, h4⟩
      exact ⟨r, h1, go_append.mpr ⟨r', h3, h4⟩⟩
theorem go_snoc {f g : Wd} {c p q : Nat} : Go f p (g ++ [c]) q ↔ ∃ r, Go f p g r ∧ (c, q) ∈ nx f r := by
  rw [go_append]
  constructor
  · rintro ⟨r, h1, r', h2, h3⟩
    have : q = r' := h3
    subst this
    exact ⟨r, h1, h2⟩
  · rintro ⟨r, h1, h2⟩
    exact ⟨r, h1, q, h2, rfl⟩
theorem Go.rise {f : Wd} : ∀ {g : Wd} {p q : Nat}, Go f p g q → p + g.length ≤ q
  | [], p, q, h => by
    have : q = p := h
    subst this
    exact Nat.le_refl _
  | c :: g, p, q, ⟨r, h1, h2⟩ => by
    have := Go.rise h2
    have h3 := (nx_mem.mp h1).lt
    rw [List.length_cons]
    omega
theorem Go.lt {f : Wd} : ∀ {g : Wd} {p q : Nat}, p < f.length → Go f p g q → q < f.length
  | [], p, q, hp, h => by
    have : q = p := h
    subst this
    exact hp
  | c :: g, p, q, _, ⟨r, h1, h2⟩ => Go.lt (nx_mem.mp h1).le h2
theorem at_drop {f : Wd} {s : Nat} (h : s < f.length) : f.drop s = at_ f s :: f.drop (s + 1) := by
  unfold at_
  rw [List.drop_eq_getElem_cons h, List.getD_eq_getElem?_getD, List.getElem?_eq_getElem h]
  rfl
theorem last_block {f b w : Wd} {s c : Nat} (e : f.drop s = b ++ w) (hb : Block b c) : s < f.length ∧ at_ f s = c ∧ s < s + b.length ∧ s + b.length ≤ f.length ∧ at_ f (s + b.length - 1) = c ∧ f.drop (s + b.length) = w := by
  obtain ⟨h1, h2⟩ := hb
  have hl : f.length - s = b.length + w.length := by
    rw [← List.length_drop, e, List.length_append]
  have hb0 : 0 < b.length := by
    cases b with
    | nil => cases h1
    | cons _ _ => simp
  have hg : ∀ i, i < b.length → at_ f (s + i) = b.getD i 0 := by
    intro i hi
    unfold at_
    rw [List.getD_eq_getElem?_getD, List.getD_eq_getElem?_getD, ← List.getElem?_drop, e, List.getElem?_append_left hi]
  refine ⟨by omega, ?_, by omega, by omega, ?_, ?_⟩
  · have := hg 0 hb0
    rw [Nat.add_zero] at this
    rw [this]
    cases b with
    | nil => cases h1
    | cons y b => exact Option.some.inj h1
  · have := hg (b.length - 1) (by omega)
    rw [show s + b.length - 1 = s + (b.length - 1) by omega, this, List.getD_eq_getElem?_getD]
    rw [List.getLast?_eq_getElem?] at h2
    rw [h2]
    rfl
  · rw [← List.drop_drop, e, List.drop_append, List.drop_of_length_le (Nat.le_refl _), Nat.sub_self]
    rfl
/-- greedy: what a later place does, an earlier one with the same letter does -/
theorem part_go {f : Wd} {v g : Wd} (p : Part v g) : ∀ {s q : Nat}, f.drop s = v → q ≤ s → at_ f q = at_ f s → ∃ g' r, g = at_ f s :: g' ∧ Go f q g' r ∧ Acc f r := by
  induction p with
  | @one b c hb =>
    intro s q e hq eq
    have e0 : f.drop s = b ++ [] := by rw [List.append_nil]; exact e
    obtain ⟨h1, h2, h3, h4, h5, h6⟩ := last_block e0 hb
    have h7 : s + b.length = f.length := by
      have := congrArg List.length h6
      rw [List.length_drop, List.length_nil] at this
      omega
    refine ⟨[], q, by rw [h2], rfl, ?_⟩
    show at_ f q = at_ f (f.length - 1)
    rw [eq, h2, ← h7, h5]
  | @cons b c w g hb pw ih =>
    intro s q e hq eq
    obtain ⟨h1, h2, h3, h4, h5, h6⟩ := last_block e hb
    have hw : s + b.length < f.length := by
      have := congrArg List.length h6
      rw [List.length_drop] at this
      have hn := part_ne pw
      cases w with
      | nil => exact absurd rfl hn
      | cons _ _ =>
        rw [List.length_cons] at this
        omega
    obtain ⟨r, k1, k2⟩ := nx_ex (f := f) (p := q) (s := s + b.length) (by omega) hw (by rw [h5, eq, h2])
    obtain ⟨g', r', e1, e2, e3⟩ := ih (s := s + b.length) (q := r) h6 k2 (nx_mem.mp k1).here
    exact ⟨g, r', by rw [h2], by rw [e1]; exact ⟨r, k1, e2⟩, e3⟩
theorem drop_take_block {f : Wd} {p q : Nat} (h : p < q) (hq : q ≤ f.length) (e : at_ f (q - 1) = at_ f p) : Block ((f.drop p).take (q - p)) (at_ f p) := by
  refine ⟨?_, ?_⟩
  · rw [at_drop (by omega), show q - p = (q - p - 1) + 1 by omega]
    rfl
  · have hl : ((f.drop p).take (q - p)).length = q - p := by
      rw [List.length_take, List.length_drop]
      omega
    rw [List.getLast?_eq_getElem?, hl, List.getElem?_take_of_lt (by omega), List.getElem?_drop, show p + (q - p - 1) = q - 1 by omega, ← e]
    unfold at_
    rw [List.getD_eq_getElem?_getD, List.getElem?_eq_getElem (show q - 1 < f.length by omega)]
    rfl
theorem go_part {f : Wd} : ∀ {g : Wd} {p r : Nat}, p < f.length → Go f p g r → Acc f r → Part (f.drop p) (at_ f p :: g)
  | [], p, r, hp, h, ha => by
    have : r = p := h
    subst this
    have := drop_take_block (f := f) (p := r) (q := f.length) hp (Nat.le_refl _) ha.symm
    rw [List.take_of_length_le (by rw [List.length_drop]; omega)] at this
    exact .one this
  | c :: g, p, r, hp, ⟨q, h1, h2⟩, ha => by
    have n := nx_mem.mp h1
    have b := drop_take_block (f := f) n.lt (Nat.le_of_lt n.le) n.ends
    have ih := go_part n.le h2 ha
    have e : f.drop p = (f.drop p).take (q - p) ++ f.drop q := by
      have := (List.take_append_drop (q - p) (f.drop p)).symm
      rw [List.drop_drop, show p + (q - p) = q by have := n.lt; omega] at this
      exact this
    rw [e, ← n.here]
    exact .cons b ih
theorem reach_iff_out {f v : Wd} (h : f ≠ []) : Reach f v ↔ Out f v := by
  have hl : 0 < f.length := List.length_pos_iff.mpr h
  rw [reach_iff_part h]
  constructor
  · intro p
    obtain ⟨g, r, e, k, a⟩ := part_go (f := f) p (s := 0) (q := 0) rfl (Nat.le_refl _) rfl
    exact ⟨g, r, e, k, a⟩
  · rintro ⟨g, q, rfl, k, a⟩
    exact go_part hl k a
end K07
/-! Rules that the layer lacks, 1: a result frozen for a walk; enumerate of a text; sorted of texts of any length. -/
namespace K07
open PySem PySem.Spec PyProof.Rows L2
/-! ### what an expression hands back is frozen from then on -/
def tFrz (t : TE) : TE := fun σ H Q => t σ H fun x H1 => ∃ d u, x = .ref d ∧ H1 d = some u ∧ Mut (some u) ∧ ∀ od, Q x (upd H1 d (.frz od u))
theorem pe_frz {X : Cx} {e : Expr} {t : TE} (h : PE X e t) : PE X e (tFrz t) := by
  refine ⟨fun pins s σ H Q I hw => ?_⟩
  refine thn (h.run pins s σ H _ I hw) fun v s1 ⟨x, H1, I1, r, d, u, ex, hd, mu, q⟩ => ?_
  obtain ⟨od, I2⟩ := I1.lock hd mu
  exact ⟨x, _, I2, r, q od⟩
/-! ### enumerate(text) -/
def Ites (x : Str) : It :=
  ⟨fun i _ => i < x.cps.size, fun i H v H' => ∃ T c, v = .ref T ∧ H T = none ∧ H' = upd H T (.tup [.int (i : Nat), .str ⟨#[c]⟩]) ∧ x.cps[i]? = some c, fun i _ => x.cps.size ≤ i⟩
/-- what holds of two addresses -/
theorem two_mem {p : Addr → Prop} {a b : Addr} (ha : p a) (hb : p b) : ∀ c ∈ [a, b], p c := by
  intro c hc
  cases hc with
  | head => exact ha
  | tail _ hc =>
    cases List.mem_singleton.mp hc
    exact hb
/-- the enumerate object at e stands at i, over the text's iterator at it -/
def StE (x : Str) (t : Tok) (e it : Addr) (i : Nat) (h : Heap) : Prop := (∃ old, IsEnum h e it ((i : Nat) : Int) old) ∧ h.IsStrIter it (strIterType x) x t i ∧ e ≠ it ∧ i ≤ x.cps.size
section
variable {x : Str} {t : Tok} {e it : Addr} {i : Nat} {h h' : Heap}
theorem ste_obj (st : StE x t e it i h) : ∀ b ∈ [e, it], ∃ o, h.get? b = some o ∧ ∀ v, o.data ≠ .cell v := by
  obtain ⟨⟨_, g1⟩, ⟨u, g2, _, g3⟩, _⟩ := st
  exact two_mem ⟨_, g1, fun _ => nofun⟩ ⟨u, g2, fun _ z => nomatch g3.symm.trans z⟩
theorem ste_keep (st : StE x t e it i h) (k : ∀ b ∈ [e, it], ∀ o, h.get? b = some o → h'.get? b = some o) : StE x t e it i h' :=
  ⟨st.1.imp fun _ g => k e (List.mem_cons_self ..) _ g, st.2.1.imp fun o g => ⟨k it (by simp) o g.1, g.2⟩, st.2.2⟩
theorem ste_lt (st : StE x t e it i h) : ∀ b ∈ [e, it], b < h.objs.size := two_mem (st.1.elim fun _ g => Heap.lt_size g) (st.2.1.elim fun _ g => Heap.lt_size g.1)
end
theorem turn_enumS {P : Program} {w : World} {K : PySem.W.Frag} {elts : List Expr} {kk : Nat} {tpos : Pos} (x : Str) (t : Tok) (e it : Addr) : Turn P w K (.Tuple elts kk tpos) (Ites x) [e, it] e (StE x t e it) where
  mem := List.mem_cons_self ..
  obj := fun _ _ st => ste_obj st
  keep := fun _ _ _ st k => ste_keep st k
  self := fun _ _ _ _ _ st q => st.1.elim fun _ g => wpAny_pyIter_enum g q
  item := by
    intro X eP ew eK calm i pins s σ H E inv free st room
    subst eP ew eK
    have below := ste_lt st
    obtain ⟨⟨old, at_e⟩, at_it, apart, _⟩ := st
    refine wpAny_pyNext_enum_itemD (Draws.text (prog := X.prog) (w := X.w) (A := X.A.in1) (inv.ok.hd calm) it x t) at_e at_it room apart (fun z => apart (List.mem_singleton.mp z)) fun v g tk sign out at2 pair _ others => ?_
    obtain ⟨c, u, hc, rfl⟩ := sign
    refine ⟨_, rfl, wpAny_letOwnedTupleGo_enum (s := { s with heap := g, toks := tk + 1 }) out fun g2 e2 but => ?_⟩
    have stays : ∀ b ob, b ∉ [e, it] → s.heap.get? b = some ob → g2.get? b = some ob := fun b ob nb q => by
      have n1 : b ≠ e := fun z => nb (by simp [z])
      exact (but.2 b n1).trans (others b ob n1 (fun z => nb (by simp [z])) q)
    have made : ObjOk X.prog X.w (upd H s.heap.objs.size (.tup [.int (i : Nat), .str ⟨#[c]⟩])) g2 s.heap.objs.size (.tup [.int (i : Nat), .str ⟨#[c]⟩]) := by
      have pair2 := (but.2 _ (Nat.ne_of_gt (below e (List.mem_cons_self ..)))).trans pair
      exact ⟨(by show 2 ≤ sizeLine; decide), [.int i tk, .str ⟨#[c]⟩ u], .cons ⟨_, rfl⟩ (.cons ⟨_, rfl⟩ .nil), ⟨_, pair2, rfl, _, rfl⟩⟩
    have next : StE x t e it (i + 1) g2 := by
      refine ⟨⟨.str ⟨#[c]⟩ u, ?_⟩, at2.imp fun o q => ⟨(but.2 it (Ne.symm apart)).trans q.1, q.2⟩, apart, room⟩
      rw [show ((i + 1 : Nat) : Int) = (i : Int) + 1 from Int.natCast_succ i]
      exact e2
    exact ⟨.ref s.heap.objs.size, _, inv.turnedNew (ch := [e, it]) stays free (Nat.le_refl _) made, rfl, ⟨_, c, rfl, inv.hok.fresh (Nat.le_refl _), rfl, hc⟩, next, fun b hb => (upd_ne (Nat.ne_of_lt (below b hb))).trans (free b hb).1⟩
  done := by
    intro X eP ew eK calm i pins s σ H E inv free st stop
    subst eP ew eK
    obtain ⟨⟨_, at_e⟩, at_it, _, le⟩ := st
    cases Nat.le_antisymm le stop
    obtain ⟨u0, u1, _, u3, u4, u5⟩ := free it (List.mem_cons_of_mem _ (List.mem_cons_self ..))
    exact wpAny_pyNext_enum_endD (Draws.text (prog := X.prog) (w := X.w) (A := X.A.in1) (inv.ok.hd calm) it x t) at_e at_it fun g but => ⟨rfl, inv.turned (t' := s.toks) (fun b o nb q => but b o nb q) u0 u1 u3 u4 u5⟩
def iEnumS (ta : TA) : TI := fun σ H R => ta σ H fun vs H1 => ∃ x, vs = [.str x] ∧ R (Ites x) H1
theorem pi_enumS {X : Cx} {e : Expr} {ta : TA} {p pos tpos : Pos} {elts : List Expr} {kk : Nat} (hg : Gl X "enumerate") (hm : X.mg "enumerate" = none) (ha : PA X [e] ta) (hs : starEach [e] X.env = [(false, eval e X.env)] := by rfl) :
    PI X (.Tuple elts kk tpos) (.Call (.Name "enumerate" p) [e] [] pos) (iEnumS ta) :=
  ⟨fun pins s σ H R I h => Call_ (ld_blt I hg hm boot_enumerate (PyProof.Rows.callWith_type1 (thn (ha.run pos pins s σ H _ I h) fun us s1 ⟨vs, H1, J, rel, x, ex, q⟩ => by
    subst ex
    obtain ⟨_, rfl, ⟨t, rfl⟩⟩ := vals1 rel
    refine call_enumerate_str fun g at_e at_it _ kept => wpAny_pyIter_enum at_e ?_
    refine ⟨s1.heap.objs.size + 1, [s1.heap.objs.size + 1, s1.heap.objs.size], _, _, H1, rfl, J.kept (t' := s1.toks) kept, turn_enumS x t _ s1.heap.objs.size, ⟨⟨.none, at_e⟩, at_it, Nat.succ_ne_self _, Nat.zero_le _⟩, ?_, q⟩
    exact two_mem (J.fpOk (Nat.le_succ _) (J.hok.fresh (Nat.le_succ _))) (J.fpOk (Nat.le_refl _) (J.hok.fresh (Nat.le_refl _)))) hs rfl))⟩
/-! ### sorted(texts), any length -/
def rSortedSA (K : PySem.W.Frag) : List V → Hp → VK → Prop := fun vs H Q => ∃ (a : Addr) (xs : List Str), vs = [V.ref a] ∧ SqL K H a (xs.map V.str) ∧
  ∀ (ys : List Str) (p : Addr), ys.Perm xs → sortedS ys = true → H p = none → Q (.ref p) (upd H p (.lst (ys.map V.str)))
theorem cr_sortedSA {X : Cx} : CallR X (.builtin "sorted") (rSortedSA X.K) := by
  intro pins s σ H vs us Q I rel ⟨a, xs, ev, sq, q⟩
  subst ev
  rw [Vals.ref1 rel]
  obtain ⟨its, each, isl, small⟩ := I.list sq
  refine PyProof.Rows.sorted_strsAny isl.isList each.strs (each.length ▸ small) fun out ys o1 pm srt => ?_
  have laid := PyProof.Rows.sortedAll_at s.heap its out
  have free := I.hok.fresh (Nat.le_succ s.heap.objs.size)
  have okL : ObjOk X.prog X.w (upd H (s.heap.objs.size + 1) (.lst (ys.map V.str))) (sortedAll s.heap its out) (s.heap.objs.size + 1) (.lst (ys.map V.str)) := by
    refine ⟨?_, out.toList, laid.choose, vals_of_strs o1, laid.choose_spec⟩
    rw [List.length_map] at small ⊢
    rw [pm.length_eq]
    exact small
  exact ⟨.ref _, _, I.laid (t' := s.toks) (fun _ _ => PyProof.Rows.sortedAll_old) (Nat.le_succ _) okL, rfl, q ys _ pm srt free⟩
end K07
/-! The text: its defs, their scopes; words as texts; need_film. -/
namespace K07
open PySem PySem.Spec PyProof.Rows L2
def topS (i : Nat) : Stmt := PySem.Challenge.pw_jumpcuts_k07_whole_last_outcomes.main.body.getD i (.Pass ⟨0, 0, 0, 0⟩)
abbrev sNeed : Stmt := topS 6
abbrev sNexts : Stmt := topS 8
abbrev sSL : Stmt := topS 9
abbrev sSh : Stmt := topS 10
abbrev sLO : Stmt := topS 11
abbrev sAl : Stmt := topS 12
abbrev sCM : Stmt := topS 13
abbrev sTk : Stmt := topS 15
abbrev sLk : Stmt := topS 16
abbrev sFi : Stmt := topS 17
abbrev sNx : Stmt := topS 18
abbrev sAll : Stmt := topS 19
abbrev sLaw : Stmt := topS 20
theorem scNeed : FnScope ["value", "place", "letter"] ["value"] (defScope sNeed) := ⟨rfl, rfl, rfl, by decide +kernel, rfl, by decide +kernel, by decide +kernel⟩
theorem scNexts : FnScope ["film", "place", "found", "letter", "end"] ["film", "place"] (defScope sNexts) := ⟨rfl, rfl, rfl, by decide +kernel, rfl, by decide +kernel, by decide +kernel⟩
theorem scSL : FnScope ["film", "edge", "size", "seen", "place", "later", "one"] ["film"] (defScope sSL) := ⟨rfl, rfl, rfl, by decide +kernel, rfl, by decide +kernel, by decide +kernel⟩
theorem scSh : FnScope ["film", "edge", "seen", "place", "later", "word", "letter", "one", "more"] ["film"] (defScope sSh) := ⟨rfl, rfl, rfl, by decide +kernel, rfl, by decide +kernel, by decide +kernel⟩
theorem scLO : FnScope ["film", "done", "edge", "word", "place", "letter", "one"] ["film"] (defScope sLO) := ⟨rfl, rfl, rfl, by decide +kernel, rfl, by decide +kernel, by decide +kernel⟩
theorem scAl : FnScope ["film", "letter"] ["film"] (defScope sAl) := ⟨rfl, rfl, rfl, by decide +kernel, rfl, by decide +kernel, by decide +kernel⟩
theorem scCM : FnScope ["film", "letter", "seen", "edge", "place", "other", "one"] ["film", "letter"] (defScope sCM) := ⟨rfl, rfl, rfl, by decide +kernel, rfl, by decide +kernel, by decide +kernel⟩
theorem scTk : FnScope ["_law_row", "_law_many", "_law_found", "_law_cell"] ["_law_row", "_law_many"] (defScope sTk) := ⟨rfl, rfl, rfl, by decide +kernel, rfl, by decide +kernel, by decide +kernel⟩
theorem scLk : FnScope ["_law_found", "_law_due", "_law_k"] ["_law_found", "_law_due"] (defScope sLk) := ⟨rfl, rfl, rfl, by decide +kernel, rfl, by decide +kernel, by decide +kernel⟩
theorem scFi : FnScope ["_law_row", "_law_most", "_law_many", "_law_found", "_law_turn"] ["_law_row", "_law_most", "_law_many"] (defScope sFi) := ⟨rfl, rfl, rfl, by decide +kernel, rfl, by decide +kernel, by decide +kernel⟩
theorem scNx : FnScope ["_law_film_here", "_law_found", "_law_first", "_law_second"] ["_law_film_here"] (defScope sNx) := ⟨rfl, rfl, rfl, by decide +kernel, rfl, by decide +kernel, by decide +kernel⟩
theorem scAll : FnScope ["_law_film_here", "_law_found", "_law_edge", "_law_now", "_law_told"] ["_law_film_here"] (defScope sAll) := ⟨rfl, rfl, rfl, by decide +kernel, rfl, by decide +kernel, by decide +kernel⟩
theorem scLaw : FnScope ["_law_script", "_law_row", "_law_film_here", "_law_known", "_law_low", "_law_first", "_law_last", "_law_due", "_law_letter", "_law_told"] ["_law_script"] (defScope sLaw) := ⟨rfl, rfl, rfl, by decide +kernel, rfl, by decide +kernel, by decide +kernel⟩
/-! ### words as texts -/
def mk (l : Wd) : Str := ⟨l.toArray⟩
theorem mk_cps (l : Wd) : (mk l).cps.toList = l := rfl
theorem mk_size (l : Wd) : (mk l).cps.size = l.length := rfl
theorem mk_len (l : Wd) : (mk l).length = l.length := rfl
theorem mk_get (l : Wd) (i : Nat) : (mk l).cps[i]? = l[i]? := by
  show l.toArray[i]? = l[i]?
  simp
theorem mk_inj {l m : Wd} (h : mk l = mk m) : l = m := congrArg (fun z : Str => z.cps.toList) h
theorem mk_iff {l m : Wd} : mk l = mk m ↔ l = m := ⟨mk_inj, fun e => by rw [e]⟩
theorem mk_one (c : Nat) : (⟨#[c]⟩ : Str) = mk [c] := rfl
/-- a film of the law -/
structure Film (f : Wd) : Prop where
  pos : 0 < f.length
  le : f.length ≤ 12
  let_ : ∀ c ∈ f, 97 ≤ c ∧ c ≤ 104
theorem Film.ne {f : Wd} (h : Film f) : f ≠ [] := List.length_pos_iff.mp h.pos
theorem Film.small {f : Wd} (h : Film f) {n : Nat} (hn : n ≤ 12 * 12) : n ≤ sizeLine := Nat.le_trans hn (by decide)
theorem letters_mem {c : Nat} (h : 97 ≤ c ∧ c ≤ 104) : c ∈ (Str.ofString "abcdefgh").cps.toList := by
  have e : (Str.ofString "abcdefgh").cps.toList = [97, 98, 99, 100, 101, 102, 103, 104] := by decide +kernel
  rw [e]
  obtain ⟨h1, h2⟩ := h
  have : c = 97 ∨ c = 98 ∨ c = 99 ∨ c = 100 ∨ c = 101 ∨ c = 102 ∨ c = 103 ∨ c = 104 := by omega
  rcases this with e | e | e | e | e | e | e | e <;> (subst e; decide)
theorem same_upd {H : Hp} {p : Addr} {o : HO} (h : H p = none) : Same H (upd H p o) := fun b x e => by
  rw [upd_ne (ne_of_none e h)]
  exact e
theorem bl_t {p : Prop} [Decidable p] (h : p) : V.bl (decide p) = V.bl true := by rw [decide_eq_true h]
theorem bl_f {p : Prop} [Decidable p] (h : ¬ p) : V.bl (decide p) = V.bl false := by rw [decide_eq_false h]
/-! ### what the walks draw -/
theorem walk_enumS {x : Str} : L2.Walk (Ites x) x.cps.size (fun _ => True) (fun i H v H' => ∃ T c, v = .ref T ∧ H T = none ∧ H' = upd H T (.tup [.int (i : Nat), .str ⟨#[c]⟩]) ∧ x.cps[i]? = some c) :=
  ⟨fun _ _ hi _ => hi, fun _ _ => Nat.le_refl _, fun _ _ _ _ _ _ y => y⟩
/-! ### need_film -/
def spNeed : Sp := fun vs H Q _ => ∃ f : Wd, vs = [.str (mk f)] ∧ Film f ∧ ∀ H', Same H H' → Q .non H'
section
variable {P : Program} {w : World} {K : PySem.W.Frag} {mg : Str → Option Value} {base : Heap}
/-- the built-in names and constants that the defs ask -/
structure Names (mg : Str → Option Value) : Prop where
  isi : mg "isinstance" = none
  str : mg "str" = none
  len : mg "len" = none
  enum : mg "enumerate" = none
  range : mg "range" = none
  all : mg "all" = none
  min : mg "min" = none
  sorted : mg "sorted" = none
  set : mg "set" = none
  list : mg "list" = none
  tuple : mg "tuple" = none
  int : mg "int" = none
  bool : mg "bool" = none
  letters : ∃ t, mg "LETTERS" = some (.str "abcdefgh" t)
  most : ∃ t, mg "MOST_FILM" = some (.int 200 t)
theorem ok_need {f : Addr} {fd : FuncData} (F : Fun K "need_film" "need_film" sNeed f fd) (Nm : Names mg) : FnOk P w K mg base CX0 1 f fd ["value"] spNeed := by
  refine F.ok scNeed (fun vs H Q E h => ?_) (fun cdv A outer s H vs Q E hr h => ?_)
  · obtain ⟨f, rfl, _⟩ := h
    rfl
  · obtain ⟨f, rfl, hf, q⟩ := h
    obtain ⟨t1, gL⟩ := Nm.letters
    obtain ⟨t2, gM⟩ := Nm.most
    refine ⟨_, pss_cons (ps_if (PW.pt (pw_or (pt_not (pt_val (pe_callB call_isi (by rfl) Nm.isi (by decide +kernel) (pa_cons (pv 0) (pa_cons (pe_bltn (v := .ty "str") (by rfl) Nm.str (by decide +kernel) rfl) pa_nil)))))
          (pw_or1 (pt_not (pt_chain op_le op_le pe_int (pe_callB call_len_str (by rfl) Nm.len PySem.boot_len (pa_cons (pv 0) pa_nil)) (pe_glob (v := .int 200) (by rfl) gM ⟨_, rfl⟩))))))
        (pss_one ps_never) pss_nil)
      (pss_one (ps_for PassesOwn.never rfl (pi_enumS (by rfl) Nm.enum (pa_cons (pv 0) pa_nil)) (pg_tup rfl (pgs_cons (pg_name (i := 1) scNeed.nd rfl (.inl rfl)) (pgs_cons (pg_name (i := 2) scNeed.nd rfl (.inl rfl)) pgs_nil)))
        (pss_one (ps_if (pt_cmpR op_notIn_sign (pv 2) (pe_glob (v := .str "abcdefgh") (by rfl) gL ⟨_, rfl⟩) rfl) (pss_one ps_never) pss_nil)))), ?_⟩
    refine ⟨_, rfl, _, _, _, _, true, rfl, .ty _, .base (.str _), kit_ty (by decide +kernel), true, rfl, iteF ?_⟩
    refine ⟨_, rfl, mk f, rfl, hf.small (Nat.le_trans hf.le (by decide)), _, _, rfl, rfl, true, bl_t (by have := hf.pos; rw [mk_len]; omega), iteT ?_⟩
    refine ⟨_, _, rfl, rfl, true, bl_t (by have := hf.le; rw [mk_len]; omega), iteF ?_⟩
    refine ⟨_, rfl, mk f, rfl, for_it walk_enumS (fun _ σ H' => ∃ y1 y2, σ = [some (.str (mk f)), y1, y2] ∧ Same H H') ⟨none, none, rfl, Same.refl _⟩ (fun _ _ _ _ _ => True.intro) (fun i x σ H1 H2 hi hp hy => ?_) fun σ H1 hp => ?_⟩
    · obtain ⟨y1, y2, rfl, sm⟩ := hp
      obtain ⟨T, c, rfl, nT, rfl, hc⟩ := hy
      refine ⟨T, _, rfl, .inl (.inl upd_same), rfl, _, _, rfl, _, _, rfl, rfl, ?_⟩
      rw [mk_get] at hc
      have hm : c ∈ f := List.mem_of_getElem? hc
      refine ⟨_, rfl, c, _, rfl, rfl, _, rfl, iteNS (letters_mem (hf.let_ c hm)) ?_⟩
      exact ⟨_, _, rfl, sm.trans (same_upd nT)⟩
    · obtain ⟨y1, y2, rfl, sm⟩ := hp
      exact q _ sm
end
end K07
/-! nexts -/
namespace K07
open PySem PySem.Spec PyProof.Rows L2
theorem ixF {f : Wd} {p : Nat} {z : Int} (e : z = (p : Int)) (h : p < f.length) : atI (mk f).cps.toList z = some (at_ f p) := by
  refine at_ofN e ?_
  show f[p]? = some (at_ f p)
  unfold at_
  rw [List.getD_eq_getElem?_getD, List.getElem?_eq_getElem h]
  rfl
where
  at_ofN {xs : List Nat} {z : Int} {j : Nat} {v : Nat} (e : z = (j : Int)) (h : xs[j]? = some v) : atI xs z = some v := by
    rw [e]
    exact atI_nat h
theorem valV_none {κ : Type} [DecidableEq κ] {kvs : List (κ × V)} {k : κ} : valV kvs k = none ↔ k ∉ kvs.map (·.1) := by
  have h := valV_any k kvs
  rw [← Option.isSome_eq_false_iff.trans Option.isNone_iff_eq_none, ← h]
  rw [List.any_eq_false]
  constructor
  · intro q hm
    obtain ⟨p, hp, e⟩ := List.mem_map.mp hm
    exact q p hp (decide_eq_true e)
  · intro q p hp e
    exact q (List.mem_map.mpr ⟨p, hp, of_decide_eq_true e⟩)
theorem nxTo_succ (f : Wd) (p k : Nat) : nxTo f p (k + 1) = if at_ f (p + k) = at_ f p ∧ at_ f (p + k + 1) ∉ (nxTo f p k).map (·.1) then nxTo f p k ++ [(at_ f (p + k + 1), p + k + 1)] else nxTo f p k := rfl
/-- the dict of nexts -/
def encS (l : List (Nat × Nat)) : List (Key × V) := l.map fun cq => (Sum.inr (mk [cq.1]), V.int (cq.2 : Nat))
theorem encS_key {l : List (Nat × Nat)} {c : Nat} : (Sum.inr (mk [c]) : Key) ∈ (encS l).map (·.1) ↔ c ∈ l.map (·.1) := by
  unfold encS
  simp only [List.map_map, List.mem_map, Function.comp]
  constructor
  · rintro ⟨a, ha, e⟩
    refine ⟨a, ha, ?_⟩
    have := mk_inj (Sum.inr.inj e)
    exact (List.cons.inj this).1
  · rintro ⟨a, ha, e⟩
    exact ⟨a, ha, by rw [e]⟩
theorem encS_len (l : List (Nat × Nat)) : (encS l).length = l.length := List.length_map _
def spNexts : Sp := fun vs H Q _ => ∃ (f : Wd) (p : Nat), vs = [.str (mk f), .int (p : Nat)] ∧ Film f ∧ p < f.length ∧ ∀ H' d, Same H H' → H d = none → H' d = some (.dK (encS (nx f p))) → Q (.ref d) H'
section
variable {P : Program} {w : World} {K : PySem.W.Frag} {mg : Str → Option Value} {base : Heap}
theorem ok_nexts {f : Addr} {fd : FuncData} (F : Fun K "nexts" "nexts" sNexts f fd) (Nm : Names mg) : FnOk P w K mg base CX0 1 f fd ["film", "place"] spNexts := by
  refine F.ok scNexts (fun vs H Q E h => ?_) (fun cdv A outer s H vs Q E hr h => ?_)
  · obtain ⟨f, p, rfl, _⟩ := h
    rfl
  · obtain ⟨f, p, rfl, hf, hp, q⟩ := h
    have hu := hu_of hr
    have hz : (mk f).length ≤ sizeLine := hf.small (Nat.le_trans hf.le (by decide))
    refine ⟨_, pss_cons (ps_par (i := 2) (j := 3) rfl scNexts.nd rfl rfl (by decide) rfl rfl (pa_cons pe_dnewK (pa_cons (pe_ix ix_str (pv 0) (pv 1) (fun _ _ => rfl)) pa_nil)) (by rfl))
      (pss_cons (ps_for PassesOwn.never rfl (pi_range2 (by rfl) Nm.range (pa_cons (pv 1) (pa_cons (pe_op op_sub (pe_callB call_len_str (by rfl) Nm.len PySem.boot_len (pa_cons (pv 0) pa_nil)) pe_int) pa_nil)))
          (pg_name (i := 4) scNexts.nd rfl (.inl rfl))
        (pss_one (ps_if (PW.pt (pw_and (pt_cmpR op_eq (pe_ix ix_str (pv 0) (pv 4) (fun _ _ => rfl)) (pv 3) (nomark _))
            (pw_and1 (pt_cmp (pc_dnotin hu (pe_ix ix_str (pv 0) (pe_op op_add (pv 4) pe_int) (fun _ _ => rfl)) (pv 2))))))
          (pss_one (ps_dput hu (pv 2) (pe_ix ix_str (pv 0) (pe_op op_add (pv 4) pe_int) (fun _ _ => rfl)) (pe_op op_add (pv 4) pe_int) rfl)) pss_nil)))
      (pss_one (ps_ret (pv 2)))), ?_⟩
    intro d nd
    refine ⟨_, rfl, _, rfl, mk f, _, _, rfl, rfl, hz, ixF rfl hp, _, _, rfl, ?_⟩
    have hfl := hf.le
    refine ⟨_, rfl, _, rfl, mk f, rfl, hz, _, _, rfl, rfl, _, _, rfl, ⟨by omega, by omega, by rw [mk_len]; omega, by rw [mk_len]; omega⟩, ?_⟩
    have en : ((((mk f).length : Nat) : Int) - 1 - (p : Int)).toNat = f.length - 1 - p := by rw [mk_len]; omega
    rw [en]
    refine for_it walk_range (fun i σ H' => ∃ y4, σ = [some (.str (mk f)), some (.int (p : Nat)), some (.ref d), some (.str (mk [at_ f p])), y4] ∧ Same H H' ∧ H' d = some (.dK (encS (nxTo f p i))))
      ⟨none, rfl, same_upd nd, upd_same⟩ (fun _ _ _ _ _ => True.intro) (fun i x σ H1 H2 hi hpv hy => ?_) fun σ H1 hpv => ?_
    · obtain ⟨y4, rfl, sm, hd⟩ := hpv
      obtain ⟨rfl, rfl⟩ := hy
      refine ⟨_, rfl, _, rfl, mk f, _, _, rfl, rfl, hz, ixF (p := p + i) (by omega) (by omega), _, rfl, rfl, _, rfl, ?_⟩
      have edec : decide (V.str (mk [at_ f (p + i)]) = V.str (mk [at_ f p])) = decide (at_ f (p + i) = at_ f p) := by
        refine decide_eq_decide.mpr ⟨fun e => (List.cons.inj (mk_inj (V.str.inj e))).1, fun e => by rw [e]⟩
      show if decide (V.str (mk [at_ f (p + i)]) = V.str (mk [at_ f p])) = true then _ else _
      rw [edec]
      by_cases h1 : at_ f (p + i) = at_ f p
      · rw [decide_eq_true h1]
        refine iteT ⟨_, rfl, _, rfl, _, _, rfl, rfl, mk f, _, _, rfl, rfl, hz, ixF (p := p + i + 1) (by omega) (by omega), _, rfl, d, _, rfl, DGet.k (k := Sum.inr (mk [at_ f (p + i + 1)])) hd, _, rfl, ?_⟩
        have key := valV_none (kvs := encS (nxTo f p i)) (k := Sum.inr (mk [at_ f (p + i + 1)]))
        rw [encS_key] at key
        cases ev : valV (encS (nxTo f p i)) (Sum.inr (mk [at_ f (p + i + 1)])) with
        | none =>
          have hn := key.mp ev
          refine iteT ⟨_, rfl, _, _, rfl, rfl, _, rfl, _, rfl, _, rfl, _, _, rfl, rfl, mk f, _, _, rfl, rfl, hz, ixF (p := p + i + 1) (by omega) (by omega), d, _, rfl, DPut.k (k := Sum.inr (mk [at_ f (p + i + 1)])) hd ?_, ?_⟩
          · rw [encS_len]
            exact Nat.lt_of_le_of_lt (nxTo_len i) (Nat.lt_of_le_of_lt (show i ≤ 12 by omega) (by decide))
          · refine ⟨_, rfl, fun b o e => ?_, ?_⟩
            · rw [upd_ne (ne_of_none e nd)]
              exact sm b o e
            · rw [upd_same, putK_new _ ev, nxTo_succ, if_pos ⟨h1, hn⟩]
              unfold encS
              rw [List.map_append]
              rfl
        | some v =>
          have hn : ¬ at_ f (p + i + 1) ∉ (nxTo f p i).map (·.1) := fun z => by
            rw [key.mpr z] at ev
            cases ev
          refine iteF ⟨_, rfl, sm, ?_⟩
          rw [nxTo_succ, if_neg (fun z => hn z.2)]
          exact hd
      · rw [decide_eq_false h1]
        refine iteF (iteF ⟨_, rfl, sm, ?_⟩)
        rw [nxTo_succ, if_neg (fun z => h1 z.1)]
        exact hd
    · obtain ⟨y4, rfl, sm, hd⟩ := hpv
      exact ⟨_, rfl, q H1 d sm nd hd⟩
end
end K07
/-! The plain law, part 2: searches: can_miss, shortest_length. -/
namespace K07
/-! ### counting -/
theorem nodup_le {α : Type} [DecidableEq α] : ∀ {l m : List α}, l.Nodup → (∀ x ∈ l, x ∈ m) → l.length ≤ m.length
  | [], m, _, _ => Nat.zero_le _
  | a :: l, m, hn, hs => by
    rw [List.nodup_cons] at hn
    have ha : a ∈ m := hs a (List.mem_cons_self ..)
    have h2 : l.length ≤ (m.erase a).length := nodup_le hn.2 fun x hx => by
      refine (List.mem_erase_of_ne ?_).mpr (hs x (List.mem_cons_of_mem _ hx))
      rintro rfl
      exact hn.1 hx
    rw [List.length_erase_of_mem ha] at h2
    have h3 : 0 < m.length := List.length_pos_of_mem ha
    rw [List.length_cons]
    omega
theorem below_le {l : List Nat} {n : Nat} (h : l.Nodup) (hb : ∀ x ∈ l, x < n) : l.length ≤ n := by
  have := nodup_le (m := List.range n) h fun x hx => List.mem_range.mpr (hb x hx)
  rwa [List.length_range] at this
/-! ### one visit -/
def visit (ok : Nat → Bool) (st : List Nat × List Nat) (o : Nat × Nat) : List Nat × List Nat :=
  if ok o.1 = true ∧ o.2 ∉ st.1 then (st.1 ++ [o.2], st.2 ++ [o.2]) else st
theorem visit_all (ok : Nat → Bool) : ∀ (l : List (Nat × Nat)) (s e : List Nat), ∃ new : List Nat, l.foldl (visit ok) (s, e) = (s ++ new, e ++ new) ∧
    (∀ q ∈ new, q ∉ s ∧ ∃ o ∈ l, o.2 = q ∧ ok o.1 = true) ∧ (s.Nodup → (s ++ new).Nodup) ∧ ∀ o ∈ l, ok o.1 = true → o.2 ∈ s ++ new
  | [], s, e => ⟨[], by simp, by simp, by simp, by simp⟩
  | o :: l, s, e => by
    rw [List.foldl_cons]
    by_cases h : ok o.1 = true ∧ o.2 ∉ s
    · have ev : visit ok (s, e) o = (s ++ [o.2], e ++ [o.2]) := if_pos h
      rw [ev]
      obtain ⟨new, h1, h2, h3, h4⟩ := visit_all ok l (s ++ [o.2]) (e ++ [o.2])
      refine ⟨o.2 :: new, by rw [h1]; simp, fun q hq => ?_, fun hn => ?_, fun o' ho' hok => ?_⟩
      · rcases List.mem_cons.mp hq with rfl | hq
        · exact ⟨h.2, o, List.mem_cons_self .., rfl, h.1⟩
        · obtain ⟨k1, o', k2, k3⟩ := h2 q hq
          exact ⟨fun z => k1 (List.mem_append_left _ z), o', List.mem_cons_of_mem _ k2, k3⟩
      · have : (s ++ [o.2]).Nodup := by
          rw [List.nodup_append]
          refine ⟨hn, by simp, fun a ha b hb => ?_⟩
          have : b = o.2 := by simpa using hb
          rintro rfl
          exact h.2 (this ▸ ha)
        have := h3 this
        rwa [List.append_assoc] at this
      · have e1 : s ++ (o.2 :: new) = (s ++ [o.2]) ++ new := by simp
        rw [e1]
        rcases List.mem_cons.mp ho' with rfl | ho'
        · exact List.mem_append_left _ (List.mem_append_right _ (List.mem_cons_self ..))
        · exact h4 o' ho' hok
    · have ev : visit ok (s, e) o = (s, e) := if_neg h
      rw [ev]
      obtain ⟨new, h1, h2, h3, h4⟩ := visit_all ok l s e
      refine ⟨new, h1, fun q hq => ?_, h3, fun o' ho' hok => ?_⟩
      · obtain ⟨k1, o', k2, k3⟩ := h2 q hq
        exact ⟨k1, o', List.mem_cons_of_mem _ k2, k3⟩
      · rcases List.mem_cons.mp ho' with rfl | ho'
        · by_cases hm : o'.2 ∈ s
          · exact List.mem_append_left _ hm
          · exact absurd ⟨hok, hm⟩ h
        · exact h4 o' ho' hok
theorem Go.nil {f : Wd} {p : Nat} : Go f p [] p := rfl
theorem Go.snoc {f g : Wd} {p q r c : Nat} (h : Go f p g r) (k : (c, q) ∈ nx f r) : Go f p (g ++ [c]) q := go_snoc.mpr ⟨r, h, k⟩
theorem unsnoc {g : Wd} {k : Nat} (h : g.length = k + 1) : ∃ g1 c, g = g1 ++ [c] ∧ g1.length = k := by
  rcases List.eq_nil_or_concat g with rfl | ⟨g1, c, rfl⟩
  · simp at h
  · refine ⟨g1, c, by simp, by simpa using h⟩
/-! ### can_miss -/
structure CM (f : Wd) (c : Nat) (seen edge : List Nat) : Prop where
  nd : seen.Nodup
  way : ∀ p ∈ seen, p < f.length ∧ ∃ g, Go f 0 g p ∧ c ∉ g
  sub : ∀ p ∈ edge, p ∈ seen
  zero : 0 ∈ seen
  done : ∀ p ∈ seen, p ∈ edge ∨ (¬ Acc f p ∧ ∀ o ∈ nx f p, o.1 ≠ c → o.2 ∈ seen)
  size : edge.length ≤ seen.length
def neq (c : Nat) : Nat → Bool := fun x => decide (x ≠ c)
theorem CM.start {f : Wd} {c : Nat} (h : 0 < f.length) : CM f c [0] [0] where
  nd := by simp
  way := fun p hp => by
    have : p = 0 := by simpa using hp
    subst this
    exact ⟨h, [], rfl, by simp⟩
  sub := fun p hp => hp
  zero := by simp
  done := fun p hp => .inl hp
  size := Nat.le_refl _
theorem CM.len {f : Wd} {c : Nat} {s e : List Nat} (h : CM f c s e) : s.length ≤ f.length := below_le h.nd fun x hx => (h.way x hx).1
theorem CM.next {f : Wd} {c : Nat} {s e : List Nat} {p : Nat} (h : CM f c s (e ++ [p])) (na : ¬ Acc f p) {s' e' : List Nat} (hv : (nx f p).foldl (visit (neq c)) (s, e) = (s', e')) :
    CM f c s' e' ∧ 2 * (f.length - s'.length) + e'.length < 2 * (f.length - s.length) + (e ++ [p]).length := by
  obtain ⟨new, h1, h2, h3, h4⟩ := visit_all (neq c) (nx f p) s e
  rw [h1] at hv
  obtain ⟨rfl, rfl⟩ := Prod.mk.inj hv
  have hp : p ∈ s := h.sub p (by simp)
  have hsz := h.size
  rw [List.length_append, List.length_singleton] at hsz
  have hc : CM f c (s ++ new) (e ++ new) := by
    refine ⟨h3 h.nd, fun q hq => ?_, fun q hq => ?_, List.mem_append_left _ h.zero, fun q hq => ?_, ?_⟩
    · rcases List.mem_append.mp hq with hq | hq
      · exact h.way q hq
      · obtain ⟨_, ⟨c', q'⟩, k2, rfl, k3⟩ := h2 q hq
        obtain ⟨_, g, w1, w2⟩ := h.way p hp
        refine ⟨(nx_mem.mp k2).le, g ++ [c'], w1.snoc k2, fun z => ?_⟩
        rcases List.mem_append.mp z with z | z
        · exact w2 z
        · have : c = c' := by simpa using z
          have k4 : c' ≠ c := of_decide_eq_true k3
          exact k4 this.symm
    · rcases List.mem_append.mp hq with hq | hq
      · exact List.mem_append_left _ (h.sub q (List.mem_append_left _ hq))
      · exact List.mem_append_right _ hq
    · rcases List.mem_append.mp hq with hq | hq
      · rcases h.done q hq with z | ⟨z1, z2⟩
        · rcases List.mem_append.mp z with z | z
          · exact .inl (List.mem_append_left _ z)
          · have : q = p := by simpa using z
            subst this
            exact .inr ⟨na, fun o ho hc => h4 o ho (decide_eq_true hc)⟩
        · exact .inr ⟨z1, fun o ho hc => List.mem_append_left _ (z2 o ho hc)⟩
      · exact .inl (List.mem_append_right _ hq)
    · rw [List.length_append, List.length_append]
      omega
  refine ⟨hc, ?_⟩
  have hl := hc.len
  rw [List.length_append] at hl ⊢
  rw [List.length_append, List.length_append, List.length_singleton]
  omega
/-- nothing is left: every outcome has the letter -/
theorem CM.all {f : Wd} {c : Nat} {s : List Nat} (h : CM f c s []) : ∀ w, Out f w → c ∈ w := by
  have cl : ∀ g q, Go f 0 g q → c ∉ g → q ∈ s := by
    intro g
    generalize hn : g.length = n
    induction n generalizing g with
    | zero =>
      intro q hg hc
      have : g = [] := List.length_eq_zero_iff.mp hn
      subst this
      have : q = 0 := hg
      subst this
      exact h.zero
    | succ n ih =>
      intro q hg hc
      obtain ⟨g1, c1, rfl, hl⟩ := unsnoc hn
      obtain ⟨r, k1, k2⟩ := go_snoc.mp hg
      have hr := ih g1 hl r k1 (fun z => hc (List.mem_append_left _ z))
      rcases h.done r hr with z | ⟨_, z⟩
      · cases z
      · exact z (c1, q) k2 fun e => hc (by rw [← e]; simp)
  rintro w ⟨g, q, rfl, hg, ha⟩
  apply Decidable.byContradiction
  intro hc
  have hq := cl g q hg (fun z => hc (List.mem_cons_of_mem _ z))
  rcases h.done q hq with z | ⟨z, _⟩
  · cases z
  · exact z ha
/-- a last place is met: an outcome lacks the letter -/
theorem CM.some {f : Wd} {c : Nat} {s e : List Nat} {p : Nat} (h : CM f c s e) (hp : p ∈ s) (ha : Acc f p) (h0 : at_ f 0 ≠ c) : ∃ w, Out f w ∧ c ∉ w := by
  obtain ⟨_, g, hg, hc⟩ := h.way p hp
  refine ⟨at_ f 0 :: g, ⟨g, p, rfl, hg, ha⟩, fun z => ?_⟩
  rcases List.mem_cons.mp z with z | z
  · exact h0 z.symm
  · exact hc z
/-! ### shortest_length -/
structure SL (f : Wd) (k : Nat) (edge seen : List Nat) : Prop where
  nd : seen.Nodup
  seen_ : ∀ p, p ∈ seen ↔ ∃ g, g.length ≤ k ∧ Go f 0 g p
  edge_ : ∀ p ∈ edge, ∃ g, g.length = k ∧ Go f 0 g p
  all : ∀ g p, g.length = k → Go f 0 g p → p ∈ edge ∨ ∃ g', g'.length < k ∧ Go f 0 g' p
  no : ∀ g p, g.length < k → Go f 0 g p → ¬ Acc f p
  sub : edge.length ≤ seen.length
theorem SL.start (f : Wd) : SL f 0 [0] [0] where
  nd := by simp
  seen_ := fun p => by
    constructor
    · intro h
      have : p = 0 := by simpa using h
      subst this
      exact ⟨[], Nat.le_refl _, rfl⟩
    · rintro ⟨g, hl, hg⟩
      have : g = [] := List.length_eq_zero_iff.mp (Nat.le_zero.mp hl)
      subst this
      have : p = 0 := hg
      subst this
      simp
  edge_ := fun p hp => by
    have : p = 0 := by simpa using hp
    subst this
    exact ⟨[], rfl, rfl⟩
  all := fun g p hl hg => by
    have : g = [] := List.length_eq_zero_iff.mp hl
    subst this
    have : p = 0 := hg
    subst this
    exact .inl (by simp)
  no := fun g p hl _ => by omega
  sub := Nat.le_refl _
theorem SL.lt {f : Wd} {k : Nat} {e s : List Nat} (h : SL f k e s) (hf : 0 < f.length) : (∀ p ∈ s, p < f.length) ∧ s.length ≤ f.length := by
  have hb : ∀ p ∈ s, p < f.length := fun p hp => by
    obtain ⟨g, _, hg⟩ := (h.seen_ p).mp hp
    exact hg.lt hf
  exact ⟨hb, below_le h.nd hb⟩
theorem SL.insub {f : Wd} {k : Nat} {e s : List Nat} (h : SL f k e s) : ∀ p ∈ e, p ∈ s := fun p hp => by
  obtain ⟨g, hl, hg⟩ := h.edge_ p hp
  exact (h.seen_ p).mpr ⟨g, by omega, hg⟩
theorem SL.next {f : Wd} {k : Nat} {e s e' s' : List Nat} (h : SL f k e s) (na : ∀ p ∈ e, ¬ Acc f p) (hv : (e.flatMap (nx f)).foldl (visit (fun _ => true)) (s, []) = (s', e')) : SL f (k + 1) e' s' := by
  obtain ⟨new, h1, h2, h3, h4⟩ := visit_all (fun _ => true) (e.flatMap (nx f)) s []
  rw [h1] at hv
  obtain ⟨rfl, rfl⟩ := Prod.mk.inj hv
  rw [List.nil_append]
  have reach : ∀ g p, g.length = k + 1 → Go f 0 g p → p ∈ s ++ new := by
    intro g p hl hg
    obtain ⟨g1, c, rfl, hl1⟩ := unsnoc hl
    obtain ⟨r, k1, k2⟩ := go_snoc.mp hg
    rcases h.all g1 r hl1 k1 with hr | ⟨g', hl', hg'⟩
    · exact h4 (c, p) (List.mem_flatMap.mpr ⟨r, hr, k2⟩) rfl
    · exact List.mem_append_left _ ((h.seen_ p).mpr ⟨g' ++ [c], by rw [List.length_append, List.length_singleton]; omega, hg'.snoc k2⟩)
  have fromNew : ∀ p ∈ new, ∃ g, g.length = k + 1 ∧ Go f 0 g p := by
    intro p hp
    obtain ⟨_, ⟨c, q⟩, k2, rfl, _⟩ := h2 p hp
    obtain ⟨r, hr, k3⟩ := List.mem_flatMap.mp k2
    obtain ⟨g, hl, hg⟩ := h.edge_ r hr
    exact ⟨g ++ [c], by rw [List.length_append, List.length_singleton]; omega, hg.snoc k3⟩
  refine ⟨h3 h.nd, fun p => ⟨fun hp => ?_, ?_⟩, fromNew, fun g p hl hg => ?_, fun g p hl hg => ?_, by rw [List.length_append]; omega⟩
  · rcases List.mem_append.mp hp with hp | hp
    · obtain ⟨g, hl, hg⟩ := (h.seen_ p).mp hp
      exact ⟨g, by omega, hg⟩
    · obtain ⟨g, hl, hg⟩ := fromNew p hp
      exact ⟨g, by omega, hg⟩
  · rintro ⟨g, hl, hg⟩
    by_cases e : g.length = k + 1
    · exact reach g p e hg
    · exact List.mem_append_left _ ((h.seen_ p).mpr ⟨g, by omega, hg⟩)
  · rcases List.mem_append.mp (reach g p hl hg) with hp | hp
    · obtain ⟨g', hl', hg'⟩ := (h.seen_ p).mp hp
      exact .inr ⟨g', by omega, hg'⟩
    · exact .inl hp
  · by_cases e : g.length = k
    · rcases h.all g p e hg with hp | ⟨g', hl', hg'⟩
      · exact na p hp
      · exact h.no g' p hl' hg'
    · exact h.no g p (by omega) hg
theorem out_self {f : Wd} (h : f ≠ []) : Out f f := (reach_iff_out h).mp (.refl f)
theorem SL.le {f : Wd} {k : Nat} {e s : List Nat} (h : SL f k e s) (hf : f ≠ []) : k < f.length := by
  obtain ⟨g, q, e, hg, ha⟩ := out_self hf
  apply Decidable.byContradiction
  intro hk
  have hl : f.length = g.length + 1 := by
    have := congrArg List.length e
    rwa [List.length_cons] at this
  exact h.no g q (by omega) hg ha
theorem SL.end_ {f : Wd} {k : Nat} {e s : List Nat} (h : SL f k e s) {p : Nat} (hp : p ∈ e) (ha : Acc f p) : (∃ w, Out f w ∧ w.length = k + 1) ∧ ∀ w, Out f w → k + 1 ≤ w.length := by
  refine ⟨?_, ?_⟩
  · obtain ⟨g, hl, hg⟩ := h.edge_ p hp
    exact ⟨at_ f 0 :: g, ⟨g, p, rfl, hg, ha⟩, by rw [List.length_cons, hl]⟩
  · rintro w ⟨g, q, rfl, hg, hq⟩
    apply Decidable.byContradiction
    intro hk
    rw [List.length_cons] at hk
    exact h.no g q (by omega) hg hq
end K07
/-! Helpers: a def that may be called; indices; tests; dicts of ints; lists against []. -/
namespace K07
open PySem PySem.Spec PyProof.Rows L2
/-- a def of the text that stands behind the name x and keeps its promise -/
structure Cl (P : Program) (w : World) (K : PySem.W.Frag) (mg : Str → Option Value) (base : Heap) (k : Nat) (x : Str) (ps : List Str) (sp : Sp) (f : Addr) (fd : FuncData) : Prop where
  ok : FnOk P w K mg base CX0 k f fd ps sp
  g : mg x = some (.ref f)
  kp : PySem.W.keepIn K (.ref f) = true
  b : Binds K fd ps []
theorem ixLast {f : Wd} (h : 0 < f.length) : atI (mk f).cps.toList (-1) = some (last f) := by
  show atI f (-1) = some (last f)
  have hn : f ≠ [] := List.length_pos_iff.mp h
  have e : f = f.dropLast ++ [last f] := by
    have := (List.dropLast_concat_getLast hn).symm
    have e2 : f.getLast hn = last f := by
      unfold last at_
      rw [List.getLast_eq_getElem, List.getD_eq_getElem?_getD, List.getElem?_eq_getElem]
      rfl
    rwa [e2] at this
  rw [e]
  have := atI_last f.dropLast (last f)
  rw [← e] at this ⊢
  exact this
theorem str1_iff {a b : Nat} : V.str (mk [a]) = V.str (mk [b]) ↔ a = b := ⟨fun e => (List.cons.inj (mk_inj (V.str.inj e))).1, fun e => by rw [e]⟩
theorem dec1 (a b : Nat) : decide (V.str (mk [a]) = V.str (mk [b])) = decide (a = b) := decide_eq_decide.mpr str1_iff
theorem beq1 (a b : Nat) : (mk [a] == mk [b]) = decide (a = b) := by
  rw [Bool.eq_iff_iff, beq_iff_eq, decide_eq_true_iff]
  exact ⟨fun e => (List.cons.inj (mk_inj e)).1, fun e => by rw [e]⟩
theorem same_frz {H1 H2 : Hp} {d : Addr} {o : HO} (s : Same H1 H2) (n : H1 d = none) : Same H1 (upd H2 d o) := fun b x e => by
  rw [upd_ne (ne_of_none e n)]
  exact s b x e
/-- a set of places, kept as a dict -/
def encI (l : List Nat) : List (Key × V) := l.map fun q => (Sum.inl (q : Nat), V.bl true)
theorem encI_key {l : List Nat} {q : Nat} : (Sum.inl ((q : Nat) : Int) : Key) ∈ (encI l).map (·.1) ↔ q ∈ l := by
  unfold encI
  simp only [List.map_map, List.mem_map, Function.comp]
  constructor
  · rintro ⟨a, ha, e⟩
    have : ((a : Nat) : Int) = (q : Int) := Sum.inl.inj e
    rw [← Int.ofNat.inj this]
    exact ha
  · intro h
    exact ⟨q, h, rfl⟩
theorem encI_len (l : List Nat) : (encI l).length = l.length := List.length_map _
theorem encI_get {l : List Nat} {q : Nat} : (valV (encI l) (Sum.inl ((q : Nat) : Int))).isSome = decide (q ∈ l) := by
  have key := valV_none (kvs := encI l) (k := Sum.inl ((q : Nat) : Int))
  rw [encI_key] at key
  cases ev : valV (encI l) (Sum.inl ((q : Nat) : Int)) with
  | none => exact (decide_eq_false (key.mp ev)).symm
  | some v =>
    refine (decide_eq_true ?_).symm
    apply Decidable.byContradiction
    intro z
    rw [key.mpr z] at ev
    cases ev
theorem encI_put {l : List Nat} {q : Nat} (h : q ∉ l) : putK (encI l) (Sum.inl ((q : Nat) : Int)) (V.bl true) = encI (l ++ [q]) := by
  have key := valV_none (kvs := encI l) (k := Sum.inl ((q : Nat) : Int))
  rw [encI_key] at key
  rw [putK_new _ (key.mpr h)]
  unfold encI
  rw [List.map_append]
  rfl
theorem ints_snoc (l : List Nat) (q : Nat) : l.map (fun p : Nat => V.int (p : Nat)) ++ [V.int (q : Nat)] = (l ++ [q]).map (fun p : Nat => V.int (p : Nat)) := by
  rw [List.map_append]
  rfl
/-- a turn over the items of a dict -/
theorem items_at {kvs : List (Key × V)} {i : Nat} {H H' : Hp} {x : V} {k : Key} {v : V} (hk : kvs[i]? = some (k, v)) (hy : YPair (fun i => kvs[i]?.map fun kv => kV kv.1) (fun i => kvs[i]?.map Prod.snd) i H x H') :
    ∃ T, x = .ref T ∧ H T = none ∧ H' = upd H T (.tup [kV k, v]) := by
  obtain ⟨T, a, b, rfl, nT, rfl, e1, e2⟩ := hy
  have e1 : (kvs[i]?).map (fun kv => kV kv.1) = some a := e1
  have e2 : (kvs[i]?).map Prod.snd = some b := e2
  rw [hk] at e1 e2
  have e1 := Option.some.inj e1
  have e2 := Option.some.inj e2
  subst e1 e2
  exact ⟨T, rfl, nT, rfl⟩
theorem encS_at {l : List (Nat × Nat)} {i : Nat} (hi : i < (encS l).length) : ∃ o q, l[i]? = some (o, q) ∧ (encS l)[i]? = some (Sum.inr (mk [o]), V.int (q : Nat)) := by
  rw [encS_len] at hi
  refine ⟨l[i].1, l[i].2, List.getElem?_eq_getElem hi, ?_⟩
  unfold encS
  rw [List.getElem?_map, List.getElem?_eq_getElem hi]
  rfl
/-! ### lists against [] -/
theorem dpAll_of {α : Type} {K : PySem.W.Frag} {H : Hp} {v : α → V} {d : α → PyData} : ∀ {l : List α}, (∀ x ∈ l, Dp K H (v x) (d x)) → DpAll K H (l.map v) (l.map d)
  | [], _ => .nil
  | x :: l, h => .cons (h x (List.mem_cons_self ..)) (dpAll_of fun y hy => h y (List.mem_cons_of_mem _ hy))
theorem shaped_of {α : Type} {d : α → PyData} : ∀ {l : List α}, (∀ x ∈ l, PyData.canLay0 (d x) = true ∧ (d x).depth ≤ 60) → PyData.canLayAll0 (l.map d) = true ∧ PyData.depthAll (l.map d) ≤ 60
  | [], _ => ⟨rfl, Nat.zero_le _⟩
  | x :: l, h => by
    obtain ⟨h1, h2⟩ := h x (List.mem_cons_self ..)
    obtain ⟨k1, k2⟩ := shaped_of (l := l) fun y hy => h y (List.mem_cons_of_mem _ hy)
    refine ⟨?_, ?_⟩
    · show (PyData.canLay0 (d x) && PyData.canLayAll0 (l.map d)) = true
      rw [h1, k1]
      rfl
    · show max (d x).depth (PyData.depthAll (l.map d)) ≤ 60
      omega
theorem shapedL {α : Type} {d : α → PyData} {l : List α} (h : ∀ x ∈ l, PyData.canLay0 (d x) = true ∧ (d x).depth ≤ 60) : SeqAt.shaped (.list (l.map d)) = true := by
  obtain ⟨h1, h2⟩ := shaped_of h
  unfold SeqAt.shaped
  rw [Bool.and_eq_true]
  refine ⟨h1, decide_eq_true ?_⟩
  show (PyData.depthAll (l.map d)) + 1 ≤ 64
  omega
theorem eqv_nil {ds : List PyData} : PyData.eqv (.list ds) (.list []) = ds.isEmpty := by
  cases ds with
  | nil => rfl
  | cons _ _ => rfl
theorem ne_nil {α : Type} {K : PySem.W.Frag} {H : Hp} {E p : Addr} {l : List α} {v : α → V} {d : α → PyData} {Q : VK} (hE : H E = some (.lst (l.map v))) (hp : H p = some (.lst []))
    (hd : ∀ x ∈ l, Dp K H (v x) (d x)) (hs : ∀ x ∈ l, PyData.canLay0 (d x) = true ∧ (d x).depth ≤ 60) (q : Q (.bl (!l.isEmpty)) H) : rNeD K (.ref E) (.ref p) H Q := by
  refine ⟨_, _, .lst (.inl (.inl hE)) (dpAll_of hd), .lst (.inl (.inl hp)) .nil, shapedL hs, by rfl, ?_⟩
  rw [eqv_nil, List.isEmpty_map]
  exact q
theorem eq_nil {α : Type} {K : PySem.W.Frag} {H : Hp} {E p : Addr} {l : List α} {v : α → V} {d : α → PyData} {Q : VK} (hE : H E = some (.lst (l.map v))) (hp : H p = some (.lst []))
    (hd : ∀ x ∈ l, Dp K H (v x) (d x)) (hs : ∀ x ∈ l, PyData.canLay0 (d x) = true ∧ (d x).depth ≤ 60) (q : Q (.bl l.isEmpty) H) : rEqD K (.ref E) (.ref p) H Q := by
  refine ⟨_, _, .lst (.inl (.inl hE)) (dpAll_of hd), .lst (.inl (.inl hp)) .nil, shapedL hs, by rfl, ?_⟩
  rw [eqv_nil, List.isEmpty_map]
  exact q
theorem snoc_of {α : Type} {l : List α} (h : (!l.isEmpty) = true) : ∃ r x, l = r ++ [x] := by
  rcases List.eq_nil_or_concat l with rfl | ⟨r, x, rfl⟩
  · cases h
  · exact ⟨r, x, by simp⟩
end K07
/-! can_miss -/
namespace K07
open PySem PySem.Spec PyProof.Rows L2
def spCM : Sp := fun vs H Q _ => ∃ (f : Wd) (c : Nat), vs = [.str (mk f), .str (mk [c])] ∧ Film f ∧ ∀ H' b, Same H H' → (b = true ↔ ∃ w, Out f w ∧ c ∉ w) → Q (.bl b) H'
section
variable {P : Program} {w : World} {K : PySem.W.Frag} {mg : Str → Option Value} {base : Heap}
theorem out_first {f w : Wd} (h : Out f w) : at_ f 0 ∈ w ∧ last f ∈ w := by
  obtain ⟨g, q, rfl, hg, ha⟩ := h
  refine ⟨List.mem_cons_self .., ?_⟩
  have key : ∀ (g : Wd) (p q : Nat), Go f p g q → at_ f q ∈ at_ f p :: g := by
    intro g
    induction g with
    | nil =>
      intro p q h
      have : q = p := h
      rw [this]
      exact List.mem_cons_self ..
    | cons c g ih =>
      rintro p q ⟨r, h1, h2⟩
      have := ih r q h2
      rw [(nx_mem.mp h1).here] at this
      exact List.mem_cons_of_mem _ this
  have := key g 0 q hg
  rw [show at_ f q = last f from ha] at this
  exact this
theorem inV2 (a b c : Nat) : inV (.str (mk [c])) [.str (mk [a]), .str (mk [b])] = decide (a = c ∨ b = c) := by
  unfold inV
  show ((mk [a] == mk [c]) || ((mk [b] == mk [c]) || false)) = _
  rw [beq1, beq1, Bool.or_false, ← Bool.decide_or]
def WCM (H : Hp) (f : Wd) (c : Nat) (S E : Addr) (m : Nat) (σ : L2.St) (H' : Hp) : Prop := ∃ (seen edge : List Nat) (y4 y5 y6 : Option V), σ = [some (.str (mk f)), some (.str (mk [c])), some (.ref S), some (.ref E), y4, y5, y6] ∧
  m = 2 * (f.length - seen.length) + edge.length ∧ CM f c seen edge ∧ Same H H' ∧ H' S = some (.dK (encI seen)) ∧ H' E = some (.lst (edge.map fun p : Nat => V.int (p : Nat)))
theorem ok_cm {f fN : Addr} {fd fdN : FuncData} (F : Fun K "can_miss" "can_miss" sCM f fd) (Nm : Names mg) (N : Cl P w K mg base 1 "nexts" ["film", "place"] spNexts fN fdN) : FnOk P w K mg base CX0 2 f fd ["film", "letter"] spCM := by
  refine F.ok scCM (fun vs H Q E h => ?_) (fun cdv A outer s H vs Q E hr h => ?_)
  · obtain ⟨f, c, rfl, _⟩ := h
    rfl
  · obtain ⟨f, c, rfl, hf, q⟩ := h
    have hu := hu_of hr
    have hfl := hf.le
    have hpos := hf.pos
    have hz : (mk f).length ≤ sizeLine := hf.small (Nat.le_trans hf.le (by decide))
    refine ⟨_, pss_cons (ps_if (pt_cmpR op_in_seq (pv 1) (pe_tup (pa_cons (pe_ix ix_str (pv 0) pe_int (fun _ _ => rfl)) (pa_cons (pe_ix ix_str (pv 0) (pe_un un_neg pe_int) (fun _ _ => rfl)) pa_nil))) (by with_unfolding_all rfl))
        (pss_one (ps_ret pe_bl)) pss_nil)
      (pss_cons (ps_par (i := 2) (j := 3) rfl scCM.nd rfl rfl (by decide) rfl rfl (pa_cons (pe_disp (pps_cons pe_int pe_bl pps_nil) (by rfl) (by rfl) (fun z => by cases z) (by decide)) (pa_cons (pe_lst (pa_cons pe_int pa_nil)) pa_nil)) (by rfl))
      (pss_cons (ps_while PassesOwn.never (pt_cmpR (op_neD hr.units) (pv 3) (pe_lst pa_nil) (nomark _))
        (pss_cons (ps_set (i := 4) scCM.nd rfl (.inl rfl) (pe_bm0 PySem.F.plainAttrs_list PySem.F.slot_list_pop PySem.F.type_list_pop mt_pop (pv 3)))
        (pss_cons (ps_if (pt_cmpR op_eq (pe_ix ix_str (pv 0) (pv 4) (fun _ _ => rfl)) (pe_ix ix_str (pv 0) (pe_un un_neg pe_int) (fun _ _ => rfl)) (nomark _)) (pss_one (ps_ret pe_bl)) pss_nil)
        (pss_one (ps_for PassesOwn.never rfl (pi_items (pe_frz (pe_call N.ok hr (by rfl) N.g N.kp N.b .nil pass0 (pa_cons (pv 0) (pa_cons (pv 4) pa_nil)))))
            (pg_tup rfl (pgs_cons (pg_name (i := 5) scCM.nd rfl (.inl rfl)) (pgs_cons (pg_name (i := 6) scCM.nd rfl (.inl rfl)) pgs_nil)))
          (pss_one (ps_if (PW.pt (pw_and (pt_cmpR op_ne (pv 5) (pv 1) (nomark _)) (pw_and1 (pt_cmp (pc_dnotin hu (pv 6) (pv 2))))))
            (pss_cons (ps_dput hu (pv 2) (pv 6) pe_bl rfl)
              (pss_one (ps_expr (pe_bm PySem.F.plainAttrs_list PySem.F.slot_list_append PySem.F.type_list_append mt_append (pv 3) (pa_cons (pv 6) pa_nil)))))
            pss_nil)))))))
      (pss_one (ps_ret pe_bl)))), ?_⟩
    have h0 : 0 < f.length := hpos
    refine ⟨_, rfl, _, rfl, mk f, _, _, rfl, rfl, hz, ixF (p := 0) rfl h0, _, rfl, _, rfl, mk f, _, _, rfl, rfl, hz, ixLast h0, (by show 2 ≤ sizeLine; decide), fun t nt => ?_⟩
    refine ⟨t, _, rfl, .inr (.inl (.inl upd_same)), rfl, rfl, _, rfl, ?_⟩
    show if inV (.str (mk [c])) [.str (mk [at_ f 0]), .str (mk [last f])] = true then _ else _
    rw [inV2]
    by_cases hc : at_ f 0 = c ∨ last f = c
    · rw [decide_eq_true hc]
      refine iteT (q _ false (same_upd nt) ?_)
      constructor
      · intro z
        cases z
      · rintro ⟨w, ho, hw⟩
        obtain ⟨k1, k2⟩ := out_first ho
        rcases hc with e | e
        · rw [e] at k1
          exact absurd k1 hw
        · rw [e] at k2
          exact absurd k2 hw
    · rw [decide_eq_false hc]
      refine iteF ?_
      have hc1 : at_ f 0 ≠ c := fun e => hc (.inl e)
      intro S nS
      refine ⟨upd_same, [(Sum.inl 0, .bl true)], rfl, by decide, ?_⟩
      refine ⟨(by show 1 ≤ sizeLine; decide), fun E nE => ⟨_, _, rfl, ?_⟩⟩
      have nS0 : H S = none := (same_upd nt).free nS
      have s1 : Same H (upd (upd (upd H t _) S (.dK [])) S (.dK (encI [0]))) := same_frz ((same_upd nt).trans (same_upd nS)) nS0
      have nE0 : H E = none := s1.free nE
      have hES : S ≠ E := fun e => by
        rw [← e, upd_same] at nE
        cases nE
      refine ⟨WCM H f c S E, ⟨2 * (f.length - ([0] : List Nat).length) + ([0] : List Nat).length, [0], [0], none, none, none, rfl, rfl, CM.start h0, s1.trans (same_upd nE), ?_, ?_⟩, fun m σ H1 hW => ?_⟩
      · rw [upd_ne hES, upd_same]
        rfl
      · rw [upd_same]
        rfl
      · obtain ⟨seen, edge, y4, y5, y6, rfl, hm, cm, sm, hS, hE⟩ := hW
        refine ⟨_, rfl, Nat.zero_le _, fun p np => ne_nil (same_upd np _ _ hE) upd_same (fun x _ => .int _) (fun _ _ => ⟨rfl, Nat.zero_le _⟩) ⟨_, rfl, ?_⟩⟩
        have sm1 := sm.trans (same_upd (o := .lst []) np)
        have hS1 := same_upd (o := .lst []) np _ _ hS
        have hE1 := same_upd (o := .lst []) np _ _ hE
        generalize upd H1 p (.lst []) = H2 at sm1 hS1 hE1 ⊢
        cases he : edge.isEmpty with
        | true =>
          have e0 : edge = [] := List.isEmpty_iff.mp he
          subst e0
          refine iteF (q H2 false sm1 ?_)
          constructor
          · intro z
            cases z
          · rintro ⟨w, ho, hw⟩
            exact absurd (cm.all w ho) hw
        | false =>
          obtain ⟨r, p, rfl⟩ := snoc_of (l := edge) (by rw [he]; rfl)
          refine iteT ⟨fun σ' H' => ∃ m', m' < m ∧ WCM H f c S E m' σ' H', fun _ _ z => z, ?_⟩
          have hp := cm.sub p (by simp)
          have hpl := (cm.way p hp).1
          refine ⟨_, rfl, .inl ⟨rfl, _, .inl (.inl hE1)⟩, E, _, .int (p : Nat), rfl, rfl, hE1, by simp, ?_⟩
          have ed : ((r ++ [p]).map fun p : Nat => V.int (p : Nat)).dropLast = r.map fun p : Nat => V.int (p : Nat) := by simp
          rw [ed]
          have sm2 : Same H (upd H2 E (.lst (r.map fun p : Nat => V.int (p : Nat)))) := same_frz sm1 nE0
          have hS2 : (upd H2 E (.lst (r.map fun p : Nat => V.int (p : Nat)))) S = some (.dK (encI seen)) := by rw [upd_ne hES]; exact hS1
          have hE2 : (upd H2 E (.lst (r.map fun p : Nat => V.int (p : Nat)))) E = some (.lst (r.map fun p : Nat => V.int (p : Nat))) := upd_same
          generalize upd H2 E (.lst (r.map fun p : Nat => V.int (p : Nat))) = H3 at sm2 hS2 hE2 ⊢
          refine ⟨_, rfl, _, rfl, mk f, _, _, rfl, rfl, hz, ixF (p := p) rfl hpl, _, rfl, _, rfl, mk f, _, _, rfl, rfl, hz, ixLast h0, rfl, _, rfl, ?_⟩
          show if decide (V.str (mk [at_ f p]) = V.str (mk [last f])) = true then _ else _
          rw [dec1]
          by_cases ha : at_ f p = last f
          · rw [decide_eq_true ha]
            refine iteT (q H3 true sm2 ⟨fun _ => cm.some hp ha hc1, fun _ => rfl⟩)
          · rw [decide_eq_false ha]
            refine iteF ?_
            refine ⟨_, rfl, _, rfl, f, p, rfl, hf, hpl, fun H4 d sm4 nd hd => ⟨d, _, rfl, hd, trivial, fun od => ?_⟩⟩
            have sm5 : Same H3 (upd H4 d (.frz od (.dK (encS (nx f p))))) := same_frz sm4 nd
            have hd5 : (upd H4 d (.frz od (.dK (encS (nx f p))))) d = some (.frz od (.dK (encS (nx f p)))) := upd_same
            generalize upd H4 d (.frz od (.dK (encS (nx f p)))) = H5 at sm5 hd5 ⊢
            refine ⟨d, od, _, rfl, hd5, for_it walk_items (fun i σ H' => ∃ s' e' y5 y6, ((nx f p).take i).foldl (visit (neq c)) (seen, r) = (s', e') ∧ σ = [some (.str (mk f)), some (.str (mk [c])), some (.ref S), some (.ref E), some (.int (p : Nat)), y5, y6] ∧ Same H H' ∧
              H' d = some (.frz od (.dK (encS (nx f p)))) ∧ H' S = some (.dK (encI s')) ∧ H' E = some (.lst (e'.map fun p : Nat => V.int (p : Nat))))
              ⟨seen, r, _, _, rfl, rfl, sm2.trans sm5, hd5, sm5 _ _ hS2, sm5 _ _ hE2⟩ (fun i σ H' _ ⟨_, _, _, _, _, _, _, z, _⟩ => z) (fun i x σ H6 H7 hi hpv hy => ?_) fun σ H6 hpv => ?_⟩
            · obtain ⟨s', e', z5, z6, hfo, rfl, sm6, hd6, hS6, hE6⟩ := hpv
              obtain ⟨o, qn, hoq, hoq2⟩ := encS_at hi
              obtain ⟨T, rfl, nT, rfl⟩ := items_at hoq2 hy
              replace hoq2 : kV (Sum.inr (mk [o])) = V.str (mk [o]) := rfl
              rw [hoq2]
              have hmem : (o, qn) ∈ nx f p := List.mem_of_getElem? hoq
              have htake : ((nx f p).take (i + 1)).foldl (visit (neq c)) (seen, r) = visit (neq c) (s', e') (o, qn) := by
                rw [List.take_add_one, hoq, List.foldl_append, hfo]
                rfl
              have sT := same_upd (o := .tup [V.str (mk [o]), V.int (qn : Nat)]) nT
              refine ⟨T, _, rfl, .inl (.inl upd_same), rfl, _, _, rfl, _, _, rfl, rfl, ?_⟩
              have sm7 := sm6.trans sT
              have hd7 := sT _ _ hd6
              have hS7 := sT _ _ hS6
              have hE7 := sT _ _ hE6
              generalize upd H6 T (.tup [V.str (mk [o]), V.int (qn : Nat)]) = H7 at sm7 hd7 hS7 hE7 ⊢
              refine ⟨_, rfl, _, rfl, rfl, _, rfl, ?_⟩
              show if (!decide (V.str (mk [o]) = V.str (mk [c]))) = true then _ else _
              rw [dec1]
              by_cases ho : o = c
              · rw [decide_eq_true ho]
                refine iteF (iteF ⟨s', e', _, _, ?_, rfl, sm7, hd7, hS7, hE7⟩)
                rw [htake]
                unfold visit
                rw [if_neg]
                rintro ⟨z, _⟩
                exact absurd ho (of_decide_eq_true z)
              · rw [decide_eq_false ho]
                refine iteT ⟨_, rfl, _, rfl, S, _, rfl, DGet.k (k := Sum.inl ((qn : Nat) : Int)) hS7, _, rfl, ?_⟩
                rw [encI_get]
                by_cases hq : qn ∈ s'
                · rw [decide_eq_true hq]
                  refine iteF ⟨s', e', _, _, ?_, rfl, sm7, hd7, hS7, hE7⟩
                  rw [htake]
                  unfold visit
                  rw [if_neg]
                  rintro ⟨_, z⟩
                  exact z hq
                · rw [decide_eq_false hq]
                  have hs' : visit (neq c) (s', e') (o, qn) = (s' ++ [qn], e' ++ [qn]) := by
                    unfold visit
                    exact if_pos ⟨decide_eq_true ho, hq⟩
                  have hSd : S ≠ d := fun e => by
                    rw [e, hd7] at hS7
                    cases hS7
                  have hEd : E ≠ d := fun e => by
                    rw [e, hd7] at hE7
                    cases hE7
                  have small : ∀ l : List Nat, l.length ≤ 24 → l.length < sizeLine := fun l hl => Nat.lt_of_le_of_lt hl (by decide)
                  have hlen : s'.length ≤ 24 ∧ e'.length ≤ 24 := by
                    obtain ⟨new, w1, w2, w3, _⟩ := visit_all (neq c) ((nx f p).take i) seen r
                    rw [hfo] at w1
                    obtain ⟨rfl, rfl⟩ := Prod.mk.inj w1
                    have hall : ∀ x ∈ seen ++ new, x < f.length := fun x hx => by
                      rcases List.mem_append.mp hx with hx | hx
                      · exact (cm.way x hx).1
                      · obtain ⟨_, ⟨o2, q2⟩, w4, rfl, _⟩ := w2 x hx
                        exact (nx_mem.mp (List.mem_of_mem_take w4)).le
                    have hle := below_le (w3 cm.nd) hall
                    have hsz := cm.size
                    rw [List.length_append] at hle hsz ⊢
                    rw [List.length_append]
                    omega
                  refine iteT ⟨_, rfl, _, rfl, S, _, rfl, DPut.k (k := Sum.inl ((qn : Nat) : Int)) hS7 (by rw [encI_len]; exact small _ hlen.1), ?_⟩
                  rw [encI_put hq]
                  have sm8 : Same H (upd H7 S (.dK (encI (s' ++ [qn])))) := same_frz sm7 nS0
                  have hd8 : (upd H7 S (.dK (encI (s' ++ [qn])))) d = some (.frz od (.dK (encS (nx f p)))) := by rw [upd_ne hSd.symm]; exact hd7
                  have hE8 : (upd H7 S (.dK (encI (s' ++ [qn])))) E = some (.lst (e'.map fun p : Nat => V.int (p : Nat))) := by rw [upd_ne hES.symm]; exact hE7
                  have hS8 : (upd H7 S (.dK (encI (s' ++ [qn])))) S = some (.dK (encI (s' ++ [qn]))) := upd_same
                  generalize upd H7 S (.dK (encI (s' ++ [qn]))) = H8 at sm8 hd8 hE8 hS8 ⊢
                  refine ⟨_, rfl, .inl ⟨rfl, _, .inl (.inl hE8)⟩, _, rfl, E, _, _, rfl, rfl, hE8, by rw [List.length_map]; exact small _ hlen.2, ?_⟩
                  rw [ints_snoc]
                  refine ⟨s' ++ [qn], e' ++ [qn], _, _, by rw [htake, hs'], rfl, same_frz sm8 nE0, ?_, ?_, upd_same⟩
                  · rw [upd_ne hEd.symm]; exact hd8
                  · rw [upd_ne hES]; exact hS8
            · obtain ⟨s', e', z5, z6, hfo, rfl, sm6, hd6, hS6, hE6⟩ := hpv
              rw [encS_len, List.take_length] at hfo
              obtain ⟨cm', lt'⟩ := cm.next ha hfo
              exact ⟨_, by rw [hm]; exact lt', s', e', _, _, _, rfl, rfl, cm', sm6, hS6, hE6⟩
end
end K07
/-! shortest_length -/
namespace K07
open PySem PySem.Spec PyProof.Rows L2
theorem vis_small {ok : Nat → Bool} {n k : Nat} {s e s' e' : List Nat} {L : List (Nat × Nat)} (hs : ∀ x ∈ s, x < n) (hn : s.Nodup) (he : e.length ≤ k) (hL : ∀ o ∈ L, o.2 < n) (hv : L.foldl (visit ok) (s, e) = (s', e')) : s'.length ≤ n ∧ e'.length ≤ k + n ∧ ∀ x ∈ s', x < n := by
  obtain ⟨new, w1, w2, w3, _⟩ := visit_all ok L s e
  rw [hv] at w1
  obtain ⟨rfl, rfl⟩ := Prod.mk.inj w1
  have hall : ∀ x ∈ s ++ new, x < n := fun x hx => by
    rcases List.mem_append.mp hx with hx | hx
    · exact hs x hx
    · obtain ⟨_, o, w4, rfl, _⟩ := w2 x hx
      exact hL o w4
  have hle := below_le (w3 hn) hall
  refine ⟨hle, ?_, hall⟩
  rw [List.length_append] at hle ⊢
  omega
theorem small24 {n : Nat} (h : n ≤ 24) : n < sizeLine := Nat.lt_of_le_of_lt h (by decide)
/-- a turn over the values of a dict of nexts -/
theorem values_at {l : List (Nat × Nat)} {i : Nat} {H H' : Hp} {x : V} (hi : i < (encS l).length) (hy : H' = H ∧ ∃ k, (encS l)[i]? = some (k, x)) : H' = H ∧ ∃ o q, l[i]? = some (o, q) ∧ x = .int (q : Nat) := by
  obtain ⟨o, q, h1, h2⟩ := encS_at hi
  obtain ⟨e, k, h3⟩ := hy
  rw [h2] at h3
  exact ⟨e, o, q, h1, (Prod.mk.inj (Option.some.inj h3)).2.symm⟩
def yes : Nat → Bool := fun _ => true
def spSL : Sp := fun vs H Q _ => ∃ f : Wd, vs = [.str (mk f)] ∧ Film f ∧ ∀ H' n, Same H H' → (∃ w, Out f w ∧ w.length = n) → (∀ w, Out f w → n ≤ w.length) → Q (.int (n : Nat)) H'
def WSL (H : Hp) (f : Wd) (S : Addr) (m : Nat) (σ : L2.St) (H' : Hp) : Prop := ∃ (k : Nat) (seen edge : List Nat) (E : Addr) (y4 y5 y6 : Option V), σ = [some (.str (mk f)), some (.ref E), some (.int ((k + 1 : Nat) : Int)), some (.ref S), y4, y5, y6] ∧
  m = f.length - k ∧ SL f k edge seen ∧ Same H H' ∧ H' S = some (.dK (encI seen)) ∧ H' E = some (.lst (edge.map fun p : Nat => V.int (p : Nat))) ∧ H E = none ∧ E ≠ S
section
variable {P : Program} {w : World} {K : PySem.W.Frag} {mg : Str → Option Value} {base : Heap}
theorem ok_sl {f fN fF : Addr} {fd fdN fdF : FuncData} (F : Fun K "shortest_length" "shortest_length" sSL f fd) (Nm : Names mg) (N : Cl P w K mg base 1 "nexts" ["film", "place"] spNexts fN fdN) (D : Cl P w K mg base 1 "need_film" ["value"] spNeed fF fdF) : FnOk P w K mg base CX0 2 f fd ["film"] spSL := by
  refine F.ok scSL (fun vs H Q E h => ?_) (fun cdv A outer s H vs Q E hr h => ?_)
  · obtain ⟨f, rfl, _⟩ := h
    rfl
  · obtain ⟨f, rfl, hf, q⟩ := h
    have hu := hu_of hr
    have hfl := hf.le
    have h0 : 0 < f.length := hf.pos
    have hz : (mk f).length ≤ sizeLine := hf.small (Nat.le_trans hf.le (by decide))
    refine ⟨_, pss_cons (ps_expr (pe_call D.ok hr (by rfl) D.g D.kp D.b .nil pass0 (pa_cons (pv 0) pa_nil)))
      (pss_cons (ps_par3 (i := 1) (j := 2) (l := 3) rfl scSL.nd rfl rfl rfl (by decide) (by decide) (by decide) rfl rfl rfl (pa_cons (pe_lst (pa_cons pe_int pa_nil)) (pa_cons pe_int (pa_cons (pe_disp (pps_cons pe_int pe_bl pps_nil) (by rfl) (by rfl) (fun z => by cases z) (by decide)) pa_nil))) (by rfl))
      (pss_cons (ps_while PassesOwn.never (pt_val (pe_callB (cr_all rfl) (by rfl) Nm.all (by decide +kernel) (pa_cons (pe_lc (own := [("place", 4)]) (g := gName 4) (tt := tYes) rfl scSL.nd (pi_list (pv 1))
            (blkOk_by (own := [("place", 4)]) (N := ["film", "edge", "size", "seen", "place", "later", "one"]) (sc := defScope sSL) (by decide +kernel)) (fun _ _ _ _ _ => pg_name (i := 4) scSL.nd rfl (Or.inl rfl)) (fun _ _ _ _ _ => pts_nil)
            (fun _ _ _ _ _ => pe_cmpR op_ne (pe_ix ix_str (pv 0) (pv 4) (fun _ _ => rfl)) (pe_ix ix_str (pv 0) (pe_un un_neg pe_int) (fun _ _ => rfl)) (nomark _))) pa_nil)))
        (pss_cons (ps_set (i := 5) scSL.nd rfl (.inl rfl) (pe_lst pa_nil))
        (pss_cons (ps_for PassesOwn.never rfl (pi_list (pv 1)) (pg_name (i := 4) scSL.nd rfl (.inl rfl))
          (pss_one (ps_for PassesOwn.never rfl (pi_values (pe_frz (pe_call N.ok hr (by rfl) N.g N.kp N.b .nil pass0 (pa_cons (pv 0) (pa_cons (pv 4) pa_nil))))) (pg_name (i := 6) scSL.nd rfl (.inl rfl))
            (pss_one (ps_if (pt_cmp (pc_dnotin hu (pv 6) (pv 3)))
              (pss_cons (ps_dput hu (pv 3) (pv 6) pe_bl rfl)
                (pss_one (ps_expr (pe_bm PySem.F.plainAttrs_list PySem.F.slot_list_append PySem.F.type_list_append mt_append (pv 5) (pa_cons (pv 6) pa_nil)))))
              pss_nil)))))
        (pss_one (ps_par (i := 1) (j := 2) rfl scSL.nd rfl rfl (by decide) rfl rfl (pa_cons (pv 5) (pa_cons (pe_op op_add (pv 2) pe_int) pa_nil)) (by rfl))))))
      (pss_one (ps_ret (pv 2))))), ?_⟩
    refine ⟨_, rfl, f, rfl, hf, fun H1 sm1 => ?_⟩
    refine ⟨(by show 1 ≤ sizeLine; decide), fun E nE => ?_⟩
    intro S nS
    refine ⟨upd_same, [(Sum.inl 0, .bl true)], rfl, by decide, _, _, _, rfl, ?_⟩
    have nE0 : H E = none := sm1.free nE
    have s2 : Same H (upd H1 E (.lst [V.int 0])) := same_frz sm1 nE0
    have nS0 : H S = none := s2.free nS
    have hES : E ≠ S := fun e => by
      rw [← e, upd_same] at nS
      cases nS
    have s3 : Same H (upd (upd (upd H1 E (.lst [V.int 0])) S (.dK [])) S (.dK (encI [0]))) := same_frz (same_frz s2 nS0) nS0
    refine ⟨WSL H f S, ⟨f.length - 0, 0, [0], [0], E, none, none, none, rfl, rfl, SL.start f, s3, upd_same, ?_, nE0, hES⟩, fun m σ H2 hW => ?_⟩
    · rw [upd_ne hES, upd_ne hES, upd_same]
      rfl
    · obtain ⟨k, seen, edge, E, y4, y5, y6, rfl, hm, sl, sm, hS, hE, nE0, hES⟩ := hW
      have hlt := sl.lt h0
      have eall : ∀ p ∈ edge, p < f.length := fun p hp => hlt.1 p (sl.insub p hp)
      have eget : ∀ {i : Nat} {x : V}, (edge.map fun p : Nat => V.int (p : Nat))[i]? = some x → ∃ p, edge[i]? = some p ∧ x = .int (p : Nat) := fun {i x} h => by
        rw [List.getElem?_map] at h
        cases e : edge[i]? with
        | none =>
          rw [e] at h
          cases h
        | some p =>
          rw [e] at h
          exact ⟨p, rfl, (Option.some.inj h).symm⟩
      refine ⟨_, rfl, E, rfl, ⟨_, .inl (.inl hE)⟩, fun D nD => ?_⟩
      have hED : E ≠ D := ne_of_none hE nD
      have hSD : S ≠ D := ne_of_none hS nD
      have nD0 : H D = none := sm.free nD
      refine lc_it walk_list (fun i H' => Same H H' ∧ H' S = some (.dK (encI seen)) ∧ H' E = some (.lst (edge.map fun p : Nat => V.int (p : Nat))) ∧ H' D = some (.lst (((edge.take i).map fun p => decide (at_ f p ≠ last f)).map V.bl)))
        ⟨same_frz sm nD0, by rw [upd_ne hSD]; exact hS, by rw [upd_ne hED]; exact hE, upd_same⟩ (fun i H' _ h => .inl (.inl h.2.2.1)) (fun i x H3 H4 hi hpv hy => ?_) fun H3 hpv => ?_
      · obtain ⟨sm3, hS3, hE3, hD3⟩ := hpv
        obtain ⟨rfl, hx⟩ := hy
        obtain ⟨p, hp, rfl⟩ := eget hx
        have hpm : p ∈ edge := List.mem_of_getElem? hp
        refine ⟨rfl, _, rfl, _, rfl, mk f, _, _, rfl, rfl, hz, ixF (p := p) rfl (eall p hpm), _, rfl, _, rfl, mk f, _, _, rfl, rfl, hz, ixLast h0, rfl, _, hD3, ?_, ?_⟩
        · rw [List.length_map, List.length_map, List.length_take]
          have := sl.sub
          exact small24 (by omega)
        · refine ⟨same_frz sm3 nD0, by rw [upd_ne hSD]; exact hS3, by rw [upd_ne hED]; exact hE3, ?_⟩
          rw [upd_same, List.take_add_one, hp, List.map_append, List.map_append]
          have e1 : (!decide (V.str (mk [at_ f p]) = V.str (mk [last f]))) = decide (at_ f p ≠ last f) := by rw [dec1, decide_not]
          show some (HO.lst (_ ++ [V.bl (!decide (V.str (mk [at_ f p]) = V.str (mk [last f])))])) = _
          rw [e1]
          rfl
      · obtain ⟨sm3, hS3, hE3, hD3⟩ := hpv
        rw [List.length_map, List.take_length] at hD3
        refine ⟨D, _, rfl, .inl (.inl hD3), _, rfl, ?_⟩
        by_cases hall : ∀ p ∈ edge, ¬ Acc f p
        · have e1 : (edge.map fun p => decide (at_ f p ≠ last f)).all id = true := by
            rw [List.all_eq_true]
            intro b hb
            obtain ⟨p, hp, rfl⟩ := List.mem_map.mp hb
            exact decide_eq_true (hall p hp)
          rw [e1]
          refine iteT ⟨fun σ' H' => ∃ m', m' < m ∧ WSL H f S m' σ' H', fun _ _ z => z, ?_⟩
          refine ⟨Nat.zero_le _, fun L nL => ?_⟩
          have nL0 : H L = none := sm3.free nL
          have hSL : S ≠ L := ne_of_none hS3 nL
          have hEL : E ≠ L := ne_of_none hE3 nL
          refine ⟨_, rfl, E, rfl, ⟨_, .inl (.inl (same_upd nL _ _ hE3))⟩, for_it walk_list (fun i σ H' => ∃ s' l' z4 z6, ((edge.take i).flatMap (nx f)).foldl (visit yes) (seen, []) = (s', l') ∧ σ = [some (.str (mk f)), some (.ref E), some (.int ((k + 1 : Nat) : Int)), some (.ref S), z4, some (.ref L), z6] ∧
            Same H H' ∧ H' S = some (.dK (encI s')) ∧ H' E = some (.lst (edge.map fun p : Nat => V.int (p : Nat))) ∧ H' L = some (.lst (l'.map fun p : Nat => V.int (p : Nat))))
            ⟨seen, [], _, _, rfl, rfl, same_frz sm3 nL0, same_upd nL _ _ hS3, same_upd nL _ _ hE3, upd_same⟩ (fun i σ H' _ ⟨_, _, _, _, _, _, _, _, z, _⟩ => .inl (.inl z)) (fun i x σ H4 H5 hi hpv hy => ?_) fun σ H4 hpv => ?_⟩
          · obtain ⟨s1, l1, z4, z6, hfo, rfl, sm4, hS4, hE4, hL4⟩ := hpv
            obtain ⟨rfl, hx⟩ := hy
            obtain ⟨p, hp, rfl⟩ := eget hx
            have hpm : p ∈ edge := List.mem_of_getElem? hp
            have hpl := eall p hpm
            have htake : ((edge.take (i + 1)).flatMap (nx f)).foldl (visit yes) (seen, []) = (nx f p).foldl (visit yes) (s1, l1) := by
              rw [List.take_add_one, hp, List.flatMap_append, List.foldl_append, hfo]
              simp
            have hLm : ∀ j, ∀ o ∈ (edge.take i).flatMap (nx f) ++ (nx f p).take j, o.2 < f.length := fun j o ho => by
              rcases List.mem_append.mp ho with ho | ho
              · obtain ⟨r, _, hr⟩ := List.mem_flatMap.mp ho
                exact (nx_mem.mp (show (o.1, o.2) ∈ nx f r from hr)).le
              · exact (nx_mem.mp (show (o.1, o.2) ∈ nx f p from List.mem_of_mem_take ho)).le
            refine ⟨_, rfl, _, rfl, f, p, rfl, hf, hpl, fun H6 d sm6 nd hd => ⟨d, _, rfl, hd, trivial, fun od => ?_⟩⟩
            have sm7 : Same H5 (upd H6 d (.frz od (.dK (encS (nx f p))))) := same_frz sm6 nd
            have hd7 : (upd H6 d (.frz od (.dK (encS (nx f p))))) d = some (.frz od (.dK (encS (nx f p)))) := upd_same
            generalize upd H6 d (.frz od (.dK (encS (nx f p)))) = H7 at sm7 hd7 ⊢
            refine ⟨d, od, _, rfl, hd7, for_it walk_values (fun j σ H' => ∃ s' l' z6, ((nx f p).take j).foldl (visit yes) (s1, l1) = (s', l') ∧ σ = [some (.str (mk f)), some (.ref E), some (.int ((k + 1 : Nat) : Int)), some (.ref S), some (.int (p : Nat)), some (.ref L), z6] ∧
              Same H H' ∧ H' d = some (.frz od (.dK (encS (nx f p)))) ∧ H' S = some (.dK (encI s')) ∧ H' E = some (.lst (edge.map fun p : Nat => V.int (p : Nat))) ∧ H' L = some (.lst (l'.map fun p : Nat => V.int (p : Nat))))
              ⟨s1, l1, _, rfl, rfl, sm4.trans sm7, hd7, sm7 _ _ hS4, sm7 _ _ hE4, sm7 _ _ hL4⟩ (fun j σ H' _ ⟨_, _, _, _, _, _, z, _⟩ => z) (fun j x σ H8 H9 hj hpv hy => ?_) fun σ H8 hpv => ?_⟩
            · obtain ⟨s2, l2, w6, hfo2, rfl, sm8, hd8, hS8, hE8, hL8⟩ := hpv
              obtain ⟨rfl, o, qn, hoq, rfl⟩ := values_at hj hy
              have htk : ((nx f p).take (j + 1)).foldl (visit yes) (s1, l1) = visit yes (s2, l2) (o, qn) := by
                rw [List.take_add_one, hoq, List.foldl_append, hfo2]
                rfl
              have hsm := vis_small (k := 0) (L := (edge.take i).flatMap (nx f) ++ (nx f p).take j) hlt.1 sl.nd (Nat.le_refl _) (hLm j) (by rw [List.foldl_append, hfo, hfo2])
              refine ⟨_, rfl, _, rfl, S, _, rfl, DGet.k (k := Sum.inl ((qn : Nat) : Int)) hS8, _, rfl, ?_⟩
              rw [encI_get]
              by_cases hq : qn ∈ s2
              · rw [decide_eq_true hq]
                refine iteF ⟨s2, l2, _, ?_, rfl, sm8, hd8, hS8, hE8, hL8⟩
                rw [htk]
                unfold visit
                rw [if_neg]
                rintro ⟨_, z⟩
                exact z hq
              · rw [decide_eq_false hq]
                have hs' : visit yes (s2, l2) (o, qn) = (s2 ++ [qn], l2 ++ [qn]) := by
                  unfold visit
                  exact if_pos ⟨rfl, hq⟩
                have hSd : S ≠ d := fun e => by
                  rw [e, hd8] at hS8
                  cases hS8
                have hLd : L ≠ d := fun e => by
                  rw [e, hd8] at hL8
                  cases hL8
                refine iteT ⟨_, rfl, _, rfl, S, _, rfl, DPut.k (k := Sum.inl ((qn : Nat) : Int)) hS8 (by rw [encI_len]; exact small24 (by omega)), ?_⟩
                rw [encI_put hq]
                have sm9 : Same H (upd H9 S (.dK (encI (s2 ++ [qn])))) := same_frz sm8 nS0
                have hd9 : (upd H9 S (.dK (encI (s2 ++ [qn])))) d = some (.frz od (.dK (encS (nx f p)))) := by rw [upd_ne hSd.symm]; exact hd8
                have hE9 : (upd H9 S (.dK (encI (s2 ++ [qn])))) E = some (.lst (edge.map fun p : Nat => V.int (p : Nat))) := by rw [upd_ne hES]; exact hE8
                have hL9 : (upd H9 S (.dK (encI (s2 ++ [qn])))) L = some (.lst (l2.map fun p : Nat => V.int (p : Nat))) := by rw [upd_ne hSL.symm]; exact hL8
                have hS9 : (upd H9 S (.dK (encI (s2 ++ [qn])))) S = some (.dK (encI (s2 ++ [qn]))) := upd_same
                generalize upd H9 S (.dK (encI (s2 ++ [qn]))) = HA at sm9 hd9 hE9 hL9 hS9 ⊢
                refine ⟨_, rfl, .inl ⟨rfl, _, .inl (.inl hL9)⟩, _, rfl, L, _, _, rfl, rfl, hL9, by rw [List.length_map]; exact small24 (by omega), ?_⟩
                rw [ints_snoc]
                refine ⟨s2 ++ [qn], l2 ++ [qn], _, by rw [htk, hs'], rfl, same_frz sm9 nL0, ?_, ?_, ?_, upd_same⟩
                · rw [upd_ne hLd.symm]; exact hd9
                · rw [upd_ne hSL]; exact hS9
                · rw [upd_ne hEL]; exact hE9
            · obtain ⟨s2, l2, w6, hfo2, rfl, sm8, hd8, hS8, hE8, hL8⟩ := hpv
              rw [encS_len, List.take_length] at hfo2
              exact ⟨s2, l2, _, _, by rw [htake, hfo2], rfl, sm8, hS8, hE8, hL8⟩
          · obtain ⟨s1, l1, z4, z6, hfo, rfl, sm4, hS4, hE4, hL4⟩ := hpv
            rw [List.length_map, List.take_length] at hfo
            have sl' := sl.next hall hfo
            refine ⟨_, rfl, _, rfl, _, _, rfl, rfl, _, _, rfl, ?_⟩
            have hk := sl'.le hf.ne
            exact ⟨f.length - (k + 1), by omega, k + 1, s1, l1, L, _, _, _, rfl, rfl, sl', sm4, hS4, hL4, nL0, hSL.symm⟩
        · have e1 : (edge.map fun p => decide (at_ f p ≠ last f)).all id = false := by
            cases q2 : (edge.map fun p => decide (at_ f p ≠ last f)).all id with
            | false => rfl
            | true =>
              exfalso
              apply hall
              intro p hp ha
              have := (List.all_eq_true.mp q2) _ (List.mem_map.mpr ⟨p, hp, rfl⟩)
              exact (of_decide_eq_true this) ha
          rw [e1]
          have ⟨p, hp, ha⟩ : ∃ p, p ∈ edge ∧ Acc f p := by
            apply Decidable.byContradiction
            intro z
            exact hall fun p hp ha => z ⟨p, hp, ha⟩
          obtain ⟨e2, e3⟩ := sl.end_ hp ha
          exact iteF ⟨_, rfl, q H3 (k + 1) sm3 e2 e3⟩
end
end K07
/-! The plain law, part 3: last_outcomes. -/
namespace K07
def kid (u : Wd) (o : Nat × Nat) : Option (Wd × Nat) := if o.1 ∈ u then none else some (u ++ [o.1], o.2)
def kids (f : Wd) (u : Wd) (p : Nat) : List (Wd × Nat) := (nx f p).filterMap (kid u)
def Node (f u : Wd) (r : Nat) : Prop := ∃ g, u = at_ f 0 :: g ∧ Go f 0 g r
def wt (n : Nat) (l : List (Wd × Nat)) : Nat := (l.map fun e => 2 ^ (n - e.2)).sum
theorem wt_app (n : Nat) (a b : List (Wd × Nat)) : wt n (a ++ b) = wt n a + wt n b := by
  unfold wt
  rw [List.map_append, List.sum_append]
theorem wt_len (n : Nat) : ∀ l : List (Wd × Nat), l.length ≤ wt n l
  | [] => Nat.zero_le _
  | e :: l => by
    have := wt_len n l
    have h : 1 ≤ 2 ^ (n - e.2) := Nat.one_le_two_pow
    unfold wt at this ⊢
    rw [List.map_cons, List.sum_cons, List.length_cons]
    omega
/-- the steps of a place weigh less than the place -/
theorem nx_wt {f : Wd} {p : Nat} : ∀ k, p + k < f.length → ((nxTo f p k).map fun o => 2 ^ (f.length - o.2)).sum + 2 ^ (f.length - (p + k)) ≤ 2 ^ (f.length - p)
  | 0, _ => by simp [nxTo]
  | k + 1, h => by
    have ih := nx_wt (f := f) (p := p) k (by omega)
    have e : 2 ^ (f.length - (p + k)) = 2 ^ (f.length - (p + (k + 1))) + 2 ^ (f.length - (p + (k + 1))) := by
      rw [show f.length - (p + k) = (f.length - (p + (k + 1))) + 1 by omega, Nat.pow_succ]
      omega
    have pos := Nat.two_pow_pos (f.length - (p + (k + 1)))
    unfold nxTo
    split
    · rw [List.map_append, List.sum_append]
      simp only [List.map_cons, List.map_nil, List.sum_cons, List.sum_nil]
      rw [show p + k + 1 = p + (k + 1) by omega]
      omega
    · omega
theorem filt_wt {n : Nat} {u : Wd} : ∀ l : List (Nat × Nat), wt n (l.filterMap (kid u)) ≤ (l.map fun o => 2 ^ (n - o.2)).sum
  | [] => Nat.le_refl _
  | o :: l => by
    have ih := filt_wt (n := n) (u := u) l
    have pos := Nat.two_pow_pos (n - o.2)
    rw [List.map_cons, List.sum_cons]
    by_cases h : o.1 ∈ u
    · rw [List.filterMap_cons_none (show kid u o = none from if_pos h)]
      omega
    · rw [List.filterMap_cons_some (show kid u o = some (u ++ [o.1], o.2) from if_neg h)]
      have : wt n ((u ++ [o.1], o.2) :: l.filterMap (kid u)) = 2 ^ (n - o.2) + wt n (l.filterMap (kid u)) := rfl
      omega
theorem kids_wt {f u : Wd} {p : Nat} (h : p < f.length) : wt f.length (kids f u p) + 1 ≤ 2 ^ (f.length - p) := by
  have h1 := filt_wt (n := f.length) (u := u) (nx f p)
  have h2 := nx_wt (f := f) (p := p) (f.length - 1 - p) (by omega)
  have h3 : 1 ≤ 2 ^ (f.length - (p + (f.length - 1 - p))) := Nat.one_le_two_pow
  unfold kids
  unfold nx at h1 ⊢
  omega
theorem kid_mem {f u : Wd} {p : Nat} {e : Wd × Nat} (h : e ∈ kids f u p) : ∃ c, (c, e.2) ∈ nx f p ∧ c ∉ u ∧ e.1 = u ++ [c] := by
  unfold kids at h
  obtain ⟨o, ho, hk⟩ := List.mem_filterMap.mp h
  unfold kid at hk
  split at hk
  · cases hk
  · next hn =>
    have := Option.some.inj hk
    subst this
    exact ⟨o.1, ho, hn, rfl⟩
structure LO (f : Wd) (edge : List (Wd × Nat)) (done : List Wd) : Prop where
  nodes : ∀ e ∈ edge, Node f e.1 e.2 ∧ e.1.Nodup
  done_ : ∀ w ∈ done, Out f w ∧ w.Nodup
  comp : ∀ w, Out f w → w.Nodup → w ∈ done ∨ ∃ e ∈ edge, e.1 <+: w
  anti : edge.Pairwise fun a b => ¬ a.1 <+: b.1 ∧ ¬ b.1 <+: a.1
  fresh : ∀ e ∈ edge, ∀ d ∈ done, ¬ e.1 <+: d
  nd : done.Nodup
  size : wt f.length edge + done.length ≤ 2 ^ f.length
theorem LO.start (f : Wd) : LO f [([at_ f 0], 0)] [] where
  nodes := fun e he => by
    have : e = ([at_ f 0], 0) := by simpa using he
    subst this
    exact ⟨⟨[], rfl, rfl⟩, by simp⟩
  done_ := fun w hw => by cases hw
  comp := fun w hw _ => by
    obtain ⟨g, q, rfl, _⟩ := hw
    exact .inr ⟨_, List.mem_cons_self .., ⟨g, rfl⟩⟩
  anti := List.pairwise_singleton _ _
  fresh := fun e _ d hd => by cases hd
  nd := List.nodup_nil
  size := by
    unfold wt
    simp
theorem Node.lt {f u : Wd} {r : Nat} (h : Node f u r) (hf : 0 < f.length) : r < f.length := by
  obtain ⟨g, _, hg⟩ := h
  exact hg.lt hf
theorem Node.len {f u : Wd} {r : Nat} (h : Node f u r) (hf : 0 < f.length) : u.length ≤ f.length := by
  have hl := h.lt hf
  obtain ⟨g, rfl, hg⟩ := h
  have := hg.rise
  rw [List.length_cons]
  omega
theorem pre_snoc {u v : Wd} {c : Nat} (h : v <+: u ++ [c]) : v <+: u ∨ v = u ++ [c] := by
  obtain ⟨t, e⟩ := h
  rcases List.eq_nil_or_concat t with rfl | ⟨t', x, rfl⟩
  · right
    simpa using e
  · left
    refine ⟨t', ?_⟩
    have e2 : (v ++ t') ++ [x] = u ++ [c] := by simpa using e
    exact (List.append_inj' e2 rfl).1
theorem LO.next {f u : Wd} {p : Nat} {r : List (Wd × Nat)} {done : List Wd} (h : LO f (r ++ [(u, p)]) done) (hf : 0 < f.length) :
    LO f (r ++ kids f u p) (if Acc f p then done ++ [u] else done) ∧ wt f.length (r ++ kids f u p) < wt f.length (r ++ [(u, p)]) := by
  obtain ⟨nu, hnu⟩ := h.nodes (u, p) (by simp)
  have nu : Node f u p := nu
  have hnu : u.Nodup := hnu
  have hp : p < f.length := nu.lt hf
  have kw := kids_wt (f := f) (u := u) hp
  have w1 : wt f.length (r ++ kids f u p) < wt f.length (r ++ [(u, p)]) := by
    rw [wt_app, wt_app]
    have : wt f.length [(u, p)] = 2 ^ (f.length - p) := by simp [wt]
    omega
  have hsplit := List.pairwise_append.mp h.anti
  have sep : ∀ e ∈ r, ¬ e.1 <+: u ∧ ¬ u <+: e.1 := fun e he => hsplit.2.2 e he (u, p) (by simp)
  have hd' : ∀ d, d ∈ (if Acc f p then done ++ [u] else done) → d ∈ done ∨ (d = u ∧ Acc f p) := fun d hd => by
    split at hd
    · next ha =>
      rcases List.mem_append.mp hd with hd | hd
      · exact .inl hd
      · exact .inr ⟨by simpa using hd, ha⟩
    · exact .inl hd
  have hsub : ∀ d ∈ done, d ∈ (if Acc f p then done ++ [u] else done) := fun d hd => by
    split
    · exact List.mem_append_left _ hd
    · exact hd
  refine ⟨⟨fun e he => ?_, fun w hw => ?_, fun w hw hn => ?_, ?_, fun e he d hd => ?_, ?_, ?_⟩, w1⟩
  · rcases List.mem_append.mp he with he | he
    · exact h.nodes e (List.mem_append_left _ he)
    · obtain ⟨c, k1, k2, k3⟩ := kid_mem he
      rw [k3]
      obtain ⟨g, eu, hg⟩ := nu
      refine ⟨⟨g ++ [c], by rw [eu]; rfl, hg.snoc k1⟩, ?_⟩
      rw [List.nodup_append]
      refine ⟨hnu, by simp, fun a ha b hb => ?_⟩
      have : b = c := by simpa using hb
      rintro rfl
      exact k2 (this ▸ ha)
  · rcases hd' w hw with hw | ⟨rfl, ha⟩
    · exact h.done_ w hw
    · obtain ⟨g, eu, hg⟩ := nu
      exact ⟨⟨g, p, eu, hg, ha⟩, hnu⟩
  · rcases h.comp w hw hn with z | ⟨e, he, hpre⟩
    · exact .inl (hsub w z)
    · rcases List.mem_append.mp he with he | he
      · exact .inr ⟨e, List.mem_append_left _ he, hpre⟩
      · have ee : e = (u, p) := by simpa using he
        subst ee
        obtain ⟨t, et⟩ := hpre
        have et : u ++ t = w := et
        obtain ⟨g, eu, hg⟩ := nu
        obtain ⟨g2, q, ew, hg2, ha⟩ := hw
        have eg : g2 = g ++ t := by
          rw [eu] at et
          have : at_ f 0 :: (g ++ t) = at_ f 0 :: g2 := by rw [← ew, ← et]; rfl
          exact (List.cons.inj this).2.symm
        rw [eg] at hg2
        obtain ⟨r', h1, h2⟩ := go_append.mp hg2
        have := hg.det h1
        subst this
        cases t with
        | nil =>
          have : q = p := h2
          subst this
          left
          have ew2 : w = u := by rw [← et]; simp
          rw [if_pos ha, ew2]
          simp
        | cons c t =>
          obtain ⟨q1, k1, k2⟩ := h2
          have hc : c ∉ u := fun z => by
            rw [← et, List.nodup_append] at hn
            exact hn.2.2 c z c (List.mem_cons_self ..) rfl
          refine .inr ⟨(u ++ [c], q1), List.mem_append_right _ ?_, ⟨t, by rw [← et]; simp⟩⟩
          exact List.mem_filterMap.mpr ⟨(c, q1), k1, if_neg hc⟩
  · rw [List.pairwise_append]
    refine ⟨hsplit.1, ?_, fun a ha b hb => ?_⟩
    · have hk : (nx f p).Pairwise fun a b => a.1 ≠ b.1 := by
        have := nx_keys f p
        rw [List.Nodup, List.pairwise_map] at this
        exact this
      unfold kids
      rw [List.pairwise_filterMap]
      refine hk.imp ?_
      intro a b hab a' ha' b' hb'
      unfold kid at ha' hb'
      split at ha'
      · cases ha'
      · split at hb'
        · cases hb'
        · have e1 := Option.some.inj ha'
          have e2 := Option.some.inj hb'
          subst e1 e2
          have key : ∀ x y : Nat, x ≠ y → ¬ (u ++ [x]) <+: (u ++ [y]) := fun x y hxy hpre => by
            obtain ⟨t, et⟩ := hpre
            have et : u ++ [x] ++ t = u ++ [y] := et
            rw [List.append_assoc] at et
            have := List.append_cancel_left et
            exact hxy (List.cons.inj this).1
          exact ⟨key _ _ hab, key _ _ hab.symm⟩
    · obtain ⟨c, k1, k2, k3⟩ := kid_mem hb
      rw [k3]
      obtain ⟨s1, s2⟩ := sep a ha
      refine ⟨fun z => ?_, fun z => s2 ((List.prefix_append u [c]).trans z)⟩
      rcases pre_snoc z with z | z
      · exact s1 z
      · exact s2 (z ▸ List.prefix_append u [c])
  · rcases List.mem_append.mp he with he' | he'
    · rcases hd' d hd with hd | ⟨rfl, _⟩
      · exact h.fresh e (List.mem_append_left _ he') d hd
      · exact (sep e he').1
    · obtain ⟨c, k1, k2, k3⟩ := kid_mem he'
      rw [k3]
      rcases hd' d hd with hd | ⟨rfl, _⟩
      · exact fun z => h.fresh (u, p) (by simp) d hd ((List.prefix_append u [c]).trans z)
      · intro z
        have := z.length_le
        rw [List.length_append, List.length_singleton] at this
        omega
  · split
    · rw [List.nodup_append]
      refine ⟨h.nd, by simp, fun a ha b hb => ?_⟩
      have : b = u := by simpa using hb
      subst this
      rintro rfl
      exact h.fresh (a, p) (by simp) a ha (List.prefix_refl a)
    · exact h.nd
  · have := h.size
    have hl : (if Acc f p then done ++ [u] else done).length ≤ done.length + 1 := by
      split
      · rw [List.length_append, List.length_singleton]
        exact Nat.le_refl _
      · omega
    omega
theorem LO.end_ {f : Wd} {done : List Wd} (h : LO f [] done) : done.Nodup ∧ ∀ w, w ∈ done ↔ Out f w ∧ w.Nodup := by
  refine ⟨h.nd, fun w => ⟨h.done_ w, fun ⟨h1, h2⟩ => ?_⟩⟩
  rcases h.comp w h1 h2 with z | ⟨e, he, _⟩
  · exact z
  · cases he
end K07
/-! Lists of words: sorted ones, their texts. -/
namespace K07
open PySem PySem.Spec PyProof.Rows L2
theorem mk_app (u v : Wd) : mk u ++ mk v = mk (u ++ v) := by
  show (⟨u.toArray ++ v.toArray⟩ : Str) = ⟨(u ++ v).toArray⟩
  simp
/-- in order, by the alphabet -/
def Ord (l : List Wd) : Prop := l.Pairwise fun a b => ¬ b < a
/-- a list of words, as texts -/
def ws (l : List Wd) : List V := l.map fun u => V.str (mk u)
theorem ws_len (l : List Wd) : (ws l).length = l.length := List.length_map _
theorem ws_eq (l : List Wd) : ws l = (l.map mk).map V.str := by
  unfold ws
  rw [List.map_map]
  rfl
theorem unmk (z : Str) : mk z.cps.toList = z := by
  show (⟨z.cps.toList.toArray⟩ : Str) = z
  simp
theorem ltCps_lt : ∀ {l m : List Nat}, l < m → ltCps l m = true
  | [], [], h => absurd h (List.lt_irrefl _)
  | [], _ :: _, _ => rfl
  | _ :: _, [], h => absurd h (List.not_lt_nil _)
  | a :: r, b :: t, h => by
    rcases List.cons_lt_cons_iff.mp h with h1 | ⟨e, h1⟩
    · show (decide (a < b) || (a == b && ltCps r t)) = true
      rw [decide_eq_true h1]
      rfl
    · subst e
      show (decide (a < a) || (a == a && ltCps r t)) = true
      rw [ltCps_lt h1]
      simp
theorem rising_ord : ∀ {r : List Str} {p : Str}, risingS p r = true → (r.map fun z => z.cps.toList).Pairwise (fun a b => ¬ b < a) ∧ ∀ z ∈ r, ¬ z.cps.toList < p.cps.toList
  | [], p, _ => ⟨List.Pairwise.nil, fun _ h => by cases h⟩
  | x :: r, p, h => by
    have h : (!ltCps x.cps.toList p.cps.toList && risingS x r) = true := h
    rw [Bool.and_eq_true] at h
    obtain ⟨h1, h2⟩ := h
    obtain ⟨k1, k2⟩ := rising_ord h2
    have hx : ¬ x.cps.toList < p.cps.toList := fun z => by
      rw [ltCps_lt z] at h1
      cases h1
    refine ⟨?_, fun z hz => ?_⟩
    · rw [List.map_cons, List.pairwise_cons]
      refine ⟨fun b hb => ?_, k1⟩
      obtain ⟨z, hz, rfl⟩ := List.mem_map.mp hb
      exact k2 z hz
    · rcases List.mem_cons.mp hz with rfl | hz
      · exact hx
      · have a1 : p.cps.toList ≤ x.cps.toList := List.not_lt.mp hx
        have a2 : x.cps.toList ≤ z.cps.toList := List.not_lt.mp (k2 z hz)
        exact List.not_lt.mpr (List.le_trans a1 a2)
theorem sorted_ord {r : List Str} (h : sortedS r = true) : Ord (r.map fun z => z.cps.toList) := by
  cases r with
  | nil => exact List.Pairwise.nil
  | cons x r =>
    obtain ⟨k1, k2⟩ := rising_ord (show risingS x r = true from h)
    unfold Ord
    rw [List.map_cons, List.pairwise_cons]
    refine ⟨fun b hb => ?_, k1⟩
    obtain ⟨z, hz, rfl⟩ := List.mem_map.mp hb
    exact k2 z hz
/-- what sorted gives of a list of words -/
theorem sorted_words {l : List Wd} {ys : List Str} (p : ys.Perm (l.map mk)) (s : sortedS ys = true) : ∃ zs : List Wd, ys.map V.str = ws zs ∧ zs.Perm l ∧ Ord zs := by
  refine ⟨ys.map fun z => z.cps.toList, ?_, ?_, sorted_ord s⟩
  · unfold ws
    rw [List.map_map]
    apply List.map_congr_left
    intro z _
    show V.str z = V.str (mk z.cps.toList)
    rw [unmk]
  · have := p.map fun z : Str => z.cps.toList
    rw [List.map_map] at this
    have e : (l.map ((fun z : Str => z.cps.toList) ∘ mk)) = l := by
      conv => rhs; rw [← List.map_id l]
      apply List.map_congr_left
      intro u _
      rfl
    rwa [e] at this
theorem ord_uniq : ∀ {l m : List Wd}, Ord l → Ord m → l.Perm m → l = m
  | [], m, _, _, p => (List.Perm.eq_nil p.symm).symm
  | x :: l, [], _, _, p => absurd p.length_eq (by simp)
  | x :: l, y :: m, hl, hm, p => by
    have e : x = y := by
      have h1 : ¬ y < x := by
        rcases List.mem_cons.mp (p.mem_iff.mpr (List.mem_cons_self (a := y) (l := m))) with e | h
        · rw [e]
          exact List.lt_irrefl _
        · exact (List.pairwise_cons.mp hl).1 y h
      have h2 : ¬ x < y := by
        rcases List.mem_cons.mp (p.mem_iff.mp (List.mem_cons_self (a := x) (l := l))) with e | h
        · rw [e]
          exact List.lt_irrefl _
        · exact (List.pairwise_cons.mp hm).1 x h
      exact List.le_antisymm (List.not_lt.mp h1) (List.not_lt.mp h2)
    subst e
    rw [ord_uniq (List.pairwise_cons.mp hl).2 (List.pairwise_cons.mp hm).2 p.cons_inv]
/-- two lists in order, each word once, with the same words, are one -/
theorem ord_same {l m : List Wd} (hl : Ord l) (hm : Ord m) (nl : l.Nodup) (nm : m.Nodup) (h : ∀ w, w ∈ l ↔ w ∈ m) : l = m := by
  refine ord_uniq hl hm ?_
  rw [List.perm_iff_count]
  intro a
  rw [nl.count, nm.count]
  by_cases ha : a ∈ l
  · rw [if_pos ha, if_pos ((h a).mp ha)]
  · rw [if_neg ha, if_neg fun z => ha ((h a).mpr z)]
theorem go_letters {f : Wd} : ∀ {g : Wd} {p q : Nat}, Go f p g q → ∀ c ∈ g, c ∈ f
  | [], _, _, _, _, h => by cases h
  | x :: g, p, q, ⟨r, h1, h2⟩, c, h => by
    rcases List.mem_cons.mp h with rfl | h
    · have n := nx_mem.mp h1
      rw [← n.here]
      have hl := n.le
      unfold at_
      rw [List.getD_eq_getElem?_getD, List.getElem?_eq_getElem hl]
      exact List.getElem_mem hl
    · exact go_letters h2 c h
theorem first_mem {f : Wd} (h : 0 < f.length) : at_ f 0 ∈ f := by
  unfold at_
  rw [List.getD_eq_getElem?_getD, List.getElem?_eq_getElem h]
  exact List.getElem_mem h
theorem Node.letters {f u : Wd} {r : Nat} (h : Node f u r) (hf : 0 < f.length) : ∀ c ∈ u, c ∈ f := fun c hc => by
  obtain ⟨g, rfl, hg⟩ := h
  rcases List.mem_cons.mp hc with rfl | hc
  · exact first_mem hf
  · exact go_letters hg c hc
theorem strOk_of {u : Wd} (h : ∀ c ∈ u, c ≤ 104) : PyData.strOk (mk u) = true := by
  unfold PyData.strOk
  rw [Array.all_eq_true]
  intro i hi
  have := h _ (List.getElem_mem (l := u) hi)
  exact decide_eq_true (Nat.lt_of_le_of_lt this (by decide))
theorem Film.top {f : Wd} (h : Film f) {u : Wd} (hu : ∀ c ∈ u, c ∈ f) : ∀ c ∈ u, c ≤ 104 := fun c hc => (h.let_ c (hu c hc)).2
end K07
/-! last_outcomes -/
namespace K07
open PySem PySem.Spec PyProof.Rows L2
/-- a stack of pairs (word, place), each in a tuple of its own -/
structure Stk (H : Hp) (E : Addr) (ts : List (Addr × Wd × Nat)) : Prop where
  lst : H E = some (.lst (ts.map fun t => V.ref t.1))
  tup : ∀ t ∈ ts, H t.1 = some (.tup [.str (mk t.2.1), .int ((t.2.2 : Nat) : Int)])
theorem stk_keep {H H' : Hp} {E : Addr} {ts : List (Addr × Wd × Nat)} (k : Stk H E ts) (h : ∀ b o, H b = some o → H' b = some o) : Stk H' E ts := ⟨h _ _ k.lst, fun t ht => h _ _ (k.tup t ht)⟩
theorem stk_other {H : Hp} {E D : Addr} {ts : List (Addr × Wd × Nat)} {xs : List V} {o : HO} (k : Stk H E ts) (hD : H D = some (.lst xs)) (hne : E ≠ D) : Stk (upd H D o) E ts :=
  ⟨by rw [upd_ne hne]; exact k.lst, fun t ht => by
    have := k.tup t ht
    rw [upd_ne (fun e => by rw [e, hD] at this; cases this)]
    exact this⟩
theorem stk_put {H : Hp} {E : Addr} {ts us : List (Addr × Wd × Nat)} (k : Stk H E ts) (hu : ∀ u ∈ us, u ∈ ts ∨ H u.1 = some (.tup [.str (mk u.2.1), .int ((u.2.2 : Nat) : Int)])) : Stk (upd H E (.lst (us.map fun t => V.ref t.1))) E us :=
  ⟨upd_same, fun t ht => by
    have : H t.1 = some (.tup [.str (mk t.2.1), .int ((t.2.2 : Nat) : Int)]) := (hu t ht).elim (k.tup t) id
    rw [upd_ne (fun e => by rw [e, k.lst] at this; cases this)]
    exact this⟩
/-- the loop over the steps of a place -/
def tKids (K : PySem.W.Frag) : TS := tFor (iItems (tFrz (tCall spNexts [] E0 (tCons (tVar 0) (tCons (tVar 4) tNil)))))
  (gTup K 2 (gCons (gName 5) (gCons (gName 6) gNil)))
  (tIfS (tTest (tOp (fun x y H Q => ∃ (c : Nat) (z : Str), x = V.str ⟨#[c]⟩ ∧ y = V.str z ∧ Q (.bl (!decide (c ∈ z.cps.toList))) H) (tVar 5) (tVar 3)))
    (tDrop (tBM K "list" rAppend (tVar 2) (tCons (tTup (tCons (tOp (fun x y H Q => ∃ i j, x = V.str i ∧ y = V.str j ∧ i.length + j.length ≤ sizeLine ∧ Q (.str (i ++ j)) H) (tVar 3) (tVar 5)) (tCons (tVar 6) tNil))) tNil))) tNext)
theorem kids_run {K : PySem.W.Frag} {H H5 : Hp} {f u : Wd} {p : Nat} {D E : Addr} {r : List (Addr × Wd × Nat)} {dn : List V} {DD : Ends} {y5 y6 : Option V} (hf : Film f) (hpl : p < f.length) (hul : u.length ≤ f.length) (hrl : r.length ≤ 4096) (nE0 : H E = none) (hDE : D ≠ E)
    (sm5 : Same H H5) (hE5 : Stk H5 E r) (hD5 : H5 D = some (.lst dn))
    (hx : ∀ H' ts' z5 z6, Same H H' → Stk H' E ts' → ts'.map (·.2) = r.map (·.2) ++ kids f u p → H' D = some (.lst dn) → DD.nx [some (.str (mk f)), some (.ref D), some (.ref E), some (.str (mk u)), some (.int ((p : Nat) : Int)), z5, z6] H') :
    tKids K DD [some (.str (mk f)), some (.ref D), some (.ref E), some (.str (mk u)), some (.int ((p : Nat) : Int)), y5, y6] H5 := by
  have hfl := hf.le
  refine ⟨_, rfl, _, rfl, f, p, rfl, hf, hpl, fun H6 d sm6 nd hd => ⟨d, _, rfl, hd, trivial, fun od => ?_⟩⟩
  have sm7 : Same H5 (upd H6 d (.frz od (.dK (encS (nx f p))))) := same_frz sm6 nd
  have hd7 : (upd H6 d (.frz od (.dK (encS (nx f p))))) d = some (.frz od (.dK (encS (nx f p)))) := upd_same
  generalize upd H6 d (.frz od (.dK (encS (nx f p)))) = H7 at sm7 hd7 ⊢
  refine ⟨d, od, _, rfl, hd7, for_it walk_items (fun i σ H' => ∃ ts' z5 z6, ts'.map (·.2) = r.map (·.2) ++ ((nx f p).take i).filterMap (kid u) ∧ σ = [some (.str (mk f)), some (.ref D), some (.ref E), some (.str (mk u)), some (.int ((p : Nat) : Int)), z5, z6] ∧ Same H H' ∧
    H' d = some (.frz od (.dK (encS (nx f p)))) ∧ Stk H' E ts' ∧ H' D = some (.lst dn))
    ⟨r, _, _, by simp, rfl, sm5.trans sm7, hd7, stk_keep hE5 sm7, sm7 _ _ hD5⟩ (fun i σ H' _ ⟨_, _, _, _, _, _, z, _⟩ => z) (fun i x σ H8 H9 hi hpv hy => ?_) fun σ H8 hpv => ?_⟩
  · obtain ⟨ts', z5, z6, hts, rfl, sm8, hd8, hE8, hD8⟩ := hpv
    obtain ⟨o, qn, hoq, hoq2⟩ := encS_at hi
    obtain ⟨T, rfl, nT, rfl⟩ := items_at hoq2 hy
    have hk : kV (Sum.inr (mk [o])) = V.str (mk [o]) := rfl
    rw [hk]
    have sT := same_upd (o := .tup [V.str (mk [o]), V.int (qn : Nat)]) nT
    refine ⟨T, _, rfl, .inl (.inl upd_same), rfl, _, _, rfl, _, _, rfl, rfl, ?_⟩
    have sm9 := sm8.trans sT
    have hd9 := sT _ _ hd8
    have hE9 := stk_keep hE8 sT
    have hD9 := sT _ _ hD8
    generalize upd H8 T (.tup [V.str (mk [o]), V.int (qn : Nat)]) = H9 at sm9 hd9 hE9 hD9 ⊢
    refine ⟨_, rfl, _, rfl, o, mk u, rfl, rfl, _, rfl, ?_⟩
    show if (!decide (o ∈ u)) = true then _ else _
    have htake : ((nx f p).take (i + 1)).filterMap (kid u) = ((nx f p).take i).filterMap (kid u) ++ (kid u (o, qn)).toList := by
      rw [List.take_add_one, hoq, List.filterMap_append]
      cases hk : kid u (o, qn) with
      | none => simp [hk]
      | some z => simp [hk]
    by_cases ho : o ∈ u
    · rw [decide_eq_true ho]
      refine iteF ⟨ts', _, _, ?_, rfl, sm9, hd9, hE9, hD9⟩
      rw [htake, show kid u (o, qn) = none from if_pos ho, hts]
      simp
    · rw [decide_eq_false ho]
      have hlen : ts'.length ≤ 4108 := by
        have h1 := congrArg List.length hts
        rw [List.length_map, List.length_append, List.length_map] at h1
        have h2 := List.length_filterMap_le (kid u) ((nx f p).take i)
        rw [List.length_take] at h2
        have h3 := nx_len f p
        omega
      refine iteT ⟨_, rfl, .inl ⟨rfl, _, .inl (.inl hE9.lst)⟩, _, rfl, _, rfl, mk u, mk [o], rfl, rfl, ?_, _, rfl, (by show 2 ≤ sizeLine; decide), fun T2 nT2 => ?_⟩
      · show u.length + 1 ≤ sizeLine
        exact Nat.le_trans (show u.length + 1 ≤ 13 by omega) (by decide)
      · rw [mk_app]
        have sT2 := same_upd (o := .tup [V.str (mk (u ++ [o])), V.int (qn : Nat)]) nT2
        have smA := sm9.trans sT2
        have hdA := sT2 _ _ hd9
        have hEA := stk_keep hE9 sT2
        have hDA := sT2 _ _ hD9
        have hTA : (upd H9 T2 (.tup [V.str (mk (u ++ [o])), V.int (qn : Nat)])) T2 = some (.tup [V.str (mk (u ++ [o])), V.int (qn : Nat)]) := upd_same
        generalize upd H9 T2 (.tup [V.str (mk (u ++ [o])), V.int (qn : Nat)]) = HA at smA hdA hEA hDA hTA ⊢
        refine ⟨E, _, _, rfl, rfl, hEA.lst, by rw [List.length_map]; exact Nat.lt_of_le_of_lt hlen (by decide), ?_⟩
        have hEd : E ≠ d := fun e => by
          have := hEA.lst
          rw [e, hdA] at this
          cases this
        have el : (ts'.map fun t => V.ref t.1) ++ [V.ref T2] = (ts' ++ [(T2, u ++ [o], qn)]).map fun t => V.ref t.1 := by rw [List.map_append]; rfl
        rw [el]
        refine ⟨ts' ++ [(T2, u ++ [o], qn)], _, _, ?_, rfl, same_frz smA nE0, by rw [upd_ne hEd.symm]; exact hdA, stk_put hEA fun t ht => ?_, by rw [upd_ne hDE]; exact hDA⟩
        · rw [htake, show kid u (o, qn) = some (u ++ [o], qn) from if_neg ho, List.map_append, hts]
          simp
        · rcases List.mem_append.mp ht with ht | ht
          · exact .inl ht
          · have : t = (T2, u ++ [o], qn) := by simpa using ht
            subst this
            exact .inr hTA
  · obtain ⟨ts', z5, z6, hts, rfl, sm8, hd8, hE8, hD8⟩ := hpv
    rw [encS_len, List.take_length] at hts
    exact hx H8 ts' _ _ sm8 hE8 hts hD8
def spLO : Sp := fun vs H Q _ => ∃ f : Wd, vs = [.str (mk f)] ∧ Film f ∧ ∀ H' p ys, Same H H' → H p = none → H' p = some (.lst (ws ys)) → Ord ys → ys.Nodup → (∀ w, w ∈ ys ↔ Out f w ∧ w.Nodup) → Q (.ref p) H'
def WLO (H : Hp) (f : Wd) (D E : Addr) (m : Nat) (σ : L2.St) (H' : Hp) : Prop := ∃ (ts : List (Addr × Wd × Nat)) (done : List Wd) (y3 y4 y5 y6 : Option V), σ = [some (.str (mk f)), some (.ref D), some (.ref E), y3, y4, y5, y6] ∧
  m = wt f.length (ts.map (·.2)) ∧ LO f (ts.map (·.2)) done ∧ Same H H' ∧ H' D = some (.lst (ws done)) ∧ Stk H' E ts
section
variable {P : Program} {w : World} {K : PySem.W.Frag} {mg : Str → Option Value} {base : Heap}
theorem ok_lo {f fN fF : Addr} {fd fdN fdF : FuncData} (F : Fun K "last_outcomes" "last_outcomes" sLO f fd) (Nm : Names mg) (N : Cl P w K mg base 1 "nexts" ["film", "place"] spNexts fN fdN) (D : Cl P w K mg base 1 "need_film" ["value"] spNeed fF fdF) : FnOk P w K mg base CX0 2 f fd ["film"] spLO := by
  refine F.ok scLO (fun vs H Q E h => ?_) (fun cdv A outer s H vs Q E hr h => ?_)
  · obtain ⟨f, rfl, _⟩ := h
    rfl
  · obtain ⟨f, rfl, hf, q⟩ := h
    have hu := hu_of hr
    have hfl := hf.le
    have h0 : 0 < f.length := hf.pos
    have hz : (mk f).length ≤ sizeLine := hf.small (Nat.le_trans hf.le (by decide))
    refine ⟨_, pss_cons (ps_expr (pe_call D.ok hr (by rfl) D.g D.kp D.b .nil pass0 (pa_cons (pv 0) pa_nil)))
      (pss_cons (ps_par (i := 1) (j := 2) rfl scLO.nd rfl rfl (by decide) rfl rfl (pa_cons (pe_lst pa_nil) (pa_cons (pe_lst (pa_cons (pe_tup (pa_cons (pe_ix ix_str (pv 0) pe_int (fun _ _ => rfl)) (pa_cons pe_int pa_nil))) pa_nil)) pa_nil)) (by rfl))
      (pss_cons (ps_while PassesOwn.never (pt_cmpR (op_neD hr.units) (pv 2) (pe_lst pa_nil) (nomark _))
        (pss_cons (ps_asg (pe_bm0 PySem.F.plainAttrs_list PySem.F.slot_list_pop PySem.F.type_list_pop mt_pop (pv 2)) (pg_tup rfl (pgs_cons (pg_name (i := 3) scLO.nd rfl (.inl rfl)) (pgs_cons (pg_name (i := 4) scLO.nd rfl (.inl rfl)) pgs_nil))))
        (pss_cons (ps_if (pt_cmpR op_eq (pe_ix ix_str (pv 0) (pv 4) (fun _ _ => rfl)) (pe_ix ix_str (pv 0) (pe_un un_neg pe_int) (fun _ _ => rfl)) (nomark _))
          (pss_one (ps_expr (pe_bm PySem.F.plainAttrs_list PySem.F.slot_list_append PySem.F.type_list_append mt_append (pv 1) (pa_cons (pv 3) pa_nil)))) pss_nil)
        (pss_one (ps_for PassesOwn.never rfl (pi_items (pe_frz (pe_call N.ok hr (by rfl) N.g N.kp N.b .nil pass0 (pa_cons (pv 0) (pa_cons (pv 4) pa_nil)))))
            (pg_tup rfl (pgs_cons (pg_name (i := 5) scLO.nd rfl (.inl rfl)) (pgs_cons (pg_name (i := 6) scLO.nd rfl (.inl rfl)) pgs_nil)))
          (pss_one (ps_if (pt_cmpR op_notIn_sign (pv 5) (pv 3) rfl)
            (pss_one (ps_expr (pe_bm PySem.F.plainAttrs_list PySem.F.slot_list_append PySem.F.type_list_append mt_append (pv 2) (pa_cons (pe_tup (pa_cons (pe_op op_add_str (pv 3) (pv 5)) (pa_cons (pv 6) pa_nil))) pa_nil))))
            pss_nil)))))))
      (pss_one (ps_ret (pe_callB cr_sortedSA (by rfl) Nm.sorted (by decide +kernel) (pa_cons (pv 1) pa_nil)))))), ?_⟩
    refine ⟨_, rfl, f, rfl, hf, fun H1 sm1 => ?_⟩
    refine ⟨Nat.zero_le _, fun D nD => ?_⟩
    refine ⟨_, rfl, mk f, _, _, rfl, rfl, hz, ixF (p := 0) rfl h0, (by show 2 ≤ sizeLine; decide), fun T nT => ⟨(by show 1 ≤ sizeLine; decide), fun E nE => ⟨_, _, rfl, ?_⟩⟩⟩
    have nD0 : H D = none := sm1.free nD
    have s2 : Same H (upd H1 D (.lst [])) := same_frz sm1 nD0
    have nT0 : H T = none := s2.free nT
    have s3 := same_frz (o := .tup [V.str (mk [at_ f 0]), V.int 0]) s2 nT0
    have nE0 : H E = none := s3.free nE
    have s4 := same_frz (o := .lst [V.ref T]) s3 nE0
    have hDT : D ≠ T := fun e => by
      rw [← e, upd_same] at nT
      cases nT
    have hDE : D ≠ E := fun e => by
      rw [← e, upd_ne hDT, upd_same] at nE
      cases nE
    have hTE : T ≠ E := fun e => by
      rw [← e, upd_same] at nE
      cases nE
    refine ⟨WLO H f D E, ⟨wt f.length ([(T, [at_ f 0], 0)].map (·.2)), [(T, [at_ f 0], 0)], [], none, none, none, none, rfl, rfl, LO.start f, s4, ?_, upd_same, fun t ht => ?_⟩, fun m σ H2 hW => ?_⟩
    · rw [upd_ne hDE, upd_ne hDT, upd_same]
      rfl
    · have : t = (T, [at_ f 0], 0) := by simpa using ht
      subst this
      rw [upd_ne hTE, upd_same]
      rfl
    · obtain ⟨ts, done, y3, y4, y5, y6, rfl, hm, lo, sm, hD, hE⟩ := hW
      have wlet : ∀ t ∈ ts, ∀ c ∈ t.2.1, c ∈ f := fun t ht => (lo.nodes t.2 (List.mem_map.mpr ⟨t, ht, rfl⟩)).1.letters h0
      have hpow : (2 : Nat) ^ f.length ≤ 4096 := Nat.le_trans (Nat.pow_le_pow_right (by decide) hfl) (by decide)
      have hsz := lo.size
      have htl : ts.length ≤ 4096 := by
        have := wt_len f.length (ts.map (·.2))
        rw [List.length_map] at this
        omega
      have hdl : done.length ≤ 4096 := by omega
      have s8k : ∀ n : Nat, n ≤ 8200 → n < sizeLine := fun n h => Nat.lt_of_le_of_lt h (by decide)
      refine ⟨_, rfl, Nat.zero_le _, fun p np => ne_nil (d := fun t => .tuple [.str (mk t.2.1), .int ((t.2.2 : Nat) : Int)]) (same_upd np _ _ hE.lst) upd_same
        (fun t ht => .tup (.inl (.inl (same_upd np _ _ (hE.tup t ht)))) (.cons (.str _) (.cons (.int _) .nil))) (fun t ht => ⟨?_, by show 1 ≤ 60; decide⟩) ⟨_, rfl, ?_⟩⟩
      · show (PyData.strOk (mk t.2.1) && (true && true)) = true
        rw [strOk_of (hf.top (wlet t ht))]
        rfl
      · have sm1 := sm.trans (same_upd (o := .lst []) np)
        have hD1 := same_upd (o := .lst []) np _ _ hD
        have hE1 := stk_keep hE (same_upd (o := .lst []) np)
        generalize upd H2 p (.lst []) = H3 at sm1 hD1 hE1 ⊢
        cases he : ts.isEmpty with
        | true =>
          have e0 : ts = [] := List.isEmpty_iff.mp he
          subst e0
          obtain ⟨k1, k2⟩ := LO.end_ lo
          refine iteF ⟨_, rfl, D, done.map mk, rfl, .inl (.inl (by rw [← ws_eq]; exact hD1)), fun ys p pm so np => ?_⟩
          obtain ⟨zs, e1, e2, e3⟩ := sorted_words pm so
          rw [e1]
          exact q _ p zs (sm1.trans (same_upd np)) (sm1.free np) upd_same e3 (e2.nodup_iff.mpr k1) (fun w => (e2.mem_iff).trans (k2 w))
        | false =>
          obtain ⟨r, ⟨T, u, p⟩, rfl⟩ := snoc_of (l := ts) (by rw [he]; rfl)
          refine iteT ⟨fun σ' H' => ∃ m', m' < m ∧ WLO H f D E m' σ' H', fun _ _ z => z, ?_⟩
          have eml : (r ++ [(T, u, p)]).map (·.2) = r.map (·.2) ++ [(u, p)] := by simp
          rw [eml] at hm lo
          obtain ⟨lo', lt'⟩ := lo.next h0
          have nu : Node f u p := (lo.nodes (u, p) (by simp)).1
          have hpl := nu.lt h0
          have hul := nu.len h0
          have htup := hE1.tup (T, u, p) (by simp)
          have hDE : D ≠ E := fun e => by
            -- a list of words and a stack are two lists: they were made apart
            exact hDE e
          refine ⟨_, rfl, .inl ⟨rfl, _, .inl (.inl hE1.lst)⟩, E, _, .ref T, rfl, rfl, hE1.lst, by simp, ?_⟩
          have ed : ((r ++ [(T, u, p)]).map fun t => V.ref t.1).dropLast = r.map fun t => V.ref t.1 := by simp
          rw [ed]
          have sm2 : Same H (upd H3 E (.lst (r.map fun t => V.ref t.1))) := same_frz sm1 nE0
          have hE2 : Stk (upd H3 E (.lst (r.map fun t => V.ref t.1))) E r := stk_put hE1 fun t ht => .inl (List.mem_append_left _ ht)
          have hD2 : (upd H3 E (.lst (r.map fun t => V.ref t.1))) D = some (.lst (ws done)) := by rw [upd_ne hDE]; exact hD1
          have hT2 : (upd H3 E (.lst (r.map fun t => V.ref t.1))) T = some (.tup [.str (mk u), .int ((p : Nat) : Int)]) := by
            rw [upd_ne (fun e => by rw [e, hE1.lst] at htup; cases htup)]
            exact htup
          generalize upd H3 E (.lst (r.map fun t => V.ref t.1)) = H4 at sm2 hE2 hD2 hT2 ⊢
          refine ⟨T, _, rfl, .inl (.inl hT2), rfl, _, _, rfl, _, _, rfl, rfl, ?_⟩
          refine ⟨_, rfl, _, rfl, mk f, _, _, rfl, rfl, hz, ixF (p := p) rfl hpl, _, rfl, _, rfl, mk f, _, _, rfl, rfl, hz, ixLast h0, rfl, _, rfl, ?_⟩
          show if decide (V.str (mk [at_ f p]) = V.str (mk [last f])) = true then _ else _
          rw [dec1]
          have rest : ∀ (DD : Ends) (H5 : Hp), (∀ σ' H', (∃ m', m' < m ∧ WLO H f D E m' σ' H') → DD.nx σ' H') → Same H H5 → Stk H5 E r → H5 D = some (.lst (ws (if Acc f p then done ++ [u] else done))) →
              tKids K DD [some (.str (mk f)), some (.ref D), some (.ref E), some (.str (mk u)), some (.int ((p : Nat) : Int)), y5, y6] H5 := by
            intro DD H5 hx sm5 hE5 hD5
            refine kids_run hf hpl hul (by rw [List.length_append] at htl; omega) nE0 hDE sm5 hE5 hD5 fun H' ts' z5 z6 sm' hE' hts hD' => hx _ _ ?_
            refine ⟨_, ?_, ts', _, _, _, _, _, rfl, rfl, ?_, sm', hD', hE'⟩
            · rw [hts, hm]
              exact lt'
            · rw [hts]
              exact lo'
          by_cases ha : at_ f p = last f
          · rw [decide_eq_true ha]
            refine iteT ⟨_, rfl, .inl ⟨rfl, _, .inl (.inl hD2)⟩, _, rfl, D, _, _, rfl, rfl, hD2, by rw [ws_len]; exact s8k _ (by omega), ?_⟩
            refine rest _ _ (fun _ _ z => z) (same_frz sm2 nD0) (stk_other hE2 hD2 hDE.symm) ?_
            rw [upd_same, if_pos (show Acc f p from ha)]
            unfold ws
            rw [List.map_append]
            rfl
          · rw [decide_eq_false ha]
            refine iteF (rest _ _ (fun _ _ z => z) sm2 hE2 ?_)
            rw [if_neg (show ¬ Acc f p from ha)]
            exact hD2
end
end K07
/-! The plain law, part 4: all outcomes by all cuts. -/
namespace K07
def subs : Wd → List Wd
  | [] => [[]]
  | a :: l => subs l ++ (subs l).map (a :: ·)
theorem subs_len : ∀ l : Wd, (subs l).length = 2 ^ l.length
  | [] => rfl
  | a :: l => by
    unfold subs
    rw [List.length_append, List.length_map, subs_len l, List.length_cons, Nat.pow_succ]
    omega
theorem subs_mem {v w : Wd} (h : List.Sublist v w) : v ∈ subs w := by
  induction h with
  | slnil => exact List.mem_cons_self ..
  | cons a _ ih => exact List.mem_append_left _ ih
  | cons_cons a _ ih => exact List.mem_append_right _ (List.mem_map.mpr ⟨_, ih, rfl⟩)
def visitW (st : List Wd × List Wd) (v : Wd) : List Wd × List Wd := if v ∈ st.1 then st else (st.1 ++ [v], st.2 ++ [v])
theorem visitW_all : ∀ (l s e : List Wd), ∃ new : List Wd, l.foldl visitW (s, e) = (s ++ new, e ++ new) ∧ (∀ q ∈ new, q ∉ s ∧ q ∈ l) ∧ (s.Nodup → (s ++ new).Nodup) ∧ ∀ o ∈ l, o ∈ s ++ new
  | [], s, e => ⟨[], by simp, by simp, by simp, by simp⟩
  | o :: l, s, e => by
    rw [List.foldl_cons]
    by_cases h : o ∈ s
    · have ev : visitW (s, e) o = (s, e) := if_pos h
      rw [ev]
      obtain ⟨new, h1, h2, h3, h4⟩ := visitW_all l s e
      refine ⟨new, h1, fun q hq => ⟨(h2 q hq).1, List.mem_cons_of_mem _ (h2 q hq).2⟩, h3, fun o' ho' => ?_⟩
      rcases List.mem_cons.mp ho' with rfl | ho'
      · exact List.mem_append_left _ h
      · exact h4 o' ho'
    · have ev : visitW (s, e) o = (s ++ [o], e ++ [o]) := if_neg h
      rw [ev]
      obtain ⟨new, h1, h2, h3, h4⟩ := visitW_all l (s ++ [o]) (e ++ [o])
      refine ⟨o :: new, by rw [h1]; simp, fun q hq => ?_, fun hn => ?_, fun o' ho' => ?_⟩
      · rcases List.mem_cons.mp hq with rfl | hq
        · exact ⟨h, List.mem_cons_self ..⟩
        · obtain ⟨k1, k2⟩ := h2 q hq
          exact ⟨fun z => k1 (List.mem_append_left _ z), List.mem_cons_of_mem _ k2⟩
      · have : (s ++ [o]).Nodup := by
          rw [List.nodup_append]
          refine ⟨hn, by simp, fun a ha b hb => ?_⟩
          have : b = o := by simpa using hb
          rintro rfl
          exact h (this ▸ ha)
        have := h3 this
        rwa [List.append_assoc] at this
      · have e1 : s ++ (o :: new) = (s ++ [o]) ++ new := by simp
        rw [e1]
        rcases List.mem_cons.mp ho' with rfl | ho'
        · exact List.mem_append_left _ (List.mem_append_right _ (List.mem_cons_self ..))
        · exact h4 o' ho'
structure LA (f : Wd) (found edge : List Wd) : Prop where
  nd : found.Nodup
  way : ∀ v ∈ found, Reach f v
  sub : ∀ v ∈ edge, v ∈ found
  self : f ∈ found
  done : ∀ v ∈ found, v ∈ edge ∨ ∀ u, Cut v u → u ∈ found
  size : edge.length ≤ found.length
theorem LA.start (f : Wd) : LA f [f] [f] where
  nd := by simp
  way := fun v hv => by
    have : v = f := by simpa using hv
    subst this
    exact .refl _
  sub := fun _ h => h
  self := by simp
  done := fun _ h => .inl h
  size := Nat.le_refl _
theorem LA.len {f : Wd} {s e : List Wd} (h : LA f s e) : s.length ≤ 2 ^ f.length := by
  rw [← subs_len]
  exact nodup_le h.nd fun v hv => subs_mem (h.way v hv).sub
theorem LA.next {f u : Wd} {s e l s' e' : List Wd} (h : LA f s (e ++ [u])) (hl : ∀ v, v ∈ l ↔ Cut u v) (hv : l.foldl visitW (s, e) = (s', e')) :
    LA f s' e' ∧ 2 * (2 ^ f.length - s'.length) + e'.length < 2 * (2 ^ f.length - s.length) + (e ++ [u]).length := by
  obtain ⟨new, h1, h2, h3, h4⟩ := visitW_all l s e
  rw [h1] at hv
  obtain ⟨rfl, rfl⟩ := Prod.mk.inj hv
  have hu : u ∈ s := h.sub u (by simp)
  have hsz := h.size
  rw [List.length_append, List.length_singleton] at hsz
  have hc : LA f (s ++ new) (e ++ new) := by
    refine ⟨h3 h.nd, fun v hv => ?_, fun v hv => ?_, List.mem_append_left _ h.self, fun v hv => ?_, ?_⟩
    · rcases List.mem_append.mp hv with hv | hv
      · exact h.way v hv
      · exact (h.way u hu).trans (.step ((hl v).mp (h2 v hv).2) (.refl _))
    · rcases List.mem_append.mp hv with hv | hv
      · exact List.mem_append_left _ (h.sub v (List.mem_append_left _ hv))
      · exact List.mem_append_right _ hv
    · rcases List.mem_append.mp hv with hv | hv
      · rcases h.done v hv with z | z
        · rcases List.mem_append.mp z with z | z
          · exact .inl (List.mem_append_left _ z)
          · have : v = u := by simpa using z
            subst this
            exact .inr fun x hx => h4 x ((hl x).mpr hx)
        · exact .inr fun x hx => List.mem_append_left _ (z x hx)
      · exact .inl (List.mem_append_right _ hv)
    · rw [List.length_append, List.length_append]
      omega
  refine ⟨hc, ?_⟩
  have hl := hc.len
  rw [List.length_append] at hl ⊢
  rw [List.length_append, List.length_append, List.length_singleton]
  omega
theorem LA.end_ {f : Wd} {s : List Wd} (h : LA f s []) : ∀ v, v ∈ s ↔ Reach f v := fun v => by
  refine ⟨h.way v, fun r => ?_⟩
  have key : ∀ {a b : Wd}, Reach a b → a ∈ s → b ∈ s := by
    intro a b r
    induction r with
    | refl _ => exact id
    | step c _ ih =>
      intro ha
      rcases h.done _ ha with z | z
      · cases z
      · exact ih (z _ c)
  exact key r h.self
/-- cuts as far as the turns i, j of the two loops have come -/
def CutB (u : Wd) (i j : Nat) (v : Wd) : Prop := ∃ a b, a < b ∧ b < u.length ∧ (a < i ∨ (a = i ∧ b < j)) ∧ at_ u a = at_ u b ∧ v = u.take (a + 1) ++ u.drop (b + 1)
theorem at_some {u : Wd} {a : Nat} (h : a < u.length) : u[a]? = some (at_ u a) := by
  unfold at_
  rw [List.getD_eq_getElem?_getD, List.getElem?_eq_getElem h]
  rfl
theorem cutB_all {u v : Wd} : CutB u u.length 0 v ↔ Cut u v := by
  constructor
  · rintro ⟨a, b, h1, h2, _, h4, rfl⟩
    exact cut_at h1 h2 (by rw [at_some (by omega), at_some h2, h4])
  · intro c
    obtain ⟨a, b, h1, h2, h3, rfl⟩ := cut_places c
    rw [at_some (by omega), at_some h2] at h3
    exact ⟨a, b, h1, h2, .inl (by omega), Option.some.inj h3, rfl⟩
theorem cutB_zero {u v : Wd} : ¬ CutB u 0 0 v := by
  rintro ⟨a, b, h1, _, h3, _⟩
  omega
theorem cutB_row {u v : Wd} {i : Nat} : CutB u i (i + 1) v ↔ CutB u i 0 v := by
  constructor
  · rintro ⟨a, b, h1, h2, h3, h4⟩
    exact ⟨a, b, h1, h2, by omega, h4⟩
  · rintro ⟨a, b, h1, h2, h3, h4⟩
    exact ⟨a, b, h1, h2, by omega, h4⟩
theorem cutB_end {u v : Wd} {i j : Nat} (hj : u.length ≤ j) : CutB u i j v ↔ CutB u (i + 1) 0 v := by
  constructor
  · rintro ⟨a, b, h1, h2, h3, h4⟩
    exact ⟨a, b, h1, h2, by omega, h4⟩
  · rintro ⟨a, b, h1, h2, h3, h4⟩
    exact ⟨a, b, h1, h2, by omega, h4⟩
theorem cutB_yes {u v : Wd} {i j : Nat} (h1 : i < j) (h2 : j < u.length) (h3 : at_ u i = at_ u j) : CutB u i (j + 1) v ↔ CutB u i j v ∨ v = u.take (i + 1) ++ u.drop (j + 1) := by
  constructor
  · rintro ⟨a, b, k1, k2, k3, k4, k5⟩
    by_cases e : a = i ∧ b = j
    · obtain ⟨rfl, rfl⟩ := e
      exact .inr k5
    · exact .inl ⟨a, b, k1, k2, by omega, k4, k5⟩
  · rintro (⟨a, b, k1, k2, k3, k4, k5⟩ | rfl)
    · exact ⟨a, b, k1, k2, by omega, k4, k5⟩
    · exact ⟨i, j, h1, h2, by omega, h3, rfl⟩
theorem cutB_no {u v : Wd} {i j : Nat} (h3 : at_ u i ≠ at_ u j) : CutB u i (j + 1) v ↔ CutB u i j v := by
  constructor
  · rintro ⟨a, b, k1, k2, k3, k4, k5⟩
    by_cases e : a = i ∧ b = j
    · obtain ⟨rfl, rfl⟩ := e
      exact absurd k4 h3
    · exact ⟨a, b, k1, k2, by omega, k4, k5⟩
  · rintro ⟨a, b, k1, k2, k3, k4, k5⟩
    exact ⟨a, b, k1, k2, by omega, k4, k5⟩
def ins (l : List Wd) (v : Wd) : List Wd := if v ∈ l then l else l ++ [v]
theorem ins_mem {l : List Wd} {v x : Wd} : x ∈ ins l v ↔ x ∈ l ∨ x = v := by
  unfold ins
  split
  · next h =>
    constructor
    · exact .inl
    · rintro (h' | rfl)
      · exact h'
      · exact h
  · rw [List.mem_append, List.mem_singleton]
theorem ins_nd {l : List Wd} {v : Wd} (h : l.Nodup) : (ins l v).Nodup := by
  unfold ins
  split
  · exact h
  · next hn =>
    rw [List.nodup_append]
    refine ⟨h, by simp, fun a ha b hb => ?_⟩
    have : b = v := by simpa using hb
    rintro rfl
    exact hn (this ▸ ha)
theorem ins_len (l : List Wd) (v : Wd) : (ins l v).length ≤ l.length + 1 := by
  unfold ins
  split
  · omega
  · rw [List.length_append, List.length_singleton]
    exact Nat.le_refl _
end K07
/-! _law_next, _law_all -/
namespace K07
open PySem PySem.Spec PyProof.Rows L2
/-- a set of words, kept as a dict -/
def encW (l : List Wd) : List (Key × V) := l.map fun v => (Sum.inr (mk v), V.bl true)
theorem encW_key {l : List Wd} {v : Wd} : (Sum.inr (mk v) : Key) ∈ (encW l).map (·.1) ↔ v ∈ l := by
  unfold encW
  simp only [List.map_map, List.mem_map, Function.comp]
  constructor
  · rintro ⟨a, ha, e⟩
    rw [← mk_inj (Sum.inr.inj e)]
    exact ha
  · intro h
    exact ⟨v, h, rfl⟩
theorem encW_len (l : List Wd) : (encW l).length = l.length := List.length_map _
theorem encW_get {l : List Wd} {v : Wd} : (valV (encW l) (Sum.inr (mk v))).isSome = decide (v ∈ l) := by
  have key := valV_none (kvs := encW l) (k := Sum.inr (mk v))
  rw [encW_key] at key
  cases ev : valV (encW l) (Sum.inr (mk v)) with
  | none => exact (decide_eq_false (key.mp ev)).symm
  | some x =>
    refine (decide_eq_true ?_).symm
    apply Decidable.byContradiction
    intro z
    rw [key.mpr z] at ev
    cases ev
theorem encW_put (l : List Wd) (v : Wd) : putK (encW l) (Sum.inr (mk v)) (V.bl true) = encW (ins l v) := by
  by_cases h : v ∈ l
  · have hi : ins l v = l := if_pos h
    rw [hi]
    unfold putK
    have ha : ((encW l).any fun kv => decide (kv.1 = Sum.inr (mk v))) = true := by
      rw [valV_any, encW_get, decide_eq_true h]
    rw [if_pos ha]
    unfold encW
    rw [List.map_map]
    apply List.map_congr_left
    intro a _
    simp only [Function.comp]
    split <;> rfl
  · have hi : ins l v = l ++ [v] := if_neg h
    have key := valV_none (kvs := encW l) (k := Sum.inr (mk v))
    rw [encW_key] at key
    rw [putK_new _ (key.mpr h), hi]
    unfold encW
    rw [List.map_append]
    rfl
theorem encW_keys (l : List Wd) : (encW l).map (fun kv => kV kv.1) = (l.map mk).map V.str := by
  unfold encW
  rw [List.map_map, List.map_map]
  rfl
theorem cut_lo {u : Wd} {k : Nat} {z : Int} (e : z = (k : Int)) : cutS (mk u) none (some z) = mk (u.take k) := by
  subst e
  unfold cutS
  rw [HT.sIx_none, HT.sIx_nat, List.drop_zero, Nat.sub_zero, mk_cps, mk_len]
  unfold mk
  congr 2
  by_cases h : k ≤ u.length
  · rw [Nat.min_eq_left h]
  · rw [Nat.min_eq_right (by omega), List.take_of_length_le (by omega), List.take_of_length_le (by omega)]
theorem cut_hi {u : Wd} {k : Nat} {z : Int} (e : z = (k : Int)) (h : k ≤ u.length) : cutS (mk u) (some z) none = mk (u.drop k) := by
  subst e
  unfold cutS
  rw [HT.sIx_none, HT.sIx_nat, mk_cps, mk_len, Nat.min_eq_left h, List.take_of_length_le (by rw [List.length_drop]; omega)]
  rfl
def spNx : Sp := fun vs H Q _ => ∃ u : Wd, vs = [.str (mk u)] ∧ u.length ≤ 12 ∧ ∀ H' p ys, Same H H' → H p = none → H' p = some (.lst (ws ys)) → Ord ys → ys.Nodup → (∀ v, v ∈ ys ↔ Cut u v) → Q (.ref p) H'
section
variable {P : Program} {w : World} {K : PySem.W.Frag} {mg : Str → Option Value} {base : Heap}
theorem ok_nx {f : Addr} {fd : FuncData} (F : Fun K "_law_next" "_law_next" sNx f fd) (Nm : Names mg) : FnOk P w K mg base CX0 1 f fd ["_law_film_here"] spNx := by
  refine F.ok scNx (fun vs H Q E h => ?_) (fun cdv A outer s H vs Q E hr h => ?_)
  · obtain ⟨f, rfl, _⟩ := h
    rfl
  · obtain ⟨u, rfl, hul, q⟩ := h
    have hu := hu_of hr
    have hz : (mk u).length ≤ sizeLine := Nat.le_trans hul (by decide)
    refine ⟨_, pss_cons (ps_set (i := 1) scNx.nd rfl (.inl rfl) pe_dnewK)
      (pss_cons (ps_for PassesOwn.never rfl (pi_range1 (by rfl) Nm.range (pa_cons (pe_callB call_len_str (by rfl) Nm.len PySem.boot_len (pa_cons (pv 0) pa_nil)) pa_nil)) (pg_name (i := 2) scNx.nd rfl (.inl rfl))
        (pss_one (ps_for PassesOwn.never rfl (pi_range2 (by rfl) Nm.range (pa_cons (pe_op op_add (pv 2) pe_int) (pa_cons (pe_callB call_len_str (by rfl) Nm.len PySem.boot_len (pa_cons (pv 0) pa_nil)) pa_nil))) (pg_name (i := 3) scNx.nd rfl (.inl rfl))
          (pss_one (ps_if (pt_cmpR op_eq (pe_ix ix_str (pv 0) (pv 2) (fun _ _ => rfl)) (pe_ix ix_str (pv 0) (pv 3) (fun _ _ => rfl)) (nomark _))
            (pss_one (ps_dput hu (pv 1) (pe_op op_add_str (pe_slice sl_str (pv 0) po_none (po_some (pe_op op_add (pv 2) pe_int))) (pe_slice sl_str (pv 0) (po_some (pe_op op_add (pv 3) pe_int)) po_none)) pe_bl rfl)) pss_nil)))))
      (pss_one (ps_ret (pe_callB cr_sortedSA (by rfl) Nm.sorted (by decide +kernel) (pa_cons (pe_callTy (call_list_dK rfl) (by rfl) Nm.list (by decide +kernel) (pa_cons (pv 1) pa_nil)) pa_nil))))), ?_⟩
    intro d nd
    have s1 := same_upd (o := .dK []) nd
    refine ⟨_, rfl, mk u, rfl, hz, _, rfl, by rw [mk_len]; omega, by rw [mk_len]; omega, ?_⟩
    refine for_it walk_range (fun i σ H' => ∃ ks y2 y3, σ = [some (.str (mk u)), some (.ref d), y2, y3] ∧ Same H H' ∧ H' d = some (.dK (encW ks)) ∧ ks.Nodup ∧ (∀ v, v ∈ ks ↔ CutB u i 0 v) ∧ ks.length ≤ 12 * i)
      ⟨[], none, none, rfl, s1, upd_same, List.nodup_nil, (fun v => by simp [cutB_zero]), Nat.zero_le _⟩ (fun _ _ _ _ _ => True.intro) (fun i x σ H1 H2 hi hpv hy => ?_) fun σ H1 hpv => ?_
    · obtain ⟨ks, y2, y3, rfl, sm, hd, hnd, hks, hkl⟩ := hpv
      obtain ⟨rfl, rfl⟩ := hy
      have hi : i < u.length := by rw [mk_len] at hi; omega
      refine ⟨_, rfl, _, _, rfl, rfl, _, rfl, mk u, rfl, hz, _, _, rfl, ⟨by omega, by omega, by rw [mk_len]; omega, by rw [mk_len]; omega⟩, ?_⟩
      have en : ((((mk u).length : Nat) : Int) - (0 + (i : Int) + 1)).toNat = u.length - (i + 1) := by rw [mk_len]; omega
      rw [en]
      refine for_it walk_range (fun j σ H' => ∃ ks y3, σ = [some (.str (mk u)), some (.ref d), some (.int (0 + (i : Int))), y3] ∧ Same H H' ∧ H' d = some (.dK (encW ks)) ∧ ks.Nodup ∧ (∀ v, v ∈ ks ↔ CutB u i (i + 1 + j) v) ∧ ks.length ≤ 12 * i + j)
        ⟨ks, _, rfl, sm, hd, hnd, (fun v => by rw [hks v, Nat.add_zero, cutB_row]), by omega⟩ (fun _ _ _ _ _ => True.intro) (fun j x σ H3 H4 hj hpv hy => ?_) fun σ H3 hpv => ?_
      · obtain ⟨ks2, z3, rfl, sm3, hd3, hnd3, hks3, hkl3⟩ := hpv
        obtain ⟨rfl, rfl⟩ := hy
        have hj2 : i + 1 + j < u.length := by omega
        refine ⟨_, rfl, _, rfl, mk u, _, _, rfl, rfl, hz, ixF (p := i) (by omega) hi, _, rfl, _, rfl, mk u, _, _, rfl, rfl, hz, ixF (p := i + 1 + j) (by omega) hj2, rfl, _, rfl, ?_⟩
        show if decide (V.str (mk [at_ u i]) = V.str (mk [at_ u (i + 1 + j)])) = true then _ else _
        rw [dec1]
        by_cases he : at_ u i = at_ u (i + 1 + j)
        · rw [decide_eq_true he]
          refine iteT ⟨_, rfl, _, rfl, _, rfl, _, _, rfl, rfl, _, rfl, mk u, rfl, hz, ?_⟩
          rw [cut_lo (u := u) (k := i + 1) (by omega)]
          refine ⟨_, rfl, _, rfl, _, _, rfl, rfl, _, rfl, mk u, rfl, hz, ?_⟩
          rw [cut_hi (u := u) (k := i + 1 + j + 1) (by omega) (by omega)]
          refine ⟨_, _, rfl, rfl, ?_, ?_⟩
          · rw [mk_len, mk_len, List.length_take, List.length_drop]
            exact Nat.le_trans (show min (i + 1) u.length + (u.length - (i + 1 + j + 1)) ≤ 24 by omega) (by decide)
          · rw [mk_app]
            refine ⟨d, _, rfl, DPut.k (k := Sum.inr (mk (u.take (i + 1) ++ u.drop (i + 1 + j + 1)))) hd3 (by rw [encW_len]; exact Nat.lt_of_le_of_lt (show ks2.length ≤ 200 by omega) (by decide)), ?_⟩
            rw [encW_put]
            refine ⟨_, _, rfl, same_frz sm3 nd, upd_same, ins_nd hnd3, fun v => ?_, ?_⟩
            · rw [ins_mem, hks3 v, show i + 1 + (j + 1) = i + 1 + j + 1 by omega, cutB_yes (by omega) hj2 he]
            · have := ins_len ks2 (u.take (i + 1) ++ u.drop (i + 1 + j + 1))
              omega
        · rw [decide_eq_false he]
          refine iteF ⟨ks2, _, rfl, sm3, hd3, hnd3, fun v => ?_, by omega⟩
          rw [hks3 v, show i + 1 + (j + 1) = i + 1 + j + 1 by omega, cutB_no he]
      · obtain ⟨ks2, z3, rfl, sm3, hd3, hnd3, hks3, hkl3⟩ := hpv
        exact ⟨ks2, _, _, rfl, sm3, hd3, hnd3, (fun v => by rw [hks3 v, cutB_end (by omega)]), by omega⟩
    · obtain ⟨ks, y2, y3, rfl, sm, hd, hnd, hks, hkl⟩ := hpv
      rw [Int.toNat_natCast, mk_len] at hks
      refine ⟨_, rfl, d, encW ks, rfl, hd, fun q1 nq => ?_⟩
      have s2 := sm.trans (same_upd (o := .lst ((encW ks).map fun kv => kV kv.1)) nq)
      have hq1 : (upd H1 q1 (.lst ((encW ks).map fun kv => kV kv.1))) q1 = some (.lst ((ks.map mk).map V.str)) := by rw [upd_same, encW_keys]
      refine ⟨q1, ks.map mk, rfl, .inl (.inl hq1), fun ys p pm so np => ?_⟩
      obtain ⟨zs, e1, e2, e3⟩ := sorted_words pm so
      rw [e1]
      exact q _ p zs (s2.trans (same_upd np)) (s2.free np) upd_same e3 (e2.nodup_iff.mpr hnd) fun v => by rw [e2.mem_iff, hks v, cutB_all]
/-! ### _law_all -/
def spAll : Sp := fun vs H Q _ => ∃ f : Wd, vs = [.str (mk f)] ∧ Film f ∧ ∀ H' p ys, Same H H' → H p = none → H' p = some (.lst (ws ys)) → Ord ys → ys.Nodup → (∀ v, v ∈ ys ↔ Reach f v) → Q (.ref p) H'
def WAll (H : Hp) (f : Wd) (S E : Addr) (m : Nat) (σ : L2.St) (H' : Hp) : Prop := ∃ (found edge : List Wd) (y3 y4 : Option V), σ = [some (.str (mk f)), some (.ref S), some (.ref E), y3, y4] ∧
  m = 2 * (2 ^ f.length - found.length) + edge.length ∧ LA f found edge ∧ Same H H' ∧ H' S = some (.dK (encW found)) ∧ H' E = some (.lst (ws edge))
theorem ws_get {l : List Wd} {i : Nat} {x : V} (h : (ws l)[i]? = some x) : ∃ v, l[i]? = some v ∧ x = .str (mk v) := by
  unfold ws at h
  rw [List.getElem?_map] at h
  cases e : l[i]? with
  | none =>
    rw [e] at h
    cases h
  | some p =>
    rw [e] at h
    exact ⟨p, rfl, (Option.some.inj h).symm⟩
theorem ws_snoc (l : List Wd) (v : Wd) : ws l ++ [V.str (mk v)] = ws (l ++ [v]) := by
  unfold ws
  rw [List.map_append]
  rfl
theorem ok_all {f fN : Addr} {fd fdN : FuncData} (F : Fun K "_law_all" "_law_all" sAll f fd) (Nm : Names mg) (N : Cl P w K mg base 1 "_law_next" ["_law_film_here"] spNx fN fdN) : FnOk P w K mg base CX0 2 f fd ["_law_film_here"] spAll := by
  refine F.ok scAll (fun vs H Q E h => ?_) (fun cdv A outer s H vs Q E hr h => ?_)
  · obtain ⟨f, rfl, _⟩ := h
    rfl
  · obtain ⟨f, rfl, hf, q⟩ := h
    have hu := hu_of hr
    have hfl := hf.le
    refine ⟨_, pss_cons (ps_par (i := 1) (j := 2) rfl scAll.nd rfl rfl (by decide) rfl rfl (pa_cons (pe_disp (pps_cons (pv 0) pe_bl pps_nil) (by rfl) (by rfl) (fun z => by cases z) (by decide)) (pa_cons (pe_lst (pa_cons (pv 0) pa_nil)) pa_nil)) (by rfl))
      (pss_cons (ps_while PassesOwn.never (pt_cmpR (op_neD hr.units) (pv 2) (pe_lst pa_nil) (nomark _))
        (pss_cons (ps_set (i := 3) scAll.nd rfl (.inl rfl) (pe_bm0 PySem.F.plainAttrs_list PySem.F.slot_list_pop PySem.F.type_list_pop mt_pop (pv 2)))
        (pss_one (ps_for PassesOwn.never rfl (pi_list (pe_call N.ok hr (by rfl) N.g N.kp N.b .nil pass0 (pa_cons (pv 3) pa_nil))) (pg_name (i := 4) scAll.nd rfl (.inl rfl))
          (pss_one (ps_if (pt_cmp (pc_dnotin hu (pv 4) (pv 1)))
            (pss_cons (ps_dput hu (pv 1) (pv 4) pe_bl rfl)
              (pss_one (ps_expr (pe_bm PySem.F.plainAttrs_list PySem.F.slot_list_append PySem.F.type_list_append mt_append (pv 2) (pa_cons (pv 4) pa_nil)))))
            pss_nil))))))
      (pss_one (ps_ret (pe_callB cr_sortedSA (by rfl) Nm.sorted (by decide +kernel) (pa_cons (pe_callTy (call_list_dK rfl) (by rfl) Nm.list (by decide +kernel) (pa_cons (pv 1) pa_nil)) pa_nil))))), ?_⟩
    intro S nS
    refine ⟨_, rfl, upd_same, [(Sum.inr (mk f), .bl true)], rfl, (by show 1 ≤ 15; decide), ?_⟩
    refine ⟨_, rfl, (by show 1 ≤ sizeLine; decide), fun E nE => ⟨_, _, rfl, ?_⟩⟩
    have s1 : Same H (upd (upd H S (.dK [])) S (.dK (encW [f]))) := same_frz (same_upd nS) nS
    have nE0 : H E = none := s1.free nE
    have hES : S ≠ E := fun e => by
      rw [← e, upd_same] at nE
      cases nE
    have hpow : (2 : Nat) ^ f.length ≤ 4096 := Nat.le_trans (Nat.pow_le_pow_right (by decide) hfl) (by decide)
    have s8k : ∀ n : Nat, n ≤ 8200 → n < sizeLine := fun n h => Nat.lt_of_le_of_lt h (by decide)
    refine ⟨WAll H f S E, ⟨2 * (2 ^ f.length - ([f] : List Wd).length) + ([f] : List Wd).length, [f], [f], none, none, rfl, rfl, LA.start f, same_frz s1 nE0, ?_, upd_same⟩, fun m σ H1 hW => ?_⟩
    · rw [upd_ne hES, upd_same]
      rfl
    · obtain ⟨found, edge, y3, y4, rfl, hm, la, sm, hS, hE⟩ := hW
      have hfo := la.len
      have hsz := la.size
      have wlet : ∀ v ∈ found, (∀ c ∈ v, c ∈ f) ∧ v.length ≤ 12 := fun v hv => by
        have sb := (la.way v hv).sub
        exact ⟨fun c hc => sb.subset hc, Nat.le_trans sb.length_le hfl⟩
      refine ⟨_, rfl, Nat.zero_le _, fun p np => ne_nil (d := fun v => .str (mk v)) (same_upd np _ _ hE) upd_same (fun v _ => .str _) (fun v hv => ⟨strOk_of (hf.top (wlet v (la.sub v hv)).1), Nat.zero_le _⟩) ⟨_, rfl, ?_⟩⟩
      have sm1 := sm.trans (same_upd (o := .lst []) np)
      have hS1 := same_upd (o := .lst []) np _ _ hS
      have hE1 := same_upd (o := .lst []) np _ _ hE
      generalize upd H1 p (.lst []) = H2 at sm1 hS1 hE1 ⊢
      cases he : edge.isEmpty with
      | true =>
        have e0 : edge = [] := List.isEmpty_iff.mp he
        subst e0
        refine iteF ⟨_, rfl, S, encW found, rfl, hS1, fun q1 nq => ?_⟩
        have s2 := sm1.trans (same_upd (o := .lst ((encW found).map fun kv => kV kv.1)) nq)
        have hq1 : (upd H2 q1 (.lst ((encW found).map fun kv => kV kv.1))) q1 = some (.lst ((found.map mk).map V.str)) := by rw [upd_same, encW_keys]
        refine ⟨q1, found.map mk, rfl, .inl (.inl hq1), fun ys p pm so np => ?_⟩
        obtain ⟨zs, e1, e2, e3⟩ := sorted_words pm so
        rw [e1]
        exact q _ p zs (s2.trans (same_upd np)) (s2.free np) upd_same e3 (e2.nodup_iff.mpr la.nd) fun v => by rw [e2.mem_iff, la.end_ v]
      | false =>
        obtain ⟨r, u, rfl⟩ := snoc_of (l := edge) (by rw [he]; rfl)
        refine iteT ⟨fun σ' H' => ∃ m', m' < m ∧ WAll H f S E m' σ' H', fun _ _ z => z, ?_⟩
        have hul := (wlet u (la.sub u (by simp))).2
        refine ⟨_, rfl, .inl ⟨rfl, _, .inl (.inl hE1)⟩, E, _, .str (mk u), rfl, rfl, hE1, by unfold ws; simp, ?_⟩
        have ed : (ws (r ++ [u])).dropLast = ws r := by unfold ws; simp
        rw [ed]
        have sm2 : Same H (upd H2 E (.lst (ws r))) := same_frz sm1 nE0
        have hS2 : (upd H2 E (.lst (ws r))) S = some (.dK (encW found)) := by rw [upd_ne hES]; exact hS1
        have hE2 : (upd H2 E (.lst (ws r))) E = some (.lst (ws r)) := upd_same
        generalize upd H2 E (.lst (ws r)) = H3 at sm2 hS2 hE2 ⊢
        refine ⟨_, rfl, u, rfl, hul, fun H4 L ys sm4 nL hL _ _ hys => ?_⟩
        have hSL : S ≠ L := ne_of_none hS2 nL
        have hEL : E ≠ L := ne_of_none hE2 nL
        refine ⟨L, rfl, ⟨_, .inl (.inl hL)⟩, for_it walk_list (fun i σ H' => ∃ s' e' z4, (ys.take i).foldl visitW (found, r) = (s', e') ∧ σ = [some (.str (mk f)), some (.ref S), some (.ref E), some (.str (mk u)), z4] ∧ Same H H' ∧
          H' L = some (.lst (ws ys)) ∧ H' S = some (.dK (encW s')) ∧ H' E = some (.lst (ws e')))
          ⟨found, r, _, rfl, rfl, sm2.trans sm4, hL, sm4 _ _ hS2, sm4 _ _ hE2⟩ (fun i σ H' _ ⟨_, _, _, _, _, _, z, _⟩ => .inl (.inl z)) (fun i x σ H5 H6 hi hpv hy => ?_) fun σ H5 hpv => ?_⟩
        · obtain ⟨s', e', z4, hfo5, rfl, sm5, hL5, hS5, hE5⟩ := hpv
          obtain ⟨rfl, hx⟩ := hy
          obtain ⟨v, hv, rfl⟩ := ws_get hx
          have htake : (ys.take (i + 1)).foldl visitW (found, r) = visitW (s', e') v := by
            rw [List.take_add_one, hv, List.foldl_append, hfo5]
            rfl
          have hlen : s'.length ≤ 4096 ∧ e'.length ≤ 8200 := by
            obtain ⟨new, w1, w2, w3, _⟩ := visitW_all (ys.take i) found r
            rw [hfo5] at w1
            obtain ⟨rfl, rfl⟩ := Prod.mk.inj w1
            have hle : (found ++ new).length ≤ 2 ^ f.length := by
              rw [← subs_len]
              refine nodup_le (w3 la.nd) fun x hx => ?_
              rcases List.mem_append.mp hx with hx | hx
              · exact subs_mem (la.way x hx).sub
              · exact subs_mem ((la.way u (la.sub u (by simp))).trans (.step ((hys x).mp (List.mem_of_mem_take (w2 x hx).2)) (.refl _))).sub
            rw [List.length_append] at hle hsz ⊢
            rw [List.length_append]
            omega
          refine ⟨_, rfl, _, rfl, S, _, rfl, DGet.k (k := Sum.inr (mk v)) hS5, _, rfl, ?_⟩
          rw [encW_get]
          by_cases hq : v ∈ s'
          · rw [decide_eq_true hq]
            refine iteF ⟨s', e', _, ?_, rfl, sm5, hL5, hS5, hE5⟩
            rw [htake]
            exact if_pos hq
          · rw [decide_eq_false hq]
            refine iteT ⟨_, rfl, _, rfl, S, _, rfl, DPut.k (k := Sum.inr (mk v)) hS5 (by rw [encW_len]; exact s8k _ (by omega)), ?_⟩
            rw [encW_put, show ins s' v = s' ++ [v] from if_neg hq]
            have sm7 : Same H (upd H6 S (.dK (encW (s' ++ [v])))) := same_frz sm5 nS
            have hL7 : (upd H6 S (.dK (encW (s' ++ [v])))) L = some (.lst (ws ys)) := by rw [upd_ne hSL.symm]; exact hL5
            have hE7 : (upd H6 S (.dK (encW (s' ++ [v])))) E = some (.lst (ws e')) := by rw [upd_ne hES.symm]; exact hE5
            have hS7 : (upd H6 S (.dK (encW (s' ++ [v])))) S = some (.dK (encW (s' ++ [v]))) := upd_same
            generalize upd H6 S (.dK (encW (s' ++ [v]))) = H7 at sm7 hL7 hE7 hS7 ⊢
            refine ⟨_, rfl, .inl ⟨rfl, _, .inl (.inl hE7)⟩, _, rfl, E, _, _, rfl, rfl, hE7, by rw [ws_len]; exact s8k _ hlen.2, ?_⟩
            rw [ws_snoc]
            refine ⟨s' ++ [v], e' ++ [v], _, by rw [htake]; exact if_neg hq, rfl, same_frz sm7 nE0, ?_, ?_, upd_same⟩
            · rw [upd_ne hEL.symm]; exact hL7
            · rw [upd_ne hES]; exact hS7
        · obtain ⟨s', e', z4, hfo5, rfl, sm5, hL5, hS5, hE5⟩ := hpv
          rw [ws_len, List.take_length] at hfo5
          obtain ⟨la', lt'⟩ := la.next hys hfo5
          exact ⟨_, by rw [hm]; exact lt', s', e', _, _, rfl, rfl, la', sm5, hS5, hE5⟩
end
end K07
/-! _law_taken, _law_film, _law_alike -/
namespace K07
open PySem PySem.Spec PyProof.Rows L2
/-- the row of draws: the script at a, and three ints -/
structure Row (K : PySem.W.Frag) (H : Hp) (R a : Addr) (ns : List Int) (i s r : Int) : Prop where
  at_R : H R = some (.lst [.ref a, .int i, .int s, .int r])
  sq : SqL K H a (ns.map V.int)
  len : ns.length ≤ 63
  hi : 0 ≤ i
  hs : 0 ≤ s ∧ s < 2147483647
/-- all but R stands -/
def But (R : Addr) (H H' : Hp) : Prop := ∀ b o, b ≠ R → H b = some o → H' b = some o
theorem But.refl (R : Addr) (H : Hp) : But R H H := fun _ _ _ h => h
theorem But.upd {R : Addr} {H H' : Hp} (k : But R H H') (o : HO) : But R H (upd H' R o) := fun b x hb e => by
  rw [upd_ne hb]
  exact k b x hb e
theorem But.trans {R : Addr} {H H1 H2 : Hp} (a : But R H H1) (b : But R H1 H2) : But R H H2 := fun c o hc h => b c o hc (a c o hc h)
theorem sq_ne {K : PySem.W.Frag} {H : Hp} {R a : Addr} {ns : List Int} {i s r : V} {H' : Hp} (hR : H R = some (.lst [.ref a, i, s, r])) (sq : SqL K H a (ns.map V.int)) (k : But R H H') : SqL K H' a (ns.map V.int) := by
  rcases sq with (h | ⟨o, h⟩) | h
  · refine .inl (.inl (k _ _ (fun e => ?_) h))
    rw [e, hR] at h
    have := Option.some.inj h
    injection this with this
    cases ns with
    | nil => cases this
    | cons x r => cases (List.cons.inj this).1
  · refine .inl (.inr ⟨o, k _ _ (fun e => ?_) h⟩)
    rw [e, hR] at h
    cases h
  · exact .inr h
theorem row_put {K : PySem.W.Frag} {H H' : Hp} {R a : Addr} {ns : List Int} {i s r i' s' r' : Int} (h : Row K H R a ns i s r) (k : But R H H') (hi : 0 ≤ i') (hs : 0 ≤ s' ∧ s' < 2147483647) (e : H' R = some (.lst [.ref a, .int i', .int s', .int r'])) : Row K H' R a ns i' s' r' :=
  ⟨e, sq_ne h.at_R h.sq k, h.len, hi, hs⟩
def spTk (K : PySem.W.Frag) : Sp := fun vs H Q _ => ∃ (R a : Addr) (ns : List Int) (i s r m : Int), vs = [.ref R, .int m] ∧ Row K H R a ns i s r ∧ 1 ≤ m ∧ m ≤ 1000 ∧ ∀ H' i' s' r' v, But R H H' → Row K H' R a ns i' s' r' → 0 ≤ v → v < m → Q (.int v) H'
section
variable {P : Program} {w : World} {K : PySem.W.Frag} {mg : Str → Option Value} {base : Heap}
theorem ok_tk {f : Addr} {fd : FuncData} (F : Fun K "_law_taken" "_law_taken" sTk f fd) (Nm : Names mg) : FnOk P w K mg base CX0 1 f fd ["_law_row", "_law_many"] (spTk K) := by
  refine F.ok scTk (fun vs H Q E h => ?_) (fun cdv A outer s0 H vs Q E hr h => ?_)
  · obtain ⟨R, a, ns, i, s, r, m, rfl, _⟩ := h
    rfl
  · obtain ⟨R, a, ns, i, s, r, m, rfl, row, hm1, hm2, q⟩ := h
    have hm0 : m ≠ 0 := by omega
    have hmod : ∀ x : Int, 0 ≤ x % m ∧ x % m < m := fun x => ⟨Int.emod_nonneg _ hm0, Int.emod_lt_of_pos _ (by omega)⟩
    have hseed : ∀ x : Int, 0 ≤ x % 2147483647 ∧ x % 2147483647 < 2147483647 := fun x => ⟨Int.emod_nonneg _ (by decide), Int.emod_lt_of_pos _ (by decide)⟩
    obtain ⟨hs1, hs2⟩ := row.hs
    have hi0 := row.hi
    have hR := row.at_R
    have hlen := row.len
    refine ⟨_, pss_cons (ps_if (pt_cmpR op_gt (pe_ix ix_list (pv 0) pe_int (fun _ _ => rfl)) pe_int (nomark _))
        (pss_cons (ps_set (i := 2) scTk.nd rfl (.inl rfl) (pe_op op_mod (pe_callTy call_int1 (by rfl) Nm.int (by decide +kernel) (pa_cons (pe_ix ix_list (pv 0) pe_int (fun _ _ => rfl)) pa_nil)) (pv 1)))
        (pss_cons (ps_asg (pe_op op_fdivN (pe_ix ix_list (pv 0) pe_int (fun _ _ => rfl)) (pv 1)) (pg_sub (pv 0) pe_int set_list (fun _ => rfl)))
        (pss_one (ps_ret (pv 2))))) pss_nil)
      (pss_cons (ps_asg (pe_op op_add (pe_ix ix_list (pv 0) pe_int (fun _ _ => rfl)) pe_int) (pg_sub (pv 0) pe_int set_list (fun _ => rfl)))
      (pss_cons (ps_if (pt_cmpR op_gt (pe_ix ix_list (pv 0) pe_int (fun _ _ => rfl)) (pe_callB call_len_seq (by rfl) Nm.len PySem.boot_len (pa_cons (pe_ix ix_list (pv 0) pe_int (fun _ _ => rfl)) pa_nil)) (nomark _))
        (pss_cons (ps_asg (pe_op op_mod (pe_callTy call_int1 (by rfl) Nm.int (by decide +kernel) (pa_cons (pe_op op_add (pe_op op_mul (pe_ix ix_list (pv 0) pe_int (fun _ _ => rfl)) pe_int) pe_int) pa_nil)) pe_int) (pg_sub (pv 0) pe_int set_list (fun _ => rfl)))
        (pss_one (ps_ret (pe_op op_mod (pe_callTy call_int1 (by rfl) Nm.int (by decide +kernel) (pa_cons (pe_op op_fdivN (pe_ix ix_list (pv 0) pe_int (fun _ _ => rfl)) pe_int) pa_nil)) (pv 1))))) pss_nil)
      (pss_cons (ps_set (i := 3) scTk.nd rfl (.inl rfl) (pe_ix ix_list (pe_ix ix_list (pv 0) pe_int (fun _ _ => rfl)) (pe_op op_sub (pe_ix ix_list (pv 0) pe_int (fun _ _ => rfl)) pe_int) (fun _ _ => rfl)))
      (pss_cons (ps_asg (pe_op op_mod (pe_callTy call_int1 (by rfl) Nm.int (by decide +kernel) (pa_cons (pe_op op_add (pe_op op_add (pe_op op_mul (pe_ix ix_list (pv 0) pe_int (fun _ _ => rfl)) pe_int) (pv 3)) pe_int) pa_nil)) pe_int) (pg_sub (pv 0) pe_int set_list (fun _ => rfl)))
      (pss_cons (ps_if (pt_cmpR op_ge (pv 3) (pe_op op_pow pe_int pe_int) (nomark _))
        (pss_one (ps_asg (pe_op op_fdivN (pv 3) (pv 1)) (pg_sub (pv 0) pe_int set_list (fun _ => rfl)))) pss_nil)
      (pss_one (ps_ret (pe_op op_mod (pe_callTy call_int1 (by rfl) Nm.int (by decide +kernel) (pa_cons (pv 3) pa_nil)) (pv 1))))))))), ?_⟩
    have g0 : ∀ {x y z u : V}, atI [x, y, z, u] 0 = some x := fun {x y z u} => atI_nat (j := 0) rfl
    have g1 : ∀ {x y z u : V}, atI [x, y, z, u] 1 = some y := fun {x y z u} => atI_nat (j := 1) rfl
    have g2 : ∀ {x y z u : V}, atI [x, y, z, u] 2 = some z := fun {x y z u} => atI_nat (j := 2) rfl
    have g3 : ∀ {x y z u : V}, atI [x, y, z, u] 3 = some u := fun {x y z u} => atI_nat (j := 3) rfl
    have lst : ∀ {H' : Hp} {xs : List V}, H' R = some (.lst xs) → SqL K H' R xs := fun h => .inl (.inl h)
    refine ⟨_, rfl, R, _, 3, _, rfl, rfl, lst hR, g3, _, _, rfl, rfl, _, rfl, ite2 (fun _ => ?_) (fun _ => ?_)⟩
    · refine ⟨_, rfl, R, _, 3, _, rfl, rfl, lst hR, g3, .inl ⟨_, rfl, _, rfl, _, _, rfl, rfl, by omega, ?_⟩⟩
      refine ⟨_, rfl, R, _, 3, _, rfl, rfl, lst hR, g3, _, rfl, _, _, rfl, rfl, ⟨hm0, by omega⟩, ?_⟩
      refine ⟨_, rfl, R, _, 3, 3, rfl, rfl, hR, rfl, ?_⟩
      exact ⟨_, rfl, q _ i s (r.fdiv m) _ ((But.refl R H).upd _) (row_put row ((But.refl R H).upd _) hi0 row.hs upd_same) (hmod r).1 (hmod r).2⟩
    · refine ⟨_, rfl, R, _, 1, _, rfl, rfl, lst hR, g1, _, _, rfl, rfl, _, rfl, R, _, 1, 1, rfl, rfl, hR, rfl, ?_⟩
      have b1 : But R H (upd H R (.lst [.ref a, .int (i + 1), .int s, .int r])) := (But.refl R H).upd _
      have r1 : Row K (upd H R (.lst [.ref a, .int (i + 1), .int s, .int r])) R a ns (i + 1) s r := row_put row b1 (by omega) row.hs upd_same
      have hR1 := r1.at_R
      refine ⟨_, rfl, R, _, 1, _, rfl, rfl, lst hR1, g1, _, rfl, R, _, 0, _, rfl, rfl, lst hR1, g0, a, _, rfl, .inl r1.sq, _, _, rfl, rfl, _, rfl, ite2 (fun _ => ?_) (fun hle => ?_)⟩
      · refine ⟨_, rfl, R, _, 2, _, rfl, rfl, lst hR1, g2, _, _, rfl, rfl, .inl ⟨by omega, by omega⟩, _, _, rfl, rfl, .inl ⟨_, rfl, _, _, rfl, rfl, (by show (0 : Int) < 2147483647; decide), ?_⟩⟩
        refine ⟨_, rfl, R, _, 2, 2, rfl, rfl, hR1, rfl, ?_⟩
        have b2 : But R H (upd (upd H R (.lst [.ref a, .int (i + 1), .int s, .int r])) R (.lst [.ref a, .int (i + 1), .int ((s * 48271 + 11) % 2147483647), .int r])) := b1.upd _
        have r2 : Row K (upd (upd H R (.lst [.ref a, .int (i + 1), .int s, .int r])) R (.lst [.ref a, .int (i + 1), .int ((s * 48271 + 11) % 2147483647), .int r])) R a ns (i + 1) ((s * 48271 + 11) % 2147483647) r := row_put row b2 (by omega) (hseed _) upd_same
        refine ⟨_, rfl, R, _, 2, _, rfl, rfl, lst r2.at_R, g2, _, _, rfl, rfl, ⟨by decide, by decide⟩, .inl ⟨_, rfl, _, rfl, _, _, rfl, rfl, by omega, ?_⟩⟩
        exact q _ _ _ _ _ b2 r2 (hmod _).1 (hmod _).2
      · have hle : ¬ (((ns.map V.int).length : Nat) : Int) < i + 1 := fun z => hle (decide_eq_true z)
        rw [List.length_map] at hle
        obtain ⟨k, hk⟩ : ∃ k : Nat, i = (k : Int) := ⟨i.toNat, by omega⟩
        have hkl : k < ns.length := by omega
        have gk : atI (ns.map V.int) (i + 1 - 1) = some (.int ns[k]) := at_of (j := k) (by omega) (by rw [List.getElem?_map, List.getElem?_eq_getElem hkl]; rfl)
        generalize ns[k] = c at gk
        refine ⟨_, rfl, R, _, 0, _, rfl, rfl, lst hR1, g0, _, rfl, R, _, 1, _, rfl, rfl, lst hR1, g1, _, _, rfl, rfl, a, _, _, _, rfl, rfl, r1.sq, gk, ?_⟩
        refine ⟨_, rfl, R, _, 2, _, rfl, rfl, lst hR1, g2, _, _, rfl, rfl, .inl ⟨by omega, by omega⟩, _, rfl, _, _, rfl, rfl, _, _, rfl, rfl, .inl ⟨_, rfl, _, _, rfl, rfl, (by show (0 : Int) < 2147483647; decide), ?_⟩⟩
        refine ⟨_, rfl, R, _, 2, 2, rfl, rfl, hR1, rfl, ?_⟩
        have b2 : But R H (upd (upd H R (.lst [.ref a, .int (i + 1), .int s, .int r])) R (.lst [.ref a, .int (i + 1), .int ((s * 48271 + c + 11) % 2147483647), .int r])) := b1.upd _
        have r2 : Row K (upd (upd H R (.lst [.ref a, .int (i + 1), .int s, .int r])) R (.lst [.ref a, .int (i + 1), .int ((s * 48271 + c + 11) % 2147483647), .int r])) R a ns (i + 1) ((s * 48271 + c + 11) % 2147483647) r := row_put row b2 (by omega) (hseed _) upd_same
        refine ⟨_, rfl, _, _, rfl, rfl, ⟨by decide, by decide, by decide⟩, _, _, rfl, rfl, _, rfl, ite2 (fun _ => ?_) (fun _ => ?_)⟩
        · refine ⟨_, rfl, _, rfl, _, _, rfl, rfl, ⟨hm0, by omega⟩, _, rfl, R, _, 3, 3, rfl, rfl, r2.at_R, rfl, ?_⟩
          exact ⟨_, rfl, .inl ⟨_, rfl, _, rfl, _, _, rfl, rfl, by omega, q _ _ _ (c.fdiv m) _ (b2.upd _) (row_put row (b2.upd _) (by omega) (hseed _) upd_same) (hmod _).1 (hmod _).2⟩⟩
        · exact ⟨_, rfl, .inl ⟨_, rfl, _, rfl, _, _, rfl, rfl, by omega, q _ _ _ _ _ b2 r2 (hmod _).1 (hmod _).2⟩⟩
/-! ### _law_film -/
def spFi (K : PySem.W.Frag) : Sp := fun vs H Q _ => ∃ (R a : Addr) (ns : List Int) (i s r m : Int), vs = [.ref R, .int 12, .int m] ∧ Row K H R a ns i s r ∧ 1 ≤ m ∧ m ≤ 8 ∧ ∀ H' f, But R H H' → Film f → Q (.str (mk f)) H'
theorem abc_at {v : Int} (h : 0 ≤ v) (h8 : v < 8) : atI (Str.ofString "abcdefgh").cps.toList v = some (97 + v.toNat) := by
  have e : (Str.ofString "abcdefgh").cps.toList = [97, 98, 99, 100, 101, 102, 103, 104] := by decide +kernel
  rw [e]
  have : v = 0 ∨ v = 1 ∨ v = 2 ∨ v = 3 ∨ v = 4 ∨ v = 5 ∨ v = 6 ∨ v = 7 := by omega
  rcases this with e | e | e | e | e | e | e | e <;> (subst e; decide +kernel)
theorem ok_fi {f fT : Addr} {fd fdT : FuncData} (F : Fun K "_law_film" "_law_film" sFi f fd) (Nm : Names mg) (T : Cl P w K mg base 1 "_law_taken" ["_law_row", "_law_many"] (spTk K) fT fdT) : FnOk P w K mg base CX0 2 f fd ["_law_row", "_law_most", "_law_many"] (spFi K) := by
  refine F.ok scFi (fun vs H Q E h => ?_) (fun cdv A outer s0 H vs Q E hr h => ?_)
  · obtain ⟨R, a, ns, i, s, r, m, rfl, _⟩ := h
    rfl
  · obtain ⟨R, a, ns, i, s, r, m, rfl, row, hm1, hm2, q⟩ := h
    refine ⟨_, pss_cons (ps_set (i := 3) scFi.nd rfl (.inl rfl) pe_str)
      (pss_cons (ps_for PassesOwn.never rfl (pi_range1 (by rfl) Nm.range (pa_cons (pe_op op_add pe_int (pe_call T.ok hr (by rfl) T.g T.kp T.b .nil pass0 (pa_cons (pv 0) (pa_cons (pv 1) pa_nil)))) pa_nil)) (pg_name (i := 4) scFi.nd rfl (.inl rfl))
        (pss_one (ps_set (i := 3) scFi.nd rfl (.inl rfl) (pe_op op_add_str (pv 3) (pe_ix ix_str pe_str (pe_call T.ok hr (by rfl) T.g T.kp T.b .nil pass0 (pa_cons (pv 0) (pa_cons (pv 2) pa_nil))) (fun _ _ => rfl))))))
      (pss_one (ps_ret (pv 3)))), ?_⟩
    refine ⟨_, rfl, _, rfl, R, a, ns, i, s, r, 12, rfl, row, by omega, by omega, fun H1 i1 s1 r1 v b1 row1 hv1 hv2 => ?_⟩
    refine ⟨_, _, rfl, rfl, _, rfl, by omega, by omega, ?_⟩
    refine for_it walk_range (fun k σ H' => ∃ (g : Wd) (i' s' r' : Int) (y4 : Option V), σ = [some (.ref R), some (.int 12), some (.int m), some (.str (mk g)), y4] ∧ But R H H' ∧ Row K H' R a ns i' s' r' ∧ g.length = k ∧ ∀ c ∈ g, 97 ≤ c ∧ c ≤ 104)
      ⟨[], i1, s1, r1, none, rfl, b1, row1, rfl, fun c hc => by cases hc⟩ (fun _ _ _ _ _ => True.intro) (fun k x σ H2 H3 hk hpv hy => ?_) fun σ H2 hpv => ?_
    · obtain ⟨g, i', s', r', y4, rfl, b2, row2, hg, hc⟩ := hpv
      obtain ⟨rfl, rfl⟩ := hy
      refine ⟨_, rfl, _, rfl, _, rfl, R, a, ns, i', s', r', m, rfl, row2, hm1, by omega, fun H4 i4 s4 r4 u b4 row4 hu1 hu2 => ?_⟩
      refine ⟨_, u, _, rfl, rfl, (by decide +kernel), abc_at hu1 (by omega), _, _, rfl, rfl, ?_, ?_⟩
      · show g.length + 1 ≤ sizeLine
        exact Nat.le_trans (show g.length + 1 ≤ 14 by omega) (by decide)
      · rw [mk_one, mk_app]
        refine ⟨g ++ [97 + u.toNat], i4, s4, r4, _, rfl, b2.trans b4, row4, by simp [hg], fun c hc' => ?_⟩
        rcases List.mem_append.mp hc' with hc' | hc'
        · exact hc c hc'
        · have : c = 97 + u.toNat := by simpa using hc'
          omega
    · obtain ⟨g, i', s', r', y4, rfl, b2, row2, hg, hc⟩ := hpv
      exact ⟨_, rfl, q H2 g b2 ⟨by omega, by omega, hc⟩⟩
end
end K07
/-! _law_alike of two like values: it is True -/
namespace K07
open PySem PySem.Spec PyProof.Rows L2
/-- an int or a text -/
inductive Flat : V → Prop
  | int (i : Int) : Flat (.int i)
  | str (l : Wd) (h : ∀ c ∈ l, c ≤ 104) : Flat (.str (mk l))
def spL0 : Sp := fun vs H Q _ => ∃ x : V, vs = [x, x] ∧ Flat x ∧ ∀ H', Same H H' → Q (.bl true) H'
def spL1 : Sp := fun vs H Q _ => ∃ (a b : Addr) (xs : List V), vs = [.ref a, .ref b] ∧ H a = some (.lst xs) ∧ H b = some (.lst xs) ∧ (∀ x ∈ xs, Flat x) ∧ xs.length ≤ 8200 ∧ ∀ H', Same H H' → Q (.bl true) H'
section
variable {P : Program} {w : World} {K : PySem.W.Frag} {mg : Str → Option Value} {base : Heap}
theorem kt2 {t : String} {b : Bool} (h1 : kitB t "tuple" = some false) (h2 : kitB t "list" = some b) : PySem.W.kitAny K (.type t) [.type "tuple", .type "list"] = some b :=
  kitAny_cons (kit_ty h1) (fun _ => kitAny_cons (kit_ty h2) (fun e => by rw [e]; exact kitAny_nil) (fun e => e)) (fun e => by cases e)
theorem ok_lk0 {f : Addr} {fd : FuncData} (F : Fun K "_law_alike" "_law_alike" sLk f fd) (Nm : Names mg) : FnOk P w K mg base CX0 1 f fd ["_law_found", "_law_due"] spL0 := by
  refine F.ok scLk (fun vs H Q E h => ?_) (fun cdv A outer s0 H vs Q E hr h => ?_)
  · obtain ⟨x, rfl, _⟩ := h
    rfl
  · obtain ⟨x, rfl, hx, q⟩ := h
    refine ⟨_, pss_cons (ps_if (pt_val (pe_callB call_isiT (by rfl) Nm.isi (by decide +kernel) (pa_cons (pv 1) (pa_cons (pe_tup (pa_cons (pe_bltn (v := .ty "tuple") (by rfl) Nm.tuple (by decide +kernel) rfl) (pa_cons (pe_bltn (v := .ty "list") (by rfl) Nm.list (by decide +kernel) rfl) pa_nil))) pa_nil)))) pss_never pss_nil)
      (pss_cons (ps_if (PW.pt (pw_or (pt_cmpR op_isN (pv 1) pe_non (nomark _)) (pw_or1 (pt_val (pe_callB call_isi (by rfl) Nm.isi (by decide +kernel) (pa_cons (pv 1) (pa_cons (pe_bltn (v := .ty "str") (by rfl) Nm.str (by decide +kernel) rfl) pa_nil)))))))
        (pss_one (ps_ret (pe_and (pe_cmpR op_eq (pv 0) (pv 1) (nomark _)) (pe_one (pe_cmpR op_eq (pe_callB call_isi (by rfl) Nm.isi (by decide +kernel) (pa_cons (pv 0) (pa_cons (pe_bltn (v := .ty "str") (by rfl) Nm.str (by decide +kernel) rfl) pa_nil)))
          (pe_callB call_isi (by rfl) Nm.isi (by decide +kernel) (pa_cons (pv 1) (pa_cons (pe_bltn (v := .ty "str") (by rfl) Nm.str (by decide +kernel) rfl) pa_nil))) (nomark _)))))) pss_nil)
      (pss_one (ps_ret (pe_and (pe_callB call_isi (by rfl) Nm.isi (by decide +kernel) (pa_cons (pv 0) (pa_cons (pe_bltn (v := .ty "int") (by rfl) Nm.int (by decide +kernel) rfl) pa_nil)))
        (pe_and (pe_cmpR op_eq (pe_callB call_isi (by rfl) Nm.isi (by decide +kernel) (pa_cons (pv 0) (pa_cons (pe_bltn (v := .ty "bool") (by rfl) Nm.bool (by decide +kernel) rfl) pa_nil)))
          (pe_callB call_isi (by rfl) Nm.isi (by decide +kernel) (pa_cons (pv 1) (pa_cons (pe_bltn (v := .ty "bool") (by rfl) Nm.bool (by decide +kernel) rfl) pa_nil))) (nomark _))
          (pe_one (pe_cmpR op_eq (pv 0) (pv 1) (nomark _)))))))), ?_⟩
    have dt : ∀ y : V, decide (y = y) = true := fun y => decide_eq_true rfl
    cases hx with
    | int i =>
      refine ⟨_, rfl, (by show 2 ≤ sizeLine; decide), fun t nt => ⟨_, t, _, _, _, false, rfl, upd_same, .cons (.ty _) (.cons (.ty _) .nil), .base (.int _), kt2 (by decide +kernel) (by decide +kernel), false, rfl, iteF ?_⟩⟩
      have sm := same_upd (o := .tup [.ty "tuple", .ty "list"]) nt
      refine ⟨_, rfl, rfl, false, bl_f (fun z => by cases z), ?_⟩
      refine iteF ⟨_, rfl, _, _, _, _, false, rfl, .ty _, .base (.int _), kit_ty (by decide +kernel), false, rfl, iteF ?_⟩
      refine ⟨_, rfl, _, _, _, _, true, rfl, .ty _, .base (.int _), kit_ty (by decide +kernel), true, rfl, iteT ?_⟩
      refine ⟨_, rfl, _, _, _, _, false, rfl, .ty _, .base (.int _), kit_ty (by decide +kernel), _, rfl, _, _, _, _, false, rfl, .ty _, .base (.int _), kit_ty (by decide +kernel), rfl, true, rfl, iteT ?_⟩
      refine ⟨_, rfl, _, rfl, rfl, ?_⟩
      show Q (.bl (decide (V.int i = V.int i))) _
      rw [dt]
      exact q _ sm
    | str l hl =>
      refine ⟨_, rfl, (by show 2 ≤ sizeLine; decide), fun t nt => ⟨_, t, _, _, _, false, rfl, upd_same, .cons (.ty _) (.cons (.ty _) .nil), .base (.str _), kt2 (by decide +kernel) (by decide +kernel), false, rfl, iteF ?_⟩⟩
      have sm := same_upd (o := .tup [.ty "tuple", .ty "list"]) nt
      refine ⟨_, rfl, rfl, false, bl_f (fun z => by cases z), ?_⟩
      refine iteF ⟨_, rfl, _, _, _, _, true, rfl, .ty _, .base (.str _), kit_ty (by decide +kernel), true, rfl, iteT ?_⟩
      refine ⟨_, rfl, _, rfl, rfl, true, bl_t rfl, iteT ?_⟩
      refine ⟨_, rfl, _, _, _, _, true, rfl, .ty _, .base (.str _), kit_ty (by decide +kernel), _, rfl, _, _, _, _, true, rfl, .ty _, .base (.str _), kit_ty (by decide +kernel), rfl, ?_⟩
      show Q (.bl (decide (V.bl true = V.bl true))) _
      rw [dt]
      exact q _ sm
theorem ok_lk1 {f : Addr} {fd : FuncData} (F : Fun K "_law_alike" "_law_alike" sLk f fd) (Nm : Names mg) (L : Cl P w K mg base 1 "_law_alike" ["_law_found", "_law_due"] spL0 f fd) : FnOk P w K mg base CX0 2 f fd ["_law_found", "_law_due"] spL1 := by
  refine F.ok scLk (fun vs H Q E h => ?_) (fun cdv A outer s0 H vs Q E hr h => ?_)
  · obtain ⟨a, b, xs, rfl, _⟩ := h
    rfl
  · obtain ⟨a, b, xs, rfl, ha, hb, hx, hl, q⟩ := h
    refine ⟨_, pss_cons (ps_if (pt_val (pe_callB call_isiT (by rfl) Nm.isi (by decide +kernel) (pa_cons (pv 1) (pa_cons (pe_tup (pa_cons (pe_bltn (v := .ty "tuple") (by rfl) Nm.tuple (by decide +kernel) rfl) (pa_cons (pe_bltn (v := .ty "list") (by rfl) Nm.list (by decide +kernel) rfl) pa_nil))) pa_nil))))
        (pss_cons (ps_if (PW.pt (pw_or (pt_not (pt_val (pe_callB call_isiT (by rfl) Nm.isi (by decide +kernel) (pa_cons (pv 0) (pa_cons (pe_tup (pa_cons (pe_bltn (v := .ty "tuple") (by rfl) Nm.tuple (by decide +kernel) rfl) (pa_cons (pe_bltn (v := .ty "list") (by rfl) Nm.list (by decide +kernel) rfl) pa_nil))) pa_nil)))))
            (pw_or1 (pt_cmpR op_ne (pe_callB call_isi (by rfl) Nm.isi (by decide +kernel) (pa_cons (pv 0) (pa_cons (pe_bltn (v := .ty "list") (by rfl) Nm.list (by decide +kernel) rfl) pa_nil)))
              (pe_callB call_isi (by rfl) Nm.isi (by decide +kernel) (pa_cons (pv 1) (pa_cons (pe_bltn (v := .ty "list") (by rfl) Nm.list (by decide +kernel) rfl) pa_nil))) (nomark _))))) (pss_one (ps_ret pe_bl)) pss_nil)
        (pss_cons (ps_if (pt_cmpR op_ne (pe_callB call_len_seq (by rfl) Nm.len PySem.boot_len (pa_cons (pv 0) pa_nil)) (pe_callB call_len_seq (by rfl) Nm.len PySem.boot_len (pa_cons (pv 1) pa_nil)) (nomark _)) (pss_one (ps_ret pe_bl)) pss_nil)
        (pss_one (ps_ret (pe_cmpR (op_eqD hr.units) (pe_lc (own := [("_law_k", 2)]) (g := gName 2) rfl scLk.nd (pi_range1 (by rfl) Nm.range (pa_cons (pe_callB call_len_seq (by rfl) Nm.len PySem.boot_len (pa_cons (pv 1) pa_nil)) pa_nil))
            (blkOk_by (own := [("_law_k", 2)]) (N := ["_law_found", "_law_due", "_law_k"]) (sc := defScope sLk) (by decide +kernel)) (fun _ _ _ _ _ => pg_name (i := 2) scLk.nd rfl (Or.inl rfl))
            (fun _ _ _ _ _ => pts_one (pt_not (pt_val (pe_call L.ok hr (by rfl) L.g L.kp L.b .nil pass0 (pa_cons (pe_ix (r := rIxL K) ix_list (pv 0) (pv 2) (fun _ _ => rfl)) (pa_cons (pe_ix (r := rIxL K) ix_list (pv 1) (pv 2) (fun _ _ => rfl)) pa_nil))))))
            (fun _ _ _ _ _ => pv 2)) (pe_lst pa_nil) (nomark _)))))) pss_nil) pss_never, ?_⟩
    refine ⟨_, rfl, (by show 2 ≤ sizeLine; decide), fun t nt => ⟨_, t, _, _, _, true, rfl, upd_same, .cons (.ty _) (.cons (.ty _) .nil), .base (.lst (same_upd nt _ _ hb)), kt2 (by decide +kernel) (by decide +kernel), true, rfl, iteT ?_⟩⟩
    have sm1 := same_upd (o := .tup [.ty "tuple", .ty "list"]) nt
    have ha1 := sm1 _ _ ha
    have hb1 := sm1 _ _ hb
    generalize upd H t (.tup [.ty "tuple", .ty "list"]) = H1 at sm1 ha1 hb1 ⊢
    refine ⟨_, rfl, (by show 2 ≤ sizeLine; decide), fun t nt => ⟨_, t, _, _, _, true, rfl, upd_same, .cons (.ty _) (.cons (.ty _) .nil), .base (.lst (same_upd nt _ _ ha1)), kt2 (by decide +kernel) (by decide +kernel), true, rfl, iteF ?_⟩⟩
    have sm2 := sm1.trans (same_upd (o := .tup [.ty "tuple", .ty "list"]) nt)
    have ha2 := same_upd (o := .tup [.ty "tuple", .ty "list"]) nt _ _ ha1
    have hb2 := same_upd (o := .tup [.ty "tuple", .ty "list"]) nt _ _ hb1
    generalize upd H1 t (.tup [.ty "tuple", .ty "list"]) = H2 at sm2 ha2 hb2 ⊢
    refine ⟨_, rfl, _, _, _, _, true, rfl, .ty _, .base (.lst ha2), kit_ty (by decide +kernel), _, rfl, _, _, _, _, true, rfl, .ty _, .base (.lst hb2), kit_ty (by decide +kernel), rfl, false, rfl, iteF ?_⟩
    refine ⟨_, rfl, a, xs, rfl, .inl (.inl (.inl ha2)), _, rfl, b, xs, rfl, .inl (.inl (.inl hb2)), rfl, _, rfl, ?_⟩
    show if (!decide (V.int ((xs.length : Nat) : Int) = V.int ((xs.length : Nat) : Int))) = true then _ else _
    refine iteNS rfl ?_
    refine ⟨_, rfl, b, xs, rfl, .inl (.inl (.inl hb2)), _, rfl, by omega, by omega, fun D nD => ?_⟩
    have haD : a ≠ D := ne_of_none ha2 nD
    have hbD : b ≠ D := ne_of_none hb2 nD
    refine lc_it walk_range (fun i H' => Same H H' ∧ H' a = some (.lst xs) ∧ H' b = some (.lst xs) ∧ H' D = some (.lst [])) ⟨sm2.trans (same_upd nD), by rw [upd_ne haD]; exact ha2, by rw [upd_ne hbD]; exact hb2, upd_same⟩ (fun _ _ _ _ => True.intro) (fun i x H3 H4 hi hpv hy => ?_) fun H3 hpv => ?_
    · obtain ⟨sm3, ha3, hb3, hD3⟩ := hpv
      obtain ⟨rfl, rfl⟩ := hy
      have hi : i < xs.length := by omega
      have gx : atI xs (0 + (i : Int)) = some xs[i] := at_of (j := i) (by omega) (List.getElem?_eq_getElem hi)
      refine ⟨rfl, _, rfl, _, rfl, a, xs, _, _, rfl, rfl, .inl (.inl ha3), gx, _, rfl, _, rfl, b, xs, _, _, rfl, rfl, .inl (.inl hb3), gx, xs[i], rfl, hx _ (List.getElem_mem hi), fun H5 sm5 => ⟨true, rfl, ?_⟩⟩
      exact iteF ⟨sm3.trans sm5, sm5 _ _ ha3, sm5 _ _ hb3, sm5 _ _ hD3⟩
    · obtain ⟨sm3, ha3, hb3, hD3⟩ := hpv
      refine ⟨Nat.zero_le _, fun p np => ?_⟩
      exact eq_nil (l := ([] : List V)) (v := id) (d := fun _ => .none) (same_upd np _ _ hD3) upd_same (fun _ h => by cases h) (fun _ h => by cases h) (q _ (sm3.trans (same_upd np)))
end
end K07
/-! The plain law, part 5: shortest. -/
namespace K07
abbrev Ent := List (Nat × Wd)
def putN (l : Ent) (q : Nat) (m : Wd) : Ent := if q ∈ l.map (·.1) then l.map (fun e => if e.1 = q then (q, m) else e) else l ++ [(q, m)]
def getN (l : Ent) (q : Nat) : Option Wd := (l.find? fun e => decide (e.1 = q)).map (·.2)
def mn (a b : Wd) : Wd := if b < a then b else a
def upS (S : List Nat) (D : Ent) (e : Nat × Wd) : Ent := if e.1 ∈ S then D else putN D e.1 (mn ((getN D e.1).getD e.2) e.2)
theorem mn_or (a b : Wd) : mn a b = a ∨ mn a b = b := by
  unfold mn
  split
  · exact .inr rfl
  · exact .inl rfl
theorem mn_le (a b : Wd) : ¬ a < mn a b ∧ ¬ b < mn a b := by
  unfold mn
  split
  · next h => exact ⟨fun z => List.lt_irrefl _ (List.lt_trans h z), List.lt_irrefl _⟩
  · next h => exact ⟨List.lt_irrefl _, h⟩
theorem ge_trans {a b c : Wd} (h1 : ¬ b < a) (h2 : ¬ c < b) : ¬ c < a := by
  have x1 : a ≤ b := List.not_lt.mp h1
  have x2 : b ≤ c := List.not_lt.mp h2
  exact List.not_lt.mpr (List.le_trans x1 x2)
theorem getN_some {D : Ent} {q : Nat} {m : Wd} (h : getN D q = some m) : (q, m) ∈ D := by
  unfold getN at h
  obtain ⟨e, h1, rfl⟩ := Option.map_eq_some_iff.mp h
  have h2 := List.find?_some h1
  have h3 := List.mem_of_find?_eq_some h1
  have : e.1 = q := of_decide_eq_true h2
  rw [← this]
  exact h3
theorem getN_none {D : Ent} {q : Nat} (h : getN D q = none) : q ∉ D.map (·.1) := by
  unfold getN at h
  rw [Option.map_eq_none_iff, List.find?_eq_none] at h
  intro hm
  obtain ⟨e, he, e1⟩ := List.mem_map.mp hm
  exact h e he (decide_eq_true e1)
theorem putN_keys {D : Ent} {q : Nat} {m : Wd} : ∀ x, x ∈ (putN D q m).map (·.1) ↔ x ∈ D.map (·.1) ∨ x = q := fun x => by
  unfold putN
  split
  · next h =>
    have e : (D.map fun e => if e.1 = q then (q, m) else e).map (·.1) = D.map (·.1) := by
      rw [List.map_map]
      apply List.map_congr_left
      intro a _
      simp only [Function.comp]
      split
      · next e => exact e.symm
      · rfl
    rw [e]
    constructor
    · exact .inl
    · rintro (h' | rfl)
      · exact h'
      · exact h
  · rw [List.map_append, List.mem_append]
    simp
theorem putN_nd {D : Ent} {q : Nat} {m : Wd} (h : (D.map (·.1)).Nodup) : ((putN D q m).map (·.1)).Nodup := by
  unfold putN
  split
  · have e : (D.map fun e => if e.1 = q then (q, m) else e).map (·.1) = D.map (·.1) := by
      rw [List.map_map]
      apply List.map_congr_left
      intro a _
      simp only [Function.comp]
      split
      · next e => exact e.symm
      · rfl
    rw [e]
    exact h
  · next hn =>
    rw [List.map_append, List.nodup_append]
    refine ⟨h, by simp, fun a ha b hb => ?_⟩
    have : b = q := by simpa using hb
    rintro rfl
    exact hn (this ▸ ha)
theorem putN_mem {D : Ent} {q x : Nat} {m y : Wd} (h : (x, y) ∈ putN D q m) : (x = q ∧ y = m) ∨ (x ≠ q ∧ (x, y) ∈ D) := by
  unfold putN at h
  split at h
  · obtain ⟨e, he, e1⟩ := List.mem_map.mp h
    split at e1
    · obtain ⟨rfl, rfl⟩ := Prod.mk.inj e1
      exact .inl ⟨rfl, rfl⟩
    · next hn =>
      subst e1
      exact .inr ⟨hn, he⟩
  · next hn =>
    rcases List.mem_append.mp h with h | h
    · refine .inr ⟨fun e => hn ?_, h⟩
      rw [← e]
      exact List.mem_map.mpr ⟨_, h, rfl⟩
    · have : (x, y) = (q, m) := by simpa using h
      obtain ⟨rfl, rfl⟩ := Prod.mk.inj this
      exact .inl ⟨rfl, rfl⟩
structure Best (S : List Nat) (Pr : Nat → Wd → Prop) (D : Ent) : Prop where
  nd : (D.map (·.1)).Nodup
  ok : ∀ q m, (q, m) ∈ D → q ∉ S ∧ Pr q m ∧ ∀ m', Pr q m' → ¬ m' < m
  all : ∀ q m, Pr q m → q ∉ S → q ∈ D.map (·.1)
theorem Best.start (S : List Nat) : Best S (fun _ _ => False) [] where
  nd := List.nodup_nil
  ok := fun _ _ h => by cases h
  all := fun _ _ h => absurd h id
theorem Best.congr {S : List Nat} {Pr Pr' : Nat → Wd → Prop} {D : Ent} (h : Best S Pr D) (e : ∀ q m, Pr' q m ↔ Pr q m) : Best S Pr' D :=
  ⟨h.nd, fun q m hm => ⟨(h.ok q m hm).1, (e q m).mpr (h.ok q m hm).2.1, fun m' h' => (h.ok q m hm).2.2 m' ((e q m').mp h')⟩, fun q m hm => h.all q m ((e q m).mp hm)⟩
theorem Best.step {S : List Nat} {Pr : Nat → Wd → Prop} {D : Ent} (h : Best S Pr D) (q : Nat) (m : Wd) : Best S (fun q' m' => Pr q' m' ∨ (q' = q ∧ m' = m)) (upS S D (q, m)) := by
  unfold upS
  by_cases hq : q ∈ S
  · rw [if_pos (show (q, m).1 ∈ S from hq)]
    refine ⟨h.nd, fun q' m' hm => ?_, fun q' m' hp hn => ?_⟩
    · obtain ⟨k1, k2, k3⟩ := h.ok q' m' hm
      refine ⟨k1, .inl k2, fun m2 h2 => ?_⟩
      rcases h2 with h2 | ⟨rfl, _⟩
      · exact k3 m2 h2
      · exact absurd hq k1
    · rcases hp with hp | ⟨rfl, _⟩
      · exact h.all q' m' hp hn
      · exact absurd hq hn
  · rw [if_neg (show ¬ (q, m).1 ∈ S from hq)]
    show Best S _ (putN D q (mn ((getN D q).getD m) m))
    refine ⟨putN_nd h.nd, fun q' m' hm => ?_, fun q' m' hp hn => ?_⟩
    · rcases putN_mem hm with ⟨rfl, rfl⟩ | ⟨hne, hm⟩
      · refine ⟨hq, ?_, fun m2 h2 => ?_⟩
        · cases hg : getN D q' with
          | none =>
            rw [Option.getD_none]
            right
            refine ⟨rfl, ?_⟩
            rcases mn_or m m with e | e <;> exact e
          | some m0 =>
            rw [Option.getD_some]
            rcases mn_or m0 m with e | e
            · left
              rw [e]
              exact (h.ok q' m0 (getN_some hg)).2.1
            · right
              exact ⟨rfl, e⟩
        · cases hg : getN D q' with
          | none =>
            rw [Option.getD_none]
            rcases h2 with h2 | ⟨_, rfl⟩
            · exact absurd (h.all q' m2 h2 hq) (getN_none hg)
            · exact (mn_le m2 m2).1
          | some m0 =>
            rw [Option.getD_some]
            rcases h2 with h2 | ⟨_, rfl⟩
            · exact ge_trans (mn_le m0 m).1 ((h.ok q' m0 (getN_some hg)).2.2 m2 h2)
            · exact (mn_le m0 m2).2
      · obtain ⟨k1, k2, k3⟩ := h.ok q' m' hm
        refine ⟨k1, .inl k2, fun m2 h2 => ?_⟩
        rcases h2 with h2 | ⟨rfl, _⟩
        · exact k3 m2 h2
        · exact absurd rfl hne
    · rcases hp with hp | ⟨rfl, _⟩
      · exact (putN_keys q').mpr (.inl (h.all q' m' hp hn))
      · exact (putN_keys q').mpr (.inr rfl)
/-- one sign more behind words of one length -/
theorem lt_snoc : ∀ {u v : Wd} {c : Nat}, u.length = v.length → v ++ [c] < u ++ [c] → v < u
  | [], [], c, _, h => absurd h (List.lt_irrefl _)
  | [], _ :: _, _, hl, _ => by simp at hl
  | _ :: _, [], _, hl, _ => by simp at hl
  | a :: u, b :: v, c, hl, h => by
    rcases List.cons_lt_cons_iff.mp h with h1 | ⟨e, h1⟩
    · exact List.cons_lt_cons_iff.mpr (.inl h1)
    · exact List.cons_lt_cons_iff.mpr (.inr ⟨e, lt_snoc (by simpa using hl) h1⟩)
structure SH (f : Wd) (k : Nat) (E : Ent) (S : List Nat) : Prop where
  nd : (E.map (·.1)).Nodup
  sn : S.Nodup
  seen : ∀ p, p ∈ S ↔ ∃ g, g.length ≤ k ∧ Go f 0 g p
  ok : ∀ p w, (p, w) ∈ E → (∃ g, w = at_ f 0 :: g ∧ g.length = k ∧ Go f 0 g p) ∧ ∀ g', g'.length = k → Go f 0 g' p → ¬ (at_ f 0 :: g') < w
  all : ∀ g p, g.length = k → Go f 0 g p → p ∈ E.map (·.1) ∨ ∃ g', g'.length < k ∧ Go f 0 g' p
  no : ∀ g p, g.length < k → Go f 0 g p → ¬ Acc f p
/-- the words one step further -/
def Nxt (f : Wd) (E : Ent) (q : Nat) (m : Wd) : Prop := ∃ p w c, (p, w) ∈ E ∧ (c, q) ∈ nx f p ∧ m = w ++ [c]
theorem SH.start (f : Wd) : SH f 0 [(0, [at_ f 0])] [0] where
  nd := by simp
  sn := by simp
  seen := (SL.start f).seen_
  ok := fun p w h => by
    have : (p, w) = (0, [at_ f 0]) := by simpa using h
    obtain ⟨rfl, rfl⟩ := Prod.mk.inj this
    refine ⟨⟨[], rfl, rfl, rfl⟩, fun g' hl _ => ?_⟩
    have : g' = [] := List.length_eq_zero_iff.mp hl
    subst this
    exact List.lt_irrefl _
  all := fun g p hl hg => by
    have : g = [] := List.length_eq_zero_iff.mp hl
    subst this
    have : p = 0 := hg
    subst this
    exact .inl (by simp)
  no := fun g p hl _ => by omega
theorem SH.next {f : Wd} {k : Nat} {E D : Ent} {S : List Nat} (h : SH f k E S) (na : ∀ p w, (p, w) ∈ E → ¬ Acc f p) (lt : Best S (Nxt f E) D) : SH f (k + 1) D (S ++ D.map (·.1)) := by
  have key : ∀ g p, g.length = k + 1 → Go f 0 g p → p ∈ S ∨ ∃ g1 c r w, g = g1 ++ [c] ∧ g1.length = k ∧ Go f 0 g1 r ∧ (c, p) ∈ nx f r ∧ (r, w) ∈ E := by
    intro g p hl hg
    obtain ⟨g1, c, rfl, hl1⟩ := unsnoc hl
    obtain ⟨r, k1, k2⟩ := go_snoc.mp hg
    rcases h.all g1 r hl1 k1 with hr | ⟨g', hl', hg'⟩
    · obtain ⟨⟨r', w⟩, hrw, e⟩ := List.mem_map.mp hr
      have : r' = r := e
      subst this
      exact .inr ⟨g1, c, r', w, rfl, hl1, k1, k2, hrw⟩
    · exact .inl ((h.seen p).mpr ⟨g' ++ [c], by rw [List.length_append, List.length_singleton]; omega, hg'.snoc k2⟩)
  have fromD : ∀ p w, (p, w) ∈ D → p ∉ S ∧ ∃ g, w = at_ f 0 :: g ∧ g.length = k + 1 ∧ Go f 0 g p := by
    intro p w hp
    obtain ⟨k1, ⟨r, u, c, k2, k3, rfl⟩, _⟩ := lt.ok p w hp
    obtain ⟨⟨g, rfl, hl, hg⟩, _⟩ := h.ok r u k2
    exact ⟨k1, g ++ [c], rfl, by rw [List.length_append, List.length_singleton, hl], hg.snoc k3⟩
  have reach : ∀ g p, g.length = k + 1 → Go f 0 g p → p ∈ S ++ D.map (·.1) := by
    intro g p hl hg
    by_cases hs : p ∈ S
    · exact List.mem_append_left _ hs
    · rcases key g p hl hg with z | ⟨g1, c, r, w, rfl, _, _, k2, k3⟩
      · exact absurd z hs
      · exact List.mem_append_right _ (lt.all p (w ++ [c]) ⟨r, w, c, k3, k2, rfl⟩ hs)
  refine ⟨lt.nd, ?_, fun p => ⟨fun hp => ?_, ?_⟩, fun p w hp => ⟨?_, fun g' hl hg => ?_⟩, fun g p hl hg => ?_, fun g p hl hg => ?_⟩
  · rw [List.nodup_append]
    refine ⟨h.sn, lt.nd, fun a ha b hb => ?_⟩
    obtain ⟨⟨b', w⟩, hbw, e⟩ := List.mem_map.mp hb
    have : b' = b := e
    subst this
    rintro rfl
    exact (fromD _ _ hbw).1 ha
  · rcases List.mem_append.mp hp with hp | hp
    · obtain ⟨g, hl, hg⟩ := (h.seen p).mp hp
      exact ⟨g, by omega, hg⟩
    · obtain ⟨⟨p', w⟩, hpw, e⟩ := List.mem_map.mp hp
      have : p' = p := e
      subst this
      obtain ⟨_, g, _, hl, hg⟩ := fromD _ _ hpw
      exact ⟨g, by omega, hg⟩
  · rintro ⟨g, hl, hg⟩
    by_cases e : g.length = k + 1
    · exact reach g p e hg
    · exact List.mem_append_left _ ((h.seen p).mpr ⟨g, by omega, hg⟩)
  · exact (fromD p w hp).2
  · obtain ⟨k1, ⟨r, u, c, k2, k3, rfl⟩, kmin⟩ := lt.ok p w hp
    rcases key g' p hl hg with z | ⟨g1, c', r', u', rfl, hl1, hg1, n2, n3⟩
    · exact absurd z k1
    · have ec : c' = c := by rw [← (nx_mem.mp n2).here, ← (nx_mem.mp k3).here]
      subst ec
      have m1 := kmin (u' ++ [c']) ⟨r', u', c', n3, n2, rfl⟩
      obtain ⟨⟨g2, e2, hl2, _⟩, min2⟩ := h.ok r' u' n3
      have m2 := min2 g1 hl1 hg1
      have m3 : ¬ (at_ f 0 :: (g1 ++ [c'])) < u' ++ [c'] := fun z => by
        apply m2
        have z : (at_ f 0 :: g1) ++ [c'] < u' ++ [c'] := z
        refine lt_snoc ?_ z
        rw [e2, List.length_cons, List.length_cons, hl1, hl2]
      exact ge_trans m1 m3
  · rcases List.mem_append.mp (reach g p hl hg) with hp | hp
    · obtain ⟨g', hl', hg'⟩ := (h.seen p).mp hp
      exact .inr ⟨g', by omega, hg'⟩
    · exact .inl hp
  · by_cases e : g.length = k
    · rcases h.all g p e hg with hp | ⟨g', hl', hg'⟩
      · obtain ⟨⟨p', w⟩, hpw, e⟩ := List.mem_map.mp hp
        have : p' = p := e
        subst this
        exact na _ _ hpw
      · exact h.no g' p hl' hg'
    · exact h.no g p (by omega) hg
theorem SH.le {f : Wd} {k : Nat} {E : Ent} {S : List Nat} (h : SH f k E S) (hf : f ≠ []) : k < f.length := by
  obtain ⟨g, q, e, hg, ha⟩ := out_self hf
  apply Decidable.byContradiction
  intro hk
  have hl : f.length = g.length + 1 := by
    have := congrArg List.length e
    rwa [List.length_cons] at this
  exact h.no g q (by omega) hg ha
theorem SH.lt {f : Wd} {k : Nat} {E : Ent} {S : List Nat} (h : SH f k E S) (hf : 0 < f.length) : (∀ p ∈ S, p < f.length) ∧ S.length ≤ f.length := by
  have hb : ∀ p ∈ S, p < f.length := fun p hp => by
    obtain ⟨g, _, hg⟩ := (h.seen p).mp hp
    exact hg.lt hf
  exact ⟨hb, below_le h.sn hb⟩
/-- the answer: an outcome, as short as any, and the first of these -/
def First (f w : Wd) : Prop := Out f w ∧ (∀ v, Out f v → w.length ≤ v.length) ∧ ∀ v, Out f v → v.length = w.length → ¬ v < w
theorem SH.end_ {f : Wd} {k : Nat} {E : Ent} {S : List Nat} (h : SH f k E S) {p : Nat} {w : Wd} (hp : (p, w) ∈ E) (ha : Acc f p) (hmin : ∀ p' w', (p', w') ∈ E → Acc f p' → ¬ w' < w) : First f w := by
  obtain ⟨⟨g, rfl, hl, hg⟩, _⟩ := h.ok p w hp
  refine ⟨⟨g, p, rfl, hg, ha⟩, ?_, ?_⟩
  · rintro v ⟨g2, q, rfl, hg2, hq⟩
    apply Decidable.byContradiction
    intro hk
    rw [List.length_cons, List.length_cons] at hk
    exact h.no g2 q (by omega) hg2 hq
  · rintro v ⟨g2, q, rfl, hg2, hq⟩ hlen
    rw [List.length_cons, List.length_cons] at hlen
    rcases h.all g2 q (by omega) hg2 with z | ⟨g', hl', hg'⟩
    · obtain ⟨⟨q', w'⟩, hqw, e⟩ := List.mem_map.mp z
      have : q' = q := e
      subst this
      exact ge_trans (hmin q' w' hqw hq) ((h.ok q' w' hqw).2 g2 (by omega) hg2)
    · exact absurd hq (h.no g' q hl' hg')
end K07
/-! Rules that the layer lacks, 2: the key lambda pair: pair[1], called. -/
namespace K07
open PySem PySem.Spec PyProof.Rows L2
/-- lambda x: x[1], by its parts -/
def lamParams (x : Str) (p : Pos) : Arguments := { posonlyargs := [], args := [{ arg := x, annotation := none, pos := p }], vararg := none, kwonlyargs := [], kw_defaults := [], kwarg := none, defaults := [] }
def lamBody (x : Str) (p1 p2 p3 : Pos) : Expr := .Subscript (.Name x p1) (.Constant (.int 1) 0 p2) p3
def lamScope (x : Str) : Scope := { kind := .function, names := [(x, .local)], isGenerator := false, isCoroutine := false, more := [] }
theorem kindOf_lam {x : Str} {L f : Addr} {cdv : Value} {qual : Str} {b : Addr} : (newEnv (lamScope x) L mainGlobals [] qual (some f) cdv none b).kindOf x = some .local := by
  show ([(x, NameKind.local)] : List (Str × NameKind)).lookup x = some .local
  rw [List.lookup_cons]
  simp
/-- x[1] of a pair, by a call of the lambda -/
theorem lam_call {prog : Program} {w : World} {A : Around} {E : Value → Shared → Prop} {s : Shared} {f c' T : Addr} {x qual : Str} {pp p1 p2 p3 : Pos} {pm ctv k v : Value} (hx : (x == ("__debug__" : Str)) = false) (hroom : A.depth < recursionLimit)
    (hf : s.heap.get? f = some (PySem.W.kla_obj "<lambda>" qual (lamParams x pp) (lamBody x p1 p2 p3) (lamScope x) [] pm c' ctv)) (hc : s.heap.CodeRec (.ref c') qual) (hl : s.heap.NoLimit) (hT : IsTup s.heap T #[k, v])
    (hb : bindArgs (PySem.W.kla_fn "<lambda>" qual (lamParams x pp) (lamBody x p1 p2 p3) (lamScope x) [] pm (.ref c') ctv) ⟨[.ref T], []⟩ = pure [(x, .ref T)])
    {Q : Value → Shared → Prop} (h : ∀ h' tk, (∀ b o, s.heap.get? b = some o → h'.get? b = some o) → Q v { s with heap := h', toks := tk }) :
    wpAny (model prog w) A (call (.ref f) [.ref T]) Q E s := by
  refine wpAny_call (PySem.W.kla_callFunE hroom hf rfl rfl rfl rfl hc ?_)
  rw [hb]
  refine wpAny_pure (wpAny_newFunctionEnv (fun y hy => ?_) (fun y hy => ?_) (fun h₁ hns hsb => ⟨hl.fresh _ hsb, ?_⟩) rfl)
  · have : y = (x, NameKind.local) := by simpa [lamScope] using hy
    subst this
    intro z
    cases z
  · have : y = (x, Value.ref T) := by simpa using hy
    subst this
    show ([(x, NameKind.local)] : List (Str × NameKind)).lookup x = some .local
    rw [List.lookup_cons]
    simp
  · have kp : ∀ b o, s.heap.get? b = some o → h₁.get? b = some o := fun b o e => hsb.extBut b o (Nat.ne_of_lt (Heap.lt_size e)) (Heap.get?_push_of_some _ e)
    refine PySem.W.kla_codeExpr ?_
    refine Subscript_ (wpAny_Name (wpAny_loadName_local rfl kindOf_lam hns (v := .ref T) ?_ ?_) hx)
    · show ([(x, Value.ref T)] : List (Str × Value)).reverse.lookup x = some (Value.ref T)
      simp
    · refine wpAny_Constant_int ?_
      have hT1 : IsTup h₁ T #[k, v] := by
        obtain ⟨o, ho, r⟩ := hT
        exact ⟨o, kp _ _ ho, r⟩
      refine subscriptTail_builtinR (x := v) hT1.typeIs slot_tuple_getitem.lookup (getItem_tuple (j := 1) hT1 (by decide) (by decide) (by rfl) (by rfl) ⟨rfl, ?_⟩) (by with_unfolding_all rfl)
      exact h _ _ kp
end K07
/-! Rules that the layer lacks, 3: d.items() as a value; sorted of it, plain and by the key lambda; min of texts. -/
namespace K07
open PySem PySem.Spec PyProof.Rows L2
section
variable {X : Cx} {pins : List (Addr × Obj)} {σ : L2.St} {H : Hp} {s : Shared}
/-! ### a dict's entries, as the machine holds them -/
theorem ents_of {kvs : List (L2.Key × V)} {a : Addr} (I : Inv X pins σ H s) (ha : H a = some (.dK kvs)) : (a == sysModules) = false ∧ kvs.length ≤ sizeLine ∧ ∃ (es : Array DictEntry) (ep : Nat), DT.Raw s.heap a es ep ∧ es.size = kvs.length ∧
    ∀ (i : Nat) (k : L2.Key) (v : V) (e : DictEntry), kvs[i]? = some (k, v) → es[i]? = some e → RelV (kV k) e.key ∧ RelV v e.val := by
  obtain ⟨z, hd, vs, rel, dof⟩ := dk_of I.hok ha
  obtain ⟨es, ep, raw, hsz, hes⟩ := dof.raw
  have hl : kvs.length = vs.length := Paired.length rel
  refine ⟨hd, z, es, ep, raw, by omega, fun i k v e hk he => ?_⟩
  obtain ⟨u, hu, ru⟩ := kv_get rel hk
  obtain ⟨hi, e1⟩ := Array.getElem?_eq_some_iff.mp he
  obtain ⟨k1, k2⟩ := hes i hi k u hu
  rw [e1] at k1 k2
  exact ⟨relV_key (show keyIs k e.key = true from k1), by rw [k2]; exact ru⟩
def rItemsK : V → List V → Hp → VK → Prop := fun x xs H Q => ∃ (a : Addr) (kvs : List (L2.Key × V)), x = .ref a ∧ xs = [] ∧ H a = some (.dK kvs) ∧ ∀ p, H p = none → Q (.ref p) (upd H p (L2.DX.itemsO p a))
theorem mt_itemsK : MtR X "dict.items" rItemsK := by
  intro pins s σ H x xs v us Q I rx rxs h
  obtain ⟨a, kvs, rfl, rfl, ha, q⟩ := h
  cases rx
  cases rxs
  obtain ⟨hd, _, es, ep, raw, _⟩ := ents_of I ha
  refine DT.callItems (es := es) (ep := ep) hd raw ?_
  exact ⟨.ref s.heap.objs.size, _, I.laid (t' := s.toks) (fun _ _ e => Heap.get?_push_of_some _ e) (Nat.le_refl _) (L2.DX.itemsO_ok (Heap.get?_push_size _ rfl)), rfl, q _ (I.hok.fresh (Nat.le_refl _))⟩
/-! ### new pairs in a new list are tracked -/
theorem track {α : Type} {ad : α → Addr} {k v : α → V} {hF : Heap} {tk : Nat} (I : Inv X pins σ H s) (kp : ∀ b o, s.heap.get? b = some o → hF.get? b = some o) {l : Addr} {ts : List α} (hl : s.heap.objs.size ≤ l) (nd : (ts.map ad).Nodup)
    (hb : ∀ t ∈ ts, s.heap.objs.size ≤ ad t ∧ ad t ≠ l ∧ ∃ x y, RelV (k t) x ∧ RelV (v t) y ∧ hF.get? (ad t) = some { cls := .type "tuple", data := .seq #[x, y] }) {c : Nat}
    (hL : hF.get? l = some (seqObj "list" (ts.map fun t => Value.ref (ad t)).toArray c)) (hz : ts.length ≤ sizeLine) :
    ∃ H2, Inv X pins σ H2 { s with heap := hF, toks := tk } ∧ Same H H2 ∧ H l = none ∧ H2 l = some (.lst (ts.map fun t => V.ref (ad t))) ∧ ∀ t ∈ ts, H2 (ad t) = some (.tup [k t, v t]) := by
  have I1 : Inv X pins σ H { s with heap := hF, toks := tk } := I.kept (t' := tk) kp
  have hn0 : H l = none := I.hok.fresh hl
  have rv : Vals (ts.map fun t => V.ref (ad t)) (ts.map fun t => Value.ref (ad t)) := vals_maps (fun t : α => V.ref (ad t)) (fun t => Value.ref (ad t)) ts fun _ _ => rfl
  have I2 : Inv X pins σ (upd H l (.lst (ts.map fun t => V.ref (ad t)))) { s with heap := hF, toks := tk } :=
    I1.take (h' := hF) (t' := tk) (fun _ _ _ e => e) (I.fpOk hl hn0) ⟨by rw [List.length_map]; exact hz, _, c, rv, hL⟩
  obtain ⟨H2, I3, g, qt⟩ := L2.DX.takeT (P := fun b vs => ∃ t ∈ ts, ad t = b ∧ vs = [k t, v t]) I (ts.map ad) _ I2 nd fun b hbm => by
    obtain ⟨t, ht, rfl⟩ := List.mem_map.mp hbm
    obtain ⟨h1, h2, x, y, r1, r2, hg⟩ := hb t ht
    refine ⟨h1, by rw [upd_ne h2]; exact I.hok.fresh h1, [k t, v t], ⟨t, ht, rfl, rfl⟩, fun H3 => ⟨(by show 2 ≤ sizeLine; decide), [x, y], .cons r1 (.cons r2 .nil), ⟨_, hg, rfl, 0, rfl⟩⟩⟩
  refine ⟨H2, I3, fun b o e => g b o (by rw [upd_ne (ne_of_none e hn0)]; exact e), hn0, g _ _ upd_same, fun t ht => ?_⟩
  obtain ⟨vs, ⟨t', ht', e, ev⟩, hH⟩ := qt (ad t) (List.mem_map.mpr ⟨t, ht, rfl⟩)
  have : t' = t := by
    obtain ⟨i, hi, e1⟩ := List.mem_iff_getElem.mp ht'
    obtain ⟨j, hj, e2⟩ := List.mem_iff_getElem.mp ht
    have hij : i = j := by
      refine (List.getElem_inj (xs := ts.map ad) (h₀ := by simpa using hi) (h₁ := by simpa using hj) nd).mp ?_
      rw [List.getElem_map, List.getElem_map, e1, e2, e]
    subst hij
    rw [← e1, ← e2]
  subst this
  rw [ev] at hH
  exact hH
/-- a list just laid -/
theorem pushed (h : Heap) (vs : List Value) : (h.push { cls := .type "list", data := .seq vs.toArray }).get? h.objs.size = some (seqObj "list" vs.toArray 0) := Heap.get?_push_size _ rfl
theorem each_refs {α : Type} {ad : α → Addr} : ∀ {bs : List α}, PySem.W.EachIs (fun (v : Value) (b : α) => v = Value.ref (ad b)) (bs.map fun b => Value.ref (ad b)) bs
  | [] => .nil
  | _ :: _ => .cons rfl each_refs
theorem refs_each {α : Type} {ad : α → Addr} : ∀ {out : List Value} {bs : List α}, PySem.W.EachIs (fun (v : Value) (b : α) => v = Value.ref (ad b)) out bs → out = bs.map fun b => Value.ref (ad b)
  | _, _, .nil => rfl
  | _, _, .cons e r => by rw [e, refs_each r]; rfl
theorem each_of {α : Type} {ad : α → Addr} {R : Value → α → Prop} : ∀ {bs : List α}, (∀ b ∈ bs, R (.ref (ad b)) b) → PySem.W.EachIs R (bs.map fun b => Value.ref (ad b)) bs
  | [], _ => .nil
  | b :: bs, h => .cons (h b (List.mem_cons_self ..)) (each_of fun c hc => h c (List.mem_cons_of_mem _ hc))
/-- the new pairs of a view, with what they hold -/
theorem made_pairs {β : Type} {enc : β → L2.Key × V} {ks : List β} {es : Array DictEntry} {as : List Addr} {lo : Addr} {h' : Heap} (hsz : es.size = (ks.map enc).length) (hl : as.length = es.size) (hG : DT.Made es lo h' as)
    (hes : ∀ (i : Nat) (k : L2.Key) (v : V) (e : DictEntry), (ks.map enc)[i]? = some (k, v) → es[i]? = some e → RelV (kV k) e.key ∧ RelV v e.val) :
    ((as.zip ks).map (·.1)).Nodup ∧ (as.zip ks).map (·.1) = as ∧ (as.zip ks).map (·.2) = ks ∧ ∀ t ∈ as.zip ks, lo < t.1 ∧ ∃ x y, RelV (kV (enc t.2).1) x ∧ RelV (enc t.2).2 y ∧ h'.get? t.1 = some { cls := .type "tuple", data := .seq #[x, y] } := by
  rw [List.length_map] at hsz
  have e1 : (as.zip ks).map (·.1) = as := List.map_fst_zip (by omega)
  have e2 : (as.zip ks).map (·.2) = ks := List.map_snd_zip (by omega)
  refine ⟨by rw [e1]; exact List.Pairwise.imp (fun h => Nat.ne_of_lt h) hG.rise, e1, e2, fun t ht => ?_⟩
  obtain ⟨i, hi⟩ := List.mem_iff_getElem?.mp ht
  obtain ⟨h1, h2⟩ := List.getElem?_zip_eq_some.mp hi
  obtain ⟨e, he, hg⟩ := hG.pairs i t.1 h1
  obtain ⟨r1, r2⟩ := hes i (enc t.2).1 (enc t.2).2 e (by rw [List.getElem?_map, h2]; rfl) he
  exact ⟨hG.above t.1 (List.mem_of_getElem? h1), _, _, r1, r2, hg⟩
/-! ### sorted(d.items()), text keys, int values: in some order -/
def encSI (e : Str × Int) : L2.Key × V := (Sum.inr e.1, V.int e.2)
def rSortIt : List V → Hp → VK → Prop := fun vs H Q => ∃ (p a : Addr) (ks : List (Str × Int)), vs = [.ref p] ∧ H p = some (L2.DX.itemsO p a) ∧ H a = some (.dK (ks.map encSI)) ∧
  ∀ H' l (ts : List (Addr × Str × Int)), Same H H' → (ts.map (·.2)).Perm ks → H l = none → H' l = some (.lst (ts.map fun t => V.ref t.1)) → (∀ t ∈ ts, H' t.1 = some (.tup [.str t.2.1, .int t.2.2])) → Q (.ref l) H'
theorem cr_sortIt (hc : X.calm = true) (hu : X.A.units + 64 < cLine) : CallR X (.builtin "sorted") rSortIt := by
  intro pins s σ H xs us Q I r h
  obtain ⟨p, a, ks, rfl, hp, ha, q⟩ := h
  obtain rfl := Vals.ref1 r
  have view : s.heap.IsItemsView p a := (show ObjOk X.prog X.w H s.heap p (L2.DX.itemsO p a) from I.hok p _ hp).1
  obtain ⟨hd, hz, es, ep, raw, hsz, hes⟩ := ents_of I ha
  refine DT.sortedI (es := es) (ep := ep) (I.ok.hd hc) view raw (by omega) fun h' tk as hk hlt hl hG => ?_
  obtain ⟨nd, e1, e2, hpr⟩ := made_pairs hsz hl hG hes
  have hob := pushed h' (as.map Value.ref)
  have evs : as.map Value.ref = (as.zip ks).map fun t => Value.ref t.1 := by
    conv => lhs; rw [← e1]
    rw [List.map_map]
    rfl
  have hzl : (as.zip ks).length ≤ sizeLine := by
    rw [List.length_zip]
    rw [List.length_map] at hz
    omega
  show wpAny _ _ _ _ _ { s with heap := h'.push { cls := .type "list", data := .seq (as.map Value.ref).toArray }, toks := tk }
  have keep2 : ∀ b o, h'.get? b = some o → (h'.push { cls := .type "list", data := .seq (as.map Value.ref).toArray }).get? b = some o := fun b o e => Heap.get?_push_of_some _ e
  generalize h'.push { cls := .type "list", data := .seq (as.map Value.ref).toArray } = h2 at hob keep2 ⊢
  rw [evs] at hob
  have al : ∀ x y : Str × Int, PySem.W.alike (.tuple [.str x.1, .int x.2]) (.tuple [.str y.1, .int y.2]) = true := fun _ _ => rfl
  refine PySem.W.list_sort_data (s := { s with heap := h2, toks := tk }) (enc := fun t : Addr × Str × Int => .tuple [.str t.2.1, .int t.2.2]) hob each_refs (each_of fun t ht => ?_) (fun d hd d' hd' => ?_) (.inl fun d hd => ?_) hzl (fun t _ => ?_) fun out ho hE => ?_
  · obtain ⟨_, x, y, r1, r2, hg⟩ := hpr t ht
    obtain ⟨t1, rfl⟩ := r1
    obtain ⟨t2, rfl⟩ := r2
    exact ⟨_, .tuple (keep2 _ _ hg) rfl rfl (.cons (.str _ _) (.cons (.int _ _) .nil)), by simp⟩
  · obtain ⟨t, _, rfl⟩ := List.mem_map.mp hd
    obtain ⟨t', _, rfl⟩ := List.mem_map.mp hd'
    exact al _ _
  · obtain ⟨t, _, rfl⟩ := List.mem_map.mp hd
    exact ⟨_, _, rfl⟩
  · show X.A.units + 1 + 1 + 1 < cLine
    omega
  · have hout := refs_each hE
    have hperm := List.mergeSort_perm (as.zip ks) (PySem.W.dataLe false fun t : Addr × Str × Int => .tuple [.str t.2.1, .int t.2.2])
    generalize (as.zip ks).mergeSort (PySem.W.dataLe false fun t : Addr × Str × Int => .tuple [.str t.2.1, .int t.2.2]) = ts at hout hperm
    obtain ⟨eF, heF⟩ := PyProof.Rows.sortedHeap_at (vs := (as.zip ks).map fun t => Value.ref t.1) (out := List.toArray out) hob
    have lne : ∀ b o, h'.get? b = some o → b ≠ h'.objs.size := fun b o e => Nat.ne_of_lt (Heap.lt_size e)
    have kF : ∀ b o, h'.get? b = some o → (sortedHeap h2 h'.objs.size ((as.zip ks).map fun t => Value.ref t.1) (List.toArray out)).get? b = some o := fun b o e =>
      (PyProof.Rows.sortedHeap_old (lne b o e) (Heap.lt_size (keep2 b o e))).trans (keep2 b o e)
    rw [hout] at heF kF ⊢
    obtain ⟨H2, I2, sm, hn, hL, hT⟩ := track (ad := fun t : Addr × Str × Int => t.1) (k := fun t => V.str t.2.1) (v := fun t => V.int t.2.2) (tk := tk) I (fun b o e => kF b o (hk b o e)) (l := h'.objs.size) (ts := ts) (Nat.le_of_lt hlt) ((hperm.map (·.1)).nodup_iff.mpr nd)
      (fun t ht => by
        obtain ⟨h1, x, y, r1, r2, hg⟩ := hpr t (hperm.mem_iff.mp ht)
        exact ⟨Nat.le_of_lt h1, lne _ _ hg, x, y, r1, r2, kF _ _ hg⟩) heF (by rw [hperm.length_eq]; exact hzl)
    refine ⟨.ref h'.objs.size, H2, I2, rfl, q H2 _ ts sm ?_ hn hL hT⟩
    have := hperm.map (·.2)
    rwa [e2] at this
end
end K07
/-! Rules that the layer lacks, 4: sorted(d.items(), key=lambda x: x[1]), int keys, text values: in some order. -/
namespace K07
open PySem PySem.Spec PyProof.Rows L2
/-- sorted(view, ..) up to the sort of the new pairs -/
theorem sorted_view_kw {prog : Program} {w : World} {A : Around} {E : Value → Shared → Prop} {s : Shared} {r d : Addr} {es : Array DictEntry} {ep : Nat} {kw : List (Str × Value)} {Q : Value → Shared → Prop} (ha1 : argsOk "sorted" ⟨[.ref r], kw⟩)
    (hh : A.handled = none) (hv : s.heap.IsItemsView r d) (hm : DT.Raw s.heap d es ep) (hn : es.size ≤ sizeLine)
    (h : ∀ (h' : Heap) (tk : Nat) (as : List Addr), (∀ b o, s.heap.get? b = some o → h'.get? b = some o) → s.heap.objs.size < h'.objs.size → as.length = es.size → DT.Made es s.heap.objs.size h' as →
      wpAny (model prog w) A.in1 (call (.builtin "list.sort") [.ref h'.objs.size] kw) (fun _ s' => Q (.ref h'.objs.size) s') E { s with heap := h'.push { cls := .type "list", data := .seq (as.map Value.ref).toArray }, toks := tk }) :
    wpAny (model prog w) A (call (.builtin "sorted") [.ref r] kw) Q E s := by
  refine call_function_entry_kw kind_sorted plain_sorted entry_sorted ha1 ?_
  unfold Builtin.«sorted»
  refine wpAny_bind (m := checkCount "sorted" 1 1 _) (wpAny_pure ?_)
  refine wpAny_bind (DT.collectI (A := A.in1) (es := es) (ep := ep) hh hv hm hn fun h' tk as hk hlt hl hG => wpAny_bind (wpAny_newList ?_ (by rw [List.length_map, hl]; exact hn)))
  exact wpAny_bind (wpAny_holding (wpAny_mono (h h' tk as hk hlt hl hG) (fun _ s' x => wpAny_pure ⟨_, rfl, x⟩) fun _ _ e => e))
def encIS (e : Int × Str) : L2.Key × V := (Sum.inl e.1, V.str e.2)
section
variable {X : Cx} {pins : List (Addr × Obj)} {σ : L2.St} {H : Hp} {s : Shared}
/-- the sort, from the state in which the lambda has just been made -/
theorem sort_key {x qual : Str} {pp p1 p2 p3 : Pos} {pm ctv : Value} {p a f c' : Addr} {ks : List (Int × Str)} {Q : VK} (I : Inv X pins σ H s) (hc : X.calm = true) (hu : X.A.units + 64 < cLine) (hd : X.A.depth < recursionLimit) (hx : (x == ("__debug__" : Str)) = false)
    (hp : H p = some (L2.DX.itemsO p a)) (ha : H a = some (.dK (ks.map encIS)))
    (hf : s.heap.get? f = some (PySem.W.kla_obj "<lambda>" qual (lamParams x pp) (lamBody x p1 p2 p3) (lamScope x) [] pm c' ctv)) (hcd : s.heap.CodeRec (.ref c') qual)
    (hb : ∀ T, bindArgs (PySem.W.kla_fn "<lambda>" qual (lamParams x pp) (lamBody x p1 p2 p3) (lamScope x) [] pm (.ref c') ctv) ⟨[.ref T], []⟩ = pure [(x, .ref T)])
    (q : ∀ H' l (ts : List (Addr × Int × Str)), Same H H' → (ts.map (·.2)).Perm ks → H l = none → H' l = some (.lst (ts.map fun t => V.ref t.1)) → (∀ t ∈ ts, H' t.1 = some (.tup [.int t.2.1, .str t.2.2])) → Q (.ref l) H') :
    wpAny (model X.prog X.w) X.A (call (.builtin "sorted") [.ref p] [(Str.ofString "key", .ref f)]) (EP X pins σ Q) X.xe s := by
  have view : s.heap.IsItemsView p a := (show ObjOk X.prog X.w H s.heap p (L2.DX.itemsO p a) from I.hok p _ hp).1
  obtain ⟨hd2, hz, es, ep, raw, hsz, hes⟩ := ents_of I ha
  refine sorted_view_kw (es := es) (ep := ep) (PyProof.Rows.ksk_s1 _ _) (I.ok.hd hc) view raw (by omega) fun h' tk as hk hlt hl hG => ?_
  obtain ⟨nd, e1, e2, hpr⟩ := made_pairs hsz hl hG hes
  have hob := pushed h' (as.map Value.ref)
  have evs : as.map Value.ref = (as.zip ks).map fun t => Value.ref t.1 := by
    conv => lhs; rw [← e1]
    rw [List.map_map]
    rfl
  have hzl : (as.zip ks).length ≤ sizeLine := by
    rw [List.length_zip]
    rw [List.length_map] at hz
    omega
  show wpAny _ _ _ _ _ { s with heap := h'.push { cls := .type "list", data := .seq (as.map Value.ref).toArray }, toks := tk }
  have keep2 : ∀ b o, h'.get? b = some o → (h'.push { cls := .type "list", data := .seq (as.map Value.ref).toArray }).get? b = some o := fun b o e => Heap.get?_push_of_some _ e
  have lne : ∀ b o, h'.get? b = some o → b ≠ h'.objs.size := fun b o e => Nat.ne_of_lt (Heap.lt_size e)
  generalize h'.push { cls := .type "list", data := .seq (as.map Value.ref).toArray } = h2 at hob keep2 ⊢
  rw [evs] at hob
  refine PySem.W.list_sort_key_data (s := { s with heap := h2, toks := tk }) (b := false) (f := .ref f) (R := fun (v : Value) (t : Addr × Int × Str) => v = Value.ref t.1) (fun t : Addr × Int × Str => .str t.2.2) hob each_refs (fun d hd d' hd' => ?_) (PySem.W.Sortable.others fun t => ⟨nofun, nofun⟩) hzl (fun t _ => ?_)
    (PyProof.Rows.ksk_l1 _ _) (PyProof.Rows.ksk_t1 _ _) (fun v t hv ht h tk2 kb => ?_) fun out c hF tkF kb hL ho hE => ?_
  · obtain ⟨t, _, rfl⟩ := List.mem_map.mp hd
    obtain ⟨t', _, rfl⟩ := List.mem_map.mp hd'
    rfl
  · show X.A.units + 1 + 1 + 0 < cLine
    omega
  · subst hv
    have kp : ∀ b o, s.heap.get? b = some o → h.get? b = some o := fun b o e => kb b o (lne b o (hk b o e)) (keep2 b o (hk b o e))
    obtain ⟨_, u, y, r1, r2, hg⟩ := hpr t ht
    obtain ⟨t2, rfl⟩ := r2
    have hT : IsTup h t.1 #[u, .str t.2.2 t2] := ⟨_, kb _ _ (lne _ _ hg) (keep2 _ _ hg), rfl, 0, rfl⟩
    have hcd2 : h.CodeRec (.ref c') qual := by
      obtain ⟨c, oc, vs, tq, h1, h2, h3, h4⟩ := hcd
      exact ⟨c, oc, vs, tq, h1, kp _ _ h2, h3, h4⟩
    refine lam_call (A := X.A.in1.in1) (s := { s with heap := h, toks := tk2 }) hx hd (kp _ _ hf) hcd2 (I.nolimit.keeps kp) hT (hb t.1) fun h3 tk3 kp3 => ?_
    exact ⟨h3, tk3, rfl, kp3, .str _ _⟩
  · have hout := refs_each hE
    have hperm := List.mergeSort_perm (as.zip ks) (PySem.W.dataLe false fun t : Addr × Int × Str => .str t.2.2)
    generalize (as.zip ks).mergeSort (PySem.W.dataLe false fun t : Addr × Int × Str => .str t.2.2) = ts at hout hperm
    rw [hout] at hL
    have kF : ∀ b o, h'.get? b = some o → hF.get? b = some o := fun b o e => kb b o (lne b o e) (keep2 b o e)
    obtain ⟨H2, I2, sm, hn, hL2, hT⟩ := track (ad := fun t : Addr × Int × Str => t.1) (k := fun t => V.int t.2.1) (v := fun t => V.str t.2.2) (tk := tkF) I (fun b o e => kF b o (hk b o e)) (l := h'.objs.size) (ts := ts) (Nat.le_of_lt hlt) ((hperm.map (·.1)).nodup_iff.mpr nd)
      (fun t ht => by
        obtain ⟨h1, x, y, r1, r2, hg⟩ := hpr t (hperm.mem_iff.mp ht)
        exact ⟨Nat.le_of_lt h1, lne _ _ hg, x, y, r1, r2, kF _ _ hg⟩) hL (by rw [hperm.length_eq]; exact hzl)
    refine ⟨.ref h'.objs.size, H2, I2, rfl, q H2 _ ts sm ?_ hn hL2 hT⟩
    have := hperm.map (·.2)
    rwa [e2] at this
/-- sorted(e, key=lambda x: x[1]), e a view of the items of a dict from ints to texts; P: the table of the def's code object -/
def tSK (P : Addr) (q : Str) (ta : TA) : TE := fun σ H Q => ta σ H fun vs H1 => ∃ (p a : Addr) (ks : List (Int × Str)), vs = [.ref p] ∧ H1 p = some (L2.DX.itemsO p a) ∧ H1 a = some (.dK (ks.map encIS)) ∧ LamX.TabS H1 P q ∧
  ∀ H' l (ts : List (Addr × Int × Str)), LamX.ExtN H1 H' → LamX.TabS H' P q → (ts.map (·.2)).Perm ks → H' l = some (.lst (ts.map fun t => V.ref t.1)) → (∀ t ∈ ts, H' t.1 = some (.tup [.int t.2.1, .str t.2.2])) → Q (.ref l) H'
theorem pe_sortKey {e : Expr} {ta : TA} {x : Str} {p pos lpos kpos pp p1 p2 p3 : Pos} {c P : Addr} (hc : X.calm = true) (hu : X.A.units + 64 < cLine) (hd : X.A.depth < recursionLimit) (hg : Gl X "sorted") (hm : X.mg "sorted" = none) (TB : LamX.TabB X.base X.mg c P) (hcode : X.env.code = .ref c) (ha : PA X [e] ta)
    (hx : (x == ("__debug__" : Str)) = false) (hdef : defaultsOf (lamParams x pp) X.env = ([], []))
    (hb : ∀ (pm ctv : Value) (c' T : Addr), bindArgs (PySem.W.kla_fn "<lambda>" (X.env.qual ++ "<lambda>") (lamParams x pp) (lamBody x p1 p2 p3) (lamScope x) [] pm (.ref c') ctv) ⟨[.ref T], []⟩ = pure [(x, .ref T)])
    (he : backTo pos (starEach [e] X.env) = (false, eval e X.env) :: backTo pos (starEach [] X.env) := by rfl) (hpl : (backTo pos (starEach [e] X.env)).any (·.1) = false := by rfl) :
    PE X (.Call (.Name "sorted" p) [e] [⟨some "key", .Lambda (lamParams x pp) (lamBody x p1 p2 p3) (lamScope x) lpos, kpos⟩] pos) (tSK P (X.env.qual ++ "<lambda>") ta) := by
  refine ⟨fun pins s σ H Q I h => ?_⟩
  have hv : bootBuiltins (Str.ofString "sorted") = some (Value.builtin "sorted") := by decide +kernel
  refine wpAny_Call_Name_kw (ld_blt I hg hm hv ?_ (by decide) (by decide))
  refine PyProof.Rows.callWith_kw (id := "sorted") (thn (ha.run pos pins s σ H _ I h) fun us s1 ⟨vs, H1, I1, r1, pa, a, ks, e0, hp, hk, tb, q⟩ => ?_) he hpl (by rfl) (by rfl)
  subst e0
  obtain rfl := Vals.ref1 r1
  show wpAny _ _ (evalAll ((do let v ← eval (.Lambda (lamParams x pp) (lamBody x p1 p2 p3) (lamScope x) lpos) X.env; standAt pos; pure v) :: [])) _ _ s1
  have hT : LamX.Tabs [(P, X.env.qual ++ "<lambda>")] H1 := fun t ht => by
    have : t = (P, X.env.qual ++ "<lambda>") := by simpa using ht
    subst this
    exact tb
  refine wpAny_evalAll_cons (wpAny_bind (LamX.lam_make2 (T := [(P, X.env.qual ++ "<lambda>")]) I1 TB hcode (by simp) (fun t ht _ => by
    have : t = (P, X.env.qual ++ "<lambda>") := by simpa using ht
    rw [this]) hT hdef (fun y hy e => ?_) fun f c' pm ctv H2 s2 I2 ext tabs hf hfn hfr hco => wpAny_bind (wpAny_standAt (wpAny_pure (wpAny_evalAll_nil ?_)))))
  · have : y = (x, NameKind.local) := by simpa [lamScope] using hy
    rw [this] at e
    cases e
  · show wpAny _ _ (call (.builtin "sorted") [.ref pa] [(Str.ofString "key", .ref f)]) _ _ s2
    have hcl : cloFrom X.env.cells (lamScope x).names [] = [] := by
      unfold lamScope cloFrom
      rfl
    rw [hcl] at hf
    obtain ⟨⟨oc, vs, t, hoc, hdc, hvc⟩, _, _⟩ := I2.hok c' _ hco
    have h1 := ext _ _ hp (fun ps z => by unfold L2.DX.itemsO at z; cases z)
    have h2 := ext _ _ hk (fun ps z => by cases z)
    refine sort_key I2 hc hu hd hx h1 h2 hf ⟨c', oc, vs, t, rfl, hoc, hdc, hvc⟩ (hb pm ctv c') fun H' l ts sm pm hn hL hT => ?_
    exact q H' l ts (ext.trans (LamX.ExtN.of sm)) ((tabs _ (List.mem_cons_self ..)).ext sm) pm hL hT
end
end K07
/-! Rules that the layer lacks, 5: min of two texts, min of a list of texts. -/
namespace K07
open PySem PySem.Spec PyProof.Rows L2
/-- the place that min comes to: none is less -/
theorem best_at (g : Nat → List Nat) : ∀ k, argBest (fun i j => decide (g i < g j)) k ≤ k ∧ ∀ j, j ≤ k → ¬ g j < g (argBest (fun i j => decide (g i < g j)) k)
  | 0 => ⟨Nat.le_refl _, fun j hj => by
    have : j = 0 := by omega
    subst this
    exact List.lt_irrefl _⟩
  | k + 1 => by
    obtain ⟨h1, h2⟩ := best_at g k
    show (if decide (g (k + 1) < g (argBest _ k)) = true then k + 1 else argBest _ k) ≤ k + 1 ∧ ∀ j, j ≤ k + 1 → ¬ g j < g (if decide (g (k + 1) < g (argBest _ k)) = true then k + 1 else argBest _ k)
    by_cases h : g (k + 1) < g (argBest (fun i j => decide (g i < g j)) k)
    · rw [if_pos (decide_eq_true h)]
      refine ⟨Nat.le_refl _, fun j hj z => ?_⟩
      by_cases e : j = k + 1
      · subst e
        exact List.lt_irrefl _ z
      · exact h2 j (by omega) (List.lt_trans z h)
    · rw [if_neg (by rw [decide_eq_false h]; decide)]
      refine ⟨by omega, fun j hj z => ?_⟩
      by_cases e : j = k + 1
      · subst e
        exact h z
      · exact h2 j (by omega) z
theorem strs_len : ∀ {us : List Value} {ss : List Str}, StrsAre us ss → us.length = ss.length
  | _, _, .nil => rfl
  | _, _, .cons _ _ h => congrArg Nat.succ (strs_len h)
def rMinS (K : PySem.W.Frag) : List V → Hp → VK → Prop := fun vs H Q => ∃ (a : Addr) (xs : List Str), vs = [V.ref a] ∧ SqL K H a (xs.map V.str) ∧ 0 < xs.length ∧ ∀ m, m ∈ xs → (∀ y, y ∈ xs → ¬ y.cps.toList < m.cps.toList) → Q (.str m) H
theorem cr_minS {X : Cx} (hc : X.calm = true) : CallR X (.builtin "min") (rMinS X.K) := by
  intro pins s σ H vs us Q I r h
  obtain ⟨a, xs, rfl, hs, hne, q⟩ := h
  obtain ⟨its, rv, hl, hz⟩ := I.list hs
  obtain rfl := Vals.ref1 r
  have hS : StrsAre its xs := rv.strs
  have hlen := strs_len hS
  have hh : X.A.handled = none := I.ok.hd hc
  refine call_min_walkH (PySem.W.iter_listW (A := X.A.in1) hh hl.isList fun s₂ e W st hfp hw hk => ?_)
  refine ⟨_, _, _, _, _, _, _, s.heap, (fun i j => decide ((xs.getD i Str.empty).cps.toList < (xs.getD j Str.empty).cps.toList)), rfl, W, st, hfp, by rw [List.size_toArray]; omega, hw, hk, fun i j vi vj s' Q' E' _ hi hj hq => ?_, fun v s' hP m => ?_⟩
  · obtain ⟨t, rfl⟩ := SS.strs_at hS i vi (by simpa using hi)
    obtain ⟨t2, rfl⟩ := SS.strs_at hS j vj (by simpa using hj)
    exact DT.rcLt_str _ _ _ _ _ _ _ _ _ _ hq
  · obtain ⟨h', tk, rfl, hk'⟩ := PySem.W.moved_old e rfl m
    obtain ⟨h1, h2⟩ := best_at (fun i => (xs.getD i Str.empty).cps.toList) (its.toArray.size - 1)
    have hsz : its.toArray.size = its.length := List.size_toArray ..
    have hP' : its[argBest (fun i j => decide ((xs.getD i Str.empty).cps.toList < (xs.getD j Str.empty).cps.toList)) (its.toArray.size - 1)]? = some v := by
      rw [← hP, List.getElem?_toArray]
    generalize argBest (fun i j => decide ((xs.getD i Str.empty).cps.toList < (xs.getD j Str.empty).cps.toList)) (its.toArray.size - 1) = k at h1 h2 hP'
    obtain ⟨t, rfl⟩ := SS.strs_at hS k v hP'
    have hk : k < xs.length := by omega
    refine ⟨.str (xs.getD k Str.empty), H, I.kept hk', ⟨t, rfl⟩, q _ ?_ fun y hy => ?_⟩
    · rw [List.getD_eq_getElem?_getD, List.getElem?_eq_getElem hk]
      exact List.getElem_mem _
    · obtain ⟨j, hj, rfl⟩ := List.mem_iff_getElem.mp hy
      have := h2 j (by omega)
      have e : xs.getD j Str.empty = xs[j] := by rw [List.getD_eq_getElem?_getD, List.getElem?_eq_getElem hj]; rfl
      rw [← e]
      exact this
def rMin2S : List V → Hp → VK → Prop := fun vs H Q => ∃ x y : Str, vs = [.str x, .str y] ∧ Q (.str (if y.cps.toList < x.cps.toList then y else x)) H
theorem cr_min2S {X : Cx} (hc : X.calm = true) : CallR X (.builtin "min") rMin2S := by
  intro pins s σ H vs us Q I r h
  obtain ⟨x, y, rfl, q⟩ := h
  obtain ⟨u1, u2, rfl, ⟨t1, rfl⟩, ⟨t2, rfl⟩⟩ := vals2 r
  have hh : X.A.handled = none := I.ok.hd hc
  have hT : (s.heap.push { cls := .type "tuple", data := .seq #[.str x t1, .str y t2] }).IsTuple s.heap.objs.size #[.str x t1, .str y t2] := ⟨_, Heap.get?_push_size _ rfl, rfl, 0, rfl⟩
  have hsz : (s.heap.push { cls := .type "tuple", data := .seq #[.str x t1, .str y t2] }).objs.size = s.heap.objs.size + 1 := Heap.size_push ..
  have hS : StrsAre [.str x t1, .str y t2] [x, y] := .cons _ _ (.cons _ _ .nil)
  refine call_min_two (wpAny_pyIter_tuple hT ⟨_, _, _, _, _, _, (fun i j => decide (([x, y].getD i Str.empty).cps.toList < ([x, y].getD j Str.empty).cps.toList)), rfl, Walks.tuple (A := X.A.in1) hh _ s.heap.objs.size (by rw [hsz]; exact Nat.ne_of_lt (Nat.lt_succ_self _)) _,
    ⟨⟨_, Heap.get?_push_size _ rfl, rfl, rfl⟩, hT.push _⟩, fun b hb => ?_, by simp, fun i j vi vj s' Q' E' hi hj hq => ?_, fun v h' tk hP hk => ?_⟩)
  · show b < ((s.heap.push _).push _).objs.size
    rw [Heap.size_push, hsz]
    have hb : b = (s.heap.push { cls := .type "tuple", data := .seq #[.str x t1, .str y t2] }).objs.size ∨ b = s.heap.objs.size := by simpa using hb
    have k1 : ∀ n : Nat, n + 1 < n + 1 + 1 := fun n => by omega
    have k2 : ∀ n : Nat, n < n + 1 + 1 := fun n => by omega
    rcases hb with rfl | rfl
    · rw [hsz]
      exact k1 _
    · exact k2 _
  · obtain ⟨t, rfl⟩ := SS.strs_at hS i vi (by simpa using hi)
    obtain ⟨t2, rfl⟩ := SS.strs_at hS j vj (by simpa using hj)
    exact DT.rcLt_str _ _ _ _ _ _ _ _ _ _ hq
  · have kp : ∀ b o, s.heap.get? b = some o → h'.get? b = some o := fun b o e => by
      refine hk b o (fun hm => ?_) (Heap.get?_push_of_some _ (Heap.get?_push_of_some _ e))
      have hm : b = (s.heap.push { cls := .type "tuple", data := .seq #[.str x t1, .str y t2] }).objs.size := by simpa using hm
      have hlt := Heap.lt_size e
      rw [hm, hsz] at hlt
      exact absurd hlt (Nat.not_lt.mpr (Nat.le_succ _))
    have e1 : argBest (fun i j => decide (([x, y].getD i Str.empty).cps.toList < ([x, y].getD j Str.empty).cps.toList)) 1 = if y.cps.toList < x.cps.toList then 1 else 0 := by
      show (if decide (y.cps.toList < x.cps.toList) = true then 0 + 1 else 0) = _
      by_cases h : y.cps.toList < x.cps.toList
      · rw [if_pos (decide_eq_true h), if_pos h]
      · rw [if_neg (by rw [decide_eq_false h]; decide), if_neg h]
    have hP : #[Value.str x t1, Value.str y t2][argBest (fun i j => decide (([x, y].getD i Str.empty).cps.toList < ([x, y].getD j Str.empty).cps.toList)) 1]? = some v := hP
    rw [e1] at hP
    by_cases h : y.cps.toList < x.cps.toList
    · rw [if_pos h] at hP q
      have : v = .str y t2 := (Option.some.inj hP).symm
      subst this
      exact ⟨.str y, H, I.kept kp, ⟨_, rfl⟩, q⟩
    · rw [if_neg h] at hP q
      have : v = .str x t1 := (Option.some.inj hP).symm
      subst this
      exact ⟨.str x, H, I.kept kp, ⟨_, rfl⟩, q⟩
end K07
/-! Helpers of shortest: dicts from places to words; heaps of which only the tables of code objects are written. -/
namespace K07
open PySem PySem.Spec PyProof.Rows L2
def encE (E : Ent) : List (Key × V) := E.map fun e => (Sum.inl ((e.1 : Nat) : Int), V.str (mk e.2))
theorem encE_is (E : Ent) : encE E = (E.map fun e => (((e.1 : Nat) : Int), mk e.2)).map encIS := by
  unfold encE
  rw [List.map_map]
  rfl
theorem encE_len (E : Ent) : (encE E).length = E.length := List.length_map _
theorem encE_get (D : Ent) (q : Nat) : valV (encE D) (Sum.inl ((q : Nat) : Int)) = (getN D q).map fun w => V.str (mk w) := by
  induction D with
  | nil => rfl
  | cons e r ih =>
    by_cases h : e.1 = q
    · have h1 : getN (e :: r) q = some e.2 := by
        unfold getN
        rw [List.find?_cons_of_pos (by exact decide_eq_true h)]
        rfl
      rw [h1]
      exact valV_pos (p := (Sum.inl ((e.1 : Nat) : Int), V.str (mk e.2))) (by rw [h])
    · have h1 : getN (e :: r) q = getN r q := by
        unfold getN
        rw [List.find?_cons_of_neg (by simpa using h)]
      rw [h1, ← ih]
      exact valV_neg (p := (Sum.inl ((e.1 : Nat) : Int), V.str (mk e.2))) fun z => h (Int.ofNat.inj (Sum.inl.inj z))
theorem encE_getD (D : Ent) (q : Nat) (m : Wd) : (valV (encE D) (Sum.inl ((q : Nat) : Int))).getD (V.str (mk m)) = V.str (mk ((getN D q).getD m)) := by
  rw [encE_get]
  cases getN D q <;> rfl
theorem encE_key {D : Ent} {q : Nat} : (Sum.inl ((q : Nat) : Int) : Key) ∈ (encE D).map (·.1) ↔ q ∈ D.map (·.1) := by
  unfold encE
  simp only [List.map_map, List.mem_map, Function.comp]
  constructor
  · rintro ⟨a, ha, e⟩
    exact ⟨a, ha, Int.ofNat.inj (Sum.inl.inj e)⟩
  · rintro ⟨a, ha, e⟩
    exact ⟨a, ha, by rw [e]⟩
theorem encE_put (D : Ent) (q : Nat) (m : Wd) : putK (encE D) (Sum.inl ((q : Nat) : Int)) (V.str (mk m)) = encE (putN D q m) := by
  have key := valV_none (kvs := encE D) (k := Sum.inl ((q : Nat) : Int))
  rw [encE_key] at key
  by_cases h : q ∈ D.map (·.1)
  · unfold putK putN
    have ha : ((encE D).any fun kv => decide (kv.1 = Sum.inl ((q : Nat) : Int))) = true := by
      rw [valV_any]
      cases ev : valV (encE D) (Sum.inl ((q : Nat) : Int)) with
      | none => exact absurd h (key.mp ev)
      | some _ => rfl
    rw [if_pos ha, if_pos h]
    unfold encE
    rw [List.map_map, List.map_map]
    apply List.map_congr_left
    intro e _
    simp only [Function.comp]
    by_cases he : e.1 = q
    · rw [if_pos (by rw [he]), if_pos he, he]
    · rw [if_neg (show ¬ (Sum.inl ((e.1 : Nat) : Int) : Key) = Sum.inl ((q : Nat) : Int) from fun z => he (Int.ofNat.inj (Sum.inl.inj z))), if_neg he]
  · rw [putK_new _ (key.mpr h)]
    unfold putN
    rw [if_neg h]
    unfold encE
    rw [List.map_append]
    rfl
theorem perm_unmap {α β : Type} {g : α → β} {l m : List β} (p : l.Perm m) : ∀ E : List α, m = E.map g → ∃ E' : List α, E'.Perm E ∧ l = E'.map g := by
  induction p with
  | nil =>
    intro E e
    exact ⟨E, List.Perm.refl _, e⟩
  | cons x p ih =>
    intro E e
    cases E with
    | nil => cases e
    | cons a r =>
      obtain ⟨h1, h2⟩ := List.cons.inj e
      obtain ⟨E', k1, k2⟩ := ih r h2
      exact ⟨a :: E', k1.cons a, by rw [k2, h1]; rfl⟩
  | swap x y l =>
    intro E e
    match E, e with
    | a :: b :: r, e =>
      obtain ⟨h1, h2⟩ := List.cons.inj e
      obtain ⟨h3, h4⟩ := List.cons.inj h2
      exact ⟨b :: a :: r, List.Perm.swap a b r, by rw [h1, h3, h4]; rfl⟩
  | trans p q ihp ihq =>
    intro E e
    obtain ⟨E1, k1, k2⟩ := ihq E e
    obtain ⟨E2, k3, k4⟩ := ihp E1 k2
    exact ⟨E2, k3.trans k1, k4⟩
theorem Best.len {S : List Nat} {Pr : Nat → Wd → Prop} {D : Ent} {n : Nat} (h : Best S Pr D) (hp : ∀ q m, Pr q m → q < n) : D.length ≤ n := by
  have := below_le h.nd (n := n) fun x hx => by
    obtain ⟨⟨q, m⟩, hq, e⟩ := List.mem_map.mp hx
    have : q = x := e
    subst this
    exact hp q m (h.ok q m hq).2.1
  rwa [List.length_map] at this
/-! ### heaps -/
abbrev qL : Str := "shortest.<locals>.<lambda>"
/-- nothing, or a table -/
def NT (H : Hp) (l : Addr) : Prop := ∀ o, H l = some o → ∃ ps, o = .tbl ps
theorem nt_of {H H' : Hp} {l : Addr} (e : LamX.ExtN H H') (n : H' l = none) : NT H l := fun o ho => by
  apply Classical.byContradiction
  intro z
  have := e l o ho fun ps h => z ⟨ps, h⟩
  rw [n] at this
  cases this
theorem ext_upd {H H' : Hp} {l : Addr} {o : HO} (e : LamX.ExtN H H') (n : NT H l) : LamX.ExtN H (upd H' l o) := fun b x hb hx => by
  rw [upd_ne fun z => by
    rw [z] at hb
    obtain ⟨ps, h⟩ := n x hb
    exact hx ps h]
  exact e b x hb hx
/-- neither a table nor a thing of another kind -/
def Pl (u : HO) : Prop := (∀ ps, u ≠ .tbl ps) ∧ ∀ g, u ≠ .ext g
/-- a heap without what stands at L -/
def wo (H : Hp) (L : Addr) : Hp := fun b => if b = L then none else H b
theorem wo_self (H : Hp) (L : Addr) : wo H L L = none := if_pos rfl
theorem wo_ne {H : Hp} {L b : Addr} (h : b ≠ L) : wo H L b = H b := if_neg h
theorem wo_at {H : Hp} {L b : Addr} {o : HO} (e : H b = some o) (h : b ≠ L) : wo H L b = some o := (if_neg h).trans e
theorem wo_some {H : Hp} {L b : Addr} {o : HO} (e : wo H L b = some o) : b ≠ L ∧ H b = some o := by
  by_cases h : b = L
  · rw [h, wo_self] at e
    cases e
  · rw [wo_ne h] at e
    exact ⟨h, e⟩
theorem wo_same (H : Hp) (L : Addr) : Same (wo H L) H := fun b o e => (wo_some e).2
theorem wo_up {H H' : Hp} {L : Addr} (s : Same (wo H L) H') : Same (wo H L) (wo H' L) := fun b o e => wo_at (s b o e) (wo_some e).1
theorem wo_put {H H' : Hp} {L : Addr} {o : HO} (s : Same (wo H L) H') : Same (wo H L) (upd H' L o) := same_frz s (wo_self H L)
theorem ext_wo {H H' : Hp} {L : Addr} (e : LamX.ExtN H H') (n : NT H L) : LamX.ExtN H (wo H' L) := fun b x hb hx => wo_at (e b x hb hx) fun z => by
  rw [z] at hb
  obtain ⟨ps, h⟩ := n x hb
  exact hx ps h
theorem tab_wo {H : Hp} {P L : Addr} {q : Str} {u : HO} (t : LamX.TabS H P q) (hL : H L = some u) (hu : Pl u) : LamX.TabS (wo H L) P q := by
  obtain ⟨ps, h1, h2, h3⟩ := t
  refine ⟨ps, wo_at h1 fun z => ?_, h2, fun pos cv hc => ?_⟩
  · rw [z, hL] at h1
    exact hu.1 ps (Option.some.inj h1)
  · obtain ⟨c, e1, e2⟩ := h3 pos cv hc
    refine ⟨c, e1, wo_at e2 fun z => ?_⟩
    rw [z, hL] at e2
    unfold LamX.CodeO at e2
    exact hu.2 _ (Option.some.inj e2)
theorem pl_dK (l : List (Key × V)) : Pl (.dK l) := ⟨nofun, nofun⟩
theorem pl_lst (l : List V) : Pl (.lst l) := ⟨nofun, nofun⟩
theorem pl_frz (o : Obj) (u : HO) : Pl (.frz o u) := ⟨nofun, nofun⟩
theorem same_unlock {H H' : Hp} {A : Addr} {u x : HO} (s : Same (upd H A x) H') (h : H A = some u) : Same H (upd H' A u) := fun b o e => by
  by_cases z : b = A
  · rw [z, upd_same, ← h, ← z]
    exact e
  · rw [upd_ne z]
    exact s b o (by rw [upd_ne z]; exact e)
theorem encE_at {E : Ent} {i : Nat} {k : Key} {v : V} (h : (encE E)[i]? = some (k, v)) : ∃ p u, E[i]? = some (p, u) ∧ k = Sum.inl ((p : Nat) : Int) ∧ v = V.str (mk u) := by
  unfold encE at h
  rw [List.getElem?_map] at h
  cases e : E[i]? with
  | none =>
    rw [e] at h
    cases h
  | some x =>
    rw [e] at h
    have h := Option.some.inj h
    exact ⟨x.1, x.2, rfl, (congrArg Prod.fst h).symm, (congrArg Prod.snd h).symm⟩
theorem refs_at {α : Type} {ts : List (Addr × α)} {i : Nat} {x : V} (h : (ts.map fun t => V.ref t.1)[i]? = some x) : ∃ t, ts[i]? = some t ∧ x = .ref t.1 := by
  rw [List.getElem?_map] at h
  cases e : ts[i]? with
  | none =>
    rw [e] at h
    cases h
  | some t =>
    rw [e] at h
    exact ⟨t, rfl, (Option.some.inj h).symm⟩
theorem unmap_at {α β : Type} {g : α → β} {ts : List (Addr × β)} {L : List α} {i : Nat} {t : Addr × β} (h : ts.map (·.2) = L.map g) (ht : ts[i]? = some t) : ∃ a, L[i]? = some a ∧ t.2 = g a := by
  have e := congrArg (fun l : List β => l[i]?) h
  simp only [List.getElem?_map, ht] at e
  cases e2 : L[i]? with
  | none =>
    rw [e2] at e
    cases e
  | some a =>
    rw [e2] at e
    exact ⟨a, rfl, Option.some.inj e⟩
theorem mk_mn (a b : Wd) : (if (mk b).cps.toList < (mk a).cps.toList then mk b else mk a) = mk (mn a b) := by
  unfold mn
  show (if b < a then mk b else mk a) = _
  split <;> rfl
theorem nxt_snoc {f : Wd} {E : Ent} {p : Nat} {u : Wd} {q : Nat} {m : Wd} : Nxt f (E ++ [(p, u)]) q m ↔ Nxt f E q m ∨ ∃ c, (c, q) ∈ nx f p ∧ m = u ++ [c] := by
  constructor
  · rintro ⟨r, v, c, h1, h2, rfl⟩
    rcases List.mem_append.mp h1 with h1 | h1
    · exact .inl ⟨r, v, c, h1, h2, rfl⟩
    · have : (r, v) = (p, u) := by simpa using h1
      obtain ⟨rfl, rfl⟩ := Prod.mk.inj this
      exact .inr ⟨c, h2, rfl⟩
  · rintro (⟨r, v, c, h1, h2, rfl⟩ | ⟨c, h2, rfl⟩)
    · exact ⟨r, v, c, List.mem_append_left _ h1, h2, rfl⟩
    · exact ⟨p, u, c, by simp, h2, rfl⟩
theorem nxt_perm {f : Wd} {E E' : Ent} (p : E'.Perm E) {q : Nat} {m : Wd} : Nxt f E q m ↔ Nxt f E' q m :=
  ⟨fun ⟨r, v, c, h1, h2⟩ => ⟨r, v, c, p.mem_iff.mpr h1, h2⟩, fun ⟨r, v, c, h1, h2⟩ => ⟨r, v, c, p.mem_iff.mp h1, h2⟩⟩
/-- the table stands, all else is as it was -/
structure Hs (H H' : Hp) (P : Addr) : Prop where
  ext : LamX.ExtN H H'
  tab : LamX.TabS H' P qL
theorem Hs.same {H H' H2 : Hp} {P : Addr} (h : Hs H H' P) (s : Same H' H2) : Hs H H2 P := ⟨h.ext.trans (.of s), h.tab.ext s⟩
theorem Hs.nt {H H' : Hp} {P l : Addr} (h : Hs H H' P) (n : H' l = none) : NT H l := nt_of h.ext n
theorem Hs.new {H H' : Hp} {P l : Addr} {o : HO} (h : Hs H H' P) (n : H' l = none) : Hs H (upd H' l o) P := h.same (same_upd n)
theorem Hs.wo {H H' H2 : Hp} {P l : Addr} {u : HO} (h : Hs H H' P) (n : NT H l) (hl : H' l = some u) (hu : Pl u) (s : Same (K07.wo H' l) H2) : Hs H H2 P := ⟨(ext_wo h.ext n).trans (.of s), (tab_wo h.tab hl hu).ext s⟩
theorem Hs.put {H H' : Hp} {P l : Addr} {u o : HO} (h : Hs H H' P) (n : NT H l) (hl : H' l = some u) (hu : Pl u) : Hs H (upd H' l o) P := h.wo n hl hu (wo_put (wo_same H' l))
end K07
/-! shortest -/
namespace K07
open PySem PySem.Spec PyProof.Rows L2
/-- a def whose code object is known -/
structure FunC (K : PySem.W.Frag) (x qual : Str) (st : Stmt) (f : Addr) (fd : FuncData) (c : Addr) : Prop where
  ex : ∃ (oc : Value) (od : Option Addr) (kV doc pm : Value) (an : Option Addr) (ct : Value) (osl : Array (Option Value)),
    fd = PySem.W.fnOf x qual (defArgs st) (defBody st) (defScope st) .none kV doc pm an (.ref c) ct ∧ K.lookup f = some ⟨oc, od, .func fd, osl⟩ ∧ PySem.W.codeIn K (.ref c) qual = true
def spSh (P : Addr) : Sp := fun vs H Q _ => ∃ f : Wd, vs = [.str (mk f)] ∧ Film f ∧ LamX.TabS H P qL ∧ ∀ H' w, LamX.ExtN H H' → First f w → Q (.str (mk w)) H'
def WSh (H : Hp) (P : Addr) (f : Wd) (S : Addr) (m : Nat) (σ : L2.St) (H' : Hp) : Prop := ∃ (k : Nat) (seen : List Nat) (E : Ent) (A : Addr) (y3 y4 y5 y6 y7 y8 : Option V), σ = [some (.str (mk f)), some (.ref A), some (.ref S), y3, y4, y5, y6, y7, y8] ∧
  m = f.length - k ∧ SH f k E seen ∧ Hs H H' P ∧ H' S = some (.dK (encI seen)) ∧ H' A = some (.dK (encE E)) ∧ NT H A ∧ A ≠ S
section
variable {P : Program} {w : World} {K : PySem.W.Frag} {mg : Str → Option Value} {base : Heap}
theorem ok_sh {f fN fF c T : Addr} {fd fdN fdF : FuncData} (F : FunC K "shortest" "shortest" sSh f fd c) (TB : LamX.TabB base mg c T) (Nm : Names mg) (N : Cl P w K mg base 1 "nexts" ["film", "place"] spNexts fN fdN) (D : Cl P w K mg base 1 "need_film" ["value"] spNeed fF fdF) : FnOk P w K mg base CX0 2 f fd ["film"] (spSh T) := by
  obtain ⟨oc, od, kV, doc, pm, an, ct, osl, rfl, lk, hcd⟩ := F.ex
  refine fn_of lk hcd scSh (fun vs H Q E h => ?_) fun A outer s H vs Q E hr h => ?_
  · obtain ⟨f, rfl, _⟩ := h
    rfl
  · obtain ⟨f, rfl, hf, ht, q⟩ := h
    have hu := hu_of hr
    have hfl := hf.le
    have h0 : 0 < f.length := hf.pos
    have hz : (mk f).length ≤ sizeLine := hf.small (Nat.le_trans hf.le (by decide))
    refine ⟨_, (pss_cons (ps_expr (pe_call D.ok hr (by rfl) D.g D.kp D.b .nil pass0 (pa_cons (pv 0) pa_nil)))
      (pss_cons (ps_par (i := 1) (j := 2) rfl scSh.nd rfl rfl (by decide) rfl rfl (pa_cons (pe_disp (pps_cons pe_int (pe_ix ix_str (pv 0) pe_int (fun _ _ => rfl)) pps_nil) (by rfl) (by rfl) (fun z => by cases z) (by decide))
          (pa_cons (pe_disp (pps_cons pe_int pe_bl pps_nil) (by rfl) (by rfl) (fun z => by cases z) (by decide)) pa_nil)) (by rfl))
      (pss_cons (ps_while PassesOwn.never (pt_val (pe_callB (cr_all rfl) (by rfl) Nm.all (by decide +kernel) (pa_cons (pe_lock (pe_lc (own := [("place", 3)]) (g := gName 3) (tt := tYes) rfl scSh.nd (pi_keys (pv 1))
            (blkOk_by (own := [("place", 3)]) (N := ["film", "edge", "seen", "place", "later", "word", "letter", "one", "more"]) (sc := defScope sSh) (by decide +kernel)) (fun _ _ _ _ _ => pg_name (i := 3) scSh.nd rfl (Or.inl rfl)) (fun _ _ _ _ _ => pts_nil)
            (fun _ _ _ _ _ => pe_cmpR op_ne (pe_ix ix_str (pv 0) (pv 3) (fun _ _ => rfl)) (pe_ix ix_str (pv 0) (pe_un un_neg pe_int) (fun _ _ => rfl)) (nomark _)))) pa_nil)))
        (pss_cons (ps_set (i := 4) scSh.nd rfl (.inl rfl) pe_dnewK)
        (pss_cons (ps_for PassesOwn.never rfl (pi_list (pe_sortKey (c := c) (P := T) rfl hr.units hr.depth (by rfl) Nm.sorted TB rfl (pa_cons (pe_bm0 PySem.F.plainAttrs_dict PySem.F.slot_dict_items PySem.F.type_dict_items mt_itemsK (pv 1)) pa_nil) (by decide) (by rfl) (fun _ _ _ _ => by rfl)))
            (pg_tup rfl (pgs_cons (pg_name (i := 3) scSh.nd rfl (.inl rfl)) (pgs_cons (pg_name (i := 5) scSh.nd rfl (.inl rfl)) pgs_nil)))
          (pss_one (ps_for PassesOwn.never rfl (pi_list (pe_callB (cr_sortIt rfl hr.units) (by rfl) Nm.sorted (by decide +kernel) (pa_cons (pe_bm0 PySem.F.plainAttrs_dict PySem.F.slot_dict_items PySem.F.type_dict_items mt_itemsK (pe_call N.ok hr (by rfl) N.g N.kp N.b .nil pass0 (pa_cons (pv 0) (pa_cons (pv 3) pa_nil)))) pa_nil)))
              (pg_tup rfl (pgs_cons (pg_name (i := 6) scSh.nd rfl (.inl rfl)) (pgs_cons (pg_name (i := 7) scSh.nd rfl (.inl rfl)) pgs_nil)))
            (pss_one (ps_if (pt_cmp (pc_dnotin hu (pv 7) (pv 2)))
              (pss_cons (ps_set (i := 8) scSh.nd rfl (.inl rfl) (pe_op op_add_str (pv 5) (pv 6)))
                (pss_one (ps_dput hu (pv 4) (pv 7) (pe_callB (cr_min2S rfl) (by rfl) Nm.min (by decide +kernel) (pa_cons (pe_dget2 hu (pv 4) (pv 7) (pv 8) ⟨rfl, rfl, rfl, rfl⟩) (pa_cons (pv 8) pa_nil))) rfl)))
              pss_nil)))))
        (pss_cons (ps_lock (ps_for PassesOwn.never rfl (pi_keys (pv 4)) (pg_name (i := 7) scSh.nd rfl (.inl rfl)) (pss_one (ps_dput hu (pv 2) (pv 7) pe_bl rfl))))
        (pss_one (ps_set (i := 1) scSh.nd rfl (.inl rfl) (pv 4)))))))
      (pss_one (ps_ret (pe_callB (cr_minS rfl) (by rfl) Nm.min (by decide +kernel) (pa_cons (pe_lc (own := [("place", 3), ("word", 5)]) (g := gTup K 2 (gCons (gName 3) (gCons (gName 5) gNil))) rfl scSh.nd (pi_items (pe_frz (pv 1)))
            (blkOk_by (own := [("place", 3), ("word", 5)]) (N := ["film", "edge", "seen", "place", "later", "word", "letter", "one", "more"]) (sc := defScope sSh) (by decide +kernel)) (fun _ _ _ _ _ => pg_tup rfl (pgs_cons (pg_name (i := 3) scSh.nd rfl (Or.inl rfl)) (pgs_cons (pg_name (i := 5) scSh.nd rfl (Or.inl rfl)) pgs_nil)))
            (fun _ _ _ _ _ => pts_one (pt_cmpR op_eq (pe_ix ix_str (pv 0) (pv 3) (fun _ _ => rfl)) (pe_ix ix_str (pv 0) (pe_un un_neg pe_int) (fun _ _ => rfl)) (nomark _)))
            (fun _ _ _ _ _ => pv 5)) pa_nil))))))).nox, ?_⟩
    refine ⟨_, rfl, f, rfl, hf, fun H1 sm1 => ?_⟩
    intro A nA
    refine ⟨_, rfl, mk f, _, _, rfl, rfl, hz, ixF (p := 0) rfl h0, upd_same, [(Sum.inl 0, V.str (mk [at_ f 0]))], rfl, (by show 1 ≤ 15; decide), ?_⟩
    intro S nS
    refine ⟨upd_same, [(Sum.inl 0, .bl true)], rfl, by decide, _, _, rfl, ?_⟩
    have hs1 : Hs H H1 T := ⟨.of sm1, ht.ext sm1⟩
    have ntA := hs1.nt nA
    have hs2 : Hs H (upd (upd H1 A (.dK [])) A (.dK (encE [(0, [at_ f 0])]))) T := (hs1.new nA).put ntA upd_same (pl_dK _)
    have hA2 : (upd (upd H1 A (.dK [])) A (.dK (encE [(0, [at_ f 0])]))) A = some (.dK (encE [(0, [at_ f 0])])) := upd_same
    have nS : (upd (upd H1 A (.dK [])) A (.dK (encE [(0, [at_ f 0])]))) S = none := nS
    have ntS := hs2.nt nS
    have hAS : A ≠ S := ne_of_none hA2 nS
    have hs3 : Hs H (upd (upd (upd (upd H1 A (.dK [])) A (.dK (encE [(0, [at_ f 0])]))) S (.dK [])) S (.dK (encI [0]))) T := (hs2.new nS).put ntS upd_same (pl_dK _)
    have hA3 : (upd (upd (upd (upd H1 A (.dK [])) A (.dK (encE [(0, [at_ f 0])]))) S (.dK [])) S (.dK (encI [0]))) A = some (.dK (encE [(0, [at_ f 0])])) := by rw [upd_ne hAS, upd_ne hAS]; exact hA2
    refine ⟨WSh H T f S, ⟨f.length - 0, 0, [0], [(0, [at_ f 0])], A, none, none, none, none, none, none, rfl, rfl, SH.start f, hs3, upd_same, hA3, ntA, hAS⟩, fun m σ H2 hW => ?_⟩
    clear hs3 hA3 hs2 hA2 nS hAS ntA hs1 nA sm1
    obtain ⟨k, seen, E, A, y3, y4, y5, y6, y7, y8, rfl, hm, sh, hs, hS, hA, ntA, hAS⟩ := hW
    have hlt := sh.lt h0
    have hk1 := sh.le hf.ne
    have ewl : ∀ p u, (p, u) ∈ E → u.length = k + 1 ∧ p < f.length := fun p u hp => by
      obtain ⟨⟨g, rfl, hl, hg⟩, _⟩ := sh.ok p u hp
      exact ⟨by rw [List.length_cons, hl], hg.lt h0⟩
    have hEl : E.length ≤ f.length := by
      have := below_le sh.nd (n := f.length) fun x hx => by
        obtain ⟨⟨q, m⟩, hq, e⟩ := List.mem_map.mp hx
        have : q = x := e
        subst this
        exact (ewl q m hq).2
      rwa [List.length_map] at this
    refine ⟨A, _, hA, trivial, fun od => ?_⟩
    refine ⟨_, rfl, A, od, rfl, .inl ⟨_, upd_same, fun D nD => ?_⟩⟩
    have hAD : A ≠ D := ne_of_none upd_same nD
    refine lc_it walk_keys (fun i H' => Same (upd H2 A (.frz od (.dK (encE E)))) H' ∧ H' D = some (.lst (((E.take i).map fun e => decide (at_ f e.1 ≠ last f)).map V.bl)))
      ⟨same_upd nD, upd_same⟩ (fun i H' _ h => h.1 _ _ upd_same) (fun i x H3 H4 hi hpv hy => ?_) fun H3 hpv => ?_
    · obtain ⟨sm3, hD3⟩ := hpv
      obtain ⟨rfl, kk, v, hkv, rfl⟩ := hy
      obtain ⟨p, u, hpu, rfl, rfl⟩ := encE_at hkv
      have hpm : (p, u) ∈ E := List.mem_of_getElem? hpu
      have hpl := (ewl p u hpm).2
      refine ⟨rfl, _, rfl, _, rfl, mk f, _, _, rfl, rfl, hz, ixF (p := p) rfl hpl, _, rfl, _, rfl, mk f, _, _, rfl, rfl, hz, ixLast h0, rfl, _, hD3, ?_, ?_⟩
      · rw [List.length_map, List.length_map, List.length_take]
        exact small24 (by omega)
      · refine ⟨same_frz sm3 nD, ?_⟩
        rw [upd_same, List.take_add_one, hpu, List.map_append, List.map_append]
        have e1 : (!decide (V.str (mk [at_ f p]) = V.str (mk [last f]))) = decide (at_ f p ≠ last f) := by rw [dec1, decide_not]
        show some (HO.lst (_ ++ [V.bl (!decide (V.str (mk [at_ f p]) = V.str (mk [last f])))])) = _
        rw [e1]
        rfl
    · obtain ⟨sm3, hD3⟩ := hpv
      rw [encE_len, List.take_length] at hD3
      refine ⟨sm3 _ _ upd_same, ?_⟩
      have su := same_unlock sm3 hA
      have hD4 : (upd H3 A (.dK (encE E))) D = some (.lst ((E.map fun e => decide (at_ f e.1 ≠ last f)).map V.bl)) := by rw [upd_ne hAD.symm]; exact hD3
      refine ⟨D, _, rfl, .inl (.inl hD4), _, rfl, ?_⟩
      have hs4 := hs.same su
      have hS4 := su _ _ hS
      have hA4 := su _ _ hA
      generalize upd H3 A (.dK (encE E)) = H4 at hs4 hS4 hA4 hD4 ⊢
      clear sm3 hD3 su hD4 hs hS hA
      by_cases hall : ∀ p u, (p, u) ∈ E → ¬ Acc f p
      · have e1 : (E.map fun e => decide (at_ f e.1 ≠ last f)).all id = true := by
          rw [List.all_eq_true]
          intro b hb
          obtain ⟨p, hp, rfl⟩ := List.mem_map.mp hb
          exact decide_eq_true (hall p.1 p.2 hp)
        rw [e1]
        refine iteT ⟨fun σ' H' => ∃ m', m' < m ∧ WSh H T f S m' σ' H', fun _ _ z => z, ?_⟩
        intro L nL
        have ntL := hs4.nt nL
        have hSL : S ≠ L := ne_of_none hS4 nL
        have hAL : A ≠ L := ne_of_none hA4 nL
        have hs5 := hs4.new (o := .dK []) nL
        have hL5 : (upd H4 L (.dK [])) L = some (.dK []) := upd_same
        have hS5 : (upd H4 L (.dK [])) S = some (.dK (encI seen)) := by rw [upd_ne hSL]; exact hS4
        have hA5 : (upd H4 L (.dK [])) A = some (.dK (encE E)) := by rw [upd_ne hAL]; exact hA4
        generalize upd H4 L (.dK []) = H5 at hs5 hL5 hS5 hA5 ⊢
        refine ⟨_, rfl, .inr (.inr (.inl ⟨rfl, .inl ⟨_, hA5⟩⟩)), A, encE E, rfl, rfl, hA5, fun pv npv => ⟨pv, A, E.map fun e => (((e.1 : Nat) : Int), mk e.2), rfl, upd_same, ?_, hs5.tab.ext (same_upd npv), fun H6 l ts ex6 tb6 pm hl6 ht6 => ?_⟩⟩
        · rw [upd_ne (ne_of_none hA5 npv), hA5, encE_is]
        obtain ⟨E', pE, eE⟩ := perm_unmap pm E rfl
        have ex56 : LamX.ExtN H5 H6 := (LamX.ExtN.of (same_upd npv)).trans ex6
        have hs6 : Hs H H6 T := ⟨hs5.ext.trans ex56, tb6⟩
        have hL6 := ex56 _ _ hL5 (pl_dK _).1
        have hS6 := ex56 _ _ hS5 (pl_dK _).1
        clear hs5 hL5 hS5 hA5 ex6 npv hs4 hS4 hA4 nL ex56
        have tne : ∀ t ∈ ts, t.1 ≠ L := fun t htm z => by
          have := ht6 t htm
          rw [z, hL6] at this
          cases this
        have lne : l ≠ L := fun z => by
          rw [z, hL6] at hl6
          cases hl6
        have hwl := wo_at hl6 lne
        have hwS := wo_at hS6 hSL
        have htl : ts.length = E'.length := by
          have := congrArg List.length eE
          rwa [List.length_map, List.length_map] at this
        have eml : ∀ i p u, E'[i]? = some (p, u) → (p, u) ∈ E := fun i p u h => pE.mem_iff.mp (List.mem_of_getElem? h)
        have nxq : ∀ i q m, Nxt f (E'.take i) q m → q < f.length := fun i q m ⟨r, v, cc, _, h2, _⟩ => (nx_mem.mp h2).le
        refine ⟨l, rfl, ⟨_, .inl (.inl hl6)⟩, for_it walk_list (fun i σ H' => ∃ D z3 z5 z6 z7 z8, σ = [some (.str (mk f)), some (.ref A), some (.ref S), z3, some (.ref L), z5, z6, z7, z8] ∧ Same (wo H6 L) H' ∧ H' L = some (.dK (encE D)) ∧ Best seen (Nxt f (E'.take i)) D)
          ⟨[], _, _, _, _, _, rfl, wo_same H6 L, hL6, (Best.start seen).congr fun q m => ⟨(fun ⟨r, v, cc, h1, _⟩ => by cases h1), False.elim⟩⟩ (fun i σ H' _ ⟨_, _, _, _, _, _, _, z, _⟩ => .inl (.inl (z _ _ hwl))) (fun i x σ H7 H8 hi hpv hy => ?_) fun σ H7 hpv => ?_⟩
        · obtain ⟨D, z3, z5, z6, z7, z8, rfl, sm7, hL7, hb7⟩ := hpv
          obtain ⟨rfl, hx⟩ := hy
          obtain ⟨t, hti, rfl⟩ := refs_at hx
          obtain ⟨⟨p, u⟩, hpu, et⟩ := unmap_at eE hti
          have htm := List.mem_of_getElem? hti
          have h7t := sm7 _ _ (wo_at (ht6 t htm) (tne t htm))
          rw [et] at h7t
          obtain ⟨hul, hpl⟩ := ewl p u (eml i p u hpu)
          have hS7 := sm7 _ _ hwS
          refine ⟨t.1, _, rfl, .inl (.inl h7t), rfl, _, _, rfl, _, _, rfl, rfl, ?_⟩
          refine ⟨_, rfl, _, rfl, f, p, rfl, hf, hpl, fun H9 d sm9 nd hd => ⟨.inr (.inr (.inl ⟨rfl, .inl ⟨_, hd⟩⟩)), d, encS (nx f p), rfl, rfl, hd, fun pv npv => ⟨pv, d, (nx f p).map fun o => (mk [o.1], ((o.2 : Nat) : Int)), rfl, upd_same, ?_, fun HA l2 ts2 smA pm2 nl2 hl2 ht2 => ?_⟩⟩⟩
          · rw [upd_ne (ne_of_none hd npv), hd]
            unfold encS
            rw [List.map_map]
            rfl
          obtain ⟨N', pN, eN⟩ := perm_unmap pm2 (nx f p) rfl
          have s7A : Same H8 HA := (sm9.trans (same_upd npv)).trans smA
          have hLA := s7A _ _ hL7
          have hSA := s7A _ _ hS7
          have s6A := sm7.trans s7A
          clear hd npv smA sm9
          have tne2 : ∀ t ∈ ts2, t.1 ≠ L := fun t htm z => by
            have := ht2 t htm
            rw [z, hLA] at this
            cases this
          have lne2 : l2 ≠ L := fun z => by
            rw [z, hLA] at hl2
            cases hl2
          have hwl2 := wo_at hl2 lne2
          have hwS2 := wo_at hSA hSL
          have hnl : ts2.length = N'.length := by
            have := congrArg List.length eN
            rwa [List.length_map, List.length_map] at this
          have nml : ∀ j cc q, (cc, q) ∈ N'.take j → (cc, q) ∈ nx f p := fun j cc q h => pN.mem_iff.mp (List.mem_of_mem_take h)
          refine ⟨l2, rfl, ⟨_, .inl (.inl hl2)⟩, for_it walk_list (fun j σ H' => ∃ D z6 z7 z8, σ = [some (.str (mk f)), some (.ref A), some (.ref S), some (.int ((p : Nat) : Int)), some (.ref L), some (.str (mk u)), z6, z7, z8] ∧ Same (wo HA L) H' ∧ H' L = some (.dK (encE D)) ∧
              Best seen (fun q m => Nxt f (E'.take i) q m ∨ ∃ cc, (cc, q) ∈ N'.take j ∧ m = u ++ [cc]) D)
            ⟨D, _, _, _, rfl, wo_same HA L, hLA, hb7.congr fun q m => ⟨(fun h => h.elim id (fun ⟨cc, h1, _⟩ => by cases h1)), Or.inl⟩⟩ (fun j σ H' _ ⟨_, _, _, _, _, z, _⟩ => .inl (.inl (z _ _ hwl2))) (fun j x σ HB HC hj hpv hy => ?_) fun σ HB hpv => ?_⟩
          · obtain ⟨D2, w6, w7, w8, rfl, smB, hLB, hbB⟩ := hpv
            obtain ⟨rfl, hx2⟩ := hy
            obtain ⟨t2, hti2, rfl⟩ := refs_at hx2
            obtain ⟨⟨cc, qn⟩, hcq, et2⟩ := unmap_at eN hti2
            have htm2 := List.mem_of_getElem? hti2
            have hBt := smB _ _ (wo_at (ht2 t2 htm2) (tne2 t2 htm2))
            rw [et2] at hBt
            have hSB := smB _ _ hwS2
            have hstep : ∀ q m, (Nxt f (E'.take i) q m ∨ ∃ c2, (c2, q) ∈ N'.take (j + 1) ∧ m = u ++ [c2]) ↔ ((Nxt f (E'.take i) q m ∨ ∃ c2, (c2, q) ∈ N'.take j ∧ m = u ++ [c2]) ∨ (q = qn ∧ m = u ++ [cc])) := by
              intro q m
              rw [List.take_add_one, hcq]
              constructor
              · rintro (h | ⟨c2, h, rfl⟩)
                · exact .inl (.inl h)
                · rcases List.mem_append.mp h with h | h
                  · exact .inl (.inr ⟨c2, h, rfl⟩)
                  · have : (c2, q) = (cc, qn) := by simpa using h
                    obtain ⟨rfl, rfl⟩ := Prod.mk.inj this
                    exact .inr ⟨rfl, rfl⟩
              · rintro ((h | ⟨c2, h, rfl⟩) | ⟨rfl, rfl⟩)
                · exact .inl h
                · exact .inr ⟨c2, List.mem_append_left _ h, rfl⟩
                · exact .inr ⟨cc, List.mem_append_right _ (by simp), rfl⟩
            have hb2 := (hbB.step qn (u ++ [cc])).congr hstep
            have hDl : D2.length ≤ f.length := hbB.len fun q m h => by
              rcases h with h | ⟨c2, h, _⟩
              · exact nxq i q m h
              · exact (nx_mem.mp (nml j c2 q h)).le
            refine ⟨t2.1, _, rfl, .inl (.inl hBt), rfl, _, _, rfl, _, _, rfl, rfl, ?_⟩
            refine ⟨_, rfl, _, rfl, S, _, rfl, DGet.k (k := Sum.inl ((qn : Nat) : Int)) hSB, _, rfl, ?_⟩
            rw [encI_get]
            by_cases hq : qn ∈ seen
            · rw [decide_eq_true hq]
              have eup : upS seen D2 (qn, u ++ [cc]) = D2 := if_pos hq
              rw [eup] at hb2
              exact iteF ⟨D2, _, _, _, rfl, smB, hLB, hb2⟩
            · rw [decide_eq_false hq]
              have eup : upS seen D2 (qn, u ++ [cc]) = putN D2 qn (mn ((getN D2 qn).getD (u ++ [cc])) (u ++ [cc])) := if_neg hq
              rw [eup] at hb2
              refine iteT ⟨_, rfl, _, rfl, mk u, mk [cc], rfl, rfl, ?_, ?_⟩
              · show u.length + 1 ≤ sizeLine
                exact Nat.le_trans (show u.length + 1 ≤ 13 by omega) (by decide)
              rw [mk_app]
              refine ⟨_, rfl, L, rfl, .inl ⟨_, .inl hLB⟩, _, rfl, _, rfl, _, DGet.k (k := Sum.inl ((qn : Nat) : Int)) hLB, ?_⟩
              rw [encE_getD]
              refine ⟨_, rfl, _, _, rfl, ?_⟩
              rw [mk_mn]
              refine ⟨_, rfl, _, rfl, L, _, rfl, DPut.k (k := Sum.inl ((qn : Nat) : Int)) hLB (by rw [encE_len]; exact small24 (by omega)), ?_⟩
              rw [encE_put]
              exact ⟨_, _, _, _, rfl, same_frz smB (wo_self HA L), upd_same, hb2⟩
          · obtain ⟨D2, w6, w7, w8, rfl, smB, hLB, hbB⟩ := hpv
            rw [List.length_map, hnl, List.take_length] at hbB
            refine ⟨D2, _, _, _, _, _, rfl, (wo_up s6A).trans smB, hLB, hbB.congr fun q m => ?_⟩
            rw [List.take_add_one, hpu]
            show Nxt f (E'.take i ++ [(p, u)]) q m ↔ _
            rw [nxt_snoc]
            exact or_congr Iff.rfl ⟨fun ⟨c2, h1, h2⟩ => ⟨c2, pN.mem_iff.mpr h1, h2⟩, fun ⟨c2, h1, h2⟩ => ⟨c2, pN.mem_iff.mp h1, h2⟩⟩
        · obtain ⟨D, z3, z5, z6, z7, z8, rfl, sm7, hL7, hb7⟩ := hpv
          rw [List.length_map, htl, List.take_length] at hb7
          have hbE : Best seen (Nxt f E) D := hb7.congr fun q m => nxt_perm pE
          have shn := sh.next hall hbE
          have hDl : D.length ≤ f.length := hbE.len fun q m ⟨r, v, cc, _, h2, _⟩ => (nx_mem.mp h2).le
          have hs7 := hs6.wo ntL hL6 (pl_dK _) sm7
          have hS7 := sm7 _ _ hwS
          refine ⟨L, _, hL7, trivial, fun od2 => ⟨_, rfl, L, od2, rfl, .inl ⟨_, upd_same, ?_⟩⟩⟩
          have hs8 := hs7.put (o := .frz od2 (.dK (encE D))) ntL hL7 (pl_dK _)
          have hS8 : (upd H7 L (.frz od2 (.dK (encE D)))) S = some (.dK (encI seen)) := by rw [upd_ne hSL]; exact hS7
          have hL8 : (upd H7 L (.frz od2 (.dK (encE D)))) L = some (.frz od2 (.dK (encE D))) := upd_same
          generalize upd H7 L (.frz od2 (.dK (encE D))) = H8 at hs8 hS8 hL8 ⊢
          have hwL := wo_at hL8 hSL.symm
          refine for_it walk_keys (fun i σ H' => ∃ x7, σ = [some (.str (mk f)), some (.ref A), some (.ref S), z3, some (.ref L), z5, z6, x7, z8] ∧ Same (wo H8 S) H' ∧ H' S = some (.dK (encI (seen ++ (D.map (·.1)).take i))))
            ⟨_, rfl, wo_same H8 S, by rw [List.take_zero, List.append_nil]; exact hS8⟩ (fun i σ H' _ ⟨_, _, z, _⟩ => z _ _ hwL) (fun i x σ H9 HA hi hpv hy => ?_) fun σ H9 hpv => ?_
          · obtain ⟨x7, rfl, sm9, hS9⟩ := hpv
            obtain ⟨rfl, kk, v, hkv, rfl⟩ := hy
            obtain ⟨q, m2, hqm, rfl, rfl⟩ := encE_at hkv
            have hq1 : (D.map (·.1))[i]? = some q := by rw [List.getElem?_map, hqm]; rfl
            have hnq : q ∉ seen ++ (D.map (·.1)).take i := by
              have hnd := shn.sn
              have e3 : seen ++ (D.map (·.1)).take (i + 1) = (seen ++ (D.map (·.1)).take i) ++ [q] := by
                rw [List.take_add_one, hq1, List.append_assoc]
                rfl
              have hsub : (seen ++ (D.map (·.1)).take (i + 1)).Nodup := hnd.sublist (List.Sublist.append (List.Sublist.refl _) (List.take_sublist _ _))
              rw [e3, List.nodup_append] at hsub
              intro z
              exact hsub.2.2 q z q (by simp) rfl
            refine ⟨_, rfl, _, rfl, S, _, rfl, DPut.k (k := Sum.inl ((q : Nat) : Int)) hS9 ?_, ?_⟩
            · rw [encI_len, List.length_append, List.length_take, List.length_map]
              exact small24 (by have := hlt.2; omega)
            · rw [encI_put hnq]
              refine ⟨_, rfl, same_frz sm9 (wo_self H8 S), ?_⟩
              rw [upd_same, List.take_add_one, hq1, List.append_assoc]
              rfl
          · obtain ⟨x7, rfl, sm9, hS9⟩ := hpv
            rw [encE_len, ← List.length_map (f := fun e : Nat × Wd => e.1) (as := D), List.take_length] at hS9
            have hL9 := sm9 _ _ hwL
            refine ⟨hL9, _, rfl, ?_⟩
            have hs9 := hs8.wo ntS hS8 (pl_dK _) sm9
            have hsA := hs9.put (o := .dK (encE D)) ntL hL9 (pl_frz _ _)
            exact ⟨f.length - (k + 1), by omega, k + 1, _, D, L, _, _, _, _, _, _, rfl, rfl, shn, hsA, by rw [upd_ne hSL]; exact hS9, upd_same, ntL, hSL.symm⟩
      · have e1 : (E.map fun e => decide (at_ f e.1 ≠ last f)).all id = false := by
          cases q2 : (E.map fun e => decide (at_ f e.1 ≠ last f)).all id with
          | false => rfl
          | true =>
            exfalso
            apply hall
            intro p u hp ha
            have := (List.all_eq_true.mp q2) _ (List.mem_map.mpr ⟨(p, u), hp, rfl⟩)
            exact (of_decide_eq_true this) ha
        rw [e1]
        refine iteF ⟨_, rfl, A, _, rfl, hA4, trivial, fun od2 => ⟨A, od2, _, rfl, upd_same, fun D nD => ?_⟩⟩
        have hs5 := hs4.put (o := .frz od2 (.dK (encE E))) ntA hA4 (pl_dK _)
        have hA5 : (upd H4 A (.frz od2 (.dK (encE E)))) A = some (.frz od2 (.dK (encE E))) := upd_same
        generalize upd H4 A (.frz od2 (.dK (encE E))) = H5 at hs5 hA5 nD ⊢
        refine lc_it walk_items (fun i H' => Same H5 H' ∧ H' D = some (.lst (ws (((E.take i).filter fun e => decide (Acc f e.1)).map (·.2)))))
          ⟨same_upd nD, upd_same⟩ (fun i H' _ h => h.1 _ _ hA5) (fun i x H6 H7 hi hpv hy => ?_) fun H6 hpv => ?_
        · obtain ⟨sm6, hD6⟩ := hpv
          have hi2 : i < E.length := by rw [encE_len] at hi; exact hi
          have hpu : E[i]? = some (E[i].1, E[i].2) := List.getElem?_eq_getElem hi2
          have hkv : (encE E)[i]? = some (Sum.inl ((E[i].1 : Nat) : Int), V.str (mk E[i].2)) := by
            unfold encE
            rw [List.getElem?_map, hpu]
            rfl
          generalize E[i].1 = p at hpu hkv
          generalize E[i].2 = u at hpu hkv
          obtain ⟨T2, rfl, nT, rfl⟩ := items_at hkv hy
          have hpl := (ewl p u (List.mem_of_getElem? hpu)).2
          have sT := same_upd (o := .tup [V.int (p : Nat), V.str (mk u)]) nT
          have hTT : (upd H6 T2 (.tup [V.int (p : Nat), V.str (mk u)])) T2 = some (.tup [V.int (p : Nat), V.str (mk u)]) := upd_same
          show gTup K 2 (gCons (gName 3) (gCons (gName 5) gNil)) (V.ref T2) _ (upd H6 T2 (.tup [V.int (p : Nat), V.str (mk u)])) _
          have sm7 := sm6.trans sT
          have hD7 := sT _ _ hD6
          generalize upd H6 T2 (.tup [V.int (p : Nat), V.str (mk u)]) = H7 at sm7 hD7 hTT ⊢
          refine ⟨T2, _, rfl, .inl (.inl hTT), rfl, _, _, rfl, _, _, rfl, rfl, rfl, ?_⟩
          refine ⟨_, rfl, _, rfl, mk f, _, _, rfl, rfl, hz, ixF (p := p) rfl hpl, _, rfl, _, rfl, mk f, _, _, rfl, rfl, hz, ixLast h0, rfl, _, rfl, ?_⟩
          show if decide (V.str (mk [at_ f p]) = V.str (mk [last f])) = true then _ else _
          rw [dec1]
          have etk : ((E.take (i + 1)).filter fun e => decide (Acc f e.1)).map (·.2) = ((E.take i).filter fun e => decide (Acc f e.1)).map (·.2) ++ (if Acc f p then [u] else []) := by
            rw [List.take_add_one, hpu, List.filter_append, List.map_append]
            by_cases hac : Acc f p
            · rw [if_pos hac, show (some (p, u)).toList.filter (fun e => decide (Acc f e.1)) = [(p, u)] from List.filter_cons_of_pos (by exact decide_eq_true hac)]
              rfl
            · rw [if_neg hac, show (some (p, u)).toList.filter (fun e => decide (Acc f e.1)) = [] from List.filter_cons_of_neg (by simpa using hac)]
              rfl
          by_cases hac : at_ f p = last f
          · rw [decide_eq_true hac]
            refine iteT ⟨_, rfl, _, hD7, ?_, same_frz sm7 nD, ?_⟩
            · rw [ws_len, List.length_map]
              refine small24 (Nat.le_trans (List.length_filter_le ..) ?_)
              rw [List.length_take]
              omega
            · rw [upd_same, etk, if_pos (show Acc f p from hac)]
              unfold ws
              rw [List.map_append]
              rfl
          · rw [decide_eq_false hac]
            refine iteF ⟨sm7, ?_⟩
            rw [etk, if_neg (show ¬ Acc f p from hac), List.append_nil]
            exact hD7
        · obtain ⟨sm6, hD6⟩ := hpv
          rw [encE_len, List.take_length, ws_eq] at hD6
          have ⟨p, u, hp, ha⟩ : ∃ p u, (p, u) ∈ E ∧ Acc f p := by
            apply Classical.byContradiction
            intro z
            exact hall fun p u hp ha => z ⟨p, u, hp, ha⟩
          refine ⟨D, _, rfl, .inl (.inl hD6), ?_, fun m hm hmin => ?_⟩
          · refine List.length_pos_of_mem (a := mk u) (List.mem_map.mpr ⟨u, List.mem_map.mpr ⟨(p, u), List.mem_filter.mpr ⟨hp, decide_eq_true ha⟩, rfl⟩, rfl⟩)
          · obtain ⟨u1, hu1, rfl⟩ := List.mem_map.mp hm
            obtain ⟨⟨p1, u2⟩, hpu1, e2⟩ := List.mem_map.mp hu1
            have : u2 = u1 := e2
            subst this
            obtain ⟨h1, h2⟩ := List.mem_filter.mp hpu1
            refine q H6 u2 (hs5.same sm6).ext (sh.end_ h1 (of_decide_eq_true h2) fun p' w' hw' ha' => ?_)
            exact hmin (mk w') (List.mem_map.mpr ⟨w', List.mem_map.mpr ⟨(p', w'), List.mem_filter.mpr ⟨hw', decide_eq_true ha'⟩, rfl⟩, rfl⟩)
end
end K07
/-! Rules that the layer lacks, 6: set(text); len and sorted of it. -/
namespace K07
open PySem PySem.Spec PyProof.Rows L2
open PySem.Froz (SD sObj TxOk addTx tailTx)
/-- the payload of a set of texts whose table can be walked -/
structure TxR (P : Program) (w : World) (D : SD) (l : List Str) : Prop where
  ok : TxOk P w D l
  ris : Ris D.2.2.place.toList
  led : w.params.followText "set-order" = true ∨ D.2.2.led = true
  nd : l.Nodup
theorem tail_ris {ep : Nat} {es : Array (Int × Value)} {t : SetTable} {b : Bool} (r : Ris t.place.toList) : Ris (tailTx ep es t b).2.2.place.toList := by
  unfold tailTx
  split
  · exact relayAll_ris t es _
  · exact r
theorem tail_led (ep : Nat) (es : Array (Int × Value)) (t : SetTable) (b : Bool) : (tailTx ep es t b).2.2.led = t.led := by
  unfold tailTx
  split
  · exact relayAll_led t es _
  · rfl
section
variable {P : Program} {w : World} {A : Around} {E : Value → Shared → Prop} {s : Shared}
theorem add_r {D : SD} {l : List Str} {k : Str} (u : Tok) (F : TxR P w D l) (hk : k ∉ l) : TxR P w (addTx (hashStr w k) (.str k u) D) (k :: l) := by
  refine ⟨Froz.add_ok u F.ok, ?_, ?_, List.nodup_cons.mpr ⟨hk, F.nd⟩⟩
  · unfold addTx
    refine tail_ris ?_
    have q := layNew_ris D.2.2 D.1 (hashStr w k) (.str k u) F.ris
    split <;> exact q
  · refine F.led.imp id fun q => ?_
    unfold addTx
    rw [tail_led]
    have z := (layNew_led D.2.2 D.1 (hashStr w k) (.str k u)).trans q
    split <;> exact z
theorem add_txt {a : Addr} {D : SD} {l : List Str} {k : Str} {u : Tok} {Q : Bool → Shared → Prop} (ho : s.heap.get? a = some (sObj "set" D)) (F : TxR P w D l) (hb : l.length + 1 < scanBound)
    (h1 : k ∈ l → Q false s) (h2 : k ∉ l → Q true { s with heap := s.heap.update a (fun _ => sObj "set" (addTx (hashStr w k) (.str k u) D)) }) : wpAny (model P w) A (setAddHashed a (.str k u) (hashStr w k)) Q E s := by
  by_cases hk : k ∈ l
  · obtain ⟨es, ep, t⟩ := D
    have dat : (sObj "set" (es, ep, t)).data = .set es ep t := rfl
    have fit : t.fits es.size = true := F.ok.fit
    have els : ElemsOf (strKind P w) es.toList := F.ok.el
    have sz : es.size = l.length := F.ok.sz
    have small : es.size < scanBound := by omega
    obtain ⟨e, he, hke⟩ := (F.ok.mem k).mp hk
    unfold setAddHashed setAddHashedIn
    refine wpAny_holding (wpAny_bind (wpAny_setState_of ho dat fit ?_))
    dsimp only
    rw [byScan_of rfl small els]
    simp only [↓reduceIte]
    unfold setAddByScan
    refine wpAny_bind (wpAny_bind (wpAny_rule (wpAny_bind (wpAny_setScan_of (knd := strKind P w) (k := k) (Froz.is_str k u) ho dat fit els ?_))))
    cases hr : List.findIdx? (fun e => (strKind P w).is k e.2) es.toList with
    | none =>
      have := List.findIdx?_eq_none_iff.mp hr e he
      rw [hke] at this
      cases this
    | some j =>
      dsimp only
      exact wpAny_pure (wpAny_pure (h1 hk))
  · exact Froz.add_x ho F.ok hk hb (h2 hk)
/-- the loop of set.update over the signs of a text -/
theorem loop_txt {R : Result → Shared → Prop} {I a : Addr} {fp wr : List Addr} {x : Str} {St : Nat → Heap → Prop} (W : Walks P w A.in1 I fp wr x.cps.size (SignAt x) St) (haf : a ∉ fp) (hb : x.cps.size + 1 < scanBound) :
    ∀ (m i : Nat) (s : Shared) (D : SD) (l : List Str), x.cps.size - i = m → i ≤ x.cps.size → St i s.heap → s.heap.get? a = some (sObj "set" D) → TxR P w D l → l.length ≤ i → (∀ z, z ∈ l ↔ ∃ c ∈ x.cps.toList.take i, z = ⟨#[c]⟩) →
      (∀ h' tk D' l', (∀ b o, b ∉ a :: wr → s.heap.get? b = some o → h'.get? b = some o) → h'.get? a = some (sObj "set" D') → TxR P w D' l' → l'.length ≤ x.cps.size → (∀ z, z ∈ l' ↔ ∃ c ∈ x.cps.toList, z = ⟨#[c]⟩) → R (.ok (.ret .none)) { s with heap := h', toks := tk }) →
      codeAny (model P w) A (.builtin "set.update.loop" ⟨[.ref a, .ref I], []⟩) R s := by
  have haw : a ∉ wr := fun z => haf (W.sub _ z)
  intro m
  induction m with
  | zero =>
    intro i s D l hm hi st ho F hl hz hR
    have hin : i = x.cps.size := by omega
    subst hin
    refine codeAny_builtin PyProof.Rows.F.entry_set_update_loop ?_
    rw [Around.under_plainId PyProof.Rows.F.plain_set_update_loop _]
    show wpAny _ A.in1 (pyNext (.ref I) >>= _) _ _ s
    refine wpAny_bind (W.done s _ _ st fun h' tk kk => ?_)
    show wpAny _ A.in1 (ret Value.none) _ _ _
    refine wpAny_pure (hR h' tk D l (fun b o hb e => kk b o (fun z => hb (List.mem_cons_of_mem _ z)) e) (kk a _ haw ho) F hl fun z => ?_)
    rw [hz z, List.take_of_length_le (by simp)]
  | succ m ih =>
    intro i s D l hm hi st ho F hl hz hR
    have hlt : i < x.cps.size := by omega
    refine codeAny_builtin PyProof.Rows.F.entry_set_update_loop ?_
    rw [Around.under_plainId PyProof.Rows.F.plain_set_update_loop _]
    show wpAny _ A.in1 (pyNext (.ref I) >>= _) _ _ s
    refine wpAny_bind (W.item i s _ _ hlt st fun v h' tk hv st' kk => ?_)
    obtain ⟨c, u, hc, rfl⟩ := hv
    have ho' : h'.get? a = some (sObj "set" D) := kk a _ haw ho
    have hc' : x.cps.toList[i]? = some c := by rw [Array.getElem?_toList]; exact hc
    have key : ∀ z, (z = (⟨#[c]⟩ : Str) ∨ z ∈ l) ↔ ∃ d ∈ x.cps.toList.take (i + 1), z = ⟨#[d]⟩ := fun z => by
      rw [hz z, List.take_add_one, hc']
      constructor
      · rintro (rfl | ⟨d, h1, h2⟩)
        · exact ⟨c, List.mem_append_right _ (by simp), rfl⟩
        · exact ⟨d, List.mem_append_left _ h1, h2⟩
      · rintro ⟨d, h1, h2⟩
        rcases List.mem_append.mp h1 with h1 | h1
        · exact .inr ⟨d, h1, h2⟩
        · have : d = c := by simpa using h1
          subst this
          exact .inl h2
    show wpAny _ A.in1 (holding [Value.str ⟨#[c]⟩ u] (setAdd a (.str ⟨#[c]⟩ u)) >>= _) _ _ _
    refine wpAny_bind (wpAny_holding ?_)
    unfold setAdd
    refine wpAny_holding (wpAny_bind ((strKind P w).pyHash (k := ⟨#[c]⟩) (Froz.is_str _ _) ?_))
    refine add_txt (s := { s with heap := h', toks := tk + 1 }) ho' F (by omega) (fun hin => ?_) fun hnin => ?_
    · refine wpAny_pure ⟨plainId_quiet PyProof.Rows.F.plain_set_update_loop _, ih (i + 1) _ D l (by omega) hlt st' ho' F (by omega) (fun z => ?_) fun h2 tk2 D' l' k2 o2 F2 l2 z2 => ?_⟩
      · rw [← key z]
        exact ⟨.inr, fun q => q.elim (fun e => e ▸ hin) id⟩
      · exact hR h2 tk2 D' l' (fun b o hb e => k2 b o hb (kk b o (fun z => hb (List.mem_cons_of_mem _ z)) e)) o2 F2 l2 z2
    · have hoN : (h'.update a (fun _ => sObj "set" (addTx (hashStr w ⟨#[c]⟩) (.str ⟨#[c]⟩ u) D))).get? a = some (sObj "set" (addTx (hashStr w ⟨#[c]⟩) (.str ⟨#[c]⟩ u) D)) := Froz.get_upd _ ho' rfl
      have oth : ∀ b o, b ≠ a → h'.get? b = some o → (h'.update a (fun _ => sObj "set" (addTx (hashStr w ⟨#[c]⟩) (.str ⟨#[c]⟩ u) D))).get? b = some o := fun b o hb e => Heap.get?_update_of_ne _ (Ne.symm hb) e
      generalize h'.update a (fun _ => sObj "set" (addTx (hashStr w ⟨#[c]⟩) (.str ⟨#[c]⟩ u) D)) = h3 at hoN oth ⊢
      refine wpAny_pure ⟨plainId_quiet PyProof.Rows.F.plain_set_update_loop _, ih (i + 1) _ _ (⟨#[c]⟩ :: l) (by omega) hlt (W.frame _ h' _ st' fun b hb o e => oth b o (fun z => haf (z ▸ hb)) e) hoN (add_r u F hnin) (by rw [List.length_cons]; omega) (fun z => ?_) fun h2 tk2 D' l' k2 o2 F2 l2 z2 => ?_⟩
      · rw [← key z, List.mem_cons]
      · exact hR h2 tk2 D' l' (fun b o hb e => k2 b o hb (oth b o (fun z => hb (by rw [z]; exact List.mem_cons_self ..)) (kk b o (fun z => hb (List.mem_cons_of_mem _ z)) e))) o2 F2 l2 z2
end
end K07
/-! Rules that the layer lacks, 7: set(text), called; len, sorted. -/
namespace K07
open PySem PySem.Spec PyProof.Rows L2
open PySem.Froz (SD sObj TxOk addTx tailTx)
section
variable {P : Program} {w : World} {A : Around} {E : Value → Shared → Prop} {s : Shared}
def newD (w : World) : SD := (#[], 0, .fresh 0 0 (!w.params.followText "set-order"))
theorem newD_r (P : Program) (w : World) : TxR P w (newD w) [] where
  ok := Froz.TxOk.nil (by rfl)
  ris := List.Pairwise.nil
  led := by
    show _ ∨ (!w.params.followText "set-order") = true
    cases w.params.followText "set-order"
    · exact .inr rfl
    · exact .inl rfl
  nd := List.nodup_nil
theorem call_set_txt {x : Str} {t : Tok} {Q : Value → Shared → Prop} (hh : A.handled = none) (hb : x.cps.size + 1 < scanBound)
    (h : ∀ (h' : Heap) (tk : Nat) (D : SD) (l : List Str), h'.get? s.heap.objs.size = some (sObj "set" D) → TxR P w D l → l.length ≤ x.cps.size → (∀ z, z ∈ l ↔ ∃ c ∈ x.cps.toList, z = ⟨#[c]⟩) → (∀ b o, s.heap.get? b = some o → h'.get? b = some o) → Q (.ref s.heap.objs.size) { s with heap := h', toks := tk }) :
    wpAny (model P w) A (call (.type "set") [.str x t]) Q E s := by
  obtain ⟨c, tl, hmro⟩ := PySem.F.called_set.mro
  have made := PySem.F.called_set.made
  have subs := PySem.F.called_set.sub
  refine wpAny_call (codeAny_of_tree ?_)
  show wpAny _ _ (callAny (.type "set") _) _ _ _
  refine wpAny_pure ⟨Code.quiet_builtin _ (by decide +kernel), codeAny_builtin PySem.F.entry_type_call ?_⟩
  rw [Around.under_plain (weight_type_call_type "set" [.str x t] []) rfl]
  have notT := PySem.F.called_set.notType
  have canC := PySem.F.called_set.canCreate
  have arg1 := PySem.F.typeCall_set_1 (.str x t)
  repeat (any_goals (first | assumption | wp_step))
  refine codeAny_mono (code_set_led1 (.str x t) (E := E) (Q₁ := fun v s₁ => v = .ref s.heap.objs.size ∧ s₁ = { s with heap := s.heap.push (sObj "set" (newD w)) }) ⟨rfl, rfl⟩) fun r s₁ hr => ?_
  cases r with
  | error e => exact hr
  | ok fl =>
    cases fl with
    | ret v =>
      obtain ⟨rfl, rfl⟩ := hr
      have gS : (s.heap.push (sObj "set" (newD w))).get? s.heap.objs.size = some (sObj "set" (newD w)) := Heap.get?_push_size _ rfl
      have tS : Shared.TypeIs { s with heap := s.heap.push (sObj "set" (newD w)) } (.ref s.heap.objs.size) "set" := ⟨_, gS, rfl⟩
      have lkI := PySem.F.called_set.init.lookup
      have bdI := PySem.F.called_set.init.bind (.ref s.heap.objs.size)
      repeat (any_goals (first | assumption | wp_step))
      refine codeAny_mono (codeAny_call_builtin (R := wants (fun v s₂ => v = .none ∧ ∃ h' tk D l, s₂ = { s with heap := h', toks := tk } ∧ h'.get? s.heap.objs.size = some (sObj "set" D) ∧ TxR P w D l ∧ l.length ≤ x.cps.size ∧ (∀ z, z ∈ l ↔ ∃ c ∈ x.cps.toList, z = ⟨#[c]⟩) ∧
          (∀ b o, s.heap.get? b = some o → h'.get? b = some o)) E) PySem.F.called_set.init.plain PySem.F.entry_set_init (check_set_init_1 tS ?_)) fun r₂ s₂ hr₂ => ?_
      · have sub1 := PySem.F.sub_str_set
        have sub2 := PySem.F.sub_str_frozenset
        have nod : (Value.type "str" == Value.type "dict") = false := by decide
        unfold Builtin.«set.__init__» noKeywords Builtin.Frozenset.updateFrom
        generalize hPI : pyIter = PI
        wp_walk
        subst hPI
        have ne1 : s.heap.objs.size ≠ (s.heap.push (sObj "set" (newD w))).objs.size := by
          rw [Heap.size_push]
          exact Nat.ne_of_lt (Nat.lt_succ_self _)
        refine wpAny_pyIter_str fun o St hW hst => wpAny_bind (wpAny_runValue ?_)
        refine loop_txt (hW _ (by simp [hh])) (fun z => ne1 (List.mem_singleton.mp z)) hb (x.cps.size - 0) 0 _ (newD w) [] rfl (Nat.zero_le _) hst (Heap.get?_push_of_some _ gS) (newD_r P w) (Nat.le_refl _) (fun z => by simp) fun h' tk D l kk hD hF hl hz => ?_
        show wpAny _ _ _ _ _ _
        refine wpAny_pure ?_
        show wpAny _ _ (ret Value.none) _ _ _
        refine wpAny_pure ⟨rfl, h', tk, D, l, rfl, hD, hF, hl, hz, fun b u e => kk b u (fun z => ?_) (Heap.get?_push_of_some _ (Heap.get?_push_of_some _ e))⟩
        have lt := Heap.lt_size e
        rcases List.mem_cons.mp z with z | z
        · exact Nat.ne_of_lt lt z
        · rw [List.mem_singleton.mp z, Heap.size_push] at lt
          exact Nat.lt_irrefl _ (Nat.lt_trans (Nat.lt_succ_self _) lt)
      · cases r₂ with
        | error e => exact hr₂
        | ok fl₂ =>
          cases fl₂ with
          | ret v =>
            obtain ⟨rfl, h', tk, D, l, rfl, h1, h2, h3, h4, h5⟩ := hr₂
            repeat (any_goals (first | assumption | wp_step))
            exact h _ _ _ _ h1 h2 h3 h4 h5
          | _ => exact hr₂.elim
    | _ => exact hr.elim
end
theorem perm_sub {α : Type} [BEq α] [LawfulBEq α] : ∀ {l xs : List α}, l.Nodup → (∀ k ∈ l, k ∈ xs) → xs.length ≤ l.length → xs.Perm l
  | [], xs, _, _, h => by
    have : xs = [] := List.length_eq_zero_iff.mp (Nat.le_zero.mp h)
    rw [this]
  | a :: l, xs, hn, hs, h => by
    obtain ⟨h1, h2⟩ := List.nodup_cons.mp hn
    have hm := hs a (List.mem_cons_self ..)
    have hl := List.length_erase_of_mem hm
    rw [List.length_cons] at h
    refine (List.perm_cons_erase hm).trans (List.Perm.cons a (perm_sub h2 (fun k hk => ?_) (by omega)))
    exact (List.mem_erase_of_ne (fun e : k = a => h1 (e ▸ hk))).mpr (hs k (List.mem_cons_of_mem _ hk))
/-! ### as rules -/
/-- a set of texts, read only -/
def SetT (P : Program) (w : World) (a : Addr) (l : List Str) : HO := .ext fun h => ∃ D, h.get? a = some (sObj "set" D) ∧ TxR P w D l
theorem setT_ok {P : Program} {w : World} {H : Hp} {h : Heap} {a : Addr} {l : List Str} {D : SD} (hD : h.get? a = some (sObj "set" D)) (F : TxR P w D l) : ObjOk P w H h a (SetT P w a l) :=
  ⟨⟨D, hD, F⟩, ⟨_, hD⟩, fun h1 h2 ⟨D, e, F⟩ k => ⟨D, k _ e, F⟩⟩
section
variable {X : Cx}
def rSetT (P : Program) (w : World) : List V → Hp → VK → Prop := fun vs H Q => ∃ x : Str, vs = [.str x] ∧ x.cps.size ≤ 1000 ∧ ∀ p l, H p = none → l.Nodup → (∀ z, z ∈ l ↔ ∃ c ∈ x.cps.toList, z = ⟨#[c]⟩) → Q (.ref p) (upd H p (SetT P w p l))
theorem cr_setT (hc : X.calm = true) : CallR X (.type "set") (rSetT X.prog X.w) := by
  intro pins s σ H vs us Q I r h
  obtain ⟨x, rfl, hx, q⟩ := h
  obtain ⟨u, rfl, ⟨t, rfl⟩⟩ := vals1 r
  refine call_set_txt (I.ok.hd hc) (by unfold scanBound; omega) fun h' tk D l hD F _ hz kk => ?_
  exact ⟨.ref s.heap.objs.size, upd H s.heap.objs.size (SetT X.prog X.w s.heap.objs.size l), I.laid (t' := tk) kk (Nat.le_refl _) (setT_ok hD F), rfl, q _ l (I.hok.fresh (Nat.le_refl _)) F.nd hz⟩
def rLenT (P : Program) (w : World) : List V → Hp → VK → Prop := fun vs H Q => ∃ p l, vs = [.ref p] ∧ H p = some (SetT P w p l) ∧ l.length ≤ 1000 ∧ Q (.int (l.length : Nat)) H
theorem cr_lenT : CallR X (.builtin "len") (rLenT X.prog X.w) := by
  intro pins s σ H vs us Q I r h
  obtain ⟨p, l, rfl, hp, hl, q⟩ := h
  obtain rfl := Vals.ref1 r
  obtain ⟨D, hD, F⟩ := (show ObjOk X.prog X.w H s.heap p (SetT X.prog X.w p l) from I.hok p _ hp).1
  have sz : D.1.size = l.length := F.ok.sz
  refine call_len_set hD ⟨rfl, rfl, rfl⟩ rfl F.ok.fit (by rw [sz]; omega) ⟨.int (l.length : Nat), H, I.tok _, ⟨_, by rw [sz]⟩, q⟩
def rSortT (P : Program) (w : World) : List V → Hp → VK → Prop := fun vs H Q => ∃ p l, vs = [.ref p] ∧ H p = some (SetT P w p l) ∧ l.length ≤ 1000 ∧
  ∀ ys d, ys.Perm l → sortedS ys = true → H d = none → Q (.ref d) (upd H d (.lst (ys.map V.str)))
theorem out_strs {P : Program} {w : World} {D : SD} {l : List Str} (F : TxR P w D l) {out : List Value} (hp : out.Perm (D.1.toList.map (·.2))) : ∃ xs : List Str, StrsAre out xs ∧ xs.Perm l := by
  have each : ∀ v ∈ out, ∃ k t, v = Value.str k t := fun v hv => by
    obtain ⟨e, he, rfl⟩ := List.mem_map.mp (hp.mem_iff.mp hv)
    obtain ⟨⟨k, h1, _⟩, _⟩ := F.ok.el e he
    obtain ⟨tk, e1⟩ := Value.isStrOf_shape (x := k) (v := e.2) h1
    exact ⟨k, tk, e1⟩
  have mkS : ∀ vs : List Value, (∀ v ∈ vs, ∃ k t, v = Value.str k t) → ∃ xs : List Str, StrsAre vs xs := by
    intro vs
    induction vs with
    | nil => exact fun _ => ⟨[], .nil⟩
    | cons v vs ih =>
      intro hv
      obtain ⟨k, t, rfl⟩ := hv v (List.mem_cons_self ..)
      obtain ⟨xs, hx⟩ := ih fun u hu => hv u (List.mem_cons_of_mem _ hu)
      exact ⟨k :: xs, .cons k t hx⟩
  obtain ⟨xs, hx⟩ := mkS out each
  refine ⟨xs, hx, ?_⟩
  have hlen : xs.length = l.length := by
    have h2 : out.length = D.1.size := by rw [hp.length_eq, List.length_map, Array.length_toList]
    exact ((strs_len hx).symm.trans h2).trans F.ok.sz
  have sub : ∀ k ∈ l, k ∈ xs := fun k hk => by
    obtain ⟨e, he, h1⟩ := (F.ok.mem k).mp hk
    have hm : e.2 ∈ out := hp.mem_iff.mpr (List.mem_map.mpr ⟨e, he, rfl⟩)
    obtain ⟨tk, e1⟩ := Value.isStrOf_shape (x := k) (v := e.2) h1
    rw [e1] at hm
    have memS : ∀ {vs : List Value} {ys : List Str}, StrsAre vs ys → Value.str k tk ∈ vs → k ∈ ys := by
      intro vs ys h
      induction h with
      | nil => exact fun z => by cases z
      | cons y t _ ih =>
        intro z
        rcases List.mem_cons.mp z with z | z
        · cases z
          exact List.mem_cons_self ..
        · exact List.mem_cons_of_mem _ (ih z)
    exact memS hx hm
  exact perm_sub F.nd sub (by omega)
theorem cr_sortT (hc : X.calm = true) : CallR X (.builtin "sorted") (rSortT X.prog X.w) := by
  intro pins s σ H vs us Q I r h
  obtain ⟨p, l, rfl, hp, hl, q⟩ := h
  obtain rfl := Vals.ref1 r
  obtain ⟨D, hD, F⟩ := (show ObjOk X.prog X.w H s.heap p (SetT X.prog X.w p l) from I.hok p _ hp).1
  have sz : D.1.size = l.length := F.ok.sz
  refine Calls.call_function_entry kind_sorted plain_sorted entry_sorted (args_sorted1 _) ?_
  unfold Builtin.«sorted»
  refine wpAny_bind (m := checkCount "sorted" 1 1 _) (wpAny_pure ?_)
  refine wpAny_bind (collect_set (A := X.A.in1) (I.ok.hd hc) ⟨_, hD, rfl, rfl⟩ F.ok.fit (by rw [sz]; unfold scanBound; omega) F.ris F.led fun s1 out k1 hz g1 o1 pm => ?_)
  obtain ⟨xs, hx, px⟩ := out_strs F pm
  have hol : out.length ≤ sizeLine := by
    rw [strs_len hx, px.length_eq]
    exact Nat.le_trans hl (by decide)
  refine wpAny_bind (wpAny_newList ?_ hol)
  have ob : (s1.heap.push (seqObj "list" out.toArray 0)).get? s1.heap.objs.size = some (seqObj "list" out.toArray 0) := Heap.get?_push_size _ rfl
  refine wpAny_bind (wpAny_holding (wpAny_call_entry slot_list_sort ⟨_, ob, rfl⟩ entry_list_sort (list_sort_treeKAny strKind_oneLt ob hx.keysOf (fun v1 v2 rest e => keyKind_strs (by rw [← e]; exact hx)) hol fun st hp1 hs1 => ⟨_, rfl, ?_⟩) (args_list_sort _)))
  obtain ⟨ys, y1, y2, y3⟩ := sorted_out_str hx hp1 hs1
  generalize (arrOf st).map (·.2) = srt at y1 ⊢
  obtain ⟨ce, hce⟩ := sortedHeap_at (vs := out) (out := srt) ob
  have kall : ∀ b o, s.heap.get? b = some o → (sortedHeap (s1.heap.push (seqObj "list" out.toArray 0)) s1.heap.objs.size out srt).get? b = some o := fun b o e => by
    have e1 := k1 b o e
    have lt := Heap.lt_size e1
    rw [sortedHeap_old (Nat.ne_of_lt lt) (by rw [size_push']; exact Nat.lt_succ_of_lt lt)]
    exact Heap.get?_push_of_some _ e1
  have hyl : (ys.map V.str).length ≤ sizeLine := by
    rw [List.length_map, (y2.trans px).length_eq]
    exact Nat.le_trans hl (by decide)
  have new : ObjOk X.prog X.w (upd H s1.heap.objs.size (.lst (ys.map V.str))) (sortedHeap (s1.heap.push (seqObj "list" out.toArray 0)) s1.heap.objs.size out srt) s1.heap.objs.size (.lst (ys.map V.str)) := ⟨hyl, srt.toList, ce, vals_of_strs y1, hce⟩
  have nH : H s1.heap.objs.size = none := I.hok.fresh hz
  generalize sortedHeap (s1.heap.push (seqObj "list" out.toArray 0)) s1.heap.objs.size out srt = h2 at kall new hce ⊢
  refine wpAny_pure ⟨_, rfl, ?_⟩
  refine ⟨.ref s1.heap.objs.size, _, I.call' (ch := []) o1 (Un.laid kall hz nH) (I.hok.laid kall hz new) (by show AllBare s1.gens; rw [g1]; exact I.bare) (fun _ z => nomatch z), rfl, q ys _ (y2.trans px) y3 nH⟩
end
end K07
/-! always -/
namespace K07
open PySem PySem.Spec PyProof.Rows L2
theorem one_lt {a b : Nat} (h1 : ¬ ([b] : List Nat) < [a]) (h2 : a ≠ b) : a < b := by
  rcases Nat.lt_or_ge a b with h | h
  · exact h
  · have : b < a := by omega
    exact absurd (List.cons_lt_cons_iff.mpr (.inl this)) h1
/-- the letters of a text, by the alphabet -/
theorem set_letters {f : Wd} {l ys : List Str} (nd : l.Nodup) (hl : ∀ z, z ∈ l ↔ ∃ c ∈ f, z = ⟨#[c]⟩) (p : ys.Perm l) (s : sortedS ys = true) : ∃ cs : List Nat, ys.map V.str = ws (cs.map fun c => [c]) ∧ cs.Pairwise (· < ·) ∧ ∀ c, c ∈ cs ↔ c ∈ f := by
  have o := sorted_ord s
  have nys : ys.Nodup := p.nodup_iff.mpr nd
  have one : ∀ z ∈ ys, ∃ c, z = mk [c] := fun z hz => by
    obtain ⟨c, _, e⟩ := (hl z).mp (p.mem_iff.mp hz)
    exact ⟨c, e⟩
  have build : ∀ zs : List Str, (∀ z ∈ zs, ∃ c, z = mk [c]) → ∃ cs : List Nat, zs = cs.map fun c => mk [c] := by
    intro zs
    induction zs with
    | nil => exact fun _ => ⟨[], rfl⟩
    | cons z zs ih =>
      intro h
      obtain ⟨c, rfl⟩ := h z (List.mem_cons_self ..)
      obtain ⟨cs, rfl⟩ := ih fun y hy => h y (List.mem_cons_of_mem _ hy)
      exact ⟨c :: cs, rfl⟩
  obtain ⟨cs, rfl⟩ := build ys one
  refine ⟨cs, ?_, ?_, fun c => ?_⟩
  · unfold ws
    rw [List.map_map, List.map_map]
    rfl
  · unfold Ord at o
    rw [List.map_map, List.pairwise_map] at o
    have n2 : cs.Pairwise (· ≠ ·) := by
      have := (List.pairwise_map.mp nys)
      exact this.imp fun h e => h (by rw [e])
    exact (o.and n2).imp fun h => one_lt h.1 h.2
  · constructor
    · intro h
      obtain ⟨d, hd, e⟩ := (hl (mk [c])).mp (p.mem_iff.mp (List.mem_map.mpr ⟨c, h, rfl⟩))
      have : c = d := (List.cons.inj (mk_inj (show mk [c] = mk [d] from e))).1
      rw [this]
      exact hd
    · intro h
      obtain ⟨d, hd, e⟩ := List.mem_map.mp (p.mem_iff.mpr ((hl (mk [c])).mpr ⟨c, h, rfl⟩))
      have : d = c := (List.cons.inj (mk_inj e)).1
      rw [← this]
      exact hd
theorem join_ones : ∀ gs : List Nat, TL.joinL [] (gs.map fun c => [c]) = gs
  | [] => rfl
  | [_] => rfl
  | a :: b :: r => by
    show [a] ++ ([] ++ TL.joinL [] ((b :: r).map fun c => [c])) = _
    rw [join_ones (b :: r)]
    rfl
def spAl : Sp := fun vs H Q _ => ∃ f : Wd, vs = [.str (mk f)] ∧ Film f ∧ ∀ H' gs, Same H H' → gs.Pairwise (· < ·) → (∀ c, c ∈ gs ↔ c ∈ f ∧ ∀ w, Out f w → c ∈ w) → Q (.str (mk gs)) H'
section
variable {P : Program} {w : World} {K : PySem.W.Frag} {mg : Str → Option Value} {base : Heap}
theorem ok_al {f fC fF : Addr} {fd fdC fdF : FuncData} (F : Fun K "always" "always" sAl f fd) (Nm : Names mg) (C : Cl P w K mg base 2 "can_miss" ["film", "letter"] spCM fC fdC) (D : Cl P w K mg base 1 "need_film" ["value"] spNeed fF fdF) : FnOk P w K mg base CX0 3 f fd ["film"] spAl := by
  refine F.ok scAl (fun vs H Q E h => ?_) (fun cdv A outer s H vs Q E hr h => ?_)
  · obtain ⟨f, rfl, _⟩ := h
    rfl
  · obtain ⟨f, rfl, hf, q⟩ := h
    have hfl := hf.le
    refine ⟨_, pss_cons (ps_expr (pe_call D.ok (hr.mono (by decide)) (by rfl) D.g D.kp D.b .nil pass0 (pa_cons (pv 0) pa_nil)))
      (pss_one (ps_ret (pe_join pe_str (pe_lc (own := [("letter", 1)]) (g := gName 1) rfl scAl.nd (pi_list (pe_callB (cr_sortT rfl) (by rfl) Nm.sorted (by decide +kernel) (pa_cons (pe_callTy (cr_setT rfl) (by rfl) Nm.set (by decide +kernel) (pa_cons (pv 0) pa_nil)) pa_nil)))
            (blkOk_by (own := [("letter", 1)]) (N := ["film", "letter"]) (sc := defScope sAl) (by decide +kernel)) (fun _ _ _ _ _ => pg_name (i := 1) scAl.nd rfl (Or.inl rfl))
            (fun _ _ _ _ _ => pts_one (pt_not (pt_val (pe_call C.ok hr (by rfl) C.g C.kp C.b .nil pass0 (pa_cons (pv 0) (pa_cons (pv 1) pa_nil))))))
            (fun _ _ _ _ _ => pv 1))))), ?_⟩
    refine ⟨_, rfl, f, rfl, hf, fun H1 sm1 => ?_⟩
    refine ⟨⟨_, rfl⟩, _, rfl, mk f, rfl, (by rw [mk_size]; omega), fun S l nS nd hl => ?_⟩
    have hl' : ∀ z, z ∈ l ↔ ∃ c ∈ f, z = ⟨#[c]⟩ := hl
    have hll : l.length ≤ 12 := by
      have := length_le_of_nodup_of_subset l (f.map fun c => (⟨#[c]⟩ : Str)) nd fun z hz => by
        obtain ⟨c, hc, rfl⟩ := (hl' z).mp hz
        exact List.mem_map.mpr ⟨c, hc, rfl⟩
      rw [List.length_map] at this
      omega
    refine ⟨S, l, rfl, upd_same, by omega, fun ys d py sy nD => ?_⟩
    obtain ⟨cs, ecs, rcs, mcs⟩ := set_letters nd hl' py sy
    have hcl : cs.length ≤ 12 := by
      have := congrArg List.length ecs
      rw [ws_len, List.length_map, List.length_map, py.length_eq] at this
      omega
    rw [ecs]
    have s2 : Same H (upd (upd H1 S (SetT P w S l)) d (.lst (ws (cs.map fun c => [c])))) := (sm1.trans (same_upd nS)).trans (same_upd nD)
    have hd2 : (upd (upd H1 S (SetT P w S l)) d (.lst (ws (cs.map fun c => [c])))) d = some (.lst (ws (cs.map fun c => [c]))) := upd_same
    refine ⟨d, rfl, ⟨_, .inl (.inl hd2)⟩, fun R nR => ?_⟩
    refine lc_it walk_list (fun i H' => Same (upd (upd H1 S (SetT P w S l)) d (.lst (ws (cs.map fun c => [c])))) H' ∧ ∃ gs : List Nat, H' R = some (.lst (ws (gs.map fun c => [c]))) ∧ gs.Sublist (cs.take i) ∧ ∀ c, c ∈ gs ↔ c ∈ cs.take i ∧ ∀ v, Out f v → c ∈ v)
      ⟨same_upd nR, [], upd_same, List.nil_sublist _, fun c => by simp⟩ (fun i H' _ h => .inl (.inl (h.1 _ _ hd2))) (fun i x H3 H4 hi hpv hy => ?_) fun H3 hpv => ?_
    · obtain ⟨sm3, gs, hR, hsub, hgs⟩ := hpv
      obtain ⟨rfl, hx⟩ := hy
      obtain ⟨v, hv, rfl⟩ := ws_get hx
      rw [List.getElem?_map] at hv
      obtain ⟨c, hc, rfl⟩ := Option.map_eq_some_iff.mp hv
      have etk : cs.take (i + 1) = cs.take i ++ [c] := by
        rw [List.take_add_one, hc]
        rfl
      refine ⟨rfl, _, rfl, _, rfl, f, c, rfl, hf, fun H5 b sm5 hb => ?_⟩
      cases b with
      | true =>
        obtain ⟨v, hv1, hv2⟩ := hb.mp rfl
        refine ⟨true, rfl, iteF ⟨sm3.trans sm5, gs, sm5 _ _ hR, ?_, fun e => ?_⟩⟩
        · rw [etk]
          exact hsub.trans (List.sublist_append_left _ _)
        · rw [etk, hgs e, List.mem_append]
          constructor
          · rintro ⟨h1, h2⟩
            exact ⟨.inl h1, h2⟩
          · rintro ⟨h1 | h1, h2⟩
            · exact ⟨h1, h2⟩
            · have : e = c := by simpa using h1
              subst this
              exact absurd (h2 v hv1) hv2
      | false =>
        have all : ∀ v, Out f v → c ∈ v := fun v hv => by
          apply Decidable.byContradiction
          intro z
          exact absurd (hb.mpr ⟨v, hv, z⟩) Bool.false_ne_true
        refine ⟨false, rfl, iteT ⟨_, rfl, _, sm5 _ _ hR, ?_, same_frz (sm3.trans sm5) nR, gs ++ [c], ?_, ?_, fun e => ?_⟩⟩
        · rw [ws_len, List.length_map]
          have := hsub.length_le
          rw [List.length_take] at this
          exact small24 (by omega)
        · rw [upd_same, ws_snoc, List.map_append]
          rfl
        · rw [etk]
          exact hsub.append (List.Sublist.refl _)
        · rw [etk, List.mem_append, List.mem_append, hgs e]
          constructor
          · rintro (⟨h1, h2⟩ | h1)
            · exact ⟨.inl h1, h2⟩
            · have : e = c := by simpa using h1
              subst this
              exact ⟨.inr h1, all⟩
          · rintro ⟨h1 | h1, h2⟩
            · exact .inl ⟨h1, h2⟩
            · exact .inr h1
    · obtain ⟨sm3, gs, hR, hsub, hgs⟩ := hpv
      rw [ws_len, List.length_map, List.take_length] at hsub hgs
      rw [ws_eq] at hR
      refine ⟨_, R, (gs.map fun c => [c]).map mk, rfl, rfl, .inl (.inl (.inl hR)), ?_, ?_⟩
      · have hgl := hsub.length_le
        have e1 : ((((gs.map fun c => [c]).map mk).map (·.length)).sum) = gs.length := by
          clear hR hgs hsub hgl
          induction gs with
          | nil => rfl
          | cons a r ih =>
            show 1 + (((r.map fun c => [c]).map mk).map (·.length)).sum = r.length + 1
            rw [ih]
            omega
        rw [e1, List.length_map, List.length_map]
        have : gs.length * (Str.ofString "").length = 0 := Nat.mul_zero _
        omega
      · have e2 : Txt.join (Str.ofString "") ((gs.map fun c => [c]).map mk) = mk gs := by
          have := SX.join_S [] (gs.map fun c => [c])
          rw [join_ones] at this
          exact this
        rw [e2]
        refine q H3 gs (s2.trans sm3) (rcs.sublist hsub) fun c => ?_
        rw [hgs c, mcs c]
end
end K07
/-! The plain law, part 6: what law compares. -/
namespace K07
theorem known_len {f : Wd} {ys : List Wd} (nd : ys.Nodup) (hm : ∀ v ∈ ys, Reach f v) : ys.length ≤ 2 ^ f.length := by
  rw [← subs_len]
  exact nodup_le nd fun v hv => subs_mem (hm v hv).sub
theorem low_eq {f : Wd} {ys : List Wd} {n : Nat} {u0 : Wd} (hf : f ≠ []) (mem : ∀ v, v ∈ ys ↔ Reach f v) (h1 : ∃ w, Out f w ∧ w.length = n) (h2 : ∀ w, Out f w → n ≤ w.length) (hu : u0 ∈ ys) (hmin : ∀ u ∈ ys, u0.length ≤ u.length) : n = u0.length := by
  obtain ⟨w, hw, rfl⟩ := h1
  have a := h2 u0 ((reach_iff_out hf).mp ((mem u0).mp hu))
  have b := hmin w ((mem w).mpr ((reach_iff_out hf).mpr hw))
  omega
theorem first_eq {f : Wd} {ys : List Wd} {u0 v : Wd} (hf : f ≠ []) (ord : Ord ys) (mem : ∀ v, v ∈ ys ↔ Reach f v) (hu : u0 ∈ ys) (hmin : ∀ u ∈ ys, u0.length ≤ u.length) (hv : First f v) :
    ∃ rest, ys.filter (fun u => decide (u.length = u0.length)) = v :: rest := by
  obtain ⟨h1, h2, h3⟩ := hv
  have iv : v ∈ ys := (mem v).mpr ((reach_iff_out hf).mpr h1)
  have lv : v.length = u0.length := by
    have a := h2 u0 ((reach_iff_out hf).mp ((mem u0).mp hu))
    have b := hmin v iv
    omega
  have fv : v ∈ ys.filter (fun u => decide (u.length = u0.length)) := List.mem_filter.mpr ⟨iv, decide_eq_true lv⟩
  have o : Ord (ys.filter (fun u => decide (u.length = u0.length))) := List.Pairwise.filter _ ord
  have len : ∀ u ∈ ys.filter (fun u => decide (u.length = u0.length)), Out f u ∧ u.length = u0.length := fun u hu' => by
    obtain ⟨a, b⟩ := List.mem_filter.mp hu'
    exact ⟨(reach_iff_out hf).mp ((mem u).mp a), of_decide_eq_true b⟩
  generalize ys.filter (fun u => decide (u.length = u0.length)) = l at fv o len
  cases l with
  | nil => cases fv
  | cons w0 rest =>
    refine ⟨rest, ?_⟩
    obtain ⟨ow, lw⟩ := len w0 (List.mem_cons_self ..)
    have a := h3 w0 ow (by omega)
    rcases List.mem_cons.mp fv with e | hr
    · rw [e]
    · have b := (List.pairwise_cons.mp o).1 v hr
      have e : w0 = v := List.le_antisymm (List.not_lt.mp b) (List.not_lt.mp a)
      rw [e]
theorem last_eq {f : Wd} {ys zs : List Wd} (hf : f ≠ []) (oy : Ord ys) (ny : ys.Nodup) (mem : ∀ v, v ∈ ys ↔ Reach f v) (oz : Ord zs) (nz : zs.Nodup) (mz : ∀ w, w ∈ zs ↔ Out f w ∧ w.Nodup) : ys.filter (fun u => decide u.Nodup) = zs := by
  refine ord_same (List.Pairwise.filter _ oy) oz (List.Pairwise.filter _ ny) nz fun w => ?_
  rw [List.mem_filter, mz w, mem w, reach_iff_out hf, decide_eq_true_iff]
def abc : List Nat := [97, 98, 99, 100, 101, 102, 103, 104]
theorem abc_mem {c : Nat} : c ∈ abc ↔ 97 ≤ c ∧ c ≤ 104 := by
  unfold abc
  simp only [List.mem_cons, List.not_mem_nil, or_false]
  omega
/-- the letters that all words of a list have -/
def due (ys : List Wd) (l : List Nat) : List Nat := l.filter fun c => decide (∀ u ∈ ys, c ∈ u)
theorem rise_uniq : ∀ {l m : List Nat}, l.Pairwise (· < ·) → m.Pairwise (· < ·) → (∀ c, c ∈ l ↔ c ∈ m) → l = m
  | [], [], _, _, _ => rfl
  | [], y :: m, _, _, h => by cases (h y).mpr (List.mem_cons_self ..)
  | x :: l, [], _, _, h => by cases (h x).mp (List.mem_cons_self ..)
  | x :: l, y :: m, hl, hm, h => by
    obtain ⟨l1, l2⟩ := List.pairwise_cons.mp hl
    obtain ⟨m1, m2⟩ := List.pairwise_cons.mp hm
    have e : x = y := by
      rcases List.mem_cons.mp ((h x).mp (List.mem_cons_self ..)) with e | a
      · exact e
      · rcases List.mem_cons.mp ((h y).mpr (List.mem_cons_self ..)) with e | b
        · exact e.symm
        · have := m1 x a
          have := l1 y b
          omega
    subst e
    rw [rise_uniq l2 m2 fun c => ?_]
    constructor
    · intro hc
      rcases List.mem_cons.mp ((h c).mp (List.mem_cons_of_mem _ hc)) with e | a
      · have := l1 c hc
        omega
      · exact a
    · intro hc
      rcases List.mem_cons.mp ((h c).mpr (List.mem_cons_of_mem _ hc)) with e | a
      · have := m1 c hc
        omega
      · exact a
theorem due_eq {f : Wd} {ys : List Wd} {gs : List Nat} (hf : f ≠ []) (hl : ∀ c ∈ f, 97 ≤ c ∧ c ≤ 104) (mem : ∀ v, v ∈ ys ↔ Reach f v) (rg : gs.Pairwise (· < ·)) (mg : ∀ c, c ∈ gs ↔ c ∈ f ∧ ∀ w, Out f w → c ∈ w) : due ys abc = gs := by
  refine rise_uniq (List.Pairwise.filter _ (by decide)) rg fun c => ?_
  unfold due
  rw [List.mem_filter, decide_eq_true_iff, abc_mem, mg c]
  constructor
  · rintro ⟨_, h2⟩
    exact ⟨h2 f ((mem f).mpr (.refl f)), fun w hw => h2 w ((mem w).mpr ((reach_iff_out hf).mpr hw))⟩
  · rintro ⟨h1, h2⟩
    exact ⟨hl c h1, fun u hu => h2 u ((reach_iff_out hf).mp ((mem u).mp hu))⟩
theorem due_snoc (ys : List Wd) (l : List Nat) (c : Nat) : due ys (l ++ [c]) = due ys l ++ if (ys.filter fun u => !decide (c ∈ u)).isEmpty = true then [c] else [] := by
  unfold due
  rw [List.filter_append]
  congr 1
  by_cases h : ∀ u ∈ ys, c ∈ u
  · have e : (ys.filter fun u => !decide (c ∈ u)) = [] := List.filter_eq_nil_iff.mpr fun u hu => by
      rw [decide_eq_true (h u hu)]
      decide
    rw [if_pos (show (ys.filter fun u => !decide (c ∈ u)).isEmpty = true by rw [e]; rfl)]
    exact List.filter_cons_of_pos (by exact decide_eq_true h)
  · have e : ¬ (ys.filter fun u => !decide (c ∈ u)).isEmpty = true := fun z => h fun u hu => by
      rw [List.isEmpty_iff, List.filter_eq_nil_iff] at z
      have := z u hu
      apply Decidable.byContradiction
      intro y
      rw [decide_eq_false y] at this
      exact this rfl
    rw [if_neg e]
    exact List.filter_cons_of_neg (by rw [decide_eq_false h]; decide)
theorem reach_flat {f u : Wd} (h : Reach f u) (hl : ∀ c ∈ f, 97 ≤ c ∧ c ≤ 104) : ∀ c ∈ u, c ≤ 104 := fun c hc => (hl c (h.sub.subset hc)).2
theorem reach_len {f u : Wd} (h : Reach f u) : u.length ≤ f.length := h.sub.length_le
end K07
/-! law -/
namespace K07
open PySem PySem.Spec PyProof.Rows L2
def spLaw (K : PySem.W.Frag) (T : Addr) : Sp := fun vs H Q _ => ∃ (a : Addr) (ns : List Int), vs = [.ref a] ∧ SqL K H a (ns.map V.int) ∧ ns.length ≤ 63 ∧ LamX.TabS H T qL ∧ ∀ H', Q (.bl true) H'
section
variable {P : Program} {w : World} {K : PySem.W.Frag} {mg : Str → Option Value} {base : Heap}
/-- the defs that law calls -/
structure Defs (P : Program) (w : World) (K : PySem.W.Frag) (mg : Str → Option Value) (base : Heap) (T : Addr) : Prop where
  sl : ∃ f fd, Cl P w K mg base 2 "shortest_length" ["film"] spSL f fd
  sh : ∃ f fd, Cl P w K mg base 2 "shortest" ["film"] (spSh T) f fd
  lo : ∃ f fd, Cl P w K mg base 2 "last_outcomes" ["film"] spLO f fd
  al : ∃ f fd, Cl P w K mg base 3 "always" ["film"] spAl f fd
  tk : ∃ f fd, Cl P w K mg base 1 "_law_taken" ["_law_row", "_law_many"] (spTk K) f fd
  l0 : ∃ f fd, Cl P w K mg base 1 "_law_alike" ["_law_found", "_law_due"] spL0 f fd
  l1 : ∃ f fd, Cl P w K mg base 2 "_law_alike" ["_law_found", "_law_due"] spL1 f fd
  fi : ∃ f fd, Cl P w K mg base 2 "_law_film" ["_law_row", "_law_most", "_law_many"] (spFi K) f fd
  nx : ∃ f fd, Cl P w K mg base 1 "_law_next" ["_law_film_here"] spNx f fd
  all : ∃ f fd, Cl P w K mg base 2 "_law_all" ["_law_film_here"] spAll f fd
theorem ok_law {f : Addr} {fd : FuncData} {T : Addr} (F : Fun K "law" "law" sLaw f fd) (Nm : Names mg) (C : Defs P w K mg base T) : FnOk P w K mg base CX0 4 f fd ["_law_script"] (spLaw K T) := by
  obtain ⟨⟨_, _, SLc⟩, ⟨_, _, SHc⟩, ⟨_, _, LOc⟩, ⟨_, _, ALc⟩, ⟨_, _, TKc⟩, ⟨_, _, L0c⟩, ⟨_, _, L1c⟩, ⟨_, _, FIc⟩, ⟨_, _, NXc⟩, ⟨_, _, AAc⟩⟩ := C
  refine F.ok scLaw (fun vs H Q E h => ?_) (fun cdv A outer s H vs Q E hr h => ?_)
  · obtain ⟨a, ns, rfl, _⟩ := h
    rfl
  · obtain ⟨a, ns, rfl, hsq, hlen, htab, q⟩ := h
    have r1 := hr.mono (show 1 ≤ 3 by decide)
    have r2 := hr.mono (show 2 ≤ 3 by decide)
    refine ⟨_, pss_cons (ps_set (i := 1) scLaw.nd rfl (.inl rfl) (pe_lst (pa_cons (pv 0) (pa_cons pe_int (pa_cons pe_int (pa_cons pe_int pa_nil))))))
      (pss_cons (ps_set (i := 2) scLaw.nd rfl (.inl rfl) (pe_call FIc.ok r2 (by rfl) FIc.g FIc.kp FIc.b .nil pass0 (pa_cons (pv 1) (pa_cons pe_int (pa_cons (pe_op op_add pe_int (pe_call TKc.ok r1 (by rfl) TKc.g TKc.kp TKc.b .nil pass0 (pa_cons (pv 1) (pa_cons pe_int pa_nil)))) pa_nil)))))
      (pss_cons (ps_set (i := 3) scLaw.nd rfl (.inl rfl) (pe_call AAc.ok r2 (by rfl) AAc.g AAc.kp AAc.b .nil pass0 (pa_cons (pv 2) pa_nil)))
      (pss_cons (ps_set (i := 4) scLaw.nd rfl (.inr rfl) (pe_callB (cr_min rfl) (by rfl) Nm.min (by decide +kernel) (pa_cons (pe_lc (own := [("_law_told", 9)]) (g := gName 9) (tt := tYes) rfl scLaw.nd (pi_list (pv 3)) (blkOk_by (own := [("_law_told", 9)]) (N := ["_law_script", "_law_row", "_law_film_here", "_law_known", "_law_low", "_law_first", "_law_last", "_law_due", "_law_letter", "_law_told"]) (sc := defScope sLaw) (by decide +kernel)) (fun _ _ _ _ _ => pg_name (i := 9) scLaw.nd rfl (Or.inl rfl)) (fun _ _ _ _ _ => pts_nil)
          (fun _ _ _ _ _ => pe_callB call_len_str (by rfl) Nm.len PySem.boot_len (pa_cons (pv 9) pa_nil))) pa_nil)))
      (pss_cons (ps_set (i := 5) scLaw.nd rfl (.inl rfl) (pe_ix (r := rIxL K) ix_list (pe_lc (own := [("_law_told", 9)]) (g := gName 9) rfl scLaw.nd (pi_list (pv 3)) (blkOk_by (own := [("_law_told", 9)]) (N := ["_law_script", "_law_row", "_law_film_here", "_law_known", "_law_low", "_law_first", "_law_last", "_law_due", "_law_letter", "_law_told"]) (sc := defScope sLaw) (by decide +kernel)) (fun _ _ _ _ _ => pg_name (i := 9) scLaw.nd rfl (Or.inl rfl))
          (fun _ _ _ _ _ => pts_one (pt_cmpR op_eq (pe_callB call_len_str (by rfl) Nm.len PySem.boot_len (pa_cons (pv 9) pa_nil)) (pv 4) (nomark _))) (fun _ _ _ _ _ => pv 9)) pe_int (fun _ _ => rfl)))
      (pss_cons (ps_if (pt_not (pt_val (pe_call L1c.ok r2 (by rfl) L1c.g L1c.kp L1c.b .nil pass0 (pa_cons (pe_lst (pa_cons (pe_call SLc.ok r2 (by rfl) SLc.g SLc.kp SLc.b .nil pass0 (pa_cons (pv 2) pa_nil)) (pa_cons (pe_call SHc.ok r2 (by rfl) SHc.g SHc.kp SHc.b .nil pass0 (pa_cons (pv 2) pa_nil)) pa_nil)))
          (pa_cons (pe_lst (pa_cons (pv 4) (pa_cons (pv 5) pa_nil))) pa_nil))))) (pss_one (ps_ret pe_bl)) pss_nil)
      (pss_cons (ps_setLc (i := 6) (own := [("_law_told", 9)]) (g := gName 9) rfl scLaw.nd rfl rfl rfl (pi_list (pv 3)) (blkOk_by (own := [("_law_told", 9)]) (N := ["_law_script", "_law_row", "_law_film_here", "_law_known", "_law_low", "_law_first", "_law_last", "_law_due", "_law_letter", "_law_told"]) (sc := defScope sLaw) (by decide +kernel)) (fun _ _ _ _ _ => pg_name (i := 9) scLaw.nd rfl (Or.inl rfl))
          (fun _ _ _ _ _ => pts_one (pt_cmpR (show OpR _ _ (rEqD K) from op_eqD hr.units) (pe_call NXc.ok r1 (by rfl) NXc.g NXc.kp NXc.b .nil pass0 (pa_cons (pv 9) pa_nil)) (pe_lst pa_nil) (nomark _))) (fun _ _ _ _ _ => pv 9))
      (pss_cons (ps_if (pt_not (pt_val (pe_call L1c.ok r2 (by rfl) L1c.g L1c.kp L1c.b .nil pass0 (pa_cons (pe_call LOc.ok r2 (by rfl) LOc.g LOc.kp LOc.b .nil pass0 (pa_cons (pv 2) pa_nil)) (pa_cons (pv 6) pa_nil))))) (pss_one (ps_ret pe_bl)) pss_nil)
      (pss_cons (ps_if (pt_cmpR (op_neD hr.units) (pe_lc (own := [("_law_told", 9)]) (g := gName 9) rfl scLaw.nd (pi_list (pv 6)) (blkOk_by (own := [("_law_told", 9)]) (N := ["_law_script", "_law_row", "_law_film_here", "_law_known", "_law_low", "_law_first", "_law_last", "_law_due", "_law_letter", "_law_told"]) (sc := defScope sLaw) (by decide +kernel)) (fun _ _ _ _ _ => pg_name (i := 9) scLaw.nd rfl (Or.inl rfl))
          (fun _ _ _ _ _ => pts_one (pt_cmpR op_ne (pe_callB (r := rLenT P w) cr_lenT (by rfl) Nm.len PySem.boot_len (pa_cons (pe_callTy (r := rSetT P w) (cr_setT rfl) (by rfl) Nm.set (by decide +kernel) (pa_cons (pv 9) pa_nil)) pa_nil)) (pe_callB call_len_str (by rfl) Nm.len PySem.boot_len (pa_cons (pv 9) pa_nil)) (nomark _))) (fun _ _ _ _ _ => pv 9)) (pe_lst pa_nil) (nomark _)) (pss_one (ps_ret pe_bl)) pss_nil)
      (pss_cons (ps_set (i := 7) scLaw.nd rfl (.inl rfl) pe_str)
      (pss_cons (ps_for PassesOwn.never rfl (pi_str pe_str) (pg_name (i := 8) scLaw.nd rfl (.inr rfl))
        (pss_one (ps_set (i := 7) scLaw.nd rfl (.inl rfl) (pe_op op_add_str (pv 7) (pe_ifExp (pt_cmpR (op_eqD hr.units) (pe_lc (own := [("_law_told", 9)]) (g := gName 9) rfl scLaw.nd (pi_list (pv 3)) (blkOk_by (own := [("_law_told", 9)]) (N := ["_law_script", "_law_row", "_law_film_here", "_law_known", "_law_low", "_law_first", "_law_last", "_law_due", "_law_letter", "_law_told"]) (sc := defScope sLaw) (by decide +kernel)) (fun _ _ _ _ _ => pg_name (i := 9) scLaw.nd rfl (Or.inl rfl))
          (fun _ _ _ _ _ => pts_one (pt_cmpR op_notIn_sign (pv 8) (pv 9) rfl)) (fun _ _ _ _ _ => pv 9)) (pe_lst pa_nil) (nomark _)) (pv 8) pe_str)))))
      (pss_one (ps_ret (pe_call L0c.ok r1 (by rfl) L0c.g L0c.kp L0c.b .nil pass0 (pa_cons (pe_call ALc.ok hr (by rfl) ALc.g ALc.kp ALc.b .nil pass0 (pa_cons (pv 2) pa_nil)) (pa_cons (pv 7) pa_nil))))))))))))))), ?_⟩
    have tr : ∀ {b : Bool}, b = true → (!b) = false := fun h => by rw [h]; rfl
    refine ⟨_, rfl, (by show 4 ≤ sizeLine; decide), fun R nR => ?_⟩
    have sR : Same H (upd H R (.lst [.ref a, .int 0, .int 5007, .int 0])) := same_upd nR
    have row : Row K (upd H R (.lst [.ref a, .int 0, .int 5007, .int 0])) R a ns 0 5007 0 := ⟨upd_same, sR.seq hsq, hlen, by omega, by omega⟩
    have tabR : LamX.TabS (wo (upd H R (.lst [.ref a, .int 0, .int 5007, .int 0])) R) T qL := tab_wo (htab.ext sR) upd_same (pl_lst _)
    refine ⟨_, rfl, _, rfl, R, a, ns, 0, 5007, 0, 5, rfl, row, by omega, by omega, fun H2 i2 s2 r2' v b2 row2 hv1 hv2 => ?_⟩
    refine ⟨_, _, rfl, rfl, R, a, ns, i2, s2, r2', 1 + v, rfl, row2, by omega, by omega, fun H3 f b3 hf => ?_⟩
    have tab3 : LamX.TabS H3 T qL := tabR.ext fun b o e => (b2.trans b3) b o (wo_some e).1 (wo_some e).2
    clear tabR row2 row b2 b3 sR htab hsq hlen
    have hfl := hf.le
    have hfn := hf.ne
    refine ⟨_, rfl, f, rfl, hf, fun H4 p ys sm4 np hp4 ord nd mem => ?_⟩
    have tab4 := tab3.ext sm4
    clear tab3 sm4 np
    have hwl : ∀ u ∈ ys, u.length ≤ 12 := fun u hu => Nat.le_trans (reach_len ((mem u).mp hu)) hfl
    have hwf : ∀ u ∈ ys, ∀ c ∈ u, c ≤ 104 := fun u hu => reach_flat ((mem u).mp hu) hf.let_
    have hyl : ys.length ≤ 4096 := Nat.le_trans (known_len nd fun v hv => (mem v).mp hv) (Nat.le_trans (Nat.pow_le_pow_right (by decide) hfl) (by decide))
    have sm : ∀ {n : Nat}, n ≤ 4096 → n < sizeLine := fun h => Nat.lt_of_le_of_lt h (by decide)
    have hz : ∀ u ∈ ys, (mk u).length ≤ sizeLine := fun u hu => Nat.le_trans (hwl u hu) (by decide)
    have fm : f ∈ ys := (mem f).mpr (.refl f)
    have tk : ∀ {i : Nat} {u : Wd} (g : Wd → Bool), ys[i]? = some u → (ys.take (i + 1)).filter g = (ys.take i).filter g ++ if g u = true then [u] else [] := fun {i u} g h => by
      rw [List.take_add_one, h, List.filter_append]
      congr 1
      show [u].filter g = _
      by_cases z : g u = true
      · rw [if_pos z]
        exact List.filter_cons_of_pos z
      · rw [if_neg z]
        exact List.filter_cons_of_neg z
    have fl : ∀ (i : Nat) (g : Wd → Bool), ((ys.take i).filter g).length ≤ 4096 := fun i g => by
      refine Nat.le_trans (List.length_filter_le ..) ?_
      rw [List.length_take]
      omega
    -- the lengths
    refine ⟨_, rfl, p, rfl, ⟨_, .inl (.inl hp4)⟩, fun D nD => ?_⟩
    refine lc_it walk_list (fun i H' => Same H4 H' ∧ H' D = some (.lst (((ys.take i).map fun u : Wd => ((u.length : Nat) : Int)).map V.int)))
      ⟨same_upd nD, upd_same⟩ (fun i H' _ h => .inl (.inl (h.1 _ _ hp4))) (fun i x H5 H6 hi hpv hy => ?_) fun H5 hpv => ?_
    · obtain ⟨s5, hD⟩ := hpv
      obtain ⟨rfl, hx⟩ := hy
      obtain ⟨u, hu, rfl⟩ := ws_get hx
      have hum := List.mem_of_getElem? hu
      refine ⟨rfl, _, rfl, mk u, rfl, hz u hum, _, hD, ?_, same_frz s5 nD, ?_⟩
      · rw [List.length_map, List.length_map, List.length_take]
        exact sm (by omega)
      · rw [upd_same, List.take_add_one, hu, List.map_append, List.map_append]
        rfl
    obtain ⟨s5, hD⟩ := hpv
    rw [ws_len, List.take_length] at hD
    refine ⟨D, _, rfl, .inl (.inl hD), by rw [List.length_map]; exact List.length_pos_of_mem fm, fun m hm hmin => ?_⟩
    obtain ⟨u0, hu0, rfl⟩ := List.mem_map.mp hm
    have hmin0 : ∀ u ∈ ys, u0.length ≤ u.length := fun u hu => by
      have := hmin _ (List.mem_map.mpr ⟨u, hu, rfl⟩)
      omega
    have hp5 := s5 _ _ hp4
    have tab5 := tab4.ext s5
    clear hD nD hm hmin s5 tab4 hp4
    -- the first
    refine ⟨_, rfl, p, rfl, ⟨_, .inl (.inl hp5)⟩, fun D nD => ?_⟩
    refine lc_it walk_list (fun i H' => Same H5 H' ∧ H' D = some (.lst (ws ((ys.take i).filter fun u => decide (u.length = u0.length)))))
      ⟨same_upd nD, upd_same⟩ (fun i H' _ h => .inl (.inl (h.1 _ _ hp5))) (fun i x H6 H7 hi hpv hy => ?_) fun H6 hpv => ?_
    · obtain ⟨s6, hD⟩ := hpv
      obtain ⟨rfl, hx⟩ := hy
      obtain ⟨u, hu, rfl⟩ := ws_get hx
      have hum := List.mem_of_getElem? hu
      refine ⟨rfl, _, rfl, mk u, rfl, hz u hum, _, rfl, rfl, _, rfl, ?_⟩
      show if decide (V.int ((u.length : Nat) : Int) = V.int ((u0.length : Nat) : Int)) = true then _ else _
      have e1 : decide (V.int ((u.length : Nat) : Int) = V.int ((u0.length : Nat) : Int)) = decide (u.length = u0.length) := decide_eq_decide.mpr ⟨fun e => Int.ofNat.inj (V.int.inj e), fun e => by rw [e]⟩
      rw [e1]
      have etk := tk (fun u => decide (u.length = u0.length)) hu
      by_cases h : u.length = u0.length
      · rw [decide_eq_true h]
        refine iteT ⟨_, rfl, _, hD, by rw [ws_len]; exact sm (fl i _), same_frz s6 nD, ?_⟩
        rw [upd_same, ws_snoc, etk, if_pos (decide_eq_true h)]
      · rw [decide_eq_false h]
        refine iteF ⟨s6, ?_⟩
        rw [etk, if_neg (by rw [decide_eq_false h]; decide), List.append_nil]
        exact hD
    obtain ⟨s6, hD⟩ := hpv
    rw [ws_len, List.take_length] at hD
    have tab6 := tab5.ext s6
    have hp6 := s6 _ _ hp5
    -- the first is what shortest says
    have hfirst : ∀ v, First f v → ∃ rest, ys.filter (fun u => decide (u.length = u0.length)) = v :: rest := fun v hv => first_eq hfn ord mem hu0 hmin0 hv
    obtain ⟨w0, rest, hw0⟩ : ∃ w0 rest, ys.filter (fun u => decide (u.length = u0.length)) = w0 :: rest := by
      have : u0 ∈ ys.filter (fun u => decide (u.length = u0.length)) := List.mem_filter.mpr ⟨hu0, decide_eq_true rfl⟩
      cases e : ys.filter (fun u => decide (u.length = u0.length)) with
      | nil =>
        rw [e] at this
        cases this
      | cons a b => exact ⟨a, b, rfl⟩
    rw [hw0] at hD
    refine ⟨D, _, _, _, rfl, rfl, .inl (.inl hD), at_of (j := 0) rfl rfl, ?_⟩
    clear hD nD s6 tab5 hp5
    refine ⟨_, rfl, f, rfl, hf, fun H7 n s7 hn1 hn2 => ?_⟩
    have en := low_eq hfn mem hn1 hn2 hu0 hmin0
    subst en
    refine ⟨_, rfl, f, rfl, hf, tab6.ext s7, fun H8 v e8 hv => ?_⟩
    obtain ⟨rest', hv'⟩ := hfirst v hv
    rw [hw0] at hv'
    have ev : w0 = v := (List.cons.inj hv').1
    subst ev
    have hp8 := e8 _ _ (s7 _ _ hp6) (pl_lst _).1
    have hw0y : w0 ∈ ys := (List.mem_filter.mp (by rw [hw0]; exact List.mem_cons_self .. : w0 ∈ ys.filter (fun u => decide (u.length = u0.length)))).1
    refine ⟨(by show 2 ≤ sizeLine; decide), fun p1 np1 => ⟨_, rfl, _, rfl, (by show 2 ≤ sizeLine; decide), fun p2 np2 => ?_⟩⟩
    refine ⟨p1, p2, [V.int ((u0.length : Nat) : Int), V.str (mk w0)], rfl, same_upd np2 _ _ upd_same, upd_same, fun x hx => ?_, (by show 2 ≤ 8200; decide), fun H9 s9 => ⟨true, rfl, iteF ?_⟩⟩
    · rcases List.mem_cons.mp hx with rfl | hx
      · exact .int _
      · have : x = V.str (mk w0) := by simpa using hx
        subst this
        exact .str w0 (hwf w0 hw0y)
    have hp9 := s9 _ _ (same_upd np2 _ _ (same_upd np1 _ _ hp8))
    clear s9 np2 np1 hp8 e8 s7 hp6 tab6
    -- the last ones
    refine ⟨_, rfl, p, rfl, ⟨_, .inl (.inl hp9)⟩, fun D nD => ?_⟩
    refine lc_it walk_list (fun i H' => Same H9 H' ∧ H' D = some (.lst (ws ((ys.take i).filter fun u => decide u.Nodup))))
      ⟨same_upd nD, upd_same⟩ (fun i H' _ h => .inl (.inl (h.1 _ _ hp9))) (fun i x HA HB hi hpv hy => ?_) fun HA hpv => ?_
    · obtain ⟨sA, hD⟩ := hpv
      obtain ⟨rfl, hx⟩ := hy
      obtain ⟨u, hu, rfl⟩ := ws_get hx
      have hum := List.mem_of_getElem? hu
      refine ⟨rfl, _, rfl, u, rfl, hwl u hum, fun HC d cs sC nd1 hd1 _ _ mcs => ⟨Nat.zero_le _, fun e ne => ?_⟩⟩
      refine eq_nil (l := cs) (v := fun u => V.str (mk u)) (d := fun v => .str (mk v)) (same_upd ne _ _ hd1) upd_same (fun v _ => .str _) (fun v hv => ⟨strOk_of fun c hc => ?_, Nat.zero_le _⟩) ⟨_, rfl, ?_⟩
      · exact hwf u hum c ((Reach.step ((mcs v).mp hv) (.refl v)).sub.subset hc)
      have sE := (sA.trans sC).trans (same_upd (o := .lst []) ne)
      have hDE := same_upd (o := .lst []) ne _ _ (sC _ _ hD)
      generalize upd HC e (.lst []) = HE at sE hDE ⊢
      have etk := tk (fun u => decide u.Nodup) hu
      have e1 : cs.isEmpty = decide u.Nodup := by
        by_cases h : u.Nodup
        · rw [decide_eq_true h, List.isEmpty_iff]
          cases cs with
          | nil => rfl
          | cons v r => exact absurd ((mcs v).mp (List.mem_cons_self ..)) (no_cut_iff.mpr h v)
        · rw [decide_eq_false h]
          cases cs with
          | nil => exact absurd (no_cut_iff.mp fun v hv => by cases (mcs v).mpr hv) h
          | cons v r => rfl
      rw [e1]
      by_cases h : u.Nodup
      · rw [decide_eq_true h]
        refine iteT ⟨_, rfl, _, hDE, by rw [ws_len]; exact sm (fl i _), same_frz sE nD, ?_⟩
        rw [upd_same, ws_snoc, etk, if_pos (decide_eq_true h)]
      · rw [decide_eq_false h]
        refine iteF ⟨sE, ?_⟩
        rw [etk, if_neg (by rw [decide_eq_false h]; decide), List.append_nil]
        exact hDE
    obtain ⟨sA, hDA⟩ := hpv
    rw [ws_len, List.take_length] at hDA
    have hpA := sA _ _ hp9
    clear nD sA hp9
    refine ⟨_, rfl, f, rfl, hf, fun HB p3 zs sB np3 hp3 oz nz mz => ?_⟩
    have ez := last_eq hfn ord nd mem oz nz mz
    rw [ez] at hDA
    have hzy : ∀ u ∈ zs, u ∈ ys ∧ u.Nodup := fun u hu => by
      rw [← ez] at hu
      obtain ⟨h1, h2⟩ := List.mem_filter.mp hu
      exact ⟨h1, of_decide_eq_true h2⟩
    have hzl : zs.length ≤ 4096 := by
      rw [← ez]
      exact Nat.le_trans (List.length_filter_le ..) hyl
    clear ez oz nz mz
    have hDB := sB _ _ hDA
    have hpB := sB _ _ hpA
    refine ⟨_, rfl, p3, D, ws zs, rfl, hp3, hDB, fun x hx => ?_, by rw [ws_len]; omega, fun HC sC => ⟨true, rfl, iteF ?_⟩⟩
    · obtain ⟨u, hu, rfl⟩ := List.mem_map.mp hx
      exact .str u (hwf u (hzy u hu).1)
    have hDC := sC _ _ hDB
    have hpC := sC _ _ hpB
    clear sC sB hp3 np3 hDB hpB hDA hpA
    -- each letter once
    refine ⟨_, rfl, D, rfl, ⟨_, .inl (.inl hDC)⟩, fun G nG => ?_⟩
    refine lc_it walk_list (fun i H' => Same HC H' ∧ H' G = some (.lst []))
      ⟨same_upd nG, upd_same⟩ (fun i H' _ h => .inl (.inl (h.1 _ _ hDC))) (fun i x HD HE hi hpv hy => ?_) fun HD hpv => ?_
    · obtain ⟨sD, hG⟩ := hpv
      obtain ⟨rfl, hx⟩ := hy
      obtain ⟨u, hu, rfl⟩ := ws_get hx
      obtain ⟨hum, hun⟩ := hzy u (List.mem_of_getElem? hu)
      have hul := hwl u hum
      refine ⟨rfl, _, rfl, mk u, rfl, (by rw [mk_size]; omega), fun S l nS ndl hl => ?_⟩
      have el : l.length = u.length := by
        have h1 : l.length ≤ (u.map fun c => (⟨#[c]⟩ : Str)).length := length_le_of_nodup_of_subset _ _ ndl fun z hzl => by
          obtain ⟨c, hc, rfl⟩ := (hl z).mp hzl
          exact List.mem_map.mpr ⟨c, hc, rfl⟩
        have h2 : (u.map fun c => (⟨#[c]⟩ : Str)).length ≤ l.length := length_le_of_nodup_of_subset _ _ (by
          refine List.pairwise_map.mpr (hun.imp fun h e => h ?_)
          exact (List.cons.inj (congrArg (fun z : Str => z.cps.toList) e)).1) fun z hzl => by
          obtain ⟨c, hc, rfl⟩ := List.mem_map.mp hzl
          exact (hl _).mpr ⟨c, hc, rfl⟩
        rw [List.length_map] at h1 h2
        omega
      refine ⟨S, l, rfl, upd_same, by omega, _, rfl, mk u, rfl, hz u hum, rfl, _, rfl, ?_⟩
      show if (!decide (V.int ((l.length : Nat) : Int) = V.int ((u.length : Nat) : Int))) = true then _ else _
      refine iteNS (by rw [el]) ?_
      exact ⟨sD.trans (same_upd nS), same_upd nS _ _ hG⟩
    obtain ⟨sD, hG⟩ := hpv
    have hpD := sD _ _ hpC
    refine ⟨Nat.zero_le _, fun e ne => ne_nil (l := ([] : List V)) (v := id) (d := fun _ => .none) (same_upd ne _ _ hG) upd_same (fun _ h => by cases h) (fun _ h => by cases h) ⟨false, rfl, iteF ?_⟩⟩
    have hpE := same_upd (o := .lst []) ne _ _ hpD
    generalize upd HD e (.lst []) = HE at hpE ⊢
    clear hG sD hpD hpC hDC nG ne
    -- the letters that all have
    refine ⟨_, rfl, for_it walk_str (fun i σ H' => ∃ y8, σ = [some (.ref a), some (.ref R), some (.str (mk f)), some (.ref p), some (.int ((u0.length : Nat) : Int)), some (.str (mk w0)), some (.ref D), some (.str (mk (due ys (abc.take i)))), y8, none] ∧ Same HE H')
      ⟨none, rfl, Same.refl _⟩ (fun _ _ _ _ _ => True.intro) (fun i x σ HF HG hi hpv hy => ?_) fun σ HF hpv => ?_⟩
    · obtain ⟨y8, rfl, sF⟩ := hpv
      obtain ⟨rfl, c, hc, rfl⟩ := hy
      have ea : (Str.ofString "abcdefgh").cps.toList = abc := by decide +kernel
      have hca : abc[i]? = some c := by rw [← ea, Array.getElem?_toList]; exact hc
      have hpF := sF _ _ hpE
      refine ⟨_, rfl, _, rfl, p, rfl, ⟨_, .inl (.inl hpF)⟩, fun G nG => ?_⟩
      refine lc_it walk_list (fun j H' => Same HG H' ∧ H' G = some (.lst (ws ((ys.take j).filter fun u => !decide (c ∈ u)))))
        ⟨same_upd nG, upd_same⟩ (fun j H' _ h => .inl (.inl (h.1 _ _ hpF))) (fun j x HH HI hj hpv hy => ?_) fun HH hpv => ?_
      · obtain ⟨sH, hG⟩ := hpv
        obtain ⟨rfl, hx⟩ := hy
        obtain ⟨u, hu, rfl⟩ := ws_get hx
        refine ⟨rfl, _, rfl, _, rfl, c, mk u, rfl, rfl, _, rfl, ?_⟩
        show if (!decide (c ∈ u)) = true then _ else _
        have etk := tk (fun u => !decide (c ∈ u)) hu
        by_cases h : c ∈ u
        · rw [decide_eq_true h]
          refine iteF ⟨sH, ?_⟩
          rw [etk, if_neg (by rw [decide_eq_true h]; decide), List.append_nil]
          exact hG
        · rw [decide_eq_false h]
          refine iteT ⟨_, rfl, _, hG, by rw [ws_len]; exact sm (fl j _), same_frz sH nG, ?_⟩
          rw [upd_same, ws_snoc, etk, if_pos (by rw [decide_eq_false h]; rfl)]
      obtain ⟨sH, hG⟩ := hpv
      rw [ws_len, List.take_length] at hG
      refine ⟨Nat.zero_le _, fun e ne => eq_nil (l := ys.filter fun u => !decide (c ∈ u)) (v := fun u => V.str (mk u)) (d := fun v => .str (mk v)) (same_upd ne _ _ hG) upd_same (fun v _ => .str _) (fun v hv => ⟨strOk_of (hwf v (List.mem_filter.mp hv).1), Nat.zero_le _⟩) ⟨_, rfl, ?_⟩⟩
      have sI := (sF.trans sH).trans (same_upd (o := .lst []) ne)
      generalize upd HH e (.lst []) = HI at sI ⊢
      have hdl : ∀ k, (due ys (abc.take k)).length ≤ 8 := fun k => by
        refine Nat.le_trans (List.length_filter_le ..) ?_
        rw [List.length_take]
        exact Nat.min_le_right ..
      have est : due ys (abc.take (i + 1)) = due ys (abc.take i) ++ if (ys.filter fun u => !decide (c ∈ u)).isEmpty = true then [c] else [] := by
        rw [List.take_add_one, hca]
        exact due_snoc ys _ c
      cases hemp : (ys.filter fun u => !decide (c ∈ u)).isEmpty with
      | true =>
        rw [hemp, if_pos rfl] at est
        refine iteT ⟨_, rfl, _, _, rfl, rfl, ?_, ?_⟩
        · have := hdl i
          show (due ys (abc.take i)).length + 1 ≤ sizeLine
          exact Nat.le_trans (show _ ≤ 9 by omega) (by decide)
        · rw [mk_one, mk_app, ← est]
          exact ⟨_, rfl, sI⟩
      | false =>
        rw [hemp, if_neg Bool.false_ne_true, List.append_nil] at est
        refine iteF ⟨_, _, rfl, rfl, ?_, ?_⟩
        · have := hdl i
          show (due ys (abc.take i)).length + 0 ≤ sizeLine
          exact Nat.le_trans (show _ ≤ 9 by omega) (by decide)
        · have e0 : mk (due ys (abc.take i)) ++ Str.ofString "" = mk (due ys (abc.take (i + 1))) := by
            rw [est]
            have : Str.ofString "" = mk [] := rfl
            rw [this, mk_app, List.append_nil]
          rw [e0]
          exact ⟨_, rfl, sI⟩
    obtain ⟨y8, rfl, sF⟩ := hpv
    have e8 : abc.take (Str.ofString "abcdefgh").cps.size = abc := by decide +kernel
    rw [e8]
    refine ⟨_, rfl, f, rfl, hf, fun HG gs sG rg mg => ⟨_, rfl, ?_⟩⟩
    rw [due_eq hfn hf.let_ mem rg mg]
    exact ⟨V.str (mk gs), rfl, .str gs fun c hc => (hf.let_ c ((mg c).mp hc).1).2, fun HH _ => q HH⟩
end
end K07
/-! The end: what the top has written; the law's head. -/
namespace K07
open PySem PySem.Spec PyProof.Rows L2
/-- an ending that hands on what is known of the top -/
theorem walk_top {l : PySem.W.OpenLaw} {n k : Nat} {q : Program} {loose : List Str} {XP : (Str → Option Value) → Heap → Prop} {YP : World → Heap → Prop} {d : DefRec} {K : Params → PySem.W.Frag} {CX : World → CXT} {x : Str}
    (most : l.most = some n) (small : n ≤ sizeLine) (plain : d.params.defaults = []) (room : Room k callerA) (wr : ∀ (w : World) (h : Heap), YP w h → (K w.params).In h)
    (F : ∀ (w : World) (mg mb : Str → Option Value) (mean : ExcName → Option Value) (ls : List Str) (fa : Addr) (h : Heap), (K w.params).In h → Top q ls mean mg mb h → mg d.name = some (.ref fa) → LamX.LawAtS l w (K w.params) (CX w) k n x mg fa h)
    (noX : ∀ (w : World) (H : Hp) (s : Shared) (e : Value) (s' : Shared), CX w [] H s (fun _ _ _ => False) e s' → False) : PySem.W.WalkO q loose XP YP l.row.toRowW d [] (fun f vs => PySem.call f vs) := by
  refine Att.attach_callB most plain fun w s0 s1 mg mb fa o pm cd doc a vs ns G Y ho hd hcd hmg hobj hints hlen hbits hg => ?_
  have X := wr w _ Y
  obtain ⟨fd, cs, sp, e1, e2, e3, e4, e5, e6⟩ := F w mg mb _ _ fa _ X G.T hmg
  refine LamX.law_callTs X G.T.g G.T.b G.T.builtins G.T.nolimit hg e1 e2 e3 G.T.bmain hobj hints (Nat.le_trans hlen small) room e6 e4 (fun H t1 t2 => e5 H a ns hlen hbits t1 t2) fun H e s' => noX w H s1 e s'
theorem all_mk {l : PySem.W.OpenLaw} {w : World} {K : PySem.W.Frag} {h : Heap} {q : Program} {ls : List Str} {mean : ExcName → Option Value} {mg mb : Str → Option Value} {fa c : Addr} (X : K.In h) (Tp : Top q ls mean mg mb h) (hfa : mg "law" = some (.ref fa))
    {f1 f2 f3 f4 f5 f6 f7 f8 f9 f10 f11 f12 f13 : Addr} {od1 an1 od2 an2 od3 an3 od4 an4 od5 an5 od6 an6 od7 an7 od8 an8 od9 an9 od10 an10 od11 an11 od12 an12 od13 an13 : Option Addr} {sl1 sl2 sl3 sl4 sl5 sl6 sl7 sl8 sl9 sl10 sl11 sl12 sl13 : Array (Option Value)}
    {oc1 kV1 dc1 pm1 cd1 ct1 oc2 kV2 dc2 pm2 cd2 ct2 oc3 kV3 dc3 pm3 cd3 ct3 oc4 kV4 dc4 pm4 ct4 oc5 kV5 dc5 pm5 cd5 ct5 oc6 kV6 dc6 pm6 cd6 ct6 oc7 kV7 dc7 pm7 cd7 ct7 oc8 kV8 dc8 pm8 cd8 ct8 oc9 kV9 dc9 pm9 cd9 ct9 oc10 kV10 dc10 pm10 cd10 ct10 oc11 kV11 dc11 pm11 cd11 ct11 oc12 kV12 dc12 pm12 cd12 ct12 oc13 kV13 dc13 pm13 cd13 ct13 : Value}
    (a1 : PySem.W.nsIn K mainGlobals "need_film" = some (some (.ref f1))) (l1 : K.lookup f1 = some ⟨oc1, od1, .func (PySem.W.fnOf "need_film" "need_film" (defArgs sNeed) (defBody sNeed) (defScope sNeed) .none kV1 dc1 pm1 an1 cd1 ct1), sl1⟩) (c1 : PySem.W.codeIn K cd1 "need_film" = true) (k1 : PySem.W.keepIn K (.ref f1) = true)
    (a2 : PySem.W.nsIn K mainGlobals "nexts" = some (some (.ref f2))) (l2 : K.lookup f2 = some ⟨oc2, od2, .func (PySem.W.fnOf "nexts" "nexts" (defArgs sNexts) (defBody sNexts) (defScope sNexts) .none kV2 dc2 pm2 an2 cd2 ct2), sl2⟩) (c2 : PySem.W.codeIn K cd2 "nexts" = true) (k2 : PySem.W.keepIn K (.ref f2) = true)
    (a3 : PySem.W.nsIn K mainGlobals "shortest_length" = some (some (.ref f3))) (l3 : K.lookup f3 = some ⟨oc3, od3, .func (PySem.W.fnOf "shortest_length" "shortest_length" (defArgs sSL) (defBody sSL) (defScope sSL) .none kV3 dc3 pm3 an3 cd3 ct3), sl3⟩) (c3 : PySem.W.codeIn K cd3 "shortest_length" = true) (k3 : PySem.W.keepIn K (.ref f3) = true)
    (a4 : PySem.W.nsIn K mainGlobals "shortest" = some (some (.ref f4))) (l4 : K.lookup f4 = some ⟨oc4, od4, .func (PySem.W.fnOf "shortest" "shortest" (defArgs sSh) (defBody sSh) (defScope sSh) .none kV4 dc4 pm4 an4 (.ref c) ct4), sl4⟩) (c4 : PySem.W.codeIn K (.ref c) "shortest" = true) (k4 : PySem.W.keepIn K (.ref f4) = true)
    (a5 : PySem.W.nsIn K mainGlobals "last_outcomes" = some (some (.ref f5))) (l5 : K.lookup f5 = some ⟨oc5, od5, .func (PySem.W.fnOf "last_outcomes" "last_outcomes" (defArgs sLO) (defBody sLO) (defScope sLO) .none kV5 dc5 pm5 an5 cd5 ct5), sl5⟩) (c5 : PySem.W.codeIn K cd5 "last_outcomes" = true) (k5 : PySem.W.keepIn K (.ref f5) = true)
    (a6 : PySem.W.nsIn K mainGlobals "always" = some (some (.ref f6))) (l6 : K.lookup f6 = some ⟨oc6, od6, .func (PySem.W.fnOf "always" "always" (defArgs sAl) (defBody sAl) (defScope sAl) .none kV6 dc6 pm6 an6 cd6 ct6), sl6⟩) (c6 : PySem.W.codeIn K cd6 "always" = true) (k6 : PySem.W.keepIn K (.ref f6) = true)
    (a7 : PySem.W.nsIn K mainGlobals "can_miss" = some (some (.ref f7))) (l7 : K.lookup f7 = some ⟨oc7, od7, .func (PySem.W.fnOf "can_miss" "can_miss" (defArgs sCM) (defBody sCM) (defScope sCM) .none kV7 dc7 pm7 an7 cd7 ct7), sl7⟩) (c7 : PySem.W.codeIn K cd7 "can_miss" = true) (k7 : PySem.W.keepIn K (.ref f7) = true)
    (a8 : PySem.W.nsIn K mainGlobals "_law_taken" = some (some (.ref f8))) (l8 : K.lookup f8 = some ⟨oc8, od8, .func (PySem.W.fnOf "_law_taken" "_law_taken" (defArgs sTk) (defBody sTk) (defScope sTk) .none kV8 dc8 pm8 an8 cd8 ct8), sl8⟩) (c8 : PySem.W.codeIn K cd8 "_law_taken" = true) (k8 : PySem.W.keepIn K (.ref f8) = true)
    (a9 : PySem.W.nsIn K mainGlobals "_law_alike" = some (some (.ref f9))) (l9 : K.lookup f9 = some ⟨oc9, od9, .func (PySem.W.fnOf "_law_alike" "_law_alike" (defArgs sLk) (defBody sLk) (defScope sLk) .none kV9 dc9 pm9 an9 cd9 ct9), sl9⟩) (c9 : PySem.W.codeIn K cd9 "_law_alike" = true) (k9 : PySem.W.keepIn K (.ref f9) = true)
    (a10 : PySem.W.nsIn K mainGlobals "_law_film" = some (some (.ref f10))) (l10 : K.lookup f10 = some ⟨oc10, od10, .func (PySem.W.fnOf "_law_film" "_law_film" (defArgs sFi) (defBody sFi) (defScope sFi) .none kV10 dc10 pm10 an10 cd10 ct10), sl10⟩) (c10 : PySem.W.codeIn K cd10 "_law_film" = true) (k10 : PySem.W.keepIn K (.ref f10) = true)
    (a11 : PySem.W.nsIn K mainGlobals "_law_next" = some (some (.ref f11))) (l11 : K.lookup f11 = some ⟨oc11, od11, .func (PySem.W.fnOf "_law_next" "_law_next" (defArgs sNx) (defBody sNx) (defScope sNx) .none kV11 dc11 pm11 an11 cd11 ct11), sl11⟩) (c11 : PySem.W.codeIn K cd11 "_law_next" = true) (k11 : PySem.W.keepIn K (.ref f11) = true)
    (a12 : PySem.W.nsIn K mainGlobals "_law_all" = some (some (.ref f12))) (l12 : K.lookup f12 = some ⟨oc12, od12, .func (PySem.W.fnOf "_law_all" "_law_all" (defArgs sAll) (defBody sAll) (defScope sAll) .none kV12 dc12 pm12 an12 cd12 ct12), sl12⟩) (c12 : PySem.W.codeIn K cd12 "_law_all" = true) (k12 : PySem.W.keepIn K (.ref f12) = true)
    (a13 : PySem.W.nsIn K mainGlobals "law" = some (some (.ref f13))) (l13 : K.lookup f13 = some ⟨oc13, od13, .func (PySem.W.fnOf "law" "law" (defArgs sLaw) (defBody sLaw) (defScope sLaw) .none kV13 dc13 pm13 an13 cd13 ct13), sl13⟩) (c13 : PySem.W.codeIn K cd13 "law" = true) (k13 : PySem.W.keepIn K (.ref f13) = true)
    (z1 : PySem.W.nsIn K mainGlobals "isinstance" = some none)
    (z2 : PySem.W.nsIn K mainGlobals "str" = some none)
    (z3 : PySem.W.nsIn K mainGlobals "len" = some none)
    (z4 : PySem.W.nsIn K mainGlobals "enumerate" = some none)
    (z5 : PySem.W.nsIn K mainGlobals "range" = some none)
    (z6 : PySem.W.nsIn K mainGlobals "all" = some none)
    (z7 : PySem.W.nsIn K mainGlobals "min" = some none)
    (z8 : PySem.W.nsIn K mainGlobals "sorted" = some none)
    (z9 : PySem.W.nsIn K mainGlobals "set" = some none)
    (z10 : PySem.W.nsIn K mainGlobals "list" = some none)
    (z11 : PySem.W.nsIn K mainGlobals "tuple" = some none)
    (z12 : PySem.W.nsIn K mainGlobals "int" = some none)
    (z13 : PySem.W.nsIn K mainGlobals "bool" = some none)
    {tL tM : Tok} (y1 : PySem.W.nsIn K mainGlobals "LETTERS" = some (some (.str "abcdefgh" tL))) (y2 : PySem.W.nsIn K mainGlobals "MOST_FILM" = some (some (.int 200 tM)))
    (rt : ((recsOf q).find? (fun e => e.name == ("shortest" : Str))).isSome = true) (tt : ((PySem.W.tabIn K "shortest").map fun p => p.1) = some c) (tn : ((PySem.W.tabIn K "shortest").map fun p => (K.lookup p.2).isNone) = some true) :
    LamX.LawAtS l w K CX0 4 63 "_law_script" mg fa h := by
  have G := Tp.g
  have e := hfa.symm.trans (PySem.W.mg_of X G a13)
  cases e
  obtain ⟨dS, rt⟩ := Option.isSome_iff_exists.mp rt
  obtain ⟨⟨c0, T⟩, tb0, e0⟩ := Option.map_eq_some_iff.mp tt
  have e0 : c0 = c := e0
  subst e0
  rw [tb0] at tn
  have tn : K.lookup T = none := Option.isNone_iff_eq_none.mp (Option.some.inj tn)
  obtain ⟨hd1, hd2⟩ := PySem.W.tab_of Tp X rt tb0
  have Nm : Names mg := ⟨PySem.W.mg_none_of X G z1, PySem.W.mg_none_of X G z2, PySem.W.mg_none_of X G z3, PySem.W.mg_none_of X G z4, PySem.W.mg_none_of X G z5, PySem.W.mg_none_of X G z6, PySem.W.mg_none_of X G z7, PySem.W.mg_none_of X G z8, PySem.W.mg_none_of X G z9, PySem.W.mg_none_of X G z10, PySem.W.mg_none_of X G z11, PySem.W.mg_none_of X G z12, PySem.W.mg_none_of X G z13, ⟨_, PySem.W.mg_of X G y1⟩, ⟨_, PySem.W.mg_of X G y2⟩⟩
  have F1 := fun_mk (st := sNeed) l1 c1 k1
  have F2 := fun_mk (st := sNexts) l2 c2 k2
  have F3 := fun_mk (st := sSL) l3 c3 k3
  have F5 := fun_mk (st := sLO) l5 c5 k5
  have F6 := fun_mk (st := sAl) l6 c6 k6
  have F7 := fun_mk (st := sCM) l7 c7 k7
  have F8 := fun_mk (st := sTk) l8 c8 k8
  have F9 := fun_mk (st := sLk) l9 c9 k9
  have F10 := fun_mk (st := sFi) l10 c10 k10
  have F11 := fun_mk (st := sNx) l11 c11 k11
  have F12 := fun_mk (st := sAll) l12 c12 k12
  have F13 := fun_mk (st := sLaw) l13 c13 k13
  have b1 := F1.binds (ps := ["value"]) fun _ _ _ _ _ _ us hl => match us, hl with | [_], _ => rfl
  have b2 := F2.binds (ps := ["film", "place"]) fun _ _ _ _ _ _ us hl => match us, hl with | [_, _], _ => rfl
  have b3 := F3.binds (ps := ["film"]) fun _ _ _ _ _ _ us hl => match us, hl with | [_], _ => rfl
  have b4 : Binds K (PySem.W.fnOf "shortest" "shortest" (defArgs sSh) (defBody sSh) (defScope sSh) .none kV4 dc4 pm4 an4 (.ref c0) ct4) ["film"] [] := .all fun us hl => match us, hl with | [_], _ => rfl
  have b5 := F5.binds (ps := ["film"]) fun _ _ _ _ _ _ us hl => match us, hl with | [_], _ => rfl
  have b6 := F6.binds (ps := ["film"]) fun _ _ _ _ _ _ us hl => match us, hl with | [_], _ => rfl
  have b7 := F7.binds (ps := ["film", "letter"]) fun _ _ _ _ _ _ us hl => match us, hl with | [_, _], _ => rfl
  have b8 := F8.binds (ps := ["_law_row", "_law_many"]) fun _ _ _ _ _ _ us hl => match us, hl with | [_, _], _ => rfl
  have b9 := F9.binds (ps := ["_law_found", "_law_due"]) fun _ _ _ _ _ _ us hl => match us, hl with | [_, _], _ => rfl
  have b10 := F10.binds (ps := ["_law_row", "_law_most", "_law_many"]) fun _ _ _ _ _ _ us hl => match us, hl with | [_, _, _], _ => rfl
  have b11 := F11.binds (ps := ["_law_film_here"]) fun _ _ _ _ _ _ us hl => match us, hl with | [_], _ => rfl
  have b12 := F12.binds (ps := ["_law_film_here"]) fun _ _ _ _ _ _ us hl => match us, hl with | [_], _ => rfl
  refine ⟨PySem.W.fnOf "law" "law" (defArgs sLaw) (defBody sLaw) (defScope sLaw) .none kV13 dc13 pm13 an13 cd13 ct13, [(c0, T)], spLaw K T, fun p hp => ?_, fun p hp => ?_, fun p hp => ?_, fun s v => .of_eq rfl, fun H a ns hl _ hH hS => ⟨a, ns, rfl, hS, hl, LamX.TabS.nil (hH (c0, T) (List.mem_singleton.mpr rfl)), fun _ => rfl⟩, fun base _ _ TB => ?_⟩
  · obtain rfl := List.mem_singleton.mp hp
    exact hd2
  · obtain rfl := List.mem_singleton.mp hp
    exact tn
  · obtain rfl := List.mem_singleton.mp hp
    exact hd1
  have tb := TB (c0, T) (List.mem_singleton.mpr rfl)
  have C1 : Cl l.prog w K mg base 1 "need_film" ["value"] spNeed f1 _ := ⟨ok_need F1 Nm, PySem.W.mg_of X G a1, k1, b1⟩
  have C2 : Cl l.prog w K mg base 1 "nexts" ["film", "place"] spNexts f2 _ := ⟨ok_nexts F2 Nm, PySem.W.mg_of X G a2, k2, b2⟩
  have C3 : Cl l.prog w K mg base 2 "shortest_length" ["film"] spSL f3 _ := ⟨ok_sl F3 Nm C2 C1, PySem.W.mg_of X G a3, k3, b3⟩
  have C4 : Cl l.prog w K mg base 2 "shortest" ["film"] (spSh T) f4 _ := ⟨ok_sh ⟨⟨_, _, _, _, _, _, _, _, rfl, l4, c4⟩⟩ tb Nm C2 C1, PySem.W.mg_of X G a4, k4, b4⟩
  have C5 : Cl l.prog w K mg base 2 "last_outcomes" ["film"] spLO f5 _ := ⟨ok_lo F5 Nm C2 C1, PySem.W.mg_of X G a5, k5, b5⟩
  have C7 : Cl l.prog w K mg base 2 "can_miss" ["film", "letter"] spCM f7 _ := ⟨ok_cm F7 Nm C2, PySem.W.mg_of X G a7, k7, b7⟩
  have C6 : Cl l.prog w K mg base 3 "always" ["film"] spAl f6 _ := ⟨ok_al F6 Nm C7 C1, PySem.W.mg_of X G a6, k6, b6⟩
  have C8 : Cl l.prog w K mg base 1 "_law_taken" ["_law_row", "_law_many"] (spTk K) f8 _ := ⟨ok_tk F8 Nm, PySem.W.mg_of X G a8, k8, b8⟩
  have C9 : Cl l.prog w K mg base 1 "_law_alike" ["_law_found", "_law_due"] spL0 f9 _ := ⟨ok_lk0 F9 Nm, PySem.W.mg_of X G a9, k9, b9⟩
  have D9 : Cl l.prog w K mg base 2 "_law_alike" ["_law_found", "_law_due"] spL1 f9 _ := ⟨ok_lk1 F9 Nm C9, PySem.W.mg_of X G a9, k9, b9⟩
  have CA : Cl l.prog w K mg base 2 "_law_film" ["_law_row", "_law_most", "_law_many"] (spFi K) f10 _ := ⟨ok_fi F10 Nm C8, PySem.W.mg_of X G a10, k10, b10⟩
  have CB : Cl l.prog w K mg base 1 "_law_next" ["_law_film_here"] spNx f11 _ := ⟨ok_nx F11 Nm, PySem.W.mg_of X G a11, k11, b11⟩
  have CC : Cl l.prog w K mg base 2 "_law_all" ["_law_film_here"] spAll f12 _ := ⟨ok_all F12 Nm CB, PySem.W.mg_of X G a12, k12, b12⟩
  exact ok_law F13 Nm ⟨⟨_, _, C3⟩, ⟨_, _, C4⟩, ⟨_, _, C5⟩, ⟨_, _, C6⟩, ⟨_, _, C8⟩, ⟨_, _, C9⟩, ⟨_, _, D9⟩, ⟨_, _, CA⟩, ⟨_, _, CB⟩, ⟨_, _, CC⟩⟩
end K07
open PySem PySem.W PyProof.Rows
set_option maxHeartbeats 0 in
theorem PySem.Challenge.cw_jumpcuts_k07_whole_last_outcomes_holds : PySem.Challenge.rw_jumpcuts_k07_whole_last_outcomes.Holds := by
  w_on; o_law; k_head; (case hw => w_witness2)
  k_fill
  refine K07.walk_top (l := PySem.Challenge.rw_jumpcuts_k07_whole_last_outcomes) (n := 63) (k := 4) (x := "_law_script") (CX := fun _ => L2.CX0) rfl (by decide) rfl ⟨rfl, by decide, by decide⟩ (fun w h Y => PySem.W.km_in_of Y) ?F (fun _ _ _ _ _ h => h)
  case F =>
    intro w mg mb mean ls fa h KX G hmg
    refine' K07.all_mk KX G hmg ?a1 ?l1 ?c1 ?k1 ?a2 ?l2 ?c2 ?k2 ?a3 ?l3 ?c3 ?k3 ?a4 ?l4 ?c4 ?k4 ?a5 ?l5 ?c5 ?k5 ?a6 ?l6 ?c6 ?k6 ?a7 ?l7 ?c7 ?k7 ?a8 ?l8 ?c8 ?k8 ?a9 ?l9 ?c9 ?k9 ?a10 ?l10 ?c10 ?k10 ?a11 ?l11 ?c11 ?k11 ?a12 ?l12 ?c12 ?k12 ?a13 ?l13 ?c13 ?k13 ?z1 ?z2 ?z3 ?z4 ?z5 ?z6 ?z7 ?z8 ?z9 ?z10 ?z11 ?z12 ?z13 ?y1 ?y2 ?rt ?tt ?tn
    (case a1 => k_is)
    (case l1 => k_is)
    (case c1 => k_is)
    (case k1 => k_is)
    (case a2 => k_is)
    (case l2 => k_is)
    (case c2 => k_is)
    (case k2 => k_is)
    (case a3 => k_is)
    (case l3 => k_is)
    (case c3 => k_is)
    (case k3 => k_is)
    (case a4 => k_is)
    (case l4 => k_is)
    (case c4 => k_is)
    (case k4 => k_is)
    (case a5 => k_is)
    (case l5 => k_is)
    (case c5 => k_is)
    (case k5 => k_is)
    (case a6 => k_is)
    (case l6 => k_is)
    (case c6 => k_is)
    (case k6 => k_is)
    (case a7 => k_is)
    (case l7 => k_is)
    (case c7 => k_is)
    (case k7 => k_is)
    (case a8 => k_is)
    (case l8 => k_is)
    (case c8 => k_is)
    (case k8 => k_is)
    (case a9 => k_is)
    (case l9 => k_is)
    (case c9 => k_is)
    (case k9 => k_is)
    (case a10 => k_is)
    (case l10 => k_is)
    (case c10 => k_is)
    (case k10 => k_is)
    (case a11 => k_is)
    (case l11 => k_is)
    (case c11 => k_is)
    (case k11 => k_is)
    (case a12 => k_is)
    (case l12 => k_is)
    (case c12 => k_is)
    (case k12 => k_is)
    (case a13 => k_is)
    (case l13 => k_is)
    (case c13 => k_is)
    (case k13 => k_is)
    (case z1 => k_is)
    (case z2 => k_is)
    (case z3 => k_is)
    (case z4 => k_is)
    (case z5 => k_is)
    (case z6 => k_is)
    (case z7 => k_is)
    (case z8 => k_is)
    (case z9 => k_is)
    (case z10 => k_is)
    (case z11 => k_is)
    (case z12 => k_is)
    (case z13 => k_is)
    (case y1 => k_is)
    (case y2 => k_is)
    (case rt => kernel_rfl)
    (case tt => kernel_rfl)
    (case tn => kernel_rfl)
