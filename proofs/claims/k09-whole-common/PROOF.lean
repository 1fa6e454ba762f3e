import PyProof.Rows.All
import Wide.All
import OpenK.AllK
import Wide.FinOn
import KE.SortData
import HandS.ForMost
import HandS.FltList
import PyProof.Rows.SetFrom
import PyProof.StrWalks
import PyProof.Rows.SortShellAny
import HandS.Set
import HandS.SetFor
import HandS.SetTxt0
import PyProof.EnumMake
import PyProof.Draws
import HandS.Walk
import KE.KDictDisplayH
import HandS.IsInst
import HandS.Codes
import HandS.Conv
import HandS.Deep
import HandS.More
import HandS.TupAny
import PySem.Challenge.RW_jumpcuts_k09_whole_common
-- part A0
set_option linter.all false
/-! The plain law, 1: what comes of a film: by cuts, by blocks, by places. -/
namespace JC

/-- c is the letter of the block in which one stands; ok: the block may end here -/
def G : Nat → Bool → List Nat → List Nat → Prop
  | _, ok, [], w => ok = true ∧ w = []
  | c, ok, x :: f, w => G c (x == c) f w ∨ (ok = true ∧ ∃ w', w = x :: w' ∧ G x true f w')

def Comes : List Nat → List Nat → Prop
  | [], _ => False
  | x :: f, w => ∃ w', w = x :: w' ∧ G x true f w'

/-- one cut -/
def Cut1 (f g : List Nat) : Prop := ∃ (u : List Nat) (x : Nat) (m v : List Nat), f = u ++ x :: (m ++ x :: v) ∧ g = u ++ x :: v

inductive Reach : List Nat → List Nat → Prop
  | refl (f) : Reach f f
  | step {f g h} : Reach f g → Cut1 g h → Reach f h

theorem G_go {c : Nat} {w : List Nat} : ∀ (m : List Nat) (ok : Bool) (v : List Nat) (x : Nat), G c (x == c) v w → G c ok (m ++ x :: v) w
  | [], ok, v, x, h => by
    show G c ok (x :: v) w
    exact Or.inl h
  | y :: m, ok, v, x, h => by
    show G c ok (y :: (m ++ x :: v)) w
    exact Or.inl (G_go m (y == c) v x h)

theorem G_cut (x : Nat) (m v : List Nat) : ∀ (u : List Nat) (c : Nat) (ok : Bool) (w : List Nat), G c ok (u ++ x :: v) w → G c ok (u ++ x :: (m ++ x :: v)) w
  | [], c, ok, w, h => by
    have h : G c ok (x :: v) w := h
    show G c ok (x :: (m ++ x :: v)) w
    rcases h with h | ⟨h1, w', h2, h3⟩
    · exact Or.inl (G_go m _ v x h)
    · refine Or.inr ⟨h1, w', h2, G_go m true v x ?_⟩
      rw [beq_self_eq_true]
      exact h3
  | y :: u, c, ok, w, h => by
    have h : G c ok (y :: (u ++ x :: v)) w := h
    show G c ok (y :: (u ++ x :: (m ++ x :: v))) w
    rcases h with h | ⟨h1, w', h2, h3⟩
    · exact Or.inl (G_cut x m v u _ _ _ h)
    · exact Or.inr ⟨h1, w', h2, G_cut x m v u _ _ _ h3⟩

theorem Comes_cut {f g w : List Nat} (c : Cut1 f g) (h : Comes g w) : Comes f w := by
  obtain ⟨u, x, m, v, rfl, rfl⟩ := c
  cases u with
  | nil =>
    obtain ⟨w', e, h⟩ := (show ∃ w', w = x :: w' ∧ G x true v w' from h)
    refine (show ∃ w', w = x :: w' ∧ G x true (m ++ x :: v) w' from ⟨w', e, G_go m true v x ?_⟩)
    rw [beq_self_eq_true]
    exact h
  | cons y u =>
    obtain ⟨w', e, h⟩ := (show ∃ w', w = y :: w' ∧ G y true (u ++ x :: v) w' from h)
    exact (show ∃ w', w = y :: w' ∧ G y true (u ++ x :: (m ++ x :: v)) w' from ⟨w', e, G_cut x m v u y true w' h⟩)

theorem G_self : ∀ (f : List Nat) (c : Nat), G c true f f
  | [], c => ⟨rfl, rfl⟩
  | x :: f, c => Or.inr ⟨rfl, f, rfl, G_self f x⟩
theorem Comes_self : ∀ (f : List Nat), f ≠ [] → Comes f f
  | [], h => absurd rfl h
  | x :: f, _ => ⟨f, rfl, G_self f x⟩

theorem Cut1.ne {f g : List Nat} (c : Cut1 f g) : f ≠ [] ∧ g ≠ [] := by
  obtain ⟨u, x, m, v, rfl, rfl⟩ := c
  constructor <;> simp
theorem Reach.comes {f w : List Nat} (hf : f ≠ []) (r : Reach f w) : Comes f w := by
  suffices q : ∀ g, Reach f g → g ≠ [] ∧ ∀ w, Comes g w → Comes f w from (q w r).2 w (Comes_self w (q w r).1)
  intro g r
  induction r with
  | refl => exact ⟨hf, fun w h => h⟩
  | step _ c ih => exact ⟨c.ne.2, fun w h => ih.2 w (Comes_cut c h)⟩

theorem Reach.trans {f g h : List Nat} (a : Reach f g) (b : Reach g h) : Reach f h := by
  induction b with
  | refl => exact a
  | step _ c ih => exact .step ih c
theorem Cut1.cons {f g : List Nat} (x : Nat) (c : Cut1 f g) : Cut1 (x :: f) (x :: g) := by
  obtain ⟨u, y, m, v, rfl, rfl⟩ := c
  exact ⟨x :: u, y, m, v, rfl, rfl⟩
theorem Reach.cons {f g : List Nat} (x : Nat) (r : Reach f g) : Reach (x :: f) (x :: g) := by
  induction r with
  | refl => exact .refl _
  | step _ c ih => exact .step ih (c.cons x)

/-- the block c :: s, before f, and what is left of it -/
theorem reach_block {c : Nat} {s f : List Nat} (h : (c :: s).getLast? = some c) : Reach (c :: (s ++ f)) (c :: f) := by
  rcases List.eq_nil_or_concat s with rfl | ⟨m, y, rfl⟩
  · exact .refl _
  · have e : y = c := by
      have q : (c :: (m ++ [y])).getLast? = some y := by
        rw [← List.cons_append, List.getLast?_concat]
      have q2 : some y = some c := by rw [← q, ← List.concat_eq_append]; exact h
      exact Option.some.inj q2
    subst e
    refine .step (.refl _) ⟨[], y, m, f, ?_, rfl⟩
    simp
theorem G_reach : ∀ (f : List Nat) (c : Nat) (ok : Bool) (s w : List Nat), (ok = true → (c :: s).getLast? = some c) → G c ok f w → Reach (c :: (s ++ f)) (c :: w)
  | [], c, ok, s, w, hok, h => by
    obtain ⟨h1, h2⟩ := (show ok = true ∧ w = [] from h)
    subst h2
    exact reach_block (hok h1)
  | x :: f, c, ok, s, w, hok, h => by
    rcases (show G c (x == c) f w ∨ (ok = true ∧ ∃ w', w = x :: w' ∧ G x true f w') from h) with h | ⟨h1, w', rfl, h3⟩
    · have q := G_reach f c (x == c) (s ++ [x]) w (fun e => by
        rw [← List.cons_append, List.getLast?_concat, eq_of_beq e]) h
      rw [List.append_assoc] at q
      exact q
    · have q := G_reach f x true [] w' (fun _ => rfl) h3
      exact (reach_block (hok h1)).trans (q.cons c)
theorem Comes.reach : ∀ {f w : List Nat}, Comes f w → Reach f w
  | x :: f, w, h => by
    obtain ⟨w', rfl, h2⟩ := (show ∃ w', w = x :: w' ∧ G x true f w' from h)
    exact G_reach f x true [] w' (fun _ => rfl) h2
theorem comes_iff {f w : List Nat} (hf : f ≠ []) : Comes f w ↔ Reach f w := ⟨Comes.reach, Reach.comes hf⟩

/-! ### by places -/
def at0 (f : List Nat) (i : Nat) : Nat := f.getD i 0
theorem drop_at {f : List Nat} {q : Nat} (h : q < f.length) : f.drop q = at0 f q :: f.drop (q + 1) := by
  rw [List.drop_eq_getElem_cons h]
  simp [at0, h]

theorem G_nil {f : List Nat} : ∀ (k : Nat) (c : Nat) (ok : Bool) (q : Nat), f.length - q = k → q ≤ f.length → (G c ok (f.drop q) [] ↔ if q = f.length then ok = true else at0 f (f.length - 1) = c)
  | 0, c, ok, q, hk, hq => by
    have e : q = f.length := by omega
    subst e
    rw [List.drop_length, if_pos rfl]
    exact ⟨fun h => h.1, fun h => ⟨h, rfl⟩⟩
  | k + 1, c, ok, q, hk, hq => by
    have hlt : q < f.length := by omega
    rw [drop_at hlt, if_neg (by omega)]
    have ih := G_nil (f := f) k c (at0 f q == c) (q + 1) (by omega) (by omega)
    constructor
    · intro h
      rcases (show G c (at0 f q == c) (f.drop (q + 1)) [] ∨ (ok = true ∧ ∃ w', [] = at0 f q :: w' ∧ G (at0 f q) true (f.drop (q + 1)) w') from h) with h | ⟨_, w', e, _⟩
      · have z := ih.mp h
        by_cases e : q + 1 = f.length
        · rw [if_pos e] at z
          have e2 : f.length - 1 = q := by omega
          rw [e2]
          exact eq_of_beq z
        · rw [if_neg e] at z
          exact z
      · cases e
    · intro h
      refine Or.inl (ih.mpr ?_)
      by_cases e : q + 1 = f.length
      · rw [if_pos e]
        have e2 : f.length - 1 = q := by omega
        rw [e2] at h
        rw [h, beq_self_eq_true]
      · rw [if_neg e]
        exact h

/-- where the next block begins -/
theorem G_next {f : List Nat} {x : Nat} {w : List Nat} : ∀ (k : Nat) (c : Nat) (ok : Bool) (q : Nat), f.length - q = k → q ≤ f.length →
    (G c ok (f.drop q) (x :: w) ↔ ∃ r, q ≤ r ∧ r < f.length ∧ at0 f r = x ∧ (if r = q then ok = true else at0 f (r - 1) = c) ∧ G x true (f.drop (r + 1)) w)
  | 0, c, ok, q, hk, hq => by
    have e : q = f.length := by omega
    subst e
    rw [List.drop_length]
    constructor
    · intro h
      cases h.2
    · rintro ⟨r, h1, h2, _⟩
      omega
  | k + 1, c, ok, q, hk, hq => by
    have hlt : q < f.length := by omega
    rw [drop_at hlt]
    have ih := G_next (f := f) (x := x) (w := w) k c (at0 f q == c) (q + 1) (by omega) (by omega)
    constructor
    · intro h
      rcases (show G c (at0 f q == c) (f.drop (q + 1)) (x :: w) ∨ (ok = true ∧ ∃ w', x :: w = at0 f q :: w' ∧ G (at0 f q) true (f.drop (q + 1)) w') from h) with h | ⟨h1, w', e, h3⟩
      · obtain ⟨r, h1, h2, h3, h4, h5⟩ := ih.mp h
        refine ⟨r, by omega, h2, h3, ?_, h5⟩
        rw [if_neg (by omega)]
        by_cases e : r = q + 1
        · rw [if_pos e] at h4
          rw [e, Nat.add_sub_cancel]
          exact eq_of_beq h4
        · rw [if_neg e] at h4
          exact h4
      · injection e with e1 e2
        subst e1
        subst e2
        refine ⟨q, Nat.le_refl _, hlt, rfl, ?_, h3⟩
        rw [if_pos rfl]
        exact h1
    · rintro ⟨r, h1, h2, h3, h4, h5⟩
      by_cases e : r = q
      · subst e
        rw [if_pos rfl] at h4
        subst h3
        exact Or.inr ⟨h4, w, rfl, h5⟩
      · rw [if_neg e] at h4
        refine Or.inl (ih.mpr ⟨r, by omega, h2, h3, ?_, h5⟩)
        by_cases e2 : r = q + 1
        · rw [if_pos e2]
          rw [e2, Nat.add_sub_cancel] at h4
          rw [h4, beq_self_eq_true]
        · rw [if_neg e2]
          exact h4

/-- a block that begins earlier -/
theorem G_early {f : List Nat} {c : Nat} {w : List Nat} {q r : Nat} (hqr : q ≤ r) (hr : r < f.length) (hc : at0 f r = c) (h : G c true (f.drop (r + 1)) w) : G c true (f.drop (q + 1)) w := by
  by_cases e : q = r
  · subst e
    exact h
  · have e2 : f.drop (q + 1) = (f.drop (q + 1)).take (r - q - 1) ++ at0 f r :: f.drop (r + 1) := by
      rw [← drop_at hr]
      have e3 : f.drop r = (f.drop (q + 1)).drop (r - q - 1) := by
        rw [List.drop_drop]
        congr 1
        omega
      rw [e3, List.take_append_drop]
    rw [e2]
    refine G_go _ true _ _ ?_
    rw [hc, beq_self_eq_true]
    exact h

/-! ### nexts -/
def lk (d : List (Nat × Nat)) (x : Nat) : Option Nat := (d.find? fun p => p.1 == x).map (·.2)
theorem lk_nil (x : Nat) : lk [] x = none := rfl
theorem lk_snoc (d : List (Nat × Nat)) (y q x : Nat) (h : lk d y = none) : lk (d ++ [(y, q)]) x = if x = y then some q else lk d x := by
  unfold lk at *
  rw [List.find?_append]
  by_cases e : x = y
  · subst e
    rw [if_pos rfl]
    have h2 : (d.find? fun p => p.1 == x) = none := by
      cases z : d.find? fun p => p.1 == x with
      | none => rfl
      | some p => rw [z] at h; cases h
    rw [h2]
    simp
  · rw [if_neg e]
    cases z : d.find? fun p => p.1 == x with
    | none =>
      have e2 : ¬ y = x := fun q => e q.symm
      simp [e2]
    | some p => simp

def nxs (f : List Nat) (p : Nat) : Nat → List (Nat × Nat)
  | 0 => []
  | i + 1 => if at0 f (p + i) = at0 f p ∧ lk (nxs f p i) (at0 f (p + i + 1)) = none then nxs f p i ++ [(at0 f (p + i + 1), p + i + 1)] else nxs f p i
def nexts (f : List Nat) (p : Nat) : List (Nat × Nat) := nxs f p (f.length - 1 - p)

theorem nxs_none {f : List Nat} {p x : Nat} : ∀ {i : Nat}, lk (nxs f p i) x = none → ∀ q, p < q → q ≤ p + i → at0 f (q - 1) = at0 f p → at0 f q ≠ x
  | 0, _, q, h1, h2, _ => by omega
  | i + 1, h, q, h1, h2, h3 => by
    unfold nxs at h
    by_cases e : at0 f (p + i) = at0 f p ∧ lk (nxs f p i) (at0 f (p + i + 1)) = none
    · rw [if_pos e, lk_snoc _ _ _ _ e.2] at h
      by_cases e2 : x = at0 f (p + i + 1)
      · rw [if_pos e2] at h; cases h
      · rw [if_neg e2] at h
        by_cases e3 : q = p + i + 1
        · rw [e3]; exact fun z => e2 z.symm
        · exact nxs_none h q h1 (by omega) h3
    · rw [if_neg e] at h
      by_cases e3 : q = p + i + 1
      · intro z
        apply e
        rw [e3] at h3 z
        rw [Nat.add_sub_cancel] at h3
        exact ⟨h3, by rw [z]; exact h⟩
      · exact nxs_none h q h1 (by omega) h3
theorem nxs_some {f : List Nat} {p x q : Nat} : ∀ {i : Nat}, lk (nxs f p i) x = some q → p < q ∧ q ≤ p + i ∧ at0 f (q - 1) = at0 f p ∧ at0 f q = x ∧ ∀ r, p < r → r < q → at0 f (r - 1) = at0 f p → at0 f r ≠ x
  | 0, h => by cases h
  | i + 1, h => by
    unfold nxs at h
    by_cases e : at0 f (p + i) = at0 f p ∧ lk (nxs f p i) (at0 f (p + i + 1)) = none
    · rw [if_pos e, lk_snoc _ _ _ _ e.2] at h
      by_cases e2 : x = at0 f (p + i + 1)
      · rw [if_pos e2] at h
        have eq : p + i + 1 = q := Option.some.inj h
        subst eq
        refine ⟨by omega, by omega, ?_, e2.symm, fun r h1 h2 h3 => ?_⟩
        · rw [Nat.add_sub_cancel]; exact e.1
        · rw [e2]; exact nxs_none e.2 r h1 (by omega) h3
      · rw [if_neg e2] at h
        obtain ⟨a, b, c⟩ := nxs_some h
        exact ⟨a, by omega, c⟩
    · rw [if_neg e] at h
      obtain ⟨a, b, c⟩ := nxs_some h
      exact ⟨a, by omega, c⟩
theorem lk_none_keys {d : List (Nat × Nat)} {x : Nat} (h : lk d x = none) : x ∉ d.map (·.1) := by
  intro hm
  obtain ⟨p, hp, e⟩ := List.mem_map.mp hm
  have : d.find? (fun p => p.1 == x) = none := by
    cases z : d.find? fun p => p.1 == x with
    | none => rfl
    | some p => unfold lk at h; rw [z] at h; cases h
  rw [List.find?_eq_none] at this
  exact this p hp (by simp [e])
theorem nxs_keys (f : List Nat) (p : Nat) : ∀ i, ((nxs f p i).map (·.1)).Nodup
  | 0 => List.nodup_nil
  | i + 1 => by
    have ih := nxs_keys f p i
    unfold nxs
    split
    · rename_i e
      rw [List.map_append, List.nodup_append]
      refine ⟨ih, by simp, ?_⟩
      intro a ha b hb
      have eb : b = at0 f (p + i + 1) := by simpa using hb
      subst eb
      exact fun z => lk_none_keys e.2 (z ▸ ha)
    · exact ih
theorem lk_of_mem {d : List (Nat × Nat)} (hn : (d.map (·.1)).Nodup) {x q : Nat} (h : (x, q) ∈ d) : lk d x = some q := by
  induction d with
  | nil => cases h
  | cons p d ih =>
    rw [List.map_cons, List.nodup_cons] at hn
    unfold lk
    rw [List.find?_cons]
    by_cases e : p.1 = x
    · have : (p.1 == x) = true := by simp [e]
      rw [this]
      rcases List.mem_cons.mp h with h | h
      · rw [← h]; rfl
      · exact absurd (List.mem_map.mpr ⟨_, h, rfl⟩) (e ▸ hn.1)
    · have : (p.1 == x) = false := by simp [e]
      rw [this]
      rcases List.mem_cons.mp h with h | h
      · rw [← h] at e; exact absurd rfl e
      · exact ih hn.2 h
theorem mem_of_lk {d : List (Nat × Nat)} {x q : Nat} (h : lk d x = some q) : (x, q) ∈ d := by
  unfold lk at h
  cases z : d.find? fun p => p.1 == x with
  | none => rw [z] at h; cases h
  | some p =>
    rw [z] at h
    have e1 : p.1 = x := by simpa using List.find?_some z
    have e2 : p.2 = q := Option.some.inj h
    rw [← e1, ← e2]
    exact List.mem_of_find?_eq_some z
theorem nexts_keys (f : List Nat) (p : Nat) : ((nexts f p).map (·.1)).Nodup := nxs_keys f p _
theorem nexts_lt {f : List Nat} {p x q : Nat} (h : lk (nexts f p) x = some q) : p < q ∧ q < f.length ∧ at0 f q = x := by
  obtain ⟨a, b, c, d, _⟩ := nxs_some h
  exact ⟨a, by omega, d⟩

/-- w goes on from the block that begins at p -/
def T (f : List Nat) (p : Nat) (w : List Nat) : Prop := G (at0 f p) true (f.drop (p + 1)) w
theorem T_nil {f : List Nat} {p : Nat} (hp : p < f.length) : T f p [] ↔ at0 f p = at0 f (f.length - 1) := by
  unfold T
  rw [G_nil _ _ _ _ rfl (by omega)]
  by_cases e : p + 1 = f.length
  · rw [if_pos e]
    have : f.length - 1 = p := by omega
    rw [this]
    exact ⟨fun _ => rfl, fun _ => rfl⟩
  · rw [if_neg e]
    exact ⟨fun h => h.symm, fun h => h.symm⟩
theorem T_cons {f : List Nat} {p x : Nat} {w : List Nat} (hp : p < f.length) : T f p (x :: w) ↔ ∃ q, lk (nexts f p) x = some q ∧ T f q w := by
  unfold T
  rw [G_next _ _ _ _ rfl (by omega)]
  constructor
  · rintro ⟨r, h1, h2, h3, h4, h5⟩
    have hc : at0 f (r - 1) = at0 f p := by
      by_cases e : r = p + 1
      · rw [e, Nat.add_sub_cancel]
      · rw [if_neg e] at h4; exact h4
    cases z : lk (nexts f p) x with
    | none => exact absurd h3 (nxs_none z r (by omega) (by omega) hc)
    | some q =>
      obtain ⟨a, b, c, d, e⟩ := nxs_some z
      have hqr : q ≤ r := by
        by_cases h : q ≤ r
        · exact h
        · exact absurd h3 (e r (by omega) (by omega) hc)
      refine ⟨q, rfl, ?_⟩
      rw [d]
      exact G_early hqr h2 h3 h5
  · rintro ⟨q, h1, h2⟩
    obtain ⟨a, b, c, d, e⟩ := nxs_some h1
    refine ⟨q, by omega, by omega, d, ?_, ?_⟩
    · by_cases e : q = p + 1
      · rw [if_pos e]
      · rw [if_neg e]; exact c
    · rw [d] at h2; exact h2
theorem comes_T {f : List Nat} (hf : f ≠ []) (w : List Nat) : Comes f w ↔ ∃ w', w = at0 f 0 :: w' ∧ T f 0 w' := by
  cases f with
  | nil => exact absurd rfl hf
  | cons x f => exact Iff.rfl
end JC

-- part A1
set_option linter.all false
/-! The plain law, 2: the common outcomes of two films as a list, their number, the best one. -/
namespace JC
def acc (f : List Nat) (p : Nat) : Bool := decide (at0 f p = at0 f (f.length - 1))
/-- the common tails behind the places a, b -/
def LL (f g : List Nat) : Nat → Nat → Nat → List (List Nat)
  | 0, _, _ => []
  | k + 1, a, b => (if (acc f a && acc g b) = true then [[]] else []) ++ (nexts f a).flatMap fun p => match lk (nexts g b) p.1 with
      | none => []
      | some q => (LL f g k p.2 q).map (p.1 :: ·)
theorem flat_congr {α β : Type} {f g : α → List β} : ∀ {l : List α}, (∀ x ∈ l, f x = g x) → l.flatMap f = l.flatMap g
  | [], _ => rfl
  | x :: l, h => by
    rw [List.flatMap_cons, List.flatMap_cons, h x List.mem_cons_self, flat_congr fun y hy => h y (List.mem_cons_of_mem _ hy)]
theorem nexts_mem {f : List Nat} {a : Nat} {p : Nat × Nat} (h : p ∈ nexts f a) : lk (nexts f a) p.1 = some p.2 := lk_of_mem (nexts_keys f a) h
theorem LL_fuel (f g : List Nat) : ∀ (k k' a b : Nat), f.length - a ≤ k → f.length - a ≤ k' → a < f.length → LL f g k a b = LL f g k' a b
  | 0, k', a, b, h1, h2, h3 => by omega
  | k + 1, 0, a, b, h1, h2, h3 => by omega
  | k + 1, k' + 1, a, b, h1, h2, h3 => by
    unfold LL
    congr 1
    refine flat_congr fun p hp => ?_
    cases lk (nexts g b) p.1 with
    | none => rfl
    | some q =>
      have z := nexts_lt (nexts_mem hp)
      simp only
      rw [LL_fuel f g k k' p.2 q (by omega) (by omega) z.2.1]
def L (f g : List Nat) (a b : Nat) : List (List Nat) := LL f g (f.length - a) a b
/-- what one of the next letters adds -/
def part (f g : List Nat) (b : Nat) (p : Nat × Nat) : List (List Nat) := match lk (nexts g b) p.1 with
  | none => []
  | some q => (L f g p.2 q).map (p.1 :: ·)
theorem L_eq {f g : List Nat} {a b : Nat} (h : a < f.length) : L f g a b = (if (acc f a && acc g b) = true then [[]] else []) ++ (nexts f a).flatMap (part f g b) := by
  have e : f.length - a = (f.length - a - 1) + 1 := by omega
  unfold L
  rw [e]
  unfold LL
  congr 1
  refine flat_congr fun p hp => ?_
  unfold part
  cases lk (nexts g b) p.1 with
  | none => rfl
  | some q =>
    have z := nexts_lt (nexts_mem hp)
    simp only
    unfold L
    rw [LL_fuel f g (f.length - a - 1) (f.length - p.2) p.2 q (by omega) (by omega) z.2.1]
theorem acc_T {f : List Nat} {a : Nat} (h : a < f.length) : acc f a = true ↔ T f a [] := by
  rw [T_nil h]
  exact decide_eq_true_iff
theorem part_mem {f g : List Nat} {b : Nat} {p : Nat × Nat} {w : List Nat} : w ∈ part f g b p ↔ ∃ q t, lk (nexts g b) p.1 = some q ∧ w = p.1 :: t ∧ t ∈ L f g p.2 q := by
  unfold part
  cases e : lk (nexts g b) p.1 with
  | none =>
    constructor
    · intro h; cases h
    · rintro ⟨q, t, h, _⟩; cases h
  | some q =>
    simp only [List.mem_map]
    constructor
    · rintro ⟨t, h1, h2⟩; exact ⟨q, t, rfl, h2.symm, h1⟩
    · rintro ⟨q', t, h1, h2, h3⟩
      cases h1
      exact ⟨t, h3, h2.symm⟩
theorem L_mem {f g : List Nat} : ∀ (w : List Nat) (a b : Nat), a < f.length → b < g.length → (w ∈ L f g a b ↔ T f a w ∧ T g b w)
  | [], a, b, ha, hb => by
    rw [L_eq ha, List.mem_append]
    constructor
    · rintro (h | h)
      · split at h
        · rename_i e
          rw [Bool.and_eq_true] at e
          exact ⟨(acc_T ha).mp e.1, (acc_T hb).mp e.2⟩
        · cases h
      · obtain ⟨p, _, h⟩ := List.mem_flatMap.mp h
        obtain ⟨q, t, _, e, _⟩ := part_mem.mp h
        cases e
    · rintro ⟨h1, h2⟩
      rw [if_pos (by rw [(acc_T ha).mpr h1, (acc_T hb).mpr h2] <;> rfl)]
      exact .inl List.mem_cons_self
  | x :: w, a, b, ha, hb => by
    rw [L_eq ha, List.mem_append, T_cons ha, T_cons hb]
    constructor
    · rintro (h | h)
      · split at h
        · cases (List.mem_singleton.mp h)
        · cases h
      · obtain ⟨p, hp, h⟩ := List.mem_flatMap.mp h
        obtain ⟨q, t, h1, e, h2⟩ := part_mem.mp h
        injection e with e1 e2
        subst e1
        subst e2
        have z := nexts_mem hp
        have y := (L_mem w p.2 q (nexts_lt z).2.1 (nexts_lt h1).2.1).mp h2
        exact ⟨⟨p.2, z, y.1⟩, ⟨q, h1, y.2⟩⟩
    · rintro ⟨⟨p, h1, h2⟩, ⟨q, h3, h4⟩⟩
      refine .inr (List.mem_flatMap.mpr ⟨(x, p), mem_of_lk h1, part_mem.mpr ⟨q, w, h3, rfl, ?_⟩⟩)
      exact (L_mem w p q (nexts_lt h1).2.1 (nexts_lt h3).2.1).mpr ⟨h2, h4⟩
theorem L_nodup {f g : List Nat} : ∀ (k a b : Nat), f.length - a = k → a < f.length → (L f g a b).Nodup := by
  intro k
  induction k using Nat.strongRecOn with
  | ind k ih =>
    intro a b hk ha
    rw [L_eq ha, List.nodup_append]
    refine ⟨?_, ?_, ?_⟩
    · split
      · simp
      · exact List.nodup_nil
    · unfold List.Nodup
      rw [List.pairwise_flatMap]
      refine ⟨fun p hp => ?_, ?_⟩
      · unfold part
        cases lk (nexts g b) p.1 with
        | none => exact List.Pairwise.nil
        | some q =>
          have z := nexts_lt (nexts_mem hp)
          have y := ih (f.length - p.2) (by omega) p.2 q rfl z.2.1
          exact List.pairwise_map.mpr (y.imp fun hne e => hne (List.cons.inj e).2)
      · have z := nexts_keys f a
        rw [List.Nodup, List.pairwise_map] at z
        refine z.imp fun hne x hx y hy e => ?_
        obtain ⟨_, _, _, e1, _⟩ := part_mem.mp hx
        obtain ⟨_, _, _, e2, _⟩ := part_mem.mp hy
        rw [e1, e2] at e
        exact hne (List.cons.inj e).1
    · intro x hx y hy e
      split at hx
      · rw [List.mem_singleton] at hx
        obtain ⟨p, _, h⟩ := List.mem_flatMap.mp hy
        obtain ⟨q, t, _, e2, _⟩ := part_mem.mp h
        rw [← e, hx] at e2
        cases e2
      · cases hx
/-- how many -/
def W (f g : List Nat) (a b : Nat) : Nat := (L f g a b).length
def wpart (f g : List Nat) (b : Nat) (p : Nat × Nat) : Nat := match lk (nexts g b) p.1 with
  | none => 0
  | some q => W f g p.2 q
theorem part_len (f g : List Nat) (b : Nat) (p : Nat × Nat) : (part f g b p).length = wpart f g b p := by
  unfold part wpart
  cases lk (nexts g b) p.1 with
  | none => rfl
  | some q => exact List.length_map _
theorem W_eq {f g : List Nat} {a b : Nat} (h : a < f.length) : W f g a b = (if (acc f a && acc g b) = true then 1 else 0) + ((nexts f a).map (wpart f g b)).sum := by
  unfold W
  rw [L_eq h, List.length_append, List.length_flatMap]
  congr 1
  · split <;> rfl
  · congr 1
    exact List.map_congr_left fun p _ => part_len f g b p
/-- all common outcomes -/
def ALL (f g : List Nat) : List (List Nat) := if at0 f 0 = at0 g 0 then (L f g 0 0).map (at0 f 0 :: ·) else []
theorem pos_of {f : List Nat} (h : f ≠ []) : 0 < f.length := by
  cases f with
  | nil => exact absurd rfl h
  | cons x f => exact Nat.succ_pos _
theorem ALL_mem {f g : List Nat} (hf : f ≠ []) (hg : g ≠ []) (w : List Nat) : w ∈ ALL f g ↔ Comes f w ∧ Comes g w := by
  rw [comes_T hf, comes_T hg]
  unfold ALL
  split
  · rename_i e
    rw [List.mem_map]
    constructor
    · rintro ⟨t, h, rfl⟩
      have z := (L_mem t 0 0 (pos_of hf) (pos_of hg)).mp h
      exact ⟨⟨t, rfl, z.1⟩, ⟨t, by rw [e], z.2⟩⟩
    · rintro ⟨⟨t, rfl, h1⟩, ⟨t', e2, h2⟩⟩
      have e3 := (List.cons.inj e2).2
      subst e3
      exact ⟨t, (L_mem t 0 0 (pos_of hf) (pos_of hg)).mpr ⟨h1, h2⟩, rfl⟩
  · rename_i e
    constructor
    · intro h; cases h
    · rintro ⟨⟨t, rfl, h1⟩, ⟨t', e2, h2⟩⟩
      exact absurd (List.cons.inj e2).1 e
theorem ALL_nodup {f g : List Nat} (hf : f ≠ []) : (ALL f g).Nodup := by
  unfold ALL
  split
  · exact List.pairwise_map.mpr ((L_nodup _ 0 0 rfl (pos_of hf)).imp fun hne e => hne (List.cons.inj e).2)
  · exact List.nodup_nil

/-! ### in order -/
def srt (l : List (List Nat)) : List (List Nat) := l.mergeSort fun a b => decide (a ≤ b)
theorem srt_perm (l : List (List Nat)) : (srt l).Perm l := List.mergeSort_perm l _
theorem srt_lt {l : List (List Nat)} (h : l.Nodup) : (srt l).Pairwise (· < ·) := by
  have h1 : (srt l).Pairwise (fun a b => decide (a ≤ b) = true) := List.pairwise_mergeSort (le := fun a b : List Nat => decide (a ≤ b)) (fun a b c h1 h2 => decide_eq_true (List.le_trans (of_decide_eq_true h1) (of_decide_eq_true h2)))
    (fun a b => by
      rcases List.le_total a b with h | h
      · simp [h]
      · simp [h]) l
  have h2 : (srt l).Pairwise (· ≠ ·) := ((srt_perm l).nodup_iff).mpr h
  refine (h1.and h2).imp fun {a b} z => ?_
  have z1 := of_decide_eq_true z.1
  by_cases e : a < b
  · exact e
  · exact absurd (List.le_antisymm z1 (List.not_lt.mp e)) z.2
theorem lt_uniq : ∀ {l m : List (List Nat)}, l.Pairwise (· < ·) → m.Pairwise (· < ·) → (∀ x, x ∈ l ↔ x ∈ m) → l = m
  | [], [], _, _, _ => rfl
  | [], y :: m, _, _, h => absurd ((h y).mpr List.mem_cons_self) (by simp)
  | x :: l, [], _, _, h => absurd ((h x).mp List.mem_cons_self) (by simp)
  | x :: l, y :: m, hl, hm, h => by
    obtain ⟨a1, a2⟩ := List.pairwise_cons.mp hl
    obtain ⟨b1, b2⟩ := List.pairwise_cons.mp hm
    have e : x = y := by
      rcases List.mem_cons.mp ((h x).mp List.mem_cons_self) with e | hx
      · exact e
      · rcases List.mem_cons.mp ((h y).mpr List.mem_cons_self) with e | hy
        · exact e.symm
        · exact absurd (List.lt_trans (a1 y hy) (b1 x hx)) (List.lt_irrefl x)
    subst e
    have t : l = m := lt_uniq a2 b2 fun z => by
      constructor
      · intro hz
        rcases List.mem_cons.mp ((h z).mp (List.mem_cons_of_mem _ hz)) with e | q
        · exact absurd (e ▸ a1 z hz) (List.lt_irrefl _)
        · exact q
      · intro hz
        rcases List.mem_cons.mp ((h z).mpr (List.mem_cons_of_mem _ hz)) with e | q
        · exact absurd (e ▸ b1 z hz) (List.lt_irrefl _)
        · exact q
    rw [t]

/-! ### the best one: the longest, of these the first -/
def better (x y : List Nat) : Bool := decide (y.length < x.length) || (decide (x.length = y.length) && decide (x < y))
def IsBst (S : List (List Nat)) (m : List Nat) : Prop := m ∈ S ∧ ∀ t ∈ S, better t m = false
theorem better_no {x y : List Nat} : better x y = false ↔ x.length < y.length ∨ (x.length = y.length ∧ y ≤ x) := by
  unfold better
  rw [Bool.or_eq_false_iff, Bool.and_eq_false_iff, decide_eq_false_iff_not, decide_eq_false_iff_not, decide_eq_false_iff_not, List.not_lt]
  constructor
  · rintro ⟨h1, h2⟩
    by_cases e : x.length = y.length
    · exact .inr ⟨e, h2.elim (fun q => absurd e q) id⟩
    · exact .inl (by omega)
  · rintro (h | ⟨h1, h2⟩)
    · exact ⟨by omega, .inl (by omega)⟩
    · exact ⟨by omega, .inr h2⟩
theorem better_trans {x y z : List Nat} (h1 : better x y = false) (h2 : better y z = false) : better x z = false := by
  rw [better_no] at *
  rcases h1 with h1 | ⟨h1, h3⟩
  · rcases h2 with h2 | ⟨h2, _⟩
    · exact .inl (by omega)
    · exact .inl (by omega)
  · rcases h2 with h2 | ⟨h2, h4⟩
    · exact .inl (by omega)
    · exact .inr ⟨by omega, List.le_trans h4 h3⟩
theorem better_cons {x y : List Nat} (c : Nat) : better (c :: x) (c :: y) = false ↔ better x y = false := by
  rw [better_no, better_no, List.length_cons, List.length_cons, List.cons_le_cons_iff]
  constructor
  · rintro (h | ⟨h1, h2⟩)
    · exact .inl (by omega)
    · refine .inr ⟨by omega, ?_⟩
      rcases h2 with h2 | h2
      · exact absurd h2 (Nat.lt_irrefl _)
      · exact h2.2
  · rintro (h | ⟨h1, h2⟩)
    · exact .inl (by omega)
    · exact .inr ⟨by omega, .inr ⟨rfl, h2⟩⟩
theorem bst_uniq {S : List (List Nat)} {m m' : List Nat} (h : IsBst S m) (h' : IsBst S m') : m = m' := by
  have a := better_no.mp (h.2 m' h'.1)
  have b := better_no.mp (h'.2 m h.1)
  rcases a with a | ⟨_, a⟩
  · rcases b with b | ⟨b, _⟩ <;> omega
  · rcases b with b | ⟨_, b⟩
    · omega
    · exact List.le_antisymm a b
theorem bst_parts {S S' : List (List Nat)} {m : List Nat} (h : IsBst S' m) (h1 : ∀ t ∈ S', t ∈ S) (h2 : ∀ t ∈ S, ∃ t' ∈ S', better t t' = false) : IsBst S m :=
  ⟨h1 m h.1, fun t ht => by
    obtain ⟨t', a, b⟩ := h2 t ht
    exact better_trans b (h.2 t' a)⟩
theorem bst_map {S : List (List Nat)} {m : List Nat} (c : Nat) : IsBst (S.map (c :: ·)) (c :: m) ↔ IsBst S m := by
  constructor
  · rintro ⟨h1, h2⟩
    obtain ⟨t, ht, e⟩ := List.mem_map.mp h1
    have e2 := (List.cons.inj e).2
    subst e2
    exact ⟨ht, fun u hu => (better_cons c).mp (h2 _ (List.mem_map.mpr ⟨u, hu, rfl⟩))⟩
  · rintro ⟨h1, h2⟩
    refine ⟨List.mem_map.mpr ⟨m, h1, rfl⟩, fun u hu => ?_⟩
    obtain ⟨t, ht, rfl⟩ := List.mem_map.mp hu
    exact (better_cons c).mpr (h2 t ht)
end JC

-- part A2
set_option linter.all false
/-! The plain law, 3: the pile of beginnings. -/
namespace JC
abbrev Beg := List Nat × Nat × Nat
/-- the outcomes that a beginning still gives -/
def outOf (f g : List Nat) (e : Beg) : List (List Nat) := (L f g e.2.1 e.2.2).map (e.1 ++ ·)
def child (f g : List Nat) (w : List Nat) (b : Nat) (p : Nat × Nat) : List Beg := match lk (nexts g b) p.1 with
  | none => []
  | some q => if 0 < W f g p.2 q then [(w ++ [p.1], p.2, q)] else []
theorem child_out (f g w : List Nat) (b : Nat) (p : Nat × Nat) : (child f g w b p).flatMap (outOf f g) = (part f g b p).map (w ++ ·) := by
  unfold child part
  cases lk (nexts g b) p.1 with
  | none => rfl
  | some q =>
    simp only
    split
    · rw [List.flatMap_cons, List.flatMap_nil, List.append_nil, List.map_map]
      unfold outOf
      refine List.map_congr_left fun t _ => ?_
      simp
    · rename_i h
      have e : L f g p.2 q = [] := List.eq_nil_of_length_eq_zero (by unfold W at h; omega)
      rw [e] <;> rfl
theorem kids_out (f g w : List Nat) (b : Nat) : ∀ l : List (Nat × Nat), (l.flatMap (child f g w b)).flatMap (outOf f g) = (l.flatMap (part f g b)).map (w ++ ·)
  | [] => rfl
  | p :: l => by
    rw [List.flatMap_cons, List.flatMap_append, child_out, kids_out f g w b l, List.flatMap_cons, List.map_append]
/-- one beginning taken from the pile -/
theorem pile_turn {f g : List Nat} {fs : List (List Nat)} {es : List Beg} {w : List Nat} {a b : Nat} (ha : a < f.length) :
    ((fs ++ (if (acc f a && acc g b) = true then [w] else [])) ++ (es ++ (nexts f a).flatMap (child f g w b)).flatMap (outOf f g)).Perm (fs ++ (es ++ [(w, a, b)]).flatMap (outOf f g)) := by
  rw [List.flatMap_append, List.flatMap_append, kids_out, List.flatMap_cons, List.flatMap_nil, List.append_nil, List.append_assoc]
  refine List.Perm.append_left fs ?_
  have e : outOf f g (w, a, b) = (if (acc f a && acc g b) = true then [w] else []) ++ ((nexts f a).flatMap (part f g b)).map (w ++ ·) := by
    unfold outOf
    rw [L_eq ha, List.map_append]
    congr 1
    split <;> simp
  rw [e, ← List.append_assoc, ← List.append_assoc]
  exact List.Perm.append_right _ List.perm_append_comm
def weigh (f : List Nat) (e : Beg) : Nat := 1001 ^ (f.length - e.2.1)
def pileW (f : List Nat) (es : List Beg) : Nat := (es.map (weigh f)).sum
theorem pileW_app (f : List Nat) (a b : List Beg) : pileW f (a ++ b) = pileW f a + pileW f b := by
  unfold pileW
  rw [List.map_append, List.sum_append]
theorem nexts_len (f : List Nat) (a : Nat) : (nexts f a).length ≤ f.length - 1 - a := by
  suffices h : ∀ i, (nxs f a i).length ≤ i from h _
  intro i
  induction i with
  | zero => exact Nat.le_refl _
  | succ i ih =>
    unfold nxs
    split
    · rw [List.length_append, List.length_singleton]
      omega
    · omega
theorem kids_weigh {f g w : List Nat} {a b : Nat} : ∀ l : List (Nat × Nat), (∀ p ∈ l, a < p.2 ∧ p.2 < f.length) → pileW f (l.flatMap (child f g w b)) ≤ l.length * 1001 ^ (f.length - a - 1)
  | [], _ => by simp [pileW]
  | p :: l, h => by
    have ih := kids_weigh (f := f) (g := g) (w := w) (a := a) (b := b) l fun q hq => h q (List.mem_cons_of_mem _ hq)
    have hp := h p List.mem_cons_self
    rw [List.flatMap_cons, pileW_app, List.length_cons, Nat.add_mul, Nat.one_mul]
    have one : pileW f (child f g w b p) ≤ 1001 ^ (f.length - a - 1) := by
      unfold child
      cases lk (nexts g b) p.1 with
      | none => exact Nat.zero_le _
      | some q =>
        simp only
        split
        · show 1001 ^ (f.length - p.2) + 0 ≤ _
          rw [Nat.add_zero]
          exact Nat.pow_le_pow_right (by decide) (by omega)
        · exact Nat.zero_le _
    omega
theorem pile_less {f g : List Nat} {es : List Beg} {w : List Nat} {a b : Nat} (ha : a < f.length) (hf : f.length ≤ 200) : pileW f (es ++ (nexts f a).flatMap (child f g w b)) < pileW f (es ++ [(w, a, b)]) := by
  rw [pileW_app, pileW_app]
  have h1 := kids_weigh (f := f) (g := g) (w := w) (a := a) (b := b) (nexts f a) fun p hp => ⟨(nexts_lt (nexts_mem hp)).1, (nexts_lt (nexts_mem hp)).2.1⟩
  have h2 := nexts_len f a
  have h3 : pileW f [(w, a, b)] = 1001 ^ (f.length - a - 1) * 1001 := by
    show 1001 ^ (f.length - a) + 0 = _
    rw [Nat.add_zero, ← Nat.pow_succ]
    congr 1
    omega
  have h4 : 0 < 1001 ^ (f.length - a - 1) := Nat.pow_pos (by decide)
  have h5 : (nexts f a).length * 1001 ^ (f.length - a - 1) ≤ 200 * 1001 ^ (f.length - a - 1) := Nat.mul_le_mul_right _ (by omega)
  rw [h3]
  omega
/-- what is known of a beginning on the pile -/
def BegOk (f g : List Nat) (e : Beg) : Prop := e.2.1 < f.length ∧ e.2.2 < g.length ∧ 0 < W f g e.2.1 e.2.2 ∧ e.1.length ≤ e.2.1 + 1 ∧ (∀ c ∈ e.1, c < 1114112)
theorem child_ok {f g w : List Nat} {a b : Nat} (hw : w.length ≤ a + 1) (hc : ∀ c ∈ w, c < 1114112) (hf : ∀ c ∈ f, c < 1114112) {p : Nat × Nat} (hp : p ∈ nexts f a) : ∀ e ∈ child f g w b p, BegOk f g e := by
  intro e he
  have z := nexts_lt (nexts_mem hp)
  unfold child at he
  cases q : lk (nexts g b) p.1 with
  | none => rw [q] at he; cases he
  | some y =>
    rw [q] at he
    simp only at he
    split at he
    · rw [List.mem_singleton] at he
      subst he
      have z2 := nexts_lt q
      refine ⟨z.2.1, z2.2.1, by assumption, ?_, fun c h => ?_⟩
      · show (w ++ [p.1]).length ≤ p.2 + 1
        rw [List.length_append, List.length_singleton]
        omega
      · rcases List.mem_append.mp h with h | h
        · exact hc c h
        · rw [List.mem_singleton] at h
          subst h
          have : at0 f p.2 ∈ f := by
            unfold at0
            rw [List.getD_eq_getElem?_getD, List.getElem?_eq_getElem z.2.1]
            exact List.getElem_mem z.2.1
          rw [← z.2.2]
          exact hf _ this
    · cases he
theorem pile_len {f g : List Nat} : ∀ {es : List Beg}, (∀ e ∈ es, BegOk f g e) → es.length ≤ (es.flatMap (outOf f g)).length
  | [], _ => Nat.le_refl _
  | e :: es, h => by
    have ih := pile_len fun x hx => h x (List.mem_cons_of_mem _ hx)
    have h1 := (h e List.mem_cons_self).2.2.1
    rw [List.flatMap_cons, List.length_append, List.length_cons]
    have h2 : (outOf f g e).length = W f g e.2.1 e.2.2 := List.length_map _
    omega
theorem child_few (f g w : List Nat) (b : Nat) (p : Nat × Nat) : (child f g w b p).length ≤ 1 := by
  unfold child
  cases lk (nexts g b) p.1 with
  | none => exact Nat.zero_le _
  | some q =>
    simp only
    split <;> simp
theorem kids_few (f g w : List Nat) (b : Nat) : ∀ l : List (Nat × Nat), (l.flatMap (child f g w b)).length ≤ l.length
  | [] => Nat.le_refl _
  | p :: l => by
    have ih := kids_few f g w b l
    have h := child_few f g w b p
    rw [List.flatMap_cons, List.length_append, List.length_cons]
    omega
theorem srt_congr {l m : List (List Nat)} (p : l.Perm m) (h : m.Nodup) : srt l = srt m :=
  lt_uniq (srt_lt (p.nodup_iff.mpr h)) (srt_lt h) fun x => by rw [(srt_perm l).mem_iff, (srt_perm m).mem_iff, p.mem_iff]
theorem flat_snoc {α β : Type} (h : α → List β) {l : List α} {i : Nat} {x : α} (e : l[i]? = some x) : (l.take (i + 1)).flatMap h = (l.take i).flatMap h ++ h x := by
  rw [List.take_add_one, e]
  simp
end JC

-- part A3
set_option linter.all false
/-! The plain law, 4: the best common outcome. -/
namespace JC
def bst : List (List Nat) → Option (List Nat)
  | [] => none
  | x :: S => match bst S with
    | none => some x
    | some y => if better y x = true then some y else some x
theorem better_self (x : List Nat) : better x x = false := better_no.mpr (.inr ⟨rfl, List.le_refl x⟩)
theorem better_asym {x y : List Nat} (h : better x y = true) : better y x = false := by
  cases e : better y x with
  | false => rfl
  | true =>
    have z : better y x = false := by
      rw [better_no]
      unfold better at h
      simp only [Bool.or_eq_true, Bool.and_eq_true, decide_eq_true_eq] at h
      rcases h with h | ⟨h1, h2⟩
      · exact .inl h
      · exact .inr ⟨h1.symm, List.le_of_lt h2⟩
    rw [e] at z
    exact z
theorem bst_is : ∀ S : List (List Nat), (S = [] ∧ bst S = none) ∨ ∃ m, bst S = some m ∧ IsBst S m
  | [] => .inl ⟨rfl, rfl⟩
  | x :: S => by
    refine .inr ?_
    unfold bst
    rcases bst_is S with ⟨h1, h2⟩ | ⟨m, h1, h2, h3⟩
    · rw [h2, h1]
      exact ⟨x, rfl, List.mem_cons_self, fun t ht => by
        rw [List.mem_singleton] at ht
        rw [ht]
        exact better_self x⟩
    · rw [h1]
      simp only
      by_cases c : better m x = true
      · rw [if_pos c]
        refine ⟨m, rfl, List.mem_cons_of_mem _ h2, fun t ht => ?_⟩
        rcases List.mem_cons.mp ht with e | ht
        · rw [e]; exact better_asym c
        · exact h3 t ht
      · rw [if_neg c]
        refine ⟨x, rfl, List.mem_cons_self, fun t ht => ?_⟩
        rcases List.mem_cons.mp ht with e | ht
        · rw [e]; exact better_self x
        · exact better_trans (h3 t ht) (Bool.eq_false_iff.mpr c)
theorem bst_none {S : List (List Nat)} (h : bst S = none) : S = [] := by
  rcases bst_is S with ⟨h1, _⟩ | ⟨m, h1, _⟩
  · exact h1
  · rw [h] at h1; cases h1
theorem bst_some {S : List (List Nat)} {m : List Nat} (h : bst S = some m) : IsBst S m := by
  rcases bst_is S with ⟨_, h1⟩ | ⟨m', h1, h2⟩
  · rw [h] at h1; cases h1
  · rw [h] at h1
    cases h1
    exact h2
theorem bst_of {S : List (List Nat)} {m : List Nat} (h : IsBst S m) : bst S = some m := by
  rcases bst_is S with ⟨h1, _⟩ | ⟨m', h1, h2⟩
  · rw [h1] at h
    cases h.1
  · rw [h1, bst_uniq h2 h]
/-- what one of the next letters offers -/
def sub (f g : List Nat) (c b : Nat) (p : Nat × Nat) : List (List Nat) := match lk (nexts g b) p.1 with
  | none => []
  | some q => match bst (L f g p.2 q) with
    | none => []
    | some m => [c :: p.1 :: m]
/-- the list `some` behind the first i letters -/
def someL (f g : List Nat) (a b i : Nat) : List (List Nat) := (if (acc f a && acc g b) = true then [[at0 f a]] else []) ++ ((nexts f a).take i).flatMap (sub f g (at0 f a) b)
theorem sub_mem {f g : List Nat} {c b : Nat} {p : Nat × Nat} {t : List Nat} : t ∈ sub f g c b p ↔ ∃ q m, lk (nexts g b) p.1 = some q ∧ bst (L f g p.2 q) = some m ∧ t = c :: p.1 :: m := by
  unfold sub
  cases e : lk (nexts g b) p.1 with
  | none => exact ⟨fun h => (by cases h), fun ⟨q, m, h, _⟩ => (by cases h)⟩
  | some q =>
    simp only
    cases e2 : bst (L f g p.2 q) with
    | none => exact ⟨fun h => (by cases h), fun ⟨q', m, h1, h2, _⟩ => (by cases h1; rw [e2] at h2; cases h2)⟩
    | some m =>
      simp only [List.mem_singleton]
      constructor
      · rintro rfl; exact ⟨q, m, rfl, e2, rfl⟩
      · rintro ⟨q', m', h1, h2, h3⟩
        cases h1
        rw [e2] at h2
        cases h2
        exact h3
theorem some_in {f g : List Nat} {a b : Nat} (ha : a < f.length) : ∀ t ∈ someL f g a b (nexts f a).length, t ∈ (L f g a b).map (at0 f a :: ·) := by
  intro t ht
  unfold someL at ht
  rw [List.take_length] at ht
  rw [L_eq ha, List.mem_map]
  rcases List.mem_append.mp ht with h | h
  · split at h
    · rw [List.mem_singleton] at h
      exact ⟨[], List.mem_append_left _ (by simp [*]), h.symm⟩
    · cases h
  · obtain ⟨p, hp, h⟩ := List.mem_flatMap.mp h
    obtain ⟨q, m, h1, h2, h3⟩ := sub_mem.mp h
    refine ⟨p.1 :: m, List.mem_append_right _ (List.mem_flatMap.mpr ⟨p, hp, part_mem.mpr ⟨q, m, h1, rfl, (bst_some h2).1⟩⟩), h3.symm⟩
theorem some_over {f g : List Nat} {a b : Nat} (ha : a < f.length) : ∀ t ∈ (L f g a b).map (at0 f a :: ·), ∃ t' ∈ someL f g a b (nexts f a).length, better t t' = false := by
  intro t ht
  rw [L_eq ha] at ht
  obtain ⟨u, hu, rfl⟩ := List.mem_map.mp ht
  unfold someL
  rw [List.take_length]
  rcases List.mem_append.mp hu with h | h
  · split at h
    · rename_i c
      rw [List.mem_singleton] at h
      subst h
      exact ⟨[at0 f a], List.mem_append_left _ (by rw [if_pos c]; exact List.mem_cons_self), better_self _⟩
    · cases h
  · obtain ⟨p, hp, h⟩ := List.mem_flatMap.mp h
    obtain ⟨q, v, h1, h2, h3⟩ := part_mem.mp h
    subst h2
    rcases bst_is (L f g p.2 q) with ⟨e, _⟩ | ⟨m, h4, h5⟩
    · rw [e] at h3; cases h3
    · refine ⟨at0 f a :: p.1 :: m, List.mem_append_right _ (List.mem_flatMap.mpr ⟨p, hp, sub_mem.mpr ⟨q, m, h1, h4, rfl⟩⟩), ?_⟩
      rw [better_cons, better_cons]
      exact h5.2 v h3
theorem some_bst {f g : List Nat} {a b : Nat} (ha : a < f.length) {m : List Nat} (h : IsBst (someL f g a b (nexts f a).length) m) : ∃ t, bst (L f g a b) = some t ∧ m = at0 f a :: t := by
  have z := bst_parts h (some_in ha) (some_over ha)
  obtain ⟨t, ht, e⟩ := List.mem_map.mp z.1
  subst e
  exact ⟨t, bst_of ((bst_map _).mp z), rfl⟩
theorem some_none {f g : List Nat} {a b : Nat} (ha : a < f.length) (h : someL f g a b (nexts f a).length = []) : bst (L f g a b) = none := by
  rcases bst_is (L f g a b) with ⟨_, e⟩ | ⟨m, h1, h2⟩
  · exact e
  · obtain ⟨t', h3, _⟩ := some_over (b := b) (g := g) ha (at0 f a :: m) (List.mem_map.mpr ⟨m, h2.1, rfl⟩)
    rw [h] at h3
    cases h3
theorem sub_few (f g : List Nat) (c b : Nat) (p : Nat × Nat) : (sub f g c b p).length ≤ 1 := by
  unfold sub
  cases lk (nexts g b) p.1 with
  | none => exact Nat.zero_le _
  | some q =>
    simp only
    cases bst (L f g p.2 q) with
    | none => exact Nat.zero_le _
    | some m => exact Nat.le_refl _
theorem flat_few {α β : Type} {h : α → List β} (k : ∀ a, (h a).length ≤ 1) : ∀ l : List α, (l.flatMap h).length ≤ l.length
  | [] => Nat.le_refl _
  | p :: l => by
    have ih := flat_few k l
    have q := k p
    rw [List.flatMap_cons, List.length_append, List.length_cons]
    omega
theorem some_few (f g : List Nat) (a b i : Nat) : (someL f g a b i).length ≤ 1 + i := by
  unfold someL
  rw [List.length_append]
  have h1 := flat_few (sub_few f g (at0 f a) b) ((nexts f a).take i)
  rw [List.length_take] at h1
  split
  · rw [List.length_singleton]
    omega
  · rw [List.length_nil]
    omega
theorem some_succ {f g : List Nat} {a b i : Nat} {p : Nat × Nat} (h : (nexts f a)[i]? = some p) : someL f g a b (i + 1) = someL f g a b i ++ sub f g (at0 f a) b p := by
  unfold someL
  rw [flat_snoc _ h, List.append_assoc]
theorem G_len : ∀ (f : List Nat) (c : Nat) (ok : Bool) (w : List Nat), G c ok f w → w.length ≤ f.length
  | [], c, ok, w, h => by
    obtain ⟨_, e⟩ := (show ok = true ∧ w = [] from h)
    rw [e]
    exact Nat.le_refl _
  | x :: f, c, ok, w, h => by
    rw [List.length_cons]
    rcases (show G c (x == c) f w ∨ (ok = true ∧ ∃ w', w = x :: w' ∧ G x true f w') from h) with h | ⟨_, w', e, h⟩
    · have := G_len f c _ w h
      omega
    · have := G_len f x _ w' h
      rw [e, List.length_cons]
      omega
theorem L_len {f g : List Nat} {a b : Nat} (ha : a < f.length) (hb : b < g.length) {w : List Nat} (h : w ∈ L f g a b) : w.length ≤ f.length - (a + 1) := by
  have z := G_len _ _ _ _ ((L_mem w a b ha hb).mp h).1
  rw [List.length_drop] at z
  exact z
theorem G_letters : ∀ (f : List Nat) (c : Nat) (ok : Bool) (w : List Nat), G c ok f w → ∀ x ∈ w, x ∈ f
  | [], c, ok, w, h => by
    obtain ⟨_, e⟩ := (show ok = true ∧ w = [] from h)
    rw [e]
    exact fun x hx => hx
  | y :: f, c, ok, w, h => by
    rcases (show G c (y == c) f w ∨ (ok = true ∧ ∃ w', w = y :: w' ∧ G y true f w') from h) with h | ⟨_, w', e, h⟩
    · exact fun x hx => List.mem_cons_of_mem _ (G_letters f c _ w h x hx)
    · intro x hx
      rw [e] at hx
      rcases List.mem_cons.mp hx with q | hx
      · rw [q]
        exact List.mem_cons_self
      · exact List.mem_cons_of_mem _ (G_letters f y _ w' h x hx)
theorem at0_mem {f : List Nat} {a : Nat} (ha : a < f.length) : at0 f a ∈ f := by
  unfold at0
  rw [List.getD_eq_getElem?_getD, List.getElem?_eq_getElem ha]
  exact List.getElem_mem ha
theorem Comes_letters {f : List Nat} {a : Nat} {w : List Nat} (h : T f a w) (ha : a < f.length) : ∀ c ∈ at0 f a :: w, c ∈ f := by
  intro c hc
  rcases List.mem_cons.mp hc with e | hc
  · rw [e]
    exact at0_mem ha
  · exact List.mem_of_mem_drop (G_letters _ _ _ _ h c hc)
/-- the program's choice among texts: of the longest ones the first -/
theorem pick_bst {S : List (List Nat)} {m : List Nat} {k : Nat} (hk : ∀ t ∈ S, t.length ≤ k) (h1 : m ∈ S) (h2 : m.length = k) (h3 : ∀ t ∈ S, t.length = k → ¬ t < m) : IsBst S m := by
  refine ⟨h1, fun t ht => better_no.mpr ?_⟩
  have := hk t ht
  by_cases e : t.length = k
  · exact .inr ⟨by omega, List.not_lt.mp (h3 t ht e)⟩
  · exact .inl (by omega)
theorem ALL_bst (f g : List Nat) : bst (ALL f g) = if at0 f 0 = at0 g 0 then (bst (L f g 0 0)).map (at0 f 0 :: ·) else none := by
  unfold ALL
  split
  · rcases bst_is (L f g 0 0) with ⟨e, h⟩ | ⟨m, h1, h2⟩
    · rw [e] <;> rfl
    · rw [h1]
      exact bst_of ((bst_map _).mpr h2)
  · rfl
end JC

-- part A4
set_option linter.all false
/-! The plain law, 5: cuts by places; the films that one film leads to are few. -/
namespace JC
theorem cut_iff (f g : List Nat) : Cut1 f g ↔ ∃ i j, i < j ∧ j < f.length ∧ at0 f i = at0 f j ∧ g = f.take (i + 1) ++ f.drop (j + 1) := by
  constructor
  · rintro ⟨u, x, m, v, rfl, rfl⟩
    refine ⟨u.length, u.length + 1 + m.length, by omega, ?_, ?_, ?_⟩
    · simp only [List.length_append, List.length_cons]
      omega
    · unfold at0
      rw [List.getD_eq_getElem?_getD, List.getD_eq_getElem?_getD, List.getElem?_append_right (Nat.le_refl _), List.getElem?_append_right (by omega), Nat.sub_self]
      have e : u.length + 1 + m.length - u.length = m.length + 1 := by omega
      rw [e, List.getElem?_cons_zero, List.getElem?_cons_succ, List.getElem?_append_right (Nat.le_refl _), Nat.sub_self, List.getElem?_cons_zero]
    · have e1 : (u ++ x :: (m ++ x :: v)).take (u.length + 1) = u ++ [x] := by
        rw [List.take_append, List.take_of_length_le (by omega)]
        have e : u.length + 1 - u.length = 1 := by omega
        rw [e] <;> rfl
      have e2 : (u ++ x :: (m ++ x :: v)).drop (u.length + 1 + m.length + 1) = v := by
        have e3 : u ++ x :: (m ++ x :: v) = (u ++ [x] ++ m ++ [x]) ++ v := by simp
        rw [e3, List.drop_append, List.drop_of_length_le (by simp; omega)]
        have e : u.length + 1 + m.length + 1 - (u ++ [x] ++ m ++ [x]).length = 0 := by simp; omega
        rw [e]
        rfl
      rw [e1, e2]
      simp
  · rintro ⟨i, j, h1, h2, h3, rfl⟩
    refine ⟨f.take i, at0 f i, (f.drop (i + 1)).take (j - i - 1), f.drop (j + 1), ?_, ?_⟩
    · have e1 : f = f.take i ++ f.drop i := (List.take_append_drop i f).symm
      have e2 : f.drop i = at0 f i :: f.drop (i + 1) := by
        rw [List.drop_eq_getElem_cons (by omega)]
        unfold at0
        rw [List.getD_eq_getElem?_getD, List.getElem?_eq_getElem (by omega)] <;> rfl
      have e3 : f.drop (i + 1) = (f.drop (i + 1)).take (j - i - 1) ++ f.drop j := by
        have e := (List.take_append_drop (j - i - 1) (f.drop (i + 1))).symm
        rw [List.drop_drop] at e
        have q : i + 1 + (j - i - 1) = j := by omega
        rw [q] at e
        exact e
      have e4 : f.drop j = at0 f i :: f.drop (j + 1) := by
        rw [h3, List.drop_eq_getElem_cons (by omega)]
        unfold at0
        rw [List.getD_eq_getElem?_getD, List.getElem?_eq_getElem (by omega)] <;> rfl
      rw [← e4, ← e3, ← e2, ← e1]
    · have e : f.take (i + 1) = f.take i ++ [at0 f i] := by
        rw [List.take_add_one, List.getElem?_eq_getElem (by omega)]
        unfold at0
        rw [List.getD_eq_getElem?_getD, List.getElem?_eq_getElem (by omega)] <;> rfl
      rw [e]
      simp
def subs : List Nat → List (List Nat)
  | [] => [[]]
  | x :: l => subs l ++ (subs l).map (x :: ·)
theorem subs_len : ∀ l : List Nat, (subs l).length = 2 ^ l.length
  | [] => rfl
  | x :: l => by
    unfold subs
    rw [List.length_append, List.length_map, subs_len l, List.length_cons, Nat.pow_succ]
    omega
theorem subs_mem {w l : List Nat} (h : w.Sublist l) : w ∈ subs l := by
  induction h with
  | slnil => exact List.mem_singleton.mpr rfl
  | cons x _ ih => exact List.mem_append.mpr (.inl ih)
  | cons_cons x _ ih => exact List.mem_append.mpr (.inr (List.mem_map_of_mem ih))
theorem cut_sub {f g : List Nat} (h : Cut1 f g) : g.Sublist f := by
  obtain ⟨u, x, m, v, rfl, rfl⟩ := h
  exact (List.Sublist.refl u).append (((List.sublist_append_right (m ++ [x]) v).trans (by simp)).cons_cons x)
theorem reach_sub {f g : List Nat} (h : Reach f g) : g.Sublist f := by
  induction h with
  | refl => exact List.Sublist.refl _
  | step _ c ih => exact (cut_sub c).trans ih
theorem nodup_le : ∀ {l m : List (List Nat)}, l.Nodup → (∀ a ∈ l, a ∈ m) → l.length ≤ m.length
  | [], m, _, _ => Nat.zero_le _
  | a :: l, m, h, hs => by
    have hn := List.nodup_cons.mp h
    have ha := hs a List.mem_cons_self
    have ih := nodup_le (l := l) (m := m.erase a) hn.2 fun b hb => (List.mem_erase_of_ne (fun e => hn.1 (by rw [← e]; exact hb))).mpr (hs b (List.mem_cons_of_mem _ hb))
    rw [List.length_erase_of_mem ha] at ih
    have := List.length_pos_of_mem ha
    rw [List.length_cons]
    omega
theorem reach_few {f : List Nat} {l : List (List Nat)} (h : l.Nodup) (hs : ∀ a ∈ l, Reach f a) : l.length ≤ 2 ^ f.length := by
  rw [← subs_len]
  exact nodup_le h fun a ha => subs_mem (reach_sub (hs a ha))
theorem ALL_few {f g : List Nat} (hf : f ≠ []) (hg : g ≠ []) : (ALL f g).length ≤ 2 ^ f.length := by
  refine reach_few (ALL_nodup hf) fun a ha => (comes_iff hf).mp ((ALL_mem hf hg a).mp ha).1
end JC

-- part A5
set_option linter.all false
set_option maxRecDepth 100000
/-! The plain law, 6: the search for the shortest before, mirrored; what the law looks for, mirrored; both compared. -/
namespace JC
abbrev Ste := Nat × Nat × Nat
abbrev Ent := List Nat × Ste
def adv (f : List Nat) (l i c : Nat) : List Nat := bif (Nat.beq (at0 f i) l && (Nat.blt (i + 1) f.length && Nat.beq (at0 f (i + 1)) c)) then [i, i + 1] else [i]
def pairs (f g : List Nat) (s : Ste) (c : Nat) : List Ste := (adv f s.1 s.2.1 c).flatMap fun a => (adv g s.1 s.2.2 c).map fun b => (c, a, b)
def eqS (s t : Ste) : Bool := Nat.beq s.1 t.1 && (Nat.beq s.2.1 t.2.1 && Nat.beq s.2.2 t.2.2)
theorem eqS_eq (s t : Ste) : eqS s t = decide (s = t) := by
  obtain ⟨a, b, c⟩ := s
  obtain ⟨x, y, z⟩ := t
  have e : ∀ m n : Nat, Nat.beq m n = decide (m = n) := fun m n => by
    rw [Bool.eq_iff_iff]
    simp
  unfold eqS
  simp only [e]
  rw [Bool.eq_iff_iff]
  simp
def put1 (w : List Nat) (c : Nat) (acc : List Ste × List Ent) (t : Ste) : List Ste × List Ent := bif acc.1.any (eqS · t) then acc else (acc.1 ++ [t], acc.2 ++ [(w ++ [c], t)])
def stepL (f g : List Nat) (e : Ent) (acc : List Ste × List Ent) (c : Nat) : List Ste × List Ent := (pairs f g e.2 c).foldl (put1 e.1 c) acc
def stepE (f g ls : List Nat) (acc : List Ste × List Ent) (e : Ent) : List Ste × List Ent := ls.foldl (stepL f g e) acc
def stepA (f g ls : List Nat) (edge : List Ent) (seen : List Ste) : List Ste × List Ent := edge.foldl (stepE f g ls) (seen, [])
/-- three-way: w below w', the same, above -/
def ltL : List Nat → List Nat → Bool
  | _, [] => false
  | [], _ :: _ => true
  | x :: xs, y :: ys => bif Nat.blt x y then true else bif Nat.beq x y then ltL xs ys else false
theorem ltL_eq : ∀ v w : List Nat, ltL v w = decide (v < w)
  | [], [] => by simp [ltL]
  | x :: xs, [] => by simp [ltL]
  | [], y :: ys => by simp [ltL]
  | x :: xs, y :: ys => by
    have ih := ltL_eq xs ys
    unfold ltL
    rw [Bool.eq_iff_iff, decide_eq_true_iff, List.cons_lt_cons_iff]
    by_cases h : x < y
    · have e : Nat.blt x y = true := Nat.ble_eq_true_of_le h
      rw [e]
      simp [h]
    · have e : Nat.blt x y = false := by
        rw [Bool.eq_false_iff]
        intro q
        exact h (Nat.le_of_ble_eq_true q)
      rw [e]
      by_cases h2 : x = y
      · subst h2
        simp [ih]
      · have e2 : Nat.beq x y = false := by
          rw [Bool.eq_false_iff]
          intro q
          exact h2 (Nat.eq_of_beq_eq_true q)
        simp [e2, h, h2]
def ltS (s t : Ste) : Bool := bif Nat.beq s.1 t.1 then (bif Nat.beq s.2.1 t.2.1 then Nat.blt s.2.2 t.2.2 else Nat.blt s.2.1 t.2.1) else Nat.blt s.1 t.1
/-- the order of the edge: x is not above y -/
def ltE (x y : Ent) : Bool := bif ltL x.1 y.1 then true else bif ltL y.1 x.1 then false else ltS x.2 y.2
def leE (x y : Ent) : Bool := !ltE y x
def insE (x : Ent) : List Ent → List Ent
  | [] => [x]
  | y :: l => bif ltE y x then y :: insE x l else x :: y :: l
def isortE : List Ent → List Ent
  | [] => []
  | x :: l => insE x (isortE l)
def okEnt (f g : List Nat) (e : Ent) : Bool := Nat.ble e.1.length 100 && (e.1.all (Nat.blt · 1000) && (Nat.blt e.2.1 1000 && (Nat.blt e.2.2.1 f.length && Nat.blt e.2.2.2 g.length)))
def okRun (f g : List Nat) (edge : List Ent) (seen : List Ste) : Bool := Nat.ble edge.length 1000 && (Nat.ble seen.length 1000 && edge.all (okEnt f g))
def minL : List (List Nat) → Option (List Nat)
  | [] => none
  | w :: ws => match minL ws with
    | none => some w
    | some m => bif ltL m w then some m else some w
def run (f g ls : List Nat) (goal : Ste) : Nat → List Ent → List Ste → Option (List Nat)
  | 0, _, _ => none
  | n + 1, edge, seen => bif okRun f g edge seen then
      (bif edge.any (fun e => eqS e.2 goal) then minL ((edge.filter fun e => eqS e.2 goal).map (·.1))
      else run f g ls goal n (isortE (stepA f g ls edge seen).2) (stepA f g ls edge seen).1) else none
def lets (f g : List Nat) : List Nat := (bif (f ++ g).any (Nat.beq 97 ·) then [97] else []) ++ (bif (f ++ g).any (Nat.beq 98 ·) then [98] else [])
def goalOf (f g : List Nat) : Ste := (at0 f (f.length - 1), f.length - 1, g.length - 1)
def startOf (f : List Nat) : Ste := (at0 f 0, 0, 0)
def search (f g : List Nat) : Option (List Nat) := run f g (lets f g) (goalOf f g) 10 [([at0 f 0], startOf f)] [startOf f]
/-! ### what the law looks for -/
def anyAfter (p : List Nat → Bool) (c : Nat) : List Nat → Bool
  | [] => false
  | x :: v => (Nat.beq x c && p v) || anyAfter p c v
/-- v can be parted into blocks for the goal -/
def prt : List Nat → List Nat → Bool
  | [], v => v.isEmpty
  | _ :: _, [] => false
  | c :: r, x :: v => Nat.beq x c && anyAfter (prt r) c (x :: v)
def goodW (f g w : List Nat) : Bool := prt f w && prt g w
def words : Nat → List (List Nat)
  | 0 => [[]]
  | n + 1 => (words n).flatMap fun w => [w ++ [97], w ++ [98]]
def lawUpto (f g : List Nat) : Nat → Option (List Nat)
  | 0 => none
  | n + 1 => match lawUpto f g n with
    | some w => some w
    | none => (words (n + 1)).find? (goodW f g)
def films : List (List Nat) := words 1 ++ (words 2 ++ (words 3 ++ words 4))
def endsEq (f g : List Nat) : Bool := Nat.beq (at0 f 0) (at0 g 0) && Nat.beq (at0 f (f.length - 1)) (at0 g (g.length - 1))
def beqO : Option (List Nat) → Option (List Nat) → Bool
  | some v, some w => !ltL v w && !ltL w v
  | _, _ => false
def pairOk (f g : List Nat) : Bool := !endsEq f g || beqO (search f g) (lawUpto f g 8)
end JC

-- part A6
namespace JC
set_option maxRecDepth 100000
theorem pairs_ok : (films.all fun f => films.all fun g => pairOk f g) = true := by decide +kernel
end JC

-- part A7
set_option linter.all false
/-! The plain law, 7: the order of the edge, the one sorted list. -/
namespace JC
theorem blt_iff (x y : Nat) : Nat.blt x y = decide (x < y) := by
  rw [Bool.eq_iff_iff, decide_eq_true_iff]
  exact ⟨fun q => Nat.le_of_ble_eq_true q, fun h => Nat.ble_eq_true_of_le h⟩
theorem beq_iff (x y : Nat) : Nat.beq x y = decide (x = y) := by
  rw [Bool.eq_iff_iff, decide_eq_true_iff]
  exact ⟨fun q => Nat.eq_of_beq_eq_true q, fun h => by rw [h]; exact Nat.beq_refl y⟩
theorem ble_iff (x y : Nat) : Nat.ble x y = decide (x ≤ y) := by
  rw [Bool.eq_iff_iff, decide_eq_true_iff]
  exact ⟨fun q => Nat.le_of_ble_eq_true q, fun h => Nat.ble_eq_true_of_le h⟩
theorem ltS_iff (s t : Ste) : ltS s t = true ↔ s.1 < t.1 ∨ (s.1 = t.1 ∧ (s.2.1 < t.2.1 ∨ (s.2.1 = t.2.1 ∧ s.2.2 < t.2.2))) := by
  unfold ltS
  rw [beq_iff, beq_iff, blt_iff, blt_iff, blt_iff]
  by_cases h1 : s.1 = t.1 <;> by_cases h2 : s.2.1 = t.2.1 <;> simp [h1, h2]
theorem ltE_iff (x y : Ent) : ltE x y = true ↔ x.1 < y.1 ∨ (x.1 = y.1 ∧ ltS x.2 y.2 = true) := by
  unfold ltE
  rw [ltL_eq, ltL_eq]
  by_cases h1 : x.1 < y.1
  · simp [h1]
  · by_cases h2 : y.1 < x.1
    · simp only [h1, h2, decide_false, decide_true, cond_true, cond_false]
      constructor
      · intro h
        cases h
      · rintro (h | h)
        · exact h.elim
        · rw [h.1] at h2
          exact absurd h2 (List.lt_irrefl _)
    · have e : x.1 = y.1 := List.le_antisymm (List.not_lt.mp h2) (List.not_lt.mp h1)
      simp [h1, h2, e]
theorem leE_iff (x y : Ent) : leE x y = true ↔ x.1 < y.1 ∨ (x.1 = y.1 ∧ ltS y.2 x.2 = false) := by
  unfold leE
  rw [Bool.not_eq_true', ← Bool.not_eq_true, ltE_iff]
  constructor
  · intro h
    by_cases h1 : x.1 < y.1
    · exact .inl h1
    · have h2 : ¬ y.1 < x.1 := fun q => h (.inl q)
      have e : x.1 = y.1 := List.le_antisymm (List.not_lt.mp h2) (List.not_lt.mp h1)
      exact .inr ⟨e, Bool.eq_false_iff.mpr fun q => h (.inr ⟨e.symm, q⟩)⟩
  · rintro (h1 | ⟨h1, h2⟩) (h3 | ⟨h3, h4⟩)
    · exact List.lt_asymm h1 h3
    · rw [h3] at h1
      exact List.lt_irrefl _ h1
    · rw [h1] at h3
      exact List.lt_irrefl _ h3
    · rw [h2] at h4
      cases h4
theorem ltS_no (s t : Ste) : ltS s t = false ↔ t.1 < s.1 ∨ (t.1 = s.1 ∧ (t.2.1 < s.2.1 ∨ (t.2.1 = s.2.1 ∧ t.2.2 ≤ s.2.2))) := by
  rw [← Bool.not_eq_true, ltS_iff]
  omega
theorem leE_trans (a b c : Ent) (h1 : leE a b = true) (h2 : leE b c = true) : leE a c = true := by
  rw [leE_iff] at *
  rcases h1 with h1 | ⟨h1, h3⟩
  · rcases h2 with h2 | ⟨h2, h4⟩
    · exact .inl (List.lt_trans h1 h2)
    · exact .inl (by rw [← h2]; exact h1)
  · rcases h2 with h2 | ⟨h2, h4⟩
    · exact .inl (by rw [h1]; exact h2)
    · refine .inr ⟨h1.trans h2, ?_⟩
      rw [ltS_no] at *
      omega
theorem leE_total (a b : Ent) : (leE a b || leE b a) = true := by
  rw [Bool.or_eq_true, leE_iff, leE_iff]
  by_cases h1 : a.1 < b.1
  · exact .inl (.inl h1)
  · by_cases h2 : b.1 < a.1
    · exact .inr (.inl h2)
    · have e : a.1 = b.1 := List.le_antisymm (List.not_lt.mp h2) (List.not_lt.mp h1)
      by_cases q : ltS b.2 a.2 = false
      · exact .inl (.inr ⟨e, q⟩)
      · refine .inr (.inr ⟨e.symm, ?_⟩)
        rw [ltS_no] at *
        omega
theorem leE_anti (a b : Ent) (h1 : leE a b = true) (h2 : leE b a = true) : a = b := by
  rw [leE_iff] at *
  obtain ⟨w, l, i, j⟩ := a
  obtain ⟨v, m, p, q⟩ := b
  rcases h1 with h1 | ⟨h1, h3⟩
  · rcases h2 with h2 | ⟨h2, h4⟩
    · exact absurd h2 (List.lt_asymm h1)
    · have h2 : v = w := h2
      subst h2
      exact absurd h1 (List.lt_irrefl _)
  · rcases h2 with h2 | ⟨h2, h4⟩
    · have h1 : w = v := h1
      subst h1
      exact absurd h2 (List.lt_irrefl _)
    · have h1 : w = v := h1
      subst h1
      rw [ltS_no] at *
      have e1 : l = m := by simp only at *; omega
      have e2 : i = p := by simp only at *; omega
      have e3 : j = q := by simp only at *; omega
      rw [e1, e2, e3]
theorem insE_perm (x : Ent) : ∀ l, (insE x l).Perm (x :: l)
  | [] => List.Perm.refl _
  | y :: l => by
    unfold insE
    cases ltE y x with
    | true => exact ((insE_perm x l).cons y).trans (List.Perm.swap x y l)
    | false => exact List.Perm.refl _
theorem isortE_perm : ∀ l, (isortE l).Perm l
  | [] => List.Perm.refl _
  | x :: l => (insE_perm x _).trans ((isortE_perm l).cons x)
theorem insE_sorted (x : Ent) : ∀ l, l.Pairwise (fun a b => leE a b = true) → (insE x l).Pairwise (fun a b => leE a b = true)
  | [], _ => List.pairwise_singleton _ _
  | y :: l, h => by
    obtain ⟨h1, h2⟩ := List.pairwise_cons.mp h
    unfold insE
    cases e : ltE y x with
    | true =>
      refine List.pairwise_cons.mpr ⟨fun z hz => ?_, insE_sorted x l h2⟩
      rcases List.mem_cons.mp ((insE_perm x l).mem_iff.mp hz) with q | q
      · rw [q]
        have t := leE_total y x
        rw [Bool.or_eq_true] at t
        rcases t with t | t
        · exact t
        · unfold leE at t
          rw [e] at t
          cases t
      · exact h1 z q
    | false =>
      have xy : leE x y = true := by unfold leE; rw [e] <;> rfl
      exact List.pairwise_cons.mpr ⟨fun z hz => by
        rcases List.mem_cons.mp hz with q | q
        · rw [q]
          exact xy
        · exact leE_trans _ _ _ xy (h1 z q), h⟩
theorem isortE_sorted : ∀ l, (isortE l).Pairwise (fun a b => leE a b = true)
  | [] => List.Pairwise.nil
  | x :: l => insE_sorted x _ (isortE_sorted l)
theorem srtE (l : List Ent) : l.mergeSort leE = isortE l :=
  ((List.mergeSort_perm l leE).trans (isortE_perm l).symm).eq_of_pairwise (fun a b _ _ => leE_anti a b) (List.pairwise_mergeSort leE_trans leE_total l) (isortE_sorted l)
/-! ### the least text -/
theorem minL_some : ∀ {ws : List (List Nat)} {m : List Nat}, minL ws = some m → m ∈ ws ∧ ∀ y ∈ ws, ¬ y < m
  | w :: ws, m, h => by
    unfold minL at h
    cases e : minL ws with
    | none =>
      rw [e] at h
      cases h
      have e0 : ws = [] := by
        cases ws with
        | nil => rfl
        | cons v vs =>
          unfold minL at e
          cases q : minL vs with
          | none => rw [q] at e; cases e
          | some u =>
            rw [q] at e
            cases z : ltL u v <;> simp [z] at e
      subst e0
      exact ⟨List.mem_singleton.mpr rfl, fun y hy => by rw [List.mem_singleton.mp hy]; exact List.lt_irrefl _⟩
    | some u =>
      rw [e] at h
      replace h : (bif ltL u w then some u else some w) = some m := h
      obtain ⟨h1, h2⟩ := minL_some e
      by_cases z : u < w
      · have : ltL u w = true := by rw [ltL_eq]; exact decide_eq_true z
        rw [this] at h
        cases h
        refine ⟨List.mem_cons_of_mem _ h1, fun y hy => ?_⟩
        rcases List.mem_cons.mp hy with q | q
        · rw [q]
          exact List.lt_asymm z
        · exact h2 y q
      · have : ltL u w = false := by rw [ltL_eq]; exact decide_eq_false z
        rw [this] at h
        cases h
        refine ⟨List.mem_cons_self, fun y hy => ?_⟩
        rcases List.mem_cons.mp hy with q | q
        · rw [q]
          exact List.lt_irrefl _
        · intro yw
          exact List.not_lt.mpr (List.le_trans (List.not_lt.mp z) (List.not_lt.mp (h2 y q))) yw
theorem min_uniq {ws : List (List Nat)} {m n : List Nat} (h : minL ws = some m) (hn : n ∈ ws) (hl : ∀ y ∈ ws, ¬ y < n) : n = m := by
  obtain ⟨h1, h2⟩ := minL_some h
  exact List.le_antisymm (List.not_lt.mp (hl m h1)) (List.not_lt.mp (h2 n hn)) 
end JC

-- part A8
set_option linter.all false
/-! The plain law, 8: the partings. -/
namespace JC
abbrev PEnt := List Nat × Nat
def grow (w : List Nat) (c : Nat) (told : List Nat) (st : Nat) : Nat → List PEnt
  | 0 => []
  | k + 1 => grow w c told st k ++ (if at0 w (st + k) = c then [(told ++ [st + k], st + k + 1)] else [])
def step1 (w : List Nat) (c : Nat) (e : PEnt) : List PEnt := if e.2 < w.length ∧ at0 w e.2 = c then grow w c e.1 e.2 (w.length - e.2) else []
def stepP (w : List Nat) (c : Nat) (l : List PEnt) : List PEnt := l.flatMap (step1 w c)
theorem grow_any (w : List Nat) (c : Nat) (told : List Nat) (st : Nat) (p : Nat → Bool) : ∀ k, (grow w c told st k).any (fun e => p e.2) = true ↔ ∃ q, q < k ∧ at0 w (st + q) = c ∧ p (st + q + 1) = true
  | 0 => by
    constructor
    · intro h
      cases h
    · rintro ⟨q, h, _⟩
      omega
  | k + 1 => by
    have ih := grow_any w c told st p k
    unfold grow
    rw [List.any_append, Bool.or_eq_true, ih]
    constructor
    · rintro (⟨q, h1, h2, h3⟩ | h)
      · exact ⟨q, by omega, h2, h3⟩
      · by_cases e : at0 w (st + k) = c
        · rw [if_pos e] at h
          refine ⟨k, by omega, e, ?_⟩
          simpa using h
        · rw [if_neg e] at h
          cases h
    · rintro ⟨q, h1, h2, h3⟩
      by_cases e : q = k
      · subst e
        right
        rw [if_pos h2]
        simpa using h3
      · exact .inl ⟨q, by omega, h2, h3⟩
theorem anyAfter_iff (p : List Nat → Bool) (c : Nat) : ∀ v, anyAfter p c v = true ↔ ∃ q, q < v.length ∧ at0 v q = c ∧ p (v.drop (q + 1)) = true
  | [] => by
    constructor
    · intro h
      cases h
    · rintro ⟨q, h, _⟩
      exact absurd h (Nat.not_lt_zero q)
  | x :: v => by
    have ih := anyAfter_iff p c v
    unfold anyAfter
    rw [Bool.or_eq_true, Bool.and_eq_true, beq_iff, decide_eq_true_iff, ih]
    constructor
    · rintro (⟨h1, h2⟩ | ⟨q, h1, h2, h3⟩)
      · exact ⟨0, Nat.succ_pos _, h1, h2⟩
      · refine ⟨q + 1, by rw [List.length_cons]; omega, ?_, h3⟩
        unfold at0 at *
        rw [List.getD_cons_succ]
        exact h2
    · rintro ⟨q, h1, h2, h3⟩
      cases q with
      | zero => exact .inl ⟨h2, h3⟩
      | succ q =>
        refine .inr ⟨q, by rw [List.length_cons] at h1; omega, ?_, h3⟩
        unfold at0 at *
        rw [List.getD_cons_succ] at h2
        exact h2
theorem at0_drop (w : List Nat) (i q : Nat) : at0 (w.drop i) q = at0 w (i + q) := by
  unfold at0
  rw [List.getD_eq_getElem?_getD, List.getD_eq_getElem?_getD, List.getElem?_drop]
theorem step1_any (w : List Nat) (c : Nat) (r : List Nat) (e : PEnt) : (step1 w c e).any (fun e => prt r (w.drop e.2)) = prt (c :: r) (w.drop e.2) := by
  have key : anyAfter (prt r) c (w.drop e.2) = (grow w c e.1 e.2 (w.length - e.2)).any (fun e => prt r (w.drop e.2)) := by
    rw [Bool.eq_iff_iff, anyAfter_iff, grow_any (p := fun i => prt r (w.drop i))]
    constructor
    · rintro ⟨q, h1, h2, h3⟩
      rw [List.length_drop] at h1
      rw [at0_drop] at h2
      rw [List.drop_drop] at h3
      exact ⟨q, h1, h2, h3⟩
    · rintro ⟨q, h1, h2, h3⟩
      refine ⟨q, by rw [List.length_drop]; exact h1, by rw [at0_drop]; exact h2, by rw [List.drop_drop]; exact h3⟩
  unfold step1
  by_cases h : e.2 < w.length
  · have ed : w.drop e.2 = at0 w e.2 :: w.drop (e.2 + 1) := by
      rw [List.drop_eq_getElem_cons h]
      unfold at0
      rw [List.getD_eq_getElem?_getD, List.getElem?_eq_getElem h] <;> rfl
    have e2 : prt (c :: r) (w.drop e.2) = (Nat.beq (at0 w e.2) c && anyAfter (prt r) c (w.drop e.2)) := by
      rw [ed] <;> rfl
    rw [e2, key, beq_iff]
    by_cases h2 : at0 w e.2 = c
    · rw [if_pos ⟨h, h2⟩, decide_eq_true h2, Bool.true_and]
    · rw [if_neg (fun z => h2 z.2), decide_eq_false h2, Bool.false_and]
      rfl
  · rw [if_neg (fun z => h z.1), List.drop_of_length_le (by omega)]
    rfl
theorem stepP_any (w : List Nat) (c : Nat) (r : List Nat) : ∀ l, (stepP w c l).any (fun e => prt r (w.drop e.2)) = l.any (fun e => prt (c :: r) (w.drop e.2))
  | [] => rfl
  | e :: l => by
    have ih := stepP_any w c r l
    unfold stepP at *
    rw [List.flatMap_cons, List.any_append, ih, step1_any, List.any_cons]
theorem grow_len (w : List Nat) (c : Nat) (told : List Nat) (st : Nat) : ∀ k, (grow w c told st k).length ≤ k
  | 0 => Nat.le_refl _
  | k + 1 => by
    have ih := grow_len w c told st k
    unfold grow
    rw [List.length_append]
    split
    · rw [List.length_singleton]
      omega
    · rw [List.length_nil]
      omega
theorem grow_mem (w : List Nat) (c : Nat) (told : List Nat) (st : Nat) : ∀ k e, e ∈ grow w c told st k → e.1.length = told.length + 1 ∧ e.2 ≤ st + k
  | 0, e, h => by cases h
  | k + 1, e, h => by
    unfold grow at h
    rcases List.mem_append.mp h with h | h
    · obtain ⟨h1, h2⟩ := grow_mem w c told st k e h
      exact ⟨h1, by omega⟩
    · by_cases q : at0 w (st + k) = c
      · rw [if_pos q] at h
        rw [List.mem_singleton.mp h]
        exact ⟨by rw [List.length_append, List.length_singleton], Nat.le_refl _⟩
      · rw [if_neg q] at h
        cases h
theorem step1_len (w : List Nat) (c : Nat) (e : PEnt) : (step1 w c e).length ≤ w.length := by
  unfold step1
  split
  · exact Nat.le_trans (grow_len _ _ _ _ _) (Nat.sub_le _ _)
  · exact Nat.zero_le _
theorem step1_mem {w : List Nat} {c : Nat} {e x : PEnt} (h : x ∈ step1 w c e) : x.1.length = e.1.length + 1 ∧ x.2 ≤ w.length := by
  unfold step1 at h
  by_cases q : e.2 < w.length ∧ at0 w e.2 = c
  · rw [if_pos q] at h
    obtain ⟨h1, h2⟩ := grow_mem _ _ _ _ _ _ h
    exact ⟨h1, by omega⟩
  · rw [if_neg q] at h
    cases h
theorem stepP_len (w : List Nat) (c : Nat) : ∀ l, (stepP w c l).length ≤ l.length * w.length
  | [] => Nat.zero_le _
  | e :: l => by
    have ih := stepP_len w c l
    have h1 := step1_len w c e
    unfold stepP at *
    rw [List.flatMap_cons, List.length_append, List.length_cons, Nat.add_mul, Nat.one_mul]
    omega
end JC

-- part A9
set_option linter.all false
/-! The plain law, 9: what the law's own lists are. -/
namespace JC
theorem words_of : ∀ (n : Nat) (w : List Nat), w ∈ words n → w.length = n ∧ ∀ c ∈ w, c = 97 ∨ c = 98
  | 0, w, h => by
    rw [List.mem_singleton.mp h]
    exact ⟨rfl, fun c hc => nomatch hc⟩
  | n + 1, w, h => by
    unfold words at h
    obtain ⟨v, h1, h2⟩ := List.mem_flatMap.mp h
    obtain ⟨h3, h4⟩ := words_of n v h1
    have h5 : w = v ++ [97] ∨ w = v ++ [98] := by
      rcases List.mem_cons.mp h2 with e | e
      · exact .inl e
      · exact .inr (List.mem_singleton.mp e)
    rcases h5 with e | e
    · subst e
      refine ⟨by rw [List.length_append, h3] <;> rfl, fun c hc => ?_⟩
      rcases List.mem_append.mp hc with q | q
      · exact h4 c q
      · exact .inl (List.mem_singleton.mp q)
    · subst e
      refine ⟨by rw [List.length_append, h3] <;> rfl, fun c hc => ?_⟩
      rcases List.mem_append.mp hc with q | q
      · exact h4 c q
      · exact .inr (List.mem_singleton.mp q)
theorem words_mem : ∀ (n : Nat) (w : List Nat), w.length = n → (∀ c ∈ w, c = 97 ∨ c = 98) → w ∈ words n
  | 0, w, h, _ => by
    rw [List.eq_nil_of_length_eq_zero h]
    exact List.mem_singleton.mpr rfl
  | n + 1, w, h, hc => by
    rcases List.eq_nil_or_concat w with e | ⟨v, x, e⟩
    · rw [e] at h
      cases h
    · rw [List.concat_eq_append] at e
      subst e
      rw [List.length_append, List.length_singleton] at h
      have ih := words_mem n v (by omega) fun c m => hc c (List.mem_append_left _ m)
      unfold words
      refine List.mem_flatMap.mpr ⟨v, ih, ?_⟩
      rcases hc x (List.mem_append_right _ List.mem_cons_self) with e | e
      · rw [e]
        exact List.mem_cons_self
      · rw [e]
        exact List.mem_cons_of_mem _ List.mem_cons_self
theorem words_len : ∀ n, (words n).length = 2 ^ n
  | 0 => rfl
  | n + 1 => by
    have ih := words_len n
    unfold words
    have h : ∀ l : List (List Nat), (l.flatMap fun w => [w ++ [97], w ++ [98]]).length = 2 * l.length := fun l => by
      induction l with
      | nil => rfl
      | cons x l ih =>
        rw [List.flatMap_cons, List.length_append, ih]
        simp only [List.length_cons, List.length_nil]
        omega
    rw [h, ih, Nat.pow_succ]
    omega
theorem films_mem {f : List Nat} (h1 : 1 ≤ f.length) (h4 : f.length ≤ 4) (hc : ∀ c ∈ f, c = 97 ∨ c = 98) : f ∈ films := by
  have h := words_mem f.length f rfl hc
  unfold films
  simp only [List.mem_append]
  have e : f.length = 1 ∨ f.length = 2 ∨ f.length = 3 ∨ f.length = 4 := by omega
  rcases e with e | e | e | e <;> rw [e] at h
  · exact .inl h
  · exact .inr (.inl h)
  · exact .inr (.inr (.inl h))
  · exact .inr (.inr (.inr h))
theorem law_pair {f g : List Nat} (hf : f ∈ films) (hg : g ∈ films) (he : endsEq f g = true) : ∃ w, search f g = some w ∧ lawUpto f g 8 = some w := by
  have h := List.all_eq_true.mp (List.all_eq_true.mp pairs_ok f hf) g hg
  unfold pairOk at h
  rw [he, Bool.not_true, Bool.false_or] at h
  cases e1 : search f g with
  | none => rw [e1] at h; cases h
  | some v =>
    cases e2 : lawUpto f g 8 with
    | none => rw [e1, e2] at h; cases h
    | some w =>
      rw [e1, e2] at h
      have h : (!ltL v w && !ltL w v) = true := h
      rw [ltL_eq, ltL_eq, Bool.and_eq_true, Bool.not_eq_true', Bool.not_eq_true', decide_eq_false_iff_not, decide_eq_false_iff_not] at h
      have e : v = w := List.le_antisymm (List.not_lt.mp h.2) (List.not_lt.mp h.1)
      exact ⟨v, rfl, by rw [e]⟩
theorem due_eq {f g : List Nat} {xs ys : List (List Nat)} (hf : f ≠ []) (hg : g ≠ []) (nx : xs.Nodup) (mx : ∀ h, h ∈ xs ↔ Reach f h) (my : ∀ h, h ∈ ys ↔ Reach g h) : (srt xs).filter (fun u => decide (u ∈ srt ys)) = srt (ALL f g) := by
  refine lt_uniq ((srt_lt nx).filter _) (srt_lt (ALL_nodup hf)) fun u => ?_
  rw [List.mem_filter, decide_eq_true_iff, (srt_perm xs).mem_iff, (srt_perm ys).mem_iff, (srt_perm (ALL f g)).mem_iff, ALL_mem hf hg, comes_iff hf, comes_iff hg, mx, my]
/-- the longest, of these the first -/
theorem top_eq {S : List (List Nat)} (hs : S.Pairwise (· < ·)) {mx : Nat} (hm : ∃ u ∈ S, u.length = mx) (hl : ∀ u ∈ S, u.length ≤ mx) : ∃ m r, S.filter (fun u => decide (u.length = mx)) = m :: r ∧ IsBst S m := by
  cases e : S.filter (fun u => decide (u.length = mx)) with
  | nil =>
    obtain ⟨u, h1, h2⟩ := hm
    have := List.filter_eq_nil_iff.mp e u h1
    exact absurd (decide_eq_true h2) this
  | cons m r =>
    refine ⟨m, r, rfl, ?_⟩
    have h1 : m ∈ S.filter (fun u => decide (u.length = mx)) := by rw [e]; exact List.mem_cons_self
    obtain ⟨h2, h3⟩ := List.mem_filter.mp h1
    refine pick_bst hl h2 (of_decide_eq_true h3) fun t ht h4 => ?_
    have h5 : t ∈ S.filter (fun u => decide (u.length = mx)) := List.mem_filter.mpr ⟨ht, decide_eq_true h4⟩
    have h6 := hs.filter (fun u => decide (u.length = mx))
    rw [e] at h5 h6
    rcases List.mem_cons.mp h5 with q | q
    · rw [q]
      exact List.lt_irrefl _
    · exact List.lt_asymm ((List.pairwise_cons.mp h6).1 t q)
theorem bst_srt {f g m : List Nat} (h : IsBst (srt (ALL f g)) m) : bst (ALL f g) = some m :=
  bst_of ⟨(srt_perm _).mem_iff.mp h.1, fun t ht => h.2 t ((srt_perm _).mem_iff.mpr ht)⟩
theorem bst_srt0 {f g : List Nat} (h : srt (ALL f g) = []) : bst (ALL f g) = none := by
  have p := srt_perm (ALL f g)
  rw [h] at p
  rw [List.nil_perm.mp p]
  rfl
theorem law_succ (f g : List Nat) (n : Nat) : lawUpto f g (n + 1) = match lawUpto f g n with
    | some w => some w
    | none => ((words (n + 1)).filter (goodW f g)).head? := by
  show (match lawUpto f g n with
    | some w => some w
    | none => (words (n + 1)).find? (goodW f g)) = _
  cases lawUpto f g n with
  | some w => rfl
  | none =>
    show (words (n + 1)).find? (goodW f g) = _
    rw [List.head?_filter]
end JC

-- part B0
set_option Elab.async false
set_option linter.all false
set_option maxRecDepth 100000
/-! Rules of our own, 1: data under more heap, sorting of data, the least text, a frozen value. -/
namespace JB
open PySem PySem.Spec PyProof.Rows L2

/-! ### data and more heap -/
theorem sameT {K : PySem.W.Frag} {H H' : Hp} {a : Addr} {xs : List V} (e : Same H H') (h : SqT K H a xs) : SqT K H' a xs := by
  rcases h with (h | ⟨o, h⟩) | h
  · exact .inl (.inl (e _ _ h))
  · exact .inl (.inr ⟨o, e _ _ h⟩)
  · exact .inr h
mutual
theorem dp_same {K : PySem.W.Frag} {H H' : Hp} (e : Same H H') : ∀ {v : V} {d : PyData}, Dp K H v d → Dp K H' v d
  | _, _, .non => .non
  | _, _, .bl b => .bl b
  | _, _, .int i => .int i
  | _, _, .str x => .str x
  | _, _, .lst h r => .lst (e.seq h) (dpAll_same e r)
  | _, _, .tup h r => .tup (sameT e h) (dpAll_same e r)
theorem dpAll_same {K : PySem.W.Frag} {H H' : Hp} (e : Same H H') : ∀ {vs : List V} {ds : List PyData}, DpAll K H vs ds → DpAll K H' vs ds
  | _, _, .nil => .nil
  | _, _, .cons h r => .cons (dp_same e h) (dpAll_same e r)
end
theorem dpAll_app {K : PySem.W.Frag} {H : Hp} : ∀ {vs ws : List V} {ds es : List PyData}, DpAll K H vs ds → DpAll K H ws es → DpAll K H (vs ++ ws) (ds ++ es)
  | _, _, _, _, .nil, h => h
  | _, _, _, _, .cons a b, h => .cons a (dpAll_app b h)
theorem dpAll_len {K : PySem.W.Frag} {H : Hp} : ∀ {vs : List V} {ds : List PyData}, DpAll K H vs ds → vs.length = ds.length
  | _, _, .nil => rfl
  | _, _, .cons _ r => congrArg (· + 1) (dpAll_len r)
theorem dpAll_get {K : PySem.W.Frag} {H : Hp} : ∀ {vs : List V} {ds : List PyData} {i : Nat} {v : V}, DpAll K H vs ds → vs[i]? = some v → ∃ d, ds[i]? = some d ∧ Dp K H v d
  | _, _, _, _, .nil, e => by simp at e
  | _, _, 0, _, .cons h _, e => by
    simp at e
    subst e
    exact ⟨_, rfl, h⟩
  | _, _, i + 1, v, .cons _ r, e => by
    obtain ⟨d, h1, h2⟩ := dpAll_get (i := i) (v := v) r (by simpa using e)
    exact ⟨d, by simpa using h1, h2⟩
theorem dpAll_strs {K : PySem.W.Frag} {H : Hp} : ∀ (xs : List Str), DpAll K H (xs.map V.str) (xs.map PyData.str)
  | [] => .nil
  | x :: xs => .cons (.str x) (dpAll_strs xs)
theorem new_same {H : Hp} {p : Addr} (h : H p = none) (o : HO) : Same H (upd H p o) := fun b u q => by rw [upd_ne (ne_of_none q h)]; exact q

/-! ### sorted(xs) of data, any number -/
def pickE {β : Type} (xs : List V) (bs : List β) : V → β → Prop := fun y b => (y, b) ∈ xs.zip bs
/-- xs reads as bs by enc: a new list that is bs.mergeSort, item by item of xs -/
def rSortedE (K : PySem.W.Frag) (β : Type) (enc : β → PyData) : List V → Hp → VK → Prop := fun vs H Q => ∃ (a : Addr) (xs : List V) (bs : List β), vs = [V.ref a] ∧ SqL K H a xs ∧ DpAll K H xs (bs.map enc) ∧
  PySem.W.AllAlike (bs.map enc) ∧ PySem.W.Sortable (bs.map enc) ∧ (∀ b, b ∈ bs → (enc b).depth ≤ 8) ∧
  ∀ (ys : List V) (p : Addr), ys.length = bs.length → DpAll K H ys ((bs.mergeSort (PySem.W.dataLe false enc)).map enc) → Paired (pickE xs bs) ys (bs.mergeSort (PySem.W.dataLe false enc)) → H p = none → Q (.ref p) (upd H p (.lst ys))
theorem zip_rel {α γ δ : Type} {R : α → γ → Prop} : ∀ {xs : List α} {us : List γ} {bs : List δ} {u : γ} {b : δ}, Paired R xs us → (u, b) ∈ us.zip bs → ∃ x, (x, b) ∈ xs.zip bs ∧ R x u
  | _, _, [], _, _, _, h => by simp at h
  | _, _, _ :: _, _, _, .nil, h => by simp at h
  | _, _, c :: bs, u, b, .cons r t, h => by
    rw [List.zip_cons_cons] at h ⊢
    rcases List.mem_cons.mp h with h | h
    · injection h with h1 h2
      subst h1
      subst h2
      exact ⟨_, List.mem_cons_self, r⟩
    · obtain ⟨x, h1, h2⟩ := zip_rel t h
      exact ⟨x, List.mem_cons_of_mem _ h1, h2⟩
theorem zip_dp {K : PySem.W.Frag} {H : Hp} {β : Type} {enc : β → PyData} : ∀ {xs : List V} {bs : List β} {x : V} {b : β}, DpAll K H xs (bs.map enc) → (x, b) ∈ xs.zip bs → Dp K H x (enc b)
  | _, [], _, _, _, h => by simp at h
  | _, c :: bs, x, b, .cons r t, h => by
    rw [List.zip_cons_cons] at h
    rcases List.mem_cons.mp h with h | h
    · injection h with h1 h2
      subst h1
      subst h2
      exact r
    · exact zip_dp t h
/-- the sorted values, told again as V -/
theorem back_each {β : Type} {xs : List V} {us : List Value} {bs : List β} (r : Vals xs us) : ∀ {out : List Value} {cs : List β}, PySem.W.EachIs (fun u b => (u, b) ∈ us.zip bs) out cs →
    ∃ ys : List V, Vals ys out ∧ Paired (pickE xs bs) ys cs
  | _, _, .nil => ⟨[], .nil, .nil⟩
  | _, _, .cons h t => by
    obtain ⟨y, h1, h2⟩ := zip_rel r h
    obtain ⟨ys, h3, h4⟩ := back_each r t
    exact ⟨y :: ys, .cons h2 h3, .cons h1 h4⟩
theorem pick_dp {K : PySem.W.Frag} {H : Hp} {β : Type} {enc : β → PyData} {xs : List V} {bs : List β} (d : DpAll K H xs (bs.map enc)) : ∀ {ys : List V} {cs : List β}, Paired (pickE xs bs) ys cs → DpAll K H ys (cs.map enc)
  | _, _, .nil => .nil
  | _, _, .cons h t => .cons (zip_dp d h) (pick_dp d t)
theorem each_zip {β : Type} {us : List Value} {bs : List β} (h : us.length = bs.length) : PySem.W.EachIs (fun u b => (u, b) ∈ us.zip bs) us bs :=
  PySem.W.EachIs.of_zip h fun _ hp => hp
theorem each_reads {h : Heap} {β : Type} {enc : β → PyData} {bs : List β} {us : List Value} (hr : ∃ as, ReadsAll h us (bs.map enc) as) : PySem.W.EachIs (fun u b => ∃ as, Reads h u (enc b) as) us bs := by
  induction bs generalizing us with
  | nil =>
    obtain ⟨as, r⟩ := hr
    cases r
    exact .nil
  | cons b bs ih =>
    obtain ⟨as, r⟩ := hr
    rw [List.map_cons] at r
    cases r with
    | cons r1 r2 => exact .cons ⟨_, r1⟩ (ih ⟨_, r2⟩)
section
variable {X : Cx}
theorem cr_sortedE {β : Type} {enc : β → PyData} (hu : X.A.units + 64 < cLine) : CallR X (.builtin "sorted") (rSortedE X.K β enc) := by
  intro pins s σ H vs us Q I r h
  obtain ⟨a, xs, bs, rfl, hs, hd, al, so, dp, q⟩ := h
  obtain ⟨its, rv, hl, hz⟩ := I.list hs
  rw [Vals.ref1 r]
  have hxb : xs.length = bs.length := by
    have e2 := dpAll_len hd
    rw [List.length_map] at e2
    exact e2
  have hlen : its.length = bs.length := rv.length.symm.trans hxb
  have hrd := Dp.readsAll I _ _ its hd rv
  refine PySem.W.sorted_data (vs := its) (bs := bs) (enc := enc) (R := fun u b => (u, b) ∈ its.zip bs) hl.isList (each_zip hlen) (each_reads hrd) al so (by omega) (fun b hb => by have := dp b hb; omega) fun out ho he => ?_
  obtain ⟨ys, h1, h2⟩ := back_each rv he
  obtain ⟨ep, he'⟩ := PyProof.Rows.sortedAll_at s.heap its out.toArray
  have hyl : ys.length = bs.length := by
    rw [h1.length]
    exact ho
  exact ⟨.ref _, upd H (s.heap.objs.size + 1) (.lst ys), I.laid (t' := s.toks) (fun _ _ => PyProof.Rows.sortedAll_old) (Nat.le_succ _) ⟨by omega, out, ep, h1, he'⟩, rfl, q ys _ hyl (pick_dp hd h2) h2 (I.hok.fresh (Nat.le_succ _))⟩

/-! ### min(xs) of texts -/
theorem strs_lt {prog : Program} {w : World} {A : Around} {P : Nat → Value → Prop} (val : Nat → Str) (hval : ∀ i v, P i v → ∃ t, v = .str (val i) t) :
    CmpOf prog w A .Lt P (fun i j => decide ((val i).cps.toList < (val j).cps.toList)) := fun i j vi vj s Q E hi hj h => by
  obtain ⟨t, rfl⟩ := hval i vi hi
  obtain ⟨u, rfl⟩ := hval j vj hj
  exact richCompare_gives (op := .Lt) (typeIs_str s _ t) (typeIs_str s _ u) PySem.F.slot_str_lt PySem.F.entry_str_lt (PySem.F.args_str_lt_2 _ _) (gives_str_lt _ _ t u) (fun x => nomatch x) h
theorem best_least {α : Type} (lt : α → α → Bool) (asy : ∀ x y, lt x y = true → lt y x = false) (ntr : ∀ x y z, lt y x = false → lt z y = false → lt z x = false) (f : Nat → α) :
    ∀ k, argBest (fun i j => lt (f i) (f j)) k ≤ k ∧ ∀ j, j ≤ k → lt (f j) (f (argBest (fun i j => lt (f i) (f j)) k)) = false
  | 0 => ⟨Nat.le_refl _, fun j hj => by
      have e : j = 0 := by omega
      subst e
      show lt (f 0) (f 0) = false
      cases h : lt (f 0) (f 0) with
      | false => rfl
      | true =>
        have z := asy _ _ h
        rw [h] at z
        exact z⟩
  | k + 1 => by
    obtain ⟨h1, h2⟩ := best_least lt asy ntr f k
    have self : ∀ x, lt x x = false := fun x => by
      cases h : lt x x with
      | false => rfl
      | true => rw [asy _ _ h] at h; cases h
    simp only [argBest]
    by_cases hc : lt (f (k + 1)) (f (argBest (fun i j => lt (f i) (f j)) k)) = true
    · rw [if_pos hc]
      refine ⟨Nat.le_refl _, fun j hj => ?_⟩
      by_cases e : j = k + 1
      · subst e
        exact self _
      · exact ntr _ _ _ (asy _ _ hc) (h2 j (by omega))
    · rw [if_neg hc]
      refine ⟨by omega, fun j hj => ?_⟩
      by_cases e : j = k + 1
      · subst e
        exact Bool.eq_false_iff.mpr hc
      · exact h2 j (by omega)
/-- min(xs), xs a list of texts -/
def rMinS (K : PySem.W.Frag) : List V → Hp → VK → Prop := fun vs H Q => ∃ (a : Addr) (zs : List Str), vs = [V.ref a] ∧ SqL K H a (zs.map V.str) ∧ 0 < zs.length ∧
  ∀ m, m ∈ zs → (∀ y, y ∈ zs → ¬ y.cps.toList < m.cps.toList) → Q (.str m) H
theorem lex_asym (x y : List Nat) (h : x < y) : ¬ y < x := List.lt_asymm h
theorem cr_minS (hc : X.calm = true) : CallR X (.builtin "min") (rMinS X.K) := by
  intro pins s σ H vs us Q I r h
  obtain ⟨a, zs, rfl, hs, hne, q⟩ := h
  obtain ⟨its, rv, hl, _⟩ := I.list hs
  rw [Vals.ref1 r]
  have hS := rv.strs
  have hln : its.length = zs.length := by
    have e := rv.length
    rw [List.length_map] at e
    exact e.symm
  have hval : ∀ (i : Nat) (v : Value), its.toArray[i]? = some v → ∃ t, v = .str (zs.getD i ⟨#[]⟩) t := fun i v hv => by
    have hv2 : its[i]? = some v := by simpa using hv
    obtain ⟨hi, _⟩ := List.getElem?_eq_some_iff.mp hv2
    have hz : (zs.map V.str)[i]? = some (V.str (zs.getD i ⟨#[]⟩)) := by
      have hi' : i < zs.length := by omega
      simp [hi']
    obtain ⟨u, h1, t, h2⟩ := rv.get hz
    rw [h1] at hv2
    exact ⟨t, (Option.some.inj hv2).symm.trans h2⟩
  refine call_min_walk (iter_anyList hl.isList fun s2 e st hfp hlI => ?_)
  subst e
  refine ⟨_, _, _, _, _, _, _, rfl, Walks.list (A := X.A.in1) (I.ok.hd hc) _ a hlI its.toArray, st, hfp, by simpa [hln] using hne, strs_lt (fun i => zs.getD i ⟨#[]⟩) hval, fun v h' tk hP hk => ?_⟩
  have hk2 : ∀ b o, s.heap.get? b = some o → h'.get? b = some o := fun b o e => by
    refine hk b o (fun hm => ?_) (Heap.get?_push_of_some _ e)
    rw [List.mem_singleton] at hm
    exact absurd (hm ▸ Heap.lt_size e) (Nat.lt_irrefl _)
  obtain ⟨b1, b2⟩ := best_least (fun x y : Str => decide (x.cps.toList < y.cps.toList)) (fun x y h => decide_eq_false (lex_asym _ _ (of_decide_eq_true h)))
    (fun x y z h1 h2 => decide_eq_false fun h3 => by
      have a1 := List.not_lt.mp (of_decide_eq_false h1)
      have a2 := List.not_lt.mp (of_decide_eq_false h2)
      exact List.not_lt.mpr (List.le_trans a1 a2) h3) (fun i => zs.getD i ⟨#[]⟩) (its.toArray.size - 1)
  obtain ⟨t, rfl⟩ := hval _ v hP
  have hsz : its.toArray.size = zs.length := by simpa using hln
  refine ⟨.str _, H, I.kept (t' := tk) hk2, ⟨t, rfl⟩, q _ ?_ fun y hy => ?_⟩
  · have hb : argBest (fun i j => decide ((zs.getD i ⟨#[]⟩).cps.toList < (zs.getD j ⟨#[]⟩).cps.toList)) (its.toArray.size - 1) < zs.length := by
      have := b1
      rw [hsz] at this ⊢
      omega
    rw [List.getD_eq_getElem?_getD, List.getElem?_eq_getElem hb]
    exact List.getElem_mem hb
  · obtain ⟨j, hj, e⟩ := List.getElem_of_mem hy
    have b3 := of_decide_eq_false (b2 j (by rw [hsz]; omega))
    rw [List.getD_eq_getElem?_getD, List.getElem?_eq_getElem hj] at b3
    rw [← e]
    exact b3
/-- what an expression gives is frozen: read, not written -/
def tFrz (t : TE) : TE := fun σ H Q => t σ H fun x H1 => ∃ d u, x = .ref d ∧ H1 d = some u ∧ Mut (some u) ∧ ∀ o, Q x (upd H1 d (.frz o u))
theorem pe_frz {e : Expr} {t : TE} (h : PE X e t) : PE X e (tFrz t) := by
  refine ⟨fun pins s σ H Q I q => ?_⟩
  refine thn (h.run pins s σ H _ I q) fun v s1 ⟨x, H1, I1, r1, d, u, ex, hd, mu, q1⟩ => ?_
  subst ex
  obtain ⟨od, I2⟩ := I1.lock hd mu
  exact ⟨_, _, I2, r1, q1 od⟩
end
end JB

-- part B1
set_option Elab.async false
set_option linter.all false
set_option maxRecDepth 100000
/-! Rules of our own, 3: sorted(set(a text)). -/
namespace JB
open PySem PySem.Spec PyProof.Rows L2

/-- the set at a holds the texts l, each once; its table rises and can be walked -/
def TxAt (P : Program) (w : World) (h : Heap) (a : Addr) (l : List Str) : Prop :=
  ∃ D : Froz.SD, h.get? a = some (Froz.sObj "set" D) ∧ Froz.TxOk P w D l ∧ Ris D.2.2.place.toList ∧ (w.params.followText "set-order" = true ∨ D.2.2.led = true) ∧ l.Nodup
theorem TxAt.at {P : Program} {w : World} {h h' : Heap} {a : Addr} {l : List Str} (R : TxAt P w h a l) (k : ∀ o, h.get? a = some o → h'.get? a = some o) : TxAt P w h' a l := by
  obtain ⟨D, ho, r⟩ := R
  exact ⟨D, k _ ho, r⟩
theorem tail_ris {ep : Nat} {es1 : Array (Int × Value)} {t2 : SetTable} {wd : Bool} (r : Ris t2.place.toList) : Ris (Froz.tailTx ep es1 t2 wd).2.2.place.toList := by
  unfold Froz.tailTx
  split
  · exact relayAll_ris _ _ _
  · exact r
theorem tail_led {ep : Nat} {es1 : Array (Int × Value)} {t2 : SetTable} {wd : Bool} : (Froz.tailTx ep es1 t2 wd).2.2.led = t2.led := by
  unfold Froz.tailTx
  split
  · exact relayAll_led _ _ _
  · rfl
theorem add_ris {h : Int} {v : Value} {D : Froz.SD} (r : Ris D.2.2.place.toList) : Ris (Froz.addTx h v D).2.2.place.toList := by
  refine tail_ris ?_
  have q := layNew_ris D.2.2 D.1 h v r
  split
  · exact q
  · exact q
theorem add_led {h : Int} {v : Value} {D : Froz.SD} : (Froz.addTx h v D).2.2.led = D.2.2.led := by
  unfold Froz.addTx
  rw [tail_led]
  have q := layNew_led D.2.2 D.1 h v
  split
  · exact q
  · exact q
section
variable {P : Program} {w : World} {A : Around} {E : Value → Shared → Prop} {s : Shared} {a : Addr} {l : List Str}
/-- a text comes into the set -/
theorem tx_add {k : Str} {u : Tok} {Q : Bool → Shared → Prop} (R : TxAt P w s.heap a l) (hb : l.length + 1 < scanBound)
    (hQ : ∀ b h' l', Heap.SameBut a s.heap h' → TxAt P w h' a l' → l'.length ≤ l.length + 1 → (∀ x, x ∈ l' ↔ x = k ∨ x ∈ l) → Q b { s with heap := h' }) :
    wpAny (model P w) A (setAddHashed a (.str k u) (hashStr w k)) Q E s := by
  obtain ⟨D, ho, F, r, hl, nd⟩ := R
  by_cases hk : k ∈ l
  · obtain ⟨es, ep, t⟩ := D
    have hd : (Froz.sObj "set" (es, ep, t)).data = .set es ep t := rfl
    have hsz : es.size = l.length := F.sz
    have hkey := Froz.is_str (P := P) (w := w) k u
    unfold setAddHashed setAddHashedIn
    refine wpAny_holding (wpAny_bind (wpAny_setState_of ho hd F.fit ?_))
    dsimp only
    rw [byScan_of (x := Value.str k u) rfl (by omega : es.size < scanBound) F.el]
    simp only [↓reduceIte]
    unfold setAddByScan
    refine wpAny_bind (wpAny_bind (wpAny_rule ?_))
    refine wpAny_bind (wpAny_setScan_of (knd := strKind P w) (k := k) hkey ho hd F.fit F.el ?_)
    obtain ⟨e, he, hp⟩ := (F.mem k).mp hk
    cases hfi : List.findIdx? (fun e => (strKind P w).is k e.2) es.toList with
    | none =>
      have c := List.findIdx?_eq_none_iff.mp hfi e he
      rw [hp] at c
      cases c
    | some j =>
      dsimp only
      refine wpAny_pure (wpAny_pure ?_)
      exact hQ false s.heap l (Heap.SameBut.refl a s.heap) ⟨_, ho, F, r, hl, nd⟩ (Nat.le_succ _) fun x => ⟨.inr, fun z => z.elim (fun q => q ▸ hk) id⟩
  · refine Froz.add_x ho F hk hb ?_
    refine hQ true _ (k :: l) (Heap.SameBut.update s.heap a _) ⟨_, Froz.get_upd _ ho rfl, Froz.add_ok u F, add_ris r, by rw [add_led]; exact hl, List.nodup_cons.mpr ⟨hk, nd⟩⟩ (Nat.le_refl _) fun x => List.mem_cons
/-- what is in a set that took the first i signs of x -/
def Took (x : Str) (i : Nat) (l : List Str) : Prop := l.length ≤ i ∧ ∀ k, k ∈ l ↔ ∃ c ∈ x.cps.toList.take i, k = ⟨#[c]⟩
theorem took_next {x : Str} {i c : Nat} {l l' : List Str} (T : Took x i l) (hc : x.cps[i]? = some c) (hl : l'.length ≤ l.length + 1) (h : ∀ k, k ∈ l' ↔ k = ⟨#[c]⟩ ∨ k ∈ l) : Took x (i + 1) l' := by
  have e : x.cps.toList.take (i + 1) = x.cps.toList.take i ++ [c] := by
    rw [List.take_add_one]
    simp [hc]
  refine ⟨by have := T.1; omega, fun k => ?_⟩
  rw [h, T.2, e]
  constructor
  · rintro (q | ⟨d, hd, q⟩)
    · exact ⟨c, by simp, q⟩
    · exact ⟨d, List.mem_append_left _ hd, q⟩
  · rintro ⟨d, hd, q⟩
    rcases List.mem_append.mp hd with hd | hd
    · exact .inr ⟨d, hd, q⟩
    · rw [List.mem_singleton] at hd
      subst hd
      exact .inl q
theorem upd_signs {I : Addr} {fp wr : List Addr} {G : Array GenState → Array GenState → Prop} {St : Nat → Shared → Prop} {R : Result → Shared → Prop} {x : Str}
    (W : WalksS P w A.in1 I fp wr G x.cps.size (SignAt x) St) (S : Addr) (hSf : S ∉ fp) (hb : x.cps.size + 1 < scanBound) :
    ∀ (k i : Nat) (s : Shared), x.cps.size - i = k → i ≤ x.cps.size → St i s → (∃ l, TxAt P w s.heap S l ∧ Took x i l) →
      (∀ s' l, Moved (S :: wr) G s s' → TxAt P w s'.heap S l → Took x x.cps.size l → R (.ok (.ret .none)) s') →
      codeAny (model P w) A (.builtin "set.update.loop" ⟨[.ref S, .ref I], []⟩) R s := by
  have hSw : S ∉ wr := fun h => hSf (W.sub _ h)
  have up : ∀ b ∈ wr, b ∈ S :: wr := fun b hb => List.mem_cons_of_mem _ hb
  intro k
  induction k with
  | zero =>
    intro i s hk hi hst ⟨l, hS, T⟩ hR
    obtain rfl : i = x.cps.size := by omega
    refine codeAny_builtin PyProof.Rows.F.entry_set_update_loop ?_
    rw [Around.under_plainId PyProof.Rows.F.plain_set_update_loop _]
    show wpAny _ A.in1 (pyNext (.ref I) >>= _) _ _ s
    refine wpAny_bind (W.done s _ _ hst fun s' hm => ?_)
    exact wpAny_pure (hR s' l (hm.mono up) (hS.at fun o e => hm.heap S o hSw e) T)
  | succ k ih =>
    intro i s hk hi hst ⟨l, hS, T⟩ hR
    have hlt : i < x.cps.size := by omega
    refine codeAny_builtin PyProof.Rows.F.entry_set_update_loop ?_
    rw [Around.under_plainId PyProof.Rows.F.plain_set_update_loop _]
    show wpAny _ A.in1 (pyNext (.ref I) >>= _) _ _ s
    refine wpAny_bind (W.item i s _ _ hlt hst fun v s' hP hst' hm => ?_)
    obtain ⟨c, u, hc, rfl⟩ := hP
    have hS' : TxAt P w s'.heap S l := hS.at fun o e => hm.heap S o hSw e
    show wpAny _ A.in1 (holding [Value.str ⟨#[c]⟩ u] (setAdd S (.str ⟨#[c]⟩ u)) >>= _) _ _ s'
    refine wpAny_bind (wpAny_holding ?_)
    unfold setAdd
    refine wpAny_holding ?_
    refine wpAny_bind ((strKind P w).pyHash (k := ⟨#[c]⟩) (Froz.is_str _ _) ?_)
    have hT := T.1
    refine tx_add (s := { s' with toks := s'.toks + 1 }) hS' (by omega) fun b h2 l2 sb hS2 hl2 hm2 => ?_
    refine wpAny_pure ⟨plainId_quiet PyProof.Rows.F.plain_set_update_loop _, ih (i + 1) _ (by omega) hlt (W.frame _ s' _ _ hst' (Nat.le_succ _) fun b hb o e => ?_) ⟨l2, hS2, took_next T hc hl2 hm2⟩ fun s3 l3 hm3 hS3 T3 => ?_⟩
    · rw [sb.2 b (fun h : b = S => hSf (h ▸ hb))]
      exact e
    · refine hR s3 l3 (Moved.trans W.gtrans ((hm.mono up).then_heap (Nat.le_succ _) fun b o hb e => ?_) hm3) hS3 T3
      rw [sb.2 b (fun h : b = S => hb (by rw [h]; exact List.mem_cons_self))]
      exact e
abbrev freshSet (w : World) : Obj := { cls := .type "set", dict := none, data := .set #[] 0 (.fresh 0 0 (!w.params.followText "set-order")) }
theorem tx_fresh {h : Heap} {a : Addr} (ho : h.get? a = some (freshSet w)) : TxAt P w h a [] := by
  refine ⟨(#[], 0, .fresh 0 0 (!w.params.followText "set-order")), ho, Froz.TxOk.nil (by rfl), List.Pairwise.nil, ?_, List.nodup_nil⟩
  show _ ∨ (!w.params.followText "set-order") = true
  cases w.params.followText "set-order"
  · exact .inr rfl
  · exact .inl rfl

set_option maxHeartbeats 3200000 in
theorem call_set_text {x : Str} {u : Tok} {Q : Value → Shared → Prop} (hh : A.handled = none) (hb : x.cps.size + 1 < scanBound)
    (h : ∀ (h' : Heap) (tk : Nat) (l : List Str), TxAt P w h' s.heap.objs.size l → Took x x.cps.size l → (∀ b o, s.heap.get? b = some o → h'.get? b = some o) → Q (.ref s.heap.objs.size) { s with heap := h', toks := tk }) :
    wpAny (model P w) A (call (.type "set") [.str x u]) Q E s := by
  obtain ⟨c, tl, hmro⟩ := PySem.F.called_set.mro
  have hmade := PySem.F.called_set.made
  have hsub := PySem.F.called_set.sub
  refine wpAny_call (codeAny_of_tree ?_)
  show wpAny _ _ (callAny (.type "set") _) _ _ _
  refine wpAny_pure ⟨Code.quiet_builtin _ (by decide +kernel), codeAny_builtin PySem.F.entry_type_call ?_⟩
  rw [Around.under_plain (weight_type_call_type "set" [.str x u] []) rfl]
  have h1 := PySem.F.called_set.notType
  have h2 := PySem.F.called_set.canCreate
  have hct := PySem.F.typeCall_set_1 (.str x u)
  repeat (any_goals (first | assumption | wp_step))
  refine codeAny_mono (code_set_led1 (.str x u) (E := E) (Q₁ := fun obj s1 => obj = .ref s.heap.objs.size ∧ s1 = { s with heap := s.heap.push (freshSet w) }) ⟨rfl, rfl⟩) fun r s1 hr => ?_
  match r, hr with
  | .error e, hr => exact hr
  | .ok (.ret obj), hr =>
    obtain ⟨rfl, rfl⟩ := hr
    have hS : (s.heap.push (freshSet w)).get? s.heap.objs.size = some (freshSet w) := Heap.get?_push_size _ rfl
    have hT : Shared.TypeIs { s with heap := s.heap.push (freshSet w) } (.ref s.heap.objs.size) "set" := ⟨_, hS, rfl⟩
    have hli := PySem.F.called_set.init.lookup
    have hbi := PySem.F.called_set.init.bind (.ref s.heap.objs.size)
    repeat (any_goals (first | assumption | wp_step))
    refine codeAny_mono (codeAny_call_builtin (R := wants (fun r s2 => r = .none ∧ ∃ h' tk l, s2 = { s with heap := h', toks := tk } ∧ TxAt P w h' s.heap.objs.size l ∧ Took x x.cps.size l ∧
        (∀ b o, s.heap.get? b = some o → h'.get? b = some o)) E) PySem.F.called_set.init.plain PySem.F.entry_set_init (PySem.check_set_init_1 hT ?_)) fun r2 s2 hr2 => ?_
    · have hsls := PySem.F.sub_str_set
      have hslf := PySem.F.sub_str_frozenset
      have hne : (Value.type "str" == Value.type "dict") = false := by decide
      unfold Builtin.«set.__init__» noKeywords Builtin.Frozenset.updateFrom
      generalize hPI : pyIter = PI
      wp_walk
      subst hPI
      refine wpAny_pyIter_str fun o St W hst => ?_
      refine wpAny_bind (wpAny_runValue ?_)
      have hz : (s.heap.push (freshSet w)).objs.size = s.heap.objs.size + 1 := Heap.size_push ..
      have hSf : s.heap.objs.size ∉ [(s.heap.push (freshSet w)).objs.size] := by
        rw [hz, List.mem_singleton]
        exact Nat.ne_of_lt (Nat.lt_succ_self _)
      refine upd_signs (W _ (by simp [hh])).toS s.heap.objs.size hSf hb (x.cps.size - 0) 0 _ rfl (Nat.zero_le _) hst ⟨[], tx_fresh (Heap.get?_push_of_some _ hS), Nat.le_refl _, fun k => by simp⟩ fun s3 l hm hS3 T3 => ?_
      obtain ⟨h', g2, d', tk', os'⟩ := s3
      have eg : g2 = s.gens := hm.gens
      have ed : d' = s.drawn := hm.drawn
      have eo : os' = s.os := hm.os
      subst eg ed eo
      refine wpAny_pure ?_
      show wpAny _ _ (ret Value.none) _ _ _
      refine wpAny_pure ⟨rfl, h', tk', l, rfl, hS3, T3, fun b o e => ?_⟩
      have hb0 : b < s.heap.objs.size := Heap.lt_size e
      refine hm.heap b o (fun hmem => ?_) (Heap.get?_push_of_some _ (Heap.get?_push_of_some _ e))
      rcases List.mem_cons.mp hmem with z | z
      · exact absurd (z ▸ hb0) (Nat.lt_irrefl _)
      · rw [List.mem_singleton, hz] at z
        rw [z] at hb0
        exact absurd hb0 (Nat.not_lt.mpr (Nat.le_succ _))
    · match r2, hr2 with
      | .error e, hr2 => exact hr2
      | .ok (.ret r), hr2 =>
        obtain ⟨rfl, h', tk, l, rfl, hS', T', hk'⟩ := hr2
        repeat (any_goals (first | assumption | wp_step))
        exact h _ _ _ hS' T' hk'
      | .ok .next, hr2 => exact hr2.elim
      | .ok .brk, hr2 => exact hr2.elim
      | .ok .cont, hr2 => exact hr2.elim
  | .ok .next, hr => exact hr.elim
  | .ok .brk, hr => exact hr.elim
  | .ok .cont, hr => exact hr.elim
theorem tx_vals {D : Froz.SD} (F : Froz.TxOk P w D l) {vs : List Value} (pm : vs.Perm (D.1.toList.map (·.2))) : ∃ ys : List Str, StrsAre vs ys ∧ ys.length = l.length ∧ ∀ k, k ∈ l ↔ k ∈ ys := by
  have one : ∀ v ∈ vs, ∃ k u, v = Value.str k u := fun v hv => by
    obtain ⟨e, he, q⟩ := List.mem_map.mp (pm.mem_iff.mp hv)
    obtain ⟨⟨k, hk, _⟩, _⟩ := F.el e he
    obtain ⟨u, z⟩ := Value.isStrOf_shape (x := k) (v := e.2) hk
    exact ⟨k, u, by rw [← q]; exact z⟩
  have all : ∀ us : List Value, (∀ v ∈ us, ∃ k u, v = Value.str k u) → ∃ ys : List Str, StrsAre us ys ∧ ∀ k, k ∈ ys ↔ ∃ u, Value.str k u ∈ us := by
    intro us
    induction us with
    | nil => exact fun _ => ⟨[], .nil, fun k => by simp⟩
    | cons v us ih =>
      intro h
      obtain ⟨ys, h1, h2⟩ := ih fun v hv => h v (List.mem_cons_of_mem _ hv)
      obtain ⟨k, u, rfl⟩ := h v List.mem_cons_self
      refine ⟨k :: ys, .cons k u h1, fun z => ?_⟩
      rw [List.mem_cons, h2]
      constructor
      · rintro (rfl | ⟨t, ht⟩)
        · exact ⟨u, List.mem_cons_self⟩
        · exact ⟨t, List.mem_cons_of_mem _ ht⟩
      · rintro ⟨t, ht⟩
        rcases List.mem_cons.mp ht with e | e
        · injection e with e1 _
          exact .inl e1
        · exact .inr ⟨t, e⟩
  obtain ⟨ys, h1, h2⟩ := all vs one
  refine ⟨ys, h1, ?_, fun k => ?_⟩
  · rw [← h1.length, pm.length_eq, List.length_map, Array.length_toList, F.sz]
  · rw [F.mem, h2]
    constructor
    · rintro ⟨e, he, z⟩
      obtain ⟨u, z⟩ := Value.isStrOf_shape (x := k) (v := e.2) z
      exact ⟨u, pm.mem_iff.mpr (List.mem_map.mpr ⟨e, he, z⟩)⟩
    · rintro ⟨u, hu⟩
      obtain ⟨e, he, z⟩ := List.mem_map.mp (pm.mem_iff.mp hu)
      exact ⟨e, he, by rw [z]; exact Froz.is_str k u⟩
theorem perm_of_size {α : Type} [DecidableEq α] : ∀ {l m : List α}, l.Nodup → (∀ x ∈ l, x ∈ m) → m.length = l.length → m.Perm l
  | [], m, _, _, h => by
    rw [List.eq_nil_of_length_eq_zero h]
  | x :: l, m, nd, hs, h => by
    obtain ⟨n1, n2⟩ := List.nodup_cons.mp nd
    have hx := hs x List.mem_cons_self
    have p := List.perm_cons_erase hx
    have h2 : (m.erase x).length = l.length := by
      have := p.length_eq
      rw [List.length_cons] at this h
      omega
    refine p.trans (List.Perm.cons x (perm_of_size n2 (fun y hy => ?_) h2))
    have hne : y ≠ x := fun e => n1 (e ▸ hy)
    exact (List.mem_erase_of_ne hne).mpr (hs y (List.mem_cons_of_mem _ hy))
theorem sorted_tx {Q : Value → Shared → Prop} (R : TxAt P w s.heap a l) (hh : A.handled = none) (hb : l.length < scanBound)
    (hQ : ∀ s' p (out : Array Value) (c : Nat) (ys : List Str), (∀ b o, s.heap.get? b = some o → s'.heap.get? b = some o) → s'.gens = s.gens → s'.os = s.os → s.heap.objs.size ≤ p →
      s'.heap.get? p = some (seqObj "list" out c) → StrsAre out.toList ys → ys.Perm l → sortedS ys = true → Q (.ref p) s') :
    wpAny (model P w) A (call (.builtin "sorted") [.ref a]) Q E s := by
  obtain ⟨⟨es, ep, t⟩, ho, F, r, hl, nd⟩ := R
  have hsz : es.size = l.length := F.sz
  refine Calls.call_function_entry kind_sorted plain_sorted entry_sorted (args_sorted1 _) ?_
  unfold Builtin.«sorted»
  refine wpAny_bind (m := checkCount "sorted" 1 1 _) (wpAny_pure ?_)
  refine wpAny_bind (collect_set (A := A.in1) hh ⟨_, ho, rfl, rfl⟩ F.fit (by rw [hsz]; exact hb) r hl fun s1 vs k1 hz g1 o1 pm => ?_)
  obtain ⟨xs, hS, hxl, hxm⟩ := tx_vals F pm
  have hvl : vs.length ≤ sizeLine := by
    rw [hS.length, hxl]
    exact fits_of_scanBound hb
  refine wpAny_bind (wpAny_newList ?_ hvl)
  have hoL : (s1.heap.push (seqObj "list" vs.toArray 0)).get? s1.heap.objs.size = some (seqObj "list" vs.toArray 0) := Heap.get?_push_size _ rfl
  refine wpAny_bind (wpAny_holding (wpAny_call_entry slot_list_sort ⟨_, hoL, rfl⟩ entry_list_sort
    (list_sort_treeKAny PyProof.Rows.strKind_oneLt hoL hS.keysOf (fun v1 v2 rest e => keyKind_strs (by rw [← e]; exact hS)) hvl fun st' hp hs => ⟨_, rfl, ?_⟩) (args_list_sort _)))
  obtain ⟨ys, a1, a2, a3⟩ := sorted_out_str hS hp hs
  obtain ⟨c, hc⟩ := sortedHeap_at (vs := vs) (out := (arrOf st').map (·.2)) hoL
  have pl : ys.Perm l := a2.trans (perm_of_size nd (fun x hx => (hxm x).mp hx) hxl)
  refine wpAny_pure ⟨_, rfl, hQ _ s1.heap.objs.size _ c ys (fun b u e => ?_) g1 o1 hz hc a1 pl a3⟩
  have q := k1 b u e
  have hlt := Heap.lt_size q
  show (sortedHeap (s1.heap.push (seqObj "list" vs.toArray 0)) s1.heap.objs.size vs _).get? b = some u
  rw [sortedHeap_old (Nat.ne_of_lt hlt) (by rw [size_push']; exact Nat.lt_succ_of_lt hlt)]
  exact Heap.get?_push_of_some _ q
end
def TxO (P : Program) (w : World) (a : Addr) (l : List Str) : HO := .ext fun h => TxAt P w h a l
theorem txO_new {P : Program} {w : World} {H : Hp} {h : Heap} {a : Addr} {l : List Str} (R : TxAt P w h a l) : ObjOk P w H h a (TxO P w a l) := by
  obtain ⟨D, ho, _⟩ := id R
  exact ⟨R, ⟨_, ho⟩, fun h1 h2 p k => p.at k⟩
section
variable {X : Cx}
/-- set(x), x a text -/
def rSetS (P : Program) (w : World) : List V → Hp → VK → Prop := fun xs H Q => ∃ x : Str, xs = [V.str x] ∧ x.cps.size < 1000 ∧
  ∀ a l, H a = none → l.length ≤ x.cps.size → (∀ k : Str, k ∈ l ↔ ∃ c ∈ x.cps.toList, k = ⟨#[c]⟩) → Q (.ref a) (upd H a (TxO P w a l))
theorem cr_setS (hc : X.calm = true) : CallR X (.type "set") (rSetS X.prog X.w) := by
  intro pins s σ H xs us Q I r h
  obtain ⟨x, rfl, hx, q⟩ := h
  obtain ⟨u, rfl, t, rfl⟩ := r.one
  refine call_set_text (I.ok.hd hc) (Nat.lt_trans (Nat.succ_lt_succ hx) (by decide)) fun h' tk l R T k => ?_
  have e : x.cps.toList.take x.cps.size = x.cps.toList := List.take_of_length_le (by simp)
  have T2 := T.2
  rw [e] at T2
  exact ⟨.ref _, upd H s.heap.objs.size (TxO X.prog X.w s.heap.objs.size l), I.laid (t' := tk) k (Nat.le_refl _) (txO_new R), rfl, q _ l (I.hok.fresh (Nat.le_refl _)) T.1 T2⟩
/-- sorted(a set of texts) -/
def rSortedTx (P : Program) (w : World) : List V → Hp → VK → Prop := fun vs H Q => ∃ (a : Addr) (l : List Str), vs = [V.ref a] ∧ H a = some (TxO P w a l) ∧ l.length < 1000 ∧
  ∀ (ys : List Str) (p : Addr), ys.Nodup → ys.Perm l → sortedS ys = true → H p = none → Q (.ref p) (upd H p (.lst (ys.map V.str)))
theorem cr_sortedTx (hc : X.calm = true) : CallR X (.builtin "sorted") (rSortedTx X.prog X.w) := by
  intro pins s σ H vs us Q I r h
  obtain ⟨a, l, rfl, ha, hl, q⟩ := h
  have R : TxAt X.prog X.w s.heap a l := (I.hok a _ ha).1
  rw [Vals.ref1 r]
  have nd : l.Nodup := by
    obtain ⟨_, _, _, _, _, nd⟩ := R
    exact nd
  refine sorted_tx R (I.ok.hd hc) (Nat.lt_trans hl (by decide)) fun s' p out c ys k g o hp hg hS pm so => ?_
  have hlen : (ys.map V.str).length ≤ sizeLine := by
    rw [List.length_map, pm.length_eq]
    exact Nat.le_of_lt (small1000 (Nat.le_of_lt hl))
  have hn : H p = none := I.hok.fresh hp
  have J := I.call (h' := s'.heap) (g' := s'.gens) (d' := s'.drawn) (t' := s'.toks) (ch := []) (Un.laid (o := .lst (ys.map V.str)) k hp hn) (I.hok.laid k hp ⟨hlen, out.toList, c, vals_of_strs hS, hg⟩) (by rw [g]; exact I.bare) (fun _ z => nomatch z)
  have e : s' = { s with heap := s'.heap, gens := s'.gens, drawn := s'.drawn, toks := s'.toks } := by
    cases s'
    cases s
    cases o
    rfl
  rw [e]
  exact ⟨.ref p, _, J, rfl, q ys p (pm.nodup_iff.mpr nd) pm so hn⟩
end
end JB

-- part B2
set_option Elab.async false
set_option linter.all false
set_option maxRecDepth 100000
/-! Rules of our own, 2: for i, c in enumerate(a text). -/
namespace JB
open PySem PySem.Spec PyProof.Rows L2

/-- each turn a new pair of the place and the sign there -/
def Iten (x : Str) : It :=
  ⟨fun i _ => i < x.cps.size, fun i H v H' => ∃ T c, v = .ref T ∧ H T = none ∧ H' = upd H T (.tup [.int (i : Nat), .str ⟨#[c]⟩]) ∧ x.cps[i]? = some c, fun i _ => x.cps.size ≤ i⟩
theorem sign_draws {P : Program} {w : World} {A : Around} (hh : A.handled = none) (it : Addr) (x : Str) (t : Tok) (ty : String) (hty : ty = "str_ascii_iterator" ∨ ty = "str_iterator") :
    Draws P w A it [it] x.cps.size (fun i v => ∃ c u, x.cps[i]? = some c ∧ v = .str ⟨#[c]⟩ u) (fun i h => h.IsStrIter it ty x t i) := by
  rcases hty with rfl | rfl
  · exact Draws.strAscii hh it x t
  · exact Draws.strWide hh it x t
theorem turn_enumS {P : Program} {w : World} {K : PySem.W.Frag} {elts : List Expr} {kk : Nat} {tpos : Pos} (e it : Addr) (x : Str) (t : Tok) (ty : String) (hty : ty = "str_ascii_iterator" ∨ ty = "str_iterator") :
    Turn P w K (.Tuple elts kk tpos) (Iten x) [e, it] e (fun i h => (∃ old, IsEnum h e it ((i : Nat) : Int) old) ∧ h.IsStrIter it ty x t i ∧ e ≠ it) := by
  have two : ∀ b, b ∈ [e, it] → b = e ∨ b = it := fun b hb => by simpa using hb
  refine ⟨by simp, fun i h st b hb => ?_, fun i h h' st k => ?_, ?_, ?_, fun A i s Q E st h => ?_⟩
  · obtain ⟨⟨old, he⟩, ⟨o, ho, hc, hd⟩, _⟩ := st
    rcases two b hb with rfl | rfl
    · exact ⟨_, he, fun v q => nomatch q⟩
    · exact ⟨o, ho, fun v q => by rw [hd] at q; cases q⟩
  · obtain ⟨⟨old, he⟩, ⟨o, ho, r⟩, hne⟩ := st
    exact ⟨⟨old, k e (by simp) _ he⟩, ⟨o, k it (by simp) o ho, r⟩, hne⟩
  · intro X hP hw hK hc i pins s σ H E I hf st hg
    subst hP hw hK
    obtain ⟨⟨old, he⟩, hit, hne⟩ := st
    have hel : e < s.heap.objs.size := Heap.lt_size he
    have hil : it < s.heap.objs.size := by
      obtain ⟨_, q, _⟩ := hit
      exact Heap.lt_size q
    refine wpAny_pyNext_enum_itemD (sign_draws (P := X.prog) (w := X.w) (A := X.A.in1) (I.ok.hd hc) it x t ty hty) he hit hg hne (by simpa using hne) fun v h' tk hv ho hit' hT hsz hk => ?_
    obtain ⟨c, u, hcx, rfl⟩ := hv
    refine ⟨_, rfl, wpAny_letOwnedTupleGo_enum (s := { s with heap := h', toks := tk + 1 }) ho fun h2 he2 sb => ?_⟩
    have hT2 := (sb.2 _ (Nat.ne_of_gt hel)).trans hT
    have new : ObjOk X.prog X.w (upd H s.heap.objs.size (.tup [.int (i : Nat), .str ⟨#[c]⟩])) h2 s.heap.objs.size (.tup [.int (i : Nat), .str ⟨#[c]⟩]) :=
      ⟨by show 2 ≤ sizeLine; decide, [.int i tk, .str ⟨#[c]⟩ u], .cons ⟨_, rfl⟩ (.cons ⟨_, rfl⟩ .nil), ⟨_, hT2, rfl, _, rfl⟩⟩
    have I1 := I.turnedNew (t' := tk + 1) (ch := [e, it]) (fun b ob hb q => (sb.2 b (fun z => hb (by simp [z]))).trans (hk b ob (fun z => hb (by simp [z])) (fun z => hb (by simp [z])) q)) hf (Nat.le_refl _) new
    refine ⟨.ref s.heap.objs.size, _, I1, rfl, ⟨_, c, rfl, I.hok.fresh (Nat.le_refl _), rfl, hcx⟩, ⟨⟨.str ⟨#[c]⟩ u, ?_⟩, ?_, hne⟩, fun b hb => ?_⟩
    · have e1 : ((i + 1 : Nat) : Int) = (i : Int) + 1 := by omega
      rw [e1]
      exact he2
    · obtain ⟨o, q, r⟩ := hit'
      exact ⟨o, (sb.2 it (Ne.symm hne)).trans q, r⟩
    · have hb' : b < s.heap.objs.size := by
        rcases two b hb with rfl | rfl
        · exact hel
        · exact hil
      rw [upd_ne (Nat.ne_of_lt hb')]
      exact (hf b hb).1
  · intro X hP hw hK hc i pins s σ H E I hf st hg
    subst hP hw hK
    obtain ⟨⟨old, he⟩, hit, hne⟩ := st
    obtain ⟨f0, f1, f2, f3, f4, f5⟩ := hf it (by simp)
    have D := sign_draws (P := X.prog) (w := X.w) (A := X.A.in1) (I.ok.hd hc) it x t ty hty
    have hx : x.cps[i]? = none := Array.getElem?_eq_none hg
    have D2 : Draws X.prog X.w X.A.in1 it [it] i (fun _ _ => True) (fun j h => h.IsStrIter it ty x t j ∧ j = i) := by
      refine ⟨fun j h st => D.live j h st.1, fun j h h' st k => ⟨D.frame j h h' st.1 k, st.2⟩, fun j s Q E hj st _ => absurd st.2 (by omega), fun s Q E st hE => ?_⟩
      rcases hty with rfl | rfl
      · exact wpAny_nextOf_ascii_end (I.ok.hd hc) st.1 hx hE
      · exact wpAny_nextOf_wide_end (I.ok.hd hc) st.1 hx hE
    exact wpAny_pyNext_enum_endD D2 he ⟨hit, rfl⟩ fun h' eb => ⟨rfl, I.turned (t' := s.toks) (fun b o hb q => eb b o hb q) f0 f1 f3 f4 f5⟩
  · obtain ⟨⟨_, he⟩, _⟩ := st
    exact wpAny_pyIter_enum he h
def iEnumS (ta : TA) : TI := fun σ H R => ta σ H fun vs H1 => ∃ x, vs = [.str x] ∧ R (Iten x) H1
theorem pi_enumS {X : Cx} {e : Expr} {ta : TA} {p pos tpos : Pos} {elts : List Expr} {kk : Nat} (hg : Gl X "enumerate") (hm : X.mg "enumerate" = none) (ha : PA X [e] ta) (hs : starEach [e] X.env = [(false, eval e X.env)] := by rfl) :
    PI X (.Tuple elts kk tpos) (.Call (.Name "enumerate" p) [e] [] pos) (iEnumS ta) := by
  refine ⟨fun pins s σ H R I h => ?_⟩
  refine Call_ (ld_blt I hg hm boot_enumerate (PyProof.Rows.callWith_type1 (thn (ha.run pos pins s σ H _ I h) fun us s1 ⟨vs, H1, I1, r1, q1⟩ => ?_) hs rfl))
  obtain ⟨x, rfl, q⟩ := q1
  cases r1 with
  | cons r rr =>
    cases rr
    obtain ⟨t, rfl⟩ := r
    have hty : strIterType x = "str_ascii_iterator" ∨ strIterType x = "str_iterator" := by
      unfold strIterType
      split
      · exact .inl rfl
      · exact .inr rfl
    refine call_enumerate_str fun h' he hit hsz hk => wpAny_pyIter_enum he ?_
    refine ⟨s1.heap.objs.size + 1, [s1.heap.objs.size + 1, s1.heap.objs.size], _, _, H1, rfl, I1.kept (t' := s1.toks) hk, turn_enumS (s1.heap.objs.size + 1) s1.heap.objs.size x t _ hty, ⟨⟨.none, he⟩, hit, Nat.succ_ne_self _⟩, fun b hb => ?_, q⟩
    have hle : s1.heap.objs.size ≤ b := by
      rcases (show b = s1.heap.objs.size + 1 ∨ b = s1.heap.objs.size by simpa using hb) with z | z
      · rw [z]
        exact Nat.le_succ _
      · rw [z]
        exact Nat.le_refl _
    exact I1.fpOk hle (I1.hok.fresh hle)
theorem walk_enumS {x : Str} : Walk (Iten x) x.cps.size (fun _ => True) (YPair (fun i => some (.int (i : Nat))) (fun i => x.cps[i]?.map fun c => V.str ⟨#[c]⟩)) := by
  refine ⟨fun i _ hi q => hi, fun _ q => Nat.le_refl _, fun i H v H' _ q y => ?_⟩
  obtain ⟨T, c, h1, h2, h3, h4⟩ := y
  exact ⟨T, .int (i : Nat), .str ⟨#[c]⟩, h1, h2, h3, rfl, by simp [h4]⟩
end JB

-- part B3
set_option Elab.async false
set_option linter.all false
set_option maxRecDepth 100000
/-! Rules of our own, 4: {t: v}, t a tuple. -/
namespace JB
open PySem PySem.Spec PyProof.Rows L2
/-- the new dict stands empty while key and value are made -/
def tDisp1T (tk tv : TE) : TE := fun σ H Q => ∀ p, H p = none → tk σ (upd H p (.dT [])) fun x H1 => tv σ H1 fun y H2 => H2 p = some (.dT []) ∧ ∃ (b : Addr) (ks : List Key), x = .ref b ∧ H2 b = some (.tup (ks.map kV)) ∧ Q (.ref p) (upd H2 p (.dT [(ks, y)]))
theorem pe_disp1T {X : Cx} {pos : Pos} {k v : Expr} {tk tv : TE} (hu : X.A.units + 1 < cLine) (hk : PE X k tk) (hv : PE X v tv) : PE X (.Dict [some k] [v] pos) (tDisp1T tk tv) := by
  refine ⟨fun pins s σ H Q I q => ?_⟩
  have hn := I.hok.fresh (Nat.le_refl s.heap.objs.size)
  have I1 := I.laid (a := s.heap.objs.size) (o := .dT []) (h' := s.heap.push { cls := .type "dict", data := .dict #[] }) (t' := s.toks) (fun _ _ q => Heap.get?_push_of_some _ q) (Nat.le_refl _) (dt_empty s.heap I.big)
  have hl := pairTrees_length [some k] [v] X.env pos rfl rfl
  rw [arm_eval_Dict, zip_pairTrees [some k] [v] X.env pos rfl rfl, dictDisplay_pairs (pairTrees [some k] [v] X.env pos) (fun e => by rw [e] at hl; cases hl) (by rw [hl]; show 1 < 17; decide)]
  refine wpAny_bind (wpAny_standAt (wpAny_bind (wpAny_subDictH (knd := tupleKind (mixKind X.prog X.w)) (show X.A.units < cLine from Nat.lt_of_succ_lt hu) (by rw [hl]; show 1 ≤ 15; decide) ?_)))
  refine pairTrees_cons_walk (thn (hk.run pins _ σ _ _ I1 (q _ hn)) fun u s1 ⟨x, H1, I2, rx, q1⟩ => thn (hv.run pins s1 σ H1 _ I2 q1) fun wv s2 ⟨y, H2, I3, ry, e, b, ks, ex, eb, q2⟩ => pairTrees_nil_walk ?_)
  subst ex
  cases (show u = Value.ref b from rx)
  obtain ⟨z, hd, xs, rel, dd⟩ := dt_of I3.hok e
  cases rel
  have hkey := key_of I3.hok eb
  refine ⟨[(ks, b, wv)], ⟨rfl, rfl, hkey, trivial⟩, dd, fun h' tk dd' hs => wpAny_pure ?_⟩
  obtain ⟨o, es, ep, ho, h2, h3, h4, _, h5⟩ := dd'
  have hk2 : (upd H2 s.heap.objs.size (.dT [(ks, y)])) b = some (.tup (ks.map kV)) := by
    rw [upd_ne (ne_of eb e (fun z => nomatch z))]
    exact eb
  have w := d_write (t' := tk) (ob := .dT [(ks, y)]) I3 (by rw [e]; exact True.intro) hs ⟨o, ho⟩ ⟨by show 1 ≤ sizeLine; decide, hd, [(ks, b, wv)], .cons ⟨rfl, hk2, ry⟩ .nil, o, es, ep, ho, h2, h3, h4, h5⟩
  exact ⟨.ref s.heap.objs.size, _, w, rfl, q2⟩
end JB

-- part B4
set_option Elab.async false
set_option linter.all false
set_option maxRecDepth 100000
/-! Rules of our own, 5: a part whose answer is told ahead; frozen dicts; heaps. -/
namespace JB
open PySem PySem.Spec PyProof.Rows L2
section
variable {X : Cx} {e : Expr}
/-- the answer is told ahead: the ways of the part are joined -/
def tKnT (t : TT) : TT := fun σ H Q => ∃ c : Bool, (∀ Q' : Bool → Hp → Prop, Q' c H → t σ H Q') ∧ Q c H
theorem pt_kn {t : TT} (h : PT X e t) : PT X e (tKnT t) := ⟨fun pins s σ H Q I ⟨_, q1, q2⟩ => h.run pins s σ H Q I (q1 Q q2)⟩
def tKn (t : TE) : TE := fun σ H Q => ∃ v : V, (∀ Q' : VK, Q' v H → t σ H Q') ∧ Q v H
theorem pe_kn {t : TE} (h : PE X e t) : PE X e (tKn t) := ⟨fun pins s σ H Q I ⟨_, q1, q2⟩ => h.run pins s σ H Q I (q1 Q q2)⟩
/-- .. or what it gives and the heap behind it are told by a statement -/
def tMd (t : TE) : TE := fun σ H Q => ∃ R : V → Hp → Prop, t σ H R ∧ ∀ v H', R v H' → Q v H'
theorem pe_md {t : TE} (h : PE X e t) : PE X e (tMd t) := ⟨fun pins s σ H Q I ⟨_, q1, q2⟩ => thn (h.run pins s σ H _ I q1) fun u s' ⟨v, H', I', r, q⟩ => ⟨v, H', I', r, q2 v H' q⟩⟩
def tMdT (t : TT) : TT := fun σ H Q => ∃ R : Bool → Hp → Prop, t σ H R ∧ ∀ c H', R c H' → Q c H'
theorem pt_md {t : TT} (h : PT X e t) : PT X e (tMdT t) := ⟨fun pins s σ H Q I ⟨_, q1, q2⟩ => thn (h.run pins s σ H _ I q1) fun c s' ⟨H', I', q⟩ => ⟨H', I', q2 c H' q⟩⟩
end
theorem same_put {H H' : Hp} {p : Addr} {o : HO} (s : Same H H') (h : H p = none) : Same H (upd H' p o) := fun b u q => by
  rw [upd_ne (ne_of_none q h)]
  exact s b u q
theorem DGet_f {H : Hp} {a : Addr} {o : Obj} {kvs : List (Key × V)} {k : Key} (e : H a = some (.frz o (.dK kvs))) : DGet H a (kV k) (valV kvs k) := .inl ⟨kvs, k, .inr ⟨o, e⟩, rfl, rfl⟩
end JB

-- part C0
set_option Elab.async false
set_option linter.all false
set_option maxRecDepth 100000
/-! The text by places, the films as texts, the dicts of letters. -/
namespace JC
open PySem PySem.Spec PyProof.Rows L2 JB

/-! ### the text -/
def topS (i : Nat) : Stmt := PySem.Challenge.pw_jumpcuts_k09_whole_common.main.body.getD i (.Pass ⟨0, 0, 0, 0⟩)
abbrev sNeedFilm : Stmt := topS 7
abbrev sNeedShort : Stmt := topS 8
abbrev sNexts : Stmt := topS 10
abbrev sBefore : Stmt := topS 13
abbrev sPair : Stmt := topS 14
abbrev sTails : Stmt := topS 15
abbrev sCount : Stmt := topS 16
abbrev sCommon : Stmt := topS 17
abbrev sLongest : Stmt := topS 18
abbrev sMeets : Stmt := topS 19
abbrev sTaken : Stmt := topS 21
abbrev sAlike : Stmt := topS 22
abbrev sIs : Stmt := topS 23
abbrev sFilm : Stmt := topS 24
abbrev sNext : Stmt := topS 25
abbrev sAll : Stmt := topS 26
abbrev sParts : Stmt := topS 27
abbrev sLaw : Stmt := topS 28

/-! ### texts -/
abbrev Tx (l : List Nat) : Str := ⟨l.toArray⟩
theorem tx_inj {a b : List Nat} (h : Tx a = Tx b) : a = b := by
  have q : a.toArray = b.toArray := congrArg Str.cps h
  simpa using q
theorem tx_eq (a b : List Nat) : decide (V.str (Tx a) = V.str (Tx b)) = decide (a = b) := by
  by_cases e : a = b
  · subst e
    simp
  · rw [decide_eq_false e, decide_eq_false]
    intro q
    injection q with q
    exact e (tx_inj q)
theorem tx_len (l : List Nat) : (Tx l).length = l.length := by
  show l.toArray.size = l.length
  simp
theorem tx_add (a b : List Nat) : Tx a ++ Tx b = Tx (a ++ b) := by
  show (⟨a.toArray ++ b.toArray⟩ : Str) = ⟨(a ++ b).toArray⟩
  simp
theorem tx_at {l : List Nat} {i : Nat} (h : i < l.length) : atI (Tx l).cps.toList ((i : Nat) : Int) = some (at0 l i) := by
  refine atI_nat ?_
  show l[i]? = some (l.getD i 0)
  simp [h]
theorem tx_last {l : List Nat} (h : l ≠ []) : atI (Tx l).cps.toList (-1) = some (at0 l (l.length - 1)) := by
  rcases List.eq_nil_or_concat l with e | ⟨m, x, e⟩
  · exact absurd e h
  · have e2 : l = m ++ [x] := by rw [e, List.concat_eq_append]
    subst e2
    rw [show at0 (m ++ [x]) ((m ++ [x]).length - 1) = x by simp [at0]]
    exact atI_last m x
theorem tx_small {l : List Nat} (h : l.length ≤ 1000) : (Tx l).length ≤ sizeLine := by
  rw [tx_len]
  exact Nat.le_of_lt (small1000 h)
theorem one_eq (a b : Nat) : decide (V.str (⟨#[a]⟩ : Str) = V.str (⟨#[b]⟩ : Str)) = decide (a = b) := by
  have q := tx_eq [a] [b]
  by_cases e : a = b
  · subst e
    simp
  · rw [decide_eq_false e]
    rw [decide_eq_false (fun z => e (List.cons.inj z).1)] at q
    exact q

/-! ### the dicts of letters -/
def encN (d : List (Nat × Nat)) : List (Key × V) := d.map fun p => (Sum.inr (Tx [p.1]), V.int (p.2 : Nat))
theorem key_tx (a b : Nat) : ((Sum.inr (Tx [a]) : Key) = Sum.inr (Tx [b])) ↔ a = b := by
  constructor
  · intro e
    injection e with e
    exact (List.cons.inj (tx_inj e)).1
  · rintro rfl
    rfl
theorem encN_val (x : Nat) : ∀ d : List (Nat × Nat), valV (encN d) (Sum.inr (Tx [x]) : Key) = (lk d x).map fun q => V.int (q : Nat)
  | [] => rfl
  | p :: d => by
    have ih := encN_val x d
    by_cases e : p.1 = x
    · have h1 : valV (encN (p :: d)) (Sum.inr (Tx [x]) : Key) = some (V.int (p.2 : Nat)) := valV_pos (p := ((Sum.inr (Tx [p.1]) : Key), V.int (p.2 : Nat))) ((key_tx _ _).mpr e)
      rw [h1]
      unfold lk
      rw [List.find?_cons_of_pos (by simp [e])]
      rfl
    · have h1 : valV (encN (p :: d)) (Sum.inr (Tx [x]) : Key) = valV (encN d) (Sum.inr (Tx [x]) : Key) := valV_neg (p := ((Sum.inr (Tx [p.1]) : Key), V.int (p.2 : Nat))) (fun z => e ((key_tx _ _).mp z))
      rw [h1, ih]
      unfold lk
      rw [List.find?_cons_of_neg (by simp [e])]
theorem encN_put {d : List (Nat × Nat)} {x q : Nat} (h : lk d x = none) : putK (encN d) (Sum.inr (Tx [x]) : Key) (V.int (q : Nat)) = encN (d ++ [(x, q)]) := by
  rw [putK_new _ (by rw [encN_val, h] <;> rfl)]
  unfold encN
  rw [List.map_append] <;> rfl
theorem encN_len (d : List (Nat × Nat)) : (encN d).length = d.length := List.length_map _
theorem nxs_len (f : List Nat) (p : Nat) : ∀ i, (nxs f p i).length ≤ i
  | 0 => Nat.le_refl _
  | i + 1 => by
    have ih := nxs_len f p i
    unfold nxs
    split
    · rw [List.length_append, List.length_singleton]
      omega
    · omega
theorem small {n : Nat} (h : n ≤ 1000) : n ≤ sizeLine := Nat.le_of_lt (small1000 h)
theorem iteB {b : Bool} {A B : Prop} (h1 : b = true → A) (h2 : b = false → B) : if b = true then A else B := by
  cases b with
  | true => exact iteT (h1 rfl)
  | false => exact iteF (h2 rfl)
end JC

-- part C1
set_option Elab.async false
set_option linter.all false
set_option maxRecDepth 100000
/-! nexts -/
namespace JC
open PySem PySem.Spec PyProof.Rows L2 JB
theorem scNexts : FnScope ["film", "place", "found", "letter", "end"] ["film", "place"] (defScope sNexts) := ⟨rfl, rfl, rfl, by decide +kernel, rfl, by decide +kernel, by decide +kernel⟩
def spNexts : Sp := fun vs H Q _ => ∃ (f : List Nat) (p : Nat), vs = [.str (Tx f), .int (p : Nat)] ∧ p < f.length ∧ f.length ≤ 200 ∧
  ∀ H' d, Same H H' → H d = none → H' d = some (.dK (encN (nexts f p))) → Q (.ref d) H'
section
variable {P : Program} {w : World} {K : PySem.W.Frag} {mg : Str → Option Value} {base : Heap}
theorem ok_nexts {f : Addr} {fd : FuncData} (F : Fun K "nexts" "nexts" sNexts f fd) (mR : mg "range" = none) (mL : mg "len" = none) : FnOk P w K mg base CX0 1 f fd ["film", "place"] spNexts := by
  refine F.ok scNexts (fun vs H Q E h => ?_) (fun cdv A outer s H vs Q E hr h => ?_)
  · obtain ⟨f, p, rfl, _⟩ := h
    rfl
  · obtain ⟨f, p, rfl, hp, hf, k⟩ := h
    have hu := hu_of hr
    refine ⟨_, pss_cons (ps_par (i := 2) (j := 3) rfl scNexts.nd rfl rfl (by decide) rfl rfl (pa_cons pe_dnewK (pa_cons (pe_ix ix_str (pv 0) (pv 1) (fun _ _ => rfl)) pa_nil)) (by rfl))
      (pss_cons (ps_for PassesOwn.never rfl (pi_range2 rfl mR (pa_cons (pv 1) (pa_cons (pe_op op_sub (pe_callB call_len_str (by rfl) mL PySem.boot_len (pa_cons (pv 0) pa_nil)) pe_int) pa_nil))) (pg_name (i := 4) scNexts.nd rfl (.inl rfl))
        (pss_one (ps_if (PW.pt (pw_and (pt_cmpR op_eq (pe_ix ix_str (pv 0) (pv 4) (fun _ _ => rfl)) (pv 3) (nomark _)) (pw_and1 (pt_cmp (pc_dnotin hu (pe_ix ix_str (pv 0) (pe_op op_add (pv 4) pe_int) (fun _ _ => rfl)) (pv 2))))))
          (pss_one (ps_dput hu (pv 2) (pe_ix ix_str (pv 0) (pe_op op_add (pv 4) pe_int) (fun _ _ => rfl)) (pe_op op_add (pv 4) pe_int) rfl)) pss_nil)))
      (pss_one (ps_ret (pv 2)))), ?_⟩
    intro d nd
    refine ⟨_, rfl, _, rfl, _, _, _, rfl, rfl, tx_small (by omega), tx_at hp, _, _, rfl, ?_⟩
    have s1 : Same H (upd H d (.dK [])) := new_same nd _
    refine ⟨_, rfl, _, rfl, _, rfl, tx_small (by omega), _, _, rfl, rfl, (p : Int), (f.length : Int) - 1, by rw [tx_len] <;> rfl, by omega, ?_⟩
    have hn : ((f.length : Int) - 1 - (p : Int)).toNat = f.length - 1 - p := by omega
    rw [hn]
    refine for_range (lo := (p : Int)) (n := f.length - 1 - p) (fun i σ H2 => ∃ v, σ = [some (.str (Tx f)), some (.int (p : Nat)), some (.ref d), some (.str ⟨#[at0 f p]⟩), v] ∧ Same H H2 ∧ H2 d = some (.dK (encN (nxs f p i))))
      ⟨none, rfl, s1, upd_same⟩ ?_ ?_
    · rintro i σ H2 hi ⟨v, rfl, s2, hd⟩
      have e1 : (p : Int) + (i : Int) = ((p + i : Nat) : Int) := by omega
      have e2 : ((p + i : Nat) : Int) + 1 = ((p + i + 1 : Nat) : Int) := by omega
      have hlen := nxs_len f p i
      rw [e1]
      have a1 := tx_at (l := f) (i := p + i) (by omega)
      have a2 := tx_at (l := f) (i := p + i + 1) (by omega)
      refine ⟨_, rfl, _, rfl, _, _, _, rfl, rfl, tx_small (by omega), a1, _, rfl, rfl, _, rfl, ?_⟩
      rw [one_eq]
      refine iteB (fun c => ?_) (fun c => ?_)
      · refine ⟨_, rfl, _, rfl, _, _, rfl, rfl, _, _, _, rfl, rfl, tx_small (by omega), by rw [e2]; exact a2, _, rfl, d, _, rfl, DGet.k (k := (Sum.inr (Tx [at0 f (p + i + 1)]) : Key)) hd, _, rfl, ?_⟩
        rw [encN_val]
        have c1 : at0 f (p + i) = at0 f p := of_decide_eq_true c
        refine iteB (fun c2 => ?_) (fun c2 => ?_)
        · have c3 : lk (nxs f p i) (at0 f (p + i + 1)) = none := by
            cases z : lk (nxs f p i) (at0 f (p + i + 1)) with
            | none => rfl
            | some q => rw [z] at c2; cases c2
          refine ⟨_, rfl, _, _, rfl, rfl, _, rfl, _, rfl, _, rfl, _, _, rfl, rfl, _, _, _, rfl, rfl, tx_small (by omega), by rw [e2]; exact a2, d, _, rfl,
            DPut.k (k := (Sum.inr (Tx [at0 f (p + i + 1)]) : Key)) hd (by rw [encN_len]; exact small1000 (by omega)), ?_⟩
          refine ⟨_, rfl, fun b o q => ?_, ?_⟩
          · rw [upd_ne (ne_of_none q nd)]
            exact s2 b o q
          · rw [upd_same]
            show some (HO.dK (putK (encN (nxs f p i)) (Sum.inr (Tx [at0 f (p + i + 1)]) : Key) (V.int (((p + i : Nat) : Int) + 1)))) = _
            rw [e2, encN_put c3]
            have e3 : nxs f p (i + 1) = nxs f p i ++ [(at0 f (p + i + 1), p + i + 1)] := if_pos ⟨c1, c3⟩
            rw [e3]
        · refine ⟨_, rfl, s2, ?_⟩
          have e3 : nxs f p (i + 1) = nxs f p i := if_neg (fun z => by rw [z.2] at c2; cases c2)
          rw [e3]
          exact hd
      · refine ⟨_, rfl, s2, ?_⟩
        have e3 : nxs f p (i + 1) = nxs f p i := if_neg (fun z => by rw [decide_eq_true z.1] at c; cases c)
        rw [e3]
        exact hd
    · rintro σ H2 ⟨v, rfl, s2, hd⟩
      exact ⟨_, rfl, k H2 d s2 nd hd⟩
end
end JC

-- part C2
set_option Elab.async false
set_option linter.all false
set_option maxRecDepth 100000
/-! the names of the top; need_film, need_short -/
namespace JC
open PySem PySem.Spec PyProof.Rows L2 JB
/-- what the module's names hold -/
structure Gs (mg : Str → Option Value) : Prop where
  range : mg "range" = none
  len : mg "len" = none
  isinstance : mg "isinstance" = none
  str : mg "str" = none
  enumerate : mg "enumerate" = none
  sorted : mg "sorted" = none
  set : mg "set" = none
  min : mg "min" = none
  max : mg "max" = none
  tuple : mg "tuple" = none
  list : mg "list" = none
  int : mg "int" = none
  bool : mg "bool" = none
  letters : ∃ t, mg "LETTERS" = some (.str "abcdefgh" t)
  film : ∃ t, mg "MOST_FILM" = some (.int 200 t)
  goal : ∃ t, mg "MOST_GOAL" = some (.int 12 t)
/-- a def of the top that keeps its promise -/
structure Dn (P : Program) (w : World) (K : PySem.W.Frag) (mg : Str → Option Value) (base : Heap) (k : Nat) (x : Str) (ps : List Str) (sp : Sp) (f : Addr) (fd : FuncData) : Prop where
  ok : FnOk P w K mg base CX0 k f fd ps sp
  b : Binds K fd ps []
  kp : PySem.W.keepIn K (.ref f) = true
  m : mg x = some (.ref f)

/-- a film -/
def Flm (f : List Nat) : Prop := 1 ≤ f.length ∧ f.length ≤ 200 ∧ ∀ c ∈ f, 97 ≤ c ∧ c ≤ 104
theorem abc : ("abcdefgh" : Str).cps.toList = [97, 98, 99, 100, 101, 102, 103, 104] := by decide +kernel
theorem abc_mem {c : Nat} (h : 97 ≤ c ∧ c ≤ 104) : c ∈ ("abcdefgh" : Str).cps.toList := by
  rw [abc]
  have e : c = 97 ∨ c = 98 ∨ c = 99 ∨ c = 100 ∨ c = 101 ∨ c = 102 ∨ c = 103 ∨ c = 104 := by omega
  rcases e with rfl | rfl | rfl | rfl | rfl | rfl | rfl | rfl <;> decide
theorem Flm.at {f : List Nat} (h : Flm f) {i : Nat} (hi : i < f.length) : 97 ≤ at0 f i ∧ at0 f i ≤ 104 := by
  refine h.2.2 _ ?_
  unfold at0
  rw [List.getD_eq_getElem?_getD, List.getElem?_eq_getElem hi]
  exact List.getElem_mem hi
theorem Flm.ne {f : List Nat} (h : Flm f) : f ≠ [] := fun e => by
  have := h.1
  rw [e] at this
  cases this
theorem scNeedFilm : FnScope ["value", "place", "letter"] ["value"] (defScope sNeedFilm) := ⟨rfl, rfl, rfl, by decide +kernel, rfl, by decide +kernel, by decide +kernel⟩
def spNeedFilm : Sp := fun vs H Q _ => ∃ f : List Nat, vs = [.str (Tx f)] ∧ Flm f ∧ ∀ H', Same H H' → Q .non H'
theorem scNeedShort : FnScope ["film", "most"] ["film", "most"] (defScope sNeedShort) := ⟨rfl, rfl, rfl, by decide +kernel, rfl, by decide +kernel, by decide +kernel⟩
def spNeedShort : Sp := fun vs H Q _ => ∃ (f : List Nat) (m : Int), vs = [.str (Tx f), .int m] ∧ f.length ≤ 200 ∧ (f.length : Int) ≤ m ∧ Q .non H
section
variable {P : Program} {w : World} {K : PySem.W.Frag} {mg : Str → Option Value} {base : Heap}
theorem ok_need_film {f : Addr} {fd : FuncData} (F : Fun K "need_film" "need_film" sNeedFilm f fd) (M : Gs mg) : FnOk P w K mg base CX0 1 f fd ["value"] spNeedFilm := by
  refine F.ok scNeedFilm (fun vs H Q E h => ?_) (fun cdv A outer s H vs Q E hr h => ?_)
  · obtain ⟨f, rfl, _⟩ := h
    rfl
  · obtain ⟨f, rfl, hf, k⟩ := h
    obtain ⟨tl, ml⟩ := M.letters
    obtain ⟨tf, mf⟩ := M.film
    refine ⟨_, pss_cons (ps_if (PW.pt (pw_or (pt_not (pt_val (pe_callB call_isi (by rfl) M.isinstance boot_isinstance (pa_cons (pv 0) (pa_cons (pe_bltn (v := .ty "str") (by rfl) M.str (by decide +kernel) rfl) pa_nil)))))
          (pw_or1 (pt_not (pt_chain op_le op_le pe_int (pe_callB call_len_str (by rfl) M.len PySem.boot_len (pa_cons (pv 0) pa_nil)) (pe_glob (v := .int 200) rfl mf ⟨_, rfl⟩))))))
        (pss_one ps_never) pss_nil)
      (pss_one (ps_for PassesOwn.never rfl (pi_enumS rfl M.enumerate (pa_cons (pv 0) pa_nil)) (pg_tup rfl (pgs_cons (pg_name (i := 1) scNeedFilm.nd rfl (.inl rfl)) (pgs_cons (pg_name (i := 2) scNeedFilm.nd rfl (.inl rfl)) pgs_nil)))
        (pss_one (ps_if (pt_cmpR op_notIn_sign (pv 2) (pe_glob (v := .str "abcdefgh") rfl ml ⟨_, rfl⟩) rfl) (pss_one ps_never) pss_nil)))), ?_⟩
    have h1 := hf.1
    have h2 := hf.2.1
    refine ⟨_, rfl, _, _, _, _, true, rfl, .ty "str", .base (.str _), kit_ty (by decide +kernel), true, rfl, iteF ?_⟩
    refine ⟨_, rfl, _, rfl, tx_small (by omega), _, _, rfl, rfl, _, rfl, ?_⟩
    rw [tx_len, decide_eq_true (show (1 : Int) ≤ (f.length : Nat) by omega)]
    refine iteT ⟨_, _, rfl, rfl, _, rfl, ?_⟩
    rw [decide_eq_true (show ((f.length : Nat) : Int) ≤ 200 by omega)]
    refine iteF ?_
    refine ⟨_, rfl, _, rfl, for_it walk_enumS (fun i σ H2 => ∃ v1 v2, σ = [some (.str (Tx f)), v1, v2] ∧ Same H H2) ⟨none, none, rfl, Same.refl _⟩ (fun _ _ _ _ _ => trivial) ?_ ?_⟩
    · rintro i x σ H2 H3 hi ⟨v1, v2, rfl, s2⟩ ⟨T, a, b, rfl, nT, rfl, e1, e2⟩
      have hi' : i < f.length := by simpa using hi
      cases e1
      have e3 : b = .str ⟨#[at0 f i]⟩ := by
        have q : (Tx f).cps[i]? = some (at0 f i) := by
          show f.toArray[i]? = some (f.getD i 0)
          simp [hi']
        have e4 : ((Tx f).cps[i]?).map (fun c => V.str ⟨#[c]⟩) = some b := e2
        rw [q] at e4
        exact (Option.some.inj e4).symm
      subst e3
      refine ⟨T, _, rfl, .inl (.inl upd_same), rfl, _, _, rfl, _, _, rfl, rfl, ?_⟩
      refine ⟨_, rfl, _, _, rfl, rfl, _, rfl, ?_⟩
      rw [decide_eq_true (abc_mem (hf.at hi'))]
      refine iteF ?_
      exact ⟨_, _, rfl, s2.trans (new_same nT _)⟩
    · rintro σ H2 ⟨v1, v2, rfl, s2⟩
      exact k H2 s2
theorem ok_need_short {f : Addr} {fd : FuncData} (F : Fun K "need_short" "need_short" sNeedShort f fd) (M : Gs mg) : FnOk P w K mg base CX0 1 f fd ["film", "most"] spNeedShort := by
  refine F.ok scNeedShort (fun vs H Q E h => ?_) (fun cdv A outer s H vs Q E hr h => ?_)
  · obtain ⟨f, m, rfl, _⟩ := h
    rfl
  · obtain ⟨f, m, rfl, hf, hm, k⟩ := h
    refine ⟨_, pss_one (ps_if (pt_cmpR op_gt (pe_callB call_len_str (by rfl) M.len PySem.boot_len (pa_cons (pv 0) pa_nil)) (pv 1) (nomark _)) (pss_one ps_never) pss_nil), ?_⟩
    refine ⟨_, rfl, _, rfl, tx_small (by omega), _, rfl, _, _, rfl, rfl, _, rfl, ?_⟩
    rw [tx_len, decide_eq_false (by omega)]
    exact iteF k
end
end JC

-- part C3
set_option Elab.async false
set_option linter.all false
set_option maxRecDepth 100000
/-! common_tails, count_common, meets -/
namespace JC
open PySem PySem.Spec PyProof.Rows L2 JB
/-! ### the table of pairs of places -/
def key2 (a b : Nat) : List Key := [Sum.inl (a : Int), Sum.inl (b : Int)]
theorem key2_eq {a b c d : Nat} : (key2 a b = key2 c d) ↔ a = c ∧ b = d := by
  unfold key2
  simp only [List.cons.injEq, Sum.inl.injEq, and_true]
  omega
theorem put2 {kvs : List (List Key × V)} (a b c d : Nat) (v : V) : valV (putK kvs (key2 c d) v) (key2 a b) = if a = c ∧ b = d then some v else valV kvs (key2 a b) := by
  rw [valV_put]
  by_cases e : a = c ∧ b = d
  · rw [if_pos e, if_pos (key2_eq.mpr e)]
  · rw [if_neg e, if_neg (fun q => e (key2_eq.mp q))]
theorem ne_new {H : Hp} {p q : Addr} {o : HO} (h : (upd H p o) q = none) : q ≠ p := fun e => by
  rw [e, upd_same] at h
  cases h
theorem new_old {H : Hp} {p q : Addr} {o : HO} (h : (upd H p o) q = none) : H q = none := by
  rw [upd_ne (ne_new h)] at h
  exact h
/-- a range that falls to 0 -/
theorem fall {n : Nat} (h : n ≤ 1000) : RgC ((n : Int) - 1) (-1) (-1) n := by
  have q := RgC.neg (i := (n : Int) - 1) (j := -1) (by omega) (by omega) (by decide) (by decide)
  have e : ((n : Int) - 1 - (-1)).toNat = n := by omega
  rw [e] at q
  exact q
theorem fall_at {n i : Nat} (h : i < n) : ((n : Int) - 1) + ((i : Nat) : Int) * (-1) = ((n - 1 - i : Nat) : Int) := by omega
theorem sum_snoc {α : Type} (h : α → Nat) {l : List α} {i : Nat} {x : α} (e : l[i]? = some x) : ((l.take (i + 1)).map h).sum = ((l.take i).map h).sum + h x := by
  rw [List.take_add_one, e]
  simp
theorem scTails : FnScope ["one", "other", "found", "a", "first", "b", "second", "ways", "letter", "place"] ["one", "other"] (defScope sTails) := ⟨rfl, rfl, rfl, by decide +kernel, rfl, by decide +kernel, by decide +kernel⟩
def Tab (f g : List Nat) (kvs : List (List Key × V)) (D : Nat → Nat → Prop) [∀ a b, Decidable (D a b)] : Prop :=
  ∀ a b, valV kvs (key2 a b) = if D a b ∧ a < f.length ∧ b < g.length ∧ at0 f a = at0 g b then some (.int (W f g a b : Nat)) else none
def spTails : Sp := fun vs H Q _ => ∃ f g : List Nat, vs = [.str (Tx f), .str (Tx g)] ∧ 1 ≤ f.length ∧ f.length ≤ 200 ∧ 1 ≤ g.length ∧ g.length ≤ 200 ∧
  ∀ H' d kvs, Same H H' → H d = none → H' d = some (.dT kvs) → Tab f g kvs (fun _ _ => True) → Q (.ref d) H'
abbrev nx_ps : List Str := ["film", "place"]
section
variable {P : Program} {w : World} {K : PySem.W.Frag} {mg : Str → Option Value} {base : Heap}
theorem ok_tails {f : Addr} {fd : FuncData} (F : Fun K "common_tails" "common_tails" sTails f fd) (M : Gs mg) {fn : Addr} {fdn : FuncData} (N : Dn P w K mg base 1 "nexts" ["film", "place"] spNexts fn fdn) :
    FnOk P w K mg base CX0 2 f fd ["one", "other"] spTails := by
  refine F.ok scTails (fun vs H Q E h => ?_) (fun cdv A outer s H vs Q E hr h => ?_)
  · obtain ⟨f, g, rfl, _⟩ := h
    rfl
  · obtain ⟨f, g, rfl, f1, f2, g1, g2, k⟩ := h
    have hu := hu_of hr
    refine ⟨_, pss_cons (ps_set (i := 2) scTails.nd rfl (.inl rfl) pe_dnewT)
      (pss_cons (ps_for PassesOwn.never rfl (pi_range3 rfl M.range (pa_cons (pe_op op_sub (pe_callB call_len_str (by rfl) M.len PySem.boot_len (pa_cons (pv 0) pa_nil)) pe_int) (pa_cons (pe_un un_neg pe_int) (pa_cons (pe_un un_neg pe_int) pa_nil)))) (pg_name (i := 3) scTails.nd rfl (.inl rfl))
        (pss_cons (ps_set (i := 4) scTails.nd rfl (.inl rfl) (pe_frz (pe_call N.ok hr rfl N.m N.kp N.b .nil pass0 (pa_cons (pv 0) (pa_cons (pv 3) pa_nil)))))
        (pss_one (ps_for PassesOwn.never rfl (pi_range3 rfl M.range (pa_cons (pe_op op_sub (pe_callB call_len_str (by rfl) M.len PySem.boot_len (pa_cons (pv 1) pa_nil)) pe_int) (pa_cons (pe_un un_neg pe_int) (pa_cons (pe_un un_neg pe_int) pa_nil)))) (pg_name (i := 5) scTails.nd rfl (.inl rfl))
          (pss_one (ps_if (pt_cmpR op_eq (pe_ix ix_str (pv 0) (pv 3) (fun _ _ => rfl)) (pe_ix ix_str (pv 1) (pv 5) (fun _ _ => rfl)) (nomark _))
            (pss_cons (ps_set (i := 6) scTails.nd rfl (.inl rfl) (pe_frz (pe_call N.ok hr rfl N.m N.kp N.b .nil pass0 (pa_cons (pv 1) (pa_cons (pv 5) pa_nil)))))
            (pss_cons (ps_set (i := 7) scTails.nd rfl (.inl rfl) (pe_kn (pe_ifExp (PW.pt (pw_and (pt_cmpR op_eq (pe_ix ix_str (pv 0) (pv 3) (fun _ _ => rfl)) (pe_ix ix_str (pv 0) (pe_un un_neg pe_int) (fun _ _ => rfl)) (nomark _))
                (pw_and1 (pt_cmpR op_eq (pe_ix ix_str (pv 1) (pv 5) (fun _ _ => rfl)) (pe_ix ix_str (pv 1) (pe_un un_neg pe_int) (fun _ _ => rfl)) (nomark _))))) pe_int pe_int)))
            (pss_cons (ps_for PassesOwn.never rfl (pi_items (pv 4)) (pg_tup rfl (pgs_cons (pg_name (i := 8) scTails.nd rfl (.inl rfl)) (pgs_cons (pg_name (i := 9) scTails.nd rfl (.inl rfl)) pgs_nil)))
              (pss_one (ps_if (pt_cmp (pc_din hu (pv 8) (pv 6)))
                (pss_one (ps_aug (i := 7) scTails.nd rfl (.inl rfl) (pe_dget2 hu (pv 2) (pe_tup (pa_cons (pv 9) (pa_cons (pe_dget hu (pv 6) (pv 8) (fun _ _ => rfl)) pa_nil))) pe_int ⟨rfl, rfl, rfl, rfl⟩) ip_add)) pss_nil)))
            (pss_one (ps_dput hu (pv 2) (pe_tup (pa_cons (pv 3) (pa_cons (pv 5) pa_nil))) (pv 7) rfl))))) pss_nil))))))
      (pss_one (ps_ret (pv 2)))), ?_⟩
    intro d nd
    have s1 : Same H (upd H d (.dT [])) := new_same nd _
    have fne : f ≠ [] := fun e => by rw [e] at f1; cases f1
    have gne : g ≠ [] := fun e => by rw [e] at g1; cases g1
    refine ⟨_, rfl, _, rfl, tx_small (by omega), _, _, rfl, rfl, _, rfl, _, rfl, (f.length : Int) - 1, -1, -1, f.length, by rw [tx_len] <;> rfl, fall (by omega), ?_⟩
    refine for_rangeC (lo := (f.length : Int) - 1) (c := -1) (n := f.length) (fun i σ H2 => ∃ kvs v3 v4 v5 v6 v7 v8 v9, σ = [some (.str (Tx f)), some (.str (Tx g)), some (.ref d), v3, v4, v5, v6, v7, v8, v9] ∧ Same H H2 ∧ H2 d = some (.dT kvs) ∧
      kvs.length ≤ i * 200 ∧ Tab f g kvs (fun a _ => f.length ≤ a + i)) ⟨[], none, none, none, none, none, none, none, rfl, s1, upd_same, Nat.zero_le _, fun a b => ?_⟩ ?_ ?_
    · rw [if_neg (by omega)]
      exact valV_nil
    · rintro i σ H2 hi ⟨kvs, v3, v4, v5, v6, v7, v8, v9, rfl, s2, hd, hl, tab⟩
      rw [fall_at hi]
      obtain ⟨a, ha⟩ : ∃ a, a = f.length - 1 - i := ⟨_, rfl⟩
      rw [← ha]
      refine ⟨_, rfl, _, rfl, f, a, rfl, by omega, f2, fun H3 d1 s3 n1 e1 => ⟨d1, _, rfl, e1, trivial, fun o1 => ?_⟩⟩
      have nd1 : d ≠ d1 := ne_of_none hd n1
      have n1H : H d1 = none := s2.free n1
      have s4 : Same H (upd H3 d1 (.frz o1 (.dK (encN (nexts f a))))) := same_put (s2.trans s3) n1H
      have hd4 : (upd H3 d1 (.frz o1 (.dK (encN (nexts f a))))) d = some (.dT kvs) := by
        rw [upd_ne nd1]
        exact s3 _ _ hd
      have e4 : (upd H3 d1 (.frz o1 (.dK (encN (nexts f a))))) d1 = some (.frz o1 (.dK (encN (nexts f a)))) := upd_same
      generalize (upd H3 d1 (.frz o1 (.dK (encN (nexts f a))))) = H4 at s4 hd4 e4 ⊢
      refine ⟨_, rfl, _, rfl, tx_small (by omega), _, _, rfl, rfl, _, rfl, _, rfl, (g.length : Int) - 1, -1, -1, g.length, by rw [tx_len] <;> rfl, fall (by omega), ?_⟩
      refine for_rangeC (lo := (g.length : Int) - 1) (c := -1) (n := g.length) (fun j σ H2 => ∃ kvs v5 v6 v7 v8 v9, σ = [some (.str (Tx f)), some (.str (Tx g)), some (.ref d), some (.int (a : Nat)), some (.ref d1), v5, v6, v7, v8, v9] ∧ Same H H2 ∧
        H2 d1 = some (.frz o1 (.dK (encN (nexts f a)))) ∧ H2 d = some (.dT kvs) ∧ kvs.length ≤ i * 200 + j ∧ Tab f g kvs (fun a' b' => f.length ≤ a' + i ∨ (a' = a ∧ g.length ≤ b' + j))) ⟨kvs, _, _, _, _, _, rfl, s4, e4, hd4, by omega, fun a' b' => ?_⟩ ?_ ?_
      · rw [tab a' b']
        by_cases c : f.length ≤ a' + i ∧ a' < f.length ∧ b' < g.length ∧ at0 f a' = at0 g b'
        · rw [if_pos c, if_pos ⟨.inl c.1, c.2⟩]
        · rw [if_neg c, if_neg (fun z => z.1.elim (fun q => c ⟨q, z.2⟩) (fun q => by omega))]
      · clear hd4 e4 s4 tab hl hd kvs v5 v6 v7 v8 v9
        rintro j σ H5 hj ⟨kvs, v5, v6, v7, v8, v9, rfl, s5, e5, hd5, hl, tab⟩
        rw [fall_at hj]
        obtain ⟨b, hb⟩ : ∃ b, b = g.length - 1 - j := ⟨_, rfl⟩
        rw [← hb]
        refine ⟨_, rfl, _, rfl, _, _, _, rfl, rfl, tx_small (by omega), tx_at (by omega), _, rfl, _, rfl, _, _, _, rfl, rfl, tx_small (by omega), tx_at (by omega), rfl, _, rfl, ?_⟩
        rw [one_eq]
        refine iteB (fun c => ?_) (fun c => ?_)
        · have cab : at0 f a = at0 g b := of_decide_eq_true c
          refine ⟨_, rfl, _, rfl, g, b, rfl, by omega, g2, fun H6 d2 s6 n2 e6 => ⟨d2, _, rfl, e6, trivial, fun o2 => ?_⟩⟩
          have nd2 : d ≠ d2 := ne_of_none hd5 n2
          have nd12 : d1 ≠ d2 := ne_of_none e5 n2
          have s7 : Same H (upd H6 d2 (.frz o2 (.dK (encN (nexts g b))))) := same_put (s5.trans s6) (s5.free n2)
          have hd7 : (upd H6 d2 (.frz o2 (.dK (encN (nexts g b))))) d = some (.dT kvs) := by
            rw [upd_ne nd2]
            exact s6 _ _ hd5
          have e17 : (upd H6 d2 (.frz o2 (.dK (encN (nexts g b))))) d1 = some (.frz o1 (.dK (encN (nexts f a)))) := by
            rw [upd_ne nd12]
            exact s6 _ _ e5
          have e27 : (upd H6 d2 (.frz o2 (.dK (encN (nexts g b))))) d2 = some (.frz o2 (.dK (encN (nexts g b)))) := upd_same
          generalize (upd H6 d2 (.frz o2 (.dK (encN (nexts g b))))) = H7 at s7 hd7 e17 e27 ⊢
          refine ⟨.int ((if (acc f a && acc g b) = true then 1 else 0 : Nat) : Int), fun Q' q => ?_, ?_⟩
          · refine ⟨_, rfl, _, rfl, _, _, _, rfl, rfl, tx_small (by omega), tx_at (by omega), _, rfl, _, rfl, _, _, _, rfl, rfl, tx_small (by omega), tx_last fne, rfl, _, rfl, ?_⟩
            rw [one_eq]
            refine iteB (fun c1 => ?_) (fun c1 => ?_)
            · refine ⟨_, rfl, _, rfl, _, _, _, rfl, rfl, tx_small (by omega), tx_at (by omega), _, rfl, _, rfl, _, _, _, rfl, rfl, tx_small (by omega), tx_last gne, rfl, _, rfl, ?_⟩
              rw [one_eq]
              have e1 : acc f a = true := c1
              rw [e1, Bool.true_and] at q
              refine iteB (fun c2 => ?_) (fun c2 => ?_)
              · have e2 : acc g b = true := c2
                rw [e2] at q
                exact q
              · have e2 : acc g b = false := c2
                rw [e2] at q
                exact q
            · have e1 : acc f a = false := c1
              rw [e1] at q
              exact iteF q
          · obtain ⟨w0, hw0⟩ : ∃ w0 : Nat, w0 = (if (acc f a && acc g b) = true then 1 else 0) := ⟨_, rfl⟩
            rw [← hw0]
            refine ⟨_, rfl, d1, o1, _, rfl, e17, for_it walk_items (fun t σ H8 => ∃ v8 v9, σ = [some (.str (Tx f)), some (.str (Tx g)), some (.ref d), some (.int (a : Nat)), some (.ref d1), some (.int (b : Nat)), some (.ref d2),
              some (.int ((w0 + (((nexts f a).take t).map (wpart f g b)).sum : Nat) : Int)), v8, v9] ∧ Same H7 H8) ⟨_, _, rfl, Same.refl _⟩ (fun t σ H8 _ ⟨_, _, _, s8⟩ => s8 _ _ e17) ?_ ?_⟩
            · rintro t x σ H8 H9 ht ⟨v8, v9, rfl, s8⟩ ⟨T1, x1, x2, rfl, nT, rfl, q1, q2⟩
              have ht' : t < (nexts f a).length := by rw [encN_len] at ht; exact ht
              obtain ⟨p, hp⟩ : ∃ p, (nexts f a)[t]? = some p := ⟨_, List.getElem?_eq_getElem ht'⟩
              have hpe : (encN (nexts f a))[t]? = some (Sum.inr (Tx [p.1]), V.int (p.2 : Nat)) := by
                unfold encN
                rw [List.getElem?_map, hp] <;> rfl
              have z1 : ((encN (nexts f a))[t]?.map fun kv => kV kv.1) = some x1 := q1
              have z2 : ((encN (nexts f a))[t]?.map Prod.snd) = some x2 := q2
              rw [hpe] at z1 z2
              cases z1
              cases z2
              have pm : lk (nexts f a) p.1 = some p.2 := nexts_mem (List.mem_of_getElem? hp)
              have pl := nexts_lt pm
              have s9 : Same H7 (upd H8 T1 (.tup [kV (Sum.inr (Tx [p.1])), .int (p.2 : Nat)])) := s8.trans (new_same nT _)
              refine ⟨T1, _, rfl, .inl (.inl upd_same), rfl, _, _, rfl, _, _, rfl, rfl, ?_⟩
              have hsum := sum_snoc (wpart f g b) hp
              refine ⟨_, rfl, _, rfl, d2, _, rfl, DGet_f (k := (Sum.inr (Tx [p.1]) : Key)) (s9 _ _ e27), _, rfl, ?_⟩
              rw [encN_val]
              cases lq : lk (nexts g b) p.1 with
              | none =>
                refine iteF ?_
                have w1 : wpart f g b p = 0 := by unfold wpart; rw [lq]
                rw [w1] at hsum
                exact ⟨some (.str (Tx [p.1])), some (.int (p.2 : Nat)), by rw [hsum] <;> rfl, s9⟩
              | some y =>
                refine iteT ?_
                have yl := nexts_lt lq
                have w1 : wpart f g b p = W f g p.2 y := by unfold wpart; rw [lq]
                have tv := tab p.2 y
                rw [if_pos ⟨.inl (by omega), pl.2.1, yl.2.1, pl.2.2.trans yl.2.2.symm⟩] at tv
                have gq : DGet (upd H8 T1 (.tup [kV (Sum.inr (Tx [p.1])), .int (p.2 : Nat)])) d2 (.str (Tx [p.1])) (some (.int (y : Nat))) := by
                  have z := DGet_f (k := (Sum.inr (Tx [p.1]) : Key)) (s9 _ _ e27)
                  rw [encN_val, lq] at z
                  exact z
                refine ⟨_, rfl, _, rfl, d, rfl, .inr ⟨kvs, .inl (s9 _ _ hd7)⟩, _, rfl, _, rfl, _, rfl, d2, _, rfl, gq, by show 2 ≤ sizeLine; decide, fun T2 nT2 => ?_⟩
                have s10 := s9.trans (new_same nT2 (.tup [.int (p.2 : Nat), .int (y : Nat)]))
                have g2' := DGet.t (k := key2 p.2 y) (s10 _ _ hd7) (b := T2) upd_same
                rw [tv] at g2'
                refine ⟨_, g2', _, _, rfl, rfl, some (.str (Tx [p.1])), some (.int (p.2 : Nat)), ?_, s10⟩
                have e9 : w0 + (((nexts f a).take (t + 1)).map (wpart f g b)).sum = (w0 + (((nexts f a).take t).map (wpart f g b)).sum) + W f g p.2 y := by
                  rw [hsum, w1]
                  omega
                rw [e9, Int.natCast_add]
                rfl
            · rintro σ H8 ⟨v8, v9, rfl, s8⟩
              rw [encN_len, List.take_length]
              refine ⟨_, rfl, _, rfl, _, rfl, _, rfl, by show 2 ≤ sizeLine; decide, fun T3 nT3 => ?_⟩
              have s9 := s8.trans (new_same nT3 (.tup [.int (a : Nat), .int (b : Nat)]))
              refine ⟨d, _, rfl, DPut.t (k := key2 a b) (s9 _ _ hd7) upd_same (by rw [sizeLine_eq]; omega), ?_⟩
              have hW : w0 + ((nexts f a).map (wpart f g b)).sum = W f g a b := by rw [W_eq (by omega : a < f.length), hw0]
              rw [hW]
              refine ⟨_, _, _, _, _, _, rfl, same_put (s7.trans s9) nd, ?_, upd_same, ?_, fun a' b' => ?_⟩
              · rw [upd_ne (ne_of (s9 _ _ e17) (s9 _ _ hd7) (fun z => by cases z))]
                exact s9 _ _ e17
              · have := length_putK kvs (key2 a b) (V.int (W f g a b : Nat))
                omega
              · rw [put2, tab a' b']
                by_cases q : a' = a ∧ b' = b
                · obtain ⟨rfl, rfl⟩ := q
                  rw [if_pos ⟨rfl, rfl⟩, if_pos ⟨.inr ⟨rfl, by omega⟩, by omega, by omega, cab⟩]
                · rw [if_neg q]
                  by_cases q2 : (f.length ≤ a' + i ∨ (a' = a ∧ g.length ≤ b' + j)) ∧ a' < f.length ∧ b' < g.length ∧ at0 f a' = at0 g b'
                  · rw [if_pos q2, if_pos ⟨by omega, q2.2⟩]
                  · rw [if_neg q2, if_neg (fun z => q2 ⟨by omega, z.2⟩)]
        · refine ⟨kvs, _, _, _, _, _, rfl, s5, e5, hd5, by omega, fun a' b' => ?_⟩
          have nab : at0 f a ≠ at0 g b := of_decide_eq_false c
          rw [tab a' b']
          by_cases q2 : (f.length ≤ a' + i ∨ (a' = a ∧ g.length ≤ b' + j)) ∧ a' < f.length ∧ b' < g.length ∧ at0 f a' = at0 g b'
          · rw [if_pos q2, if_pos ⟨by omega, q2.2⟩]
          · rw [if_neg q2, if_neg (fun z => ?_)]
            by_cases q3 : a' = a ∧ b' = b
            · obtain ⟨rfl, rfl⟩ := q3
              exact nab z.2.2.2
            · exact q2 ⟨by omega, z.2⟩
      · clear hd4 e4 s4 tab hl hd kvs v5 v6 v7 v8 v9
        rintro σ H5 ⟨kvs, v5, v6, v7, v8, v9, rfl, s5, e5, hd5, hl, tab⟩
        refine ⟨kvs, _, _, _, _, _, _, _, rfl, s5, hd5, by omega, fun a' b' => ?_⟩
        rw [tab a' b']
        by_cases q2 : (f.length ≤ a' + i ∨ (a' = a ∧ g.length ≤ b' + g.length)) ∧ a' < f.length ∧ b' < g.length ∧ at0 f a' = at0 g b'
        · rw [if_pos q2, if_pos ⟨by omega, q2.2⟩]
        · rw [if_neg q2, if_neg (fun z => q2 ⟨by omega, z.2⟩)]
    · rintro σ H2 ⟨kvs, v3, v4, v5, v6, v7, v8, v9, rfl, s2, hd, hl, tab⟩
      refine ⟨_, rfl, k H2 d kvs s2 nd hd fun a b => ?_⟩
      rw [tab a b]
      by_cases q : a < f.length ∧ b < g.length ∧ at0 f a = at0 g b
      · rw [if_pos ⟨by omega, q⟩, if_pos ⟨trivial, q⟩]
      · rw [if_neg (fun z => q z.2), if_neg (fun z => q z.2)]
end
end JC

-- part C4
set_option Elab.async false
set_option linter.all false
set_option maxRecDepth 100000
/-! count_common, meets -/
namespace JC
open PySem PySem.Spec PyProof.Rows L2 JB
theorem ALL_len (f g : List Nat) : (ALL f g).length = if at0 f 0 = at0 g 0 then W f g 0 0 else 0 := by
  unfold ALL
  split
  · exact List.length_map _
  · rfl
theorem tab_00 {f g : List Nat} {kvs : List (List Key × V)} (t : Tab f g kvs (fun _ _ => True)) (f1 : 1 ≤ f.length) (g1 : 1 ≤ g.length) : (valV kvs (key2 0 0)).getD (.int 0) = .int ((ALL f g).length : Nat) := by
  rw [t 0 0, ALL_len]
  by_cases e : at0 f 0 = at0 g 0
  · rw [if_pos ⟨trivial, by omega, by omega, e⟩, if_pos e] <;> rfl
  · rw [if_neg (fun z => e z.2.2.2), if_neg e] <;> rfl
theorem scCount : FnScope ["one", "other"] ["one", "other"] (defScope sCount) := ⟨rfl, rfl, rfl, by decide +kernel, rfl, by decide +kernel, by decide +kernel⟩
theorem scMeets : FnScope ["one", "other"] ["one", "other"] (defScope sMeets) := ⟨rfl, rfl, rfl, by decide +kernel, rfl, by decide +kernel, by decide +kernel⟩
def spCount : Sp := fun vs H Q _ => ∃ f g : List Nat, vs = [.str (Tx f), .str (Tx g)] ∧ Flm f ∧ Flm g ∧ ∀ H', Same H H' → Q (.int ((ALL f g).length : Nat)) H'
def spMeets : Sp := fun vs H Q _ => ∃ f g : List Nat, vs = [.str (Tx f), .str (Tx g)] ∧ Flm f ∧ Flm g ∧ ∀ H', Same H H' → Q (.bl (decide (0 < (ALL f g).length))) H'
section
variable {P : Program} {w : World} {K : PySem.W.Frag} {mg : Str → Option Value} {base : Heap} {fn fc : Addr} {fdn fdc : FuncData}
theorem ok_count {f : Addr} {fd : FuncData} (F : Fun K "count_common" "count_common" sCount f fd) (N : Dn P w K mg base 1 "need_film" ["value"] spNeedFilm fn fdn) (C : Dn P w K mg base 2 "common_tails" ["one", "other"] spTails fc fdc) :
    FnOk P w K mg base CX0 3 f fd ["one", "other"] spCount := by
  refine F.ok scCount (fun vs H Q E h => ?_) (fun cdv A outer s H vs Q E hr h => ?_)
  · obtain ⟨f, g, rfl, _⟩ := h
    rfl
  · obtain ⟨f, g, rfl, hf, hg, k⟩ := h
    have hu := hu_of hr
    have hr1 := hr.mono (show 1 ≤ 2 by decide)
    refine ⟨_, pss_cons (ps_expr (pe_call N.ok hr1 rfl N.m N.kp N.b .nil pass0 (pa_cons (pv 0) pa_nil)))
      (pss_cons (ps_expr (pe_call N.ok hr1 rfl N.m N.kp N.b .nil pass0 (pa_cons (pv 1) pa_nil)))
      (pss_one (ps_ret (pe_dget2 hu (pe_call C.ok hr rfl C.m C.kp C.b .nil pass0 (pa_cons (pv 0) (pa_cons (pv 1) pa_nil))) (pe_tup (pa_cons pe_int (pa_cons pe_int pa_nil))) pe_int ⟨rfl, rfl, rfl, rfl⟩)))), ?_⟩
    refine ⟨_, rfl, f, rfl, hf, fun H1 s1 => ⟨_, rfl, g, rfl, hg, fun H2 s2 => ?_⟩⟩
    refine ⟨_, rfl, _, rfl, f, g, rfl, hf.1, hf.2.1, hg.1, hg.2.1, fun H3 d kvs s3 nd ed tab => ⟨d, rfl, .inr ⟨kvs, .inl ed⟩, by show 2 ≤ sizeLine; decide, fun T nT => ?_⟩⟩
    have s4 : Same H3 (upd H3 T (.tup [.int 0, .int 0])) := new_same nT _
    refine ⟨_, DGet.t (k := key2 0 0) (s4 _ _ ed) upd_same, ?_⟩
    rw [tab_00 tab hf.1 hg.1]
    exact k _ (s1.trans (s2.trans (s3.trans s4)))
theorem ok_meets {f : Addr} {fd : FuncData} (F : Fun K "meets" "meets" sMeets f fd) (N : Dn P w K mg base 1 "need_film" ["value"] spNeedFilm fn fdn) (C : Dn P w K mg base 2 "common_tails" ["one", "other"] spTails fc fdc) :
    FnOk P w K mg base CX0 3 f fd ["one", "other"] spMeets := by
  refine F.ok scMeets (fun vs H Q E h => ?_) (fun cdv A outer s H vs Q E hr h => ?_)
  · obtain ⟨f, g, rfl, _⟩ := h
    rfl
  · obtain ⟨f, g, rfl, hf, hg, k⟩ := h
    have hu := hu_of hr
    have hr1 := hr.mono (show 1 ≤ 2 by decide)
    refine ⟨_, pss_cons (ps_expr (pe_call N.ok hr1 rfl N.m N.kp N.b .nil pass0 (pa_cons (pv 0) pa_nil)))
      (pss_cons (ps_expr (pe_call N.ok hr1 rfl N.m N.kp N.b .nil pass0 (pa_cons (pv 1) pa_nil)))
      (pss_one (ps_ret (pe_cmpR op_gt (pe_dget2 hu (pe_call C.ok hr rfl C.m C.kp C.b .nil pass0 (pa_cons (pv 0) (pa_cons (pv 1) pa_nil))) (pe_tup (pa_cons pe_int (pa_cons pe_int pa_nil))) pe_int ⟨rfl, rfl, rfl, rfl⟩) pe_int (nomark _))))), ?_⟩
    refine ⟨_, rfl, f, rfl, hf, fun H1 s1 => ⟨_, rfl, g, rfl, hg, fun H2 s2 => ?_⟩⟩
    refine ⟨_, rfl, _, rfl, f, g, rfl, hf.1, hf.2.1, hg.1, hg.2.1, fun H3 d kvs s3 nd ed tab => ⟨d, rfl, .inr ⟨kvs, .inl ed⟩, by show 2 ≤ sizeLine; decide, fun T nT => ?_⟩⟩
    have s4 : Same H3 (upd H3 T (.tup [.int 0, .int 0])) := new_same nT _
    refine ⟨_, DGet.t (k := key2 0 0) (s4 _ _ ed) upd_same, ?_⟩
    rw [tab_00 tab hf.1 hg.1]
    refine ⟨_, _, rfl, rfl, ?_⟩
    have e : decide ((0 : Int) < (((ALL f g).length : Nat) : Int)) = decide (0 < (ALL f g).length) := by
      by_cases z : 0 < (ALL f g).length
      · rw [decide_eq_true z, decide_eq_true (by omega)]
      · rw [decide_eq_false z, decide_eq_false (by omega)]
    show Q (.bl (decide ((0 : Int) < (((ALL f g).length : Nat) : Int)))) _
    rw [e]
    exact k _ (s1.trans (s2.trans (s3.trans s4)))
end
end JC

-- part C5
set_option Elab.async false
set_option linter.all false
set_option maxRecDepth 100000
/-! lists of texts: sorted; lists that are empty or not -/
namespace JC
open PySem PySem.Spec PyProof.Rows L2 JB
def VS (l : List Nat) : V := V.str (Tx l)
def PS_ (l : List Nat) : PyData := PyData.str (Tx l)
theorem dp_VS {K : PySem.W.Frag} {H : Hp} : ∀ bs : List (List Nat), DpAll K H (bs.map VS) (bs.map PS_)
  | [] => .nil
  | b :: bs => .cons (.str _) (dp_VS bs)
theorem of_PS {K : PySem.W.Frag} {H : Hp} : ∀ {bs : List (List Nat)} {ys : List V}, DpAll K H ys (bs.map PS_) → ys = bs.map VS
  | [], _, .nil => rfl
  | b :: bs, _, .cons h r => by
    cases h
    rw [of_PS r] <;> rfl
theorem le_PS : PySem.W.dataLe false PS_ = fun a b : List Nat => decide (a ≤ b) := PySem.W.dataLe_str Tx
/-- sorted(a list of texts) -/
def rSortTx (K : PySem.W.Frag) : List V → Hp → VK → Prop := fun vs H Q => ∃ (a : Addr) (bs : List (List Nat)), vs = [V.ref a] ∧ SqL K H a (bs.map VS) ∧ ∀ p, H p = none → Q (.ref p) (upd H p (.lst ((srt bs).map VS)))
section
variable {X : Cx}
theorem cr_sortTx (hu : X.A.units + 64 < cLine) : CallR X (.builtin "sorted") (rSortTx X.K) := by
  intro pins s σ H vs us Q I r h
  obtain ⟨a, bs, rfl, hs, q⟩ := h
  refine cr_sortedE (enc := PS_) hu pins s σ H _ us Q I r ⟨a, _, bs, rfl, hs, dp_VS bs, PySem.W.AllAlike.of fun b b' => by simp [PS_, PySem.W.alike], PySem.W.Sortable.others fun b => ⟨(fun z => by cases z), (fun xs z => by cases z)⟩, fun b _ => Nat.zero_le _, fun ys p _ hd _ hp => ?_⟩
  have e := of_PS hd
  rw [le_PS] at e
  rw [e]
  exact q p hp
end
/-! ### shapes -/
def Sm (l : List Nat) : Prop := ∀ c ∈ l, c < 1114112
theorem sm_ok {l : List Nat} (h : Sm l) : PyData.canLay0 (PS_ l) = true := by
  show PyData.canLay0 (.str (Tx l)) = true
  rw [PyData.canLay0]
  unfold PyData.strOk
  rw [Array.all_eq_true']
  intro c hc
  exact decide_eq_true (h c (by simpa using hc))
theorem lay_all {β : Type} {enc : β → PyData} : ∀ {es : List β}, (∀ e ∈ es, PyData.canLay0 (enc e) = true ∧ (enc e).depth ≤ 60) → PyData.canLayAll0 (es.map enc) = true ∧ PyData.depthAll (es.map enc) ≤ 60
  | [], _ => ⟨by simp [PyData.canLayAll0], by simp [PyData.depthAll]⟩
  | e :: es, h => by
    obtain ⟨a, b⟩ := lay_all fun e he => h e (List.mem_cons_of_mem _ he)
    obtain ⟨c, d⟩ := h e List.mem_cons_self
    rw [List.map_cons]
    refine ⟨by simp [PyData.canLayAll0, a, c], ?_⟩
    rw [PyData.depthAll]
    omega
theorem shaped_list {β : Type} {enc : β → PyData} {es : List β} (h : ∀ e ∈ es, PyData.canLay0 (enc e) = true ∧ (enc e).depth ≤ 60) : SeqAt.shaped (.list (es.map enc)) = true := by
  obtain ⟨a, b⟩ := lay_all h
  unfold SeqAt.shaped
  rw [Bool.and_eq_true]
  refine ⟨by rw [PyData.canLay0]; exact a, decide_eq_true ?_⟩
  rw [PyData.depth]
  omega
theorem shaped_nil : SeqAt.shaped (.list []) = true := by decide +kernel
theorem eqv_nil (ds : List PyData) : PyData.eqv (.list ds) (.list []) = ds.isEmpty := by
  cases ds <;> simp [PyData.eqv, PyData.eqvAll]
end JC

-- part C6
set_option Elab.async false
set_option linter.all false
set_option maxRecDepth 100000
/-! common -/
namespace JC
open PySem PySem.Spec PyProof.Rows L2 JB
theorem scCommon : FnScope ["one", "other", "told", "found", "edge", "word", "a", "b", "second", "letter", "place"] ["one", "other"] (defScope sCommon) := ⟨rfl, rfl, rfl, by decide +kernel, rfl, by decide +kernel, by decide +kernel⟩
/-- a beginning as a tuple -/
def tupE (e : Beg) : List V := [VS e.1, .int (e.2.1 : Nat), .int (e.2.2 : Nat)]
def encE (e : Beg) : PyData := .tuple [PS_ e.1, .int (e.2.1 : Nat), .int (e.2.2 : Nat)]
/-- the pile: the tuples at ts -/
def AtE (H : Hp) (ts : List (Addr × Beg)) : Prop := ∀ t ∈ ts, H t.1 = some (.tup (tupE t.2))
theorem AtE.same {H H' : Hp} {ts : List (Addr × Beg)} (h : AtE H ts) (s : Same H H') : AtE H' ts := fun t m => s _ _ (h t m)
theorem AtE.upd {H : Hp} {ts : List (Addr × Beg)} {l : Addr} {xs : List V} (h : AtE H ts) (hl : H l = some (.lst xs)) (o : HO) : AtE (upd H l o) ts := fun t m => by
  rw [upd_ne (ne_of (h t m) hl (fun z => by cases z))]
  exact h t m
theorem AtE.dp {K : PySem.W.Frag} {H : Hp} : ∀ {ts : List (Addr × Beg)}, AtE H ts → DpAll K H (ts.map fun t => V.ref t.1) ((ts.map (·.2)).map encE)
  | [], _ => .nil
  | t :: ts, h => .cons (.tup (.inl (.inl (h t List.mem_cons_self))) (.cons (.str _) (.cons (.int _) (.cons (.int _) .nil)))) (AtE.dp fun x m => h x (List.mem_cons_of_mem _ m))
theorem shaped_pile {es : List Beg} (h : ∀ e ∈ es, Sm e.1) : SeqAt.shaped (.list (es.map encE)) = true := by
  refine shaped_list fun e he => ⟨?_, ?_⟩
  · have q := sm_ok (h e he)
    show PyData.canLay0 (.tuple [PS_ e.1, .int (e.2.1 : Nat), .int (e.2.2 : Nat)]) = true
    simp [PyData.canLay0, PyData.canLayAll0, q]
  · show PyData.depth (.tuple [PS_ e.1, .int (e.2.1 : Nat), .int (e.2.2 : Nat)]) ≤ 60
    simp [PyData.depth, PyData.depthAll, PS_]
def spCommon : Sp := fun vs H Q _ => ∃ f g : List Nat, vs = [.str (Tx f), .str (Tx g)] ∧ Flm f ∧ Flm g ∧ (ALL f g).length ≤ 5000 ∧
  ∀ H' p, Same H H' → H p = none → H' p = some (.lst ((srt (ALL f g)).map VS)) → Q (.ref p) H'
/-- between two turns -/
def CInv (f g : List Nat) (d lF lE : Addr) (H4 : Hp) (m : Nat) (σ : L2.St) (Hc : Hp) : Prop := ∃ (ts : List (Addr × Beg)) (fs : List (List Nat)) (v5 v6 v7 v8 v9 v10 : Option V),
  σ = [some (.str (Tx f)), some (.str (Tx g)), some (.ref d), some (.ref lF), some (.ref lE), v5, v6, v7, v8, v9, v10] ∧ Same H4 Hc ∧ Hc lF = some (.lst (fs.map VS)) ∧ Hc lE = some (.lst (ts.map fun t => V.ref t.1)) ∧
  AtE Hc ts ∧ (∀ t ∈ ts, BegOk f g t.2) ∧ (fs ++ (ts.map (·.2)).flatMap (outOf f g)).Perm (ALL f g) ∧ m = pileW f (ts.map (·.2))
theorem map_snd {ts : List (Addr × Beg)} {e : Beg} (h : e ∈ ts.map (·.2)) : ∃ t ∈ ts, t.2 = e := by
  obtain ⟨t, h1, h2⟩ := List.mem_map.mp h
  exact ⟨t, h1, h2⟩
section
variable {P : Program} {w : World} {K : PySem.W.Frag} {mg : Str → Option Value} {base : Heap} {fn fc fx : Addr} {fdn fdc fdx : FuncData}
theorem ok_common {f : Addr} {fd : FuncData} (F : Fun K "common" "common" sCommon f fd) (M : Gs mg) (N : Dn P w K mg base 1 "need_film" ["value"] spNeedFilm fn fdn) (C : Dn P w K mg base 2 "common_tails" ["one", "other"] spTails fc fdc)
    (X : Dn P w K mg base 1 "nexts" ["film", "place"] spNexts fx fdx) : FnOk P w K mg base CX0 3 f fd ["one", "other"] spCommon := by
  refine F.ok scCommon (fun vs H Q E h => ?_) (fun cdv A outer s H vs Q E hr h => ?_)
  · obtain ⟨f, g, rfl, _⟩ := h
    rfl
  · obtain ⟨f, g, rfl, hf, hg, hmax, k⟩ := h
    have hu := hu_of hr
    have hr1 := hr.mono (show 1 ≤ 2 by decide)
    refine ⟨_, pss_cons (ps_expr (pe_call N.ok hr1 rfl N.m N.kp N.b .nil pass0 (pa_cons (pv 0) pa_nil)))
      (pss_cons (ps_expr (pe_call N.ok hr1 rfl N.m N.kp N.b .nil pass0 (pa_cons (pv 1) pa_nil)))
      (pss_cons (ps_set (i := 2) scCommon.nd rfl (.inl rfl) (pe_call C.ok hr rfl C.m C.kp C.b .nil pass0 (pa_cons (pv 0) (pa_cons (pv 1) pa_nil))))
      (pss_cons (ps_if (pt_cmpR op_gt (pe_dget2 hu (pv 2) (pe_tup (pa_cons pe_int (pa_cons pe_int pa_nil))) pe_int ⟨rfl, rfl, rfl, rfl⟩) pe_int (nomark _)) (pss_one ps_never) pss_nil)
      (pss_cons (ps_set (i := 3) scCommon.nd rfl (.inl rfl) (pe_lst pa_nil))
      (pss_cons (ps_set (i := 4) scCommon.nd rfl (.inl rfl) (pe_md (pe_ifExp (pt_cmpR op_gt (pe_dget2 hu (pv 2) (pe_tup (pa_cons pe_int (pa_cons pe_int pa_nil))) pe_int ⟨rfl, rfl, rfl, rfl⟩) pe_int (nomark _))
          (pe_lst (pa_cons (pe_tup (pa_cons (pe_ix ix_str (pv 0) pe_int (fun _ _ => rfl)) (pa_cons pe_int (pa_cons pe_int pa_nil)))) pa_nil)) (pe_lst pa_nil))))
      (pss_cons (ps_while PassesOwn.never (pt_cmpR (op_neD hr.units) (pv 4) (pe_lst pa_nil) (nomark _))
        (pss_cons (ps_asg (pe_bm0 PySem.F.plainAttrs_list PySem.F.slot_list_pop PySem.F.type_list_pop mt_pop (pv 4)) (pg_tup rfl (pgs_cons (pg_name (i := 5) scCommon.nd rfl (.inl rfl)) (pgs_cons (pg_name (i := 6) scCommon.nd rfl (.inl rfl)) (pgs_cons (pg_name (i := 7) scCommon.nd rfl (.inl rfl)) pgs_nil)))))
        (C8.pss_cut (ps_if (pt_kn (PW.pt (pw_and (pt_cmpR op_eq (pe_ix ix_str (pv 0) (pv 6) (fun _ _ => rfl)) (pe_ix ix_str (pv 0) (pe_un un_neg pe_int) (fun _ _ => rfl)) (nomark _))
              (pw_and1 (pt_cmpR op_eq (pe_ix ix_str (pv 1) (pv 7) (fun _ _ => rfl)) (pe_ix ix_str (pv 1) (pe_un un_neg pe_int) (fun _ _ => rfl)) (nomark _))))))
            (pss_one (ps_expr (pe_bm PySem.F.plainAttrs_list PySem.F.slot_list_append PySem.F.type_list_append mt_append (pv 3) (pa_cons (pv 5) pa_nil)))) pss_nil)
        (pss_cons (ps_set (i := 8) scCommon.nd rfl (.inl rfl) (pe_frz (pe_call X.ok hr1 rfl X.m X.kp X.b .nil pass0 (pa_cons (pv 1) (pa_cons (pv 7) pa_nil)))))
        (pss_one (ps_for PassesOwn.never rfl (pi_items (pe_frz (pe_call X.ok hr1 rfl X.m X.kp X.b .nil pass0 (pa_cons (pv 0) (pa_cons (pv 6) pa_nil))))) (pg_tup rfl (pgs_cons (pg_name (i := 9) scCommon.nd rfl (.inl rfl)) (pgs_cons (pg_name (i := 10) scCommon.nd rfl (.inl rfl)) pgs_nil)))
          (pss_one (ps_if (PW.pt (pw_and (pt_cmp (pc_din hu (pv 9) (pv 8))) (pw_and1 (pt_cmpR op_gt (pe_dget2 hu (pv 2) (pe_tup (pa_cons (pv 10) (pa_cons (pe_dget hu (pv 8) (pv 9) (fun _ _ => rfl)) pa_nil))) pe_int ⟨rfl, rfl, rfl, rfl⟩) pe_int (nomark _)))))
            (pss_one (ps_expr (pe_bm PySem.F.plainAttrs_list PySem.F.slot_list_append PySem.F.type_list_append mt_append (pv 4) (pa_cons (pe_tup (pa_cons (pe_op op_add_str (pv 5) (pv 9)) (pa_cons (pv 10) (pa_cons (pe_dget hu (pv 8) (pv 9) (fun _ _ => rfl)) pa_nil)))) pa_nil)))) pss_nil)))))))
        )
      (pss_one (ps_ret (pe_callB (cr_sortTx hr.units) (by rfl) M.sorted boot_sorted (pa_cons (pv 3) pa_nil)))))))))), ?_⟩
    refine ⟨_, rfl, f, rfl, hf, fun H1 s1 => ⟨_, rfl, g, rfl, hg, fun H2 s2 => ?_⟩⟩
    refine ⟨_, rfl, _, rfl, f, g, rfl, hf.1, hf.2.1, hg.1, hg.2.1, fun H3 d kvs s3 nd ed tab => ?_⟩
    refine ⟨_, rfl, d, rfl, .inr ⟨kvs, .inl ed⟩, by show 2 ≤ sizeLine; decide, fun T1 nT1 => ⟨_, DGet.t (k := key2 0 0) (new_same nT1 _ _ _ ed) upd_same, ?_⟩⟩
    rw [tab_00 tab hf.1 hg.1]
    refine ⟨_, _, rfl, rfl, _, rfl, ?_⟩
    rw [decide_eq_false (show ¬ ((5000 : Int) < ((ALL f g).length : Nat)) by omega)]
    refine iteF ?_
    have s4 : Same H (upd H3 T1 (.tup [.int 0, .int 0])) := s1.trans (s2.trans (s3.trans (new_same nT1 _)))
    have ed4 : (upd H3 T1 (.tup [.int 0, .int 0])) d = some (.dT kvs) := new_same nT1 _ _ _ ed
    generalize (upd H3 T1 (.tup [.int 0, .int 0])) = H4 at s4 ed4 ⊢
    have fne := hf.ne
    have gne := hg.ne
    have f1 := hf.1
    have f2 := hf.2.1
    have g1 := hg.1
    have g2 := hg.2.1
    refine ⟨Nat.zero_le _, fun lF nF => ?_⟩
    have s5 : Same H4 (upd H4 lF (.lst [])) := new_same nF _
    refine ⟨fun v H' => ∃ (lE : Addr) (ts : List (Addr × Beg)), v = .ref lE ∧ Same (upd H4 lF (.lst [])) H' ∧ (upd H4 lF (.lst [])) lE = none ∧ H' lE = some (.lst (ts.map fun t => V.ref t.1)) ∧ AtE H' ts ∧ (∀ t ∈ ts, BegOk f g t.2) ∧
      ((ts.map (·.2)).flatMap (outOf f g)).Perm (ALL f g), ?_, ?_⟩
    · refine ⟨_, rfl, d, rfl, .inr ⟨kvs, .inl (s5 _ _ ed4)⟩, by show 2 ≤ sizeLine; decide, fun T2 nT2 => ⟨_, DGet.t (k := key2 0 0) (new_same nT2 _ _ _ (s5 _ _ ed4)) upd_same, ?_⟩⟩
      rw [tab_00 tab hf.1 hg.1]
      refine ⟨_, _, rfl, rfl, _, rfl, ?_⟩
      have s6 : Same (upd H4 lF (.lst [])) (upd (upd H4 lF (.lst [])) T2 (.tup [.int 0, .int 0])) := new_same nT2 _
      refine iteB (fun c => ?_) (fun c => ?_)
      · have pos : (0 : Int) < ((ALL f g).length : Nat) := of_decide_eq_true c
        have e0 : at0 f 0 = at0 g 0 := by
          by_cases e : at0 f 0 = at0 g 0
          · exact e
          · rw [ALL_len, if_neg e] at pos
            omega
        refine ⟨_, rfl, _, _, _, rfl, rfl, tx_small (by omega), tx_at (i := 0) hf.1, by show 3 ≤ sizeLine; decide, fun T3 nT3 => ⟨by show 1 ≤ sizeLine; decide, fun lE nE => ?_⟩⟩
        have s7 := new_same nT3 (.tup [.str ⟨#[at0 f 0]⟩, .int 0, .int 0])
        refine ⟨lE, [(T3, ([at0 f 0], 0, 0))], rfl, s6.trans (s7.trans (new_same nE _)), new_old (new_old nE), upd_same, fun t m => ?_, fun t m => ?_, ?_⟩
        · rw [List.mem_singleton] at m
          subst m
          have q := new_same nE (.lst [V.ref T3]) T3 _ (upd_same (H := (upd (upd H4 lF (.lst [])) T2 (.tup [.int 0, .int 0]))) (a := T3) (o := .tup [.str ⟨#[at0 f 0]⟩, .int 0, .int 0]))
          exact q
        · rw [List.mem_singleton] at m
          subst m
          refine ⟨hf.1, hg.1, ?_, Nat.le_refl _, fun c hc => ?_⟩
          · rw [ALL_len, if_pos e0] at pos
            show 0 < W f g 0 0
            omega
          · have hc : c ∈ [at0 f 0] := hc
            rw [List.mem_singleton] at hc
            have := (hf.at (i := 0) hf.1).2
            omega
        · show (([] : List Beg).flatMap (outOf f g) |> ((outOf f g ([at0 f 0], 0, 0)) ++ ·)).Perm (ALL f g)
          have e1 : ALL f g = outOf f g ([at0 f 0], 0, 0) := by
            unfold ALL outOf
            rw [if_pos e0]
            rfl
          rw [e1]
          show (outOf f g ([at0 f 0], 0, 0) ++ []).Perm _
          rw [List.append_nil]
      · have zero : ¬ (0 : Int) < ((ALL f g).length : Nat) := of_decide_eq_false c
        have e0 : ALL f g = [] := List.eq_nil_of_length_eq_zero (by omega)
        refine ⟨Nat.zero_le _, fun lE nE => ?_⟩
        refine ⟨lE, [], rfl, s6.trans (new_same nE _), new_old nE, upd_same, fun t m => (by cases m), fun t m => (by cases m), ?_⟩
        rw [e0]
        exact List.Perm.nil
    · rintro v H6 ⟨lE, ts, rfl, s6, nE, hE, tE, ok, pm⟩
      have hF6 : H6 lF = some (.lst []) := s6 _ _ upd_same
      have nE4 : H4 lE = none := new_old nE
      have nFE : lE ≠ lF := ne_new nE
      have s46 : Same H4 H6 := s5.trans s6
      refine ⟨CInv f g d lF lE H4, ⟨_, ts, [], none, none, none, none, none, none, rfl, s46, hF6, hE, tE, ok, pm, rfl⟩, ?_⟩
      clear hF6 hE tE ok pm s6 s46 ts H6 s5
      rintro m σ Hc ⟨ts, fs, v5, v6, v7, v8, v9, v10, rfl, s6, hF, hE, tE, ok, pm, rfl⟩
      have len5 : (fs ++ (ts.map (·.2)).flatMap (outOf f g)).length ≤ 5000 := by
        rw [pm.length_eq]
        exact hmax
      have okm : ∀ e ∈ ts.map (·.2), BegOk f g e := fun e he => by
        obtain ⟨t, h1, h2⟩ := map_snd he
        exact h2 ▸ ok t h1
      have lts := pile_len okm
      rw [List.length_map] at lts
      rw [List.length_append] at len5
      refine ⟨_, rfl, Nat.zero_le _, fun e0 ne0 => ⟨_, _, .lst (.inl (.inl (new_same ne0 _ _ _ hE))) (dpAll_same (new_same ne0 _) tE.dp), .lst (.inl (.inl upd_same)) .nil, shaped_pile fun e he => (okm e he).2.2.2.2, shaped_nil, _, rfl, ?_⟩⟩
      rw [eqv_nil]
      have s7 : Same Hc (upd Hc e0 (.lst [])) := new_same ne0 _
      refine iteB (fun c => ?_) (fun c => ?_)
      · have hne : ts ≠ [] := fun e => by
          rw [e] at c
          cases c
        obtain ⟨ts0, tl, rfl⟩ : ∃ ts0 tl, ts = ts0 ++ [tl] := by
          rcases List.eq_nil_or_concat ts with e | ⟨a, b, e⟩
          · exact absurd e hne
          · exact ⟨a, b, by rw [e, List.concat_eq_append]⟩
        obtain ⟨T, ⟨u, a, b⟩⟩ := tl
        have okl : BegOk f g (u, a, b) := ok _ (List.mem_append_right _ List.mem_cons_self)
        obtain ⟨la, lb, lW, lu, lc⟩ := okl
        replace la : a < f.length := la
        replace lb : b < g.length := lb
        replace lu : u.length ≤ a + 1 := lu
        replace lc : ∀ c ∈ u, c < 1114112 := lc
        refine ⟨fun σ' H' => ∃ m', m' < pileW f ((ts0 ++ [(T, (u, a, b))]).map (·.2)) ∧ CInv f g d lF lE H4 m' σ' H', fun _ _ h => h, ?_⟩
        have hE7 := s7 _ _ hE
        refine ⟨_, rfl, .inl ⟨rfl, _, SqL.of hE7⟩, lE, _, V.ref T, rfl, rfl, hE7, by simp, ?_⟩
        have hT : (upd Hc e0 (.lst [])) T = some (.tup (tupE (u, a, b))) := s7 _ _ (tE (T, (u, a, b)) (List.mem_append_right _ List.mem_cons_self))
        have hT8 : (upd (upd Hc e0 (.lst [])) lE (.lst ((ts0 ++ [(T, (u, a, b))]).map fun t => V.ref t.1).dropLast)) T = some (.tup (tupE (u, a, b))) := by
          rw [upd_ne (ne_of hT hE7 (fun z => by cases z))]
          exact hT
        refine ⟨T, _, rfl, .inl (.inl hT8), rfl, _, _, rfl, _, _, rfl, _, _, rfl, rfl, ?_⟩
        have dl : ((ts0 ++ [(T, (u, a, b))]).map fun t => V.ref t.1).dropLast = ts0.map fun t => V.ref t.1 := by
          rw [List.map_append]
          simp
        rw [dl]
        have s8 : Same H4 (upd (upd Hc e0 (.lst [])) lE (.lst (ts0.map fun t => V.ref t.1))) := same_put (s6.trans s7) nE4
        have hF8 : (upd (upd Hc e0 (.lst [])) lE (.lst (ts0.map fun t => V.ref t.1))) lF = some (.lst (fs.map VS)) := by
          rw [upd_ne (Ne.symm nFE)]
          exact s7 _ _ hF
        have hE8 : (upd (upd Hc e0 (.lst [])) lE (.lst (ts0.map fun t => V.ref t.1))) lE = some (.lst (ts0.map fun t => V.ref t.1)) := upd_same
        have tE8 : AtE (upd (upd Hc e0 (.lst [])) lE (.lst (ts0.map fun t => V.ref t.1))) ts0 := AtE.upd (AtE.same (fun t m => tE t (List.mem_append_left _ m)) s7) hE7 _
        generalize (upd (upd Hc e0 (.lst [])) lE (.lst (ts0.map fun t => V.ref t.1))) = H8 at s8 hF8 hE8 tE8 ⊢
        refine ⟨fun σ' H' => σ' = [some (.str (Tx f)), some (.str (Tx g)), some (.ref d), some (.ref lF), some (.ref lE), some (VS u), some (.int (a : Nat)), some (.int (b : Nat)), v8, v9, v10] ∧ Same H4 H' ∧
          H' lF = some (.lst ((fs ++ (if (acc f a && acc g b) = true then [u] else [])).map VS)) ∧ H' lE = some (.lst (ts0.map fun t => V.ref t.1)) ∧ AtE H' ts0, ?_, ?_⟩
        · refine ⟨acc f a && acc g b, fun Q' q => ?_, ?_⟩
          · refine ⟨_, rfl, _, rfl, _, _, _, rfl, rfl, tx_small (by omega), tx_at la, _, rfl, _, rfl, _, _, _, rfl, rfl, tx_small (by omega), tx_last fne, rfl, _, rfl, ?_⟩
            rw [one_eq]
            refine iteB (fun c1 => ?_) (fun c1 => ?_)
            · refine ⟨_, rfl, _, rfl, _, _, _, rfl, rfl, tx_small (by omega), tx_at lb, _, rfl, _, rfl, _, _, _, rfl, rfl, tx_small (by omega), tx_last gne, rfl, _, rfl, ?_⟩
              rw [one_eq]
              have e1 : acc f a = true := c1
              rw [e1, Bool.true_and] at q
              exact q
            · have e1 : acc f a = false := c1
              rw [e1] at q
              exact q
          · refine iteB (fun c1 => ?_) (fun c1 => ?_)
            · rw [if_pos c1]
              refine ⟨_, rfl, .inl ⟨rfl, _, SqL.of hF8⟩, _, rfl, lF, _, _, rfl, rfl, hF8, by rw [List.length_map, sizeLine_eq]; omega, rfl, same_put s8 nF, ?_, ?_, tE8.upd hF8 _⟩
              · rw [upd_same, List.map_append]
                rfl
              · rw [upd_ne nFE]
                exact hE8
            · rw [c1]
              refine ⟨rfl, s8, ?_, hE8, tE8⟩
              simp only [Bool.false_eq_true, if_false, List.append_nil]
              exact hF8
        · clear hF8 hE8 tE8 s8 H8
          rintro σ' H8 ⟨rfl, s8, hF8, hE8, tE8⟩
          refine ⟨_, rfl, _, rfl, g, b, rfl, lb, g2, fun H9 d2 s9 n2 e2 => ⟨d2, _, rfl, e2, trivial, fun o2 => ?_⟩⟩
          have s10 : Same H8 (upd H9 d2 (.frz o2 (.dK (encN (nexts g b))))) := same_put s9 n2
          have e2' : (upd H9 d2 (.frz o2 (.dK (encN (nexts g b))))) d2 = some (.frz o2 (.dK (encN (nexts g b)))) := upd_same
          generalize (upd H9 d2 (.frz o2 (.dK (encN (nexts g b))))) = H10 at s10 e2' ⊢
          refine ⟨_, rfl, _, rfl, f, a, rfl, la, f2, fun H11 d1 s11 n1 e1 => ⟨d1, _, rfl, e1, trivial, fun o1 => ?_⟩⟩
          have s12 : Same H10 (upd H11 d1 (.frz o1 (.dK (encN (nexts f a))))) := same_put s11 n1
          have e1' : (upd H11 d1 (.frz o1 (.dK (encN (nexts f a))))) d1 = some (.frz o1 (.dK (encN (nexts f a)))) := upd_same
          generalize (upd H11 d1 (.frz o1 (.dK (encN (nexts f a))))) = H12 at s12 e1' ⊢
          have s812 := s10.trans s12
          refine ⟨d1, o1, _, rfl, e1', for_it walk_items (fun t σ H => ∃ ts1 v9 v10, σ = [some (.str (Tx f)), some (.str (Tx g)), some (.ref d), some (.ref lF), some (.ref lE), some (VS u), some (.int (a : Nat)), some (.int (b : Nat)), some (.ref d2), v9, v10] ∧ Same H4 H ∧
            H lF = some (.lst ((fs ++ (if (acc f a && acc g b) = true then [u] else [])).map VS)) ∧ H lE = some (.lst (ts1.map fun t => V.ref t.1)) ∧ AtE H ts1 ∧ ts1.map (·.2) = ts0.map (·.2) ++ ((nexts f a).take t).flatMap (child f g u b) ∧
            H d1 = some (.frz o1 (.dK (encN (nexts f a)))) ∧ H d2 = some (.frz o2 (.dK (encN (nexts g b)))))
            ⟨ts0, _, _, rfl, s8.trans s812, s812 _ _ hF8, s812 _ _ hE8, tE8.same s812, by simp, e1', s12 _ _ e2'⟩ (fun t σ H _ ⟨_, _, _, _, _, _, _, _, _, h, _⟩ => h) ?_ ?_⟩
          · clear s812 s12 e1' s10 e2' s11 n1 e1 n2 e2 s9 H9 H10 H11 H12 hF8 hE8 tE8 s8 H8
            rintro t x σ H8 H9 ht ⟨ts1, v9, v10, rfl, s8, hF8, hE8, tE8, em, e1, e2⟩ ⟨T1, x1, x2, rfl, nT, rfl, q1, q2⟩
            have ht' : t < (nexts f a).length := by rw [encN_len] at ht; exact ht
            obtain ⟨p, hp⟩ : ∃ p, (nexts f a)[t]? = some p := ⟨_, List.getElem?_eq_getElem ht'⟩
            have hpe : (encN (nexts f a))[t]? = some (Sum.inr (Tx [p.1]), V.int (p.2 : Nat)) := by
              unfold encN
              rw [List.getElem?_map, hp] <;> rfl
            have z1 : ((encN (nexts f a))[t]?.map fun kv => kV kv.1) = some x1 := q1
            have z2 : ((encN (nexts f a))[t]?.map Prod.snd) = some x2 := q2
            rw [hpe] at z1 z2
            cases z1
            cases z2
            have pmem := List.mem_of_getElem? hp
            have pl := nexts_lt (nexts_mem pmem)
            have hflat := flat_snoc (child f g u b) hp
            have s9 := new_same nT (.tup [kV (Sum.inr (Tx [p.1])), .int (p.2 : Nat)])
            refine ⟨T1, _, rfl, .inl (.inl upd_same), rfl, _, _, rfl, _, _, rfl, rfl, ?_⟩
            refine ⟨_, rfl, _, rfl, d2, _, rfl, DGet_f (k := (Sum.inr (Tx [p.1]) : Key)) (s9 _ _ e2), _, rfl, ?_⟩
            rw [encN_val]
            cases lq : lk (nexts g b) p.1 with
            | none =>
              refine iteF ?_
              have c0 : child f g u b p = [] := by unfold child; rw [lq]
              rw [c0, List.append_nil] at hflat
              exact iteF ⟨ts1, some (.str (Tx [p.1])), some (.int (p.2 : Nat)), rfl, s8.trans s9, s9 _ _ hF8, s9 _ _ hE8, tE8.same s9, by rw [em, hflat], s9 _ _ e1, s9 _ _ e2⟩
            | some y =>
              refine iteT ?_
              have yl := nexts_lt lq
              have tv := tab p.2 y
              rw [if_pos ⟨trivial, pl.2.1, yl.2.1, pl.2.2.trans yl.2.2.symm⟩] at tv
              have gq : ∀ H', Same (upd H8 T1 (.tup [kV (Sum.inr (Tx [p.1])), .int (p.2 : Nat)])) H' → DGet H' d2 (.str (Tx [p.1])) (some (.int (y : Nat))) := fun H' sq => by
                have z := DGet_f (k := (Sum.inr (Tx [p.1]) : Key)) (sq _ _ (s9 _ _ e2))
                rw [encN_val, lq] at z
                exact z
              have hd9 := s9 _ _ (s8 _ _ ed4)
              refine ⟨_, rfl, d, rfl, .inr ⟨kvs, .inl hd9⟩, _, rfl, _, rfl, _, rfl, d2, _, rfl, gq _ (Same.refl _), by show 2 ≤ sizeLine; decide, fun T2 nT2 => ?_⟩
              have s10 := new_same nT2 (.tup [.int (p.2 : Nat), .int (y : Nat)])
              have g2' := DGet.t (k := key2 p.2 y) (s10 _ _ hd9) (b := T2) upd_same
              rw [tv] at g2'
              refine ⟨_, g2', _, _, rfl, rfl, _, rfl, ?_⟩
              have s11 := s9.trans s10
              refine iteB (fun cw => ?_) (fun cw => ?_)
              · have pos : 0 < W f g p.2 y := by
                  have := of_decide_eq_true cw
                  omega
                have c1 : child f g u b p = [(u ++ [p.1], p.2, y)] := by
                  unfold child
                  rw [lq]
                  exact if_pos pos
                have kf := kids_few f g u b ((nexts f a).take t)
                have lt1 : ts1.length ≤ 5000 + 200 := by
                  have e9 := congrArg List.length em
                  rw [List.length_map, List.length_append, List.length_map] at e9
                  rw [List.length_take] at kf
                  rw [List.length_append, List.length_singleton] at lts
                  have nl := nexts_len f a
                  omega
                have ul : (Tx u).length + (Tx [p.1]).length ≤ sizeLine := by
                  rw [tx_len, tx_len, sizeLine_eq]
                  show u.length + 1 ≤ _
                  omega
                refine ⟨_, rfl, .inl ⟨rfl, _, SqL.of (s11 _ _ hE8)⟩, _, rfl, _, rfl, _, _, rfl, rfl, ul, _, rfl, _, rfl, _, rfl, d2, _, rfl, gq _ s10, by show 3 ≤ sizeLine; decide, fun T3 nT3 => ?_⟩
                rw [tx_add]
                have s12 := s11.trans (new_same nT3 (.tup [.str (Tx (u ++ [p.1])), .int (p.2 : Nat), .int (y : Nat)]))
                have hE12 := s12 _ _ hE8
                refine ⟨lE, _, _, rfl, rfl, hE12, by rw [List.length_map, sizeLine_eq]; omega, ?_⟩
                refine ⟨ts1 ++ [(T3, (u ++ [p.1], p.2, y))], some (.str (Tx [p.1])), some (.int (p.2 : Nat)), rfl, same_put (s8.trans s12) nE4, ?_, ?_, ?_, ?_, ?_, ?_⟩
                · rw [upd_ne (Ne.symm nFE)]
                  exact s12 _ _ hF8
                · rw [upd_same, List.map_append]
                  rfl
                · refine AtE.upd (fun t m => ?_) hE12 _
                  rcases List.mem_append.mp m with m | m
                  · exact s12 _ _ (tE8 t m)
                  · rw [List.mem_singleton] at m
                    subst m
                    exact upd_same
                · rw [List.map_append, em, hflat, c1, List.append_assoc]
                  rfl
                · rw [upd_ne (ne_of (s12 _ _ e1) hE12 (fun z => by cases z))]
                  exact s12 _ _ e1
                · rw [upd_ne (ne_of (s12 _ _ e2) hE12 (fun z => by cases z))]
                  exact s12 _ _ e2
              · have zero : ¬ 0 < W f g p.2 y := by
                  have := of_decide_eq_false cw
                  omega
                have c1 : child f g u b p = [] := by
                  unfold child
                  rw [lq]
                  exact if_neg zero
                rw [c1, List.append_nil] at hflat
                exact ⟨ts1, some (.str (Tx [p.1])), some (.int (p.2 : Nat)), rfl, s8.trans s11, s11 _ _ hF8, s11 _ _ hE8, tE8.same s11, by rw [em, hflat], s11 _ _ e1, s11 _ _ e2⟩
          · clear s812 s12 e1' s10 e2' s11 n1 e1 n2 e2 s9 H9 H10 H11 H12 hF8 hE8 tE8 s8 H8
            rintro σ H8 ⟨ts1, v9, v10, rfl, s8, hF8, hE8, tE8, em, e1, e2⟩
            rw [encN_len, List.take_length] at em
            have emap : (ts0 ++ [(T, (u, a, b))]).map (·.2) = ts0.map (·.2) ++ [(u, a, b)] := by rw [List.map_append] <;> rfl
            refine ⟨pileW f (ts1.map (·.2)), ?_, ts1, _, _, _, _, _, _, _, rfl, s8, hF8, hE8, tE8, fun t m => ?_, ?_, rfl⟩
            · rw [em, emap]
              exact pile_less la f2
            · have q : t.2 ∈ ts1.map (·.2) := List.mem_map.mpr ⟨t, m, rfl⟩
              rw [em] at q
              rcases List.mem_append.mp q with q | q
              · obtain ⟨t', h1, h2⟩ := map_snd q
                rw [← h2]
                exact ok t' (List.mem_append_left _ h1)
              · obtain ⟨p, hp, h⟩ := List.mem_flatMap.mp q
                exact child_ok lu lc (fun c hc => by have := (hf.2.2 c hc).2; omega) hp _ h
            · rw [em]
              refine (pile_turn la).trans ?_
              rw [← emap]
              exact pm
      · have e0' : ts = [] := by
          cases ts with
          | nil => rfl
          | cons t ts => cases c
        subst e0'
        refine ⟨_, rfl, lF, fs, rfl, .inl (.inl (s7 _ _ hF)), fun p np => ?_⟩
        have pm' : fs.Perm (ALL f g) := by
          have q := pm
          rw [List.map_nil, List.flatMap_nil, List.append_nil] at q
          exact q
        rw [srt_congr pm' (ALL_nodup fne)]
        have sf := s4.trans (s6.trans s7)
        exact k _ p (sf.trans (new_same np _)) (sf.free np) upd_same
end
end JC

-- part C7
set_option Elab.async false
set_option linter.all false
set_option maxRecDepth 100000
/-! longest_common -/
namespace JC
open PySem PySem.Spec PyProof.Rows L2 JB
abbrev nLongest : List Str := ["one", "other", "best", "a", "first", "b", "second", "some", "letter", "place", "size", "word"]
theorem scLongest : FnScope nLongest ["one", "other"] (defScope sLongest) := ⟨rfl, rfl, rfl, by decide +kernel, rfl, by decide +kernel, by decide +kernel⟩
def TabB (f g : List Nat) (kvs : List (List Key × V)) (D : Nat → Nat → Prop) [∀ a b, Decidable (D a b)] : Prop :=
  ∀ a b, valV kvs (key2 a b) = if D a b ∧ a < f.length ∧ b < g.length ∧ at0 f a = at0 g b then (bst (L f g a b)).map (fun t => VS (at0 f a :: t)) else none
def topV (o : Option (List Nat)) : V := match o with
  | none => .non
  | some m => VS m
def spLongest : Sp := fun vs H Q _ => ∃ f g : List Nat, vs = [.str (Tx f), .str (Tx g)] ∧ Flm f ∧ Flm g ∧ ∀ H', Same H H' → Q (topV (bst (ALL f g))) H'
theorem one_add (c : Nat) (l : List Nat) : (⟨#[c]⟩ : Str) ++ Tx l = Tx (c :: l) := tx_add [c] l
theorem VS_at {ws : List (List Nat)} {i : Nat} {x : V} (h : (ws.map VS)[i]? = some x) : ∃ u, ws[i]? = some u ∧ x = VS u := by
  rw [List.getElem?_map] at h
  cases e : ws[i]? with
  | none => rw [e] at h; cases h
  | some u =>
    rw [e] at h
    exact ⟨u, rfl, (Option.some.inj h).symm⟩
section
variable {P : Program} {w : World} {K : PySem.W.Frag} {mg : Str → Option Value} {base : Heap} {fn fx : Addr} {fdn fdx : FuncData}
theorem ok_longest {f : Addr} {fd : FuncData} (F : Fun K "longest_common" "longest_common" sLongest f fd) (M : Gs mg) (N : Dn P w K mg base 1 "need_film" ["value"] spNeedFilm fn fdn)
    (X : Dn P w K mg base 1 "nexts" ["film", "place"] spNexts fx fdx) : FnOk P w K mg base CX0 2 f fd ["one", "other"] spLongest := by
  refine F.ok scLongest (fun vs H Q E h => ?_) (fun cdv A outer s H vs Q E hr h => ?_)
  · obtain ⟨f, g, rfl, _⟩ := h
    rfl
  · obtain ⟨f, g, rfl, hf, hg, k⟩ := h
    have hu := hu_of hr
    refine ⟨_, pss_cons (ps_expr (pe_call N.ok hr rfl N.m N.kp N.b .nil pass0 (pa_cons (pv 0) pa_nil)))
      (pss_cons (ps_expr (pe_call N.ok hr rfl N.m N.kp N.b .nil pass0 (pa_cons (pv 1) pa_nil)))
      (pss_cons (ps_set (i := 2) scLongest.nd rfl (.inl rfl) pe_dnewT)
      (pss_cons (ps_for PassesOwn.never rfl (pi_range3 rfl M.range (pa_cons (pe_op op_sub (pe_callB call_len_str (by rfl) M.len PySem.boot_len (pa_cons (pv 0) pa_nil)) pe_int) (pa_cons (pe_un un_neg pe_int) (pa_cons (pe_un un_neg pe_int) pa_nil)))) (pg_name (i := 3) scLongest.nd rfl (.inl rfl))
        (pss_cons (ps_set (i := 4) scLongest.nd rfl (.inl rfl) (pe_frz (pe_call X.ok hr rfl X.m X.kp X.b .nil pass0 (pa_cons (pv 0) (pa_cons (pv 3) pa_nil)))))
        (pss_one (ps_for PassesOwn.never rfl (pi_range3 rfl M.range (pa_cons (pe_op op_sub (pe_callB call_len_str (by rfl) M.len PySem.boot_len (pa_cons (pv 1) pa_nil)) pe_int) (pa_cons (pe_un un_neg pe_int) (pa_cons (pe_un un_neg pe_int) pa_nil)))) (pg_name (i := 5) scLongest.nd rfl (.inl rfl))
          (pss_one (ps_if (pt_cmpR op_eq (pe_ix ix_str (pv 0) (pv 3) (fun _ _ => rfl)) (pe_ix ix_str (pv 1) (pv 5) (fun _ _ => rfl)) (nomark _))
            (pss_cons (ps_set (i := 6) scLongest.nd rfl (.inl rfl) (pe_frz (pe_call X.ok hr rfl X.m X.kp X.b .nil pass0 (pa_cons (pv 1) (pa_cons (pv 5) pa_nil)))))
            (pss_cons (ps_set (i := 7) scLongest.nd rfl (.inl rfl) (pe_md (pe_ifExp (pt_kn (PW.pt (pw_and (pt_cmpR op_eq (pe_ix ix_str (pv 0) (pv 3) (fun _ _ => rfl)) (pe_ix ix_str (pv 0) (pe_un un_neg pe_int) (fun _ _ => rfl)) (nomark _))
                (pw_and1 (pt_cmpR op_eq (pe_ix ix_str (pv 1) (pv 5) (fun _ _ => rfl)) (pe_ix ix_str (pv 1) (pe_un un_neg pe_int) (fun _ _ => rfl)) (nomark _)))))) (pe_lst (pa_cons (pe_ix ix_str (pv 0) (pv 3) (fun _ _ => rfl)) pa_nil)) (pe_lst pa_nil))))
            (pss_cons (ps_for PassesOwn.never rfl (pi_items (pv 4)) (pg_tup rfl (pgs_cons (pg_name (i := 8) scLongest.nd rfl (.inl rfl)) (pgs_cons (pg_name (i := 9) scLongest.nd rfl (.inl rfl)) pgs_nil)))
              (pss_one (ps_if (PW.pt (pw_and (pt_cmp (pc_din hu (pv 8) (pv 6))) (pw_and1 (pt_cmp (pc_din hu (pe_tup (pa_cons (pv 9) (pa_cons (pe_dget hu (pv 6) (pv 8) (fun _ _ => rfl)) pa_nil))) (pv 2))))))
                (pss_one (ps_expr (pe_bm PySem.F.plainAttrs_list PySem.F.slot_list_append PySem.F.type_list_append mt_append (pv 7) (pa_cons (pe_op op_add_str (pe_ix ix_str (pv 0) (pv 3) (fun _ _ => rfl))
                  (pe_dget hu (pv 2) (pe_tup (pa_cons (pv 9) (pa_cons (pe_dget hu (pv 6) (pv 8) (fun _ _ => rfl)) pa_nil))) (fun _ _ => rfl))) pa_nil)))) pss_nil)))
            (pss_one (ps_if (pt_cmpR (op_neD hr.units) (pv 7) (pe_lst pa_nil) (nomark _))
              (pss_cons (ps_set (i := 10) scLongest.nd rfl (.inr rfl) (pe_callB (cr_max rfl) (by rfl) M.max boot_max (pa_cons
                  (pe_lc (own := [("word", 11)]) (g := gName 11) (tt := tYes) rfl scLongest.nd (pi_list (pv 7)) (blkOk_by (own := [("word", 11)]) (N := nLongest) (sc := defScope sLongest) (by decide +kernel))
                    (fun _ _ _ _ _ => pg_name (i := 11) scLongest.nd rfl (Or.inl rfl)) (fun _ _ _ _ _ => pts_nil) (fun _ _ _ _ _ => pe_callB call_len_str (by rfl) M.len PySem.boot_len (pa_cons (pv 11) pa_nil))) pa_nil)))
              (pss_one (ps_dput hu (pv 2) (pe_tup (pa_cons (pv 3) (pa_cons (pv 5) pa_nil))) (pe_callB (cr_minS rfl) (by rfl) M.min boot_min (pa_cons
                  (pe_lc (own := [("word", 11)]) (g := gName 11) rfl scLongest.nd (pi_list (pv 7)) (blkOk_by (own := [("word", 11)]) (N := nLongest) (sc := defScope sLongest) (by decide +kernel))
                    (fun _ _ _ _ _ => pg_name (i := 11) scLongest.nd rfl (Or.inl rfl)) (fun _ _ _ _ _ => pts_one (pt_cmpR op_eq (pe_callB call_len_str (by rfl) M.len PySem.boot_len (pa_cons (pv 11) pa_nil)) (pv 10) (nomark _))) (fun _ _ _ _ _ => pv 11)) pa_nil)) rfl))) pss_nil))))) pss_nil))))))
      (pss_one (ps_ret (pe_dget1 hu (pv 2) (pe_tup (pa_cons pe_int (pa_cons pe_int pa_nil))) ⟨rfl, rfl, rfl, rfl⟩)))))), ?_⟩
    refine ⟨_, rfl, f, rfl, hf, fun H1 s1 => ⟨_, rfl, g, rfl, hg, fun H2 s2 => ?_⟩⟩
    have s12 := s1.trans s2
    clear s1 s2
    have f1 := hf.1
    have f2 := hf.2.1
    have g1 := hg.1
    have g2 := hg.2.1
    have fne := hf.ne
    have gne := hg.ne
    intro d nd2
    have nd : H d = none := s12.free nd2
    have s1 : Same H (upd H2 d (.dT [])) := same_put s12 nd
    clear s12 nd2
    generalize hH1 : (upd H2 d (.dT [])) = H1 at s1 ⊢
    have hd1 : H1 d = some (.dT []) := by rw [← hH1]; exact upd_same
    clear hH1 H2
    refine ⟨_, rfl, _, rfl, tx_small (by omega), _, _, rfl, rfl, _, rfl, _, rfl, (f.length : Int) - 1, -1, -1, f.length, by rw [tx_len] <;> rfl, fall (by omega), ?_⟩
    refine for_rangeC (lo := (f.length : Int) - 1) (c := -1) (n := f.length) (fun i σ H2 => ∃ kvs v3 v4 v5 v6 v7 v8 v9 v10, σ = [some (.str (Tx f)), some (.str (Tx g)), some (.ref d), v3, v4, v5, v6, v7, v8, v9, v10, none] ∧ Same H H2 ∧ H2 d = some (.dT kvs) ∧
      kvs.length ≤ i * 200 ∧ TabB f g kvs (fun a _ => f.length ≤ a + i)) ⟨[], none, none, none, none, none, none, none, none, rfl, s1, hd1, Nat.zero_le _, fun a b => ?_⟩ ?_ ?_
    · rw [if_neg (by omega)]
      exact valV_nil
    · rintro i σ H2 hi ⟨kvs, v3, v4, v5, v6, v7, v8, v9, v10, rfl, s2, hd, hl, tab⟩
      rw [fall_at hi]
      obtain ⟨a, ha⟩ : ∃ a, a = f.length - 1 - i := ⟨_, rfl⟩
      rw [← ha]
      refine ⟨_, rfl, _, rfl, f, a, rfl, by omega, f2, fun H3 d1 s3 n1 e1 => ⟨d1, _, rfl, e1, trivial, fun o1 => ?_⟩⟩
      have nd1 : d ≠ d1 := ne_of_none hd n1
      have s4 : Same H (upd H3 d1 (.frz o1 (.dK (encN (nexts f a))))) := same_put (s2.trans s3) (s2.free n1)
      have hd4 : (upd H3 d1 (.frz o1 (.dK (encN (nexts f a))))) d = some (.dT kvs) := by
        rw [upd_ne nd1]
        exact s3 _ _ hd
      have e4 : (upd H3 d1 (.frz o1 (.dK (encN (nexts f a))))) d1 = some (.frz o1 (.dK (encN (nexts f a)))) := upd_same
      generalize (upd H3 d1 (.frz o1 (.dK (encN (nexts f a))))) = H4 at s4 hd4 e4 ⊢
      refine ⟨_, rfl, _, rfl, tx_small (by omega), _, _, rfl, rfl, _, rfl, _, rfl, (g.length : Int) - 1, -1, -1, g.length, by rw [tx_len] <;> rfl, fall (by omega), ?_⟩
      refine for_rangeC (lo := (g.length : Int) - 1) (c := -1) (n := g.length) (fun j σ H2 => ∃ kvs v5 v6 v7 v8 v9 v10, σ = [some (.str (Tx f)), some (.str (Tx g)), some (.ref d), some (.int (a : Nat)), some (.ref d1), v5, v6, v7, v8, v9, v10, none] ∧ Same H H2 ∧
        H2 d1 = some (.frz o1 (.dK (encN (nexts f a)))) ∧ H2 d = some (.dT kvs) ∧ kvs.length ≤ i * 200 + j ∧ TabB f g kvs (fun a' b' => f.length ≤ a' + i ∨ (a' = a ∧ g.length ≤ b' + j))) ⟨kvs, _, _, _, _, _, _, rfl, s4, e4, hd4, by omega, fun a' b' => ?_⟩ ?_ ?_
      · rw [tab a' b']
        by_cases c : f.length ≤ a' + i ∧ a' < f.length ∧ b' < g.length ∧ at0 f a' = at0 g b'
        · rw [if_pos c, if_pos ⟨.inl c.1, c.2⟩]
        · rw [if_neg c, if_neg (fun z => z.1.elim (fun q => c ⟨q, z.2⟩) (fun q => by omega))]
      · clear hd4 e4 s4 tab hl hd kvs v5 v6 v7 v8 v9 v10
        rintro j σ H5 hj ⟨kvs, v5, v6, v7, v8, v9, v10, rfl, s5, e5, hd5, hl, tab⟩
        rw [fall_at hj]
        obtain ⟨b, hb⟩ : ∃ b, b = g.length - 1 - j := ⟨_, rfl⟩
        rw [← hb]
        have la : a < f.length := by omega
        have lb : b < g.length := by omega
        refine ⟨_, rfl, _, rfl, _, _, _, rfl, rfl, tx_small (by omega), tx_at la, _, rfl, _, rfl, _, _, _, rfl, rfl, tx_small (by omega), tx_at lb, rfl, _, rfl, ?_⟩
        rw [one_eq]
        refine iteB (fun c => ?_) (fun c => ?_)
        · have cab : at0 f a = at0 g b := of_decide_eq_true c
          refine ⟨_, rfl, _, rfl, g, b, rfl, lb, g2, fun H6 d2 s6 n2 e6 => ⟨d2, _, rfl, e6, trivial, fun o2 => ?_⟩⟩
          have nd2 : d ≠ d2 := ne_of_none hd5 n2
          have nd12 : d1 ≠ d2 := ne_of_none e5 n2
          have s7 : Same H (upd H6 d2 (.frz o2 (.dK (encN (nexts g b))))) := same_put (s5.trans s6) (s5.free n2)
          have hd7 : (upd H6 d2 (.frz o2 (.dK (encN (nexts g b))))) d = some (.dT kvs) := by
            rw [upd_ne nd2]
            exact s6 _ _ hd5
          have e17 : (upd H6 d2 (.frz o2 (.dK (encN (nexts g b))))) d1 = some (.frz o1 (.dK (encN (nexts f a)))) := by
            rw [upd_ne nd12]
            exact s6 _ _ e5
          have e27 : (upd H6 d2 (.frz o2 (.dK (encN (nexts g b))))) d2 = some (.frz o2 (.dK (encN (nexts g b)))) := upd_same
          generalize (upd H6 d2 (.frz o2 (.dK (encN (nexts g b))))) = H7 at s7 hd7 e17 e27 ⊢
          refine ⟨fun v H' => ∃ lS, v = .ref lS ∧ Same H7 H' ∧ H7 lS = none ∧ H' lS = some (.lst ((someL f g a b 0).map VS)), ?_, ?_⟩
          · refine ⟨acc f a && acc g b, fun Q' q => ?_, ?_⟩
            · refine ⟨_, rfl, _, rfl, _, _, _, rfl, rfl, tx_small (by omega), tx_at la, _, rfl, _, rfl, _, _, _, rfl, rfl, tx_small (by omega), tx_last fne, rfl, _, rfl, ?_⟩
              rw [one_eq]
              refine iteB (fun c1 => ?_) (fun c1 => ?_)
              · refine ⟨_, rfl, _, rfl, _, _, _, rfl, rfl, tx_small (by omega), tx_at lb, _, rfl, _, rfl, _, _, _, rfl, rfl, tx_small (by omega), tx_last gne, rfl, _, rfl, ?_⟩
                rw [one_eq]
                have e1 : acc f a = true := c1
                rw [e1, Bool.true_and] at q
                exact q
              · have e1 : acc f a = false := c1
                rw [e1] at q
                exact q
            · refine iteB (fun c1 => ?_) (fun c1 => ?_)
              · refine ⟨_, rfl, _, rfl, _, _, _, rfl, rfl, tx_small (by omega), tx_at la, by show 1 ≤ sizeLine; decide, fun lS nS => ⟨lS, rfl, new_same nS _, nS, ?_⟩⟩
                rw [upd_same]
                unfold someL
                rw [if_pos c1]
                rfl
              · refine ⟨Nat.zero_le _, fun lS nS => ⟨lS, rfl, new_same nS _, nS, ?_⟩⟩
                rw [upd_same]
                unfold someL
                rw [c1]
                rfl
          · rintro v H8 ⟨lS, rfl, s8, nS, hS⟩
            have ndS : d ≠ lS := ne_of_none hd7 nS
            refine ⟨_, rfl, d1, o1, _, rfl, s8 _ _ e17, for_it walk_items (fun t σ H8 => ∃ v8 v9, σ = [some (.str (Tx f)), some (.str (Tx g)), some (.ref d), some (.int (a : Nat)), some (.ref d1), some (.int (b : Nat)), some (.ref d2), some (.ref lS), v8, v9, v10, none] ∧ Same H7 H8 ∧
              H8 lS = some (.lst ((someL f g a b t).map VS))) ⟨_, _, rfl, s8, hS⟩ (fun t σ H8 _ ⟨_, _, _, s8, _⟩ => s8 _ _ e17) ?_ ?_⟩
            · clear hS s8 H8
              rintro t x σ H8 H9 ht ⟨v8, v9, rfl, s8, hS⟩ ⟨T1, x1, x2, rfl, nT, rfl, q1, q2⟩
              have ht' : t < (nexts f a).length := by rw [encN_len] at ht; exact ht
              obtain ⟨p, hp⟩ : ∃ p, (nexts f a)[t]? = some p := ⟨_, List.getElem?_eq_getElem ht'⟩
              have hpe : (encN (nexts f a))[t]? = some (Sum.inr (Tx [p.1]), V.int (p.2 : Nat)) := by
                unfold encN
                rw [List.getElem?_map, hp] <;> rfl
              have z1 : ((encN (nexts f a))[t]?.map fun kv => kV kv.1) = some x1 := q1
              have z2 : ((encN (nexts f a))[t]?.map Prod.snd) = some x2 := q2
              rw [hpe] at z1 z2
              cases z1
              cases z2
              have pl := nexts_lt (nexts_mem (List.mem_of_getElem? hp))
              have ss := some_succ (g := g) (b := b) hp
              have sT := new_same nT (.tup [kV (Sum.inr (Tx [p.1])), .int (p.2 : Nat)])
              have s9 := s8.trans sT
              have hS9 := sT _ _ hS
              refine ⟨T1, _, rfl, .inl (.inl upd_same), rfl, _, _, rfl, _, _, rfl, rfl, ?_⟩
              refine ⟨_, rfl, _, rfl, d2, _, rfl, DGet_f (k := (Sum.inr (Tx [p.1]) : Key)) (s9 _ _ e27), _, rfl, ?_⟩
              rw [encN_val]
              cases lq : lk (nexts g b) p.1 with
              | none =>
                refine iteF (iteF ?_)
                have c0 : sub f g (at0 f a) b p = [] := by unfold sub; rw [lq]
                rw [c0, List.append_nil] at ss
                exact ⟨some (.str (Tx [p.1])), some (.int (p.2 : Nat)), rfl, s9, by rw [ss]; exact hS9⟩
              | some y =>
                refine iteT ?_
                have yl := nexts_lt lq
                have tv := tab p.2 y
                rw [if_pos ⟨.inl (by omega), pl.2.1, yl.2.1, pl.2.2.trans yl.2.2.symm⟩, pl.2.2] at tv
                have gq : ∀ H', Same (upd H8 T1 (.tup [kV (Sum.inr (Tx [p.1])), .int (p.2 : Nat)])) H' → DGet H' d2 (.str (Tx [p.1])) (some (.int (y : Nat))) := fun H' sq => by
                  have z := DGet_f (k := (Sum.inr (Tx [p.1]) : Key)) (sq _ _ (s9 _ _ e27))
                  rw [encN_val, lq] at z
                  exact z
                have hd9 := s9 _ _ hd7
                refine ⟨_, rfl, _, rfl, _, rfl, d2, _, rfl, gq _ (Same.refl _), by show 2 ≤ sizeLine; decide, fun T2 nT2 => ?_⟩
                have s10 := new_same nT2 (.tup [.int (p.2 : Nat), .int (y : Nat)])
                have g3 := DGet.t (k := key2 p.2 y) (s10 _ _ hd9) (b := T2) upd_same
                rw [tv] at g3
                refine ⟨_, rfl, d, _, rfl, g3, _, rfl, ?_⟩
                cases bm : bst (L f g p.2 y) with
                | none =>
                  refine iteF ?_
                  have c0 : sub f g (at0 f a) b p = [] := by unfold sub; rw [lq]; simp only; rw [bm]
                  rw [c0, List.append_nil] at ss
                  exact ⟨some (.str (Tx [p.1])), some (.int (p.2 : Nat)), rfl, s9.trans s10, by rw [ss]; exact s10 _ _ hS9⟩
                | some u =>
                  refine iteT ?_
                  have c1 : sub f g (at0 f a) b p = [at0 f a :: p.1 :: u] := by unfold sub; rw [lq]; simp only; rw [bm]
                  rw [c1] at ss
                  have ul := L_len pl.2.1 yl.2.1 (bst_some bm).1
                  refine ⟨_, rfl, .inl ⟨rfl, _, SqL.of (s10 _ _ hS9)⟩, _, rfl, _, rfl, _, _, _, rfl, rfl, tx_small (by omega), tx_at la, _, rfl, _, rfl, _, rfl, _, rfl, d2, _, rfl, gq _ s10, by show 2 ≤ sizeLine; decide, fun T3 nT3 => ?_⟩
                  have s11 := s10.trans (new_same nT3 (.tup [.int (p.2 : Nat), .int (y : Nat)]))
                  have g4 := DGet.t (k := key2 p.2 y) (s11 _ _ hd9) (b := T3) upd_same
                  rw [tv, bm] at g4
                  refine ⟨d, _, rfl, g4, _, _, rfl, rfl, ?_, ?_⟩
                  · show (Tx [at0 f a]).length + (Tx (p.1 :: u)).length ≤ sizeLine
                    rw [tx_len, tx_len, sizeLine_eq]
                    show 1 + (u.length + 1) ≤ _
                    omega
                  · rw [one_add]
                    have hS11 := s11 _ _ hS9
                    have fw := some_few f g a b t
                    have nl := nexts_len f a
                    refine ⟨lS, _, _, rfl, rfl, hS11, by rw [List.length_map, sizeLine_eq]; omega, some (.str (Tx [p.1])), some (.int (p.2 : Nat)), rfl, same_put (s9.trans s11) nS, ?_⟩
                    rw [upd_same, ss, List.map_append]
                    rfl
            · clear hS s8 H8
              rintro σ H8 ⟨v8, v9, rfl, s8, hS⟩
              rw [encN_len] at hS
              have fw := some_few f g a b (nexts f a).length
              have nl := nexts_len f a
              have sIn := some_in (g := g) (b := b) la
              have wl : ∀ u ∈ someL f g a b (nexts f a).length, u.length ≤ 200 := fun u hu => by
                obtain ⟨t, ht, e⟩ := List.mem_map.mp (sIn u hu)
                have := L_len la lb ht
                rw [← e, List.length_cons]
                omega
              have sB : ∀ m, IsBst (someL f g a b (nexts f a).length) m → ∃ t, bst (L f g a b) = some t ∧ m = at0 f a :: t := fun m hm => some_bst la hm
              have sN : someL f g a b (nexts f a).length = [] → bst (L f g a b) = none := some_none la
              have sC : ∀ u ∈ someL f g a b (nexts f a).length, Sm u := fun u hu => by
                obtain ⟨t, ht, e⟩ := List.mem_map.mp (sIn u hu)
                have q := (L_mem t a b la lb).mp ht
                have := Comes_letters (f := f) q.1 la
                intro c hc
                rw [← e] at hc
                have := this c hc
                have := (hf.2.2 c this).2
                omega
              generalize someL f g a b (nexts f a).length = ws at hS fw wl sB sN sC
              refine ⟨_, rfl, Nat.zero_le _, fun e0 ne0 => ⟨_, _, .lst (.inl (.inl (new_same ne0 _ _ _ hS))) (dp_VS ws), .lst (.inl (.inl upd_same)) .nil, shaped_list fun u hu => ⟨sm_ok (sC u hu), Nat.zero_le _⟩, shaped_nil, _, rfl, ?_⟩⟩
              rw [eqv_nil]
              have s9 := s8.trans (new_same ne0 (.lst []))
              have hS9 := new_same ne0 (.lst []) _ _ hS
              generalize (upd H8 e0 (.lst [])) = H9 at s9 hS9 ⊢
              refine iteB (fun cn => ?_) (fun cn => ?_)
              · have hne : ws ≠ [] := fun e => by
                  rw [e] at cn
                  cases cn
                refine ⟨_, rfl, lS, rfl, ⟨_, SqL.of hS9⟩, fun D nD => lc_list (xs := ws.map VS) (fun i H => Same H9 H ∧ H D = some (.lst ((ws.take i).map fun u => V.int (u.length : Nat)))) ⟨new_same nD _, upd_same⟩ (fun i H _ h => SqL.of (h.1 _ _ hS9)) ?_ ?_⟩
                · rintro i' x H10 hx ⟨s10, hD⟩
                  obtain ⟨u, hu, rfl⟩ := VS_at hx
                  have ul := wl u (List.mem_of_getElem? hu)
                  have lw : i' < ws.length := (List.getElem?_eq_some_iff.mp hu).1
                  refine ⟨rfl, _, rfl, _, rfl, tx_small (by omega), _, hD, by rw [List.length_map, List.length_take, sizeLine_eq]; omega, same_put s10 nD, ?_⟩
                  rw [upd_same, List.take_add_one, hu, List.map_append]
                  show some (HO.lst (_ ++ [V.int ((Tx u).length : Nat)])) = _
                  rw [tx_len]
                  rfl
                · rintro H10 ⟨s10, hD⟩
                  rw [List.length_map, List.take_length] at hD
                  have hDn : H10 D = some (.lst ((ws.map fun u => (u.length : Int)).map V.int)) := by
                    rw [hD, List.map_map]
                    rfl
                  refine ⟨D, ws.map fun u => (u.length : Int), rfl, SqL.of hDn, by rw [List.length_map]; exact List.length_pos_iff.mpr hne, fun mx hmx hle => ?_⟩
                  obtain ⟨u0, hu0, eu0⟩ := List.mem_map.mp hmx
                  have s11 := s9.trans s10
                  have hS11 := s10 _ _ hS9
                  clear hDn hD
                  refine ⟨_, rfl, lS, rfl, ⟨_, SqL.of hS11⟩, fun D2 nD2 => lc_list (xs := ws.map VS) (fun i H => Same H10 H ∧ H D2 = some (.lst (((ws.take i).filter fun u => decide ((u.length : Int) = mx)).map VS))) ⟨new_same nD2 _, upd_same⟩ (fun i H _ h => SqL.of (h.1 _ _ hS11)) ?_ ?_⟩
                  · rintro i' x H12 hx ⟨s12, hD⟩
                    obtain ⟨u, hu, rfl⟩ := VS_at hx
                    have ul := wl u (List.mem_of_getElem? hu)
                    have lw : i' < ws.length := (List.getElem?_eq_some_iff.mp hu).1
                    have tk : ws.take (i' + 1) = ws.take i' ++ [u] := by
                      rw [List.take_add_one, hu]
                      rfl
                    refine ⟨rfl, _, rfl, _, rfl, tx_small (by omega), _, rfl, rfl, _, rfl, ?_⟩
                    rw [tx_len]
                    have ed : decide (V.int ((u.length : Nat) : Int) = V.int mx) = decide ((u.length : Int) = mx) := by
                      by_cases e : (u.length : Int) = mx
                      · rw [decide_eq_true e, e]
                        simp
                      · rw [decide_eq_false e, decide_eq_false]
                        intro z
                        injection z with z
                        exact e z
                    rw [ed]
                    refine iteB (fun cz => ?_) (fun cz => ?_)
                    · refine ⟨_, rfl, _, hD, ?_, same_put s12 nD2, ?_⟩
                      · rw [List.length_map, sizeLine_eq]
                        have := List.length_filter_le (fun u => decide ((u.length : Int) = mx)) (ws.take i')
                        rw [List.length_take] at this
                        omega
                      · have e1 : [u].filter (fun u => decide ((u.length : Int) = mx)) = [u] := List.filter_cons_of_pos (p := fun u : List Nat => decide ((u.length : Int) = mx)) cz
                        rw [upd_same, tk, List.filter_append, e1, List.map_append]
                        rfl
                    · refine ⟨s12, ?_⟩
                      have e1 : [u].filter (fun u => decide ((u.length : Int) = mx)) = [] := List.filter_cons_of_neg (p := fun u : List Nat => decide ((u.length : Int) = mx)) (by rw [cz]; decide)
                      rw [tk, List.filter_append, e1, List.append_nil]
                      exact hD
                  · rintro H12 ⟨s12, hD⟩
                    rw [List.length_map, List.take_length] at hD
                    have hDs : H12 D2 = some (.lst (((ws.filter fun u => decide ((u.length : Int) = mx)).map Tx).map V.str)) := by
                      rw [hD, List.map_map]
                      rfl
                    have m0 : u0 ∈ ws.filter fun u => decide ((u.length : Int) = mx) := List.mem_filter.mpr ⟨hu0, decide_eq_true eu0⟩
                    refine ⟨D2, _, rfl, SqL.of hDs, by rw [List.length_map]; exact List.length_pos_iff.mpr (fun e => by rw [e] at m0; cases m0), fun m hm hmin => ?_⟩
                    obtain ⟨mw, hmw, rfl⟩ := List.mem_map.mp hm
                    obtain ⟨hw1, hw2⟩ := List.mem_filter.mp hmw
                    have hw3 : (mw.length : Int) = mx := of_decide_eq_true hw2
                    have isb : IsBst ws mw := by
                      refine pick_bst (k := mw.length) (fun t ht => ?_) hw1 rfl fun t ht e hlt => ?_
                      · have := hle _ (List.mem_map.mpr ⟨t, ht, rfl⟩)
                        omega
                      · exact hmin (Tx t) (List.mem_map.mpr ⟨t, List.mem_filter.mpr ⟨ht, decide_eq_true (by omega)⟩, rfl⟩) hlt
                    obtain ⟨t, bt, et⟩ := sB mw isb
                    have s13 := s11.trans s12
                    refine ⟨_, rfl, _, rfl, _, rfl, by show 2 ≤ sizeLine; decide, fun T3 nT3 => ?_⟩
                    have s14 := s13.trans (new_same nT3 (.tup [.int (a : Nat), .int (b : Nat)]))
                    refine ⟨d, _, rfl, DPut.t (k := key2 a b) (s14 _ _ hd7) upd_same (by rw [sizeLine_eq]; omega), ?_⟩
                    refine ⟨_, _, _, _, _, _, _, rfl, same_put (s7.trans s14) nd, ?_, upd_same, ?_, fun a' b' => ?_⟩
                    · rw [upd_ne (ne_of (s14 _ _ e17) (s14 _ _ hd7) (fun z => by cases z))]
                      exact s14 _ _ e17
                    · have := length_putK kvs (key2 a b) (V.str (Tx mw))
                      omega
                    · rw [put2, tab a' b']
                      by_cases q : a' = a ∧ b' = b
                      · obtain ⟨rfl, rfl⟩ := q
                        rw [if_pos ⟨rfl, rfl⟩, if_pos ⟨.inr ⟨rfl, by omega⟩, by omega, by omega, cab⟩, bt, et]
                        rfl
                      · rw [if_neg q]
                        by_cases q2 : (f.length ≤ a' + i ∨ (a' = a ∧ g.length ≤ b' + j)) ∧ a' < f.length ∧ b' < g.length ∧ at0 f a' = at0 g b'
                        · rw [if_pos q2, if_pos ⟨by omega, q2.2⟩]
                        · rw [if_neg q2, if_neg (fun z => q2 ⟨by omega, z.2⟩)]
              · have e0' : ws = [] := by
                  cases ws with
                  | nil => rfl
                  | cons t ts => cases cn
                have bn := sN e0'
                refine ⟨kvs, _, _, _, _, _, _, rfl, s7.trans s9, s9 _ _ e17, s9 _ _ hd7, by omega, fun a' b' => ?_⟩
                rw [tab a' b']
                by_cases q : a' = a ∧ b' = b
                · obtain ⟨rfl, rfl⟩ := q
                  rw [if_neg (by omega), if_pos ⟨.inr ⟨rfl, by omega⟩, by omega, by omega, cab⟩, bn]
                  rfl
                · by_cases q2 : (f.length ≤ a' + i ∨ (a' = a ∧ g.length ≤ b' + j)) ∧ a' < f.length ∧ b' < g.length ∧ at0 f a' = at0 g b'
                  · rw [if_pos q2, if_pos ⟨by omega, q2.2⟩]
                  · rw [if_neg q2, if_neg (fun z => q2 ⟨by omega, z.2⟩)]
        · refine ⟨kvs, _, _, _, _, _, _, rfl, s5, e5, hd5, by omega, fun a' b' => ?_⟩
          have nab : at0 f a ≠ at0 g b := of_decide_eq_false c
          rw [tab a' b']
          by_cases q2 : (f.length ≤ a' + i ∨ (a' = a ∧ g.length ≤ b' + j)) ∧ a' < f.length ∧ b' < g.length ∧ at0 f a' = at0 g b'
          · rw [if_pos q2, if_pos ⟨by omega, q2.2⟩]
          · rw [if_neg q2, if_neg (fun z => ?_)]
            by_cases q3 : a' = a ∧ b' = b
            · obtain ⟨rfl, rfl⟩ := q3
              exact nab z.2.2.2
            · exact q2 ⟨by omega, z.2⟩
      · clear hd4 e4 s4 tab hl hd kvs v5 v6 v7 v8 v9 v10
        rintro σ H5 ⟨kvs, v5, v6, v7, v8, v9, v10, rfl, s5, e5, hd5, hl, tab⟩
        refine ⟨kvs, _, _, _, _, _, _, _, _, rfl, s5, hd5, by omega, fun a' b' => ?_⟩
        rw [tab a' b']
        by_cases q2 : (f.length ≤ a' + i ∨ (a' = a ∧ g.length ≤ b' + g.length)) ∧ a' < f.length ∧ b' < g.length ∧ at0 f a' = at0 g b'
        · rw [if_pos q2, if_pos ⟨by omega, q2.2⟩]
        · rw [if_neg q2, if_neg (fun z => q2 ⟨by omega, z.2⟩)]
    · rintro σ H2 ⟨kvs, v3, v4, v5, v6, v7, v8, v9, v10, rfl, s2, hd, hl, tab⟩
      refine ⟨_, rfl, d, rfl, .inr ⟨kvs, .inl hd⟩, by show 2 ≤ sizeLine; decide, fun T nT => ?_⟩
      have s4 := new_same nT (.tup [.int 0, .int 0])
      refine ⟨_, DGet.t (k := key2 0 0) (s4 _ _ hd) upd_same, ?_⟩
      have e : (valV kvs (key2 0 0)).getD .non = topV (bst (ALL f g)) := by
        rw [tab 0 0, ALL_bst]
        by_cases e : at0 f 0 = at0 g 0
        · rw [if_pos ⟨by omega, by omega, by omega, e⟩, if_pos e]
          cases bst (L f g 0 0) <;> rfl
        · rw [if_neg (fun z => e z.2.2.2), if_neg e] <;> rfl
      rw [e]
      exact k _ (s2.trans s4)
end
end JC

-- part D1
set_option Elab.async false
set_option linter.all false
set_option maxRecDepth 100000
/-! _law_taken, _law_film -/
namespace JC
open PySem PySem.Spec PyProof.Rows L2 JB
theorem scTaken : FnScope ["_law_row", "_law_many", "_law_found", "_law_cell"] ["_law_row", "_law_many"] (defScope sTaken) := ⟨rfl, rfl, rfl, by decide +kernel, rfl, by decide +kernel, by decide +kernel⟩
/-- the drawing's state at r, over the script at a -/
def RowAt (H : Hp) (r a : Addr) : Prop := ∃ i x y : Int, H r = some (.lst [.ref a, .int i, .int x, .int y]) ∧ 0 ≤ i ∧ 0 ≤ x ∧ x < 2147483647
/-- all but the row is as it was -/
def SameBut (r : Addr) (H H' : Hp) : Prop := ∀ b o, b ≠ r → H b = some o → H' b = some o
theorem SameBut.trans {r : Addr} {H H1 H2 : Hp} (a : SameBut r H H1) (b : SameBut r H1 H2) : SameBut r H H2 := fun c o n h => b c o n (a c o n h)
theorem SameBut.of {r : Addr} {H H1 : Hp} (a : Same H H1) : SameBut r H H1 := fun c o _ h => a c o h
theorem SameBut.put {r : Addr} {H : Hp} {o : HO} : SameBut r H (upd H r o) := fun c u n h => by
  rw [upd_ne n]
  exact h
/-- the script stands apart from the row -/
def Ap (K : PySem.W.Frag) (r a : Addr) (xs : List V) : Prop := a ≠ r ∨ ∀ H, SqL K H a xs
theorem SameBut.seq {K : PySem.W.Frag} {r : Addr} {H H' : Hp} {a : Addr} {xs : List V} (e : SameBut r H H') (n : Ap K r a xs) (h : SqL K H a xs) : SqL K H' a xs := by
  rcases n with n | n
  · rcases h with (h | ⟨o, h⟩) | h
    · exact .inl (.inl (e _ _ n h))
    · exact .inl (.inr ⟨o, e _ _ n h⟩)
    · exact .inr h
  · exact n H'
theorem Ap.of {K : PySem.W.Frag} {H : Hp} {r a : Addr} {xs : List V} (h : SqL K H a xs) (n : H r = none) : Ap K r a xs := by
  rcases h with (h | ⟨o, h⟩) | h
  · exact .inl (ne_of_none h n)
  · exact .inl (ne_of_none h n)
  · exact .inr fun _ => .inr h
def spTaken (K : PySem.W.Frag) : Sp := fun vs H Q _ => ∃ (r a : Addr) (ns : List Int) (m : Nat), vs = [.ref r, .int (m : Nat)] ∧ 1 ≤ m ∧ m ≤ 1000 ∧ Ap K r a (ns.map V.int) ∧ SqL K H a (ns.map V.int) ∧ RowAt H r a ∧
  ∀ H' (z : Nat), SameBut r H H' → RowAt H' r a → z < m → Q (.int (z : Nat)) H'
theorem mod_nat (x : Int) {m : Nat} (h : 1 ≤ m) : ∃ z : Nat, x % (m : Int) = (z : Int) ∧ z < m := by
  have h1 := Int.emod_nonneg x (show (m : Int) ≠ 0 by omega)
  have h2 := Int.emod_lt_of_pos x (show (0 : Int) < (m : Int) by omega)
  exact ⟨(x % (m : Int)).toNat, by omega, by omega⟩
section
variable {P : Program} {w : World} {K : PySem.W.Frag} {mg : Str → Option Value} {base : Heap}
theorem ok_taken {f : Addr} {fd : FuncData} (F : Fun K "_law_taken" "_law_taken" sTaken f fd) (M : Gs mg) : FnOk P w K mg base CX0 1 f fd ["_law_row", "_law_many"] (spTaken K) := by
  refine F.ok scTaken (fun vs H Q E h => ?_) (fun cdv A outer s H vs Q E hr h => ?_)
  · obtain ⟨r, a, ns, m, rfl, _⟩ := h
    rfl
  · obtain ⟨r, a, ns, m, rfl, h1, h2, har, hS, ⟨i, x, y, hr0, hi, hx, hx2⟩, k⟩ := h
    refine ⟨_, pss_cons (ps_if (pt_cmpR op_gt (pe_ix ix_list (pv 0) pe_int (fun _ _ => rfl)) pe_int (nomark _))
        (pss_cons (ps_set (i := 2) scTaken.nd rfl (.inl rfl) (pe_op op_mod (pe_callTy call_int1 (by rfl) M.int PyProof.Rows.boot_int (pa_cons (pe_ix ix_list (pv 0) pe_int (fun _ _ => rfl)) pa_nil)) (pv 1)))
        (pss_cons (ps_asg (pe_op op_fdiv (pe_ix ix_list (pv 0) pe_int (fun _ _ => rfl)) (pv 1)) (pg_sub (pv 0) pe_int set_list))
        (pss_one (ps_ret (pv 2))))) pss_nil)
      (pss_cons (ps_asg (pe_op op_add (pe_ix ix_list (pv 0) pe_int (fun _ _ => rfl)) pe_int) (pg_sub (pv 0) pe_int set_list))
      (pss_cons (ps_if (pt_cmpR op_gt (pe_ix ix_list (pv 0) pe_int (fun _ _ => rfl)) (pe_callB call_len_seq (by rfl) M.len PySem.boot_len (pa_cons (pe_ix ix_list (pv 0) pe_int (fun _ _ => rfl)) pa_nil)) (nomark _))
        (pss_cons (ps_asg (pe_op op_mod (pe_callTy call_int1 (by rfl) M.int PyProof.Rows.boot_int (pa_cons (pe_op op_add (pe_op op_mul (pe_ix ix_list (pv 0) pe_int (fun _ _ => rfl)) pe_int) pe_int) pa_nil)) pe_int) (pg_sub (pv 0) pe_int set_list))
        (pss_one (ps_ret (pe_op op_mod (pe_callTy call_int1 (by rfl) M.int PyProof.Rows.boot_int (pa_cons (pe_op op_fdiv (pe_ix ix_list (pv 0) pe_int (fun _ _ => rfl)) pe_int) pa_nil)) (pv 1))))) pss_nil)
      (pss_cons (ps_set (i := 3) scTaken.nd rfl (.inl rfl) (pe_ix ix_list (pe_ix ix_list (pv 0) pe_int (fun _ _ => rfl)) (pe_op op_sub (pe_ix ix_list (pv 0) pe_int (fun _ _ => rfl)) pe_int) (fun _ _ => rfl)))
      (pss_cons (ps_asg (pe_op op_mod (pe_callTy call_int1 (by rfl) M.int PyProof.Rows.boot_int (pa_cons (pe_op op_add (pe_op op_add (pe_op op_mul (pe_ix ix_list (pv 0) pe_int (fun _ _ => rfl)) pe_int) (pv 3)) pe_int) pa_nil)) pe_int) (pg_sub (pv 0) pe_int set_list))
      (pss_cons (ps_if (pt_cmpR op_ge (pv 3) (pe_op op_pow pe_int pe_int) (nomark _)) (pss_one (ps_asg (pe_op op_fdiv (pv 3) (pv 1)) (pg_sub (pv 0) pe_int set_list))) pss_nil)
      (pss_one (ps_ret (pe_op op_mod (pe_callTy call_int1 (by rfl) M.int PyProof.Rows.boot_int (pa_cons (pv 3) pa_nil)) (pv 1))))))))), ?_⟩
    have dv : ∀ v : Int, CDiv v (m : Nat) := fun v => ⟨by omega, by omega⟩
    refine ⟨_, rfl, r, _, _, _, rfl, rfl, SqL.of hr0, rfl, _, _, rfl, rfl, _, rfl, ?_⟩
    refine iteB (fun c => ?_) (fun c => ?_)
    · obtain ⟨z, hz, hzm⟩ := mod_nat y h1
      refine ⟨_, rfl, r, _, _, _, rfl, rfl, SqL.of hr0, rfl, .inl ⟨_, rfl, _, rfl, _, _, rfl, rfl, by omega, ?_⟩⟩
      refine ⟨_, rfl, r, _, _, _, rfl, rfl, SqL.of hr0, rfl, _, rfl, _, _, rfl, rfl, dv _, _, rfl, r, _, _, _, rfl, rfl, hr0, rfl, _, rfl, ?_⟩
      show Q (.int (y % (m : Int))) _
      rw [hz]
      exact k _ z SameBut.put ⟨i, x, y / (m : Int), by rw [upd_same] <;> rfl, hi, hx, hx2⟩ hzm
    · -- row[1] = row[1] + 1
      refine ⟨_, rfl, r, _, _, _, rfl, rfl, SqL.of hr0, rfl, _, _, rfl, rfl, _, rfl, r, _, _, _, rfl, rfl, hr0, rfl, ?_⟩
      have hr1 : (upd H r (.lst [.ref a, .int (i + 1), .int x, .int y])) r = some (.lst [.ref a, .int (i + 1), .int x, .int y]) := upd_same
      have sb1 : SameBut r H (upd H r (.lst [.ref a, .int (i + 1), .int x, .int y])) := SameBut.put
      have hS1 : SqL K (upd H r (.lst [.ref a, .int (i + 1), .int x, .int y])) a (ns.map V.int) := sb1.seq har hS
      refine ⟨_, rfl, r, _, _, _, rfl, rfl, SqL.of hr1, rfl, _, rfl, r, _, _, _, rfl, rfl, SqL.of hr1, rfl, a, _, rfl, .inl hS1, _, _, rfl, rfl, _, rfl, ?_⟩
      refine iteB (fun c2 => ?_) (fun c2 => ?_)
      · refine ⟨_, rfl, r, _, _, _, rfl, rfl, SqL.of hr1, rfl, _, _, rfl, rfl, .inl ⟨by omega, by omega⟩, _, _, rfl, rfl, .inl ⟨_, rfl, _, _, rfl, rfl, by show (0 : Int) < 2147483647; decide, _, rfl, r, _, _, _, rfl, rfl, hr1, rfl, ?_⟩⟩
        refine ⟨_, rfl, r, _, _, _, rfl, rfl, SqL.of upd_same, rfl, _, _, rfl, rfl, ⟨by decide, by decide⟩, .inl ⟨_, rfl, _, rfl, _, _, rfl, rfl, by omega, ?_⟩⟩
        have h1' := Int.emod_nonneg (x * 48271 + 11) (show (2147483647 : Int) ≠ 0 by decide)
        have h2' := Int.emod_lt_of_pos (x * 48271 + 11) (show (0 : Int) < 2147483647 by decide)
        obtain ⟨z, hz, hzm⟩ := mod_nat ((x * 48271 + 11) % 2147483647 / 7) h1
        show Q (.int (((x * 48271 + 11) % 2147483647 / 7) % (m : Int))) _
        rw [hz]
        exact k _ z (sb1.trans SameBut.put) ⟨i + 1, (x * 48271 + 11) % 2147483647, y, by rw [upd_same] <;> rfl, by omega, h1', h2'⟩ hzm
      · have hlen : i.toNat < ns.length := by
          have : ¬ ((ns.map V.int).length : Int) < i + 1 := by simpa using c2
          simp at this
          omega
        have hcell : atI (ns.map V.int) (i + 1 - 1) = some (.int ns[i.toNat]) := by
          have e : i + 1 - 1 = ((i.toNat : Nat) : Int) := by omega
          rw [e]
          exact atI_nat (by rw [List.getElem?_map, List.getElem?_eq_getElem hlen] <;> rfl)
        generalize ns[i.toNat] = c at hcell
        refine ⟨_, rfl, r, _, _, _, rfl, rfl, SqL.of hr1, rfl, _, rfl, r, _, _, _, rfl, rfl, SqL.of hr1, rfl, _, _, rfl, rfl, a, _, _, _, rfl, rfl, hS1, hcell, ?_⟩
        refine ⟨_, rfl, r, _, _, _, rfl, rfl, SqL.of hr1, rfl, _, _, rfl, rfl, .inl ⟨by omega, by omega⟩, _, rfl, _, _, rfl, rfl, _, _, rfl, rfl, .inl ⟨_, rfl, _, _, rfl, rfl, by show (0 : Int) < 2147483647; decide, _, rfl, r, _, _, _, rfl, rfl, hr1, rfl, ?_⟩⟩
        have h1' := Int.emod_nonneg (x * 48271 + c + 11) (show (2147483647 : Int) ≠ 0 by decide)
        have h2' := Int.emod_lt_of_pos (x * 48271 + c + 11) (show (0 : Int) < 2147483647 by decide)
        obtain ⟨z, hz, hzm⟩ := mod_nat c h1
        refine ⟨_, rfl, _, _, rfl, rfl, ⟨by decide, by decide, by decide⟩, _, _, rfl, rfl, _, rfl, ?_⟩
        refine iteB (fun c3 => ?_) (fun c3 => ?_)
        · refine ⟨_, rfl, _, rfl, _, _, rfl, rfl, dv _, _, rfl, r, _, _, _, rfl, rfl, upd_same, rfl, _, rfl, .inl ⟨_, rfl, _, rfl, _, _, rfl, rfl, by omega, ?_⟩⟩
          show Q (.int (c % (m : Int))) _
          rw [hz]
          exact k _ z ((sb1.trans SameBut.put).trans SameBut.put) ⟨i + 1, _, _, by rw [upd_same] <;> rfl, by omega, h1', h2'⟩ hzm
        · refine ⟨_, rfl, .inl ⟨_, rfl, _, rfl, _, _, rfl, rfl, by omega, ?_⟩⟩
          show Q (.int (c % (m : Int))) _
          rw [hz]
          exact k _ z (sb1.trans SameBut.put) ⟨i + 1, _, _, by rw [upd_same] <;> rfl, by omega, h1', h2'⟩ hzm
/-- _law_film: a film is drawn -/
theorem scFilm : FnScope ["_law_row", "_law_most", "_law_many", "_law_found", "_law_turn"] ["_law_row", "_law_most", "_law_many"] (defScope sFilm) := ⟨rfl, rfl, rfl, by decide +kernel, rfl, by decide +kernel, by decide +kernel⟩
def spFilm (K : PySem.W.Frag) : Sp := fun vs H Q _ => ∃ (r a : Addr) (ns : List Int) (mo m : Nat), vs = [.ref r, .int (mo : Nat), .int (m : Nat)] ∧ 1 ≤ mo ∧ mo ≤ 100 ∧ 1 ≤ m ∧ m ≤ 8 ∧ Ap K r a (ns.map V.int) ∧ SqL K H a (ns.map V.int) ∧ RowAt H r a ∧
  ∀ H' (g : List Nat), SameBut r H H' → RowAt H' r a → 1 ≤ g.length → g.length ≤ mo → (∀ c ∈ g, 97 ≤ c ∧ c < 97 + m) → Q (.str (Tx g)) H'
theorem abc_at {z m : Nat} (h : z < m) (hm : m ≤ 8) : atI ("abcdefgh" : Str).cps.toList ((z : Nat) : Int) = some (97 + z) := by
  have : z < 8 := by omega
  have k : ∀ y : Nat, y < 8 → atI ("abcdefgh" : Str).cps.toList ((y : Nat) : Int) = some (97 + y) := by decide +kernel
  exact k z this
theorem ok_film {f ft : Addr} {fd fdt : FuncData} (F : Fun K "_law_film" "_law_film" sFilm f fd) (M : Gs mg)
    (N : Dn P w K mg base 1 "_law_taken" ["_law_row", "_law_many"] (spTaken K) ft fdt) : FnOk P w K mg base CX0 2 f fd ["_law_row", "_law_most", "_law_many"] (spFilm K) := by
  refine F.ok scFilm (fun vs H Q E h => ?_) (fun cdv A outer s H vs Q E hr h => ?_)
  · obtain ⟨r, a, ns, mo, m, rfl, _⟩ := h
    rfl
  · obtain ⟨r, a, ns, mo, m, rfl, hmo1, hmo, hm1, hm, har, hS, hR, k⟩ := h
    have hu := hu_of hr
    refine ⟨_, pss_cons (ps_set (i := 3) scFilm.nd rfl (.inl rfl) pe_str)
      (pss_cons (ps_for PassesOwn.never rfl (pi_range1 rfl M.range (pa_cons (pe_op op_add pe_int (pe_call N.ok hr rfl N.m N.kp N.b .nil pass0 (pa_cons (pv 0) (pa_cons (pv 1) pa_nil)))) pa_nil)) (pg_name (i := 4) scFilm.nd rfl (.inl rfl))
        (pss_one (ps_set (i := 3) scFilm.nd rfl (.inl rfl) (pe_op op_add_str (pv 3) (pe_ix ix_str pe_str (pe_call N.ok hr rfl N.m N.kp N.b .nil pass0 (pa_cons (pv 0) (pa_cons (pv 2) pa_nil))) (fun _ _ => rfl))))))
      (pss_one (ps_ret (pv 3)))), ?_⟩
    refine ⟨_, rfl, _, rfl, r, a, ns, mo, rfl, hmo1, by omega, har, hS, hR, fun H1 z sb1 R1 hz => ⟨_, _, rfl, rfl, ((1 : Int) + (z : Nat)), rfl, by omega, by omega, ?_⟩⟩
    have hn : ((1 : Int) + (z : Nat)).toNat = 1 + z := by omega
    rw [hn]
    refine for_range (lo := 0) (n := 1 + z) (fun i σ H2 => ∃ g v, σ = [some (.ref r), some (.int (mo : Nat)), some (.int (m : Nat)), some (.str (Tx g)), v] ∧ SameBut r H H2 ∧ RowAt H2 r a ∧ g.length = i ∧ ∀ c ∈ g, 97 ≤ c ∧ c < 97 + m)
      ⟨[], none, rfl, sb1, R1, rfl, fun c h => nomatch h⟩ ?_ ?_
    · rintro i σ H2 hi ⟨g, v, rfl, sb2, R2, hg, hl⟩
      refine ⟨_, rfl, _, rfl, _, rfl, r, a, ns, m, rfl, hm1, by omega, har, sb2.seq har hS, R2, fun H3 y sb3 R3 hy => ⟨_, _, _, rfl, rfl, by decide +kernel, abc_at hy hm, ?_⟩⟩
      refine ⟨_, _, rfl, rfl, ?_⟩
      refine ⟨?_, g ++ [97 + y], some (.int (0 + (i : Nat))), ?_, sb2.trans sb3, R3, by simp [hg], fun c hc => ?_⟩
      · show (Tx g).length + (Tx [97 + y]).length ≤ sizeLine
        rw [tx_len, tx_len, sizeLine_eq]
        show g.length + 1 ≤ _
        omega
      · show _ = [some (V.ref r), some (V.int (mo : Nat)), some (V.int (m : Nat)), some (V.str (Tx (g ++ [97 + y]))), some (.int (0 + (i : Nat)))]
        rw [← tx_add]
        rfl
      · rcases List.mem_append.mp hc with hc | hc
        · exact hl c hc
        · rw [List.mem_singleton.mp hc]
          omega
    · rintro σ H2 ⟨g, v, rfl, sb2, R2, hg, hl⟩
      exact ⟨_, rfl, k _ g sb2 R2 (by omega) (by omega) hl⟩
end
end JC

-- part D2
set_option Elab.async false
set_option linter.all false
set_option maxRecDepth 100000
/-! _law_is, _law_alike -/
namespace JC
open PySem PySem.Spec PyProof.Rows L2 JB
theorem scIs : FnScope ["_law_found", "_law_due"] ["_law_found", "_law_due"] (defScope sIs) := ⟨rfl, rfl, rfl, by decide +kernel, rfl, by decide +kernel, by decide +kernel⟩
abbrev nAlike : List Str := ["_law_found", "_law_due", "_law_k"]
theorem scAlike : FnScope nAlike ["_law_found", "_law_due"] (defScope sAlike) := ⟨rfl, rfl, rfl, by decide +kernel, rfl, by decide +kernel, by decide +kernel⟩
def spIs : Sp := fun vs H Q _ => ∃ b : Bool, vs = [.bl b, .bl b] ∧ Q (.bl true) H
/-- two values are alike, n levels deep -/
def Al (K : PySem.W.Frag) (H : Hp) : Nat → V → V → Prop
  | 0, _, _ => False
  | n + 1, x, y => (∃ s, x = .str s ∧ y = .str s) ∨ (∃ i, x = .int i ∧ y = .int i) ∨ (x = .non ∧ y = .non) ∨
      (∃ p q xs ys, x = .ref p ∧ y = .ref q ∧ H p = some (.lst xs) ∧ H q = some (.lst ys) ∧ xs.length = ys.length ∧ ys.length ≤ 100000 ∧ ∀ (i : Nat) u v, xs[i]? = some u → ys[i]? = some v → Al K H n u v)
theorem Al.same {K : PySem.W.Frag} {H H' : Hp} (s : Same H H') : ∀ {n : Nat} {x y : V}, Al K H n x y → Al K H' n x y
  | 0, _, _, h => h.elim
  | n + 1, x, y, h => by
    rcases h with h | h | h | ⟨p, q, xs, ys, e1, e2, h1, h2, e3, e4, h3⟩
    · exact .inl h
    · exact .inr (.inl h)
    · exact .inr (.inr (.inl h))
    · exact .inr (.inr (.inr ⟨p, q, xs, ys, e1, e2, s _ _ h1, s _ _ h2, e3, e4, fun i u v a b => (h3 i u v a b).same s⟩))
def spAl (K : PySem.W.Frag) (n : Nat) : Sp := fun vs H Q _ => ∃ x y, vs = [x, y] ∧ Al K H n x y ∧ ∀ H', Same H H' → Q (.bl true) H'
abbrev tyP {X : Cx} := True
section
variable {P : Program} {w : World} {K : PySem.W.Frag} {mg : Str → Option Value} {base : Heap}
theorem ok_is {f : Addr} {fd : FuncData} (F : Fun K "_law_is" "_law_is" sIs f fd) (M : Gs mg) : FnOk P w K mg base CX0 1 f fd ["_law_found", "_law_due"] spIs := by
  refine F.ok scIs (fun vs H Q E h => ?_) (fun cdv A outer s H vs Q E hr h => ?_)
  · obtain ⟨b, rfl, _⟩ := h
    rfl
  · obtain ⟨b, rfl, k⟩ := h
    refine ⟨_, pss_one (ps_ret (pe_and (pe_callB call_isi (by rfl) M.isinstance boot_isinstance (pa_cons (pv 0) (pa_cons (pe_bltn (v := .ty "bool") (by rfl) M.bool (by decide +kernel) rfl) pa_nil)))
      (pe_one (pe_cmpR op_eq (pv 0) (pv 1) (nomark _))))), ?_⟩
    refine ⟨_, rfl, _, _, _, _, true, rfl, .ty "bool", .base (.bl _), kit_ty (by decide +kernel), _, rfl, iteT ?_⟩
    refine ⟨_, rfl, _, rfl, by cases b <;> rfl, ?_⟩
    rw [decide_eq_true rfl]
    exact k
theorem any_tl {K : PySem.W.Frag} {a : String} (h1 : kitB a "tuple" = some false) (b : Bool) (h2 : kitB a "list" = some b) : PySem.W.kitAny K (.type a) [.type "tuple", .type "list"] = some b :=
  kitAny_cons (kit_ty h1) (fun _ => kitAny_cons (kit_ty h2) (fun e => by rw [e] <;> rfl) (fun e => e)) (fun e => nomatch e)
theorem no_alike {f : Addr} {fd : FuncData} (F : Fun K "_law_alike" "_law_alike" sAlike f fd) : FnOk P w K mg base CX0 1 f fd ["_law_found", "_law_due"] (spAl K 0) := by
  refine F.ok scAlike (fun vs H Q E h => ?_) (fun cdv A outer s H vs Q E hr h => ?_)
  · obtain ⟨_, _, _, h, _⟩ := h
    exact h.elim
  · obtain ⟨_, _, _, h, _⟩ := h
    exact h.elim
theorem ok_alike {f : Addr} {fd : FuncData} {n : Nat} (F : Fun K "_law_alike" "_law_alike" sAlike f fd) (M : Gs mg) (N : Dn P w K mg base (n + 1) "_law_alike" ["_law_found", "_law_due"] (spAl K n) f fd) :
    FnOk P w K mg base CX0 (n + 2) f fd ["_law_found", "_law_due"] (spAl K (n + 1)) := by
  refine F.ok scAlike (fun vs H Q E h => ?_) (fun cdv A outer s H vs Q E hr h => ?_)
  · obtain ⟨x, y, rfl, _⟩ := h
    rfl
  · obtain ⟨x, y, rfl, ha, k⟩ := h
    have hu := hu_of hr
    refine ⟨_, pss_cons (ps_if (pt_val (pe_callB call_isiT (by rfl) M.isinstance boot_isinstance (pa_cons (pv 1) (pa_cons (pe_tup (pa_cons (pe_bltn (v := .ty "tuple") (by rfl) M.tuple (by decide +kernel) rfl) (pa_cons (pe_bltn (v := .ty "list") (by rfl) M.list (by decide +kernel) rfl) pa_nil))) pa_nil))))
        (pss_cons (ps_if (PW.pt (pw_or (pt_not (pt_val (pe_callB call_isiT (by rfl) M.isinstance boot_isinstance (pa_cons (pv 0) (pa_cons (pe_tup (pa_cons (pe_bltn (v := .ty "tuple") (by rfl) M.tuple (by decide +kernel) rfl) (pa_cons (pe_bltn (v := .ty "list") (by rfl) M.list (by decide +kernel) rfl) pa_nil))) pa_nil)))))
            (pw_or1 (pt_cmpR op_ne (pe_callB call_isi (by rfl) M.isinstance boot_isinstance (pa_cons (pv 0) (pa_cons (pe_bltn (v := .ty "list") (by rfl) M.list (by decide +kernel) rfl) pa_nil)))
              (pe_callB call_isi (by rfl) M.isinstance boot_isinstance (pa_cons (pv 1) (pa_cons (pe_bltn (v := .ty "list") (by rfl) M.list (by decide +kernel) rfl) pa_nil))) (nomark _)))))
          (pss_one ps_never) pss_nil)
        (pss_cons (ps_if (pt_cmpR op_ne (pe_callB call_len_seq (by rfl) M.len PySem.boot_len (pa_cons (pv 0) pa_nil)) (pe_callB call_len_seq (by rfl) M.len PySem.boot_len (pa_cons (pv 1) pa_nil)) (nomark _)) (pss_one ps_never) pss_nil)
        (pss_one (ps_ret (pe_cmpR (op_eqD hr.units) (pe_lc (own := [("_law_k", 2)]) (g := gName 2) rfl scAlike.nd (pi_range1 rfl M.range (pa_cons (pe_callB call_len_seq (by rfl) M.len PySem.boot_len (pa_cons (pv 1) pa_nil)) pa_nil)) (blkOk_by (own := [("_law_k", 2)]) (N := nAlike) (sc := defScope sAlike) (by decide +kernel))
            (fun _ _ _ _ _ => pg_name (i := 2) scAlike.nd rfl (Or.inl rfl)) (fun _ _ _ _ _ => pts_one (pt_not (pt_val (pe_call N.ok hr rfl N.m N.kp N.b .nil pass0 (pa_cons (pe_ix (r := rIx K) ix_seq (pv 0) (pv 2) (fun _ _ => rfl)) (pa_cons (pe_ix (r := rIx K) ix_seq (pv 1) (pv 2) (fun _ _ => rfl)) pa_nil)))))) (fun _ _ _ _ _ => pv 2)) (pe_lst pa_nil) (nomark _)))))) pss_nil)
      (pss_cons (ps_if (PW.pt (pw_or (pt_cmp (pc_isN (pv 1))) (pw_or1 (pt_val (pe_callB call_isi (by rfl) M.isinstance boot_isinstance (pa_cons (pv 1) (pa_cons (pe_bltn (v := .ty "str") (by rfl) M.str (by decide +kernel) rfl) pa_nil)))))))
        (pss_one (ps_ret (pe_and (pe_cmpR op_eq (pv 0) (pv 1) (nomark _)) (pe_one (pe_cmpR op_eq (pe_callB call_isi (by rfl) M.isinstance boot_isinstance (pa_cons (pv 0) (pa_cons (pe_bltn (v := .ty "str") (by rfl) M.str (by decide +kernel) rfl) pa_nil))) (pe_callB call_isi (by rfl) M.isinstance boot_isinstance (pa_cons (pv 1) (pa_cons (pe_bltn (v := .ty "str") (by rfl) M.str (by decide +kernel) rfl) pa_nil))) (nomark _)))))) pss_nil)
      (pss_one (ps_ret (pe_and (pe_callB call_isi (by rfl) M.isinstance boot_isinstance (pa_cons (pv 0) (pa_cons (pe_bltn (v := .ty "int") (by rfl) M.int (by decide +kernel) rfl) pa_nil))) (pe_and (pe_cmpR op_eq (pe_callB call_isi (by rfl) M.isinstance boot_isinstance (pa_cons (pv 0) (pa_cons (pe_bltn (v := .ty "bool") (by rfl) M.bool (by decide +kernel) rfl) pa_nil))) (pe_callB call_isi (by rfl) M.isinstance boot_isinstance (pa_cons (pv 1) (pa_cons (pe_bltn (v := .ty "bool") (by rfl) M.bool (by decide +kernel) rfl) pa_nil))) (nomark _))
         (pe_one (pe_cmpR op_eq (pv 0) (pv 1) (nomark _)))))))), ?_⟩
    rcases ha with ⟨z, rfl, rfl⟩ | ⟨z, rfl, rfl⟩ | ⟨rfl, rfl⟩ | ⟨p, q, xs, ys, rfl, rfl, hp, hq, hl, hy, hn⟩
    · refine ⟨_, rfl, by show 2 ≤ sizeLine; decide, fun T nT => ⟨_, T, _, _, _, false, rfl, upd_same, .cons (.ty "tuple") (.cons (.ty "list") .nil), .base (.str _), any_tl (by decide +kernel) _ (by decide +kernel), _, rfl, iteF ?_⟩⟩
      refine ⟨_, rfl, _, rfl, ?_⟩
      rw [decide_eq_false (fun e => nomatch e)]
      refine iteF ⟨_, rfl, _, _, _, _, true, rfl, .ty "str", .base (.str _), kit_ty (by decide +kernel), _, rfl, iteT ?_⟩
      refine ⟨_, rfl, _, rfl, rfl, _, rfl, ?_⟩
      rw [decide_eq_true rfl]
      refine iteT ⟨_, rfl, _, _, _, _, true, rfl, .ty "str", .base (.str _), kit_ty (by decide +kernel), _, rfl, _, _, _, _, true, rfl, .ty "str", .base (.str _), kit_ty (by decide +kernel), rfl, ?_⟩
      rw [decide_eq_true rfl]
      exact k _ (new_same nT _)
    · refine ⟨_, rfl, by show 2 ≤ sizeLine; decide, fun T nT => ⟨_, T, _, _, _, false, rfl, upd_same, .cons (.ty "tuple") (.cons (.ty "list") .nil), .base (.int _), any_tl (by decide +kernel) _ (by decide +kernel), _, rfl, iteF ?_⟩⟩
      refine ⟨_, rfl, _, rfl, ?_⟩
      rw [decide_eq_false (fun e => nomatch e)]
      refine iteF ⟨_, rfl, _, _, _, _, false, rfl, .ty "str", .base (.int _), kit_ty (by decide +kernel), _, rfl, iteF ?_⟩
      refine ⟨_, rfl, _, _, _, _, true, rfl, .ty "int", .base (.int _), kit_ty (by decide +kernel), _, rfl, iteT ?_⟩
      refine ⟨_, rfl, _, _, _, _, false, rfl, .ty "bool", .base (.int _), kit_ty (by decide +kernel), _, rfl, _, _, _, _, false, rfl, .ty "bool", .base (.int _), kit_ty (by decide +kernel), rfl, ?_⟩
      rw [decide_eq_true rfl]
      refine ⟨_, rfl, iteT ⟨_, rfl, _, rfl, rfl, ?_⟩⟩
      rw [decide_eq_true rfl]
      exact k _ (new_same nT _)
    · refine ⟨_, rfl, by show 2 ≤ sizeLine; decide, fun T nT => ⟨_, T, _, _, _, false, rfl, upd_same, .cons (.ty "tuple") (.cons (.ty "list") .nil), .base .non, any_tl (by decide +kernel) _ (by decide +kernel), _, rfl, iteF ?_⟩⟩
      refine ⟨_, rfl, _, rfl, ?_⟩
      rw [decide_eq_true rfl]
      refine iteT (iteT ?_)
      refine ⟨_, rfl, _, rfl, rfl, _, rfl, ?_⟩
      rw [decide_eq_true rfl]
      refine iteT ⟨_, rfl, _, _, _, _, false, rfl, .ty "str", .base .non, kit_ty (by decide +kernel), _, rfl, _, _, _, _, false, rfl, .ty "str", .base .non, kit_ty (by decide +kernel), rfl, ?_⟩
      rw [decide_eq_true rfl]
      exact k _ (new_same nT _)
    · refine ⟨_, rfl, by show 2 ≤ sizeLine; decide, fun T nT => ⟨_, T, _, _, _, true, rfl, upd_same, .cons (.ty "tuple") (.cons (.ty "list") .nil), .base (.lst (new_same nT _ _ _ hq)), any_tl (by decide +kernel) _ (by decide +kernel), _, rfl, iteT ?_⟩⟩
      have s1 : Same H (upd H T (.tup [.ty "tuple", .ty "list"])) := new_same nT _
      generalize (upd H T (.tup [.ty "tuple", .ty "list"])) = H1 at s1 ⊢
      refine ⟨_, rfl, by show 2 ≤ sizeLine; decide, fun T2 nT2 => ⟨_, T2, _, _, _, true, rfl, upd_same, .cons (.ty "tuple") (.cons (.ty "list") .nil), .base (.lst (new_same nT2 _ _ _ (s1 _ _ hp))), any_tl (by decide +kernel) _ (by decide +kernel), _, rfl, iteF ?_⟩⟩
      have s2 : Same H (upd H1 T2 (.tup [.ty "tuple", .ty "list"])) := s1.trans (new_same nT2 _)
      generalize (upd H1 T2 (.tup [.ty "tuple", .ty "list"])) = H2 at s2 ⊢
      clear s1 nT2 nT
      have hp2 := s2 _ _ hp
      have hq2 := s2 _ _ hq
      refine ⟨_, rfl, _, _, _, _, true, rfl, .ty "list", .base (.lst hp2), kit_ty (by decide +kernel), _, rfl, _, _, _, _, true, rfl, .ty "list", .base (.lst hq2), kit_ty (by decide +kernel), rfl, _, rfl, iteF ?_⟩
      refine ⟨_, rfl, p, _, rfl, .inl (SqL.of hp2), _, rfl, q, _, rfl, .inl (SqL.of hq2), rfl, _, rfl, ?_⟩
      rw [decide_eq_true (show V.int ((xs.length : Nat) : Int) = V.int ((ys.length : Nat) : Int) by rw [hl])]
      refine iteF ?_
      refine ⟨_, rfl, q, _, rfl, .inl (SqL.of hq2), ((ys.length : Nat) : Int), rfl, by omega, by omega, fun D nD => lc_range (lo := 0) (n := ((ys.length : Nat) : Int).toNat) (fun i H => Same H2 H ∧ H D = some (.lst [])) ⟨new_same nD _, upd_same⟩ ?_ ?_⟩
      · rintro i H3 hi ⟨s3, hD⟩
        have hi2 : i < ys.length := by omega
        have hi3 : i < xs.length := by omega
        have e0 : (0 : Int) + (i : Nat) = ((i : Nat) : Int) := by omega
        rw [e0]
        obtain ⟨u, hu⟩ : ∃ u, xs[i]? = some u := ⟨_, List.getElem?_eq_getElem hi3⟩
        obtain ⟨v, hv⟩ : ∃ v, ys[i]? = some v := ⟨_, List.getElem?_eq_getElem hi2⟩
        refine ⟨rfl, _, rfl, _, rfl, .inl ⟨p, _, _, _, rfl, rfl, SqL.of (s3 _ _ hp2), atI_nat hu, ?_⟩⟩
        refine ⟨_, rfl, _, rfl, .inl ⟨q, _, _, _, rfl, rfl, SqL.of (s3 _ _ hq2), atI_nat hv, ?_⟩⟩
        refine ⟨u, v, rfl, (hn i u v hu hv).same (s2.trans s3), fun H4 s4 => ⟨_, rfl, iteF ⟨s3.trans s4, s4 _ _ hD⟩⟩⟩
      · rintro H3 ⟨s3, hD⟩
        refine ⟨Nat.zero_le _, fun D2 nD2 => ⟨.list [], .list [], .lst (SqL.of (new_same nD2 _ _ _ hD)) .nil, .lst (SqL.of upd_same) .nil, shaped_nil, shaped_nil, ?_⟩⟩
        rw [eqv_nil]
        exact k _ (s2.trans (s3.trans (new_same nD2 _)))
end
end JC

-- part D3
set_option Elab.async false
set_option linter.all false
set_option maxRecDepth 100000
/-! _law_next -/
namespace JC
open PySem PySem.Spec PyProof.Rows L2 JB
/-! ### dicts whose keys are texts, each True -/
def encT (ls : List (List Nat)) : List (Key × V) := ls.map fun l => (Sum.inr (Tx l), V.bl true)
theorem key_T (a b : List Nat) : ((Sum.inr (Tx a) : Key) = Sum.inr (Tx b)) ↔ a = b := by
  constructor
  · intro e
    injection e with e
    exact tx_inj e
  · rintro rfl
    rfl
theorem encT_val (x : List Nat) : ∀ d : List (List Nat), valV (encT d) (Sum.inr (Tx x) : Key) = if x ∈ d then some (V.bl true) else none
  | [] => rfl
  | p :: d => by
    have ih := encT_val x d
    by_cases e : p = x
    · have h1 : valV (encT (p :: d)) (Sum.inr (Tx x) : Key) = some (V.bl true) := valV_pos (p := ((Sum.inr (Tx p) : Key), V.bl true)) ((key_T _ _).mpr e)
      rw [h1, if_pos (by rw [e]; exact List.mem_cons_self)]
    · have h1 : valV (encT (p :: d)) (Sum.inr (Tx x) : Key) = valV (encT d) (Sum.inr (Tx x) : Key) := valV_neg (p := ((Sum.inr (Tx p) : Key), V.bl true)) (fun z => e ((key_T _ _).mp z))
      rw [h1, ih]
      by_cases m : x ∈ d
      · rw [if_pos m, if_pos (List.mem_cons_of_mem _ m)]
      · rw [if_neg m, if_neg]
        intro z
        rcases List.mem_cons.mp z with z | z
        · exact e z.symm
        · exact m z
theorem encT_put (d : List (List Nat)) (x : List Nat) : putK (encT d) (Sum.inr (Tx x) : Key) (V.bl true) = encT (if x ∈ d then d else d ++ [x]) := by
  by_cases m : x ∈ d
  · rw [if_pos m]
    unfold putK
    rw [valV_any, encT_val, if_pos m]
    rw [if_pos (show (some (V.bl true)).isSome = true from rfl)]
    unfold encT
    rw [List.map_map]
    refine List.map_congr_left fun a _ => ?_
    show (if (Sum.inr (Tx a) : Key) = Sum.inr (Tx x) then ((Sum.inr (Tx a) : Key), V.bl true) else (Sum.inr (Tx a), V.bl true)) = _
    split <;> rfl
  · rw [if_neg m, putK_new _ (by rw [encT_val, if_neg m])]
    unfold encT
    rw [List.map_append] <;> rfl
theorem encT_len (d : List (List Nat)) : (encT d).length = d.length := List.length_map _
theorem encT_keys (d : List (List Nat)) : ((encT d).map fun kv => kV kv.1) = d.map VS := by
  unfold encT
  rw [List.map_map] <;> rfl
theorem cut_lo {f : List Nat} {j : Nat} (h : j ≤ f.length) : cutS (Tx f) none (some ((j : Nat) : Int)) = Tx (f.take j) := by
  have e : HT.sIx (Tx f).length (Tx f).length (some ((j : Nat) : Int)) = min j f.length := by
    rw [HT.sIx_nat] <;> rfl
  unfold cutS
  rw [e, HT.sIx_none, Nat.min_eq_left h]
  rfl
theorem cut_hi {f : List Nat} {j : Nat} (h : j ≤ f.length) : cutS (Tx f) (some ((j : Nat) : Int)) none = Tx (f.drop j) := by
  have e : HT.sIx (Tx f).length 0 (some ((j : Nat) : Int)) = min j f.length := by
    rw [HT.sIx_nat] <;> rfl
  unfold cutS
  rw [e, HT.sIx_none, Nat.min_eq_left h]
  show (⟨((f.drop j).take (f.length - j)).toArray⟩ : Str) = _
  rw [List.take_of_length_le (by rw [List.length_drop] <;> omega)]
theorem scNext : FnScope ["_law_film_here", "_law_found", "_law_first", "_law_second"] ["_law_film_here"] (defScope sNext) := ⟨rfl, rfl, rfl, by decide +kernel, rfl, by decide +kernel, by decide +kernel⟩
def spNext : Sp := fun vs H Q _ => ∃ f : List Nat, vs = [.str (Tx f)] ∧ f.length ≤ 20 ∧ ∀ H' p (ys : List (List Nat)), Same H H' → H p = none → H' p = some (.lst (ys.map VS)) → ys.length ≤ 400 → (∀ g, g ∈ ys ↔ Cut1 f g) → Q (.ref p) H'
/-- the cuts found so far -/
def cutAt (f : List Nat) (i j : Nat) : List Nat := f.take (i + 1) ++ f.drop (j + 1)
section
variable {P : Program} {w : World} {K : PySem.W.Frag} {mg : Str → Option Value} {base : Heap}
theorem ok_next {f : Addr} {fd : FuncData} (F : Fun K "_law_next" "_law_next" sNext f fd) (M : Gs mg) : FnOk P w K mg base CX0 1 f fd ["_law_film_here"] spNext := by
  refine F.ok scNext (fun vs H Q E h => ?_) (fun cdv A outer s H vs Q E hr h => ?_)
  · obtain ⟨f, rfl, _⟩ := h
    rfl
  · obtain ⟨f, rfl, hf, k⟩ := h
    have hu := hu_of hr
    refine ⟨_, pss_cons (ps_set (i := 1) scNext.nd rfl (.inl rfl) pe_dnewK)
      (pss_cons (ps_for PassesOwn.never rfl (pi_range1 rfl M.range (pa_cons (pe_callB call_len_str (by rfl) M.len PySem.boot_len (pa_cons (pv 0) pa_nil)) pa_nil)) (pg_name (i := 2) scNext.nd rfl (.inl rfl))
        (pss_one (ps_for PassesOwn.never rfl (pi_range2 rfl M.range (pa_cons (pe_op op_add (pv 2) pe_int) (pa_cons (pe_callB call_len_str (by rfl) M.len PySem.boot_len (pa_cons (pv 0) pa_nil)) pa_nil))) (pg_name (i := 3) scNext.nd rfl (.inl rfl))
          (pss_one (ps_if (pt_cmpR op_eq (pe_ix ix_str (pv 0) (pv 2) (fun _ _ => rfl)) (pe_ix ix_str (pv 0) (pv 3) (fun _ _ => rfl)) (nomark _))
            (pss_one (ps_dput hu (pv 1) (pe_op op_add_str (pe_slice sl_str (pv 0) po_none (po_some (pe_op op_add (pv 2) pe_int))) (pe_slice sl_str (pv 0) (po_some (pe_op op_add (pv 3) pe_int)) po_none)) pe_bl rfl)) pss_nil)))))
      (pss_one (ps_ret (pe_callB (cr_sortTx hr.units) (by rfl) M.sorted boot_sorted (pa_cons (pe_callTy (call_listD rfl) (by rfl) M.list boot_list (pa_cons (pv 1) pa_nil)) pa_nil))))), ?_⟩
    intro d nd
    have s1 : Same H (upd H d (.dK [])) := new_same nd _
    refine ⟨_, rfl, _, rfl, tx_small (by omega), (f.length : Int), by rw [tx_len] <;> rfl, by omega, by omega, ?_⟩
    rw [Int.toNat_natCast]
    refine for_range (lo := 0) (n := f.length) (fun i σ H2 => ∃ ls v2 v3, σ = [some (.str (Tx f)), some (.ref d), v2, v3] ∧ Same H H2 ∧ H2 d = some (.dK (encT ls)) ∧ ls.length ≤ i * 20 ∧
      ∀ g, g ∈ ls ↔ ∃ a b, a < i ∧ a < b ∧ b < f.length ∧ at0 f a = at0 f b ∧ g = cutAt f a b) ⟨[], none, none, rfl, s1, upd_same, Nat.zero_le _, fun g => Iff.intro (fun m => nomatch m) (fun ⟨a, _, h, _⟩ => absurd h (Nat.not_lt_zero a))⟩ ?_ ?_
    · rintro i σ H2 hi ⟨ls, v2, v3, rfl, s2, hd, hl, hm⟩
      have e0 : (0 : Int) + (i : Nat) = ((i : Nat) : Int) := by omega
      rw [e0]
      refine ⟨_, rfl, _, _, rfl, rfl, _, rfl, _, rfl, tx_small (by omega), ((i + 1 : Nat) : Int), (f.length : Int), by rw [tx_len] <;> rfl, by omega, ?_⟩
      have hn : ((f.length : Int) - ((i + 1 : Nat) : Int)).toNat = f.length - (i + 1) := by omega
      rw [hn]
      refine for_range (lo := ((i + 1 : Nat) : Int)) (n := f.length - (i + 1)) (fun j σ H2 => ∃ ls v3, σ = [some (.str (Tx f)), some (.ref d), some (.int (i : Nat)), v3] ∧ Same H H2 ∧ H2 d = some (.dK (encT ls)) ∧ ls.length ≤ i * 20 + j ∧
        ∀ g, g ∈ ls ↔ ((∃ a b, a < i ∧ a < b ∧ b < f.length ∧ at0 f a = at0 f b ∧ g = cutAt f a b) ∨ ∃ b, i < b ∧ b < i + 1 + j ∧ at0 f i = at0 f b ∧ g = cutAt f i b))
        ⟨ls, v3, rfl, s2, hd, by omega, fun g => Iff.intro (fun m => .inl ((hm g).mp m)) (fun m => m.elim (hm g).mpr fun ⟨b, h1, h2, _⟩ => by omega)⟩ ?_ ?_
      · clear hm hl hd s2 ls
        rintro j σ H3 hj ⟨ls, v3, rfl, s2, hd, hl, hm⟩
        have e1 : ((i + 1 : Nat) : Int) + (j : Nat) = ((i + 1 + j : Nat) : Int) := by omega
        rw [e1]
        refine ⟨_, rfl, _, rfl, _, _, _, rfl, rfl, tx_small (by omega), tx_at (by omega), _, rfl, _, rfl, _, _, _, rfl, rfl, tx_small (by omega), tx_at (by omega), rfl, _, rfl, ?_⟩
        rw [one_eq]
        refine iteB (fun c => ?_) (fun c => ?_)
        · have ce : at0 f i = at0 f (i + 1 + j) := of_decide_eq_true c
          have sl1 : cutS (Tx f) none (some ((i + 1 : Nat) : Int)) = Tx (f.take (i + 1)) := cut_lo (by omega)
          have sl2 : cutS (Tx f) (some ((i + 1 + j + 1 : Nat) : Int)) none = Tx (f.drop (i + 1 + j + 1)) := cut_hi (by omega)
          refine ⟨_, rfl, _, rfl, _, rfl, _, _, rfl, rfl, _, rfl, _, rfl, tx_small (by omega), _, rfl, _, rfl, _, _, rfl, rfl, _, rfl, _, rfl, tx_small (by omega), _, _, rfl, rfl, ?_⟩
          have e3 : ((i : Nat) : Int) + 1 = ((i + 1 : Nat) : Int) := by omega
          have e4 : ((i + 1 + j : Nat) : Int) + 1 = ((i + 1 + j + 1 : Nat) : Int) := by omega
          rw [e3, e4, sl1, sl2, tx_add, tx_len, tx_len]
          have ll : (if cutAt f i (i + 1 + j) ∈ ls then ls else ls ++ [cutAt f i (i + 1 + j)]).length ≤ ls.length + 1 := by
            split
            · omega
            · rw [List.length_append, List.length_singleton] <;> omega
          refine ⟨by rw [List.length_take, List.length_drop, sizeLine_eq]; omega, d, _, rfl, DPut.k (k := (Sum.inr (Tx (cutAt f i (i + 1 + j))) : Key)) hd (by rw [encT_len, sizeLine_eq]; omega), ?_⟩
          rw [encT_put]
          refine ⟨_, _, rfl, same_put s2 nd, upd_same, by omega, fun g => ?_⟩
          have mm : g ∈ (if cutAt f i (i + 1 + j) ∈ ls then ls else ls ++ [cutAt f i (i + 1 + j)]) ↔ g ∈ ls ∨ g = cutAt f i (i + 1 + j) := by
            split
            · rename_i h
              exact ⟨.inl, fun z => z.elim id fun e => by rw [e]; exact h⟩
            · rw [List.mem_append, List.mem_singleton]
          rw [mm, hm g]
          constructor
          · rintro ((h | ⟨b, h1, h2, h3⟩) | h)
            · exact .inl h
            · exact .inr ⟨b, h1, by omega, h3⟩
            · exact .inr ⟨i + 1 + j, by omega, by omega, ce, h⟩
          · rintro (h | ⟨b, h1, h2, h3⟩)
            · exact .inl (.inl h)
            · by_cases e : b = i + 1 + j
              · rw [e] at h3
                exact .inr h3.2
              · exact .inl (.inr ⟨b, h1, by omega, h3⟩)
        · have ce : at0 f i ≠ at0 f (i + 1 + j) := of_decide_eq_false c
          refine ⟨ls, _, rfl, s2, hd, by omega, fun g => ?_⟩
          rw [hm g]
          constructor
          · rintro (h | ⟨b, h1, h2, h3⟩)
            · exact .inl h
            · exact .inr ⟨b, h1, by omega, h3⟩
          · rintro (h | ⟨b, h1, h2, h3⟩)
            · exact .inl h
            · by_cases e : b = i + 1 + j
              · rw [e] at h3
                exact absurd h3.1 ce
              · exact .inr ⟨b, h1, by omega, h3⟩
      · clear hm hl hd s2 ls
        rintro σ H3 ⟨ls, v3, rfl, s2, hd, hl, hm⟩
        refine ⟨ls, _, _, rfl, s2, hd, by omega, fun g => ?_⟩
        rw [hm g]
        constructor
        · rintro (⟨a, b, h1, h2⟩ | ⟨b, h1, h2, h3⟩)
          · exact ⟨a, b, by omega, h2⟩
          · exact ⟨i, b, by omega, h1, by omega, h3⟩
        · rintro ⟨a, b, h1, h2, h3, h4⟩
          by_cases e : a = i
          · subst e
            exact .inr ⟨b, h2, by omega, h4⟩
          · exact .inl ⟨a, b, by omega, h2, h3, h4⟩
    · rintro σ H2 ⟨ls, v2, v3, rfl, s2, hd, hl, hm⟩
      refine ⟨_, rfl, d, _, rfl, .inl hd, fun p np => ?_⟩
      rw [encT_keys]
      have s3 : Same H2 (upd H2 p (.lst (ls.map VS))) := new_same np _
      refine ⟨p, ls, rfl, SqL.of upd_same, fun q nq => ?_⟩
      have s4 := new_same nq (.lst ((srt ls).map VS))
      refine k _ q (srt ls) (s2.trans (s3.trans s4)) ((s2.trans s3).free nq) upd_same ?_ fun g => ?_
      · have := (srt_perm ls).length_eq
        have : f.length * 20 ≤ 400 := by omega
        omega
      · rw [(srt_perm ls).mem_iff, hm g, cut_iff]
        constructor
        · rintro ⟨a, b, h1, h2, h3, h4, h5⟩
          exact ⟨a, b, h2, h3, h4, h5⟩
        · rintro ⟨a, b, h2, h3, h4, h5⟩
          exact ⟨a, b, by omega, h2, h3, h4, h5⟩
end
end JC

-- part D4
set_option Elab.async false
set_option linter.all false
set_option maxRecDepth 100000
/-! _law_all -/
namespace JC
open PySem PySem.Spec PyProof.Rows L2 JB
theorem scAll : FnScope ["_law_film_here", "_law_found", "_law_edge", "_law_now", "_law_told"] ["_law_film_here"] (defScope sAll) := ⟨rfl, rfl, rfl, by decide +kernel, rfl, by decide +kernel, by decide +kernel⟩
def spAll : Sp := fun vs H Q _ => ∃ f : List Nat, vs = [.str (Tx f)] ∧ f.length ≤ 12 ∧ Sm f ∧ ∀ H' p (ys : List (List Nat)), Same H H' → H p = none → H' p = some (.lst ((srt ys).map VS)) → ys.Nodup → (∀ g, g ∈ ys ↔ Reach f g) → Q (.ref p) H'
/-- the pile and the films found -/
structure AInv (f : List Nat) (ls es : List (List Nat)) (open' : List Nat → Prop) : Prop where
  nd : ls.Nodup
  rc : ∀ g ∈ ls, Reach f g
  me : f ∈ ls
  sub : ∀ g ∈ es, g ∈ ls
  cl : ∀ g ∈ ls, g ∈ es ∨ open' g ∨ ∀ h, Cut1 g h → h ∈ ls
theorem AInv.few {f : List Nat} {ls es : List (List Nat)} {o : List Nat → Prop} (I : AInv f ls es o) (h : f.length ≤ 12) : ls.length ≤ 4096 := by
  have h1 := reach_few I.nd I.rc
  have h2 : 2 ^ f.length ≤ 2 ^ 12 := Nat.pow_le_pow_right (by decide) h
  have h3 : 2 ^ 12 = 4096 := rfl
  omega
theorem AInv.done {f : List Nat} {ls : List (List Nat)} (I : AInv f ls [] (fun _ => False)) (g : List Nat) : g ∈ ls ↔ Reach f g := by
  refine ⟨I.rc g, fun h => ?_⟩
  induction h with
  | refl => exact I.me
  | step r c ih =>
    rcases I.cl _ ih with h | h | h
    · cases h
    · exact h.elim
    · exact h _ c
theorem sub_sm {f g : List Nat} (h : Reach f g) (s : Sm f) : Sm g := fun c m => s c ((reach_sub h).subset m)
theorem AInv.add {f x w : List Nat} {ls es : List (List Nat)} (I : AInv f ls es (fun g => g = x)) (hx : x ∈ ls) (c : Cut1 x w) (n : w ∉ ls) : AInv f (ls ++ [w]) (es ++ [w]) (fun g => g = x) where
  nd := List.nodup_append.mpr ⟨I.nd, List.nodup_cons.mpr ⟨fun h => (by cases h), List.nodup_nil⟩, fun a ha b hb e => n (by rw [← List.mem_singleton.mp hb, ← e]; exact ha)⟩
  rc := fun g m => by
    rcases List.mem_append.mp m with m | m
    · exact I.rc g m
    · rw [List.mem_singleton.mp m]
      exact .step (I.rc x hx) c
  me := List.mem_append_left _ I.me
  sub := fun g m => by
    rcases List.mem_append.mp m with m | m
    · exact List.mem_append_left _ (I.sub g m)
    · exact List.mem_append_right _ m
  cl := fun g m => by
    rcases List.mem_append.mp m with m | m
    · rcases I.cl g m with h | h | h
      · exact .inl (List.mem_append_left _ h)
      · exact .inr (.inl h)
      · exact .inr (.inr fun u q => List.mem_append_left _ (h u q))
    · exact .inl (List.mem_append_right _ m)
section
variable {P : Program} {w : World} {K : PySem.W.Frag} {mg : Str → Option Value} {base : Heap}
/-- what holds at the head of the while -/
def AWhile (f : List Nat) (d e : Addr) (H0 : Hp) (m : Nat) (σ : L2.St) (H : Hp) : Prop := ∃ (ls es : List (List Nat)) (v3 v4 : Option V), σ = [some (V.str (Tx f)), some (V.ref d), some (V.ref e), v3, v4] ∧ Same H0 H ∧ H d = some (.dK (encT ls)) ∧ H e = some (.lst (es.map VS)) ∧ AInv f ls es (fun _ => False) ∧
  m = 2 * (4096 - ls.length) + es.length ∧ m ≤ 8192
theorem ok_all {f fx : Addr} {fd fdx : FuncData} (F : Fun K "_law_all" "_law_all" sAll f fd) (M : Gs mg) (N : Dn P w K mg base 1 "_law_next" ["_law_film_here"] spNext fx fdx) : FnOk P w K mg base CX0 2 f fd ["_law_film_here"] spAll := by
  refine F.ok scAll (fun vs H Q E h => ?_) (fun cdv A outer s H vs Q E hr h => ?_)
  · obtain ⟨f, rfl, _⟩ := h
    rfl
  · obtain ⟨f, rfl, hf, hS, k⟩ := h
    have hu := hu_of hr
    refine ⟨_, pss_cons (ps_par (i := 1) (j := 2) rfl scAll.nd rfl rfl (by decide) rfl rfl (pa_cons (pe_disp (pps_cons (pv 0) pe_bl pps_nil) rfl rfl (by decide) (by decide)) (pa_cons (pe_lst (pa_cons (pv 0) pa_nil)) pa_nil)) (by rfl))
      (pss_cons (ps_while PassesOwn.never (pt_cmpR (op_neD hr.units) (pv 2) (pe_lst pa_nil) (nomark _))
        (pss_cons (ps_set (i := 3) scAll.nd rfl (.inl rfl) (pe_bm0 PySem.F.plainAttrs_list PySem.F.slot_list_pop PySem.F.type_list_pop mt_pop (pv 2)))
        (pss_one (ps_for PassesOwn.never rfl (pi_list (pe_call N.ok hr rfl N.m N.kp N.b .nil pass0 (pa_cons (pv 3) pa_nil))) (pg_name (i := 4) scAll.nd rfl (.inl rfl))
          (pss_one (ps_if (pt_cmp (pc_dnotin hu (pv 4) (pv 1)))
            (pss_cons (ps_dput hu (pv 1) (pv 4) pe_bl rfl)
            (pss_one (ps_expr (pe_bm PySem.F.plainAttrs_list PySem.F.slot_list_append PySem.F.type_list_append mt_append (pv 2) (pa_cons (pv 4) pa_nil))))) pss_nil))))))
      (pss_one (ps_ret (pe_callB (cr_sortTx hr.units) (by rfl) M.sorted boot_sorted (pa_cons (pe_callTy (call_listD rfl) (by rfl) M.list PyProof.Rows.boot_list (pa_cons (pv 1) pa_nil)) pa_nil))))), ?_⟩
    intro d nd
    refine ⟨_, rfl, upd_same, [(Sum.inr (Tx f), V.bl true)], rfl, (show 1 ≤ 15 by decide), ?_⟩
    have s1 : Same H (upd (upd H d (.dK [])) d (.dK (encT [f]))) := same_put (new_same nd _) nd
    have em : mergeK [] [((Sum.inr (Tx f) : Key), V.bl true)] = encT [f] := encT_put [] f
    rw [em]
    have hd1 : (upd (upd H d (.dK [])) d (.dK (encT [f]))) d = some (.dK (encT [f])) := upd_same
    generalize (upd (upd H d (.dK [])) d (.dK (encT [f]))) = H1 at s1 hd1 ⊢
    refine ⟨_, rfl, by show 1 ≤ sizeLine; decide, fun e ne => ⟨_, _, rfl, ?_⟩⟩
    have s2 : Same H (upd H1 e (.lst [V.str (Tx f)])) := s1.trans (new_same ne _)
    have hd2 : (upd H1 e (.lst [V.str (Tx f)])) d = some (.dK (encT [f])) := new_same ne _ _ _ hd1
    have he2 : (upd H1 e (.lst [V.str (Tx f)])) e = some (.lst (([f] : List (List Nat)).map VS)) := upd_same
    have neH : H e = none := s1.free ne
    have nde : d ≠ e := ne_of_none hd1 ne
    generalize (upd H1 e (.lst [V.str (Tx f)])) = H2 at s2 hd2 he2 ⊢
    refine ⟨AWhile f d e H, ⟨_, [f], [f], none, none, rfl, s2, hd2, he2, ⟨List.nodup_cons.mpr ⟨fun h => (by cases h), List.nodup_nil⟩, fun g m => by rw [List.mem_singleton.mp m]; exact .refl f, List.mem_singleton.mpr rfl, fun g m => m, fun g m => .inl m⟩, rfl, (show 2 * (4096 - 1) + 1 ≤ 8192 by decide)⟩, ?_⟩
    clear he2 hd2 s2 ne s1 hd1 H2 H1 em
    rintro m σ Hc ⟨ls, es, v3, v4, rfl, s6, hD, hE, I, rfl, hm⟩
    have lls := I.few hf
    have les : es.length ≤ 4096 ∨ True := .inr trivial
    refine ⟨_, rfl, Nat.zero_le _, fun e0 ne0 => ⟨_, _, .lst (SqL.of (new_same ne0 _ _ _ hE)) (dp_VS es), .lst (SqL.of upd_same) .nil, shaped_list (fun u hu => ⟨sm_ok (sub_sm (I.rc u (I.sub u hu)) hS), Nat.zero_le _⟩), shaped_nil, _, rfl, ?_⟩⟩
    rw [eqv_nil]
    have s7 : Same Hc (upd Hc e0 (.lst [])) := new_same ne0 _
    refine iteB (fun c => ?_) (fun c => ?_)
    · have hne : es ≠ [] := fun e => by
        rw [e] at c
        cases c
      obtain ⟨es0, x, rfl⟩ : ∃ ts0 tl, es = ts0 ++ [tl] := by
        rcases List.eq_nil_or_concat es with e | ⟨a, b, e⟩
        · exact absurd e hne
        · exact ⟨a, b, by rw [e, List.concat_eq_append]⟩
      refine ⟨fun σ' H' => ∃ m', m' < 2 * (4096 - ls.length) + (es0 ++ [x]).length ∧ AWhile f d e H m' σ' H', fun _ _ h => h, ?_⟩
      have hx : x ∈ ls := I.sub x (List.mem_append_right _ List.mem_cons_self)
      have hE7 := s7 _ _ hE
      refine ⟨_, rfl, .inl ⟨rfl, _, SqL.of hE7⟩, e, _, VS x, rfl, rfl, hE7, by simp, ?_⟩
      have dl : ((es0 ++ [x]).map VS).dropLast = es0.map VS := by
        rw [List.map_append]
        simp
      rw [dl]
      have s8 : Same H (upd (upd Hc e0 (.lst [])) e (.lst (es0.map VS))) := same_put (s6.trans s7) neH
      have hD8 : (upd (upd Hc e0 (.lst [])) e (.lst (es0.map VS))) d = some (.dK (encT ls)) := by
        rw [upd_ne nde]
        exact s7 _ _ hD
      have hE8 : (upd (upd Hc e0 (.lst [])) e (.lst (es0.map VS))) e = some (.lst (es0.map VS)) := upd_same
      generalize (upd (upd Hc e0 (.lst [])) e (.lst (es0.map VS))) = H8 at s8 hD8 hE8 ⊢
      have lx : x.length ≤ 20 := by
        have := (reach_sub (I.rc x hx)).length_le
        omega
      refine ⟨_, rfl, x, rfl, lx, fun H9 p ys s9 np ep yl ym => ⟨p, rfl, ⟨_, SqL.of ep⟩, ?_⟩⟩
      have nd9 : d ≠ p := ne_of_none hD8 np
      have ne9 : e ≠ p := ne_of_none hE8 np
      refine for_list (xs := ys.map VS) (fun t σ H' => ∃ ls' es' v4, σ = [some (V.str (Tx f)), some (V.ref d), some (V.ref e), some (VS x), v4] ∧ Same H H' ∧ H' d = some (.dK (encT ls')) ∧ H' e = some (.lst (es'.map VS)) ∧ H' p = some (.lst (ys.map VS)) ∧
        AInv f ls' es' (fun g => g = x) ∧ x ∈ ls' ∧ (∀ g ∈ ys.take t, g ∈ ls') ∧ 2 * (4096 - ls'.length) + es'.length ≤ 2 * (4096 - ls.length) + es0.length)
        ⟨ls, es0, v4, rfl, s8.trans s9, s9 _ _ hD8, s9 _ _ hE8, ep, ⟨I.nd, I.rc, I.me, fun g m => I.sub g (List.mem_append_left _ m), fun g m => ?_⟩, hx, fun g m => (by simp at m), Nat.le_refl _⟩ (fun i σ H' _ ⟨_, _, _, _, _, _, _, h, _⟩ => SqL.of h) ?_ ?_
      · rcases I.cl g m with h | h | h
        · rcases List.mem_append.mp h with h | h
          · exact .inl h
          · exact .inr (.inl (List.mem_singleton.mp h))
        · exact h.elim
        · exact .inr (.inr h)
      · clear hD8 hE8 ep s9 np s8 H9 H8 hD hE
        rintro t y σ H8 hy ⟨ls', es', v4, rfl, s8, hD8, hE8, hp8, I', hx', tk, me⟩ 
        obtain ⟨u, hu, rfl⟩ := VS_at hy
        have tku : ys.take (t + 1) = ys.take t ++ [u] := by
          rw [List.take_add_one, hu]
          rfl
        have ht : t < ys.length := (List.getElem?_eq_some_iff.mp hu).1
        refine ⟨_, rfl, _, rfl, d, _, rfl, DGet.k (k := (Sum.inr (Tx u) : Key)) hD8, _, rfl, ?_⟩
        rw [encT_val]
        by_cases m : u ∈ ls'
        · rw [if_pos m]
          refine iteF ⟨ls', es', some (VS u), rfl, s8, hD8, hE8, hp8, I', hx', fun g q => ?_, me⟩
          rw [tku] at q
          rcases List.mem_append.mp q with q | q
          · exact tk g q
          · rw [List.mem_singleton.mp q]
            exact m
        · rw [if_neg m]
          have I2 := I'.add hx' ((ym u).mp (List.mem_of_getElem? hu)) m
          have few := I2.few hf
          rw [List.length_append, List.length_singleton] at few
          refine iteT ⟨_, rfl, _, rfl, d, _, rfl, DPut.k (k := (Sum.inr (Tx u) : Key)) hD8 (by rw [encT_len, sizeLine_eq]; omega), ?_⟩
          rw [encT_put, if_neg m]
          have hE9 : (upd H8 d (.dK (encT (ls' ++ [u])))) e = some (.lst (es'.map VS)) := by
            rw [upd_ne (Ne.symm nde)]
            exact hE8
          rw [List.length_append, List.length_singleton] at hm
          refine ⟨_, rfl, .inl ⟨rfl, _, SqL.of hE9⟩, _, rfl, e, _, _, rfl, rfl, hE9, by rw [List.length_map, sizeLine_eq]; omega, ?_⟩
          refine ⟨ls' ++ [u], es' ++ [u], some (VS u), rfl, same_put (same_put s8 nd) neH, ?_, ?_, ?_, I2, List.mem_append_left _ hx', ?_, ?_⟩
          · rw [upd_ne nde, upd_same]
          · rw [upd_same, List.map_append]
            rfl
          · rw [upd_ne (Ne.symm ne9), upd_ne (Ne.symm nd9)]
            exact hp8
          · intro g q
            rw [tku] at q
            rcases List.mem_append.mp q with q | q
            · exact List.mem_append_left _ (tk g q)
            · exact List.mem_append_right _ q
          · simp only [List.length_append, List.length_singleton]
            omega
      · rintro σ H' ⟨ls', es', v4, rfl, s8', hD8', hE8', hp8', I', hx', tk, me⟩
        rw [List.length_map, List.take_length] at tk
        refine ⟨_, ?_, ls', es', _, _, rfl, s8', hD8', hE8', ⟨I'.nd, I'.rc, I'.me, I'.sub, fun g m => ?_⟩, rfl, ?_⟩
        · rw [List.length_append, List.length_singleton]
          omega
        rotate_left
        · rw [List.length_append, List.length_singleton] at hm
          omega
        · rcases I'.cl g m with h | h | h
          · exact .inl h
          · subst h
            exact .inr (.inr fun h q => tk h ((ym h).mpr q))
          · exact .inr (.inr h)
    · have hne : es = [] := by
        cases es
        · rfl
        · cases c
      subst hne
      refine ⟨_, rfl, d, _, rfl, .inl (s7 _ _ hD), fun p np => ?_⟩
      rw [encT_keys]
      have s9 := new_same np (.lst (ls.map VS))
      refine ⟨p, ls, rfl, SqL.of upd_same, fun q nq => ?_⟩
      have s10 := new_same nq (.lst ((srt ls).map VS))
      exact k _ q ls (s6.trans (s7.trans (s9.trans s10))) ((s6.trans (s7.trans s9)).free nq) upd_same I.nd I.done
end
end JC

-- part E1
set_option Elab.async false
set_option linter.all false
set_option maxRecDepth 100000
/-! pair_steps -/
namespace JC
open PySem PySem.Spec PyProof.Rows L2 JB
abbrev nPair : List Str := ["one", "other", "state", "letter", "last", "first", "second", "left", "right", "a", "b"]
theorem scPair : FnScope nPair ["one", "other", "state", "letter"] (defScope sPair) := ⟨rfl, rfl, rfl, by decide +kernel, rfl, by decide +kernel, by decide +kernel⟩
def one1 (c : Nat) : Str := Tx [c]
/-- a state as a tuple's items -/
def steV (s : Ste) : List V := [.str (Tx [s.1]), .int (s.2.1 : Nat), .int (s.2.2 : Nat)]
def encS (s : Ste) : PyData := .tuple [.str (Tx [s.1]), .int (s.2.1 : Nat), .int (s.2.2 : Nat)]
theorem steV_dp {K : PySem.W.Frag} {H : Hp} (s : Ste) : DpAll K H (steV s) [.str (Tx [s.1]), .int (s.2.1 : Nat), .int (s.2.2 : Nat)] := .cons (.str _) (.cons (.int _) (.cons (.int _) .nil))
/-- the items at ts are tuples that say ss -/
inductive TupsAt (H : Hp) : List Addr → List Ste → Prop
  | nil : TupsAt H [] []
  | cons {a : Addr} {s : Ste} {as : List Addr} {ss : List Ste} : H a = some (.tup (steV s)) → TupsAt H as ss → TupsAt H (a :: as) (s :: ss)
theorem TupsAt.same {H H' : Hp} (k : Same H H') : ∀ {as : List Addr} {ss : List Ste}, TupsAt H as ss → TupsAt H' as ss
  | _, _, .nil => .nil
  | _, _, .cons h t => .cons (k _ _ h) (t.same k)
theorem TupsAt.snoc {H : Hp} {a : Addr} {s : Ste} (h : H a = some (.tup (steV s))) : ∀ {as : List Addr} {ss : List Ste}, TupsAt H as ss → TupsAt H (as ++ [a]) (ss ++ [s])
  | _, _, .nil => .cons h .nil
  | _, _, .cons h' t => .cons h' (t.snoc h)
theorem TupsAt.at {H : Hp} : ∀ {as : List Addr} {ss : List Ste} {i : Nat} {a : Addr}, TupsAt H as ss → as[i]? = some a → ∃ s, ss[i]? = some s ∧ H a = some (.tup (steV s))
  | _, _, i, a, .nil, h => by simp at h
  | _, _, 0, a, .cons h' t, h => by
    simp at h
    subst h
    exact ⟨_, rfl, h'⟩
  | _, _, i + 1, a, .cons h' t, h => by
    simp at h
    obtain ⟨s, h1, h2⟩ := t.at h
    exact ⟨s, by simpa using h1, h2⟩
theorem TupsAt.upd {H : Hp} {D : Addr} {xs : List V} {o : HO} (hD : H D = some (.lst xs)) : ∀ {as : List Addr} {ss : List Ste}, TupsAt H as ss → TupsAt (upd H D o) as ss
  | _, _, .nil => .nil
  | _, _, .cons h t => .cons (by rw [upd_ne (ne_of h hD (fun z => by cases z))]; exact h) (t.upd hD)
theorem TupsAt.len {H : Hp} : ∀ {as : List Addr} {ss : List Ste}, TupsAt H as ss → as.length = ss.length
  | _, _, .nil => rfl
  | _, _, .cons _ t => by rw [List.length_cons, List.length_cons, t.len]
def spPair (K : PySem.W.Frag) : Sp := fun vs H Q _ => ∃ (f g : List Nat) (s : Ste) (c : Nat) (t : Addr), vs = [.str (Tx f), .str (Tx g), .ref t, .str (Tx [c])] ∧ f.length ≤ 200 ∧ g.length ≤ 200 ∧ s.2.1 < f.length ∧ s.2.2 < g.length ∧ SqT K H t (steV s) ∧
  ∀ H' p ts, Same H H' → H p = none → H' p = some (.lst (ts.map V.ref)) → TupsAt H' ts (pairs f g s c) → Q (.ref p) H'
theorem adv_len (f : List Nat) (l i c : Nat) : (adv f l i c).length ≤ 2 := by
  unfold adv
  cases (Nat.beq (at0 f i) l && (Nat.blt (i + 1) f.length && Nat.beq (at0 f (i + 1)) c)) <;> simp
/-- the turns over a list, whatever the body -/
theorem it_list {K : PySem.W.Frag} {a : Addr} {xs : List V} {H0 : Hp} {Qd : Hp → Prop} {B : V → Hp → (Hp → Prop) → Prop} (Pv : Nat → Hp → Prop) (h0 : Pv 0 H0) (hl : ∀ i H, i ≤ xs.length → Pv i H → SqL K H a xs)
    (hs : ∀ i x H, xs[i]? = some x → Pv i H → B x H (Pv (i + 1))) (hd : ∀ H, Pv xs.length H → Qd H) :
    ∃ W : Nat → Nat → Hp → Prop, (∃ m, W 0 m H0) ∧ ∀ i m H, W i m H →
      ((Itl K a).stop i H ∧ Qd H) ∨ ((Itl K a).go i H ∧ ∃ Nx : Hp → Prop, (∀ H', Nx H' → ∃ m', m' < m ∧ W (i + 1) m' H') ∧ ∀ x H', (Itl K a).yld i H x H' → B x H' Nx) := by
  refine ⟨fun i m H => m = xs.length - i ∧ i ≤ xs.length ∧ Pv i H, ⟨xs.length, by simp, Nat.zero_le _, h0⟩, ?_⟩
  rintro i m H ⟨rfl, hi, p⟩
  have q := hl i H hi p
  by_cases hlt : i < xs.length
  · refine .inr ⟨⟨xs, xs[i], q, by simp [hlt]⟩, Pv (i + 1), fun H' p' => ⟨xs.length - (i + 1), by omega, rfl, hlt, p'⟩, fun x H' y => ?_⟩
    obtain ⟨e, y⟩ := y
    subst e
    exact hs i x _ (y xs q) p
  · have e : i = xs.length := by omega
    subst e
    exact .inl ⟨⟨xs, q, Nat.le_refl _⟩, hd H p⟩
def advC (f : List Nat) (l i c : Nat) : Bool := Nat.beq (at0 f i) l && (Nat.blt (i + 1) f.length && Nat.beq (at0 f (i + 1)) c)
theorem adv_C (f : List Nat) (l i c : Nat) : adv f l i c = bif advC f l i c then [i, i + 1] else [i] := rfl
def NI (a : Nat) : V := .int (a : Nat)
section
variable {P : Program} {w : World} {K : PySem.W.Frag} {mg : Str → Option Value} {base : Heap}
theorem ok_pair {f : Addr} {fd : FuncData} (F : Fun K "pair_steps" "pair_steps" sPair f fd) (M : Gs mg) : FnOk P w K mg base CX0 1 f fd ["one", "other", "state", "letter"] (spPair K) := by
  refine F.ok scPair (fun vs H Q E h => ?_) (fun cdv A outer s H vs Q E hr h => ?_)
  · obtain ⟨f, g, s, c, t, rfl, _⟩ := h
    rfl
  · obtain ⟨f, g, ⟨l, x, y⟩, c, t, rfl, hf, hg, hx, hy, ht, k⟩ := h
    have hu := hu_of hr
    refine ⟨_, pss_cons (ps_asg (pv 2) (pg_tup rfl (pgs_cons (pg_name (i := 4) scPair.nd rfl (.inl rfl)) (pgs_cons (pg_name (i := 5) scPair.nd rfl (.inl rfl)) (pgs_cons (pg_name (i := 6) scPair.nd rfl (.inl rfl)) pgs_nil)))))
      (pss_cons (ps_asg (pe_tup (pa_cons (pe_lst (pa_cons (pv 5) pa_nil)) (pa_cons (pe_lst (pa_cons (pv 6) pa_nil)) pa_nil))) (pg_tup rfl (pgs_cons (pg_name (i := 7) scPair.nd rfl (.inl rfl)) (pgs_cons (pg_name (i := 8) scPair.nd rfl (.inr rfl)) pgs_nil))))
      (C8.pss_cut (ps_if (pt_kn (PW.pt (pw_and (pt_cmpR op_eq (pe_ix ix_str (pv 0) (pv 5) (fun _ _ => rfl)) (pv 4) (nomark _)) (pw_and (pt_cmpR op_lt (pe_op op_add (pv 5) pe_int) (pe_callB call_len_str (by rfl) M.len PySem.boot_len (pa_cons (pv 0) pa_nil)) (nomark _))
          (pw_and1 (pt_cmpR op_eq (pe_ix ix_str (pv 0) (pe_op op_add (pv 5) pe_int) (fun _ _ => rfl)) (pv 3) (nomark _)))))))
          (pss_one (ps_expr (pe_bm PySem.F.plainAttrs_list PySem.F.slot_list_append PySem.F.type_list_append mt_append (pv 7) (pa_cons (pe_op op_add (pv 5) pe_int) pa_nil)))) pss_nil)
      (C8.pss_cut (ps_if (pt_kn (PW.pt (pw_and (pt_cmpR op_eq (pe_ix ix_str (pv 1) (pv 6) (fun _ _ => rfl)) (pv 4) (nomark _)) (pw_and (pt_cmpR op_lt (pe_op op_add (pv 6) pe_int) (pe_callB call_len_str (by rfl) M.len PySem.boot_len (pa_cons (pv 1) pa_nil)) (nomark _))
          (pw_and1 (pt_cmpR op_eq (pe_ix ix_str (pv 1) (pe_op op_add (pv 6) pe_int) (fun _ _ => rfl)) (pv 3) (nomark _)))))))
          (pss_one (ps_expr (pe_bm PySem.F.plainAttrs_list PySem.F.slot_list_append PySem.F.type_list_append mt_append (pv 8) (pa_cons (pe_op op_add (pv 6) pe_int) pa_nil)))) pss_nil)
      (pss_one (ps_ret (pe_lc2 (wi1 := iList K (tVar 8)) (own := [("a", 9), ("b", 10)]) (vs1 := [10]) (g := gName 9) (g1 := gName 10) (tt := tYes) (tt1 := tYes) rfl scPair.nd (pi_list (pv 7)) (blkOk_by (own := [("a", 9), ("b", 10)]) (N := nPair) (sc := defScope sPair) (by decide +kernel)) (by decide)
        (fun _ _ _ _ _ => pg_name (i := 9) scPair.nd rfl (Or.inl rfl)) (fun _ _ _ _ _ => pts_nil) (fun _ _ _ _ _ => pi_list (pv 8)) (fun _ _ _ _ _ => pg_name (i := 10) scPair.nd rfl (Or.inl rfl)) (fun _ _ _ _ _ => pts_nil)
        (fun _ _ _ _ _ => pe_tup (pa_cons (pv 3) (pa_cons (pv 9) (pa_cons (pv 10) pa_nil)))))))))), ?_⟩
    replace hx : x < f.length := hx
    replace hy : y < g.length := hy
    refine ⟨_, rfl, t, _, rfl, ht, rfl, _, _, rfl, _, _, rfl, _, _, rfl, rfl, ?_⟩
    refine ⟨_, rfl, by show 1 ≤ sizeLine; decide, fun L nL => ⟨_, rfl, by show 1 ≤ sizeLine; decide, fun R nR => ⟨by show 2 ≤ sizeLine; decide, fun T nT => ⟨T, _, rfl, .inl (.inl upd_same), rfl, _, _, rfl, _, _, rfl, rfl, ?_⟩⟩⟩⟩
    have s1 : Same H (upd H L (.lst [.int (x : Nat)])) := new_same nL _
    have hL1 : (upd H L (.lst [.int (x : Nat)])) L = some (.lst [.int (x : Nat)]) := upd_same
    have s2 : Same H (upd (upd H L (.lst [.int (x : Nat)])) R (.lst [.int (y : Nat)])) := s1.trans (new_same nR _)
    have hR2 : (upd (upd H L (.lst [.int (x : Nat)])) R (.lst [.int (y : Nat)])) R = some (.lst [.int (y : Nat)]) := upd_same
    have nLR : L ≠ R := ne_of_none hL1 nR
    have nRH : H R = none := s1.free nR
    have hL3 := new_same nT (.tup [.ref L, .ref R]) _ _ (new_same nR (.lst [.int (y : Nat)]) _ _ hL1)
    have hR3 := new_same nT (.tup [.ref L, .ref R]) _ _ hR2
    have s3 := s2.trans (new_same nT (.tup [.ref L, .ref R]))
    generalize (upd (upd (upd H L (.lst [.int (x : Nat)])) R (.lst [.int (y : Nat)])) T (.tup [.ref L, .ref R])) = H3 at s3 hL3 hR3 ⊢
    clear hR2 s2 hL1 s1
    refine ⟨fun σ' H' => σ' = [some (.str (Tx f)), some (.str (Tx g)), some (.ref t), some (.str (Tx [c])), some (.str (Tx [l])), some (.int (x : Nat)), some (.int (y : Nat)), some (.ref L), some (.ref R), none, none] ∧ Same H H' ∧ H' L = some (.lst ((adv f l x c).map NI)) ∧ H' R = some (.lst [.int (y : Nat)]), ?_, ?_⟩
    · refine ⟨advC f l x c, ?_, ?_⟩
      · intro Q' q'
        unfold advC at q'
        rw [beq_iff, beq_iff, blt_iff] at q'
        refine ⟨_, rfl, _, rfl, _, _, _, rfl, rfl, tx_small (by omega), tx_at hx, _, rfl, rfl, _, rfl, ?_⟩
        rw [show decide (V.str (⟨#[at0 f x]⟩ : Str) = V.str (Tx [l])) = decide (at0 f x = l) from one_eq _ _]
        by_cases e1 : at0 f x = l
        · rw [decide_eq_true e1] at q' ⊢
          refine iteT ⟨_, rfl, _, _, rfl, rfl, _, rfl, _, rfl, tx_small (by omega), _, _, rfl, rfl, _, rfl, ?_⟩
          rw [tx_len]
          by_cases e2 : x + 1 < f.length
          · rw [decide_eq_true e2] at q'
            rw [decide_eq_true (show ((x : Nat) : Int) + 1 < (f.length : Nat) by omega)]
            have e3 : ((x : Nat) : Int) + 1 = ((x + 1 : Nat) : Int) := by omega
            refine iteT ⟨_, rfl, _, rfl, _, _, rfl, rfl, _, _, _, rfl, rfl, tx_small (by omega), by rw [e3]; exact tx_at e2, _, rfl, rfl, _, rfl, ?_⟩
            rw [show decide (V.str (⟨#[at0 f (x + 1)]⟩ : Str) = V.str (Tx [c])) = decide (at0 f (x + 1) = c) from one_eq _ _]
            exact q'
          · rw [decide_eq_false e2] at q'
            rw [decide_eq_false (show ¬ ((x : Nat) : Int) + 1 < (f.length : Nat) by omega)]
            exact iteF q'
        · rw [decide_eq_false e1] at q' ⊢
          exact iteF q'
      · rw [adv_C]
        cases advC f l x c with
        | false => exact iteF ⟨rfl, s3, hL3, hR3⟩
        | true =>
          refine iteT ⟨_, rfl, .inl ⟨rfl, _, SqL.of hL3⟩, _, rfl, _, _, rfl, rfl, L, _, _, rfl, rfl, hL3, by show 1 < sizeLine; rw [sizeLine_eq]; decide, ?_⟩
          refine ⟨rfl, same_put s3 nL, ?_, ?_⟩
          · rw [upd_same]
            rfl
          · rw [upd_ne (Ne.symm nLR)]
            exact hR3
    · rintro σ' H4 ⟨rfl, s4, hL4, hR4⟩
      clear hL3 hR3 s3 H3
      refine ⟨fun σ' H' => σ' = [some (.str (Tx f)), some (.str (Tx g)), some (.ref t), some (.str (Tx [c])), some (.str (Tx [l])), some (.int (x : Nat)), some (.int (y : Nat)), some (.ref L), some (.ref R), none, none] ∧ Same H H' ∧ H' L = some (.lst ((adv f l x c).map NI)) ∧ H' R = some (.lst ((adv g l y c).map NI)), ?_, ?_⟩
      · refine ⟨advC g l y c, ?_, ?_⟩
        · intro Q' q'
          unfold advC at q'
          rw [beq_iff, beq_iff, blt_iff] at q'
          refine ⟨_, rfl, _, rfl, _, _, _, rfl, rfl, tx_small (by omega), tx_at hy, _, rfl, rfl, _, rfl, ?_⟩
          rw [show decide (V.str (⟨#[at0 g y]⟩ : Str) = V.str (Tx [l])) = decide (at0 g y = l) from one_eq _ _]
          by_cases e1 : at0 g y = l
          · rw [decide_eq_true e1] at q' ⊢
            refine iteT ⟨_, rfl, _, _, rfl, rfl, _, rfl, _, rfl, tx_small (by omega), _, _, rfl, rfl, _, rfl, ?_⟩
            rw [tx_len]
            by_cases e2 : y + 1 < g.length
            · rw [decide_eq_true e2] at q'
              rw [decide_eq_true (show ((y : Nat) : Int) + 1 < (g.length : Nat) by omega)]
              have e3 : ((y : Nat) : Int) + 1 = ((y + 1 : Nat) : Int) := by omega
              refine iteT ⟨_, rfl, _, rfl, _, _, rfl, rfl, _, _, _, rfl, rfl, tx_small (by omega), by rw [e3]; exact tx_at e2, _, rfl, rfl, _, rfl, ?_⟩
              rw [show decide (V.str (⟨#[at0 g (y + 1)]⟩ : Str) = V.str (Tx [c])) = decide (at0 g (y + 1) = c) from one_eq _ _]
              exact q'
            · rw [decide_eq_false e2] at q'
              rw [decide_eq_false (show ¬ ((y : Nat) : Int) + 1 < (g.length : Nat) by omega)]
              exact iteF q'
          · rw [decide_eq_false e1] at q' ⊢
            exact iteF q'
        · rw [adv_C g]
          cases advC g l y c with
          | false => exact iteF ⟨rfl, s4, hL4, hR4⟩
          | true =>
            refine iteT ⟨_, rfl, .inl ⟨rfl, _, SqL.of hR4⟩, _, rfl, _, _, rfl, rfl, R, _, _, rfl, rfl, hR4, by show 1 < sizeLine; rw [sizeLine_eq]; decide, ?_⟩
            refine ⟨rfl, same_put s4 nRH, ?_, ?_⟩
            · rw [upd_ne nLR]
              exact hL4
            · rw [upd_same]
              rfl
      · clear hL4 hR4 s4 H4
        rintro σ' H4 ⟨rfl, s4, hL4, hR4⟩
        have nDL := hL4
        refine ⟨_, rfl, L, rfl, ⟨_, SqL.of hL4⟩, fun D nD => it_list (xs := (adv f l x c).map NI) (fun i H' => ∃ ts, Same H4 H' ∧ H' D = some (.lst (ts.map V.ref)) ∧ ts.length ≤ 2 * i ∧ TupsAt H' ts (((adv f l x c).take i).flatMap fun a => (adv g l y c).map fun b => (c, a, b))) ⟨[], new_same nD _, upd_same, Nat.zero_le _, .nil⟩ (fun i H' _ ⟨_, h, _⟩ => SqL.of (h _ _ hL4)) ?_ ?_⟩
        · rintro i v H5 hv ⟨ts, s5, hD, lts, tt⟩
          obtain ⟨a, ha, rfl⟩ : ∃ a, (adv f l x c)[i]? = some a ∧ v = NI a := by
            rw [List.getElem?_map] at hv
            cases e : (adv f l x c)[i]? with
            | none => rw [e] at hv; cases hv
            | some a => rw [e] at hv; exact ⟨a, rfl, (Option.some.inj hv).symm⟩
          have tk : (adv f l x c).take (i + 1) = (adv f l x c).take i ++ [a] := by
            rw [List.take_add_one, ha]
            rfl
          have il : i < 2 := Nat.lt_of_lt_of_le (List.getElem?_eq_some_iff.mp ha).1 (adv_len _ _ _ _)
          refine ⟨rfl, _, rfl, R, rfl, ⟨_, SqL.of (s5 _ _ hR4)⟩, it_list (xs := (adv g l y c).map NI) (fun j H' => ∃ ts, Same H4 H' ∧ H' D = some (.lst (ts.map V.ref)) ∧ ts.length ≤ 2 * i + j ∧ TupsAt H' ts ((((adv f l x c).take i).flatMap fun a => (adv g l y c).map fun b => (c, a, b)) ++ ((adv g l y c).take j).map fun b => (c, a, b))) ⟨ts, s5, hD, by omega, by simpa using tt⟩ (fun i H' _ ⟨_, h, _⟩ => SqL.of (h _ _ hR4)) ?_ ?_⟩
          · clear s5 hD lts tt H5 ts
            rintro j v H5 hv2 ⟨ts, s5, hD, lts, tt⟩
            obtain ⟨b, hb, rfl⟩ : ∃ a, (adv g l y c)[j]? = some a ∧ v = NI a := by
              rw [List.getElem?_map] at hv2
              cases e : (adv g l y c)[j]? with
              | none => rw [e] at hv2; cases hv2
              | some a => rw [e] at hv2; exact ⟨a, rfl, (Option.some.inj hv2).symm⟩
            have tk2 : (adv g l y c).take (j + 1) = (adv g l y c).take j ++ [b] := by
              rw [List.take_add_one, hb]
              rfl
            have jl : j < 2 := Nat.lt_of_lt_of_le (List.getElem?_eq_some_iff.mp hb).1 (adv_len _ _ _ _)
            refine ⟨rfl, _, rfl, _, rfl, _, rfl, by show 3 ≤ sizeLine; decide, fun T nT => ⟨_, new_same nT _ _ _ hD, by rw [List.length_map, sizeLine_eq]; omega, ts ++ [T], ?_, ?_, ?_, ?_⟩⟩
            · exact same_put (s5.trans (new_same nT _)) nD
            · rw [upd_same, List.map_append]
              rfl
            · rw [List.length_append, List.length_singleton]
              omega
            · rw [tk2, List.map_append, ← List.append_assoc]
              have s6 : Same H5 (upd H5 T (.tup [.str (Tx [c]), NI a, NI b])) := new_same nT _
              exact TupsAt.upd (s6 _ _ hD) (TupsAt.snoc (s := (c, a, b)) upd_same (tt.same s6))
          · rintro H5 ⟨ts, s5, hD, lts, tt⟩
            rw [List.length_map, List.take_length] at tt
            refine ⟨ts, s5, hD, ?_, ?_⟩
            · have := adv_len g l y c
              rw [List.length_map] at lts
              omega
            · rw [tk, List.flatMap_append]
              simpa using tt
        · rintro H5 ⟨ts, s5, hD, lts, tt⟩
          rw [List.length_map, List.take_length] at tt
          exact k _ D ts (s4.trans s5) (s4.free nD) hD tt
end
end JC

-- part E2
set_option Elab.async false
set_option linter.all false
set_option maxRecDepth 100000
/-! entries as data: their order, where they stand -/
namespace JC
open PySem PySem.Spec PyProof.Rows L2 JB
def encEn (e : Ent) : PyData := .tuple [.str (Tx e.1), encS e.2]
theorem eqv_tx (a b : List Nat) : PyData.eqv (.str (Tx a)) (.str (Tx b)) = decide (a = b) := by
  have q : PyData.eqv (.str (Tx a)) (.str (Tx b)) = (Tx a == Tx b) := by simp [PyData.eqv]
  rw [q]
  by_cases e : a = b
  · subst e
    simp
  · rw [decide_eq_false e]
    exact beq_eq_false_iff_ne.mpr fun z => e (tx_inj z)
theorem eqv_S (s t : Ste) : PyData.eqv (encS s) (encS t) = eqS s t := by
  obtain ⟨l, a, b⟩ := s
  obtain ⟨m, x, y⟩ := t
  have e : PyData.eqv (encS (l, a, b)) (encS (m, x, y)) = (PyData.eqv (.str (Tx [l])) (.str (Tx [m])) && (((a : Int) == (x : Int)) && (((b : Int) == (y : Int)) && true))) := by simp only [encS, PyData.eqv, PyData.eqvAll]
  rw [e, eqv_tx]
  unfold eqS
  rw [beq_iff, beq_iff, beq_iff, Bool.and_true]
  have e1 : decide ([l] = [m]) = decide (l = m) := by
    rw [Bool.eq_iff_iff, decide_eq_true_iff, decide_eq_true_iff]
    exact ⟨fun h => (List.cons.inj h).1, fun h => by rw [h]⟩
  have e2 : ∀ i j : Nat, (((i : Nat) : Int) == ((j : Nat) : Int)) = decide (i = j) := fun i j => by
    rw [Bool.eq_iff_iff, beq_iff_eq, decide_eq_true_iff]
    omega
  rw [e1, e2, e2]
theorem lt_S (s t : Ste) : PySem.W.dataLt (encS s) (encS t) = (if eqS s t = true then false else ltS s t) := by
  obtain ⟨l, a, b⟩ := s
  obtain ⟨m, x, y⟩ := t
  have al : ∀ (u v : Str), PySem.W.alike (.str u) (.str v) = true := fun u v => by simp [PySem.W.alike]
  have ali : ∀ (u v : Int), PySem.W.alike (.int u) (.int v) = true := fun u v => by simp [PySem.W.alike]
  unfold encS
  rw [PySem.W.dataLt_tuple, PySem.W.dataLt_cons (al _ _), PySem.W.dataLt_cons (ali _ _), PySem.W.dataLt_cons (ali _ _), PySem.W.dataLt_str, PySem.W.dataLt_int, PySem.W.dataLt_int, eqv_tx]
  have e0 : PyProof.Rows.lexLt PyProof.Rows.itemOrd (PySem.W.keyToksAll []) (PySem.W.keyToksAll []) = false := lex_irrefl _
  rw [e0]
  have e2 : ∀ i j : Nat, PyData.eqv (.int (i : Nat)) (.int (j : Nat)) = decide (i = j) := fun i j => by
    simp only [PyData.eqv]
    rw [Bool.eq_iff_iff, beq_iff_eq, decide_eq_true_iff]
    omega
  rw [e2, e2]
  unfold eqS ltS
  rw [beq_iff, beq_iff, beq_iff, blt_iff, blt_iff, blt_iff]
  have e1 : ([l] = [m]) ↔ l = m := ⟨fun h => (List.cons.inj h).1, fun h => by rw [h]⟩
  have e3 : ((Tx [l]).cps.toList < (Tx [m]).cps.toList) ↔ l < m := by
    show ([l] < [m]) ↔ l < m
    rw [List.cons_lt_cons_iff]
    simp
  by_cases h1 : l = m <;> by_cases h2 : a = x <;> by_cases h3 : b = y <;> simp [h1, h2, h3, e1, e3] <;> omega
theorem al_S (s t : Ste) : PySem.W.alike (encS s) (encS t) = true := by
  simp [encS, PySem.W.alike, PySem.W.alikeAll]
theorem lt_E (x y : Ent) : PySem.W.dataLt (encEn x) (encEn y) = ltE x y := by
  unfold encEn
  rw [PySem.W.dataLt_pair (by simp [PySem.W.alike]) (al_S _ _), eqv_tx, eqv_S, lt_S, PySem.W.dataLt_str]
  unfold ltE
  rw [ltL_eq, ltL_eq]
  show (if decide (x.1 = y.1) = true then (if eqS x.2 y.2 = true then false else if eqS x.2 y.2 = true then false else ltS x.2 y.2) else decide (x.1 < y.1)) = _
  by_cases h : x.1 = y.1
  · rw [decide_eq_true h, if_pos rfl, h, decide_eq_false (List.lt_irrefl _)]
    by_cases e : eqS x.2 y.2 = true
    · rw [if_pos e]
      rw [eqS_eq] at e
      rw [of_decide_eq_true e]
      symm
      rw [cond_false, cond_false, ltS_no]
      exact .inr ⟨rfl, .inr ⟨rfl, Nat.le_refl _⟩⟩
    · rw [if_neg e, if_neg e] <;> rfl
  · rw [decide_eq_false h, if_neg (by decide)]
    by_cases e : x.1 < y.1
    · rw [decide_eq_true e] <;> rfl
    · have e2 : y.1 < x.1 := by
        by_cases q : y.1 < x.1
        · exact q
        · exact absurd (List.le_antisymm (List.not_lt.mp q) (List.not_lt.mp e)) h
      rw [decide_eq_false e, decide_eq_true e2] <;> rfl
theorem le_E : PySem.W.dataLe false encEn = leE := by
  rw [PySem.W.dataLe_eq]
  funext a b
  show (!PySem.W.dataLt (encEn b) (encEn a)) = _
  rw [lt_E] <;> rfl
end JC

-- part E3
set_option Elab.async false
set_option linter.all false
set_option maxRecDepth 100000
/-! where the entries stand; the letters -/
namespace JC
open PySem PySem.Spec PyProof.Rows L2 JB
/-- what is no tuple -/
def NoTup (o : HO) : Prop := (∀ xs, o ≠ .tup xs) ∧ ∀ ob xs, o ≠ .frz ob (.tup xs)
theorem noTup_lst {xs : List V} : NoTup (.lst xs) := ⟨fun _ h => (nomatch h), fun _ _ h => (nomatch h)⟩
theorem noTup_dT {xs : List (List Key × V)} : NoTup (.dT xs) := ⟨fun _ h => (nomatch h), fun _ _ h => (nomatch h)⟩
theorem sqT_upd {K : PySem.W.Frag} {H : Hp} {a b : Addr} {xs : List V} {o o' : HO} (h : SqT K H a xs) (hb : H b = some o) (n : NoTup o) : SqT K (upd H b o') a xs := by
  rcases h with (h | ⟨ob, h⟩) | h
  · exact .inl (.inl (by rw [upd_ne (ne_of h hb (fun z => n.1 _ z.symm))]; exact h))
  · exact .inl (.inr ⟨ob, by rw [upd_ne (ne_of h hb (fun z => n.2 _ _ z.symm))]; exact h⟩)
  · exact .inr h
theorem sqT_same {K : PySem.W.Frag} {H H' : Hp} {a : Addr} {xs : List V} (h : SqT K H a xs) (s : Same H H') : SqT K H' a xs := by
  rcases h with (h | ⟨ob, h⟩) | h
  · exact .inl (.inl (s _ _ h))
  · exact .inl (.inr ⟨ob, s _ _ h⟩)
  · exact .inr h
/-- x is an entry -/
def EntAt (K : PySem.W.Frag) (H : Hp) (x : V) (e : Ent) : Prop := ∃ T t, x = .ref T ∧ SqT K H T [.str (Tx e.1), .ref t] ∧ SqT K H t (steV e.2)
theorem EntAt.same {K : PySem.W.Frag} {H H' : Hp} {x : V} {e : Ent} (s : Same H H') : EntAt K H x e → EntAt K H' x e := fun ⟨T, t, a, b, c⟩ => ⟨T, t, a, sqT_same b s, sqT_same c s⟩
theorem EntAt.upd {K : PySem.W.Frag} {H : Hp} {x : V} {e : Ent} {b : Addr} {o o' : HO} (hb : H b = some o) (n : NoTup o) : EntAt K H x e → EntAt K (upd H b o') x e := fun ⟨T, t, a, b, c⟩ => ⟨T, t, a, sqT_upd b hb n, sqT_upd c hb n⟩
inductive EntsAt (K : PySem.W.Frag) (H : Hp) : List V → List Ent → Prop
  | nil : EntsAt K H [] []
  | cons {x : V} {e : Ent} {xs : List V} {es : List Ent} : EntAt K H x e → EntsAt K H xs es → EntsAt K H (x :: xs) (e :: es)
section
variable {K : PySem.W.Frag} {H H' : Hp}
theorem EntsAt.same (s : Same H H') : ∀ {xs : List V} {es : List Ent}, EntsAt K H xs es → EntsAt K H' xs es
  | _, _, .nil => .nil
  | _, _, .cons h t => .cons (h.same s) (t.same s)
theorem EntsAt.upd {b : Addr} {o o' : HO} (hb : H b = some o) (n : NoTup o) : ∀ {xs : List V} {es : List Ent}, EntsAt K H xs es → EntsAt K (L2.upd H b o') xs es
  | _, _, .nil => .nil
  | _, _, .cons h t => .cons (h.upd hb n) (t.upd hb n)
theorem EntsAt.snoc {x : V} {e : Ent} (h : EntAt K H x e) : ∀ {xs : List V} {es : List Ent}, EntsAt K H xs es → EntsAt K H (xs ++ [x]) (es ++ [e])
  | _, _, .nil => .cons h .nil
  | _, _, .cons h' t => .cons h' (t.snoc h)
theorem EntsAt.len : ∀ {xs : List V} {es : List Ent}, EntsAt K H xs es → xs.length = es.length
  | _, _, .nil => rfl
  | _, _, .cons _ t => by rw [List.length_cons, List.length_cons, t.len]
theorem EntsAt.at : ∀ {xs : List V} {es : List Ent} {i : Nat} {x : V}, EntsAt K H xs es → xs[i]? = some x → ∃ e, es[i]? = some e ∧ EntAt K H x e
  | _, _, i, a, .nil, h => by simp at h
  | _, _, 0, a, .cons h' t, h => by
    simp at h
    subst h
    exact ⟨_, rfl, h'⟩
  | _, _, i + 1, a, .cons h' t, h => by
    simp at h
    obtain ⟨s, h1, h2⟩ := t.at h
    exact ⟨s, by simpa using h1, h2⟩
theorem EntAt.dp {x : V} {e : Ent} : EntAt K H x e → Dp K H x (encEn e) := fun ⟨T, t, a, b, c⟩ => by
  subst a
  exact .tup b (.cons (.str _) (.cons (.tup c (steV_dp _)) .nil))
theorem EntsAt.dp : ∀ {xs : List V} {es : List Ent}, EntsAt K H xs es → DpAll K H xs (es.map encEn)
  | _, _, .nil => .nil
  | _, _, .cons h t => .cons h.dp t.dp
theorem steV_of {s : Ste} {xs : List V} (h : DpAll K H xs [.str (Tx [s.1]), .int (s.2.1 : Nat), .int (s.2.2 : Nat)]) : xs = steV s := by
  cases h with
  | cons a h =>
    cases a
    cases h with
    | cons b h =>
      cases b
      cases h with
      | cons c h =>
        cases c
        cases h
        rfl
theorem EntAt.of {x : V} {e : Ent} (h : Dp K H x (encEn e)) : EntAt K H x e := by
  unfold encEn encS at h
  cases h with
  | tup hs hd =>
    cases hd with
    | cons a h =>
      cases a
      cases h with
      | cons b h =>
        cases h
        cases b with
        | tup hs2 hd2 =>
          rw [steV_of hd2] at hs2
          exact ⟨_, _, rfl, hs, hs2⟩
theorem EntsAt.of : ∀ {es : List Ent} {xs : List V}, DpAll K H xs (es.map encEn) → EntsAt K H xs es
  | [], _, .nil => .nil
  | e :: es, _, .cons h t => .cons (.of h) (.of t)
end
/-! ### the letters -/
theorem any_beq (c : Nat) (l : List Nat) : (l.any (Nat.beq c ·)) = decide (c ∈ l) := by
  rw [Bool.eq_iff_iff, List.any_eq_true, decide_eq_true_iff]
  constructor
  · rintro ⟨x, h1, h2⟩
    rw [Nat.eq_of_beq_eq_true h2]
    exact h1
  · intro h
    exact ⟨c, h, Nat.beq_refl c⟩
theorem lets_of {f g : List Nat} {ys l : List Str} (hl : ∀ c ∈ f ++ g, c = 97 ∨ c = 98) (nd : ys.Nodup) (pm : ys.Perm l) (so : sortedS ys = true) (mem : ∀ k : Str, k ∈ l ↔ ∃ c ∈ (Tx f ++ Tx g).cps.toList, k = ⟨#[c]⟩) :
    ys.map V.str = (lets f g).map fun c => V.str (Tx [c]) := by
  have m2 : ∀ k : Str, k ∈ ys ↔ ∃ c ∈ f ++ g, k = ⟨#[c]⟩ := fun k => by
    rw [pm.mem_iff, mem k, tx_add] <;> rfl
  have mc : ∀ c : Nat, (⟨#[c]⟩ : Str) ∈ ys ↔ c ∈ f ++ g := fun c => by
    rw [m2]
    constructor
    · rintro ⟨d, h1, h2⟩
      have : [c] = [d] := tx_inj h2
      rw [(List.cons.inj this).1]
      exact h1
    · intro h
      exact ⟨c, h, rfl⟩
  have me : ∀ k ∈ ys, k = (⟨#[97]⟩ : Str) ∨ k = (⟨#[98]⟩ : Str) := fun k hk => by
    obtain ⟨c, h1, h2⟩ := (m2 k).mp hk
    rcases hl c h1 with e | e
    · left; rw [h2, e]
    · right; rw [h2, e]
  have nAB : (⟨#[97]⟩ : Str) ≠ ⟨#[98]⟩ := by decide
  have el : lets f g = (bif decide (97 ∈ f ++ g) then [97] else []) ++ (bif decide (98 ∈ f ++ g) then [98] else []) := by
    unfold lets
    rw [any_beq, any_beq]
  rw [el]
  have p97 := mc 97
  have p98 := mc 98
  match ys, nd, so, me, p97, p98 with
  | [], _, _, _, p97, p98 =>
    rw [decide_eq_false (fun h => by have := p97.mpr h; cases this), decide_eq_false (fun h => by have := p98.mpr h; cases this)]
    rfl
  | [x], _, _, me, p97, p98 =>
    rcases me x List.mem_cons_self with e | e
    · subst e
      rw [decide_eq_true (p97.mp List.mem_cons_self), decide_eq_false (fun h => nAB.symm (List.mem_singleton.mp (p98.mpr h)))]
      rfl
    · subst e
      rw [decide_eq_true (p98.mp List.mem_cons_self), decide_eq_false (fun h => nAB (List.mem_singleton.mp (p97.mpr h)))]
      rfl
  | [x, y], nd, so, me, p97, p98 =>
    obtain ⟨n1, _⟩ := List.nodup_cons.mp nd
    have nxy : x ≠ y := fun e => n1 (by rw [e]; exact List.mem_cons_self)
    rcases me x List.mem_cons_self with e | e
    · rcases me y (List.mem_cons_of_mem _ List.mem_cons_self) with e' | e'
      · exact absurd (e.trans e'.symm) nxy
      · subst e
        subst e'
        rw [decide_eq_true (p97.mp List.mem_cons_self), decide_eq_true (p98.mp (List.mem_cons_of_mem _ List.mem_cons_self))]
        rfl
    · rcases me y (List.mem_cons_of_mem _ List.mem_cons_self) with e' | e'
      · subst e
        subst e'
        exact absurd so (by decide)
      · exact absurd (e.trans e'.symm) nxy
  | x :: y :: z :: r, nd, so, me, _, _ =>
    obtain ⟨n1, n2⟩ := List.nodup_cons.mp nd
    obtain ⟨n3, _⟩ := List.nodup_cons.mp n2
    have nxy : x ≠ y := fun e => n1 (by rw [e]; exact List.mem_cons_self)
    have nxz : x ≠ z := fun e => n1 (by rw [e]; exact List.mem_cons_of_mem _ List.mem_cons_self)
    have nyz : y ≠ z := fun e => n3 (by rw [e]; exact List.mem_cons_self)
    have hx := me x List.mem_cons_self
    have hy := me y (List.mem_cons_of_mem _ List.mem_cons_self)
    have hz := me z (List.mem_cons_of_mem _ (List.mem_cons_of_mem _ List.mem_cons_self))
    rcases hx with e | e <;> rcases hy with e' | e' <;> rcases hz with e'' | e''
    all_goals first
      | exact absurd (e.trans e'.symm) nxy
      | exact absurd (e.trans e''.symm) nxz
      | exact absurd (e'.trans e''.symm) nyz
end JC

-- part E4
set_option Elab.async false
set_option linter.all false
set_option maxRecDepth 100000
/-! shortest_before -/
namespace JC
open PySem PySem.Spec PyProof.Rows L2 JB
abbrev nBefore : List Str := ["one", "other", "letters", "start", "edge", "seen", "goal", "word", "state", "later", "letter", "told"]
theorem scBefore : FnScope nBefore ["one", "other"] (defScope sBefore) := ⟨rfl, rfl, rfl, by decide +kernel, rfl, by decide +kernel, by decide +kernel⟩
def spBefore : Sp := fun vs H Q _ => ∃ (f g : List Nat) (r : V), vs = [.str (Tx f), .str (Tx g)] ∧ Flm f ∧ Flm g ∧ f.length ≤ 12 ∧ g.length ≤ 12 ∧ (∀ c ∈ f ++ g, c = 97 ∨ c = 98) ∧
  (if endsEq f g = true then ∃ w, r = VS w ∧ search f g = some w else r = .non) ∧ ∀ H', Same H H' → Q r H'
def key3 (s : Ste) : List Key := [Sum.inr (Tx [s.1]), Sum.inl (s.2.1 : Nat), Sum.inl (s.2.2 : Nat)]
theorem key3_inj {s t : Ste} : key3 s = key3 t ↔ s = t := by
  constructor
  · intro h
    obtain ⟨l, a, b⟩ := s
    obtain ⟨m, x, y⟩ := t
    injection h with h1 h2
    injection h2 with h2 h3
    injection h3 with h3 _
    have e1 : l = m := (List.cons.inj (tx_inj (Sum.inr.inj h1))).1
    have e2 := Sum.inl.inj h2
    have e3 := Sum.inl.inj h3
    have e2 : a = x := Int.ofNat.inj e2
    have e3 : b = y := Int.ofNat.inj e3
    rw [e1, e2, e3]
  · rintro rfl
    rfl
def encSeen (ss : List Ste) : List (List Key × V) := ss.map fun s => (key3 s, V.bl true)
theorem encSeen_val (t : Ste) : ∀ ss : List Ste, valV (encSeen ss) (key3 t) = bif ss.any (eqS · t) then some (V.bl true) else none
  | [] => rfl
  | s :: ss => by
    have ih := encSeen_val t ss
    by_cases e : s = t
    · have h1 : valV (encSeen (s :: ss)) (key3 t) = some (V.bl true) := valV_pos (p := (key3 s, V.bl true)) (key3_inj.mpr e)
      rw [h1, List.any_cons, eqS_eq, decide_eq_true e] <;> rfl
    · have h1 : valV (encSeen (s :: ss)) (key3 t) = valV (encSeen ss) (key3 t) := valV_neg (p := (key3 s, V.bl true)) (fun z => e (key3_inj.mp z))
      rw [h1, ih, List.any_cons, eqS_eq, decide_eq_false e, Bool.false_or]
theorem encSeen_put {ss : List Ste} {t : Ste} (h : ss.any (eqS · t) = false) : putK (encSeen ss) (key3 t) (V.bl true) = encSeen (ss ++ [t]) := by
  rw [putK_new _ (by rw [encSeen_val, h] <;> rfl)]
  unfold encSeen
  rw [List.map_append] <;> rfl
theorem encSeen_len (ss : List Ste) : (encSeen ss).length = ss.length := List.length_map _
/-- the letters as values -/
def LV (ls : List Nat) : List V := ls.map fun c => V.str (Tx [c])
/-- at the head of the while -/
def BW (K : PySem.W.Frag) (f g u : List Nat) (lL tS lS tG : Addr) (H0 : Hp) (m : Nat) (σ : L2.St) (H : Hp) : Prop := ∃ (lE : Addr) (vs : List V) (edge : List Ent) (seen : List Ste) (v7 v8 v9 v10 v11 : Option V),
  σ = [some (V.str (Tx f)), some (V.str (Tx g)), some (V.ref lL), some (V.ref tS), some (V.ref lE), some (V.ref lS), some (V.ref tG), v7, v8, v9, v10, v11] ∧ Same H0 H ∧ H lL = some (.lst (LV (lets f g))) ∧ H tG = some (.tup (steV (goalOf f g))) ∧
  H lS = some (.dT (encSeen seen)) ∧ H lE = some (.lst vs) ∧ EntsAt K H vs edge ∧ run f g (lets f g) (goalOf f g) m edge seen = some u
theorem lay_S {s : Ste} (h : s.1 < 1114112) : PyData.canLay0 (encS s) = true ∧ (encS s).depth ≤ 60 := by
  have q : PyData.canLay0 (.str (Tx [s.1])) = true := sm_ok (l := [s.1]) fun c hc => by rw [List.mem_singleton.mp hc]; exact h
  rw [PyData.canLay0] at q
  constructor
  · show PyData.canLay0 (.tuple [.str (Tx [s.1]), .int (s.2.1 : Nat), .int (s.2.2 : Nat)]) = true
    simp [PyData.canLay0, PyData.canLayAll0, q]
  · show PyData.depth (.tuple [.str (Tx [s.1]), .int (s.2.1 : Nat), .int (s.2.2 : Nat)]) ≤ 60
    simp [PyData.depth, PyData.depthAll]
theorem shaped_S {s : Ste} (h : s.1 < 1114112) : SeqAt.shaped (encS s) = true := by
  obtain ⟨a, b⟩ := lay_S h
  unfold SeqAt.shaped
  rw [Bool.and_eq_true]
  exact ⟨a, decide_eq_true (by omega)⟩
theorem okRun_iff {f g : List Nat} {edge : List Ent} {seen : List Ste} (h : okRun f g edge seen = true) : edge.length ≤ 1000 ∧ seen.length ≤ 1000 ∧ ∀ e ∈ edge, e.1.length ≤ 100 ∧ e.2.1 < 1000 ∧ e.2.2.1 < f.length ∧ e.2.2.2 < g.length := by
  unfold okRun at h
  rw [Bool.and_eq_true, Bool.and_eq_true, ble_iff, ble_iff, List.all_eq_true] at h
  refine ⟨of_decide_eq_true h.1, of_decide_eq_true h.2.1, fun e he => ?_⟩
  have q := h.2.2 e he
  unfold okEnt at q
  rw [Bool.and_eq_true, Bool.and_eq_true, Bool.and_eq_true, Bool.and_eq_true, ble_iff, blt_iff, blt_iff, blt_iff] at q
  exact ⟨of_decide_eq_true q.1, of_decide_eq_true q.2.2.1, of_decide_eq_true q.2.2.2.1, of_decide_eq_true q.2.2.2.2⟩
theorem run_ok {f g ls : List Nat} {goal : Ste} {m : Nat} {edge : List Ent} {seen : List Ste} {u : List Nat} (h : run f g ls goal m edge seen = some u) : ∃ n, m = n + 1 ∧ okRun f g edge seen = true ∧
    (bif edge.any (fun e => eqS e.2 goal) then minL ((edge.filter fun e => eqS e.2 goal).map (·.1)) else run f g ls goal n (isortE (stepA f g ls edge seen).2) (stepA f g ls edge seen).1) = some u := by
  cases m with
  | zero => cases h
  | succ n =>
    unfold run at h
    cases e : okRun f g edge seen with
    | false => rw [e] at h; cases h
    | true =>
      rw [e] at h
      exact ⟨n, rfl, rfl, h⟩
/-- what a step of the inner loops leaves -/
structure Kept (K : PySem.W.Frag) (lT : Addr) (H H' : Hp) : Prop where
  q : ∀ a xs, SqT K H a xs → SqT K H' a xs
  t : ∀ a xs, H a = some (.tup xs) → H' a = some (.tup xs)
  l : ∀ a xs, a ≠ lT → H a = some (.lst xs) → H' a = some (.lst xs)
theorem Kept.of {K : PySem.W.Frag} {lT : Addr} {H H' : Hp} (s : Same H H') : Kept K lT H H' := ⟨fun _ _ h => sqT_same h s, fun _ _ h => s _ _ h, fun _ _ _ h => s _ _ h⟩
theorem Kept.trans {K : PySem.W.Frag} {lT : Addr} {H H1 H2 : Hp} (a : Kept K lT H H1) (b : Kept K lT H1 H2) : Kept K lT H H2 := ⟨fun _ _ h => b.q _ _ (a.q _ _ h), fun _ _ h => b.t _ _ (a.t _ _ h), fun _ _ n h => b.l _ _ n (a.l _ _ n h)⟩
theorem Kept.dT {K : PySem.W.Frag} {lT lS : Addr} {H : Hp} {xs : List (List Key × V)} {o : HO} (h : H lS = some (.dT xs)) : Kept K lT H (upd H lS o) := ⟨fun _ _ q => sqT_upd q h noTup_dT, fun _ _ q => by
  rw [upd_ne (ne_of q h (fun z => by cases z))]
  exact q, fun _ _ _ q => by
  rw [upd_ne (ne_of q h (fun z => by cases z))]
  exact q⟩
theorem Kept.lst {K : PySem.W.Frag} {lT : Addr} {H : Hp} {xs : List V} {o : HO} (h : H lT = some (.lst xs)) : Kept K lT H (upd H lT o) := ⟨fun _ _ q => sqT_upd q h noTup_lst, fun _ _ q => by
  rw [upd_ne (ne_of q h (fun z => by cases z))]
  exact q, fun _ _ n q => by
  rw [upd_ne n]
  exact q⟩
theorem EntsAt.kept {K : PySem.W.Frag} {lT : Addr} {H H' : Hp} (k : Kept K lT H H') : ∀ {xs : List V} {es : List Ent}, EntsAt K H xs es → EntsAt K H' xs es
  | _, _, .nil => .nil
  | _, _, .cons ⟨T, t, a, b, c⟩ h => .cons ⟨T, t, a, k.q _ _ b, k.q _ _ c⟩ (h.kept k)
theorem TupsAt.kept {K : PySem.W.Frag} {lT : Addr} {H H' : Hp} (k : Kept K lT H H') : ∀ {xs : List Addr} {es : List Ste}, TupsAt H xs es → TupsAt H' xs es
  | _, _, .nil => .nil
  | _, _, .cons a h => .cons (k.t _ _ a) (h.kept k)
/-- between the turns of the inner loops -/
structure LI (K : PySem.W.Frag) (f g : List Nat) (p lE lS tG lT : Addr) (H0 : Hp) (vs : List V) (edge : List Ent) (acc : List Ste × List Ent) (H : Hp) : Prop where
  s : Same H0 H
  hL : H p = some (.lst (LV (lets f g)))
  hG : H tG = some (.tup (steV (goalOf f g)))
  hE : H lE = some (.lst vs)
  en : EntsAt K H vs edge
  hS : H lS = some (.dT (encSeen acc.1))
  hT : ∃ us, H lT = some (.lst us) ∧ EntsAt K H us acc.2
theorem LI.next {K : PySem.W.Frag} {f g : List Nat} {p lE lS tG lT : Addr} {H0 H H' : Hp} {vs : List V} {edge : List Ent} {acc acc' : List Ste × List Ent} (I : LI K f g p lE lS tG lT H0 vs edge acc H) (np : p ≠ lT) (nE : lE ≠ lT) (k : Kept K lT H H') (s : Same H0 H')
    (hS : H' lS = some (.dT (encSeen acc'.1))) (hT : ∃ us, H' lT = some (.lst us) ∧ EntsAt K H' us acc'.2) : LI K f g p lE lS tG lT H0 vs edge acc' H' := ⟨s, k.l _ _ np I.hL, k.t _ _ I.hG, k.l _ _ nE I.hE, I.en.kept k, hS, hT⟩
theorem LI.same {K : PySem.W.Frag} {f g : List Nat} {p lE lS tG lT : Addr} {H0 H H' : Hp} {vs : List V} {edge : List Ent} {acc : List Ste × List Ent} (I : LI K f g p lE lS tG lT H0 vs edge acc H) (s : Same H H') : LI K f g p lE lS tG lT H0 vs edge acc H' :=
  ⟨I.s.trans s, s _ _ I.hL, s _ _ I.hG, s _ _ I.hE, I.en.same s, s _ _ I.hS, let ⟨us, a, b⟩ := I.hT; ⟨us, s _ _ a, b.same s⟩⟩
theorem pairs_len (f g : List Nat) (s : Ste) (c : Nat) : (pairs f g s c).length ≤ 4 := by
  have h1 := adv_len f s.1 s.2.1 c
  have h2 := adv_len g s.1 s.2.2 c
  unfold pairs
  have : ∀ (l : List Nat), (l.flatMap fun a => (adv g s.1 s.2.2 c).map fun b => ((c, a, b) : Ste)).length ≤ l.length * 2 := fun l => by
    induction l with
    | nil => exact Nat.zero_le _
    | cons x l ih =>
      rw [List.flatMap_cons, List.length_append, List.length_map, List.length_cons]
      omega
  have := this (adv f s.1 s.2.1 c)
  omega
theorem lets_len (f g : List Nat) : (lets f g).length ≤ 2 := by
  unfold lets
  cases (f ++ g).any (Nat.beq 97 ·) <;> cases (f ++ g).any (Nat.beq 98 ·) <;> decide
theorem tk1 {α : Type} {l : List α} {i : Nat} {x : α} (h : l[i]? = some x) : l.take (i + 1) = l.take i ++ [x] := by
  rw [List.take_add_one, h]
  rfl
section
variable {P : Program} {w : World} {K : PySem.W.Frag} {mg : Str → Option Value} {base : Heap} {fn fs fp : Addr} {fdn fds fdp : FuncData}
theorem ok_before {fz : Addr} {fd : FuncData} (F : Fun K "shortest_before" "shortest_before" sBefore fz fd) (M : Gs mg) (N : Dn P w K mg base 1 "need_film" ["value"] spNeedFilm fn fdn) (S : Dn P w K mg base 1 "need_short" ["film", "most"] spNeedShort fs fds)
    (R : Dn P w K mg base 1 "pair_steps" ["one", "other", "state", "letter"] (spPair K) fp fdp) : FnOk P w K mg base CX0 2 fz fd ["one", "other"] spBefore := by
  refine F.ok scBefore (fun vs H Q E h => ?_) (fun cdv A outer s H vs Q E hr h => ?_)
  · obtain ⟨f, g, r, rfl, _⟩ := h
    rfl
  · obtain ⟨f, g, r, rfl, hf, hg, f12, g12, hl, hres, k⟩ := h
    have hu := hu_of hr
    obtain ⟨tg, mgo⟩ := M.goal
    have hu65 : (A.deeper (envOfC (Str.ofString "shortest_before") (defScope sBefore) s.heap.objs.size fz cdv)).units + 65 < cLine := by have := hr.un; omega
    refine ⟨_, pss_cons (ps_expr (pe_call N.ok hr rfl N.m N.kp N.b .nil pass0 (pa_cons (pv 0) pa_nil)))
      (pss_cons (ps_expr (pe_call N.ok hr rfl N.m N.kp N.b .nil pass0 (pa_cons (pv 1) pa_nil)))
      (pss_cons (ps_expr (pe_call S.ok hr rfl S.m S.kp S.b .nil pass0 (pa_cons (pv 0) (pa_cons (pe_glob (v := .int 12) rfl mgo ⟨_, rfl⟩) pa_nil))))
      (pss_cons (ps_expr (pe_call S.ok hr rfl S.m S.kp S.b .nil pass0 (pa_cons (pv 1) (pa_cons (pe_glob (v := .int 12) rfl mgo ⟨_, rfl⟩) pa_nil))))
      (pss_cons (ps_if (PW.pt (pw_or (pt_cmpR op_ne (pe_ix ix_str (pv 0) pe_int (fun _ _ => rfl)) (pe_ix ix_str (pv 1) pe_int (fun _ _ => rfl)) (nomark _)) (pw_or1 (pt_cmpR op_ne (pe_ix ix_str (pv 0) (pe_un un_neg pe_int) (fun _ _ => rfl)) (pe_ix ix_str (pv 1) (pe_un un_neg pe_int) (fun _ _ => rfl)) (nomark _)))))
        (pss_one (ps_ret pe_non)) pss_nil)
      (pss_cons (ps_set (i := 2) scBefore.nd rfl (.inl rfl) (pe_callB (cr_sortedTx rfl) (by rfl) M.sorted boot_sorted (pa_cons (pe_callTy (cr_setS rfl) (by rfl) M.set PyProof.Rows.boot_set (pa_cons (pe_op op_add_str (pv 0) (pv 1)) pa_nil)) pa_nil)))
      (pss_cons (ps_set (i := 3) scBefore.nd rfl (.inl rfl) (pe_tup (pa_cons (pe_ix ix_str (pv 0) pe_int (fun _ _ => rfl)) (pa_cons pe_int (pa_cons pe_int pa_nil)))))
      (pss_cons (ps_par (i := 4) (j := 5) rfl scBefore.nd rfl rfl (by decide) rfl rfl (pa_cons (pe_lst (pa_cons (pe_tup (pa_cons (pe_ix ix_str (pv 0) pe_int (fun _ _ => rfl)) (pa_cons (pv 3) pa_nil))) pa_nil)) (pa_cons (pe_disp1T hu (pv 3) pe_bl) pa_nil)) (by rfl))
      (pss_cons (ps_set (i := 6) scBefore.nd rfl (.inr rfl) (pe_tup (pa_cons (pe_ix ix_str (pv 0) (pe_un un_neg pe_int) (fun _ _ => rfl)) (pa_cons (pe_op op_sub (pe_callB call_len_str (by rfl) M.len PySem.boot_len (pa_cons (pv 0) pa_nil)) pe_int) (pa_cons (pe_op op_sub (pe_callB call_len_str (by rfl) M.len PySem.boot_len (pa_cons (pv 1) pa_nil)) pe_int) pa_nil)))))
      (pss_cons (ps_while PassesOwn.never (pt_cmpR (op_notInD hu65) (pv 6) (pe_lc (g := gTup K 2 (gCons (gName 7) (gCons (gName 8) gNil))) (own := [("word", 7), ("state", 8)]) (tt := tYes) rfl scBefore.nd (pi_list (pv 4)) (blkOk_by (own := [("word", 7), ("state", 8)]) (N := nBefore) (sc := defScope sBefore) (by decide +kernel))
            (fun _ _ _ _ _ => pg_tup rfl (pgs_cons (pg_name (i := 7) scBefore.nd rfl (Or.inl rfl)) (pgs_cons (pg_name (i := 8) scBefore.nd rfl (Or.inl rfl)) pgs_nil))) (fun _ _ _ _ _ => pts_nil) (fun _ _ _ _ _ => pv 8)) rfl)
        (pss_cons (ps_set (i := 9) scBefore.nd rfl (.inl rfl) (pe_lst pa_nil))
        (pss_cons (ps_for PassesOwn.never rfl (pi_list (pv 4)) (pg_tup rfl (pgs_cons (pg_name (i := 7) scBefore.nd rfl (.inl rfl)) (pgs_cons (pg_name (i := 8) scBefore.nd rfl (.inl rfl)) pgs_nil)))
          (pss_one (ps_for PassesOwn.never rfl (pi_list (pv 2)) (pg_name (i := 10) scBefore.nd rfl (.inl rfl))
            (pss_one (ps_for PassesOwn.never rfl (pi_list (pe_call R.ok hr rfl R.m R.kp R.b .nil pass0 (pa_cons (pv 0) (pa_cons (pv 1) (pa_cons (pv 8) (pa_cons (pv 10) pa_nil)))))) (pg_name (i := 11) scBefore.nd rfl (.inl rfl))
              (pss_one (ps_if (pt_cmp (pc_dnotin hu (pv 11) (pv 5)))
                (pss_cons (ps_dput hu (pv 5) (pv 11) pe_bl rfl)
                (pss_one (ps_expr (pe_bm PySem.F.plainAttrs_list PySem.F.slot_list_append PySem.F.type_list_append mt_append (pv 9) (pa_cons (pe_tup (pa_cons (pe_op op_add_str (pv 7) (pv 10)) (pa_cons (pv 11) pa_nil))) pa_nil))))) pss_nil)))))))
        (pss_one (ps_set (i := 4) scBefore.nd rfl (.inl rfl) (pe_callB (cr_sortedE (enc := encEn) hr.units) (by rfl) M.sorted boot_sorted (pa_cons (pv 9) pa_nil)))))))
      (pss_one (ps_ret (pe_callB (cr_minS rfl) (by rfl) M.min boot_min (pa_cons (pe_lc (g := gTup K 2 (gCons (gName 7) (gCons (gName 8) gNil))) (own := [("word", 7), ("state", 8)]) rfl scBefore.nd (pi_list (pv 4)) (blkOk_by (own := [("word", 7), ("state", 8)]) (N := nBefore) (sc := defScope sBefore) (by decide +kernel))
            (fun _ _ _ _ _ => pg_tup rfl (pgs_cons (pg_name (i := 7) scBefore.nd rfl (Or.inl rfl)) (pgs_cons (pg_name (i := 8) scBefore.nd rfl (Or.inl rfl)) pgs_nil))) (fun _ _ _ _ _ => pts_one (pt_cmpR (r := rEqD K) (op_eqD hr.units) (pv 8) (pv 6) (nomark _))) (fun _ _ _ _ _ => pv 7)) pa_nil))))))))))))), ?_⟩
    have f1 := hf.1
    have g1 := hg.1
    have fne := hf.ne
    have gne := hg.ne
    refine ⟨_, rfl, f, rfl, hf, fun H1 s1 => ⟨_, rfl, g, rfl, hg, fun H2 s2 => ?_⟩⟩
    refine ⟨_, rfl, f, _, rfl, by omega, by omega, _, rfl, g, _, rfl, by omega, by omega, ?_⟩
    have s12 : Same H H2 := s1.trans s2
    clear s1 s2 H1
    have xe : endsEq f g = (decide (at0 f 0 = at0 g 0) && decide (at0 f (f.length - 1) = at0 g (g.length - 1))) := by
      unfold endsEq
      rw [beq_iff, beq_iff]
    rw [xe] at hres
    refine ⟨_, rfl, _, _, _, rfl, rfl, tx_small (by omega), tx_at (i := 0) f1, _, rfl, _, _, _, rfl, rfl, tx_small (by omega), tx_at (i := 0) g1, rfl, _, rfl, ?_⟩
    rw [one_eq]
    by_cases e1 : at0 f 0 = at0 g 0
    · rw [decide_eq_true e1] at hres ⊢
      refine iteF ⟨_, rfl, _, rfl, _, _, _, rfl, rfl, tx_small (by omega), tx_last fne, _, rfl, _, rfl, _, _, _, rfl, rfl, tx_small (by omega), tx_last gne, rfl, _, rfl, ?_⟩
      rw [one_eq]
      by_cases e2 : at0 f (f.length - 1) = at0 g (g.length - 1)
      · rw [decide_eq_true e2] at hres ⊢
        rw [Bool.true_and, if_pos rfl] at hres
        obtain ⟨u, rfl, hu2⟩ := hres
        refine iteF ?_
        refine ⟨_, rfl, _, rfl, _, _, rfl, rfl, by rw [tx_len, tx_len, sizeLine_eq]; omega, _, rfl, ?_, fun a l na ll ml => ⟨a, l, rfl, upd_same, ?_, fun ys p nd pm so np => ?_⟩⟩
        · show (Tx f ++ Tx g).length < 1000
          rw [tx_add, tx_len, List.length_append]
          omega
        · have : l.length ≤ (Tx f ++ Tx g).length := ll
          rw [tx_add, tx_len, List.length_append] at this
          omega
        have eL : ys.map V.str = LV (lets f g) := lets_of hl nd pm so ml
        rw [eL]
        generalize hX : upd (upd H2 a (TxO _ _ a l)) p _ = H3
        have s3 : Same H H3 := by
          rw [← hX]
          exact s12.trans ((new_same na _).trans (new_same np _))
        have hL3 : H3 p = some (.lst (LV (lets f g))) := by
          rw [← hX]
          exact upd_same
        clear hX s12 eL np na ml ll pm so nd
        refine ⟨_, rfl, _, _, _, rfl, rfl, tx_small (by omega), tx_at (i := 0) f1, by show 3 ≤ sizeLine; decide, fun tS nS => ?_⟩
        have s4 := s3.trans (new_same nS (.tup (steV (startOf f))))
        have hL4 := new_same nS (.tup (steV (startOf f))) _ _ hL3
        have hS4 : (upd H3 tS (.tup (steV (startOf f)))) tS = some (.tup (steV (startOf f))) := upd_same
        generalize eH4 : (upd H3 tS (.tup (steV (startOf f)))) = H4 at s4 hL4 hS4
        have eH4' : (upd H3 tS (.tup [.str ⟨#[at0 f 0]⟩, .int 0, .int 0])) = H4 := eH4
        rw [eH4']
        clear eH4 eH4' s3 hL3 nS
        refine ⟨_, rfl, _, _, _, rfl, rfl, tx_small (by omega), tx_at (i := 0) f1, _, rfl, by show 2 ≤ sizeLine; decide, fun T0 nT0 => ⟨by show 1 ≤ sizeLine; decide, fun lE nE => ?_⟩⟩
        intro lS nlS
        have s5 := new_same nT0 (.tup [.str ⟨#[at0 f 0]⟩, .ref tS])
        have s6 := s5.trans (new_same nE (.lst [.ref T0]))
        have hT6 : (upd (upd H4 T0 (.tup [.str ⟨#[at0 f 0]⟩, .ref tS])) lE (.lst [.ref T0])) T0 = some (.tup [.str ⟨#[at0 f 0]⟩, .ref tS]) := new_same nE _ _ _ upd_same
        have hE6 : (upd (upd H4 T0 (.tup [.str ⟨#[at0 f 0]⟩, .ref tS])) lE (.lst [.ref T0])) lE = some (.lst [.ref T0]) := upd_same
        generalize (upd (upd H4 T0 (.tup [.str ⟨#[at0 f 0]⟩, .ref tS])) lE (.lst [.ref T0])) = H6 at s6 hT6 hE6 nlS ⊢
        clear s5 nE nT0
        have s7 := new_same nlS (.dT [])
        refine ⟨_, rfl, upd_same, tS, key3 (startOf f), rfl, s7 _ _ (s6 _ _ hS4), _, _, rfl, ?_⟩
        have s8 : Same H6 (upd (upd H6 lS (.dT [])) lS (.dT [(key3 (startOf f), .bl true)])) := same_put s7 nlS
        have hlS8 : (upd (upd H6 lS (.dT [])) lS (.dT [(key3 (startOf f), .bl true)])) lS = some (.dT (encSeen [startOf f])) := upd_same
        generalize (upd (upd H6 lS (.dT [])) lS (.dT [(key3 (startOf f), .bl true)])) = H8 at s8 hlS8 ⊢
        have nlH : H lS = none := s4.free (s6.free nlS)
        have s9 := s4.trans (s6.trans s8)
        have hL8 := s8 _ _ (s6 _ _ hL4)
        have hE8 := s8 _ _ hE6
        have en8 : EntsAt K H8 [.ref T0] [([at0 f 0], startOf f)] := .cons ⟨T0, tS, rfl, .inl (.inl (s8 _ _ hT6)), .inl (.inl (s8 _ _ (s6 _ _ hS4)))⟩ .nil
        clear s8 s7 s6 s4 hT6 hE6 nlS hS4 hL4
        refine ⟨_, rfl, _, rfl, _, _, _, rfl, rfl, tx_small (by omega), tx_last fne, _, rfl, _, rfl, tx_small (by omega), _, _, rfl, rfl, _, rfl, _, rfl, tx_small (by omega), _, _, rfl, rfl, by show 3 ≤ sizeLine; decide, fun tG nG => ?_⟩
        have i1 : ((f.length : Nat) : Int) - 1 = ((f.length - 1 : Nat) : Int) := by omega
        have i2 : ((g.length : Nat) : Int) - 1 = ((g.length - 1 : Nat) : Int) := by omega
        generalize hX : upd _ tG _ = H9
        have s10 : Same H8 H9 := by
          rw [← hX]
          exact new_same nG _
        have hG9 : H9 tG = some (.tup (steV (goalOf f g))) := by
          rw [← hX, upd_same]
          show some (HO.tup [.str (Tx [at0 f (f.length - 1)]), .int (((Tx f).length : Nat) - 1), .int (((Tx g).length : Nat) - 1)]) = _
          rw [tx_len, tx_len, i1, i2]
          rfl
        clear hX
        refine ⟨BW K f g u p tS lS tG H, ⟨10, lE, [.ref T0], [([at0 f 0], startOf f)], [startOf f], _, _, _, _, _, rfl, s9.trans s10, s10 _ _ hL8, hG9, s10 _ _ hlS8, s10 _ _ hE8, en8.same s10, hu2⟩, ?_⟩
        clear s10 hG9 i1 i2 en8 hE8 hL8 s9 hlS8 nG H9 H8 H6 H4 H3 H2 hu2
        rintro m σ Hc ⟨lE, vs, edge, seen, v7, v8, v9, v10, v11, rfl, s6, hL, hG, hS, hE, en, rn⟩
        obtain ⟨n, rfl, ok, rn⟩ := run_ok rn
        obtain ⟨el, sl, eo⟩ := okRun_iff ok
        have ev : vs.length = edge.length := en.len
        have gl : (goalOf f g).1 < 1114112 := by
          have : at0 f (f.length - 1) = 97 ∨ at0 f (f.length - 1) = 98 := hl _ (List.mem_append_left _ (at0_mem (by omega)))
          show at0 f (f.length - 1) < 1114112
          omega
        refine ⟨_, rfl, _, rfl, lE, rfl, ⟨_, SqL.of hE⟩, fun D nD => it_list (xs := vs) (fun i H' => Same Hc H' ∧ ∃ ys, H' D = some (.lst ys) ∧ ys.length = i ∧ DpAll K Hc ys ((edge.take i).map fun e => encS e.2)) ⟨new_same nD _, [], upd_same, rfl, .nil⟩ (fun i H' _ h => SqL.of (h.1 _ _ hE)) ?_ ?_⟩
        · rintro i x H3 hx ⟨s3, ys, hD, ly, dy⟩
          obtain ⟨e, he, T, t, rfl, hT, ht⟩ := en.at hx
          have il : i < edge.length := (List.getElem?_eq_some_iff.mp he).1
          refine ⟨T, _, rfl, sqT_same hT s3, rfl, _, _, rfl, _, _, rfl, rfl, rfl, _, rfl, ys, hD, by rw [sizeLine_eq]; omega, same_put s3 nD, ys ++ [.ref t], upd_same, by rw [List.length_append, ly] <;> rfl, ?_⟩
          rw [tk1 he, List.map_append]
          exact dpAll_app dy (.cons (.tup ht (steV_dp _)) .nil)
        · rintro H3 ⟨s3, ys, hD, ly, dy⟩
          rw [ev, List.take_length] at dy
          refine ⟨encS (goalOf f g), edge.map (fun e : Ent => encS e.2), .tup (.inl (.inl (s3 _ _ hG))) (steV_dp _), .lst (SqL.of hD) (dpAll_same s3 dy), shaped_S gl, ?_, _, rfl, ?_⟩
          · have q := shaped_list (enc := fun e : Ent => encS e.2) (es := edge) fun e he => lay_S (by have := (eo e he).2.1; omega)
            exact q
          have ea : ((edge.map fun e => encS e.2).any fun z => PyData.eqv z (encS (goalOf f g))) = edge.any fun e => eqS e.2 (goalOf f g) := by
            rw [List.any_map]
            refine congrArg _ (funext fun e => ?_)
            exact eqv_S _ _
          rw [ea]
          have hE3 := s3 _ _ hE
          have hS3 := s3 _ _ hS
          have hL3 := s3 _ _ hL
          have hG3 := s3 _ _ hG
          have en3 := en.same s3
          have s63 := s6.trans s3
          clear hD ly dy s3 en hE hS hL hG s6 nD
          cases hc : edge.any fun e => eqS e.2 (goalOf f g) with
          | true =>
            rw [hc] at rn
            replace rn : minL ((edge.filter fun e => eqS e.2 (goalOf f g)).map (·.1)) = some u := rn
            refine iteF ?_
            refine ⟨_, rfl, lE, rfl, ⟨_, SqL.of hE3⟩, fun D2 nD2 => it_list (xs := vs) (fun i H' => Same H3 H' ∧ H' D2 = some (.lst (((edge.take i).filter fun e => eqS e.2 (goalOf f g)).map fun e => VS e.1))) ⟨new_same nD2 _, upd_same⟩ (fun i H' _ h => SqL.of (h.1 _ _ hE3)) ?_ ?_⟩
            · rintro i x H4 hx ⟨s4, hD⟩
              obtain ⟨e, he, T, t, rfl, hT, ht⟩ := en3.at hx
              have il : i < edge.length := (List.getElem?_eq_some_iff.mp he).1
              have lf : ((edge.take i).filter fun e => eqS e.2 (goalOf f g)).length ≤ 1000 := by
                have := List.length_filter_le (fun e : Ent => eqS e.2 (goalOf f g)) (edge.take i)
                rw [List.length_take] at this
                omega
              refine ⟨T, _, rfl, sqT_same hT s4, rfl, _, _, rfl, _, _, rfl, rfl, rfl, _, rfl, _, rfl, encS e.2, encS (goalOf f g), .tup (sqT_same ht s4) (steV_dp _), .tup (.inl (.inl (s4 _ _ hG3))) (steV_dp _), shaped_S (by have := (eo e (List.mem_of_getElem? he)).2.1; omega), shaped_S gl, _, rfl, ?_⟩
              rw [eqv_S]
              rw [tk1 he, List.filter_append]
              cases hq : eqS e.2 (goalOf f g) with
              | false =>
                refine iteF ⟨s4, ?_⟩
                rw [List.filter_cons_of_neg (by rw [hq]; decide), List.filter_nil, List.append_nil]
                exact hD
              | true =>
                refine iteT ⟨_, rfl, _, hD, by rw [List.length_map, sizeLine_eq]; omega, same_put s4 nD2, ?_⟩
                rw [upd_same, List.filter_cons_of_pos (by rw [hq]), List.filter_nil, List.map_append]
                rfl
            · rintro H4 ⟨s4, hD⟩
              rw [ev, List.take_length] at hD
              have um := (minL_some rn).1
              refine ⟨D2, ((edge.filter fun e => eqS e.2 (goalOf f g)).map (·.1)).map Tx, rfl, SqL.of ?_, ?_, fun mm hm hle => ?_⟩
              · rw [hD, List.map_map, List.map_map]
                rfl
              · rw [List.length_map]
                exact List.length_pos_of_mem um
              · obtain ⟨n', hn', rfl⟩ := List.mem_map.mp hm
                have e := min_uniq rn hn' (fun y hy => hle (Tx y) (List.mem_map_of_mem hy))
                rw [e]
                exact k _ (s63.trans s4)
          | false =>
            rw [hc] at rn
            replace rn : run f g (lets f g) (goalOf f g) n (isortE (stepA f g (lets f g) edge seen).2) (stepA f g (lets f g) edge seen).1 = some u := rn
            refine iteT ⟨fun σ' H' => ∃ m', m' < n + 1 ∧ BW K f g u p tS lS tG H m' σ' H', fun _ _ h => h, ?_⟩
            refine ⟨Nat.zero_le _, fun lT nT => ?_⟩
            have npT : p ≠ lT := ne_of_none hL3 nT
            have nET : lE ≠ lT := ne_of_none hE3 nT
            have nST : lS ≠ lT := ne_of_none hS3 nT
            have nTH : H lT = none := s63.free nT
            have s4 := new_same nT (.lst [])
            refine ⟨_, rfl, lE, rfl, ⟨_, SqL.of (s4 _ _ hE3)⟩, ?_⟩
            refine for_list (xs := vs) (fun i σ H' => ∃ v7 v8 v10 v11, σ = [some (V.str (Tx f)), some (V.str (Tx g)), some (V.ref p), some (V.ref tS), some (V.ref lE), some (V.ref lS), some (V.ref tG), v7, v8, some (V.ref lT), v10, v11] ∧
              ∃ acc, acc = (edge.take i).foldl (stepE f g (lets f g)) (seen, []) ∧ LI K f g p lE lS tG lT H vs edge acc H' ∧ acc.1.length ≤ 1000 + 8 * i ∧ acc.2.length ≤ 1000 + 8 * i)
              ⟨v7, v8, v10, v11, rfl, _, rfl, ⟨s63.trans s4, s4 _ _ hL3, s4 _ _ hG3, s4 _ _ hE3, en3.same s4, s4 _ _ hS3, [], upd_same, .nil⟩, by show seen.length ≤ _; omega, Nat.zero_le _⟩ (fun i σ H' _ ⟨_, _, _, _, _, _, _, I, _⟩ => SqL.of I.hE) ?_ ?_
            · clear s4 hL3 hG3 hE3 hS3 en3 s63 nT H3 v7 v8 v9 v10 v11
              rintro i x σ H3 hx ⟨v7, v8, v10, v11, rfl, acc, eacc, I, l1, l2⟩
              obtain ⟨e, he, T, t, rfl, hT, ht⟩ := I.en.at hx
              have il : i < edge.length := (List.getElem?_eq_some_iff.mp he).1
              obtain ⟨q1, q2, q3, q4⟩ := eo e (List.mem_of_getElem? he)
              refine ⟨T, _, rfl, hT, rfl, _, _, rfl, _, _, rfl, rfl, ?_⟩
              refine ⟨_, rfl, p, rfl, ⟨_, SqL.of I.hL⟩, ?_⟩
              refine for_list (xs := LV (lets f g)) (fun j σ H' => ∃ v10 v11, σ = [some (V.str (Tx f)), some (V.str (Tx g)), some (V.ref p), some (V.ref tS), some (V.ref lE), some (V.ref lS), some (V.ref tG), some (VS e.1), some (V.ref t), some (V.ref lT), v10, v11] ∧
                ∃ acc', acc' = ((lets f g).take j).foldl (stepL f g e) acc ∧ LI K f g p lE lS tG lT H vs edge acc' H' ∧ acc'.1.length ≤ 1000 + 8 * i + 4 * j ∧ acc'.2.length ≤ 1000 + 8 * i + 4 * j ∧ SqT K H' t (steV e.2))
                ⟨v10, v11, rfl, _, rfl, I, by show acc.1.length ≤ _; omega, by show acc.2.length ≤ _; omega, ht⟩ (fun i σ H' _ ⟨_, _, _, _, _, I, _⟩ => SqL.of I.hL) ?_ ?_
              · clear I l1 l2 ht hT hx H3 v10 v11 v7 v8
                rintro j x σ H3 hx ⟨v10, v11, rfl, acc', eacc', I, l1, l2, ht⟩
                obtain ⟨c, hc2, rfl⟩ : ∃ c, (lets f g)[j]? = some c ∧ x = V.str (Tx [c]) := by
                  unfold LV at hx
                  rw [List.getElem?_map] at hx
                  cases e : (lets f g)[j]? with
                  | none => rw [e] at hx; cases hx
                  | some a => rw [e] at hx; exact ⟨a, rfl, (Option.some.inj hx).symm⟩
                have jl : j < (lets f g).length := (List.getElem?_eq_some_iff.mp hc2).1
                have ll := lets_len f g
                have pl := pairs_len f g e.2 c
                refine ⟨_, rfl, _, rfl, _, rfl, _, rfl, f, g, e.2, c, t, rfl, by omega, by omega, q3, q4, ht, fun H5 q ts s5 nq hq tt => ⟨q, rfl, ⟨_, SqL.of hq⟩, ?_⟩⟩
                have I5 := I.same s5
                obtain ⟨us0, hus0, _⟩ := I.hT
                have nqT : q ≠ lT := fun e => by
                  rw [e] at nq
                  rw [nq] at hus0
                  cases hus0
                refine for_list (xs := ts.map V.ref) (fun k σ H' => ∃ v11, σ = [some (V.str (Tx f)), some (V.str (Tx g)), some (V.ref p), some (V.ref tS), some (V.ref lE), some (V.ref lS), some (V.ref tG), some (VS e.1), some (V.ref t), some (V.ref lT), some (V.str (Tx [c])), v11] ∧
                  ∃ acc'', acc'' = ((pairs f g e.2 c).take k).foldl (put1 e.1 c) acc' ∧ LI K f g p lE lS tG lT H vs edge acc'' H' ∧ acc''.1.length ≤ 1000 + 8 * i + 4 * j + k ∧ acc''.2.length ≤ 1000 + 8 * i + 4 * j + k ∧ SqT K H' t (steV e.2) ∧ H' q = some (.lst (ts.map V.ref)) ∧ TupsAt H' ts (pairs f g e.2 c))
                  ⟨v11, rfl, _, rfl, I5, by show acc'.1.length ≤ _; omega, by show acc'.2.length ≤ _; omega, sqT_same ht s5, hq, tt⟩ (fun i σ H' _ ⟨_, _, _, _, _, _, _, _, h, _⟩ => SqL.of h) ?_ ?_
                · clear I5 I l1 l2 ht hq tt s5 nq hx
                  rintro k' x σ H7 hx ⟨v11, rfl, acc'', eacc'', I, l1, l2, ht, hq, tt⟩
                  obtain ⟨a, ha, rfl⟩ : ∃ c, ts[k']? = some c ∧ x = V.ref c := by
                    rw [List.getElem?_map] at hx
                    cases e : ts[k']? with
                    | none => rw [e] at hx; cases hx
                    | some a => rw [e] at hx; exact ⟨a, rfl, (Option.some.inj hx).symm⟩
                  obtain ⟨s', hs', hat⟩ := tt.at ha
                  have kl : k' < (pairs f g e.2 c).length := (List.getElem?_eq_some_iff.mp hs').1
                  refine ⟨_, rfl, _, rfl, lS, _, rfl, DGet.t (k := key3 s') I.hS hat, _, rfl, ?_⟩
                  rw [encSeen_val]
                  cases hany : acc''.1.any (eqS · s') with
                  | true =>
                    refine iteF ⟨_, rfl, acc'', ?_, I, by omega, by omega, ht, hq, tt⟩
                    rw [tk1 hs', List.foldl_append, ← eacc'']
                    show acc'' = put1 e.1 c acc'' s'
                    unfold put1
                    rw [hany] <;> rfl
                  | false =>
                    have ep : put1 e.1 c acc'' s' = (acc''.1 ++ [s'], acc''.2 ++ [(e.1 ++ [c], s')]) := by
                      unfold put1
                      rw [hany] <;> rfl
                    refine iteT ⟨_, rfl, _, rfl, lS, _, rfl, DPut.t (k := key3 s') I.hS hat (by rw [encSeen_len, sizeLine_eq]; omega), ?_⟩
                    rw [encSeen_put hany]
                    obtain ⟨us, hus, eus⟩ := I.hT
                    have k1 : Kept K lT H7 (upd H7 lS (.dT (encSeen (acc''.1 ++ [s'])))) := Kept.dT I.hS
                    have s8 : Same H (upd H7 lS (.dT (encSeen (acc''.1 ++ [s'])))) := same_put I.s nlH
                    have hS8 : (upd H7 lS (.dT (encSeen (acc''.1 ++ [s'])))) lS = some (.dT (encSeen (acc''.1 ++ [s']))) := upd_same
                    have hus8 : (upd H7 lS (.dT (encSeen (acc''.1 ++ [s'])))) lT = some (.lst us) := by
                      rw [upd_ne (Ne.symm nST)]
                      exact hus
                    have eus8 := eus.kept k1
                    have lu := eus.len
                    generalize (upd H7 lS (.dT (encSeen (acc''.1 ++ [s'])))) = H8 at k1 s8 hS8 hus8 eus8 ⊢
                    have wl : (Tx e.1).length + (Tx [c]).length ≤ sizeLine := by
                      rw [tx_len, tx_len, sizeLine_eq]
                      show e.1.length + 1 ≤ _
                      omega
                    refine ⟨_, rfl, .inl ⟨rfl, _, SqL.of hus8⟩, _, rfl, _, rfl, _, _, rfl, rfl, wl, _, rfl, by show 2 ≤ sizeLine; decide, fun T nT => ?_⟩
                    rw [tx_add]
                    have s9 : Same H8 (upd H8 T (.tup [.str (Tx (e.1 ++ [c])), .ref a])) := new_same nT _
                    have hT9 : (upd H8 T (.tup [.str (Tx (e.1 ++ [c])), .ref a])) T = some (.tup [.str (Tx (e.1 ++ [c])), .ref a]) := upd_same
                    generalize (upd H8 T (.tup [.str (Tx (e.1 ++ [c])), .ref a])) = H9 at s9 hT9 ⊢
                    have k2 : Kept K lT H7 H9 := k1.trans (Kept.of s9)
                    have hus9 := s9 _ _ hus8
                    have en9 : EntsAt K H9 (us ++ [.ref T]) (acc''.2 ++ [(e.1 ++ [c], s')]) := (eus8.same s9).snoc ⟨T, a, rfl, .inl (.inl hT9), .inl (.inl (k2.t _ _ hat))⟩
                    refine ⟨lT, _, _, rfl, rfl, hus9, by rw [sizeLine_eq]; omega, ?_⟩
                    have k3 : Kept K lT H9 (upd H9 lT (.lst (us ++ [.ref T]))) := Kept.lst hus9
                    have k4 := k2.trans k3
                    refine ⟨_, rfl, (acc''.1 ++ [s'], acc''.2 ++ [(e.1 ++ [c], s')]), ?_, I.next npT nET k4 (same_put (s8.trans s9) nTH) ?_ ⟨_, upd_same, en9.kept k3⟩, ?_, ?_, k4.q _ _ ht, k4.l _ _ nqT hq, tt.kept k4⟩
                    · rw [tk1 hs', List.foldl_append, ← eacc'']
                      exact ep.symm
                    · rw [upd_ne nST]
                      exact s9 _ _ hS8
                    · show (acc''.1 ++ [s']).length ≤ _
                      rw [List.length_append, List.length_singleton]
                      omega
                    · show (acc''.2 ++ [(e.1 ++ [c], s')]).length ≤ _
                      rw [List.length_append, List.length_singleton]
                      omega
                · rintro σ H' ⟨v11, rfl, acc'', eacc'', I, l1, l2, ht, hq, tt⟩
                  have tl := tt.len
                  rw [List.length_map, tl] at eacc'' l1 l2
                  rw [List.take_length] at eacc''
                  refine ⟨_, _, rfl, acc'', ?_, I, by omega, by omega, ht⟩
                  rw [tk1 hc2, List.foldl_append, ← eacc']
                  exact eacc''
              · clear I l1 l2 ht hT hx H3 v10 v11 v7 v8
                rintro σ H' ⟨v10, v11, rfl, acc', eacc', I, l1, l2, _⟩
                have lv : (LV (lets f g)).length = (lets f g).length := List.length_map _
                have ll := lets_len f g
                rw [lv] at eacc' l1 l2
                rw [List.take_length] at eacc'
                refine ⟨_, _, _, _, rfl, acc', ?_, I, by omega, by omega⟩
                rw [tk1 he, List.foldl_append, ← eacc]
                exact eacc'
            · clear s4 hL3 hG3 hE3 hS3 en3 s63 nT H3 v7 v8 v9 v10 v11
              rintro σ H3 ⟨v7, v8, v10, v11, rfl, acc, eacc, I, l1, l2⟩
              rw [ev, List.take_length] at eacc
              replace eacc : acc = stepA f g (lets f g) edge seen := eacc
              obtain ⟨us, hus, eus⟩ := I.hT
              refine ⟨_, rfl, lT, us, acc.2, rfl, SqL.of hus, eus.dp, PySem.W.AllAlike.of fun b b' => ?_, PySem.W.Sortable.tuples fun b => ⟨_, _, rfl⟩, fun b _ => ?_, fun ys r ly dy _ nr => ?_⟩
              · show PySem.W.alike (.tuple [.str (Tx b.1), encS b.2]) (.tuple [.str (Tx b'.1), encS b'.2]) = true
                have := al_S b.2 b'.2
                simp [PySem.W.alike, PySem.W.alikeAll, this]
              · show PyData.depth (.tuple [.str (Tx b.1), encS b.2]) ≤ 8
                simp [PyData.depth, PyData.depthAll, encS]
              · rw [le_E, srtE] at dy
                have s9 := new_same nr (.lst ys)
                refine ⟨n, by omega, r, ys, isortE acc.2, acc.1, _, _, _, _, _, rfl, I.s.trans s9, s9 _ _ I.hL, s9 _ _ I.hG, s9 _ _ I.hS, upd_same, (EntsAt.of dy).same s9, ?_⟩
                rw [eacc]
                exact rn
      · rw [decide_eq_false e2] at hres ⊢
        rw [Bool.and_false, if_neg (by decide)] at hres
        subst hres
        exact iteT (k _ s12)
    · rw [decide_eq_false e1] at hres ⊢
      rw [Bool.false_and, if_neg (by decide)] at hres
      subst hres
      exact iteT (iteT (k _ s12))
end
end JC

-- part E5
set_option Elab.async false
set_option linter.all false
set_option maxRecDepth 100000
/-! _law_partings -/
namespace JC
open PySem PySem.Spec PyProof.Rows L2 JB
theorem scParts : FnScope ["_law_film_here", "_law_goal", "_law_found", "_law_letter", "_law_later", "_law_told", "_law_start", "_law_place"] ["_law_film_here", "_law_goal"] (defScope sParts) := ⟨rfl, rfl, rfl, by decide +kernel, rfl, by decide +kernel, by decide +kernel⟩
abbrev nParts : List Str := ["_law_film_here", "_law_goal", "_law_found", "_law_letter", "_law_later", "_law_told", "_law_start", "_law_place"]
/-- x stands for a parting begun -/
def PAt (K : PySem.W.Frag) (H : Hp) (x : V) (e : PEnt) : Prop := ∃ T t, x = .ref T ∧ SqT K H T [.ref t, NI e.2] ∧ SqT K H t (e.1.map NI)
inductive PsAt (K : PySem.W.Frag) (H : Hp) : List V → List PEnt → Prop
  | nil : PsAt K H [] []
  | cons {x : V} {e : PEnt} {xs : List V} {es : List PEnt} : PAt K H x e → PsAt K H xs es → PsAt K H (x :: xs) (e :: es)
section
variable {K : PySem.W.Frag} {H H' : Hp}
theorem PsAt.same (s : Same H H') : ∀ {xs : List V} {es : List PEnt}, PsAt K H xs es → PsAt K H' xs es
  | _, _, .nil => .nil
  | _, _, .cons ⟨T, t, a, b, c⟩ h => .cons ⟨T, t, a, sqT_same b s, sqT_same c s⟩ (h.same s)
theorem PsAt.upd {b : Addr} {o o' : HO} (hb : H b = some o) (n : NoTup o) : ∀ {xs : List V} {es : List PEnt}, PsAt K H xs es → PsAt K (L2.upd H b o') xs es
  | _, _, .nil => .nil
  | _, _, .cons ⟨T, t, a, x, y⟩ h => .cons ⟨T, t, a, sqT_upd x hb n, sqT_upd y hb n⟩ (h.upd hb n)
theorem PsAt.snoc {x : V} {e : PEnt} (h : PAt K H x e) : ∀ {xs : List V} {es : List PEnt}, PsAt K H xs es → PsAt K H (xs ++ [x]) (es ++ [e])
  | _, _, .nil => .cons h .nil
  | _, _, .cons h' t => .cons h' (t.snoc h)
theorem PsAt.len : ∀ {xs : List V} {es : List PEnt}, PsAt K H xs es → xs.length = es.length
  | _, _, .nil => rfl
  | _, _, .cons _ t => by rw [List.length_cons, List.length_cons, t.len]
theorem PsAt.at : ∀ {xs : List V} {es : List PEnt} {i : Nat} {x : V}, PsAt K H xs es → xs[i]? = some x → ∃ e, es[i]? = some e ∧ PAt K H x e
  | _, _, i, a, .nil, h => by simp at h
  | _, _, 0, a, .cons h' t, h => by
    simp at h
    subst h
    exact ⟨_, rfl, h'⟩
  | _, _, i + 1, a, .cons h' t, h => by
    simp at h
    obtain ⟨s, h1, h2⟩ := t.at h
    exact ⟨s, by simpa using h1, h2⟩
end
def encP (l : List Nat) : PyData := .tuple (l.map fun a => .int (a : Nat))
theorem NI_dp {K : PySem.W.Frag} {H : Hp} : ∀ l : List Nat, DpAll K H (l.map NI) (l.map fun a => PyData.int (a : Nat))
  | [] => .nil
  | a :: l => .cons (.int _) (NI_dp l)
theorem lay_ints : ∀ l : List Nat, PyData.canLayAll0 (l.map fun a => PyData.int (a : Nat)) = true
  | [] => by simp [PyData.canLayAll0]
  | a :: l => by
    have ih := lay_ints l
    rw [List.map_cons]
    simp [PyData.canLayAll0, PyData.canLay0, ih]
theorem depth_nats : ∀ l : List Nat, PyData.depthAll (l.map fun a => PyData.int (a : Nat)) = 0
  | [] => by simp [PyData.depthAll]
  | a :: l => by
    have ih := depth_nats l
    rw [List.map_cons]
    simp [PyData.depthAll, PyData.depth, ih]
theorem lay_P (l : List Nat) : PyData.canLay0 (encP l) = true ∧ (encP l).depth ≤ 1 := by
  unfold encP
  rw [PyData.canLay0, PyData.depth, depth_nats]
  exact ⟨lay_ints l, by omega⟩
theorem alike_nats : ∀ l m : List Nat, PySem.W.alikeAll (l.map fun a => PyData.int (a : Nat)) (m.map fun a => PyData.int (a : Nat)) = true
  | [], _ => by simp [PySem.W.alikeAll]
  | _ :: _, [] => by simp [PySem.W.alikeAll]
  | x :: xs, y :: ys => by
    have ih := alike_nats xs ys
    rw [List.map_cons, List.map_cons, PySem.W.alikeAll, ih]
    simp [PySem.W.alike]
theorem one_at (c d : Nat) : decide (V.str (⟨#[c]⟩ : Str) = V.str (⟨#[d]⟩ : Str)) = decide (c = d) := one_eq c d
def spParts (K : PySem.W.Frag) : Sp := fun vs H Q _ => ∃ w g : List Nat, vs = [.str (Tx w), .str (Tx g)] ∧ w.length ≤ 8 ∧ 1 ≤ g.length ∧ g.length ≤ 4 ∧
  ∀ H' p ys ds, Same H H' → H p = none → H' p = some (.lst ys) → DpAll K H' ys ds → SeqAt.shaped (.list ds) = true → ds.isEmpty = (!prt g w) → Q (.ref p) H'
section
variable {P : Program} {w : World} {K : PySem.W.Frag} {mg : Str → Option Value} {base : Heap}
theorem ok_parts {f : Addr} {fd : FuncData} (F : Fun K "_law_partings" "_law_partings" sParts f fd) (M : Gs mg) : FnOk P w K mg base CX0 1 f fd ["_law_film_here", "_law_goal"] (spParts K) := by
  refine F.ok scParts (fun vs H Q E h => ?_) (fun cdv A outer s H vs Q E hr h => ?_)
  · obtain ⟨w, g, rfl, _⟩ := h
    rfl
  · obtain ⟨w, g, rfl, hw, g1, g4, k⟩ := h
    have hu := hu_of hr
    refine ⟨_, pss_cons (ps_set (i := 2) scParts.nd rfl (.inl rfl) (pe_lst (pa_cons (pe_tup (pa_cons (pe_tup pa_nil) (pa_cons pe_int pa_nil))) pa_nil)))
      (pss_cons (ps_for PassesOwn.never rfl (pi_str (pv 1)) (pg_name (i := 3) scParts.nd rfl (.inl rfl))
        (pss_cons (ps_set (i := 4) scParts.nd rfl (.inl rfl) (pe_lst pa_nil))
        (pss_cons (ps_for PassesOwn.never rfl (pi_list (pv 2)) (pg_tup rfl (pgs_cons (pg_name (i := 5) scParts.nd rfl (.inl rfl)) (pgs_cons (pg_name (i := 6) scParts.nd rfl (.inl rfl)) pgs_nil)))
          (pss_one (ps_if (PW.pt (pw_and (pt_cmpR op_lt (pv 6) (pe_callB call_len_str (by rfl) M.len PySem.boot_len (pa_cons (pv 0) pa_nil)) (nomark _)) (pw_and1 (pt_cmpR op_eq (pe_ix ix_str (pv 0) (pv 6) (fun _ _ => rfl)) (pv 3) (nomark _)))))
            (pss_one (ps_for PassesOwn.never rfl (pi_range2 rfl M.range (pa_cons (pv 6) (pa_cons (pe_callB call_len_str (by rfl) M.len PySem.boot_len (pa_cons (pv 0) pa_nil)) pa_nil))) (pg_name (i := 7) scParts.nd rfl (.inl rfl))
              (pss_one (ps_if (pt_cmpR op_eq (pe_ix ix_str (pv 0) (pv 7) (fun _ _ => rfl)) (pv 3) (nomark _))
                (pss_one (ps_expr (pe_bm PySem.F.plainAttrs_list PySem.F.slot_list_append PySem.F.type_list_append mt_append (pv 4) (pa_cons (pe_tup (pa_cons (pe_md (pe_op op_catA (pv 5) (pe_tup (pa_cons (pv 7) pa_nil)))) (pa_cons (pe_op op_add (pv 7) pe_int) pa_nil))) pa_nil)))) pss_nil)))) pss_nil)))
        (pss_one (ps_set (i := 2) scParts.nd rfl (.inl rfl) (pv 4))))))
      (pss_one (ps_ret (pe_callB (cr_sortedE (enc := encP) hr.units) (by rfl) M.sorted boot_sorted (pa_cons (pe_lc (g := gTup K 2 (gCons (gName 5) (gCons (gName 6) gNil))) (own := [("_law_told", 5), ("_law_start", 6)]) rfl scParts.nd (pi_list (pv 2)) (blkOk_by (own := [("_law_told", 5), ("_law_start", 6)]) (N := nParts) (sc := defScope sParts) (by decide +kernel))
            (fun _ _ _ _ _ => pg_tup rfl (pgs_cons (pg_name (i := 5) scParts.nd rfl (Or.inl rfl)) (pgs_cons (pg_name (i := 6) scParts.nd rfl (Or.inl rfl)) pgs_nil))) (fun _ _ _ _ _ => pts_one (pt_cmpR op_eq (pv 6) (pe_callB call_len_str (by rfl) M.len PySem.boot_len (pa_cons (pv 0) pa_nil)) (nomark _))) (fun _ _ _ _ _ => pv 5)) pa_nil))))), ?_⟩
    refine ⟨Nat.zero_le _, fun t0 nt0 => ⟨by show 2 ≤ sizeLine; decide, fun T0 nT0 => ⟨by show 1 ≤ sizeLine; decide, fun lF nF => ?_⟩⟩⟩
    have s1 := new_same nt0 (.tup [])
    have s2 := new_same nT0 (.tup [.ref t0, .int 0])
    have s3 := new_same nF (.lst [.ref T0])
    have ps : PsAt K (upd (upd (upd H t0 (.tup [])) T0 (.tup [.ref t0, .int 0])) lF (.lst [.ref T0])) [.ref T0] [([], 0)] := .cons ⟨T0, t0, rfl, .inl (.inl (s3 _ _ upd_same)), .inl (.inl (s3 _ _ (s2 _ _ upd_same)))⟩ .nil
    have hF : (upd (upd (upd H t0 (.tup [])) T0 (.tup [.ref t0, .int 0])) lF (.lst [.ref T0])) lF = some (.lst [.ref T0]) := upd_same
    have s4 := s1.trans (s2.trans s3)
    generalize (upd (upd (upd H t0 (.tup [])) T0 (.tup [.ref t0, .int 0])) lF (.lst [.ref T0])) = H1 at s4 ps hF ⊢
    clear s1 s2 s3 nF nT0 nt0
    refine ⟨_, rfl, _, rfl, ?_⟩
    refine for_it walk_str (fun i σ H' => ∃ (lF : Addr) (vs : List V) (es : List PEnt) (v3 v4 v5 v6 v7 : Option V), σ = [some (V.str (Tx w)), some (V.str (Tx g)), some (V.ref lF), v3, v4, v5, v6, v7] ∧ Same H H' ∧ H' lF = some (.lst vs) ∧ PsAt K H' vs es ∧
      es.length ≤ 8 ^ i ∧ (∀ e ∈ es, e.1.length = i ∧ e.2 ≤ w.length) ∧ es.any (fun e => prt (g.drop i) (w.drop e.2)) = prt g w)
      ⟨lF, _, _, none, none, none, none, none, rfl, s4, hF, ps, Nat.le_refl _, fun e he => by rw [List.mem_singleton.mp he]; exact ⟨rfl, Nat.zero_le _⟩, by show (prt g w || false) = _; rw [Bool.or_false]⟩ (fun _ _ _ _ _ => trivial) ?_ ?_
    · clear ps hF s4 H1 lF T0 t0
      rintro i x σ H1 H1' hi ⟨lF, vs, es, v3, v4, v5, v6, v7, rfl, s1, hF, ps, le, me, an⟩ ⟨rfl, c, hc, rfl⟩
      have hi' : i < g.length := by simpa using hi
      have hcg : g[i]? = some c := by
        have q : g.toArray[i]? = some c := hc
        simpa using q
      have gd : g.drop i = c :: g.drop (i + 1) := by
        rw [List.drop_eq_getElem_cons hi']
        have := List.getElem?_eq_getElem hi'
        rw [hcg] at this
        rw [← Option.some.inj this]
      have le4 : es.length ≤ 512 := by
        have : 8 ^ i ≤ 8 ^ 3 := Nat.pow_le_pow_right (by decide) (by omega)
        have e8 : 8 ^ 3 = 512 := rfl
        omega
      have el := ps.len
      refine ⟨Nat.zero_le _, fun lT nT => ?_⟩
      refine ⟨_, rfl, lF, rfl, ⟨_, SqL.of (new_same nT (.lst []) _ _ hF)⟩, ?_⟩
      refine for_list (xs := vs) (fun j σ H' => ∃ v5 v6 v7, σ = [some (V.str (Tx w)), some (V.str (Tx g)), some (V.ref lF), some (V.str ⟨#[c]⟩), some (V.ref lT), v5, v6, v7] ∧ Same H1' H' ∧ ∃ us, H' lT = some (.lst us) ∧ PsAt K H' us ((es.take j).flatMap (step1 w c)) ∧ us.length ≤ 8 * j)
        ⟨v5, v6, v7, rfl, new_same nT _, [], upd_same, .nil, Nat.zero_le _⟩ (fun i σ H' _ ⟨_, _, _, _, h, _⟩ => SqL.of (h _ _ hF)) ?_ ?_
      · clear v3 v4 v5 v6 v7
        rintro j x σ H2 hx ⟨v5, v6, v7, rfl, s2, us, hus, pus, lus⟩
        obtain ⟨e, he, T, t, rfl, hT, ht⟩ := (ps.same s2).at hx
        have jl : j < es.length := (List.getElem?_eq_some_iff.mp he).1
        refine ⟨T, _, rfl, hT, rfl, _, _, rfl, _, _, rfl, rfl, ?_⟩
        have fm : (es.take (j + 1)).flatMap (step1 w c) = (es.take j).flatMap (step1 w c) ++ step1 w c e := by
          rw [tk1 he, List.flatMap_append]
          simp
        refine ⟨_, rfl, _, rfl, _, rfl, tx_small (by omega), _, _, rfl, rfl, _, rfl, ?_⟩
        rw [tx_len]
        by_cases h1 : e.2 < w.length
        · rw [decide_eq_true (show ((e.2 : Nat) : Int) < (w.length : Nat) by omega)]
          refine iteT ⟨_, rfl, _, rfl, _, _, _, rfl, rfl, tx_small (by omega), tx_at h1, _, rfl, rfl, _, rfl, ?_⟩
          rw [one_eq]
          by_cases h2 : at0 w e.2 = c
          · rw [decide_eq_true h2]
            refine iteT ⟨_, rfl, _, rfl, _, rfl, tx_small (by omega), ((e.2 : Nat) : Int), (w.length : Int), by rw [tx_len] <;> rfl, by omega, ?_⟩
            have hn : ((w.length : Int) - ((e.2 : Nat) : Int)).toNat = w.length - e.2 := by omega
            rw [hn]
            have es1 : step1 w c e = grow w c e.1 e.2 (w.length - e.2) := if_pos ⟨h1, h2⟩
            rw [es1] at fm
            refine for_range (lo := ((e.2 : Nat) : Int)) (n := w.length - e.2) (fun k σ H' => ∃ v7, σ = [some (V.str (Tx w)), some (V.str (Tx g)), some (V.ref lF), some (V.str ⟨#[c]⟩), some (V.ref lT), some (V.ref t), some (NI e.2), v7] ∧ Same H1' H' ∧ SqT K H' t (e.1.map NI) ∧
              ∃ us, H' lT = some (.lst us) ∧ PsAt K H' us ((es.take j).flatMap (step1 w c) ++ grow w c e.1 e.2 k) ∧ us.length ≤ 8 * j + k)
              ⟨v7, rfl, s2, ht, us, hus, by rw [show grow w c e.1 e.2 0 = [] from rfl, List.append_nil]; exact pus, lus⟩ ?_ ?_
            · clear hus pus lus us s2 hx hT ht v5 v6 v7
              rintro k' σ H3 hk ⟨v7, rfl, s2, ht, us, hus, pus, lus⟩
              have e3 : ((e.2 : Nat) : Int) + (k' : Nat) = ((e.2 + k' : Nat) : Int) := by omega
              rw [e3]
              refine ⟨_, rfl, _, rfl, _, _, _, rfl, rfl, tx_small (by omega), tx_at (by omega), _, rfl, rfl, _, rfl, ?_⟩
              rw [one_eq]
              by_cases h3 : at0 w (e.2 + k') = c
              · rw [decide_eq_true h3]
                refine iteT ⟨_, rfl, .inl ⟨rfl, _, SqL.of hus⟩, ?_⟩
                refine ⟨fun v H'' => ∃ t', v = .ref t' ∧ Same H3 H'' ∧ SqT K H'' t' ((e.1 ++ [e.2 + k']).map NI), ?_, ?_⟩
                · refine ⟨_, rfl, _, rfl, by show 1 ≤ sizeLine; decide, fun T1 nT1 => ?_⟩
                  have s5 := new_same nT1 (.tup [.int ((e.2 + k' : Nat) : Int)])
                  have el1 := (me e (List.mem_of_getElem? he)).1
                  refine ⟨t, T1, _, _, rfl, rfl, sqT_same ht s5, .inl (.inl upd_same), by rw [List.length_map, el1, sizeLine_eq]; show i + 1 ≤ _; omega, fun e0 => ?_, fun _ z => (nomatch z), fun _ _ p np => ?_⟩
                  · refine ⟨T1, rfl, s5, ?_⟩
                    have e00 : e.1 = [] := List.map_eq_nil_iff.mp e0
                    rw [e00]
                    exact .inl (.inl upd_same)
                  · refine ⟨p, rfl, s5.trans (new_same np _), .inl (.inl ?_)⟩
                    rw [upd_same, List.map_append]
                    rfl
                · rintro v H4 ⟨t', rfl, s5, ht'⟩
                  refine ⟨_, rfl, _, _, rfl, rfl, by show 2 ≤ sizeLine; decide, fun T2 nT2 => ?_⟩
                  have s6 := s5.trans (new_same nT2 (.tup [.ref t', .int (((e.2 + k' : Nat) : Int) + 1)]))
                  have hus6 := s6 _ _ hus
                  refine ⟨lT, _, _, rfl, rfl, hus6, by rw [sizeLine_eq]; omega, ?_⟩
                  refine ⟨_, rfl, same_put (s2.trans s6) nT, sqT_upd (sqT_same ht s6) hus6 noTup_lst, _, upd_same, ?_, ?_⟩
                  · have eg : grow w c e.1 e.2 (k' + 1) = grow w c e.1 e.2 k' ++ [(e.1 ++ [e.2 + k'], e.2 + k' + 1)] := by
                      show grow w c e.1 e.2 k' ++ (if at0 w (e.2 + k') = c then _ else _) = _
                      rw [if_pos h3]
                    rw [eg, ← List.append_assoc]
                    refine PsAt.upd hus6 noTup_lst ((pus.same s6).snoc ⟨T2, t', rfl, .inl (.inl ?_), sqT_same ht' (new_same nT2 _)⟩)
                    rw [upd_same]
                    rfl
                  · rw [List.length_append, List.length_singleton]
                    omega
              · rw [decide_eq_false h3]
                refine iteF ⟨_, rfl, s2, ht, us, hus, ?_, by omega⟩
                have eg : grow w c e.1 e.2 (k' + 1) = grow w c e.1 e.2 k' := by
                  show grow w c e.1 e.2 k' ++ (if at0 w (e.2 + k') = c then _ else _) = _
                  rw [if_neg h3, List.append_nil]
                rw [eg]
                exact pus
            · clear hus pus lus us s2 hx hT ht v5 v6 v7
              rintro σ H3 ⟨v7, rfl, s2, ht, us, hus, pus, lus⟩
              refine ⟨_, _, _, rfl, s2, us, hus, ?_, by omega⟩
              rw [fm]
              exact pus
          · rw [decide_eq_false h2]
            have es0 : step1 w c e = [] := if_neg fun z => h2 z.2
            refine iteF ⟨_, _, _, rfl, s2, us, hus, ?_, by omega⟩
            rw [fm, es0, List.append_nil]
            exact pus
        · rw [decide_eq_false (show ¬ ((e.2 : Nat) : Int) < (w.length : Nat) by omega)]
          have es0 : step1 w c e = [] := if_neg fun z => h1 z.1
          refine iteF (iteF ⟨_, _, _, rfl, s2, us, hus, ?_, by omega⟩)
          rw [fm, es0, List.append_nil]
          exact pus
      · rintro σ H2 ⟨v5, v6, v7, rfl, s2, us, hus, pus, lus⟩
        rw [el, List.take_length] at pus
        refine ⟨_, rfl, lT, us, stepP w c es, _, _, _, _, _, rfl, s1.trans s2, hus, pus, ?_, fun e he => ?_, ?_⟩
        · have h1 := stepP_len w c es
          have h2 : es.length * w.length ≤ 8 ^ i * 8 := Nat.mul_le_mul le hw
          rw [Nat.pow_succ]
          omega
        · obtain ⟨e0, h1, h2⟩ := List.mem_flatMap.mp he
          obtain ⟨h3, h4⟩ := step1_mem h2
          exact ⟨by rw [h3, (me e0 h1).1], h4⟩
        · rw [stepP_any, ← gd]
          exact an
    · rintro σ Hc ⟨lE, vs, es, v3, v4, v5, v6, v7, rfl, s1, hF, ps, le, me, an⟩
      have gs : (Tx g).cps.size = g.length := by
        show g.toArray.size = _
        simp
      rw [gs] at le me an
      rw [List.drop_length] at an
      have el := ps.len
      have le4 : es.length ≤ 4096 := by
        have : 8 ^ g.length ≤ 8 ^ 4 := Nat.pow_le_pow_right (by decide) (by omega)
        have e8 : 8 ^ 4 = 4096 := rfl
        omega
      refine ⟨_, rfl, lE, rfl, ⟨_, SqL.of hF⟩, fun D nD => it_list (xs := vs) (fun i H' => Same Hc H' ∧ ∃ ys, H' D = some (.lst ys) ∧ ys.length ≤ i ∧ DpAll K Hc ys (((es.take i).filter fun e => decide (e.2 = w.length)).map fun e => encP e.1)) ⟨new_same nD _, [], upd_same, Nat.le_refl _, .nil⟩ (fun i H' _ h => SqL.of (h.1 _ _ hF)) ?_ ?_⟩
      · rintro i x H3 hx ⟨s3, ys, hD, ly, dy⟩
        obtain ⟨e, he, T, t, rfl, hT, ht⟩ := ps.at hx
        have il : i < es.length := (List.getElem?_eq_some_iff.mp he).1
        refine ⟨T, _, rfl, sqT_same hT s3, rfl, _, _, rfl, _, _, rfl, rfl, rfl, _, rfl, _, rfl, _, rfl, tx_small (by omega), rfl, _, rfl, ?_⟩
        rw [tx_len, tk1 he, List.filter_append]
        by_cases h : e.2 = w.length
        · rw [decide_eq_true (show NI e.2 = V.int ((w.length : Nat) : Int) by rw [← h]; rfl)]
          refine iteT ⟨_, rfl, ys, hD, by rw [sizeLine_eq]; omega, same_put s3 nD, ys ++ [.ref t], upd_same, by rw [List.length_append, List.length_singleton]; omega, ?_⟩
          rw [List.filter_cons_of_pos (by simpa using h), List.filter_nil, List.map_append]
          exact dpAll_app dy (.cons (.tup ht (NI_dp _)) .nil)
        · rw [decide_eq_false (show ¬ NI e.2 = V.int ((w.length : Nat) : Int) from fun z => h (by have z : V.int ((e.2 : Nat) : Int) = V.int ((w.length : Nat) : Int) := z; injection z with z; omega))]
          refine iteF ⟨s3, ys, hD, by omega, ?_⟩
          rw [List.filter_cons_of_neg (by simpa using h), List.filter_nil, List.append_nil]
          exact dy
      · rintro H3 ⟨s3, ys, hD, ly, dy⟩
        rw [el, List.take_length] at dy
        have dy2 : DpAll K Hc ys (((es.filter fun e => decide (e.2 = w.length)).map (·.1)).map encP) := by
          rw [List.map_map]
          exact dy
        have mem1 : ∀ l ∈ (es.filter fun e => decide (e.2 = w.length)).map (·.1), l ≠ [] := fun l hl => by
          obtain ⟨e, h1, h2⟩ := List.mem_map.mp hl
          have h3 := (me e (List.mem_filter.mp h1).1).1
          intro e0
          rw [← h2] at e0
          rw [e0] at h3
          have : (0 : Nat) = g.length := h3
          omega
        have em : ((es.filter fun e => decide (e.2 = w.length)).map (·.1)).isEmpty = (!prt g w) := by
          rw [← an]
          rw [Bool.eq_iff_iff, List.isEmpty_iff, List.map_eq_nil_iff, List.filter_eq_nil_iff, Bool.not_eq_true', List.any_eq_false]
          constructor
          · intro h e he
            have h1 := h e he
            have h2 := (me e he).2
            show ¬ (w.drop e.2).isEmpty = true
            intro z
            have := List.isEmpty_iff.mp z
            have l0 := congrArg List.length this
            rw [List.length_drop, List.length_nil] at l0
            exact h1 (by simp; omega)
          · intro h e he
            have h1 := h e he
            intro z
            apply h1
            have z := of_decide_eq_true z
            show (w.drop e.2).isEmpty = true
            rw [List.drop_of_length_le (by omega)]
            rfl
        generalize ((es.filter fun e => decide (e.2 = w.length)).map (·.1)) = bs at dy2 mem1 em
        refine ⟨D, ys, bs, rfl, SqL.of hD, dpAll_same s3 dy2, PySem.W.AllAlike.of fun b b' => ?_, .inl fun d hd => ?_, fun b _ => ?_, fun zs r lz dz _ nr => ?_⟩
        · show PySem.W.alike (encP b) (encP b') = true
          unfold encP
          rw [PySem.W.alike, alike_nats]
        · obtain ⟨b, h1, h2⟩ := List.mem_map.mp hd
          cases b with
          | nil => exact absurd rfl (mem1 _ h1)
          | cons x b => exact ⟨_, _, h2.symm⟩
        · have := (lay_P b).2
          omega
        · have s9 := new_same nr (.lst zs)
          refine k _ r zs _ (s1.trans (s3.trans s9)) ((s1.trans s3).free nr) upd_same (dpAll_same s9 dz) (shaped_list fun b _ => ⟨(lay_P b).1, Nat.le_trans (lay_P b).2 (by decide)⟩) ?_
          rw [← em, Bool.eq_iff_iff, List.isEmpty_iff, List.isEmpty_iff, List.map_eq_nil_iff]
          have pm := List.mergeSort_perm bs (PySem.W.dataLe false encP)
          constructor
          · intro h
            rw [h] at pm
            exact List.nil_perm.mp pm
          · intro h
            rw [h] at pm ⊢
            exact List.perm_nil.mp pm
end
end JC

-- part L1
set_option Elab.async false
set_option linter.all false
set_option maxRecDepth 100000
set_option maxHeartbeats 4000000
/-! law -/
namespace JC
open PySem PySem.Spec PyProof.Rows L2 JB
abbrev nLaw : List Str := ["_law_script", "_law_row", "_law_many", "_law_one", "_law_other", "_law_second", "_law_due", "_law_size", "_law_top", "_law_first", "_law_last", "_law_found", "_law_words", "_law_turn", "_law_later", "_law_word", "_law_good", "_law_told", "_law_letter"]
theorem scLaw : FnScope nLaw ["_law_script"] (defScope sLaw) := ⟨rfl, rfl, rfl, by decide +kernel, rfl, by decide +kernel, by decide +kernel⟩
def spLaw (K : PySem.W.Frag) : Sp := fun vs H Q _ => ∃ (a : Addr) (ns : List Int), vs = [.ref a] ∧ SqL K H a (ns.map V.int) ∧ ns.length ≤ 63 ∧ ∀ H', Q (.bl true) H'
theorem inV_VS (u : List Nat) (ws : List (List Nat)) : inV (VS u) (ws.map VS) = decide (u ∈ ws) := by
  unfold inV
  rw [List.any_map, Bool.eq_iff_iff, List.any_eq_true, decide_eq_true_iff]
  constructor
  · rintro ⟨v, h1, h2⟩
    have h2 : (Tx v == Tx u) = true := h2
    rw [← tx_inj (eq_of_beq h2)]
    exact h1
  · intro h
    exact ⟨u, h, (show (Tx u == Tx u) = true from beq_self_eq_true _)⟩
theorem it_walk {J : It} {n : Nat} {G : Hp → Prop} {Y : Nat → Hp → V → Hp → Prop} (w : Walk J n G Y) {H0 : Hp} {Qd : Hp → Prop} {B : V → Hp → (Hp → Prop) → Prop} (Pv : Nat → Hp → Prop) (h0 : Pv 0 H0) (hG : ∀ i H, i ≤ n → Pv i H → G H)
    (hs : ∀ i x H H', i < n → Pv i H → Y i H x H' → B x H' (Pv (i + 1))) (hd : ∀ H, Pv n H → Qd H) :
    ∃ W : Nat → Nat → Hp → Prop, (∃ m, W 0 m H0) ∧ ∀ i m H, W i m H → (J.stop i H ∧ Qd H) ∨ (J.go i H ∧ ∃ Nx : Hp → Prop, (∀ H', Nx H' → ∃ m', m' < m ∧ W (i + 1) m' H') ∧ ∀ x H', J.yld i H x H' → B x H' Nx) := by
  refine ⟨fun i m H => m = n - i ∧ i ≤ n ∧ Pv i H, ⟨n, by simp, Nat.zero_le _, h0⟩, ?_⟩
  rintro i m H ⟨rfl, hi, p⟩
  have q := hG i H hi p
  by_cases hlt : i < n
  · refine .inr ⟨w.goes i H hlt q, Pv (i + 1), fun H' p' => ⟨n - (i + 1), by omega, rfl, hlt, p'⟩, fun x H' y => hs i x H H' hlt p (w.yields i H x H' hlt q y)⟩
  · have e : i = n := by omega
    subst e
    exact .inl ⟨w.stops H q, hd H p⟩
theorem fm_len : ∀ l : List (List Nat), (l.flatMap fun w => [w ++ [97], w ++ [98]]).length = 2 * l.length
  | [] => rfl
  | x :: l => by
    rw [List.flatMap_cons, List.length_append, fm_len l]
    simp only [List.length_cons, List.length_nil]
    omega
theorem str_nil : V.str ("" : Str) = VS [] := by
  have e : ("" : Str) = Tx [] := by decide +kernel
  rw [e]
  rfl
theorem ab_txt : ("ab" : Str) = Tx [97, 98] := by decide +kernel
theorem RowAt.same {H H' : Hp} {r a : Addr} (h : RowAt H r a) (s : Same H H') : RowAt H' r a := by
  obtain ⟨i, x, y, h1, h2⟩ := h
  exact ⟨i, x, y, s _ _ h1, h2⟩
theorem flm_of {f : List Nat} {m : Nat} (h1 : 1 ≤ f.length) (h2 : f.length ≤ 8) (hm : m ≤ 8) (hl : ∀ c ∈ f, 97 ≤ c ∧ c < 97 + m) : Flm f := ⟨h1, by omega, fun c hc => by have := hl c hc; omega⟩
theorem sm_of {f : List Nat} {m : Nat} (hm : m ≤ 8) (hl : ∀ c ∈ f, 97 ≤ c ∧ c < 97 + m) : Sm f := fun c hc => by have := hl c hc; omega
section
variable {P : Program} {w : World} {K : PySem.W.Frag} {mg : Str → Option Value} {base : Heap} {ft ff fa fl fi fc fn fm fo fb fp : Addr} {dt df da dl di dc dn dm do_ db dp : FuncData}
theorem ok_law {fz : Addr} {fd : FuncData} (F : Fun K "law" "law" sLaw fz fd) (M : Gs mg) (T : Dn P w K mg base 1 "_law_taken" ["_law_row", "_law_many"] (spTaken K) ft dt) (FI : Dn P w K mg base 2 "_law_film" ["_law_row", "_law_most", "_law_many"] (spFilm K) ff df)
    (A : Dn P w K mg base 2 "_law_all" ["_law_film_here"] spAll fa da) (AL : Dn P w K mg base 4 "_law_alike" ["_law_found", "_law_due"] (spAl K 3) fl dl) (IS : Dn P w K mg base 1 "_law_is" ["_law_found", "_law_due"] spIs fi di)
    (C : Dn P w K mg base 3 "common" ["one", "other"] spCommon fc dc) (CN : Dn P w K mg base 3 "count_common" ["one", "other"] spCount fn dn) (ME : Dn P w K mg base 3 "meets" ["one", "other"] spMeets fm dm) (LO : Dn P w K mg base 2 "longest_common" ["one", "other"] spLongest fo do_)
    (BE : Dn P w K mg base 2 "shortest_before" ["one", "other"] spBefore fb db) (PA : Dn P w K mg base 1 "_law_partings" ["_law_film_here", "_law_goal"] (spParts K) fp dp) : FnOk P w K mg base CX0 5 fz fd ["_law_script"] (spLaw K) := by
  refine F.ok scLaw (fun vs H Q E h => ?_) (fun cdv AA outer s H vs Q E hr h => ?_)
  · obtain ⟨a, ns, rfl, _⟩ := h
    rfl
  · obtain ⟨a, ns, rfl, hS, h63, k⟩ := h
    have hu := hu_of hr
    have hr1 := hr.mono (show 1 ≤ 4 by decide)
    have hr2 := hr.mono (show 2 ≤ 4 by decide)
    have hr3 := hr.mono (show 3 ≤ 4 by decide)
    refine ⟨_, pss_cons (ps_set (i := 1) scLaw.nd rfl (.inl rfl) (pe_lst (pa_cons (pv 0) (pa_cons pe_int (pa_cons pe_int (pa_cons pe_int pa_nil))))))
      (pss_cons (ps_set (i := 2) scLaw.nd rfl (.inl rfl) (pe_op op_add pe_int (pe_call T.ok hr1 rfl T.m T.kp T.b .nil pass0 (pa_cons (pv 1) (pa_cons pe_int pa_nil)))))
      (pss_cons (ps_par (i := 3) (j := 4) rfl scLaw.nd rfl rfl (by decide) rfl rfl (pa_cons (pe_call FI.ok hr2 rfl FI.m FI.kp FI.b .nil pass0 (pa_cons (pv 1) (pa_cons pe_int (pa_cons (pv 2) pa_nil)))) (pa_cons (pe_call FI.ok hr2 rfl FI.m FI.kp FI.b .nil pass0 (pa_cons (pv 1) (pa_cons pe_int (pa_cons (pv 2) pa_nil)))) pa_nil)) (by rfl))
      (pss_cons (ps_set (i := 5) scLaw.nd rfl (.inr rfl) (pe_call A.ok hr2 rfl A.m A.kp A.b .nil pass0 (pa_cons (pv 4) pa_nil)))
      (pss_cons (ps_setLc (i := 6) (g := gName 17) (own := [("_law_told", 17)]) rfl scLaw.nd rfl rfl (sw_true rfl rfl rfl (by rfl)) (pi_list (pe_call A.ok hr2 rfl A.m A.kp A.b .nil pass0 (pa_cons (pv 3) pa_nil))) (blkOk_by (own := [("_law_told", 17)]) (N := nLaw) (sc := defScope sLaw) (by decide +kernel))
        (fun _ _ _ _ _ => pg_name (i := 17) scLaw.nd rfl (Or.inl rfl)) (fun _ _ _ _ _ => pts_one (pt_cmpR (r := rIn K false) op_in_seq (pv 17) (pv 5) rfl)) (fun _ _ _ _ _ => pv 17))
      (pss_cons (ps_if (pt_not (pt_val (pe_call AL.ok hr rfl AL.m AL.kp AL.b .nil pass0 (pa_cons (pe_lst (pa_cons (pe_call C.ok hr3 rfl C.m C.kp C.b .nil pass0 (pa_cons (pv 3) (pa_cons (pv 4) pa_nil))) (pa_cons (pe_call CN.ok hr3 rfl CN.m CN.kp CN.b .nil pass0 (pa_cons (pv 3) (pa_cons (pv 4) pa_nil))) pa_nil)))
          (pa_cons (pe_lst (pa_cons (pv 6) (pa_cons (pe_callB call_len_seq (by rfl) M.len PySem.boot_len (pa_cons (pv 6) pa_nil)) pa_nil))) pa_nil))))) (pss_one ps_never) pss_nil)
      (pss_cons (ps_if (pt_not (pt_val (pe_call IS.ok hr1 rfl IS.m IS.kp IS.b .nil pass0 (pa_cons (pe_call ME.ok hr3 rfl ME.m ME.kp ME.b .nil pass0 (pa_cons (pv 3) (pa_cons (pv 4) pa_nil))) (pa_cons (pe_cmpR (op_neD hr.units) (pv 6) (pe_lst pa_nil) (nomark _)) pa_nil))))) (pss_one ps_never) pss_nil)
      (pss_cons (ps_set (i := 7) scLaw.nd rfl (.inr rfl) (pe_md (pe_ifExp (pt_cmpR (op_neD hr.units) (pv 6) (pe_lst pa_nil) (nomark _)) (pe_callB (cr_max rfl) (by rfl) M.max boot_max (pa_cons (pe_lc (own := [("_law_told", 17)]) (g := gName 17) (tt := tYes) rfl scLaw.nd (pi_list (pv 6)) (blkOk_by (own := [("_law_told", 17)]) (N := nLaw) (sc := defScope sLaw) (by decide +kernel))
        (fun _ _ _ _ _ => pg_name (i := 17) scLaw.nd rfl (Or.inl rfl)) (fun _ _ _ _ _ => pts_nil) (fun _ _ _ _ _ => pe_callB call_len_str (by rfl) M.len PySem.boot_len (pa_cons (pv 17) pa_nil))) pa_nil)) pe_int)))
      (pss_cons (ps_set (i := 8) scLaw.nd rfl (.inl rfl) (pe_md (pe_ifExp (pt_cmpR (op_neD hr.units) (pv 6) (pe_lst pa_nil) (nomark _)) (pe_ix ix_list (pe_lc (own := [("_law_told", 17)]) (g := gName 17) rfl scLaw.nd (pi_list (pv 6)) (blkOk_by (own := [("_law_told", 17)]) (N := nLaw) (sc := defScope sLaw) (by decide +kernel))
        (fun _ _ _ _ _ => pg_name (i := 17) scLaw.nd rfl (Or.inl rfl)) (fun _ _ _ _ _ => pts_one (pt_cmpR op_eq (pe_callB call_len_str (by rfl) M.len PySem.boot_len (pa_cons (pv 17) pa_nil)) (pv 7) (nomark _))) (fun _ _ _ _ _ => pv 17)) pe_int (fun _ _ => rfl)) pe_non)))
      (pss_cons (ps_if (pt_not (pt_val (pe_call AL.ok hr rfl AL.m AL.kp AL.b .nil pass0 (pa_cons (pe_call LO.ok hr2 rfl LO.m LO.kp LO.b .nil pass0 (pa_cons (pv 3) (pa_cons (pv 4) pa_nil))) (pa_cons (pv 8) pa_nil))))) (pss_one ps_never) pss_nil)
      (pss_cons (ps_asg (pe_tup (pa_cons (pe_call FI.ok hr2 rfl FI.m FI.kp FI.b .nil pass0 (pa_cons (pv 1) (pa_cons pe_int (pa_cons pe_int pa_nil)))) (pa_cons (pe_call FI.ok hr2 rfl FI.m FI.kp FI.b .nil pass0 (pa_cons (pv 1) (pa_cons pe_int (pa_cons pe_int pa_nil)))) pa_nil))) (pg_tup rfl (pgs_cons (pg_name (i := 9) scLaw.nd rfl (.inr rfl)) (pgs_cons (pg_name (i := 10) scLaw.nd rfl (.inr rfl)) pgs_nil))))
      (pss_cons (ps_par (i := 11) (j := 12) rfl scLaw.nd rfl rfl (by decide) rfl rfl (pa_cons pe_non (pa_cons (pe_lst (pa_cons pe_str pa_nil)) pa_nil)) (by rfl))
      (C8.pss_cut (ps_if (PW.pt (pw_and (pt_cmpR op_eq (pe_ix ix_str (pv 9) pe_int (fun _ _ => rfl)) (pe_ix ix_str (pv 10) pe_int (fun _ _ => rfl)) (nomark _)) (pw_and1 (pt_cmpR op_eq (pe_ix ix_str (pv 9) (pe_un un_neg pe_int) (fun _ _ => rfl)) (pe_ix ix_str (pv 10) (pe_un un_neg pe_int) (fun _ _ => rfl)) (nomark _)))))
        (pss_one (ps_for PassesOwn.never rfl (pi_range1 rfl M.range (pa_cons pe_int pa_nil)) (pg_name (i := 13) scLaw.nd rfl (.inl rfl))
          (pss_cons (ps_set (i := 14) scLaw.nd rfl (.inl rfl) (pe_lst pa_nil))
          (pss_cons (ps_for PassesOwn.never rfl (pi_list (pv 12)) (pg_name (i := 15) scLaw.nd rfl (.inr rfl))
            (pss_one (ps_set (i := 14) scLaw.nd rfl (.inl rfl) (pe_op op_cat (pv 14) (pe_lc (own := [("_law_letter", 18)]) (g := gName 18) (tt := tYes) rfl scLaw.nd (pi_str pe_str) (blkOk_by (own := [("_law_letter", 18)]) (N := nLaw) (sc := defScope sLaw) (by decide +kernel))
              (fun _ _ _ _ _ => pg_name (i := 18) scLaw.nd rfl (Or.inl rfl)) (fun _ _ _ _ _ => pts_nil) (fun _ _ _ _ _ => pe_op op_add_str (pv 15) (pv 18)))))))
          (pss_cons (ps_set (i := 12) scLaw.nd rfl (.inl rfl) (pv 14))
          (pss_cons (ps_setLc (i := 16) (own := [("_law_word", 15)]) (g := gName 15) rfl scLaw.nd rfl rfl (sw_true rfl rfl rfl (by rfl)) (pi_list (pv 12)) (blkOk_by (own := [("_law_word", 15)]) (N := nLaw) (sc := defScope sLaw) (by decide +kernel))
              (fun _ _ _ _ _ => pg_name (i := 15) scLaw.nd rfl (Or.inl rfl)) (fun _ _ _ _ _ => pts_one (PW.pt (pw_and (pt_cmpR (r := rNeD K) (op_neD hr.units) (pe_call PA.ok hr1 rfl PA.m PA.kp PA.b .nil pass0 (pa_cons (pv 15) (pa_cons (pv 9) pa_nil))) (pe_lst pa_nil) (nomark _)) (pw_and1 (pt_cmpR (r := rNeD K) (op_neD hr.units) (pe_call PA.ok hr1 rfl PA.m PA.kp PA.b .nil pass0 (pa_cons (pv 15) (pa_cons (pv 10) pa_nil))) (pe_lst pa_nil) (nomark _)))))) (fun _ _ _ _ _ => pv 15))
          (pss_one (ps_if (PW.pt (pw_and (pt_cmp (pc_isN (pv 11))) (pw_and1 (pt_cmpR (op_neD hr.units) (pv 16) (pe_lst pa_nil) (nomark _))))) (pss_one (ps_set (i := 11) scLaw.nd rfl (.inl rfl) (pe_ix ix_list (pv 16) pe_int (fun _ _ => rfl)))) pss_nil)))))))) pss_nil)
      (pss_one (ps_ret (pe_call AL.ok hr rfl AL.m AL.kp AL.b .nil pass0 (pa_cons (pe_call BE.ok hr2 rfl BE.m BE.kp BE.b .nil pass0 (pa_cons (pv 9) (pa_cons (pv 10) pa_nil))) (pa_cons (pv 11) pa_nil))))))))))))))))), ?_⟩
    refine ⟨_, rfl, by show 4 ≤ sizeLine; decide, fun r nr => ?_⟩
    have ap : Ap K r a (ns.map V.int) := Ap.of hS nr
    have hS1 : SqL K (upd H r (.lst [.ref a, .int 0, .int 5009, .int 0])) a (ns.map V.int) := (new_same nr _).seq hS
    have R1 : RowAt (upd H r (.lst [.ref a, .int 0, .int 5009, .int 0])) r a := ⟨0, 5009, 0, upd_same, by decide, by decide, by decide⟩
    generalize (upd H r (.lst [.ref a, .int 0, .int 5009, .int 0])) = H1 at hS1 R1 ⊢
    refine ⟨_, rfl, r, a, ns, 3, rfl, by decide, by decide, ap, hS1, R1, fun H2 z sb2 R2 hz => ⟨_, _, rfl, rfl, ?_⟩⟩
    have em : (1 : Int) + ((z : Nat) : Int) = ((1 + z : Nat) : Int) := by omega
    obtain ⟨m, hm⟩ : ∃ m, m = 1 + z := ⟨_, rfl⟩
    have ev : ([V.ref r, V.int 8, V.int (1 + ((z : Nat) : Int))] : List V) = [V.ref r, V.int ((8 : Nat) : Int), V.int ((m : Nat) : Int)] := by rw [em, ← hm] <;> rfl
    have m1 : 1 ≤ m := by omega
    have m8 : m ≤ 8 := by omega
    clear em hm
    refine ⟨_, rfl, _, rfl, r, a, ns, 8, m, ev, by decide, by decide, m1, m8, ap, sb2.seq ap hS1, R2, fun H3 f sb3 R3 f1 f8 fl => ?_⟩
    refine ⟨_, rfl, _, rfl, r, a, ns, 8, m, ev, by decide, by decide, m1, m8, ap, (sb2.trans sb3).seq ap hS1, R3, fun H4 g sb4 R4 g1 g8 gl => ⟨_, _, rfl, ?_⟩⟩
    have hf : Flm f := flm_of f1 f8 m8 fl
    have hg : Flm g := flm_of g1 g8 m8 gl
    have fne := hf.ne
    have gne := hg.ne
    have hS4 := ((sb2.trans sb3).trans sb4).seq ap hS1
    refine ⟨_, rfl, g, rfl, by omega, sm_of m8 gl, fun H5 p2 ys s5 n2 e2 nd2 mm2 => ?_⟩
    refine ⟨_, rfl, f, rfl, by omega, sm_of m8 fl, fun H6 p1 xs s6 n1 e1 nd1 mm1 => ⟨p1, rfl, ⟨_, SqL.of e1⟩, fun D nD => it_list (xs := (srt xs).map VS) (fun i H' => Same H6 H' ∧ H' D = some (.lst ((((srt xs).take i).filter fun u => decide (u ∈ srt ys)).map VS))) ⟨new_same nD _, upd_same⟩ (fun i H' _ h => SqL.of (h.1 _ _ e1)) ?_ ?_⟩⟩
    · rintro i x H7 hx ⟨s7, hD⟩
      obtain ⟨u, hu2, rfl⟩ := VS_at hx
      refine ⟨rfl, _, rfl, _, rfl, p2, _, rfl, .inl (SqL.of (s7 _ _ (s6 _ _ e2))), rfl, ?_, _, rfl, ?_⟩
      · rw [List.all_eq_true]
        intro v hv
        obtain ⟨v', _, rfl⟩ := List.mem_map.mp hv
        rfl
      · have sl : i < (srt xs).length := (List.getElem?_eq_some_iff.mp hu2).1
        have xl : (srt xs).length ≤ 4096 := by
          rw [(srt_perm xs).length_eq]
          have h1 := reach_few nd1 (fun a ha => (mm1 a).mp ha)
          have h2 : 2 ^ f.length ≤ 2 ^ 8 := Nat.pow_le_pow_right (by decide) f8
          have h3 : 2 ^ 8 = 256 := rfl
          omega
        show (if inV (VS u) ((srt ys).map VS) = true then _ else _)
        rw [inV_VS, tk1 hu2, List.filter_append]
        by_cases q : u ∈ srt ys
        · rw [decide_eq_true q]
          refine iteT ⟨_, rfl, _, hD, ?_, same_put s7 nD, ?_⟩
          · have := List.length_filter_le (fun u => decide (u ∈ srt ys)) ((srt xs).take i)
            rw [List.length_take] at this
            rw [List.length_map, sizeLine_eq]
            omega
          · rw [upd_same, List.filter_cons_of_pos (by simpa using q), List.filter_nil, List.map_append]
            rfl
        · rw [decide_eq_false q]
          refine iteF ⟨s7, ?_⟩
          rw [List.filter_cons_of_neg (by simpa using q), List.filter_nil, List.append_nil]
          exact hD
    · rintro H7 ⟨s7, hD⟩
      rw [List.length_map, List.take_length, due_eq fne gne nd1 mm1 mm2] at hD
      have hS7 := (s5.trans (s6.trans s7)).seq hS4
      have R7 := R4.same (s5.trans (s6.trans s7))
      clear s7 s6 s5 e1 e2 nd1 nd2 mm1 mm2 n1 n2 nD H6 H5 sb4 sb3 sb2 R1 R2 R3 R4 hS4 hS1
      have few : (ALL f g).length ≤ 256 := by
        have h1 := ALL_few (f := f) (g := g) fne gne
        have h2 : 2 ^ f.length ≤ 2 ^ 8 := Nat.pow_le_pow_right (by decide) f8
        have h3 : 2 ^ 8 = 256 := rfl
        omega
      have Slen : (srt (ALL f g)).length = (ALL f g).length := (srt_perm _).length_eq
      have Sin : ∀ u ∈ srt (ALL f g), Sm u ∧ u.length ≤ 8 := fun u hu => by
        have h1 := (ALL_mem fne gne u).mp ((srt_perm _).mem_iff.mp hu)
        have h2 := reach_sub ((comes_iff fne).mp h1.1)
        exact ⟨fun c hc => sm_of m8 fl c (h2.subset hc), Nat.le_trans h2.length_le f8⟩
      refine ⟨_, rfl, _, rfl, f, g, rfl, hf, hg, by omega, fun H8 pc s8 nc ec => ⟨_, rfl, _, rfl, f, g, rfl, hf, hg, fun H9 s9 => ?_⟩⟩
      refine ⟨by show 2 ≤ sizeLine; decide, fun l1 nl1 => ?_⟩
      have hD9 := s9 _ _ (s8 _ _ hD)
      have s10 := new_same nl1 (.lst [.ref pc, .int ((ALL f g).length : Nat)])
      have hl1 : (upd H9 l1 (.lst [.ref pc, .int ((ALL f g).length : Nat)])) l1 = some (.lst [.ref pc, .int ((ALL f g).length : Nat)]) := upd_same
      have hD10 := s10 _ _ hD9
      have ec10 := s10 _ _ (s9 _ _ ec)
      have s710 := s8.trans (s9.trans s10)
      generalize (upd H9 l1 (.lst [.ref pc, .int ((ALL f g).length : Nat)])) = H10 at s10 hl1 hD10 ec10 s710 ⊢
      clear s8 s9 s10 nc ec hD9 nl1
      refine ⟨_, rfl, _, rfl, D, _, rfl, .inl (SqL.of hD10), by show 2 ≤ sizeLine; decide, fun l2 nl2 => ?_⟩
      have s11 := new_same nl2 (.lst [.ref D, .int (((srt (ALL f g)).map VS).length : Nat)])
      refine ⟨_, _, rfl, ?_, fun H12 s12 => ⟨_, rfl, iteF ?_⟩⟩
      · refine .inr (.inr (.inr ⟨l1, l2, _, _, rfl, rfl, s11 _ _ hl1, upd_same, rfl, by show 2 ≤ 100000; decide, fun i u v hu2 hv => ?_⟩))
        match i, hu2, hv with
        | 0, hu2, hv =>
          cases hu2
          cases hv
          refine .inr (.inr (.inr ⟨pc, D, _, _, rfl, rfl, s11 _ _ ec10, s11 _ _ hD10, rfl, by rw [List.length_map, Slen]; omega, fun j u v hu2 hv => ?_⟩))
          obtain ⟨u', _, rfl⟩ := VS_at hu2
          have e := hu2.symm.trans hv
          cases e
          exact .inl ⟨_, rfl, rfl⟩
        | 1, hu2, hv =>
          cases hu2
          cases hv
          refine .inr (.inl ⟨_, rfl, ?_⟩)
          rw [List.length_map, Slen]
        | i + 2, hu2, hv => cases hu2
      have hD12 := s12 _ _ (s11 _ _ hD10)
      have s712 := s710.trans (s11.trans s12)
      have hS12 := s712.seq hS7
      have R12 := R7.same s712
      clear s11 s12 s710 hl1 ec10 hD10 nl2 hD hS7 R7 s712
      refine ⟨_, rfl, _, rfl, f, g, rfl, hf, hg, fun H13 s13 => ⟨_, rfl, Nat.zero_le _, fun e0 ne0 => ?_⟩⟩
      have s14 := new_same ne0 (.lst [])
      have shS : SeqAt.shaped (.list ((srt (ALL f g)).map PS_)) = true := shaped_list fun u hu => ⟨sm_ok (Sin u hu).1, Nat.zero_le _⟩
      refine ⟨_, _, .lst (SqL.of (s14 _ _ (s13 _ _ hD12))) (dp_VS _), .lst (SqL.of upd_same) .nil, shS, shaped_nil, decide (0 < (ALL f g).length), ?_, _, rfl, iteF ?_⟩
      · rw [eqv_nil]
        have e : (!((srt (ALL f g)).map PS_).isEmpty) = decide (0 < (ALL f g).length) := by
          rw [← Slen]
          cases srt (ALL f g) <;> rfl
        rw [e]
        rfl
      have hD14 := s14 _ _ (s13 _ _ hD12)
      have s1214 := s13.trans s14
      have hS14 := s1214.seq hS12
      have R14 := R12.same s1214
      generalize (upd H13 e0 (.lst [])) = H14 at hD14 hS14 R14 ⊢
      clear s1214 s13 s14 hS12 R12 hD12 ne0
      refine ⟨fun v H' => ∃ sz : Nat, v = .int (sz : Nat) ∧ Same H14 H' ∧ (srt (ALL f g) = [] ∨ ((∃ u ∈ srt (ALL f g), u.length = sz) ∧ ∀ u ∈ srt (ALL f g), u.length ≤ sz)), ?_, ?_⟩
      · refine ⟨_, rfl, Nat.zero_le _, fun e0 ne0 => ⟨_, _, .lst (SqL.of (new_same ne0 _ _ _ hD14)) (dp_VS _), .lst (SqL.of upd_same) .nil, shS, shaped_nil, _, rfl, ?_⟩⟩
        rw [eqv_nil]
        have s15 := new_same ne0 (.lst [])
        refine iteB (fun c => ?_) (fun c => ?_)
        · have Sne : srt (ALL f g) ≠ [] := fun e => by
            rw [e] at c
            cases c
          have hD15 := s15 _ _ hD14
          refine ⟨_, rfl, D, rfl, ⟨_, SqL.of hD15⟩, fun D2 nD2 => it_list (xs := (srt (ALL f g)).map VS) (fun i H' => Same (upd H14 e0 (.lst [])) H' ∧ H' D2 = some (.lst (((srt (ALL f g)).take i).map fun u => V.int (u.length : Nat)))) ⟨new_same nD2 _, upd_same⟩ (fun i H _ h => SqL.of (h.1 _ _ hD15)) ?_ ?_⟩
          · rintro i' x H16 hx ⟨s16, hD2⟩
            obtain ⟨u, hu2, rfl⟩ := VS_at hx
            have ul := (Sin u (List.mem_of_getElem? hu2)).2
            have lw : i' < (srt (ALL f g)).length := (List.getElem?_eq_some_iff.mp hu2).1
            refine ⟨rfl, _, rfl, _, rfl, tx_small (by omega), _, hD2, by rw [List.length_map, List.length_take, sizeLine_eq]; omega, same_put s16 nD2, ?_⟩
            rw [upd_same, tk1 hu2, List.map_append]
            show some (HO.lst (_ ++ [V.int ((Tx u).length : Nat)])) = _
            rw [tx_len]
            rfl
          · rintro H16 ⟨s16, hD2⟩
            rw [List.length_map, List.take_length] at hD2
            have hDn : H16 D2 = some (.lst (((srt (ALL f g)).map fun u => (u.length : Int)).map V.int)) := by
              rw [hD2, List.map_map]
              rfl
            refine ⟨D2, (srt (ALL f g)).map fun u => (u.length : Int), rfl, SqL.of hDn, by rw [List.length_map]; exact List.length_pos_iff.mpr Sne, fun mx hmx hle => ?_⟩
            obtain ⟨u0, hu0, eu0⟩ := List.mem_map.mp hmx
            refine ⟨u0.length, by rw [← eu0], s15.trans s16, .inr ⟨⟨u0, hu0, rfl⟩, fun u hu2 => ?_⟩⟩
            have h1 := hle _ (List.mem_map_of_mem (f := fun u : List Nat => (u.length : Int)) hu2)
            have e : ((u0.length : Nat) : Int) = mx := eu0
            have h1 : ((u.length : Nat) : Int) ≤ mx := h1
            omega
        · have Se : srt (ALL f g) = [] := by
            cases e : srt (ALL f g) with
            | nil => rfl
            | cons x l =>
              rw [e] at c
              cases c
          exact ⟨0, rfl, s15, .inl Se⟩
      rintro v H15 ⟨sz, rfl, s15, hsz⟩
      have hD15 := s15 _ _ hD14
      have hS15 := s15.seq hS14
      have R15 := R14.same s15
      clear s15 hD14 hS14 R14
      refine ⟨fun v H' => v = topV (bst (ALL f g)) ∧ Same H15 H', ?_, ?_⟩
      · refine ⟨_, rfl, Nat.zero_le _, fun e0 ne0 => ⟨_, _, .lst (SqL.of (new_same ne0 _ _ _ hD15)) (dp_VS _), .lst (SqL.of upd_same) .nil, shS, shaped_nil, _, rfl, ?_⟩⟩
        rw [eqv_nil]
        have s16 := new_same ne0 (.lst [])
        refine iteB (fun c => ?_) (fun c => ?_)
        · have Sne : srt (ALL f g) ≠ [] := fun e => by
            rw [e] at c
            cases c
          obtain ⟨h1, h2⟩ := hsz.resolve_left Sne
          obtain ⟨m', r', e3, ib⟩ := top_eq (srt_lt (ALL_nodup fne)) h1 h2
          have hD16 := s16 _ _ hD15
          refine ⟨_, rfl, D, rfl, ⟨_, SqL.of hD16⟩, fun D2 nD2 => it_list (xs := (srt (ALL f g)).map VS) (fun i H' => Same (upd H15 e0 (.lst [])) H' ∧ H' D2 = some (.lst ((((srt (ALL f g)).take i).filter fun u => decide (u.length = sz)).map VS))) ⟨new_same nD2 _, upd_same⟩ (fun i H _ h => SqL.of (h.1 _ _ hD16)) ?_ ?_⟩
          · rintro i' x H17 hx ⟨s17, hD2⟩
            obtain ⟨u, hu2, rfl⟩ := VS_at hx
            have ul := (Sin u (List.mem_of_getElem? hu2)).2
            have lw : i' < (srt (ALL f g)).length := (List.getElem?_eq_some_iff.mp hu2).1
            refine ⟨rfl, _, rfl, _, rfl, tx_small (by omega), _, rfl, rfl, _, rfl, ?_⟩
            rw [tx_len, tk1 hu2, List.filter_append]
            by_cases q : u.length = sz
            · rw [decide_eq_true (show V.int ((u.length : Nat) : Int) = V.int ((sz : Nat) : Int) by rw [q])]
              refine iteT ⟨_, rfl, _, hD2, ?_, same_put s17 nD2, ?_⟩
              · have := List.length_filter_le (fun u : List Nat => decide (u.length = sz)) ((srt (ALL f g)).take i')
                rw [List.length_take] at this
                rw [List.length_map, sizeLine_eq]
                omega
              · rw [upd_same, List.filter_cons_of_pos (by simpa using q), List.filter_nil, List.map_append]
                rfl
            · rw [decide_eq_false (show ¬ V.int ((u.length : Nat) : Int) = V.int ((sz : Nat) : Int) from fun z => q (by injection z with z; omega))]
              refine iteF ⟨s17, ?_⟩
              rw [List.filter_cons_of_neg (by simpa using q), List.filter_nil, List.append_nil]
              exact hD2
          · rintro H17 ⟨s17, hD2⟩
            rw [List.length_map, List.take_length, e3] at hD2
            refine ⟨D2, _, _, VS m', rfl, rfl, SqL.of hD2, atI_nat (j := 0) rfl, ?_, s16.trans s17⟩
            rw [bst_srt ib]
            rfl
        · have Se : srt (ALL f g) = [] := by
            cases e : srt (ALL f g) with
            | nil => rfl
            | cons x l =>
              rw [e] at c
              cases c
          refine ⟨?_, s16⟩
          rw [bst_srt0 Se]
          rfl
      rintro v H16 ⟨rfl, s16⟩
      have hS16 := s16.seq hS15
      have R16 := R15.same s16
      clear s16 hS15 R15 hD15 hsz
      refine ⟨_, rfl, _, rfl, f, g, rfl, hf, hg, fun H17 s17 => ⟨_, rfl, _, _, rfl, ?_, fun H18 s18 => ⟨_, rfl, iteF ?_⟩⟩⟩
      · cases bst (ALL f g) with
        | none => exact .inr (.inr (.inl ⟨rfl, rfl⟩))
        | some m => exact .inl ⟨_, rfl, rfl⟩
      have hS18 := (s17.trans s18).seq hS16
      have R18 := R16.same (s17.trans s18)
      clear s17 s18 hS16 R16
      refine ⟨_, rfl, r, a, ns, 4, 2, rfl, by decide, by decide, by decide, by decide, ap, hS18, R18, fun H19 p sb19 R19 p1 p4 pl => ?_⟩
      refine ⟨_, rfl, r, a, ns, 4, 2, rfl, by decide, by decide, by decide, by decide, ap, sb19.seq ap hS18, R19, fun H20 q sb20 R20 q1 q4 ql => ?_⟩
      refine ⟨by show 2 ≤ sizeLine; decide, fun T2 nT2 => ⟨T2, _, rfl, .inl (.inl upd_same), rfl, _, _, rfl, _, _, rfl, rfl, ?_⟩⟩
      generalize (upd H20 T2 (.tup [.str (Tx p), .str (Tx q)])) = H21
      clear nT2 sb19 sb20 R18 R19 R20 hS18 ap H20 H19
      have pc : ∀ c ∈ p, c = 97 ∨ c = 98 := fun c hc => by have := pl c hc; omega
      have qc : ∀ c ∈ q, c = 97 ∨ c = 98 := fun c hc => by have := ql c hc; omega
      have pne : p ≠ [] := fun e => by rw [e] at p1; cases p1
      have qne : q ≠ [] := fun e => by rw [e] at q1; cases q1
      refine ⟨by show 1 ≤ sizeLine; decide, fun lW nW => ⟨_, _, rfl, ?_⟩⟩
      have hW : (upd H21 lW (.lst [.str ""])) lW = some (.lst ((words 0).map VS)) := by
        rw [upd_same, str_nil]
        rfl
      generalize (upd H21 lW (.lst [.str ""])) = H22 at hW ⊢
      clear nW H21
      refine ⟨fun σ' H' => ∃ u0 u1 u2 u3 u4 u5 u6 u7 u8 u12 u13 u14 u15 u16 u17 u18 : Option V, σ' = [u0, u1, u2, u3, u4, u5, u6, u7, u8, some (VS p), some (VS q), some (topV (if endsEq p q = true then lawUpto p q 8 else none)), u12, u13, u14, u15, u16, u17, u18], ?_, ?_⟩
      · have xe : endsEq p q = (decide (at0 p 0 = at0 q 0) && decide (at0 p (p.length - 1) = at0 q (q.length - 1))) := by
          unfold endsEq
          rw [beq_iff, beq_iff]
        refine ⟨_, rfl, _, _, _, rfl, rfl, tx_small (by omega), tx_at (i := 0) p1, _, rfl, _, _, _, rfl, rfl, tx_small (by omega), tx_at (i := 0) q1, rfl, _, rfl, ?_⟩
        rw [one_eq]
        by_cases e1 : at0 p 0 = at0 q 0
        · rw [decide_eq_true e1] at xe ⊢
          refine iteT ⟨_, rfl, _, rfl, _, _, _, rfl, rfl, tx_small (by omega), tx_last pne, _, rfl, _, rfl, _, _, _, rfl, rfl, tx_small (by omega), tx_last qne, rfl, _, rfl, ?_⟩
          rw [one_eq]
          by_cases e2 : at0 p (p.length - 1) = at0 q (q.length - 1)
          · rw [decide_eq_true e2] at xe ⊢
            have xe : endsEq p q = true := xe
            refine iteT ⟨8, rfl, by decide, by decide, ?_⟩
            have e8 : (8 : Int).toNat = 8 := rfl
            rw [e8]
            refine for_range (lo := 0) (n := 8) (fun i σ H' => ∃ (u0 u1 u2 u3 u4 u5 u6 u7 u8 u13 u14 u15 u16 : Option V) (lW : Addr), σ = [u0, u1, u2, u3, u4, u5, u6, u7, u8, some (VS p), some (VS q), some (topV (lawUpto p q i)), some (V.ref lW), u13, u14, u15, u16, none, none] ∧
              H' lW = some (.lst ((words i).map VS))) ⟨_, _, _, _, _, _, _, _, _, _, _, _, _, lW, rfl, hW⟩ ?_ ?_
            · clear hW H22 e8
              rintro i σ H1 hi ⟨u0, u1, u2, u3, u4, u5, u6, u7, u8, u13, u14, u15, u16, lW, rfl, hW⟩
              have wlen : (words i).length ≤ 128 := by
                rw [words_len]
                have h1 : 2 ^ i ≤ 2 ^ 7 := Nat.pow_le_pow_right (by decide) (by omega)
                have h2 : 2 ^ 7 = 128 := rfl
                omega
              refine ⟨Nat.zero_le _, fun lT nT => ?_⟩
              have hW1 := new_same nT (.lst []) _ _ hW
              refine ⟨_, rfl, lW, rfl, ⟨_, SqL.of hW1⟩, ?_⟩
              refine for_list (xs := (words i).map VS) (fun j σ H2 => ∃ (u13 u15 : Option V) (lT : Addr), σ = [u0, u1, u2, u3, u4, u5, u6, u7, u8, some (VS p), some (VS q), some (topV (lawUpto p q i)), some (V.ref lW), u13, some (V.ref lT), u15, u16, none, none] ∧
                H2 lW = some (.lst ((words i).map VS)) ∧ H2 lT = some (.lst ((((words i).take j).flatMap fun w => [w ++ [97], w ++ [98]]).map VS))) ⟨_, u15, lT, rfl, hW1, upd_same⟩ (fun i σ H' _ ⟨_, _, _, _, h, _⟩ => SqL.of h) ?_ ?_
              · clear hW1 nT hW lT u13 u15 u14
                rintro j x σ H2 hx ⟨u13, u15, lT, rfl, hW2, hT2⟩
                obtain ⟨v, hv, rfl⟩ := VS_at hx
                have vl := (words_of i v (List.mem_of_getElem? hv)).1
                have jl : j < (words i).length := (List.getElem?_eq_some_iff.mp hv).1
                refine ⟨_, rfl, _, rfl, fun D nD => it_walk walk_str (fun k' H3 => Same H2 H3 ∧ H3 D = some (.lst ((([97, 98] : List Nat).take k').map fun c => VS (v ++ [c])))) ⟨new_same nD _, upd_same⟩ (fun _ _ _ _ => trivial) ?_ ?_⟩
                · rintro k' y H3 H4 hk ⟨s3, hD⟩ ⟨rfl, c, hc, rfl⟩
                  have hc2 : ([97, 98] : List Nat)[k']? = some c := by
                    rw [ab_txt] at hc
                    simpa using hc
                  have kl : k' < 2 := (List.getElem?_eq_some_iff.mp hc2).1
                  refine ⟨rfl, _, rfl, _, rfl, _, _, rfl, rfl, ?_, _, hD, ?_, same_put s3 nD, ?_⟩
                  · show (Tx v).length + (Tx [c]).length ≤ sizeLine
                    rw [tx_len, tx_len, sizeLine_eq, vl]
                    show i + 1 ≤ _
                    omega
                  · rw [List.length_map, List.length_take, sizeLine_eq]
                    omega
                  · rw [upd_same, tk1 hc2, List.map_append]
                    show some (HO.lst (_ ++ [V.str (Tx v ++ Tx [c])])) = _
                    rw [tx_add]
                    rfl
                · rintro H3 ⟨s3, hD⟩
                  have hD3 : H3 D = some (.lst [VS (v ++ [97]), VS (v ++ [98])]) := by
                    rw [ab_txt] at hD
                    exact hD
                  refine ⟨lT, D, _, _, rfl, rfl, s3 _ _ hT2, hD3, ?_, fun z nz => ?_⟩
                  · rw [List.length_map, fm_len, List.length_take, sizeLine_eq]
                    show _ + 2 ≤ _
                    omega
                  · refine ⟨_, _, z, rfl, new_same nz _ _ _ (s3 _ _ hW2), ?_⟩
                    rw [upd_same, tk1 hv, List.flatMap_append, List.map_append]
                    rfl
              · clear hW1 nT hW lT u13 u15 u14
                rintro σ H2 ⟨u13, u15, lT, rfl, _, hT2⟩
                rw [List.length_map, List.take_length] at hT2
                have hT2 : H2 lT = some (.lst ((words (i + 1)).map VS)) := hT2
                have wl2 : (words (i + 1)).length ≤ 256 := by
                  rw [words_len]
                  have h1 : 2 ^ (i + 1) ≤ 2 ^ 8 := Nat.pow_le_pow_right (by decide) (by omega)
                  have h2 : 2 ^ 8 = 256 := rfl
                  omega
                refine ⟨_, rfl, _, rfl, lT, rfl, ⟨_, SqL.of hT2⟩, fun D nD => it_list (xs := (words (i + 1)).map VS) (fun k' H3 => Same H2 H3 ∧ H3 D = some (.lst ((((words (i + 1)).take k').filter (goodW p q)).map VS))) ⟨new_same nD _, upd_same⟩ (fun i' H _ h => SqL.of (h.1 _ _ hT2)) ?_ ?_⟩
                · rintro k' y H3 hy ⟨s3, hD⟩
                  obtain ⟨v, hv, rfl⟩ := VS_at hy
                  have vl := (words_of (i + 1) v (List.mem_of_getElem? hv)).1
                  have kl : k' < (words (i + 1)).length := (List.getElem?_eq_some_iff.mp hv).1
                  have fl2 : (((words (i + 1)).take k').filter (goodW p q)).length ≤ 256 := by
                    have := List.length_filter_le (goodW p q) ((words (i + 1)).take k')
                    rw [List.length_take] at this
                    omega
                  refine ⟨rfl, _, rfl, _, rfl, v, p, rfl, by omega, p1, p4, fun H4 r1 ys4 ds s4 n4 e4 dp4 sh4 em4 => ⟨Nat.zero_le _, fun e0 ne0 => ⟨.list ds, .list [], .lst (SqL.of (new_same ne0 _ _ _ e4)) (dpAll_same (new_same ne0 _) dp4), .lst (SqL.of upd_same) .nil, sh4, shaped_nil, _, rfl, ?_⟩⟩⟩
                  rw [eqv_nil, em4, Bool.not_not, tk1 hv, List.filter_append]
                  have s5 := s4.trans (new_same ne0 (.lst []))
                  cases b1 : prt p v with
                  | false =>
                    have b3 : goodW p q v = false := by
                      unfold goodW
                      rw [b1, Bool.false_and]
                    refine iteF (iteF ⟨s3.trans s5, ?_⟩)
                    rw [List.filter_cons_of_neg (by rw [b3]; decide), List.filter_nil, List.append_nil]
                    exact s5 _ _ hD
                  | true =>
                    refine iteT ⟨_, rfl, _, rfl, v, q, rfl, by omega, q1, q4, fun H6 r2 ys6 ds6 s6 n6 e6 dp6 sh6 em6 => ⟨Nat.zero_le _, fun e1 ne1 => ⟨.list ds6, .list [], .lst (SqL.of (new_same ne1 _ _ _ e6)) (dpAll_same (new_same ne1 _) dp6), .lst (SqL.of upd_same) .nil, sh6, shaped_nil, _, rfl, ?_⟩⟩⟩
                    rw [eqv_nil, em6, Bool.not_not]
                    have s7 := s5.trans (s6.trans (new_same ne1 (.lst [])))
                    cases b2 : prt q v with
                    | false =>
                      have b3 : goodW p q v = false := by
                        unfold goodW
                        rw [b2, Bool.and_false]
                      refine iteF ⟨s3.trans s7, ?_⟩
                      rw [List.filter_cons_of_neg (by rw [b3]; decide), List.filter_nil, List.append_nil]
                      exact s7 _ _ hD
                    | true =>
                      have b3 : goodW p q v = true := by
                        unfold goodW
                        rw [b1, b2] <;> rfl
                      refine iteT ⟨_, rfl, _, s7 _ _ hD, by rw [List.length_map, sizeLine_eq]; omega, same_put (s3.trans s7) nD, ?_⟩
                      rw [upd_same, List.filter_cons_of_pos b3, List.filter_nil, List.map_append]
                      rfl
                · rintro H3 ⟨s3, hD⟩
                  rw [List.length_map, List.take_length] at hD
                  have hT3 := s3 _ _ hT2
                  have gsm : ∀ u ∈ (words (i + 1)).filter (goodW p q), Sm u := fun u hu2 c hc => by
                    have := (words_of (i + 1) u (List.mem_filter.mp hu2).1).2 c hc
                    omega
                  have ls := law_succ p q i
                  cases hL : lawUpto p q i with
                  | some w' =>
                    rw [hL] at ls
                    have ls : lawUpto p q (i + 1) = some w' := ls
                    refine ⟨_, rfl, _, rfl, iteF ⟨u0, u1, u2, u3, u4, u5, u6, u7, u8, u13, some (V.ref lT), u15, some (V.ref D), lT, ?_, hT3⟩⟩
                    rw [ls]
                    rfl
                  | none =>
                    rw [hL] at ls
                    have ls : lawUpto p q (i + 1) = ((words (i + 1)).filter (goodW p q)).head? := ls
                    refine ⟨_, rfl, _, rfl, iteT ⟨_, rfl, Nat.zero_le _, fun e0 ne0 => ⟨_, _, .lst (SqL.of (new_same ne0 _ _ _ hD)) (dp_VS _), .lst (SqL.of upd_same) .nil, shaped_list fun u hu => ⟨sm_ok (gsm u hu), Nat.zero_le _⟩, shaped_nil, _, rfl, ?_⟩⟩⟩
                    rw [eqv_nil]
                    have hT4 := new_same ne0 (.lst []) _ _ hT3
                    have hD4 := new_same ne0 (.lst []) _ _ hD
                    cases hg2 : (words (i + 1)).filter (goodW p q) with
                    | nil =>
                      rw [hg2] at ls
                      have ls : lawUpto p q (i + 1) = none := ls
                      refine iteF ⟨u0, u1, u2, u3, u4, u5, u6, u7, u8, u13, some (V.ref lT), u15, some (V.ref D), lT, ?_, hT4⟩
                      rw [ls]
                      rfl
                    | cons m' r' =>
                      rw [hg2] at ls hD4
                      have ls : lawUpto p q (i + 1) = some m' := ls
                      refine iteT ⟨_, rfl, D, _, _, VS m', rfl, rfl, SqL.of hD4, atI_nat (j := 0) rfl, ?_⟩
                      refine ⟨u0, u1, u2, u3, u4, u5, u6, u7, u8, u13, some (V.ref lT), u15, some (V.ref D), lT, ?_, hT4⟩
                      rw [ls]
                      rfl
            · rintro σ H' ⟨u0, u1, u2, u3, u4, u5, u6, u7, u8, u13, u14, u15, u16, lW', rfl, _⟩
              rw [if_pos xe]
              exact ⟨_, _, _, _, _, _, _, _, _, _, _, _, _, _, _, _, rfl⟩
          · rw [decide_eq_false e2] at xe ⊢
            have xe : endsEq p q = false := xe
            refine iteF ?_
            rw [if_neg (by rw [xe]; decide)]
            exact ⟨_, _, _, _, _, _, _, _, _, _, _, _, _, _, _, _, rfl⟩
        · rw [decide_eq_false e1] at xe ⊢
          have xe : endsEq p q = false := xe
          refine iteF ?_
          rw [if_neg (by rw [xe]; decide)]
          exact ⟨_, _, _, _, _, _, _, _, _, _, _, _, _, _, _, _, rfl⟩
      · rintro σ' H23 ⟨u0, u1, u2, u3, u4, u5, u6, u7, u8, u12, u13, u14, u15, u16, u17, u18, rfl⟩
        have fp : Flm p := ⟨p1, by omega, fun c hc => by have := pc c hc; omega⟩
        have fq : Flm q := ⟨q1, by omega, fun c hc => by have := qc c hc; omega⟩
        have pq : ∀ c ∈ p ++ q, c = 97 ∨ c = 98 := fun c hc => (List.mem_append.mp hc).elim (pc c) (qc c)
        refine ⟨_, rfl, _, rfl, p, q, topV (if endsEq p q = true then lawUpto p q 8 else none), rfl, fp, fq, by omega, by omega, pq, ?_, fun H24 s24 => ⟨_, rfl, _, _, rfl, ?_, fun H25 _ => k H25⟩⟩
        · by_cases xe : endsEq p q = true
          · rw [if_pos xe, if_pos xe]
            obtain ⟨w', h1, h2⟩ := law_pair (films_mem p1 p4 pc) (films_mem q1 q4 qc) xe
            exact ⟨w', by rw [h2] <;> rfl, h1⟩
          · rw [if_neg xe, if_neg xe]
            rfl
        · cases (if endsEq p q = true then lawUpto p q 8 else none) with
          | none => exact .inr (.inr (.inl ⟨rfl, rfl⟩))
          | some m => exact .inl ⟨_, rfl, rfl⟩
end
end JC

-- part Z1
set_option Elab.async false
set_option linter.all false
set_option maxRecDepth 100000
/-! the top and the head -/
namespace JC
open PySem PySem.Spec PyProof.Rows L2 JB
theorem all_mk {l : PySem.W.OpenLaw} {w : World} {K : PySem.W.Frag} {h : Heap} {mg : Str → Option Value} {fa f_nf f_ns f_nx f_sb f_ps f_ct f_cc f_cm f_lc f_me f_tk f_al f_is f_fi f_ne f_aa f_pa f_lw : Addr} (X : K.In h) (G : h.Ns mainGlobals mg) (hfa : mg "law" = some (.ref fa))
    {od_nf an_nf od_ns an_ns od_nx an_nx od_sb an_sb od_ps an_ps od_ct an_ct od_cc an_cc od_cm an_cm od_lc an_lc od_me an_me od_tk an_tk od_al an_al od_is an_is od_fi an_fi od_ne an_ne od_aa an_aa od_pa an_pa od_lw an_lw : Option Addr} {sl_nf sl_ns sl_nx sl_sb sl_ps sl_ct sl_cc sl_cm sl_lc sl_me sl_tk sl_al sl_is sl_fi sl_ne sl_aa sl_pa sl_lw : Array (Option Value)} {oc_nf kV_nf dc_nf pm_nf cd_nf ct_nf oc_ns kV_ns dc_ns pm_ns cd_ns ct_ns oc_nx kV_nx dc_nx pm_nx cd_nx ct_nx oc_sb kV_sb dc_sb pm_sb cd_sb ct_sb oc_ps kV_ps dc_ps pm_ps cd_ps ct_ps oc_ct kV_ct dc_ct pm_ct cd_ct ct_ct oc_cc kV_cc dc_cc pm_cc cd_cc ct_cc oc_cm kV_cm dc_cm pm_cm cd_cm ct_cm oc_lc kV_lc dc_lc pm_lc cd_lc ct_lc oc_me kV_me dc_me pm_me cd_me ct_me oc_tk kV_tk dc_tk pm_tk cd_tk ct_tk oc_al kV_al dc_al pm_al cd_al ct_al oc_is kV_is dc_is pm_is cd_is ct_is oc_fi kV_fi dc_fi pm_fi cd_fi ct_fi oc_ne kV_ne dc_ne pm_ne cd_ne ct_ne oc_aa kV_aa dc_aa pm_aa cd_aa ct_aa oc_pa kV_pa dc_pa pm_pa cd_pa ct_pa oc_lw kV_lw dc_lw pm_lw cd_lw ct_lw : Value} {t_let t_film t_goal : Tok}
    (a_nf : PySem.W.nsIn K mainGlobals "need_film" = some (some (.ref f_nf))) (l_nf : K.lookup f_nf = some ⟨oc_nf, od_nf, .func (PySem.W.fnOf "need_film" "need_film" (defArgs sNeedFilm) (defBody sNeedFilm) (defScope sNeedFilm) .none kV_nf dc_nf pm_nf an_nf cd_nf ct_nf), sl_nf⟩) (c_nf : PySem.W.codeIn K cd_nf "need_film" = true) (k_nf : PySem.W.keepIn K (.ref f_nf) = true)
    (a_ns : PySem.W.nsIn K mainGlobals "need_short" = some (some (.ref f_ns))) (l_ns : K.lookup f_ns = some ⟨oc_ns, od_ns, .func (PySem.W.fnOf "need_short" "need_short" (defArgs sNeedShort) (defBody sNeedShort) (defScope sNeedShort) .none kV_ns dc_ns pm_ns an_ns cd_ns ct_ns), sl_ns⟩) (c_ns : PySem.W.codeIn K cd_ns "need_short" = true) (k_ns : PySem.W.keepIn K (.ref f_ns) = true)
    (a_nx : PySem.W.nsIn K mainGlobals "nexts" = some (some (.ref f_nx))) (l_nx : K.lookup f_nx = some ⟨oc_nx, od_nx, .func (PySem.W.fnOf "nexts" "nexts" (defArgs sNexts) (defBody sNexts) (defScope sNexts) .none kV_nx dc_nx pm_nx an_nx cd_nx ct_nx), sl_nx⟩) (c_nx : PySem.W.codeIn K cd_nx "nexts" = true) (k_nx : PySem.W.keepIn K (.ref f_nx) = true)
    (a_sb : PySem.W.nsIn K mainGlobals "shortest_before" = some (some (.ref f_sb))) (l_sb : K.lookup f_sb = some ⟨oc_sb, od_sb, .func (PySem.W.fnOf "shortest_before" "shortest_before" (defArgs sBefore) (defBody sBefore) (defScope sBefore) .none kV_sb dc_sb pm_sb an_sb cd_sb ct_sb), sl_sb⟩) (c_sb : PySem.W.codeIn K cd_sb "shortest_before" = true) (k_sb : PySem.W.keepIn K (.ref f_sb) = true)
    (a_ps : PySem.W.nsIn K mainGlobals "pair_steps" = some (some (.ref f_ps))) (l_ps : K.lookup f_ps = some ⟨oc_ps, od_ps, .func (PySem.W.fnOf "pair_steps" "pair_steps" (defArgs sPair) (defBody sPair) (defScope sPair) .none kV_ps dc_ps pm_ps an_ps cd_ps ct_ps), sl_ps⟩) (c_ps : PySem.W.codeIn K cd_ps "pair_steps" = true) (k_ps : PySem.W.keepIn K (.ref f_ps) = true)
    (a_ct : PySem.W.nsIn K mainGlobals "common_tails" = some (some (.ref f_ct))) (l_ct : K.lookup f_ct = some ⟨oc_ct, od_ct, .func (PySem.W.fnOf "common_tails" "common_tails" (defArgs sTails) (defBody sTails) (defScope sTails) .none kV_ct dc_ct pm_ct an_ct cd_ct ct_ct), sl_ct⟩) (c_ct : PySem.W.codeIn K cd_ct "common_tails" = true) (k_ct : PySem.W.keepIn K (.ref f_ct) = true)
    (a_cc : PySem.W.nsIn K mainGlobals "count_common" = some (some (.ref f_cc))) (l_cc : K.lookup f_cc = some ⟨oc_cc, od_cc, .func (PySem.W.fnOf "count_common" "count_common" (defArgs sCount) (defBody sCount) (defScope sCount) .none kV_cc dc_cc pm_cc an_cc cd_cc ct_cc), sl_cc⟩) (c_cc : PySem.W.codeIn K cd_cc "count_common" = true) (k_cc : PySem.W.keepIn K (.ref f_cc) = true)
    (a_cm : PySem.W.nsIn K mainGlobals "common" = some (some (.ref f_cm))) (l_cm : K.lookup f_cm = some ⟨oc_cm, od_cm, .func (PySem.W.fnOf "common" "common" (defArgs sCommon) (defBody sCommon) (defScope sCommon) .none kV_cm dc_cm pm_cm an_cm cd_cm ct_cm), sl_cm⟩) (c_cm : PySem.W.codeIn K cd_cm "common" = true) (k_cm : PySem.W.keepIn K (.ref f_cm) = true)
    (a_lc : PySem.W.nsIn K mainGlobals "longest_common" = some (some (.ref f_lc))) (l_lc : K.lookup f_lc = some ⟨oc_lc, od_lc, .func (PySem.W.fnOf "longest_common" "longest_common" (defArgs sLongest) (defBody sLongest) (defScope sLongest) .none kV_lc dc_lc pm_lc an_lc cd_lc ct_lc), sl_lc⟩) (c_lc : PySem.W.codeIn K cd_lc "longest_common" = true) (k_lc : PySem.W.keepIn K (.ref f_lc) = true)
    (a_me : PySem.W.nsIn K mainGlobals "meets" = some (some (.ref f_me))) (l_me : K.lookup f_me = some ⟨oc_me, od_me, .func (PySem.W.fnOf "meets" "meets" (defArgs sMeets) (defBody sMeets) (defScope sMeets) .none kV_me dc_me pm_me an_me cd_me ct_me), sl_me⟩) (c_me : PySem.W.codeIn K cd_me "meets" = true) (k_me : PySem.W.keepIn K (.ref f_me) = true)
    (a_tk : PySem.W.nsIn K mainGlobals "_law_taken" = some (some (.ref f_tk))) (l_tk : K.lookup f_tk = some ⟨oc_tk, od_tk, .func (PySem.W.fnOf "_law_taken" "_law_taken" (defArgs sTaken) (defBody sTaken) (defScope sTaken) .none kV_tk dc_tk pm_tk an_tk cd_tk ct_tk), sl_tk⟩) (c_tk : PySem.W.codeIn K cd_tk "_law_taken" = true) (k_tk : PySem.W.keepIn K (.ref f_tk) = true)
    (a_al : PySem.W.nsIn K mainGlobals "_law_alike" = some (some (.ref f_al))) (l_al : K.lookup f_al = some ⟨oc_al, od_al, .func (PySem.W.fnOf "_law_alike" "_law_alike" (defArgs sAlike) (defBody sAlike) (defScope sAlike) .none kV_al dc_al pm_al an_al cd_al ct_al), sl_al⟩) (c_al : PySem.W.codeIn K cd_al "_law_alike" = true) (k_al : PySem.W.keepIn K (.ref f_al) = true)
    (a_is : PySem.W.nsIn K mainGlobals "_law_is" = some (some (.ref f_is))) (l_is : K.lookup f_is = some ⟨oc_is, od_is, .func (PySem.W.fnOf "_law_is" "_law_is" (defArgs sIs) (defBody sIs) (defScope sIs) .none kV_is dc_is pm_is an_is cd_is ct_is), sl_is⟩) (c_is : PySem.W.codeIn K cd_is "_law_is" = true) (k_is : PySem.W.keepIn K (.ref f_is) = true)
    (a_fi : PySem.W.nsIn K mainGlobals "_law_film" = some (some (.ref f_fi))) (l_fi : K.lookup f_fi = some ⟨oc_fi, od_fi, .func (PySem.W.fnOf "_law_film" "_law_film" (defArgs sFilm) (defBody sFilm) (defScope sFilm) .none kV_fi dc_fi pm_fi an_fi cd_fi ct_fi), sl_fi⟩) (c_fi : PySem.W.codeIn K cd_fi "_law_film" = true) (k_fi : PySem.W.keepIn K (.ref f_fi) = true)
    (a_ne : PySem.W.nsIn K mainGlobals "_law_next" = some (some (.ref f_ne))) (l_ne : K.lookup f_ne = some ⟨oc_ne, od_ne, .func (PySem.W.fnOf "_law_next" "_law_next" (defArgs sNext) (defBody sNext) (defScope sNext) .none kV_ne dc_ne pm_ne an_ne cd_ne ct_ne), sl_ne⟩) (c_ne : PySem.W.codeIn K cd_ne "_law_next" = true) (k_ne : PySem.W.keepIn K (.ref f_ne) = true)
    (a_aa : PySem.W.nsIn K mainGlobals "_law_all" = some (some (.ref f_aa))) (l_aa : K.lookup f_aa = some ⟨oc_aa, od_aa, .func (PySem.W.fnOf "_law_all" "_law_all" (defArgs sAll) (defBody sAll) (defScope sAll) .none kV_aa dc_aa pm_aa an_aa cd_aa ct_aa), sl_aa⟩) (c_aa : PySem.W.codeIn K cd_aa "_law_all" = true) (k_aa : PySem.W.keepIn K (.ref f_aa) = true)
    (a_pa : PySem.W.nsIn K mainGlobals "_law_partings" = some (some (.ref f_pa))) (l_pa : K.lookup f_pa = some ⟨oc_pa, od_pa, .func (PySem.W.fnOf "_law_partings" "_law_partings" (defArgs sParts) (defBody sParts) (defScope sParts) .none kV_pa dc_pa pm_pa an_pa cd_pa ct_pa), sl_pa⟩) (c_pa : PySem.W.codeIn K cd_pa "_law_partings" = true) (k_pa : PySem.W.keepIn K (.ref f_pa) = true)
    (a_lw : PySem.W.nsIn K mainGlobals "law" = some (some (.ref f_lw))) (l_lw : K.lookup f_lw = some ⟨oc_lw, od_lw, .func (PySem.W.fnOf "law" "law" (defArgs sLaw) (defBody sLaw) (defScope sLaw) .none kV_lw dc_lw pm_lw an_lw cd_lw ct_lw), sl_lw⟩) (c_lw : PySem.W.codeIn K cd_lw "law" = true) (k_lw : PySem.W.keepIn K (.ref f_lw) = true)
    (z_range : PySem.W.nsIn K mainGlobals "range" = some none)
    (z_len : PySem.W.nsIn K mainGlobals "len" = some none)
    (z_isinstance : PySem.W.nsIn K mainGlobals "isinstance" = some none)
    (z_str : PySem.W.nsIn K mainGlobals "str" = some none)
    (z_enumerate : PySem.W.nsIn K mainGlobals "enumerate" = some none)
    (z_sorted : PySem.W.nsIn K mainGlobals "sorted" = some none)
    (z_set : PySem.W.nsIn K mainGlobals "set" = some none)
    (z_min : PySem.W.nsIn K mainGlobals "min" = some none)
    (z_max : PySem.W.nsIn K mainGlobals "max" = some none)
    (z_tuple : PySem.W.nsIn K mainGlobals "tuple" = some none)
    (z_list : PySem.W.nsIn K mainGlobals "list" = some none)
    (z_int : PySem.W.nsIn K mainGlobals "int" = some none)
    (z_bool : PySem.W.nsIn K mainGlobals "bool" = some none)
    (v_let : PySem.W.nsIn K mainGlobals "LETTERS" = some (some (.str "abcdefgh" t_let))) (v_film : PySem.W.nsIn K mainGlobals "MOST_FILM" = some (some (.int 200 t_film))) (v_goal : PySem.W.nsIn K mainGlobals "MOST_GOAL" = some (some (.int 12 t_goal))) :
    ∃ fd : FuncData, (∀ (s : Shared) (v : Value), BindsTo s fd ⟨[v], []⟩ [("_law_script", v)]) ∧ ∀ base : Heap, K.In base → base.Ns mainGlobals mg → FnOk l.prog w K mg base CX0 5 fa fd ["_law_script"] (spLaw K) := by
  have e := hfa.symm.trans (PySem.W.mg_of X G a_lw)
  cases e
  have M : Gs mg := ⟨PySem.W.mg_none_of X G z_range, PySem.W.mg_none_of X G z_len, PySem.W.mg_none_of X G z_isinstance, PySem.W.mg_none_of X G z_str, PySem.W.mg_none_of X G z_enumerate, PySem.W.mg_none_of X G z_sorted, PySem.W.mg_none_of X G z_set, PySem.W.mg_none_of X G z_min, PySem.W.mg_none_of X G z_max, PySem.W.mg_none_of X G z_tuple, PySem.W.mg_none_of X G z_list, PySem.W.mg_none_of X G z_int, PySem.W.mg_none_of X G z_bool, ⟨_, PySem.W.mg_of X G v_let⟩, ⟨_, PySem.W.mg_of X G v_film⟩, ⟨_, PySem.W.mg_of X G v_goal⟩⟩
  have F_nf := fun_mk (st := sNeedFilm) l_nf c_nf k_nf
  have b_nf := F_nf.binds (ps := ["value"]) fun _ _ _ _ _ _ us hl => match us, hl with | [_], _ => rfl
  have F_ns := fun_mk (st := sNeedShort) l_ns c_ns k_ns
  have b_ns := F_ns.binds (ps := ["film", "most"]) fun _ _ _ _ _ _ us hl => match us, hl with | [_, _], _ => rfl
  have F_nx := fun_mk (st := sNexts) l_nx c_nx k_nx
  have b_nx := F_nx.binds (ps := ["film", "place"]) fun _ _ _ _ _ _ us hl => match us, hl with | [_, _], _ => rfl
  have F_sb := fun_mk (st := sBefore) l_sb c_sb k_sb
  have b_sb := F_sb.binds (ps := ["one", "other"]) fun _ _ _ _ _ _ us hl => match us, hl with | [_, _], _ => rfl
  have F_ps := fun_mk (st := sPair) l_ps c_ps k_ps
  have b_ps := F_ps.binds (ps := ["one", "other", "state", "letter"]) fun _ _ _ _ _ _ us hl => match us, hl with | [_, _, _, _], _ => rfl
  have F_ct := fun_mk (st := sTails) l_ct c_ct k_ct
  have b_ct := F_ct.binds (ps := ["one", "other"]) fun _ _ _ _ _ _ us hl => match us, hl with | [_, _], _ => rfl
  have F_cc := fun_mk (st := sCount) l_cc c_cc k_cc
  have b_cc := F_cc.binds (ps := ["one", "other"]) fun _ _ _ _ _ _ us hl => match us, hl with | [_, _], _ => rfl
  have F_cm := fun_mk (st := sCommon) l_cm c_cm k_cm
  have b_cm := F_cm.binds (ps := ["one", "other"]) fun _ _ _ _ _ _ us hl => match us, hl with | [_, _], _ => rfl
  have F_lc := fun_mk (st := sLongest) l_lc c_lc k_lc
  have b_lc := F_lc.binds (ps := ["one", "other"]) fun _ _ _ _ _ _ us hl => match us, hl with | [_, _], _ => rfl
  have F_me := fun_mk (st := sMeets) l_me c_me k_me
  have b_me := F_me.binds (ps := ["one", "other"]) fun _ _ _ _ _ _ us hl => match us, hl with | [_, _], _ => rfl
  have F_tk := fun_mk (st := sTaken) l_tk c_tk k_tk
  have b_tk := F_tk.binds (ps := ["_law_row", "_law_many"]) fun _ _ _ _ _ _ us hl => match us, hl with | [_, _], _ => rfl
  have F_al := fun_mk (st := sAlike) l_al c_al k_al
  have b_al := F_al.binds (ps := ["_law_found", "_law_due"]) fun _ _ _ _ _ _ us hl => match us, hl with | [_, _], _ => rfl
  have F_is := fun_mk (st := sIs) l_is c_is k_is
  have b_is := F_is.binds (ps := ["_law_found", "_law_due"]) fun _ _ _ _ _ _ us hl => match us, hl with | [_, _], _ => rfl
  have F_fi := fun_mk (st := sFilm) l_fi c_fi k_fi
  have b_fi := F_fi.binds (ps := ["_law_row", "_law_most", "_law_many"]) fun _ _ _ _ _ _ us hl => match us, hl with | [_, _, _], _ => rfl
  have F_ne := fun_mk (st := sNext) l_ne c_ne k_ne
  have b_ne := F_ne.binds (ps := ["_law_film_here"]) fun _ _ _ _ _ _ us hl => match us, hl with | [_], _ => rfl
  have F_aa := fun_mk (st := sAll) l_aa c_aa k_aa
  have b_aa := F_aa.binds (ps := ["_law_film_here"]) fun _ _ _ _ _ _ us hl => match us, hl with | [_], _ => rfl
  have F_pa := fun_mk (st := sParts) l_pa c_pa k_pa
  have b_pa := F_pa.binds (ps := ["_law_film_here", "_law_goal"]) fun _ _ _ _ _ _ us hl => match us, hl with | [_, _], _ => rfl
  have F_lw := fun_mk (st := sLaw) l_lw c_lw k_lw
  refine ⟨PySem.W.fnOf "law" "law" (defArgs sLaw) (defBody sLaw) (defScope sLaw) .none kV_lw dc_lw pm_lw an_lw cd_lw ct_lw, fun s v => .of_eq rfl, fun base _ _ => ?_⟩
  have D_nf : Dn l.prog w K mg base 1 "need_film" ["value"] spNeedFilm f_nf _ := ⟨ok_need_film F_nf M, b_nf, k_nf, PySem.W.mg_of X G a_nf⟩
  have D_ns : Dn l.prog w K mg base 1 "need_short" ["film", "most"] spNeedShort f_ns _ := ⟨ok_need_short F_ns M, b_ns, k_ns, PySem.W.mg_of X G a_ns⟩
  have D_nx : Dn l.prog w K mg base 1 "nexts" ["film", "place"] spNexts f_nx _ := ⟨ok_nexts F_nx M.range M.len, b_nx, k_nx, PySem.W.mg_of X G a_nx⟩
  have D_ps : Dn l.prog w K mg base 1 "pair_steps" ["one", "other", "state", "letter"] (spPair K) f_ps _ := ⟨ok_pair F_ps M, b_ps, k_ps, PySem.W.mg_of X G a_ps⟩
  have D_ct : Dn l.prog w K mg base 2 "common_tails" ["one", "other"] spTails f_ct _ := ⟨ok_tails F_ct M D_nx, b_ct, k_ct, PySem.W.mg_of X G a_ct⟩
  have D_cc : Dn l.prog w K mg base 3 "count_common" ["one", "other"] spCount f_cc _ := ⟨ok_count F_cc D_nf D_ct, b_cc, k_cc, PySem.W.mg_of X G a_cc⟩
  have D_me : Dn l.prog w K mg base 3 "meets" ["one", "other"] spMeets f_me _ := ⟨ok_meets F_me D_nf D_ct, b_me, k_me, PySem.W.mg_of X G a_me⟩
  have D_cm : Dn l.prog w K mg base 3 "common" ["one", "other"] spCommon f_cm _ := ⟨ok_common F_cm M D_nf D_ct D_nx, b_cm, k_cm, PySem.W.mg_of X G a_cm⟩
  have D_lc : Dn l.prog w K mg base 2 "longest_common" ["one", "other"] spLongest f_lc _ := ⟨ok_longest F_lc M D_nf D_nx, b_lc, k_lc, PySem.W.mg_of X G a_lc⟩
  have D_sb : Dn l.prog w K mg base 2 "shortest_before" ["one", "other"] spBefore f_sb _ := ⟨ok_before F_sb M D_nf D_ns D_ps, b_sb, k_sb, PySem.W.mg_of X G a_sb⟩
  have D_tk : Dn l.prog w K mg base 1 "_law_taken" ["_law_row", "_law_many"] (spTaken K) f_tk _ := ⟨ok_taken F_tk M, b_tk, k_tk, PySem.W.mg_of X G a_tk⟩
  have D_fi : Dn l.prog w K mg base 2 "_law_film" ["_law_row", "_law_most", "_law_many"] (spFilm K) f_fi _ := ⟨ok_film F_fi M D_tk, b_fi, k_fi, PySem.W.mg_of X G a_fi⟩
  have D_is : Dn l.prog w K mg base 1 "_law_is" ["_law_found", "_law_due"] spIs f_is _ := ⟨ok_is F_is M, b_is, k_is, PySem.W.mg_of X G a_is⟩
  have D_ne : Dn l.prog w K mg base 1 "_law_next" ["_law_film_here"] spNext f_ne _ := ⟨ok_next F_ne M, b_ne, k_ne, PySem.W.mg_of X G a_ne⟩
  have D_aa : Dn l.prog w K mg base 2 "_law_all" ["_law_film_here"] spAll f_aa _ := ⟨ok_all F_aa M D_ne, b_aa, k_aa, PySem.W.mg_of X G a_aa⟩
  have D_pa : Dn l.prog w K mg base 1 "_law_partings" ["_law_film_here", "_law_goal"] (spParts K) f_pa _ := ⟨ok_parts F_pa M, b_pa, k_pa, PySem.W.mg_of X G a_pa⟩
  have A0 : Dn l.prog w K mg base 1 "_law_alike" ["_law_found", "_law_due"] (spAl K 0) f_al _ := ⟨no_alike F_al, b_al, k_al, PySem.W.mg_of X G a_al⟩
  have A1 : Dn l.prog w K mg base 2 "_law_alike" ["_law_found", "_law_due"] (spAl K 1) f_al _ := ⟨ok_alike F_al M A0, b_al, k_al, PySem.W.mg_of X G a_al⟩
  have A2 : Dn l.prog w K mg base 3 "_law_alike" ["_law_found", "_law_due"] (spAl K 2) f_al _ := ⟨ok_alike F_al M A1, b_al, k_al, PySem.W.mg_of X G a_al⟩
  have A3 : Dn l.prog w K mg base 4 "_law_alike" ["_law_found", "_law_due"] (spAl K 3) f_al _ := ⟨ok_alike F_al M A2, b_al, k_al, PySem.W.mg_of X G a_al⟩
  exact ok_law F_lw M D_tk D_fi D_aa A3 D_is D_cm D_cc D_me D_lc D_sb D_pa
theorem walk {l : PySem.W.OpenLaw} {q : Program} {loose : List Str} {XP : (Str → Option Value) → Heap → Prop} {YP : World → Heap → Prop} {d : DefRec} {K : Params → PySem.W.Frag} (hn : l.most = some 63) (hdf : d.params.defaults = [])
    (hY : ∀ (w : World) (h : Heap), YP w h → (K w.params).In h)
    (F : ∀ (w : World) (mg : Str → Option Value) (fa : Addr) (h : Heap), (K w.params).In h → h.Ns mainGlobals mg → mg d.name = some (.ref fa) →
      ∃ fd : FuncData, (∀ (s : Shared) (u : Value), BindsTo s fd ⟨[u], []⟩ [("_law_script", u)]) ∧ ∀ base : Heap, (K w.params).In base → base.Ns mainGlobals mg → FnOk l.prog w (K w.params) mg base CX0 5 fa fd ["_law_script"] (spLaw (K w.params))) :
    PySem.W.WalkO q loose XP YP l.row.toRowW d [] (fun f vs => PySem.call f vs) :=
  L2.walk_of (n := 63) (k := 5) (x := "_law_script") (CX := fun _ => CX0) (sp := fun w => spLaw (K w.params)) hn (by decide) hdf ⟨rfl, by decide, by decide⟩ hY F (fun _ _ a ns hl _ hS => ⟨a, ns, rfl, hS, hl, fun _ => rfl⟩) fun _ _ _ _ _ z => z
end JC
open PySem PySem.W PyProof.Rows
set_option maxRecDepth 100000 in
set_option maxHeartbeats 0 in
theorem PySem.Challenge.cw_jumpcuts_k09_whole_common_holds : PySem.Challenge.rw_jumpcuts_k09_whole_common.Holds := by
  w_on; o_law; k_head; (case hw => w_witness2)
  k_fill
  refine JC.walk (l := PySem.Challenge.rw_jumpcuts_k09_whole_common) rfl rfl (fun w h Y => PySem.W.kIn_of Y) ?F
  case F =>
    intro w mg fa h KX G hmg
    refine' JC.all_mk KX G hmg ?a_nf ?l_nf ?c_nf ?k_nf ?a_ns ?l_ns ?c_ns ?k_ns ?a_nx ?l_nx ?c_nx ?k_nx ?a_sb ?l_sb ?c_sb ?k_sb ?a_ps ?l_ps ?c_ps ?k_ps ?a_ct ?l_ct ?c_ct ?k_ct ?a_cc ?l_cc ?c_cc ?k_cc ?a_cm ?l_cm ?c_cm ?k_cm ?a_lc ?l_lc ?c_lc ?k_lc ?a_me ?l_me ?c_me ?k_me ?a_tk ?l_tk ?c_tk ?k_tk ?a_al ?l_al ?c_al ?k_al ?a_is ?l_is ?c_is ?k_is ?a_fi ?l_fi ?c_fi ?k_fi ?a_ne ?l_ne ?c_ne ?k_ne ?a_aa ?l_aa ?c_aa ?k_aa ?a_pa ?l_pa ?c_pa ?k_pa ?a_lw ?l_lw ?c_lw ?k_lw ?z_range ?z_len ?z_isinstance ?z_str ?z_enumerate ?z_sorted ?z_set ?z_min ?z_max ?z_tuple ?z_list ?z_int ?z_bool ?v_let ?v_film ?v_goal
    (case a_nf => k_is)
    (case l_nf => k_is)
    (case c_nf => k_is)
    (case k_nf => k_is)
    (case a_ns => k_is)
    (case l_ns => k_is)
    (case c_ns => k_is)
    (case k_ns => k_is)
    (case a_nx => k_is)
    (case l_nx => k_is)
    (case c_nx => k_is)
    (case k_nx => k_is)
    (case a_sb => k_is)
    (case l_sb => k_is)
    (case c_sb => k_is)
    (case k_sb => k_is)
    (case a_ps => k_is)
    (case l_ps => k_is)
    (case c_ps => k_is)
    (case k_ps => k_is)
    (case a_ct => k_is)
    (case l_ct => k_is)
    (case c_ct => k_is)
    (case k_ct => k_is)
    (case a_cc => k_is)
    (case l_cc => k_is)
    (case c_cc => k_is)
    (case k_cc => k_is)
    (case a_cm => k_is)
    (case l_cm => k_is)
    (case c_cm => k_is)
    (case k_cm => k_is)
    (case a_lc => k_is)
    (case l_lc => k_is)
    (case c_lc => k_is)
    (case k_lc => k_is)
    (case a_me => k_is)
    (case l_me => k_is)
    (case c_me => k_is)
    (case k_me => k_is)
    (case a_tk => k_is)
    (case l_tk => k_is)
    (case c_tk => k_is)
    (case k_tk => k_is)
    (case a_al => k_is)
    (case l_al => k_is)
    (case c_al => k_is)
    (case k_al => k_is)
    (case a_is => k_is)
    (case l_is => k_is)
    (case c_is => k_is)
    (case k_is => k_is)
    (case a_fi => k_is)
    (case l_fi => k_is)
    (case c_fi => k_is)
    (case k_fi => k_is)
    (case a_ne => k_is)
    (case l_ne => k_is)
    (case c_ne => k_is)
    (case k_ne => k_is)
    (case a_aa => k_is)
    (case l_aa => k_is)
    (case c_aa => k_is)
    (case k_aa => k_is)
    (case a_pa => k_is)
    (case l_pa => k_is)
    (case c_pa => k_is)
    (case k_pa => k_is)
    (case a_lw => k_is)
    (case l_lw => k_is)
    (case c_lw => k_is)
    (case k_lw => k_is)
    (case z_range => k_is)
    (case z_len => k_is)
    (case z_isinstance => k_is)
    (case z_str => k_is)
    (case z_enumerate => k_is)
    (case z_sorted => k_is)
    (case z_set => k_is)
    (case z_min => k_is)
    (case z_max => k_is)
    (case z_tuple => k_is)
    (case z_list => k_is)
    (case z_int => k_is)
    (case z_bool => k_is)
    (case v_let => k_is)
    (case v_film => k_is)
    (case v_goal => k_is)

