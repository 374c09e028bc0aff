import PyProof.Rows.All
import Wide.All
import OpenK.AllK
import Wide.FinOn
import HandS.ForMost
import HandS.IsInst
import HandS.Steps
import HandS.ForExc
import HandS.Strs
import HandS.Zip
import HandS.Conv
import HandS.More
import HandS.SortInts
import HandS.Codes
import PyProof.Rows.SortShellAny
import PyProof.TupleOfSeq
import PyProof.AutoSeq1
import HandS.Rev
import HandS.Style
import HandS.TupLe
import KE.RegKIsAll
import PySem.Challenge.RW_wellroads_k05_whole_pairs_and_posts
set_option Elab.async false
set_option linter.all false
set_option maxRecDepth 100000
set_option maxHeartbeats 4000000
namespace Wr

structure Road where
  a : Int
  b : Int
  l : Int
  deriving DecidableEq, Repr

def Adj (rs : List Road) (u v l : Int) : Prop := ∃ r ∈ rs, r.l = l ∧ ((r.a = u ∧ r.b = v) ∨ (r.b = u ∧ r.a = v))
theorem Adj.symm {rs : List Road} {u v l : Int} (h : Adj rs u v l) : Adj rs v u l := by
  obtain ⟨r, hr, hl, h⟩ := h
  refine ⟨r, hr, hl, ?_⟩
  rcases h with ⟨x, y⟩ | ⟨x, y⟩
  · exact .inr ⟨y, x⟩
  · exact .inl ⟨y, x⟩
theorem Adj.mono {rs rs' : List Road} {u v l : Int} (h : Adj rs u v l) (hs : ∀ r ∈ rs, r ∈ rs') : Adj rs' u v l := by
  obtain ⟨r, hr, h⟩ := h
  exact ⟨r, hs r hr, h⟩

inductive Walk (rs : List Road) (s : Int) : Int → Int → Prop
  | nil : Walk rs s s 0
  | snoc {v w d l : Int} : Walk rs s v d → Adj rs v w l → Walk rs s w (d + l)
theorem Walk.mono {rs rs' : List Road} {s v d : Int} (h : Walk rs s v d) (hs : ∀ r ∈ rs, r ∈ rs') : Walk rs' s v d := by
  induction h with
  | nil => exact .nil
  | snoc _ a ih => exact .snoc ih (a.mono hs)
theorem Walk.cons {rs : List Road} {s t v d l : Int} (a : Adj rs s t l) (h : Walk rs t v d) : Walk rs s v (l + d) := by
  induction h with
  | nil =>
    have := Walk.snoc (Walk.nil (rs := rs) (s := s)) a
    have e : (0 : Int) + l = l + 0 := by omega
    rw [← e]; exact this
  | snoc h a' ih =>
    have := Walk.snoc ih a'
    rw [Int.add_assoc] at this
    exact this
theorem Walk.symm {rs : List Road} {s v d : Int} (h : Walk rs s v d) : Walk rs v s d := by
  induction h with
  | nil => exact .nil
  | snoc h a ih =>
    have := Walk.cons a.symm ih
    rw [Int.add_comm] at this
    exact this
theorem Walk.trans {rs : List Road} {s v w d e : Int} (h : Walk rs s v d) (g : Walk rs v w e) : Walk rs s w (d + e) := by
  induction g with
  | nil => rw [Int.add_zero]; exact h
  | snoc g a ih =>
    have := Walk.snoc ih a
    rw [Int.add_assoc] at this
    exact this

def Reach (rs : List Road) (u v : Int) : Prop := ∃ d, Walk rs u v d
theorem Reach.symm {rs : List Road} {u v : Int} (h : Reach rs u v) : Reach rs v u := let ⟨d, w⟩ := h; ⟨d, w.symm⟩
theorem Reach.trans {rs : List Road} {u v w : Int} (h : Reach rs u v) (g : Reach rs v w) : Reach rs u w := let ⟨_, a⟩ := h; let ⟨_, b⟩ := g; ⟨_, a.trans b⟩
theorem Reach.refl {rs : List Road} {u : Int} : Reach rs u u := ⟨0, .nil⟩

/-- roads between villages that are there -/
structure RoadsOk (n : Nat) (rs : List Road) : Prop where
  ok : ∀ r ∈ rs, 0 ≤ r.a ∧ r.a < n ∧ 0 ≤ r.b ∧ r.b < n ∧ r.a ≠ r.b ∧ 1 ≤ r.l ∧ r.l ≤ 1000000

structure IsTree (n : Nat) (rs : List Road) : Prop extends RoadsOk n rs where
  pos : 1 ≤ n
  le : n ≤ 12
  len : rs.length + 1 = n
  conn : ∀ v : Int, 0 ≤ v → v < n → Reach rs 0 v

theorem Adj.range {n : Nat} {rs : List Road} (k : RoadsOk n rs) {u v l : Int} (h : Adj rs u v l) : 0 ≤ u ∧ u < n ∧ 0 ≤ v ∧ v < n ∧ u ≠ v ∧ 1 ≤ l ∧ l ≤ 1000000 := by
  obtain ⟨r, hr, hl, h⟩ := h
  have := k.ok r hr
  grind

/-! ### what a walk finds -/
abbrev Found := List (Int × (Int × Int))
def keys (f : Found) : List Int := f.map (·.1)
def parOf (f : Found) (v : Int) : Int := ((f.lookup v).getD (-1, 0)).1
def dOf (f : Found) (v : Int) : Int := ((f.lookup v).getD (-1, 0)).2

theorem lookup_none_iff {f : Found} {v : Int} : f.lookup v = none ↔ v ∉ keys f := by
  induction f with
  | nil => simp [keys]
  | cons e f ih =>
    obtain ⟨k, x⟩ := e
    by_cases h : v = k
    · subst h; simp [keys, List.lookup]
    · have : (v == k) = false := by simpa using h
      simp only [List.lookup, this, ih, keys, List.map_cons, List.mem_cons, not_or]
      exact ⟨fun q => ⟨h, q⟩, fun q => q.2⟩
theorem lookup_isSome_iff {f : Found} {v : Int} : (f.lookup v).isSome = true ↔ v ∈ keys f := by
  cases h : f.lookup v with
  | none => simp [lookup_none_iff.mp h]
  | some x =>
    simp only [Option.isSome_some, true_iff]
    apply Classical.byContradiction
    intro q
    rw [lookup_none_iff.mpr q] at h; cases h
theorem lookup_append {f : Found} {e : Int × (Int × Int)} {v : Int} (h : e.1 ∉ keys f) : (f ++ [e]).lookup v = if v = e.1 then some e.2 else f.lookup v := by
  obtain ⟨k, x⟩ := e
  rw [List.lookup_append]
  by_cases hv : v = k
  · subst hv
    rw [lookup_none_iff.mpr h]
    simp [List.lookup]
  · have : (v == k) = false := by simpa using hv
    simp [List.lookup, this, hv]
theorem keys_append (f g : Found) : keys (f ++ g) = keys f ++ keys g := by simp [keys]

inductive Growth (rs : List Road) (s : Int) : Found → Prop
  | start : Growth rs s [(s, (-1, 0))]
  | snoc {f : Found} {v p l : Int} : Growth rs s f → p ∈ keys f → Adj rs p v l → v ∉ keys f → Growth rs s (f ++ [(v, (p, dOf f p + l))])

section
variable {n : Nat} {rs : List Road} {s : Int} {f : Found}
theorem Growth.nodup (g : Growth rs s f) : (keys f).Nodup := by
  induction g with
  | start => simp [keys]
  | snoc g hp ha hv ih =>
    rw [keys_append]
    refine List.nodup_append.mpr ⟨ih, by simp [keys], ?_⟩
    intro a ha' b hb
    simp [keys] at hb
    subst hb
    intro e; subst e; exact hv ha'
theorem Growth.mem_start (g : Growth rs s f) : s ∈ keys f := by
  induction g with
  | start => simp [keys]
  | snoc g hp ha hv ih => rw [keys_append]; exact List.mem_append_left _ ih
theorem Growth.look_start (g : Growth rs s f) : f.lookup s = some (-1, 0) := by
  induction g with
  | start => simp [List.lookup]
  | @snoc f v p l g hp ha hv ih =>
    rw [lookup_append (e := (v, (p, dOf f p + l))) hv, if_neg, ih]
    intro e
    have e : s = v := e
    exact hv (e ▸ g.mem_start)
theorem Growth.range (k : RoadsOk n rs) (hs : 0 ≤ s ∧ s < n) (g : Growth rs s f) : ∀ v ∈ keys f, 0 ≤ v ∧ v < n := by
  induction g with
  | start => intro v hv; simp [keys] at hv; subst hv; exact hs
  | snoc g hp ha hv ih =>
    intro v' hv'
    rw [keys_append] at hv'
    rcases List.mem_append.mp hv' with h | h
    · exact ih v' h
    · simp [keys] at h
      subst h
      have := ha.range k
      exact ⟨this.2.2.1, this.2.2.2.1⟩
/-- each later entry: its parent, the road -/
theorem Growth.entry (g : Growth rs s f) : ∀ v, v ∈ keys f → v ≠ s → ∃ p l, f.lookup v = some (p, dOf f p + l) ∧ p ∈ keys f ∧ Adj rs p v l := by
  induction g with
  | start => intro v hv hn; simp [keys] at hv; exact absurd hv hn
  | @snoc f v p l g hp ha hv ih =>
    intro v' hv' hn
    have dd : ∀ x, x ∈ keys f → dOf (f ++ [(v, (p, dOf f p + l))]) x = dOf f x := by
      intro x hx
      unfold dOf
      rw [lookup_append (e := (v, (p, _))) hv, if_neg (fun e => hv ((show x = v from e) ▸ hx))]
    rw [keys_append] at hv'
    by_cases e : v' = v
    · subst e
      refine ⟨p, l, ?_, ?_, ha⟩
      · rw [lookup_append (e := (v', (p, _))) hv, if_pos rfl, dd p hp]
      · rw [keys_append]; exact List.mem_append_left _ hp
    · have hv'' : v' ∈ keys f := by
        rcases List.mem_append.mp hv' with h | h
        · exact h
        · simp [keys] at h; exact absurd h e
      obtain ⟨p', l', h1, h2, h3⟩ := ih v' hv'' hn
      refine ⟨p', l', ?_, ?_, h3⟩
      · rw [lookup_append (e := (v, (p, _))) hv, if_neg e, h1, dd p' h2]
      · rw [keys_append]; exact List.mem_append_left _ h2
theorem Growth.walk (g : Growth rs s f) : ∀ v, v ∈ keys f → Walk rs s v (dOf f v) := by
  induction g with
  | start =>
    intro v hv; simp [keys] at hv; subst hv
    have : dOf [(v, (-1, 0))] v = 0 := by simp [dOf, List.lookup]
    rw [this]; exact .nil
  | @snoc f v p l g hp ha hv ih =>
    intro v' hv'
    rw [keys_append] at hv'
    by_cases e : v' = v
    · subst e
      have : dOf (f ++ [(v', (p, dOf f p + l))]) v' = dOf f p + l := by
        unfold dOf
        rw [lookup_append (e := (v', (p, _))) hv, if_pos rfl]; rfl
      rw [this]
      exact .snoc (ih p hp) ha
    · have hv'' : v' ∈ keys f := by
        rcases List.mem_append.mp hv' with h | h
        · exact h
        · simp [keys] at h; exact absurd h e
      have : dOf (f ++ [(v, (p, dOf f p + l))]) v' = dOf f v' := by
        unfold dOf
        rw [lookup_append (e := (v, (p, _))) hv, if_neg e]
      rw [this]
      exact ih v' hv''
def Used (f : Found) (r : Road) : Prop := (f.lookup r.b = some (r.a, dOf f r.a + r.l)) ∨ (f.lookup r.a = some (r.b, dOf f r.b + r.l))
/-- the roads that were used, each with its child -/
theorem Growth.used (g : Growth rs s f) : ∃ idx : List (Nat × Int), idx.length + 1 = f.length ∧ (idx.map (·.1)).Nodup ∧ (idx.map (·.2)).Nodup ∧
    ∀ q ∈ idx, ∃ r, rs[q.1]? = some r ∧ r.a ∈ keys f ∧ r.b ∈ keys f ∧ ((q.2 = r.b ∧ f.lookup r.b = some (r.a, dOf f r.a + r.l)) ∨ (q.2 = r.a ∧ f.lookup r.a = some (r.b, dOf f r.b + r.l))) := by
  induction g with
  | start => exact ⟨[], rfl, List.nodup_nil, List.nodup_nil, fun _ h => nomatch h⟩
  | @snoc f v p l g hp ha hv ih =>
    obtain ⟨idx, h1, h2, h3, h4⟩ := ih
    obtain ⟨r, hr, hl, hends⟩ := ha
    obtain ⟨i, hi, hri⟩ := List.getElem_of_mem hr
    have dd : ∀ x, x ∈ keys f → dOf (f ++ [(v, (p, dOf f p + l))]) x = dOf f x := by
      intro x hx
      unfold dOf
      rw [lookup_append (e := (v, (p, _))) hv, if_neg (fun e => hv ((show x = v from e) ▸ hx))]
    have ll : ∀ x, x ∈ keys f → (f ++ [(v, (p, dOf f p + l))]).lookup x = f.lookup x := by
      intro x hx
      rw [lookup_append (e := (v, (p, _))) hv, if_neg (fun e => hv ((show x = v from e) ▸ hx))]
    have kk : ∀ x, x ∈ keys f → x ∈ keys (f ++ [(v, (p, dOf f p + l))]) := fun x hx => by
      rw [keys_append]; exact List.mem_append_left _ hx
    have kv : v ∈ keys (f ++ [(v, (p, dOf f p + l))]) := by rw [keys_append]; simp [keys]
    have hin : i ∉ idx.map (·.1) := by
      intro hm
      obtain ⟨q, hq, e⟩ := List.mem_map.mp hm
      obtain ⟨r', hr', k1, k2, _⟩ := h4 q hq
      rw [e, List.getElem?_eq_getElem hi, hri] at hr'
      cases hr'
      rcases hends with ⟨e1, e2⟩ | ⟨e1, e2⟩
      · rw [e2] at k2; exact hv k2
      · rw [e2] at k1; exact hv k1
    have hvn : v ∉ idx.map (·.2) := by
      intro hm
      obtain ⟨q, hq, e⟩ := List.mem_map.mp hm
      obtain ⟨r', hr', k1, k2, k3⟩ := h4 q hq
      rcases k3 with ⟨e', _⟩ | ⟨e', _⟩
      · rw [e] at e'; rw [← e'] at k2; exact hv k2
      · rw [e] at e'; rw [← e'] at k1; exact hv k1
    refine ⟨(i, v) :: idx, by simp; omega, ?_, ?_, ?_⟩
    · rw [List.map_cons]; exact List.nodup_cons.mpr ⟨hin, h2⟩
    · rw [List.map_cons]; exact List.nodup_cons.mpr ⟨hvn, h3⟩
    · intro q hq
      rcases (List.mem_cons.mp hq) with rfl | hq
      · refine ⟨r, by rw [List.getElem?_eq_getElem hi, hri], ?_⟩
        have lv : (f ++ [(v, (p, dOf f p + l))]).lookup v = some (p, dOf f p + l) := by
          rw [lookup_append (e := (v, (p, _))) hv, if_pos rfl]
        rcases hends with ⟨e1, e2⟩ | ⟨e1, e2⟩
        · refine ⟨by rw [e1]; exact kk p hp, by rw [e2]; exact kv, .inl ⟨e2.symm, ?_⟩⟩
          rw [e2, lv, e1, dd p hp, hl]
        · refine ⟨by rw [e2]; exact kv, by rw [e1]; exact kk p hp, .inr ⟨e2.symm, ?_⟩⟩
          rw [e2, lv, e1, dd p hp, hl]
      · obtain ⟨r', hr', k1, k2, k3⟩ := h4 q hq
        refine ⟨r', hr', kk _ k1, kk _ k2, ?_⟩
        rcases k3 with ⟨e', k3⟩ | ⟨e', k3⟩
        · exact .inl ⟨e', by rw [ll _ k2, k3, dd _ k1]⟩
        · exact .inr ⟨e', by rw [ll _ k1, k3, dd _ k2]⟩
end

/-! ### a full one: every village is found -/
structure Full (n : Nat) (rs : List Road) (s : Int) (f : Found) : Prop where
  gr : Growth rs s f
  all : ∀ v : Int, 0 ≤ v → v < n → v ∈ keys f
def ivs (n : Nat) : List Int := (List.range n).map fun (i : Nat) => (i : Int)
theorem mem_ivs {n : Nat} {v : Int} : v ∈ ivs n ↔ 0 ≤ v ∧ v < n := by
  unfold ivs
  rw [List.mem_map]
  constructor
  · rintro ⟨i, hi, rfl⟩
    have := List.mem_range.mp hi
    omega
  · intro h
    exact ⟨v.toNat, List.mem_range.mpr (by omega), by omega⟩
theorem ivs_nodup (n : Nat) : (ivs n).Nodup := by
  unfold ivs List.Nodup
  rw [List.pairwise_map]
  exact List.Pairwise.imp (R := fun (a b : Nat) => a ≠ b) (fun {a b} (h : a ≠ b) (e : (a : Int) = (b : Int)) => h (by omega)) List.nodup_range
theorem ivs_length (n : Nat) : (ivs n).length = n := by simp [ivs]
section
variable {n : Nat} {rs : List Road} {s : Int} {f : Found}
theorem Full.length (k : RoadsOk n rs) (hs : 0 ≤ s ∧ s < n) (F : Full n rs s f) : f.length = n := by
  have h1 : (keys f).length ≤ (ivs n).length := List.Nodup.length_le_of_subset F.gr.nodup fun v hv => mem_ivs.mpr (F.gr.range k hs v hv)
  have h2 : (ivs n).length ≤ (keys f).length := List.Nodup.length_le_of_subset (ivs_nodup n) fun v hv => F.all v (mem_ivs.mp hv).1 (mem_ivs.mp hv).2
  rw [ivs_length] at h1 h2
  simp [keys] at h1 h2
  omega
theorem Growth.length_le (k : RoadsOk n rs) (hs : 0 ≤ s ∧ s < n) (g : Growth rs s f) : f.length ≤ n := by
  have h1 : (keys f).length ≤ (ivs n).length := List.Nodup.length_le_of_subset g.nodup fun v hv => mem_ivs.mpr (g.range k hs v hv)
  rw [ivs_length] at h1
  simpa [keys] using h1
theorem pigeon {k : Nat} {l : List Nat} (nd : l.Nodup) (hl : ∀ i ∈ l, i < k) (e : l.length = k) : ∀ i, i < k → i ∈ l := by
  intro i hi
  apply Classical.byContradiction
  intro hn
  have h := List.Nodup.length_le_of_subset (l₁ := i :: l) (l₂ := List.range k) (List.nodup_cons.mpr ⟨hn, nd⟩) (fun x hx => by
    rcases (List.mem_cons.mp hx) with rfl | hx
    · exact List.mem_range.mpr hi
    · exact List.mem_range.mpr (hl x hx))
  rw [List.length_range, List.length_cons] at h
  omega
theorem Full.idx (T : IsTree n rs) (hs : 0 ≤ s ∧ s < n) (F : Full n rs s f) : ∃ idx : List (Nat × Int), (idx.map (·.1)).Nodup ∧ (idx.map (·.2)).Nodup ∧ (∀ i, i < rs.length → ∃ v, (i, v) ∈ idx) ∧
    ∀ q ∈ idx, ∃ r, rs[q.1]? = some r ∧ r.a ∈ keys f ∧ r.b ∈ keys f ∧ ((q.2 = r.b ∧ f.lookup r.b = some (r.a, dOf f r.a + r.l)) ∨ (q.2 = r.a ∧ f.lookup r.a = some (r.b, dOf f r.b + r.l))) := by
  obtain ⟨idx, h1, h2, h3, h4⟩ := F.gr.used
  refine ⟨idx, h2, h3, fun i hi => ?_, h4⟩
  have el : (idx.map (·.1)).length = rs.length := by
    have := F.length T.toRoadsOk hs
    have := T.len
    rw [List.length_map]; omega
  have := pigeon h2 (k := rs.length) (fun j hj => by
    obtain ⟨q, hq, e⟩ := List.mem_map.mp hj
    obtain ⟨r, hr, _⟩ := h4 q hq
    rw [e] at hr
    exact (List.getElem?_eq_some_iff.mp hr).1) el i hi
  obtain ⟨q, hq, e⟩ := (List.mem_map.mp this)
  exact ⟨q.2, by rw [← e]; exact hq⟩
/-- every road was used -/
theorem Full.used (T : IsTree n rs) (hs : 0 ≤ s ∧ s < n) (F : Full n rs s f) : ∀ r ∈ rs, Used f r := by
  intro r hr
  obtain ⟨idx, _, _, h3, h4⟩ := F.idx T hs
  obtain ⟨i, hi, hri⟩ := List.getElem_of_mem hr
  obtain ⟨v, hv⟩ := h3 i hi
  obtain ⟨r', hr', _, _, h⟩ := h4 _ hv
  rw [List.getElem?_eq_getElem hi, hri] at hr'
  cases hr'
  rcases h with ⟨_, h⟩ | ⟨_, h⟩
  · exact .inl h
  · exact .inr h
theorem dOf_of {v p d : Int} (h : f.lookup v = some (p, d)) : dOf f v = d := by unfold dOf; rw [h]; rfl
theorem parOf_of {v p d : Int} (h : f.lookup v = some (p, d)) : parOf f v = p := by unfold parOf; rw [h]; rfl
def SameEnds (r t : Road) : Prop := (r.a = t.a ∧ r.b = t.b) ∨ (r.a = t.b ∧ r.b = t.a)
theorem nodup_fst {idx : List (Nat × Int)} (h : (idx.map (·.2)).Nodup) {i j : Nat} {v : Int} (hi : (i, v) ∈ idx) (hj : (j, v) ∈ idx) : i = j := by
  induction idx with
  | nil => cases hi
  | cons e t ih =>
    simp only [List.map_cons, List.nodup_cons] at h
    rcases List.mem_cons.mp hi with h1 | h1 <;> rcases List.mem_cons.mp hj with h2 | h2
    · have := h1.trans h2.symm; exact (Prod.mk.inj this).1
    · exact absurd (List.mem_map.mpr ⟨_, h2, by rw [← h1]⟩) h.1
    · exact absurd (List.mem_map.mpr ⟨_, h1, by rw [← h2]⟩) h.1
    · exact ih h.2 h1 h2
/-- no two roads between the same villages -/
theorem Full.single (T : IsTree n rs) (hs : 0 ≤ s ∧ s < n) (F : Full n rs s f) {i j : Nat} {r t : Road} (hi : rs[i]? = some r) (hj : rs[j]? = some t) (he : SameEnds r t) : i = j := by
  obtain ⟨idx, _, h2, h3, h4⟩ := F.idx T hs
  have hi' := (List.getElem?_eq_some_iff.mp hi).1
  have hj' := (List.getElem?_eq_some_iff.mp hj).1
  obtain ⟨v, hv⟩ := h3 i hi'
  obtain ⟨w, hw⟩ := h3 j hj'
  obtain ⟨r', hr', _, _, k1⟩ := h4 _ hv
  obtain ⟨t', ht', _, _, k2⟩ := h4 _ hw
  rw [hi] at hr'; cases hr'
  rw [hj] at ht'; cases ht'
  have o1 := T.ok r (List.mem_of_getElem? hi)
  have o2 := T.ok t (List.mem_of_getElem? hj)
  by_cases e : v = w
  · subst e; exact nodup_fst h2 hv hw
  · exfalso
    unfold SameEnds at he
    rcases k1 with ⟨e1, k1⟩ | ⟨e1, k1⟩ <;> rcases k2 with ⟨e2, k2⟩ | ⟨e2, k2⟩
    all_goals
      have d1 := dOf_of k1
      have d2 := dOf_of k2
      rcases he with ⟨x1, x2⟩ | ⟨x1, x2⟩
      all_goals
        simp only at e1 e2
        first
          | (exact e (by rw [e1, e2]; assumption))
          | (exact e (by rw [e1, e2]; first | exact x1 | exact x2))
          | (rw [x1] at d1; rw [x2] at d1; omega)
          | (rw [x1, x2] at d1; omega)
          | grind
end
end Wr

namespace Wr

def scan (here : Int) : List Road → Found → List Int → Found × List Int
  | [], f, w => (f, w)
  | r :: rs, f, w =>
    if here = r.a ∨ here = r.b then
      if (f.lookup (r.a + r.b - here)).isSome then scan here rs f w
      else scan here rs (f ++ [(r.a + r.b - here, (here, dOf f here + r.l))]) (w ++ [r.a + r.b - here])
    else scan here rs f w
theorem scan_cons (here : Int) (r : Road) (rs : List Road) (f : Found) (w : List Int) : scan here (r :: rs) f w = if here = r.a ∨ here = r.b then
      if (f.lookup (r.a + r.b - here)).isSome then scan here rs f w
      else scan here rs (f ++ [(r.a + r.b - here, (here, dOf f here + r.l))]) (w ++ [r.a + r.b - here])
    else scan here rs f w := rfl
def bfsGo (rs : List Road) : Nat → Found → List Int → Found
  | 0, f, _ => f
  | _ + 1, f, [] => f
  | k + 1, f, h :: t => bfsGo rs k (scan h rs f t).1 (scan h rs f t).2
/-- what Tree.walked finds -/
def walked (n : Nat) (rs : List Road) (s : Int) : Found := bfsGo rs n [(s, (-1, 0))] [s]

section
variable {n : Nat} {rs : List Road} {s : Int} {f : Found}
theorem scan_spec (here : Int) : ∀ (rs' : List Road) (f : Found) (w : List Int), (∀ r ∈ rs', r ∈ rs) → Growth rs s f → here ∈ keys f →
    Growth rs s (scan here rs' f w).1 ∧ (∃ more : Found, (scan here rs' f w).1 = f ++ more ∧ (scan here rs' f w).2 = w ++ keys more) ∧
    ∀ r ∈ rs', (here = r.a ∨ here = r.b) → (r.a + r.b - here) ∈ keys (scan here rs' f w).1
  | [], f, w, _, g, _ => ⟨g, ⟨[], by simp [scan], by simp [scan, keys]⟩, fun _ h => nomatch h⟩
  | r :: rs', f, w, hs, g, hh => by
    unfold scan
    by_cases c : here = r.a ∨ here = r.b
    · rw [if_pos c]
      by_cases d : (f.lookup (r.a + r.b - here)).isSome = true
      · rw [if_pos d]
        obtain ⟨h1, ⟨more, h2, h3⟩, h4⟩ := scan_spec here rs' f w (fun r h => hs r (List.mem_cons_of_mem _ h)) g hh
        refine ⟨h1, ⟨more, h2, h3⟩, fun r' hr' c' => ?_⟩
        rcases List.mem_cons.mp hr' with rfl | hr'
        · rw [h2, keys_append]
          exact List.mem_append_left _ (lookup_isSome_iff.mp d)
        · exact h4 r' hr' c'
      · rw [if_neg d]
        have hv : (r.a + r.b - here) ∉ keys f := fun q => d (lookup_isSome_iff.mpr q)
        have ad : Adj rs here (r.a + r.b - here) r.l := by
          refine ⟨r, hs r (List.mem_cons_self ..), rfl, ?_⟩
          rcases c with c | c
          · exact .inl ⟨c.symm, by omega⟩
          · exact .inr ⟨c.symm, by omega⟩
        have g' := Growth.snoc g hh ad hv
        obtain ⟨h1, ⟨more, h2, h3⟩, h4⟩ := scan_spec here rs' (f ++ [(r.a + r.b - here, (here, dOf f here + r.l))]) (w ++ [r.a + r.b - here]) (fun r h => hs r (List.mem_cons_of_mem _ h)) g' (by rw [keys_append]; exact List.mem_append_left _ hh)
        refine ⟨h1, ⟨(r.a + r.b - here, (here, dOf f here + r.l)) :: more, by rw [h2]; simp, by rw [h3]; simp [keys]⟩, fun r' hr' c' => ?_⟩
        rcases List.mem_cons.mp hr' with rfl | hr'
        · rw [h2, keys_append, keys_append]
          exact List.mem_append_left _ (List.mem_append_right _ (by simp [keys]))
        · exact h4 r' hr' c'
    · rw [if_neg c]
      obtain ⟨h1, ⟨more, h2, h3⟩, h4⟩ := scan_spec here rs' f w (fun r h => hs r (List.mem_cons_of_mem _ h)) g hh
      refine ⟨h1, ⟨more, h2, h3⟩, fun r' hr' c' => ?_⟩
      rcases List.mem_cons.mp hr' with rfl | hr'
      · exact absurd c' c
      · exact h4 r' hr' c'
def Closed (rs : List Road) (f : Found) : Prop := ∀ u v l, u ∈ keys f → Adj rs u v l → v ∈ keys f
theorem bfsGo_spec (k : RoadsOk n rs) (hs : 0 ≤ s ∧ s < n) : ∀ (m : Nat) (f : Found) (w : List Int), Growth rs s f → (∀ x ∈ w, x ∈ keys f) →
    (∀ u ∈ keys f, u ∈ w ∨ ∀ v l, Adj rs u v l → v ∈ keys f) → n + w.length ≤ f.length + m → Growth rs s (bfsGo rs m f w) ∧ Closed rs (bfsGo rs m f w)
  | 0, f, w, g, hw, hc, hm => by
    unfold bfsGo
    have := g.length_le k hs
    have w0 : w = [] := List.eq_nil_of_length_eq_zero (by omega)
    subst w0
    refine ⟨g, fun u v l hu ha => ?_⟩
    rcases hc u hu with h | h
    · cases h
    · exact h v l ha
  | m + 1, f, [], g, hw, hc, hm => by
    unfold bfsGo
    refine ⟨g, fun u v l hu ha => ?_⟩
    rcases hc u hu with h | h
    · cases h
    · exact h v l ha
  | m + 1, f, h :: t, g, hw, hc, hm => by
    unfold bfsGo
    have hh := hw h (List.mem_cons_self ..)
    obtain ⟨h1, ⟨more, h2, h3⟩, h4⟩ := scan_spec (rs := rs) h rs f t (fun _ q => q) g hh
    refine bfsGo_spec k hs m _ _ h1 ?_ ?_ ?_
    · intro x hx
      rw [h3] at hx
      rw [h2, keys_append]
      rcases List.mem_append.mp hx with q | q
      · exact List.mem_append_left _ (hw x (List.mem_cons_of_mem _ q))
      · exact List.mem_append_right _ q
    · intro u hu
      rw [h3]
      rw [h2, keys_append] at hu
      rcases List.mem_append.mp hu with q | q
      · by_cases e : u = h
        · subst e
          refine .inr fun v l ⟨r, hr, _, ends⟩ => ?_
          rcases ends with ⟨e1, e2⟩ | ⟨e1, e2⟩
          · have := h4 r hr (.inl e1.symm)
            rw [show r.a + r.b - u = v by omega] at this
            exact this
          · have := h4 r hr (.inr e1.symm)
            rw [show r.a + r.b - u = v by omega] at this
            exact this
        · rcases hc u q with q' | q'
          · rcases List.mem_cons.mp q' with q' | q'
            · exact absurd q' e
            · exact .inl (List.mem_append_left _ q')
          · refine .inr fun v l ha => ?_
            rw [h2, keys_append]
            exact List.mem_append_left _ (q' v l ha)
      · exact .inl (List.mem_append_right _ q)
    · rw [h2, h3]
      simp [keys] at hm ⊢
      omega
theorem walked_spec (k : RoadsOk n rs) (hs : 0 ≤ s ∧ s < n) : Growth rs s (walked n rs s) ∧ Closed rs (walked n rs s) := by
  unfold walked
  refine bfsGo_spec k hs n _ _ .start (fun x hx => by simpa [keys] using hx) (fun u hu => .inl (by simpa [keys] using hu)) (by simp; omega)
theorem Closed.reach (c : Closed rs f) {u v d : Int} (w : Walk rs u v d) (hu : u ∈ keys f) : v ∈ keys f := by
  induction w with
  | nil => exact hu
  | snoc _ a ih => exact c _ _ _ ih a
theorem IsTree.reach (T : IsTree n rs) {u v : Int} (hu : 0 ≤ u ∧ u < n) (hv : 0 ≤ v ∧ v < n) : Reach rs u v := (T.conn u hu.1 hu.2).symm.trans (T.conn v hv.1 hv.2)
theorem IsTree.full (T : IsTree n rs) (hs : 0 ≤ s ∧ s < n) (g : Growth rs s f) (c : Closed rs f) : Full n rs s f :=
  ⟨g, fun v h1 h2 => let ⟨_, w⟩ := T.reach hs ⟨h1, h2⟩; c.reach w g.mem_start⟩
theorem IsTree.walked (T : IsTree n rs) (hs : 0 ≤ s ∧ s < n) : Full n rs s (walked n rs s) :=
  let ⟨g, c⟩ := walked_spec T.toRoadsOk hs
  T.full hs g c
/-- so many villages come to: then it is a tree -/
theorem tree_of_len (k : RoadsOk n rs) (h1 : 1 ≤ n) (h2 : n ≤ 12) (h3 : rs.length + 1 = n) (h4 : ¬ ((walked n rs 0).length < n)) : IsTree n rs := by
  refine ⟨k, h1, h2, h3, fun v hv hv2 => ?_⟩
  have hs : (0 : Int) ≤ 0 ∧ (0 : Int) < n := ⟨Int.le_refl _, by omega⟩
  obtain ⟨g, c⟩ := walked_spec k hs
  have : v ∈ keys (walked n rs 0) := by
    apply Classical.byContradiction
    intro hn
    have := List.Nodup.length_le_of_subset (l₁ := v :: keys (walked n rs 0)) (l₂ := ivs n) (List.nodup_cons.mpr ⟨hn, g.nodup⟩) (fun x hx => by
      rcases (List.mem_cons.mp hx) with rfl | hx
      · exact mem_ivs.mpr ⟨hv, hv2⟩
      · exact mem_ivs.mpr (g.range k hs x hx))
    rw [ivs_length, List.length_cons] at this
    simp [keys] at this
    omega
  exact ⟨_, g.walk v this⟩
theorem IsTree.len_walked (T : IsTree n rs) (hs : 0 ≤ s ∧ s < n) : (Wr.walked n rs s).length = n := (T.walked hs).length T.toRoadsOk hs

/-! ### distances -/
def D (n : Nat) (rs : List Road) (s v : Int) : Int := dOf (walked n rs s) v
theorem Full.step (T : IsTree n rs) (hs : 0 ≤ s ∧ s < n) (F : Full n rs s f) {u v l : Int} (a : Adj rs u v l) : dOf f v = dOf f u + l ∨ dOf f u = dOf f v + l := by
  obtain ⟨r, hr, rfl, ends⟩ := a
  have := F.used T hs r hr
  rcases this with h | h
  · have := dOf_of h
    rcases ends with ⟨rfl, rfl⟩ | ⟨rfl, rfl⟩
    · exact .inl this
    · exact .inr this
  · have := dOf_of h
    rcases ends with ⟨rfl, rfl⟩ | ⟨rfl, rfl⟩
    · exact .inr this
    · exact .inl this
theorem dOf_start (g : Growth rs s f) : dOf f s = 0 := dOf_of g.look_start
theorem Full.least (T : IsTree n rs) (hs : 0 ≤ s ∧ s < n) (F : Full n rs s f) {v d : Int} (w : Walk rs s v d) : dOf f v ≤ d := by
  induction w with
  | nil => rw [dOf_start F.gr]; exact Int.le_refl _
  | snoc _ a ih =>
    have := (a.range T.toRoadsOk).2.2.2.2.2.1
    rcases F.step T hs a with h | h <;> omega
theorem Full.dist (T : IsTree n rs) (hs : 0 ≤ s ∧ s < n) (F : Full n rs s f) {v : Int} (hv : 0 ≤ v ∧ v < n) : dOf f v = D n rs s v := by
  have G := T.walked hs
  have h1 := F.least T hs (G.gr.walk v (G.all v hv.1 hv.2))
  have h2 := G.least T hs (F.gr.walk v (F.all v hv.1 hv.2))
  unfold D
  omega
theorem D_self (T : IsTree n rs) (hs : 0 ≤ s ∧ s < n) : D n rs s s = 0 := dOf_start (T.walked hs).gr
theorem D_walk (T : IsTree n rs) (hs : 0 ≤ s ∧ s < n) {v : Int} (hv : 0 ≤ v ∧ v < n) : Walk rs s v (D n rs s v) := (T.walked hs).gr.walk v ((T.walked hs).all v hv.1 hv.2)
theorem D_least (T : IsTree n rs) (hs : 0 ≤ s ∧ s < n) {v d : Int} (w : Walk rs s v d) : D n rs s v ≤ d := (T.walked hs).least T hs w
theorem D_symm (T : IsTree n rs) {u v : Int} (hu : 0 ≤ u ∧ u < n) (hv : 0 ≤ v ∧ v < n) : D n rs u v = D n rs v u := by
  have h1 := D_least T hu (D_walk T hv hu).symm
  have h2 := D_least T hv (D_walk T hu hv).symm
  omega
theorem D_tri (T : IsTree n rs) {u v w : Int} (hu : 0 ≤ u ∧ u < n) (hv : 0 ≤ v ∧ v < n) (hw : 0 ≤ w ∧ w < n) : D n rs u w ≤ D n rs u v + D n rs v w :=
  D_least T hu ((D_walk T hu hv).trans (D_walk T hv hw))
theorem Walk.nonneg (k : RoadsOk n rs) {u v d : Int} (w : Walk rs u v d) : 0 ≤ d := by
  induction w with
  | nil => exact Int.le_refl _
  | snoc _ a ih => have := (a.range k).2.2.2.2.2.1; omega
theorem D_nonneg (T : IsTree n rs) {u v : Int} (hu : 0 ≤ u ∧ u < n) (hv : 0 ≤ v ∧ v < n) : 0 ≤ D n rs u v := (D_walk T hu hv).nonneg T.toRoadsOk
/-- A: each road goes up or down -/
theorem D_step (T : IsTree n rs) (hs : 0 ≤ s ∧ s < n) {u v l : Int} (a : Adj rs u v l) : D n rs s v = D n rs s u + l ∨ D n rs s u = D n rs s v + l := (T.walked hs).step T hs a
/-- B: one parent -/
theorem D_par (T : IsTree n rs) (hs : 0 ≤ s ∧ s < n) {u v l : Int} (a : Adj rs u v l) (h : D n rs s v = D n rs s u + l) : (Wr.walked n rs s).lookup v = some (u, D n rs s v) := by
  obtain ⟨r, hr, rfl, ends⟩ := a
  have := T.ok r hr
  have used := (T.walked hs).used T hs r hr
  unfold D at h ⊢
  rcases used with q | q
  · have e := dOf_of q
    rcases ends with ⟨rfl, rfl⟩ | ⟨rfl, rfl⟩
    · rw [q]; simp; omega
    · omega
  · have e := dOf_of q
    rcases ends with ⟨rfl, rfl⟩ | ⟨rfl, rfl⟩
    · omega
    · rw [q]; simp; omega
theorem D_par_unique (T : IsTree n rs) (hs : 0 ≤ s ∧ s < n) {u u' v l l' : Int} (a : Adj rs u v l) (h : D n rs s v = D n rs s u + l) (a' : Adj rs u' v l') (h' : D n rs s v = D n rs s u' + l') : u = u' := by
  have h1 := D_par T hs a h
  have h2 := D_par T hs a' h'
  rw [h1] at h2
  injection h2 with h2
  exact congrArg Prod.fst h2
/-- P4: there is a parent -/
theorem D_parent (T : IsTree n rs) (hs : 0 ≤ s ∧ s < n) {v : Int} (hv : 0 ≤ v ∧ v < n) (hn : v ≠ s) : ∃ p l, (Wr.walked n rs s).lookup v = some (p, D n rs s v) ∧ Adj rs p v l ∧ D n rs s v = D n rs s p + l ∧ 0 ≤ p ∧ p < n := by
  have F := T.walked hs
  obtain ⟨p, l, h1, h2, h3⟩ := F.gr.entry v (F.all v hv.1 hv.2) hn
  have e := dOf_of h1
  have r := F.gr.range T.toRoadsOk hs p h2
  refine ⟨p, l, ?_, h3, e, r.1, r.2⟩
  rw [h1]
  unfold D
  rw [e]
theorem D_edge (T : IsTree n rs) {u v l : Int} (a : Adj rs u v l) : D n rs u v = l := by
  have r := a.range T.toRoadsOk
  have hu : 0 ≤ u ∧ u < n := ⟨r.1, r.2.1⟩
  have hv : 0 ≤ v ∧ v < n := ⟨r.2.2.1, r.2.2.2.1⟩
  have := D_self T hu
  have := D_nonneg T hu hv
  rcases D_step T hu a with h | h <;> omega
theorem D_pos (T : IsTree n rs) {u v : Int} (hu : 0 ≤ u ∧ u < n) (hv : 0 ≤ v ∧ v < n) (hn : v ≠ u) : 0 < D n rs u v := by
  obtain ⟨p, l, _, a, h, hp1, hp2⟩ := D_parent T hu hv hn
  have := (a.range T.toRoadsOk).2.2.2.2.2.1
  have := D_nonneg T hu ⟨hp1, hp2⟩
  omega
end
end Wr

namespace Wr

/-- up from x to the start o of a found one -/
inductive Down (f : Found) (o : Int) : Int → List Int → Prop
  | last : Down f o o [o]
  | step {x p d : Int} {q : List Int} : x ≠ o → f.lookup x = some (p, d) → Down f o p q → Down f o x (x :: q)
def wayGo (f : Found) (o : Int) : Nat → Int → List Int
  | 0, x => [x]
  | k + 1, x => if x = o then [x] else x :: wayGo f o k (parOf f x)
def wayL (n : Nat) (rs : List Road) (u v : Int) : List Int := wayGo (walked n rs v) v (D n rs v u).toNat u
section
variable {n : Nat} {rs : List Road} {s o : Int} {f : Found}
theorem wayGo_down (T : IsTree n rs) (ho : 0 ≤ o ∧ o < n) : ∀ (k : Nat) (x : Int), 0 ≤ x → x < n → D n rs o x ≤ k → Down (walked n rs o) o x (wayGo (walked n rs o) o k x)
  | 0, x, h0, h1, hd => by
    have e : x = o := by
      apply Classical.byContradiction
      intro hn
      have := D_pos T ho ⟨h0, h1⟩ hn
      omega
    subst e
    exact .last
  | k + 1, x, h0, h1, hd => by
    unfold wayGo
    by_cases e : x = o
    · rw [if_pos e, e]; exact .last
    · rw [if_neg e]
      obtain ⟨p, l, h, a, hD, hp0, hp1⟩ := D_parent T ho ⟨h0, h1⟩ e
      have := (a.range T.toRoadsOk).2.2.2.2.2.1
      rw [parOf_of h]
      exact .step e h (wayGo_down T ho k p hp0 hp1 (by omega))
theorem wayL_down (T : IsTree n rs) {u v : Int} (hu : 0 ≤ u ∧ u < n) (hv : 0 ≤ v ∧ v < n) : Down (walked n rs v) v u (wayL n rs u v) :=
  wayGo_down T hv _ u hu.1 hu.2 (by have := D_nonneg T hv hu; omega)
theorem Down.head {x : Int} {q : List Int} (h : Down f o x q) : ∃ t, q = x :: t := by
  cases h with
  | last => exact ⟨[], rfl⟩
  | step => exact ⟨_, rfl⟩
theorem Down.getLast {x : Int} {q : List Int} (h : Down f o x q) : q.getLast? = some o := by
  induction h with
  | last => rfl
  | step _ _ h ih =>
    obtain ⟨t, rfl⟩ := h.head
    rw [List.getLast?_cons_cons]; exact ih
theorem Down.eq {x : Int} {q r : List Int} (h : Down f o x q) (g : Down f o x r) : q = r := by
  induction h generalizing r with
  | last => cases g with | last => rfl | step hn => exact absurd rfl hn
  | step hn hl h ih =>
    cases g with
    | last => exact absurd rfl hn
    | step _ hl' g =>
      rw [hl] at hl'
      injection hl' with e
      injection e with e1 e2
      subst e1
      rw [ih g]
/-- all of it stands, nearer and nearer -/
theorem Down.facts (T : IsTree n rs) (ho : 0 ≤ o ∧ o < n) {x : Int} {q : List Int} (h : Down (walked n rs o) o x q) (hx : 0 ≤ x ∧ x < n) :
    q.Nodup ∧ ∀ y ∈ q, 0 ≤ y ∧ y < n ∧ D n rs o y ≤ D n rs o x := by
  induction h with
  | last => exact ⟨by simp, fun y hy => by simp at hy; subst hy; exact ⟨hx.1, hx.2, Int.le_refl _⟩⟩
  | @step x p d q hn hl h ih =>
    obtain ⟨p', l, h', a, hD, hp0, hp1⟩ := D_parent T ho hx hn
    rw [hl] at h'
    injection h' with e
    injection e with e1 e2
    subst e1
    have := (a.range T.toRoadsOk).2.2.2.2.2.1
    obtain ⟨i1, i2⟩ := ih ⟨hp0, hp1⟩
    refine ⟨List.nodup_cons.mpr ⟨fun hm => ?_, i1⟩, fun y hy => ?_⟩
    · have := (i2 x hm).2.2
      omega
    · rcases (List.mem_cons.mp hy) with rfl | hy
      · exact ⟨hx.1, hx.2, Int.le_refl _⟩
      · have := i2 y hy
        exact ⟨this.1, this.2.1, by omega⟩
theorem wayL_len (T : IsTree n rs) {u v : Int} (hu : 0 ≤ u ∧ u < n) (hv : 0 ≤ v ∧ v < n) : (wayL n rs u v).length ≤ n := by
  obtain ⟨h1, h2⟩ := (wayL_down T hu hv).facts T hv hu
  have := List.Nodup.length_le_of_subset (l₂ := ivs n) h1 fun y hy => mem_ivs.mpr ⟨(h2 y hy).1, (h2 y hy).2.1⟩
  rwa [ivs_length] at this
/-- the rows of distances -/
def rowD (n : Nat) (rs : List Road) (s : Int) : List Int := (ivs n).map fun v => D n rs s v
def rowsD (n : Nat) (rs : List Road) : List (List Int) := (ivs n).map fun s => rowD n rs s

/-! ### the law's own walk -/
def relax1 (g : List (Int × Int)) (r : Road) : List (Int × Int) :=
  match g.lookup r.a, g.lookup r.b with
  | some d, none => g ++ [(r.b, d + r.l)]
  | none, some d => g ++ [(r.a, d + r.l)]
  | _, _ => g
def relaxP (rs : List Road) (g : List (Int × Int)) : List (Int × Int) := rs.foldl relax1 g
def relaxN (rs : List Road) : Nat → List (Int × Int) → List (Int × Int)
  | 0, g => g
  | k + 1, g => relaxN rs k (relaxP rs g)
def ownFound (n : Nat) (rs : List Road) (s : Int) : List (Int × Int) := relaxN rs n [(s, 0)]
def prj (f : Found) : List (Int × Int) := f.map fun e => (e.1, e.2.2)
theorem prj_lookup (v : Int) : ∀ f : Found, (prj f).lookup v = (f.lookup v).map (·.2)
  | [] => rfl
  | (k, x) :: f => by
    by_cases e : v = k
    · subst e; simp [prj, List.lookup]
    · have hb : (v == k) = false := by simpa using e
      have := prj_lookup v f
      simp only [prj, List.map_cons, List.lookup, hb] at this ⊢
      exact this
theorem prj_len (f : Found) : (prj f).length = f.length := by simp [prj]
/-- both ends or none -/
def Settled (f : Found) (r : Road) : Prop := r.a ∈ keys f ↔ r.b ∈ keys f
theorem look_dOf {v : Int} (h : v ∈ keys f) : ∃ p, f.lookup v = some (p, dOf f v) := by
  cases e : f.lookup v with
  | none => exact absurd h (lookup_none_iff.mp e)
  | some x => exact ⟨x.1, by rw [dOf_of (p := x.1) (d := x.2) e]⟩
theorem relax1_growth (g : Growth rs s f) {r : Road} (hr : r ∈ rs) : ∃ f', Growth rs s f' ∧ relax1 (prj f) r = prj f' ∧ (∃ more, f' = f ++ more) ∧ (f' = f → Settled f r) ∧ (¬ Settled f r → f.length < f'.length) ∧ (Settled f r → f' = f) := by
  unfold relax1
  rw [prj_lookup, prj_lookup]
  by_cases ha : r.a ∈ keys f <;> by_cases hb : r.b ∈ keys f
  · obtain ⟨p, e1⟩ := look_dOf ha
    obtain ⟨q, e2⟩ := look_dOf hb
    rw [e1, e2]
    exact ⟨f, g, rfl, ⟨[], by simp⟩, fun _ => ⟨fun _ => hb, fun _ => ha⟩, fun h => absurd ⟨fun _ => hb, fun _ => ha⟩ h, fun _ => rfl⟩
  · obtain ⟨p, e1⟩ := look_dOf ha
    rw [e1, lookup_none_iff.mpr hb]
    refine ⟨f ++ [(r.b, (r.a, dOf f r.a + r.l))], .snoc g ha ⟨r, hr, rfl, .inl ⟨rfl, rfl⟩⟩ hb, by simp [prj], ⟨_, rfl⟩, fun h => ?_, fun _ => by simp, fun h => absurd (h.mp ha) hb⟩
    have h7 := congrArg List.length h
    simp at h7
  · obtain ⟨p, e1⟩ := look_dOf hb
    rw [e1, lookup_none_iff.mpr ha]
    refine ⟨f ++ [(r.a, (r.b, dOf f r.b + r.l))], .snoc g hb ⟨r, hr, rfl, .inr ⟨rfl, rfl⟩⟩ ha, by simp [prj], ⟨_, rfl⟩, fun h => ?_, fun _ => by simp, fun h => absurd (h.mpr hb) ha⟩
    have h7 := congrArg List.length h
    simp at h7
  · rw [lookup_none_iff.mpr ha, lookup_none_iff.mpr hb]
    exact ⟨f, g, rfl, ⟨[], by simp⟩, fun _ => ⟨fun h => absurd h ha, fun h => absurd h hb⟩, fun h => absurd ⟨fun h => absurd h ha, fun h => absurd h hb⟩ h, fun _ => rfl⟩
theorem relaxP_growth : ∀ (rs' : List Road) (f : Found), (∀ r ∈ rs', r ∈ rs) → Growth rs s f → ∃ f', Growth rs s f' ∧ rs'.foldl relax1 (prj f) = prj f' ∧ f.length ≤ f'.length ∧ ((∀ r ∈ rs', Settled f r) → f' = f) ∧ (¬ (∀ r ∈ rs', Settled f r) → f.length < f'.length)
  | [], f, _, g => ⟨f, g, rfl, Nat.le_refl _, fun _ => rfl, fun h => absurd (fun _ h => nomatch h) h⟩
  | r :: rs', f, hs, g => by
    obtain ⟨f1, g1, e1, ⟨more, hm⟩, h1, h2, h3⟩ := relax1_growth g (hs r (List.mem_cons_self ..))
    obtain ⟨f2, g2, e2, l2, h4, h5⟩ := relaxP_growth rs' f1 (fun r h => hs r (List.mem_cons_of_mem _ h)) g1
    have l1 : f.length ≤ f1.length := by rw [hm]; simp
    refine ⟨f2, g2, by rw [List.foldl_cons, e1, e2], by omega, fun h => ?_, fun h => ?_⟩
    · have q := h3 (h r (List.mem_cons_self ..))
      subst q
      exact h4 fun r' hr' => h r' (List.mem_cons_of_mem _ hr')
    · by_cases c : Settled f r
      · have q := h3 c
        subst q
        exact h5 fun h' => h fun r' hr' => by
          rcases List.mem_cons.mp hr' with rfl | hr'
          · exact c
          · exact h' r' hr'
      · have := h2 c
        omega
theorem settled_closed (h : ∀ r ∈ rs, Settled f r) : Closed rs f := by
  rintro u v l hu ⟨r, hr, _, ⟨rfl, rfl⟩ | ⟨rfl, rfl⟩⟩
  · exact (h r hr).mp hu
  · exact (h r hr).mpr hu
theorem relaxN_full (k : RoadsOk n rs) (hs : 0 ≤ s ∧ s < n) : ∀ (m : Nat) (f : Found), Growth rs s f → n < f.length + m ∨ (∀ r ∈ rs, Settled f r) → ∃ f', Growth rs s f' ∧ Closed rs f' ∧ relaxN rs m (prj f) = prj f'
  | 0, f, g, h => by
    have := g.length_le k hs
    rcases h with h | h
    · omega
    · exact ⟨f, g, settled_closed h, rfl⟩
  | m + 1, f, g, h => by
    obtain ⟨f1, g1, e1, l1, h1, h2⟩ := relaxP_growth rs f (fun _ q => q) g
    unfold relaxN relaxP
    rw [e1]
    by_cases c : ∀ r ∈ rs, Settled f r
    · have := h1 c
      subst this
      exact relaxN_full k hs m _ g1 (.inr c)
    · have := h2 c
      rcases h with h | h
      · exact relaxN_full k hs m f1 g1 (.inl (by omega))
      · exact absurd h c
theorem ownFound_full (T : IsTree n rs) (hs : 0 ≤ s ∧ s < n) : ∃ f, Full n rs s f ∧ ownFound n rs s = prj f := by
  obtain ⟨f, g, c, e⟩ := relaxN_full T.toRoadsOk hs n [(s, (-1, 0))] .start (.inl (by simp))
  exact ⟨f, T.full hs g c, e⟩
theorem ownFound_look (T : IsTree n rs) (hs : 0 ≤ s ∧ s < n) {v : Int} (hv : 0 ≤ v ∧ v < n) : (ownFound n rs s).lookup v = some (D n rs s v) := by
  obtain ⟨f, F, e⟩ := ownFound_full T hs
  rw [e, prj_lookup]
  obtain ⟨p, h⟩ := look_dOf (F.all v hv.1 hv.2)
  rw [h, F.dist T hs hv]
  rfl
end
end Wr

namespace Wr

def cellV (ns : List Int) (k : Nat) : Int := ns.getD k 0
def primes : List Int := [1000003, 1000033, 1000037, 1000039, 1000081, 1000099, 1000117, 1000121]
def draw (cell k many : Int) : Int := (cell * 48271 + k * 69621 + cell / 1000003 % 1000003 * 40692) % (primes.getD (k % 8).toNat 1) % many
theorem draw_nonneg {cell k many : Int} (h : 0 < many) : 0 ≤ draw cell k many := Int.emod_nonneg _ (by omega)
theorem draw_lt {cell k many : Int} (h : 0 < many) : draw cell k many < many := Int.emod_lt_of_pos _ h
def nameV (k n turn : Int) : Int := if 1 < n ∧ (turn = 1 ∨ n % turn ≠ 0) then k * turn % n else k
def turns : List Int := [1, 5, 7, 11]
def greats : List Int := [1, 4, 9, 1000000]
def turnV (cell : Int) : Int := turns.getD (cell / 48 % 4).toNat 0
def greatV (cell : Int) : Int := greats.getD (cell / 12 % 4).toNat 0
def min2 (i j : Int) : Int := if j < i then j else i
def max2 (i j : Int) : Int := if j > i then j else i
def toldN (cell most : Int) : Int := if cell / 7 % 6 = 1 then 1 + cell / 42 % most else 1 + cell % min2 most 7
def aboveV (cell other k : Int) : Int := if cell / 192 % 3 = 0 then max2 0 (k - 1 - draw other k 2) else draw other k k
def toldRoad (cell other n k : Int) : Road :=
  if draw other (k + 2) 2 = 0 then ⟨nameV (aboveV cell other k) n (turnV cell), nameV k n (turnV cell), 1 + draw other (k + 5) (greatV cell)⟩
  else ⟨nameV k n (turnV cell), nameV (aboveV cell other k) n (turnV cell), 1 + draw other (k + 5) (greatV cell)⟩
def ins {α : Type} (rs : List α) (p : Int) (r : α) : List α := rs.take p.toNat ++ [r] ++ rs.drop p.toNat
def toldRs (cell other n : Int) : Nat → List Road
  | 0 => []
  | i + 1 => ins (toldRs cell other n i) (draw other (1 + (i : Int) + 3) (((toldRs cell other n i).length : Int) + 1)) (toldRoad cell other n (1 + (i : Int)))
theorem ins_length {α : Type} (rs : List α) (p : Int) (r : α) : (ins rs p r).length = rs.length + 1 := by
  unfold ins
  simp [List.length_append, List.length_take, List.length_drop]
  omega
theorem mem_ins {α : Type} {rs : List α} {p : Int} {r x : α} : x ∈ ins rs p r ↔ x = r ∨ x ∈ rs := by
  unfold ins
  rw [List.mem_append, List.mem_append]
  have h := List.take_append_drop p.toNat rs
  constructor
  · rintro ((h1 | h1) | h1)
    · exact .inr (List.mem_of_mem_take h1)
    · exact .inl (by simpa using h1)
    · exact .inr (List.mem_of_mem_drop h1)
  · rintro (rfl | h1)
    · exact .inl (.inr (by simp))
    · rw [← h] at h1
      rcases List.mem_append.mp h1 with h1 | h1
      · exact .inl (.inl h1)
      · exact .inr h1
theorem toldRs_length (cell other n : Int) : ∀ i, (toldRs cell other n i).length = i
  | 0 => rfl
  | i + 1 => by unfold toldRs; rw [ins_length, toldRs_length cell other n i]
theorem mem_toldRs {cell other n : Int} {x : Road} : ∀ {i : Nat}, x ∈ toldRs cell other n i ↔ ∃ j : Nat, j < i ∧ x = toldRoad cell other n (1 + (j : Int))
  | 0 => by simp [toldRs]
  | i + 1 => by
    unfold toldRs
    rw [mem_ins, mem_toldRs (i := i)]
    constructor
    · rintro (h | ⟨j, hj, h⟩)
      · exact ⟨i, by omega, h⟩
      · exact ⟨j, by omega, h⟩
    · rintro ⟨j, hj, h⟩
      by_cases e : j = i
      · subst e; exact .inl h
      · exact .inr ⟨j, by omega, h⟩
theorem name_table : (List.range 13).all (fun n => turns.all fun t => (ivs n).all fun v => decide (0 ≤ nameV v n t) && decide (nameV v n t < n) && (ivs n).any (fun k => decide (nameV k n t = v)) && (ivs n).all (fun k => !decide (nameV k n t = nameV v n t) || decide (k = v))) = true := by decide +kernel
theorem name_facts {n : Nat} (hn : n ≤ 12) {t : Int} (ht : t ∈ turns) {v : Int} (h0 : 0 ≤ v) (h1 : v < n) : 0 ≤ nameV v n t ∧ nameV v n t < n ∧ (∃ k : Int, 0 ≤ k ∧ k < n ∧ nameV k n t = v) ∧ ∀ k : Int, 0 ≤ k → k < n → nameV k n t = nameV v n t → k = v := by
  have h := name_table
  rw [List.all_eq_true] at h
  have h := h n (List.mem_range.mpr (by omega))
  rw [List.all_eq_true] at h
  have h := h t ht
  rw [List.all_eq_true] at h
  have h := h v (mem_ivs.mpr ⟨h0, h1⟩)
  simp only [Bool.and_eq_true, decide_eq_true_eq, List.any_eq_true, List.all_eq_true, Bool.or_eq_true, Bool.not_eq_true', decide_eq_false_iff_not] at h
  obtain ⟨⟨⟨a, b⟩, k, hk, c⟩, d⟩ := h
  refine ⟨a, b, ⟨k, (mem_ivs.mp hk).1, (mem_ivs.mp hk).2, c⟩, fun k hk0 hk1 e => ?_⟩
  rcases d k (mem_ivs.mpr ⟨hk0, hk1⟩) with q | q
  · exact absurd e q
  · exact q
theorem name_zero (n t : Int) : nameV 0 n t = 0 := by unfold nameV; split <;> simp
theorem getD_mem4 {l : List Int} {i : Nat} {d : Int} (h : i < l.length) : l.getD i d ∈ l := by
  rw [List.getD_eq_getElem?_getD, List.getElem?_eq_getElem h]; exact List.getElem_mem h
theorem turn_mem (cell : Int) : turnV cell ∈ turns := getD_mem4 (by have h1 := Int.emod_nonneg (cell / 48) (show (4 : Int) ≠ 0 by decide); have h2 := Int.emod_lt_of_pos (cell / 48) (show (0 : Int) < 4 by decide); simp [turns]; omega)
theorem great_mem (cell : Int) : greatV cell ∈ greats := getD_mem4 (by have h1 := Int.emod_nonneg (cell / 12) (show (4 : Int) ≠ 0 by decide); have h2 := Int.emod_lt_of_pos (cell / 12) (show (0 : Int) < 4 by decide); simp [greats]; omega)
theorem great_range (cell : Int) : 1 ≤ greatV cell ∧ greatV cell ≤ 1000000 := by
  have := great_mem cell
  simp only [greats, List.mem_cons, List.not_mem_nil, or_false] at this
  omega
theorem toldN_range {cell most : Int} (h1 : 1 ≤ most) (h2 : most ≤ 12) : 1 ≤ toldN cell most ∧ toldN cell most ≤ 12 := by
  unfold toldN min2
  split
  · have a := Int.emod_nonneg (cell / 42) (show most ≠ 0 by omega)
    have b := Int.emod_lt_of_pos (cell / 42) (show 0 < most by omega)
    omega
  · split
    · have a := Int.emod_nonneg cell (show (7 : Int) ≠ 0 by decide)
      have b := Int.emod_lt_of_pos cell (show (0 : Int) < 7 by decide)
      omega
    · have a := Int.emod_nonneg cell (show most ≠ 0 by omega)
      have b := Int.emod_lt_of_pos cell (show 0 < most by omega)
      omega
theorem above_range (cell other : Int) {k : Int} (h : 1 ≤ k) : 0 ≤ aboveV cell other k ∧ aboveV cell other k < k := by
  have d1 := draw_nonneg (cell := other) (k := k) (many := 2) (by decide)
  have d2 := draw_lt (cell := other) (k := k) (many := 2) (by decide)
  have d3 := draw_nonneg (cell := other) (k := k) (many := k) (by omega)
  have d4 := draw_lt (cell := other) (k := k) (many := k) (by omega)
  unfold aboveV max2
  split
  · split <;> omega
  · omega
/-- villages, roads -/
def told (cell other most : Int) : Nat × List Road := ((toldN cell most).toNat, toldRs cell other (toldN cell most) ((toldN cell most).toNat - 1))
theorem toldRoad_ends (cell other n k : Int) : ((toldRoad cell other n k).a = nameV k n (turnV cell) ∧ (toldRoad cell other n k).b = nameV (aboveV cell other k) n (turnV cell)) ∨ ((toldRoad cell other n k).b = nameV k n (turnV cell) ∧ (toldRoad cell other n k).a = nameV (aboveV cell other k) n (turnV cell)) := by
  unfold toldRoad
  split
  · exact .inr ⟨rfl, rfl⟩
  · exact .inl ⟨rfl, rfl⟩
theorem toldRoad_l (cell other n k : Int) : (toldRoad cell other n k).l = 1 + draw other (k + 5) (greatV cell) := by
  unfold toldRoad; split <;> rfl
theorem told_tree (cell other : Int) {most : Int} (h1 : 1 ≤ most) (h2 : most ≤ 12) : IsTree (told cell other most).1 (told cell other most).2 := by
  have hr := toldN_range (cell := cell) h1 h2
  unfold told
  generalize toldN cell most = N at hr
  obtain ⟨n, rfl⟩ : ∃ n : Nat, N = n := ⟨N.toNat, by omega⟩
  simp only [Int.toNat_natCast]
  have ht := turn_mem cell
  have hn : n ≤ 12 := by omega
  have nm : ∀ {k : Int}, 0 ≤ k → k < n → _ := fun {k} a b => name_facts hn ht a b
  refine { ok := ?_, pos := by omega, le := hn, len := by rw [toldRs_length]; omega, conn := ?_ }
  · intro r hr
    obtain ⟨j, hj, rfl⟩ := mem_toldRs.mp hr
    have ab := above_range cell other (k := 1 + (j : Int)) (by omega)
    have f1 := nm (k := 1 + (j : Int)) (by omega) (by omega)
    have f2 := nm (k := aboveV cell other (1 + (j : Int))) ab.1 (by omega)
    have ne : nameV (1 + (j : Int)) n (turnV cell) ≠ nameV (aboveV cell other (1 + (j : Int))) n (turnV cell) := fun e => by
      have := f2.2.2.2 (1 + (j : Int)) (by omega) (by omega) e
      omega
    have gr := great_range cell
    have dl := draw_nonneg (cell := other) (k := 1 + (j : Int) + 5) (many := greatV cell) (by omega)
    have du := draw_lt (cell := other) (k := 1 + (j : Int) + 5) (many := greatV cell) (by omega)
    have hl := toldRoad_l cell other n (1 + (j : Int))
    rcases toldRoad_ends cell other n (1 + (j : Int)) with ⟨e1, e2⟩ | ⟨e1, e2⟩
    · rw [e1, e2, hl]
      exact ⟨f1.1, f1.2.1, f2.1, f2.2.1, ne, by omega, by omega⟩
    · rw [e1, e2, hl]
      exact ⟨f2.1, f2.2.1, f1.1, f1.2.1, ne.symm, by omega, by omega⟩
  · have key : ∀ k : Nat, k < n → Reach (toldRs cell other n (n - 1)) 0 (nameV k n (turnV cell)) := by
      intro k
      induction k using Nat.strongRecOn with
      | _ k ih =>
        intro hk
        by_cases e : k = 0
        · subst e
          have : nameV ((0 : Nat) : Int) n (turnV cell) = 0 := name_zero _ _
          rw [this]; exact .refl
        · have ab := above_range cell other (k := (k : Int)) (by omega)
          have i1 := ih (aboveV cell other (k : Int)).toNat (by omega) (by omega)
          have ec : (((aboveV cell other (k : Int)).toNat : Nat) : Int) = aboveV cell other k := by omega
          rw [ec] at i1
          have hm : toldRoad cell other n k ∈ toldRs cell other n (n - 1) := mem_toldRs.mpr ⟨k - 1, by omega, by congr 1; omega⟩
          refine i1.trans ⟨0 + (toldRoad cell other n k).l, .snoc .nil ⟨_, hm, rfl, ?_⟩⟩
          rcases toldRoad_ends cell other n k with ⟨e1, e2⟩ | ⟨e1, e2⟩
          · exact .inr ⟨e2, e1⟩
          · exact .inl ⟨e2, e1⟩
    intro v h0 hv
    obtain ⟨k, k0, k1, rfl⟩ := (nm h0 hv).2.2.1
    have := key k.toNat (by omega)
    rwa [show ((k.toNat : Nat) : Int) = k by omega] at this
end Wr

namespace Wr
theorem filter_one {α : Type} {p : α → Bool} : ∀ {l : List α} {i : Nat} {x : α}, l[i]? = some x → p x = true → (∀ (j : Nat) y, l[j]? = some y → p y = true → j = i) → l.filter p = [x]
  | [], i, x, h, _, _ => by simp at h
  | a :: l, 0, x, h, px, hu => by
    simp at h
    subst h
    rw [List.filter_cons, if_pos px]
    congr 1
    rw [List.filter_eq_nil_iff]
    intro y hy py
    obtain ⟨j, hj, e⟩ := List.getElem_of_mem hy
    have := hu (j + 1) y (by simp [hj, e]) py
    omega
  | a :: l, i + 1, x, h, px, hu => by
    have h' : l[i]? = some x := by simpa using h
    have hn : ¬ p a = true := fun pa => by
      have := hu 0 a (by simp) pa
      omega
    rw [List.filter_cons, if_neg hn]
    exact filter_one h' px fun j y hj py => by
      have := hu (j + 1) y (by simpa using hj) py
      omega
def sameE (x y : Int) (r : Road) : Bool := decide ((r.a = x ∧ r.b = y) ∨ (r.a = y ∧ r.b = x))
section
variable {n : Nat} {rs : List Road} {s o : Int} {f : Found}
theorem one_road (T : IsTree n rs) {x y l : Int} (a : Adj rs x y l) : ∃ r, rs.filter (sameE x y) = [r] ∧ r.l = l := by
  obtain ⟨r, hr, hl, ends⟩ := a
  obtain ⟨i, hi, hri⟩ := List.getElem_of_mem hr
  have hs : (0 : Int) ≤ 0 ∧ (0 : Int) < n := ⟨Int.le_refl _, by have := T.pos; omega⟩
  have hi' : rs[i]? = some r := by rw [List.getElem?_eq_getElem hi, hri]
  refine ⟨r, filter_one hi' ?_ ?_, hl⟩
  · unfold sameE
    rw [decide_eq_true_eq]
    rcases ends with ⟨h1, h2⟩ | ⟨h1, h2⟩
    · exact .inl ⟨h1, h2⟩
    · exact .inr ⟨h2, h1⟩
  · intro j t hj ht
    unfold sameE at ht
    rw [decide_eq_true_eq] at ht
    refine (T.walked hs).single T hs hj hi' ?_
    unfold SameEnds
    grind
theorem Down.link (T : IsTree n rs) (ho : 0 ≤ o ∧ o < n) {x : Int} {q : List Int} (h : Down (walked n rs o) o x q) (hx : 0 ≤ x ∧ x < n) : ∀ (i : Nat) y z, q[i]? = some y → q[i + 1]? = some z → ∃ l, Adj rs z y l ∧ D n rs o y = D n rs o z + l := by
  induction h with
  | last => intro i y z _ h; simp at h
  | @step x p d q hn hl h ih =>
    obtain ⟨p', l, h', a, hD, hp0, hp1⟩ := D_parent T ho hx hn
    rw [hl] at h'
    injection h' with e
    injection e with e1 e2
    subst e1
    intro i y z h1 h2
    cases i with
    | zero =>
      obtain ⟨t, rfl⟩ := h.head
      simp at h1 h2
      subst h1 h2
      exact ⟨l, a, hD⟩
    | succ i =>
      exact ih ⟨hp0, hp1⟩ i y z (by simpa using h1) (by simpa using h2)
theorem perm2 {α : Type} {l : List α} {x y : α} (h : l.Perm [x, y]) : l = [x, y] ∨ l = [y, x] := by
  have hl := h.length_eq
  match l, hl with
  | [a, b], _ =>
    have ha : a ∈ [x, y] := h.mem_iff.mp (by simp)
    simp at ha
    rcases ha with rfl | rfl
    · have := (List.perm_cons a).mp h
      have := List.singleton_perm_singleton.mp this
      subst this; exact .inl rfl
    · have h2 : List.Perm [a, b] [a, x] := h.trans (List.Perm.swap _ _ _)
      have := (List.perm_cons a).mp h2
      have := List.singleton_perm_singleton.mp this
      subst this; exact .inr rfl
/-- two sorted pairs -/
theorem sorted2 {a b x y : Int} {l m : List Int} (h1 : l.Perm [a, b]) (o1 : l.Pairwise (· ≤ ·)) (h2 : m.Perm [x, y]) (o2 : m.Pairwise (· ≤ ·)) : (l = m) ↔ ((a = x ∧ b = y) ∨ (a = y ∧ b = x)) := by
  rcases perm2 h1 with rfl | rfl <;> rcases perm2 h2 with rfl | rfl <;> simp at o1 o2 ⊢ <;> omega
end
end Wr

namespace Wr
/-! ### pairs and posts -/
structure Mt where
  v : Int
  p : Int
  i : Nat
def tk (ms : List Mt) : List Int := ms.flatMap fun m => [m.v, m.p]
def psOf (ms : List Mt) : List Int := ms.map (·.p)
def isOf (ms : List Mt) : List Int := ms.map fun m => (m.i : Int)
def roadIx (rs : List Road) (v p : Int) : Nat := rs.findIdx (sameE v p)
def pstep (f : Found) (rs : List Road) (ms : List Mt) (v : Int) : List Mt :=
  if 0 ≤ parOf f v ∧ v ∉ tk ms ∧ parOf f v ∉ tk ms then ms ++ [⟨v, parOf f v, roadIx rs v (parOf f v)⟩] else ms
def pgo (f : Found) (rs : List Road) (L : List Int) : List Mt := L.foldl (pstep f rs) []
/-- the ends of the roads of these numbers -/
def endsV (rs : List Road) (ps : List Int) : List Int := ps.flatMap fun i => match rs[i.toNat]? with | some r => [r.a, r.b] | none => []
def shownV (rs : List Road) (ps qs : List Int) (m : Int) : Bool :=
  decide (m = ps.length) && (decide (m = qs.length) && (decide (endsV rs ps).Nodup && rs.all fun r => decide (r.a ∈ qs) || decide (r.b ∈ qs)))
section
variable {n : Nat} {rs : List Road} {s : Int} {f : Found}
theorem Growth.before (g : Growth rs s f) : ∀ pre v post, keys f = pre ++ v :: post → v ≠ s → parOf f v ∈ pre ∧ ∃ l, Adj rs (parOf f v) v l := by
  induction g with
  | start =>
    intro pre v post h hn
    have : pre ++ v :: post = [s] := h.symm
    have hv : v ∈ [s] := by rw [← this]; simp
    simp at hv
    exact absurd hv hn
  | @snoc f v' p l g hp ha hv ih =>
    intro pre v post h hn
    rw [keys_append] at h
    have h : keys f ++ [v'] = pre ++ v :: post := h
    rcases List.eq_nil_or_concat post with e | ⟨post', w, e⟩
    · subst e
      obtain ⟨e1, e2⟩ := List.append_inj' h rfl
      simp at e2
      subst e2 e1
      have e : parOf (f ++ [(v', (p, dOf f p + l))]) v' = p := by
        unfold parOf
        rw [lookup_append (e := (v', (p, _))) hv, if_pos rfl]; rfl
      rw [e]
      exact ⟨hp, l, ha⟩
    · rw [e] at h
      have h : keys f ++ [v'] = (pre ++ v :: post') ++ [w] := by rw [h]; simp
      obtain ⟨e1, e2⟩ := List.append_inj' h rfl
      obtain ⟨h1, h2⟩ := ih pre v post' e1 hn
      have hvv : v ≠ v' := fun q => hv (by rw [← q, e1]; simp)
      have e : parOf (f ++ [(v', (p, dOf f p + l))]) v = parOf f v := by
        unfold parOf
        rw [lookup_append (e := (v', (p, _))) hv, if_neg hvv]
      rw [e]
      exact ⟨h1, h2⟩
structure PInv (f : Found) (rs : List Road) (done : List Int) (ms : List Mt) : Prop where
  nd : (tk ms).Nodup
  seen : ∀ x ∈ tk ms, x ∈ psOf ms ∨ x ∈ done
  cov : ∀ v ∈ done, 0 ≤ parOf f v → v ∈ psOf ms ∨ parOf f v ∈ psOf ms
  road : ∀ m ∈ ms, ∃ r, rs[m.i]? = some r ∧ sameE m.v m.p r = true
theorem tk_snoc (ms : List Mt) (m : Mt) : tk (ms ++ [m]) = tk ms ++ [m.v, m.p] := by simp [tk]
theorem psOf_snoc (ms : List Mt) (m : Mt) : psOf (ms ++ [m]) = psOf ms ++ [m.p] := by simp [psOf]
theorem roadIx_spec {v p : Int} {l : Int} (a : Adj rs p v l) : ∃ r, rs[roadIx rs v p]? = some r ∧ sameE v p r = true := by
  obtain ⟨r, hr, _, ends⟩ := a
  have hs : sameE v p r = true := by
    unfold sameE
    rw [decide_eq_true_eq]
    rcases ends with ⟨h1, h2⟩ | ⟨h1, h2⟩
    · exact .inr ⟨h1, h2⟩
    · exact .inl ⟨h2, h1⟩
  have hlt : rs.findIdx (sameE v p) < rs.length := List.findIdx_lt_length_of_exists ⟨r, hr, hs⟩
  exact ⟨rs[rs.findIdx (sameE v p)], List.getElem?_eq_getElem hlt, List.findIdx_getElem (w := hlt)⟩
theorem pstep_inv (g : Growth rs s f) (hs : parOf f s < 0) {todo : List Int} {v : Int} {done : List Int} {ms : List Mt} (h : keys f = todo ++ v :: done) (I : PInv f rs done ms) : PInv f rs (v :: done) (pstep f rs ms v) := by
  have nd := g.nodup
  rw [h] at nd
  have nd2 := (List.nodup_append.mp nd).2.1
  have vnd : v ∉ done := (List.nodup_cons.mp nd2).1
  unfold pstep
  by_cases c0 : 0 ≤ parOf f v
  · have hvs : v ≠ s := fun e => by rw [e] at c0; omega
    obtain ⟨hpre, l, adj⟩ := g.before todo v done h hvs
    have pnd : parOf f v ∉ done := fun q => (List.nodup_append.mp nd).2.2 _ hpre _ (List.mem_cons_of_mem _ q) rfl
    have hne : v ≠ parOf f v := fun e => (List.nodup_append.mp nd).2.2 _ hpre v (List.mem_cons_self ..) e.symm
    by_cases c : v ∉ tk ms ∧ parOf f v ∉ tk ms
    · rw [if_pos ⟨c0, c⟩]
      refine ⟨?_, ?_, ?_, ?_⟩
      · rw [tk_snoc]
        refine List.nodup_append.mpr ⟨I.nd, by simpa using hne, fun a ha b hb e => ?_⟩
        subst e
        simp at hb
        rcases hb with rfl | rfl
        · exact c.1 ha
        · exact c.2 ha
      · intro x hx
        rw [tk_snoc] at hx
        rw [psOf_snoc]
        rcases List.mem_append.1 hx with hx | hx
        · rcases I.seen x hx with q | q
          · exact .inl (List.mem_append_left _ q)
          · exact .inr (List.mem_cons_of_mem _ q)
        · simp at hx
          rcases hx with rfl | rfl
          · exact .inr (List.mem_cons_self ..)
          · exact .inl (by simp)
      · intro x hx hx0
        rw [psOf_snoc]
        rcases List.mem_cons.1 hx with rfl | hx
        · exact .inr (by simp)
        · rcases I.cov x hx hx0 with q | q
          · exact .inl (List.mem_append_left _ q)
          · exact .inr (List.mem_append_left _ q)
      · intro m hm
        rcases List.mem_append.1 hm with hm | hm
        · exact I.road m hm
        · simp at hm
          subst hm
          exact roadIx_spec adj
    · rw [if_neg (fun q => c q.2)]
      refine ⟨I.nd, fun x hx => ?_, fun x hx hx0 => ?_, I.road⟩
      · rcases I.seen x hx with q | q
        · exact .inl q
        · exact .inr (List.mem_cons_of_mem _ q)
      · rcases List.mem_cons.1 hx with rfl | hx
        · by_cases cv : x ∈ tk ms
          · rcases I.seen x cv with q | q
            · exact .inl q
            · exact absurd q vnd
          · have cp : parOf f x ∈ tk ms := Classical.byContradiction fun q => c ⟨cv, q⟩
            rcases I.seen _ cp with q | q
            · exact .inr q
            · exact absurd q pnd
        · exact I.cov x hx hx0
  · rw [if_neg (fun q => c0 q.1)]
    refine ⟨I.nd, fun x hx => ?_, fun x hx hx0 => ?_, I.road⟩
    · rcases I.seen x hx with q | q
      · exact .inl q
      · exact .inr (List.mem_cons_of_mem _ q)
    · rcases List.mem_cons.1 hx with rfl | hx
      · exact absurd hx0 c0
      · exact I.cov x hx hx0
theorem pgo_inv (g : Growth rs s f) (hs : parOf f s < 0) : ∀ (r : List Int) {done : List Int} {ms : List Mt}, keys f = r.reverse ++ done → PInv f rs done ms → PInv f rs (keys f) (r.foldl (pstep f rs) ms)
  | [], done, ms, h, I => by
    have h : keys f = done := h
    rw [h]
    exact I
  | v :: r, done, ms, h, I => by
    rw [List.reverse_cons, List.append_assoc] at h
    exact pgo_inv g hs r h (pstep_inv g hs h I)
theorem parOf_start (g : Growth rs s f) : parOf f s = -1 := by
  unfold parOf
  rw [g.look_start]
  rfl
theorem pgo_facts (T : IsTree n rs) : PInv (walked n rs 0) rs (keys (walked n rs 0)) (pgo (walked n rs 0) rs (keys (walked n rs 0)).reverse) := by
  have h0 : (0 : Int) ≤ 0 ∧ (0 : Int) < n := ⟨Int.le_refl _, by have := T.pos; omega⟩
  have g := (T.walked h0).gr
  refine pgo_inv g (by rw [parOf_start g]; decide) _ (done := []) (by simp) ⟨by simp [tk], by simp [tk], by simp, by simp⟩
def pairsOf (n : Nat) (rs : List Road) : List Mt := pgo (walked n rs 0) rs (keys (walked n rs 0)).reverse
theorem cover (T : IsTree n rs) : ∀ r ∈ rs, r.a ∈ psOf (pairsOf n rs) ∨ r.b ∈ psOf (pairsOf n rs) := by
  intro r hr
  have h0 : (0 : Int) ≤ 0 ∧ (0 : Int) < n := ⟨Int.le_refl _, by have := T.pos; omega⟩
  have I := pgo_facts T
  have ok := T.ok r hr
  have a1 : Adj rs r.a r.b r.l := ⟨r, hr, rfl, .inl ⟨rfl, rfl⟩⟩
  have all := (T.walked h0).all
  rcases D_step T h0 a1 with h | h
  · have hp := D_par T h0 a1 h
    have e : parOf (walked n rs 0) r.b = r.a := by unfold parOf; rw [hp]; rfl
    rcases I.cov r.b (all r.b (by omega) (by omega)) (by rw [e]; omega) with q | q
    · exact .inr q
    · exact .inl (e ▸ q)
  · have hp := D_par T h0 a1.symm h
    have e : parOf (walked n rs 0) r.a = r.b := by unfold parOf; rw [hp]; rfl
    rcases I.cov r.a (all r.a (by omega) (by omega)) (by rw [e]; omega) with q | q
    · exact .inl q
    · exact .inr (e ▸ q)
theorem endsV_perm {ps qs : List Int} (h : ps.Perm qs) : (endsV rs ps).Perm (endsV rs qs) := List.Perm.flatMap_right _ h
theorem ends_tk : ∀ {ms : List Mt}, (∀ m ∈ ms, ∃ r, rs[m.i]? = some r ∧ sameE m.v m.p r = true) → (endsV rs (isOf ms)).Perm (tk ms)
  | [], _ => by simp [endsV, isOf, tk]
  | m :: ms, h => by
    have ih := ends_tk (ms := ms) fun x hx => h x (List.mem_cons_of_mem _ hx)
    obtain ⟨r, h1, h2⟩ := h m (List.mem_cons_self ..)
    have e : endsV rs (isOf (m :: ms)) = [r.a, r.b] ++ endsV rs (isOf ms) := by
      simp [endsV, isOf, h1]
    rw [e]
    have e2 : tk (m :: ms) = [m.v, m.p] ++ tk ms := by simp [tk]
    rw [e2]
    refine List.Perm.append ?_ ih
    unfold sameE at h2
    rw [decide_eq_true_eq] at h2
    rcases h2 with ⟨h1, h2⟩ | ⟨h1, h2⟩
    · rw [h1, h2]
    · rw [h1, h2]; exact List.Perm.swap ..
theorem ends_nodup : ∀ {ps : List Int}, (endsV rs ps).Nodup → (∀ i ∈ ps, 0 ≤ i ∧ i < rs.length) → ps.Nodup
  | [], _, _ => List.nodup_nil
  | i :: ps, h, hv => by
    obtain ⟨r, hr⟩ : ∃ r, rs[i.toNat]? = some r := ⟨_, List.getElem?_eq_getElem (by have := hv i (List.mem_cons_self ..); omega)⟩
    have e : endsV rs (i :: ps) = [r.a, r.b] ++ endsV rs ps := by simp [endsV, hr]
    rw [e] at h
    obtain ⟨h1, h2, h3⟩ := List.nodup_append.mp h
    refine List.nodup_cons.mpr ⟨fun q => ?_, ends_nodup h2 fun j hj => hv j (List.mem_cons_of_mem _ hj)⟩
    refine h3 r.a (by simp) r.a ?_ rfl
    exact List.mem_flatMap.mpr ⟨i, q, by rw [hr]; simp⟩
theorem isOf_range {ms : List Mt} (h : ∀ m ∈ ms, ∃ r, rs[m.i]? = some r ∧ sameE m.v m.p r = true) : ∀ i ∈ isOf ms, 0 ≤ i ∧ i < rs.length := by
  intro i hi
  obtain ⟨m, hm, rfl⟩ := List.mem_map.mp hi
  obtain ⟨r, hr, _⟩ := h m hm
  obtain ⟨hlt, _⟩ := List.getElem?_eq_some_iff.mp hr
  omega
theorem psOf_nodup : ∀ {ms : List Mt}, (tk ms).Nodup → (psOf ms).Nodup
  | [], _ => List.nodup_nil
  | m :: ms, h => by
    have e2 : tk (m :: ms) = [m.v, m.p] ++ tk ms := by simp [tk]
    rw [e2] at h
    obtain ⟨h1, h2, h3⟩ := List.nodup_append.mp h
    have ih := psOf_nodup h2
    refine List.nodup_cons.mpr ⟨fun q => ?_, ih⟩
    obtain ⟨m', hm', e⟩ := List.mem_map.mp q
    refine h3 m.p (by simp) m.p ?_ rfl
    exact List.mem_flatMap.mpr ⟨m', hm', by rw [← show m'.p = m.p from e]; simp⟩
theorem psOf_range (T : IsTree n rs) {ms : List Mt} (h : ∀ m ∈ ms, ∃ r, rs[m.i]? = some r ∧ sameE m.v m.p r = true) : ∀ x ∈ psOf ms, 0 ≤ x ∧ x < n := by
  intro x hx
  obtain ⟨m, hm, rfl⟩ := List.mem_map.mp hx
  obtain ⟨r, hr, hs⟩ := h m hm
  have ok := T.ok r (List.mem_of_getElem? hr)
  unfold sameE at hs
  rw [decide_eq_true_eq] at hs
  rcases hs with ⟨h1, h2⟩ | ⟨h1, h2⟩ <;> omega
/-- what paired tells, in any order -/
structure Good (n : Nat) (rs : List Road) (ps qs : List Int) : Prop where
  len : ps.length = qs.length
  pr : ∀ i ∈ ps, 0 ≤ i ∧ i < rs.length
  qr : ∀ x ∈ qs, 0 ≤ x ∧ x < n
  pn : ps.Nodup
  qn : qs.Nodup
  en : (endsV rs ps).Nodup
  cov : ∀ r ∈ rs, r.a ∈ qs ∨ r.b ∈ qs
theorem good_pairs (T : IsTree n rs) {ps qs : List Int} (hp : ps.Perm (isOf (pairsOf n rs))) (hq : qs.Perm (psOf (pairsOf n rs))) : Good n rs ps qs := by
  have I := pgo_facts T
  have e1 : (endsV rs ps).Nodup := ((endsV_perm hp).trans (ends_tk I.road)).nodup_iff.mpr I.nd
  have r1 : ∀ i ∈ ps, 0 ≤ i ∧ i < rs.length := fun i hi => isOf_range I.road i (hp.mem_iff.mp hi)
  refine ⟨?_, r1, fun x hx => psOf_range T I.road x (hq.mem_iff.mp hx), ends_nodup e1 r1, hq.nodup_iff.mpr (psOf_nodup I.nd), e1, fun r hr => ?_⟩
  · rw [hp.length_eq, hq.length_eq]; simp [isOf, psOf]
  · rcases cover T r hr with q | q
    · exact .inl (hq.mem_iff.mpr q)
    · exact .inr (hq.mem_iff.mpr q)
theorem Good.shown {ps qs : List Int} (g : Good n rs ps qs) : shownV rs ps qs ps.length = true := by
  unfold shownV
  rw [decide_eq_true rfl, decide_eq_true (show (ps.length : Int) = qs.length by rw [g.len]), decide_eq_true g.en]
  simp only [Bool.true_and, List.all_eq_true, Bool.or_eq_true, decide_eq_true_eq]
  exact g.cov
theorem shown_more (ps qs : List Int) : shownV rs ps qs (ps.length + 1) = false := by
  unfold shownV
  rw [decide_eq_false (by omega), Bool.false_and]
theorem shown_none : shownV rs [] [] 0 = decide (rs = []) := by
  unfold shownV
  cases rs with
  | nil => rfl
  | cons r rs => simp [endsV]
theorem rising_of {l : List Int} (h : l.Pairwise (· ≤ ·)) (nd : l.Nodup) : l.Pairwise (· < ·) := by
  induction l with
  | nil => exact .nil
  | cons x l ih =>
    obtain ⟨h1, h2⟩ := List.pairwise_cons.1 h
    obtain ⟨n1, n2⟩ := List.nodup_cons.1 nd
    refine .cons (fun y hy => ?_) (ih h2 n2)
    have := h1 y hy
    have : x ≠ y := fun e => n1 (e ▸ hy)
    omega
theorem rev_tree (T : IsTree n rs) : IsTree n rs.reverse := by
  refine { ok := fun r hr => T.ok r (List.mem_reverse.mp hr), pos := T.pos, le := T.le, len := by rw [List.length_reverse]; exact T.len, conn := fun v h0 h1 => ?_ }
  obtain ⟨d, w⟩ := T.conn v h0 h1
  exact ⟨d, w.mono fun r hr => List.mem_reverse.mpr hr⟩
end
end Wr

namespace Wr
section
variable {n : Nat} {rs : List Road}
def sameAt (rs : List Road) (v p : Int) (j : Nat) : Bool := match rs[j]? with | some r => sameE v p r | none => false
theorem one_ix (T : IsTree n rs) {v p l : Int} (a : Adj rs p v l) : (List.range rs.length).filter (sameAt rs v p) = [roadIx rs v p] := by
  obtain ⟨r, h1, h2⟩ := roadIx_spec a
  have hs : (0 : Int) ≤ 0 ∧ (0 : Int) < n := ⟨Int.le_refl _, by have := T.pos; omega⟩
  obtain ⟨hlt, _⟩ := List.getElem?_eq_some_iff.mp h1
  refine filter_one (i := roadIx rs v p) (by simp [List.getElem?_range hlt]) (by unfold sameAt; rw [h1]; exact h2) fun j y hj hy => ?_
  obtain ⟨hj1, hj2⟩ := List.getElem?_eq_some_iff.mp hj
  rw [List.getElem_range] at hj2
  subst hj2
  rw [List.length_range] at hj1
  unfold sameAt at hy
  rw [List.getElem?_eq_getElem hj1] at hy
  refine (T.walked hs).single T hs (List.getElem?_eq_getElem hj1) h1 ?_
  unfold sameE at hy h2
  rw [decide_eq_true_eq] at hy h2
  unfold SameEnds
  grind
theorem pgo_len (f : Found) (rs : List Road) : ∀ (L : List Int) (ms : List Mt), (L.foldl (pstep f rs) ms).length ≤ ms.length + L.length
  | [], ms => by simp
  | v :: L, ms => by
    have h := pgo_len f rs L (pstep f rs ms v)
    have h2 : (pstep f rs ms v).length ≤ ms.length + 1 := by
      unfold pstep
      split <;> simp
    simp only [List.length_cons, List.foldl_cons]
    omega
theorem tk_len : ∀ ms : List Mt, (tk ms).length = 2 * ms.length
  | [] => rfl
  | m :: ms => by
    have := tk_len ms
    have e2 : tk (m :: ms) = [m.v, m.p] ++ tk ms := by simp [tk]
    rw [e2, List.length_append, List.length_cons, this]
    simp
    omega
end
end Wr

namespace Wr
open PySem L2

/-- no exception, so any way of lying -/
theorem FnOk.lift {P : Program} {w : World} {K : PySem.W.Frag} {mg : Str → Option Value} {base : Heap} {CX : CXT} {k : Nat} {f : Addr} {fd : FuncData} {ps : List Str} {sp : Sp} (F : FnOk P w K mg base CX0 k f fd ps sp) : FnOk P w K mg base CX k f fd ps sp :=
  ⟨F.len, fun A outer s H args us vs Q E hr e b r h => codeAny_mono (F.run A outer s H args us vs Q E hr e b r h) fun r s' q => by
    cases r with
    | error e => exact False.elim q
    | ok fl => cases fl <;> exact q⟩
/-- a def of the module's top, by its name, with its promise -/
structure Gd (P : Program) (w : World) (K : PySem.W.Frag) (mg : Str → Option Value) (base : Heap) (k : Nat) (x : Str) (ps : List Str) (sp : Sp) : Prop where
  ex : ∃ f fd, mg x = some (.ref f) ∧ PySem.W.keepIn K (.ref f) = true ∧ Binds K fd ps [] ∧ FnOk P w K mg base (L2.CX P w) k f fd ps sp
/-- a method -/
structure Gm (P : Program) (w : World) (K : PySem.W.Frag) (mg : Str → Option Value) (base : Heap) (C : Addr) (k : Nat) (x : Str) (ps : List Str) (sp : Sp) : Prop where
  ex : ∃ f fd, Meth K C x f ∧ Binds K fd ps [] ∧ FnOk P w K mg base (L2.CX P w) k f fd ps sp
/-- a class that is made by a call -/
structure Gc (P : Program) (w : World) (K : PySem.W.Frag) (mg : Str → Option Value) (base : Heap) (C : Addr) (k : Nat) (x : Str) (ps : List Str) (sp : Sp) : Prop where
  ex : ∃ f fd, mg x = some (.ref C) ∧ Mk K C f ∧ Binds K fd ps [] ∧ FnOk P w K mg base (L2.CX P w) k f fd ps sp
section
variable {X : Cx} {C : Addr} {k j : Nat} {x m : Str} {ps : List Str} {sp : Sp} {p pos apos : Pos} {o e : Expr} {es : List Expr} {ta : TE} {t : TA} {E : XK}
/-- a call; hx: passL (it does not raise), or passes_call tk (fun _ _ _ _ h => h) -/
theorem pe_gx (G : Gd X.prog X.w X.K X.mg X.base k x ps sp) (hr : Room j X.A) (hg : Gl X x) (hx : Passes (L2.CX X.prog X.w) X E) (ha : PA X (e :: es) t) (hk : k ≤ j := by decide)
    (w1 : (x == ("__debug__" : Str)) = false := by decide) (w2 : starEach (e :: es) X.env = (false, eval e X.env) :: starEach es X.env := by rfl)
    (w3 : (backTo pos (starEach es X.env)).any (fun z => z.1) = false := by rfl) :
    PE X (.Call (.Name x p) (e :: es) [] pos) (tCall sp [] E t) := by
  obtain ⟨f, fd, hm, kp, hb, F⟩ := G.ex
  exact pe_call F (hr.mono hk) hg hm kp hb .nil hx ha w1 w2 w3
theorem pe_g (G : Gd X.prog X.w X.K X.mg X.base k x ps sp) (hr : Room j X.A) (hg : Gl X x) (ha : PA X (e :: es) t) (hk : k ≤ j := by decide)
    (w1 : (x == ("__debug__" : Str)) = false := by decide) (w2 : starEach (e :: es) X.env = (false, eval e X.env) :: starEach es X.env := by rfl)
    (w3 : (backTo pos (starEach es X.env)).any (fun z => z.1) = false := by rfl) :
    PE X (.Call (.Name x p) (e :: es) [] pos) (tCall sp [] E0 t) := pe_gx G hr hg passL ha hk w1 w2 w3
theorem pe_gmx {pl : Sem Bool} (he : PE X o ta) (c : Cls X.K C) (G : Gm X.prog X.w X.K X.mg X.base C k m ps sp) (hr : Room j X.A) (hx : Passes (L2.CX X.prog X.w) X E) (ha : PA X (e :: es) t) (hk : k ≤ j := by decide)
    (w1 : starEach (e :: es) X.env = (false, eval e X.env) :: starEach es X.env := by rfl) (w2 : (backTo pos (starEach es X.env)).any (fun z => z.1) = false := by rfl)
    (ht : eval (.Call (.Attribute o m apos) (e :: es) [] pos) X.env = (do let ov ← eval o X.env; standAt apos.atName; let z ← holding [ov] (getMethod ov m pl); callWith pos z.1 z.2 (backTo pos (starEach (e :: es) X.env)) (backToKw pos (keywordEach [] X.env))) := by rfl) :
    PE X (.Call (.Attribute o m apos) (e :: es) [] pos) (tMeth C m sp [] E ta t) := by
  obtain ⟨f, fd, hm, hb, F⟩ := G.ex
  exact pe_meth he c hm F (hr.mono hk) hb .nil hx ha w1 w2 ht
theorem pe_gm {pl : Sem Bool} (he : PE X o ta) (c : Cls X.K C) (G : Gm X.prog X.w X.K X.mg X.base C k m ps sp) (hr : Room j X.A) (ha : PA X (e :: es) t) (hk : k ≤ j := by decide)
    (w1 : starEach (e :: es) X.env = (false, eval e X.env) :: starEach es X.env := by rfl) (w2 : (backTo pos (starEach es X.env)).any (fun z => z.1) = false := by rfl)
    (ht : eval (.Call (.Attribute o m apos) (e :: es) [] pos) X.env = (do let ov ← eval o X.env; standAt apos.atName; let z ← holding [ov] (getMethod ov m pl); callWith pos z.1 z.2 (backTo pos (starEach (e :: es) X.env)) (backToKw pos (keywordEach [] X.env))) := by rfl) :
    PE X (.Call (.Attribute o m apos) (e :: es) [] pos) (tMeth C m sp [] E0 ta t) := pe_gmx he c G hr passL ha hk w1 w2 ht
theorem pe_gm0 {pl : Sem Bool} (he : PE X o ta) (c : Cls X.K C) (G : Gm X.prog X.w X.K X.mg X.base C k m ps sp) (hr : Room j X.A) (hk : k ≤ j := by decide)
    (ht : eval (.Call (.Attribute o m apos) [] [] pos) X.env = (do let ov ← eval o X.env; standAt apos.atName; let z ← holding [ov] (getMethod ov m pl); callWith pos z.1 z.2 (backTo pos (starEach [] X.env)) (backToKw pos (keywordEach [] X.env))) := by rfl) :
    PE X (.Call (.Attribute o m apos) [] [] pos) (tMeth C m sp [] E0 ta tNil) := by
  obtain ⟨f, fd, hm, hb, F⟩ := G.ex
  exact pe_meth0 he c hm F (hr.mono hk) hb .nil passL ht
theorem pe_gcx (G : Gc X.prog X.w X.K X.mg X.base C k x ps sp) (hr : Room j X.A) (hg : Gl X x) (hx : Passes (L2.CX X.prog X.w) X E) (ha : PA X (e :: es) t) (hk : k + 1 ≤ j := by decide)
    (w1 : (x == ("__debug__" : Str)) = false := by decide) (w2 : starEach (e :: es) X.env = (false, eval e X.env) :: starEach es X.env := by rfl)
    (w3 : (backTo pos (starEach es X.env)).any (fun z => z.1) = false := by rfl) :
    PE X (.Call (.Name x p) (e :: es) [] pos) (tMake C sp [] E t) := by
  obtain ⟨f, fd, hm, M, hb, F⟩ := G.ex
  exact pe_make M F (hr.mono hk) hg hm hb .nil hx ha w1 w2 w3
theorem pe_gc (G : Gc X.prog X.w X.K X.mg X.base C k x ps sp) (hr : Room j X.A) (hg : Gl X x) (ha : PA X (e :: es) t) (hk : k + 1 ≤ j := by decide)
    (w1 : (x == ("__debug__" : Str)) = false := by decide) (w2 : starEach (e :: es) X.env = (false, eval e X.env) :: starEach es X.env := by rfl)
    (w3 : (backTo pos (starEach es X.env)).any (fun z => z.1) = false := by rfl) :
    PE X (.Call (.Name x p) (e :: es) [] pos) (tMake C sp [] E0 t) := pe_gcx G hr hg passL ha hk w1 w2 w3
end

/-- built-ins that the program does not shadow -/
structure Bi (mg : Str → Option Value) : Prop where
  len : mg "len" = none
  isinstance : mg "isinstance" = none
  list : mg "list" = none
  int : mg "int" = none
  bool : mg "bool" = none
  tuple : mg "tuple" = none
  range : mg "range" = none
  set : mg "set" = none
  sorted : mg "sorted" = none
  sum : mg "sum" = none
  max : mg "max" = none
  min : mg "min" = none
  any : mg "any" = none
  all : mg "all" = none
  reversed : mg "reversed" = none
  str : mg "str" = none

/-- a value whose type is known -/
def isI : V → Bool | .int _ => true | .bl _ => true | _ => false
def isB : V → Bool | .bl _ => true | _ => false
structure Plain (K : PySem.W.Frag) (H : Hp) (x : V) : Prop where
  ex : ∃ t, TyX K H x t ∧ PySem.W.kitOne K t (.type "int") = some (isI x) ∧ PySem.W.kitOne K t (.type "bool") = some (isB x)
theorem Plain.int {K : PySem.W.Frag} {H : Hp} (i : Int) : Plain K H (.int i) := ⟨_, .base (.int i), kit_ty (show kitB "int" "int" = some true by decide +kernel), kit_ty (show kitB "int" "bool" = some false by decide +kernel)⟩
theorem Plain.bl {K : PySem.W.Frag} {H : Hp} (i : Bool) : Plain K H (.bl i) := ⟨_, .base (.bl i), kit_ty (show kitB "bool" "int" = some true by decide +kernel), kit_ty (show kitB "bool" "bool" = some true by decide +kernel)⟩
theorem Plain.non {K : PySem.W.Frag} {H : Hp} : Plain K H .non := ⟨_, .base .non, kit_ty (show kitB "NoneType" "int" = some false by decide +kernel), kit_ty (show kitB "NoneType" "bool" = some false by decide +kernel)⟩
theorem Plain.str {K : PySem.W.Frag} {H : Hp} (x : Str) : Plain K H (.str x) := ⟨_, .base (.str x), kit_ty (show kitB "str" "int" = some false by decide +kernel), kit_ty (show kitB "str" "bool" = some false by decide +kernel)⟩
theorem Plain.lst {K : PySem.W.Frag} {H : Hp} {a : Addr} {xs : List V} (h : H a = some (.lst xs)) : Plain K H (.ref a) := ⟨_, .base (.lst h), kit_ty (show kitB "list" "int" = some false by decide +kernel), kit_ty (show kitB "list" "bool" = some false by decide +kernel)⟩
theorem Plain.tup {K : PySem.W.Frag} {H : Hp} {a : Addr} {xs : List V} (h : H a = some (.tup xs)) : Plain K H (.ref a) := ⟨_, .base (.tup h), kit_ty (show kitB "tuple" "int" = some false by decide +kernel), kit_ty (show kitB "tuple" "bool" = some false by decide +kernel)⟩
def isW : V → Bool | .int _ => true | _ => false
theorem isW_eq (x : V) : isW x = (isI x && !isB x) := by cases x <;> rfl
def withinV (x : V) (lo hi : Int) : Bool := match x with | .int i => decide (lo ≤ i) && decide (i ≤ hi) | _ => false
/-! ### heaps -/
theorem Same.new {H : Hp} {p : Addr} {o : HO} (h : H p = none) : Same H (upd H p o) := fun a u e => by
  rw [upd_ne (ne_of_none e h)]; exact e
theorem Same.mut {H H' : Hp} {p : Addr} {o : HO} (e : Same H H') (h : H p = none) : Same H (upd H' p o) := fun a u ha => by
  rw [upd_ne (ne_of_none ha h)]; exact e a u ha
theorem keepN {H : Hp} {a p : Addr} {o u : HO} (h : H a = some o) (hp : H p = none) : upd H p u a = some o := by
  rw [upd_ne (ne_of_none h hp)]; exact h
theorem keepU {H : Hp} {a p : Addr} {o u v : HO} (h : H a = some o) (hp : H p = some v) (d : o ≠ v) : upd H p u a = some o := by
  rw [upd_ne (ne_of h hp d)]; exact h

/-! ### roads, trees in the heap -/
def RoadAt (H : Hp) (r : Road) (v : V) : Prop := ∃ t, v = .ref t ∧ H t = some (.tup [.int r.a, .int r.b, .int r.l])
abbrev RoadsAt (H : Hp) (rs : List Road) (vs : List V) : Prop := Paired (RoadAt H) rs vs
theorem paired_get {α β : Type} {F : α → β → Prop} : ∀ {l : List α} {m : List β} {i : Nat} {x : α}, Paired F l m → l[i]? = some x → ∃ y, m[i]? = some y ∧ F x y
  | _, _, _, _, .nil, h => by simp at h
  | _, _, 0, x, .cons r _, h => by simp at h; subst h; exact ⟨_, rfl, r⟩
  | _, _, i + 1, x, .cons _ t, h => by
    obtain ⟨y, h1, h2⟩ := paired_get (i := i) (x := x) t (by simpa using h)
    exact ⟨y, by simpa using h1, h2⟩
theorem paired_get' {α β : Type} {F : α → β → Prop} : ∀ {l : List α} {m : List β} {i : Nat} {y : β}, Paired F l m → m[i]? = some y → ∃ x, l[i]? = some x ∧ F x y
  | _, _, _, _, .nil, h => by simp at h
  | _, _, 0, x, .cons r _, h => by simp at h; subst h; exact ⟨_, rfl, r⟩
  | _, _, i + 1, x, .cons _ t, h => by
    obtain ⟨y, h1, h2⟩ := paired_get' (i := i) (y := x) t (by simpa using h)
    exact ⟨y, by simpa using h1, h2⟩
theorem RoadsAt.same {H H' : Hp} {rs : List Road} {vs : List V} (e : Same H H') (h : RoadsAt H rs vs) : RoadsAt H' rs vs :=
  Paired.mapP h fun _ _ ⟨t, e1, e2⟩ => ⟨t, e1, e _ _ e2⟩
/-- the fields of a tree -/
def tfs (n : Nat) (r : Addr) : List (Str × V) := [("size", .int n), ("rows", .ref r)]
def TreeAt (C : Addr) (H : Hp) (t : Addr) (n : Nat) (rs : List Road) : Prop :=
  ∃ dx r vs, H t = some (.ins C dx (tfs n r)) ∧ H r = some (.lst vs) ∧ RoadsAt H rs vs
theorem TreeAt.same {C : Addr} {H H' : Hp} {t : Addr} {n : Nat} {rs : List Road} (e : Same H H') (h : TreeAt C H t n rs) : TreeAt C H' t n rs :=
  let ⟨dx, r, vs, h1, h2, h3⟩ := h
  ⟨dx, r, vs, e _ _ h1, e _ _ h2, h3.same e⟩
/-- .. whose list of roads H0 does not know -/
def TreeNew (C : Addr) (H0 H : Hp) (t : Addr) (n : Nat) (rs : List Road) : Prop :=
  ∃ dx r vs, H0 r = none ∧ H t = some (.ins C dx (tfs n r)) ∧ H r = some (.lst vs) ∧ RoadsAt H rs vs
theorem TreeNew.at {C : Addr} {H0 H : Hp} {t : Addr} {n : Nat} {rs : List Road} (h : TreeNew C H0 H t n rs) : TreeAt C H t n rs :=
  let ⟨dx, r, vs, _, h1, h2, h3⟩ := h
  ⟨dx, r, vs, h1, h2, h3⟩
/-- an elder list changes -/
theorem TreeNew.upd {C : Addr} {H0 H : Hp} {t a : Addr} {n : Nat} {rs : List Road} {o : HO} {xs ys : List V} (h : TreeNew C H0 H t n rs) (h0 : H0 a = some o) (ha : H a = some (.lst xs)) : TreeAt C (upd H a (.lst ys)) t n rs :=
  let ⟨dx, r, vs, hr, h1, h2, h3⟩ := h
  ⟨dx, r, vs, keepU h1 ha (by intro z; cases z), by rw [upd_ne (ne_of_none h0 hr).symm]; exact h2, Paired.mapP h3 fun _ _ ⟨t, e1, e2⟩ => ⟨t, e1, keepU e2 ha (by intro z; cases z)⟩⟩
theorem ns_sr : ¬ (("size" : Str) = "rows") := by decide +kernel
theorem ns_rs : ¬ (("rows" : Str) = "size") := by decide +kernel
theorem tfs_size (n : Nat) (r : Addr) : (tfs n r).lookup ("size" : Str) = some (.int n) := by
  unfold tfs
  simp [List.lookup]
theorem tfs_no (n : Nat) (r : Addr) {m : Str} (h1 : (m == ("size" : Str)) = false) (h2 : (m == ("rows" : Str)) = false) : (tfs n r).lookup m = none := by
  unfold tfs
  simp [List.lookup, h1, h2]
theorem tfs_rows (n : Nat) (r : Addr) : (tfs n r).lookup ("rows" : Str) = some (.ref r) := by
  have h : (("rows" : Str) == "size") = false := by decide +kernel
  unfold tfs
  simp [List.lookup, h]
theorem tfs_put (n : Nat) (r : Addr) : putF "rows" (.ref r) (putF "size" (.int n) []) = tfs n r := by
  show (if ("size" : Str) = "rows" then _ else _) = _
  rw [if_neg ns_sr]
  rfl
/-- what walked has found -/
def FRel (H : Hp) (e : Int × (Int × Int)) (kv : Key × V) : Prop := kv.1 = .inl e.1 ∧ ∃ t, kv.2 = .ref t ∧ H t = some (.tup [.int e.2.1, .int e.2.2])
def FoundAt (H : Hp) (d : Addr) (f : Found) : Prop := ∃ kvs, H d = some (.dK kvs) ∧ Paired (FRel H) f kvs
theorem FRel.same {H H' : Hp} {f : Found} {kvs : List (Key × V)} (e : ∀ a xs, H a = some (.tup xs) → H' a = some (.tup xs)) (h : Paired (FRel H) f kvs) : Paired (FRel H') f kvs :=
  Paired.mapP h fun _ _ ⟨e1, t, e2, e3⟩ => ⟨e1, t, e2, e _ _ e3⟩
theorem FoundAt.same {H H' : Hp} {d : Addr} {f : Found} (e : Same H H') (h : FoundAt H d f) : FoundAt H' d f :=
  let ⟨kvs, h1, h2⟩ := h
  ⟨kvs, e _ _ h1, FRel.same (fun a xs q => e a _ q) h2⟩
theorem found_val {H : Hp} (v : Int) : ∀ {f : Found} {kvs : List (Key × V)}, Paired (FRel H) f kvs →
    (∀ p d, f.lookup v = some (p, d) → ∃ t, valV kvs (.inl v : Key) = some (.ref t) ∧ H t = some (.tup [.int p, .int d])) ∧ (f.lookup v = none → valV kvs (.inl v : Key) = none)
  | _, _, .nil => ⟨fun p d h => by simp at h, fun _ => rfl⟩
  | (k, x) :: f, (kk, vv) :: kvs, .cons ⟨e1, t, e2, e3⟩ r => by
    have ih := found_val v r
    simp only at e1 e2 e3
    subst e1 e2
    by_cases e : v = k
    · subst e
      have l : List.lookup v ((v, x) :: f) = some x := by simp [List.lookup]
      rw [l, valV_pos rfl]
      refine ⟨fun p d h => ?_, fun h => nomatch h⟩
      injection h with h
      subst h
      exact ⟨t, rfl, e3⟩
    · have hb : (v == k) = false := by simpa using e
      have l : List.lookup v ((k, x) :: f) = List.lookup v f := by simp [List.lookup, hb]
      rw [l, valV_neg (fun q => e (Sum.inl.inj q).symm)]
      exact ih
theorem flen {H : Hp} {f : Found} {kvs : List (Key × V)} (h : Paired (FRel H) f kvs) : kvs.length = f.length := h.length.symm

/-! ### == of lists of ints -/
theorem dp_ints {K : PySem.W.Frag} {H : Hp} : ∀ (ns : List Int), DpAll K H (ns.map V.int) (ns.map PyData.int)
  | [] => .nil
  | n :: r => .cons (.int n) (dp_ints r)
theorem dp_ilist {K : PySem.W.Frag} {H : Hp} {a : Addr} {ns : List Int} (h : H a = some (.lst (ns.map V.int))) : Dp K H (.ref a) (.list (ns.map PyData.int)) := .lst (SqL.of h) (dp_ints ns)
theorem eqv_ints : ∀ (ns ms : List Int), PyData.eqvAll (ns.map PyData.int) (ms.map PyData.int) = decide (ns = ms)
  | [], [] => rfl
  | [], _ :: _ => rfl
  | _ :: _, [] => rfl
  | n :: r, m :: q => by
    show (PyData.eqv (.int n) (.int m) && PyData.eqvAll (r.map PyData.int) (q.map PyData.int)) = _
    rw [eqv_ints r q]
    show ((n == m) && decide (r = q)) = _
    by_cases e : n = m <;> simp [e]
theorem eqv_il (ns ms : List Int) : PyData.eqv (.list (ns.map PyData.int)) (.list (ms.map PyData.int)) = decide (ns = ms) := eqv_ints ns ms
theorem int_depths : ∀ (ns : List Int), PyData.depthAll (ns.map PyData.int) ≤ 1
  | [] => by simp only [List.map_nil, PyData.depthAll]; omega
  | n :: r => by
    have := int_depths r
    simp only [PyData.depth, PyData.depthAll, List.map_cons]
    omega
theorem int_lays : ∀ (ns : List Int), PyData.canLayAll0 (ns.map PyData.int) = true
  | [] => rfl
  | n :: r => by
    have := int_lays r
    simp only [List.map_cons, PyData.canLayAll0, PyData.canLay0, this]
    rfl
theorem shaped_list {ds : List PyData} (h1 : PyData.canLayAll0 ds = true) (h2 : PyData.depthAll ds ≤ 60) : SeqAt.shaped (.list ds) = true := by
  unfold SeqAt.shaped
  have e : PyData.canLay0 (.list ds) = true := by simp only [PyData.canLay0]; exact h1
  rw [e, Bool.true_and, decide_eq_true_eq]
  simp only [PyData.depth]
  omega
theorem shaped_ints (ns : List Int) : SeqAt.shaped (.list (ns.map PyData.int)) = true := shaped_list (int_lays _) (Nat.le_trans (int_depths _) (by decide))

/-! ### tests that change nothing -/
theorem ans_or2 {σ : St} {H : Hp} {t u : TT} {a b : Bool} (h1 : Ans t σ H a) (h2 : Ans u σ H b) : Ans (tOr t u) σ H (a || b) := by
  cases a with
  | true => exact ans_or1 h1
  | false => exact ans_or h1 h2
theorem val_eqi {σ : St} {H : Hp} {ta tb : TE} {x y : Int} (h1 : Val ta σ H (.int x)) (h2 : Val tb σ H (.int y)) : Ans (tTest (tOp rEq ta tb)) σ H (decide (x = y)) :=
  ans_eq h1 h2 rfl (by rw [dec_int]; exact Bool.beq_eq_decide_eq x y)
theorem val_nei {σ : St} {H : Hp} {ta tb : TE} {x y : Int} (h1 : Val ta σ H (.int x)) (h2 : Val tb σ H (.int y)) : Ans (tTest (tOp rNe ta tb)) σ H (!decide (x = y)) :=
  ans_ne h1 h2 rfl (by rw [dec_int, Bool.beq_eq_decide_eq x y])
theorem st_if {σ : St} {H : Hp} {c : TT} {t1 t2 : TS} {D : Ends} {b : Bool} (h : Ans c σ H b) (q1 : b = true → t1 D σ H) (q2 : b = false → t2 D σ H) : tIfS c t1 t2 D σ H := by
  cases b with
  | true => exact st_yes h (q1 rfl)
  | false => exact st_no h (q2 rfl)
theorem Ans.cast {t : TT} {σ : St} {H : Hp} {b b' : Bool} (h : Ans t σ H b) (e : b = b') : Ans t σ H b' := e ▸ h
theorem szl {n : Nat} (h : n ≤ 1000) : n < sizeLine := Nat.lt_of_le_of_lt h (by decide)
theorem szle {n : Nat} (h : n ≤ 1000) : n ≤ sizeLine := Nat.le_of_lt (szl h)
theorem FoundAt.updL {H : Hp} {d q : Addr} {f : Found} {xs ys : List V} (h : FoundAt H d f) (hq : H q = some (.lst xs)) : FoundAt (upd H q (.lst ys)) d f := by
  obtain ⟨kvs, h1, h2⟩ := h
  exact ⟨kvs, keepU h1 hq (by intro z; cases z), FRel.same (fun a zs e => keepU e hq (by intro z; cases z)) h2⟩
theorem paired_snoc {α β : Type} {F : α → β → Prop} {a : α} {b : β} : ∀ {l₁ : List α} {l₂ : List β}, Paired F l₁ l₂ → F a b → Paired F (l₁ ++ [a]) (l₂ ++ [b])
  | _, _, .nil, z => .cons z .nil
  | _, _, .cons x r, z => .cons x (paired_snoc r z)

theorem inV_ints (ns : List Int) (x : Int) : inV (.int x) (ns.map V.int) = decide (x ∈ ns) := by
  unfold inV
  rw [List.any_map]
  refine Bool.eq_iff_iff.mpr ?_
  rw [List.any_eq_true, decide_eq_true_eq]
  constructor
  · rintro ⟨y, hy, e⟩
    have e : (y == x) = true := e
    rw [beq_iff_eq] at e
    exact e ▸ hy
  · exact fun h => ⟨x, h, (beq_self_eq_true x : (x == x) = true)⟩
theorem flat_ints (ns : List Int) : (ns.map V.int).all flatV = true := by
  rw [List.all_eq_true]
  rintro v hv
  obtain ⟨i, _, rfl⟩ := List.mem_map.mp hv
  rfl
theorem val_inI {K : PySem.W.Frag} {σ : St} {H : Hp} {ta tb : TE} {ns : List Int} {x : Int} {a : Addr} (h1 : Val ta σ H (.int x)) (h2 : Val tb σ H (.ref a)) (hS : SqL K H a (ns.map V.int) ∨ SqT K H a (ns.map V.int)) : Val (tOp (rIn K false) ta tb) σ H (.bl (decide (x ∈ ns))) :=
  val_op h1 h2 fun Q q => ⟨a, _, rfl, hS, rfl, flat_ints ns, by rw [if_neg (by decide), inV_ints]; exact q⟩
theorem ans_neb {σ : St} {H : Hp} {ta tb : TE} {x y : Bool} (h1 : Val ta σ H (.bl x)) (h2 : Val tb σ H (.bl y)) : Ans (tTest (tOp rNe ta tb)) σ H (!(x == y)) :=
  ans_ne h1 h2 rfl (by rw [dec_bl])

/-! ### comprehensions -/
section
variable {K : PySem.W.Frag} {g : TG} {tt : TT} {te : TE} {vs : List Nat} {σ : St} {H : Hp} {Q : VK}
abbrev LcGoal (J : It) (g : TG) (tt : TT) (te : TE) (vs : List Nat) (σ : St) (H : Hp) (Q : VK) : Prop :=
  ∀ D, H D = none → ∃ W : Nat → Nat → Hp → Prop, (∃ m, W 0 m (upd H D (.lst []))) ∧ ∀ i m U, W i m U → (J.stop i U ∧ Q (.ref D) U) ∨
    (J.go i U ∧ ∃ Z : Hp → Prop, (∀ U', Z U' → ∃ m', m' < m ∧ W (i + 1) m' U') ∧
      ∀ x U', J.yld i U x U' → g x (wipe σ vs) U' fun τ U2 => wipe τ vs = wipe σ vs ∧ tt τ U2 fun b U3 =>
        if b = true then te τ U3 fun y U4 => ∃ acc, U4 D = some (.lst acc) ∧ acc.length < sizeLine ∧ Z (upd U4 D (.lst (acc ++ [y]))) else Z U3)
/-- a turn -/
abbrev LcTurn (g : TG) (tt : TT) (te : TE) (vs : List Nat) (σ : St) (x : V) (H' : Hp) (Yes : V → Hp → Prop) (No : Hp → Prop) : Prop :=
  g x (wipe σ vs) H' fun σ2 H2 => wipe σ2 vs = wipe σ vs ∧ tt σ2 H2 fun b H3 => if b = true then te σ2 H3 Yes else No H3
abbrev SameB (D : Addr) (H1 H2 : Hp) : Prop := ∀ b o, b ≠ D → H1 b = some o → H2 b = some o
/-- elements that are new objects: R says of the i-th what it is -/
theorem lc_inv (J : It) (n : Nat) (hn : n ≤ 1000) (hgo : ∀ i H', Same H H' → i < n → J.go i H') (hstop : ∀ i H', Same H H' → n ≤ i → J.stop i H') (ok : Nat → Bool) (R : Addr → Nat → V → Hp → Prop)
    (mono : ∀ D i y H1 H2, SameB D H1 H2 → R D i y H1 → R D i y H2)
    (hs : ∀ i, i < n → ∀ D H', H D = none → Same H H' → (∃ acc, H' D = some (.lst acc)) → ∀ (Yes : V → Hp → Prop) (No : Hp → Prop), (ok i = true → ∀ y H4, Same H' H4 → R D i y H4 → Yes y H4) → (ok i = false → ∀ H4, Same H' H4 → No H4) →
      ∀ x H'', J.yld i H' x H'' → LcTurn g tt te vs σ x H'' Yes No)
    (hq : ∀ D H2 ys, H D = none → Same H H2 → H2 D = some (.lst ys) → Paired (fun i y => R D i y H2) ((List.range n).filter ok) ys → Q (.ref D) H2) : LcGoal J g tt te vs σ H Q := by
  intro D hD
  refine ⟨fun i m H' => m = n - i ∧ i ≤ n ∧ ∃ acc, Same H H' ∧ H' D = some (.lst acc) ∧ Paired (fun i y => R D i y H') ((List.range i).filter ok) acc, ⟨n, by simp, Nat.zero_le _, [], Same.new hD, upd_same, .nil⟩, ?_⟩
  rintro i m H' ⟨rfl, hi, acc, e, hA, hP⟩
  by_cases hlt : i < n
  · refine .inr ⟨hgo i H' e hlt, fun H' => ∃ acc, Same H H' ∧ H' D = some (.lst acc) ∧ Paired (fun i y => R D i y H') ((List.range (i + 1)).filter ok) acc, fun H'' ⟨acc, q⟩ => ⟨n - (i + 1), by omega, rfl, hlt, acc, q⟩, fun x H'' y => ?_⟩
    refine hs i hlt D H' hD e ⟨acc, hA⟩ _ _ (fun hok v H4 e4 r => ⟨acc, e4 _ _ hA, ?_, acc ++ [v], Same.mut (e.trans e4) hD, upd_same, ?_⟩) (fun hok H4 e4 => ⟨acc, e.trans e4, e4 _ _ hA, ?_⟩) x H'' y
    · have h1 := hP.length
      have h2 := List.length_filter_le ok (List.range i)
      rw [List.length_range] at h2
      exact szl (by omega)
    · rw [List.range_succ, List.filter_append]
      have : List.filter ok [i] = [i] := by simp [hok]
      rw [this]
      have sb : SameB D H4 (upd H4 D (.lst (acc ++ [v]))) := fun b o hb q => by rw [upd_ne hb]; exact q
      refine paired_snoc (Paired.mapP hP fun i y q => mono _ _ _ _ _ sb (mono _ _ _ _ _ (fun b o _ q => e4 b o q) q)) (mono _ _ _ _ _ sb r)
    · rw [List.range_succ, List.filter_append]
      have : List.filter ok [i] = [] := by simp [hok]
      rw [this, List.append_nil]
      exact Paired.mapP hP fun i y q => mono _ _ _ _ _ (fun b o _ q => e4 b o q) q
  · have : i = n := by omega
    subst this
    exact .inl ⟨hstop i H' e (Nat.le_refl _), hq D H' acc hD e hA hP⟩
theorem paired_map {f : Nat → V} : ∀ {l : List Nat} {ys : List V}, Paired (fun i y => y = f i) l ys → ys = l.map f
  | _, _, .nil => rfl
  | _, _, .cons h r => by rw [paired_map r, h]; rfl
/-- over a list, elements that are new objects -/
theorem lcl_inv {a : Addr} {xs : List V} (hS : SqL K H a xs) (hn : xs.length ≤ 1000) (ok : Nat → Bool) (R : Addr → Nat → V → Hp → Prop)
    (mono : ∀ D i y H1 H2, SameB D H1 H2 → R D i y H1 → R D i y H2)
    (hs : ∀ i x, xs[i]? = some x → ∀ D H', H D = none → Same H H' → (∃ acc, H' D = some (.lst acc)) → ∀ (Yes : V → Hp → Prop) (No : Hp → Prop), (ok i = true → ∀ y H4, Same H' H4 → R D i y H4 → Yes y H4) → (ok i = false → ∀ H4, Same H' H4 → No H4) →
      LcTurn g tt te vs σ x H' Yes No)
    (hq : ∀ D H2 ys, H D = none → Same H H2 → H2 D = some (.lst ys) → Paired (fun i y => R D i y H2) ((List.range xs.length).filter ok) ys → Q (.ref D) H2) : LcGoal (Itl K a) g tt te vs σ H Q := by
  refine lc_inv (Itl K a) xs.length hn (fun i H' e hi => ⟨xs, xs[i], e.seq hS, by simp [hi]⟩) (fun i H' e hi => ⟨xs, e.seq hS, hi⟩) ok R mono (fun i hi D H' hD e hA Yes No hy hno x H'' y => ?_) hq
  obtain ⟨rfl, y⟩ := y
  exact hs i x (y xs (e.seq hS)) D _ hD e hA Yes No hy hno
theorem lcr_inv {lo : Int} {n : Nat} (hn : n ≤ 1000) (ok : Nat → Bool) (R : Addr → Nat → V → Hp → Prop)
    (mono : ∀ D i y H1 H2, SameB D H1 H2 → R D i y H1 → R D i y H2)
    (hs : ∀ (i : Nat), i < n → ∀ D H', H D = none → Same H H' → (∃ acc, H' D = some (.lst acc)) → ∀ (Yes : V → Hp → Prop) (No : Hp → Prop), (ok i = true → ∀ y H4, Same H' H4 → R D i y H4 → Yes y H4) → (ok i = false → ∀ H4, Same H' H4 → No H4) →
      LcTurn g tt te vs σ (.int (lo + i)) H' Yes No)
    (hq : ∀ D H2 ys, H D = none → Same H H2 → H2 D = some (.lst ys) → Paired (fun i y => R D i y H2) ((List.range n).filter ok) ys → Q (.ref D) H2) : LcGoal (Itr lo n) g tt te vs σ H Q := by
  refine lc_inv (Itr lo n) n hn (fun i H' e hi => hi) (fun i H' e hi => hi) ok R mono (fun i hi D H' hD e hA Yes No hy hno x H'' y => ?_) hq
  obtain ⟨rfl, rfl⟩ := y
  exact hs i hi D _ hD e hA Yes No hy hno
theorem filter_range_map {α : Type} {β : Type} {l : List α} (d : α) (ok : α → Bool) (f : α → β) : ((List.range l.length).filter fun i => ok (l.getD i d)).map (fun i => f (l.getD i d)) = (l.filter ok).map f := by
  have e : l = (List.range l.length).map fun i => l.getD i d := by
    refine List.ext_getElem (by simp) fun i k1 k2 => ?_
    simp [List.getD, k1]
  conv => rhs; rw [e]
  rw [List.filter_map, List.map_map]
  rfl
/-- over a list of known things, elements that are plain values -/
theorem lcl {α : Type} {a : Addr} {xs : List V} {l : List α} (d : α) (E : α → V → Prop) (hp : Paired E l xs) (hS : SqL K H a xs) (hn : l.length ≤ 1000) (ok : α → Bool) (f : α → V)
    (hs : ∀ x v, x ∈ l → E x v → ∀ H', Same H H' → ∀ (Yes : V → Hp → Prop) (No : Hp → Prop), (ok x = true → ∀ H4, Same H' H4 → Yes (f x) H4) → (ok x = false → ∀ H4, Same H' H4 → No H4) → LcTurn g tt te vs σ v H' Yes No)
    (hq : ∀ D H2, H D = none → Same H H2 → H2 D = some (.lst ((l.filter ok).map f)) → Q (.ref D) H2) : LcGoal (Itl K a) g tt te vs σ H Q := by
  have hl := hp.length
  refine lcl_inv hS (by omega) (fun i => ok (l.getD i d)) (fun _ i y _ => y = f (l.getD i d)) (fun _ _ _ _ _ _ q => q) (fun i v hi D H' hD e _ Yes No hy hno => ?_) (fun D H2 ys hD e hA hP => ?_)
  · obtain ⟨x, hx, hE⟩ := paired_get' hp hi
    have ed : l.getD i d = x := by rw [List.getD_eq_getElem?_getD, hx]; rfl
    rw [ed] at hy hno
    exact hs x v (List.mem_of_getElem? hx) hE H' e Yes No (fun q H4 e4 => hy q _ H4 e4 rfl) hno
  · rw [paired_map hP, ← hl, filter_range_map d ok f] at hA
    exact hq D H2 hD e hA
/-- over a range, elements that are plain values -/
theorem lcr {lo : Int} {n : Nat} (hn : n ≤ 1000) (ok : Nat → Bool) (f : Nat → V)
    (hs : ∀ (i : Nat), i < n → ∀ H', Same H H' → ∀ (Yes : V → Hp → Prop) (No : Hp → Prop), (ok i = true → ∀ H4, Same H' H4 → Yes (f i) H4) → (ok i = false → ∀ H4, Same H' H4 → No H4) → LcTurn g tt te vs σ (.int (lo + i)) H' Yes No)
    (hq : ∀ D H2, H D = none → Same H H2 → H2 D = some (.lst (((List.range n).filter ok).map f)) → Q (.ref D) H2) : LcGoal (Itr lo n) g tt te vs σ H Q := by
  refine lcr_inv hn ok (fun _ i y _ => y = f i) (fun _ _ _ _ _ _ q => q) (fun i hi D H' hD e _ Yes No hy hno => hs i hi H' e Yes No (fun q H4 e4 => hy q _ H4 e4 rfl) hno) (fun D H2 ys hD e hA hP => ?_)
  rw [paired_map hP] at hA
  exact hq D H2 hD e hA
end
theorem paired_self {β : Type} {g : β → V} : ∀ (l : List β), Paired (fun (x : β) v => v = g x) l (l.map g)
  | [] => .nil
  | x :: r => .cons rfl (paired_self r)
theorem withinV_int {x : V} {lo hi : Int} (h : withinV x lo hi = true) : ∃ i, x = .int i ∧ lo ≤ i ∧ i ≤ hi := by
  cases x with
  | int i =>
    simp [withinV] at h
    exact ⟨i, rfl, h.1, h.2⟩
  | _ => cases h
theorem withinV_of {i lo hi : Int} (h1 : lo ≤ i) (h2 : i ≤ hi) : withinV (.int i) lo hi = true := by simp [withinV, h1, h2]

/-! ### rules with K said, for blocks -/
section
variable {X : Cx}
theorem ix_tupK (K : PySem.W.Frag) (h : X.K = K := by rfl) : IxR X (rIxT K) := h ▸ ix_tup
theorem ix_listK (K : PySem.W.Frag) (h : X.K = K := by rfl) : IxR X (rIxL K) := h ▸ ix_list
theorem op_inK (K : PySem.W.Frag) (h : X.K = K := by rfl) : OpR X (compareOp .In) (rIn K false) := h ▸ op_in_seq
theorem op_notInK (K : PySem.W.Frag) (h : X.K = K := by rfl) : OpR X (compareOp .NotIn) (rIn K true) := h ▸ op_notIn_seq
theorem pe_fldK (K : PySem.W.Frag) {e : Expr} {ta : TE} {f : Str} {pos : Pos} (he : PE X e ta) (hb : attributeBase e f X.env (eval e X.env) = eval e X.env) (h : X.K = K := by rfl) : PE X (.Attribute e f pos) (tFld K ta f) := h ▸ pe_fld he hb
theorem pi_listK (K : PySem.W.Frag) {tg l : Expr} {tl : TE} (hl : PE X l tl) (h : X.K = K := by rfl) : PI X tg l (iList K tl) := h ▸ pi_list hl
theorem pi_tupK (K : PySem.W.Frag) {tg l : Expr} {tl : TE} (hl : PE X l tl) (h : X.K = K := by rfl) : PI X tg l (iTup K tl) := h ▸ pi_tup hl
theorem pg_tupK (K : PySem.W.Frag) {pos : Pos} {es : List Expr} {k : Nat} {t : TGs} {n : Nat} (hc : X.calm = true) (h : PGs X es t) (hn : (assignEach es X.env).length = n := by rfl) (hst : (assignEach es X.env).findIdx? (·.1) = none := by rfl) (hk : X.K = K := by rfl) :
    PG X (.Tuple es k pos) (gTup K n t) := hk ▸ pg_tup hc h hn hst
theorem sl_listK (K : PySem.W.Frag) (h : X.K = K := by rfl) : SlR X (rSlL K) := h ▸ sl_list
theorem sl_tupK (K : PySem.W.Frag) (h : X.K = K := by rfl) : SlR X (rSlT K) := h ▸ sl_tup
theorem op_eqDK (K : PySem.W.Frag) (hu : X.A.units + 64 < cLine) (h : X.K = K := by rfl) : OpR X (compareOp .Eq) (rEqD K) := h ▸ op_eqD hu
theorem op_neDK (K : PySem.W.Frag) (hu : X.A.units + 64 < cLine) (h : X.K = K := by rfl) : OpR X (compareOp .NotEq) (rNeD K) := h ▸ op_neD hu
def rLenK (K : PySem.W.Frag) : List V → Hp → VK → Prop := fun xs H Q => ∃ p ys, xs = [.ref p] ∧ (SqL K H p ys ∨ SqT K H p ys) ∧ Q (.int ys.length) H
theorem call_lenK (K : PySem.W.Frag) (h : X.K = K := by rfl) : CallR X (.builtin "len") (rLenK K) := by subst h; exact call_len_seq
theorem cr_anyK (K : PySem.W.Frag) (hc : X.calm = true) (h : X.K = K := by rfl) : CallR X (.builtin "any") (rAny K) := h ▸ cr_any hc
theorem cr_allK (K : PySem.W.Frag) (hc : X.calm = true) (h : X.K = K := by rfl) : CallR X (.builtin "all") (rAll K) := h ▸ cr_all hc
theorem cr_sumK (K : PySem.W.Frag) (hc : X.calm = true) (h : X.K = K := by rfl) : CallR X (.builtin "sum") (rSum K) := h ▸ cr_sum hc
theorem cr_maxK (K : PySem.W.Frag) (hc : X.calm = true) (h : X.K = K := by rfl) : CallR X (.builtin "max") (rMax K) := h ▸ cr_max hc
theorem cr_minK (K : PySem.W.Frag) (hc : X.calm = true) (h : X.K = K := by rfl) : CallR X (.builtin "min") (rMin K) := h ▸ cr_min hc
theorem cr_sortedK (K : PySem.W.Frag) (h : X.K = K := by rfl) : CallR X (.builtin "sorted") (rSorted K) := h ▸ cr_sorted
end

section
variable {wi : TI} {g : TG} {tt : TT} {te : TE} {vs : List Nat} {σ : St} {H : Hp} {Q : VK}
theorem lc_pre (PJ : It → Hp → Prop) (hwi : ∀ R : It → Hp → Prop, (∀ J H1, PJ J H1 → R J H1) → wi σ H R) (h : ∀ J H1, PJ J H1 → LcGoal J g tt te vs σ H1 Q) : tLc wi g tt te vs σ H Q := hwi _ h
theorem lc_at (J : It) (hwi : ∀ R : It → Hp → Prop, R J H → wi σ H R) (h : LcGoal J g tt te vs σ H Q) : tLc wi g tt te vs σ H Q := hwi _ h
end

section
variable {tt : TT} {te : TE} {vs : List Nat} {σ : St} {x : V} {H : Hp} {Yes : V → Hp → Prop} {No : Hp → Prop} {i : Nat}
theorem turn_all (h : te ((wipe σ vs).set i (some x)) H Yes) (hw : wipe ((wipe σ vs).set i (some x)) vs = wipe σ vs := by rfl) : LcTurn (gName i) tYes te vs σ x H Yes No := by
  refine ⟨hw, ?_⟩
  show (if true = true then te ((wipe σ vs).set i (some x)) H Yes else No H)
  rw [if_pos rfl]
  exact h
theorem turn_ifS {b : Bool} (ha : ∀ Q : Bool → Hp → Prop, (∀ H', Same H H' → Q b H') → tt ((wipe σ vs).set i (some x)) H Q) (h : b = true → ∀ H', Same H H' → te ((wipe σ vs).set i (some x)) H' Yes) (hn : b = false → ∀ H', Same H H' → No H') (hw : wipe ((wipe σ vs).set i (some x)) vs = wipe σ vs := by rfl) : LcTurn (gName i) tt te vs σ x H Yes No := by
  refine ⟨hw, ha _ fun H' s' => ?_⟩
  cases b with
  | true =>
    show (if true = true then te ((wipe σ vs).set i (some x)) H' Yes else No H')
    rw [if_pos rfl]
    exact h rfl H' s'
  | false =>
    show (if false = true then te ((wipe σ vs).set i (some x)) H' Yes else No H')
    rw [if_neg (by decide)]
    exact hn rfl H' s'
theorem turn_if {b : Bool} (ha : Ans tt ((wipe σ vs).set i (some x)) H b) (h : b = true → te ((wipe σ vs).set i (some x)) H Yes) (hn : b = false → No H) (hw : wipe ((wipe σ vs).set i (some x)) vs = wipe σ vs := by rfl) : LcTurn (gName i) tt te vs σ x H Yes No := by
  refine ⟨hw, ha _ ?_⟩
  cases b with
  | true =>
    show (if true = true then te ((wipe σ vs).set i (some x)) H Yes else No H)
    rw [if_pos rfl]
    exact h rfl
  | false =>
    show (if false = true then te ((wipe σ vs).set i (some x)) H Yes else No H)
    rw [if_neg (by decide)]
    exact hn rfl
end

theorem of_gName {i : Nat} {v : V} {σ : St} {H : Hp} {Q : St → Hp → Prop} (h : Q (σ.set i (some v)) H) : gName i v σ H Q := h
theorem of_seq {t u : TS} {D : Ends} {σ : St} {H : Hp} (h : t { D with nx := u D } σ H) : tSeq t u D σ H := h
theorem of_asg {te : TE} {g : TG} {D : Ends} {σ : St} {H : Hp} (h : te σ H fun x H1 => g x σ H1 D.nx) : tAsg te g D σ H := h
theorem of_ret {te : TE} {D : Ends} {σ : St} {H : Hp} (h : te σ H D.rt) : tRet te D σ H := h
theorem of_drop {te : TE} {D : Ends} {σ : St} {H : Hp} (h : te σ H fun _ H1 => D.nx σ H1) : tDrop te D σ H := h

/-! ### == of lists of roads, of rows -/
def roadD (r : Road) : PyData := .tuple [.int r.a, .int r.b, .int r.l]
theorem dp_road {K : PySem.W.Frag} {H : Hp} {r : Road} {v : V} (h : RoadAt H r v) : Dp K H v (roadD r) := by
  obtain ⟨t, rfl, ht⟩ := h
  exact .tup (SqT.of ht) (.cons (.int _) (.cons (.int _) (.cons (.int _) .nil)))
theorem dp_roads {K : PySem.W.Frag} {H : Hp} : ∀ {rs : List Road} {us : List V}, RoadsAt H rs us → DpAll K H us (rs.map roadD)
  | _, _, .nil => .nil
  | _, _, .cons h r => .cons (dp_road h) (dp_roads r)
theorem roadD_lay (r : Road) : (roadD r).canLay0 = true := by simp [roadD, PyData.canLay0, PyData.canLayAll0]
theorem roadD_depth (r : Road) : (roadD r).depth ≤ 2 := by simp [roadD, PyData.depth, PyData.depthAll]
theorem roads_lay : ∀ rs : List Road, PyData.canLayAll0 (rs.map roadD) = true
  | [] => by simp only [List.map_nil, PyData.canLayAll0]
  | r :: rs => by simp [PyData.canLayAll0, roadD_lay r, roads_lay rs]
theorem roads_depth : ∀ rs : List Road, PyData.depthAll (rs.map roadD) ≤ 2
  | [] => by simp only [List.map_nil, PyData.depthAll]; omega
  | r :: rs => by
    have h1 := roads_depth rs
    have h2 := roadD_depth r
    simp only [PyData.depthAll, List.map_cons]
    omega
theorem shaped_roads (rs : List Road) : SeqAt.shaped (.list (rs.map roadD)) = true := shaped_list (roads_lay _) (Nat.le_trans (roads_depth _) (by decide))
theorem eqv_road (r t : Road) : PyData.eqv (roadD r) (roadD t) = decide (r = t) := by
  show ((r.a == t.a) && ((r.b == t.b) && ((r.l == t.l) && true))) = _
  obtain ⟨a, b, l⟩ := r
  obtain ⟨x, y, z⟩ := t
  by_cases h1 : a = x <;> by_cases h2 : b = y <;> by_cases h3 : l = z <;> simp [h1, h2, h3]
theorem eqv_roadsAll : ∀ (rs ts : List Road), PyData.eqvAll (rs.map roadD) (ts.map roadD) = decide (rs = ts)
  | [], [] => rfl
  | [], _ :: _ => rfl
  | _ :: _, [] => rfl
  | r :: rs, t :: ts => by
    show (PyData.eqv (roadD r) (roadD t) && PyData.eqvAll (rs.map roadD) (ts.map roadD)) = _
    rw [eqv_road, eqv_roadsAll rs ts]
    by_cases e : r = t <;> simp [e]
theorem eqv_roads (rs ts : List Road) : PyData.eqv (.list (rs.map roadD)) (.list (ts.map roadD)) = decide (rs = ts) := eqv_roadsAll rs ts
theorem rows_lay : ∀ rs : List (List Int), PyData.canLayAll0 (rs.map fun r => PyData.list (r.map PyData.int)) = true
  | [] => by simp only [List.map_nil, PyData.canLayAll0]
  | r :: rs => by
    have h1 : PyData.canLay0 (.list (r.map PyData.int)) = true := by simp only [PyData.canLay0]; exact int_lays r
    have h2 := rows_lay rs
    simp only [List.map_cons, PyData.canLayAll0, h1, h2]
    rfl
theorem rows_depth : ∀ rs : List (List Int), PyData.depthAll (rs.map fun r => PyData.list (r.map PyData.int)) ≤ 3
  | [] => by simp only [List.map_nil, PyData.depthAll]; omega
  | r :: rs => by
    have h1 := rows_depth rs
    have h2 := int_depths r
    simp only [PyData.depth, PyData.depthAll, List.map_cons]
    omega
theorem shaped_rows (rs : List (List Int)) : SeqAt.shaped (.list (rs.map fun r => PyData.list (r.map PyData.int))) = true := shaped_list (rows_lay _) (Nat.le_trans (rows_depth _) (by decide))
theorem eqv_rowsAll : ∀ (rs ts : List (List Int)), PyData.eqvAll (rs.map fun r => PyData.list (r.map PyData.int)) (ts.map fun r => PyData.list (r.map PyData.int)) = decide (rs = ts)
  | [], [] => rfl
  | [], _ :: _ => rfl
  | _ :: _, [] => rfl
  | r :: rs, t :: ts => by
    show (PyData.eqv (.list (r.map PyData.int)) (.list (t.map PyData.int)) && PyData.eqvAll (rs.map fun r => PyData.list (r.map PyData.int)) (ts.map fun r => PyData.list (r.map PyData.int))) = _
    rw [eqv_il, eqv_rowsAll rs ts]
    by_cases e : r = t <;> simp [e]
theorem eqv_rows (rs ts : List (List Int)) : PyData.eqv (.list (rs.map fun r => PyData.list (r.map PyData.int))) (.list (ts.map fun r => PyData.list (r.map PyData.int))) = decide (rs = ts) := eqv_rowsAll rs ts
theorem gd_mk {P : Program} {w : World} {K : PySem.W.Frag} {mg : Str → Option Value} {base : Heap} {x q : Str} {st : Stmt} {f : Addr} {fd : FuncData} {k : Nat} {ps : List Str} {sp : Sp} (F : Fun K x q st f fd) (hm : mg x = some (.ref f)) (hb : Binds K fd ps []) (ok : FnOk P w K mg base CX0 k f fd ps sp) : Gd P w K mg base k x ps sp :=
  ⟨f, fd, hm, F.kp, hb, Wr.FnOk.lift ok⟩
theorem gm_mk {P : Program} {w : World} {K : PySem.W.Frag} {mg : Str → Option Value} {base : Heap} {C : Addr} {x : Str} {f : Addr} {fd : FuncData} {k : Nat} {ps : List Str} {sp : Sp} (M : Meth K C x f) (hb : Binds K fd ps []) (ok : FnOk P w K mg base CX0 k f fd ps sp) : Gm P w K mg base C k x ps sp :=
  ⟨f, fd, M, hb, Wr.FnOk.lift ok⟩
theorem gc_mk {P : Program} {w : World} {K : PySem.W.Frag} {mg : Str → Option Value} {base : Heap} {C : Addr} {x : Str} {f : Addr} {fd : FuncData} {k : Nat} {ps : List Str} {sp : Sp} (hm : mg x = some (.ref C)) (M : Mk K C f) (hb : Binds K fd ps []) (ok : FnOk P w K mg base CX0 k f fd ps sp) : Gc P w K mg base C k x ps sp :=
  ⟨f, fd, hm, M, hb, Wr.FnOk.lift ok⟩
theorem of_next {n : St → Hp → Prop} {r : VK} {b c : St → Hp → Prop} {σ : St} {H : Hp} (h : n σ H) : tNext ⟨n, r, b, c⟩ σ H := h
theorem of_nx {n : St → Hp → Prop} {r : VK} {b c : St → Hp → Prop} {σ : St} {H : Hp} (h : n σ H) : (Ends.mk n r b c).nx σ H := h
theorem of_ifs {c : TT} {t u : TS} {D : Ends} {σ : St} {H : Hp} (h : c σ H fun b H1 => if b = true then t D σ H1 else u D σ H1) : tIfS c t u D σ H := h
theorem of_not {c : TT} {σ : St} {H : Hp} {Q : Bool → Hp → Prop} (h : c σ H fun b H1 => Q (!b) H1) : tNot c σ H Q := h
theorem of_b {te : TE} {σ : St} {H : Hp} {Q : Bool → Hp → Prop} (h : te σ H fun x H1 => ∃ c, x = .bl c ∧ Q c H1) : tB te σ H Q := h
theorem of_tup {te : TE} {ta : TA} {σ : St} {H : Hp} {Q : VK} (h : te σ H fun x H1 => ta σ H1 fun xs H2 => (x :: xs).length ≤ sizeLine ∧ ∀ p, H2 p = none → Q (.ref p) (upd H2 p (.tup (x :: xs)))) : tTup (tCons te ta) σ H Q := h
theorem of_cons {te : TE} {ta : TA} {σ : St} {H : Hp} {Q : List V → Hp → Prop} (h : te σ H fun x H1 => ta σ H1 fun xs H2 => Q (x :: xs) H2) : tCons te ta σ H Q := h
theorem val_ifE {t : TT} {ta tb : TE} {σ : St} {H : Hp} {b : Bool} {x y : V} (h : Ans t σ H b) (h1 : b = true → Val ta σ H x) (h2 : b = false → Val tb σ H y) : Val (tIf t ta tb) σ H (if b = true then x else y) := by
  intro Q q
  refine h _ ?_
  cases b with
  | true => exact h1 rfl _ q
  | false => exact h2 rfl _ q
theorem of_test {te : TE} {σ : St} {H : Hp} {Q : Bool → Hp → Prop} (h : te σ H fun x H' => ∃ k, x = .bl k ∧ Q k H') : tTest te σ H Q := h
theorem of_op {r : R2} {ta tb : TE} {σ : St} {H : Hp} {Q : VK} (h : ta σ H fun x H1 => tb σ H1 fun y H2 => r x y H2 Q) : tOp r ta tb σ H Q := h
theorem of_var {i : Nat} {v : V} {σ : St} {H : Hp} {Q : VK} (e : σ[i]? = some (some v)) (h : Q v H) : tVar i σ H Q := ⟨v, e, h⟩
theorem dp_trip {K : PySem.W.Frag} {H : Hp} {p : Addr} {a b c : Int} (h : H p = some (.tup [.int a, .int b, .int c])) : Dp K H (.ref p) (.tuple [.int a, .int b, .int c]) := .tup (SqT.of h) (.cons (.int _) (.cons (.int _) (.cons (.int _) .nil)))
theorem shaped_trip (a b c : Int) : SeqAt.shaped (.tuple [.int a, .int b, .int c]) = true := by
  unfold SeqAt.shaped
  rw [Bool.and_eq_true, decide_eq_true_eq]
  constructor
  · rfl
  · simp only [PyData.depth, PyData.depthAll]; omega
theorem of_cb1 {r : List V → Hp → VK → Prop} {te : TE} {σ : St} {H : Hp} {Q : VK} (h : te σ H fun x H1 => r [x] H1 Q) : tCB r (tCons te tNil) σ H Q := h
theorem paired_mapL {α β γ : Type} {F : β → γ → Prop} {g : α → β} : ∀ {l : List α} {ys : List γ}, Paired F (l.map g) ys → Paired (fun x y => F (g x) y) l ys
  | [], _, .nil => .nil
  | _ :: l, _, .cons h r => .cons h (paired_mapL r)
theorem shaped_pair (ns : List Int) (m : Int) : SeqAt.shaped (.tuple [.list (ns.map PyData.int), .int m]) = true := by
  have h1 := int_depths ns
  have h2 := int_lays ns
  unfold SeqAt.shaped
  rw [Bool.and_eq_true, decide_eq_true_eq]
  constructor
  · simp only [PyData.canLay0, PyData.canLayAll0, h2]; rfl
  · simp only [PyData.depth, PyData.depthAll]; omega
theorem dp_pair {K : PySem.W.Frag} {H : Hp} {p l : Addr} {ns : List Int} {m : Int} (h1 : H p = some (.tup [.ref l, .int m])) (h2 : H l = some (.lst (ns.map V.int))) : Dp K H (.ref p) (.tuple [.list (ns.map PyData.int), .int m]) :=
  .tup (SqT.of h1) (.cons (dp_ilist h2) (.cons (.int m) .nil))
theorem eqv_same {d : PyData} (h : SeqAt.shaped d = true) : PyData.eqv d d = true := SeqAt.eqv_refl d (SeqAt.canLay_of_shaped h)
end Wr

/-! more rules: sorted of a tuple, len(set(..)) -/
namespace Wr
open PySem PySem.Spec PyProof.Rows L2
section
variable {X : Cx}
/-- sorted of ints that stand in a list or a tuple -/
theorem srt_seq {pr : Program} {wo : World} {Ar : Around} {Er : Value → Shared → Prop} {st : Shared} {p : Addr} {T : String} {o : Obj} {us : List Value} {m : Nat} {zs : List Int} {R : Value → Shared → Prop} (hT : T = "list" ∨ T = "tuple")
    (h1 : st.heap.get? p = some o) (h2 : o.cls = .type T) (h3 : o.data = .seq us.toArray m) (hz : IntsAre us zs) (hl : us.length ≤ sizeLine)
    (fin : ∀ (g h' : Heap) (out : Array Value) (zs' : List Int) (e : Nat), (∀ b u, st.heap.get? b = some u → g.get? b = some u) → (∀ b u, g.get? b = some u → h'.get? b = some u) → IntsAre out.toList zs' → zs'.Perm zs → zs'.Pairwise (fun x y => x ≤ y) →
      h'.get? g.objs.size = some (seqObj "list" out e) → R (.ref g.objs.size) { st with heap := h' }) : wpAny (model pr wo) Ar (call (.builtin "sorted") [.ref p]) R Er st := by
  refine Calls.call_function_entry kind_sorted plain_sorted entry_sorted (args_sorted1 _) (wpAny_bind (m := checkCount "sorted" 1 1 1) (wpAny_pure (wpAny_bind (wpAny_collect_seq p hT h1 h2 h3 (fun g kg => ?_) (by rw [List.size_toArray]; exact hl)))))
  have eu : us.toArray.toList = us := by simp
  rw [eu]
  have hnew : (g.push (seqObj "list" us.toArray 0)).get? g.objs.size = some (seqObj "list" us.toArray 0) := Heap.get?_push_size g rfl
  refine wpAny_bind (wpAny_newList (wpAny_bind (wpAny_holding (wpAny_call_entry slot_list_sort ⟨_, hnew, rfl⟩ entry_list_sort (list_sort_treeAny hnew hz hl fun out zs' a1 a2 a3 => ⟨_, rfl, wpAny_pure ⟨_, rfl, ?_⟩⟩) (args_list_sort _)))) hl)
  obtain ⟨e, he⟩ := sortedHeap_at (out := out) hnew
  refine fin g _ out zs' e kg (fun b u hb => ?_) a1 a2 a3 he
  have lt := Heap.lt_size hb
  rw [sortedHeap_old (Nat.ne_of_lt lt) (by rw [size_push']; exact Nat.lt_succ_of_lt lt)]
  exact Heap.get?_push_of_some (seqObj "list" us.toArray 0) hb
def rSortedA (K : PySem.W.Frag) : List V → Hp → VK → Prop := fun vs H Q => ∃ (p : Addr) (zs : List Int), vs = [V.ref p] ∧ (SqL K H p (zs.map V.int) ∨ SqT K H p (zs.map V.int)) ∧
  ∀ (zs' : List Int) (q : Addr), zs'.Perm zs → zs'.Pairwise (fun x y => x ≤ y) → H q = none → Q (.ref q) (upd H q (.lst (zs'.map V.int)))
theorem cr_sortedA (K : PySem.W.Frag) (hK : X.K = K := by rfl) : CallR X (.builtin "sorted") (rSortedA K) := by
  subst hK
  rintro pins s σ H vs us Q I r ⟨p, zs, rfl, hs, k⟩
  rw [Vals.ref1 r]
  have done : zs.length ≤ sizeLine → ∀ (g h' : Heap) (out : Array Value) (zs' : List Int) (e : Nat), (∀ b u, s.heap.get? b = some u → g.get? b = some u) → (∀ b u, g.get? b = some u → h'.get? b = some u) → IntsAre out.toList zs' → zs'.Perm zs → zs'.Pairwise (fun x y => x ≤ y) →
      h'.get? g.objs.size = some (seqObj "list" out e) → EP X pins σ Q (.ref g.objs.size) { s with heap := h' } := fun hn g h' out zs' e k1 k2 a1 a2 a3 he => by
    have J : Inv X pins σ H { s with heap := g } := I.kept (t' := s.toks) k1
    exact ⟨.ref g.objs.size, upd H g.objs.size (.lst (zs'.map V.int)), J.laid (t' := s.toks) k2 (Nat.le_refl _) ⟨by rw [List.length_map, a2.length_eq]; exact hn, out.toList, e, vals_of_ints a1, he⟩, rfl, k zs' _ a2 a3 (J.hok.fresh (Nat.le_refl _))⟩
  rcases hs with hs | hs
  · obtain ⟨its, rv, hl, hz⟩ := I.list hs
    obtain ⟨o, h1, h2, n, h3⟩ := hl.isList
    have el := rv.length
    rw [List.length_map] at el hz
    exact srt_seq (.inl rfl) h1 h2 h3 rv.ints (by omega) (done (by omega))
  · obtain ⟨its, rv, ⟨o, h1, h2, n, h3⟩, hz⟩ := I.tuple hs
    have el := rv.length
    rw [List.length_map] at el hz
    exact srt_seq (.inr rfl) h1 h2 h3 rv.ints (by omega) (done (by omega))

/-! ### len(set(xs)) -/
def distinct (ns : List Int) : List Int := PyProof.Rows.firstMet (fun i => ns.getD i 0) ns.length
def tLenSetA (K : PySem.W.Frag) (ta : TE) : TE := fun σ H Q => ta σ H fun x H1 => ∃ (l : Addr) (ns : List Int), x = .ref l ∧ SqL K H1 l (ns.map V.int) ∧ ns.length ≤ 4000 ∧ Q (.int ((distinct ns).length : Nat)) H1
theorem firstMet_le (f : Nat → Int) : ∀ n, (PyProof.Rows.firstMet f n).length ≤ n
  | 0 => Nat.le_refl _
  | n + 1 => by
    have ih := firstMet_le f n
    rw [PyProof.Rows.firstMet_succ]
    unfold step_dedup
    split
    · omega
    · simp only [List.length_append, List.length_singleton]; omega
theorem distinct_le (ns : List Int) : (distinct ns).length ≤ ns.length := firstMet_le _ _
theorem firstMet_lt {f : Nat → Int} : ∀ {n i j : Nat}, i < j → j < n → f i = f j → (PyProof.Rows.firstMet f n).length < n
  | 0, _, _, _, h, _ => absurd h (Nat.not_lt_zero _)
  | n + 1, i, j, hij, hj, e => by
    rw [PyProof.Rows.firstMet_succ]
    unfold step_dedup
    have hn := firstMet_le f n
    split
    · omega
    · rename_i hc
      simp only [List.length_singleton, List.length_append]
      by_cases ej : j = n
      · subst ej
        exfalso
        apply hc
        have hmem : ∀ m k, k < m → f k ∈ PyProof.Rows.firstMet f m := by
          intro m
          induction m with
          | zero => intro k hk; omega
          | succ m ih =>
            intro k hk
            rw [PyProof.Rows.firstMet_succ]
            unfold step_dedup
            by_cases ek : k = m
            · subst ek
              split
              · rename_i h1
                obtain ⟨y, hy, ey⟩ := List.any_eq_true.mp h1
                rw [← eq_of_beq ey]; exact hy
              · exact List.mem_append_right _ (by simp)
            · split
              · exact ih k (by omega)
              · exact List.mem_append_left _ (ih k (by omega))
        exact List.any_eq_true.mpr ⟨f i, hmem j i hij, by rw [e]; simp⟩
      · have := firstMet_lt (n := n) hij (by omega) e
        omega
theorem distinct_iff (ns : List Int) : (distinct ns).length < ns.length ↔ ¬ ns.Nodup := by
  constructor
  · intro h hn
    unfold distinct at h
    rw [RZ.firstMet_nodup hn ns.length (Nat.le_refl _), List.take_length] at h
    omega
  · intro h
    have : ∃ i j, ∃ (_ : i < j) (hj : j < ns.length), ns[i]'(by omega) = ns[j] := by
      apply Classical.byContradiction
      intro hc
      apply h
      rw [List.Nodup, List.pairwise_iff_getElem]
      intro i j hi hj hij e
      exact hc ⟨i, j, hij, hj, e⟩
    obtain ⟨i, j, hij, hj, e⟩ := this
    refine firstMet_lt hij hj ?_
    rw [List.getD_eq_getElem?_getD, List.getD_eq_getElem?_getD, List.getElem?_eq_getElem hj, List.getElem?_eq_getElem (by omega : i < ns.length)]
    exact e
theorem pe_lenSetA (K : PySem.W.Frag) {a : Expr} {ta : TE} {p p2 q pos : Pos} (g1 : Gl X "len") (m1 : X.mg "len" = none) (g2 : Gl X "set") (m2 : X.mg "set" = none) (ha : PE X a ta) (hc : X.calm = true := by rfl)
    (w1 : starEach [a] X.env = (false, eval a X.env) :: starEach [] X.env := by rfl) (hK : X.K = K := by rfl) : PE X (.Call (.Name "len" p) [.Call (.Name "set" p2) [a] [] q] [] pos) (tLenSetA K ta) := by
  subst hK
  refine ⟨fun pins s σ H Q I h => Call_ (ld_blt I g1 m1 boot_len (PyProof.Rows.callWith_builtin1 (PyProof.Rows.args_cons (Call_ (ld_blt I g2 m2 boot_set (PyProof.Rows.callWith_type1 (PyProof.Rows.args_cons (thn (ha.run pins s σ H _ I h) ?_) w1) w1 rfl))) rfl) rfl rfl))⟩
  rintro v s1 ⟨x, H1, I1, r1, l, zs, rfl, hq, hl, q1⟩
  cases r1
  refine (PyProof.Rows.args_nil ?_)
  obtain ⟨us, r, pl, _⟩ := I1.list hq
  have el := r.length
  rw [List.length_map] at el
  have hsz : us.toArray.size = zs.length := by rw [List.size_toArray]; exact el.symm
  have hd := distinct_le zs
  refine call_set_list (I1.ok.hd hc) pl.isList (by simpa using r.ints) (by rw [hsz]; unfold scanBound; omega) fun g tk hS kg => PyProof.Rows.args_nil ?_
  rw [hsz] at hS
  obtain ⟨o, es, ep, t, ho, hex, ht, _, _, _, hf, hn⟩ := hS
  have J : Inv X pins σ H1 { s1 with heap := g, toks := tk } := I1.kept fun b u hb => kg b u (Heap.lt_size hb) hb
  replace hn : es.size = (distinct zs).length := hn
  exact call_len_set ho hex ht hf (by rw [hn] <;> omega) ⟨.int ((distinct zs).length : Nat), H1, J.tok _, ⟨_, by rw [hn]⟩, q1⟩
end
end Wr

/-! list.extend by a tuple -/
namespace Wr
open PySem PySem.Builtin PySem.AutoSeq1 L2
theorem ext_tup (l : Addr) (items : Array Value) (n : Nat) (b : Addr) (items2 : Array Value) (n2 : Nat) (o : Obj) (ho : o.cls = .type "tuple") (hd : o.data = .seq items2 n2)
    (h0 : ¬(!items.isEmpty && Builtin.List.listTooLong (items.size + items2.size)) = true) (h1 : items.size ≤ sizeLine) (h2 : items.size + items2.size ≤ sizeLine + 1) :
    Meets (Builtin.«list.extend» ⟨[.ref l, .ref b], []⟩) (fun _ R s => s.heap.get? l = some { cls := .type "list", dict := none, data := .seq items n, slots := #[] } ∧ s.heap.get? b = some o ∧ R (.ok (.ret Value.none)) { s with heap := s.heap.update l (Obj.mapSeq fun x => x ++ items2), toks := s.toks }) := by
  obtain ⟨c, dt, dc, sl⟩ := o
  simp only at ho hd
  subst ho hd
  exact .of_wp fun prog w A R s h => by
    obtain ⟨hp, gn, dw, tk, os⟩ := s
    obtain ⟨hl, hb, h⟩ := h
    have f1 := sub_tuple_tuple
    have f2 := sub_list_list
    have f3 := sub_tuple_list
    have f4 := sub_list_tuple
    have hz' : (items ++ items2).size ≤ sizeLine + 1 := by rw [Array.size_append]; exact h2
    wp_walk using (wpAny_updateSeq hl rfl (hz := h1) (_hz' := hz')), wpAny_loadPart' hl, wpAny_loadPart' hb
    exact ⟨_, rfl, h⟩
def rExtendT (K : PySem.W.Frag) : V → List V → Hp → VK → Prop := fun x vs H Q => ∃ l b xs zs, x = .ref l ∧ vs = [.ref b] ∧ H l = some (.lst xs) ∧ SqT K H b zs ∧ xs.length + zs.length ≤ 1000 ∧ Q .non (upd H l (.lst (xs ++ zs)))
theorem mt_extendT {X : Cx} (K : PySem.W.Frag) (hK : X.K = K := by rfl) : MtM X "list.extend" (rExtendT K) := by
  subst hK
  intro pp ss st H o vs ov us Q I ro rs hw
  obtain ⟨l, b, xs, zs, rfl, rfl, hH, hB, hz, k⟩ := hw
  cases ro
  obtain ⟨u, rfl, ru⟩ := rs.one
  cases ru
  obtain ⟨zl, its, n, r, hl, el⟩ := I.lstM hH
  obtain ⟨its2, r2, ⟨o, e2, oc, n2, od⟩, _⟩ := I.tuple hB
  have hl2 := r2.length
  have z1 : its.toArray.size + its2.toArray.size ≤ 1000 := by rw [List.size_toArray, List.size_toArray]; omega
  have z2 : its.toArray.size + its2.toArray.size ≤ sizeLine := Nat.le_trans z1 (by decide)
  have nl : ¬ (!its.toArray.isEmpty && Builtin.List.listTooLong (its.toArray.size + its2.toArray.size)) = true := by
    rw [notLongL z2, Bool.and_false]
    exact Bool.false_ne_true
  refine call_meets F.slot_list_extend ⟨_, el, rfl⟩ F.entry_list_extend (F.args_list_extend_2 _ _) (ext_tup l its.toArray n b its2.toArray n2 o oc od nl (by omega) (by omega)) ⟨el, e2, ?_⟩
  refine ⟨.non, _, I.lset (its' := its ++ its2) hH el (by simp) (r.append r2) ?_, rfl, k⟩
  rw [List.length_append]
  exact Nat.le_trans hz (by decide)
end Wr

/-! objects with two lists of ints -/
namespace Wr
open PySem L2
structure Ox (K : PySem.W.Frag) (C : Addr) (f1 f2 : Str) : Prop where
  cl : Cls K C
  n1 : NoAttr K C f1
  n2 : NoAttr K C f2
  ne : (f2 == f1) = false
def ofs (f1 f2 : Str) (l1 l2 : Addr) : List (Str × V) := [(f1, .ref l1), (f2, .ref l2)]
theorem ofs_1 (f1 f2 : Str) (l1 l2 : Addr) : (ofs f1 f2 l1 l2).lookup f1 = some (.ref l1) := by
  unfold ofs
  simp [List.lookup]
theorem ofs_2 {f1 f2 : Str} (l1 l2 : Addr) (h : (f2 == f1) = false) : (ofs f1 f2 l1 l2).lookup f2 = some (.ref l2) := by
  unfold ofs
  simp [List.lookup, h]
theorem ofs_no {f1 f2 m : Str} (l1 l2 : Addr) (h1 : (m == f1) = false) (h2 : (m == f2) = false) : (ofs f1 f2 l1 l2).lookup m = none := by
  unfold ofs
  simp [List.lookup, h1, h2]
theorem ofs_put {f1 f2 : Str} (l1 l2 : Addr) (h : (f2 == f1) = false) : putF f2 (.ref l2) (putF f1 (.ref l1) []) = ofs f1 f2 l1 l2 := by
  have h : ¬ f1 = f2 := fun e => by subst e; simp at h
  show (if f1 = f2 then _ else _) = _
  rw [if_neg h]
  rfl
structure AnsAt (C : Addr) (f1 f2 : Str) (H : Hp) (p l1 l2 : Addr) (ps qs : List Int) : Prop where
  ins : ∃ dx, H p = some (.ins C dx (ofs f1 f2 l1 l2))
  h1 : H l1 = some (.lst (ps.map V.int))
  h2 : H l2 = some (.lst (qs.map V.int))
  ne : l1 ≠ l2
theorem AnsAt.same {C : Addr} {f1 f2 : Str} {H H' : Hp} {p l1 l2 : Addr} {ps qs : List Int} (e : Same H H') (h : AnsAt C f1 f2 H p l1 l2 ps qs) : AnsAt C f1 f2 H' p l1 l2 ps qs :=
  let ⟨dx, h0⟩ := h.ins
  ⟨⟨dx, e _ _ h0⟩, e _ _ h.h1, e _ _ h.h2, h.ne⟩
theorem AnsAt.p1 {C : Addr} {f1 f2 : Str} {H : Hp} {p l1 l2 : Addr} {ps qs : List Int} (h : AnsAt C f1 f2 H p l1 l2 ps qs) : p ≠ l1 :=
  let ⟨_, h0⟩ := h.ins
  ne_of h0 h.h1 (by intro z; cases z)
theorem AnsAt.p2 {C : Addr} {f1 f2 : Str} {H : Hp} {p l1 l2 : Addr} {ps qs : List Int} (h : AnsAt C f1 f2 H p l1 l2 ps qs) : p ≠ l2 :=
  let ⟨_, h0⟩ := h.ins
  ne_of h0 h.h2 (by intro z; cases z)
/-- one of its lists changes -/
theorem AnsAt.set1 {C : Addr} {f1 f2 : Str} {H : Hp} {p l1 l2 : Addr} {ps qs : List Int} (h : AnsAt C f1 f2 H p l1 l2 ps qs) (zs : List Int) : AnsAt C f1 f2 (upd H l1 (.lst (zs.map V.int))) p l1 l2 zs qs :=
  let ⟨dx, h0⟩ := h.ins
  ⟨⟨dx, by rw [upd_ne h.p1]; exact h0⟩, upd_same, by rw [upd_ne h.ne.symm]; exact h.h2, h.ne⟩
theorem AnsAt.set2 {C : Addr} {f1 f2 : Str} {H : Hp} {p l1 l2 : Addr} {ps qs : List Int} (h : AnsAt C f1 f2 H p l1 l2 ps qs) (zs : List Int) : AnsAt C f1 f2 (upd H l2 (.lst (zs.map V.int))) p l1 l2 ps zs :=
  let ⟨dx, h0⟩ := h.ins
  ⟨⟨dx, by rw [upd_ne h.p2]; exact h0⟩, by rw [upd_ne h.ne]; exact h.h1, upd_same, h.ne⟩
theorem AnsAt.updL {C : Addr} {f1 f2 : Str} {H : Hp} {p l1 l2 a : Addr} {ps qs : List Int} {xs : List V} (h : AnsAt C f1 f2 H p l1 l2 ps qs) (ha : H a = some (.lst xs)) (n1 : l1 ≠ a) (n2 : l2 ≠ a) (ys : List V) : AnsAt C f1 f2 (upd H a (.lst ys)) p l1 l2 ps qs :=
  let ⟨dx, h0⟩ := h.ins
  ⟨⟨dx, keepU h0 ha (by intro z; cases z)⟩, by rw [upd_ne n1]; exact h.h1, by rw [upd_ne n2]; exact h.h2, h.ne⟩
/-- the promise of an __init__ that copies two lists -/
def spCopy (C : Addr) (f1 f2 : Str) : Sp := fun vs H Q _ => ∃ (p a b dx : Addr) (ps qs : List Int), vs = [.ref p, .ref a, .ref b] ∧ H p = some (.ins C dx []) ∧ H a = some (.lst (ps.map V.int)) ∧ H b = some (.lst (qs.map V.int)) ∧
  ∀ H' l1 l2, (∀ b o, H b = some o → b ≠ p → H' b = some o) → H l1 = none → H l2 = none → AnsAt C f1 f2 H' p l1 l2 ps qs → Q .non H'
end Wr

namespace Wr
open PySem L2
def top (i : Nat) : Stmt := PySem.Challenge.pw_wellroads_k05_whole_pairs_and_posts.main.body.getD i (.Pass ⟨0, 0, 0, 0⟩)
abbrev S_is_whole : Stmt := top 7
abbrev S_within : Stmt := top 8
abbrev S_is_road : Stmt := top 9
abbrev S_Tree_init : Stmt := inClass (top 10) 0
abbrev S_Tree_roads : Stmt := inClass (top 10) 1
abbrev S_Tree_walked : Stmt := inClass (top 10) 2
abbrev S_Tree_village : Stmt := inClass (top 10) 3
abbrev S_distances : Stmt := top 11
abbrev S_Answer_shows : Stmt := inClass (top 13) 0
abbrev S_Wells_init : Stmt := inClass (top 14) 0
abbrev S_Wells_shows : Stmt := inClass (top 14) 1
abbrev S_Posts_init : Stmt := inClass (top 16) 0
abbrev S_Posts_shows : Stmt := inClass (top 16) 1
abbrev S_paired : Stmt := top 17
abbrev S_road_of : Stmt := top 18
abbrev S_law_cell_at : Stmt := top 20
abbrev S_law_draw : Stmt := top 21
abbrev S_law_told : Stmt := top 22
abbrev S_law_name : Stmt := top 23
abbrev S_law_shown : Stmt := top 24
abbrev S_law_rising : Stmt := top 25
abbrev S_law_bent : Stmt := top 26
abbrev S_law_says : Stmt := top 27
abbrev S_law_changed_right : Stmt := top 28
abbrev S_law : Stmt := top 29
end Wr

namespace Wr
open PySem L2
section
variable {P : Program} {w : World} {K : PySem.W.Frag} {mg : Str → Option Value} {base : Heap}

def spWhole (K : PySem.W.Frag) : Sp := fun vs H Q _ => ∃ x, vs = [x] ∧ Plain K H x ∧ Q (.bl (isW x)) H
theorem sc_is_whole : FnScope ["number"] ["number"] (defScope S_is_whole) := ⟨rfl, rfl, rfl, by decide +kernel, rfl, by decide +kernel, by decide +kernel⟩
theorem ok_is_whole {f : Addr} {fd : FuncData} (F : Fun K "is_whole" "is_whole" S_is_whole f fd) (B : Bi mg) : FnOk P w K mg base CX0 1 f fd ["number"] (spWhole K) := by
  refine F.ok sc_is_whole (fun vs H Q E h => ?_) (fun cdv A outer s H vs Q E hr h => ?_)
  · obtain ⟨x, rfl, _⟩ := h
    rfl
  · obtain ⟨x, rfl, ⟨t, ty, k1, k2⟩, k⟩ := h
    refine ⟨_, pss_one (ps_ret (pe_and (pe_callB call_isi (by rfl) B.isinstance (by decide +kernel) (pa_cons (pv 0) (pa_cons (pe_bltn (v := .ty "int") (by rfl) B.int (by decide +kernel) rfl) pa_nil)))
      (pe_one (pe_not (pe_callB call_isi (by rfl) B.isinstance (by decide +kernel) (pa_cons (pv 0) (pa_cons (pe_bltn (v := .ty "bool") (by rfl) B.bool (by decide +kernel) rfl) pa_nil))))))), ?_⟩
    refine ⟨_, rfl, x, _, t, _, isI x, rfl, .ty _, ty, k1, isI x, rfl, ?_⟩
    rw [isW_eq] at k
    cases e : isI x with
    | true =>
      refine iteT ?_
      refine ⟨_, rfl, x, _, t, _, isB x, rfl, .ty _, ty, k2, isB x, rfl, ?_⟩
      rw [e] at k
      exact k
    | false =>
      refine iteF ?_
      rw [e] at k
      exact k
def spWithin (K : PySem.W.Frag) : Sp := fun vs H Q _ => ∃ x lo hi, vs = [x, .int lo, .int hi] ∧ Plain K H x ∧ Q (.bl (withinV x lo hi)) H
theorem sc_within : FnScope ["number", "low", "high"] ["number", "low", "high"] (defScope S_within) := ⟨rfl, rfl, rfl, by decide +kernel, rfl, by decide +kernel, by decide +kernel⟩
theorem ok_within {f : Addr} {fd : FuncData} (F : Fun K "within" "within" S_within f fd) (G1 : Gd P w K mg base 1 "is_whole" ["number"] (spWhole K)) : FnOk P w K mg base CX0 2 f fd ["number", "low", "high"] (spWithin K) := by
  refine F.ok sc_within (fun vs H Q E h => ?_) (fun cdv A outer s H vs Q E hr h => ?_)
  · obtain ⟨x, lo, hi, rfl, _⟩ := h
    rfl
  · obtain ⟨x, lo, hi, rfl, px, k⟩ := h
    refine ⟨_, pss_one (ps_ret (pe_and (pe_g G1 hr rfl (pa_cons (pv 0) pa_nil)) (pe_one (pe_chain op_le op_le (pv 1) (pv 0) (pv 2))))), ?_⟩
    refine ⟨_, rfl, x, rfl, px, isW x, rfl, ?_⟩
    cases x with
    | int i =>
      refine iteT ?_
      refine ⟨_, rfl, _, rfl, _, _, rfl, rfl, _, rfl, ?_⟩
      have k : Q (.bl (decide (lo ≤ i) && decide (i ≤ hi))) H := k
      cases e : decide (lo ≤ i) with
      | true =>
        refine iteT ?_
        refine ⟨_, rfl, _, _, rfl, rfl, ?_⟩
        rw [e] at k
        exact k
      | false =>
        refine iteF ?_
        rw [e] at k
        exact k
    | _ => exact iteF k
end
end Wr

namespace Wr
open PySem L2
structure Tx (K : PySem.W.Frag) (mg : Str → Option Value) (C : Addr) : Prop where
  cl : Cls K C
  nS : NoAttr K C "size"
  nR : NoAttr K C "rows"
section
variable {P : Program} {w : World} {K : PySem.W.Frag} {mg : Str → Option Value} {base : Heap}

def spWalked (C : Addr) : Sp := fun vs H Q _ => ∃ (t : Addr) (n : Nat) (rs : List Road) (s : Int), vs = [.ref t, .int s] ∧ TreeAt C H t n rs ∧ RoadsOk n rs ∧ n ≤ 12 ∧ 0 ≤ s ∧ s < n ∧
  ∀ d H', H d = none → Same H H' → FoundAt H' d (walked n rs s) → Q (.ref d) H'
theorem sc_walked : FnScope ["self", "start", "found", "waiting", "here", "one", "other", "length", "there"] ["self", "start"] (defScope S_Tree_walked) := ⟨rfl, rfl, rfl, by decide +kernel, rfl, by decide +kernel, by decide +kernel⟩
theorem ok_walked {f C : Addr} {fd : FuncData} (F : Fun K "walked" "Tree.walked" S_Tree_walked f fd) (T : Tx K mg C) : FnOk P w K mg base CX0 1 f fd ["self", "start"] (spWalked C) := by
  refine F.ok sc_walked (fun vs H Q E h => ?_) (fun cdv A outer s H vs Q E hr h => ?_)
  · obtain ⟨t, n, rs, s, rfl, _⟩ := h
    rfl
  · obtain ⟨t, n, rs, s, rfl, hT, ok, hn, hs0, hsn, k⟩ := h
    have hu := hu_of hr
    have nd := sc_walked.nd
    refine ⟨_, pss_cons (ps_set (i := 2) nd rfl (Or.inl rfl) (pe_disp (pps_cons (pv 1) (pe_tup (pa_cons (pe_un un_neg pe_int) (pa_cons pe_int pa_nil))) pps_nil) (by rfl) (by rfl) (fun z => by cases z) (by decide)))
      (pss_cons (ps_set (i := 3) nd rfl (Or.inl rfl) (pe_lst (pa_cons (pv 1) pa_nil)))
      (pss_cons (ps_while PassesOwn.never (pt_cmpR (op_neD hr.units) (pv 3) (pe_lst pa_nil) (nomark _))
        (pss_cons (ps_set (i := 4) nd rfl (Or.inl rfl) (pe_bm PySem.F.plainAttrs_list PySem.F.slot_list_pop PySem.F.type_list_pop mt_popAt (pv 3) (pa_cons pe_int pa_nil)))
        (pss_one (ps_for PassesOwn.never rfl (pi_list (pe_fld (pv 0) rfl)) (pg_tup rfl (pgs_cons (pg_name (i := 5) nd rfl (Or.inl rfl)) (pgs_cons (pg_name (i := 6) nd rfl (Or.inl rfl)) (pgs_cons (pg_name (i := 7) nd rfl (Or.inl rfl)) pgs_nil))))
          (pss_one (ps_if (PW.pt (pw_or (pt_cmpR op_eq (pv 4) (pv 5) (nomark _)) (pw_or1 (pt_cmpR op_eq (pv 4) (pv 6) (nomark _)))))
            (pss_cons (ps_set (i := 8) nd rfl (Or.inl rfl) (pe_op op_sub (pe_op op_add (pv 5) (pv 6)) (pv 4)))
            (pss_one (ps_if (pt_cmp (pc_dnotin hu (pv 8) (pv 2)))
              (pss_cons (ps_dput hu (pv 2) (pv 8) (pe_tup (pa_cons (pv 4) (pa_cons (pe_op op_add (pe_ix ix_tup (pe_dget hu (pv 2) (pv 4) (fun _ _ => rfl)) pe_int (fun _ _ => rfl)) (pv 7)) pa_nil))) rfl)
              (pss_one (ps_expr (pe_bm PySem.F.plainAttrs_list PySem.F.slot_list_append PySem.F.type_list_append mt_append (pv 3) (pa_cons (pv 8) pa_nil)))))
              pss_nil))) pss_nil))))))
      (pss_one (ps_ret (pv 2))))), ?_⟩
    -- found = {start: (-1, 0)}
    intro d hd
    refine ⟨_, rfl, _, rfl, (by show 2 ≤ sizeLine; decide), fun t0 ht0 => ?_⟩
    obtain ⟨dx, r, vsr, hI, hL, hR⟩ := hT
    have e1 : Same H (upd H d (.dK [])) := Same.new hd
    refine ⟨by rw [upd_ne (ne_of_none upd_same ht0)]; exact upd_same, [(.inl s, .ref t0)], rfl, (show 1 ≤ 15 by decide), ?_⟩
    have ed : upd (upd (upd H d (.dK [])) t0 (.tup [.int (-1), .int 0])) d (.dK (mergeK [] [(.inl s, .ref t0)])) d = some (.dK [(.inl s, .ref t0)]) := upd_same
    have htd : t0 ≠ d := fun q => by rw [q, upd_same] at ht0; cases ht0
    have et : upd (upd (upd H d (.dK [])) t0 (.tup [.int (-1), .int 0])) d (.dK (mergeK [] [(.inl s, .ref t0)])) t0 = some (.tup [.int (-1), .int 0]) := by
      rw [upd_ne htd]; exact upd_same
    have e3 : Same H (upd (upd (upd H d (.dK [])) t0 (.tup [.int (-1), .int 0])) d (.dK (mergeK [] [(.inl s, .ref t0)]))) := Same.mut (e1.trans (Same.new ht0)) hd
    generalize hH3 : upd (upd (upd H d (.dK [])) t0 (.tup [.int (-1), .int 0])) d (.dK (mergeK [] [(.inl s, .ref t0)])) = H3 at ed et e3 ⊢
    -- waiting = [start]
    refine ⟨_, rfl, (by show 1 ≤ sizeLine; decide), fun q hq => ?_⟩
    -- while waiting != []
    refine ⟨fun m σ H' => ∃ (fo : Found) (wl : List Int) (v4 v5 v6 v7 v8 : Option V), σ = [some (.ref t), some (.int s), some (.ref d), some (.ref q), v4, v5, v6, v7, v8] ∧ Same H H' ∧ FoundAt H' d fo ∧ H' q = some (.lst (wl.map V.int)) ∧
      Growth rs s fo ∧ (∀ x ∈ wl, x ∈ keys fo) ∧ bfsGo rs m fo wl = walked n rs s ∧ n + wl.length ≤ fo.length + m ∧ wl.length ≤ fo.length, ⟨n, [(s, (-1, 0))], [s], none, none, none, none, none, rfl, e3.trans (Same.new hq), ⟨_, keepN ed hq, .cons ⟨rfl, t0, rfl, keepN et hq⟩ .nil⟩, upd_same, .start, (fun x hx => by simpa [keys] using hx), rfl, by simp; omega, by simp⟩, ?_⟩
    have hqd : H q = none := e3.free hq
    rintro m σ H4 ⟨fo, wl, v4, v5, v6, v7, v8, rfl, s4, hF, hq4, gr, hw, hb, hm, hwf⟩
    refine ⟨_, rfl, Nat.zero_le _, fun p hp => ?_⟩
    refine ⟨_, _, dp_ilist (ns := wl) (keepN hq4 hp), dp_ilist (ns := []) upd_same, shaped_ints _, shaped_ints _, _, rfl, ?_⟩
    rw [eqv_il]
    have s5 : Same H4 (upd H4 p (.lst ([] : List V))) := Same.new hp
    replace hF := hF.same s5
    replace hq4 := s5 _ _ hq4
    replace s4 := s4.trans s5
    generalize upd H4 p (.lst ([] : List V)) = H5 at s4 hF hq4 ⊢
    clear s5 hp p
    cases wl with
    | nil =>
      refine iteF ?_
      refine ⟨_, rfl, ?_⟩
      refine k d H5 hd s4 ?_
      rw [← hb]
      cases m <;> exact hF
    | cons h wt =>
      refine iteT ?_
      have hm1 : 1 ≤ m := by
        have := gr.length_le ok ⟨hs0, hsn⟩
        simp at hm
        omega
      obtain ⟨m, rfl⟩ : ∃ m', m = m' + 1 := ⟨m - 1, by omega⟩
      refine ⟨fun σ' H' => ∃ m', m' < m + 1 ∧ ∃ (fo : Found) (wl : List Int) (v4 v5 v6 v7 v8 : Option V), σ' = [some (.ref t), some (.int s), some (.ref d), some (.ref q), v4, v5, v6, v7, v8] ∧ Same H H' ∧ FoundAt H' d fo ∧ H' q = some (.lst (wl.map V.int)) ∧
        Growth rs s fo ∧ (∀ x ∈ wl, x ∈ keys fo) ∧ bfsGo rs m' fo wl = walked n rs s ∧ n + wl.length ≤ fo.length + m' ∧ wl.length ≤ fo.length, fun _ _ z => z, ?_⟩
      -- here = waiting.pop(0)
      refine ⟨_, rfl, .inl ⟨rfl, _, SqL.of hq4⟩, q, _, 0, 0, .int h, rfl, rfl, hq4, by decide, by decide, ?_, rfl, ?_⟩
      · show seqIndex? 0 (List.map V.int (h :: wt)).length = some 0
        simp [seqIndex?]
      have hFq := hF.updL (ys := (List.map V.int (h :: wt)).eraseIdx 0) hq4
      have sq := Same.mut (o := .lst ((List.map V.int (h :: wt)).eraseIdx 0)) s4 hqd
      have hq6 : upd H5 q (.lst ((List.map V.int (h :: wt)).eraseIdx 0)) q = some (.lst (wt.map V.int)) := upd_same
      generalize upd H5 q (.lst ((List.map V.int (h :: wt)).eraseIdx 0)) = H6 at hFq sq hq6 ⊢
      clear hF hq4 s4
      have hh : h ∈ keys fo := hw h (List.mem_cons_self ..)
      -- for one, other, length in self.rows
      refine ⟨_, rfl, t, C, dx, _, _, rfl, sq _ _ hI, T.cl, T.nR, tfs_rows _ _, r, rfl, ⟨_, SqL.of (sq _ _ hL)⟩, for_list (K := K) (a := r) (xs := vsr) (fun i σ' H' => ∃ (f' : Found) (w' : List Int) (v5 v6 v7 v8 : Option V),
        σ' = [some (.ref t), some (.int s), some (.ref d), some (.ref q), some (.int h), v5, v6, v7, v8] ∧ Same H H' ∧ FoundAt H' d f' ∧ H' q = some (.lst (w'.map V.int)) ∧ Growth rs s f' ∧ h ∈ keys f' ∧ w'.length ≤ f'.length ∧ scan h (rs.drop i) f' w' = scan h rs fo wt)
        ⟨fo, wt, v5, v6, v7, v8, rfl, sq, hFq, hq6, gr, hh, by simp at hwf; omega, rfl⟩ (fun i σ' H' _ ⟨_, _, _, _, _, _, _, s', _⟩ => SqL.of (s' _ _ hL)) ?_ ?_⟩
      · rintro i x σ' H7 hx ⟨f', w', v5, v6, v7, v8, rfl, s7, hF7, hq7, gr7, hh7, hwf7, hsc⟩
        obtain ⟨rd, hrd, tt, rfl, htt⟩ := paired_get' hR hx
        have hdr : rs.drop i = rd :: rs.drop (i + 1) := by
          obtain ⟨hi, e⟩ := List.getElem?_eq_some_iff.mp hrd
          rw [List.drop_eq_getElem_cons hi, e]
        rw [hdr] at hsc
        refine ⟨tt, _, rfl, SqT.of (s7 _ _ htt), rfl, _, _, rfl, _, _, rfl, _, _, rfl, rfl, ?_⟩
        have gl := gr7.length_le ok ⟨hs0, hsn⟩
        obtain ⟨kvs, hk1, hk2⟩ := id hF7
        have hkl := flen hk2
        refine st_if (ans_or2 (val_eqi (x := h) (y := rd.a) (val_var rfl) (val_var rfl)) (val_eqi (x := h) (y := rd.b) (val_var rfl) (val_var rfl))) (fun c => ?_) (fun c => ?_)
        · have c' : h = rd.a ∨ h = rd.b := by simpa using c
          -- there = one + other - here
          refine ⟨_, rfl, _, rfl, _, _, rfl, rfl, _, rfl, _, _, rfl, rfl, ?_⟩
          -- if there not in found
          refine ⟨_, rfl, _, rfl, d, _, rfl, DGet.k (k := Sum.inl (rd.a + rd.b - h)) hk1, _, rfl, ?_⟩
          cases lk : f'.lookup (rd.a + rd.b - h) with
          | some pd =>
            obtain ⟨tv, hv, _⟩ := (found_val _ hk2).1 pd.1 pd.2 lk
            rw [hv]
            refine iteF ?_
            refine ⟨f', w', _, _, _, _, rfl, s7, hF7, hq7, gr7, hh7, hwf7, ?_⟩
            rw [← hsc, scan_cons, if_pos c', if_pos (by rw [lk]; rfl)]
          | none =>
            have hvn := (found_val (rd.a + rd.b - h) hk2).2 lk
            rw [hvn]
            refine iteT ?_
            obtain ⟨p0, d0, lh⟩ : ∃ p0 d0, f'.lookup h = some (p0, d0) := by
              cases e : f'.lookup h with
              | none => exact absurd hh7 (lookup_none_iff.mp e)
              | some x => exact ⟨x.1, x.2, rfl⟩
            obtain ⟨th, hvh, hth⟩ := (found_val _ hk2).1 _ _ lh
            have edh : dOf f' h = d0 := dOf_of lh
            have hg : DGet H7 d (kV (Sum.inl h)) (some (.ref th)) := by
              have := DGet.k (k := Sum.inl h) hk1
              rw [hvh] at this
              exact this
            -- found[there] = (here, found[here][1] + length)
            refine ⟨_, rfl, _, rfl, _, rfl, d, _, rfl, hg, th, _, 1, _, rfl, rfl, SqT.of hth, rfl, _, rfl, _, _, rfl, rfl, (by show 2 ≤ sizeLine; decide), fun tp htp => ?_⟩
            have s8 := s7.trans (Same.new (o := .tup [.int h, .int (d0 + rd.l)]) htp)
            have hk8 := FRel.same (fun a xs e => Same.new (o := .tup [.int h, .int (d0 + rd.l)]) htp a (.tup xs) e) hk2
            have hd8 := keepN (u := .tup [.int h, .int (d0 + rd.l)]) hk1 htp
            have hq8 := keepN (u := .tup [.int h, .int (d0 + rd.l)]) hq7 htp
            have ht8 : upd H7 tp (.tup [.int h, .int (d0 + rd.l)]) tp = some (.tup [.int h, .int (d0 + rd.l)]) := upd_same
            generalize upd H7 tp (.tup [.int h, .int (d0 + rd.l)]) = H8 at s8 hk8 hd8 hq8 ht8 ⊢
            refine ⟨_, rfl, _, rfl, d, _, rfl, DPut.k (k := Sum.inl (rd.a + rd.b - h)) hd8 (szl (by omega)), ?_⟩
            rw [putK_new _ hvn]
            have hd9 : upd H8 d (.dK (kvs ++ [(Sum.inl (rd.a + rd.b - h), .ref tp)])) d = some (.dK (kvs ++ [(Sum.inl (rd.a + rd.b - h), .ref tp)])) := upd_same
            have hq9 := keepU (u := .dK (kvs ++ [(Sum.inl (rd.a + rd.b - h), .ref tp)])) hq8 hd8 (by intro z; cases z)
            have s9 := Same.mut (o := .dK (kvs ++ [(Sum.inl (rd.a + rd.b - h), .ref tp)])) s8 hd
            have hk9 := FRel.same (fun a xs e => keepU (u := .dK (kvs ++ [(Sum.inl (rd.a + rd.b - h), .ref tp)])) (o := .tup xs) e hd8 (by intro z; cases z)) hk8
            have ht9 := keepU (u := .dK (kvs ++ [(Sum.inl (rd.a + rd.b - h), .ref tp)])) ht8 hd8 (by intro z; cases z)
            generalize upd H8 d (.dK (kvs ++ [(Sum.inl (rd.a + rd.b - h), .ref tp)])) = H9 at s9 hk9 hd9 hq9 ht9 ⊢
            have hF9 : FoundAt H9 d (f' ++ [(rd.a + rd.b - h, (h, dOf f' h + rd.l))]) := ⟨_, hd9, paired_snoc hk9 ⟨rfl, tp, rfl, by rw [edh]; exact ht9⟩⟩
            -- waiting.append(there)
            refine ⟨_, rfl, .inl ⟨rfl, _, SqL.of hq9⟩, _, rfl, q, _, _, rfl, rfl, hq9, (szl (by rw [List.length_map]; omega)), ?_⟩
            have ad : Adj rs h (rd.a + rd.b - h) rd.l := by
              refine ⟨rd, List.mem_of_getElem? hrd, rfl, ?_⟩
              rcases c' with c' | c'
              · exact .inl ⟨c'.symm, by omega⟩
              · exact .inr ⟨c'.symm, by omega⟩
            refine ⟨f' ++ [(rd.a + rd.b - h, (h, dOf f' h + rd.l))], w' ++ [rd.a + rd.b - h], _, _, _, _, rfl, Same.mut s9 hqd, hF9.updL hq9, ?_, .snoc gr7 hh7 ad (lookup_none_iff.mp lk), ?_, ?_, ?_⟩
            · rw [upd_same, List.map_append]; rfl
            · rw [keys_append]; exact List.mem_append_left _ hh7
            · simp; exact hwf7
            · rw [← hsc, scan_cons, if_pos c', if_neg (by rw [lk]; exact Bool.false_ne_true)]
        · have c' : ¬ (h = rd.a ∨ h = rd.b) := by simpa using c
          refine ⟨f', w', _, _, _, v8, rfl, s7, hF7, hq7, gr7, hh7, hwf7, ?_⟩
          rw [← hsc, scan_cons, if_neg c']
      · rintro σ' H7 ⟨f', w', v5, v6, v7, v8, rfl, s7, hF7, hq7, gr7, hh7, hwf7, hsc⟩
        rw [show vsr.length = rs.length from hR.length.symm, List.drop_length] at hsc
        obtain ⟨g1, ⟨more, m1, m2⟩, _⟩ := scan_spec (rs := rs) h rs fo wt (fun _ q => q) gr hh
        have e1 : f' = (scan h rs fo wt).1 := by rw [← hsc]; rfl
        have e2 : w' = (scan h rs fo wt).2 := by rw [← hsc]; rfl
        refine ⟨m, by omega, f', w', _, v5, v6, v7, v8, rfl, s7, hF7, hq7, gr7, ?_, ?_, ?_, ?_⟩
        · intro x hx
          rw [e2, m2] at hx
          rw [e1, m1, keys_append]
          rcases List.mem_append.mp hx with z | z
          · exact List.mem_append_left _ (hw x (List.mem_cons_of_mem _ z))
          · exact List.mem_append_right _ z
        · rw [e1, e2]; exact hb
        · rw [e1, e2, m1, m2]
          simp [keys] at hm ⊢
          omega
        · exact hwf7
end
end Wr

namespace Wr
open PySem L2
section
variable {P : Program} {w : World} {K : PySem.W.Frag} {mg : Str → Option Value} {base : Heap}

/-! ### is_road -/
def roadV (xs : List V) (n : Int) : Bool := match xs with
  | [x, y, z] => withinV z 1 1000000 && (withinV x 0 (n - 1) && (withinV y 0 (n - 1) && !decide (x = y)))
  | _ => false
/-- a thing of which it is known whether it is a road -/
def RoadArg (K : PySem.W.Frag) (H : Hp) (n : Int) (x : V) (r : Bool) : Prop :=
  (∃ t xs, x = .ref t ∧ H t = some (.tup xs) ∧ (∀ y ∈ xs, Plain K H y) ∧ r = roadV xs n) ∨ (∃ t, TyX K H x t ∧ PySem.W.kitOne K t (.type "tuple") = some false ∧ r = false)
def spRoad (K : PySem.W.Frag) : Sp := fun vs H Q _ => ∃ x n r, vs = [x, .int n] ∧ RoadArg K H n x r ∧ Q (.bl r) H
-- slots: 0:thing, 1:villages
theorem sc_is_road : FnScope ["thing", "villages"] ["thing", "villages"] (defScope S_is_road) := ⟨rfl, rfl, rfl, by decide +kernel, rfl, by decide +kernel, by decide +kernel⟩
theorem ok_is_road {f : Addr} {fd : FuncData} (F : Fun K "is_road" "is_road" S_is_road f fd) (B : Bi mg) (mL : ∃ t, mg "LONGEST" = some (.int 1000000 t)) (G_within : Gd P w K mg base 2 "within" ["number", "low", "high"] (spWithin K)) :
    FnOk P w K mg base CX0 3 f fd ["thing", "villages"] (spRoad K) := by
  obtain ⟨tL, m_LONGEST⟩ := mL
  refine F.ok sc_is_road (fun vs H Q E h => ?_) (fun cdv A outer s H vs Q E hr h => ?_)
  · obtain ⟨x, n, r, rfl, _⟩ := h
    rfl
  · obtain ⟨x, n, r, rfl, hR, k⟩ := h
    refine ⟨_, (pss_cons (ps_if (PW.pt (pw_or (pt_not (pt_val (pe_callB call_isi (by rfl) B.isinstance (by decide +kernel) (pa_cons (pv 0) (pa_cons (pe_bltn (v := .ty "tuple") (by rfl) B.tuple (by decide +kernel) rfl) pa_nil))))) (pw_or (pt_cmpR op_ne (pe_callB call_len_seq (by rfl) B.len (by decide +kernel) (pa_cons (pv 0) pa_nil)) pe_int (nomark _)) (pw_or1 (pt_not (pt_val (pe_g G_within hr rfl (pa_cons (pe_ix ix_tup (pv 0) pe_int (fun _ _ => rfl)) (pa_cons pe_int (pa_cons (pe_glob (v := .int 1000000) rfl m_LONGEST ⟨_, rfl⟩) pa_nil))))))))))
    (pss_one (ps_ret pe_bl)) pss_nil)
    (pss_one (ps_ret (pe_and (pe_g G_within hr rfl (pa_cons (pe_ix ix_tup (pv 0) pe_int (fun _ _ => rfl)) (pa_cons pe_int (pa_cons (pe_op op_sub (pv 1) pe_int) pa_nil)))) (pe_and (pe_g G_within hr rfl (pa_cons (pe_ix ix_tup (pv 0) pe_int (fun _ _ => rfl)) (pa_cons pe_int (pa_cons (pe_op op_sub (pv 1) pe_int) pa_nil)))) (pe_one (pe_cmpR op_ne (pe_ix ix_tup (pv 0) pe_int (fun _ _ => rfl)) (pe_ix ix_tup (pv 0) pe_int (fun _ _ => rfl)) (nomark _)))))))), ?_⟩
    rcases hR with ⟨t, xs, rfl, ht, hp, rfl⟩ | ⟨t, ty, kt, rfl⟩
    · refine ⟨_, rfl, .ref t, _, .type "tuple", _, true, rfl, .ty _, .base (.tup ht), kit_ty (by decide +kernel), true, rfl, ?_⟩
      refine iteF ?_
      refine ⟨_, rfl, t, xs, rfl, .inr (SqT.of ht), rfl, _, rfl, ?_⟩
      by_cases hl : xs.length = 3
      · obtain ⟨x, y, z, rfl⟩ : ∃ x y z, xs = [x, y, z] := by
          match xs, hl with
          | [u1, u2, u3], _ => exact ⟨u1, u2, u3, rfl⟩
        refine iteF ?_
        have px := hp x (by simp)
        have py := hp y (by simp)
        have pz := hp z (by simp)
        refine ⟨_, rfl, t, _, 2, z, rfl, rfl, SqT.of ht, rfl, z, 1, 1000000, rfl, pz, _, rfl, ?_⟩
        have k : Q (.bl (withinV z 1 1000000 && (withinV x 0 (n - 1) && (withinV y 0 (n - 1) && !decide (x = y))))) H := k
        cases e1 : withinV z 1 1000000 with
        | false =>
          refine iteT ?_
          rw [e1] at k
          exact k
        | true =>
          refine iteF ?_
          rw [e1] at k
          refine ⟨_, rfl, t, _, 0, x, rfl, rfl, SqT.of ht, rfl, _, rfl, _, _, rfl, rfl, x, 0, _, rfl, px, _, rfl, ?_⟩
          cases e2 : withinV x 0 (n - 1) with
          | false =>
            refine iteF ?_
            rw [e2] at k
            exact k
          | true =>
            refine iteT ?_
            rw [e2] at k
            refine ⟨_, rfl, t, _, 1, y, rfl, rfl, SqT.of ht, rfl, _, rfl, _, _, rfl, rfl, y, 0, _, rfl, py, _, rfl, ?_⟩
            cases e3 : withinV y 0 (n - 1) with
            | false =>
              refine iteF ?_
              rw [e3] at k
              exact k
            | true =>
              refine iteT ?_
              rw [e3] at k
              obtain ⟨i, rfl, _⟩ := withinV_int e2
              obtain ⟨j, rfl, _⟩ := withinV_int e3
              exact ⟨_, rfl, t, _, 0, _, rfl, rfl, SqT.of ht, rfl, _, rfl, t, _, 1, _, rfl, rfl, SqT.of ht, rfl, rfl, k⟩
      · have hd : decide (V.int ((xs.length : Nat) : Int) = V.int 3) = false := by
          rw [dec_int, beq_eq_false_iff_ne]
          omega
        rw [hd]
        refine iteT ?_
        refine iteT ?_
        have er : roadV xs n = false := by
          unfold roadV
          split
          · exact absurd rfl hl
          · rfl
        rw [er] at k
        exact k
    · refine ⟨_, rfl, x, _, t, _, false, rfl, .ty _, ty, kt, false, rfl, ?_⟩
      refine iteT ?_
      exact k
theorem roadArg_of {H : Hp} {n : Nat} {r : Road} {v : V} (h : RoadAt H r v) (o : 0 ≤ r.a ∧ r.a < n ∧ 0 ≤ r.b ∧ r.b < n ∧ r.a ≠ r.b ∧ 1 ≤ r.l ∧ r.l ≤ 1000000) : RoadArg K H n v true := by
  obtain ⟨t, rfl, ht⟩ := h
  refine .inl ⟨t, _, rfl, ht, ?_, ?_⟩
  · intro y hy
    simp only [List.mem_cons, List.not_mem_nil, or_false] at hy
    rcases hy with rfl | rfl | rfl <;> exact Plain.int _
  · show true = (withinV (.int r.l) 1 1000000 && (withinV (.int r.a) 0 ((n : Int) - 1) && (withinV (.int r.b) 0 ((n : Int) - 1) && !decide (V.int r.a = V.int r.b))))
    rw [withinV_of o.2.2.2.2.2.1 o.2.2.2.2.2.2, withinV_of o.1 (by omega), withinV_of o.2.2.1 (by omega)]
    have : ¬ (V.int r.a = V.int r.b) := fun q => o.2.2.2.2.1 (by injection q)
    simp [this]

/-! ### Tree -/
def spInit (C : Addr) : Sp := fun vs H Q _ => ∃ (p dx a : Addr) (n : Nat) (rs : List Road) (us : List V), vs = [.ref p, .int n, .ref a] ∧ H p = some (.ins C dx []) ∧ SqL K H a us ∧ H a = some (.lst us) ∧ RoadsAt H rs us ∧ IsTree n rs ∧
  ∀ H', (∀ b o, H b = some o → b ≠ p → H' b = some o) → TreeNew C H H' p n rs → Q .non H'
-- slots: 0:self, 1:villages, 2:roads, 3:road
theorem sc_Tree_init : FnScope ["self", "villages", "roads", "road"] ["self", "villages", "roads"] (defScope S_Tree_init) := ⟨rfl, rfl, rfl, by decide +kernel, rfl, by decide +kernel, by decide +kernel⟩
theorem ok_init {f C : Addr} {fd : FuncData} (F : Fun K "__init__" "Tree.__init__" S_Tree_init f fd) (T : Tx K mg C) (B : Bi mg) (mM : ∃ t, mg "MOST" = some (.int 12 t)) (G_within : Gd P w K mg base 2 "within" ["number", "low", "high"] (spWithin K))
    (G_is_road : Gd P w K mg base 3 "is_road" ["thing", "villages"] (spRoad K)) (GM_walked : Gm P w K mg base C 1 "walked" ["self", "start"] (spWalked C)) : FnOk P w K mg base CX0 4 f fd ["self", "villages", "roads"] (spInit (K := K) C) := by
  obtain ⟨tM, m_MOST⟩ := mM
  refine F.ok sc_Tree_init (fun vs H Q E h => ?_) (fun cdv A outer s H vs Q E hr h => ?_)
  · obtain ⟨p, dx, a, n, rs, us, rfl, _⟩ := h
    rfl
  · obtain ⟨p, dx, a, n, rs, us, rfl, hp, _, ha, hR, hT, k⟩ := h
    have hu := hu_of hr
    have nd := sc_Tree_init.nd
    have npa : p ≠ a := ne_of hp ha (by intro z; cases z)
    refine ⟨_, (pss_cons (ps_if (PW.pt (pw_or (pt_not (pt_val (pe_g G_within hr rfl (pa_cons (pv 1) (pa_cons pe_int (pa_cons (pe_glob (v := .int 12) rfl m_MOST ⟨_, rfl⟩) pa_nil)))))) (pw_or (pt_not (pt_val (pe_callB call_isi (by rfl) B.isinstance (by decide +kernel) (pa_cons (pv 2) (pa_cons (pe_bltn (v := .ty "list") (by rfl) B.list (by decide +kernel) rfl) pa_nil))))) (pw_or1 (pt_cmpR op_ne (pe_callB call_len_seq (by rfl) B.len (by decide +kernel) (pa_cons (pv 2) pa_nil)) (pe_op op_sub (pv 1) pe_int) (nomark _))))))
    (pss_one ps_never) pss_nil)
    (pss_cons (ps_for PassesOwn.never rfl (pi_list (pv 2)) (pg_name (i := 3) nd rfl (Or.inl rfl))
    (pss_one (ps_if (pt_not (pt_val (pe_g G_is_road hr rfl (pa_cons (pv 3) (pa_cons (pv 1) pa_nil)))))
    (pss_one ps_never) pss_nil)))
    (pss_cons (ps_fld (pv 0) (pv 1) rfl)
    (pss_cons (ps_fld (pv 0) (pe_callTy call_list_of (by rfl) B.list (by decide +kernel) (pa_cons (pv 2) pa_nil)) rfl)
    (pss_one (ps_if (pt_cmpR op_lt (pe_callB call_lenD (by rfl) B.len (by decide +kernel) (pa_cons (pe_gm (pv 0) T.cl GM_walked hr (pa_cons pe_int pa_nil)) pa_nil)) (pv 1) (nomark _))
    (pss_one ps_never) pss_nil)))))), ?_⟩
    have l1 := hT.pos
    have l2 := hT.le
    have l3 := hT.len
    have lu := hR.length
    refine ⟨_, rfl, .int n, 1, 12, rfl, Plain.int _, _, rfl, ?_⟩
    rw [withinV_of (by omega) (by omega)]
    refine iteF ?_
    refine ⟨_, rfl, .ref a, _, .type "list", _, true, rfl, .ty _, .base (.lst ha), kit_ty (by decide +kernel), true, rfl, ?_⟩
    refine iteF ?_
    refine ⟨_, rfl, a, _, rfl, .inl (SqL.of ha), _, rfl, _, _, rfl, rfl, rfl, _, rfl, ?_⟩
    have hd : (!decide (V.int ((us.length : Nat) : Int) = V.int ((n : Int) - 1))) = false := by
      rw [dec_int]
      have : ((us.length : Nat) : Int) = (n : Int) - 1 := by omega
      rw [this]; simp
    rw [hd]
    refine iteF ?_
    refine ⟨_, rfl, a, rfl, ⟨_, SqL.of ha⟩, for_list (K := K) (a := a) (xs := us) (fun i σ' H' => H' = H ∧ ∃ v, σ' = [some (.ref p), some (.int n), some (.ref a), v]) ⟨rfl, none, rfl⟩ (fun i σ' H' _ ⟨e, _⟩ => by rw [e]; exact SqL.of ha) ?_ ?_⟩
    · rintro i x σ' H' hx ⟨rfl, v, rfl⟩
      obtain ⟨rd, hrd, hr1⟩ := paired_get' hR hx
      refine ⟨_, rfl, _, rfl, _, n, true, rfl, roadArg_of hr1 (hT.ok rd (List.mem_of_getElem? hrd)), true, rfl, ?_⟩
      refine iteF ?_
      exact ⟨rfl, _, rfl⟩
    · rintro σ' H' ⟨rfl, v, rfl⟩
      refine ⟨_, rfl, _, rfl, p, C, dx, [], rfl, hp, T.cl, T.nS, (by show 0 < 1000; decide), ?_⟩
      have ha1 : upd H' p (.ins C dx (putF "size" (.int n) [])) a = some (.lst us) := keepU ha hp (by intro z; cases z)
      have hp1 : upd H' p (.ins C dx (putF "size" (.int n) [])) p = some (.ins C dx (putF "size" (.int n) [])) := upd_same
      have kp : ∀ b o, H' b = some o → b ≠ p → upd H' p (.ins C dx (putF "size" (.int n) [])) b = some o := fun b o e hb => by rw [upd_ne hb]; exact e
      generalize upd H' p (.ins C dx (putF "size" (.int n) [])) = H1 at ha1 hp1 kp ⊢
      refine ⟨_, rfl, a, us, rfl, .inl (SqL.of ha1), fun l hl => ?_⟩
      have npl : p ≠ l := ne_of_none hp1 hl
      refine ⟨_, rfl, p, C, dx, _, rfl, keepN hp1 hl, T.cl, T.nR, (by show 1 < 1000; decide), ?_⟩
      rw [tfs_put]
      have kp2 : ∀ b o, H' b = some o → b ≠ p → upd (upd H1 l (.lst us)) p (.ins C dx (tfs n l)) b = some o := fun b o e hb => by
        rw [upd_ne hb, upd_ne (ne_of_none (kp b o e hb) hl)]; exact kp b o e hb
      have hl0 : H' l = none := by
        cases e : H' l with
        | none => rfl
        | some o =>
          have := kp l o e (ne_of_none hp1 hl).symm
          rw [hl] at this; cases this
      have hTr : TreeNew C H' (upd (upd H1 l (.lst us)) p (.ins C dx (tfs n l))) p n rs := by
        refine ⟨dx, l, us, hl0, upd_same, by rw [upd_ne npl.symm]; exact upd_same, Paired.mapP hR fun r v ⟨t, e1, e2⟩ => ⟨t, e1, kp2 _ _ e2 (ne_of hp e2 (by intro z; cases z)).symm⟩⟩
      generalize upd (upd H1 l (.lst us)) p (.ins C dx (tfs n l)) = H2 at kp2 hTr ⊢
      obtain ⟨dx', r', vs', _, e1, _⟩ := id hTr
      refine ⟨_, rfl, p, dx', _, rfl, e1, tfs_no _ _ (by decide +kernel) (by decide +kernel), p, n, rs, 0, rfl, hTr.at, hT.toRoadsOk, l2, by omega, by omega, fun d H3 hd3 s3 hF => ?_⟩
      obtain ⟨kvs, hk1, hk2⟩ := hF
      refine ⟨d, _, rfl, hk1, _, rfl, _, _, rfl, rfl, _, rfl, ?_⟩
      have hlen : ¬ (((kvs.length : Nat) : Int) < n) := by
        have := flen hk2
        have := hT.len_walked (s := 0) ⟨by omega, by omega⟩
        omega
      rw [decide_eq_false hlen]
      refine iteF ?_
      exact k H3 (fun b o e hb => s3 b o (kp2 b o e hb)) (let ⟨dx, r, vs, e0, e1, e2, e3⟩ := hTr; ⟨dx, r, vs, e0, s3 _ _ e1, s3 _ _ e2, e3.same s3⟩)
end
end Wr

namespace Wr
open PySem L2
section
variable {P : Program} {w : World} {K : PySem.W.Frag} {mg : Str → Option Value} {base : Heap}

/-! ### Tree.roads, Tree.village -/
def spRoads (C : Addr) : Sp := fun vs H Q _ => ∃ (t : Addr) (n : Nat) (rs : List Road), vs = [.ref t] ∧ TreeAt C H t n rs ∧ ∀ l us H', H l = none → Same H H' → H' l = some (.lst us) → RoadsAt H' rs us → Q (.ref l) H'
-- slots: 0:self
theorem sc_Tree_roads : FnScope ["self"] ["self"] (defScope S_Tree_roads) := ⟨rfl, rfl, rfl, by decide +kernel, rfl, by decide +kernel, by decide +kernel⟩
theorem ok_roads {f C : Addr} {fd : FuncData} (F : Fun K "roads" "Tree.roads" S_Tree_roads f fd) (T : Tx K mg C) (B : Bi mg) : FnOk P w K mg base CX0 1 f fd ["self"] (spRoads C) := by
  refine F.ok sc_Tree_roads (fun vs H Q E h => ?_) (fun cdv A outer s H vs Q E hr h => ?_)
  · obtain ⟨t, n, rs, rfl, _⟩ := h
    rfl
  · obtain ⟨t, n, rs, rfl, ⟨dx, r, us, h1, h2, h3⟩, k⟩ := h
    refine ⟨_, (pss_one (ps_ret (pe_callTy call_list_of (by rfl) B.list (by decide +kernel) (pa_cons (pe_fld (pv 0) rfl) pa_nil)))), ?_⟩
    refine ⟨_, rfl, t, C, dx, _, _, rfl, h1, T.cl, T.nR, tfs_rows _ _, r, us, rfl, .inl (SqL.of h2), fun l hl => ?_⟩
    exact k l us _ hl (Same.new hl) upd_same (h3.same (Same.new hl))
def spVillage (C : Addr) : Sp := fun vs H Q _ => ∃ (t : Addr) (n : Nat) (rs : List Road) (v : Int), vs = [.ref t, .int v] ∧ TreeAt C H t n rs ∧ 0 ≤ v ∧ v < n ∧ Q (.int v) H
-- slots: 0:self, 1:at
theorem sc_Tree_village : FnScope ["self", "at"] ["self", "at"] (defScope S_Tree_village) := ⟨rfl, rfl, rfl, by decide +kernel, rfl, by decide +kernel, by decide +kernel⟩
theorem ok_village {f C : Addr} {fd : FuncData} (F : Fun K "village" "Tree.village" S_Tree_village f fd) (T : Tx K mg C) (G_within : Gd P w K mg base 2 "within" ["number", "low", "high"] (spWithin K)) : FnOk P w K mg base CX0 3 f fd ["self", "at"] (spVillage C) := by
  refine F.ok sc_Tree_village (fun vs H Q E h => ?_) (fun cdv A outer s H vs Q E hr h => ?_)
  · obtain ⟨t, n, rs, v, rfl, _⟩ := h
    rfl
  · obtain ⟨t, n, rs, v, rfl, ⟨dx, r, us, h1, h2, h3⟩, v0, v1, k⟩ := h
    refine ⟨_, (pss_cons (ps_if (pt_not (pt_val (pe_g G_within hr rfl (pa_cons (pv 1) (pa_cons pe_int (pa_cons (pe_op op_sub (pe_fld (pv 0) rfl) pe_int) pa_nil))))))
    (pss_one ps_never) pss_nil)
    (pss_one (ps_ret (pv 1)))), ?_⟩
    refine ⟨_, rfl, _, rfl, t, C, dx, _, _, rfl, h1, T.cl, T.nS, tfs_size _ _, _, _, rfl, rfl, _, 0, _, rfl, Plain.int _, _, rfl, ?_⟩
    rw [withinV_of v0 (by omega)]
    refine iteF ?_
    exact ⟨_, rfl, k⟩

theorem found_get {H : Hp} {d : Addr} {fo : Found} {v p x : Int} (hF : FoundAt H d fo) (l : fo.lookup v = some (p, x)) : ∃ t, DGet H d (.int v) (some (.ref t)) ∧ H t = some (.tup [.int p, .int x]) := by
  obtain ⟨kvs, h1, h2⟩ := hF
  obtain ⟨t, h3, h4⟩ := (found_val v h2).1 p x l
  have := DGet.k (k := Sum.inl v) h1
  rw [h3] at this
  exact ⟨t, this, h4⟩
theorem tree_ins {C : Addr} {H : Hp} {t : Addr} {n : Nat} {rs : List Road} (h : TreeAt C H t n rs) : ∃ dx r, H t = some (.ins C dx (tfs n r)) := let ⟨dx, r, _, h1, _⟩ := h; ⟨dx, r, h1⟩
/-- rows of ints, each a list of its own; all of it newer than H0 -/
def RowsAt (H0 H : Hp) (d : Addr) (rows : List (List Int)) : Prop := ∃ xs, H d = some (.lst xs) ∧ Paired (fun (row : List Int) v => ∃ l, v = .ref l ∧ H0 l = none ∧ l ≠ d ∧ H l = some (.lst (row.map V.int))) rows xs
theorem RowsAt.same {H0 H H' : Hp} {d : Addr} {rows : List (List Int)} (e : Same H H') (h : RowsAt H0 H d rows) : RowsAt H0 H' d rows :=
  let ⟨xs, h1, h2⟩ := h
  ⟨xs, e _ _ h1, Paired.mapP h2 fun _ _ ⟨l, a, b, c, q⟩ => ⟨l, a, b, c, e _ _ q⟩⟩
end
end Wr

namespace Wr
open PySem L2
local macro_rules | `(tactic| walk_at "rd") => `(tactic| first | (refine ⟨_, rfl, ?_⟩; walk_at "rd") | (refine ⟨_, _, rfl, rfl, ?_⟩; walk_at "rd") | skip)
section
variable {P : Program} {w : World} {K : PySem.W.Frag} {mg : Str → Option Value} {base : Heap}

def spCell (K : PySem.W.Frag) : Sp := fun vs H Q _ => ∃ (a : Addr) (ns : List Int) (k : Nat), vs = [.ref a, .int k] ∧ SqL K H a (ns.map V.int) ∧ Q (.int (cellV ns k)) H
-- slots: 0:_law_script, 1:_law_k
theorem sc_law_cell_at : FnScope ["_law_script", "_law_k"] ["_law_script", "_law_k"] (defScope S_law_cell_at) := ⟨rfl, rfl, rfl, by decide +kernel, rfl, by decide +kernel, by decide +kernel⟩
theorem ok_cell {f : Addr} {fd : FuncData} (F : Fun K "_law_cell_at" "_law_cell_at" S_law_cell_at f fd) (B : Bi mg) : FnOk P w K mg base CX0 1 f fd ["_law_script", "_law_k"] (spCell K) := by
  refine F.ok sc_law_cell_at (fun vs H Q E h => ?_) (fun cdv A outer s H vs Q E hr h => ?_)
  · obtain ⟨a, ns, k, rfl, _⟩ := h
    rfl
  · obtain ⟨a, ns, k, rfl, hS, q⟩ := h
    refine ⟨_, (pss_cons (ps_if (pt_cmpR op_lt (pv 1) (pe_callB call_len_seq (by rfl) B.len (by decide +kernel) (pa_cons (pv 0) pa_nil)) (nomark _))
    (pss_one (ps_ret (pe_ix ix_list (pv 0) (pv 1) (fun _ _ => rfl)))) pss_nil)
    (pss_one (ps_ret pe_int))), ?_⟩
    refine ⟨_, rfl, _, rfl, a, _, rfl, .inl hS, _, _, rfl, rfl, _, rfl, ?_⟩
    rw [List.length_map]
    by_cases hk : k < ns.length
    · rw [decide_eq_true (show (k : Int) < (ns.length : Int) by omega)]
      refine iteT ?_
      refine ⟨_, rfl, _, rfl, a, _, k, .int (cellV ns k), rfl, rfl, hS, atI_nat ?_, q⟩
      rw [List.getElem?_map]
      unfold cellV
      rw [List.getD_eq_getElem?_getD, List.getElem?_eq_getElem hk]
      rfl
    · rw [decide_eq_false (show ¬ (k : Int) < (ns.length : Int) by omega)]
      refine iteF ?_
      have e : cellV ns k = 0 := by
        unfold cellV
        rw [List.getD_eq_getElem?_getD, List.getElem?_eq_none_iff.mpr (by omega)]
        rfl
      rw [e] at q
      exact q

def spDraw : Sp := fun vs H Q _ => ∃ (c k m : Int), vs = [.int c, .int k, .int m] ∧ 0 < m ∧ 0 ≤ k ∧ k ≤ 1000 ∧ ∀ H', Same H H' → Q (.int (draw c k m)) H'
-- slots: 0:_law_cell, 1:_law_k, 2:_law_many, 3:_law_primes, 4:_law_blend
theorem sc_law_draw : FnScope ["_law_cell", "_law_k", "_law_many", "_law_primes", "_law_blend"] ["_law_cell", "_law_k", "_law_many"] (defScope S_law_draw) := ⟨rfl, rfl, rfl, by decide +kernel, rfl, by decide +kernel, by decide +kernel⟩
theorem ok_draw {f : Addr} {fd : FuncData} (F : Fun K "_law_draw" "_law_draw" S_law_draw f fd) : FnOk P w K mg base CX0 1 f fd ["_law_cell", "_law_k", "_law_many"] spDraw := by
  refine F.ok sc_law_draw (fun vs H Q E h => ?_) (fun cdv A outer s H vs Q E hr h => ?_)
  · obtain ⟨c, k, m, rfl, _⟩ := h
    rfl
  · obtain ⟨c, k, m, rfl, hm, hk0, hk1, q⟩ := h
    have nd := sc_law_draw.nd
    refine ⟨_, (pss_cons (ps_set (i := 3) nd rfl (Or.inl rfl) (pe_tup (pa_cons pe_int (pa_cons pe_int (pa_cons pe_int (pa_cons pe_int (pa_cons pe_int (pa_cons pe_int (pa_cons pe_int (pa_cons pe_int pa_nil))))))))))
    (pss_cons (ps_set (i := 4) nd rfl (Or.inl rfl) (pe_op op_add (pe_op op_add (pe_op op_mul (pv 0) pe_int) (pe_op op_mul (pv 1) pe_int)) (pe_op op_mul (pe_op op_mod (pe_op op_fdiv (pv 0) pe_int) pe_int) pe_int)))
    (pss_one (ps_ret (pe_op op_mod (pe_op op_mod (pv 4) (pe_ix ix_tup (pv 3) (pe_op op_mod (pv 1) pe_int) (fun _ _ => rfl))) (pv 2)))))), ?_⟩
    refine ⟨by show 8 ≤ sizeLine; decide, fun p hp => ?_⟩
    refine ⟨_, rfl, _, _, rfl, rfl, .inr ⟨by decide, by decide⟩, _, rfl, _, _, rfl, rfl, .inr ⟨by decide, by decide⟩, _, _, rfl, rfl, _, rfl, _, _, rfl, rfl, ⟨by decide, by decide⟩, _, _, rfl, rfl, (by show (0 : Int) < 1000003; decide), _, _, rfl, rfl, .inr ⟨by decide, by decide⟩, _, _, rfl, rfl, ?_⟩
    have h1 := Int.emod_nonneg k (show (8 : Int) ≠ 0 by decide)
    have h2 := Int.emod_lt_of_pos k (show (0 : Int) < 8 by decide)
    have hl : (k % 8).toNat < primes.length := by simp [primes]; omega
    have hat : atI (primes.map V.int) (k % 8) = some (.int (primes.getD (k % 8).toNat 1)) := by
      have e : k % 8 = ((k % 8).toNat : Int) := by omega
      rw [e]
      refine atI_nat ?_
      rw [List.getElem?_map, Int.toNat_natCast, List.getD_eq_getElem?_getD, List.getElem?_eq_getElem hl]
      rfl
    have hpp : 0 < primes.getD (k % 8).toNat 1 := by
      have hm := getD_mem4 (d := 1) hl
      generalize primes.getD (k % 8).toNat 1 = z at hm
      simp only [primes, List.mem_cons, List.not_mem_nil, or_false] at hm
      omega
    refine ⟨_, rfl, _, rfl, _, rfl, _, _, rfl, rfl, (by show (0 : Int) < 8; decide), p, _, _, _, rfl, rfl, SqT.of upd_same, hat, _, _, rfl, rfl, hpp, _, rfl, _, _, rfl, rfl, hm, ?_⟩
    exact q _ (Same.new hp)

def spName : Sp := fun vs H Q _ => ∃ (k n t : Int), vs = [.int k, .int n, .int t] ∧ 0 ≤ k ∧ k ≤ 1000 ∧ t ∈ turns ∧ Q (.int (nameV k n t)) H
-- slots: 0:_law_k, 1:_law_villages, 2:_law_turn
theorem sc_law_name : FnScope ["_law_k", "_law_villages", "_law_turn"] ["_law_k", "_law_villages", "_law_turn"] (defScope S_law_name) := ⟨rfl, rfl, rfl, by decide +kernel, rfl, by decide +kernel, by decide +kernel⟩
theorem ok_name {f : Addr} {fd : FuncData} (F : Fun K "_law_name" "_law_name" S_law_name f fd) : FnOk P w K mg base CX0 1 f fd ["_law_k", "_law_villages", "_law_turn"] spName := by
  refine F.ok sc_law_name (fun vs H Q E h => ?_) (fun cdv A outer s H vs Q E hr h => ?_)
  · obtain ⟨k, n, t, rfl, _⟩ := h
    rfl
  · obtain ⟨k, n, t, rfl, hk0, hk1, ht, q⟩ := h
    have tp : 0 < t := by simp [turns] at ht; omega
    refine ⟨_, (pss_cons (ps_if (PW.pt (pw_and (pt_cmpR op_gt (pv 1) pe_int (nomark _)) (pw_and1 (PW.pt (pw_or (pt_cmpR op_eq (pv 2) pe_int (nomark _)) (pw_or1 (pt_cmpR op_ne (pe_op op_mod (pv 1) (pv 2)) pe_int (nomark _))))))))
    (pss_one (ps_ret (pe_op op_mod (pe_op op_mul (pv 0) (pv 2)) (pv 1)))) pss_nil)
    (pss_one (ps_ret (pv 0)))), ?_⟩
    unfold nameV at q
    refine ⟨_, rfl, _, _, rfl, rfl, _, rfl, ?_⟩
    by_cases c1 : 1 < n
    · rw [decide_eq_true c1]
      refine iteT ?_
      refine ⟨_, rfl, rfl, _, rfl, ?_⟩
      rw [dec_int]
      by_cases c2 : t = 1
      · subst c2
        refine iteT ?_
        refine iteT ?_
        rw [if_pos ⟨c1, .inl rfl⟩] at q
        exact ⟨_, rfl, _, rfl, _, _, rfl, rfl, .inl ⟨by omega, by omega⟩, _, rfl, _, _, rfl, rfl, (by omega), q⟩
      · rw [show (t == 1) = false by simpa using c2]
        refine iteF ?_
        refine ⟨_, rfl, _, rfl, _, _, rfl, rfl, tp, rfl, _, rfl, ?_⟩
        rw [dec_int]
        by_cases c3 : n % t = 0
        · rw [show (n % t == 0) = true by simpa using c3]
          refine iteF ?_
          rw [if_neg (by rintro ⟨_, z | z⟩; exact c2 z; exact z c3)] at q
          exact ⟨_, rfl, q⟩
        · rw [show (n % t == 0) = false by simpa using c3]
          refine iteT ?_
          rw [if_pos ⟨c1, .inr c3⟩] at q
          exact ⟨_, rfl, _, rfl, _, _, rfl, rfl, .inl ⟨by omega, by omega⟩, _, rfl, _, _, rfl, rfl, (by omega), q⟩
    · rw [decide_eq_false c1]
      refine iteF ?_
      rw [if_neg (fun z => c1 z.1)] at q
      exact ⟨_, rfl, q⟩
end
end Wr

namespace Wr
open PySem L2
section
variable {P : Program} {w : World} {K : PySem.W.Frag} {mg : Str → Option Value} {base : Heap}

/-- what told hands back: a tuple of n and a list of roads -/
def ToldAt (H : Hp) (t l : Addr) (n : Nat) (rs : List Road) : Prop := ∃ us, H t = some (.tup [.int n, .ref l]) ∧ H l = some (.lst us) ∧ RoadsAt H rs us
theorem ToldAt.same {H H' : Hp} {t l : Addr} {n : Nat} {rs : List Road} (e : Same H H') (h : ToldAt H t l n rs) : ToldAt H' t l n rs :=
  let ⟨us, h1, h2, h3⟩ := h
  ⟨us, e _ _ h1, e _ _ h2, h3.same e⟩
def spTold (K : PySem.W.Frag) : Sp := fun vs H Q _ => ∃ (a : Addr) (ns : List Int) (first : Nat) (most : Int), vs = [.ref a, .int first, .int most] ∧ SqL K H a (ns.map V.int) ∧ 1 ≤ most ∧ most ≤ 12 ∧
  ∀ t l H', H t = none → H l = none → Same H H' → ToldAt H' t l (told (cellV ns first) (cellV ns (first + 1)) most).1 (told (cellV ns first) (cellV ns (first + 1)) most).2 → Q (.ref t) H'
theorem menu_at {l : List Int} {i : Int} (h0 : 0 ≤ i) (h1 : i < l.length) : atI (l.map V.int) i = some (.int (l.getD i.toNat 0)) := by
  have e : i = (i.toNat : Int) := by omega
  have hl : i.toNat < l.length := by omega
  rw [e]
  refine atI_nat ?_
  rw [List.getElem?_map, Int.toNat_natCast, List.getD_eq_getElem?_getD, List.getElem?_eq_getElem hl]
  rfl
theorem RoadsAt.upd {H : Hp} {l : Addr} {xs ys us : List V} {rs : List Road} (h : RoadsAt H rs us) (hl : H l = some (.lst xs)) : RoadsAt (upd H l (.lst ys)) rs us :=
  Paired.mapP h fun _ _ ⟨t, e1, e2⟩ => ⟨t, e1, keepU e2 hl (by intro z; cases z)⟩
theorem paired_app {α β : Type} {F : α → β → Prop} : ∀ {l₁ l₂ : List α} {m₁ m₂ : List β}, Paired F l₁ m₁ → Paired F l₂ m₂ → Paired F (l₁ ++ l₂) (m₁ ++ m₂)
  | _, _, _, _, .nil, h => h
  | _, _, _, _, .cons x r, h => .cons x (paired_app r h)
theorem paired_take {α β : Type} {F : α → β → Prop} : ∀ (n : Nat) {l : List α} {m : List β}, Paired F l m → Paired F (l.take n) (m.take n)
  | 0, _, _, _ => .nil
  | _ + 1, _, _, .nil => .nil
  | n + 1, _, _, .cons x r => .cons x (paired_take n r)
theorem paired_drop {α β : Type} {F : α → β → Prop} : ∀ (n : Nat) {l : List α} {m : List β}, Paired F l m → Paired F (l.drop n) (m.drop n)
  | 0, _, _, h => h
  | _ + 1, _, _, .nil => .nil
  | n + 1, _, _, .cons _ r => paired_drop n r
theorem paired_ins {α β : Type} {F : α → β → Prop} {l : List α} {m : List β} {p : Int} {x : α} {y : β} (h : Paired F l m) (hx : F x y) : Paired F (ins l p x) (ins m p y) :=
  paired_app (paired_app (paired_take _ h) (.cons hx .nil)) (paired_drop _ h)
-- slots: 0:_law_script, 1:_law_first, 2:_law_most, 3:_law_cell, 4:_law_other, 5:_law_villages, 6:_law_greatest, 7:_law_turn, 8:_law_roads, 9:_law_k, 10:_law_above, 11:_law_ends, 12:_law_road
theorem sc_law_told : FnScope ["_law_script", "_law_first", "_law_most", "_law_cell", "_law_other", "_law_villages", "_law_greatest", "_law_turn", "_law_roads", "_law_k", "_law_above", "_law_ends", "_law_road"] ["_law_script", "_law_first", "_law_most"] (defScope S_law_told) := ⟨rfl, rfl, rfl, by decide +kernel, rfl, by decide +kernel, by decide +kernel⟩
theorem ok_told {f : Addr} {fd : FuncData} (F : Fun K "_law_told" "_law_told" S_law_told f fd) (B : Bi mg) (G_law_cell_at : Gd P w K mg base 1 "_law_cell_at" ["_law_script", "_law_k"] (spCell K)) (G_law_draw : Gd P w K mg base 1 "_law_draw" ["_law_cell", "_law_k", "_law_many"] spDraw)
    (G_law_name : Gd P w K mg base 1 "_law_name" ["_law_k", "_law_villages", "_law_turn"] spName) : FnOk P w K mg base CX0 2 f fd ["_law_script", "_law_first", "_law_most"] (spTold K) := by
  refine F.ok sc_law_told (fun vs H Q E h => ?_) (fun cdv A outer s H vs Q E hr h => ?_)
  · obtain ⟨a, ns, first, most, rfl, _⟩ := h
    rfl
  · obtain ⟨a, ns, first, most, rfl, hS, hm1, hm2, k⟩ := h
    have nd := sc_law_told.nd
    refine ⟨_, (pss_cons (ps_set (i := 3) nd rfl (Or.inl rfl) (pe_g G_law_cell_at hr rfl (pa_cons (pv 0) (pa_cons (pv 1) pa_nil))))
    (pss_cons (ps_set (i := 4) nd rfl (Or.inl rfl) (pe_g G_law_cell_at hr rfl (pa_cons (pv 0) (pa_cons (pe_op op_add (pv 1) pe_int) pa_nil))))
    (pss_cons (ps_set (i := 5) nd rfl (Or.inl rfl) (pe_op op_add pe_int (pe_op op_mod (pv 3) (pe_callB (call_min2 rfl) (by rfl) B.min (by decide +kernel) (pa_cons (pv 2) (pa_cons pe_int pa_nil))))))
    (C8.pss_cut (ps_if (pt_cmpR op_eq (pe_op op_mod (pe_op op_fdiv (pv 3) pe_int) pe_int) pe_int (nomark _))
    (pss_one (ps_set (i := 5) nd rfl (Or.inl rfl) (pe_op op_add pe_int (pe_op op_mod (pe_op op_fdiv (pv 3) pe_int) (pv 2))))) pss_nil)
    (pss_cons (ps_set (i := 6) nd rfl (Or.inl rfl) (pe_ix ix_tup (pe_tup (pa_cons pe_int (pa_cons pe_int (pa_cons pe_int (pa_cons pe_int pa_nil))))) (pe_op op_mod (pe_op op_fdiv (pv 3) pe_int) pe_int) (fun _ _ => rfl)))
    (pss_cons (ps_set (i := 7) nd rfl (Or.inl rfl) (pe_ix ix_tup (pe_tup (pa_cons pe_int (pa_cons pe_int (pa_cons pe_int (pa_cons pe_int pa_nil))))) (pe_op op_mod (pe_op op_fdiv (pv 3) pe_int) pe_int) (fun _ _ => rfl)))
    (pss_cons (ps_set (i := 8) nd rfl (Or.inl rfl) (pe_lst pa_nil))
    (pss_cons (ps_for PassesOwn.never rfl (pi_range2 (by rfl) B.range (pa_cons pe_int (pa_cons (pv 5) pa_nil))) (pg_name (i := 9) nd rfl (Or.inl rfl))
    (pss_cons (ps_set (i := 10) nd rfl (Or.inl rfl) (pe_g G_law_draw hr rfl (pa_cons (pv 4) (pa_cons (pv 9) (pa_cons (pv 9) pa_nil)))))
    (C8.pss_cut (ps_if (pt_cmpR op_eq (pe_op op_mod (pe_op op_fdiv (pv 3) pe_int) pe_int) pe_int (nomark _))
    (pss_one (ps_set (i := 10) nd rfl (Or.inl rfl) (pe_callB (call_max2 rfl) (by rfl) B.max (by decide +kernel) (pa_cons pe_int (pa_cons (pe_op op_sub (pe_op op_sub (pv 9) pe_int) (pe_g G_law_draw hr rfl (pa_cons (pv 4) (pa_cons (pv 9) (pa_cons pe_int pa_nil))))) pa_nil))))) pss_nil)
    (pss_cons (ps_set (i := 11) nd rfl (Or.inl rfl) (pe_tup (pa_cons (pe_g G_law_name hr rfl (pa_cons (pv 9) (pa_cons (pv 5) (pa_cons (pv 7) pa_nil)))) (pa_cons (pe_g G_law_name hr rfl (pa_cons (pv 10) (pa_cons (pv 5) (pa_cons (pv 7) pa_nil)))) pa_nil))))
    (C8.pss_cut (ps_if (pt_cmpR op_eq (pe_g G_law_draw hr rfl (pa_cons (pv 4) (pa_cons (pe_op op_add (pv 9) pe_int) (pa_cons pe_int pa_nil)))) pe_int (nomark _))
    (pss_one (ps_set (i := 11) nd rfl (Or.inl rfl) (pe_tup (pa_cons (pe_ix ix_tup (pv 11) pe_int (fun _ _ => rfl)) (pa_cons (pe_ix ix_tup (pv 11) pe_int (fun _ _ => rfl)) pa_nil))))) pss_nil)
    (pss_cons (ps_set (i := 12) nd rfl (Or.inl rfl) (pe_tup (pa_cons (pe_ix ix_tup (pv 11) pe_int (fun _ _ => rfl)) (pa_cons (pe_ix ix_tup (pv 11) pe_int (fun _ _ => rfl)) (pa_cons (pe_op op_add pe_int (pe_g G_law_draw hr rfl (pa_cons (pv 4) (pa_cons (pe_op op_add (pv 9) pe_int) (pa_cons (pv 6) pa_nil))))) pa_nil)))))
    (pss_one (ps_expr (pe_bm PySem.F.plainAttrs_list PySem.F.slot_list_insert PySem.F.type_list_insert mt_insert (pv 8) (pa_cons (pe_g G_law_draw hr rfl (pa_cons (pv 4) (pa_cons (pe_op op_add (pv 9) pe_int) (pa_cons (pe_op op_add (pe_callB call_len_seq (by rfl) B.len (by decide +kernel) (pa_cons (pv 8) pa_nil)) pe_int) pa_nil)))) (pa_cons (pv 12) pa_nil)))))))))))
    (pss_one (ps_ret (pe_tup (pa_cons (pv 5) (pa_cons (pv 8) pa_nil))))))))))))), ?_⟩
    generalize hce : cellV ns first = cell at k
    generalize hot : cellV ns (first + 1) = other at k
    have hmin : 0 < min2 most 7 := by unfold min2; split <;> omega
    refine ⟨_, rfl, _, rfl, a, ns, first, rfl, hS, ?_⟩
    refine ⟨_, rfl, _, rfl, _, _, rfl, rfl, a, ns, first + 1, rfl, hS, ?_⟩
    rw [hce, hot]
    refine ⟨_, rfl, _, rfl, _, _, rfl, _, _, rfl, rfl, hmin, _, _, rfl, rfl, ?_⟩
    have hN := toldN_range (cell := cell) hm1 hm2
    refine ⟨fun σ' H' => H' = H ∧ σ' = [some (.ref a), some (.int first), some (.int most), some (.int cell), some (.int other), some (.int (toldN cell most)), none, none, none, none, none, none, none], ?_, ?_⟩
    · refine ⟨_, rfl, _, _, rfl, rfl, ⟨by decide, by decide⟩, _, _, rfl, rfl, (by show (0 : Int) < 6; decide), rfl, _, rfl, ?_⟩
      rw [dec_int]
      by_cases c : cell / 7 % 6 = 1
      · rw [show (cell / 7 % 6 == 1) = true by simpa using c]
        refine iteT ?_
        refine ⟨_, rfl, _, _, rfl, rfl, ⟨by decide, by decide⟩, _, rfl, _, _, rfl, rfl, (by omega), _, _, rfl, rfl, rfl, ?_⟩
        unfold toldN
        rw [if_pos c]
        rfl
      · rw [show (cell / 7 % 6 == 1) = false by simpa using c]
        refine iteF ?_
        refine ⟨rfl, ?_⟩
        unfold toldN
        rw [if_neg c]
        rfl
    rintro σ' H' ⟨rfl, rfl⟩
    -- greatest, turn
    refine ⟨by show 4 ≤ sizeLine; decide, fun p1 hp1 => ?_⟩
    refine ⟨_, rfl, _, _, rfl, rfl, ⟨by decide, by decide⟩, _, _, rfl, rfl, (by show (0 : Int) < 4; decide), p1, _, _, _, rfl, rfl, SqT.of upd_same, menu_at (l := greats) (Int.emod_nonneg _ (by decide)) (Int.emod_lt_of_pos _ (by decide)), ?_⟩
    have s1 := Same.new (o := .tup (greats.map V.int)) hp1
    show tSeq _ _ _ _ (upd H' p1 (.tup (greats.map V.int)))
    generalize upd H' p1 (.tup (greats.map V.int)) = H1 at s1 ⊢
    refine ⟨by show 4 ≤ sizeLine; decide, fun p2 hp2 => ?_⟩
    refine ⟨_, rfl, _, _, rfl, rfl, ⟨by decide, by decide⟩, _, _, rfl, rfl, (by show (0 : Int) < 4; decide), p2, _, _, _, rfl, rfl, SqT.of upd_same, menu_at (l := turns) (Int.emod_nonneg _ (by decide)) (Int.emod_lt_of_pos _ (by decide)), ?_⟩
    have s2 := s1.trans (Same.new (o := .tup (turns.map V.int)) hp2)
    show tSeq _ _ _ _ (upd H1 p2 (.tup (turns.map V.int)))
    generalize upd H1 p2 (.tup (turns.map V.int)) = H2 at s2 ⊢
    clear s1 hp1 hp2
    obtain ⟨N, hNe⟩ : ∃ N, N = toldN cell most := ⟨_, rfl⟩
    have ht : turnV cell ∈ turns := turn_mem cell
    have hg := great_range cell
    have kR : ∀ t l H'', H' t = none → H' l = none → Same H' H'' → ToldAt H'' t l N.toNat (toldRs cell other N (N.toNat - 1)) → Q (.ref t) H'' := by
      rw [hNe]; exact k
    show tSeq _ _ _ [some (.ref a), some (.int first), some (.int most), some (.int cell), some (.int other), some (.int (toldN cell most)), some (.int (greatV cell)), some (.int (turnV cell)), none, none, none, none, none] H2
    rw [← hNe] at hN ⊢
    clear k hNe
    generalize hge : greatV cell = gr at hg ⊢
    generalize hte : turnV cell = tn at ht ⊢
    refine ⟨Nat.zero_le _, fun l hl => ?_⟩
    have hlH : H' l = none := s2.free hl
    refine ⟨_, rfl, 1, N, rfl, ⟨by decide, by decide, by omega, by omega⟩, for_range (lo := 1) (n := (N - 1).toNat) (fun i σ' H'' => ∃ (us : List V) (v9 v10 v11 v12 : Option V),
      σ' = [some (.ref a), some (.int first), some (.int most), some (.int cell), some (.int other), some (.int N), some (.int gr), some (.int tn), some (.ref l), v9, v10, v11, v12] ∧ Same H' H'' ∧ H'' l = some (.lst us) ∧ RoadsAt H'' (toldRs cell other N i) us)
      ⟨[], none, none, none, none, rfl, s2.trans (Same.new hl), upd_same, .nil⟩ ?_ ?_⟩
    · rintro i σ' H3 hi ⟨us, v9, v10, v11, v12, rfl, s3, hL, hP⟩
      have hlen : us.length = i := by rw [← hP.length, toldRs_length]
      have hk1 : 1 ≤ 1 + (i : Int) := by omega
      have hk2 : 1 + (i : Int) ≤ 12 := by omega
      have ab := above_range cell other hk1
      obtain ⟨kk, hkk⟩ : ∃ kk, kk = 1 + (i : Int) := ⟨_, rfl⟩
      show tSeq _ _ _ [some (.ref a), some (.int first), some (.int most), some (.int cell), some (.int other), some (.int N), some (.int gr), some (.int tn), some (.ref l), some (.int (1 + (i : Int))), v10, v11, v12] H3
      rw [← hkk] at hk1 hk2 ab ⊢
      -- above
      refine ⟨_, rfl, _, rfl, _, rfl, other, kk, kk, rfl, by omega, by omega, by omega, fun H4 s4 => ?_⟩
      have hL4 := s4 _ _ hL
      have hP4 := hP.same s4
      have s04 := s3.trans s4
      refine ⟨fun σ' H'' => σ' = [some (.ref a), some (.int first), some (.int most), some (.int cell), some (.int other), some (.int N), some (.int gr), some (.int tn), some (.ref l), some (.int kk), some (.int (aboveV cell other kk)), v11, v12] ∧ Same H4 H'', ?_, ?_⟩
      · refine ⟨_, rfl, _, _, rfl, rfl, ⟨by decide, by decide⟩, _, _, rfl, rfl, (by show (0 : Int) < 3; decide), rfl, _, rfl, ?_⟩
        rw [dec_int]
        unfold aboveV
        by_cases c : cell / 192 % 3 = 0
        · rw [show (cell / 192 % 3 == 0) = true by simpa using c, if_pos c]
          refine iteT ?_
          refine ⟨_, rfl, _, _, rfl, rfl, _, rfl, _, rfl, other, kk, 2, rfl, by omega, by omega, by omega, fun H5 s5 => ?_⟩
          exact ⟨_, _, rfl, rfl, _, _, rfl, rfl, s5⟩
        · rw [show (cell / 192 % 3 == 0) = false by simpa using c, if_neg c]
          refine iteF ?_
          exact ⟨rfl, Same.refl _⟩
      rintro σ' H5 ⟨rfl, s5⟩
      -- ends
      refine ⟨_, rfl, _, rfl, _, rfl, kk, N, tn, rfl, by omega, by omega, ht, _, rfl, _, rfl, _, rfl, aboveV cell other kk, N, tn, rfl, ab.1, by omega, ht, (by show 2 ≤ sizeLine; decide), fun p hp => ?_⟩
      have s6 := s5.trans (Same.new (o := .tup [.int (nameV kk N tn), .int (nameV (aboveV cell other kk) N tn)]) hp)
      have hp6 : upd H5 p (.tup [.int (nameV kk N tn), .int (nameV (aboveV cell other kk) N tn)]) p = some (.tup [.int (nameV kk N tn), .int (nameV (aboveV cell other kk) N tn)]) := upd_same
      generalize upd H5 p (.tup [.int (nameV kk N tn), .int (nameV (aboveV cell other kk) N tn)]) = H6 at s6 hp6 ⊢
      clear s5 hp
      refine ⟨fun σ' H'' => ∃ p, σ' = [some (.ref a), some (.int first), some (.int most), some (.int cell), some (.int other), some (.int N), some (.int gr), some (.int tn), some (.ref l), some (.int kk), some (.int (aboveV cell other kk)), some (.ref p), v12] ∧ Same H4 H'' ∧
        H'' p = some (.tup [.int (toldRoad cell other N kk).a, .int (toldRoad cell other N kk).b]), ?_, ?_⟩
      · refine ⟨_, rfl, _, rfl, _, _, rfl, rfl, other, kk + 2, 2, rfl, by omega, by omega, by omega, fun H7 s7 => ?_⟩
        refine ⟨rfl, _, rfl, ?_⟩
        rw [dec_int]
        unfold toldRoad
        rw [hte]
        by_cases c : draw other (kk + 2) 2 = 0
        · rw [show (draw other (kk + 2) 2 == 0) = true by simpa using c, if_pos c]
          refine iteT ?_
          refine ⟨_, rfl, p, _, 1, _, rfl, rfl, SqT.of (s7 _ _ hp6), rfl, _, rfl, p, _, 0, _, rfl, rfl, SqT.of (s7 _ _ hp6), rfl, (by show 2 ≤ sizeLine; decide), fun q hq => ?_⟩
          exact ⟨q, rfl, (s6.trans s7).trans (Same.new hq), upd_same⟩
        · rw [show (draw other (kk + 2) 2 == 0) = false by simpa using c, if_neg c]
          refine iteF ?_
          exact ⟨p, rfl, s6.trans s7, s7 _ _ hp6⟩
      rintro σ' H7 ⟨p', rfl, s7, hp7⟩
      -- road
      refine ⟨_, rfl, p', _, 0, _, rfl, rfl, SqT.of hp7, rfl, _, rfl, p', _, 1, _, rfl, rfl, SqT.of hp7, rfl, _, rfl, _, rfl, _, _, rfl, rfl, _, rfl, other, kk + 5, gr, rfl, by omega, by omega, by omega, fun H8 s8 => ?_⟩
      refine ⟨_, _, rfl, rfl, (by show 3 ≤ sizeLine; decide), fun q hq => ?_⟩
      have hl8 := (s7.trans s8) _ _ hL4
      have s9 := (s04.trans (s7.trans s8)).trans (Same.new (o := .tup [.int (toldRoad cell other N kk).a, .int (toldRoad cell other N kk).b, .int (1 + draw other (kk + 5) gr)]) hq)
      have hq9 : upd H8 q (.tup [.int (toldRoad cell other N kk).a, .int (toldRoad cell other N kk).b, .int (1 + draw other (kk + 5) gr)]) q = some (.tup [.int (toldRoad cell other N kk).a, .int (toldRoad cell other N kk).b, .int (1 + draw other (kk + 5) gr)]) := upd_same
      have hL9 := keepN (u := .tup [.int (toldRoad cell other N kk).a, .int (toldRoad cell other N kk).b, .int (1 + draw other (kk + 5) gr)]) hl8 hq
      have hP9 := (hP4.same (s7.trans s8)).same (Same.new (o := .tup [.int (toldRoad cell other N kk).a, .int (toldRoad cell other N kk).b, .int (1 + draw other (kk + 5) gr)]) hq)
      generalize upd H8 q (.tup [.int (toldRoad cell other N kk).a, .int (toldRoad cell other N kk).b, .int (1 + draw other (kk + 5) gr)]) = H9 at s9 hq9 hL9 hP9 ⊢
      have hl10 := draw_nonneg (cell := other) (k := kk + 3) (many := (us.length : Int) + 1) (by omega)
      have hl11 := draw_lt (cell := other) (k := kk + 3) (many := (us.length : Int) + 1) (by omega)
      refine ⟨_, rfl, .inl ⟨rfl, _, SqL.of hL9⟩, _, rfl, _, rfl, _, _, rfl, rfl, _, rfl, l, _, rfl, .inl (SqL.of hL9), _, _, rfl, rfl, other, kk + 3, (us.length : Int) + 1, rfl, by omega, by omega, by omega, fun H10 s10 => ?_⟩
      have hLA := s10 _ _ hL9
      refine ⟨_, rfl, l, us, _, .ref q, rfl, rfl, hLA, szl (by omega), hl10, by omega, ?_⟩
      have hla : (toldRs cell other N i).length = us.length := hP.length
      have hroad : RoadAt H10 (toldRoad cell other N kk) (.ref q) := ⟨q, rfl, by rw [toldRoad_l, s10 _ _ hq9]; rw [show greatV cell = gr from hge]⟩
      refine ⟨ins us (draw other (kk + 3) ((us.length : Int) + 1)) (.ref q), _, _, _, _, rfl, Same.mut (s9.trans s10) hlH, upd_same, ?_⟩
      have : toldRs cell other N (i + 1) = ins (toldRs cell other N i) (draw other (kk + 3) ((us.length : Int) + 1)) (toldRoad cell other N kk) := by
        rw [hkk, ← hla]; rfl
      rw [this]
      exact RoadsAt.upd (paired_ins (hP9.same s10) hroad) hLA
    · rintro σ' H3 ⟨us, v9, v10, v11, v12, rfl, s3, hL, hP⟩
      refine ⟨_, rfl, _, rfl, (by show 2 ≤ sizeLine; decide), fun t ht => ?_⟩
      have e1 : (N - 1).toNat = N.toNat - 1 := by omega
      rw [e1] at hP
      have e2 : ((N.toNat : Nat) : Int) = N := by omega
      refine kR t l _ (s3.free ht) hlH (s3.trans (Same.new ht)) ⟨us, ?_, keepN hL ht, hP.same (Same.new ht)⟩
      rw [e2]; exact upd_same
end
end Wr

namespace Wr
open PySem L2
section
variable {P : Program} {w : World} {K : PySem.W.Frag} {mg : Str → Option Value} {base : Heap}
-- slots: 0:self, 1:pairs, 2:posts
theorem sc_Posts_init : FnScope ["self", "pairs", "posts"] ["self", "pairs", "posts"] (defScope S_Posts_init) := ⟨rfl, rfl, rfl, by decide +kernel, rfl, by decide +kernel, by decide +kernel⟩
theorem ok_Posts_init {f C : Addr} {fd : FuncData} (F : Fun K "__init__" "Posts.__init__" S_Posts_init f fd) (O : Ox K C "pairs" "posts") (B : Bi mg) : FnOk P w K mg base CX0 1 f fd ["self", "pairs", "posts"] (spCopy C "pairs" "posts") := by
  refine F.ok sc_Posts_init (fun vs H Q E h => ?_) (fun cdv A outer s H vs Q E hr h => ?_)
  · obtain ⟨p, a, b, dx, ps, qs, rfl, _⟩ := h
    rfl
  · obtain ⟨p, a, b, dx, ps, qs, rfl, hp, ha, hb, k⟩ := h
    have nd := sc_Posts_init.nd
    refine ⟨_, (pss_cons (ps_fld (pv 0) (pe_callTy call_list_of (by rfl) B.list (by decide +kernel) (pa_cons (pv 1) pa_nil)) rfl)
    (pss_one (ps_fld (pv 0) (pe_callTy call_list_of (by rfl) B.list (by decide +kernel) (pa_cons (pv 2) pa_nil)) rfl))), ?_⟩
    refine ⟨_, rfl, a, _, rfl, .inl (SqL.of ha), fun l1 hl1 => ?_⟩
    have ha1 := keepN (u := .lst (ps.map V.int)) ha hl1
    have hb1 := keepN (u := .lst (ps.map V.int)) hb hl1
    have hp1 := keepN (u := .lst (ps.map V.int)) hp hl1
    have hl11 : upd H l1 (.lst (ps.map V.int)) l1 = some (.lst (ps.map V.int)) := upd_same
    have s1 := Same.new (o := .lst (ps.map V.int)) hl1
    refine ⟨_, rfl, p, C, dx, [], rfl, hp1, O.cl, O.n1, (by show 0 < 1000; decide), ?_⟩
    generalize upd H l1 (.lst (ps.map V.int)) = H1 at ha1 hb1 hp1 hl11 s1 ⊢
    have k1 : ∀ b o, H1 b = some o → b ≠ p → upd H1 p (.ins C dx (putF "pairs" (.ref l1) [])) b = some o := fun b o e hb => by rw [upd_ne hb]; exact e
    have hp2 : upd H1 p (.ins C dx (putF "pairs" (.ref l1) [])) p = some (.ins C dx (putF "pairs" (.ref l1) [])) := upd_same
    have npb : b ≠ p := (ne_of hp1 hb1 (by intro z; cases z)).symm
    have npl : l1 ≠ p := (ne_of hp1 hl11 (by intro z; cases z)).symm
    have hb2 := k1 _ _ hb1 npb
    have hl12 := k1 _ _ hl11 npl
    generalize upd H1 p (.ins C dx (putF "pairs" (.ref l1) [])) = H2 at k1 hp2 hb2 hl12 ⊢
    refine ⟨_, rfl, b, _, rfl, .inl (SqL.of hb2), fun l2 hl2 => ?_⟩
    have npl2 : p ≠ l2 := ne_of_none hp2 hl2
    have nll : l1 ≠ l2 := ne_of_none hl12 hl2
    refine ⟨_, rfl, p, C, dx, _, rfl, keepN hp2 hl2, O.cl, O.n2, (by show 1 < 1000; decide), ?_⟩
    rw [ofs_put l1 l2 O.ne]
    refine k _ l1 l2 (fun b o e hb => ?_) hl1 ?_ ⟨⟨dx, upd_same⟩, ?_, ?_, nll⟩
    · have e2 := k1 b o (s1 b o e) hb
      rw [upd_ne hb, upd_ne (ne_of_none e2 hl2)]
      exact e2
    · cases e : H l2 with
      | none => rfl
      | some o => have := k1 l2 o (s1 _ _ e) npl2.symm; rw [hl2] at this; cases this
    · rw [upd_ne npl, upd_ne nll]; exact hl12
    · rw [upd_ne npl2.symm]; exact upd_same
theorem told_at {H : Hp} {rs : List Road} {us : List V} (hR : RoadsAt H rs us) {m : Nat} {r : Road} (h : rs[m]? = some r) : ∃ tr, us[m]? = some (.ref tr) ∧ H tr = some (.tup [.int r.a, .int r.b, .int r.l]) := by
  obtain ⟨v, hv, tr, rfl, e⟩ := paired_get hR h
  exact ⟨tr, hv, e⟩
theorem endsV_snoc {rs : List Road} {ps : List Int} {i : Nat} {x : Int} (h : ps[i]? = some x) {r : Road} (hr : rs[x.toNat]? = some r) : endsV rs (ps.take (i + 1)) = endsV rs (ps.take i) ++ [r.a, r.b] := by
  unfold endsV
  rw [List.take_add_one, h]
  simp [hr]
theorem endsV_len (rs : List Road) : ∀ ps : List Int, (endsV rs ps).length ≤ 2 * ps.length
  | [] => by simp [endsV]
  | i :: ps => by
    have ih := endsV_len rs ps
    have e : ∃ z, z.length ≤ 2 ∧ endsV rs (i :: ps) = z ++ endsV rs ps := by
      cases h : rs[i.toNat]? with
      | none => exact ⟨[], by simp, by simp [endsV, h]⟩
      | some r => exact ⟨[r.a, r.b], by simp, by simp [endsV, h]⟩
    obtain ⟨z, hz, e⟩ := e
    rw [e, List.length_cons, List.length_append]
    omega
def spShows (C CT : Addr) : Sp := fun vs H Q _ => ∃ (a t : Addr) (m : Int) (l1 l2 : Addr) (ps qs : List Int) (n : Nat) (rs : List Road), vs = [.ref a, .ref t, .int m] ∧ AnsAt C "pairs" "posts" H a l1 l2 ps qs ∧ TreeAt CT H t n rs ∧ IsTree n rs ∧ ps.length ≤ 100 ∧ qs.length ≤ 100 ∧ (∀ i ∈ ps, 0 ≤ i ∧ i < rs.length) ∧
  ∀ H', Same H H' → Q (.bl (shownV rs ps qs m)) H'
-- slots: 0:self*, 1:tree, 2:number, 3:ends, 4:at, 5:road
theorem sc_Posts_shows : FnScope ["self", "tree", "number", "ends", "at", "road"] ["self", "tree", "number"] (defScope S_Posts_shows) := ⟨rfl, rfl, rfl, by decide +kernel, rfl, by decide +kernel, by decide +kernel⟩
theorem ok_Posts_shows {f C CT : Addr} {fd : FuncData} (F : Fun K "shows" "Posts.shows" S_Posts_shows f fd) (O : Ox K C "pairs" "posts") (T : Tx K mg CT) (B : Bi mg) : FnOk P w K mg base CX0 1 f fd ["self", "tree", "number"] (spShows C CT) := by
  refine F.ok sc_Posts_shows (fun vs H Q E h => ?_) (fun cdv A outer s H vs Q E hr h => ?_)
  · obtain ⟨a, t, m, l1, l2, ps, qs, n, rs, rfl, _⟩ := h
    rfl
  · obtain ⟨a, t, m, l1, l2, ps, qs, n, rs, rfl, hO, hA, hT, lp, lq, hpr, k⟩ := h
    have nd := sc_Posts_shows.nd
    have n12 := hT.le
    have nlen := hT.len
    refine ⟨_, (pss_cons (ps_if (PW.pt (pw_or (pt_cmpR op_ne (pv 2) (pe_callB call_len_seq (by rfl) B.len (by decide +kernel) (pa_cons (pe_fld (pv 0) rfl) pa_nil)) (nomark _)) (pw_or1 (pt_cmpR op_ne (pv 2) (pe_callB call_len_seq (by rfl) B.len (by decide +kernel) (pa_cons (pe_fld (pv 0) rfl) pa_nil)) (nomark _)))))
    (pss_one (ps_ret pe_bl)) pss_nil)
    (pss_cons (ps_set (i := 3) nd rfl (Or.inl rfl) (pe_lst pa_nil))
    (pss_cons (ps_for PassesOwn.never rfl (pi_list (pe_fld (pv 0) rfl)) (pg_name (i := 4) nd rfl (Or.inl rfl))
    (pss_one (ps_expr (pe_bm PySem.F.plainAttrs_list PySem.F.slot_list_extend PySem.F.type_list_extend (mt_extendT K) (pv 3) (pa_cons (pe_slice sl_tup (pe_ix ix_list (pe_fld (pv 1) rfl) (pv 4) (fun _ _ => rfl)) po_none (po_some pe_int)) pa_nil)))))
    (pss_cons (ps_if (pt_cmpR op_lt (pe_lenSetA K (by rfl) B.len (by rfl) B.set (pv 3)) (pe_callB call_len_seq (by rfl) B.len (by decide +kernel) (pa_cons (pv 3) pa_nil)) (nomark _))
    (pss_one (ps_ret pe_bl)) pss_nil)
    (pss_one (ps_ret (pe_callB (cr_allK K rfl) (by rfl) B.all (by decide +kernel) (pa_cons (pe_lc (own := [("road", 5)]) (g := gName 5) (tt := tYes) rfl nd (pi_list (pe_fld (pv 1) rfl)) (blkOk_by (N := ["self", "tree", "number", "ends", "at", "road"]) (sc := defScope S_Posts_shows) (by decide +kernel)) (fun _ _ _ _ _ => (pg_name (i := 5) nd rfl (Or.inl rfl))) (fun _ _ _ _ _ => pts_nil) (fun _ _ _ _ _ => (pe_or (pe_cmpR (op_inK K) (pe_ix (ix_tupK K) (pv 5) pe_int (fun _ _ => rfl)) (pe_fldK K (pv 0) rfl) rfl) (pe_one (pe_cmpR (op_inK K) (pe_ix (ix_tupK K) (pv 5) pe_int (fun _ _ => rfl)) (pe_fldK K (pv 0) rfl) rfl))))) pa_nil)))))))), ?_⟩
    obtain ⟨dx, hI⟩ := hO.ins
    refine ⟨_, rfl, _, rfl, a, C, dx, _, _, rfl, hI, O.cl, O.n1, ofs_1 _ _ _ _, l1, _, rfl, .inl (SqL.of hO.h1), rfl, _, rfl, ?_⟩
    rw [List.length_map]
    unfold shownV at k
    by_cases c1 : m = ps.length
    · rw [decide_eq_true c1, Bool.true_and] at k
      rw [decide_eq_true (show V.int m = V.int ((ps.length : Nat) : Int) by rw [c1])]
      refine iteF ?_
      refine ⟨_, rfl, _, rfl, a, C, dx, _, _, rfl, hI, O.cl, O.n2, ofs_2 _ _ O.ne, l2, _, rfl, .inl (SqL.of hO.h2), rfl, _, rfl, ?_⟩
      rw [List.length_map]
      by_cases c2 : m = qs.length
      · rw [decide_eq_true c2, Bool.true_and] at k
        rw [decide_eq_true (show V.int m = V.int ((qs.length : Nat) : Int) by rw [c2])]
        refine iteF ?_
        refine ⟨Nat.zero_le _, fun e he => ?_⟩
        have s1 := Same.new (o := .lst []) he
        have he1 : upd H e (.lst []) e = some (.lst ((endsV rs (ps.take 0)).map V.int)) := upd_same
        obtain ⟨dxt, r, us, g1, g2, g3⟩ := id hA
        refine of_gName ?_
        generalize upd H e (.lst []) = H1 at s1 he1 ⊢
        have nel : e ≠ l1 := (ne_of_none hO.h1 he).symm
        refine ⟨_, rfl, a, C, dx, _, _, rfl, s1 _ _ hI, O.cl, O.n1, ofs_1 _ _ _ _, l1, rfl, ⟨_, SqL.of (s1 _ _ hO.h1)⟩, for_list (K := K) (a := l1) (xs := ps.map V.int) (fun i σ' H' => ∃ v4, σ' = [some (.ref a), some (.ref t), some (.int m), some (.ref e), v4, none] ∧ Same H H' ∧ H' e = some (.lst ((endsV rs (ps.take i)).map V.int)))
          ⟨none, rfl, s1, he1⟩ (fun i σ' H' _ ⟨_, _, s', _⟩ => SqL.of (s' _ _ hO.h1)) ?_ ?_⟩
        · rintro i x σ' H2 hx ⟨v4, rfl, s2, he2⟩
          rw [List.getElem?_map] at hx
          obtain ⟨y, hy, rfl⟩ := Option.map_eq_some_iff.mp hx
          have yr := hpr y (List.mem_of_getElem? hy)
          obtain ⟨rd, hrd⟩ : ∃ rd, rs[y.toNat]? = some rd := ⟨_, List.getElem?_eq_getElem (by omega)⟩
          obtain ⟨tr, d1, d2⟩ := told_at g3 hrd
          have hat : atI us y = some (.ref tr) := by
            have := atI_nat d1
            rwa [show ((y.toNat : Nat) : Int) = y by omega] at this
          have hi : i < ps.length := by
            obtain ⟨hi, -⟩ := List.getElem?_eq_some_iff.mp hy
            exact hi
          refine ⟨_, rfl, .inl ⟨rfl, _, SqL.of he2⟩, _, rfl, t, CT, dxt, _, _, rfl, s2 _ _ g1, T.cl, T.nR, tfs_rows _ _, _, rfl, r, us, y, _, rfl, rfl, SqL.of (s2 _ _ g2), hat, _, rfl, tr, _, rfl, SqT.of (s2 _ _ d2), (show ¬ ((0 : Nat) = 0 ∧ (2 : Nat) = 3) by decide), fun q hq => ?_⟩
          have s3 := s2.trans (Same.new (o := .tup (cutV [.int rd.a, .int rd.b, .int rd.l] none (some 2))) hq)
          have he3 := keepN (u := .tup (cutV [.int rd.a, .int rd.b, .int rd.l] none (some 2))) he2 hq
          have hq3 : upd H2 q (.tup (cutV [.int rd.a, .int rd.b, .int rd.l] none (some 2))) q = some (.tup ([rd.a, rd.b].map V.int)) := upd_same
          generalize upd H2 q (.tup (cutV [.int rd.a, .int rd.b, .int rd.l] none (some 2))) = H3 at s3 he3 hq3 ⊢
          have hl := endsV_len rs (ps.take i)
          rw [List.length_take] at hl
          refine ⟨e, q, _, _, rfl, rfl, he3, SqT.of hq3, (by simp only [List.length_map, List.length_cons, List.length_nil]; omega), ?_⟩
          refine ⟨_, rfl, Same.mut s3 he, ?_⟩
          rw [upd_same, endsV_snoc hy hrd, List.map_append]
        · rintro σ' H2 ⟨v4, rfl, s2, he2⟩
          rw [List.length_map, List.take_length] at he2
          have hl := endsV_len rs ps
          refine ⟨_, rfl, e, _, rfl, SqL.of he2, by omega, _, rfl, e, _, rfl, .inl (SqL.of he2), _, _, rfl, rfl, _, rfl, ?_⟩
          rw [List.length_map]
          by_cases c3 : (endsV rs ps).Nodup
          · rw [decide_eq_true c3, Bool.true_and] at k
            rw [decide_eq_false (by
              have := fun q => (distinct_iff (endsV rs ps)).mp q c3
              intro hlt
              exact this (by omega))]
            refine iteF ?_
            refine of_next (of_ret (of_cb1 (lc_at (Itl K r) (fun R hR => ⟨_, rfl, t, CT, dxt, _, _, rfl, s2 _ _ g1, T.cl, T.nR, tfs_rows _ _, r, rfl, ⟨_, SqL.of (s2 _ _ g2)⟩, hR⟩) ?_)))
            refine lcl (d := (⟨0, 0, 0⟩ : Road)) (RoadAt H2) (g3.same s2) (SqL.of (s2 _ _ g2)) (by omega) (fun _ => true) (fun r => .bl (decide (r.a ∈ qs) || decide (r.b ∈ qs))) (fun z v' hz hE H4 s4 Yes No hyes hno => ?_) (fun D' H4 hD' s4 hD4 => ?_)
            · obtain ⟨tz, rfl, htz⟩ := hE
              have htz4 := s4 _ _ htz
              have hI4 := s4 _ _ (s2 _ _ hI)
              have hq4 := s4 _ _ (s2 _ _ hO.h2)
              refine turn_all ?_
              refine ⟨_, rfl, tz, _, 0, _, rfl, rfl, SqT.of htz4, rfl, _, rfl, a, C, dx, _, _, rfl, hI4, O.cl, O.n2, ofs_2 _ _ O.ne, l2, _, rfl, .inl (SqL.of hq4), rfl, flat_ints _, _, rfl, ?_⟩
              rw [inV_ints]
              have hy := hyes rfl H4 (Same.refl _)
              by_cases ca : z.a ∈ qs
              · rw [decide_eq_true ca]
                refine iteT ?_
                rw [decide_eq_true ca, Bool.true_or] at hy
                exact hy
              · rw [decide_eq_false ca]
                refine iteF ?_
                rw [decide_eq_false ca, Bool.false_or] at hy
                refine ⟨_, rfl, tz, _, 1, _, rfl, rfl, SqT.of htz4, rfl, _, rfl, a, C, dx, _, _, rfl, hI4, O.cl, O.n2, ofs_2 _ _ O.ne, l2, _, rfl, .inl (SqL.of hq4), rfl, flat_ints _, ?_⟩
                rw [inV_ints]
                exact hy
            · have ee : ((rs.filter fun _ => true).map fun r => V.bl (decide (r.a ∈ qs) || decide (r.b ∈ qs))) = (rs.map fun r => decide (r.a ∈ qs) || decide (r.b ∈ qs)).map V.bl := by
                rw [List.filter_eq_self.mpr fun _ _ => rfl, List.map_map]; rfl
              rw [ee] at hD4
              refine ⟨D', _, rfl, SqL.of hD4, ?_⟩
              rw [List.all_map]
              exact k H4 (s2.trans s4)
          · rw [decide_eq_false c3, Bool.false_and] at k
            rw [decide_eq_true (by
              have := (distinct_iff (endsV rs ps)).mpr c3
              omega)]
            exact iteT (k H2 s2)
      · rw [decide_eq_false c2, Bool.false_and] at k
        rw [decide_eq_false (show ¬ V.int m = V.int ((qs.length : Nat) : Int) by intro e; injection e with e; exact c2 e)]
        exact iteT (k H (Same.refl _))
    · rw [decide_eq_false c1, Bool.false_and] at k
      rw [decide_eq_false (show ¬ V.int m = V.int ((ps.length : Nat) : Int) by intro e; injection e with e; exact c1 e)]
      exact iteT (iteT (k H (Same.refl _)))
end
end Wr

namespace Wr
open PySem L2
section
variable {P : Program} {w : World} {K : PySem.W.Frag} {mg : Str → Option Value} {base : Heap}
def spRoadOf (C : Addr) : Sp := fun vs H Q _ => ∃ (t : Addr) (n : Nat) (rs : List Road) (v p l : Int), vs = [.ref t, .int v, .int p] ∧ TreeAt C H t n rs ∧ IsTree n rs ∧ Adj rs p v l ∧ ∀ H', Same H H' → Q (.int (roadIx rs v p)) H'
-- slots: 0:tree*, 1:one*, 2:other*, 3:at
theorem sc_road_of : FnScope ["tree", "one", "other", "at"] ["tree", "one", "other"] (defScope S_road_of) := ⟨rfl, rfl, rfl, by decide +kernel, rfl, by decide +kernel, by decide +kernel⟩
theorem ok_road_of {f C : Addr} {fd : FuncData} (F : Fun K "road_of" "road_of" S_road_of f fd) (T : Tx K mg C) (B : Bi mg) : FnOk P w K mg base CX0 1 f fd ["tree", "one", "other"] (spRoadOf C) := by
  refine F.ok sc_road_of (fun vs H Q E h => ?_) (fun cdv A outer s H vs Q E hr h => ?_)
  · obtain ⟨t, n, rs, v, p, l, rfl, _⟩ := h
    rfl
  · obtain ⟨t, n, rs, v, p, l, rfl, hA, hT, adj, k⟩ := h
    have nd := sc_road_of.nd
    have n12 := hT.le
    have nlen := hT.len
    refine ⟨_, (pss_one (ps_ret (pe_ix ix_list (pe_lc (own := [("at", 3)]) (g := gName 3) rfl nd (pi_range1 (by rfl) B.range (pa_cons (pe_callB call_len_seq (by rfl) B.len (by decide +kernel) (pa_cons (pe_fld (pv 0) rfl) pa_nil)) pa_nil)) (blkOk_by (N := ["tree", "one", "other", "at"]) (sc := defScope S_road_of) (by decide +kernel)) (fun _ _ _ _ _ => (pg_name (i := 3) nd rfl (Or.inl rfl))) (fun _ _ _ _ _ => (pts_one (pt_cmpR (op_eqDK K hr.units) (pe_callB (cr_sortedA K) (by rfl) B.sorted (by decide +kernel) (pa_cons (pe_slice (sl_tupK K) (pe_ix (ix_listK K) (pe_fldK K (pv 0) rfl) (pv 3) (fun _ _ => rfl)) po_none (po_some pe_int)) pa_nil)) (pe_callB (cr_sortedA K) (by rfl) B.sorted (by decide +kernel) (pa_cons (pe_lst (pa_cons (pv 1) (pa_cons (pv 2) pa_nil))) pa_nil)) (nomark _)))) (fun _ _ _ _ _ => (pv 3))) pe_int (fun _ _ => rfl)))), ?_⟩
    obtain ⟨dx, r, us, g1, g2, g3⟩ := id hA
    have ulen := g3.length
    refine of_ret (of_op (lc_at (Itr 0 us.length) (fun R hR => ⟨_, rfl, t, C, dx, _, _, rfl, g1, T.cl, T.nR, tfs_rows _ _, r, us, rfl, .inl (SqL.of g2), (us.length : Int), rfl, by omega, by omega, hR⟩) ?_))
    refine lcr (n := us.length) (by omega) (sameAt rs v p) (fun i => .int (i : Int)) (fun i hi H3 s3 Yes No hyes hno => ?_) (fun D' H3 hD' s3 hD3 => ?_)
    · obtain ⟨z, hz⟩ : ∃ z, rs[i]? = some z := ⟨_, List.getElem?_eq_getElem (by omega)⟩
      obtain ⟨tz, d1, d2⟩ := told_at g3 hz
      have hat : atI us (0 + (i : Int)) = some (.ref tz) := by rw [Int.zero_add]; exact atI_nat d1
      have hc0 : sameAt rs v p i = sameE v p z := by unfold sameAt; rw [hz]
      rw [hc0] at hyes hno
      refine ⟨rfl, ?_⟩
      refine ⟨_, rfl, t, C, dx, _, _, rfl, s3 _ _ g1, T.cl, T.nR, tfs_rows _ _, _, rfl, r, us, 0 + (i : Int), _, rfl, rfl, SqL.of (s3 _ _ g2), hat, _, rfl, tz, _, rfl, SqT.of (s3 _ _ d2), (show ¬ ((0 : Nat) = 0 ∧ (2 : Nat) = 3) by decide), fun p1 hp => ?_⟩
      have e4 := Same.new (o := .tup (cutV [.int z.a, .int z.b, .int z.l] none (some 2))) hp
      have hp4 : upd H3 p1 (.tup (cutV [.int z.a, .int z.b, .int z.l] none (some 2))) p1 = some (.tup ([z.a, z.b].map V.int)) := upd_same
      generalize upd H3 p1 (.tup (cutV [.int z.a, .int z.b, .int z.l] none (some 2))) = H4 at e4 hp4 ⊢
      refine ⟨p1, [z.a, z.b], rfl, .inr (SqT.of hp4), fun m1 q1 pm1 or1 hq1 => ?_⟩
      have e5 := e4.trans (Same.new (o := .lst (m1.map V.int)) hq1)
      have hq5 : upd H4 q1 (.lst (m1.map V.int)) q1 = some (.lst (m1.map V.int)) := upd_same
      generalize upd H4 q1 (.lst (m1.map V.int)) = H5 at e5 hq5 ⊢
      refine ⟨_, rfl, _, rfl, by show 2 ≤ sizeLine; decide, fun p2 hp2 => ?_⟩
      have e6 := e5.trans (Same.new (o := .lst [.int v, .int p]) hp2)
      have hq6 := Same.new (o := .lst [.int v, .int p]) hp2 _ _ hq5
      have hp6 : upd H5 p2 (.lst [.int v, .int p]) p2 = some (.lst ([v, p].map V.int)) := upd_same
      generalize upd H5 p2 (.lst [.int v, .int p]) = H6 at e6 hq6 hp6 ⊢
      refine ⟨p2, [v, p], rfl, .inl (SqL.of hp6), fun m2 q2 pm2 or2 hq2 => ?_⟩
      have e7 := e6.trans (Same.new (o := .lst (m2.map V.int)) hq2)
      have hq7 := Same.new (o := .lst (m2.map V.int)) hq2 _ _ hq6
      have hp7 : upd H6 q2 (.lst (m2.map V.int)) q2 = some (.lst (m2.map V.int)) := upd_same
      generalize upd H6 q2 (.lst (m2.map V.int)) = H7 at e7 hq7 hp7 ⊢
      refine ⟨_, _, dp_ilist hq7, dp_ilist hp7, shaped_ints _, shaped_ints _, _, rfl, ?_⟩
      rw [eqv_il, decide_eq_decide.mpr (sorted2 pm1 or1 pm2 or2)]
      show (if sameE v p z = true then _ else _)
      cases hc : sameE v p z with
      | true =>
        refine iteT ?_
        have := hyes hc _ e7
        refine ⟨_, rfl, ?_⟩
        rwa [show ((i : Nat) : Int) = 0 + (i : Int) by omega] at this
      | false =>
        refine iteF ?_
        exact hno hc _ e7
    · rw [← ulen, one_ix hT adj] at hD3
      refine ⟨D', _, 0, _, rfl, rfl, SqL.of hD3, rfl, ?_⟩
      exact k H3 s3
def tkK (l : List Int) : List (Key × V) := l.map fun x => (Sum.inl x, V.bl true)
theorem tkK_val (v : Int) : ∀ l : List Int, (valV (tkK l) (Sum.inl v : Key)).isSome = decide (v ∈ l)
  | [] => rfl
  | x :: l => by
    by_cases e : x = v
    · subst e
      rw [show tkK (x :: l) = (Sum.inl x, V.bl true) :: tkK l from rfl, valV_pos rfl]
      simp
    · rw [show tkK (x :: l) = (Sum.inl x, V.bl true) :: tkK l from rfl, valV_neg (fun q => e (Sum.inl.inj q)), tkK_val v l]
      have : ¬ v = x := fun q => e q.symm
      simp [this]
theorem tkK_none {v : Int} {l : List Int} (h : v ∉ l) : valV (tkK l) (Sum.inl v : Key) = none := by
  have := tkK_val v l
  rw [decide_eq_false h] at this
  cases e : valV (tkK l) (Sum.inl v : Key) with
  | none => rfl
  | some z => rw [e] at this; cases this
theorem ans_dno {σ : St} {H : Hp} {ta td : TE} {v : Int} {d : Addr} {l : List Int} (h1 : Val ta σ H (.int v)) (h2 : Val td σ H (.ref d)) (hd : H d = some (.dK (tkK l))) : Ans (tB (tDNotIn ta td)) σ H (!decide (v ∈ l)) := by
  intro Q q
  refine h1 _ ?_
  refine h2 _ ?_
  refine ⟨d, _, rfl, DGet.k (k := Sum.inl v) hd, _, rfl, ?_⟩
  rw [tkK_val]
  exact q
theorem keysV {H : Hp} : ∀ {f : Found} {kvs : List (Key × V)}, Paired (FRel H) f kvs → kvs.map (fun kv => kV kv.1) = (keys f).map V.int
  | _, _, .nil => rfl
  | _, _, .cons ⟨e, _⟩ r => by
    have ih := keysV r
    simp only [keys, List.map_cons] at ih ⊢
    rw [ih, e]
    rfl
def spPaired (CT C : Addr) : Sp := fun vs H Q _ => ∃ (t : Addr) (n : Nat) (rs : List Road), vs = [.ref t] ∧ TreeAt CT H t n rs ∧ IsTree n rs ∧
  ∀ p l1 l2 ps qs H', H p = none → H l1 = none → H l2 = none → Same H H' → AnsAt C "pairs" "posts" H' p l1 l2 ps qs → Good n rs ps qs → ps.Pairwise (· < ·) → qs.Pairwise (· < ·) → Q (.ref p) H'
-- slots: 0:tree, 1:walked, 2:taken, 3:pairs, 4:posts, 5:village, 6:above
theorem sc_paired : FnScope ["tree", "walked", "taken", "pairs", "posts", "village", "above"] ["tree"] (defScope S_paired) := ⟨rfl, rfl, rfl, by decide +kernel, rfl, by decide +kernel, by decide +kernel⟩
theorem ok_paired {f CT C : Addr} {fd : FuncData} (F : Fun K "paired" "paired" S_paired f fd) (T : Tx K mg CT) (B : Bi mg) (GM_walked : Gm P w K mg base CT 1 "walked" ["self", "start"] (spWalked CT))
    (GC_Posts : Gc P w K mg base C 1 "Posts" ["self", "pairs", "posts"] (spCopy C "pairs" "posts")) (G_road_of : Gd P w K mg base 1 "road_of" ["tree", "one", "other"] (spRoadOf CT)) : FnOk P w K mg base CX0 3 f fd ["tree"] (spPaired CT C) := by
  refine F.ok sc_paired (fun vs H Q E h => ?_) (fun cdv A outer s H vs Q E hr h => ?_)
  · obtain ⟨t, n, rs, rfl, _⟩ := h
    rfl
  · obtain ⟨t, n, rs, rfl, hA, hT, k⟩ := h
    have hu := hu_of hr
    have nd := sc_paired.nd
    have n1 := hT.pos
    have n12 := hT.le
    have h0 : (0 : Int) ≤ 0 ∧ (0 : Int) < n := ⟨Int.le_refl _, by omega⟩
    have gr := (hT.walked h0).gr
    have flen12 := hT.len_walked h0
    refine ⟨_, (pss_cons (ps_set (i := 1) nd rfl (Or.inl rfl) (pe_gm (pv 0) T.cl GM_walked hr (pa_cons pe_int pa_nil)))
    (pss_cons (ps_set (i := 2) nd rfl (Or.inl rfl) pe_dnewK)
    (pss_cons (ps_set (i := 3) nd rfl (Or.inl rfl) (pe_lst pa_nil))
    (pss_cons (ps_set (i := 4) nd rfl (Or.inl rfl) (pe_lst pa_nil))
    (pss_cons (ps_for PassesOwn.never rfl (pi_reversed (by rfl) B.reversed (pa_cons (pe_callTy (call_list_dK rfl) (by rfl) B.list (by decide +kernel) (pa_cons (pv 1) pa_nil)) pa_nil)) (pg_name (i := 5) nd rfl (Or.inl rfl))
    (pss_cons (ps_set (i := 6) nd rfl (Or.inl rfl) (pe_ix ix_tup (pe_dget hu (pv 1) (pv 5) (fun _ _ => rfl)) pe_int (fun _ _ => rfl)))
    (pss_one (ps_if (PW.pt (pw_and (pt_cmpR op_ge (pv 6) pe_int (nomark _)) (pw_and (pt_cmp (pc_dnotin hu (pv 5) (pv 2))) (pw_and1 (pt_cmp (pc_dnotin hu (pv 6) (pv 2)))))))
    (pss_cons (ps_dput hu (pv 2) (pv 5) pe_bl rfl)
    (pss_cons (ps_dput hu (pv 2) (pv 6) pe_bl rfl)
    (pss_cons (ps_expr (pe_bm PySem.F.plainAttrs_list PySem.F.slot_list_append PySem.F.type_list_append mt_append (pv 4) (pa_cons (pv 6) pa_nil)))
    (pss_one (ps_expr (pe_bm PySem.F.plainAttrs_list PySem.F.slot_list_append PySem.F.type_list_append mt_append (pv 3) (pa_cons (pe_g G_road_of hr rfl (pa_cons (pv 0) (pa_cons (pv 5) (pa_cons (pv 6) pa_nil)))) pa_nil))))))) pss_nil))))
    (pss_one (ps_ret (pe_gc GC_Posts hr rfl (pa_cons (pe_callB (cr_sortedA K) (by rfl) B.sorted (by decide +kernel) (pa_cons (pv 3) pa_nil)) (pa_cons (pe_callB (cr_sortedA K) (by rfl) B.sorted (by decide +kernel) (pa_cons (pv 4) pa_nil)) pa_nil)))))))))), ?_⟩
    obtain ⟨dx, r, h1⟩ := tree_ins hA
    refine ⟨_, rfl, t, dx, _, rfl, h1, tfs_no _ _ (by decide +kernel) (by decide +kernel), t, n, rs, 0, rfl, hA, hT.toRoadsOk, n12, by omega, by omega, fun d1 H1 hd1 s1 hF => ?_⟩
    replace hA := hA.same s1
    generalize hfw : walked n rs 0 = f at gr flen12 hF
    intro d2 hd2
    have s2 := Same.new (o := .dK []) hd2
    have hd22 : upd H1 d2 (.dK []) d2 = some (.dK (tkK (tk []))) := upd_same
    refine of_gName ?_
    generalize upd H1 d2 (.dK []) = H2 at s2 hd22 ⊢
    refine ⟨Nat.zero_le _, fun l3 hl3 => ?_⟩
    have s3 := s2.trans (Same.new (o := .lst []) hl3)
    have hd23 := keepN (u := .lst []) hd22 hl3
    have hl33 : upd H2 l3 (.lst []) l3 = some (.lst ((isOf []).map V.int)) := upd_same
    refine of_gName ?_
    generalize upd H2 l3 (.lst []) = H3 at s3 hd23 hl33 ⊢
    refine ⟨Nat.zero_le _, fun l4 hl4 => ?_⟩
    have s4 := s3.trans (Same.new (o := .lst []) hl4)
    have hd24 := keepN (u := .lst []) hd23 hl4
    have hl34 := keepN (u := .lst []) hl33 hl4
    have hl44 : upd H3 l4 (.lst []) l4 = some (.lst ((psOf []).map V.int)) := upd_same
    have f2 : H1 d2 = none := hd2
    have f3 : H1 l3 = none := s2.free hl3
    have f4 : H1 l4 = none := s3.free hl4
    have n23 : d2 ≠ l3 := ne_of_none hd22 hl3
    have n24 : d2 ≠ l4 := ne_of_none hd23 hl4
    have n34 : l3 ≠ l4 := ne_of_none hl33 hl4
    refine of_gName ?_
    generalize upd H3 l4 (.lst []) = H4 at s4 hd24 hl34 hl44 ⊢
    obtain ⟨kvs, hk1, hk2⟩ := id hF
    refine ⟨_, rfl, d1, kvs, rfl, s4 _ _ hk1, fun q hq => ?_⟩
    rw [keysV hk2]
    have s5 := s4.trans (Same.new (o := .lst ((keys f).map V.int)) hq)
    have hd25 := keepN (u := .lst ((keys f).map V.int)) hd24 hq
    have hl35 := keepN (u := .lst ((keys f).map V.int)) hl34 hq
    have hl45 := keepN (u := .lst ((keys f).map V.int)) hl44 hq
    have hq5 : upd H4 q (.lst ((keys f).map V.int)) q = some (.lst ((keys f).map V.int)) := upd_same
    have nq2 : q ≠ d2 := (ne_of_none hd24 hq).symm
    have nq3 : q ≠ l3 := (ne_of_none hl34 hq).symm
    have nq4 : q ≠ l4 := (ne_of_none hl44 hq).symm
    generalize upd H4 q (.lst ((keys f).map V.int)) = H5 at s5 hd25 hl35 hl45 hq5 ⊢
    have klen : (keys f).length = f.length := by simp [keys]
    refine ⟨q, (keys f).map V.int, rfl, SqL.of hq5, RT.for_Itv (K := K) (a := q) (xs := (keys f).map V.int) (fun i σ' H' => ∃ (ms : List Mt) (v5 v6 : Option V), σ' = [some (.ref t), some (.ref d1), some (.ref d2), some (.ref l3), some (.ref l4), v5, v6] ∧ Same H1 H' ∧ H' q = some (.lst ((keys f).map V.int)) ∧
      H' d2 = some (.dK (tkK (tk ms))) ∧ H' l3 = some (.lst ((isOf ms).map V.int)) ∧ H' l4 = some (.lst ((psOf ms).map V.int)) ∧ ms = ((keys f).reverse.take i).foldl (pstep f rs) []) ⟨[], none, none, rfl, s5, hq5, hd25, hl35, hl45, rfl⟩
      (fun i σ' H' ⟨_, _, _, _, _, e, _⟩ => SqL.of e) ?_ ?_⟩
    · rintro i x σ' H6 hi hx ⟨ms, v5, v6, rfl, s6, hq6, hd6, hl36, hl46, hms⟩
      rw [List.length_map] at hi hx
      rw [List.getElem?_map] at hx
      obtain ⟨v, hv, rfl⟩ := Option.map_eq_some_iff.mp hx
      have hrev : (keys f).reverse[i]? = some v := by rw [List.getElem?_reverse hi]; exact hv
      have hms' : ((keys f).reverse.take (i + 1)).foldl (pstep f rs) [] = pstep f rs ms v := by
        rw [List.take_add_one, hrev, List.foldl_append, ← hms]; rfl
      have mlen : ms.length ≤ 12 := by
        have := pgo_len f rs ((keys f).reverse.take i) []
        rw [← hms, List.length_take, List.length_reverse] at this
        simp at this
        omega
      have tlen := tk_len ms
      have hvk : v ∈ keys f := List.mem_of_getElem? hv
      obtain ⟨⟨pp, dd⟩, hlk⟩ : ∃ y, f.lookup v = some y := Option.isSome_iff_exists.mp (lookup_isSome_iff.mpr hvk)
      have epar : parOf f v = pp := by unfold parOf; rw [hlk]; rfl
      obtain ⟨tt, hg, ht⟩ := found_get (hF.same s6) hlk
      refine ⟨_, rfl, _, rfl, d1, _, rfl, hg, tt, _, 0, _, rfl, rfl, SqT.of ht, rfl, ?_⟩
      have adj : 0 ≤ pp → ∃ l, Adj rs pp v l ∧ v ≠ pp := by
        intro h
        have hv0 : v ≠ 0 := fun e => by
          rw [e, gr.look_start] at hlk
          injection hlk with hlk
          injection hlk with e1 _
          omega
        obtain ⟨p', l, h2, _, h3⟩ := gr.entry v hvk hv0
        rw [hlk] at h2
        injection h2 with h2
        injection h2 with e1 _
        subst e1
        exact ⟨l, h3, (h3.range hT.toRoadsOk).2.2.2.2.1.symm⟩
      refine st_if (ans_and2 (ans_ge (n := pp) (val_var rfl) rfl) (ans_and2 (ans_dno (v := v) (d := d2) (val_var rfl) (val_var rfl) hd6) (ans_dno (v := pp) (d := d2) (val_var rfl) (val_var rfl) hd6))) (fun c => ?_) (fun c => ?_)
      · rw [Bool.and_eq_true, Bool.and_eq_true, decide_eq_true_eq, Bool.not_eq_true', Bool.not_eq_true', decide_eq_false_iff_not, decide_eq_false_iff_not] at c
        obtain ⟨c0, cv, cp⟩ := c
        obtain ⟨l, adj, hne⟩ := adj c0
        have e1 : pstep f rs ms v = ms ++ [⟨v, pp, roadIx rs v pp⟩] := by
          unfold pstep
          rw [epar, if_pos ⟨c0, cv, cp⟩]
        have cp2 : pp ∉ tk ms ++ [v] := by simp [cp]; exact fun e => hne e.symm
        have put1 : putK (tkK (tk ms)) (Sum.inl v) (.bl true) = tkK (tk ms ++ [v]) := by rw [putK_new _ (tkK_none cv)]; simp [tkK]
        have put2 : putK (tkK (tk ms ++ [v])) (Sum.inl pp) (.bl true) = tkK (tk (ms ++ [⟨v, pp, roadIx rs v pp⟩])) := by rw [putK_new _ (tkK_none cp2), tk_snoc]; simp [tkK]
        refine ⟨_, rfl, _, rfl, d2, _, rfl, DPut.k (k := Sum.inl v) hd6 (szl (by simp [tkK]; omega)), ?_⟩
        rw [put1]
        have hd7 : upd H6 d2 (.dK (tkK (tk ms ++ [v]))) d2 = some (.dK (tkK (tk ms ++ [v]))) := upd_same
        have s7 : Same H1 (upd H6 d2 (.dK (tkK (tk ms ++ [v])))) := Same.mut s6 f2
        have hq7 : upd H6 d2 (.dK (tkK (tk ms ++ [v]))) q = _ := (upd_ne nq2).trans hq6
        have hl37 : upd H6 d2 (.dK (tkK (tk ms ++ [v]))) l3 = _ := (upd_ne n23.symm).trans hl36
        have hl47 : upd H6 d2 (.dK (tkK (tk ms ++ [v]))) l4 = _ := (upd_ne n24.symm).trans hl46
        generalize upd H6 d2 (.dK (tkK (tk ms ++ [v]))) = H7 at hd7 s7 hq7 hl37 hl47 ⊢
        refine ⟨_, rfl, _, rfl, d2, _, rfl, DPut.k (k := Sum.inl pp) hd7 (szl (by simp [tkK]; omega)), ?_⟩
        rw [put2]
        have hd8 : upd H7 d2 (.dK (tkK (tk (ms ++ [⟨v, pp, roadIx rs v pp⟩])))) d2 = some (.dK (tkK (tk (ms ++ [⟨v, pp, roadIx rs v pp⟩])))) := upd_same
        have s8 : Same H1 (upd H7 d2 (.dK (tkK (tk (ms ++ [⟨v, pp, roadIx rs v pp⟩]))))) := Same.mut s7 f2
        have hq8 : upd H7 d2 (.dK (tkK (tk (ms ++ [⟨v, pp, roadIx rs v pp⟩])))) q = _ := (upd_ne nq2).trans hq7
        have hl38 : upd H7 d2 (.dK (tkK (tk (ms ++ [⟨v, pp, roadIx rs v pp⟩])))) l3 = _ := (upd_ne n23.symm).trans hl37
        have hl48 : upd H7 d2 (.dK (tkK (tk (ms ++ [⟨v, pp, roadIx rs v pp⟩])))) l4 = _ := (upd_ne n24.symm).trans hl47
        generalize upd H7 d2 (.dK (tkK (tk (ms ++ [⟨v, pp, roadIx rs v pp⟩])))) = H8 at hd8 s8 hq8 hl38 hl48 ⊢
        refine ⟨_, rfl, .inl ⟨rfl, _, SqL.of hl48⟩, _, rfl, l4, _, _, rfl, rfl, hl48, (by rw [List.length_map]; simp only [psOf, List.length_map]; exact szl (by omega)), ?_⟩
        have e4 : (psOf ms).map V.int ++ [V.int pp] = (psOf (ms ++ [⟨v, pp, roadIx rs v pp⟩])).map V.int := by simp [psOf]
        rw [e4]
        have hl49 : upd H8 l4 (.lst ((psOf (ms ++ [⟨v, pp, roadIx rs v pp⟩])).map V.int)) l4 = some (.lst ((psOf (ms ++ [⟨v, pp, roadIx rs v pp⟩])).map V.int)) := upd_same
        have s9 : Same H1 (upd H8 l4 (.lst ((psOf (ms ++ [⟨v, pp, roadIx rs v pp⟩])).map V.int))) := Same.mut s8 f4
        have hq9 : upd H8 l4 (.lst ((psOf (ms ++ [⟨v, pp, roadIx rs v pp⟩])).map V.int)) q = _ := (upd_ne nq4).trans hq8
        have hl39 : upd H8 l4 (.lst ((psOf (ms ++ [⟨v, pp, roadIx rs v pp⟩])).map V.int)) l3 = _ := (upd_ne n34).trans hl38
        have hd9 : upd H8 l4 (.lst ((psOf (ms ++ [⟨v, pp, roadIx rs v pp⟩])).map V.int)) d2 = _ := (upd_ne n24).trans hd8
        generalize upd H8 l4 (.lst ((psOf (ms ++ [⟨v, pp, roadIx rs v pp⟩])).map V.int)) = H9 at hl49 s9 hq9 hl39 hd9 ⊢
        refine ⟨_, rfl, .inl ⟨rfl, _, SqL.of hl39⟩, _, rfl, _, rfl, _, rfl, t, n, rs, v, pp, l, rfl, hA.same s9, hT, adj, fun H10 s10 => ?_⟩
        have hl310 := s10 _ _ hl39
        refine ⟨l3, _, _, rfl, rfl, hl310, (by rw [List.length_map]; simp only [isOf, List.length_map]; exact szl (by omega)), ?_⟩
        refine ⟨pstep f rs ms v, _, _, rfl, Same.mut (s9.trans s10) f3, ?_, ?_, ?_, ?_, hms'.symm⟩
        · rw [upd_ne nq3]; exact s10 _ _ hq9
        · rw [upd_ne n23, e1]; exact s10 _ _ hd9
        · rw [upd_same, e1]; simp [isOf]
        · rw [upd_ne n34.symm, e1]; exact s10 _ _ hl49
      · have e1 : pstep f rs ms v = ms := by
          unfold pstep
          rw [epar]
          refine if_neg fun ⟨c0, cv, cp⟩ => ?_
          rw [decide_eq_true c0, decide_eq_false cv, decide_eq_false cp] at c
          cases c
        exact ⟨ms, _, _, rfl, s6, hq6, hd6, hl36, hl46, by rw [hms', e1]⟩
    · rintro σ' H6 ⟨ms, v5, v6, rfl, s6, hq6, hd6, hl36, hl46, hms⟩
      rw [List.length_map, List.take_of_length_le (by rw [List.length_reverse]; exact Nat.le_refl _)] at hms
      have hpo : ms = pairsOf n rs := by unfold pairsOf pgo; rw [hfw]; exact hms
      subst hpo
      have mlen : (pairsOf n rs).length ≤ 12 := by
        have := pgo_len f rs (keys f).reverse []
        rw [← hms, List.length_reverse] at this
        simp at this
        omega
      refine ⟨_, rfl, l3, isOf (pairsOf n rs), rfl, .inl (SqL.of hl36), fun ps q1 pm1 or1 hq1 => ?_⟩
      have s7 := s6.trans (Same.new (o := .lst (ps.map V.int)) hq1)
      have hl47 := keepN (u := .lst (ps.map V.int)) hl46 hq1
      have hq17 : upd H6 q1 (.lst (ps.map V.int)) q1 = some (.lst (ps.map V.int)) := upd_same
      generalize upd H6 q1 (.lst (ps.map V.int)) = H7 at s7 hl47 hq17 ⊢
      refine ⟨_, rfl, l4, psOf (pairsOf n rs), rfl, .inl (SqL.of hl47), fun qs q2 pm2 or2 hq2 => ?_⟩
      have s8 := s7.trans (Same.new (o := .lst (qs.map V.int)) hq2)
      have hq18 := keepN (u := .lst (qs.map V.int)) hq17 hq2
      have hq28 : upd H7 q2 (.lst (qs.map V.int)) q2 = some (.lst (qs.map V.int)) := upd_same
      generalize upd H7 q2 (.lst (qs.map V.int)) = H8 at s8 hq18 hq28 ⊢
      have good := good_pairs hT pm1 pm2
      refine fun p dx hp hdx hne => ?_
      have s23 : Same H8 (upd (upd H8 dx (.own p)) p (.ins C dx [])) := fun b o e => by
        rw [upd_ne (ne_of_none e hp), upd_ne (ne_of_none e hdx)]; exact e
      refine ⟨p, q1, q2, dx, ps, qs, rfl, upd_same, s23 _ _ hq18, s23 _ _ hq28, fun H9 z1 z2 kp hz1 hz2 hAns => ⟨rfl, ?_⟩⟩
      have s9 : Same H8 H9 := fun b o e => kp b o (s23 b o e) (ne_of_none e hp)
      have s19 := s1.trans s8
      refine k p z1 z2 ps qs H9 (s19.free hp) (s19.free ?_) (s19.free ?_) (s19.trans s9) hAns good (rising_of or1 good.pn) (rising_of or2 good.qn)
      · exact s23.free hz1
      · exact s23.free hz2
end
end Wr

namespace Wr
open PySem L2
section
variable {P : Program} {w : World} {K : PySem.W.Frag} {mg : Str → Option Value} {base : Heap}
def spLawShown : Sp := fun vs H Q _ => ∃ (t l l1 l2 : Addr) (m : Int) (ps qs : List Int) (n : Nat) (rs : List Road), vs = [.ref t, .ref l1, .ref l2, .int m] ∧ ToldAt H t l n rs ∧ IsTree n rs ∧ H l1 = some (.lst (ps.map V.int)) ∧ H l2 = some (.lst (qs.map V.int)) ∧ ps.length ≤ 100 ∧ qs.length ≤ 100 ∧ (∀ i ∈ ps, 0 ≤ i ∧ i < rs.length) ∧
  ∀ H', Same H H' → Q (.bl (shownV rs ps qs m)) H'
-- slots: 0:_law_told_here, 1:_law_pairs, 2:_law_posts*, 3:_law_many, 4:_law_ends, 5:_law_at, 6:_law_one, 7:_law_other, 8:_law_length
theorem sc_law_shown : FnScope ["_law_told_here", "_law_pairs", "_law_posts", "_law_many", "_law_ends", "_law_at", "_law_one", "_law_other", "_law_length"] ["_law_told_here", "_law_pairs", "_law_posts", "_law_many"] (defScope S_law_shown) := ⟨rfl, rfl, rfl, by decide +kernel, rfl, by decide +kernel, by decide +kernel⟩
theorem ok_law_shown {f : Addr} {fd : FuncData} (F : Fun K "_law_shown" "_law_shown" S_law_shown f fd) (B : Bi mg) : FnOk P w K mg base CX0 1 f fd ["_law_told_here", "_law_pairs", "_law_posts", "_law_many"] spLawShown := by
  refine F.ok sc_law_shown (fun vs H Q E h => ?_) (fun cdv A outer s H vs Q E hr h => ?_)
  · obtain ⟨t, l, l1, l2, m, ps, qs, n, rs, rfl, _⟩ := h
    rfl
  · obtain ⟨t, l, l1, l2, m, ps, qs, n, rs, rfl, ⟨us, hT, hL, hR⟩, tree, h1, h2, lp, lq, hpr, k⟩ := h
    have nd := sc_law_shown.nd
    have n12 := tree.le
    have nlen := tree.len
    refine ⟨_, (pss_cons (ps_if (PW.pt (pw_or (pt_cmpR op_ne (pv 3) (pe_callB call_len_seq (by rfl) B.len (by decide +kernel) (pa_cons (pv 1) pa_nil)) (nomark _)) (pw_or1 (pt_cmpR op_ne (pv 3) (pe_callB call_len_seq (by rfl) B.len (by decide +kernel) (pa_cons (pv 2) pa_nil)) (nomark _)))))
    (pss_one (ps_ret pe_bl)) pss_nil)
    (pss_cons (ps_set (i := 4) nd rfl (Or.inl rfl) (pe_lst pa_nil))
    (pss_cons (ps_for PassesOwn.never rfl (pi_list (pv 1)) (pg_name (i := 5) nd rfl (Or.inl rfl))
    (pss_one (ps_expr (pe_bm PySem.F.plainAttrs_list PySem.F.slot_list_extend PySem.F.type_list_extend (mt_extendT K) (pv 4) (pa_cons (pe_slice sl_tup (pe_ix ix_list (pe_ix ix_tup (pv 0) pe_int (fun _ _ => rfl)) (pv 5) (fun _ _ => rfl)) po_none (po_some pe_int)) pa_nil)))))
    (pss_cons (ps_if (pt_cmpR op_lt (pe_lenSetA K (by rfl) B.len (by rfl) B.set (pv 4)) (pe_callB call_len_seq (by rfl) B.len (by decide +kernel) (pa_cons (pv 4) pa_nil)) (nomark _))
    (pss_one (ps_ret pe_bl)) pss_nil)
    (pss_one (ps_ret (pe_callB (cr_allK K rfl) (by rfl) B.all (by decide +kernel) (pa_cons (pe_lc (own := [("_law_one", 6), ("_law_other", 7), ("_law_length", 8)]) (tt := tYes) rfl nd (pi_list (pe_ix ix_tup (pv 0) pe_int (fun _ _ => rfl))) (blkOk_by (N := ["_law_told_here", "_law_pairs", "_law_posts", "_law_many", "_law_ends", "_law_at", "_law_one", "_law_other", "_law_length"]) (sc := defScope S_law_shown) (by decide +kernel)) (fun _ _ _ _ _ => (pg_tupK K (n := 3) rfl (pgs_cons (pg_name (i := 6) nd rfl (Or.inl rfl)) (pgs_cons (pg_name (i := 7) nd rfl (Or.inl rfl)) (pgs_cons (pg_name (i := 8) nd rfl (Or.inl rfl)) pgs_nil))))) (fun _ _ _ _ _ => pts_nil) (fun _ _ _ _ _ => (pe_or (pe_cmpR (op_inK K) (pv 6) (pv 2) rfl) (pe_one (pe_cmpR (op_inK K) (pv 7) (pv 2) rfl))))) pa_nil)))))))), ?_⟩
    refine ⟨_, rfl, _, rfl, l1, _, rfl, .inl (SqL.of h1), rfl, _, rfl, ?_⟩
    rw [List.length_map]
    unfold shownV at k
    by_cases c1 : m = ps.length
    · rw [decide_eq_true c1, Bool.true_and] at k
      rw [decide_eq_true (show V.int m = V.int ((ps.length : Nat) : Int) by rw [c1])]
      refine iteF ?_
      refine ⟨_, rfl, _, rfl, l2, _, rfl, .inl (SqL.of h2), rfl, _, rfl, ?_⟩
      rw [List.length_map]
      by_cases c2 : m = qs.length
      · rw [decide_eq_true c2, Bool.true_and] at k
        rw [decide_eq_true (show V.int m = V.int ((qs.length : Nat) : Int) by rw [c2])]
        refine iteF ?_
        refine ⟨Nat.zero_le _, fun e he => ?_⟩
        have s1 := Same.new (o := .lst []) he
        have he1 : upd H e (.lst []) e = some (.lst ((endsV rs (ps.take 0)).map V.int)) := upd_same
        refine of_gName ?_
        generalize upd H e (.lst []) = H1 at s1 he1 ⊢
        refine ⟨_, rfl, l1, rfl, ⟨_, SqL.of (s1 _ _ h1)⟩, for_list (K := K) (a := l1) (xs := ps.map V.int) (fun i σ' H' => ∃ v5, σ' = [some (.ref t), some (.ref l1), some (.ref l2), some (.int m), some (.ref e), v5, none, none, none] ∧ Same H H' ∧ H' e = some (.lst ((endsV rs (ps.take i)).map V.int)))
          ⟨none, rfl, s1, he1⟩ (fun i σ' H' _ ⟨_, _, s', _⟩ => SqL.of (s' _ _ h1)) ?_ ?_⟩
        · rintro i x σ' H2 hx ⟨v5, rfl, s2, he2⟩
          rw [List.getElem?_map] at hx
          obtain ⟨y, hy, rfl⟩ := Option.map_eq_some_iff.mp hx
          have yr := hpr y (List.mem_of_getElem? hy)
          obtain ⟨rd, hrd⟩ : ∃ rd, rs[y.toNat]? = some rd := ⟨_, List.getElem?_eq_getElem (by omega)⟩
          obtain ⟨tr, d1, d2⟩ := told_at hR hrd
          have hat : atI us y = some (.ref tr) := by
            have := atI_nat d1
            rwa [show ((y.toNat : Nat) : Int) = y by omega] at this
          have hi : i < ps.length := by
            obtain ⟨hi, -⟩ := List.getElem?_eq_some_iff.mp hy
            exact hi
          refine ⟨_, rfl, .inl ⟨rfl, _, SqL.of he2⟩, _, rfl, t, _, 1, _, rfl, rfl, SqT.of (s2 _ _ hT), rfl, _, rfl, l, us, y, _, rfl, rfl, SqL.of (s2 _ _ hL), hat, _, rfl, tr, _, rfl, SqT.of (s2 _ _ d2), (show ¬ ((0 : Nat) = 0 ∧ (2 : Nat) = 3) by decide), fun q hq => ?_⟩
          have s3 := s2.trans (Same.new (o := .tup (cutV [.int rd.a, .int rd.b, .int rd.l] none (some 2))) hq)
          have he3 := keepN (u := .tup (cutV [.int rd.a, .int rd.b, .int rd.l] none (some 2))) he2 hq
          have hq3 : upd H2 q (.tup (cutV [.int rd.a, .int rd.b, .int rd.l] none (some 2))) q = some (.tup ([rd.a, rd.b].map V.int)) := upd_same
          generalize upd H2 q (.tup (cutV [.int rd.a, .int rd.b, .int rd.l] none (some 2))) = H3 at s3 he3 hq3 ⊢
          have hl := endsV_len rs (ps.take i)
          rw [List.length_take] at hl
          refine ⟨e, q, _, _, rfl, rfl, he3, SqT.of hq3, (by simp only [List.length_map, List.length_cons, List.length_nil]; omega), ?_⟩
          refine ⟨_, rfl, Same.mut s3 he, ?_⟩
          rw [upd_same, endsV_snoc hy hrd, List.map_append]
        · rintro σ' H2 ⟨v5, rfl, s2, he2⟩
          rw [List.length_map, List.take_length] at he2
          have hl := endsV_len rs ps
          refine ⟨_, rfl, e, _, rfl, SqL.of he2, by omega, _, rfl, e, _, rfl, .inl (SqL.of he2), _, _, rfl, rfl, _, rfl, ?_⟩
          rw [List.length_map]
          by_cases c3 : (endsV rs ps).Nodup
          · rw [decide_eq_true c3, Bool.true_and] at k
            rw [decide_eq_false (by
              have := fun q => (distinct_iff (endsV rs ps)).mp q c3
              intro hlt
              exact this (by omega))]
            refine iteF ?_
            refine of_next (of_ret (of_cb1 (lc_at (Itl K l) (fun R hR => ⟨_, rfl, t, _, 1, _, rfl, rfl, SqT.of (s2 _ _ hT), rfl, l, rfl, ⟨_, SqL.of (s2 _ _ hL)⟩, hR⟩) ?_)))
            have ulen := hR.length
            refine lcl (d := (⟨0, 0, 0⟩ : Road)) (RoadAt H2) (hR.same s2) (SqL.of (s2 _ _ hL)) (by omega) (fun _ => true) (fun r => .bl (decide (r.a ∈ qs) || decide (r.b ∈ qs))) (fun z v' hz hE H4 s4 Yes No hyes hno => ?_) (fun D' H4 hD' s4 hD4 => ?_)
            · obtain ⟨tz, rfl, htz⟩ := hE
              have htz4 := s4 _ _ htz
              have hq4 := s4 _ _ (s2 _ _ h2)
              refine ⟨tz, _, rfl, SqT.of htz4, rfl, _, _, rfl, _, _, rfl, _, _, rfl, rfl, ?_⟩
              refine ⟨rfl, ?_⟩
              show (if true = true then _ else No H4)
              rw [if_pos rfl]
              refine ⟨_, rfl, _, rfl, l2, _, rfl, .inl (SqL.of hq4), rfl, flat_ints _, _, rfl, ?_⟩
              rw [inV_ints]
              have hy := hyes rfl H4 (Same.refl _)
              by_cases ca : z.a ∈ qs
              · rw [decide_eq_true ca]
                refine iteT ?_
                rw [decide_eq_true ca, Bool.true_or] at hy
                exact hy
              · rw [decide_eq_false ca]
                refine iteF ?_
                rw [decide_eq_false ca, Bool.false_or] at hy
                refine ⟨_, rfl, _, rfl, l2, _, rfl, .inl (SqL.of hq4), rfl, flat_ints _, ?_⟩
                rw [inV_ints]
                exact hy
            · have ee : ((rs.filter fun _ => true).map fun r => V.bl (decide (r.a ∈ qs) || decide (r.b ∈ qs))) = (rs.map fun r => decide (r.a ∈ qs) || decide (r.b ∈ qs)).map V.bl := by
                rw [List.filter_eq_self.mpr fun _ _ => rfl, List.map_map]; rfl
              rw [ee] at hD4
              refine ⟨D', _, rfl, SqL.of hD4, ?_⟩
              rw [List.all_map]
              exact k H4 (s2.trans s4)
          · rw [decide_eq_false c3, Bool.false_and] at k
            rw [decide_eq_true (by
              have := (distinct_iff (endsV rs ps)).mpr c3
              omega)]
            exact iteT (k H2 s2)
      · rw [decide_eq_false c2, Bool.false_and] at k
        rw [decide_eq_false (show ¬ V.int m = V.int ((qs.length : Nat) : Int) by intro e; injection e with e; exact c2 e)]
        exact iteT (k H (Same.refl _))
    · rw [decide_eq_false c1, Bool.false_and] at k
      rw [decide_eq_false (show ¬ V.int m = V.int ((ps.length : Nat) : Int) by intro e; injection e with e; exact c1 e)]
      exact iteT (iteT (k H (Same.refl _)))
def spRising : Sp := fun vs H Q _ => ∃ (l : Addr) (m : Int) (xs : List Int), vs = [.ref l, .int m] ∧ H l = some (.lst (xs.map V.int)) ∧ xs.Pairwise (· < ·) ∧ (∀ x ∈ xs, 0 ≤ x ∧ x < m) ∧ Q (.bl true) H
-- slots: 0:_law_some, 1:_law_many, 2:_law_last, 3:_law_one
theorem sc_law_rising : FnScope ["_law_some", "_law_many", "_law_last", "_law_one"] ["_law_some", "_law_many"] (defScope S_law_rising) := ⟨rfl, rfl, rfl, by decide +kernel, rfl, by decide +kernel, by decide +kernel⟩
theorem ok_rising {f : Addr} {fd : FuncData} (F : Fun K "_law_rising" "_law_rising" S_law_rising f fd) (B : Bi mg) : FnOk P w K mg base CX0 1 f fd ["_law_some", "_law_many"] spRising := by
  refine F.ok sc_law_rising (fun vs H Q E h => ?_) (fun cdv A outer s H vs Q E hr h => ?_)
  · obtain ⟨l, m, xs, rfl, _⟩ := h
    rfl
  · obtain ⟨l, m, xs, rfl, hL, hup, hrg, k⟩ := h
    have nd := sc_law_rising.nd
    refine ⟨_, (pss_cons (ps_if (pt_not (pt_val (pe_callB call_isi (by rfl) B.isinstance (by decide +kernel) (pa_cons (pv 0) (pa_cons (pe_bltn (v := .ty "list") (by rfl) B.list (by decide +kernel) rfl) pa_nil)))))
    (pss_one (ps_ret pe_bl)) pss_nil)
    (pss_cons (ps_set (i := 2) nd rfl (Or.inl rfl) (pe_un un_neg pe_int))
    (pss_cons (ps_for PassesOwn.never rfl (pi_list (pv 0)) (pg_name (i := 3) nd rfl (Or.inl rfl))
    (pss_cons (ps_if (PW.pt (pw_or (pt_val (pe_callB call_isi (by rfl) B.isinstance (by decide +kernel) (pa_cons (pv 3) (pa_cons (pe_bltn (v := .ty "bool") (by rfl) B.bool (by decide +kernel) rfl) pa_nil)))) (pw_or (pt_not (pt_val (pe_callB call_isi (by rfl) B.isinstance (by decide +kernel) (pa_cons (pv 3) (pa_cons (pe_bltn (v := .ty "int") (by rfl) B.int (by decide +kernel) rfl) pa_nil))))) (pw_or1 (pt_not (pt_chain op_lt op_lt (pv 2) (pv 3) (pv 1)))))))
    (pss_one (ps_ret pe_bl)) pss_nil)
    (pss_one (ps_set (i := 2) nd rfl (Or.inl rfl) (pv 3)))))
    (pss_one (ps_ret pe_bl))))), ?_⟩
    refine ⟨_, rfl, .ref l, _, .type "list", _, true, rfl, .ty _, .base (.lst hL), kit_ty (by decide +kernel), true, rfl, ?_⟩
    refine iteF ?_
    refine ⟨1, rfl, ?_⟩
    refine ⟨_, rfl, l, rfl, ⟨_, SqL.of hL⟩, for_list (K := K) (a := l) (xs := xs.map V.int) (fun i σ' H' => H' = H ∧ ∃ (z : Int) (v3 : Option V), σ' = [some (.ref l), some (.int m), some (.int z), v3] ∧ ∀ x ∈ xs.drop i, z < x) ⟨rfl, -1, none, rfl, fun x hx => by have := hrg x (List.mem_of_mem_drop hx); omega⟩ (fun i σ' H' _ ⟨e, _⟩ => by rw [e]; exact SqL.of hL) ?_ ?_⟩
    · rintro i x σ' H' hx ⟨rfl, z, v3, rfl, hz⟩
      rw [List.getElem?_map] at hx
      obtain ⟨y, hy, rfl⟩ := Option.map_eq_some_iff.mp hx
      obtain ⟨hi, e⟩ := List.getElem?_eq_some_iff.mp hy
      have hd : xs.drop i = y :: xs.drop (i + 1) := by rw [List.drop_eq_getElem_cons hi, e]
      have hzy := hz y (by rw [hd]; exact List.mem_cons_self ..)
      have hym := hrg y (List.mem_of_getElem? hy)
      have hnext : ∀ x ∈ xs.drop (i + 1), y < x := by
        have hp : (xs.drop i).Pairwise (· < ·) := List.Pairwise.sublist (List.drop_sublist ..) hup
        rw [hd] at hp
        exact (List.pairwise_cons.mp hp).1
      refine ⟨_, rfl, .int y, _, .type "int", _, false, rfl, .ty _, .base (.int _), kit_ty (show kitB "int" "bool" = some false by decide +kernel), false, rfl, ?_⟩
      refine iteF ?_
      refine ⟨_, rfl, .int y, _, .type "int", _, true, rfl, .ty _, .base (.int _), kit_ty (show kitB "int" "int" = some true by decide +kernel), true, rfl, ?_⟩
      refine iteF ?_
      refine ⟨_, rfl, _, rfl, _, _, rfl, rfl, _, rfl, ?_⟩
      rw [decide_eq_true hzy]
      refine iteT ⟨_, rfl, _, _, rfl, rfl, _, rfl, ?_⟩
      rw [decide_eq_true hym.2]
      refine iteF ?_
      exact ⟨_, rfl, rfl, y, _, rfl, hnext⟩
    · rintro σ' H' ⟨rfl, z, v3, rfl, hz⟩
      exact k
def spSays (C CT : Addr) : Sp := fun vs H Q _ => ∃ (a t : Addr) (m : Int) (l1 l2 : Addr) (ps qs : List Int) (n : Nat) (rs : List Road), vs = [.ref a, .ref t, .int m, .bl (shownV rs ps qs m)] ∧ AnsAt C "pairs" "posts" H a l1 l2 ps qs ∧ TreeAt CT H t n rs ∧ IsTree n rs ∧ ps.length ≤ 100 ∧ qs.length ≤ 100 ∧ (∀ i ∈ ps, 0 ≤ i ∧ i < rs.length) ∧
  ∀ H', Same H H' → Q (.bl true) H'
-- slots: 0:_law_answer, 1:_law_tree, 2:_law_many, 3:_law_due, 4:_law_shown_here
theorem sc_law_says : FnScope ["_law_answer", "_law_tree", "_law_many", "_law_due", "_law_shown_here"] ["_law_answer", "_law_tree", "_law_many", "_law_due"] (defScope S_law_says) := ⟨rfl, rfl, rfl, by decide +kernel, rfl, by decide +kernel, by decide +kernel⟩
theorem ok_says {f C CT : Addr} {fd : FuncData} (F : Fun K "_law_says" "_law_says" S_law_says f fd) (O : Ox K C "pairs" "posts") (B : Bi mg) (GM_shows : Gm P w K mg base C 1 "shows" ["self", "tree", "number"] (spShows C CT)) : FnOk P w K mg base CX0 2 f fd ["_law_answer", "_law_tree", "_law_many", "_law_due"] (spSays C CT) := by
  refine F.ok sc_law_says (fun vs H Q E h => ?_) (fun cdv A outer s H vs Q E hr h => ?_)
  · obtain ⟨a, t, m, l1, l2, ps, qs, n, rs, rfl, _⟩ := h
    rfl
  · obtain ⟨a, t, m, l1, l2, ps, qs, n, rs, rfl, hO, hA, hT, lp, lq, hpr, k⟩ := h
    have nd := sc_law_says.nd
    refine ⟨_, (pss_cons (ps_set (i := 4) nd rfl (Or.inl rfl) (pe_gm (pv 0) O.cl GM_shows hr (pa_cons (pv 1) (pa_cons (pv 2) pa_nil))))
    (pss_one (ps_ret (pe_and (pe_callB call_isi (by rfl) B.isinstance (by decide +kernel) (pa_cons (pv 4) (pa_cons (pe_bltn (v := .ty "bool") (by rfl) B.bool (by decide +kernel) rfl) pa_nil))) (pe_one (pe_cmpR op_eq (pv 4) (pv 3) (nomark _))))))), ?_⟩
    obtain ⟨dx, hI⟩ := hO.ins
    refine ⟨_, rfl, a, dx, _, rfl, hI, ofs_no _ _ (by decide +kernel) (by decide +kernel), _, rfl, _, rfl, a, t, m, l1, l2, ps, qs, n, rs, rfl, hO, hA, hT, lp, lq, hpr, fun H1 s1 => ?_⟩
    refine ⟨_, rfl, .bl (shownV rs ps qs m), _, .type "bool", _, true, rfl, .ty _, .base (.bl _), kit_ty (show kitB "bool" "bool" = some true by decide +kernel), true, rfl, ?_⟩
    refine iteT ?_
    refine ⟨_, rfl, _, rfl, rfl, ?_⟩
    rw [decide_eq_true rfl]
    exact k H1 s1
end
end Wr

namespace Wr
open PySem L2
section
variable {P : Program} {w : World} {K : PySem.W.Frag} {mg : Str → Option Value} {base : Heap}
theorem map_erase (xs : List Int) : ∀ k : Nat, (xs.map V.int).eraseIdx k = (xs.eraseIdx k).map V.int := by
  induction xs with
  | nil => intro k; rfl
  | cons x xs ih =>
    intro k
    cases k with
    | zero => rfl
    | succ k => simp only [List.map_cons, List.eraseIdx_cons_succ, ih]
theorem ix_in {n : Nat} {i : Int} (h0 : 0 ≤ i) (h1 : i < n) : ixN n i = some i.toNat := by
  unfold ixN
  rw [if_pos h0, if_pos (by omega)]
theorem at_in {xs : List Int} {i : Int} (h0 : 0 ≤ i) (h1 : i < xs.length) : ∃ v, xs[i.toNat]? = some v ∧ atI (xs.map V.int) i = some (.int v) := by
  refine ⟨_, List.getElem?_eq_getElem (show i.toNat < xs.length by omega), ?_⟩
  unfold atI
  rw [List.length_map, ix_in h0 h1]
  show (xs.map V.int)[i.toNat]? = _
  rw [List.getElem?_map, List.getElem?_eq_getElem (show i.toNat < xs.length by omega)]
  rfl
def InR (m : Int) (ys : List Int) : Prop := ∀ y ∈ ys, 0 ≤ y ∧ y < m
def spBent : Sp := fun vs H Q _ => ∃ (l : Addr) (c m : Int) (xs : List Int), vs = [.ref l, .int c, .int m] ∧ H l = some (.lst (xs.map V.int)) ∧ xs.length ≤ 12 ∧ 0 ≤ m ∧ InR m xs ∧
  ∀ q ys H', H q = none → Same H H' → H' q = some (.lst (ys.map V.int)) → InR m ys → ys.length ≤ 13 → Q (.ref q) H'
-- slots: 0:_law_some, 1:_law_cell, 2:_law_many, 3:_law_made
theorem sc_law_bent : FnScope ["_law_some", "_law_cell", "_law_many", "_law_made"] ["_law_some", "_law_cell", "_law_many"] (defScope S_law_bent) := ⟨rfl, rfl, rfl, by decide +kernel, rfl, by decide +kernel, by decide +kernel⟩
theorem ok_bent {f : Addr} {fd : FuncData} (F : Fun K "_law_bent" "_law_bent" S_law_bent f fd) (B : Bi mg) : FnOk P w K mg base CX0 1 f fd ["_law_some", "_law_cell", "_law_many"] spBent := by
  refine F.ok sc_law_bent (fun vs H Q E h => ?_) (fun cdv A outer s H vs Q E hr h => ?_)
  · obtain ⟨l, c, m, xs, rfl, _⟩ := h
    rfl
  · obtain ⟨l, c, m, xs, rfl, hL, hl, hm, hx, k⟩ := h
    have nd := sc_law_bent.nd
    refine ⟨_, (pss_cons (ps_set (i := 3) nd rfl (Or.inl rfl) (pe_callTy call_list_of (by rfl) B.list (by decide +kernel) (pa_cons (pv 0) pa_nil)))
    (C8.pss_cut (ps_if (PW.pt (pw_and (pt_cmpR op_eq (pe_op op_mod (pv 1) pe_int) pe_int (nomark _)) (pw_and1 (pt_cmpR op_gt (pv 2) pe_int (nomark _)))))
    (pss_one (ps_expr (pe_bm PySem.F.plainAttrs_list PySem.F.slot_list_append PySem.F.type_list_append mt_append (pv 3) (pa_cons (pe_op op_mod (pe_op op_fdiv (pv 1) pe_int) (pv 2)) pa_nil)))) pss_nil)
    (C8.pss_cut (ps_if (PW.pt (pw_and (pt_cmpR op_eq (pe_op op_mod (pv 1) pe_int) pe_int (nomark _)) (pw_and1 (pt_cmpR (op_neD hr.units) (pv 3) (pe_lst pa_nil) (nomark _)))))
    (pss_one (ps_expr (pe_bm PySem.F.plainAttrs_list PySem.F.slot_list_pop PySem.F.type_list_pop mt_popAt (pv 3) (pa_cons (pe_op op_mod (pe_op op_fdiv (pv 1) pe_int) (pe_callB call_len_seq (by rfl) B.len (by decide +kernel) (pa_cons (pv 3) pa_nil))) pa_nil)))) pss_nil)
    (C8.pss_cut (ps_if (PW.pt (pw_and (pt_cmpR op_eq (pe_op op_mod (pv 1) pe_int) pe_int (nomark _)) (pw_and1 (pt_cmpR (op_neD hr.units) (pv 3) (pe_lst pa_nil) (nomark _)))))
    (pss_one (ps_asg (pe_op op_mod (pe_op op_fdiv (pv 1) pe_int) (pv 2)) (pg_sub (pv 3) (pe_op op_mod (pe_op op_fdiv (pv 1) pe_int) (pe_callB call_len_seq (by rfl) B.len (by decide +kernel) (pa_cons (pv 3) pa_nil))) set_list))) pss_nil)
    (pss_one (ps_ret (pe_revL (pv 3)))))))), ?_⟩
    refine ⟨_, rfl, l, _, rfl, .inl (SqL.of hL), fun p hp => ?_⟩
    have s1 := Same.new (o := .lst (xs.map V.int)) hp
    have hp1 : upd H p (.lst (xs.map V.int)) p = some (.lst (xs.map V.int)) := upd_same
    refine of_gName ?_
    generalize upd H p (.lst (xs.map V.int)) = H1 at s1 hp1 ⊢
    obtain ⟨Mid, hMid⟩ : ∃ Mid : St → Hp → Prop, Mid = fun σ' H' => ∃ ys : List Int, σ' = [some (.ref l), some (.int c), some (.int m), some (.ref p)] ∧ Same H H' ∧ H' p = some (.lst (ys.map V.int)) ∧ InR m ys ∧ ys.length ≤ 13 := ⟨_, rfl⟩
    refine ⟨fun σ' H' => ∃ ys : List Int, σ' = [some (.ref l), some (.int c), some (.int m), some (.ref p)] ∧ Same H H' ∧ H' p = some (.lst (ys.map V.int)) ∧ InR m ys ∧ ys.length ≤ 13, ?_, ?_⟩
    · have v1 : Val (tOp (rI (fun x j => 0 < j) fun i j => .int (i % j)) (tVar 1) (tC (.int 4))) [some (.ref l), some (.int c), some (.int m), some (.ref p)] H1 (.int (c % 4)) := fun Q q => ⟨_, rfl, _, _, rfl, rfl, (by show (0 : Int) < 4; decide), q⟩
      refine st_if (ans_and2 (val_eqi v1 val_c) (ans_gt (n := m) (val_var rfl) rfl)) (fun h => ?_) (fun h => ?_)
      · rw [Bool.and_eq_true, decide_eq_true_eq, decide_eq_true_eq] at h
        have b1 : 0 ≤ c / 4 % m := Int.emod_nonneg _ (by omega)
        have b2 : c / 4 % m < m := Int.emod_lt_of_pos _ h.2
        refine ⟨_, rfl, .inl ⟨rfl, _, SqL.of hp1⟩, _, rfl, _, _, rfl, rfl, ⟨by decide, by decide⟩, _, rfl, _, _, rfl, rfl, h.2, p, _, _, rfl, rfl, hp1, (by rw [List.length_map]; exact szl (by omega)), ?_⟩
        refine ⟨xs ++ [c / 4 % m], rfl, Same.mut s1 hp, by rw [upd_same, List.map_append]; rfl, fun y hy => ?_, by simp; omega⟩
        rcases List.mem_append.1 hy with hy | hy
        · exact hx y hy
        · rw [List.mem_singleton] at hy
          subst hy
          exact ⟨b1, b2⟩
      · exact ⟨xs, rfl, s1, hp1, hx, by omega⟩
    rintro σ' H2 ⟨ys, rfl, s2, hp2, hy, ly⟩
    refine ⟨fun σ' H' => ∃ ys : List Int, σ' = [some (.ref l), some (.int c), some (.int m), some (.ref p)] ∧ Same H H' ∧ H' p = some (.lst (ys.map V.int)) ∧ InR m ys ∧ ys.length ≤ 13, ?_, ?_⟩
    · refine ⟨_, rfl, _, _, rfl, rfl, (by show (0 : Int) < 4; decide), rfl, _, rfl, ?_⟩
      rw [dec_int]
      by_cases c1 : c % 4 = 2
      · rw [show (c % 4 == 2) = true by simpa using c1]
        refine iteT ?_
        refine ⟨_, rfl, Nat.zero_le _, fun q hq => ⟨_, _, dp_ilist (keepN hp2 hq), dp_ilist (ns := []) upd_same, shaped_ints _, shaped_ints _, _, rfl, ?_⟩⟩
        rw [eqv_il]
        have s3 := s2.trans (Same.new (o := .lst []) hq)
        have hp3 := keepN (u := .lst []) hp2 hq
        show (if (!decide (ys = [])) = true then _ else _)
        generalize upd H2 q (.lst []) = H3 at s3 hp3 ⊢
        by_cases c2 : ys = []
        · rw [decide_eq_true c2]
          refine iteF ?_
          exact ⟨ys, rfl, s3, hp3, hy, ly⟩
        · rw [decide_eq_false c2]
          refine iteT ?_
          have lpos : (0 : Int) < ((ys.map V.int).length : Nat) := by rw [List.length_map]; have := List.length_pos_iff.mpr c2; omega
          have b1 : 0 ≤ c / 4 % (((ys.map V.int).length : Nat) : Int) := Int.emod_nonneg _ (by omega)
          have b2 : c / 4 % (((ys.map V.int).length : Nat) : Int) < (ys.map V.int).length := Int.emod_lt_of_pos _ lpos
          have ln : (ys.map V.int).length = ys.length := List.length_map ..
          obtain ⟨v, hv, hat⟩ := at_in (xs := ys) b1 (by omega)
          obtain ⟨j, j1, j2, j3, _⟩ := atI_get hat
          refine ⟨_, rfl, .inl ⟨rfl, _, SqL.of hp3⟩, _, rfl, _, _, rfl, rfl, ⟨by decide, by decide⟩, _, rfl, p, _, rfl, .inl (SqL.of hp3), _, _, rfl, rfl, lpos, p, _, _, j, _, rfl, rfl, hp3, (by omega), (by omega), j1, j2, ?_⟩
          refine ⟨ys.eraseIdx j, rfl, Same.mut s3 hp, by rw [upd_same, map_erase], fun y h => hy y (List.mem_of_mem_eraseIdx h), ?_⟩
          exact Nat.le_trans (List.length_eraseIdx_le ..) ly
      · rw [show (c % 4 == 2) = false by simpa using c1]
        refine iteF (iteF ?_)
        exact ⟨ys, rfl, s2, hp2, hy, ly⟩
    clear hy ly hp2 s2 ys
    rintro σ' H2 ⟨ys, rfl, s2, hp2, hy, ly⟩
    refine ⟨fun σ' H' => ∃ ys : List Int, σ' = [some (.ref l), some (.int c), some (.int m), some (.ref p)] ∧ Same H H' ∧ H' p = some (.lst (ys.map V.int)) ∧ InR m ys ∧ ys.length ≤ 13, ?_, ?_⟩
    · refine ⟨_, rfl, _, _, rfl, rfl, (by show (0 : Int) < 4; decide), rfl, _, rfl, ?_⟩
      rw [dec_int]
      by_cases c1 : c % 4 = 3
      · rw [show (c % 4 == 3) = true by simpa using c1]
        refine iteT ?_
        refine ⟨_, rfl, Nat.zero_le _, fun q hq => ⟨_, _, dp_ilist (keepN hp2 hq), dp_ilist (ns := []) upd_same, shaped_ints _, shaped_ints _, _, rfl, ?_⟩⟩
        rw [eqv_il]
        have s3 := s2.trans (Same.new (o := .lst []) hq)
        have hp3 := keepN (u := .lst []) hp2 hq
        show (if (!decide (ys = [])) = true then _ else _)
        generalize upd H2 q (.lst []) = H3 at s3 hp3 ⊢
        by_cases c2 : ys = []
        · rw [decide_eq_true c2]
          refine iteF ?_
          exact ⟨ys, rfl, s3, hp3, hy, ly⟩
        · rw [decide_eq_false c2]
          refine iteT ?_
          have lpos : (0 : Int) < ((ys.map V.int).length : Nat) := by rw [List.length_map]; have := List.length_pos_iff.mpr c2; omega
          have b1 : 0 ≤ c / 4 % (((ys.map V.int).length : Nat) : Int) := Int.emod_nonneg _ (by omega)
          have b2 : c / 4 % (((ys.map V.int).length : Nat) : Int) < (ys.map V.int).length := Int.emod_lt_of_pos _ lpos
          have mpos : 0 < m := by
            obtain ⟨y, hy0⟩ := List.exists_mem_of_ne_nil _ c2
            have := hy y hy0
            omega
          have d1 : 0 ≤ c / 16 % m := Int.emod_nonneg _ (by omega)
          have d2 : c / 16 % m < m := Int.emod_lt_of_pos _ mpos
          refine ⟨_, rfl, _, _, rfl, rfl, ⟨by decide, by decide⟩, _, rfl, _, _, rfl, rfl, mpos, _, rfl, _, rfl, _, _, rfl, rfl, ⟨by decide, by decide⟩, _, rfl, p, _, rfl, .inl (SqL.of hp3), _, _, rfl, rfl, lpos, p, _, _, _, rfl, rfl, hp3, ix_in b1 b2, ?_⟩
          refine ⟨ys.set (c / 4 % (((ys.map V.int).length : Nat) : Int)).toNat (c / 16 % m), rfl, Same.mut s3 hp, by rw [upd_same, List.map_set], fun y h => ?_, by rw [List.length_set]; exact ly⟩
          rcases List.mem_or_eq_of_mem_set h with h | h
          · exact hy y h
          · subst h; exact ⟨d1, d2⟩
      · rw [show (c % 4 == 3) = false by simpa using c1]
        refine iteF (iteF ?_)
        exact ⟨ys, rfl, s2, hp2, hy, ly⟩
    clear hy ly hp2 s2 ys
    rintro σ' H2 ⟨ys, rfl, s2, hp2, hy, ly⟩
    refine ⟨_, rfl, p, _, rfl, SqL.of hp2, fun q hq => ?_⟩
    refine k q ys.reverse _ (s2.free hq) (s2.trans (Same.new hq)) ?_ (fun y h => hy y (List.mem_reverse.mp h)) (by rw [List.length_reverse]; exact ly)
    rw [upd_same, List.map_reverse]
end
end Wr

namespace Wr
open PySem L2
section
variable {P : Program} {w : World} {K : PySem.W.Frag} {mg : Str → Option Value} {base : Heap}
theorem map_setV (xs : List Int) (j : Nat) (v : Int) : (xs.map V.int).set j (.int v) = (xs.set j v).map V.int := by rw [List.map_set]
def spChanged (C CT : Addr) : Sp := fun vs H Q _ => ∃ (t l tr fo l1 l2 : Addr) (more : Int) (n : Nat) (rs : List Road) (ps qs : List Int), vs = [.ref t, .ref tr, .ref fo, .int more] ∧ ToldAt H t l n rs ∧ TreeAt CT H tr n rs ∧ IsTree n rs ∧ AnsAt C "pairs" "posts" H fo l1 l2 ps qs ∧ ps.length = qs.length ∧ ps.length ≤ 50 ∧
  (∀ i ∈ ps, 0 ≤ i ∧ i < rs.length) ∧ ∀ H', Same H H' → Q (.bl true) H'
-- slots: 0:_law_told_here, 1:_law_tree, 2:_law_found, 3:_law_more, 4:_law_made, 5:_law_many
theorem sc_law_changed_right : FnScope ["_law_told_here", "_law_tree", "_law_found", "_law_more", "_law_made", "_law_many"] ["_law_told_here", "_law_tree", "_law_found", "_law_more"] (defScope S_law_changed_right) := ⟨rfl, rfl, rfl, by decide +kernel, rfl, by decide +kernel, by decide +kernel⟩
theorem ok_changed {f C CT : Addr} {fd : FuncData} (F : Fun K "_law_changed_right" "_law_changed_right" S_law_changed_right f fd) (O : Ox K C "pairs" "posts") (B : Bi mg) (GC_Posts : Gc P w K mg base C 1 "Posts" ["self", "pairs", "posts"] (spCopy C "pairs" "posts"))
    (G_law_says : Gd P w K mg base 2 "_law_says" ["_law_answer", "_law_tree", "_law_many", "_law_due"] (spSays C CT)) (G_law_shown : Gd P w K mg base 1 "_law_shown" ["_law_told_here", "_law_pairs", "_law_posts", "_law_many"] spLawShown) :
    FnOk P w K mg base CX0 3 f fd ["_law_told_here", "_law_tree", "_law_found", "_law_more"] (spChanged C CT) := by
  refine F.ok sc_law_changed_right (fun vs H Q E h => ?_) (fun cdv A outer s H vs Q E hr h => ?_)
  · obtain ⟨t, l, tr, fo, l1, l2, more, n, rs, ps, qs, rfl, _⟩ := h
    rfl
  · obtain ⟨t, l, tr, fo, l1, l2, more, n, rs, ps, qs, rfl, hTo, hA, tree, hO, hlen, h50, hpr, k⟩ := h
    have nd := sc_law_changed_right.nd
    refine ⟨_, (pss_cons (ps_par (i := 4) (j := 5) rfl nd rfl rfl (by decide) rfl rfl (pa_cons (pe_gc GC_Posts hr rfl (pa_cons (pe_fld (pv 2) rfl) (pa_cons (pe_fld (pv 2) rfl) pa_nil))) (pa_cons (pe_callB call_len_seq (by rfl) B.len (by decide +kernel) (pa_cons (pe_fld (pv 2) rfl) pa_nil)) pa_nil)) (by rfl))
    (C8.pss_cut (ps_if (pt_cmpR op_gt (pv 5) pe_int (nomark _))
    (pss_cons (ps_asg (pv 3) (pg_sub (pe_fld (pv 4) rfl) pe_int set_list))
    (pss_cons (ps_if (pt_not (pt_val (pe_g G_law_says hr rfl (pa_cons (pv 4) (pa_cons (pv 1) (pa_cons (pv 5) (pa_cons (pe_g G_law_shown hr rfl (pa_cons (pv 0) (pa_cons (pe_fld (pv 4) rfl) (pa_cons (pe_fld (pv 4) rfl) (pa_cons (pv 5) pa_nil))))) pa_nil)))))))
    (pss_one (ps_ret pe_bl)) pss_nil)
    (pss_cons (ps_asg (pe_ix ix_list (pe_fld (pv 2) rfl) pe_int (fun _ _ => rfl)) (pg_sub (pe_fld (pv 4) rfl) pe_int set_list))
    (pss_cons (ps_asg (pe_ix ix_list (pe_fld (pv 4) rfl) (pe_un un_neg pe_int) (fun _ _ => rfl)) (pg_sub (pe_fld (pv 4) rfl) pe_int set_list))
    (pss_cons (ps_if (pt_not (pt_val (pe_g G_law_says hr rfl (pa_cons (pv 4) (pa_cons (pv 1) (pa_cons (pv 5) (pa_cons (pe_g G_law_shown hr rfl (pa_cons (pv 0) (pa_cons (pe_fld (pv 4) rfl) (pa_cons (pe_fld (pv 4) rfl) (pa_cons (pv 5) pa_nil))))) pa_nil)))))))
    (pss_one (ps_ret pe_bl)) pss_nil)
    (pss_cons (ps_expr (pe_bm0 PySem.F.plainAttrs_list PySem.F.slot_list_pop PySem.F.type_list_pop mt_pop (pe_fld (pv 4) rfl)))
    (pss_cons (ps_expr (pe_bm0 PySem.F.plainAttrs_list PySem.F.slot_list_pop PySem.F.type_list_pop mt_pop (pe_fld (pv 4) rfl)))
    (pss_one (ps_if (pt_not (pt_val (pe_g G_law_says hr rfl (pa_cons (pv 4) (pa_cons (pv 1) (pa_cons (pe_op op_sub (pv 5) pe_int) (pa_cons (pe_g G_law_shown hr rfl (pa_cons (pv 0) (pa_cons (pe_fld (pv 4) rfl) (pa_cons (pe_fld (pv 4) rfl) (pa_cons (pe_op op_sub (pv 5) pe_int) pa_nil))))) pa_nil)))))))
    (pss_one (ps_ret pe_bl)) pss_nil))))))))) pss_nil)
    (pss_cons (ps_expr (pe_bm0 PySem.F.plainAttrs_list PySem.F.slot_list_clear PySem.F.type_list_clear mt_clear (pe_fld (pv 4) rfl)))
    (pss_cons (ps_expr (pe_bm0 PySem.F.plainAttrs_list PySem.F.slot_list_clear PySem.F.type_list_clear mt_clear (pe_fld (pv 4) rfl)))
    (pss_one (ps_ret (pe_g G_law_says hr rfl (pa_cons (pv 4) (pa_cons (pv 1) (pa_cons pe_int (pa_cons (pe_cmpR (op_eqD hr.units) (pe_ix ix_tup (pv 0) pe_int (fun _ _ => rfl)) (pe_lst pa_nil) (nomark _)) pa_nil))))))))))), ?_⟩
    obtain ⟨dx0, hI0⟩ := hO.ins
    refine ⟨_, rfl, fo, C, dx0, _, _, rfl, hI0, O.cl, O.n1, ofs_1 _ _ _ _, _, rfl, fo, C, dx0, _, _, rfl, hI0, O.cl, O.n2, ofs_2 _ _ O.ne, fun p dx hp hdx hne => ?_⟩
    have s23 : Same H (upd (upd H dx (.own p)) p (.ins C dx [])) := fun b o e => by
      rw [upd_ne (ne_of_none e hp), upd_ne (ne_of_none e hdx)]; exact e
    refine ⟨p, l1, l2, dx, ps, qs, rfl, upd_same, s23 _ _ hO.h1, s23 _ _ hO.h2, fun H1 z1 z2 kp hz1 hz2 hM => ⟨rfl, ?_⟩⟩
    have s1 : Same H H1 := fun b o e => kp b o (s23 b o e) (ne_of_none e hp)
    have f1 : H z1 = none := s23.free hz1
    have f2 : H z2 = none := s23.free hz2
    refine ⟨_, rfl, fo, C, dx0, _, _, rfl, s1 _ _ hI0, O.cl, O.n1, ofs_1 _ _ _ _, l1, _, rfl, .inl (SqL.of (s1 _ _ hO.h1)), _, _, rfl, ?_⟩
    rw [List.length_map]
    clear kp s23 hz1 hz2
    obtain ⟨m, hm⟩ : ∃ m : Int, m = ((ps.length : Nat) : Int) := ⟨_, rfl⟩
    refine of_nx ?_
    refine ⟨fun σ' H' => ∃ ps' qs', σ' = [some (.ref t), some (.ref tr), some (.ref fo), some (.int more), some (.ref p), some (.int m)] ∧ Same H H' ∧ AnsAt C "pairs" "posts" H' p z1 z2 ps' qs', ?_, ?_⟩
    · rw [← hm]
      refine ⟨_, rfl, _, _, rfl, rfl, _, rfl, ?_⟩
      by_cases c : 0 < m
      · rw [decide_eq_true c]
        refine iteT ?_
        have lp : 0 < ps.length := by omega
        have lq : 0 < qs.length := by omega
        -- posts[0] = more
        obtain ⟨dxp, hI1⟩ := hM.ins
        refine ⟨_, rfl, _, rfl, p, C, dxp, _, _, rfl, hI1, O.cl, O.n2, ofs_2 _ _ O.ne, z2, _, _, _, rfl, rfl, hM.h2, ix_in (by decide) (by rw [List.length_map]; omega), ?_⟩
        rw [map_setV]
        have s2 := Same.mut (o := .lst ((qs.set (Int.toNat 0) more).map V.int)) s1 f2
        have hM2 := hM.set2 (qs.set (Int.toNat 0) more)
        refine of_nx ?_
        show tSeq _ _ _ _ (upd H1 z2 (.lst ((qs.set (Int.toNat 0) more).map V.int)))
        generalize upd H1 z2 (.lst ((qs.set (Int.toNat 0) more).map V.int)) = H2 at s2 hM2 ⊢
        obtain ⟨dxq, hI2⟩ := hM2.ins
        refine ⟨_, rfl, _, rfl, _, rfl, _, rfl, _, rfl, p, C, dxq, _, _, rfl, hI2, O.cl, O.n1, ofs_1 _ _ _ _, _, rfl, p, C, dxq, _, _, rfl, hI2, O.cl, O.n2, ofs_2 _ _ O.ne, _, rfl, t, l, z1, z2, m, _, _, n, rs, rfl, hTo.same s2, tree, hM2.h1, hM2.h2, by omega, by rw [List.length_set]; omega, hpr, fun H3 s3 => ?_⟩
        refine ⟨p, tr, m, z1, z2, _, _, n, rs, rfl, hM2.same s3, (hA.same s2).same s3, tree, by omega, by rw [List.length_set]; omega, hpr, fun H4 s4 => ⟨_, rfl, ?_⟩⟩
        refine iteF ?_
        replace hM2 := (hM2.same s3).same s4
        have s24 := s2.trans (s3.trans s4)
        -- posts[0] = found.posts[0]
        obtain ⟨q0, hq0, hat⟩ := at_in (xs := qs) (i := 0) (by decide) (by omega)
        obtain ⟨dxr, hI4⟩ := hM2.ins
        refine ⟨_, rfl, fo, C, dx0, _, _, rfl, s24 _ _ hI0, O.cl, O.n2, ofs_2 _ _ O.ne, l2, _, 0, _, rfl, rfl, SqL.of (s24 _ _ hO.h2), hat, _, rfl, p, C, dxr, _, _, rfl, hI4, O.cl, O.n2, ofs_2 _ _ O.ne, z2, _, _, _, rfl, rfl, hM2.h2, ix_in (by decide) (by rw [List.length_map, List.length_set]; omega), ?_⟩
        rw [map_setV]
        generalize hq' : (qs.set (Int.toNat 0) more).set (Int.toNat 0) q0 = qs'
        have lq' : qs'.length = qs.length := by rw [← hq', List.length_set, List.length_set]
        have s5 := Same.mut (o := .lst (qs'.map V.int)) s24 f2
        have hM5 := hM2.set2 qs'
        refine of_nx ?_
        show tSeq _ _ _ _ (upd H4 z2 (.lst (qs'.map V.int)))
        generalize upd H4 z2 (.lst (qs'.map V.int)) = H5 at s5 hM5 ⊢
        clear s2 s3 s4 s24 hM2 hI2 hI4 hI1 hM s1
        -- pairs[0] = pairs[-1]
        obtain ⟨ys, y, hys⟩ : ∃ ys y, ps = ys ++ [y] := by
          rcases List.eq_nil_or_concat ps with e | ⟨ys, y, e⟩
          · rw [e] at lp; simp at lp
          · exact ⟨ys, y, by rw [e]; simp⟩
        have hlast : atI (ps.map V.int) (-1) = some (.int y) := by rw [hys, List.map_append]; exact atI_last _ _
        have yr := hpr y (by rw [hys]; simp)
        obtain ⟨dx5, hI5⟩ := hM5.ins
        refine ⟨_, rfl, p, C, dx5, _, _, rfl, hI5, O.cl, O.n1, ofs_1 _ _ _ _, 1, rfl, z1, _, _, _, rfl, rfl, SqL.of hM5.h1, hlast, _, rfl, p, C, dx5, _, _, rfl, hI5, O.cl, O.n1, ofs_1 _ _ _ _, z1, _, _, _, rfl, rfl, hM5.h1, ix_in (by decide) (by rw [List.length_map]; omega), ?_⟩
        rw [map_setV]
        generalize hp' : ps.set (Int.toNat 0) y = ps'
        have lp' : ps'.length = ps.length := by rw [← hp', List.length_set]
        have hpr' : ∀ i ∈ ps', 0 ≤ i ∧ i < rs.length := by
          intro i hi
          rw [← hp'] at hi
          rcases List.mem_or_eq_of_mem_set hi with h | h
          · exact hpr i h
          · subst h; exact yr
        have s6 := Same.mut (o := .lst (ps'.map V.int)) s5 f1
        have hM6 := hM5.set1 ps'
        refine of_nx ?_
        show tSeq _ _ _ _ (upd H5 z1 (.lst (ps'.map V.int)))
        generalize upd H5 z1 (.lst (ps'.map V.int)) = H6 at s6 hM6 ⊢
        obtain ⟨dx6, hI6⟩ := hM6.ins
        refine ⟨_, rfl, _, rfl, _, rfl, _, rfl, _, rfl, p, C, dx6, _, _, rfl, hI6, O.cl, O.n1, ofs_1 _ _ _ _, _, rfl, p, C, dx6, _, _, rfl, hI6, O.cl, O.n2, ofs_2 _ _ O.ne, _, rfl, t, l, z1, z2, m, _, _, n, rs, rfl, hTo.same s6, tree, hM6.h1, hM6.h2, by omega, by omega, hpr', fun H7 s7 => ?_⟩
        refine ⟨p, tr, m, z1, z2, _, _, n, rs, rfl, hM6.same s7, (hA.same s6).same s7, tree, by omega, by omega, hpr', fun H8 s8 => ⟨_, rfl, ?_⟩⟩
        refine iteF ?_
        replace hM6 := (hM6.same s7).same s8
        have s68 := s6.trans (s7.trans s8)
        clear s6 s7 s8 hI6 hM5 hI5 s5
        -- pops
        obtain ⟨dx8, hI8⟩ := hM6.ins
        have g1 : ∃ v, (ps'.map V.int)[(ps'.map V.int).length - 1]? = some v := ⟨_, List.getElem?_eq_getElem (by rw [List.length_map]; omega)⟩
        obtain ⟨v1, hv1⟩ := g1
        refine ⟨_, rfl, p, C, dx8, _, _, rfl, hI8, O.cl, O.n1, ofs_1 _ _ _ _, .inl ⟨rfl, _, SqL.of hM6.h1⟩, z1, _, _, rfl, rfl, hM6.h1, hv1, ?_⟩
        rw [← List.map_dropLast]
        have s9 := Same.mut (o := .lst (ps'.dropLast.map V.int)) s68 f1
        have hM9 := hM6.set1 ps'.dropLast
        refine of_nx ?_
        show tSeq _ _ _ _ (upd H8 z1 (.lst (ps'.dropLast.map V.int)))
        generalize upd H8 z1 (.lst (ps'.dropLast.map V.int)) = H9 at s9 hM9 ⊢
        obtain ⟨dx9, hI9⟩ := hM9.ins
        have g2 : ∃ v, (qs'.map V.int)[(qs'.map V.int).length - 1]? = some v := ⟨_, List.getElem?_eq_getElem (by rw [List.length_map]; omega)⟩
        obtain ⟨v2, hv2⟩ := g2
        refine ⟨_, rfl, p, C, dx9, _, _, rfl, hI9, O.cl, O.n2, ofs_2 _ _ O.ne, .inl ⟨rfl, _, SqL.of hM9.h2⟩, z2, _, _, rfl, rfl, hM9.h2, hv2, ?_⟩
        rw [← List.map_dropLast]
        have s10 := Same.mut (o := .lst (qs'.dropLast.map V.int)) s9 f2
        have hM10 := hM9.set2 qs'.dropLast
        refine of_nx ?_
        generalize upd H9 z2 (.lst (qs'.dropLast.map V.int)) = H10 at s10 hM10 ⊢
        obtain ⟨dx10, hI10⟩ := hM10.ins
        have hpr2 : ∀ i ∈ ps'.dropLast, 0 ≤ i ∧ i < rs.length := fun i hi => hpr' i (List.dropLast_subset _ hi)
        refine ⟨_, rfl, _, rfl, _, rfl, _, _, rfl, rfl, _, rfl, _, rfl, p, C, dx10, _, _, rfl, hI10, O.cl, O.n1, ofs_1 _ _ _ _, _, rfl, p, C, dx10, _, _, rfl, hI10, O.cl, O.n2, ofs_2 _ _ O.ne, _, rfl, _, _, rfl, rfl, t, l, z1, z2, m - 1, _, _, n, rs, rfl, hTo.same s10, tree, hM10.h1, hM10.h2, by rw [List.length_dropLast]; omega, by rw [List.length_dropLast]; omega, hpr2, fun H11 s11 => ?_⟩
        refine ⟨p, tr, m - 1, z1, z2, _, _, n, rs, rfl, hM10.same s11, (hA.same s10).same s11, tree, by rw [List.length_dropLast]; omega, by rw [List.length_dropLast]; omega, hpr2, fun H12 s12 => ⟨_, rfl, ?_⟩⟩
        refine iteF ?_
        exact ⟨_, _, rfl, s10.trans (s11.trans s12), (hM10.same s11).same s12⟩
      · rw [decide_eq_false c]
        refine iteF ?_
        exact ⟨ps, qs, rfl, s1, hM⟩
    clear hM s1
    rintro σ' H2 ⟨ps', qs', rfl, s2, hM⟩
    obtain ⟨dx2, hI2⟩ := hM.ins
    refine ⟨_, rfl, p, C, dx2, _, _, rfl, hI2, O.cl, O.n1, ofs_1 _ _ _ _, .inl ⟨rfl, _, SqL.of hM.h1⟩, z1, _, rfl, rfl, hM.h1, ?_⟩
    have s3 := Same.mut (o := .lst (([] : List Int).map V.int)) s2 f1
    have hM3 := hM.set1 []
    refine of_nx ?_
    show tSeq _ _ _ _ (upd H2 z1 (.lst (([] : List Int).map V.int)))
    generalize upd H2 z1 (.lst (([] : List Int).map V.int)) = H3 at s3 hM3 ⊢
    obtain ⟨dx3, hI3⟩ := hM3.ins
    refine ⟨_, rfl, p, C, dx3, _, _, rfl, hI3, O.cl, O.n2, ofs_2 _ _ O.ne, .inl ⟨rfl, _, SqL.of hM3.h2⟩, z2, _, rfl, rfl, hM3.h2, ?_⟩
    have s4 := Same.mut (o := .lst (([] : List Int).map V.int)) s3 f2
    have hM4 := hM3.set2 []
    refine of_nx ?_
    show tRet _ _ _ (upd H3 z2 (.lst (([] : List Int).map V.int)))
    generalize upd H3 z2 (.lst (([] : List Int).map V.int)) = H4 at s4 hM4 ⊢
    obtain ⟨us, hT, hL, hR⟩ := hTo.same s4
    refine ⟨_, rfl, _, rfl, _, rfl, t, _, 1, _, rfl, rfl, SqT.of hT, rfl, Nat.zero_le _, fun q hq => ?_⟩
    have s5 := Same.new (o := .lst []) hq
    refine ⟨_, _, .lst (SqL.of (s5 _ _ hL)) (dp_roads (hR.same s5)), .lst (SqL.of upd_same) (dp_roads (rs := []) .nil), shaped_roads _, shaped_roads _, ?_⟩
    rw [eqv_roads, ← shown_none]
    exact ⟨p, tr, 0, z1, z2, [], [], n, rs, rfl, hM4.same s5, (hA.same s4).same s5, tree, by decide, by decide, by simp, fun H5 s6 => k H5 (s4.trans (s5.trans s6))⟩
end
end Wr

namespace Wr
open PySem L2
section
variable {P : Program} {w : World} {K : PySem.W.Frag} {mg : Str → Option Value} {base : Heap}
structure Ix (K : PySem.W.Frag) (C CA CW : Addr) : Prop where
  ha : PySem.W.findIn K (Value.ref C) "__class__" = some (some (Value.builtin "object.__class__"))
  hn : PySem.W.specialIn K (Value.builtin "object.__class__") "__get__" = some (some (Value.builtin "getset_descriptor.__get__"))
  htk : PySem.W.takesIn K (Value.builtin "object.__class__") = some true
  hm : PySem.W.mroIn K C (Value.type "object") = some true
  k1 : PySem.W.kitOne K (.ref C) (.ref C) = some true
  k2 : PySem.W.kitOne K (.ref C) (.ref CA) = some true
  k3 : PySem.W.kitOne K (.ref C) (.ref CW) = some false
theorem paired_rev {α β : Type} {F : α → β → Prop} : ∀ {l : List α} {m : List β}, Paired F l m → Paired F l.reverse m.reverse
  | _, _, .nil => .nil
  | _, _, .cons x r => by
    rw [List.reverse_cons]
    rw [List.reverse_cons]
    exact paired_snoc (paired_rev r) x
def spLaw (K : PySem.W.Frag) : Sp := fun vs H Q _ => ∃ (a : Addr) (ns : List Int), vs = [.ref a] ∧ SqL K H a (ns.map V.int) ∧ ns.length ≤ 63 ∧ ∀ H', Q (.bl true) H'
-- slots: 0:_law_script, 1:_law_told_here, 2:_law_tree, 3:_law_again, 4:_law_found, 5:_law_many, 6:_law_pairs, 7:_law_posts, 8:_law_due, 9:_law_bent_here, 10:_law_back
theorem sc_law : FnScope ["_law_script", "_law_told_here", "_law_tree", "_law_again", "_law_found", "_law_many", "_law_pairs", "_law_posts", "_law_due", "_law_bent_here", "_law_back"] ["_law_script"] (defScope S_law) := ⟨rfl, rfl, rfl, by decide +kernel, rfl, by decide +kernel, by decide +kernel⟩
theorem ok_law {f CT C_Posts C_Answer C_Wells : Addr} {fd : FuncData} (F : Fun K "law" "law" S_law f fd) (B : Bi mg) (T : Tx K mg CT) (O : Ox K C_Posts "pairs" "posts") (I : Ix K C_Posts C_Answer C_Wells)
    (m_Posts : mg "Posts" = some (.ref C_Posts)) (m_Answer : mg "Answer" = some (.ref C_Answer)) (m_Wells : mg "Wells" = some (.ref C_Wells))
    (G_law_told : Gd P w K mg base 2 "_law_told" ["_law_script", "_law_first", "_law_most"] (spTold K)) (GC_Tree : Gc P w K mg base CT 4 "Tree" ["self", "villages", "roads"] (spInit (K := K) CT))
    (G_paired : Gd P w K mg base 3 "paired" ["tree"] (spPaired CT C_Posts)) (G_law_rising : Gd P w K mg base 1 "_law_rising" ["_law_some", "_law_many"] spRising)
    (G_law_shown : Gd P w K mg base 1 "_law_shown" ["_law_told_here", "_law_pairs", "_law_posts", "_law_many"] spLawShown) (GM_shows : Gm P w K mg base C_Posts 1 "shows" ["self", "tree", "number"] (spShows C_Posts CT))
    (G_law_changed_right : Gd P w K mg base 3 "_law_changed_right" ["_law_told_here", "_law_tree", "_law_found", "_law_more"] (spChanged C_Posts CT)) (G_law_cell_at : Gd P w K mg base 1 "_law_cell_at" ["_law_script", "_law_k"] (spCell K))
    (G_law_bent : Gd P w K mg base 1 "_law_bent" ["_law_some", "_law_cell", "_law_many"] spBent) (GC_Posts : Gc P w K mg base C_Posts 1 "Posts" ["self", "pairs", "posts"] (spCopy C_Posts "pairs" "posts"))
    (G_law_says : Gd P w K mg base 2 "_law_says" ["_law_answer", "_law_tree", "_law_many", "_law_due"] (spSays C_Posts CT)) : FnOk P w K mg base CX0 6 f fd ["_law_script"] (spLaw K) := by
  refine F.ok sc_law (fun vs H Q E h => ?_) (fun cdv A outer s H vs Q E hr h => ?_)
  · obtain ⟨a, ns, rfl, _⟩ := h
    rfl
  · obtain ⟨a, ns, rfl, hS, h63, k⟩ := h
    have hu := hu_of hr
    have nd := sc_law.nd
    refine ⟨_, (pss_cons (ps_set (i := 1) nd rfl (Or.inl rfl) (pe_g G_law_told hr rfl (pa_cons (pv 0) (pa_cons pe_int (pa_cons pe_int pa_nil)))))
    (pss_cons (ps_set (i := 2) nd rfl (Or.inl rfl) (pe_gc GC_Tree hr rfl (pa_cons (pe_ix ix_tup (pv 1) pe_int (fun _ _ => rfl)) (pa_cons (pe_ix ix_tup (pv 1) pe_int (fun _ _ => rfl)) pa_nil))))
    (pss_cons (ps_for PassesOwn.never rfl (pi_range1 (by rfl) B.range (pa_cons pe_int pa_nil)) (pg_name (i := 3) nd rfl (Or.inl rfl))
    (pss_cons (ps_set (i := 4) nd rfl (Or.inl rfl) (pe_g G_paired hr rfl (pa_cons (pv 2) pa_nil)))
    (pss_cons (ps_if (PW.pt (pw_or (pt_not (pt_val (pe_callB call_isi (by rfl) B.isinstance (by decide +kernel) (pa_cons (pv 4) (pa_cons (pe_glob (v := .ref C_Posts) rfl m_Posts rfl) pa_nil))))) (pw_or (pt_not (pt_val (pe_callB call_isi (by rfl) B.isinstance (by decide +kernel) (pa_cons (pv 4) (pa_cons (pe_glob (v := .ref C_Answer) rfl m_Answer rfl) pa_nil))))) (pw_or1 (pt_val (pe_callB call_isi (by rfl) B.isinstance (by decide +kernel) (pa_cons (pv 4) (pa_cons (pe_glob (v := .ref C_Wells) rfl m_Wells rfl) pa_nil))))))))
    (pss_one (ps_ret pe_bl)) pss_nil)
    (pss_cons (ps_if (PW.pt (pw_or (pt_not (pt_val (pe_g G_law_rising hr rfl (pa_cons (pe_fld (pv 4) rfl) (pa_cons (pe_op op_sub (pe_ix ix_tup (pv 1) pe_int (fun _ _ => rfl)) pe_int) pa_nil))))) (pw_or1 (pt_not (pt_val (pe_g G_law_rising hr rfl (pa_cons (pe_fld (pv 4) rfl) (pa_cons (pe_ix ix_tup (pv 1) pe_int (fun _ _ => rfl)) pa_nil))))))))
    (pss_one (ps_ret pe_bl)) pss_nil)
    (pss_cons (ps_set (i := 5) nd rfl (Or.inl rfl) (pe_callB call_len_seq (by rfl) B.len (by decide +kernel) (pa_cons (pe_fld (pv 4) rfl) pa_nil)))
    (pss_cons (ps_if (PW.pt (pw_or (pt_not (pt_val (pe_g G_law_shown hr rfl (pa_cons (pv 1) (pa_cons (pe_fld (pv 4) rfl) (pa_cons (pe_fld (pv 4) rfl) (pa_cons (pv 5) pa_nil))))))) (pw_or1 (pt_cmpR op_isnot_bl (pe_gm (pv 4) O.cl GM_shows hr (pa_cons (pv 2) (pa_cons (pv 5) pa_nil))) pe_bl rfl))))
    (pss_one (ps_ret pe_bl)) pss_nil)
    (pss_cons (ps_if (pt_cmpR op_isnot_bl (pe_gm (pv 4) O.cl GM_shows hr (pa_cons (pv 2) (pa_cons (pe_op op_add (pv 5) pe_int) pa_nil))) pe_bl rfl)
    (pss_one (ps_ret pe_bl)) pss_nil)
    (pss_cons (ps_if (pt_not (pt_val (pe_g G_law_changed_right hr rfl (pa_cons (pv 1) (pa_cons (pv 2) (pa_cons (pv 4) (pa_cons (pe_op op_mod (pe_op op_fdiv (pe_g G_law_cell_at hr rfl (pa_cons (pv 0) (pa_cons pe_int pa_nil))) pe_int) (pe_ix ix_tup (pv 1) pe_int (fun _ _ => rfl))) pa_nil)))))))
    (pss_one (ps_ret pe_bl)) pss_nil)
    (pss_cons (ps_set (i := 6) nd rfl (Or.inl rfl) (pe_g G_law_bent hr rfl (pa_cons (pe_fld (pv 4) rfl) (pa_cons (pe_g G_law_cell_at hr rfl (pa_cons (pv 0) (pa_cons pe_int pa_nil))) (pa_cons (pe_op op_sub (pe_ix ix_tup (pv 1) pe_int (fun _ _ => rfl)) pe_int) pa_nil)))))
    (pss_cons (ps_set (i := 7) nd rfl (Or.inl rfl) (pe_g G_law_bent hr rfl (pa_cons (pe_fld (pv 4) rfl) (pa_cons (pe_g G_law_cell_at hr rfl (pa_cons (pv 0) (pa_cons pe_int pa_nil))) (pa_cons (pe_ix ix_tup (pv 1) pe_int (fun _ _ => rfl)) pa_nil)))))
    (pss_cons (ps_set (i := 5) nd rfl (Or.inl rfl) (pe_callB call_len_seq (by rfl) B.len (by decide +kernel) (pa_cons (pe_ix ix_list (pe_lst (pa_cons (pv 6) (pa_cons (pv 7) pa_nil))) (pe_op op_mod (pe_g G_law_cell_at hr rfl (pa_cons (pv 0) (pa_cons pe_int pa_nil))) pe_int) (fun _ _ => rfl)) pa_nil)))
    (pss_cons (ps_set (i := 8) nd rfl (Or.inl rfl) (pe_g G_law_shown hr rfl (pa_cons (pv 1) (pa_cons (pv 6) (pa_cons (pv 7) (pa_cons (pv 5) pa_nil))))))
    (pss_cons (ps_set (i := 9) nd rfl (Or.inl rfl) (pe_gc GC_Posts hr rfl (pa_cons (pv 6) (pa_cons (pv 7) pa_nil))))
    (pss_cons (ps_expr (pe_bm0 PySem.F.plainAttrs_list PySem.F.slot_list_clear PySem.F.type_list_clear mt_clear (pv 6)))
    (pss_cons (ps_expr (pe_bm0 PySem.F.plainAttrs_list PySem.F.slot_list_clear PySem.F.type_list_clear mt_clear (pv 7)))
    (pss_cons (ps_if (pt_not (pt_val (pe_g G_law_says hr rfl (pa_cons (pv 9) (pa_cons (pv 2) (pa_cons (pv 5) (pa_cons (pv 8) pa_nil)))))))
    (pss_one (ps_ret pe_bl)) pss_nil)
    (pss_cons (ps_set (i := 10) nd rfl (Or.inl rfl) (pe_tup (pa_cons (pe_ix ix_tup (pv 1) pe_int (fun _ _ => rfl)) (pa_cons (pe_revL (pe_ix ix_tup (pv 1) pe_int (fun _ _ => rfl))) pa_nil))))
    (pss_cons (ps_set (i := 8) nd rfl (Or.inl rfl) (pe_g G_law_shown hr rfl (pa_cons (pv 10) (pa_cons (pe_fld (pv 9) rfl) (pa_cons (pe_fld (pv 9) rfl) (pa_cons (pv 5) pa_nil))))))
    (pss_cons (ps_if (pt_cmpR op_ne (pe_gm (pv 9) O.cl GM_shows hr (pa_cons (pe_gc GC_Tree hr rfl (pa_cons (pe_ix ix_tup (pv 10) pe_int (fun _ _ => rfl)) (pa_cons (pe_ix ix_tup (pv 10) pe_int (fun _ _ => rfl)) pa_nil))) (pa_cons (pv 5) pa_nil))) (pv 8) (nomark _))
    (pss_one (ps_ret pe_bl)) pss_nil)
    (pss_cons (ps_expr (pe_bm0 PySem.F.plainAttrs_list PySem.F.slot_list_clear PySem.F.type_list_clear mt_clear (pe_fld (pv 4) rfl)))
    (pss_cons (ps_expr (pe_bm0 PySem.F.plainAttrs_list PySem.F.slot_list_clear PySem.F.type_list_clear mt_clear (pe_fld (pv 4) rfl)))
    (pss_one (ps_if (pt_not (pt_val (pe_g G_law_says hr rfl (pa_cons (pv 4) (pa_cons (pv 2) (pa_cons pe_int (pa_cons (pe_cmpR (op_eqD hr.units) (pe_ix ix_tup (pv 1) pe_int (fun _ _ => rfl)) (pe_lst pa_nil) (nomark _)) pa_nil)))))))
    (pss_one (ps_ret pe_bl)) pss_nil)))))))))))))))))))))))
    (pss_one (ps_ret pe_bl))))), ?_⟩
    -- told
    refine ⟨_, rfl, a, ns, 0, 12, rfl, hS, by decide, by decide, fun t l H1 ht0 hl0 s1 hTo => ?_⟩
    have tree := told_tree (cellV ns 0) (cellV ns (0 + 1)) (most := 12) (by decide) (by decide)
    generalize told (cellV ns 0) (cellV ns (0 + 1)) 12 = TT at hTo tree
    obtain ⟨n, rs⟩ := TT
    simp only at hTo tree
    have n1 := tree.pos
    have n12 := tree.le
    have nlen := tree.len
    have npos : (0 : Int) < n := by omega
    obtain ⟨us, hT, hL, hR⟩ := id hTo
    -- tree
    refine ⟨_, rfl, t, _, 0, _, rfl, rfl, SqT.of hT, rfl, _, rfl, t, _, 1, _, rfl, rfl, SqT.of hT, rfl, fun tr dx hp hdx hne => ?_⟩
    have s23 : Same H1 (upd (upd H1 dx (.own tr)) tr (.ins CT dx [])) := fun b o e => by
      rw [upd_ne (ne_of_none e hp), upd_ne (ne_of_none e hdx)]; exact e
    refine ⟨tr, dx, l, n, rs, us, rfl, upd_same, SqL.of (s23 _ _ hL), s23 _ _ hL, hR.same s23, tree, fun H3 kp hTr => ⟨rfl, ?_⟩⟩
    have s3 : Same H1 H3 := fun b o e => kp b o (s23 b o e) (ne_of_none e hp)
    have hA : TreeAt CT H3 tr n rs := hTr.at
    replace hTo := hTo.same s3
    replace hS := (s1.trans s3).seq hS
    clear s23 kp hTr s3 hT hL hR s1 hp hdx hne us
    -- twice
    refine ⟨2, rfl, by decide, by decide, for_range (lo := 0) (n := 2) (fun i σ' H' => ∃ v3 v4 v5 v6 v7 v8 v9 v10, σ' = [some (.ref a), some (.ref t), some (.ref tr), v3, v4, v5, v6, v7, v8, v9, v10] ∧ Same H3 H') ⟨none, none, none, none, none, none, none, none, rfl, Same.refl _⟩ ?_ ?_⟩
    · rintro i σ' H4 hi ⟨v3, v4, v5, v6, v7, v8, v9, v10, rfl, s4⟩
      refine ⟨_, rfl, tr, n, rs, rfl, hA.same s4, tree, fun fo l1 l2 ps qs H5 hf0 hl1 hl2 s5 hO good up1 up2 => ?_⟩
      have f1 : H3 l1 = none := s4.free hl1
      have f2 : H3 l2 = none := s4.free hl2
      have s45 := s4.trans s5
      obtain ⟨dx, hI⟩ := hO.ins
      have ty : TyX K H5 (.ref fo) (.ref C_Posts) := .base (.ins hI O.cl I.ha I.hn I.htk I.hm)
      have plen : ps.length ≤ 12 := by
        have h1 := good.len
        have h2 := List.Nodup.length_le_of_subset good.qn fun x hx => mem_ivs.mpr (good.qr x hx)
        rw [ivs_length] at h2
        omega
      have qlen : qs.length = ps.length := good.len.symm
      refine ⟨_, rfl, .ref fo, _, .ref C_Posts, _, true, rfl, .own _, ty, I.k1, true, rfl, ?_⟩
      refine iteF ?_
      refine ⟨_, rfl, .ref fo, _, .ref C_Posts, _, true, rfl, .own _, ty, I.k2, true, rfl, ?_⟩
      refine iteF ?_
      refine ⟨_, rfl, .ref fo, _, .ref C_Posts, _, false, rfl, .own _, ty, I.k3, false, rfl, ?_⟩
      refine iteF ?_
      obtain ⟨us, hT, hL, hR⟩ := hTo.same s45
      -- rising
      refine ⟨_, rfl, fo, C_Posts, dx, _, _, rfl, hI, O.cl, O.n1, ofs_1 _ _ _ _, _, rfl, t, _, 0, _, rfl, rfl, SqT.of hT, rfl, _, _, rfl, rfl, l1, (n : Int) - 1, ps, rfl, hO.h1, up1, fun x hx => by have := good.pr x hx; omega, _, rfl, ?_⟩
      refine iteF ?_
      refine ⟨_, rfl, fo, C_Posts, dx, _, _, rfl, hI, O.cl, O.n2, ofs_2 _ _ O.ne, _, rfl, t, _, 0, _, rfl, rfl, SqT.of hT, rfl, l2, (n : Int), qs, rfl, hO.h2, up2, fun x hx => good.qr x hx, _, rfl, ?_⟩
      refine iteF ?_
      -- many
      refine ⟨_, rfl, fo, C_Posts, dx, _, _, rfl, hI, O.cl, O.n1, ofs_1 _ _ _ _, l1, _, rfl, .inl (SqL.of hO.h1), ?_⟩
      rw [List.length_map]
      -- shown
      refine ⟨_, rfl, _, rfl, fo, C_Posts, dx, _, _, rfl, hI, O.cl, O.n1, ofs_1 _ _ _ _, _, rfl, fo, C_Posts, dx, _, _, rfl, hI, O.cl, O.n2, ofs_2 _ _ O.ne, _, rfl, t, l, l1, l2, _, ps, qs, n, rs, rfl, hTo.same s45, tree, hO.h1, hO.h2, by omega, by omega, good.pr, fun H6 s6 => ⟨_, rfl, ?_⟩⟩
      rw [good.shown]
      refine iteF ?_
      refine ⟨_, rfl, fo, dx, _, rfl, s6 _ _ hI, ofs_no _ _ (by decide +kernel) (by decide +kernel), _, rfl, _, rfl, fo, tr, _, l1, l2, ps, qs, n, rs, rfl, hO.same s6, (hA.same s45).same s6, tree, by omega, by omega, good.pr, fun H7 s7 => ⟨_, _, rfl, rfl, _, rfl, ?_⟩⟩
      rw [good.shown]
      refine iteF ?_
      replace hO := (hO.same s6).same s7
      have s47 := s45.trans (s6.trans s7)
      replace hI := s7 _ _ (s6 _ _ hI)
      refine ⟨_, rfl, fo, dx, _, rfl, hI, ofs_no _ _ (by decide +kernel) (by decide +kernel), _, rfl, _, rfl, _, _, rfl, rfl, fo, tr, _, l1, l2, ps, qs, n, rs, rfl, hO, hA.same s47, tree, by omega, by omega, good.pr, fun H8 s8 => ⟨_, _, rfl, rfl, _, rfl, ?_⟩⟩
      rw [shown_more]
      refine iteF ?_
      replace hO := hO.same s8
      replace hI := s8 _ _ hI
      have s48 := s47.trans s8
      clear s6 s7 s8 s47 s45 hT hL hR us ty
      obtain ⟨us, hT, hL, hR⟩ := hTo.same s48
      have hS8 := s48.seq hS
      -- changed
      refine ⟨_, rfl, _, rfl, _, rfl, _, rfl, a, ns, 3, rfl, hS8, _, _, rfl, rfl, ⟨by decide, by decide⟩, _, rfl, t, _, 0, _, rfl, rfl, SqT.of hT, rfl, _, _, rfl, rfl, npos, t, l, tr, fo, l1, l2, _, n, rs, ps, qs, rfl, hTo.same s48, hA.same s48, tree, hO, good.len, by omega, good.pr, fun H9 s9 => ⟨_, rfl, ?_⟩⟩
      refine iteF ?_
      replace hO := hO.same s9
      replace hI := s9 _ _ hI
      have s49 := s48.trans s9
      clear s9 s48 hT hL hR us hS8
      obtain ⟨us, hT, hL, hR⟩ := hTo.same s49
      have hS9 := s49.seq hS
      -- bent
      refine ⟨_, rfl, fo, C_Posts, dx, _, _, rfl, hI, O.cl, O.n1, ofs_1 _ _ _ _, _, rfl, a, ns, 2, rfl, hS9, _, rfl, t, _, 0, _, rfl, rfl, SqT.of hT, rfl, _, _, rfl, rfl, l1, _, (n : Int) - 1, ps, rfl, hO.h1, plen, by omega, fun x hx => by have := good.pr x hx; omega, fun q1 ys1 H10 hq1 s10 hq11 r1 n1' => ?_⟩
      have fq1 : H3 q1 = none := s49.free hq1
      have m1 : l1 ≠ q1 := ne_of_none hO.h1 hq1
      have m2 : l2 ≠ q1 := ne_of_none hO.h2 hq1
      replace hO := hO.same s10
      replace hI := s10 _ _ hI
      have s410 := s49.trans s10
      refine ⟨_, rfl, fo, C_Posts, dx, _, _, rfl, hI, O.cl, O.n2, ofs_2 _ _ O.ne, _, rfl, a, ns, 3, rfl, s410.seq hS, _, rfl, t, _, 0, _, rfl, rfl, SqT.of (s10 _ _ hT), rfl, l2, _, (n : Int), qs, rfl, hO.h2, by omega, by omega, fun x hx => good.qr x hx, fun q2 ys2 H11 hq2 s11 hq22 r2 n2' => ?_⟩
      have fq2 : H3 q2 = none := s410.free hq2
      have m3 : l1 ≠ q2 := ne_of_none hO.h1 hq2
      have m4 : l2 ≠ q2 := ne_of_none hO.h2 hq2
      have nq12 : q1 ≠ q2 := ne_of_none hq11 hq2
      replace hO := hO.same s11
      replace hI := s11 _ _ hI
      replace hq11 := s11 _ _ hq11
      have s411 := s410.trans s11
      clear s10 s11 s49 s410 hT hL hR us hS9 hq1 hq2
      have pr1 : ∀ i ∈ ys1, 0 ≤ i ∧ i < rs.length := fun x hx => by have := r1 x hx; omega
      -- many
      refine ⟨_, rfl, _, rfl, by show 2 ≤ sizeLine; decide, fun z hz => ?_⟩
      have s12 := Same.new (o := .lst [.ref q1, .ref q2]) hz
      have hz12 : upd H11 z (.lst [.ref q1, .ref q2]) z = some (.lst [.ref q1, .ref q2]) := upd_same
      replace hO := hO.same s12
      replace hI := s12 _ _ hI
      replace hq11 := s12 _ _ hq11
      replace hq22 := s12 _ _ hq22
      have s412 := s411.trans s12
      generalize upd H11 z (.lst [.ref q1, .ref q2]) = H12 at s12 hz12 hO hI hq11 hq22 s412 ⊢
      obtain ⟨pv, mm, hat, hpv⟩ : ∃ (pv : Addr) (xs : List Int), atI [V.ref q1, .ref q2] (cellV ns 4 % 2) = some (.ref pv) ∧ H12 pv = some (.lst (xs.map V.int)) := by
        have h0 : 0 ≤ cellV ns 4 % 2 := Int.emod_nonneg _ (by decide)
        have h1 : cellV ns 4 % 2 < 2 := Int.emod_lt_of_pos _ (by decide)
        have : cellV ns 4 % 2 = 0 ∨ cellV ns 4 % 2 = 1 := by omega
        rcases this with e | e
        · exact ⟨q1, ys1, by rw [e]; rfl, hq11⟩
        · exact ⟨q2, ys2, by rw [e]; rfl, hq22⟩
      refine ⟨_, rfl, a, ns, 4, rfl, s412.seq hS, _, _, rfl, rfl, (by show (0 : Int) < 2; decide), z, _, _, _, rfl, rfl, SqL.of hz12, hat, pv, _, rfl, .inl (SqL.of hpv), ?_⟩
      rw [List.length_map]
      refine of_gName ?_
      generalize ((mm.length : Nat) : Int) = many
      clear hpv hat mm hz12 hz s12 s411
      -- due
      refine ⟨_, rfl, _, rfl, _, rfl, _, rfl, t, l, q1, q2, many, ys1, ys2, n, rs, rfl, hTo.same s412, tree, hq11, hq22, by omega, by omega, pr1, fun H13 s13 => ?_⟩
      replace hO := hO.same s13
      replace hI := s13 _ _ hI
      replace hq11 := s13 _ _ hq11
      replace hq22 := s13 _ _ hq22
      have s413 := s412.trans s13
      clear s13 s412
      -- Posts(pairs, posts)
      refine ⟨_, rfl, _, rfl, fun b dxb hb hdx hne => ?_⟩
      have s23 : Same H13 (upd (upd H13 dxb (.own b)) b (.ins C_Posts dxb [])) := fun b o e => by
        rw [upd_ne (ne_of_none e hb), upd_ne (ne_of_none e hdx)]; exact e
      refine ⟨b, q1, q2, dxb, ys1, ys2, rfl, upd_same, s23 _ _ hq11, s23 _ _ hq22, fun H14 z1 z2 kp hz1 hz2 hB => ⟨rfl, ?_⟩⟩
      have s14 : Same H13 H14 := fun b' o e => kp b' o (s23 b' o e) (ne_of_none e hb)
      have g1 : H13 z1 = none := s23.free hz1
      have g2 : H13 z2 = none := s23.free hz2
      have n11 : q1 ≠ z1 := ne_of_none hq11 g1
      have n12' : q1 ≠ z2 := ne_of_none hq11 g2
      have n21 : q2 ≠ z1 := ne_of_none hq22 g1
      have n22 : q2 ≠ z2 := ne_of_none hq22 g2
      replace hq11 := s14 _ _ hq11
      replace hq22 := s14 _ _ hq22
      replace hO := hO.same s14
      replace hI := s14 _ _ hI
      have s414 := s413.trans s14
      clear s413 s14 s23 kp hz1 hz2 hb hdx hne
      -- pairs.clear(), posts.clear()
      refine ⟨_, rfl, .inl ⟨rfl, _, SqL.of hq11⟩, q1, _, rfl, rfl, hq11, ?_⟩
      have hB15 := hB.updL hq11 n11.symm n12'.symm []
      have hO15 := hO.updL hq11 m1 m2 []
      have hq15 : upd H14 q1 (.lst []) q2 = some (.lst (ys2.map V.int)) := by rw [upd_ne nq12.symm]; exact hq22
      have s15 := Same.mut (o := .lst []) s414 fq1
      have hI15 := keepU (u := .lst []) hI hq11 (by intro z; cases z)
      refine of_nx ?_
      show tSeq _ _ _ _ (upd H14 q1 (.lst []))
      generalize upd H14 q1 (.lst []) = H15 at hB15 hO15 hq15 s15 hI15 ⊢
      refine ⟨_, rfl, .inl ⟨rfl, _, SqL.of hq15⟩, q2, _, rfl, rfl, hq15, ?_⟩
      have hB16 := hB15.updL hq15 n21.symm n22.symm []
      have hO16 := hO15.updL hq15 m3 m4 []
      have s16 := Same.mut (o := .lst []) s15 fq2
      have hI16 := keepU (u := .lst []) hI15 hq15 (by intro z; cases z)
      refine of_nx ?_
      show tSeq _ _ _ _ (upd H15 q2 (.lst []))
      generalize upd H15 q2 (.lst []) = H16 at hB16 hO16 s16 hI16 ⊢
      clear hB15 hO15 hq15 s15 hI15 hB hO hI s414 hq11 hq22
      -- says
      refine ⟨_, rfl, _, rfl, _, rfl, _, rfl, b, tr, many, z1, z2, ys1, ys2, n, rs, rfl, hB16, hA.same s16, tree, by omega, by omega, pr1, fun H17 s17 => ⟨_, rfl, ?_⟩⟩
      refine iteF ?_
      replace hB16 := hB16.same s17
      replace hO16 := hO16.same s17
      replace hI16 := s17 _ _ hI16
      replace s16 := s16.trans s17
      clear s17
      -- back
      obtain ⟨us, hT, hL, hR⟩ := hTo.same s16
      refine ⟨_, rfl, t, _, 0, _, rfl, rfl, SqT.of hT, rfl, _, rfl, t, _, 1, _, rfl, rfl, SqT.of hT, rfl, l, us, rfl, SqL.of hL, fun lb hlb => ⟨by show 2 ≤ sizeLine; decide, fun bk hbk => ?_⟩⟩
      have s18 := Same.trans (Same.new (o := .lst us.reverse) hlb) (Same.new (o := .tup [.int n, .ref lb]) hbk)
      have hBk : ToldAt (upd (upd H17 lb (.lst us.reverse)) bk (.tup [.int n, .ref lb])) bk lb n rs.reverse := ⟨us.reverse, upd_same, keepN upd_same hbk, paired_rev (hR.same s18)⟩
      refine of_gName (of_nx ?_)
      show tSeq _ _ _ _ (upd (upd H17 lb (.lst us.reverse)) bk (.tup [.int n, .ref lb]))
      generalize upd (upd H17 lb (.lst us.reverse)) bk (.tup [.int n, .ref lb]) = H18 at s18 hBk ⊢
      replace hB16 := hB16.same s18
      replace hO16 := hO16.same s18
      replace hI16 := s18 _ _ hI16
      replace s16 := s16.trans s18
      clear s18 hT hL hR us hlb hbk
      have pr2 : ∀ i ∈ ys1, 0 ≤ i ∧ i < rs.reverse.length := by rw [List.length_reverse]; exact pr1
      have rtree := rev_tree tree
      obtain ⟨dxB, hIB⟩ := hB16.ins
      refine ⟨_, rfl, _, rfl, b, C_Posts, dxB, _, _, rfl, hIB, O.cl, O.n1, ofs_1 _ _ _ _, _, rfl, b, C_Posts, dxB, _, _, rfl, hIB, O.cl, O.n2, ofs_2 _ _ O.ne, _, rfl, bk, lb, z1, z2, many, ys1, ys2, n, rs.reverse, rfl, hBk, rtree, hB16.h1, hB16.h2, by omega, by omega, pr2, fun H19 s19 => ?_⟩
      replace hB16 := hB16.same s19
      replace hO16 := hO16.same s19
      replace hI16 := s19 _ _ hI16
      replace hIB := s19 _ _ hIB
      replace s16 := s16.trans s19
      obtain ⟨us, hT, hL, hR⟩ := hBk.same s19
      clear s19 hBk
      refine ⟨_, rfl, b, dxB, _, rfl, hIB, ofs_no _ _ (by decide +kernel) (by decide +kernel), _, rfl, bk, _, 0, _, rfl, rfl, SqT.of hT, rfl, _, rfl, bk, _, 1, _, rfl, rfl, SqT.of hT, rfl, fun tb dxt htb hdxt hnet => ?_⟩
      have s24 : Same H19 (upd (upd H19 dxt (.own tb)) tb (.ins CT dxt [])) := fun b o e => by
        rw [upd_ne (ne_of_none e htb), upd_ne (ne_of_none e hdxt)]; exact e
      refine ⟨tb, dxt, lb, n, rs.reverse, us, rfl, upd_same, SqL.of (s24 _ _ hL), s24 _ _ hL, hR.same s24, rtree, fun H20 kp2 hTr2 => ⟨rfl, ?_⟩⟩
      have s20 : Same H19 H20 := fun b o e => kp2 b o (s24 b o e) (ne_of_none e htb)
      refine ⟨_, rfl, b, tb, many, z1, z2, ys1, ys2, n, rs.reverse, rfl, hB16.same s20, hTr2.at, rtree, by omega, by omega, pr2, fun H21 s21 => ⟨_, rfl, rfl, _, rfl, ?_⟩⟩
      rw [decide_eq_true rfl]
      refine iteF ?_
      replace hO16 := (hO16.same s20).same s21
      replace hI16 := s21 _ _ (s20 _ _ hI16)
      replace s16 := s16.trans (s20.trans s21)
      clear s20 s21 s24 kp2 hTr2 hT hL hR us hB16 hIB
      -- found's lists cleared
      refine ⟨_, rfl, fo, C_Posts, dx, _, _, rfl, hI16, O.cl, O.n1, ofs_1 _ _ _ _, .inl ⟨rfl, _, SqL.of hO16.h1⟩, l1, _, rfl, rfl, hO16.h1, ?_⟩
      have s22 := Same.mut (o := .lst (([] : List Int).map V.int)) s16 f1
      have hO22 := hO16.set1 []
      refine of_nx ?_
      show tSeq _ _ _ _ (upd H21 l1 (.lst (([] : List Int).map V.int)))
      generalize upd H21 l1 (.lst (([] : List Int).map V.int)) = H22 at s22 hO22 ⊢
      obtain ⟨dx22, hI22⟩ := hO22.ins
      refine ⟨_, rfl, fo, C_Posts, dx22, _, _, rfl, hI22, O.cl, O.n2, ofs_2 _ _ O.ne, .inl ⟨rfl, _, SqL.of hO22.h2⟩, l2, _, rfl, rfl, hO22.h2, ?_⟩
      have s23 := Same.mut (o := .lst (([] : List Int).map V.int)) s22 f2
      have hO23 := hO22.set2 []
      refine of_nx ?_
      show tIfS _ _ _ _ _ (upd H22 l2 (.lst (([] : List Int).map V.int)))
      generalize upd H22 l2 (.lst (([] : List Int).map V.int)) = H23 at s23 hO23 ⊢
      obtain ⟨us, hT, hL, hR⟩ := hTo.same s23
      refine ⟨_, rfl, _, rfl, _, rfl, t, _, 1, _, rfl, rfl, SqT.of hT, rfl, Nat.zero_le _, fun q hq => ?_⟩
      have s25 := Same.new (o := .lst []) hq
      refine ⟨_, _, .lst (SqL.of (s25 _ _ hL)) (dp_roads (hR.same s25)), .lst (SqL.of upd_same) (dp_roads (rs := []) .nil), shaped_roads _, shaped_roads _, ?_⟩
      rw [eqv_roads, ← shown_none]
      refine ⟨fo, tr, 0, l1, l2, [], [], n, rs, rfl, hO23.same s25, (hA.same s23).same s25, tree, by decide, by decide, by simp, fun H26 s26 => ⟨_, rfl, ?_⟩⟩
      refine iteF ?_
      exact ⟨_, _, _, _, _, _, _, _, rfl, s23.trans (s25.trans s26)⟩
    · rintro σ' H4 ⟨v3, v4, v5, v6, v7, v8, v9, v10, rfl, s4⟩
      exact k _
end
end Wr

namespace Wr
open PySem L2
theorem all_mk {l : PySem.W.OpenLaw} {w : World} {K : PySem.W.Frag} {h : Heap} {mg : Str → Option Value} {fa : Addr} (X : K.In h) (G : h.Ns mainGlobals mg) (hfa : mg "law" = some (.ref fa))
    {CT CP CA CW fis_whole fwithin fis_road fwalked finit fcell fdraw fname ftold fPinit fshows froad_of fpaired fshown frising fsays fbent fchanged flaw : Addr} {odis_whole anis_whole odwithin anwithin odis_road anis_road odwalked anwalked odinit aninit odcell ancell oddraw andraw odname anname odtold antold odPinit anPinit odshows anshows odroad_of anroad_of odpaired anpaired odshown anshown odrising anrising odsays ansays odbent anbent odchanged anchanged odlaw anlaw : Option Addr} {slis_whole slwithin slis_road slwalked slinit slcell sldraw slname sltold slPinit slshows slroad_of slpaired slshown slrising slsays slbent slchanged sllaw : Array (Option Value)} {ocis_whole kVis_whole dcis_whole pmis_whole cdis_whole ctis_whole ocwithin kVwithin dcwithin pmwithin cdwithin ctwithin ocis_road kVis_road dcis_road pmis_road cdis_road ctis_road ocwalked kVwalked dcwalked pmwalked cdwalked ctwalked ocinit kVinit dcinit pminit cdinit ctinit occell kVcell dccell pmcell cdcell ctcell ocdraw kVdraw dcdraw pmdraw cddraw ctdraw ocname kVname dcname pmname cdname ctname octold kVtold dctold pmtold cdtold cttold ocPinit kVPinit dcPinit pmPinit cdPinit ctPinit ocshows kVshows dcshows pmshows cdshows ctshows ocroad_of kVroad_of dcroad_of pmroad_of cdroad_of ctroad_of ocpaired kVpaired dcpaired pmpaired cdpaired ctpaired ocshown kVshown dcshown pmshown cdshown ctshown ocrising kVrising dcrising pmrising cdrising ctrising ocsays kVsays dcsays pmsays cdsays ctsays ocbent kVbent dcbent pmbent cdbent ctbent occhanged kVchanged dcchanged pmchanged cdchanged ctchanged oclaw kVlaw dclaw pmlaw cdlaw ctlaw : Value} {tMOST tLONGEST : Tok}
    (aCT : PySem.W.nsIn K mainGlobals "Tree" = some (some (.ref CT)))
    (pgT : PySem.W.plainGet K CT Str.empty = true)
    (hdT : PySem.W.hasDictIn K CT = true)
    (poT : PySem.W.plainOver K CT = true)
    (saT : PySem.W.findIn K (.ref CT) "__setattr__" = some (some (.builtin "object.__setattr__")))
    (mkT : PySem.W.makesIn K CT = true)
    (kcT : PySem.W.keepIn K (.ref CT) = true)
    (nT_size : PySem.W.findIn K (.ref CT) "size" = some none)
    (nT_rows : PySem.W.findIn K (.ref CT) "rows" = some none)
    (aCP : PySem.W.nsIn K mainGlobals "Posts" = some (some (.ref CP)))
    (pgP : PySem.W.plainGet K CP Str.empty = true)
    (hdP : PySem.W.hasDictIn K CP = true)
    (poP : PySem.W.plainOver K CP = true)
    (saP : PySem.W.findIn K (.ref CP) "__setattr__" = some (some (.builtin "object.__setattr__")))
    (mkP : PySem.W.makesIn K CP = true)
    (kcP : PySem.W.keepIn K (.ref CP) = true)
    (nP_pairs : PySem.W.findIn K (.ref CP) "pairs" = some none)
    (nP_posts : PySem.W.findIn K (.ref CP) "posts" = some none)
    (aCA : PySem.W.nsIn K mainGlobals "Answer" = some (some (.ref CA)))
    (aCW : PySem.W.nsIn K mainGlobals "Wells" = some (some (.ref CW)))
    (aMOST : PySem.W.nsIn K mainGlobals "MOST" = some (some (.int 12 tMOST)))
    (aLONGEST : PySem.W.nsIn K mainGlobals "LONGEST" = some (some (.int 1000000 tLONGEST)))
    (ais_whole : PySem.W.nsIn K mainGlobals "is_whole" = some (some (.ref fis_whole)))
    (lis_whole : K.lookup fis_whole = some ⟨ocis_whole, odis_whole, .func (PySem.W.fnOf "is_whole" "is_whole" (defArgs S_is_whole) (defBody S_is_whole) (defScope S_is_whole) .none kVis_whole dcis_whole pmis_whole anis_whole cdis_whole ctis_whole), slis_whole⟩)
    (cis_whole : PySem.W.codeIn K cdis_whole "is_whole" = true)
    (kis_whole : PySem.W.keepIn K (.ref fis_whole) = true)
    (awithin : PySem.W.nsIn K mainGlobals "within" = some (some (.ref fwithin)))
    (lwithin : K.lookup fwithin = some ⟨ocwithin, odwithin, .func (PySem.W.fnOf "within" "within" (defArgs S_within) (defBody S_within) (defScope S_within) .none kVwithin dcwithin pmwithin anwithin cdwithin ctwithin), slwithin⟩)
    (cwithin : PySem.W.codeIn K cdwithin "within" = true)
    (kwithin : PySem.W.keepIn K (.ref fwithin) = true)
    (ais_road : PySem.W.nsIn K mainGlobals "is_road" = some (some (.ref fis_road)))
    (lis_road : K.lookup fis_road = some ⟨ocis_road, odis_road, .func (PySem.W.fnOf "is_road" "is_road" (defArgs S_is_road) (defBody S_is_road) (defScope S_is_road) .none kVis_road dcis_road pmis_road anis_road cdis_road ctis_road), slis_road⟩)
    (cis_road : PySem.W.codeIn K cdis_road "is_road" = true)
    (kis_road : PySem.W.keepIn K (.ref fis_road) = true)
    (awalked : PySem.W.findIn K (.ref CT) "walked" = some (some (.ref fwalked)))
    (iwalked : PySem.W.isFn K (.ref fwalked) = true)
    (lwalked : K.lookup fwalked = some ⟨ocwalked, odwalked, .func (PySem.W.fnOf "walked" "Tree.walked" (defArgs S_Tree_walked) (defBody S_Tree_walked) (defScope S_Tree_walked) .none kVwalked dcwalked pmwalked anwalked cdwalked ctwalked), slwalked⟩)
    (cwalked : PySem.W.codeIn K cdwalked "Tree.walked" = true)
    (kwalked : PySem.W.keepIn K (.ref fwalked) = true)
    (ainit : PySem.W.findIn K (.ref CT) "__init__" = some (some (.ref finit)))
    (iinit : PySem.W.isFn K (.ref finit) = true)
    (linit : K.lookup finit = some ⟨ocinit, odinit, .func (PySem.W.fnOf "__init__" "Tree.__init__" (defArgs S_Tree_init) (defBody S_Tree_init) (defScope S_Tree_init) .none kVinit dcinit pminit aninit cdinit ctinit), slinit⟩)
    (cinit : PySem.W.codeIn K cdinit "Tree.__init__" = true)
    (kinit : PySem.W.keepIn K (.ref finit) = true)
    (acell : PySem.W.nsIn K mainGlobals "_law_cell_at" = some (some (.ref fcell)))
    (lcell : K.lookup fcell = some ⟨occell, odcell, .func (PySem.W.fnOf "_law_cell_at" "_law_cell_at" (defArgs S_law_cell_at) (defBody S_law_cell_at) (defScope S_law_cell_at) .none kVcell dccell pmcell ancell cdcell ctcell), slcell⟩)
    (ccell : PySem.W.codeIn K cdcell "_law_cell_at" = true)
    (kcell : PySem.W.keepIn K (.ref fcell) = true)
    (adraw : PySem.W.nsIn K mainGlobals "_law_draw" = some (some (.ref fdraw)))
    (ldraw : K.lookup fdraw = some ⟨ocdraw, oddraw, .func (PySem.W.fnOf "_law_draw" "_law_draw" (defArgs S_law_draw) (defBody S_law_draw) (defScope S_law_draw) .none kVdraw dcdraw pmdraw andraw cddraw ctdraw), sldraw⟩)
    (cdraw : PySem.W.codeIn K cddraw "_law_draw" = true)
    (kdraw : PySem.W.keepIn K (.ref fdraw) = true)
    (aname : PySem.W.nsIn K mainGlobals "_law_name" = some (some (.ref fname)))
    (lname : K.lookup fname = some ⟨ocname, odname, .func (PySem.W.fnOf "_law_name" "_law_name" (defArgs S_law_name) (defBody S_law_name) (defScope S_law_name) .none kVname dcname pmname anname cdname ctname), slname⟩)
    (cname : PySem.W.codeIn K cdname "_law_name" = true)
    (kname : PySem.W.keepIn K (.ref fname) = true)
    (atold : PySem.W.nsIn K mainGlobals "_law_told" = some (some (.ref ftold)))
    (ltold : K.lookup ftold = some ⟨octold, odtold, .func (PySem.W.fnOf "_law_told" "_law_told" (defArgs S_law_told) (defBody S_law_told) (defScope S_law_told) .none kVtold dctold pmtold antold cdtold cttold), sltold⟩)
    (ctold : PySem.W.codeIn K cdtold "_law_told" = true)
    (ktold : PySem.W.keepIn K (.ref ftold) = true)
    (aPinit : PySem.W.findIn K (.ref CP) "__init__" = some (some (.ref fPinit)))
    (iPinit : PySem.W.isFn K (.ref fPinit) = true)
    (lPinit : K.lookup fPinit = some ⟨ocPinit, odPinit, .func (PySem.W.fnOf "__init__" "Posts.__init__" (defArgs S_Posts_init) (defBody S_Posts_init) (defScope S_Posts_init) .none kVPinit dcPinit pmPinit anPinit cdPinit ctPinit), slPinit⟩)
    (cPinit : PySem.W.codeIn K cdPinit "Posts.__init__" = true)
    (kPinit : PySem.W.keepIn K (.ref fPinit) = true)
    (ashows : PySem.W.findIn K (.ref CP) "shows" = some (some (.ref fshows)))
    (ishows : PySem.W.isFn K (.ref fshows) = true)
    (lshows : K.lookup fshows = some ⟨ocshows, odshows, .func (PySem.W.fnOf "shows" "Posts.shows" (defArgs S_Posts_shows) (defBody S_Posts_shows) (defScope S_Posts_shows) .none kVshows dcshows pmshows anshows cdshows ctshows), slshows⟩)
    (cshows : PySem.W.codeIn K cdshows "Posts.shows" = true)
    (kshows : PySem.W.keepIn K (.ref fshows) = true)
    (aroad_of : PySem.W.nsIn K mainGlobals "road_of" = some (some (.ref froad_of)))
    (lroad_of : K.lookup froad_of = some ⟨ocroad_of, odroad_of, .func (PySem.W.fnOf "road_of" "road_of" (defArgs S_road_of) (defBody S_road_of) (defScope S_road_of) .none kVroad_of dcroad_of pmroad_of anroad_of cdroad_of ctroad_of), slroad_of⟩)
    (croad_of : PySem.W.codeIn K cdroad_of "road_of" = true)
    (kroad_of : PySem.W.keepIn K (.ref froad_of) = true)
    (apaired : PySem.W.nsIn K mainGlobals "paired" = some (some (.ref fpaired)))
    (lpaired : K.lookup fpaired = some ⟨ocpaired, odpaired, .func (PySem.W.fnOf "paired" "paired" (defArgs S_paired) (defBody S_paired) (defScope S_paired) .none kVpaired dcpaired pmpaired anpaired cdpaired ctpaired), slpaired⟩)
    (cpaired : PySem.W.codeIn K cdpaired "paired" = true)
    (kpaired : PySem.W.keepIn K (.ref fpaired) = true)
    (ashown : PySem.W.nsIn K mainGlobals "_law_shown" = some (some (.ref fshown)))
    (lshown : K.lookup fshown = some ⟨ocshown, odshown, .func (PySem.W.fnOf "_law_shown" "_law_shown" (defArgs S_law_shown) (defBody S_law_shown) (defScope S_law_shown) .none kVshown dcshown pmshown anshown cdshown ctshown), slshown⟩)
    (cshown : PySem.W.codeIn K cdshown "_law_shown" = true)
    (kshown : PySem.W.keepIn K (.ref fshown) = true)
    (arising : PySem.W.nsIn K mainGlobals "_law_rising" = some (some (.ref frising)))
    (lrising : K.lookup frising = some ⟨ocrising, odrising, .func (PySem.W.fnOf "_law_rising" "_law_rising" (defArgs S_law_rising) (defBody S_law_rising) (defScope S_law_rising) .none kVrising dcrising pmrising anrising cdrising ctrising), slrising⟩)
    (crising : PySem.W.codeIn K cdrising "_law_rising" = true)
    (krising : PySem.W.keepIn K (.ref frising) = true)
    (asays : PySem.W.nsIn K mainGlobals "_law_says" = some (some (.ref fsays)))
    (lsays : K.lookup fsays = some ⟨ocsays, odsays, .func (PySem.W.fnOf "_law_says" "_law_says" (defArgs S_law_says) (defBody S_law_says) (defScope S_law_says) .none kVsays dcsays pmsays ansays cdsays ctsays), slsays⟩)
    (csays : PySem.W.codeIn K cdsays "_law_says" = true)
    (ksays : PySem.W.keepIn K (.ref fsays) = true)
    (abent : PySem.W.nsIn K mainGlobals "_law_bent" = some (some (.ref fbent)))
    (lbent : K.lookup fbent = some ⟨ocbent, odbent, .func (PySem.W.fnOf "_law_bent" "_law_bent" (defArgs S_law_bent) (defBody S_law_bent) (defScope S_law_bent) .none kVbent dcbent pmbent anbent cdbent ctbent), slbent⟩)
    (cbent : PySem.W.codeIn K cdbent "_law_bent" = true)
    (kbent : PySem.W.keepIn K (.ref fbent) = true)
    (achanged : PySem.W.nsIn K mainGlobals "_law_changed_right" = some (some (.ref fchanged)))
    (lchanged : K.lookup fchanged = some ⟨occhanged, odchanged, .func (PySem.W.fnOf "_law_changed_right" "_law_changed_right" (defArgs S_law_changed_right) (defBody S_law_changed_right) (defScope S_law_changed_right) .none kVchanged dcchanged pmchanged anchanged cdchanged ctchanged), slchanged⟩)
    (cchanged : PySem.W.codeIn K cdchanged "_law_changed_right" = true)
    (kchanged : PySem.W.keepIn K (.ref fchanged) = true)
    (alaw : PySem.W.nsIn K mainGlobals "law" = some (some (.ref flaw)))
    (llaw : K.lookup flaw = some ⟨oclaw, odlaw, .func (PySem.W.fnOf "law" "law" (defArgs S_law) (defBody S_law) (defScope S_law) .none kVlaw dclaw pmlaw anlaw cdlaw ctlaw), sllaw⟩)
    (claw : PySem.W.codeIn K cdlaw "law" = true)
    (klaw : PySem.W.keepIn K (.ref flaw) = true)
    (haP : PySem.W.findIn K (.ref CP) "__class__" = some (some (.builtin "object.__class__")))
    (hnP : PySem.W.specialIn K (.builtin "object.__class__") "__get__" = some (some (.builtin "getset_descriptor.__get__")))
    (htP : PySem.W.takesIn K (.builtin "object.__class__") = some true)
    (hmP : PySem.W.mroIn K CP (.type "object") = some true)
    (k1P : PySem.W.kitOne K (.ref CP) (.ref CP) = some true)
    (k2P : PySem.W.kitOne K (.ref CP) (.ref CA) = some true)
    (k3P : PySem.W.kitOne K (.ref CP) (.ref CW) = some false)
    (zlen : PySem.W.nsIn K mainGlobals "len" = some none)
    (zisinstance : PySem.W.nsIn K mainGlobals "isinstance" = some none)
    (zlist : PySem.W.nsIn K mainGlobals "list" = some none)
    (zint : PySem.W.nsIn K mainGlobals "int" = some none)
    (zbool : PySem.W.nsIn K mainGlobals "bool" = some none)
    (ztuple : PySem.W.nsIn K mainGlobals "tuple" = some none)
    (zrange : PySem.W.nsIn K mainGlobals "range" = some none)
    (zset : PySem.W.nsIn K mainGlobals "set" = some none)
    (zsorted : PySem.W.nsIn K mainGlobals "sorted" = some none)
    (zsum : PySem.W.nsIn K mainGlobals "sum" = some none)
    (zmax : PySem.W.nsIn K mainGlobals "max" = some none)
    (zmin : PySem.W.nsIn K mainGlobals "min" = some none)
    (zany : PySem.W.nsIn K mainGlobals "any" = some none)
    (zall : PySem.W.nsIn K mainGlobals "all" = some none)
    (zreversed : PySem.W.nsIn K mainGlobals "reversed" = some none)
    (zstr : PySem.W.nsIn K mainGlobals "str" = some none)
    : ∃ fd : FuncData, (∀ (s : Shared) (v : Value), BindsTo s fd ⟨[v], []⟩ [("_law_script", v)]) ∧ ∀ base : Heap, K.In base → base.Ns mainGlobals mg → FnOk l.prog w K mg base CX0 6 fa fd ["_law_script"] (spLaw K) := by
  have e := hfa.symm.trans (PySem.W.mg_of X G alaw)
  cases e
  have B : Bi mg := ⟨PySem.W.mg_none_of X G zlen, PySem.W.mg_none_of X G zisinstance, PySem.W.mg_none_of X G zlist, PySem.W.mg_none_of X G zint, PySem.W.mg_none_of X G zbool, PySem.W.mg_none_of X G ztuple, PySem.W.mg_none_of X G zrange, PySem.W.mg_none_of X G zset, PySem.W.mg_none_of X G zsorted, PySem.W.mg_none_of X G zsum, PySem.W.mg_none_of X G zmax, PySem.W.mg_none_of X G zmin, PySem.W.mg_none_of X G zany, PySem.W.mg_none_of X G zall, PySem.W.mg_none_of X G zreversed, PySem.W.mg_none_of X G zstr⟩
  have F_is_whole := fun_mk (st := S_is_whole) lis_whole cis_whole kis_whole
  have F_within := fun_mk (st := S_within) lwithin cwithin kwithin
  have F_is_road := fun_mk (st := S_is_road) lis_road cis_road kis_road
  have F_walked := fun_mk (st := S_Tree_walked) lwalked cwalked kwalked
  have F_init := fun_mk (st := S_Tree_init) linit cinit kinit
  have F_cell := fun_mk (st := S_law_cell_at) lcell ccell kcell
  have F_draw := fun_mk (st := S_law_draw) ldraw cdraw kdraw
  have F_name := fun_mk (st := S_law_name) lname cname kname
  have F_told := fun_mk (st := S_law_told) ltold ctold ktold
  have F_Pinit := fun_mk (st := S_Posts_init) lPinit cPinit kPinit
  have F_shows := fun_mk (st := S_Posts_shows) lshows cshows kshows
  have F_road_of := fun_mk (st := S_road_of) lroad_of croad_of kroad_of
  have F_paired := fun_mk (st := S_paired) lpaired cpaired kpaired
  have F_shown := fun_mk (st := S_law_shown) lshown cshown kshown
  have F_rising := fun_mk (st := S_law_rising) lrising crising krising
  have F_says := fun_mk (st := S_law_says) lsays csays ksays
  have F_bent := fun_mk (st := S_law_bent) lbent cbent kbent
  have F_changed := fun_mk (st := S_law_changed_right) lchanged cchanged kchanged
  have F_law := fun_mk (st := S_law) llaw claw klaw
  refine ⟨PySem.W.fnOf "law" "law" (defArgs S_law) (defBody S_law) (defScope S_law) .none kVlaw dclaw pmlaw anlaw cdlaw ctlaw, fun s v => .of_eq rfl, fun base _ _ => ?_⟩
  have T : Tx K mg CT := ⟨⟨pgT, hdT, poT, saT⟩, nT_size, nT_rows⟩
  have mM : ∃ t, mg "MOST" = some (.int 12 t) := ⟨_, PySem.W.mg_of X G aMOST⟩
  have mL : ∃ t, mg "LONGEST" = some (.int 1000000 t) := ⟨_, PySem.W.mg_of X G aLONGEST⟩
  have O : Ox K CP "pairs" "posts" := ⟨⟨pgP, hdP, poP, saP⟩, nP_pairs, nP_posts, by decide +kernel⟩
  have I : Ix K CP CA CW := ⟨haP, hnP, htP, hmP, k1P, k2P, k3P⟩
  have G_is_whole : Gd l.prog w K mg base 1 "is_whole" ["number"] (spWhole K) := gd_mk F_is_whole (PySem.W.mg_of X G ais_whole) (F_is_whole.binds fun _ _ _ _ _ _ us hl => match us, hl with | [_], _ => rfl) (ok_is_whole F_is_whole B)
  have G_within : Gd l.prog w K mg base 2 "within" ["number", "low", "high"] (spWithin K) := gd_mk F_within (PySem.W.mg_of X G awithin) (F_within.binds fun _ _ _ _ _ _ us hl => match us, hl with | [_, _, _], _ => rfl) (ok_within F_within G_is_whole)
  have G_is_road : Gd l.prog w K mg base 3 "is_road" ["thing", "villages"] (spRoad K) := gd_mk F_is_road (PySem.W.mg_of X G ais_road) (F_is_road.binds fun _ _ _ _ _ _ us hl => match us, hl with | [_, _], _ => rfl) (ok_is_road F_is_road B mL G_within)
  have G_walked : Gm l.prog w K mg base CT 1 "walked" ["self", "start"] (spWalked CT) := gm_mk ⟨awalked, iwalked, kwalked⟩ (F_walked.binds fun _ _ _ _ _ _ us hl => match us, hl with | [_, _], _ => rfl) (ok_walked F_walked T)
  have G_init : Gc l.prog w K mg base CT 4 "Tree" ["self", "villages", "roads"] (spInit (K := K) CT) := gc_mk (PySem.W.mg_of X G aCT) ⟨mkT, ainit, iinit, kcT⟩ (F_init.binds fun _ _ _ _ _ _ us hl => match us, hl with | [_, _, _], _ => rfl) (ok_init F_init T B mM G_within G_is_road G_walked)
  have G_cell : Gd l.prog w K mg base 1 "_law_cell_at" ["_law_script", "_law_k"] (spCell K) := gd_mk F_cell (PySem.W.mg_of X G acell) (F_cell.binds fun _ _ _ _ _ _ us hl => match us, hl with | [_, _], _ => rfl) (ok_cell F_cell B)
  have G_draw : Gd l.prog w K mg base 1 "_law_draw" ["_law_cell", "_law_k", "_law_many"] spDraw := gd_mk F_draw (PySem.W.mg_of X G adraw) (F_draw.binds fun _ _ _ _ _ _ us hl => match us, hl with | [_, _, _], _ => rfl) (ok_draw F_draw )
  have G_name : Gd l.prog w K mg base 1 "_law_name" ["_law_k", "_law_villages", "_law_turn"] spName := gd_mk F_name (PySem.W.mg_of X G aname) (F_name.binds fun _ _ _ _ _ _ us hl => match us, hl with | [_, _, _], _ => rfl) (ok_name F_name )
  have G_told : Gd l.prog w K mg base 2 "_law_told" ["_law_script", "_law_first", "_law_most"] (spTold K) := gd_mk F_told (PySem.W.mg_of X G atold) (F_told.binds fun _ _ _ _ _ _ us hl => match us, hl with | [_, _, _], _ => rfl) (ok_told F_told B G_cell G_draw G_name)
  have G_Pinit : Gc l.prog w K mg base CP 1 "Posts" ["self", "pairs", "posts"] (spCopy CP "pairs" "posts") := gc_mk (PySem.W.mg_of X G aCP) ⟨mkP, aPinit, iPinit, kcP⟩ (F_Pinit.binds fun _ _ _ _ _ _ us hl => match us, hl with | [_, _, _], _ => rfl) (ok_Posts_init F_Pinit O B)
  have G_shows : Gm l.prog w K mg base CP 1 "shows" ["self", "tree", "number"] (spShows CP CT) := gm_mk ⟨ashows, ishows, kshows⟩ (F_shows.binds fun _ _ _ _ _ _ us hl => match us, hl with | [_, _, _], _ => rfl) (ok_Posts_shows F_shows O T B)
  have G_road_of : Gd l.prog w K mg base 1 "road_of" ["tree", "one", "other"] (spRoadOf CT) := gd_mk F_road_of (PySem.W.mg_of X G aroad_of) (F_road_of.binds fun _ _ _ _ _ _ us hl => match us, hl with | [_, _, _], _ => rfl) (ok_road_of F_road_of T B)
  have G_paired : Gd l.prog w K mg base 3 "paired" ["tree"] (spPaired CT CP) := gd_mk F_paired (PySem.W.mg_of X G apaired) (F_paired.binds fun _ _ _ _ _ _ us hl => match us, hl with | [_], _ => rfl) (ok_paired F_paired T B G_walked G_Pinit G_road_of)
  have G_shown : Gd l.prog w K mg base 1 "_law_shown" ["_law_told_here", "_law_pairs", "_law_posts", "_law_many"] spLawShown := gd_mk F_shown (PySem.W.mg_of X G ashown) (F_shown.binds fun _ _ _ _ _ _ us hl => match us, hl with | [_, _, _, _], _ => rfl) (ok_law_shown F_shown B)
  have G_rising : Gd l.prog w K mg base 1 "_law_rising" ["_law_some", "_law_many"] spRising := gd_mk F_rising (PySem.W.mg_of X G arising) (F_rising.binds fun _ _ _ _ _ _ us hl => match us, hl with | [_, _], _ => rfl) (ok_rising F_rising B)
  have G_says : Gd l.prog w K mg base 2 "_law_says" ["_law_answer", "_law_tree", "_law_many", "_law_due"] (spSays CP CT) := gd_mk F_says (PySem.W.mg_of X G asays) (F_says.binds fun _ _ _ _ _ _ us hl => match us, hl with | [_, _, _, _], _ => rfl) (ok_says F_says O B G_shows)
  have G_bent : Gd l.prog w K mg base 1 "_law_bent" ["_law_some", "_law_cell", "_law_many"] spBent := gd_mk F_bent (PySem.W.mg_of X G abent) (F_bent.binds fun _ _ _ _ _ _ us hl => match us, hl with | [_, _, _], _ => rfl) (ok_bent F_bent B)
  have G_changed : Gd l.prog w K mg base 3 "_law_changed_right" ["_law_told_here", "_law_tree", "_law_found", "_law_more"] (spChanged CP CT) := gd_mk F_changed (PySem.W.mg_of X G achanged) (F_changed.binds fun _ _ _ _ _ _ us hl => match us, hl with | [_, _, _, _], _ => rfl) (ok_changed F_changed O B G_Pinit G_says G_shown)
  exact ok_law F_law B T O I (PySem.W.mg_of X G aCP) (PySem.W.mg_of X G aCA) (PySem.W.mg_of X G aCW) G_told G_init G_paired G_rising G_shown G_shows G_changed G_cell G_bent G_Pinit G_says
theorem walk {l : PySem.W.OpenLaw} {q : Program} {loose : List Str} {XP : (Str → Option Value) → Heap → Prop} {YP : World → Heap → Prop} {d : DefRec} {K : Params → PySem.W.Frag} (hn : l.most = some 63) (hdf : d.params.defaults = [])
    (hY : ∀ (w : World) (h : Heap), YP w h → (K w.params).In h)
    (F : ∀ (w : World) (mg : Str → Option Value) (fa : Addr) (h : Heap), (K w.params).In h → h.Ns mainGlobals mg → mg d.name = some (.ref fa) →
      ∃ fd : FuncData, (∀ (s : Shared) (u : Value), BindsTo s fd ⟨[u], []⟩ [("_law_script", u)]) ∧ ∀ base : Heap, (K w.params).In base → base.Ns mainGlobals mg → FnOk l.prog w (K w.params) mg base CX0 6 fa fd ["_law_script"] (spLaw (K w.params))) :
    PySem.W.WalkO q loose XP YP l.row.toRowW d [] (fun f vs => PySem.call f vs) :=
  L2.walk_of (n := 63) (k := 6) (x := "_law_script") (CX := fun _ => CX0) (sp := fun w => spLaw (K w.params)) hn (by decide) hdf ⟨rfl, by decide, by decide⟩ hY F (fun _ _ a ns hl _ hS => ⟨a, ns, rfl, hS, hl, fun _ => rfl⟩) fun _ _ _ _ _ z => z
end Wr

open PySem PySem.W PyProof.Rows
set_option maxRecDepth 100000 in
set_option maxHeartbeats 0 in
theorem PySem.Challenge.cw_wellroads_k05_whole_pairs_and_posts_holds : PySem.Challenge.rw_wellroads_k05_whole_pairs_and_posts.Holds := by
  w_on; o_law; k_head; (case hw => w_witness2)
  k_fill
  refine Wr.walk (l := PySem.Challenge.rw_wellroads_k05_whole_pairs_and_posts) rfl rfl (fun w h Y => PySem.W.kIn_of Y) ?F
  case F =>
    intro w mg fa h KX G hmg
    refine' Wr.all_mk KX G hmg ?aCT ?pgT ?hdT ?poT ?saT ?mkT ?kcT ?nT_size ?nT_rows ?aCP ?pgP ?hdP ?poP ?saP ?mkP ?kcP ?nP_pairs ?nP_posts ?aCA ?aCW ?aMOST ?aLONGEST ?ais_whole ?lis_whole ?cis_whole ?kis_whole ?awithin ?lwithin ?cwithin ?kwithin ?ais_road ?lis_road ?cis_road ?kis_road ?awalked ?iwalked ?lwalked ?cwalked ?kwalked ?ainit ?iinit ?linit ?cinit ?kinit ?acell ?lcell ?ccell ?kcell ?adraw ?ldraw ?cdraw ?kdraw ?aname ?lname ?cname ?kname ?atold ?ltold ?ctold ?ktold ?aPinit ?iPinit ?lPinit ?cPinit ?kPinit ?ashows ?ishows ?lshows ?cshows ?kshows ?aroad_of ?lroad_of ?croad_of ?kroad_of ?apaired ?lpaired ?cpaired ?kpaired ?ashown ?lshown ?cshown ?kshown ?arising ?lrising ?crising ?krising ?asays ?lsays ?csays ?ksays ?abent ?lbent ?cbent ?kbent ?achanged ?lchanged ?cchanged ?kchanged ?alaw ?llaw ?claw ?klaw ?haP ?hnP ?htP ?hmP ?k1P ?k2P ?k3P ?zlen ?zisinstance ?zlist ?zint ?zbool ?ztuple ?zrange ?zset ?zsorted ?zsum ?zmax ?zmin ?zany ?zall ?zreversed ?zstr
    (case aCT => k_is)
    (case pgT => k_is)
    (case hdT => k_is)
    (case poT => k_is)
    (case saT => k_is)
    (case mkT => k_is)
    (case kcT => k_is)
    (case nT_size => k_is)
    (case nT_rows => k_is)
    (case aCP => k_is)
    (case pgP => k_is)
    (case hdP => k_is)
    (case poP => k_is)
    (case saP => k_is)
    (case mkP => k_is)
    (case kcP => k_is)
    (case nP_pairs => k_is)
    (case nP_posts => k_is)
    (case aCA => k_is)
    (case aCW => k_is)
    (case aMOST => k_is)
    (case aLONGEST => k_is)
    (case ais_whole => k_is)
    (case lis_whole => k_is)
    (case cis_whole => k_is)
    (case kis_whole => k_is)
    (case awithin => k_is)
    (case lwithin => k_is)
    (case cwithin => k_is)
    (case kwithin => k_is)
    (case ais_road => k_is)
    (case lis_road => k_is)
    (case cis_road => k_is)
    (case kis_road => k_is)
    (case awalked => k_is)
    (case iwalked => k_is)
    (case lwalked => k_is)
    (case cwalked => k_is)
    (case kwalked => k_is)
    (case ainit => k_is)
    (case iinit => k_is)
    (case linit => k_is)
    (case cinit => k_is)
    (case kinit => k_is)
    (case acell => k_is)
    (case lcell => k_is)
    (case ccell => k_is)
    (case kcell => k_is)
    (case adraw => k_is)
    (case ldraw => k_is)
    (case cdraw => k_is)
    (case kdraw => k_is)
    (case aname => k_is)
    (case lname => k_is)
    (case cname => k_is)
    (case kname => k_is)
    (case atold => k_is)
    (case ltold => k_is)
    (case ctold => k_is)
    (case ktold => k_is)
    (case aPinit => k_is)
    (case iPinit => k_is)
    (case lPinit => k_is)
    (case cPinit => k_is)
    (case kPinit => k_is)
    (case ashows => k_is)
    (case ishows => k_is)
    (case lshows => k_is)
    (case cshows => k_is)
    (case kshows => k_is)
    (case aroad_of => k_is)
    (case lroad_of => k_is)
    (case croad_of => k_is)
    (case kroad_of => k_is)
    (case apaired => k_is)
    (case lpaired => k_is)
    (case cpaired => k_is)
    (case kpaired => k_is)
    (case ashown => k_is)
    (case lshown => k_is)
    (case cshown => k_is)
    (case kshown => k_is)
    (case arising => k_is)
    (case lrising => k_is)
    (case crising => k_is)
    (case krising => k_is)
    (case asays => k_is)
    (case lsays => k_is)
    (case csays => k_is)
    (case ksays => k_is)
    (case abent => k_is)
    (case lbent => k_is)
    (case cbent => k_is)
    (case kbent => k_is)
    (case achanged => k_is)
    (case lchanged => k_is)
    (case cchanged => k_is)
    (case kchanged => k_is)
    (case alaw => k_is)
    (case llaw => k_is)
    (case claw => k_is)
    (case klaw => k_is)
    (case haP => k_is)
    (case hnP => k_is)
    (case htP => k_is)
    (case hmP => k_is)
    (case k1P => kit_is)
    (case k2P => kit_is)
    (case k3P => kit_is)
    (case zlen => k_is)
    (case zisinstance => k_is)
    (case zlist => k_is)
    (case zint => k_is)
    (case zbool => k_is)
    (case ztuple => k_is)
    (case zrange => k_is)
    (case zset => k_is)
    (case zsorted => k_is)
    (case zsum => k_is)
    (case zmax => k_is)
    (case zmin => k_is)
    (case zany => k_is)
    (case zall => k_is)
    (case zreversed => k_is)
    (case zstr => k_is)
