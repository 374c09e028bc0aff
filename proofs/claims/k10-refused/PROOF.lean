import PyProof.Rows.All
import Wide.All
import OpenK.AllK
import Wide.FinOn
import HandS.ForMost
import HandS.IsInst
import HandS.Steps
import HandS.ForExc
import HandS.Strs
import HandS.Zip
import HandS.Conv
import HandS.More
import HandS.SortInts
import HandS.Codes
import PyProof.Rows.SortShellAny
import PyProof.TupleOfSeq
import HandS.Lambda
import HandS.EndTab
import HandS.SortKw
import KE.KSortKey
import HandS.ExcCtx
import HandS.HotCalls
import HandS.ExcIs
import KE.DataFind
import KE.GoesRaise
import HandS.Style
import HandS.TupLe
import KE.RegKIsAll
import PySem.Challenge.RW_wellroads_k10_refused
set_option Elab.async false
set_option linter.all false
set_option maxRecDepth 100000
set_option maxHeartbeats 4000000
namespace Wr

structure Road where
  a : Int
  b : Int
  l : Int
  deriving DecidableEq, Repr

def Adj (rs : List Road) (u v l : Int) : Prop := ∃ r ∈ rs, r.l = l ∧ ((r.a = u ∧ r.b = v) ∨ (r.b = u ∧ r.a = v))
theorem Adj.symm {rs : List Road} {u v l : Int} (h : Adj rs u v l) : Adj rs v u l := by
  obtain ⟨r, hr, hl, h⟩ := h
  refine ⟨r, hr, hl, ?_⟩
  rcases h with ⟨x, y⟩ | ⟨x, y⟩
  · exact .inr ⟨y, x⟩
  · exact .inl ⟨y, x⟩
theorem Adj.mono {rs rs' : List Road} {u v l : Int} (h : Adj rs u v l) (hs : ∀ r ∈ rs, r ∈ rs') : Adj rs' u v l := by
  obtain ⟨r, hr, h⟩ := h
  exact ⟨r, hs r hr, h⟩

inductive Walk (rs : List Road) (s : Int) : Int → Int → Prop
  | nil : Walk rs s s 0
  | snoc {v w d l : Int} : Walk rs s v d → Adj rs v w l → Walk rs s w (d + l)
theorem Walk.mono {rs rs' : List Road} {s v d : Int} (h : Walk rs s v d) (hs : ∀ r ∈ rs, r ∈ rs') : Walk rs' s v d := by
  induction h with
  | nil => exact .nil
  | snoc _ a ih => exact .snoc ih (a.mono hs)
theorem Walk.cons {rs : List Road} {s t v d l : Int} (a : Adj rs s t l) (h : Walk rs t v d) : Walk rs s v (l + d) := by
  induction h with
  | nil =>
    have := Walk.snoc (Walk.nil (rs := rs) (s := s)) a
    have e : (0 : Int) + l = l + 0 := by omega
    rw [← e]; exact this
  | snoc h a' ih =>
    have := Walk.snoc ih a'
    rw [Int.add_assoc] at this
    exact this
theorem Walk.symm {rs : List Road} {s v d : Int} (h : Walk rs s v d) : Walk rs v s d := by
  induction h with
  | nil => exact .nil
  | snoc h a ih =>
    have := Walk.cons a.symm ih
    rw [Int.add_comm] at this
    exact this
theorem Walk.trans {rs : List Road} {s v w d e : Int} (h : Walk rs s v d) (g : Walk rs v w e) : Walk rs s w (d + e) := by
  induction g with
  | nil => rw [Int.add_zero]; exact h
  | snoc g a ih =>
    have := Walk.snoc ih a
    rw [Int.add_assoc] at this
    exact this

def Reach (rs : List Road) (u v : Int) : Prop := ∃ d, Walk rs u v d
theorem Reach.symm {rs : List Road} {u v : Int} (h : Reach rs u v) : Reach rs v u := let ⟨d, w⟩ := h; ⟨d, w.symm⟩
theorem Reach.trans {rs : List Road} {u v w : Int} (h : Reach rs u v) (g : Reach rs v w) : Reach rs u w := let ⟨_, a⟩ := h; let ⟨_, b⟩ := g; ⟨_, a.trans b⟩
theorem Reach.refl {rs : List Road} {u : Int} : Reach rs u u := ⟨0, .nil⟩

/-- roads between villages that are there -/
structure RoadsOk (n : Nat) (rs : List Road) : Prop where
  ok : ∀ r ∈ rs, 0 ≤ r.a ∧ r.a < n ∧ 0 ≤ r.b ∧ r.b < n ∧ r.a ≠ r.b ∧ 1 ≤ r.l ∧ r.l ≤ 1000000

structure IsTree (n : Nat) (rs : List Road) : Prop extends RoadsOk n rs where
  pos : 1 ≤ n
  le : n ≤ 12
  len : rs.length + 1 = n
  conn : ∀ v : Int, 0 ≤ v → v < n → Reach rs 0 v

theorem Adj.range {n : Nat} {rs : List Road} (k : RoadsOk n rs) {u v l : Int} (h : Adj rs u v l) : 0 ≤ u ∧ u < n ∧ 0 ≤ v ∧ v < n ∧ u ≠ v ∧ 1 ≤ l ∧ l ≤ 1000000 := by
  obtain ⟨r, hr, hl, h⟩ := h
  have := k.ok r hr
  grind

/-! ### what a walk finds -/
abbrev Found := List (Int × (Int × Int))
def keys (f : Found) : List Int := f.map (·.1)
def parOf (f : Found) (v : Int) : Int := ((f.lookup v).getD (-1, 0)).1
def dOf (f : Found) (v : Int) : Int := ((f.lookup v).getD (-1, 0)).2

theorem lookup_none_iff {f : Found} {v : Int} : f.lookup v = none ↔ v ∉ keys f := by
  induction f with
  | nil => simp [keys]
  | cons e f ih =>
    obtain ⟨k, x⟩ := e
    by_cases h : v = k
    · subst h; simp [keys, List.lookup]
    · have : (v == k) = false := by simpa using h
      simp only [List.lookup, this, ih, keys, List.map_cons, List.mem_cons, not_or]
      exact ⟨fun q => ⟨h, q⟩, fun q => q.2⟩
theorem lookup_isSome_iff {f : Found} {v : Int} : (f.lookup v).isSome = true ↔ v ∈ keys f := by
  cases h : f.lookup v with
  | none => simp [lookup_none_iff.mp h]
  | some x =>
    simp only [Option.isSome_some, true_iff]
    apply Classical.byContradiction
    intro q
    rw [lookup_none_iff.mpr q] at h; cases h
theorem lookup_append {f : Found} {e : Int × (Int × Int)} {v : Int} (h : e.1 ∉ keys f) : (f ++ [e]).lookup v = if v = e.1 then some e.2 else f.lookup v := by
  obtain ⟨k, x⟩ := e
  rw [List.lookup_append]
  by_cases hv : v = k
  · subst hv
    rw [lookup_none_iff.mpr h]
    simp [List.lookup]
  · have : (v == k) = false := by simpa using hv
    simp [List.lookup, this, hv]
theorem keys_append (f g : Found) : keys (f ++ g) = keys f ++ keys g := by simp [keys]

inductive Growth (rs : List Road) (s : Int) : Found → Prop
  | start : Growth rs s [(s, (-1, 0))]
  | snoc {f : Found} {v p l : Int} : Growth rs s f → p ∈ keys f → Adj rs p v l → v ∉ keys f → Growth rs s (f ++ [(v, (p, dOf f p + l))])

section
variable {n : Nat} {rs : List Road} {s : Int} {f : Found}
theorem Growth.nodup (g : Growth rs s f) : (keys f).Nodup := by
  induction g with
  | start => simp [keys]
  | snoc g hp ha hv ih =>
    rw [keys_append]
    refine List.nodup_append.mpr ⟨ih, by simp [keys], ?_⟩
    intro a ha' b hb
    simp [keys] at hb
    subst hb
    intro e; subst e; exact hv ha'
theorem Growth.mem_start (g : Growth rs s f) : s ∈ keys f := by
  induction g with
  | start => simp [keys]
  | snoc g hp ha hv ih => rw [keys_append]; exact List.mem_append_left _ ih
theorem Growth.look_start (g : Growth rs s f) : f.lookup s = some (-1, 0) := by
  induction g with
  | start => simp [List.lookup]
  | @snoc f v p l g hp ha hv ih =>
    rw [lookup_append (e := (v, (p, dOf f p + l))) hv, if_neg, ih]
    intro e
    have e : s = v := e
    exact hv (e ▸ g.mem_start)
theorem Growth.range (k : RoadsOk n rs) (hs : 0 ≤ s ∧ s < n) (g : Growth rs s f) : ∀ v ∈ keys f, 0 ≤ v ∧ v < n := by
  induction g with
  | start => intro v hv; simp [keys] at hv; subst hv; exact hs
  | snoc g hp ha hv ih =>
    intro v' hv'
    rw [keys_append] at hv'
    rcases List.mem_append.mp hv' with h | h
    · exact ih v' h
    · simp [keys] at h
      subst h
      have := ha.range k
      exact ⟨this.2.2.1, this.2.2.2.1⟩
/-- each later entry: its parent, the road -/
theorem Growth.entry (g : Growth rs s f) : ∀ v, v ∈ keys f → v ≠ s → ∃ p l, f.lookup v = some (p, dOf f p + l) ∧ p ∈ keys f ∧ Adj rs p v l := by
  induction g with
  | start => intro v hv hn; simp [keys] at hv; exact absurd hv hn
  | @snoc f v p l g hp ha hv ih =>
    intro v' hv' hn
    have dd : ∀ x, x ∈ keys f → dOf (f ++ [(v, (p, dOf f p + l))]) x = dOf f x := by
      intro x hx
      unfold dOf
      rw [lookup_append (e := (v, (p, _))) hv, if_neg (fun e => hv ((show x = v from e) ▸ hx))]
    rw [keys_append] at hv'
    by_cases e : v' = v
    · subst e
      refine ⟨p, l, ?_, ?_, ha⟩
      · rw [lookup_append (e := (v', (p, _))) hv, if_pos rfl, dd p hp]
      · rw [keys_append]; exact List.mem_append_left _ hp
    · have hv'' : v' ∈ keys f := by
        rcases List.mem_append.mp hv' with h | h
        · exact h
        · simp [keys] at h; exact absurd h e
      obtain ⟨p', l', h1, h2, h3⟩ := ih v' hv'' hn
      refine ⟨p', l', ?_, ?_, h3⟩
      · rw [lookup_append (e := (v, (p, _))) hv, if_neg e, h1, dd p' h2]
      · rw [keys_append]; exact List.mem_append_left _ h2
theorem Growth.walk (g : Growth rs s f) : ∀ v, v ∈ keys f → Walk rs s v (dOf f v) := by
  induction g with
  | start =>
    intro v hv; simp [keys] at hv; subst hv
    have : dOf [(v, (-1, 0))] v = 0 := by simp [dOf, List.lookup]
    rw [this]; exact .nil
  | @snoc f v p l g hp ha hv ih =>
    intro v' hv'
    rw [keys_append] at hv'
    by_cases e : v' = v
    · subst e
      have : dOf (f ++ [(v', (p, dOf f p + l))]) v' = dOf f p + l := by
        unfold dOf
        rw [lookup_append (e := (v', (p, _))) hv, if_pos rfl]; rfl
      rw [this]
      exact .snoc (ih p hp) ha
    · have hv'' : v' ∈ keys f := by
        rcases List.mem_append.mp hv' with h | h
        · exact h
        · simp [keys] at h; exact absurd h e
      have : dOf (f ++ [(v, (p, dOf f p + l))]) v' = dOf f v' := by
        unfold dOf
        rw [lookup_append (e := (v, (p, _))) hv, if_neg e]
      rw [this]
      exact ih v' hv''
def Used (f : Found) (r : Road) : Prop := (f.lookup r.b = some (r.a, dOf f r.a + r.l)) ∨ (f.lookup r.a = some (r.b, dOf f r.b + r.l))
/-- the roads that were used, each with its child -/
theorem Growth.used (g : Growth rs s f) : ∃ idx : List (Nat × Int), idx.length + 1 = f.length ∧ (idx.map (·.1)).Nodup ∧ (idx.map (·.2)).Nodup ∧
    ∀ q ∈ idx, ∃ r, rs[q.1]? = some r ∧ r.a ∈ keys f ∧ r.b ∈ keys f ∧ ((q.2 = r.b ∧ f.lookup r.b = some (r.a, dOf f r.a + r.l)) ∨ (q.2 = r.a ∧ f.lookup r.a = some (r.b, dOf f r.b + r.l))) := by
  induction g with
  | start => exact ⟨[], rfl, List.nodup_nil, List.nodup_nil, fun _ h => nomatch h⟩
  | @snoc f v p l g hp ha hv ih =>
    obtain ⟨idx, h1, h2, h3, h4⟩ := ih
    obtain ⟨r, hr, hl, hends⟩ := ha
    obtain ⟨i, hi, hri⟩ := List.getElem_of_mem hr
    have dd : ∀ x, x ∈ keys f → dOf (f ++ [(v, (p, dOf f p + l))]) x = dOf f x := by
      intro x hx
      unfold dOf
      rw [lookup_append (e := (v, (p, _))) hv, if_neg (fun e => hv ((show x = v from e) ▸ hx))]
    have ll : ∀ x, x ∈ keys f → (f ++ [(v, (p, dOf f p + l))]).lookup x = f.lookup x := by
      intro x hx
      rw [lookup_append (e := (v, (p, _))) hv, if_neg (fun e => hv ((show x = v from e) ▸ hx))]
    have kk : ∀ x, x ∈ keys f → x ∈ keys (f ++ [(v, (p, dOf f p + l))]) := fun x hx => by
      rw [keys_append]; exact List.mem_append_left _ hx
    have kv : v ∈ keys (f ++ [(v, (p, dOf f p + l))]) := by rw [keys_append]; simp [keys]
    have hin : i ∉ idx.map (·.1) := by
      intro hm
      obtain ⟨q, hq, e⟩ := List.mem_map.mp hm
      obtain ⟨r', hr', k1, k2, _⟩ := h4 q hq
      rw [e, List.getElem?_eq_getElem hi, hri] at hr'
      cases hr'
      rcases hends with ⟨e1, e2⟩ | ⟨e1, e2⟩
      · rw [e2] at k2; exact hv k2
      · rw [e2] at k1; exact hv k1
    have hvn : v ∉ idx.map (·.2) := by
      intro hm
      obtain ⟨q, hq, e⟩ := List.mem_map.mp hm
      obtain ⟨r', hr', k1, k2, k3⟩ := h4 q hq
      rcases k3 with ⟨e', _⟩ | ⟨e', _⟩
      · rw [e] at e'; rw [← e'] at k2; exact hv k2
      · rw [e] at e'; rw [← e'] at k1; exact hv k1
    refine ⟨(i, v) :: idx, by simp; omega, ?_, ?_, ?_⟩
    · rw [List.map_cons]; exact List.nodup_cons.mpr ⟨hin, h2⟩
    · rw [List.map_cons]; exact List.nodup_cons.mpr ⟨hvn, h3⟩
    · intro q hq
      rcases (List.mem_cons.mp hq) with rfl | hq
      · refine ⟨r, by rw [List.getElem?_eq_getElem hi, hri], ?_⟩
        have lv : (f ++ [(v, (p, dOf f p + l))]).lookup v = some (p, dOf f p + l) := by
          rw [lookup_append (e := (v, (p, _))) hv, if_pos rfl]
        rcases hends with ⟨e1, e2⟩ | ⟨e1, e2⟩
        · refine ⟨by rw [e1]; exact kk p hp, by rw [e2]; exact kv, .inl ⟨e2.symm, ?_⟩⟩
          rw [e2, lv, e1, dd p hp, hl]
        · refine ⟨by rw [e2]; exact kv, by rw [e1]; exact kk p hp, .inr ⟨e2.symm, ?_⟩⟩
          rw [e2, lv, e1, dd p hp, hl]
      · obtain ⟨r', hr', k1, k2, k3⟩ := h4 q hq
        refine ⟨r', hr', kk _ k1, kk _ k2, ?_⟩
        rcases k3 with ⟨e', k3⟩ | ⟨e', k3⟩
        · exact .inl ⟨e', by rw [ll _ k2, k3, dd _ k1]⟩
        · exact .inr ⟨e', by rw [ll _ k1, k3, dd _ k2]⟩
end

/-! ### a full one: every village is found -/
structure Full (n : Nat) (rs : List Road) (s : Int) (f : Found) : Prop where
  gr : Growth rs s f
  all : ∀ v : Int, 0 ≤ v → v < n → v ∈ keys f
def ivs (n : Nat) : List Int := (List.range n).map fun (i : Nat) => (i : Int)
theorem mem_ivs {n : Nat} {v : Int} : v ∈ ivs n ↔ 0 ≤ v ∧ v < n := by
  unfold ivs
  rw [List.mem_map]
  constructor
  · rintro ⟨i, hi, rfl⟩
    have := List.mem_range.mp hi
    omega
  · intro h
    exact ⟨v.toNat, List.mem_range.mpr (by omega), by omega⟩
theorem ivs_nodup (n : Nat) : (ivs n).Nodup := by
  unfold ivs List.Nodup
  rw [List.pairwise_map]
  exact List.Pairwise.imp (R := fun (a b : Nat) => a ≠ b) (fun {a b} (h : a ≠ b) (e : (a : Int) = (b : Int)) => h (by omega)) List.nodup_range
theorem ivs_length (n : Nat) : (ivs n).length = n := by simp [ivs]
section
variable {n : Nat} {rs : List Road} {s : Int} {f : Found}
theorem Full.length (k : RoadsOk n rs) (hs : 0 ≤ s ∧ s < n) (F : Full n rs s f) : f.length = n := by
  have h1 : (keys f).length ≤ (ivs n).length := List.Nodup.length_le_of_subset F.gr.nodup fun v hv => mem_ivs.mpr (F.gr.range k hs v hv)
  have h2 : (ivs n).length ≤ (keys f).length := List.Nodup.length_le_of_subset (ivs_nodup n) fun v hv => F.all v (mem_ivs.mp hv).1 (mem_ivs.mp hv).2
  rw [ivs_length] at h1 h2
  simp [keys] at h1 h2
  omega
theorem Growth.length_le (k : RoadsOk n rs) (hs : 0 ≤ s ∧ s < n) (g : Growth rs s f) : f.length ≤ n := by
  have h1 : (keys f).length ≤ (ivs n).length := List.Nodup.length_le_of_subset g.nodup fun v hv => mem_ivs.mpr (g.range k hs v hv)
  rw [ivs_length] at h1
  simpa [keys] using h1
theorem pigeon {k : Nat} {l : List Nat} (nd : l.Nodup) (hl : ∀ i ∈ l, i < k) (e : l.length = k) : ∀ i, i < k → i ∈ l := by
  intro i hi
  apply Classical.byContradiction
  intro hn
  have h := List.Nodup.length_le_of_subset (l₁ := i :: l) (l₂ := List.range k) (List.nodup_cons.mpr ⟨hn, nd⟩) (fun x hx => by
    rcases (List.mem_cons.mp hx) with rfl | hx
    · exact List.mem_range.mpr hi
    · exact List.mem_range.mpr (hl x hx))
  rw [List.length_range, List.length_cons] at h
  omega
theorem Full.idx (T : IsTree n rs) (hs : 0 ≤ s ∧ s < n) (F : Full n rs s f) : ∃ idx : List (Nat × Int), (idx.map (·.1)).Nodup ∧ (idx.map (·.2)).Nodup ∧ (∀ i, i < rs.length → ∃ v, (i, v) ∈ idx) ∧
    ∀ q ∈ idx, ∃ r, rs[q.1]? = some r ∧ r.a ∈ keys f ∧ r.b ∈ keys f ∧ ((q.2 = r.b ∧ f.lookup r.b = some (r.a, dOf f r.a + r.l)) ∨ (q.2 = r.a ∧ f.lookup r.a = some (r.b, dOf f r.b + r.l))) := by
  obtain ⟨idx, h1, h2, h3, h4⟩ := F.gr.used
  refine ⟨idx, h2, h3, fun i hi => ?_, h4⟩
  have el : (idx.map (·.1)).length = rs.length := by
    have := F.length T.toRoadsOk hs
    have := T.len
    rw [List.length_map]; omega
  have := pigeon h2 (k := rs.length) (fun j hj => by
    obtain ⟨q, hq, e⟩ := List.mem_map.mp hj
    obtain ⟨r, hr, _⟩ := h4 q hq
    rw [e] at hr
    exact (List.getElem?_eq_some_iff.mp hr).1) el i hi
  obtain ⟨q, hq, e⟩ := (List.mem_map.mp this)
  exact ⟨q.2, by rw [← e]; exact hq⟩
/-- every road was used -/
theorem Full.used (T : IsTree n rs) (hs : 0 ≤ s ∧ s < n) (F : Full n rs s f) : ∀ r ∈ rs, Used f r := by
  intro r hr
  obtain ⟨idx, _, _, h3, h4⟩ := F.idx T hs
  obtain ⟨i, hi, hri⟩ := List.getElem_of_mem hr
  obtain ⟨v, hv⟩ := h3 i hi
  obtain ⟨r', hr', _, _, h⟩ := h4 _ hv
  rw [List.getElem?_eq_getElem hi, hri] at hr'
  cases hr'
  rcases h with ⟨_, h⟩ | ⟨_, h⟩
  · exact .inl h
  · exact .inr h
theorem dOf_of {v p d : Int} (h : f.lookup v = some (p, d)) : dOf f v = d := by unfold dOf; rw [h]; rfl
theorem parOf_of {v p d : Int} (h : f.lookup v = some (p, d)) : parOf f v = p := by unfold parOf; rw [h]; rfl
def SameEnds (r t : Road) : Prop := (r.a = t.a ∧ r.b = t.b) ∨ (r.a = t.b ∧ r.b = t.a)
theorem nodup_fst {idx : List (Nat × Int)} (h : (idx.map (·.2)).Nodup) {i j : Nat} {v : Int} (hi : (i, v) ∈ idx) (hj : (j, v) ∈ idx) : i = j := by
  induction idx with
  | nil => cases hi
  | cons e t ih =>
    simp only [List.map_cons, List.nodup_cons] at h
    rcases List.mem_cons.mp hi with h1 | h1 <;> rcases List.mem_cons.mp hj with h2 | h2
    · have := h1.trans h2.symm; exact (Prod.mk.inj this).1
    · exact absurd (List.mem_map.mpr ⟨_, h2, by rw [← h1]⟩) h.1
    · exact absurd (List.mem_map.mpr ⟨_, h1, by rw [← h2]⟩) h.1
    · exact ih h.2 h1 h2
/-- no two roads between the same villages -/
theorem Full.single (T : IsTree n rs) (hs : 0 ≤ s ∧ s < n) (F : Full n rs s f) {i j : Nat} {r t : Road} (hi : rs[i]? = some r) (hj : rs[j]? = some t) (he : SameEnds r t) : i = j := by
  obtain ⟨idx, _, h2, h3, h4⟩ := F.idx T hs
  have hi' := (List.getElem?_eq_some_iff.mp hi).1
  have hj' := (List.getElem?_eq_some_iff.mp hj).1
  obtain ⟨v, hv⟩ := h3 i hi'
  obtain ⟨w, hw⟩ := h3 j hj'
  obtain ⟨r', hr', _, _, k1⟩ := h4 _ hv
  obtain ⟨t', ht', _, _, k2⟩ := h4 _ hw
  rw [hi] at hr'; cases hr'
  rw [hj] at ht'; cases ht'
  have o1 := T.ok r (List.mem_of_getElem? hi)
  have o2 := T.ok t (List.mem_of_getElem? hj)
  by_cases e : v = w
  · subst e; exact nodup_fst h2 hv hw
  · exfalso
    unfold SameEnds at he
    rcases k1 with ⟨e1, k1⟩ | ⟨e1, k1⟩ <;> rcases k2 with ⟨e2, k2⟩ | ⟨e2, k2⟩
    all_goals
      have d1 := dOf_of k1
      have d2 := dOf_of k2
      rcases he with ⟨x1, x2⟩ | ⟨x1, x2⟩
      all_goals
        simp only at e1 e2
        first
          | (exact e (by rw [e1, e2]; assumption))
          | (exact e (by rw [e1, e2]; first | exact x1 | exact x2))
          | (rw [x1] at d1; rw [x2] at d1; omega)
          | (rw [x1, x2] at d1; omega)
          | grind
end
end Wr

namespace Wr

def scan (here : Int) : List Road → Found → List Int → Found × List Int
  | [], f, w => (f, w)
  | r :: rs, f, w =>
    if here = r.a ∨ here = r.b then
      if (f.lookup (r.a + r.b - here)).isSome then scan here rs f w
      else scan here rs (f ++ [(r.a + r.b - here, (here, dOf f here + r.l))]) (w ++ [r.a + r.b - here])
    else scan here rs f w
theorem scan_cons (here : Int) (r : Road) (rs : List Road) (f : Found) (w : List Int) : scan here (r :: rs) f w = if here = r.a ∨ here = r.b then
      if (f.lookup (r.a + r.b - here)).isSome then scan here rs f w
      else scan here rs (f ++ [(r.a + r.b - here, (here, dOf f here + r.l))]) (w ++ [r.a + r.b - here])
    else scan here rs f w := rfl
def bfsGo (rs : List Road) : Nat → Found → List Int → Found
  | 0, f, _ => f
  | _ + 1, f, [] => f
  | k + 1, f, h :: t => bfsGo rs k (scan h rs f t).1 (scan h rs f t).2
/-- what Tree.walked finds -/
def walked (n : Nat) (rs : List Road) (s : Int) : Found := bfsGo rs n [(s, (-1, 0))] [s]

section
variable {n : Nat} {rs : List Road} {s : Int} {f : Found}
theorem scan_spec (here : Int) : ∀ (rs' : List Road) (f : Found) (w : List Int), (∀ r ∈ rs', r ∈ rs) → Growth rs s f → here ∈ keys f →
    Growth rs s (scan here rs' f w).1 ∧ (∃ more : Found, (scan here rs' f w).1 = f ++ more ∧ (scan here rs' f w).2 = w ++ keys more) ∧
    ∀ r ∈ rs', (here = r.a ∨ here = r.b) → (r.a + r.b - here) ∈ keys (scan here rs' f w).1
  | [], f, w, _, g, _ => ⟨g, ⟨[], by simp [scan], by simp [scan, keys]⟩, fun _ h => nomatch h⟩
  | r :: rs', f, w, hs, g, hh => by
    unfold scan
    by_cases c : here = r.a ∨ here = r.b
    · rw [if_pos c]
      by_cases d : (f.lookup (r.a + r.b - here)).isSome = true
      · rw [if_pos d]
        obtain ⟨h1, ⟨more, h2, h3⟩, h4⟩ := scan_spec here rs' f w (fun r h => hs r (List.mem_cons_of_mem _ h)) g hh
        refine ⟨h1, ⟨more, h2, h3⟩, fun r' hr' c' => ?_⟩
        rcases List.mem_cons.mp hr' with rfl | hr'
        · rw [h2, keys_append]
          exact List.mem_append_left _ (lookup_isSome_iff.mp d)
        · exact h4 r' hr' c'
      · rw [if_neg d]
        have hv : (r.a + r.b - here) ∉ keys f := fun q => d (lookup_isSome_iff.mpr q)
        have ad : Adj rs here (r.a + r.b - here) r.l := by
          refine ⟨r, hs r (List.mem_cons_self ..), rfl, ?_⟩
          rcases c with c | c
          · exact .inl ⟨c.symm, by omega⟩
          · exact .inr ⟨c.symm, by omega⟩
        have g' := Growth.snoc g hh ad hv
        obtain ⟨h1, ⟨more, h2, h3⟩, h4⟩ := scan_spec here rs' (f ++ [(r.a + r.b - here, (here, dOf f here + r.l))]) (w ++ [r.a + r.b - here]) (fun r h => hs r (List.mem_cons_of_mem _ h)) g' (by rw [keys_append]; exact List.mem_append_left _ hh)
        refine ⟨h1, ⟨(r.a + r.b - here, (here, dOf f here + r.l)) :: more, by rw [h2]; simp, by rw [h3]; simp [keys]⟩, fun r' hr' c' => ?_⟩
        rcases List.mem_cons.mp hr' with rfl | hr'
        · rw [h2, keys_append, keys_append]
          exact List.mem_append_left _ (List.mem_append_right _ (by simp [keys]))
        · exact h4 r' hr' c'
    · rw [if_neg c]
      obtain ⟨h1, ⟨more, h2, h3⟩, h4⟩ := scan_spec here rs' f w (fun r h => hs r (List.mem_cons_of_mem _ h)) g hh
      refine ⟨h1, ⟨more, h2, h3⟩, fun r' hr' c' => ?_⟩
      rcases List.mem_cons.mp hr' with rfl | hr'
      · exact absurd c' c
      · exact h4 r' hr' c'
def Closed (rs : List Road) (f : Found) : Prop := ∀ u v l, u ∈ keys f → Adj rs u v l → v ∈ keys f
theorem bfsGo_spec (k : RoadsOk n rs) (hs : 0 ≤ s ∧ s < n) : ∀ (m : Nat) (f : Found) (w : List Int), Growth rs s f → (∀ x ∈ w, x ∈ keys f) →
    (∀ u ∈ keys f, u ∈ w ∨ ∀ v l, Adj rs u v l → v ∈ keys f) → n + w.length ≤ f.length + m → Growth rs s (bfsGo rs m f w) ∧ Closed rs (bfsGo rs m f w)
  | 0, f, w, g, hw, hc, hm => by
    unfold bfsGo
    have := g.length_le k hs
    have w0 : w = [] := List.eq_nil_of_length_eq_zero (by omega)
    subst w0
    refine ⟨g, fun u v l hu ha => ?_⟩
    rcases hc u hu with h | h
    · cases h
    · exact h v l ha
  | m + 1, f, [], g, hw, hc, hm => by
    unfold bfsGo
    refine ⟨g, fun u v l hu ha => ?_⟩
    rcases hc u hu with h | h
    · cases h
    · exact h v l ha
  | m + 1, f, h :: t, g, hw, hc, hm => by
    unfold bfsGo
    have hh := hw h (List.mem_cons_self ..)
    obtain ⟨h1, ⟨more, h2, h3⟩, h4⟩ := scan_spec (rs := rs) h rs f t (fun _ q => q) g hh
    refine bfsGo_spec k hs m _ _ h1 ?_ ?_ ?_
    · intro x hx
      rw [h3] at hx
      rw [h2, keys_append]
      rcases List.mem_append.mp hx with q | q
      · exact List.mem_append_left _ (hw x (List.mem_cons_of_mem _ q))
      · exact List.mem_append_right _ q
    · intro u hu
      rw [h3]
      rw [h2, keys_append] at hu
      rcases List.mem_append.mp hu with q | q
      · by_cases e : u = h
        · subst e
          refine .inr fun v l ⟨r, hr, _, ends⟩ => ?_
          rcases ends with ⟨e1, e2⟩ | ⟨e1, e2⟩
          · have := h4 r hr (.inl e1.symm)
            rw [show r.a + r.b - u = v by omega] at this
            exact this
          · have := h4 r hr (.inr e1.symm)
            rw [show r.a + r.b - u = v by omega] at this
            exact this
        · rcases hc u q with q' | q'
          · rcases List.mem_cons.mp q' with q' | q'
            · exact absurd q' e
            · exact .inl (List.mem_append_left _ q')
          · refine .inr fun v l ha => ?_
            rw [h2, keys_append]
            exact List.mem_append_left _ (q' v l ha)
      · exact .inl (List.mem_append_right _ q)
    · rw [h2, h3]
      simp [keys] at hm ⊢
      omega
theorem walked_spec (k : RoadsOk n rs) (hs : 0 ≤ s ∧ s < n) : Growth rs s (walked n rs s) ∧ Closed rs (walked n rs s) := by
  unfold walked
  refine bfsGo_spec k hs n _ _ .start (fun x hx => by simpa [keys] using hx) (fun u hu => .inl (by simpa [keys] using hu)) (by simp; omega)
theorem Closed.reach (c : Closed rs f) {u v d : Int} (w : Walk rs u v d) (hu : u ∈ keys f) : v ∈ keys f := by
  induction w with
  | nil => exact hu
  | snoc _ a ih => exact c _ _ _ ih a
theorem IsTree.reach (T : IsTree n rs) {u v : Int} (hu : 0 ≤ u ∧ u < n) (hv : 0 ≤ v ∧ v < n) : Reach rs u v := (T.conn u hu.1 hu.2).symm.trans (T.conn v hv.1 hv.2)
theorem IsTree.full (T : IsTree n rs) (hs : 0 ≤ s ∧ s < n) (g : Growth rs s f) (c : Closed rs f) : Full n rs s f :=
  ⟨g, fun v h1 h2 => let ⟨_, w⟩ := T.reach hs ⟨h1, h2⟩; c.reach w g.mem_start⟩
theorem IsTree.walked (T : IsTree n rs) (hs : 0 ≤ s ∧ s < n) : Full n rs s (walked n rs s) :=
  let ⟨g, c⟩ := walked_spec T.toRoadsOk hs
  T.full hs g c
/-- so many villages come to: then it is a tree -/
theorem tree_of_len (k : RoadsOk n rs) (h1 : 1 ≤ n) (h2 : n ≤ 12) (h3 : rs.length + 1 = n) (h4 : ¬ ((walked n rs 0).length < n)) : IsTree n rs := by
  refine ⟨k, h1, h2, h3, fun v hv hv2 => ?_⟩
  have hs : (0 : Int) ≤ 0 ∧ (0 : Int) < n := ⟨Int.le_refl _, by omega⟩
  obtain ⟨g, c⟩ := walked_spec k hs
  have : v ∈ keys (walked n rs 0) := by
    apply Classical.byContradiction
    intro hn
    have := List.Nodup.length_le_of_subset (l₁ := v :: keys (walked n rs 0)) (l₂ := ivs n) (List.nodup_cons.mpr ⟨hn, g.nodup⟩) (fun x hx => by
      rcases (List.mem_cons.mp hx) with rfl | hx
      · exact mem_ivs.mpr ⟨hv, hv2⟩
      · exact mem_ivs.mpr (g.range k hs x hx))
    rw [ivs_length, List.length_cons] at this
    simp [keys] at this
    omega
  exact ⟨_, g.walk v this⟩
theorem IsTree.len_walked (T : IsTree n rs) (hs : 0 ≤ s ∧ s < n) : (Wr.walked n rs s).length = n := (T.walked hs).length T.toRoadsOk hs

/-! ### distances -/
def D (n : Nat) (rs : List Road) (s v : Int) : Int := dOf (walked n rs s) v
theorem Full.step (T : IsTree n rs) (hs : 0 ≤ s ∧ s < n) (F : Full n rs s f) {u v l : Int} (a : Adj rs u v l) : dOf f v = dOf f u + l ∨ dOf f u = dOf f v + l := by
  obtain ⟨r, hr, rfl, ends⟩ := a
  have := F.used T hs r hr
  rcases this with h | h
  · have := dOf_of h
    rcases ends with ⟨rfl, rfl⟩ | ⟨rfl, rfl⟩
    · exact .inl this
    · exact .inr this
  · have := dOf_of h
    rcases ends with ⟨rfl, rfl⟩ | ⟨rfl, rfl⟩
    · exact .inr this
    · exact .inl this
theorem dOf_start (g : Growth rs s f) : dOf f s = 0 := dOf_of g.look_start
theorem Full.least (T : IsTree n rs) (hs : 0 ≤ s ∧ s < n) (F : Full n rs s f) {v d : Int} (w : Walk rs s v d) : dOf f v ≤ d := by
  induction w with
  | nil => rw [dOf_start F.gr]; exact Int.le_refl _
  | snoc _ a ih =>
    have := (a.range T.toRoadsOk).2.2.2.2.2.1
    rcases F.step T hs a with h | h <;> omega
theorem Full.dist (T : IsTree n rs) (hs : 0 ≤ s ∧ s < n) (F : Full n rs s f) {v : Int} (hv : 0 ≤ v ∧ v < n) : dOf f v = D n rs s v := by
  have G := T.walked hs
  have h1 := F.least T hs (G.gr.walk v (G.all v hv.1 hv.2))
  have h2 := G.least T hs (F.gr.walk v (F.all v hv.1 hv.2))
  unfold D
  omega
theorem D_self (T : IsTree n rs) (hs : 0 ≤ s ∧ s < n) : D n rs s s = 0 := dOf_start (T.walked hs).gr
theorem D_walk (T : IsTree n rs) (hs : 0 ≤ s ∧ s < n) {v : Int} (hv : 0 ≤ v ∧ v < n) : Walk rs s v (D n rs s v) := (T.walked hs).gr.walk v ((T.walked hs).all v hv.1 hv.2)
theorem D_least (T : IsTree n rs) (hs : 0 ≤ s ∧ s < n) {v d : Int} (w : Walk rs s v d) : D n rs s v ≤ d := (T.walked hs).least T hs w
theorem D_symm (T : IsTree n rs) {u v : Int} (hu : 0 ≤ u ∧ u < n) (hv : 0 ≤ v ∧ v < n) : D n rs u v = D n rs v u := by
  have h1 := D_least T hu (D_walk T hv hu).symm
  have h2 := D_least T hv (D_walk T hu hv).symm
  omega
theorem D_tri (T : IsTree n rs) {u v w : Int} (hu : 0 ≤ u ∧ u < n) (hv : 0 ≤ v ∧ v < n) (hw : 0 ≤ w ∧ w < n) : D n rs u w ≤ D n rs u v + D n rs v w :=
  D_least T hu ((D_walk T hu hv).trans (D_walk T hv hw))
theorem Walk.nonneg (k : RoadsOk n rs) {u v d : Int} (w : Walk rs u v d) : 0 ≤ d := by
  induction w with
  | nil => exact Int.le_refl _
  | snoc _ a ih => have := (a.range k).2.2.2.2.2.1; omega
theorem D_nonneg (T : IsTree n rs) {u v : Int} (hu : 0 ≤ u ∧ u < n) (hv : 0 ≤ v ∧ v < n) : 0 ≤ D n rs u v := (D_walk T hu hv).nonneg T.toRoadsOk
/-- A: each road goes up or down -/
theorem D_step (T : IsTree n rs) (hs : 0 ≤ s ∧ s < n) {u v l : Int} (a : Adj rs u v l) : D n rs s v = D n rs s u + l ∨ D n rs s u = D n rs s v + l := (T.walked hs).step T hs a
/-- B: one parent -/
theorem D_par (T : IsTree n rs) (hs : 0 ≤ s ∧ s < n) {u v l : Int} (a : Adj rs u v l) (h : D n rs s v = D n rs s u + l) : (Wr.walked n rs s).lookup v = some (u, D n rs s v) := by
  obtain ⟨r, hr, rfl, ends⟩ := a
  have := T.ok r hr
  have used := (T.walked hs).used T hs r hr
  unfold D at h ⊢
  rcases used with q | q
  · have e := dOf_of q
    rcases ends with ⟨rfl, rfl⟩ | ⟨rfl, rfl⟩
    · rw [q]; simp; omega
    · omega
  · have e := dOf_of q
    rcases ends with ⟨rfl, rfl⟩ | ⟨rfl, rfl⟩
    · omega
    · rw [q]; simp; omega
theorem D_par_unique (T : IsTree n rs) (hs : 0 ≤ s ∧ s < n) {u u' v l l' : Int} (a : Adj rs u v l) (h : D n rs s v = D n rs s u + l) (a' : Adj rs u' v l') (h' : D n rs s v = D n rs s u' + l') : u = u' := by
  have h1 := D_par T hs a h
  have h2 := D_par T hs a' h'
  rw [h1] at h2
  injection h2 with h2
  exact congrArg Prod.fst h2
/-- P4: there is a parent -/
theorem D_parent (T : IsTree n rs) (hs : 0 ≤ s ∧ s < n) {v : Int} (hv : 0 ≤ v ∧ v < n) (hn : v ≠ s) : ∃ p l, (Wr.walked n rs s).lookup v = some (p, D n rs s v) ∧ Adj rs p v l ∧ D n rs s v = D n rs s p + l ∧ 0 ≤ p ∧ p < n := by
  have F := T.walked hs
  obtain ⟨p, l, h1, h2, h3⟩ := F.gr.entry v (F.all v hv.1 hv.2) hn
  have e := dOf_of h1
  have r := F.gr.range T.toRoadsOk hs p h2
  refine ⟨p, l, ?_, h3, e, r.1, r.2⟩
  rw [h1]
  unfold D
  rw [e]
theorem D_edge (T : IsTree n rs) {u v l : Int} (a : Adj rs u v l) : D n rs u v = l := by
  have r := a.range T.toRoadsOk
  have hu : 0 ≤ u ∧ u < n := ⟨r.1, r.2.1⟩
  have hv : 0 ≤ v ∧ v < n := ⟨r.2.2.1, r.2.2.2.1⟩
  have := D_self T hu
  have := D_nonneg T hu hv
  rcases D_step T hu a with h | h <;> omega
theorem D_pos (T : IsTree n rs) {u v : Int} (hu : 0 ≤ u ∧ u < n) (hv : 0 ≤ v ∧ v < n) (hn : v ≠ u) : 0 < D n rs u v := by
  obtain ⟨p, l, _, a, h, hp1, hp2⟩ := D_parent T hu hv hn
  have := (a.range T.toRoadsOk).2.2.2.2.2.1
  have := D_nonneg T hu ⟨hp1, hp2⟩
  omega
end
end Wr

namespace Wr

/-- up from x to the start o of a found one -/
inductive Down (f : Found) (o : Int) : Int → List Int → Prop
  | last : Down f o o [o]
  | step {x p d : Int} {q : List Int} : x ≠ o → f.lookup x = some (p, d) → Down f o p q → Down f o x (x :: q)
def wayGo (f : Found) (o : Int) : Nat → Int → List Int
  | 0, x => [x]
  | k + 1, x => if x = o then [x] else x :: wayGo f o k (parOf f x)
def wayL (n : Nat) (rs : List Road) (u v : Int) : List Int := wayGo (walked n rs v) v (D n rs v u).toNat u
section
variable {n : Nat} {rs : List Road} {s o : Int} {f : Found}
theorem wayGo_down (T : IsTree n rs) (ho : 0 ≤ o ∧ o < n) : ∀ (k : Nat) (x : Int), 0 ≤ x → x < n → D n rs o x ≤ k → Down (walked n rs o) o x (wayGo (walked n rs o) o k x)
  | 0, x, h0, h1, hd => by
    have e : x = o := by
      apply Classical.byContradiction
      intro hn
      have := D_pos T ho ⟨h0, h1⟩ hn
      omega
    subst e
    exact .last
  | k + 1, x, h0, h1, hd => by
    unfold wayGo
    by_cases e : x = o
    · rw [if_pos e, e]; exact .last
    · rw [if_neg e]
      obtain ⟨p, l, h, a, hD, hp0, hp1⟩ := D_parent T ho ⟨h0, h1⟩ e
      have := (a.range T.toRoadsOk).2.2.2.2.2.1
      rw [parOf_of h]
      exact .step e h (wayGo_down T ho k p hp0 hp1 (by omega))
theorem wayL_down (T : IsTree n rs) {u v : Int} (hu : 0 ≤ u ∧ u < n) (hv : 0 ≤ v ∧ v < n) : Down (walked n rs v) v u (wayL n rs u v) :=
  wayGo_down T hv _ u hu.1 hu.2 (by have := D_nonneg T hv hu; omega)
theorem Down.head {x : Int} {q : List Int} (h : Down f o x q) : ∃ t, q = x :: t := by
  cases h with
  | last => exact ⟨[], rfl⟩
  | step => exact ⟨_, rfl⟩
theorem Down.getLast {x : Int} {q : List Int} (h : Down f o x q) : q.getLast? = some o := by
  induction h with
  | last => rfl
  | step _ _ h ih =>
    obtain ⟨t, rfl⟩ := h.head
    rw [List.getLast?_cons_cons]; exact ih
theorem Down.eq {x : Int} {q r : List Int} (h : Down f o x q) (g : Down f o x r) : q = r := by
  induction h generalizing r with
  | last => cases g with | last => rfl | step hn => exact absurd rfl hn
  | step hn hl h ih =>
    cases g with
    | last => exact absurd rfl hn
    | step _ hl' g =>
      rw [hl] at hl'
      injection hl' with e
      injection e with e1 e2
      subst e1
      rw [ih g]
/-- all of it stands, nearer and nearer -/
theorem Down.facts (T : IsTree n rs) (ho : 0 ≤ o ∧ o < n) {x : Int} {q : List Int} (h : Down (walked n rs o) o x q) (hx : 0 ≤ x ∧ x < n) :
    q.Nodup ∧ ∀ y ∈ q, 0 ≤ y ∧ y < n ∧ D n rs o y ≤ D n rs o x := by
  induction h with
  | last => exact ⟨by simp, fun y hy => by simp at hy; subst hy; exact ⟨hx.1, hx.2, Int.le_refl _⟩⟩
  | @step x p d q hn hl h ih =>
    obtain ⟨p', l, h', a, hD, hp0, hp1⟩ := D_parent T ho hx hn
    rw [hl] at h'
    injection h' with e
    injection e with e1 e2
    subst e1
    have := (a.range T.toRoadsOk).2.2.2.2.2.1
    obtain ⟨i1, i2⟩ := ih ⟨hp0, hp1⟩
    refine ⟨List.nodup_cons.mpr ⟨fun hm => ?_, i1⟩, fun y hy => ?_⟩
    · have := (i2 x hm).2.2
      omega
    · rcases (List.mem_cons.mp hy) with rfl | hy
      · exact ⟨hx.1, hx.2, Int.le_refl _⟩
      · have := i2 y hy
        exact ⟨this.1, this.2.1, by omega⟩
theorem wayL_len (T : IsTree n rs) {u v : Int} (hu : 0 ≤ u ∧ u < n) (hv : 0 ≤ v ∧ v < n) : (wayL n rs u v).length ≤ n := by
  obtain ⟨h1, h2⟩ := (wayL_down T hu hv).facts T hv hu
  have := List.Nodup.length_le_of_subset (l₂ := ivs n) h1 fun y hy => mem_ivs.mpr ⟨(h2 y hy).1, (h2 y hy).2.1⟩
  rwa [ivs_length] at this
/-- the rows of distances -/
def rowD (n : Nat) (rs : List Road) (s : Int) : List Int := (ivs n).map fun v => D n rs s v
def rowsD (n : Nat) (rs : List Road) : List (List Int) := (ivs n).map fun s => rowD n rs s

/-! ### the law's own walk -/
def relax1 (g : List (Int × Int)) (r : Road) : List (Int × Int) :=
  match g.lookup r.a, g.lookup r.b with
  | some d, none => g ++ [(r.b, d + r.l)]
  | none, some d => g ++ [(r.a, d + r.l)]
  | _, _ => g
def relaxP (rs : List Road) (g : List (Int × Int)) : List (Int × Int) := rs.foldl relax1 g
def relaxN (rs : List Road) : Nat → List (Int × Int) → List (Int × Int)
  | 0, g => g
  | k + 1, g => relaxN rs k (relaxP rs g)
def ownFound (n : Nat) (rs : List Road) (s : Int) : List (Int × Int) := relaxN rs n [(s, 0)]
def prj (f : Found) : List (Int × Int) := f.map fun e => (e.1, e.2.2)
theorem prj_lookup (v : Int) : ∀ f : Found, (prj f).lookup v = (f.lookup v).map (·.2)
  | [] => rfl
  | (k, x) :: f => by
    by_cases e : v = k
    · subst e; simp [prj, List.lookup]
    · have hb : (v == k) = false := by simpa using e
      have := prj_lookup v f
      simp only [prj, List.map_cons, List.lookup, hb] at this ⊢
      exact this
theorem prj_len (f : Found) : (prj f).length = f.length := by simp [prj]
/-- both ends or none -/
def Settled (f : Found) (r : Road) : Prop := r.a ∈ keys f ↔ r.b ∈ keys f
theorem look_dOf {v : Int} (h : v ∈ keys f) : ∃ p, f.lookup v = some (p, dOf f v) := by
  cases e : f.lookup v with
  | none => exact absurd h (lookup_none_iff.mp e)
  | some x => exact ⟨x.1, by rw [dOf_of (p := x.1) (d := x.2) e]⟩
theorem relax1_growth (g : Growth rs s f) {r : Road} (hr : r ∈ rs) : ∃ f', Growth rs s f' ∧ relax1 (prj f) r = prj f' ∧ (∃ more, f' = f ++ more) ∧ (f' = f → Settled f r) ∧ (¬ Settled f r → f.length < f'.length) ∧ (Settled f r → f' = f) := by
  unfold relax1
  rw [prj_lookup, prj_lookup]
  by_cases ha : r.a ∈ keys f <;> by_cases hb : r.b ∈ keys f
  · obtain ⟨p, e1⟩ := look_dOf ha
    obtain ⟨q, e2⟩ := look_dOf hb
    rw [e1, e2]
    exact ⟨f, g, rfl, ⟨[], by simp⟩, fun _ => ⟨fun _ => hb, fun _ => ha⟩, fun h => absurd ⟨fun _ => hb, fun _ => ha⟩ h, fun _ => rfl⟩
  · obtain ⟨p, e1⟩ := look_dOf ha
    rw [e1, lookup_none_iff.mpr hb]
    refine ⟨f ++ [(r.b, (r.a, dOf f r.a + r.l))], .snoc g ha ⟨r, hr, rfl, .inl ⟨rfl, rfl⟩⟩ hb, by simp [prj], ⟨_, rfl⟩, fun h => ?_, fun _ => by simp, fun h => absurd (h.mp ha) hb⟩
    have h7 := congrArg List.length h
    simp at h7
  · obtain ⟨p, e1⟩ := look_dOf hb
    rw [e1, lookup_none_iff.mpr ha]
    refine ⟨f ++ [(r.a, (r.b, dOf f r.b + r.l))], .snoc g hb ⟨r, hr, rfl, .inr ⟨rfl, rfl⟩⟩ ha, by simp [prj], ⟨_, rfl⟩, fun h => ?_, fun _ => by simp, fun h => absurd (h.mpr hb) ha⟩
    have h7 := congrArg List.length h
    simp at h7
  · rw [lookup_none_iff.mpr ha, lookup_none_iff.mpr hb]
    exact ⟨f, g, rfl, ⟨[], by simp⟩, fun _ => ⟨fun h => absurd h ha, fun h => absurd h hb⟩, fun h => absurd ⟨fun h => absurd h ha, fun h => absurd h hb⟩ h, fun _ => rfl⟩
theorem relaxP_growth : ∀ (rs' : List Road) (f : Found), (∀ r ∈ rs', r ∈ rs) → Growth rs s f → ∃ f', Growth rs s f' ∧ rs'.foldl relax1 (prj f) = prj f' ∧ f.length ≤ f'.length ∧ ((∀ r ∈ rs', Settled f r) → f' = f) ∧ (¬ (∀ r ∈ rs', Settled f r) → f.length < f'.length)
  | [], f, _, g => ⟨f, g, rfl, Nat.le_refl _, fun _ => rfl, fun h => absurd (fun _ h => nomatch h) h⟩
  | r :: rs', f, hs, g => by
    obtain ⟨f1, g1, e1, ⟨more, hm⟩, h1, h2, h3⟩ := relax1_growth g (hs r (List.mem_cons_self ..))
    obtain ⟨f2, g2, e2, l2, h4, h5⟩ := relaxP_growth rs' f1 (fun r h => hs r (List.mem_cons_of_mem _ h)) g1
    have l1 : f.length ≤ f1.length := by rw [hm]; simp
    refine ⟨f2, g2, by rw [List.foldl_cons, e1, e2], by omega, fun h => ?_, fun h => ?_⟩
    · have q := h3 (h r (List.mem_cons_self ..))
      subst q
      exact h4 fun r' hr' => h r' (List.mem_cons_of_mem _ hr')
    · by_cases c : Settled f r
      · have q := h3 c
        subst q
        exact h5 fun h' => h fun r' hr' => by
          rcases List.mem_cons.mp hr' with rfl | hr'
          · exact c
          · exact h' r' hr'
      · have := h2 c
        omega
theorem settled_closed (h : ∀ r ∈ rs, Settled f r) : Closed rs f := by
  rintro u v l hu ⟨r, hr, _, ⟨rfl, rfl⟩ | ⟨rfl, rfl⟩⟩
  · exact (h r hr).mp hu
  · exact (h r hr).mpr hu
theorem relaxN_full (k : RoadsOk n rs) (hs : 0 ≤ s ∧ s < n) : ∀ (m : Nat) (f : Found), Growth rs s f → n < f.length + m ∨ (∀ r ∈ rs, Settled f r) → ∃ f', Growth rs s f' ∧ Closed rs f' ∧ relaxN rs m (prj f) = prj f'
  | 0, f, g, h => by
    have := g.length_le k hs
    rcases h with h | h
    · omega
    · exact ⟨f, g, settled_closed h, rfl⟩
  | m + 1, f, g, h => by
    obtain ⟨f1, g1, e1, l1, h1, h2⟩ := relaxP_growth rs f (fun _ q => q) g
    unfold relaxN relaxP
    rw [e1]
    by_cases c : ∀ r ∈ rs, Settled f r
    · have := h1 c
      subst this
      exact relaxN_full k hs m _ g1 (.inr c)
    · have := h2 c
      rcases h with h | h
      · exact relaxN_full k hs m f1 g1 (.inl (by omega))
      · exact absurd h c
theorem ownFound_full (T : IsTree n rs) (hs : 0 ≤ s ∧ s < n) : ∃ f, Full n rs s f ∧ ownFound n rs s = prj f := by
  obtain ⟨f, g, c, e⟩ := relaxN_full T.toRoadsOk hs n [(s, (-1, 0))] .start (.inl (by simp))
  exact ⟨f, T.full hs g c, e⟩
theorem ownFound_look (T : IsTree n rs) (hs : 0 ≤ s ∧ s < n) {v : Int} (hv : 0 ≤ v ∧ v < n) : (ownFound n rs s).lookup v = some (D n rs s v) := by
  obtain ⟨f, F, e⟩ := ownFound_full T hs
  rw [e, prj_lookup]
  obtain ⟨p, h⟩ := look_dOf (F.all v hv.1 hv.2)
  rw [h, F.dist T hs hv]
  rfl
end
end Wr

namespace Wr

def cellV (ns : List Int) (k : Nat) : Int := ns.getD k 0
def primes : List Int := [1000003, 1000033, 1000037, 1000039, 1000081, 1000099, 1000117, 1000121]
def draw (cell k many : Int) : Int := (cell * 48271 + k * 69621 + cell / 1000003 % 1000003 * 40692) % (primes.getD (k % 8).toNat 1) % many
theorem draw_nonneg {cell k many : Int} (h : 0 < many) : 0 ≤ draw cell k many := Int.emod_nonneg _ (by omega)
theorem draw_lt {cell k many : Int} (h : 0 < many) : draw cell k many < many := Int.emod_lt_of_pos _ h
def nameV (k n turn : Int) : Int := if 1 < n ∧ (turn = 1 ∨ n % turn ≠ 0) then k * turn % n else k
def turns : List Int := [1, 5, 7, 11]
def greats : List Int := [1, 4, 9, 1000000]
def turnV (cell : Int) : Int := turns.getD (cell / 48 % 4).toNat 0
def greatV (cell : Int) : Int := greats.getD (cell / 12 % 4).toNat 0
def min2 (i j : Int) : Int := if j < i then j else i
def max2 (i j : Int) : Int := if j > i then j else i
def toldN (cell most : Int) : Int := if cell / 7 % 6 = 1 then 1 + cell / 42 % most else 1 + cell % min2 most 7
def aboveV (cell other k : Int) : Int := if cell / 192 % 3 = 0 then max2 0 (k - 1 - draw other k 2) else draw other k k
def toldRoad (cell other n k : Int) : Road :=
  if draw other (k + 2) 2 = 0 then ⟨nameV (aboveV cell other k) n (turnV cell), nameV k n (turnV cell), 1 + draw other (k + 5) (greatV cell)⟩
  else ⟨nameV k n (turnV cell), nameV (aboveV cell other k) n (turnV cell), 1 + draw other (k + 5) (greatV cell)⟩
def ins {α : Type} (rs : List α) (p : Int) (r : α) : List α := rs.take p.toNat ++ [r] ++ rs.drop p.toNat
def toldRs (cell other n : Int) : Nat → List Road
  | 0 => []
  | i + 1 => ins (toldRs cell other n i) (draw other (1 + (i : Int) + 3) (((toldRs cell other n i).length : Int) + 1)) (toldRoad cell other n (1 + (i : Int)))
theorem ins_length {α : Type} (rs : List α) (p : Int) (r : α) : (ins rs p r).length = rs.length + 1 := by
  unfold ins
  simp [List.length_append, List.length_take, List.length_drop]
  omega
theorem mem_ins {α : Type} {rs : List α} {p : Int} {r x : α} : x ∈ ins rs p r ↔ x = r ∨ x ∈ rs := by
  unfold ins
  rw [List.mem_append, List.mem_append]
  have h := List.take_append_drop p.toNat rs
  constructor
  · rintro ((h1 | h1) | h1)
    · exact .inr (List.mem_of_mem_take h1)
    · exact .inl (by simpa using h1)
    · exact .inr (List.mem_of_mem_drop h1)
  · rintro (rfl | h1)
    · exact .inl (.inr (by simp))
    · rw [← h] at h1
      rcases List.mem_append.mp h1 with h1 | h1
      · exact .inl (.inl h1)
      · exact .inr h1
theorem toldRs_length (cell other n : Int) : ∀ i, (toldRs cell other n i).length = i
  | 0 => rfl
  | i + 1 => by unfold toldRs; rw [ins_length, toldRs_length cell other n i]
theorem mem_toldRs {cell other n : Int} {x : Road} : ∀ {i : Nat}, x ∈ toldRs cell other n i ↔ ∃ j : Nat, j < i ∧ x = toldRoad cell other n (1 + (j : Int))
  | 0 => by simp [toldRs]
  | i + 1 => by
    unfold toldRs
    rw [mem_ins, mem_toldRs (i := i)]
    constructor
    · rintro (h | ⟨j, hj, h⟩)
      · exact ⟨i, by omega, h⟩
      · exact ⟨j, by omega, h⟩
    · rintro ⟨j, hj, h⟩
      by_cases e : j = i
      · subst e; exact .inl h
      · exact .inr ⟨j, by omega, h⟩
theorem name_table : (List.range 13).all (fun n => turns.all fun t => (ivs n).all fun v => decide (0 ≤ nameV v n t) && decide (nameV v n t < n) && (ivs n).any (fun k => decide (nameV k n t = v)) && (ivs n).all (fun k => !decide (nameV k n t = nameV v n t) || decide (k = v))) = true := by decide +kernel
theorem name_facts {n : Nat} (hn : n ≤ 12) {t : Int} (ht : t ∈ turns) {v : Int} (h0 : 0 ≤ v) (h1 : v < n) : 0 ≤ nameV v n t ∧ nameV v n t < n ∧ (∃ k : Int, 0 ≤ k ∧ k < n ∧ nameV k n t = v) ∧ ∀ k : Int, 0 ≤ k → k < n → nameV k n t = nameV v n t → k = v := by
  have h := name_table
  rw [List.all_eq_true] at h
  have h := h n (List.mem_range.mpr (by omega))
  rw [List.all_eq_true] at h
  have h := h t ht
  rw [List.all_eq_true] at h
  have h := h v (mem_ivs.mpr ⟨h0, h1⟩)
  simp only [Bool.and_eq_true, decide_eq_true_eq, List.any_eq_true, List.all_eq_true, Bool.or_eq_true, Bool.not_eq_true', decide_eq_false_iff_not] at h
  obtain ⟨⟨⟨a, b⟩, k, hk, c⟩, d⟩ := h
  refine ⟨a, b, ⟨k, (mem_ivs.mp hk).1, (mem_ivs.mp hk).2, c⟩, fun k hk0 hk1 e => ?_⟩
  rcases d k (mem_ivs.mpr ⟨hk0, hk1⟩) with q | q
  · exact absurd e q
  · exact q
theorem name_zero (n t : Int) : nameV 0 n t = 0 := by unfold nameV; split <;> simp
theorem getD_mem4 {l : List Int} {i : Nat} {d : Int} (h : i < l.length) : l.getD i d ∈ l := by
  rw [List.getD_eq_getElem?_getD, List.getElem?_eq_getElem h]; exact List.getElem_mem h
theorem turn_mem (cell : Int) : turnV cell ∈ turns := getD_mem4 (by have h1 := Int.emod_nonneg (cell / 48) (show (4 : Int) ≠ 0 by decide); have h2 := Int.emod_lt_of_pos (cell / 48) (show (0 : Int) < 4 by decide); simp [turns]; omega)
theorem great_mem (cell : Int) : greatV cell ∈ greats := getD_mem4 (by have h1 := Int.emod_nonneg (cell / 12) (show (4 : Int) ≠ 0 by decide); have h2 := Int.emod_lt_of_pos (cell / 12) (show (0 : Int) < 4 by decide); simp [greats]; omega)
theorem great_range (cell : Int) : 1 ≤ greatV cell ∧ greatV cell ≤ 1000000 := by
  have := great_mem cell
  simp only [greats, List.mem_cons, List.not_mem_nil, or_false] at this
  omega
theorem toldN_range {cell most : Int} (h1 : 1 ≤ most) (h2 : most ≤ 12) : 1 ≤ toldN cell most ∧ toldN cell most ≤ 12 := by
  unfold toldN min2
  split
  · have a := Int.emod_nonneg (cell / 42) (show most ≠ 0 by omega)
    have b := Int.emod_lt_of_pos (cell / 42) (show 0 < most by omega)
    omega
  · split
    · have a := Int.emod_nonneg cell (show (7 : Int) ≠ 0 by decide)
      have b := Int.emod_lt_of_pos cell (show (0 : Int) < 7 by decide)
      omega
    · have a := Int.emod_nonneg cell (show most ≠ 0 by omega)
      have b := Int.emod_lt_of_pos cell (show 0 < most by omega)
      omega
theorem above_range (cell other : Int) {k : Int} (h : 1 ≤ k) : 0 ≤ aboveV cell other k ∧ aboveV cell other k < k := by
  have d1 := draw_nonneg (cell := other) (k := k) (many := 2) (by decide)
  have d2 := draw_lt (cell := other) (k := k) (many := 2) (by decide)
  have d3 := draw_nonneg (cell := other) (k := k) (many := k) (by omega)
  have d4 := draw_lt (cell := other) (k := k) (many := k) (by omega)
  unfold aboveV max2
  split
  · split <;> omega
  · omega
/-- villages, roads -/
def told (cell other most : Int) : Nat × List Road := ((toldN cell most).toNat, toldRs cell other (toldN cell most) ((toldN cell most).toNat - 1))
theorem toldRoad_ends (cell other n k : Int) : ((toldRoad cell other n k).a = nameV k n (turnV cell) ∧ (toldRoad cell other n k).b = nameV (aboveV cell other k) n (turnV cell)) ∨ ((toldRoad cell other n k).b = nameV k n (turnV cell) ∧ (toldRoad cell other n k).a = nameV (aboveV cell other k) n (turnV cell)) := by
  unfold toldRoad
  split
  · exact .inr ⟨rfl, rfl⟩
  · exact .inl ⟨rfl, rfl⟩
theorem toldRoad_l (cell other n k : Int) : (toldRoad cell other n k).l = 1 + draw other (k + 5) (greatV cell) := by
  unfold toldRoad; split <;> rfl
theorem told_tree (cell other : Int) {most : Int} (h1 : 1 ≤ most) (h2 : most ≤ 12) : IsTree (told cell other most).1 (told cell other most).2 := by
  have hr := toldN_range (cell := cell) h1 h2
  unfold told
  generalize toldN cell most = N at hr
  obtain ⟨n, rfl⟩ : ∃ n : Nat, N = n := ⟨N.toNat, by omega⟩
  simp only [Int.toNat_natCast]
  have ht := turn_mem cell
  have hn : n ≤ 12 := by omega
  have nm : ∀ {k : Int}, 0 ≤ k → k < n → _ := fun {k} a b => name_facts hn ht a b
  refine { ok := ?_, pos := by omega, le := hn, len := by rw [toldRs_length]; omega, conn := ?_ }
  · intro r hr
    obtain ⟨j, hj, rfl⟩ := mem_toldRs.mp hr
    have ab := above_range cell other (k := 1 + (j : Int)) (by omega)
    have f1 := nm (k := 1 + (j : Int)) (by omega) (by omega)
    have f2 := nm (k := aboveV cell other (1 + (j : Int))) ab.1 (by omega)
    have ne : nameV (1 + (j : Int)) n (turnV cell) ≠ nameV (aboveV cell other (1 + (j : Int))) n (turnV cell) := fun e => by
      have := f2.2.2.2 (1 + (j : Int)) (by omega) (by omega) e
      omega
    have gr := great_range cell
    have dl := draw_nonneg (cell := other) (k := 1 + (j : Int) + 5) (many := greatV cell) (by omega)
    have du := draw_lt (cell := other) (k := 1 + (j : Int) + 5) (many := greatV cell) (by omega)
    have hl := toldRoad_l cell other n (1 + (j : Int))
    rcases toldRoad_ends cell other n (1 + (j : Int)) with ⟨e1, e2⟩ | ⟨e1, e2⟩
    · rw [e1, e2, hl]
      exact ⟨f1.1, f1.2.1, f2.1, f2.2.1, ne, by omega, by omega⟩
    · rw [e1, e2, hl]
      exact ⟨f2.1, f2.2.1, f1.1, f1.2.1, ne.symm, by omega, by omega⟩
  · have key : ∀ k : Nat, k < n → Reach (toldRs cell other n (n - 1)) 0 (nameV k n (turnV cell)) := by
      intro k
      induction k using Nat.strongRecOn with
      | _ k ih =>
        intro hk
        by_cases e : k = 0
        · subst e
          have : nameV ((0 : Nat) : Int) n (turnV cell) = 0 := name_zero _ _
          rw [this]; exact .refl
        · have ab := above_range cell other (k := (k : Int)) (by omega)
          have i1 := ih (aboveV cell other (k : Int)).toNat (by omega) (by omega)
          have ec : (((aboveV cell other (k : Int)).toNat : Nat) : Int) = aboveV cell other k := by omega
          rw [ec] at i1
          have hm : toldRoad cell other n k ∈ toldRs cell other n (n - 1) := mem_toldRs.mpr ⟨k - 1, by omega, by congr 1; omega⟩
          refine i1.trans ⟨0 + (toldRoad cell other n k).l, .snoc .nil ⟨_, hm, rfl, ?_⟩⟩
          rcases toldRoad_ends cell other n k with ⟨e1, e2⟩ | ⟨e1, e2⟩
          · exact .inr ⟨e2, e1⟩
          · exact .inl ⟨e2, e1⟩
    intro v h0 hv
    obtain ⟨k, k0, k1, rfl⟩ := (nm h0 hv).2.2.1
    have := key k.toNat (by omega)
    rwa [show ((k.toNat : Nat) : Int) = k by omega] at this
end Wr

namespace Wr
theorem filter_one {α : Type} {p : α → Bool} : ∀ {l : List α} {i : Nat} {x : α}, l[i]? = some x → p x = true → (∀ (j : Nat) y, l[j]? = some y → p y = true → j = i) → l.filter p = [x]
  | [], i, x, h, _, _ => by simp at h
  | a :: l, 0, x, h, px, hu => by
    simp at h
    subst h
    rw [List.filter_cons, if_pos px]
    congr 1
    rw [List.filter_eq_nil_iff]
    intro y hy py
    obtain ⟨j, hj, e⟩ := List.getElem_of_mem hy
    have := hu (j + 1) y (by simp [hj, e]) py
    omega
  | a :: l, i + 1, x, h, px, hu => by
    have h' : l[i]? = some x := by simpa using h
    have hn : ¬ p a = true := fun pa => by
      have := hu 0 a (by simp) pa
      omega
    rw [List.filter_cons, if_neg hn]
    exact filter_one h' px fun j y hj py => by
      have := hu (j + 1) y (by simpa using hj) py
      omega
def sameE (x y : Int) (r : Road) : Bool := decide ((r.a = x ∧ r.b = y) ∨ (r.a = y ∧ r.b = x))
section
variable {n : Nat} {rs : List Road} {s o : Int} {f : Found}
theorem one_road (T : IsTree n rs) {x y l : Int} (a : Adj rs x y l) : ∃ r, rs.filter (sameE x y) = [r] ∧ r.l = l := by
  obtain ⟨r, hr, hl, ends⟩ := a
  obtain ⟨i, hi, hri⟩ := List.getElem_of_mem hr
  have hs : (0 : Int) ≤ 0 ∧ (0 : Int) < n := ⟨Int.le_refl _, by have := T.pos; omega⟩
  have hi' : rs[i]? = some r := by rw [List.getElem?_eq_getElem hi, hri]
  refine ⟨r, filter_one hi' ?_ ?_, hl⟩
  · unfold sameE
    rw [decide_eq_true_eq]
    rcases ends with ⟨h1, h2⟩ | ⟨h1, h2⟩
    · exact .inl ⟨h1, h2⟩
    · exact .inr ⟨h2, h1⟩
  · intro j t hj ht
    unfold sameE at ht
    rw [decide_eq_true_eq] at ht
    refine (T.walked hs).single T hs hj hi' ?_
    unfold SameEnds
    grind
theorem Down.link (T : IsTree n rs) (ho : 0 ≤ o ∧ o < n) {x : Int} {q : List Int} (h : Down (walked n rs o) o x q) (hx : 0 ≤ x ∧ x < n) : ∀ (i : Nat) y z, q[i]? = some y → q[i + 1]? = some z → ∃ l, Adj rs z y l ∧ D n rs o y = D n rs o z + l := by
  induction h with
  | last => intro i y z _ h; simp at h
  | @step x p d q hn hl h ih =>
    obtain ⟨p', l, h', a, hD, hp0, hp1⟩ := D_parent T ho hx hn
    rw [hl] at h'
    injection h' with e
    injection e with e1 e2
    subst e1
    intro i y z h1 h2
    cases i with
    | zero =>
      obtain ⟨t, rfl⟩ := h.head
      simp at h1 h2
      subst h1 h2
      exact ⟨l, a, hD⟩
    | succ i =>
      exact ih ⟨hp0, hp1⟩ i y z (by simpa using h1) (by simpa using h2)
theorem perm2 {α : Type} {l : List α} {x y : α} (h : l.Perm [x, y]) : l = [x, y] ∨ l = [y, x] := by
  have hl := h.length_eq
  match l, hl with
  | [a, b], _ =>
    have ha : a ∈ [x, y] := h.mem_iff.mp (by simp)
    simp at ha
    rcases ha with rfl | rfl
    · have := (List.perm_cons a).mp h
      have := List.singleton_perm_singleton.mp this
      subst this; exact .inl rfl
    · have h2 : List.Perm [a, b] [a, x] := h.trans (List.Perm.swap _ _ _)
      have := (List.perm_cons a).mp h2
      have := List.singleton_perm_singleton.mp this
      subst this; exact .inr rfl
/-- two sorted pairs -/
theorem sorted2 {a b x y : Int} {l m : List Int} (h1 : l.Perm [a, b]) (o1 : l.Pairwise (· ≤ ·)) (h2 : m.Perm [x, y]) (o2 : m.Pairwise (· ≤ ·)) : (l = m) ↔ ((a = x ∧ b = y) ∨ (a = y ∧ b = x)) := by
  rcases perm2 h1 with rfl | rfl <;> rcases perm2 h2 with rfl | rfl <;> simp at o1 o2 ⊢ <;> omega
end
end Wr

namespace Wr
section
variable {n : Nat} {rs : List Road} {s o : Int} {f : Found}
/-- C: seen from s, what hangs at y but its parent z lies behind it -/
theorem D_behind (T : IsTree n rs) (hs : 0 ≤ s ∧ s < n) {x y z l l' : Int} (a : Adj rs z y l') (h : D n rs s y = D n rs s z + l') (b : Adj rs x y l) (hn : x ≠ z) : D n rs s x = D n rs s y + l := by
  rcases D_step T hs b with q | q
  · exact absurd (D_par_unique T hs b q a h) hn
  · exact q
theorem two_sides (T : IsTree n rs) {w v l : Int} (a : Adj rs w v l) {x : Int} (hx : 0 ≤ x ∧ x < n) : D n rs v x = D n rs w x + l ∨ D n rs w x = D n rs v x + l := by
  have r := a.range T.toRoadsOk
  have e1 := D_symm T hx ⟨r.1, r.2.1⟩
  have e2 := D_symm T hx ⟨r.2.2.1, r.2.2.2.1⟩
  rcases D_step T hx a with h | h <;> omega
/-- a road from the one side to the other is the road itself -/
theorem cross (T : IsTree n rs) {w v l y z l' : Int} (a : Adj rs w v l) (b : Adj rs y z l') (hy : D n rs v y = D n rs w y + l) (hz : D n rs w z = D n rs v z + l) : y = w ∧ z = v := by
  have r := a.range T.toRoadsOk
  have r' := b.range T.toRoadsOk
  have hw : 0 ≤ w ∧ w < n := ⟨r.1, r.2.1⟩
  have hv : 0 ≤ v ∧ v < n := ⟨r.2.2.1, r.2.2.2.1⟩
  have hy0 : 0 ≤ y ∧ y < n := ⟨r'.1, r'.2.1⟩
  have hz0 : 0 ≤ z ∧ z < n := ⟨r'.2.2.1, r'.2.2.2.1⟩
  have k1 : D n rs w z = D n rs w y + l' := by
    rcases D_step T hw b with h | h
    · exact h
    · rcases D_step T hv b with q | q <;> omega
  have k2 : D n rs v y = D n rs v z + l' := by
    rcases D_step T hv b with h | h
    · omega
    · exact h
  constructor
  · apply Classical.byContradiction
    intro hn
    obtain ⟨y1, l1, _, a1, d1, p0, p1⟩ := D_parent T hw hy0 hn
    have r1 := a1.range T.toRoadsOk
    have ne : y1 ≠ z := fun e => by rw [e] at d1; omega
    have d2 := D_behind T hv b.symm k2 a1 ne
    rcases two_sides T a ⟨p0, p1⟩ with h | h <;> omega
  · apply Classical.byContradiction
    intro hn
    obtain ⟨z1, l1, _, a1, d1, p0, p1⟩ := D_parent T hv hz0 hn
    have r1 := a1.range T.toRoadsOk
    have ne : z1 ≠ y := fun e => by rw [e] at d1; omega
    have d2 := D_behind T hw b k1 a1 ne
    rcases two_sides T a ⟨p0, p1⟩ with h | h <;> omega
theorem mem_erase {rs : List Road} {i : Nat} {r : Road} : r ∈ rs.eraseIdx i ↔ ∃ j, j ≠ i ∧ rs[j]? = some r := by
  rw [List.mem_eraseIdx_iff_getElem?]
/-- without the road at i one comes from its end w just to w's side -/
theorem reach_side (T : IsTree n rs) {i : Nat} {r : Road} (hi : rs[i]? = some r) {w v : Int} (he : (r.a = w ∧ r.b = v) ∨ (r.b = w ∧ r.a = v)) {x : Int} (hx : 0 ≤ x ∧ x < n) :
    Reach (rs.eraseIdx i) w x ↔ D n rs v x = D n rs w x + r.l := by
  have hr := List.mem_of_getElem? hi
  have a : Adj rs w v r.l := ⟨r, hr, rfl, he⟩
  have rg := a.range T.toRoadsOk
  have hw : 0 ≤ w ∧ w < n := ⟨rg.1, rg.2.1⟩
  have hv : 0 ≤ v ∧ v < n := ⟨rg.2.2.1, rg.2.2.2.1⟩
  have z0 : (0 : Int) ≤ 0 ∧ (0 : Int) < n := ⟨Int.le_refl _, by have := T.pos; omega⟩
  have sub : ∀ t ∈ rs.eraseIdx i, t ∈ rs := fun t ht => by
    obtain ⟨j, _, hj⟩ := mem_erase.mp ht
    exact List.mem_of_getElem? hj
  have noE : ∀ t ∈ rs.eraseIdx i, ¬ SameEnds t r := fun t ht hs => by
    obtain ⟨j, hne, hj⟩ := mem_erase.mp ht
    exact hne ((T.walked z0).single T z0 hj hi hs)
  constructor
  · rintro ⟨d, wk⟩
    clear hx
    induction wk with
    | nil =>
      have h1 := D_edge T a.symm
      have h2 := D_self T hw
      omega
    | @snoc y z d l' wk b ih =>
      have b' := b.mono sub
      have rb := b'.range T.toRoadsOk
      rcases two_sides T a (x := z) ⟨rb.2.2.1, rb.2.2.2.1⟩ with h | h
      · exact h
      · exfalso
        obtain ⟨e1, e2⟩ := cross T a b' ih h
        obtain ⟨t, ht, _, ends⟩ := b
        refine noE t ht ?_
        unfold SameEnds
        grind
  · intro h
    have key : ∀ (m : Nat) (x : Int), 0 ≤ x ∧ x < n → D n rs w x ≤ m → D n rs v x = D n rs w x + r.l → Reach (rs.eraseIdx i) w x := by
      intro m
      induction m with
      | zero =>
        intro x hx hm _
        by_cases e : x = w
        · subst e; exact .refl
        · have := D_pos T hw hx e
          omega
      | succ m ih =>
        intro x hx hm hs
        by_cases e : x = w
        · subst e; exact .refl
        · obtain ⟨p, l, _, b, hD, p0, p1⟩ := D_parent T hw hx e
          have rb := b.range T.toRoadsOk
          have hp : D n rs v p = D n rs w p + r.l := by
            rcases two_sides T a (x := p) ⟨p0, p1⟩ with q | q
            · exact q
            · exact absurd (cross T a b.symm hs q).1 e
          refine (ih p ⟨p0, p1⟩ (by omega) hp).trans ⟨0 + l, .snoc .nil ?_⟩
          obtain ⟨t, ht, hl, ends⟩ := b
          obtain ⟨j, hj, htj⟩ := List.getElem_of_mem ht
          refine ⟨t, mem_erase.mpr ⟨j, fun ej => ?_, by rw [List.getElem?_eq_getElem hj, htj]⟩, hl, ends⟩
          subst ej
          rw [List.getElem?_eq_getElem hj] at hi
          have et : t = r := by rw [← htj]; exact Option.some.inj hi
          have xv : x = v := by rw [et] at ends; grind
          subst xv
          have h1 := D_self T hv
          have h2 := D_edge T a
          omega
    exact key (D n rs w x).toNat x hx (by have := D_nonneg T hw hx; omega) h

/-! ### the law's own flood: the villages to which one comes from w without the road at i -/
def floodStep (i : Nat) (g : List Int) (k : Nat) (r : Road) : List Int :=
  if k ≠ i ∧ decide (r.a ∈ g) ≠ decide (r.b ∈ g) then g ++ [if r.a ∈ g then r.b else r.a] else g
def floodP (i : Nat) : List Road → Nat → List Int → List Int
  | [], _, g => g
  | r :: rs, k, g => floodP i rs (k + 1) (floodStep i g k r)
def floodN (i : Nat) (rs : List Road) : Nat → List Int → List Int
  | 0, g => g
  | m + 1, g => floodN i rs m (floodP i rs 0 g)
def flood (n : Nat) (rs : List Road) (i : Nat) (w : Int) : List Int := floodN i rs n [w]
theorem floodStep_growth {rs' : List Road} (g : Growth rs' s f) {i k : Nat} {r : Road} (hr : k ≠ i → r ∈ rs') : ∃ f', Growth rs' s f' ∧ floodStep i (keys f) k r = keys f' ∧ (∃ more, f' = f ++ more) ∧ (¬ (k ≠ i ∧ ¬ Settled f r) → f' = f) ∧ ((k ≠ i ∧ ¬ Settled f r) → f.length < f'.length) := by
  unfold floodStep
  by_cases c : k ≠ i ∧ ¬ Settled f r
  · have hr := hr c.1
    have c2 : k ≠ i ∧ decide (r.a ∈ keys f) ≠ decide (r.b ∈ keys f) := by
      refine ⟨c.1, fun e => c.2 ?_⟩
      exact decide_eq_decide.mp e
    rw [if_pos c2]
    by_cases ha : r.a ∈ keys f
    · have hb : r.b ∉ keys f := fun hb => c.2 ⟨fun _ => hb, fun _ => ha⟩
      rw [if_pos ha]
      exact ⟨f ++ [(r.b, (r.a, dOf f r.a + r.l))], .snoc g ha ⟨r, hr, rfl, .inl ⟨rfl, rfl⟩⟩ hb, by simp [keys], ⟨_, rfl⟩, fun h => absurd c h, fun _ => by simp⟩
    · have hb : r.b ∈ keys f := Classical.byContradiction fun hb => c.2 ⟨fun h => absurd h ha, fun h => absurd h hb⟩
      rw [if_neg ha]
      exact ⟨f ++ [(r.a, (r.b, dOf f r.b + r.l))], .snoc g hb ⟨r, hr, rfl, .inr ⟨rfl, rfl⟩⟩ ha, by simp [keys], ⟨_, rfl⟩, fun h => absurd c h, fun _ => by simp⟩
  · have c2 : ¬ (k ≠ i ∧ decide (r.a ∈ keys f) ≠ decide (r.b ∈ keys f)) := fun q => c ⟨q.1, fun st => q.2 (decide_eq_decide.mpr st)⟩
    rw [if_neg c2]
    exact ⟨f, g, rfl, ⟨[], by simp⟩, fun _ => rfl, fun h => absurd h c⟩
theorem floodP_growth {rs' : List Road} {i : Nat} : ∀ (rs0 : List Road) (k : Nat) (f : Found), (∀ (j : Nat) r, rs0[j]? = some r → k + j ≠ i → r ∈ rs') → Growth rs' s f →
    ∃ f', Growth rs' s f' ∧ floodP i rs0 k (keys f) = keys f' ∧ f.length ≤ f'.length ∧ ((∀ (j : Nat) r, rs0[j]? = some r → k + j ≠ i → Settled f r) → f' = f) ∧ (¬ (∀ (j : Nat) r, rs0[j]? = some r → k + j ≠ i → Settled f r) → f.length < f'.length)
  | [], k, f, _, g => ⟨f, g, rfl, Nat.le_refl _, fun _ => rfl, fun h => absurd (fun j r h => by simp at h) h⟩
  | r :: rs0, k, f, hs, g => by
    obtain ⟨f1, g1, e1, ⟨more, hm⟩, h1, h2⟩ := floodStep_growth (i := i) (k := k) g (r := r) (fun hk => hs 0 r (by simp) (by simpa using hk))
    obtain ⟨f2, g2, e2, l2, h4, h5⟩ := floodP_growth (i := i) rs0 (k + 1) f1 (fun j t hj hne => hs (j + 1) t (by simpa using hj) (by omega)) g1
    have l1 : f.length ≤ f1.length := by rw [hm]; simp
    refine ⟨f2, g2, by unfold floodP; rw [e1, e2], by omega, fun h => ?_, fun h => ?_⟩
    · have q := h1 (fun c => c.2 (h 0 r (by simp) (by simpa using c.1)))
      subst q
      exact h4 fun j t hj hne => h (j + 1) t (by simpa using hj) (by omega)
    · by_cases c : k ≠ i ∧ ¬ Settled f r
      · have := h2 c
        omega
      · have q := h1 c
        subst q
        refine h5 fun h' => h fun j t hj hne => ?_
        cases j with
        | zero =>
          simp at hj
          subst hj
          exact Classical.byContradiction fun ns => c ⟨by simpa using hne, ns⟩
        | succ j => exact h' j t (by simpa using hj) (by omega)
theorem floodN_closed {i : Nat} (k : RoadsOk n rs) (hs : 0 ≤ s ∧ s < n) : ∀ (m : Nat) (f : Found), Growth (rs.eraseIdx i) s f → n < f.length + m ∨ (∀ (j : Nat) r, rs[j]? = some r → 0 + j ≠ i → Settled f r) →
    ∃ f', Growth (rs.eraseIdx i) s f' ∧ Closed (rs.eraseIdx i) f' ∧ floodN i rs m (keys f) = keys f'
  | 0, f, g, h => by
    have k' : RoadsOk n (rs.eraseIdx i) := ⟨fun r hr => by obtain ⟨j, _, hj⟩ := mem_erase.mp hr; exact k.ok r (List.mem_of_getElem? hj)⟩
    have := g.length_le k' hs
    rcases h with h | h
    · omega
    · exact ⟨f, g, settled_closed fun r hr => by obtain ⟨j, hne, hj⟩ := mem_erase.mp hr; exact h j r hj (by omega), rfl⟩
  | m + 1, f, g, h => by
    obtain ⟨f1, g1, e1, l1, h1, h2⟩ := floodP_growth (i := i) rs 0 f (fun j r hj hne => mem_erase.mpr ⟨j, by omega, hj⟩) g
    unfold floodN
    rw [e1]
    by_cases c : ∀ (j : Nat) r, rs[j]? = some r → 0 + j ≠ i → Settled f r
    · have := h1 c
      subst this
      exact floodN_closed k hs m _ g1 (.inr c)
    · have := h2 c
      rcases h with h | h
      · exact floodN_closed k hs m f1 g1 (.inl (by omega))
      · exact absurd h c
theorem flood_facts (k : RoadsOk n rs) {i : Nat} {w : Int} (hw : 0 ≤ w ∧ w < n) : (flood n rs i w).Nodup ∧ (flood n rs i w).length ≤ n ∧ ∀ x, x ∈ flood n rs i w ↔ ((0 ≤ x ∧ x < n) ∧ Reach (rs.eraseIdx i) w x) := by
  have k' : RoadsOk n (rs.eraseIdx i) := ⟨fun r hr => by obtain ⟨j, _, hj⟩ := mem_erase.mp hr; exact k.ok r (List.mem_of_getElem? hj)⟩
  obtain ⟨f, g, c, e⟩ := floodN_closed (i := i) k hw n [(w, (-1, 0))] .start (.inl (by simp))
  have e : flood n rs i w = keys f := e
  rw [e]
  refine ⟨g.nodup, by have := g.length_le k' hw; simpa [keys] using this, fun x => ⟨fun h => ⟨g.range k' hw x h, ⟨_, g.walk x h⟩⟩, fun ⟨_, _, wk⟩ => c.reach wk g.mem_start⟩⟩
end
end Wr

namespace Wr
section
variable {n : Nat} {rs : List Road}
/-- a walk over the road between w and v is as long as both parts and the road -/
theorem cut_walk (T : IsTree n rs) {w v l : Int} (a : Adj rs w v l) {x : Int} (hx : 0 ≤ x ∧ x < n) (sx : D n rs v x = D n rs w x + l) {y d : Int} (k : Walk rs x y d) (hy : 0 ≤ y ∧ y < n) (sy : D n rs w y = D n rs v y + l) : D n rs x w + l + D n rs v y ≤ d := by
  have ra := a.range T.toRoadsOk
  have hw : 0 ≤ w ∧ w < n := ⟨ra.1, ra.2.1⟩
  have hv : 0 ≤ v ∧ v < n := ⟨ra.2.2.1, ra.2.2.2.1⟩
  induction k with
  | nil => omega
  | @snoc u y d l' k b ih =>
    have rb := b.range T.toRoadsOk
    have hu : 0 ≤ u ∧ u < n := ⟨rb.1, rb.2.1⟩
    rcases two_sides T a hu with q | q
    · obtain ⟨e1, e2⟩ := cross T a b q sy
      subst e1 e2
      have h1 := D_least T hx k
      have h2 := D_edge T a
      have h3 := D_edge T b
      have h4 := D_self T hv
      omega
    · have h1 := ih hu q
      have h2 := D_tri T hv hu hy
      have h3 := D_edge T b
      omega
theorem cut (T : IsTree n rs) {w v l : Int} (a : Adj rs w v l) {x y : Int} (hx : 0 ≤ x ∧ x < n) (hy : 0 ≤ y ∧ y < n) (sx : D n rs v x = D n rs w x + l) (sy : D n rs w y = D n rs v y + l) : D n rs x y = D n rs x w + l + D n rs v y := by
  have ra := a.range T.toRoadsOk
  have hw : 0 ≤ w ∧ w < n := ⟨ra.1, ra.2.1⟩
  have hv : 0 ≤ v ∧ v < n := ⟨ra.2.2.1, ra.2.2.2.1⟩
  have h1 := cut_walk T a hx sx (D_walk T hx hy) hy sy
  have h2 := D_tri T hx hw hy
  have h3 := D_tri T hw hv hy
  have h4 := D_edge T a
  omega
end
end Wr

namespace Wr
def maxL (l : List Int) : Int := l.max?.getD 0
def minL (l : List Int) : Int := l.min?.getD 0
theorem maxL_eq {l : List Int} {m : Int} (h1 : m ∈ l) (h2 : ∀ y, y ∈ l → y ≤ m) : m = maxL l := by
  unfold maxL
  rw [List.max?_eq_some_iff.mpr ⟨h1, h2⟩]
  rfl
theorem minL_eq {l : List Int} {m : Int} (h1 : m ∈ l) (h2 : ∀ y, y ∈ l → m ≤ y) : m = minL l := by
  unfold minL
  rw [List.min?_eq_some_iff.mpr ⟨h1, h2⟩]
  rfl
theorem maxL_spec {l : List Int} (h : l ≠ []) : maxL l ∈ l ∧ ∀ y, y ∈ l → y ≤ maxL l := by
  cases e : l.max? with
  | none => exact absurd (List.max?_eq_none_iff.mp e) h
  | some m =>
    have := List.max?_eq_some_iff.mp e
    have e2 : maxL l = m := by unfold maxL; rw [e]; rfl
    rw [e2]; exact this
theorem minL_spec {l : List Int} (h : l ≠ []) : minL l ∈ l ∧ ∀ y, y ∈ l → minL l ≤ y := by
  cases e : l.min? with
  | none => exact absurd (List.min?_eq_none_iff.mp e) h
  | some m =>
    have := List.min?_eq_some_iff.mp e
    have e2 : minL l = m := by unfold minL; rw [e]; rfl
    rw [e2]; exact this
theorem perm_sum {l m : List Int} (h : l.Perm m) : l.sum = m.sum := by
  induction h with
  | nil => rfl
  | cons x _ ih => rw [List.sum_cons, List.sum_cons, ih]
  | swap x y l => rw [List.sum_cons, List.sum_cons, List.sum_cons, List.sum_cons]; omega
  | trans _ _ i1 i2 => exact i1.trans i2
def sumV (n : Nat) (g : Int → Int) : Int := ((ivs n).map g).sum
theorem sum_add : ∀ (l : List Int) (g h : Int → Int), (l.map fun k => g k + h k).sum = (l.map g).sum + (l.map h).sum
  | [], _, _ => rfl
  | x :: l, g, h => by
    have := sum_add l g h
    simp only [List.map_cons, List.sum_cons] at this ⊢
    omega
theorem sum_mul (c : Int) : ∀ (l : List Int) (g : Int → Int), (l.map fun k => c * g k).sum = c * (l.map g).sum
  | [], _ => by simp
  | x :: l, g => by
    have := sum_mul c l g
    simp only [List.map_cons, List.sum_cons] at this ⊢
    rw [this, Int.mul_add]
theorem sum_le : ∀ (l : List Int) (g h : Int → Int), (∀ x ∈ l, g x ≤ h x) → (l.map g).sum ≤ (l.map h).sum
  | [], _, _, _ => Int.le_refl _
  | x :: l, g, h, hl => by
    have h1 := sum_le l g h fun y hy => hl y (List.mem_cons_of_mem _ hy)
    have h2 := hl x (List.mem_cons_self ..)
    simp only [List.map_cons, List.sum_cons]
    omega
theorem sum_congr {l : List Int} {g h : Int → Int} (hl : ∀ x ∈ l, g x = h x) : (l.map g).sum = (l.map h).sum := by rw [List.map_congr_left hl]
theorem sum_filter (P : Int → Bool) (g : Int → Int) : ∀ l : List Int, ((l.filter P).map g).sum = (l.map fun k => if P k = true then g k else 0).sum
  | [] => rfl
  | x :: l => by
    have := sum_filter P g l
    rw [List.filter_cons, List.map_cons, List.sum_cons]
    cases e : P x with
    | true =>
      rw [if_pos rfl, if_pos rfl, List.map_cons, List.sum_cons, this]
    | false =>
      rw [if_neg (by decide), if_neg (by decide), this]
      omega
theorem sum_side {n : Nat} {L : List Int} (nd : L.Nodup) (P : Int → Bool) (h : ∀ x, x ∈ L ↔ ((0 ≤ x ∧ x < n) ∧ P x = true)) (g : Int → Int) : (L.map g).sum = sumV n fun k => if P k = true then g k else 0 := by
  have hp : L.Perm ((ivs n).filter P) := (List.perm_ext_iff_of_nodup nd ((ivs_nodup n).filter P)).mpr fun x => by
    rw [h, List.mem_filter, mem_ivs]
  rw [perm_sum (hp.map g), sum_filter]
  rfl
def pk (p : List Int) (k : Int) : Int := p.getD k.toNat 0
def walksV (n : Nat) (rs : List Road) (p : List Int) (x : Int) : Int := sumV n fun k => pk p k * D n rs x k
def walksL (n : Nat) (rs : List Road) (p : List Int) : List Int := (ivs n).map (walksV n rs p)
/-- how many people beyond the road at i, seen from its end a -/
def beyondV (n : Nat) (rs : List Road) (p : List Int) (i : Nat) (w : Int) : Int := ((flood n rs i w).map (pk p)).sum
/-- no road of x has more than half beyond -/
def evenV (n : Nat) (rs : List Road) (p : List Int) (x : Int) : Bool :=
  (List.range rs.length).all fun i => match rs[i]? with
    | some r => !(decide (x = r.a) || decide (x = r.b)) || !decide (2 * beyondV n rs p i (r.a + r.b - x) > p.sum)
    | none => true
section
variable {n : Nat} {rs : List Road} {p : List Int}
theorem psum (hl : p.length = n) : p.sum = sumV n (pk p) := by
  have e : p = (ivs n).map (pk p) := by
    refine List.ext_getElem (by simp [ivs, hl]) fun i k1 k2 => ?_
    simp [ivs, pk, List.getD, k1]
  conv => lhs; rw [e]
  rfl
/-- people on w's side of the road between w and v -/
def sideP (n : Nat) (rs : List Road) (p : List Int) (w v l : Int) : Int := sumV n fun k => if decide (D n rs v k = D n rs w k + l) = true then pk p k else 0
theorem beyond_side (T : IsTree n rs) {i : Nat} {r : Road} (hi : rs[i]? = some r) {w v : Int} (he : (r.a = w ∧ r.b = v) ∨ (r.b = w ∧ r.a = v)) : beyondV n rs p i w = sideP n rs p w v r.l := by
  have a : Adj rs w v r.l := ⟨r, List.mem_of_getElem? hi, rfl, he⟩
  have rg := a.range T.toRoadsOk
  obtain ⟨f1, _, f2⟩ := flood_facts T.toRoadsOk (i := i) (w := w) ⟨rg.1, rg.2.1⟩
  unfold beyondV sideP
  refine sum_side f1 _ (fun x => ?_) _
  rw [f2, decide_eq_true_eq]
  constructor
  · rintro ⟨h1, h2⟩; exact ⟨h1, (reach_side T hi he h1).mp h2⟩
  · rintro ⟨h1, h2⟩; exact ⟨h1, (reach_side T hi he h1).mpr h2⟩
/-- a step towards w -/
theorem walks_step (T : IsTree n rs) {w v l : Int} (a : Adj rs w v l) (hl : p.length = n) : walksV n rs p w - walksV n rs p v = l * (p.sum - 2 * sideP n rs p w v l) := by
  have e1 : walksV n rs p w = walksV n rs p v + l * (p.sum - 2 * sideP n rs p w v l) := by
    have h : (fun k => pk p k * D n rs w k) = fun k => pk p k * D n rs w k := rfl
    have key : ∀ k ∈ ivs n, pk p k * D n rs w k = pk p k * D n rs v k + (l * pk p k + (-(2 * l)) * (if decide (D n rs v k = D n rs w k + l) = true then pk p k else 0)) := by
      intro k hk
      have rl := (a.range T.toRoadsOk).2.2.2.2.2.1
      rcases two_sides T a (mem_ivs.mp hk) with q | q
      · rw [decide_eq_true q, if_pos rfl, q, Int.mul_add, Int.mul_comm l (pk p k), Int.neg_mul, Int.mul_assoc, Int.mul_comm l (pk p k)]
        omega
      · rw [decide_eq_false (by omega), if_neg (by decide), q, Int.mul_add, Int.mul_comm l (pk p k)]
        omega
    unfold walksV sideP
    rw [psum hl]
    unfold sumV
    rw [sum_congr key, sum_add, sum_add, sum_mul, sum_mul]
    rw [Int.mul_sub, ← Int.mul_assoc, Int.mul_comm l 2, Int.neg_mul]
    omega
  omega
theorem sideP_mono (T : IsTree n rs) (hp : ∀ k, 0 ≤ pk p k) {x y z l l' : Int} (a : Adj rs x y l) (b : Adj rs y z l') (hn : x ≠ z) : sideP n rs p z y l' ≤ sideP n rs p y x l := by
  refine sum_le _ _ _ fun k hk => ?_
  have hk' := mem_ivs.mp hk
  have ra := a.range T.toRoadsOk
  have rb := b.range T.toRoadsOk
  by_cases c : D n rs y k = D n rs z k + l'
  · have e1 := D_symm T hk' ⟨rb.1, rb.2.1⟩
    have e2 := D_symm T hk' ⟨rb.2.2.1, rb.2.2.2.1⟩
    have e3 := D_symm T hk' ⟨ra.1, ra.2.1⟩
    have := D_behind T hk' b.symm (by omega) a hn
    rw [decide_eq_true c, decide_eq_true (show D n rs x k = D n rs y k + l by omega)]
    exact Int.le_refl _
  · rw [decide_eq_false c, if_neg (by decide)]
    split
    · exact hp k
    · exact Int.le_refl _
/-- even: no neighbour is better -/
theorem even_iff (T : IsTree n rs) (hl : p.length = n) {x : Int} : evenV n rs p x = true ↔ ∀ y l, Adj rs x y l → walksV n rs p x ≤ walksV n rs p y := by
  unfold evenV
  rw [List.all_eq_true]
  constructor
  · intro h y l a
    obtain ⟨r, hr, rfl, ends⟩ := id a
    obtain ⟨i, hi, hri⟩ := List.getElem_of_mem hr
    have hi' : rs[i]? = some r := by rw [List.getElem?_eq_getElem hi, hri]
    have h := h i (List.mem_range.mpr hi)
    rw [hi'] at h
    replace h : (!(decide (x = r.a) || decide (x = r.b)) || !decide (2 * beyondV n rs p i (r.a + r.b - x) > p.sum)) = true := h
    have rl := (a.range T.toRoadsOk).2.2.2.2.2.1
    have ey : r.a + r.b - x = y := by rcases ends with ⟨e1, e2⟩ | ⟨e1, e2⟩ <;> omega
    have ends' : (r.a = y ∧ r.b = x) ∨ (r.b = y ∧ r.a = x) := by rcases ends with ⟨e1, e2⟩ | ⟨e1, e2⟩ <;> simp [e1, e2]
    have xo : x = r.a ∨ x = r.b := by rcases ends with ⟨e1, e2⟩ | ⟨e1, e2⟩ <;> simp [e1, e2]
    rw [ey, beyond_side T hi' ends'] at h
    have st := walks_step (p := p) T a.symm hl
    have : ¬ (2 * sideP n rs p y x r.l > p.sum) := by
      intro q
      simp [q] at h
      exact xo.elim (fun e => h.1 e) (fun e => h.2 e)
    have h0 : 0 ≤ r.l * (p.sum - 2 * sideP n rs p y x r.l) := Int.mul_nonneg (by omega) (by omega)
    omega
  · intro h i hi
    have hi := List.mem_range.mp hi
    rw [List.getElem?_eq_getElem hi]
    have hi' : rs[i]? = some rs[i] := List.getElem?_eq_getElem hi
    generalize rs[i] = r at hi'
    show (!(decide (x = r.a) || decide (x = r.b)) || !decide (2 * beyondV n rs p i (r.a + r.b - x) > p.sum)) = true
    by_cases xo : x = r.a ∨ x = r.b
    · have ho := T.ok r (List.mem_of_getElem? hi')
      have ends : (r.a = x ∧ r.b = r.a + r.b - x) ∨ (r.b = x ∧ r.a = r.a + r.b - x) := by rcases xo with e | e <;> omega
      have a : Adj rs x (r.a + r.b - x) r.l := ⟨r, List.mem_of_getElem? hi', rfl, ends⟩
      have ends' : (r.a = r.a + r.b - x ∧ r.b = x) ∨ (r.b = r.a + r.b - x ∧ r.a = x) := by rcases xo with e | e <;> omega
      have le := h _ _ a
      have st := walks_step (p := p) T a.symm hl
      rw [beyond_side T hi' ends']
      have : ¬ (2 * sideP n rs p (r.a + r.b - x) x r.l > p.sum) := by
        intro q
        have : r.l * (p.sum - 2 * sideP n rs p (r.a + r.b - x) x r.l) < 0 := Int.mul_neg_of_pos_of_neg (by omega) (by omega)
        omega
      rw [decide_eq_false this]
      simp
    · have h1 : ¬ x = r.a := fun e => xo (.inl e)
      have h2 : ¬ x = r.b := fun e => xo (.inr e)
      rw [decide_eq_false h1, decide_eq_false h2]
      rfl
/-- where no neighbour is better, none is -/
theorem local_least (T : IsTree n rs) (hl : p.length = n) (hp : ∀ k, 0 ≤ pk p k) {a : Int} (ha : 0 ≤ a ∧ a < n) (h : ∀ y l, Adj rs a y l → walksV n rs p a ≤ walksV n rs p y) : ∀ c : Int, 0 ≤ c ∧ c < n → walksV n rs p a ≤ walksV n rs p c := by
  have key : ∀ (m : Nat) (c : Int), 0 ≤ c ∧ c < n → D n rs a c ≤ m → c ≠ a → walksV n rs p a ≤ walksV n rs p c ∧ ∀ q l, Adj rs q c l → D n rs a c = D n rs a q + l → 2 * sideP n rs p c q l ≤ p.sum := by
    intro m
    induction m with
    | zero =>
      intro c hc hm hn
      have := D_pos T ha hc hn
      omega
    | succ m ih =>
      intro c hc hm hn
      obtain ⟨q, l, _, b, hD, q0, q1⟩ := D_parent T ha hc hn
      have rb := b.range T.toRoadsOk
      have side : 2 * sideP n rs p c q l ≤ p.sum := by
        by_cases e : q = a
        · subst e
          have h1 := h c l b
          have h2 := walks_step (p := p) T b.symm hl
          apply Classical.byContradiction
          intro hc'
          have : l * (p.sum - 2 * sideP n rs p c q l) < 0 := Int.mul_neg_of_pos_of_neg (by omega) (by omega)
          omega
        · obtain ⟨i1, i2⟩ := ih q ⟨q0, q1⟩ (by omega) e
          obtain ⟨q', l', _, b', hD', _, _⟩ := D_parent T ha ⟨q0, q1⟩ e
          have s1 := i2 q' l' b' hD'
          have rb' := b'.range T.toRoadsOk
          have ne : q' ≠ c := fun e => by rw [e] at hD'; omega
          have s2 := sideP_mono T hp b' b ne
          omega
      have st := walks_step (p := p) T b.symm hl
      have h0 : 0 ≤ l * (p.sum - 2 * sideP n rs p c q l) := Int.mul_nonneg (by omega) (by omega)
      refine ⟨?_, fun q2 l2 b2 hD2 => ?_⟩
      · by_cases e : q = a
        · subst e; omega
        · have := (ih q ⟨q0, q1⟩ (by omega) e).1
          omega
      · have e := D_par_unique T ha b hD b2 hD2
        subst e
        have : l2 = l := by omega
        subst this
        exact side
  intro c hc
  by_cases e : c = a
  · subst e; exact Int.le_refl _
  · exact (key (D n rs a c).toNat c hc (by have := D_nonneg T ha hc; omega) e).1
theorem walksL_mem {x : Int} (hx : 0 ≤ x ∧ x < n) : walksV n rs p x ∈ walksL n rs p := List.mem_map.mpr ⟨x, mem_ivs.mpr hx, rfl⟩
theorem even_least (T : IsTree n rs) (hl : p.length = n) (hp : ∀ k, 0 ≤ pk p k) {x : Int} (hx : 0 ≤ x ∧ x < n) : evenV n rs p x = decide (walksV n rs p x = minL (walksL n rs p)) := by
  have hne : walksL n rs p ≠ [] := fun e => by have := walksL_mem (p := p) (rs := rs) hx; rw [e] at this; cases this
  have sp := minL_spec hne
  rw [Bool.eq_iff_iff, even_iff T hl, decide_eq_true_eq]
  constructor
  · intro h
    have h1 := local_least T hl hp hx h
    refine minL_eq (walksL_mem hx) fun y hy => ?_
    obtain ⟨c, hc, rfl⟩ := List.mem_map.mp hy
    exact h1 c (mem_ivs.mp hc)
  · intro h y l a
    have r := a.range T.toRoadsOk
    rw [h]
    exact sp.2 _ (walksL_mem ⟨r.2.2.1, r.2.2.2.1⟩)

/-! ### the two villages that are farthest apart -/
def worstL (n : Nat) (rs : List Road) : List Int := (rowsD n rs).map maxL
structure IsFirst (n : Nat) (rs : List Road) (m u v : Int) : Prop where
  u0 : 0 ≤ u
  uv : u ≤ v
  vn : v < n
  at_ : D n rs u v = m
  first : ∀ u' v' : Int, 0 ≤ u' → u' ≤ v' → v' < n → D n rs u' v' = m → u < u' ∨ (u = u' ∧ v ≤ v')
theorem IsFirst.unique {m u v u' v' : Int} (h : IsFirst n rs m u v) (k : IsFirst n rs m u' v') : u = u' ∧ v = v' := by
  have h1 := h.first u' v' k.u0 k.uv k.vn k.at_
  have h2 := k.first u v h.u0 h.uv h.vn h.at_
  omega
theorem rowD_ne (h : 1 ≤ n) (s : Int) : rowD n rs s ≠ [] := by
  intro e
  have := congrArg List.length e
  simp [rowD, ivs] at this
  omega
theorem worst_facts (T : IsTree n rs) : (∃ u v : Int, 0 ≤ u ∧ u ≤ v ∧ v < n ∧ D n rs u v = maxL (worstL n rs)) ∧ ∀ u v : Int, 0 ≤ u ∧ u < n → 0 ≤ v ∧ v < n → D n rs u v ≤ maxL (worstL n rs) := by
  have n1 := T.pos
  have ne : worstL n rs ≠ [] := by
    intro e
    have := congrArg List.length e
    simp [worstL, rowsD, ivs] at this
    omega
  obtain ⟨h1, h2⟩ := maxL_spec ne
  constructor
  · unfold worstL at h1
    obtain ⟨row, hrow, e1⟩ := List.mem_map.mp h1
    obtain ⟨s, hs, rfl⟩ := List.mem_map.mp hrow
    obtain ⟨k1, k2⟩ := maxL_spec (rowD_ne (rs := rs) n1 s)
    obtain ⟨v, hv, e2⟩ := List.mem_map.mp k1
    have hs' := mem_ivs.mp hs
    have hv' := mem_ivs.mp hv
    have e3 : D n rs s v = maxL (worstL n rs) := by rw [e2]; exact e1
    by_cases c : s ≤ v
    · exact ⟨s, v, hs'.1, c, hv'.2, e3⟩
    · exact ⟨v, s, hv'.1, by omega, hs'.2, by rw [D_symm T hv' hs']; exact e3⟩
  · intro u v hu hv
    have k1 := (maxL_spec (rowD_ne (rs := rs) n1 u)).2 (D n rs u v) (List.mem_map.mpr ⟨v, mem_ivs.mpr hv, rfl⟩)
    have k2 := h2 (maxL (rowD n rs u)) (List.mem_map.mpr ⟨rowD n rs u, List.mem_map.mpr ⟨u, mem_ivs.mpr hu, rfl⟩, rfl⟩)
    omega
end
end Wr

namespace Wr
section
variable {n : Nat} {rs : List Road}
theorem ivs_take {n j : Nat} (h : j < n) : (ivs n).take (j + 1) = (ivs n).take j ++ [(j : Int)] := by
  rw [List.take_add_one]
  congr 1
  simp [ivs, h]
/-- the villages on w's side of the road between w and v -/
def sideL (n : Nat) (rs : List Road) (w v l : Int) : List Int := (ivs n).filter fun x => decide (D n rs v x = D n rs w x + l)
theorem mem_sideL {w v l x : Int} : x ∈ sideL n rs w v l ↔ (0 ≤ x ∧ x < n) ∧ D n rs v x = D n rs w x + l := by
  unfold sideL
  rw [List.mem_filter, mem_ivs, decide_eq_true_eq]
theorem ivs_incr' (n : Nat) : (ivs n).Pairwise (· < ·) := by
  unfold ivs
  rw [List.pairwise_map]
  exact List.Pairwise.imp (R := fun (a b : Nat) => a < b) (fun {a b} (h : a < b) => (by omega : (a : Int) < (b : Int))) List.pairwise_lt_range
theorem sideL_incr (w v l : Int) : (sideL n rs w v l).Pairwise (· < ·) := (ivs_incr' n).filter _
theorem flood_sideL (T : IsTree n rs) {i : Nat} {r : Road} (hi : rs[i]? = some r) {w v : Int} (he : (r.a = w ∧ r.b = v) ∨ (r.b = w ∧ r.a = v)) (x : Int) : x ∈ flood n rs i w ↔ x ∈ sideL n rs w v r.l := by
  have a : Adj rs w v r.l := ⟨r, List.mem_of_getElem? hi, rfl, he⟩
  have rg := a.range T.toRoadsOk
  rw [(flood_facts T.toRoadsOk ⟨rg.1, rg.2.1⟩).2.2 x, mem_sideL]
  constructor
  · rintro ⟨h1, h2⟩
    exact ⟨h1, (reach_side T hi he h1).mp h2⟩
  · rintro ⟨h1, h2⟩
    exact ⟨h1, (reach_side T hi he h1).mpr h2⟩
/-- the one side is what the other one is not -/
theorem side_other (T : IsTree n rs) {w v l : Int} (a : Adj rs w v l) : (ivs n).filter (fun x => !decide (x ∈ sideL n rs v w l)) = sideL n rs w v l := by
  unfold sideL
  refine List.filter_congr fun x hx => ?_
  have hx := mem_ivs.mp hx
  have rg := a.range T.toRoadsOk
  have ts := two_sides T a hx
  have e : x ∈ (ivs n).filter (fun x => decide (D n rs w x = D n rs v x + l)) ↔ D n rs w x = D n rs v x + l := by
    rw [List.mem_filter, mem_ivs, decide_eq_true_eq]
    exact ⟨fun h => h.2, fun h => ⟨hx, h⟩⟩
  by_cases c : D n rs w x = D n rs v x + l
  · have h1 : ¬ (D n rs v x = D n rs w x + l) := by omega
    rw [decide_eq_true (e.mpr c), decide_eq_false h1]; rfl
  · have h1 : D n rs v x = D n rs w x + l := by omega
    rw [decide_eq_false (fun h => c (e.mp h)), decide_eq_true h1]; rfl
/-- up from a village: seen from w, towards it, on the same side of the road between w and v -/
theorem up_side (T : IsTree n rs) {w v l : Int} (a : Adj rs w v l) {x : Int} (hx : 0 ≤ x ∧ x < n) (h1 : x ≠ w) (h2 : x ≠ v) :
    ∃ p, (walked n rs w).lookup x = some (p, D n rs w x) ∧ (0 ≤ p ∧ p < n) ∧ D n rs w p < D n rs w x ∧ (D n rs w p = D n rs v p + l ↔ D n rs w x = D n rs v x + l) := by
  have rg := a.range T.toRoadsOk
  have hw : 0 ≤ w ∧ w < n := ⟨rg.1, rg.2.1⟩
  obtain ⟨p, l', k1, b, k2, p0, p1⟩ := D_parent T hw hx h1
  have rb := b.range T.toRoadsOk
  refine ⟨p, k1, ⟨p0, p1⟩, by omega, ?_⟩
  have sp := two_sides T a ⟨p0, p1⟩
  have sx := two_sides T a hx
  constructor
  · intro h
    rcases sx with q | q
    · obtain ⟨e1, e2⟩ := cross T a b.symm q h
      exact absurd e1 h1
    · exact q
  · intro h
    rcases sp with q | q
    · obtain ⟨e1, e2⟩ := cross T a b q h
      exact absurd e2 h2
    · exact q

theorem toldN_le {cell most : Int} (h1 : 1 ≤ most) : toldN cell most ≤ most := by
  unfold toldN min2
  split
  · have b := Int.emod_lt_of_pos (cell / 42) (show 0 < most by omega)
    omega
  · split
    · have b := Int.emod_lt_of_pos cell (show (0 : Int) < 7 by decide)
      omega
    · have b := Int.emod_lt_of_pos cell (show 0 < most by omega)
      omega
theorem told_le (cell other : Int) {most : Int} (h1 : 1 ≤ most) : ((told cell other most).1 : Int) ≤ most := by
  have := toldN_le (cell := cell) h1
  show (((toldN cell most).toNat : Nat) : Int) ≤ most
  omega
/-! ### a tree and another one, joined -/
def shiftR (m : Int) (r : Road) : Road := ⟨r.a + m, r.b + m, r.l⟩
def joinedRs (n : Nat) (rs : List Road) (at' l : Int) (qs : List Road) : List Road := rs ++ ⟨at', n, l⟩ :: qs.map (shiftR n)
theorem walk_shift {qs ts : List Road} {m : Int} (h : ∀ r ∈ qs, shiftR m r ∈ ts) {u v d : Int} (w : Walk qs u v d) : Walk ts (u + m) (v + m) d := by
  induction w with
  | nil => exact .nil
  | snoc w a ih =>
    refine .snoc ih ?_
    obtain ⟨r, hr, hl, he⟩ := a
    refine ⟨_, h r hr, hl, ?_⟩
    rcases he with ⟨e1, e2⟩ | ⟨e1, e2⟩
    · exact .inl ⟨by simp [shiftR, e1], by simp [shiftR, e2]⟩
    · exact .inr ⟨by simp [shiftR, e1], by simp [shiftR, e2]⟩
theorem joined_tree (T : IsTree n rs) {m : Nat} {qs : List Road} (S : IsTree m qs) (h12 : n + m ≤ 12) {at' l : Int} (ha : 0 ≤ at' ∧ at' < n) (hl : 1 ≤ l ∧ l ≤ 1000000) : IsTree (n + m) (joinedRs n rs at' l qs) := by
  have m1 := S.pos
  have n1 := T.pos
  refine { ok := ?_, pos := by omega, le := h12, len := ?_, conn := ?_ }
  · intro r hr
    unfold joinedRs at hr
    rcases List.mem_append.mp hr with h | h
    · have := T.ok r h
      omega
    · rcases List.mem_cons.mp h with rfl | hq0
      · have q1 : at' < ((n + m : Nat) : Int) := by omega
        have q2 : (0 : Int) ≤ (n : Int) := by omega
        have q3 : (n : Int) < ((n + m : Nat) : Int) := by omega
        have q4 : at' ≠ (n : Int) := by omega
        exact ⟨ha.1, q1, q2, q3, q4, hl.1, hl.2⟩
      · obtain ⟨q, hq, rfl⟩ := List.mem_map.mp hq0
        have := S.ok q hq
        simp only [shiftR]
        omega
  · have := T.len
    have := S.len
    simp [joinedRs]
    omega
  · intro v h0 h1
    have sub1 : ∀ r ∈ rs, r ∈ joinedRs n rs at' l qs := fun r hr => List.mem_append_left _ hr
    by_cases c : v < n
    · obtain ⟨d, w⟩ := T.conn v h0 c
      exact ⟨d, w.mono sub1⟩
    · obtain ⟨d, w⟩ := T.conn at' ha.1 ha.2
      obtain ⟨e, w2⟩ := S.conn (v - n) (by omega) (by omega)
      have w3 := walk_shift (ts := joinedRs n rs at' l qs) (m := (n : Int)) (fun r hr => by
        unfold joinedRs
        exact List.mem_append_right _ (List.mem_cons_of_mem _ (List.mem_map.mpr ⟨r, hr, rfl⟩))) w2
      have e1 : (0 : Int) + n = n := by omega
      have e2 : v - n + n = v := by omega
      rw [e1, e2] at w3
      have w4 : Walk (joinedRs n rs at' l qs) 0 (n : Int) (d + l) := .snoc (w.mono sub1) ⟨⟨at', n, l⟩, by unfold joinedRs; simp, rfl, .inl ⟨rfl, rfl⟩⟩
      exact ⟨_, w4.trans w3⟩

/-! ### a road moved -/
theorem mem_set' {rs : List Road} {i : Nat} {r t : Road} (hi : rs[i]? = some r) (q : Road) : q ∈ rs.set i t ↔ q = t ∨ q ∈ rs.eraseIdx i := by
  have hlt := (List.getElem?_eq_some_iff.mp hi).1
  constructor
  · intro hm
    obtain ⟨j, hj, e⟩ := List.getElem_of_mem hm
    by_cases c : j = i
    · subst c
      rw [List.getElem_set_self] at e
      exact .inl e.symm
    · rw [List.getElem_set_ne (Ne.symm c)] at e
      exact .inr (mem_erase.mpr ⟨j, c, by rw [List.getElem?_eq_getElem (by simpa using hj), e]⟩)
  · rintro (rfl | h)
    · exact List.mem_set hlt _
    · obtain ⟨j, hj, e⟩ := mem_erase.mp h
      have hj2 := (List.getElem?_eq_some_iff.mp e).1
      refine List.mem_of_getElem? (i := j) ?_
      rw [List.getElem?_set_ne (Ne.symm hj), e]
theorem moved_ok (T : IsTree n rs) {i : Nat} {r : Road} (hi : rs[i]? = some r) {x y : Int} (hx : 0 ≤ x ∧ x < n) (hy : 0 ≤ y ∧ y < n) (hs : ¬ (x ∈ flood n rs i r.a ↔ y ∈ flood n rs i r.a)) : IsTree n (rs.set i ⟨x, y, r.l⟩) := by
  have hr := T.ok r (List.mem_of_getElem? hi)
  have a : Adj rs r.a r.b r.l := ⟨r, List.mem_of_getElem? hi, rfl, .inl ⟨rfl, rfl⟩⟩
  have hne : x ≠ y := fun e => hs (by rw [e])
  have sub : ∀ q ∈ rs.eraseIdx i, q ∈ rs.set i ⟨x, y, r.l⟩ := fun q h => (mem_set' hi q).mpr (.inr h)
  have new : (⟨x, y, r.l⟩ : Road) ∈ rs.set i ⟨x, y, r.l⟩ := (mem_set' hi _).mpr (.inl rfl)
  have fa := fun z => flood_sideL T hi (w := r.a) (v := r.b) (.inl ⟨rfl, rfl⟩) z
  have key : ∀ z : Int, 0 ≤ z ∧ z < n → (Reach (rs.set i ⟨x, y, r.l⟩) r.a z) := by
    have near : ∀ z : Int, 0 ≤ z ∧ z < n → z ∈ flood n rs i r.a → Reach (rs.set i ⟨x, y, r.l⟩) r.a z := fun z hz h => by
      have h := ((flood_facts T.toRoadsOk (i := i) ⟨hr.1, hr.2.1⟩).2.2 z).mp h
      obtain ⟨d, w⟩ := h.2
      exact ⟨d, w.mono sub⟩
    have farr : ∀ z : Int, 0 ≤ z ∧ z < n → z ∉ flood n rs i r.a → Reach (rs.set i ⟨x, y, r.l⟩) r.b z := fun z hz h => by
      have ts := two_sides T a hz
      rw [fa z, mem_sideL] at h
      have q : D n rs r.a z = D n rs r.b z + r.l := by
        rcases ts with q | q
        · exact absurd ⟨hz, q⟩ h
        · exact q
      obtain ⟨d, w⟩ := (reach_side T hi (w := r.b) (v := r.a) (.inr ⟨rfl, rfl⟩) hz).mpr q
      exact ⟨d, w.mono sub⟩
    have bridge : Reach (rs.set i ⟨x, y, r.l⟩) r.a r.b := by
      by_cases c : x ∈ flood n rs i r.a
      · have c2 : y ∉ flood n rs i r.a := fun h => hs ⟨fun _ => h, fun _ => c⟩
        refine (near x hx c).trans (Reach.trans ⟨0 + r.l, .snoc .nil ⟨_, new, rfl, .inl ⟨rfl, rfl⟩⟩⟩ (farr y hy c2).symm)
      · have c2 : y ∈ flood n rs i r.a := Classical.byContradiction fun h => hs ⟨fun q => absurd q c, fun q => absurd q h⟩
        refine (near y hy c2).trans (Reach.trans ⟨0 + r.l, .snoc .nil ⟨_, new, rfl, .inr ⟨rfl, rfl⟩⟩⟩ (farr x hx c).symm)
    intro z hz
    by_cases c : z ∈ flood n rs i r.a
    · exact near z hz c
    · exact bridge.trans (farr z hz c)
  refine { ok := ?_, pos := T.pos, le := T.le, len := by rw [List.length_set]; exact T.len, conn := fun v h0 h1 => ?_ }
  · intro q hq
    rcases (mem_set' hi q).mp hq with rfl | h
    · exact ⟨hx.1, hx.2, hy.1, hy.2, hne, hr.2.2.2.2.2.1, hr.2.2.2.2.2.2⟩
    · obtain ⟨j, _, e⟩ := mem_erase.mp h
      exact T.ok q (List.mem_of_getElem? e)
  · have z0 : (0 : Int) ≤ 0 ∧ (0 : Int) < n := ⟨Int.le_refl _, by have := T.pos; omega⟩
    exact (key 0 z0).symm.trans (key v ⟨h0, h1⟩)
theorem moved_bad (T : IsTree n rs) {i : Nat} {r : Road} (hi : rs[i]? = some r) {x y : Int} (hs : x ∈ flood n rs i r.a ↔ y ∈ flood n rs i r.a) : ¬ IsTree n (rs.set i ⟨x, y, r.l⟩) := by
  intro S
  have hr := T.ok r (List.mem_of_getElem? hi)
  have fa := (flood_facts T.toRoadsOk (i := i) (w := r.a) ⟨hr.1, hr.2.1⟩).2.2
  have key : ∀ {z d : Int}, Walk (rs.set i ⟨x, y, r.l⟩) r.a z d → z ∈ flood n rs i r.a := by
    intro z d w
    induction w with
    | nil => exact (fa _).mpr ⟨⟨hr.1, hr.2.1⟩, .refl⟩
    | @snoc u z d l w b ih =>
      have rb := b.range S.toRoadsOk
      obtain ⟨q, hq, hl, he⟩ := b
      rcases (mem_set' hi q).mp hq with rfl | h
      · rcases he with ⟨e1, e2⟩ | ⟨e1, e2⟩
        · have e1 : x = u := e1
          have e2 : y = z := e2
          subst e1 e2
          exact hs.mp ih
        · have e1 : y = u := e1
          have e2 : x = z := e2
          subst e1 e2
          exact hs.mpr ih
      · refine (fa z).mpr ⟨⟨rb.2.2.1, rb.2.2.2.1⟩, ?_⟩
        exact ((fa u).mp ih).2.trans ⟨0 + l, .snoc .nil ⟨q, h, hl, he⟩⟩
  obtain ⟨d, w⟩ := S.reach (u := r.a) (v := r.b) ⟨hr.1, hr.2.1⟩ ⟨hr.2.2.1, hr.2.2.2.1⟩
  have hb := key w
  rw [flood_sideL T hi (.inl ⟨rfl, rfl⟩), mem_sideL] at hb
  have h1 := D_self T (s := r.b) ⟨hr.2.2.1, hr.2.2.2.1⟩
  have h2 := D_nonneg T (u := r.a) (v := r.b) ⟨hr.1, hr.2.1⟩ ⟨hr.2.2.1, hr.2.2.2.1⟩
  have h3 := hr.2.2.2.2.2.1
  omega
/-- such a list of roads, all of them roads, is walked short -/
theorem moved_short (T : IsTree n rs) {i : Nat} {r : Road} (hi : rs[i]? = some r) {x y : Int} (hx : 0 ≤ x ∧ x < n) (hy : 0 ≤ y ∧ y < n) (hne : x ≠ y) (hs : x ∈ flood n rs i r.a ↔ y ∈ flood n rs i r.a) :
    RoadsOk n (rs.set i ⟨x, y, r.l⟩) ∧ (walked n (rs.set i ⟨x, y, r.l⟩) 0).length < n := by
  have hr := T.ok r (List.mem_of_getElem? hi)
  have k : RoadsOk n (rs.set i ⟨x, y, r.l⟩) := ⟨fun q hq => by
    rcases (mem_set' hi q).mp hq with rfl | h
    · exact ⟨hx.1, hx.2, hy.1, hy.2, hne, hr.2.2.2.2.2.1, hr.2.2.2.2.2.2⟩
    · obtain ⟨j, _, e⟩ := mem_erase.mp h
      exact T.ok q (List.mem_of_getElem? e)⟩
  refine ⟨k, Classical.byContradiction fun h => ?_⟩
  exact moved_bad T hi hs (tree_of_len k T.pos T.le (by rw [List.length_set]; exact T.len) h)
end
end Wr

namespace Wr
section
variable {n : Nat} {rs : List Road} {s : Int} {f : Found}
theorem Growth.dbound (k : RoadsOk n rs) (g : Growth rs s f) : ∀ v, v ∈ keys f → dOf f v ≤ 1000000 * ((f.length : Int) - 1) := by
  induction g with
  | start =>
    intro v hv
    simp [keys] at hv
    subst hv
    simp [dOf, List.lookup]
  | @snoc f v p l g hp ha hv ih =>
    intro v' hv'
    have rg := ha.range k
    rw [keys_append] at hv'
    rw [List.length_append, List.length_singleton]
    by_cases e : v' = v
    · subst e
      have h : dOf (f ++ [(v', (p, dOf f p + l))]) v' = dOf f p + l := by
        unfold dOf
        rw [lookup_append (e := (v', (p, _))) hv, if_pos rfl]; rfl
      have := ih p hp
      omega
    · have hv'' : v' ∈ keys f := by
        rcases List.mem_append.mp hv' with h | h
        · exact h
        · simp [keys] at h; exact absurd h e
      have h : dOf (f ++ [(v, (p, dOf f p + l))]) v' = dOf f v' := by
        unfold dOf
        rw [lookup_append (e := (v, (p, _))) hv, if_neg e]
      have := ih v' hv''
      omega
theorem D_le (T : IsTree n rs) {u v : Int} (hu : 0 ≤ u ∧ u < n) (hv : 0 ≤ v ∧ v < n) : D n rs u v ≤ 11000000 := by
  have F := T.walked hu
  have h1 := F.gr.dbound T.toRoadsOk v (F.all v hv.1 hv.2)
  have h2 := F.length T.toRoadsOk hu
  have h3 := T.le
  unfold D
  rw [h2] at h1
  omega

/-! ### the fewest wells -/
/-- well and caller: the well is the last one within the walk on the caller's way to village 0 -/
structure Pair (n : Nat) (rs : List Road) (W : Int) (p : Int × Int) : Prop where
  w : 0 ≤ p.1 ∧ p.1 < n
  c : 0 ≤ p.2 ∧ p.2 < n
  near : D n rs p.2 p.1 ≤ W
  line : D n rs 0 p.2 = D n rs 0 p.1 + D n rs p.1 p.2
  top : p.1 = 0 ∨ ∃ q l, Adj rs q p.1 l ∧ D n rs 0 p.1 = D n rs 0 q + l ∧ W < D n rs p.2 q
def Later (n : Nat) (rs : List Road) (W : Int) (p q : Int × Int) : Prop := W < D n rs q.2 p.1 ∧ D n rs 0 q.2 ≤ D n rs 0 p.2
structure Dug (n : Nat) (rs : List Road) (W : Int) (ps : List (Int × Int)) : Prop where
  good : ∀ p ∈ ps, Pair n rs W p
  later : ps.Pairwise (Later n rs W)
/-- no village is within the walk of both callers -/
theorem apart (T : IsTree n rs) {W : Int} {p q : Int × Int} (hp : Pair n rs W p) (hq : Pair n rs W q) (h : Later n rs W p q) {x : Int} (hx : 0 ≤ x ∧ x < n) : ¬ (D n rs x p.2 ≤ W ∧ D n rs x q.2 ≤ W) := by
  rintro ⟨h1, h2⟩
  have z0 : (0 : Int) ≤ 0 ∧ (0 : Int) < n := ⟨Int.le_refl _, by have := T.pos; omega⟩
  obtain ⟨f1, f2⟩ := h
  have e1 := D_symm T hp.c hp.w
  have near := hp.near
  have line := hp.line
  rcases hp.top with e | ⟨r, l, a, dr, dw⟩
  · rw [e] at f1 near line
    have e2 := D_symm T z0 hq.c
    have e3 := D_symm T z0 hp.c
    omega
  · have rg := a.range T.toRoadsOk
    have hr : 0 ≤ r ∧ r < n := ⟨rg.1, rg.2.1⟩
    have hw := hp.w
    -- the caller p.2 is on p.1's side
    have sc : D n rs r p.2 = D n rs p.1 p.2 + l := by
      rcases two_sides T a hp.c with z | z
      · exfalso
        have t := D_tri T z0 hr hp.c
        omega
      · exact z
    -- the other caller is on r's side
    have sq : D n rs p.1 q.2 = D n rs r q.2 + l := by
      rcases two_sides T a hq.c with z | z
      · exact z
      · exfalso
        have t : D n rs 0 q.2 = D n rs 0 p.1 + D n rs p.1 q.2 := by
          have c0 : D n rs p.1 0 = D n rs r 0 + l := by
            have s1 := D_symm T z0 hw
            have s2 := D_symm T z0 hr
            omega
          have := cut T a z0 hq.c c0 z
          have s2 := D_symm T z0 hr
          omega
        have s3 := D_symm T hq.c hw
        omega
    rcases two_sides T a hx with z | z
    · -- x on r's side: the way from p.2 to x goes over the road
      have c := cut T a.symm hp.c hx sc z
      have s1 := D_symm T hx hp.c
      have s2 := D_symm T hw hp.c
      have nn := D_nonneg T hr hx
      have s4 := D_symm T hp.c hr
      omega
    · have c := cut T a hq.c hx sq z
      have s1 := D_symm T hx hq.c
      have s3 := D_symm T hq.c hr
      have s4 := D_symm T hq.c hw
      have nn := D_nonneg T hw hx
      omega
theorem Dug.nil {W : Int} : Dug n rs W [] := ⟨(fun _ h => nomatch h), .nil⟩
theorem Dug.snoc {W : Int} {ps : List (Int × Int)} {p : Int × Int} (d : Dug n rs W ps) (hp : Pair n rs W p) (h : ∀ q ∈ ps, Later n rs W q p) : Dug n rs W (ps ++ [p]) := by
  refine ⟨fun q hq => ?_, List.pairwise_append.mpr ⟨d.later, List.pairwise_singleton _ _, fun a ha b hb => ?_⟩⟩
  · rcases List.mem_append.mp hq with z | z
    · exact d.good q z
    · rw [List.mem_singleton.mp z]; exact hp
  · rw [List.mem_singleton.mp hb]
    exact h a ha
theorem Dug.wells (d : Dug n rs W ps) : (ps.map (·.1)).Nodup := by
  unfold List.Nodup
  rw [List.pairwise_map]
  refine List.Pairwise.imp_of_mem (fun {p q} hp hq h e => ?_) d.later
  have := (d.good q hq).near
  have := h.1
  have e : p.1 = q.1 := e
  rw [e] at this
  omega
theorem Dug.callers (d : Dug n rs W ps) : (ps.map (·.2)).Nodup := by
  unfold List.Nodup
  rw [List.pairwise_map]
  refine List.Pairwise.imp_of_mem (fun {p q} hp hq h e => ?_) d.later
  have h1 := (d.good p hp).near
  have h2 := h.1
  have e : p.2 = q.2 := e
  rw [e] at h1
  omega
/-- what the answer's word says -/
def shownV (n : Nat) (rs : List Road) (ws cs : List Int) (W : Int) : Bool :=
  decide (ws.length = cs.length) && (ivs n).all fun v => (ws.any fun w => decide (D n rs v w ≤ W)) && decide ((cs.filter fun c => decide (D n rs v c ≤ W)).length ≤ 1)
theorem one_of {α : Type} {R : α → α → Prop} {P : α → Bool} : ∀ {l : List α}, l.Pairwise R → (∀ a ∈ l, ∀ b ∈ l, R a b → ¬ (P a = true ∧ P b = true)) → (l.filter P).length ≤ 1
  | [], _, _ => by simp
  | a :: l, h, hn => by
    obtain ⟨h1, h2⟩ := List.pairwise_cons.mp h
    have ih := one_of h2 fun x hx y hy => hn x (List.mem_cons_of_mem _ hx) y (List.mem_cons_of_mem _ hy)
    by_cases c : P a = true
    · have e : l.filter P = [] := by
        rw [List.filter_eq_nil_iff]
        intro b hb hb2
        exact hn a List.mem_cons_self b (List.mem_cons_of_mem _ hb) (h1 b hb) ⟨c, hb2⟩
      rw [List.filter_cons_of_pos c, e]
      simp
    · rw [List.filter_cons_of_neg c]
      exact ih
theorem dug_shown (T : IsTree n rs) {W : Int} {ps : List (Int × Int)} (d : Dug n rs W ps) (all : ∀ v : Int, 0 ≤ v → v < n → ∃ p ∈ ps, D n rs v p.1 ≤ W) {ws cs : List Int} (hw : ws.Perm (ps.map (·.1))) (hc : cs.Perm (ps.map (·.2))) : shownV n rs ws cs W = true := by
  unfold shownV
  rw [Bool.and_eq_true, decide_eq_true_eq]
  refine ⟨by rw [hw.length_eq, hc.length_eq, List.length_map, List.length_map], ?_⟩
  rw [List.all_eq_true]
  intro v hv
  have hv := mem_ivs.mp hv
  rw [Bool.and_eq_true, List.any_eq_true, decide_eq_true_eq]
  constructor
  · obtain ⟨p, hp, h⟩ := all v hv.1 hv.2
    exact ⟨p.1, hw.mem_iff.mpr (List.mem_map.mpr ⟨p, hp, rfl⟩), decide_eq_true h⟩
  · rw [(hc.filter _).length_eq, List.filter_map, List.length_map]
    refine one_of d.later fun a ha b hb h => ?_
    intro q
    have q1 : D n rs v a.2 ≤ W := by simpa using q.1
    have q2 : D n rs v b.2 ≤ W := by simpa using q.2
    exact apart T (d.good a ha) (d.good b hb) h hv ⟨q1, q2⟩

/-! ### a tree with other lengths -/
def longerR (r : Road) : Road := ⟨r.a, r.b, if 1000000 < r.l + 1 then 1000000 else r.l + 1⟩
theorem longer_tree (T : IsTree n rs) : IsTree n (rs.map longerR) := by
  refine { ok := fun r hr => ?_, pos := T.pos, le := T.le, len := by rw [List.length_map]; exact T.len, conn := fun v h0 h1 => ?_ }
  · obtain ⟨q, hq, rfl⟩ := List.mem_map.mp hr
    have := T.ok q hq
    simp only [longerR]
    split <;> omega
  · obtain ⟨d, w⟩ := T.conn v h0 h1
    induction w with
    | nil => exact .refl
    | snoc w a ih =>
      have rg := a.range T.toRoadsOk
      refine (ih rg.1 rg.2.1).trans ?_
      obtain ⟨q, hq, hl, he⟩ := a
      exact ⟨0 + (longerR q).l, .snoc .nil ⟨longerR q, List.mem_map.mpr ⟨q, hq, rfl⟩, rfl, he⟩⟩
end
end Wr
namespace Wr
theorem rising_of {l : List Int} (h : l.Pairwise (· ≤ ·)) (nd : l.Nodup) : l.Pairwise (· < ·) := by
  induction l with
  | nil => exact .nil
  | cons a l ih =>
    obtain ⟨h1, h2⟩ := List.pairwise_cons.1 h
    obtain ⟨d1, d2⟩ := List.nodup_cons.1 nd
    refine List.pairwise_cons.2 ⟨fun b hb => ?_, ih h2 d2⟩
    have := h1 b hb
    have : a ≠ b := fun e => d1 (e ▸ hb)
    omega
/-- what dug tells -/
structure DugRes (n : Nat) (rs : List Road) (W : Int) (ws cs : List Int) : Prop where
  shown : shownV n rs ws cs W = true
  wr : ws.Pairwise (· < ·)
  cr : cs.Pairwise (· < ·)
  wi : ∀ x ∈ ws, 0 ≤ x ∧ x < n
  ci : ∀ x ∈ cs, 0 ≤ x ∧ x < n
  len : ws.length = cs.length
  pos : 0 < ws.length
theorem rise_le {n : Nat} {l : List Int} (h : l.Pairwise (· < ·)) (hi : ∀ x ∈ l, 0 ≤ x ∧ x < n) : l.length ≤ n := by
  have h1 := List.Nodup.length_le_of_subset (l₁ := l) (l₂ := ivs n) (List.Pairwise.imp (fun h => Int.ne_of_lt h) h) fun x hx => mem_ivs.mpr (hi x hx)
  rwa [ivs_length] at h1
theorem dug_res {n : Nat} {rs : List Road} (T : IsTree n rs) {W : Int} {ps : List (Int × Int)} (d : Dug n rs W ps) (all : ∀ v : Int, 0 ≤ v → v < n → ∃ p ∈ ps, D n rs v p.1 ≤ W) {ws cs : List Int} (hw : ws.Perm (ps.map (·.1))) (hc : cs.Perm (ps.map (·.2))) (h1 : ws.Pairwise (· ≤ ·)) (h2 : cs.Pairwise (· ≤ ·)) : DugRes n rs W ws cs := by
  refine ⟨dug_shown T d all hw hc, rising_of h1 (hw.nodup_iff.mpr d.wells), rising_of h2 (hc.nodup_iff.mpr d.callers), fun x hx => ?_, fun x hx => ?_, by rw [hw.length_eq, hc.length_eq, List.length_map, List.length_map], ?_⟩
  · obtain ⟨p, hp, rfl⟩ := List.mem_map.mp (hw.mem_iff.mp hx)
    exact (d.good p hp).w
  · obtain ⟨p, hp, rfl⟩ := List.mem_map.mp (hc.mem_iff.mp hx)
    exact (d.good p hp).c
  · obtain ⟨p, hp, _⟩ := all 0 (Int.le_refl _) (by have := T.pos; omega)
    rw [hw.length_eq, List.length_map]
    exact List.length_pos_iff.mpr fun e => by rw [e] at hp; cases hp
end Wr

namespace Wr
/-! ### the least walk: with one and the same walk dug tells as many wells each time -/
section
variable {n : Nat} {rs : List Road}
theorem two_in {l : List Int} {P : Int → Bool} {a b : Int} (ha : a ∈ l) (hb : b ∈ l) (pa : P a = true) (pb : P b = true) (h : (l.filter P).length ≤ 1) : a = b := by
  by_cases e : a = b
  · exact e
  · exfalso
    have nd : [a, b].Nodup := by simp [e]
    have h2 := List.Nodup.length_le_of_subset nd (l₂ := l.filter P) fun x hx => by
      rcases List.mem_cons.mp hx with hx | hx
      · subst hx; exact List.mem_filter.mpr ⟨ha, pa⟩
      · rw [List.mem_singleton] at hx
        subst hx; exact List.mem_filter.mpr ⟨hb, pb⟩
    simp at h2
    omega
/-- callers told once are no more than wells told another time -/
theorem pack_le (T : IsTree n rs) {W : Int} {ws cs ws' cs' : List Int} (h : DugRes n rs W ws cs) (h' : DugRes n rs W ws' cs') : cs'.length ≤ ws.length := by
  have s1 := h.shown
  have s2 := h'.shown
  unfold shownV at s1 s2
  rw [Bool.and_eq_true, List.all_eq_true] at s1 s2
  have near : ∀ c ∈ cs', ∃ x ∈ ws, D n rs c x ≤ W := fun c hc => by
    have q := s1.2 c (mem_ivs.mpr (h'.ci c hc))
    rw [Bool.and_eq_true, List.any_eq_true] at q
    obtain ⟨x, hx, hd⟩ := q.1
    exact ⟨x, hx, by simpa using hd⟩
  obtain ⟨f, hf⟩ : ∃ f : Int → Int, ∀ c ∈ cs', f c ∈ ws ∧ D n rs c (f c) ≤ W := by
    refine ⟨fun c => if hc : c ∈ cs' then (near c hc).choose else 0, fun c hc => ?_⟩
    simp only [dif_pos hc]
    exact (near c hc).choose_spec
  have nd' : cs'.Nodup := h'.cr.imp (fun h => Int.ne_of_lt h)
  have inj : ∀ a ∈ cs', ∀ b ∈ cs', f a = f b → a = b := fun a ha b hb e => by
    obtain ⟨fa, da⟩ := hf a ha
    obtain ⟨fb, db⟩ := hf b hb
    have w := h.wi _ fa
    have q := s2.2 (f a) (mem_ivs.mpr w)
    rw [Bool.and_eq_true, decide_eq_true_eq] at q
    refine two_in ha hb ?_ ?_ q.2
    · have := D_symm T w (h'.ci a ha); exact decide_eq_true (by omega)
    · rw [e] at w ⊢
      have := D_symm T w (h'.ci b hb); exact decide_eq_true (by omega)
  have nd2 : (cs'.map f).Nodup := by
    unfold List.Nodup
    rw [List.pairwise_map]
    exact List.Pairwise.imp_of_mem (fun {a b} ha hb hne e => hne (inj a ha b hb e)) nd'
  have := List.Nodup.length_le_of_subset nd2 (l₂ := ws) fun x hx => by
    obtain ⟨c, hc, rfl⟩ := List.mem_map.mp hx
    exact (hf c hc).1
  rwa [List.length_map] at this
theorem dug_len (T : IsTree n rs) {W : Int} {ws cs ws' cs' : List Int} (h : DugRes n rs W ws cs) (h' : DugRes n rs W ws' cs') : ws.length = ws'.length := by
  have a := pack_le T h h'
  have b := pack_le T h' h
  have c := h.len
  have d := h'.len
  omega
/-- with the greatest walk one well is enough -/
theorem dug_one (T : IsTree n rs) {W : Int} {ws cs : List Int} (h : DugRes n rs W ws cs) (hW : ∀ c : Int, 0 ≤ c → c < n → D n rs 0 c ≤ W) : ws.length ≤ 1 := by
  have s := h.shown
  unfold shownV at s
  rw [Bool.and_eq_true, List.all_eq_true] at s
  have q := s.2 0 (mem_ivs.mpr ⟨Int.le_refl _, by have := T.pos; omega⟩)
  rw [Bool.and_eq_true, decide_eq_true_eq] at q
  have e : cs.filter (fun c => decide (D n rs 0 c ≤ W)) = cs := List.filter_eq_self.mpr fun c hc => decide_eq_true (hW c (h.ci c hc).1 (h.ci c hc).2)
  rw [e] at q
  have := h.len
  omega
/-- how far it is between some two villages, or nought -/
def IsD (n : Nat) (rs : List Road) (x : Int) : Prop := x = 0 ∨ ∃ u v : Int, (0 ≤ u ∧ u < n) ∧ (0 ≤ v ∧ v < n) ∧ x = D n rs u v
theorem IsD.rg (T : IsTree n rs) {x : Int} (h : IsD n rs x) : 0 ≤ x ∧ x ≤ 12000000 := by
  rcases h with rfl | ⟨u, v, hu, hv, rfl⟩
  · exact ⟨Int.le_refl _, by decide⟩
  · have := D_nonneg T hu hv
    have := D_le T hu hv
    omega
/-- all that may be told, each pair of villages once -/
def dAll (n : Nat) (rs : List Road) : List Int := 0 :: (List.range n).flatMap fun u : Nat => (List.range u).map fun v : Nat => D n rs (u : Int) (v : Int)
theorem mem_dAll (T : IsTree n rs) {x : Int} (h : IsD n rs x) : x ∈ dAll n rs := by
  rcases h with rfl | ⟨u, v, hu, hv, rfl⟩
  · exact List.mem_cons_self ..
  · have key : ∀ u v : Int, (0 ≤ u ∧ u < n) → (0 ≤ v ∧ v < n) → v < u → D n rs u v ∈ dAll n rs := fun u v hu hv h => by
      refine List.mem_cons_of_mem _ (List.mem_flatMap.mpr ⟨u.toNat, List.mem_range.mpr (by omega), List.mem_map.mpr ⟨v.toNat, List.mem_range.mpr (by omega), ?_⟩⟩)
      rw [show ((u.toNat : Nat) : Int) = u by omega, show ((v.toNat : Nat) : Int) = v by omega]
    by_cases e : u = v
    · subst e
      rw [D_self T hu]
      exact List.mem_cons_self ..
    · by_cases c : v < u
      · exact key u v hu hv c
      · rw [D_symm T hu hv]
        exact key v u hv hu (by omega)
theorem dAll_len (h : n ≤ 8) : (dAll n rs).length ≤ 29 := by
  have e : (dAll n rs).length = 1 + ((List.range n).map id).sum := by
    unfold dAll
    rw [List.length_cons, List.length_flatMap]
    have : (List.map (fun a : Nat => (List.map (fun v : Nat => D n rs (a : Int) (v : Int)) (List.range a)).length) (List.range n)) = (List.range n).map id := List.map_congr_left fun a _ => by simp
    rw [this]; omega
  rw [e]
  have : ∀ m, m ≤ 8 → ((List.range m).map id).sum ≤ 28 := by decide
  have := this n h
  omega
theorem few_keys (T : IsTree n rs) (h : n ≤ 8) {ks : List Int} (nd : ks.Nodup) (hk : ∀ x ∈ ks, IsD n rs x) : ks.length ≤ 29 :=
  Nat.le_trans (List.Nodup.length_le_of_subset nd fun x hx => mem_dAll T (hk x hx)) (dAll_len h)
/-- what least_walk tells -/
structure Least (n : Nat) (rs : List Road) (many x : Int) : Prop where
  isD : IsD n rs x
  enough : ∃ ws cs, DugRes n rs x ws cs ∧ (ws.length : Int) ≤ many
  lesser : ∀ y, IsD n rs y → y < x → ∃ ws cs, DugRes n rs y ws cs ∧ many < (ws.length : Int)
end
end Wr

namespace Wr
open PySem L2

/-- no exception, so any way of lying -/
theorem FnOk.lift {P : Program} {w : World} {K : PySem.W.Frag} {mg : Str → Option Value} {base : Heap} {CX : CXT} {k : Nat} {f : Addr} {fd : FuncData} {ps : List Str} {sp : Sp} (F : FnOk P w K mg base CX0 k f fd ps sp) : FnOk P w K mg base CX k f fd ps sp :=
  ⟨F.len, fun A outer s H args us vs Q E hr e b r h => codeAny_mono (F.run A outer s H args us vs Q E hr e b r h) fun r s' q => by
    cases r with
    | error e => exact False.elim q
    | ok fl => cases fl <;> exact q⟩
/-- a def of the module's top, by its name, with its promise -/
structure Gd (P : Program) (w : World) (K : PySem.W.Frag) (mg : Str → Option Value) (base : Heap) (k : Nat) (x : Str) (ps : List Str) (sp : Sp) : Prop where
  ex : ∃ f fd, mg x = some (.ref f) ∧ PySem.W.keepIn K (.ref f) = true ∧ Binds K fd ps [] ∧ FnOk P w K mg base (L2.CX P w) k f fd ps sp
/-- a method -/
structure Gm (P : Program) (w : World) (K : PySem.W.Frag) (mg : Str → Option Value) (base : Heap) (C : Addr) (k : Nat) (x : Str) (ps : List Str) (sp : Sp) : Prop where
  ex : ∃ f fd, Meth K C x f ∧ Binds K fd ps [] ∧ FnOk P w K mg base (L2.CX P w) k f fd ps sp
/-- a class that is made by a call -/
structure Gc (P : Program) (w : World) (K : PySem.W.Frag) (mg : Str → Option Value) (base : Heap) (C : Addr) (k : Nat) (x : Str) (ps : List Str) (sp : Sp) : Prop where
  ex : ∃ f fd, mg x = some (.ref C) ∧ Mk K C f ∧ Binds K fd ps [] ∧ FnOk P w K mg base (L2.CX P w) k f fd ps sp
section
variable {X : Cx} {C : Addr} {k j : Nat} {x m : Str} {ps : List Str} {sp : Sp} {p pos apos : Pos} {o e : Expr} {es : List Expr} {ta : TE} {t : TA} {E : XK}
/-- a call; hx: passL (it does not raise), or passes_call tk (fun _ _ _ _ h => h) -/
theorem pe_gx (G : Gd X.prog X.w X.K X.mg X.base k x ps sp) (hr : Room j X.A) (hg : Gl X x) (hx : Passes (L2.CX X.prog X.w) X E) (ha : PA X (e :: es) t) (hk : k ≤ j := by decide)
    (w1 : (x == ("__debug__" : Str)) = false := by decide) (w2 : starEach (e :: es) X.env = (false, eval e X.env) :: starEach es X.env := by rfl)
    (w3 : (backTo pos (starEach es X.env)).any (fun z => z.1) = false := by rfl) :
    PE X (.Call (.Name x p) (e :: es) [] pos) (tCall sp [] E t) := by
  obtain ⟨f, fd, hm, kp, hb, F⟩ := G.ex
  exact pe_call F (hr.mono hk) hg hm kp hb .nil hx ha w1 w2 w3
theorem pe_g (G : Gd X.prog X.w X.K X.mg X.base k x ps sp) (hr : Room j X.A) (hg : Gl X x) (ha : PA X (e :: es) t) (hk : k ≤ j := by decide)
    (w1 : (x == ("__debug__" : Str)) = false := by decide) (w2 : starEach (e :: es) X.env = (false, eval e X.env) :: starEach es X.env := by rfl)
    (w3 : (backTo pos (starEach es X.env)).any (fun z => z.1) = false := by rfl) :
    PE X (.Call (.Name x p) (e :: es) [] pos) (tCall sp [] E0 t) := pe_gx G hr hg passL ha hk w1 w2 w3
theorem pe_gmx {pl : Sem Bool} (he : PE X o ta) (c : Cls X.K C) (G : Gm X.prog X.w X.K X.mg X.base C k m ps sp) (hr : Room j X.A) (hx : Passes (L2.CX X.prog X.w) X E) (ha : PA X (e :: es) t) (hk : k ≤ j := by decide)
    (w1 : starEach (e :: es) X.env = (false, eval e X.env) :: starEach es X.env := by rfl) (w2 : (backTo pos (starEach es X.env)).any (fun z => z.1) = false := by rfl)
    (ht : eval (.Call (.Attribute o m apos) (e :: es) [] pos) X.env = (do let ov ← eval o X.env; standAt apos.atName; let z ← holding [ov] (getMethod ov m pl); callWith pos z.1 z.2 (backTo pos (starEach (e :: es) X.env)) (backToKw pos (keywordEach [] X.env))) := by rfl) :
    PE X (.Call (.Attribute o m apos) (e :: es) [] pos) (tMeth C m sp [] E ta t) := by
  obtain ⟨f, fd, hm, hb, F⟩ := G.ex
  exact pe_meth he c hm F (hr.mono hk) hb .nil hx ha w1 w2 ht
theorem pe_gm {pl : Sem Bool} (he : PE X o ta) (c : Cls X.K C) (G : Gm X.prog X.w X.K X.mg X.base C k m ps sp) (hr : Room j X.A) (ha : PA X (e :: es) t) (hk : k ≤ j := by decide)
    (w1 : starEach (e :: es) X.env = (false, eval e X.env) :: starEach es X.env := by rfl) (w2 : (backTo pos (starEach es X.env)).any (fun z => z.1) = false := by rfl)
    (ht : eval (.Call (.Attribute o m apos) (e :: es) [] pos) X.env = (do let ov ← eval o X.env; standAt apos.atName; let z ← holding [ov] (getMethod ov m pl); callWith pos z.1 z.2 (backTo pos (starEach (e :: es) X.env)) (backToKw pos (keywordEach [] X.env))) := by rfl) :
    PE X (.Call (.Attribute o m apos) (e :: es) [] pos) (tMeth C m sp [] E0 ta t) := pe_gmx he c G hr passL ha hk w1 w2 ht
theorem pe_gm0 {pl : Sem Bool} (he : PE X o ta) (c : Cls X.K C) (G : Gm X.prog X.w X.K X.mg X.base C k m ps sp) (hr : Room j X.A) (hk : k ≤ j := by decide)
    (ht : eval (.Call (.Attribute o m apos) [] [] pos) X.env = (do let ov ← eval o X.env; standAt apos.atName; let z ← holding [ov] (getMethod ov m pl); callWith pos z.1 z.2 (backTo pos (starEach [] X.env)) (backToKw pos (keywordEach [] X.env))) := by rfl) :
    PE X (.Call (.Attribute o m apos) [] [] pos) (tMeth C m sp [] E0 ta tNil) := by
  obtain ⟨f, fd, hm, hb, F⟩ := G.ex
  exact pe_meth0 he c hm F (hr.mono hk) hb .nil passL ht
theorem pe_gcx (G : Gc X.prog X.w X.K X.mg X.base C k x ps sp) (hr : Room j X.A) (hg : Gl X x) (hx : Passes (L2.CX X.prog X.w) X E) (ha : PA X (e :: es) t) (hk : k + 1 ≤ j := by decide)
    (w1 : (x == ("__debug__" : Str)) = false := by decide) (w2 : starEach (e :: es) X.env = (false, eval e X.env) :: starEach es X.env := by rfl)
    (w3 : (backTo pos (starEach es X.env)).any (fun z => z.1) = false := by rfl) :
    PE X (.Call (.Name x p) (e :: es) [] pos) (tMake C sp [] E t) := by
  obtain ⟨f, fd, hm, M, hb, F⟩ := G.ex
  exact pe_make M F (hr.mono hk) hg hm hb .nil hx ha w1 w2 w3
theorem pe_gc (G : Gc X.prog X.w X.K X.mg X.base C k x ps sp) (hr : Room j X.A) (hg : Gl X x) (ha : PA X (e :: es) t) (hk : k + 1 ≤ j := by decide)
    (w1 : (x == ("__debug__" : Str)) = false := by decide) (w2 : starEach (e :: es) X.env = (false, eval e X.env) :: starEach es X.env := by rfl)
    (w3 : (backTo pos (starEach es X.env)).any (fun z => z.1) = false := by rfl) :
    PE X (.Call (.Name x p) (e :: es) [] pos) (tMake C sp [] E0 t) := pe_gcx G hr hg passL ha hk w1 w2 w3
end

/-- built-ins that the program does not shadow -/
structure Bi (mg : Str → Option Value) : Prop where
  len : mg "len" = none
  isinstance : mg "isinstance" = none
  list : mg "list" = none
  int : mg "int" = none
  bool : mg "bool" = none
  tuple : mg "tuple" = none
  range : mg "range" = none
  set : mg "set" = none
  sorted : mg "sorted" = none
  sum : mg "sum" = none
  max : mg "max" = none
  min : mg "min" = none
  any : mg "any" = none
  all : mg "all" = none
  reversed : mg "reversed" = none
  str : mg "str" = none

/-- a value whose type is known -/
def isI : V → Bool | .int _ => true | .bl _ => true | _ => false
def isB : V → Bool | .bl _ => true | _ => false
structure Plain (K : PySem.W.Frag) (H : Hp) (x : V) : Prop where
  ex : ∃ t, TyX K H x t ∧ PySem.W.kitOne K t (.type "int") = some (isI x) ∧ PySem.W.kitOne K t (.type "bool") = some (isB x)
theorem Plain.int {K : PySem.W.Frag} {H : Hp} (i : Int) : Plain K H (.int i) := ⟨_, .base (.int i), kit_ty (show kitB "int" "int" = some true by decide +kernel), kit_ty (show kitB "int" "bool" = some false by decide +kernel)⟩
theorem Plain.bl {K : PySem.W.Frag} {H : Hp} (i : Bool) : Plain K H (.bl i) := ⟨_, .base (.bl i), kit_ty (show kitB "bool" "int" = some true by decide +kernel), kit_ty (show kitB "bool" "bool" = some true by decide +kernel)⟩
theorem Plain.non {K : PySem.W.Frag} {H : Hp} : Plain K H .non := ⟨_, .base .non, kit_ty (show kitB "NoneType" "int" = some false by decide +kernel), kit_ty (show kitB "NoneType" "bool" = some false by decide +kernel)⟩
theorem Plain.str {K : PySem.W.Frag} {H : Hp} (x : Str) : Plain K H (.str x) := ⟨_, .base (.str x), kit_ty (show kitB "str" "int" = some false by decide +kernel), kit_ty (show kitB "str" "bool" = some false by decide +kernel)⟩
theorem Plain.lst {K : PySem.W.Frag} {H : Hp} {a : Addr} {xs : List V} (h : H a = some (.lst xs)) : Plain K H (.ref a) := ⟨_, .base (.lst h), kit_ty (show kitB "list" "int" = some false by decide +kernel), kit_ty (show kitB "list" "bool" = some false by decide +kernel)⟩
theorem Plain.tup {K : PySem.W.Frag} {H : Hp} {a : Addr} {xs : List V} (h : H a = some (.tup xs)) : Plain K H (.ref a) := ⟨_, .base (.tup h), kit_ty (show kitB "tuple" "int" = some false by decide +kernel), kit_ty (show kitB "tuple" "bool" = some false by decide +kernel)⟩
def isW : V → Bool | .int _ => true | _ => false
theorem isW_eq (x : V) : isW x = (isI x && !isB x) := by cases x <;> rfl
def withinV (x : V) (lo hi : Int) : Bool := match x with | .int i => decide (lo ≤ i) && decide (i ≤ hi) | _ => false
/-! ### heaps -/
theorem Same.new {H : Hp} {p : Addr} {o : HO} (h : H p = none) : Same H (upd H p o) := fun a u e => by
  rw [upd_ne (ne_of_none e h)]; exact e
theorem Same.mut {H H' : Hp} {p : Addr} {o : HO} (e : Same H H') (h : H p = none) : Same H (upd H' p o) := fun a u ha => by
  rw [upd_ne (ne_of_none ha h)]; exact e a u ha
theorem keepN {H : Hp} {a p : Addr} {o u : HO} (h : H a = some o) (hp : H p = none) : upd H p u a = some o := by
  rw [upd_ne (ne_of_none h hp)]; exact h
theorem keepU {H : Hp} {a p : Addr} {o u v : HO} (h : H a = some o) (hp : H p = some v) (d : o ≠ v) : upd H p u a = some o := by
  rw [upd_ne (ne_of h hp d)]; exact h

/-! ### roads, trees in the heap -/
def RoadAt (H : Hp) (r : Road) (v : V) : Prop := ∃ t, v = .ref t ∧ H t = some (.tup [.int r.a, .int r.b, .int r.l])
abbrev RoadsAt (H : Hp) (rs : List Road) (vs : List V) : Prop := Paired (RoadAt H) rs vs
theorem paired_get {α β : Type} {F : α → β → Prop} : ∀ {l : List α} {m : List β} {i : Nat} {x : α}, Paired F l m → l[i]? = some x → ∃ y, m[i]? = some y ∧ F x y
  | _, _, _, _, .nil, h => by simp at h
  | _, _, 0, x, .cons r _, h => by simp at h; subst h; exact ⟨_, rfl, r⟩
  | _, _, i + 1, x, .cons _ t, h => by
    obtain ⟨y, h1, h2⟩ := paired_get (i := i) (x := x) t (by simpa using h)
    exact ⟨y, by simpa using h1, h2⟩
theorem paired_get' {α β : Type} {F : α → β → Prop} : ∀ {l : List α} {m : List β} {i : Nat} {y : β}, Paired F l m → m[i]? = some y → ∃ x, l[i]? = some x ∧ F x y
  | _, _, _, _, .nil, h => by simp at h
  | _, _, 0, x, .cons r _, h => by simp at h; subst h; exact ⟨_, rfl, r⟩
  | _, _, i + 1, x, .cons _ t, h => by
    obtain ⟨y, h1, h2⟩ := paired_get' (i := i) (y := x) t (by simpa using h)
    exact ⟨y, by simpa using h1, h2⟩
theorem RoadsAt.same {H H' : Hp} {rs : List Road} {vs : List V} (e : Same H H') (h : RoadsAt H rs vs) : RoadsAt H' rs vs :=
  Paired.mapP h fun _ _ ⟨t, e1, e2⟩ => ⟨t, e1, e _ _ e2⟩
/-- the fields of a tree -/
def tfs (n : Nat) (r : Addr) : List (Str × V) := [("size", .int n), ("rows", .ref r)]
def TreeAt (C : Addr) (H : Hp) (t : Addr) (n : Nat) (rs : List Road) : Prop :=
  ∃ dx r vs, H t = some (.ins C dx (tfs n r)) ∧ H r = some (.lst vs) ∧ RoadsAt H rs vs
theorem TreeAt.same {C : Addr} {H H' : Hp} {t : Addr} {n : Nat} {rs : List Road} (e : Same H H') (h : TreeAt C H t n rs) : TreeAt C H' t n rs :=
  let ⟨dx, r, vs, h1, h2, h3⟩ := h
  ⟨dx, r, vs, e _ _ h1, e _ _ h2, h3.same e⟩
/-- .. whose list of roads H0 does not know -/
def TreeNew (C : Addr) (H0 H : Hp) (t : Addr) (n : Nat) (rs : List Road) : Prop :=
  ∃ dx r vs, H0 r = none ∧ H t = some (.ins C dx (tfs n r)) ∧ H r = some (.lst vs) ∧ RoadsAt H rs vs
theorem TreeNew.at {C : Addr} {H0 H : Hp} {t : Addr} {n : Nat} {rs : List Road} (h : TreeNew C H0 H t n rs) : TreeAt C H t n rs :=
  let ⟨dx, r, vs, _, h1, h2, h3⟩ := h
  ⟨dx, r, vs, h1, h2, h3⟩
/-- an elder list changes -/
theorem TreeNew.upd {C : Addr} {H0 H : Hp} {t a : Addr} {n : Nat} {rs : List Road} {o : HO} {xs ys : List V} (h : TreeNew C H0 H t n rs) (h0 : H0 a = some o) (ha : H a = some (.lst xs)) : TreeAt C (upd H a (.lst ys)) t n rs :=
  let ⟨dx, r, vs, hr, h1, h2, h3⟩ := h
  ⟨dx, r, vs, keepU h1 ha (by intro z; cases z), by rw [upd_ne (ne_of_none h0 hr).symm]; exact h2, Paired.mapP h3 fun _ _ ⟨t, e1, e2⟩ => ⟨t, e1, keepU e2 ha (by intro z; cases z)⟩⟩
theorem ns_sr : ¬ (("size" : Str) = "rows") := by decide +kernel
theorem ns_rs : ¬ (("rows" : Str) = "size") := by decide +kernel
theorem tfs_size (n : Nat) (r : Addr) : (tfs n r).lookup ("size" : Str) = some (.int n) := by
  unfold tfs
  simp [List.lookup]
theorem tfs_no (n : Nat) (r : Addr) {m : Str} (h1 : (m == ("size" : Str)) = false) (h2 : (m == ("rows" : Str)) = false) : (tfs n r).lookup m = none := by
  unfold tfs
  simp [List.lookup, h1, h2]
theorem tfs_rows (n : Nat) (r : Addr) : (tfs n r).lookup ("rows" : Str) = some (.ref r) := by
  have h : (("rows" : Str) == "size") = false := by decide +kernel
  unfold tfs
  simp [List.lookup, h]
theorem tfs_put (n : Nat) (r : Addr) : putF "rows" (.ref r) (putF "size" (.int n) []) = tfs n r := by
  show (if ("size" : Str) = "rows" then _ else _) = _
  rw [if_neg ns_sr]
  rfl
/-- what walked has found -/
def FRel (H : Hp) (e : Int × (Int × Int)) (kv : Key × V) : Prop := kv.1 = .inl e.1 ∧ ∃ t, kv.2 = .ref t ∧ H t = some (.tup [.int e.2.1, .int e.2.2])
def FoundAt (H : Hp) (d : Addr) (f : Found) : Prop := ∃ kvs, H d = some (.dK kvs) ∧ Paired (FRel H) f kvs
theorem FRel.same {H H' : Hp} {f : Found} {kvs : List (Key × V)} (e : ∀ a xs, H a = some (.tup xs) → H' a = some (.tup xs)) (h : Paired (FRel H) f kvs) : Paired (FRel H') f kvs :=
  Paired.mapP h fun _ _ ⟨e1, t, e2, e3⟩ => ⟨e1, t, e2, e _ _ e3⟩
theorem FoundAt.same {H H' : Hp} {d : Addr} {f : Found} (e : Same H H') (h : FoundAt H d f) : FoundAt H' d f :=
  let ⟨kvs, h1, h2⟩ := h
  ⟨kvs, e _ _ h1, FRel.same (fun a xs q => e a _ q) h2⟩
theorem found_val {H : Hp} (v : Int) : ∀ {f : Found} {kvs : List (Key × V)}, Paired (FRel H) f kvs →
    (∀ p d, f.lookup v = some (p, d) → ∃ t, valV kvs (.inl v : Key) = some (.ref t) ∧ H t = some (.tup [.int p, .int d])) ∧ (f.lookup v = none → valV kvs (.inl v : Key) = none)
  | _, _, .nil => ⟨fun p d h => by simp at h, fun _ => rfl⟩
  | (k, x) :: f, (kk, vv) :: kvs, .cons ⟨e1, t, e2, e3⟩ r => by
    have ih := found_val v r
    simp only at e1 e2 e3
    subst e1 e2
    by_cases e : v = k
    · subst e
      have l : List.lookup v ((v, x) :: f) = some x := by simp [List.lookup]
      rw [l, valV_pos rfl]
      refine ⟨fun p d h => ?_, fun h => nomatch h⟩
      injection h with h
      subst h
      exact ⟨t, rfl, e3⟩
    · have hb : (v == k) = false := by simpa using e
      have l : List.lookup v ((k, x) :: f) = List.lookup v f := by simp [List.lookup, hb]
      rw [l, valV_neg (fun q => e (Sum.inl.inj q).symm)]
      exact ih
theorem flen {H : Hp} {f : Found} {kvs : List (Key × V)} (h : Paired (FRel H) f kvs) : kvs.length = f.length := h.length.symm

/-! ### == of lists of ints -/
theorem dp_ints {K : PySem.W.Frag} {H : Hp} : ∀ (ns : List Int), DpAll K H (ns.map V.int) (ns.map PyData.int)
  | [] => .nil
  | n :: r => .cons (.int n) (dp_ints r)
theorem dp_ilist {K : PySem.W.Frag} {H : Hp} {a : Addr} {ns : List Int} (h : H a = some (.lst (ns.map V.int))) : Dp K H (.ref a) (.list (ns.map PyData.int)) := .lst (SqL.of h) (dp_ints ns)
theorem eqv_ints : ∀ (ns ms : List Int), PyData.eqvAll (ns.map PyData.int) (ms.map PyData.int) = decide (ns = ms)
  | [], [] => rfl
  | [], _ :: _ => rfl
  | _ :: _, [] => rfl
  | n :: r, m :: q => by
    show (PyData.eqv (.int n) (.int m) && PyData.eqvAll (r.map PyData.int) (q.map PyData.int)) = _
    rw [eqv_ints r q]
    show ((n == m) && decide (r = q)) = _
    by_cases e : n = m <;> simp [e]
theorem eqv_il (ns ms : List Int) : PyData.eqv (.list (ns.map PyData.int)) (.list (ms.map PyData.int)) = decide (ns = ms) := eqv_ints ns ms
theorem int_depths : ∀ (ns : List Int), PyData.depthAll (ns.map PyData.int) ≤ 1
  | [] => by simp only [List.map_nil, PyData.depthAll]; omega
  | n :: r => by
    have := int_depths r
    simp only [PyData.depth, PyData.depthAll, List.map_cons]
    omega
theorem int_lays : ∀ (ns : List Int), PyData.canLayAll0 (ns.map PyData.int) = true
  | [] => rfl
  | n :: r => by
    have := int_lays r
    simp only [List.map_cons, PyData.canLayAll0, PyData.canLay0, this]
    rfl
theorem shaped_list {ds : List PyData} (h1 : PyData.canLayAll0 ds = true) (h2 : PyData.depthAll ds ≤ 60) : SeqAt.shaped (.list ds) = true := by
  unfold SeqAt.shaped
  have e : PyData.canLay0 (.list ds) = true := by simp only [PyData.canLay0]; exact h1
  rw [e, Bool.true_and, decide_eq_true_eq]
  simp only [PyData.depth]
  omega
theorem shaped_ints (ns : List Int) : SeqAt.shaped (.list (ns.map PyData.int)) = true := shaped_list (int_lays _) (Nat.le_trans (int_depths _) (by decide))

/-! ### tests that change nothing -/
theorem ans_or2 {σ : St} {H : Hp} {t u : TT} {a b : Bool} (h1 : Ans t σ H a) (h2 : Ans u σ H b) : Ans (tOr t u) σ H (a || b) := by
  cases a with
  | true => exact ans_or1 h1
  | false => exact ans_or h1 h2
theorem val_eqi {σ : St} {H : Hp} {ta tb : TE} {x y : Int} (h1 : Val ta σ H (.int x)) (h2 : Val tb σ H (.int y)) : Ans (tTest (tOp rEq ta tb)) σ H (decide (x = y)) :=
  ans_eq h1 h2 rfl (by rw [dec_int]; exact Bool.beq_eq_decide_eq x y)
theorem val_nei {σ : St} {H : Hp} {ta tb : TE} {x y : Int} (h1 : Val ta σ H (.int x)) (h2 : Val tb σ H (.int y)) : Ans (tTest (tOp rNe ta tb)) σ H (!decide (x = y)) :=
  ans_ne h1 h2 rfl (by rw [dec_int, Bool.beq_eq_decide_eq x y])
theorem st_if {σ : St} {H : Hp} {c : TT} {t1 t2 : TS} {D : Ends} {b : Bool} (h : Ans c σ H b) (q1 : b = true → t1 D σ H) (q2 : b = false → t2 D σ H) : tIfS c t1 t2 D σ H := by
  cases b with
  | true => exact st_yes h (q1 rfl)
  | false => exact st_no h (q2 rfl)
theorem Ans.cast {t : TT} {σ : St} {H : Hp} {b b' : Bool} (h : Ans t σ H b) (e : b = b') : Ans t σ H b' := e ▸ h
theorem szl {n : Nat} (h : n ≤ 1000) : n < sizeLine := Nat.lt_of_le_of_lt h (by decide)
theorem szle {n : Nat} (h : n ≤ 1000) : n ≤ sizeLine := Nat.le_of_lt (szl h)
theorem FoundAt.updL {H : Hp} {d q : Addr} {f : Found} {xs ys : List V} (h : FoundAt H d f) (hq : H q = some (.lst xs)) : FoundAt (upd H q (.lst ys)) d f := by
  obtain ⟨kvs, h1, h2⟩ := h
  exact ⟨kvs, keepU h1 hq (by intro z; cases z), FRel.same (fun a zs e => keepU e hq (by intro z; cases z)) h2⟩
theorem paired_snoc {α β : Type} {F : α → β → Prop} {a : α} {b : β} : ∀ {l₁ : List α} {l₂ : List β}, Paired F l₁ l₂ → F a b → Paired F (l₁ ++ [a]) (l₂ ++ [b])
  | _, _, .nil, z => .cons z .nil
  | _, _, .cons x r, z => .cons x (paired_snoc r z)

theorem inV_ints (ns : List Int) (x : Int) : inV (.int x) (ns.map V.int) = decide (x ∈ ns) := by
  unfold inV
  rw [List.any_map]
  refine Bool.eq_iff_iff.mpr ?_
  rw [List.any_eq_true, decide_eq_true_eq]
  constructor
  · rintro ⟨y, hy, e⟩
    have e : (y == x) = true := e
    rw [beq_iff_eq] at e
    exact e ▸ hy
  · exact fun h => ⟨x, h, (beq_self_eq_true x : (x == x) = true)⟩
theorem flat_ints (ns : List Int) : (ns.map V.int).all flatV = true := by
  rw [List.all_eq_true]
  rintro v hv
  obtain ⟨i, _, rfl⟩ := List.mem_map.mp hv
  rfl
theorem val_inI {K : PySem.W.Frag} {σ : St} {H : Hp} {ta tb : TE} {ns : List Int} {x : Int} {a : Addr} (h1 : Val ta σ H (.int x)) (h2 : Val tb σ H (.ref a)) (hS : SqL K H a (ns.map V.int) ∨ SqT K H a (ns.map V.int)) : Val (tOp (rIn K false) ta tb) σ H (.bl (decide (x ∈ ns))) :=
  val_op h1 h2 fun Q q => ⟨a, _, rfl, hS, rfl, flat_ints ns, by rw [if_neg (by decide), inV_ints]; exact q⟩
theorem ans_neb {σ : St} {H : Hp} {ta tb : TE} {x y : Bool} (h1 : Val ta σ H (.bl x)) (h2 : Val tb σ H (.bl y)) : Ans (tTest (tOp rNe ta tb)) σ H (!(x == y)) :=
  ans_ne h1 h2 rfl (by rw [dec_bl])

/-! ### comprehensions -/
section
variable {K : PySem.W.Frag} {g : TG} {tt : TT} {te : TE} {vs : List Nat} {σ : St} {H : Hp} {Q : VK}
abbrev LcGoal (J : It) (g : TG) (tt : TT) (te : TE) (vs : List Nat) (σ : St) (H : Hp) (Q : VK) : Prop :=
  ∀ D, H D = none → ∃ W : Nat → Nat → Hp → Prop, (∃ m, W 0 m (upd H D (.lst []))) ∧ ∀ i m U, W i m U → (J.stop i U ∧ Q (.ref D) U) ∨
    (J.go i U ∧ ∃ Z : Hp → Prop, (∀ U', Z U' → ∃ m', m' < m ∧ W (i + 1) m' U') ∧
      ∀ x U', J.yld i U x U' → g x (wipe σ vs) U' fun τ U2 => wipe τ vs = wipe σ vs ∧ tt τ U2 fun b U3 =>
        if b = true then te τ U3 fun y U4 => ∃ acc, U4 D = some (.lst acc) ∧ acc.length < sizeLine ∧ Z (upd U4 D (.lst (acc ++ [y]))) else Z U3)
/-- a turn -/
abbrev LcTurn (g : TG) (tt : TT) (te : TE) (vs : List Nat) (σ : St) (x : V) (H' : Hp) (Yes : V → Hp → Prop) (No : Hp → Prop) : Prop :=
  g x (wipe σ vs) H' fun σ2 H2 => wipe σ2 vs = wipe σ vs ∧ tt σ2 H2 fun b H3 => if b = true then te σ2 H3 Yes else No H3
abbrev SameB (D : Addr) (H1 H2 : Hp) : Prop := ∀ b o, b ≠ D → H1 b = some o → H2 b = some o
/-- elements that are new objects: R says of the i-th what it is -/
theorem lc_inv (J : It) (n : Nat) (hn : n ≤ 1000) (hgo : ∀ i H', Same H H' → i < n → J.go i H') (hstop : ∀ i H', Same H H' → n ≤ i → J.stop i H') (ok : Nat → Bool) (R : Addr → Nat → V → Hp → Prop)
    (mono : ∀ D i y H1 H2, SameB D H1 H2 → R D i y H1 → R D i y H2)
    (hs : ∀ i, i < n → ∀ D H', H D = none → Same H H' → (∃ acc, H' D = some (.lst acc)) → ∀ (Yes : V → Hp → Prop) (No : Hp → Prop), (ok i = true → ∀ y H4, Same H' H4 → R D i y H4 → Yes y H4) → (ok i = false → ∀ H4, Same H' H4 → No H4) →
      ∀ x H'', J.yld i H' x H'' → LcTurn g tt te vs σ x H'' Yes No)
    (hq : ∀ D H2 ys, H D = none → Same H H2 → H2 D = some (.lst ys) → Paired (fun i y => R D i y H2) ((List.range n).filter ok) ys → Q (.ref D) H2) : LcGoal J g tt te vs σ H Q := by
  intro D hD
  refine ⟨fun i m H' => m = n - i ∧ i ≤ n ∧ ∃ acc, Same H H' ∧ H' D = some (.lst acc) ∧ Paired (fun i y => R D i y H') ((List.range i).filter ok) acc, ⟨n, by simp, Nat.zero_le _, [], Same.new hD, upd_same, .nil⟩, ?_⟩
  rintro i m H' ⟨rfl, hi, acc, e, hA, hP⟩
  by_cases hlt : i < n
  · refine .inr ⟨hgo i H' e hlt, fun H' => ∃ acc, Same H H' ∧ H' D = some (.lst acc) ∧ Paired (fun i y => R D i y H') ((List.range (i + 1)).filter ok) acc, fun H'' ⟨acc, q⟩ => ⟨n - (i + 1), by omega, rfl, hlt, acc, q⟩, fun x H'' y => ?_⟩
    refine hs i hlt D H' hD e ⟨acc, hA⟩ _ _ (fun hok v H4 e4 r => ⟨acc, e4 _ _ hA, ?_, acc ++ [v], Same.mut (e.trans e4) hD, upd_same, ?_⟩) (fun hok H4 e4 => ⟨acc, e.trans e4, e4 _ _ hA, ?_⟩) x H'' y
    · have h1 := hP.length
      have h2 := List.length_filter_le ok (List.range i)
      rw [List.length_range] at h2
      exact szl (by omega)
    · rw [List.range_succ, List.filter_append]
      have : List.filter ok [i] = [i] := by simp [hok]
      rw [this]
      have sb : SameB D H4 (upd H4 D (.lst (acc ++ [v]))) := fun b o hb q => by rw [upd_ne hb]; exact q
      refine paired_snoc (Paired.mapP hP fun i y q => mono _ _ _ _ _ sb (mono _ _ _ _ _ (fun b o _ q => e4 b o q) q)) (mono _ _ _ _ _ sb r)
    · rw [List.range_succ, List.filter_append]
      have : List.filter ok [i] = [] := by simp [hok]
      rw [this, List.append_nil]
      exact Paired.mapP hP fun i y q => mono _ _ _ _ _ (fun b o _ q => e4 b o q) q
  · have : i = n := by omega
    subst this
    exact .inl ⟨hstop i H' e (Nat.le_refl _), hq D H' acc hD e hA hP⟩
theorem paired_map {f : Nat → V} : ∀ {l : List Nat} {ys : List V}, Paired (fun i y => y = f i) l ys → ys = l.map f
  | _, _, .nil => rfl
  | _, _, .cons h r => by rw [paired_map r, h]; rfl
/-- over a list, elements that are new objects -/
theorem lcl_inv {a : Addr} {xs : List V} (hS : SqL K H a xs) (hn : xs.length ≤ 1000) (ok : Nat → Bool) (R : Addr → Nat → V → Hp → Prop)
    (mono : ∀ D i y H1 H2, SameB D H1 H2 → R D i y H1 → R D i y H2)
    (hs : ∀ i x, xs[i]? = some x → ∀ D H', H D = none → Same H H' → (∃ acc, H' D = some (.lst acc)) → ∀ (Yes : V → Hp → Prop) (No : Hp → Prop), (ok i = true → ∀ y H4, Same H' H4 → R D i y H4 → Yes y H4) → (ok i = false → ∀ H4, Same H' H4 → No H4) →
      LcTurn g tt te vs σ x H' Yes No)
    (hq : ∀ D H2 ys, H D = none → Same H H2 → H2 D = some (.lst ys) → Paired (fun i y => R D i y H2) ((List.range xs.length).filter ok) ys → Q (.ref D) H2) : LcGoal (Itl K a) g tt te vs σ H Q := by
  refine lc_inv (Itl K a) xs.length hn (fun i H' e hi => ⟨xs, xs[i], e.seq hS, by simp [hi]⟩) (fun i H' e hi => ⟨xs, e.seq hS, hi⟩) ok R mono (fun i hi D H' hD e hA Yes No hy hno x H'' y => ?_) hq
  obtain ⟨rfl, y⟩ := y
  exact hs i x (y xs (e.seq hS)) D _ hD e hA Yes No hy hno
theorem lcr_inv {lo : Int} {n : Nat} (hn : n ≤ 1000) (ok : Nat → Bool) (R : Addr → Nat → V → Hp → Prop)
    (mono : ∀ D i y H1 H2, SameB D H1 H2 → R D i y H1 → R D i y H2)
    (hs : ∀ (i : Nat), i < n → ∀ D H', H D = none → Same H H' → (∃ acc, H' D = some (.lst acc)) → ∀ (Yes : V → Hp → Prop) (No : Hp → Prop), (ok i = true → ∀ y H4, Same H' H4 → R D i y H4 → Yes y H4) → (ok i = false → ∀ H4, Same H' H4 → No H4) →
      LcTurn g tt te vs σ (.int (lo + i)) H' Yes No)
    (hq : ∀ D H2 ys, H D = none → Same H H2 → H2 D = some (.lst ys) → Paired (fun i y => R D i y H2) ((List.range n).filter ok) ys → Q (.ref D) H2) : LcGoal (Itr lo n) g tt te vs σ H Q := by
  refine lc_inv (Itr lo n) n hn (fun i H' e hi => hi) (fun i H' e hi => hi) ok R mono (fun i hi D H' hD e hA Yes No hy hno x H'' y => ?_) hq
  obtain ⟨rfl, rfl⟩ := y
  exact hs i hi D _ hD e hA Yes No hy hno
theorem filter_range_map {α : Type} {β : Type} {l : List α} (d : α) (ok : α → Bool) (f : α → β) : ((List.range l.length).filter fun i => ok (l.getD i d)).map (fun i => f (l.getD i d)) = (l.filter ok).map f := by
  have e : l = (List.range l.length).map fun i => l.getD i d := by
    refine List.ext_getElem (by simp) fun i k1 k2 => ?_
    simp [List.getD, k1]
  conv => rhs; rw [e]
  rw [List.filter_map, List.map_map]
  rfl
/-- over a list of known things, elements that are plain values -/
theorem lcl {α : Type} {a : Addr} {xs : List V} {l : List α} (d : α) (E : α → V → Prop) (hp : Paired E l xs) (hS : SqL K H a xs) (hn : l.length ≤ 1000) (ok : α → Bool) (f : α → V)
    (hs : ∀ x v, x ∈ l → E x v → ∀ H', Same H H' → ∀ (Yes : V → Hp → Prop) (No : Hp → Prop), (ok x = true → ∀ H4, Same H' H4 → Yes (f x) H4) → (ok x = false → ∀ H4, Same H' H4 → No H4) → LcTurn g tt te vs σ v H' Yes No)
    (hq : ∀ D H2, H D = none → Same H H2 → H2 D = some (.lst ((l.filter ok).map f)) → Q (.ref D) H2) : LcGoal (Itl K a) g tt te vs σ H Q := by
  have hl := hp.length
  refine lcl_inv hS (by omega) (fun i => ok (l.getD i d)) (fun _ i y _ => y = f (l.getD i d)) (fun _ _ _ _ _ _ q => q) (fun i v hi D H' hD e _ Yes No hy hno => ?_) (fun D H2 ys hD e hA hP => ?_)
  · obtain ⟨x, hx, hE⟩ := paired_get' hp hi
    have ed : l.getD i d = x := by rw [List.getD_eq_getElem?_getD, hx]; rfl
    rw [ed] at hy hno
    exact hs x v (List.mem_of_getElem? hx) hE H' e Yes No (fun q H4 e4 => hy q _ H4 e4 rfl) hno
  · rw [paired_map hP, ← hl, filter_range_map d ok f] at hA
    exact hq D H2 hD e hA
/-- over a range, elements that are plain values -/
theorem lcr {lo : Int} {n : Nat} (hn : n ≤ 1000) (ok : Nat → Bool) (f : Nat → V)
    (hs : ∀ (i : Nat), i < n → ∀ H', Same H H' → ∀ (Yes : V → Hp → Prop) (No : Hp → Prop), (ok i = true → ∀ H4, Same H' H4 → Yes (f i) H4) → (ok i = false → ∀ H4, Same H' H4 → No H4) → LcTurn g tt te vs σ (.int (lo + i)) H' Yes No)
    (hq : ∀ D H2, H D = none → Same H H2 → H2 D = some (.lst (((List.range n).filter ok).map f)) → Q (.ref D) H2) : LcGoal (Itr lo n) g tt te vs σ H Q := by
  refine lcr_inv hn ok (fun _ i y _ => y = f i) (fun _ _ _ _ _ _ q => q) (fun i hi D H' hD e _ Yes No hy hno => hs i hi H' e Yes No (fun q H4 e4 => hy q _ H4 e4 rfl) hno) (fun D H2 ys hD e hA hP => ?_)
  rw [paired_map hP] at hA
  exact hq D H2 hD e hA
end
theorem paired_self {β : Type} {g : β → V} : ∀ (l : List β), Paired (fun (x : β) v => v = g x) l (l.map g)
  | [] => .nil
  | x :: r => .cons rfl (paired_self r)
theorem withinV_int {x : V} {lo hi : Int} (h : withinV x lo hi = true) : ∃ i, x = .int i ∧ lo ≤ i ∧ i ≤ hi := by
  cases x with
  | int i =>
    simp [withinV] at h
    exact ⟨i, rfl, h.1, h.2⟩
  | _ => cases h
theorem withinV_of {i lo hi : Int} (h1 : lo ≤ i) (h2 : i ≤ hi) : withinV (.int i) lo hi = true := by simp [withinV, h1, h2]

/-! ### rules with K said, for blocks -/
section
variable {X : Cx}
theorem ix_tupK (K : PySem.W.Frag) (h : X.K = K := by rfl) : IxR X (rIxT K) := h ▸ ix_tup
theorem ix_listK (K : PySem.W.Frag) (h : X.K = K := by rfl) : IxR X (rIxL K) := h ▸ ix_list
theorem op_inK (K : PySem.W.Frag) (h : X.K = K := by rfl) : OpR X (compareOp .In) (rIn K false) := h ▸ op_in_seq
theorem op_notInK (K : PySem.W.Frag) (h : X.K = K := by rfl) : OpR X (compareOp .NotIn) (rIn K true) := h ▸ op_notIn_seq
theorem pe_fldK (K : PySem.W.Frag) {e : Expr} {ta : TE} {f : Str} {pos : Pos} (he : PE X e ta) (hb : attributeBase e f X.env (eval e X.env) = eval e X.env) (h : X.K = K := by rfl) : PE X (.Attribute e f pos) (tFld K ta f) := h ▸ pe_fld he hb
theorem pi_listK (K : PySem.W.Frag) {tg l : Expr} {tl : TE} (hl : PE X l tl) (h : X.K = K := by rfl) : PI X tg l (iList K tl) := h ▸ pi_list hl
theorem pi_tupK (K : PySem.W.Frag) {tg l : Expr} {tl : TE} (hl : PE X l tl) (h : X.K = K := by rfl) : PI X tg l (iTup K tl) := h ▸ pi_tup hl
theorem pg_tupK (K : PySem.W.Frag) {pos : Pos} {es : List Expr} {k : Nat} {t : TGs} {n : Nat} (hc : X.calm = true) (h : PGs X es t) (hn : (assignEach es X.env).length = n := by rfl) (hst : (assignEach es X.env).findIdx? (·.1) = none := by rfl) (hk : X.K = K := by rfl) :
    PG X (.Tuple es k pos) (gTup K n t) := hk ▸ pg_tup hc h hn hst
theorem sl_listK (K : PySem.W.Frag) (h : X.K = K := by rfl) : SlR X (rSlL K) := h ▸ sl_list
theorem sl_tupK (K : PySem.W.Frag) (h : X.K = K := by rfl) : SlR X (rSlT K) := h ▸ sl_tup
theorem op_eqDK (K : PySem.W.Frag) (hu : X.A.units + 64 < cLine) (h : X.K = K := by rfl) : OpR X (compareOp .Eq) (rEqD K) := h ▸ op_eqD hu
theorem op_neDK (K : PySem.W.Frag) (hu : X.A.units + 64 < cLine) (h : X.K = K := by rfl) : OpR X (compareOp .NotEq) (rNeD K) := h ▸ op_neD hu
def rLenK (K : PySem.W.Frag) : List V → Hp → VK → Prop := fun xs H Q => ∃ p ys, xs = [.ref p] ∧ (SqL K H p ys ∨ SqT K H p ys) ∧ Q (.int ys.length) H
theorem call_lenK (K : PySem.W.Frag) (h : X.K = K := by rfl) : CallR X (.builtin "len") (rLenK K) := by subst h; exact call_len_seq
theorem cr_anyK (K : PySem.W.Frag) (hc : X.calm = true) (h : X.K = K := by rfl) : CallR X (.builtin "any") (rAny K) := h ▸ cr_any hc
theorem cr_allK (K : PySem.W.Frag) (hc : X.calm = true) (h : X.K = K := by rfl) : CallR X (.builtin "all") (rAll K) := h ▸ cr_all hc
theorem cr_sumK (K : PySem.W.Frag) (hc : X.calm = true) (h : X.K = K := by rfl) : CallR X (.builtin "sum") (rSum K) := h ▸ cr_sum hc
theorem cr_maxK (K : PySem.W.Frag) (hc : X.calm = true) (h : X.K = K := by rfl) : CallR X (.builtin "max") (rMax K) := h ▸ cr_max hc
theorem cr_minK (K : PySem.W.Frag) (hc : X.calm = true) (h : X.K = K := by rfl) : CallR X (.builtin "min") (rMin K) := h ▸ cr_min hc
theorem cr_sortedK (K : PySem.W.Frag) (h : X.K = K := by rfl) : CallR X (.builtin "sorted") (rSorted K) := h ▸ cr_sorted
end

section
variable {wi : TI} {g : TG} {tt : TT} {te : TE} {vs : List Nat} {σ : St} {H : Hp} {Q : VK}
theorem lc_pre (PJ : It → Hp → Prop) (hwi : ∀ R : It → Hp → Prop, (∀ J H1, PJ J H1 → R J H1) → wi σ H R) (h : ∀ J H1, PJ J H1 → LcGoal J g tt te vs σ H1 Q) : tLc wi g tt te vs σ H Q := hwi _ h
theorem lc_at (J : It) (hwi : ∀ R : It → Hp → Prop, R J H → wi σ H R) (h : LcGoal J g tt te vs σ H Q) : tLc wi g tt te vs σ H Q := hwi _ h
end

section
variable {tt : TT} {te : TE} {vs : List Nat} {σ : St} {x : V} {H : Hp} {Yes : V → Hp → Prop} {No : Hp → Prop} {i : Nat}
theorem turn_all (h : te ((wipe σ vs).set i (some x)) H Yes) (hw : wipe ((wipe σ vs).set i (some x)) vs = wipe σ vs := by rfl) : LcTurn (gName i) tYes te vs σ x H Yes No := by
  refine ⟨hw, ?_⟩
  show (if true = true then te ((wipe σ vs).set i (some x)) H Yes else No H)
  rw [if_pos rfl]
  exact h
theorem turn_ifS {b : Bool} (ha : ∀ Q : Bool → Hp → Prop, (∀ H', Same H H' → Q b H') → tt ((wipe σ vs).set i (some x)) H Q) (h : b = true → ∀ H', Same H H' → te ((wipe σ vs).set i (some x)) H' Yes) (hn : b = false → ∀ H', Same H H' → No H') (hw : wipe ((wipe σ vs).set i (some x)) vs = wipe σ vs := by rfl) : LcTurn (gName i) tt te vs σ x H Yes No := by
  refine ⟨hw, ha _ fun H' s' => ?_⟩
  cases b with
  | true =>
    show (if true = true then te ((wipe σ vs).set i (some x)) H' Yes else No H')
    rw [if_pos rfl]
    exact h rfl H' s'
  | false =>
    show (if false = true then te ((wipe σ vs).set i (some x)) H' Yes else No H')
    rw [if_neg (by decide)]
    exact hn rfl H' s'
theorem turn_if {b : Bool} (ha : Ans tt ((wipe σ vs).set i (some x)) H b) (h : b = true → te ((wipe σ vs).set i (some x)) H Yes) (hn : b = false → No H) (hw : wipe ((wipe σ vs).set i (some x)) vs = wipe σ vs := by rfl) : LcTurn (gName i) tt te vs σ x H Yes No := by
  refine ⟨hw, ha _ ?_⟩
  cases b with
  | true =>
    show (if true = true then te ((wipe σ vs).set i (some x)) H Yes else No H)
    rw [if_pos rfl]
    exact h rfl
  | false =>
    show (if false = true then te ((wipe σ vs).set i (some x)) H Yes else No H)
    rw [if_neg (by decide)]
    exact hn rfl
end

theorem of_gName {i : Nat} {v : V} {σ : St} {H : Hp} {Q : St → Hp → Prop} (h : Q (σ.set i (some v)) H) : gName i v σ H Q := h
theorem of_seq {t u : TS} {D : Ends} {σ : St} {H : Hp} (h : t { D with nx := u D } σ H) : tSeq t u D σ H := h
theorem of_asg {te : TE} {g : TG} {D : Ends} {σ : St} {H : Hp} (h : te σ H fun x H1 => g x σ H1 D.nx) : tAsg te g D σ H := h
theorem of_ret {te : TE} {D : Ends} {σ : St} {H : Hp} (h : te σ H D.rt) : tRet te D σ H := h
theorem of_drop {te : TE} {D : Ends} {σ : St} {H : Hp} (h : te σ H fun _ H1 => D.nx σ H1) : tDrop te D σ H := h

/-! ### == of lists of roads, of rows -/
def roadD (r : Road) : PyData := .tuple [.int r.a, .int r.b, .int r.l]
theorem dp_road {K : PySem.W.Frag} {H : Hp} {r : Road} {v : V} (h : RoadAt H r v) : Dp K H v (roadD r) := by
  obtain ⟨t, rfl, ht⟩ := h
  exact .tup (SqT.of ht) (.cons (.int _) (.cons (.int _) (.cons (.int _) .nil)))
theorem dp_roads {K : PySem.W.Frag} {H : Hp} : ∀ {rs : List Road} {us : List V}, RoadsAt H rs us → DpAll K H us (rs.map roadD)
  | _, _, .nil => .nil
  | _, _, .cons h r => .cons (dp_road h) (dp_roads r)
theorem roadD_lay (r : Road) : (roadD r).canLay0 = true := by simp [roadD, PyData.canLay0, PyData.canLayAll0]
theorem roadD_depth (r : Road) : (roadD r).depth ≤ 2 := by simp [roadD, PyData.depth, PyData.depthAll]
theorem roads_lay : ∀ rs : List Road, PyData.canLayAll0 (rs.map roadD) = true
  | [] => by simp only [List.map_nil, PyData.canLayAll0]
  | r :: rs => by simp [PyData.canLayAll0, roadD_lay r, roads_lay rs]
theorem roads_depth : ∀ rs : List Road, PyData.depthAll (rs.map roadD) ≤ 2
  | [] => by simp only [List.map_nil, PyData.depthAll]; omega
  | r :: rs => by
    have h1 := roads_depth rs
    have h2 := roadD_depth r
    simp only [PyData.depthAll, List.map_cons]
    omega
theorem shaped_roads (rs : List Road) : SeqAt.shaped (.list (rs.map roadD)) = true := shaped_list (roads_lay _) (Nat.le_trans (roads_depth _) (by decide))
theorem eqv_road (r t : Road) : PyData.eqv (roadD r) (roadD t) = decide (r = t) := by
  show ((r.a == t.a) && ((r.b == t.b) && ((r.l == t.l) && true))) = _
  obtain ⟨a, b, l⟩ := r
  obtain ⟨x, y, z⟩ := t
  by_cases h1 : a = x <;> by_cases h2 : b = y <;> by_cases h3 : l = z <;> simp [h1, h2, h3]
theorem eqv_roadsAll : ∀ (rs ts : List Road), PyData.eqvAll (rs.map roadD) (ts.map roadD) = decide (rs = ts)
  | [], [] => rfl
  | [], _ :: _ => rfl
  | _ :: _, [] => rfl
  | r :: rs, t :: ts => by
    show (PyData.eqv (roadD r) (roadD t) && PyData.eqvAll (rs.map roadD) (ts.map roadD)) = _
    rw [eqv_road, eqv_roadsAll rs ts]
    by_cases e : r = t <;> simp [e]
theorem eqv_roads (rs ts : List Road) : PyData.eqv (.list (rs.map roadD)) (.list (ts.map roadD)) = decide (rs = ts) := eqv_roadsAll rs ts
theorem rows_lay : ∀ rs : List (List Int), PyData.canLayAll0 (rs.map fun r => PyData.list (r.map PyData.int)) = true
  | [] => by simp only [List.map_nil, PyData.canLayAll0]
  | r :: rs => by
    have h1 : PyData.canLay0 (.list (r.map PyData.int)) = true := by simp only [PyData.canLay0]; exact int_lays r
    have h2 := rows_lay rs
    simp only [List.map_cons, PyData.canLayAll0, h1, h2]
    rfl
theorem rows_depth : ∀ rs : List (List Int), PyData.depthAll (rs.map fun r => PyData.list (r.map PyData.int)) ≤ 3
  | [] => by simp only [List.map_nil, PyData.depthAll]; omega
  | r :: rs => by
    have h1 := rows_depth rs
    have h2 := int_depths r
    simp only [PyData.depth, PyData.depthAll, List.map_cons]
    omega
theorem shaped_rows (rs : List (List Int)) : SeqAt.shaped (.list (rs.map fun r => PyData.list (r.map PyData.int))) = true := shaped_list (rows_lay _) (Nat.le_trans (rows_depth _) (by decide))
theorem eqv_rowsAll : ∀ (rs ts : List (List Int)), PyData.eqvAll (rs.map fun r => PyData.list (r.map PyData.int)) (ts.map fun r => PyData.list (r.map PyData.int)) = decide (rs = ts)
  | [], [] => rfl
  | [], _ :: _ => rfl
  | _ :: _, [] => rfl
  | r :: rs, t :: ts => by
    show (PyData.eqv (.list (r.map PyData.int)) (.list (t.map PyData.int)) && PyData.eqvAll (rs.map fun r => PyData.list (r.map PyData.int)) (ts.map fun r => PyData.list (r.map PyData.int))) = _
    rw [eqv_il, eqv_rowsAll rs ts]
    by_cases e : r = t <;> simp [e]
theorem eqv_rows (rs ts : List (List Int)) : PyData.eqv (.list (rs.map fun r => PyData.list (r.map PyData.int))) (.list (ts.map fun r => PyData.list (r.map PyData.int))) = decide (rs = ts) := eqv_rowsAll rs ts
theorem gd_mk {P : Program} {w : World} {K : PySem.W.Frag} {mg : Str → Option Value} {base : Heap} {x q : Str} {st : Stmt} {f : Addr} {fd : FuncData} {k : Nat} {ps : List Str} {sp : Sp} (F : Fun K x q st f fd) (hm : mg x = some (.ref f)) (hb : Binds K fd ps []) (ok : FnOk P w K mg base CX0 k f fd ps sp) : Gd P w K mg base k x ps sp :=
  ⟨f, fd, hm, F.kp, hb, Wr.FnOk.lift ok⟩
theorem gm_mk {P : Program} {w : World} {K : PySem.W.Frag} {mg : Str → Option Value} {base : Heap} {C : Addr} {x : Str} {f : Addr} {fd : FuncData} {k : Nat} {ps : List Str} {sp : Sp} (M : Meth K C x f) (hb : Binds K fd ps []) (ok : FnOk P w K mg base CX0 k f fd ps sp) : Gm P w K mg base C k x ps sp :=
  ⟨f, fd, M, hb, Wr.FnOk.lift ok⟩
theorem gc_mk {P : Program} {w : World} {K : PySem.W.Frag} {mg : Str → Option Value} {base : Heap} {C : Addr} {x : Str} {f : Addr} {fd : FuncData} {k : Nat} {ps : List Str} {sp : Sp} (hm : mg x = some (.ref C)) (M : Mk K C f) (hb : Binds K fd ps []) (ok : FnOk P w K mg base CX0 k f fd ps sp) : Gc P w K mg base C k x ps sp :=
  ⟨f, fd, hm, M, hb, Wr.FnOk.lift ok⟩
theorem of_next {n : St → Hp → Prop} {r : VK} {b c : St → Hp → Prop} {σ : St} {H : Hp} (h : n σ H) : tNext ⟨n, r, b, c⟩ σ H := h
theorem of_nx {n : St → Hp → Prop} {r : VK} {b c : St → Hp → Prop} {σ : St} {H : Hp} (h : n σ H) : (Ends.mk n r b c).nx σ H := h
theorem of_ifs {c : TT} {t u : TS} {D : Ends} {σ : St} {H : Hp} (h : c σ H fun b H1 => if b = true then t D σ H1 else u D σ H1) : tIfS c t u D σ H := h
theorem of_not {c : TT} {σ : St} {H : Hp} {Q : Bool → Hp → Prop} (h : c σ H fun b H1 => Q (!b) H1) : tNot c σ H Q := h
theorem of_b {te : TE} {σ : St} {H : Hp} {Q : Bool → Hp → Prop} (h : te σ H fun x H1 => ∃ c, x = .bl c ∧ Q c H1) : tB te σ H Q := h
theorem of_tup {te : TE} {ta : TA} {σ : St} {H : Hp} {Q : VK} (h : te σ H fun x H1 => ta σ H1 fun xs H2 => (x :: xs).length ≤ sizeLine ∧ ∀ p, H2 p = none → Q (.ref p) (upd H2 p (.tup (x :: xs)))) : tTup (tCons te ta) σ H Q := h
theorem of_cons {te : TE} {ta : TA} {σ : St} {H : Hp} {Q : List V → Hp → Prop} (h : te σ H fun x H1 => ta σ H1 fun xs H2 => Q (x :: xs) H2) : tCons te ta σ H Q := h
theorem val_ifE {t : TT} {ta tb : TE} {σ : St} {H : Hp} {b : Bool} {x y : V} (h : Ans t σ H b) (h1 : b = true → Val ta σ H x) (h2 : b = false → Val tb σ H y) : Val (tIf t ta tb) σ H (if b = true then x else y) := by
  intro Q q
  refine h _ ?_
  cases b with
  | true => exact h1 rfl _ q
  | false => exact h2 rfl _ q
theorem of_test {te : TE} {σ : St} {H : Hp} {Q : Bool → Hp → Prop} (h : te σ H fun x H' => ∃ k, x = .bl k ∧ Q k H') : tTest te σ H Q := h
theorem of_op {r : R2} {ta tb : TE} {σ : St} {H : Hp} {Q : VK} (h : ta σ H fun x H1 => tb σ H1 fun y H2 => r x y H2 Q) : tOp r ta tb σ H Q := h
theorem of_var {i : Nat} {v : V} {σ : St} {H : Hp} {Q : VK} (e : σ[i]? = some (some v)) (h : Q v H) : tVar i σ H Q := ⟨v, e, h⟩
theorem dp_trip {K : PySem.W.Frag} {H : Hp} {p : Addr} {a b c : Int} (h : H p = some (.tup [.int a, .int b, .int c])) : Dp K H (.ref p) (.tuple [.int a, .int b, .int c]) := .tup (SqT.of h) (.cons (.int _) (.cons (.int _) (.cons (.int _) .nil)))
theorem shaped_trip (a b c : Int) : SeqAt.shaped (.tuple [.int a, .int b, .int c]) = true := by
  unfold SeqAt.shaped
  rw [Bool.and_eq_true, decide_eq_true_eq]
  constructor
  · rfl
  · simp only [PyData.depth, PyData.depthAll]; omega
theorem of_cb1 {r : List V → Hp → VK → Prop} {te : TE} {σ : St} {H : Hp} {Q : VK} (h : te σ H fun x H1 => r [x] H1 Q) : tCB r (tCons te tNil) σ H Q := h
theorem paired_mapL {α β γ : Type} {F : β → γ → Prop} {g : α → β} : ∀ {l : List α} {ys : List γ}, Paired F (l.map g) ys → Paired (fun x y => F (g x) y) l ys
  | [], _, .nil => .nil
  | _ :: l, _, .cons h r => .cons h (paired_mapL r)
theorem shaped_pair (ns : List Int) (m : Int) : SeqAt.shaped (.tuple [.list (ns.map PyData.int), .int m]) = true := by
  have h1 := int_depths ns
  have h2 := int_lays ns
  unfold SeqAt.shaped
  rw [Bool.and_eq_true, decide_eq_true_eq]
  constructor
  · simp only [PyData.canLay0, PyData.canLayAll0, h2]; rfl
  · simp only [PyData.depth, PyData.depthAll]; omega
theorem dp_pair {K : PySem.W.Frag} {H : Hp} {p l : Addr} {ns : List Int} {m : Int} (h1 : H p = some (.tup [.ref l, .int m])) (h2 : H l = some (.lst (ns.map V.int))) : Dp K H (.ref p) (.tuple [.list (ns.map PyData.int), .int m]) :=
  .tup (SqT.of h1) (.cons (dp_ilist h2) (.cons (.int m) .nil))
theorem eqv_same {d : PyData} (h : SeqAt.shaped d = true) : PyData.eqv d d = true := SeqAt.eqv_refl d (SeqAt.canLay_of_shaped h)
end Wr

/-! more rules: sorted of a tuple, len(set(..)) -/
namespace Wr
open PySem PySem.Spec PyProof.Rows L2
section
variable {X : Cx}
/-- sorted of ints that stand in a list or a tuple -/
theorem srt_seq {pr : Program} {wo : World} {Ar : Around} {Er : Value → Shared → Prop} {st : Shared} {p : Addr} {T : String} {o : Obj} {us : List Value} {m : Nat} {zs : List Int} {R : Value → Shared → Prop} (hT : T = "list" ∨ T = "tuple")
    (h1 : st.heap.get? p = some o) (h2 : o.cls = .type T) (h3 : o.data = .seq us.toArray m) (hz : IntsAre us zs) (hl : us.length ≤ sizeLine)
    (fin : ∀ (g h' : Heap) (out : Array Value) (zs' : List Int) (e : Nat), (∀ b u, st.heap.get? b = some u → g.get? b = some u) → (∀ b u, g.get? b = some u → h'.get? b = some u) → IntsAre out.toList zs' → zs'.Perm zs → zs'.Pairwise (fun x y => x ≤ y) →
      h'.get? g.objs.size = some (seqObj "list" out e) → R (.ref g.objs.size) { st with heap := h' }) : wpAny (model pr wo) Ar (call (.builtin "sorted") [.ref p]) R Er st := by
  refine Calls.call_function_entry kind_sorted plain_sorted entry_sorted (args_sorted1 _) (wpAny_bind (m := checkCount "sorted" 1 1 1) (wpAny_pure (wpAny_bind (wpAny_collect_seq p hT h1 h2 h3 (fun g kg => ?_) (by rw [List.size_toArray]; exact hl)))))
  have eu : us.toArray.toList = us := by simp
  rw [eu]
  have hnew : (g.push (seqObj "list" us.toArray 0)).get? g.objs.size = some (seqObj "list" us.toArray 0) := Heap.get?_push_size g rfl
  refine wpAny_bind (wpAny_newList (wpAny_bind (wpAny_holding (wpAny_call_entry slot_list_sort ⟨_, hnew, rfl⟩ entry_list_sort (list_sort_treeAny hnew hz hl fun out zs' a1 a2 a3 => ⟨_, rfl, wpAny_pure ⟨_, rfl, ?_⟩⟩) (args_list_sort _)))) hl)
  obtain ⟨e, he⟩ := sortedHeap_at (out := out) hnew
  refine fin g _ out zs' e kg (fun b u hb => ?_) a1 a2 a3 he
  have lt := Heap.lt_size hb
  rw [sortedHeap_old (Nat.ne_of_lt lt) (by rw [size_push']; exact Nat.lt_succ_of_lt lt)]
  exact Heap.get?_push_of_some (seqObj "list" us.toArray 0) hb
def rSortedA (K : PySem.W.Frag) : List V → Hp → VK → Prop := fun vs H Q => ∃ (p : Addr) (zs : List Int), vs = [V.ref p] ∧ (SqL K H p (zs.map V.int) ∨ SqT K H p (zs.map V.int)) ∧
  ∀ (zs' : List Int) (q : Addr), zs'.Perm zs → zs'.Pairwise (fun x y => x ≤ y) → H q = none → Q (.ref q) (upd H q (.lst (zs'.map V.int)))
theorem cr_sortedA (K : PySem.W.Frag) (hK : X.K = K := by rfl) : CallR X (.builtin "sorted") (rSortedA K) := by
  subst hK
  rintro pins s σ H vs us Q I r ⟨p, zs, rfl, hs, k⟩
  rw [Vals.ref1 r]
  have done : zs.length ≤ sizeLine → ∀ (g h' : Heap) (out : Array Value) (zs' : List Int) (e : Nat), (∀ b u, s.heap.get? b = some u → g.get? b = some u) → (∀ b u, g.get? b = some u → h'.get? b = some u) → IntsAre out.toList zs' → zs'.Perm zs → zs'.Pairwise (fun x y => x ≤ y) →
      h'.get? g.objs.size = some (seqObj "list" out e) → EP X pins σ Q (.ref g.objs.size) { s with heap := h' } := fun hn g h' out zs' e k1 k2 a1 a2 a3 he => by
    have J : Inv X pins σ H { s with heap := g } := I.kept (t' := s.toks) k1
    exact ⟨.ref g.objs.size, upd H g.objs.size (.lst (zs'.map V.int)), J.laid (t' := s.toks) k2 (Nat.le_refl _) ⟨by rw [List.length_map, a2.length_eq]; exact hn, out.toList, e, vals_of_ints a1, he⟩, rfl, k zs' _ a2 a3 (J.hok.fresh (Nat.le_refl _))⟩
  rcases hs with hs | hs
  · obtain ⟨its, rv, hl, hz⟩ := I.list hs
    obtain ⟨o, h1, h2, n, h3⟩ := hl.isList
    have el := rv.length
    rw [List.length_map] at el hz
    exact srt_seq (.inl rfl) h1 h2 h3 rv.ints (by omega) (done (by omega))
  · obtain ⟨its, rv, ⟨o, h1, h2, n, h3⟩, hz⟩ := I.tuple hs
    have el := rv.length
    rw [List.length_map] at el hz
    exact srt_seq (.inr rfl) h1 h2 h3 rv.ints (by omega) (done (by omega))

/-! ### len(set(xs)) -/
def distinct (ns : List Int) : List Int := PyProof.Rows.firstMet (fun i => ns.getD i 0) ns.length
def tLenSetA (K : PySem.W.Frag) (ta : TE) : TE := fun σ H Q => ta σ H fun x H1 => ∃ (l : Addr) (ns : List Int), x = .ref l ∧ SqL K H1 l (ns.map V.int) ∧ ns.length ≤ 4000 ∧ Q (.int ((distinct ns).length : Nat)) H1
theorem firstMet_le (f : Nat → Int) : ∀ n, (PyProof.Rows.firstMet f n).length ≤ n
  | 0 => Nat.le_refl _
  | n + 1 => by
    have ih := firstMet_le f n
    rw [PyProof.Rows.firstMet_succ]
    unfold step_dedup
    split
    · omega
    · simp only [List.length_append, List.length_singleton]; omega
theorem distinct_le (ns : List Int) : (distinct ns).length ≤ ns.length := firstMet_le _ _
theorem firstMet_lt {f : Nat → Int} : ∀ {n i j : Nat}, i < j → j < n → f i = f j → (PyProof.Rows.firstMet f n).length < n
  | 0, _, _, _, h, _ => absurd h (Nat.not_lt_zero _)
  | n + 1, i, j, hij, hj, e => by
    rw [PyProof.Rows.firstMet_succ]
    unfold step_dedup
    have hn := firstMet_le f n
    split
    · omega
    · rename_i hc
      simp only [List.length_singleton, List.length_append]
      by_cases ej : j = n
      · subst ej
        exfalso
        apply hc
        have hmem : ∀ m k, k < m → f k ∈ PyProof.Rows.firstMet f m := by
          intro m
          induction m with
          | zero => intro k hk; omega
          | succ m ih =>
            intro k hk
            rw [PyProof.Rows.firstMet_succ]
            unfold step_dedup
            by_cases ek : k = m
            · subst ek
              split
              · rename_i h1
                obtain ⟨y, hy, ey⟩ := List.any_eq_true.mp h1
                rw [← eq_of_beq ey]; exact hy
              · exact List.mem_append_right _ (by simp)
            · split
              · exact ih k (by omega)
              · exact List.mem_append_left _ (ih k (by omega))
        exact List.any_eq_true.mpr ⟨f i, hmem j i hij, by rw [e]; simp⟩
      · have := firstMet_lt (n := n) hij (by omega) e
        omega
theorem distinct_iff (ns : List Int) : (distinct ns).length < ns.length ↔ ¬ ns.Nodup := by
  constructor
  · intro h hn
    unfold distinct at h
    rw [RZ.firstMet_nodup hn ns.length (Nat.le_refl _), List.take_length] at h
    omega
  · intro h
    have : ∃ i j, ∃ (_ : i < j) (hj : j < ns.length), ns[i]'(by omega) = ns[j] := by
      apply Classical.byContradiction
      intro hc
      apply h
      rw [List.Nodup, List.pairwise_iff_getElem]
      intro i j hi hj hij e
      exact hc ⟨i, j, hij, hj, e⟩
    obtain ⟨i, j, hij, hj, e⟩ := this
    refine firstMet_lt hij hj ?_
    rw [List.getD_eq_getElem?_getD, List.getD_eq_getElem?_getD, List.getElem?_eq_getElem hj, List.getElem?_eq_getElem (by omega : i < ns.length)]
    exact e
theorem pe_lenSetA (K : PySem.W.Frag) {a : Expr} {ta : TE} {p p2 q pos : Pos} (g1 : Gl X "len") (m1 : X.mg "len" = none) (g2 : Gl X "set") (m2 : X.mg "set" = none) (ha : PE X a ta) (hc : X.calm = true := by rfl)
    (w1 : starEach [a] X.env = (false, eval a X.env) :: starEach [] X.env := by rfl) (hK : X.K = K := by rfl) : PE X (.Call (.Name "len" p) [.Call (.Name "set" p2) [a] [] q] [] pos) (tLenSetA K ta) := by
  subst hK
  refine ⟨fun pins s σ H Q I h => Call_ (ld_blt I g1 m1 boot_len (PyProof.Rows.callWith_builtin1 (PyProof.Rows.args_cons (Call_ (ld_blt I g2 m2 boot_set (PyProof.Rows.callWith_type1 (PyProof.Rows.args_cons (thn (ha.run pins s σ H _ I h) ?_) w1) w1 rfl))) rfl) rfl rfl))⟩
  rintro v s1 ⟨x, H1, I1, r1, l, zs, rfl, hq, hl, q1⟩
  cases r1
  refine (PyProof.Rows.args_nil ?_)
  obtain ⟨us, r, pl, _⟩ := I1.list hq
  have el := r.length
  rw [List.length_map] at el
  have hsz : us.toArray.size = zs.length := by rw [List.size_toArray]; exact el.symm
  have hd := distinct_le zs
  refine call_set_list (I1.ok.hd hc) pl.isList (by simpa using r.ints) (by rw [hsz]; unfold scanBound; omega) fun g tk hS kg => PyProof.Rows.args_nil ?_
  rw [hsz] at hS
  obtain ⟨o, es, ep, t, ho, hex, ht, _, _, _, hf, hn⟩ := hS
  have J : Inv X pins σ H1 { s1 with heap := g, toks := tk } := I1.kept fun b u hb => kg b u (Heap.lt_size hb) hb
  replace hn : es.size = (distinct zs).length := hn
  exact call_len_set ho hex ht hf (by rw [hn] <;> omega) ⟨.int ((distinct zs).length : Nat), H1, J.tok _, ⟨_, by rw [hn]⟩, q1⟩
end
end Wr

/-! objects with two lists of ints -/
namespace Wr
open PySem L2
structure Ox (K : PySem.W.Frag) (C : Addr) (f1 f2 : Str) : Prop where
  cl : Cls K C
  n1 : NoAttr K C f1
  n2 : NoAttr K C f2
  ne : (f2 == f1) = false
def ofs (f1 f2 : Str) (l1 l2 : Addr) : List (Str × V) := [(f1, .ref l1), (f2, .ref l2)]
theorem ofs_1 (f1 f2 : Str) (l1 l2 : Addr) : (ofs f1 f2 l1 l2).lookup f1 = some (.ref l1) := by
  unfold ofs
  simp [List.lookup]
theorem ofs_2 {f1 f2 : Str} (l1 l2 : Addr) (h : (f2 == f1) = false) : (ofs f1 f2 l1 l2).lookup f2 = some (.ref l2) := by
  unfold ofs
  simp [List.lookup, h]
theorem ofs_no {f1 f2 m : Str} (l1 l2 : Addr) (h1 : (m == f1) = false) (h2 : (m == f2) = false) : (ofs f1 f2 l1 l2).lookup m = none := by
  unfold ofs
  simp [List.lookup, h1, h2]
theorem ofs_put {f1 f2 : Str} (l1 l2 : Addr) (h : (f2 == f1) = false) : putF f2 (.ref l2) (putF f1 (.ref l1) []) = ofs f1 f2 l1 l2 := by
  have h : ¬ f1 = f2 := fun e => by subst e; simp at h
  show (if f1 = f2 then _ else _) = _
  rw [if_neg h]
  rfl
structure AnsAt (C : Addr) (f1 f2 : Str) (H : Hp) (p l1 l2 : Addr) (ps qs : List Int) : Prop where
  ins : ∃ dx, H p = some (.ins C dx (ofs f1 f2 l1 l2))
  h1 : H l1 = some (.lst (ps.map V.int))
  h2 : H l2 = some (.lst (qs.map V.int))
  ne : l1 ≠ l2
theorem AnsAt.same {C : Addr} {f1 f2 : Str} {H H' : Hp} {p l1 l2 : Addr} {ps qs : List Int} (e : Same H H') (h : AnsAt C f1 f2 H p l1 l2 ps qs) : AnsAt C f1 f2 H' p l1 l2 ps qs :=
  let ⟨dx, h0⟩ := h.ins
  ⟨⟨dx, e _ _ h0⟩, e _ _ h.h1, e _ _ h.h2, h.ne⟩
theorem AnsAt.p1 {C : Addr} {f1 f2 : Str} {H : Hp} {p l1 l2 : Addr} {ps qs : List Int} (h : AnsAt C f1 f2 H p l1 l2 ps qs) : p ≠ l1 :=
  let ⟨_, h0⟩ := h.ins
  ne_of h0 h.h1 (by intro z; cases z)
theorem AnsAt.p2 {C : Addr} {f1 f2 : Str} {H : Hp} {p l1 l2 : Addr} {ps qs : List Int} (h : AnsAt C f1 f2 H p l1 l2 ps qs) : p ≠ l2 :=
  let ⟨_, h0⟩ := h.ins
  ne_of h0 h.h2 (by intro z; cases z)
/-- one of its lists changes -/
theorem AnsAt.set1 {C : Addr} {f1 f2 : Str} {H : Hp} {p l1 l2 : Addr} {ps qs : List Int} (h : AnsAt C f1 f2 H p l1 l2 ps qs) (zs : List Int) : AnsAt C f1 f2 (upd H l1 (.lst (zs.map V.int))) p l1 l2 zs qs :=
  let ⟨dx, h0⟩ := h.ins
  ⟨⟨dx, by rw [upd_ne h.p1]; exact h0⟩, upd_same, by rw [upd_ne h.ne.symm]; exact h.h2, h.ne⟩
theorem AnsAt.set2 {C : Addr} {f1 f2 : Str} {H : Hp} {p l1 l2 : Addr} {ps qs : List Int} (h : AnsAt C f1 f2 H p l1 l2 ps qs) (zs : List Int) : AnsAt C f1 f2 (upd H l2 (.lst (zs.map V.int))) p l1 l2 ps zs :=
  let ⟨dx, h0⟩ := h.ins
  ⟨⟨dx, by rw [upd_ne h.p2]; exact h0⟩, by rw [upd_ne h.ne]; exact h.h1, upd_same, h.ne⟩
theorem AnsAt.updL {C : Addr} {f1 f2 : Str} {H : Hp} {p l1 l2 a : Addr} {ps qs : List Int} {xs : List V} (h : AnsAt C f1 f2 H p l1 l2 ps qs) (ha : H a = some (.lst xs)) (n1 : l1 ≠ a) (n2 : l2 ≠ a) (ys : List V) : AnsAt C f1 f2 (upd H a (.lst ys)) p l1 l2 ps qs :=
  let ⟨dx, h0⟩ := h.ins
  ⟨⟨dx, keepU h0 ha (by intro z; cases z)⟩, by rw [upd_ne n1]; exact h.h1, by rw [upd_ne n2]; exact h.h2, h.ne⟩
/-- the promise of an __init__ that copies two lists -/
def spCopy (C : Addr) (f1 f2 : Str) : Sp := fun vs H Q _ => ∃ (p a b dx : Addr) (ps qs : List Int), vs = [.ref p, .ref a, .ref b] ∧ H p = some (.ins C dx []) ∧ H a = some (.lst (ps.map V.int)) ∧ H b = some (.lst (qs.map V.int)) ∧
  ∀ H' l1 l2, (∀ b o, H b = some o → b ≠ p → H' b = some o) → H l1 = none → H l2 = none → AnsAt C f1 f2 H' p l1 l2 ps qs → Q .non H'
end Wr

namespace Wr
open PySem PySem.Spec PyProof.Rows L2 LamX
/-! ### a lambda of one parameter, called where it was made -/
structure Lam1 (sc scope : Scope) (x : Str) : Prop where
  kind : scope.kind = .function
  co : scope.isCoroutine = false
  gen : scope.isGenerator = false
  par : scope.names.lookup x = some .local
  nocell : ∀ y ∈ scope.names, y.2 ≠ .cell
  one : ∀ y, scope.names.lookup y = some .local → y = x
  free : ∀ y ∈ scope.names, y.2 = .free → sc.names.lookup y.1 = some .cell ∨ sc.names.lookup y.1 = some .free
theorem Lam1.has {X : Cx} {scope : Scope} {x : Str} (L : Lam1 X.env.scope scope x) (ok : X.Ok) (y : Str × NameKind) (hy : y ∈ scope.names) (e : y.2 = .free) : ∃ c, X.env.cells.lookup y.1 = some c :=
  (L.free y hy e).elim (fun k => ok.has _ (.inl k)) fun k => ok.has _ (.inr k)
def lam1B (sc scope : Scope) (x : Str) : Bool :=
  decide (scope.kind = .function) && !scope.isCoroutine && !scope.isGenerator && decide (scope.names.lookup x = some .local) && scope.names.all fun y => !decide (y.2 = .cell) && (!decide (y.2 = .local) || decide (y.1 = x)) && (!decide (y.2 = .free) || decide (sc.names.lookup y.1 = some .cell) || decide (sc.names.lookup y.1 = some .free))
theorem lam1_by {sc scope : Scope} {x : Str} (h : lam1B sc scope x = true) : Lam1 sc scope x := by
  unfold lam1B at h
  simp only [Bool.and_eq_true, Bool.or_eq_true, Bool.not_eq_true', decide_eq_true_eq, decide_eq_false_iff_not, List.all_eq_true] at h
  obtain ⟨⟨⟨⟨a1, a2⟩, a3⟩, a4⟩, a5⟩ := h
  refine ⟨a1, a2, a3, a4, fun y hy => (a5 y hy).1.1, fun y e => ?_, fun y hy e => ?_⟩
  · rcases (a5 _ (PySem.mem_of_lookup e)).1.2 with z | z
    · exact absurd rfl z
    · exact z
  · rcases (a5 y hy).2 with (z | z) | z
    · exact absurd e z
    · exact .inl z
    · exact .inr z
/-- the context of its body -/
def cxLam (X : Cx) (A : Around) (s : Shared) (H : Hp) (scope : Scope) (f c' : Addr) : Cx where
  prog := X.prog
  w := X.w
  K := X.K
  mg := X.mg
  base := X.base
  N := X.N
  A := A.deeper (lamEnv X scope s.heap.objs.size f c')
  s_0 := s
  H_0 := H
  env := lamEnv X scope s.heap.objs.size f c'
  outer := X.stack
  stack := lamEnv X scope s.heap.objs.size f c' :: X.stack
  ex := []
  fn := fun _ => false
  calm := true
  pn := []
  xe := fun e t => wpAny (model X.prog X.w) (A.deeper (lamEnv X scope s.heap.objs.size f c')) (leaving (lamEnv X scope s.heap.objs.size f c') e) (fun _ t' => L2.CX X.prog X.w X.stack H s L2.E0 e t') (fun e' t' => L2.CX X.prog X.w X.stack H s L2.E0 e' t') t
section
variable {X : Cx} {pins : List (Addr × Obj)} {σ : L2.St} {H : Hp} {s : Shared}
theorem lam1_start {A : Around} {scope : Scope} {x : Str} {i : Nat} {f c' : Addr} {g : Heap} {tk : Nat} {v : V} {u : Value} (I : Inv X pins σ H s) (L : Lam1 X.env.scope scope x) (nd : X.N.Nodup) (hi : X.N[i]? = some x) (e0 : Env0 X.prog X.w X.K X.mg X.base A X.stack s H) (hd : A.handled = none)
    (ru : RelV v u) (named : g.Ns s.heap.objs.size fun y => ([(x, u)] : List (Str × Value)).reverse.lookup y) (kp : ∀ b o, s.heap.get? b = some o → g.get? b = some o) : Inv (cxLam X A s H scope f c') [] (σ.set i (some v)) H { s with heap := g, toks := tk } := by
  have look : ∀ {y}, scope.names.lookup y = some .free → ∃ c, (cloFrom X.env.cells scope.names []).lookup y = some c := fun {y} hl =>
    mem_lookup (cloFrom_has (cells := X.env.cells) (acc := []) (PySem.mem_of_lookup hl : (y, NameKind.free) ∈ scope.names))
  have cm : ∀ {y c}, (cloFrom X.env.cells scope.names []).lookup y = some c → X.env.cells.lookup y = some c := fun {y c} e => by
    rcases cloFrom_mem (PySem.mem_of_lookup e) with hm | ⟨h1, h2⟩
    · cases hm
    · obtain ⟨c1, hc⟩ := L.has I.ok _ h1 rfl
      have hc : X.env.cells.lookup y = some c1 := hc
      rw [h2, hc] <;> rfl
  have cellK : ∀ {c : Addr} {z : Option Value}, s.heap.IsCell c z → g.IsCell c z := fun {c z} ⟨o, ho, dd⟩ => ⟨o, kp _ _ ho, dd⟩
  have noA : ∀ b : Addr, b ∉ (cxLam X A s H scope f c').ex := fun b z => absurd (show b ∈ ([] : List Addr) from z) (by simp)
  refine ⟨⟨e0.mod, L.kind, rfl, rfl, Nat.le_refl _, fun y z c a b => I.ok.inj y z c (cm a) (cm b), fun y hy => ?_, fun y c z => ?_, fun _ => hd, Around.frames_deeper e0.frames, .inr ⟨rfl, rfl⟩, fun b z => absurd z (noA b), e0.bs, e0.bsz, fun b _ _ => noA b, fun b z => absurd z (noA b), e0.funs, e0.frf⟩,
    rfl, e0.bare, Un.kept kp, ⟨_, named, fun j y w a b c => ?_⟩, fun y c e => ?_, e0.hok.fresh (Nat.le_refl _), fun y c e => I.freeC y c (cm e), fun q hq => absurd (show q ∈ ([] : List (Addr × Obj)) ++ [] from hq) (by simp), e0.hok.kept kp, by rw [List.length_set]; exact I.len⟩
  · rcases (show scope.names.lookup y = some .cell ∨ scope.names.lookup y = some .free from hy) with k | k
    · exact absurd rfl (L.nocell _ (PySem.mem_of_lookup k))
    · exact look k
  · exact absurd (show false = true from z) Bool.false_ne_true
  · rcases (show Vis scope y from c) with k | k | k
    · have ey := L.one y k
      subst ey
      have ej : j = i := nodup_ix nd a hi
      subst ej
      have lt : j < σ.length := by
        rw [I.len]
        exact (List.getElem?_eq_some_iff.mp hi).1
      rw [List.getElem?_set_self lt] at b
      cases b
      refine ⟨u, ru, .inl ⟨k, ?_⟩⟩
      show List.lookup y [(y, u)] = some u
      simp [List.lookup]
    · exact absurd rfl (L.nocell _ (PySem.mem_of_lookup k))
    · have ny : y ≠ x := fun e => by rw [e, L.par] at k; cases k
      have nj : i ≠ j := fun e => ny (by
        subst e
        have a : X.N[i]? = some y := a
        rw [hi] at a
        exact (Option.some.inj a).symm)
      rw [List.getElem?_set_ne nj] at b
      obtain ⟨m, _, hl⟩ := I.loc
      have hv : Vis X.env.scope y := (L.free _ (PySem.mem_of_lookup k) rfl).elim (fun k => .inr (.inl k)) (fun k => .inr (.inr k))
      obtain ⟨w', r, q⟩ := hl j y w a b hv
      obtain ⟨c2, h2⟩ := look k
      refine ⟨w', r, .inr ⟨.inr k, c2, h2, ?_⟩⟩
      rcases q with ⟨k', _⟩ | ⟨_, c3, e', z⟩
      · have k' : X.env.scope.names.lookup y = some .local := k'
        rcases L.free _ (PySem.mem_of_lookup k) rfl with k2 | k2 <;> rw [show X.env.scope.names.lookup y = _ from k2] at k' <;> cases k'
      · rw [cm h2] at e'
        cases e'
        exact cellK z
  · obtain ⟨z, q⟩ := I.cell y c (cm e)
    exact ⟨z, cellK q⟩
/-- the lambda at f, called with u -/
theorem lam1_call {A : Around} {params : Arguments} {body : Expr} {scope : Scope} {x : Str} {i k : Nat} {f c' : Addr} {pm ctv : Value} {v : V} {u : Value} {tb : TE} {Q : VK} (I : Inv X pins σ H s) (L : Lam1 X.env.scope scope x) (nd : X.N.Nodup) (hi : X.N[i]? = some x) (e0 : Env0 X.prog X.w X.K X.mg X.base A X.stack s H)
    (hf : s.heap.get? f = some (PySem.W.kla_obj "<lambda>" (X.env.qual ++ "<lambda>") params body scope (cloFrom X.env.cells scope.names []) pm c' ctv)) (hc : H c' = some (CodeO c' (X.env.qual ++ "<lambda>")))
    (hbind : ∀ z, bindArgs (PySem.W.kla_fn "<lambda>" (X.env.qual ++ "<lambda>") params body scope (cloFrom X.env.cells scope.names []) pm (.ref c') ctv) ⟨[z], []⟩ = pure [(x, z)]) (hr : Room (k + 1) A)
    (hbody : ∀ s' H', Room k (A.deeper (lamEnv X scope s'.heap.objs.size f c')) → PE (cxLam X A s' H' scope f c') body tb) (ru : RelV v u) (ht : tb (σ.set i (some v)) H Q) :
    wpAny (model X.prog X.w) A (call (.ref f) [u]) (EP X pins σ Q) (fun _ _ => False) s := by
  obtain ⟨⟨oc, ovs, t, hoc, hdc, hvc⟩, _, _⟩ := I.hok c' _ hc
  refine wpAny_call (codeAny_mono (R := CR (L2.CX X.prog X.w) X.stack X.prog X.w H s Q L2.E0) ?_ fun r s' hq => ?_)
  · refine PySem.W.kla_callFunE hr.depth hf rfl L.co L.gen rfl ⟨c', oc, ovs, t, rfl, hoc, hdc, hvc⟩ ?_
    rw [hbind]
    refine wpAny_pure (wpAny_newFunctionEnv L.nocell (fun y hy => ?_) (fun g named sb => ⟨I.nolimit.fresh _ sb, ?_⟩) L.kind)
    · have ey : y = (x, u) := by simpa using hy
      subst ey
      exact L.par
    · show codeAny _ _ (.expr body (lamEnv X scope s.heap.objs.size f c')) _ _
      have kp : ∀ b o, s.heap.get? b = some o → g.get? b = some o := fun b o e => sb.extBut b o (Nat.ne_of_lt (Heap.lt_size e)) (Heap.get?_push_of_some _ e)
      refine PySem.W.kla_codeExpr (wpAny_mono ((hbody s H (hr.deeper _)).run [] _ _ H Q (lam1_start (tk := s.toks + 1) I L nd hi e0 hr.hd ru named kp) ht) (fun z s' hq => ?_) fun e s' hq => hq)
      obtain ⟨w', H', J, rv, q⟩ := hq
      exact ⟨w', H', J.os, J.bare, J.base, J.hok, rv, q⟩
  · cases r with
    | error e =>
      obtain ⟨_, _, _, _, _, _, _, _, _, _, _, _, z⟩ := (show L2.CX X.prog X.w X.stack H s L2.E0 e s' from hq)
      exact z.elim
    | ok fl =>
      cases fl with
      | ret u => exact I.after hq
      | next => exact False.elim hq
      | brk => exact False.elim hq
      | cont => exact False.elim hq
end
end Wr
namespace Wr
open PySem PySem.Spec PyProof.Rows L2 LamX Srt SrtO
section
variable {X : Cx} {pins : List (Addr × Obj)} {σ : L2.St} {H : Hp} {s : Shared}
/-- an object of ours that was not tracked is a list from now on -/
theorem inv_track {g : Heap} {a n tk : Nat} {ys : List V} {its : List Value} (I : Inv X pins σ H s) (F : FpOk X pins H a) (k : ∀ b o, b ≠ a → s.heap.get? b = some o → g.get? b = some o) (ga : g.get? a = some { cls := .type "list", data := .seq its.toArray n }) (hv : Vals ys its) (hz : ys.length ≤ sizeLine) :
    Inv X pins σ (upd H a (.lst ys)) { s with heap := g, toks := tk } := by
  obtain ⟨f0, f1, f2, f3, f4, f5⟩ := F
  have na : ∀ b u, H b = some u → b ≠ a := fun b u e z => by rw [z, f0] at e; cases e
  have nc : ∀ {b : Addr}, b ∉ [a] → b ≠ a := fun {b} hc z => hc (by simp [z])
  refine I.step (g' := s.gens) (d' := s.drawn) (ch := [a]) (fun b hb => ?_) (fun b o _ _ hc e _ => k b o (nc hc) e) (fun b o _ _ hc e _ => ⟨o.slots, k b o (nc hc) e⟩) (fun b o hc _ z => by rw [upd_ne (nc hc)]; exact z)
    (fun b o hc e => ⟨o, k b o (nc hc) e⟩) (fun b xs e => by rw [upd_ne (na b _ e)]; exact e) (fun b o u e => by rw [upd_ne (na b _ e)]; exact e) (fun b ps e => ⟨#[], by rw [upd_ne (na b _ e), e]; simp⟩) (fun m hm => ?_) (fun b u e => ?_) I.bare
  · have e : b = a := by simpa using hb
    subst e
    exact ⟨f3, f1, f4, f5⟩
  · obtain ⟨o, es, ep, ho, r⟩ := hm
    exact ⟨o, es, ep, k _ o (Ne.symm f1) ho, r⟩
  · by_cases hb : b = a
    · subst hb
      rw [upd_same] at e
      cases e
      exact ⟨hz, its, n, hv, ga⟩
    · rw [upd_ne hb] at e
      refine (I.hok b u e).stay (fun c v hc q => k c v ?_ q) (fun c q => by rw [upd_ne (na c _ q)]; exact q) fun c xs q => by rw [upd_ne (na c _ q)]; exact q
      rcases hc with z | z
      · rw [z]; exact hb
      · exact na c _ z
/-- the numbers that a tracked tuple holds -/
def pairOf (H : Hp) (v : Value) : Int × Int := match v with
  | .ref t => match H t with
    | some (.tup [.int x, .int y]) => (x, y)
    | _ => (0, 0)
  | _ => (0, 0)
theorem pairOf_of {t : Addr} {x y : Int} (h : H t = some (.tup [.int x, .int y])) : pairOf H (.ref t) = (x, y) := by
  simp only [pairOf, h]
theorem isPair_of (I : Inv X pins σ H s) {t : Addr} {x y : Int} (h : H t = some (.tup [.int x, .int y])) : IsPair s.heap (.ref t) x y := by
  obtain ⟨_, its, r, ht⟩ := I.hok t _ h
  cases r with
  | cons r1 rr =>
    cases rr with
    | cons r2 rr =>
      cases rr
      obtain ⟨t1, rfl⟩ := r1
      obtain ⟨t2, rfl⟩ := r2
      obtain ⟨o, ho, hc, n, hd⟩ := ht
      exact ⟨t, o, t1, t2, n, rfl, ho, hc, hd⟩
theorem refs_of : ∀ {ts : List Addr} {us : List Value}, Vals (ts.map V.ref) us → us = ts.map Value.ref
  | [], _, r => by cases r; rfl
  | t :: ts, _, r => by
    cases r with
    | cons h q =>
      cases h
      rw [List.map_cons, ← refs_of q]
theorem vals_refs : ∀ ts : List Addr, Vals (ts.map V.ref) (ts.map Value.ref)
  | [] => .nil
  | _ :: ts => .cons rfl (vals_refs ts)
end
end Wr

namespace Wr
open PySem PySem.Spec PyProof.Rows L2 LamX Srt SrtO
section
variable {X : Cx} {pins : List (Addr × Obj)} {σ : L2.St} {H : Hp} {s : Shared}
/-- by the keys of places: those of a stand no later than those of b -/
def keyLe (key : Nat → Int × Int) (a b : Int) : Prop := lexB (key b.toNat) (key a.toNat) = false
/-- the sorting itself: its items are 0 .. n - 1, their keys stand in the list at kS -/
theorem sort_end {A : Around} {a kS : Addr} {ts : List Addr} {items keys : List Value} {e1 n : Nat} {key : Nat → Int × Int} {R : PySem.Fin → Shared → Prop} {oa : Obj} (I : Inv X (pins ++ [(a, oa)]) σ H s) (F : FpOk X pins H a) (hoa : oa = seqObj "list" #[] e1) (hkS : H kS = some (.lst (ts.map V.ref)))
    (hlen : ts.length = n) (hts : ∀ (j : Nat) t, ts[j]? = some t → H t = some (.tup [.int (key j).1, .int (key j).2])) (hk : keys = ts.map Value.ref) (hit : items.length = n) (hitem : ∀ (j : Nat) v, items[j]? = some v → ∃ tk, v = Value.int (j : Int) tk) (hn : n ≤ 1000)
    (done : ∀ (ns : List Int) (s' : Shared), ns.Perm ((List.range n).map fun j : Nat => (j : Int)) → ns.Pairwise (keyLe key) → Inv X pins σ (upd (upd H kS (.lst [])) a (.lst (ns.map V.int))) s' → R (.done (.ret .none)) s') :
    wpAny (model X.prog X.w) A (ksk_end a false items.toArray e1 (.ref kS) keys.toArray) R (fun _ _ => False) s := by
  have hl : keys.length = n := by rw [hk, List.length_map, hlen]
  have pin := I.pin (a, oa) (List.mem_append_right _ (List.mem_append_right _ (List.mem_singleton.mpr rfl)))
  have ga : s.heap.get? a = some (seqObj "list" #[] e1) := by rw [← hoa]; exact pin.1
  have hzip : (keys.toArray.zip items.toArray).toList = keys.zip items := by simp
  have kval : ∀ j v, keys[j]? = some v → pairOf H v = key j ∧ IsPair s.heap v (key j).1 (key j).2 := fun j v h => by
    rw [hk, List.getElem?_map] at h
    obtain ⟨t, ht, rfl⟩ := Option.map_eq_some_iff.mp h
    exact ⟨pairOf_of (hts j t ht), isPair_of I (hts j t ht)⟩
  -- what stands behind it
  have tail : ∀ st' : SortSt, Srtd (lt2 fun v u => lexB (pairOf H v) (pairOf H u)) (arrOf st').toList → (arrOf st').toList.Perm (keys.zip items) → failedOf st' = none → wpAny (model X.prog X.w) A (ksk_tail a false e1 (.ref kS) st') R (fun _ _ => False) s := by
    intro st' hs hp hf
    have hq : ∀ p ∈ (arrOf st').toList, ∃ j : Nat, j < n ∧ ∃ tk, p.2 = .int (j : Int) tk ∧ pairOf H p.1 = key j := fun p hp' => by
      have hm := hp.mem_iff.mp hp'
      obtain ⟨j, hj, e⟩ := List.getElem_of_mem hm
      rw [List.length_zip] at hj
      have h1 : keys[j]? = some p.1 := by
        rw [List.getElem_zip] at e
        rw [List.getElem?_eq_getElem (by omega), ← e]
      have h2 : items[j]? = some p.2 := by
        rw [List.getElem_zip] at e
        rw [List.getElem?_eq_getElem (by omega), ← e]
      obtain ⟨tk, e2⟩ := hitem j _ h2
      exact ⟨j, by omega, tk, e2, (kval j _ h1).1⟩
    obtain ⟨ns, hns⟩ : ∃ ns : List Int, ns = (arrOf st').toList.map fun p => numOf p.2 := ⟨_, rfl⟩
    have perm : ns.Perm ((List.range n).map fun j : Nat => (j : Int)) := by
      have e1 : (keys.zip items).map (fun p : Keyed => numOf p.2) = (List.range n).map fun j : Nat => (j : Int) := by
        refine List.ext_getElem (by simp [hl, hit]) fun j k1 k2 => ?_
        have hj : j < items.length := by simp at k2; omega
        obtain ⟨tk, e2⟩ := hitem j _ (List.getElem?_eq_getElem hj)
        simp only [List.getElem_map, List.getElem_zip, List.getElem_range]
        rw [e2]
        rfl
      rw [hns, ← e1]
      exact hp.map _
    have sorted : ns.Pairwise (keyLe key) := by
      rw [hns, List.pairwise_map]
      refine List.Pairwise.imp_of_mem (fun {p q} hp' hq' h => ?_) hs
      obtain ⟨i, _, ti, ei, ki⟩ := hq p hp'
      obtain ⟨j, _, tj, ej, kj⟩ := hq q hq'
      have h : lexB (pairOf H q.1) (pairOf H p.1) = false := h
      rw [ki, kj] at h
      show lexB (key (numOf q.2).toNat) (key (numOf p.2).toNat) = false
      rw [ei, ej]
      exact h
    have outv : Vals (ns.map V.int) ((arrOf st').map (·.2)).toList := by
      rw [hns, Array.toList_map, List.map_map]
      have : ∀ l : List Keyed, (∀ p ∈ l, ∃ j : Nat, j < n ∧ ∃ tk, p.2 = .int (j : Int) tk ∧ pairOf H p.1 = key j) → Vals (l.map (V.int ∘ fun p : Keyed => numOf p.2)) (l.map fun p : Keyed => p.2) := by
        intro l
        induction l with
        | nil => exact fun _ => .nil
        | cons p l ih =>
          intro h
          obtain ⟨j, _, tk, e, _⟩ := h p List.mem_cons_self
          refine .cons ?_ (ih fun q hq => h q (List.mem_cons_of_mem _ hq))
          show RelV (V.int (numOf p.2)) p.2
          rw [e]
          exact ⟨tk, rfl⟩
      exact this _ hq
    have nsl : ns.length = n := by rw [perm.length_eq]; simp
    have osz : ((arrOf st').map (·.2)).size = n := by
      rw [← Array.length_toList, ← outv.length, List.length_map, nsl]
    obtain ⟨_, kits, kn, _, _, kget⟩ := I.lstM hkS
    have kz : kits.toArray.size ≤ sizeLine := by
      obtain ⟨_, kits', kn', kv', _, kget'⟩ := I.lstM hkS
      rw [kget] at kget'
      cases kget'
      rw [List.size_toArray, ← kv'.length, List.length_map]
      exact szle (by omega)
    have nka : kS ≠ a := fun z => by
      rw [z, F.1] at hkS
      cases hkS
    unfold ksk_tail
    try dsimp only
    refine wpAny_bind (listUpdate_at kget rfl ?_ kz (Nat.zero_le _))
    refine wpAny_bind (wpAny_letGo ?_)
    have I1 := I.lset (t' := s.toks) (ys := []) (its' := []) (f := fun _ => #[]) hkS kget rfl .nil (Nat.zero_le _)
    have ga1 : (s.heap.update kS (Obj.mapSeq fun _ => #[])).get? a = some (seqObj "list" #[] e1) := (Heap.get?_update_other _ _ nka).trans ga
    refine wpAny_bind (seqEpoch_at ga1 rfl ?_)
    refine wpAny_bind (listUpdate_at ga1 rfl ?_ (Nat.zero_le _) (by show (if false = true then _ else (arrOf st').map (·.2)).size ≤ _; rw [if_neg (by decide), osz]; exact Nat.le_trans (szle hn) (Nat.le_succ _)))
    rw [hf]
    simp only [bne_self_eq_false, Bool.false_eq_true, if_false]
    refine wpAny_pure (done ns _ perm sorted ?_)
    have F1 : FpOk X pins (upd H kS (.lst [])) a := ⟨by rw [upd_ne (Ne.symm nka)]; exact F.1, F.2⟩
    have ga2 := get?_update_seq ga1 fun _ => (arrOf st').map (·.2)
    have I2 : Inv X pins σ (upd H kS (.lst [])) { s with heap := s.heap.update kS (Obj.mapSeq fun _ => #[]) } := I1.pins_of fun p hp => I1.pin p (List.mem_append_right _ (List.mem_append_left _ hp))
    exact inv_track (s := { s with heap := s.heap.update kS (Obj.mapSeq fun _ => #[]) }) (tk := s.toks) I2 F1 (fun b o hb e => (Heap.get?_update_other _ _ (Ne.symm hb)).trans e) (its := ((arrOf st').map (·.2)).toList) (by rw [Array.toArray_toList]; exact ga2) outv (by rw [List.length_map, nsl]; exact szle hn)
  unfold ksk_end
  try dsimp only
  rw [if_neg (show ¬ (false = true) by decide)]
  by_cases h2 : items.toArray.size < 2
  · rw [if_pos h2, if_pos h2]
    refine wpAny_bind (wpAny_pure ?_)
    rw [StateT.run_pure]
    refine wpAny_bind (wpAny_pure ?_)
    try dsimp only
    refine tail (SortSt.mk' general' (if false = true then (keys.toArray.zip items.toArray).reverse else keys.toArray.zip items.toArray) #[] 7 none) ?_ (by show List.Perm (keys.toArray.zip items.toArray).toList _; rw [hzip]) rfl
    show List.Pairwise _ (keys.toArray.zip items.toArray).toList
    rw [hzip]
    have : (keys.zip items).length < 2 := by rw [List.length_zip]; rw [List.size_toArray] at h2; omega
    match keys.zip items, this with
    | [], _ => exact List.Pairwise.nil
    | [v], _ => exact List.pairwise_singleton _ _
    | _ :: _ :: l, h => exact absurd h (by rw [List.length_cons, List.length_cons]; omega)
  · rw [if_neg h2, if_neg h2]
    rw [List.size_toArray] at h2
    obtain ⟨κ, hkind, hT⟩ := pairs_sortableO (prog := X.prog) (w := X.w) (A := A) (s := s) (a := a) (vs := keys) (k := pairOf H) (by omega) (fun v hv => by
      obtain ⟨j, hj, e⟩ := List.getElem_of_mem hv
      obtain ⟨z1, z2⟩ := kval j v (by rw [List.getElem?_eq_getElem hj, e])
      rw [z1]
      exact z2) (fun o e => by
        rw [ga] at e
        cases e
        intro c
        exact absurd (Value.type.inj c) (by decide)) s.heap fun _ _ _ e => e
    refine wpAny_bind (hkind _ _ ?_)
    refine wpAny_bind (wpAny_mono (wpS_sortO (st0 := SortSt.mk' κ (if false = true then (keys.toArray.zip items.toArray).reverse else keys.toArray.zip items.toArray) #[] 7 none)
      (Q := fun _ st' => Srtd (lt2 fun v u => lexB (pairOf H v) (pairOf H u)) (arrOf st').toList ∧ (arrOf st').toList.Perm (keys.zip items) ∧ failedOf st' = none) (swo2 (swo_lex (pairOf H))) hT rfl (fun p hm => ?_) rfl rfl fun st' a1 a2 a3 => ⟨a1, ?_, a3⟩) ?_ fun _ _ e => e)
    · have hm : p ∈ (keys.toArray.zip items.toArray).toList := hm
      rw [hzip] at hm
      exact (List.of_mem_zip hm).1
    · have := a2.perm
      rw [← hzip]
      exact this
    · rintro ⟨⟨⟩, st'⟩ s' ⟨rfl, hp1, hp2, hf⟩
      exact tail st' hp1 hp2 hf
end
end Wr
namespace Wr
open PySem PySem.Spec PyProof.Rows L2 LamX Srt SrtO
section
variable {X : Cx} {pins : List (Addr × Obj)} {σ : L2.St} {H : Hp} {s : Shared}
/-- the keys are asked, one after the other, then it is sorted -/
theorem sort_rest {A : Around} {a kS : Addr} {f : Value} {items : List Value} {e1 n : Nat} {key : Nat → Int × Int} {R : PySem.Fin → Shared → Prop} (I : Inv X (pins ++ [(a, seqObj "list" #[] e1)]) σ (upd H kS (.lst [])) s) (F : FpOk X pins H a) (hkS : H kS = none) (nka : kS ≠ a)
    (hit : items.length = n) (hitem : ∀ (j : Nat) v, items[j]? = some v → ∃ tk, v = Value.int (j : Int) tk) (hn : n ≤ 1000)
    (turn : ∀ (j : Nat) (u : Value) (pins' : List (Addr × Obj)) (H' : Hp) (s' : Shared), j < n → RelV (.int (j : Int)) u → (∀ p ∈ pins, p ∈ pins') → Same H H' → Inv X pins' σ H' s' →
      wpAny (model X.prog X.w) A (call f [u]) (EP X pins' σ fun v H2 => ∃ t, v = .ref t ∧ Same H' H2 ∧ H2 t = some (.tup [.int (key j).1, .int (key j).2])) (fun _ _ => False) s')
    (done : ∀ (ns : List Int) (H' : Hp) (s' : Shared), ns.Perm ((List.range n).map fun j : Nat => (j : Int)) → ns.Pairwise (keyLe key) → Same H H' → Inv X pins σ (upd H' a (.lst (ns.map V.int))) s' → R (.done (.ret .none)) s') :
    wpAny (model X.prog X.w) A (ksk_rest a f false items.toArray e1 (.ref kS)) R (fun _ _ => False) s := by
  unfold ksk_rest
  refine wpAny_bind (wpAny_rule ?_)
  rw [List.forIn_toArray]
  refine wpAny_bind (ksk_fold (fun i s' => ∃ H' ts, Inv X (pins ++ [(a, seqObj "list" #[] e1)]) σ H' s' ∧ Same H H' ∧ H' kS = some (.lst (ts.map V.ref)) ∧ ts.length = i ∧ ∀ (j : Nat) t, ts[j]? = some t → H' t = some (.tup [.int (key j).1, .int (key j).2])) items 0 s
    ⟨_, [], I, Same.new hkS, upd_same, rfl, fun j t h => by simp at h⟩ ?step ?done)
  case step =>
    rintro j x s' hx ⟨H', ts, I', sm, hk, tl, ht⟩
    rw [Nat.zero_add] at tl
    rw [Nat.zero_add]
    obtain ⟨tk, ex⟩ := hitem j x hx
    have hj : j < n := by rw [← hit]; exact (List.getElem?_eq_some_iff.mp hx).1
    subst ex
    refine wpAny_bind (wpAny_attempt (wpAny_mono (turn j _ _ H' s' hj ⟨tk, rfl⟩ (fun p hp => List.mem_append_left _ hp) sm I') (fun v s2 q => ?_) fun _ _ z => z.elim))
    obtain ⟨w, H2, I2, rv, t, rfl, sm2, ht2⟩ := q
    cases rv
    try dsimp only
    have hk2 := sm2 _ _ hk
    obtain ⟨_, its, kn, kv, kl, kget⟩ := I2.lstM hk2
    have il : its.length = j := by rw [← kl, List.length_map, tl]
    refine wpAny_bind (listUpdate_at kget rfl ?_ (by rw [List.size_toArray, il]; exact szle (by omega)) (by rw [Array.size_push, List.size_toArray, il]; exact Nat.le_trans (szle (by omega)) (Nat.le_succ _)))
    have I3 := I2.lset (t' := s2.toks) (ys := (ts ++ [t]).map V.ref) (its' := its ++ [Value.ref t]) (f := (·.push (Value.ref t))) hk2 kget (by simp) (by rw [List.map_append]; exact kv.append (.cons rfl .nil)) (by rw [List.length_map, List.length_append, List.length_singleton, tl]; exact szle (by omega))
    refine wpAny_pure ⟨rfl, _, ts ++ [t], I3, Same.mut (sm.trans sm2) hkS, upd_same, by rw [List.length_append, List.length_singleton, tl], fun m y hy => ?_⟩
    have tup_keep : ∀ {b : Addr} {zs : List V}, H2 b = some (.tup zs) → upd H2 kS (.lst ((ts ++ [t]).map V.ref)) b = some (.tup zs) := fun {b zs} e => keepU e hk2 (by intro z; cases z)
    by_cases c : m < ts.length
    · rw [List.getElem?_append_left c] at hy
      exact tup_keep (sm2 _ _ (ht m y hy))
    · rw [List.getElem?_append_right (by omega)] at hy
      have e : m - ts.length = 0 := by
        by_cases z : m - ts.length = 0
        · exact z
        · rw [List.getElem?_eq_none (by simp; omega)] at hy
          cases hy
      rw [e] at hy
      simp at hy
      subst hy
      have em : m = j := by omega
      subst em
      exact tup_keep ht2
  case done =>
    rintro s' ⟨H', ts, I', sm, hk, tl, ht⟩
    rw [Nat.zero_add, hit] at tl
    try dsimp only
    obtain ⟨_, its, kn, kv, kl, kget⟩ := I'.lstM hk
    refine wpAny_bind (listItems_at kget rfl ?_)
    have F' : FpOk X pins H' a := ⟨(I'.pin (a, seqObj "list" #[] e1) (List.mem_append_right _ (List.mem_append_right _ (List.mem_singleton.mpr rfl)))).2.1, F.2⟩
    refine sort_end I' F' rfl hk tl ht (refs_of kv) hit hitem hn fun ns s2 p1 p2 I2 => done ns _ s2 p1 p2 (Same.mut sm hkS) I2
end
end Wr
namespace Wr
open PySem PySem.Spec PyProof.Rows L2 LamX Srt SrtO
section
variable {X : Cx} {pins : List (Addr × Obj)} {σ : L2.St} {H : Hp} {s : Shared}
theorem sorted_key {r f : Addr} {n : Nat} {key : Nat → Int × Int} {t1 t2 t3 : Tok} {Q : VK} (I : Inv X pins σ H s) (hd : X.A.handled = none) (hr : IsRange s.heap r 0 (n : Int) 1 t1 t2 t3) (hn : n ≤ 1000)
    (turn : ∀ (j : Nat) (u : Value) (pins' : List (Addr × Obj)) (H' : Hp) (s' : Shared), j < n → RelV (.int (j : Int)) u → (∀ p ∈ pins, p ∈ pins') → Same H H' → Inv X pins' σ H' s' →
      wpAny (model X.prog X.w) X.A.in1.in1 (call (.ref f) [u]) (EP X pins' σ fun v H2 => ∃ t, v = .ref t ∧ Same H' H2 ∧ H2 t = some (.tup [.int (key j).1, .int (key j).2])) (fun _ _ => False) s')
    (done : ∀ (ns : List Int) (H' : Hp) (p : Addr), ns.Perm ((List.range n).map fun j : Nat => (j : Int)) → ns.Pairwise (keyLe key) → Same H H' → H p = none → H' p = some (.lst (ns.map V.int)) → Q (.ref p) H') :
    wpAny (model X.prog X.w) X.A (call (.builtin "sorted") [.ref r] [(Str.ofString "key", .ref f)]) (EP X pins σ Q) X.xe s := by
  refine call_function_entry_kw kind_sorted plain_sorted entry_sorted (ksk_s1 _ _) ?_
  unfold Builtin.«sorted»
  refine wpAny_bind (m := checkCount "sorted" 1 1 _) (wpAny_pure ?_)
  refine wpAny_bind (collect_range (A := X.A.in1) (n := n) hd hr (small_one (by decide) (by decide) (by omega) (by omega)) (by rw [rangeSize_one]; split <;> omega) (Nat.le_trans hn (by decide)) fun h1 tk acc hk hacc => ?_)
  have I1 : Inv X pins σ H { s with heap := h1, toks := tk } := I.kept hk
  have al : acc.toList.length = n := by rw [Array.length_toList]; exact hacc.1
  refine wpAny_bind (wpAny_newList ?_ (by rw [al]; exact szle hn))
  have fr := I1.fpOk (b := h1.objs.size) (Nat.le_refl _) (I1.hok.fresh (Nat.le_refl _))
  have ga : (h1.push (seqObj "list" acc.toList.toArray 0)).get? h1.objs.size = some (seqObj "list" acc.toList.toArray 0) := Heap.get?_push_size _ rfl
  have I2 : Inv X pins σ H { s with heap := h1.push (seqObj "list" acc.toList.toArray 0), toks := tk } := I1.kept fun b o e => Heap.get?_push_of_some _ e
  refine wpAny_bind (wpAny_holding (wpAny_call_entry_kw slot_list_sort ⟨_, ga, rfl⟩ entry_list_sort ?_ (ksk_l1 _ _)))
  rw [ksk_t1]
  unfold ksk_tree
  refine wpAny_bind (listItems_at ga rfl ?_)
  refine wpAny_bind (listUpdate_at ga rfl ?_ (by rw [List.size_toArray, al]; exact szle hn) (Nat.zero_le _))
  have ga3 := get?_update_seq ga fun _ => (#[] : Array Value)
  obtain ⟨e1, ee⟩ : ∃ e1, e1 = (if (#[] : Array Value).size == acc.toList.toArray.size then 0 else 0 + 1) := ⟨_, rfl⟩
  rw [← ee] at ga3
  have I3 : Inv X pins σ H { s with heap := (h1.push (seqObj "list" acc.toList.toArray 0)).update h1.objs.size (Obj.mapSeq fun _ => (#[] : Array Value)), toks := tk } :=
    I2.turned (t' := tk) (fun b o hb e => (Heap.get?_update_other _ _ (Ne.symm hb)).trans e) fr.1 fr.2.1 fr.2.2.2.1 fr.2.2.2.2.1 fr.2.2.2.2.2
  refine wpAny_bind (seqEpoch_at ga3 rfl ?_)
  refine wpAny_bind (wpAny_newTuple ?_ (by show acc.toList.length ≤ _; rw [al]; exact szle hn))
  have I4 : Inv X pins σ H { s with heap := ((h1.push (seqObj "list" acc.toList.toArray 0)).update h1.objs.size (Obj.mapSeq fun _ => (#[] : Array Value))).push (seqObj "tuple" acc.toList.toArray 0), toks := tk } := I3.kept fun b o e => Heap.get?_push_of_some _ e
  have ga4 : (((h1.push (seqObj "list" acc.toList.toArray 0)).update h1.objs.size (Obj.mapSeq fun _ => (#[] : Array Value))).push (seqObj "tuple" acc.toList.toArray 0)).get? h1.objs.size = some (seqObj "list" #[] e1) := Heap.get?_push_of_some _ ga3
  refine wpAny_bind (wpAny_newList ?_ (Nat.zero_le _))
  refine wpAny_holding ?_
  obtain ⟨h4, e4⟩ : ∃ h4, h4 = ((h1.push (seqObj "list" acc.toList.toArray 0)).update h1.objs.size (Obj.mapSeq fun _ => (#[] : Array Value))).push (seqObj "tuple" acc.toList.toArray 0) := ⟨_, rfl⟩
  show wpAny _ _ (ksk_rest h1.objs.size (.ref f) false acc.toList.toArray e1 (.ref (((h1.push (seqObj "list" acc.toList.toArray 0)).update h1.objs.size (Obj.mapSeq fun _ => (#[] : Array Value))).push (seqObj "tuple" acc.toList.toArray 0)).objs.size)) _ _ { s with heap := (((h1.push (seqObj "list" acc.toList.toArray 0)).update h1.objs.size (Obj.mapSeq fun _ => (#[] : Array Value))).push (seqObj "tuple" acc.toList.toArray 0)).push (seqObj "list" #[] 0), toks := tk }
  rw [← e4] at I4 ga4 ⊢
  have hkS : H h4.objs.size = none := I4.hok.fresh (Nat.le_refl _)
  have lt4 : h1.objs.size < h4.objs.size := Heap.lt_size ga4
  have pinned : Inv X (pins ++ [(h1.objs.size, seqObj "list" #[] e1)]) σ H { s with heap := h4, toks := tk } := I4.pins_of fun p hp => by
    rcases List.mem_append.mp hp with hp | hp
    · exact I4.pin p (List.mem_append_right _ hp)
    · rw [List.mem_singleton.mp hp]
      exact ⟨ga4, fr.1, fr.2.1, fr.2.2.1, fun v z => by cases z⟩
  have I5 := pinned.lnew (t' := tk) (ys := []) (its := []) .nil (Nat.zero_le _)
  refine wpAny_mono (sort_rest (n := n) (key := key) I5 fr hkS (Nat.ne_of_gt lt4) al (fun j v e => ?_) hn turn fun ns H' s' p1 p2 sm IE => ?_) (fun _ _ z => z) fun _ _ z => z.elim
  · rw [Array.getElem?_toList] at e
    obtain ⟨tj, ej⟩ := hacc.2 j v e
    exact ⟨tj, by rw [ej]; congr 1; omega⟩
  · refine ⟨.none, rfl, wpAny_pure ⟨_, rfl, ?_⟩⟩
    exact ⟨.ref h1.objs.size, _, IE, rfl, done ns _ _ p1 p2 (Same.mut sm fr.1) fr.1 upd_same⟩
end
end Wr
namespace Wr
open PySem PySem.Spec PyProof.Rows L2 LamX
/-- sorted(range(e), key=lambda x: body): body makes pairs of numbers -/
def tSortLam (T : List (Addr × Str)) (i : Nat) (te tb : TE) : TE := fun σ H Q => te σ H fun x H1 => ∃ (n : Nat) (key : Nat → Int × Int), x = .int n ∧ n ≤ 1000 ∧ Tabs T H1 ∧ ∀ H2, ExtN H1 H2 → Tabs T H2 →
  (∀ j H3, j < n → Same H2 H3 → tb (σ.set i (some (.int (j : Int)))) H3 fun v H4 => ∃ t, v = .ref t ∧ Same H3 H4 ∧ H4 t = some (.tup [.int (key j).1, .int (key j).2])) ∧
  ∀ (ns : List Int) (H' : Hp) (p : Addr), ns.Perm ((List.range n).map fun j : Nat => (j : Int)) → ns.Pairwise (keyLe key) → Same H2 H' → H2 p = none → H' p = some (.lst (ns.map V.int)) → Q (.ref p) H'
theorem pe_sortLam {X : Cx} {T : List (Addr × Str)} {c P : Addr} {e : Expr} {te tb : TE} {x : Str} {i k : Nat} {params : Arguments} {body : Expr} {scope : Scope} {p p2 pos pos2 lpos kpos : Pos} (hg : Gl X "sorted") (hm : X.mg "sorted" = none) (hgR : Gl X "range") (hmR : X.mg "range" = none) (ha : PE X e te)
    (TB : TabB X.base X.mg c P) (hcode : X.env.code = .ref c) (hmT : (P, X.env.qual ++ "<lambda>") ∈ T) (hu : ∀ p ∈ T, p.1 = P → p.2 = X.env.qual ++ "<lambda>") (hr : Room (k + 3) X.A) (L : Lam1 X.env.scope scope x) (nd : X.N.Nodup) (hi : X.N[i]? = some x)
    (hs : X.stack = X.env :: X.outer) (hfr : X.env.frame = some X.env.locals) (hdef : defaultsOf params X.env = ([], []))
    (hbind : ∀ (q : Str) (cl : List (Str × Addr)) (pm cv ctv z : Value), bindArgs (PySem.W.kla_fn "<lambda>" q params body scope cl pm cv ctv) ⟨[z], []⟩ = pure [(x, z)])
    (hbody : ∀ (A : Around) (s' : Shared) (H' : Hp) (f c' : Addr), Room k (A.deeper (lamEnv X scope s'.heap.objs.size f c')) → PE (cxLam X A s' H' scope f c') body tb)
    (na : starEach [e] X.env = (false, eval e X.env) :: starEach [] X.env := by rfl) (nb : starEach [.Call (.Name "range" p2) [e] [] pos2] X.env = (false, eval (.Call (.Name "range" p2) [e] [] pos2) X.env) :: starEach [] X.env := by rfl)
    (nc : backTo pos (starEach [.Call (.Name "range" p2) [e] [] pos2] X.env) = (false, eval (.Call (.Name "range" p2) [e] [] pos2) X.env) :: backTo pos (starEach [] X.env) := by rfl)
    (hpl : (backTo pos (starEach [.Call (.Name "range" p2) [e] [] pos2] X.env)).any (·.1) = false := by rfl)
    (hall : (backToKw pos (keywordEach [⟨some "key", .Lambda params body scope lpos, kpos⟩] X.env)).all (·.1.isSome) = true := by rfl) (hnone : (backToKw pos (keywordEach [⟨some "key", .Lambda params body scope lpos, kpos⟩] X.env)).any (·.1.isNone) = false := by rfl)
    (hks : (backToKw pos (keywordEach [⟨some "key", .Lambda params body scope lpos, kpos⟩] X.env)).filterMap (·.1) = [("key" : Str)] := by rfl) :
    PE X (.Call (.Name "sorted" p) [.Call (.Name "range" p2) [e] [] pos2] [⟨some "key", .Lambda params body scope lpos, kpos⟩] pos) (tSortLam T i te tb) := by
  refine ⟨fun pins s σ H Q I h => ?_⟩
  refine wpAny_Call_Name_kw (ld_blt I hg hm (show bootBuiltins ("sorted" : Str) = some (.builtin "sorted") by decide +kernel) ?_ (by decide) (by decide))
  refine PyProof.Rows.callWith_kw ?_ nc hpl hall hnone
  refine args_cons (Q := fun vs s1 => wpAny (model X.prog X.w) X.A (evalAll ((backToKw pos (keywordEach [⟨some "key", .Lambda params body scope lpos, kpos⟩] X.env)).map (·.2))) (fun kvs s₂ => wpAny (model X.prog X.w) X.A (call (.builtin "sorted") vs (((backToKw pos (keywordEach [⟨some "key", .Lambda params body scope lpos, kpos⟩] X.env)).filterMap (·.1)).zip kvs)) (EP X pins σ Q) X.xe s₂) X.xe s1) ?_ nb
  refine Call_ (ld_blt I hgR hmR boot_range (PyProof.Rows.callWith_type1 (one_arg ha I h (fun v s2 y H2 I2 r q => ?_) na) na))
  obtain ⟨n, key, rfl, hn, hT, q⟩ := q
  obtain ⟨t, rfl⟩ := r
  refine call_range_1 (args_nil ?_)
  have fr := I2.fpOk (b := s2.heap.objs.size) (Nat.le_refl _) (I2.hok.fresh (Nat.le_refl _))
  have nofr : ∀ b : Addr, b ∉ frs X.stack → b ≠ X.env.locals ∧ b ∉ X.fs := fun b hb => by
    have e : frs X.stack = X.env.locals :: X.fs := by
      rw [hs]
      unfold frs
      rw [List.filterMap_cons, hfr]
      rfl
    rw [e] at hb
    exact ⟨fun z => hb (by rw [z]; exact List.mem_cons_self), fun z => hb (List.mem_cons_of_mem _ z)⟩
  obtain ⟨ro, ero⟩ : ∃ ro : Obj, ro = { cls := .type "range", data := .fields #[.int 0 s2.toks, .int (n : Int) t, .int 1 (s2.toks + 1)] } := ⟨_, rfl⟩
  have gr : (s2.heap.push { cls := .type "range", data := .fields #[.int 0 s2.toks, .int (n : Int) t, .int 1 (s2.toks + 1)] }).get? s2.heap.objs.size = some ro := by rw [ero]; exact Heap.get?_push_size _ rfl
  have I3 : Inv X (pins ++ [(s2.heap.objs.size, ro)]) σ H2 { s2 with heap := s2.heap.push { cls := .type "range", data := .fields #[.int 0 s2.toks, .int (n : Int) t, .int 1 (s2.toks + 1)] }, toks := s2.toks + 1 + 1 } :=
    (I2.kept (t' := s2.toks + 1 + 1) fun b o e => Heap.get?_push_of_some _ e).pins_of fun pp hp => by
      rcases List.mem_append.mp hp with hp | hp
      · have z := I2.pin pp (List.mem_append_right _ hp)
        exact ⟨Heap.get?_push_of_some _ z.1, z.2⟩
      · rw [List.mem_singleton.mp hp]
        exact ⟨gr, fr.1, fr.2.1, fr.2.2.1, fun v z => by rw [ero] at z; cases z⟩
  show wpAny _ _ (evalAll ((do let v ← eval (.Lambda params body scope lpos) X.env; standAt pos; pure v) :: [])) _ _ _
  refine wpAny_evalAll_cons (wpAny_bind (lam_make2 I3 TB hcode hmT hu hT hdef (fun y hy e => L.has I.ok y hy e) fun f c' pm ctv H4 s4 I4 eN T4 hf hfn hff hco => wpAny_bind (wpAny_standAt (wpAny_pure ?_))))
  refine wpAny_evalAll_nil ?_
  rw [hks]
  show wpAny _ _ (call (.builtin "sorted") [.ref s2.heap.objs.size] [(Str.ofString "key", .ref f)]) _ _ _
  obtain ⟨q1, q2⟩ := q H4 eN T4
  have nf := nofr f hff
  obtain ⟨fo, efo⟩ : ∃ fo, fo = PySem.W.kla_obj "<lambda>" (X.env.qual ++ "<lambda>") params body scope (cloFrom X.env.cells scope.names []) pm c' ctv := ⟨_, rfl⟩
  rw [← efo] at hf
  have I5 : Inv X (pins ++ [(s2.heap.objs.size, ro)] ++ [(f, fo)]) σ H4 s4 := I4.pins_of fun pp hp => by
    rcases List.mem_append.mp hp with hp | hp
    · exact I4.pin pp (List.mem_append_right _ hp)
    · rw [List.mem_singleton.mp hp]
      exact ⟨hf, hfn, nf.1, nf.2, fun v z => by rw [efo] at z; cases z⟩
  have pinR := I5.pin (s2.heap.objs.size, ro) (by simp)
  refine wpAny_mono (sorted_key (key := key) (Q := Q) I5 hr.hd (by rw [ero] at pinR; exact pinR.1) hn (fun j u pins' H' s' hj ru sub sm I' => ?_) q2) (fun u s' hq => ?_) fun _ _ z => z
  · have pf := I'.pin (f, fo) (List.mem_append_right _ (sub _ (by simp)))
    refine lam1_call I' L nd hi (I'.env0.in1.in1) (by rw [← efo]; exact pf.1) (sm _ _ hco) (hbind _ _ _ _ _) (k := k) (Room.in1 (Room.in1 hr)) (fun s' H' r => hbody _ s' H' f c' r) ru (q1 j H' hj sm)
  · obtain ⟨v, H', I', rv, z⟩ := hq
    exact ⟨v, H', I'.unpinned.unpinned, rv, z⟩
end Wr
namespace Wr
open PySem PySem.Spec PyProof.Rows L2 LamX
/-- a def whose code object is known: one that makes a lambda -/
structure FunC (K : PySem.W.Frag) (x qual : Str) (st : Stmt) (f : Addr) (fd : FuncData) (c : Addr) : Prop where
  ex : ∃ (oc : Value) (od : Option Addr) (kV doc pm : Value) (an : Option Addr) (ct : Value) (osl : Array (Option Value)),
    fd = PySem.W.fnOf x qual (defArgs st) (defBody st) (defScope st) .none kV doc pm an (.ref c) ct ∧ K.lookup f = some ⟨oc, od, .func fd, osl⟩ ∧ PySem.W.codeIn K (.ref c) qual = true
  kp : PySem.W.keepIn K (.ref f) = true
section
variable {P : Program} {w : World} {K : PySem.W.Frag} {mg : Str → Option Value} {base : Heap}
theorem FunC.fn {x qual : Str} {st : Stmt} {f c : Addr} {fd : FuncData} (F : FunC K x qual st f fd c) : Fun K x qual st f fd :=
  let ⟨oc, od, kV, doc, pm, an, ct, osl, h⟩ := F.ex
  ⟨⟨oc, od, kV, doc, pm, an, .ref c, ct, osl, h⟩, F.kp⟩
theorem FunC.ok {x qual : Str} {st : Stmt} {f c : Addr} {fd : FuncData} {N ps : List Str} {k : Nat} {sp : Sp} (F : FunC K x qual st f fd c) (S : FnScope N ps (defScope st)) (len : ∀ vs H Q E, sp vs H Q E → vs.length = ps.length)
    (told : ∀ (Ar : Around) (fs : List Env) (s : Shared) (H : Hp) (us : List V) (Q : VK) (E : XK), Room k (Ar.deeper (envOfC qual (defScope st) s.heap.objs.size f (.ref c))) → sp us H Q E →
      ∃ t, PSs (cxOf CX0 P w K mg base N qual (defScope st) f (.ref c) Ar fs s H E).nox (defBody st) t ∧ t { nx := fun _ H' => Q .non H', rt := Q } (L2.start N us) H) : FnOk P w K mg base CX0 (k + 1) f fd ps sp := by
  obtain ⟨oc, od, kV, doc, pm, an, ct, osl, rfl, lk0, hc0⟩ := F.ex
  refine fn_of lk0 hc0 S len fun Ar fs s H us Q E rm say => ?_
  obtain ⟨t, h, q⟩ := told Ar fs s H us Q E rm say
  exact ⟨t, h.nox, q⟩
end
/-- all but the tables stays -/
theorem ExtN.keep {H H' : Hp} (e : ExtN H H') {b : Addr} {o : HO} (h : H b = some o) (n : ∀ ps, o ≠ .tbl ps := by intro _ z; cases z) : H' b = some o := e b o h n
theorem ExtN.same {H H' : Hp} (e : Same H H') : ExtN H H' := fun b o h _ => e b o h
/-- nothing but a table of code objects may stand there -/
def Fr0 (H : Hp) (l : Addr) : Prop := ∀ o, H l = some o → ∃ ps, o = .tbl ps
theorem Fr0.of {H : Hp} {l : Addr} (h : H l = none) : Fr0 H l := fun o e => by rw [h] at e; cases e
theorem ExtN.fr {H H' : Hp} (e : ExtN H H') {l : Addr} (h : Fr0 H' l) : Fr0 H l := fun o q => by
  by_cases c : ∃ ps, o = .tbl ps
  · exact c
  · exact h o (e l o q fun ps hp => c ⟨ps, hp⟩)
theorem ExtN.mut {H H' : Hp} {p : Addr} {o : HO} (e : ExtN H H') (h : Fr0 H p) : ExtN H (upd H' p o) := fun b u hb n => by
  have hne : b ≠ p := fun z => by
    subst z
    obtain ⟨ps, q⟩ := h u hb
    exact n ps q
  rw [upd_ne hne]
  exact e b u hb n
theorem Tabs.same {T : List (Addr × Str)} {H H' : Hp} (t : Tabs T H) (e : Same H H') : Tabs T H' := t.ext e
theorem codeO_ne_lst {c : Addr} {q : Str} (xs : List V) : HO.lst xs ≠ CodeO c q := fun z => by
  unfold CodeO at z
  cases z
/-- a list changes -/
theorem Tabs.updL {T : List (Addr × Str)} {H : Hp} {l : Addr} {xs ys : List V} (t : Tabs T H) (h : H l = some (.lst xs)) : Tabs T (upd H l (.lst ys)) := fun p hp => by
  obtain ⟨ps, h1, h2, h3⟩ := t p hp
  refine ⟨ps, keepU h1 h (by intro z; cases z), h2, fun pos cv hc => ?_⟩
  obtain ⟨c, e1, e2⟩ := h3 pos cv hc
  exact ⟨c, e1, keepU e2 h (codeO_ne_lst xs).symm⟩
end Wr

namespace Wr
open PySem L2
def top (i : Nat) : Stmt := PySem.Challenge.pw_wellroads_k10_refused.main.body.getD i (.Pass ⟨0, 0, 0, 0⟩)
abbrev S_BadRow_init : Stmt := inClass (top 6) 0
abbrev S_is_whole : Stmt := top 10
abbrev S_within : Stmt := top 11
abbrev S_is_road : Stmt := top 12
abbrev S_Tree_init : Stmt := inClass (top 13) 0
abbrev S_Tree_roads : Stmt := inClass (top 13) 1
abbrev S_Tree_walked : Stmt := inClass (top 13) 2
abbrev S_Tree_village : Stmt := inClass (top 13) 3
abbrev S_far : Stmt := top 14
abbrev S_way : Stmt := top 15
abbrev S_distances : Stmt := top 16
abbrev S_check_people : Stmt := top 17
abbrev S_sides : Stmt := top 18
abbrev S_joined : Stmt := top 19
abbrev S_moved : Stmt := top 20
abbrev S_errand : Stmt := top 22
abbrev S_trip : Stmt := top 23
abbrev S_long : Stmt := top 24
abbrev S_walks : Stmt := top 26
abbrev S_medians : Stmt := top 27
abbrev S_Answer_shows : Stmt := inClass (top 29) 0
abbrev S_Wells_init : Stmt := inClass (top 30) 0
abbrev S_Wells_shows : Stmt := inClass (top 30) 1
abbrev S_check_walk : Stmt := top 31
abbrev S_dug : Stmt := top 32
abbrev S_least_walk : Stmt := top 33
abbrev S_law_cell_at : Stmt := top 35
abbrev S_law_sort : Stmt := top 36
abbrev S_law_tree : Stmt := top 37
abbrev S_law_ask : Stmt := top 38
abbrev S_law_asked : Stmt := top 39
abbrev S_law_all : Stmt := top 40
abbrev S_law_trees : Stmt := top 41
abbrev S_law : Stmt := top 42
end Wr

namespace Wr
open PySem L2
section
variable {P : Program} {w : World} {K : PySem.W.Frag} {mg : Str → Option Value} {base : Heap}

def spWhole (K : PySem.W.Frag) : Sp := fun vs H Q _ => ∃ x, vs = [x] ∧ Plain K H x ∧ Q (.bl (isW x)) H
theorem sc_is_whole : FnScope ["number"] ["number"] (defScope S_is_whole) := ⟨rfl, rfl, rfl, by decide +kernel, rfl, by decide +kernel, by decide +kernel⟩
theorem ok_is_whole {f : Addr} {fd : FuncData} (F : Fun K "is_whole" "is_whole" S_is_whole f fd) (B : Bi mg) : FnOk P w K mg base CX0 1 f fd ["number"] (spWhole K) := by
  refine F.ok sc_is_whole (fun vs H Q E h => ?_) (fun cdv A outer s H vs Q E hr h => ?_)
  · obtain ⟨x, rfl, _⟩ := h
    rfl
  · obtain ⟨x, rfl, ⟨t, ty, k1, k2⟩, k⟩ := h
    refine ⟨_, pss_one (ps_ret (pe_and (pe_callB call_isi (by rfl) B.isinstance (by decide +kernel) (pa_cons (pv 0) (pa_cons (pe_bltn (v := .ty "int") (by rfl) B.int (by decide +kernel) rfl) pa_nil)))
      (pe_one (pe_not (pe_callB call_isi (by rfl) B.isinstance (by decide +kernel) (pa_cons (pv 0) (pa_cons (pe_bltn (v := .ty "bool") (by rfl) B.bool (by decide +kernel) rfl) pa_nil))))))), ?_⟩
    refine ⟨_, rfl, x, _, t, _, isI x, rfl, .ty _, ty, k1, isI x, rfl, ?_⟩
    rw [isW_eq] at k
    cases e : isI x with
    | true =>
      refine iteT ?_
      refine ⟨_, rfl, x, _, t, _, isB x, rfl, .ty _, ty, k2, isB x, rfl, ?_⟩
      rw [e] at k
      exact k
    | false =>
      refine iteF ?_
      rw [e] at k
      exact k
def spWithin (K : PySem.W.Frag) : Sp := fun vs H Q _ => ∃ x lo hi, vs = [x, .int lo, .int hi] ∧ Plain K H x ∧ Q (.bl (withinV x lo hi)) H
theorem sc_within : FnScope ["number", "low", "high"] ["number", "low", "high"] (defScope S_within) := ⟨rfl, rfl, rfl, by decide +kernel, rfl, by decide +kernel, by decide +kernel⟩
theorem ok_within {f : Addr} {fd : FuncData} (F : Fun K "within" "within" S_within f fd) (G1 : Gd P w K mg base 1 "is_whole" ["number"] (spWhole K)) : FnOk P w K mg base CX0 2 f fd ["number", "low", "high"] (spWithin K) := by
  refine F.ok sc_within (fun vs H Q E h => ?_) (fun cdv A outer s H vs Q E hr h => ?_)
  · obtain ⟨x, lo, hi, rfl, _⟩ := h
    rfl
  · obtain ⟨x, lo, hi, rfl, px, k⟩ := h
    refine ⟨_, pss_one (ps_ret (pe_and (pe_g G1 hr rfl (pa_cons (pv 0) pa_nil)) (pe_one (pe_chain op_le op_le (pv 1) (pv 0) (pv 2))))), ?_⟩
    refine ⟨_, rfl, x, rfl, px, isW x, rfl, ?_⟩
    cases x with
    | int i =>
      refine iteT ?_
      refine ⟨_, rfl, _, rfl, _, _, rfl, rfl, _, rfl, ?_⟩
      have k : Q (.bl (decide (lo ≤ i) && decide (i ≤ hi))) H := k
      cases e : decide (lo ≤ i) with
      | true =>
        refine iteT ?_
        refine ⟨_, rfl, _, _, rfl, rfl, ?_⟩
        rw [e] at k
        exact k
      | false =>
        refine iteF ?_
        rw [e] at k
        exact k
    | _ => exact iteF k
end
end Wr

namespace Wr
open PySem PySem.Spec PyProof.Rows L2
/-! ### own exceptions, defs that raise -/
/-- an own exception class without an __init__ of its own -/
structure Xc (K : PySem.W.Frag) (mg : Str → Option Value) (x : Str) (C : Addr) : Prop where
  g : mg x = some (.ref C)
  e : PySem.W.excIn K C [.type "ValueError", .type "Exception", .type "BaseException", .type "object"] "ValueError.__new__" = true
  k : PySem.W.keepIn K (.ref C) = true
  b : PySem.W.subIn K (.ref C) (.type "BaseException") = some true
  t : PySem.W.typeIn K (.ref C) = some (.type "type")
section
variable {P : Program} {w : World} {K : PySem.W.Frag} {mg : Str → Option Value} {base : Heap}
theorem Fun.okN {x qual : Str} {st : Stmt} {f : Addr} {fd : FuncData} {N ps : List Str} {k : Nat} {sp : Sp} (F : Fun K x qual st f fd) (S : FnScope N ps (defScope st)) (len : ∀ ws H Q E, sp ws H Q E → ws.length = ps.length)
    (told : ∀ (cw : Value) (A : Around) (fs : List Env) (s : Shared) (H : Hp) (ws : List V) (Q : VK) (E : XK), Room k (A.deeper (envOfC qual (defScope st) s.heap.objs.size f cw)) → sp ws H Q E →
      ∃ t, PSs (cxOf (L2N.CX P w) P w K mg base N qual (defScope st) f cw A fs s H E) (defBody st) t ∧ t { nx := fun _ H' => Q .non H', rt := Q } (start N ws) H) : FnOk P w K mg base (L2N.CX P w) (k + 1) f fd ps sp := by
  obtain ⟨oc, od, kV, dc0, pm, an, cw, ct, osl, rfl, lk0, hc0⟩ := F.ex
  exact fn_of lk0 hc0 S len fun A fs s H ws Q E rm hs0 => told cw A fs s H ws Q E rm hs0
end
/-- as Gd, Gm, Gc, for what may raise -/
structure GdN (P : Program) (w : World) (K : PySem.W.Frag) (mg : Str → Option Value) (base : Heap) (k : Nat) (x : Str) (ps : List Str) (sp : Sp) : Prop where
  ex : ∃ f fd, mg x = some (.ref f) ∧ PySem.W.keepIn K (.ref f) = true ∧ Binds K fd ps [] ∧ FnOk P w K mg base (L2N.CX P w) k f fd ps sp
structure GmN (P : Program) (w : World) (K : PySem.W.Frag) (mg : Str → Option Value) (base : Heap) (C : Addr) (k : Nat) (x : Str) (ps : List Str) (sp : Sp) : Prop where
  ex : ∃ f fd, Meth K C x f ∧ Binds K fd ps [] ∧ FnOk P w K mg base (L2N.CX P w) k f fd ps sp
structure GcN (P : Program) (w : World) (K : PySem.W.Frag) (mg : Str → Option Value) (base : Heap) (C : Addr) (k : Nat) (x : Str) (ps : List Str) (sp : Sp) : Prop where
  ex : ∃ f fd, mg x = some (.ref C) ∧ Mk K C f ∧ Binds K fd ps [] ∧ FnOk P w K mg base (L2N.CX P w) k f fd ps sp
def tMethS (C : Addr) (m : Str) (sp : Sp) (E : L2.St → XK) (ta : TE) (t : TA) : TE := fun σ H Q => ta σ H fun x H1 => ∃ a dx fs, x = .ref a ∧ H1 a = some (.ins C dx fs) ∧ fs.lookup m = none ∧ t σ H1 fun vs H2 => sp (x :: vs) H2 Q (E σ)
def tMakeS (C : Addr) (sp : Sp) (E : L2.St → XK) (t : TA) : TE := fun σ H Q => t σ H fun vs H1 => ∀ x dx, H1 x = none → H1 dx = none → dx ≠ x →
  sp (.ref x :: vs) (upd (upd H1 dx (.own x)) x (.ins C dx [])) (fun v H2 => v = .non ∧ Q (.ref x) H2) (E σ)
section
variable {X : Cx} {C : Addr} {k j : Nat} {x m : Str} {ps : List Str} {sp : Sp} {p pos apos : Pos} {o e : Expr} {es : List Expr} {ta : TE} {t : TA} {E : XK} {W : WX}
theorem pe_gN (G : GdN X.prog X.w X.K X.mg X.base k x ps sp) (hr : Room j X.A) (hg : Gl X x) (tk : L2N.Takes X W) (ha : PA X (e :: es) t) (hk : k ≤ j := by decide)
    (w1 : (x == ("__debug__" : Str)) = false := by decide) (w2 : starEach (e :: es) X.env = (false, eval e X.env) :: starEach es X.env := by rfl)
    (w3 : (backTo pos (starEach es X.env)).any (fun z => z.1) = false := by rfl) :
    PE X (.Call (.Name x p) (e :: es) [] pos) (tCallS sp (WE W) t) := by
  obtain ⟨f, fd, hm, kp, hb, F⟩ := G.ex
  exact pe_callS F (hr.mono hk) hg hm kp hb (fun σ => L2N.passAt tk σ) ha w1 w2 w3
theorem pe_gmN {pl : Sem Bool} (he : PE X o ta) (c : Cls X.K C) (G : GmN X.prog X.w X.K X.mg X.base C k m ps sp) (hr : Room j X.A) (tk : L2N.Takes X W) (ha : PA X (e :: es) t) (hk : k ≤ j := by decide)
    (w1 : starEach (e :: es) X.env = (false, eval e X.env) :: starEach es X.env := by rfl) (w2 : (backTo pos (starEach es X.env)).any (fun z => z.1) = false := by rfl)
    (ht : eval (.Call (.Attribute o m apos) (e :: es) [] pos) X.env = (do let ov ← eval o X.env; standAt apos.atName; let z ← holding [ov] (getMethod ov m pl); callWith pos z.1 z.2 (backTo pos (starEach (e :: es) X.env)) (backToKw pos (keywordEach [] X.env))) := by rfl) :
    PE X (.Call (.Attribute o m apos) (e :: es) [] pos) (tMethS C m sp (WE W) ta t) := by
  obtain ⟨f, fd, hm, hb, F⟩ := G.ex
  refine ⟨fun pins s σ H Q I h => ?_⟩
  refine PySem.W.methodCall_KW (pl := pl) (thn (he.run pins s σ H _ I h) fun u s1 ⟨x, H1, I1, rx, a, dx, fs, ex, ea, l, q⟩ => ?_) ht
  subst ex
  obtain rfl : u = Value.ref a := rx
  refine getmeth_ok I1 ea c hm l ?_
  refine PySem.W.callWith_K (first := [.ref a]) (h₀ := X.base) I.ok.mod.kin hm.kp (thn (ha.run pos pins s1 σ H1 _ I1 q) fun us s2 ⟨vs, H2, I2, r, q2⟩ => ⟨I2.kIn, ?_⟩) w1 w2
  exact run_fnS (E := WE W) (us := .ref a :: us) (vs := .ref a :: vs) F (hr.mono hk) hb (L2N.passAt tk σ) I2 (.cons rfl r) q2
theorem run_makeS {CX : CXT} {f : Addr} {fd : FuncData} {F' : L2.St → XK} {pins : List (Addr × Obj)} {σ : L2.St} {H : Hp} {s : Shared} {Q : VK} {args : List Value} {vs : List V} (M : Mk X.K C f) (F : FnOk X.prog X.w X.K X.mg X.base CX k f fd ps sp) (rm : Room (k + 1) X.A) (hb : Binds X.K fd ps [])
    (hx : PassesAt CX X σ (F' σ)) (J : Inv X pins σ H s) (r : Vals vs args)
    (h : ∀ x dx, H x = none → H dx = none → dx ≠ x → sp (.ref x :: vs) (upd (upd H dx (.own x)) x (.ins C dx [])) (fun v H2 => v = .non ∧ Q (.ref x) H2) (F' σ)) :
    wpAny (model X.prog X.w) X.A (call (.ref C) args) (EP X pins σ Q) X.xe s := by
  have say := h (s.heap.objs.size + 1) s.heap.objs.size (J.hok.fresh (Nat.le_succ _)) (J.hok.fresh (Nat.le_refl _)) (Nat.ne_of_lt (Nat.lt_succ_self _))
  have J2 := Inv.made (C := C) J
  have rel2 : Vals (V.ref (s.heap.objs.size + 1) :: vs) (Value.ref (s.heap.objs.size + 1) :: args) := .cons rfl r
  have len2 : (Value.ref (s.heap.objs.size + 1) :: args ++ []).length = ps.length := by
    have e := rel2.length
    rw [F.len _ _ _ _ say] at e
    rw [List.append_nil]
    exact e.symm
  have hb2 := hb _ (Value.ref (s.heap.objs.size + 1) :: args) J2.kIn len2
  rw [List.append_nil] at hb2
  refine wpAny_call (make_map (f := f) J.kIn M.makes M.init (beq_iff_eq.mp M.fn) (codeAny_mono (F.run _ X.stack _ _ ⟨Value.ref (s.heap.objs.size + 1) :: args, []⟩ (Value.ref (s.heap.objs.size + 1) :: args) _ _ (F' σ) (rm.make C args [])
    (J2.env0.make C args []) hb2 rel2 say) fun r s' say' => ?_))
  cases r with
  | error e => exact hx pins _ _ e s' J2 say'
  | ok fl =>
    cases fl with
    | ret u =>
      obtain ⟨v, H', J3, rv3, ev, say3⟩ := J2.after say'
      subst ev
      exact ⟨rv3, ⟨V.ref (s.heap.objs.size + 1), H', J3, rfl, say3⟩⟩
    | next => exact False.elim say'
    | brk => exact False.elim say'
    | cont => exact False.elim say'
theorem pe_gcN (G : GcN X.prog X.w X.K X.mg X.base C k x ps sp) (hr : Room j X.A) (hg : Gl X x) (tk : L2N.Takes X W) (ha : PA X (e :: es) t) (hk : k + 1 ≤ j := by decide)
    (w1 : (x == ("__debug__" : Str)) = false := by decide) (w2 : starEach (e :: es) X.env = (false, eval e X.env) :: starEach es X.env := by rfl)
    (w3 : (backTo pos (starEach es X.env)).any (fun z => z.1) = false := by rfl) :
    PE X (.Call (.Name x p) (e :: es) [] pos) (tMakeS C sp (WE W) t) := by
  obtain ⟨f, fd, hm, M, hb, F⟩ := G.ex
  refine ⟨fun pins s σ H Q I h => ?_⟩
  refine wpAny_Call_Name_kw (ld_glob I hg hm ?_ w1)
  refine PySem.W.callWith_K (h₀ := X.base) I.ok.mod.kin M.kp (thn (ha.run pos pins s σ H _ I h) fun us s1 ⟨vs, H1, I1, r, q⟩ => ⟨I1.kIn, ?_⟩) w2 w3
  exact run_makeS (F' := WE W) M F (hr.mono hk) hb (L2N.passAt tk σ) I1 r q
theorem GdN.of {P : Program} {w : World} {K : PySem.W.Frag} {mg : Str → Option Value} {base : Heap} {k : Nat} {f : Addr} {fd : FuncData} {x : Str} {ps : List Str} {sp : Sp} (hm : mg x = some (.ref f)) (kp : PySem.W.keepIn K (.ref f) = true) (hb : Binds K fd ps []) (F : FnOk P w K mg base (L2N.CX P w) k f fd ps sp) : GdN P w K mg base k x ps sp := ⟨f, fd, hm, kp, hb, F⟩
end

/-! ### any(xs) while an exception is handled -/
section
variable {prog : Program} {w : World} {A : Around} {E : Value → Shared → Prop} {s : Shared}
theorem pyNext_list_end_hot {itr src x1 : Addr} {i : Nat} {items : Array Value} {Q : Option Value → Shared → Prop} (hot : HotX.HotAt A x1 s.heap) (hitr : s.heap.IsListIter itr src i) (hl : s.heap.IsList src items) (hx : items[i]? = none) (hne : x1 ≠ itr)
    (fin : ∀ h', Heap.ExtBut itr s.heap h' → Q none { s with heap := h' }) : wpAny (model prog w) A (pyNext (.ref itr)) Q E s := by
  obtain ⟨hd0, o1, vs1, g1, f1, e1⟩ := hot
  obtain ⟨o, go0, cl0, da0⟩ := id hitr
  obtain ⟨ol, gl0, _, ln0, dl0⟩ := hl
  unfold pyNext
  refine wpAny_bind (wpAny_attempt (wpAny_callSpecial?_slot (name := Str.ofString "__next__") hitr.typeIs slot_listiter_next
    ((wpAny_call_entry slot_listiter_next hitr.typeIs entry_listiter_next ?_ (args_listiter_next _)))))
  show wpAny _ _ (field (.ref itr) 0 >>= _) _ _ s
  refine wpAny_bind (wpAny_field go0 da0 (x := .ref src) rfl ?_)
  show wpAny _ _ (if (Value.ref src == Value.none) = true then _ else _) _ _ s
  rw [if_neg (show ¬ ((Value.ref src == Value.none) = true) from Bool.false_ne_true)]
  show wpAny _ _ (field (.ref itr) 1 >>= _) _ _ s
  refine wpAny_bind (wpAny_field go0 da0 (x := .int i 0) rfl ?_)
  show wpAny _ _ (seqItems? (.ref src) >>= _) _ _ s
  refine wpAny_bind (wpAny_seqItems gl0 dl0 ?_)
  simp only [hx, Int.toNat_natCast]
  refine wpAny_bind (wpAny_rule (wpAny_bind (wpAny_setField go0 da0 (by simp) ?_)))
  show wpAny _ _ (newExc (.type "StopIteration") ([] : List Value) >>= _) _ _ _
  refine wpAny_bind ?_
  simp only [newExc, newTuple]
  refine wpAny_bind (wpAny_newObj_type ?nx1 (by size_fits))
  refine wpAny_bind (m := firstArgMember _ _) (wpAny_of_eq (a := Value.none) (by first | rfl | (simp only [firstArgMember]; rfl)) ?nx2)
  refine wpAny_newObj_type ?nx3 (by size_fits)
  have h1' := (Heap.get?_update_other s.heap (Obj.mapFields (·.setIfInBounds 0 .none)) (Ne.symm hne)).trans g1
  refine HotX.raiseNew_hot ⟨hd0, o1, vs1, Heap.get?_push_of_some _ (Heap.get?_push_of_some _ h1'), f1, e1⟩ (Nat.ne_of_lt (Heap.lt_size (Heap.get?_push_of_some _ h1'))) (Heap.get?_push_size _ rfl) rfl (by first | (simp; done) | (simp; omega) | (simp only [Array.size_append]; simp; omega)) ?_
  refine wpAny_bind (wpAny_isInstance (T := "StopIteration") (b := true) ⟨_, Heap.get?_update_self _ (Heap.get?_push_size _ rfl) rfl, rfl⟩ isSubtype_stop ?nx4)
  refine wpAny_pure (fin _ fun b u hb e => ?_)
  have e' := (Heap.get?_update_other s.heap (Obj.mapFields (·.setIfInBounds 0 .none)) (Ne.symm hb)).trans e
  rw [Heap.get?_update_other _ _ (Nat.ne_of_gt (Heap.lt_size (Heap.get?_push_of_some _ e')))]
  exact Heap.get?_push_of_some _ (Heap.get?_push_of_some _ e')
theorem Walks.listH {x1 I ax : Addr} (hne : ax ≠ I) (hx : x1 ≠ I) (items : Array Value) (fp : List Addr) (hfp : I ∈ fp ∧ ax ∈ fp ∧ x1 ∈ fp) :
    Walks prog w A I fp [I] items.size (fun i v => items[i]? = some v) (fun i h => (h.IsListIter I ax i ∧ h.IsList ax items) ∧ HotX.HotAt A x1 h) where
  sub := fun b hb => by simp at hb; rw [hb]; exact hfp.1
  frame := fun _ _ _ stt hk => ⟨⟨stt.1.1.at fun o e => hk I hfp.1 o e, stt.1.2.at fun o e => hk ax hfp.2.1 o e⟩, let ⟨a, o, vs, e, r⟩ := stt.2; ⟨a, o, vs, hk x1 hfp.2.2 o e, r⟩⟩
  item := fun i s Q E hi stt fin => by
    refine wpAny_pyNext_list_item stt.1.1 stt.1.2 (x := items[i]) (by simp [hi]) fun h' hitr' sb' => ?_
    exact fin _ h' s.toks (by simp [hi]) ⟨⟨hitr', stt.1.2.extBut sb'.extBut hne⟩, let ⟨a, o, vs, e, r⟩ := stt.2; ⟨a, o, vs, sb'.extBut x1 o hx e, r⟩⟩ fun b o hb e => sb'.extBut b o (fun h => hb (by simp [h])) e
  done := fun s Q E stt fin => pyNext_list_end_hot stt.2 stt.1.1 stt.1.2 (by simp) hx fun h' he' => fin h' s.toks fun b o hb e => he' b o (fun h => hb (by simp [h])) e
  self := fun _ _ _ _ stt fin => wpAny_pyIter_listiter stt.1.1 fin
end
theorem hot_in1 {A : Around} {x1 : Addr} {h : Heap} (q : HotX.HotAt A x1 h) : HotX.HotAt A.in1 x1 h := q
theorem cr_anyH {X : Cx} (hc : L2H.HotC X) : CallR X (.builtin "any") (rAny X.K) := by
  intro pins s σ H ws us Q I r asked
  obtain ⟨a, bs, rfl, hs, q⟩ := asked
  obtain ⟨items, rel, pl, _⟩ := I.list hs
  obtain ⟨x1, hot⟩ := hc.at I
  rw [Vals.ref1 r]
  have vals := rel.bls
  refine call_any_walk (iter_any pl.isList fun s₂ e2 st apart => ?_)
  subst e2
  obtain ⟨hh, o1, vs1, h1, r1⟩ := hot
  have hx : x1 ≠ s.heap.objs.size := Nat.ne_of_lt (Heap.lt_size h1)
  refine ⟨_, [s.heap.objs.size, a, x1], _, _, _, _, _, rfl, Walks.listH (A := X.A.in1) (x1 := x1) apart hx items.toArray _ (by simp), ⟨st, hh, o1, vs1, Heap.get?_push_of_some _ h1, r1⟩, truth_bools vals, fun h' tk kept => ?_⟩
  refine ⟨.bl _, H, I.kept fun b o gb => kept b o (fun mem => ?_) (Heap.get?_push_of_some _ gb), ?_, q⟩
  · rcases List.mem_cons.mp mem with eq1 | mem
    · exact absurd (eq1 ▸ Heap.lt_size gb) (Nat.lt_irrefl _)
    · cases mem
  · show (Value.bool _) = (Value.bool _)
    rw [← L2.any_range, vals, List.size_toArray, List.length_map]
theorem hot_suite {X : Cx} {a : Addr} {oe : Obj} {cls : Value} {d : Option Addr} {pn : List (Addr × Obj)} (hz : L2N.Zn cls d oe) (hf : ∃ vs, oe.data = .fields vs) : L2H.HotC (X.suite a ((a, oe) :: pn)) := by
  obtain ⟨vs, hv⟩ := hf
  exact ⟨(a, oe), ⟨rfl, vs, hv, hz.2.2 vs hv⟩, List.mem_cons_self⟩
end Wr
namespace Wr
open PySem L2
theorem takes0N {X : Cx} : L2N.Takes X (fun _ _ _ _ => False) := fun _ _ x => by
  obtain ⟨_, _, _, _, _, _, _, _, _, _, _, _, _, _, _, _, none0⟩ := x
  exact none0.elim
end Wr
namespace Wr
open PySem PySem.Spec PyProof.Rows L2
/-- isinstance(e, c), e the exception that the suite holds, of the own class at D, without a dict -/
def rIsEN (K : PySem.W.Frag) (a : Addr) (cls : Value) (d : Option Addr) : List V → Hp → VK → Prop := fun xs H Q => ∃ (D : Addr) (c : V) (cv : Value) (b : Bool), cls = .ref D ∧ d = none ∧ ExcC K D ∧ xs = [.ref a, c] ∧ (∀ u, RelV c u → u = cv) ∧ PySem.W.kitOne K (.ref D) cv = some b ∧ Q (.bl b) H
theorem call_isEN {X : Cx} {a : Addr} {oe : Obj} {cls : Value} {d : Option Addr} {pn : List (Addr × Obj)} (hz : L2N.Zn cls d oe) (hf : ∃ vs, oe.data = .fields vs) : CallR (X.suite a ((a, oe) :: pn)) (.builtin "isinstance") (rIsEN X.K a cls d) := by
  intro pins s σ H ws us Q I r asked
  obtain ⟨D, c, cv, b, rfl, rfl, EC, h⟩ := asked
  exact call_isE EC hz.zc hf pins s σ H ws us Q I r ⟨c, cv, b, h⟩
end Wr
namespace Wr
open PySem PySem.Spec PyProof.Rows L2
theorem cr_anyHK {X : Cx} (K : PySem.W.Frag) (hc : L2H.HotC X) (h : X.K = K := by rfl) : CallR X (.builtin "any") (rAny K) := h ▸ cr_anyH hc
theorem call_isENK {X : Cx} (K : PySem.W.Frag) {a : Addr} {oe : Obj} {cls : Value} {d : Option Addr} {pn : List (Addr × Obj)} (hz : L2N.Zn cls d oe) (hf : ∃ vs, oe.data = .fields vs) (h : X.K = K := by rfl) : CallR (X.suite a ((a, oe) :: pn)) (.builtin "isinstance") (rIsEN K a cls d) := h ▸ call_isEN hz hf
end Wr
namespace Wr
open PySem PySem.Spec PyProof.Rows L2
section
variable {P : Program} {w : World} {K : PySem.W.Frag} {mg : Str → Option Value} {base : Heap}
theorem gd_mkN {x q : Str} {st : Stmt} {f : Addr} {fd : FuncData} {k : Nat} {ps : List Str} {sp : Sp} (F : Fun K x q st f fd) (hm : mg x = some (.ref f)) (hb : L2.Binds K fd ps []) (ok : FnOk P w K mg base (L2N.CX P w) k f fd ps sp) : GdN P w K mg base k x ps sp := ⟨f, fd, hm, F.kp, hb, ok⟩
theorem gm_mkN {C : Addr} {x : Str} {f : Addr} {fd : FuncData} {k : Nat} {ps : List Str} {sp : Sp} (M : Meth K C x f) (hb : L2.Binds K fd ps []) (ok : FnOk P w K mg base (L2N.CX P w) k f fd ps sp) : GmN P w K mg base C k x ps sp := ⟨f, fd, M, hb, ok⟩
theorem gc_mkN {C : Addr} {x : Str} {f : Addr} {fd : FuncData} {k : Nat} {ps : List Str} {sp : Sp} (hm : mg x = some (.ref C)) (M : Mk K C f) (hb : L2.Binds K fd ps []) (ok : FnOk P w K mg base (L2N.CX P w) k f fd ps sp) : GcN P w K mg base C k x ps sp := ⟨f, fd, hm, M, hb, ok⟩
end
end Wr

namespace Wr
open PySem PySem.Spec PyProof.Rows L2
/-! ### a def to which the exception that is handled is handed -/
structure FnE (P : Program) (w : World) (K : PySem.W.Frag) (mg : Str → Option Value) (base : Heap) (k : Nat) (f : Addr) (fd : FuncData) (ps : List Str) (sp : Addr → Obj → Sp) : Prop where
  len : ∀ a o vs H Q E, sp a o vs H Q E → vs.length = ps.length
  run : ∀ (p : Addr × Obj) (A : Around) (outer : List Env) (s : Shared) (H : Hp) (args : Args) (us : List Value) (vs : List V) (Q : VK) (E : XK), L2H.RoomH k A → L2H.Hot1 A p → L2H.PinOk outer H s p → Env0 P w K mg base A outer s H →
    BindsTo s fd args (ps.zip us) → Vals vs us → sp p.1 p.2 vs H Q E → codeAny (model P w) A (.call (.ref f) args) (CR CX0 outer P w H s Q E) s
section
variable {P : Program} {w : World} {K : PySem.W.Frag} {mg : Str → Option Value} {base : Heap}
theorem Fun.okE {x qual : Str} {st : Stmt} {f : Addr} {fd : FuncData} {N ps : List Str} {k : Nat} {sp : Addr → Obj → Sp} (F : Fun K x qual st f fd) (S : FnScope N ps (defScope st)) (len : ∀ a o vs H Q E, sp a o vs H Q E → vs.length = ps.length)
    (told : ∀ (p : Addr × Obj) (cw : Value) (A : Around) (fs : List Env) (s : Shared) (H : Hp) (vs : List V) (Q : VK) (E : XK), L2H.Hot1 A p → L2H.RoomH k (A.deeper (envOfC qual (defScope st) s.heap.objs.size f cw)) → sp p.1 p.2 vs H Q E →
      ∃ t, PSs (L2H.cxH CX0 P w K mg base N qual (defScope st) f cw A fs s H E p) (defBody st) t ∧ t { nx := fun _ H' => Q .non H', rt := Q } (start N vs) H) : FnE P w K mg base (k + 1) f fd ps sp := by
  obtain ⟨oc, od, kV, dc0, pm, an, cw, ct, osl, rfl, lk0, hc0⟩ := F.ex
  refine ⟨len, fun p A outer s H args us vs Q E room hot pin e0 binds rel told0 => ?_⟩
  have kin : K.In s.heap := e0.mod.kin.keeps fun b o e => (e0.bs b o e).1
  have same_len := len _ _ _ _ _ _ told0
  refine codeAny_call_function room.depth (kin _ _ lk0) rfl S.co S.gen rfl (PySem.W.codeRec_of kin hc0) (binds _ _ _ _ ?_)
  have kinds : ∀ y ∈ ps.zip us, (defScope st).names.lookup y.1 = some .local ∨ ((defScope st).names.lookup y.1 = some .cell ∧ ((cellsFrom (s.heap.objs.size + 1) (defScope st).names []).lookup y.1).isSome = true) := fun y hy =>
    (S.par y.1 (List.of_mem_zip (a := y.1) (b := y.2) hy).1).imp id fun q => ⟨q, PySem.W.cellsFrom_some _ _ _ (.inl q)⟩
  refine wpAny_newFunctionEnv_cells S.kind kinds fun env ee s1 hx => ?_
  subst ee
  refine ⟨(e0.mod.nolimit.keeps fun b o e => (e0.bs b o e).1).keeps hx.toInCall.keep, codeAny_func ?_⟩
  obtain ⟨t, walk, want⟩ := told p cw A outer s H vs Q E hot (room.deeper _) told0
  refine wpAny_mono (walk.run [] s1 _ H _ (L2H.inv_startH S pin e0 same_len rel hx) want) (fun fl s' landed => ?_) fun _ _ z => z
  cases fl with
  | next =>
    obtain ⟨_, H', J, q⟩ := landed
    exact ⟨.non, H', J.os, J.bare, J.base, J.hok, rfl, q⟩
  | ret u =>
    obtain ⟨v, _, H', J, rv, q⟩ := landed
    exact ⟨v, H', J.os, J.bare, J.base, J.hok, rv, q⟩
  | brk => exact landed.elim fun _ z => z.elim fun _ z => z.2.elim
  | cont => exact landed.elim fun _ z => z.elim fun _ z => z.2.elim
structure GdE (P : Program) (w : World) (K : PySem.W.Frag) (mg : Str → Option Value) (base : Heap) (k : Nat) (x : Str) (ps : List Str) (sp : Addr → Obj → Sp) : Prop where
  ex : ∃ f fd, mg x = some (.ref f) ∧ PySem.W.keepIn K (.ref f) = true ∧ Binds K fd ps [] ∧ FnE P w K mg base k f fd ps sp
theorem gd_mkE {x q : Str} {st : Stmt} {f : Addr} {fd : FuncData} {k : Nat} {ps : List Str} {sp : Addr → Obj → Sp} (F : Fun K x q st f fd) (hm : mg x = some (.ref f)) (hb : L2.Binds K fd ps []) (ok : FnE P w K mg base k f fd ps sp) : GdE P w K mg base k x ps sp := ⟨f, fd, hm, F.kp, hb, ok⟩
end
section
variable {X : Cx} {k j : Nat} {x : Str} {ps : List Str} {sp : Addr → Obj → Sp} {q pos : Pos} {e : Expr} {es : List Expr} {t : TA} {p : Addr × Obj}
theorem pe_gER {R : List V → Hp → VK → Prop} (hR : ∀ vs H Q, R vs H Q → sp p.1 p.2 vs H Q fun _ _ _ => False) (G : GdE X.prog X.w X.K X.mg X.base k x ps sp) (hr : L2H.RoomH j X.A) (hot : L2H.Hot1 X.A p) (hp : p ∈ X.pn) (hg : Gl X x) (ha : PA X (e :: es) t) (hk : k ≤ j := by decide) (w1 : (x == ("__debug__" : Str)) = false := by decide)
    (w2 : starEach (e :: es) X.env = (false, eval e X.env) :: starEach es X.env := by rfl) (w3 : (backTo pos (starEach es X.env)).any (fun z => z.1) = false := by rfl) : PE X (.Call (.Name x q) (e :: es) [] pos) (fun σ H Q => t σ H fun vs H1 => R vs H1 Q) := by
  obtain ⟨f, fd, hm, kp, hb, F⟩ := G.ex
  refine ⟨fun pins s σ H Q I h => wpAny_Call_Name_kw (ld_glob I hg hm (PySem.W.callWith_K (h₀ := X.base) I.ok.mod.kin kp (thn (ha.run pos pins s σ H _ I h) fun us s1 ⟨vs, H1, I1, r, asked⟩ => ⟨I1.kIn, ?_⟩) w2 w3) w1)⟩
  replace asked := hR _ _ _ asked
  have hl : us.length = ps.length := r.length.symm.trans (F.len _ _ _ _ _ _ asked)
  have b := hb s1 us I1.kIn (by rw [List.append_nil]; exact hl)
  rw [List.append_nil] at b
  have P1 := I1.pin p (List.mem_append_left _ hp)
  have pin : L2H.PinOk X.stack H1 s1 p := ⟨P1.1, P1.2.1, fun z => (List.mem_cons.mp (I1.stkSub p.1 z)).elim P1.2.2.1 P1.2.2.2.1, P1.2.2.2.2⟩
  refine wpAny_call (codeAny_mono (F.run p X.A X.stack s1 H1 ⟨us, []⟩ us vs Q _ (hr.mono hk) hot pin I1.env0 b r asked) fun fin s' hq => ?_)
  cases fin with
  | error _ => exact False.elim hq
  | ok fl =>
    cases fl with
    | ret _ => exact I1.after hq
    | next => exact hq.elim
    | brk => exact hq.elim
    | cont => exact hq.elim
end
/-- isinstance(a, c), a the exception of the own class at D, without a dict, that the context holds -/
def rIsP (K : PySem.W.Frag) (p : Addr × Obj) : List V → Hp → VK → Prop := fun xs H Q => ∃ (D : Addr) (c : V) (cv : Value) (b : Bool), ExcC K D ∧ Zc (.ref D) none p.2 ∧ (∃ vs, p.2.data = .fields vs) ∧ xs = [.ref p.1, c] ∧ (∀ u, RelV c u → u = cv) ∧ PySem.W.kitOne K (.ref D) cv = some b ∧ Q (.bl b) H
theorem cr_isP {X : Cx} {p : Addr × Obj} (hp : p ∈ X.pn) : CallR X (.builtin "isinstance") (rIsP X.K p) := by
  rintro pins s σ H xs us Q I r ⟨D, c, cv, b, EC, hz, ⟨fs, hf⟩, rfl, hcv, hk, q⟩
  cases r with
  | cons r1 rr =>
    cases rr with
    | cons r2 rr =>
      cases rr
      cases r1
      have ec := hcv _ r2
      subst ec
      have there := (I.pin p (List.mem_append_left _ hp)).1
      have J : PySem.W.InstAt s.heap p.1 p.2 D none := by
        obtain ⟨pa, oc, od, oda, osl⟩ := p
        obtain ⟨h1, h2⟩ := hz
        dsimp only at h1 h2 hf
        subst h1 h2 hf
        exact ⟨there, rfl, rfl, trivial⟩
      exact PySem.W.kia_one (PySem.W.handS_kitx_exc EC.hg EC.hk EC.hs EC.hd EC.ha EC.hn EC.ht EC.hm) I.kIn J hk (fun z => nomatch z) fun tk => ⟨.bl b, H, I.kept (t' := tk) fun _ _ z => z, rfl, q⟩
theorem cr_isPK {X : Cx} (K : PySem.W.Frag) {p : Addr × Obj} (hp : p ∈ X.pn) (h : X.K = K := by rfl) : CallR X (.builtin "isinstance") (rIsP K p) := h ▸ cr_isP hp
end Wr

namespace Wr
open PySem PySem.Spec PyProof.Rows L2
theorem roomH_mk {k : Nat} {A : Around} (r : Room k A) (h : Option Value) : L2H.RoomH k (A.mark h) := ⟨r.dp, r.un⟩
theorem hot1_suite {X : Cx} {a : Addr} {oe : Obj} {cls : Value} {d : Option Addr} {pn : List (Addr × Obj)} (hz : L2N.Zn cls d oe) (hf : ∃ vs, oe.data = .fields vs) : L2H.Hot1 (X.suite a ((a, oe) :: pn)).A (a, oe) := by
  obtain ⟨vs, hv⟩ := hf
  exact ⟨rfl, vs, hv, hz.2.2 vs hv⟩
/-! ### xs.count(b), of truth values -/
theorem dp_bls {K : PySem.W.Frag} {H : Hp} : ∀ bs : List Bool, DpAll K H (bs.map V.bl) (bs.map PyData.bool)
  | [] => .nil
  | b :: r => .cons (.bl b) (dp_bls r)
theorem plain_bls : ∀ bs : List Bool, PyData.plainAll (bs.map PyData.bool) = true
  | [] => rfl
  | b :: r => by
    have := plain_bls r
    simp only [List.map_cons, PyData.plainAll, this]
    rfl
theorem count_bls (b : Bool) : ∀ bs : List Bool, (bs.map PyData.bool).countP (fun y => PyData.eqv y (.bool b)) = bs.count b
  | [] => rfl
  | c :: r => by
    have ih := count_bls b r
    rw [List.map_cons, List.countP_cons, List.count_cons, ih]
    cases c <;> cases b <;> rfl
def rCntB (K : PySem.W.Frag) : V → List V → Hp → VK → Prop := fun x xs H Q => ∃ (p : Addr) (bs : List Bool) (b : Bool), x = .ref p ∧ xs = [.bl b] ∧ SqL K H p (bs.map V.bl) ∧ Q (.int (bs.count b : Nat)) H
theorem mt_countB {X : Cx} (hu : X.A.units + 65 < cLine) : MtR X "list.count" (rCntB X.K) := by
  rintro pins s σ H x xs v us Q I rx rxs ⟨p, bs, b, rfl, rfl, hs, q⟩
  cases rx
  obtain ⟨u, hu1, ru⟩ := rxs.one
  subst hu1
  cases ru
  obtain ⟨its, rv, pl, _⟩ := I.list hs
  obtain ⟨as, rs⟩ := Dp.readsAll I _ _ its (dp_bls bs) rv
  refine PySem.SeqAt.count_list_data (d := .bool b) pl.isList (by simpa using rs) (Reads.bool b) (plain_bls bs) rfl (by simp only [PyData.depth]; omega) ?_
  rw [count_bls]
  exact ⟨.int (bs.count b : Nat), H, I.tok _, ⟨s.toks, rfl⟩, q⟩
end Wr

namespace Wr
open PySem PySem.Spec PyProof.Rows L2
/-- such a call in an except suite: what is known of the exception is its class, its dict -/
def tCallEs (sp : Addr → Obj → Sp) (a : Addr) (cls : Value) (d : Option Addr) (t : TA) : TE := fun σ H Q => t σ H fun vs H1 => ∀ o, Zc cls d o → (∃ fs, o.data = .fields fs) → sp a o vs H1 Q fun _ _ _ => False
theorem pe_gEs {X : Cx} {k j : Nat} {x : Str} {ps : List Str} {sp : Addr → Obj → Sp} {q pos : Pos} {e : Expr} {es : List Expr} {t : TA} {a : Addr} {oe : Obj} {cls : Value} {d : Option Addr} {pn : List (Addr × Obj)} (G : GdE X.prog X.w X.K X.mg X.base k x ps sp) (hr : L2H.RoomH j (X.suite a ((a, oe) :: pn)).A) (hz : L2N.Zn cls d oe) (hf : ∃ vs, oe.data = .fields vs)
    (hg : Gl (X.suite a ((a, oe) :: pn)) x) (ha : PA (X.suite a ((a, oe) :: pn)) (e :: es) t) (hk : k ≤ j := by decide) (w1 : (x == ("__debug__" : Str)) = false := by decide)
    (w2 : starEach (e :: es) X.env = (false, eval e X.env) :: starEach es X.env := by rfl) (w3 : (backTo pos (starEach es X.env)).any (fun z => z.1) = false := by rfl) : PE (X.suite a ((a, oe) :: pn)) (.Call (.Name x q) (e :: es) [] pos) (tCallEs sp a cls d t) := by
  exact pe_gER (X := X.suite a ((a, oe) :: pn)) (q := q) (pos := pos) (p := (a, oe)) (sp := sp) (R := fun vs H1 Q => ∀ o, Zc cls d o → (∃ fs, o.data = .fields fs) → sp a o vs H1 Q fun _ _ _ => False) (fun vs H Q w => w oe hz.zc hf) G hr (hot1_suite hz hf) List.mem_cons_self hg ha hk w1 w2 w3
end Wr

namespace Wr
open PySem PySem.Spec PyProof.Rows L2
/-! ### an exception that a call lets out leaves a list comprehension -/
section
variable {B B' h h' : Heap} {C a x : Addr} {Z : Obj → Prop} {fl : Value}
theorem heap_less (B : Heap) (C : Addr) : ∃ B' : Heap, B'.get? C = none ∧ ∀ b, b ≠ C → B'.get? b = B.get? b := by
  obtain ⟨G, g1, g2⟩ := restrict B fun b => decide (b ≠ C)
  exact ⟨G, g2 C (by simp), fun b hb => g1 b (by simpa using hb)⟩
theorem less_none (h0 : B'.get? C = none) (h1 : ∀ b, b ≠ C → B'.get? b = B.get? b) (hx : B.get? x = none) : B'.get? x = none := by
  by_cases e : x = C
  · rw [e]; exact h0
  · rw [h1 x e]; exact hx
theorem less_some {o : Obj} (h0 : B'.get? C = none) (h1 : ∀ b, b ≠ C → B'.get? b = B.get? b) (hx : B'.get? x = some o) : B.get? x = some o ∧ x ≠ C := by
  have e : x ≠ C := fun e => by rw [e, h0] at hx; cases hx
  exact ⟨by rw [← h1 x e]; exact hx, e⟩
theorem frames_less (h0 : B'.get? C = none) (h1 : ∀ b, b ≠ C → B'.get? b = B.get? b) : ∀ {l : List Env}, h.FunFrames B l → h.FunFrames B' l
  | [], _ => trivial
  | _ :: _, ⟨k, ⟨L, o, f, b, r⟩, q⟩ => ⟨k, ⟨L, o, f, less_none h0 h1 b, r⟩, frames_less h0 h1 q⟩
theorem flying_less {l : List Env} (h0 : B'.get? C = none) (h1 : ∀ b, b ≠ C → B'.get? b = B.get? b) (f : HandSPX.FlyingZ B l a Z h) : HandSPX.FlyingZ B' l a Z h := by
  obtain ⟨k1, k2, k3, oe, vs, T, oT, ts, he, hz, hd, hv, hT, r⟩ := f
  exact ⟨fun b o e => k1 b o (less_some h0 h1 e).1, less_none h0 h1 k2, frames_less h0 h1 k3, oe, vs, T, oT, ts, he, hz, hd, hv, less_none h0 h1 hT, r⟩
theorem rec_ne {m : Str → Option Value} {o : Obj} {vs : Array Value} (hn : h.Ns C m) (ho : h.get? x = some o) (hd : o.data = .fields vs) : x ≠ C := fun e => by
  obtain ⟨u, es, ep, hu, hdu, _⟩ := hn
  rw [e, hu] at ho
  cases ho
  rw [hdu] at hd
  cases hd
theorem held_but {m : Str → Option Value} {l : List Env} {L : Addr} (hn : h.Ns C m) {m' : Str → Option Value} (hn' : h'.Ns C m') (sb : Heap.SameBut C h h') (hC : B.get? C = none) (f : HandSPX.HeldZ B l a Z L h) : HandSPX.HeldZ B l a Z L h' := by
  obtain ⟨k1, k2, k3, oe, vs, T, oT, ts, he, hz, hd, hv, hT, hne, hTo, hTd, r⟩ := f
  refine ⟨fun b o e => (sb.2 b fun z => by rw [z, hC] at e; cases e).trans (k1 b o e), k2, Heap.FunFrames.sameBut sb hn' k3, oe, vs, T, oT, ts, ?_, hz, hd, hv, hT, hne, ?_, hTd, r⟩
  · rw [sb.2 a (rec_ne hn he hd)]; exact he
  · rw [sb.2 T (rec_ne hn hTo hTd)]; exact hTo
end
section
variable {X : Cx} {pins : List (Addr × Obj)} {σ : L2.St} {H3 : Hp} {s3 : Shared} {E : XK}
/-- out of a call within the block: noted, the block let go, on to the def's own wish -/
theorem comp_out {scope : Scope} {cl : List (Str × Addr)} {fp : List Addr} {ce : Env} {pins' : List (Addr × Obj)} {σ' : L2.St} {H9 : Hp} {s9 s' : Shared} {u : Value} (A3 : Inv X pins σ H3 s3) (hst : X.stack = X.env :: X.outer) (hfr : X.env.frame = some X.env.locals)
    (tk : L2N.Takes X fun c d _ H => E c d H) (hfp : ∀ b ∈ fp, FpOk X pins H3 b) (hce : ce = compEnvC scope cl s3.heap.objs.size X.env) (I9 : Inv (X.blk s3 H3 scope ce fp) pins' σ' H9 s9) (c : L2N.CX X.prog X.w X.stack H9 s9 E u s') :
    notedBy (model X.prog X.w) X.A ce (CompFails (model X.prog X.w) X.A X.xe ce) u s' := by
  obtain ⟨a, B, H2, cls, d, rfl, fly, hok, ub, na, os, ag, hE⟩ := c
  have hA : X.A.frames = some (X.env :: X.outer) := by rw [A3.ok.frames, hst]
  have cL : ce.locals = s3.heap.objs.size := by rw [hce]; rfl
  have cF : ce.frame = X.env.frame := by rw [hce]; rfl
  -- the block's names
  obtain ⟨m9, n9, _⟩ := I9.loc
  have n9 : s9.heap.Ns ce.locals m9 := n9
  have free9 : H9 ce.locals = none := I9.free
  have nofr : ce.locals ∉ frs X.stack := by
    rw [cL]
    intro z
    rcases List.mem_cons.mp (A3.stkSub _ z) with z | z
    · exact Nat.ne_of_gt A3.lt z
    · exact A3.nofs (Nat.le_refl _) z
  obtain ⟨oC, esC, epC, hC9, rC⟩ := id n9
  have hCB : B.get? ce.locals = some oC := ub.keep _ _ hC9 free9 nofr
  have hCs : s'.heap.get? ce.locals = some oC := fly.1 _ _ hCB
  have ns' : s'.heap.Ns ce.locals m9 := ⟨oC, esC, epC, hCs, rC⟩
  have free2 : H2 ce.locals = none := ub.free _ _ hC9 free9
  obtain ⟨B', b0, b1⟩ := heap_less B ce.locals
  have fly' := flying_less b0 b1 fly
  -- the state without the block's names
  obtain ⟨G, g1, g2⟩ := restrict s'.heap fun b => (B'.get? b).isSome || decide (b ∈ frs X.stack)
  have gB : ∀ b o, B.get? b = some o → b ≠ ce.locals → G.get? b = some o := fun b o e hb => by
    rw [g1 b (by rw [b1 b hb, e]; rfl)]
    exact fly.1 b o e
  have onF : ∀ b, b ∈ frs X.stack → G.get? b = s'.heap.get? b := fun b hb => g1 b (by simp [hb])
  have og : ∀ b o, G.get? b = some o → s'.heap.get? b = some o ∧ b ≠ ce.locals ∧ (b ∉ frs X.stack → B'.get? b = some o) := fun b o e => by
    cases q : ((B'.get? b).isSome || decide (b ∈ frs X.stack)) with
    | false =>
      rw [g2 b q] at e
      cases e
    | true =>
      rw [g1 b q] at e
      refine ⟨e, fun z => ?_, fun hb => ?_⟩
      · rw [z, b0] at q
        have q : decide (ce.locals ∈ frs X.stack) = true := q
        exact nofr (of_decide_eq_true q)
      · have q2 : (B'.get? b).isSome = true := by
          rcases Bool.or_eq_true_iff.mp q with q | q
          · exact q
          · exact absurd (of_decide_eq_true q) hb
        obtain ⟨o', ho'⟩ := Option.isSome_iff_exists.mp q2
        have z := fly'.1 b o' ho'
        rw [e] at z
        cases z
        exact ho'
  have old : ∀ b o, s3.heap.get? b = some o → b ≠ ce.locals := fun b o e z => by
    rw [cL] at z
    exact Nat.lt_irrefl _ (z ▸ Heap.lt_size e)
  have un9 : Un (frs X.stack) fp H3 H9 s3.heap s9.heap := I9.base
  have un : Un (frs X.stack) fp H3 H2 s3.heap G := by
    refine ⟨fun b o e n hf hx => ?_, fun b o e n hf hx => ?_, fun b o e n hx => ?_, fun b o e hx => ?_, fun b xs e => ub.tups _ _ (un9.tups _ _ e), fun b o v e => ub.frzs _ _ _ (un9.frzs _ _ _ e), fun b ps e => ?_⟩
    · exact gB b o (ub.keep b o (un9.keep b o e n hf hx) (un9.free b o e n hx) hf) (old b o e)
    · obtain ⟨sl, e1⟩ := un9.slot b o e n hf hx
      obtain ⟨sl2, e2⟩ := ub.slot b _ e1 hf
      exact ⟨sl2, by rw [onF b hf]; exact e2⟩
    · obtain ⟨o1, e1⟩ := un9.there b o e hx
      exact ub.free b o1 e1 (un9.free b o e n hx)
    · obtain ⟨o1, e1⟩ := un9.there b o e hx
      by_cases hf : b ∈ frs X.stack
      · obtain ⟨sl2, e2⟩ := ub.slot b _ e1 hf
        exact ⟨_, by rw [onF b hf]; exact e2⟩
      · obtain ⟨o2, e2⟩ := ub.there b o1 e1 hf
        exact ⟨o2, gB b o2 e2 (old b o e)⟩
    · obtain ⟨m1, e1⟩ := un9.tbls b ps e
      obtain ⟨m2, w2⟩ := ub.tbls b _ e1
      exact ⟨m1 ++ m2, w2.trans (by rw [Array.append_assoc])⟩
  have hokG : HOk X.prog X.w H2 G := fun b v e => by
    refine (hok b v e).stay (fun z w hz q => gB z w q fun ez => ?_) (fun _ q => q) fun _ _ q => q
    rcases hz with hz | hz
    · rw [← hz, ez, free2] at e; cases e
    · rw [ez, free2] at hz; cases hz
  have J : Inv X pins σ H2 { s' with heap := G } := Inv.call' (s' := { s' with heap := G }) (ch := fp) A3 (os.trans I9.os) un hokG ag fun b hb => ⟨(hfp b hb).2.2.2.1, (hfp b hb).2.1, (hfp b hb).2.2.2.2.1, (hfp b hb).2.2.2.2.2⟩
  -- noted
  show wpAny (model X.prog X.w) X.A (noteFrame (.ref a) ce) _ _ s'
  rw [noteFrame_env _ cF]
  refine PXN.looks_onZ L2N.Zn.steady hA hfr (by rw [← hst]; exact fly') fun h1 held1 up1 => ?_
  have ns1 : h1.Ns ce.locals m9 := ns'.upToSlots fun b o e hnf => up1 b o e hnf
  refine ⟨m9, ns1, fun h2 m2 ns2 sb2 => ?_⟩
  have held2 := held_but ns1 ns2 sb2 b0 held1
  obtain ⟨_, _, _, oe, vs, T, oT, ts, he, hz, hd, hv, _⟩ := id held2
  unfold PySem.passOn
  refine wpAny_bind (wpAny_field he hd hv ?_)
  rw [if_neg (show ¬ ((Value.ref T == Value.none) = true) from by simp), cF, hfr]
  refine wpAny_bind (HandSPX.setFlight_onZ held2 fun h5 held5 up5 => wpAny_throw (tk _ _ ?_))
  refine ⟨a, B', _, pins, σ, H2, cls, d, rfl, J, fun b o e hb => (og b o e).2.2 hb, fun b o e hnf => ?_, .inr (.inr (by rw [hst]; exact held5)), na, rfl, ag, hE⟩
  obtain ⟨q1, q2, _⟩ := og b o e
  obtain ⟨sl1, e1⟩ := up1 b o q1 hnf
  have e2 : h2.get? b = _ := (sb2.2 b q2).trans e1
  obtain ⟨sl5, e5⟩ := up5 b _ e2 hnf
  exact ⟨sl5, e5⟩
end
end Wr

namespace Wr
open PySem PySem.Spec PyProof.Rows L2
/-- the elements, turn by turn, until one raises: the end is not reached -/
def tLcX (wi : TI) (g : TG) (te : TE) (vs : List Nat) : TS := fun _ σ H => wi σ H fun J H1 => ∀ D, H1 D = none → ∃ W : Nat → Nat → Hp → Prop, (∃ m, W 0 m (upd H1 D (.lst []))) ∧ ∀ i m H', W i m H' →
  J.go i H' ∧ ∃ Nx : Hp → Prop, (∀ H2, Nx H2 → ∃ m', m' < m ∧ W (i + 1) m' H2) ∧ ∀ x H2, J.yld i H' x H2 → g x (wipe σ vs) H2 fun σ2 H3 => wipe σ2 vs = wipe σ vs ∧ te σ2 H3 fun y H4 => ∃ acc, H4 D = some (.lst acc) ∧ acc.length < sizeLine ∧ Nx (upd H4 D (.lst (acc ++ [y])))
section
variable {X : Cx} {E : XK} {elt tg iter : Expr} {scope : Scope} {own : List (Str × Nat)} {pos : Pos} {wi : TI} {g : TG} {te : TE}
theorem comp_raise {pins : List (Addr × Obj)} {s : Shared} {σ : L2.St} {H : Hp} {D0 : Ends} {pos' : Pos} {u : Value → Sem Unit} {Q : Value → Shared → Prop} (hst : X.stack = X.env :: X.outer) (hfr : X.env.frame = some X.env.locals) (tk : L2N.Takes X fun c d _ H => E c d H) (hc : X.calm = true) (hN : X.N.Nodup)
    (I : Inv X pins σ H s) (hi : PI X tg iter wi) (ok : BlkOk X.N X.env.scope scope own) (hg : ∀ (s : Shared) (H : Hp) (C : Addr) (cl : List (Str × Addr)) (fp : List Addr), PG (X.blk s H scope (compEnvC scope cl C X.env) fp) tg g)
    (he : ∀ (s : Shared) (H : Hp) (C : Addr) (cl : List (Str × Addr)) (fp : List Addr) (xe : Value → Shared → Prop), (∀ σ, PassesAt (L2N.CX X.prog X.w) ((X.blk s H scope (compEnvC scope cl C X.env) fp).wish xe) σ E) → PE ((X.blk s H scope (compEnvC scope cl C X.env) fp).wish xe) elt te)
    (hs : ∀ x, foldedSetIterable iter X.env x = pure x) (h : tLcX wi g te (own.map (·.2)) D0 σ H) :
    wpAny (model X.prog X.w) X.A (comprehension (.ListComp elt [⟨tg, iter, [], 0⟩] scope pos) scope X.env pos' (newList []) false (eval iter X.env) (some u)) Q X.xe s := by
  have clo : ∀ y ∈ scope.names, y.2 = .free → ∃ c, X.env.cells.lookup y.1 = some c := fun y hy e => (ok.free y hy e).elim (fun k => I.ok.has _ (.inl k)) fun k => I.ok.has _ (.inr k)
  refine comprehension_at (use := some u) rfl hs (closure_ok clo) ok.kind (fun y hy e => by rw [ok.uniq y hy, e]) (thn (hi.run pins s σ H _ I h) fun xv s1 hx => thn hx fun itv s2 h2 => ?_)
  obtain ⟨it, fp, tn, J, H2, rfl, I2, T, gone2, f2, q⟩ := h2
  refine wpAny_newObj_type (newEnv_comp ?_) (Nat.zero_le _)
  obtain ⟨D, hD⟩ : ∃ D, D = s2.heap.objs.size := ⟨_, rfl⟩
  rw [← hD]
  have freeD : H2 D = none := I2.hok.fresh (Nat.le_of_eq hD.symm)
  obtain ⟨W, ⟨m0, w0⟩, turn⟩ := q D freeD
  obtain ⟨s3, hs3⟩ : ∃ s3 : Shared, s3 = { s2 with heap := s2.heap.push { cls := .type "list", data := .seq ([] : List Value).toArray } } := ⟨_, rfl⟩
  have h3 : s3.heap = s2.heap.push { cls := .type "list", data := .seq ([] : List Value).toArray } := by rw [hs3]
  have A3 : Inv X pins σ (upd H2 D (.lst [])) s3 := by
    rw [hs3]
    exact I2.laid (t' := s2.toks) (fun b o e => Heap.get?_push_of_some _ e) (Nat.le_of_eq hD.symm) ⟨Nat.zero_le _, [], 0, .nil, by rw [hD]; exact Heap.get?_push_size _ rfl⟩
  have below : ∀ b ∈ fp, b < s2.heap.objs.size := fun b hb => let ⟨o, e, _⟩ := T.obj _ _ gone2 b hb; Heap.lt_size e
  have f3 : ∀ b ∈ fp, FpOk X pins (upd H2 D (.lst [])) b ∧ b < s3.heap.objs.size := fun b hb =>
    ⟨⟨by rw [upd_ne (by rw [hD]; exact Nat.ne_of_lt (below b hb))]; exact (f2 b hb).1, (f2 b hb).2⟩, by rw [h3, Heap.size_push]; exact Nat.lt_succ_of_lt (below b hb)⟩
  have A4 := block_start A3 ok hN f3
  have gone4 : tn 0 (pushCells (s3.heap.push { cls := .type "dict", data := .dict #[] }) scope.names) := T.keep _ _ _ gone2 fun b _ o e => pushCells_keeps _ _ _ _ (Heap.get?_push_of_some _ (by rw [h3]; exact Heap.get?_push_of_some _ e))
  obtain ⟨cl, hcl⟩ : ∃ cl, cl = cellsFrom (s3.heap.objs.size + 1) scope.names (cloFrom X.env.cells scope.names []) := ⟨_, rfl⟩
  rw [← hcl] at A4
  have goal : codeAny (model X.prog X.w) X.A (.compStart (.ListComp elt [⟨tg, iter, [], 0⟩] scope pos) 0 (.ref it) (.ref D) (compEnvC scope cl s3.heap.objs.size X.env)) (compEnds (model X.prog X.w) X.A X.xe (some u) Q (.ref D) (compEnvC scope cl s3.heap.objs.size X.env))
      { s3 with heap := pushCells (s3.heap.push { cls := .type "dict", data := .dict #[] }) scope.names } := by
    obtain ⟨ce, hce⟩ : ∃ ce, ce = compEnvC scope cl s3.heap.objs.size X.env := ⟨_, rfl⟩
    have pg := hg s3 (upd H2 D (.lst [])) s3.heap.objs.size cl fp
    have pe := he s3 (upd H2 D (.lst [])) s3.heap.objs.size cl fp
    rw [← hce] at A4 pg pe ⊢
    have clean : ∀ b ∈ fp, (upd H2 D (.lst [])) b = none := fun b hb => (f3 b hb).1.1
    obtain ⟨H3, hH3⟩ : ∃ H3, H3 = upd H2 D (.lst []) := ⟨_, rfl⟩
    rw [← hH3] at A3 A4 pg pe w0 clean f3
    obtain ⟨s4, hs4⟩ : ∃ s4 : Shared, s4 = { s3 with heap := pushCells (s3.heap.push { cls := .type "dict", data := .dict #[] }) scope.names } := ⟨_, rfl⟩
    rw [← hs4] at A4 ⊢
    have gone4 : tn 0 s4.heap := by rw [hs4]; exact gone4
    have quiet : ∀ {τ : L2.St} {Ha : Hp} {sa : Shared}, Inv (X.blk s3 H3 scope ce fp) [] τ Ha sa → (∀ b ∈ fp, Ha b = none) → ∀ b ∈ fp, FpOk (X.blk s3 H3 scope ce fp) [] Ha b := fun {τ Ha sa} Ia hn b hb =>
      ⟨hn b hb, (Ia.ok.exf b hb).1, Ia.ok.exfs b hb, .inl hb, fun x c e => (Ia.ok.exf b hb).2 x c e, fun p hp => absurd (show p ∈ ([] : List (Addr × Obj)) ++ [] from hp) (by simp)⟩
    have loop : codeAny (model X.prog X.w) X.A (.compLoop (.ListComp elt [⟨tg, iter, [], 0⟩] scope pos) 0 (.ref it) (.ref D) ce) (compEnds (model X.prog X.w) X.A X.xe (some u) Q (.ref D) ce) s4 := by
      refine compLoop_any (fun n s' => ∃ i Ha, Inv (X.blk s3 H3 scope ce fp) [] (wipe σ (own.map (·.2))) Ha s' ∧ tn i s'.heap ∧ (∀ b ∈ fp, Ha b = none) ∧ W i n Ha) ?_ m0 ⟨0, H3, A4, gone4, clean, w0⟩
      rintro n s5 ⟨i, H5, I5, gone5, n5, w5⟩
      obtain ⟨go, Nx, hNx, step⟩ := turn i n H5 w5
      refine thnF (T.item (X.blk s3 H3 scope ce fp) rfl rfl rfl hc i [] s5 _ H5 (fun _ _ => False) I5 (quiet I5 n5) gone5 go) fun r s6 ⟨v, hr, rest6⟩ => ?_
      subst hr
      refine thnF rest6 fun _ s7 ⟨x, H7, I7, r7, y7, gone7, n7⟩ => ?_
      have P7 := I7.pinned (quiet I7 n7) (T.obj _ _ gone7)
      refine thnF (pg.run _ s7 _ H7 x v _ P7 r7 (step x H7 y7)) fun _ s8 ⟨σ8, H8, I8, hw8, q8⟩ => ?_
      refine thnF ((pts_nil (X := X.blk s3 H3 scope ce fp)).run _ s8 σ8 H8 (fun b Hb => b = true ∧ Hb = H8) I8 ⟨rfl, rfl⟩) fun b s9 ⟨H9, I9, eb, e9⟩ => ?_
      subst eb
      subst e9
      rw [if_pos rfl]
      have run := (pe (fun e s' => ∃ (p9 : List (Addr × Obj)) (τ : L2.St) (Ha : Hp) (sa : Shared), Inv (X.blk s3 H3 scope ce fp) p9 τ Ha sa ∧ L2N.CX X.prog X.w X.stack Ha sa E e s') fun τ p9 Ha sa e s' Ia ca => ⟨p9, τ, Ha, sa, Ia.unwish, ca⟩).run _ s9 σ8 H9 _ (I9.wish _) q8
      refine wpAny_mono run (fun z s10 ⟨yv, H10, I10, r10, acc, hD10, hz10, nx⟩ => ?_) fun e s' ⟨p9, τ, Ha, sa, Ia, ca⟩ => comp_out A3 hst hfr tk (fun b hb => (f3 b hb).1) hce Ia ca
      refine app_ok (X := X.blk s3 H3 scope ce fp) I10.unwish hD10 hz10 r10 fun s11 I11 => ?_
      obtain ⟨m', hm, w'⟩ := hNx _ nx
      have pinned : ∀ b ∈ fp, ∀ o, s7.heap.get? b = some o → s11.heap.get? b = some o ∧ (upd H10 D (.lst (acc ++ [yv]))) b = none := fun b hb o e =>
        let z := I11.pin (b, o) (List.mem_append_right _ (List.mem_append_right _ (mem_pinsAt hb e)))
        ⟨z.1, z.2.1⟩
      refine ⟨m', hm, i + 1, _, (I11.unpinned (pins := [])).weak (by rw [← hw8, wipe_length]) (fun j v e => ?_), T.keep _ _ _ gone7 fun b hb o e => (pinned b hb o e).1, fun b hb => ?_, w'⟩
      · rw [← hw8] at e
        exact (wipe_some e).1
      · have ⟨o, e, _⟩ := T.obj _ _ gone7 b hb
        exact (pinned b hb o e).2
    exact codeAny_compStart_list loop (T.self X.A 0 _ _ _ gone4 loop)
  rw [hcl] at goal
  subst hs3
  exact goal
theorem ps_setLcX {y : Str} {py spos : Pos} (hst : X.stack = X.env :: X.outer) (hfr : X.env.frame = some X.env.locals) (tk : L2N.Takes X fun c d _ H => E c d H) (hc : X.calm = true) (hN : X.N.Nodup)
    (hsw : swapsWith (.ListComp elt [⟨tg, iter, [], 0⟩] scope pos) (some (.Name y py)) spos.line X.env = pure true) (hi : PI X tg iter wi) (ok : BlkOk X.N X.env.scope scope own) (hg : ∀ (s : Shared) (H : Hp) (C : Addr) (cl : List (Str × Addr)) (fp : List Addr), PG (X.blk s H scope (compEnvC scope cl C X.env) fp) tg g)
    (he : ∀ (s : Shared) (H : Hp) (C : Addr) (cl : List (Str × Addr)) (fp : List Addr) (xe : Value → Shared → Prop), (∀ σ, PassesAt (L2N.CX X.prog X.w) ((X.blk s H scope (compEnvC scope cl C X.env) fp).wish xe) σ E) → PE ((X.blk s H scope (compEnvC scope cl C X.env) fp).wish xe) elt te)
    (hs : ∀ x, foldedSetIterable iter X.env x = pure x := by intro _; rfl) : PS X (.Assign [.Name y py] (.ListComp elt [⟨tg, iter, [], 0⟩] scope pos) spos) (tLcX wi g te (own.map (·.2))) := by
  refine ⟨fun pins s σ H D I h => ?_⟩
  have used := exec_Assign_Name_used _ _ _ _ hsw
  rw [used]
  refine wpAny_bind (wpAny_standAt (?_))
  refine wpAny_bind ?_
  show wpAny _ X.A (do let _ ← comprehension (.ListComp elt [⟨tg, iter, [], 0⟩] scope pos) scope X.env (firstIterPos [⟨tg, iter, [], 0⟩] pos) (newList []) false (eval iter X.env) (some (assign (.Name y py) X.env))) _ _ s
  exact wpAny_bind (comp_raise hst hfr tk hc hN I hi ok hg he hs h)
end
section
variable {X : Cx} {C : Addr} {k j : Nat} {m : Str} {ps : List Str} {sp : Sp} {pos apos : Pos} {o e : Expr} {es : List Expr} {ta : TE} {t : TA} {E : XK}
/-- a method whose exceptions the context takes -/
theorem pe_gmE {pl : Sem Bool} (he : PE X o ta) (c : Cls X.K C) (G : GmN X.prog X.w X.K X.mg X.base C k m ps sp) (hr : Room j X.A) (hx : ∀ σ, PassesAt (L2N.CX X.prog X.w) X σ E) (ha : PA X (e :: es) t) (hk : k ≤ j := by decide)
    (w1 : starEach (e :: es) X.env = (false, eval e X.env) :: starEach es X.env := by rfl) (w2 : (backTo pos (starEach es X.env)).any (fun z => z.1) = false := by rfl)
    (ht : eval (.Call (.Attribute o m apos) (e :: es) [] pos) X.env = (do let ov ← eval o X.env; standAt apos.atName; let z ← holding [ov] (getMethod ov m pl); callWith pos z.1 z.2 (backTo pos (starEach (e :: es) X.env)) (backToKw pos (keywordEach [] X.env))) := by rfl) :
    PE X (.Call (.Attribute o m apos) (e :: es) [] pos) (tMethS C m sp (fun _ => E) ta t) := by
  obtain ⟨f, fd, hm, hb, F⟩ := G.ex
  refine ⟨fun pins s σ H Q I h => PySem.W.methodCall_KW (pl := pl) (thn (he.run pins s σ H _ I h) fun u s1 ⟨x, H1, I1, rx, a, dx, fs, ex, ea, l, q⟩ => ?_) ht⟩
  subst ex
  cases rx
  refine getmeth_ok I1 ea c hm l (PySem.W.callWith_K (first := [.ref a]) (h₀ := X.base) I.ok.mod.kin hm.kp (thn (ha.run pos pins s1 σ H1 _ I1 q) fun us s2 ⟨vs, H2, I2, r, q2⟩ => ⟨I2.kIn, ?_⟩) w1 w2)
  exact run_fnS (E := fun _ => E) (us := .ref a :: us) (vs := .ref a :: vs) F (hr.mono hk) hb (hx σ) I2 (.cons rfl r) q2
end
end Wr

namespace Wr
open PySem L2
structure Tx (K : PySem.W.Frag) (mg : Str → Option Value) (C : Addr) : Prop where
  cl : Cls K C
  nS : NoAttr K C "size"
  nR : NoAttr K C "rows"
section
variable {P : Program} {w : World} {K : PySem.W.Frag} {mg : Str → Option Value} {base : Heap}

def spWalked (C : Addr) : Sp := fun vs H Q _ => ∃ (t : Addr) (n : Nat) (rs : List Road) (s : Int), vs = [.ref t, .int s] ∧ TreeAt C H t n rs ∧ RoadsOk n rs ∧ n ≤ 12 ∧ 0 ≤ s ∧ s < n ∧
  ∀ d H', H d = none → Same H H' → FoundAt H' d (walked n rs s) → Q (.ref d) H'
theorem sc_walked : FnScope ["self", "start", "found", "waiting", "here", "one", "other", "length", "there"] ["self", "start"] (defScope S_Tree_walked) := ⟨rfl, rfl, rfl, by decide +kernel, rfl, by decide +kernel, by decide +kernel⟩
theorem ok_walked {f C : Addr} {fd : FuncData} (F : Fun K "walked" "Tree.walked" S_Tree_walked f fd) (T : Tx K mg C) : FnOk P w K mg base CX0 1 f fd ["self", "start"] (spWalked C) := by
  refine F.ok sc_walked (fun vs H Q E h => ?_) (fun cdv A outer s H vs Q E hr h => ?_)
  · obtain ⟨t, n, rs, s, rfl, _⟩ := h
    rfl
  · obtain ⟨t, n, rs, s, rfl, hT, ok, hn, hs0, hsn, k⟩ := h
    have hu := hu_of hr
    have nd := sc_walked.nd
    refine ⟨_, pss_cons (ps_set (i := 2) nd rfl (Or.inl rfl) (pe_disp (pps_cons (pv 1) (pe_tup (pa_cons (pe_un un_neg pe_int) (pa_cons pe_int pa_nil))) pps_nil) (by rfl) (by rfl) (fun z => by cases z) (by decide)))
      (pss_cons (ps_set (i := 3) nd rfl (Or.inl rfl) (pe_lst (pa_cons (pv 1) pa_nil)))
      (pss_cons (ps_while PassesOwn.never (pt_cmpR (op_neD hr.units) (pv 3) (pe_lst pa_nil) (nomark _))
        (pss_cons (ps_set (i := 4) nd rfl (Or.inl rfl) (pe_bm PySem.F.plainAttrs_list PySem.F.slot_list_pop PySem.F.type_list_pop mt_popAt (pv 3) (pa_cons pe_int pa_nil)))
        (pss_one (ps_for PassesOwn.never rfl (pi_list (pe_fld (pv 0) rfl)) (pg_tup rfl (pgs_cons (pg_name (i := 5) nd rfl (Or.inl rfl)) (pgs_cons (pg_name (i := 6) nd rfl (Or.inl rfl)) (pgs_cons (pg_name (i := 7) nd rfl (Or.inl rfl)) pgs_nil))))
          (pss_one (ps_if (PW.pt (pw_or (pt_cmpR op_eq (pv 4) (pv 5) (nomark _)) (pw_or1 (pt_cmpR op_eq (pv 4) (pv 6) (nomark _)))))
            (pss_cons (ps_set (i := 8) nd rfl (Or.inl rfl) (pe_op op_sub (pe_op op_add (pv 5) (pv 6)) (pv 4)))
            (pss_one (ps_if (pt_cmp (pc_dnotin hu (pv 8) (pv 2)))
              (pss_cons (ps_dput hu (pv 2) (pv 8) (pe_tup (pa_cons (pv 4) (pa_cons (pe_op op_add (pe_ix ix_tup (pe_dget hu (pv 2) (pv 4) (fun _ _ => rfl)) pe_int (fun _ _ => rfl)) (pv 7)) pa_nil))) rfl)
              (pss_one (ps_expr (pe_bm PySem.F.plainAttrs_list PySem.F.slot_list_append PySem.F.type_list_append mt_append (pv 3) (pa_cons (pv 8) pa_nil)))))
              pss_nil))) pss_nil))))))
      (pss_one (ps_ret (pv 2))))), ?_⟩
    -- found = {start: (-1, 0)}
    intro d hd
    refine ⟨_, rfl, _, rfl, (by show 2 ≤ sizeLine; decide), fun t0 ht0 => ?_⟩
    obtain ⟨dx, r, vsr, hI, hL, hR⟩ := hT
    have e1 : Same H (upd H d (.dK [])) := Same.new hd
    refine ⟨by rw [upd_ne (ne_of_none upd_same ht0)]; exact upd_same, [(.inl s, .ref t0)], rfl, (show 1 ≤ 15 by decide), ?_⟩
    have ed : upd (upd (upd H d (.dK [])) t0 (.tup [.int (-1), .int 0])) d (.dK (mergeK [] [(.inl s, .ref t0)])) d = some (.dK [(.inl s, .ref t0)]) := upd_same
    have htd : t0 ≠ d := fun q => by rw [q, upd_same] at ht0; cases ht0
    have et : upd (upd (upd H d (.dK [])) t0 (.tup [.int (-1), .int 0])) d (.dK (mergeK [] [(.inl s, .ref t0)])) t0 = some (.tup [.int (-1), .int 0]) := by
      rw [upd_ne htd]; exact upd_same
    have e3 : Same H (upd (upd (upd H d (.dK [])) t0 (.tup [.int (-1), .int 0])) d (.dK (mergeK [] [(.inl s, .ref t0)]))) := Same.mut (e1.trans (Same.new ht0)) hd
    generalize hH3 : upd (upd (upd H d (.dK [])) t0 (.tup [.int (-1), .int 0])) d (.dK (mergeK [] [(.inl s, .ref t0)])) = H3 at ed et e3 ⊢
    -- waiting = [start]
    refine ⟨_, rfl, (by show 1 ≤ sizeLine; decide), fun q hq => ?_⟩
    -- while waiting != []
    refine ⟨fun m σ H' => ∃ (fo : Found) (wl : List Int) (v4 v5 v6 v7 v8 : Option V), σ = [some (.ref t), some (.int s), some (.ref d), some (.ref q), v4, v5, v6, v7, v8] ∧ Same H H' ∧ FoundAt H' d fo ∧ H' q = some (.lst (wl.map V.int)) ∧
      Growth rs s fo ∧ (∀ x ∈ wl, x ∈ keys fo) ∧ bfsGo rs m fo wl = walked n rs s ∧ n + wl.length ≤ fo.length + m ∧ wl.length ≤ fo.length, ⟨n, [(s, (-1, 0))], [s], none, none, none, none, none, rfl, e3.trans (Same.new hq), ⟨_, keepN ed hq, .cons ⟨rfl, t0, rfl, keepN et hq⟩ .nil⟩, upd_same, .start, (fun x hx => by simpa [keys] using hx), rfl, by simp; omega, by simp⟩, ?_⟩
    have hqd : H q = none := e3.free hq
    rintro m σ H4 ⟨fo, wl, v4, v5, v6, v7, v8, rfl, s4, hF, hq4, gr, hw, hb, hm, hwf⟩
    refine ⟨_, rfl, Nat.zero_le _, fun p hp => ?_⟩
    refine ⟨_, _, dp_ilist (ns := wl) (keepN hq4 hp), dp_ilist (ns := []) upd_same, shaped_ints _, shaped_ints _, _, rfl, ?_⟩
    rw [eqv_il]
    have s5 : Same H4 (upd H4 p (.lst ([] : List V))) := Same.new hp
    replace hF := hF.same s5
    replace hq4 := s5 _ _ hq4
    replace s4 := s4.trans s5
    generalize upd H4 p (.lst ([] : List V)) = H5 at s4 hF hq4 ⊢
    clear s5 hp p
    cases wl with
    | nil =>
      refine iteF ?_
      refine ⟨_, rfl, ?_⟩
      refine k d H5 hd s4 ?_
      rw [← hb]
      cases m <;> exact hF
    | cons h wt =>
      refine iteT ?_
      have hm1 : 1 ≤ m := by
        have := gr.length_le ok ⟨hs0, hsn⟩
        simp at hm
        omega
      obtain ⟨m, rfl⟩ : ∃ m', m = m' + 1 := ⟨m - 1, by omega⟩
      refine ⟨fun σ' H' => ∃ m', m' < m + 1 ∧ ∃ (fo : Found) (wl : List Int) (v4 v5 v6 v7 v8 : Option V), σ' = [some (.ref t), some (.int s), some (.ref d), some (.ref q), v4, v5, v6, v7, v8] ∧ Same H H' ∧ FoundAt H' d fo ∧ H' q = some (.lst (wl.map V.int)) ∧
        Growth rs s fo ∧ (∀ x ∈ wl, x ∈ keys fo) ∧ bfsGo rs m' fo wl = walked n rs s ∧ n + wl.length ≤ fo.length + m' ∧ wl.length ≤ fo.length, fun _ _ z => z, ?_⟩
      -- here = waiting.pop(0)
      refine ⟨_, rfl, .inl ⟨rfl, _, SqL.of hq4⟩, q, _, 0, 0, .int h, rfl, rfl, hq4, by decide, by decide, ?_, rfl, ?_⟩
      · show seqIndex? 0 (List.map V.int (h :: wt)).length = some 0
        simp [seqIndex?]
      have hFq := hF.updL (ys := (List.map V.int (h :: wt)).eraseIdx 0) hq4
      have sq := Same.mut (o := .lst ((List.map V.int (h :: wt)).eraseIdx 0)) s4 hqd
      have hq6 : upd H5 q (.lst ((List.map V.int (h :: wt)).eraseIdx 0)) q = some (.lst (wt.map V.int)) := upd_same
      generalize upd H5 q (.lst ((List.map V.int (h :: wt)).eraseIdx 0)) = H6 at hFq sq hq6 ⊢
      clear hF hq4 s4
      have hh : h ∈ keys fo := hw h (List.mem_cons_self ..)
      -- for one, other, length in self.rows
      refine ⟨_, rfl, t, C, dx, _, _, rfl, sq _ _ hI, T.cl, T.nR, tfs_rows _ _, r, rfl, ⟨_, SqL.of (sq _ _ hL)⟩, for_list (K := K) (a := r) (xs := vsr) (fun i σ' H' => ∃ (f' : Found) (w' : List Int) (v5 v6 v7 v8 : Option V),
        σ' = [some (.ref t), some (.int s), some (.ref d), some (.ref q), some (.int h), v5, v6, v7, v8] ∧ Same H H' ∧ FoundAt H' d f' ∧ H' q = some (.lst (w'.map V.int)) ∧ Growth rs s f' ∧ h ∈ keys f' ∧ w'.length ≤ f'.length ∧ scan h (rs.drop i) f' w' = scan h rs fo wt)
        ⟨fo, wt, v5, v6, v7, v8, rfl, sq, hFq, hq6, gr, hh, by simp at hwf; omega, rfl⟩ (fun i σ' H' _ ⟨_, _, _, _, _, _, _, s', _⟩ => SqL.of (s' _ _ hL)) ?_ ?_⟩
      · rintro i x σ' H7 hx ⟨f', w', v5, v6, v7, v8, rfl, s7, hF7, hq7, gr7, hh7, hwf7, hsc⟩
        obtain ⟨rd, hrd, tt, rfl, htt⟩ := paired_get' hR hx
        have hdr : rs.drop i = rd :: rs.drop (i + 1) := by
          obtain ⟨hi, e⟩ := List.getElem?_eq_some_iff.mp hrd
          rw [List.drop_eq_getElem_cons hi, e]
        rw [hdr] at hsc
        refine ⟨tt, _, rfl, SqT.of (s7 _ _ htt), rfl, _, _, rfl, _, _, rfl, _, _, rfl, rfl, ?_⟩
        have gl := gr7.length_le ok ⟨hs0, hsn⟩
        obtain ⟨kvs, hk1, hk2⟩ := id hF7
        have hkl := flen hk2
        refine st_if (ans_or2 (val_eqi (x := h) (y := rd.a) (val_var rfl) (val_var rfl)) (val_eqi (x := h) (y := rd.b) (val_var rfl) (val_var rfl))) (fun c => ?_) (fun c => ?_)
        · have c' : h = rd.a ∨ h = rd.b := by simpa using c
          -- there = one + other - here
          refine ⟨_, rfl, _, rfl, _, _, rfl, rfl, _, rfl, _, _, rfl, rfl, ?_⟩
          -- if there not in found
          refine ⟨_, rfl, _, rfl, d, _, rfl, DGet.k (k := Sum.inl (rd.a + rd.b - h)) hk1, _, rfl, ?_⟩
          cases lk : f'.lookup (rd.a + rd.b - h) with
          | some pd =>
            obtain ⟨tv, hv, _⟩ := (found_val _ hk2).1 pd.1 pd.2 lk
            rw [hv]
            refine iteF ?_
            refine ⟨f', w', _, _, _, _, rfl, s7, hF7, hq7, gr7, hh7, hwf7, ?_⟩
            rw [← hsc, scan_cons, if_pos c', if_pos (by rw [lk]; rfl)]
          | none =>
            have hvn := (found_val (rd.a + rd.b - h) hk2).2 lk
            rw [hvn]
            refine iteT ?_
            obtain ⟨p0, d0, lh⟩ : ∃ p0 d0, f'.lookup h = some (p0, d0) := by
              cases e : f'.lookup h with
              | none => exact absurd hh7 (lookup_none_iff.mp e)
              | some x => exact ⟨x.1, x.2, rfl⟩
            obtain ⟨th, hvh, hth⟩ := (found_val _ hk2).1 _ _ lh
            have edh : dOf f' h = d0 := dOf_of lh
            have hg : DGet H7 d (kV (Sum.inl h)) (some (.ref th)) := by
              have := DGet.k (k := Sum.inl h) hk1
              rw [hvh] at this
              exact this
            -- found[there] = (here, found[here][1] + length)
            refine ⟨_, rfl, _, rfl, _, rfl, d, _, rfl, hg, th, _, 1, _, rfl, rfl, SqT.of hth, rfl, _, rfl, _, _, rfl, rfl, (by show 2 ≤ sizeLine; decide), fun tp htp => ?_⟩
            have s8 := s7.trans (Same.new (o := .tup [.int h, .int (d0 + rd.l)]) htp)
            have hk8 := FRel.same (fun a xs e => Same.new (o := .tup [.int h, .int (d0 + rd.l)]) htp a (.tup xs) e) hk2
            have hd8 := keepN (u := .tup [.int h, .int (d0 + rd.l)]) hk1 htp
            have hq8 := keepN (u := .tup [.int h, .int (d0 + rd.l)]) hq7 htp
            have ht8 : upd H7 tp (.tup [.int h, .int (d0 + rd.l)]) tp = some (.tup [.int h, .int (d0 + rd.l)]) := upd_same
            generalize upd H7 tp (.tup [.int h, .int (d0 + rd.l)]) = H8 at s8 hk8 hd8 hq8 ht8 ⊢
            refine ⟨_, rfl, _, rfl, d, _, rfl, DPut.k (k := Sum.inl (rd.a + rd.b - h)) hd8 (szl (by omega)), ?_⟩
            rw [putK_new _ hvn]
            have hd9 : upd H8 d (.dK (kvs ++ [(Sum.inl (rd.a + rd.b - h), .ref tp)])) d = some (.dK (kvs ++ [(Sum.inl (rd.a + rd.b - h), .ref tp)])) := upd_same
            have hq9 := keepU (u := .dK (kvs ++ [(Sum.inl (rd.a + rd.b - h), .ref tp)])) hq8 hd8 (by intro z; cases z)
            have s9 := Same.mut (o := .dK (kvs ++ [(Sum.inl (rd.a + rd.b - h), .ref tp)])) s8 hd
            have hk9 := FRel.same (fun a xs e => keepU (u := .dK (kvs ++ [(Sum.inl (rd.a + rd.b - h), .ref tp)])) (o := .tup xs) e hd8 (by intro z; cases z)) hk8
            have ht9 := keepU (u := .dK (kvs ++ [(Sum.inl (rd.a + rd.b - h), .ref tp)])) ht8 hd8 (by intro z; cases z)
            generalize upd H8 d (.dK (kvs ++ [(Sum.inl (rd.a + rd.b - h), .ref tp)])) = H9 at s9 hk9 hd9 hq9 ht9 ⊢
            have hF9 : FoundAt H9 d (f' ++ [(rd.a + rd.b - h, (h, dOf f' h + rd.l))]) := ⟨_, hd9, paired_snoc hk9 ⟨rfl, tp, rfl, by rw [edh]; exact ht9⟩⟩
            -- waiting.append(there)
            refine ⟨_, rfl, .inl ⟨rfl, _, SqL.of hq9⟩, _, rfl, q, _, _, rfl, rfl, hq9, (szl (by rw [List.length_map]; omega)), ?_⟩
            have ad : Adj rs h (rd.a + rd.b - h) rd.l := by
              refine ⟨rd, List.mem_of_getElem? hrd, rfl, ?_⟩
              rcases c' with c' | c'
              · exact .inl ⟨c'.symm, by omega⟩
              · exact .inr ⟨c'.symm, by omega⟩
            refine ⟨f' ++ [(rd.a + rd.b - h, (h, dOf f' h + rd.l))], w' ++ [rd.a + rd.b - h], _, _, _, _, rfl, Same.mut s9 hqd, hF9.updL hq9, ?_, .snoc gr7 hh7 ad (lookup_none_iff.mp lk), ?_, ?_, ?_⟩
            · rw [upd_same, List.map_append]; rfl
            · rw [keys_append]; exact List.mem_append_left _ hh7
            · simp; exact hwf7
            · rw [← hsc, scan_cons, if_pos c', if_neg (by rw [lk]; exact Bool.false_ne_true)]
        · have c' : ¬ (h = rd.a ∨ h = rd.b) := by simpa using c
          refine ⟨f', w', _, _, _, v8, rfl, s7, hF7, hq7, gr7, hh7, hwf7, ?_⟩
          rw [← hsc, scan_cons, if_neg c']
      · rintro σ' H7 ⟨f', w', v5, v6, v7, v8, rfl, s7, hF7, hq7, gr7, hh7, hwf7, hsc⟩
        rw [show vsr.length = rs.length from hR.length.symm, List.drop_length] at hsc
        obtain ⟨g1, ⟨more, m1, m2⟩, _⟩ := scan_spec (rs := rs) h rs fo wt (fun _ q => q) gr hh
        have e1 : f' = (scan h rs fo wt).1 := by rw [← hsc]; rfl
        have e2 : w' = (scan h rs fo wt).2 := by rw [← hsc]; rfl
        refine ⟨m, by omega, f', w', _, v5, v6, v7, v8, rfl, s7, hF7, hq7, gr7, ?_, ?_, ?_, ?_⟩
        · intro x hx
          rw [e2, m2] at hx
          rw [e1, m1, keys_append]
          rcases List.mem_append.mp hx with z | z
          · exact List.mem_append_left _ (hw x (List.mem_cons_of_mem _ z))
          · exact List.mem_append_right _ z
        · rw [e1, e2]; exact hb
        · rw [e1, e2, m1, m2]
          simp [keys] at hm ⊢
          omega
        · exact hwf7
end
end Wr

namespace Wr
open PySem L2
section
variable {P : Program} {w : World} {K : PySem.W.Frag} {mg : Str → Option Value} {base : Heap}

/-! ### is_road -/
def roadV (xs : List V) (n : Int) : Bool := match xs with
  | [x, y, z] => withinV z 1 1000000 && (withinV x 0 (n - 1) && (withinV y 0 (n - 1) && !decide (x = y)))
  | _ => false
/-- a thing of which it is known whether it is a road -/
def RoadArg (K : PySem.W.Frag) (H : Hp) (n : Int) (x : V) (r : Bool) : Prop :=
  (∃ t xs, x = .ref t ∧ H t = some (.tup xs) ∧ (∀ y ∈ xs, Plain K H y) ∧ r = roadV xs n) ∨ (∃ t, TyX K H x t ∧ PySem.W.kitOne K t (.type "tuple") = some false ∧ r = false)
def spRoad (K : PySem.W.Frag) : Sp := fun vs H Q _ => ∃ x n r, vs = [x, .int n] ∧ RoadArg K H n x r ∧ Q (.bl r) H
-- slots: 0:thing, 1:villages
theorem sc_is_road : FnScope ["thing", "villages"] ["thing", "villages"] (defScope S_is_road) := ⟨rfl, rfl, rfl, by decide +kernel, rfl, by decide +kernel, by decide +kernel⟩
theorem ok_is_road {f : Addr} {fd : FuncData} (F : Fun K "is_road" "is_road" S_is_road f fd) (B : Bi mg) (mL : ∃ t, mg "LONGEST" = some (.int 1000000 t)) (G_within : Gd P w K mg base 2 "within" ["number", "low", "high"] (spWithin K)) :
    FnOk P w K mg base CX0 3 f fd ["thing", "villages"] (spRoad K) := by
  obtain ⟨tL, m_LONGEST⟩ := mL
  refine F.ok sc_is_road (fun vs H Q E h => ?_) (fun cdv A outer s H vs Q E hr h => ?_)
  · obtain ⟨x, n, r, rfl, _⟩ := h
    rfl
  · obtain ⟨x, n, r, rfl, hR, k⟩ := h
    refine ⟨_, (pss_cons (ps_if (PW.pt (pw_or (pt_not (pt_val (pe_callB call_isi (by rfl) B.isinstance (by decide +kernel) (pa_cons (pv 0) (pa_cons (pe_bltn (v := .ty "tuple") (by rfl) B.tuple (by decide +kernel) rfl) pa_nil))))) (pw_or (pt_cmpR op_ne (pe_callB call_len_seq (by rfl) B.len (by decide +kernel) (pa_cons (pv 0) pa_nil)) pe_int (nomark _)) (pw_or1 (pt_not (pt_val (pe_g G_within hr rfl (pa_cons (pe_ix ix_tup (pv 0) pe_int (fun _ _ => rfl)) (pa_cons pe_int (pa_cons (pe_glob (v := .int 1000000) rfl m_LONGEST ⟨_, rfl⟩) pa_nil))))))))))
    (pss_one (ps_ret pe_bl)) pss_nil)
    (pss_one (ps_ret (pe_and (pe_g G_within hr rfl (pa_cons (pe_ix ix_tup (pv 0) pe_int (fun _ _ => rfl)) (pa_cons pe_int (pa_cons (pe_op op_sub (pv 1) pe_int) pa_nil)))) (pe_and (pe_g G_within hr rfl (pa_cons (pe_ix ix_tup (pv 0) pe_int (fun _ _ => rfl)) (pa_cons pe_int (pa_cons (pe_op op_sub (pv 1) pe_int) pa_nil)))) (pe_one (pe_cmpR op_ne (pe_ix ix_tup (pv 0) pe_int (fun _ _ => rfl)) (pe_ix ix_tup (pv 0) pe_int (fun _ _ => rfl)) (nomark _)))))))), ?_⟩
    rcases hR with ⟨t, xs, rfl, ht, hp, rfl⟩ | ⟨t, ty, kt, rfl⟩
    · refine ⟨_, rfl, .ref t, _, .type "tuple", _, true, rfl, .ty _, .base (.tup ht), kit_ty (by decide +kernel), true, rfl, ?_⟩
      refine iteF ?_
      refine ⟨_, rfl, t, xs, rfl, .inr (SqT.of ht), rfl, _, rfl, ?_⟩
      by_cases hl : xs.length = 3
      · obtain ⟨x, y, z, rfl⟩ : ∃ x y z, xs = [x, y, z] := by
          match xs, hl with
          | [u1, u2, u3], _ => exact ⟨u1, u2, u3, rfl⟩
        refine iteF ?_
        have px := hp x (by simp)
        have py := hp y (by simp)
        have pz := hp z (by simp)
        refine ⟨_, rfl, t, _, 2, z, rfl, rfl, SqT.of ht, rfl, z, 1, 1000000, rfl, pz, _, rfl, ?_⟩
        have k : Q (.bl (withinV z 1 1000000 && (withinV x 0 (n - 1) && (withinV y 0 (n - 1) && !decide (x = y))))) H := k
        cases e1 : withinV z 1 1000000 with
        | false =>
          refine iteT ?_
          rw [e1] at k
          exact k
        | true =>
          refine iteF ?_
          rw [e1] at k
          refine ⟨_, rfl, t, _, 0, x, rfl, rfl, SqT.of ht, rfl, _, rfl, _, _, rfl, rfl, x, 0, _, rfl, px, _, rfl, ?_⟩
          cases e2 : withinV x 0 (n - 1) with
          | false =>
            refine iteF ?_
            rw [e2] at k
            exact k
          | true =>
            refine iteT ?_
            rw [e2] at k
            refine ⟨_, rfl, t, _, 1, y, rfl, rfl, SqT.of ht, rfl, _, rfl, _, _, rfl, rfl, y, 0, _, rfl, py, _, rfl, ?_⟩
            cases e3 : withinV y 0 (n - 1) with
            | false =>
              refine iteF ?_
              rw [e3] at k
              exact k
            | true =>
              refine iteT ?_
              rw [e3] at k
              obtain ⟨i, rfl, _⟩ := withinV_int e2
              obtain ⟨j, rfl, _⟩ := withinV_int e3
              exact ⟨_, rfl, t, _, 0, _, rfl, rfl, SqT.of ht, rfl, _, rfl, t, _, 1, _, rfl, rfl, SqT.of ht, rfl, rfl, k⟩
      · have hd : decide (V.int ((xs.length : Nat) : Int) = V.int 3) = false := by
          rw [dec_int, beq_eq_false_iff_ne]
          omega
        rw [hd]
        refine iteT ?_
        refine iteT ?_
        have er : roadV xs n = false := by
          unfold roadV
          split
          · exact absurd rfl hl
          · rfl
        rw [er] at k
        exact k
    · refine ⟨_, rfl, x, _, t, _, false, rfl, .ty _, ty, kt, false, rfl, ?_⟩
      refine iteT ?_
      exact k
theorem roadArg_of {H : Hp} {n : Nat} {r : Road} {v : V} (h : RoadAt H r v) (o : 0 ≤ r.a ∧ r.a < n ∧ 0 ≤ r.b ∧ r.b < n ∧ r.a ≠ r.b ∧ 1 ≤ r.l ∧ r.l ≤ 1000000) : RoadArg K H n v true := by
  obtain ⟨t, rfl, ht⟩ := h
  refine .inl ⟨t, _, rfl, ht, ?_, ?_⟩
  · intro y hy
    simp only [List.mem_cons, List.not_mem_nil, or_false] at hy
    rcases hy with rfl | rfl | rfl <;> exact Plain.int _
  · show true = (withinV (.int r.l) 1 1000000 && (withinV (.int r.a) 0 ((n : Int) - 1) && (withinV (.int r.b) 0 ((n : Int) - 1) && !decide (V.int r.a = V.int r.b))))
    rw [withinV_of o.2.2.2.2.2.1 o.2.2.2.2.2.2, withinV_of o.1 (by omega), withinV_of o.2.2.1 (by omega)]
    have : ¬ (V.int r.a = V.int r.b) := fun q => o.2.2.2.2.1 (by injection q)
    simp [this]

/-! ### Tree -/
def spInit (C : Addr) : Sp := fun vs H Q _ => ∃ (p dx a : Addr) (n : Nat) (rs : List Road) (us : List V), vs = [.ref p, .int n, .ref a] ∧ H p = some (.ins C dx []) ∧ SqL K H a us ∧ H a = some (.lst us) ∧ RoadsAt H rs us ∧ IsTree n rs ∧
  ∀ H', (∀ b o, H b = some o → b ≠ p → H' b = some o) → TreeNew C H H' p n rs → Q .non H'
-- slots: 0:self, 1:villages, 2:roads, 3:road
theorem sc_Tree_init : FnScope ["self", "villages", "roads", "road"] ["self", "villages", "roads"] (defScope S_Tree_init) := ⟨rfl, rfl, rfl, by decide +kernel, rfl, by decide +kernel, by decide +kernel⟩
theorem ok_init {f C : Addr} {fd : FuncData} (F : Fun K "__init__" "Tree.__init__" S_Tree_init f fd) (T : Tx K mg C) (B : Bi mg) (mM : ∃ t, mg "MOST" = some (.int 12 t)) (G_within : Gd P w K mg base 2 "within" ["number", "low", "high"] (spWithin K))
    (G_is_road : Gd P w K mg base 3 "is_road" ["thing", "villages"] (spRoad K)) (GM_walked : Gm P w K mg base C 1 "walked" ["self", "start"] (spWalked C)) : FnOk P w K mg base CX0 4 f fd ["self", "villages", "roads"] (spInit (K := K) C) := by
  obtain ⟨tM, m_MOST⟩ := mM
  refine F.ok sc_Tree_init (fun vs H Q E h => ?_) (fun cdv A outer s H vs Q E hr h => ?_)
  · obtain ⟨p, dx, a, n, rs, us, rfl, _⟩ := h
    rfl
  · obtain ⟨p, dx, a, n, rs, us, rfl, hp, _, ha, hR, hT, k⟩ := h
    have hu := hu_of hr
    have nd := sc_Tree_init.nd
    have npa : p ≠ a := ne_of hp ha (by intro z; cases z)
    refine ⟨_, (pss_cons (ps_if (PW.pt (pw_or (pt_not (pt_val (pe_g G_within hr rfl (pa_cons (pv 1) (pa_cons pe_int (pa_cons (pe_glob (v := .int 12) rfl m_MOST ⟨_, rfl⟩) pa_nil)))))) (pw_or (pt_not (pt_val (pe_callB call_isi (by rfl) B.isinstance (by decide +kernel) (pa_cons (pv 2) (pa_cons (pe_bltn (v := .ty "list") (by rfl) B.list (by decide +kernel) rfl) pa_nil))))) (pw_or1 (pt_cmpR op_ne (pe_callB call_len_seq (by rfl) B.len (by decide +kernel) (pa_cons (pv 2) pa_nil)) (pe_op op_sub (pv 1) pe_int) (nomark _))))))
    (pss_one ps_never) pss_nil)
    (pss_cons (ps_for PassesOwn.never rfl (pi_list (pv 2)) (pg_name (i := 3) nd rfl (Or.inl rfl))
    (pss_one (ps_if (pt_not (pt_val (pe_g G_is_road hr rfl (pa_cons (pv 3) (pa_cons (pv 1) pa_nil)))))
    (pss_one ps_never) pss_nil)))
    (pss_cons (ps_fld (pv 0) (pv 1) rfl)
    (pss_cons (ps_fld (pv 0) (pe_callTy call_list_of (by rfl) B.list (by decide +kernel) (pa_cons (pv 2) pa_nil)) rfl)
    (pss_one (ps_if (pt_cmpR op_lt (pe_callB call_lenD (by rfl) B.len (by decide +kernel) (pa_cons (pe_gm (pv 0) T.cl GM_walked hr (pa_cons pe_int pa_nil)) pa_nil)) (pv 1) (nomark _))
    (pss_one ps_never) pss_nil)))))), ?_⟩
    have l1 := hT.pos
    have l2 := hT.le
    have l3 := hT.len
    have lu := hR.length
    refine ⟨_, rfl, .int n, 1, 12, rfl, Plain.int _, _, rfl, ?_⟩
    rw [withinV_of (by omega) (by omega)]
    refine iteF ?_
    refine ⟨_, rfl, .ref a, _, .type "list", _, true, rfl, .ty _, .base (.lst ha), kit_ty (by decide +kernel), true, rfl, ?_⟩
    refine iteF ?_
    refine ⟨_, rfl, a, _, rfl, .inl (SqL.of ha), _, rfl, _, _, rfl, rfl, rfl, _, rfl, ?_⟩
    have hd : (!decide (V.int ((us.length : Nat) : Int) = V.int ((n : Int) - 1))) = false := by
      rw [dec_int]
      have : ((us.length : Nat) : Int) = (n : Int) - 1 := by omega
      rw [this]; simp
    rw [hd]
    refine iteF ?_
    refine ⟨_, rfl, a, rfl, ⟨_, SqL.of ha⟩, for_list (K := K) (a := a) (xs := us) (fun i σ' H' => H' = H ∧ ∃ v, σ' = [some (.ref p), some (.int n), some (.ref a), v]) ⟨rfl, none, rfl⟩ (fun i σ' H' _ ⟨e, _⟩ => by rw [e]; exact SqL.of ha) ?_ ?_⟩
    · rintro i x σ' H' hx ⟨rfl, v, rfl⟩
      obtain ⟨rd, hrd, hr1⟩ := paired_get' hR hx
      refine ⟨_, rfl, _, rfl, _, n, true, rfl, roadArg_of hr1 (hT.ok rd (List.mem_of_getElem? hrd)), true, rfl, ?_⟩
      refine iteF ?_
      exact ⟨rfl, _, rfl⟩
    · rintro σ' H' ⟨rfl, v, rfl⟩
      refine ⟨_, rfl, _, rfl, p, C, dx, [], rfl, hp, T.cl, T.nS, (by show 0 < 1000; decide), ?_⟩
      have ha1 : upd H' p (.ins C dx (putF "size" (.int n) [])) a = some (.lst us) := keepU ha hp (by intro z; cases z)
      have hp1 : upd H' p (.ins C dx (putF "size" (.int n) [])) p = some (.ins C dx (putF "size" (.int n) [])) := upd_same
      have kp : ∀ b o, H' b = some o → b ≠ p → upd H' p (.ins C dx (putF "size" (.int n) [])) b = some o := fun b o e hb => by rw [upd_ne hb]; exact e
      generalize upd H' p (.ins C dx (putF "size" (.int n) [])) = H1 at ha1 hp1 kp ⊢
      refine ⟨_, rfl, a, us, rfl, .inl (SqL.of ha1), fun l hl => ?_⟩
      have npl : p ≠ l := ne_of_none hp1 hl
      refine ⟨_, rfl, p, C, dx, _, rfl, keepN hp1 hl, T.cl, T.nR, (by show 1 < 1000; decide), ?_⟩
      rw [tfs_put]
      have kp2 : ∀ b o, H' b = some o → b ≠ p → upd (upd H1 l (.lst us)) p (.ins C dx (tfs n l)) b = some o := fun b o e hb => by
        rw [upd_ne hb, upd_ne (ne_of_none (kp b o e hb) hl)]; exact kp b o e hb
      have hl0 : H' l = none := by
        cases e : H' l with
        | none => rfl
        | some o =>
          have := kp l o e (ne_of_none hp1 hl).symm
          rw [hl] at this; cases this
      have hTr : TreeNew C H' (upd (upd H1 l (.lst us)) p (.ins C dx (tfs n l))) p n rs := by
        refine ⟨dx, l, us, hl0, upd_same, by rw [upd_ne npl.symm]; exact upd_same, Paired.mapP hR fun r v ⟨t, e1, e2⟩ => ⟨t, e1, kp2 _ _ e2 (ne_of hp e2 (by intro z; cases z)).symm⟩⟩
      generalize upd (upd H1 l (.lst us)) p (.ins C dx (tfs n l)) = H2 at kp2 hTr ⊢
      obtain ⟨dx', r', vs', _, e1, _⟩ := id hTr
      refine ⟨_, rfl, p, dx', _, rfl, e1, tfs_no _ _ (by decide +kernel) (by decide +kernel), p, n, rs, 0, rfl, hTr.at, hT.toRoadsOk, l2, by omega, by omega, fun d H3 hd3 s3 hF => ?_⟩
      obtain ⟨kvs, hk1, hk2⟩ := hF
      refine ⟨d, _, rfl, hk1, _, rfl, _, _, rfl, rfl, _, rfl, ?_⟩
      have hlen : ¬ (((kvs.length : Nat) : Int) < n) := by
        have := flen hk2
        have := hT.len_walked (s := 0) ⟨by omega, by omega⟩
        omega
      rw [decide_eq_false hlen]
      refine iteF ?_
      exact k H3 (fun b o e hb => s3 b o (kp2 b o e hb)) (let ⟨dx, r, vs, e0, e1, e2, e3⟩ := hTr; ⟨dx, r, vs, e0, s3 _ _ e1, s3 _ _ e2, e3.same s3⟩)
end
end Wr

namespace Wr
open PySem L2
section
variable {P : Program} {w : World} {K : PySem.W.Frag} {mg : Str → Option Value} {base : Heap}
/-- what Tree(x, y) comes to: a tree, or none -/
inductive InitRes (K : PySem.W.Frag) (H : Hp) : V → V → Option (Nat × List Road) → Prop
  | good {a : Addr} {us : List V} {n : Nat} {rs : List Road} : H a = some (.lst us) → RoadsAt H rs us → IsTree n rs → InitRes K H (.int n) (.ref a) (some (n, rs))
  | num {x y : V} : Plain K H x → withinV x 1 12 = false → InitRes K H x y none
  | nolist {n : Nat} {y : V} {t : Value} : 1 ≤ n → n ≤ 12 → TyX K H y t → PySem.W.kitOne K t (.type "list") = some false → InitRes K H (.int n) y none
  | count {n : Nat} {a : Addr} {us : List V} : 1 ≤ n → n ≤ 12 → H a = some (.lst us) → us.length + 1 ≠ n → InitRes K H (.int n) (.ref a) none
  | road {n : Nat} {a : Addr} {us : List V} {bs : List Bool} : n ≤ 12 → H a = some (.lst us) → us.length + 1 = n → Paired (fun b u => RoadArg K H n u b) bs us → false ∈ bs → InitRes K H (.int n) (.ref a) none
  | round {n : Nat} {a : Addr} {us : List V} {rs : List Road} : n ≤ 12 → H a = some (.lst us) → us.length + 1 = n → RoadsAt H rs us → RoadsOk n rs → (walked n rs 0).length < n → InitRes K H (.int n) (.ref a) none
def spInitX (C CB : Addr) : Sp := fun vs H Q E => ∃ (p dx : Addr) (x y : V) (res : Option (Nat × List Road)), vs = [.ref p, x, y] ∧ H p = some (.ins C dx []) ∧ InitRes K H x y res ∧
  (∀ n rs, res = some (n, rs) → ∀ H', (∀ b o, H b = some o → b ≠ p → H' b = some o) → TreeNew C H H' p n rs → Q .non H') ∧
  (res = none → ∀ H', (∀ b o, H b = some o → b ≠ p → H' b = some o) → E (.ref CB) none H')

theorem paired_no {α β : Type} {F : α → β → Prop} {l : List α} {m : List β} (h : Paired F l m) {i : Nat} {y : β} (hy : m[i]? = some y) : ∃ x, l[i]? = some x ∧ F x y := paired_get' h hy
theorem ok_initX {f C CB : Addr} {fd : FuncData} (F : Fun K "__init__" "Tree.__init__" S_Tree_init f fd) (T : Tx K mg C) (B : Bi mg) (X_BadTree : Xc K mg "BadTree" CB) (mM : ∃ t, mg "MOST" = some (.int 12 t)) (G_within : Gd P w K mg base 2 "within" ["number", "low", "high"] (spWithin K))
    (G_is_road : Gd P w K mg base 3 "is_road" ["thing", "villages"] (spRoad K)) (GM_walked : Gm P w K mg base C 1 "walked" ["self", "start"] (spWalked C)) : FnOk P w K mg base (L2N.CX P w) 4 f fd ["self", "villages", "roads"] (spInitX (K := K) C CB) := by
  obtain ⟨tM, m_MOST⟩ := mM
  refine Fun.okN F sc_Tree_init (fun vs H Q E h => ?_) (fun cdv A outer s H vs Q E hr h => ?_)
  · obtain ⟨p, dx, x, y, res, rfl, _⟩ := h
    rfl
  · obtain ⟨p, dx, x, y, res, rfl, hp, hI, kq, ke⟩ := h
    have hu := hu_of hr
    have nd := sc_Tree_init.nd
    refine ⟨_, (pss_cons (ps_if (PW.pt (pw_or (pt_not (pt_val (pe_g G_within hr rfl (pa_cons (pv 1) (pa_cons pe_int (pa_cons (pe_glob (v := .int 12) rfl m_MOST ⟨_, rfl⟩) pa_nil)))))) (pw_or (pt_not (pt_val (pe_callB call_isi (by rfl) B.isinstance (by decide +kernel) (pa_cons (pv 2) (pa_cons (pe_bltn (v := .ty "list") (by rfl) B.list (by decide +kernel) rfl) pa_nil))))) (pw_or1 (pt_cmpR op_ne (pe_callB call_len_seq (by rfl) B.len (by decide +kernel) (pa_cons (pv 2) pa_nil)) (pe_op op_sub (pv 1) pe_int) (nomark _))))))
    (pss_one (L2N.ps_raise rfl (L2N.takes_of rfl rfl rfl rfl) (L2N.pmk_own PySem.F.excBase_ValueError X_BadTree.e X_BadTree.g X_BadTree.k (raises_own X_BadTree.b X_BadTree.t) rfl))) pss_nil)
    (pss_cons (ps_for (passes_of rfl) rfl (pi_list (pv 2)) (pg_name (i := 3) nd rfl (Or.inl rfl))
    (pss_one (ps_if (pt_not (pt_val (pe_g G_is_road hr rfl (pa_cons (pv 3) (pa_cons (pv 1) pa_nil)))))
    (pss_one (L2N.ps_raise rfl (L2N.takes_of rfl rfl rfl rfl) (L2N.pmk_own PySem.F.excBase_ValueError X_BadTree.e X_BadTree.g X_BadTree.k (raises_own X_BadTree.b X_BadTree.t) rfl))) pss_nil)))
    (pss_cons (ps_fld (pv 0) (pv 1) rfl)
    (pss_cons (ps_fld (pv 0) (pe_callTy call_list_of (by rfl) B.list (by decide +kernel) (pa_cons (pv 2) pa_nil)) rfl)
    (pss_one (ps_if (pt_cmpR op_lt (pe_callB call_lenD (by rfl) B.len (by decide +kernel) (pa_cons (pe_gm (pv 0) T.cl GM_walked hr (pa_cons pe_int pa_nil)) pa_nil)) (pv 1) (nomark _))
    (pss_one (L2N.ps_raise rfl (L2N.takes_of rfl rfl rfl rfl) (L2N.pmk_own PySem.F.excBase_ValueError X_BadTree.e X_BadTree.g X_BadTree.k (raises_own X_BadTree.b X_BadTree.t) rfl))) pss_nil)))))), ?_⟩
    have same : ∀ b o, H b = some o → b ≠ p → H b = some o := fun b o e _ => e
    cases hI with
    | num pl e =>
      refine ⟨_, rfl, x, 1, 12, rfl, pl, _, rfl, ?_⟩
      rw [e]
      refine iteT ?_
      refine iteT ?_
      exact ke rfl H same
    | @nolist n y t h1 h2 ty kt =>
      refine ⟨_, rfl, .int n, 1, 12, rfl, Plain.int _, _, rfl, ?_⟩
      rw [withinV_of (by omega) (by omega)]
      refine iteF ?_
      refine ⟨_, rfl, y, _, t, _, false, rfl, .ty _, ty, kt, false, rfl, ?_⟩
      refine iteT ?_
      refine iteT ?_
      exact ke rfl H same
    | @count n a us h1 h2 ha hn =>
      refine ⟨_, rfl, .int n, 1, 12, rfl, Plain.int _, _, rfl, ?_⟩
      rw [withinV_of (by omega) (by omega)]
      refine iteF ?_
      refine ⟨_, rfl, .ref a, _, .type "list", _, true, rfl, .ty _, .base (.lst ha), kit_ty (by decide +kernel), true, rfl, ?_⟩
      refine iteF ?_
      refine ⟨_, rfl, a, _, rfl, .inl (SqL.of ha), _, rfl, _, _, rfl, rfl, rfl, _, rfl, ?_⟩
      have hd : (!decide (V.int ((us.length : Nat) : Int) = V.int ((n : Int) - 1))) = true := by
        rw [dec_int]
        have : ((us.length : Nat) : Int) ≠ (n : Int) - 1 := by omega
        simp [this]
      rw [hd]
      refine iteT ?_
      exact ke rfl H same
    | @road n a us bs h2 ha lu hR hf =>
      have npa : p ≠ a := ne_of hp ha (by intro z; cases z)
      refine ⟨_, rfl, .int n, 1, 12, rfl, Plain.int _, _, rfl, ?_⟩
      rw [withinV_of (by omega) (by omega)]
      refine iteF ?_
      refine ⟨_, rfl, .ref a, _, .type "list", _, true, rfl, .ty _, .base (.lst ha), kit_ty (by decide +kernel), true, rfl, ?_⟩
      refine iteF ?_
      refine ⟨_, rfl, a, _, rfl, .inl (SqL.of ha), _, rfl, _, _, rfl, rfl, rfl, _, rfl, ?_⟩
      have hd : (!decide (V.int ((us.length : Nat) : Int) = V.int ((n : Int) - 1))) = false := by
        rw [dec_int]
        have : ((us.length : Nat) : Int) = (n : Int) - 1 := by omega
        rw [this]; simp
      rw [hd]
      refine iteF ?_
      refine ⟨_, rfl, a, rfl, ⟨_, SqL.of ha⟩, for_list (K := K) (a := a) (xs := us) (fun i σ' H' => H' = H ∧ (∀ j, j < i → bs[j]? = some true) ∧ ∃ v, σ' = [some (.ref p), some (.int n), some (.ref a), v]) ⟨rfl, fun j hj => absurd hj (by omega), none, rfl⟩ (fun i σ' H' _ ⟨e, _⟩ => by rw [e]; exact SqL.of ha) ?_ ?_⟩
      · rintro i x σ' H' hx ⟨rfl, hall, v, rfl⟩
        obtain ⟨b, hb, hr1⟩ := paired_get' hR hx
        refine ⟨_, rfl, _, rfl, _, n, b, rfl, hr1, b, rfl, ?_⟩
        cases b with
        | true =>
          refine iteF ?_
          refine ⟨rfl, fun j hj => ?_, _, rfl⟩
          by_cases e : j = i
          · subst e; exact hb
          · exact hall j (by omega)
        | false =>
          refine iteT ?_
          exact ke rfl H' same
      · rintro σ' H' ⟨rfl, hall, v, rfl⟩
        exfalso
        obtain ⟨i, hi, e⟩ := List.getElem_of_mem hf
        have hl := hR.length
        have := hall i (by omega)
        rw [List.getElem?_eq_getElem hi, e] at this
        cases this
    | @good a us n rs ha hR hT =>
      have npa : p ≠ a := ne_of hp ha (by intro z; cases z)
      have k := kq n rs rfl
      have l1 := hT.pos
      have l2 := hT.le
      have l3 := hT.len
      have lu := hR.length
      refine ⟨_, rfl, .int n, 1, 12, rfl, Plain.int _, _, rfl, ?_⟩
      rw [withinV_of (by omega) (by omega)]
      refine iteF ?_
      refine ⟨_, rfl, .ref a, _, .type "list", _, true, rfl, .ty _, .base (.lst ha), kit_ty (by decide +kernel), true, rfl, ?_⟩
      refine iteF ?_
      refine ⟨_, rfl, a, _, rfl, .inl (SqL.of ha), _, rfl, _, _, rfl, rfl, rfl, _, rfl, ?_⟩
      have hd : (!decide (V.int ((us.length : Nat) : Int) = V.int ((n : Int) - 1))) = false := by
        rw [dec_int]
        have : ((us.length : Nat) : Int) = (n : Int) - 1 := by omega
        rw [this]; simp
      rw [hd]
      refine iteF ?_
      refine ⟨_, rfl, a, rfl, ⟨_, SqL.of ha⟩, for_list (K := K) (a := a) (xs := us) (fun i σ' H' => H' = H ∧ ∃ v, σ' = [some (.ref p), some (.int n), some (.ref a), v]) ⟨rfl, none, rfl⟩ (fun i σ' H' _ ⟨e, _⟩ => by rw [e]; exact SqL.of ha) ?_ ?_⟩
      · rintro i x σ' H' hx ⟨rfl, v, rfl⟩
        obtain ⟨rd, hrd, hr1⟩ := paired_get' hR hx
        refine ⟨_, rfl, _, rfl, _, n, true, rfl, roadArg_of hr1 (hT.ok rd (List.mem_of_getElem? hrd)), true, rfl, ?_⟩
        refine iteF ?_
        exact ⟨rfl, _, rfl⟩
      · rintro σ' H' ⟨rfl, v, rfl⟩
        refine ⟨_, rfl, _, rfl, p, C, dx, [], rfl, hp, T.cl, T.nS, (by show 0 < 1000; decide), ?_⟩
        have ha1 : upd H' p (.ins C dx (putF "size" (.int n) [])) a = some (.lst us) := keepU ha hp (by intro z; cases z)
        have hp1 : upd H' p (.ins C dx (putF "size" (.int n) [])) p = some (.ins C dx (putF "size" (.int n) [])) := upd_same
        have kp : ∀ b o, H' b = some o → b ≠ p → upd H' p (.ins C dx (putF "size" (.int n) [])) b = some o := fun b o e hb => by rw [upd_ne hb]; exact e
        generalize upd H' p (.ins C dx (putF "size" (.int n) [])) = H1 at ha1 hp1 kp ⊢
        refine ⟨_, rfl, a, us, rfl, .inl (SqL.of ha1), fun l hl => ?_⟩
        have npl : p ≠ l := ne_of_none hp1 hl
        refine ⟨_, rfl, p, C, dx, _, rfl, keepN hp1 hl, T.cl, T.nR, (by show 1 < 1000; decide), ?_⟩
        rw [tfs_put]
        have kp2 : ∀ b o, H' b = some o → b ≠ p → upd (upd H1 l (.lst us)) p (.ins C dx (tfs n l)) b = some o := fun b o e hb => by
          rw [upd_ne hb, upd_ne (ne_of_none (kp b o e hb) hl)]; exact kp b o e hb
        have hl0 : H' l = none := by
          cases e : H' l with
          | none => rfl
          | some o =>
            have := kp l o e (ne_of_none hp1 hl).symm
            rw [hl] at this; cases this
        have hTr : TreeNew C H' (upd (upd H1 l (.lst us)) p (.ins C dx (tfs n l))) p n rs := by
          refine ⟨dx, l, us, hl0, upd_same, by rw [upd_ne npl.symm]; exact upd_same, Paired.mapP hR fun r v ⟨t, e1, e2⟩ => ⟨t, e1, kp2 _ _ e2 (ne_of hp e2 (by intro z; cases z)).symm⟩⟩
        generalize upd (upd H1 l (.lst us)) p (.ins C dx (tfs n l)) = H2 at kp2 hTr ⊢
        obtain ⟨dx', r', vs', _, e1, _⟩ := id hTr
        refine ⟨_, rfl, p, dx', _, rfl, e1, tfs_no _ _ (by decide +kernel) (by decide +kernel), p, n, rs, 0, rfl, hTr.at, hT.toRoadsOk, l2, by omega, by omega, fun d H3 hd3 s3 hF => ?_⟩
        obtain ⟨kvs, hk1, hk2⟩ := hF
        refine ⟨d, _, rfl, hk1, _, rfl, _, _, rfl, rfl, _, rfl, ?_⟩
        have hlen : ¬ (((kvs.length : Nat) : Int) < n) := by
          have := flen hk2
          have := hT.len_walked (s := 0) ⟨by omega, by omega⟩
          omega
        rw [decide_eq_false hlen]
        refine iteF ?_
        exact k H3 (fun b o e hb => s3 b o (kp2 b o e hb)) (let ⟨dx, r, vs, e0, e1, e2, e3⟩ := hTr; ⟨dx, r, vs, e0, s3 _ _ e1, s3 _ _ e2, e3.same s3⟩)
    | @round n a us rs l2 ha lu' hR hT hsh =>
      have npa : p ≠ a := ne_of hp ha (by intro z; cases z)
      have lu := hR.length
      refine ⟨_, rfl, .int n, 1, 12, rfl, Plain.int _, _, rfl, ?_⟩
      rw [withinV_of (by omega) (by omega)]
      refine iteF ?_
      refine ⟨_, rfl, .ref a, _, .type "list", _, true, rfl, .ty _, .base (.lst ha), kit_ty (by decide +kernel), true, rfl, ?_⟩
      refine iteF ?_
      refine ⟨_, rfl, a, _, rfl, .inl (SqL.of ha), _, rfl, _, _, rfl, rfl, rfl, _, rfl, ?_⟩
      have hd : (!decide (V.int ((us.length : Nat) : Int) = V.int ((n : Int) - 1))) = false := by
        rw [dec_int]
        have : ((us.length : Nat) : Int) = (n : Int) - 1 := by omega
        rw [this]; simp
      rw [hd]
      refine iteF ?_
      refine ⟨_, rfl, a, rfl, ⟨_, SqL.of ha⟩, for_list (K := K) (a := a) (xs := us) (fun i σ' H' => H' = H ∧ ∃ v, σ' = [some (.ref p), some (.int n), some (.ref a), v]) ⟨rfl, none, rfl⟩ (fun i σ' H' _ ⟨e, _⟩ => by rw [e]; exact SqL.of ha) ?_ ?_⟩
      · rintro i x σ' H' hx ⟨rfl, v, rfl⟩
        obtain ⟨rd, hrd, hr1⟩ := paired_get' hR hx
        refine ⟨_, rfl, _, rfl, _, n, true, rfl, roadArg_of hr1 (hT.ok rd (List.mem_of_getElem? hrd)), true, rfl, ?_⟩
        refine iteF ?_
        exact ⟨rfl, _, rfl⟩
      · rintro σ' H' ⟨rfl, v, rfl⟩
        refine ⟨_, rfl, _, rfl, p, C, dx, [], rfl, hp, T.cl, T.nS, (by show 0 < 1000; decide), ?_⟩
        have ha1 : upd H' p (.ins C dx (putF "size" (.int n) [])) a = some (.lst us) := keepU ha hp (by intro z; cases z)
        have hp1 : upd H' p (.ins C dx (putF "size" (.int n) [])) p = some (.ins C dx (putF "size" (.int n) [])) := upd_same
        have kp : ∀ b o, H' b = some o → b ≠ p → upd H' p (.ins C dx (putF "size" (.int n) [])) b = some o := fun b o e hb => by rw [upd_ne hb]; exact e
        generalize upd H' p (.ins C dx (putF "size" (.int n) [])) = H1 at ha1 hp1 kp ⊢
        refine ⟨_, rfl, a, us, rfl, .inl (SqL.of ha1), fun l hl => ?_⟩
        have npl : p ≠ l := ne_of_none hp1 hl
        refine ⟨_, rfl, p, C, dx, _, rfl, keepN hp1 hl, T.cl, T.nR, (by show 1 < 1000; decide), ?_⟩
        rw [tfs_put]
        have kp2 : ∀ b o, H' b = some o → b ≠ p → upd (upd H1 l (.lst us)) p (.ins C dx (tfs n l)) b = some o := fun b o e hb => by
          rw [upd_ne hb, upd_ne (ne_of_none (kp b o e hb) hl)]; exact kp b o e hb
        have hl0 : H' l = none := by
          cases e : H' l with
          | none => rfl
          | some o =>
            have := kp l o e (ne_of_none hp1 hl).symm
            rw [hl] at this; cases this
        have hTr : TreeNew C H' (upd (upd H1 l (.lst us)) p (.ins C dx (tfs n l))) p n rs := by
          refine ⟨dx, l, us, hl0, upd_same, by rw [upd_ne npl.symm]; exact upd_same, Paired.mapP hR fun r v ⟨t, e1, e2⟩ => ⟨t, e1, kp2 _ _ e2 (ne_of hp e2 (by intro z; cases z)).symm⟩⟩
        generalize upd (upd H1 l (.lst us)) p (.ins C dx (tfs n l)) = H2 at kp2 hTr ⊢
        obtain ⟨dx', r', vs', _, e1, _⟩ := id hTr
        refine ⟨_, rfl, p, dx', _, rfl, e1, tfs_no _ _ (by decide +kernel) (by decide +kernel), p, n, rs, 0, rfl, hTr.at, hT, l2, by omega, by omega, fun d H3 hd3 s3 hF => ?_⟩
        obtain ⟨kvs, hk1, hk2⟩ := hF
        refine ⟨d, _, rfl, hk1, _, rfl, _, _, rfl, rfl, _, rfl, ?_⟩
        have hlen : (((kvs.length : Nat) : Int) < n) := by
          have := flen hk2
          omega
        rw [decide_eq_true hlen]
        refine iteT ?_
        exact ke rfl H3 (fun b o e hb => s3 b o (kp2 b o e hb))
end
end Wr

namespace Wr
open PySem L2
section
variable {P : Program} {w : World} {K : PySem.W.Frag} {mg : Str → Option Value} {base : Heap}

/-! ### Tree.roads, Tree.village -/
def spRoads (C : Addr) : Sp := fun vs H Q _ => ∃ (t : Addr) (n : Nat) (rs : List Road), vs = [.ref t] ∧ TreeAt C H t n rs ∧ ∀ l us H', H l = none → Same H H' → H' l = some (.lst us) → RoadsAt H' rs us → Q (.ref l) H'
-- slots: 0:self
theorem sc_Tree_roads : FnScope ["self"] ["self"] (defScope S_Tree_roads) := ⟨rfl, rfl, rfl, by decide +kernel, rfl, by decide +kernel, by decide +kernel⟩
theorem ok_roads {f C : Addr} {fd : FuncData} (F : Fun K "roads" "Tree.roads" S_Tree_roads f fd) (T : Tx K mg C) (B : Bi mg) : FnOk P w K mg base CX0 1 f fd ["self"] (spRoads C) := by
  refine F.ok sc_Tree_roads (fun vs H Q E h => ?_) (fun cdv A outer s H vs Q E hr h => ?_)
  · obtain ⟨t, n, rs, rfl, _⟩ := h
    rfl
  · obtain ⟨t, n, rs, rfl, ⟨dx, r, us, h1, h2, h3⟩, k⟩ := h
    refine ⟨_, (pss_one (ps_ret (pe_callTy call_list_of (by rfl) B.list (by decide +kernel) (pa_cons (pe_fld (pv 0) rfl) pa_nil)))), ?_⟩
    refine ⟨_, rfl, t, C, dx, _, _, rfl, h1, T.cl, T.nR, tfs_rows _ _, r, us, rfl, .inl (SqL.of h2), fun l hl => ?_⟩
    exact k l us _ hl (Same.new hl) upd_same (h3.same (Same.new hl))
def spVillage (C : Addr) : Sp := fun vs H Q _ => ∃ (t : Addr) (n : Nat) (rs : List Road) (v : Int), vs = [.ref t, .int v] ∧ TreeAt C H t n rs ∧ 0 ≤ v ∧ v < n ∧ Q (.int v) H
-- slots: 0:self, 1:at
theorem sc_Tree_village : FnScope ["self", "at"] ["self", "at"] (defScope S_Tree_village) := ⟨rfl, rfl, rfl, by decide +kernel, rfl, by decide +kernel, by decide +kernel⟩
theorem ok_village {f C : Addr} {fd : FuncData} (F : Fun K "village" "Tree.village" S_Tree_village f fd) (T : Tx K mg C) (G_within : Gd P w K mg base 2 "within" ["number", "low", "high"] (spWithin K)) : FnOk P w K mg base CX0 3 f fd ["self", "at"] (spVillage C) := by
  refine F.ok sc_Tree_village (fun vs H Q E h => ?_) (fun cdv A outer s H vs Q E hr h => ?_)
  · obtain ⟨t, n, rs, v, rfl, _⟩ := h
    rfl
  · obtain ⟨t, n, rs, v, rfl, ⟨dx, r, us, h1, h2, h3⟩, v0, v1, k⟩ := h
    refine ⟨_, (pss_cons (ps_if (pt_not (pt_val (pe_g G_within hr rfl (pa_cons (pv 1) (pa_cons pe_int (pa_cons (pe_op op_sub (pe_fld (pv 0) rfl) pe_int) pa_nil))))))
    (pss_one ps_never) pss_nil)
    (pss_one (ps_ret (pv 1)))), ?_⟩
    refine ⟨_, rfl, _, rfl, t, C, dx, _, _, rfl, h1, T.cl, T.nS, tfs_size _ _, _, _, rfl, rfl, _, 0, _, rfl, Plain.int _, _, rfl, ?_⟩
    rw [withinV_of v0 (by omega)]
    refine iteF ?_
    exact ⟨_, rfl, k⟩

theorem found_get {H : Hp} {d : Addr} {fo : Found} {v p x : Int} (hF : FoundAt H d fo) (l : fo.lookup v = some (p, x)) : ∃ t, DGet H d (.int v) (some (.ref t)) ∧ H t = some (.tup [.int p, .int x]) := by
  obtain ⟨kvs, h1, h2⟩ := hF
  obtain ⟨t, h3, h4⟩ := (found_val v h2).1 p x l
  have := DGet.k (k := Sum.inl v) h1
  rw [h3] at this
  exact ⟨t, this, h4⟩
theorem tree_ins {C : Addr} {H : Hp} {t : Addr} {n : Nat} {rs : List Road} (h : TreeAt C H t n rs) : ∃ dx r, H t = some (.ins C dx (tfs n r)) := let ⟨dx, r, _, h1, _⟩ := h; ⟨dx, r, h1⟩
/-- rows of ints, each a list of its own; all of it newer than H0 -/
def RowsAt (H0 H : Hp) (d : Addr) (rows : List (List Int)) : Prop := ∃ xs, H d = some (.lst xs) ∧ Paired (fun (row : List Int) v => ∃ l, v = .ref l ∧ H0 l = none ∧ l ≠ d ∧ H l = some (.lst (row.map V.int))) rows xs
theorem RowsAt.same {H0 H H' : Hp} {d : Addr} {rows : List (List Int)} (e : Same H H') (h : RowsAt H0 H d rows) : RowsAt H0 H' d rows :=
  let ⟨xs, h1, h2⟩ := h
  ⟨xs, e _ _ h1, Paired.mapP h2 fun _ _ ⟨l, a, b, c, q⟩ => ⟨l, a, b, c, e _ _ q⟩⟩
end
end Wr

namespace Wr
open PySem L2
section
variable {P : Program} {w : World} {K : PySem.W.Frag} {mg : Str → Option Value} {base : Heap}

def spDistances (C : Addr) : Sp := fun vs H Q _ => ∃ (t : Addr) (n : Nat) (rs : List Road), vs = [.ref t] ∧ TreeAt C H t n rs ∧ IsTree n rs ∧ ∀ d H', H d = none → Same H H' → RowsAt H H' d (rowsD n rs) → Q (.ref d) H'
-- slots: 0:tree, 1:found, 2:one, 3:walked*, 4:other
theorem sc_distances : FnScope ["tree", "found", "one", "walked", "other"] ["tree"] (defScope S_distances) := ⟨rfl, rfl, rfl, by decide +kernel, rfl, by decide +kernel, by decide +kernel⟩
theorem ok_distances {f C : Addr} {fd : FuncData} (F : Fun K "distances" "distances" S_distances f fd) (T : Tx K mg C) (B : Bi mg) (GM_walked : Gm P w K mg base C 1 "walked" ["self", "start"] (spWalked C)) :
    FnOk P w K mg base CX0 2 f fd ["tree"] (spDistances C) := by
  refine F.ok sc_distances (fun vs H Q E h => ?_) (fun cdv A outer s H vs Q E hr h => ?_)
  · obtain ⟨t, n, rs, rfl, _⟩ := h
    rfl
  · obtain ⟨t, n, rs, rfl, hA, hT, k⟩ := h
    have hu := hu_of hr
    have nd := sc_distances.nd
    have len12 := hT.le
    refine ⟨_, (pss_cons (ps_set (i := 1) nd rfl (Or.inl rfl) (pe_lst pa_nil))
    (pss_cons (ps_for PassesOwn.never rfl (pi_range1 (by rfl) B.range (pa_cons (pe_fld (pv 0) rfl) pa_nil)) (pg_name (i := 2) nd rfl (Or.inl rfl))
    (pss_cons (ps_set (i := 3) nd rfl (Or.inr rfl) (pe_gm (pv 0) T.cl GM_walked hr (pa_cons (pv 2) pa_nil)))
    (pss_one (ps_expr (pe_bm PySem.F.plainAttrs_list PySem.F.slot_list_append PySem.F.type_list_append mt_append (pv 1) (pa_cons (pe_lc (own := [("other", 4)]) (g := gName 4) (tt := tYes) rfl nd (pi_range1 (by rfl) B.range (pa_cons (pe_fld (pv 0) rfl) pa_nil)) (blkOk_by (N := ["tree", "found", "one", "walked", "other"]) (sc := defScope S_distances) (by decide +kernel)) (fun _ _ _ _ _ => (pg_name (i := 4) nd rfl (Or.inl rfl))) (fun _ _ _ _ _ => pts_nil) (fun _ _ _ _ _ => (pe_ix (ix_tupK K) (pe_dget hu (pv 3) (pv 4) (fun _ _ => rfl)) pe_int (fun _ _ => rfl)))) pa_nil))))))
    (pss_one (ps_ret (pv 1))))), ?_⟩
    obtain ⟨dx, r, h1⟩ := tree_ins hA
    refine ⟨Nat.zero_le _, fun l hl => ?_⟩
    have s1 : Same H (upd H l (.lst [])) := Same.new hl
    refine ⟨_, rfl, t, C, dx, _, _, rfl, s1 _ _ h1, T.cl, T.nS, tfs_size _ _, (n : Int), rfl, by omega, by omega, for_range (lo := 0) (n := n) (fun i σ' H' => ∃ (xs : List V) (v2 v3 : Option V), σ' = [some (.ref t), some (.ref l), v2, v3, none] ∧ Same H H' ∧ H' l = some (.lst xs) ∧
      Paired (fun (row : List Int) v => ∃ a, v = .ref a ∧ H a = none ∧ a ≠ l ∧ H' a = some (.lst (row.map V.int))) ((rowsD n rs).take i) xs) ⟨[], none, none, rfl, s1, upd_same, .nil⟩ ?_ ?_⟩
    · rintro i σ' H2 hi ⟨xs, v2, v3, rfl, s2, hL, hP⟩
      have hi0 : (0 : Int) ≤ 0 + (i : Int) ∧ (0 : Int) + (i : Int) < n := ⟨by omega, by omega⟩
      refine ⟨_, rfl, t, dx, _, rfl, s2 _ _ h1, tfs_no _ _ (by decide +kernel) (by decide +kernel), _, rfl, t, n, rs, _, rfl, hA.same s2, hT.toRoadsOk, hT.le, hi0.1, hi0.2, fun d H3 hd s3 hF => ?_⟩
      have hL3 := s3 _ _ hL
      have s13 := s2.trans s3
      refine ⟨_, rfl, .inl ⟨rfl, _, SqL.of hL3⟩, ?_⟩
      refine lc_at (Itr 0 n) (fun R hR => ⟨_, rfl, t, C, dx, _, _, rfl, s13 _ _ h1, T.cl, T.nS, tfs_size _ _, (n : Int), rfl, by omega, by omega, hR⟩) ?_
      refine lcr (lo := 0) (n := n) (by omega) (fun _ => true) (fun j => .int (D n rs (0 + (i : Int)) (0 + (j : Int)))) (fun j hj H4 s4 Yes No hy _ => ?_) (fun D' H4 hD' s4 hD4 => ?_)
      · refine turn_all ?_
        obtain ⟨p, hlk⟩ := look_dOf ((hT.walked hi0).all (0 + (j : Int)) (by omega) (by omega))
        obtain ⟨tt, hg, ht⟩ := found_get (hF.same s4) hlk
        exact ⟨_, rfl, _, rfl, d, _, rfl, hg, tt, _, 1, _, rfl, rfl, SqT.of ht, rfl, hy rfl H4 (Same.refl _)⟩
      · have hrow : ((List.range n).filter fun _ => true).map (fun (j : Nat) => V.int (D n rs (0 + (i : Int)) (0 + (j : Int)))) = (rowD n rs (i : Int)).map V.int := by
          rw [List.filter_eq_self.mpr fun _ _ => rfl]
          simp [rowD, ivs, List.map_map, Function.comp_def]
        rw [hrow] at hD4
        have hL4 := s4 _ _ hL3
        have neD : D' ≠ l := (ne_of_none hL3 hD').symm
        refine ⟨l, _, _, rfl, rfl, hL4, ?_, ?_⟩
        · have := hP.length
          rw [List.length_take] at this
          exact szl (by omega)
        · refine ⟨xs ++ [.ref D'], _, _, rfl, Same.mut (s13.trans s4) hl, upd_same, ?_⟩
          have et : (rowsD n rs).take (i + 1) = (rowsD n rs).take i ++ [rowD n rs (i : Int)] := by
            rw [List.take_add_one]
            congr 1
            simp [rowsD, ivs, hi]
          rw [et]
          refine paired_snoc (Paired.mapP hP fun row v ⟨a, e1, e2, e3, e4⟩ => ⟨a, e1, e2, e3, by rw [upd_ne e3]; exact s4 _ _ (s3 _ _ e4)⟩) ⟨D', rfl, s13.free hD', neD, by rw [upd_ne neD]; exact hD4⟩
    · rintro σ' H2 ⟨xs, v2, v3, rfl, s2, hL, hP⟩
      have e : ((n : Int) - 0).toNat = n := by omega
      rw [show (rowsD n rs).take n = rowsD n rs from List.take_of_length_le (by simp [rowsD, ivs])] at hP
      exact ⟨_, rfl, k l H2 hl s2 ⟨xs, hL, hP⟩⟩
end
end Wr

namespace Wr
open PySem L2
local macro_rules | `(tactic| walk_at "rd") => `(tactic| first | (refine ⟨_, rfl, ?_⟩; walk_at "rd") | (refine ⟨_, _, rfl, rfl, ?_⟩; walk_at "rd") | skip)
section
variable {P : Program} {w : World} {K : PySem.W.Frag} {mg : Str → Option Value} {base : Heap}

def spCell (K : PySem.W.Frag) : Sp := fun vs H Q _ => ∃ (a : Addr) (ns : List Int) (k : Nat), vs = [.ref a, .int k] ∧ SqL K H a (ns.map V.int) ∧ Q (.int (cellV ns k)) H
-- slots: 0:_law_script, 1:_law_k
theorem sc_law_cell_at : FnScope ["_law_script", "_law_k"] ["_law_script", "_law_k"] (defScope S_law_cell_at) := ⟨rfl, rfl, rfl, by decide +kernel, rfl, by decide +kernel, by decide +kernel⟩
theorem ok_cell {f : Addr} {fd : FuncData} (F : Fun K "_law_cell_at" "_law_cell_at" S_law_cell_at f fd) (B : Bi mg) : FnOk P w K mg base CX0 1 f fd ["_law_script", "_law_k"] (spCell K) := by
  refine F.ok sc_law_cell_at (fun vs H Q E h => ?_) (fun cdv A outer s H vs Q E hr h => ?_)
  · obtain ⟨a, ns, k, rfl, _⟩ := h
    rfl
  · obtain ⟨a, ns, k, rfl, hS, q⟩ := h
    refine ⟨_, (pss_cons (ps_if (pt_cmpR op_lt (pv 1) (pe_callB call_len_seq (by rfl) B.len (by decide +kernel) (pa_cons (pv 0) pa_nil)) (nomark _))
    (pss_one (ps_ret (pe_ix ix_list (pv 0) (pv 1) (fun _ _ => rfl)))) pss_nil)
    (pss_one (ps_ret pe_int))), ?_⟩
    refine ⟨_, rfl, _, rfl, a, _, rfl, .inl hS, _, _, rfl, rfl, _, rfl, ?_⟩
    rw [List.length_map]
    by_cases hk : k < ns.length
    · rw [decide_eq_true (show (k : Int) < (ns.length : Int) by omega)]
      refine iteT ?_
      refine ⟨_, rfl, _, rfl, a, _, k, .int (cellV ns k), rfl, rfl, hS, atI_nat ?_, q⟩
      rw [List.getElem?_map]
      unfold cellV
      rw [List.getD_eq_getElem?_getD, List.getElem?_eq_getElem hk]
      rfl
    · rw [decide_eq_false (show ¬ (k : Int) < (ns.length : Int) by omega)]
      refine iteF ?_
      have e : cellV ns k = 0 := by
        unfold cellV
        rw [List.getD_eq_getElem?_getD, List.getElem?_eq_none_iff.mpr (by omega)]
        rfl
      rw [e] at q
      exact q
end
end Wr

/-! rows of distances in the heap, lists over ivs n -/
namespace Wr
open PySem L2
theorem dp_rows {K : PySem.W.Frag} {H0 H : Hp} {d : Addr} {rows : List (List Int)} (h : RowsAt H0 H d rows) : Dp K H (.ref d) (.list (rows.map fun r => PyData.list (r.map PyData.int))) := by
  obtain ⟨xs, h1, h2⟩ := h
  refine .lst (SqL.of h1) ?_
  clear h1
  induction h2 with
  | nil => exact .nil
  | cons h _ ih =>
    obtain ⟨l, rfl, _, _, hl⟩ := h
    exact .cons (dp_ilist hl) ih
theorem rows_paired {H0 H : Hp} {d : Addr} {rows : List (List Int)} (h : RowsAt H0 H d rows) : ∃ xs, H d = some (.lst xs) ∧ Paired (fun (row : List Int) v => ∃ l, v = .ref l ∧ H l = some (.lst (row.map V.int))) rows xs := by
  obtain ⟨xs, h1, h2⟩ := h
  exact ⟨xs, h1, Paired.mapP h2 fun _ _ ⟨l, a, _, _, q⟩ => ⟨l, a, q⟩⟩
theorem rowsD_len (n : Nat) (rs : List Road) : (rowsD n rs).length = n := by simp [rowsD, ivs]
theorem rowsD_ne {n : Nat} {rs : List Road} (h : 1 ≤ n) {row : List Int} (hm : row ∈ rowsD n rs) : row ≠ [] := by
  obtain ⟨s, _, rfl⟩ := List.mem_map.mp hm
  exact rowD_ne h s
theorem at_rows {H0 H : Hp} {d : Addr} {n : Nat} {rs : List Road} (h : RowsAt H0 H d (rowsD n rs)) {i : Int} (h0 : 0 ≤ i) (h1 : i < n) : ∃ xs l, H d = some (.lst xs) ∧ atI xs i = some (.ref l) ∧ H l = some (.lst ((rowD n rs i).map V.int)) := by
  obtain ⟨xs, h2, h3⟩ := h
  have hi : (rowsD n rs)[i.toNat]? = some (rowD n rs i) := by
    have : ((i.toNat : Nat) : Int) = i := by omega
    simp [rowsD, ivs, List.getElem?_map, List.getElem?_range (show i.toNat < n by omega), this]
  obtain ⟨v, hv, l, rfl, _, _, e3⟩ := paired_get h3 hi
  refine ⟨xs, l, h2, ?_, e3⟩
  have := atI_nat hv
  rwa [show ((i.toNat : Nat) : Int) = i by omega] at this
theorem at_row {n : Nat} {rs : List Road} {s i : Int} (h0 : 0 ≤ i) (h1 : i < n) : atI ((rowD n rs s).map V.int) i = some (.int (D n rs s i)) := by
  have e : ((i.toNat : Nat) : Int) = i := by omega
  have := atI_nat (xs := (rowD n rs s).map V.int) (j := i.toNat) (v := .int (D n rs s i)) (by simp [rowD, ivs, List.getElem?_map, List.getElem?_range (show i.toNat < n by omega), e])
  rwa [e] at this

/-! ### lists over ivs n -/
theorem range_ivs {n : Nat} (ok : Int → Bool) : ((List.range n).filter fun (i : Nat) => ok (i : Int)).map (fun (i : Nat) => V.int (i : Int)) = ((ivs n).filter ok).map V.int := by
  unfold ivs
  rw [List.filter_map]
  rw [List.map_map]; rfl
theorem range_ivsM {n : Nat} (g : Int → Int) : ((List.range n).filter fun (_ : Nat) => true).map (fun (i : Nat) => V.int (g (i : Int))) = ((ivs n).map g).map V.int := by
  unfold ivs
  rw [List.filter_eq_self.mpr fun _ _ => rfl, List.map_map, List.map_map]; rfl
theorem ivs_at {n : Nat} (g : Int → Int) {i : Int} (h0 : 0 ≤ i) (h1 : i < n) : atI (((ivs n).map g).map V.int) i = some (.int (g i)) := by
  have e : ((i.toNat : Nat) : Int) = i := by omega
  have := atI_nat (xs := ((ivs n).map g).map V.int) (j := i.toNat) (v := .int (g i)) (by simp [ivs, List.getElem?_map, List.getElem?_range (show i.toNat < n by omega), e])
  rwa [e] at this
theorem ints_at {p : List Int} {i : Int} (h0 : 0 ≤ i) (h1 : i < p.length) : atI (p.map V.int) i = some (.int (pk p i)) := by
  have e : ((i.toNat : Nat) : Int) = i := by omega
  have := atI_nat (xs := p.map V.int) (j := i.toNat) (v := .int (pk p i)) (by
    have := List.getElem?_eq_getElem (show i.toNat < p.length by omega)
    rw [List.getElem?_map, this]
    simp [pk, List.getD_eq_getElem?_getD, this])
  rwa [e] at this
theorem pk_bound {p : List Int} (h : ∀ x ∈ p, 0 ≤ x ∧ x ≤ 1000000) (i : Int) : 0 ≤ pk p i ∧ pk p i ≤ 1000000 := by
  unfold pk
  rw [List.getD_eq_getElem?_getD (l := p)]
  cases e : p[i.toNat]? with
  | none => simp
  | some x => exact h x (List.mem_of_getElem? e)
theorem min_turn {K : PySem.W.Frag} {row : List Int} {l : Addr} {H : Hp} {Q : VK} (h : H l = some (.lst (row.map V.int))) (hne : row ≠ []) (q : Q (.int (minL row)) H) : rMin K [.ref l] H Q := by
  refine ⟨l, row, rfl, SqL.of h, List.length_pos_iff.mpr hne, fun m hm hle => ?_⟩
  rw [minL_eq hm hle]; exact q
theorem ivs_ne {n : Nat} (h : 1 ≤ n) : ivs n ≠ [] := by
  intro e
  have := congrArg List.length e
  simp [ivs] at this
  omega
theorem ivs_len (n : Nat) : (ivs n).length = n := by simp [ivs]
end Wr

namespace Wr
open PySem L2
section
variable {P : Program} {w : World} {K : PySem.W.Frag} {mg : Str → Option Value} {base : Heap}
-- slots: 0:self, 1:wells, 2:callers
theorem sc_Wells_init : FnScope ["self", "wells", "callers"] ["self", "wells", "callers"] (defScope S_Wells_init) := ⟨rfl, rfl, rfl, by decide +kernel, rfl, by decide +kernel, by decide +kernel⟩
theorem ok_Wells_init {f C : Addr} {fd : FuncData} (F : Fun K "__init__" "Wells.__init__" S_Wells_init f fd) (O : Ox K C "wells" "callers") (B : Bi mg) : FnOk P w K mg base CX0 1 f fd ["self", "wells", "callers"] (spCopy C "wells" "callers") := by
  refine F.ok sc_Wells_init (fun vs H Q E h => ?_) (fun cdv A outer s H vs Q E hr h => ?_)
  · obtain ⟨p, a, b, dx, ps, qs, rfl, _⟩ := h
    rfl
  · obtain ⟨p, a, b, dx, ps, qs, rfl, hp, ha, hb, k⟩ := h
    have nd := sc_Wells_init.nd
    refine ⟨_, (pss_cons (ps_fld (pv 0) (pe_callTy call_list_of (by rfl) B.list (by decide +kernel) (pa_cons (pv 1) pa_nil)) rfl)
    (pss_one (ps_fld (pv 0) (pe_callTy call_list_of (by rfl) B.list (by decide +kernel) (pa_cons (pv 2) pa_nil)) rfl))), ?_⟩
    refine ⟨_, rfl, a, _, rfl, .inl (SqL.of ha), fun l1 hl1 => ?_⟩
    have ha1 := keepN (u := .lst (ps.map V.int)) ha hl1
    have hb1 := keepN (u := .lst (ps.map V.int)) hb hl1
    have hp1 := keepN (u := .lst (ps.map V.int)) hp hl1
    have hl11 : upd H l1 (.lst (ps.map V.int)) l1 = some (.lst (ps.map V.int)) := upd_same
    have s1 := Same.new (o := .lst (ps.map V.int)) hl1
    refine ⟨_, rfl, p, C, dx, [], rfl, hp1, O.cl, O.n1, (by show 0 < 1000; decide), ?_⟩
    generalize upd H l1 (.lst (ps.map V.int)) = H1 at ha1 hb1 hp1 hl11 s1 ⊢
    have k1 : ∀ b o, H1 b = some o → b ≠ p → upd H1 p (.ins C dx (putF "wells" (.ref l1) [])) b = some o := fun b o e hb => by rw [upd_ne hb]; exact e
    have hp2 : upd H1 p (.ins C dx (putF "wells" (.ref l1) [])) p = some (.ins C dx (putF "wells" (.ref l1) [])) := upd_same
    have npb : b ≠ p := (ne_of hp1 hb1 (by intro z; cases z)).symm
    have npl : l1 ≠ p := (ne_of hp1 hl11 (by intro z; cases z)).symm
    have hb2 := k1 _ _ hb1 npb
    have hl12 := k1 _ _ hl11 npl
    generalize upd H1 p (.ins C dx (putF "wells" (.ref l1) [])) = H2 at k1 hp2 hb2 hl12 ⊢
    refine ⟨_, rfl, b, _, rfl, .inl (SqL.of hb2), fun l2 hl2 => ?_⟩
    have npl2 : p ≠ l2 := ne_of_none hp2 hl2
    have nll : l1 ≠ l2 := ne_of_none hl12 hl2
    refine ⟨_, rfl, p, C, dx, _, rfl, keepN hp2 hl2, O.cl, O.n2, (by show 1 < 1000; decide), ?_⟩
    rw [ofs_put l1 l2 O.ne]
    refine k _ l1 l2 (fun b o e hb => ?_) hl1 ?_ ⟨⟨dx, upd_same⟩, ?_, ?_, nll⟩
    · have e2 := k1 b o (s1 b o e) hb
      rw [upd_ne hb, upd_ne (ne_of_none e2 hl2)]
      exact e2
    · cases e : H l2 with
      | none => rfl
      | some o => have := k1 l2 o (s1 _ _ e) npl2.symm; rw [hl2] at this; cases this
    · rw [upd_ne npl, upd_ne nll]; exact hl12
    · rw [upd_ne npl2.symm]; exact upd_same
def spCheckWalk : Sp := fun vs H Q _ => ∃ W : Int, vs = [.int W] ∧ 0 ≤ W ∧ W ≤ 12000000 ∧ Q .non H
-- slots: 0:walk
theorem sc_check_walk : FnScope ["walk"] ["walk"] (defScope S_check_walk) := ⟨rfl, rfl, rfl, by decide +kernel, rfl, by decide +kernel, by decide +kernel⟩
theorem ok_check_walk {f : Addr} {fd : FuncData} (F : Fun K "check_walk" "check_walk" S_check_walk f fd) (mM : ∃ t, mg "MOST" = some (.int 12 t)) (mL : ∃ t, mg "LONGEST" = some (.int 1000000 t)) (G_within : Gd P w K mg base 2 "within" ["number", "low", "high"] (spWithin K)) : FnOk P w K mg base CX0 3 f fd ["walk"] spCheckWalk := by
  obtain ⟨tM, m_MOST⟩ := mM
  obtain ⟨tL, m_LONGEST⟩ := mL
  refine F.ok sc_check_walk (fun vs H Q E h => ?_) (fun cdv A outer s H vs Q E hr h => ?_)
  · obtain ⟨W, rfl, _⟩ := h
    rfl
  · obtain ⟨W, rfl, h0, h1, k⟩ := h
    refine ⟨_, (pss_one (ps_if (pt_not (pt_val (pe_g G_within hr rfl (pa_cons (pv 0) (pa_cons pe_int (pa_cons (pe_op op_mul (pe_glob (v := .int 12) rfl m_MOST ⟨_, rfl⟩) (pe_glob (v := .int 1000000) rfl m_LONGEST ⟨_, rfl⟩)) pa_nil))))))
    (pss_one ps_never) pss_nil)), ?_⟩
    refine ⟨_, rfl, _, _, rfl, rfl, .inl ⟨by decide, by decide⟩, _, 0, _, rfl, Plain.int _, _, rfl, ?_⟩
    rw [withinV_of h0 (by omega)]
    refine iteF ?_
    exact k
def spShows (C CT : Addr) : Sp := fun vs H Q _ => ∃ (a t : Addr) (m : Int) (l1 l2 : Addr) (ps qs : List Int) (n : Nat) (rs : List Road), vs = [.ref a, .ref t, .int m] ∧ AnsAt C "wells" "callers" H a l1 l2 ps qs ∧ TreeAt CT H t n rs ∧ IsTree n rs ∧ ps.length ≤ 100 ∧ qs.length ≤ 100 ∧ (∀ x ∈ ps, 0 ≤ x ∧ x < n) ∧ (∀ x ∈ qs, 0 ≤ x ∧ x < n) ∧
  ∀ H', Same H H' → Q (.bl (shownV n rs ps qs m)) H'
-- slots: 0:self, 1:tree, 2:number*, 3:rows, 4:row*, 5:well, 6:caller
theorem sc_Wells_shows : FnScope ["self", "tree", "number", "rows", "row", "well", "caller"] ["self", "tree", "number"] (defScope S_Wells_shows) := ⟨rfl, rfl, rfl, by decide +kernel, rfl, by decide +kernel, by decide +kernel⟩
theorem ok_Wells_shows {f C CT : Addr} {fd : FuncData} (F : Fun K "shows" "Wells.shows" S_Wells_shows f fd) (O : Ox K C "wells" "callers") (T : Tx K mg CT) (B : Bi mg) (G_distances : Gd P w K mg base 2 "distances" ["tree"] (spDistances CT)) : FnOk P w K mg base CX0 3 f fd ["self", "tree", "number"] (spShows C CT) := by
  refine F.ok sc_Wells_shows (fun vs H Q E h => ?_) (fun cdv A outer s H vs Q E hr h => ?_)
  · obtain ⟨a, t, m, l1, l2, ps, qs, n, rs, rfl, _⟩ := h
    rfl
  · obtain ⟨a, t, m, l1, l2, ps, qs, n, rs, rfl, hO, hA, hT, lp, lq, hpi, hqi, k⟩ := h
    have nd := sc_Wells_shows.nd
    have n12 := hT.le
    refine ⟨_, (pss_cons (ps_set (i := 3) nd rfl (Or.inl rfl) (pe_g G_distances hr rfl (pa_cons (pv 1) pa_nil)))
    (pss_cons (ps_if (pt_cmpR op_ne (pe_callB call_len_seq (by rfl) B.len (by decide +kernel) (pa_cons (pe_fld (pv 0) rfl) pa_nil)) (pe_callB call_len_seq (by rfl) B.len (by decide +kernel) (pa_cons (pe_fld (pv 0) rfl) pa_nil)) (nomark _))
    (pss_one (ps_ret pe_bl)) pss_nil)
    (pss_cons (ps_for PassesOwn.never rfl (pi_list (pv 3)) (pg_name (i := 4) nd rfl (Or.inr rfl))
    (pss_cons (ps_if (pt_not (pt_val (pe_callB (cr_anyK K rfl) (by rfl) B.any (by decide +kernel) (pa_cons (pe_lc (own := [("well", 5)]) (g := gName 5) (tt := tYes) rfl nd (pi_list (pe_fld (pv 0) rfl)) (blkOk_by (N := ["self", "tree", "number", "rows", "row", "well", "caller"]) (sc := defScope S_Wells_shows) (by decide +kernel)) (fun _ _ _ _ _ => (pg_name (i := 5) nd rfl (Or.inl rfl))) (fun _ _ _ _ _ => pts_nil) (fun _ _ _ _ _ => (pe_cmpR op_le (pe_ix (ix_listK K) (pv 4) (pv 5) (fun _ _ => rfl)) (pv 2) (nomark _)))) pa_nil))))
    (pss_one (ps_ret pe_bl)) pss_nil)
    (pss_one (ps_if (pt_cmpR op_gt (pe_callB call_len_seq (by rfl) B.len (by decide +kernel) (pa_cons (pe_lc (own := [("caller", 6)]) (g := gName 6) rfl nd (pi_list (pe_fld (pv 0) rfl)) (blkOk_by (N := ["self", "tree", "number", "rows", "row", "well", "caller"]) (sc := defScope S_Wells_shows) (by decide +kernel)) (fun _ _ _ _ _ => (pg_name (i := 6) nd rfl (Or.inl rfl))) (fun _ _ _ _ _ => (pts_one (pt_cmpR op_le (pe_ix (ix_listK K) (pv 4) (pv 6) (fun _ _ => rfl)) (pv 2) (nomark _)))) (fun _ _ _ _ _ => pe_int)) pa_nil)) pe_int (nomark _))
    (pss_one (ps_ret pe_bl)) pss_nil))))
    (pss_one (ps_ret pe_bl))))), ?_⟩
    obtain ⟨dx, hI⟩ := hO.ins
    refine ⟨_, rfl, t, n, rs, rfl, hA, hT, fun d H1 hd s1 hRw => ?_⟩
    refine of_gName (of_nx ?_)
    refine ⟨_, rfl, a, C, dx, _, _, rfl, s1 _ _ hI, O.cl, O.n1, ofs_1 _ _ _ _, l1, _, rfl, .inl (SqL.of (s1 _ _ hO.h1)), _, rfl, a, C, dx, _, _, rfl, s1 _ _ hI, O.cl, O.n2, ofs_2 _ _ O.ne, l2, _, rfl, .inl (SqL.of (s1 _ _ hO.h2)), rfl, _, rfl, ?_⟩
    rw [List.length_map, List.length_map]
    unfold shownV at k
    by_cases c1 : ps.length = qs.length
    · rw [decide_eq_true c1, Bool.true_and] at k
      have e : (!decide (V.int ((ps.length : Nat) : Int) = V.int ((qs.length : Nat) : Int))) = false := by rw [c1]; simp
      rw [e]
      refine iteF ?_
      obtain ⟨xs, hx1, hxP⟩ := id hRw
      have xl : xs.length = n := by rw [← hxP.length]; simp [rowsD, ivs]
      refine ⟨_, rfl, d, rfl, ⟨xs, SqL.of hx1⟩, for_list (K := K) (a := d) (xs := xs) (fun i σ' H' => ∃ v4, σ' = [some (.ref a), some (.ref t), some (.int m), some (.ref d), v4, none, none] ∧ Same H1 H' ∧ ∀ v : Nat, v < i → ((ps.any fun w => decide (D n rs v w ≤ m)) && decide ((qs.filter fun c => decide (D n rs v c ≤ m)).length ≤ 1)) = true)
        ⟨none, rfl, Same.refl _, fun v h => absurd h (by omega)⟩ (fun i σ' H' _ ⟨_, _, s2, _⟩ => SqL.of (s2 _ _ hx1)) ?_ ?_⟩
      · rintro i y σ' H2 hy ⟨v4, rfl, s2, hall⟩
        have hi : i < n := by rw [← xl]; exact (List.getElem?_eq_some_iff.mp hy).1
        obtain ⟨row, hrow, l, rfl, _, _, hl⟩ := paired_get' hxP hy
        have er : row = rowD n rs (i : Int) := by
          have e : (rowsD n rs)[i]? = some (rowD n rs (i : Int)) := by simp [rowsD, ivs, hi]
          rw [e] at hrow
          exact (Option.some.inj hrow).symm
        rw [er] at hl
        have s12 := s1.trans s2
        refine of_gName ?_
        refine of_seq (of_ifs (of_not (of_test ?_)))
        refine of_cb1 (lc_at (Itl K l1) (fun R hR => ⟨_, rfl, a, C, dx, _, _, rfl, s12 _ _ hI, O.cl, O.n1, ofs_1 _ _ _ _, l1, rfl, ⟨_, SqL.of (s12 _ _ hO.h1)⟩, hR⟩) ?_)
        refine lcl (d := (0 : Int)) (fun x v => v = V.int x) (paired_self ps) (SqL.of (s12 _ _ hO.h1)) (by omega) (fun _ => true) (fun w => .bl (decide (D n rs (i : Int) w ≤ m))) (fun w v' hw hE H4 s4 Yes No hyes hno => ?_) (fun D' H4 hD' s4 hD4 => ?_)
        · subst hE
          refine turn_all ?_
          exact ⟨_, rfl, _, rfl, l, _, w, _, rfl, rfl, SqL.of (s4 _ _ (s2 _ _ hl)), at_row (hpi w hw).1 (hpi w hw).2, _, rfl, _, _, rfl, rfl, hyes rfl H4 (Same.refl _)⟩
        · have ee : ((ps.filter fun _ => true).map fun w => V.bl (decide (D n rs (i : Int) w ≤ m))) = (ps.map fun w => decide (D n rs (i : Int) w ≤ m)).map V.bl := by
            rw [List.filter_eq_self.mpr fun _ _ => rfl, List.map_map]; rfl
          rw [ee] at hD4
          have s24 := s2.trans s4
          refine ⟨D', _, rfl, SqL.of hD4, _, rfl, ?_⟩
          rw [List.any_map]
          show (if (!(ps.any fun w => decide (D n rs (i : Int) w ≤ m))) = true then _ else _)
          cases c2 : (ps.any fun w => decide (D n rs (i : Int) w ≤ m)) with
          | false =>
            refine iteT ?_
            have e : ((ivs n).all fun v => (ps.any fun w => decide (D n rs v w ≤ m)) && decide ((qs.filter fun c => decide (D n rs v c ≤ m)).length ≤ 1)) = false := by
              rw [List.all_eq_false]
              exact ⟨(i : Int), mem_ivs.mpr ⟨by omega, by omega⟩, by rw [c2]; simp⟩
            rw [e] at k
            exact k _ (s1.trans s24)
          | true =>
            refine iteF ?_
            refine of_next ?_
            have s124 := s1.trans s24
            refine of_ifs (of_test (of_op (of_cb1 (lc_at (Itl K l2) (fun R hR => ⟨_, rfl, a, C, dx, _, _, rfl, s124 _ _ hI, O.cl, O.n2, ofs_2 _ _ O.ne, l2, rfl, ⟨_, SqL.of (s124 _ _ hO.h2)⟩, hR⟩) ?_))))
            refine lcl (d := (0 : Int)) (fun x v => v = V.int x) (paired_self qs) (SqL.of (s124 _ _ hO.h2)) (by omega) (fun c => decide (D n rs (i : Int) c ≤ m)) (fun c => .int 1) (fun c v' hc hE H5 s5 Yes No hyes hno => ?_) (fun D2 H5 hD2 s5 hD5 => ?_)
            · subst hE
              refine turn_ifS (b := decide (D n rs (i : Int) c ≤ m)) (fun Q hQ => ?_) (fun e H6 s6 => hyes e H6 s6) (fun e H6 s6 => hno e H6 s6)
              exact ⟨_, rfl, _, rfl, l, _, c, _, rfl, rfl, SqL.of (s5 _ _ (s24 _ _ hl)), at_row (hqi c hc).1 (hqi c hc).2, _, rfl, _, _, rfl, rfl, _, rfl, hQ H5 (Same.refl _)⟩
            · refine ⟨D2, _, rfl, .inl (SqL.of hD5), ?_⟩
              refine ⟨_, _, rfl, rfl, _, rfl, ?_⟩
              rw [List.length_map]
              by_cases c3 : (qs.filter fun c => decide (D n rs (i : Int) c ≤ m)).length ≤ 1
              · rw [decide_eq_false (show ¬ ((((qs.filter fun c => decide (D n rs (i : Int) c ≤ m)).length : Nat) : Int) > 1) by omega)]
                refine iteF ?_
                refine ⟨_, rfl, s24.trans s5, fun v hv => ?_⟩
                by_cases ev : v = i
                · subst ev
                  rw [c2, decide_eq_true c3]; rfl
                · exact hall v (by omega)
              · rw [decide_eq_true (show ((((qs.filter fun c => decide (D n rs (i : Int) c ≤ m)).length : Nat) : Int) > 1) by omega)]
                refine iteT ?_
                have e : ((ivs n).all fun v => (ps.any fun w => decide (D n rs v w ≤ m)) && decide ((qs.filter fun c => decide (D n rs v c ≤ m)).length ≤ 1)) = false := by
                  rw [List.all_eq_false]
                  exact ⟨(i : Int), mem_ivs.mpr ⟨by omega, by omega⟩, by rw [decide_eq_false c3]; simp⟩
                rw [e] at k
                exact k _ (s124.trans s5)
      · rintro σ' H2 ⟨v4, rfl, s2, hall⟩
        have e : ((ivs n).all fun v => (ps.any fun w => decide (D n rs v w ≤ m)) && decide ((qs.filter fun c => decide (D n rs v c ≤ m)).length ≤ 1)) = true := by
          rw [List.all_eq_true]
          intro v hv
          have hv := mem_ivs.mp hv
          have := hall v.toNat (by omega)
          rwa [show ((v.toNat : Nat) : Int) = v by omega] at this
        rw [e] at k
        exact k _ (s1.trans s2)
    · rw [decide_eq_false c1, Bool.false_and] at k
      have e : (!decide (V.int ((ps.length : Nat) : Int) = V.int ((qs.length : Nat) : Int))) = true := by
        have : ¬ (V.int ((ps.length : Nat) : Int) = V.int ((qs.length : Nat) : Int)) := fun h => c1 (by injection h; omega)
        simp [this]
      rw [e]
      refine iteT ?_
      exact k _ s1
end
end Wr

namespace Wr
open PySem L2 LamX
section
variable {P : Program} {w : World} {K : PySem.W.Frag} {mg : Str → Option Value} {base : Heap}
theorem TreeAt.ext {C : Addr} {H H' : Hp} {t : Addr} {n : Nat} {rs : List Road} (e : ExtN H H') (h : TreeAt C H t n rs) : TreeAt C H' t n rs :=
  let ⟨dx, r, vs, h1, h2, h3⟩ := h
  ⟨dx, r, vs, ExtN.keep e h1, ExtN.keep e h2, Paired.mapP h3 fun _ _ ⟨t, e1, e2⟩ => ⟨t, e1, ExtN.keep e e2⟩⟩
theorem RowsAt.ext {H0 H H' : Hp} {d : Addr} {rows : List (List Int)} (e : ExtN H H') (h : RowsAt H0 H d rows) : RowsAt H0 H' d rows :=
  let ⟨xs, h1, h2⟩ := h
  ⟨xs, ExtN.keep e h1, Paired.mapP h2 fun _ _ ⟨l, a, b, c, q⟩ => ⟨l, a, b, c, ExtN.keep e q⟩⟩
theorem FoundAt.ext {H H' : Hp} {d : Addr} {f : Found} (e : ExtN H H') (h : FoundAt H d f) : FoundAt H' d f :=
  let ⟨kvs, h1, h2⟩ := h
  ⟨kvs, ExtN.keep e h1, FRel.same (fun a xs q => ExtN.keep e q) h2⟩
theorem RowsAt.updL {H0 H : Hp} {d l : Addr} {rows : List (List Int)} {xs ys : List V} (h : RowsAt H0 H d rows) (e : ∀ b o, H b = some o → b ≠ l) : RowsAt H0 (upd H l (.lst ys)) d rows :=
  RowsAt.same (fun b o q => by rw [upd_ne (e b o q)]; exact q) h
/-- the name that dug's lambda bears -/
abbrev qDug : Str := ("dug" : Str) ++ ".<locals>." ++ "<lambda>"
def spDug (CT CW PD : Addr) : Sp := fun vs H Q _ => ∃ (t : Addr) (W : Int) (n : Nat) (rs : List Road), vs = [.ref t, .int W] ∧ Tabs [(PD, qDug)] H ∧ TreeAt CT H t n rs ∧ IsTree n rs ∧ 0 ≤ W ∧ W ≤ 12000000 ∧
  ∀ a l1 l2 ws cs H', ExtN H H' → Tabs [(PD, qDug)] H' → Fr0 H a → Fr0 H l1 → Fr0 H l2 → AnsAt CW "wells" "callers" H' a l1 l2 ws cs → DugRes n rs W ws cs → Q (.ref a) H'
-- slots: 0:tree, 1:walk*, 2:rows*, 3:walked, 4:left, 5:wells, 6:callers, 7:village*, 8:place, 9:well
theorem sc_dug : FnScope ["tree", "walk", "rows", "walked", "left", "wells", "callers", "village", "place", "well"] ["tree", "walk"] (defScope S_dug) := ⟨rfl, rfl, rfl, by decide +kernel, rfl, by decide +kernel, by decide +kernel⟩
theorem ok_dug {f CT CW cD PD : Addr} {fd : FuncData} (F : FunC K "dug" "dug" S_dug f fd cD) (TB : TabB base mg cD PD) (T : Tx K mg CT) (B : Bi mg) (G_check_walk : Gd P w K mg base 3 "check_walk" ["walk"] spCheckWalk) (G_distances : Gd P w K mg base 2 "distances" ["tree"] (spDistances CT)) (GM_walked : Gm P w K mg base CT 1 "walked" ["self", "start"] (spWalked CT)) (GC_Wells : Gc P w K mg base CW 1 "Wells" ["self", "wells", "callers"] (spCopy CW "wells" "callers")) :
    FnOk P w K mg base CX0 5 f fd ["tree", "walk"] (spDug CT CW PD) := by
  refine FunC.ok F sc_dug (fun vs H Q E h => ?_) (fun A outer s H vs Q E hr h => ?_)
  · obtain ⟨t, W, n, rs, rfl, _⟩ := h
    rfl
  · obtain ⟨t, W, n, rs, rfl, hTb, hA, hT, w0, w1, k⟩ := h
    have hu := hu_of hr
    have nd := sc_dug.nd
    have n12 := hT.le
    have npos := hT.pos
    have hmT : (PD, qDug) ∈ [(PD, qDug)] := List.mem_singleton.mpr rfl
    have huT : ∀ p ∈ [(PD, qDug)], p.1 = PD → p.2 = qDug := fun p hp _ => by rw [List.mem_singleton.mp hp]
    refine ⟨_, (pss_cons (ps_expr (pe_g G_check_walk hr rfl (pa_cons (pv 1) pa_nil)))
    (pss_cons (ps_set (i := 2) nd rfl (Or.inr rfl) (pe_g G_distances hr rfl (pa_cons (pv 0) pa_nil)))
    (pss_cons (ps_set (i := 3) nd rfl (Or.inl rfl) (pe_gm (pv 0) T.cl GM_walked hr (pa_cons pe_int pa_nil)))
    (pss_cons (ps_set (i := 4) nd rfl (Or.inl rfl) (pe_sortLam (T := [(PD, qDug)]) (i := 7) (k := 1) (by rfl) B.sorted (by rfl) B.range (pe_fld (pv 0) rfl) TB rfl hmT huT (Room.mono hr (by decide)) (lam1_by (show lam1B (defScope S_dug) _ _ = true by decide +kernel)) nd rfl rfl rfl rfl (fun _ _ _ _ _ _ => rfl) (fun A' s' H' f' c' _ => (pe_tup (pa_cons (pe_un un_neg (pe_ix (ix_listK K) (pe_ix (ix_listK K) (pv 2) pe_int (fun _ _ => rfl)) (pv 7) (fun _ _ => rfl))) (pa_cons (pv 7) pa_nil))))))
    (pss_cons (ps_set (i := 5) nd rfl (Or.inl rfl) (pe_lst pa_nil))
    (pss_cons (ps_set (i := 6) nd rfl (Or.inl rfl) (pe_lst pa_nil))
    (pss_cons (ps_for PassesOwn.never rfl (pi_list (pv 4)) (pg_name (i := 7) nd rfl (Or.inr rfl))
    (pss_one (ps_if (pt_not (pt_val (pe_callB (cr_anyK K rfl) (by rfl) B.any (by decide +kernel) (pa_cons (pe_lc (own := [("well", 9)]) (g := gName 9) (tt := tYes) rfl nd (pi_list (pv 5)) (blkOk_by (N := ["tree", "walk", "rows", "walked", "left", "wells", "callers", "village", "place", "well"]) (sc := defScope S_dug) (by decide +kernel)) (fun _ _ _ _ _ => (pg_name (i := 9) nd rfl (Or.inl rfl))) (fun _ _ _ _ _ => pts_nil) (fun _ _ _ _ _ => (pe_cmpR op_le (pe_ix (ix_listK K) (pe_ix (ix_listK K) (pv 2) (pv 7) (fun _ _ => rfl)) (pv 9) (fun _ _ => rfl)) (pv 1) (nomark _)))) pa_nil))))
    (pss_cons (ps_set (i := 8) nd rfl (Or.inl rfl) (pv 7))
    (C8.pss_cut (ps_while PassesOwn.never (PW.pt (pw_and (pt_cmpR op_ge (pe_ix ix_tup (pe_dget hu (pv 3) (pv 8) (fun _ _ => rfl)) pe_int (fun _ _ => rfl)) pe_int (nomark _)) (pw_and1 (pt_cmpR op_le (pe_ix ix_list (pe_ix ix_list (pv 2) (pv 7) (fun _ _ => rfl)) (pe_ix ix_tup (pe_dget hu (pv 3) (pv 8) (fun _ _ => rfl)) pe_int (fun _ _ => rfl)) (fun _ _ => rfl)) (pv 1) (nomark _)))))
    (pss_one (ps_set (i := 8) nd rfl (Or.inl rfl) (pe_ix ix_tup (pe_dget hu (pv 3) (pv 8) (fun _ _ => rfl)) pe_int (fun _ _ => rfl)))))
    (pss_cons (ps_expr (pe_bm PySem.F.plainAttrs_list PySem.F.slot_list_append PySem.F.type_list_append mt_append (pv 5) (pa_cons (pv 8) pa_nil)))
    (pss_one (ps_expr (pe_bm PySem.F.plainAttrs_list PySem.F.slot_list_append PySem.F.type_list_append mt_append (pv 6) (pa_cons (pv 7) pa_nil))))))) pss_nil)))
    (pss_one (ps_ret (pe_gc GC_Wells hr rfl (pa_cons (pe_callB (cr_sortedA K) (by rfl) B.sorted (by decide +kernel) (pa_cons (pv 5) pa_nil)) (pa_cons (pe_callB (cr_sortedA K) (by rfl) B.sorted (by decide +kernel) (pa_cons (pv 6) pa_nil)) pa_nil)))))))))))), ?_⟩
    obtain ⟨dx, r, hI⟩ := tree_ins hA
    have z0 : (0 : Int) ≤ 0 ∧ (0 : Int) < n := ⟨Int.le_refl _, by omega⟩
    refine ⟨_, rfl, W, rfl, w0, w1, ?_⟩
    refine ⟨_, rfl, t, n, rs, rfl, hA, hT, fun d H1 hd s1 hRw => ?_⟩
    refine ⟨_, rfl, t, dx, _, rfl, s1 _ _ hI, tfs_no _ _ (by decide +kernel) (by decide +kernel), t, n, rs, 0, rfl, hA.same s1, hT.toRoadsOk, hT.le, z0.1, z0.2, fun wd H2 hwd s2 hF => ?_⟩
    have s12 := s1.trans s2
    refine ⟨_, rfl, t, CT, dx, _, _, rfl, s12 _ _ hI, T.cl, T.nS, tfs_size _ _, n, fun j : Nat => (-(D n rs 0 (j : Int)), (j : Int)), rfl, by omega, Tabs.same hTb s12, fun H3 e3 T3 => ⟨fun j H4 hj s4 => ?_, fun ns HB p pm pw s3 hp0 hpB => ?_⟩⟩
    · have hRw4 := ((hRw.same s2).ext e3).same s4
      obtain ⟨xs, l, a1, a2, a3⟩ := at_rows hRw4 (i := 0) z0.1 z0.2
      refine ⟨_, rfl, d, xs, 0, _, rfl, rfl, SqL.of a1, a2, _, rfl, l, _, (j : Int), _, rfl, rfl, SqL.of a3, at_row (by omega) (by omega), _, rfl, _, rfl, by show 2 ≤ sizeLine; decide, fun q hq => ?_⟩
      exact ⟨q, rfl, Same.new hq, upd_same⟩
    · have e2B : ExtN H2 HB := e3.trans (ExtN.same s3)
      have TB' : Tabs [(PD, qDug)] HB := Tabs.same T3 s3
      have hRwB := (hRw.same s2).ext e2B
      have hFB := hF.ext e2B
      have nsl : ns.length = n := by rw [pm.length_eq]; simp
      have nsm : ∀ x, x ∈ ns ↔ 0 ≤ x ∧ x < n := fun x => by
        rw [pm.mem_iff]
        exact mem_ivs
      have eH : ExtN H HB := (ExtN.same s12).trans e2B
      refine ⟨Nat.zero_le _, fun l3 hl3 => ?_⟩
      have sB1 := Same.new (o := .lst []) hl3
      have h31 : upd HB l3 (.lst []) l3 = some (.lst (([] : List Int).map V.int)) := upd_same
      refine of_gName (of_nx ?_)
      show tSeq _ _ _ _ (upd HB l3 (.lst []))
      generalize upd HB l3 (.lst []) = HC at sB1 h31 ⊢
      refine ⟨Nat.zero_le _, fun l4 hl4 => ?_⟩
      have sB2 := sB1.trans (Same.new (o := .lst []) hl4)
      have h32 := keepN (u := .lst []) h31 hl4
      have h42 : upd HC l4 (.lst []) l4 = some (.lst (([] : List Int).map V.int)) := upd_same
      have n34 : l3 ≠ l4 := ne_of_none h31 hl4
      have f4 : HB l4 = none := sB1.free hl4
      refine of_gName (of_nx ?_)
      show tSeq _ _ _ [some (.ref t), some (.int W), some (.ref d), some (.ref wd), some (.ref p), some (.ref l3), some (.ref l4), none, none, none] (upd HC l4 (.lst []))
      generalize upd HC l4 (.lst []) = HD at sB2 h32 h42 ⊢
      refine ⟨_, rfl, p, rfl, ⟨_, SqL.of (sB2 _ _ hpB)⟩, for_list (K := K) (a := p) (xs := ns.map V.int) (fun i σ' H' => ∃ ps v7 v8, σ' = [some (.ref t), some (.int W), some (.ref d), some (.ref wd), some (.ref p), some (.ref l3), some (.ref l4), v7, v8, none] ∧ Same HB H' ∧ H' l3 = some (.lst ((ps.map fun q : Int × Int => q.1).map V.int)) ∧ H' l4 = some (.lst ((ps.map fun q : Int × Int => q.2).map V.int)) ∧ Dug n rs W ps ∧ (∀ q ∈ ps, q.2 ∈ ns.take i) ∧ (∀ v ∈ ns.take i, ∃ q ∈ ps, D n rs v q.1 ≤ W) ∧ ps.length ≤ i)
        ⟨[], none, none, rfl, sB2, h32, h42, Dug.nil, fun _ h => (nomatch h), fun _ h => (by simp at h), Nat.le_refl _⟩ (fun i σ' H' _ ⟨_, _, _, _, s5, _⟩ => SqL.of (s5 _ _ hpB)) ?_ ?_⟩
      · rintro i y σ' H5 hy ⟨ps, v7, v8, rfl, s5, h35, h45, dug, hin, cov, pl⟩
        rw [List.getElem?_map] at hy
        obtain ⟨v, hv, rfl⟩ := Option.map_eq_some_iff.mp hy
        have vr := (nsm v).mp (List.mem_of_getElem? hv)
        have ilt : i < ns.length := (List.getElem?_eq_some_iff.mp hv).1
        have hRw5 := hRwB.same s5
        have hF5 := hFB.same s5
        obtain ⟨xs, la, a1, a2, a3⟩ := at_rows hRw5 (i := v) vr.1 vr.2
        have tk : ns.take (i + 1) = ns.take i ++ [v] := by rw [List.take_add_one, hv]; simp
        have wi : ∀ q ∈ ps, 0 ≤ q.1 ∧ q.1 < n := fun q hq => (dug.good q hq).w
        refine of_gName ?_
        refine of_ifs (of_not (of_test (of_cb1 (lc_at (Itl K l3) (fun R hR => ⟨_, rfl, l3, rfl, ⟨_, SqL.of h35⟩, hR⟩) ?_))))
        refine lcl (d := (0 : Int)) (fun x v => v = V.int x) (paired_self (ps.map fun q : Int × Int => q.1)) (SqL.of h35) (by rw [List.length_map]; omega) (fun _ => true) (fun w => .bl (decide (D n rs v w ≤ W))) (fun w v' hw hE H4 s4 Yes No hyes hno => ?_) (fun D' H4 hD' s4 hD4 => ?_)
        · subst hE
          obtain ⟨q, hq, rfl⟩ := List.mem_map.mp hw
          refine turn_all ?_
          exact ⟨_, rfl, _, rfl, d, xs, v, _, rfl, rfl, SqL.of (s4 _ _ a1), a2, _, rfl, la, _, q.1, _, rfl, rfl, SqL.of (s4 _ _ a3), at_row (wi q hq).1 (wi q hq).2, _, rfl, _, _, rfl, rfl, hyes rfl H4 (Same.refl _)⟩
        · have ee : (((ps.map fun q : Int × Int => q.1).filter fun _ => true).map fun w => V.bl (decide (D n rs v w ≤ W))) = ((ps.map fun q : Int × Int => q.1).map fun w => decide (D n rs v w ≤ W)).map V.bl := by
            rw [List.filter_eq_self.mpr fun _ _ => rfl, List.map_map, List.map_map, List.map_map]; rfl
          rw [ee] at hD4
          have s54 := s5.trans s4
          refine ⟨D', _, rfl, SqL.of hD4, _, rfl, ?_⟩
          rw [List.any_map, List.any_map]
          show (if (!(ps.any fun q => decide (D n rs v q.1 ≤ W))) = true then _ else _)
          cases c2 : (ps.any fun q => decide (D n rs v q.1 ≤ W)) with
          | true =>
            refine iteF ?_
            obtain ⟨q, hq, cq⟩ := List.any_eq_true.mp c2
            refine ⟨ps, _, _, rfl, s54, s4 _ _ h35, s4 _ _ h45, dug, fun q hq => by rw [tk]; exact List.mem_append_left _ (hin q hq), fun x hx => ?_, by omega⟩
            rw [tk] at hx
            rcases List.mem_append.mp hx with hx | hx
            · exact cov x hx
            · rw [List.mem_singleton.mp hx]
              exact ⟨q, hq, by simpa using cq⟩
          | false =>
            refine iteT ?_
            have c2' : ∀ q ∈ ps, W < D n rs v q.1 := fun q hq => by
              have h := List.any_eq_false.mp c2 q hq
              simp at h
              exact h
            have hRw6 := hRw5.same s4
            have hF6 := hF5.same s4
            have a1' := s4 _ _ a1
            have a3' := s4 _ _ a3
            have h34 := s4 _ _ h35
            have h44 := s4 _ _ h45
            clear hD4 ee
            refine ⟨_, rfl, ?_⟩
            refine ⟨fun σ' H' => H' = H4 ∧ ∃ x, σ' = [some (.ref t), some (.int W), some (.ref d), some (.ref wd), some (.ref p), some (.ref l3), some (.ref l4), some (.int v), some (.int x), none] ∧ Pair n rs W (x, v), ?_, ?_⟩
            · refine ⟨fun m σ' H' => H' = H4 ∧ ∃ x, σ' = [some (.ref t), some (.int W), some (.ref d), some (.ref wd), some (.ref p), some (.ref l3), some (.ref l4), some (.int v), some (.int x), none] ∧ (0 ≤ x ∧ x < n) ∧ D n rs v x ≤ W ∧ D n rs 0 v = D n rs 0 x + D n rs x v ∧ m = (D n rs 0 x).toNat, ⟨_, rfl, v, rfl, vr, by rw [D_self hT vr]; exact w0, by rw [D_self hT vr]; omega, rfl⟩, ?_⟩
              rintro m σ' H6 ⟨rfl, x, rfl, hx, near, line, rfl⟩
              by_cases ex : x = 0
              · subst ex
                obtain ⟨tt, hg, ht⟩ := found_get hF6 (hT.walked z0).gr.look_start
                refine ⟨_, rfl, _, rfl, wd, _, rfl, hg, tt, _, 0, _, rfl, rfl, SqT.of ht, rfl, _, _, rfl, rfl, _, rfl, ?_⟩
                rw [decide_eq_false (show ¬ ((-1 : Int) ≥ 0) by decide)]
                refine iteF ?_
                refine iteF ?_
                exact ⟨rfl, 0, rfl, z0, vr, near, line, .inl rfl⟩
              · obtain ⟨q, l, lk, aq, dq, q0, q1⟩ := D_parent hT z0 hx ex
                obtain ⟨tt, hg, ht⟩ := found_get hF6 lk
                refine ⟨_, rfl, _, rfl, wd, _, rfl, hg, tt, _, 0, _, rfl, rfl, SqT.of ht, rfl, _, _, rfl, rfl, _, rfl, ?_⟩
                rw [decide_eq_true (show q ≥ 0 from q0)]
                refine iteT ?_
                refine ⟨_, rfl, _, rfl, d, xs, v, _, rfl, rfl, SqL.of a1', a2, _, rfl, _, rfl, wd, _, rfl, hg, tt, _, 0, _, rfl, rfl, SqT.of ht, rfl, la, _, q, _, rfl, rfl, SqL.of a3', at_row q0 q1, _, rfl, _, _, rfl, rfl, _, rfl, ?_⟩
                have qr : 0 ≤ q ∧ q < n := ⟨q0, q1⟩
                by_cases cq : D n rs v q ≤ W
                · rw [decide_eq_true cq]
                  refine iteT ?_
                  refine ⟨_, fun _ _ z => z, ?_⟩
                  refine ⟨_, rfl, _, rfl, wd, _, rfl, hg, tt, _, 0, _, rfl, rfl, SqT.of ht, rfl, ?_⟩
                  have t1 := D_tri hT z0 qr vr
                  have t2 := D_tri hT qr hx vr
                  have t3 := D_edge hT aq
                  have lpos := (aq.range hT.toRoadsOk).2.2.2.2.2.1
                  have nn := D_nonneg hT z0 qr
                  refine ⟨(D n rs 0 q).toNat, by omega, rfl, q, rfl, qr, cq, by omega, rfl⟩
                · rw [decide_eq_false cq]
                  refine iteF ?_
                  exact ⟨rfl, x, rfl, hx, vr, near, line, .inr ⟨q, l, aq, dq, by show W < D n rs v q; omega⟩⟩
            · rintro σ' H6 ⟨rfl, x, rfl, pr⟩
              refine ⟨_, rfl, .inl ⟨rfl, _, SqL.of h34⟩, _, rfl, l3, _, _, rfl, rfl, h34, szl (by rw [List.length_map, List.length_map]; omega), ?_⟩
              have s6 := Same.mut (o := .lst (((ps.map fun q : Int × Int => q.1).map V.int) ++ [.int x])) s54 hl3
              have h36 : upd H6 l3 (.lst (((ps.map fun q : Int × Int => q.1).map V.int) ++ [.int x])) l3 = some (.lst (((ps ++ [(x, v)]).map fun q : Int × Int => q.1).map V.int)) := by rw [upd_same]; simp
              have h46 : upd H6 l3 (.lst (((ps.map fun q : Int × Int => q.1).map V.int) ++ [.int x])) l4 = some (.lst ((ps.map fun q : Int × Int => q.2).map V.int)) := by rw [upd_ne n34.symm]; exact h44
              refine of_nx ?_
              show tDrop _ _ _ (upd H6 l3 (.lst (((ps.map fun q : Int × Int => q.1).map V.int) ++ [.int x])))
              generalize upd H6 l3 (.lst (((ps.map fun q : Int × Int => q.1).map V.int) ++ [.int x])) = H7 at s6 h36 h46 ⊢
              refine ⟨_, rfl, .inl ⟨rfl, _, SqL.of h46⟩, _, rfl, l4, _, _, rfl, rfl, h46, szl (by rw [List.length_map, List.length_map]; omega), ?_⟩
              refine ⟨ps ++ [(x, v)], _, _, rfl, Same.mut s6 f4, by rw [upd_ne n34]; exact h36, by rw [upd_same]; simp, dug.snoc pr fun q hq => ⟨c2' q hq, ?_⟩, fun q hq => ?_, fun y hy => ?_, by rw [List.length_append, List.length_singleton]; omega⟩
              · -- later ones are no deeper
                have hin' := hin q hq
                have pw' := pw
                rw [← List.take_append_drop i ns] at pw'
                have hd : v ∈ ns.drop i := by
                  rw [List.drop_eq_getElem_cons ilt]
                  rw [List.getElem?_eq_getElem ilt] at hv
                  rw [Option.some.inj hv]
                  exact List.mem_cons_self
                have kl := (List.pairwise_append.mp pw').2.2 q.2 hin' v hd
                have qr := (dug.good q hq).c
                have kl' := SrtO.lexB_no.mp (show SrtO.lexB (-(D n rs 0 ((v.toNat : Nat) : Int)), ((v.toNat : Nat) : Int)) (-(D n rs 0 ((q.2.toNat : Nat) : Int)), ((q.2.toNat : Nat) : Int)) = false from kl)
                rw [show ((v.toNat : Nat) : Int) = v by omega, show ((q.2.toNat : Nat) : Int) = q.2 by omega] at kl'
                show D n rs 0 v ≤ D n rs 0 q.2
                simp only at kl'
                omega
              · rw [tk]
                rcases List.mem_append.mp hq with h | h
                · exact List.mem_append_left _ (hin q h)
                · rw [List.mem_singleton.mp h]
                  exact List.mem_append_right _ (List.mem_singleton.mpr rfl)
              · rw [tk] at hy
                rcases List.mem_append.mp hy with h | h
                · obtain ⟨q, hq, z⟩ := cov y h
                  exact ⟨q, List.mem_append_left _ hq, z⟩
                · rw [List.mem_singleton.mp h]
                  exact ⟨(x, v), List.mem_append_right _ (List.mem_singleton.mpr rfl), pr.near⟩
      · rintro σ' H5 ⟨ps, v7, v8, rfl, s5, h35, h45, dug, hin, cov, pl⟩
        rw [List.length_map, List.take_length] at cov
        refine ⟨_, rfl, l3, _, rfl, .inl (SqL.of h35), fun ws q1 pm1 or1 hq1 => ?_⟩
        have s6 := s5.trans (Same.new (o := .lst (ws.map V.int)) hq1)
        have h46 := keepN (u := .lst (ws.map V.int)) h45 hq1
        have hq16 : upd H5 q1 (.lst (ws.map V.int)) q1 = some (.lst (ws.map V.int)) := upd_same
        generalize upd H5 q1 (.lst (ws.map V.int)) = H6 at s6 h46 hq16 ⊢
        refine ⟨_, rfl, l4, _, rfl, .inl (SqL.of h46), fun cs q2 pm2 or2 hq2 => ?_⟩
        have s7 := s6.trans (Same.new (o := .lst (cs.map V.int)) hq2)
        have hq17 := keepN (u := .lst (cs.map V.int)) hq16 hq2
        have hq27 : upd H6 q2 (.lst (cs.map V.int)) q2 = some (.lst (cs.map V.int)) := upd_same
        generalize upd H6 q2 (.lst (cs.map V.int)) = H7 at s7 hq17 hq27 ⊢
        refine fun a dx hp hdx hne => ?_
        have s23 : Same H7 (upd (upd H7 dx (.own a)) a (.ins CW dx [])) := fun b o e => by
          rw [upd_ne (ne_of_none e hp), upd_ne (ne_of_none e hdx)]; exact e
        refine ⟨a, q1, q2, dx, ws, cs, rfl, upd_same, s23 _ _ hq17, s23 _ _ hq27, fun H9 z1 z2 kp hz1 hz2 hAns => ⟨rfl, ?_⟩⟩
        have s9 : Same H7 H9 := fun b o e => kp b o (s23 b o e) (ne_of_none e hp)
        have s79 := s7.trans s9
        refine k a z1 z2 ws cs H9 (eH.trans (ExtN.same s79)) (Tabs.same TB' s79) (ExtN.fr eH (Fr0.of (s7.free hp))) (ExtN.fr eH (Fr0.of (s7.free (s23.free hz1)))) (ExtN.fr eH (Fr0.of (s7.free (s23.free hz2)))) hAns (dug_res hT dug (fun v h0 h1 => cov v ((nsm v).mpr ⟨h0, h1⟩)) pm1 pm2 or1 or2)
end
end Wr

namespace Wr
open PySem L2 LamX
section
variable {P : Program} {w : World} {K : PySem.W.Frag} {mg : Str → Option Value} {base : Heap}
/-- each number under itself -/
def kD (ks : List Int) : List (Key × V) := ks.map fun x => (Sum.inl x, V.int x)
def addK (ks : List Int) (x : Int) : List Int := if x ∈ ks then ks else ks ++ [x]
theorem kD_any (x : Int) : ∀ ks : List Int, ((kD ks).any fun kv => decide (kv.1 = (Sum.inl x : Key))) = decide (x ∈ ks)
  | [] => by simp [kD]
  | y :: ks => by
    have ih := kD_any x ks
    rw [show kD (y :: ks) = (Sum.inl y, V.int y) :: kD ks from rfl, List.any_cons, ih]
    by_cases e : x = y
    · subst e; simp
    · have e2 : ¬ (Sum.inl y : Key) = Sum.inl x := fun q => e (Sum.inl.inj q).symm
      simp [e, e2]
theorem kD_put (ks : List Int) (x : Int) : putK (kD ks) (Sum.inl x : Key) (.int x) = kD (addK ks x) := by
  unfold putK addK
  rw [kD_any]
  by_cases h : x ∈ ks
  · rw [if_pos (decide_eq_true h), if_pos h]
    unfold kD
    rw [List.map_map]
    refine List.map_congr_left fun y hy => ?_
    show (if (Sum.inl y : Key) = Sum.inl x then ((Sum.inl y : Key), V.int x) else (Sum.inl y, V.int y)) = _
    by_cases e : y = x
    · subst e; rw [if_pos rfl]
    · rw [if_neg fun q => e (Sum.inl.inj q)]
  · rw [if_neg (by simpa using h), if_neg h]
    simp [kD]
theorem kD_is (ks : List Int) (x : Int) : (valV (kD ks) (Sum.inl x : Key)).isSome = decide (x ∈ ks) := by rw [← valV_any, kD_any]
theorem kD_keys (ks : List Int) : (kD ks).map (·.1) = ks.map Sum.inl := by unfold kD; rw [List.map_map]; rfl
/-- what stands in the dict: lengths of ways alone, all of those in cov -/
structure Coll (n : Nat) (rs : List Road) (ks : List Int) (cov : Int → Int → Prop) : Prop where
  nd : ks.Nodup
  isD : ∀ x ∈ ks, IsD n rs x
  zero : (0 : Int) ∈ ks
  cov : ∀ u v : Int, (0 ≤ u ∧ u < n) → (0 ≤ v ∧ v < n) → cov u v → D n rs u v ∈ ks
theorem Coll.start {n : Nat} {rs : List Road} {cov : Int → Int → Prop} (h : ∀ u v : Int, (0 ≤ u ∧ u < n) → (0 ≤ v ∧ v < n) → ¬ cov u v) : Coll n rs [0] cov :=
  ⟨by simp, fun x hx => by rw [List.mem_singleton.mp hx]; exact .inl rfl, by simp, fun u v hu hv hc => absurd hc (h u v hu hv)⟩
theorem Coll.add {n : Nat} {rs : List Road} {ks : List Int} {cov cov' : Int → Int → Prop} (c : Coll n rs ks cov) {u v : Int} (hu : 0 ≤ u ∧ u < n) (hv : 0 ≤ v ∧ v < n) (h : ∀ a b, cov' a b → cov a b ∨ (a = u ∧ b = v)) : Coll n rs (addK ks (D n rs u v)) cov' := by
  have sub : ∀ x ∈ ks, x ∈ addK ks (D n rs u v) := fun x hx => by
    unfold addK
    split
    · exact hx
    · exact List.mem_append_left _ hx
  have new : D n rs u v ∈ addK ks (D n rs u v) := by
    unfold addK
    split
    · assumption
    · simp
  refine ⟨?_, fun x hx => ?_, sub _ c.zero, fun a b ha hb hc => ?_⟩
  · unfold addK
    split
    · exact c.nd
    · rename_i hn
      rw [List.nodup_append]
      refine ⟨c.nd, by simp, fun a ha b hb e => ?_⟩
      rw [List.mem_singleton] at hb
      subst hb; subst e
      exact hn ha
  · unfold addK at hx
    split at hx
    · exact c.isD x hx
    · rcases List.mem_append.mp hx with hx | hx
      · exact c.isD x hx
      · rw [List.mem_singleton.mp hx]
        exact .inr ⟨u, v, hu, hv, rfl⟩
  · rcases h a b hc with h | ⟨rfl, rfl⟩
    · exact sub _ (c.cov a b ha hb h)
    · exact new
theorem Coll.weak {n : Nat} {rs : List Road} {ks : List Int} {cov cov' : Int → Int → Prop} (c : Coll n rs ks cov) (h : ∀ a b : Int, (0 ≤ a ∧ a < n) → (0 ≤ b ∧ b < n) → cov' a b → cov a b) : Coll n rs ks cov' := ⟨c.nd, c.isD, c.zero, fun u v hu hv q => c.cov u v hu hv (h u v hu hv q)⟩
theorem Coll.all {n : Nat} {rs : List Road} {ks : List Int} (c : Coll n rs ks fun _ _ => True) {x : Int} (h : IsD n rs x) : x ∈ ks := by
  rcases h with rfl | ⟨u, v, hu, hv, rfl⟩
  · exact c.zero
  · exact c.cov u v hu hv trivial
def spLeast (CT CW PD : Addr) : Sp := fun vs H Q _ => ∃ (t : Addr) (many : Int) (n : Nat) (rs : List Road), vs = [.ref t, .int many] ∧ Tabs [(PD, qDug)] H ∧ TreeAt CT H t n rs ∧ IsTree n rs ∧ n ≤ 8 ∧ 1 ≤ many ∧ many ≤ 12 ∧
  ∀ x H', ExtN H H' → Tabs [(PD, qDug)] H' → Least n rs many x → Q (.int x) H'
-- slots: 0:tree, 1:many, 2:found, 3:row, 4:one, 5:walk
theorem sc_least_walk : FnScope ["tree", "many", "found", "row", "one", "walk"] ["tree", "many"] (defScope S_least_walk) := ⟨rfl, rfl, rfl, by decide +kernel, rfl, by decide +kernel, by decide +kernel⟩
theorem ok_least {f CT CW PD : Addr} {fd : FuncData} (F : Fun K "least_walk" "least_walk" S_least_walk f fd) (B : Bi mg) (O : Ox K CW "wells" "callers") (mM : ∃ t, mg "MOST" = some (.int 12 t)) (G_within : Gd P w K mg base 2 "within" ["number", "low", "high"] (spWithin K)) (G_distances : Gd P w K mg base 2 "distances" ["tree"] (spDistances CT))
    (G_dug : Gd P w K mg base 5 "dug" ["tree", "walk"] (spDug CT CW PD)) : FnOk P w K mg base CX0 6 f fd ["tree", "many"] (spLeast CT CW PD) := by
  obtain ⟨tM, m_MOST⟩ := mM
  refine F.ok sc_least_walk (fun vs H Q E h => ?_) (fun cdv A outer s H vs Q E hr h => ?_)
  · obtain ⟨t, many, n, rs, rfl, _⟩ := h
    rfl
  · obtain ⟨t, many, n, rs, rfl, hTb, hA, tree, n8, m1, m12, k⟩ := h
    have hu := hu_of hr
    have nd := sc_least_walk.nd
    refine ⟨_, (pss_cons (ps_if (pt_not (pt_val (pe_g G_within hr rfl (pa_cons (pv 1) (pa_cons pe_int (pa_cons (pe_glob (v := .int 12) rfl m_MOST ⟨_, rfl⟩) pa_nil))))))
    (pss_one ps_never) pss_nil)
    (pss_cons (ps_set (i := 2) nd rfl (Or.inl rfl) (pe_disp (pps_cons pe_int pe_int pps_nil) (by rfl) (by rfl) (fun z => by cases z) (by decide)))
    (pss_cons (ps_for PassesOwn.never rfl (pi_list (pe_g G_distances hr rfl (pa_cons (pv 0) pa_nil))) (pg_name (i := 3) nd rfl (Or.inl rfl))
    (pss_one (ps_for PassesOwn.never rfl (pi_list (pv 3)) (pg_name (i := 4) nd rfl (Or.inl rfl))
    (pss_one (ps_dput hu (pv 2) (pv 4) (pv 4) rfl)))))
    (pss_cons (ps_for PassesOwn.never rfl (pi_list (pe_callB (call_sortedDI rfl) (by rfl) B.sorted (by decide +kernel) (pa_cons (pv 2) pa_nil))) (pg_name (i := 5) nd rfl (Or.inl rfl))
    (pss_one (ps_if (pt_cmpR op_le (pe_callB call_len_seq (by rfl) B.len (by decide +kernel) (pa_cons (pe_fld (pe_g G_dug hr rfl (pa_cons (pv 0) (pa_cons (pv 5) pa_nil))) rfl) pa_nil)) (pv 1) (nomark _))
    (pss_one (ps_ret (pv 5))) pss_nil)))
    (pss_one (ps_ret pe_int)))))), ?_⟩
    refine ⟨_, rfl, _, 1, 12, rfl, Plain.int _, _, rfl, ?_⟩
    rw [withinV_of m1 m12]
    refine iteF ?_
    intro d hd
    refine ⟨upd_same, [(.inl 0, .int 0)], rfl, (show 1 ≤ 15 by decide), ?_⟩
    have s1 : Same H (upd (upd H d (.dK [])) d (.dK (mergeK [] [(.inl 0, .int 0)]))) := Same.mut (Same.new hd) hd
    have hd1 : upd (upd H d (.dK [])) d (.dK (mergeK [] [(.inl 0, .int 0)])) d = some (.dK (kD [0])) := upd_same
    generalize upd (upd H d (.dK [])) d (.dK (mergeK [] [(.inl 0, .int 0)])) = H1 at s1 hd1 ⊢
    refine ⟨_, rfl, t, n, rs, rfl, hA.same s1, tree, fun dr H2 hdr s2 hRw => ?_⟩
    have s12 := s1.trans s2
    obtain ⟨xs, hx1, hxP⟩ := id hRw
    have xl : xs.length = n := by rw [← hxP.length]; simp [rowsD, ivs]
    refine ⟨dr, rfl, ⟨xs, SqL.of hx1⟩, for_list (K := K) (a := dr) (xs := xs) (fun i σ' H' => ∃ ks v3 v4, σ' = [some (.ref t), some (.int many), some (.ref d), v3, v4, none] ∧ Same H H' ∧ (∀ b o, H2 b = some o → b ≠ d → H' b = some o) ∧ H' d = some (.dK (kD ks)) ∧ Coll n rs ks (fun u _ => u < i))
      ⟨[0], none, none, rfl, s12, fun b o e _ => e, s2 _ _ hd1, .start fun u v hu hv h => by omega⟩ (fun i σ' H' _ ⟨_, _, _, _, _, e, _⟩ => SqL.of (e _ _ hx1 ?_)) ?_ ?_⟩
    · exact (ne_of hx1 (s2 _ _ hd1) (by intro z; cases z))
    · rintro i y σ' H3 hy ⟨ks, v3, v4, rfl, s3, e3, hd3, co⟩
      have hi : i < n := by rw [← xl]; exact (List.getElem?_eq_some_iff.mp hy).1
      obtain ⟨row, hrow, l, rfl, _, _, hl⟩ := paired_get' hxP hy
      have er : row = rowD n rs (i : Int) := by
        have e : (rowsD n rs)[i]? = some (rowD n rs (i : Int)) := by simp [rowsD, ivs, hi]
        rw [e] at hrow
        exact (Option.some.inj hrow).symm
      rw [er] at hl
      have nld : l ≠ d := ne_of hl (s2 _ _ hd1) (by intro z; cases z)
      refine of_gName ?_
      refine ⟨_, rfl, l, rfl, ⟨_, SqL.of (e3 _ _ hl nld)⟩, for_list (K := K) (a := l) (xs := (rowD n rs (i : Int)).map V.int) (fun j σ' H' => ∃ ks v4, σ' = [some (.ref t), some (.int many), some (.ref d), some (.ref l), v4, none] ∧ Same H H' ∧ (∀ b o, H2 b = some o → b ≠ d → H' b = some o) ∧ H' d = some (.dK (kD ks)) ∧ Coll n rs ks (fun u v => u < i ∨ (u = i ∧ v < j)))
        ⟨ks, v4, rfl, s3, e3, hd3, co.weak fun a b ha hb q => by rcases q with q | q; exact q; omega⟩ (fun j σ' H' _ ⟨_, _, _, _, e, _⟩ => SqL.of (e _ _ hl nld)) ?_ ?_⟩
      · rintro j y σ' H4 hy ⟨ks, v4, rfl, s4, e4, hd4, co⟩
        have hj : j < n := by
          have := (List.getElem?_eq_some_iff.mp hy).1
          rw [List.length_map] at this
          simpa [rowD, ivs] using this
        have ey : y = .int (D n rs (i : Int) (j : Int)) := by
          rw [List.getElem?_map] at hy
          obtain ⟨z, hz, rfl⟩ := Option.map_eq_some_iff.mp hy
          have e : (rowD n rs (i : Int))[j]? = some (D n rs (i : Int) (j : Int)) := by simp [rowD, ivs, hj]
          rw [e] at hz
          rw [← Option.some.inj hz]
        subst ey
        have few := few_keys tree n8 co.nd co.isD
        refine of_gName ?_
        refine ⟨_, rfl, _, rfl, _, rfl, d, _, rfl, DPut.k (k := Sum.inl (D n rs (i : Int) (j : Int))) hd4 (szl (by unfold kD; rw [List.length_map]; omega)), ?_⟩
        refine ⟨addK ks (D n rs (i : Int) (j : Int)), _, rfl, Same.mut s4 hd, fun b o e nb => by rw [upd_ne nb]; exact e4 b o e nb, by rw [upd_same, kD_put], co.add ⟨by omega, by omega⟩ ⟨by omega, by omega⟩ fun a b q => ?_⟩
        rcases q with q | ⟨q1, q2⟩
        · exact .inl (.inl q)
        · by_cases e : b = j
          · exact .inr ⟨q1, e⟩
          · exact .inl (.inr ⟨q1, by omega⟩)
      · rintro σ' H4 ⟨ks, v4, rfl, s4, e4, hd4, co⟩
        have ln : ((rowD n rs (i : Int)).map V.int).length = n := by rw [List.length_map]; simp [rowD, ivs]
        rw [ln] at co
        refine ⟨ks, _, _, rfl, s4, e4, hd4, co.weak fun a b ha hb q => ?_⟩
        by_cases e : a = i
        · exact .inr ⟨e, hb.2⟩
        · exact .inl (by omega)
    · rintro σ' H3 ⟨ks, v3, v4, rfl, s3, e3, hd3, co⟩
      rw [xl] at co
      have co : Coll n rs ks fun _ _ => True := co.weak fun a b ha hb _ => ha.2
      have few := few_keys tree n8 co.nd co.isD
      clear hRw hxP hx1 e3 s2 s12 hdr xl hd1 s1 xs
      refine ⟨_, rfl, d, kD ks, ks, rfl, .inl hd3, kD_keys ks, by omega, fun ys p pm pw hp => ?_⟩
      have s4 := s3.trans (Same.new (o := .lst (ys.map V.int)) hp)
      have hp4 : upd H3 p (.lst (ys.map V.int)) p = some (.lst (ys.map V.int)) := upd_same
      generalize upd H3 p (.lst (ys.map V.int)) = H4 at s4 hp4 ⊢
      refine ⟨p, rfl, ⟨_, SqL.of hp4⟩, for_list (K := K) (a := p) (xs := ys.map V.int) (fun i σ' H' => ∃ v5, σ' = [some (.ref t), some (.int many), some (.ref d), v3, v4, v5] ∧ ExtN H4 H' ∧ Tabs [(PD, qDug)] H' ∧ ∀ y ∈ ys.take i, ∃ ws cs, DugRes n rs y ws cs ∧ many < (ws.length : Int))
        ⟨none, rfl, ExtN.refl _, Tabs.same hTb s4, fun y h => by simp at h⟩ (fun i σ' H' _ ⟨_, _, e, _⟩ => SqL.of (ExtN.keep e hp4)) ?_ ?_⟩
      · rintro i y σ' H5 hy ⟨v5, rfl, e5, T5, hall⟩
        rw [List.getElem?_map] at hy
        obtain ⟨x, hx, rfl⟩ := Option.map_eq_some_iff.mp hy
        have xk : x ∈ ks := pm.mem_iff.mp (List.mem_of_getElem? hx)
        have xD := co.isD x xk
        have xr := xD.rg tree
        have eH := (ExtN.same s4).trans e5
        refine of_gName ?_
        refine ⟨_, rfl, _, rfl, t, x, n, rs, rfl, T5, hA.ext eH, tree, xr.1, xr.2, fun a l1 l2 ws cs H6 e6 T6 _ _ _ hO good => ?_⟩
        obtain ⟨dx, hI⟩ := hO.ins
        refine ⟨a, CW, dx, _, _, rfl, hI, O.cl, O.n1, ofs_1 _ _ _ _, l1, _, rfl, .inl (SqL.of hO.h1), ?_⟩
        rw [List.length_map]
        refine ⟨_, rfl, _, _, rfl, rfl, _, rfl, ?_⟩
        by_cases c : ((ws.length : Nat) : Int) ≤ many
        · rw [decide_eq_true c]
          refine iteT ?_
          refine ⟨_, rfl, k x H6 (eH.trans e6) T6 ⟨xD, ⟨ws, cs, good, c⟩, fun y hy hlt => ?_⟩⟩
          have hm : y ∈ ys := pm.mem_iff.mpr (co.all hy)
          refine hall y ?_
          have hm' : y ∈ ys.take i ++ ys.drop i := by rw [List.take_append_drop]; exact hm
          rcases List.mem_append.mp hm' with h | h
          · exact h
          · exfalso
            obtain ⟨hi, e⟩ := List.getElem?_eq_some_iff.mp hx
            rw [List.drop_eq_getElem_cons hi, e] at h
            have pd : (ys.drop i).Pairwise (· ≤ ·) := List.Pairwise.sublist (List.drop_sublist ..) pw
            rw [List.drop_eq_getElem_cons hi, e] at pd
            rcases List.mem_cons.mp h with h | h
            · omega
            · have := (List.pairwise_cons.mp pd).1 y h
              omega
        · rw [decide_eq_false c]
          refine iteF ?_
          refine ⟨_, rfl, e5.trans e6, T6, fun y hy => ?_⟩
          rw [List.take_add_one, hx] at hy
          rcases List.mem_append.mp hy with hy | hy
          · exact hall y hy
          · have e : y = x := by simpa using hy
            subst e
            exact ⟨ws, cs, good, by omega⟩
      · rintro σ' H5 ⟨v5, rfl, e5, T5, hall⟩
        exfalso
        rw [List.length_map, List.take_length] at hall
        obtain ⟨zs, W, hz⟩ : ∃ zs W, ys = zs ++ [W] := by
          rcases List.eq_nil_or_concat ys with e | ⟨zs, W, e⟩
          · have := pm.mem_iff.mpr co.zero
            rw [e] at this
            cases this
          · exact ⟨zs, W, by rw [e]; simp⟩
        obtain ⟨ws, cs, good, h⟩ := hall W (by rw [hz]; simp)
        have one := dug_one tree good fun c c0 c1 => by
          have hm : D n rs 0 c ∈ ys := pm.mem_iff.mpr (co.all (.inr ⟨0, c, ⟨Int.le_refl _, by have := tree.pos; omega⟩, ⟨c0, c1⟩, rfl⟩))
          rw [hz] at hm pw
          rcases List.mem_append.mp hm with q | q
          · exact (List.pairwise_append.mp pw).2.2 _ q W (by simp)
          · rw [List.mem_singleton.mp q]; exact Int.le_refl _
        omega
end
end Wr

namespace Wr
open PySem L2
section
variable {P : Program} {w : World} {K : PySem.W.Frag} {mg : Str → Option Value} {base : Heap}
def spCheckPeople (C : Addr) : Sp := fun vs H Q _ => ∃ (t a : Addr) (n : Nat) (rs : List Road) (p : List Int), vs = [.ref t, .ref a] ∧ TreeAt C H t n rs ∧ H a = some (.lst (p.map V.int)) ∧ p.length = n ∧ n ≤ 12 ∧ (∀ x ∈ p, 0 ≤ x ∧ x ≤ 1000000) ∧ ∀ H', Same H H' → Q .non H'
-- slots: 0:tree, 1:people, 2:one
theorem sc_check_people : FnScope ["tree", "people", "one"] ["tree", "people"] (defScope S_check_people) := ⟨rfl, rfl, rfl, by decide +kernel, rfl, by decide +kernel, by decide +kernel⟩
theorem ok_check_people {f C : Addr} {fd : FuncData} (F : Fun K "check_people" "check_people" S_check_people f fd) (T : Tx K mg C) (B : Bi mg) (mL : ∃ t, mg "LONGEST" = some (.int 1000000 t)) (G_within : Gd P w K mg base 2 "within" ["number", "low", "high"] (spWithin K)) :
    FnOk P w K mg base CX0 3 f fd ["tree", "people"] (spCheckPeople C) := by
  obtain ⟨tL, m_LONGEST⟩ := mL
  refine F.ok sc_check_people (fun vs H Q E h => ?_) (fun cdv A outer s H vs Q E hr h => ?_)
  · obtain ⟨t, a, n, rs, p, rfl, _⟩ := h
    rfl
  · obtain ⟨t, a, n, rs, p, rfl, hA, hp, hl, hn, hr0, k⟩ := h
    have hu := hu_of hr
    have nd := sc_check_people.nd
    refine ⟨_, (pss_cons (ps_if (PW.pt (pw_or (pt_not (pt_val (pe_callB call_isi (by rfl) B.isinstance (by decide +kernel) (pa_cons (pv 1) (pa_cons (pe_bltn (v := .ty "list") (by rfl) B.list (by decide +kernel) rfl) pa_nil))))) (pw_or1 (pt_cmpR op_ne (pe_callB call_len_seq (by rfl) B.len (by decide +kernel) (pa_cons (pv 1) pa_nil)) (pe_fld (pv 0) rfl) (nomark _)))))
    (pss_one ps_never) pss_nil)
    (pss_one (ps_if (pt_not (pt_val (pe_callB (cr_allK K rfl) (by rfl) B.all (by decide +kernel) (pa_cons (pe_lc (own := [("one", 2)]) (g := gName 2) (tt := tYes) rfl nd (pi_list (pv 1)) (blkOk_by (N := ["tree", "people", "one"]) (sc := defScope S_check_people) (by decide +kernel)) (fun _ _ _ _ _ => (pg_name (i := 2) nd rfl (Or.inl rfl))) (fun _ _ _ _ _ => pts_nil) (fun _ _ _ _ _ => (pe_g G_within hr rfl (pa_cons (pv 2) (pa_cons pe_int (pa_cons (pe_glob (v := .int 1000000) rfl m_LONGEST ⟨_, rfl⟩) pa_nil)))))) pa_nil))))
    (pss_one ps_never) pss_nil))), ?_⟩
    obtain ⟨dx, r, h1⟩ := tree_ins hA
    refine ⟨_, rfl, .ref a, _, .type "list", _, true, rfl, .ty _, .base (.lst hp), kit_ty (by decide +kernel), true, rfl, ?_⟩
    refine iteF ?_
    refine ⟨_, rfl, a, _, rfl, .inl (SqL.of hp), _, rfl, t, C, dx, _, _, rfl, h1, T.cl, T.nS, tfs_size _ _, rfl, _, rfl, ?_⟩
    rw [dec_int, List.length_map, hl, show ((n : Int) == (n : Int)) = true by simp]
    refine iteF ?_
    refine of_next (of_ifs (of_not (of_b (of_cb1 (lc_at (Itl K a) (fun R hR => ⟨_, rfl, a, rfl, ⟨_, SqL.of hp⟩, hR⟩) ?_)))))
    refine lcl (d := (0 : Int)) (fun x v => v = .int x) (paired_self p) (SqL.of hp) (by omega) (fun _ => true) (fun x => .bl (withinV (.int x) 0 1000000)) (fun x v hx hE H3 s3 Yes No hy _ => ?_) (fun D' H3 hD' s3 hD3 => ?_)
    · subst hE
      refine turn_all ?_
      exact ⟨_, rfl, _, 0, 1000000, rfl, Plain.int _, hy rfl _ (Same.refl _)⟩
    · have e : ((p.filter fun _ => true).map fun x => V.bl (withinV (.int x) 0 1000000)) = (p.map fun x => withinV (.int x) 0 1000000).map V.bl := by
        rw [List.filter_eq_self.mpr fun _ _ => rfl, List.map_map]; rfl
      rw [e] at hD3
      refine ⟨D', _, rfl, SqL.of hD3, _, rfl, ?_⟩
      have ha : ((p.map fun x => withinV (.int x) 0 1000000).all id) = true := by
        rw [List.all_map, List.all_eq_true]
        intro x hx
        exact withinV_of (hr0 x hx).1 (hr0 x hx).2
      rw [ha]
      refine iteF ?_
      exact k H3 s3

def spWalks (C : Addr) : Sp := fun vs H Q _ => ∃ (t a : Addr) (n : Nat) (rs : List Road) (p : List Int), vs = [.ref t, .ref a] ∧ TreeAt C H t n rs ∧ IsTree n rs ∧ H a = some (.lst (p.map V.int)) ∧ p.length = n ∧ (∀ x ∈ p, 0 ≤ x ∧ x ≤ 1000000) ∧
  ∀ d H', H d = none → Same H H' → H' d = some (.lst ((walksL n rs p).map V.int)) → Q (.ref d) H'
-- slots: 0:tree*, 1:people*, 2:row, 3:k
theorem sc_walks : FnScope ["tree", "people", "row", "k"] ["tree", "people"] (defScope S_walks) := ⟨rfl, rfl, rfl, by decide +kernel, rfl, by decide +kernel, by decide +kernel⟩
theorem ok_walks {f C : Addr} {fd : FuncData} (F : Fun K "walks" "walks" S_walks f fd) (T : Tx K mg C) (B : Bi mg) (G_distances : Gd P w K mg base 2 "distances" ["tree"] (spDistances C)) (G_check_people : Gd P w K mg base 3 "check_people" ["tree", "people"] (spCheckPeople C)) :
    FnOk P w K mg base CX0 4 f fd ["tree", "people"] (spWalks C) := by
  refine F.ok sc_walks (fun vs H Q E h => ?_) (fun cdv A outer s H vs Q E hr h => ?_)
  · obtain ⟨t, a, n, rs, p, rfl, _⟩ := h
    rfl
  · obtain ⟨t, a, n, rs, p, rfl, hA, hT, hp, hl, hr0, k⟩ := h
    have nd := sc_walks.nd
    have n1 := hT.pos
    have n12 := hT.le
    refine ⟨_, (pss_cons (ps_expr (pe_g G_check_people hr rfl (pa_cons (pv 0) (pa_cons (pv 1) pa_nil))))
    (pss_one (ps_ret (pe_lc (own := [("row", 2)]) (g := gName 2) (tt := tYes) rfl nd (pi_list (pe_g G_distances hr rfl (pa_cons (pv 0) pa_nil))) (blkOk_by (N := ["tree", "people", "row", "k"]) (sc := defScope S_walks) (by decide +kernel)) (fun _ _ _ _ _ => (pg_name (i := 2) nd rfl (Or.inr rfl))) (fun _ _ _ _ _ => pts_nil) (fun _ _ _ _ _ => (pe_callB (cr_sumK K rfl) (by rfl) B.sum (by decide +kernel) (pa_cons (pe_lc (own := [("k", 3)]) (g := gName 3) (tt := tYes) rfl nd (pi_range1 (by rfl) B.range (pa_cons (pe_fldK K (pv 0) rfl) pa_nil)) (blkOk_by (N := ["tree", "people", "row", "k"])  rfl) (fun _ _ _ _ _ => (pg_name (i := 3) nd rfl (Or.inl rfl))) (fun _ _ _ _ _ => pts_nil) (fun _ _ _ _ _ => (pe_op op_mul (pe_ix (ix_listK K) (pv 1) (pv 3) (fun _ _ => rfl)) (pe_ix (ix_listK K) (pv 2) (pv 3) (fun _ _ => rfl))))) pa_nil))))))), ?_⟩
    refine ⟨_, rfl, _, rfl, t, a, n, rs, p, rfl, hA, hp, hl, n12, hr0, fun H1 s1 => ?_⟩
    refine of_nx (of_ret ?_)
    refine lc_pre (fun J H2 => ∃ d, J = Itl K d ∧ Same H1 H2 ∧ RowsAt H1 H2 d (rowsD n rs)) (fun R hR => ⟨_, rfl, t, n, rs, rfl, hA.same s1, hT, fun d H2 hd s2 hRw => ?_⟩) ?_
    · obtain ⟨xs, hx1, hx2⟩ := rows_paired hRw
      exact ⟨d, rfl, ⟨_, SqL.of hx1⟩, hR _ _ ⟨d, rfl, s2, hRw⟩⟩
    rintro J H2 ⟨d, rfl, s2, hRw⟩
    obtain ⟨xs, hx1, hx2⟩ := rows_paired hRw
    have s12 := s1.trans s2
    replace hA := hA.same s12
    replace hp := s12 _ _ hp
    obtain ⟨dx, r, h1⟩ := tree_ins hA
    refine lcl (d := (0 : Int)) _ (paired_mapL (g := rowD n rs) (l := ivs n) hx2) (SqL.of hx1) (by rw [ivs_len]; omega) (fun _ => true) (fun s => .int (walksV n rs p s)) (fun s v hs hE H3 s3 Yes No hy _ => ?_) (fun D' H3 hD' s3 hD3 => ?_)
    · obtain ⟨l, rfl, hlr⟩ := hE
      refine turn_all (of_cb1 (lc_at (Itr 0 n) (fun R hR => ⟨_, rfl, t, C, dx, _, _, rfl, s3 _ _ h1, T.cl, T.nS, tfs_size _ _, (n : Int), rfl, by omega, by omega, hR⟩) ?_))
      refine lcr (n := n) (by omega) (fun i => true) (fun i => .int (pk p (i : Int) * D n rs s (i : Int))) (fun i hi H4 s4 Yes' No' hy' hno' => ?_) (fun L H4 hL s4 hL4 => ?_)
      · have hi' : (i : Int) < n := by omega
        refine turn_all ?_
        have h1 := ints_at (p := p) (i := 0 + (i : Int)) (by omega) (by omega)
        have h2 := at_row (n := n) (rs := rs) (s := s) (i := 0 + (i : Int)) (by omega) (by omega)
        rw [Int.zero_add] at h1 h2
        refine ⟨_, rfl, _, rfl, a, _, (i : Int), _, rfl, by rw [Int.zero_add], SqL.of (s4 _ _ (s3 _ _ hp)), h1, _, rfl, _, rfl, l, _, (i : Int), _, rfl, by rw [Int.zero_add], SqL.of (s4 _ _ (s3 _ _ hlr)), h2, ?_⟩
        exact ⟨_, _, rfl, rfl, .inl (by have := pk_bound hr0 (i : Int); omega), hy' rfl _ (Same.refl _)⟩
      · rw [range_ivsM (fun k => pk p k * D n rs s k)] at hL4
        exact ⟨L, _, rfl, SqL.of hL4, hy rfl _ s4⟩
    · have e : (((ivs n).filter fun _ => true).map fun s => V.int (walksV n rs p s)) = (walksL n rs p).map V.int := by
        rw [List.filter_eq_self.mpr fun _ _ => rfl, walksL, List.map_map]; rfl
      rw [e] at hD3
      exact k D' _ (s12.free hD') (s12.trans s3) hD3
end
end Wr

namespace Wr
open PySem L2
section
variable {P : Program} {w : World} {K : PySem.W.Frag} {mg : Str → Option Value} {base : Heap}
/-! ### which refusal it is -/
def kindS : Nat → Str
  | 0 => "tree"
  | 1 => "village"
  | 2 => "road"
  | _ => "number"
/-- what the five classes say of a refusal of the class at D -/
structure SortC (K : PySem.W.Frag) (CB CV CR CN CW D : Addr) (i : Nat) : Prop where
  ec : ExcC K D
  le : i < 4
  k0 : PySem.W.kitOne K (.ref D) (.ref CB) = some (decide (i = 0))
  k1 : PySem.W.kitOne K (.ref D) (.ref CV) = some (decide (i = 1))
  k2 : PySem.W.kitOne K (.ref D) (.ref CR) = some (decide (i = 2))
  k3 : PySem.W.kitOne K (.ref D) (.ref CN) = some (decide (i = 3))
  k4 : PySem.W.kitOne K (.ref D) (.ref CW) = some false
  kv : PySem.W.kitOne K (.ref D) (.type "ValueError") = some true
theorem hu_hot {k : Nat} {A : Around} (r : L2H.RoomH k A) : A.units + 65 < cLine := by have := r.un; omega
def spSort (K : PySem.W.Frag) (CB CV CR CN CW : Addr) : Addr → Obj → Sp := fun a o vs H Q _ => ∃ (D : Addr) (i : Nat), vs = [.ref a] ∧ SortC K CB CV CR CN CW D i ∧ Zc (.ref D) none o ∧ (∃ fs, o.data = .fields fs) ∧ ∀ H', Same H H' → Q (.str (kindS i)) H'
-- slots: 0:_law_error, 1:_law_kinds
theorem sc_law_sort : FnScope ["_law_error", "_law_kinds"] ["_law_error"] (defScope S_law_sort) := ⟨rfl, rfl, rfl, by decide +kernel, rfl, by decide +kernel, by decide +kernel⟩
theorem ok_sort {f C_BadTree C_NoVillage C_NoRoad C_BadNumber C_BadRow : Addr} {fd : FuncData} (F : Fun K "_law_sort" "_law_sort" S_law_sort f fd) (B : Bi mg) (m_ValueError : mg "ValueError" = none) (m_BadTree : mg "BadTree" = some (.ref C_BadTree)) (m_NoVillage : mg "NoVillage" = some (.ref C_NoVillage)) (m_NoRoad : mg "NoRoad" = some (.ref C_NoRoad))
    (m_BadNumber : mg "BadNumber" = some (.ref C_BadNumber)) (m_BadRow : mg "BadRow" = some (.ref C_BadRow)) : FnE P w K mg base 1 f fd ["_law_error"] (spSort K C_BadTree C_NoVillage C_NoRoad C_BadNumber C_BadRow) := by
  refine Fun.okE F sc_law_sort (fun a o vs H Q E h => ?_) (fun p cdv A outer s H vs Q E hot hr h => ?_)
  · obtain ⟨D, i, rfl, _⟩ := h
    rfl
  · obtain ⟨D, i, rfl, C, hz, hf, k⟩ := h
    have hu := hu_hot hr
    have nd := sc_law_sort.nd
    refine ⟨_, (pss_cons (ps_set (i := 1) nd rfl (Or.inl rfl) (pe_lst (pa_cons (pe_callB (cr_isPK K (List.mem_singleton.mpr rfl)) (by rfl) B.isinstance (by decide +kernel) (pa_cons (pv 0) (pa_cons (pe_glob (v := .ref C_BadTree) rfl m_BadTree rfl) pa_nil))) (pa_cons (pe_callB (cr_isPK K (List.mem_singleton.mpr rfl)) (by rfl) B.isinstance (by decide +kernel) (pa_cons (pv 0) (pa_cons (pe_glob (v := .ref C_NoVillage) rfl m_NoVillage rfl) pa_nil))) (pa_cons (pe_callB (cr_isPK K (List.mem_singleton.mpr rfl)) (by rfl) B.isinstance (by decide +kernel) (pa_cons (pv 0) (pa_cons (pe_glob (v := .ref C_NoRoad) rfl m_NoRoad rfl) pa_nil))) pa_nil)))))
    (pss_cons (ps_set (i := 1) nd rfl (Or.inl rfl) (pe_op op_cat (pv 1) (pe_lst (pa_cons (pe_callB (cr_isPK K (List.mem_singleton.mpr rfl)) (by rfl) B.isinstance (by decide +kernel) (pa_cons (pv 0) (pa_cons (pe_glob (v := .ref C_BadNumber) rfl m_BadNumber rfl) pa_nil))) (pa_cons (pe_callB (cr_isPK K (List.mem_singleton.mpr rfl)) (by rfl) B.isinstance (by decide +kernel) (pa_cons (pv 0) (pa_cons (pe_glob (v := .ref C_BadRow) rfl m_BadRow rfl) pa_nil))) pa_nil)))))
    (pss_cons (ps_if (PW.pt (pw_or (pt_cmpR op_ne (pe_bm PySem.F.plainAttrs_list PySem.F.slot_list_count PySem.F.type_list_count (mt_countB hu) (pv 1) (pa_cons pe_bl pa_nil)) pe_int (nomark _)) (pw_or1 (pt_not (pt_val (pe_callB (cr_isPK K (List.mem_singleton.mpr rfl)) (by rfl) B.isinstance (by decide +kernel) (pa_cons (pv 0) (pa_cons (pe_bltn (v := .ty "ValueError") (by rfl) m_ValueError (by decide +kernel) rfl) pa_nil))))))))
    (pss_one (ps_ret pe_str)) pss_nil)
    (pss_one (ps_ret (pe_ix ix_list (pe_lst (pa_cons pe_str (pa_cons pe_str (pa_cons pe_str (pa_cons pe_str (pa_cons pe_str pa_nil)))))) (pe_bm PySem.F.plainAttrs_list PySem.F.slot_list_index PySem.F.type_list_index mt_index (pv 1) (pa_cons pe_bl pa_nil)) (fun _ _ => rfl))))))), ?_⟩
    refine ⟨_, rfl, D, .ref C_BadTree, .ref C_BadTree, _, C.ec, hz, hf, rfl, fun u h => h, C.k0, ?_⟩
    refine ⟨_, rfl, D, .ref C_NoVillage, .ref C_NoVillage, _, C.ec, hz, hf, rfl, fun u h => h, C.k1, ?_⟩
    refine ⟨_, rfl, D, .ref C_NoRoad, .ref C_NoRoad, _, C.ec, hz, hf, rfl, fun u h => h, C.k2, ?_⟩
    refine ⟨by show 3 ≤ sizeLine; decide, fun q1 hq1 => ?_⟩
    have s1 := Same.new (o := .lst [.bl (decide (i = 0)), .bl (decide (i = 1)), .bl (decide (i = 2))]) hq1
    have hp1 : upd H q1 (.lst [.bl (decide (i = 0)), .bl (decide (i = 1)), .bl (decide (i = 2))]) q1 = some (.lst [.bl (decide (i = 0)), .bl (decide (i = 1)), .bl (decide (i = 2))]) := upd_same
    refine of_gName (of_nx ?_)
    show tSeq _ _ _ _ (upd H q1 (.lst [.bl (decide (i = 0)), .bl (decide (i = 1)), .bl (decide (i = 2))]))
    generalize upd H q1 (.lst [.bl (decide (i = 0)), .bl (decide (i = 1)), .bl (decide (i = 2))]) = H1 at s1 hp1 ⊢
    refine ⟨_, rfl, _, rfl, D, .ref C_BadNumber, .ref C_BadNumber, _, C.ec, hz, hf, rfl, fun u h => h, C.k3, ?_⟩
    refine ⟨_, rfl, D, .ref C_BadRow, .ref C_BadRow, _, C.ec, hz, hf, rfl, fun u h => h, C.k4, ?_⟩
    refine ⟨by show 2 ≤ sizeLine; decide, fun q2 hq2 => ?_⟩
    have s2 := s1.trans (Same.new (o := .lst [.bl (decide (i = 3)), .bl false]) hq2)
    have hp2 := keepN (u := .lst [.bl (decide (i = 3)), .bl false]) hp1 hq2
    have hq22 : upd H1 q2 (.lst [.bl (decide (i = 3)), .bl false]) q2 = some (.lst [.bl (decide (i = 3)), .bl false]) := upd_same
    generalize upd H1 q2 (.lst [.bl (decide (i = 3)), .bl false]) = H2 at s2 hp2 hq22 ⊢
    refine ⟨q1, q2, _, _, rfl, rfl, hp2, hq22, by show 5 ≤ sizeLine; decide, fun q3 hq3 => ?_⟩
    have s3 := s2.trans (Same.new (o := .lst ([V.bl (decide (i = 0)), .bl (decide (i = 1)), .bl (decide (i = 2))] ++ [.bl (decide (i = 3)), .bl false])) hq3)
    have hq33 : upd H2 q3 (.lst ([V.bl (decide (i = 0)), .bl (decide (i = 1)), .bl (decide (i = 2))] ++ [.bl (decide (i = 3)), .bl false])) q3 = some (.lst ([decide (i = 0), decide (i = 1), decide (i = 2), decide (i = 3), false].map V.bl)) := upd_same
    refine of_gName (of_nx ?_)
    show tSeq _ _ _ _ (upd H2 q3 (.lst ([V.bl (decide (i = 0)), .bl (decide (i = 1)), .bl (decide (i = 2))] ++ [.bl (decide (i = 3)), .bl false])))
    generalize upd H2 q3 (.lst ([V.bl (decide (i = 0)), .bl (decide (i = 1)), .bl (decide (i = 2))] ++ [.bl (decide (i = 3)), .bl false])) = H3 at s3 hq33 ⊢
    obtain ⟨bs, hbs⟩ : ∃ bs, bs = [decide (i = 0), decide (i = 1), decide (i = 2), decide (i = 3), false] := ⟨_, rfl⟩
    rw [← hbs] at hq33
    have i4 := C.le
    have cnt : bs.count true = 1 := by
      have key : ∀ i, i < 4 → [decide (i = 0), decide (i = 1), decide (i = 2), decide (i = 3), false].count true = 1 := by decide
      rw [hbs]; exact key i i4
    refine ⟨_, rfl, .inl ⟨rfl, _, SqL.of hq33⟩, q3, bs, true, rfl, rfl, SqL.of hq33, ?_⟩
    rw [cnt]
    refine ⟨rfl, _, rfl, ?_⟩
    refine iteF ?_
    refine ⟨_, rfl, D, .ty "ValueError", .type "ValueError", _, C.ec, hz, hf, rfl, fun u h => h, C.kv, _, rfl, ?_⟩
    refine iteF ?_
    refine ⟨by show 5 ≤ sizeLine; decide, fun q4 hq4 => ?_⟩
    have s4 := s3.trans (Same.new (o := .lst [.str "tree", .str "village", .str "road", .str "number", .str "wrong"]) hq4)
    have hq44 : upd H3 q4 (.lst [.str "tree", .str "village", .str "road", .str "number", .str "wrong"]) q4 = some (.lst [.str "tree", .str "village", .str "road", .str "number", .str "wrong"]) := upd_same
    have hq34 := keepN (u := .lst [.str "tree", .str "village", .str "road", .str "number", .str "wrong"]) hq33 hq4
    generalize upd H3 q4 (.lst [.str "tree", .str "village", .str "road", .str "number", .str "wrong"]) = H4 at s4 hq44 hq34
    have at0 : (bs.map V.bl)[i]? = some (.bl true) := by
      have key : ∀ i, i < 4 → ([decide (i = 0), decide (i = 1), decide (i = 2), decide (i = 3), false].map V.bl)[i]? = some (.bl true) := by decide
      rw [hbs]; exact key i i4
    have early : ∀ (m : Nat) (z : V), m < i → (bs.map V.bl)[m]? = some z → eqV z (.bl true) = false := fun m z hm hz => by
      have key : ∀ i, i < 4 → ∀ m, m < i → ([decide (i = 0), decide (i = 1), decide (i = 2), decide (i = 3), false].map V.bl)[m]? = some (.bl false) := by decide
      rw [hbs, key i i4 m hm] at hz
      cases hz
      rfl
    have told : atI [V.str "tree", .str "village", .str "road", .str "number", .str "wrong"] (i : Int) = some (.str (kindS i)) := by
      have e : i = 0 ∨ i = 1 ∨ i = 2 ∨ i = 3 := by omega
      rcases e with rfl | rfl | rfl | rfl <;> rfl
    have flat : (bs.map V.bl).all flatV = true := by
      rw [List.all_map, List.all_eq_true]
      exact fun _ _ => rfl
    exact ⟨_, rfl, .inl ⟨rfl, _, SqL.of hq34⟩, q3, _, .bl true, i, .bl true, rfl, rfl, SqL.of hq34, rfl, flat, at0, rfl, early, q4, _, _, _, rfl, rfl, SqL.of hq44, told, k H4 s4⟩
end
end Wr

namespace Wr
open PySem L2 LamX
section
variable {P : Program} {w : World} {K : PySem.W.Frag} {mg : Str → Option Value} {base : Heap}
/-- things whose type is seen -/
inductive Thing (H : Hp) : V → Prop
  | int (i : Int) : Thing H (.int i)
  | bl (b : Bool) : Thing H (.bl b)
  | str (x : Str) : Thing H (.str x)
  | non : Thing H .non
  | lst {a : Addr} {xs : List V} : H a = some (.lst xs) → Thing H (.ref a)
  | tup {a : Addr} {xs : List V} : H a = some (.tup xs) → Thing H (.ref a)
theorem Thing.plain {H : Hp} {x : V} (h : Thing H x) : Plain K H x := by
  cases h with
  | int i => exact Plain.int i
  | bl b => exact Plain.bl b
  | str x => exact Plain.str x
  | non => exact Plain.non
  | lst e => exact Plain.lst e
  | tup e => exact Plain.tup e
theorem Thing.same {H H' : Hp} {x : V} (e : Same H H') (h : Thing H x) : Thing H' x := by
  cases h with
  | int i => exact .int i
  | bl b => exact .bl b
  | str x => exact .str x
  | non => exact .non
  | lst h => exact .lst (e _ _ h)
  | tup h => exact .tup (e _ _ h)
/-- for code that is not reached -/
def spNo : Sp := fun _ _ _ _ => False
theorem ok_no {f : Addr} {fd : FuncData} {k : Nat} {ps : List Str} : FnOk P w K mg base CX0 k f fd ps spNo :=
  ⟨fun _ _ _ _ h => h.elim, fun _ _ _ _ _ _ _ _ _ _ _ _ _ h => h.elim⟩
theorem ok_noN {f : Addr} {fd : FuncData} {k : Nat} {ps : List Str} : FnOk P w K mg base (L2N.CX P w) k f fd ps spNo :=
  ⟨fun _ _ _ _ h => h.elim, fun _ _ _ _ _ _ _ _ _ _ _ _ _ h => h.elim⟩
theorem ok_noF {x q : Str} {st : Stmt} {f : Addr} {fd : FuncData} {k : Nat} {ps : List Str} (F : Fun K x q st f fd) : FnOk P w K mg base CX0 k f fd ps spNo := ok_no
theorem ok_noFN {x q : Str} {st : Stmt} {f : Addr} {fd : FuncData} {k : Nat} {ps : List Str} (F : Fun K x q st f fd) : FnOk P w K mg base (L2N.CX P w) k f fd ps spNo := ok_noN
def spVillageN (C CV : Addr) : Sp := fun vs H Q E => ∃ (t : Addr) (n : Nat) (rs : List Road) (x : V), vs = [.ref t, x] ∧ TreeAt C H t n rs ∧ Thing H x ∧ (withinV x 0 (n - 1) = true → Q x H) ∧ (withinV x 0 (n - 1) = false → E (.ref CV) none H)

theorem ok_villageN {f C CV : Addr} {fd : FuncData} (F : Fun K "village" "Tree.village" S_Tree_village f fd) (T : Tx K mg C) (X_NoVillage : Xc K mg "NoVillage" CV) (G_within : Gd P w K mg base 2 "within" ["number", "low", "high"] (spWithin K)) : FnOk P w K mg base (L2N.CX P w) 3 f fd ["self", "at"] (spVillageN C CV) := by
  refine Fun.okN F sc_Tree_village (fun vs H Q E h => ?_) (fun cdv A outer s H vs Q E hr h => ?_)
  · obtain ⟨t, n, rs, v, rfl, _⟩ := h
    rfl
  · obtain ⟨t, n, rs, x, rfl, ⟨dx, r, us, h1, h2, h3⟩, hx, kq, ke⟩ := h
    refine ⟨_, (pss_cons (ps_if (pt_not (pt_val (pe_g G_within hr rfl (pa_cons (pv 1) (pa_cons pe_int (pa_cons (pe_op op_sub (pe_fld (pv 0) rfl) pe_int) pa_nil))))))
    (pss_one (L2N.ps_raise rfl (L2N.takes_of rfl rfl rfl rfl) (L2N.pmk_own PySem.F.excBase_ValueError X_NoVillage.e X_NoVillage.g X_NoVillage.k (raises_own X_NoVillage.b X_NoVillage.t) rfl))) pss_nil)
    (pss_one (ps_ret (pv 1)))), ?_⟩
    refine ⟨_, rfl, _, rfl, t, C, dx, _, _, rfl, h1, T.cl, T.nS, tfs_size _ _, _, _, rfl, rfl, x, 0, _, rfl, hx.plain, _, rfl, ?_⟩
    cases e : withinV x 0 ((n : Int) - 1) with
    | true =>
      refine iteF ?_
      exact ⟨_, rfl, kq e⟩
    | false =>
      refine iteT ?_
      exact ke e
/-- a village that there is, and one that there isn't -/
abbrev Good (n : Nat) (x : V) : Prop := withinV x 0 ((n : Int) - 1) = true
abbrev Bad (H : Hp) (n : Nat) (x : V) : Prop := Thing H x ∧ withinV x 0 ((n : Int) - 1) = false
theorem bad_good {n : Nat} {x : V} {G : Prop} (h : withinV x 0 ((n : Int) - 1) = false) (g : withinV x 0 ((n : Int) - 1) = true) : G := by rw [h] at g; cases g
theorem bad_good' {n : Nat} {i : Int} {G : Prop} (h : 0 ≤ i ∧ i < n) (g : withinV (.int i) 0 ((n : Int) - 1) = false) : G := by rw [withinV_of h.1 (by omega)] at g; cases g
def spFarN (C CV : Addr) : Sp := fun vs H Q E => ∃ (t : Addr) (n : Nat) (rs : List Road) (x y : V), vs = [.ref t, x, y] ∧ TreeAt C H t n rs ∧ IsTree n rs ∧ (Bad H n x ∨ ∃ i : Int, x = .int i ∧ (0 ≤ i ∧ i < n) ∧ Bad H n y) ∧ ∀ H', Same H H' → E (.ref CV) none H'
-- slots: 0:tree, 1:one, 2:other
theorem sc_far : FnScope ["tree", "one", "other"] ["tree", "one", "other"] (defScope S_far) := ⟨rfl, rfl, rfl, by decide +kernel, rfl, by decide +kernel, by decide +kernel⟩
theorem ok_farN {f C CV : Addr} {fd : FuncData} (F : Fun K "far" "far" S_far f fd) (T : Tx K mg C) (GM_walked : Gm P w K mg base C 1 "walked" ["self", "start"] (spWalked C)) (GM_village : GmN P w K mg base C 3 "village" ["self", "at"] (spVillageN C CV)) : FnOk P w K mg base (L2N.CX P w) 4 f fd ["tree", "one", "other"] (spFarN C CV) := by
  refine Fun.okN F sc_far (fun vs H Q E h => ?_) (fun cdv A outer s H vs Q E hr h => ?_)
  · obtain ⟨t, n, rs, x, y, rfl, _⟩ := h
    rfl
  · obtain ⟨t, n, rs, x, y, rfl, hA, hT, hb, ke⟩ := h
    have hu := hu_of hr
    refine ⟨_, (pss_one (ps_ret (pe_ix ix_list (pe_dget hu (pe_gm (pv 0) T.cl GM_walked hr (pa_cons (pe_gmN (pv 0) T.cl GM_village hr (L2N.takes_of rfl rfl rfl rfl) (pa_cons (pv 1) pa_nil)) pa_nil)) (pe_gmN (pv 0) T.cl GM_village hr (L2N.takes_of rfl rfl rfl rfl) (pa_cons (pv 2) pa_nil)) (fun _ _ => rfl)) pe_int (fun _ _ => rfl)))), ?_⟩
    obtain ⟨dx, r, h1⟩ := tree_ins hA
    refine ⟨_, rfl, t, dx, _, rfl, h1, tfs_no _ _ (by decide +kernel) (by decide +kernel), _, rfl, t, dx, _, rfl, h1, tfs_no _ _ (by decide +kernel) (by decide +kernel), _, rfl, t, n, rs, x, rfl, hA, ?_⟩
    rcases hb with ⟨hx, hb⟩ | ⟨i, rfl, hi, hy, hb⟩
    · exact ⟨hx, bad_good hb, fun _ => ke H (Same.refl _)⟩
    · refine ⟨.int i, fun _ => ?_, bad_good' hi⟩
      refine ⟨t, n, rs, i, rfl, hA, hT.toRoadsOk, hT.le, hi.1, hi.2, fun d H1 hd s1 hF => ?_⟩
      refine ⟨_, rfl, t, dx, _, rfl, s1 _ _ h1, tfs_no _ _ (by decide +kernel) (by decide +kernel), _, rfl, t, n, rs, y, rfl, hA.same s1, hy.same s1, bad_good hb, fun _ => ke H1 s1⟩
def WayBad (H : Hp) (n : Nat) (x y : V) : Prop := Bad H n y ∨ ∃ j : Int, y = .int j ∧ (0 ≤ j ∧ j < n) ∧ Bad H n x
def spWayN (C CV : Addr) : Sp := fun vs H Q E => ∃ (t : Addr) (n : Nat) (rs : List Road) (x y : V), vs = [.ref t, x, y] ∧ TreeAt C H t n rs ∧ IsTree n rs ∧ WayBad H n x y ∧ ∀ H', Same H H' → E (.ref CV) none H'
-- slots: 0:tree, 1:one, 2:other, 3:ahead, 4:found
theorem sc_way : FnScope ["tree", "one", "other", "ahead", "found"] ["tree", "one", "other"] (defScope S_way) := ⟨rfl, rfl, rfl, by decide +kernel, rfl, by decide +kernel, by decide +kernel⟩
theorem ok_wayN {f C CV : Addr} {fd : FuncData} (F : Fun K "way" "way" S_way f fd) (T : Tx K mg C) (GM_walked : Gm P w K mg base C 1 "walked" ["self", "start"] (spWalked C)) (GM_village : GmN P w K mg base C 3 "village" ["self", "at"] (spVillageN C CV)) : FnOk P w K mg base (L2N.CX P w) 4 f fd ["tree", "one", "other"] (spWayN C CV) := by
  refine Fun.okN F sc_way (fun vs H Q E h => ?_) (fun cdv A outer s H vs Q E hr h => ?_)
  · obtain ⟨t, n, rs, x, y, rfl, _⟩ := h
    rfl
  · obtain ⟨t, n, rs, x, y, rfl, hA, hT, hb, ke⟩ := h
    have hu := hu_of hr
    have nd := sc_way.nd
    refine ⟨_, (pss_cons (ps_set (i := 3) nd rfl (Or.inl rfl) (pe_gm (pv 0) T.cl GM_walked hr (pa_cons (pe_gmN (pv 0) T.cl GM_village hr (L2N.takes_of rfl rfl rfl rfl) (pa_cons (pv 2) pa_nil)) pa_nil)))
    (pss_cons (ps_set (i := 4) nd rfl (Or.inl rfl) (pe_lst (pa_cons (pe_gmN (pv 0) T.cl GM_village hr (L2N.takes_of rfl rfl rfl rfl) (pa_cons (pv 1) pa_nil)) pa_nil)))
    (pss_cons (ps_while (passes_of rfl) (pt_cmpR op_ne (pe_ix ix_list (pv 4) (pe_un un_neg pe_int) (fun _ _ => rfl)) (pv 2) (nomark _))
    (pss_one (ps_expr (pe_bm PySem.F.plainAttrs_list PySem.F.slot_list_append PySem.F.type_list_append mt_append (pv 4) (pa_cons (pe_ix ix_list (pe_dget hu (pv 3) (pe_ix ix_list (pv 4) (pe_un un_neg pe_int) (fun _ _ => rfl)) (fun _ _ => rfl)) pe_int (fun _ _ => rfl)) pa_nil)))))
    (pss_one (ps_ret (pv 4)))))), ?_⟩
    obtain ⟨dx, r, h1⟩ := tree_ins hA
    refine ⟨_, rfl, t, dx, _, rfl, h1, tfs_no _ _ (by decide +kernel) (by decide +kernel), _, rfl, t, dx, _, rfl, h1, tfs_no _ _ (by decide +kernel) (by decide +kernel), _, rfl, t, n, rs, y, rfl, hA, ?_⟩
    rcases hb with ⟨hx, hb⟩ | ⟨i, rfl, hi, hy, hb⟩
    · exact ⟨hx, bad_good hb, fun _ => ke H (Same.refl _)⟩
    · refine ⟨.int i, fun _ => ?_, bad_good' hi⟩
      refine ⟨t, n, rs, i, rfl, hA, hT.toRoadsOk, hT.le, hi.1, hi.2, fun d H1 hd s1 hF => ?_⟩
      refine ⟨_, rfl, t, dx, _, rfl, s1 _ _ h1, tfs_no _ _ (by decide +kernel) (by decide +kernel), _, rfl, t, n, rs, x, rfl, hA.same s1, hy.same s1, bad_good hb, fun _ => ke H1 s1⟩
-- slots: 0:tree, 1:one, 2:other, 3:on, 4:found, 5:here*, 6:there
theorem sc_errand : FnScope ["tree", "one", "other", "on", "found", "here", "there"] ["tree", "one", "other"] (defScope S_errand) := ⟨rfl, rfl, rfl, by decide +kernel, rfl, by decide +kernel, by decide +kernel⟩
theorem ok_errandN {f C CV : Addr} {fd : FuncData} (F : Fun K "errand" "errand" S_errand f fd) (T : Tx K mg C) (B : Bi mg) (G_trip : Gd P w K mg base 1 "trip" ["tree", "here", "barred"] spNo) (G_way : GdN P w K mg base 4 "way" ["tree", "one", "other"] (spWayN C CV)) : FnOk P w K mg base (L2N.CX P w) 5 f fd ["tree", "one", "other"] (spWayN C CV) := by
  refine Fun.okN F sc_errand (fun vs H Q E h => ?_) (fun cdv A outer s H vs Q E hr h => ?_)
  · obtain ⟨t, n, rs, x, y, rfl, _⟩ := h
    rfl
  · obtain ⟨t, n, rs, x, y, rfl, hA, hT, hb, ke⟩ := h
    have nd := sc_errand.nd
    refine ⟨_, (pss_cons (ps_set (i := 3) nd rfl (Or.inl rfl) (pe_gN G_way hr rfl (L2N.takes_of rfl rfl rfl rfl) (pa_cons (pv 0) (pa_cons (pv 1) (pa_cons (pv 2) pa_nil)))))
    (pss_cons (ps_set (i := 4) nd rfl (Or.inl rfl) (pe_lst pa_nil))
    (pss_cons (ps_for (passes_of rfl) rfl (pi_list (pv 3)) (pg_name (i := 5) nd rfl (Or.inr rfl))
    (pss_one (ps_expr (pe_bm PySem.F.plainAttrs_list PySem.F.slot_list_extend PySem.F.type_list_extend mt_extend (pv 4) (pa_cons (pe_g G_trip hr rfl (pa_cons (pv 0) (pa_cons (pv 5) (pa_cons (pe_lc (own := [("there", 6)]) (g := gName 6) rfl nd (pi_list (pv 3)) (blkOk_by (N := ["tree", "one", "other", "on", "found", "here", "there"]) (sc := defScope S_errand) (by decide +kernel)) (fun _ _ _ _ _ => (pg_name (i := 6) nd rfl (Or.inl rfl))) (fun _ _ _ _ _ => (pts_one (pt_cmpR op_ne (pv 6) (pv 5) (nomark _)))) (fun _ _ _ _ _ => (pv 6))) pa_nil)))) pa_nil)))))
    (pss_one (ps_ret (pv 4)))))), ?_⟩
    exact ⟨_, rfl, _, rfl, _, rfl, t, n, rs, x, y, rfl, hA, hT, hb, ke⟩
/-! ### walks, counts -/
def spCheckWalkN (CN : Addr) : Sp := fun vs H Q E => ∃ x : V, vs = [x] ∧ Thing H x ∧ withinV x 0 12000000 = false ∧ E (.ref CN) none H

theorem ok_check_walkN {f CN : Addr} {fd : FuncData} (F : Fun K "check_walk" "check_walk" S_check_walk f fd) (X_BadNumber : Xc K mg "BadNumber" CN) (mM : ∃ t, mg "MOST" = some (.int 12 t)) (mL : ∃ t, mg "LONGEST" = some (.int 1000000 t)) (G_within : Gd P w K mg base 2 "within" ["number", "low", "high"] (spWithin K)) : FnOk P w K mg base (L2N.CX P w) 3 f fd ["walk"] (spCheckWalkN CN) := by
  obtain ⟨tM, m_MOST⟩ := mM
  obtain ⟨tL, m_LONGEST⟩ := mL
  refine Fun.okN F sc_check_walk (fun vs H Q E h => ?_) (fun cdv A outer s H vs Q E hr h => ?_)
  · obtain ⟨W, rfl, _⟩ := h
    rfl
  · obtain ⟨x, rfl, hx, hb, ke⟩ := h
    refine ⟨_, (pss_one (ps_if (pt_not (pt_val (pe_g G_within hr rfl (pa_cons (pv 0) (pa_cons pe_int (pa_cons (pe_op op_mul (pe_glob (v := .int 12) rfl m_MOST ⟨_, rfl⟩) (pe_glob (v := .int 1000000) rfl m_LONGEST ⟨_, rfl⟩)) pa_nil))))))
    (pss_one (L2N.ps_raise rfl (L2N.takes_of rfl rfl rfl rfl) (L2N.pmk_own PySem.F.excBase_ValueError X_BadNumber.e X_BadNumber.g X_BadNumber.k (raises_own X_BadNumber.b X_BadNumber.t) rfl))) pss_nil)), ?_⟩
    refine ⟨_, rfl, _, _, rfl, rfl, .inl ⟨by decide, by decide⟩, x, 0, _, rfl, hx.plain, _, rfl, ?_⟩
    rw [show withinV x 0 (12 * 1000000) = false from hb]
    refine iteT ?_
    exact ke
def spDugN (CN : Addr) : Sp := fun vs H Q E => ∃ (t x : V), vs = [t, x] ∧ Thing H x ∧ withinV x 0 12000000 = false ∧ E (.ref CN) none H
def spLeastN (CN : Addr) : Sp := fun vs H Q E => ∃ (t x : V), vs = [t, x] ∧ Thing H x ∧ withinV x 1 12 = false ∧ E (.ref CN) none H

theorem ok_leastN {f CN : Addr} {fd : FuncData} (F : Fun K "least_walk" "least_walk" S_least_walk f fd) (B : Bi mg) (X_BadNumber : Xc K mg "BadNumber" CN) (mM : ∃ t, mg "MOST" = some (.int 12 t)) (G_within : Gd P w K mg base 2 "within" ["number", "low", "high"] (spWithin K)) (G_distances : Gd P w K mg base 2 "distances" ["tree"] spNo)
    (G_dug : GdN P w K mg base 5 "dug" ["tree", "walk"] spNo) : FnOk P w K mg base (L2N.CX P w) 6 f fd ["tree", "many"] (spLeastN CN) := by
  obtain ⟨tM, m_MOST⟩ := mM
  refine Fun.okN F sc_least_walk (fun vs H Q E h => ?_) (fun cdv A outer s H vs Q E hr h => ?_)
  · obtain ⟨t, x, rfl, _⟩ := h
    rfl
  · obtain ⟨t, x, rfl, hx, hb, ke⟩ := h
    have hu := hu_of hr
    have nd := sc_least_walk.nd
    refine ⟨_, (pss_cons (ps_if (pt_not (pt_val (pe_g G_within hr rfl (pa_cons (pv 1) (pa_cons pe_int (pa_cons (pe_glob (v := .int 12) rfl m_MOST ⟨_, rfl⟩) pa_nil))))))
    (pss_one (L2N.ps_raise rfl (L2N.takes_of rfl rfl rfl rfl) (L2N.pmk_own PySem.F.excBase_ValueError X_BadNumber.e X_BadNumber.g X_BadNumber.k (raises_own X_BadNumber.b X_BadNumber.t) rfl))) pss_nil)
    (pss_cons (ps_set (i := 2) nd rfl (Or.inl rfl) (pe_disp (pps_cons pe_int pe_int pps_nil) (by rfl) (by rfl) (fun z => by cases z) (by decide)))
    (pss_cons (ps_for (passes_of rfl) rfl (pi_list (pe_g G_distances hr rfl (pa_cons (pv 0) pa_nil))) (pg_name (i := 3) nd rfl (Or.inl rfl))
    (pss_one (ps_for (passes_of rfl) rfl (pi_list (pv 3)) (pg_name (i := 4) nd rfl (Or.inl rfl))
    (pss_one (ps_dput hu (pv 2) (pv 4) (pv 4) rfl)))))
    (pss_cons (ps_for (passes_of rfl) rfl (pi_list (pe_callB (call_sortedDI rfl) (by rfl) B.sorted (by decide +kernel) (pa_cons (pv 2) pa_nil))) (pg_name (i := 5) nd rfl (Or.inl rfl))
    (pss_one (ps_if (pt_cmpR op_le (pe_callB call_len_seq (by rfl) B.len (by decide +kernel) (pa_cons (pe_fld (pe_gN G_dug hr rfl (L2N.takes_of rfl rfl rfl rfl) (pa_cons (pv 0) (pa_cons (pv 5) pa_nil))) rfl) pa_nil)) (pv 1) (nomark _))
    (pss_one (ps_ret (pv 5))) pss_nil)))
    (pss_one (ps_ret pe_int)))))), ?_⟩
    refine ⟨_, rfl, x, 1, 12, rfl, hx.plain, _, rfl, ?_⟩
    rw [hb]
    refine iteT ?_
    exact ke
end
end Wr

namespace Wr
open PySem L2
section
variable {P : Program} {w : World} {K : PySem.W.Frag} {mg : Str → Option Value} {base : Heap}
/-! ### long: what stands between neighbours -/
def lenP (kvs : List (List Key × V)) (r : Road) : List (List Key × V) := putK (putK kvs [Sum.inl r.a, Sum.inl r.b] (.int r.l)) [Sum.inl r.b, Sum.inl r.a] (.int r.l)
def lenK (rs : List Road) : List (List Key × V) := rs.foldl lenP []
theorem put_le (kv : List (List Key × V)) (k : List Key) (v : V) : (putK kv k v).length ≤ kv.length + 1 := by
  unfold putK
  split <;> simp
theorem lenK_snoc {rs : List Road} {i : Nat} {r : Road} (h : rs[i]? = some r) : lenK (rs.take (i + 1)) = lenP (lenK (rs.take i)) r := by
  unfold lenK
  rw [List.take_add_one, h, Option.toList_some, List.foldl_append]
  rfl
theorem lenK_len : ∀ (rs : List Road) (kvs : List (List Key × V)), (rs.foldl lenP kvs).length ≤ kvs.length + 2 * rs.length
  | [], kvs => by simp
  | r :: rs, kvs => by
    have h := lenK_len rs (lenP kvs r)
    have h1 := put_le kvs [Sum.inl r.a, Sum.inl r.b] (.int r.l)
    have h2 := put_le (putK kvs [Sum.inl r.a, Sum.inl r.b] (.int r.l)) [Sum.inl r.b, Sum.inl r.a] (.int r.l)
    have h3 : (lenP kvs r).length ≤ kvs.length + 2 := by unfold lenP; omega
    rw [List.foldl_cons, List.length_cons]
    omega
def spLongNone (C : Addr) : Sp := fun vs H Q _ => ∃ (t a : Addr) (n : Nat) (rs : List Road) (x y : Int), vs = [.ref t, .ref a] ∧ TreeAt C H t n rs ∧ IsTree n rs ∧ H a = some (.lst ([x, y].map V.int)) ∧ (0 ≤ x ∧ x < n) ∧ (0 ≤ y ∧ y < n) ∧ valV (lenK rs) [Sum.inl x, Sum.inl y] = none ∧ ∀ H', Same H H' → Q .non H'
-- slots: 0:tree*, 1:walk, 2:lengths, 3:one, 4:other, 5:length, 6:total, 7:villages, 8:k, 9:step
theorem sc_long : FnScope ["tree", "walk", "lengths", "one", "other", "length", "total", "villages", "k", "step"] ["tree", "walk"] (defScope S_long) := ⟨rfl, rfl, rfl, by decide +kernel, rfl, by decide +kernel, by decide +kernel⟩
theorem ok_longNone {f C : Addr} {fd : FuncData} (F : Fun K "long" "long" S_long f fd) (T : Tx K mg C) (B : Bi mg) (GM_village : Gm P w K mg base C 3 "village" ["self", "at"] (spVillage C)) : FnOk P w K mg base CX0 4 f fd ["tree", "walk"] (spLongNone C) := by
  refine F.ok sc_long (fun vs H Q E h => ?_) (fun cdv A outer s H vs Q E hr h => ?_)
  · obtain ⟨t, a, n, rs, x, y, rfl, _⟩ := h
    rfl
  · obtain ⟨t, a, n, rs, x, y, rfl, hA, hT, hX, hx, hy, hno, k⟩ := h
    have hu := hu_of hr
    have nd := sc_long.nd
    refine ⟨_, (pss_cons (ps_set (i := 2) nd rfl (Or.inl rfl) pe_dnewT)
    (pss_cons (ps_for PassesOwn.never rfl (pi_list (pe_fld (pv 0) rfl)) (pg_tup rfl (pgs_cons (pg_name (i := 3) nd rfl (Or.inl rfl)) (pgs_cons (pg_name (i := 4) nd rfl (Or.inl rfl)) (pgs_cons (pg_name (i := 5) nd rfl (Or.inl rfl)) pgs_nil))))
    (pss_cons (ps_dput hu (pv 2) (pe_tup (pa_cons (pv 3) (pa_cons (pv 4) pa_nil))) (pv 5) rfl)
    (pss_one (ps_dput hu (pv 2) (pe_tup (pa_cons (pv 4) (pa_cons (pv 3) pa_nil))) (pv 5) rfl))))
    (pss_cons (ps_set (i := 6) nd rfl (Or.inl rfl) pe_int)
    (pss_cons (ps_setLc (i := 7) (own := [("one", 3)]) (g := gName 3) (tt := tYes) rfl nd rfl rfl (sw_true rfl rfl rfl (by decide +kernel)) (pi_list (pv 1)) (blkOk_by (N := ["tree", "walk", "lengths", "one", "other", "length", "total", "villages", "k", "step"]) (sc := defScope S_long) (by decide +kernel)) (fun _ _ _ _ _ => (pg_name (i := 3) nd rfl (Or.inl rfl))) (fun _ _ _ _ _ => pts_nil) (fun _ _ _ _ _ => (pe_gm (pv 0) T.cl GM_village hr (pa_cons (pv 3) pa_nil))))
    (pss_cons (ps_for PassesOwn.never rfl (pi_range2 (by rfl) B.range (pa_cons pe_int (pa_cons (pe_callB call_len_seq (by rfl) B.len (by decide +kernel) (pa_cons (pv 7) pa_nil)) pa_nil))) (pg_name (i := 8) nd rfl (Or.inl rfl))
    (pss_cons (ps_set (i := 9) nd rfl (Or.inl rfl) (pe_tup (pa_cons (pe_ix ix_list (pv 7) (pe_op op_sub (pv 8) pe_int) (fun _ _ => rfl)) (pa_cons (pe_ix ix_list (pv 7) (pv 8) (fun _ _ => rfl)) pa_nil))))
    (pss_cons (ps_if (pt_cmp (pc_dnotin hu (pv 9) (pv 2)))
    (pss_one (ps_ret pe_non)) pss_nil)
    (pss_one (ps_aug (i := 6) nd rfl (Or.inl rfl) (pe_dget hu (pv 2) (pv 9) (fun _ _ => rfl)) ip_add)))))
    (pss_one (ps_ret (pv 6)))))))), ?_⟩
    intro d hd
    have s1 := Same.new (o := .dT []) hd
    have hd1 : upd H d (.dT []) d = some (.dT (lenK (rs.take 0))) := upd_same
    refine of_gName ?_
    generalize upd H d (.dT []) = H1 at s1 hd1 ⊢
    obtain ⟨dx, r, us, g1, g2, g3⟩ := id hA
    have ul := g3.length
    have n12 := hT.le
    have nlen := hT.len
    refine ⟨_, rfl, t, C, dx, _, _, rfl, s1 _ _ g1, T.cl, T.nR, tfs_rows _ _, r, rfl, ⟨_, SqL.of (s1 _ _ g2)⟩, for_list (K := K) (a := r) (xs := us) (fun i σ' H' => ∃ v3 v4 v5, σ' = [some (.ref t), some (.ref a), some (.ref d), v3, v4, v5, none, none, none, none] ∧ Same H H' ∧ H' d = some (.dT (lenK (rs.take i))))
      ⟨none, none, none, rfl, s1, hd1⟩ (fun i σ' H' _ ⟨_, _, _, _, e, _⟩ => SqL.of (e _ _ g2)) ?_ ?_⟩
    · rintro i x σ' H2 hx ⟨v3, v4, v5, rfl, s2, hd2⟩
      obtain ⟨rd, hrd, tt, rfl, htt⟩ := paired_get' (g3.same s2) hx
      have kl : (lenK (rs.take i)).length ≤ 24 := by
        have h := lenK_len (rs.take i) []
        rw [List.length_take] at h
        simp only [List.length_nil] at h
        unfold lenK
        omega
      have p1 := put_le (lenK (rs.take i)) [Sum.inl rd.a, Sum.inl rd.b] (.int rd.l)
      refine ⟨tt, _, rfl, SqT.of htt, rfl, _, _, rfl, _, _, rfl, _, _, rfl, rfl, ?_⟩
      refine ⟨_, rfl, _, rfl, _, rfl, _, rfl, by show 2 ≤ sizeLine; decide, fun q1 hq1 => ?_⟩
      have e1 := s2.trans (Same.new (o := .tup [.int rd.a, .int rd.b]) hq1)
      have hd3 := keepN (u := .tup [.int rd.a, .int rd.b]) hd2 hq1
      have hq11 : upd H2 q1 (.tup [.int rd.a, .int rd.b]) q1 = some (.tup (([Sum.inl rd.a, Sum.inl rd.b] : List Key).map kV)) := upd_same
      refine ⟨d, _, rfl, DPut.t hd3 hq11 (szl (by omega)), ?_⟩
      have e2 := Same.mut (o := .dT (putK (lenK (rs.take i)) [Sum.inl rd.a, Sum.inl rd.b] (.int rd.l))) e1 hd
      have hd4 : upd (upd H2 q1 (.tup [.int rd.a, .int rd.b])) d (.dT (putK (lenK (rs.take i)) [Sum.inl rd.a, Sum.inl rd.b] (.int rd.l))) d = some (.dT (putK (lenK (rs.take i)) [Sum.inl rd.a, Sum.inl rd.b] (.int rd.l))) := upd_same
      refine of_nx ?_
      show sDPut _ _ _ _ _ (upd (upd H2 q1 (.tup [.int rd.a, .int rd.b])) d (.dT (putK (lenK (rs.take i)) [Sum.inl rd.a, Sum.inl rd.b] (.int rd.l))))
      generalize upd (upd H2 q1 (.tup [.int rd.a, .int rd.b])) d (.dT (putK (lenK (rs.take i)) [Sum.inl rd.a, Sum.inl rd.b] (.int rd.l))) = H3 at e2 hd4 ⊢
      refine ⟨_, rfl, _, rfl, _, rfl, _, rfl, by show 2 ≤ sizeLine; decide, fun q2 hq2 => ?_⟩
      have e3 := e2.trans (Same.new (o := .tup [.int rd.b, .int rd.a]) hq2)
      have hd5 := keepN (u := .tup [.int rd.b, .int rd.a]) hd4 hq2
      have hq22 : upd H3 q2 (.tup [.int rd.b, .int rd.a]) q2 = some (.tup (([Sum.inl rd.b, Sum.inl rd.a] : List Key).map kV)) := upd_same
      refine ⟨d, _, rfl, DPut.t hd5 hq22 (szl (by omega)), ?_⟩
      exact ⟨_, _, _, rfl, Same.mut e3 hd, by rw [upd_same, lenK_snoc hrd]; rfl⟩
    rintro σ' H2 ⟨v3, v4, v5, rfl, s2, hd2⟩
    rw [← ul, List.take_length] at hd2
    refine of_nx (of_seq (of_asg ?_))
    show gName 6 (.int 0) _ H2 _
    refine of_gName (of_nx (of_seq (of_asg ?_)))
    refine lc_at (Itl K a) (fun R hR => ⟨_, rfl, a, rfl, ⟨_, SqL.of (s2 _ _ hX)⟩, hR⟩) ?_
    refine lcl (d := (0 : Int)) (fun y v => v = .int y) (paired_self [x, y]) (SqL.of (s2 _ _ hX)) (by show 2 ≤ 1000; decide) (fun _ => true) (fun y => .int y) (fun z v hz hE H4 s4 Yes No hyes hno => ?_) (fun vl H4 hvl s4 hv4 => ?_)
    · subst hE
      have zr : 0 ≤ z ∧ z < n := by
        simp only [List.mem_cons, List.not_mem_nil, or_false] at hz
        rcases hz with rfl | rfl
        · exact hx
        · exact hy
      refine turn_all ?_
      refine ⟨_, rfl, t, dx, _, rfl, s4 _ _ (s2 _ _ g1), tfs_no _ _ (by decide +kernel) (by decide +kernel), _, rfl, t, n, rs, z, rfl, (hA.same s2).same s4, zr.1, zr.2, hyes rfl _ (Same.refl _)⟩
    have hv5 : H4 vl = some (.lst [.int x, .int y]) := hv4
    have s24 := s2.trans s4
    replace hd2 := s4 _ _ hd2
    refine of_gName ?_
    refine ⟨_, rfl, vl, _, rfl, .inl (SqL.of hv5), 1, _, rfl, ⟨by decide, by decide, (by show (-2 ^ 62 : Int) ≤ 2; decide), (by show (2 : Int) < 2 ^ 62; decide)⟩, for_range (lo := 1) (n := 1) (fun i σ' H' => (i = 0 ∧ H' = H4 ∧ σ' = [some (.ref t), some (.ref a), some (.ref d), v3, v4, v5, some (.int 0), some (.ref vl), none, none])) ⟨rfl, rfl, rfl⟩ ?_ ?_⟩
    · rintro i σ' H5 hi ⟨rfl, rfl, rfl⟩
      refine ⟨_, rfl, _, rfl, _, _, rfl, rfl, vl, _, _, _, rfl, rfl, SqL.of hv5, (show atI [V.int x, .int y] _ = some (.int x) from rfl), _, rfl, _, rfl, vl, _, _, _, rfl, rfl, SqL.of hv5, (show atI [V.int x, .int y] _ = some (.int y) from rfl), by show 2 ≤ sizeLine; decide, fun q hq => ?_⟩
      have s6 := Same.new (o := .tup [.int x, .int y]) hq
      have hd6 := keepN (u := .tup [.int x, .int y]) hd2 hq
      have hq6 : upd H5 q (.tup [.int x, .int y]) q = some (.tup (([Sum.inl x, Sum.inl y] : List Key).map kV)) := upd_same
      refine of_gName (of_nx ?_)
      show tSeq _ _ _ _ (upd H5 q (.tup [.int x, .int y]))
      generalize upd H5 q (.tup [.int x, .int y]) = H6 at s6 hd6 hq6 ⊢
      have gt := DGet.t hd6 hq6
      rw [hno] at gt
      refine ⟨_, rfl, _, rfl, d, _, rfl, gt, _, rfl, ?_⟩
      refine iteT ?_
      exact k H6 (s24.trans s6)
    · rintro σ' H5 ⟨z, _⟩
      cases z
end
end Wr

namespace Wr
open PySem L2
section
variable {P : Program} {w : World} {K : PySem.W.Frag} {mg : Str → Option Value} {base : Heap}
def spLongN (C CV : Addr) : Sp := fun vs H Q E => ∃ (t a : Addr) (n : Nat) (rs : List Road) (is : List Int) (x : V), vs = [.ref t, .ref a] ∧ TreeAt C H t n rs ∧ IsTree n rs ∧ H a = some (.lst (is.map V.int ++ [x])) ∧ is.length ≤ 100 ∧ (∀ i ∈ is, 0 ≤ i ∧ i < n) ∧ Bad H n x ∧ ∀ H', Same H H' → E (.ref CV) none H'

theorem ok_longN {f C CV : Addr} {fd : FuncData} (F : Fun K "long" "long" S_long f fd) (T : Tx K mg C) (B : Bi mg) (GM_village : GmN P w K mg base C 3 "village" ["self", "at"] (spVillageN C CV)) : FnOk P w K mg base (L2N.CX P w) 4 f fd ["tree", "walk"] (spLongN C CV) := by
  refine Fun.okN F sc_long (fun vs H Q E h => ?_) (fun cdv A outer s H vs Q E hr h => ?_)
  · obtain ⟨t, a, n, rs, is, x, rfl, _⟩ := h
    rfl
  · obtain ⟨t, a, n, rs, is, x, rfl, hA, hT, hX, il, ir, hb, ke⟩ := h
    have hu := hu_of hr
    have nd := sc_long.nd
    refine ⟨_, (pss_cons (ps_set (i := 2) nd rfl (Or.inl rfl) pe_dnewT)
    (pss_cons (ps_for (passes_of rfl) rfl (pi_list (pe_fld (pv 0) rfl)) (pg_tup rfl (pgs_cons (pg_name (i := 3) nd rfl (Or.inl rfl)) (pgs_cons (pg_name (i := 4) nd rfl (Or.inl rfl)) (pgs_cons (pg_name (i := 5) nd rfl (Or.inl rfl)) pgs_nil))))
    (pss_cons (ps_dput hu (pv 2) (pe_tup (pa_cons (pv 3) (pa_cons (pv 4) pa_nil))) (pv 5) rfl)
    (pss_one (ps_dput hu (pv 2) (pe_tup (pa_cons (pv 4) (pa_cons (pv 3) pa_nil))) (pv 5) rfl))))
    (pss_cons (ps_set (i := 6) nd rfl (Or.inl rfl) pe_int)
    (pss_cons (ps_setLcX (own := [("one", 3)]) (g := gName 3) rfl rfl (L2N.takes_of rfl rfl rfl rfl) rfl nd (sw_true rfl rfl rfl (by decide +kernel)) (pi_list (pv 1)) (blkOk_by (N := ["tree", "walk", "lengths", "one", "other", "length", "total", "villages", "k", "step"]) (sc := defScope S_long) (by decide +kernel)) (fun _ _ _ _ _ => (pg_name (i := 3) nd rfl (Or.inl rfl))) (fun _ _ _ _ _ xe hx => (pe_gmE (pv 0) T.cl GM_village hr hx (pa_cons (pv 3) pa_nil))))
    (pss_cons (ps_for (passes_of rfl) rfl (pi_range2 (by rfl) B.range (pa_cons pe_int (pa_cons (pe_callB call_len_seq (by rfl) B.len (by decide +kernel) (pa_cons (pv 7) pa_nil)) pa_nil))) (pg_name (i := 8) nd rfl (Or.inl rfl))
    (pss_cons (ps_set (i := 9) nd rfl (Or.inl rfl) (pe_tup (pa_cons (pe_ix ix_list (pv 7) (pe_op op_sub (pv 8) pe_int) (fun _ _ => rfl)) (pa_cons (pe_ix ix_list (pv 7) (pv 8) (fun _ _ => rfl)) pa_nil))))
    (pss_cons (ps_if (pt_cmp (pc_dnotin hu (pv 9) (pv 2)))
    (pss_one (ps_ret pe_non)) pss_nil)
    (pss_one (ps_aug (i := 6) nd rfl (Or.inl rfl) (pe_dget hu (pv 2) (pv 9) (fun _ _ => rfl)) ip_add)))))
    (pss_one (ps_ret (pv 6)))))))), ?_⟩
    intro d hd
    have s1 := Same.new (o := .dT []) hd
    have hd1 : upd H d (.dT []) d = some (.dT (lenK (rs.take 0))) := upd_same
    refine of_gName ?_
    generalize upd H d (.dT []) = H1 at s1 hd1 ⊢
    obtain ⟨dx, r, us, g1, g2, g3⟩ := id hA
    have ul := g3.length
    have n12 := hT.le
    have nlen := hT.len
    refine ⟨_, rfl, t, C, dx, _, _, rfl, s1 _ _ g1, T.cl, T.nR, tfs_rows _ _, r, rfl, ⟨_, SqL.of (s1 _ _ g2)⟩, for_list (K := K) (a := r) (xs := us) (fun i σ' H' => ∃ v3 v4 v5, σ' = [some (.ref t), some (.ref a), some (.ref d), v3, v4, v5, none, none, none, none] ∧ Same H H' ∧ H' d = some (.dT (lenK (rs.take i))))
      ⟨none, none, none, rfl, s1, hd1⟩ (fun i σ' H' _ ⟨_, _, _, _, e, _⟩ => SqL.of (e _ _ g2)) ?_ ?_⟩
    · rintro i x σ' H2 hx ⟨v3, v4, v5, rfl, s2, hd2⟩
      obtain ⟨rd, hrd, tt, rfl, htt⟩ := paired_get' (g3.same s2) hx
      have kl : (lenK (rs.take i)).length ≤ 24 := by
        have h := lenK_len (rs.take i) []
        rw [List.length_take] at h
        simp only [List.length_nil] at h
        unfold lenK
        omega
      have p1 := put_le (lenK (rs.take i)) [Sum.inl rd.a, Sum.inl rd.b] (.int rd.l)
      refine ⟨tt, _, rfl, SqT.of htt, rfl, _, _, rfl, _, _, rfl, _, _, rfl, rfl, ?_⟩
      refine ⟨_, rfl, _, rfl, _, rfl, _, rfl, by show 2 ≤ sizeLine; decide, fun q1 hq1 => ?_⟩
      have e1 := s2.trans (Same.new (o := .tup [.int rd.a, .int rd.b]) hq1)
      have hd3 := keepN (u := .tup [.int rd.a, .int rd.b]) hd2 hq1
      have hq11 : upd H2 q1 (.tup [.int rd.a, .int rd.b]) q1 = some (.tup (([Sum.inl rd.a, Sum.inl rd.b] : List Key).map kV)) := upd_same
      refine ⟨d, _, rfl, DPut.t hd3 hq11 (szl (by omega)), ?_⟩
      have e2 := Same.mut (o := .dT (putK (lenK (rs.take i)) [Sum.inl rd.a, Sum.inl rd.b] (.int rd.l))) e1 hd
      have hd4 : upd (upd H2 q1 (.tup [.int rd.a, .int rd.b])) d (.dT (putK (lenK (rs.take i)) [Sum.inl rd.a, Sum.inl rd.b] (.int rd.l))) d = some (.dT (putK (lenK (rs.take i)) [Sum.inl rd.a, Sum.inl rd.b] (.int rd.l))) := upd_same
      refine of_nx ?_
      show sDPut _ _ _ _ _ (upd (upd H2 q1 (.tup [.int rd.a, .int rd.b])) d (.dT (putK (lenK (rs.take i)) [Sum.inl rd.a, Sum.inl rd.b] (.int rd.l))))
      generalize upd (upd H2 q1 (.tup [.int rd.a, .int rd.b])) d (.dT (putK (lenK (rs.take i)) [Sum.inl rd.a, Sum.inl rd.b] (.int rd.l))) = H3 at e2 hd4 ⊢
      refine ⟨_, rfl, _, rfl, _, rfl, _, rfl, by show 2 ≤ sizeLine; decide, fun q2 hq2 => ?_⟩
      have e3 := e2.trans (Same.new (o := .tup [.int rd.b, .int rd.a]) hq2)
      have hd5 := keepN (u := .tup [.int rd.b, .int rd.a]) hd4 hq2
      have hq22 : upd H3 q2 (.tup [.int rd.b, .int rd.a]) q2 = some (.tup (([Sum.inl rd.b, Sum.inl rd.a] : List Key).map kV)) := upd_same
      refine ⟨d, _, rfl, DPut.t hd5 hq22 (szl (by omega)), ?_⟩
      exact ⟨_, _, _, rfl, Same.mut e3 hd, by rw [upd_same, lenK_snoc hrd]; rfl⟩
    rintro σ' H2 ⟨v3, v4, v5, rfl, s2, hd2⟩
    rw [← ul, List.take_length] at hd2
    refine of_nx (of_seq (of_asg ?_))
    show gName 6 (.int 0) _ H2 _
    refine of_gName (of_nx (of_seq ?_))
    refine ⟨_, rfl, a, rfl, ⟨_, SqL.of (s2 _ _ hX)⟩, fun D hD => ?_⟩
    refine ⟨fun i m H' => m = is.length - i ∧ i ≤ is.length ∧ ∃ acc, Same H2 H' ∧ H' D = some (.lst acc) ∧ acc.length = i, ⟨_, rfl, Nat.zero_le _, [], Same.new hD, upd_same, rfl⟩, ?_⟩
    rintro i m H' ⟨rfl, hi, acc, s3, hacc, al⟩
    have s23 := s2.trans s3
    have hX3 := s23 _ _ hX
    have xl : (is.map V.int ++ [x]).length = is.length + 1 := by simp
    have hlt : i < (is.map V.int ++ [x]).length := by omega
    refine ⟨⟨_, _, SqL.of hX3, List.getElem?_eq_getElem hlt⟩, fun H' => i + 1 ≤ is.length ∧ ∃ acc, Same H2 H' ∧ H' D = some (.lst acc) ∧ acc.length = i + 1, fun H2' ⟨hi2, q⟩ => ⟨_, by omega, rfl, hi2, q⟩, fun z H4 hz => ?_⟩
    obtain ⟨rfl, hz⟩ := hz
    have hz := hz _ (SqL.of hX3)
    refine ⟨rfl, ?_⟩
    refine ⟨_, rfl, t, dx, _, rfl, s23 _ _ g1, tfs_no _ _ (by decide +kernel) (by decide +kernel), _, rfl, t, n, rs, z, rfl, hA.same s23, ?_⟩
    by_cases c : i < is.length
    · obtain ⟨y, hy⟩ : ∃ y, is[i]? = some y := ⟨_, List.getElem?_eq_getElem c⟩
      have ez : z = .int y := by
        rw [List.getElem?_append_left (by rw [List.length_map]; exact c), List.getElem?_map, hy] at hz
        exact (Option.some.inj hz).symm
      subst ez
      have yr := ir y (List.mem_of_getElem? hy)
      refine ⟨.int y, fun _ => ?_, bad_good' yr⟩
      exact ⟨acc, hacc, szl (by omega), by omega, _, Same.mut s3 hD, upd_same, by simp [al]⟩
    · have ei : i = is.length := by omega
      have ez : z = x := by
        rw [List.getElem?_append_right (by rw [List.length_map]; omega), List.length_map, ei, Nat.sub_self] at hz
        exact (Option.some.inj hz).symm
      subst ez
      exact ⟨hb.1.same s23, bad_good hb.2, fun _ => ke _ s23⟩
end
end Wr

namespace Wr
open PySem L2
section
variable {P : Program} {w : World} {K : PySem.W.Frag} {mg : Str → Option Value} {base : Heap}
theorem paired_self' {β : Type} : ∀ (l : List β), Paired (fun (x : β) v => v = x) l l
  | [] => .nil
  | x :: r => .cons rfl (paired_self' r)
/-! ### people -/
inductive PeopleBad (H : Hp) (n : Nat) : V → Prop
  | non : PeopleBad H n .non
  | tup {a : Addr} {xs : List V} : H a = some (.tup xs) → PeopleBad H n (.ref a)
  | count {a : Addr} {xs : List V} : H a = some (.lst xs) → xs.length ≠ n → PeopleBad H n (.ref a)
  | one {a : Addr} {xs : List V} : H a = some (.lst xs) → xs.length = n → (∀ x ∈ xs, Thing H x) → (∃ x ∈ xs, withinV x 0 1000000 = false) → PeopleBad H n (.ref a)
theorem PeopleBad.same {H H' : Hp} {n : Nat} {x : V} (e : Same H H') (h : PeopleBad H n x) : PeopleBad H' n x := by
  cases h with
  | non => exact .non
  | tup h => exact .tup (e _ _ h)
  | count h c => exact .count (e _ _ h) c
  | one h c hx hb => exact .one (e _ _ h) c (fun x q => (hx x q).same e) hb
def spPeopleN (C CN : Addr) : Sp := fun vs H Q E => ∃ (t : Addr) (n : Nat) (rs : List Road) (x : V), vs = [.ref t, x] ∧ TreeAt C H t n rs ∧ n ≤ 12 ∧ PeopleBad H n x ∧ ∀ H', Same H H' → E (.ref CN) none H'

theorem ok_peopleN {f C CN : Addr} {fd : FuncData} (F : Fun K "check_people" "check_people" S_check_people f fd) (T : Tx K mg C) (B : Bi mg) (X_BadNumber : Xc K mg "BadNumber" CN) (mL : ∃ t, mg "LONGEST" = some (.int 1000000 t)) (G_within : Gd P w K mg base 2 "within" ["number", "low", "high"] (spWithin K)) :
    FnOk P w K mg base (L2N.CX P w) 3 f fd ["tree", "people"] (spPeopleN C CN) := by
  obtain ⟨tL, m_LONGEST⟩ := mL
  refine Fun.okN F sc_check_people (fun vs H Q E h => ?_) (fun cdv A outer s H vs Q E hr h => ?_)
  · obtain ⟨t, n, rs, x, rfl, _⟩ := h
    rfl
  · obtain ⟨t, n, rs, x, rfl, hA, n12, hb, ke⟩ := h
    have hu := hu_of hr
    have nd := sc_check_people.nd
    refine ⟨_, (pss_cons (ps_if (PW.pt (pw_or (pt_not (pt_val (pe_callB call_isi (by rfl) B.isinstance (by decide +kernel) (pa_cons (pv 1) (pa_cons (pe_bltn (v := .ty "list") (by rfl) B.list (by decide +kernel) rfl) pa_nil))))) (pw_or1 (pt_cmpR op_ne (pe_callB call_len_seq (by rfl) B.len (by decide +kernel) (pa_cons (pv 1) pa_nil)) (pe_fld (pv 0) rfl) (nomark _)))))
    (pss_one (L2N.ps_raise rfl (L2N.takes_of rfl rfl rfl rfl) (L2N.pmk_own PySem.F.excBase_ValueError X_BadNumber.e X_BadNumber.g X_BadNumber.k (raises_own X_BadNumber.b X_BadNumber.t) rfl))) pss_nil)
    (pss_one (ps_if (pt_not (pt_val (pe_callB (cr_allK K rfl) (by rfl) B.all (by decide +kernel) (pa_cons (pe_lc (own := [("one", 2)]) (g := gName 2) (tt := tYes) rfl nd (pi_list (pv 1)) (blkOk_by (N := ["tree", "people", "one"]) (sc := defScope S_check_people) (by decide +kernel)) (fun _ _ _ _ _ => (pg_name (i := 2) nd rfl (Or.inl rfl))) (fun _ _ _ _ _ => pts_nil) (fun _ _ _ _ _ => (pe_g G_within hr rfl (pa_cons (pv 2) (pa_cons pe_int (pa_cons (pe_glob (v := .int 1000000) rfl m_LONGEST ⟨_, rfl⟩) pa_nil)))))) pa_nil))))
    (pss_one (L2N.ps_raise rfl (L2N.takes_of rfl rfl rfl rfl) (L2N.pmk_own PySem.F.excBase_ValueError X_BadNumber.e X_BadNumber.g X_BadNumber.k (raises_own X_BadNumber.b X_BadNumber.t) rfl))) pss_nil))), ?_⟩
    obtain ⟨dx, r, h1⟩ := tree_ins hA
    cases hb with
    | non =>
      refine ⟨_, rfl, .non, _, .type "NoneType", _, false, rfl, .ty _, .base .non, kit_ty (show kitB "NoneType" "list" = some false by decide +kernel), false, rfl, ?_⟩
      refine iteT (iteT ?_)
      exact ke H (Same.refl _)
    | tup e =>
      refine ⟨_, rfl, _, _, .type "tuple", _, false, rfl, .ty _, .base (.tup e), kit_ty (show kitB "tuple" "list" = some false by decide +kernel), false, rfl, ?_⟩
      refine iteT (iteT ?_)
      exact ke H (Same.refl _)
    | @count a xs hp hl =>
      refine ⟨_, rfl, .ref a, _, .type "list", _, true, rfl, .ty _, .base (.lst hp), kit_ty (by decide +kernel), true, rfl, ?_⟩
      refine iteF ?_
      refine ⟨_, rfl, a, _, rfl, .inl (SqL.of hp), _, rfl, t, C, dx, _, _, rfl, h1, T.cl, T.nS, tfs_size _ _, rfl, _, rfl, ?_⟩
      rw [dec_int, show (((xs.length : Nat) : Int) == (n : Int)) = false by simp; omega]
      refine iteT ?_
      exact ke H (Same.refl _)
    | @one a xs hp hl hx hb =>
      refine ⟨_, rfl, .ref a, _, .type "list", _, true, rfl, .ty _, .base (.lst hp), kit_ty (by decide +kernel), true, rfl, ?_⟩
      refine iteF ?_
      refine ⟨_, rfl, a, _, rfl, .inl (SqL.of hp), _, rfl, t, C, dx, _, _, rfl, h1, T.cl, T.nS, tfs_size _ _, rfl, _, rfl, ?_⟩
      rw [dec_int, show (((xs.length : Nat) : Int) == (n : Int)) = true by simp; omega]
      refine iteF ?_
      refine of_next (of_ifs (of_not (of_b (of_cb1 (lc_at (Itl K a) (fun R hR => ⟨_, rfl, a, rfl, ⟨_, SqL.of hp⟩, hR⟩) ?_)))))
      refine lcl (d := V.non) (fun x v => v = x) (paired_self' xs) (SqL.of hp) (by omega) (fun _ => true) (fun x => .bl (withinV x 0 1000000)) (fun x v hm hE H3 s3 Yes No hy _ => ?_) (fun D' H3 hD' s3 hD3 => ?_)
      · subst hE
        refine turn_all ?_
        exact ⟨_, rfl, v, 0, 1000000, rfl, ((hx v hm).same s3).plain, hy rfl _ (Same.refl _)⟩
      · have e : ((xs.filter fun _ => true).map fun x => V.bl (withinV x 0 1000000)) = (xs.map fun x => withinV x 0 1000000).map V.bl := by
          rw [List.filter_eq_self.mpr fun _ _ => rfl, List.map_map]; rfl
        rw [e] at hD3
        refine ⟨D', _, rfl, SqL.of hD3, _, rfl, ?_⟩
        have ha : ((xs.map fun x => withinV x 0 1000000).all id) = false := by
          rw [List.all_map, List.all_eq_false]
          obtain ⟨x, hm, hf⟩ := hb
          exact ⟨x, hm, by show ¬ (withinV x 0 1000000 = true); rw [hf]; simp⟩
        rw [ha]
        refine iteT ?_
        exact ke H3 s3

theorem ok_walksN {f C CN : Addr} {fd : FuncData} (F : Fun K "walks" "walks" S_walks f fd) (T : Tx K mg C) (B : Bi mg) (G_distances : Gd P w K mg base 2 "distances" ["tree"] spNo) (G_check_people : GdN P w K mg base 3 "check_people" ["tree", "people"] (spPeopleN C CN)) : FnOk P w K mg base (L2N.CX P w) 4 f fd ["tree", "people"] (spPeopleN C CN) := by
  refine Fun.okN F sc_walks (fun vs H Q E h => ?_) (fun cdv A outer s H vs Q E hr h => ?_)
  · obtain ⟨t, n, rs, x, rfl, _⟩ := h
    rfl
  · obtain ⟨t, n, rs, x, rfl, hA, n12, hb, ke⟩ := h
    have nd := sc_walks.nd
    refine ⟨_, (pss_cons (ps_expr (pe_gN G_check_people hr rfl (L2N.takes_of rfl rfl rfl rfl) (pa_cons (pv 0) (pa_cons (pv 1) pa_nil))))
    (pss_one (ps_ret (pe_lc (own := [("row", 2)]) (g := gName 2) (tt := tYes) rfl nd (pi_list (pe_g G_distances hr rfl (pa_cons (pv 0) pa_nil))) (blkOk_by (N := ["tree", "people", "row", "k"]) (sc := defScope S_walks) (by decide +kernel)) (fun _ _ _ _ _ => (pg_name (i := 2) nd rfl (Or.inr rfl))) (fun _ _ _ _ _ => pts_nil) (fun _ _ _ _ _ => (pe_callB (cr_sumK K rfl) (by rfl) B.sum (by decide +kernel) (pa_cons (pe_lc (own := [("k", 3)]) (g := gName 3) (tt := tYes) rfl nd (pi_range1 (by rfl) B.range (pa_cons (pe_fldK K (pv 0) rfl) pa_nil)) (blkOk_by (N := ["tree", "people", "row", "k"])  rfl) (fun _ _ _ _ _ => (pg_name (i := 3) nd rfl (Or.inl rfl))) (fun _ _ _ _ _ => pts_nil) (fun _ _ _ _ _ => (pe_op op_mul (pe_ix (ix_listK K) (pv 1) (pv 3) (fun _ _ => rfl)) (pe_ix (ix_listK K) (pv 2) (pv 3) (fun _ _ => rfl))))) pa_nil))))))), ?_⟩
    exact ⟨_, rfl, _, rfl, t, n, rs, x, rfl, hA, n12, hb, ke⟩
-- slots: 0:tree, 1:people, 2:told*, 3:least*, 4:village
theorem sc_medians : FnScope ["tree", "people", "told", "least", "village"] ["tree", "people"] (defScope S_medians) := ⟨rfl, rfl, rfl, by decide +kernel, rfl, by decide +kernel, by decide +kernel⟩
theorem ok_mediansN {f C CN : Addr} {fd : FuncData} (F : Fun K "medians" "medians" S_medians f fd) (T : Tx K mg C) (B : Bi mg) (G_walks : GdN P w K mg base 4 "walks" ["tree", "people"] (spPeopleN C CN)) : FnOk P w K mg base (L2N.CX P w) 5 f fd ["tree", "people"] (spPeopleN C CN) := by
  refine Fun.okN F sc_medians (fun vs H Q E h => ?_) (fun cdv A outer s H vs Q E hr h => ?_)
  · obtain ⟨t, n, rs, x, rfl, _⟩ := h
    rfl
  · obtain ⟨t, n, rs, x, rfl, hA, n12, hb, ke⟩ := h
    have nd := sc_medians.nd
    refine ⟨_, (pss_cons (ps_set (i := 2) nd rfl (Or.inr rfl) (pe_gN G_walks hr rfl (L2N.takes_of rfl rfl rfl rfl) (pa_cons (pv 0) (pa_cons (pv 1) pa_nil))))
    (pss_cons (ps_set (i := 3) nd rfl (Or.inr rfl) (pe_callB (cr_minK K rfl) (by rfl) B.min (by decide +kernel) (pa_cons (pv 2) pa_nil)))
    (pss_one (ps_ret (pe_tup (pa_cons (pe_lc (own := [("village", 4)]) (g := gName 4) rfl nd (pi_range1 (by rfl) B.range (pa_cons (pe_fld (pv 0) rfl) pa_nil)) (blkOk_by (N := ["tree", "people", "told", "least", "village"]) (sc := defScope S_medians) (by decide +kernel)) (fun _ _ _ _ _ => (pg_name (i := 4) nd rfl (Or.inl rfl))) (fun _ _ _ _ _ => (pts_one (pt_cmpR op_eq (pe_ix (ix_listK K) (pv 2) (pv 4) (fun _ _ => rfl)) (pv 3) (nomark _)))) (fun _ _ _ _ _ => (pv 4))) (pa_cons (pv 3) pa_nil))))))), ?_⟩
    exact ⟨_, rfl, _, rfl, t, n, rs, x, rfl, hA, n12, hb, ke⟩
/-! ### roads -/
def spSidesN (C CR : Addr) : Sp := fun vs H Q E => ∃ (t : Addr) (n : Nat) (rs : List Road) (x : V), vs = [.ref t, x] ∧ TreeAt C H t n rs ∧ Thing H x ∧ withinV x 0 ((rs.length : Int) - 1) = false ∧ E (.ref CR) none H
-- slots: 0:tree, 1:at, 2:one, 3:other, 4:length, 5:walked, 6:beyond*, 7:village, 8:here
theorem sc_sides : FnScope ["tree", "at", "one", "other", "length", "walked", "beyond", "village", "here"] ["tree", "at"] (defScope S_sides) := ⟨rfl, rfl, rfl, by decide +kernel, rfl, by decide +kernel, by decide +kernel⟩
theorem ok_sidesN {f C CR : Addr} {fd : FuncData} (F : Fun K "sides" "sides" S_sides f fd) (T : Tx K mg C) (B : Bi mg) (X_NoRoad : Xc K mg "NoRoad" CR) (G_within : Gd P w K mg base 2 "within" ["number", "low", "high"] (spWithin K)) (GM_walked : Gm P w K mg base C 1 "walked" ["self", "start"] (spWalked C)) :
    FnOk P w K mg base (L2N.CX P w) 3 f fd ["tree", "at"] (spSidesN C CR) := by
  refine Fun.okN F sc_sides (fun vs H Q E h => ?_) (fun cdv A outer s H vs Q E hr h => ?_)
  · obtain ⟨t, n, rs, x, rfl, _⟩ := h
    rfl
  · obtain ⟨t, n, rs, x, rfl, hA, hx, hb, ke⟩ := h
    have hu := hu_of hr
    have nd := sc_sides.nd
    refine ⟨_, (pss_cons (ps_if (pt_not (pt_val (pe_g G_within hr rfl (pa_cons (pv 1) (pa_cons pe_int (pa_cons (pe_op op_sub (pe_callB call_len_seq (by rfl) B.len (by decide +kernel) (pa_cons (pe_fld (pv 0) rfl) pa_nil)) pe_int) pa_nil))))))
    (pss_one (L2N.ps_raise rfl (L2N.takes_of rfl rfl rfl rfl) (L2N.pmk_own PySem.F.excBase_ValueError X_NoRoad.e X_NoRoad.g X_NoRoad.k (raises_own X_NoRoad.b X_NoRoad.t) rfl))) pss_nil)
    (pss_cons (ps_asg (pe_ix ix_list (pe_fld (pv 0) rfl) (pv 1) (fun _ _ => rfl)) (pg_tup rfl (pgs_cons (pg_name (i := 2) nd rfl (Or.inl rfl)) (pgs_cons (pg_name (i := 3) nd rfl (Or.inl rfl)) (pgs_cons (pg_name (i := 4) nd rfl (Or.inl rfl)) pgs_nil)))))
    (pss_cons (ps_set (i := 5) nd rfl (Or.inl rfl) (pe_gm (pv 0) T.cl GM_walked hr (pa_cons (pv 2) pa_nil)))
    (pss_cons (ps_set (i := 6) nd rfl (Or.inr rfl) (pe_lst pa_nil))
    (pss_cons (ps_for (passes_of rfl) rfl (pi_range1 (by rfl) B.range (pa_cons (pe_fld (pv 0) rfl) pa_nil)) (pg_name (i := 7) nd rfl (Or.inl rfl))
    (pss_cons (ps_set (i := 8) nd rfl (Or.inl rfl) (pv 7))
    (pss_cons (ps_while (passes_of rfl) (PW.pt (pw_and (pt_cmpR op_ne (pv 8) (pv 2) (nomark _)) (pw_and1 (pt_cmpR op_ne (pv 8) (pv 3) (nomark _)))))
    (pss_one (ps_set (i := 8) nd rfl (Or.inl rfl) (pe_ix ix_tup (pe_dget hu (pv 5) (pv 8) (fun _ _ => rfl)) pe_int (fun _ _ => rfl)))))
    (pss_one (ps_if (pt_cmpR op_eq (pv 8) (pv 3) (nomark _))
    (pss_one (ps_expr (pe_bm PySem.F.plainAttrs_list PySem.F.slot_list_append PySem.F.type_list_append mt_append (pv 6) (pa_cons (pv 7) pa_nil)))) pss_nil)))))
    (pss_one (ps_ret (pe_tup (pa_cons (pe_lc (own := [("village", 7)]) (g := gName 7) rfl nd (pi_range1 (by rfl) B.range (pa_cons (pe_fld (pv 0) rfl) pa_nil)) (blkOk_by (N := ["tree", "at", "one", "other", "length", "walked", "beyond", "village", "here"]) (sc := defScope S_sides) (by decide +kernel)) (fun _ _ _ _ _ => (pg_name (i := 7) nd rfl (Or.inl rfl))) (fun _ _ _ _ _ => (pts_one (pt_cmpR (op_notInK K) (pv 7) (pv 6) rfl))) (fun _ _ _ _ _ => (pv 7))) (pa_cons (pv 6) pa_nil)))))))))), ?_⟩
    obtain ⟨dx, rr, us, h1, h2, h3⟩ := id hA
    have rlen := h3.length
    refine ⟨_, rfl, _, rfl, t, C, dx, _, _, rfl, h1, T.cl, T.nR, tfs_rows _ _, rr, us, rfl, .inl (SqL.of h2), _, _, rfl, rfl, x, 0, _, rfl, hx.plain, _, rfl, ?_⟩
    rw [← rlen, hb]
    refine iteT ?_
    exact ke
/-- moved: no such road, or, in turn, no such village -/
def spMovedN (C CR CV : Addr) : Sp := fun vs H Q E => ∃ (t : Addr) (n : Nat) (rs : List Road) (x y z : V), vs = [.ref t, x, y, z] ∧ TreeAt C H t n rs ∧ IsTree n rs ∧ Thing H x ∧
  ((withinV x 0 ((rs.length : Int) - 1) = false ∧ E (.ref CR) none H) ∨ (withinV x 0 ((rs.length : Int) - 1) = true ∧ (Bad H n y ∨ (Thing H y ∧ Good n y ∧ Bad H n z)) ∧ ∀ H', Same H H' → E (.ref CV) none H'))
-- slots: 0:tree, 1:at, 2:one, 3:other, 4:roads
theorem sc_moved : FnScope ["tree", "at", "one", "other", "roads"] ["tree", "at", "one", "other"] (defScope S_moved) := ⟨rfl, rfl, rfl, by decide +kernel, rfl, by decide +kernel, by decide +kernel⟩
theorem ok_movedN {f C CR CV : Addr} {fd : FuncData} (F : Fun K "moved" "moved" S_moved f fd) (T : Tx K mg C) (B : Bi mg) (X_NoRoad : Xc K mg "NoRoad" CR) (G_within : Gd P w K mg base 2 "within" ["number", "low", "high"] (spWithin K)) (GM_village : GmN P w K mg base C 3 "village" ["self", "at"] (spVillageN C CV)) (GM_roads : Gm P w K mg base C 1 "roads" ["self"] (spRoads C))
    (GC_Tree : GcN P w K mg base C 4 "Tree" ["self", "villages", "roads"] spNo) : FnOk P w K mg base (L2N.CX P w) 6 f fd ["tree", "at", "one", "other"] (spMovedN C CR CV) := by
  refine Fun.okN F sc_moved (fun vs H Q E h => ?_) (fun cdv A outer s H vs Q E hr h => ?_)
  · obtain ⟨t, n, rs, x, y, z, rfl, _⟩ := h
    rfl
  · obtain ⟨t, n, rs, x, y, z, rfl, hA, hT, hx, hb⟩ := h
    have nd := sc_moved.nd
    refine ⟨_, (pss_cons (ps_if (pt_not (pt_val (pe_g G_within hr rfl (pa_cons (pv 1) (pa_cons pe_int (pa_cons (pe_op op_sub (pe_callB call_len_seq (by rfl) B.len (by decide +kernel) (pa_cons (pe_fld (pv 0) rfl) pa_nil)) pe_int) pa_nil))))))
    (pss_one (L2N.ps_raise rfl (L2N.takes_of rfl rfl rfl rfl) (L2N.pmk_own PySem.F.excBase_ValueError X_NoRoad.e X_NoRoad.g X_NoRoad.k (raises_own X_NoRoad.b X_NoRoad.t) rfl))) pss_nil)
    (pss_cons (ps_set (i := 4) nd rfl (Or.inl rfl) (pe_gm0 (pv 0) T.cl GM_roads hr))
    (pss_cons (ps_asg (pe_tup (pa_cons (pe_gmN (pv 0) T.cl GM_village hr (L2N.takes_of rfl rfl rfl rfl) (pa_cons (pv 2) pa_nil)) (pa_cons (pe_gmN (pv 0) T.cl GM_village hr (L2N.takes_of rfl rfl rfl rfl) (pa_cons (pv 3) pa_nil)) (pa_cons (pe_ix ix_tup (pe_ix ix_list (pv 4) (pv 1) (fun _ _ => rfl)) pe_int (fun _ _ => rfl)) pa_nil)))) (pg_sub (pv 4) (pv 1) set_list))
    (pss_one (ps_ret (pe_gcN GC_Tree hr rfl (L2N.takes_of rfl rfl rfl rfl) (pa_cons (pe_fld (pv 0) rfl) (pa_cons (pv 4) pa_nil)))))))), ?_⟩
    obtain ⟨dx, rr, us, h1, h2, h3⟩ := id hA
    have rlen := h3.length
    refine ⟨_, rfl, _, rfl, t, C, dx, _, _, rfl, h1, T.cl, T.nR, tfs_rows _ _, rr, us, rfl, .inl (SqL.of h2), _, _, rfl, rfl, x, 0, _, rfl, hx.plain, _, rfl, ?_⟩
    rw [← rlen]
    rcases hb with ⟨hb, ke⟩ | ⟨hg, hb, ke⟩
    · rw [hb]
      refine iteT ?_
      exact ke
    · rw [hg]
      refine iteF ?_
      refine ⟨_, rfl, t, dx, _, rfl, h1, tfs_no _ _ (by decide +kernel) (by decide +kernel), t, n, rs, rfl, hA, fun q us H1 hq s1 hq1 hR1 => ?_⟩
      refine ⟨_, rfl, t, dx, _, rfl, s1 _ _ h1, tfs_no _ _ (by decide +kernel) (by decide +kernel), _, rfl, t, n, rs, y, rfl, hA.same s1, ?_⟩
      rcases hb with ⟨hy, hb⟩ | ⟨hy, hgy, hz, hb⟩
      · exact ⟨hy.same s1, bad_good hb, fun _ => ke H1 s1⟩
      · refine ⟨hy.same s1, fun _ => ?_, fun g => bad_good g hgy⟩
        refine ⟨_, rfl, t, dx, _, rfl, s1 _ _ h1, tfs_no _ _ (by decide +kernel) (by decide +kernel), _, rfl, t, n, rs, z, rfl, hA.same s1, hz.same s1, bad_good hb, fun _ => ke H1 s1⟩
end
end Wr

namespace Wr
open PySem L2
section
variable {P : Program} {w : World} {K : PySem.W.Frag} {mg : Str → Option Value} {base : Heap}
/-- things that need no heap -/
inductive Flat : V → Prop
  | int (i : Int) : Flat (.int i)
  | bl (b : Bool) : Flat (.bl b)
  | str (x : Str) : Flat (.str x)
  | non : Flat .non
theorem Flat.thing {x : V} {H : Hp} (h : Flat x) : Thing H x := by
  cases h with
  | int i => exact .int i
  | bl b => exact .bl b
  | str x => exact .str x
  | non => exact .non
/-- tuples of such -/
def TupAt (H : Hp) (xs : List V) (v : V) : Prop := ∃ t, v = .ref t ∧ H t = some (.tup xs)
abbrev TupsAt (H : Hp) (xss : List (List V)) (vs : List V) : Prop := Paired (TupAt H) xss vs
theorem TupsAt.same {H H' : Hp} {xss : List (List V)} {vs : List V} (e : Same H H') (h : TupsAt H xss vs) : TupsAt H' xss vs := Paired.mapP h fun _ _ ⟨t, e1, e2⟩ => ⟨t, e1, e _ _ e2⟩
theorem TupsAt.updL {H : Hp} {p : Addr} {zs ys : List V} {xss : List (List V)} {vs : List V} (h : TupsAt H xss vs) (hp : H p = some (.lst zs)) : TupsAt (upd H p (.lst ys)) xss vs := Paired.mapP h fun _ _ ⟨t, e1, e2⟩ => ⟨t, e1, keepU e2 hp (by intro z; cases z)⟩
def roadL (r : Road) : List V := [.int r.a, .int r.b, .int r.l]
theorem tups_roads {H : Hp} : ∀ {rs : List Road} {us : List V}, RoadsAt H rs us → TupsAt H (rs.map roadL) us
  | _, _, .nil => .nil
  | _, _, .cons ⟨t, e1, e2⟩ r => .cons ⟨t, e1, e2⟩ (tups_roads r)
theorem tups_args {H : Hp} {n : Int} : ∀ {xss : List (List V)} {us : List V}, TupsAt H xss us → (∀ xs ∈ xss, ∀ x ∈ xs, Flat x) → Paired (fun b u => RoadArg K H n u b) (xss.map fun xs => roadV xs n) us
  | _, _, .nil, _ => .nil
  | xs :: _, _, .cons ⟨t, e1, e2⟩ r, h => .cons (.inl ⟨t, xs, e1, e2, fun y hy => (h xs (List.mem_cons_self ..) y hy).thing.plain, rfl⟩) (tups_args r fun ys hys => h ys (List.mem_cons_of_mem _ hys))
def shiftL (n : Nat) (r : Road) : List V := [.int (r.a + n), .int (r.b + n), .int r.l]
def joinL (n : Nat) (rs : List Road) (x : Int) (y : V) (qs : List Road) : List (List V) := rs.map roadL ++ [.int x, .int n, y] :: qs.map (shiftL n)
theorem joinL_flat {n : Nat} {rs qs : List Road} {x : Int} {y : V} (hy : Flat y) : ∀ xs ∈ joinL n rs x y qs, ∀ z ∈ xs, Flat z := by
  intro xs hxs z hz
  unfold joinL at hxs
  rcases List.mem_append.mp hxs with h | h
  · obtain ⟨r, _, rfl⟩ := List.mem_map.mp h
    simp only [roadL, List.mem_cons, List.not_mem_nil, or_false] at hz
    rcases hz with rfl | rfl | rfl <;> exact .int _
  · rcases List.mem_cons.mp h with rfl | h
    · simp only [List.mem_cons, List.not_mem_nil, or_false] at hz
      rcases hz with rfl | rfl | rfl
      · exact .int _
      · exact .int _
      · exact hy
    · obtain ⟨r, _, rfl⟩ := List.mem_map.mp h
      simp only [shiftL, List.mem_cons, List.not_mem_nil, or_false] at hz
      rcases hz with rfl | rfl | rfl <;> exact .int _
theorem joinL_bad {n : Nat} {rs qs : List Road} {x : Int} {y : V} {k : Int} (hy : withinV y 1 1000000 = false) : false ∈ (joinL n rs x y qs).map fun xs => roadV xs k := by
  unfold joinL
  rw [List.map_append, List.map_cons]
  refine List.mem_append_right _ ?_
  have e : roadV [.int x, .int n, y] k = false := by
    show (withinV y 1 1000000 && _) = false
    rw [hy]; rfl
  rw [e]
  exact List.mem_cons_self ..
def spJoinedN (C CB CV : Addr) : Sp := fun vs H Q E => ∃ (t o : Addr) (n m : Nat) (rs qs : List Road) (x y : V), vs = [.ref t, x, .ref o, y] ∧ TreeAt C H t n rs ∧ IsTree n rs ∧ TreeAt C H o m qs ∧ IsTree m qs ∧
  ((Bad H n x ∧ ∀ H', Same H H' → E (.ref CV) none H') ∨ (∃ i : Int, x = .int i ∧ (0 ≤ i ∧ i < n) ∧ Flat y ∧ (12 < n + m ∨ (n + m ≤ 12 ∧ withinV y 1 1000000 = false)) ∧ ∀ H', Same H H' → E (.ref CB) none H'))
-- slots: 0:tree, 1:at, 2:other, 3:length, 4:roads, 5:one, 6:two, 7:long
theorem sc_joined : FnScope ["tree", "at", "other", "length", "roads", "one", "two", "long"] ["tree", "at", "other", "length"] (defScope S_joined) := ⟨rfl, rfl, rfl, by decide +kernel, rfl, by decide +kernel, by decide +kernel⟩
theorem ok_joinedN {f C CB CV : Addr} {fd : FuncData} (F : Fun K "joined" "joined" S_joined f fd) (T : Tx K mg C) (B : Bi mg) (GM_village : GmN P w K mg base C 3 "village" ["self", "at"] (spVillageN C CV)) (GM_roads : Gm P w K mg base C 1 "roads" ["self"] (spRoads C)) (GC_Tree : GcN P w K mg base C 4 "Tree" ["self", "villages", "roads"] (spInitX (K := K) C CB)) :
    FnOk P w K mg base (L2N.CX P w) 6 f fd ["tree", "at", "other", "length"] (spJoinedN C CB CV) := by
  refine Fun.okN F sc_joined (fun vs H Q E h => ?_) (fun cdv A outer s H vs Q E hr h => ?_)
  · obtain ⟨t, o, n, m, rs, qs, x, y, rfl, _⟩ := h
    rfl
  · obtain ⟨t, o, n, m, rs, qs, x, y, rfl, hA, hT, hO, hS, hb⟩ := h
    have nd := sc_joined.nd
    have n1 := hT.len
    have m1 := hS.len
    have n12 := hT.le
    have m12 := hS.le
    refine ⟨_, (pss_cons (ps_expr (pe_gmN (pv 0) T.cl GM_village hr (L2N.takes_of rfl rfl rfl rfl) (pa_cons (pv 1) pa_nil)))
    (pss_cons (ps_set (i := 4) nd rfl (Or.inl rfl) (pe_op op_cat (pe_gm0 (pv 0) T.cl GM_roads hr) (pe_lst (pa_cons (pe_tup (pa_cons (pv 1) (pa_cons (pe_fld (pv 0) rfl) (pa_cons (pv 3) pa_nil)))) pa_nil))))
    (pss_cons (ps_for (passes_of rfl) rfl (pi_list (pe_fld (pv 2) rfl)) (pg_tup rfl (pgs_cons (pg_name (i := 5) nd rfl (Or.inl rfl)) (pgs_cons (pg_name (i := 6) nd rfl (Or.inl rfl)) (pgs_cons (pg_name (i := 7) nd rfl (Or.inl rfl)) pgs_nil))))
    (pss_one (ps_expr (pe_bm PySem.F.plainAttrs_list PySem.F.slot_list_append PySem.F.type_list_append mt_append (pv 4) (pa_cons (pe_tup (pa_cons (pe_op op_add (pv 5) (pe_fld (pv 0) rfl)) (pa_cons (pe_op op_add (pv 6) (pe_fld (pv 0) rfl)) (pa_cons (pv 7) pa_nil)))) pa_nil)))))
    (pss_one (ps_ret (pe_gcN GC_Tree hr rfl (L2N.takes_of rfl rfl rfl rfl) (pa_cons (pe_op op_add (pe_fld (pv 0) rfl) (pe_fld (pv 2) rfl)) (pa_cons (pv 4) pa_nil)))))))), ?_⟩
    obtain ⟨dx, r, h1⟩ := tree_ins hA
    refine ⟨_, rfl, t, dx, _, rfl, h1, tfs_no _ _ (by decide +kernel) (by decide +kernel), _, rfl, t, n, rs, x, rfl, hA, ?_⟩
    rcases hb with ⟨⟨hx, hb⟩, ke⟩ | ⟨i, rfl, hi, hy, hb, ke⟩
    · exact ⟨hx, bad_good hb, fun _ => ke H (Same.refl _)⟩
    refine ⟨.int i, fun _ => ?_, bad_good' hi⟩
    refine ⟨_, rfl, t, dx, _, rfl, h1, tfs_no _ _ (by decide +kernel) (by decide +kernel), t, n, rs, rfl, hA, fun q us H1 hq s1 hq1 hR1 => ?_⟩
    refine ⟨_, rfl, _, rfl, t, C, dx, _, _, rfl, s1 _ _ h1, T.cl, T.nS, tfs_size _ _, _, rfl, by show 3 ≤ sizeLine; decide, fun tp htp => ?_⟩
    have s2 := s1.trans (Same.new (o := .tup [.int i, .int (n : Int), y]) htp)
    have hq2 := keepN (u := .tup [.int i, .int (n : Int), y]) hq1 htp
    have hR2 := hR1.same (Same.new (o := .tup [.int i, .int (n : Int), y]) htp)
    have ht2 : upd H1 tp (.tup [.int i, .int (n : Int), y]) tp = some (.tup [.int i, .int (n : Int), y]) := upd_same
    generalize upd H1 tp (.tup [.int i, .int (n : Int), y]) = H2 at s2 hq2 hR2 ht2 ⊢
    refine ⟨by show 1 ≤ sizeLine; decide, fun p1 hp1 => ?_⟩
    have s3 := s2.trans (Same.new (o := .lst [.ref tp]) hp1)
    have hq3 := keepN (u := .lst [.ref tp]) hq2 hp1
    have hR3 := hR2.same (Same.new (o := .lst [.ref tp]) hp1)
    have ht3 := keepN (u := .lst [.ref tp]) ht2 hp1
    have hp3 : upd H2 p1 (.lst [.ref tp]) p1 = some (.lst [.ref tp]) := upd_same
    generalize upd H2 p1 (.lst [.ref tp]) = H3 at s3 hq3 hR3 ht3 hp3 ⊢
    have ul := hR3.length
    refine ⟨q, p1, us, [.ref tp], rfl, rfl, hq3, hp3, szle (by simp; omega), fun p hp => ?_⟩
    have s4 := s3.trans (Same.new (o := .lst (us ++ [.ref tp])) hp)
    have hR4 := hR3.same (Same.new (o := .lst (us ++ [.ref tp])) hp)
    have ht4 := keepN (u := .lst (us ++ [.ref tp])) ht3 hp
    have hp4 : upd H3 p (.lst (us ++ [.ref tp])) p = some (.lst (us ++ [.ref tp])) := upd_same
    have hpH : H p = none := s3.free hp
    refine of_gName (of_nx ?_)
    show tSeq _ _ _ _ (upd H3 p (.lst (us ++ [.ref tp])))
    generalize upd H3 p (.lst (us ++ [.ref tp])) = H4 at s4 hR4 ht4 hp4 ⊢
    have hR4' : TupsAt H4 (joinL n rs i y (qs.take 0)) (us ++ [.ref tp]) := paired_snoc (tups_roads hR4) ⟨tp, rfl, ht4⟩
    obtain ⟨dxo, ro, uo, g1, g2, g3⟩ := id hO
    have ulo := g3.length
    have jl : ∀ k, (joinL n rs i y (qs.take k)).length ≤ 24 := fun k => by
      unfold joinL
      rw [List.length_append, List.length_map, List.length_cons, List.length_map, List.length_take]
      omega
    refine ⟨_, rfl, o, C, dxo, _, _, rfl, s4 _ _ g1, T.cl, T.nR, tfs_rows _ _, ro, rfl, ⟨uo, SqL.of (s4 _ _ g2)⟩, for_list (K := K) (a := ro) (xs := uo) (fun k σ' H' => ∃ v5 v6 v7 vs, σ' = [some (.ref t), some (.int i), some (.ref o), some y, some (.ref p), v5, v6, v7] ∧ Same H H' ∧ H' p = some (.lst vs) ∧ TupsAt H' (joinL n rs i y (qs.take k)) vs)
      ⟨none, none, none, _, rfl, s4, hp4, hR4'⟩ (fun i σ' H' _ ⟨_, _, _, _, _, s5, _⟩ => SqL.of (s5 _ _ g2)) ?_ ?_⟩
    · rintro k z σ' H5 hz ⟨v5, v6, v7, vs, rfl, s5, hp5, hR5⟩
      obtain ⟨rd, hrd, tr, rfl, e2⟩ := paired_get' g3 hz
      have vl := hR5.length
      have jk := jl k
      refine ⟨tr, _, rfl, SqT.of (s5 _ _ e2), rfl, _, _, rfl, _, _, rfl, _, _, rfl, rfl, ?_⟩
      refine ⟨_, rfl, .inl ⟨rfl, _, SqL.of hp5⟩, _, rfl, _, rfl, t, C, dx, _, _, rfl, s5 _ _ h1, T.cl, T.nS, tfs_size _ _, _, _, rfl, rfl, _, rfl, _, rfl, t, C, dx, _, _, rfl, s5 _ _ h1, T.cl, T.nS, tfs_size _ _, _, _, rfl, rfl, _, rfl, by show 3 ≤ sizeLine; decide, fun tq htq => ?_⟩
      have s6 := s5.trans (Same.new (o := .tup [.int (rd.a + (n : Int)), .int (rd.b + (n : Int)), .int rd.l]) htq)
      have hp6 := keepN (u := .tup [.int (rd.a + (n : Int)), .int (rd.b + (n : Int)), .int rd.l]) hp5 htq
      have hR6 := hR5.same (Same.new (o := .tup [.int (rd.a + (n : Int)), .int (rd.b + (n : Int)), .int rd.l]) htq)
      have ht6 : upd H5 tq (.tup [.int (rd.a + (n : Int)), .int (rd.b + (n : Int)), .int rd.l]) tq = some (.tup (shiftL n rd)) := upd_same
      generalize upd H5 tq (.tup [.int (rd.a + (n : Int)), .int (rd.b + (n : Int)), .int rd.l]) = H6 at s6 hp6 hR6 ht6 ⊢
      refine ⟨p, _, _, rfl, rfl, hp6, szl (by omega), ?_⟩
      refine ⟨_, _, _, _, rfl, Same.mut s6 hpH, upd_same, ?_⟩
      have e : joinL n rs i y (qs.take (k + 1)) = joinL n rs i y (qs.take k) ++ [shiftL n rd] := by
        unfold joinL
        rw [List.take_add_one, hrd]
        simp
      rw [e]
      exact paired_snoc (hR6.updL hp6) ⟨tq, rfl, keepU ht6 hp6 (by intro z; cases z)⟩
    · rintro σ' H5 ⟨v5, v6, v7, vs, rfl, s5, hp5, hR5⟩
      have vl := hR5.length
      rw [List.take_of_length_le (by omega)] at hR5 vl
      refine ⟨_, rfl, t, C, dx, _, _, rfl, s5 _ _ h1, T.cl, T.nS, tfs_size _ _, _, rfl, o, C, dxo, _, _, rfl, s5 _ _ g1, T.cl, T.nS, tfs_size _ _, _, _, rfl, rfl, _, rfl, fun t' dx' ht' hdx' hne => ?_⟩
      have s23 : Same H5 (upd (upd H5 dx' (.own t')) t' (.ins C dx' [])) := fun b o e => by
        rw [upd_ne (ne_of_none e ht'), upd_ne (ne_of_none e hdx')]; exact e
      have res : InitRes K (upd (upd H5 dx' (.own t')) t' (.ins C dx' [])) (.int ((n + m : Nat) : Int)) (.ref p) none := by
        rcases hb with hb | ⟨hb, hy2⟩
        · refine .num (Plain.int _) ?_
          show (decide (_ ≤ _) && decide (_ ≤ _)) = false
          rw [decide_eq_false (show ¬ (((n + m : Nat) : Int) ≤ 12) by omega), Bool.and_false]
        · refine .road hb (s23 _ _ hp5) ?_ (tups_args (hR5.same s23) (joinL_flat hy)) (joinL_bad hy2)
          unfold joinL at vl
          rw [List.length_append, List.length_map, List.length_cons, List.length_map] at vl
          omega
      refine ⟨t', dx', .int ((n + m : Nat) : Int), .ref p, none, rfl, upd_same, res, fun _ _ h => (by cases h), fun _ H6 kp => ?_⟩
      exact ke H6 fun b o e => kp b o (s23 b o (s5 b o e)) (ne_of_none (s5 b o e) ht')
end
end Wr

namespace Wr
open PySem L2 LamX
section
variable {P : Program} {w : World} {K : PySem.W.Frag} {mg : Str → Option Value} {base : Heap}
/-! ### dug of what is no walk -/
theorem pss_out {X : Cx} {rest : List Stmt} : PSs X rest (fun _ _ _ => False) := ⟨fun _ _ _ _ _ _ h => h.elim⟩
theorem ok_dugN {f CN : Addr} {fd : FuncData} (F : Fun K "dug" "dug" S_dug f fd) (G_check_walk : GdN P w K mg base 3 "check_walk" ["walk"] (spCheckWalkN CN)) : FnOk P w K mg base (L2N.CX P w) 5 f fd ["tree", "walk"] (spDugN CN) := by
  refine Fun.okN F sc_dug (fun vs H Q E h => ?_) (fun cdv A outer s H vs Q E hr h => ?_)
  · obtain ⟨t, x, rfl, _⟩ := h
    rfl
  · obtain ⟨t, x, rfl, hx, hb, ke⟩ := h
    refine ⟨_, pss_cons (ps_expr (pe_gN G_check_walk hr rfl (L2N.takes_of rfl rfl rfl rfl) (pa_cons (pv 1) pa_nil))) pss_out, ?_⟩
    exact ⟨_, rfl, x, rfl, hx, hb, ke⟩
/-! ### a chain of villages -/
def chainR (l : Int) (n : Nat) : List Road := (List.range n).map fun k : Nat => ⟨(k : Int), (k : Int) + 1, l⟩
theorem chain_tree {l : Int} {n : Nat} (h : n ≤ 11) (h1 : 1 ≤ l) (h2 : l ≤ 1000000) : IsTree (n + 1) (chainR l n) := by
  refine { ok := ?_, pos := by omega, le := by omega, len := by simp [chainR], conn := ?_ }
  · intro r hr
    obtain ⟨k, hk, rfl⟩ := List.mem_map.mp hr
    have := List.mem_range.mp hk
    simp only
    omega
  · have key : ∀ v : Nat, v < n + 1 → Reach (chainR l n) 0 (v : Int) := by
      intro v
      induction v with
      | zero => intro _; exact Reach.refl
      | succ v ih =>
        intro hv
        refine Reach.trans (ih (by omega)) ⟨0 + l, .snoc .nil ⟨⟨(v : Int), (v : Int) + 1, l⟩, List.mem_map.mpr ⟨v, List.mem_range.mpr (by omega), rfl⟩, rfl, .inl ⟨rfl, by simp⟩⟩⟩
    intro v h0 h1
    have := key v.toNat (by omega)
    rwa [show ((v.toNat : Nat) : Int) = v by omega] at this
/-- what the comprehension lays -/
def LinkAt (l : Int) (D : Addr) (i : Nat) (y : V) (H : Hp) : Prop := ∃ t, y = .ref t ∧ t ≠ D ∧ H t = some (.tup [.int (0 + (i : Int)), .int (0 + (i : Int) + 1), .int l])
theorem links_roads {l : Int} {D : Addr} {H : Hp} {n : Nat} {ys : List V} (h : Paired (fun i y => LinkAt l D i y H) ((List.range n).filter fun _ => true) ys) : RoadsAt H (chainR l n) ys := by
  rw [List.filter_eq_self.mpr fun _ _ => rfl] at h
  unfold chainR
  have g : ∀ {is : List Nat} {ys : List V}, Paired (fun i y => LinkAt l D i y H) is ys → RoadsAt H (is.map fun k : Nat => ⟨(k : Int), (k : Int) + 1, l⟩) ys := by
    intro is
    induction is with
    | nil => intro ys h; cases h; exact .nil
    | cons i is ih =>
      intro ys h
      cases h with
      | cons h1 h2 =>
        obtain ⟨t, e1, _, e2⟩ := h1
        rw [Int.zero_add] at e2
        exact .cons ⟨t, e1, e2⟩ (ih h2)
  exact g h
def rs3 : List Road := [⟨0, 1, 5⟩, ⟨1, 2, 7⟩]
theorem tree3 : IsTree 3 rs3 := by
  refine { ok := ?_, pos := by decide, le := by decide, len := rfl, conn := ?_ }
  · intro r hr
    unfold rs3 at hr
    simp only [List.mem_cons, List.not_mem_nil, or_false] at hr
    rcases hr with rfl | rfl <;> decide
  · have a1 : Adj rs3 0 1 5 := ⟨⟨0, 1, 5⟩, by simp [rs3], rfl, .inl ⟨rfl, rfl⟩⟩
    have a2 : Adj rs3 1 2 7 := ⟨⟨1, 2, 7⟩, by simp [rs3], rfl, .inl ⟨rfl, rfl⟩⟩
    intro v h0 h1
    have e : v = 0 ∨ v = 1 ∨ v = 2 := by omega
    rcases e with rfl | rfl | rfl
    · exact Reach.refl
    · exact ⟨_, .snoc .nil a1⟩
    · exact ⟨_, .snoc (.snoc .nil a1) a2⟩
theorem of_callS {sp : Sp} {E : St → XK} {t : TA} {σ : St} {H : Hp} {Q : VK} (h : t σ H fun vs H1 => sp vs H1 Q (E σ)) : tCallS sp E t σ H Q := h
theorem of_c {v : V} {σ : St} {H : Hp} {Q : VK} (h : Q v H) : tC v σ H Q := h
theorem of_make {C : Addr} {sp : Sp} {dvs : List V} {E : XK} {t : TA} {σ : St} {H : Hp} {Q : VK} (h : t σ H fun vs H1 => ∀ x dx, H1 x = none → H1 dx = none → dx ≠ x → sp (.ref x :: (vs ++ dvs)) (upd (upd H1 dx (.own x)) x (.ins C dx [])) (fun v H2 => v = .non ∧ Q (.ref x) H2) E) : tMake C sp dvs E t σ H Q := h
/-! ### a refusal at each door -/
inductive Ask (H : Hp) : Int → V → Nat → Prop
  | vil {d : Int} {x : V} : (d = 0 ∨ d = 1 ∨ d = 2 ∨ d = 3 ∨ d = 4 ∨ d = 5 ∨ d = 6 ∨ d = 7 ∨ d = 8 ∨ d = 9 ∨ d = 17) → Thing H x → withinV x 0 2 = false → Ask H d x 1
  | road {d : Int} {x : V} : (d = 10 ∨ d = 11) → Thing H x → withinV x 0 1 = false → Ask H d x 2
  | walk {x : V} : Thing H x → withinV x 0 12000000 = false → Ask H 12 x 3
  | count {x : V} : Thing H x → withinV x 1 12 = false → Ask H 13 x 3
  | people {d : Int} {x : V} : (d = 14 ∨ d = 15) → PeopleBad H 3 x → Ask H d x 3
  | len {x : V} : Flat x → withinV x 1 1000000 = false → Ask H 16 x 0
  | big : Ask H 18 .non 0
theorem Ask.same {H H' : Hp} {d : Int} {x : V} {i : Nat} (e : Same H H') (h : Ask H d x i) : Ask H' d x i := by
  cases h with
  | vil a b c => exact .vil a (b.same e) c
  | road a b c => exact .road a (b.same e) c
  | walk b c => exact .walk (b.same e) c
  | count b c => exact .count (b.same e) c
  | people a b => exact .people a (b.same e)
  | len b c => exact .len b c
  | big => exact .big
def clsOf (CB CV CR CN : Addr) : Nat → Addr
  | 0 => CB
  | 1 => CV
  | 2 => CR
  | _ => CN
def spAsk (CT CB CV CR CN : Addr) : Sp := fun vs H Q E => ∃ (t : Addr) (d : Int) (x : V) (i : Nat), vs = [.ref t, .int d, x] ∧ TreeAt CT H t 3 rs3 ∧ Ask H d x i ∧ ∀ H', Same H H' → E (.ref (clsOf CB CV CR CN i)) none H'
-- slots: 0:_law_tree_here, 1:_law_door, 2:_law_thing, 3:_law_k
theorem sc_law_ask : FnScope ["_law_tree_here", "_law_door", "_law_thing", "_law_k"] ["_law_tree_here", "_law_door", "_law_thing"] (defScope S_law_ask) := ⟨rfl, rfl, rfl, by decide +kernel, rfl, by decide +kernel, by decide +kernel⟩
theorem ok_ask {f CT CB CV CR CN : Addr} {fd : FuncData} (F : Fun K "_law_ask" "_law_ask" S_law_ask f fd) (T : Tx K mg CT) (B : Bi mg)
    (G_far : GdN P w K mg base 4 "far" ["tree", "one", "other"] (spFarN CT CV)) (G_way : GdN P w K mg base 4 "way" ["tree", "one", "other"] (spWayN CT CV)) (G_errand : GdN P w K mg base 5 "errand" ["tree", "one", "other"] (spWayN CT CV)) (G_long : GdN P w K mg base 4 "long" ["tree", "walk"] (spLongN CT CV))
    (G_joined : GdN P w K mg base 6 "joined" ["tree", "at", "other", "length"] (spJoinedN CT CB CV)) (G_moved : GdN P w K mg base 6 "moved" ["tree", "at", "one", "other"] (spMovedN CT CR CV)) (G_sides : GdN P w K mg base 3 "sides" ["tree", "at"] (spSidesN CT CR)) (G_dug : GdN P w K mg base 5 "dug" ["tree", "walk"] (spDugN CN)) (G_least_walk : GdN P w K mg base 6 "least_walk" ["tree", "many"] (spLeastN CN))
    (G_walks : GdN P w K mg base 4 "walks" ["tree", "people"] (spPeopleN CT CN)) (G_medians : GdN P w K mg base 5 "medians" ["tree", "people"] (spPeopleN CT CN)) (GC_Tree : Gc P w K mg base CT 4 "Tree" ["self", "villages", "roads"] (spInit (K := K) CT)) : FnOk P w K mg base (L2N.CX P w) 7 f fd ["_law_tree_here", "_law_door", "_law_thing"] (spAsk CT CB CV CR CN) := by
  refine Fun.okN F sc_law_ask (fun vs H Q E h => ?_) (fun cdv A outer s H vs Q E hr h => ?_)
  · obtain ⟨t, d, x, i, rfl, _⟩ := h
    rfl
  · obtain ⟨t, d, x, i, rfl, hA, ask, ke⟩ := h
    have nd := sc_law_ask.nd
    have keH := ke H (Same.refl _)
    refine ⟨_, (pss_one (ps_if (pt_cmpR op_eq (pv 1) pe_int (nomark _))
    (pss_one (ps_expr (pe_gN G_far hr rfl (L2N.takes_of rfl rfl rfl rfl) (pa_cons (pv 0) (pa_cons (pv 2) (pa_cons pe_int pa_nil)))))) (pss_one (ps_if (pt_cmpR op_eq (pv 1) pe_int (nomark _))
    (pss_one (ps_expr (pe_gN G_far hr rfl (L2N.takes_of rfl rfl rfl rfl) (pa_cons (pv 0) (pa_cons pe_int (pa_cons (pv 2) pa_nil)))))) (pss_one (ps_if (pt_cmpR op_eq (pv 1) pe_int (nomark _))
    (pss_one (ps_expr (pe_gN G_way hr rfl (L2N.takes_of rfl rfl rfl rfl) (pa_cons (pv 0) (pa_cons (pv 2) (pa_cons pe_int pa_nil)))))) (pss_one (ps_if (pt_cmpR op_eq (pv 1) pe_int (nomark _))
    (pss_one (ps_expr (pe_gN G_way hr rfl (L2N.takes_of rfl rfl rfl rfl) (pa_cons (pv 0) (pa_cons pe_int (pa_cons (pv 2) pa_nil)))))) (pss_one (ps_if (pt_cmpR op_eq (pv 1) pe_int (nomark _))
    (pss_one (ps_expr (pe_gN G_errand hr rfl (L2N.takes_of rfl rfl rfl rfl) (pa_cons (pv 0) (pa_cons (pv 2) (pa_cons pe_int pa_nil)))))) (pss_one (ps_if (pt_cmpR op_eq (pv 1) pe_int (nomark _))
    (pss_one (ps_expr (pe_gN G_errand hr rfl (L2N.takes_of rfl rfl rfl rfl) (pa_cons (pv 0) (pa_cons pe_int (pa_cons (pv 2) pa_nil)))))) (pss_one (ps_if (pt_cmpR op_eq (pv 1) pe_int (nomark _))
    (pss_one (ps_expr (pe_gN G_long hr rfl (L2N.takes_of rfl rfl rfl rfl) (pa_cons (pv 0) (pa_cons (pe_lst (pa_cons pe_int (pa_cons pe_int (pa_cons (pv 2) pa_nil)))) pa_nil))))) (pss_one (ps_if (pt_cmpR op_eq (pv 1) pe_int (nomark _))
    (pss_one (ps_expr (pe_gN G_joined hr rfl (L2N.takes_of rfl rfl rfl rfl) (pa_cons (pv 0) (pa_cons (pv 2) (pa_cons (pv 0) (pa_cons pe_int pa_nil))))))) (pss_one (ps_if (pt_cmpR op_eq (pv 1) pe_int (nomark _))
    (pss_one (ps_expr (pe_gN G_moved hr rfl (L2N.takes_of rfl rfl rfl rfl) (pa_cons (pv 0) (pa_cons pe_int (pa_cons (pv 2) (pa_cons pe_int pa_nil))))))) (pss_one (ps_if (pt_cmpR op_eq (pv 1) pe_int (nomark _))
    (pss_one (ps_expr (pe_gN G_moved hr rfl (L2N.takes_of rfl rfl rfl rfl) (pa_cons (pv 0) (pa_cons pe_int (pa_cons pe_int (pa_cons (pv 2) pa_nil))))))) (pss_one (ps_if (pt_cmpR op_eq (pv 1) pe_int (nomark _))
    (pss_one (ps_expr (pe_gN G_sides hr rfl (L2N.takes_of rfl rfl rfl rfl) (pa_cons (pv 0) (pa_cons (pv 2) pa_nil))))) (pss_one (ps_if (pt_cmpR op_eq (pv 1) pe_int (nomark _))
    (pss_one (ps_expr (pe_gN G_moved hr rfl (L2N.takes_of rfl rfl rfl rfl) (pa_cons (pv 0) (pa_cons (pv 2) (pa_cons pe_non (pa_cons pe_int pa_nil))))))) (pss_one (ps_if (pt_cmpR op_eq (pv 1) pe_int (nomark _))
    (pss_one (ps_expr (pe_gN G_dug hr rfl (L2N.takes_of rfl rfl rfl rfl) (pa_cons (pv 0) (pa_cons (pv 2) pa_nil))))) (pss_one (ps_if (pt_cmpR op_eq (pv 1) pe_int (nomark _))
    (pss_one (ps_expr (pe_gN G_least_walk hr rfl (L2N.takes_of rfl rfl rfl rfl) (pa_cons (pv 0) (pa_cons (pv 2) pa_nil))))) (pss_one (ps_if (pt_cmpR op_eq (pv 1) pe_int (nomark _))
    (pss_one (ps_expr (pe_gN G_walks hr rfl (L2N.takes_of rfl rfl rfl rfl) (pa_cons (pv 0) (pa_cons (pv 2) pa_nil))))) (pss_one (ps_if (pt_cmpR op_eq (pv 1) pe_int (nomark _))
    (pss_one (ps_expr (pe_gN G_medians hr rfl (L2N.takes_of rfl rfl rfl rfl) (pa_cons (pv 0) (pa_cons (pv 2) pa_nil))))) (pss_one (ps_if (pt_cmpR op_eq (pv 1) pe_int (nomark _))
    (pss_one (ps_expr (pe_gN G_joined hr rfl (L2N.takes_of rfl rfl rfl rfl) (pa_cons (pv 0) (pa_cons pe_int (pa_cons (pv 0) (pa_cons (pv 2) pa_nil))))))) (pss_one (ps_if (pt_cmpR op_eq (pv 1) pe_int (nomark _))
    (pss_one (ps_expr (pe_gN G_long hr rfl (L2N.takes_of rfl rfl rfl rfl) (pa_cons (pv 0) (pa_cons (pe_lst (pa_cons (pv 2) pa_nil)) pa_nil))))) (pss_one (ps_expr (pe_gN G_joined hr rfl (L2N.takes_of rfl rfl rfl rfl) (pa_cons (pe_gc GC_Tree hr rfl (pa_cons pe_int (pa_cons (pe_lc (own := [("_law_k", 3)]) (g := gName 3) (tt := tYes) rfl nd (pi_range1 (by rfl) B.range (pa_cons pe_int pa_nil)) (blkOk_by (N := ["_law_tree_here", "_law_door", "_law_thing", "_law_k"]) (sc := defScope S_law_ask) (by decide +kernel)) (fun _ _ _ _ _ => (pg_name (i := 3) nd rfl (Or.inl rfl))) (fun _ _ _ _ _ => pts_nil) (fun _ _ _ _ _ => (pe_tup (pa_cons (pv 3) (pa_cons (pe_op op_add (pv 3) pe_int) (pa_cons pe_int pa_nil)))))) pa_nil))) (pa_cons pe_int (pa_cons (pv 0) (pa_cons pe_int pa_nil))))))))))))))))))))))))))))))))))))))))))), ?_⟩
    cases ask with
    | vil hd hx hb =>
      rcases hd with rfl | rfl | rfl | rfl | rfl | rfl | rfl | rfl | rfl | rfl | rfl
      · refine ⟨_, rfl, rfl, _, rfl, ?_⟩
        refine iteT ?_
        exact ⟨_, rfl, _, rfl, t, 3, rs3, x, .int 0, rfl, hA, tree3, .inl ⟨hx, hb⟩, ke⟩
      · refine ⟨_, rfl, rfl, _, rfl, ?_⟩
        refine iteF ?_
        refine ⟨_, rfl, rfl, _, rfl, ?_⟩
        refine iteT ?_
        exact ⟨_, rfl, _, rfl, t, 3, rs3, .int 0, x, rfl, hA, tree3, .inr ⟨0, rfl, ⟨by decide, by decide⟩, hx, hb⟩, ke⟩
      · refine ⟨_, rfl, rfl, _, rfl, ?_⟩
        refine iteF ?_
        refine ⟨_, rfl, rfl, _, rfl, ?_⟩
        refine iteF ?_
        refine ⟨_, rfl, rfl, _, rfl, ?_⟩
        refine iteT ?_
        exact ⟨_, rfl, _, rfl, t, 3, rs3, x, .int 0, rfl, hA, tree3, .inr ⟨0, rfl, ⟨by decide, by decide⟩, hx, hb⟩, ke⟩
      · refine ⟨_, rfl, rfl, _, rfl, ?_⟩
        refine iteF ?_
        refine ⟨_, rfl, rfl, _, rfl, ?_⟩
        refine iteF ?_
        refine ⟨_, rfl, rfl, _, rfl, ?_⟩
        refine iteF ?_
        refine ⟨_, rfl, rfl, _, rfl, ?_⟩
        refine iteT ?_
        exact ⟨_, rfl, _, rfl, t, 3, rs3, .int 0, x, rfl, hA, tree3, .inl ⟨hx, hb⟩, ke⟩
      · refine ⟨_, rfl, rfl, _, rfl, ?_⟩
        refine iteF ?_
        refine ⟨_, rfl, rfl, _, rfl, ?_⟩
        refine iteF ?_
        refine ⟨_, rfl, rfl, _, rfl, ?_⟩
        refine iteF ?_
        refine ⟨_, rfl, rfl, _, rfl, ?_⟩
        refine iteF ?_
        refine ⟨_, rfl, rfl, _, rfl, ?_⟩
        refine iteT ?_
        exact ⟨_, rfl, _, rfl, t, 3, rs3, x, .int 0, rfl, hA, tree3, .inr ⟨0, rfl, ⟨by decide, by decide⟩, hx, hb⟩, ke⟩
      · refine ⟨_, rfl, rfl, _, rfl, ?_⟩
        refine iteF ?_
        refine ⟨_, rfl, rfl, _, rfl, ?_⟩
        refine iteF ?_
        refine ⟨_, rfl, rfl, _, rfl, ?_⟩
        refine iteF ?_
        refine ⟨_, rfl, rfl, _, rfl, ?_⟩
        refine iteF ?_
        refine ⟨_, rfl, rfl, _, rfl, ?_⟩
        refine iteF ?_
        refine ⟨_, rfl, rfl, _, rfl, ?_⟩
        refine iteT ?_
        exact ⟨_, rfl, _, rfl, t, 3, rs3, .int 0, x, rfl, hA, tree3, .inl ⟨hx, hb⟩, ke⟩
      · refine ⟨_, rfl, rfl, _, rfl, ?_⟩
        refine iteF ?_
        refine ⟨_, rfl, rfl, _, rfl, ?_⟩
        refine iteF ?_
        refine ⟨_, rfl, rfl, _, rfl, ?_⟩
        refine iteF ?_
        refine ⟨_, rfl, rfl, _, rfl, ?_⟩
        refine iteF ?_
        refine ⟨_, rfl, rfl, _, rfl, ?_⟩
        refine iteF ?_
        refine ⟨_, rfl, rfl, _, rfl, ?_⟩
        refine iteF ?_
        refine ⟨_, rfl, rfl, _, rfl, ?_⟩
        refine iteT ?_
        refine ⟨_, rfl, _, rfl, by show 3 ≤ sizeLine; decide, fun p hp => ?_⟩
        have s1 := Same.new (o := .lst [.int 0, .int 2, x]) hp
        refine ⟨t, p, 3, rs3, [0, 2], x, rfl, hA.same s1, tree3, upd_same, by decide, fun i hi => ?_, ⟨hx.same s1, hb⟩, fun H' s' => ke H' (s1.trans s')⟩
        simp only [List.mem_cons, List.not_mem_nil, or_false] at hi
        rcases hi with rfl | rfl <;> exact ⟨by decide, by decide⟩
      · refine ⟨_, rfl, rfl, _, rfl, ?_⟩
        refine iteF ?_
        refine ⟨_, rfl, rfl, _, rfl, ?_⟩
        refine iteF ?_
        refine ⟨_, rfl, rfl, _, rfl, ?_⟩
        refine iteF ?_
        refine ⟨_, rfl, rfl, _, rfl, ?_⟩
        refine iteF ?_
        refine ⟨_, rfl, rfl, _, rfl, ?_⟩
        refine iteF ?_
        refine ⟨_, rfl, rfl, _, rfl, ?_⟩
        refine iteF ?_
        refine ⟨_, rfl, rfl, _, rfl, ?_⟩
        refine iteF ?_
        refine ⟨_, rfl, rfl, _, rfl, ?_⟩
        refine iteT ?_
        exact ⟨_, rfl, _, rfl, _, rfl, t, t, 3, 3, rs3, rs3, x, .int 0, rfl, hA, tree3, hA, tree3, .inl ⟨⟨hx, hb⟩, ke⟩⟩
      · refine ⟨_, rfl, rfl, _, rfl, ?_⟩
        refine iteF ?_
        refine ⟨_, rfl, rfl, _, rfl, ?_⟩
        refine iteF ?_
        refine ⟨_, rfl, rfl, _, rfl, ?_⟩
        refine iteF ?_
        refine ⟨_, rfl, rfl, _, rfl, ?_⟩
        refine iteF ?_
        refine ⟨_, rfl, rfl, _, rfl, ?_⟩
        refine iteF ?_
        refine ⟨_, rfl, rfl, _, rfl, ?_⟩
        refine iteF ?_
        refine ⟨_, rfl, rfl, _, rfl, ?_⟩
        refine iteF ?_
        refine ⟨_, rfl, rfl, _, rfl, ?_⟩
        refine iteF ?_
        refine ⟨_, rfl, rfl, _, rfl, ?_⟩
        refine iteT ?_
        exact ⟨_, rfl, _, rfl, t, 3, rs3, .int 0, x, .int 0, rfl, hA, tree3, .int 0, .inr ⟨rfl, .inl ⟨hx, hb⟩, ke⟩⟩
      · refine ⟨_, rfl, rfl, _, rfl, ?_⟩
        refine iteF ?_
        refine ⟨_, rfl, rfl, _, rfl, ?_⟩
        refine iteF ?_
        refine ⟨_, rfl, rfl, _, rfl, ?_⟩
        refine iteF ?_
        refine ⟨_, rfl, rfl, _, rfl, ?_⟩
        refine iteF ?_
        refine ⟨_, rfl, rfl, _, rfl, ?_⟩
        refine iteF ?_
        refine ⟨_, rfl, rfl, _, rfl, ?_⟩
        refine iteF ?_
        refine ⟨_, rfl, rfl, _, rfl, ?_⟩
        refine iteF ?_
        refine ⟨_, rfl, rfl, _, rfl, ?_⟩
        refine iteF ?_
        refine ⟨_, rfl, rfl, _, rfl, ?_⟩
        refine iteF ?_
        refine ⟨_, rfl, rfl, _, rfl, ?_⟩
        refine iteT ?_
        exact ⟨_, rfl, _, rfl, t, 3, rs3, .int 0, .int 0, x, rfl, hA, tree3, .int 0, .inr ⟨rfl, .inr ⟨.int 0, rfl, hx, hb⟩, ke⟩⟩
      · refine ⟨_, rfl, rfl, _, rfl, ?_⟩
        refine iteF ?_
        refine ⟨_, rfl, rfl, _, rfl, ?_⟩
        refine iteF ?_
        refine ⟨_, rfl, rfl, _, rfl, ?_⟩
        refine iteF ?_
        refine ⟨_, rfl, rfl, _, rfl, ?_⟩
        refine iteF ?_
        refine ⟨_, rfl, rfl, _, rfl, ?_⟩
        refine iteF ?_
        refine ⟨_, rfl, rfl, _, rfl, ?_⟩
        refine iteF ?_
        refine ⟨_, rfl, rfl, _, rfl, ?_⟩
        refine iteF ?_
        refine ⟨_, rfl, rfl, _, rfl, ?_⟩
        refine iteF ?_
        refine ⟨_, rfl, rfl, _, rfl, ?_⟩
        refine iteF ?_
        refine ⟨_, rfl, rfl, _, rfl, ?_⟩
        refine iteF ?_
        refine ⟨_, rfl, rfl, _, rfl, ?_⟩
        refine iteF ?_
        refine ⟨_, rfl, rfl, _, rfl, ?_⟩
        refine iteF ?_
        refine ⟨_, rfl, rfl, _, rfl, ?_⟩
        refine iteF ?_
        refine ⟨_, rfl, rfl, _, rfl, ?_⟩
        refine iteF ?_
        refine ⟨_, rfl, rfl, _, rfl, ?_⟩
        refine iteF ?_
        refine ⟨_, rfl, rfl, _, rfl, ?_⟩
        refine iteF ?_
        refine ⟨_, rfl, rfl, _, rfl, ?_⟩
        refine iteF ?_
        refine ⟨_, rfl, rfl, _, rfl, ?_⟩
        refine iteT ?_
        refine ⟨_, rfl, _, rfl, by show 1 ≤ sizeLine; decide, fun p hp => ?_⟩
        have s1 := Same.new (o := .lst [x]) hp
        exact ⟨t, p, 3, rs3, [], x, rfl, hA.same s1, tree3, upd_same, by decide, fun i hi => absurd hi (by simp), ⟨hx.same s1, hb⟩, fun H' s' => ke H' (s1.trans s')⟩
    | road hd hx hb =>
      rcases hd with rfl | rfl
      · refine ⟨_, rfl, rfl, _, rfl, ?_⟩
        refine iteF ?_
        refine ⟨_, rfl, rfl, _, rfl, ?_⟩
        refine iteF ?_
        refine ⟨_, rfl, rfl, _, rfl, ?_⟩
        refine iteF ?_
        refine ⟨_, rfl, rfl, _, rfl, ?_⟩
        refine iteF ?_
        refine ⟨_, rfl, rfl, _, rfl, ?_⟩
        refine iteF ?_
        refine ⟨_, rfl, rfl, _, rfl, ?_⟩
        refine iteF ?_
        refine ⟨_, rfl, rfl, _, rfl, ?_⟩
        refine iteF ?_
        refine ⟨_, rfl, rfl, _, rfl, ?_⟩
        refine iteF ?_
        refine ⟨_, rfl, rfl, _, rfl, ?_⟩
        refine iteF ?_
        refine ⟨_, rfl, rfl, _, rfl, ?_⟩
        refine iteF ?_
        refine ⟨_, rfl, rfl, _, rfl, ?_⟩
        refine iteT ?_
        exact ⟨_, rfl, _, rfl, t, 3, rs3, x, rfl, hA, hx, hb, keH⟩
      · refine ⟨_, rfl, rfl, _, rfl, ?_⟩
        refine iteF ?_
        refine ⟨_, rfl, rfl, _, rfl, ?_⟩
        refine iteF ?_
        refine ⟨_, rfl, rfl, _, rfl, ?_⟩
        refine iteF ?_
        refine ⟨_, rfl, rfl, _, rfl, ?_⟩
        refine iteF ?_
        refine ⟨_, rfl, rfl, _, rfl, ?_⟩
        refine iteF ?_
        refine ⟨_, rfl, rfl, _, rfl, ?_⟩
        refine iteF ?_
        refine ⟨_, rfl, rfl, _, rfl, ?_⟩
        refine iteF ?_
        refine ⟨_, rfl, rfl, _, rfl, ?_⟩
        refine iteF ?_
        refine ⟨_, rfl, rfl, _, rfl, ?_⟩
        refine iteF ?_
        refine ⟨_, rfl, rfl, _, rfl, ?_⟩
        refine iteF ?_
        refine ⟨_, rfl, rfl, _, rfl, ?_⟩
        refine iteF ?_
        refine ⟨_, rfl, rfl, _, rfl, ?_⟩
        refine iteT ?_
        exact ⟨_, rfl, _, rfl, t, 3, rs3, x, .non, .int 0, rfl, hA, tree3, hx, .inl ⟨hb, keH⟩⟩
    | walk hx hb =>
      refine ⟨_, rfl, rfl, _, rfl, ?_⟩
      refine iteF ?_
      refine ⟨_, rfl, rfl, _, rfl, ?_⟩
      refine iteF ?_
      refine ⟨_, rfl, rfl, _, rfl, ?_⟩
      refine iteF ?_
      refine ⟨_, rfl, rfl, _, rfl, ?_⟩
      refine iteF ?_
      refine ⟨_, rfl, rfl, _, rfl, ?_⟩
      refine iteF ?_
      refine ⟨_, rfl, rfl, _, rfl, ?_⟩
      refine iteF ?_
      refine ⟨_, rfl, rfl, _, rfl, ?_⟩
      refine iteF ?_
      refine ⟨_, rfl, rfl, _, rfl, ?_⟩
      refine iteF ?_
      refine ⟨_, rfl, rfl, _, rfl, ?_⟩
      refine iteF ?_
      refine ⟨_, rfl, rfl, _, rfl, ?_⟩
      refine iteF ?_
      refine ⟨_, rfl, rfl, _, rfl, ?_⟩
      refine iteF ?_
      refine ⟨_, rfl, rfl, _, rfl, ?_⟩
      refine iteF ?_
      refine ⟨_, rfl, rfl, _, rfl, ?_⟩
      refine iteT ?_
      exact ⟨_, rfl, _, rfl, .ref t, x, rfl, hx, hb, keH⟩
    | count hx hb =>
      refine ⟨_, rfl, rfl, _, rfl, ?_⟩
      refine iteF ?_
      refine ⟨_, rfl, rfl, _, rfl, ?_⟩
      refine iteF ?_
      refine ⟨_, rfl, rfl, _, rfl, ?_⟩
      refine iteF ?_
      refine ⟨_, rfl, rfl, _, rfl, ?_⟩
      refine iteF ?_
      refine ⟨_, rfl, rfl, _, rfl, ?_⟩
      refine iteF ?_
      refine ⟨_, rfl, rfl, _, rfl, ?_⟩
      refine iteF ?_
      refine ⟨_, rfl, rfl, _, rfl, ?_⟩
      refine iteF ?_
      refine ⟨_, rfl, rfl, _, rfl, ?_⟩
      refine iteF ?_
      refine ⟨_, rfl, rfl, _, rfl, ?_⟩
      refine iteF ?_
      refine ⟨_, rfl, rfl, _, rfl, ?_⟩
      refine iteF ?_
      refine ⟨_, rfl, rfl, _, rfl, ?_⟩
      refine iteF ?_
      refine ⟨_, rfl, rfl, _, rfl, ?_⟩
      refine iteF ?_
      refine ⟨_, rfl, rfl, _, rfl, ?_⟩
      refine iteF ?_
      refine ⟨_, rfl, rfl, _, rfl, ?_⟩
      refine iteT ?_
      exact ⟨_, rfl, _, rfl, .ref t, x, rfl, hx, hb, keH⟩
    | people hd hb =>
      rcases hd with rfl | rfl
      · refine ⟨_, rfl, rfl, _, rfl, ?_⟩
        refine iteF ?_
        refine ⟨_, rfl, rfl, _, rfl, ?_⟩
        refine iteF ?_
        refine ⟨_, rfl, rfl, _, rfl, ?_⟩
        refine iteF ?_
        refine ⟨_, rfl, rfl, _, rfl, ?_⟩
        refine iteF ?_
        refine ⟨_, rfl, rfl, _, rfl, ?_⟩
        refine iteF ?_
        refine ⟨_, rfl, rfl, _, rfl, ?_⟩
        refine iteF ?_
        refine ⟨_, rfl, rfl, _, rfl, ?_⟩
        refine iteF ?_
        refine ⟨_, rfl, rfl, _, rfl, ?_⟩
        refine iteF ?_
        refine ⟨_, rfl, rfl, _, rfl, ?_⟩
        refine iteF ?_
        refine ⟨_, rfl, rfl, _, rfl, ?_⟩
        refine iteF ?_
        refine ⟨_, rfl, rfl, _, rfl, ?_⟩
        refine iteF ?_
        refine ⟨_, rfl, rfl, _, rfl, ?_⟩
        refine iteF ?_
        refine ⟨_, rfl, rfl, _, rfl, ?_⟩
        refine iteF ?_
        refine ⟨_, rfl, rfl, _, rfl, ?_⟩
        refine iteF ?_
        refine ⟨_, rfl, rfl, _, rfl, ?_⟩
        refine iteT ?_
        exact ⟨_, rfl, _, rfl, t, 3, rs3, x, rfl, hA, by decide, hb, ke⟩
      · refine ⟨_, rfl, rfl, _, rfl, ?_⟩
        refine iteF ?_
        refine ⟨_, rfl, rfl, _, rfl, ?_⟩
        refine iteF ?_
        refine ⟨_, rfl, rfl, _, rfl, ?_⟩
        refine iteF ?_
        refine ⟨_, rfl, rfl, _, rfl, ?_⟩
        refine iteF ?_
        refine ⟨_, rfl, rfl, _, rfl, ?_⟩
        refine iteF ?_
        refine ⟨_, rfl, rfl, _, rfl, ?_⟩
        refine iteF ?_
        refine ⟨_, rfl, rfl, _, rfl, ?_⟩
        refine iteF ?_
        refine ⟨_, rfl, rfl, _, rfl, ?_⟩
        refine iteF ?_
        refine ⟨_, rfl, rfl, _, rfl, ?_⟩
        refine iteF ?_
        refine ⟨_, rfl, rfl, _, rfl, ?_⟩
        refine iteF ?_
        refine ⟨_, rfl, rfl, _, rfl, ?_⟩
        refine iteF ?_
        refine ⟨_, rfl, rfl, _, rfl, ?_⟩
        refine iteF ?_
        refine ⟨_, rfl, rfl, _, rfl, ?_⟩
        refine iteF ?_
        refine ⟨_, rfl, rfl, _, rfl, ?_⟩
        refine iteF ?_
        refine ⟨_, rfl, rfl, _, rfl, ?_⟩
        refine iteF ?_
        refine ⟨_, rfl, rfl, _, rfl, ?_⟩
        refine iteT ?_
        exact ⟨_, rfl, _, rfl, t, 3, rs3, x, rfl, hA, by decide, hb, ke⟩
    | len hx hb =>
      refine ⟨_, rfl, rfl, _, rfl, ?_⟩
      refine iteF ?_
      refine ⟨_, rfl, rfl, _, rfl, ?_⟩
      refine iteF ?_
      refine ⟨_, rfl, rfl, _, rfl, ?_⟩
      refine iteF ?_
      refine ⟨_, rfl, rfl, _, rfl, ?_⟩
      refine iteF ?_
      refine ⟨_, rfl, rfl, _, rfl, ?_⟩
      refine iteF ?_
      refine ⟨_, rfl, rfl, _, rfl, ?_⟩
      refine iteF ?_
      refine ⟨_, rfl, rfl, _, rfl, ?_⟩
      refine iteF ?_
      refine ⟨_, rfl, rfl, _, rfl, ?_⟩
      refine iteF ?_
      refine ⟨_, rfl, rfl, _, rfl, ?_⟩
      refine iteF ?_
      refine ⟨_, rfl, rfl, _, rfl, ?_⟩
      refine iteF ?_
      refine ⟨_, rfl, rfl, _, rfl, ?_⟩
      refine iteF ?_
      refine ⟨_, rfl, rfl, _, rfl, ?_⟩
      refine iteF ?_
      refine ⟨_, rfl, rfl, _, rfl, ?_⟩
      refine iteF ?_
      refine ⟨_, rfl, rfl, _, rfl, ?_⟩
      refine iteF ?_
      refine ⟨_, rfl, rfl, _, rfl, ?_⟩
      refine iteF ?_
      refine ⟨_, rfl, rfl, _, rfl, ?_⟩
      refine iteF ?_
      refine ⟨_, rfl, rfl, _, rfl, ?_⟩
      refine iteT ?_
      exact ⟨_, rfl, _, rfl, _, rfl, t, t, 3, 3, rs3, rs3, .int 0, x, rfl, hA, tree3, hA, tree3, .inr ⟨0, rfl, ⟨by decide, by decide⟩, hx, .inr ⟨by decide, hb⟩, ke⟩⟩
    | big =>
      refine ⟨_, rfl, rfl, _, rfl, ?_⟩
      refine iteF ?_
      refine ⟨_, rfl, rfl, _, rfl, ?_⟩
      refine iteF ?_
      refine ⟨_, rfl, rfl, _, rfl, ?_⟩
      refine iteF ?_
      refine ⟨_, rfl, rfl, _, rfl, ?_⟩
      refine iteF ?_
      refine ⟨_, rfl, rfl, _, rfl, ?_⟩
      refine iteF ?_
      refine ⟨_, rfl, rfl, _, rfl, ?_⟩
      refine iteF ?_
      refine ⟨_, rfl, rfl, _, rfl, ?_⟩
      refine iteF ?_
      refine ⟨_, rfl, rfl, _, rfl, ?_⟩
      refine iteF ?_
      refine ⟨_, rfl, rfl, _, rfl, ?_⟩
      refine iteF ?_
      refine ⟨_, rfl, rfl, _, rfl, ?_⟩
      refine iteF ?_
      refine ⟨_, rfl, rfl, _, rfl, ?_⟩
      refine iteF ?_
      refine ⟨_, rfl, rfl, _, rfl, ?_⟩
      refine iteF ?_
      refine ⟨_, rfl, rfl, _, rfl, ?_⟩
      refine iteF ?_
      refine ⟨_, rfl, rfl, _, rfl, ?_⟩
      refine iteF ?_
      refine ⟨_, rfl, rfl, _, rfl, ?_⟩
      refine iteF ?_
      refine ⟨_, rfl, rfl, _, rfl, ?_⟩
      refine iteF ?_
      refine ⟨_, rfl, rfl, _, rfl, ?_⟩
      refine iteF ?_
      refine ⟨_, rfl, rfl, _, rfl, ?_⟩
      refine iteF ?_
      refine of_drop (of_callS (of_cons (of_make (of_cons (of_c (of_cons ?_))))))
      refine lc_at (Itr 0 9) (fun R hR => ⟨9, rfl, by decide, by decide, hR⟩) ?_
      refine lcr_inv (lo := 0) (n := 9) (by decide) (fun _ => true) (LinkAt 1) (fun D i y H1 H2 e q => ?_) (fun i hi D Hx hD e hacc Yes No hyes _ => ?_) (fun D H4 ys hD s4 hD4 hP => ?_)
      · obtain ⟨tt, e1, e2, e3⟩ := q
        exact ⟨tt, e1, e2, e _ _ e2 e3⟩
      · obtain ⟨acc, hacc⟩ := hacc
        refine turn_all ?_
        refine ⟨_, rfl, _, rfl, _, _, rfl, rfl, by show 3 ≤ sizeLine; decide, fun q hq => ?_⟩
        exact hyes rfl _ _ (Same.new hq) ⟨q, rfl, fun z => (by rw [z, hacc] at hq; cases hq), upd_same⟩
      · have hR4 := links_roads hP
        have tree10 := chain_tree (l := 1) (n := 9) (by decide) (by decide) (by decide)
        refine fun tr dx hp hdx hne => ?_
        have s23 : Same H4 (upd (upd H4 dx (.own tr)) tr (.ins CT dx [])) := fun b o e => by
          rw [upd_ne (ne_of_none e hp), upd_ne (ne_of_none e hdx)]; exact e
        refine ⟨tr, dx, D, 9 + 1, chainR 1 9, ys, rfl, upd_same, SqL.of (s23 _ _ hD4), s23 _ _ hD4, hR4.same s23, tree10, fun H5 kp hTr => ⟨rfl, ?_⟩⟩
        have s5 : Same H4 H5 := fun b o e => kp b o (s23 b o e) (ne_of_none e hp)
        have s45 := s4.trans s5
        refine ⟨_, rfl, tr, t, 9 + 1, 3, chainR 1 9, rs3, .int 0, .int 1, rfl, hTr.at, tree10, hA.same s45, tree3, .inr ⟨0, rfl, ⟨by decide, by decide⟩, .int 1, .inl (by decide), fun H' s' => ke H' (s45.trans s')⟩⟩
end
end Wr

namespace Wr
open PySem L2 LamX
section
variable {P : Program} {w : World} {K : PySem.W.Frag} {mg : Str → Option Value} {base : Heap}
theorem Ask.le {H : Hp} {d : Int} {x : V} {i : Nat} (h : Ask H d x i) : i < 4 := by cases h <;> decide
/-- what the classes say of the four refusals -/
structure Refs (K : PySem.W.Frag) (CB CV CR CN CW CE : Addr) : Prop where
  s : ∀ i, i < 4 → SortC K CB CV CR CN CW (clsOf CB CV CR CN i) i
  e : ∀ i, i < 4 → PySem.W.exmOne K (.ref (clsOf CB CV CR CN i)) (.ref CE) = some true
def spAsked (CT : Addr) : Sp := fun vs H Q _ => ∃ (t : Addr) (d : Int) (x : V) (i : Nat), vs = [.ref t, .int d, x] ∧ TreeAt CT H t 3 rs3 ∧ Ask H d x i ∧ ∀ H', Same H H' → Q (.str (kindS i)) H'
-- slots: 0:_law_tree_here, 1:_law_door, 2:_law_thing, 3:_law_error
theorem sc_law_asked : FnScope ["_law_tree_here", "_law_door", "_law_thing", "_law_error"] ["_law_tree_here", "_law_door", "_law_thing"] (defScope S_law_asked) := ⟨rfl, rfl, rfl, by decide +kernel, rfl, by decide +kernel, by decide +kernel⟩
theorem ok_asked {f CT CB CV CR CN CW CE : Addr} {fd : FuncData} (F : Fun K "_law_asked" "_law_asked" S_law_asked f fd) (X_RoadErrorg : mg "RoadError" = some (.ref CE)) (RF : Refs K CB CV CR CN CW CE) (G_law_ask : GdN P w K mg base 7 "_law_ask" ["_law_tree_here", "_law_door", "_law_thing"] (spAsk CT CB CV CR CN))
    (G_law_sort : GdE P w K mg base 1 "_law_sort" ["_law_error"] (spSort K CB CV CR CN CW)) : FnOk P w K mg base CX0 8 f fd ["_law_tree_here", "_law_door", "_law_thing"] (spAsked CT) := by
  refine F.ok sc_law_asked (fun vs H Q E h => ?_) (fun cdv A outer s H vs Q E hr h => ?_)
  · obtain ⟨t, d, x, i, rfl, _⟩ := h
    rfl
  · obtain ⟨t, d, x, i, rfl, hA, ask, k⟩ := h
    have nd := sc_law_asked.nd
    have i4 := ask.le
    refine ⟨_, (pss_cons (L2N.ps_try_as (i := 3) rfl rfl nd rfl rfl ⟨rfl, by decide, .inl X_RoadErrorg⟩ takes0N
    (fun W pn xe tk po => (pss_one (ps_expr (pe_gN G_law_ask hr rfl tk (pa_cons (pv 0) (pa_cons (pv 1) (pa_cons (pv 2) pa_nil)))))))
    (fun a oe cls d pn hz hf => (pss_one (ps_ret (pe_gEs G_law_sort (roomH_mk hr _) hz hf rfl (pa_cons (pv 3) pa_nil))))))
    (pss_one (ps_ret pe_str))), ?_⟩
    refine ⟨_, rfl, _, rfl, _, rfl, t, d, x, i, rfl, hA, ask, fun H1 s1 => ?_⟩
    refine ⟨true, RF.e i i4, fun _ a ha => ?_, fun h => nomatch h⟩
    exact ⟨_, rfl, fun o hz hf => ⟨_, i, rfl, RF.s i i4, hz, hf, fun H2 s2 => k H2 (s1.trans s2)⟩⟩
def spAll (CT : Addr) : Sp := fun vs H Q _ => ∃ (t dl tl : Addr) (ds : List Int) (xs : List V) (i : Nat), vs = [.ref t, .ref dl, .ref tl, .str (kindS i)] ∧ TreeAt CT H t 3 rs3 ∧ H dl = some (.lst (ds.map V.int)) ∧ H tl = some (.lst xs) ∧ ds.length ≤ 100 ∧ xs.length ≤ 100 ∧ (∀ d ∈ ds, ∀ x ∈ xs, Ask H d x i) ∧ ∀ H', Same H H' → Q (.bl true) H'
-- slots: 0:_law_tree_here*, 1:_law_doors, 2:_law_things, 3:_law_due*, 4:_law_door*, 5:_law_thing
theorem sc_law_all : FnScope ["_law_tree_here", "_law_doors", "_law_things", "_law_due", "_law_door", "_law_thing"] ["_law_tree_here", "_law_doors", "_law_things", "_law_due"] (defScope S_law_all) := ⟨rfl, rfl, rfl, by decide +kernel, rfl, by decide +kernel, by decide +kernel⟩
theorem ok_all {f CT : Addr} {fd : FuncData} (F : Fun K "_law_all" "_law_all" S_law_all f fd) (B : Bi mg) (G_law_asked : Gd P w K mg base 8 "_law_asked" ["_law_tree_here", "_law_door", "_law_thing"] (spAsked CT)) : FnOk P w K mg base CX0 9 f fd ["_law_tree_here", "_law_doors", "_law_things", "_law_due"] (spAll CT) := by
  refine F.ok sc_law_all (fun vs H Q E h => ?_) (fun cdv A outer s H vs Q E hr h => ?_)
  · obtain ⟨t, dl, tl, ds, xs, i, rfl, _⟩ := h
    rfl
  · obtain ⟨t, dl, tl, ds, xs, i, rfl, hA, hD, hX, dn, xn, ask, k⟩ := h
    have nd := sc_law_all.nd
    refine ⟨_, (pss_cons (ps_for PassesOwn.never rfl (pi_list (pv 1)) (pg_name (i := 4) nd rfl (Or.inr rfl))
    (pss_one (ps_if (pt_not (pt_val (pe_callB (cr_allK K rfl) (by rfl) B.all (by decide +kernel) (pa_cons (pe_lc (own := [("_law_thing", 5)]) (g := gName 5) (tt := tYes) rfl nd (pi_list (pv 2)) (blkOk_by (N := ["_law_tree_here", "_law_doors", "_law_things", "_law_due", "_law_door", "_law_thing"]) (sc := defScope S_law_all) (by decide +kernel)) (fun _ _ _ _ _ => (pg_name (i := 5) nd rfl (Or.inl rfl))) (fun _ _ _ _ _ => pts_nil) (fun _ _ _ _ _ => (pe_cmpR op_eq (pe_g G_law_asked hr rfl (pa_cons (pv 0) (pa_cons (pv 4) (pa_cons (pv 5) pa_nil)))) (pv 3) (nomark _)))) pa_nil))))
    (pss_one (ps_ret pe_bl)) pss_nil)))
    (pss_one (ps_ret pe_bl))), ?_⟩
    refine ⟨_, rfl, dl, rfl, ⟨_, SqL.of hD⟩, for_list (K := K) (a := dl) (xs := ds.map V.int) (fun j σ' H' => ∃ v4, σ' = [some (.ref t), some (.ref dl), some (.ref tl), some (.str (kindS i)), v4, none] ∧ Same H H') ⟨none, rfl, Same.refl _⟩ (fun j σ' H' _ ⟨_, _, e⟩ => SqL.of (e _ _ hD)) ?_ ?_⟩
    · rintro j y σ' H1 hy ⟨v4, rfl, s1⟩
      rw [List.getElem?_map] at hy
      obtain ⟨d, hd, rfl⟩ := Option.map_eq_some_iff.mp hy
      have hdm := List.mem_of_getElem? hd
      refine of_gName ?_
      refine of_ifs (of_not (of_b (of_cb1 (lc_at (Itl K tl) (fun R hR => ⟨_, rfl, tl, rfl, ⟨_, SqL.of (s1 _ _ hX)⟩, hR⟩) ?_))))
      refine lcl (d := V.non) (fun x v => v = x) (paired_self' xs) (SqL.of (s1 _ _ hX)) (by omega) (fun _ => true) (fun x => .bl true) (fun x v hm hE H3 s3 Yes No hy _ => ?_) (fun D' H3 hD' s3 hD3 => ?_)
      · subst hE
        have s13 := s1.trans s3
        refine turn_all ?_
        refine ⟨_, rfl, _, rfl, _, rfl, t, d, v, i, rfl, hA.same s13, (ask d hdm v hm).same s13, fun H4 s4 => ?_⟩
        refine ⟨_, rfl, rfl, ?_⟩
        rw [decide_eq_true (show V.str (kindS i) = V.str (kindS i) from rfl)]
        exact hy rfl _ s4
      · have e : ((xs.filter fun _ => true).map fun x => V.bl true) = (xs.map fun _ => true).map V.bl := by
          rw [List.filter_eq_self.mpr fun _ _ => rfl, List.map_map]; rfl
        rw [e] at hD3
        refine ⟨D', _, rfl, SqL.of hD3, _, rfl, ?_⟩
        have ha : ((xs.map fun _ => true).all id) = true := by
          rw [List.all_map, List.all_eq_true]
          exact fun _ _ => rfl
        rw [ha]
        refine iteF ?_
        exact ⟨_, rfl, s1.trans s3⟩
    · rintro σ' H1 ⟨v4, rfl, s1⟩
      exact k H1 s1
/-! ### trees made of what makes none -/
inductive Item (H : Hp) (n : Int) : V → Bool → Prop
  | tup {t : Addr} {xs : List V} : H t = some (.tup xs) → (∀ x ∈ xs, Thing H x) → Item H n (.ref t) (roadV xs n)
  | int (i : Int) : Item H n (.int i) false
  | lst {a : Addr} {xs : List V} : H a = some (.lst xs) → Item H n (.ref a) false
theorem Item.same {H H' : Hp} {n : Int} {x : V} {b : Bool} (e : Same H H') (h : Item H n x b) : Item H' n x b := by
  cases h with
  | tup h q => exact .tup (e _ _ h) fun x hx => (q x hx).same e
  | int i => exact .int i
  | lst h => exact .lst (e _ _ h)
theorem Item.arg {H : Hp} {n : Int} {x : V} {b : Bool} (h : Item H n x b) : RoadArg K H n x b := by
  cases h with
  | tup h q => exact .inl ⟨_, _, rfl, h, fun x hx => (q x hx).plain, rfl⟩
  | int i => exact .inr ⟨_, .base (.int i), kit_ty (show kitB "int" "tuple" = some false by decide +kernel), rfl⟩
  | lst h => exact .inr ⟨_, .base (.lst h), kit_ty (show kitB "list" "tuple" = some false by decide +kernel), rfl⟩
inductive TreeArg (H : Hp) : V → V → Option (Nat × List Road) → Prop
  | good {a : Addr} {us : List V} {n : Nat} {rs : List Road} : H a = some (.lst us) → RoadsAt H rs us → IsTree n rs → TreeArg H (.int n) (.ref a) (some (n, rs))
  | num {x y : V} : Thing H x → withinV x 1 12 = false → TreeArg H x y none
  | non {n : Nat} : 1 ≤ n → n ≤ 12 → TreeArg H (.int n) .non none
  | tup {n : Nat} {a : Addr} {xs : List V} : 1 ≤ n → n ≤ 12 → H a = some (.tup xs) → TreeArg H (.int n) (.ref a) none
  | count {n : Nat} {a : Addr} {us : List V} : 1 ≤ n → n ≤ 12 → H a = some (.lst us) → us.length + 1 ≠ n → TreeArg H (.int n) (.ref a) none
  | road {n : Nat} {a : Addr} {us : List V} {bs : List Bool} : n ≤ 12 → H a = some (.lst us) → us.length + 1 = n → Paired (fun b u => Item H n u b) bs us → false ∈ bs → TreeArg H (.int n) (.ref a) none
  | round {n : Nat} {a : Addr} {us : List V} {rs : List Road} : n ≤ 12 → H a = some (.lst us) → us.length + 1 = n → RoadsAt H rs us → RoadsOk n rs → (walked n rs 0).length < n → TreeArg H (.int n) (.ref a) none
theorem TreeArg.same {H H' : Hp} {x y : V} {res : Option (Nat × List Road)} (e : Same H H') (h : TreeArg H x y res) : TreeArg H' x y res := by
  cases h with
  | good a b c => exact .good (e _ _ a) (b.same e) c
  | num a b => exact .num (a.same e) b
  | non a b => exact .non a b
  | tup a b c => exact .tup a b (e _ _ c)
  | count a b c d => exact .count a b (e _ _ c) d
  | road a b c d f => exact .road a (e _ _ b) c (Paired.mapP d fun _ _ q => q.same e) f
  | round a b c d f g => exact .round a (e _ _ b) c (d.same e) f g
theorem TreeArg.init {H : Hp} {x y : V} {res : Option (Nat × List Road)} (h : TreeArg H x y res) : InitRes K H x y res := by
  cases h with
  | good a b c => exact .good a b c
  | num a b => exact .num a.plain b
  | non a b => exact .nolist a b (.base .non) (kit_ty (show kitB "NoneType" "list" = some false by decide +kernel))
  | tup a b c => exact .nolist a b (.base (.tup c)) (kit_ty (show kitB "tuple" "list" = some false by decide +kernel))
  | count a b c d => exact .count a b c d
  | road a b c d f => exact .road a b c (Paired.mapP d fun _ _ q => q.arg) f
  | round a b c d f g => exact .round a b c d f g
def saysT : Option (Nat × List Road) → Str
  | some _ => ""
  | none => "tree"
def spTree : Sp := fun vs H Q _ => ∃ (x y : V) (res : Option (Nat × List Road)), vs = [x, y] ∧ TreeArg H x y res ∧ ∀ H', Same H H' → Q (.str (saysT res)) H'
-- slots: 0:_law_villages, 1:_law_roads, 2:_law_error
theorem sc_law_tree : FnScope ["_law_villages", "_law_roads", "_law_error"] ["_law_villages", "_law_roads"] (defScope S_law_tree) := ⟨rfl, rfl, rfl, by decide +kernel, rfl, by decide +kernel, by decide +kernel⟩
theorem ok_tree {f CT CB CV CR CN CW CE : Addr} {fd : FuncData} (F : Fun K "_law_tree" "_law_tree" S_law_tree f fd) (X_RoadErrorg : mg "RoadError" = some (.ref CE)) (RF : Refs K CB CV CR CN CW CE) (GC_Tree : GcN P w K mg base CT 4 "Tree" ["self", "villages", "roads"] (spInitX (K := K) CT CB))
    (G_law_sort : GdE P w K mg base 1 "_law_sort" ["_law_error"] (spSort K CB CV CR CN CW)) : FnOk P w K mg base CX0 6 f fd ["_law_villages", "_law_roads"] spTree := by
  refine F.ok sc_law_tree (fun vs H Q E h => ?_) (fun cdv A outer s H vs Q E hr h => ?_)
  · obtain ⟨x, y, res, rfl, _⟩ := h
    rfl
  · obtain ⟨x, y, res, rfl, ta, k⟩ := h
    have nd := sc_law_tree.nd
    refine ⟨_, (pss_cons (L2N.ps_try_as (i := 2) rfl rfl nd rfl rfl ⟨rfl, by decide, .inl X_RoadErrorg⟩ takes0N
    (fun W pn xe tk po => (pss_one (ps_expr (pe_gcN GC_Tree hr rfl tk (pa_cons (pv 0) (pa_cons (pv 1) pa_nil))))))
    (fun a oe cls d pn hz hf => (pss_one (ps_ret (pe_gEs G_law_sort (roomH_mk hr _) hz hf rfl (pa_cons (pv 2) pa_nil))))))
    (pss_one (ps_ret pe_str))), ?_⟩
    refine ⟨_, rfl, _, rfl, fun t dx ht hdx hne => ?_⟩
    have s23 : Same H (upd (upd H dx (.own t)) t (.ins CT dx [])) := fun b o e => by
      rw [upd_ne (ne_of_none e ht), upd_ne (ne_of_none e hdx)]; exact e
    refine ⟨t, dx, x, y, res, rfl, upd_same, (ta.same s23).init, fun n rs e H1 kp hTr => ⟨rfl, ?_⟩, fun e H1 kp => ?_⟩
    · subst e
      exact k H1 fun b o e => kp b o (s23 b o e) (ne_of_none e ht)
    · subst e
      refine ⟨true, RF.e 0 (by decide), fun _ a ha => ?_, fun h => nomatch h⟩
      exact ⟨_, rfl, fun o hz hf => ⟨_, 0, rfl, RF.s 0 (by decide), hz, hf, fun H2 s2 => k H2 ((show Same H H1 from fun b o e => kp b o (s23 b o e) (ne_of_none e ht)).trans s2)⟩⟩
end
end Wr

namespace Wr
open PySem L2 LamX
section
variable {P : Program} {w : World} {K : PySem.W.Frag} {mg : Str → Option Value} {base : Heap}
/-! ### displays, by what they come to -/
def Ev (te : TE) (σ : St) (P : Hp → V → Prop) : Prop := ∀ (H : Hp) (Q : VK), (∀ v H', Same H H' → P H' v → Q v H') → te σ H Q
def EvAll (ta : TA) (σ : St) (P : Hp → V → Prop) (n : Nat) : Prop := ∀ (H : Hp) (Q : List V → Hp → Prop), (∀ vs H', Same H H' → vs.length = n → (∀ v ∈ vs, P H' v) → Q vs H') → ta σ H Q
def EvF (ta : TA) (σ : St) (xs : List V) : Prop := ∀ (H : Hp) (Q : List V → Hp → Prop), Q xs H → ta σ H Q
def EvR (ta : TA) (σ : St) (rs : List Road) : Prop := ∀ (H : Hp) (Q : List V → Hp → Prop), (∀ us H', Same H H' → RoadsAt H' rs us → Q us H') → ta σ H Q
section
variable {te : TE} {t ta : TA} {σ : St} {P : Hp → V → Prop}
theorem evAll_nil : EvAll tNil σ P 0 := fun H Q k => k [] H (Same.refl _) rfl fun v h => by cases h
theorem evAll_cons {n : Nat} (mono : ∀ H H' v, Same H H' → P H v → P H' v) (h : Ev te σ P) (r : EvAll ta σ P n) : EvAll (tCons te ta) σ P (n + 1) := fun H Q k =>
  h H _ fun v H1 s1 p => r H1 _ fun vs H2 s2 l a => k (v :: vs) H2 (s1.trans s2) (by rw [List.length_cons, l]) fun u hu => by
    rcases List.mem_cons.mp hu with rfl | hu
    · exact mono _ _ _ s2 p
    · exact a u hu
theorem evR_nil : EvR tNil σ [] := fun H Q k => k [] H (Same.refl _) .nil
theorem evR_cons {r : Road} {rs : List Road} (h : EvF t σ [.int r.a, .int r.b, .int r.l]) (q : EvR ta σ rs) : EvR (tCons (tTup t) ta) σ (r :: rs) := fun H Q k =>
  h H _ ⟨by show 3 ≤ sizeLine; decide, fun p hp => q _ _ fun us H2 s2 hR => k _ _ ((Same.new hp).trans s2) (.cons ⟨p, rfl, s2 _ _ upd_same⟩ hR)⟩
end
abbrev Bad2 : Hp → V → Prop := fun H v => TreeArg H (.int 2) v none
theorem bad2_mono (H H' : Hp) (v : V) (e : Same H H') (h : Bad2 H v) : Bad2 H' v := TreeArg.same e h
theorem row_bad {ta : TA} {σ : St} {xs : List V} (e : EvF ta σ xs) (n : xs.length ≤ 10) (fl : ∀ x ∈ xs, Flat x) (hb : roadV xs 2 = false) : Ev (tLst (tCons (tTup ta) tNil)) σ Bad2 := fun H Q k =>
  e H _ ⟨szle (by omega), fun p hp => ⟨by show 1 ≤ sizeLine; decide, fun q hq => k _ _ ((Same.new hp).trans (Same.new hq)) (TreeArg.road (n := 2) (bs := [false]) (by decide) upd_same rfl (.cons (by
    have h := Item.tup (n := 2) (keepN (u := .lst [.ref p]) (upd_same (H := H) (a := p) (o := .tup xs)) hq) fun x hx => (fl x hx).thing
    rw [hb] at h
    exact h) .nil) (List.mem_cons_self ..))⟩⟩
theorem ev_non {σ : St} : Ev (tC .non) σ Bad2 := fun H Q k => k .non H (Same.refl _) (TreeArg.non (n := 2) (by decide) (by decide))
theorem ev_none {σ : St} : Ev (tLst tNil) σ Bad2 := fun H Q k => ⟨Nat.zero_le _, fun q hq => k _ _ (Same.new hq) (TreeArg.count (n := 2) (by decide) (by decide) upd_same (by decide))⟩
theorem ev_tuptup {ta : TA} {σ : St} {xs : List V} (e : EvF ta σ xs) (n : xs.length ≤ 10) : Ev (tTup (tCons (tTup ta) tNil)) σ Bad2 := fun H Q k =>
  e H _ ⟨szle (by omega), fun p hp => ⟨by show 1 ≤ sizeLine; decide, fun q hq => k _ _ ((Same.new hp).trans (Same.new hq)) (TreeArg.tup (n := 2) (by decide) (by decide) upd_same)⟩⟩
theorem ev_lstlst {ta : TA} {σ : St} {xs : List V} (e : EvF ta σ xs) (n : xs.length ≤ 10) : Ev (tLst (tCons (tLst ta) tNil)) σ Bad2 := fun H Q k =>
  e H _ ⟨szle (by omega), fun p hp => ⟨by show 1 ≤ sizeLine; decide, fun q hq => k _ _ ((Same.new hp).trans (Same.new hq)) (TreeArg.road (n := 2) (bs := [false]) (by decide) upd_same rfl (.cons (Item.lst (keepN upd_same hq)) .nil) (List.mem_cons_self ..))⟩⟩
theorem ev_two {t1 t2 : TA} {σ : St} {xs ys : List V} (e : EvF t1 σ xs) (e2 : EvF t2 σ ys) (n : xs.length ≤ 10) (n2 : ys.length ≤ 10) : Ev (tLst (tCons (tTup t1) (tCons (tTup t2) tNil))) σ Bad2 := fun H Q k =>
  e H _ ⟨szle (by omega), fun p hp => e2 _ _ ⟨szle (by omega), fun p2 hp2 => ⟨by show 2 ≤ sizeLine; decide, fun q hq => k _ _ (((Same.new hp).trans (Same.new hp2)).trans (Same.new hq)) (TreeArg.count (n := 2) (by decide) (by decide) upd_same (by show (2 : Nat) + 1 ≠ 2; decide))⟩⟩⟩
theorem ev_lstin {σ : St} {i j k : Int} : Ev (tLst (tCons (tTup (tCons (tLst (tCons (tC (.int i)) tNil)) (tCons (tC (.int j)) (tCons (tC (.int k)) tNil)))) tNil)) σ Bad2 := fun H Q w =>
  ⟨by show 1 ≤ sizeLine; decide, fun a ha => ⟨by show 3 ≤ sizeLine; decide, fun p hp => ⟨by show 1 ≤ sizeLine; decide, fun q hq => w _ _ (((Same.new ha).trans (Same.new hp)).trans (Same.new hq)) (TreeArg.road (n := 2) (bs := [false]) (by decide) upd_same rfl (.cons (by
    have h := Item.tup (H := upd (upd (upd H a (.lst [.int i])) p (.tup [.ref a, .int j, .int k])) q (.lst [.ref p])) (n := 2) (t := p) (xs := [.ref a, .int j, .int k]) (keepN upd_same hq) fun x hx => by
      simp only [List.mem_cons, List.not_mem_nil, or_false] at hx
      rcases hx with rfl | rfl | rfl
      · exact .lst (keepN (keepN upd_same hp) hq)
      · exact .int _
      · exact .int _
    rw [show roadV [.ref a, .int j, .int k] 2 = false by show (withinV (.int k) 1 1000000 && (false && _)) = false; simp] at h
    exact h) .nil) (List.mem_cons_self ..))⟩⟩⟩
theorem ev_five {σ : St} {i : Int} : Ev (tLst (tCons (tC (.int i)) tNil)) σ Bad2 := fun H Q k => ⟨by show 1 ≤ sizeLine; decide, fun q hq => k _ _ (Same.new hq) (TreeArg.road (n := 2) (bs := [false]) (by decide) upd_same rfl (.cons (Item.int i) .nil) (List.mem_cons_self ..))⟩
def flatB : V → Bool
  | .int _ => true
  | .bl _ => true
  | .str _ => true
  | .non => true
  | _ => false
theorem flat_of {xs : List V} (h : xs.all flatB = true) : ∀ v ∈ xs, Flat v := fun v hv => by
  have e := List.all_eq_true.mp h v hv
  cases v with
  | int i => exact .int i
  | bl b => exact .bl b
  | str x => exact .str x
  | non => exact .non
  | _ => cases e
theorem of_lst {ta : TA} {σ : St} {H : Hp} {Q : VK} (h : ta σ H fun xs H1 => xs.length ≤ sizeLine ∧ ∀ p, H1 p = none → Q (.ref p) (upd H1 p (.lst xs))) : tLst ta σ H Q := h
theorem of_or {t u : TT} {σ : St} {H : Hp} {Q : Bool → Hp → Prop} (h : t σ H fun b H1 => if b = true then Q true H1 else u σ H1 Q) : tOr t u σ H Q := h
theorem of_call {sp : Sp} {dvs : List V} {E : XK} {t : TA} {σ : St} {H : Hp} {Q : VK} (h : t σ H fun vs H1 => sp (vs ++ dvs) H1 Q E) : tCall sp dvs E t σ H Q := h
theorem bad2_all {H H' : Hp} {vs : List V} (e : Same H H') (h : ∀ v ∈ vs, Bad2 H v) : ∀ v ∈ vs, Bad2 H' v := fun v q => (h v q).same e
theorem bad2_app {H : Hp} {vs us : List V} (h : ∀ v ∈ vs, Bad2 H v) (g : ∀ v ∈ us, Bad2 H v) : ∀ v ∈ vs ++ us, Bad2 H v := fun v q => by
  rcases List.mem_append.mp q with q | q
  · exact h v q
  · exact g v q
def spTrees : Sp := fun vs H Q _ => ∃ more : Int, vs = [.int more] ∧ 0 ≤ more ∧ more ≤ 100000000 ∧ ∀ H', Same H H' → Q (.bl true) H'
-- slots: 0:_law_more, 1:_law_chain, 2:_law_villages, 3:_law_bad, 4:_law_k, 5:_law_roads
theorem sc_law_trees : FnScope ["_law_more", "_law_chain", "_law_villages", "_law_bad", "_law_k", "_law_roads"] ["_law_more"] (defScope S_law_trees) := ⟨rfl, rfl, rfl, by decide +kernel, rfl, by decide +kernel, by decide +kernel⟩
theorem ok_trees {f : Addr} {fd : FuncData} (F : Fun K "_law_trees" "_law_trees" S_law_trees f fd) (B : Bi mg) (G_law_tree : Gd P w K mg base 6 "_law_tree" ["_law_villages", "_law_roads"] spTree) : FnOk P w K mg base CX0 7 f fd ["_law_more"] spTrees := by
  refine F.ok sc_law_trees (fun vs H Q E h => ?_) (fun cdv A outer s H vs Q E hr h => ?_)
  · obtain ⟨more, rfl, _⟩ := h
    rfl
  · obtain ⟨more, rfl, m0, m1, k⟩ := h
    have nd := sc_law_trees.nd
    refine ⟨_, (pss_cons (ps_setLc (i := 1) (own := [("_law_k", 4)]) (g := gName 4) (tt := tYes) rfl nd rfl rfl (sw_true rfl rfl rfl (by decide +kernel)) (pi_range1 (by rfl) B.range (pa_cons pe_int pa_nil)) (blkOk_by (N := ["_law_more", "_law_chain", "_law_villages", "_law_bad", "_law_k", "_law_roads"]) (sc := defScope S_law_trees) (by decide +kernel)) (fun _ _ _ _ _ => (pg_name (i := 4) nd rfl (Or.inl rfl))) (fun _ _ _ _ _ => pts_nil) (fun _ _ _ _ _ => (pe_tup (pa_cons (pv 4) (pa_cons (pe_op op_add (pv 4) pe_int) (pa_cons pe_int pa_nil))))))
    (pss_cons (ps_for PassesOwn.never rfl (pi_list (pe_lst (pa_cons pe_int (pa_cons (pe_op op_add pe_int (pv 0)) (pa_cons (pe_op op_sub (pe_un un_neg pe_int) (pv 0)) (pa_cons pe_bl (pa_cons pe_str (pa_cons pe_non pa_nil)))))))) (pg_name (i := 2) nd rfl (Or.inl rfl))
    (pss_one (ps_if (pt_cmpR op_ne (pe_g G_law_tree hr rfl (pa_cons (pv 2) (pa_cons (pe_lst pa_nil) pa_nil))) pe_str (nomark _))
    (pss_one (ps_ret pe_bl)) pss_nil)))
    (pss_cons (ps_set (i := 3) nd rfl (Or.inl rfl) (pe_lst (pa_cons pe_non (pa_cons (pe_lst pa_nil) (pa_cons (pe_tup (pa_cons (pe_tup (pa_cons pe_int (pa_cons pe_int (pa_cons pe_int pa_nil)))) pa_nil)) (pa_cons (pe_lst (pa_cons (pe_tup (pa_cons pe_int (pa_cons pe_int pa_nil))) pa_nil)) (pa_cons (pe_lst (pa_cons (pe_lst (pa_cons pe_int (pa_cons pe_int (pa_cons pe_int pa_nil)))) pa_nil)) (pa_cons (pe_lst (pa_cons (pe_tup (pa_cons pe_int (pa_cons pe_int (pa_cons pe_int pa_nil)))) pa_nil)) (pa_cons (pe_lst (pa_cons (pe_tup (pa_cons pe_int (pa_cons (pe_op op_add pe_int (pv 0)) (pa_cons pe_int pa_nil)))) pa_nil)) (pa_cons (pe_lst (pa_cons (pe_tup (pa_cons (pe_op op_sub (pe_un un_neg pe_int) (pv 0)) (pa_cons pe_int (pa_cons pe_int pa_nil)))) pa_nil)) pa_nil))))))))))
    (pss_cons (ps_set (i := 3) nd rfl (Or.inl rfl) (pe_op op_cat (pv 3) (pe_lst (pa_cons (pe_lst (pa_cons (pe_tup (pa_cons pe_int (pa_cons pe_int (pa_cons pe_int pa_nil)))) pa_nil)) (pa_cons (pe_lst (pa_cons (pe_tup (pa_cons pe_int (pa_cons pe_int (pa_cons (pe_op op_add pe_int (pv 0)) pa_nil)))) pa_nil)) (pa_cons (pe_lst (pa_cons (pe_tup (pa_cons pe_int (pa_cons pe_int (pa_cons pe_bl pa_nil)))) pa_nil)) (pa_cons (pe_lst (pa_cons (pe_tup (pa_cons pe_int (pa_cons pe_int (pa_cons pe_str pa_nil)))) pa_nil)) (pa_cons (pe_lst (pa_cons (pe_tup (pa_cons pe_int (pa_cons pe_bl (pa_cons pe_int pa_nil)))) pa_nil)) (pa_cons (pe_lst (pa_cons (pe_tup (pa_cons pe_str (pa_cons pe_int (pa_cons pe_int pa_nil)))) pa_nil)) pa_nil)))))))))
    (pss_cons (ps_set (i := 3) nd rfl (Or.inl rfl) (pe_op op_cat (pv 3) (pe_lst (pa_cons (pe_lst (pa_cons (pe_tup (pa_cons pe_int (pa_cons pe_int (pa_cons pe_int (pa_cons pe_int pa_nil))))) pa_nil)) (pa_cons (pe_lst (pa_cons (pe_tup (pa_cons pe_int (pa_cons pe_int (pa_cons pe_int pa_nil)))) (pa_cons (pe_tup (pa_cons pe_int (pa_cons pe_int (pa_cons pe_int pa_nil)))) pa_nil))) (pa_cons (pe_lst (pa_cons (pe_tup (pa_cons (pe_lst (pa_cons pe_int pa_nil)) (pa_cons pe_int (pa_cons pe_int pa_nil)))) pa_nil)) (pa_cons (pe_lst (pa_cons pe_int pa_nil)) pa_nil)))))))
    (pss_cons (ps_if (pt_not (pt_val (pe_callB (cr_allK K rfl) (by rfl) B.all (by decide +kernel) (pa_cons (pe_lc (own := [("_law_roads", 5)]) (g := gName 5) (tt := tYes) rfl nd (pi_list (pv 3)) (blkOk_by (N := ["_law_more", "_law_chain", "_law_villages", "_law_bad", "_law_k", "_law_roads"]) (sc := defScope S_law_trees) (by decide +kernel)) (fun _ _ _ _ _ => (pg_name (i := 5) nd rfl (Or.inl rfl))) (fun _ _ _ _ _ => pts_nil) (fun _ _ _ _ _ => (pe_cmpR op_eq (pe_g G_law_tree hr rfl (pa_cons pe_int (pa_cons (pv 5) pa_nil))) pe_str (nomark _)))) pa_nil))))
    (pss_one (ps_ret pe_bl)) pss_nil)
    (pss_cons (ps_if (PW.pt (pw_or (pt_cmpR op_ne (pe_g G_law_tree hr rfl (pa_cons pe_int (pa_cons (pe_lst (pa_cons (pe_tup (pa_cons pe_int (pa_cons pe_int (pa_cons pe_int pa_nil)))) (pa_cons (pe_tup (pa_cons pe_int (pa_cons pe_int (pa_cons pe_int pa_nil)))) (pa_cons (pe_tup (pa_cons pe_int (pa_cons pe_int (pa_cons pe_int pa_nil)))) pa_nil)))) pa_nil))) pe_str (nomark _)) (pw_or1 (pt_cmpR op_ne (pe_g G_law_tree hr rfl (pa_cons pe_int (pa_cons (pe_lst (pa_cons (pe_tup (pa_cons pe_int (pa_cons pe_int (pa_cons pe_int pa_nil)))) pa_nil)) pa_nil))) pe_str (nomark _)))))
    (pss_one (ps_ret pe_bl)) pss_nil)
    (pss_one (ps_ret (pe_and (pe_cmpR op_eq (pe_g G_law_tree hr rfl (pa_cons pe_int (pa_cons (pv 1) pa_nil))) pe_str (nomark _)) (pe_and (pe_cmpR op_eq (pe_g G_law_tree hr rfl (pa_cons pe_int (pa_cons (pe_lst pa_nil) pa_nil))) pe_str (nomark _)) (pe_one (pe_cmpR op_eq (pe_g G_law_tree hr rfl (pa_cons pe_int (pa_cons (pe_op op_cat (pv 1) (pe_lst (pa_cons (pe_tup (pa_cons pe_int (pa_cons pe_int (pa_cons pe_int pa_nil)))) pa_nil))) pa_nil))) pe_str (nomark _)))))))))))))), ?_⟩
    refine of_seq (of_asg (lc_at (Itr 0 11) (fun R hR => ⟨11, rfl, by decide, by decide, hR⟩) ?_))
    refine lcr_inv (lo := 0) (n := 11) (by decide) (fun _ => true) (LinkAt 1000000) (fun D i y H1 H2 e q => ?_) (fun i hi D Hx hD e hacc Yes No hyes _ => ?_) (fun ch H1 cs hch s1 hch1 hP => ?_)
    · obtain ⟨tt, e1, e2, e3⟩ := q
      exact ⟨tt, e1, e2, e _ _ e2 e3⟩
    · obtain ⟨acc, hacc⟩ := hacc
      refine turn_all ?_
      refine ⟨_, rfl, _, rfl, _, _, rfl, rfl, by show 3 ≤ sizeLine; decide, fun q hq => ?_⟩
      exact hyes rfl _ _ (Same.new hq) ⟨q, rfl, fun z => (by rw [z, hacc] at hq; cases hq), upd_same⟩
    have hR1 := links_roads hP
    have tree12 := chain_tree (l := 1000000) (n := 11) (by decide) (by decide) (by decide)
    refine of_gName (of_nx ?_)
    obtain ⟨σ1, hσ1⟩ : ∃ σ1 : St, σ1 = [some (.int more), some (.ref ch), none, none, none, none] := ⟨_, rfl⟩
    refine of_seq ?_
    refine ⟨_, rfl, _, _, rfl, rfl, _, rfl, _, rfl, _, _, rfl, rfl, by show 6 ≤ sizeLine; decide, fun vl hvl => ?_⟩
    have s2 := s1.trans (Same.new (o := .lst [.int 0, .int (13 + more), .int (-1 - more), .bl true, .str "2", .non]) hvl)
    have hch2 := keepN (u := .lst [.int 0, .int (13 + more), .int (-1 - more), .bl true, .str "2", .non]) hch1 hvl
    have hR2 := hR1.same (Same.new (o := .lst [.int 0, .int (13 + more), .int (-1 - more), .bl true, .str "2", .non]) hvl)
    have hvl2 : upd H1 vl (.lst [.int 0, .int (13 + more), .int (-1 - more), .bl true, .str "2", .non]) vl = some (.lst [.int 0, .int (13 + more), .int (-1 - more), .bl true, .str "2", .non]) := upd_same
    generalize upd H1 vl (.lst [.int 0, .int (13 + more), .int (-1 - more), .bl true, .str "2", .non]) = H2 at s2 hch2 hR2 hvl2 ⊢
    have vbad : ∀ x ∈ [V.int 0, .int (13 + more), .int (-1 - more), .bl true, .str "2", .non], Flat x ∧ withinV x 1 12 = false := by
      intro x hx
      simp only [List.mem_cons, List.not_mem_nil, or_false] at hx
      rcases hx with rfl | rfl | rfl | rfl | rfl | rfl
      · exact ⟨.int _, rfl⟩
      · refine ⟨.int _, ?_⟩
        show (decide (_ ≤ _) && decide (_ ≤ _)) = false
        rw [decide_eq_false (show ¬ (13 + more ≤ 12) by omega), Bool.and_false]
      · refine ⟨.int _, ?_⟩
        show (decide (_ ≤ _) && decide (_ ≤ _)) = false
        rw [decide_eq_false (show ¬ ((1 : Int) ≤ -1 - more) by omega), Bool.false_and]
      · exact ⟨.bl _, rfl⟩
      · exact ⟨.str _, rfl⟩
      · exact ⟨.non, rfl⟩
    refine ⟨vl, rfl, ⟨_, SqL.of hvl2⟩, for_list (K := K) (a := vl) (xs := [.int 0, .int (13 + more), .int (-1 - more), .bl true, .str "2", .non]) (fun j σ' H' => ∃ v2, σ' = [some (.int more), some (.ref ch), v2, none, none, none] ∧ Same H2 H') ⟨none, rfl, Same.refl _⟩ (fun j σ' H' _ ⟨_, _, e⟩ => SqL.of (e _ _ hvl2)) ?_ ?_⟩
    · rintro j x σ' H3 hx ⟨v2, rfl, s3⟩
      obtain ⟨fl, wb⟩ := vbad x (List.mem_of_getElem? hx)
      refine of_gName ?_
      refine ⟨_, rfl, Nat.zero_le _, fun q hq => ?_⟩
      refine ⟨x, .ref q, none, rfl, .num fl.thing wb, fun H4 s4 => ?_⟩
      refine ⟨rfl, ?_⟩
      refine ⟨_, rfl, ?_⟩
      refine iteF ?_
      exact ⟨_, rfl, (s3.trans (Same.new hq)).trans s4⟩
    rintro σ' H3 ⟨v2, rfl, s3⟩
    have hch3 := s3 _ _ hch2
    have hR3 := hR2.same s3
    have s13 := s2.trans s3
    -- bad
    have b1 : roadV [.int 0, .int (2 + more), .int 1] 2 = false := by simp [roadV, withinV]; omega
    have b2 : roadV [.int (-1 - more), .int 1, .int 1] 2 = false := by simp [roadV, withinV]; omega
    have b3 : roadV [.int 0, .int 1, .int (1000001 + more)] 2 = false := by simp [roadV, withinV]; omega
    refine of_nx (of_seq (of_asg (of_lst ((evAll_cons bad2_mono ev_non (evAll_cons bad2_mono ev_none (evAll_cons bad2_mono (ev_tuptup (xs := [.int 0, .int 1, .int 1]) (fun H Q h => h) (Nat.le_of_ble_eq_true rfl)) (evAll_cons bad2_mono (row_bad (xs := [.int 0, .int 1]) (fun H Q h => h) (Nat.le_of_ble_eq_true rfl) (flat_of rfl) (rfl)) (evAll_cons bad2_mono (ev_lstlst (xs := [.int 0, .int 1, .int 1]) (fun H Q h => h) (Nat.le_of_ble_eq_true rfl)) (evAll_cons bad2_mono (row_bad (xs := [.int 0, .int 0, .int 1]) (fun H Q h => h) (Nat.le_of_ble_eq_true rfl) (flat_of rfl) (rfl)) (evAll_cons bad2_mono (row_bad (xs := [.int 0, .int (2 + more), .int 1]) (fun H Q h => ⟨_, rfl, _, _, rfl, rfl, h⟩) (Nat.le_of_ble_eq_true rfl) (flat_of rfl) (b1)) (evAll_cons bad2_mono (row_bad (xs := [.int (-1 - more), .int 1, .int 1]) (fun H Q h => ⟨_, rfl, _, rfl, _, _, rfl, rfl, h⟩) (Nat.le_of_ble_eq_true rfl) (flat_of rfl) (b2)) evAll_nil)))))))) H3 _ fun vs1 H4 s4 l1 a1 => ⟨szle (by omega), fun p1 hp1 => of_gName (of_nx (of_seq (of_asg (of_op ⟨_, rfl, of_lst ?_⟩))))⟩))))
    have a1 := bad2_all (Same.new (o := .lst vs1) hp1) a1
    have hp11 : upd H4 p1 (.lst vs1) p1 = some (.lst vs1) := upd_same
    have s14 := s13.trans (s4.trans (Same.new (o := .lst vs1) hp1))
    have hch4 := keepN (u := .lst vs1) (s4 _ _ hch3) hp1
    have hR4 := (hR3.same s4).same (Same.new (o := .lst vs1) hp1)
    generalize upd H4 p1 (.lst vs1) = H5 at a1 hp11 s14 hch4 hR4 ⊢
    refine (evAll_cons bad2_mono (row_bad (xs := [.int 0, .int 1, .int 0]) (fun H Q h => h) (Nat.le_of_ble_eq_true rfl) (flat_of rfl) (rfl)) (evAll_cons bad2_mono (row_bad (xs := [.int 0, .int 1, .int (1000001 + more)]) (fun H Q h => ⟨_, rfl, _, _, rfl, rfl, h⟩) (Nat.le_of_ble_eq_true rfl) (flat_of rfl) (b3)) (evAll_cons bad2_mono (row_bad (xs := [.int 0, .int 1, .bl true]) (fun H Q h => h) (Nat.le_of_ble_eq_true rfl) (flat_of rfl) (rfl)) (evAll_cons bad2_mono (row_bad (xs := [.int 0, .int 1, .str "1"]) (fun H Q h => h) (Nat.le_of_ble_eq_true rfl) (flat_of rfl) (rfl)) (evAll_cons bad2_mono (row_bad (xs := [.int 0, .bl true, .int 1]) (fun H Q h => h) (Nat.le_of_ble_eq_true rfl) (flat_of rfl) (rfl)) (evAll_cons bad2_mono (row_bad (xs := [.str "0", .int 1, .int 1]) (fun H Q h => h) (Nat.le_of_ble_eq_true rfl) (flat_of rfl) (rfl)) evAll_nil)))))) H5 _ fun vs2 H6 s6 l2 a2 => ⟨szle (by omega), fun p2 hp2 => ?_⟩
    have a12 := bad2_app (bad2_all s6 a1) a2
    refine ⟨p1, p2, vs1, vs2, rfl, rfl, keepN (s6 _ _ hp11) hp2, upd_same, szle (by omega), fun p3 hp3 => ?_⟩
    have s63 := s6.trans ((Same.new (o := .lst vs2) hp2).trans (Same.new (o := .lst (vs1 ++ vs2)) hp3))
    have a12 := bad2_all ((Same.new (o := .lst vs2) hp2).trans (Same.new (o := .lst (vs1 ++ vs2)) hp3)) a12
    have hp33 : upd (upd H6 p2 (.lst vs2)) p3 (.lst (vs1 ++ vs2)) p3 = some (.lst (vs1 ++ vs2)) := upd_same
    have s16 := s14.trans s63
    have hch6 := s63 _ _ hch4
    have hR6 := hR4.same s63
    refine of_gName (of_nx (of_seq (of_asg (of_op ⟨_, rfl, of_lst ?_⟩))))
    show tCons _ _ _ (upd (upd H6 p2 (.lst vs2)) p3 (.lst (vs1 ++ vs2))) _
    generalize upd (upd H6 p2 (.lst vs2)) p3 (.lst (vs1 ++ vs2)) = H7 at a12 hp33 s16 hch6 hR6 ⊢
    refine (evAll_cons bad2_mono (row_bad (xs := [.int 0, .int 1, .int 1, .int 1]) (fun H Q h => h) (Nat.le_of_ble_eq_true rfl) (flat_of rfl) (rfl)) (evAll_cons bad2_mono (ev_two (xs := [.int 0, .int 1, .int 1]) (ys := [.int 0, .int 1, .int 1]) (fun H Q h => h) (fun H Q h => h) (Nat.le_of_ble_eq_true rfl) (Nat.le_of_ble_eq_true rfl)) (evAll_cons bad2_mono ev_lstin (evAll_cons bad2_mono ev_five evAll_nil)))) H7 _ fun vs3 H8 s8 l3 a3 => ⟨szle (by omega), fun p4 hp4 => ?_⟩
    have a123 := bad2_app (bad2_all s8 a12) a3
    refine ⟨p3, p4, vs1 ++ vs2, vs3, rfl, rfl, keepN (s8 _ _ hp33) hp4, upd_same, szle (by rw [List.length_append]; omega), fun p5 hp5 => ?_⟩
    have s85 := s8.trans ((Same.new (o := .lst vs3) hp4).trans (Same.new (o := .lst (vs1 ++ vs2 ++ vs3)) hp5))
    have a123 := bad2_all ((Same.new (o := .lst vs3) hp4).trans (Same.new (o := .lst (vs1 ++ vs2 ++ vs3)) hp5)) a123
    have hp55 : upd (upd H8 p4 (.lst vs3)) p5 (.lst (vs1 ++ vs2 ++ vs3)) p5 = some (.lst (vs1 ++ vs2 ++ vs3)) := upd_same
    have s18 := s16.trans s85
    have hch8 := s85 _ _ hch6
    have hR8 := hR6.same s85
    have ln : (vs1 ++ vs2 ++ vs3).length ≤ 100 := by rw [List.length_append, List.length_append]; omega
    refine of_gName (of_nx (of_seq ?_))
    show tIfS _ _ _ _ _ (upd (upd H8 p4 (.lst vs3)) p5 (.lst (vs1 ++ vs2 ++ vs3)))
    generalize upd (upd H8 p4 (.lst vs3)) p5 (.lst (vs1 ++ vs2 ++ vs3)) = H9 at a123 hp55 s18 hch8 hR8 ⊢
    clear a1 a2 a12 a3 hch6 hR6 s16 hp33 s14 hp11 hch4 hR4 hch3 hR3 s13 s3 hvl2 hch2 hR2 s2
    generalize vs1 ++ vs2 ++ vs3 = bads at a123 hp55 ln
    refine of_ifs (of_not (of_b (of_cb1 (lc_at (Itl K p5) (fun R hR => ⟨_, rfl, p5, rfl, ⟨_, SqL.of hp55⟩, hR⟩) ?_))))
    refine lcl (d := V.non) (fun x v => v = x) (paired_self' bads) (SqL.of hp55) (by omega) (fun _ => true) (fun x => .bl true) (fun x v hm hE H3 s3 Yes No hy _ => ?_) (fun D' H10 hD' s10 hD10 => ?_)
    · subst hE
      refine turn_all ?_
      refine ⟨_, rfl, .int 2, v, none, rfl, (a123 v hm).same s3, fun H4 s4 => ?_⟩
      refine ⟨rfl, ?_⟩
      exact hy rfl _ s4
    have e : ((bads.filter fun _ => true).map fun x => V.bl true) = (bads.map fun _ => true).map V.bl := by
      rw [List.filter_eq_self.mpr fun _ _ => rfl, List.map_map]; rfl
    rw [e] at hD10
    refine ⟨D', _, rfl, SqL.of hD10, _, rfl, ?_⟩
    have ha : ((bads.map fun _ => true).all id) = true := by
      rw [List.all_map, List.all_eq_true]
      exact fun _ _ => rfl
    rw [ha]
    refine iteF ?_
    have s1A := s18.trans s10
    have hchA := s10 _ _ hch8
    have hRA := hR8.same s10
    refine of_next (of_seq (of_ifs (of_or (of_test (of_op (of_call (of_cons (of_c (of_cons (of_lst ?_))))))))))
    refine evR_cons (r := ⟨0, 1, 1⟩) (fun H Q h => h) (evR_cons (r := ⟨1, 2, 1⟩) (fun H Q h => h) (evR_cons (r := ⟨2, 0, 1⟩) (fun H Q h => h) evR_nil)) H10 _ fun us H11 s11 hR11 => ?_
    have ul : us.length = 3 := hR11.length.symm
    refine ⟨szle (by omega), fun p hp => ?_⟩
    refine ⟨.int 4, .ref p, none, rfl, .round (n := 4) (rs := [⟨0, 1, 1⟩, ⟨1, 2, 1⟩, ⟨2, 0, 1⟩]) (by decide) upd_same (by omega) (hR11.same (Same.new hp)) ⟨by decide⟩ (by decide), fun H12 s12 => ?_⟩
    have s1C := s1A.trans (s11.trans ((Same.new hp).trans s12))
    have hchC := s12 _ _ (keepN (u := .lst us) (s11 _ _ hchA) hp)
    have hRC := ((hRA.same s11).same (Same.new (o := .lst us) hp)).same s12
    refine ⟨rfl, ?_⟩
    refine ⟨_, rfl, ?_⟩
    refine iteF ?_
    refine of_test (of_op (of_call (of_cons (of_c (of_cons (of_lst ?_))))))
    refine evR_cons (r := ⟨0, 0, 1⟩) (fun H Q h => h) evR_nil H12 _ fun us2 H13 s13 hR13 => ?_
    have ul2 : us2.length = 1 := hR13.length.symm
    refine ⟨szle (by omega), fun p2 hp2 => ?_⟩
    refine ⟨.int 1, .ref p2, none, rfl, .count (n := 1) (by decide) (by decide) upd_same (by omega), fun H14 s14 => ?_⟩
    have s1E := s1C.trans (s13.trans ((Same.new hp2).trans s14))
    have hchE := s14 _ _ (keepN (u := .lst us2) (s13 _ _ hchC) hp2)
    have hRE := ((hRC.same s13).same (Same.new (o := .lst us2) hp2)).same s14
    refine ⟨rfl, ?_⟩
    refine ⟨_, rfl, ?_⟩
    refine iteF ?_
    refine of_next (of_ret ?_)
    refine ⟨_, rfl, .int 12, .ref ch, some (12, chainR 1000000 11), rfl, .good (n := 12) hchE hRE tree12, fun H15 s15 => ?_⟩
    refine ⟨rfl, ?_⟩
    refine ⟨_, rfl, ?_⟩
    refine iteT ?_
    refine ⟨Nat.zero_le _, fun q hq => ⟨.int 1, .ref q, some (1, []), rfl, .good (n := 1) (rs := []) upd_same .nil (chain_tree (l := 1) (n := 0) (by decide) (by decide) (by decide)), fun H16 s16 => ?_⟩⟩
    refine ⟨rfl, ?_⟩
    refine ⟨_, rfl, ?_⟩
    refine iteT ?_
    have s1G := (s1E.trans s15).trans ((Same.new hq).trans s16)
    have hchG := s16 _ _ (keepN (u := .lst []) (s15 _ _ hchE) hq)
    have cl : cs.length = 11 := by
      have := hRE.length
      rw [← this]
      simp [chainR]
    refine of_op (of_call (of_cons (of_c (of_cons (of_op ⟨_, rfl, of_lst ?_⟩)))))
    refine evR_cons (r := ⟨11, 12, 1⟩) (fun H Q h => h) evR_nil H16 _ fun us3 H17 s17 hR17 => ?_
    have ul3 : us3.length = 1 := hR17.length.symm
    refine ⟨szle (by omega), fun p7 hp7 => ?_⟩
    refine ⟨ch, p7, cs, us3, rfl, rfl, keepN (s17 _ _ hchG) hp7, upd_same, szle (by omega), fun p8 hp8 => ?_⟩
    refine ⟨.int 13, .ref p8, none, rfl, .num (.int 13) rfl, fun H18 s18 => ?_⟩
    refine ⟨rfl, ?_⟩
    exact k H18 (s1G.trans (s17.trans (((Same.new hp7).trans (Same.new hp8)).trans s18)))
end
end Wr

namespace Wr
open PySem L2 LamX
/-! ### at the bounds, plainly -/
section
theorem dug0 {ws cs : List Int} (h : DugRes 3 rs3 0 ws cs) : ws = [0, 1, 2] := by
  have s := h.shown
  unfold shownV at s
  rw [Bool.and_eq_true, List.all_eq_true] at s
  have near : ∀ v : Int, 0 ≤ v → v < 3 → ∃ x ∈ ws, D 3 rs3 v x ≤ 0 := fun v v0 v1 => by
    have q := s.2 v (mem_ivs.mpr ⟨v0, v1⟩)
    rw [Bool.and_eq_true, List.any_eq_true] at q
    obtain ⟨x, hx, hd⟩ := q.1
    exact ⟨x, hx, by simpa using hd⟩
  have self : ∀ v : Int, 0 ≤ v → v < 3 → v ∈ ws := fun v v0 v1 => by
    obtain ⟨x, hx, hd⟩ := near v v0 v1
    have xr := h.wi x hx
    have ev : v = 0 ∨ v = 1 ∨ v = 2 := by omega
    have ex : x = 0 ∨ x = 1 ∨ x = 2 := by have := xr.1; have := xr.2; omega
    rcases ev with rfl | rfl | rfl <;> rcases ex with rfl | rfl | rfl <;> first | exact hx | (exfalso; revert hd; decide)
  have l1 := rise_le h.wr h.wi
  have nd : ([0, 1, 2] : List Int).Nodup := by decide
  have l2 := List.Nodup.length_le_of_subset nd (l₂ := ws) fun x hx => by
    simp only [List.mem_cons, List.not_mem_nil, or_false] at hx
    rcases hx with rfl | rfl | rfl
    · exact self 0 (by decide) (by decide)
    · exact self 1 (by decide) (by decide)
    · exact self 2 (by decide) (by decide)
  have wr := h.wr
  have wi := h.wi
  match ws, l1, l2, wr, wi with
  | [a, b, c], _, _, wr, wi =>
    have ha := wi a (by simp)
    have hb := wi b (by simp)
    have hc := wi c (by simp)
    simp only [List.pairwise_cons, List.mem_cons, List.not_mem_nil, or_false] at wr
    have h1 := wr.1 b (.inl rfl)
    have h2 := wr.2.1 c rfl
    have e1 : a = 0 := by omega
    have e2 : b = 1 := by omega
    have e3 : c = 2 := by omega
    rw [e1, e2, e3]
theorem least12 {x : Int} (h : Least 3 rs3 12 x) : x = 0 := by
  have r := h.isD.rg tree3
  by_cases e : x = 0
  · exact e
  · exfalso
    obtain ⟨ws, cs, g, l⟩ := h.lesser 0 (.inl rfl) (by omega)
    have := rise_le g.wr g.wi
    omega
theorem walks3 : walksL 3 rs3 [1000000, 0, 0] = [0, 5000000, 12000000] := by decide
theorem long3 : valV (lenK rs3) [Sum.inl 0, Sum.inl 2] = none := by decide
end
end Wr

namespace Wr
open PySem L2 LamX
section
variable {te : TE} {ta : TA} {σ : St}
theorem ev_val {P : Hp → V → Prop} (v : V) (e : ∀ (H : Hp) (Q : VK), Q v H → te σ H Q) (p : ∀ H, P H v) : Ev te σ P := fun H Q k => e H Q (k v H (Same.refl _) (p H))
/-- a thing that is none of the numbers lo to hi -/
abbrev Off (lo hi : Int) : Hp → V → Prop := fun H v => Thing H v ∧ withinV v lo hi = false
theorem off_mono {lo hi : Int} (H H' : Hp) (v : V) (e : Same H H') (h : Off lo hi H v) : Off lo hi H' v := ⟨h.1.same e, h.2⟩
theorem ev_off {lo hi : Int} {xs : List V} (e : EvF ta σ xs) (n : xs.length ≤ 10) : Ev (tLst ta) σ (Off lo hi) := fun H Q k => e H _ ⟨szle (by omega), fun q hq => k _ _ (Same.new hq) ⟨.lst upd_same, rfl⟩⟩
theorem off_int {lo hi i : Int} (h : i < lo ∨ hi < i) (H : Hp) : Off lo hi H (.int i) := ⟨.int i, by
  show (decide (lo ≤ i) && decide (i ≤ hi)) = false
  rcases h with h | h
  · rw [decide_eq_false (show ¬ lo ≤ i by omega), Bool.false_and]
  · rw [decide_eq_false (show ¬ i ≤ hi by omega), Bool.and_false]⟩
theorem off_bl {lo hi : Int} (b : Bool) (H : Hp) : Off lo hi H (.bl b) := ⟨.bl b, rfl⟩
theorem off_str {lo hi : Int} (x : Str) (H : Hp) : Off lo hi H (.str x) := ⟨.str x, rfl⟩
theorem off_non {lo hi : Int} (H : Hp) : Off lo hi H .non := ⟨.non, rfl⟩
/-- the same, of a length -/
abbrev OffF (lo hi : Int) : Hp → V → Prop := fun H v => Flat v ∧ withinV v lo hi = false
theorem offF_mono {lo hi : Int} (H H' : Hp) (v : V) (e : Same H H') (h : OffF lo hi H v) : OffF lo hi H' v := h
theorem offF_int {lo hi i : Int} (h : i < lo ∨ hi < i) (H : Hp) : OffF lo hi H (.int i) := ⟨.int i, (off_int h H).2⟩
abbrev PB3 : Hp → V → Prop := fun H v => PeopleBad H 3 v
theorem pb_mono (H H' : Hp) (v : V) (e : Same H H') (h : PB3 H v) : PB3 H' v := h.same e
theorem ev_pcount {xs : List V} (e : EvF ta σ xs) (n : xs.length ≤ 10) (l : xs.length ≠ 3) : Ev (tLst ta) σ PB3 := fun H Q k => e H _ ⟨szle (by omega), fun q hq => k _ _ (Same.new hq) (.count upd_same l)⟩
theorem ev_ptup {xs : List V} (e : EvF ta σ xs) (n : xs.length ≤ 10) : Ev (tTup ta) σ PB3 := fun H Q k => e H _ ⟨szle (by omega), fun q hq => k _ _ (Same.new hq) (.tup upd_same)⟩
theorem ev_pone {xs : List V} (e : EvF ta σ xs) (l : xs.length = 3) (fl : xs.all flatB = true) (b : (xs.all fun x => withinV x 0 1000000) = false) : Ev (tLst ta) σ PB3 := fun H Q k => e H _ ⟨szle (by omega), fun q hq => k _ _ (Same.new hq) (.one upd_same l (fun x hx => (flat_of fl x hx).thing) (by
  obtain ⟨x, hx, h⟩ := List.all_eq_false.mp b
  exact ⟨x, hx, by simpa using h⟩))⟩
end
section
variable {P : Program} {w : World} {K : PySem.W.Frag} {mg : Str → Option Value} {base : Heap}
theorem all_call {CT t q p : Addr} {σ : St} {H H2 : Hp} {Q : VK} {i : Nat} {ds : List Int} {vs : List V} (hA : TreeAt CT H t 3 rs3) (s2 : Same H H2) (hq : H2 q = some (.lst (ds.map V.int))) (hp : H2 p = some (.lst vs)) (dl : ds.length ≤ 100) (vl : vs.length ≤ 100) (ask : ∀ d ∈ ds, ∀ v ∈ vs, Ask H2 d v i) (k : ∀ H', Same H H' → Q (.bl true) H') : spAll CT [.ref t, .ref q, .ref p, .str (kindS i)] H2 Q E0 :=
  ⟨t, q, p, ds, vs, i, rfl, hA.same s2, hq, hp, dl, vl, ask, fun H' s' => k H' (s2.trans s')⟩
theorem all_step {CT t : Addr} {σ : St} {H : Hp} {Q : VK} {D : TE} {ta : TA} {P : Hp → V → Prop} {n i : Nat} (ds : List Int) (h2 : σ[2]? = some (some (.ref t))) (hA : TreeAt CT H t 3 rs3) (hD : ∀ Q : VK, (∀ q H', Same H H' → H' q = some (.lst (ds.map V.int)) → Q (.ref q) H') → D σ H Q) (ev : EvAll ta σ P n) (nl : n ≤ 100) (dl : ds.length ≤ 100)
    (mono : ∀ H H' v, Same H H' → P H v → P H' v) (ask : ∀ (H : Hp) (v : V), P H v → ∀ d ∈ ds, Ask H d v i) (k : ∀ H', Same H H' → Q (.bl true) H') : tCall (spAll CT) [] E0 (tCons (tVar 2) (tCons D (tCons (tLst ta) (tCons (tC (.str (kindS i))) tNil)))) σ H Q :=
  of_call (of_cons (of_var h2 (of_cons (hD _ fun q H1 s1 hq => of_cons (of_lst (ev H1 _ fun vs H2 s2 l all => ⟨szle (by omega), fun p hp =>
    all_call (σ := σ) hA ((s1.trans s2).trans (Same.new hp)) (keepN (s2 _ _ hq) hp) upd_same dl (by omega) (fun d hd v hv => ask _ v (mono _ _ _ (Same.new hp) (all v hv)) d hd) k⟩))))))
theorem all_stepV {CT t p : Addr} {σ : St} {H : Hp} {Q : VK} {D : TE} {vs : List V} {i : Nat} (ds : List Int) (h2 : σ[2]? = some (some (.ref t))) (h3 : σ[3]? = some (some (.ref p))) (hA : TreeAt CT H t 3 rs3) (hD : ∀ Q : VK, (∀ q H', Same H H' → H' q = some (.lst (ds.map V.int)) → Q (.ref q) H') → D σ H Q) (hp : H p = some (.lst vs)) (vl : vs.length ≤ 100) (dl : ds.length ≤ 100)
    (ask : ∀ v ∈ vs, ∀ d ∈ ds, Ask H d v i) (k : ∀ H', Same H H' → Q (.bl true) H') : tCall (spAll CT) [] E0 (tCons (tVar 2) (tCons D (tCons (tVar 3) (tCons (tC (.str (kindS i))) tNil)))) σ H Q :=
  of_call (of_cons (of_var h2 (of_cons (hD _ fun q H1 s1 hq => of_cons (of_var h3 (all_call (σ := σ) hA s1 hq (s1 _ _ hp) dl vl (fun d hd v hv => (ask v hv d hd).same s1) k))))))
theorem doors_lst {ta : TA} {σ : St} {H : Hp} {ds : List Int} (e : EvF ta σ (ds.map V.int)) (l : ds.length ≤ 100) : ∀ Q : VK, (∀ q H', Same H H' → H' q = some (.lst (ds.map V.int)) → Q (.ref q) H') → tLst ta σ H Q := fun Q k => e H _ ⟨szle (by rw [List.length_map]; omega), fun q hq => k q _ (Same.new hq) upd_same⟩
def spLaw (K : PySem.W.Frag) (PD : Addr) : Sp := fun vs H Q _ => ∃ (a : Addr) (ns : List Int), vs = [.ref a] ∧ H PD = some (.tbl #[]) ∧ SqL K H a (ns.map V.int) ∧ ns.length ≤ 63 ∧ ∀ H', Q (.bl true) H'
-- slots: 0:_law_script, 1:_law_more, 2:_law_tree_here, 3:_law_people
theorem sc_law : FnScope ["_law_script", "_law_more", "_law_tree_here", "_law_people"] ["_law_script"] (defScope S_law) := ⟨rfl, rfl, rfl, by decide +kernel, rfl, by decide +kernel, by decide +kernel⟩
theorem ok_law {f CT CW PD : Addr} {fd : FuncData} (F : Fun K "law" "law" S_law f fd) (B : Bi mg) (O : Ox K CW "wells" "callers") (G_law_cell_at : Gd P w K mg base 1 "_law_cell_at" ["_law_script", "_law_k"] (spCell K)) (GC_Tree : Gc P w K mg base CT 4 "Tree" ["self", "villages", "roads"] (spInit (K := K) CT))
    (G_law_trees : Gd P w K mg base 7 "_law_trees" ["_law_more"] spTrees) (G_law_all : Gd P w K mg base 9 "_law_all" ["_law_tree_here", "_law_doors", "_law_things", "_law_due"] (spAll CT)) (G_dug : Gd P w K mg base 5 "dug" ["tree", "walk"] (spDug CT CW PD)) (G_least_walk : Gd P w K mg base 6 "least_walk" ["tree", "many"] (spLeast CT CW PD))
    (G_walks : Gd P w K mg base 4 "walks" ["tree", "people"] (spWalks CT)) (G_law_asked : Gd P w K mg base 8 "_law_asked" ["_law_tree_here", "_law_door", "_law_thing"] (spAsked CT)) (G_long : Gd P w K mg base 4 "long" ["tree", "walk"] (spLongNone CT)) : FnOk P w K mg base CX0 10 f fd ["_law_script"] (spLaw K PD) := by
  refine F.ok sc_law (fun vs H Q E h => ?_) (fun cdv A outer s H vs Q E hr h => ?_)
  · obtain ⟨a, ns, rfl, _⟩ := h
    rfl
  · obtain ⟨a, ns, rfl, hPD, hS, h63, k⟩ := h
    have hu := hu_of hr
    have nd := sc_law.nd
    have hTb : Tabs [(PD, qDug)] H := fun p hp => by rw [List.mem_singleton.mp hp]; exact TabS.nil hPD
    refine ⟨_, (pss_cons (ps_set (i := 1) nd rfl (Or.inl rfl) (pe_op op_mod (pe_g G_law_cell_at hr rfl (pa_cons (pv 0) (pa_cons pe_int pa_nil))) pe_int))
    (pss_cons (ps_set (i := 2) nd rfl (Or.inl rfl) (pe_gc GC_Tree hr rfl (pa_cons pe_int (pa_cons (pe_lst (pa_cons (pe_tup (pa_cons pe_int (pa_cons pe_int (pa_cons pe_int pa_nil)))) (pa_cons (pe_tup (pa_cons pe_int (pa_cons pe_int (pa_cons pe_int pa_nil)))) pa_nil))) pa_nil))))
    (pss_cons (ps_if (pt_not (pt_val (pe_g G_law_trees hr rfl (pa_cons (pv 1) pa_nil))))
    (pss_one (ps_ret pe_bl)) pss_nil)
    (pss_cons (ps_if (pt_not (pt_val (pe_g G_law_all hr rfl (pa_cons (pv 2) (pa_cons (pe_op op_cat (pe_listRg rfl (by rfl) B.list (prg_1 (by rfl) B.range pe_int)) (pe_lst (pa_cons pe_int pa_nil))) (pa_cons (pe_lst (pa_cons (pe_op op_add pe_int (pv 1)) (pa_cons (pe_op op_sub (pe_un un_neg pe_int) (pv 1)) (pa_cons pe_bl (pa_cons pe_str (pa_cons pe_non (pa_cons (pe_lst (pa_cons pe_int pa_nil)) pa_nil))))))) (pa_cons pe_str pa_nil)))))))
    (pss_one (ps_ret pe_bl)) pss_nil)
    (pss_cons (ps_if (pt_not (pt_val (pe_g G_law_all hr rfl (pa_cons (pv 2) (pa_cons (pe_lst (pa_cons pe_int (pa_cons pe_int pa_nil))) (pa_cons (pe_lst (pa_cons (pe_op op_add pe_int (pv 1)) (pa_cons (pe_op op_sub (pe_un un_neg pe_int) (pv 1)) (pa_cons pe_bl (pa_cons pe_str (pa_cons pe_non (pa_cons (pe_lst (pa_cons pe_int pa_nil)) pa_nil))))))) (pa_cons pe_str pa_nil)))))))
    (pss_one (ps_ret pe_bl)) pss_nil)
    (pss_cons (ps_if (pt_not (pt_val (pe_g G_law_all hr rfl (pa_cons (pv 2) (pa_cons (pe_lst (pa_cons pe_int pa_nil)) (pa_cons (pe_lst (pa_cons (pe_op op_sub (pe_un un_neg pe_int) (pv 1)) (pa_cons (pe_op op_add pe_int (pv 1)) (pa_cons pe_bl (pa_cons pe_str (pa_cons pe_non (pa_cons (pe_lst (pa_cons pe_int pa_nil)) pa_nil))))))) (pa_cons pe_str pa_nil)))))))
    (pss_one (ps_ret pe_bl)) pss_nil)
    (pss_cons (ps_if (pt_not (pt_val (pe_g G_law_all hr rfl (pa_cons (pv 2) (pa_cons (pe_lst (pa_cons pe_int pa_nil)) (pa_cons (pe_lst (pa_cons pe_int (pa_cons (pe_op op_add pe_int (pv 1)) (pa_cons (pe_op op_sub (pe_un un_neg pe_int) (pv 1)) (pa_cons pe_bl (pa_cons pe_str (pa_cons pe_non pa_nil))))))) (pa_cons pe_str pa_nil)))))))
    (pss_one (ps_ret pe_bl)) pss_nil)
    (pss_cons (ps_set (i := 3) nd rfl (Or.inl rfl) (pe_lst (pa_cons pe_non (pa_cons (pe_lst pa_nil) (pa_cons (pe_lst (pa_cons pe_int (pa_cons pe_int pa_nil))) (pa_cons (pe_lst (pa_cons pe_int (pa_cons pe_int (pa_cons pe_int (pa_cons pe_int pa_nil))))) (pa_cons (pe_tup (pa_cons pe_int (pa_cons pe_int (pa_cons pe_int pa_nil)))) (pa_cons (pe_lst (pa_cons pe_int (pa_cons pe_int (pa_cons (pe_op op_sub (pe_un un_neg pe_int) (pv 1)) pa_nil)))) (pa_cons (pe_lst (pa_cons (pe_op op_add pe_int (pv 1)) (pa_cons pe_int (pa_cons pe_int pa_nil)))) pa_nil)))))))))
    (pss_cons (ps_set (i := 3) nd rfl (Or.inl rfl) (pe_op op_cat (pv 3) (pe_lst (pa_cons (pe_lst (pa_cons pe_int (pa_cons pe_bl (pa_cons pe_int pa_nil)))) (pa_cons (pe_lst (pa_cons pe_str (pa_cons pe_int (pa_cons pe_int pa_nil)))) pa_nil)))))
    (pss_cons (ps_if (pt_not (pt_val (pe_g G_law_all hr rfl (pa_cons (pv 2) (pa_cons (pe_lst (pa_cons pe_int (pa_cons pe_int pa_nil))) (pa_cons (pv 3) (pa_cons pe_str pa_nil)))))))
    (pss_one (ps_ret pe_bl)) pss_nil)
    (pss_cons (ps_if (pt_not (pt_val (pe_g G_law_all hr rfl (pa_cons (pv 2) (pa_cons (pe_lst (pa_cons pe_int pa_nil)) (pa_cons (pe_lst (pa_cons pe_int (pa_cons (pe_op op_add pe_int (pv 1)) (pa_cons (pe_op op_sub (pe_un un_neg pe_int) (pv 1)) (pa_cons pe_bl (pa_cons pe_str (pa_cons pe_non pa_nil))))))) (pa_cons pe_str pa_nil)))))))
    (pss_one (ps_ret pe_bl)) pss_nil)
    (pss_cons (ps_if (PW.pt (pw_or (pt_cmpR (op_eqD hr.units) (pe_fld (pe_g G_dug hr rfl (pa_cons (pv 2) (pa_cons pe_int pa_nil))) rfl) (pe_lst pa_nil) (nomark _)) (pw_or1 (pt_cmpR op_ne (pe_g G_least_walk hr rfl (pa_cons (pv 2) (pa_cons pe_int pa_nil))) pe_int (nomark _)))))
    (pss_one (ps_ret pe_bl)) pss_nil)
    (pss_cons (ps_if (pt_cmpR (op_neD hr.units) (pe_g G_walks hr rfl (pa_cons (pv 2) (pa_cons (pe_lst (pa_cons pe_int (pa_cons pe_int (pa_cons pe_int pa_nil)))) pa_nil))) (pe_lst (pa_cons pe_int (pa_cons pe_int (pa_cons pe_int pa_nil)))) (nomark _))
    (pss_one (ps_ret pe_bl)) pss_nil)
    (pss_cons (ps_if (PW.pt (pw_or (pt_cmpR op_ne (pe_g G_law_asked hr rfl (pa_cons (pv 2) (pa_cons pe_int (pa_cons (pe_op op_add (pv 1) pe_int) pa_nil)))) pe_str (nomark _)) (pw_or1 (pt_cmpR op_ne (pe_g G_law_asked hr rfl (pa_cons (pv 2) (pa_cons pe_int (pa_cons pe_non pa_nil)))) pe_str (nomark _)))))
    (pss_one (ps_ret pe_bl)) pss_nil)
    (pss_one (ps_ret (pe_and (pe_cmp (pc_isN (pe_g G_long hr rfl (pa_cons (pv 2) (pa_cons (pe_lst (pa_cons pe_int (pa_cons pe_int pa_nil))) pa_nil)))) rfl) (pe_one (pe_cmpR (op_eqD hr.units) (pe_fld (pe_g G_dug hr rfl (pa_cons (pv 2) (pa_cons pe_int pa_nil))) rfl) (pe_lst (pa_cons pe_int (pa_cons pe_int (pa_cons pe_int pa_nil)))) (nomark _)))))))))))))))))))), ?_⟩
    refine ⟨_, rfl, a, ns, 0, rfl, hS, _, _, rfl, rfl, (by show (0 : Int) < 100000000; decide), ?_⟩
    refine of_gName (of_nx ?_)
    have m0 : 0 ≤ cellV ns 0 % 100000000 := Int.emod_nonneg _ (by decide)
    have m1 : cellV ns 0 % 100000000 < 100000000 := Int.emod_lt_of_pos _ (by decide)
    show tSeq _ _ _ [some (.ref a), some (.int (cellV ns 0 % 100000000)), none, none] H
    generalize cellV ns 0 % 100000000 = more at m0 m1 ⊢
    refine of_seq (of_asg (of_make (of_cons (of_c (of_cons (of_lst ?_))))))
    refine evR_cons (r := ⟨0, 1, 5⟩) (fun H Q h => h) (evR_cons (r := ⟨1, 2, 7⟩) (fun H Q h => h) evR_nil) H _ fun us H1 s1 hR1 => ?_
    have ul : us.length = 2 := hR1.length.symm
    refine ⟨szle (by omega), fun p hp => ?_⟩
    have s2 := s1.trans (Same.new (o := .lst us) hp)
    have hR2 := hR1.same (Same.new (o := .lst us) hp)
    have hp2 : upd H1 p (.lst us) p = some (.lst us) := upd_same
    generalize upd H1 p (.lst us) = H2 at s2 hR2 hp2 ⊢
    refine fun t dx ht hdx hne => ?_
    have s23 : Same H2 (upd (upd H2 dx (.own t)) t (.ins CT dx [])) := fun b o e => by
      rw [upd_ne (ne_of_none e ht), upd_ne (ne_of_none e hdx)]; exact e
    refine ⟨t, dx, p, 3, rs3, us, rfl, upd_same, SqL.of (s23 _ _ hp2), s23 _ _ hp2, hR2.same s23, tree3, fun H3 kp hTr => ⟨rfl, ?_⟩⟩
    have s3 : Same H H3 := s2.trans fun b o e => kp b o (s23 b o e) (ne_of_none e ht)
    have hA := hTr.at
    refine of_gName (of_nx ?_)
    show tSeq _ _ _ [some (.ref a), some (.int more), some (.ref t), none] H3
    clear kp hTr s23 hp2 hR2 s2 hR1 s1 ht hdx hne
    -- trees
    refine ⟨_, rfl, more, rfl, m0, by omega, fun H4 s4 => ?_⟩
    refine ⟨_, rfl, ?_⟩
    refine iteF ?_
    replace hA := hA.same s4
    replace s3 := s3.trans s4
    clear s4
    refine of_next (of_seq (of_ifs (of_not (of_b (all_step (i := 1) (P := Off 0 2) [0, 1, 2, 3, 4, 5, 6, 7, 8, 9, 17] rfl hA (fun Q k => of_op ⟨10, rfl, ⟨by decide, by decide, by decide, by decide, by decide⟩, fun q1 hq1 => of_lst ⟨by show 1 ≤ sizeLine; decide, fun q2 hq2 => ⟨q1, q2, rgV 0 10, [.int 17], rfl, rfl, keepN upd_same hq2, upd_same, by show 11 ≤ sizeLine; decide, fun q hq => k q _ (((Same.new hq1).trans (Same.new hq2)).trans (Same.new hq)) upd_same⟩⟩⟩) (evAll_cons off_mono (ev_val (.int (3 + more)) (fun H Q h => ⟨_, rfl, _, _, rfl, rfl, h⟩) (off_int (.inr (by omega)))) (evAll_cons off_mono (ev_val (.int (-1 - more)) (fun H Q h => ⟨_, rfl, _, rfl, _, _, rfl, rfl, h⟩) (off_int (.inl (by omega)))) (evAll_cons off_mono (ev_val (.bl true) (fun H Q h => h) (fun H => ⟨.bl _, rfl⟩)) (evAll_cons off_mono (ev_val (.str "0") (fun H Q h => h) (fun H => ⟨.str _, rfl⟩)) (evAll_cons off_mono (ev_val .non (fun H Q h => h) (fun H => ⟨.non, rfl⟩)) (evAll_cons off_mono (ev_off (xs := [.int 0]) (fun H Q h => h) (Nat.le_of_ble_eq_true rfl)) evAll_nil)))))) (by decide) (by decide) off_mono (fun H v h d hd => .vil (by simpa using hd) h.1 h.2) fun H5 s5 => ⟨true, rfl, ?_⟩)))))
    refine iteF ?_
    replace hA := hA.same s5
    replace s3 := s3.trans s5
    clear s5
    refine of_next (of_seq (of_ifs (of_not (of_b (all_step (i := 2) (P := Off 0 1) [10, 11] rfl hA (doors_lst (fun H Q h => h) (by decide)) (evAll_cons off_mono (ev_val (.int (2 + more)) (fun H Q h => ⟨_, rfl, _, _, rfl, rfl, h⟩) (off_int (.inr (by omega)))) (evAll_cons off_mono (ev_val (.int (-1 - more)) (fun H Q h => ⟨_, rfl, _, rfl, _, _, rfl, rfl, h⟩) (off_int (.inl (by omega)))) (evAll_cons off_mono (ev_val (.bl true) (fun H Q h => h) (fun H => ⟨.bl _, rfl⟩)) (evAll_cons off_mono (ev_val (.str "0") (fun H Q h => h) (fun H => ⟨.str _, rfl⟩)) (evAll_cons off_mono (ev_val .non (fun H Q h => h) (fun H => ⟨.non, rfl⟩)) (evAll_cons off_mono (ev_off (xs := [.int 0]) (fun H Q h => h) (Nat.le_of_ble_eq_true rfl)) evAll_nil)))))) (by decide) (by decide) off_mono (fun H v h d hd => .road (by simpa using hd) h.1 h.2) fun H5 s5 => ⟨true, rfl, ?_⟩)))))
    refine iteF ?_
    replace hA := hA.same s5
    replace s3 := s3.trans s5
    clear s5
    refine of_next (of_seq (of_ifs (of_not (of_b (all_step (i := 3) (P := Off 0 12000000) [12] rfl hA (doors_lst (fun H Q h => h) (by decide)) (evAll_cons off_mono (ev_val (.int (-1 - more)) (fun H Q h => ⟨_, rfl, _, rfl, _, _, rfl, rfl, h⟩) (off_int (.inl (by omega)))) (evAll_cons off_mono (ev_val (.int (12000001 + more)) (fun H Q h => ⟨_, rfl, _, _, rfl, rfl, h⟩) (off_int (.inr (by omega)))) (evAll_cons off_mono (ev_val (.bl true) (fun H Q h => h) (fun H => ⟨.bl _, rfl⟩)) (evAll_cons off_mono (ev_val (.str "0") (fun H Q h => h) (fun H => ⟨.str _, rfl⟩)) (evAll_cons off_mono (ev_val .non (fun H Q h => h) (fun H => ⟨.non, rfl⟩)) (evAll_cons off_mono (ev_off (xs := [.int 0]) (fun H Q h => h) (Nat.le_of_ble_eq_true rfl)) evAll_nil)))))) (by decide) (by decide) off_mono (fun H v h d hd => by rw [List.mem_singleton.mp hd]; exact .walk h.1 h.2) fun H5 s5 => ⟨true, rfl, ?_⟩)))))
    refine iteF ?_
    replace hA := hA.same s5
    replace s3 := s3.trans s5
    clear s5
    refine of_next (of_seq (of_ifs (of_not (of_b (all_step (i := 3) (P := Off 1 12) [13] rfl hA (doors_lst (fun H Q h => h) (by decide)) (evAll_cons off_mono (ev_val (.int 0) (fun H Q h => h) (off_int (.inl (by decide)))) (evAll_cons off_mono (ev_val (.int (13 + more)) (fun H Q h => ⟨_, rfl, _, _, rfl, rfl, h⟩) (off_int (.inr (by omega)))) (evAll_cons off_mono (ev_val (.int (-1 - more)) (fun H Q h => ⟨_, rfl, _, rfl, _, _, rfl, rfl, h⟩) (off_int (.inl (by omega)))) (evAll_cons off_mono (ev_val (.bl true) (fun H Q h => h) (fun H => ⟨.bl _, rfl⟩)) (evAll_cons off_mono (ev_val (.str "1") (fun H Q h => h) (fun H => ⟨.str _, rfl⟩)) (evAll_cons off_mono (ev_val .non (fun H Q h => h) (fun H => ⟨.non, rfl⟩)) evAll_nil)))))) (by decide) (by decide) off_mono (fun H v h d hd => by rw [List.mem_singleton.mp hd]; exact .count h.1 h.2) fun H5 s5 => ⟨true, rfl, ?_⟩)))))
    refine iteF ?_
    replace hA := hA.same s5
    replace s3 := s3.trans s5
    clear s5
    refine of_next (of_seq (of_asg (of_lst ((evAll_cons pb_mono (ev_val .non (fun H Q h => h) (fun H => .non)) (evAll_cons pb_mono (ev_pcount (xs := []) (fun H Q h => h) (Nat.le_of_ble_eq_true rfl) (by decide)) (evAll_cons pb_mono (ev_pcount (xs := [.int 1, .int 1]) (fun H Q h => h) (Nat.le_of_ble_eq_true rfl) (by decide)) (evAll_cons pb_mono (ev_pcount (xs := [.int 1, .int 1, .int 1, .int 1]) (fun H Q h => h) (Nat.le_of_ble_eq_true rfl) (by decide)) (evAll_cons pb_mono (ev_ptup (xs := [.int 1, .int 1, .int 1]) (fun H Q h => h) (Nat.le_of_ble_eq_true rfl)) (evAll_cons pb_mono (ev_pone (xs := [.int 1, .int 1, .int (-1 - more)]) (fun H Q h => ⟨_, rfl, _, rfl, _, _, rfl, rfl, h⟩) rfl rfl (by show (withinV (.int 1) 0 1000000 && (withinV (.int 1) 0 1000000 && (withinV (.int (-1 - more)) 0 1000000 && true))) = false; rw [(off_int (i := -1 - more) (lo := 0) (hi := 1000000) (.inl (by omega)) H).2]; rfl)) (evAll_cons pb_mono (ev_pone (xs := [.int (1000001 + more), .int 1, .int 1]) (fun H Q h => ⟨_, rfl, _, _, rfl, rfl, h⟩) rfl rfl (by show (withinV (.int (1000001 + more)) 0 1000000 && _) = false; rw [(off_int (i := 1000001 + more) (lo := 0) (hi := 1000000) (.inr (by omega)) H).2]; rfl)) evAll_nil))))))) _ _ fun vs1 H4 s4 l1 a1 => ⟨szle (by omega), fun p1 hp1 => of_gName (of_nx (of_seq (of_asg (of_op ⟨_, rfl, of_lst ?_⟩))))⟩))))
    have a1 : ∀ v ∈ vs1, PB3 (upd H4 p1 (.lst vs1)) v := fun v hv => (a1 v hv).same (Same.new hp1)
    have hp11 : upd H4 p1 (.lst vs1) p1 = some (.lst vs1) := upd_same
    replace s3 := s3.trans (s4.trans (Same.new (o := .lst vs1) hp1))
    replace hA := (hA.same s4).same (Same.new (o := .lst vs1) hp1)
    generalize upd H4 p1 (.lst vs1) = H5 at a1 hp11 s3 hA ⊢
    refine (evAll_cons pb_mono (ev_pone (xs := [.int 1, .bl true, .int 1]) (fun H Q h => h) rfl rfl rfl) (evAll_cons pb_mono (ev_pone (xs := [.str "1", .int 1, .int 1]) (fun H Q h => h) rfl rfl rfl) evAll_nil)) H5 _ fun vs2 H6 s6 l2 a2 => ⟨szle (by omega), fun p2 hp2 => ?_⟩
    have a12 : ∀ v ∈ vs1 ++ vs2, PB3 H6 v := fun v hv => (List.mem_append.mp hv).elim (fun q => (a1 v q).same s6) (a2 v)
    refine ⟨p1, p2, vs1, vs2, rfl, rfl, keepN (s6 _ _ hp11) hp2, upd_same, szle (by omega), fun p3 hp3 => ?_⟩
    have s63 := (Same.new (o := .lst vs2) hp2).trans (Same.new (o := .lst (vs1 ++ vs2)) hp3)
    replace a12 : ∀ v ∈ vs1 ++ vs2, PB3 (upd (upd H6 p2 (.lst vs2)) p3 (.lst (vs1 ++ vs2))) v := fun v hv => (a12 v hv).same s63
    have hp33 : upd (upd H6 p2 (.lst vs2)) p3 (.lst (vs1 ++ vs2)) p3 = some (.lst (vs1 ++ vs2)) := upd_same
    replace s3 := s3.trans (s6.trans s63)
    replace hA := (hA.same s6).same s63
    have ln : (vs1 ++ vs2).length ≤ 100 := by rw [List.length_append]; omega
    refine of_gName (of_nx ?_)
    show tSeq _ _ _ [some (.ref a), some (.int more), some (.ref t), some (.ref p3)] (upd (upd H6 p2 (.lst vs2)) p3 (.lst (vs1 ++ vs2)))
    generalize upd (upd H6 p2 (.lst vs2)) p3 (.lst (vs1 ++ vs2)) = H7 at a12 hp33 s3 hA ⊢
    generalize vs1 ++ vs2 = ps at a12 hp33 ln
    clear a1 a2 hp11 s6 s63
    refine of_seq (of_ifs (of_not (of_b (all_stepV (i := 3) [14, 15] rfl rfl hA (doors_lst (fun H Q h => h) (by decide)) hp33 ln (by decide) (fun v hv d hd => .people (by simpa using hd) (a12 v hv)) fun H8 s8 => ⟨true, rfl, ?_⟩))))
    refine iteF ?_
    replace hA := hA.same s8
    replace s3 := s3.trans s8
    clear s8
    refine of_next (of_seq (of_ifs (of_not (of_b (all_step (i := 0) (P := OffF 1 1000000) [16] rfl hA (doors_lst (fun H Q h => h) (by decide)) (evAll_cons offF_mono (ev_val (.int 0) (fun H Q h => h) (offF_int (.inl (by decide)))) (evAll_cons offF_mono (ev_val (.int (1000001 + more)) (fun H Q h => ⟨_, rfl, _, _, rfl, rfl, h⟩) (offF_int (.inr (by omega)))) (evAll_cons offF_mono (ev_val (.int (-1 - more)) (fun H Q h => ⟨_, rfl, _, rfl, _, _, rfl, rfl, h⟩) (offF_int (.inl (by omega)))) (evAll_cons offF_mono (ev_val (.bl true) (fun H Q h => h) (fun H => ⟨.bl _, rfl⟩)) (evAll_cons offF_mono (ev_val (.str "1") (fun H Q h => h) (fun H => ⟨.str _, rfl⟩)) (evAll_cons offF_mono (ev_val .non (fun H Q h => h) (fun H => ⟨.non, rfl⟩)) evAll_nil)))))) (by decide) (by decide) offF_mono (fun H v h d hd => by rw [List.mem_singleton.mp hd]; exact .len h.1 h.2) fun H5 s5 => ⟨true, rfl, ?_⟩)))))
    refine iteF ?_
    replace hA := hA.same s5
    replace s3 := s3.trans s5
    clear s5
    have T3 := Tabs.same hTb s3
    refine of_next (of_seq (of_ifs (of_or (of_test (of_op ?_)))))
    refine ⟨_, rfl, t, 12000000, 3, rs3, rfl, T3, hA, tree3, by decide, by decide, fun a1 l1 l2 ws cs H8 e8 T8 _ _ _ hO good => ?_⟩
    obtain ⟨dx1, hI⟩ := hO.ins
    refine ⟨a1, CW, dx1, _, _, rfl, hI, O.cl, O.n1, ofs_1 _ _ _ _, ?_⟩
    refine ⟨Nat.zero_le _, fun q hq => ⟨_, _, dp_ilist (keepN hO.h1 hq), dp_ilist (ns := []) upd_same, shaped_ints _, shaped_ints _, _, rfl, ?_⟩⟩
    have wne : ¬ ws = [] := fun e => by have := good.pos; rw [e] at this; exact absurd this (by decide)
    rw [eqv_il, decide_eq_false wne]
    refine iteF ?_
    have e8 := e8.trans (ExtN.same (Same.new (o := .lst []) hq))
    replace hA := hA.ext e8
    have T8 := Tabs.same T8 (Same.new (o := .lst []) hq)
    generalize upd H8 q (.lst []) = H9 at e8 hA T8 ⊢
    clear hO hI good hq
    refine of_test (of_op ?_)
    refine ⟨_, rfl, t, 12, 3, rs3, rfl, T8, hA, tree3, by decide, by decide, by decide, fun x H10 e10 T10 least => ?_⟩
    obtain rfl := least12 least
    refine ⟨rfl, ?_⟩
    refine ⟨_, rfl, ?_⟩
    refine iteF ?_
    replace hA := hA.ext e10
    -- walks
    refine of_next (of_seq (of_ifs (of_test (of_op (of_call (of_cons (of_var rfl (of_cons (of_lst ?_)))))))))
    refine ⟨by show 3 ≤ sizeLine; decide, fun pp hpp => ?_⟩
    have sp1 := Same.new (o := .lst [.int 1000000, .int 0, .int 0]) hpp
    refine ⟨t, pp, 3, rs3, [1000000, 0, 0], rfl, hA.same sp1, tree3, upd_same, rfl, fun x hx => ?_, fun d H11 hd s11 hd11 => ?_⟩
    · simp only [List.mem_cons, List.not_mem_nil, or_false] at hx
      rcases hx with rfl | rfl | rfl <;> exact ⟨by decide, by decide⟩
    rw [walks3] at hd11
    refine ⟨by show 3 ≤ sizeLine; decide, fun q2 hq2 => ⟨_, _, dp_ilist (keepN hd11 hq2), dp_ilist (ns := [0, 5000000, 12000000]) upd_same, shaped_ints _, shaped_ints _, ?_⟩⟩
    refine ⟨_, rfl, ?_⟩
    rw [eqv_il, decide_eq_true rfl]
    refine iteF ?_
    have s12 := (sp1.trans s11).trans (Same.new (o := .lst [.int 0, .int 5000000, .int 12000000]) hq2)
    replace hA := hA.same s12
    have T12 := Tabs.same T10 s12
    show tNext _ _ (upd H11 q2 (.lst [.int 0, .int 5000000, .int 12000000]))
    generalize upd H11 q2 (.lst [.int 0, .int 5000000, .int 12000000]) = H12 at s12 hA T12 ⊢
    clear hd11 hq2
    -- asked
    refine of_next (of_seq (of_ifs (of_or (of_test (of_op ?_)))))
    refine ⟨_, rfl, _, rfl, _, _, rfl, rfl, t, 17, .int (more + 3), 1, rfl, hA, .vil (by simp) (.int _) (off_int (i := more + 3) (lo := 0) (hi := 2) (.inr (by omega)) H).2, fun H13 s13 => ?_⟩
    refine ⟨rfl, ?_⟩
    refine ⟨_, rfl, ?_⟩
    refine iteF ?_
    replace hA := hA.same s13
    refine of_test (of_op ?_)
    refine ⟨_, rfl, t, 18, .non, 0, rfl, hA, .big, fun H14 s14 => ?_⟩
    refine ⟨rfl, ?_⟩
    refine ⟨_, rfl, ?_⟩
    refine iteF ?_
    replace hA := hA.same s14
    -- the end
    refine of_next (of_ret ?_)
    refine ⟨_, rfl, by show 2 ≤ sizeLine; decide, fun pl hpl => ?_⟩
    have s15 := Same.new (o := .lst [.int 0, .int 2]) hpl
    refine ⟨t, pl, 3, rs3, 0, 2, rfl, hA.same s15, tree3, upd_same, ⟨by decide, by decide⟩, ⟨by decide, by decide⟩, long3, fun H16 s16 => ?_⟩
    refine ⟨_, rfl, ?_⟩
    refine iteT ?_
    have s1216 := ((s13.trans s14).trans s15).trans s16
    refine of_op ?_
    refine ⟨_, rfl, t, 0, 3, rs3, rfl, Tabs.same T12 s1216, (hA.same s15).same s16, tree3, by decide, by decide, fun a2 k1 k2 ws2 cs2 H17 e17 T17 _ _ _ hO2 good2 => ?_⟩
    obtain ⟨dx2, hI2⟩ := hO2.ins
    obtain rfl := dug0 good2
    refine ⟨a2, CW, dx2, _, _, rfl, hI2, O.cl, O.n1, ofs_1 _ _ _ _, ?_⟩
    refine ⟨by show 3 ≤ sizeLine; decide, fun q3 hq3 => ⟨_, _, dp_ilist (keepN hO2.h1 hq3), dp_ilist (ns := [0, 1, 2]) upd_same, shaped_ints _, shaped_ints _, ?_⟩⟩
    rw [eqv_il, decide_eq_true rfl]
    exact k _
end
end Wr

namespace Wr
open PySem L2
theorem funC_mk {K : PySem.W.Frag} {x q : Str} {st : Stmt} {f c : Addr} {oc kV doc pm ct : Value} {od an : Option Addr} {osl : Array (Option Value)} (h : K.lookup f = some ⟨oc, od, .func (PySem.W.fnOf x q (defArgs st) (defBody st) (defScope st) .none kV doc pm an (.ref c) ct), osl⟩)
    (hc : PySem.W.codeIn K (.ref c) q = true) (hk : PySem.W.keepIn K (.ref f) = true) : FunC K x q st f (PySem.W.fnOf x q (defArgs st) (defBody st) (defScope st) .none kV doc pm an (.ref c) ct) c :=
  ⟨⟨oc, od, kV, doc, pm, an, ct, osl, rfl, h, hc⟩, hk⟩
theorem all_mk {l : PySem.W.OpenLaw} {w : World} {K : PySem.W.Frag} {h : Heap} {mg : Str → Option Value} {fa : Addr} (X : K.In h) (G : h.Ns mainGlobals mg) (hfa : mg "law" = some (.ref fa)) {PD cD : Addr} (hT : ∀ P ∈ [PD], h.get? P = some (PySem.W.tabObj #[]))
    {CT CW CBadTree CNoVillage CNoRoad CBadNumber CBadRow CRoadError fis_whole fwithin fis_road fwalked froads fvillage finit fdistances fcell finitX finitNo fvillageN fdistNo ffarN fwayN ftrip ferrandN flongNone flongN fWinit fcheckwalk fcheckwalkN fdug fdugN fdugNo fleast fleastN fpeople fwalks fpeopleN fwalksN fmediansN fsidesN fmovedN fjoinedN fask fsort fasked fall ftree ftrees flaw : Addr} {odis_whole anis_whole odwithin anwithin odis_road anis_road odwalked anwalked odroads anroads odvillage anvillage odinit aninit oddistances andistances odcell ancell odinitX aninitX odinitNo aninitNo odvillageN anvillageN oddistNo andistNo odfarN anfarN odwayN anwayN odtrip antrip oderrandN anerrandN odlongNone anlongNone odlongN anlongN odWinit anWinit odcheckwalk ancheckwalk odcheckwalkN ancheckwalkN oddug andug oddugN andugN oddugNo andugNo odleast anleast odleastN anleastN odpeople anpeople odwalks anwalks odpeopleN anpeopleN odwalksN anwalksN odmediansN anmediansN odsidesN ansidesN odmovedN anmovedN odjoinedN anjoinedN odask anask odsort ansort odasked anasked odall anall odtree antree odtrees antrees odlaw anlaw : Option Addr} {slis_whole slwithin slis_road slwalked slroads slvillage slinit sldistances slcell slinitX slinitNo slvillageN sldistNo slfarN slwayN sltrip slerrandN sllongNone sllongN slWinit slcheckwalk slcheckwalkN sldug sldugN sldugNo slleast slleastN slpeople slwalks slpeopleN slwalksN slmediansN slsidesN slmovedN sljoinedN slask slsort slasked slall sltree sltrees sllaw : Array (Option Value)} {ocis_whole kVis_whole dcis_whole pmis_whole ctis_whole cdis_whole ocwithin kVwithin dcwithin pmwithin ctwithin cdwithin ocis_road kVis_road dcis_road pmis_road ctis_road cdis_road ocwalked kVwalked dcwalked pmwalked ctwalked cdwalked ocroads kVroads dcroads pmroads ctroads cdroads ocvillage kVvillage dcvillage pmvillage ctvillage cdvillage ocinit kVinit dcinit pminit ctinit cdinit ocdistances kVdistances dcdistances pmdistances ctdistances cddistances occell kVcell dccell pmcell ctcell cdcell ocinitX kVinitX dcinitX pminitX ctinitX cdinitX ocinitNo kVinitNo dcinitNo pminitNo ctinitNo cdinitNo ocvillageN kVvillageN dcvillageN pmvillageN ctvillageN cdvillageN ocdistNo kVdistNo dcdistNo pmdistNo ctdistNo cddistNo ocfarN kVfarN dcfarN pmfarN ctfarN cdfarN ocwayN kVwayN dcwayN pmwayN ctwayN cdwayN octrip kVtrip dctrip pmtrip cttrip cdtrip ocerrandN kVerrandN dcerrandN pmerrandN cterrandN cderrandN oclongNone kVlongNone dclongNone pmlongNone ctlongNone cdlongNone oclongN kVlongN dclongN pmlongN ctlongN cdlongN ocWinit kVWinit dcWinit pmWinit ctWinit cdWinit occheckwalk kVcheckwalk dccheckwalk pmcheckwalk ctcheckwalk cdcheckwalk occheckwalkN kVcheckwalkN dccheckwalkN pmcheckwalkN ctcheckwalkN cdcheckwalkN ocdug kVdug dcdug pmdug ctdug ocdugN kVdugN dcdugN pmdugN ctdugN cddugN ocdugNo kVdugNo dcdugNo pmdugNo ctdugNo cddugNo ocleast kVleast dcleast pmleast ctleast cdleast ocleastN kVleastN dcleastN pmleastN ctleastN cdleastN ocpeople kVpeople dcpeople pmpeople ctpeople cdpeople ocwalks kVwalks dcwalks pmwalks ctwalks cdwalks ocpeopleN kVpeopleN dcpeopleN pmpeopleN ctpeopleN cdpeopleN ocwalksN kVwalksN dcwalksN pmwalksN ctwalksN cdwalksN ocmediansN kVmediansN dcmediansN pmmediansN ctmediansN cdmediansN ocsidesN kVsidesN dcsidesN pmsidesN ctsidesN cdsidesN ocmovedN kVmovedN dcmovedN pmmovedN ctmovedN cdmovedN ocjoinedN kVjoinedN dcjoinedN pmjoinedN ctjoinedN cdjoinedN ocask kVask dcask pmask ctask cdask ocsort kVsort dcsort pmsort ctsort cdsort ocasked kVasked dcasked pmasked ctasked cdasked ocall kVall dcall pmall ctall cdall octree kVtree dctree pmtree cttree cdtree octrees kVtrees dctrees pmtrees cttrees cdtrees oclaw kVlaw dclaw pmlaw ctlaw cdlaw : Value} {tMOST tLONGEST : Tok}
    (aCT : PySem.W.nsIn K mainGlobals "Tree" = some (some (.ref CT)))
    (pgT : PySem.W.plainGet K CT Str.empty = true)
    (hdT : PySem.W.hasDictIn K CT = true)
    (poT : PySem.W.plainOver K CT = true)
    (saT : PySem.W.findIn K (.ref CT) "__setattr__" = some (some (.builtin "object.__setattr__")))
    (mkT : PySem.W.makesIn K CT = true)
    (kcT : PySem.W.keepIn K (.ref CT) = true)
    (nT_size : PySem.W.findIn K (.ref CT) "size" = some none)
    (nT_rows : PySem.W.findIn K (.ref CT) "rows" = some none)
    (aCW : PySem.W.nsIn K mainGlobals "Wells" = some (some (.ref CW)))
    (pgW : PySem.W.plainGet K CW Str.empty = true)
    (hdW : PySem.W.hasDictIn K CW = true)
    (poW : PySem.W.plainOver K CW = true)
    (saW : PySem.W.findIn K (.ref CW) "__setattr__" = some (some (.builtin "object.__setattr__")))
    (mkW : PySem.W.makesIn K CW = true)
    (kcW : PySem.W.keepIn K (.ref CW) = true)
    (nW_wells : PySem.W.findIn K (.ref CW) "wells" = some none)
    (nW_callers : PySem.W.findIn K (.ref CW) "callers" = some none)
    (aCBadTree : PySem.W.nsIn K mainGlobals "BadTree" = some (some (.ref CBadTree)))
    (aCNoVillage : PySem.W.nsIn K mainGlobals "NoVillage" = some (some (.ref CNoVillage)))
    (aCNoRoad : PySem.W.nsIn K mainGlobals "NoRoad" = some (some (.ref CNoRoad)))
    (aCBadNumber : PySem.W.nsIn K mainGlobals "BadNumber" = some (some (.ref CBadNumber)))
    (aCBadRow : PySem.W.nsIn K mainGlobals "BadRow" = some (some (.ref CBadRow)))
    (aCRoadError : PySem.W.nsIn K mainGlobals "RoadError" = some (some (.ref CRoadError)))
    (aMOST : PySem.W.nsIn K mainGlobals "MOST" = some (some (.int 12 tMOST)))
    (aLONGEST : PySem.W.nsIn K mainGlobals "LONGEST" = some (some (.int 1000000 tLONGEST)))
    (ais_whole : PySem.W.nsIn K mainGlobals "is_whole" = some (some (.ref fis_whole)))
    (lis_whole : K.lookup fis_whole = some ⟨ocis_whole, odis_whole, .func (PySem.W.fnOf "is_whole" "is_whole" (defArgs S_is_whole) (defBody S_is_whole) (defScope S_is_whole) .none kVis_whole dcis_whole pmis_whole anis_whole cdis_whole ctis_whole), slis_whole⟩)
    (cis_whole : PySem.W.codeIn K cdis_whole "is_whole" = true)
    (kis_whole : PySem.W.keepIn K (.ref fis_whole) = true)
    (awithin : PySem.W.nsIn K mainGlobals "within" = some (some (.ref fwithin)))
    (lwithin : K.lookup fwithin = some ⟨ocwithin, odwithin, .func (PySem.W.fnOf "within" "within" (defArgs S_within) (defBody S_within) (defScope S_within) .none kVwithin dcwithin pmwithin anwithin cdwithin ctwithin), slwithin⟩)
    (cwithin : PySem.W.codeIn K cdwithin "within" = true)
    (kwithin : PySem.W.keepIn K (.ref fwithin) = true)
    (ais_road : PySem.W.nsIn K mainGlobals "is_road" = some (some (.ref fis_road)))
    (lis_road : K.lookup fis_road = some ⟨ocis_road, odis_road, .func (PySem.W.fnOf "is_road" "is_road" (defArgs S_is_road) (defBody S_is_road) (defScope S_is_road) .none kVis_road dcis_road pmis_road anis_road cdis_road ctis_road), slis_road⟩)
    (cis_road : PySem.W.codeIn K cdis_road "is_road" = true)
    (kis_road : PySem.W.keepIn K (.ref fis_road) = true)
    (awalked : PySem.W.findIn K (.ref CT) "walked" = some (some (.ref fwalked)))
    (iwalked : PySem.W.isFn K (.ref fwalked) = true)
    (lwalked : K.lookup fwalked = some ⟨ocwalked, odwalked, .func (PySem.W.fnOf "walked" "Tree.walked" (defArgs S_Tree_walked) (defBody S_Tree_walked) (defScope S_Tree_walked) .none kVwalked dcwalked pmwalked anwalked cdwalked ctwalked), slwalked⟩)
    (cwalked : PySem.W.codeIn K cdwalked "Tree.walked" = true)
    (kwalked : PySem.W.keepIn K (.ref fwalked) = true)
    (aroads : PySem.W.findIn K (.ref CT) "roads" = some (some (.ref froads)))
    (iroads : PySem.W.isFn K (.ref froads) = true)
    (lroads : K.lookup froads = some ⟨ocroads, odroads, .func (PySem.W.fnOf "roads" "Tree.roads" (defArgs S_Tree_roads) (defBody S_Tree_roads) (defScope S_Tree_roads) .none kVroads dcroads pmroads anroads cdroads ctroads), slroads⟩)
    (croads : PySem.W.codeIn K cdroads "Tree.roads" = true)
    (kroads : PySem.W.keepIn K (.ref froads) = true)
    (avillage : PySem.W.findIn K (.ref CT) "village" = some (some (.ref fvillage)))
    (ivillage : PySem.W.isFn K (.ref fvillage) = true)
    (lvillage : K.lookup fvillage = some ⟨ocvillage, odvillage, .func (PySem.W.fnOf "village" "Tree.village" (defArgs S_Tree_village) (defBody S_Tree_village) (defScope S_Tree_village) .none kVvillage dcvillage pmvillage anvillage cdvillage ctvillage), slvillage⟩)
    (cvillage : PySem.W.codeIn K cdvillage "Tree.village" = true)
    (kvillage : PySem.W.keepIn K (.ref fvillage) = true)
    (ainit : PySem.W.findIn K (.ref CT) "__init__" = some (some (.ref finit)))
    (iinit : PySem.W.isFn K (.ref finit) = true)
    (linit : K.lookup finit = some ⟨ocinit, odinit, .func (PySem.W.fnOf "__init__" "Tree.__init__" (defArgs S_Tree_init) (defBody S_Tree_init) (defScope S_Tree_init) .none kVinit dcinit pminit aninit cdinit ctinit), slinit⟩)
    (cinit : PySem.W.codeIn K cdinit "Tree.__init__" = true)
    (kinit : PySem.W.keepIn K (.ref finit) = true)
    (adistances : PySem.W.nsIn K mainGlobals "distances" = some (some (.ref fdistances)))
    (ldistances : K.lookup fdistances = some ⟨ocdistances, oddistances, .func (PySem.W.fnOf "distances" "distances" (defArgs S_distances) (defBody S_distances) (defScope S_distances) .none kVdistances dcdistances pmdistances andistances cddistances ctdistances), sldistances⟩)
    (cdistances : PySem.W.codeIn K cddistances "distances" = true)
    (kdistances : PySem.W.keepIn K (.ref fdistances) = true)
    (acell : PySem.W.nsIn K mainGlobals "_law_cell_at" = some (some (.ref fcell)))
    (lcell : K.lookup fcell = some ⟨occell, odcell, .func (PySem.W.fnOf "_law_cell_at" "_law_cell_at" (defArgs S_law_cell_at) (defBody S_law_cell_at) (defScope S_law_cell_at) .none kVcell dccell pmcell ancell cdcell ctcell), slcell⟩)
    (ccell : PySem.W.codeIn K cdcell "_law_cell_at" = true)
    (kcell : PySem.W.keepIn K (.ref fcell) = true)
    (ainitX : PySem.W.findIn K (.ref CT) "__init__" = some (some (.ref finitX)))
    (iinitX : PySem.W.isFn K (.ref finitX) = true)
    (linitX : K.lookup finitX = some ⟨ocinitX, odinitX, .func (PySem.W.fnOf "__init__" "Tree.__init__" (defArgs S_Tree_init) (defBody S_Tree_init) (defScope S_Tree_init) .none kVinitX dcinitX pminitX aninitX cdinitX ctinitX), slinitX⟩)
    (cinitX : PySem.W.codeIn K cdinitX "Tree.__init__" = true)
    (kinitX : PySem.W.keepIn K (.ref finitX) = true)
    (ainitNo : PySem.W.findIn K (.ref CT) "__init__" = some (some (.ref finitNo)))
    (iinitNo : PySem.W.isFn K (.ref finitNo) = true)
    (linitNo : K.lookup finitNo = some ⟨ocinitNo, odinitNo, .func (PySem.W.fnOf "__init__" "Tree.__init__" (defArgs S_Tree_init) (defBody S_Tree_init) (defScope S_Tree_init) .none kVinitNo dcinitNo pminitNo aninitNo cdinitNo ctinitNo), slinitNo⟩)
    (cinitNo : PySem.W.codeIn K cdinitNo "Tree.__init__" = true)
    (kinitNo : PySem.W.keepIn K (.ref finitNo) = true)
    (avillageN : PySem.W.findIn K (.ref CT) "village" = some (some (.ref fvillageN)))
    (ivillageN : PySem.W.isFn K (.ref fvillageN) = true)
    (lvillageN : K.lookup fvillageN = some ⟨ocvillageN, odvillageN, .func (PySem.W.fnOf "village" "Tree.village" (defArgs S_Tree_village) (defBody S_Tree_village) (defScope S_Tree_village) .none kVvillageN dcvillageN pmvillageN anvillageN cdvillageN ctvillageN), slvillageN⟩)
    (cvillageN : PySem.W.codeIn K cdvillageN "Tree.village" = true)
    (kvillageN : PySem.W.keepIn K (.ref fvillageN) = true)
    (adistNo : PySem.W.nsIn K mainGlobals "distances" = some (some (.ref fdistNo)))
    (ldistNo : K.lookup fdistNo = some ⟨ocdistNo, oddistNo, .func (PySem.W.fnOf "distances" "distances" (defArgs S_distances) (defBody S_distances) (defScope S_distances) .none kVdistNo dcdistNo pmdistNo andistNo cddistNo ctdistNo), sldistNo⟩)
    (cdistNo : PySem.W.codeIn K cddistNo "distances" = true)
    (kdistNo : PySem.W.keepIn K (.ref fdistNo) = true)
    (afarN : PySem.W.nsIn K mainGlobals "far" = some (some (.ref ffarN)))
    (lfarN : K.lookup ffarN = some ⟨ocfarN, odfarN, .func (PySem.W.fnOf "far" "far" (defArgs S_far) (defBody S_far) (defScope S_far) .none kVfarN dcfarN pmfarN anfarN cdfarN ctfarN), slfarN⟩)
    (cfarN : PySem.W.codeIn K cdfarN "far" = true)
    (kfarN : PySem.W.keepIn K (.ref ffarN) = true)
    (awayN : PySem.W.nsIn K mainGlobals "way" = some (some (.ref fwayN)))
    (lwayN : K.lookup fwayN = some ⟨ocwayN, odwayN, .func (PySem.W.fnOf "way" "way" (defArgs S_way) (defBody S_way) (defScope S_way) .none kVwayN dcwayN pmwayN anwayN cdwayN ctwayN), slwayN⟩)
    (cwayN : PySem.W.codeIn K cdwayN "way" = true)
    (kwayN : PySem.W.keepIn K (.ref fwayN) = true)
    (atrip : PySem.W.nsIn K mainGlobals "trip" = some (some (.ref ftrip)))
    (ltrip : K.lookup ftrip = some ⟨octrip, odtrip, .func (PySem.W.fnOf "trip" "trip" (defArgs S_trip) (defBody S_trip) (defScope S_trip) .none kVtrip dctrip pmtrip antrip cdtrip cttrip), sltrip⟩)
    (ctrip : PySem.W.codeIn K cdtrip "trip" = true)
    (ktrip : PySem.W.keepIn K (.ref ftrip) = true)
    (aerrandN : PySem.W.nsIn K mainGlobals "errand" = some (some (.ref ferrandN)))
    (lerrandN : K.lookup ferrandN = some ⟨ocerrandN, oderrandN, .func (PySem.W.fnOf "errand" "errand" (defArgs S_errand) (defBody S_errand) (defScope S_errand) .none kVerrandN dcerrandN pmerrandN anerrandN cderrandN cterrandN), slerrandN⟩)
    (cerrandN : PySem.W.codeIn K cderrandN "errand" = true)
    (kerrandN : PySem.W.keepIn K (.ref ferrandN) = true)
    (alongNone : PySem.W.nsIn K mainGlobals "long" = some (some (.ref flongNone)))
    (llongNone : K.lookup flongNone = some ⟨oclongNone, odlongNone, .func (PySem.W.fnOf "long" "long" (defArgs S_long) (defBody S_long) (defScope S_long) .none kVlongNone dclongNone pmlongNone anlongNone cdlongNone ctlongNone), sllongNone⟩)
    (clongNone : PySem.W.codeIn K cdlongNone "long" = true)
    (klongNone : PySem.W.keepIn K (.ref flongNone) = true)
    (alongN : PySem.W.nsIn K mainGlobals "long" = some (some (.ref flongN)))
    (llongN : K.lookup flongN = some ⟨oclongN, odlongN, .func (PySem.W.fnOf "long" "long" (defArgs S_long) (defBody S_long) (defScope S_long) .none kVlongN dclongN pmlongN anlongN cdlongN ctlongN), sllongN⟩)
    (clongN : PySem.W.codeIn K cdlongN "long" = true)
    (klongN : PySem.W.keepIn K (.ref flongN) = true)
    (aWinit : PySem.W.findIn K (.ref CW) "__init__" = some (some (.ref fWinit)))
    (iWinit : PySem.W.isFn K (.ref fWinit) = true)
    (lWinit : K.lookup fWinit = some ⟨ocWinit, odWinit, .func (PySem.W.fnOf "__init__" "Wells.__init__" (defArgs S_Wells_init) (defBody S_Wells_init) (defScope S_Wells_init) .none kVWinit dcWinit pmWinit anWinit cdWinit ctWinit), slWinit⟩)
    (cWinit : PySem.W.codeIn K cdWinit "Wells.__init__" = true)
    (kWinit : PySem.W.keepIn K (.ref fWinit) = true)
    (acheckwalk : PySem.W.nsIn K mainGlobals "check_walk" = some (some (.ref fcheckwalk)))
    (lcheckwalk : K.lookup fcheckwalk = some ⟨occheckwalk, odcheckwalk, .func (PySem.W.fnOf "check_walk" "check_walk" (defArgs S_check_walk) (defBody S_check_walk) (defScope S_check_walk) .none kVcheckwalk dccheckwalk pmcheckwalk ancheckwalk cdcheckwalk ctcheckwalk), slcheckwalk⟩)
    (ccheckwalk : PySem.W.codeIn K cdcheckwalk "check_walk" = true)
    (kcheckwalk : PySem.W.keepIn K (.ref fcheckwalk) = true)
    (acheckwalkN : PySem.W.nsIn K mainGlobals "check_walk" = some (some (.ref fcheckwalkN)))
    (lcheckwalkN : K.lookup fcheckwalkN = some ⟨occheckwalkN, odcheckwalkN, .func (PySem.W.fnOf "check_walk" "check_walk" (defArgs S_check_walk) (defBody S_check_walk) (defScope S_check_walk) .none kVcheckwalkN dccheckwalkN pmcheckwalkN ancheckwalkN cdcheckwalkN ctcheckwalkN), slcheckwalkN⟩)
    (ccheckwalkN : PySem.W.codeIn K cdcheckwalkN "check_walk" = true)
    (kcheckwalkN : PySem.W.keepIn K (.ref fcheckwalkN) = true)
    (adug : PySem.W.nsIn K mainGlobals "dug" = some (some (.ref fdug)))
    (ldug : K.lookup fdug = some ⟨ocdug, oddug, .func (PySem.W.fnOf "dug" "dug" (defArgs S_dug) (defBody S_dug) (defScope S_dug) .none kVdug dcdug pmdug andug (.ref cD) ctdug), sldug⟩)
    (cdug : PySem.W.codeIn K (.ref cD) "dug" = true)
    (kdug : PySem.W.keepIn K (.ref fdug) = true)
    (adugN : PySem.W.nsIn K mainGlobals "dug" = some (some (.ref fdugN)))
    (ldugN : K.lookup fdugN = some ⟨ocdugN, oddugN, .func (PySem.W.fnOf "dug" "dug" (defArgs S_dug) (defBody S_dug) (defScope S_dug) .none kVdugN dcdugN pmdugN andugN cddugN ctdugN), sldugN⟩)
    (cdugN : PySem.W.codeIn K cddugN "dug" = true)
    (kdugN : PySem.W.keepIn K (.ref fdugN) = true)
    (adugNo : PySem.W.nsIn K mainGlobals "dug" = some (some (.ref fdugNo)))
    (ldugNo : K.lookup fdugNo = some ⟨ocdugNo, oddugNo, .func (PySem.W.fnOf "dug" "dug" (defArgs S_dug) (defBody S_dug) (defScope S_dug) .none kVdugNo dcdugNo pmdugNo andugNo cddugNo ctdugNo), sldugNo⟩)
    (cdugNo : PySem.W.codeIn K cddugNo "dug" = true)
    (kdugNo : PySem.W.keepIn K (.ref fdugNo) = true)
    (aleast : PySem.W.nsIn K mainGlobals "least_walk" = some (some (.ref fleast)))
    (lleast : K.lookup fleast = some ⟨ocleast, odleast, .func (PySem.W.fnOf "least_walk" "least_walk" (defArgs S_least_walk) (defBody S_least_walk) (defScope S_least_walk) .none kVleast dcleast pmleast anleast cdleast ctleast), slleast⟩)
    (cleast : PySem.W.codeIn K cdleast "least_walk" = true)
    (kleast : PySem.W.keepIn K (.ref fleast) = true)
    (aleastN : PySem.W.nsIn K mainGlobals "least_walk" = some (some (.ref fleastN)))
    (lleastN : K.lookup fleastN = some ⟨ocleastN, odleastN, .func (PySem.W.fnOf "least_walk" "least_walk" (defArgs S_least_walk) (defBody S_least_walk) (defScope S_least_walk) .none kVleastN dcleastN pmleastN anleastN cdleastN ctleastN), slleastN⟩)
    (cleastN : PySem.W.codeIn K cdleastN "least_walk" = true)
    (kleastN : PySem.W.keepIn K (.ref fleastN) = true)
    (apeople : PySem.W.nsIn K mainGlobals "check_people" = some (some (.ref fpeople)))
    (lpeople : K.lookup fpeople = some ⟨ocpeople, odpeople, .func (PySem.W.fnOf "check_people" "check_people" (defArgs S_check_people) (defBody S_check_people) (defScope S_check_people) .none kVpeople dcpeople pmpeople anpeople cdpeople ctpeople), slpeople⟩)
    (cpeople : PySem.W.codeIn K cdpeople "check_people" = true)
    (kpeople : PySem.W.keepIn K (.ref fpeople) = true)
    (awalks : PySem.W.nsIn K mainGlobals "walks" = some (some (.ref fwalks)))
    (lwalks : K.lookup fwalks = some ⟨ocwalks, odwalks, .func (PySem.W.fnOf "walks" "walks" (defArgs S_walks) (defBody S_walks) (defScope S_walks) .none kVwalks dcwalks pmwalks anwalks cdwalks ctwalks), slwalks⟩)
    (cwalks : PySem.W.codeIn K cdwalks "walks" = true)
    (kwalks : PySem.W.keepIn K (.ref fwalks) = true)
    (apeopleN : PySem.W.nsIn K mainGlobals "check_people" = some (some (.ref fpeopleN)))
    (lpeopleN : K.lookup fpeopleN = some ⟨ocpeopleN, odpeopleN, .func (PySem.W.fnOf "check_people" "check_people" (defArgs S_check_people) (defBody S_check_people) (defScope S_check_people) .none kVpeopleN dcpeopleN pmpeopleN anpeopleN cdpeopleN ctpeopleN), slpeopleN⟩)
    (cpeopleN : PySem.W.codeIn K cdpeopleN "check_people" = true)
    (kpeopleN : PySem.W.keepIn K (.ref fpeopleN) = true)
    (awalksN : PySem.W.nsIn K mainGlobals "walks" = some (some (.ref fwalksN)))
    (lwalksN : K.lookup fwalksN = some ⟨ocwalksN, odwalksN, .func (PySem.W.fnOf "walks" "walks" (defArgs S_walks) (defBody S_walks) (defScope S_walks) .none kVwalksN dcwalksN pmwalksN anwalksN cdwalksN ctwalksN), slwalksN⟩)
    (cwalksN : PySem.W.codeIn K cdwalksN "walks" = true)
    (kwalksN : PySem.W.keepIn K (.ref fwalksN) = true)
    (amediansN : PySem.W.nsIn K mainGlobals "medians" = some (some (.ref fmediansN)))
    (lmediansN : K.lookup fmediansN = some ⟨ocmediansN, odmediansN, .func (PySem.W.fnOf "medians" "medians" (defArgs S_medians) (defBody S_medians) (defScope S_medians) .none kVmediansN dcmediansN pmmediansN anmediansN cdmediansN ctmediansN), slmediansN⟩)
    (cmediansN : PySem.W.codeIn K cdmediansN "medians" = true)
    (kmediansN : PySem.W.keepIn K (.ref fmediansN) = true)
    (asidesN : PySem.W.nsIn K mainGlobals "sides" = some (some (.ref fsidesN)))
    (lsidesN : K.lookup fsidesN = some ⟨ocsidesN, odsidesN, .func (PySem.W.fnOf "sides" "sides" (defArgs S_sides) (defBody S_sides) (defScope S_sides) .none kVsidesN dcsidesN pmsidesN ansidesN cdsidesN ctsidesN), slsidesN⟩)
    (csidesN : PySem.W.codeIn K cdsidesN "sides" = true)
    (ksidesN : PySem.W.keepIn K (.ref fsidesN) = true)
    (amovedN : PySem.W.nsIn K mainGlobals "moved" = some (some (.ref fmovedN)))
    (lmovedN : K.lookup fmovedN = some ⟨ocmovedN, odmovedN, .func (PySem.W.fnOf "moved" "moved" (defArgs S_moved) (defBody S_moved) (defScope S_moved) .none kVmovedN dcmovedN pmmovedN anmovedN cdmovedN ctmovedN), slmovedN⟩)
    (cmovedN : PySem.W.codeIn K cdmovedN "moved" = true)
    (kmovedN : PySem.W.keepIn K (.ref fmovedN) = true)
    (ajoinedN : PySem.W.nsIn K mainGlobals "joined" = some (some (.ref fjoinedN)))
    (ljoinedN : K.lookup fjoinedN = some ⟨ocjoinedN, odjoinedN, .func (PySem.W.fnOf "joined" "joined" (defArgs S_joined) (defBody S_joined) (defScope S_joined) .none kVjoinedN dcjoinedN pmjoinedN anjoinedN cdjoinedN ctjoinedN), sljoinedN⟩)
    (cjoinedN : PySem.W.codeIn K cdjoinedN "joined" = true)
    (kjoinedN : PySem.W.keepIn K (.ref fjoinedN) = true)
    (aask : PySem.W.nsIn K mainGlobals "_law_ask" = some (some (.ref fask)))
    (lask : K.lookup fask = some ⟨ocask, odask, .func (PySem.W.fnOf "_law_ask" "_law_ask" (defArgs S_law_ask) (defBody S_law_ask) (defScope S_law_ask) .none kVask dcask pmask anask cdask ctask), slask⟩)
    (cask : PySem.W.codeIn K cdask "_law_ask" = true)
    (kask : PySem.W.keepIn K (.ref fask) = true)
    (asort : PySem.W.nsIn K mainGlobals "_law_sort" = some (some (.ref fsort)))
    (lsort : K.lookup fsort = some ⟨ocsort, odsort, .func (PySem.W.fnOf "_law_sort" "_law_sort" (defArgs S_law_sort) (defBody S_law_sort) (defScope S_law_sort) .none kVsort dcsort pmsort ansort cdsort ctsort), slsort⟩)
    (csort : PySem.W.codeIn K cdsort "_law_sort" = true)
    (ksort : PySem.W.keepIn K (.ref fsort) = true)
    (aasked : PySem.W.nsIn K mainGlobals "_law_asked" = some (some (.ref fasked)))
    (lasked : K.lookup fasked = some ⟨ocasked, odasked, .func (PySem.W.fnOf "_law_asked" "_law_asked" (defArgs S_law_asked) (defBody S_law_asked) (defScope S_law_asked) .none kVasked dcasked pmasked anasked cdasked ctasked), slasked⟩)
    (casked : PySem.W.codeIn K cdasked "_law_asked" = true)
    (kasked : PySem.W.keepIn K (.ref fasked) = true)
    (aall : PySem.W.nsIn K mainGlobals "_law_all" = some (some (.ref fall)))
    (lall : K.lookup fall = some ⟨ocall, odall, .func (PySem.W.fnOf "_law_all" "_law_all" (defArgs S_law_all) (defBody S_law_all) (defScope S_law_all) .none kVall dcall pmall anall cdall ctall), slall⟩)
    (call : PySem.W.codeIn K cdall "_law_all" = true)
    (kall : PySem.W.keepIn K (.ref fall) = true)
    (atree : PySem.W.nsIn K mainGlobals "_law_tree" = some (some (.ref ftree)))
    (ltree : K.lookup ftree = some ⟨octree, odtree, .func (PySem.W.fnOf "_law_tree" "_law_tree" (defArgs S_law_tree) (defBody S_law_tree) (defScope S_law_tree) .none kVtree dctree pmtree antree cdtree cttree), sltree⟩)
    (ctree : PySem.W.codeIn K cdtree "_law_tree" = true)
    (ktree : PySem.W.keepIn K (.ref ftree) = true)
    (atrees : PySem.W.nsIn K mainGlobals "_law_trees" = some (some (.ref ftrees)))
    (ltrees : K.lookup ftrees = some ⟨octrees, odtrees, .func (PySem.W.fnOf "_law_trees" "_law_trees" (defArgs S_law_trees) (defBody S_law_trees) (defScope S_law_trees) .none kVtrees dctrees pmtrees antrees cdtrees cttrees), sltrees⟩)
    (ctrees : PySem.W.codeIn K cdtrees "_law_trees" = true)
    (ktrees : PySem.W.keepIn K (.ref ftrees) = true)
    (alaw : PySem.W.nsIn K mainGlobals "law" = some (some (.ref flaw)))
    (llaw : K.lookup flaw = some ⟨oclaw, odlaw, .func (PySem.W.fnOf "law" "law" (defArgs S_law) (defBody S_law) (defScope S_law) .none kVlaw dclaw pmlaw anlaw cdlaw ctlaw), sllaw⟩)
    (claw : PySem.W.codeIn K cdlaw "law" = true)
    (klaw : PySem.W.keepIn K (.ref flaw) = true)
    (xBadTree : PySem.W.excIn K CBadTree [.type "ValueError", .type "Exception", .type "BaseException", .type "object"] "ValueError.__new__" = true)
    (kBadTree : PySem.W.keepIn K (.ref CBadTree) = true)
    (bBadTree : PySem.W.subIn K (.ref CBadTree) (.type "BaseException") = some true)
    (tBadTree : PySem.W.typeIn K (.ref CBadTree) = some (.type "type"))
    (xNoVillage : PySem.W.excIn K CNoVillage [.type "ValueError", .type "Exception", .type "BaseException", .type "object"] "ValueError.__new__" = true)
    (kNoVillage : PySem.W.keepIn K (.ref CNoVillage) = true)
    (bNoVillage : PySem.W.subIn K (.ref CNoVillage) (.type "BaseException") = some true)
    (tNoVillage : PySem.W.typeIn K (.ref CNoVillage) = some (.type "type"))
    (xNoRoad : PySem.W.excIn K CNoRoad [.type "ValueError", .type "Exception", .type "BaseException", .type "object"] "ValueError.__new__" = true)
    (kNoRoad : PySem.W.keepIn K (.ref CNoRoad) = true)
    (bNoRoad : PySem.W.subIn K (.ref CNoRoad) (.type "BaseException") = some true)
    (tNoRoad : PySem.W.typeIn K (.ref CNoRoad) = some (.type "type"))
    (xBadNumber : PySem.W.excIn K CBadNumber [.type "ValueError", .type "Exception", .type "BaseException", .type "object"] "ValueError.__new__" = true)
    (kBadNumber : PySem.W.keepIn K (.ref CBadNumber) = true)
    (bBadNumber : PySem.W.subIn K (.ref CBadNumber) (.type "BaseException") = some true)
    (tBadNumber : PySem.W.typeIn K (.ref CBadNumber) = some (.type "type"))
    (egBadTree : PySem.W.findIn K (.ref CBadTree) "__getattribute__" = some (some (.builtin "BaseException.__getattribute__")))
    (ekBadTree : PySem.W.findIn K (.ref CBadTree) "__getattr__" = some none)
    (esBadTree : PySem.W.subIn K (.ref CBadTree) (.type "BaseException") = some true)
    (edBadTree : PySem.W.hasDictIn K CBadTree = true)
    (eaBadTree : PySem.W.findIn K (.ref CBadTree) "__class__" = some (some (.builtin "object.__class__")))
    (emBadTree : PySem.W.mroIn K CBadTree (.type "object") = some true)
    (egNoVillage : PySem.W.findIn K (.ref CNoVillage) "__getattribute__" = some (some (.builtin "BaseException.__getattribute__")))
    (ekNoVillage : PySem.W.findIn K (.ref CNoVillage) "__getattr__" = some none)
    (esNoVillage : PySem.W.subIn K (.ref CNoVillage) (.type "BaseException") = some true)
    (edNoVillage : PySem.W.hasDictIn K CNoVillage = true)
    (eaNoVillage : PySem.W.findIn K (.ref CNoVillage) "__class__" = some (some (.builtin "object.__class__")))
    (emNoVillage : PySem.W.mroIn K CNoVillage (.type "object") = some true)
    (egNoRoad : PySem.W.findIn K (.ref CNoRoad) "__getattribute__" = some (some (.builtin "BaseException.__getattribute__")))
    (ekNoRoad : PySem.W.findIn K (.ref CNoRoad) "__getattr__" = some none)
    (esNoRoad : PySem.W.subIn K (.ref CNoRoad) (.type "BaseException") = some true)
    (edNoRoad : PySem.W.hasDictIn K CNoRoad = true)
    (eaNoRoad : PySem.W.findIn K (.ref CNoRoad) "__class__" = some (some (.builtin "object.__class__")))
    (emNoRoad : PySem.W.mroIn K CNoRoad (.type "object") = some true)
    (egBadNumber : PySem.W.findIn K (.ref CBadNumber) "__getattribute__" = some (some (.builtin "BaseException.__getattribute__")))
    (ekBadNumber : PySem.W.findIn K (.ref CBadNumber) "__getattr__" = some none)
    (esBadNumber : PySem.W.subIn K (.ref CBadNumber) (.type "BaseException") = some true)
    (edBadNumber : PySem.W.hasDictIn K CBadNumber = true)
    (eaBadNumber : PySem.W.findIn K (.ref CBadNumber) "__class__" = some (some (.builtin "object.__class__")))
    (emBadNumber : PySem.W.mroIn K CBadNumber (.type "object") = some true)
    (enBadTree : PySem.W.specialIn K (.builtin "object.__class__") "__get__" = some (some (.builtin "getset_descriptor.__get__")))
    (etBadTree : PySem.W.takesIn K (.builtin "object.__class__") = some true)
    (ebR : PySem.W.subIn K (.ref CRoadError) (.type "BaseException") = some true)
    (ehR : PySem.W.hasDictIn K CRoadError = true)
    (eyR : PySem.W.typeIn K (.ref CRoadError) = some (.type "type"))
    (erBadTree : PySem.W.subIn K (.ref CBadTree) (.ref CRoadError) = some true)
    (erNoVillage : PySem.W.subIn K (.ref CNoVillage) (.ref CRoadError) = some true)
    (erNoRoad : PySem.W.subIn K (.ref CNoRoad) (.ref CRoadError) = some true)
    (erBadNumber : PySem.W.subIn K (.ref CBadNumber) (.ref CRoadError) = some true)
    (q00 : PySem.W.kitOne K (.ref CBadTree) (.ref CBadTree) = some true)
    (q01 : PySem.W.kitOne K (.ref CBadTree) (.ref CNoVillage) = some false)
    (q02 : PySem.W.kitOne K (.ref CBadTree) (.ref CNoRoad) = some false)
    (q03 : PySem.W.kitOne K (.ref CBadTree) (.ref CBadNumber) = some false)
    (q04 : PySem.W.kitOne K (.ref CBadTree) (.ref CBadRow) = some false)
    (qv0 : PySem.W.kitOne K (.ref CBadTree) (.type "ValueError") = some true)
    (q10 : PySem.W.kitOne K (.ref CNoVillage) (.ref CBadTree) = some false)
    (q11 : PySem.W.kitOne K (.ref CNoVillage) (.ref CNoVillage) = some true)
    (q12 : PySem.W.kitOne K (.ref CNoVillage) (.ref CNoRoad) = some false)
    (q13 : PySem.W.kitOne K (.ref CNoVillage) (.ref CBadNumber) = some false)
    (q14 : PySem.W.kitOne K (.ref CNoVillage) (.ref CBadRow) = some false)
    (qv1 : PySem.W.kitOne K (.ref CNoVillage) (.type "ValueError") = some true)
    (q20 : PySem.W.kitOne K (.ref CNoRoad) (.ref CBadTree) = some false)
    (q21 : PySem.W.kitOne K (.ref CNoRoad) (.ref CNoVillage) = some false)
    (q22 : PySem.W.kitOne K (.ref CNoRoad) (.ref CNoRoad) = some true)
    (q23 : PySem.W.kitOne K (.ref CNoRoad) (.ref CBadNumber) = some false)
    (q24 : PySem.W.kitOne K (.ref CNoRoad) (.ref CBadRow) = some false)
    (qv2 : PySem.W.kitOne K (.ref CNoRoad) (.type "ValueError") = some true)
    (q30 : PySem.W.kitOne K (.ref CBadNumber) (.ref CBadTree) = some false)
    (q31 : PySem.W.kitOne K (.ref CBadNumber) (.ref CNoVillage) = some false)
    (q32 : PySem.W.kitOne K (.ref CBadNumber) (.ref CNoRoad) = some false)
    (q33 : PySem.W.kitOne K (.ref CBadNumber) (.ref CBadNumber) = some true)
    (q34 : PySem.W.kitOne K (.ref CBadNumber) (.ref CBadRow) = some false)
    (qv3 : PySem.W.kitOne K (.ref CBadNumber) (.type "ValueError") = some true)
    (zVE : PySem.W.nsIn K mainGlobals "ValueError" = some none)
    (tlk : K.lookup PD = none)
    (thd : PySem.W.codeHdIn K cD PD = true)
    (zlen : PySem.W.nsIn K mainGlobals "len" = some none)
    (zisinstance : PySem.W.nsIn K mainGlobals "isinstance" = some none)
    (zlist : PySem.W.nsIn K mainGlobals "list" = some none)
    (zint : PySem.W.nsIn K mainGlobals "int" = some none)
    (zbool : PySem.W.nsIn K mainGlobals "bool" = some none)
    (ztuple : PySem.W.nsIn K mainGlobals "tuple" = some none)
    (zrange : PySem.W.nsIn K mainGlobals "range" = some none)
    (zset : PySem.W.nsIn K mainGlobals "set" = some none)
    (zsorted : PySem.W.nsIn K mainGlobals "sorted" = some none)
    (zsum : PySem.W.nsIn K mainGlobals "sum" = some none)
    (zmax : PySem.W.nsIn K mainGlobals "max" = some none)
    (zmin : PySem.W.nsIn K mainGlobals "min" = some none)
    (zany : PySem.W.nsIn K mainGlobals "any" = some none)
    (zall : PySem.W.nsIn K mainGlobals "all" = some none)
    (zreversed : PySem.W.nsIn K mainGlobals "reversed" = some none)
    (zstr : PySem.W.nsIn K mainGlobals "str" = some none)
    : LamX.LawAtS l w K CX0 10 63 "_law_script" mg fa h := by
  have e := hfa.symm.trans (PySem.W.mg_of X G alaw)
  cases e
  have B : Bi mg := ⟨PySem.W.mg_none_of X G zlen, PySem.W.mg_none_of X G zisinstance, PySem.W.mg_none_of X G zlist, PySem.W.mg_none_of X G zint, PySem.W.mg_none_of X G zbool, PySem.W.mg_none_of X G ztuple, PySem.W.mg_none_of X G zrange, PySem.W.mg_none_of X G zset, PySem.W.mg_none_of X G zsorted, PySem.W.mg_none_of X G zsum, PySem.W.mg_none_of X G zmax, PySem.W.mg_none_of X G zmin, PySem.W.mg_none_of X G zany, PySem.W.mg_none_of X G zall, PySem.W.mg_none_of X G zreversed, PySem.W.mg_none_of X G zstr⟩
  have F_is_whole := fun_mk (st := S_is_whole) lis_whole cis_whole kis_whole
  have F_within := fun_mk (st := S_within) lwithin cwithin kwithin
  have F_is_road := fun_mk (st := S_is_road) lis_road cis_road kis_road
  have F_walked := fun_mk (st := S_Tree_walked) lwalked cwalked kwalked
  have F_roads := fun_mk (st := S_Tree_roads) lroads croads kroads
  have F_village := fun_mk (st := S_Tree_village) lvillage cvillage kvillage
  have F_init := fun_mk (st := S_Tree_init) linit cinit kinit
  have F_distances := fun_mk (st := S_distances) ldistances cdistances kdistances
  have F_cell := fun_mk (st := S_law_cell_at) lcell ccell kcell
  have F_initX := fun_mk (st := S_Tree_init) linitX cinitX kinitX
  have F_initNo := fun_mk (st := S_Tree_init) linitNo cinitNo kinitNo
  have F_villageN := fun_mk (st := S_Tree_village) lvillageN cvillageN kvillageN
  have F_distNo := fun_mk (st := S_distances) ldistNo cdistNo kdistNo
  have F_farN := fun_mk (st := S_far) lfarN cfarN kfarN
  have F_wayN := fun_mk (st := S_way) lwayN cwayN kwayN
  have F_trip := fun_mk (st := S_trip) ltrip ctrip ktrip
  have F_errandN := fun_mk (st := S_errand) lerrandN cerrandN kerrandN
  have F_longNone := fun_mk (st := S_long) llongNone clongNone klongNone
  have F_longN := fun_mk (st := S_long) llongN clongN klongN
  have F_Winit := fun_mk (st := S_Wells_init) lWinit cWinit kWinit
  have F_checkwalk := fun_mk (st := S_check_walk) lcheckwalk ccheckwalk kcheckwalk
  have F_checkwalkN := fun_mk (st := S_check_walk) lcheckwalkN ccheckwalkN kcheckwalkN
  have F_dug := funC_mk (st := S_dug) ldug cdug kdug
  have F_dugN := fun_mk (st := S_dug) ldugN cdugN kdugN
  have F_dugNo := fun_mk (st := S_dug) ldugNo cdugNo kdugNo
  have F_least := fun_mk (st := S_least_walk) lleast cleast kleast
  have F_leastN := fun_mk (st := S_least_walk) lleastN cleastN kleastN
  have F_people := fun_mk (st := S_check_people) lpeople cpeople kpeople
  have F_walks := fun_mk (st := S_walks) lwalks cwalks kwalks
  have F_peopleN := fun_mk (st := S_check_people) lpeopleN cpeopleN kpeopleN
  have F_walksN := fun_mk (st := S_walks) lwalksN cwalksN kwalksN
  have F_mediansN := fun_mk (st := S_medians) lmediansN cmediansN kmediansN
  have F_sidesN := fun_mk (st := S_sides) lsidesN csidesN ksidesN
  have F_movedN := fun_mk (st := S_moved) lmovedN cmovedN kmovedN
  have F_joinedN := fun_mk (st := S_joined) ljoinedN cjoinedN kjoinedN
  have F_ask := fun_mk (st := S_law_ask) lask cask kask
  have F_sort := fun_mk (st := S_law_sort) lsort csort ksort
  have F_asked := fun_mk (st := S_law_asked) lasked casked kasked
  have F_all := fun_mk (st := S_law_all) lall call kall
  have F_tree := fun_mk (st := S_law_tree) ltree ctree ktree
  have F_trees := fun_mk (st := S_law_trees) ltrees ctrees ktrees
  have F_law := fun_mk (st := S_law) llaw claw klaw
  refine ⟨PySem.W.fnOf "law" "law" (defArgs S_law) (defBody S_law) (defScope S_law) .none kVlaw dclaw pmlaw anlaw cdlaw ctlaw, [(cD, PD)], spLaw K PD, fun p hp => by rw [List.mem_singleton.mp hp]; exact hT PD (List.mem_singleton.mpr rfl), fun p hp => by rw [List.mem_singleton.mp hp]; exact tlk, fun p hp => by rw [List.mem_singleton.mp hp]; exact PySem.W.codeHd_of_K X thd, fun s v => .of_eq rfl, fun H a ns hl _ hc hS => ⟨a, ns, rfl, hc (cD, PD) (List.mem_singleton.mpr rfl), hS, hl, fun _ => rfl⟩, fun base _ _ hTB => ?_⟩
  have TB := hTB (cD, PD) (List.mem_singleton.mpr rfl)
  have T : Tx K mg CT := ⟨⟨pgT, hdT, poT, saT⟩, nT_size, nT_rows⟩
  have mM : ∃ t, mg "MOST" = some (.int 12 t) := ⟨_, PySem.W.mg_of X G aMOST⟩
  have mL : ∃ t, mg "LONGEST" = some (.int 1000000 t) := ⟨_, PySem.W.mg_of X G aLONGEST⟩
  have O : Ox K CW "wells" "callers" := ⟨⟨pgW, hdW, poW, saW⟩, nW_wells, nW_callers, by decide +kernel⟩
  have m_ValueError := PySem.W.mg_none_of X G zVE
  have X_BadTree : Xc K mg "BadTree" CBadTree := ⟨PySem.W.mg_of X G aCBadTree, xBadTree, kBadTree, bBadTree, tBadTree⟩
  have X_NoVillage : Xc K mg "NoVillage" CNoVillage := ⟨PySem.W.mg_of X G aCNoVillage, xNoVillage, kNoVillage, bNoVillage, tNoVillage⟩
  have X_NoRoad : Xc K mg "NoRoad" CNoRoad := ⟨PySem.W.mg_of X G aCNoRoad, xNoRoad, kNoRoad, bNoRoad, tNoRoad⟩
  have X_BadNumber : Xc K mg "BadNumber" CBadNumber := ⟨PySem.W.mg_of X G aCBadNumber, xBadNumber, kBadNumber, bBadNumber, tBadNumber⟩
  have EC_BadTree : ExcC K CBadTree := ⟨egBadTree, ekBadTree, esBadTree, edBadTree, eaBadTree, enBadTree, etBadTree, emBadTree⟩
  have EC_NoVillage : ExcC K CNoVillage := ⟨egNoVillage, ekNoVillage, esNoVillage, edNoVillage, eaNoVillage, enBadTree, etBadTree, emNoVillage⟩
  have EC_NoRoad : ExcC K CNoRoad := ⟨egNoRoad, ekNoRoad, esNoRoad, edNoRoad, eaNoRoad, enBadTree, etBadTree, emNoRoad⟩
  have EC_BadNumber : ExcC K CBadNumber := ⟨egBadNumber, ekBadNumber, esBadNumber, edBadNumber, eaBadNumber, enBadTree, etBadTree, emBadNumber⟩
  have SC0 : SortC K CBadTree CNoVillage CNoRoad CBadNumber CBadRow CBadTree 0 := ⟨EC_BadTree, by decide, q00, q01, q02, q03, q04, qv0⟩
  have SC1 : SortC K CBadTree CNoVillage CNoRoad CBadNumber CBadRow CNoVillage 1 := ⟨EC_NoVillage, by decide, q10, q11, q12, q13, q14, qv1⟩
  have SC2 : SortC K CBadTree CNoVillage CNoRoad CBadNumber CBadRow CNoRoad 2 := ⟨EC_NoRoad, by decide, q20, q21, q22, q23, q24, qv2⟩
  have SC3 : SortC K CBadTree CNoVillage CNoRoad CBadNumber CBadRow CBadNumber 3 := ⟨EC_BadNumber, by decide, q30, q31, q32, q33, q34, qv3⟩
  have RF : Refs K CBadTree CNoVillage CNoRoad CBadNumber CBadRow CRoadError := ⟨fun i hi => match i, hi with | 0, _ => SC0 | 1, _ => SC1 | 2, _ => SC2 | 3, _ => SC3,
    fun i hi => match i, hi with | 0, _ => PySem.W.exm_ref ebR ehR eyR erBadTree | 1, _ => PySem.W.exm_ref ebR ehR eyR erNoVillage | 2, _ => PySem.W.exm_ref ebR ehR eyR erNoRoad | 3, _ => PySem.W.exm_ref ebR ehR eyR erBadNumber⟩
  have G_is_whole : Gd l.prog w K mg base 1 "is_whole" ["number"] (spWhole K) := gd_mk F_is_whole (PySem.W.mg_of X G ais_whole) (F_is_whole.binds fun _ _ _ _ _ _ us hl => match us, hl with | [_], _ => rfl) (ok_is_whole F_is_whole B)
  have G_within : Gd l.prog w K mg base 2 "within" ["number", "low", "high"] (spWithin K) := gd_mk F_within (PySem.W.mg_of X G awithin) (F_within.binds fun _ _ _ _ _ _ us hl => match us, hl with | [_, _, _], _ => rfl) (ok_within F_within G_is_whole)
  have G_is_road : Gd l.prog w K mg base 3 "is_road" ["thing", "villages"] (spRoad K) := gd_mk F_is_road (PySem.W.mg_of X G ais_road) (F_is_road.binds fun _ _ _ _ _ _ us hl => match us, hl with | [_, _], _ => rfl) (ok_is_road F_is_road B mL G_within)
  have G_walked : Gm l.prog w K mg base CT 1 "walked" ["self", "start"] (spWalked CT) := gm_mk ⟨awalked, iwalked, kwalked⟩ (F_walked.binds fun _ _ _ _ _ _ us hl => match us, hl with | [_, _], _ => rfl) (ok_walked F_walked T)
  have G_roads : Gm l.prog w K mg base CT 1 "roads" ["self"] (spRoads CT) := gm_mk ⟨aroads, iroads, kroads⟩ (F_roads.binds fun _ _ _ _ _ _ us hl => match us, hl with | [_], _ => rfl) (ok_roads F_roads T B)
  have G_village : Gm l.prog w K mg base CT 3 "village" ["self", "at"] (spVillage CT) := gm_mk ⟨avillage, ivillage, kvillage⟩ (F_village.binds fun _ _ _ _ _ _ us hl => match us, hl with | [_, _], _ => rfl) (ok_village F_village T G_within)
  have G_init : Gc l.prog w K mg base CT 4 "Tree" ["self", "villages", "roads"] (spInit (K := K) CT) := gc_mk (PySem.W.mg_of X G aCT) ⟨mkT, ainit, iinit, kcT⟩ (F_init.binds fun _ _ _ _ _ _ us hl => match us, hl with | [_, _, _], _ => rfl) (ok_init F_init T B mM G_within G_is_road G_walked)
  have G_distances : Gd l.prog w K mg base 2 "distances" ["tree"] (spDistances CT) := gd_mk F_distances (PySem.W.mg_of X G adistances) (F_distances.binds fun _ _ _ _ _ _ us hl => match us, hl with | [_], _ => rfl) (ok_distances F_distances T B G_walked)
  have G_cell : Gd l.prog w K mg base 1 "_law_cell_at" ["_law_script", "_law_k"] (spCell K) := gd_mk F_cell (PySem.W.mg_of X G acell) (F_cell.binds fun _ _ _ _ _ _ us hl => match us, hl with | [_, _], _ => rfl) (ok_cell F_cell B)
  have G_initX : GcN l.prog w K mg base CT 4 "Tree" ["self", "villages", "roads"] (spInitX (K := K) CT CBadTree) := gc_mkN (PySem.W.mg_of X G aCT) ⟨mkT, ainitX, iinitX, kcT⟩ (F_initX.binds fun _ _ _ _ _ _ us hl => match us, hl with | [_, _, _], _ => rfl) (ok_initX F_initX T B X_BadTree mM G_within G_is_road G_walked)
  have G_initNo : GcN l.prog w K mg base CT 4 "Tree" ["self", "villages", "roads"] spNo := gc_mkN (PySem.W.mg_of X G aCT) ⟨mkT, ainitNo, iinitNo, kcT⟩ (F_initNo.binds fun _ _ _ _ _ _ us hl => match us, hl with | [_, _, _], _ => rfl) (ok_noFN F_initNo )
  have G_villageN : GmN l.prog w K mg base CT 3 "village" ["self", "at"] (spVillageN CT CNoVillage) := gm_mkN ⟨avillageN, ivillageN, kvillageN⟩ (F_villageN.binds fun _ _ _ _ _ _ us hl => match us, hl with | [_, _], _ => rfl) (ok_villageN F_villageN T X_NoVillage G_within)
  have G_distNo : Gd l.prog w K mg base 2 "distances" ["tree"] spNo := gd_mk F_distNo (PySem.W.mg_of X G adistNo) (F_distNo.binds fun _ _ _ _ _ _ us hl => match us, hl with | [_], _ => rfl) (ok_noF F_distNo )
  have G_farN : GdN l.prog w K mg base 4 "far" ["tree", "one", "other"] (spFarN CT CNoVillage) := gd_mkN F_farN (PySem.W.mg_of X G afarN) (F_farN.binds fun _ _ _ _ _ _ us hl => match us, hl with | [_, _, _], _ => rfl) (ok_farN F_farN T G_walked G_villageN)
  have G_wayN : GdN l.prog w K mg base 4 "way" ["tree", "one", "other"] (spWayN CT CNoVillage) := gd_mkN F_wayN (PySem.W.mg_of X G awayN) (F_wayN.binds fun _ _ _ _ _ _ us hl => match us, hl with | [_, _, _], _ => rfl) (ok_wayN F_wayN T G_walked G_villageN)
  have G_trip : Gd l.prog w K mg base 1 "trip" ["tree", "here", "barred"] spNo := gd_mk F_trip (PySem.W.mg_of X G atrip) (F_trip.binds fun _ _ _ _ _ _ us hl => match us, hl with | [_, _, _], _ => rfl) (ok_noF F_trip )
  have G_errandN : GdN l.prog w K mg base 5 "errand" ["tree", "one", "other"] (spWayN CT CNoVillage) := gd_mkN F_errandN (PySem.W.mg_of X G aerrandN) (F_errandN.binds fun _ _ _ _ _ _ us hl => match us, hl with | [_, _, _], _ => rfl) (ok_errandN F_errandN T B G_trip G_wayN)
  have G_longNone : Gd l.prog w K mg base 4 "long" ["tree", "walk"] (spLongNone CT) := gd_mk F_longNone (PySem.W.mg_of X G alongNone) (F_longNone.binds fun _ _ _ _ _ _ us hl => match us, hl with | [_, _], _ => rfl) (ok_longNone F_longNone T B G_village)
  have G_longN : GdN l.prog w K mg base 4 "long" ["tree", "walk"] (spLongN CT CNoVillage) := gd_mkN F_longN (PySem.W.mg_of X G alongN) (F_longN.binds fun _ _ _ _ _ _ us hl => match us, hl with | [_, _], _ => rfl) (ok_longN F_longN T B G_villageN)
  have G_Winit : Gc l.prog w K mg base CW 1 "Wells" ["self", "wells", "callers"] (spCopy CW "wells" "callers") := gc_mk (PySem.W.mg_of X G aCW) ⟨mkW, aWinit, iWinit, kcW⟩ (F_Winit.binds fun _ _ _ _ _ _ us hl => match us, hl with | [_, _, _], _ => rfl) (ok_Wells_init F_Winit O B)
  have G_checkwalk : Gd l.prog w K mg base 3 "check_walk" ["walk"] spCheckWalk := gd_mk F_checkwalk (PySem.W.mg_of X G acheckwalk) (F_checkwalk.binds fun _ _ _ _ _ _ us hl => match us, hl with | [_], _ => rfl) (ok_check_walk F_checkwalk mM mL G_within)
  have G_checkwalkN : GdN l.prog w K mg base 3 "check_walk" ["walk"] (spCheckWalkN CBadNumber) := gd_mkN F_checkwalkN (PySem.W.mg_of X G acheckwalkN) (F_checkwalkN.binds fun _ _ _ _ _ _ us hl => match us, hl with | [_], _ => rfl) (ok_check_walkN F_checkwalkN X_BadNumber mM mL G_within)
  have G_dug : Gd l.prog w K mg base 5 "dug" ["tree", "walk"] (spDug CT CW PD) := gd_mk (FunC.fn F_dug) (PySem.W.mg_of X G adug) ((FunC.fn F_dug).binds fun _ _ _ _ _ _ us hl => match us, hl with | [_, _], _ => rfl) (ok_dug F_dug TB T B G_checkwalk G_distances G_walked G_Winit)
  have G_dugN : GdN l.prog w K mg base 5 "dug" ["tree", "walk"] (spDugN CBadNumber) := gd_mkN F_dugN (PySem.W.mg_of X G adugN) (F_dugN.binds fun _ _ _ _ _ _ us hl => match us, hl with | [_, _], _ => rfl) (ok_dugN F_dugN G_checkwalkN)
  have G_dugNo : GdN l.prog w K mg base 5 "dug" ["tree", "walk"] spNo := gd_mkN F_dugNo (PySem.W.mg_of X G adugNo) (F_dugNo.binds fun _ _ _ _ _ _ us hl => match us, hl with | [_, _], _ => rfl) (ok_noFN F_dugNo )
  have G_least : Gd l.prog w K mg base 6 "least_walk" ["tree", "many"] (spLeast CT CW PD) := gd_mk F_least (PySem.W.mg_of X G aleast) (F_least.binds fun _ _ _ _ _ _ us hl => match us, hl with | [_, _], _ => rfl) (ok_least F_least B O mM G_within G_distances G_dug)
  have G_leastN : GdN l.prog w K mg base 6 "least_walk" ["tree", "many"] (spLeastN CBadNumber) := gd_mkN F_leastN (PySem.W.mg_of X G aleastN) (F_leastN.binds fun _ _ _ _ _ _ us hl => match us, hl with | [_, _], _ => rfl) (ok_leastN F_leastN B X_BadNumber mM G_within G_distNo G_dugNo)
  have G_people : Gd l.prog w K mg base 3 "check_people" ["tree", "people"] (spCheckPeople CT) := gd_mk F_people (PySem.W.mg_of X G apeople) (F_people.binds fun _ _ _ _ _ _ us hl => match us, hl with | [_, _], _ => rfl) (ok_check_people F_people T B mL G_within)
  have G_walks : Gd l.prog w K mg base 4 "walks" ["tree", "people"] (spWalks CT) := gd_mk F_walks (PySem.W.mg_of X G awalks) (F_walks.binds fun _ _ _ _ _ _ us hl => match us, hl with | [_, _], _ => rfl) (ok_walks F_walks T B G_distances G_people)
  have G_peopleN : GdN l.prog w K mg base 3 "check_people" ["tree", "people"] (spPeopleN CT CBadNumber) := gd_mkN F_peopleN (PySem.W.mg_of X G apeopleN) (F_peopleN.binds fun _ _ _ _ _ _ us hl => match us, hl with | [_, _], _ => rfl) (ok_peopleN F_peopleN T B X_BadNumber mL G_within)
  have G_walksN : GdN l.prog w K mg base 4 "walks" ["tree", "people"] (spPeopleN CT CBadNumber) := gd_mkN F_walksN (PySem.W.mg_of X G awalksN) (F_walksN.binds fun _ _ _ _ _ _ us hl => match us, hl with | [_, _], _ => rfl) (ok_walksN F_walksN T B G_distNo G_peopleN)
  have G_mediansN : GdN l.prog w K mg base 5 "medians" ["tree", "people"] (spPeopleN CT CBadNumber) := gd_mkN F_mediansN (PySem.W.mg_of X G amediansN) (F_mediansN.binds fun _ _ _ _ _ _ us hl => match us, hl with | [_, _], _ => rfl) (ok_mediansN F_mediansN T B G_walksN)
  have G_sidesN : GdN l.prog w K mg base 3 "sides" ["tree", "at"] (spSidesN CT CNoRoad) := gd_mkN F_sidesN (PySem.W.mg_of X G asidesN) (F_sidesN.binds fun _ _ _ _ _ _ us hl => match us, hl with | [_, _], _ => rfl) (ok_sidesN F_sidesN T B X_NoRoad G_within G_walked)
  have G_movedN : GdN l.prog w K mg base 6 "moved" ["tree", "at", "one", "other"] (spMovedN CT CNoRoad CNoVillage) := gd_mkN F_movedN (PySem.W.mg_of X G amovedN) (F_movedN.binds fun _ _ _ _ _ _ us hl => match us, hl with | [_, _, _, _], _ => rfl) (ok_movedN F_movedN T B X_NoRoad G_within G_villageN G_roads G_initNo)
  have G_joinedN : GdN l.prog w K mg base 6 "joined" ["tree", "at", "other", "length"] (spJoinedN CT CBadTree CNoVillage) := gd_mkN F_joinedN (PySem.W.mg_of X G ajoinedN) (F_joinedN.binds fun _ _ _ _ _ _ us hl => match us, hl with | [_, _, _, _], _ => rfl) (ok_joinedN F_joinedN T B G_villageN G_roads G_initX)
  have G_ask : GdN l.prog w K mg base 7 "_law_ask" ["_law_tree_here", "_law_door", "_law_thing"] (spAsk CT CBadTree CNoVillage CNoRoad CBadNumber) := gd_mkN F_ask (PySem.W.mg_of X G aask) (F_ask.binds fun _ _ _ _ _ _ us hl => match us, hl with | [_, _, _], _ => rfl) (ok_ask F_ask T B G_farN G_wayN G_errandN G_longN G_joinedN G_movedN G_sidesN G_dugN G_leastN G_walksN G_mediansN G_init)
  have G_sort : GdE l.prog w K mg base 1 "_law_sort" ["_law_error"] (spSort K CBadTree CNoVillage CNoRoad CBadNumber CBadRow) := gd_mkE F_sort (PySem.W.mg_of X G asort) (F_sort.binds fun _ _ _ _ _ _ us hl => match us, hl with | [_], _ => rfl) (ok_sort F_sort B m_ValueError (PySem.W.mg_of X G aCBadTree) (PySem.W.mg_of X G aCNoVillage) (PySem.W.mg_of X G aCNoRoad) (PySem.W.mg_of X G aCBadNumber) (PySem.W.mg_of X G aCBadRow))
  have G_asked : Gd l.prog w K mg base 8 "_law_asked" ["_law_tree_here", "_law_door", "_law_thing"] (spAsked CT) := gd_mk F_asked (PySem.W.mg_of X G aasked) (F_asked.binds fun _ _ _ _ _ _ us hl => match us, hl with | [_, _, _], _ => rfl) (ok_asked F_asked (PySem.W.mg_of X G aCRoadError) RF G_ask G_sort)
  have G_all : Gd l.prog w K mg base 9 "_law_all" ["_law_tree_here", "_law_doors", "_law_things", "_law_due"] (spAll CT) := gd_mk F_all (PySem.W.mg_of X G aall) (F_all.binds fun _ _ _ _ _ _ us hl => match us, hl with | [_, _, _, _], _ => rfl) (ok_all F_all B G_asked)
  have G_tree : Gd l.prog w K mg base 6 "_law_tree" ["_law_villages", "_law_roads"] spTree := gd_mk F_tree (PySem.W.mg_of X G atree) (F_tree.binds fun _ _ _ _ _ _ us hl => match us, hl with | [_, _], _ => rfl) (ok_tree F_tree (PySem.W.mg_of X G aCRoadError) RF G_initX G_sort)
  have G_trees : Gd l.prog w K mg base 7 "_law_trees" ["_law_more"] spTrees := gd_mk F_trees (PySem.W.mg_of X G atrees) (F_trees.binds fun _ _ _ _ _ _ us hl => match us, hl with | [_], _ => rfl) (ok_trees F_trees B G_tree)
  exact ok_law F_law B O G_cell G_init G_trees G_all G_dug G_least G_walks G_asked G_longNone
end Wr

open PySem PySem.W PyProof.Rows
set_option maxRecDepth 100000 in
set_option maxHeartbeats 0 in
theorem PySem.Challenge.cw_wellroads_k10_refused_holds : PySem.Challenge.rw_wellroads_k10_refused.Holds := by
  w_on; o_law; k_head; (case hw => w_witness2)
  k_fill
  refine LamX.walk_ofTs (l := PySem.Challenge.rw_wellroads_k10_refused) (n := 63) (k := 10) (CX := fun _ => L2.CX0) (x := "_law_script") rfl (by decide) rfl ⟨rfl, by decide, by decide⟩ (fun w h Y => PySem.W.km_in_of Y) ?F (fun _ _ _ _ _ z => z)
  case F =>
    intro w mg fa h Y KX G hmg
    refine' Wr.all_mk KX G hmg (PySem.W.km_tabs_of Y) ?aCT ?pgT ?hdT ?poT ?saT ?mkT ?kcT ?nT_size ?nT_rows ?aCW ?pgW ?hdW ?poW ?saW ?mkW ?kcW ?nW_wells ?nW_callers ?aCBadTree ?aCNoVillage ?aCNoRoad ?aCBadNumber ?aCBadRow ?aCRoadError ?aMOST ?aLONGEST ?ais_whole ?lis_whole ?cis_whole ?kis_whole ?awithin ?lwithin ?cwithin ?kwithin ?ais_road ?lis_road ?cis_road ?kis_road ?awalked ?iwalked ?lwalked ?cwalked ?kwalked ?aroads ?iroads ?lroads ?croads ?kroads ?avillage ?ivillage ?lvillage ?cvillage ?kvillage ?ainit ?iinit ?linit ?cinit ?kinit ?adistances ?ldistances ?cdistances ?kdistances ?acell ?lcell ?ccell ?kcell ?ainitX ?iinitX ?linitX ?cinitX ?kinitX ?ainitNo ?iinitNo ?linitNo ?cinitNo ?kinitNo ?avillageN ?ivillageN ?lvillageN ?cvillageN ?kvillageN ?adistNo ?ldistNo ?cdistNo ?kdistNo ?afarN ?lfarN ?cfarN ?kfarN ?awayN ?lwayN ?cwayN ?kwayN ?atrip ?ltrip ?ctrip ?ktrip ?aerrandN ?lerrandN ?cerrandN ?kerrandN ?alongNone ?llongNone ?clongNone ?klongNone ?alongN ?llongN ?clongN ?klongN ?aWinit ?iWinit ?lWinit ?cWinit ?kWinit ?acheckwalk ?lcheckwalk ?ccheckwalk ?kcheckwalk ?acheckwalkN ?lcheckwalkN ?ccheckwalkN ?kcheckwalkN ?adug ?ldug ?cdug ?kdug ?adugN ?ldugN ?cdugN ?kdugN ?adugNo ?ldugNo ?cdugNo ?kdugNo ?aleast ?lleast ?cleast ?kleast ?aleastN ?lleastN ?cleastN ?kleastN ?apeople ?lpeople ?cpeople ?kpeople ?awalks ?lwalks ?cwalks ?kwalks ?apeopleN ?lpeopleN ?cpeopleN ?kpeopleN ?awalksN ?lwalksN ?cwalksN ?kwalksN ?amediansN ?lmediansN ?cmediansN ?kmediansN ?asidesN ?lsidesN ?csidesN ?ksidesN ?amovedN ?lmovedN ?cmovedN ?kmovedN ?ajoinedN ?ljoinedN ?cjoinedN ?kjoinedN ?aask ?lask ?cask ?kask ?asort ?lsort ?csort ?ksort ?aasked ?lasked ?casked ?kasked ?aall ?lall ?call ?kall ?atree ?ltree ?ctree ?ktree ?atrees ?ltrees ?ctrees ?ktrees ?alaw ?llaw ?claw ?klaw ?xBadTree ?kBadTree ?bBadTree ?tBadTree ?xNoVillage ?kNoVillage ?bNoVillage ?tNoVillage ?xNoRoad ?kNoRoad ?bNoRoad ?tNoRoad ?xBadNumber ?kBadNumber ?bBadNumber ?tBadNumber ?egBadTree ?ekBadTree ?esBadTree ?edBadTree ?eaBadTree ?emBadTree ?egNoVillage ?ekNoVillage ?esNoVillage ?edNoVillage ?eaNoVillage ?emNoVillage ?egNoRoad ?ekNoRoad ?esNoRoad ?edNoRoad ?eaNoRoad ?emNoRoad ?egBadNumber ?ekBadNumber ?esBadNumber ?edBadNumber ?eaBadNumber ?emBadNumber ?enBadTree ?etBadTree ?ebR ?ehR ?eyR ?erBadTree ?erNoVillage ?erNoRoad ?erBadNumber ?q00 ?q01 ?q02 ?q03 ?q04 ?qv0 ?q10 ?q11 ?q12 ?q13 ?q14 ?qv1 ?q20 ?q21 ?q22 ?q23 ?q24 ?qv2 ?q30 ?q31 ?q32 ?q33 ?q34 ?qv3 ?zVE ?tlk ?thd ?zlen ?zisinstance ?zlist ?zint ?zbool ?ztuple ?zrange ?zset ?zsorted ?zsum ?zmax ?zmin ?zany ?zall ?zreversed ?zstr
    (case aCT => k_is)
    (case pgT => k_is)
    (case hdT => k_is)
    (case poT => k_is)
    (case saT => k_is)
    (case mkT => k_is)
    (case kcT => k_is)
    (case nT_size => k_is)
    (case nT_rows => k_is)
    (case aCW => k_is)
    (case pgW => k_is)
    (case hdW => k_is)
    (case poW => k_is)
    (case saW => k_is)
    (case mkW => k_is)
    (case kcW => k_is)
    (case nW_wells => k_is)
    (case nW_callers => k_is)
    (case aCBadTree => k_is)
    (case aCNoVillage => k_is)
    (case aCNoRoad => k_is)
    (case aCBadNumber => k_is)
    (case aCBadRow => k_is)
    (case aCRoadError => k_is)
    (case aMOST => k_is)
    (case aLONGEST => k_is)
    (case ais_whole => k_is)
    (case lis_whole => k_is)
    (case cis_whole => k_is)
    (case kis_whole => k_is)
    (case awithin => k_is)
    (case lwithin => k_is)
    (case cwithin => k_is)
    (case kwithin => k_is)
    (case ais_road => k_is)
    (case lis_road => k_is)
    (case cis_road => k_is)
    (case kis_road => k_is)
    (case awalked => k_is)
    (case iwalked => k_is)
    (case lwalked => k_is)
    (case cwalked => k_is)
    (case kwalked => k_is)
    (case aroads => k_is)
    (case iroads => k_is)
    (case lroads => k_is)
    (case croads => k_is)
    (case kroads => k_is)
    (case avillage => k_is)
    (case ivillage => k_is)
    (case lvillage => k_is)
    (case cvillage => k_is)
    (case kvillage => k_is)
    (case ainit => k_is)
    (case iinit => k_is)
    (case linit => k_is)
    (case cinit => k_is)
    (case kinit => k_is)
    (case adistances => k_is)
    (case ldistances => k_is)
    (case cdistances => k_is)
    (case kdistances => k_is)
    (case acell => k_is)
    (case lcell => k_is)
    (case ccell => k_is)
    (case kcell => k_is)
    (case ainitX => k_is)
    (case iinitX => k_is)
    (case linitX => k_is)
    (case cinitX => k_is)
    (case kinitX => k_is)
    (case ainitNo => k_is)
    (case iinitNo => k_is)
    (case linitNo => k_is)
    (case cinitNo => k_is)
    (case kinitNo => k_is)
    (case avillageN => k_is)
    (case ivillageN => k_is)
    (case lvillageN => k_is)
    (case cvillageN => k_is)
    (case kvillageN => k_is)
    (case adistNo => k_is)
    (case ldistNo => k_is)
    (case cdistNo => k_is)
    (case kdistNo => k_is)
    (case afarN => k_is)
    (case lfarN => k_is)
    (case cfarN => k_is)
    (case kfarN => k_is)
    (case awayN => k_is)
    (case lwayN => k_is)
    (case cwayN => k_is)
    (case kwayN => k_is)
    (case atrip => k_is)
    (case ltrip => k_is)
    (case ctrip => k_is)
    (case ktrip => k_is)
    (case aerrandN => k_is)
    (case lerrandN => k_is)
    (case cerrandN => k_is)
    (case kerrandN => k_is)
    (case alongNone => k_is)
    (case llongNone => k_is)
    (case clongNone => k_is)
    (case klongNone => k_is)
    (case alongN => k_is)
    (case llongN => k_is)
    (case clongN => k_is)
    (case klongN => k_is)
    (case aWinit => k_is)
    (case iWinit => k_is)
    (case lWinit => k_is)
    (case cWinit => k_is)
    (case kWinit => k_is)
    (case acheckwalk => k_is)
    (case lcheckwalk => k_is)
    (case ccheckwalk => k_is)
    (case kcheckwalk => k_is)
    (case acheckwalkN => k_is)
    (case lcheckwalkN => k_is)
    (case ccheckwalkN => k_is)
    (case kcheckwalkN => k_is)
    (case adug => k_is)
    (case ldug => k_is)
    (case cdug => k_is)
    (case kdug => k_is)
    (case adugN => k_is)
    (case ldugN => k_is)
    (case cdugN => k_is)
    (case kdugN => k_is)
    (case adugNo => k_is)
    (case ldugNo => k_is)
    (case cdugNo => k_is)
    (case kdugNo => k_is)
    (case aleast => k_is)
    (case lleast => k_is)
    (case cleast => k_is)
    (case kleast => k_is)
    (case aleastN => k_is)
    (case lleastN => k_is)
    (case cleastN => k_is)
    (case kleastN => k_is)
    (case apeople => k_is)
    (case lpeople => k_is)
    (case cpeople => k_is)
    (case kpeople => k_is)
    (case awalks => k_is)
    (case lwalks => k_is)
    (case cwalks => k_is)
    (case kwalks => k_is)
    (case apeopleN => k_is)
    (case lpeopleN => k_is)
    (case cpeopleN => k_is)
    (case kpeopleN => k_is)
    (case awalksN => k_is)
    (case lwalksN => k_is)
    (case cwalksN => k_is)
    (case kwalksN => k_is)
    (case amediansN => k_is)
    (case lmediansN => k_is)
    (case cmediansN => k_is)
    (case kmediansN => k_is)
    (case asidesN => k_is)
    (case lsidesN => k_is)
    (case csidesN => k_is)
    (case ksidesN => k_is)
    (case amovedN => k_is)
    (case lmovedN => k_is)
    (case cmovedN => k_is)
    (case kmovedN => k_is)
    (case ajoinedN => k_is)
    (case ljoinedN => k_is)
    (case cjoinedN => k_is)
    (case kjoinedN => k_is)
    (case aask => k_is)
    (case lask => k_is)
    (case cask => k_is)
    (case kask => k_is)
    (case asort => k_is)
    (case lsort => k_is)
    (case csort => k_is)
    (case ksort => k_is)
    (case aasked => k_is)
    (case lasked => k_is)
    (case casked => k_is)
    (case kasked => k_is)
    (case aall => k_is)
    (case lall => k_is)
    (case call => k_is)
    (case kall => k_is)
    (case atree => k_is)
    (case ltree => k_is)
    (case ctree => k_is)
    (case ktree => k_is)
    (case atrees => k_is)
    (case ltrees => k_is)
    (case ctrees => k_is)
    (case ktrees => k_is)
    (case alaw => k_is)
    (case llaw => k_is)
    (case claw => k_is)
    (case klaw => k_is)
    (case xBadTree => k_exc)
    (case kBadTree => k_is)
    (case bBadTree => k_is)
    (case tBadTree => k_is)
    (case xNoVillage => k_exc)
    (case kNoVillage => k_is)
    (case bNoVillage => k_is)
    (case tNoVillage => k_is)
    (case xNoRoad => k_exc)
    (case kNoRoad => k_is)
    (case bNoRoad => k_is)
    (case tNoRoad => k_is)
    (case xBadNumber => k_exc)
    (case kBadNumber => k_is)
    (case bBadNumber => k_is)
    (case tBadNumber => k_is)
    (case egBadTree => k_is)
    (case ekBadTree => k_is)
    (case esBadTree => k_is)
    (case edBadTree => k_is)
    (case eaBadTree => k_is)
    (case emBadTree => k_is)
    (case egNoVillage => k_is)
    (case ekNoVillage => k_is)
    (case esNoVillage => k_is)
    (case edNoVillage => k_is)
    (case eaNoVillage => k_is)
    (case emNoVillage => k_is)
    (case egNoRoad => k_is)
    (case ekNoRoad => k_is)
    (case esNoRoad => k_is)
    (case edNoRoad => k_is)
    (case eaNoRoad => k_is)
    (case emNoRoad => k_is)
    (case egBadNumber => k_is)
    (case ekBadNumber => k_is)
    (case esBadNumber => k_is)
    (case edBadNumber => k_is)
    (case eaBadNumber => k_is)
    (case emBadNumber => k_is)
    (case enBadTree => k_is)
    (case etBadTree => k_is)
    (case ebR => k_is)
    (case ehR => k_is)
    (case eyR => k_is)
    (case erBadTree => k_is)
    (case erNoVillage => k_is)
    (case erNoRoad => k_is)
    (case erBadNumber => k_is)
    (case q00 => kit_is)
    (case q01 => kit_is)
    (case q02 => kit_is)
    (case q03 => kit_is)
    (case q04 => kit_is)
    (case qv0 => kit_is)
    (case q10 => kit_is)
    (case q11 => kit_is)
    (case q12 => kit_is)
    (case q13 => kit_is)
    (case q14 => kit_is)
    (case qv1 => kit_is)
    (case q20 => kit_is)
    (case q21 => kit_is)
    (case q22 => kit_is)
    (case q23 => kit_is)
    (case q24 => kit_is)
    (case qv2 => kit_is)
    (case q30 => kit_is)
    (case q31 => kit_is)
    (case q32 => kit_is)
    (case q33 => kit_is)
    (case q34 => kit_is)
    (case qv3 => kit_is)
    (case zVE => k_is)
    (case tlk => kernel_rfl)
    (case thd => kernel_rfl)
    (case zlen => k_is)
    (case zisinstance => k_is)
    (case zlist => k_is)
    (case zint => k_is)
    (case zbool => k_is)
    (case ztuple => k_is)
    (case zrange => k_is)
    (case zset => k_is)
    (case zsorted => k_is)
    (case zsum => k_is)
    (case zmax => k_is)
    (case zmin => k_is)
    (case zany => k_is)
    (case zall => k_is)
    (case zreversed => k_is)
    (case zstr => k_is)
