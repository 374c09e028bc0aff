import PyProof.Rows.All
import Wide.All
import OpenK.AllK
import Wide.FinOn
import HandS.ForMost
import HandS.IsInst
import HandS.Steps
import HandS.ForExc
import HandS.Strs
import HandS.Zip
import HandS.Conv
import HandS.More
import HandS.SortInts
import HandS.Codes
import PyProof.Rows.SortShellAny
import PyProof.TupleOfSeq
import HandS.ExcCtx
import HandS.HotCalls
import HandS.ExcIs
import KE.RegKIsAll
import PySem.Challenge.RW_wellroads_k07_cut_and_joined
set_option Elab.async false
set_option linter.all false
set_option maxRecDepth 100000
set_option maxHeartbeats 4000000
namespace Wr

structure Road where
  a : Int
  b : Int
  l : Int
  deriving DecidableEq, Repr

def Adj (rs : List Road) (u v l : Int) : Prop := ∃ r ∈ rs, r.l = l ∧ ((r.a = u ∧ r.b = v) ∨ (r.b = u ∧ r.a = v))
theorem Adj.symm {rs : List Road} {u v l : Int} (h : Adj rs u v l) : Adj rs v u l := by
  obtain ⟨r, hr, hl, h⟩ := h
  refine ⟨r, hr, hl, ?_⟩
  rcases h with ⟨x, y⟩ | ⟨x, y⟩
  · exact .inr ⟨y, x⟩
  · exact .inl ⟨y, x⟩
theorem Adj.mono {rs rs' : List Road} {u v l : Int} (h : Adj rs u v l) (hs : ∀ r ∈ rs, r ∈ rs') : Adj rs' u v l := by
  obtain ⟨r, hr, h⟩ := h
  exact ⟨r, hs r hr, h⟩

inductive Walk (rs : List Road) (s : Int) : Int → Int → Prop
  | nil : Walk rs s s 0
  | snoc {v w d l : Int} : Walk rs s v d → Adj rs v w l → Walk rs s w (d + l)
theorem Walk.mono {rs rs' : List Road} {s v d : Int} (h : Walk rs s v d) (hs : ∀ r ∈ rs, r ∈ rs') : Walk rs' s v d := by
  induction h with
  | nil => exact .nil
  | snoc _ a ih => exact .snoc ih (a.mono hs)
theorem Walk.cons {rs : List Road} {s t v d l : Int} (a : Adj rs s t l) (h : Walk rs t v d) : Walk rs s v (l + d) := by
  induction h with
  | nil =>
    have := Walk.snoc (Walk.nil (rs := rs) (s := s)) a
    have e : (0 : Int) + l = l + 0 := by omega
    rw [← e]; exact this
  | snoc h a' ih =>
    have := Walk.snoc ih a'
    rw [Int.add_assoc] at this
    exact this
theorem Walk.symm {rs : List Road} {s v d : Int} (h : Walk rs s v d) : Walk rs v s d := by
  induction h with
  | nil => exact .nil
  | snoc h a ih =>
    have := Walk.cons a.symm ih
    rw [Int.add_comm] at this
    exact this
theorem Walk.trans {rs : List Road} {s v w d e : Int} (h : Walk rs s v d) (g : Walk rs v w e) : Walk rs s w (d + e) := by
  induction g with
  | nil => rw [Int.add_zero]; exact h
  | snoc g a ih =>
    have := Walk.snoc ih a
    rw [Int.add_assoc] at this
    exact this

def Reach (rs : List Road) (u v : Int) : Prop := ∃ d, Walk rs u v d
theorem Reach.symm {rs : List Road} {u v : Int} (h : Reach rs u v) : Reach rs v u := let ⟨d, w⟩ := h; ⟨d, w.symm⟩
theorem Reach.trans {rs : List Road} {u v w : Int} (h : Reach rs u v) (g : Reach rs v w) : Reach rs u w := let ⟨_, a⟩ := h; let ⟨_, b⟩ := g; ⟨_, a.trans b⟩
theorem Reach.refl {rs : List Road} {u : Int} : Reach rs u u := ⟨0, .nil⟩

/-- roads between villages that are there -/
structure RoadsOk (n : Nat) (rs : List Road) : Prop where
  ok : ∀ r ∈ rs, 0 ≤ r.a ∧ r.a < n ∧ 0 ≤ r.b ∧ r.b < n ∧ r.a ≠ r.b ∧ 1 ≤ r.l ∧ r.l ≤ 1000000

structure IsTree (n : Nat) (rs : List Road) : Prop extends RoadsOk n rs where
  pos : 1 ≤ n
  le : n ≤ 12
  len : rs.length + 1 = n
  conn : ∀ v : Int, 0 ≤ v → v < n → Reach rs 0 v

theorem Adj.range {n : Nat} {rs : List Road} (k : RoadsOk n rs) {u v l : Int} (h : Adj rs u v l) : 0 ≤ u ∧ u < n ∧ 0 ≤ v ∧ v < n ∧ u ≠ v ∧ 1 ≤ l ∧ l ≤ 1000000 := by
  obtain ⟨r, hr, hl, h⟩ := h
  have := k.ok r hr
  grind

/-! ### what a walk finds -/
abbrev Found := List (Int × (Int × Int))
def keys (f : Found) : List Int := f.map (·.1)
def parOf (f : Found) (v : Int) : Int := ((f.lookup v).getD (-1, 0)).1
def dOf (f : Found) (v : Int) : Int := ((f.lookup v).getD (-1, 0)).2

theorem lookup_none_iff {f : Found} {v : Int} : f.lookup v = none ↔ v ∉ keys f := by
  induction f with
  | nil => simp [keys]
  | cons e f ih =>
    obtain ⟨k, x⟩ := e
    by_cases h : v = k
    · subst h; simp [keys, List.lookup]
    · have : (v == k) = false := by simpa using h
      simp only [List.lookup, this, ih, keys, List.map_cons, List.mem_cons, not_or]
      exact ⟨fun q => ⟨h, q⟩, fun q => q.2⟩
theorem lookup_isSome_iff {f : Found} {v : Int} : (f.lookup v).isSome = true ↔ v ∈ keys f := by
  cases h : f.lookup v with
  | none => simp [lookup_none_iff.mp h]
  | some x =>
    simp only [Option.isSome_some, true_iff]
    apply Classical.byContradiction
    intro q
    rw [lookup_none_iff.mpr q] at h; cases h
theorem lookup_append {f : Found} {e : Int × (Int × Int)} {v : Int} (h : e.1 ∉ keys f) : (f ++ [e]).lookup v = if v = e.1 then some e.2 else f.lookup v := by
  obtain ⟨k, x⟩ := e
  rw [List.lookup_append]
  by_cases hv : v = k
  · subst hv
    rw [lookup_none_iff.mpr h]
    simp [List.lookup]
  · have : (v == k) = false := by simpa using hv
    simp [List.lookup, this, hv]
theorem keys_append (f g : Found) : keys (f ++ g) = keys f ++ keys g := by simp [keys]

inductive Growth (rs : List Road) (s : Int) : Found → Prop
  | start : Growth rs s [(s, (-1, 0))]
  | snoc {f : Found} {v p l : Int} : Growth rs s f → p ∈ keys f → Adj rs p v l → v ∉ keys f → Growth rs s (f ++ [(v, (p, dOf f p + l))])

section
variable {n : Nat} {rs : List Road} {s : Int} {f : Found}
theorem Growth.nodup (g : Growth rs s f) : (keys f).Nodup := by
  induction g with
  | start => simp [keys]
  | snoc g hp ha hv ih =>
    rw [keys_append]
    refine List.nodup_append.mpr ⟨ih, by simp [keys], ?_⟩
    intro a ha' b hb
    simp [keys] at hb
    subst hb
    intro e; subst e; exact hv ha'
theorem Growth.mem_start (g : Growth rs s f) : s ∈ keys f := by
  induction g with
  | start => simp [keys]
  | snoc g hp ha hv ih => rw [keys_append]; exact List.mem_append_left _ ih
theorem Growth.look_start (g : Growth rs s f) : f.lookup s = some (-1, 0) := by
  induction g with
  | start => simp [List.lookup]
  | @snoc f v p l g hp ha hv ih =>
    rw [lookup_append (e := (v, (p, dOf f p + l))) hv, if_neg, ih]
    intro e
    have e : s = v := e
    exact hv (e ▸ g.mem_start)
theorem Growth.range (k : RoadsOk n rs) (hs : 0 ≤ s ∧ s < n) (g : Growth rs s f) : ∀ v ∈ keys f, 0 ≤ v ∧ v < n := by
  induction g with
  | start => intro v hv; simp [keys] at hv; subst hv; exact hs
  | snoc g hp ha hv ih =>
    intro v' hv'
    rw [keys_append] at hv'
    rcases List.mem_append.mp hv' with h | h
    · exact ih v' h
    · simp [keys] at h
      subst h
      have := ha.range k
      exact ⟨this.2.2.1, this.2.2.2.1⟩
/-- each later entry: its parent, the road -/
theorem Growth.entry (g : Growth rs s f) : ∀ v, v ∈ keys f → v ≠ s → ∃ p l, f.lookup v = some (p, dOf f p + l) ∧ p ∈ keys f ∧ Adj rs p v l := by
  induction g with
  | start => intro v hv hn; simp [keys] at hv; exact absurd hv hn
  | @snoc f v p l g hp ha hv ih =>
    intro v' hv' hn
    have dd : ∀ x, x ∈ keys f → dOf (f ++ [(v, (p, dOf f p + l))]) x = dOf f x := by
      intro x hx
      unfold dOf
      rw [lookup_append (e := (v, (p, _))) hv, if_neg (fun e => hv ((show x = v from e) ▸ hx))]
    rw [keys_append] at hv'
    by_cases e : v' = v
    · subst e
      refine ⟨p, l, ?_, ?_, ha⟩
      · rw [lookup_append (e := (v', (p, _))) hv, if_pos rfl, dd p hp]
      · rw [keys_append]; exact List.mem_append_left _ hp
    · have hv'' : v' ∈ keys f := by
        rcases List.mem_append.mp hv' with h | h
        · exact h
        · simp [keys] at h; exact absurd h e
      obtain ⟨p', l', h1, h2, h3⟩ := ih v' hv'' hn
      refine ⟨p', l', ?_, ?_, h3⟩
      · rw [lookup_append (e := (v, (p, _))) hv, if_neg e, h1, dd p' h2]
      · rw [keys_append]; exact List.mem_append_left _ h2
theorem Growth.walk (g : Growth rs s f) : ∀ v, v ∈ keys f → Walk rs s v (dOf f v) := by
  induction g with
  | start =>
    intro v hv; simp [keys] at hv; subst hv
    have : dOf [(v, (-1, 0))] v = 0 := by simp [dOf, List.lookup]
    rw [this]; exact .nil
  | @snoc f v p l g hp ha hv ih =>
    intro v' hv'
    rw [keys_append] at hv'
    by_cases e : v' = v
    · subst e
      have : dOf (f ++ [(v', (p, dOf f p + l))]) v' = dOf f p + l := by
        unfold dOf
        rw [lookup_append (e := (v', (p, _))) hv, if_pos rfl]; rfl
      rw [this]
      exact .snoc (ih p hp) ha
    · have hv'' : v' ∈ keys f := by
        rcases List.mem_append.mp hv' with h | h
        · exact h
        · simp [keys] at h; exact absurd h e
      have : dOf (f ++ [(v, (p, dOf f p + l))]) v' = dOf f v' := by
        unfold dOf
        rw [lookup_append (e := (v, (p, _))) hv, if_neg e]
      rw [this]
      exact ih v' hv''
def Used (f : Found) (r : Road) : Prop := (f.lookup r.b = some (r.a, dOf f r.a + r.l)) ∨ (f.lookup r.a = some (r.b, dOf f r.b + r.l))
/-- the roads that were used, each with its child -/
theorem Growth.used (g : Growth rs s f) : ∃ idx : List (Nat × Int), idx.length + 1 = f.length ∧ (idx.map (·.1)).Nodup ∧ (idx.map (·.2)).Nodup ∧
    ∀ q ∈ idx, ∃ r, rs[q.1]? = some r ∧ r.a ∈ keys f ∧ r.b ∈ keys f ∧ ((q.2 = r.b ∧ f.lookup r.b = some (r.a, dOf f r.a + r.l)) ∨ (q.2 = r.a ∧ f.lookup r.a = some (r.b, dOf f r.b + r.l))) := by
  induction g with
  | start => exact ⟨[], rfl, List.nodup_nil, List.nodup_nil, fun _ h => nomatch h⟩
  | @snoc f v p l g hp ha hv ih =>
    obtain ⟨idx, h1, h2, h3, h4⟩ := ih
    obtain ⟨r, hr, hl, hends⟩ := ha
    obtain ⟨i, hi, hri⟩ := List.getElem_of_mem hr
    have dd : ∀ x, x ∈ keys f → dOf (f ++ [(v, (p, dOf f p + l))]) x = dOf f x := by
      intro x hx
      unfold dOf
      rw [lookup_append (e := (v, (p, _))) hv, if_neg (fun e => hv ((show x = v from e) ▸ hx))]
    have ll : ∀ x, x ∈ keys f → (f ++ [(v, (p, dOf f p + l))]).lookup x = f.lookup x := by
      intro x hx
      rw [lookup_append (e := (v, (p, _))) hv, if_neg (fun e => hv ((show x = v from e) ▸ hx))]
    have kk : ∀ x, x ∈ keys f → x ∈ keys (f ++ [(v, (p, dOf f p + l))]) := fun x hx => by
      rw [keys_append]; exact List.mem_append_left _ hx
    have kv : v ∈ keys (f ++ [(v, (p, dOf f p + l))]) := by rw [keys_append]; simp [keys]
    have hin : i ∉ idx.map (·.1) := by
      intro hm
      obtain ⟨q, hq, e⟩ := List.mem_map.mp hm
      obtain ⟨r', hr', k1, k2, _⟩ := h4 q hq
      rw [e, List.getElem?_eq_getElem hi, hri] at hr'
      cases hr'
      rcases hends with ⟨e1, e2⟩ | ⟨e1, e2⟩
      · rw [e2] at k2; exact hv k2
      · rw [e2] at k1; exact hv k1
    have hvn : v ∉ idx.map (·.2) := by
      intro hm
      obtain ⟨q, hq, e⟩ := List.mem_map.mp hm
      obtain ⟨r', hr', k1, k2, k3⟩ := h4 q hq
      rcases k3 with ⟨e', _⟩ | ⟨e', _⟩
      · rw [e] at e'; rw [← e'] at k2; exact hv k2
      · rw [e] at e'; rw [← e'] at k1; exact hv k1
    refine ⟨(i, v) :: idx, by simp; omega, ?_, ?_, ?_⟩
    · rw [List.map_cons]; exact List.nodup_cons.mpr ⟨hin, h2⟩
    · rw [List.map_cons]; exact List.nodup_cons.mpr ⟨hvn, h3⟩
    · intro q hq
      rcases (List.mem_cons.mp hq) with rfl | hq
      · refine ⟨r, by rw [List.getElem?_eq_getElem hi, hri], ?_⟩
        have lv : (f ++ [(v, (p, dOf f p + l))]).lookup v = some (p, dOf f p + l) := by
          rw [lookup_append (e := (v, (p, _))) hv, if_pos rfl]
        rcases hends with ⟨e1, e2⟩ | ⟨e1, e2⟩
        · refine ⟨by rw [e1]; exact kk p hp, by rw [e2]; exact kv, .inl ⟨e2.symm, ?_⟩⟩
          rw [e2, lv, e1, dd p hp, hl]
        · refine ⟨by rw [e2]; exact kv, by rw [e1]; exact kk p hp, .inr ⟨e2.symm, ?_⟩⟩
          rw [e2, lv, e1, dd p hp, hl]
      · obtain ⟨r', hr', k1, k2, k3⟩ := h4 q hq
        refine ⟨r', hr', kk _ k1, kk _ k2, ?_⟩
        rcases k3 with ⟨e', k3⟩ | ⟨e', k3⟩
        · exact .inl ⟨e', by rw [ll _ k2, k3, dd _ k1]⟩
        · exact .inr ⟨e', by rw [ll _ k1, k3, dd _ k2]⟩
end

/-! ### a full one: every village is found -/
structure Full (n : Nat) (rs : List Road) (s : Int) (f : Found) : Prop where
  gr : Growth rs s f
  all : ∀ v : Int, 0 ≤ v → v < n → v ∈ keys f
def ivs (n : Nat) : List Int := (List.range n).map fun (i : Nat) => (i : Int)
theorem mem_ivs {n : Nat} {v : Int} : v ∈ ivs n ↔ 0 ≤ v ∧ v < n := by
  unfold ivs
  rw [List.mem_map]
  constructor
  · rintro ⟨i, hi, rfl⟩
    have := List.mem_range.mp hi
    omega
  · intro h
    exact ⟨v.toNat, List.mem_range.mpr (by omega), by omega⟩
theorem ivs_nodup (n : Nat) : (ivs n).Nodup := by
  unfold ivs List.Nodup
  rw [List.pairwise_map]
  exact List.Pairwise.imp (R := fun (a b : Nat) => a ≠ b) (fun {a b} (h : a ≠ b) (e : (a : Int) = (b : Int)) => h (by omega)) List.nodup_range
theorem ivs_length (n : Nat) : (ivs n).length = n := by simp [ivs]
section
variable {n : Nat} {rs : List Road} {s : Int} {f : Found}
theorem Full.length (k : RoadsOk n rs) (hs : 0 ≤ s ∧ s < n) (F : Full n rs s f) : f.length = n := by
  have h1 : (keys f).length ≤ (ivs n).length := List.Nodup.length_le_of_subset F.gr.nodup fun v hv => mem_ivs.mpr (F.gr.range k hs v hv)
  have h2 : (ivs n).length ≤ (keys f).length := List.Nodup.length_le_of_subset (ivs_nodup n) fun v hv => F.all v (mem_ivs.mp hv).1 (mem_ivs.mp hv).2
  rw [ivs_length] at h1 h2
  simp [keys] at h1 h2
  omega
theorem Growth.length_le (k : RoadsOk n rs) (hs : 0 ≤ s ∧ s < n) (g : Growth rs s f) : f.length ≤ n := by
  have h1 : (keys f).length ≤ (ivs n).length := List.Nodup.length_le_of_subset g.nodup fun v hv => mem_ivs.mpr (g.range k hs v hv)
  rw [ivs_length] at h1
  simpa [keys] using h1
theorem pigeon {k : Nat} {l : List Nat} (nd : l.Nodup) (hl : ∀ i ∈ l, i < k) (e : l.length = k) : ∀ i, i < k → i ∈ l := by
  intro i hi
  apply Classical.byContradiction
  intro hn
  have h := List.Nodup.length_le_of_subset (l₁ := i :: l) (l₂ := List.range k) (List.nodup_cons.mpr ⟨hn, nd⟩) (fun x hx => by
    rcases (List.mem_cons.mp hx) with rfl | hx
    · exact List.mem_range.mpr hi
    · exact List.mem_range.mpr (hl x hx))
  rw [List.length_range, List.length_cons] at h
  omega
theorem Full.idx (T : IsTree n rs) (hs : 0 ≤ s ∧ s < n) (F : Full n rs s f) : ∃ idx : List (Nat × Int), (idx.map (·.1)).Nodup ∧ (idx.map (·.2)).Nodup ∧ (∀ i, i < rs.length → ∃ v, (i, v) ∈ idx) ∧
    ∀ q ∈ idx, ∃ r, rs[q.1]? = some r ∧ r.a ∈ keys f ∧ r.b ∈ keys f ∧ ((q.2 = r.b ∧ f.lookup r.b = some (r.a, dOf f r.a + r.l)) ∨ (q.2 = r.a ∧ f.lookup r.a = some (r.b, dOf f r.b + r.l))) := by
  obtain ⟨idx, h1, h2, h3, h4⟩ := F.gr.used
  refine ⟨idx, h2, h3, fun i hi => ?_, h4⟩
  have el : (idx.map (·.1)).length = rs.length := by
    have := F.length T.toRoadsOk hs
    have := T.len
    rw [List.length_map]; omega
  have := pigeon h2 (k := rs.length) (fun j hj => by
    obtain ⟨q, hq, e⟩ := List.mem_map.mp hj
    obtain ⟨r, hr, _⟩ := h4 q hq
    rw [e] at hr
    exact (List.getElem?_eq_some_iff.mp hr).1) el i hi
  obtain ⟨q, hq, e⟩ := (List.mem_map.mp this)
  exact ⟨q.2, by rw [← e]; exact hq⟩
/-- every road was used -/
theorem Full.used (T : IsTree n rs) (hs : 0 ≤ s ∧ s < n) (F : Full n rs s f) : ∀ r ∈ rs, Used f r := by
  intro r hr
  obtain ⟨idx, _, _, h3, h4⟩ := F.idx T hs
  obtain ⟨i, hi, hri⟩ := List.getElem_of_mem hr
  obtain ⟨v, hv⟩ := h3 i hi
  obtain ⟨r', hr', _, _, h⟩ := h4 _ hv
  rw [List.getElem?_eq_getElem hi, hri] at hr'
  cases hr'
  rcases h with ⟨_, h⟩ | ⟨_, h⟩
  · exact .inl h
  · exact .inr h
theorem dOf_of {v p d : Int} (h : f.lookup v = some (p, d)) : dOf f v = d := by unfold dOf; rw [h]; rfl
theorem parOf_of {v p d : Int} (h : f.lookup v = some (p, d)) : parOf f v = p := by unfold parOf; rw [h]; rfl
def SameEnds (r t : Road) : Prop := (r.a = t.a ∧ r.b = t.b) ∨ (r.a = t.b ∧ r.b = t.a)
theorem nodup_fst {idx : List (Nat × Int)} (h : (idx.map (·.2)).Nodup) {i j : Nat} {v : Int} (hi : (i, v) ∈ idx) (hj : (j, v) ∈ idx) : i = j := by
  induction idx with
  | nil => cases hi
  | cons e t ih =>
    simp only [List.map_cons, List.nodup_cons] at h
    rcases List.mem_cons.mp hi with h1 | h1 <;> rcases List.mem_cons.mp hj with h2 | h2
    · have := h1.trans h2.symm; exact (Prod.mk.inj this).1
    · exact absurd (List.mem_map.mpr ⟨_, h2, by rw [← h1]⟩) h.1
    · exact absurd (List.mem_map.mpr ⟨_, h1, by rw [← h2]⟩) h.1
    · exact ih h.2 h1 h2
/-- no two roads between the same villages -/
theorem Full.single (T : IsTree n rs) (hs : 0 ≤ s ∧ s < n) (F : Full n rs s f) {i j : Nat} {r t : Road} (hi : rs[i]? = some r) (hj : rs[j]? = some t) (he : SameEnds r t) : i = j := by
  obtain ⟨idx, _, h2, h3, h4⟩ := F.idx T hs
  have hi' := (List.getElem?_eq_some_iff.mp hi).1
  have hj' := (List.getElem?_eq_some_iff.mp hj).1
  obtain ⟨v, hv⟩ := h3 i hi'
  obtain ⟨w, hw⟩ := h3 j hj'
  obtain ⟨r', hr', _, _, k1⟩ := h4 _ hv
  obtain ⟨t', ht', _, _, k2⟩ := h4 _ hw
  rw [hi] at hr'; cases hr'
  rw [hj] at ht'; cases ht'
  have o1 := T.ok r (List.mem_of_getElem? hi)
  have o2 := T.ok t (List.mem_of_getElem? hj)
  by_cases e : v = w
  · subst e; exact nodup_fst h2 hv hw
  · exfalso
    unfold SameEnds at he
    rcases k1 with ⟨e1, k1⟩ | ⟨e1, k1⟩ <;> rcases k2 with ⟨e2, k2⟩ | ⟨e2, k2⟩
    all_goals
      have d1 := dOf_of k1
      have d2 := dOf_of k2
      rcases he with ⟨x1, x2⟩ | ⟨x1, x2⟩
      all_goals
        simp only at e1 e2
        first
          | (exact e (by rw [e1, e2]; assumption))
          | (exact e (by rw [e1, e2]; first | exact x1 | exact x2))
          | (rw [x1] at d1; rw [x2] at d1; omega)
          | (rw [x1, x2] at d1; omega)
          | grind
end
end Wr

namespace Wr

def scan (here : Int) : List Road → Found → List Int → Found × List Int
  | [], f, w => (f, w)
  | r :: rs, f, w =>
    if here = r.a ∨ here = r.b then
      if (f.lookup (r.a + r.b - here)).isSome then scan here rs f w
      else scan here rs (f ++ [(r.a + r.b - here, (here, dOf f here + r.l))]) (w ++ [r.a + r.b - here])
    else scan here rs f w
theorem scan_cons (here : Int) (r : Road) (rs : List Road) (f : Found) (w : List Int) : scan here (r :: rs) f w = if here = r.a ∨ here = r.b then
      if (f.lookup (r.a + r.b - here)).isSome then scan here rs f w
      else scan here rs (f ++ [(r.a + r.b - here, (here, dOf f here + r.l))]) (w ++ [r.a + r.b - here])
    else scan here rs f w := rfl
def bfsGo (rs : List Road) : Nat → Found → List Int → Found
  | 0, f, _ => f
  | _ + 1, f, [] => f
  | k + 1, f, h :: t => bfsGo rs k (scan h rs f t).1 (scan h rs f t).2
/-- what Tree.walked finds -/
def walked (n : Nat) (rs : List Road) (s : Int) : Found := bfsGo rs n [(s, (-1, 0))] [s]

section
variable {n : Nat} {rs : List Road} {s : Int} {f : Found}
theorem scan_spec (here : Int) : ∀ (rs' : List Road) (f : Found) (w : List Int), (∀ r ∈ rs', r ∈ rs) → Growth rs s f → here ∈ keys f →
    Growth rs s (scan here rs' f w).1 ∧ (∃ more : Found, (scan here rs' f w).1 = f ++ more ∧ (scan here rs' f w).2 = w ++ keys more) ∧
    ∀ r ∈ rs', (here = r.a ∨ here = r.b) → (r.a + r.b - here) ∈ keys (scan here rs' f w).1
  | [], f, w, _, g, _ => ⟨g, ⟨[], by simp [scan], by simp [scan, keys]⟩, fun _ h => nomatch h⟩
  | r :: rs', f, w, hs, g, hh => by
    unfold scan
    by_cases c : here = r.a ∨ here = r.b
    · rw [if_pos c]
      by_cases d : (f.lookup (r.a + r.b - here)).isSome = true
      · rw [if_pos d]
        obtain ⟨h1, ⟨more, h2, h3⟩, h4⟩ := scan_spec here rs' f w (fun r h => hs r (List.mem_cons_of_mem _ h)) g hh
        refine ⟨h1, ⟨more, h2, h3⟩, fun r' hr' c' => ?_⟩
        rcases List.mem_cons.mp hr' with rfl | hr'
        · rw [h2, keys_append]
          exact List.mem_append_left _ (lookup_isSome_iff.mp d)
        · exact h4 r' hr' c'
      · rw [if_neg d]
        have hv : (r.a + r.b - here) ∉ keys f := fun q => d (lookup_isSome_iff.mpr q)
        have ad : Adj rs here (r.a + r.b - here) r.l := by
          refine ⟨r, hs r (List.mem_cons_self ..), rfl, ?_⟩
          rcases c with c | c
          · exact .inl ⟨c.symm, by omega⟩
          · exact .inr ⟨c.symm, by omega⟩
        have g' := Growth.snoc g hh ad hv
        obtain ⟨h1, ⟨more, h2, h3⟩, h4⟩ := scan_spec here rs' (f ++ [(r.a + r.b - here, (here, dOf f here + r.l))]) (w ++ [r.a + r.b - here]) (fun r h => hs r (List.mem_cons_of_mem _ h)) g' (by rw [keys_append]; exact List.mem_append_left _ hh)
        refine ⟨h1, ⟨(r.a + r.b - here, (here, dOf f here + r.l)) :: more, by rw [h2]; simp, by rw [h3]; simp [keys]⟩, fun r' hr' c' => ?_⟩
        rcases List.mem_cons.mp hr' with rfl | hr'
        · rw [h2, keys_append, keys_append]
          exact List.mem_append_left _ (List.mem_append_right _ (by simp [keys]))
        · exact h4 r' hr' c'
    · rw [if_neg c]
      obtain ⟨h1, ⟨more, h2, h3⟩, h4⟩ := scan_spec here rs' f w (fun r h => hs r (List.mem_cons_of_mem _ h)) g hh
      refine ⟨h1, ⟨more, h2, h3⟩, fun r' hr' c' => ?_⟩
      rcases List.mem_cons.mp hr' with rfl | hr'
      · exact absurd c' c
      · exact h4 r' hr' c'
def Closed (rs : List Road) (f : Found) : Prop := ∀ u v l, u ∈ keys f → Adj rs u v l → v ∈ keys f
theorem bfsGo_spec (k : RoadsOk n rs) (hs : 0 ≤ s ∧ s < n) : ∀ (m : Nat) (f : Found) (w : List Int), Growth rs s f → (∀ x ∈ w, x ∈ keys f) →
    (∀ u ∈ keys f, u ∈ w ∨ ∀ v l, Adj rs u v l → v ∈ keys f) → n + w.length ≤ f.length + m → Growth rs s (bfsGo rs m f w) ∧ Closed rs (bfsGo rs m f w)
  | 0, f, w, g, hw, hc, hm => by
    unfold bfsGo
    have := g.length_le k hs
    have w0 : w = [] := List.eq_nil_of_length_eq_zero (by omega)
    subst w0
    refine ⟨g, fun u v l hu ha => ?_⟩
    rcases hc u hu with h | h
    · cases h
    · exact h v l ha
  | m + 1, f, [], g, hw, hc, hm => by
    unfold bfsGo
    refine ⟨g, fun u v l hu ha => ?_⟩
    rcases hc u hu with h | h
    · cases h
    · exact h v l ha
  | m + 1, f, h :: t, g, hw, hc, hm => by
    unfold bfsGo
    have hh := hw h (List.mem_cons_self ..)
    obtain ⟨h1, ⟨more, h2, h3⟩, h4⟩ := scan_spec (rs := rs) h rs f t (fun _ q => q) g hh
    refine bfsGo_spec k hs m _ _ h1 ?_ ?_ ?_
    · intro x hx
      rw [h3] at hx
      rw [h2, keys_append]
      rcases List.mem_append.mp hx with q | q
      · exact List.mem_append_left _ (hw x (List.mem_cons_of_mem _ q))
      · exact List.mem_append_right _ q
    · intro u hu
      rw [h3]
      rw [h2, keys_append] at hu
      rcases List.mem_append.mp hu with q | q
      · by_cases e : u = h
        · subst e
          refine .inr fun v l ⟨r, hr, _, ends⟩ => ?_
          rcases ends with ⟨e1, e2⟩ | ⟨e1, e2⟩
          · have := h4 r hr (.inl e1.symm)
            rw [show r.a + r.b - u = v by omega] at this
            exact this
          · have := h4 r hr (.inr e1.symm)
            rw [show r.a + r.b - u = v by omega] at this
            exact this
        · rcases hc u q with q' | q'
          · rcases List.mem_cons.mp q' with q' | q'
            · exact absurd q' e
            · exact .inl (List.mem_append_left _ q')
          · refine .inr fun v l ha => ?_
            rw [h2, keys_append]
            exact List.mem_append_left _ (q' v l ha)
      · exact .inl (List.mem_append_right _ q)
    · rw [h2, h3]
      simp [keys] at hm ⊢
      omega
theorem walked_spec (k : RoadsOk n rs) (hs : 0 ≤ s ∧ s < n) : Growth rs s (walked n rs s) ∧ Closed rs (walked n rs s) := by
  unfold walked
  refine bfsGo_spec k hs n _ _ .start (fun x hx => by simpa [keys] using hx) (fun u hu => .inl (by simpa [keys] using hu)) (by simp; omega)
theorem Closed.reach (c : Closed rs f) {u v d : Int} (w : Walk rs u v d) (hu : u ∈ keys f) : v ∈ keys f := by
  induction w with
  | nil => exact hu
  | snoc _ a ih => exact c _ _ _ ih a
theorem IsTree.reach (T : IsTree n rs) {u v : Int} (hu : 0 ≤ u ∧ u < n) (hv : 0 ≤ v ∧ v < n) : Reach rs u v := (T.conn u hu.1 hu.2).symm.trans (T.conn v hv.1 hv.2)
theorem IsTree.full (T : IsTree n rs) (hs : 0 ≤ s ∧ s < n) (g : Growth rs s f) (c : Closed rs f) : Full n rs s f :=
  ⟨g, fun v h1 h2 => let ⟨_, w⟩ := T.reach hs ⟨h1, h2⟩; c.reach w g.mem_start⟩
theorem IsTree.walked (T : IsTree n rs) (hs : 0 ≤ s ∧ s < n) : Full n rs s (walked n rs s) :=
  let ⟨g, c⟩ := walked_spec T.toRoadsOk hs
  T.full hs g c
/-- so many villages come to: then it is a tree -/
theorem tree_of_len (k : RoadsOk n rs) (h1 : 1 ≤ n) (h2 : n ≤ 12) (h3 : rs.length + 1 = n) (h4 : ¬ ((walked n rs 0).length < n)) : IsTree n rs := by
  refine ⟨k, h1, h2, h3, fun v hv hv2 => ?_⟩
  have hs : (0 : Int) ≤ 0 ∧ (0 : Int) < n := ⟨Int.le_refl _, by omega⟩
  obtain ⟨g, c⟩ := walked_spec k hs
  have : v ∈ keys (walked n rs 0) := by
    apply Classical.byContradiction
    intro hn
    have := List.Nodup.length_le_of_subset (l₁ := v :: keys (walked n rs 0)) (l₂ := ivs n) (List.nodup_cons.mpr ⟨hn, g.nodup⟩) (fun x hx => by
      rcases (List.mem_cons.mp hx) with rfl | hx
      · exact mem_ivs.mpr ⟨hv, hv2⟩
      · exact mem_ivs.mpr (g.range k hs x hx))
    rw [ivs_length, List.length_cons] at this
    simp [keys] at this
    omega
  exact ⟨_, g.walk v this⟩
theorem IsTree.len_walked (T : IsTree n rs) (hs : 0 ≤ s ∧ s < n) : (Wr.walked n rs s).length = n := (T.walked hs).length T.toRoadsOk hs

/-! ### distances -/
def D (n : Nat) (rs : List Road) (s v : Int) : Int := dOf (walked n rs s) v
theorem Full.step (T : IsTree n rs) (hs : 0 ≤ s ∧ s < n) (F : Full n rs s f) {u v l : Int} (a : Adj rs u v l) : dOf f v = dOf f u + l ∨ dOf f u = dOf f v + l := by
  obtain ⟨r, hr, rfl, ends⟩ := a
  have := F.used T hs r hr
  rcases this with h | h
  · have := dOf_of h
    rcases ends with ⟨rfl, rfl⟩ | ⟨rfl, rfl⟩
    · exact .inl this
    · exact .inr this
  · have := dOf_of h
    rcases ends with ⟨rfl, rfl⟩ | ⟨rfl, rfl⟩
    · exact .inr this
    · exact .inl this
theorem dOf_start (g : Growth rs s f) : dOf f s = 0 := dOf_of g.look_start
theorem Full.least (T : IsTree n rs) (hs : 0 ≤ s ∧ s < n) (F : Full n rs s f) {v d : Int} (w : Walk rs s v d) : dOf f v ≤ d := by
  induction w with
  | nil => rw [dOf_start F.gr]; exact Int.le_refl _
  | snoc _ a ih =>
    have := (a.range T.toRoadsOk).2.2.2.2.2.1
    rcases F.step T hs a with h | h <;> omega
theorem Full.dist (T : IsTree n rs) (hs : 0 ≤ s ∧ s < n) (F : Full n rs s f) {v : Int} (hv : 0 ≤ v ∧ v < n) : dOf f v = D n rs s v := by
  have G := T.walked hs
  have h1 := F.least T hs (G.gr.walk v (G.all v hv.1 hv.2))
  have h2 := G.least T hs (F.gr.walk v (F.all v hv.1 hv.2))
  unfold D
  omega
theorem D_self (T : IsTree n rs) (hs : 0 ≤ s ∧ s < n) : D n rs s s = 0 := dOf_start (T.walked hs).gr
theorem D_walk (T : IsTree n rs) (hs : 0 ≤ s ∧ s < n) {v : Int} (hv : 0 ≤ v ∧ v < n) : Walk rs s v (D n rs s v) := (T.walked hs).gr.walk v ((T.walked hs).all v hv.1 hv.2)
theorem D_least (T : IsTree n rs) (hs : 0 ≤ s ∧ s < n) {v d : Int} (w : Walk rs s v d) : D n rs s v ≤ d := (T.walked hs).least T hs w
theorem D_symm (T : IsTree n rs) {u v : Int} (hu : 0 ≤ u ∧ u < n) (hv : 0 ≤ v ∧ v < n) : D n rs u v = D n rs v u := by
  have h1 := D_least T hu (D_walk T hv hu).symm
  have h2 := D_least T hv (D_walk T hu hv).symm
  omega
theorem D_tri (T : IsTree n rs) {u v w : Int} (hu : 0 ≤ u ∧ u < n) (hv : 0 ≤ v ∧ v < n) (hw : 0 ≤ w ∧ w < n) : D n rs u w ≤ D n rs u v + D n rs v w :=
  D_least T hu ((D_walk T hu hv).trans (D_walk T hv hw))
theorem Walk.nonneg (k : RoadsOk n rs) {u v d : Int} (w : Walk rs u v d) : 0 ≤ d := by
  induction w with
  | nil => exact Int.le_refl _
  | snoc _ a ih => have := (a.range k).2.2.2.2.2.1; omega
theorem D_nonneg (T : IsTree n rs) {u v : Int} (hu : 0 ≤ u ∧ u < n) (hv : 0 ≤ v ∧ v < n) : 0 ≤ D n rs u v := (D_walk T hu hv).nonneg T.toRoadsOk
/-- A: each road goes up or down -/
theorem D_step (T : IsTree n rs) (hs : 0 ≤ s ∧ s < n) {u v l : Int} (a : Adj rs u v l) : D n rs s v = D n rs s u + l ∨ D n rs s u = D n rs s v + l := (T.walked hs).step T hs a
/-- B: one parent -/
theorem D_par (T : IsTree n rs) (hs : 0 ≤ s ∧ s < n) {u v l : Int} (a : Adj rs u v l) (h : D n rs s v = D n rs s u + l) : (Wr.walked n rs s).lookup v = some (u, D n rs s v) := by
  obtain ⟨r, hr, rfl, ends⟩ := a
  have := T.ok r hr
  have used := (T.walked hs).used T hs r hr
  unfold D at h ⊢
  rcases used with q | q
  · have e := dOf_of q
    rcases ends with ⟨rfl, rfl⟩ | ⟨rfl, rfl⟩
    · rw [q]; simp; omega
    · omega
  · have e := dOf_of q
    rcases ends with ⟨rfl, rfl⟩ | ⟨rfl, rfl⟩
    · omega
    · rw [q]; simp; omega
theorem D_par_unique (T : IsTree n rs) (hs : 0 ≤ s ∧ s < n) {u u' v l l' : Int} (a : Adj rs u v l) (h : D n rs s v = D n rs s u + l) (a' : Adj rs u' v l') (h' : D n rs s v = D n rs s u' + l') : u = u' := by
  have h1 := D_par T hs a h
  have h2 := D_par T hs a' h'
  rw [h1] at h2
  injection h2 with h2
  exact congrArg Prod.fst h2
/-- P4: there is a parent -/
theorem D_parent (T : IsTree n rs) (hs : 0 ≤ s ∧ s < n) {v : Int} (hv : 0 ≤ v ∧ v < n) (hn : v ≠ s) : ∃ p l, (Wr.walked n rs s).lookup v = some (p, D n rs s v) ∧ Adj rs p v l ∧ D n rs s v = D n rs s p + l ∧ 0 ≤ p ∧ p < n := by
  have F := T.walked hs
  obtain ⟨p, l, h1, h2, h3⟩ := F.gr.entry v (F.all v hv.1 hv.2) hn
  have e := dOf_of h1
  have r := F.gr.range T.toRoadsOk hs p h2
  refine ⟨p, l, ?_, h3, e, r.1, r.2⟩
  rw [h1]
  unfold D
  rw [e]
theorem D_edge (T : IsTree n rs) {u v l : Int} (a : Adj rs u v l) : D n rs u v = l := by
  have r := a.range T.toRoadsOk
  have hu : 0 ≤ u ∧ u < n := ⟨r.1, r.2.1⟩
  have hv : 0 ≤ v ∧ v < n := ⟨r.2.2.1, r.2.2.2.1⟩
  have := D_self T hu
  have := D_nonneg T hu hv
  rcases D_step T hu a with h | h <;> omega
theorem D_pos (T : IsTree n rs) {u v : Int} (hu : 0 ≤ u ∧ u < n) (hv : 0 ≤ v ∧ v < n) (hn : v ≠ u) : 0 < D n rs u v := by
  obtain ⟨p, l, _, a, h, hp1, hp2⟩ := D_parent T hu hv hn
  have := (a.range T.toRoadsOk).2.2.2.2.2.1
  have := D_nonneg T hu ⟨hp1, hp2⟩
  omega
end
end Wr

namespace Wr

/-- up from x to the start o of a found one -/
inductive Down (f : Found) (o : Int) : Int → List Int → Prop
  | last : Down f o o [o]
  | step {x p d : Int} {q : List Int} : x ≠ o → f.lookup x = some (p, d) → Down f o p q → Down f o x (x :: q)
def wayGo (f : Found) (o : Int) : Nat → Int → List Int
  | 0, x => [x]
  | k + 1, x => if x = o then [x] else x :: wayGo f o k (parOf f x)
def wayL (n : Nat) (rs : List Road) (u v : Int) : List Int := wayGo (walked n rs v) v (D n rs v u).toNat u
section
variable {n : Nat} {rs : List Road} {s o : Int} {f : Found}
theorem wayGo_down (T : IsTree n rs) (ho : 0 ≤ o ∧ o < n) : ∀ (k : Nat) (x : Int), 0 ≤ x → x < n → D n rs o x ≤ k → Down (walked n rs o) o x (wayGo (walked n rs o) o k x)
  | 0, x, h0, h1, hd => by
    have e : x = o := by
      apply Classical.byContradiction
      intro hn
      have := D_pos T ho ⟨h0, h1⟩ hn
      omega
    subst e
    exact .last
  | k + 1, x, h0, h1, hd => by
    unfold wayGo
    by_cases e : x = o
    · rw [if_pos e, e]; exact .last
    · rw [if_neg e]
      obtain ⟨p, l, h, a, hD, hp0, hp1⟩ := D_parent T ho ⟨h0, h1⟩ e
      have := (a.range T.toRoadsOk).2.2.2.2.2.1
      rw [parOf_of h]
      exact .step e h (wayGo_down T ho k p hp0 hp1 (by omega))
theorem wayL_down (T : IsTree n rs) {u v : Int} (hu : 0 ≤ u ∧ u < n) (hv : 0 ≤ v ∧ v < n) : Down (walked n rs v) v u (wayL n rs u v) :=
  wayGo_down T hv _ u hu.1 hu.2 (by have := D_nonneg T hv hu; omega)
theorem Down.head {x : Int} {q : List Int} (h : Down f o x q) : ∃ t, q = x :: t := by
  cases h with
  | last => exact ⟨[], rfl⟩
  | step => exact ⟨_, rfl⟩
theorem Down.getLast {x : Int} {q : List Int} (h : Down f o x q) : q.getLast? = some o := by
  induction h with
  | last => rfl
  | step _ _ h ih =>
    obtain ⟨t, rfl⟩ := h.head
    rw [List.getLast?_cons_cons]; exact ih
theorem Down.eq {x : Int} {q r : List Int} (h : Down f o x q) (g : Down f o x r) : q = r := by
  induction h generalizing r with
  | last => cases g with | last => rfl | step hn => exact absurd rfl hn
  | step hn hl h ih =>
    cases g with
    | last => exact absurd rfl hn
    | step _ hl' g =>
      rw [hl] at hl'
      injection hl' with e
      injection e with e1 e2
      subst e1
      rw [ih g]
/-- all of it stands, nearer and nearer -/
theorem Down.facts (T : IsTree n rs) (ho : 0 ≤ o ∧ o < n) {x : Int} {q : List Int} (h : Down (walked n rs o) o x q) (hx : 0 ≤ x ∧ x < n) :
    q.Nodup ∧ ∀ y ∈ q, 0 ≤ y ∧ y < n ∧ D n rs o y ≤ D n rs o x := by
  induction h with
  | last => exact ⟨by simp, fun y hy => by simp at hy; subst hy; exact ⟨hx.1, hx.2, Int.le_refl _⟩⟩
  | @step x p d q hn hl h ih =>
    obtain ⟨p', l, h', a, hD, hp0, hp1⟩ := D_parent T ho hx hn
    rw [hl] at h'
    injection h' with e
    injection e with e1 e2
    subst e1
    have := (a.range T.toRoadsOk).2.2.2.2.2.1
    obtain ⟨i1, i2⟩ := ih ⟨hp0, hp1⟩
    refine ⟨List.nodup_cons.mpr ⟨fun hm => ?_, i1⟩, fun y hy => ?_⟩
    · have := (i2 x hm).2.2
      omega
    · rcases (List.mem_cons.mp hy) with rfl | hy
      · exact ⟨hx.1, hx.2, Int.le_refl _⟩
      · have := i2 y hy
        exact ⟨this.1, this.2.1, by omega⟩
theorem wayL_len (T : IsTree n rs) {u v : Int} (hu : 0 ≤ u ∧ u < n) (hv : 0 ≤ v ∧ v < n) : (wayL n rs u v).length ≤ n := by
  obtain ⟨h1, h2⟩ := (wayL_down T hu hv).facts T hv hu
  have := List.Nodup.length_le_of_subset (l₂ := ivs n) h1 fun y hy => mem_ivs.mpr ⟨(h2 y hy).1, (h2 y hy).2.1⟩
  rwa [ivs_length] at this
/-- the rows of distances -/
def rowD (n : Nat) (rs : List Road) (s : Int) : List Int := (ivs n).map fun v => D n rs s v
def rowsD (n : Nat) (rs : List Road) : List (List Int) := (ivs n).map fun s => rowD n rs s

/-! ### the law's own walk -/
def relax1 (g : List (Int × Int)) (r : Road) : List (Int × Int) :=
  match g.lookup r.a, g.lookup r.b with
  | some d, none => g ++ [(r.b, d + r.l)]
  | none, some d => g ++ [(r.a, d + r.l)]
  | _, _ => g
def relaxP (rs : List Road) (g : List (Int × Int)) : List (Int × Int) := rs.foldl relax1 g
def relaxN (rs : List Road) : Nat → List (Int × Int) → List (Int × Int)
  | 0, g => g
  | k + 1, g => relaxN rs k (relaxP rs g)
def ownFound (n : Nat) (rs : List Road) (s : Int) : List (Int × Int) := relaxN rs n [(s, 0)]
def prj (f : Found) : List (Int × Int) := f.map fun e => (e.1, e.2.2)
theorem prj_lookup (v : Int) : ∀ f : Found, (prj f).lookup v = (f.lookup v).map (·.2)
  | [] => rfl
  | (k, x) :: f => by
    by_cases e : v = k
    · subst e; simp [prj, List.lookup]
    · have hb : (v == k) = false := by simpa using e
      have := prj_lookup v f
      simp only [prj, List.map_cons, List.lookup, hb] at this ⊢
      exact this
theorem prj_len (f : Found) : (prj f).length = f.length := by simp [prj]
/-- both ends or none -/
def Settled (f : Found) (r : Road) : Prop := r.a ∈ keys f ↔ r.b ∈ keys f
theorem look_dOf {v : Int} (h : v ∈ keys f) : ∃ p, f.lookup v = some (p, dOf f v) := by
  cases e : f.lookup v with
  | none => exact absurd h (lookup_none_iff.mp e)
  | some x => exact ⟨x.1, by rw [dOf_of (p := x.1) (d := x.2) e]⟩
theorem relax1_growth (g : Growth rs s f) {r : Road} (hr : r ∈ rs) : ∃ f', Growth rs s f' ∧ relax1 (prj f) r = prj f' ∧ (∃ more, f' = f ++ more) ∧ (f' = f → Settled f r) ∧ (¬ Settled f r → f.length < f'.length) ∧ (Settled f r → f' = f) := by
  unfold relax1
  rw [prj_lookup, prj_lookup]
  by_cases ha : r.a ∈ keys f <;> by_cases hb : r.b ∈ keys f
  · obtain ⟨p, e1⟩ := look_dOf ha
    obtain ⟨q, e2⟩ := look_dOf hb
    rw [e1, e2]
    exact ⟨f, g, rfl, ⟨[], by simp⟩, fun _ => ⟨fun _ => hb, fun _ => ha⟩, fun h => absurd ⟨fun _ => hb, fun _ => ha⟩ h, fun _ => rfl⟩
  · obtain ⟨p, e1⟩ := look_dOf ha
    rw [e1, lookup_none_iff.mpr hb]
    refine ⟨f ++ [(r.b, (r.a, dOf f r.a + r.l))], .snoc g ha ⟨r, hr, rfl, .inl ⟨rfl, rfl⟩⟩ hb, by simp [prj], ⟨_, rfl⟩, fun h => ?_, fun _ => by simp, fun h => absurd (h.mp ha) hb⟩
    have h7 := congrArg List.length h
    simp at h7
  · obtain ⟨p, e1⟩ := look_dOf hb
    rw [e1, lookup_none_iff.mpr ha]
    refine ⟨f ++ [(r.a, (r.b, dOf f r.b + r.l))], .snoc g hb ⟨r, hr, rfl, .inr ⟨rfl, rfl⟩⟩ ha, by simp [prj], ⟨_, rfl⟩, fun h => ?_, fun _ => by simp, fun h => absurd (h.mpr hb) ha⟩
    have h7 := congrArg List.length h
    simp at h7
  · rw [lookup_none_iff.mpr ha, lookup_none_iff.mpr hb]
    exact ⟨f, g, rfl, ⟨[], by simp⟩, fun _ => ⟨fun h => absurd h ha, fun h => absurd h hb⟩, fun h => absurd ⟨fun h => absurd h ha, fun h => absurd h hb⟩ h, fun _ => rfl⟩
theorem relaxP_growth : ∀ (rs' : List Road) (f : Found), (∀ r ∈ rs', r ∈ rs) → Growth rs s f → ∃ f', Growth rs s f' ∧ rs'.foldl relax1 (prj f) = prj f' ∧ f.length ≤ f'.length ∧ ((∀ r ∈ rs', Settled f r) → f' = f) ∧ (¬ (∀ r ∈ rs', Settled f r) → f.length < f'.length)
  | [], f, _, g => ⟨f, g, rfl, Nat.le_refl _, fun _ => rfl, fun h => absurd (fun _ h => nomatch h) h⟩
  | r :: rs', f, hs, g => by
    obtain ⟨f1, g1, e1, ⟨more, hm⟩, h1, h2, h3⟩ := relax1_growth g (hs r (List.mem_cons_self ..))
    obtain ⟨f2, g2, e2, l2, h4, h5⟩ := relaxP_growth rs' f1 (fun r h => hs r (List.mem_cons_of_mem _ h)) g1
    have l1 : f.length ≤ f1.length := by rw [hm]; simp
    refine ⟨f2, g2, by rw [List.foldl_cons, e1, e2], by omega, fun h => ?_, fun h => ?_⟩
    · have q := h3 (h r (List.mem_cons_self ..))
      subst q
      exact h4 fun r' hr' => h r' (List.mem_cons_of_mem _ hr')
    · by_cases c : Settled f r
      · have q := h3 c
        subst q
        exact h5 fun h' => h fun r' hr' => by
          rcases List.mem_cons.mp hr' with rfl | hr'
          · exact c
          · exact h' r' hr'
      · have := h2 c
        omega
theorem settled_closed (h : ∀ r ∈ rs, Settled f r) : Closed rs f := by
  rintro u v l hu ⟨r, hr, _, ⟨rfl, rfl⟩ | ⟨rfl, rfl⟩⟩
  · exact (h r hr).mp hu
  · exact (h r hr).mpr hu
theorem relaxN_full (k : RoadsOk n rs) (hs : 0 ≤ s ∧ s < n) : ∀ (m : Nat) (f : Found), Growth rs s f → n < f.length + m ∨ (∀ r ∈ rs, Settled f r) → ∃ f', Growth rs s f' ∧ Closed rs f' ∧ relaxN rs m (prj f) = prj f'
  | 0, f, g, h => by
    have := g.length_le k hs
    rcases h with h | h
    · omega
    · exact ⟨f, g, settled_closed h, rfl⟩
  | m + 1, f, g, h => by
    obtain ⟨f1, g1, e1, l1, h1, h2⟩ := relaxP_growth rs f (fun _ q => q) g
    unfold relaxN relaxP
    rw [e1]
    by_cases c : ∀ r ∈ rs, Settled f r
    · have := h1 c
      subst this
      exact relaxN_full k hs m _ g1 (.inr c)
    · have := h2 c
      rcases h with h | h
      · exact relaxN_full k hs m f1 g1 (.inl (by omega))
      · exact absurd h c
theorem ownFound_full (T : IsTree n rs) (hs : 0 ≤ s ∧ s < n) : ∃ f, Full n rs s f ∧ ownFound n rs s = prj f := by
  obtain ⟨f, g, c, e⟩ := relaxN_full T.toRoadsOk hs n [(s, (-1, 0))] .start (.inl (by simp))
  exact ⟨f, T.full hs g c, e⟩
theorem ownFound_look (T : IsTree n rs) (hs : 0 ≤ s ∧ s < n) {v : Int} (hv : 0 ≤ v ∧ v < n) : (ownFound n rs s).lookup v = some (D n rs s v) := by
  obtain ⟨f, F, e⟩ := ownFound_full T hs
  rw [e, prj_lookup]
  obtain ⟨p, h⟩ := look_dOf (F.all v hv.1 hv.2)
  rw [h, F.dist T hs hv]
  rfl
end
end Wr

namespace Wr

def cellV (ns : List Int) (k : Nat) : Int := ns.getD k 0
def primes : List Int := [1000003, 1000033, 1000037, 1000039, 1000081, 1000099, 1000117, 1000121]
def draw (cell k many : Int) : Int := (cell * 48271 + k * 69621 + cell / 1000003 % 1000003 * 40692) % (primes.getD (k % 8).toNat 1) % many
theorem draw_nonneg {cell k many : Int} (h : 0 < many) : 0 ≤ draw cell k many := Int.emod_nonneg _ (by omega)
theorem draw_lt {cell k many : Int} (h : 0 < many) : draw cell k many < many := Int.emod_lt_of_pos _ h
def nameV (k n turn : Int) : Int := if 1 < n ∧ (turn = 1 ∨ n % turn ≠ 0) then k * turn % n else k
def turns : List Int := [1, 5, 7, 11]
def greats : List Int := [1, 4, 9, 1000000]
def turnV (cell : Int) : Int := turns.getD (cell / 48 % 4).toNat 0
def greatV (cell : Int) : Int := greats.getD (cell / 12 % 4).toNat 0
def min2 (i j : Int) : Int := if j < i then j else i
def max2 (i j : Int) : Int := if j > i then j else i
def toldN (cell most : Int) : Int := if cell / 7 % 6 = 1 then 1 + cell / 42 % most else 1 + cell % min2 most 7
def aboveV (cell other k : Int) : Int := if cell / 192 % 3 = 0 then max2 0 (k - 1 - draw other k 2) else draw other k k
def toldRoad (cell other n k : Int) : Road :=
  if draw other (k + 2) 2 = 0 then ⟨nameV (aboveV cell other k) n (turnV cell), nameV k n (turnV cell), 1 + draw other (k + 5) (greatV cell)⟩
  else ⟨nameV k n (turnV cell), nameV (aboveV cell other k) n (turnV cell), 1 + draw other (k + 5) (greatV cell)⟩
def ins {α : Type} (rs : List α) (p : Int) (r : α) : List α := rs.take p.toNat ++ [r] ++ rs.drop p.toNat
def toldRs (cell other n : Int) : Nat → List Road
  | 0 => []
  | i + 1 => ins (toldRs cell other n i) (draw other (1 + (i : Int) + 3) (((toldRs cell other n i).length : Int) + 1)) (toldRoad cell other n (1 + (i : Int)))
theorem ins_length {α : Type} (rs : List α) (p : Int) (r : α) : (ins rs p r).length = rs.length + 1 := by
  unfold ins
  simp [List.length_append, List.length_take, List.length_drop]
  omega
theorem mem_ins {α : Type} {rs : List α} {p : Int} {r x : α} : x ∈ ins rs p r ↔ x = r ∨ x ∈ rs := by
  unfold ins
  rw [List.mem_append, List.mem_append]
  have h := List.take_append_drop p.toNat rs
  constructor
  · rintro ((h1 | h1) | h1)
    · exact .inr (List.mem_of_mem_take h1)
    · exact .inl (by simpa using h1)
    · exact .inr (List.mem_of_mem_drop h1)
  · rintro (rfl | h1)
    · exact .inl (.inr (by simp))
    · rw [← h] at h1
      rcases List.mem_append.mp h1 with h1 | h1
      · exact .inl (.inl h1)
      · exact .inr h1
theorem toldRs_length (cell other n : Int) : ∀ i, (toldRs cell other n i).length = i
  | 0 => rfl
  | i + 1 => by unfold toldRs; rw [ins_length, toldRs_length cell other n i]
theorem mem_toldRs {cell other n : Int} {x : Road} : ∀ {i : Nat}, x ∈ toldRs cell other n i ↔ ∃ j : Nat, j < i ∧ x = toldRoad cell other n (1 + (j : Int))
  | 0 => by simp [toldRs]
  | i + 1 => by
    unfold toldRs
    rw [mem_ins, mem_toldRs (i := i)]
    constructor
    · rintro (h | ⟨j, hj, h⟩)
      · exact ⟨i, by omega, h⟩
      · exact ⟨j, by omega, h⟩
    · rintro ⟨j, hj, h⟩
      by_cases e : j = i
      · subst e; exact .inl h
      · exact .inr ⟨j, by omega, h⟩
theorem name_table : (List.range 13).all (fun n => turns.all fun t => (ivs n).all fun v => decide (0 ≤ nameV v n t) && decide (nameV v n t < n) && (ivs n).any (fun k => decide (nameV k n t = v)) && (ivs n).all (fun k => !decide (nameV k n t = nameV v n t) || decide (k = v))) = true := by decide +kernel
theorem name_facts {n : Nat} (hn : n ≤ 12) {t : Int} (ht : t ∈ turns) {v : Int} (h0 : 0 ≤ v) (h1 : v < n) : 0 ≤ nameV v n t ∧ nameV v n t < n ∧ (∃ k : Int, 0 ≤ k ∧ k < n ∧ nameV k n t = v) ∧ ∀ k : Int, 0 ≤ k → k < n → nameV k n t = nameV v n t → k = v := by
  have h := name_table
  rw [List.all_eq_true] at h
  have h := h n (List.mem_range.mpr (by omega))
  rw [List.all_eq_true] at h
  have h := h t ht
  rw [List.all_eq_true] at h
  have h := h v (mem_ivs.mpr ⟨h0, h1⟩)
  simp only [Bool.and_eq_true, decide_eq_true_eq, List.any_eq_true, List.all_eq_true, Bool.or_eq_true, Bool.not_eq_true', decide_eq_false_iff_not] at h
  obtain ⟨⟨⟨a, b⟩, k, hk, c⟩, d⟩ := h
  refine ⟨a, b, ⟨k, (mem_ivs.mp hk).1, (mem_ivs.mp hk).2, c⟩, fun k hk0 hk1 e => ?_⟩
  rcases d k (mem_ivs.mpr ⟨hk0, hk1⟩) with q | q
  · exact absurd e q
  · exact q
theorem name_zero (n t : Int) : nameV 0 n t = 0 := by unfold nameV; split <;> simp
theorem getD_mem4 {l : List Int} {i : Nat} {d : Int} (h : i < l.length) : l.getD i d ∈ l := by
  rw [List.getD_eq_getElem?_getD, List.getElem?_eq_getElem h]; exact List.getElem_mem h
theorem turn_mem (cell : Int) : turnV cell ∈ turns := getD_mem4 (by have h1 := Int.emod_nonneg (cell / 48) (show (4 : Int) ≠ 0 by decide); have h2 := Int.emod_lt_of_pos (cell / 48) (show (0 : Int) < 4 by decide); simp [turns]; omega)
theorem great_mem (cell : Int) : greatV cell ∈ greats := getD_mem4 (by have h1 := Int.emod_nonneg (cell / 12) (show (4 : Int) ≠ 0 by decide); have h2 := Int.emod_lt_of_pos (cell / 12) (show (0 : Int) < 4 by decide); simp [greats]; omega)
theorem great_range (cell : Int) : 1 ≤ greatV cell ∧ greatV cell ≤ 1000000 := by
  have := great_mem cell
  simp only [greats, List.mem_cons, List.not_mem_nil, or_false] at this
  omega
theorem toldN_range {cell most : Int} (h1 : 1 ≤ most) (h2 : most ≤ 12) : 1 ≤ toldN cell most ∧ toldN cell most ≤ 12 := by
  unfold toldN min2
  split
  · have a := Int.emod_nonneg (cell / 42) (show most ≠ 0 by omega)
    have b := Int.emod_lt_of_pos (cell / 42) (show 0 < most by omega)
    omega
  · split
    · have a := Int.emod_nonneg cell (show (7 : Int) ≠ 0 by decide)
      have b := Int.emod_lt_of_pos cell (show (0 : Int) < 7 by decide)
      omega
    · have a := Int.emod_nonneg cell (show most ≠ 0 by omega)
      have b := Int.emod_lt_of_pos cell (show 0 < most by omega)
      omega
theorem above_range (cell other : Int) {k : Int} (h : 1 ≤ k) : 0 ≤ aboveV cell other k ∧ aboveV cell other k < k := by
  have d1 := draw_nonneg (cell := other) (k := k) (many := 2) (by decide)
  have d2 := draw_lt (cell := other) (k := k) (many := 2) (by decide)
  have d3 := draw_nonneg (cell := other) (k := k) (many := k) (by omega)
  have d4 := draw_lt (cell := other) (k := k) (many := k) (by omega)
  unfold aboveV max2
  split
  · split <;> omega
  · omega
/-- villages, roads -/
def told (cell other most : Int) : Nat × List Road := ((toldN cell most).toNat, toldRs cell other (toldN cell most) ((toldN cell most).toNat - 1))
theorem toldRoad_ends (cell other n k : Int) : ((toldRoad cell other n k).a = nameV k n (turnV cell) ∧ (toldRoad cell other n k).b = nameV (aboveV cell other k) n (turnV cell)) ∨ ((toldRoad cell other n k).b = nameV k n (turnV cell) ∧ (toldRoad cell other n k).a = nameV (aboveV cell other k) n (turnV cell)) := by
  unfold toldRoad
  split
  · exact .inr ⟨rfl, rfl⟩
  · exact .inl ⟨rfl, rfl⟩
theorem toldRoad_l (cell other n k : Int) : (toldRoad cell other n k).l = 1 + draw other (k + 5) (greatV cell) := by
  unfold toldRoad; split <;> rfl
theorem told_tree (cell other : Int) {most : Int} (h1 : 1 ≤ most) (h2 : most ≤ 12) : IsTree (told cell other most).1 (told cell other most).2 := by
  have hr := toldN_range (cell := cell) h1 h2
  unfold told
  generalize toldN cell most = N at hr
  obtain ⟨n, rfl⟩ : ∃ n : Nat, N = n := ⟨N.toNat, by omega⟩
  simp only [Int.toNat_natCast]
  have ht := turn_mem cell
  have hn : n ≤ 12 := by omega
  have nm : ∀ {k : Int}, 0 ≤ k → k < n → _ := fun {k} a b => name_facts hn ht a b
  refine { ok := ?_, pos := by omega, le := hn, len := by rw [toldRs_length]; omega, conn := ?_ }
  · intro r hr
    obtain ⟨j, hj, rfl⟩ := mem_toldRs.mp hr
    have ab := above_range cell other (k := 1 + (j : Int)) (by omega)
    have f1 := nm (k := 1 + (j : Int)) (by omega) (by omega)
    have f2 := nm (k := aboveV cell other (1 + (j : Int))) ab.1 (by omega)
    have ne : nameV (1 + (j : Int)) n (turnV cell) ≠ nameV (aboveV cell other (1 + (j : Int))) n (turnV cell) := fun e => by
      have := f2.2.2.2 (1 + (j : Int)) (by omega) (by omega) e
      omega
    have gr := great_range cell
    have dl := draw_nonneg (cell := other) (k := 1 + (j : Int) + 5) (many := greatV cell) (by omega)
    have du := draw_lt (cell := other) (k := 1 + (j : Int) + 5) (many := greatV cell) (by omega)
    have hl := toldRoad_l cell other n (1 + (j : Int))
    rcases toldRoad_ends cell other n (1 + (j : Int)) with ⟨e1, e2⟩ | ⟨e1, e2⟩
    · rw [e1, e2, hl]
      exact ⟨f1.1, f1.2.1, f2.1, f2.2.1, ne, by omega, by omega⟩
    · rw [e1, e2, hl]
      exact ⟨f2.1, f2.2.1, f1.1, f1.2.1, ne.symm, by omega, by omega⟩
  · have key : ∀ k : Nat, k < n → Reach (toldRs cell other n (n - 1)) 0 (nameV k n (turnV cell)) := by
      intro k
      induction k using Nat.strongRecOn with
      | _ k ih =>
        intro hk
        by_cases e : k = 0
        · subst e
          have : nameV ((0 : Nat) : Int) n (turnV cell) = 0 := name_zero _ _
          rw [this]; exact .refl
        · have ab := above_range cell other (k := (k : Int)) (by omega)
          have i1 := ih (aboveV cell other (k : Int)).toNat (by omega) (by omega)
          have ec : (((aboveV cell other (k : Int)).toNat : Nat) : Int) = aboveV cell other k := by omega
          rw [ec] at i1
          have hm : toldRoad cell other n k ∈ toldRs cell other n (n - 1) := mem_toldRs.mpr ⟨k - 1, by omega, by congr 1; omega⟩
          refine i1.trans ⟨0 + (toldRoad cell other n k).l, .snoc .nil ⟨_, hm, rfl, ?_⟩⟩
          rcases toldRoad_ends cell other n k with ⟨e1, e2⟩ | ⟨e1, e2⟩
          · exact .inr ⟨e2, e1⟩
          · exact .inl ⟨e2, e1⟩
    intro v h0 hv
    obtain ⟨k, k0, k1, rfl⟩ := (nm h0 hv).2.2.1
    have := key k.toNat (by omega)
    rwa [show ((k.toNat : Nat) : Int) = k by omega] at this
end Wr

namespace Wr
theorem filter_one {α : Type} {p : α → Bool} : ∀ {l : List α} {i : Nat} {x : α}, l[i]? = some x → p x = true → (∀ (j : Nat) y, l[j]? = some y → p y = true → j = i) → l.filter p = [x]
  | [], i, x, h, _, _ => by simp at h
  | a :: l, 0, x, h, px, hu => by
    simp at h
    subst h
    rw [List.filter_cons, if_pos px]
    congr 1
    rw [List.filter_eq_nil_iff]
    intro y hy py
    obtain ⟨j, hj, e⟩ := List.getElem_of_mem hy
    have := hu (j + 1) y (by simp [hj, e]) py
    omega
  | a :: l, i + 1, x, h, px, hu => by
    have h' : l[i]? = some x := by simpa using h
    have hn : ¬ p a = true := fun pa => by
      have := hu 0 a (by simp) pa
      omega
    rw [List.filter_cons, if_neg hn]
    exact filter_one h' px fun j y hj py => by
      have := hu (j + 1) y (by simpa using hj) py
      omega
def sameE (x y : Int) (r : Road) : Bool := decide ((r.a = x ∧ r.b = y) ∨ (r.a = y ∧ r.b = x))
section
variable {n : Nat} {rs : List Road} {s o : Int} {f : Found}
theorem one_road (T : IsTree n rs) {x y l : Int} (a : Adj rs x y l) : ∃ r, rs.filter (sameE x y) = [r] ∧ r.l = l := by
  obtain ⟨r, hr, hl, ends⟩ := a
  obtain ⟨i, hi, hri⟩ := List.getElem_of_mem hr
  have hs : (0 : Int) ≤ 0 ∧ (0 : Int) < n := ⟨Int.le_refl _, by have := T.pos; omega⟩
  have hi' : rs[i]? = some r := by rw [List.getElem?_eq_getElem hi, hri]
  refine ⟨r, filter_one hi' ?_ ?_, hl⟩
  · unfold sameE
    rw [decide_eq_true_eq]
    rcases ends with ⟨h1, h2⟩ | ⟨h1, h2⟩
    · exact .inl ⟨h1, h2⟩
    · exact .inr ⟨h2, h1⟩
  · intro j t hj ht
    unfold sameE at ht
    rw [decide_eq_true_eq] at ht
    refine (T.walked hs).single T hs hj hi' ?_
    unfold SameEnds
    grind
theorem Down.link (T : IsTree n rs) (ho : 0 ≤ o ∧ o < n) {x : Int} {q : List Int} (h : Down (walked n rs o) o x q) (hx : 0 ≤ x ∧ x < n) : ∀ (i : Nat) y z, q[i]? = some y → q[i + 1]? = some z → ∃ l, Adj rs z y l ∧ D n rs o y = D n rs o z + l := by
  induction h with
  | last => intro i y z _ h; simp at h
  | @step x p d q hn hl h ih =>
    obtain ⟨p', l, h', a, hD, hp0, hp1⟩ := D_parent T ho hx hn
    rw [hl] at h'
    injection h' with e
    injection e with e1 e2
    subst e1
    intro i y z h1 h2
    cases i with
    | zero =>
      obtain ⟨t, rfl⟩ := h.head
      simp at h1 h2
      subst h1 h2
      exact ⟨l, a, hD⟩
    | succ i =>
      exact ih ⟨hp0, hp1⟩ i y z (by simpa using h1) (by simpa using h2)
theorem perm2 {α : Type} {l : List α} {x y : α} (h : l.Perm [x, y]) : l = [x, y] ∨ l = [y, x] := by
  have hl := h.length_eq
  match l, hl with
  | [a, b], _ =>
    have ha : a ∈ [x, y] := h.mem_iff.mp (by simp)
    simp at ha
    rcases ha with rfl | rfl
    · have := (List.perm_cons a).mp h
      have := List.singleton_perm_singleton.mp this
      subst this; exact .inl rfl
    · have h2 : List.Perm [a, b] [a, x] := h.trans (List.Perm.swap _ _ _)
      have := (List.perm_cons a).mp h2
      have := List.singleton_perm_singleton.mp this
      subst this; exact .inr rfl
/-- two sorted pairs -/
theorem sorted2 {a b x y : Int} {l m : List Int} (h1 : l.Perm [a, b]) (o1 : l.Pairwise (· ≤ ·)) (h2 : m.Perm [x, y]) (o2 : m.Pairwise (· ≤ ·)) : (l = m) ↔ ((a = x ∧ b = y) ∨ (a = y ∧ b = x)) := by
  rcases perm2 h1 with rfl | rfl <;> rcases perm2 h2 with rfl | rfl <;> simp at o1 o2 ⊢ <;> omega
end
end Wr

namespace Wr
section
variable {n : Nat} {rs : List Road} {s o : Int} {f : Found}
/-- C: seen from s, what hangs at y but its parent z lies behind it -/
theorem D_behind (T : IsTree n rs) (hs : 0 ≤ s ∧ s < n) {x y z l l' : Int} (a : Adj rs z y l') (h : D n rs s y = D n rs s z + l') (b : Adj rs x y l) (hn : x ≠ z) : D n rs s x = D n rs s y + l := by
  rcases D_step T hs b with q | q
  · exact absurd (D_par_unique T hs b q a h) hn
  · exact q
theorem two_sides (T : IsTree n rs) {w v l : Int} (a : Adj rs w v l) {x : Int} (hx : 0 ≤ x ∧ x < n) : D n rs v x = D n rs w x + l ∨ D n rs w x = D n rs v x + l := by
  have r := a.range T.toRoadsOk
  have e1 := D_symm T hx ⟨r.1, r.2.1⟩
  have e2 := D_symm T hx ⟨r.2.2.1, r.2.2.2.1⟩
  rcases D_step T hx a with h | h <;> omega
/-- a road from the one side to the other is the road itself -/
theorem cross (T : IsTree n rs) {w v l y z l' : Int} (a : Adj rs w v l) (b : Adj rs y z l') (hy : D n rs v y = D n rs w y + l) (hz : D n rs w z = D n rs v z + l) : y = w ∧ z = v := by
  have r := a.range T.toRoadsOk
  have r' := b.range T.toRoadsOk
  have hw : 0 ≤ w ∧ w < n := ⟨r.1, r.2.1⟩
  have hv : 0 ≤ v ∧ v < n := ⟨r.2.2.1, r.2.2.2.1⟩
  have hy0 : 0 ≤ y ∧ y < n := ⟨r'.1, r'.2.1⟩
  have hz0 : 0 ≤ z ∧ z < n := ⟨r'.2.2.1, r'.2.2.2.1⟩
  have k1 : D n rs w z = D n rs w y + l' := by
    rcases D_step T hw b with h | h
    · exact h
    · rcases D_step T hv b with q | q <;> omega
  have k2 : D n rs v y = D n rs v z + l' := by
    rcases D_step T hv b with h | h
    · omega
    · exact h
  constructor
  · apply Classical.byContradiction
    intro hn
    obtain ⟨y1, l1, _, a1, d1, p0, p1⟩ := D_parent T hw hy0 hn
    have r1 := a1.range T.toRoadsOk
    have ne : y1 ≠ z := fun e => by rw [e] at d1; omega
    have d2 := D_behind T hv b.symm k2 a1 ne
    rcases two_sides T a ⟨p0, p1⟩ with h | h <;> omega
  · apply Classical.byContradiction
    intro hn
    obtain ⟨z1, l1, _, a1, d1, p0, p1⟩ := D_parent T hv hz0 hn
    have r1 := a1.range T.toRoadsOk
    have ne : z1 ≠ y := fun e => by rw [e] at d1; omega
    have d2 := D_behind T hw b k1 a1 ne
    rcases two_sides T a ⟨p0, p1⟩ with h | h <;> omega
theorem mem_erase {rs : List Road} {i : Nat} {r : Road} : r ∈ rs.eraseIdx i ↔ ∃ j, j ≠ i ∧ rs[j]? = some r := by
  rw [List.mem_eraseIdx_iff_getElem?]
/-- without the road at i one comes from its end w just to w's side -/
theorem reach_side (T : IsTree n rs) {i : Nat} {r : Road} (hi : rs[i]? = some r) {w v : Int} (he : (r.a = w ∧ r.b = v) ∨ (r.b = w ∧ r.a = v)) {x : Int} (hx : 0 ≤ x ∧ x < n) :
    Reach (rs.eraseIdx i) w x ↔ D n rs v x = D n rs w x + r.l := by
  have hr := List.mem_of_getElem? hi
  have a : Adj rs w v r.l := ⟨r, hr, rfl, he⟩
  have rg := a.range T.toRoadsOk
  have hw : 0 ≤ w ∧ w < n := ⟨rg.1, rg.2.1⟩
  have hv : 0 ≤ v ∧ v < n := ⟨rg.2.2.1, rg.2.2.2.1⟩
  have z0 : (0 : Int) ≤ 0 ∧ (0 : Int) < n := ⟨Int.le_refl _, by have := T.pos; omega⟩
  have sub : ∀ t ∈ rs.eraseIdx i, t ∈ rs := fun t ht => by
    obtain ⟨j, _, hj⟩ := mem_erase.mp ht
    exact List.mem_of_getElem? hj
  have noE : ∀ t ∈ rs.eraseIdx i, ¬ SameEnds t r := fun t ht hs => by
    obtain ⟨j, hne, hj⟩ := mem_erase.mp ht
    exact hne ((T.walked z0).single T z0 hj hi hs)
  constructor
  · rintro ⟨d, wk⟩
    clear hx
    induction wk with
    | nil =>
      have h1 := D_edge T a.symm
      have h2 := D_self T hw
      omega
    | @snoc y z d l' wk b ih =>
      have b' := b.mono sub
      have rb := b'.range T.toRoadsOk
      rcases two_sides T a (x := z) ⟨rb.2.2.1, rb.2.2.2.1⟩ with h | h
      · exact h
      · exfalso
        obtain ⟨e1, e2⟩ := cross T a b' ih h
        obtain ⟨t, ht, _, ends⟩ := b
        refine noE t ht ?_
        unfold SameEnds
        grind
  · intro h
    have key : ∀ (m : Nat) (x : Int), 0 ≤ x ∧ x < n → D n rs w x ≤ m → D n rs v x = D n rs w x + r.l → Reach (rs.eraseIdx i) w x := by
      intro m
      induction m with
      | zero =>
        intro x hx hm _
        by_cases e : x = w
        · subst e; exact .refl
        · have := D_pos T hw hx e
          omega
      | succ m ih =>
        intro x hx hm hs
        by_cases e : x = w
        · subst e; exact .refl
        · obtain ⟨p, l, _, b, hD, p0, p1⟩ := D_parent T hw hx e
          have rb := b.range T.toRoadsOk
          have hp : D n rs v p = D n rs w p + r.l := by
            rcases two_sides T a (x := p) ⟨p0, p1⟩ with q | q
            · exact q
            · exact absurd (cross T a b.symm hs q).1 e
          refine (ih p ⟨p0, p1⟩ (by omega) hp).trans ⟨0 + l, .snoc .nil ?_⟩
          obtain ⟨t, ht, hl, ends⟩ := b
          obtain ⟨j, hj, htj⟩ := List.getElem_of_mem ht
          refine ⟨t, mem_erase.mpr ⟨j, fun ej => ?_, by rw [List.getElem?_eq_getElem hj, htj]⟩, hl, ends⟩
          subst ej
          rw [List.getElem?_eq_getElem hj] at hi
          have et : t = r := by rw [← htj]; exact Option.some.inj hi
          have xv : x = v := by rw [et] at ends; grind
          subst xv
          have h1 := D_self T hv
          have h2 := D_edge T a
          omega
    exact key (D n rs w x).toNat x hx (by have := D_nonneg T hw hx; omega) h

/-! ### the law's own flood: the villages to which one comes from w without the road at i -/
def floodStep (i : Nat) (g : List Int) (k : Nat) (r : Road) : List Int :=
  if k ≠ i ∧ decide (r.a ∈ g) ≠ decide (r.b ∈ g) then g ++ [if r.a ∈ g then r.b else r.a] else g
def floodP (i : Nat) : List Road → Nat → List Int → List Int
  | [], _, g => g
  | r :: rs, k, g => floodP i rs (k + 1) (floodStep i g k r)
def floodN (i : Nat) (rs : List Road) : Nat → List Int → List Int
  | 0, g => g
  | m + 1, g => floodN i rs m (floodP i rs 0 g)
def flood (n : Nat) (rs : List Road) (i : Nat) (w : Int) : List Int := floodN i rs n [w]
theorem floodStep_growth {rs' : List Road} (g : Growth rs' s f) {i k : Nat} {r : Road} (hr : k ≠ i → r ∈ rs') : ∃ f', Growth rs' s f' ∧ floodStep i (keys f) k r = keys f' ∧ (∃ more, f' = f ++ more) ∧ (¬ (k ≠ i ∧ ¬ Settled f r) → f' = f) ∧ ((k ≠ i ∧ ¬ Settled f r) → f.length < f'.length) := by
  unfold floodStep
  by_cases c : k ≠ i ∧ ¬ Settled f r
  · have hr := hr c.1
    have c2 : k ≠ i ∧ decide (r.a ∈ keys f) ≠ decide (r.b ∈ keys f) := by
      refine ⟨c.1, fun e => c.2 ?_⟩
      exact decide_eq_decide.mp e
    rw [if_pos c2]
    by_cases ha : r.a ∈ keys f
    · have hb : r.b ∉ keys f := fun hb => c.2 ⟨fun _ => hb, fun _ => ha⟩
      rw [if_pos ha]
      exact ⟨f ++ [(r.b, (r.a, dOf f r.a + r.l))], .snoc g ha ⟨r, hr, rfl, .inl ⟨rfl, rfl⟩⟩ hb, by simp [keys], ⟨_, rfl⟩, fun h => absurd c h, fun _ => by simp⟩
    · have hb : r.b ∈ keys f := Classical.byContradiction fun hb => c.2 ⟨fun h => absurd h ha, fun h => absurd h hb⟩
      rw [if_neg ha]
      exact ⟨f ++ [(r.a, (r.b, dOf f r.b + r.l))], .snoc g hb ⟨r, hr, rfl, .inr ⟨rfl, rfl⟩⟩ ha, by simp [keys], ⟨_, rfl⟩, fun h => absurd c h, fun _ => by simp⟩
  · have c2 : ¬ (k ≠ i ∧ decide (r.a ∈ keys f) ≠ decide (r.b ∈ keys f)) := fun q => c ⟨q.1, fun st => q.2 (decide_eq_decide.mpr st)⟩
    rw [if_neg c2]
    exact ⟨f, g, rfl, ⟨[], by simp⟩, fun _ => rfl, fun h => absurd h c⟩
theorem floodP_growth {rs' : List Road} {i : Nat} : ∀ (rs0 : List Road) (k : Nat) (f : Found), (∀ (j : Nat) r, rs0[j]? = some r → k + j ≠ i → r ∈ rs') → Growth rs' s f →
    ∃ f', Growth rs' s f' ∧ floodP i rs0 k (keys f) = keys f' ∧ f.length ≤ f'.length ∧ ((∀ (j : Nat) r, rs0[j]? = some r → k + j ≠ i → Settled f r) → f' = f) ∧ (¬ (∀ (j : Nat) r, rs0[j]? = some r → k + j ≠ i → Settled f r) → f.length < f'.length)
  | [], k, f, _, g => ⟨f, g, rfl, Nat.le_refl _, fun _ => rfl, fun h => absurd (fun j r h => by simp at h) h⟩
  | r :: rs0, k, f, hs, g => by
    obtain ⟨f1, g1, e1, ⟨more, hm⟩, h1, h2⟩ := floodStep_growth (i := i) (k := k) g (r := r) (fun hk => hs 0 r (by simp) (by simpa using hk))
    obtain ⟨f2, g2, e2, l2, h4, h5⟩ := floodP_growth (i := i) rs0 (k + 1) f1 (fun j t hj hne => hs (j + 1) t (by simpa using hj) (by omega)) g1
    have l1 : f.length ≤ f1.length := by rw [hm]; simp
    refine ⟨f2, g2, by unfold floodP; rw [e1, e2], by omega, fun h => ?_, fun h => ?_⟩
    · have q := h1 (fun c => c.2 (h 0 r (by simp) (by simpa using c.1)))
      subst q
      exact h4 fun j t hj hne => h (j + 1) t (by simpa using hj) (by omega)
    · by_cases c : k ≠ i ∧ ¬ Settled f r
      · have := h2 c
        omega
      · have q := h1 c
        subst q
        refine h5 fun h' => h fun j t hj hne => ?_
        cases j with
        | zero =>
          simp at hj
          subst hj
          exact Classical.byContradiction fun ns => c ⟨by simpa using hne, ns⟩
        | succ j => exact h' j t (by simpa using hj) (by omega)
theorem floodN_closed {i : Nat} (k : RoadsOk n rs) (hs : 0 ≤ s ∧ s < n) : ∀ (m : Nat) (f : Found), Growth (rs.eraseIdx i) s f → n < f.length + m ∨ (∀ (j : Nat) r, rs[j]? = some r → 0 + j ≠ i → Settled f r) →
    ∃ f', Growth (rs.eraseIdx i) s f' ∧ Closed (rs.eraseIdx i) f' ∧ floodN i rs m (keys f) = keys f'
  | 0, f, g, h => by
    have k' : RoadsOk n (rs.eraseIdx i) := ⟨fun r hr => by obtain ⟨j, _, hj⟩ := mem_erase.mp hr; exact k.ok r (List.mem_of_getElem? hj)⟩
    have := g.length_le k' hs
    rcases h with h | h
    · omega
    · exact ⟨f, g, settled_closed fun r hr => by obtain ⟨j, hne, hj⟩ := mem_erase.mp hr; exact h j r hj (by omega), rfl⟩
  | m + 1, f, g, h => by
    obtain ⟨f1, g1, e1, l1, h1, h2⟩ := floodP_growth (i := i) rs 0 f (fun j r hj hne => mem_erase.mpr ⟨j, by omega, hj⟩) g
    unfold floodN
    rw [e1]
    by_cases c : ∀ (j : Nat) r, rs[j]? = some r → 0 + j ≠ i → Settled f r
    · have := h1 c
      subst this
      exact floodN_closed k hs m _ g1 (.inr c)
    · have := h2 c
      rcases h with h | h
      · exact floodN_closed k hs m f1 g1 (.inl (by omega))
      · exact absurd h c
theorem flood_facts (k : RoadsOk n rs) {i : Nat} {w : Int} (hw : 0 ≤ w ∧ w < n) : (flood n rs i w).Nodup ∧ (flood n rs i w).length ≤ n ∧ ∀ x, x ∈ flood n rs i w ↔ ((0 ≤ x ∧ x < n) ∧ Reach (rs.eraseIdx i) w x) := by
  have k' : RoadsOk n (rs.eraseIdx i) := ⟨fun r hr => by obtain ⟨j, _, hj⟩ := mem_erase.mp hr; exact k.ok r (List.mem_of_getElem? hj)⟩
  obtain ⟨f, g, c, e⟩ := floodN_closed (i := i) k hw n [(w, (-1, 0))] .start (.inl (by simp))
  have e : flood n rs i w = keys f := e
  rw [e]
  refine ⟨g.nodup, by have := g.length_le k' hw; simpa [keys] using this, fun x => ⟨fun h => ⟨g.range k' hw x h, ⟨_, g.walk x h⟩⟩, fun ⟨_, _, wk⟩ => c.reach wk g.mem_start⟩⟩
end
end Wr

namespace Wr
section
variable {n : Nat} {rs : List Road}
/-- a walk over the road between w and v is as long as both parts and the road -/
theorem cut_walk (T : IsTree n rs) {w v l : Int} (a : Adj rs w v l) {x : Int} (hx : 0 ≤ x ∧ x < n) (sx : D n rs v x = D n rs w x + l) {y d : Int} (k : Walk rs x y d) (hy : 0 ≤ y ∧ y < n) (sy : D n rs w y = D n rs v y + l) : D n rs x w + l + D n rs v y ≤ d := by
  have ra := a.range T.toRoadsOk
  have hw : 0 ≤ w ∧ w < n := ⟨ra.1, ra.2.1⟩
  have hv : 0 ≤ v ∧ v < n := ⟨ra.2.2.1, ra.2.2.2.1⟩
  induction k with
  | nil => omega
  | @snoc u y d l' k b ih =>
    have rb := b.range T.toRoadsOk
    have hu : 0 ≤ u ∧ u < n := ⟨rb.1, rb.2.1⟩
    rcases two_sides T a hu with q | q
    · obtain ⟨e1, e2⟩ := cross T a b q sy
      subst e1 e2
      have h1 := D_least T hx k
      have h2 := D_edge T a
      have h3 := D_edge T b
      have h4 := D_self T hv
      omega
    · have h1 := ih hu q
      have h2 := D_tri T hv hu hy
      have h3 := D_edge T b
      omega
theorem cut (T : IsTree n rs) {w v l : Int} (a : Adj rs w v l) {x y : Int} (hx : 0 ≤ x ∧ x < n) (hy : 0 ≤ y ∧ y < n) (sx : D n rs v x = D n rs w x + l) (sy : D n rs w y = D n rs v y + l) : D n rs x y = D n rs x w + l + D n rs v y := by
  have ra := a.range T.toRoadsOk
  have hw : 0 ≤ w ∧ w < n := ⟨ra.1, ra.2.1⟩
  have hv : 0 ≤ v ∧ v < n := ⟨ra.2.2.1, ra.2.2.2.1⟩
  have h1 := cut_walk T a hx sx (D_walk T hx hy) hy sy
  have h2 := D_tri T hx hw hy
  have h3 := D_tri T hw hv hy
  have h4 := D_edge T a
  omega
end
end Wr

namespace Wr
def maxL (l : List Int) : Int := l.max?.getD 0
def minL (l : List Int) : Int := l.min?.getD 0
theorem maxL_eq {l : List Int} {m : Int} (h1 : m ∈ l) (h2 : ∀ y, y ∈ l → y ≤ m) : m = maxL l := by
  unfold maxL
  rw [List.max?_eq_some_iff.mpr ⟨h1, h2⟩]
  rfl
theorem minL_eq {l : List Int} {m : Int} (h1 : m ∈ l) (h2 : ∀ y, y ∈ l → m ≤ y) : m = minL l := by
  unfold minL
  rw [List.min?_eq_some_iff.mpr ⟨h1, h2⟩]
  rfl
theorem maxL_spec {l : List Int} (h : l ≠ []) : maxL l ∈ l ∧ ∀ y, y ∈ l → y ≤ maxL l := by
  cases e : l.max? with
  | none => exact absurd (List.max?_eq_none_iff.mp e) h
  | some m =>
    have := List.max?_eq_some_iff.mp e
    have e2 : maxL l = m := by unfold maxL; rw [e]; rfl
    rw [e2]; exact this
theorem minL_spec {l : List Int} (h : l ≠ []) : minL l ∈ l ∧ ∀ y, y ∈ l → minL l ≤ y := by
  cases e : l.min? with
  | none => exact absurd (List.min?_eq_none_iff.mp e) h
  | some m =>
    have := List.min?_eq_some_iff.mp e
    have e2 : minL l = m := by unfold minL; rw [e]; rfl
    rw [e2]; exact this
theorem perm_sum {l m : List Int} (h : l.Perm m) : l.sum = m.sum := by
  induction h with
  | nil => rfl
  | cons x _ ih => rw [List.sum_cons, List.sum_cons, ih]
  | swap x y l => rw [List.sum_cons, List.sum_cons, List.sum_cons, List.sum_cons]; omega
  | trans _ _ i1 i2 => exact i1.trans i2
def sumV (n : Nat) (g : Int → Int) : Int := ((ivs n).map g).sum
theorem sum_add : ∀ (l : List Int) (g h : Int → Int), (l.map fun k => g k + h k).sum = (l.map g).sum + (l.map h).sum
  | [], _, _ => rfl
  | x :: l, g, h => by
    have := sum_add l g h
    simp only [List.map_cons, List.sum_cons] at this ⊢
    omega
theorem sum_mul (c : Int) : ∀ (l : List Int) (g : Int → Int), (l.map fun k => c * g k).sum = c * (l.map g).sum
  | [], _ => by simp
  | x :: l, g => by
    have := sum_mul c l g
    simp only [List.map_cons, List.sum_cons] at this ⊢
    rw [this, Int.mul_add]
theorem sum_le : ∀ (l : List Int) (g h : Int → Int), (∀ x ∈ l, g x ≤ h x) → (l.map g).sum ≤ (l.map h).sum
  | [], _, _, _ => Int.le_refl _
  | x :: l, g, h, hl => by
    have h1 := sum_le l g h fun y hy => hl y (List.mem_cons_of_mem _ hy)
    have h2 := hl x (List.mem_cons_self ..)
    simp only [List.map_cons, List.sum_cons]
    omega
theorem sum_congr {l : List Int} {g h : Int → Int} (hl : ∀ x ∈ l, g x = h x) : (l.map g).sum = (l.map h).sum := by rw [List.map_congr_left hl]
theorem sum_filter (P : Int → Bool) (g : Int → Int) : ∀ l : List Int, ((l.filter P).map g).sum = (l.map fun k => if P k = true then g k else 0).sum
  | [] => rfl
  | x :: l => by
    have := sum_filter P g l
    rw [List.filter_cons, List.map_cons, List.sum_cons]
    cases e : P x with
    | true =>
      rw [if_pos rfl, if_pos rfl, List.map_cons, List.sum_cons, this]
    | false =>
      rw [if_neg (by decide), if_neg (by decide), this]
      omega
theorem sum_side {n : Nat} {L : List Int} (nd : L.Nodup) (P : Int → Bool) (h : ∀ x, x ∈ L ↔ ((0 ≤ x ∧ x < n) ∧ P x = true)) (g : Int → Int) : (L.map g).sum = sumV n fun k => if P k = true then g k else 0 := by
  have hp : L.Perm ((ivs n).filter P) := (List.perm_ext_iff_of_nodup nd ((ivs_nodup n).filter P)).mpr fun x => by
    rw [h, List.mem_filter, mem_ivs]
  rw [perm_sum (hp.map g), sum_filter]
  rfl
def pk (p : List Int) (k : Int) : Int := p.getD k.toNat 0
def walksV (n : Nat) (rs : List Road) (p : List Int) (x : Int) : Int := sumV n fun k => pk p k * D n rs x k
def walksL (n : Nat) (rs : List Road) (p : List Int) : List Int := (ivs n).map (walksV n rs p)
/-- how many people beyond the road at i, seen from its end a -/
def beyondV (n : Nat) (rs : List Road) (p : List Int) (i : Nat) (w : Int) : Int := ((flood n rs i w).map (pk p)).sum
/-- no road of x has more than half beyond -/
def evenV (n : Nat) (rs : List Road) (p : List Int) (x : Int) : Bool :=
  (List.range rs.length).all fun i => match rs[i]? with
    | some r => !(decide (x = r.a) || decide (x = r.b)) || !decide (2 * beyondV n rs p i (r.a + r.b - x) > p.sum)
    | none => true
section
variable {n : Nat} {rs : List Road} {p : List Int}
theorem psum (hl : p.length = n) : p.sum = sumV n (pk p) := by
  have e : p = (ivs n).map (pk p) := by
    refine List.ext_getElem (by simp [ivs, hl]) fun i k1 k2 => ?_
    simp [ivs, pk, List.getD, k1]
  conv => lhs; rw [e]
  rfl
/-- people on w's side of the road between w and v -/
def sideP (n : Nat) (rs : List Road) (p : List Int) (w v l : Int) : Int := sumV n fun k => if decide (D n rs v k = D n rs w k + l) = true then pk p k else 0
theorem beyond_side (T : IsTree n rs) {i : Nat} {r : Road} (hi : rs[i]? = some r) {w v : Int} (he : (r.a = w ∧ r.b = v) ∨ (r.b = w ∧ r.a = v)) : beyondV n rs p i w = sideP n rs p w v r.l := by
  have a : Adj rs w v r.l := ⟨r, List.mem_of_getElem? hi, rfl, he⟩
  have rg := a.range T.toRoadsOk
  obtain ⟨f1, _, f2⟩ := flood_facts T.toRoadsOk (i := i) (w := w) ⟨rg.1, rg.2.1⟩
  unfold beyondV sideP
  refine sum_side f1 _ (fun x => ?_) _
  rw [f2, decide_eq_true_eq]
  constructor
  · rintro ⟨h1, h2⟩; exact ⟨h1, (reach_side T hi he h1).mp h2⟩
  · rintro ⟨h1, h2⟩; exact ⟨h1, (reach_side T hi he h1).mpr h2⟩
/-- a step towards w -/
theorem walks_step (T : IsTree n rs) {w v l : Int} (a : Adj rs w v l) (hl : p.length = n) : walksV n rs p w - walksV n rs p v = l * (p.sum - 2 * sideP n rs p w v l) := by
  have e1 : walksV n rs p w = walksV n rs p v + l * (p.sum - 2 * sideP n rs p w v l) := by
    have h : (fun k => pk p k * D n rs w k) = fun k => pk p k * D n rs w k := rfl
    have key : ∀ k ∈ ivs n, pk p k * D n rs w k = pk p k * D n rs v k + (l * pk p k + (-(2 * l)) * (if decide (D n rs v k = D n rs w k + l) = true then pk p k else 0)) := by
      intro k hk
      have rl := (a.range T.toRoadsOk).2.2.2.2.2.1
      rcases two_sides T a (mem_ivs.mp hk) with q | q
      · rw [decide_eq_true q, if_pos rfl, q, Int.mul_add, Int.mul_comm l (pk p k), Int.neg_mul, Int.mul_assoc, Int.mul_comm l (pk p k)]
        omega
      · rw [decide_eq_false (by omega), if_neg (by decide), q, Int.mul_add, Int.mul_comm l (pk p k)]
        omega
    unfold walksV sideP
    rw [psum hl]
    unfold sumV
    rw [sum_congr key, sum_add, sum_add, sum_mul, sum_mul]
    rw [Int.mul_sub, ← Int.mul_assoc, Int.mul_comm l 2, Int.neg_mul]
    omega
  omega
theorem sideP_mono (T : IsTree n rs) (hp : ∀ k, 0 ≤ pk p k) {x y z l l' : Int} (a : Adj rs x y l) (b : Adj rs y z l') (hn : x ≠ z) : sideP n rs p z y l' ≤ sideP n rs p y x l := by
  refine sum_le _ _ _ fun k hk => ?_
  have hk' := mem_ivs.mp hk
  have ra := a.range T.toRoadsOk
  have rb := b.range T.toRoadsOk
  by_cases c : D n rs y k = D n rs z k + l'
  · have e1 := D_symm T hk' ⟨rb.1, rb.2.1⟩
    have e2 := D_symm T hk' ⟨rb.2.2.1, rb.2.2.2.1⟩
    have e3 := D_symm T hk' ⟨ra.1, ra.2.1⟩
    have := D_behind T hk' b.symm (by omega) a hn
    rw [decide_eq_true c, decide_eq_true (show D n rs x k = D n rs y k + l by omega)]
    exact Int.le_refl _
  · rw [decide_eq_false c, if_neg (by decide)]
    split
    · exact hp k
    · exact Int.le_refl _
/-- even: no neighbour is better -/
theorem even_iff (T : IsTree n rs) (hl : p.length = n) {x : Int} : evenV n rs p x = true ↔ ∀ y l, Adj rs x y l → walksV n rs p x ≤ walksV n rs p y := by
  unfold evenV
  rw [List.all_eq_true]
  constructor
  · intro h y l a
    obtain ⟨r, hr, rfl, ends⟩ := id a
    obtain ⟨i, hi, hri⟩ := List.getElem_of_mem hr
    have hi' : rs[i]? = some r := by rw [List.getElem?_eq_getElem hi, hri]
    have h := h i (List.mem_range.mpr hi)
    rw [hi'] at h
    replace h : (!(decide (x = r.a) || decide (x = r.b)) || !decide (2 * beyondV n rs p i (r.a + r.b - x) > p.sum)) = true := h
    have rl := (a.range T.toRoadsOk).2.2.2.2.2.1
    have ey : r.a + r.b - x = y := by rcases ends with ⟨e1, e2⟩ | ⟨e1, e2⟩ <;> omega
    have ends' : (r.a = y ∧ r.b = x) ∨ (r.b = y ∧ r.a = x) := by rcases ends with ⟨e1, e2⟩ | ⟨e1, e2⟩ <;> simp [e1, e2]
    have xo : x = r.a ∨ x = r.b := by rcases ends with ⟨e1, e2⟩ | ⟨e1, e2⟩ <;> simp [e1, e2]
    rw [ey, beyond_side T hi' ends'] at h
    have st := walks_step (p := p) T a.symm hl
    have : ¬ (2 * sideP n rs p y x r.l > p.sum) := by
      intro q
      simp [q] at h
      exact xo.elim (fun e => h.1 e) (fun e => h.2 e)
    have h0 : 0 ≤ r.l * (p.sum - 2 * sideP n rs p y x r.l) := Int.mul_nonneg (by omega) (by omega)
    omega
  · intro h i hi
    have hi := List.mem_range.mp hi
    rw [List.getElem?_eq_getElem hi]
    have hi' : rs[i]? = some rs[i] := List.getElem?_eq_getElem hi
    generalize rs[i] = r at hi'
    show (!(decide (x = r.a) || decide (x = r.b)) || !decide (2 * beyondV n rs p i (r.a + r.b - x) > p.sum)) = true
    by_cases xo : x = r.a ∨ x = r.b
    · have ho := T.ok r (List.mem_of_getElem? hi')
      have ends : (r.a = x ∧ r.b = r.a + r.b - x) ∨ (r.b = x ∧ r.a = r.a + r.b - x) := by rcases xo with e | e <;> omega
      have a : Adj rs x (r.a + r.b - x) r.l := ⟨r, List.mem_of_getElem? hi', rfl, ends⟩
      have ends' : (r.a = r.a + r.b - x ∧ r.b = x) ∨ (r.b = r.a + r.b - x ∧ r.a = x) := by rcases xo with e | e <;> omega
      have le := h _ _ a
      have st := walks_step (p := p) T a.symm hl
      rw [beyond_side T hi' ends']
      have : ¬ (2 * sideP n rs p (r.a + r.b - x) x r.l > p.sum) := by
        intro q
        have : r.l * (p.sum - 2 * sideP n rs p (r.a + r.b - x) x r.l) < 0 := Int.mul_neg_of_pos_of_neg (by omega) (by omega)
        omega
      rw [decide_eq_false this]
      simp
    · have h1 : ¬ x = r.a := fun e => xo (.inl e)
      have h2 : ¬ x = r.b := fun e => xo (.inr e)
      rw [decide_eq_false h1, decide_eq_false h2]
      rfl
/-- where no neighbour is better, none is -/
theorem local_least (T : IsTree n rs) (hl : p.length = n) (hp : ∀ k, 0 ≤ pk p k) {a : Int} (ha : 0 ≤ a ∧ a < n) (h : ∀ y l, Adj rs a y l → walksV n rs p a ≤ walksV n rs p y) : ∀ c : Int, 0 ≤ c ∧ c < n → walksV n rs p a ≤ walksV n rs p c := by
  have key : ∀ (m : Nat) (c : Int), 0 ≤ c ∧ c < n → D n rs a c ≤ m → c ≠ a → walksV n rs p a ≤ walksV n rs p c ∧ ∀ q l, Adj rs q c l → D n rs a c = D n rs a q + l → 2 * sideP n rs p c q l ≤ p.sum := by
    intro m
    induction m with
    | zero =>
      intro c hc hm hn
      have := D_pos T ha hc hn
      omega
    | succ m ih =>
      intro c hc hm hn
      obtain ⟨q, l, _, b, hD, q0, q1⟩ := D_parent T ha hc hn
      have rb := b.range T.toRoadsOk
      have side : 2 * sideP n rs p c q l ≤ p.sum := by
        by_cases e : q = a
        · subst e
          have h1 := h c l b
          have h2 := walks_step (p := p) T b.symm hl
          apply Classical.byContradiction
          intro hc'
          have : l * (p.sum - 2 * sideP n rs p c q l) < 0 := Int.mul_neg_of_pos_of_neg (by omega) (by omega)
          omega
        · obtain ⟨i1, i2⟩ := ih q ⟨q0, q1⟩ (by omega) e
          obtain ⟨q', l', _, b', hD', _, _⟩ := D_parent T ha ⟨q0, q1⟩ e
          have s1 := i2 q' l' b' hD'
          have rb' := b'.range T.toRoadsOk
          have ne : q' ≠ c := fun e => by rw [e] at hD'; omega
          have s2 := sideP_mono T hp b' b ne
          omega
      have st := walks_step (p := p) T b.symm hl
      have h0 : 0 ≤ l * (p.sum - 2 * sideP n rs p c q l) := Int.mul_nonneg (by omega) (by omega)
      refine ⟨?_, fun q2 l2 b2 hD2 => ?_⟩
      · by_cases e : q = a
        · subst e; omega
        · have := (ih q ⟨q0, q1⟩ (by omega) e).1
          omega
      · have e := D_par_unique T ha b hD b2 hD2
        subst e
        have : l2 = l := by omega
        subst this
        exact side
  intro c hc
  by_cases e : c = a
  · subst e; exact Int.le_refl _
  · exact (key (D n rs a c).toNat c hc (by have := D_nonneg T ha hc; omega) e).1
theorem walksL_mem {x : Int} (hx : 0 ≤ x ∧ x < n) : walksV n rs p x ∈ walksL n rs p := List.mem_map.mpr ⟨x, mem_ivs.mpr hx, rfl⟩
theorem even_least (T : IsTree n rs) (hl : p.length = n) (hp : ∀ k, 0 ≤ pk p k) {x : Int} (hx : 0 ≤ x ∧ x < n) : evenV n rs p x = decide (walksV n rs p x = minL (walksL n rs p)) := by
  have hne : walksL n rs p ≠ [] := fun e => by have := walksL_mem (p := p) (rs := rs) hx; rw [e] at this; cases this
  have sp := minL_spec hne
  rw [Bool.eq_iff_iff, even_iff T hl, decide_eq_true_eq]
  constructor
  · intro h
    have h1 := local_least T hl hp hx h
    refine minL_eq (walksL_mem hx) fun y hy => ?_
    obtain ⟨c, hc, rfl⟩ := List.mem_map.mp hy
    exact h1 c (mem_ivs.mp hc)
  · intro h y l a
    have r := a.range T.toRoadsOk
    rw [h]
    exact sp.2 _ (walksL_mem ⟨r.2.2.1, r.2.2.2.1⟩)

/-! ### the two villages that are farthest apart -/
def worstL (n : Nat) (rs : List Road) : List Int := (rowsD n rs).map maxL
structure IsFirst (n : Nat) (rs : List Road) (m u v : Int) : Prop where
  u0 : 0 ≤ u
  uv : u ≤ v
  vn : v < n
  at_ : D n rs u v = m
  first : ∀ u' v' : Int, 0 ≤ u' → u' ≤ v' → v' < n → D n rs u' v' = m → u < u' ∨ (u = u' ∧ v ≤ v')
theorem IsFirst.unique {m u v u' v' : Int} (h : IsFirst n rs m u v) (k : IsFirst n rs m u' v') : u = u' ∧ v = v' := by
  have h1 := h.first u' v' k.u0 k.uv k.vn k.at_
  have h2 := k.first u v h.u0 h.uv h.vn h.at_
  omega
theorem rowD_ne (h : 1 ≤ n) (s : Int) : rowD n rs s ≠ [] := by
  intro e
  have := congrArg List.length e
  simp [rowD, ivs] at this
  omega
theorem worst_facts (T : IsTree n rs) : (∃ u v : Int, 0 ≤ u ∧ u ≤ v ∧ v < n ∧ D n rs u v = maxL (worstL n rs)) ∧ ∀ u v : Int, 0 ≤ u ∧ u < n → 0 ≤ v ∧ v < n → D n rs u v ≤ maxL (worstL n rs) := by
  have n1 := T.pos
  have ne : worstL n rs ≠ [] := by
    intro e
    have := congrArg List.length e
    simp [worstL, rowsD, ivs] at this
    omega
  obtain ⟨h1, h2⟩ := maxL_spec ne
  constructor
  · unfold worstL at h1
    obtain ⟨row, hrow, e1⟩ := List.mem_map.mp h1
    obtain ⟨s, hs, rfl⟩ := List.mem_map.mp hrow
    obtain ⟨k1, k2⟩ := maxL_spec (rowD_ne (rs := rs) n1 s)
    obtain ⟨v, hv, e2⟩ := List.mem_map.mp k1
    have hs' := mem_ivs.mp hs
    have hv' := mem_ivs.mp hv
    have e3 : D n rs s v = maxL (worstL n rs) := by rw [e2]; exact e1
    by_cases c : s ≤ v
    · exact ⟨s, v, hs'.1, c, hv'.2, e3⟩
    · exact ⟨v, s, hv'.1, by omega, hs'.2, by rw [D_symm T hv' hs']; exact e3⟩
  · intro u v hu hv
    have k1 := (maxL_spec (rowD_ne (rs := rs) n1 u)).2 (D n rs u v) (List.mem_map.mpr ⟨v, mem_ivs.mpr hv, rfl⟩)
    have k2 := h2 (maxL (rowD n rs u)) (List.mem_map.mpr ⟨rowD n rs u, List.mem_map.mpr ⟨u, mem_ivs.mpr hu, rfl⟩, rfl⟩)
    omega
end
end Wr

namespace Wr
section
variable {n : Nat} {rs : List Road}
theorem ivs_take {n j : Nat} (h : j < n) : (ivs n).take (j + 1) = (ivs n).take j ++ [(j : Int)] := by
  rw [List.take_add_one]
  congr 1
  simp [ivs, h]
/-- the villages on w's side of the road between w and v -/
def sideL (n : Nat) (rs : List Road) (w v l : Int) : List Int := (ivs n).filter fun x => decide (D n rs v x = D n rs w x + l)
theorem mem_sideL {w v l x : Int} : x ∈ sideL n rs w v l ↔ (0 ≤ x ∧ x < n) ∧ D n rs v x = D n rs w x + l := by
  unfold sideL
  rw [List.mem_filter, mem_ivs, decide_eq_true_eq]
theorem ivs_incr' (n : Nat) : (ivs n).Pairwise (· < ·) := by
  unfold ivs
  rw [List.pairwise_map]
  exact List.Pairwise.imp (R := fun (a b : Nat) => a < b) (fun {a b} (h : a < b) => (by omega : (a : Int) < (b : Int))) List.pairwise_lt_range
theorem sideL_incr (w v l : Int) : (sideL n rs w v l).Pairwise (· < ·) := (ivs_incr' n).filter _
theorem flood_sideL (T : IsTree n rs) {i : Nat} {r : Road} (hi : rs[i]? = some r) {w v : Int} (he : (r.a = w ∧ r.b = v) ∨ (r.b = w ∧ r.a = v)) (x : Int) : x ∈ flood n rs i w ↔ x ∈ sideL n rs w v r.l := by
  have a : Adj rs w v r.l := ⟨r, List.mem_of_getElem? hi, rfl, he⟩
  have rg := a.range T.toRoadsOk
  rw [(flood_facts T.toRoadsOk ⟨rg.1, rg.2.1⟩).2.2 x, mem_sideL]
  constructor
  · rintro ⟨h1, h2⟩
    exact ⟨h1, (reach_side T hi he h1).mp h2⟩
  · rintro ⟨h1, h2⟩
    exact ⟨h1, (reach_side T hi he h1).mpr h2⟩
/-- the one side is what the other one is not -/
theorem side_other (T : IsTree n rs) {w v l : Int} (a : Adj rs w v l) : (ivs n).filter (fun x => !decide (x ∈ sideL n rs v w l)) = sideL n rs w v l := by
  unfold sideL
  refine List.filter_congr fun x hx => ?_
  have hx := mem_ivs.mp hx
  have rg := a.range T.toRoadsOk
  have ts := two_sides T a hx
  have e : x ∈ (ivs n).filter (fun x => decide (D n rs w x = D n rs v x + l)) ↔ D n rs w x = D n rs v x + l := by
    rw [List.mem_filter, mem_ivs, decide_eq_true_eq]
    exact ⟨fun h => h.2, fun h => ⟨hx, h⟩⟩
  by_cases c : D n rs w x = D n rs v x + l
  · have h1 : ¬ (D n rs v x = D n rs w x + l) := by omega
    rw [decide_eq_true (e.mpr c), decide_eq_false h1]; rfl
  · have h1 : D n rs v x = D n rs w x + l := by omega
    rw [decide_eq_false (fun h => c (e.mp h)), decide_eq_true h1]; rfl
/-- up from a village: seen from w, towards it, on the same side of the road between w and v -/
theorem up_side (T : IsTree n rs) {w v l : Int} (a : Adj rs w v l) {x : Int} (hx : 0 ≤ x ∧ x < n) (h1 : x ≠ w) (h2 : x ≠ v) :
    ∃ p, (walked n rs w).lookup x = some (p, D n rs w x) ∧ (0 ≤ p ∧ p < n) ∧ D n rs w p < D n rs w x ∧ (D n rs w p = D n rs v p + l ↔ D n rs w x = D n rs v x + l) := by
  have rg := a.range T.toRoadsOk
  have hw : 0 ≤ w ∧ w < n := ⟨rg.1, rg.2.1⟩
  obtain ⟨p, l', k1, b, k2, p0, p1⟩ := D_parent T hw hx h1
  have rb := b.range T.toRoadsOk
  refine ⟨p, k1, ⟨p0, p1⟩, by omega, ?_⟩
  have sp := two_sides T a ⟨p0, p1⟩
  have sx := two_sides T a hx
  constructor
  · intro h
    rcases sx with q | q
    · obtain ⟨e1, e2⟩ := cross T a b.symm q h
      exact absurd e1 h1
    · exact q
  · intro h
    rcases sp with q | q
    · obtain ⟨e1, e2⟩ := cross T a b q h
      exact absurd e2 h2
    · exact q

theorem toldN_le {cell most : Int} (h1 : 1 ≤ most) : toldN cell most ≤ most := by
  unfold toldN min2
  split
  · have b := Int.emod_lt_of_pos (cell / 42) (show 0 < most by omega)
    omega
  · split
    · have b := Int.emod_lt_of_pos cell (show (0 : Int) < 7 by decide)
      omega
    · have b := Int.emod_lt_of_pos cell (show 0 < most by omega)
      omega
theorem told_le (cell other : Int) {most : Int} (h1 : 1 ≤ most) : ((told cell other most).1 : Int) ≤ most := by
  have := toldN_le (cell := cell) h1
  show (((toldN cell most).toNat : Nat) : Int) ≤ most
  omega
/-! ### a tree and another one, joined -/
def shiftR (m : Int) (r : Road) : Road := ⟨r.a + m, r.b + m, r.l⟩
def joinedRs (n : Nat) (rs : List Road) (at' l : Int) (qs : List Road) : List Road := rs ++ ⟨at', n, l⟩ :: qs.map (shiftR n)
theorem walk_shift {qs ts : List Road} {m : Int} (h : ∀ r ∈ qs, shiftR m r ∈ ts) {u v d : Int} (w : Walk qs u v d) : Walk ts (u + m) (v + m) d := by
  induction w with
  | nil => exact .nil
  | snoc w a ih =>
    refine .snoc ih ?_
    obtain ⟨r, hr, hl, he⟩ := a
    refine ⟨_, h r hr, hl, ?_⟩
    rcases he with ⟨e1, e2⟩ | ⟨e1, e2⟩
    · exact .inl ⟨by simp [shiftR, e1], by simp [shiftR, e2]⟩
    · exact .inr ⟨by simp [shiftR, e1], by simp [shiftR, e2]⟩
theorem joined_tree (T : IsTree n rs) {m : Nat} {qs : List Road} (S : IsTree m qs) (h12 : n + m ≤ 12) {at' l : Int} (ha : 0 ≤ at' ∧ at' < n) (hl : 1 ≤ l ∧ l ≤ 1000000) : IsTree (n + m) (joinedRs n rs at' l qs) := by
  have m1 := S.pos
  have n1 := T.pos
  refine { ok := ?_, pos := by omega, le := h12, len := ?_, conn := ?_ }
  · intro r hr
    unfold joinedRs at hr
    rcases List.mem_append.mp hr with h | h
    · have := T.ok r h
      omega
    · rcases List.mem_cons.mp h with rfl | hq0
      · have q1 : at' < ((n + m : Nat) : Int) := by omega
        have q2 : (0 : Int) ≤ (n : Int) := by omega
        have q3 : (n : Int) < ((n + m : Nat) : Int) := by omega
        have q4 : at' ≠ (n : Int) := by omega
        exact ⟨ha.1, q1, q2, q3, q4, hl.1, hl.2⟩
      · obtain ⟨q, hq, rfl⟩ := List.mem_map.mp hq0
        have := S.ok q hq
        simp only [shiftR]
        omega
  · have := T.len
    have := S.len
    simp [joinedRs]
    omega
  · intro v h0 h1
    have sub1 : ∀ r ∈ rs, r ∈ joinedRs n rs at' l qs := fun r hr => List.mem_append_left _ hr
    by_cases c : v < n
    · obtain ⟨d, w⟩ := T.conn v h0 c
      exact ⟨d, w.mono sub1⟩
    · obtain ⟨d, w⟩ := T.conn at' ha.1 ha.2
      obtain ⟨e, w2⟩ := S.conn (v - n) (by omega) (by omega)
      have w3 := walk_shift (ts := joinedRs n rs at' l qs) (m := (n : Int)) (fun r hr => by
        unfold joinedRs
        exact List.mem_append_right _ (List.mem_cons_of_mem _ (List.mem_map.mpr ⟨r, hr, rfl⟩))) w2
      have e1 : (0 : Int) + n = n := by omega
      have e2 : v - n + n = v := by omega
      rw [e1, e2] at w3
      have w4 : Walk (joinedRs n rs at' l qs) 0 (n : Int) (d + l) := .snoc (w.mono sub1) ⟨⟨at', n, l⟩, by unfold joinedRs; simp, rfl, .inl ⟨rfl, rfl⟩⟩
      exact ⟨_, w4.trans w3⟩

/-! ### a road moved -/
theorem mem_set' {rs : List Road} {i : Nat} {r t : Road} (hi : rs[i]? = some r) (q : Road) : q ∈ rs.set i t ↔ q = t ∨ q ∈ rs.eraseIdx i := by
  have hlt := (List.getElem?_eq_some_iff.mp hi).1
  constructor
  · intro hm
    obtain ⟨j, hj, e⟩ := List.getElem_of_mem hm
    by_cases c : j = i
    · subst c
      rw [List.getElem_set_self] at e
      exact .inl e.symm
    · rw [List.getElem_set_ne (Ne.symm c)] at e
      exact .inr (mem_erase.mpr ⟨j, c, by rw [List.getElem?_eq_getElem (by simpa using hj), e]⟩)
  · rintro (rfl | h)
    · exact List.mem_set hlt _
    · obtain ⟨j, hj, e⟩ := mem_erase.mp h
      have hj2 := (List.getElem?_eq_some_iff.mp e).1
      refine List.mem_of_getElem? (i := j) ?_
      rw [List.getElem?_set_ne (Ne.symm hj), e]
theorem moved_ok (T : IsTree n rs) {i : Nat} {r : Road} (hi : rs[i]? = some r) {x y : Int} (hx : 0 ≤ x ∧ x < n) (hy : 0 ≤ y ∧ y < n) (hs : ¬ (x ∈ flood n rs i r.a ↔ y ∈ flood n rs i r.a)) : IsTree n (rs.set i ⟨x, y, r.l⟩) := by
  have hr := T.ok r (List.mem_of_getElem? hi)
  have a : Adj rs r.a r.b r.l := ⟨r, List.mem_of_getElem? hi, rfl, .inl ⟨rfl, rfl⟩⟩
  have hne : x ≠ y := fun e => hs (by rw [e])
  have sub : ∀ q ∈ rs.eraseIdx i, q ∈ rs.set i ⟨x, y, r.l⟩ := fun q h => (mem_set' hi q).mpr (.inr h)
  have new : (⟨x, y, r.l⟩ : Road) ∈ rs.set i ⟨x, y, r.l⟩ := (mem_set' hi _).mpr (.inl rfl)
  have fa := fun z => flood_sideL T hi (w := r.a) (v := r.b) (.inl ⟨rfl, rfl⟩) z
  have key : ∀ z : Int, 0 ≤ z ∧ z < n → (Reach (rs.set i ⟨x, y, r.l⟩) r.a z) := by
    have near : ∀ z : Int, 0 ≤ z ∧ z < n → z ∈ flood n rs i r.a → Reach (rs.set i ⟨x, y, r.l⟩) r.a z := fun z hz h => by
      have h := ((flood_facts T.toRoadsOk (i := i) ⟨hr.1, hr.2.1⟩).2.2 z).mp h
      obtain ⟨d, w⟩ := h.2
      exact ⟨d, w.mono sub⟩
    have farr : ∀ z : Int, 0 ≤ z ∧ z < n → z ∉ flood n rs i r.a → Reach (rs.set i ⟨x, y, r.l⟩) r.b z := fun z hz h => by
      have ts := two_sides T a hz
      rw [fa z, mem_sideL] at h
      have q : D n rs r.a z = D n rs r.b z + r.l := by
        rcases ts with q | q
        · exact absurd ⟨hz, q⟩ h
        · exact q
      obtain ⟨d, w⟩ := (reach_side T hi (w := r.b) (v := r.a) (.inr ⟨rfl, rfl⟩) hz).mpr q
      exact ⟨d, w.mono sub⟩
    have bridge : Reach (rs.set i ⟨x, y, r.l⟩) r.a r.b := by
      by_cases c : x ∈ flood n rs i r.a
      · have c2 : y ∉ flood n rs i r.a := fun h => hs ⟨fun _ => h, fun _ => c⟩
        refine (near x hx c).trans (Reach.trans ⟨0 + r.l, .snoc .nil ⟨_, new, rfl, .inl ⟨rfl, rfl⟩⟩⟩ (farr y hy c2).symm)
      · have c2 : y ∈ flood n rs i r.a := Classical.byContradiction fun h => hs ⟨fun q => absurd q c, fun q => absurd q h⟩
        refine (near y hy c2).trans (Reach.trans ⟨0 + r.l, .snoc .nil ⟨_, new, rfl, .inr ⟨rfl, rfl⟩⟩⟩ (farr x hx c).symm)
    intro z hz
    by_cases c : z ∈ flood n rs i r.a
    · exact near z hz c
    · exact bridge.trans (farr z hz c)
  refine { ok := ?_, pos := T.pos, le := T.le, len := by rw [List.length_set]; exact T.len, conn := fun v h0 h1 => ?_ }
  · intro q hq
    rcases (mem_set' hi q).mp hq with rfl | h
    · exact ⟨hx.1, hx.2, hy.1, hy.2, hne, hr.2.2.2.2.2.1, hr.2.2.2.2.2.2⟩
    · obtain ⟨j, _, e⟩ := mem_erase.mp h
      exact T.ok q (List.mem_of_getElem? e)
  · have z0 : (0 : Int) ≤ 0 ∧ (0 : Int) < n := ⟨Int.le_refl _, by have := T.pos; omega⟩
    exact (key 0 z0).symm.trans (key v ⟨h0, h1⟩)
theorem moved_bad (T : IsTree n rs) {i : Nat} {r : Road} (hi : rs[i]? = some r) {x y : Int} (hs : x ∈ flood n rs i r.a ↔ y ∈ flood n rs i r.a) : ¬ IsTree n (rs.set i ⟨x, y, r.l⟩) := by
  intro S
  have hr := T.ok r (List.mem_of_getElem? hi)
  have fa := (flood_facts T.toRoadsOk (i := i) (w := r.a) ⟨hr.1, hr.2.1⟩).2.2
  have key : ∀ {z d : Int}, Walk (rs.set i ⟨x, y, r.l⟩) r.a z d → z ∈ flood n rs i r.a := by
    intro z d w
    induction w with
    | nil => exact (fa _).mpr ⟨⟨hr.1, hr.2.1⟩, .refl⟩
    | @snoc u z d l w b ih =>
      have rb := b.range S.toRoadsOk
      obtain ⟨q, hq, hl, he⟩ := b
      rcases (mem_set' hi q).mp hq with rfl | h
      · rcases he with ⟨e1, e2⟩ | ⟨e1, e2⟩
        · have e1 : x = u := e1
          have e2 : y = z := e2
          subst e1 e2
          exact hs.mp ih
        · have e1 : y = u := e1
          have e2 : x = z := e2
          subst e1 e2
          exact hs.mpr ih
      · refine (fa z).mpr ⟨⟨rb.2.2.1, rb.2.2.2.1⟩, ?_⟩
        exact ((fa u).mp ih).2.trans ⟨0 + l, .snoc .nil ⟨q, h, hl, he⟩⟩
  obtain ⟨d, w⟩ := S.reach (u := r.a) (v := r.b) ⟨hr.1, hr.2.1⟩ ⟨hr.2.2.1, hr.2.2.2.1⟩
  have hb := key w
  rw [flood_sideL T hi (.inl ⟨rfl, rfl⟩), mem_sideL] at hb
  have h1 := D_self T (s := r.b) ⟨hr.2.2.1, hr.2.2.2.1⟩
  have h2 := D_nonneg T (u := r.a) (v := r.b) ⟨hr.1, hr.2.1⟩ ⟨hr.2.2.1, hr.2.2.2.1⟩
  have h3 := hr.2.2.2.2.2.1
  omega
/-- such a list of roads, all of them roads, is walked short -/
theorem moved_short (T : IsTree n rs) {i : Nat} {r : Road} (hi : rs[i]? = some r) {x y : Int} (hx : 0 ≤ x ∧ x < n) (hy : 0 ≤ y ∧ y < n) (hne : x ≠ y) (hs : x ∈ flood n rs i r.a ↔ y ∈ flood n rs i r.a) :
    RoadsOk n (rs.set i ⟨x, y, r.l⟩) ∧ (walked n (rs.set i ⟨x, y, r.l⟩) 0).length < n := by
  have hr := T.ok r (List.mem_of_getElem? hi)
  have k : RoadsOk n (rs.set i ⟨x, y, r.l⟩) := ⟨fun q hq => by
    rcases (mem_set' hi q).mp hq with rfl | h
    · exact ⟨hx.1, hx.2, hy.1, hy.2, hne, hr.2.2.2.2.2.1, hr.2.2.2.2.2.2⟩
    · obtain ⟨j, _, e⟩ := mem_erase.mp h
      exact T.ok q (List.mem_of_getElem? e)⟩
  refine ⟨k, Classical.byContradiction fun h => ?_⟩
  exact moved_bad T hi hs (tree_of_len k T.pos T.le (by rw [List.length_set]; exact T.len) h)
end
end Wr

namespace Wr
open PySem L2

/-- no exception, so any way of lying -/
theorem FnOk.lift {P : Program} {w : World} {K : PySem.W.Frag} {mg : Str → Option Value} {base : Heap} {CX : CXT} {k : Nat} {f : Addr} {fd : FuncData} {ps : List Str} {sp : Sp} (F : FnOk P w K mg base CX0 k f fd ps sp) : FnOk P w K mg base CX k f fd ps sp :=
  ⟨F.len, fun A outer s H args us vs Q E hr e b r h => codeAny_mono (F.run A outer s H args us vs Q E hr e b r h) fun r s' q => by
    cases r with
    | error e => exact False.elim q
    | ok fl => cases fl <;> exact q⟩
/-- a def of the module's top, by its name, with its promise -/
structure Gd (P : Program) (w : World) (K : PySem.W.Frag) (mg : Str → Option Value) (base : Heap) (k : Nat) (x : Str) (ps : List Str) (sp : Sp) : Prop where
  ex : ∃ f fd, mg x = some (.ref f) ∧ PySem.W.keepIn K (.ref f) = true ∧ Binds K fd ps [] ∧ FnOk P w K mg base (L2.CX P w) k f fd ps sp
/-- a method -/
structure Gm (P : Program) (w : World) (K : PySem.W.Frag) (mg : Str → Option Value) (base : Heap) (C : Addr) (k : Nat) (x : Str) (ps : List Str) (sp : Sp) : Prop where
  ex : ∃ f fd, Meth K C x f ∧ Binds K fd ps [] ∧ FnOk P w K mg base (L2.CX P w) k f fd ps sp
/-- a class that is made by a call -/
structure Gc (P : Program) (w : World) (K : PySem.W.Frag) (mg : Str → Option Value) (base : Heap) (C : Addr) (k : Nat) (x : Str) (ps : List Str) (sp : Sp) : Prop where
  ex : ∃ f fd, mg x = some (.ref C) ∧ Mk K C f ∧ Binds K fd ps [] ∧ FnOk P w K mg base (L2.CX P w) k f fd ps sp
section
variable {X : Cx} {C : Addr} {k j : Nat} {x m : Str} {ps : List Str} {sp : Sp} {p pos apos : Pos} {o e : Expr} {es : List Expr} {ta : TE} {t : TA} {E : XK}
/-- a call; hx: passL (it does not raise), or passes_call tk (fun _ _ _ _ h => h) -/
theorem pe_gx (G : Gd X.prog X.w X.K X.mg X.base k x ps sp) (hr : Room j X.A) (hg : Gl X x) (hx : Passes (L2.CX X.prog X.w) X E) (ha : PA X (e :: es) t) (hk : k ≤ j := by decide)
    (w1 : (x == ("__debug__" : Str)) = false := by decide) (w2 : starEach (e :: es) X.env = (false, eval e X.env) :: starEach es X.env := by rfl)
    (w3 : (backTo pos (starEach es X.env)).any (fun z => z.1) = false := by rfl) :
    PE X (.Call (.Name x p) (e :: es) [] pos) (tCall sp [] E t) := by
  obtain ⟨f, fd, hm, kp, hb, F⟩ := G.ex
  exact pe_call F (hr.mono hk) hg hm kp hb .nil hx ha w1 w2 w3
theorem pe_g (G : Gd X.prog X.w X.K X.mg X.base k x ps sp) (hr : Room j X.A) (hg : Gl X x) (ha : PA X (e :: es) t) (hk : k ≤ j := by decide)
    (w1 : (x == ("__debug__" : Str)) = false := by decide) (w2 : starEach (e :: es) X.env = (false, eval e X.env) :: starEach es X.env := by rfl)
    (w3 : (backTo pos (starEach es X.env)).any (fun z => z.1) = false := by rfl) :
    PE X (.Call (.Name x p) (e :: es) [] pos) (tCall sp [] E0 t) := pe_gx G hr hg passL ha hk w1 w2 w3
theorem pe_gmx {pl : Sem Bool} (he : PE X o ta) (c : Cls X.K C) (G : Gm X.prog X.w X.K X.mg X.base C k m ps sp) (hr : Room j X.A) (hx : Passes (L2.CX X.prog X.w) X E) (ha : PA X (e :: es) t) (hk : k ≤ j := by decide)
    (w1 : starEach (e :: es) X.env = (false, eval e X.env) :: starEach es X.env := by rfl) (w2 : (backTo pos (starEach es X.env)).any (fun z => z.1) = false := by rfl)
    (ht : eval (.Call (.Attribute o m apos) (e :: es) [] pos) X.env = (do let ov ← eval o X.env; standAt apos.atName; let z ← holding [ov] (getMethod ov m pl); callWith pos z.1 z.2 (backTo pos (starEach (e :: es) X.env)) (backToKw pos (keywordEach [] X.env))) := by rfl) :
    PE X (.Call (.Attribute o m apos) (e :: es) [] pos) (tMeth C m sp [] E ta t) := by
  obtain ⟨f, fd, hm, hb, F⟩ := G.ex
  exact pe_meth he c hm F (hr.mono hk) hb .nil hx ha w1 w2 ht
theorem pe_gm {pl : Sem Bool} (he : PE X o ta) (c : Cls X.K C) (G : Gm X.prog X.w X.K X.mg X.base C k m ps sp) (hr : Room j X.A) (ha : PA X (e :: es) t) (hk : k ≤ j := by decide)
    (w1 : starEach (e :: es) X.env = (false, eval e X.env) :: starEach es X.env := by rfl) (w2 : (backTo pos (starEach es X.env)).any (fun z => z.1) = false := by rfl)
    (ht : eval (.Call (.Attribute o m apos) (e :: es) [] pos) X.env = (do let ov ← eval o X.env; standAt apos.atName; let z ← holding [ov] (getMethod ov m pl); callWith pos z.1 z.2 (backTo pos (starEach (e :: es) X.env)) (backToKw pos (keywordEach [] X.env))) := by rfl) :
    PE X (.Call (.Attribute o m apos) (e :: es) [] pos) (tMeth C m sp [] E0 ta t) := pe_gmx he c G hr passL ha hk w1 w2 ht
theorem pe_gm0 {pl : Sem Bool} (he : PE X o ta) (c : Cls X.K C) (G : Gm X.prog X.w X.K X.mg X.base C k m ps sp) (hr : Room j X.A) (hk : k ≤ j := by decide)
    (ht : eval (.Call (.Attribute o m apos) [] [] pos) X.env = (do let ov ← eval o X.env; standAt apos.atName; let z ← holding [ov] (getMethod ov m pl); callWith pos z.1 z.2 (backTo pos (starEach [] X.env)) (backToKw pos (keywordEach [] X.env))) := by rfl) :
    PE X (.Call (.Attribute o m apos) [] [] pos) (tMeth C m sp [] E0 ta tNil) := by
  obtain ⟨f, fd, hm, hb, F⟩ := G.ex
  exact pe_meth0 he c hm F (hr.mono hk) hb .nil passL ht
theorem pe_gcx (G : Gc X.prog X.w X.K X.mg X.base C k x ps sp) (hr : Room j X.A) (hg : Gl X x) (hx : Passes (L2.CX X.prog X.w) X E) (ha : PA X (e :: es) t) (hk : k + 1 ≤ j := by decide)
    (w1 : (x == ("__debug__" : Str)) = false := by decide) (w2 : starEach (e :: es) X.env = (false, eval e X.env) :: starEach es X.env := by rfl)
    (w3 : (backTo pos (starEach es X.env)).any (fun z => z.1) = false := by rfl) :
    PE X (.Call (.Name x p) (e :: es) [] pos) (tMake C sp [] E t) := by
  obtain ⟨f, fd, hm, M, hb, F⟩ := G.ex
  exact pe_make M F (hr.mono hk) hg hm hb .nil hx ha w1 w2 w3
theorem pe_gc (G : Gc X.prog X.w X.K X.mg X.base C k x ps sp) (hr : Room j X.A) (hg : Gl X x) (ha : PA X (e :: es) t) (hk : k + 1 ≤ j := by decide)
    (w1 : (x == ("__debug__" : Str)) = false := by decide) (w2 : starEach (e :: es) X.env = (false, eval e X.env) :: starEach es X.env := by rfl)
    (w3 : (backTo pos (starEach es X.env)).any (fun z => z.1) = false := by rfl) :
    PE X (.Call (.Name x p) (e :: es) [] pos) (tMake C sp [] E0 t) := pe_gcx G hr hg passL ha hk w1 w2 w3
end

/-- built-ins that the program does not shadow -/
structure Bi (mg : Str → Option Value) : Prop where
  len : mg "len" = none
  isinstance : mg "isinstance" = none
  list : mg "list" = none
  int : mg "int" = none
  bool : mg "bool" = none
  tuple : mg "tuple" = none
  range : mg "range" = none
  set : mg "set" = none
  sorted : mg "sorted" = none
  sum : mg "sum" = none
  max : mg "max" = none
  min : mg "min" = none
  any : mg "any" = none
  all : mg "all" = none
  reversed : mg "reversed" = none
  str : mg "str" = none

/-- a value whose type is known -/
def isI : V → Bool | .int _ => true | .bl _ => true | _ => false
def isB : V → Bool | .bl _ => true | _ => false
structure Plain (K : PySem.W.Frag) (H : Hp) (x : V) : Prop where
  ex : ∃ t, TyX K H x t ∧ PySem.W.kitOne K t (.type "int") = some (isI x) ∧ PySem.W.kitOne K t (.type "bool") = some (isB x)
theorem Plain.int {K : PySem.W.Frag} {H : Hp} (i : Int) : Plain K H (.int i) := ⟨_, .base (.int i), kit_ty (show kitB "int" "int" = some true by decide +kernel), kit_ty (show kitB "int" "bool" = some false by decide +kernel)⟩
theorem Plain.bl {K : PySem.W.Frag} {H : Hp} (i : Bool) : Plain K H (.bl i) := ⟨_, .base (.bl i), kit_ty (show kitB "bool" "int" = some true by decide +kernel), kit_ty (show kitB "bool" "bool" = some true by decide +kernel)⟩
theorem Plain.non {K : PySem.W.Frag} {H : Hp} : Plain K H .non := ⟨_, .base .non, kit_ty (show kitB "NoneType" "int" = some false by decide +kernel), kit_ty (show kitB "NoneType" "bool" = some false by decide +kernel)⟩
theorem Plain.str {K : PySem.W.Frag} {H : Hp} (x : Str) : Plain K H (.str x) := ⟨_, .base (.str x), kit_ty (show kitB "str" "int" = some false by decide +kernel), kit_ty (show kitB "str" "bool" = some false by decide +kernel)⟩
theorem Plain.lst {K : PySem.W.Frag} {H : Hp} {a : Addr} {xs : List V} (h : H a = some (.lst xs)) : Plain K H (.ref a) := ⟨_, .base (.lst h), kit_ty (show kitB "list" "int" = some false by decide +kernel), kit_ty (show kitB "list" "bool" = some false by decide +kernel)⟩
theorem Plain.tup {K : PySem.W.Frag} {H : Hp} {a : Addr} {xs : List V} (h : H a = some (.tup xs)) : Plain K H (.ref a) := ⟨_, .base (.tup h), kit_ty (show kitB "tuple" "int" = some false by decide +kernel), kit_ty (show kitB "tuple" "bool" = some false by decide +kernel)⟩
def isW : V → Bool | .int _ => true | _ => false
theorem isW_eq (x : V) : isW x = (isI x && !isB x) := by cases x <;> rfl
def withinV (x : V) (lo hi : Int) : Bool := match x with | .int i => decide (lo ≤ i) && decide (i ≤ hi) | _ => false
/-! ### heaps -/
theorem Same.new {H : Hp} {p : Addr} {o : HO} (h : H p = none) : Same H (upd H p o) := fun a u e => by
  rw [upd_ne (ne_of_none e h)]; exact e
theorem Same.mut {H H' : Hp} {p : Addr} {o : HO} (e : Same H H') (h : H p = none) : Same H (upd H' p o) := fun a u ha => by
  rw [upd_ne (ne_of_none ha h)]; exact e a u ha
theorem keepN {H : Hp} {a p : Addr} {o u : HO} (h : H a = some o) (hp : H p = none) : upd H p u a = some o := by
  rw [upd_ne (ne_of_none h hp)]; exact h
theorem keepU {H : Hp} {a p : Addr} {o u v : HO} (h : H a = some o) (hp : H p = some v) (d : o ≠ v) : upd H p u a = some o := by
  rw [upd_ne (ne_of h hp d)]; exact h

/-! ### roads, trees in the heap -/
def RoadAt (H : Hp) (r : Road) (v : V) : Prop := ∃ t, v = .ref t ∧ H t = some (.tup [.int r.a, .int r.b, .int r.l])
abbrev RoadsAt (H : Hp) (rs : List Road) (vs : List V) : Prop := Paired (RoadAt H) rs vs
theorem paired_get {α β : Type} {F : α → β → Prop} : ∀ {l : List α} {m : List β} {i : Nat} {x : α}, Paired F l m → l[i]? = some x → ∃ y, m[i]? = some y ∧ F x y
  | _, _, _, _, .nil, h => by simp at h
  | _, _, 0, x, .cons r _, h => by simp at h; subst h; exact ⟨_, rfl, r⟩
  | _, _, i + 1, x, .cons _ t, h => by
    obtain ⟨y, h1, h2⟩ := paired_get (i := i) (x := x) t (by simpa using h)
    exact ⟨y, by simpa using h1, h2⟩
theorem paired_get' {α β : Type} {F : α → β → Prop} : ∀ {l : List α} {m : List β} {i : Nat} {y : β}, Paired F l m → m[i]? = some y → ∃ x, l[i]? = some x ∧ F x y
  | _, _, _, _, .nil, h => by simp at h
  | _, _, 0, x, .cons r _, h => by simp at h; subst h; exact ⟨_, rfl, r⟩
  | _, _, i + 1, x, .cons _ t, h => by
    obtain ⟨y, h1, h2⟩ := paired_get' (i := i) (y := x) t (by simpa using h)
    exact ⟨y, by simpa using h1, h2⟩
theorem RoadsAt.same {H H' : Hp} {rs : List Road} {vs : List V} (e : Same H H') (h : RoadsAt H rs vs) : RoadsAt H' rs vs :=
  Paired.mapP h fun _ _ ⟨t, e1, e2⟩ => ⟨t, e1, e _ _ e2⟩
/-- the fields of a tree -/
def tfs (n : Nat) (r : Addr) : List (Str × V) := [("size", .int n), ("rows", .ref r)]
def TreeAt (C : Addr) (H : Hp) (t : Addr) (n : Nat) (rs : List Road) : Prop :=
  ∃ dx r vs, H t = some (.ins C dx (tfs n r)) ∧ H r = some (.lst vs) ∧ RoadsAt H rs vs
theorem TreeAt.same {C : Addr} {H H' : Hp} {t : Addr} {n : Nat} {rs : List Road} (e : Same H H') (h : TreeAt C H t n rs) : TreeAt C H' t n rs :=
  let ⟨dx, r, vs, h1, h2, h3⟩ := h
  ⟨dx, r, vs, e _ _ h1, e _ _ h2, h3.same e⟩
/-- .. whose list of roads H0 does not know -/
def TreeNew (C : Addr) (H0 H : Hp) (t : Addr) (n : Nat) (rs : List Road) : Prop :=
  ∃ dx r vs, H0 r = none ∧ H t = some (.ins C dx (tfs n r)) ∧ H r = some (.lst vs) ∧ RoadsAt H rs vs
theorem TreeNew.at {C : Addr} {H0 H : Hp} {t : Addr} {n : Nat} {rs : List Road} (h : TreeNew C H0 H t n rs) : TreeAt C H t n rs :=
  let ⟨dx, r, vs, _, h1, h2, h3⟩ := h
  ⟨dx, r, vs, h1, h2, h3⟩
/-- an elder list changes -/
theorem TreeNew.upd {C : Addr} {H0 H : Hp} {t a : Addr} {n : Nat} {rs : List Road} {o : HO} {xs ys : List V} (h : TreeNew C H0 H t n rs) (h0 : H0 a = some o) (ha : H a = some (.lst xs)) : TreeAt C (upd H a (.lst ys)) t n rs :=
  let ⟨dx, r, vs, hr, h1, h2, h3⟩ := h
  ⟨dx, r, vs, keepU h1 ha (by intro z; cases z), by rw [upd_ne (ne_of_none h0 hr).symm]; exact h2, Paired.mapP h3 fun _ _ ⟨t, e1, e2⟩ => ⟨t, e1, keepU e2 ha (by intro z; cases z)⟩⟩
theorem ns_sr : ¬ (("size" : Str) = "rows") := by decide +kernel
theorem ns_rs : ¬ (("rows" : Str) = "size") := by decide +kernel
theorem tfs_size (n : Nat) (r : Addr) : (tfs n r).lookup ("size" : Str) = some (.int n) := by
  unfold tfs
  simp [List.lookup]
theorem tfs_no (n : Nat) (r : Addr) {m : Str} (h1 : (m == ("size" : Str)) = false) (h2 : (m == ("rows" : Str)) = false) : (tfs n r).lookup m = none := by
  unfold tfs
  simp [List.lookup, h1, h2]
theorem tfs_rows (n : Nat) (r : Addr) : (tfs n r).lookup ("rows" : Str) = some (.ref r) := by
  have h : (("rows" : Str) == "size") = false := by decide +kernel
  unfold tfs
  simp [List.lookup, h]
theorem tfs_put (n : Nat) (r : Addr) : putF "rows" (.ref r) (putF "size" (.int n) []) = tfs n r := by
  show (if ("size" : Str) = "rows" then _ else _) = _
  rw [if_neg ns_sr]
  rfl
/-- what walked has found -/
def FRel (H : Hp) (e : Int × (Int × Int)) (kv : Key × V) : Prop := kv.1 = .inl e.1 ∧ ∃ t, kv.2 = .ref t ∧ H t = some (.tup [.int e.2.1, .int e.2.2])
def FoundAt (H : Hp) (d : Addr) (f : Found) : Prop := ∃ kvs, H d = some (.dK kvs) ∧ Paired (FRel H) f kvs
theorem FRel.same {H H' : Hp} {f : Found} {kvs : List (Key × V)} (e : ∀ a xs, H a = some (.tup xs) → H' a = some (.tup xs)) (h : Paired (FRel H) f kvs) : Paired (FRel H') f kvs :=
  Paired.mapP h fun _ _ ⟨e1, t, e2, e3⟩ => ⟨e1, t, e2, e _ _ e3⟩
theorem FoundAt.same {H H' : Hp} {d : Addr} {f : Found} (e : Same H H') (h : FoundAt H d f) : FoundAt H' d f :=
  let ⟨kvs, h1, h2⟩ := h
  ⟨kvs, e _ _ h1, FRel.same (fun a xs q => e a _ q) h2⟩
theorem found_val {H : Hp} (v : Int) : ∀ {f : Found} {kvs : List (Key × V)}, Paired (FRel H) f kvs →
    (∀ p d, f.lookup v = some (p, d) → ∃ t, valV kvs (.inl v : Key) = some (.ref t) ∧ H t = some (.tup [.int p, .int d])) ∧ (f.lookup v = none → valV kvs (.inl v : Key) = none)
  | _, _, .nil => ⟨fun p d h => by simp at h, fun _ => rfl⟩
  | (k, x) :: f, (kk, vv) :: kvs, .cons ⟨e1, t, e2, e3⟩ r => by
    have ih := found_val v r
    simp only at e1 e2 e3
    subst e1 e2
    by_cases e : v = k
    · subst e
      have l : List.lookup v ((v, x) :: f) = some x := by simp [List.lookup]
      rw [l, valV_pos rfl]
      refine ⟨fun p d h => ?_, fun h => nomatch h⟩
      injection h with h
      subst h
      exact ⟨t, rfl, e3⟩
    · have hb : (v == k) = false := by simpa using e
      have l : List.lookup v ((k, x) :: f) = List.lookup v f := by simp [List.lookup, hb]
      rw [l, valV_neg (fun q => e (Sum.inl.inj q).symm)]
      exact ih
theorem flen {H : Hp} {f : Found} {kvs : List (Key × V)} (h : Paired (FRel H) f kvs) : kvs.length = f.length := h.length.symm

/-! ### == of lists of ints -/
theorem dp_ints {K : PySem.W.Frag} {H : Hp} : ∀ (ns : List Int), DpAll K H (ns.map V.int) (ns.map PyData.int)
  | [] => .nil
  | n :: r => .cons (.int n) (dp_ints r)
theorem dp_ilist {K : PySem.W.Frag} {H : Hp} {a : Addr} {ns : List Int} (h : H a = some (.lst (ns.map V.int))) : Dp K H (.ref a) (.list (ns.map PyData.int)) := .lst (SqL.of h) (dp_ints ns)
theorem eqv_ints : ∀ (ns ms : List Int), PyData.eqvAll (ns.map PyData.int) (ms.map PyData.int) = decide (ns = ms)
  | [], [] => rfl
  | [], _ :: _ => rfl
  | _ :: _, [] => rfl
  | n :: r, m :: q => by
    show (PyData.eqv (.int n) (.int m) && PyData.eqvAll (r.map PyData.int) (q.map PyData.int)) = _
    rw [eqv_ints r q]
    show ((n == m) && decide (r = q)) = _
    by_cases e : n = m <;> simp [e]
theorem eqv_il (ns ms : List Int) : PyData.eqv (.list (ns.map PyData.int)) (.list (ms.map PyData.int)) = decide (ns = ms) := eqv_ints ns ms
theorem int_depths : ∀ (ns : List Int), PyData.depthAll (ns.map PyData.int) ≤ 1
  | [] => by simp only [List.map_nil, PyData.depthAll]; omega
  | n :: r => by
    have := int_depths r
    simp only [PyData.depth, PyData.depthAll, List.map_cons]
    omega
theorem int_lays : ∀ (ns : List Int), PyData.canLayAll0 (ns.map PyData.int) = true
  | [] => rfl
  | n :: r => by
    have := int_lays r
    simp only [List.map_cons, PyData.canLayAll0, PyData.canLay0, this]
    rfl
theorem shaped_list {ds : List PyData} (h1 : PyData.canLayAll0 ds = true) (h2 : PyData.depthAll ds ≤ 60) : SeqAt.shaped (.list ds) = true := by
  unfold SeqAt.shaped
  have e : PyData.canLay0 (.list ds) = true := by simp only [PyData.canLay0]; exact h1
  rw [e, Bool.true_and, decide_eq_true_eq]
  simp only [PyData.depth]
  omega
theorem shaped_ints (ns : List Int) : SeqAt.shaped (.list (ns.map PyData.int)) = true := shaped_list (int_lays _) (Nat.le_trans (int_depths _) (by decide))

/-! ### tests that change nothing -/
theorem ans_or2 {σ : St} {H : Hp} {t u : TT} {a b : Bool} (h1 : Ans t σ H a) (h2 : Ans u σ H b) : Ans (tOr t u) σ H (a || b) := by
  cases a with
  | true => exact ans_or1 h1
  | false => exact ans_or h1 h2
theorem val_eqi {σ : St} {H : Hp} {ta tb : TE} {x y : Int} (h1 : Val ta σ H (.int x)) (h2 : Val tb σ H (.int y)) : Ans (tTest (tOp rEq ta tb)) σ H (decide (x = y)) :=
  ans_eq h1 h2 rfl (by rw [dec_int]; exact Bool.beq_eq_decide_eq x y)
theorem val_nei {σ : St} {H : Hp} {ta tb : TE} {x y : Int} (h1 : Val ta σ H (.int x)) (h2 : Val tb σ H (.int y)) : Ans (tTest (tOp rNe ta tb)) σ H (!decide (x = y)) :=
  ans_ne h1 h2 rfl (by rw [dec_int, Bool.beq_eq_decide_eq x y])
theorem st_if {σ : St} {H : Hp} {c : TT} {t1 t2 : TS} {D : Ends} {b : Bool} (h : Ans c σ H b) (q1 : b = true → t1 D σ H) (q2 : b = false → t2 D σ H) : tIfS c t1 t2 D σ H := by
  cases b with
  | true => exact st_yes h (q1 rfl)
  | false => exact st_no h (q2 rfl)
theorem Ans.cast {t : TT} {σ : St} {H : Hp} {b b' : Bool} (h : Ans t σ H b) (e : b = b') : Ans t σ H b' := e ▸ h
theorem szl {n : Nat} (h : n ≤ 1000) : n < sizeLine := Nat.lt_of_le_of_lt h (by decide)
theorem szle {n : Nat} (h : n ≤ 1000) : n ≤ sizeLine := Nat.le_of_lt (szl h)
theorem FoundAt.updL {H : Hp} {d q : Addr} {f : Found} {xs ys : List V} (h : FoundAt H d f) (hq : H q = some (.lst xs)) : FoundAt (upd H q (.lst ys)) d f := by
  obtain ⟨kvs, h1, h2⟩ := h
  exact ⟨kvs, keepU h1 hq (by intro z; cases z), FRel.same (fun a zs e => keepU e hq (by intro z; cases z)) h2⟩
theorem paired_snoc {α β : Type} {F : α → β → Prop} {a : α} {b : β} : ∀ {l₁ : List α} {l₂ : List β}, Paired F l₁ l₂ → F a b → Paired F (l₁ ++ [a]) (l₂ ++ [b])
  | _, _, .nil, z => .cons z .nil
  | _, _, .cons x r, z => .cons x (paired_snoc r z)

theorem inV_ints (ns : List Int) (x : Int) : inV (.int x) (ns.map V.int) = decide (x ∈ ns) := by
  unfold inV
  rw [List.any_map]
  refine Bool.eq_iff_iff.mpr ?_
  rw [List.any_eq_true, decide_eq_true_eq]
  constructor
  · rintro ⟨y, hy, e⟩
    have e : (y == x) = true := e
    rw [beq_iff_eq] at e
    exact e ▸ hy
  · exact fun h => ⟨x, h, (beq_self_eq_true x : (x == x) = true)⟩
theorem flat_ints (ns : List Int) : (ns.map V.int).all flatV = true := by
  rw [List.all_eq_true]
  rintro v hv
  obtain ⟨i, _, rfl⟩ := List.mem_map.mp hv
  rfl
theorem val_inI {K : PySem.W.Frag} {σ : St} {H : Hp} {ta tb : TE} {ns : List Int} {x : Int} {a : Addr} (h1 : Val ta σ H (.int x)) (h2 : Val tb σ H (.ref a)) (hS : SqL K H a (ns.map V.int) ∨ SqT K H a (ns.map V.int)) : Val (tOp (rIn K false) ta tb) σ H (.bl (decide (x ∈ ns))) :=
  val_op h1 h2 fun Q q => ⟨a, _, rfl, hS, rfl, flat_ints ns, by rw [if_neg (by decide), inV_ints]; exact q⟩
theorem ans_neb {σ : St} {H : Hp} {ta tb : TE} {x y : Bool} (h1 : Val ta σ H (.bl x)) (h2 : Val tb σ H (.bl y)) : Ans (tTest (tOp rNe ta tb)) σ H (!(x == y)) :=
  ans_ne h1 h2 rfl (by rw [dec_bl])

/-! ### comprehensions -/
section
variable {K : PySem.W.Frag} {g : TG} {tt : TT} {te : TE} {vs : List Nat} {σ : St} {H : Hp} {Q : VK}
abbrev LcGoal (J : It) (g : TG) (tt : TT) (te : TE) (vs : List Nat) (σ : St) (H : Hp) (Q : VK) : Prop :=
  ∀ D, H D = none → ∃ W : Nat → Nat → Hp → Prop, (∃ m, W 0 m (upd H D (.lst []))) ∧ ∀ i m U, W i m U → (J.stop i U ∧ Q (.ref D) U) ∨
    (J.go i U ∧ ∃ Z : Hp → Prop, (∀ U', Z U' → ∃ m', m' < m ∧ W (i + 1) m' U') ∧
      ∀ x U', J.yld i U x U' → g x (wipe σ vs) U' fun τ U2 => wipe τ vs = wipe σ vs ∧ tt τ U2 fun b U3 =>
        if b = true then te τ U3 fun y U4 => ∃ acc, U4 D = some (.lst acc) ∧ acc.length < sizeLine ∧ Z (upd U4 D (.lst (acc ++ [y]))) else Z U3)
/-- a turn -/
abbrev LcTurn (g : TG) (tt : TT) (te : TE) (vs : List Nat) (σ : St) (x : V) (H' : Hp) (Yes : V → Hp → Prop) (No : Hp → Prop) : Prop :=
  g x (wipe σ vs) H' fun σ2 H2 => wipe σ2 vs = wipe σ vs ∧ tt σ2 H2 fun b H3 => if b = true then te σ2 H3 Yes else No H3
abbrev SameB (D : Addr) (H1 H2 : Hp) : Prop := ∀ b o, b ≠ D → H1 b = some o → H2 b = some o
/-- elements that are new objects: R says of the i-th what it is -/
theorem lc_inv (J : It) (n : Nat) (hn : n ≤ 1000) (hgo : ∀ i H', Same H H' → i < n → J.go i H') (hstop : ∀ i H', Same H H' → n ≤ i → J.stop i H') (ok : Nat → Bool) (R : Addr → Nat → V → Hp → Prop)
    (mono : ∀ D i y H1 H2, SameB D H1 H2 → R D i y H1 → R D i y H2)
    (hs : ∀ i, i < n → ∀ D H', H D = none → Same H H' → (∃ acc, H' D = some (.lst acc)) → ∀ (Yes : V → Hp → Prop) (No : Hp → Prop), (ok i = true → ∀ y H4, Same H' H4 → R D i y H4 → Yes y H4) → (ok i = false → ∀ H4, Same H' H4 → No H4) →
      ∀ x H'', J.yld i H' x H'' → LcTurn g tt te vs σ x H'' Yes No)
    (hq : ∀ D H2 ys, H D = none → Same H H2 → H2 D = some (.lst ys) → Paired (fun i y => R D i y H2) ((List.range n).filter ok) ys → Q (.ref D) H2) : LcGoal J g tt te vs σ H Q := by
  intro D hD
  refine ⟨fun i m H' => m = n - i ∧ i ≤ n ∧ ∃ acc, Same H H' ∧ H' D = some (.lst acc) ∧ Paired (fun i y => R D i y H') ((List.range i).filter ok) acc, ⟨n, by simp, Nat.zero_le _, [], Same.new hD, upd_same, .nil⟩, ?_⟩
  rintro i m H' ⟨rfl, hi, acc, e, hA, hP⟩
  by_cases hlt : i < n
  · refine .inr ⟨hgo i H' e hlt, fun H' => ∃ acc, Same H H' ∧ H' D = some (.lst acc) ∧ Paired (fun i y => R D i y H') ((List.range (i + 1)).filter ok) acc, fun H'' ⟨acc, q⟩ => ⟨n - (i + 1), by omega, rfl, hlt, acc, q⟩, fun x H'' y => ?_⟩
    refine hs i hlt D H' hD e ⟨acc, hA⟩ _ _ (fun hok v H4 e4 r => ⟨acc, e4 _ _ hA, ?_, acc ++ [v], Same.mut (e.trans e4) hD, upd_same, ?_⟩) (fun hok H4 e4 => ⟨acc, e.trans e4, e4 _ _ hA, ?_⟩) x H'' y
    · have h1 := hP.length
      have h2 := List.length_filter_le ok (List.range i)
      rw [List.length_range] at h2
      exact szl (by omega)
    · rw [List.range_succ, List.filter_append]
      have : List.filter ok [i] = [i] := by simp [hok]
      rw [this]
      have sb : SameB D H4 (upd H4 D (.lst (acc ++ [v]))) := fun b o hb q => by rw [upd_ne hb]; exact q
      refine paired_snoc (Paired.mapP hP fun i y q => mono _ _ _ _ _ sb (mono _ _ _ _ _ (fun b o _ q => e4 b o q) q)) (mono _ _ _ _ _ sb r)
    · rw [List.range_succ, List.filter_append]
      have : List.filter ok [i] = [] := by simp [hok]
      rw [this, List.append_nil]
      exact Paired.mapP hP fun i y q => mono _ _ _ _ _ (fun b o _ q => e4 b o q) q
  · have : i = n := by omega
    subst this
    exact .inl ⟨hstop i H' e (Nat.le_refl _), hq D H' acc hD e hA hP⟩
theorem paired_map {f : Nat → V} : ∀ {l : List Nat} {ys : List V}, Paired (fun i y => y = f i) l ys → ys = l.map f
  | _, _, .nil => rfl
  | _, _, .cons h r => by rw [paired_map r, h]; rfl
/-- over a list, elements that are new objects -/
theorem lcl_inv {a : Addr} {xs : List V} (hS : SqL K H a xs) (hn : xs.length ≤ 1000) (ok : Nat → Bool) (R : Addr → Nat → V → Hp → Prop)
    (mono : ∀ D i y H1 H2, SameB D H1 H2 → R D i y H1 → R D i y H2)
    (hs : ∀ i x, xs[i]? = some x → ∀ D H', H D = none → Same H H' → (∃ acc, H' D = some (.lst acc)) → ∀ (Yes : V → Hp → Prop) (No : Hp → Prop), (ok i = true → ∀ y H4, Same H' H4 → R D i y H4 → Yes y H4) → (ok i = false → ∀ H4, Same H' H4 → No H4) →
      LcTurn g tt te vs σ x H' Yes No)
    (hq : ∀ D H2 ys, H D = none → Same H H2 → H2 D = some (.lst ys) → Paired (fun i y => R D i y H2) ((List.range xs.length).filter ok) ys → Q (.ref D) H2) : LcGoal (Itl K a) g tt te vs σ H Q := by
  refine lc_inv (Itl K a) xs.length hn (fun i H' e hi => ⟨xs, xs[i], e.seq hS, by simp [hi]⟩) (fun i H' e hi => ⟨xs, e.seq hS, hi⟩) ok R mono (fun i hi D H' hD e hA Yes No hy hno x H'' y => ?_) hq
  obtain ⟨rfl, y⟩ := y
  exact hs i x (y xs (e.seq hS)) D _ hD e hA Yes No hy hno
theorem lcr_inv {lo : Int} {n : Nat} (hn : n ≤ 1000) (ok : Nat → Bool) (R : Addr → Nat → V → Hp → Prop)
    (mono : ∀ D i y H1 H2, SameB D H1 H2 → R D i y H1 → R D i y H2)
    (hs : ∀ (i : Nat), i < n → ∀ D H', H D = none → Same H H' → (∃ acc, H' D = some (.lst acc)) → ∀ (Yes : V → Hp → Prop) (No : Hp → Prop), (ok i = true → ∀ y H4, Same H' H4 → R D i y H4 → Yes y H4) → (ok i = false → ∀ H4, Same H' H4 → No H4) →
      LcTurn g tt te vs σ (.int (lo + i)) H' Yes No)
    (hq : ∀ D H2 ys, H D = none → Same H H2 → H2 D = some (.lst ys) → Paired (fun i y => R D i y H2) ((List.range n).filter ok) ys → Q (.ref D) H2) : LcGoal (Itr lo n) g tt te vs σ H Q := by
  refine lc_inv (Itr lo n) n hn (fun i H' e hi => hi) (fun i H' e hi => hi) ok R mono (fun i hi D H' hD e hA Yes No hy hno x H'' y => ?_) hq
  obtain ⟨rfl, rfl⟩ := y
  exact hs i hi D _ hD e hA Yes No hy hno
theorem filter_range_map {α : Type} {β : Type} {l : List α} (d : α) (ok : α → Bool) (f : α → β) : ((List.range l.length).filter fun i => ok (l.getD i d)).map (fun i => f (l.getD i d)) = (l.filter ok).map f := by
  have e : l = (List.range l.length).map fun i => l.getD i d := by
    refine List.ext_getElem (by simp) fun i k1 k2 => ?_
    simp [List.getD, k1]
  conv => rhs; rw [e]
  rw [List.filter_map, List.map_map]
  rfl
/-- over a list of known things, elements that are plain values -/
theorem lcl {α : Type} {a : Addr} {xs : List V} {l : List α} (d : α) (E : α → V → Prop) (hp : Paired E l xs) (hS : SqL K H a xs) (hn : l.length ≤ 1000) (ok : α → Bool) (f : α → V)
    (hs : ∀ x v, x ∈ l → E x v → ∀ H', Same H H' → ∀ (Yes : V → Hp → Prop) (No : Hp → Prop), (ok x = true → ∀ H4, Same H' H4 → Yes (f x) H4) → (ok x = false → ∀ H4, Same H' H4 → No H4) → LcTurn g tt te vs σ v H' Yes No)
    (hq : ∀ D H2, H D = none → Same H H2 → H2 D = some (.lst ((l.filter ok).map f)) → Q (.ref D) H2) : LcGoal (Itl K a) g tt te vs σ H Q := by
  have hl := hp.length
  refine lcl_inv hS (by omega) (fun i => ok (l.getD i d)) (fun _ i y _ => y = f (l.getD i d)) (fun _ _ _ _ _ _ q => q) (fun i v hi D H' hD e _ Yes No hy hno => ?_) (fun D H2 ys hD e hA hP => ?_)
  · obtain ⟨x, hx, hE⟩ := paired_get' hp hi
    have ed : l.getD i d = x := by rw [List.getD_eq_getElem?_getD, hx]; rfl
    rw [ed] at hy hno
    exact hs x v (List.mem_of_getElem? hx) hE H' e Yes No (fun q H4 e4 => hy q _ H4 e4 rfl) hno
  · rw [paired_map hP, ← hl, filter_range_map d ok f] at hA
    exact hq D H2 hD e hA
/-- over a range, elements that are plain values -/
theorem lcr {lo : Int} {n : Nat} (hn : n ≤ 1000) (ok : Nat → Bool) (f : Nat → V)
    (hs : ∀ (i : Nat), i < n → ∀ H', Same H H' → ∀ (Yes : V → Hp → Prop) (No : Hp → Prop), (ok i = true → ∀ H4, Same H' H4 → Yes (f i) H4) → (ok i = false → ∀ H4, Same H' H4 → No H4) → LcTurn g tt te vs σ (.int (lo + i)) H' Yes No)
    (hq : ∀ D H2, H D = none → Same H H2 → H2 D = some (.lst (((List.range n).filter ok).map f)) → Q (.ref D) H2) : LcGoal (Itr lo n) g tt te vs σ H Q := by
  refine lcr_inv hn ok (fun _ i y _ => y = f i) (fun _ _ _ _ _ _ q => q) (fun i hi D H' hD e _ Yes No hy hno => hs i hi H' e Yes No (fun q H4 e4 => hy q _ H4 e4 rfl) hno) (fun D H2 ys hD e hA hP => ?_)
  rw [paired_map hP] at hA
  exact hq D H2 hD e hA
end
theorem paired_self {β : Type} {g : β → V} : ∀ (l : List β), Paired (fun (x : β) v => v = g x) l (l.map g)
  | [] => .nil
  | x :: r => .cons rfl (paired_self r)
theorem withinV_int {x : V} {lo hi : Int} (h : withinV x lo hi = true) : ∃ i, x = .int i ∧ lo ≤ i ∧ i ≤ hi := by
  cases x with
  | int i =>
    simp [withinV] at h
    exact ⟨i, rfl, h.1, h.2⟩
  | _ => cases h
theorem withinV_of {i lo hi : Int} (h1 : lo ≤ i) (h2 : i ≤ hi) : withinV (.int i) lo hi = true := by simp [withinV, h1, h2]

/-! ### rules with K said, for blocks -/
section
variable {X : Cx}
theorem ix_tupK (K : PySem.W.Frag) (h : X.K = K := by rfl) : IxR X (rIxT K) := h ▸ ix_tup
theorem ix_listK (K : PySem.W.Frag) (h : X.K = K := by rfl) : IxR X (rIxL K) := h ▸ ix_list
theorem op_inK (K : PySem.W.Frag) (h : X.K = K := by rfl) : OpR X (compareOp .In) (rIn K false) := h ▸ op_in_seq
theorem op_notInK (K : PySem.W.Frag) (h : X.K = K := by rfl) : OpR X (compareOp .NotIn) (rIn K true) := h ▸ op_notIn_seq
theorem pe_fldK (K : PySem.W.Frag) {e : Expr} {ta : TE} {f : Str} {pos : Pos} (he : PE X e ta) (hb : attributeBase e f X.env (eval e X.env) = eval e X.env) (h : X.K = K := by rfl) : PE X (.Attribute e f pos) (tFld K ta f) := h ▸ pe_fld he hb
theorem pi_listK (K : PySem.W.Frag) {tg l : Expr} {tl : TE} (hl : PE X l tl) (h : X.K = K := by rfl) : PI X tg l (iList K tl) := h ▸ pi_list hl
theorem pi_tupK (K : PySem.W.Frag) {tg l : Expr} {tl : TE} (hl : PE X l tl) (h : X.K = K := by rfl) : PI X tg l (iTup K tl) := h ▸ pi_tup hl
theorem pg_tupK (K : PySem.W.Frag) {pos : Pos} {es : List Expr} {k : Nat} {t : TGs} {n : Nat} (hc : X.calm = true) (h : PGs X es t) (hn : (assignEach es X.env).length = n := by rfl) (hst : (assignEach es X.env).findIdx? (·.1) = none := by rfl) (hk : X.K = K := by rfl) :
    PG X (.Tuple es k pos) (gTup K n t) := hk ▸ pg_tup hc h hn hst
theorem sl_listK (K : PySem.W.Frag) (h : X.K = K := by rfl) : SlR X (rSlL K) := h ▸ sl_list
theorem sl_tupK (K : PySem.W.Frag) (h : X.K = K := by rfl) : SlR X (rSlT K) := h ▸ sl_tup
theorem op_eqDK (K : PySem.W.Frag) (hu : X.A.units + 64 < cLine) (h : X.K = K := by rfl) : OpR X (compareOp .Eq) (rEqD K) := h ▸ op_eqD hu
theorem op_neDK (K : PySem.W.Frag) (hu : X.A.units + 64 < cLine) (h : X.K = K := by rfl) : OpR X (compareOp .NotEq) (rNeD K) := h ▸ op_neD hu
def rLenK (K : PySem.W.Frag) : List V → Hp → VK → Prop := fun xs H Q => ∃ p ys, xs = [.ref p] ∧ (SqL K H p ys ∨ SqT K H p ys) ∧ Q (.int ys.length) H
theorem call_lenK (K : PySem.W.Frag) (h : X.K = K := by rfl) : CallR X (.builtin "len") (rLenK K) := by subst h; exact call_len_seq
theorem cr_anyK (K : PySem.W.Frag) (hc : X.calm = true) (h : X.K = K := by rfl) : CallR X (.builtin "any") (rAny K) := h ▸ cr_any hc
theorem cr_allK (K : PySem.W.Frag) (hc : X.calm = true) (h : X.K = K := by rfl) : CallR X (.builtin "all") (rAll K) := h ▸ cr_all hc
theorem cr_sumK (K : PySem.W.Frag) (hc : X.calm = true) (h : X.K = K := by rfl) : CallR X (.builtin "sum") (rSum K) := h ▸ cr_sum hc
theorem cr_maxK (K : PySem.W.Frag) (hc : X.calm = true) (h : X.K = K := by rfl) : CallR X (.builtin "max") (rMax K) := h ▸ cr_max hc
theorem cr_minK (K : PySem.W.Frag) (hc : X.calm = true) (h : X.K = K := by rfl) : CallR X (.builtin "min") (rMin K) := h ▸ cr_min hc
theorem cr_sortedK (K : PySem.W.Frag) (h : X.K = K := by rfl) : CallR X (.builtin "sorted") (rSorted K) := h ▸ cr_sorted
end

section
variable {wi : TI} {g : TG} {tt : TT} {te : TE} {vs : List Nat} {σ : St} {H : Hp} {Q : VK}
theorem lc_pre (PJ : It → Hp → Prop) (hwi : ∀ R : It → Hp → Prop, (∀ J H1, PJ J H1 → R J H1) → wi σ H R) (h : ∀ J H1, PJ J H1 → LcGoal J g tt te vs σ H1 Q) : tLc wi g tt te vs σ H Q := hwi _ h
theorem lc_at (J : It) (hwi : ∀ R : It → Hp → Prop, R J H → wi σ H R) (h : LcGoal J g tt te vs σ H Q) : tLc wi g tt te vs σ H Q := hwi _ h
end

section
variable {tt : TT} {te : TE} {vs : List Nat} {σ : St} {x : V} {H : Hp} {Yes : V → Hp → Prop} {No : Hp → Prop} {i : Nat}
theorem turn_all (h : te ((wipe σ vs).set i (some x)) H Yes) (hw : wipe ((wipe σ vs).set i (some x)) vs = wipe σ vs := by rfl) : LcTurn (gName i) tYes te vs σ x H Yes No := by
  refine ⟨hw, ?_⟩
  show (if true = true then te ((wipe σ vs).set i (some x)) H Yes else No H)
  rw [if_pos rfl]
  exact h
theorem turn_ifS {b : Bool} (ha : ∀ Q : Bool → Hp → Prop, (∀ H', Same H H' → Q b H') → tt ((wipe σ vs).set i (some x)) H Q) (h : b = true → ∀ H', Same H H' → te ((wipe σ vs).set i (some x)) H' Yes) (hn : b = false → ∀ H', Same H H' → No H') (hw : wipe ((wipe σ vs).set i (some x)) vs = wipe σ vs := by rfl) : LcTurn (gName i) tt te vs σ x H Yes No := by
  refine ⟨hw, ha _ fun H' s' => ?_⟩
  cases b with
  | true =>
    show (if true = true then te ((wipe σ vs).set i (some x)) H' Yes else No H')
    rw [if_pos rfl]
    exact h rfl H' s'
  | false =>
    show (if false = true then te ((wipe σ vs).set i (some x)) H' Yes else No H')
    rw [if_neg (by decide)]
    exact hn rfl H' s'
theorem turn_if {b : Bool} (ha : Ans tt ((wipe σ vs).set i (some x)) H b) (h : b = true → te ((wipe σ vs).set i (some x)) H Yes) (hn : b = false → No H) (hw : wipe ((wipe σ vs).set i (some x)) vs = wipe σ vs := by rfl) : LcTurn (gName i) tt te vs σ x H Yes No := by
  refine ⟨hw, ha _ ?_⟩
  cases b with
  | true =>
    show (if true = true then te ((wipe σ vs).set i (some x)) H Yes else No H)
    rw [if_pos rfl]
    exact h rfl
  | false =>
    show (if false = true then te ((wipe σ vs).set i (some x)) H Yes else No H)
    rw [if_neg (by decide)]
    exact hn rfl
end

theorem of_gName {i : Nat} {v : V} {σ : St} {H : Hp} {Q : St → Hp → Prop} (h : Q (σ.set i (some v)) H) : gName i v σ H Q := h
theorem of_seq {t u : TS} {D : Ends} {σ : St} {H : Hp} (h : t { D with nx := u D } σ H) : tSeq t u D σ H := h
theorem of_asg {te : TE} {g : TG} {D : Ends} {σ : St} {H : Hp} (h : te σ H fun x H1 => g x σ H1 D.nx) : tAsg te g D σ H := h
theorem of_ret {te : TE} {D : Ends} {σ : St} {H : Hp} (h : te σ H D.rt) : tRet te D σ H := h
theorem of_drop {te : TE} {D : Ends} {σ : St} {H : Hp} (h : te σ H fun _ H1 => D.nx σ H1) : tDrop te D σ H := h

/-! ### == of lists of roads, of rows -/
def roadD (r : Road) : PyData := .tuple [.int r.a, .int r.b, .int r.l]
theorem dp_road {K : PySem.W.Frag} {H : Hp} {r : Road} {v : V} (h : RoadAt H r v) : Dp K H v (roadD r) := by
  obtain ⟨t, rfl, ht⟩ := h
  exact .tup (SqT.of ht) (.cons (.int _) (.cons (.int _) (.cons (.int _) .nil)))
theorem dp_roads {K : PySem.W.Frag} {H : Hp} : ∀ {rs : List Road} {us : List V}, RoadsAt H rs us → DpAll K H us (rs.map roadD)
  | _, _, .nil => .nil
  | _, _, .cons h r => .cons (dp_road h) (dp_roads r)
theorem roadD_lay (r : Road) : (roadD r).canLay0 = true := by simp [roadD, PyData.canLay0, PyData.canLayAll0]
theorem roadD_depth (r : Road) : (roadD r).depth ≤ 2 := by simp [roadD, PyData.depth, PyData.depthAll]
theorem roads_lay : ∀ rs : List Road, PyData.canLayAll0 (rs.map roadD) = true
  | [] => by simp only [List.map_nil, PyData.canLayAll0]
  | r :: rs => by simp [PyData.canLayAll0, roadD_lay r, roads_lay rs]
theorem roads_depth : ∀ rs : List Road, PyData.depthAll (rs.map roadD) ≤ 2
  | [] => by simp only [List.map_nil, PyData.depthAll]; omega
  | r :: rs => by
    have h1 := roads_depth rs
    have h2 := roadD_depth r
    simp only [PyData.depthAll, List.map_cons]
    omega
theorem shaped_roads (rs : List Road) : SeqAt.shaped (.list (rs.map roadD)) = true := shaped_list (roads_lay _) (Nat.le_trans (roads_depth _) (by decide))
theorem eqv_road (r t : Road) : PyData.eqv (roadD r) (roadD t) = decide (r = t) := by
  show ((r.a == t.a) && ((r.b == t.b) && ((r.l == t.l) && true))) = _
  obtain ⟨a, b, l⟩ := r
  obtain ⟨x, y, z⟩ := t
  by_cases h1 : a = x <;> by_cases h2 : b = y <;> by_cases h3 : l = z <;> simp [h1, h2, h3]
theorem eqv_roadsAll : ∀ (rs ts : List Road), PyData.eqvAll (rs.map roadD) (ts.map roadD) = decide (rs = ts)
  | [], [] => rfl
  | [], _ :: _ => rfl
  | _ :: _, [] => rfl
  | r :: rs, t :: ts => by
    show (PyData.eqv (roadD r) (roadD t) && PyData.eqvAll (rs.map roadD) (ts.map roadD)) = _
    rw [eqv_road, eqv_roadsAll rs ts]
    by_cases e : r = t <;> simp [e]
theorem eqv_roads (rs ts : List Road) : PyData.eqv (.list (rs.map roadD)) (.list (ts.map roadD)) = decide (rs = ts) := eqv_roadsAll rs ts
theorem rows_lay : ∀ rs : List (List Int), PyData.canLayAll0 (rs.map fun r => PyData.list (r.map PyData.int)) = true
  | [] => by simp only [List.map_nil, PyData.canLayAll0]
  | r :: rs => by
    have h1 : PyData.canLay0 (.list (r.map PyData.int)) = true := by simp only [PyData.canLay0]; exact int_lays r
    have h2 := rows_lay rs
    simp only [List.map_cons, PyData.canLayAll0, h1, h2]
    rfl
theorem rows_depth : ∀ rs : List (List Int), PyData.depthAll (rs.map fun r => PyData.list (r.map PyData.int)) ≤ 3
  | [] => by simp only [List.map_nil, PyData.depthAll]; omega
  | r :: rs => by
    have h1 := rows_depth rs
    have h2 := int_depths r
    simp only [PyData.depth, PyData.depthAll, List.map_cons]
    omega
theorem shaped_rows (rs : List (List Int)) : SeqAt.shaped (.list (rs.map fun r => PyData.list (r.map PyData.int))) = true := shaped_list (rows_lay _) (Nat.le_trans (rows_depth _) (by decide))
theorem eqv_rowsAll : ∀ (rs ts : List (List Int)), PyData.eqvAll (rs.map fun r => PyData.list (r.map PyData.int)) (ts.map fun r => PyData.list (r.map PyData.int)) = decide (rs = ts)
  | [], [] => rfl
  | [], _ :: _ => rfl
  | _ :: _, [] => rfl
  | r :: rs, t :: ts => by
    show (PyData.eqv (.list (r.map PyData.int)) (.list (t.map PyData.int)) && PyData.eqvAll (rs.map fun r => PyData.list (r.map PyData.int)) (ts.map fun r => PyData.list (r.map PyData.int))) = _
    rw [eqv_il, eqv_rowsAll rs ts]
    by_cases e : r = t <;> simp [e]
theorem eqv_rows (rs ts : List (List Int)) : PyData.eqv (.list (rs.map fun r => PyData.list (r.map PyData.int))) (.list (ts.map fun r => PyData.list (r.map PyData.int))) = decide (rs = ts) := eqv_rowsAll rs ts
theorem gd_mk {P : Program} {w : World} {K : PySem.W.Frag} {mg : Str → Option Value} {base : Heap} {x q : Str} {st : Stmt} {f : Addr} {fd : FuncData} {k : Nat} {ps : List Str} {sp : Sp} (F : Fun K x q st f fd) (hm : mg x = some (.ref f)) (hb : Binds K fd ps []) (ok : FnOk P w K mg base CX0 k f fd ps sp) : Gd P w K mg base k x ps sp :=
  ⟨f, fd, hm, F.kp, hb, Wr.FnOk.lift ok⟩
theorem gm_mk {P : Program} {w : World} {K : PySem.W.Frag} {mg : Str → Option Value} {base : Heap} {C : Addr} {x : Str} {f : Addr} {fd : FuncData} {k : Nat} {ps : List Str} {sp : Sp} (M : Meth K C x f) (hb : Binds K fd ps []) (ok : FnOk P w K mg base CX0 k f fd ps sp) : Gm P w K mg base C k x ps sp :=
  ⟨f, fd, M, hb, Wr.FnOk.lift ok⟩
theorem gc_mk {P : Program} {w : World} {K : PySem.W.Frag} {mg : Str → Option Value} {base : Heap} {C : Addr} {x : Str} {f : Addr} {fd : FuncData} {k : Nat} {ps : List Str} {sp : Sp} (hm : mg x = some (.ref C)) (M : Mk K C f) (hb : Binds K fd ps []) (ok : FnOk P w K mg base CX0 k f fd ps sp) : Gc P w K mg base C k x ps sp :=
  ⟨f, fd, hm, M, hb, Wr.FnOk.lift ok⟩
theorem of_next {n : St → Hp → Prop} {r : VK} {b c : St → Hp → Prop} {σ : St} {H : Hp} (h : n σ H) : tNext ⟨n, r, b, c⟩ σ H := h
theorem of_nx {n : St → Hp → Prop} {r : VK} {b c : St → Hp → Prop} {σ : St} {H : Hp} (h : n σ H) : (Ends.mk n r b c).nx σ H := h
theorem of_ifs {c : TT} {t u : TS} {D : Ends} {σ : St} {H : Hp} (h : c σ H fun b H1 => if b = true then t D σ H1 else u D σ H1) : tIfS c t u D σ H := h
theorem of_not {c : TT} {σ : St} {H : Hp} {Q : Bool → Hp → Prop} (h : c σ H fun b H1 => Q (!b) H1) : tNot c σ H Q := h
theorem of_b {te : TE} {σ : St} {H : Hp} {Q : Bool → Hp → Prop} (h : te σ H fun x H1 => ∃ c, x = .bl c ∧ Q c H1) : tB te σ H Q := h
theorem of_tup {te : TE} {ta : TA} {σ : St} {H : Hp} {Q : VK} (h : te σ H fun x H1 => ta σ H1 fun xs H2 => (x :: xs).length ≤ sizeLine ∧ ∀ p, H2 p = none → Q (.ref p) (upd H2 p (.tup (x :: xs)))) : tTup (tCons te ta) σ H Q := h
theorem of_cons {te : TE} {ta : TA} {σ : St} {H : Hp} {Q : List V → Hp → Prop} (h : te σ H fun x H1 => ta σ H1 fun xs H2 => Q (x :: xs) H2) : tCons te ta σ H Q := h
theorem val_ifE {t : TT} {ta tb : TE} {σ : St} {H : Hp} {b : Bool} {x y : V} (h : Ans t σ H b) (h1 : b = true → Val ta σ H x) (h2 : b = false → Val tb σ H y) : Val (tIf t ta tb) σ H (if b = true then x else y) := by
  intro Q q
  refine h _ ?_
  cases b with
  | true => exact h1 rfl _ q
  | false => exact h2 rfl _ q
theorem of_test {te : TE} {σ : St} {H : Hp} {Q : Bool → Hp → Prop} (h : te σ H fun x H' => ∃ k, x = .bl k ∧ Q k H') : tTest te σ H Q := h
theorem of_op {r : R2} {ta tb : TE} {σ : St} {H : Hp} {Q : VK} (h : ta σ H fun x H1 => tb σ H1 fun y H2 => r x y H2 Q) : tOp r ta tb σ H Q := h
theorem of_var {i : Nat} {v : V} {σ : St} {H : Hp} {Q : VK} (e : σ[i]? = some (some v)) (h : Q v H) : tVar i σ H Q := ⟨v, e, h⟩
theorem dp_trip {K : PySem.W.Frag} {H : Hp} {p : Addr} {a b c : Int} (h : H p = some (.tup [.int a, .int b, .int c])) : Dp K H (.ref p) (.tuple [.int a, .int b, .int c]) := .tup (SqT.of h) (.cons (.int _) (.cons (.int _) (.cons (.int _) .nil)))
theorem shaped_trip (a b c : Int) : SeqAt.shaped (.tuple [.int a, .int b, .int c]) = true := by
  unfold SeqAt.shaped
  rw [Bool.and_eq_true, decide_eq_true_eq]
  constructor
  · rfl
  · simp only [PyData.depth, PyData.depthAll]; omega
theorem of_cb1 {r : List V → Hp → VK → Prop} {te : TE} {σ : St} {H : Hp} {Q : VK} (h : te σ H fun x H1 => r [x] H1 Q) : tCB r (tCons te tNil) σ H Q := h
theorem paired_mapL {α β γ : Type} {F : β → γ → Prop} {g : α → β} : ∀ {l : List α} {ys : List γ}, Paired F (l.map g) ys → Paired (fun x y => F (g x) y) l ys
  | [], _, .nil => .nil
  | _ :: l, _, .cons h r => .cons h (paired_mapL r)
theorem shaped_pair (ns : List Int) (m : Int) : SeqAt.shaped (.tuple [.list (ns.map PyData.int), .int m]) = true := by
  have h1 := int_depths ns
  have h2 := int_lays ns
  unfold SeqAt.shaped
  rw [Bool.and_eq_true, decide_eq_true_eq]
  constructor
  · simp only [PyData.canLay0, PyData.canLayAll0, h2]; rfl
  · simp only [PyData.depth, PyData.depthAll]; omega
theorem dp_pair {K : PySem.W.Frag} {H : Hp} {p l : Addr} {ns : List Int} {m : Int} (h1 : H p = some (.tup [.ref l, .int m])) (h2 : H l = some (.lst (ns.map V.int))) : Dp K H (.ref p) (.tuple [.list (ns.map PyData.int), .int m]) :=
  .tup (SqT.of h1) (.cons (dp_ilist h2) (.cons (.int m) .nil))
theorem eqv_same {d : PyData} (h : SeqAt.shaped d = true) : PyData.eqv d d = true := SeqAt.eqv_refl d (SeqAt.canLay_of_shaped h)
end Wr

/-! more rules: sorted of a tuple, len(set(..)) -/
namespace Wr
open PySem PySem.Spec PyProof.Rows L2
section
variable {X : Cx}
/-- sorted of ints that stand in a list or a tuple -/
theorem srt_seq {pr : Program} {wo : World} {Ar : Around} {Er : Value → Shared → Prop} {st : Shared} {p : Addr} {T : String} {o : Obj} {us : List Value} {m : Nat} {zs : List Int} {R : Value → Shared → Prop} (hT : T = "list" ∨ T = "tuple")
    (h1 : st.heap.get? p = some o) (h2 : o.cls = .type T) (h3 : o.data = .seq us.toArray m) (hz : IntsAre us zs) (hl : us.length ≤ sizeLine)
    (fin : ∀ (g h' : Heap) (out : Array Value) (zs' : List Int) (e : Nat), (∀ b u, st.heap.get? b = some u → g.get? b = some u) → (∀ b u, g.get? b = some u → h'.get? b = some u) → IntsAre out.toList zs' → zs'.Perm zs → zs'.Pairwise (fun x y => x ≤ y) →
      h'.get? g.objs.size = some (seqObj "list" out e) → R (.ref g.objs.size) { st with heap := h' }) : wpAny (model pr wo) Ar (call (.builtin "sorted") [.ref p]) R Er st := by
  refine Calls.call_function_entry kind_sorted plain_sorted entry_sorted (args_sorted1 _) (wpAny_bind (m := checkCount "sorted" 1 1 1) (wpAny_pure (wpAny_bind (wpAny_collect_seq p hT h1 h2 h3 (fun g kg => ?_) (by rw [List.size_toArray]; exact hl)))))
  have eu : us.toArray.toList = us := by simp
  rw [eu]
  have hnew : (g.push (seqObj "list" us.toArray 0)).get? g.objs.size = some (seqObj "list" us.toArray 0) := Heap.get?_push_size g rfl
  refine wpAny_bind (wpAny_newList (wpAny_bind (wpAny_holding (wpAny_call_entry slot_list_sort ⟨_, hnew, rfl⟩ entry_list_sort (list_sort_treeAny hnew hz hl fun out zs' a1 a2 a3 => ⟨_, rfl, wpAny_pure ⟨_, rfl, ?_⟩⟩) (args_list_sort _)))) hl)
  obtain ⟨e, he⟩ := sortedHeap_at (out := out) hnew
  refine fin g _ out zs' e kg (fun b u hb => ?_) a1 a2 a3 he
  have lt := Heap.lt_size hb
  rw [sortedHeap_old (Nat.ne_of_lt lt) (by rw [size_push']; exact Nat.lt_succ_of_lt lt)]
  exact Heap.get?_push_of_some (seqObj "list" us.toArray 0) hb
def rSortedA (K : PySem.W.Frag) : List V → Hp → VK → Prop := fun vs H Q => ∃ (p : Addr) (zs : List Int), vs = [V.ref p] ∧ (SqL K H p (zs.map V.int) ∨ SqT K H p (zs.map V.int)) ∧
  ∀ (zs' : List Int) (q : Addr), zs'.Perm zs → zs'.Pairwise (fun x y => x ≤ y) → H q = none → Q (.ref q) (upd H q (.lst (zs'.map V.int)))
theorem cr_sortedA (K : PySem.W.Frag) (hK : X.K = K := by rfl) : CallR X (.builtin "sorted") (rSortedA K) := by
  subst hK
  rintro pins s σ H vs us Q I r ⟨p, zs, rfl, hs, k⟩
  rw [Vals.ref1 r]
  have done : zs.length ≤ sizeLine → ∀ (g h' : Heap) (out : Array Value) (zs' : List Int) (e : Nat), (∀ b u, s.heap.get? b = some u → g.get? b = some u) → (∀ b u, g.get? b = some u → h'.get? b = some u) → IntsAre out.toList zs' → zs'.Perm zs → zs'.Pairwise (fun x y => x ≤ y) →
      h'.get? g.objs.size = some (seqObj "list" out e) → EP X pins σ Q (.ref g.objs.size) { s with heap := h' } := fun hn g h' out zs' e k1 k2 a1 a2 a3 he => by
    have J : Inv X pins σ H { s with heap := g } := I.kept (t' := s.toks) k1
    exact ⟨.ref g.objs.size, upd H g.objs.size (.lst (zs'.map V.int)), J.laid (t' := s.toks) k2 (Nat.le_refl _) ⟨by rw [List.length_map, a2.length_eq]; exact hn, out.toList, e, vals_of_ints a1, he⟩, rfl, k zs' _ a2 a3 (J.hok.fresh (Nat.le_refl _))⟩
  rcases hs with hs | hs
  · obtain ⟨its, rv, hl, hz⟩ := I.list hs
    obtain ⟨o, h1, h2, n, h3⟩ := hl.isList
    have el := rv.length
    rw [List.length_map] at el hz
    exact srt_seq (.inl rfl) h1 h2 h3 rv.ints (by omega) (done (by omega))
  · obtain ⟨its, rv, ⟨o, h1, h2, n, h3⟩, hz⟩ := I.tuple hs
    have el := rv.length
    rw [List.length_map] at el hz
    exact srt_seq (.inr rfl) h1 h2 h3 rv.ints (by omega) (done (by omega))

/-! ### len(set(xs)) -/
def distinct (ns : List Int) : List Int := PyProof.Rows.firstMet (fun i => ns.getD i 0) ns.length
def tLenSetA (K : PySem.W.Frag) (ta : TE) : TE := fun σ H Q => ta σ H fun x H1 => ∃ (l : Addr) (ns : List Int), x = .ref l ∧ SqL K H1 l (ns.map V.int) ∧ ns.length ≤ 4000 ∧ Q (.int ((distinct ns).length : Nat)) H1
theorem firstMet_le (f : Nat → Int) : ∀ n, (PyProof.Rows.firstMet f n).length ≤ n
  | 0 => Nat.le_refl _
  | n + 1 => by
    have ih := firstMet_le f n
    rw [PyProof.Rows.firstMet_succ]
    unfold step_dedup
    split
    · omega
    · simp only [List.length_append, List.length_singleton]; omega
theorem distinct_le (ns : List Int) : (distinct ns).length ≤ ns.length := firstMet_le _ _
theorem firstMet_lt {f : Nat → Int} : ∀ {n i j : Nat}, i < j → j < n → f i = f j → (PyProof.Rows.firstMet f n).length < n
  | 0, _, _, _, h, _ => absurd h (Nat.not_lt_zero _)
  | n + 1, i, j, hij, hj, e => by
    rw [PyProof.Rows.firstMet_succ]
    unfold step_dedup
    have hn := firstMet_le f n
    split
    · omega
    · rename_i hc
      simp only [List.length_singleton, List.length_append]
      by_cases ej : j = n
      · subst ej
        exfalso
        apply hc
        have hmem : ∀ m k, k < m → f k ∈ PyProof.Rows.firstMet f m := by
          intro m
          induction m with
          | zero => intro k hk; omega
          | succ m ih =>
            intro k hk
            rw [PyProof.Rows.firstMet_succ]
            unfold step_dedup
            by_cases ek : k = m
            · subst ek
              split
              · rename_i h1
                obtain ⟨y, hy, ey⟩ := List.any_eq_true.mp h1
                rw [← eq_of_beq ey]; exact hy
              · exact List.mem_append_right _ (by simp)
            · split
              · exact ih k (by omega)
              · exact List.mem_append_left _ (ih k (by omega))
        exact List.any_eq_true.mpr ⟨f i, hmem j i hij, by rw [e]; simp⟩
      · have := firstMet_lt (n := n) hij (by omega) e
        omega
theorem distinct_iff (ns : List Int) : (distinct ns).length < ns.length ↔ ¬ ns.Nodup := by
  constructor
  · intro h hn
    unfold distinct at h
    rw [RZ.firstMet_nodup hn ns.length (Nat.le_refl _), List.take_length] at h
    omega
  · intro h
    have : ∃ i j, ∃ (_ : i < j) (hj : j < ns.length), ns[i]'(by omega) = ns[j] := by
      apply Classical.byContradiction
      intro hc
      apply h
      rw [List.Nodup, List.pairwise_iff_getElem]
      intro i j hi hj hij e
      exact hc ⟨i, j, hij, hj, e⟩
    obtain ⟨i, j, hij, hj, e⟩ := this
    refine firstMet_lt hij hj ?_
    rw [List.getD_eq_getElem?_getD, List.getD_eq_getElem?_getD, List.getElem?_eq_getElem hj, List.getElem?_eq_getElem (by omega : i < ns.length)]
    exact e
theorem pe_lenSetA (K : PySem.W.Frag) {a : Expr} {ta : TE} {p p2 q pos : Pos} (g1 : Gl X "len") (m1 : X.mg "len" = none) (g2 : Gl X "set") (m2 : X.mg "set" = none) (ha : PE X a ta) (hc : X.calm = true := by rfl)
    (w1 : starEach [a] X.env = (false, eval a X.env) :: starEach [] X.env := by rfl) (hK : X.K = K := by rfl) : PE X (.Call (.Name "len" p) [.Call (.Name "set" p2) [a] [] q] [] pos) (tLenSetA K ta) := by
  subst hK
  refine ⟨fun pins s σ H Q I h => Call_ (ld_blt I g1 m1 boot_len (PyProof.Rows.callWith_builtin1 (PyProof.Rows.args_cons (Call_ (ld_blt I g2 m2 boot_set (PyProof.Rows.callWith_type1 (PyProof.Rows.args_cons (thn (ha.run pins s σ H _ I h) ?_) w1) w1 rfl))) rfl) rfl rfl))⟩
  rintro v s1 ⟨x, H1, I1, r1, l, zs, rfl, hq, hl, q1⟩
  cases r1
  refine (PyProof.Rows.args_nil ?_)
  obtain ⟨us, r, pl, _⟩ := I1.list hq
  have el := r.length
  rw [List.length_map] at el
  have hsz : us.toArray.size = zs.length := by rw [List.size_toArray]; exact el.symm
  have hd := distinct_le zs
  refine call_set_list (I1.ok.hd hc) pl.isList (by simpa using r.ints) (by rw [hsz]; unfold scanBound; omega) fun g tk hS kg => PyProof.Rows.args_nil ?_
  rw [hsz] at hS
  obtain ⟨o, es, ep, t, ho, hex, ht, _, _, _, hf, hn⟩ := hS
  have J : Inv X pins σ H1 { s1 with heap := g, toks := tk } := I1.kept fun b u hb => kg b u (Heap.lt_size hb) hb
  replace hn : es.size = (distinct zs).length := hn
  exact call_len_set ho hex ht hf (by rw [hn] <;> omega) ⟨.int ((distinct zs).length : Nat), H1, J.tok _, ⟨_, by rw [hn]⟩, q1⟩
end
end Wr

namespace Wr
open PySem L2
def top (i : Nat) : Stmt := PySem.Challenge.pw_wellroads_k07_cut_and_joined.main.body.getD i (.Pass ⟨0, 0, 0, 0⟩)
abbrev S_BadRow_init : Stmt := inClass (top 6) 0
abbrev S_is_whole : Stmt := top 10
abbrev S_within : Stmt := top 11
abbrev S_is_road : Stmt := top 12
abbrev S_Tree_init : Stmt := inClass (top 13) 0
abbrev S_Tree_roads : Stmt := inClass (top 13) 1
abbrev S_Tree_walked : Stmt := inClass (top 13) 2
abbrev S_Tree_village : Stmt := inClass (top 13) 3
abbrev S_distances : Stmt := top 14
abbrev S_sides : Stmt := top 15
abbrev S_joined : Stmt := top 16
abbrev S_moved : Stmt := top 17
abbrev S_law_cell_at : Stmt := top 19
abbrev S_law_draw : Stmt := top 20
abbrev S_law_told : Stmt := top 21
abbrev S_law_name : Stmt := top 22
abbrev S_law_rows : Stmt := top 23
abbrev S_law_side : Stmt := top 24
abbrev S_law_moved : Stmt := top 25
abbrev S_law_sides_right : Stmt := top 26
abbrev S_law : Stmt := top 27
end Wr

namespace Wr
open PySem L2
section
variable {P : Program} {w : World} {K : PySem.W.Frag} {mg : Str → Option Value} {base : Heap}

def spWhole (K : PySem.W.Frag) : Sp := fun vs H Q _ => ∃ x, vs = [x] ∧ Plain K H x ∧ Q (.bl (isW x)) H
theorem sc_is_whole : FnScope ["number"] ["number"] (defScope S_is_whole) := ⟨rfl, rfl, rfl, by decide +kernel, rfl, by decide +kernel, by decide +kernel⟩
theorem ok_is_whole {f : Addr} {fd : FuncData} (F : Fun K "is_whole" "is_whole" S_is_whole f fd) (B : Bi mg) : FnOk P w K mg base CX0 1 f fd ["number"] (spWhole K) := by
  refine F.ok sc_is_whole (fun vs H Q E h => ?_) (fun cdv A outer s H vs Q E hr h => ?_)
  · obtain ⟨x, rfl, _⟩ := h
    rfl
  · obtain ⟨x, rfl, ⟨t, ty, k1, k2⟩, k⟩ := h
    refine ⟨_, pss_one (ps_ret (pe_and (pe_callB call_isi (by rfl) B.isinstance (by decide +kernel) (pa_cons (pv 0) (pa_cons (pe_bltn (v := .ty "int") (by rfl) B.int (by decide +kernel) rfl) pa_nil)))
      (pe_one (pe_not (pe_callB call_isi (by rfl) B.isinstance (by decide +kernel) (pa_cons (pv 0) (pa_cons (pe_bltn (v := .ty "bool") (by rfl) B.bool (by decide +kernel) rfl) pa_nil))))))), ?_⟩
    refine ⟨_, rfl, x, _, t, _, isI x, rfl, .ty _, ty, k1, isI x, rfl, ?_⟩
    rw [isW_eq] at k
    cases e : isI x with
    | true =>
      refine iteT ?_
      refine ⟨_, rfl, x, _, t, _, isB x, rfl, .ty _, ty, k2, isB x, rfl, ?_⟩
      rw [e] at k
      exact k
    | false =>
      refine iteF ?_
      rw [e] at k
      exact k
def spWithin (K : PySem.W.Frag) : Sp := fun vs H Q _ => ∃ x lo hi, vs = [x, .int lo, .int hi] ∧ Plain K H x ∧ Q (.bl (withinV x lo hi)) H
theorem sc_within : FnScope ["number", "low", "high"] ["number", "low", "high"] (defScope S_within) := ⟨rfl, rfl, rfl, by decide +kernel, rfl, by decide +kernel, by decide +kernel⟩
theorem ok_within {f : Addr} {fd : FuncData} (F : Fun K "within" "within" S_within f fd) (G1 : Gd P w K mg base 1 "is_whole" ["number"] (spWhole K)) : FnOk P w K mg base CX0 2 f fd ["number", "low", "high"] (spWithin K) := by
  refine F.ok sc_within (fun vs H Q E h => ?_) (fun cdv A outer s H vs Q E hr h => ?_)
  · obtain ⟨x, lo, hi, rfl, _⟩ := h
    rfl
  · obtain ⟨x, lo, hi, rfl, px, k⟩ := h
    refine ⟨_, pss_one (ps_ret (pe_and (pe_g G1 hr rfl (pa_cons (pv 0) pa_nil)) (pe_one (pe_chain op_le op_le (pv 1) (pv 0) (pv 2))))), ?_⟩
    refine ⟨_, rfl, x, rfl, px, isW x, rfl, ?_⟩
    cases x with
    | int i =>
      refine iteT ?_
      refine ⟨_, rfl, _, rfl, _, _, rfl, rfl, _, rfl, ?_⟩
      have k : Q (.bl (decide (lo ≤ i) && decide (i ≤ hi))) H := k
      cases e : decide (lo ≤ i) with
      | true =>
        refine iteT ?_
        refine ⟨_, rfl, _, _, rfl, rfl, ?_⟩
        rw [e] at k
        exact k
      | false =>
        refine iteF ?_
        rw [e] at k
        exact k
    | _ => exact iteF k
end
end Wr

namespace Wr
open PySem PySem.Spec PyProof.Rows L2
/-! ### own exceptions, defs that raise -/
/-- an own exception class without an __init__ of its own -/
structure Xc (K : PySem.W.Frag) (mg : Str → Option Value) (x : Str) (C : Addr) : Prop where
  g : mg x = some (.ref C)
  e : PySem.W.excIn K C [.type "ValueError", .type "Exception", .type "BaseException", .type "object"] "ValueError.__new__" = true
  k : PySem.W.keepIn K (.ref C) = true
  b : PySem.W.subIn K (.ref C) (.type "BaseException") = some true
  t : PySem.W.typeIn K (.ref C) = some (.type "type")
section
variable {P : Program} {w : World} {K : PySem.W.Frag} {mg : Str → Option Value} {base : Heap}
theorem Fun.okN {x qual : Str} {st : Stmt} {f : Addr} {fd : FuncData} {N ps : List Str} {k : Nat} {sp : Sp} (F : Fun K x qual st f fd) (S : FnScope N ps (defScope st)) (len : ∀ ws H Q E, sp ws H Q E → ws.length = ps.length)
    (told : ∀ (cw : Value) (A : Around) (fs : List Env) (s : Shared) (H : Hp) (ws : List V) (Q : VK) (E : XK), Room k (A.deeper (envOfC qual (defScope st) s.heap.objs.size f cw)) → sp ws H Q E →
      ∃ t, PSs (cxOf (L2N.CX P w) P w K mg base N qual (defScope st) f cw A fs s H E) (defBody st) t ∧ t { nx := fun _ H' => Q .non H', rt := Q } (start N ws) H) : FnOk P w K mg base (L2N.CX P w) (k + 1) f fd ps sp := by
  obtain ⟨oc, od, kV, dc0, pm, an, cw, ct, osl, rfl, lk0, hc0⟩ := F.ex
  exact fn_of lk0 hc0 S len fun A fs s H ws Q E rm hs0 => told cw A fs s H ws Q E rm hs0
end
/-- as Gd, Gm, Gc, for what may raise -/
structure GdN (P : Program) (w : World) (K : PySem.W.Frag) (mg : Str → Option Value) (base : Heap) (k : Nat) (x : Str) (ps : List Str) (sp : Sp) : Prop where
  ex : ∃ f fd, mg x = some (.ref f) ∧ PySem.W.keepIn K (.ref f) = true ∧ Binds K fd ps [] ∧ FnOk P w K mg base (L2N.CX P w) k f fd ps sp
structure GmN (P : Program) (w : World) (K : PySem.W.Frag) (mg : Str → Option Value) (base : Heap) (C : Addr) (k : Nat) (x : Str) (ps : List Str) (sp : Sp) : Prop where
  ex : ∃ f fd, Meth K C x f ∧ Binds K fd ps [] ∧ FnOk P w K mg base (L2N.CX P w) k f fd ps sp
structure GcN (P : Program) (w : World) (K : PySem.W.Frag) (mg : Str → Option Value) (base : Heap) (C : Addr) (k : Nat) (x : Str) (ps : List Str) (sp : Sp) : Prop where
  ex : ∃ f fd, mg x = some (.ref C) ∧ Mk K C f ∧ Binds K fd ps [] ∧ FnOk P w K mg base (L2N.CX P w) k f fd ps sp
def tMethS (C : Addr) (m : Str) (sp : Sp) (E : L2.St → XK) (ta : TE) (t : TA) : TE := fun σ H Q => ta σ H fun x H1 => ∃ a dx fs, x = .ref a ∧ H1 a = some (.ins C dx fs) ∧ fs.lookup m = none ∧ t σ H1 fun vs H2 => sp (x :: vs) H2 Q (E σ)
def tMakeS (C : Addr) (sp : Sp) (E : L2.St → XK) (t : TA) : TE := fun σ H Q => t σ H fun vs H1 => ∀ x dx, H1 x = none → H1 dx = none → dx ≠ x →
  sp (.ref x :: vs) (upd (upd H1 dx (.own x)) x (.ins C dx [])) (fun v H2 => v = .non ∧ Q (.ref x) H2) (E σ)
section
variable {X : Cx} {C : Addr} {k j : Nat} {x m : Str} {ps : List Str} {sp : Sp} {p pos apos : Pos} {o e : Expr} {es : List Expr} {ta : TE} {t : TA} {E : XK} {W : WX}
theorem pe_gN (G : GdN X.prog X.w X.K X.mg X.base k x ps sp) (hr : Room j X.A) (hg : Gl X x) (tk : L2N.Takes X W) (ha : PA X (e :: es) t) (hk : k ≤ j := by decide)
    (w1 : (x == ("__debug__" : Str)) = false := by decide) (w2 : starEach (e :: es) X.env = (false, eval e X.env) :: starEach es X.env := by rfl)
    (w3 : (backTo pos (starEach es X.env)).any (fun z => z.1) = false := by rfl) :
    PE X (.Call (.Name x p) (e :: es) [] pos) (tCallS sp (WE W) t) := by
  obtain ⟨f, fd, hm, kp, hb, F⟩ := G.ex
  exact pe_callS F (hr.mono hk) hg hm kp hb (fun σ => L2N.passAt tk σ) ha w1 w2 w3
theorem pe_gmN {pl : Sem Bool} (he : PE X o ta) (c : Cls X.K C) (G : GmN X.prog X.w X.K X.mg X.base C k m ps sp) (hr : Room j X.A) (tk : L2N.Takes X W) (ha : PA X (e :: es) t) (hk : k ≤ j := by decide)
    (w1 : starEach (e :: es) X.env = (false, eval e X.env) :: starEach es X.env := by rfl) (w2 : (backTo pos (starEach es X.env)).any (fun z => z.1) = false := by rfl)
    (ht : eval (.Call (.Attribute o m apos) (e :: es) [] pos) X.env = (do let ov ← eval o X.env; standAt apos.atName; let z ← holding [ov] (getMethod ov m pl); callWith pos z.1 z.2 (backTo pos (starEach (e :: es) X.env)) (backToKw pos (keywordEach [] X.env))) := by rfl) :
    PE X (.Call (.Attribute o m apos) (e :: es) [] pos) (tMethS C m sp (WE W) ta t) := by
  obtain ⟨f, fd, hm, hb, F⟩ := G.ex
  refine ⟨fun pins s σ H Q I h => ?_⟩
  refine PySem.W.methodCall_KW (pl := pl) (thn (he.run pins s σ H _ I h) fun u s1 ⟨x, H1, I1, rx, a, dx, fs, ex, ea, l, q⟩ => ?_) ht
  subst ex
  obtain rfl : u = Value.ref a := rx
  refine getmeth_ok I1 ea c hm l ?_
  refine PySem.W.callWith_K (first := [.ref a]) (h₀ := X.base) I.ok.mod.kin hm.kp (thn (ha.run pos pins s1 σ H1 _ I1 q) fun us s2 ⟨vs, H2, I2, r, q2⟩ => ⟨I2.kIn, ?_⟩) w1 w2
  exact run_fnS (E := WE W) (us := .ref a :: us) (vs := .ref a :: vs) F (hr.mono hk) hb (L2N.passAt tk σ) I2 (.cons rfl r) q2
theorem run_makeS {CX : CXT} {f : Addr} {fd : FuncData} {F' : L2.St → XK} {pins : List (Addr × Obj)} {σ : L2.St} {H : Hp} {s : Shared} {Q : VK} {args : List Value} {vs : List V} (M : Mk X.K C f) (F : FnOk X.prog X.w X.K X.mg X.base CX k f fd ps sp) (rm : Room (k + 1) X.A) (hb : Binds X.K fd ps [])
    (hx : PassesAt CX X σ (F' σ)) (J : Inv X pins σ H s) (r : Vals vs args)
    (h : ∀ x dx, H x = none → H dx = none → dx ≠ x → sp (.ref x :: vs) (upd (upd H dx (.own x)) x (.ins C dx [])) (fun v H2 => v = .non ∧ Q (.ref x) H2) (F' σ)) :
    wpAny (model X.prog X.w) X.A (call (.ref C) args) (EP X pins σ Q) X.xe s := by
  have say := h (s.heap.objs.size + 1) s.heap.objs.size (J.hok.fresh (Nat.le_succ _)) (J.hok.fresh (Nat.le_refl _)) (Nat.ne_of_lt (Nat.lt_succ_self _))
  have J2 := Inv.made (C := C) J
  have rel2 : Vals (V.ref (s.heap.objs.size + 1) :: vs) (Value.ref (s.heap.objs.size + 1) :: args) := .cons rfl r
  have len2 : (Value.ref (s.heap.objs.size + 1) :: args ++ []).length = ps.length := by
    have e := rel2.length
    rw [F.len _ _ _ _ say] at e
    rw [List.append_nil]
    exact e.symm
  have hb2 := hb _ (Value.ref (s.heap.objs.size + 1) :: args) J2.kIn len2
  rw [List.append_nil] at hb2
  refine wpAny_call (make_map (f := f) J.kIn M.makes M.init (beq_iff_eq.mp M.fn) (codeAny_mono (F.run _ X.stack _ _ ⟨Value.ref (s.heap.objs.size + 1) :: args, []⟩ (Value.ref (s.heap.objs.size + 1) :: args) _ _ (F' σ) (rm.make C args [])
    (J2.env0.make C args []) hb2 rel2 say) fun r s' say' => ?_))
  cases r with
  | error e => exact hx pins _ _ e s' J2 say'
  | ok fl =>
    cases fl with
    | ret u =>
      obtain ⟨v, H', J3, rv3, ev, say3⟩ := J2.after say'
      subst ev
      exact ⟨rv3, ⟨V.ref (s.heap.objs.size + 1), H', J3, rfl, say3⟩⟩
    | next => exact False.elim say'
    | brk => exact False.elim say'
    | cont => exact False.elim say'
theorem pe_gcN (G : GcN X.prog X.w X.K X.mg X.base C k x ps sp) (hr : Room j X.A) (hg : Gl X x) (tk : L2N.Takes X W) (ha : PA X (e :: es) t) (hk : k + 1 ≤ j := by decide)
    (w1 : (x == ("__debug__" : Str)) = false := by decide) (w2 : starEach (e :: es) X.env = (false, eval e X.env) :: starEach es X.env := by rfl)
    (w3 : (backTo pos (starEach es X.env)).any (fun z => z.1) = false := by rfl) :
    PE X (.Call (.Name x p) (e :: es) [] pos) (tMakeS C sp (WE W) t) := by
  obtain ⟨f, fd, hm, M, hb, F⟩ := G.ex
  refine ⟨fun pins s σ H Q I h => ?_⟩
  refine wpAny_Call_Name_kw (ld_glob I hg hm ?_ w1)
  refine PySem.W.callWith_K (h₀ := X.base) I.ok.mod.kin M.kp (thn (ha.run pos pins s σ H _ I h) fun us s1 ⟨vs, H1, I1, r, q⟩ => ⟨I1.kIn, ?_⟩) w2 w3
  exact run_makeS (F' := WE W) M F (hr.mono hk) hb (L2N.passAt tk σ) I1 r q
theorem GdN.of {P : Program} {w : World} {K : PySem.W.Frag} {mg : Str → Option Value} {base : Heap} {k : Nat} {f : Addr} {fd : FuncData} {x : Str} {ps : List Str} {sp : Sp} (hm : mg x = some (.ref f)) (kp : PySem.W.keepIn K (.ref f) = true) (hb : Binds K fd ps []) (F : FnOk P w K mg base (L2N.CX P w) k f fd ps sp) : GdN P w K mg base k x ps sp := ⟨f, fd, hm, kp, hb, F⟩
end

/-! ### any(xs) while an exception is handled -/
section
variable {prog : Program} {w : World} {A : Around} {E : Value → Shared → Prop} {s : Shared}
theorem pyNext_list_end_hot {itr src x1 : Addr} {i : Nat} {items : Array Value} {Q : Option Value → Shared → Prop} (hot : HotX.HotAt A x1 s.heap) (hitr : s.heap.IsListIter itr src i) (hl : s.heap.IsList src items) (hx : items[i]? = none) (hne : x1 ≠ itr)
    (fin : ∀ h', Heap.ExtBut itr s.heap h' → Q none { s with heap := h' }) : wpAny (model prog w) A (pyNext (.ref itr)) Q E s := by
  obtain ⟨hd0, o1, vs1, g1, f1, e1⟩ := hot
  obtain ⟨o, go0, cl0, da0⟩ := id hitr
  obtain ⟨ol, gl0, _, ln0, dl0⟩ := hl
  unfold pyNext
  refine wpAny_bind (wpAny_attempt (wpAny_callSpecial?_slot (name := Str.ofString "__next__") hitr.typeIs slot_listiter_next
    ((wpAny_call_entry slot_listiter_next hitr.typeIs entry_listiter_next ?_ (args_listiter_next _)))))
  show wpAny _ _ (field (.ref itr) 0 >>= _) _ _ s
  refine wpAny_bind (wpAny_field go0 da0 (x := .ref src) rfl ?_)
  show wpAny _ _ (if (Value.ref src == Value.none) = true then _ else _) _ _ s
  rw [if_neg (show ¬ ((Value.ref src == Value.none) = true) from Bool.false_ne_true)]
  show wpAny _ _ (field (.ref itr) 1 >>= _) _ _ s
  refine wpAny_bind (wpAny_field go0 da0 (x := .int i 0) rfl ?_)
  show wpAny _ _ (seqItems? (.ref src) >>= _) _ _ s
  refine wpAny_bind (wpAny_seqItems gl0 dl0 ?_)
  simp only [hx, Int.toNat_natCast]
  refine wpAny_bind (wpAny_rule (wpAny_bind (wpAny_setField go0 da0 (by simp) ?_)))
  show wpAny _ _ (newExc (.type "StopIteration") ([] : List Value) >>= _) _ _ _
  refine wpAny_bind ?_
  simp only [newExc, newTuple]
  refine wpAny_bind (wpAny_newObj_type ?nx1 (by size_fits))
  refine wpAny_bind (m := firstArgMember _ _) (wpAny_of_eq (a := Value.none) (by first | rfl | (simp only [firstArgMember]; rfl)) ?nx2)
  refine wpAny_newObj_type ?nx3 (by size_fits)
  have h1' := (Heap.get?_update_other s.heap (Obj.mapFields (·.setIfInBounds 0 .none)) (Ne.symm hne)).trans g1
  refine HotX.raiseNew_hot ⟨hd0, o1, vs1, Heap.get?_push_of_some _ (Heap.get?_push_of_some _ h1'), f1, e1⟩ (Nat.ne_of_lt (Heap.lt_size (Heap.get?_push_of_some _ h1'))) (Heap.get?_push_size _ rfl) rfl (by first | (simp; done) | (simp; omega) | (simp only [Array.size_append]; simp; omega)) ?_
  refine wpAny_bind (wpAny_isInstance (T := "StopIteration") (b := true) ⟨_, Heap.get?_update_self _ (Heap.get?_push_size _ rfl) rfl, rfl⟩ isSubtype_stop ?nx4)
  refine wpAny_pure (fin _ fun b u hb e => ?_)
  have e' := (Heap.get?_update_other s.heap (Obj.mapFields (·.setIfInBounds 0 .none)) (Ne.symm hb)).trans e
  rw [Heap.get?_update_other _ _ (Nat.ne_of_gt (Heap.lt_size (Heap.get?_push_of_some _ e')))]
  exact Heap.get?_push_of_some _ (Heap.get?_push_of_some _ e')
theorem Walks.listH {x1 I ax : Addr} (hne : ax ≠ I) (hx : x1 ≠ I) (items : Array Value) (fp : List Addr) (hfp : I ∈ fp ∧ ax ∈ fp ∧ x1 ∈ fp) :
    Walks prog w A I fp [I] items.size (fun i v => items[i]? = some v) (fun i h => (h.IsListIter I ax i ∧ h.IsList ax items) ∧ HotX.HotAt A x1 h) where
  sub := fun b hb => by simp at hb; rw [hb]; exact hfp.1
  frame := fun _ _ _ stt hk => ⟨⟨stt.1.1.at fun o e => hk I hfp.1 o e, stt.1.2.at fun o e => hk ax hfp.2.1 o e⟩, let ⟨a, o, vs, e, r⟩ := stt.2; ⟨a, o, vs, hk x1 hfp.2.2 o e, r⟩⟩
  item := fun i s Q E hi stt fin => by
    refine wpAny_pyNext_list_item stt.1.1 stt.1.2 (x := items[i]) (by simp [hi]) fun h' hitr' sb' => ?_
    exact fin _ h' s.toks (by simp [hi]) ⟨⟨hitr', stt.1.2.extBut sb'.extBut hne⟩, let ⟨a, o, vs, e, r⟩ := stt.2; ⟨a, o, vs, sb'.extBut x1 o hx e, r⟩⟩ fun b o hb e => sb'.extBut b o (fun h => hb (by simp [h])) e
  done := fun s Q E stt fin => pyNext_list_end_hot stt.2 stt.1.1 stt.1.2 (by simp) hx fun h' he' => fin h' s.toks fun b o hb e => he' b o (fun h => hb (by simp [h])) e
  self := fun _ _ _ _ stt fin => wpAny_pyIter_listiter stt.1.1 fin
end
theorem hot_in1 {A : Around} {x1 : Addr} {h : Heap} (q : HotX.HotAt A x1 h) : HotX.HotAt A.in1 x1 h := q
theorem cr_anyH {X : Cx} (hc : L2H.HotC X) : CallR X (.builtin "any") (rAny X.K) := by
  intro pins s σ H ws us Q I r asked
  obtain ⟨a, bs, rfl, hs, q⟩ := asked
  obtain ⟨items, rel, pl, _⟩ := I.list hs
  obtain ⟨x1, hot⟩ := hc.at I
  rw [Vals.ref1 r]
  have vals := rel.bls
  refine call_any_walk (iter_any pl.isList fun s₂ e2 st apart => ?_)
  subst e2
  obtain ⟨hh, o1, vs1, h1, r1⟩ := hot
  have hx : x1 ≠ s.heap.objs.size := Nat.ne_of_lt (Heap.lt_size h1)
  refine ⟨_, [s.heap.objs.size, a, x1], _, _, _, _, _, rfl, Walks.listH (A := X.A.in1) (x1 := x1) apart hx items.toArray _ (by simp), ⟨st, hh, o1, vs1, Heap.get?_push_of_some _ h1, r1⟩, truth_bools vals, fun h' tk kept => ?_⟩
  refine ⟨.bl _, H, I.kept fun b o gb => kept b o (fun mem => ?_) (Heap.get?_push_of_some _ gb), ?_, q⟩
  · rcases List.mem_cons.mp mem with eq1 | mem
    · exact absurd (eq1 ▸ Heap.lt_size gb) (Nat.lt_irrefl _)
    · cases mem
  · show (Value.bool _) = (Value.bool _)
    rw [← L2.any_range, vals, List.size_toArray, List.length_map]
theorem hot_suite {X : Cx} {a : Addr} {oe : Obj} {cls : Value} {d : Option Addr} {pn : List (Addr × Obj)} (hz : L2N.Zn cls d oe) (hf : ∃ vs, oe.data = .fields vs) : L2H.HotC (X.suite a ((a, oe) :: pn)) := by
  obtain ⟨vs, hv⟩ := hf
  exact ⟨(a, oe), ⟨rfl, vs, hv, hz.2.2 vs hv⟩, List.mem_cons_self⟩
end Wr
namespace Wr
open PySem L2
theorem takes0N {X : Cx} : L2N.Takes X (fun _ _ _ _ => False) := fun _ _ x => by
  obtain ⟨_, _, _, _, _, _, _, _, _, _, _, _, _, _, _, _, none0⟩ := x
  exact none0.elim
end Wr
namespace Wr
open PySem PySem.Spec PyProof.Rows L2
/-- isinstance(e, c), e the exception that the suite holds, of the own class at D, without a dict -/
def rIsEN (K : PySem.W.Frag) (a : Addr) (cls : Value) (d : Option Addr) : List V → Hp → VK → Prop := fun xs H Q => ∃ (D : Addr) (c : V) (cv : Value) (b : Bool), cls = .ref D ∧ d = none ∧ ExcC K D ∧ xs = [.ref a, c] ∧ (∀ u, RelV c u → u = cv) ∧ PySem.W.kitOne K (.ref D) cv = some b ∧ Q (.bl b) H
theorem call_isEN {X : Cx} {a : Addr} {oe : Obj} {cls : Value} {d : Option Addr} {pn : List (Addr × Obj)} (hz : L2N.Zn cls d oe) (hf : ∃ vs, oe.data = .fields vs) : CallR (X.suite a ((a, oe) :: pn)) (.builtin "isinstance") (rIsEN X.K a cls d) := by
  intro pins s σ H ws us Q I r asked
  obtain ⟨D, c, cv, b, rfl, rfl, EC, h⟩ := asked
  exact call_isE EC hz.zc hf pins s σ H ws us Q I r ⟨c, cv, b, h⟩
end Wr
namespace Wr
open PySem PySem.Spec PyProof.Rows L2
theorem cr_anyHK {X : Cx} (K : PySem.W.Frag) (hc : L2H.HotC X) (h : X.K = K := by rfl) : CallR X (.builtin "any") (rAny K) := h ▸ cr_anyH hc
theorem call_isENK {X : Cx} (K : PySem.W.Frag) {a : Addr} {oe : Obj} {cls : Value} {d : Option Addr} {pn : List (Addr × Obj)} (hz : L2N.Zn cls d oe) (hf : ∃ vs, oe.data = .fields vs) (h : X.K = K := by rfl) : CallR (X.suite a ((a, oe) :: pn)) (.builtin "isinstance") (rIsEN K a cls d) := h ▸ call_isEN hz hf
end Wr
namespace Wr
open PySem PySem.Spec PyProof.Rows L2
section
variable {P : Program} {w : World} {K : PySem.W.Frag} {mg : Str → Option Value} {base : Heap}
theorem gd_mkN {x q : Str} {st : Stmt} {f : Addr} {fd : FuncData} {k : Nat} {ps : List Str} {sp : Sp} (F : Fun K x q st f fd) (hm : mg x = some (.ref f)) (hb : L2.Binds K fd ps []) (ok : FnOk P w K mg base (L2N.CX P w) k f fd ps sp) : GdN P w K mg base k x ps sp := ⟨f, fd, hm, F.kp, hb, ok⟩
theorem gm_mkN {C : Addr} {x : Str} {f : Addr} {fd : FuncData} {k : Nat} {ps : List Str} {sp : Sp} (M : Meth K C x f) (hb : L2.Binds K fd ps []) (ok : FnOk P w K mg base (L2N.CX P w) k f fd ps sp) : GmN P w K mg base C k x ps sp := ⟨f, fd, M, hb, ok⟩
theorem gc_mkN {C : Addr} {x : Str} {f : Addr} {fd : FuncData} {k : Nat} {ps : List Str} {sp : Sp} (hm : mg x = some (.ref C)) (M : Mk K C f) (hb : L2.Binds K fd ps []) (ok : FnOk P w K mg base (L2N.CX P w) k f fd ps sp) : GcN P w K mg base C k x ps sp := ⟨f, fd, hm, M, hb, ok⟩
end
end Wr

namespace Wr
open PySem L2
structure Tx (K : PySem.W.Frag) (mg : Str → Option Value) (C : Addr) : Prop where
  cl : Cls K C
  nS : NoAttr K C "size"
  nR : NoAttr K C "rows"
section
variable {P : Program} {w : World} {K : PySem.W.Frag} {mg : Str → Option Value} {base : Heap}

def spWalked (C : Addr) : Sp := fun vs H Q _ => ∃ (t : Addr) (n : Nat) (rs : List Road) (s : Int), vs = [.ref t, .int s] ∧ TreeAt C H t n rs ∧ RoadsOk n rs ∧ n ≤ 12 ∧ 0 ≤ s ∧ s < n ∧
  ∀ d H', H d = none → Same H H' → FoundAt H' d (walked n rs s) → Q (.ref d) H'
theorem sc_walked : FnScope ["self", "start", "found", "waiting", "here", "one", "other", "length", "there"] ["self", "start"] (defScope S_Tree_walked) := ⟨rfl, rfl, rfl, by decide +kernel, rfl, by decide +kernel, by decide +kernel⟩
theorem ok_walked {f C : Addr} {fd : FuncData} (F : Fun K "walked" "Tree.walked" S_Tree_walked f fd) (T : Tx K mg C) : FnOk P w K mg base CX0 1 f fd ["self", "start"] (spWalked C) := by
  refine F.ok sc_walked (fun vs H Q E h => ?_) (fun cdv A outer s H vs Q E hr h => ?_)
  · obtain ⟨t, n, rs, s, rfl, _⟩ := h
    rfl
  · obtain ⟨t, n, rs, s, rfl, hT, ok, hn, hs0, hsn, k⟩ := h
    have hu := hu_of hr
    have nd := sc_walked.nd
    refine ⟨_, pss_cons (ps_set (i := 2) nd rfl (Or.inl rfl) (pe_disp (pps_cons (pv 1) (pe_tup (pa_cons (pe_un un_neg pe_int) (pa_cons pe_int pa_nil))) pps_nil) (by rfl) (by rfl) (fun z => by cases z) (by decide)))
      (pss_cons (ps_set (i := 3) nd rfl (Or.inl rfl) (pe_lst (pa_cons (pv 1) pa_nil)))
      (pss_cons (ps_while PassesOwn.never (pt_cmpR (op_neD hr.units) (pv 3) (pe_lst pa_nil) (nomark _))
        (pss_cons (ps_set (i := 4) nd rfl (Or.inl rfl) (pe_bm PySem.F.plainAttrs_list PySem.F.slot_list_pop PySem.F.type_list_pop mt_popAt (pv 3) (pa_cons pe_int pa_nil)))
        (pss_one (ps_for PassesOwn.never rfl (pi_list (pe_fld (pv 0) rfl)) (pg_tup rfl (pgs_cons (pg_name (i := 5) nd rfl (Or.inl rfl)) (pgs_cons (pg_name (i := 6) nd rfl (Or.inl rfl)) (pgs_cons (pg_name (i := 7) nd rfl (Or.inl rfl)) pgs_nil))))
          (pss_one (ps_if (PW.pt (pw_or (pt_cmpR op_eq (pv 4) (pv 5) (nomark _)) (pw_or1 (pt_cmpR op_eq (pv 4) (pv 6) (nomark _)))))
            (pss_cons (ps_set (i := 8) nd rfl (Or.inl rfl) (pe_op op_sub (pe_op op_add (pv 5) (pv 6)) (pv 4)))
            (pss_one (ps_if (pt_cmp (pc_dnotin hu (pv 8) (pv 2)))
              (pss_cons (ps_dput hu (pv 2) (pv 8) (pe_tup (pa_cons (pv 4) (pa_cons (pe_op op_add (pe_ix ix_tup (pe_dget hu (pv 2) (pv 4) (fun _ _ => rfl)) pe_int (fun _ _ => rfl)) (pv 7)) pa_nil))) rfl)
              (pss_one (ps_expr (pe_bm PySem.F.plainAttrs_list PySem.F.slot_list_append PySem.F.type_list_append mt_append (pv 3) (pa_cons (pv 8) pa_nil)))))
              pss_nil))) pss_nil))))))
      (pss_one (ps_ret (pv 2))))), ?_⟩
    -- found = {start: (-1, 0)}
    intro d hd
    refine ⟨_, rfl, _, rfl, (by show 2 ≤ sizeLine; decide), fun t0 ht0 => ?_⟩
    obtain ⟨dx, r, vsr, hI, hL, hR⟩ := hT
    have e1 : Same H (upd H d (.dK [])) := Same.new hd
    refine ⟨by rw [upd_ne (ne_of_none upd_same ht0)]; exact upd_same, [(.inl s, .ref t0)], rfl, (show 1 ≤ 15 by decide), ?_⟩
    have ed : upd (upd (upd H d (.dK [])) t0 (.tup [.int (-1), .int 0])) d (.dK (mergeK [] [(.inl s, .ref t0)])) d = some (.dK [(.inl s, .ref t0)]) := upd_same
    have htd : t0 ≠ d := fun q => by rw [q, upd_same] at ht0; cases ht0
    have et : upd (upd (upd H d (.dK [])) t0 (.tup [.int (-1), .int 0])) d (.dK (mergeK [] [(.inl s, .ref t0)])) t0 = some (.tup [.int (-1), .int 0]) := by
      rw [upd_ne htd]; exact upd_same
    have e3 : Same H (upd (upd (upd H d (.dK [])) t0 (.tup [.int (-1), .int 0])) d (.dK (mergeK [] [(.inl s, .ref t0)]))) := Same.mut (e1.trans (Same.new ht0)) hd
    generalize hH3 : upd (upd (upd H d (.dK [])) t0 (.tup [.int (-1), .int 0])) d (.dK (mergeK [] [(.inl s, .ref t0)])) = H3 at ed et e3 ⊢
    -- waiting = [start]
    refine ⟨_, rfl, (by show 1 ≤ sizeLine; decide), fun q hq => ?_⟩
    -- while waiting != []
    refine ⟨fun m σ H' => ∃ (fo : Found) (wl : List Int) (v4 v5 v6 v7 v8 : Option V), σ = [some (.ref t), some (.int s), some (.ref d), some (.ref q), v4, v5, v6, v7, v8] ∧ Same H H' ∧ FoundAt H' d fo ∧ H' q = some (.lst (wl.map V.int)) ∧
      Growth rs s fo ∧ (∀ x ∈ wl, x ∈ keys fo) ∧ bfsGo rs m fo wl = walked n rs s ∧ n + wl.length ≤ fo.length + m ∧ wl.length ≤ fo.length, ⟨n, [(s, (-1, 0))], [s], none, none, none, none, none, rfl, e3.trans (Same.new hq), ⟨_, keepN ed hq, .cons ⟨rfl, t0, rfl, keepN et hq⟩ .nil⟩, upd_same, .start, (fun x hx => by simpa [keys] using hx), rfl, by simp; omega, by simp⟩, ?_⟩
    have hqd : H q = none := e3.free hq
    rintro m σ H4 ⟨fo, wl, v4, v5, v6, v7, v8, rfl, s4, hF, hq4, gr, hw, hb, hm, hwf⟩
    refine ⟨_, rfl, Nat.zero_le _, fun p hp => ?_⟩
    refine ⟨_, _, dp_ilist (ns := wl) (keepN hq4 hp), dp_ilist (ns := []) upd_same, shaped_ints _, shaped_ints _, _, rfl, ?_⟩
    rw [eqv_il]
    have s5 : Same H4 (upd H4 p (.lst ([] : List V))) := Same.new hp
    replace hF := hF.same s5
    replace hq4 := s5 _ _ hq4
    replace s4 := s4.trans s5
    generalize upd H4 p (.lst ([] : List V)) = H5 at s4 hF hq4 ⊢
    clear s5 hp p
    cases wl with
    | nil =>
      refine iteF ?_
      refine ⟨_, rfl, ?_⟩
      refine k d H5 hd s4 ?_
      rw [← hb]
      cases m <;> exact hF
    | cons h wt =>
      refine iteT ?_
      have hm1 : 1 ≤ m := by
        have := gr.length_le ok ⟨hs0, hsn⟩
        simp at hm
        omega
      obtain ⟨m, rfl⟩ : ∃ m', m = m' + 1 := ⟨m - 1, by omega⟩
      refine ⟨fun σ' H' => ∃ m', m' < m + 1 ∧ ∃ (fo : Found) (wl : List Int) (v4 v5 v6 v7 v8 : Option V), σ' = [some (.ref t), some (.int s), some (.ref d), some (.ref q), v4, v5, v6, v7, v8] ∧ Same H H' ∧ FoundAt H' d fo ∧ H' q = some (.lst (wl.map V.int)) ∧
        Growth rs s fo ∧ (∀ x ∈ wl, x ∈ keys fo) ∧ bfsGo rs m' fo wl = walked n rs s ∧ n + wl.length ≤ fo.length + m' ∧ wl.length ≤ fo.length, fun _ _ z => z, ?_⟩
      -- here = waiting.pop(0)
      refine ⟨_, rfl, .inl ⟨rfl, _, SqL.of hq4⟩, q, _, 0, 0, .int h, rfl, rfl, hq4, by decide, by decide, ?_, rfl, ?_⟩
      · show seqIndex? 0 (List.map V.int (h :: wt)).length = some 0
        simp [seqIndex?]
      have hFq := hF.updL (ys := (List.map V.int (h :: wt)).eraseIdx 0) hq4
      have sq := Same.mut (o := .lst ((List.map V.int (h :: wt)).eraseIdx 0)) s4 hqd
      have hq6 : upd H5 q (.lst ((List.map V.int (h :: wt)).eraseIdx 0)) q = some (.lst (wt.map V.int)) := upd_same
      generalize upd H5 q (.lst ((List.map V.int (h :: wt)).eraseIdx 0)) = H6 at hFq sq hq6 ⊢
      clear hF hq4 s4
      have hh : h ∈ keys fo := hw h (List.mem_cons_self ..)
      -- for one, other, length in self.rows
      refine ⟨_, rfl, t, C, dx, _, _, rfl, sq _ _ hI, T.cl, T.nR, tfs_rows _ _, r, rfl, ⟨_, SqL.of (sq _ _ hL)⟩, for_list (K := K) (a := r) (xs := vsr) (fun i σ' H' => ∃ (f' : Found) (w' : List Int) (v5 v6 v7 v8 : Option V),
        σ' = [some (.ref t), some (.int s), some (.ref d), some (.ref q), some (.int h), v5, v6, v7, v8] ∧ Same H H' ∧ FoundAt H' d f' ∧ H' q = some (.lst (w'.map V.int)) ∧ Growth rs s f' ∧ h ∈ keys f' ∧ w'.length ≤ f'.length ∧ scan h (rs.drop i) f' w' = scan h rs fo wt)
        ⟨fo, wt, v5, v6, v7, v8, rfl, sq, hFq, hq6, gr, hh, by simp at hwf; omega, rfl⟩ (fun i σ' H' _ ⟨_, _, _, _, _, _, _, s', _⟩ => SqL.of (s' _ _ hL)) ?_ ?_⟩
      · rintro i x σ' H7 hx ⟨f', w', v5, v6, v7, v8, rfl, s7, hF7, hq7, gr7, hh7, hwf7, hsc⟩
        obtain ⟨rd, hrd, tt, rfl, htt⟩ := paired_get' hR hx
        have hdr : rs.drop i = rd :: rs.drop (i + 1) := by
          obtain ⟨hi, e⟩ := List.getElem?_eq_some_iff.mp hrd
          rw [List.drop_eq_getElem_cons hi, e]
        rw [hdr] at hsc
        refine ⟨tt, _, rfl, SqT.of (s7 _ _ htt), rfl, _, _, rfl, _, _, rfl, _, _, rfl, rfl, ?_⟩
        have gl := gr7.length_le ok ⟨hs0, hsn⟩
        obtain ⟨kvs, hk1, hk2⟩ := id hF7
        have hkl := flen hk2
        refine st_if (ans_or2 (val_eqi (x := h) (y := rd.a) (val_var rfl) (val_var rfl)) (val_eqi (x := h) (y := rd.b) (val_var rfl) (val_var rfl))) (fun c => ?_) (fun c => ?_)
        · have c' : h = rd.a ∨ h = rd.b := by simpa using c
          -- there = one + other - here
          refine ⟨_, rfl, _, rfl, _, _, rfl, rfl, _, rfl, _, _, rfl, rfl, ?_⟩
          -- if there not in found
          refine ⟨_, rfl, _, rfl, d, _, rfl, DGet.k (k := Sum.inl (rd.a + rd.b - h)) hk1, _, rfl, ?_⟩
          cases lk : f'.lookup (rd.a + rd.b - h) with
          | some pd =>
            obtain ⟨tv, hv, _⟩ := (found_val _ hk2).1 pd.1 pd.2 lk
            rw [hv]
            refine iteF ?_
            refine ⟨f', w', _, _, _, _, rfl, s7, hF7, hq7, gr7, hh7, hwf7, ?_⟩
            rw [← hsc, scan_cons, if_pos c', if_pos (by rw [lk]; rfl)]
          | none =>
            have hvn := (found_val (rd.a + rd.b - h) hk2).2 lk
            rw [hvn]
            refine iteT ?_
            obtain ⟨p0, d0, lh⟩ : ∃ p0 d0, f'.lookup h = some (p0, d0) := by
              cases e : f'.lookup h with
              | none => exact absurd hh7 (lookup_none_iff.mp e)
              | some x => exact ⟨x.1, x.2, rfl⟩
            obtain ⟨th, hvh, hth⟩ := (found_val _ hk2).1 _ _ lh
            have edh : dOf f' h = d0 := dOf_of lh
            have hg : DGet H7 d (kV (Sum.inl h)) (some (.ref th)) := by
              have := DGet.k (k := Sum.inl h) hk1
              rw [hvh] at this
              exact this
            -- found[there] = (here, found[here][1] + length)
            refine ⟨_, rfl, _, rfl, _, rfl, d, _, rfl, hg, th, _, 1, _, rfl, rfl, SqT.of hth, rfl, _, rfl, _, _, rfl, rfl, (by show 2 ≤ sizeLine; decide), fun tp htp => ?_⟩
            have s8 := s7.trans (Same.new (o := .tup [.int h, .int (d0 + rd.l)]) htp)
            have hk8 := FRel.same (fun a xs e => Same.new (o := .tup [.int h, .int (d0 + rd.l)]) htp a (.tup xs) e) hk2
            have hd8 := keepN (u := .tup [.int h, .int (d0 + rd.l)]) hk1 htp
            have hq8 := keepN (u := .tup [.int h, .int (d0 + rd.l)]) hq7 htp
            have ht8 : upd H7 tp (.tup [.int h, .int (d0 + rd.l)]) tp = some (.tup [.int h, .int (d0 + rd.l)]) := upd_same
            generalize upd H7 tp (.tup [.int h, .int (d0 + rd.l)]) = H8 at s8 hk8 hd8 hq8 ht8 ⊢
            refine ⟨_, rfl, _, rfl, d, _, rfl, DPut.k (k := Sum.inl (rd.a + rd.b - h)) hd8 (szl (by omega)), ?_⟩
            rw [putK_new _ hvn]
            have hd9 : upd H8 d (.dK (kvs ++ [(Sum.inl (rd.a + rd.b - h), .ref tp)])) d = some (.dK (kvs ++ [(Sum.inl (rd.a + rd.b - h), .ref tp)])) := upd_same
            have hq9 := keepU (u := .dK (kvs ++ [(Sum.inl (rd.a + rd.b - h), .ref tp)])) hq8 hd8 (by intro z; cases z)
            have s9 := Same.mut (o := .dK (kvs ++ [(Sum.inl (rd.a + rd.b - h), .ref tp)])) s8 hd
            have hk9 := FRel.same (fun a xs e => keepU (u := .dK (kvs ++ [(Sum.inl (rd.a + rd.b - h), .ref tp)])) (o := .tup xs) e hd8 (by intro z; cases z)) hk8
            have ht9 := keepU (u := .dK (kvs ++ [(Sum.inl (rd.a + rd.b - h), .ref tp)])) ht8 hd8 (by intro z; cases z)
            generalize upd H8 d (.dK (kvs ++ [(Sum.inl (rd.a + rd.b - h), .ref tp)])) = H9 at s9 hk9 hd9 hq9 ht9 ⊢
            have hF9 : FoundAt H9 d (f' ++ [(rd.a + rd.b - h, (h, dOf f' h + rd.l))]) := ⟨_, hd9, paired_snoc hk9 ⟨rfl, tp, rfl, by rw [edh]; exact ht9⟩⟩
            -- waiting.append(there)
            refine ⟨_, rfl, .inl ⟨rfl, _, SqL.of hq9⟩, _, rfl, q, _, _, rfl, rfl, hq9, (szl (by rw [List.length_map]; omega)), ?_⟩
            have ad : Adj rs h (rd.a + rd.b - h) rd.l := by
              refine ⟨rd, List.mem_of_getElem? hrd, rfl, ?_⟩
              rcases c' with c' | c'
              · exact .inl ⟨c'.symm, by omega⟩
              · exact .inr ⟨c'.symm, by omega⟩
            refine ⟨f' ++ [(rd.a + rd.b - h, (h, dOf f' h + rd.l))], w' ++ [rd.a + rd.b - h], _, _, _, _, rfl, Same.mut s9 hqd, hF9.updL hq9, ?_, .snoc gr7 hh7 ad (lookup_none_iff.mp lk), ?_, ?_, ?_⟩
            · rw [upd_same, List.map_append]; rfl
            · rw [keys_append]; exact List.mem_append_left _ hh7
            · simp; exact hwf7
            · rw [← hsc, scan_cons, if_pos c', if_neg (by rw [lk]; exact Bool.false_ne_true)]
        · have c' : ¬ (h = rd.a ∨ h = rd.b) := by simpa using c
          refine ⟨f', w', _, _, _, v8, rfl, s7, hF7, hq7, gr7, hh7, hwf7, ?_⟩
          rw [← hsc, scan_cons, if_neg c']
      · rintro σ' H7 ⟨f', w', v5, v6, v7, v8, rfl, s7, hF7, hq7, gr7, hh7, hwf7, hsc⟩
        rw [show vsr.length = rs.length from hR.length.symm, List.drop_length] at hsc
        obtain ⟨g1, ⟨more, m1, m2⟩, _⟩ := scan_spec (rs := rs) h rs fo wt (fun _ q => q) gr hh
        have e1 : f' = (scan h rs fo wt).1 := by rw [← hsc]; rfl
        have e2 : w' = (scan h rs fo wt).2 := by rw [← hsc]; rfl
        refine ⟨m, by omega, f', w', _, v5, v6, v7, v8, rfl, s7, hF7, hq7, gr7, ?_, ?_, ?_, ?_⟩
        · intro x hx
          rw [e2, m2] at hx
          rw [e1, m1, keys_append]
          rcases List.mem_append.mp hx with z | z
          · exact List.mem_append_left _ (hw x (List.mem_cons_of_mem _ z))
          · exact List.mem_append_right _ z
        · rw [e1, e2]; exact hb
        · rw [e1, e2, m1, m2]
          simp [keys] at hm ⊢
          omega
        · exact hwf7
end
end Wr

namespace Wr
open PySem L2
section
variable {P : Program} {w : World} {K : PySem.W.Frag} {mg : Str → Option Value} {base : Heap}

/-! ### is_road -/
def roadV (xs : List V) (n : Int) : Bool := match xs with
  | [x, y, z] => withinV z 1 1000000 && (withinV x 0 (n - 1) && (withinV y 0 (n - 1) && !decide (x = y)))
  | _ => false
/-- a thing of which it is known whether it is a road -/
def RoadArg (K : PySem.W.Frag) (H : Hp) (n : Int) (x : V) (r : Bool) : Prop :=
  (∃ t xs, x = .ref t ∧ H t = some (.tup xs) ∧ (∀ y ∈ xs, Plain K H y) ∧ r = roadV xs n) ∨ (∃ t, TyX K H x t ∧ PySem.W.kitOne K t (.type "tuple") = some false ∧ r = false)
def spRoad (K : PySem.W.Frag) : Sp := fun vs H Q _ => ∃ x n r, vs = [x, .int n] ∧ RoadArg K H n x r ∧ Q (.bl r) H
-- slots: 0:thing, 1:villages
theorem sc_is_road : FnScope ["thing", "villages"] ["thing", "villages"] (defScope S_is_road) := ⟨rfl, rfl, rfl, by decide +kernel, rfl, by decide +kernel, by decide +kernel⟩
theorem ok_is_road {f : Addr} {fd : FuncData} (F : Fun K "is_road" "is_road" S_is_road f fd) (B : Bi mg) (mL : ∃ t, mg "LONGEST" = some (.int 1000000 t)) (G_within : Gd P w K mg base 2 "within" ["number", "low", "high"] (spWithin K)) :
    FnOk P w K mg base CX0 3 f fd ["thing", "villages"] (spRoad K) := by
  obtain ⟨tL, m_LONGEST⟩ := mL
  refine F.ok sc_is_road (fun vs H Q E h => ?_) (fun cdv A outer s H vs Q E hr h => ?_)
  · obtain ⟨x, n, r, rfl, _⟩ := h
    rfl
  · obtain ⟨x, n, r, rfl, hR, k⟩ := h
    refine ⟨_, (pss_cons (ps_if (PW.pt (pw_or (pt_not (pt_val (pe_callB call_isi (by rfl) B.isinstance (by decide +kernel) (pa_cons (pv 0) (pa_cons (pe_bltn (v := .ty "tuple") (by rfl) B.tuple (by decide +kernel) rfl) pa_nil))))) (pw_or (pt_cmpR op_ne (pe_callB call_len_seq (by rfl) B.len (by decide +kernel) (pa_cons (pv 0) pa_nil)) pe_int (nomark _)) (pw_or1 (pt_not (pt_val (pe_g G_within hr rfl (pa_cons (pe_ix ix_tup (pv 0) pe_int (fun _ _ => rfl)) (pa_cons pe_int (pa_cons (pe_glob (v := .int 1000000) rfl m_LONGEST ⟨_, rfl⟩) pa_nil))))))))))
    (pss_one (ps_ret pe_bl)) pss_nil)
    (pss_one (ps_ret (pe_and (pe_g G_within hr rfl (pa_cons (pe_ix ix_tup (pv 0) pe_int (fun _ _ => rfl)) (pa_cons pe_int (pa_cons (pe_op op_sub (pv 1) pe_int) pa_nil)))) (pe_and (pe_g G_within hr rfl (pa_cons (pe_ix ix_tup (pv 0) pe_int (fun _ _ => rfl)) (pa_cons pe_int (pa_cons (pe_op op_sub (pv 1) pe_int) pa_nil)))) (pe_one (pe_cmpR op_ne (pe_ix ix_tup (pv 0) pe_int (fun _ _ => rfl)) (pe_ix ix_tup (pv 0) pe_int (fun _ _ => rfl)) (nomark _)))))))), ?_⟩
    rcases hR with ⟨t, xs, rfl, ht, hp, rfl⟩ | ⟨t, ty, kt, rfl⟩
    · refine ⟨_, rfl, .ref t, _, .type "tuple", _, true, rfl, .ty _, .base (.tup ht), kit_ty (by decide +kernel), true, rfl, ?_⟩
      refine iteF ?_
      refine ⟨_, rfl, t, xs, rfl, .inr (SqT.of ht), rfl, _, rfl, ?_⟩
      by_cases hl : xs.length = 3
      · obtain ⟨x, y, z, rfl⟩ : ∃ x y z, xs = [x, y, z] := by
          match xs, hl with
          | [u1, u2, u3], _ => exact ⟨u1, u2, u3, rfl⟩
        refine iteF ?_
        have px := hp x (by simp)
        have py := hp y (by simp)
        have pz := hp z (by simp)
        refine ⟨_, rfl, t, _, 2, z, rfl, rfl, SqT.of ht, rfl, z, 1, 1000000, rfl, pz, _, rfl, ?_⟩
        have k : Q (.bl (withinV z 1 1000000 && (withinV x 0 (n - 1) && (withinV y 0 (n - 1) && !decide (x = y))))) H := k
        cases e1 : withinV z 1 1000000 with
        | false =>
          refine iteT ?_
          rw [e1] at k
          exact k
        | true =>
          refine iteF ?_
          rw [e1] at k
          refine ⟨_, rfl, t, _, 0, x, rfl, rfl, SqT.of ht, rfl, _, rfl, _, _, rfl, rfl, x, 0, _, rfl, px, _, rfl, ?_⟩
          cases e2 : withinV x 0 (n - 1) with
          | false =>
            refine iteF ?_
            rw [e2] at k
            exact k
          | true =>
            refine iteT ?_
            rw [e2] at k
            refine ⟨_, rfl, t, _, 1, y, rfl, rfl, SqT.of ht, rfl, _, rfl, _, _, rfl, rfl, y, 0, _, rfl, py, _, rfl, ?_⟩
            cases e3 : withinV y 0 (n - 1) with
            | false =>
              refine iteF ?_
              rw [e3] at k
              exact k
            | true =>
              refine iteT ?_
              rw [e3] at k
              obtain ⟨i, rfl, _⟩ := withinV_int e2
              obtain ⟨j, rfl, _⟩ := withinV_int e3
              exact ⟨_, rfl, t, _, 0, _, rfl, rfl, SqT.of ht, rfl, _, rfl, t, _, 1, _, rfl, rfl, SqT.of ht, rfl, rfl, k⟩
      · have hd : decide (V.int ((xs.length : Nat) : Int) = V.int 3) = false := by
          rw [dec_int, beq_eq_false_iff_ne]
          omega
        rw [hd]
        refine iteT ?_
        refine iteT ?_
        have er : roadV xs n = false := by
          unfold roadV
          split
          · exact absurd rfl hl
          · rfl
        rw [er] at k
        exact k
    · refine ⟨_, rfl, x, _, t, _, false, rfl, .ty _, ty, kt, false, rfl, ?_⟩
      refine iteT ?_
      exact k
theorem roadArg_of {H : Hp} {n : Nat} {r : Road} {v : V} (h : RoadAt H r v) (o : 0 ≤ r.a ∧ r.a < n ∧ 0 ≤ r.b ∧ r.b < n ∧ r.a ≠ r.b ∧ 1 ≤ r.l ∧ r.l ≤ 1000000) : RoadArg K H n v true := by
  obtain ⟨t, rfl, ht⟩ := h
  refine .inl ⟨t, _, rfl, ht, ?_, ?_⟩
  · intro y hy
    simp only [List.mem_cons, List.not_mem_nil, or_false] at hy
    rcases hy with rfl | rfl | rfl <;> exact Plain.int _
  · show true = (withinV (.int r.l) 1 1000000 && (withinV (.int r.a) 0 ((n : Int) - 1) && (withinV (.int r.b) 0 ((n : Int) - 1) && !decide (V.int r.a = V.int r.b))))
    rw [withinV_of o.2.2.2.2.2.1 o.2.2.2.2.2.2, withinV_of o.1 (by omega), withinV_of o.2.2.1 (by omega)]
    have : ¬ (V.int r.a = V.int r.b) := fun q => o.2.2.2.2.1 (by injection q)
    simp [this]

/-! ### Tree -/
def spInit (C : Addr) : Sp := fun vs H Q _ => ∃ (p dx a : Addr) (n : Nat) (rs : List Road) (us : List V), vs = [.ref p, .int n, .ref a] ∧ H p = some (.ins C dx []) ∧ SqL K H a us ∧ H a = some (.lst us) ∧ RoadsAt H rs us ∧ IsTree n rs ∧
  ∀ H', (∀ b o, H b = some o → b ≠ p → H' b = some o) → TreeNew C H H' p n rs → Q .non H'
-- slots: 0:self, 1:villages, 2:roads, 3:road
theorem sc_Tree_init : FnScope ["self", "villages", "roads", "road"] ["self", "villages", "roads"] (defScope S_Tree_init) := ⟨rfl, rfl, rfl, by decide +kernel, rfl, by decide +kernel, by decide +kernel⟩
theorem ok_init {f C : Addr} {fd : FuncData} (F : Fun K "__init__" "Tree.__init__" S_Tree_init f fd) (T : Tx K mg C) (B : Bi mg) (mM : ∃ t, mg "MOST" = some (.int 12 t)) (G_within : Gd P w K mg base 2 "within" ["number", "low", "high"] (spWithin K))
    (G_is_road : Gd P w K mg base 3 "is_road" ["thing", "villages"] (spRoad K)) (GM_walked : Gm P w K mg base C 1 "walked" ["self", "start"] (spWalked C)) : FnOk P w K mg base CX0 4 f fd ["self", "villages", "roads"] (spInit (K := K) C) := by
  obtain ⟨tM, m_MOST⟩ := mM
  refine F.ok sc_Tree_init (fun vs H Q E h => ?_) (fun cdv A outer s H vs Q E hr h => ?_)
  · obtain ⟨p, dx, a, n, rs, us, rfl, _⟩ := h
    rfl
  · obtain ⟨p, dx, a, n, rs, us, rfl, hp, _, ha, hR, hT, k⟩ := h
    have hu := hu_of hr
    have nd := sc_Tree_init.nd
    have npa : p ≠ a := ne_of hp ha (by intro z; cases z)
    refine ⟨_, (pss_cons (ps_if (PW.pt (pw_or (pt_not (pt_val (pe_g G_within hr rfl (pa_cons (pv 1) (pa_cons pe_int (pa_cons (pe_glob (v := .int 12) rfl m_MOST ⟨_, rfl⟩) pa_nil)))))) (pw_or (pt_not (pt_val (pe_callB call_isi (by rfl) B.isinstance (by decide +kernel) (pa_cons (pv 2) (pa_cons (pe_bltn (v := .ty "list") (by rfl) B.list (by decide +kernel) rfl) pa_nil))))) (pw_or1 (pt_cmpR op_ne (pe_callB call_len_seq (by rfl) B.len (by decide +kernel) (pa_cons (pv 2) pa_nil)) (pe_op op_sub (pv 1) pe_int) (nomark _))))))
    (pss_one ps_never) pss_nil)
    (pss_cons (ps_for PassesOwn.never rfl (pi_list (pv 2)) (pg_name (i := 3) nd rfl (Or.inl rfl))
    (pss_one (ps_if (pt_not (pt_val (pe_g G_is_road hr rfl (pa_cons (pv 3) (pa_cons (pv 1) pa_nil)))))
    (pss_one ps_never) pss_nil)))
    (pss_cons (ps_fld (pv 0) (pv 1) rfl)
    (pss_cons (ps_fld (pv 0) (pe_callTy call_list_of (by rfl) B.list (by decide +kernel) (pa_cons (pv 2) pa_nil)) rfl)
    (pss_one (ps_if (pt_cmpR op_lt (pe_callB call_lenD (by rfl) B.len (by decide +kernel) (pa_cons (pe_gm (pv 0) T.cl GM_walked hr (pa_cons pe_int pa_nil)) pa_nil)) (pv 1) (nomark _))
    (pss_one ps_never) pss_nil)))))), ?_⟩
    have l1 := hT.pos
    have l2 := hT.le
    have l3 := hT.len
    have lu := hR.length
    refine ⟨_, rfl, .int n, 1, 12, rfl, Plain.int _, _, rfl, ?_⟩
    rw [withinV_of (by omega) (by omega)]
    refine iteF ?_
    refine ⟨_, rfl, .ref a, _, .type "list", _, true, rfl, .ty _, .base (.lst ha), kit_ty (by decide +kernel), true, rfl, ?_⟩
    refine iteF ?_
    refine ⟨_, rfl, a, _, rfl, .inl (SqL.of ha), _, rfl, _, _, rfl, rfl, rfl, _, rfl, ?_⟩
    have hd : (!decide (V.int ((us.length : Nat) : Int) = V.int ((n : Int) - 1))) = false := by
      rw [dec_int]
      have : ((us.length : Nat) : Int) = (n : Int) - 1 := by omega
      rw [this]; simp
    rw [hd]
    refine iteF ?_
    refine ⟨_, rfl, a, rfl, ⟨_, SqL.of ha⟩, for_list (K := K) (a := a) (xs := us) (fun i σ' H' => H' = H ∧ ∃ v, σ' = [some (.ref p), some (.int n), some (.ref a), v]) ⟨rfl, none, rfl⟩ (fun i σ' H' _ ⟨e, _⟩ => by rw [e]; exact SqL.of ha) ?_ ?_⟩
    · rintro i x σ' H' hx ⟨rfl, v, rfl⟩
      obtain ⟨rd, hrd, hr1⟩ := paired_get' hR hx
      refine ⟨_, rfl, _, rfl, _, n, true, rfl, roadArg_of hr1 (hT.ok rd (List.mem_of_getElem? hrd)), true, rfl, ?_⟩
      refine iteF ?_
      exact ⟨rfl, _, rfl⟩
    · rintro σ' H' ⟨rfl, v, rfl⟩
      refine ⟨_, rfl, _, rfl, p, C, dx, [], rfl, hp, T.cl, T.nS, (by show 0 < 1000; decide), ?_⟩
      have ha1 : upd H' p (.ins C dx (putF "size" (.int n) [])) a = some (.lst us) := keepU ha hp (by intro z; cases z)
      have hp1 : upd H' p (.ins C dx (putF "size" (.int n) [])) p = some (.ins C dx (putF "size" (.int n) [])) := upd_same
      have kp : ∀ b o, H' b = some o → b ≠ p → upd H' p (.ins C dx (putF "size" (.int n) [])) b = some o := fun b o e hb => by rw [upd_ne hb]; exact e
      generalize upd H' p (.ins C dx (putF "size" (.int n) [])) = H1 at ha1 hp1 kp ⊢
      refine ⟨_, rfl, a, us, rfl, .inl (SqL.of ha1), fun l hl => ?_⟩
      have npl : p ≠ l := ne_of_none hp1 hl
      refine ⟨_, rfl, p, C, dx, _, rfl, keepN hp1 hl, T.cl, T.nR, (by show 1 < 1000; decide), ?_⟩
      rw [tfs_put]
      have kp2 : ∀ b o, H' b = some o → b ≠ p → upd (upd H1 l (.lst us)) p (.ins C dx (tfs n l)) b = some o := fun b o e hb => by
        rw [upd_ne hb, upd_ne (ne_of_none (kp b o e hb) hl)]; exact kp b o e hb
      have hl0 : H' l = none := by
        cases e : H' l with
        | none => rfl
        | some o =>
          have := kp l o e (ne_of_none hp1 hl).symm
          rw [hl] at this; cases this
      have hTr : TreeNew C H' (upd (upd H1 l (.lst us)) p (.ins C dx (tfs n l))) p n rs := by
        refine ⟨dx, l, us, hl0, upd_same, by rw [upd_ne npl.symm]; exact upd_same, Paired.mapP hR fun r v ⟨t, e1, e2⟩ => ⟨t, e1, kp2 _ _ e2 (ne_of hp e2 (by intro z; cases z)).symm⟩⟩
      generalize upd (upd H1 l (.lst us)) p (.ins C dx (tfs n l)) = H2 at kp2 hTr ⊢
      obtain ⟨dx', r', vs', _, e1, _⟩ := id hTr
      refine ⟨_, rfl, p, dx', _, rfl, e1, tfs_no _ _ (by decide +kernel) (by decide +kernel), p, n, rs, 0, rfl, hTr.at, hT.toRoadsOk, l2, by omega, by omega, fun d H3 hd3 s3 hF => ?_⟩
      obtain ⟨kvs, hk1, hk2⟩ := hF
      refine ⟨d, _, rfl, hk1, _, rfl, _, _, rfl, rfl, _, rfl, ?_⟩
      have hlen : ¬ (((kvs.length : Nat) : Int) < n) := by
        have := flen hk2
        have := hT.len_walked (s := 0) ⟨by omega, by omega⟩
        omega
      rw [decide_eq_false hlen]
      refine iteF ?_
      exact k H3 (fun b o e hb => s3 b o (kp2 b o e hb)) (let ⟨dx, r, vs, e0, e1, e2, e3⟩ := hTr; ⟨dx, r, vs, e0, s3 _ _ e1, s3 _ _ e2, e3.same s3⟩)
end
end Wr

namespace Wr
open PySem L2
section
variable {P : Program} {w : World} {K : PySem.W.Frag} {mg : Str → Option Value} {base : Heap}
/-- what Tree(x, y) comes to: a tree, or none -/
inductive InitRes (K : PySem.W.Frag) (H : Hp) : V → V → Option (Nat × List Road) → Prop
  | good {a : Addr} {us : List V} {n : Nat} {rs : List Road} : H a = some (.lst us) → RoadsAt H rs us → IsTree n rs → InitRes K H (.int n) (.ref a) (some (n, rs))
  | num {x y : V} : Plain K H x → withinV x 1 12 = false → InitRes K H x y none
  | nolist {n : Nat} {y : V} {t : Value} : 1 ≤ n → n ≤ 12 → TyX K H y t → PySem.W.kitOne K t (.type "list") = some false → InitRes K H (.int n) y none
  | count {n : Nat} {a : Addr} {us : List V} : 1 ≤ n → n ≤ 12 → H a = some (.lst us) → us.length + 1 ≠ n → InitRes K H (.int n) (.ref a) none
  | road {n : Nat} {a : Addr} {us : List V} {bs : List Bool} : n ≤ 12 → H a = some (.lst us) → us.length + 1 = n → Paired (fun b u => RoadArg K H n u b) bs us → false ∈ bs → InitRes K H (.int n) (.ref a) none
  | round {n : Nat} {a : Addr} {us : List V} {rs : List Road} : n ≤ 12 → H a = some (.lst us) → us.length + 1 = n → RoadsAt H rs us → RoadsOk n rs → (walked n rs 0).length < n → InitRes K H (.int n) (.ref a) none
def spInitX (C CB : Addr) : Sp := fun vs H Q E => ∃ (p dx : Addr) (x y : V) (res : Option (Nat × List Road)), vs = [.ref p, x, y] ∧ H p = some (.ins C dx []) ∧ InitRes K H x y res ∧
  (∀ n rs, res = some (n, rs) → ∀ H', (∀ b o, H b = some o → b ≠ p → H' b = some o) → TreeNew C H H' p n rs → Q .non H') ∧
  (res = none → ∀ H', (∀ b o, H b = some o → b ≠ p → H' b = some o) → E (.ref CB) none H')

theorem paired_no {α β : Type} {F : α → β → Prop} {l : List α} {m : List β} (h : Paired F l m) {i : Nat} {y : β} (hy : m[i]? = some y) : ∃ x, l[i]? = some x ∧ F x y := paired_get' h hy
theorem ok_initX {f C CB : Addr} {fd : FuncData} (F : Fun K "__init__" "Tree.__init__" S_Tree_init f fd) (T : Tx K mg C) (B : Bi mg) (X_BadTree : Xc K mg "BadTree" CB) (mM : ∃ t, mg "MOST" = some (.int 12 t)) (G_within : Gd P w K mg base 2 "within" ["number", "low", "high"] (spWithin K))
    (G_is_road : Gd P w K mg base 3 "is_road" ["thing", "villages"] (spRoad K)) (GM_walked : Gm P w K mg base C 1 "walked" ["self", "start"] (spWalked C)) : FnOk P w K mg base (L2N.CX P w) 4 f fd ["self", "villages", "roads"] (spInitX (K := K) C CB) := by
  obtain ⟨tM, m_MOST⟩ := mM
  refine Fun.okN F sc_Tree_init (fun vs H Q E h => ?_) (fun cdv A outer s H vs Q E hr h => ?_)
  · obtain ⟨p, dx, x, y, res, rfl, _⟩ := h
    rfl
  · obtain ⟨p, dx, x, y, res, rfl, hp, hI, kq, ke⟩ := h
    have hu := hu_of hr
    have nd := sc_Tree_init.nd
    refine ⟨_, (pss_cons (ps_if (PW.pt (pw_or (pt_not (pt_val (pe_g G_within hr rfl (pa_cons (pv 1) (pa_cons pe_int (pa_cons (pe_glob (v := .int 12) rfl m_MOST ⟨_, rfl⟩) pa_nil)))))) (pw_or (pt_not (pt_val (pe_callB call_isi (by rfl) B.isinstance (by decide +kernel) (pa_cons (pv 2) (pa_cons (pe_bltn (v := .ty "list") (by rfl) B.list (by decide +kernel) rfl) pa_nil))))) (pw_or1 (pt_cmpR op_ne (pe_callB call_len_seq (by rfl) B.len (by decide +kernel) (pa_cons (pv 2) pa_nil)) (pe_op op_sub (pv 1) pe_int) (nomark _))))))
    (pss_one (L2N.ps_raise rfl (L2N.takes_of rfl rfl rfl rfl) (L2N.pmk_own PySem.F.excBase_ValueError X_BadTree.e X_BadTree.g X_BadTree.k (raises_own X_BadTree.b X_BadTree.t) rfl))) pss_nil)
    (pss_cons (ps_for (passes_of rfl) rfl (pi_list (pv 2)) (pg_name (i := 3) nd rfl (Or.inl rfl))
    (pss_one (ps_if (pt_not (pt_val (pe_g G_is_road hr rfl (pa_cons (pv 3) (pa_cons (pv 1) pa_nil)))))
    (pss_one (L2N.ps_raise rfl (L2N.takes_of rfl rfl rfl rfl) (L2N.pmk_own PySem.F.excBase_ValueError X_BadTree.e X_BadTree.g X_BadTree.k (raises_own X_BadTree.b X_BadTree.t) rfl))) pss_nil)))
    (pss_cons (ps_fld (pv 0) (pv 1) rfl)
    (pss_cons (ps_fld (pv 0) (pe_callTy call_list_of (by rfl) B.list (by decide +kernel) (pa_cons (pv 2) pa_nil)) rfl)
    (pss_one (ps_if (pt_cmpR op_lt (pe_callB call_lenD (by rfl) B.len (by decide +kernel) (pa_cons (pe_gm (pv 0) T.cl GM_walked hr (pa_cons pe_int pa_nil)) pa_nil)) (pv 1) (nomark _))
    (pss_one (L2N.ps_raise rfl (L2N.takes_of rfl rfl rfl rfl) (L2N.pmk_own PySem.F.excBase_ValueError X_BadTree.e X_BadTree.g X_BadTree.k (raises_own X_BadTree.b X_BadTree.t) rfl))) pss_nil)))))), ?_⟩
    have same : ∀ b o, H b = some o → b ≠ p → H b = some o := fun b o e _ => e
    cases hI with
    | num pl e =>
      refine ⟨_, rfl, x, 1, 12, rfl, pl, _, rfl, ?_⟩
      rw [e]
      refine iteT ?_
      refine iteT ?_
      exact ke rfl H same
    | @nolist n y t h1 h2 ty kt =>
      refine ⟨_, rfl, .int n, 1, 12, rfl, Plain.int _, _, rfl, ?_⟩
      rw [withinV_of (by omega) (by omega)]
      refine iteF ?_
      refine ⟨_, rfl, y, _, t, _, false, rfl, .ty _, ty, kt, false, rfl, ?_⟩
      refine iteT ?_
      refine iteT ?_
      exact ke rfl H same
    | @count n a us h1 h2 ha hn =>
      refine ⟨_, rfl, .int n, 1, 12, rfl, Plain.int _, _, rfl, ?_⟩
      rw [withinV_of (by omega) (by omega)]
      refine iteF ?_
      refine ⟨_, rfl, .ref a, _, .type "list", _, true, rfl, .ty _, .base (.lst ha), kit_ty (by decide +kernel), true, rfl, ?_⟩
      refine iteF ?_
      refine ⟨_, rfl, a, _, rfl, .inl (SqL.of ha), _, rfl, _, _, rfl, rfl, rfl, _, rfl, ?_⟩
      have hd : (!decide (V.int ((us.length : Nat) : Int) = V.int ((n : Int) - 1))) = true := by
        rw [dec_int]
        have : ((us.length : Nat) : Int) ≠ (n : Int) - 1 := by omega
        simp [this]
      rw [hd]
      refine iteT ?_
      exact ke rfl H same
    | @road n a us bs h2 ha lu hR hf =>
      have npa : p ≠ a := ne_of hp ha (by intro z; cases z)
      refine ⟨_, rfl, .int n, 1, 12, rfl, Plain.int _, _, rfl, ?_⟩
      rw [withinV_of (by omega) (by omega)]
      refine iteF ?_
      refine ⟨_, rfl, .ref a, _, .type "list", _, true, rfl, .ty _, .base (.lst ha), kit_ty (by decide +kernel), true, rfl, ?_⟩
      refine iteF ?_
      refine ⟨_, rfl, a, _, rfl, .inl (SqL.of ha), _, rfl, _, _, rfl, rfl, rfl, _, rfl, ?_⟩
      have hd : (!decide (V.int ((us.length : Nat) : Int) = V.int ((n : Int) - 1))) = false := by
        rw [dec_int]
        have : ((us.length : Nat) : Int) = (n : Int) - 1 := by omega
        rw [this]; simp
      rw [hd]
      refine iteF ?_
      refine ⟨_, rfl, a, rfl, ⟨_, SqL.of ha⟩, for_list (K := K) (a := a) (xs := us) (fun i σ' H' => H' = H ∧ (∀ j, j < i → bs[j]? = some true) ∧ ∃ v, σ' = [some (.ref p), some (.int n), some (.ref a), v]) ⟨rfl, fun j hj => absurd hj (by omega), none, rfl⟩ (fun i σ' H' _ ⟨e, _⟩ => by rw [e]; exact SqL.of ha) ?_ ?_⟩
      · rintro i x σ' H' hx ⟨rfl, hall, v, rfl⟩
        obtain ⟨b, hb, hr1⟩ := paired_get' hR hx
        refine ⟨_, rfl, _, rfl, _, n, b, rfl, hr1, b, rfl, ?_⟩
        cases b with
        | true =>
          refine iteF ?_
          refine ⟨rfl, fun j hj => ?_, _, rfl⟩
          by_cases e : j = i
          · subst e; exact hb
          · exact hall j (by omega)
        | false =>
          refine iteT ?_
          exact ke rfl H' same
      · rintro σ' H' ⟨rfl, hall, v, rfl⟩
        exfalso
        obtain ⟨i, hi, e⟩ := List.getElem_of_mem hf
        have hl := hR.length
        have := hall i (by omega)
        rw [List.getElem?_eq_getElem hi, e] at this
        cases this
    | @good a us n rs ha hR hT =>
      have npa : p ≠ a := ne_of hp ha (by intro z; cases z)
      have k := kq n rs rfl
      have l1 := hT.pos
      have l2 := hT.le
      have l3 := hT.len
      have lu := hR.length
      refine ⟨_, rfl, .int n, 1, 12, rfl, Plain.int _, _, rfl, ?_⟩
      rw [withinV_of (by omega) (by omega)]
      refine iteF ?_
      refine ⟨_, rfl, .ref a, _, .type "list", _, true, rfl, .ty _, .base (.lst ha), kit_ty (by decide +kernel), true, rfl, ?_⟩
      refine iteF ?_
      refine ⟨_, rfl, a, _, rfl, .inl (SqL.of ha), _, rfl, _, _, rfl, rfl, rfl, _, rfl, ?_⟩
      have hd : (!decide (V.int ((us.length : Nat) : Int) = V.int ((n : Int) - 1))) = false := by
        rw [dec_int]
        have : ((us.length : Nat) : Int) = (n : Int) - 1 := by omega
        rw [this]; simp
      rw [hd]
      refine iteF ?_
      refine ⟨_, rfl, a, rfl, ⟨_, SqL.of ha⟩, for_list (K := K) (a := a) (xs := us) (fun i σ' H' => H' = H ∧ ∃ v, σ' = [some (.ref p), some (.int n), some (.ref a), v]) ⟨rfl, none, rfl⟩ (fun i σ' H' _ ⟨e, _⟩ => by rw [e]; exact SqL.of ha) ?_ ?_⟩
      · rintro i x σ' H' hx ⟨rfl, v, rfl⟩
        obtain ⟨rd, hrd, hr1⟩ := paired_get' hR hx
        refine ⟨_, rfl, _, rfl, _, n, true, rfl, roadArg_of hr1 (hT.ok rd (List.mem_of_getElem? hrd)), true, rfl, ?_⟩
        refine iteF ?_
        exact ⟨rfl, _, rfl⟩
      · rintro σ' H' ⟨rfl, v, rfl⟩
        refine ⟨_, rfl, _, rfl, p, C, dx, [], rfl, hp, T.cl, T.nS, (by show 0 < 1000; decide), ?_⟩
        have ha1 : upd H' p (.ins C dx (putF "size" (.int n) [])) a = some (.lst us) := keepU ha hp (by intro z; cases z)
        have hp1 : upd H' p (.ins C dx (putF "size" (.int n) [])) p = some (.ins C dx (putF "size" (.int n) [])) := upd_same
        have kp : ∀ b o, H' b = some o → b ≠ p → upd H' p (.ins C dx (putF "size" (.int n) [])) b = some o := fun b o e hb => by rw [upd_ne hb]; exact e
        generalize upd H' p (.ins C dx (putF "size" (.int n) [])) = H1 at ha1 hp1 kp ⊢
        refine ⟨_, rfl, a, us, rfl, .inl (SqL.of ha1), fun l hl => ?_⟩
        have npl : p ≠ l := ne_of_none hp1 hl
        refine ⟨_, rfl, p, C, dx, _, rfl, keepN hp1 hl, T.cl, T.nR, (by show 1 < 1000; decide), ?_⟩
        rw [tfs_put]
        have kp2 : ∀ b o, H' b = some o → b ≠ p → upd (upd H1 l (.lst us)) p (.ins C dx (tfs n l)) b = some o := fun b o e hb => by
          rw [upd_ne hb, upd_ne (ne_of_none (kp b o e hb) hl)]; exact kp b o e hb
        have hl0 : H' l = none := by
          cases e : H' l with
          | none => rfl
          | some o =>
            have := kp l o e (ne_of_none hp1 hl).symm
            rw [hl] at this; cases this
        have hTr : TreeNew C H' (upd (upd H1 l (.lst us)) p (.ins C dx (tfs n l))) p n rs := by
          refine ⟨dx, l, us, hl0, upd_same, by rw [upd_ne npl.symm]; exact upd_same, Paired.mapP hR fun r v ⟨t, e1, e2⟩ => ⟨t, e1, kp2 _ _ e2 (ne_of hp e2 (by intro z; cases z)).symm⟩⟩
        generalize upd (upd H1 l (.lst us)) p (.ins C dx (tfs n l)) = H2 at kp2 hTr ⊢
        obtain ⟨dx', r', vs', _, e1, _⟩ := id hTr
        refine ⟨_, rfl, p, dx', _, rfl, e1, tfs_no _ _ (by decide +kernel) (by decide +kernel), p, n, rs, 0, rfl, hTr.at, hT.toRoadsOk, l2, by omega, by omega, fun d H3 hd3 s3 hF => ?_⟩
        obtain ⟨kvs, hk1, hk2⟩ := hF
        refine ⟨d, _, rfl, hk1, _, rfl, _, _, rfl, rfl, _, rfl, ?_⟩
        have hlen : ¬ (((kvs.length : Nat) : Int) < n) := by
          have := flen hk2
          have := hT.len_walked (s := 0) ⟨by omega, by omega⟩
          omega
        rw [decide_eq_false hlen]
        refine iteF ?_
        exact k H3 (fun b o e hb => s3 b o (kp2 b o e hb)) (let ⟨dx, r, vs, e0, e1, e2, e3⟩ := hTr; ⟨dx, r, vs, e0, s3 _ _ e1, s3 _ _ e2, e3.same s3⟩)
    | @round n a us rs l2 ha lu' hR hT hsh =>
      have npa : p ≠ a := ne_of hp ha (by intro z; cases z)
      have lu := hR.length
      refine ⟨_, rfl, .int n, 1, 12, rfl, Plain.int _, _, rfl, ?_⟩
      rw [withinV_of (by omega) (by omega)]
      refine iteF ?_
      refine ⟨_, rfl, .ref a, _, .type "list", _, true, rfl, .ty _, .base (.lst ha), kit_ty (by decide +kernel), true, rfl, ?_⟩
      refine iteF ?_
      refine ⟨_, rfl, a, _, rfl, .inl (SqL.of ha), _, rfl, _, _, rfl, rfl, rfl, _, rfl, ?_⟩
      have hd : (!decide (V.int ((us.length : Nat) : Int) = V.int ((n : Int) - 1))) = false := by
        rw [dec_int]
        have : ((us.length : Nat) : Int) = (n : Int) - 1 := by omega
        rw [this]; simp
      rw [hd]
      refine iteF ?_
      refine ⟨_, rfl, a, rfl, ⟨_, SqL.of ha⟩, for_list (K := K) (a := a) (xs := us) (fun i σ' H' => H' = H ∧ ∃ v, σ' = [some (.ref p), some (.int n), some (.ref a), v]) ⟨rfl, none, rfl⟩ (fun i σ' H' _ ⟨e, _⟩ => by rw [e]; exact SqL.of ha) ?_ ?_⟩
      · rintro i x σ' H' hx ⟨rfl, v, rfl⟩
        obtain ⟨rd, hrd, hr1⟩ := paired_get' hR hx
        refine ⟨_, rfl, _, rfl, _, n, true, rfl, roadArg_of hr1 (hT.ok rd (List.mem_of_getElem? hrd)), true, rfl, ?_⟩
        refine iteF ?_
        exact ⟨rfl, _, rfl⟩
      · rintro σ' H' ⟨rfl, v, rfl⟩
        refine ⟨_, rfl, _, rfl, p, C, dx, [], rfl, hp, T.cl, T.nS, (by show 0 < 1000; decide), ?_⟩
        have ha1 : upd H' p (.ins C dx (putF "size" (.int n) [])) a = some (.lst us) := keepU ha hp (by intro z; cases z)
        have hp1 : upd H' p (.ins C dx (putF "size" (.int n) [])) p = some (.ins C dx (putF "size" (.int n) [])) := upd_same
        have kp : ∀ b o, H' b = some o → b ≠ p → upd H' p (.ins C dx (putF "size" (.int n) [])) b = some o := fun b o e hb => by rw [upd_ne hb]; exact e
        generalize upd H' p (.ins C dx (putF "size" (.int n) [])) = H1 at ha1 hp1 kp ⊢
        refine ⟨_, rfl, a, us, rfl, .inl (SqL.of ha1), fun l hl => ?_⟩
        have npl : p ≠ l := ne_of_none hp1 hl
        refine ⟨_, rfl, p, C, dx, _, rfl, keepN hp1 hl, T.cl, T.nR, (by show 1 < 1000; decide), ?_⟩
        rw [tfs_put]
        have kp2 : ∀ b o, H' b = some o → b ≠ p → upd (upd H1 l (.lst us)) p (.ins C dx (tfs n l)) b = some o := fun b o e hb => by
          rw [upd_ne hb, upd_ne (ne_of_none (kp b o e hb) hl)]; exact kp b o e hb
        have hl0 : H' l = none := by
          cases e : H' l with
          | none => rfl
          | some o =>
            have := kp l o e (ne_of_none hp1 hl).symm
            rw [hl] at this; cases this
        have hTr : TreeNew C H' (upd (upd H1 l (.lst us)) p (.ins C dx (tfs n l))) p n rs := by
          refine ⟨dx, l, us, hl0, upd_same, by rw [upd_ne npl.symm]; exact upd_same, Paired.mapP hR fun r v ⟨t, e1, e2⟩ => ⟨t, e1, kp2 _ _ e2 (ne_of hp e2 (by intro z; cases z)).symm⟩⟩
        generalize upd (upd H1 l (.lst us)) p (.ins C dx (tfs n l)) = H2 at kp2 hTr ⊢
        obtain ⟨dx', r', vs', _, e1, _⟩ := id hTr
        refine ⟨_, rfl, p, dx', _, rfl, e1, tfs_no _ _ (by decide +kernel) (by decide +kernel), p, n, rs, 0, rfl, hTr.at, hT, l2, by omega, by omega, fun d H3 hd3 s3 hF => ?_⟩
        obtain ⟨kvs, hk1, hk2⟩ := hF
        refine ⟨d, _, rfl, hk1, _, rfl, _, _, rfl, rfl, _, rfl, ?_⟩
        have hlen : (((kvs.length : Nat) : Int) < n) := by
          have := flen hk2
          omega
        rw [decide_eq_true hlen]
        refine iteT ?_
        exact ke rfl H3 (fun b o e hb => s3 b o (kp2 b o e hb))
end
end Wr

namespace Wr
open PySem L2
section
variable {P : Program} {w : World} {K : PySem.W.Frag} {mg : Str → Option Value} {base : Heap}

/-! ### Tree.roads, Tree.village -/
def spRoads (C : Addr) : Sp := fun vs H Q _ => ∃ (t : Addr) (n : Nat) (rs : List Road), vs = [.ref t] ∧ TreeAt C H t n rs ∧ ∀ l us H', H l = none → Same H H' → H' l = some (.lst us) → RoadsAt H' rs us → Q (.ref l) H'
-- slots: 0:self
theorem sc_Tree_roads : FnScope ["self"] ["self"] (defScope S_Tree_roads) := ⟨rfl, rfl, rfl, by decide +kernel, rfl, by decide +kernel, by decide +kernel⟩
theorem ok_roads {f C : Addr} {fd : FuncData} (F : Fun K "roads" "Tree.roads" S_Tree_roads f fd) (T : Tx K mg C) (B : Bi mg) : FnOk P w K mg base CX0 1 f fd ["self"] (spRoads C) := by
  refine F.ok sc_Tree_roads (fun vs H Q E h => ?_) (fun cdv A outer s H vs Q E hr h => ?_)
  · obtain ⟨t, n, rs, rfl, _⟩ := h
    rfl
  · obtain ⟨t, n, rs, rfl, ⟨dx, r, us, h1, h2, h3⟩, k⟩ := h
    refine ⟨_, (pss_one (ps_ret (pe_callTy call_list_of (by rfl) B.list (by decide +kernel) (pa_cons (pe_fld (pv 0) rfl) pa_nil)))), ?_⟩
    refine ⟨_, rfl, t, C, dx, _, _, rfl, h1, T.cl, T.nR, tfs_rows _ _, r, us, rfl, .inl (SqL.of h2), fun l hl => ?_⟩
    exact k l us _ hl (Same.new hl) upd_same (h3.same (Same.new hl))
def spVillage (C : Addr) : Sp := fun vs H Q _ => ∃ (t : Addr) (n : Nat) (rs : List Road) (v : Int), vs = [.ref t, .int v] ∧ TreeAt C H t n rs ∧ 0 ≤ v ∧ v < n ∧ Q (.int v) H
-- slots: 0:self, 1:at
theorem sc_Tree_village : FnScope ["self", "at"] ["self", "at"] (defScope S_Tree_village) := ⟨rfl, rfl, rfl, by decide +kernel, rfl, by decide +kernel, by decide +kernel⟩
theorem ok_village {f C : Addr} {fd : FuncData} (F : Fun K "village" "Tree.village" S_Tree_village f fd) (T : Tx K mg C) (G_within : Gd P w K mg base 2 "within" ["number", "low", "high"] (spWithin K)) : FnOk P w K mg base CX0 3 f fd ["self", "at"] (spVillage C) := by
  refine F.ok sc_Tree_village (fun vs H Q E h => ?_) (fun cdv A outer s H vs Q E hr h => ?_)
  · obtain ⟨t, n, rs, v, rfl, _⟩ := h
    rfl
  · obtain ⟨t, n, rs, v, rfl, ⟨dx, r, us, h1, h2, h3⟩, v0, v1, k⟩ := h
    refine ⟨_, (pss_cons (ps_if (pt_not (pt_val (pe_g G_within hr rfl (pa_cons (pv 1) (pa_cons pe_int (pa_cons (pe_op op_sub (pe_fld (pv 0) rfl) pe_int) pa_nil))))))
    (pss_one ps_never) pss_nil)
    (pss_one (ps_ret (pv 1)))), ?_⟩
    refine ⟨_, rfl, _, rfl, t, C, dx, _, _, rfl, h1, T.cl, T.nS, tfs_size _ _, _, _, rfl, rfl, _, 0, _, rfl, Plain.int _, _, rfl, ?_⟩
    rw [withinV_of v0 (by omega)]
    refine iteF ?_
    exact ⟨_, rfl, k⟩

theorem found_get {H : Hp} {d : Addr} {fo : Found} {v p x : Int} (hF : FoundAt H d fo) (l : fo.lookup v = some (p, x)) : ∃ t, DGet H d (.int v) (some (.ref t)) ∧ H t = some (.tup [.int p, .int x]) := by
  obtain ⟨kvs, h1, h2⟩ := hF
  obtain ⟨t, h3, h4⟩ := (found_val v h2).1 p x l
  have := DGet.k (k := Sum.inl v) h1
  rw [h3] at this
  exact ⟨t, this, h4⟩
theorem tree_ins {C : Addr} {H : Hp} {t : Addr} {n : Nat} {rs : List Road} (h : TreeAt C H t n rs) : ∃ dx r, H t = some (.ins C dx (tfs n r)) := let ⟨dx, r, _, h1, _⟩ := h; ⟨dx, r, h1⟩
/-- rows of ints, each a list of its own; all of it newer than H0 -/
def RowsAt (H0 H : Hp) (d : Addr) (rows : List (List Int)) : Prop := ∃ xs, H d = some (.lst xs) ∧ Paired (fun (row : List Int) v => ∃ l, v = .ref l ∧ H0 l = none ∧ l ≠ d ∧ H l = some (.lst (row.map V.int))) rows xs
theorem RowsAt.same {H0 H H' : Hp} {d : Addr} {rows : List (List Int)} (e : Same H H') (h : RowsAt H0 H d rows) : RowsAt H0 H' d rows :=
  let ⟨xs, h1, h2⟩ := h
  ⟨xs, e _ _ h1, Paired.mapP h2 fun _ _ ⟨l, a, b, c, q⟩ => ⟨l, a, b, c, e _ _ q⟩⟩
end
end Wr

namespace Wr
open PySem L2
section
variable {P : Program} {w : World} {K : PySem.W.Frag} {mg : Str → Option Value} {base : Heap}

def spDistances (C : Addr) : Sp := fun vs H Q _ => ∃ (t : Addr) (n : Nat) (rs : List Road), vs = [.ref t] ∧ TreeAt C H t n rs ∧ IsTree n rs ∧ ∀ d H', H d = none → Same H H' → RowsAt H H' d (rowsD n rs) → Q (.ref d) H'
-- slots: 0:tree, 1:found, 2:one, 3:walked*, 4:other
theorem sc_distances : FnScope ["tree", "found", "one", "walked", "other"] ["tree"] (defScope S_distances) := ⟨rfl, rfl, rfl, by decide +kernel, rfl, by decide +kernel, by decide +kernel⟩
theorem ok_distances {f C : Addr} {fd : FuncData} (F : Fun K "distances" "distances" S_distances f fd) (T : Tx K mg C) (B : Bi mg) (GM_walked : Gm P w K mg base C 1 "walked" ["self", "start"] (spWalked C)) :
    FnOk P w K mg base CX0 2 f fd ["tree"] (spDistances C) := by
  refine F.ok sc_distances (fun vs H Q E h => ?_) (fun cdv A outer s H vs Q E hr h => ?_)
  · obtain ⟨t, n, rs, rfl, _⟩ := h
    rfl
  · obtain ⟨t, n, rs, rfl, hA, hT, k⟩ := h
    have hu := hu_of hr
    have nd := sc_distances.nd
    have len12 := hT.le
    refine ⟨_, (pss_cons (ps_set (i := 1) nd rfl (Or.inl rfl) (pe_lst pa_nil))
    (pss_cons (ps_for PassesOwn.never rfl (pi_range1 (by rfl) B.range (pa_cons (pe_fld (pv 0) rfl) pa_nil)) (pg_name (i := 2) nd rfl (Or.inl rfl))
    (pss_cons (ps_set (i := 3) nd rfl (Or.inr rfl) (pe_gm (pv 0) T.cl GM_walked hr (pa_cons (pv 2) pa_nil)))
    (pss_one (ps_expr (pe_bm PySem.F.plainAttrs_list PySem.F.slot_list_append PySem.F.type_list_append mt_append (pv 1) (pa_cons (pe_lc (own := [("other", 4)]) (g := gName 4) (tt := tYes) rfl nd (pi_range1 (by rfl) B.range (pa_cons (pe_fld (pv 0) rfl) pa_nil)) (blkOk_by (N := ["tree", "found", "one", "walked", "other"]) (sc := defScope S_distances) (by decide +kernel)) (fun _ _ _ _ _ => (pg_name (i := 4) nd rfl (Or.inl rfl))) (fun _ _ _ _ _ => pts_nil) (fun _ _ _ _ _ => (pe_ix (ix_tupK K) (pe_dget hu (pv 3) (pv 4) (fun _ _ => rfl)) pe_int (fun _ _ => rfl)))) pa_nil))))))
    (pss_one (ps_ret (pv 1))))), ?_⟩
    obtain ⟨dx, r, h1⟩ := tree_ins hA
    refine ⟨Nat.zero_le _, fun l hl => ?_⟩
    have s1 : Same H (upd H l (.lst [])) := Same.new hl
    refine ⟨_, rfl, t, C, dx, _, _, rfl, s1 _ _ h1, T.cl, T.nS, tfs_size _ _, (n : Int), rfl, by omega, by omega, for_range (lo := 0) (n := n) (fun i σ' H' => ∃ (xs : List V) (v2 v3 : Option V), σ' = [some (.ref t), some (.ref l), v2, v3, none] ∧ Same H H' ∧ H' l = some (.lst xs) ∧
      Paired (fun (row : List Int) v => ∃ a, v = .ref a ∧ H a = none ∧ a ≠ l ∧ H' a = some (.lst (row.map V.int))) ((rowsD n rs).take i) xs) ⟨[], none, none, rfl, s1, upd_same, .nil⟩ ?_ ?_⟩
    · rintro i σ' H2 hi ⟨xs, v2, v3, rfl, s2, hL, hP⟩
      have hi0 : (0 : Int) ≤ 0 + (i : Int) ∧ (0 : Int) + (i : Int) < n := ⟨by omega, by omega⟩
      refine ⟨_, rfl, t, dx, _, rfl, s2 _ _ h1, tfs_no _ _ (by decide +kernel) (by decide +kernel), _, rfl, t, n, rs, _, rfl, hA.same s2, hT.toRoadsOk, hT.le, hi0.1, hi0.2, fun d H3 hd s3 hF => ?_⟩
      have hL3 := s3 _ _ hL
      have s13 := s2.trans s3
      refine ⟨_, rfl, .inl ⟨rfl, _, SqL.of hL3⟩, ?_⟩
      refine lc_at (Itr 0 n) (fun R hR => ⟨_, rfl, t, C, dx, _, _, rfl, s13 _ _ h1, T.cl, T.nS, tfs_size _ _, (n : Int), rfl, by omega, by omega, hR⟩) ?_
      refine lcr (lo := 0) (n := n) (by omega) (fun _ => true) (fun j => .int (D n rs (0 + (i : Int)) (0 + (j : Int)))) (fun j hj H4 s4 Yes No hy _ => ?_) (fun D' H4 hD' s4 hD4 => ?_)
      · refine turn_all ?_
        obtain ⟨p, hlk⟩ := look_dOf ((hT.walked hi0).all (0 + (j : Int)) (by omega) (by omega))
        obtain ⟨tt, hg, ht⟩ := found_get (hF.same s4) hlk
        exact ⟨_, rfl, _, rfl, d, _, rfl, hg, tt, _, 1, _, rfl, rfl, SqT.of ht, rfl, hy rfl H4 (Same.refl _)⟩
      · have hrow : ((List.range n).filter fun _ => true).map (fun (j : Nat) => V.int (D n rs (0 + (i : Int)) (0 + (j : Int)))) = (rowD n rs (i : Int)).map V.int := by
          rw [List.filter_eq_self.mpr fun _ _ => rfl]
          simp [rowD, ivs, List.map_map, Function.comp_def]
        rw [hrow] at hD4
        have hL4 := s4 _ _ hL3
        have neD : D' ≠ l := (ne_of_none hL3 hD').symm
        refine ⟨l, _, _, rfl, rfl, hL4, ?_, ?_⟩
        · have := hP.length
          rw [List.length_take] at this
          exact szl (by omega)
        · refine ⟨xs ++ [.ref D'], _, _, rfl, Same.mut (s13.trans s4) hl, upd_same, ?_⟩
          have et : (rowsD n rs).take (i + 1) = (rowsD n rs).take i ++ [rowD n rs (i : Int)] := by
            rw [List.take_add_one]
            congr 1
            simp [rowsD, ivs, hi]
          rw [et]
          refine paired_snoc (Paired.mapP hP fun row v ⟨a, e1, e2, e3, e4⟩ => ⟨a, e1, e2, e3, by rw [upd_ne e3]; exact s4 _ _ (s3 _ _ e4)⟩) ⟨D', rfl, s13.free hD', neD, by rw [upd_ne neD]; exact hD4⟩
    · rintro σ' H2 ⟨xs, v2, v3, rfl, s2, hL, hP⟩
      have e : ((n : Int) - 0).toNat = n := by omega
      rw [show (rowsD n rs).take n = rowsD n rs from List.take_of_length_le (by simp [rowsD, ivs])] at hP
      exact ⟨_, rfl, k l H2 hl s2 ⟨xs, hL, hP⟩⟩
end
end Wr

namespace Wr
open PySem L2
local macro_rules | `(tactic| walk_at "rd") => `(tactic| first | (refine ⟨_, rfl, ?_⟩; walk_at "rd") | (refine ⟨_, _, rfl, rfl, ?_⟩; walk_at "rd") | skip)
section
variable {P : Program} {w : World} {K : PySem.W.Frag} {mg : Str → Option Value} {base : Heap}

def spCell (K : PySem.W.Frag) : Sp := fun vs H Q _ => ∃ (a : Addr) (ns : List Int) (k : Nat), vs = [.ref a, .int k] ∧ SqL K H a (ns.map V.int) ∧ Q (.int (cellV ns k)) H
-- slots: 0:_law_script, 1:_law_k
theorem sc_law_cell_at : FnScope ["_law_script", "_law_k"] ["_law_script", "_law_k"] (defScope S_law_cell_at) := ⟨rfl, rfl, rfl, by decide +kernel, rfl, by decide +kernel, by decide +kernel⟩
theorem ok_cell {f : Addr} {fd : FuncData} (F : Fun K "_law_cell_at" "_law_cell_at" S_law_cell_at f fd) (B : Bi mg) : FnOk P w K mg base CX0 1 f fd ["_law_script", "_law_k"] (spCell K) := by
  refine F.ok sc_law_cell_at (fun vs H Q E h => ?_) (fun cdv A outer s H vs Q E hr h => ?_)
  · obtain ⟨a, ns, k, rfl, _⟩ := h
    rfl
  · obtain ⟨a, ns, k, rfl, hS, q⟩ := h
    refine ⟨_, (pss_cons (ps_if (pt_cmpR op_lt (pv 1) (pe_callB call_len_seq (by rfl) B.len (by decide +kernel) (pa_cons (pv 0) pa_nil)) (nomark _))
    (pss_one (ps_ret (pe_ix ix_list (pv 0) (pv 1) (fun _ _ => rfl)))) pss_nil)
    (pss_one (ps_ret pe_int))), ?_⟩
    refine ⟨_, rfl, _, rfl, a, _, rfl, .inl hS, _, _, rfl, rfl, _, rfl, ?_⟩
    rw [List.length_map]
    by_cases hk : k < ns.length
    · rw [decide_eq_true (show (k : Int) < (ns.length : Int) by omega)]
      refine iteT ?_
      refine ⟨_, rfl, _, rfl, a, _, k, .int (cellV ns k), rfl, rfl, hS, atI_nat ?_, q⟩
      rw [List.getElem?_map]
      unfold cellV
      rw [List.getD_eq_getElem?_getD, List.getElem?_eq_getElem hk]
      rfl
    · rw [decide_eq_false (show ¬ (k : Int) < (ns.length : Int) by omega)]
      refine iteF ?_
      have e : cellV ns k = 0 := by
        unfold cellV
        rw [List.getD_eq_getElem?_getD, List.getElem?_eq_none_iff.mpr (by omega)]
        rfl
      rw [e] at q
      exact q

def spDraw : Sp := fun vs H Q _ => ∃ (c k m : Int), vs = [.int c, .int k, .int m] ∧ 0 < m ∧ 0 ≤ k ∧ k ≤ 1000 ∧ ∀ H', Same H H' → Q (.int (draw c k m)) H'
-- slots: 0:_law_cell, 1:_law_k, 2:_law_many, 3:_law_primes, 4:_law_blend
theorem sc_law_draw : FnScope ["_law_cell", "_law_k", "_law_many", "_law_primes", "_law_blend"] ["_law_cell", "_law_k", "_law_many"] (defScope S_law_draw) := ⟨rfl, rfl, rfl, by decide +kernel, rfl, by decide +kernel, by decide +kernel⟩
theorem ok_draw {f : Addr} {fd : FuncData} (F : Fun K "_law_draw" "_law_draw" S_law_draw f fd) : FnOk P w K mg base CX0 1 f fd ["_law_cell", "_law_k", "_law_many"] spDraw := by
  refine F.ok sc_law_draw (fun vs H Q E h => ?_) (fun cdv A outer s H vs Q E hr h => ?_)
  · obtain ⟨c, k, m, rfl, _⟩ := h
    rfl
  · obtain ⟨c, k, m, rfl, hm, hk0, hk1, q⟩ := h
    have nd := sc_law_draw.nd
    refine ⟨_, (pss_cons (ps_set (i := 3) nd rfl (Or.inl rfl) (pe_tup (pa_cons pe_int (pa_cons pe_int (pa_cons pe_int (pa_cons pe_int (pa_cons pe_int (pa_cons pe_int (pa_cons pe_int (pa_cons pe_int pa_nil))))))))))
    (pss_cons (ps_set (i := 4) nd rfl (Or.inl rfl) (pe_op op_add (pe_op op_add (pe_op op_mul (pv 0) pe_int) (pe_op op_mul (pv 1) pe_int)) (pe_op op_mul (pe_op op_mod (pe_op op_fdiv (pv 0) pe_int) pe_int) pe_int)))
    (pss_one (ps_ret (pe_op op_mod (pe_op op_mod (pv 4) (pe_ix ix_tup (pv 3) (pe_op op_mod (pv 1) pe_int) (fun _ _ => rfl))) (pv 2)))))), ?_⟩
    refine ⟨by show 8 ≤ sizeLine; decide, fun p hp => ?_⟩
    refine ⟨_, rfl, _, _, rfl, rfl, .inr ⟨by decide, by decide⟩, _, rfl, _, _, rfl, rfl, .inr ⟨by decide, by decide⟩, _, _, rfl, rfl, _, rfl, _, _, rfl, rfl, ⟨by decide, by decide⟩, _, _, rfl, rfl, (by show (0 : Int) < 1000003; decide), _, _, rfl, rfl, .inr ⟨by decide, by decide⟩, _, _, rfl, rfl, ?_⟩
    have h1 := Int.emod_nonneg k (show (8 : Int) ≠ 0 by decide)
    have h2 := Int.emod_lt_of_pos k (show (0 : Int) < 8 by decide)
    have hl : (k % 8).toNat < primes.length := by simp [primes]; omega
    have hat : atI (primes.map V.int) (k % 8) = some (.int (primes.getD (k % 8).toNat 1)) := by
      have e : k % 8 = ((k % 8).toNat : Int) := by omega
      rw [e]
      refine atI_nat ?_
      rw [List.getElem?_map, Int.toNat_natCast, List.getD_eq_getElem?_getD, List.getElem?_eq_getElem hl]
      rfl
    have hpp : 0 < primes.getD (k % 8).toNat 1 := by
      have hm := getD_mem4 (d := 1) hl
      generalize primes.getD (k % 8).toNat 1 = z at hm
      simp only [primes, List.mem_cons, List.not_mem_nil, or_false] at hm
      omega
    refine ⟨_, rfl, _, rfl, _, rfl, _, _, rfl, rfl, (by show (0 : Int) < 8; decide), p, _, _, _, rfl, rfl, SqT.of upd_same, hat, _, _, rfl, rfl, hpp, _, rfl, _, _, rfl, rfl, hm, ?_⟩
    exact q _ (Same.new hp)

def spName : Sp := fun vs H Q _ => ∃ (k n t : Int), vs = [.int k, .int n, .int t] ∧ 0 ≤ k ∧ k ≤ 1000 ∧ t ∈ turns ∧ Q (.int (nameV k n t)) H
-- slots: 0:_law_k, 1:_law_villages, 2:_law_turn
theorem sc_law_name : FnScope ["_law_k", "_law_villages", "_law_turn"] ["_law_k", "_law_villages", "_law_turn"] (defScope S_law_name) := ⟨rfl, rfl, rfl, by decide +kernel, rfl, by decide +kernel, by decide +kernel⟩
theorem ok_name {f : Addr} {fd : FuncData} (F : Fun K "_law_name" "_law_name" S_law_name f fd) : FnOk P w K mg base CX0 1 f fd ["_law_k", "_law_villages", "_law_turn"] spName := by
  refine F.ok sc_law_name (fun vs H Q E h => ?_) (fun cdv A outer s H vs Q E hr h => ?_)
  · obtain ⟨k, n, t, rfl, _⟩ := h
    rfl
  · obtain ⟨k, n, t, rfl, hk0, hk1, ht, q⟩ := h
    have tp : 0 < t := by simp [turns] at ht; omega
    refine ⟨_, (pss_cons (ps_if (PW.pt (pw_and (pt_cmpR op_gt (pv 1) pe_int (nomark _)) (pw_and1 (PW.pt (pw_or (pt_cmpR op_eq (pv 2) pe_int (nomark _)) (pw_or1 (pt_cmpR op_ne (pe_op op_mod (pv 1) (pv 2)) pe_int (nomark _))))))))
    (pss_one (ps_ret (pe_op op_mod (pe_op op_mul (pv 0) (pv 2)) (pv 1)))) pss_nil)
    (pss_one (ps_ret (pv 0)))), ?_⟩
    unfold nameV at q
    refine ⟨_, rfl, _, _, rfl, rfl, _, rfl, ?_⟩
    by_cases c1 : 1 < n
    · rw [decide_eq_true c1]
      refine iteT ?_
      refine ⟨_, rfl, rfl, _, rfl, ?_⟩
      rw [dec_int]
      by_cases c2 : t = 1
      · subst c2
        refine iteT ?_
        refine iteT ?_
        rw [if_pos ⟨c1, .inl rfl⟩] at q
        exact ⟨_, rfl, _, rfl, _, _, rfl, rfl, .inl ⟨by omega, by omega⟩, _, rfl, _, _, rfl, rfl, (by omega), q⟩
      · rw [show (t == 1) = false by simpa using c2]
        refine iteF ?_
        refine ⟨_, rfl, _, rfl, _, _, rfl, rfl, tp, rfl, _, rfl, ?_⟩
        rw [dec_int]
        by_cases c3 : n % t = 0
        · rw [show (n % t == 0) = true by simpa using c3]
          refine iteF ?_
          rw [if_neg (by rintro ⟨_, z | z⟩; exact c2 z; exact z c3)] at q
          exact ⟨_, rfl, q⟩
        · rw [show (n % t == 0) = false by simpa using c3]
          refine iteT ?_
          rw [if_pos ⟨c1, .inr c3⟩] at q
          exact ⟨_, rfl, _, rfl, _, _, rfl, rfl, .inl ⟨by omega, by omega⟩, _, rfl, _, _, rfl, rfl, (by omega), q⟩
    · rw [decide_eq_false c1]
      refine iteF ?_
      rw [if_neg (fun z => c1 z.1)] at q
      exact ⟨_, rfl, q⟩
end
end Wr

namespace Wr
open PySem L2
section
variable {P : Program} {w : World} {K : PySem.W.Frag} {mg : Str → Option Value} {base : Heap}

/-- what told hands back: a tuple of n and a list of roads -/
def ToldAt (H : Hp) (t l : Addr) (n : Nat) (rs : List Road) : Prop := ∃ us, H t = some (.tup [.int n, .ref l]) ∧ H l = some (.lst us) ∧ RoadsAt H rs us
theorem ToldAt.same {H H' : Hp} {t l : Addr} {n : Nat} {rs : List Road} (e : Same H H') (h : ToldAt H t l n rs) : ToldAt H' t l n rs :=
  let ⟨us, h1, h2, h3⟩ := h
  ⟨us, e _ _ h1, e _ _ h2, h3.same e⟩
def spTold (K : PySem.W.Frag) : Sp := fun vs H Q _ => ∃ (a : Addr) (ns : List Int) (first : Nat) (most : Int), vs = [.ref a, .int first, .int most] ∧ SqL K H a (ns.map V.int) ∧ 1 ≤ most ∧ most ≤ 12 ∧
  ∀ t l H', H t = none → H l = none → Same H H' → ToldAt H' t l (told (cellV ns first) (cellV ns (first + 1)) most).1 (told (cellV ns first) (cellV ns (first + 1)) most).2 → Q (.ref t) H'
theorem menu_at {l : List Int} {i : Int} (h0 : 0 ≤ i) (h1 : i < l.length) : atI (l.map V.int) i = some (.int (l.getD i.toNat 0)) := by
  have e : i = (i.toNat : Int) := by omega
  have hl : i.toNat < l.length := by omega
  rw [e]
  refine atI_nat ?_
  rw [List.getElem?_map, Int.toNat_natCast, List.getD_eq_getElem?_getD, List.getElem?_eq_getElem hl]
  rfl
theorem RoadsAt.upd {H : Hp} {l : Addr} {xs ys us : List V} {rs : List Road} (h : RoadsAt H rs us) (hl : H l = some (.lst xs)) : RoadsAt (upd H l (.lst ys)) rs us :=
  Paired.mapP h fun _ _ ⟨t, e1, e2⟩ => ⟨t, e1, keepU e2 hl (by intro z; cases z)⟩
theorem paired_app {α β : Type} {F : α → β → Prop} : ∀ {l₁ l₂ : List α} {m₁ m₂ : List β}, Paired F l₁ m₁ → Paired F l₂ m₂ → Paired F (l₁ ++ l₂) (m₁ ++ m₂)
  | _, _, _, _, .nil, h => h
  | _, _, _, _, .cons x r, h => .cons x (paired_app r h)
theorem paired_take {α β : Type} {F : α → β → Prop} : ∀ (n : Nat) {l : List α} {m : List β}, Paired F l m → Paired F (l.take n) (m.take n)
  | 0, _, _, _ => .nil
  | _ + 1, _, _, .nil => .nil
  | n + 1, _, _, .cons x r => .cons x (paired_take n r)
theorem paired_drop {α β : Type} {F : α → β → Prop} : ∀ (n : Nat) {l : List α} {m : List β}, Paired F l m → Paired F (l.drop n) (m.drop n)
  | 0, _, _, h => h
  | _ + 1, _, _, .nil => .nil
  | n + 1, _, _, .cons _ r => paired_drop n r
theorem paired_ins {α β : Type} {F : α → β → Prop} {l : List α} {m : List β} {p : Int} {x : α} {y : β} (h : Paired F l m) (hx : F x y) : Paired F (ins l p x) (ins m p y) :=
  paired_app (paired_app (paired_take _ h) (.cons hx .nil)) (paired_drop _ h)
-- slots: 0:_law_script, 1:_law_first, 2:_law_most, 3:_law_cell, 4:_law_other, 5:_law_villages, 6:_law_greatest, 7:_law_turn, 8:_law_roads, 9:_law_k, 10:_law_above, 11:_law_ends, 12:_law_road
theorem sc_law_told : FnScope ["_law_script", "_law_first", "_law_most", "_law_cell", "_law_other", "_law_villages", "_law_greatest", "_law_turn", "_law_roads", "_law_k", "_law_above", "_law_ends", "_law_road"] ["_law_script", "_law_first", "_law_most"] (defScope S_law_told) := ⟨rfl, rfl, rfl, by decide +kernel, rfl, by decide +kernel, by decide +kernel⟩
theorem ok_told {f : Addr} {fd : FuncData} (F : Fun K "_law_told" "_law_told" S_law_told f fd) (B : Bi mg) (G_law_cell_at : Gd P w K mg base 1 "_law_cell_at" ["_law_script", "_law_k"] (spCell K)) (G_law_draw : Gd P w K mg base 1 "_law_draw" ["_law_cell", "_law_k", "_law_many"] spDraw)
    (G_law_name : Gd P w K mg base 1 "_law_name" ["_law_k", "_law_villages", "_law_turn"] spName) : FnOk P w K mg base CX0 2 f fd ["_law_script", "_law_first", "_law_most"] (spTold K) := by
  refine F.ok sc_law_told (fun vs H Q E h => ?_) (fun cdv A outer s H vs Q E hr h => ?_)
  · obtain ⟨a, ns, first, most, rfl, _⟩ := h
    rfl
  · obtain ⟨a, ns, first, most, rfl, hS, hm1, hm2, k⟩ := h
    have nd := sc_law_told.nd
    refine ⟨_, (pss_cons (ps_set (i := 3) nd rfl (Or.inl rfl) (pe_g G_law_cell_at hr rfl (pa_cons (pv 0) (pa_cons (pv 1) pa_nil))))
    (pss_cons (ps_set (i := 4) nd rfl (Or.inl rfl) (pe_g G_law_cell_at hr rfl (pa_cons (pv 0) (pa_cons (pe_op op_add (pv 1) pe_int) pa_nil))))
    (pss_cons (ps_set (i := 5) nd rfl (Or.inl rfl) (pe_op op_add pe_int (pe_op op_mod (pv 3) (pe_callB (call_min2 rfl) (by rfl) B.min (by decide +kernel) (pa_cons (pv 2) (pa_cons pe_int pa_nil))))))
    (C8.pss_cut (ps_if (pt_cmpR op_eq (pe_op op_mod (pe_op op_fdiv (pv 3) pe_int) pe_int) pe_int (nomark _))
    (pss_one (ps_set (i := 5) nd rfl (Or.inl rfl) (pe_op op_add pe_int (pe_op op_mod (pe_op op_fdiv (pv 3) pe_int) (pv 2))))) pss_nil)
    (pss_cons (ps_set (i := 6) nd rfl (Or.inl rfl) (pe_ix ix_tup (pe_tup (pa_cons pe_int (pa_cons pe_int (pa_cons pe_int (pa_cons pe_int pa_nil))))) (pe_op op_mod (pe_op op_fdiv (pv 3) pe_int) pe_int) (fun _ _ => rfl)))
    (pss_cons (ps_set (i := 7) nd rfl (Or.inl rfl) (pe_ix ix_tup (pe_tup (pa_cons pe_int (pa_cons pe_int (pa_cons pe_int (pa_cons pe_int pa_nil))))) (pe_op op_mod (pe_op op_fdiv (pv 3) pe_int) pe_int) (fun _ _ => rfl)))
    (pss_cons (ps_set (i := 8) nd rfl (Or.inl rfl) (pe_lst pa_nil))
    (pss_cons (ps_for PassesOwn.never rfl (pi_range2 (by rfl) B.range (pa_cons pe_int (pa_cons (pv 5) pa_nil))) (pg_name (i := 9) nd rfl (Or.inl rfl))
    (pss_cons (ps_set (i := 10) nd rfl (Or.inl rfl) (pe_g G_law_draw hr rfl (pa_cons (pv 4) (pa_cons (pv 9) (pa_cons (pv 9) pa_nil)))))
    (C8.pss_cut (ps_if (pt_cmpR op_eq (pe_op op_mod (pe_op op_fdiv (pv 3) pe_int) pe_int) pe_int (nomark _))
    (pss_one (ps_set (i := 10) nd rfl (Or.inl rfl) (pe_callB (call_max2 rfl) (by rfl) B.max (by decide +kernel) (pa_cons pe_int (pa_cons (pe_op op_sub (pe_op op_sub (pv 9) pe_int) (pe_g G_law_draw hr rfl (pa_cons (pv 4) (pa_cons (pv 9) (pa_cons pe_int pa_nil))))) pa_nil))))) pss_nil)
    (pss_cons (ps_set (i := 11) nd rfl (Or.inl rfl) (pe_tup (pa_cons (pe_g G_law_name hr rfl (pa_cons (pv 9) (pa_cons (pv 5) (pa_cons (pv 7) pa_nil)))) (pa_cons (pe_g G_law_name hr rfl (pa_cons (pv 10) (pa_cons (pv 5) (pa_cons (pv 7) pa_nil)))) pa_nil))))
    (C8.pss_cut (ps_if (pt_cmpR op_eq (pe_g G_law_draw hr rfl (pa_cons (pv 4) (pa_cons (pe_op op_add (pv 9) pe_int) (pa_cons pe_int pa_nil)))) pe_int (nomark _))
    (pss_one (ps_set (i := 11) nd rfl (Or.inl rfl) (pe_tup (pa_cons (pe_ix ix_tup (pv 11) pe_int (fun _ _ => rfl)) (pa_cons (pe_ix ix_tup (pv 11) pe_int (fun _ _ => rfl)) pa_nil))))) pss_nil)
    (pss_cons (ps_set (i := 12) nd rfl (Or.inl rfl) (pe_tup (pa_cons (pe_ix ix_tup (pv 11) pe_int (fun _ _ => rfl)) (pa_cons (pe_ix ix_tup (pv 11) pe_int (fun _ _ => rfl)) (pa_cons (pe_op op_add pe_int (pe_g G_law_draw hr rfl (pa_cons (pv 4) (pa_cons (pe_op op_add (pv 9) pe_int) (pa_cons (pv 6) pa_nil))))) pa_nil)))))
    (pss_one (ps_expr (pe_bm PySem.F.plainAttrs_list PySem.F.slot_list_insert PySem.F.type_list_insert mt_insert (pv 8) (pa_cons (pe_g G_law_draw hr rfl (pa_cons (pv 4) (pa_cons (pe_op op_add (pv 9) pe_int) (pa_cons (pe_op op_add (pe_callB call_len_seq (by rfl) B.len (by decide +kernel) (pa_cons (pv 8) pa_nil)) pe_int) pa_nil)))) (pa_cons (pv 12) pa_nil)))))))))))
    (pss_one (ps_ret (pe_tup (pa_cons (pv 5) (pa_cons (pv 8) pa_nil))))))))))))), ?_⟩
    generalize hce : cellV ns first = cell at k
    generalize hot : cellV ns (first + 1) = other at k
    have hmin : 0 < min2 most 7 := by unfold min2; split <;> omega
    refine ⟨_, rfl, _, rfl, a, ns, first, rfl, hS, ?_⟩
    refine ⟨_, rfl, _, rfl, _, _, rfl, rfl, a, ns, first + 1, rfl, hS, ?_⟩
    rw [hce, hot]
    refine ⟨_, rfl, _, rfl, _, _, rfl, _, _, rfl, rfl, hmin, _, _, rfl, rfl, ?_⟩
    have hN := toldN_range (cell := cell) hm1 hm2
    refine ⟨fun σ' H' => H' = H ∧ σ' = [some (.ref a), some (.int first), some (.int most), some (.int cell), some (.int other), some (.int (toldN cell most)), none, none, none, none, none, none, none], ?_, ?_⟩
    · refine ⟨_, rfl, _, _, rfl, rfl, ⟨by decide, by decide⟩, _, _, rfl, rfl, (by show (0 : Int) < 6; decide), rfl, _, rfl, ?_⟩
      rw [dec_int]
      by_cases c : cell / 7 % 6 = 1
      · rw [show (cell / 7 % 6 == 1) = true by simpa using c]
        refine iteT ?_
        refine ⟨_, rfl, _, _, rfl, rfl, ⟨by decide, by decide⟩, _, rfl, _, _, rfl, rfl, (by omega), _, _, rfl, rfl, rfl, ?_⟩
        unfold toldN
        rw [if_pos c]
        rfl
      · rw [show (cell / 7 % 6 == 1) = false by simpa using c]
        refine iteF ?_
        refine ⟨rfl, ?_⟩
        unfold toldN
        rw [if_neg c]
        rfl
    rintro σ' H' ⟨rfl, rfl⟩
    -- greatest, turn
    refine ⟨by show 4 ≤ sizeLine; decide, fun p1 hp1 => ?_⟩
    refine ⟨_, rfl, _, _, rfl, rfl, ⟨by decide, by decide⟩, _, _, rfl, rfl, (by show (0 : Int) < 4; decide), p1, _, _, _, rfl, rfl, SqT.of upd_same, menu_at (l := greats) (Int.emod_nonneg _ (by decide)) (Int.emod_lt_of_pos _ (by decide)), ?_⟩
    have s1 := Same.new (o := .tup (greats.map V.int)) hp1
    show tSeq _ _ _ _ (upd H' p1 (.tup (greats.map V.int)))
    generalize upd H' p1 (.tup (greats.map V.int)) = H1 at s1 ⊢
    refine ⟨by show 4 ≤ sizeLine; decide, fun p2 hp2 => ?_⟩
    refine ⟨_, rfl, _, _, rfl, rfl, ⟨by decide, by decide⟩, _, _, rfl, rfl, (by show (0 : Int) < 4; decide), p2, _, _, _, rfl, rfl, SqT.of upd_same, menu_at (l := turns) (Int.emod_nonneg _ (by decide)) (Int.emod_lt_of_pos _ (by decide)), ?_⟩
    have s2 := s1.trans (Same.new (o := .tup (turns.map V.int)) hp2)
    show tSeq _ _ _ _ (upd H1 p2 (.tup (turns.map V.int)))
    generalize upd H1 p2 (.tup (turns.map V.int)) = H2 at s2 ⊢
    clear s1 hp1 hp2
    obtain ⟨N, hNe⟩ : ∃ N, N = toldN cell most := ⟨_, rfl⟩
    have ht : turnV cell ∈ turns := turn_mem cell
    have hg := great_range cell
    have kR : ∀ t l H'', H' t = none → H' l = none → Same H' H'' → ToldAt H'' t l N.toNat (toldRs cell other N (N.toNat - 1)) → Q (.ref t) H'' := by
      rw [hNe]; exact k
    show tSeq _ _ _ [some (.ref a), some (.int first), some (.int most), some (.int cell), some (.int other), some (.int (toldN cell most)), some (.int (greatV cell)), some (.int (turnV cell)), none, none, none, none, none] H2
    rw [← hNe] at hN ⊢
    clear k hNe
    generalize hge : greatV cell = gr at hg ⊢
    generalize hte : turnV cell = tn at ht ⊢
    refine ⟨Nat.zero_le _, fun l hl => ?_⟩
    have hlH : H' l = none := s2.free hl
    refine ⟨_, rfl, 1, N, rfl, ⟨by decide, by decide, by omega, by omega⟩, for_range (lo := 1) (n := (N - 1).toNat) (fun i σ' H'' => ∃ (us : List V) (v9 v10 v11 v12 : Option V),
      σ' = [some (.ref a), some (.int first), some (.int most), some (.int cell), some (.int other), some (.int N), some (.int gr), some (.int tn), some (.ref l), v9, v10, v11, v12] ∧ Same H' H'' ∧ H'' l = some (.lst us) ∧ RoadsAt H'' (toldRs cell other N i) us)
      ⟨[], none, none, none, none, rfl, s2.trans (Same.new hl), upd_same, .nil⟩ ?_ ?_⟩
    · rintro i σ' H3 hi ⟨us, v9, v10, v11, v12, rfl, s3, hL, hP⟩
      have hlen : us.length = i := by rw [← hP.length, toldRs_length]
      have hk1 : 1 ≤ 1 + (i : Int) := by omega
      have hk2 : 1 + (i : Int) ≤ 12 := by omega
      have ab := above_range cell other hk1
      obtain ⟨kk, hkk⟩ : ∃ kk, kk = 1 + (i : Int) := ⟨_, rfl⟩
      show tSeq _ _ _ [some (.ref a), some (.int first), some (.int most), some (.int cell), some (.int other), some (.int N), some (.int gr), some (.int tn), some (.ref l), some (.int (1 + (i : Int))), v10, v11, v12] H3
      rw [← hkk] at hk1 hk2 ab ⊢
      -- above
      refine ⟨_, rfl, _, rfl, _, rfl, other, kk, kk, rfl, by omega, by omega, by omega, fun H4 s4 => ?_⟩
      have hL4 := s4 _ _ hL
      have hP4 := hP.same s4
      have s04 := s3.trans s4
      refine ⟨fun σ' H'' => σ' = [some (.ref a), some (.int first), some (.int most), some (.int cell), some (.int other), some (.int N), some (.int gr), some (.int tn), some (.ref l), some (.int kk), some (.int (aboveV cell other kk)), v11, v12] ∧ Same H4 H'', ?_, ?_⟩
      · refine ⟨_, rfl, _, _, rfl, rfl, ⟨by decide, by decide⟩, _, _, rfl, rfl, (by show (0 : Int) < 3; decide), rfl, _, rfl, ?_⟩
        rw [dec_int]
        unfold aboveV
        by_cases c : cell / 192 % 3 = 0
        · rw [show (cell / 192 % 3 == 0) = true by simpa using c, if_pos c]
          refine iteT ?_
          refine ⟨_, rfl, _, _, rfl, rfl, _, rfl, _, rfl, other, kk, 2, rfl, by omega, by omega, by omega, fun H5 s5 => ?_⟩
          exact ⟨_, _, rfl, rfl, _, _, rfl, rfl, s5⟩
        · rw [show (cell / 192 % 3 == 0) = false by simpa using c, if_neg c]
          refine iteF ?_
          exact ⟨rfl, Same.refl _⟩
      rintro σ' H5 ⟨rfl, s5⟩
      -- ends
      refine ⟨_, rfl, _, rfl, _, rfl, kk, N, tn, rfl, by omega, by omega, ht, _, rfl, _, rfl, _, rfl, aboveV cell other kk, N, tn, rfl, ab.1, by omega, ht, (by show 2 ≤ sizeLine; decide), fun p hp => ?_⟩
      have s6 := s5.trans (Same.new (o := .tup [.int (nameV kk N tn), .int (nameV (aboveV cell other kk) N tn)]) hp)
      have hp6 : upd H5 p (.tup [.int (nameV kk N tn), .int (nameV (aboveV cell other kk) N tn)]) p = some (.tup [.int (nameV kk N tn), .int (nameV (aboveV cell other kk) N tn)]) := upd_same
      generalize upd H5 p (.tup [.int (nameV kk N tn), .int (nameV (aboveV cell other kk) N tn)]) = H6 at s6 hp6 ⊢
      clear s5 hp
      refine ⟨fun σ' H'' => ∃ p, σ' = [some (.ref a), some (.int first), some (.int most), some (.int cell), some (.int other), some (.int N), some (.int gr), some (.int tn), some (.ref l), some (.int kk), some (.int (aboveV cell other kk)), some (.ref p), v12] ∧ Same H4 H'' ∧
        H'' p = some (.tup [.int (toldRoad cell other N kk).a, .int (toldRoad cell other N kk).b]), ?_, ?_⟩
      · refine ⟨_, rfl, _, rfl, _, _, rfl, rfl, other, kk + 2, 2, rfl, by omega, by omega, by omega, fun H7 s7 => ?_⟩
        refine ⟨rfl, _, rfl, ?_⟩
        rw [dec_int]
        unfold toldRoad
        rw [hte]
        by_cases c : draw other (kk + 2) 2 = 0
        · rw [show (draw other (kk + 2) 2 == 0) = true by simpa using c, if_pos c]
          refine iteT ?_
          refine ⟨_, rfl, p, _, 1, _, rfl, rfl, SqT.of (s7 _ _ hp6), rfl, _, rfl, p, _, 0, _, rfl, rfl, SqT.of (s7 _ _ hp6), rfl, (by show 2 ≤ sizeLine; decide), fun q hq => ?_⟩
          exact ⟨q, rfl, (s6.trans s7).trans (Same.new hq), upd_same⟩
        · rw [show (draw other (kk + 2) 2 == 0) = false by simpa using c, if_neg c]
          refine iteF ?_
          exact ⟨p, rfl, s6.trans s7, s7 _ _ hp6⟩
      rintro σ' H7 ⟨p', rfl, s7, hp7⟩
      -- road
      refine ⟨_, rfl, p', _, 0, _, rfl, rfl, SqT.of hp7, rfl, _, rfl, p', _, 1, _, rfl, rfl, SqT.of hp7, rfl, _, rfl, _, rfl, _, _, rfl, rfl, _, rfl, other, kk + 5, gr, rfl, by omega, by omega, by omega, fun H8 s8 => ?_⟩
      refine ⟨_, _, rfl, rfl, (by show 3 ≤ sizeLine; decide), fun q hq => ?_⟩
      have hl8 := (s7.trans s8) _ _ hL4
      have s9 := (s04.trans (s7.trans s8)).trans (Same.new (o := .tup [.int (toldRoad cell other N kk).a, .int (toldRoad cell other N kk).b, .int (1 + draw other (kk + 5) gr)]) hq)
      have hq9 : upd H8 q (.tup [.int (toldRoad cell other N kk).a, .int (toldRoad cell other N kk).b, .int (1 + draw other (kk + 5) gr)]) q = some (.tup [.int (toldRoad cell other N kk).a, .int (toldRoad cell other N kk).b, .int (1 + draw other (kk + 5) gr)]) := upd_same
      have hL9 := keepN (u := .tup [.int (toldRoad cell other N kk).a, .int (toldRoad cell other N kk).b, .int (1 + draw other (kk + 5) gr)]) hl8 hq
      have hP9 := (hP4.same (s7.trans s8)).same (Same.new (o := .tup [.int (toldRoad cell other N kk).a, .int (toldRoad cell other N kk).b, .int (1 + draw other (kk + 5) gr)]) hq)
      generalize upd H8 q (.tup [.int (toldRoad cell other N kk).a, .int (toldRoad cell other N kk).b, .int (1 + draw other (kk + 5) gr)]) = H9 at s9 hq9 hL9 hP9 ⊢
      have hl10 := draw_nonneg (cell := other) (k := kk + 3) (many := (us.length : Int) + 1) (by omega)
      have hl11 := draw_lt (cell := other) (k := kk + 3) (many := (us.length : Int) + 1) (by omega)
      refine ⟨_, rfl, .inl ⟨rfl, _, SqL.of hL9⟩, _, rfl, _, rfl, _, _, rfl, rfl, _, rfl, l, _, rfl, .inl (SqL.of hL9), _, _, rfl, rfl, other, kk + 3, (us.length : Int) + 1, rfl, by omega, by omega, by omega, fun H10 s10 => ?_⟩
      have hLA := s10 _ _ hL9
      refine ⟨_, rfl, l, us, _, .ref q, rfl, rfl, hLA, szl (by omega), hl10, by omega, ?_⟩
      have hla : (toldRs cell other N i).length = us.length := hP.length
      have hroad : RoadAt H10 (toldRoad cell other N kk) (.ref q) := ⟨q, rfl, by rw [toldRoad_l, s10 _ _ hq9]; rw [show greatV cell = gr from hge]⟩
      refine ⟨ins us (draw other (kk + 3) ((us.length : Int) + 1)) (.ref q), _, _, _, _, rfl, Same.mut (s9.trans s10) hlH, upd_same, ?_⟩
      have : toldRs cell other N (i + 1) = ins (toldRs cell other N i) (draw other (kk + 3) ((us.length : Int) + 1)) (toldRoad cell other N kk) := by
        rw [hkk, ← hla]; rfl
      rw [this]
      exact RoadsAt.upd (paired_ins (hP9.same s10) hroad) hLA
    · rintro σ' H3 ⟨us, v9, v10, v11, v12, rfl, s3, hL, hP⟩
      refine ⟨_, rfl, _, rfl, (by show 2 ≤ sizeLine; decide), fun t ht => ?_⟩
      have e1 : (N - 1).toNat = N.toNat - 1 := by omega
      rw [e1] at hP
      have e2 : ((N.toNat : Nat) : Int) = N := by omega
      refine kR t l _ (s3.free ht) hlH (s3.trans (Same.new ht)) ⟨us, ?_, keepN hL ht, hP.same (Same.new ht)⟩
      rw [e2]; exact upd_same
end
end Wr

namespace Wr
open PySem L2
section
variable {P : Program} {w : World} {K : PySem.W.Frag} {mg : Str → Option Value} {base : Heap}

def gK (g : List (Int × Int)) : List (Key × V) := g.map fun e => (Sum.inl e.1, V.int e.2)
theorem gK_val (v : Int) : ∀ g : List (Int × Int), valV (gK g) (Sum.inl v : Key) = (g.lookup v).map V.int
  | [] => rfl
  | (k, x) :: g => by
    by_cases e : v = k
    · subst e
      rw [show gK ((v, x) :: g) = (Sum.inl v, V.int x) :: gK g from rfl, valV_pos rfl]
      simp [List.lookup]
    · have hb : (v == k) = false := by simpa using e
      rw [show gK ((k, x) :: g) = (Sum.inl k, V.int x) :: gK g from rfl, valV_neg (fun q => e (Sum.inl.inj q).symm), gK_val v g]
      simp [List.lookup, hb]
theorem gK_len (g : List (Int × Int)) : (gK g).length = g.length := by simp [gK]
theorem ans_din {σ : St} {H : Hp} {ta td : TE} {v : Int} {d : Addr} {kvs : List (Key × V)} (h1 : Val ta σ H (.int v)) (h2 : Val td σ H (.ref d)) (hd : H d = some (.dK kvs)) : Ans (tB (tDIn ta td)) σ H (valV kvs (Sum.inl v : Key)).isSome := by
  intro Q q
  refine h1 _ ?_
  refine h2 _ ?_
  exact ⟨d, _, rfl, DGet.k (k := Sum.inl v) hd, _, rfl, q⟩
theorem ans_dnotin {σ : St} {H : Hp} {ta td : TE} {v : Int} {d : Addr} {kvs : List (Key × V)} (h1 : Val ta σ H (.int v)) (h2 : Val td σ H (.ref d)) (hd : H d = some (.dK kvs)) : Ans (tB (tDNotIn ta td)) σ H (!(valV kvs (Sum.inl v : Key)).isSome) := by
  intro Q q
  refine h1 _ ?_
  refine h2 _ ?_
  exact ⟨d, _, rfl, DGet.k (k := Sum.inl v) hd, _, rfl, q⟩
theorem dget_int {H : Hp} {d : Addr} {g : List (Int × Int)} {v x : Int} (h : H d = some (.dK (gK g))) (l : g.lookup v = some x) : DGet H d (.int v) (some (.int x)) := by
  have := DGet.k (k := Sum.inl v) h
  rw [gK_val, l] at this
  exact this
def spRows : Sp := fun vs H Q _ => ∃ (t l : Addr) (n : Nat) (rs : List Road), vs = [.ref t] ∧ ToldAt H t l n rs ∧ IsTree n rs ∧ ∀ d H', H d = none → Same H H' → RowsAt H H' d (rowsD n rs) → Q (.ref d) H'
-- slots: 0:_law_told_here, 1:_law_rows_here, 2:_law_start, 3:_law_found*, 4:_law_turn, 5:_law_one, 6:_law_other, 7:_law_length, 8:_law_village
theorem sc_law_rows : FnScope ["_law_told_here", "_law_rows_here", "_law_start", "_law_found", "_law_turn", "_law_one", "_law_other", "_law_length", "_law_village"] ["_law_told_here"] (defScope S_law_rows) := ⟨rfl, rfl, rfl, by decide +kernel, rfl, by decide +kernel, by decide +kernel⟩
theorem ok_rows {f : Addr} {fd : FuncData} (F : Fun K "_law_rows" "_law_rows" S_law_rows f fd) (B : Bi mg) : FnOk P w K mg base CX0 1 f fd ["_law_told_here"] spRows := by
  refine F.ok sc_law_rows (fun vs H Q E h => ?_) (fun cdv A outer s H vs Q E hr h => ?_)
  · obtain ⟨t, l, n, rs, rfl, _⟩ := h
    rfl
  · obtain ⟨t, lr, n, rs, rfl, ⟨us, hT, hL0, hR⟩, tree, k⟩ := h
    have hu := hu_of hr
    have nd := sc_law_rows.nd
    have len12 := tree.le
    refine ⟨_, (pss_cons (ps_set (i := 1) nd rfl (Or.inl rfl) (pe_lst pa_nil))
    (pss_cons (ps_for PassesOwn.never rfl (pi_range1 (by rfl) B.range (pa_cons (pe_ix ix_tup (pv 0) pe_int (fun _ _ => rfl)) pa_nil)) (pg_name (i := 2) nd rfl (Or.inl rfl))
    (pss_cons (ps_set (i := 3) nd rfl (Or.inr rfl) (pe_disp (pps_cons (pv 2) pe_int pps_nil) (by rfl) (by rfl) (fun z => by cases z) (by decide)))
    (pss_cons (ps_for PassesOwn.never rfl (pi_range1 (by rfl) B.range (pa_cons (pe_ix ix_tup (pv 0) pe_int (fun _ _ => rfl)) pa_nil)) (pg_name (i := 4) nd rfl (Or.inl rfl))
    (pss_one (ps_for PassesOwn.never rfl (pi_list (pe_ix ix_tup (pv 0) pe_int (fun _ _ => rfl))) (pg_tup rfl (pgs_cons (pg_name (i := 5) nd rfl (Or.inl rfl)) (pgs_cons (pg_name (i := 6) nd rfl (Or.inl rfl)) (pgs_cons (pg_name (i := 7) nd rfl (Or.inl rfl)) pgs_nil))))
    (pss_one (ps_if (PW.pt (pw_and (pt_cmp (pc_din hu (pv 5) (pv 3))) (pw_and1 (pt_cmp (pc_dnotin hu (pv 6) (pv 3))))))
    (pss_one (ps_dput hu (pv 3) (pv 6) (pe_op op_add (pe_dget hu (pv 3) (pv 5) (fun _ _ => rfl)) (pv 7)) rfl)) (pss_one (ps_if (PW.pt (pw_and (pt_cmp (pc_din hu (pv 6) (pv 3))) (pw_and1 (pt_cmp (pc_dnotin hu (pv 5) (pv 3))))))
    (pss_one (ps_dput hu (pv 3) (pv 5) (pe_op op_add (pe_dget hu (pv 3) (pv 6) (fun _ _ => rfl)) (pv 7)) rfl)) pss_nil)))))))
    (pss_one (ps_expr (pe_bm PySem.F.plainAttrs_list PySem.F.slot_list_append PySem.F.type_list_append mt_append (pv 1) (pa_cons (pe_lc (own := [("_law_village", 8)]) (g := gName 8) (tt := tYes) rfl nd (pi_range1 (by rfl) B.range (pa_cons (pe_ix ix_tup (pv 0) pe_int (fun _ _ => rfl)) pa_nil)) (blkOk_by (N := ["_law_told_here", "_law_rows_here", "_law_start", "_law_found", "_law_turn", "_law_one", "_law_other", "_law_length", "_law_village"]) (sc := defScope S_law_rows) (by decide +kernel)) (fun _ _ _ _ _ => (pg_name (i := 8) nd rfl (Or.inl rfl))) (fun _ _ _ _ _ => pts_nil) (fun _ _ _ _ _ => (pe_dget hu (pv 3) (pv 8) (fun _ _ => rfl)))) pa_nil)))))))
    (pss_one (ps_ret (pv 1))))), ?_⟩
    refine ⟨Nat.zero_le _, fun l hl => ?_⟩
    have s1 : Same H (upd H l (.lst [])) := Same.new hl
    refine ⟨_, rfl, t, _, 0, _, rfl, rfl, SqT.of (s1 _ _ hT), rfl, (n : Int), rfl, by omega, by omega, for_range (lo := 0) (n := n) (fun i σ' H' => ∃ (xs : List V) (v2 v3 v4 v5 v6 v7 : Option V), σ' = [some (.ref t), some (.ref l), v2, v3, v4, v5, v6, v7, none] ∧ Same H H' ∧ H' l = some (.lst xs) ∧
      Paired (fun (row : List Int) v => ∃ a, v = .ref a ∧ H a = none ∧ a ≠ l ∧ H' a = some (.lst (row.map V.int))) ((rowsD n rs).take i) xs) ⟨[], none, none, none, none, none, none, rfl, s1, upd_same, .nil⟩ ?_ ?_⟩
    · rintro i σ' H2 hi ⟨xs, v2, v3, v4, v5, v6, v7, rfl, s2, hL, hP⟩
      obtain ⟨st, hst⟩ : ∃ st : Int, st = 0 + (i : Int) := ⟨_, rfl⟩
      show tSeq _ _ _ [some (.ref t), some (.ref l), some (.int (0 + (i : Int))), v3, v4, v5, v6, v7, none] H2
      rw [← hst]
      have hi0 : 0 ≤ st ∧ st < n := ⟨by omega, by omega⟩
      -- found = {start: 0}
      intro d hd
      refine ⟨_, rfl, upd_same, [(.inl st, .int 0)], rfl, (show 1 ≤ 15 by decide), ?_⟩
      have s3 : Same H2 (upd (upd H2 d (.dK [])) d (.dK (mergeK [] [(.inl st, .int 0)]))) := Same.mut (Same.new hd) hd
      have hd3 : upd (upd H2 d (.dK [])) d (.dK (mergeK [] [(.inl st, .int 0)])) d = some (.dK (gK [(st, 0)])) := upd_same
      generalize upd (upd H2 d (.dK [])) d (.dK (mergeK [] [(.inl st, .int 0)])) = H3 at s3 hd3 ⊢
      -- for turn
      refine ⟨_, rfl, t, _, 0, _, rfl, rfl, SqT.of (s3 _ _ (s2 _ _ hT)), rfl, (n : Int), rfl, by omega, by omega, for_range (lo := 0) (n := n) (fun j σ' H' => ∃ (f : Found) (v4 v5 v6 v7 : Option V), σ' = [some (.ref t), some (.ref l), some (.int st), some (.ref d), v4, v5, v6, v7, none] ∧ Same H2 H' ∧
        H' d = some (.dK (gK (prj f))) ∧ Growth rs st f ∧ relaxN rs (n - j) (prj f) = ownFound n rs st) ⟨[(st, (-1, 0))], v4, v5, v6, v7, rfl, s3, hd3, .start, rfl⟩ ?_ ?_⟩
      · rintro j σ' H4 hj ⟨f, v4, v5, v6, v7, rfl, s4, hd4, gr, hx⟩
        have hnj : n - j = (n - (j + 1)) + 1 := by omega
        rw [hnj] at hx
        unfold relaxN at hx
        refine ⟨_, rfl, t, _, 1, _, rfl, rfl, SqT.of (s4 _ _ (s2 _ _ hT)), rfl, lr, rfl, ⟨_, SqL.of (s4 _ _ (s2 _ _ hL0))⟩, for_list (K := K) (a := lr) (xs := us) (fun m σ' H' => ∃ (f' : Found) (v5 v6 v7 : Option V), σ' = [some (.ref t), some (.ref l), some (.int st), some (.ref d), some (.int (0 + (j : Int))), v5, v6, v7, none] ∧ Same H2 H' ∧
          H' d = some (.dK (gK (prj f'))) ∧ Growth rs st f' ∧ (rs.drop m).foldl relax1 (prj f') = relaxP rs (prj f)) ⟨f, v5, v6, v7, rfl, s4, hd4, gr, rfl⟩ (fun m σ' H' _ ⟨_, _, _, _, _, s', _⟩ => SqL.of (s' _ _ (s2 _ _ hL0))) ?_ ?_⟩
        · rintro m x σ' H5 hxm ⟨f', v5, v6, v7, rfl, s5, hd5, gr', hfold⟩
          obtain ⟨rd, hrd, tt, rfl, htt⟩ := paired_get' hR hxm
          have hdr : rs.drop m = rd :: rs.drop (m + 1) := by
            obtain ⟨hi, e⟩ := List.getElem?_eq_some_iff.mp hrd
            rw [List.drop_eq_getElem_cons hi, e]
          rw [hdr, List.foldl_cons] at hfold
          obtain ⟨f'', gr'', er, _⟩ := relax1_growth gr' (List.mem_of_getElem? hrd)
          have glen := gr'.length_le tree.toRoadsOk hi0
          have plen : (gK (prj f')).length ≤ 1000 := by rw [gK_len, prj_len]; omega
          refine ⟨tt, _, rfl, SqT.of (s5 _ _ (s2 _ _ htt)), rfl, _, _, rfl, _, _, rfl, _, _, rfl, rfl, ?_⟩
          refine st_if (ans_and2 (ans_din (v := rd.a) (d := d) (val_var rfl) (val_var rfl) hd5) (ans_dnotin (v := rd.b) (d := d) (val_var rfl) (val_var rfl) hd5)) (fun c => ?_) (fun c => ?_)
          · rw [gK_val, gK_val] at c
            cases la : (prj f').lookup rd.a with
            | none => rw [la] at c; cases c
            | some da =>
            cases lb : (prj f').lookup rd.b with
            | some db => rw [la, lb] at c; cases c
            | none =>
            have e1 : relax1 (prj f') rd = prj f' ++ [(rd.b, da + rd.l)] := by unfold relax1; rw [la, lb]
            refine ⟨_, rfl, _, rfl, d, _, rfl, dget_int hd5 la, _, rfl, _, _, rfl, rfl, _, rfl, _, rfl, d, _, rfl, DPut.k (k := Sum.inl rd.b) hd5 (szl plen), ?_⟩
            refine ⟨f'', _, _, _, rfl, Same.mut s5 hd, ?_, gr'', by rw [← er]; exact hfold⟩
            rw [upd_same, putK_new _ (by rw [gK_val, lb]; rfl), ← er, e1]
            simp [gK]
          refine st_if (ans_and2 (ans_din (v := rd.b) (d := d) (val_var rfl) (val_var rfl) hd5) (ans_dnotin (v := rd.a) (d := d) (val_var rfl) (val_var rfl) hd5)) (fun c2 => ?_) (fun c2 => ?_)
          · rw [gK_val, gK_val] at c2
            cases lb : (prj f').lookup rd.b with
            | none => rw [lb] at c2; cases c2
            | some db =>
            cases la : (prj f').lookup rd.a with
            | some da => rw [la, lb] at c2; cases c2
            | none =>
            have e1 : relax1 (prj f') rd = prj f' ++ [(rd.a, db + rd.l)] := by unfold relax1; rw [la, lb]
            refine ⟨_, rfl, _, rfl, d, _, rfl, dget_int hd5 lb, _, rfl, _, _, rfl, rfl, _, rfl, _, rfl, d, _, rfl, DPut.k (k := Sum.inl rd.a) hd5 (szl plen), ?_⟩
            refine ⟨f'', _, _, _, rfl, Same.mut s5 hd, ?_, gr'', by rw [← er]; exact hfold⟩
            rw [upd_same, putK_new _ (by rw [gK_val, la]; rfl), ← er, e1]
            simp [gK]
          · have e1 : relax1 (prj f') rd = prj f' := by
              rw [gK_val, gK_val] at c c2
              unfold relax1
              cases la : (prj f').lookup rd.a <;> cases lb : (prj f').lookup rd.b <;> simp_all
            refine ⟨f', _, _, _, rfl, s5, hd5, gr', ?_⟩
            rw [← hfold, e1]
        · rintro σ' H5 ⟨f', v5, v6, v7, rfl, s5, hd5, gr', hfold⟩
          rw [show us.length = rs.length from hR.length.symm, List.drop_length] at hfold
          have hfold : prj f' = relaxP rs (prj f) := hfold
          exact ⟨f', _, v5, v6, v7, rfl, s5, hd5, gr', by rw [hfold]; exact hx⟩
      · rintro σ' H4 ⟨f, v4, v5, v6, v7, rfl, s4, hd4, gr, hx⟩
        rw [Nat.sub_self] at hx
        have hx : prj f = ownFound n rs st := hx
        rw [hx] at hd4
        have hL4 := s4 _ _ hL
        have s04 := s2.trans s4
        refine ⟨_, rfl, .inl ⟨rfl, _, SqL.of hL4⟩, ?_⟩
        refine lc_at (Itr 0 n) (fun R hR => ⟨_, rfl, t, _, 0, _, rfl, rfl, SqT.of (s04 _ _ hT), rfl, (n : Int), rfl, by omega, by omega, hR⟩) ?_
        refine lcr (lo := 0) (n := n) (by omega) (fun _ => true) (fun j => .int (D n rs st (0 + (j : Int)))) (fun j hj H5 s5 Yes No hy _ => ?_) (fun D' H5 hD' s5 hD5 => ?_)
        · refine turn_all ?_
          refine ⟨_, rfl, _, rfl, d, _, rfl, dget_int (s5 _ _ hd4) (ownFound_look tree hi0 (v := 0 + (j : Int)) ⟨by omega, by omega⟩), hy rfl H5 (Same.refl _)⟩
        · have hrow : ((List.range n).filter fun _ => true).map (fun (j : Nat) => V.int (D n rs st (0 + (j : Int)))) = (rowD n rs st).map V.int := by
            rw [List.filter_eq_self.mpr fun _ _ => rfl]
            simp [rowD, ivs, List.map_map, Function.comp_def]
          rw [hrow] at hD5
          have hL5 := s5 _ _ hL4
          have neD : D' ≠ l := (ne_of_none hL4 hD').symm
          have hl2 : H2 l = some (.lst xs) := hL
          refine ⟨l, _, _, rfl, rfl, hL5, ?_, ?_⟩
          · have := hP.length
            rw [List.length_take] at this
            exact szl (by omega)
          · refine ⟨xs ++ [.ref D'], _, _, _, _, _, _, rfl, Same.mut (s04.trans s5) hl, upd_same, ?_⟩
            have et : (rowsD n rs).take (i + 1) = (rowsD n rs).take i ++ [rowD n rs st] := by
              rw [List.take_add_one, hst]
              congr 1
              simp [rowsD, ivs, hi]
            rw [et]
            refine paired_snoc (Paired.mapP hP fun row v ⟨a, e1, e2, e3, e4⟩ => ⟨a, e1, e2, e3, by rw [upd_ne e3]; exact s5 _ _ (s4 _ _ e4)⟩) ⟨D', rfl, s04.free hD', neD, by rw [upd_ne neD]; exact hD5⟩
    · rintro σ' H2 ⟨xs, v2, v3, v4, v5, v6, v7, rfl, s2, hL, hP⟩
      rw [show (rowsD n rs).take n = rowsD n rs from List.take_of_length_le (by simp [rowsD, ivs])] at hP
      exact ⟨_, rfl, k l H2 hl s2 ⟨xs, hL, hP⟩⟩
end
end Wr

/-! rows of distances in the heap, lists over ivs n -/
namespace Wr
open PySem L2
theorem dp_rows {K : PySem.W.Frag} {H0 H : Hp} {d : Addr} {rows : List (List Int)} (h : RowsAt H0 H d rows) : Dp K H (.ref d) (.list (rows.map fun r => PyData.list (r.map PyData.int))) := by
  obtain ⟨xs, h1, h2⟩ := h
  refine .lst (SqL.of h1) ?_
  clear h1
  induction h2 with
  | nil => exact .nil
  | cons h _ ih =>
    obtain ⟨l, rfl, _, _, hl⟩ := h
    exact .cons (dp_ilist hl) ih
theorem rows_paired {H0 H : Hp} {d : Addr} {rows : List (List Int)} (h : RowsAt H0 H d rows) : ∃ xs, H d = some (.lst xs) ∧ Paired (fun (row : List Int) v => ∃ l, v = .ref l ∧ H l = some (.lst (row.map V.int))) rows xs := by
  obtain ⟨xs, h1, h2⟩ := h
  exact ⟨xs, h1, Paired.mapP h2 fun _ _ ⟨l, a, _, _, q⟩ => ⟨l, a, q⟩⟩
theorem rowsD_len (n : Nat) (rs : List Road) : (rowsD n rs).length = n := by simp [rowsD, ivs]
theorem rowsD_ne {n : Nat} {rs : List Road} (h : 1 ≤ n) {row : List Int} (hm : row ∈ rowsD n rs) : row ≠ [] := by
  obtain ⟨s, _, rfl⟩ := List.mem_map.mp hm
  exact rowD_ne h s
theorem at_rows {H0 H : Hp} {d : Addr} {n : Nat} {rs : List Road} (h : RowsAt H0 H d (rowsD n rs)) {i : Int} (h0 : 0 ≤ i) (h1 : i < n) : ∃ xs l, H d = some (.lst xs) ∧ atI xs i = some (.ref l) ∧ H l = some (.lst ((rowD n rs i).map V.int)) := by
  obtain ⟨xs, h2, h3⟩ := h
  have hi : (rowsD n rs)[i.toNat]? = some (rowD n rs i) := by
    have : ((i.toNat : Nat) : Int) = i := by omega
    simp [rowsD, ivs, List.getElem?_map, List.getElem?_range (show i.toNat < n by omega), this]
  obtain ⟨v, hv, l, rfl, _, _, e3⟩ := paired_get h3 hi
  refine ⟨xs, l, h2, ?_, e3⟩
  have := atI_nat hv
  rwa [show ((i.toNat : Nat) : Int) = i by omega] at this
theorem at_row {n : Nat} {rs : List Road} {s i : Int} (h0 : 0 ≤ i) (h1 : i < n) : atI ((rowD n rs s).map V.int) i = some (.int (D n rs s i)) := by
  have e : ((i.toNat : Nat) : Int) = i := by omega
  have := atI_nat (xs := (rowD n rs s).map V.int) (j := i.toNat) (v := .int (D n rs s i)) (by simp [rowD, ivs, List.getElem?_map, List.getElem?_range (show i.toNat < n by omega), e])
  rwa [e] at this

/-! ### lists over ivs n -/
theorem range_ivs {n : Nat} (ok : Int → Bool) : ((List.range n).filter fun (i : Nat) => ok (i : Int)).map (fun (i : Nat) => V.int (i : Int)) = ((ivs n).filter ok).map V.int := by
  unfold ivs
  rw [List.filter_map]
  rw [List.map_map]; rfl
theorem range_ivsM {n : Nat} (g : Int → Int) : ((List.range n).filter fun (_ : Nat) => true).map (fun (i : Nat) => V.int (g (i : Int))) = ((ivs n).map g).map V.int := by
  unfold ivs
  rw [List.filter_eq_self.mpr fun _ _ => rfl, List.map_map, List.map_map]; rfl
theorem ivs_at {n : Nat} (g : Int → Int) {i : Int} (h0 : 0 ≤ i) (h1 : i < n) : atI (((ivs n).map g).map V.int) i = some (.int (g i)) := by
  have e : ((i.toNat : Nat) : Int) = i := by omega
  have := atI_nat (xs := ((ivs n).map g).map V.int) (j := i.toNat) (v := .int (g i)) (by simp [ivs, List.getElem?_map, List.getElem?_range (show i.toNat < n by omega), e])
  rwa [e] at this
theorem ints_at {p : List Int} {i : Int} (h0 : 0 ≤ i) (h1 : i < p.length) : atI (p.map V.int) i = some (.int (pk p i)) := by
  have e : ((i.toNat : Nat) : Int) = i := by omega
  have := atI_nat (xs := p.map V.int) (j := i.toNat) (v := .int (pk p i)) (by
    have := List.getElem?_eq_getElem (show i.toNat < p.length by omega)
    rw [List.getElem?_map, this]
    simp [pk, List.getD_eq_getElem?_getD, this])
  rwa [e] at this
theorem pk_bound {p : List Int} (h : ∀ x ∈ p, 0 ≤ x ∧ x ≤ 1000000) (i : Int) : 0 ≤ pk p i ∧ pk p i ≤ 1000000 := by
  unfold pk
  rw [List.getD_eq_getElem?_getD (l := p)]
  cases e : p[i.toNat]? with
  | none => simp
  | some x => exact h x (List.mem_of_getElem? e)
theorem min_turn {K : PySem.W.Frag} {row : List Int} {l : Addr} {H : Hp} {Q : VK} (h : H l = some (.lst (row.map V.int))) (hne : row ≠ []) (q : Q (.int (minL row)) H) : rMin K [.ref l] H Q := by
  refine ⟨l, row, rfl, SqL.of h, List.length_pos_iff.mpr hne, fun m hm hle => ?_⟩
  rw [minL_eq hm hle]; exact q
theorem ivs_ne {n : Nat} (h : 1 ≤ n) : ivs n ≠ [] := by
  intro e
  have := congrArg List.length e
  simp [ivs] at this
  omega
theorem ivs_len (n : Nat) : (ivs n).length = n := by simp [ivs]
end Wr

namespace Wr
open PySem L2
section
variable {P : Program} {w : World} {K : PySem.W.Frag} {mg : Str → Option Value} {base : Heap}
theorem roads_at {H : Hp} {rs : List Road} {us : List V} (hR : RoadsAt H rs us) {m : Nat} {r : Road} (h : rs[m]? = some r) : ∃ tr, us[m]? = some (.ref tr) ∧ H tr = some (.tup [.int r.a, .int r.b, .int r.l]) := by
  obtain ⟨v, hv, tr, rfl, e⟩ := paired_get hR h
  exact ⟨tr, hv, e⟩
/-- a new pair of two new lists -/
def PairAt (H0 H : Hp) (q p1 p2 : Addr) (xs ys : List Int) : Prop := H0 q = none ∧ H0 p1 = none ∧ H0 p2 = none ∧ p1 ≠ p2 ∧ H q = some (.tup [.ref p1, .ref p2]) ∧ H p1 = some (.lst (xs.map V.int)) ∧ H p2 = some (.lst (ys.map V.int))
def slotI (i : Nat) (σ : St) : Int := match σ[i]? with | some (some (V.int x)) => x | _ => 0
def spSides (C : Addr) : Sp := fun vs H Q _ => ∃ (t : Addr) (n : Nat) (rs : List Road) (i : Nat) (r : Road), vs = [.ref t, .int i] ∧ TreeAt C H t n rs ∧ IsTree n rs ∧ rs[i]? = some r ∧
  ∀ q p1 p2 H', Same H H' → PairAt H H' q p1 p2 (sideL n rs r.a r.b r.l) (sideL n rs r.b r.a r.l) → Q (.ref q) H'
-- slots: 0:tree, 1:at, 2:one, 3:other, 4:length, 5:walked, 6:beyond*, 7:village, 8:here
theorem sc_sides : FnScope ["tree", "at", "one", "other", "length", "walked", "beyond", "village", "here"] ["tree", "at"] (defScope S_sides) := ⟨rfl, rfl, rfl, by decide +kernel, rfl, by decide +kernel, by decide +kernel⟩
theorem ok_sides {f C : Addr} {fd : FuncData} (F : Fun K "sides" "sides" S_sides f fd) (T : Tx K mg C) (B : Bi mg) (G_within : Gd P w K mg base 2 "within" ["number", "low", "high"] (spWithin K)) (GM_walked : Gm P w K mg base C 1 "walked" ["self", "start"] (spWalked C)) :
    FnOk P w K mg base CX0 3 f fd ["tree", "at"] (spSides C) := by
  refine F.ok sc_sides (fun vs H Q E h => ?_) (fun cdv A outer s H vs Q E hr h => ?_)
  · obtain ⟨t, n, rs, i, r, rfl, _⟩ := h
    rfl
  · obtain ⟨t, n, rs, i, r, rfl, hA, hT, hi, k⟩ := h
    have hu := hu_of hr
    have nd := sc_sides.nd
    have n12 := hT.le
    have nlen := hT.len
    have hrm := List.mem_of_getElem? hi
    have ok := hT.ok r hrm
    have ilt := (List.getElem?_eq_some_iff.mp hi).1
    have ad : Adj rs r.a r.b r.l := ⟨r, hrm, rfl, .inl ⟨rfl, rfl⟩⟩
    have ha0 : 0 ≤ r.a ∧ r.a < n := ⟨ok.1, ok.2.1⟩
    have hb0 : 0 ≤ r.b ∧ r.b < n := ⟨ok.2.2.1, ok.2.2.2.1⟩
    refine ⟨_, (pss_cons (ps_if (pt_not (pt_val (pe_g G_within hr rfl (pa_cons (pv 1) (pa_cons pe_int (pa_cons (pe_op op_sub (pe_callB call_len_seq (by rfl) B.len (by decide +kernel) (pa_cons (pe_fld (pv 0) rfl) pa_nil)) pe_int) pa_nil))))))
    (pss_one ps_never) pss_nil)
    (pss_cons (ps_asg (pe_ix ix_list (pe_fld (pv 0) rfl) (pv 1) (fun _ _ => rfl)) (pg_tup rfl (pgs_cons (pg_name (i := 2) nd rfl (Or.inl rfl)) (pgs_cons (pg_name (i := 3) nd rfl (Or.inl rfl)) (pgs_cons (pg_name (i := 4) nd rfl (Or.inl rfl)) pgs_nil)))))
    (pss_cons (ps_set (i := 5) nd rfl (Or.inl rfl) (pe_gm (pv 0) T.cl GM_walked hr (pa_cons (pv 2) pa_nil)))
    (pss_cons (ps_set (i := 6) nd rfl (Or.inr rfl) (pe_lst pa_nil))
    (pss_cons (ps_for PassesOwn.never rfl (pi_range1 (by rfl) B.range (pa_cons (pe_fld (pv 0) rfl) pa_nil)) (pg_name (i := 7) nd rfl (Or.inl rfl))
    (pss_cons (ps_set (i := 8) nd rfl (Or.inl rfl) (pv 7))
    (pss_cons (ps_while PassesOwn.never (PW.pt (pw_and (pt_cmpR op_ne (pv 8) (pv 2) (nomark _)) (pw_and1 (pt_cmpR op_ne (pv 8) (pv 3) (nomark _)))))
    (pss_one (ps_set (i := 8) nd rfl (Or.inl rfl) (pe_ix ix_tup (pe_dget hu (pv 5) (pv 8) (fun _ _ => rfl)) pe_int (fun _ _ => rfl)))))
    (pss_one (ps_if (pt_cmpR op_eq (pv 8) (pv 3) (nomark _))
    (pss_one (ps_expr (pe_bm PySem.F.plainAttrs_list PySem.F.slot_list_append PySem.F.type_list_append mt_append (pv 6) (pa_cons (pv 7) pa_nil)))) pss_nil)))))
    (pss_one (ps_ret (pe_tup (pa_cons (pe_lc (own := [("village", 7)]) (g := gName 7) rfl nd (pi_range1 (by rfl) B.range (pa_cons (pe_fld (pv 0) rfl) pa_nil)) (blkOk_by (N := ["tree", "at", "one", "other", "length", "walked", "beyond", "village", "here"]) (sc := defScope S_sides) (by decide +kernel)) (fun _ _ _ _ _ => (pg_name (i := 7) nd rfl (Or.inl rfl))) (fun _ _ _ _ _ => (pts_one (pt_cmpR (op_notInK K) (pv 7) (pv 6) rfl))) (fun _ _ _ _ _ => (pv 7))) (pa_cons (pv 6) pa_nil)))))))))), ?_⟩
    obtain ⟨dx, rr, us, h1, h2, h3⟩ := id hA
    have rlen := h3.length
    refine ⟨_, rfl, _, rfl, t, C, dx, _, _, rfl, h1, T.cl, T.nR, tfs_rows _ _, rr, us, rfl, .inl (SqL.of h2), _, _, rfl, rfl, _, 0, _, rfl, Plain.int _, _, rfl, ?_⟩
    rw [withinV_of (by omega) (by omega)]
    refine iteF ?_
    obtain ⟨tr, e1, e2⟩ := roads_at h3 hi
    refine ⟨_, rfl, t, C, dx, _, _, rfl, h1, T.cl, T.nR, tfs_rows _ _, _, rfl, rr, us, (i : Int), _, rfl, rfl, SqL.of h2, atI_nat e1, tr, _, rfl, SqT.of e2, rfl, _, _, rfl, _, _, rfl, _, _, rfl, rfl, ?_⟩
    refine ⟨_, rfl, t, dx, _, rfl, h1, tfs_no _ _ (by decide +kernel) (by decide +kernel), _, rfl, t, n, rs, r.a, rfl, hA, hT.toRoadsOk, hT.le, ha0.1, ha0.2, fun d H1 hd s1 hF => ?_⟩
    refine ⟨Nat.zero_le _, fun bq hbq => ?_⟩
    have s2 := s1.trans (Same.new (o := .lst []) hbq)
    have hF2 := hF.same (Same.new (o := .lst []) hbq)
    have hq2 : upd H1 bq (.lst []) bq = some (.lst (([] : List Int).map V.int)) := upd_same
    have hbH : H bq = none := s1.free hbq
    generalize upd H1 bq (.lst []) = H2 at s2 hF2 hq2 ⊢
    refine ⟨_, rfl, t, C, dx, _, _, rfl, s2 _ _ h1, T.cl, T.nS, tfs_size _ _, (n : Int), rfl, by omega, by omega, for_range (lo := 0) (n := n) (fun j σ' H' => ∃ v7 v8, σ' = [some (.ref t), some (.int i), some (.int r.a), some (.int r.b), some (.int r.l), some (.ref d), some (.ref bq), v7, v8] ∧ Same H H' ∧ FoundAt H' d (walked n rs r.a) ∧
      H' bq = some (.lst ((((ivs n).take j).filter fun x => decide (D n rs r.a x = D n rs r.b x + r.l)).map V.int))) ⟨_, _, rfl, s2, hF2, by simpa using hq2⟩ ?_ ?_⟩
    · rintro j σ' H3 hj ⟨v7, v8, rfl, s3, hF3, hq3⟩
      have hj0 : 0 ≤ 0 + (j : Int) ∧ 0 + (j : Int) < n := ⟨by omega, by omega⟩
      refine ⟨_, rfl, ?_⟩
      refine while_by (fun σ' H' => H' = H3 ∧ ∃ x, σ' = [some (.ref t), some (.int i), some (.int r.a), some (.int r.b), some (.int r.l), some (.ref d), some (.ref bq), some (.int (0 + (j : Int))), some (.int x)] ∧ (0 ≤ x ∧ x < n) ∧ (D n rs r.a x = D n rs r.b x + r.l ↔ D n rs r.a (0 + (j : Int)) = D n rs r.b (0 + (j : Int)) + r.l))
        (fun σ' H' => (D n rs r.a (slotI 8 σ')).toNat) ⟨rfl, _, rfl, hj0, Iff.rfl⟩ ?_ ?_
      · rintro σ' H' ⟨rfl, x, rfl, hx, hsx⟩
        refine ⟨_, rfl, _, rfl, rfl, _, rfl, ?_⟩
        by_cases c1 : x = r.a
        · subst c1
          have e : (!decide (V.int r.a = V.int r.a)) = false := by simp
          rw [e]
          refine iteF ?_
          refine iteF ?_
          refine ⟨_, rfl, _, rfl, rfl, _, rfl, ?_⟩
          have ne : ¬ (V.int r.a = V.int r.b) := fun h => ok.2.2.2.2.1 (by injection h)
          rw [decide_eq_false ne]
          refine iteF ?_
          refine ⟨_, _, rfl, s3, hF3, ?_⟩
          have h5 := D_self hT ha0
          have h6 := D_nonneg hT hb0 ha0
          have hno : ¬ (D n rs r.a (0 + (j : Int)) = D n rs r.b (0 + (j : Int)) + r.l) := fun h => by
            have := hsx.mpr h
            omega
          rw [hq3, ivs_take hj, List.filter_append]
          have : List.filter (fun x => decide (D n rs r.a x = D n rs r.b x + r.l)) [(j : Int)] = [] := by
            rw [Int.zero_add] at hno
            simp [hno]
          rw [this, List.append_nil]
        · have e : (!decide (V.int x = V.int r.a)) = true := by
            have : ¬ (V.int x = V.int r.a) := fun h => c1 (by injection h)
            simp [this]
          rw [e]
          refine iteT ?_
          refine ⟨_, rfl, _, rfl, rfl, _, rfl, ?_⟩
          by_cases c2 : x = r.b
          · subst c2
            have e : (!decide (V.int r.b = V.int r.b)) = false := by simp
            rw [e]
            refine iteF ?_
            refine ⟨_, rfl, _, rfl, rfl, _, rfl, ?_⟩
            rw [decide_eq_true (show V.int r.b = V.int r.b from rfl)]
            refine iteT ?_
            have h5 := D_self hT hb0
            have h6 := D_edge hT ad
            have hyes : D n rs r.a (0 + (j : Int)) = D n rs r.b (0 + (j : Int)) + r.l := hsx.mp (by omega)
            refine ⟨_, rfl, .inl ⟨rfl, _, SqL.of hq3⟩, _, rfl, bq, _, _, rfl, rfl, hq3, ?_, ?_⟩
            · rw [List.length_map]
              have := List.length_filter_le (fun x => decide (D n rs r.a x = D n rs r.b x + r.l)) ((ivs n).take j)
              rw [List.length_take] at this
              exact szl (by omega)
            · refine ⟨_, _, rfl, Same.mut s3 hbH, hF3.updL hq3, ?_⟩
              rw [upd_same, ivs_take hj, List.filter_append, List.map_append]
              have : List.filter (fun x => decide (D n rs r.a x = D n rs r.b x + r.l)) [(j : Int)] = [(j : Int)] := by
                rw [Int.zero_add] at hyes
                simp [hyes]
              rw [this]
              simp
          · have e : (!decide (V.int x = V.int r.b)) = true := by
              have : ¬ (V.int x = V.int r.b) := fun h => c2 (by injection h)
              simp [this]
            rw [e]
            refine iteT ?_
            obtain ⟨p, lk, p0, plt, pside⟩ := up_side hT ad hx c1 c2
            obtain ⟨tt, hg, ht⟩ := found_get hF3 lk
            refine ⟨_, rfl, _, rfl, d, _, rfl, hg, tt, _, 0, _, rfl, rfl, SqT.of ht, rfl, ?_⟩
            refine ⟨⟨rfl, p, rfl, p0, pside.trans hsx⟩, ?_⟩
            have h6 := D_nonneg hT ha0 p0
            show (D n rs r.a p).toNat < (D n rs r.a x).toNat
            omega
      · intro σ H Q Q' hQ h
        obtain ⟨v, e, u, e', e2, b, e3, h⟩ := h
        refine ⟨v, e, u, e', e2, b, e3, ?_⟩
        split at h
        · rw [if_pos (by assumption)]
          obtain ⟨v, e, u, e', e2, b, e3, h⟩ := h
          exact ⟨v, e, u, e', e2, b, e3, hQ _ _ h⟩
        · rw [if_neg (by assumption)]
          exact hQ _ _ h
    · rintro σ' H3 ⟨v7, v8, rfl, s3, hF3, hq3⟩
      rw [List.take_of_length_le (by rw [ivs_length]; exact Nat.le_refl _)] at hq3
      refine of_nx (of_ret (of_tup ?_))
      refine lc_at (Itr 0 n) (fun R hR => ⟨_, rfl, t, C, dx, _, _, rfl, s3 _ _ h1, T.cl, T.nS, tfs_size _ _, (n : Int), rfl, by omega, by omega, hR⟩) ?_
      refine lcr (lo := 0) (n := n) (by omega) (fun m => !decide ((m : Int) ∈ sideL n rs r.b r.a r.l)) (fun m => .int (m : Int)) (fun m hm H4 s4 Yes No hy hno => ?_) (fun D' H4 hD' s4 hD4 => ?_)
      · refine turn_ifS (b := !decide ((m : Int) ∈ sideL n rs r.b r.a r.l)) (fun Q hQ => ?_) (fun c H5 s5 => ?_) (fun c H5 s5 => ?_)
        · refine ⟨_, rfl, _, rfl, bq, (sideL n rs r.b r.a r.l).map V.int, rfl, .inl (SqL.of (s4 _ _ hq3)), rfl, flat_ints _, _, rfl, ?_⟩
          rw [if_pos rfl, inV_ints, Int.zero_add]
          exact hQ H4 (Same.refl _)
        · refine ⟨_, rfl, ?_⟩
          rw [Int.zero_add]
          exact hy c H5 s5
        · exact hno c H5 s5
      · have hrow : ((List.range n).filter fun (m : Nat) => !decide ((m : Int) ∈ sideL n rs r.b r.a r.l)).map (fun (m : Nat) => V.int (m : Int)) = (sideL n rs r.a r.b r.l).map V.int := by
          rw [← side_other hT ad]
          unfold ivs
          rw [List.filter_map, List.map_map]
          rfl
        rw [hrow] at hD4
        have hq4 := s4 _ _ hq3
        refine ⟨_, rfl, by show 2 ≤ sizeLine; decide, fun q hq => ?_⟩
        have s5 := (s3.trans s4).trans (Same.new (o := .tup [.ref D', .ref bq]) hq)
        refine k q D' bq _ s5 ⟨(s3.trans s4).free hq, s3.free hD', hbH, (ne_of_none hq3 hD').symm, upd_same, keepN hD4 hq, keepN hq4 hq⟩
end
end Wr

namespace Wr
open PySem L2
section
variable {P : Program} {w : World} {K : PySem.W.Frag} {mg : Str → Option Value} {base : Heap}
def spJoined (C : Addr) : Sp := fun vs H Q _ => ∃ (t o : Addr) (n m : Nat) (rs qs : List Road) (x l : Int), vs = [.ref t, .int x, .ref o, .int l] ∧ TreeAt C H t n rs ∧ IsTree n rs ∧ TreeAt C H o m qs ∧ IsTree m qs ∧ n + m ≤ 12 ∧ (0 ≤ x ∧ x < n) ∧ (1 ≤ l ∧ l ≤ 1000000) ∧
  ∀ t' H', H t' = none → Same H H' → TreeNew C H H' t' (n + m) (joinedRs n rs x l qs) → Q (.ref t') H'
-- slots: 0:tree, 1:at, 2:other, 3:length, 4:roads, 5:one, 6:two, 7:long
theorem sc_joined : FnScope ["tree", "at", "other", "length", "roads", "one", "two", "long"] ["tree", "at", "other", "length"] (defScope S_joined) := ⟨rfl, rfl, rfl, by decide +kernel, rfl, by decide +kernel, by decide +kernel⟩
theorem ok_joined {f C : Addr} {fd : FuncData} (F : Fun K "joined" "joined" S_joined f fd) (T : Tx K mg C) (B : Bi mg) (GM_village : Gm P w K mg base C 3 "village" ["self", "at"] (spVillage C)) (GM_roads : Gm P w K mg base C 1 "roads" ["self"] (spRoads C)) (GC_Tree : Gc P w K mg base C 4 "Tree" ["self", "villages", "roads"] (spInit (K := K) C)) :
    FnOk P w K mg base CX0 6 f fd ["tree", "at", "other", "length"] (spJoined C) := by
  refine F.ok sc_joined (fun vs H Q E h => ?_) (fun cdv A outer s H vs Q E hr h => ?_)
  · obtain ⟨t, o, n, m, rs, qs, x, l, rfl, _⟩ := h
    rfl
  · obtain ⟨t, o, n, m, rs, qs, x, l, rfl, hA, hT, hO, hS, h12, hx, hl, k⟩ := h
    have nd := sc_joined.nd
    have n1 := hT.len
    have m1 := hS.len
    refine ⟨_, (pss_cons (ps_expr (pe_gm (pv 0) T.cl GM_village hr (pa_cons (pv 1) pa_nil)))
    (pss_cons (ps_set (i := 4) nd rfl (Or.inl rfl) (pe_op op_cat (pe_gm0 (pv 0) T.cl GM_roads hr) (pe_lst (pa_cons (pe_tup (pa_cons (pv 1) (pa_cons (pe_fld (pv 0) rfl) (pa_cons (pv 3) pa_nil)))) pa_nil))))
    (pss_cons (ps_for PassesOwn.never rfl (pi_list (pe_fld (pv 2) rfl)) (pg_tup rfl (pgs_cons (pg_name (i := 5) nd rfl (Or.inl rfl)) (pgs_cons (pg_name (i := 6) nd rfl (Or.inl rfl)) (pgs_cons (pg_name (i := 7) nd rfl (Or.inl rfl)) pgs_nil))))
    (pss_one (ps_expr (pe_bm PySem.F.plainAttrs_list PySem.F.slot_list_append PySem.F.type_list_append mt_append (pv 4) (pa_cons (pe_tup (pa_cons (pe_op op_add (pv 5) (pe_fld (pv 0) rfl)) (pa_cons (pe_op op_add (pv 6) (pe_fld (pv 0) rfl)) (pa_cons (pv 7) pa_nil)))) pa_nil)))))
    (pss_one (ps_ret (pe_gc GC_Tree hr rfl (pa_cons (pe_op op_add (pe_fld (pv 0) rfl) (pe_fld (pv 2) rfl)) (pa_cons (pv 4) pa_nil)))))))), ?_⟩
    obtain ⟨dx, r, h1⟩ := tree_ins hA
    refine ⟨_, rfl, t, dx, _, rfl, h1, tfs_no _ _ (by decide +kernel) (by decide +kernel), _, rfl, t, n, rs, x, rfl, hA, hx.1, hx.2, ?_⟩
    refine ⟨_, rfl, t, dx, _, rfl, h1, tfs_no _ _ (by decide +kernel) (by decide +kernel), t, n, rs, rfl, hA, fun q us H1 hq s1 hq1 hR1 => ?_⟩
    refine ⟨_, rfl, _, rfl, t, C, dx, _, _, rfl, s1 _ _ h1, T.cl, T.nS, tfs_size _ _, _, rfl, by show 3 ≤ sizeLine; decide, fun tp htp => ?_⟩
    have s2 := s1.trans (Same.new (o := .tup [.int x, .int (n : Int), .int l]) htp)
    have hq2 := keepN (u := .tup [.int x, .int (n : Int), .int l]) hq1 htp
    have hR2 := hR1.same (Same.new (o := .tup [.int x, .int (n : Int), .int l]) htp)
    have ht2 : upd H1 tp (.tup [.int x, .int (n : Int), .int l]) tp = some (.tup [.int x, .int (n : Int), .int l]) := upd_same
    generalize upd H1 tp (.tup [.int x, .int (n : Int), .int l]) = H2 at s2 hq2 hR2 ht2 ⊢
    refine ⟨by show 1 ≤ sizeLine; decide, fun p1 hp1 => ?_⟩
    have s3 := s2.trans (Same.new (o := .lst [.ref tp]) hp1)
    have hq3 := keepN (u := .lst [.ref tp]) hq2 hp1
    have hR3 := hR2.same (Same.new (o := .lst [.ref tp]) hp1)
    have ht3 := keepN (u := .lst [.ref tp]) ht2 hp1
    have hp3 : upd H2 p1 (.lst [.ref tp]) p1 = some (.lst [.ref tp]) := upd_same
    generalize upd H2 p1 (.lst [.ref tp]) = H3 at s3 hq3 hR3 ht3 hp3 ⊢
    have ul := hR3.length
    refine ⟨q, p1, us, [.ref tp], rfl, rfl, hq3, hp3, szle (by simp; omega), fun p hp => ?_⟩
    have s4 := s3.trans (Same.new (o := .lst (us ++ [.ref tp])) hp)
    have hR4 := hR3.same (Same.new (o := .lst (us ++ [.ref tp])) hp)
    have ht4 := keepN (u := .lst (us ++ [.ref tp])) ht3 hp
    have hp4 : upd H3 p (.lst (us ++ [.ref tp])) p = some (.lst (us ++ [.ref tp])) := upd_same
    have hpH : H p = none := s3.free hp
    refine of_gName (of_nx ?_)
    show tSeq _ _ _ _ (upd H3 p (.lst (us ++ [.ref tp])))
    generalize upd H3 p (.lst (us ++ [.ref tp])) = H4 at s4 hR4 ht4 hp4 ⊢
    have hR4' : RoadsAt H4 (rs ++ [⟨x, n, l⟩]) (us ++ [.ref tp]) := paired_snoc hR4 ⟨tp, rfl, ht4⟩
    obtain ⟨dxo, ro, uo, g1, g2, g3⟩ := id hO
    have ulo := g3.length
    refine ⟨_, rfl, o, C, dxo, _, _, rfl, s4 _ _ g1, T.cl, T.nR, tfs_rows _ _, ro, rfl, ⟨uo, SqL.of (s4 _ _ g2)⟩, for_list (K := K) (a := ro) (xs := uo) (fun i σ' H' => ∃ v5 v6 v7 vs, σ' = [some (.ref t), some (.int x), some (.ref o), some (.int l), some (.ref p), v5, v6, v7] ∧ Same H H' ∧ H' p = some (.lst vs) ∧ RoadsAt H' (rs ++ ⟨x, n, l⟩ :: (qs.take i).map (shiftR n)) vs)
      ⟨none, none, none, _, rfl, s4, hp4, hR4'⟩ (fun i σ' H' _ ⟨_, _, _, _, _, s5, _⟩ => SqL.of (s5 _ _ g2)) ?_ ?_⟩
    · rintro i y σ' H5 hy ⟨v5, v6, v7, vs, rfl, s5, hp5, hR5⟩
      have hi : i < uo.length := (List.getElem?_eq_some_iff.mp hy).1
      obtain ⟨rd, hrd, tr, rfl, e2⟩ := paired_get' g3 hy
      have vl := hR5.length
      refine ⟨tr, _, rfl, SqT.of (s5 _ _ e2), rfl, _, _, rfl, _, _, rfl, _, _, rfl, rfl, ?_⟩
      refine ⟨_, rfl, .inl ⟨rfl, _, SqL.of hp5⟩, _, rfl, _, rfl, t, C, dx, _, _, rfl, s5 _ _ h1, T.cl, T.nS, tfs_size _ _, _, _, rfl, rfl, _, rfl, _, rfl, t, C, dx, _, _, rfl, s5 _ _ h1, T.cl, T.nS, tfs_size _ _, _, _, rfl, rfl, _, rfl, by show 3 ≤ sizeLine; decide, fun tq htq => ?_⟩
      have s6 := s5.trans (Same.new (o := .tup [.int (rd.a + (n : Int)), .int (rd.b + (n : Int)), .int rd.l]) htq)
      have hp6 := keepN (u := .tup [.int (rd.a + (n : Int)), .int (rd.b + (n : Int)), .int rd.l]) hp5 htq
      have hR6 := hR5.same (Same.new (o := .tup [.int (rd.a + (n : Int)), .int (rd.b + (n : Int)), .int rd.l]) htq)
      have ht6 : upd H5 tq (.tup [.int (rd.a + (n : Int)), .int (rd.b + (n : Int)), .int rd.l]) tq = some (.tup [.int (rd.a + (n : Int)), .int (rd.b + (n : Int)), .int rd.l]) := upd_same
      generalize upd H5 tq (.tup [.int (rd.a + (n : Int)), .int (rd.b + (n : Int)), .int rd.l]) = H6 at s6 hp6 hR6 ht6 ⊢
      refine ⟨p, _, _, rfl, rfl, hp6, szl (by simp at vl; omega), ?_⟩
      refine ⟨_, _, _, _, rfl, Same.mut s6 hpH, upd_same, ?_⟩
      have e : rs ++ ⟨x, n, l⟩ :: (qs.take (i + 1)).map (shiftR n) = (rs ++ ⟨x, n, l⟩ :: (qs.take i).map (shiftR n)) ++ [shiftR n rd] := by
        rw [List.take_add_one, hrd]
        simp
      rw [e]
      exact paired_snoc (RoadsAt.upd hR6 hp6) ⟨tq, rfl, keepU ht6 hp6 (by intro z; cases z)⟩
    · rintro σ' H5 ⟨v5, v6, v7, vs, rfl, s5, hp5, hR5⟩
      rw [List.take_of_length_le (by omega)] at hR5
      refine ⟨_, rfl, t, C, dx, _, _, rfl, s5 _ _ h1, T.cl, T.nS, tfs_size _ _, _, rfl, o, C, dxo, _, _, rfl, s5 _ _ g1, T.cl, T.nS, tfs_size _ _, _, _, rfl, rfl, _, rfl, fun t' dx' ht' hdx' hne => ?_⟩
      have s23 : Same H5 (upd (upd H5 dx' (.own t')) t' (.ins C dx' [])) := fun b o e => by
        rw [upd_ne (ne_of_none e ht'), upd_ne (ne_of_none e hdx')]; exact e
      refine ⟨t', dx', p, n + m, joinedRs n rs x l qs, vs, rfl, upd_same, SqL.of (s23 _ _ hp5), s23 _ _ hp5, hR5.same s23, joined_tree hT hS h12 hx hl, fun H6 kp hTr => ⟨rfl, ?_⟩⟩
      have s6 : Same H5 H6 := fun b o e => kp b o (s23 b o e) (ne_of_none e ht')
      obtain ⟨dz, rz, vz, z0, z1⟩ := hTr
      exact k t' H6 (s5.free ht') (s5.trans s6) ⟨dz, rz, vz, s5.free (s23.free z0), z1⟩

def spMoved (C CB : Addr) : Sp := fun vs H Q E => ∃ (t : Addr) (n : Nat) (rs : List Road) (i : Nat) (r : Road) (x y : Int), vs = [.ref t, .int i, .int x, .int y] ∧ TreeAt C H t n rs ∧ IsTree n rs ∧ rs[i]? = some r ∧ (0 ≤ x ∧ x < n) ∧ (0 ≤ y ∧ y < n) ∧
  (¬ (x ∈ flood n rs i r.a ↔ y ∈ flood n rs i r.a) → ∀ t' H', H t' = none → Same H H' → TreeNew C H H' t' n (rs.set i ⟨x, y, r.l⟩) → Q (.ref t') H') ∧
  ((x ∈ flood n rs i r.a ↔ y ∈ flood n rs i r.a) → ∀ H', Same H H' → E (.ref CB) none H')
-- slots: 0:tree, 1:at, 2:one, 3:other, 4:roads
theorem sc_moved : FnScope ["tree", "at", "one", "other", "roads"] ["tree", "at", "one", "other"] (defScope S_moved) := ⟨rfl, rfl, rfl, by decide +kernel, rfl, by decide +kernel, by decide +kernel⟩
theorem paired_set {α β : Type} {F : α → β → Prop} {a : α} {b : β} (h : F a b) : ∀ {l : List α} {m : List β} (i : Nat), Paired F l m → Paired F (l.set i a) (m.set i b)
  | _, _, _, .nil => .nil
  | _, _, 0, .cons x r => .cons h r
  | _, _, i + 1, .cons x r => .cons x (paired_set h i r)
theorem roads_true {H : Hp} {n : Nat} : ∀ {rs : List Road} {us : List V}, RoadsAt H rs us → RoadsOk n rs → Paired (fun b u => RoadArg K H n u b) (rs.map fun _ => true) us
  | _, _, .nil, _ => .nil
  | _ :: _, _ :: _, .cons x r, k => .cons (roadArg_of x (k.ok _ (List.mem_cons_self ..))) (roads_true r ⟨fun q hq => k.ok q (List.mem_cons_of_mem _ hq)⟩)
theorem ok_moved {f C CB CN : Addr} {fd : FuncData} (F : Fun K "moved" "moved" S_moved f fd) (T : Tx K mg C) (B : Bi mg) (X_NoRoad : Xc K mg "NoRoad" CN) (G_within : Gd P w K mg base 2 "within" ["number", "low", "high"] (spWithin K)) (GM_village : Gm P w K mg base C 3 "village" ["self", "at"] (spVillage C)) (GM_roads : Gm P w K mg base C 1 "roads" ["self"] (spRoads C))
    (GC_Tree : GcN P w K mg base C 4 "Tree" ["self", "villages", "roads"] (spInitX (K := K) C CB)) : FnOk P w K mg base (L2N.CX P w) 6 f fd ["tree", "at", "one", "other"] (spMoved C CB) := by
  refine Fun.okN F sc_moved (fun vs H Q E h => ?_) (fun cdv A outer s H vs Q E hr h => ?_)
  · obtain ⟨t, n, rs, i, r, x, y, rfl, _⟩ := h
    rfl
  · obtain ⟨t, n, rs, i, r, x, y, rfl, hA, hT, hi, hx, hy, kq, ke⟩ := h
    have nd := sc_moved.nd
    have n12 := hT.le
    have npos := hT.pos
    have nlen := hT.len
    have ilt := (List.getElem?_eq_some_iff.mp hi).1
    refine ⟨_, (pss_cons (ps_if (pt_not (pt_val (pe_g G_within hr rfl (pa_cons (pv 1) (pa_cons pe_int (pa_cons (pe_op op_sub (pe_callB call_len_seq (by rfl) B.len (by decide +kernel) (pa_cons (pe_fld (pv 0) rfl) pa_nil)) pe_int) pa_nil))))))
    (pss_one (L2N.ps_raise rfl (L2N.takes_of rfl rfl rfl rfl) (L2N.pmk_own PySem.F.excBase_ValueError X_NoRoad.e X_NoRoad.g X_NoRoad.k (raises_own X_NoRoad.b X_NoRoad.t) rfl))) pss_nil)
    (pss_cons (ps_set (i := 4) nd rfl (Or.inl rfl) (pe_gm0 (pv 0) T.cl GM_roads hr))
    (pss_cons (ps_asg (pe_tup (pa_cons (pe_gm (pv 0) T.cl GM_village hr (pa_cons (pv 2) pa_nil)) (pa_cons (pe_gm (pv 0) T.cl GM_village hr (pa_cons (pv 3) pa_nil)) (pa_cons (pe_ix ix_tup (pe_ix ix_list (pv 4) (pv 1) (fun _ _ => rfl)) pe_int (fun _ _ => rfl)) pa_nil)))) (pg_sub (pv 4) (pv 1) set_list))
    (pss_one (ps_ret (pe_gcN GC_Tree hr rfl (L2N.takes_of rfl rfl rfl rfl) (pa_cons (pe_fld (pv 0) rfl) (pa_cons (pv 4) pa_nil)))))))), ?_⟩
    obtain ⟨dx, rr, vs0, h1, h2, h3⟩ := id hA
    have rlen := h3.length
    refine ⟨_, rfl, _, rfl, t, C, dx, _, _, rfl, h1, T.cl, T.nR, tfs_rows _ _, rr, vs0, rfl, .inl (SqL.of h2), _, _, rfl, rfl, _, 0, _, rfl, Plain.int _, _, rfl, ?_⟩
    rw [withinV_of (by omega) (by omega)]
    refine iteF ?_
    refine ⟨_, rfl, t, dx, _, rfl, h1, tfs_no _ _ (by decide +kernel) (by decide +kernel), t, n, rs, rfl, hA, fun q us H1 hq s1 hq1 hR1 => ?_⟩
    obtain ⟨tr, e1, e2⟩ := roads_at hR1 hi
    refine ⟨_, rfl, t, dx, _, rfl, s1 _ _ h1, tfs_no _ _ (by decide +kernel) (by decide +kernel), _, rfl, t, n, rs, x, rfl, hA.same s1, hx.1, hx.2, _, rfl, t, dx, _, rfl, s1 _ _ h1, tfs_no _ _ (by decide +kernel) (by decide +kernel), _, rfl, t, n, rs, y, rfl, hA.same s1, hy.1, hy.2, ?_⟩
    refine ⟨_, rfl, _, rfl, q, us, (i : Int), _, rfl, rfl, SqL.of hq1, atI_nat e1, tr, _, 2, _, rfl, rfl, SqT.of e2, rfl, by show 3 ≤ sizeLine; decide, fun tp htp => ?_⟩
    have s2 := s1.trans (Same.new (o := .tup [.int x, .int y, .int r.l]) htp)
    have hq2 := keepN (u := .tup [.int x, .int y, .int r.l]) hq1 htp
    have hR2 := hR1.same (Same.new (o := .tup [.int x, .int y, .int r.l]) htp)
    have ht2 : upd H1 tp (.tup [.int x, .int y, .int r.l]) tp = some (.tup [.int x, .int y, .int r.l]) := upd_same
    generalize upd H1 tp (.tup [.int x, .int y, .int r.l]) = H2 at s2 hq2 hR2 ht2 ⊢
    have ul := hR2.length
    refine ⟨_, rfl, _, rfl, q, _, _, i, rfl, rfl, hq2, (by unfold ixN; rw [if_pos (by omega), if_pos (by omega)]; rfl), ?_⟩
    have s3 := Same.mut (o := .lst (us.set i (.ref tp))) s2 hq
    have hq3 : upd H2 q (.lst (us.set i (.ref tp))) q = some (.lst (us.set i (.ref tp))) := upd_same
    have ht3 : upd H2 q (.lst (us.set i (.ref tp))) tp = some (.tup [.int x, .int y, .int r.l]) := keepU ht2 hq2 (by intro z; cases z)
    have hR3 := RoadsAt.upd (ys := us.set i (.ref tp)) hR2 hq2
    refine of_nx ?_
    show tRet _ _ _ (upd H2 q (.lst (us.set i (.ref tp))))
    generalize upd H2 q (.lst (us.set i (.ref tp))) = H3 at s3 hq3 ht3 hR3 ⊢
    have hR4 : RoadsAt H3 (rs.set i ⟨x, y, r.l⟩) (us.set i (.ref tp)) := paired_set ⟨tp, rfl, ht3⟩ i hR3
    refine ⟨_, rfl, t, C, dx, _, _, rfl, s3 _ _ h1, T.cl, T.nS, tfs_size _ _, _, rfl, fun t' dx' ht' hdx' hne => ?_⟩
    have s23 : Same H3 (upd (upd H3 dx' (.own t')) t' (.ins C dx' [])) := fun b o e => by
      rw [upd_ne (ne_of_none e ht'), upd_ne (ne_of_none e hdx')]; exact e
    have good : ¬ (x ∈ flood n rs i r.a ↔ y ∈ flood n rs i r.a) → InitRes K (upd (upd H3 dx' (.own t')) t' (.ins C dx' [])) (.int n) (.ref q) (some (n, rs.set i ⟨x, y, r.l⟩)) := fun c =>
      .good (s23 _ _ hq3) (hR4.same s23) (moved_ok hT hi hx hy c)
    have bad : (x ∈ flood n rs i r.a ↔ y ∈ flood n rs i r.a) → InitRes K (upd (upd H3 dx' (.own t')) t' (.ins C dx' [])) (.int n) (.ref q) none := fun c => by
      by_cases e : x = y
      · subst e
        refine .road (bs := (rs.map fun _ => true).set i false) hT.le (s23 _ _ hq3) (by rw [List.length_set]; omega) (paired_set (.inl ⟨tp, _, rfl, s23 _ _ ht3, ?_, ?_⟩) i (roads_true (hR3.same s23) hT.toRoadsOk)) (List.mem_set (by rw [List.length_map]; omega) _)
        · intro z hz
          simp only [List.mem_cons, List.not_mem_nil, or_false] at hz
          rcases hz with rfl | rfl | rfl <;> exact Plain.int _
        · simp [roadV]
      · exact .round hT.le (s23 _ _ hq3) (by rw [List.length_set]; omega) (hR4.same s23) (moved_short hT hi hx hy e c).1 (moved_short hT hi hx hy e c).2
    by_cases c : (x ∈ flood n rs i r.a ↔ y ∈ flood n rs i r.a)
    · refine ⟨t', dx', .int n, .ref q, none, rfl, upd_same, bad c, fun _ _ h => (by cases h), fun _ H4 kp => ?_⟩
      exact ke c H4 fun b o e => (kp b o (s23 b o (s3 b o e)) (ne_of_none (s3 b o e) ht'))
    · refine ⟨t', dx', .int n, .ref q, _, rfl, upd_same, good c, fun n' rs' e H4 kp hTr => ?_, fun h => (by cases h)⟩
      cases e
      obtain ⟨dz, rz, vz, z0, z1⟩ := hTr
      refine ⟨rfl, kq c t' H4 (s3.free ht') (fun b o e => kp b o (s23 b o (s3 b o e)) (ne_of_none (s3 b o e) ht')) ⟨dz, rz, vz, s3.free (s23.free z0), z1⟩⟩
end
end Wr

namespace Wr
open PySem L2
section
variable {P : Program} {w : World} {K : PySem.W.Frag} {mg : Str → Option Value} {base : Heap}
theorem told_at {H : Hp} {t l : Addr} {n : Nat} {rs : List Road} {us : List V} (hR : RoadsAt H rs us) {m : Nat} {r : Road} (h : rs[m]? = some r) : ∃ tr, us[m]? = some (.ref tr) ∧ H tr = some (.tup [.int r.a, .int r.b, .int r.l]) := by
  obtain ⟨v, hv, tr, rfl, e⟩ := paired_get hR h
  exact ⟨tr, hv, e⟩
theorem floodStep_len (i k : Nat) (g : List Int) (r : Road) : (floodStep i g k r).length ≤ g.length + 1 := by
  unfold floodStep
  split <;> simp
theorem incr_ext : ∀ {l m : List Int}, l.Pairwise (· < ·) → m.Pairwise (· < ·) → (∀ x, x ∈ l ↔ x ∈ m) → l = m
  | [], [], _, _, _ => rfl
  | [], b :: m, _, _, h => absurd ((h b).mpr (List.mem_cons_self ..)) (by simp)
  | a :: l, [], _, _, h => absurd ((h a).mp (List.mem_cons_self ..)) (by simp)
  | a :: l, b :: m, p, q, h => by
    obtain ⟨p1, p2⟩ := List.pairwise_cons.1 p
    obtain ⟨q1, q2⟩ := List.pairwise_cons.1 q
    have e : a = b := by
      rcases List.mem_cons.1 ((h a).mp (List.mem_cons_self ..)) with e | e
      · exact e
      · rcases List.mem_cons.1 ((h b).mpr (List.mem_cons_self ..)) with e' | e'
        · exact e'.symm
        · have := q1 a e
          have := p1 b e'
          omega
    subst e
    congr 1
    refine incr_ext p2 q2 fun x => ⟨fun hx => ?_, fun hx => ?_⟩
    · have := p1 x hx
      rcases List.mem_cons.1 ((h x).mp (List.mem_cons_of_mem _ hx)) with e | e
      · omega
      · exact e
    · have := q1 x hx
      rcases List.mem_cons.1 ((h x).mpr (List.mem_cons_of_mem _ hx)) with e | e
      · omega
      · exact e
/-- what is sorted and bears nothing twice rises -/
theorem le_incr : ∀ {l : List Int}, l.Pairwise (· ≤ ·) → l.Nodup → l.Pairwise (· < ·)
  | [], _, _ => .nil
  | a :: l, h, d => by
    obtain ⟨h1, h2⟩ := List.pairwise_cons.1 h
    obtain ⟨d1, d2⟩ := List.nodup_cons.1 d
    refine List.pairwise_cons.2 ⟨fun b hb => ?_, le_incr h2 d2⟩
    have := h1 b hb
    have : a ≠ b := fun e => d1 (e ▸ hb)
    omega
def spSide : Sp := fun vs H Q _ => ∃ (t l : Addr) (n : Nat) (rs : List Road) (i : Nat) (r : Road) (x y : Int), vs = [.ref t, .int i, .int x] ∧ ToldAt H t l n rs ∧ IsTree n rs ∧ rs[i]? = some r ∧ ((r.a = x ∧ r.b = y) ∨ (r.b = x ∧ r.a = y)) ∧
  ∀ q H', H q = none → Same H H' → H' q = some (.lst ((sideL n rs x y r.l).map V.int)) → Q (.ref q) H'
-- slots: 0:_law_told_here, 1:_law_at, 2:_law_start, 3:_law_found, 4:_law_turn, 5:_law_k, 6:_law_one, 7:_law_other, 8:_law_length
theorem sc_law_side : FnScope ["_law_told_here", "_law_at", "_law_start", "_law_found", "_law_turn", "_law_k", "_law_one", "_law_other", "_law_length"] ["_law_told_here", "_law_at", "_law_start"] (defScope S_law_side) := ⟨rfl, rfl, rfl, by decide +kernel, rfl, by decide +kernel, by decide +kernel⟩
theorem ok_side {f : Addr} {fd : FuncData} (F : Fun K "_law_side" "_law_side" S_law_side f fd) (B : Bi mg) : FnOk P w K mg base CX0 1 f fd ["_law_told_here", "_law_at", "_law_start"] spSide := by
  refine F.ok sc_law_side (fun vs H Q E h => ?_) (fun cdv A outer s H vs Q E hr h => ?_)
  · obtain ⟨t, l, n, rs, i, r, x, y, rfl, _⟩ := h
    rfl
  · obtain ⟨t, l, n, rs, i, r, x, y, rfl, ⟨us, hT, hL, hR⟩, tree, hi, he, k⟩ := h
    have nd := sc_law_side.nd
    have n12 := tree.le
    have nlen := tree.len
    have rlen := hR.length
    refine ⟨_, (pss_cons (ps_set (i := 3) nd rfl (Or.inl rfl) (pe_lst (pa_cons (pv 2) pa_nil)))
    (pss_cons (ps_for PassesOwn.never rfl (pi_range1 (by rfl) B.range (pa_cons (pe_ix ix_tup (pv 0) pe_int (fun _ _ => rfl)) pa_nil)) (pg_name (i := 4) nd rfl (Or.inl rfl))
    (pss_one (ps_for PassesOwn.never rfl (pi_range1 (by rfl) B.range (pa_cons (pe_callB call_len_seq (by rfl) B.len (by decide +kernel) (pa_cons (pe_ix ix_tup (pv 0) pe_int (fun _ _ => rfl)) pa_nil)) pa_nil)) (pg_name (i := 5) nd rfl (Or.inl rfl))
    (pss_cons (ps_asg (pe_ix ix_list (pe_ix ix_tup (pv 0) pe_int (fun _ _ => rfl)) (pv 5) (fun _ _ => rfl)) (pg_tup rfl (pgs_cons (pg_name (i := 6) nd rfl (Or.inl rfl)) (pgs_cons (pg_name (i := 7) nd rfl (Or.inl rfl)) (pgs_cons (pg_name (i := 8) nd rfl (Or.inl rfl)) pgs_nil)))))
    (pss_one (ps_if (PW.pt (pw_and (pt_cmpR op_ne (pv 5) (pv 1) (nomark _)) (pw_and1 (pt_cmpR op_ne (pe_cmpR op_in_seq (pv 6) (pv 3) rfl) (pe_cmpR op_in_seq (pv 7) (pv 3) rfl) (nomark _)))))
    (pss_one (ps_expr (pe_bm PySem.F.plainAttrs_list PySem.F.slot_list_append PySem.F.type_list_append mt_append (pv 3) (pa_cons (pe_ifExp (pt_cmpR op_in_seq (pv 6) (pv 3) rfl) (pv 7) (pv 6)) pa_nil)))) pss_nil))))))
    (pss_one (ps_ret (pe_callB (cr_sortedA K) (by rfl) B.sorted (by decide +kernel) (pa_cons (pv 3) pa_nil)))))), ?_⟩
    refine ⟨_, rfl, by show 1 ≤ sizeLine; decide, fun q hq => ?_⟩
    have s1 := Same.new (o := .lst [.int x]) hq
    have hq1 : upd H q (.lst [.int x]) q = some (.lst ([x].map V.int)) := upd_same
    generalize upd H q (.lst [.int x]) = H1 at s1 hq1 ⊢
    refine ⟨_, rfl, t, _, 0, _, rfl, rfl, SqT.of (s1 _ _ hT), rfl, (n : Int), rfl, by omega, by omega, for_range (lo := 0) (n := n) (fun j σ' H' => ∃ (g : List Int) (v5 v7 v8 v9 v10 : Option V), σ' = [some (.ref t), some (.int i), some (.int x), some (.ref q), v5, v7, v8, v9, v10] ∧ Same H H' ∧
      H' q = some (.lst (g.map V.int)) ∧ g.length ≤ 1 + 12 * j ∧ floodN i rs (n - j) g = flood n rs i x) ⟨[x], none, none, none, none, none, rfl, s1, hq1, by simp, rfl⟩ ?_ ?_⟩
    · rintro j σ' H2 hj ⟨g, v5, v7, v8, v9, v10, rfl, s2, hq2, hlen, hfl⟩
      have hnj : n - j = (n - (j + 1)) + 1 := by omega
      rw [hnj] at hfl
      unfold floodN at hfl
      obtain ⟨G, hG⟩ : ∃ G, G = floodP i rs 0 g := ⟨_, rfl⟩
      rw [← hG] at hfl
      refine ⟨_, rfl, t, _, 1, _, rfl, rfl, SqT.of (s2 _ _ hT), rfl, l, us, rfl, .inl (SqL.of (s2 _ _ hL)), (us.length : Int), rfl, by omega, by omega, for_range (lo := 0) (n := us.length) (fun m σ' H' => ∃ (g' : List Int) (v7 v8 v9 v10 : Option V), σ' = [some (.ref t), some (.int i), some (.int x), some (.ref q), some (.int (0 + (j : Int))), v7, v8, v9, v10] ∧ Same H H' ∧
        H' q = some (.lst (g'.map V.int)) ∧ g'.length ≤ 1 + 12 * j + m ∧ floodP i (rs.drop m) m g' = G) ⟨g, v7, v8, v9, v10, rfl, s2, hq2, by omega, hG.symm⟩ ?_ ?_⟩
      · rintro m σ' H3 hm ⟨g', v7, v8, v9, v10, rfl, s3, hq3, hlen', hfl'⟩
        have hm' : m < rs.length := by omega
        obtain ⟨rd, hrd⟩ : ∃ rd, rs[m]? = some rd := ⟨_, List.getElem?_eq_getElem hm'⟩
        have hdr : rs.drop m = rd :: rs.drop (m + 1) := by
          obtain ⟨hi, e⟩ := List.getElem?_eq_some_iff.mp hrd
          rw [List.drop_eq_getElem_cons hi, e]
        rw [hdr] at hfl'
        unfold floodP at hfl'
        obtain ⟨tm, d1, d2⟩ := told_at (t := t) (l := l) (n := n) hR hrd
        have d1' : atI us (0 + (m : Int)) = some (.ref tm) := by rw [Int.zero_add]; exact atI_nat d1
        refine ⟨_, rfl, t, _, 1, _, rfl, rfl, SqT.of (s3 _ _ hT), rfl, _, rfl, l, us, 0 + (m : Int), _, rfl, rfl, SqL.of (s3 _ _ hL), d1', tm, _, rfl, SqT.of (s3 _ _ d2), rfl, _, _, rfl, _, _, rfl, _, _, rfl, rfl, ?_⟩
        have t1 := val_inI (K := K) (σ := [some (.ref t), some (.int i), some (.int x), some (.ref q), some (.int (0 + (j : Int))), some (.int (0 + (m : Int))), some (.int rd.a), some (.int rd.b), some (.int rd.l)]) (H := H3) (ta := tVar 6) (tb := tVar 3) (x := rd.a) (val_var rfl) (val_var rfl) (.inl (SqL.of hq3))
        have t2 := val_inI (K := K) (σ := [some (.ref t), some (.int i), some (.int x), some (.ref q), some (.int (0 + (j : Int))), some (.int (0 + (m : Int))), some (.int rd.a), some (.int rd.b), some (.int rd.l)]) (H := H3) (ta := tVar 7) (tb := tVar 3) (x := rd.b) (val_var rfl) (val_var rfl) (.inl (SqL.of hq3))
        have hstep := floodStep_len i m g' rd
        refine st_if (ans_and2 (val_nei (x := 0 + (m : Int)) (y := (i : Int)) (val_var rfl) (val_var rfl)) (ans_neb t1 t2)) (fun c => ?_) (fun c => ?_)
        · rw [Bool.and_eq_true] at c
          have c1 : m ≠ i := by
            have := c.1
            simp at this
            omega
          have c2 : decide (rd.a ∈ g') ≠ decide (rd.b ∈ g') := by
            intro e
            rw [e] at c
            simp at c
          have hs : floodStep i g' m rd = g' ++ [if rd.a ∈ g' then rd.b else rd.a] := by unfold floodStep; rw [if_pos ⟨c1, c2⟩]
          refine ⟨_, rfl, .inl ⟨rfl, _, SqL.of hq3⟩, of_cons (val_ifE (ans_val t1) (fun _ => val_var rfl) (fun _ => val_var rfl) _ ?_)⟩
          refine ⟨q, _, _, rfl, rfl, hq3, (by rw [List.length_map]; exact szl (by omega)), ?_⟩
          refine ⟨g' ++ [if rd.a ∈ g' then rd.b else rd.a], _, _, _, _, rfl, Same.mut s3 hq, ?_, by rw [← hs]; omega, by rw [← hs]; exact hfl'⟩
          rw [upd_same, List.map_append]
          by_cases ca : rd.a ∈ g' <;> simp [ca]
        · have hs : floodStep i g' m rd = g' := by
            unfold floodStep
            refine if_neg fun ⟨c1, c2⟩ => ?_
            have h1 : (!decide (0 + (m : Int) = (i : Int))) = true := by
              simp; omega
            have h2 : (!(decide (rd.a ∈ g') == decide (rd.b ∈ g'))) = true := by
              simpa using c2
            rw [h1, h2] at c
            cases c
          exact ⟨g', _, _, _, _, rfl, s3, hq3, by omega, by rw [← hfl', hs]⟩
      · rintro σ' H3 ⟨g', v7, v8, v9, v10, rfl, s3, hq3, hlen', hfl'⟩
        rw [show us.length = rs.length from hR.length.symm, List.drop_length] at hfl'
        have hfl' : g' = G := hfl'
        exact ⟨g', _, _, _, _, _, rfl, s3, hq3, by omega, by rw [hfl']; exact hfl⟩
    · rintro σ' H2 ⟨g, v5, v7, v8, v9, v10, rfl, s2, hq2, hlen, hfl⟩
      rw [Nat.sub_self] at hfl
      have hfl : g = flood n rs i x := hfl
      subst hfl
      have ok := tree.ok r (List.mem_of_getElem? hi)
      have hx : 0 ≤ x ∧ x < n := by omega
      have ff := flood_facts tree.toRoadsOk (i := i) hx
      refine ⟨_, rfl, q, _, rfl, .inl (SqL.of hq2), fun ms p pm up hp => ?_⟩
      have em : ms = sideL n rs x y r.l := incr_ext (le_incr up (pm.nodup_iff.mpr ff.1)) (sideL_incr ..) fun z => by rw [pm.mem_iff, flood_sideL tree hi he]
      exact k p _ (s2.free hp) (s2.trans (Same.new hp)) (by rw [upd_same, em])
end
end Wr

namespace Wr
open PySem L2
section
variable {P : Program} {w : World} {K : PySem.W.Frag} {mg : Str → Option Value} {base : Heap}
/-! ### == of pairs of lists of ints -/
theorem dp_pairL {H : Hp} {q p1 p2 : Addr} {xs ys : List Int} (h : H q = some (.tup [.ref p1, .ref p2])) (h1 : H p1 = some (.lst (xs.map V.int))) (h2 : H p2 = some (.lst (ys.map V.int))) :
    Dp K H (.ref q) (.tuple [.list (xs.map PyData.int), .list (ys.map PyData.int)]) := .tup (SqT.of h) (.cons (dp_ilist h1) (.cons (dp_ilist h2) .nil))
theorem eqv_pairL (xs ys us vs : List Int) : PyData.eqv (.tuple [.list (xs.map PyData.int), .list (ys.map PyData.int)]) (.tuple [.list (us.map PyData.int), .list (vs.map PyData.int)]) = (decide (xs = us) && decide (ys = vs)) := by
  show (PyData.eqv (.list (xs.map PyData.int)) (.list (us.map PyData.int)) && (PyData.eqv (.list (ys.map PyData.int)) (.list (vs.map PyData.int)) && PyData.eqvAll [] [])) = _
  rw [eqv_il, eqv_il]
  show (_ && (_ && true)) = _
  rw [Bool.and_true]
theorem shaped_pairL (xs ys : List Int) : SeqAt.shaped (.tuple [.list (xs.map PyData.int), .list (ys.map PyData.int)]) = true := by
  have h1 := int_depths xs
  have h2 := int_depths ys
  have e : PyData.canLay0 (.tuple [.list (xs.map PyData.int), .list (ys.map PyData.int)]) = true := by
    simp only [PyData.canLay0, PyData.canLayAll0, int_lays]
    rfl
  unfold SeqAt.shaped
  rw [e, Bool.true_and, decide_eq_true_eq]
  simp only [PyData.depthAll, PyData.depth]
  omega
def spSidesRight (C : Addr) : Sp := fun vs H Q _ => ∃ (a t l : Addr) (n : Nat) (rs : List Road), vs = [.ref a, .ref t] ∧ TreeAt C H a n rs ∧ ToldAt H t l n rs ∧ IsTree n rs ∧ ∀ H', Same H H' → Q (.bl true) H'
-- slots: 0:_law_tree, 1:_law_told_here, 2:_law_at, 3:_law_one, 4:_law_other, 5:_law_length, 6:_law_found, 7:_law_near
theorem sc_law_sides_right : FnScope ["_law_tree", "_law_told_here", "_law_at", "_law_one", "_law_other", "_law_length", "_law_found", "_law_near"] ["_law_tree", "_law_told_here"] (defScope S_law_sides_right) := ⟨rfl, rfl, rfl, by decide +kernel, rfl, by decide +kernel, by decide +kernel⟩
theorem ok_sides_right {f C : Addr} {fd : FuncData} (F : Fun K "_law_sides_right" "_law_sides_right" S_law_sides_right f fd) (B : Bi mg) (G_sides : Gd P w K mg base 3 "sides" ["tree", "at"] (spSides C)) (G_law_side : Gd P w K mg base 1 "_law_side" ["_law_told_here", "_law_at", "_law_start"] spSide) :
    FnOk P w K mg base CX0 4 f fd ["_law_tree", "_law_told_here"] (spSidesRight C) := by
  refine F.ok sc_law_sides_right (fun vs H Q E h => ?_) (fun cdv A outer s H vs Q E hr h => ?_)
  · obtain ⟨a, t, l, n, rs, rfl, _⟩ := h
    rfl
  · obtain ⟨a, t, l, n, rs, rfl, hA, hTo, tree, k⟩ := h
    have nd := sc_law_sides_right.nd
    have n12 := tree.le
    have nlen := tree.len
    refine ⟨_, (pss_cons (ps_for PassesOwn.never rfl (pi_range1 (by rfl) B.range (pa_cons (pe_callB call_len_seq (by rfl) B.len (by decide +kernel) (pa_cons (pe_ix ix_tup (pv 1) pe_int (fun _ _ => rfl)) pa_nil)) pa_nil)) (pg_name (i := 2) nd rfl (Or.inl rfl))
    (pss_cons (ps_asg (pe_ix ix_list (pe_ix ix_tup (pv 1) pe_int (fun _ _ => rfl)) (pv 2) (fun _ _ => rfl)) (pg_tup rfl (pgs_cons (pg_name (i := 3) nd rfl (Or.inl rfl)) (pgs_cons (pg_name (i := 4) nd rfl (Or.inl rfl)) (pgs_cons (pg_name (i := 5) nd rfl (Or.inl rfl)) pgs_nil)))))
    (pss_cons (ps_set (i := 6) nd rfl (Or.inl rfl) (pe_g G_sides hr rfl (pa_cons (pv 0) (pa_cons (pv 2) pa_nil))))
    (pss_cons (ps_set (i := 7) nd rfl (Or.inl rfl) (pe_g G_law_side hr rfl (pa_cons (pv 1) (pa_cons (pv 2) (pa_cons (pv 3) pa_nil)))))
    (pss_cons (ps_if (PW.pt (pw_or (pt_not (pt_val (pe_callB call_isi (by rfl) B.isinstance (by decide +kernel) (pa_cons (pv 6) (pa_cons (pe_bltn (v := .ty "tuple") (by rfl) B.tuple (by decide +kernel) rfl) pa_nil))))) (pw_or1 (pt_cmpR (op_neD hr.units) (pv 6) (pe_tup (pa_cons (pv 7) (pa_cons (pe_g G_law_side hr rfl (pa_cons (pv 1) (pa_cons (pv 2) (pa_cons (pv 4) pa_nil)))) pa_nil))) (nomark _)))))
    (pss_one (ps_ret pe_bl)) pss_nil)
    (pss_cons (ps_expr (pe_bm0 PySem.F.plainAttrs_list PySem.F.slot_list_clear PySem.F.type_list_clear mt_clear (pe_ix ix_tup (pv 6) pe_int (fun _ _ => rfl))))
    (pss_cons (ps_expr (pe_bm0 PySem.F.plainAttrs_list PySem.F.slot_list_clear PySem.F.type_list_clear mt_clear (pe_ix ix_tup (pv 6) pe_int (fun _ _ => rfl))))
    (pss_one (ps_if (pt_cmpR (op_neD hr.units) (pe_g G_sides hr rfl (pa_cons (pv 0) (pa_cons (pv 2) pa_nil))) (pe_tup (pa_cons (pv 7) (pa_cons (pe_g G_law_side hr rfl (pa_cons (pv 1) (pa_cons (pv 2) (pa_cons (pv 4) pa_nil)))) pa_nil))) (nomark _))
    (pss_one (ps_ret pe_bl)) pss_nil)))))))))
    (pss_one (ps_ret pe_bl))), ?_⟩
    obtain ⟨us, hT, hL, hR⟩ := id hTo
    have rlen := hR.length
    refine ⟨_, rfl, t, _, 1, _, rfl, rfl, SqT.of hT, rfl, l, us, rfl, .inl (SqL.of hL), (us.length : Int), rfl, by omega, by omega, for_range (lo := 0) (n := us.length) (fun j σ' H' => ∃ v2 v3 v4 v5 v6 v7, σ' = [some (.ref a), some (.ref t), v2, v3, v4, v5, v6, v7] ∧ Same H H') ⟨_, _, _, _, _, _, rfl, Same.refl _⟩ ?_ ?_⟩
    · rintro j σ' H1 hj ⟨v2, v3, v4, v5, v6, v7, rfl, s1⟩
      have hj' : j < rs.length := by omega
      obtain ⟨r, hr1⟩ : ∃ r, rs[j]? = some r := ⟨_, List.getElem?_eq_getElem hj'⟩
      obtain ⟨tz, d1, d2⟩ := told_at (t := t) (l := l) (n := n) hR hr1
      have hat : atI us (0 + (j : Int)) = some (.ref tz) := by rw [Int.zero_add]; exact atI_nat d1
      refine ⟨_, rfl, t, _, 1, _, rfl, rfl, SqT.of (s1 _ _ hT), rfl, _, rfl, l, us, 0 + (j : Int), _, rfl, rfl, SqL.of (s1 _ _ hL), hat, tz, _, rfl, SqT.of (s1 _ _ d2), rfl, _, _, rfl, _, _, rfl, _, _, rfl, rfl, ?_⟩
      refine ⟨_, rfl, _, rfl, a, n, rs, j, r, by rw [Int.zero_add]; rfl, hA.same s1, tree, hr1, fun q p1 p2 H2 s2 hP => ?_⟩
      obtain ⟨q0, p10, p20, pne, hq2, hp12, hp22⟩ := hP
      have s12 := s1.trans s2
      refine ⟨_, rfl, _, rfl, _, rfl, t, l, n, rs, j, r, r.a, r.b, by rw [Int.zero_add]; rfl, hTo.same s12, tree, hr1, .inl ⟨rfl, rfl⟩, fun x H3 hx0 s3 hx3 => ?_⟩
      have s13 := s12.trans s3
      have hq3 := s3 _ _ hq2
      refine ⟨_, rfl, .ref q, _, .type "tuple", _, true, rfl, .ty _, .base (.tup hq3), kit_ty (by decide +kernel), true, rfl, ?_⟩
      refine iteF ?_
      refine ⟨_, rfl, _, rfl, _, rfl, _, rfl, _, rfl, t, l, n, rs, j, r, r.b, r.a, by rw [Int.zero_add]; rfl, hTo.same s13, tree, hr1, .inr ⟨rfl, rfl⟩, fun y H4 hy0 s4 hy4 => ?_⟩
      refine ⟨by show 2 ≤ sizeLine; decide, fun z hz => ?_⟩
      have s5 := s4.trans (Same.new (o := .tup [.ref x, .ref y]) hz)
      have s15 := s13.trans s5
      have hz5 : upd H4 z (.tup [.ref x, .ref y]) z = some (.tup [.ref x, .ref y]) := upd_same
      have hy5 := keepN (u := .tup [.ref x, .ref y]) hy4 hz
      generalize upd H4 z (.tup [.ref x, .ref y]) = H5 at s5 s15 hz5 hy5 ⊢
      have hp15 := s5 _ _ (s3 _ _ hp12)
      have hp25 := s5 _ _ (s3 _ _ hp22)
      refine ⟨_, _, dp_pairL (s5 _ _ hq3) hp15 hp25, dp_pairL hz5 (s5 _ _ hx3) hy5, shaped_pairL _ _, shaped_pairL _ _, _, rfl, ?_⟩
      rw [eqv_pairL, decide_eq_true (show sideL n rs r.a r.b r.l = sideL n rs r.a r.b r.l from rfl), decide_eq_true (show sideL n rs r.b r.a r.l = sideL n rs r.b r.a r.l from rfl)]
      refine iteF ?_
      have s35 : Same H2 H5 := s3.trans s5
      refine ⟨_, rfl, q, _, 0, _, rfl, rfl, SqT.of (s5 _ _ hq3), rfl, .inl ⟨rfl, _, SqL.of hp15⟩, p1, _, rfl, rfl, hp15, ?_⟩
      have hx5 := s5 _ _ hx3
      have n1x : p1 ≠ x := ne_of_none hp12 hx0
      have s16 := Same.mut (o := .lst []) s15 (s1.free p10)
      have hq6 : upd H5 p1 (.lst []) q = some (.tup [.ref p1, .ref p2]) := keepU (s5 _ _ hq3) hp15 (by intro z; cases z)
      have hp26 : upd H5 p1 (.lst []) p2 = some (.lst ((sideL n rs r.b r.a r.l).map V.int)) := by rw [upd_ne pne.symm]; exact hp25
      have hx6 : upd H5 p1 (.lst []) x = some (.lst ((sideL n rs r.a r.b r.l).map V.int)) := by rw [upd_ne n1x.symm]; exact hx5
      refine of_nx ?_
      show tSeq _ _ _ _ (upd H5 p1 (.lst []))
      generalize upd H5 p1 (.lst []) = H6 at s16 hq6 hp26 hx6 ⊢
      refine ⟨_, rfl, q, _, 1, _, rfl, rfl, SqT.of hq6, rfl, .inl ⟨rfl, _, SqL.of hp26⟩, p2, _, rfl, rfl, hp26, ?_⟩
      have n2x : p2 ≠ x := ne_of_none hp22 hx0
      have s17 := Same.mut (o := .lst []) s16 (s1.free p20)
      have hx7 : upd H6 p2 (.lst []) x = some (.lst ((sideL n rs r.a r.b r.l).map V.int)) := by rw [upd_ne n2x.symm]; exact hx6
      refine of_nx ?_
      show tIfS _ _ _ _ _ (upd H6 p2 (.lst []))
      generalize upd H6 p2 (.lst []) = H7 at s17 hx7 ⊢
      refine ⟨_, rfl, _, rfl, a, n, rs, j, r, by rw [Int.zero_add]; rfl, hA.same s17, tree, hr1, fun q' p1' p2' H8 s8 hP => ?_⟩
      obtain ⟨q0', p10', p20', pne', hq8, hp18, hp28⟩ := hP
      have s18 := s17.trans s8
      refine ⟨_, rfl, _, rfl, _, rfl, _, rfl, t, l, n, rs, j, r, r.b, r.a, by rw [Int.zero_add]; rfl, hTo.same s18, tree, hr1, .inr ⟨rfl, rfl⟩, fun y' H9 hy0' s9 hy9 => ?_⟩
      refine ⟨by show 2 ≤ sizeLine; decide, fun z' hz' => ?_⟩
      have s10 := s9.trans (Same.new (o := .tup [.ref x, .ref y']) hz')
      have hzA : upd H9 z' (.tup [.ref x, .ref y']) z' = some (.tup [.ref x, .ref y']) := upd_same
      have hyA := keepN (u := .tup [.ref x, .ref y']) hy9 hz'
      generalize upd H9 z' (.tup [.ref x, .ref y']) = H10 at s10 hzA hyA ⊢
      refine ⟨_, _, dp_pairL (s10 _ _ hq8) (s10 _ _ hp18) (s10 _ _ hp28), dp_pairL hzA (s10 _ _ (s8 _ _ hx7)) hyA, shaped_pairL _ _, shaped_pairL _ _, _, rfl, ?_⟩
      rw [eqv_pairL, decide_eq_true (show sideL n rs r.a r.b r.l = sideL n rs r.a r.b r.l from rfl), decide_eq_true (show sideL n rs r.b r.a r.l = sideL n rs r.b r.a r.l from rfl)]
      refine iteF ?_
      exact ⟨_, _, _, _, _, _, rfl, s18.trans s10⟩
    · rintro σ' H1 ⟨v2, v3, v4, v5, v6, v7, rfl, s1⟩
      exact k _ s1
end
end Wr

namespace Wr
open PySem L2
section
variable {P : Program} {w : World} {K : PySem.W.Frag} {mg : Str → Option Value} {base : Heap}
def spLawMoved (C : Addr) : Sp := fun vs H Q _ => ∃ (t : Addr) (n : Nat) (rs : List Road) (i : Nat) (r : Road) (x y : Int), vs = [.ref t, .int i, .int x, .int y] ∧ TreeAt C H t n rs ∧ IsTree n rs ∧ rs[i]? = some r ∧ (0 ≤ x ∧ x < n) ∧ (0 ≤ y ∧ y < n) ∧
  ∀ q us H', Same H H' → H' q = some (.lst us) → RoadsAt H' (if (x ∈ flood n rs i r.a ↔ y ∈ flood n rs i r.a) then [] else rs.set i ⟨x, y, r.l⟩) us → Q (.ref q) H'
-- slots: 0:_law_tree, 1:_law_at, 2:_law_one, 3:_law_other, 4:_law_found, 5:error, 6:_law_others
theorem sc_law_moved : FnScope ["_law_tree", "_law_at", "_law_one", "_law_other", "_law_found", "error", "_law_others"] ["_law_tree", "_law_at", "_law_one", "_law_other"] (defScope S_law_moved) := ⟨rfl, rfl, rfl, by decide +kernel, rfl, by decide +kernel, by decide +kernel⟩
theorem ok_law_moved {f C C_BadTree C_NoRoad C_NoVillage C_BadNumber C_BadRow CR : Addr} {fd : FuncData} (F : Fun K "_law_moved" "_law_moved" S_law_moved f fd) (T : Tx K mg C) (B : Bi mg) (m_NoRoad : mg "NoRoad" = some (.ref C_NoRoad)) (m_NoVillage : mg "NoVillage" = some (.ref C_NoVillage)) (m_BadNumber : mg "BadNumber" = some (.ref C_BadNumber)) (m_BadRow : mg "BadRow" = some (.ref C_BadRow)) (m_BadTree : mg "BadTree" = some (.ref C_BadTree)) (X_RoadErrorg : mg "RoadError" = some (.ref CR))
    (EB : ExcC K C_BadTree) (eRB : PySem.W.exmOne K (.ref C_BadTree) (.ref CR) = some true) (i1 : PySem.W.kitOne K (.ref C_BadTree) (.ref C_NoRoad) = some false) (i2 : PySem.W.kitOne K (.ref C_BadTree) (.ref C_NoVillage) = some false) (i3 : PySem.W.kitOne K (.ref C_BadTree) (.ref C_BadNumber) = some false) (i4 : PySem.W.kitOne K (.ref C_BadTree) (.ref C_BadRow) = some false) (i5 : PySem.W.kitOne K (.ref C_BadTree) (.ref C_BadTree) = some true)
    (G_moved : GdN P w K mg base 6 "moved" ["tree", "at", "one", "other"] (spMoved C C_BadTree)) (GM_roads : Gm P w K mg base C 1 "roads" ["self"] (spRoads C)) (G_distances : Gd P w K mg base 2 "distances" ["tree"] (spDistances C)) (G_law_rows : Gd P w K mg base 1 "_law_rows" ["_law_told_here"] spRows) :
    FnOk P w K mg base CX0 7 f fd ["_law_tree", "_law_at", "_law_one", "_law_other"] (spLawMoved C) := by
  refine F.ok sc_law_moved (fun vs H Q E h => ?_) (fun cdv A outer s H vs Q E hr h => ?_)
  · obtain ⟨t, n, rs, i, r, x, y, rfl, _⟩ := h
    rfl
  · obtain ⟨t, n, rs, i, r, x, y, rfl, hA, hT, hi, hx, hy, k⟩ := h
    have nd := sc_law_moved.nd
    refine ⟨_, (pss_one (L2N.ps_try_as (i := 5) rfl rfl nd rfl rfl ⟨rfl, by decide, .inl X_RoadErrorg⟩ takes0N
    (fun W pn xe tk po => (pss_cons (ps_set (i := 4) nd rfl (Or.inl rfl) (pe_gN G_moved hr rfl tk (pa_cons (pv 0) (pa_cons (pv 1) (pa_cons (pv 2) (pa_cons (pv 3) pa_nil))))))
    (pss_one (ps_ret (pe_ifExp (pt_cmpR (op_eqDK K hr.units) (pe_g G_distances hr rfl (pa_cons (pv 4) pa_nil)) (pe_g G_law_rows hr rfl (pa_cons (pe_tup (pa_cons (pe_fldK K (pv 4) rfl) (pa_cons (pe_gm0 (pv 4) T.cl GM_roads hr) pa_nil))) pa_nil)) (nomark _)) (pe_gm0 (pv 4) T.cl GM_roads hr) pe_non)))))
    (fun a oe cls d pn hz hf => (pss_cons (ps_set (i := 6) nd rfl (Or.inl rfl) (pe_lst (pa_cons (pe_callB (call_isENK K hz hf) (by rfl) B.isinstance (by decide +kernel) (pa_cons (pv 5) (pa_cons (pe_glob (v := .ref C_NoRoad) rfl m_NoRoad rfl) pa_nil))) (pa_cons (pe_callB (call_isENK K hz hf) (by rfl) B.isinstance (by decide +kernel) (pa_cons (pv 5) (pa_cons (pe_glob (v := .ref C_NoVillage) rfl m_NoVillage rfl) pa_nil))) (pa_cons (pe_callB (call_isENK K hz hf) (by rfl) B.isinstance (by decide +kernel) (pa_cons (pv 5) (pa_cons (pe_glob (v := .ref C_BadNumber) rfl m_BadNumber rfl) pa_nil))) pa_nil)))))
    (pss_cons (ps_if (PW.pt (pw_or (pt_val (pe_callB (cr_anyHK K (hot_suite hz hf)) (by rfl) B.any (by decide +kernel) (pa_cons (pv 6) pa_nil))) (pw_or (pt_val (pe_callB (call_isENK K hz hf) (by rfl) B.isinstance (by decide +kernel) (pa_cons (pv 5) (pa_cons (pe_glob (v := .ref C_BadRow) rfl m_BadRow rfl) pa_nil)))) (pw_or1 (pt_not (pt_val (pe_callB (call_isENK K hz hf) (by rfl) B.isinstance (by decide +kernel) (pa_cons (pv 5) (pa_cons (pe_glob (v := .ref C_BadTree) rfl m_BadTree rfl) pa_nil)))))))))
    (pss_one (ps_ret pe_non)) pss_nil)
    (pss_one (ps_ret (pe_lst pa_nil)))))))), ?_⟩
    refine ⟨_, rfl, _, rfl, _, rfl, _, rfl, t, n, rs, i, r, x, y, rfl, hA, hT, hi, hx, hy, fun c t' H1 ht' s1 hTr => ?_, fun c H1 s1 => ?_⟩
    · rw [if_neg c] at k
      have tree := moved_ok hT hi hx hy c
      have hTa := hTr.at
      refine ⟨_, rfl, t', n, _, rfl, hTa, tree, fun l H2 hl s2 hRw => ?_⟩
      obtain ⟨dx, r1, vs1, h1, _⟩ := id (hTa.same s2)
      refine ⟨_, rfl, t', C, dx, _, _, rfl, h1, T.cl, T.nS, tfs_size _ _, _, rfl, t', dx, _, rfl, h1, tfs_no _ _ (by decide +kernel) (by decide +kernel), t', n, _, rfl, hTa.same s2, fun q us H3 hq s3 hq3 hR3 => ?_⟩
      refine ⟨by show 2 ≤ sizeLine; decide, fun tp htp => ?_⟩
      have s4 := s3.trans (Same.new (o := .tup [.int (n : Int), .ref q]) htp)
      have ht4 : upd H3 tp (.tup [.int (n : Int), .ref q]) tp = some (.tup [.int (n : Int), .ref q]) := upd_same
      have hq4 := keepN (u := .tup [.int (n : Int), .ref q]) hq3 htp
      have hR4 := hR3.same (Same.new (o := .tup [.int (n : Int), .ref q]) htp)
      generalize upd H3 tp (.tup [.int (n : Int), .ref q]) = H4 at s4 ht4 hq4 hR4 ⊢
      refine ⟨tp, q, n, _, rfl, ⟨us, ht4, hq4, hR4⟩, tree, fun d H5 hd s5 hRw2 => ?_⟩
      refine ⟨_, _, dp_rows ((hRw.same s4).same s5), dp_rows hRw2, shaped_rows _, shaped_rows _, _, rfl, ?_⟩
      rw [eqv_rows, decide_eq_true (show rowsD n (rs.set i ⟨x, y, r.l⟩) = rowsD n (rs.set i ⟨x, y, r.l⟩) from rfl)]
      refine iteT ?_
      have s25 := (s2.trans s4).trans s5
      obtain ⟨dx2, r2, vs2, g1, _⟩ := id (hTa.same s25)
      refine ⟨_, rfl, t', dx2, _, rfl, g1, tfs_no _ _ (by decide +kernel) (by decide +kernel), t', n, _, rfl, hTa.same s25, fun p vs3 H6 hp s6 hp6 hR6 => ?_⟩
      exact k p vs3 H6 ((s1.trans s25).trans s6) hp6 hR6
    · rw [if_pos c] at k
      refine ⟨true, eRB, fun _ a ha => ?_, fun h => nomatch h⟩
      refine ⟨_, rfl, C_BadTree, .ref C_NoRoad, .ref C_NoRoad, false, rfl, rfl, EB, rfl, fun u h => h, i1, ?_⟩
      refine ⟨_, rfl, C_BadTree, .ref C_NoVillage, .ref C_NoVillage, false, rfl, rfl, EB, rfl, fun u h => h, i2, ?_⟩
      refine ⟨_, rfl, C_BadTree, .ref C_BadNumber, .ref C_BadNumber, false, rfl, rfl, EB, rfl, fun u h => h, i3, ?_⟩
      refine ⟨by show 3 ≤ sizeLine; decide, fun p hp => ?_⟩
      have s2 := s1.trans (Same.new (o := .lst [.bl false, .bl false, .bl false]) hp)
      have hp2 : upd H1 p (.lst [.bl false, .bl false, .bl false]) p = some (.lst ([false, false, false].map V.bl)) := upd_same
      generalize upd H1 p (.lst [.bl false, .bl false, .bl false]) = H2 at s2 hp2 ⊢
      refine ⟨_, rfl, p, [false, false, false], rfl, SqL.of hp2, false, rfl, ?_⟩
      refine iteF ?_
      refine ⟨_, rfl, C_BadTree, .ref C_BadRow, .ref C_BadRow, false, rfl, rfl, EB, rfl, fun u h => h, i4, false, rfl, ?_⟩
      refine iteF ?_
      refine ⟨_, rfl, C_BadTree, .ref C_BadTree, .ref C_BadTree, true, rfl, rfl, EB, rfl, fun u h => h, i5, true, rfl, ?_⟩
      refine iteF ?_
      refine ⟨Nat.zero_le _, fun q hq => ?_⟩
      exact k q [] _ (s2.trans (Same.new hq)) upd_same .nil
end
end Wr

namespace Wr
open PySem L2
section
variable {P : Program} {w : World} {K : PySem.W.Frag} {mg : Str → Option Value} {base : Heap}
theorem roads_len {H : Hp} {rs : List Road} {us : List V} (h : RoadsAt H rs us) : us.length = rs.length := h.length.symm
theorem val_in_list {σ : St} {H : Hp} {ta tb : TE} {ns : List Int} {x : Int} {a : Addr} (h1 : Val ta σ H (.int x)) (h2 : Val tb σ H (.ref a)) (hS : H a = some (.lst (ns.map V.int))) : Val (tOp (rIn K false) ta tb) σ H (.bl (decide (x ∈ ns))) := val_inI h1 h2 (.inl (SqL.of hS))
def spLaw (K : PySem.W.Frag) : Sp := fun vs H Q _ => ∃ (a : Addr) (ns : List Int), vs = [.ref a] ∧ SqL K H a (ns.map V.int) ∧ ns.length ≤ 63 ∧ ∀ H', Q (.bl true) H'
-- slots: 0:_law_script, 1:_law_told_here, 2:_law_tree, 3:_law_more, 4:_law_village, 5:_law_length, 6:_law_due, 7:_law_here, 8:_law_there, 9:_law_road, 10:_law_second, 11:_law_found, 12:_law_at, 13:_law_one, 14:_law_other, 15:_law_near
theorem sc_law : FnScope ["_law_script", "_law_told_here", "_law_tree", "_law_more", "_law_village", "_law_length", "_law_due", "_law_here", "_law_there", "_law_road", "_law_second", "_law_found", "_law_at", "_law_one", "_law_other", "_law_near"] ["_law_script"] (defScope S_law) := ⟨rfl, rfl, rfl, by decide +kernel, rfl, by decide +kernel, by decide +kernel⟩
theorem ok_law {f C : Addr} {fd : FuncData} (F : Fun K "law" "law" S_law f fd) (B : Bi mg) (T : Tx K mg C) (G_law_told : Gd P w K mg base 2 "_law_told" ["_law_script", "_law_first", "_law_most"] (spTold K)) (GC_Tree : Gc P w K mg base C 4 "Tree" ["self", "villages", "roads"] (spInit (K := K) C)) (GM_roads : Gm P w K mg base C 1 "roads" ["self"] (spRoads C))
    (G_law_rows : Gd P w K mg base 1 "_law_rows" ["_law_told_here"] spRows) (G_law_cell_at : Gd P w K mg base 1 "_law_cell_at" ["_law_script", "_law_k"] (spCell K)) (G_distances : Gd P w K mg base 2 "distances" ["tree"] (spDistances C)) (G_joined : Gd P w K mg base 6 "joined" ["tree", "at", "other", "length"] (spJoined C))
    (G_law_side : Gd P w K mg base 1 "_law_side" ["_law_told_here", "_law_at", "_law_start"] spSide) (G_law_sides_right : Gd P w K mg base 4 "_law_sides_right" ["_law_tree", "_law_told_here"] (spSidesRight C)) (G_law_moved : Gd P w K mg base 7 "_law_moved" ["_law_tree", "_law_at", "_law_one", "_law_other"] (spLawMoved C)) : FnOk P w K mg base CX0 8 f fd ["_law_script"] (spLaw K) := by
  refine F.ok sc_law (fun vs H Q E h => ?_) (fun cdv A outer s H vs Q E hr h => ?_)
  · obtain ⟨a, ns, rfl, _⟩ := h
    rfl
  · obtain ⟨a, ns, rfl, hS, h63, k⟩ := h
    have nd := sc_law.nd
    refine ⟨_, (pss_cons (ps_set (i := 1) nd rfl (Or.inl rfl) (pe_g G_law_told hr rfl (pa_cons (pv 0) (pa_cons pe_int (pa_cons pe_int pa_nil)))))
    (pss_cons (ps_set (i := 2) nd rfl (Or.inl rfl) (pe_gc GC_Tree hr rfl (pa_cons (pe_ix ix_tup (pv 1) pe_int (fun _ _ => rfl)) (pa_cons (pe_ix ix_tup (pv 1) pe_int (fun _ _ => rfl)) pa_nil))))
    (pss_cons (ps_if (pt_not (pt_val (pe_g G_law_sides_right hr rfl (pa_cons (pv 2) (pa_cons (pv 1) pa_nil)))))
    (pss_one (ps_ret pe_bl)) pss_nil)
    (pss_cons (ps_set (i := 3) nd rfl (Or.inl rfl) (pe_g G_law_told hr rfl (pa_cons (pv 0) (pa_cons pe_int (pa_cons pe_int pa_nil)))))
    (pss_cons (ps_set (i := 4) nd rfl (Or.inl rfl) (pe_op op_mod (pe_g G_law_cell_at hr rfl (pa_cons (pv 0) (pa_cons pe_int pa_nil))) (pe_ix ix_tup (pv 1) pe_int (fun _ _ => rfl))))
    (pss_cons (ps_set (i := 5) nd rfl (Or.inl rfl) (pe_op op_add pe_int (pe_op op_mod (pe_g G_law_cell_at hr rfl (pa_cons (pv 0) (pa_cons pe_int pa_nil))) pe_int)))
    (pss_cons (ps_set (i := 6) nd rfl (Or.inl rfl) (pe_op op_cat (pe_ix ix_tup (pv 1) pe_int (fun _ _ => rfl)) (pe_lst (pa_cons (pe_tup (pa_cons (pv 4) (pa_cons (pe_ix ix_tup (pv 1) pe_int (fun _ _ => rfl)) (pa_cons (pv 5) pa_nil)))) pa_nil))))
    (pss_cons (ps_for PassesOwn.never rfl (pi_list (pe_ix ix_tup (pv 3) pe_int (fun _ _ => rfl))) (pg_tup rfl (pgs_cons (pg_name (i := 7) nd rfl (Or.inl rfl)) (pgs_cons (pg_name (i := 8) nd rfl (Or.inl rfl)) (pgs_cons (pg_name (i := 9) nd rfl (Or.inl rfl)) pgs_nil))))
    (pss_one (ps_expr (pe_bm PySem.F.plainAttrs_list PySem.F.slot_list_append PySem.F.type_list_append mt_append (pv 6) (pa_cons (pe_tup (pa_cons (pe_op op_add (pv 7) (pe_ix ix_tup (pv 1) pe_int (fun _ _ => rfl))) (pa_cons (pe_op op_add (pv 8) (pe_ix ix_tup (pv 1) pe_int (fun _ _ => rfl))) (pa_cons (pv 9) pa_nil)))) pa_nil)))))
    (pss_cons (ps_set (i := 10) nd rfl (Or.inl rfl) (pe_gc GC_Tree hr rfl (pa_cons (pe_ix ix_tup (pv 3) pe_int (fun _ _ => rfl)) (pa_cons (pe_ix ix_tup (pv 3) pe_int (fun _ _ => rfl)) pa_nil))))
    (pss_cons (ps_set (i := 11) nd rfl (Or.inl rfl) (pe_g G_joined hr rfl (pa_cons (pv 2) (pa_cons (pv 4) (pa_cons (pv 10) (pa_cons (pv 5) pa_nil))))))
    (pss_cons (ps_if (PW.pt (pw_or (pt_cmpR op_ne (pe_fld (pv 11) rfl) (pe_op op_add (pe_ix ix_tup (pv 1) pe_int (fun _ _ => rfl)) (pe_ix ix_tup (pv 3) pe_int (fun _ _ => rfl))) (nomark _)) (pw_or (pt_cmpR (op_neD hr.units) (pe_gm0 (pv 11) T.cl GM_roads hr) (pv 6) (nomark _)) (pw_or1 (pt_cmpR (op_neD hr.units) (pe_gm0 (pv 10) T.cl GM_roads hr) (pe_ix ix_tup (pv 3) pe_int (fun _ _ => rfl)) (nomark _))))))
    (pss_one (ps_ret pe_bl)) pss_nil)
    (pss_cons (ps_if (pt_cmpR (op_neD hr.units) (pe_g G_distances hr rfl (pa_cons (pv 11) pa_nil)) (pe_g G_law_rows hr rfl (pa_cons (pe_tup (pa_cons (pe_fld (pv 11) rfl) (pa_cons (pv 6) pa_nil))) pa_nil)) (nomark _))
    (pss_one (ps_ret pe_bl)) pss_nil)
    (pss_cons (ps_expr (pe_bm0 PySem.F.plainAttrs_list PySem.F.slot_list_clear PySem.F.type_list_clear mt_clear (pe_gm0 (pv 11) T.cl GM_roads hr)))
    (pss_cons (ps_if (pt_cmpR (op_neD hr.units) (pe_gm0 (pv 11) T.cl GM_roads hr) (pv 6) (nomark _))
    (pss_one (ps_ret pe_bl)) pss_nil)
    (pss_cons (ps_if (pt_cmpR (op_eqD hr.units) (pe_ix ix_tup (pv 1) pe_int (fun _ _ => rfl)) (pe_lst pa_nil) (nomark _))
    (pss_one (ps_ret (pe_cmpR (op_eqD hr.units) (pe_gm0 (pv 2) T.cl GM_roads hr) (pe_lst pa_nil) (nomark _)))) pss_nil)
    (pss_cons (ps_set (i := 12) nd rfl (Or.inl rfl) (pe_op op_mod (pe_g G_law_cell_at hr rfl (pa_cons (pv 0) (pa_cons pe_int pa_nil))) (pe_callB call_len_seq (by rfl) B.len (by decide +kernel) (pa_cons (pe_ix ix_tup (pv 1) pe_int (fun _ _ => rfl)) pa_nil))))
    (pss_cons (ps_set (i := 13) nd rfl (Or.inl rfl) (pe_op op_mod (pe_g G_law_cell_at hr rfl (pa_cons (pv 0) (pa_cons pe_int pa_nil))) (pe_ix ix_tup (pv 1) pe_int (fun _ _ => rfl))))
    (pss_cons (ps_set (i := 14) nd rfl (Or.inl rfl) (pe_op op_mod (pe_g G_law_cell_at hr rfl (pa_cons (pv 0) (pa_cons pe_int pa_nil))) (pe_ix ix_tup (pv 1) pe_int (fun _ _ => rfl))))
    (pss_cons (ps_set (i := 15) nd rfl (Or.inl rfl) (pe_g G_law_side hr rfl (pa_cons (pv 1) (pa_cons (pv 12) (pa_cons (pe_ix ix_tup (pe_ix ix_list (pe_ix ix_tup (pv 1) pe_int (fun _ _ => rfl)) (pv 12) (fun _ _ => rfl)) pe_int (fun _ _ => rfl)) pa_nil)))))
    (pss_cons (ps_set (i := 6) nd rfl (Or.inl rfl) (pe_callTy call_list_of (by rfl) B.list (by decide +kernel) (pa_cons (pe_ix ix_tup (pv 1) pe_int (fun _ _ => rfl)) pa_nil)))
    (pss_cons (ps_asg (pe_tup (pa_cons (pv 13) (pa_cons (pv 14) (pa_cons (pe_ix ix_tup (pe_ix ix_list (pv 6) (pv 12) (fun _ _ => rfl)) pe_int (fun _ _ => rfl)) pa_nil)))) (pg_sub (pv 6) (pv 12) set_list))
    (C8.pss_cut (ps_if (pt_cmpR op_eq (pe_cmpR op_in_seq (pv 13) (pv 15) rfl) (pe_cmpR op_in_seq (pv 14) (pv 15) rfl) (nomark _))
    (pss_one (ps_set (i := 6) nd rfl (Or.inl rfl) (pe_lst pa_nil))) pss_nil)
    (pss_one (ps_ret (pe_and (pe_cmpR (op_eqD hr.units) (pe_g G_law_moved hr rfl (pa_cons (pv 2) (pa_cons (pv 12) (pa_cons (pv 13) (pa_cons (pv 14) pa_nil))))) (pv 6) (nomark _)) (pe_one (pe_cmpR (op_eqD hr.units) (pe_gm0 (pv 2) T.cl GM_roads hr) (pe_ix ix_tup (pv 1) pe_int (fun _ _ => rfl)) (nomark _)))))))))))))))))))))))))))), ?_⟩
    -- told
    refine ⟨_, rfl, a, ns, 0, 8, rfl, hS, by decide, by decide, fun t l H1 ht0 hl0 s1 hTo => ?_⟩
    have tree := told_tree (cellV ns 0) (cellV ns (0 + 1)) (most := 8) (by decide) (by decide)
    have nle := told_le (cellV ns 0) (cellV ns (0 + 1)) (most := 8) (by decide)
    generalize told (cellV ns 0) (cellV ns (0 + 1)) 8 = TT at hTo tree nle
    obtain ⟨n, rs⟩ := TT
    simp only at hTo tree nle
    have n1 := tree.pos
    have n12 := tree.le
    have nlen := tree.len
    have npos : (0 : Int) < n := by omega
    obtain ⟨us, hT, hL, hR⟩ := id hTo
    -- tree
    refine ⟨_, rfl, t, _, 0, _, rfl, rfl, SqT.of hT, rfl, _, rfl, t, _, 1, _, rfl, rfl, SqT.of hT, rfl, fun tr dx hp hdx hne => ?_⟩
    have s23 : Same H1 (upd (upd H1 dx (.own tr)) tr (.ins C dx [])) := fun b o e => by
      rw [upd_ne (ne_of_none e hp), upd_ne (ne_of_none e hdx)]; exact e
    refine ⟨tr, dx, l, n, rs, us, rfl, upd_same, SqL.of (s23 _ _ hL), s23 _ _ hL, hR.same s23, tree, fun H3 kp hTr => ⟨rfl, ?_⟩⟩
    have s3 : Same H1 H3 := fun b o e => kp b o (s23 b o e) (ne_of_none e hp)
    have hA : TreeAt C H3 tr n rs := hTr.at
    replace hTo := hTo.same s3
    replace hS := (s1.trans s3).seq hS
    clear s23 kp hTr s3 hT hL hR s1 hp hdx hne us
    -- sides
    refine ⟨_, rfl, _, rfl, tr, t, l, n, rs, rfl, hA, hTo, tree, fun H4 s4 => ⟨true, rfl, ?_⟩⟩
    refine iteF ?_
    replace hA := hA.same s4
    replace hTo := hTo.same s4
    replace hS := s4.seq hS
    -- more
    refine ⟨_, rfl, a, ns, 2, 4, rfl, hS, by decide, by decide, fun t2 l2 H5 ht20 hl20 s5 hTo2 => ?_⟩
    have tree2 := told_tree (cellV ns 2) (cellV ns (2 + 1)) (most := 4) (by decide) (by decide)
    have nle2 := told_le (cellV ns 2) (cellV ns (2 + 1)) (most := 4) (by decide)
    generalize told (cellV ns 2) (cellV ns (2 + 1)) 4 = TT at hTo2 tree2 nle2
    obtain ⟨m, qs⟩ := TT
    simp only at hTo2 tree2 nle2
    have m1 := tree2.pos
    have mlen := tree2.len
    replace hA := hA.same s5
    replace hTo := hTo.same s5
    replace hS := s5.seq hS
    clear s4 s5 ht20 hl20
    obtain ⟨us, hT, hL, hR⟩ := id hTo
    obtain ⟨us2, hT2, hL2, hR2⟩ := id hTo2
    have ul := roads_len hR
    have ul2 := roads_len hR2
    -- village, length
    refine ⟨_, rfl, a, ns, 4, rfl, hS, _, rfl, t, _, 0, _, rfl, rfl, SqT.of hT, rfl, _, _, rfl, rfl, npos, ?_⟩
    have hv0 : 0 ≤ cellV ns 4 % (n : Int) ∧ cellV ns 4 % (n : Int) < n := ⟨Int.emod_nonneg _ (by omega), Int.emod_lt_of_pos _ npos⟩
    refine ⟨_, rfl, a, ns, 5, rfl, hS, _, _, rfl, rfl, (by show (0 : Int) < 1000000; decide), _, _, rfl, rfl, ?_⟩
    have hl0 : 1 ≤ 1 + cellV ns 5 % 1000000 ∧ 1 + cellV ns 5 % 1000000 ≤ 1000000 := by
      have h1 := Int.emod_nonneg (cellV ns 5) (show (1000000 : Int) ≠ 0 by decide)
      have h2 := Int.emod_lt_of_pos (cellV ns 5) (show (0 : Int) < 1000000 by decide)
      omega
    refine of_gName (of_nx ?_)
    show tSeq _ _ _ [some (.ref a), some (.ref t), some (.ref tr), some (.ref t2), some (.int (cellV ns 4 % (n : Int))), some (.int (1 + cellV ns 5 % 1000000)), none, none, none, none, none, none, none, none, none, none] H5
    generalize cellV ns 4 % (n : Int) = x at hv0 ⊢
    generalize 1 + cellV ns 5 % 1000000 = len at hl0 ⊢
    -- due
    refine ⟨_, rfl, t, _, 1, _, rfl, rfl, SqT.of hT, rfl, _, rfl, _, rfl, t, _, 0, _, rfl, rfl, SqT.of hT, rfl, _, rfl, by show 3 ≤ sizeLine; decide, fun tp htp => ?_⟩
    have s6 := Same.new (o := .tup [.int x, .int (n : Int), .int len]) htp
    have ht6 : upd H5 tp (.tup [.int x, .int (n : Int), .int len]) tp = some (.tup [.int x, .int (n : Int), .int len]) := upd_same
    generalize upd H5 tp (.tup [.int x, .int (n : Int), .int len]) = H6 at s6 ht6 ⊢
    refine ⟨by show 1 ≤ sizeLine; decide, fun p1 hp1 => ?_⟩
    have s7 := s6.trans (Same.new (o := .lst [.ref tp]) hp1)
    have ht7 := keepN (u := .lst [.ref tp]) ht6 hp1
    have hp17 : upd H6 p1 (.lst [.ref tp]) p1 = some (.lst [.ref tp]) := upd_same
    generalize upd H6 p1 (.lst [.ref tp]) = H7 at s7 ht7 hp17 ⊢
    refine ⟨l, p1, us, [.ref tp], rfl, rfl, s7 _ _ hL, hp17, szle (by simp; omega), fun p hp => ?_⟩
    have s8 := s7.trans (Same.new (o := .lst (us ++ [.ref tp])) hp)
    have ht8 := keepN (u := .lst (us ++ [.ref tp])) ht7 hp
    have hp8 : upd H7 p (.lst (us ++ [.ref tp])) p = some (.lst (us ++ [.ref tp])) := upd_same
    have hpH : H5 p = none := s7.free hp
    refine of_gName (of_nx ?_)
    show tSeq _ _ _ _ (upd H7 p (.lst (us ++ [.ref tp])))
    generalize upd H7 p (.lst (us ++ [.ref tp])) = H8 at s8 ht8 hp8 ⊢
    have hR8 : RoadsAt H8 (rs ++ [⟨x, n, len⟩]) (us ++ [.ref tp]) := paired_snoc (hR.same s8) ⟨tp, rfl, ht8⟩
    refine ⟨_, rfl, t2, _, 1, _, rfl, rfl, SqT.of (s8 _ _ hT2), rfl, l2, rfl, ⟨us2, SqL.of (s8 _ _ hL2)⟩, for_list (K := K) (a := l2) (xs := us2) (fun i σ' H' => ∃ v7 v8 v9 vs, σ' = [some (.ref a), some (.ref t), some (.ref tr), some (.ref t2), some (.int x), some (.int len), some (.ref p), v7, v8, v9, none, none, none, none, none, none] ∧ Same H5 H' ∧ H' p = some (.lst vs) ∧ RoadsAt H' (rs ++ ⟨x, n, len⟩ :: (qs.take i).map (shiftR n)) vs)
      ⟨none, none, none, _, rfl, s8, hp8, hR8⟩ (fun i σ' H' _ ⟨_, _, _, _, _, s5, _⟩ => SqL.of (s5 _ _ hL2)) ?_ ?_⟩
    · rintro i y σ' H9 hy ⟨v7, v8, v9, vs, rfl, s9, hp9, hR9⟩
      have hi : i < us2.length := (List.getElem?_eq_some_iff.mp hy).1
      obtain ⟨rd, hrd, tq, rfl, e2⟩ := paired_get' hR2 hy
      have vl := roads_len hR9
      refine ⟨tq, _, rfl, SqT.of (s9 _ _ e2), rfl, _, _, rfl, _, _, rfl, _, _, rfl, rfl, ?_⟩
      refine ⟨_, rfl, .inl ⟨rfl, _, SqL.of hp9⟩, _, rfl, _, rfl, t, _, 0, _, rfl, rfl, SqT.of (s9 _ _ hT), rfl, _, _, rfl, rfl, _, rfl, _, rfl, t, _, 0, _, rfl, rfl, SqT.of (s9 _ _ hT), rfl, _, _, rfl, rfl, _, rfl, by show 3 ≤ sizeLine; decide, fun tz htz => ?_⟩
      have s10 := s9.trans (Same.new (o := .tup [.int (rd.a + (n : Int)), .int (rd.b + (n : Int)), .int rd.l]) htz)
      have hp10 := keepN (u := .tup [.int (rd.a + (n : Int)), .int (rd.b + (n : Int)), .int rd.l]) hp9 htz
      have hR10 := hR9.same (Same.new (o := .tup [.int (rd.a + (n : Int)), .int (rd.b + (n : Int)), .int rd.l]) htz)
      have ht10 : upd H9 tz (.tup [.int (rd.a + (n : Int)), .int (rd.b + (n : Int)), .int rd.l]) tz = some (.tup [.int (rd.a + (n : Int)), .int (rd.b + (n : Int)), .int rd.l]) := upd_same
      generalize upd H9 tz (.tup [.int (rd.a + (n : Int)), .int (rd.b + (n : Int)), .int rd.l]) = H10 at s10 hp10 hR10 ht10 ⊢
      refine ⟨p, _, _, rfl, rfl, hp10, szl (by simp at vl; omega), ?_⟩
      refine ⟨_, _, _, _, rfl, Same.mut s10 hpH, upd_same, ?_⟩
      have e : rs ++ ⟨x, n, len⟩ :: (qs.take (i + 1)).map (shiftR n) = (rs ++ ⟨x, n, len⟩ :: (qs.take i).map (shiftR n)) ++ [shiftR n rd] := by
        rw [List.take_add_one, hrd]
        simp
      rw [e]
      exact paired_snoc (RoadsAt.upd hR10 hp10) ⟨tz, rfl, keepU ht10 hp10 (by intro z; cases z)⟩
    · rintro σ' H9 ⟨v7, v8, v9, vs, rfl, s9, hp9, hR9⟩
      rw [List.take_of_length_le (by omega)] at hR9
      have hDue : H9 p = some (.lst vs) ∧ RoadsAt H9 (joinedRs n rs x len qs) vs := ⟨hp9, hR9⟩
      clear s6 s7 s8 ht6 ht7 ht8 hp17 hp8 hR8 hp9 hR9
      -- second
      replace hA := hA.same s9
      replace hTo := hTo.same s9
      replace hTo2 := hTo2.same s9
      replace hS := s9.seq hS
      clear hT hL hR hT2 hL2 hR2 hpH hp1 hp htp s9 ul ul2
      clear us us2
      obtain ⟨us, hT, hL, hR⟩ := id hTo
      obtain ⟨us2, hT2, hL2, hR2⟩ := id hTo2
      refine ⟨_, rfl, t2, _, 0, _, rfl, rfl, SqT.of hT2, rfl, _, rfl, t2, _, 1, _, rfl, rfl, SqT.of hT2, rfl, fun sc dx hp hdx hne => ?_⟩
      have s23 : Same H9 (upd (upd H9 dx (.own sc)) sc (.ins C dx [])) := fun b o e => by
        rw [upd_ne (ne_of_none e hp), upd_ne (ne_of_none e hdx)]; exact e
      refine ⟨sc, dx, l2, m, qs, us2, rfl, upd_same, SqL.of (s23 _ _ hL2), s23 _ _ hL2, hR2.same s23, tree2, fun H10 kp hTr => ⟨rfl, ?_⟩⟩
      have s10 : Same H9 H10 := fun b o e => kp b o (s23 b o e) (ne_of_none e hp)
      have hA2 : TreeAt C H10 sc m qs := hTr.at
      -- joined
      refine ⟨_, rfl, _, rfl, _, rfl, _, rfl, tr, sc, n, m, rs, qs, x, len, rfl, hA.same s10, tree, hA2, tree2, by omega, hv0, hl0, fun jt H11 hjt s11 hJ => ?_⟩
      have treeJ := joined_tree tree tree2 (by omega) hv0 hl0
      have hJ := hJ.at
      have s911 := s10.trans s11
      obtain ⟨dxj, rj, vj, hj1, _⟩ := id hJ
      -- size
      refine ⟨_, rfl, jt, C, dxj, _, _, rfl, hj1, T.cl, T.nS, tfs_size _ _, _, rfl, t, _, 0, _, rfl, rfl, SqT.of (s911 _ _ hT), rfl, _, rfl, t2, _, 0, _, rfl, rfl, SqT.of (s911 _ _ hT2), rfl, _, _, rfl, rfl, rfl, _, rfl, ?_⟩
      have hd : (!decide (V.int ((n + m : Nat) : Int) = V.int ((n : Int) + (m : Int)))) = false := by
        rw [Int.natCast_add]; simp
      rw [hd]
      refine iteF ?_
      refine ⟨_, rfl, jt, dxj, _, rfl, hj1, tfs_no _ _ (by decide +kernel) (by decide +kernel), jt, _, _, rfl, hJ, fun q1 w1 H12 hq1 s12 hq12 hR12 => ?_⟩
      have s912 := s911.trans s12
      refine ⟨_, rfl, _, _, .lst (SqL.of hq12) (dp_roads hR12), .lst (SqL.of (s912 _ _ hDue.1)) (dp_roads (hDue.2.same s912)), shaped_roads _, shaped_roads _, _, rfl, ?_⟩
      rw [eqv_roads, decide_eq_true (show joinedRs n rs x len qs = joinedRs n rs x len qs from rfl)]
      refine iteF ?_
      obtain ⟨dx2, r2, v2, hs1, _⟩ := id (hA2.same (s11.trans s12))
      refine ⟨_, rfl, sc, dx2, _, rfl, hs1, tfs_no _ _ (by decide +kernel) (by decide +kernel), sc, _, _, rfl, hA2.same (s11.trans s12), fun q2 w2 H13 hq2 s13 hq13 hR13 => ?_⟩
      have s913 := s912.trans s13
      refine ⟨_, rfl, t2, _, 1, _, rfl, rfl, SqT.of (s913 _ _ hT2), rfl, _, _, .lst (SqL.of hq13) (dp_roads hR13), .lst (SqL.of (s913 _ _ hL2)) (dp_roads (hR2.same s913)), shaped_roads _, shaped_roads _, _, rfl, ?_⟩
      rw [eqv_roads, decide_eq_true (show qs = qs from rfl)]
      refine iteF ?_
      -- distances
      refine ⟨_, rfl, jt, n + m, _, rfl, hJ.same (s12.trans s13), treeJ, fun dl H14 hdl s14 hRw => ?_⟩
      have s114 := (s12.trans s13).trans s14
      refine ⟨_, rfl, jt, C, dxj, _, _, rfl, s114 _ _ hj1, T.cl, T.nS, tfs_size _ _, _, rfl, by show 2 ≤ sizeLine; decide, fun tp htp => ?_⟩
      have s914 := s913.trans s14
      have s15 := s914.trans (Same.new (o := .tup [.int ((n + m : Nat) : Int), .ref p]) htp)
      have ht15 : upd H14 tp (.tup [.int ((n + m : Nat) : Int), .ref p]) tp = some (.tup [.int ((n + m : Nat) : Int), .ref p]) := upd_same
      have hRw15 := hRw.same (Same.new (o := .tup [.int ((n + m : Nat) : Int), .ref p]) htp)
      have hJ15 := (hJ.same s114).same (Same.new (o := .tup [.int ((n + m : Nat) : Int), .ref p]) htp)
      generalize upd H14 tp (.tup [.int ((n + m : Nat) : Int), .ref p]) = H15 at s15 ht15 hRw15 hJ15 ⊢
      refine ⟨tp, p, n + m, _, rfl, ⟨vs, ht15, s15 _ _ hDue.1, hDue.2.same s15⟩, treeJ, fun d2 H16 hd2 s16 hRw2 => ?_⟩
      refine ⟨_, _, dp_rows (hRw15.same s16), dp_rows hRw2, shaped_rows _, shaped_rows _, _, rfl, ?_⟩
      rw [eqv_rows, decide_eq_true (show rowsD (n + m) (joinedRs n rs x len qs) = rowsD (n + m) (joinedRs n rs x len qs) from rfl)]
      refine iteF ?_
      have s916 := s15.trans s16
      have hJ16 := hJ15.same s16
      obtain ⟨dxk, rk, vk, hk1, _⟩ := id hJ16
      -- found.roads().clear()
      refine ⟨_, rfl, jt, dxk, _, rfl, hk1, tfs_no _ _ (by decide +kernel) (by decide +kernel), jt, _, _, rfl, hJ16, fun q3 w3 H17 hq3 s17 hq17 hR17 => ?_⟩
      refine ⟨.inl ⟨rfl, _, SqL.of hq17⟩, q3, _, rfl, rfl, hq17, ?_⟩
      have s1617 := Same.mut (o := .lst []) s17 hq3
      refine of_nx ?_
      show tSeq _ _ _ _ (upd H17 q3 (.lst []))
      generalize upd H17 q3 (.lst []) = H18 at s1617 ⊢
      have s918 := s916.trans s1617
      have hJ18 := hJ16.same s1617
      refine ⟨_, rfl, jt, dxk, _, rfl, s1617 _ _ hk1, tfs_no _ _ (by decide +kernel) (by decide +kernel), jt, _, _, rfl, hJ18, fun q4 w4 H19 hq4 s19 hq19 hR19 => ?_⟩
      have s919 := s918.trans s19
      refine ⟨_, rfl, _, _, .lst (SqL.of hq19) (dp_roads hR19), .lst (SqL.of (s919 _ _ hDue.1)) (dp_roads (hDue.2.same s919)), shaped_roads _, shaped_roads _, _, rfl, ?_⟩
      rw [eqv_roads, decide_eq_true (show joinedRs n rs x len qs = joinedRs n rs x len qs from rfl)]
      refine iteF ?_
      replace hA := hA.same s919
      replace hTo := hTo.same s919
      replace hS := s919.seq hS
      refine of_nx ?_
      show tSeq _ _ _ [some (.ref a), some (.ref t), some (.ref tr), some (.ref t2), some (.int x), some (.int len), some (.ref p), v7, v8, v9, some (.ref sc), some (.ref jt), none, none, none, none] H19
      clear hRw hRw15 hRw2 hJ16 hJ18 hJ15 hJ hDue hR12 hR13 hR17 hR19 s1617 hq17 hq19 hq12 hq13
      clear hT hL hR us
      obtain ⟨us, hT, hL, hR⟩ := id hTo
      have ul := roads_len hR
      -- no road
      refine ⟨_, rfl, t, _, 1, _, rfl, rfl, SqT.of hT, rfl, Nat.zero_le _, fun e0 he0 => ?_⟩
      have s20 := Same.new (o := .lst []) he0
      have he1 : upd H19 e0 (.lst []) e0 = some (.lst []) := upd_same
      generalize upd H19 e0 (.lst []) = H20 at s20 he1 ⊢
      replace hA := hA.same s20
      replace hTo := hTo.same s20
      replace hS := s20.seq hS
      replace hT := s20 _ _ hT
      replace hL := s20 _ _ hL
      replace hR := hR.same s20
      refine ⟨_, _, .lst (SqL.of hL) (dp_roads hR), .lst (SqL.of he1) (dp_roads (rs := []) .nil), shaped_roads _, shaped_roads _, _, rfl, ?_⟩
      rw [eqv_roads]
      obtain ⟨dx9, r9, v9', h91, _⟩ := id hA
      by_cases c0 : rs = []
      · rw [decide_eq_true c0]
        refine iteT ?_
        refine ⟨_, rfl, tr, dx9, _, rfl, h91, tfs_no _ _ (by decide +kernel) (by decide +kernel), tr, _, _, rfl, hA, fun q5 w5 H21 hq5 s21 hq21 hR21 => ?_⟩
        refine ⟨Nat.zero_le _, fun e2 he2 => ?_⟩
        have s22 := Same.new (o := .lst []) he2
        have he22 : upd H21 e2 (.lst []) e2 = some (.lst []) := upd_same
        generalize upd H21 e2 (.lst []) = H22 at s22 he22 ⊢
        refine ⟨_, _, .lst (SqL.of (s22 _ _ hq21)) (dp_roads (hR21.same s22)), .lst (SqL.of he22) (dp_roads (rs := []) .nil), shaped_roads _, shaped_roads _, ?_⟩
        rw [eqv_roads, decide_eq_true c0]
        exact k _
      · rw [decide_eq_false c0]
        refine iteF ?_
        have rpos : 0 < rs.length := List.length_pos_iff.mpr c0
        have upos : (0 : Int) < (us.length : Nat) := by omega
        refine ⟨_, rfl, a, ns, 6, rfl, hS, _, rfl, t, _, 1, _, rfl, rfl, SqT.of hT, rfl, l, us, rfl, .inl (SqL.of hL), _, _, rfl, rfl, upos, ?_⟩
        refine ⟨_, rfl, a, ns, 7, rfl, hS, _, rfl, t, _, 0, _, rfl, rfl, SqT.of hT, rfl, _, _, rfl, rfl, npos, ?_⟩
        refine ⟨_, rfl, a, ns, 8, rfl, hS, _, rfl, t, _, 0, _, rfl, rfl, SqT.of hT, rfl, _, _, rfl, rfl, npos, ?_⟩
        have hx0 : 0 ≤ cellV ns 7 % (n : Int) ∧ cellV ns 7 % (n : Int) < n := ⟨Int.emod_nonneg _ (by omega), Int.emod_lt_of_pos _ npos⟩
        have hy0 : 0 ≤ cellV ns 8 % (n : Int) ∧ cellV ns 8 % (n : Int) < n := ⟨Int.emod_nonneg _ (by omega), Int.emod_lt_of_pos _ npos⟩
        have hi0 : 0 ≤ cellV ns 6 % ((us.length : Nat) : Int) ∧ cellV ns 6 % ((us.length : Nat) : Int) < (us.length : Nat) := ⟨Int.emod_nonneg _ (by omega), Int.emod_lt_of_pos _ upos⟩
        refine of_gName (of_nx ?_)
        show tSeq _ _ _ [some (.ref a), some (.ref t), some (.ref tr), some (.ref t2), some (.int x), some (.int len), some (.ref p), v7, v8, v9, some (.ref sc), some (.ref jt), some (.int (cellV ns 6 % ((us.length : Nat) : Int))), some (.int (cellV ns 7 % (n : Int))), some (.int (cellV ns 8 % (n : Int))), none] H20
        generalize cellV ns 7 % (n : Int) = cx at hx0 ⊢
        generalize cellV ns 8 % (n : Int) = cy at hy0 ⊢
        generalize cellV ns 6 % ((us.length : Nat) : Int) = ci at hi0 ⊢
        obtain ⟨i, rfl⟩ : ∃ i : Nat, ci = i := ⟨ci.toNat, by omega⟩
        obtain ⟨r, hi⟩ : ∃ r, rs[i]? = some r := ⟨_, List.getElem?_eq_getElem (by omega)⟩
        obtain ⟨tz, d1, d2⟩ := told_at (t := t) (l := l) (n := n) hR hi
        -- near
        refine ⟨_, rfl, _, rfl, _, rfl, t, _, 1, _, rfl, rfl, SqT.of hT, rfl, _, rfl, l, us, (i : Int), _, rfl, rfl, SqL.of hL, atI_nat d1, tz, _, 0, _, rfl, rfl, SqT.of d2, rfl, t, l, n, rs, i, r, r.a, r.b, rfl, hTo, tree, hi, .inl ⟨rfl, rfl⟩, fun nr H21 hnr s21 hnr1 => ?_⟩
        -- due
        refine ⟨_, rfl, t, _, 1, _, rfl, rfl, SqT.of (s21 _ _ hT), rfl, l, us, rfl, .inl (SqL.of (s21 _ _ hL)), fun dl hdl => ?_⟩
        have s22 := s21.trans (Same.new (o := .lst us) hdl)
        have hnr2 := keepN (u := .lst us) hnr1 hdl
        have hdl2 : upd H21 dl (.lst us) dl = some (.lst us) := upd_same
        have hdlH : H20 dl = none := s21.free hdl
        have nnd : nr ≠ dl := ne_of_none hnr1 hdl
        refine of_gName (of_nx ?_)
        show tSeq _ _ _ _ (upd H21 dl (.lst us))
        generalize upd H21 dl (.lst us) = H22 at s22 hnr2 hdl2 ⊢
        refine ⟨_, rfl, _, rfl, _, rfl, _, rfl, dl, us, (i : Int), _, rfl, rfl, SqL.of hdl2, atI_nat d1, tz, _, 2, _, rfl, rfl, SqT.of (s22 _ _ d2), rfl, by show 3 ≤ sizeLine; decide, fun tq htq => ?_⟩
        have s23 := s22.trans (Same.new (o := .tup [.int cx, .int cy, .int r.l]) htq)
        have hnr3 := keepN (u := .tup [.int cx, .int cy, .int r.l]) hnr2 htq
        have hdl3 := keepN (u := .tup [.int cx, .int cy, .int r.l]) hdl2 htq
        have htq3 : upd H22 tq (.tup [.int cx, .int cy, .int r.l]) tq = some (.tup [.int cx, .int cy, .int r.l]) := upd_same
        generalize upd H22 tq (.tup [.int cx, .int cy, .int r.l]) = H23 at s23 hnr3 hdl3 htq3 ⊢
        refine ⟨_, rfl, _, rfl, dl, _, _, i, rfl, rfl, hdl3, (by unfold ixN; rw [if_pos (by omega), if_pos (by omega)]; rfl), ?_⟩
        have s24 := Same.mut (o := .lst (us.set i (.ref tq))) s23 hdlH
        have hnr4 : upd H23 dl (.lst (us.set i (.ref tq))) nr = some (.lst ((sideL n rs r.a r.b r.l).map V.int)) := by rw [upd_ne nnd]; exact hnr3
        have hdl4 : upd H23 dl (.lst (us.set i (.ref tq))) dl = some (.lst (us.set i (.ref tq))) := upd_same
        have hR4 : RoadsAt (upd H23 dl (.lst (us.set i (.ref tq)))) (rs.set i ⟨cx, cy, r.l⟩) (us.set i (.ref tq)) := paired_set ⟨tq, rfl, keepU htq3 hdl3 (by intro z; cases z)⟩ i (hR.same s24)
        refine of_nx ?_
        show C8.tCut _ _ _ [some (.ref a), some (.ref t), some (.ref tr), some (.ref t2), some (.int x), some (.int len), some (.ref dl), v7, v8, v9, some (.ref sc), some (.ref jt), some (.int (i : Int)), some (.int cx), some (.int cy), some (.ref nr)] (upd H23 dl (.lst (us.set i (.ref tq))))
        generalize upd H23 dl (.lst (us.set i (.ref tq))) = H24 at s24 hnr4 hdl4 hR4 ⊢
        have fl : (cx ∈ flood n rs i r.a ↔ cy ∈ flood n rs i r.a) ↔ (cx ∈ sideL n rs r.a r.b r.l ↔ cy ∈ sideL n rs r.a r.b r.l) := by
          rw [flood_sideL tree hi (.inl ⟨rfl, rfl⟩), flood_sideL tree hi (.inl ⟨rfl, rfl⟩)]
        refine ⟨fun σ' H' => ∃ dd w, σ' = [some (.ref a), some (.ref t), some (.ref tr), some (.ref t2), some (.int x), some (.int len), some (.ref dd), v7, v8, v9, some (.ref sc), some (.ref jt), some (.int (i : Int)), some (.int cx), some (.int cy), some (.ref nr)] ∧ Same H20 H' ∧ H' dd = some (.lst w) ∧ RoadsAt H' (if (cx ∈ flood n rs i r.a ↔ cy ∈ flood n rs i r.a) then [] else rs.set i ⟨cx, cy, r.l⟩) w, ?_, ?_⟩
        · have t1 := val_inI (K := K) (σ := [some (.ref a), some (.ref t), some (.ref tr), some (.ref t2), some (.int x), some (.int len), some (.ref dl), v7, v8, v9, some (.ref sc), some (.ref jt), some (.int (i : Int)), some (.int cx), some (.int cy), some (.ref nr)]) (H := H24) (ta := tVar 13) (tb := tVar 15) (x := cx) (val_var rfl) (val_var rfl) (.inl (SqL.of hnr4))
          have t2' := val_inI (K := K) (σ := [some (.ref a), some (.ref t), some (.ref tr), some (.ref t2), some (.int x), some (.int len), some (.ref dl), v7, v8, v9, some (.ref sc), some (.ref jt), some (.int (i : Int)), some (.int cx), some (.int cy), some (.ref nr)]) (H := H24) (ta := tVar 14) (tb := tVar 15) (x := cy) (val_var rfl) (val_var rfl) (.inl (SqL.of hnr4))
          refine st_if (ans_eq t1 t2' rfl (by rw [dec_bl])) (fun c => ?_) (fun c => ?_)
          · have c' : (cx ∈ flood n rs i r.a ↔ cy ∈ flood n rs i r.a) := fl.mpr (by simpa using c)
            refine ⟨Nat.zero_le _, fun e2 he2 => ?_⟩
            refine ⟨e2, [], rfl, s24.trans (Same.new he2), upd_same, ?_⟩
            rw [if_pos c']
            exact .nil
          · have c' : ¬ (cx ∈ flood n rs i r.a ↔ cy ∈ flood n rs i r.a) := fun h => by
              have h2 := fl.mp h
              have e : decide (cx ∈ sideL n rs r.a r.b r.l) = decide (cy ∈ sideL n rs r.a r.b r.l) := decide_eq_decide.mpr h2
              rw [e] at c
              simp at c
            refine ⟨dl, _, rfl, s24, hdl4, ?_⟩
            rw [if_neg c']
            exact hR4
        · rintro σ' H25 ⟨dd, w, rfl, s25, hdd, hRd⟩
          refine ⟨_, rfl, _, rfl, _, rfl, _, rfl, tr, n, rs, i, r, cx, cy, rfl, hA.same s25, tree, hi, hx0, hy0, fun q6 w6 H26 s26 hq6 hR6 => ?_⟩
          refine ⟨_, rfl, _, _, .lst (SqL.of hq6) (dp_roads hR6), .lst (SqL.of (s26 _ _ hdd)) (dp_roads (hRd.same s26)), shaped_roads _, shaped_roads _, _, rfl, ?_⟩
          rw [eqv_roads, decide_eq_true rfl]
          refine iteT ?_
          have s27 := s25.trans s26
          refine ⟨_, rfl, tr, dx9, _, rfl, s27 _ _ h91, tfs_no _ _ (by decide +kernel) (by decide +kernel), tr, _, _, rfl, hA.same s27, fun q7 w7 H28 hq7 s28 hq78 hR7 => ?_⟩
          have s2028 := s27.trans s28
          refine ⟨_, rfl, t, _, 1, _, rfl, rfl, SqT.of (s2028 _ _ hT), rfl, _, _, .lst (SqL.of hq78) (dp_roads hR7), .lst (SqL.of (s2028 _ _ hL)) (dp_roads (hR.same s2028)), shaped_roads _, shaped_roads _, ?_⟩
          rw [eqv_roads, decide_eq_true (show rs = rs from rfl)]
          exact k _
end
end Wr

namespace Wr
open PySem L2
theorem all_mk {l : PySem.W.OpenLaw} {w : World} {K : PySem.W.Frag} {h : Heap} {mg : Str → Option Value} {fa : Addr} (X : K.In h) (G : h.Ns mainGlobals mg) (hfa : mg "law" = some (.ref fa))
    {CT CBadTree CNoVillage CNoRoad CBadNumber CBadRow CRoadError fis_whole fwithin fis_road fwalked froads fvillage finit fdistances fcell fdraw fname ftold frows finitX fsides fjoined fmoved fside fsides_right flmoved flaw : Addr} {odis_whole anis_whole odwithin anwithin odis_road anis_road odwalked anwalked odroads anroads odvillage anvillage odinit aninit oddistances andistances odcell ancell oddraw andraw odname anname odtold antold odrows anrows odinitX aninitX odsides ansides odjoined anjoined odmoved anmoved odside anside odsides_right ansides_right odlmoved anlmoved odlaw anlaw : Option Addr} {slis_whole slwithin slis_road slwalked slroads slvillage slinit sldistances slcell sldraw slname sltold slrows slinitX slsides sljoined slmoved slside slsides_right sllmoved sllaw : Array (Option Value)} {ocis_whole kVis_whole dcis_whole pmis_whole cdis_whole ctis_whole ocwithin kVwithin dcwithin pmwithin cdwithin ctwithin ocis_road kVis_road dcis_road pmis_road cdis_road ctis_road ocwalked kVwalked dcwalked pmwalked cdwalked ctwalked ocroads kVroads dcroads pmroads cdroads ctroads ocvillage kVvillage dcvillage pmvillage cdvillage ctvillage ocinit kVinit dcinit pminit cdinit ctinit ocdistances kVdistances dcdistances pmdistances cddistances ctdistances occell kVcell dccell pmcell cdcell ctcell ocdraw kVdraw dcdraw pmdraw cddraw ctdraw ocname kVname dcname pmname cdname ctname octold kVtold dctold pmtold cdtold cttold ocrows kVrows dcrows pmrows cdrows ctrows ocinitX kVinitX dcinitX pminitX cdinitX ctinitX ocsides kVsides dcsides pmsides cdsides ctsides ocjoined kVjoined dcjoined pmjoined cdjoined ctjoined ocmoved kVmoved dcmoved pmmoved cdmoved ctmoved ocside kVside dcside pmside cdside ctside ocsides_right kVsides_right dcsides_right pmsides_right cdsides_right ctsides_right oclmoved kVlmoved dclmoved pmlmoved cdlmoved ctlmoved oclaw kVlaw dclaw pmlaw cdlaw ctlaw : Value} {tMOST tLONGEST : Tok}
    (aCT : PySem.W.nsIn K mainGlobals "Tree" = some (some (.ref CT)))
    (pgT : PySem.W.plainGet K CT Str.empty = true)
    (hdT : PySem.W.hasDictIn K CT = true)
    (poT : PySem.W.plainOver K CT = true)
    (saT : PySem.W.findIn K (.ref CT) "__setattr__" = some (some (.builtin "object.__setattr__")))
    (mkT : PySem.W.makesIn K CT = true)
    (kcT : PySem.W.keepIn K (.ref CT) = true)
    (nT_size : PySem.W.findIn K (.ref CT) "size" = some none)
    (nT_rows : PySem.W.findIn K (.ref CT) "rows" = some none)
    (aCBadTree : PySem.W.nsIn K mainGlobals "BadTree" = some (some (.ref CBadTree)))
    (aCNoVillage : PySem.W.nsIn K mainGlobals "NoVillage" = some (some (.ref CNoVillage)))
    (aCNoRoad : PySem.W.nsIn K mainGlobals "NoRoad" = some (some (.ref CNoRoad)))
    (aCBadNumber : PySem.W.nsIn K mainGlobals "BadNumber" = some (some (.ref CBadNumber)))
    (aCBadRow : PySem.W.nsIn K mainGlobals "BadRow" = some (some (.ref CBadRow)))
    (aCRoadError : PySem.W.nsIn K mainGlobals "RoadError" = some (some (.ref CRoadError)))
    (aMOST : PySem.W.nsIn K mainGlobals "MOST" = some (some (.int 12 tMOST)))
    (aLONGEST : PySem.W.nsIn K mainGlobals "LONGEST" = some (some (.int 1000000 tLONGEST)))
    (ais_whole : PySem.W.nsIn K mainGlobals "is_whole" = some (some (.ref fis_whole)))
    (lis_whole : K.lookup fis_whole = some ⟨ocis_whole, odis_whole, .func (PySem.W.fnOf "is_whole" "is_whole" (defArgs S_is_whole) (defBody S_is_whole) (defScope S_is_whole) .none kVis_whole dcis_whole pmis_whole anis_whole cdis_whole ctis_whole), slis_whole⟩)
    (cis_whole : PySem.W.codeIn K cdis_whole "is_whole" = true)
    (kis_whole : PySem.W.keepIn K (.ref fis_whole) = true)
    (awithin : PySem.W.nsIn K mainGlobals "within" = some (some (.ref fwithin)))
    (lwithin : K.lookup fwithin = some ⟨ocwithin, odwithin, .func (PySem.W.fnOf "within" "within" (defArgs S_within) (defBody S_within) (defScope S_within) .none kVwithin dcwithin pmwithin anwithin cdwithin ctwithin), slwithin⟩)
    (cwithin : PySem.W.codeIn K cdwithin "within" = true)
    (kwithin : PySem.W.keepIn K (.ref fwithin) = true)
    (ais_road : PySem.W.nsIn K mainGlobals "is_road" = some (some (.ref fis_road)))
    (lis_road : K.lookup fis_road = some ⟨ocis_road, odis_road, .func (PySem.W.fnOf "is_road" "is_road" (defArgs S_is_road) (defBody S_is_road) (defScope S_is_road) .none kVis_road dcis_road pmis_road anis_road cdis_road ctis_road), slis_road⟩)
    (cis_road : PySem.W.codeIn K cdis_road "is_road" = true)
    (kis_road : PySem.W.keepIn K (.ref fis_road) = true)
    (awalked : PySem.W.findIn K (.ref CT) "walked" = some (some (.ref fwalked)))
    (iwalked : PySem.W.isFn K (.ref fwalked) = true)
    (lwalked : K.lookup fwalked = some ⟨ocwalked, odwalked, .func (PySem.W.fnOf "walked" "Tree.walked" (defArgs S_Tree_walked) (defBody S_Tree_walked) (defScope S_Tree_walked) .none kVwalked dcwalked pmwalked anwalked cdwalked ctwalked), slwalked⟩)
    (cwalked : PySem.W.codeIn K cdwalked "Tree.walked" = true)
    (kwalked : PySem.W.keepIn K (.ref fwalked) = true)
    (aroads : PySem.W.findIn K (.ref CT) "roads" = some (some (.ref froads)))
    (iroads : PySem.W.isFn K (.ref froads) = true)
    (lroads : K.lookup froads = some ⟨ocroads, odroads, .func (PySem.W.fnOf "roads" "Tree.roads" (defArgs S_Tree_roads) (defBody S_Tree_roads) (defScope S_Tree_roads) .none kVroads dcroads pmroads anroads cdroads ctroads), slroads⟩)
    (croads : PySem.W.codeIn K cdroads "Tree.roads" = true)
    (kroads : PySem.W.keepIn K (.ref froads) = true)
    (avillage : PySem.W.findIn K (.ref CT) "village" = some (some (.ref fvillage)))
    (ivillage : PySem.W.isFn K (.ref fvillage) = true)
    (lvillage : K.lookup fvillage = some ⟨ocvillage, odvillage, .func (PySem.W.fnOf "village" "Tree.village" (defArgs S_Tree_village) (defBody S_Tree_village) (defScope S_Tree_village) .none kVvillage dcvillage pmvillage anvillage cdvillage ctvillage), slvillage⟩)
    (cvillage : PySem.W.codeIn K cdvillage "Tree.village" = true)
    (kvillage : PySem.W.keepIn K (.ref fvillage) = true)
    (ainit : PySem.W.findIn K (.ref CT) "__init__" = some (some (.ref finit)))
    (iinit : PySem.W.isFn K (.ref finit) = true)
    (linit : K.lookup finit = some ⟨ocinit, odinit, .func (PySem.W.fnOf "__init__" "Tree.__init__" (defArgs S_Tree_init) (defBody S_Tree_init) (defScope S_Tree_init) .none kVinit dcinit pminit aninit cdinit ctinit), slinit⟩)
    (cinit : PySem.W.codeIn K cdinit "Tree.__init__" = true)
    (kinit : PySem.W.keepIn K (.ref finit) = true)
    (adistances : PySem.W.nsIn K mainGlobals "distances" = some (some (.ref fdistances)))
    (ldistances : K.lookup fdistances = some ⟨ocdistances, oddistances, .func (PySem.W.fnOf "distances" "distances" (defArgs S_distances) (defBody S_distances) (defScope S_distances) .none kVdistances dcdistances pmdistances andistances cddistances ctdistances), sldistances⟩)
    (cdistances : PySem.W.codeIn K cddistances "distances" = true)
    (kdistances : PySem.W.keepIn K (.ref fdistances) = true)
    (acell : PySem.W.nsIn K mainGlobals "_law_cell_at" = some (some (.ref fcell)))
    (lcell : K.lookup fcell = some ⟨occell, odcell, .func (PySem.W.fnOf "_law_cell_at" "_law_cell_at" (defArgs S_law_cell_at) (defBody S_law_cell_at) (defScope S_law_cell_at) .none kVcell dccell pmcell ancell cdcell ctcell), slcell⟩)
    (ccell : PySem.W.codeIn K cdcell "_law_cell_at" = true)
    (kcell : PySem.W.keepIn K (.ref fcell) = true)
    (adraw : PySem.W.nsIn K mainGlobals "_law_draw" = some (some (.ref fdraw)))
    (ldraw : K.lookup fdraw = some ⟨ocdraw, oddraw, .func (PySem.W.fnOf "_law_draw" "_law_draw" (defArgs S_law_draw) (defBody S_law_draw) (defScope S_law_draw) .none kVdraw dcdraw pmdraw andraw cddraw ctdraw), sldraw⟩)
    (cdraw : PySem.W.codeIn K cddraw "_law_draw" = true)
    (kdraw : PySem.W.keepIn K (.ref fdraw) = true)
    (aname : PySem.W.nsIn K mainGlobals "_law_name" = some (some (.ref fname)))
    (lname : K.lookup fname = some ⟨ocname, odname, .func (PySem.W.fnOf "_law_name" "_law_name" (defArgs S_law_name) (defBody S_law_name) (defScope S_law_name) .none kVname dcname pmname anname cdname ctname), slname⟩)
    (cname : PySem.W.codeIn K cdname "_law_name" = true)
    (kname : PySem.W.keepIn K (.ref fname) = true)
    (atold : PySem.W.nsIn K mainGlobals "_law_told" = some (some (.ref ftold)))
    (ltold : K.lookup ftold = some ⟨octold, odtold, .func (PySem.W.fnOf "_law_told" "_law_told" (defArgs S_law_told) (defBody S_law_told) (defScope S_law_told) .none kVtold dctold pmtold antold cdtold cttold), sltold⟩)
    (ctold : PySem.W.codeIn K cdtold "_law_told" = true)
    (ktold : PySem.W.keepIn K (.ref ftold) = true)
    (arows : PySem.W.nsIn K mainGlobals "_law_rows" = some (some (.ref frows)))
    (lrows : K.lookup frows = some ⟨ocrows, odrows, .func (PySem.W.fnOf "_law_rows" "_law_rows" (defArgs S_law_rows) (defBody S_law_rows) (defScope S_law_rows) .none kVrows dcrows pmrows anrows cdrows ctrows), slrows⟩)
    (crows : PySem.W.codeIn K cdrows "_law_rows" = true)
    (krows : PySem.W.keepIn K (.ref frows) = true)
    (ainitX : PySem.W.findIn K (.ref CT) "__init__" = some (some (.ref finitX)))
    (iinitX : PySem.W.isFn K (.ref finitX) = true)
    (linitX : K.lookup finitX = some ⟨ocinitX, odinitX, .func (PySem.W.fnOf "__init__" "Tree.__init__" (defArgs S_Tree_init) (defBody S_Tree_init) (defScope S_Tree_init) .none kVinitX dcinitX pminitX aninitX cdinitX ctinitX), slinitX⟩)
    (cinitX : PySem.W.codeIn K cdinitX "Tree.__init__" = true)
    (kinitX : PySem.W.keepIn K (.ref finitX) = true)
    (asides : PySem.W.nsIn K mainGlobals "sides" = some (some (.ref fsides)))
    (lsides : K.lookup fsides = some ⟨ocsides, odsides, .func (PySem.W.fnOf "sides" "sides" (defArgs S_sides) (defBody S_sides) (defScope S_sides) .none kVsides dcsides pmsides ansides cdsides ctsides), slsides⟩)
    (csides : PySem.W.codeIn K cdsides "sides" = true)
    (ksides : PySem.W.keepIn K (.ref fsides) = true)
    (ajoined : PySem.W.nsIn K mainGlobals "joined" = some (some (.ref fjoined)))
    (ljoined : K.lookup fjoined = some ⟨ocjoined, odjoined, .func (PySem.W.fnOf "joined" "joined" (defArgs S_joined) (defBody S_joined) (defScope S_joined) .none kVjoined dcjoined pmjoined anjoined cdjoined ctjoined), sljoined⟩)
    (cjoined : PySem.W.codeIn K cdjoined "joined" = true)
    (kjoined : PySem.W.keepIn K (.ref fjoined) = true)
    (amoved : PySem.W.nsIn K mainGlobals "moved" = some (some (.ref fmoved)))
    (lmoved : K.lookup fmoved = some ⟨ocmoved, odmoved, .func (PySem.W.fnOf "moved" "moved" (defArgs S_moved) (defBody S_moved) (defScope S_moved) .none kVmoved dcmoved pmmoved anmoved cdmoved ctmoved), slmoved⟩)
    (cmoved : PySem.W.codeIn K cdmoved "moved" = true)
    (kmoved : PySem.W.keepIn K (.ref fmoved) = true)
    (aside : PySem.W.nsIn K mainGlobals "_law_side" = some (some (.ref fside)))
    (lside : K.lookup fside = some ⟨ocside, odside, .func (PySem.W.fnOf "_law_side" "_law_side" (defArgs S_law_side) (defBody S_law_side) (defScope S_law_side) .none kVside dcside pmside anside cdside ctside), slside⟩)
    (cside : PySem.W.codeIn K cdside "_law_side" = true)
    (kside : PySem.W.keepIn K (.ref fside) = true)
    (asides_right : PySem.W.nsIn K mainGlobals "_law_sides_right" = some (some (.ref fsides_right)))
    (lsides_right : K.lookup fsides_right = some ⟨ocsides_right, odsides_right, .func (PySem.W.fnOf "_law_sides_right" "_law_sides_right" (defArgs S_law_sides_right) (defBody S_law_sides_right) (defScope S_law_sides_right) .none kVsides_right dcsides_right pmsides_right ansides_right cdsides_right ctsides_right), slsides_right⟩)
    (csides_right : PySem.W.codeIn K cdsides_right "_law_sides_right" = true)
    (ksides_right : PySem.W.keepIn K (.ref fsides_right) = true)
    (almoved : PySem.W.nsIn K mainGlobals "_law_moved" = some (some (.ref flmoved)))
    (llmoved : K.lookup flmoved = some ⟨oclmoved, odlmoved, .func (PySem.W.fnOf "_law_moved" "_law_moved" (defArgs S_law_moved) (defBody S_law_moved) (defScope S_law_moved) .none kVlmoved dclmoved pmlmoved anlmoved cdlmoved ctlmoved), sllmoved⟩)
    (clmoved : PySem.W.codeIn K cdlmoved "_law_moved" = true)
    (klmoved : PySem.W.keepIn K (.ref flmoved) = true)
    (alaw : PySem.W.nsIn K mainGlobals "law" = some (some (.ref flaw)))
    (llaw : K.lookup flaw = some ⟨oclaw, odlaw, .func (PySem.W.fnOf "law" "law" (defArgs S_law) (defBody S_law) (defScope S_law) .none kVlaw dclaw pmlaw anlaw cdlaw ctlaw), sllaw⟩)
    (claw : PySem.W.codeIn K cdlaw "law" = true)
    (klaw : PySem.W.keepIn K (.ref flaw) = true)
    (xBadTree : PySem.W.excIn K CBadTree [.type "ValueError", .type "Exception", .type "BaseException", .type "object"] "ValueError.__new__" = true)
    (kBadTree : PySem.W.keepIn K (.ref CBadTree) = true)
    (bBadTree : PySem.W.subIn K (.ref CBadTree) (.type "BaseException") = some true)
    (tBadTree : PySem.W.typeIn K (.ref CBadTree) = some (.type "type"))
    (xNoRoad : PySem.W.excIn K CNoRoad [.type "ValueError", .type "Exception", .type "BaseException", .type "object"] "ValueError.__new__" = true)
    (kNoRoad : PySem.W.keepIn K (.ref CNoRoad) = true)
    (bNoRoad : PySem.W.subIn K (.ref CNoRoad) (.type "BaseException") = some true)
    (tNoRoad : PySem.W.typeIn K (.ref CNoRoad) = some (.type "type"))
    (egBadTree : PySem.W.findIn K (.ref CBadTree) "__getattribute__" = some (some (.builtin "BaseException.__getattribute__")))
    (ekBadTree : PySem.W.findIn K (.ref CBadTree) "__getattr__" = some none)
    (esBadTree : PySem.W.subIn K (.ref CBadTree) (.type "BaseException") = some true)
    (edBadTree : PySem.W.hasDictIn K CBadTree = true)
    (eaBadTree : PySem.W.findIn K (.ref CBadTree) "__class__" = some (some (.builtin "object.__class__")))
    (enBadTree : PySem.W.specialIn K (.builtin "object.__class__") "__get__" = some (some (.builtin "getset_descriptor.__get__")))
    (etBadTree : PySem.W.takesIn K (.builtin "object.__class__") = some true)
    (emBadTree : PySem.W.mroIn K CBadTree (.type "object") = some true)
    (ebRoadError : PySem.W.subIn K (.ref CRoadError) (.type "BaseException") = some true)
    (ehRoadError : PySem.W.hasDictIn K CRoadError = true)
    (eyRoadError : PySem.W.typeIn K (.ref CRoadError) = some (.type "type"))
    (ecBadTreeRoadError : PySem.W.subIn K (.ref CBadTree) (.ref CRoadError) = some true)
    (i1 : PySem.W.kitOne K (.ref CBadTree) (.ref CNoRoad) = some false)
    (i2 : PySem.W.kitOne K (.ref CBadTree) (.ref CNoVillage) = some false)
    (i3 : PySem.W.kitOne K (.ref CBadTree) (.ref CBadNumber) = some false)
    (i4 : PySem.W.kitOne K (.ref CBadTree) (.ref CBadRow) = some false)
    (i5 : PySem.W.kitOne K (.ref CBadTree) (.ref CBadTree) = some true)
    (zlen : PySem.W.nsIn K mainGlobals "len" = some none)
    (zisinstance : PySem.W.nsIn K mainGlobals "isinstance" = some none)
    (zlist : PySem.W.nsIn K mainGlobals "list" = some none)
    (zint : PySem.W.nsIn K mainGlobals "int" = some none)
    (zbool : PySem.W.nsIn K mainGlobals "bool" = some none)
    (ztuple : PySem.W.nsIn K mainGlobals "tuple" = some none)
    (zrange : PySem.W.nsIn K mainGlobals "range" = some none)
    (zset : PySem.W.nsIn K mainGlobals "set" = some none)
    (zsorted : PySem.W.nsIn K mainGlobals "sorted" = some none)
    (zsum : PySem.W.nsIn K mainGlobals "sum" = some none)
    (zmax : PySem.W.nsIn K mainGlobals "max" = some none)
    (zmin : PySem.W.nsIn K mainGlobals "min" = some none)
    (zany : PySem.W.nsIn K mainGlobals "any" = some none)
    (zall : PySem.W.nsIn K mainGlobals "all" = some none)
    (zreversed : PySem.W.nsIn K mainGlobals "reversed" = some none)
    (zstr : PySem.W.nsIn K mainGlobals "str" = some none)
    : ∃ fd : FuncData, (∀ (s : Shared) (v : Value), BindsTo s fd ⟨[v], []⟩ [("_law_script", v)]) ∧ ∀ base : Heap, K.In base → base.Ns mainGlobals mg → FnOk l.prog w K mg base CX0 8 fa fd ["_law_script"] (spLaw K) := by
  have e := hfa.symm.trans (PySem.W.mg_of X G alaw)
  cases e
  have B : Bi mg := ⟨PySem.W.mg_none_of X G zlen, PySem.W.mg_none_of X G zisinstance, PySem.W.mg_none_of X G zlist, PySem.W.mg_none_of X G zint, PySem.W.mg_none_of X G zbool, PySem.W.mg_none_of X G ztuple, PySem.W.mg_none_of X G zrange, PySem.W.mg_none_of X G zset, PySem.W.mg_none_of X G zsorted, PySem.W.mg_none_of X G zsum, PySem.W.mg_none_of X G zmax, PySem.W.mg_none_of X G zmin, PySem.W.mg_none_of X G zany, PySem.W.mg_none_of X G zall, PySem.W.mg_none_of X G zreversed, PySem.W.mg_none_of X G zstr⟩
  have F_is_whole := fun_mk (st := S_is_whole) lis_whole cis_whole kis_whole
  have F_within := fun_mk (st := S_within) lwithin cwithin kwithin
  have F_is_road := fun_mk (st := S_is_road) lis_road cis_road kis_road
  have F_walked := fun_mk (st := S_Tree_walked) lwalked cwalked kwalked
  have F_roads := fun_mk (st := S_Tree_roads) lroads croads kroads
  have F_village := fun_mk (st := S_Tree_village) lvillage cvillage kvillage
  have F_init := fun_mk (st := S_Tree_init) linit cinit kinit
  have F_distances := fun_mk (st := S_distances) ldistances cdistances kdistances
  have F_cell := fun_mk (st := S_law_cell_at) lcell ccell kcell
  have F_draw := fun_mk (st := S_law_draw) ldraw cdraw kdraw
  have F_name := fun_mk (st := S_law_name) lname cname kname
  have F_told := fun_mk (st := S_law_told) ltold ctold ktold
  have F_rows := fun_mk (st := S_law_rows) lrows crows krows
  have F_initX := fun_mk (st := S_Tree_init) linitX cinitX kinitX
  have F_sides := fun_mk (st := S_sides) lsides csides ksides
  have F_joined := fun_mk (st := S_joined) ljoined cjoined kjoined
  have F_moved := fun_mk (st := S_moved) lmoved cmoved kmoved
  have F_side := fun_mk (st := S_law_side) lside cside kside
  have F_sides_right := fun_mk (st := S_law_sides_right) lsides_right csides_right ksides_right
  have F_lmoved := fun_mk (st := S_law_moved) llmoved clmoved klmoved
  have F_law := fun_mk (st := S_law) llaw claw klaw
  refine ⟨PySem.W.fnOf "law" "law" (defArgs S_law) (defBody S_law) (defScope S_law) .none kVlaw dclaw pmlaw anlaw cdlaw ctlaw, fun s v => .of_eq rfl, fun base _ _ => ?_⟩
  have T : Tx K mg CT := ⟨⟨pgT, hdT, poT, saT⟩, nT_size, nT_rows⟩
  have mM : ∃ t, mg "MOST" = some (.int 12 t) := ⟨_, PySem.W.mg_of X G aMOST⟩
  have mL : ∃ t, mg "LONGEST" = some (.int 1000000 t) := ⟨_, PySem.W.mg_of X G aLONGEST⟩
  have X_BadTree : Xc K mg "BadTree" CBadTree := ⟨PySem.W.mg_of X G aCBadTree, xBadTree, kBadTree, bBadTree, tBadTree⟩
  have X_NoRoad : Xc K mg "NoRoad" CNoRoad := ⟨PySem.W.mg_of X G aCNoRoad, xNoRoad, kNoRoad, bNoRoad, tNoRoad⟩
  have EC_BadTree : ExcC K CBadTree := ⟨egBadTree, ekBadTree, esBadTree, edBadTree, eaBadTree, enBadTree, etBadTree, emBadTree⟩
  have ex_BadTree_RoadError : PySem.W.exmOne K (.ref CBadTree) (.ref CRoadError) = some true := PySem.W.exm_ref ebRoadError ehRoadError eyRoadError ecBadTreeRoadError
  have G_is_whole : Gd l.prog w K mg base 1 "is_whole" ["number"] (spWhole K) := gd_mk F_is_whole (PySem.W.mg_of X G ais_whole) (F_is_whole.binds fun _ _ _ _ _ _ us hl => match us, hl with | [_], _ => rfl) (ok_is_whole F_is_whole B)
  have G_within : Gd l.prog w K mg base 2 "within" ["number", "low", "high"] (spWithin K) := gd_mk F_within (PySem.W.mg_of X G awithin) (F_within.binds fun _ _ _ _ _ _ us hl => match us, hl with | [_, _, _], _ => rfl) (ok_within F_within G_is_whole)
  have G_is_road : Gd l.prog w K mg base 3 "is_road" ["thing", "villages"] (spRoad K) := gd_mk F_is_road (PySem.W.mg_of X G ais_road) (F_is_road.binds fun _ _ _ _ _ _ us hl => match us, hl with | [_, _], _ => rfl) (ok_is_road F_is_road B mL G_within)
  have G_walked : Gm l.prog w K mg base CT 1 "walked" ["self", "start"] (spWalked CT) := gm_mk ⟨awalked, iwalked, kwalked⟩ (F_walked.binds fun _ _ _ _ _ _ us hl => match us, hl with | [_, _], _ => rfl) (ok_walked F_walked T)
  have G_roads : Gm l.prog w K mg base CT 1 "roads" ["self"] (spRoads CT) := gm_mk ⟨aroads, iroads, kroads⟩ (F_roads.binds fun _ _ _ _ _ _ us hl => match us, hl with | [_], _ => rfl) (ok_roads F_roads T B)
  have G_village : Gm l.prog w K mg base CT 3 "village" ["self", "at"] (spVillage CT) := gm_mk ⟨avillage, ivillage, kvillage⟩ (F_village.binds fun _ _ _ _ _ _ us hl => match us, hl with | [_, _], _ => rfl) (ok_village F_village T G_within)
  have G_init : Gc l.prog w K mg base CT 4 "Tree" ["self", "villages", "roads"] (spInit (K := K) CT) := gc_mk (PySem.W.mg_of X G aCT) ⟨mkT, ainit, iinit, kcT⟩ (F_init.binds fun _ _ _ _ _ _ us hl => match us, hl with | [_, _, _], _ => rfl) (ok_init F_init T B mM G_within G_is_road G_walked)
  have G_distances : Gd l.prog w K mg base 2 "distances" ["tree"] (spDistances CT) := gd_mk F_distances (PySem.W.mg_of X G adistances) (F_distances.binds fun _ _ _ _ _ _ us hl => match us, hl with | [_], _ => rfl) (ok_distances F_distances T B G_walked)
  have G_cell : Gd l.prog w K mg base 1 "_law_cell_at" ["_law_script", "_law_k"] (spCell K) := gd_mk F_cell (PySem.W.mg_of X G acell) (F_cell.binds fun _ _ _ _ _ _ us hl => match us, hl with | [_, _], _ => rfl) (ok_cell F_cell B)
  have G_draw : Gd l.prog w K mg base 1 "_law_draw" ["_law_cell", "_law_k", "_law_many"] spDraw := gd_mk F_draw (PySem.W.mg_of X G adraw) (F_draw.binds fun _ _ _ _ _ _ us hl => match us, hl with | [_, _, _], _ => rfl) (ok_draw F_draw )
  have G_name : Gd l.prog w K mg base 1 "_law_name" ["_law_k", "_law_villages", "_law_turn"] spName := gd_mk F_name (PySem.W.mg_of X G aname) (F_name.binds fun _ _ _ _ _ _ us hl => match us, hl with | [_, _, _], _ => rfl) (ok_name F_name )
  have G_told : Gd l.prog w K mg base 2 "_law_told" ["_law_script", "_law_first", "_law_most"] (spTold K) := gd_mk F_told (PySem.W.mg_of X G atold) (F_told.binds fun _ _ _ _ _ _ us hl => match us, hl with | [_, _, _], _ => rfl) (ok_told F_told B G_cell G_draw G_name)
  have G_rows : Gd l.prog w K mg base 1 "_law_rows" ["_law_told_here"] spRows := gd_mk F_rows (PySem.W.mg_of X G arows) (F_rows.binds fun _ _ _ _ _ _ us hl => match us, hl with | [_], _ => rfl) (ok_rows F_rows B)
  have G_initX : GcN l.prog w K mg base CT 4 "Tree" ["self", "villages", "roads"] (spInitX (K := K) CT CBadTree) := gc_mkN (PySem.W.mg_of X G aCT) ⟨mkT, ainitX, iinitX, kcT⟩ (F_initX.binds fun _ _ _ _ _ _ us hl => match us, hl with | [_, _, _], _ => rfl) (ok_initX F_initX T B X_BadTree mM G_within G_is_road G_walked)
  have G_sides : Gd l.prog w K mg base 3 "sides" ["tree", "at"] (spSides CT) := gd_mk F_sides (PySem.W.mg_of X G asides) (F_sides.binds fun _ _ _ _ _ _ us hl => match us, hl with | [_, _], _ => rfl) (ok_sides F_sides T B G_within G_walked)
  have G_joined : Gd l.prog w K mg base 6 "joined" ["tree", "at", "other", "length"] (spJoined CT) := gd_mk F_joined (PySem.W.mg_of X G ajoined) (F_joined.binds fun _ _ _ _ _ _ us hl => match us, hl with | [_, _, _, _], _ => rfl) (ok_joined F_joined T B G_village G_roads G_init)
  have G_moved : GdN l.prog w K mg base 6 "moved" ["tree", "at", "one", "other"] (spMoved CT CBadTree) := gd_mkN F_moved (PySem.W.mg_of X G amoved) (F_moved.binds fun _ _ _ _ _ _ us hl => match us, hl with | [_, _, _, _], _ => rfl) (ok_moved F_moved T B X_NoRoad G_within G_village G_roads G_initX)
  have G_side : Gd l.prog w K mg base 1 "_law_side" ["_law_told_here", "_law_at", "_law_start"] spSide := gd_mk F_side (PySem.W.mg_of X G aside) (F_side.binds fun _ _ _ _ _ _ us hl => match us, hl with | [_, _, _], _ => rfl) (ok_side F_side B)
  have G_sides_right : Gd l.prog w K mg base 4 "_law_sides_right" ["_law_tree", "_law_told_here"] (spSidesRight CT) := gd_mk F_sides_right (PySem.W.mg_of X G asides_right) (F_sides_right.binds fun _ _ _ _ _ _ us hl => match us, hl with | [_, _], _ => rfl) (ok_sides_right F_sides_right B G_sides G_side)
  have G_lmoved : Gd l.prog w K mg base 7 "_law_moved" ["_law_tree", "_law_at", "_law_one", "_law_other"] (spLawMoved CT) := gd_mk F_lmoved (PySem.W.mg_of X G almoved) (F_lmoved.binds fun _ _ _ _ _ _ us hl => match us, hl with | [_, _, _, _], _ => rfl) (ok_law_moved F_lmoved T B (PySem.W.mg_of X G aCNoRoad) (PySem.W.mg_of X G aCNoVillage) (PySem.W.mg_of X G aCBadNumber) (PySem.W.mg_of X G aCBadRow) (PySem.W.mg_of X G aCBadTree) (PySem.W.mg_of X G aCRoadError) EC_BadTree ex_BadTree_RoadError i1 i2 i3 i4 i5 G_moved G_roads G_distances G_rows)
  exact ok_law F_law B T G_told G_init G_roads G_rows G_cell G_distances G_joined G_side G_sides_right G_lmoved
theorem walk {l : PySem.W.OpenLaw} {q : Program} {loose : List Str} {XP : (Str → Option Value) → Heap → Prop} {YP : World → Heap → Prop} {d : DefRec} {K : Params → PySem.W.Frag} (hn : l.most = some 63) (hdf : d.params.defaults = [])
    (hY : ∀ (w : World) (h : Heap), YP w h → (K w.params).In h)
    (F : ∀ (w : World) (mg : Str → Option Value) (fa : Addr) (h : Heap), (K w.params).In h → h.Ns mainGlobals mg → mg d.name = some (.ref fa) →
      ∃ fd : FuncData, (∀ (s : Shared) (u : Value), BindsTo s fd ⟨[u], []⟩ [("_law_script", u)]) ∧ ∀ base : Heap, (K w.params).In base → base.Ns mainGlobals mg → FnOk l.prog w (K w.params) mg base CX0 8 fa fd ["_law_script"] (spLaw (K w.params))) :
    PySem.W.WalkO q loose XP YP l.row.toRowW d [] (fun f vs => PySem.call f vs) :=
  L2.walk_of (n := 63) (k := 8) (x := "_law_script") (CX := fun _ => CX0) (sp := fun w => spLaw (K w.params)) hn (by decide) hdf ⟨rfl, by decide, by decide⟩ hY F (fun _ _ a ns hl _ hS => ⟨a, ns, rfl, hS, hl, fun _ => rfl⟩) fun _ _ _ _ _ z => z
end Wr

open PySem PySem.W PyProof.Rows
set_option maxRecDepth 100000 in
set_option maxHeartbeats 0 in
theorem PySem.Challenge.cw_wellroads_k07_cut_and_joined_holds : PySem.Challenge.rw_wellroads_k07_cut_and_joined.Holds := by
  w_on; o_law; k_head; (case hw => w_witness2)
  k_fill
  refine Wr.walk (l := PySem.Challenge.rw_wellroads_k07_cut_and_joined) rfl rfl (fun w h Y => PySem.W.kIn_of Y) ?F
  case F =>
    intro w mg fa h KX G hmg
    refine' Wr.all_mk KX G hmg ?aCT ?pgT ?hdT ?poT ?saT ?mkT ?kcT ?nT_size ?nT_rows ?aCBadTree ?aCNoVillage ?aCNoRoad ?aCBadNumber ?aCBadRow ?aCRoadError ?aMOST ?aLONGEST ?ais_whole ?lis_whole ?cis_whole ?kis_whole ?awithin ?lwithin ?cwithin ?kwithin ?ais_road ?lis_road ?cis_road ?kis_road ?awalked ?iwalked ?lwalked ?cwalked ?kwalked ?aroads ?iroads ?lroads ?croads ?kroads ?avillage ?ivillage ?lvillage ?cvillage ?kvillage ?ainit ?iinit ?linit ?cinit ?kinit ?adistances ?ldistances ?cdistances ?kdistances ?acell ?lcell ?ccell ?kcell ?adraw ?ldraw ?cdraw ?kdraw ?aname ?lname ?cname ?kname ?atold ?ltold ?ctold ?ktold ?arows ?lrows ?crows ?krows ?ainitX ?iinitX ?linitX ?cinitX ?kinitX ?asides ?lsides ?csides ?ksides ?ajoined ?ljoined ?cjoined ?kjoined ?amoved ?lmoved ?cmoved ?kmoved ?aside ?lside ?cside ?kside ?asides_right ?lsides_right ?csides_right ?ksides_right ?almoved ?llmoved ?clmoved ?klmoved ?alaw ?llaw ?claw ?klaw ?xBadTree ?kBadTree ?bBadTree ?tBadTree ?xNoRoad ?kNoRoad ?bNoRoad ?tNoRoad ?egBadTree ?ekBadTree ?esBadTree ?edBadTree ?eaBadTree ?enBadTree ?etBadTree ?emBadTree ?ebRoadError ?ehRoadError ?eyRoadError ?ecBadTreeRoadError ?i1 ?i2 ?i3 ?i4 ?i5 ?zlen ?zisinstance ?zlist ?zint ?zbool ?ztuple ?zrange ?zset ?zsorted ?zsum ?zmax ?zmin ?zany ?zall ?zreversed ?zstr
    (case aCT => k_is)
    (case pgT => k_is)
    (case hdT => k_is)
    (case poT => k_is)
    (case saT => k_is)
    (case mkT => k_is)
    (case kcT => k_is)
    (case nT_size => k_is)
    (case nT_rows => k_is)
    (case aCBadTree => k_is)
    (case aCNoVillage => k_is)
    (case aCNoRoad => k_is)
    (case aCBadNumber => k_is)
    (case aCBadRow => k_is)
    (case aCRoadError => k_is)
    (case aMOST => k_is)
    (case aLONGEST => k_is)
    (case ais_whole => k_is)
    (case lis_whole => k_is)
    (case cis_whole => k_is)
    (case kis_whole => k_is)
    (case awithin => k_is)
    (case lwithin => k_is)
    (case cwithin => k_is)
    (case kwithin => k_is)
    (case ais_road => k_is)
    (case lis_road => k_is)
    (case cis_road => k_is)
    (case kis_road => k_is)
    (case awalked => k_is)
    (case iwalked => k_is)
    (case lwalked => k_is)
    (case cwalked => k_is)
    (case kwalked => k_is)
    (case aroads => k_is)
    (case iroads => k_is)
    (case lroads => k_is)
    (case croads => k_is)
    (case kroads => k_is)
    (case avillage => k_is)
    (case ivillage => k_is)
    (case lvillage => k_is)
    (case cvillage => k_is)
    (case kvillage => k_is)
    (case ainit => k_is)
    (case iinit => k_is)
    (case linit => k_is)
    (case cinit => k_is)
    (case kinit => k_is)
    (case adistances => k_is)
    (case ldistances => k_is)
    (case cdistances => k_is)
    (case kdistances => k_is)
    (case acell => k_is)
    (case lcell => k_is)
    (case ccell => k_is)
    (case kcell => k_is)
    (case adraw => k_is)
    (case ldraw => k_is)
    (case cdraw => k_is)
    (case kdraw => k_is)
    (case aname => k_is)
    (case lname => k_is)
    (case cname => k_is)
    (case kname => k_is)
    (case atold => k_is)
    (case ltold => k_is)
    (case ctold => k_is)
    (case ktold => k_is)
    (case arows => k_is)
    (case lrows => k_is)
    (case crows => k_is)
    (case krows => k_is)
    (case ainitX => k_is)
    (case iinitX => k_is)
    (case linitX => k_is)
    (case cinitX => k_is)
    (case kinitX => k_is)
    (case asides => k_is)
    (case lsides => k_is)
    (case csides => k_is)
    (case ksides => k_is)
    (case ajoined => k_is)
    (case ljoined => k_is)
    (case cjoined => k_is)
    (case kjoined => k_is)
    (case amoved => k_is)
    (case lmoved => k_is)
    (case cmoved => k_is)
    (case kmoved => k_is)
    (case aside => k_is)
    (case lside => k_is)
    (case cside => k_is)
    (case kside => k_is)
    (case asides_right => k_is)
    (case lsides_right => k_is)
    (case csides_right => k_is)
    (case ksides_right => k_is)
    (case almoved => k_is)
    (case llmoved => k_is)
    (case clmoved => k_is)
    (case klmoved => k_is)
    (case alaw => k_is)
    (case llaw => k_is)
    (case claw => k_is)
    (case klaw => k_is)
    (case xBadTree => k_exc)
    (case kBadTree => k_is)
    (case bBadTree => k_is)
    (case tBadTree => k_is)
    (case xNoRoad => k_exc)
    (case kNoRoad => k_is)
    (case bNoRoad => k_is)
    (case tNoRoad => k_is)
    (case egBadTree => k_is)
    (case ekBadTree => k_is)
    (case esBadTree => k_is)
    (case edBadTree => k_is)
    (case eaBadTree => k_is)
    (case enBadTree => k_is)
    (case etBadTree => k_is)
    (case emBadTree => k_is)
    (case ebRoadError => k_is)
    (case ehRoadError => k_is)
    (case eyRoadError => k_is)
    (case ecBadTreeRoadError => k_is)
    (case i1 => kit_is)
    (case i2 => kit_is)
    (case i3 => kit_is)
    (case i4 => kit_is)
    (case i5 => kit_is)
    (case zlen => k_is)
    (case zisinstance => k_is)
    (case zlist => k_is)
    (case zint => k_is)
    (case zbool => k_is)
    (case ztuple => k_is)
    (case zrange => k_is)
    (case zset => k_is)
    (case zsorted => k_is)
    (case zsum => k_is)
    (case zmax => k_is)
    (case zmin => k_is)
    (case zany => k_is)
    (case zall => k_is)
    (case zreversed => k_is)
    (case zstr => k_is)
