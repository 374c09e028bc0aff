import PyProof.Rows.All
import Wide.All
import OpenK.AllK
import Wide.FinOn
import HandS.Text
import HandS.StrMore
import HandS.ForMost
import HandS.IsInst
import HandS.Steps
import HandS.ForExc
import HandS.Strs
import HandS.Zip
import HandS.Conv
import HandS.More
import HandS.SortInts
import HandS.Codes
import PyProof.Rows.SortShellAny
import PyProof.TupleOfSeq
import HandS.ExcCtx
import HandS.HotCalls
import HandS.ExcIs
import HandS.SuiteRaise
import HandS.TryElse
import HandS.ExcInitHot
import HandS.ExcField
import KE.KExcIs
import HandS.ExcInit
import PyProof.StrOps2
import KE.RegKIsAll
import PySem.Challenge.RW_wellroads_k09_texts_misread
set_option Elab.async false
set_option linter.all false
set_option maxRecDepth 100000
set_option maxHeartbeats 4000000
namespace Wr

structure Road where
  a : Int
  b : Int
  l : Int
  deriving DecidableEq, Repr

def Adj (rs : List Road) (u v l : Int) : Prop := ∃ r ∈ rs, r.l = l ∧ ((r.a = u ∧ r.b = v) ∨ (r.b = u ∧ r.a = v))
theorem Adj.symm {rs : List Road} {u v l : Int} (h : Adj rs u v l) : Adj rs v u l := by
  obtain ⟨r, hr, hl, h⟩ := h
  refine ⟨r, hr, hl, ?_⟩
  rcases h with ⟨x, y⟩ | ⟨x, y⟩
  · exact .inr ⟨y, x⟩
  · exact .inl ⟨y, x⟩
theorem Adj.mono {rs rs' : List Road} {u v l : Int} (h : Adj rs u v l) (hs : ∀ r ∈ rs, r ∈ rs') : Adj rs' u v l := by
  obtain ⟨r, hr, h⟩ := h
  exact ⟨r, hs r hr, h⟩

inductive Walk (rs : List Road) (s : Int) : Int → Int → Prop
  | nil : Walk rs s s 0
  | snoc {v w d l : Int} : Walk rs s v d → Adj rs v w l → Walk rs s w (d + l)
theorem Walk.mono {rs rs' : List Road} {s v d : Int} (h : Walk rs s v d) (hs : ∀ r ∈ rs, r ∈ rs') : Walk rs' s v d := by
  induction h with
  | nil => exact .nil
  | snoc _ a ih => exact .snoc ih (a.mono hs)
theorem Walk.cons {rs : List Road} {s t v d l : Int} (a : Adj rs s t l) (h : Walk rs t v d) : Walk rs s v (l + d) := by
  induction h with
  | nil =>
    have := Walk.snoc (Walk.nil (rs := rs) (s := s)) a
    have e : (0 : Int) + l = l + 0 := by omega
    rw [← e]; exact this
  | snoc h a' ih =>
    have := Walk.snoc ih a'
    rw [Int.add_assoc] at this
    exact this
theorem Walk.symm {rs : List Road} {s v d : Int} (h : Walk rs s v d) : Walk rs v s d := by
  induction h with
  | nil => exact .nil
  | snoc h a ih =>
    have := Walk.cons a.symm ih
    rw [Int.add_comm] at this
    exact this
theorem Walk.trans {rs : List Road} {s v w d e : Int} (h : Walk rs s v d) (g : Walk rs v w e) : Walk rs s w (d + e) := by
  induction g with
  | nil => rw [Int.add_zero]; exact h
  | snoc g a ih =>
    have := Walk.snoc ih a
    rw [Int.add_assoc] at this
    exact this

def Reach (rs : List Road) (u v : Int) : Prop := ∃ d, Walk rs u v d
theorem Reach.symm {rs : List Road} {u v : Int} (h : Reach rs u v) : Reach rs v u := let ⟨d, w⟩ := h; ⟨d, w.symm⟩
theorem Reach.trans {rs : List Road} {u v w : Int} (h : Reach rs u v) (g : Reach rs v w) : Reach rs u w := let ⟨_, a⟩ := h; let ⟨_, b⟩ := g; ⟨_, a.trans b⟩
theorem Reach.refl {rs : List Road} {u : Int} : Reach rs u u := ⟨0, .nil⟩

/-- roads between villages that are there -/
structure RoadsOk (n : Nat) (rs : List Road) : Prop where
  ok : ∀ r ∈ rs, 0 ≤ r.a ∧ r.a < n ∧ 0 ≤ r.b ∧ r.b < n ∧ r.a ≠ r.b ∧ 1 ≤ r.l ∧ r.l ≤ 1000000

structure IsTree (n : Nat) (rs : List Road) : Prop extends RoadsOk n rs where
  pos : 1 ≤ n
  le : n ≤ 12
  len : rs.length + 1 = n
  conn : ∀ v : Int, 0 ≤ v → v < n → Reach rs 0 v

theorem Adj.range {n : Nat} {rs : List Road} (k : RoadsOk n rs) {u v l : Int} (h : Adj rs u v l) : 0 ≤ u ∧ u < n ∧ 0 ≤ v ∧ v < n ∧ u ≠ v ∧ 1 ≤ l ∧ l ≤ 1000000 := by
  obtain ⟨r, hr, hl, h⟩ := h
  have := k.ok r hr
  grind

/-! ### what a walk finds -/
abbrev Found := List (Int × (Int × Int))
def keys (f : Found) : List Int := f.map (·.1)
def parOf (f : Found) (v : Int) : Int := ((f.lookup v).getD (-1, 0)).1
def dOf (f : Found) (v : Int) : Int := ((f.lookup v).getD (-1, 0)).2

theorem lookup_none_iff {f : Found} {v : Int} : f.lookup v = none ↔ v ∉ keys f := by
  induction f with
  | nil => simp [keys]
  | cons e f ih =>
    obtain ⟨k, x⟩ := e
    by_cases h : v = k
    · subst h; simp [keys, List.lookup]
    · have : (v == k) = false := by simpa using h
      simp only [List.lookup, this, ih, keys, List.map_cons, List.mem_cons, not_or]
      exact ⟨fun q => ⟨h, q⟩, fun q => q.2⟩
theorem lookup_isSome_iff {f : Found} {v : Int} : (f.lookup v).isSome = true ↔ v ∈ keys f := by
  cases h : f.lookup v with
  | none => simp [lookup_none_iff.mp h]
  | some x =>
    simp only [Option.isSome_some, true_iff]
    apply Classical.byContradiction
    intro q
    rw [lookup_none_iff.mpr q] at h; cases h
theorem lookup_append {f : Found} {e : Int × (Int × Int)} {v : Int} (h : e.1 ∉ keys f) : (f ++ [e]).lookup v = if v = e.1 then some e.2 else f.lookup v := by
  obtain ⟨k, x⟩ := e
  rw [List.lookup_append]
  by_cases hv : v = k
  · subst hv
    rw [lookup_none_iff.mpr h]
    simp [List.lookup]
  · have : (v == k) = false := by simpa using hv
    simp [List.lookup, this, hv]
theorem keys_append (f g : Found) : keys (f ++ g) = keys f ++ keys g := by simp [keys]

inductive Growth (rs : List Road) (s : Int) : Found → Prop
  | start : Growth rs s [(s, (-1, 0))]
  | snoc {f : Found} {v p l : Int} : Growth rs s f → p ∈ keys f → Adj rs p v l → v ∉ keys f → Growth rs s (f ++ [(v, (p, dOf f p + l))])

section
variable {n : Nat} {rs : List Road} {s : Int} {f : Found}
theorem Growth.nodup (g : Growth rs s f) : (keys f).Nodup := by
  induction g with
  | start => simp [keys]
  | snoc g hp ha hv ih =>
    rw [keys_append]
    refine List.nodup_append.mpr ⟨ih, by simp [keys], ?_⟩
    intro a ha' b hb
    simp [keys] at hb
    subst hb
    intro e; subst e; exact hv ha'
theorem Growth.mem_start (g : Growth rs s f) : s ∈ keys f := by
  induction g with
  | start => simp [keys]
  | snoc g hp ha hv ih => rw [keys_append]; exact List.mem_append_left _ ih
theorem Growth.look_start (g : Growth rs s f) : f.lookup s = some (-1, 0) := by
  induction g with
  | start => simp [List.lookup]
  | @snoc f v p l g hp ha hv ih =>
    rw [lookup_append (e := (v, (p, dOf f p + l))) hv, if_neg, ih]
    intro e
    have e : s = v := e
    exact hv (e ▸ g.mem_start)
theorem Growth.range (k : RoadsOk n rs) (hs : 0 ≤ s ∧ s < n) (g : Growth rs s f) : ∀ v ∈ keys f, 0 ≤ v ∧ v < n := by
  induction g with
  | start => intro v hv; simp [keys] at hv; subst hv; exact hs
  | snoc g hp ha hv ih =>
    intro v' hv'
    rw [keys_append] at hv'
    rcases List.mem_append.mp hv' with h | h
    · exact ih v' h
    · simp [keys] at h
      subst h
      have := ha.range k
      exact ⟨this.2.2.1, this.2.2.2.1⟩
/-- each later entry: its parent, the road -/
theorem Growth.entry (g : Growth rs s f) : ∀ v, v ∈ keys f → v ≠ s → ∃ p l, f.lookup v = some (p, dOf f p + l) ∧ p ∈ keys f ∧ Adj rs p v l := by
  induction g with
  | start => intro v hv hn; simp [keys] at hv; exact absurd hv hn
  | @snoc f v p l g hp ha hv ih =>
    intro v' hv' hn
    have dd : ∀ x, x ∈ keys f → dOf (f ++ [(v, (p, dOf f p + l))]) x = dOf f x := by
      intro x hx
      unfold dOf
      rw [lookup_append (e := (v, (p, _))) hv, if_neg (fun e => hv ((show x = v from e) ▸ hx))]
    rw [keys_append] at hv'
    by_cases e : v' = v
    · subst e
      refine ⟨p, l, ?_, ?_, ha⟩
      · rw [lookup_append (e := (v', (p, _))) hv, if_pos rfl, dd p hp]
      · rw [keys_append]; exact List.mem_append_left _ hp
    · have hv'' : v' ∈ keys f := by
        rcases List.mem_append.mp hv' with h | h
        · exact h
        · simp [keys] at h; exact absurd h e
      obtain ⟨p', l', h1, h2, h3⟩ := ih v' hv'' hn
      refine ⟨p', l', ?_, ?_, h3⟩
      · rw [lookup_append (e := (v, (p, _))) hv, if_neg e, h1, dd p' h2]
      · rw [keys_append]; exact List.mem_append_left _ h2
theorem Growth.walk (g : Growth rs s f) : ∀ v, v ∈ keys f → Walk rs s v (dOf f v) := by
  induction g with
  | start =>
    intro v hv; simp [keys] at hv; subst hv
    have : dOf [(v, (-1, 0))] v = 0 := by simp [dOf, List.lookup]
    rw [this]; exact .nil
  | @snoc f v p l g hp ha hv ih =>
    intro v' hv'
    rw [keys_append] at hv'
    by_cases e : v' = v
    · subst e
      have : dOf (f ++ [(v', (p, dOf f p + l))]) v' = dOf f p + l := by
        unfold dOf
        rw [lookup_append (e := (v', (p, _))) hv, if_pos rfl]; rfl
      rw [this]
      exact .snoc (ih p hp) ha
    · have hv'' : v' ∈ keys f := by
        rcases List.mem_append.mp hv' with h | h
        · exact h
        · simp [keys] at h; exact absurd h e
      have : dOf (f ++ [(v, (p, dOf f p + l))]) v' = dOf f v' := by
        unfold dOf
        rw [lookup_append (e := (v, (p, _))) hv, if_neg e]
      rw [this]
      exact ih v' hv''
def Used (f : Found) (r : Road) : Prop := (f.lookup r.b = some (r.a, dOf f r.a + r.l)) ∨ (f.lookup r.a = some (r.b, dOf f r.b + r.l))
/-- the roads that were used, each with its child -/
theorem Growth.used (g : Growth rs s f) : ∃ idx : List (Nat × Int), idx.length + 1 = f.length ∧ (idx.map (·.1)).Nodup ∧ (idx.map (·.2)).Nodup ∧
    ∀ q ∈ idx, ∃ r, rs[q.1]? = some r ∧ r.a ∈ keys f ∧ r.b ∈ keys f ∧ ((q.2 = r.b ∧ f.lookup r.b = some (r.a, dOf f r.a + r.l)) ∨ (q.2 = r.a ∧ f.lookup r.a = some (r.b, dOf f r.b + r.l))) := by
  induction g with
  | start => exact ⟨[], rfl, List.nodup_nil, List.nodup_nil, fun _ h => nomatch h⟩
  | @snoc f v p l g hp ha hv ih =>
    obtain ⟨idx, h1, h2, h3, h4⟩ := ih
    obtain ⟨r, hr, hl, hends⟩ := ha
    obtain ⟨i, hi, hri⟩ := List.getElem_of_mem hr
    have dd : ∀ x, x ∈ keys f → dOf (f ++ [(v, (p, dOf f p + l))]) x = dOf f x := by
      intro x hx
      unfold dOf
      rw [lookup_append (e := (v, (p, _))) hv, if_neg (fun e => hv ((show x = v from e) ▸ hx))]
    have ll : ∀ x, x ∈ keys f → (f ++ [(v, (p, dOf f p + l))]).lookup x = f.lookup x := by
      intro x hx
      rw [lookup_append (e := (v, (p, _))) hv, if_neg (fun e => hv ((show x = v from e) ▸ hx))]
    have kk : ∀ x, x ∈ keys f → x ∈ keys (f ++ [(v, (p, dOf f p + l))]) := fun x hx => by
      rw [keys_append]; exact List.mem_append_left _ hx
    have kv : v ∈ keys (f ++ [(v, (p, dOf f p + l))]) := by rw [keys_append]; simp [keys]
    have hin : i ∉ idx.map (·.1) := by
      intro hm
      obtain ⟨q, hq, e⟩ := List.mem_map.mp hm
      obtain ⟨r', hr', k1, k2, _⟩ := h4 q hq
      rw [e, List.getElem?_eq_getElem hi, hri] at hr'
      cases hr'
      rcases hends with ⟨e1, e2⟩ | ⟨e1, e2⟩
      · rw [e2] at k2; exact hv k2
      · rw [e2] at k1; exact hv k1
    have hvn : v ∉ idx.map (·.2) := by
      intro hm
      obtain ⟨q, hq, e⟩ := List.mem_map.mp hm
      obtain ⟨r', hr', k1, k2, k3⟩ := h4 q hq
      rcases k3 with ⟨e', _⟩ | ⟨e', _⟩
      · rw [e] at e'; rw [← e'] at k2; exact hv k2
      · rw [e] at e'; rw [← e'] at k1; exact hv k1
    refine ⟨(i, v) :: idx, by simp; omega, ?_, ?_, ?_⟩
    · rw [List.map_cons]; exact List.nodup_cons.mpr ⟨hin, h2⟩
    · rw [List.map_cons]; exact List.nodup_cons.mpr ⟨hvn, h3⟩
    · intro q hq
      rcases (List.mem_cons.mp hq) with rfl | hq
      · refine ⟨r, by rw [List.getElem?_eq_getElem hi, hri], ?_⟩
        have lv : (f ++ [(v, (p, dOf f p + l))]).lookup v = some (p, dOf f p + l) := by
          rw [lookup_append (e := (v, (p, _))) hv, if_pos rfl]
        rcases hends with ⟨e1, e2⟩ | ⟨e1, e2⟩
        · refine ⟨by rw [e1]; exact kk p hp, by rw [e2]; exact kv, .inl ⟨e2.symm, ?_⟩⟩
          rw [e2, lv, e1, dd p hp, hl]
        · refine ⟨by rw [e2]; exact kv, by rw [e1]; exact kk p hp, .inr ⟨e2.symm, ?_⟩⟩
          rw [e2, lv, e1, dd p hp, hl]
      · obtain ⟨r', hr', k1, k2, k3⟩ := h4 q hq
        refine ⟨r', hr', kk _ k1, kk _ k2, ?_⟩
        rcases k3 with ⟨e', k3⟩ | ⟨e', k3⟩
        · exact .inl ⟨e', by rw [ll _ k2, k3, dd _ k1]⟩
        · exact .inr ⟨e', by rw [ll _ k1, k3, dd _ k2]⟩
end

/-! ### a full one: every village is found -/
structure Full (n : Nat) (rs : List Road) (s : Int) (f : Found) : Prop where
  gr : Growth rs s f
  all : ∀ v : Int, 0 ≤ v → v < n → v ∈ keys f
def ivs (n : Nat) : List Int := (List.range n).map fun (i : Nat) => (i : Int)
theorem mem_ivs {n : Nat} {v : Int} : v ∈ ivs n ↔ 0 ≤ v ∧ v < n := by
  unfold ivs
  rw [List.mem_map]
  constructor
  · rintro ⟨i, hi, rfl⟩
    have := List.mem_range.mp hi
    omega
  · intro h
    exact ⟨v.toNat, List.mem_range.mpr (by omega), by omega⟩
theorem ivs_nodup (n : Nat) : (ivs n).Nodup := by
  unfold ivs List.Nodup
  rw [List.pairwise_map]
  exact List.Pairwise.imp (R := fun (a b : Nat) => a ≠ b) (fun {a b} (h : a ≠ b) (e : (a : Int) = (b : Int)) => h (by omega)) List.nodup_range
theorem ivs_length (n : Nat) : (ivs n).length = n := by simp [ivs]
section
variable {n : Nat} {rs : List Road} {s : Int} {f : Found}
theorem Full.length (k : RoadsOk n rs) (hs : 0 ≤ s ∧ s < n) (F : Full n rs s f) : f.length = n := by
  have h1 : (keys f).length ≤ (ivs n).length := List.Nodup.length_le_of_subset F.gr.nodup fun v hv => mem_ivs.mpr (F.gr.range k hs v hv)
  have h2 : (ivs n).length ≤ (keys f).length := List.Nodup.length_le_of_subset (ivs_nodup n) fun v hv => F.all v (mem_ivs.mp hv).1 (mem_ivs.mp hv).2
  rw [ivs_length] at h1 h2
  simp [keys] at h1 h2
  omega
theorem Growth.length_le (k : RoadsOk n rs) (hs : 0 ≤ s ∧ s < n) (g : Growth rs s f) : f.length ≤ n := by
  have h1 : (keys f).length ≤ (ivs n).length := List.Nodup.length_le_of_subset g.nodup fun v hv => mem_ivs.mpr (g.range k hs v hv)
  rw [ivs_length] at h1
  simpa [keys] using h1
theorem pigeon {k : Nat} {l : List Nat} (nd : l.Nodup) (hl : ∀ i ∈ l, i < k) (e : l.length = k) : ∀ i, i < k → i ∈ l := by
  intro i hi
  apply Classical.byContradiction
  intro hn
  have h := List.Nodup.length_le_of_subset (l₁ := i :: l) (l₂ := List.range k) (List.nodup_cons.mpr ⟨hn, nd⟩) (fun x hx => by
    rcases (List.mem_cons.mp hx) with rfl | hx
    · exact List.mem_range.mpr hi
    · exact List.mem_range.mpr (hl x hx))
  rw [List.length_range, List.length_cons] at h
  omega
theorem Full.idx (T : IsTree n rs) (hs : 0 ≤ s ∧ s < n) (F : Full n rs s f) : ∃ idx : List (Nat × Int), (idx.map (·.1)).Nodup ∧ (idx.map (·.2)).Nodup ∧ (∀ i, i < rs.length → ∃ v, (i, v) ∈ idx) ∧
    ∀ q ∈ idx, ∃ r, rs[q.1]? = some r ∧ r.a ∈ keys f ∧ r.b ∈ keys f ∧ ((q.2 = r.b ∧ f.lookup r.b = some (r.a, dOf f r.a + r.l)) ∨ (q.2 = r.a ∧ f.lookup r.a = some (r.b, dOf f r.b + r.l))) := by
  obtain ⟨idx, h1, h2, h3, h4⟩ := F.gr.used
  refine ⟨idx, h2, h3, fun i hi => ?_, h4⟩
  have el : (idx.map (·.1)).length = rs.length := by
    have := F.length T.toRoadsOk hs
    have := T.len
    rw [List.length_map]; omega
  have := pigeon h2 (k := rs.length) (fun j hj => by
    obtain ⟨q, hq, e⟩ := List.mem_map.mp hj
    obtain ⟨r, hr, _⟩ := h4 q hq
    rw [e] at hr
    exact (List.getElem?_eq_some_iff.mp hr).1) el i hi
  obtain ⟨q, hq, e⟩ := (List.mem_map.mp this)
  exact ⟨q.2, by rw [← e]; exact hq⟩
/-- every road was used -/
theorem Full.used (T : IsTree n rs) (hs : 0 ≤ s ∧ s < n) (F : Full n rs s f) : ∀ r ∈ rs, Used f r := by
  intro r hr
  obtain ⟨idx, _, _, h3, h4⟩ := F.idx T hs
  obtain ⟨i, hi, hri⟩ := List.getElem_of_mem hr
  obtain ⟨v, hv⟩ := h3 i hi
  obtain ⟨r', hr', _, _, h⟩ := h4 _ hv
  rw [List.getElem?_eq_getElem hi, hri] at hr'
  cases hr'
  rcases h with ⟨_, h⟩ | ⟨_, h⟩
  · exact .inl h
  · exact .inr h
theorem dOf_of {v p d : Int} (h : f.lookup v = some (p, d)) : dOf f v = d := by unfold dOf; rw [h]; rfl
theorem parOf_of {v p d : Int} (h : f.lookup v = some (p, d)) : parOf f v = p := by unfold parOf; rw [h]; rfl
def SameEnds (r t : Road) : Prop := (r.a = t.a ∧ r.b = t.b) ∨ (r.a = t.b ∧ r.b = t.a)
theorem nodup_fst {idx : List (Nat × Int)} (h : (idx.map (·.2)).Nodup) {i j : Nat} {v : Int} (hi : (i, v) ∈ idx) (hj : (j, v) ∈ idx) : i = j := by
  induction idx with
  | nil => cases hi
  | cons e t ih =>
    simp only [List.map_cons, List.nodup_cons] at h
    rcases List.mem_cons.mp hi with h1 | h1 <;> rcases List.mem_cons.mp hj with h2 | h2
    · have := h1.trans h2.symm; exact (Prod.mk.inj this).1
    · exact absurd (List.mem_map.mpr ⟨_, h2, by rw [← h1]⟩) h.1
    · exact absurd (List.mem_map.mpr ⟨_, h1, by rw [← h2]⟩) h.1
    · exact ih h.2 h1 h2
/-- no two roads between the same villages -/
theorem Full.single (T : IsTree n rs) (hs : 0 ≤ s ∧ s < n) (F : Full n rs s f) {i j : Nat} {r t : Road} (hi : rs[i]? = some r) (hj : rs[j]? = some t) (he : SameEnds r t) : i = j := by
  obtain ⟨idx, _, h2, h3, h4⟩ := F.idx T hs
  have hi' := (List.getElem?_eq_some_iff.mp hi).1
  have hj' := (List.getElem?_eq_some_iff.mp hj).1
  obtain ⟨v, hv⟩ := h3 i hi'
  obtain ⟨w, hw⟩ := h3 j hj'
  obtain ⟨r', hr', _, _, k1⟩ := h4 _ hv
  obtain ⟨t', ht', _, _, k2⟩ := h4 _ hw
  rw [hi] at hr'; cases hr'
  rw [hj] at ht'; cases ht'
  have o1 := T.ok r (List.mem_of_getElem? hi)
  have o2 := T.ok t (List.mem_of_getElem? hj)
  by_cases e : v = w
  · subst e; exact nodup_fst h2 hv hw
  · exfalso
    unfold SameEnds at he
    rcases k1 with ⟨e1, k1⟩ | ⟨e1, k1⟩ <;> rcases k2 with ⟨e2, k2⟩ | ⟨e2, k2⟩
    all_goals
      have d1 := dOf_of k1
      have d2 := dOf_of k2
      rcases he with ⟨x1, x2⟩ | ⟨x1, x2⟩
      all_goals
        simp only at e1 e2
        first
          | (exact e (by rw [e1, e2]; assumption))
          | (exact e (by rw [e1, e2]; first | exact x1 | exact x2))
          | (rw [x1] at d1; rw [x2] at d1; omega)
          | (rw [x1, x2] at d1; omega)
          | grind
end
end Wr

namespace Wr

def scan (here : Int) : List Road → Found → List Int → Found × List Int
  | [], f, w => (f, w)
  | r :: rs, f, w =>
    if here = r.a ∨ here = r.b then
      if (f.lookup (r.a + r.b - here)).isSome then scan here rs f w
      else scan here rs (f ++ [(r.a + r.b - here, (here, dOf f here + r.l))]) (w ++ [r.a + r.b - here])
    else scan here rs f w
theorem scan_cons (here : Int) (r : Road) (rs : List Road) (f : Found) (w : List Int) : scan here (r :: rs) f w = if here = r.a ∨ here = r.b then
      if (f.lookup (r.a + r.b - here)).isSome then scan here rs f w
      else scan here rs (f ++ [(r.a + r.b - here, (here, dOf f here + r.l))]) (w ++ [r.a + r.b - here])
    else scan here rs f w := rfl
def bfsGo (rs : List Road) : Nat → Found → List Int → Found
  | 0, f, _ => f
  | _ + 1, f, [] => f
  | k + 1, f, h :: t => bfsGo rs k (scan h rs f t).1 (scan h rs f t).2
/-- what Tree.walked finds -/
def walked (n : Nat) (rs : List Road) (s : Int) : Found := bfsGo rs n [(s, (-1, 0))] [s]

section
variable {n : Nat} {rs : List Road} {s : Int} {f : Found}
theorem scan_spec (here : Int) : ∀ (rs' : List Road) (f : Found) (w : List Int), (∀ r ∈ rs', r ∈ rs) → Growth rs s f → here ∈ keys f →
    Growth rs s (scan here rs' f w).1 ∧ (∃ more : Found, (scan here rs' f w).1 = f ++ more ∧ (scan here rs' f w).2 = w ++ keys more) ∧
    ∀ r ∈ rs', (here = r.a ∨ here = r.b) → (r.a + r.b - here) ∈ keys (scan here rs' f w).1
  | [], f, w, _, g, _ => ⟨g, ⟨[], by simp [scan], by simp [scan, keys]⟩, fun _ h => nomatch h⟩
  | r :: rs', f, w, hs, g, hh => by
    unfold scan
    by_cases c : here = r.a ∨ here = r.b
    · rw [if_pos c]
      by_cases d : (f.lookup (r.a + r.b - here)).isSome = true
      · rw [if_pos d]
        obtain ⟨h1, ⟨more, h2, h3⟩, h4⟩ := scan_spec here rs' f w (fun r h => hs r (List.mem_cons_of_mem _ h)) g hh
        refine ⟨h1, ⟨more, h2, h3⟩, fun r' hr' c' => ?_⟩
        rcases List.mem_cons.mp hr' with rfl | hr'
        · rw [h2, keys_append]
          exact List.mem_append_left _ (lookup_isSome_iff.mp d)
        · exact h4 r' hr' c'
      · rw [if_neg d]
        have hv : (r.a + r.b - here) ∉ keys f := fun q => d (lookup_isSome_iff.mpr q)
        have ad : Adj rs here (r.a + r.b - here) r.l := by
          refine ⟨r, hs r (List.mem_cons_self ..), rfl, ?_⟩
          rcases c with c | c
          · exact .inl ⟨c.symm, by omega⟩
          · exact .inr ⟨c.symm, by omega⟩
        have g' := Growth.snoc g hh ad hv
        obtain ⟨h1, ⟨more, h2, h3⟩, h4⟩ := scan_spec here rs' (f ++ [(r.a + r.b - here, (here, dOf f here + r.l))]) (w ++ [r.a + r.b - here]) (fun r h => hs r (List.mem_cons_of_mem _ h)) g' (by rw [keys_append]; exact List.mem_append_left _ hh)
        refine ⟨h1, ⟨(r.a + r.b - here, (here, dOf f here + r.l)) :: more, by rw [h2]; simp, by rw [h3]; simp [keys]⟩, fun r' hr' c' => ?_⟩
        rcases List.mem_cons.mp hr' with rfl | hr'
        · rw [h2, keys_append, keys_append]
          exact List.mem_append_left _ (List.mem_append_right _ (by simp [keys]))
        · exact h4 r' hr' c'
    · rw [if_neg c]
      obtain ⟨h1, ⟨more, h2, h3⟩, h4⟩ := scan_spec here rs' f w (fun r h => hs r (List.mem_cons_of_mem _ h)) g hh
      refine ⟨h1, ⟨more, h2, h3⟩, fun r' hr' c' => ?_⟩
      rcases List.mem_cons.mp hr' with rfl | hr'
      · exact absurd c' c
      · exact h4 r' hr' c'
def Closed (rs : List Road) (f : Found) : Prop := ∀ u v l, u ∈ keys f → Adj rs u v l → v ∈ keys f
theorem bfsGo_spec (k : RoadsOk n rs) (hs : 0 ≤ s ∧ s < n) : ∀ (m : Nat) (f : Found) (w : List Int), Growth rs s f → (∀ x ∈ w, x ∈ keys f) →
    (∀ u ∈ keys f, u ∈ w ∨ ∀ v l, Adj rs u v l → v ∈ keys f) → n + w.length ≤ f.length + m → Growth rs s (bfsGo rs m f w) ∧ Closed rs (bfsGo rs m f w)
  | 0, f, w, g, hw, hc, hm => by
    unfold bfsGo
    have := g.length_le k hs
    have w0 : w = [] := List.eq_nil_of_length_eq_zero (by omega)
    subst w0
    refine ⟨g, fun u v l hu ha => ?_⟩
    rcases hc u hu with h | h
    · cases h
    · exact h v l ha
  | m + 1, f, [], g, hw, hc, hm => by
    unfold bfsGo
    refine ⟨g, fun u v l hu ha => ?_⟩
    rcases hc u hu with h | h
    · cases h
    · exact h v l ha
  | m + 1, f, h :: t, g, hw, hc, hm => by
    unfold bfsGo
    have hh := hw h (List.mem_cons_self ..)
    obtain ⟨h1, ⟨more, h2, h3⟩, h4⟩ := scan_spec (rs := rs) h rs f t (fun _ q => q) g hh
    refine bfsGo_spec k hs m _ _ h1 ?_ ?_ ?_
    · intro x hx
      rw [h3] at hx
      rw [h2, keys_append]
      rcases List.mem_append.mp hx with q | q
      · exact List.mem_append_left _ (hw x (List.mem_cons_of_mem _ q))
      · exact List.mem_append_right _ q
    · intro u hu
      rw [h3]
      rw [h2, keys_append] at hu
      rcases List.mem_append.mp hu with q | q
      · by_cases e : u = h
        · subst e
          refine .inr fun v l ⟨r, hr, _, ends⟩ => ?_
          rcases ends with ⟨e1, e2⟩ | ⟨e1, e2⟩
          · have := h4 r hr (.inl e1.symm)
            rw [show r.a + r.b - u = v by omega] at this
            exact this
          · have := h4 r hr (.inr e1.symm)
            rw [show r.a + r.b - u = v by omega] at this
            exact this
        · rcases hc u q with q' | q'
          · rcases List.mem_cons.mp q' with q' | q'
            · exact absurd q' e
            · exact .inl (List.mem_append_left _ q')
          · refine .inr fun v l ha => ?_
            rw [h2, keys_append]
            exact List.mem_append_left _ (q' v l ha)
      · exact .inl (List.mem_append_right _ q)
    · rw [h2, h3]
      simp [keys] at hm ⊢
      omega
theorem walked_spec (k : RoadsOk n rs) (hs : 0 ≤ s ∧ s < n) : Growth rs s (walked n rs s) ∧ Closed rs (walked n rs s) := by
  unfold walked
  refine bfsGo_spec k hs n _ _ .start (fun x hx => by simpa [keys] using hx) (fun u hu => .inl (by simpa [keys] using hu)) (by simp; omega)
theorem Closed.reach (c : Closed rs f) {u v d : Int} (w : Walk rs u v d) (hu : u ∈ keys f) : v ∈ keys f := by
  induction w with
  | nil => exact hu
  | snoc _ a ih => exact c _ _ _ ih a
theorem IsTree.reach (T : IsTree n rs) {u v : Int} (hu : 0 ≤ u ∧ u < n) (hv : 0 ≤ v ∧ v < n) : Reach rs u v := (T.conn u hu.1 hu.2).symm.trans (T.conn v hv.1 hv.2)
theorem IsTree.full (T : IsTree n rs) (hs : 0 ≤ s ∧ s < n) (g : Growth rs s f) (c : Closed rs f) : Full n rs s f :=
  ⟨g, fun v h1 h2 => let ⟨_, w⟩ := T.reach hs ⟨h1, h2⟩; c.reach w g.mem_start⟩
theorem IsTree.walked (T : IsTree n rs) (hs : 0 ≤ s ∧ s < n) : Full n rs s (walked n rs s) :=
  let ⟨g, c⟩ := walked_spec T.toRoadsOk hs
  T.full hs g c
/-- so many villages come to: then it is a tree -/
theorem tree_of_len (k : RoadsOk n rs) (h1 : 1 ≤ n) (h2 : n ≤ 12) (h3 : rs.length + 1 = n) (h4 : ¬ ((walked n rs 0).length < n)) : IsTree n rs := by
  refine ⟨k, h1, h2, h3, fun v hv hv2 => ?_⟩
  have hs : (0 : Int) ≤ 0 ∧ (0 : Int) < n := ⟨Int.le_refl _, by omega⟩
  obtain ⟨g, c⟩ := walked_spec k hs
  have : v ∈ keys (walked n rs 0) := by
    apply Classical.byContradiction
    intro hn
    have := List.Nodup.length_le_of_subset (l₁ := v :: keys (walked n rs 0)) (l₂ := ivs n) (List.nodup_cons.mpr ⟨hn, g.nodup⟩) (fun x hx => by
      rcases (List.mem_cons.mp hx) with rfl | hx
      · exact mem_ivs.mpr ⟨hv, hv2⟩
      · exact mem_ivs.mpr (g.range k hs x hx))
    rw [ivs_length, List.length_cons] at this
    simp [keys] at this
    omega
  exact ⟨_, g.walk v this⟩
theorem IsTree.len_walked (T : IsTree n rs) (hs : 0 ≤ s ∧ s < n) : (Wr.walked n rs s).length = n := (T.walked hs).length T.toRoadsOk hs

/-! ### distances -/
def D (n : Nat) (rs : List Road) (s v : Int) : Int := dOf (walked n rs s) v
theorem Full.step (T : IsTree n rs) (hs : 0 ≤ s ∧ s < n) (F : Full n rs s f) {u v l : Int} (a : Adj rs u v l) : dOf f v = dOf f u + l ∨ dOf f u = dOf f v + l := by
  obtain ⟨r, hr, rfl, ends⟩ := a
  have := F.used T hs r hr
  rcases this with h | h
  · have := dOf_of h
    rcases ends with ⟨rfl, rfl⟩ | ⟨rfl, rfl⟩
    · exact .inl this
    · exact .inr this
  · have := dOf_of h
    rcases ends with ⟨rfl, rfl⟩ | ⟨rfl, rfl⟩
    · exact .inr this
    · exact .inl this
theorem dOf_start (g : Growth rs s f) : dOf f s = 0 := dOf_of g.look_start
theorem Full.least (T : IsTree n rs) (hs : 0 ≤ s ∧ s < n) (F : Full n rs s f) {v d : Int} (w : Walk rs s v d) : dOf f v ≤ d := by
  induction w with
  | nil => rw [dOf_start F.gr]; exact Int.le_refl _
  | snoc _ a ih =>
    have := (a.range T.toRoadsOk).2.2.2.2.2.1
    rcases F.step T hs a with h | h <;> omega
theorem Full.dist (T : IsTree n rs) (hs : 0 ≤ s ∧ s < n) (F : Full n rs s f) {v : Int} (hv : 0 ≤ v ∧ v < n) : dOf f v = D n rs s v := by
  have G := T.walked hs
  have h1 := F.least T hs (G.gr.walk v (G.all v hv.1 hv.2))
  have h2 := G.least T hs (F.gr.walk v (F.all v hv.1 hv.2))
  unfold D
  omega
theorem D_self (T : IsTree n rs) (hs : 0 ≤ s ∧ s < n) : D n rs s s = 0 := dOf_start (T.walked hs).gr
theorem D_walk (T : IsTree n rs) (hs : 0 ≤ s ∧ s < n) {v : Int} (hv : 0 ≤ v ∧ v < n) : Walk rs s v (D n rs s v) := (T.walked hs).gr.walk v ((T.walked hs).all v hv.1 hv.2)
theorem D_least (T : IsTree n rs) (hs : 0 ≤ s ∧ s < n) {v d : Int} (w : Walk rs s v d) : D n rs s v ≤ d := (T.walked hs).least T hs w
theorem D_symm (T : IsTree n rs) {u v : Int} (hu : 0 ≤ u ∧ u < n) (hv : 0 ≤ v ∧ v < n) : D n rs u v = D n rs v u := by
  have h1 := D_least T hu (D_walk T hv hu).symm
  have h2 := D_least T hv (D_walk T hu hv).symm
  omega
theorem D_tri (T : IsTree n rs) {u v w : Int} (hu : 0 ≤ u ∧ u < n) (hv : 0 ≤ v ∧ v < n) (hw : 0 ≤ w ∧ w < n) : D n rs u w ≤ D n rs u v + D n rs v w :=
  D_least T hu ((D_walk T hu hv).trans (D_walk T hv hw))
theorem Walk.nonneg (k : RoadsOk n rs) {u v d : Int} (w : Walk rs u v d) : 0 ≤ d := by
  induction w with
  | nil => exact Int.le_refl _
  | snoc _ a ih => have := (a.range k).2.2.2.2.2.1; omega
theorem D_nonneg (T : IsTree n rs) {u v : Int} (hu : 0 ≤ u ∧ u < n) (hv : 0 ≤ v ∧ v < n) : 0 ≤ D n rs u v := (D_walk T hu hv).nonneg T.toRoadsOk
/-- A: each road goes up or down -/
theorem D_step (T : IsTree n rs) (hs : 0 ≤ s ∧ s < n) {u v l : Int} (a : Adj rs u v l) : D n rs s v = D n rs s u + l ∨ D n rs s u = D n rs s v + l := (T.walked hs).step T hs a
/-- B: one parent -/
theorem D_par (T : IsTree n rs) (hs : 0 ≤ s ∧ s < n) {u v l : Int} (a : Adj rs u v l) (h : D n rs s v = D n rs s u + l) : (Wr.walked n rs s).lookup v = some (u, D n rs s v) := by
  obtain ⟨r, hr, rfl, ends⟩ := a
  have := T.ok r hr
  have used := (T.walked hs).used T hs r hr
  unfold D at h ⊢
  rcases used with q | q
  · have e := dOf_of q
    rcases ends with ⟨rfl, rfl⟩ | ⟨rfl, rfl⟩
    · rw [q]; simp; omega
    · omega
  · have e := dOf_of q
    rcases ends with ⟨rfl, rfl⟩ | ⟨rfl, rfl⟩
    · omega
    · rw [q]; simp; omega
theorem D_par_unique (T : IsTree n rs) (hs : 0 ≤ s ∧ s < n) {u u' v l l' : Int} (a : Adj rs u v l) (h : D n rs s v = D n rs s u + l) (a' : Adj rs u' v l') (h' : D n rs s v = D n rs s u' + l') : u = u' := by
  have h1 := D_par T hs a h
  have h2 := D_par T hs a' h'
  rw [h1] at h2
  injection h2 with h2
  exact congrArg Prod.fst h2
/-- P4: there is a parent -/
theorem D_parent (T : IsTree n rs) (hs : 0 ≤ s ∧ s < n) {v : Int} (hv : 0 ≤ v ∧ v < n) (hn : v ≠ s) : ∃ p l, (Wr.walked n rs s).lookup v = some (p, D n rs s v) ∧ Adj rs p v l ∧ D n rs s v = D n rs s p + l ∧ 0 ≤ p ∧ p < n := by
  have F := T.walked hs
  obtain ⟨p, l, h1, h2, h3⟩ := F.gr.entry v (F.all v hv.1 hv.2) hn
  have e := dOf_of h1
  have r := F.gr.range T.toRoadsOk hs p h2
  refine ⟨p, l, ?_, h3, e, r.1, r.2⟩
  rw [h1]
  unfold D
  rw [e]
theorem D_edge (T : IsTree n rs) {u v l : Int} (a : Adj rs u v l) : D n rs u v = l := by
  have r := a.range T.toRoadsOk
  have hu : 0 ≤ u ∧ u < n := ⟨r.1, r.2.1⟩
  have hv : 0 ≤ v ∧ v < n := ⟨r.2.2.1, r.2.2.2.1⟩
  have := D_self T hu
  have := D_nonneg T hu hv
  rcases D_step T hu a with h | h <;> omega
theorem D_pos (T : IsTree n rs) {u v : Int} (hu : 0 ≤ u ∧ u < n) (hv : 0 ≤ v ∧ v < n) (hn : v ≠ u) : 0 < D n rs u v := by
  obtain ⟨p, l, _, a, h, hp1, hp2⟩ := D_parent T hu hv hn
  have := (a.range T.toRoadsOk).2.2.2.2.2.1
  have := D_nonneg T hu ⟨hp1, hp2⟩
  omega
end
end Wr

namespace Wr

/-- up from x to the start o of a found one -/
inductive Down (f : Found) (o : Int) : Int → List Int → Prop
  | last : Down f o o [o]
  | step {x p d : Int} {q : List Int} : x ≠ o → f.lookup x = some (p, d) → Down f o p q → Down f o x (x :: q)
def wayGo (f : Found) (o : Int) : Nat → Int → List Int
  | 0, x => [x]
  | k + 1, x => if x = o then [x] else x :: wayGo f o k (parOf f x)
def wayL (n : Nat) (rs : List Road) (u v : Int) : List Int := wayGo (walked n rs v) v (D n rs v u).toNat u
section
variable {n : Nat} {rs : List Road} {s o : Int} {f : Found}
theorem wayGo_down (T : IsTree n rs) (ho : 0 ≤ o ∧ o < n) : ∀ (k : Nat) (x : Int), 0 ≤ x → x < n → D n rs o x ≤ k → Down (walked n rs o) o x (wayGo (walked n rs o) o k x)
  | 0, x, h0, h1, hd => by
    have e : x = o := by
      apply Classical.byContradiction
      intro hn
      have := D_pos T ho ⟨h0, h1⟩ hn
      omega
    subst e
    exact .last
  | k + 1, x, h0, h1, hd => by
    unfold wayGo
    by_cases e : x = o
    · rw [if_pos e, e]; exact .last
    · rw [if_neg e]
      obtain ⟨p, l, h, a, hD, hp0, hp1⟩ := D_parent T ho ⟨h0, h1⟩ e
      have := (a.range T.toRoadsOk).2.2.2.2.2.1
      rw [parOf_of h]
      exact .step e h (wayGo_down T ho k p hp0 hp1 (by omega))
theorem wayL_down (T : IsTree n rs) {u v : Int} (hu : 0 ≤ u ∧ u < n) (hv : 0 ≤ v ∧ v < n) : Down (walked n rs v) v u (wayL n rs u v) :=
  wayGo_down T hv _ u hu.1 hu.2 (by have := D_nonneg T hv hu; omega)
theorem Down.head {x : Int} {q : List Int} (h : Down f o x q) : ∃ t, q = x :: t := by
  cases h with
  | last => exact ⟨[], rfl⟩
  | step => exact ⟨_, rfl⟩
theorem Down.getLast {x : Int} {q : List Int} (h : Down f o x q) : q.getLast? = some o := by
  induction h with
  | last => rfl
  | step _ _ h ih =>
    obtain ⟨t, rfl⟩ := h.head
    rw [List.getLast?_cons_cons]; exact ih
theorem Down.eq {x : Int} {q r : List Int} (h : Down f o x q) (g : Down f o x r) : q = r := by
  induction h generalizing r with
  | last => cases g with | last => rfl | step hn => exact absurd rfl hn
  | step hn hl h ih =>
    cases g with
    | last => exact absurd rfl hn
    | step _ hl' g =>
      rw [hl] at hl'
      injection hl' with e
      injection e with e1 e2
      subst e1
      rw [ih g]
/-- all of it stands, nearer and nearer -/
theorem Down.facts (T : IsTree n rs) (ho : 0 ≤ o ∧ o < n) {x : Int} {q : List Int} (h : Down (walked n rs o) o x q) (hx : 0 ≤ x ∧ x < n) :
    q.Nodup ∧ ∀ y ∈ q, 0 ≤ y ∧ y < n ∧ D n rs o y ≤ D n rs o x := by
  induction h with
  | last => exact ⟨by simp, fun y hy => by simp at hy; subst hy; exact ⟨hx.1, hx.2, Int.le_refl _⟩⟩
  | @step x p d q hn hl h ih =>
    obtain ⟨p', l, h', a, hD, hp0, hp1⟩ := D_parent T ho hx hn
    rw [hl] at h'
    injection h' with e
    injection e with e1 e2
    subst e1
    have := (a.range T.toRoadsOk).2.2.2.2.2.1
    obtain ⟨i1, i2⟩ := ih ⟨hp0, hp1⟩
    refine ⟨List.nodup_cons.mpr ⟨fun hm => ?_, i1⟩, fun y hy => ?_⟩
    · have := (i2 x hm).2.2
      omega
    · rcases (List.mem_cons.mp hy) with rfl | hy
      · exact ⟨hx.1, hx.2, Int.le_refl _⟩
      · have := i2 y hy
        exact ⟨this.1, this.2.1, by omega⟩
theorem wayL_len (T : IsTree n rs) {u v : Int} (hu : 0 ≤ u ∧ u < n) (hv : 0 ≤ v ∧ v < n) : (wayL n rs u v).length ≤ n := by
  obtain ⟨h1, h2⟩ := (wayL_down T hu hv).facts T hv hu
  have := List.Nodup.length_le_of_subset (l₂ := ivs n) h1 fun y hy => mem_ivs.mpr ⟨(h2 y hy).1, (h2 y hy).2.1⟩
  rwa [ivs_length] at this
/-- the rows of distances -/
def rowD (n : Nat) (rs : List Road) (s : Int) : List Int := (ivs n).map fun v => D n rs s v
def rowsD (n : Nat) (rs : List Road) : List (List Int) := (ivs n).map fun s => rowD n rs s

/-! ### the law's own walk -/
def relax1 (g : List (Int × Int)) (r : Road) : List (Int × Int) :=
  match g.lookup r.a, g.lookup r.b with
  | some d, none => g ++ [(r.b, d + r.l)]
  | none, some d => g ++ [(r.a, d + r.l)]
  | _, _ => g
def relaxP (rs : List Road) (g : List (Int × Int)) : List (Int × Int) := rs.foldl relax1 g
def relaxN (rs : List Road) : Nat → List (Int × Int) → List (Int × Int)
  | 0, g => g
  | k + 1, g => relaxN rs k (relaxP rs g)
def ownFound (n : Nat) (rs : List Road) (s : Int) : List (Int × Int) := relaxN rs n [(s, 0)]
def prj (f : Found) : List (Int × Int) := f.map fun e => (e.1, e.2.2)
theorem prj_lookup (v : Int) : ∀ f : Found, (prj f).lookup v = (f.lookup v).map (·.2)
  | [] => rfl
  | (k, x) :: f => by
    by_cases e : v = k
    · subst e; simp [prj, List.lookup]
    · have hb : (v == k) = false := by simpa using e
      have := prj_lookup v f
      simp only [prj, List.map_cons, List.lookup, hb] at this ⊢
      exact this
theorem prj_len (f : Found) : (prj f).length = f.length := by simp [prj]
/-- both ends or none -/
def Settled (f : Found) (r : Road) : Prop := r.a ∈ keys f ↔ r.b ∈ keys f
theorem look_dOf {v : Int} (h : v ∈ keys f) : ∃ p, f.lookup v = some (p, dOf f v) := by
  cases e : f.lookup v with
  | none => exact absurd h (lookup_none_iff.mp e)
  | some x => exact ⟨x.1, by rw [dOf_of (p := x.1) (d := x.2) e]⟩
theorem relax1_growth (g : Growth rs s f) {r : Road} (hr : r ∈ rs) : ∃ f', Growth rs s f' ∧ relax1 (prj f) r = prj f' ∧ (∃ more, f' = f ++ more) ∧ (f' = f → Settled f r) ∧ (¬ Settled f r → f.length < f'.length) ∧ (Settled f r → f' = f) := by
  unfold relax1
  rw [prj_lookup, prj_lookup]
  by_cases ha : r.a ∈ keys f <;> by_cases hb : r.b ∈ keys f
  · obtain ⟨p, e1⟩ := look_dOf ha
    obtain ⟨q, e2⟩ := look_dOf hb
    rw [e1, e2]
    exact ⟨f, g, rfl, ⟨[], by simp⟩, fun _ => ⟨fun _ => hb, fun _ => ha⟩, fun h => absurd ⟨fun _ => hb, fun _ => ha⟩ h, fun _ => rfl⟩
  · obtain ⟨p, e1⟩ := look_dOf ha
    rw [e1, lookup_none_iff.mpr hb]
    refine ⟨f ++ [(r.b, (r.a, dOf f r.a + r.l))], .snoc g ha ⟨r, hr, rfl, .inl ⟨rfl, rfl⟩⟩ hb, by simp [prj], ⟨_, rfl⟩, fun h => ?_, fun _ => by simp, fun h => absurd (h.mp ha) hb⟩
    have h7 := congrArg List.length h
    simp at h7
  · obtain ⟨p, e1⟩ := look_dOf hb
    rw [e1, lookup_none_iff.mpr ha]
    refine ⟨f ++ [(r.a, (r.b, dOf f r.b + r.l))], .snoc g hb ⟨r, hr, rfl, .inr ⟨rfl, rfl⟩⟩ ha, by simp [prj], ⟨_, rfl⟩, fun h => ?_, fun _ => by simp, fun h => absurd (h.mpr hb) ha⟩
    have h7 := congrArg List.length h
    simp at h7
  · rw [lookup_none_iff.mpr ha, lookup_none_iff.mpr hb]
    exact ⟨f, g, rfl, ⟨[], by simp⟩, fun _ => ⟨fun h => absurd h ha, fun h => absurd h hb⟩, fun h => absurd ⟨fun h => absurd h ha, fun h => absurd h hb⟩ h, fun _ => rfl⟩
theorem relaxP_growth : ∀ (rs' : List Road) (f : Found), (∀ r ∈ rs', r ∈ rs) → Growth rs s f → ∃ f', Growth rs s f' ∧ rs'.foldl relax1 (prj f) = prj f' ∧ f.length ≤ f'.length ∧ ((∀ r ∈ rs', Settled f r) → f' = f) ∧ (¬ (∀ r ∈ rs', Settled f r) → f.length < f'.length)
  | [], f, _, g => ⟨f, g, rfl, Nat.le_refl _, fun _ => rfl, fun h => absurd (fun _ h => nomatch h) h⟩
  | r :: rs', f, hs, g => by
    obtain ⟨f1, g1, e1, ⟨more, hm⟩, h1, h2, h3⟩ := relax1_growth g (hs r (List.mem_cons_self ..))
    obtain ⟨f2, g2, e2, l2, h4, h5⟩ := relaxP_growth rs' f1 (fun r h => hs r (List.mem_cons_of_mem _ h)) g1
    have l1 : f.length ≤ f1.length := by rw [hm]; simp
    refine ⟨f2, g2, by rw [List.foldl_cons, e1, e2], by omega, fun h => ?_, fun h => ?_⟩
    · have q := h3 (h r (List.mem_cons_self ..))
      subst q
      exact h4 fun r' hr' => h r' (List.mem_cons_of_mem _ hr')
    · by_cases c : Settled f r
      · have q := h3 c
        subst q
        exact h5 fun h' => h fun r' hr' => by
          rcases List.mem_cons.mp hr' with rfl | hr'
          · exact c
          · exact h' r' hr'
      · have := h2 c
        omega
theorem settled_closed (h : ∀ r ∈ rs, Settled f r) : Closed rs f := by
  rintro u v l hu ⟨r, hr, _, ⟨rfl, rfl⟩ | ⟨rfl, rfl⟩⟩
  · exact (h r hr).mp hu
  · exact (h r hr).mpr hu
theorem relaxN_full (k : RoadsOk n rs) (hs : 0 ≤ s ∧ s < n) : ∀ (m : Nat) (f : Found), Growth rs s f → n < f.length + m ∨ (∀ r ∈ rs, Settled f r) → ∃ f', Growth rs s f' ∧ Closed rs f' ∧ relaxN rs m (prj f) = prj f'
  | 0, f, g, h => by
    have := g.length_le k hs
    rcases h with h | h
    · omega
    · exact ⟨f, g, settled_closed h, rfl⟩
  | m + 1, f, g, h => by
    obtain ⟨f1, g1, e1, l1, h1, h2⟩ := relaxP_growth rs f (fun _ q => q) g
    unfold relaxN relaxP
    rw [e1]
    by_cases c : ∀ r ∈ rs, Settled f r
    · have := h1 c
      subst this
      exact relaxN_full k hs m _ g1 (.inr c)
    · have := h2 c
      rcases h with h | h
      · exact relaxN_full k hs m f1 g1 (.inl (by omega))
      · exact absurd h c
theorem ownFound_full (T : IsTree n rs) (hs : 0 ≤ s ∧ s < n) : ∃ f, Full n rs s f ∧ ownFound n rs s = prj f := by
  obtain ⟨f, g, c, e⟩ := relaxN_full T.toRoadsOk hs n [(s, (-1, 0))] .start (.inl (by simp))
  exact ⟨f, T.full hs g c, e⟩
theorem ownFound_look (T : IsTree n rs) (hs : 0 ≤ s ∧ s < n) {v : Int} (hv : 0 ≤ v ∧ v < n) : (ownFound n rs s).lookup v = some (D n rs s v) := by
  obtain ⟨f, F, e⟩ := ownFound_full T hs
  rw [e, prj_lookup]
  obtain ⟨p, h⟩ := look_dOf (F.all v hv.1 hv.2)
  rw [h, F.dist T hs hv]
  rfl
end
end Wr

namespace Wr

def cellV (ns : List Int) (k : Nat) : Int := ns.getD k 0
def primes : List Int := [1000003, 1000033, 1000037, 1000039, 1000081, 1000099, 1000117, 1000121]
def draw (cell k many : Int) : Int := (cell * 48271 + k * 69621 + cell / 1000003 % 1000003 * 40692) % (primes.getD (k % 8).toNat 1) % many
theorem draw_nonneg {cell k many : Int} (h : 0 < many) : 0 ≤ draw cell k many := Int.emod_nonneg _ (by omega)
theorem draw_lt {cell k many : Int} (h : 0 < many) : draw cell k many < many := Int.emod_lt_of_pos _ h
def nameV (k n turn : Int) : Int := if 1 < n ∧ (turn = 1 ∨ n % turn ≠ 0) then k * turn % n else k
def turns : List Int := [1, 5, 7, 11]
def greats : List Int := [1, 4, 9, 1000000]
def turnV (cell : Int) : Int := turns.getD (cell / 48 % 4).toNat 0
def greatV (cell : Int) : Int := greats.getD (cell / 12 % 4).toNat 0
def min2 (i j : Int) : Int := if j < i then j else i
def max2 (i j : Int) : Int := if j > i then j else i
def toldN (cell most : Int) : Int := if cell / 7 % 6 = 1 then 1 + cell / 42 % most else 1 + cell % min2 most 7
def aboveV (cell other k : Int) : Int := if cell / 192 % 3 = 0 then max2 0 (k - 1 - draw other k 2) else draw other k k
def toldRoad (cell other n k : Int) : Road :=
  if draw other (k + 2) 2 = 0 then ⟨nameV (aboveV cell other k) n (turnV cell), nameV k n (turnV cell), 1 + draw other (k + 5) (greatV cell)⟩
  else ⟨nameV k n (turnV cell), nameV (aboveV cell other k) n (turnV cell), 1 + draw other (k + 5) (greatV cell)⟩
def ins {α : Type} (rs : List α) (p : Int) (r : α) : List α := rs.take p.toNat ++ [r] ++ rs.drop p.toNat
def toldRs (cell other n : Int) : Nat → List Road
  | 0 => []
  | i + 1 => ins (toldRs cell other n i) (draw other (1 + (i : Int) + 3) (((toldRs cell other n i).length : Int) + 1)) (toldRoad cell other n (1 + (i : Int)))
theorem ins_length {α : Type} (rs : List α) (p : Int) (r : α) : (ins rs p r).length = rs.length + 1 := by
  unfold ins
  simp [List.length_append, List.length_take, List.length_drop]
  omega
theorem mem_ins {α : Type} {rs : List α} {p : Int} {r x : α} : x ∈ ins rs p r ↔ x = r ∨ x ∈ rs := by
  unfold ins
  rw [List.mem_append, List.mem_append]
  have h := List.take_append_drop p.toNat rs
  constructor
  · rintro ((h1 | h1) | h1)
    · exact .inr (List.mem_of_mem_take h1)
    · exact .inl (by simpa using h1)
    · exact .inr (List.mem_of_mem_drop h1)
  · rintro (rfl | h1)
    · exact .inl (.inr (by simp))
    · rw [← h] at h1
      rcases List.mem_append.mp h1 with h1 | h1
      · exact .inl (.inl h1)
      · exact .inr h1
theorem toldRs_length (cell other n : Int) : ∀ i, (toldRs cell other n i).length = i
  | 0 => rfl
  | i + 1 => by unfold toldRs; rw [ins_length, toldRs_length cell other n i]
theorem mem_toldRs {cell other n : Int} {x : Road} : ∀ {i : Nat}, x ∈ toldRs cell other n i ↔ ∃ j : Nat, j < i ∧ x = toldRoad cell other n (1 + (j : Int))
  | 0 => by simp [toldRs]
  | i + 1 => by
    unfold toldRs
    rw [mem_ins, mem_toldRs (i := i)]
    constructor
    · rintro (h | ⟨j, hj, h⟩)
      · exact ⟨i, by omega, h⟩
      · exact ⟨j, by omega, h⟩
    · rintro ⟨j, hj, h⟩
      by_cases e : j = i
      · subst e; exact .inl h
      · exact .inr ⟨j, by omega, h⟩
theorem name_table : (List.range 13).all (fun n => turns.all fun t => (ivs n).all fun v => decide (0 ≤ nameV v n t) && decide (nameV v n t < n) && (ivs n).any (fun k => decide (nameV k n t = v)) && (ivs n).all (fun k => !decide (nameV k n t = nameV v n t) || decide (k = v))) = true := by decide +kernel
theorem name_facts {n : Nat} (hn : n ≤ 12) {t : Int} (ht : t ∈ turns) {v : Int} (h0 : 0 ≤ v) (h1 : v < n) : 0 ≤ nameV v n t ∧ nameV v n t < n ∧ (∃ k : Int, 0 ≤ k ∧ k < n ∧ nameV k n t = v) ∧ ∀ k : Int, 0 ≤ k → k < n → nameV k n t = nameV v n t → k = v := by
  have h := name_table
  rw [List.all_eq_true] at h
  have h := h n (List.mem_range.mpr (by omega))
  rw [List.all_eq_true] at h
  have h := h t ht
  rw [List.all_eq_true] at h
  have h := h v (mem_ivs.mpr ⟨h0, h1⟩)
  simp only [Bool.and_eq_true, decide_eq_true_eq, List.any_eq_true, List.all_eq_true, Bool.or_eq_true, Bool.not_eq_true', decide_eq_false_iff_not] at h
  obtain ⟨⟨⟨a, b⟩, k, hk, c⟩, d⟩ := h
  refine ⟨a, b, ⟨k, (mem_ivs.mp hk).1, (mem_ivs.mp hk).2, c⟩, fun k hk0 hk1 e => ?_⟩
  rcases d k (mem_ivs.mpr ⟨hk0, hk1⟩) with q | q
  · exact absurd e q
  · exact q
theorem name_zero (n t : Int) : nameV 0 n t = 0 := by unfold nameV; split <;> simp
theorem getD_mem4 {l : List Int} {i : Nat} {d : Int} (h : i < l.length) : l.getD i d ∈ l := by
  rw [List.getD_eq_getElem?_getD, List.getElem?_eq_getElem h]; exact List.getElem_mem h
theorem turn_mem (cell : Int) : turnV cell ∈ turns := getD_mem4 (by have h1 := Int.emod_nonneg (cell / 48) (show (4 : Int) ≠ 0 by decide); have h2 := Int.emod_lt_of_pos (cell / 48) (show (0 : Int) < 4 by decide); simp [turns]; omega)
theorem great_mem (cell : Int) : greatV cell ∈ greats := getD_mem4 (by have h1 := Int.emod_nonneg (cell / 12) (show (4 : Int) ≠ 0 by decide); have h2 := Int.emod_lt_of_pos (cell / 12) (show (0 : Int) < 4 by decide); simp [greats]; omega)
theorem great_range (cell : Int) : 1 ≤ greatV cell ∧ greatV cell ≤ 1000000 := by
  have := great_mem cell
  simp only [greats, List.mem_cons, List.not_mem_nil, or_false] at this
  omega
theorem toldN_range {cell most : Int} (h1 : 1 ≤ most) (h2 : most ≤ 12) : 1 ≤ toldN cell most ∧ toldN cell most ≤ 12 := by
  unfold toldN min2
  split
  · have a := Int.emod_nonneg (cell / 42) (show most ≠ 0 by omega)
    have b := Int.emod_lt_of_pos (cell / 42) (show 0 < most by omega)
    omega
  · split
    · have a := Int.emod_nonneg cell (show (7 : Int) ≠ 0 by decide)
      have b := Int.emod_lt_of_pos cell (show (0 : Int) < 7 by decide)
      omega
    · have a := Int.emod_nonneg cell (show most ≠ 0 by omega)
      have b := Int.emod_lt_of_pos cell (show 0 < most by omega)
      omega
theorem above_range (cell other : Int) {k : Int} (h : 1 ≤ k) : 0 ≤ aboveV cell other k ∧ aboveV cell other k < k := by
  have d1 := draw_nonneg (cell := other) (k := k) (many := 2) (by decide)
  have d2 := draw_lt (cell := other) (k := k) (many := 2) (by decide)
  have d3 := draw_nonneg (cell := other) (k := k) (many := k) (by omega)
  have d4 := draw_lt (cell := other) (k := k) (many := k) (by omega)
  unfold aboveV max2
  split
  · split <;> omega
  · omega
/-- villages, roads -/
def told (cell other most : Int) : Nat × List Road := ((toldN cell most).toNat, toldRs cell other (toldN cell most) ((toldN cell most).toNat - 1))
theorem toldRoad_ends (cell other n k : Int) : ((toldRoad cell other n k).a = nameV k n (turnV cell) ∧ (toldRoad cell other n k).b = nameV (aboveV cell other k) n (turnV cell)) ∨ ((toldRoad cell other n k).b = nameV k n (turnV cell) ∧ (toldRoad cell other n k).a = nameV (aboveV cell other k) n (turnV cell)) := by
  unfold toldRoad
  split
  · exact .inr ⟨rfl, rfl⟩
  · exact .inl ⟨rfl, rfl⟩
theorem toldRoad_l (cell other n k : Int) : (toldRoad cell other n k).l = 1 + draw other (k + 5) (greatV cell) := by
  unfold toldRoad; split <;> rfl
theorem told_tree (cell other : Int) {most : Int} (h1 : 1 ≤ most) (h2 : most ≤ 12) : IsTree (told cell other most).1 (told cell other most).2 := by
  have hr := toldN_range (cell := cell) h1 h2
  unfold told
  generalize toldN cell most = N at hr
  obtain ⟨n, rfl⟩ : ∃ n : Nat, N = n := ⟨N.toNat, by omega⟩
  simp only [Int.toNat_natCast]
  have ht := turn_mem cell
  have hn : n ≤ 12 := by omega
  have nm : ∀ {k : Int}, 0 ≤ k → k < n → _ := fun {k} a b => name_facts hn ht a b
  refine { ok := ?_, pos := by omega, le := hn, len := by rw [toldRs_length]; omega, conn := ?_ }
  · intro r hr
    obtain ⟨j, hj, rfl⟩ := mem_toldRs.mp hr
    have ab := above_range cell other (k := 1 + (j : Int)) (by omega)
    have f1 := nm (k := 1 + (j : Int)) (by omega) (by omega)
    have f2 := nm (k := aboveV cell other (1 + (j : Int))) ab.1 (by omega)
    have ne : nameV (1 + (j : Int)) n (turnV cell) ≠ nameV (aboveV cell other (1 + (j : Int))) n (turnV cell) := fun e => by
      have := f2.2.2.2 (1 + (j : Int)) (by omega) (by omega) e
      omega
    have gr := great_range cell
    have dl := draw_nonneg (cell := other) (k := 1 + (j : Int) + 5) (many := greatV cell) (by omega)
    have du := draw_lt (cell := other) (k := 1 + (j : Int) + 5) (many := greatV cell) (by omega)
    have hl := toldRoad_l cell other n (1 + (j : Int))
    rcases toldRoad_ends cell other n (1 + (j : Int)) with ⟨e1, e2⟩ | ⟨e1, e2⟩
    · rw [e1, e2, hl]
      exact ⟨f1.1, f1.2.1, f2.1, f2.2.1, ne, by omega, by omega⟩
    · rw [e1, e2, hl]
      exact ⟨f2.1, f2.2.1, f1.1, f1.2.1, ne.symm, by omega, by omega⟩
  · have key : ∀ k : Nat, k < n → Reach (toldRs cell other n (n - 1)) 0 (nameV k n (turnV cell)) := by
      intro k
      induction k using Nat.strongRecOn with
      | _ k ih =>
        intro hk
        by_cases e : k = 0
        · subst e
          have : nameV ((0 : Nat) : Int) n (turnV cell) = 0 := name_zero _ _
          rw [this]; exact .refl
        · have ab := above_range cell other (k := (k : Int)) (by omega)
          have i1 := ih (aboveV cell other (k : Int)).toNat (by omega) (by omega)
          have ec : (((aboveV cell other (k : Int)).toNat : Nat) : Int) = aboveV cell other k := by omega
          rw [ec] at i1
          have hm : toldRoad cell other n k ∈ toldRs cell other n (n - 1) := mem_toldRs.mpr ⟨k - 1, by omega, by congr 1; omega⟩
          refine i1.trans ⟨0 + (toldRoad cell other n k).l, .snoc .nil ⟨_, hm, rfl, ?_⟩⟩
          rcases toldRoad_ends cell other n k with ⟨e1, e2⟩ | ⟨e1, e2⟩
          · exact .inr ⟨e2, e1⟩
          · exact .inl ⟨e2, e1⟩
    intro v h0 hv
    obtain ⟨k, k0, k1, rfl⟩ := (nm h0 hv).2.2.1
    have := key k.toNat (by omega)
    rwa [show ((k.toNat : Nat) : Int) = k by omega] at this
end Wr

namespace Wr
open PySem PySem.Builtin PySem.Builtin.Str PySem.StrLaws L2 TL
/-! ### the text of a tree -/
def numS (i : Int) : Str := Str.ofString (toString i)
def rowT (r : Road) : Str := numS r.a ++ ("-" : Str) ++ numS r.b ++ (" " : Str) ++ numS r.l
def textL (n : Int) (rs : List Road) : List Str := (("villages " : Str) ++ numS n) :: rs.map rowT
def textT (n : Int) (rs : List Road) : Str := Txt.join ("\n" : Str) (textL n rs)
theorem tl_numS {i : Int} (h : 0 ≤ i) : tl (numS i) = numL i.toNat := by
  have e : i = ((i.toNat : Nat) : Int) := by omega
  unfold numS
  rw [e, tl_num]
  rfl
theorem tl_nl : tl ("\n" : Str) = [10] := by decide +kernel
theorem tl_sp : tl (" " : Str) = [32] := by decide +kernel
theorem tl_da : tl ("-" : Str) = [45] := by decide +kernel
theorem tl_zero : tl ("0" : Str) = [48] := by decide +kernel
theorem tl_vi : tl ("villages " : Str) = [118, 105, 108, 108, 97, 103, 101, 115, 32] := by decide +kernel
theorem vi_cut : ("villages " : Str) = ("villages" : Str) ++ (" " : Str) := by decide +kernel
theorem tl_v : tl ("villages" : Str) = [118, 105, 108, 108, 97, 103, 101, 115] := by decide +kernel
theorem tl_fig : tl ("0123456789" : Str) = [48, 49, 50, 51, 52, 53, 54, 55, 56, 57] := by decide +kernel
theorem tl_empty : tl ("" : Str) = [] := by decide +kernel
structure RowOk (r : Road) : Prop where
  a0 : 0 ≤ r.a
  b0 : 0 ≤ r.b
  l0 : 0 ≤ r.l
  a1 : r.a ≤ 9999999
  b1 : r.b ≤ 9999999
  l1 : r.l ≤ 9999999
theorem numS_free {i : Int} (h : 0 ≤ i) {s : Nat} (hs : s < 48 ∨ 57 < s) : s ∉ tl (numS i) := by
  rw [tl_numS h]; exact numL_free hs
theorem numS_len {i : Int} (h : 0 ≤ i) (h1 : i ≤ 9999999) : 1 ≤ (numS i).length ∧ (numS i).length ≤ 7 := by
  rw [len_tl, tl_numS h]
  refine ⟨List.length_pos_iff.mpr (numL_ne _), numL_len (by decide) (by omega)⟩
theorem rowT_free {r : Road} (h : RowOk r) : 10 ∉ tl (rowT r) := by
  unfold rowT
  simp only [tl_append, List.mem_append, tl_da, tl_sp]
  rintro ((((h1 | h1) | h1) | h1) | h1)
  · exact numS_free h.a0 (by decide) h1
  · simp at h1
  · exact numS_free h.b0 (by decide) h1
  · simp at h1
  · exact numS_free h.l0 (by decide) h1
theorem len_app (x y : Str) : (x ++ y).length = x.length + y.length := by
  rw [len_tl, tl_append, List.length_append, ← len_tl, ← len_tl]
theorem rowT_len {r : Road} (h : RowOk r) : (rowT r).length ≤ 23 := by
  unfold rowT
  have h1 := numS_len h.a0 h.a1
  have h2 := numS_len h.b0 h.b1
  have h3 := numS_len h.l0 h.l1
  have h4 : ("-" : Str).length = 1 := by rw [len_tl, tl_da]; rfl
  have h5 : (" " : Str).length = 1 := by rw [len_tl, tl_sp]; rfl
  simp only [len_app]
  omega
theorem head_len {n : Int} (h : 0 ≤ n) (h1 : n ≤ 9999999) : (("villages " : Str) ++ numS n).length ≤ 23 := by
  have h1 := numS_len h h1
  have h4 : ("villages " : Str).length = 9 := by rw [len_tl, tl_vi]; rfl
  rw [len_app]
  omega
theorem textL_lens {n : Int} {rs : List Road} (h : 0 ≤ n) (h1 : n ≤ 9999999) (hr : ∀ r ∈ rs, RowOk r) : ∀ x ∈ textL n rs, x.length ≤ 23 := by
  intro x hx
  unfold textL at hx
  rcases List.mem_cons.1 hx with rfl | hx
  · exact head_len h h1
  · obtain ⟨r, hr', rfl⟩ := List.mem_map.mp hx
    exact rowT_len (hr r hr')
theorem sum_lens : ∀ {l : List Str}, (∀ x ∈ l, x.length ≤ 23) → (l.map (·.length)).sum ≤ 23 * l.length
  | [], _ => by simp
  | x :: l, h => by
    have h1 := sum_lens (l := l) fun y hy => h y (List.mem_cons_of_mem _ hy)
    have h2 := h x (List.mem_cons_self ..)
    simp only [List.map_cons, List.length_cons, List.sum_cons]
    omega
theorem joinL_len (S : List Nat) : ∀ l : List (List Nat), (joinL S l).length ≤ (l.map List.length).sum + l.length * S.length
  | [] => by simp [joinL]
  | [x] => by simp [joinL]
  | x :: y :: l => by
    have h := joinL_len S (y :: l)
    simp only [joinL, List.length_append, List.map_cons, List.sum_cons, List.length_cons] at h ⊢
    have e : (l.length + 1 + 1) * S.length = (l.length + 1) * S.length + S.length := by rw [Nat.succ_mul]
    omega
theorem textT_len {n : Int} {rs : List Road} (h : 0 ≤ n) (h1 : n ≤ 9999999) (hr : ∀ r ∈ rs, RowOk r) (hl : rs.length ≤ 100) : (textT n rs).length ≤ 3000 := by
  have h2 := sum_lens (textL_lens h h1 hr)
  have h3 : (textL n rs).length = rs.length + 1 := by simp [textL]
  have h4 := joinL_len [10] ((textL n rs).map tl)
  rw [len_tl]
  unfold textT
  rw [join_eq, tl_join, tl_nl]
  have h5 : ((textL n rs).map tl).map List.length = (textL n rs).map (·.length) := by
    rw [List.map_map]
    exact List.map_congr_left fun x _ => (len_tl x).symm
  rw [h5, List.length_map] at h4
  have : ([10] : List Nat).length = 1 := rfl
  rw [this] at h4
  omega
theorem text_split {n : Int} {rs : List Road} (h : 0 ≤ n) (hr : ∀ r ∈ rs, RowOk r) : Txt.split (textT n rs) ("\n" : Str) = textL n rs := by
  unfold textT
  refine split_join tl_nl (by decide +kernel) (by simp [textL]) fun p hp => ?_
  unfold textL at hp
  rcases List.mem_cons.1 hp with rfl | hp
  · rw [tl_append, List.mem_append, tl_vi]
    rintro (h1 | h1)
    · simp at h1
    · exact numS_free h (by decide) h1
  · obtain ⟨r, hr', rfl⟩ := List.mem_map.mp hp
    exact rowT_free (hr r hr')
theorem head_part {n : Int} (h : 0 ≤ n) : Txt.partition (("villages " : Str) ++ numS n) (" " : Str) = (("villages" : Str), (" " : Str), numS n) := by
  rw [vi_cut]
  exact partition_app tl_sp (by rw [tl_v]; decide)
theorem app_assoc (x y z : Str) : x ++ y ++ z = x ++ (y ++ z) := ext_tl (by simp only [tl_append, List.append_assoc])
theorem row_split {r : Road} (h : RowOk r) : Txt.split (rowT r) (" " : Str) = [numS r.a ++ ("-" : Str) ++ numS r.b, numS r.l] := by
  have e : rowT r = Txt.join (" " : Str) [numS r.a ++ ("-" : Str) ++ numS r.b, numS r.l] := by
    rw [join_eq]
    refine ext_tl ?_
    rw [tl_join]
    unfold rowT
    simp [joinL, tl_append]
  rw [e]
  refine split_join tl_sp (by decide +kernel) (by simp) fun p hp => ?_
  simp only [List.mem_cons, List.not_mem_nil, or_false] at hp
  rcases hp with rfl | rfl
  · simp only [tl_append, List.mem_append, tl_da]
    rintro ((h1 | h1) | h1)
    · exact numS_free h.a0 (by decide) h1
    · simp at h1
    · exact numS_free h.b0 (by decide) h1
  · exact numS_free h.l0 (by decide)
theorem row_part {r : Road} (h : RowOk r) : Txt.partition (numS r.a ++ ("-" : Str) ++ numS r.b) ("-" : Str) = (numS r.a, ("-" : Str), numS r.b) := partition_app tl_da (numS_free h.a0 (by decide))
/-! ### a number told -/
theorem tw_all {p : Nat → Bool} : ∀ {l : List Nat}, (∀ c ∈ l, p c = true) → l.takeWhile p = l
  | [], _ => rfl
  | c :: l, h => by rw [List.takeWhile_cons, if_pos (h c (List.mem_cons_self ..)), tw_all fun d hd => h d (List.mem_cons_of_mem _ hd)]
theorem strip_all {x y : Str} (h : ∀ c ∈ tl x, y.cps.contains c = true) : Txt.stripChars x y = ("" : Str) := by
  unfold Txt.stripChars
  rw [PyProof.Rows.stripBy_eq]
  refine ext_tl ?_
  show (strSub x _ _).cps.toList = _
  rw [strSub_toList, tl_empty]
  have e : (tl x).takeWhile y.cps.contains = tl x := tw_all h
  unfold stripLo
  rw [if_pos rfl, e, List.drop_length]
  simp
theorem numS_strip {i : Int} (h : 0 ≤ i) : Txt.stripChars (numS i) ("0123456789" : Str) = ("" : Str) := by
  refine strip_all fun c hc => ?_
  rw [tl_numS h] at hc
  have := numL_digits i.toNat c hc
  rw [Array.contains_iff_mem, ← Array.mem_toList_iff]
  show c ∈ tl ("0123456789" : Str)
  rw [tl_fig]
  have e : c = 48 ∨ c = 49 ∨ c = 50 ∨ c = 51 ∨ c = 52 ∨ c = 53 ∨ c = 54 ∨ c = 55 ∨ c = 56 ∨ c = 57 := by omega
  rcases e with rfl | rfl | rfl | rfl | rfl | rfl | rfl | rfl | rfl | rfl <;> decide
theorem numL_head : ∀ n : Nat, (numL n).head? = some 48 → n = 0 := by
  intro n
  induction n using Nat.strongRecOn with | ind n ih =>
    intro h
    by_cases c : n < 10
    · rw [numL_lt c] at h
      simp at h
      omega
    · rw [numL_step (by omega), List.head?_append, Option.or_eq_some_iff] at h
      have h : (numL (n / 10)).head? = some 48 := by
        rcases h with h | h
        · exact h
        · exact absurd (List.head?_eq_none_iff.mp h.1) (numL_ne _)
      have := ih (n / 10) (by omega) h
      omega
theorem numS_zero {i : Int} (h : 0 ≤ i) (hs : Txt.startswith (numS i) ("0" : Str) = true) : numS i = ("0" : Str) := by
  unfold Txt.startswith at hs
  rw [Bool.and_eq_true, subAt_eq] at hs
  have h2 := hs.2
  rw [show ("0" : Str).cps.toList = [48] from tl_zero, show ("0" : Str).length = 1 by rw [len_tl, tl_zero]; rfl] at h2
  have e : (numS i).cps.toList = numL i.toNat := tl_numS h
  rw [e] at h2
  have : (numL i.toNat).head? = some 48 := by
    cases hl : numL i.toNat with
    | nil => rw [hl] at h2; simp at h2
    | cons c r =>
      rw [hl] at h2
      simp at h2
      rw [List.head?_cons, h2]
  have hz := numL_head _ this
  refine ext_tl ?_
  rw [tl_numS h, hz, tl_zero, numL_lt (by decide)]
theorem numS_int {i : Int} (h : 0 ≤ i) (h1 : i ≤ 9999999) : intText? (numS i) = some i := by
  have e : i = ((i.toNat : Nat) : Int) := by omega
  have hl := (numS_len h h1).2
  rw [len_tl, tl_numS h] at hl
  unfold numS
  rw [e]
  have := int_num (n := i.toNat) (by omega)
  exact this
end Wr
namespace Wr
open PySem PySem.Builtin PySem.Builtin.Str PySem.StrLaws L2 TL
theorem log_small {i : Int} (h0 : 0 ≤ i) (h1 : i ≤ 9999999) : i.natAbs.log2 < 1920 := by
  by_cases c : i.natAbs = 0
  · rw [c]; decide
  · rw [Nat.log2_lt c]
    have : i.natAbs < 2 ^ 24 := by
      have : (2 : Nat) ^ 24 = 16777216 := by decide
      omega
    exact Nat.lt_of_lt_of_le this (Nat.pow_le_pow_right (by decide) (by decide))
theorem line_of {n : Nat} (h : n ≤ 3000) : n ≤ sizeLine := Nat.le_trans h (by decide)
theorem row_adds {r : Road} (h : RowOk r) : ((numS r.a).length + ("-" : Str).length ≤ sizeLine) ∧ ((numS r.a ++ ("-" : Str)).length + (numS r.b).length ≤ sizeLine) ∧ ((numS r.a ++ ("-" : Str) ++ numS r.b).length + (" " : Str).length ≤ sizeLine) ∧
    ((numS r.a ++ ("-" : Str) ++ numS r.b ++ (" " : Str)).length + (numS r.l).length ≤ sizeLine) := by
  have h1 := numS_len h.a0 h.a1
  have h2 := numS_len h.b0 h.b1
  have h3 := numS_len h.l0 h.l1
  have h4 : ("-" : Str).length = 1 := by rw [len_tl, tl_da]; rfl
  have h5 : (" " : Str).length = 1 := by rw [len_tl, tl_sp]; rfl
  simp only [len_app]
  refine ⟨line_of (by omega), line_of (by omega), line_of (by omega), line_of (by omega)⟩
theorem head_add {n : Int} (h : 0 ≤ n) (h1 : n ≤ 9999999) : ("villages " : Str).length + (numS n).length ≤ sizeLine := by
  have := head_len h h1
  rw [len_app] at this
  exact line_of (by omega)
theorem join_fit {n : Int} {rs : List Road} (h : 0 ≤ n) (h1 : n ≤ 9999999) (hr : ∀ r ∈ rs, RowOk r) (hl : rs.length ≤ 100) : ((textL n rs).map (·.length)).sum + (textL n rs).length * ("\n" : Str).length ≤ 16777216 := by
  have h2 := sum_lens (textL_lens h h1 hr)
  have h3 : (textL n rs).length = rs.length + 1 := by simp [textL]
  have h4 : ("\n" : Str).length = 1 := by rw [len_tl, tl_nl]; rfl
  rw [h4]
  omega
theorem rowOk_of {n : Nat} {rs : List Road} (T : IsTree n rs) {r : Road} (h : r ∈ rs) : RowOk r := by
  have := T.ok r h
  have := T.le
  exact ⟨by omega, by omega, by omega, by omega, by omega, by omega⟩
theorem two_tree : IsTree 2 [⟨1, 0, 1000000⟩] := by
  refine { ok := ?_, pos := by decide, le := by decide, len := rfl, conn := ?_ }
  · intro r hr
    rw [List.mem_singleton] at hr
    subst hr
    decide
  · intro v h0 h1
    have : v = 0 ∨ v = 1 := by omega
    rcases this with rfl | rfl
    · exact Reach.refl
    · exact ⟨0 + 1000000, .snoc .nil ⟨⟨1, 0, 1000000⟩, List.mem_singleton.mpr rfl, rfl, .inr ⟨rfl, rfl⟩⟩⟩
theorem two_text : ("villages 2\n1-0 1000000" : Str) = textT 2 [⟨1, 0, 1000000⟩] := by
  unfold textT
  rw [join_eq]
  decide +kernel
end Wr

namespace Wr
open PySem PySem.Builtin PySem.Builtin.Str PySem.StrLaws L2 TL
/-! ### numbers that texts tell, over lists of signs -/
def digB (c : Nat) : Bool := decide (48 ≤ c) && decide (c ≤ 57)
def lenB (l : List Nat) : Bool := decide (1 ≤ l.length) && decide (l.length ≤ 7)
def numB (l : List Nat) : Bool := lenB l && (l.all digB && !(l.head? == some 48 && l != [48]))
def numV (l : List Nat) : Int := if numB l = true then (NumText.digitsVal l : Nat) else -1
theorem digB_iff {c : Nat} : digB c = true ↔ 48 ≤ c ∧ c ≤ 57 := by simp [digB]
theorem fig_has (c : Nat) : ("0123456789" : Str).cps.contains c = digB c := by
  have h : ("0123456789" : Str).cps = #[48, 49, 50, 51, 52, 53, 54, 55, 56, 57] := by decide +kernel
  rw [h]
  by_cases e : 48 ≤ c ∧ c ≤ 57
  · rw [digB_iff.mpr e]
    have e : c = 48 ∨ c = 49 ∨ c = 50 ∨ c = 51 ∨ c = 52 ∨ c = 53 ∨ c = 54 ∨ c = 55 ∨ c = 56 ∨ c = 57 := by omega
    rcases e with rfl | rfl | rfl | rfl | rfl | rfl | rfl | rfl | rfl | rfl <;> decide +kernel
  · have : digB c = false := by
      cases q : digB c with
      | false => rfl
      | true => exact absurd (digB_iff.mp q) e
    rw [this]
    cases q : (#[48, 49, 50, 51, 52, 53, 54, 55, 56, 57] : Array Nat).contains c with
    | false => rfl
    | true =>
      rw [Array.contains_iff_mem, ← Array.mem_toList_iff] at q
      simp at q
      omega
section
variable {p : Nat → Bool}
theorem tw_split : ∀ l : List Nat, (∀ c ∈ l, p c = true) ∨ ∃ c r, l.drop (l.takeWhile p).length = c :: r ∧ p c = false
  | [] => .inl fun c h => nomatch h
  | c :: l => by
    cases e : p c with
    | false => exact .inr ⟨c, l, by rw [List.takeWhile_cons, if_neg (by rw [e]; decide)]; rfl, e⟩
    | true =>
      rw [List.takeWhile_cons, if_pos e, List.length_cons, List.drop_succ_cons]
      rcases tw_split l with h | h
      · exact .inl fun d hd => (List.mem_cons.mp hd).elim (fun z => z ▸ e) (h d)
      · exact .inr h
theorem tw_last {c : Nat} (h : p c = false) : ∀ m : List Nat, ((m ++ [c]).takeWhile p).length ≤ m.length
  | [] => by rw [List.nil_append, List.takeWhile_cons, if_neg (by rw [h]; decide)]; exact Nat.le_refl _
  | d :: m => by
    rw [List.cons_append, List.takeWhile_cons]
    have := tw_last h m
    split
    · exact Nat.succ_le_succ this
    · simp
end
theorem strip_iff (t : Str) : Txt.stripChars t ("0123456789" : Str) = ("" : Str) ↔ (tl t).all digB = true := by
  constructor
  · intro h
    rw [List.all_eq_true]
    rcases tw_split (p := ("0123456789" : Str).cps.contains) (tl t) with q | ⟨c, r, e, hc⟩
    · intro c hc
      rw [← fig_has]
      exact q c hc
    · exfalso
      unfold Txt.stripChars at h
      rw [PyProof.Rows.stripBy_eq] at h
      have h2 := congrArg (fun z => (tl z).length) h
      simp only [tl_strSub, tl_empty, List.length_nil] at h2
      have hl : (tl t).length = ((tl t).takeWhile ("0123456789" : Str).cps.contains).length + (r.length + 1) := by
        have := congrArg List.length e
        rw [List.length_drop, List.length_cons] at this
        have h3 : ((tl t).takeWhile ("0123456789" : Str).cps.contains).length ≤ (tl t).length := (List.takeWhile_prefix _).length_le
        omega
      have h4 := tw_last hc r.reverse
      have elo : stripLo ("0123456789" : Str).cps.contains true t = ((tl t).takeWhile ("0123456789" : Str).cps.contains).length := by unfold stripLo; rw [if_pos rfl]
      have ehi : stripHi ("0123456789" : Str).cps.contains true t (stripLo ("0123456789" : Str).cps.contains true t) = (tl t).length - (((tl t).drop ((tl t).takeWhile ("0123456789" : Str).cps.contains).length).reverse.takeWhile ("0123456789" : Str).cps.contains).length := by
        unfold stripHi
        rw [if_pos rfl, elo, len_tl]
      rw [ehi, elo, e, List.reverse_cons] at h2
      rw [List.length_take, List.length_cons] at h2
      rw [List.length_reverse] at h4
      omega
  · intro h
    rw [List.all_eq_true] at h
    exact strip_all fun c hc => by rw [fig_has]; exact h c hc
theorem starts0 (t : Str) : Txt.startswith t ("0" : Str) = ((tl t).head? == some 48) := by
  unfold Txt.startswith
  rw [subAt_eq, show ("0" : Str).cps.toList = [48] from tl_zero, show ("0" : Str).length = 1 by rw [len_tl, tl_zero]; rfl, len_tl]
  cases e : tl t with
  | nil => rw [show t.cps.toList = [] from e]; rfl
  | cons c r =>
    rw [show t.cps.toList = c :: r from e]
    simp
theorem is0 (t : Str) : t = ("0" : Str) ↔ tl t = [48] := ⟨fun h => by rw [h, tl_zero], fun h => ext_tl (h.trans tl_zero.symm)⟩
theorem val_snoc (l : List Nat) (c : Nat) : NumText.digitsVal (l ++ [c]) = NumText.digitsVal l * 10 + (c - 48) := by
  unfold NumText.digitsVal
  rw [List.foldl_append]
  rfl
theorem num_back : ∀ (n : Nat) (l : List Nat), l.length = n → l ≠ [] → l.all digB = true → l.head? ≠ some 48 → l = numL (NumText.digitsVal l) ∧ 1 ≤ NumText.digitsVal l
  | 0, l, h, hn, _, _ => absurd (List.length_eq_zero_iff.mp h) hn
  | n + 1, l, h, hn, ha, hh => by
    obtain ⟨m, c, rfl⟩ : ∃ m c, l = m ++ [c] := ⟨l.dropLast, l.getLast hn, (List.dropLast_concat_getLast hn).symm⟩
    rw [List.all_append, Bool.and_eq_true] at ha
    have hc : 48 ≤ c ∧ c ≤ 57 := digB_iff.mp (by have := ha.2; simpa using this)
    rw [List.length_append, List.length_singleton] at h
    rw [val_snoc]
    cases m with
    | nil =>
      have hc0 : c ≠ 48 := fun e => hh (by rw [e]; rfl)
      have ev : NumText.digitsVal ([] : List Nat) = 0 := rfl
      rw [ev, Nat.zero_mul, Nat.zero_add, numL_lt (by omega)]
      refine ⟨?_, by omega⟩
      have back : 48 + (c - 48) = c := by omega
      rw [back]
      rfl
    | cons d m =>
      have ih := num_back n (d :: m) (by omega) (by simp) ha.1 (by simpa using hh)
      obtain ⟨e, hv⟩ := ih
      refine ⟨?_, by omega⟩
      rw [numL_step (by omega)]
      have e1 : (NumText.digitsVal (d :: m) * 10 + (c - 48)) / 10 = NumText.digitsVal (d :: m) := by omega
      have e2 : 48 + (NumText.digitsVal (d :: m) * 10 + (c - 48)) % 10 = c := by omega
      rw [e1, e2, ← e]
theorem pow_len : ∀ l : List Nat, l.all digB = true → NumText.digitsVal l < 10 ^ l.length := by
  intro l
  induction hn : l.length generalizing l with
  | zero => intro _; rw [List.length_eq_zero_iff.mp hn]; decide
  | succ n ih =>
    intro ha
    have hne : l ≠ [] := fun e => by rw [e] at hn; cases hn
    obtain ⟨m, c, rfl⟩ : ∃ m c, l = m ++ [c] := ⟨l.dropLast, l.getLast hne, (List.dropLast_concat_getLast hne).symm⟩
    rw [List.all_append, Bool.and_eq_true] at ha
    have hc : 48 ≤ c ∧ c ≤ 57 := digB_iff.mp (by have := ha.2; simpa using this)
    rw [List.length_append, List.length_singleton] at hn
    have := ih m (by omega) ha.1
    rw [val_snoc, Nat.pow_succ]
    omega
theorem numB_num {l : List Nat} (h : numB l = true) : l = numL (NumText.digitsVal l) ∧ NumText.digitsVal l ≤ 9999999 := by
  unfold numB lenB at h
  simp only [Bool.and_eq_true, decide_eq_true_eq, Bool.not_eq_true'] at h
  obtain ⟨⟨h1, h7⟩, ha, hz⟩ := h
  have hp := pow_len l ha
  have : 10 ^ l.length ≤ 10 ^ 7 := Nat.pow_le_pow_right (by decide) h7
  have hv : NumText.digitsVal l ≤ 9999999 := by omega
  refine ⟨?_, hv⟩
  by_cases c : l.head? = some 48
  · rw [c] at hz
    simp at hz
    rw [hz]
    decide +kernel
  · exact (num_back l.length l rfl (fun e => by rw [e] at h1; simp at h1) ha c).1
theorem numV_numL {n : Nat} (h : n ≤ 9999999) : numV (numL n) = n := by
  have hb : numB (numL n) = true := by
    unfold numB lenB
    simp only [Bool.and_eq_true, decide_eq_true_eq, Bool.not_eq_true']
    refine ⟨⟨List.length_pos_iff.mpr (numL_ne _), numL_len (by decide) (by omega)⟩, ?_, ?_⟩
    · rw [List.all_eq_true]
      intro c hc
      exact digB_iff.mpr (numL_digits n c hc)
    · by_cases c : (numL n).head? = some 48
      · have := numL_head n c
        subst this
        decide +kernel
      · simp [c]
  unfold numV
  rw [if_pos hb, numL_val]
theorem numV_range (l : List Nat) : -1 ≤ numV l ∧ numV l ≤ 9999999 := by
  unfold numV
  split
  · rename_i h
    have := (numB_num h).2
    omega
  · omega
theorem numV_int {t : Str} (h : numB (tl t) = true) : intText? t = some (numV (tl t)) := by
  obtain ⟨e, hv⟩ := numB_num h
  have et : t = numS (NumText.digitsVal (tl t) : Nat) := ext_tl (by rw [tl_numS (by omega)]; exact e)
  have hi := numS_int (i := (NumText.digitsVal (tl t) : Nat)) (by omega) (by omega)
  unfold numV
  rw [if_pos h, ← hi, ← et]
theorem numB_len {t : Str} (h : numB (tl t) = true) : t.length ≤ 7 := by
  have h7 := (Bool.and_eq_true_iff.mp (Bool.and_eq_true_iff.mp h).1).2
  rw [len_tl]
  exact of_decide_eq_true h7
/-! ### roads, heads -/
def rdV (l : List Nat) : Option Road := match spl [32] 0 [] l with
  | [w0, w1] => match par [45] [] w0 with
    | some (x, y) => if numV x = -1 ∨ numV y = -1 ∨ numV w1 = -1 then none else some ⟨numV x, numV y, numV w1⟩
    | none => none
  | _ => none
def viL : List Nat := [118, 105, 108, 108, 97, 103, 101, 115]
def headV (l : List Nat) : Int := match par [32] [] l with
  | some (w, y) => if w = viL then numV y else -1
  | none => -1
theorem rdV_ok {l : List Nat} {r : Road} (h : rdV l = some r) : RowOk r := by
  unfold rdV at h
  split at h
  · rename_i w0 w1 e
    split at h
    · rename_i x y e2
      split at h
      · cases h
      · rename_i hn
        cases h
        have h1 := numV_range x
        have h2 := numV_range y
        have h3 := numV_range w1
        refine ⟨?_, ?_, ?_, ?_, ?_, ?_⟩ <;> dsimp only <;> omega
    · cases h
  · cases h
theorem rdV_rowT {r : Road} (h : RowOk r) : rdV (tl (rowT r)) = some r := by
  have ea := tl_numS h.a0
  have eb := tl_numS h.b0
  have el := tl_numS h.l0
  have e : tl (rowT r) = (numL r.a.toNat ++ ([45] ++ numL r.b.toNat)) ++ ([32] ++ numL r.l.toNat) := by
    unfold rowT
    simp only [tl_append, ea, eb, el, tl_da, tl_sp, List.append_assoc]
  have f1 : 32 ∉ numL r.a.toNat ++ ([45] ++ numL r.b.toNat) := by
    simp only [List.mem_append, not_or]
    exact ⟨numL_free (by decide), by decide, numL_free (by decide)⟩
  have f2 : 32 ∉ numL r.l.toNat := numL_free (by decide)
  unfold rdV
  rw [e, spl_part1 (S := []) f1, spl_last1 (S := []) f2]
  simp only [List.nil_append]
  rw [par_part1 (S := []) (numL_free (by decide))]
  have := h.a1
  have := h.b1
  have := h.l1
  have := h.a0
  have := h.b0
  have := h.l0
  simp only [List.nil_append]
  rw [numV_numL (by omega), numV_numL (by omega), numV_numL (by omega)]
  rw [if_neg (by omega)]
  obtain ⟨a, b, l⟩ := r
  simp only at *
  rw [show ((a.toNat : Nat) : Int) = a by omega, show ((b.toNat : Nat) : Int) = b by omega, show ((l.toNat : Nat) : Int) = l by omega]
theorem headV_num {n : Int} (h0 : 0 ≤ n) (h1 : n ≤ 9999999) : headV (tl (("villages " : Str) ++ numS n)) = n := by
  have e : tl (("villages " : Str) ++ numS n) = viL ++ ([32] ++ numL n.toNat) := by
    rw [tl_append, tl_vi, tl_numS h0]
    rfl
  unfold headV
  rw [e, par_part1 (S := []) (by decide)]
  simp only [List.nil_append]
  rw [if_pos trivial, numV_numL (by omega)]
  omega
/-! ### rows read -/
/-- the first row that can't be read, from k on -/
def badFrom : Nat → List (List Nat) → Option Nat
  | _, [] => none
  | k, r :: rs => if (rdV r).isNone = true then some k else badFrom (k + 1) rs
/-- what the reading of rows comes to: nought, or the number of a row -/
inductive Ref : List (List Nat) → Int → Prop
  | head {r : List Nat} {rs : List (List Nat)} : headV r < 1 → Ref (r :: rs) 1
  | row {r : List Nat} {rs : List (List Nat)} {k : Nat} : 1 ≤ headV r → badFrom 2 rs = some k → Ref (r :: rs) k
  | none {r : List Nat} {rs : List (List Nat)} : 1 ≤ headV r → badFrom 2 rs = none → ¬ IsTree (headV r).toNat (rs.filterMap rdV) → Ref (r :: rs) (rs.length + 2 : Nat)
  | tree {r : List Nat} {rs : List (List Nat)} : 1 ≤ headV r → badFrom 2 rs = none → IsTree (headV r).toNat (rs.filterMap rdV) → Ref (r :: rs) 0
theorem badFrom_none : ∀ {rs : List (List Nat)} {k : Nat}, badFrom k rs = none → ∀ r ∈ rs, ∃ d, rdV r = some d
  | [], _, _, _, h => nomatch h
  | r :: rs, k, h, x, hx => by
    unfold badFrom at h
    split at h
    · cases h
    · rename_i q
      rcases List.mem_cons.mp hx with rfl | later
      · cases e : rdV x with
        | none => rw [e] at q; exact absurd rfl q
        | some d => exact ⟨d, rfl⟩
      · exact badFrom_none h x later
theorem badFrom_good : ∀ {rs : List (List Nat)} {k : Nat}, (∀ r ∈ rs, ∃ d, rdV r = some d) → badFrom k rs = none
  | [], _, _ => rfl
  | r :: rs, k, h => by
    obtain ⟨d, e⟩ := h r (List.mem_cons_self ..)
    unfold badFrom
    rw [e]
    exact badFrom_good (fun x hx => h x (List.mem_cons_of_mem _ hx))
theorem badFrom_at : ∀ {rs ts : List (List Nat)} {o : List Nat} {k : Nat}, (∀ r ∈ rs, ∃ d, rdV r = some d) → rdV o = none → badFrom k (rs ++ o :: ts) = some (k + rs.length)
  | [], ts, o, k, _, ho => by
    unfold badFrom
    rw [List.nil_append]
    simp [ho]
  | r :: rs, ts, o, k, h, ho => by
    obtain ⟨d, e⟩ := h r (List.mem_cons_self ..)
    rw [List.cons_append]
    unfold badFrom
    rw [e]
    have := badFrom_at (ts := ts) (k := k + 1) (fun x hx => h x (List.mem_cons_of_mem _ hx)) ho
    rw [List.length_cons, show k + (rs.length + 1) = k + 1 + rs.length by omega, ← this]
    rfl
theorem badFrom_split : ∀ {rs : List (List Nat)} {k b : Nat}, badFrom k rs = some b → ∃ i, b = k + i ∧ ∃ o, rs[i]? = some o ∧ rdV o = none ∧ ∀ r ∈ rs.take i, ∃ d, rdV r = some d
  | [], _, _, h => by cases h
  | r :: rs, k, b, h => by
    unfold badFrom at h
    split at h
    · rename_i q
      cases h
      refine ⟨0, rfl, r, rfl, ?_, fun x hx => nomatch hx⟩
      cases e : rdV r with
      | none => rfl
      | some d => rw [e] at q; cases q
    · rename_i q
      obtain ⟨i, rfl, o, ho, hb, hg⟩ := badFrom_split h
      refine ⟨i + 1, by omega, o, ho, hb, fun x hx => ?_⟩
      rw [List.take_succ_cons] at hx
      rcases List.mem_cons.mp hx with rfl | later
      · cases e : rdV x with
        | none => rw [e] at q; exact absurd rfl q
        | some d => exact ⟨d, rfl⟩
      · exact hg x later
/-! ### pieces are no longer than the text -/
theorem spl_len {S : List Nat} : ∀ (l : List Nat) (k : Nat) (acc : List Nat), (spl S k acc l).length ≤ l.length + 1 ∧ ∀ p ∈ spl S k acc l, p.length ≤ acc.length + l.length
  | [], k, acc => by
    rw [spl_nil]
    exact ⟨by simp, fun p hp => by rw [List.mem_singleton.mp hp]; simp⟩
  | c :: r, 0, acc => by
    cases h : pre S (c :: r) with
    | true =>
      rw [spl_hit h]
      obtain ⟨h1, h2⟩ := spl_len (S := S) r (S.length - 1) []
      refine ⟨by simp only [List.length_cons]; omega, fun p hp => ?_⟩
      rcases List.mem_cons.mp hp with rfl | later
      · omega
      · have := h2 p later
        simp only [List.length_nil, List.length_cons] at this ⊢
        omega
    | false =>
      rw [spl_miss h]
      obtain ⟨h1, h2⟩ := spl_len (S := S) r 0 (acc ++ [c])
      refine ⟨by simp only [List.length_cons]; omega, fun p hp => ?_⟩
      have := h2 p hp
      simp only [List.length_append, List.length_cons, List.length_nil] at this ⊢
      omega
  | c :: r, k + 1, acc => by
    show (spl S k acc r).length ≤ _ ∧ ∀ p ∈ spl S k acc r, _
    obtain ⟨h1, h2⟩ := spl_len (S := S) r k acc
    refine ⟨by simp only [List.length_cons]; omega, fun p hp => ?_⟩
    have := h2 p hp
    simp only [List.length_cons]
    omega
theorem par_len {S : List Nat} : ∀ (l : List Nat) (acc : List Nat) {a b : List Nat}, par S acc l = some (a, b) → a.length ≤ acc.length + l.length ∧ b.length ≤ l.length
  | [], acc, a, b, h => by cases h
  | c :: r, acc, a, b, h => by
    cases e : pre S (c :: r) with
    | true =>
      rw [par_hit e] at h
      cases h
      refine ⟨by omega, by rw [List.length_drop]; omega⟩
    | false =>
      rw [par_miss e] at h
      have := par_len r _ h
      simp only [List.length_append, List.length_cons, List.length_nil] at this ⊢
      omega
/-! ### the model's texts -/
theorem spl_sp (t : Str) : (Txt.split t (" " : Str)).map tl = spl [32] 0 [] (tl t) := by
  rw [split_spl t (" " : Str) (by rw [tl_sp]; decide) (kind_ok (by decide +kernel)), tl_sp]
theorem spl_nl (t : Str) : (Txt.split t ("\n" : Str)).map tl = spl [10] 0 [] (tl t) := by
  rw [split_spl t ("\n" : Str) (by rw [tl_nl]; decide) (kind_ok (by decide +kernel)), tl_nl]
theorem par_sp (t : Str) : Txt.partition t (" " : Str) = (match par [32] [] (tl t) with | some (a, b) => (⟨a.toArray⟩, (" " : Str), ⟨b.toArray⟩) | none => (t, Str.empty, Str.empty)) := by
  rw [partition_par t (" " : Str) (by rw [tl_sp]; decide), tl_sp]
  cases par [32] [] (tl t) <;> rfl
theorem par_da (t : Str) : Txt.partition t ("-" : Str) = (match par [45] [] (tl t) with | some (a, b) => (⟨a.toArray⟩, ("-" : Str), ⟨b.toArray⟩) | none => (t, Str.empty, Str.empty)) := by
  rw [partition_par t ("-" : Str) (by rw [tl_da]; decide), tl_da]
  cases par [45] [] (tl t) <;> rfl
theorem spl_len_str {t y : Str} (hy : tl y ≠ []) (hk : y.cps.all (· < 256) = true) : (Txt.split t y).length ≤ t.length + 1 ∧ ∀ p ∈ Txt.split t y, p.length ≤ t.length := by
  have e := split_spl t y hy (kind_ok hk)
  obtain ⟨h1, h2⟩ := spl_len (S := tl y) (tl t) 0 []
  rw [← e, List.length_map] at h1
  refine ⟨by rw [len_tl]; exact h1, fun p hp => ?_⟩
  rw [len_tl, len_tl]
  have := h2 (tl p) (by rw [← e]; exact List.mem_map.mpr ⟨p, hp, rfl⟩)
  simpa using this
theorem spl_ne {S : List Nat} : ∀ (l : List Nat) (k : Nat) (acc : List Nat), spl S k acc l ≠ []
  | [], k, acc => by rw [spl_nil]; simp
  | c :: r, 0, acc => by
    cases h : pre S (c :: r) with
    | true => rw [spl_hit h]; simp
    | false => rw [spl_miss h]; exact spl_ne r 0 _
  | c :: r, k + 1, acc => spl_ne r k acc
end Wr

namespace Wr
open PySem PySem.Builtin PySem.Builtin.Str PySem.StrLaws L2 TL
/-! ### rows that make no tree -/
def okRd (n : Nat) (r : Road) : Bool := decide (0 ≤ r.a ∧ r.a < n ∧ 0 ≤ r.b ∧ r.b < n ∧ r.a ≠ r.b ∧ 1 ≤ r.l ∧ r.l ≤ 1000000)
def treeB (n : Nat) (rs : List Road) : Bool := decide (n ≤ 12) && (decide (rs.length + 1 = n) && (rs.all (okRd n) && decide (n ≤ (walked n rs 0).length)))
theorem tree_treeB {n : Nat} {rs : List Road} (T : IsTree n rs) : treeB n rs = true := by
  have h1 := T.len_walked (s := 0) ⟨by omega, by have := T.pos; omega⟩
  unfold treeB
  simp only [Bool.and_eq_true, decide_eq_true_eq, List.all_eq_true]
  exact ⟨T.le, T.len, fun r hr => decide_eq_true (T.ok r hr), by omega⟩
def noB (t : Str) : Bool := match spl [10] 0 [] (tl t) with
  | r :: rs => decide (1 ≤ headV r) && ((badFrom 2 rs).isNone && !treeB (headV r).toNat (rs.filterMap rdV))
  | [] => false
theorem noB_ref {t : Str} (h : noB t = true) : Ref (spl [10] 0 [] (tl t)) (((spl [10] 0 [] (tl t)).length : Nat) + 1 : Int) := by
  unfold noB at h
  generalize spl [10] 0 [] (tl t) = L at h ⊢
  cases L with
  | nil => cases h
  | cons r rs =>
    simp only [Bool.and_eq_true, decide_eq_true_eq, Option.isNone_iff_eq_none, Bool.not_eq_true'] at h
    obtain ⟨h1, h2, h3⟩ := h
    have := Ref.none h1 h2 (fun T => by rw [tree_treeB T] at h3; cases h3)
    rw [List.length_cons]
    have e : (((rs.length + 1 : Nat) : Int) + 1) = ((rs.length + 2 : Nat) : Int) := by omega
    rw [e]
    exact this
/-! ### rows joined -/
theorem spl_rows {L : List Str} (hne : L ≠ []) (h : ∀ o ∈ L, 10 ∉ tl o) : spl [10] 0 [] (tl (Txt.join ("\n" : Str) L)) = L.map tl := by
  rw [← spl_nl, split_join tl_nl (by decide +kernel) hne h]
theorem rows_good {rs : List Road} (h : ∀ r ∈ rs, RowOk r) : ∀ x ∈ rs.map fun r => tl (rowT r), ∃ d, rdV x = some d := by
  intro x hx
  obtain ⟨r, hr, rfl⟩ := List.mem_map.mp hx
  exact ⟨r, rdV_rowT (h r hr)⟩
theorem rows_roads : ∀ {rs : List Road}, (∀ r ∈ rs, RowOk r) → (rs.map fun r => tl (rowT r)).filterMap rdV = rs
  | [], _ => rfl
  | r :: rs, h => by
    rw [List.map_cons, List.filterMap_cons_some (rdV_rowT (h r (List.mem_cons_self ..))), rows_roads fun x hx => h x (List.mem_cons_of_mem _ hx)]
theorem textL_tl (n : Int) (rs : List Road) : (textL n rs).map tl = tl (("villages " : Str) ++ numS n) :: rs.map fun r => tl (rowT r) := by
  unfold textL
  rw [List.map_cons, List.map_map]
  rfl
theorem head_free {n : Int} (h : 0 ≤ n) : 10 ∉ tl (("villages " : Str) ++ numS n) := by
  rw [tl_append, List.mem_append, tl_vi]
  rintro (h1 | h1)
  · simp at h1
  · exact numS_free h (by decide) h1
theorem textL_free {n : Int} {rs : List Road} (h : 0 ≤ n) (hr : ∀ r ∈ rs, RowOk r) : ∀ o ∈ textL n rs, 10 ∉ tl o := by
  intro o ho
  unfold textL at ho
  rcases List.mem_cons.1 ho with rfl | ho
  · exact head_free h
  · obtain ⟨r, hr', rfl⟩ := List.mem_map.mp ho
    exact rowT_free (hr r hr')
/-- a text of rows that can be read -/
theorem text_tree {n : Nat} {rs : List Road} (T : IsTree n rs) : Ref (spl [10] 0 [] (tl (textT n rs))) 0 := by
  have hr : ∀ r ∈ rs, RowOk r := fun r h => rowOk_of T h
  have n1 := T.pos
  have n12 := T.le
  have hv := headV_num (n := (n : Int)) (by omega) (by omega)
  unfold textT
  rw [spl_rows (by simp [textL]) (textL_free (by omega) hr), textL_tl]
  refine .tree (by omega) (badFrom_good (rows_good hr)) ?_
  rw [hv, rows_roads hr]
  exact T
theorem text_none {n : Nat} {rs : List Road} (h1 : 1 ≤ n) (h2 : n ≤ 9999999) (hr : ∀ r ∈ rs, RowOk r) (T : ¬ IsTree n rs) : Ref (spl [10] 0 [] (tl (textT n rs))) (rs.length + 2 : Nat) := by
  have hv := headV_num (n := (n : Int)) (by omega) (by omega)
  unfold textT
  rw [spl_rows (by simp [textL]) (textL_free (by omega) hr), textL_tl]
  have := Ref.none (r := tl (("villages " : Str) ++ numS n)) (rs := rs.map fun r => tl (rowT r)) (by omega) (badFrom_good (rows_good hr)) (by rw [hv, rows_roads hr]; exact T)
  rw [List.length_map] at this
  exact this
/-- a row that can't be read, behind the first i roads -/
theorem text_odd {n : Nat} {rs : List Road} {o : Str} {ws : List Str} {i : Nat} (h1 : 1 ≤ n) (h2 : n ≤ 9999999) (hr : ∀ r ∈ rs, RowOk r) (hi : i ≤ rs.length) (ho : rdV (tl o) = none) (hf : 10 ∉ tl o) (hw : ∀ x ∈ ws, 10 ∉ tl x) :
    Ref (spl [10] 0 [] (tl (Txt.join ("\n" : Str) (((textL n rs).take (i + 1) ++ [o]) ++ (textL n rs).drop (i + 1) ++ ws)))) (i + 2 : Nat) := by
  have hv := headV_num (n := (n : Int)) (by omega) (by omega)
  have fr := textL_free (n := (n : Int)) (rs := rs) (by omega) hr
  rw [spl_rows (by simp [textL]) (fun x hx => ?_)]
  · simp only [List.map_append, List.map_take, List.map_drop, textL_tl, List.take_succ_cons, List.drop_succ_cons, List.cons_append, List.append_assoc, List.map_cons, List.map_nil, List.nil_append]
    have := Ref.row (r := tl (("villages " : Str) ++ numS n)) (rs := (rs.map fun r => tl (rowT r)).take i ++ tl o :: ((rs.map fun r => tl (rowT r)).drop i ++ ws.map tl)) (by omega)
      (badFrom_at (fun x hx => rows_good hr x (List.mem_of_mem_take hx)) ho)
    have e : 2 + ((rs.map fun r => tl (rowT r)).take i).length = i + 2 := by
      rw [List.length_take, List.length_map]
      omega
    rw [e] at this
    exact this
  · simp only [List.mem_append, List.mem_singleton] at hx
    rcases hx with ((hx | rfl) | hx) | hx
    · exact fr x (List.mem_of_mem_take hx)
    · exact hf
    · exact fr x (List.mem_of_mem_drop hx)
    · exact hw x hx
/-- a first row that can't be read -/
theorem text_head {o : Str} {xs : List Str} (ho : headV (tl o) < 1) (hf : 10 ∉ tl o) (hx : ∀ x ∈ xs, 10 ∉ tl x) : Ref (spl [10] 0 [] (tl (Txt.join ("\n" : Str) (o :: xs)))) 1 := by
  rw [spl_rows (by simp) (fun x h => (List.mem_cons.mp h).elim (fun e => e ▸ hf) (hx x)), List.map_cons]
  exact .head ho
/-- an empty row at the end -/
theorem join_snoc (l : List Str) (hl : l ≠ []) : Txt.join ("\n" : Str) l ++ ("\n" : Str) = Txt.join ("\n" : Str) (l ++ [("" : Str)]) := by
  rw [join_eq, join_eq]
  refine ext_tl ?_
  rw [tl_append, tl_join, tl_join]
  have key : ∀ (m : List (List Nat)), m ≠ [] → joinL [10] m ++ [10] = joinL [10] (m ++ [[]]) := by
    intro m
    induction m with
    | nil => intro h; exact absurd rfl h
    | cons x m ih =>
      intro _
      cases m with
      | nil => simp [joinL]
      | cons y m =>
        have := ih (by simp)
        show (x ++ ([10] ++ joinL [10] (y :: m))) ++ [10] = x ++ ([10] ++ joinL [10] ((y :: m) ++ [[]]))
        rw [← this]
        simp
  rw [tl_nl, key _ (by simpa using hl), List.map_append]
  have : [("" : Str)].map tl = [[]] := by rw [List.map_singleton, tl_empty]
  rw [this]
theorem text_end {n : Nat} {rs : List Road} (h1 : 1 ≤ n) (h2 : n ≤ 9999999) (hr : ∀ r ∈ rs, RowOk r) : Ref (spl [10] 0 [] (tl (textT n rs ++ ("\n" : Str)))) (rs.length + 2 : Nat) := by
  unfold textT
  rw [join_snoc _ (by simp [textL])]
  have e : (textL n rs) ++ [("" : Str)] = ((textL n rs).take (rs.length + 1) ++ [("" : Str)]) ++ (textL n rs).drop (rs.length + 1) ++ [] := by
    have hl : (textL n rs).length = rs.length + 1 := by simp [textL]
    rw [← hl, List.take_length, List.drop_length]
    simp
  rw [e]
  exact text_odd h1 h2 hr (Nat.le_refl _) (by rw [tl_empty]; rfl) (by rw [tl_empty]; simp) (fun x hx => nomatch hx)
/-! ### a chain -/
def chainF (ls : Nat → Int) (m : Nat) : List Road := (List.range m).map fun (k : Nat) => ⟨(k : Int) + 1, (k : Int), ls k⟩
theorem chainF_len (ls : Nat → Int) (m : Nat) : (chainF ls m).length = m := by simp [chainF]
theorem chainF_tree {ls : Nat → Int} {m : Nat} (hm : m + 1 ≤ 12) (hl : ∀ k, 1 ≤ ls k ∧ ls k ≤ 1000000) : IsTree (m + 1) (chainF ls m) := by
  refine { ok := ?_, pos := by omega, le := hm, len := by rw [chainF_len], conn := ?_ }
  · intro r hr
    unfold chainF at hr
    obtain ⟨k, hk, rfl⟩ := List.mem_map.mp hr
    have hk := List.mem_range.mp hk
    have := hl k
    refine ⟨?_, ?_, ?_, ?_, ?_, this.1, this.2⟩ <;> dsimp only <;> omega
  · have key : ∀ j : Nat, j < m + 1 → Reach (chainF ls m) 0 (j : Int) := by
      intro j
      induction j with
      | zero => intro _; exact Reach.refl
      | succ j ih =>
        intro hj
        refine (ih (by omega)).trans ⟨0 + ls j, .snoc .nil ⟨⟨(j : Int) + 1, (j : Int), ls j⟩, ?_, rfl, .inr ⟨rfl, ?_⟩⟩⟩
        · exact List.mem_map.mpr ⟨j, List.mem_range.mpr (by omega), rfl⟩
        · dsimp only; omega
    intro v h0 h1
    have := key v.toNat (by omega)
    rwa [show ((v.toNat : Nat) : Int) = v by omega] at this
theorem chainF_snoc (ls : Nat → Int) (m : Nat) : chainF ls (m + 1) = chainF ls m ++ [⟨(m : Int) + 1, (m : Int), ls m⟩] := by
  unfold chainF
  rw [List.range_succ, List.map_append]
  rfl
/-! ### the four villages of which three stand in a ring -/
def ringR (x : Int) : List Road := [⟨0, 1, 1⟩, ⟨1, 2, 1⟩, ⟨2, 0, x⟩]
theorem ring_walk {x : Int} {v d : Int} (w : Walk (ringR x) 0 v d) : v < 3 := by
  induction w with
  | nil => decide
  | snoc _ a _ =>
    obtain ⟨r, hr, _, h⟩ := a
    simp only [ringR, List.mem_cons, List.not_mem_nil, or_false] at hr
    rcases hr with rfl | rfl | rfl <;> rcases h with h | h <;> simp at h <;> omega
theorem ring_no (x : Int) : ¬ IsTree 4 (ringR x) := fun T => by
  obtain ⟨d, w⟩ := T.conn 3 (by decide) (by decide)
  have := ring_walk w
  omega
theorem ring_text {x : Int} (h0 : 0 ≤ x) (h1 : x ≤ 9999999) : Ref (spl [10] 0 [] (tl (("villages 4\n0-1 1\n1-2 1\n2-0 " : Str) ++ numS x))) 5 := by
  have hr : ∀ r ∈ ringR x, RowOk r := by
    intro r hr
    simp only [ringR, List.mem_cons, List.not_mem_nil, or_false] at hr
    rcases hr with rfl | rfl | rfl <;> refine ⟨?_, ?_, ?_, ?_, ?_, ?_⟩ <;> dsimp only <;> omega
  have h := text_none (n := 4) (rs := ringR x) (by decide) (by decide) hr (ring_no x)
  have e : textT ((4 : Nat) : Int) (ringR x) = ("villages 4\n0-1 1\n1-2 1\n2-0 " : Str) ++ numS x := by
    unfold textT
    rw [join_eq]
    refine ext_tl ?_
    rw [tl_join, textL_tl, tl_append, tl_nl]
    simp only [ringR, List.map_cons, List.map_nil, joinL, rowT, tl_append, tl_da, tl_sp]
    have e0 : tl (numS 0) = [48] := by decide +kernel
    have e1 : tl (numS 1) = [49] := by decide +kernel
    have e2 : tl (numS 2) = [50] := by decide +kernel
    have e4 : tl (numS ((4 : Nat) : Int)) = [52] := by decide +kernel
    have ev : tl ("villages 4\n0-1 1\n1-2 1\n2-0 " : Str) = [118, 105, 108, 108, 97, 103, 101, 115, 32, 52, 10, 48, 45, 49, 32, 49, 10, 49, 45, 50, 32, 49, 10, 50, 45, 48, 32] := by decide +kernel
    rw [e0, e1, e2, e4, ev, tl_vi]
    rfl
  rw [e] at h
  exact h
end Wr

namespace Wr
open PySem L2

/-- no exception, so any way of lying -/
theorem FnOk.lift {P : Program} {w : World} {K : PySem.W.Frag} {mg : Str → Option Value} {base : Heap} {CX : CXT} {k : Nat} {f : Addr} {fd : FuncData} {ps : List Str} {sp : Sp} (F : FnOk P w K mg base CX0 k f fd ps sp) : FnOk P w K mg base CX k f fd ps sp :=
  ⟨F.len, fun A outer s H args us vs Q E hr e b r h => codeAny_mono (F.run A outer s H args us vs Q E hr e b r h) fun r s' q => by
    cases r with
    | error e => exact False.elim q
    | ok fl => cases fl <;> exact q⟩
/-- a def of the module's top, by its name, with its promise -/
structure Gd (P : Program) (w : World) (K : PySem.W.Frag) (mg : Str → Option Value) (base : Heap) (k : Nat) (x : Str) (ps : List Str) (sp : Sp) : Prop where
  ex : ∃ f fd, mg x = some (.ref f) ∧ PySem.W.keepIn K (.ref f) = true ∧ Binds K fd ps [] ∧ FnOk P w K mg base (L2.CX P w) k f fd ps sp
/-- a method -/
structure Gm (P : Program) (w : World) (K : PySem.W.Frag) (mg : Str → Option Value) (base : Heap) (C : Addr) (k : Nat) (x : Str) (ps : List Str) (sp : Sp) : Prop where
  ex : ∃ f fd, Meth K C x f ∧ Binds K fd ps [] ∧ FnOk P w K mg base (L2.CX P w) k f fd ps sp
/-- a class that is made by a call -/
structure Gc (P : Program) (w : World) (K : PySem.W.Frag) (mg : Str → Option Value) (base : Heap) (C : Addr) (k : Nat) (x : Str) (ps : List Str) (sp : Sp) : Prop where
  ex : ∃ f fd, mg x = some (.ref C) ∧ Mk K C f ∧ Binds K fd ps [] ∧ FnOk P w K mg base (L2.CX P w) k f fd ps sp
section
variable {X : Cx} {C : Addr} {k j : Nat} {x m : Str} {ps : List Str} {sp : Sp} {p pos apos : Pos} {o e : Expr} {es : List Expr} {ta : TE} {t : TA} {E : XK}
/-- a call; hx: passL (it does not raise), or passes_call tk (fun _ _ _ _ h => h) -/
theorem pe_gx (G : Gd X.prog X.w X.K X.mg X.base k x ps sp) (hr : Room j X.A) (hg : Gl X x) (hx : Passes (L2.CX X.prog X.w) X E) (ha : PA X (e :: es) t) (hk : k ≤ j := by decide)
    (w1 : (x == ("__debug__" : Str)) = false := by decide) (w2 : starEach (e :: es) X.env = (false, eval e X.env) :: starEach es X.env := by rfl)
    (w3 : (backTo pos (starEach es X.env)).any (fun z => z.1) = false := by rfl) :
    PE X (.Call (.Name x p) (e :: es) [] pos) (tCall sp [] E t) := by
  obtain ⟨f, fd, hm, kp, hb, F⟩ := G.ex
  exact pe_call F (hr.mono hk) hg hm kp hb .nil hx ha w1 w2 w3
theorem pe_g (G : Gd X.prog X.w X.K X.mg X.base k x ps sp) (hr : Room j X.A) (hg : Gl X x) (ha : PA X (e :: es) t) (hk : k ≤ j := by decide)
    (w1 : (x == ("__debug__" : Str)) = false := by decide) (w2 : starEach (e :: es) X.env = (false, eval e X.env) :: starEach es X.env := by rfl)
    (w3 : (backTo pos (starEach es X.env)).any (fun z => z.1) = false := by rfl) :
    PE X (.Call (.Name x p) (e :: es) [] pos) (tCall sp [] E0 t) := pe_gx G hr hg passL ha hk w1 w2 w3
theorem pe_gmx {pl : Sem Bool} (he : PE X o ta) (c : Cls X.K C) (G : Gm X.prog X.w X.K X.mg X.base C k m ps sp) (hr : Room j X.A) (hx : Passes (L2.CX X.prog X.w) X E) (ha : PA X (e :: es) t) (hk : k ≤ j := by decide)
    (w1 : starEach (e :: es) X.env = (false, eval e X.env) :: starEach es X.env := by rfl) (w2 : (backTo pos (starEach es X.env)).any (fun z => z.1) = false := by rfl)
    (ht : eval (.Call (.Attribute o m apos) (e :: es) [] pos) X.env = (do let ov ← eval o X.env; standAt apos.atName; let z ← holding [ov] (getMethod ov m pl); callWith pos z.1 z.2 (backTo pos (starEach (e :: es) X.env)) (backToKw pos (keywordEach [] X.env))) := by rfl) :
    PE X (.Call (.Attribute o m apos) (e :: es) [] pos) (tMeth C m sp [] E ta t) := by
  obtain ⟨f, fd, hm, hb, F⟩ := G.ex
  exact pe_meth he c hm F (hr.mono hk) hb .nil hx ha w1 w2 ht
theorem pe_gm {pl : Sem Bool} (he : PE X o ta) (c : Cls X.K C) (G : Gm X.prog X.w X.K X.mg X.base C k m ps sp) (hr : Room j X.A) (ha : PA X (e :: es) t) (hk : k ≤ j := by decide)
    (w1 : starEach (e :: es) X.env = (false, eval e X.env) :: starEach es X.env := by rfl) (w2 : (backTo pos (starEach es X.env)).any (fun z => z.1) = false := by rfl)
    (ht : eval (.Call (.Attribute o m apos) (e :: es) [] pos) X.env = (do let ov ← eval o X.env; standAt apos.atName; let z ← holding [ov] (getMethod ov m pl); callWith pos z.1 z.2 (backTo pos (starEach (e :: es) X.env)) (backToKw pos (keywordEach [] X.env))) := by rfl) :
    PE X (.Call (.Attribute o m apos) (e :: es) [] pos) (tMeth C m sp [] E0 ta t) := pe_gmx he c G hr passL ha hk w1 w2 ht
theorem pe_gm0 {pl : Sem Bool} (he : PE X o ta) (c : Cls X.K C) (G : Gm X.prog X.w X.K X.mg X.base C k m ps sp) (hr : Room j X.A) (hk : k ≤ j := by decide)
    (ht : eval (.Call (.Attribute o m apos) [] [] pos) X.env = (do let ov ← eval o X.env; standAt apos.atName; let z ← holding [ov] (getMethod ov m pl); callWith pos z.1 z.2 (backTo pos (starEach [] X.env)) (backToKw pos (keywordEach [] X.env))) := by rfl) :
    PE X (.Call (.Attribute o m apos) [] [] pos) (tMeth C m sp [] E0 ta tNil) := by
  obtain ⟨f, fd, hm, hb, F⟩ := G.ex
  exact pe_meth0 he c hm F (hr.mono hk) hb .nil passL ht
theorem pe_gcx (G : Gc X.prog X.w X.K X.mg X.base C k x ps sp) (hr : Room j X.A) (hg : Gl X x) (hx : Passes (L2.CX X.prog X.w) X E) (ha : PA X (e :: es) t) (hk : k + 1 ≤ j := by decide)
    (w1 : (x == ("__debug__" : Str)) = false := by decide) (w2 : starEach (e :: es) X.env = (false, eval e X.env) :: starEach es X.env := by rfl)
    (w3 : (backTo pos (starEach es X.env)).any (fun z => z.1) = false := by rfl) :
    PE X (.Call (.Name x p) (e :: es) [] pos) (tMake C sp [] E t) := by
  obtain ⟨f, fd, hm, M, hb, F⟩ := G.ex
  exact pe_make M F (hr.mono hk) hg hm hb .nil hx ha w1 w2 w3
theorem pe_gc (G : Gc X.prog X.w X.K X.mg X.base C k x ps sp) (hr : Room j X.A) (hg : Gl X x) (ha : PA X (e :: es) t) (hk : k + 1 ≤ j := by decide)
    (w1 : (x == ("__debug__" : Str)) = false := by decide) (w2 : starEach (e :: es) X.env = (false, eval e X.env) :: starEach es X.env := by rfl)
    (w3 : (backTo pos (starEach es X.env)).any (fun z => z.1) = false := by rfl) :
    PE X (.Call (.Name x p) (e :: es) [] pos) (tMake C sp [] E0 t) := pe_gcx G hr hg passL ha hk w1 w2 w3
end

/-- built-ins that the program does not shadow -/
structure Bi (mg : Str → Option Value) : Prop where
  len : mg "len" = none
  isinstance : mg "isinstance" = none
  list : mg "list" = none
  int : mg "int" = none
  bool : mg "bool" = none
  tuple : mg "tuple" = none
  range : mg "range" = none
  set : mg "set" = none
  sorted : mg "sorted" = none
  sum : mg "sum" = none
  max : mg "max" = none
  min : mg "min" = none
  any : mg "any" = none
  all : mg "all" = none
  reversed : mg "reversed" = none
  str : mg "str" = none

/-- a value whose type is known -/
def isI : V → Bool | .int _ => true | .bl _ => true | _ => false
def isB : V → Bool | .bl _ => true | _ => false
structure Plain (K : PySem.W.Frag) (H : Hp) (x : V) : Prop where
  ex : ∃ t, TyX K H x t ∧ PySem.W.kitOne K t (.type "int") = some (isI x) ∧ PySem.W.kitOne K t (.type "bool") = some (isB x)
theorem Plain.int {K : PySem.W.Frag} {H : Hp} (i : Int) : Plain K H (.int i) := ⟨_, .base (.int i), kit_ty (show kitB "int" "int" = some true by decide +kernel), kit_ty (show kitB "int" "bool" = some false by decide +kernel)⟩
theorem Plain.bl {K : PySem.W.Frag} {H : Hp} (i : Bool) : Plain K H (.bl i) := ⟨_, .base (.bl i), kit_ty (show kitB "bool" "int" = some true by decide +kernel), kit_ty (show kitB "bool" "bool" = some true by decide +kernel)⟩
theorem Plain.non {K : PySem.W.Frag} {H : Hp} : Plain K H .non := ⟨_, .base .non, kit_ty (show kitB "NoneType" "int" = some false by decide +kernel), kit_ty (show kitB "NoneType" "bool" = some false by decide +kernel)⟩
theorem Plain.str {K : PySem.W.Frag} {H : Hp} (x : Str) : Plain K H (.str x) := ⟨_, .base (.str x), kit_ty (show kitB "str" "int" = some false by decide +kernel), kit_ty (show kitB "str" "bool" = some false by decide +kernel)⟩
theorem Plain.lst {K : PySem.W.Frag} {H : Hp} {a : Addr} {xs : List V} (h : H a = some (.lst xs)) : Plain K H (.ref a) := ⟨_, .base (.lst h), kit_ty (show kitB "list" "int" = some false by decide +kernel), kit_ty (show kitB "list" "bool" = some false by decide +kernel)⟩
theorem Plain.tup {K : PySem.W.Frag} {H : Hp} {a : Addr} {xs : List V} (h : H a = some (.tup xs)) : Plain K H (.ref a) := ⟨_, .base (.tup h), kit_ty (show kitB "tuple" "int" = some false by decide +kernel), kit_ty (show kitB "tuple" "bool" = some false by decide +kernel)⟩
def isW : V → Bool | .int _ => true | _ => false
theorem isW_eq (x : V) : isW x = (isI x && !isB x) := by cases x <;> rfl
def withinV (x : V) (lo hi : Int) : Bool := match x with | .int i => decide (lo ≤ i) && decide (i ≤ hi) | _ => false
/-! ### heaps -/
theorem Same.new {H : Hp} {p : Addr} {o : HO} (h : H p = none) : Same H (upd H p o) := fun a u e => by
  rw [upd_ne (ne_of_none e h)]; exact e
theorem Same.mut {H H' : Hp} {p : Addr} {o : HO} (e : Same H H') (h : H p = none) : Same H (upd H' p o) := fun a u ha => by
  rw [upd_ne (ne_of_none ha h)]; exact e a u ha
theorem keepN {H : Hp} {a p : Addr} {o u : HO} (h : H a = some o) (hp : H p = none) : upd H p u a = some o := by
  rw [upd_ne (ne_of_none h hp)]; exact h
theorem keepU {H : Hp} {a p : Addr} {o u v : HO} (h : H a = some o) (hp : H p = some v) (d : o ≠ v) : upd H p u a = some o := by
  rw [upd_ne (ne_of h hp d)]; exact h

/-! ### roads, trees in the heap -/
def RoadAt (H : Hp) (r : Road) (v : V) : Prop := ∃ t, v = .ref t ∧ H t = some (.tup [.int r.a, .int r.b, .int r.l])
abbrev RoadsAt (H : Hp) (rs : List Road) (vs : List V) : Prop := Paired (RoadAt H) rs vs
theorem paired_get {α β : Type} {F : α → β → Prop} : ∀ {l : List α} {m : List β} {i : Nat} {x : α}, Paired F l m → l[i]? = some x → ∃ y, m[i]? = some y ∧ F x y
  | _, _, _, _, .nil, h => by simp at h
  | _, _, 0, x, .cons r _, h => by simp at h; subst h; exact ⟨_, rfl, r⟩
  | _, _, i + 1, x, .cons _ t, h => by
    obtain ⟨y, h1, h2⟩ := paired_get (i := i) (x := x) t (by simpa using h)
    exact ⟨y, by simpa using h1, h2⟩
theorem paired_get' {α β : Type} {F : α → β → Prop} : ∀ {l : List α} {m : List β} {i : Nat} {y : β}, Paired F l m → m[i]? = some y → ∃ x, l[i]? = some x ∧ F x y
  | _, _, _, _, .nil, h => by simp at h
  | _, _, 0, x, .cons r _, h => by simp at h; subst h; exact ⟨_, rfl, r⟩
  | _, _, i + 1, x, .cons _ t, h => by
    obtain ⟨y, h1, h2⟩ := paired_get' (i := i) (y := x) t (by simpa using h)
    exact ⟨y, by simpa using h1, h2⟩
theorem RoadsAt.same {H H' : Hp} {rs : List Road} {vs : List V} (e : Same H H') (h : RoadsAt H rs vs) : RoadsAt H' rs vs :=
  Paired.mapP h fun _ _ ⟨t, e1, e2⟩ => ⟨t, e1, e _ _ e2⟩
/-- the fields of a tree -/
def tfs (n : Nat) (r : Addr) : List (Str × V) := [("size", .int n), ("rows", .ref r)]
def TreeAt (C : Addr) (H : Hp) (t : Addr) (n : Nat) (rs : List Road) : Prop :=
  ∃ dx r vs, H t = some (.ins C dx (tfs n r)) ∧ H r = some (.lst vs) ∧ RoadsAt H rs vs
theorem TreeAt.same {C : Addr} {H H' : Hp} {t : Addr} {n : Nat} {rs : List Road} (e : Same H H') (h : TreeAt C H t n rs) : TreeAt C H' t n rs :=
  let ⟨dx, r, vs, h1, h2, h3⟩ := h
  ⟨dx, r, vs, e _ _ h1, e _ _ h2, h3.same e⟩
/-- .. whose list of roads H0 does not know -/
def TreeNew (C : Addr) (H0 H : Hp) (t : Addr) (n : Nat) (rs : List Road) : Prop :=
  ∃ dx r vs, H0 r = none ∧ H t = some (.ins C dx (tfs n r)) ∧ H r = some (.lst vs) ∧ RoadsAt H rs vs
theorem TreeNew.at {C : Addr} {H0 H : Hp} {t : Addr} {n : Nat} {rs : List Road} (h : TreeNew C H0 H t n rs) : TreeAt C H t n rs :=
  let ⟨dx, r, vs, _, h1, h2, h3⟩ := h
  ⟨dx, r, vs, h1, h2, h3⟩
/-- an elder list changes -/
theorem TreeNew.upd {C : Addr} {H0 H : Hp} {t a : Addr} {n : Nat} {rs : List Road} {o : HO} {xs ys : List V} (h : TreeNew C H0 H t n rs) (h0 : H0 a = some o) (ha : H a = some (.lst xs)) : TreeAt C (upd H a (.lst ys)) t n rs :=
  let ⟨dx, r, vs, hr, h1, h2, h3⟩ := h
  ⟨dx, r, vs, keepU h1 ha (by intro z; cases z), by rw [upd_ne (ne_of_none h0 hr).symm]; exact h2, Paired.mapP h3 fun _ _ ⟨t, e1, e2⟩ => ⟨t, e1, keepU e2 ha (by intro z; cases z)⟩⟩
theorem ns_sr : ¬ (("size" : Str) = "rows") := by decide +kernel
theorem ns_rs : ¬ (("rows" : Str) = "size") := by decide +kernel
theorem tfs_size (n : Nat) (r : Addr) : (tfs n r).lookup ("size" : Str) = some (.int n) := by
  unfold tfs
  simp [List.lookup]
theorem tfs_no (n : Nat) (r : Addr) {m : Str} (h1 : (m == ("size" : Str)) = false) (h2 : (m == ("rows" : Str)) = false) : (tfs n r).lookup m = none := by
  unfold tfs
  simp [List.lookup, h1, h2]
theorem tfs_rows (n : Nat) (r : Addr) : (tfs n r).lookup ("rows" : Str) = some (.ref r) := by
  have h : (("rows" : Str) == "size") = false := by decide +kernel
  unfold tfs
  simp [List.lookup, h]
theorem tfs_put (n : Nat) (r : Addr) : putF "rows" (.ref r) (putF "size" (.int n) []) = tfs n r := by
  show (if ("size" : Str) = "rows" then _ else _) = _
  rw [if_neg ns_sr]
  rfl
/-- what walked has found -/
def FRel (H : Hp) (e : Int × (Int × Int)) (kv : Key × V) : Prop := kv.1 = .inl e.1 ∧ ∃ t, kv.2 = .ref t ∧ H t = some (.tup [.int e.2.1, .int e.2.2])
def FoundAt (H : Hp) (d : Addr) (f : Found) : Prop := ∃ kvs, H d = some (.dK kvs) ∧ Paired (FRel H) f kvs
theorem FRel.same {H H' : Hp} {f : Found} {kvs : List (Key × V)} (e : ∀ a xs, H a = some (.tup xs) → H' a = some (.tup xs)) (h : Paired (FRel H) f kvs) : Paired (FRel H') f kvs :=
  Paired.mapP h fun _ _ ⟨e1, t, e2, e3⟩ => ⟨e1, t, e2, e _ _ e3⟩
theorem FoundAt.same {H H' : Hp} {d : Addr} {f : Found} (e : Same H H') (h : FoundAt H d f) : FoundAt H' d f :=
  let ⟨kvs, h1, h2⟩ := h
  ⟨kvs, e _ _ h1, FRel.same (fun a xs q => e a _ q) h2⟩
theorem found_val {H : Hp} (v : Int) : ∀ {f : Found} {kvs : List (Key × V)}, Paired (FRel H) f kvs →
    (∀ p d, f.lookup v = some (p, d) → ∃ t, valV kvs (.inl v : Key) = some (.ref t) ∧ H t = some (.tup [.int p, .int d])) ∧ (f.lookup v = none → valV kvs (.inl v : Key) = none)
  | _, _, .nil => ⟨fun p d h => by simp at h, fun _ => rfl⟩
  | (k, x) :: f, (kk, vv) :: kvs, .cons ⟨e1, t, e2, e3⟩ r => by
    have ih := found_val v r
    simp only at e1 e2 e3
    subst e1 e2
    by_cases e : v = k
    · subst e
      have l : List.lookup v ((v, x) :: f) = some x := by simp [List.lookup]
      rw [l, valV_pos rfl]
      refine ⟨fun p d h => ?_, fun h => nomatch h⟩
      injection h with h
      subst h
      exact ⟨t, rfl, e3⟩
    · have hb : (v == k) = false := by simpa using e
      have l : List.lookup v ((k, x) :: f) = List.lookup v f := by simp [List.lookup, hb]
      rw [l, valV_neg (fun q => e (Sum.inl.inj q).symm)]
      exact ih
theorem flen {H : Hp} {f : Found} {kvs : List (Key × V)} (h : Paired (FRel H) f kvs) : kvs.length = f.length := h.length.symm

/-! ### == of lists of ints -/
theorem dp_ints {K : PySem.W.Frag} {H : Hp} : ∀ (ns : List Int), DpAll K H (ns.map V.int) (ns.map PyData.int)
  | [] => .nil
  | n :: r => .cons (.int n) (dp_ints r)
theorem dp_ilist {K : PySem.W.Frag} {H : Hp} {a : Addr} {ns : List Int} (h : H a = some (.lst (ns.map V.int))) : Dp K H (.ref a) (.list (ns.map PyData.int)) := .lst (SqL.of h) (dp_ints ns)
theorem eqv_ints : ∀ (ns ms : List Int), PyData.eqvAll (ns.map PyData.int) (ms.map PyData.int) = decide (ns = ms)
  | [], [] => rfl
  | [], _ :: _ => rfl
  | _ :: _, [] => rfl
  | n :: r, m :: q => by
    show (PyData.eqv (.int n) (.int m) && PyData.eqvAll (r.map PyData.int) (q.map PyData.int)) = _
    rw [eqv_ints r q]
    show ((n == m) && decide (r = q)) = _
    by_cases e : n = m <;> simp [e]
theorem eqv_il (ns ms : List Int) : PyData.eqv (.list (ns.map PyData.int)) (.list (ms.map PyData.int)) = decide (ns = ms) := eqv_ints ns ms
theorem int_depths : ∀ (ns : List Int), PyData.depthAll (ns.map PyData.int) ≤ 1
  | [] => by simp only [List.map_nil, PyData.depthAll]; omega
  | n :: r => by
    have := int_depths r
    simp only [PyData.depth, PyData.depthAll, List.map_cons]
    omega
theorem int_lays : ∀ (ns : List Int), PyData.canLayAll0 (ns.map PyData.int) = true
  | [] => rfl
  | n :: r => by
    have := int_lays r
    simp only [List.map_cons, PyData.canLayAll0, PyData.canLay0, this]
    rfl
theorem shaped_list {ds : List PyData} (h1 : PyData.canLayAll0 ds = true) (h2 : PyData.depthAll ds ≤ 60) : SeqAt.shaped (.list ds) = true := by
  unfold SeqAt.shaped
  have e : PyData.canLay0 (.list ds) = true := by simp only [PyData.canLay0]; exact h1
  rw [e, Bool.true_and, decide_eq_true_eq]
  simp only [PyData.depth]
  omega
theorem shaped_ints (ns : List Int) : SeqAt.shaped (.list (ns.map PyData.int)) = true := shaped_list (int_lays _) (Nat.le_trans (int_depths _) (by decide))

/-! ### tests that change nothing -/
theorem ans_or2 {σ : St} {H : Hp} {t u : TT} {a b : Bool} (h1 : Ans t σ H a) (h2 : Ans u σ H b) : Ans (tOr t u) σ H (a || b) := by
  cases a with
  | true => exact ans_or1 h1
  | false => exact ans_or h1 h2
theorem val_eqi {σ : St} {H : Hp} {ta tb : TE} {x y : Int} (h1 : Val ta σ H (.int x)) (h2 : Val tb σ H (.int y)) : Ans (tTest (tOp rEq ta tb)) σ H (decide (x = y)) :=
  ans_eq h1 h2 rfl (by rw [dec_int]; exact Bool.beq_eq_decide_eq x y)
theorem val_nei {σ : St} {H : Hp} {ta tb : TE} {x y : Int} (h1 : Val ta σ H (.int x)) (h2 : Val tb σ H (.int y)) : Ans (tTest (tOp rNe ta tb)) σ H (!decide (x = y)) :=
  ans_ne h1 h2 rfl (by rw [dec_int, Bool.beq_eq_decide_eq x y])
theorem st_if {σ : St} {H : Hp} {c : TT} {t1 t2 : TS} {D : Ends} {b : Bool} (h : Ans c σ H b) (q1 : b = true → t1 D σ H) (q2 : b = false → t2 D σ H) : tIfS c t1 t2 D σ H := by
  cases b with
  | true => exact st_yes h (q1 rfl)
  | false => exact st_no h (q2 rfl)
theorem Ans.cast {t : TT} {σ : St} {H : Hp} {b b' : Bool} (h : Ans t σ H b) (e : b = b') : Ans t σ H b' := e ▸ h
theorem szl {n : Nat} (h : n ≤ 1000) : n < sizeLine := Nat.lt_of_le_of_lt h (by decide)
theorem szle {n : Nat} (h : n ≤ 1000) : n ≤ sizeLine := Nat.le_of_lt (szl h)
theorem FoundAt.updL {H : Hp} {d q : Addr} {f : Found} {xs ys : List V} (h : FoundAt H d f) (hq : H q = some (.lst xs)) : FoundAt (upd H q (.lst ys)) d f := by
  obtain ⟨kvs, h1, h2⟩ := h
  exact ⟨kvs, keepU h1 hq (by intro z; cases z), FRel.same (fun a zs e => keepU e hq (by intro z; cases z)) h2⟩
theorem paired_snoc {α β : Type} {F : α → β → Prop} {a : α} {b : β} : ∀ {l₁ : List α} {l₂ : List β}, Paired F l₁ l₂ → F a b → Paired F (l₁ ++ [a]) (l₂ ++ [b])
  | _, _, .nil, z => .cons z .nil
  | _, _, .cons x r, z => .cons x (paired_snoc r z)

theorem inV_ints (ns : List Int) (x : Int) : inV (.int x) (ns.map V.int) = decide (x ∈ ns) := by
  unfold inV
  rw [List.any_map]
  refine Bool.eq_iff_iff.mpr ?_
  rw [List.any_eq_true, decide_eq_true_eq]
  constructor
  · rintro ⟨y, hy, e⟩
    have e : (y == x) = true := e
    rw [beq_iff_eq] at e
    exact e ▸ hy
  · exact fun h => ⟨x, h, (beq_self_eq_true x : (x == x) = true)⟩
theorem flat_ints (ns : List Int) : (ns.map V.int).all flatV = true := by
  rw [List.all_eq_true]
  rintro v hv
  obtain ⟨i, _, rfl⟩ := List.mem_map.mp hv
  rfl
theorem val_inI {K : PySem.W.Frag} {σ : St} {H : Hp} {ta tb : TE} {ns : List Int} {x : Int} {a : Addr} (h1 : Val ta σ H (.int x)) (h2 : Val tb σ H (.ref a)) (hS : SqL K H a (ns.map V.int) ∨ SqT K H a (ns.map V.int)) : Val (tOp (rIn K false) ta tb) σ H (.bl (decide (x ∈ ns))) :=
  val_op h1 h2 fun Q q => ⟨a, _, rfl, hS, rfl, flat_ints ns, by rw [if_neg (by decide), inV_ints]; exact q⟩
theorem ans_neb {σ : St} {H : Hp} {ta tb : TE} {x y : Bool} (h1 : Val ta σ H (.bl x)) (h2 : Val tb σ H (.bl y)) : Ans (tTest (tOp rNe ta tb)) σ H (!(x == y)) :=
  ans_ne h1 h2 rfl (by rw [dec_bl])

/-! ### comprehensions -/
section
variable {K : PySem.W.Frag} {g : TG} {tt : TT} {te : TE} {vs : List Nat} {σ : St} {H : Hp} {Q : VK}
abbrev LcGoal (J : It) (g : TG) (tt : TT) (te : TE) (vs : List Nat) (σ : St) (H : Hp) (Q : VK) : Prop :=
  ∀ D, H D = none → ∃ W : Nat → Nat → Hp → Prop, (∃ m, W 0 m (upd H D (.lst []))) ∧ ∀ i m U, W i m U → (J.stop i U ∧ Q (.ref D) U) ∨
    (J.go i U ∧ ∃ Z : Hp → Prop, (∀ U', Z U' → ∃ m', m' < m ∧ W (i + 1) m' U') ∧
      ∀ x U', J.yld i U x U' → g x (wipe σ vs) U' fun τ U2 => wipe τ vs = wipe σ vs ∧ tt τ U2 fun b U3 =>
        if b = true then te τ U3 fun y U4 => ∃ acc, U4 D = some (.lst acc) ∧ acc.length < sizeLine ∧ Z (upd U4 D (.lst (acc ++ [y]))) else Z U3)
/-- a turn -/
abbrev LcTurn (g : TG) (tt : TT) (te : TE) (vs : List Nat) (σ : St) (x : V) (H' : Hp) (Yes : V → Hp → Prop) (No : Hp → Prop) : Prop :=
  g x (wipe σ vs) H' fun σ2 H2 => wipe σ2 vs = wipe σ vs ∧ tt σ2 H2 fun b H3 => if b = true then te σ2 H3 Yes else No H3
abbrev SameB (D : Addr) (H1 H2 : Hp) : Prop := ∀ b o, b ≠ D → H1 b = some o → H2 b = some o
/-- elements that are new objects: R says of the i-th what it is -/
theorem lc_inv (J : It) (n : Nat) (hn : n ≤ 1000) (hgo : ∀ i H', Same H H' → i < n → J.go i H') (hstop : ∀ i H', Same H H' → n ≤ i → J.stop i H') (ok : Nat → Bool) (R : Addr → Nat → V → Hp → Prop)
    (mono : ∀ D i y H1 H2, SameB D H1 H2 → R D i y H1 → R D i y H2)
    (hs : ∀ i, i < n → ∀ D H', H D = none → Same H H' → (∃ acc, H' D = some (.lst acc)) → ∀ (Yes : V → Hp → Prop) (No : Hp → Prop), (ok i = true → ∀ y H4, Same H' H4 → R D i y H4 → Yes y H4) → (ok i = false → ∀ H4, Same H' H4 → No H4) →
      ∀ x H'', J.yld i H' x H'' → LcTurn g tt te vs σ x H'' Yes No)
    (hq : ∀ D H2 ys, H D = none → Same H H2 → H2 D = some (.lst ys) → Paired (fun i y => R D i y H2) ((List.range n).filter ok) ys → Q (.ref D) H2) : LcGoal J g tt te vs σ H Q := by
  intro D hD
  refine ⟨fun i m H' => m = n - i ∧ i ≤ n ∧ ∃ acc, Same H H' ∧ H' D = some (.lst acc) ∧ Paired (fun i y => R D i y H') ((List.range i).filter ok) acc, ⟨n, by simp, Nat.zero_le _, [], Same.new hD, upd_same, .nil⟩, ?_⟩
  rintro i m H' ⟨rfl, hi, acc, e, hA, hP⟩
  by_cases hlt : i < n
  · refine .inr ⟨hgo i H' e hlt, fun H' => ∃ acc, Same H H' ∧ H' D = some (.lst acc) ∧ Paired (fun i y => R D i y H') ((List.range (i + 1)).filter ok) acc, fun H'' ⟨acc, q⟩ => ⟨n - (i + 1), by omega, rfl, hlt, acc, q⟩, fun x H'' y => ?_⟩
    refine hs i hlt D H' hD e ⟨acc, hA⟩ _ _ (fun hok v H4 e4 r => ⟨acc, e4 _ _ hA, ?_, acc ++ [v], Same.mut (e.trans e4) hD, upd_same, ?_⟩) (fun hok H4 e4 => ⟨acc, e.trans e4, e4 _ _ hA, ?_⟩) x H'' y
    · have h1 := hP.length
      have h2 := List.length_filter_le ok (List.range i)
      rw [List.length_range] at h2
      exact szl (by omega)
    · rw [List.range_succ, List.filter_append]
      have : List.filter ok [i] = [i] := by simp [hok]
      rw [this]
      have sb : SameB D H4 (upd H4 D (.lst (acc ++ [v]))) := fun b o hb q => by rw [upd_ne hb]; exact q
      refine paired_snoc (Paired.mapP hP fun i y q => mono _ _ _ _ _ sb (mono _ _ _ _ _ (fun b o _ q => e4 b o q) q)) (mono _ _ _ _ _ sb r)
    · rw [List.range_succ, List.filter_append]
      have : List.filter ok [i] = [] := by simp [hok]
      rw [this, List.append_nil]
      exact Paired.mapP hP fun i y q => mono _ _ _ _ _ (fun b o _ q => e4 b o q) q
  · have : i = n := by omega
    subst this
    exact .inl ⟨hstop i H' e (Nat.le_refl _), hq D H' acc hD e hA hP⟩
theorem paired_map {f : Nat → V} : ∀ {l : List Nat} {ys : List V}, Paired (fun i y => y = f i) l ys → ys = l.map f
  | _, _, .nil => rfl
  | _, _, .cons h r => by rw [paired_map r, h]; rfl
/-- over a list, elements that are new objects -/
theorem lcl_inv {a : Addr} {xs : List V} (hS : SqL K H a xs) (hn : xs.length ≤ 1000) (ok : Nat → Bool) (R : Addr → Nat → V → Hp → Prop)
    (mono : ∀ D i y H1 H2, SameB D H1 H2 → R D i y H1 → R D i y H2)
    (hs : ∀ i x, xs[i]? = some x → ∀ D H', H D = none → Same H H' → (∃ acc, H' D = some (.lst acc)) → ∀ (Yes : V → Hp → Prop) (No : Hp → Prop), (ok i = true → ∀ y H4, Same H' H4 → R D i y H4 → Yes y H4) → (ok i = false → ∀ H4, Same H' H4 → No H4) →
      LcTurn g tt te vs σ x H' Yes No)
    (hq : ∀ D H2 ys, H D = none → Same H H2 → H2 D = some (.lst ys) → Paired (fun i y => R D i y H2) ((List.range xs.length).filter ok) ys → Q (.ref D) H2) : LcGoal (Itl K a) g tt te vs σ H Q := by
  refine lc_inv (Itl K a) xs.length hn (fun i H' e hi => ⟨xs, xs[i], e.seq hS, by simp [hi]⟩) (fun i H' e hi => ⟨xs, e.seq hS, hi⟩) ok R mono (fun i hi D H' hD e hA Yes No hy hno x H'' y => ?_) hq
  obtain ⟨rfl, y⟩ := y
  exact hs i x (y xs (e.seq hS)) D _ hD e hA Yes No hy hno
theorem lcr_inv {lo : Int} {n : Nat} (hn : n ≤ 1000) (ok : Nat → Bool) (R : Addr → Nat → V → Hp → Prop)
    (mono : ∀ D i y H1 H2, SameB D H1 H2 → R D i y H1 → R D i y H2)
    (hs : ∀ (i : Nat), i < n → ∀ D H', H D = none → Same H H' → (∃ acc, H' D = some (.lst acc)) → ∀ (Yes : V → Hp → Prop) (No : Hp → Prop), (ok i = true → ∀ y H4, Same H' H4 → R D i y H4 → Yes y H4) → (ok i = false → ∀ H4, Same H' H4 → No H4) →
      LcTurn g tt te vs σ (.int (lo + i)) H' Yes No)
    (hq : ∀ D H2 ys, H D = none → Same H H2 → H2 D = some (.lst ys) → Paired (fun i y => R D i y H2) ((List.range n).filter ok) ys → Q (.ref D) H2) : LcGoal (Itr lo n) g tt te vs σ H Q := by
  refine lc_inv (Itr lo n) n hn (fun i H' e hi => hi) (fun i H' e hi => hi) ok R mono (fun i hi D H' hD e hA Yes No hy hno x H'' y => ?_) hq
  obtain ⟨rfl, rfl⟩ := y
  exact hs i hi D _ hD e hA Yes No hy hno
theorem filter_range_map {α : Type} {β : Type} {l : List α} (d : α) (ok : α → Bool) (f : α → β) : ((List.range l.length).filter fun i => ok (l.getD i d)).map (fun i => f (l.getD i d)) = (l.filter ok).map f := by
  have e : l = (List.range l.length).map fun i => l.getD i d := by
    refine List.ext_getElem (by simp) fun i k1 k2 => ?_
    simp [List.getD, k1]
  conv => rhs; rw [e]
  rw [List.filter_map, List.map_map]
  rfl
/-- over a list of known things, elements that are plain values -/
theorem lcl {α : Type} {a : Addr} {xs : List V} {l : List α} (d : α) (E : α → V → Prop) (hp : Paired E l xs) (hS : SqL K H a xs) (hn : l.length ≤ 1000) (ok : α → Bool) (f : α → V)
    (hs : ∀ x v, x ∈ l → E x v → ∀ H', Same H H' → ∀ (Yes : V → Hp → Prop) (No : Hp → Prop), (ok x = true → ∀ H4, Same H' H4 → Yes (f x) H4) → (ok x = false → ∀ H4, Same H' H4 → No H4) → LcTurn g tt te vs σ v H' Yes No)
    (hq : ∀ D H2, H D = none → Same H H2 → H2 D = some (.lst ((l.filter ok).map f)) → Q (.ref D) H2) : LcGoal (Itl K a) g tt te vs σ H Q := by
  have hl := hp.length
  refine lcl_inv hS (by omega) (fun i => ok (l.getD i d)) (fun _ i y _ => y = f (l.getD i d)) (fun _ _ _ _ _ _ q => q) (fun i v hi D H' hD e _ Yes No hy hno => ?_) (fun D H2 ys hD e hA hP => ?_)
  · obtain ⟨x, hx, hE⟩ := paired_get' hp hi
    have ed : l.getD i d = x := by rw [List.getD_eq_getElem?_getD, hx]; rfl
    rw [ed] at hy hno
    exact hs x v (List.mem_of_getElem? hx) hE H' e Yes No (fun q H4 e4 => hy q _ H4 e4 rfl) hno
  · rw [paired_map hP, ← hl, filter_range_map d ok f] at hA
    exact hq D H2 hD e hA
/-- over a range, elements that are plain values -/
theorem lcr {lo : Int} {n : Nat} (hn : n ≤ 1000) (ok : Nat → Bool) (f : Nat → V)
    (hs : ∀ (i : Nat), i < n → ∀ H', Same H H' → ∀ (Yes : V → Hp → Prop) (No : Hp → Prop), (ok i = true → ∀ H4, Same H' H4 → Yes (f i) H4) → (ok i = false → ∀ H4, Same H' H4 → No H4) → LcTurn g tt te vs σ (.int (lo + i)) H' Yes No)
    (hq : ∀ D H2, H D = none → Same H H2 → H2 D = some (.lst (((List.range n).filter ok).map f)) → Q (.ref D) H2) : LcGoal (Itr lo n) g tt te vs σ H Q := by
  refine lcr_inv hn ok (fun _ i y _ => y = f i) (fun _ _ _ _ _ _ q => q) (fun i hi D H' hD e _ Yes No hy hno => hs i hi H' e Yes No (fun q H4 e4 => hy q _ H4 e4 rfl) hno) (fun D H2 ys hD e hA hP => ?_)
  rw [paired_map hP] at hA
  exact hq D H2 hD e hA
end
theorem paired_self {β : Type} {g : β → V} : ∀ (l : List β), Paired (fun (x : β) v => v = g x) l (l.map g)
  | [] => .nil
  | x :: r => .cons rfl (paired_self r)
theorem withinV_int {x : V} {lo hi : Int} (h : withinV x lo hi = true) : ∃ i, x = .int i ∧ lo ≤ i ∧ i ≤ hi := by
  cases x with
  | int i =>
    simp [withinV] at h
    exact ⟨i, rfl, h.1, h.2⟩
  | _ => cases h
theorem withinV_of {i lo hi : Int} (h1 : lo ≤ i) (h2 : i ≤ hi) : withinV (.int i) lo hi = true := by simp [withinV, h1, h2]

/-! ### rules with K said, for blocks -/
section
variable {X : Cx}
theorem ix_tupK (K : PySem.W.Frag) (h : X.K = K := by rfl) : IxR X (rIxT K) := h ▸ ix_tup
theorem ix_listK (K : PySem.W.Frag) (h : X.K = K := by rfl) : IxR X (rIxL K) := h ▸ ix_list
theorem op_inK (K : PySem.W.Frag) (h : X.K = K := by rfl) : OpR X (compareOp .In) (rIn K false) := h ▸ op_in_seq
theorem op_notInK (K : PySem.W.Frag) (h : X.K = K := by rfl) : OpR X (compareOp .NotIn) (rIn K true) := h ▸ op_notIn_seq
theorem pe_fldK (K : PySem.W.Frag) {e : Expr} {ta : TE} {f : Str} {pos : Pos} (he : PE X e ta) (hb : attributeBase e f X.env (eval e X.env) = eval e X.env) (h : X.K = K := by rfl) : PE X (.Attribute e f pos) (tFld K ta f) := h ▸ pe_fld he hb
theorem pi_listK (K : PySem.W.Frag) {tg l : Expr} {tl : TE} (hl : PE X l tl) (h : X.K = K := by rfl) : PI X tg l (iList K tl) := h ▸ pi_list hl
theorem pi_tupK (K : PySem.W.Frag) {tg l : Expr} {tl : TE} (hl : PE X l tl) (h : X.K = K := by rfl) : PI X tg l (iTup K tl) := h ▸ pi_tup hl
theorem pg_tupK (K : PySem.W.Frag) {pos : Pos} {es : List Expr} {k : Nat} {t : TGs} {n : Nat} (hc : X.calm = true) (h : PGs X es t) (hn : (assignEach es X.env).length = n := by rfl) (hst : (assignEach es X.env).findIdx? (·.1) = none := by rfl) (hk : X.K = K := by rfl) :
    PG X (.Tuple es k pos) (gTup K n t) := hk ▸ pg_tup hc h hn hst
theorem sl_listK (K : PySem.W.Frag) (h : X.K = K := by rfl) : SlR X (rSlL K) := h ▸ sl_list
theorem sl_tupK (K : PySem.W.Frag) (h : X.K = K := by rfl) : SlR X (rSlT K) := h ▸ sl_tup
theorem op_eqDK (K : PySem.W.Frag) (hu : X.A.units + 64 < cLine) (h : X.K = K := by rfl) : OpR X (compareOp .Eq) (rEqD K) := h ▸ op_eqD hu
theorem op_neDK (K : PySem.W.Frag) (hu : X.A.units + 64 < cLine) (h : X.K = K := by rfl) : OpR X (compareOp .NotEq) (rNeD K) := h ▸ op_neD hu
def rLenK (K : PySem.W.Frag) : List V → Hp → VK → Prop := fun xs H Q => ∃ p ys, xs = [.ref p] ∧ (SqL K H p ys ∨ SqT K H p ys) ∧ Q (.int ys.length) H
theorem call_lenK (K : PySem.W.Frag) (h : X.K = K := by rfl) : CallR X (.builtin "len") (rLenK K) := by subst h; exact call_len_seq
theorem cr_anyK (K : PySem.W.Frag) (hc : X.calm = true) (h : X.K = K := by rfl) : CallR X (.builtin "any") (rAny K) := h ▸ cr_any hc
theorem cr_allK (K : PySem.W.Frag) (hc : X.calm = true) (h : X.K = K := by rfl) : CallR X (.builtin "all") (rAll K) := h ▸ cr_all hc
theorem cr_sumK (K : PySem.W.Frag) (hc : X.calm = true) (h : X.K = K := by rfl) : CallR X (.builtin "sum") (rSum K) := h ▸ cr_sum hc
theorem cr_maxK (K : PySem.W.Frag) (hc : X.calm = true) (h : X.K = K := by rfl) : CallR X (.builtin "max") (rMax K) := h ▸ cr_max hc
theorem cr_minK (K : PySem.W.Frag) (hc : X.calm = true) (h : X.K = K := by rfl) : CallR X (.builtin "min") (rMin K) := h ▸ cr_min hc
theorem cr_sortedK (K : PySem.W.Frag) (h : X.K = K := by rfl) : CallR X (.builtin "sorted") (rSorted K) := h ▸ cr_sorted
end

section
variable {wi : TI} {g : TG} {tt : TT} {te : TE} {vs : List Nat} {σ : St} {H : Hp} {Q : VK}
theorem lc_pre (PJ : It → Hp → Prop) (hwi : ∀ R : It → Hp → Prop, (∀ J H1, PJ J H1 → R J H1) → wi σ H R) (h : ∀ J H1, PJ J H1 → LcGoal J g tt te vs σ H1 Q) : tLc wi g tt te vs σ H Q := hwi _ h
theorem lc_at (J : It) (hwi : ∀ R : It → Hp → Prop, R J H → wi σ H R) (h : LcGoal J g tt te vs σ H Q) : tLc wi g tt te vs σ H Q := hwi _ h
end

section
variable {tt : TT} {te : TE} {vs : List Nat} {σ : St} {x : V} {H : Hp} {Yes : V → Hp → Prop} {No : Hp → Prop} {i : Nat}
theorem turn_all (h : te ((wipe σ vs).set i (some x)) H Yes) (hw : wipe ((wipe σ vs).set i (some x)) vs = wipe σ vs := by rfl) : LcTurn (gName i) tYes te vs σ x H Yes No := by
  refine ⟨hw, ?_⟩
  show (if true = true then te ((wipe σ vs).set i (some x)) H Yes else No H)
  rw [if_pos rfl]
  exact h
theorem turn_ifS {b : Bool} (ha : ∀ Q : Bool → Hp → Prop, (∀ H', Same H H' → Q b H') → tt ((wipe σ vs).set i (some x)) H Q) (h : b = true → ∀ H', Same H H' → te ((wipe σ vs).set i (some x)) H' Yes) (hn : b = false → ∀ H', Same H H' → No H') (hw : wipe ((wipe σ vs).set i (some x)) vs = wipe σ vs := by rfl) : LcTurn (gName i) tt te vs σ x H Yes No := by
  refine ⟨hw, ha _ fun H' s' => ?_⟩
  cases b with
  | true =>
    show (if true = true then te ((wipe σ vs).set i (some x)) H' Yes else No H')
    rw [if_pos rfl]
    exact h rfl H' s'
  | false =>
    show (if false = true then te ((wipe σ vs).set i (some x)) H' Yes else No H')
    rw [if_neg (by decide)]
    exact hn rfl H' s'
theorem turn_if {b : Bool} (ha : Ans tt ((wipe σ vs).set i (some x)) H b) (h : b = true → te ((wipe σ vs).set i (some x)) H Yes) (hn : b = false → No H) (hw : wipe ((wipe σ vs).set i (some x)) vs = wipe σ vs := by rfl) : LcTurn (gName i) tt te vs σ x H Yes No := by
  refine ⟨hw, ha _ ?_⟩
  cases b with
  | true =>
    show (if true = true then te ((wipe σ vs).set i (some x)) H Yes else No H)
    rw [if_pos rfl]
    exact h rfl
  | false =>
    show (if false = true then te ((wipe σ vs).set i (some x)) H Yes else No H)
    rw [if_neg (by decide)]
    exact hn rfl
end

theorem of_gName {i : Nat} {v : V} {σ : St} {H : Hp} {Q : St → Hp → Prop} (h : Q (σ.set i (some v)) H) : gName i v σ H Q := h
theorem of_seq {t u : TS} {D : Ends} {σ : St} {H : Hp} (h : t { D with nx := u D } σ H) : tSeq t u D σ H := h
theorem of_asg {te : TE} {g : TG} {D : Ends} {σ : St} {H : Hp} (h : te σ H fun x H1 => g x σ H1 D.nx) : tAsg te g D σ H := h
theorem of_ret {te : TE} {D : Ends} {σ : St} {H : Hp} (h : te σ H D.rt) : tRet te D σ H := h
theorem of_drop {te : TE} {D : Ends} {σ : St} {H : Hp} (h : te σ H fun _ H1 => D.nx σ H1) : tDrop te D σ H := h

/-! ### == of lists of roads, of rows -/
def roadD (r : Road) : PyData := .tuple [.int r.a, .int r.b, .int r.l]
theorem dp_road {K : PySem.W.Frag} {H : Hp} {r : Road} {v : V} (h : RoadAt H r v) : Dp K H v (roadD r) := by
  obtain ⟨t, rfl, ht⟩ := h
  exact .tup (SqT.of ht) (.cons (.int _) (.cons (.int _) (.cons (.int _) .nil)))
theorem dp_roads {K : PySem.W.Frag} {H : Hp} : ∀ {rs : List Road} {us : List V}, RoadsAt H rs us → DpAll K H us (rs.map roadD)
  | _, _, .nil => .nil
  | _, _, .cons h r => .cons (dp_road h) (dp_roads r)
theorem roadD_lay (r : Road) : (roadD r).canLay0 = true := by simp [roadD, PyData.canLay0, PyData.canLayAll0]
theorem roadD_depth (r : Road) : (roadD r).depth ≤ 2 := by simp [roadD, PyData.depth, PyData.depthAll]
theorem roads_lay : ∀ rs : List Road, PyData.canLayAll0 (rs.map roadD) = true
  | [] => by simp only [List.map_nil, PyData.canLayAll0]
  | r :: rs => by simp [PyData.canLayAll0, roadD_lay r, roads_lay rs]
theorem roads_depth : ∀ rs : List Road, PyData.depthAll (rs.map roadD) ≤ 2
  | [] => by simp only [List.map_nil, PyData.depthAll]; omega
  | r :: rs => by
    have h1 := roads_depth rs
    have h2 := roadD_depth r
    simp only [PyData.depthAll, List.map_cons]
    omega
theorem shaped_roads (rs : List Road) : SeqAt.shaped (.list (rs.map roadD)) = true := shaped_list (roads_lay _) (Nat.le_trans (roads_depth _) (by decide))
theorem eqv_road (r t : Road) : PyData.eqv (roadD r) (roadD t) = decide (r = t) := by
  show ((r.a == t.a) && ((r.b == t.b) && ((r.l == t.l) && true))) = _
  obtain ⟨a, b, l⟩ := r
  obtain ⟨x, y, z⟩ := t
  by_cases h1 : a = x <;> by_cases h2 : b = y <;> by_cases h3 : l = z <;> simp [h1, h2, h3]
theorem eqv_roadsAll : ∀ (rs ts : List Road), PyData.eqvAll (rs.map roadD) (ts.map roadD) = decide (rs = ts)
  | [], [] => rfl
  | [], _ :: _ => rfl
  | _ :: _, [] => rfl
  | r :: rs, t :: ts => by
    show (PyData.eqv (roadD r) (roadD t) && PyData.eqvAll (rs.map roadD) (ts.map roadD)) = _
    rw [eqv_road, eqv_roadsAll rs ts]
    by_cases e : r = t <;> simp [e]
theorem eqv_roads (rs ts : List Road) : PyData.eqv (.list (rs.map roadD)) (.list (ts.map roadD)) = decide (rs = ts) := eqv_roadsAll rs ts
theorem rows_lay : ∀ rs : List (List Int), PyData.canLayAll0 (rs.map fun r => PyData.list (r.map PyData.int)) = true
  | [] => by simp only [List.map_nil, PyData.canLayAll0]
  | r :: rs => by
    have h1 : PyData.canLay0 (.list (r.map PyData.int)) = true := by simp only [PyData.canLay0]; exact int_lays r
    have h2 := rows_lay rs
    simp only [List.map_cons, PyData.canLayAll0, h1, h2]
    rfl
theorem rows_depth : ∀ rs : List (List Int), PyData.depthAll (rs.map fun r => PyData.list (r.map PyData.int)) ≤ 3
  | [] => by simp only [List.map_nil, PyData.depthAll]; omega
  | r :: rs => by
    have h1 := rows_depth rs
    have h2 := int_depths r
    simp only [PyData.depth, PyData.depthAll, List.map_cons]
    omega
theorem shaped_rows (rs : List (List Int)) : SeqAt.shaped (.list (rs.map fun r => PyData.list (r.map PyData.int))) = true := shaped_list (rows_lay _) (Nat.le_trans (rows_depth _) (by decide))
theorem eqv_rowsAll : ∀ (rs ts : List (List Int)), PyData.eqvAll (rs.map fun r => PyData.list (r.map PyData.int)) (ts.map fun r => PyData.list (r.map PyData.int)) = decide (rs = ts)
  | [], [] => rfl
  | [], _ :: _ => rfl
  | _ :: _, [] => rfl
  | r :: rs, t :: ts => by
    show (PyData.eqv (.list (r.map PyData.int)) (.list (t.map PyData.int)) && PyData.eqvAll (rs.map fun r => PyData.list (r.map PyData.int)) (ts.map fun r => PyData.list (r.map PyData.int))) = _
    rw [eqv_il, eqv_rowsAll rs ts]
    by_cases e : r = t <;> simp [e]
theorem eqv_rows (rs ts : List (List Int)) : PyData.eqv (.list (rs.map fun r => PyData.list (r.map PyData.int))) (.list (ts.map fun r => PyData.list (r.map PyData.int))) = decide (rs = ts) := eqv_rowsAll rs ts
theorem gd_mk {P : Program} {w : World} {K : PySem.W.Frag} {mg : Str → Option Value} {base : Heap} {x q : Str} {st : Stmt} {f : Addr} {fd : FuncData} {k : Nat} {ps : List Str} {sp : Sp} (F : Fun K x q st f fd) (hm : mg x = some (.ref f)) (hb : Binds K fd ps []) (ok : FnOk P w K mg base CX0 k f fd ps sp) : Gd P w K mg base k x ps sp :=
  ⟨f, fd, hm, F.kp, hb, Wr.FnOk.lift ok⟩
theorem gm_mk {P : Program} {w : World} {K : PySem.W.Frag} {mg : Str → Option Value} {base : Heap} {C : Addr} {x : Str} {f : Addr} {fd : FuncData} {k : Nat} {ps : List Str} {sp : Sp} (M : Meth K C x f) (hb : Binds K fd ps []) (ok : FnOk P w K mg base CX0 k f fd ps sp) : Gm P w K mg base C k x ps sp :=
  ⟨f, fd, M, hb, Wr.FnOk.lift ok⟩
theorem gc_mk {P : Program} {w : World} {K : PySem.W.Frag} {mg : Str → Option Value} {base : Heap} {C : Addr} {x : Str} {f : Addr} {fd : FuncData} {k : Nat} {ps : List Str} {sp : Sp} (hm : mg x = some (.ref C)) (M : Mk K C f) (hb : Binds K fd ps []) (ok : FnOk P w K mg base CX0 k f fd ps sp) : Gc P w K mg base C k x ps sp :=
  ⟨f, fd, hm, M, hb, Wr.FnOk.lift ok⟩
theorem of_next {n : St → Hp → Prop} {r : VK} {b c : St → Hp → Prop} {σ : St} {H : Hp} (h : n σ H) : tNext ⟨n, r, b, c⟩ σ H := h
theorem of_nx {n : St → Hp → Prop} {r : VK} {b c : St → Hp → Prop} {σ : St} {H : Hp} (h : n σ H) : (Ends.mk n r b c).nx σ H := h
theorem of_ifs {c : TT} {t u : TS} {D : Ends} {σ : St} {H : Hp} (h : c σ H fun b H1 => if b = true then t D σ H1 else u D σ H1) : tIfS c t u D σ H := h
theorem of_not {c : TT} {σ : St} {H : Hp} {Q : Bool → Hp → Prop} (h : c σ H fun b H1 => Q (!b) H1) : tNot c σ H Q := h
theorem of_b {te : TE} {σ : St} {H : Hp} {Q : Bool → Hp → Prop} (h : te σ H fun x H1 => ∃ c, x = .bl c ∧ Q c H1) : tB te σ H Q := h
theorem of_tup {te : TE} {ta : TA} {σ : St} {H : Hp} {Q : VK} (h : te σ H fun x H1 => ta σ H1 fun xs H2 => (x :: xs).length ≤ sizeLine ∧ ∀ p, H2 p = none → Q (.ref p) (upd H2 p (.tup (x :: xs)))) : tTup (tCons te ta) σ H Q := h
theorem of_cons {te : TE} {ta : TA} {σ : St} {H : Hp} {Q : List V → Hp → Prop} (h : te σ H fun x H1 => ta σ H1 fun xs H2 => Q (x :: xs) H2) : tCons te ta σ H Q := h
theorem val_ifE {t : TT} {ta tb : TE} {σ : St} {H : Hp} {b : Bool} {x y : V} (h : Ans t σ H b) (h1 : b = true → Val ta σ H x) (h2 : b = false → Val tb σ H y) : Val (tIf t ta tb) σ H (if b = true then x else y) := by
  intro Q q
  refine h _ ?_
  cases b with
  | true => exact h1 rfl _ q
  | false => exact h2 rfl _ q
theorem of_test {te : TE} {σ : St} {H : Hp} {Q : Bool → Hp → Prop} (h : te σ H fun x H' => ∃ k, x = .bl k ∧ Q k H') : tTest te σ H Q := h
theorem of_op {r : R2} {ta tb : TE} {σ : St} {H : Hp} {Q : VK} (h : ta σ H fun x H1 => tb σ H1 fun y H2 => r x y H2 Q) : tOp r ta tb σ H Q := h
theorem of_var {i : Nat} {v : V} {σ : St} {H : Hp} {Q : VK} (e : σ[i]? = some (some v)) (h : Q v H) : tVar i σ H Q := ⟨v, e, h⟩
theorem dp_trip {K : PySem.W.Frag} {H : Hp} {p : Addr} {a b c : Int} (h : H p = some (.tup [.int a, .int b, .int c])) : Dp K H (.ref p) (.tuple [.int a, .int b, .int c]) := .tup (SqT.of h) (.cons (.int _) (.cons (.int _) (.cons (.int _) .nil)))
theorem shaped_trip (a b c : Int) : SeqAt.shaped (.tuple [.int a, .int b, .int c]) = true := by
  unfold SeqAt.shaped
  rw [Bool.and_eq_true, decide_eq_true_eq]
  constructor
  · rfl
  · simp only [PyData.depth, PyData.depthAll]; omega
theorem of_cb1 {r : List V → Hp → VK → Prop} {te : TE} {σ : St} {H : Hp} {Q : VK} (h : te σ H fun x H1 => r [x] H1 Q) : tCB r (tCons te tNil) σ H Q := h
theorem paired_mapL {α β γ : Type} {F : β → γ → Prop} {g : α → β} : ∀ {l : List α} {ys : List γ}, Paired F (l.map g) ys → Paired (fun x y => F (g x) y) l ys
  | [], _, .nil => .nil
  | _ :: l, _, .cons h r => .cons h (paired_mapL r)
theorem shaped_pair (ns : List Int) (m : Int) : SeqAt.shaped (.tuple [.list (ns.map PyData.int), .int m]) = true := by
  have h1 := int_depths ns
  have h2 := int_lays ns
  unfold SeqAt.shaped
  rw [Bool.and_eq_true, decide_eq_true_eq]
  constructor
  · simp only [PyData.canLay0, PyData.canLayAll0, h2]; rfl
  · simp only [PyData.depth, PyData.depthAll]; omega
theorem dp_pair {K : PySem.W.Frag} {H : Hp} {p l : Addr} {ns : List Int} {m : Int} (h1 : H p = some (.tup [.ref l, .int m])) (h2 : H l = some (.lst (ns.map V.int))) : Dp K H (.ref p) (.tuple [.list (ns.map PyData.int), .int m]) :=
  .tup (SqT.of h1) (.cons (dp_ilist h2) (.cons (.int m) .nil))
theorem eqv_same {d : PyData} (h : SeqAt.shaped d = true) : PyData.eqv d d = true := SeqAt.eqv_refl d (SeqAt.canLay_of_shaped h)
end Wr

/-! more rules: sorted of a tuple, len(set(..)) -/
namespace Wr
open PySem PySem.Spec PyProof.Rows L2
section
variable {X : Cx}
/-- sorted of ints that stand in a list or a tuple -/
theorem srt_seq {pr : Program} {wo : World} {Ar : Around} {Er : Value → Shared → Prop} {st : Shared} {p : Addr} {T : String} {o : Obj} {us : List Value} {m : Nat} {zs : List Int} {R : Value → Shared → Prop} (hT : T = "list" ∨ T = "tuple")
    (h1 : st.heap.get? p = some o) (h2 : o.cls = .type T) (h3 : o.data = .seq us.toArray m) (hz : IntsAre us zs) (hl : us.length ≤ sizeLine)
    (fin : ∀ (g h' : Heap) (out : Array Value) (zs' : List Int) (e : Nat), (∀ b u, st.heap.get? b = some u → g.get? b = some u) → (∀ b u, g.get? b = some u → h'.get? b = some u) → IntsAre out.toList zs' → zs'.Perm zs → zs'.Pairwise (fun x y => x ≤ y) →
      h'.get? g.objs.size = some (seqObj "list" out e) → R (.ref g.objs.size) { st with heap := h' }) : wpAny (model pr wo) Ar (call (.builtin "sorted") [.ref p]) R Er st := by
  refine Calls.call_function_entry kind_sorted plain_sorted entry_sorted (args_sorted1 _) (wpAny_bind (m := checkCount "sorted" 1 1 1) (wpAny_pure (wpAny_bind (wpAny_collect_seq p hT h1 h2 h3 (fun g kg => ?_) (by rw [List.size_toArray]; exact hl)))))
  have eu : us.toArray.toList = us := by simp
  rw [eu]
  have hnew : (g.push (seqObj "list" us.toArray 0)).get? g.objs.size = some (seqObj "list" us.toArray 0) := Heap.get?_push_size g rfl
  refine wpAny_bind (wpAny_newList (wpAny_bind (wpAny_holding (wpAny_call_entry slot_list_sort ⟨_, hnew, rfl⟩ entry_list_sort (list_sort_treeAny hnew hz hl fun out zs' a1 a2 a3 => ⟨_, rfl, wpAny_pure ⟨_, rfl, ?_⟩⟩) (args_list_sort _)))) hl)
  obtain ⟨e, he⟩ := sortedHeap_at (out := out) hnew
  refine fin g _ out zs' e kg (fun b u hb => ?_) a1 a2 a3 he
  have lt := Heap.lt_size hb
  rw [sortedHeap_old (Nat.ne_of_lt lt) (by rw [size_push']; exact Nat.lt_succ_of_lt lt)]
  exact Heap.get?_push_of_some (seqObj "list" us.toArray 0) hb
def rSortedA (K : PySem.W.Frag) : List V → Hp → VK → Prop := fun vs H Q => ∃ (p : Addr) (zs : List Int), vs = [V.ref p] ∧ (SqL K H p (zs.map V.int) ∨ SqT K H p (zs.map V.int)) ∧
  ∀ (zs' : List Int) (q : Addr), zs'.Perm zs → zs'.Pairwise (fun x y => x ≤ y) → H q = none → Q (.ref q) (upd H q (.lst (zs'.map V.int)))
theorem cr_sortedA (K : PySem.W.Frag) (hK : X.K = K := by rfl) : CallR X (.builtin "sorted") (rSortedA K) := by
  subst hK
  rintro pins s σ H vs us Q I r ⟨p, zs, rfl, hs, k⟩
  rw [Vals.ref1 r]
  have done : zs.length ≤ sizeLine → ∀ (g h' : Heap) (out : Array Value) (zs' : List Int) (e : Nat), (∀ b u, s.heap.get? b = some u → g.get? b = some u) → (∀ b u, g.get? b = some u → h'.get? b = some u) → IntsAre out.toList zs' → zs'.Perm zs → zs'.Pairwise (fun x y => x ≤ y) →
      h'.get? g.objs.size = some (seqObj "list" out e) → EP X pins σ Q (.ref g.objs.size) { s with heap := h' } := fun hn g h' out zs' e k1 k2 a1 a2 a3 he => by
    have J : Inv X pins σ H { s with heap := g } := I.kept (t' := s.toks) k1
    exact ⟨.ref g.objs.size, upd H g.objs.size (.lst (zs'.map V.int)), J.laid (t' := s.toks) k2 (Nat.le_refl _) ⟨by rw [List.length_map, a2.length_eq]; exact hn, out.toList, e, vals_of_ints a1, he⟩, rfl, k zs' _ a2 a3 (J.hok.fresh (Nat.le_refl _))⟩
  rcases hs with hs | hs
  · obtain ⟨its, rv, hl, hz⟩ := I.list hs
    obtain ⟨o, h1, h2, n, h3⟩ := hl.isList
    have el := rv.length
    rw [List.length_map] at el hz
    exact srt_seq (.inl rfl) h1 h2 h3 rv.ints (by omega) (done (by omega))
  · obtain ⟨its, rv, ⟨o, h1, h2, n, h3⟩, hz⟩ := I.tuple hs
    have el := rv.length
    rw [List.length_map] at el hz
    exact srt_seq (.inr rfl) h1 h2 h3 rv.ints (by omega) (done (by omega))

/-! ### len(set(xs)) -/
def distinct (ns : List Int) : List Int := PyProof.Rows.firstMet (fun i => ns.getD i 0) ns.length
def tLenSetA (K : PySem.W.Frag) (ta : TE) : TE := fun σ H Q => ta σ H fun x H1 => ∃ (l : Addr) (ns : List Int), x = .ref l ∧ SqL K H1 l (ns.map V.int) ∧ ns.length ≤ 4000 ∧ Q (.int ((distinct ns).length : Nat)) H1
theorem firstMet_le (f : Nat → Int) : ∀ n, (PyProof.Rows.firstMet f n).length ≤ n
  | 0 => Nat.le_refl _
  | n + 1 => by
    have ih := firstMet_le f n
    rw [PyProof.Rows.firstMet_succ]
    unfold step_dedup
    split
    · omega
    · simp only [List.length_append, List.length_singleton]; omega
theorem distinct_le (ns : List Int) : (distinct ns).length ≤ ns.length := firstMet_le _ _
theorem firstMet_lt {f : Nat → Int} : ∀ {n i j : Nat}, i < j → j < n → f i = f j → (PyProof.Rows.firstMet f n).length < n
  | 0, _, _, _, h, _ => absurd h (Nat.not_lt_zero _)
  | n + 1, i, j, hij, hj, e => by
    rw [PyProof.Rows.firstMet_succ]
    unfold step_dedup
    have hn := firstMet_le f n
    split
    · omega
    · rename_i hc
      simp only [List.length_singleton, List.length_append]
      by_cases ej : j = n
      · subst ej
        exfalso
        apply hc
        have hmem : ∀ m k, k < m → f k ∈ PyProof.Rows.firstMet f m := by
          intro m
          induction m with
          | zero => intro k hk; omega
          | succ m ih =>
            intro k hk
            rw [PyProof.Rows.firstMet_succ]
            unfold step_dedup
            by_cases ek : k = m
            · subst ek
              split
              · rename_i h1
                obtain ⟨y, hy, ey⟩ := List.any_eq_true.mp h1
                rw [← eq_of_beq ey]; exact hy
              · exact List.mem_append_right _ (by simp)
            · split
              · exact ih k (by omega)
              · exact List.mem_append_left _ (ih k (by omega))
        exact List.any_eq_true.mpr ⟨f i, hmem j i hij, by rw [e]; simp⟩
      · have := firstMet_lt (n := n) hij (by omega) e
        omega
theorem distinct_iff (ns : List Int) : (distinct ns).length < ns.length ↔ ¬ ns.Nodup := by
  constructor
  · intro h hn
    unfold distinct at h
    rw [RZ.firstMet_nodup hn ns.length (Nat.le_refl _), List.take_length] at h
    omega
  · intro h
    have : ∃ i j, ∃ (_ : i < j) (hj : j < ns.length), ns[i]'(by omega) = ns[j] := by
      apply Classical.byContradiction
      intro hc
      apply h
      rw [List.Nodup, List.pairwise_iff_getElem]
      intro i j hi hj hij e
      exact hc ⟨i, j, hij, hj, e⟩
    obtain ⟨i, j, hij, hj, e⟩ := this
    refine firstMet_lt hij hj ?_
    rw [List.getD_eq_getElem?_getD, List.getD_eq_getElem?_getD, List.getElem?_eq_getElem hj, List.getElem?_eq_getElem (by omega : i < ns.length)]
    exact e
theorem pe_lenSetA (K : PySem.W.Frag) {a : Expr} {ta : TE} {p p2 q pos : Pos} (g1 : Gl X "len") (m1 : X.mg "len" = none) (g2 : Gl X "set") (m2 : X.mg "set" = none) (ha : PE X a ta) (hc : X.calm = true := by rfl)
    (w1 : starEach [a] X.env = (false, eval a X.env) :: starEach [] X.env := by rfl) (hK : X.K = K := by rfl) : PE X (.Call (.Name "len" p) [.Call (.Name "set" p2) [a] [] q] [] pos) (tLenSetA K ta) := by
  subst hK
  refine ⟨fun pins s σ H Q I h => Call_ (ld_blt I g1 m1 boot_len (PyProof.Rows.callWith_builtin1 (PyProof.Rows.args_cons (Call_ (ld_blt I g2 m2 boot_set (PyProof.Rows.callWith_type1 (PyProof.Rows.args_cons (thn (ha.run pins s σ H _ I h) ?_) w1) w1 rfl))) rfl) rfl rfl))⟩
  rintro v s1 ⟨x, H1, I1, r1, l, zs, rfl, hq, hl, q1⟩
  cases r1
  refine (PyProof.Rows.args_nil ?_)
  obtain ⟨us, r, pl, _⟩ := I1.list hq
  have el := r.length
  rw [List.length_map] at el
  have hsz : us.toArray.size = zs.length := by rw [List.size_toArray]; exact el.symm
  have hd := distinct_le zs
  refine call_set_list (I1.ok.hd hc) pl.isList (by simpa using r.ints) (by rw [hsz]; unfold scanBound; omega) fun g tk hS kg => PyProof.Rows.args_nil ?_
  rw [hsz] at hS
  obtain ⟨o, es, ep, t, ho, hex, ht, _, _, _, hf, hn⟩ := hS
  have J : Inv X pins σ H1 { s1 with heap := g, toks := tk } := I1.kept fun b u hb => kg b u (Heap.lt_size hb) hb
  replace hn : es.size = (distinct zs).length := hn
  exact call_len_set ho hex ht hf (by rw [hn] <;> omega) ⟨.int ((distinct zs).length : Nat), H1, J.tok _, ⟨_, by rw [hn]⟩, q1⟩
end
end Wr

namespace Wr
open PySem L2
def top (i : Nat) : Stmt := PySem.Challenge.pw_wellroads_k09_texts_misread.main.body.getD i (.Pass ⟨0, 0, 0, 0⟩)
abbrev S_BadRow_init : Stmt := inClass (top 6) 0
abbrev S_is_whole : Stmt := top 10
abbrev S_within : Stmt := top 11
abbrev S_is_road : Stmt := top 12
abbrev S_Tree_init : Stmt := inClass (top 13) 0
abbrev S_Tree_roads : Stmt := inClass (top 13) 1
abbrev S_Tree_walked : Stmt := inClass (top 13) 2
abbrev S_Tree_village : Stmt := inClass (top 13) 3
abbrev S_number_in : Stmt := top 16
abbrev S_road_in : Stmt := top 17
abbrev S_read : Stmt := top 18
abbrev S_law_cell_at : Stmt := top 20
abbrev S_law_draw : Stmt := top 21
abbrev S_law_refused : Stmt := top 22
abbrev S_law_bad_road : Stmt := top 23
abbrev S_law_bad_head : Stmt := top 24
abbrev S_law_whole : Stmt := top 25
abbrev S_law : Stmt := top 26
end Wr

namespace Wr
open PySem L2
section
variable {P : Program} {w : World} {K : PySem.W.Frag} {mg : Str → Option Value} {base : Heap}

def spWhole (K : PySem.W.Frag) : Sp := fun vs H Q _ => ∃ x, vs = [x] ∧ Plain K H x ∧ Q (.bl (isW x)) H
theorem sc_is_whole : FnScope ["number"] ["number"] (defScope S_is_whole) := ⟨rfl, rfl, rfl, by decide +kernel, rfl, by decide +kernel, by decide +kernel⟩
theorem ok_is_whole {f : Addr} {fd : FuncData} (F : Fun K "is_whole" "is_whole" S_is_whole f fd) (B : Bi mg) : FnOk P w K mg base CX0 1 f fd ["number"] (spWhole K) := by
  refine F.ok sc_is_whole (fun vs H Q E h => ?_) (fun cdv A outer s H vs Q E hr h => ?_)
  · obtain ⟨x, rfl, _⟩ := h
    rfl
  · obtain ⟨x, rfl, ⟨t, ty, k1, k2⟩, k⟩ := h
    refine ⟨_, pss_one (ps_ret (pe_and (pe_callB call_isi (by rfl) B.isinstance (by decide +kernel) (pa_cons (pv 0) (pa_cons (pe_bltn (v := .ty "int") (by rfl) B.int (by decide +kernel) rfl) pa_nil)))
      (pe_one (pe_not (pe_callB call_isi (by rfl) B.isinstance (by decide +kernel) (pa_cons (pv 0) (pa_cons (pe_bltn (v := .ty "bool") (by rfl) B.bool (by decide +kernel) rfl) pa_nil))))))), ?_⟩
    refine ⟨_, rfl, x, _, t, _, isI x, rfl, .ty _, ty, k1, isI x, rfl, ?_⟩
    rw [isW_eq] at k
    cases e : isI x with
    | true =>
      refine iteT ?_
      refine ⟨_, rfl, x, _, t, _, isB x, rfl, .ty _, ty, k2, isB x, rfl, ?_⟩
      rw [e] at k
      exact k
    | false =>
      refine iteF ?_
      rw [e] at k
      exact k
def spWithin (K : PySem.W.Frag) : Sp := fun vs H Q _ => ∃ x lo hi, vs = [x, .int lo, .int hi] ∧ Plain K H x ∧ Q (.bl (withinV x lo hi)) H
theorem sc_within : FnScope ["number", "low", "high"] ["number", "low", "high"] (defScope S_within) := ⟨rfl, rfl, rfl, by decide +kernel, rfl, by decide +kernel, by decide +kernel⟩
theorem ok_within {f : Addr} {fd : FuncData} (F : Fun K "within" "within" S_within f fd) (G1 : Gd P w K mg base 1 "is_whole" ["number"] (spWhole K)) : FnOk P w K mg base CX0 2 f fd ["number", "low", "high"] (spWithin K) := by
  refine F.ok sc_within (fun vs H Q E h => ?_) (fun cdv A outer s H vs Q E hr h => ?_)
  · obtain ⟨x, lo, hi, rfl, _⟩ := h
    rfl
  · obtain ⟨x, lo, hi, rfl, px, k⟩ := h
    refine ⟨_, pss_one (ps_ret (pe_and (pe_g G1 hr rfl (pa_cons (pv 0) pa_nil)) (pe_one (pe_chain op_le op_le (pv 1) (pv 0) (pv 2))))), ?_⟩
    refine ⟨_, rfl, x, rfl, px, isW x, rfl, ?_⟩
    cases x with
    | int i =>
      refine iteT ?_
      refine ⟨_, rfl, _, rfl, _, _, rfl, rfl, _, rfl, ?_⟩
      have k : Q (.bl (decide (lo ≤ i) && decide (i ≤ hi))) H := k
      cases e : decide (lo ≤ i) with
      | true =>
        refine iteT ?_
        refine ⟨_, rfl, _, _, rfl, rfl, ?_⟩
        rw [e] at k
        exact k
      | false =>
        refine iteF ?_
        rw [e] at k
        exact k
    | _ => exact iteF k
end
end Wr

namespace Wr
open PySem PySem.Spec PyProof.Rows L2
/-! ### own exceptions, defs that raise -/
/-- an own exception class without an __init__ of its own -/
structure Xc (K : PySem.W.Frag) (mg : Str → Option Value) (x : Str) (C : Addr) : Prop where
  g : mg x = some (.ref C)
  e : PySem.W.excIn K C [.type "ValueError", .type "Exception", .type "BaseException", .type "object"] "ValueError.__new__" = true
  k : PySem.W.keepIn K (.ref C) = true
  b : PySem.W.subIn K (.ref C) (.type "BaseException") = some true
  t : PySem.W.typeIn K (.ref C) = some (.type "type")
section
variable {P : Program} {w : World} {K : PySem.W.Frag} {mg : Str → Option Value} {base : Heap}
theorem Fun.okN {x qual : Str} {st : Stmt} {f : Addr} {fd : FuncData} {N ps : List Str} {k : Nat} {sp : Sp} (F : Fun K x qual st f fd) (S : FnScope N ps (defScope st)) (len : ∀ ws H Q E, sp ws H Q E → ws.length = ps.length)
    (told : ∀ (cw : Value) (A : Around) (fs : List Env) (s : Shared) (H : Hp) (ws : List V) (Q : VK) (E : XK), Room k (A.deeper (envOfC qual (defScope st) s.heap.objs.size f cw)) → sp ws H Q E →
      ∃ t, PSs (cxOf (L2N.CX P w) P w K mg base N qual (defScope st) f cw A fs s H E) (defBody st) t ∧ t { nx := fun _ H' => Q .non H', rt := Q } (start N ws) H) : FnOk P w K mg base (L2N.CX P w) (k + 1) f fd ps sp := by
  obtain ⟨oc, od, kV, dc0, pm, an, cw, ct, osl, rfl, lk0, hc0⟩ := F.ex
  exact fn_of lk0 hc0 S len fun A fs s H ws Q E rm hs0 => told cw A fs s H ws Q E rm hs0
end
/-- as Gd, Gm, Gc, for what may raise -/
structure GdN (P : Program) (w : World) (K : PySem.W.Frag) (mg : Str → Option Value) (base : Heap) (k : Nat) (x : Str) (ps : List Str) (sp : Sp) : Prop where
  ex : ∃ f fd, mg x = some (.ref f) ∧ PySem.W.keepIn K (.ref f) = true ∧ Binds K fd ps [] ∧ FnOk P w K mg base (L2N.CX P w) k f fd ps sp
structure GmN (P : Program) (w : World) (K : PySem.W.Frag) (mg : Str → Option Value) (base : Heap) (C : Addr) (k : Nat) (x : Str) (ps : List Str) (sp : Sp) : Prop where
  ex : ∃ f fd, Meth K C x f ∧ Binds K fd ps [] ∧ FnOk P w K mg base (L2N.CX P w) k f fd ps sp
structure GcN (P : Program) (w : World) (K : PySem.W.Frag) (mg : Str → Option Value) (base : Heap) (C : Addr) (k : Nat) (x : Str) (ps : List Str) (sp : Sp) : Prop where
  ex : ∃ f fd, mg x = some (.ref C) ∧ Mk K C f ∧ Binds K fd ps [] ∧ FnOk P w K mg base (L2N.CX P w) k f fd ps sp
def tMethS (C : Addr) (m : Str) (sp : Sp) (E : L2.St → XK) (ta : TE) (t : TA) : TE := fun σ H Q => ta σ H fun x H1 => ∃ a dx fs, x = .ref a ∧ H1 a = some (.ins C dx fs) ∧ fs.lookup m = none ∧ t σ H1 fun vs H2 => sp (x :: vs) H2 Q (E σ)
def tMakeS (C : Addr) (sp : Sp) (E : L2.St → XK) (t : TA) : TE := fun σ H Q => t σ H fun vs H1 => ∀ x dx, H1 x = none → H1 dx = none → dx ≠ x →
  sp (.ref x :: vs) (upd (upd H1 dx (.own x)) x (.ins C dx [])) (fun v H2 => v = .non ∧ Q (.ref x) H2) (E σ)
section
variable {X : Cx} {C : Addr} {k j : Nat} {x m : Str} {ps : List Str} {sp : Sp} {p pos apos : Pos} {o e : Expr} {es : List Expr} {ta : TE} {t : TA} {E : XK} {W : WX}
theorem pe_gN (G : GdN X.prog X.w X.K X.mg X.base k x ps sp) (hr : Room j X.A) (hg : Gl X x) (tk : L2N.Takes X W) (ha : PA X (e :: es) t) (hk : k ≤ j := by decide)
    (w1 : (x == ("__debug__" : Str)) = false := by decide) (w2 : starEach (e :: es) X.env = (false, eval e X.env) :: starEach es X.env := by rfl)
    (w3 : (backTo pos (starEach es X.env)).any (fun z => z.1) = false := by rfl) :
    PE X (.Call (.Name x p) (e :: es) [] pos) (tCallS sp (WE W) t) := by
  obtain ⟨f, fd, hm, kp, hb, F⟩ := G.ex
  exact pe_callS F (hr.mono hk) hg hm kp hb (fun σ => L2N.passAt tk σ) ha w1 w2 w3
theorem pe_gmN {pl : Sem Bool} (he : PE X o ta) (c : Cls X.K C) (G : GmN X.prog X.w X.K X.mg X.base C k m ps sp) (hr : Room j X.A) (tk : L2N.Takes X W) (ha : PA X (e :: es) t) (hk : k ≤ j := by decide)
    (w1 : starEach (e :: es) X.env = (false, eval e X.env) :: starEach es X.env := by rfl) (w2 : (backTo pos (starEach es X.env)).any (fun z => z.1) = false := by rfl)
    (ht : eval (.Call (.Attribute o m apos) (e :: es) [] pos) X.env = (do let ov ← eval o X.env; standAt apos.atName; let z ← holding [ov] (getMethod ov m pl); callWith pos z.1 z.2 (backTo pos (starEach (e :: es) X.env)) (backToKw pos (keywordEach [] X.env))) := by rfl) :
    PE X (.Call (.Attribute o m apos) (e :: es) [] pos) (tMethS C m sp (WE W) ta t) := by
  obtain ⟨f, fd, hm, hb, F⟩ := G.ex
  refine ⟨fun pins s σ H Q I h => ?_⟩
  refine PySem.W.methodCall_KW (pl := pl) (thn (he.run pins s σ H _ I h) fun u s1 ⟨x, H1, I1, rx, a, dx, fs, ex, ea, l, q⟩ => ?_) ht
  subst ex
  obtain rfl : u = Value.ref a := rx
  refine getmeth_ok I1 ea c hm l ?_
  refine PySem.W.callWith_K (first := [.ref a]) (h₀ := X.base) I.ok.mod.kin hm.kp (thn (ha.run pos pins s1 σ H1 _ I1 q) fun us s2 ⟨vs, H2, I2, r, q2⟩ => ⟨I2.kIn, ?_⟩) w1 w2
  exact run_fnS (E := WE W) (us := .ref a :: us) (vs := .ref a :: vs) F (hr.mono hk) hb (L2N.passAt tk σ) I2 (.cons rfl r) q2
theorem run_makeS {CX : CXT} {f : Addr} {fd : FuncData} {F' : L2.St → XK} {pins : List (Addr × Obj)} {σ : L2.St} {H : Hp} {s : Shared} {Q : VK} {args : List Value} {vs : List V} (M : Mk X.K C f) (F : FnOk X.prog X.w X.K X.mg X.base CX k f fd ps sp) (rm : Room (k + 1) X.A) (hb : Binds X.K fd ps [])
    (hx : PassesAt CX X σ (F' σ)) (J : Inv X pins σ H s) (r : Vals vs args)
    (h : ∀ x dx, H x = none → H dx = none → dx ≠ x → sp (.ref x :: vs) (upd (upd H dx (.own x)) x (.ins C dx [])) (fun v H2 => v = .non ∧ Q (.ref x) H2) (F' σ)) :
    wpAny (model X.prog X.w) X.A (call (.ref C) args) (EP X pins σ Q) X.xe s := by
  have say := h (s.heap.objs.size + 1) s.heap.objs.size (J.hok.fresh (Nat.le_succ _)) (J.hok.fresh (Nat.le_refl _)) (Nat.ne_of_lt (Nat.lt_succ_self _))
  have J2 := Inv.made (C := C) J
  have rel2 : Vals (V.ref (s.heap.objs.size + 1) :: vs) (Value.ref (s.heap.objs.size + 1) :: args) := .cons rfl r
  have len2 : (Value.ref (s.heap.objs.size + 1) :: args ++ []).length = ps.length := by
    have e := rel2.length
    rw [F.len _ _ _ _ say] at e
    rw [List.append_nil]
    exact e.symm
  have hb2 := hb _ (Value.ref (s.heap.objs.size + 1) :: args) J2.kIn len2
  rw [List.append_nil] at hb2
  refine wpAny_call (make_map (f := f) J.kIn M.makes M.init (beq_iff_eq.mp M.fn) (codeAny_mono (F.run _ X.stack _ _ ⟨Value.ref (s.heap.objs.size + 1) :: args, []⟩ (Value.ref (s.heap.objs.size + 1) :: args) _ _ (F' σ) (rm.make C args [])
    (J2.env0.make C args []) hb2 rel2 say) fun r s' say' => ?_))
  cases r with
  | error e => exact hx pins _ _ e s' J2 say'
  | ok fl =>
    cases fl with
    | ret u =>
      obtain ⟨v, H', J3, rv3, ev, say3⟩ := J2.after say'
      subst ev
      exact ⟨rv3, ⟨V.ref (s.heap.objs.size + 1), H', J3, rfl, say3⟩⟩
    | next => exact False.elim say'
    | brk => exact False.elim say'
    | cont => exact False.elim say'
theorem pe_gcN (G : GcN X.prog X.w X.K X.mg X.base C k x ps sp) (hr : Room j X.A) (hg : Gl X x) (tk : L2N.Takes X W) (ha : PA X (e :: es) t) (hk : k + 1 ≤ j := by decide)
    (w1 : (x == ("__debug__" : Str)) = false := by decide) (w2 : starEach (e :: es) X.env = (false, eval e X.env) :: starEach es X.env := by rfl)
    (w3 : (backTo pos (starEach es X.env)).any (fun z => z.1) = false := by rfl) :
    PE X (.Call (.Name x p) (e :: es) [] pos) (tMakeS C sp (WE W) t) := by
  obtain ⟨f, fd, hm, M, hb, F⟩ := G.ex
  refine ⟨fun pins s σ H Q I h => ?_⟩
  refine wpAny_Call_Name_kw (ld_glob I hg hm ?_ w1)
  refine PySem.W.callWith_K (h₀ := X.base) I.ok.mod.kin M.kp (thn (ha.run pos pins s σ H _ I h) fun us s1 ⟨vs, H1, I1, r, q⟩ => ⟨I1.kIn, ?_⟩) w2 w3
  exact run_makeS (F' := WE W) M F (hr.mono hk) hb (L2N.passAt tk σ) I1 r q
theorem GdN.of {P : Program} {w : World} {K : PySem.W.Frag} {mg : Str → Option Value} {base : Heap} {k : Nat} {f : Addr} {fd : FuncData} {x : Str} {ps : List Str} {sp : Sp} (hm : mg x = some (.ref f)) (kp : PySem.W.keepIn K (.ref f) = true) (hb : Binds K fd ps []) (F : FnOk P w K mg base (L2N.CX P w) k f fd ps sp) : GdN P w K mg base k x ps sp := ⟨f, fd, hm, kp, hb, F⟩
end

/-! ### any(xs) while an exception is handled -/
section
variable {prog : Program} {w : World} {A : Around} {E : Value → Shared → Prop} {s : Shared}
theorem pyNext_list_end_hot {itr src x1 : Addr} {i : Nat} {items : Array Value} {Q : Option Value → Shared → Prop} (hot : HotX.HotAt A x1 s.heap) (hitr : s.heap.IsListIter itr src i) (hl : s.heap.IsList src items) (hx : items[i]? = none) (hne : x1 ≠ itr)
    (fin : ∀ h', Heap.ExtBut itr s.heap h' → Q none { s with heap := h' }) : wpAny (model prog w) A (pyNext (.ref itr)) Q E s := by
  obtain ⟨hd0, o1, vs1, g1, f1, e1⟩ := hot
  obtain ⟨o, go0, cl0, da0⟩ := id hitr
  obtain ⟨ol, gl0, _, ln0, dl0⟩ := hl
  unfold pyNext
  refine wpAny_bind (wpAny_attempt (wpAny_callSpecial?_slot (name := Str.ofString "__next__") hitr.typeIs slot_listiter_next
    ((wpAny_call_entry slot_listiter_next hitr.typeIs entry_listiter_next ?_ (args_listiter_next _)))))
  show wpAny _ _ (field (.ref itr) 0 >>= _) _ _ s
  refine wpAny_bind (wpAny_field go0 da0 (x := .ref src) rfl ?_)
  show wpAny _ _ (if (Value.ref src == Value.none) = true then _ else _) _ _ s
  rw [if_neg (show ¬ ((Value.ref src == Value.none) = true) from Bool.false_ne_true)]
  show wpAny _ _ (field (.ref itr) 1 >>= _) _ _ s
  refine wpAny_bind (wpAny_field go0 da0 (x := .int i 0) rfl ?_)
  show wpAny _ _ (seqItems? (.ref src) >>= _) _ _ s
  refine wpAny_bind (wpAny_seqItems gl0 dl0 ?_)
  simp only [hx, Int.toNat_natCast]
  refine wpAny_bind (wpAny_rule (wpAny_bind (wpAny_setField go0 da0 (by simp) ?_)))
  show wpAny _ _ (newExc (.type "StopIteration") ([] : List Value) >>= _) _ _ _
  refine wpAny_bind ?_
  simp only [newExc, newTuple]
  refine wpAny_bind (wpAny_newObj_type ?nx1 (by size_fits))
  refine wpAny_bind (m := firstArgMember _ _) (wpAny_of_eq (a := Value.none) (by first | rfl | (simp only [firstArgMember]; rfl)) ?nx2)
  refine wpAny_newObj_type ?nx3 (by size_fits)
  have h1' := (Heap.get?_update_other s.heap (Obj.mapFields (·.setIfInBounds 0 .none)) (Ne.symm hne)).trans g1
  refine HotX.raiseNew_hot ⟨hd0, o1, vs1, Heap.get?_push_of_some _ (Heap.get?_push_of_some _ h1'), f1, e1⟩ (Nat.ne_of_lt (Heap.lt_size (Heap.get?_push_of_some _ h1'))) (Heap.get?_push_size _ rfl) rfl (by first | (simp; done) | (simp; omega) | (simp only [Array.size_append]; simp; omega)) ?_
  refine wpAny_bind (wpAny_isInstance (T := "StopIteration") (b := true) ⟨_, Heap.get?_update_self _ (Heap.get?_push_size _ rfl) rfl, rfl⟩ isSubtype_stop ?nx4)
  refine wpAny_pure (fin _ fun b u hb e => ?_)
  have e' := (Heap.get?_update_other s.heap (Obj.mapFields (·.setIfInBounds 0 .none)) (Ne.symm hb)).trans e
  rw [Heap.get?_update_other _ _ (Nat.ne_of_gt (Heap.lt_size (Heap.get?_push_of_some _ e')))]
  exact Heap.get?_push_of_some _ (Heap.get?_push_of_some _ e')
theorem Walks.listH {x1 I ax : Addr} (hne : ax ≠ I) (hx : x1 ≠ I) (items : Array Value) (fp : List Addr) (hfp : I ∈ fp ∧ ax ∈ fp ∧ x1 ∈ fp) :
    Walks prog w A I fp [I] items.size (fun i v => items[i]? = some v) (fun i h => (h.IsListIter I ax i ∧ h.IsList ax items) ∧ HotX.HotAt A x1 h) where
  sub := fun b hb => by simp at hb; rw [hb]; exact hfp.1
  frame := fun _ _ _ stt hk => ⟨⟨stt.1.1.at fun o e => hk I hfp.1 o e, stt.1.2.at fun o e => hk ax hfp.2.1 o e⟩, let ⟨a, o, vs, e, r⟩ := stt.2; ⟨a, o, vs, hk x1 hfp.2.2 o e, r⟩⟩
  item := fun i s Q E hi stt fin => by
    refine wpAny_pyNext_list_item stt.1.1 stt.1.2 (x := items[i]) (by simp [hi]) fun h' hitr' sb' => ?_
    exact fin _ h' s.toks (by simp [hi]) ⟨⟨hitr', stt.1.2.extBut sb'.extBut hne⟩, let ⟨a, o, vs, e, r⟩ := stt.2; ⟨a, o, vs, sb'.extBut x1 o hx e, r⟩⟩ fun b o hb e => sb'.extBut b o (fun h => hb (by simp [h])) e
  done := fun s Q E stt fin => pyNext_list_end_hot stt.2 stt.1.1 stt.1.2 (by simp) hx fun h' he' => fin h' s.toks fun b o hb e => he' b o (fun h => hb (by simp [h])) e
  self := fun _ _ _ _ stt fin => wpAny_pyIter_listiter stt.1.1 fin
end
theorem hot_in1 {A : Around} {x1 : Addr} {h : Heap} (q : HotX.HotAt A x1 h) : HotX.HotAt A.in1 x1 h := q
theorem cr_anyH {X : Cx} (hc : L2H.HotC X) : CallR X (.builtin "any") (rAny X.K) := by
  intro pins s σ H ws us Q I r asked
  obtain ⟨a, bs, rfl, hs, q⟩ := asked
  obtain ⟨items, rel, pl, _⟩ := I.list hs
  obtain ⟨x1, hot⟩ := hc.at I
  rw [Vals.ref1 r]
  have vals := rel.bls
  refine call_any_walk (iter_any pl.isList fun s₂ e2 st apart => ?_)
  subst e2
  obtain ⟨hh, o1, vs1, h1, r1⟩ := hot
  have hx : x1 ≠ s.heap.objs.size := Nat.ne_of_lt (Heap.lt_size h1)
  refine ⟨_, [s.heap.objs.size, a, x1], _, _, _, _, _, rfl, Walks.listH (A := X.A.in1) (x1 := x1) apart hx items.toArray _ (by simp), ⟨st, hh, o1, vs1, Heap.get?_push_of_some _ h1, r1⟩, truth_bools vals, fun h' tk kept => ?_⟩
  refine ⟨.bl _, H, I.kept fun b o gb => kept b o (fun mem => ?_) (Heap.get?_push_of_some _ gb), ?_, q⟩
  · rcases List.mem_cons.mp mem with eq1 | mem
    · exact absurd (eq1 ▸ Heap.lt_size gb) (Nat.lt_irrefl _)
    · cases mem
  · show (Value.bool _) = (Value.bool _)
    rw [← L2.any_range, vals, List.size_toArray, List.length_map]
theorem hot_suite {X : Cx} {a : Addr} {oe : Obj} {cls : Value} {d : Option Addr} {pn : List (Addr × Obj)} (hz : L2N.Zn cls d oe) (hf : ∃ vs, oe.data = .fields vs) : L2H.HotC (X.suite a ((a, oe) :: pn)) := by
  obtain ⟨vs, hv⟩ := hf
  exact ⟨(a, oe), ⟨rfl, vs, hv, hz.2.2 vs hv⟩, List.mem_cons_self⟩
end Wr
namespace Wr
open PySem L2
theorem takes0N {X : Cx} : L2N.Takes X (fun _ _ _ _ => False) := fun _ _ x => by
  obtain ⟨_, _, _, _, _, _, _, _, _, _, _, _, _, _, _, _, none0⟩ := x
  exact none0.elim
end Wr
namespace Wr
open PySem PySem.Spec PyProof.Rows L2
/-- isinstance(e, c), e the exception that the suite holds, of the own class at D, without a dict -/
def rIsEN (K : PySem.W.Frag) (a : Addr) (cls : Value) (d : Option Addr) : List V → Hp → VK → Prop := fun xs H Q => ∃ (D : Addr) (c : V) (cv : Value) (b : Bool), cls = .ref D ∧ d = none ∧ ExcC K D ∧ xs = [.ref a, c] ∧ (∀ u, RelV c u → u = cv) ∧ PySem.W.kitOne K (.ref D) cv = some b ∧ Q (.bl b) H
theorem call_isEN {X : Cx} {a : Addr} {oe : Obj} {cls : Value} {d : Option Addr} {pn : List (Addr × Obj)} (hz : L2N.Zn cls d oe) (hf : ∃ vs, oe.data = .fields vs) : CallR (X.suite a ((a, oe) :: pn)) (.builtin "isinstance") (rIsEN X.K a cls d) := by
  intro pins s σ H ws us Q I r asked
  obtain ⟨D, c, cv, b, rfl, rfl, EC, h⟩ := asked
  exact call_isE EC hz.zc hf pins s σ H ws us Q I r ⟨c, cv, b, h⟩
end Wr
namespace Wr
open PySem PySem.Spec PyProof.Rows L2
theorem cr_anyHK {X : Cx} (K : PySem.W.Frag) (hc : L2H.HotC X) (h : X.K = K := by rfl) : CallR X (.builtin "any") (rAny K) := h ▸ cr_anyH hc
theorem call_isENK {X : Cx} (K : PySem.W.Frag) {a : Addr} {oe : Obj} {cls : Value} {d : Option Addr} {pn : List (Addr × Obj)} (hz : L2N.Zn cls d oe) (hf : ∃ vs, oe.data = .fields vs) (h : X.K = K := by rfl) : CallR (X.suite a ((a, oe) :: pn)) (.builtin "isinstance") (rIsEN K a cls d) := h ▸ call_isEN hz hf
end Wr
namespace Wr
open PySem PySem.Spec PyProof.Rows L2
section
variable {P : Program} {w : World} {K : PySem.W.Frag} {mg : Str → Option Value} {base : Heap}
theorem gd_mkN {x q : Str} {st : Stmt} {f : Addr} {fd : FuncData} {k : Nat} {ps : List Str} {sp : Sp} (F : Fun K x q st f fd) (hm : mg x = some (.ref f)) (hb : L2.Binds K fd ps []) (ok : FnOk P w K mg base (L2N.CX P w) k f fd ps sp) : GdN P w K mg base k x ps sp := ⟨f, fd, hm, F.kp, hb, ok⟩
theorem gm_mkN {C : Addr} {x : Str} {f : Addr} {fd : FuncData} {k : Nat} {ps : List Str} {sp : Sp} (M : Meth K C x f) (hb : L2.Binds K fd ps []) (ok : FnOk P w K mg base (L2N.CX P w) k f fd ps sp) : GmN P w K mg base C k x ps sp := ⟨f, fd, M, hb, ok⟩
theorem gc_mkN {C : Addr} {x : Str} {f : Addr} {fd : FuncData} {k : Nat} {ps : List Str} {sp : Sp} (hm : mg x = some (.ref C)) (M : Mk K C f) (hb : L2.Binds K fd ps []) (ok : FnOk P w K mg base (L2N.CX P w) k f fd ps sp) : GcN P w K mg base C k x ps sp := ⟨f, fd, hm, M, hb, ok⟩
end
end Wr

namespace Wr
open PySem L2
structure Tx (K : PySem.W.Frag) (mg : Str → Option Value) (C : Addr) : Prop where
  cl : Cls K C
  nS : NoAttr K C "size"
  nR : NoAttr K C "rows"
section
variable {P : Program} {w : World} {K : PySem.W.Frag} {mg : Str → Option Value} {base : Heap}

def spWalked (C : Addr) : Sp := fun vs H Q _ => ∃ (t : Addr) (n : Nat) (rs : List Road) (s : Int), vs = [.ref t, .int s] ∧ TreeAt C H t n rs ∧ RoadsOk n rs ∧ n ≤ 12 ∧ 0 ≤ s ∧ s < n ∧
  ∀ d H', H d = none → Same H H' → FoundAt H' d (walked n rs s) → Q (.ref d) H'
theorem sc_walked : FnScope ["self", "start", "found", "waiting", "here", "one", "other", "length", "there"] ["self", "start"] (defScope S_Tree_walked) := ⟨rfl, rfl, rfl, by decide +kernel, rfl, by decide +kernel, by decide +kernel⟩
theorem ok_walked {f C : Addr} {fd : FuncData} (F : Fun K "walked" "Tree.walked" S_Tree_walked f fd) (T : Tx K mg C) : FnOk P w K mg base CX0 1 f fd ["self", "start"] (spWalked C) := by
  refine F.ok sc_walked (fun vs H Q E h => ?_) (fun cdv A outer s H vs Q E hr h => ?_)
  · obtain ⟨t, n, rs, s, rfl, _⟩ := h
    rfl
  · obtain ⟨t, n, rs, s, rfl, hT, ok, hn, hs0, hsn, k⟩ := h
    have hu := hu_of hr
    have nd := sc_walked.nd
    refine ⟨_, pss_cons (ps_set (i := 2) nd rfl (Or.inl rfl) (pe_disp (pps_cons (pv 1) (pe_tup (pa_cons (pe_un un_neg pe_int) (pa_cons pe_int pa_nil))) pps_nil) (by rfl) (by rfl) (fun z => by cases z) (by decide)))
      (pss_cons (ps_set (i := 3) nd rfl (Or.inl rfl) (pe_lst (pa_cons (pv 1) pa_nil)))
      (pss_cons (ps_while PassesOwn.never (pt_cmpR (op_neD hr.units) (pv 3) (pe_lst pa_nil) (nomark _))
        (pss_cons (ps_set (i := 4) nd rfl (Or.inl rfl) (pe_bm PySem.F.plainAttrs_list PySem.F.slot_list_pop PySem.F.type_list_pop mt_popAt (pv 3) (pa_cons pe_int pa_nil)))
        (pss_one (ps_for PassesOwn.never rfl (pi_list (pe_fld (pv 0) rfl)) (pg_tup rfl (pgs_cons (pg_name (i := 5) nd rfl (Or.inl rfl)) (pgs_cons (pg_name (i := 6) nd rfl (Or.inl rfl)) (pgs_cons (pg_name (i := 7) nd rfl (Or.inl rfl)) pgs_nil))))
          (pss_one (ps_if (PW.pt (pw_or (pt_cmpR op_eq (pv 4) (pv 5) (nomark _)) (pw_or1 (pt_cmpR op_eq (pv 4) (pv 6) (nomark _)))))
            (pss_cons (ps_set (i := 8) nd rfl (Or.inl rfl) (pe_op op_sub (pe_op op_add (pv 5) (pv 6)) (pv 4)))
            (pss_one (ps_if (pt_cmp (pc_dnotin hu (pv 8) (pv 2)))
              (pss_cons (ps_dput hu (pv 2) (pv 8) (pe_tup (pa_cons (pv 4) (pa_cons (pe_op op_add (pe_ix ix_tup (pe_dget hu (pv 2) (pv 4) (fun _ _ => rfl)) pe_int (fun _ _ => rfl)) (pv 7)) pa_nil))) rfl)
              (pss_one (ps_expr (pe_bm PySem.F.plainAttrs_list PySem.F.slot_list_append PySem.F.type_list_append mt_append (pv 3) (pa_cons (pv 8) pa_nil)))))
              pss_nil))) pss_nil))))))
      (pss_one (ps_ret (pv 2))))), ?_⟩
    -- found = {start: (-1, 0)}
    intro d hd
    refine ⟨_, rfl, _, rfl, (by show 2 ≤ sizeLine; decide), fun t0 ht0 => ?_⟩
    obtain ⟨dx, r, vsr, hI, hL, hR⟩ := hT
    have e1 : Same H (upd H d (.dK [])) := Same.new hd
    refine ⟨by rw [upd_ne (ne_of_none upd_same ht0)]; exact upd_same, [(.inl s, .ref t0)], rfl, (show 1 ≤ 15 by decide), ?_⟩
    have ed : upd (upd (upd H d (.dK [])) t0 (.tup [.int (-1), .int 0])) d (.dK (mergeK [] [(.inl s, .ref t0)])) d = some (.dK [(.inl s, .ref t0)]) := upd_same
    have htd : t0 ≠ d := fun q => by rw [q, upd_same] at ht0; cases ht0
    have et : upd (upd (upd H d (.dK [])) t0 (.tup [.int (-1), .int 0])) d (.dK (mergeK [] [(.inl s, .ref t0)])) t0 = some (.tup [.int (-1), .int 0]) := by
      rw [upd_ne htd]; exact upd_same
    have e3 : Same H (upd (upd (upd H d (.dK [])) t0 (.tup [.int (-1), .int 0])) d (.dK (mergeK [] [(.inl s, .ref t0)]))) := Same.mut (e1.trans (Same.new ht0)) hd
    generalize hH3 : upd (upd (upd H d (.dK [])) t0 (.tup [.int (-1), .int 0])) d (.dK (mergeK [] [(.inl s, .ref t0)])) = H3 at ed et e3 ⊢
    -- waiting = [start]
    refine ⟨_, rfl, (by show 1 ≤ sizeLine; decide), fun q hq => ?_⟩
    -- while waiting != []
    refine ⟨fun m σ H' => ∃ (fo : Found) (wl : List Int) (v4 v5 v6 v7 v8 : Option V), σ = [some (.ref t), some (.int s), some (.ref d), some (.ref q), v4, v5, v6, v7, v8] ∧ Same H H' ∧ FoundAt H' d fo ∧ H' q = some (.lst (wl.map V.int)) ∧
      Growth rs s fo ∧ (∀ x ∈ wl, x ∈ keys fo) ∧ bfsGo rs m fo wl = walked n rs s ∧ n + wl.length ≤ fo.length + m ∧ wl.length ≤ fo.length, ⟨n, [(s, (-1, 0))], [s], none, none, none, none, none, rfl, e3.trans (Same.new hq), ⟨_, keepN ed hq, .cons ⟨rfl, t0, rfl, keepN et hq⟩ .nil⟩, upd_same, .start, (fun x hx => by simpa [keys] using hx), rfl, by simp; omega, by simp⟩, ?_⟩
    have hqd : H q = none := e3.free hq
    rintro m σ H4 ⟨fo, wl, v4, v5, v6, v7, v8, rfl, s4, hF, hq4, gr, hw, hb, hm, hwf⟩
    refine ⟨_, rfl, Nat.zero_le _, fun p hp => ?_⟩
    refine ⟨_, _, dp_ilist (ns := wl) (keepN hq4 hp), dp_ilist (ns := []) upd_same, shaped_ints _, shaped_ints _, _, rfl, ?_⟩
    rw [eqv_il]
    have s5 : Same H4 (upd H4 p (.lst ([] : List V))) := Same.new hp
    replace hF := hF.same s5
    replace hq4 := s5 _ _ hq4
    replace s4 := s4.trans s5
    generalize upd H4 p (.lst ([] : List V)) = H5 at s4 hF hq4 ⊢
    clear s5 hp p
    cases wl with
    | nil =>
      refine iteF ?_
      refine ⟨_, rfl, ?_⟩
      refine k d H5 hd s4 ?_
      rw [← hb]
      cases m <;> exact hF
    | cons h wt =>
      refine iteT ?_
      have hm1 : 1 ≤ m := by
        have := gr.length_le ok ⟨hs0, hsn⟩
        simp at hm
        omega
      obtain ⟨m, rfl⟩ : ∃ m', m = m' + 1 := ⟨m - 1, by omega⟩
      refine ⟨fun σ' H' => ∃ m', m' < m + 1 ∧ ∃ (fo : Found) (wl : List Int) (v4 v5 v6 v7 v8 : Option V), σ' = [some (.ref t), some (.int s), some (.ref d), some (.ref q), v4, v5, v6, v7, v8] ∧ Same H H' ∧ FoundAt H' d fo ∧ H' q = some (.lst (wl.map V.int)) ∧
        Growth rs s fo ∧ (∀ x ∈ wl, x ∈ keys fo) ∧ bfsGo rs m' fo wl = walked n rs s ∧ n + wl.length ≤ fo.length + m' ∧ wl.length ≤ fo.length, fun _ _ z => z, ?_⟩
      -- here = waiting.pop(0)
      refine ⟨_, rfl, .inl ⟨rfl, _, SqL.of hq4⟩, q, _, 0, 0, .int h, rfl, rfl, hq4, by decide, by decide, ?_, rfl, ?_⟩
      · show seqIndex? 0 (List.map V.int (h :: wt)).length = some 0
        simp [seqIndex?]
      have hFq := hF.updL (ys := (List.map V.int (h :: wt)).eraseIdx 0) hq4
      have sq := Same.mut (o := .lst ((List.map V.int (h :: wt)).eraseIdx 0)) s4 hqd
      have hq6 : upd H5 q (.lst ((List.map V.int (h :: wt)).eraseIdx 0)) q = some (.lst (wt.map V.int)) := upd_same
      generalize upd H5 q (.lst ((List.map V.int (h :: wt)).eraseIdx 0)) = H6 at hFq sq hq6 ⊢
      clear hF hq4 s4
      have hh : h ∈ keys fo := hw h (List.mem_cons_self ..)
      -- for one, other, length in self.rows
      refine ⟨_, rfl, t, C, dx, _, _, rfl, sq _ _ hI, T.cl, T.nR, tfs_rows _ _, r, rfl, ⟨_, SqL.of (sq _ _ hL)⟩, for_list (K := K) (a := r) (xs := vsr) (fun i σ' H' => ∃ (f' : Found) (w' : List Int) (v5 v6 v7 v8 : Option V),
        σ' = [some (.ref t), some (.int s), some (.ref d), some (.ref q), some (.int h), v5, v6, v7, v8] ∧ Same H H' ∧ FoundAt H' d f' ∧ H' q = some (.lst (w'.map V.int)) ∧ Growth rs s f' ∧ h ∈ keys f' ∧ w'.length ≤ f'.length ∧ scan h (rs.drop i) f' w' = scan h rs fo wt)
        ⟨fo, wt, v5, v6, v7, v8, rfl, sq, hFq, hq6, gr, hh, by simp at hwf; omega, rfl⟩ (fun i σ' H' _ ⟨_, _, _, _, _, _, _, s', _⟩ => SqL.of (s' _ _ hL)) ?_ ?_⟩
      · rintro i x σ' H7 hx ⟨f', w', v5, v6, v7, v8, rfl, s7, hF7, hq7, gr7, hh7, hwf7, hsc⟩
        obtain ⟨rd, hrd, tt, rfl, htt⟩ := paired_get' hR hx
        have hdr : rs.drop i = rd :: rs.drop (i + 1) := by
          obtain ⟨hi, e⟩ := List.getElem?_eq_some_iff.mp hrd
          rw [List.drop_eq_getElem_cons hi, e]
        rw [hdr] at hsc
        refine ⟨tt, _, rfl, SqT.of (s7 _ _ htt), rfl, _, _, rfl, _, _, rfl, _, _, rfl, rfl, ?_⟩
        have gl := gr7.length_le ok ⟨hs0, hsn⟩
        obtain ⟨kvs, hk1, hk2⟩ := id hF7
        have hkl := flen hk2
        refine st_if (ans_or2 (val_eqi (x := h) (y := rd.a) (val_var rfl) (val_var rfl)) (val_eqi (x := h) (y := rd.b) (val_var rfl) (val_var rfl))) (fun c => ?_) (fun c => ?_)
        · have c' : h = rd.a ∨ h = rd.b := by simpa using c
          -- there = one + other - here
          refine ⟨_, rfl, _, rfl, _, _, rfl, rfl, _, rfl, _, _, rfl, rfl, ?_⟩
          -- if there not in found
          refine ⟨_, rfl, _, rfl, d, _, rfl, DGet.k (k := Sum.inl (rd.a + rd.b - h)) hk1, _, rfl, ?_⟩
          cases lk : f'.lookup (rd.a + rd.b - h) with
          | some pd =>
            obtain ⟨tv, hv, _⟩ := (found_val _ hk2).1 pd.1 pd.2 lk
            rw [hv]
            refine iteF ?_
            refine ⟨f', w', _, _, _, _, rfl, s7, hF7, hq7, gr7, hh7, hwf7, ?_⟩
            rw [← hsc, scan_cons, if_pos c', if_pos (by rw [lk]; rfl)]
          | none =>
            have hvn := (found_val (rd.a + rd.b - h) hk2).2 lk
            rw [hvn]
            refine iteT ?_
            obtain ⟨p0, d0, lh⟩ : ∃ p0 d0, f'.lookup h = some (p0, d0) := by
              cases e : f'.lookup h with
              | none => exact absurd hh7 (lookup_none_iff.mp e)
              | some x => exact ⟨x.1, x.2, rfl⟩
            obtain ⟨th, hvh, hth⟩ := (found_val _ hk2).1 _ _ lh
            have edh : dOf f' h = d0 := dOf_of lh
            have hg : DGet H7 d (kV (Sum.inl h)) (some (.ref th)) := by
              have := DGet.k (k := Sum.inl h) hk1
              rw [hvh] at this
              exact this
            -- found[there] = (here, found[here][1] + length)
            refine ⟨_, rfl, _, rfl, _, rfl, d, _, rfl, hg, th, _, 1, _, rfl, rfl, SqT.of hth, rfl, _, rfl, _, _, rfl, rfl, (by show 2 ≤ sizeLine; decide), fun tp htp => ?_⟩
            have s8 := s7.trans (Same.new (o := .tup [.int h, .int (d0 + rd.l)]) htp)
            have hk8 := FRel.same (fun a xs e => Same.new (o := .tup [.int h, .int (d0 + rd.l)]) htp a (.tup xs) e) hk2
            have hd8 := keepN (u := .tup [.int h, .int (d0 + rd.l)]) hk1 htp
            have hq8 := keepN (u := .tup [.int h, .int (d0 + rd.l)]) hq7 htp
            have ht8 : upd H7 tp (.tup [.int h, .int (d0 + rd.l)]) tp = some (.tup [.int h, .int (d0 + rd.l)]) := upd_same
            generalize upd H7 tp (.tup [.int h, .int (d0 + rd.l)]) = H8 at s8 hk8 hd8 hq8 ht8 ⊢
            refine ⟨_, rfl, _, rfl, d, _, rfl, DPut.k (k := Sum.inl (rd.a + rd.b - h)) hd8 (szl (by omega)), ?_⟩
            rw [putK_new _ hvn]
            have hd9 : upd H8 d (.dK (kvs ++ [(Sum.inl (rd.a + rd.b - h), .ref tp)])) d = some (.dK (kvs ++ [(Sum.inl (rd.a + rd.b - h), .ref tp)])) := upd_same
            have hq9 := keepU (u := .dK (kvs ++ [(Sum.inl (rd.a + rd.b - h), .ref tp)])) hq8 hd8 (by intro z; cases z)
            have s9 := Same.mut (o := .dK (kvs ++ [(Sum.inl (rd.a + rd.b - h), .ref tp)])) s8 hd
            have hk9 := FRel.same (fun a xs e => keepU (u := .dK (kvs ++ [(Sum.inl (rd.a + rd.b - h), .ref tp)])) (o := .tup xs) e hd8 (by intro z; cases z)) hk8
            have ht9 := keepU (u := .dK (kvs ++ [(Sum.inl (rd.a + rd.b - h), .ref tp)])) ht8 hd8 (by intro z; cases z)
            generalize upd H8 d (.dK (kvs ++ [(Sum.inl (rd.a + rd.b - h), .ref tp)])) = H9 at s9 hk9 hd9 hq9 ht9 ⊢
            have hF9 : FoundAt H9 d (f' ++ [(rd.a + rd.b - h, (h, dOf f' h + rd.l))]) := ⟨_, hd9, paired_snoc hk9 ⟨rfl, tp, rfl, by rw [edh]; exact ht9⟩⟩
            -- waiting.append(there)
            refine ⟨_, rfl, .inl ⟨rfl, _, SqL.of hq9⟩, _, rfl, q, _, _, rfl, rfl, hq9, (szl (by rw [List.length_map]; omega)), ?_⟩
            have ad : Adj rs h (rd.a + rd.b - h) rd.l := by
              refine ⟨rd, List.mem_of_getElem? hrd, rfl, ?_⟩
              rcases c' with c' | c'
              · exact .inl ⟨c'.symm, by omega⟩
              · exact .inr ⟨c'.symm, by omega⟩
            refine ⟨f' ++ [(rd.a + rd.b - h, (h, dOf f' h + rd.l))], w' ++ [rd.a + rd.b - h], _, _, _, _, rfl, Same.mut s9 hqd, hF9.updL hq9, ?_, .snoc gr7 hh7 ad (lookup_none_iff.mp lk), ?_, ?_, ?_⟩
            · rw [upd_same, List.map_append]; rfl
            · rw [keys_append]; exact List.mem_append_left _ hh7
            · simp; exact hwf7
            · rw [← hsc, scan_cons, if_pos c', if_neg (by rw [lk]; exact Bool.false_ne_true)]
        · have c' : ¬ (h = rd.a ∨ h = rd.b) := by simpa using c
          refine ⟨f', w', _, _, _, v8, rfl, s7, hF7, hq7, gr7, hh7, hwf7, ?_⟩
          rw [← hsc, scan_cons, if_neg c']
      · rintro σ' H7 ⟨f', w', v5, v6, v7, v8, rfl, s7, hF7, hq7, gr7, hh7, hwf7, hsc⟩
        rw [show vsr.length = rs.length from hR.length.symm, List.drop_length] at hsc
        obtain ⟨g1, ⟨more, m1, m2⟩, _⟩ := scan_spec (rs := rs) h rs fo wt (fun _ q => q) gr hh
        have e1 : f' = (scan h rs fo wt).1 := by rw [← hsc]; rfl
        have e2 : w' = (scan h rs fo wt).2 := by rw [← hsc]; rfl
        refine ⟨m, by omega, f', w', _, v5, v6, v7, v8, rfl, s7, hF7, hq7, gr7, ?_, ?_, ?_, ?_⟩
        · intro x hx
          rw [e2, m2] at hx
          rw [e1, m1, keys_append]
          rcases List.mem_append.mp hx with z | z
          · exact List.mem_append_left _ (hw x (List.mem_cons_of_mem _ z))
          · exact List.mem_append_right _ z
        · rw [e1, e2]; exact hb
        · rw [e1, e2, m1, m2]
          simp [keys] at hm ⊢
          omega
        · exact hwf7
end
end Wr

namespace Wr
open PySem L2
section
variable {P : Program} {w : World} {K : PySem.W.Frag} {mg : Str → Option Value} {base : Heap}

/-! ### is_road -/
def roadV (xs : List V) (n : Int) : Bool := match xs with
  | [x, y, z] => withinV z 1 1000000 && (withinV x 0 (n - 1) && (withinV y 0 (n - 1) && !decide (x = y)))
  | _ => false
/-- a thing of which it is known whether it is a road -/
def RoadArg (K : PySem.W.Frag) (H : Hp) (n : Int) (x : V) (r : Bool) : Prop :=
  (∃ t xs, x = .ref t ∧ H t = some (.tup xs) ∧ (∀ y ∈ xs, Plain K H y) ∧ r = roadV xs n) ∨ (∃ t, TyX K H x t ∧ PySem.W.kitOne K t (.type "tuple") = some false ∧ r = false)
def spRoad (K : PySem.W.Frag) : Sp := fun vs H Q _ => ∃ x n r, vs = [x, .int n] ∧ RoadArg K H n x r ∧ Q (.bl r) H
-- slots: 0:thing, 1:villages
theorem sc_is_road : FnScope ["thing", "villages"] ["thing", "villages"] (defScope S_is_road) := ⟨rfl, rfl, rfl, by decide +kernel, rfl, by decide +kernel, by decide +kernel⟩
theorem ok_is_road {f : Addr} {fd : FuncData} (F : Fun K "is_road" "is_road" S_is_road f fd) (B : Bi mg) (mL : ∃ t, mg "LONGEST" = some (.int 1000000 t)) (G_within : Gd P w K mg base 2 "within" ["number", "low", "high"] (spWithin K)) :
    FnOk P w K mg base CX0 3 f fd ["thing", "villages"] (spRoad K) := by
  obtain ⟨tL, m_LONGEST⟩ := mL
  refine F.ok sc_is_road (fun vs H Q E h => ?_) (fun cdv A outer s H vs Q E hr h => ?_)
  · obtain ⟨x, n, r, rfl, _⟩ := h
    rfl
  · obtain ⟨x, n, r, rfl, hR, k⟩ := h
    refine ⟨_, (pss_cons (ps_if (PW.pt (pw_or (pt_not (pt_val (pe_callB call_isi (by rfl) B.isinstance (by decide +kernel) (pa_cons (pv 0) (pa_cons (pe_bltn (v := .ty "tuple") (by rfl) B.tuple (by decide +kernel) rfl) pa_nil))))) (pw_or (pt_cmpR op_ne (pe_callB call_len_seq (by rfl) B.len (by decide +kernel) (pa_cons (pv 0) pa_nil)) pe_int (nomark _)) (pw_or1 (pt_not (pt_val (pe_g G_within hr rfl (pa_cons (pe_ix ix_tup (pv 0) pe_int (fun _ _ => rfl)) (pa_cons pe_int (pa_cons (pe_glob (v := .int 1000000) rfl m_LONGEST ⟨_, rfl⟩) pa_nil))))))))))
    (pss_one (ps_ret pe_bl)) pss_nil)
    (pss_one (ps_ret (pe_and (pe_g G_within hr rfl (pa_cons (pe_ix ix_tup (pv 0) pe_int (fun _ _ => rfl)) (pa_cons pe_int (pa_cons (pe_op op_sub (pv 1) pe_int) pa_nil)))) (pe_and (pe_g G_within hr rfl (pa_cons (pe_ix ix_tup (pv 0) pe_int (fun _ _ => rfl)) (pa_cons pe_int (pa_cons (pe_op op_sub (pv 1) pe_int) pa_nil)))) (pe_one (pe_cmpR op_ne (pe_ix ix_tup (pv 0) pe_int (fun _ _ => rfl)) (pe_ix ix_tup (pv 0) pe_int (fun _ _ => rfl)) (nomark _)))))))), ?_⟩
    rcases hR with ⟨t, xs, rfl, ht, hp, rfl⟩ | ⟨t, ty, kt, rfl⟩
    · refine ⟨_, rfl, .ref t, _, .type "tuple", _, true, rfl, .ty _, .base (.tup ht), kit_ty (by decide +kernel), true, rfl, ?_⟩
      refine iteF ?_
      refine ⟨_, rfl, t, xs, rfl, .inr (SqT.of ht), rfl, _, rfl, ?_⟩
      by_cases hl : xs.length = 3
      · obtain ⟨x, y, z, rfl⟩ : ∃ x y z, xs = [x, y, z] := by
          match xs, hl with
          | [u1, u2, u3], _ => exact ⟨u1, u2, u3, rfl⟩
        refine iteF ?_
        have px := hp x (by simp)
        have py := hp y (by simp)
        have pz := hp z (by simp)
        refine ⟨_, rfl, t, _, 2, z, rfl, rfl, SqT.of ht, rfl, z, 1, 1000000, rfl, pz, _, rfl, ?_⟩
        have k : Q (.bl (withinV z 1 1000000 && (withinV x 0 (n - 1) && (withinV y 0 (n - 1) && !decide (x = y))))) H := k
        cases e1 : withinV z 1 1000000 with
        | false =>
          refine iteT ?_
          rw [e1] at k
          exact k
        | true =>
          refine iteF ?_
          rw [e1] at k
          refine ⟨_, rfl, t, _, 0, x, rfl, rfl, SqT.of ht, rfl, _, rfl, _, _, rfl, rfl, x, 0, _, rfl, px, _, rfl, ?_⟩
          cases e2 : withinV x 0 (n - 1) with
          | false =>
            refine iteF ?_
            rw [e2] at k
            exact k
          | true =>
            refine iteT ?_
            rw [e2] at k
            refine ⟨_, rfl, t, _, 1, y, rfl, rfl, SqT.of ht, rfl, _, rfl, _, _, rfl, rfl, y, 0, _, rfl, py, _, rfl, ?_⟩
            cases e3 : withinV y 0 (n - 1) with
            | false =>
              refine iteF ?_
              rw [e3] at k
              exact k
            | true =>
              refine iteT ?_
              rw [e3] at k
              obtain ⟨i, rfl, _⟩ := withinV_int e2
              obtain ⟨j, rfl, _⟩ := withinV_int e3
              exact ⟨_, rfl, t, _, 0, _, rfl, rfl, SqT.of ht, rfl, _, rfl, t, _, 1, _, rfl, rfl, SqT.of ht, rfl, rfl, k⟩
      · have hd : decide (V.int ((xs.length : Nat) : Int) = V.int 3) = false := by
          rw [dec_int, beq_eq_false_iff_ne]
          omega
        rw [hd]
        refine iteT ?_
        refine iteT ?_
        have er : roadV xs n = false := by
          unfold roadV
          split
          · exact absurd rfl hl
          · rfl
        rw [er] at k
        exact k
    · refine ⟨_, rfl, x, _, t, _, false, rfl, .ty _, ty, kt, false, rfl, ?_⟩
      refine iteT ?_
      exact k
theorem roadArg_of {H : Hp} {n : Nat} {r : Road} {v : V} (h : RoadAt H r v) (o : 0 ≤ r.a ∧ r.a < n ∧ 0 ≤ r.b ∧ r.b < n ∧ r.a ≠ r.b ∧ 1 ≤ r.l ∧ r.l ≤ 1000000) : RoadArg K H n v true := by
  obtain ⟨t, rfl, ht⟩ := h
  refine .inl ⟨t, _, rfl, ht, ?_, ?_⟩
  · intro y hy
    simp only [List.mem_cons, List.not_mem_nil, or_false] at hy
    rcases hy with rfl | rfl | rfl <;> exact Plain.int _
  · show true = (withinV (.int r.l) 1 1000000 && (withinV (.int r.a) 0 ((n : Int) - 1) && (withinV (.int r.b) 0 ((n : Int) - 1) && !decide (V.int r.a = V.int r.b))))
    rw [withinV_of o.2.2.2.2.2.1 o.2.2.2.2.2.2, withinV_of o.1 (by omega), withinV_of o.2.2.1 (by omega)]
    have : ¬ (V.int r.a = V.int r.b) := fun q => o.2.2.2.2.1 (by injection q)
    simp [this]

/-! ### Tree -/
def spInit (C : Addr) : Sp := fun vs H Q _ => ∃ (p dx a : Addr) (n : Nat) (rs : List Road) (us : List V), vs = [.ref p, .int n, .ref a] ∧ H p = some (.ins C dx []) ∧ SqL K H a us ∧ H a = some (.lst us) ∧ RoadsAt H rs us ∧ IsTree n rs ∧
  ∀ H', (∀ b o, H b = some o → b ≠ p → H' b = some o) → TreeNew C H H' p n rs → Q .non H'
-- slots: 0:self, 1:villages, 2:roads, 3:road
theorem sc_Tree_init : FnScope ["self", "villages", "roads", "road"] ["self", "villages", "roads"] (defScope S_Tree_init) := ⟨rfl, rfl, rfl, by decide +kernel, rfl, by decide +kernel, by decide +kernel⟩
theorem ok_init {f C : Addr} {fd : FuncData} (F : Fun K "__init__" "Tree.__init__" S_Tree_init f fd) (T : Tx K mg C) (B : Bi mg) (mM : ∃ t, mg "MOST" = some (.int 12 t)) (G_within : Gd P w K mg base 2 "within" ["number", "low", "high"] (spWithin K))
    (G_is_road : Gd P w K mg base 3 "is_road" ["thing", "villages"] (spRoad K)) (GM_walked : Gm P w K mg base C 1 "walked" ["self", "start"] (spWalked C)) : FnOk P w K mg base CX0 4 f fd ["self", "villages", "roads"] (spInit (K := K) C) := by
  obtain ⟨tM, m_MOST⟩ := mM
  refine F.ok sc_Tree_init (fun vs H Q E h => ?_) (fun cdv A outer s H vs Q E hr h => ?_)
  · obtain ⟨p, dx, a, n, rs, us, rfl, _⟩ := h
    rfl
  · obtain ⟨p, dx, a, n, rs, us, rfl, hp, _, ha, hR, hT, k⟩ := h
    have hu := hu_of hr
    have nd := sc_Tree_init.nd
    have npa : p ≠ a := ne_of hp ha (by intro z; cases z)
    refine ⟨_, (pss_cons (ps_if (PW.pt (pw_or (pt_not (pt_val (pe_g G_within hr rfl (pa_cons (pv 1) (pa_cons pe_int (pa_cons (pe_glob (v := .int 12) rfl m_MOST ⟨_, rfl⟩) pa_nil)))))) (pw_or (pt_not (pt_val (pe_callB call_isi (by rfl) B.isinstance (by decide +kernel) (pa_cons (pv 2) (pa_cons (pe_bltn (v := .ty "list") (by rfl) B.list (by decide +kernel) rfl) pa_nil))))) (pw_or1 (pt_cmpR op_ne (pe_callB call_len_seq (by rfl) B.len (by decide +kernel) (pa_cons (pv 2) pa_nil)) (pe_op op_sub (pv 1) pe_int) (nomark _))))))
    (pss_one ps_never) pss_nil)
    (pss_cons (ps_for PassesOwn.never rfl (pi_list (pv 2)) (pg_name (i := 3) nd rfl (Or.inl rfl))
    (pss_one (ps_if (pt_not (pt_val (pe_g G_is_road hr rfl (pa_cons (pv 3) (pa_cons (pv 1) pa_nil)))))
    (pss_one ps_never) pss_nil)))
    (pss_cons (ps_fld (pv 0) (pv 1) rfl)
    (pss_cons (ps_fld (pv 0) (pe_callTy call_list_of (by rfl) B.list (by decide +kernel) (pa_cons (pv 2) pa_nil)) rfl)
    (pss_one (ps_if (pt_cmpR op_lt (pe_callB call_lenD (by rfl) B.len (by decide +kernel) (pa_cons (pe_gm (pv 0) T.cl GM_walked hr (pa_cons pe_int pa_nil)) pa_nil)) (pv 1) (nomark _))
    (pss_one ps_never) pss_nil)))))), ?_⟩
    have l1 := hT.pos
    have l2 := hT.le
    have l3 := hT.len
    have lu := hR.length
    refine ⟨_, rfl, .int n, 1, 12, rfl, Plain.int _, _, rfl, ?_⟩
    rw [withinV_of (by omega) (by omega)]
    refine iteF ?_
    refine ⟨_, rfl, .ref a, _, .type "list", _, true, rfl, .ty _, .base (.lst ha), kit_ty (by decide +kernel), true, rfl, ?_⟩
    refine iteF ?_
    refine ⟨_, rfl, a, _, rfl, .inl (SqL.of ha), _, rfl, _, _, rfl, rfl, rfl, _, rfl, ?_⟩
    have hd : (!decide (V.int ((us.length : Nat) : Int) = V.int ((n : Int) - 1))) = false := by
      rw [dec_int]
      have : ((us.length : Nat) : Int) = (n : Int) - 1 := by omega
      rw [this]; simp
    rw [hd]
    refine iteF ?_
    refine ⟨_, rfl, a, rfl, ⟨_, SqL.of ha⟩, for_list (K := K) (a := a) (xs := us) (fun i σ' H' => H' = H ∧ ∃ v, σ' = [some (.ref p), some (.int n), some (.ref a), v]) ⟨rfl, none, rfl⟩ (fun i σ' H' _ ⟨e, _⟩ => by rw [e]; exact SqL.of ha) ?_ ?_⟩
    · rintro i x σ' H' hx ⟨rfl, v, rfl⟩
      obtain ⟨rd, hrd, hr1⟩ := paired_get' hR hx
      refine ⟨_, rfl, _, rfl, _, n, true, rfl, roadArg_of hr1 (hT.ok rd (List.mem_of_getElem? hrd)), true, rfl, ?_⟩
      refine iteF ?_
      exact ⟨rfl, _, rfl⟩
    · rintro σ' H' ⟨rfl, v, rfl⟩
      refine ⟨_, rfl, _, rfl, p, C, dx, [], rfl, hp, T.cl, T.nS, (by show 0 < 1000; decide), ?_⟩
      have ha1 : upd H' p (.ins C dx (putF "size" (.int n) [])) a = some (.lst us) := keepU ha hp (by intro z; cases z)
      have hp1 : upd H' p (.ins C dx (putF "size" (.int n) [])) p = some (.ins C dx (putF "size" (.int n) [])) := upd_same
      have kp : ∀ b o, H' b = some o → b ≠ p → upd H' p (.ins C dx (putF "size" (.int n) [])) b = some o := fun b o e hb => by rw [upd_ne hb]; exact e
      generalize upd H' p (.ins C dx (putF "size" (.int n) [])) = H1 at ha1 hp1 kp ⊢
      refine ⟨_, rfl, a, us, rfl, .inl (SqL.of ha1), fun l hl => ?_⟩
      have npl : p ≠ l := ne_of_none hp1 hl
      refine ⟨_, rfl, p, C, dx, _, rfl, keepN hp1 hl, T.cl, T.nR, (by show 1 < 1000; decide), ?_⟩
      rw [tfs_put]
      have kp2 : ∀ b o, H' b = some o → b ≠ p → upd (upd H1 l (.lst us)) p (.ins C dx (tfs n l)) b = some o := fun b o e hb => by
        rw [upd_ne hb, upd_ne (ne_of_none (kp b o e hb) hl)]; exact kp b o e hb
      have hl0 : H' l = none := by
        cases e : H' l with
        | none => rfl
        | some o =>
          have := kp l o e (ne_of_none hp1 hl).symm
          rw [hl] at this; cases this
      have hTr : TreeNew C H' (upd (upd H1 l (.lst us)) p (.ins C dx (tfs n l))) p n rs := by
        refine ⟨dx, l, us, hl0, upd_same, by rw [upd_ne npl.symm]; exact upd_same, Paired.mapP hR fun r v ⟨t, e1, e2⟩ => ⟨t, e1, kp2 _ _ e2 (ne_of hp e2 (by intro z; cases z)).symm⟩⟩
      generalize upd (upd H1 l (.lst us)) p (.ins C dx (tfs n l)) = H2 at kp2 hTr ⊢
      obtain ⟨dx', r', vs', _, e1, _⟩ := id hTr
      refine ⟨_, rfl, p, dx', _, rfl, e1, tfs_no _ _ (by decide +kernel) (by decide +kernel), p, n, rs, 0, rfl, hTr.at, hT.toRoadsOk, l2, by omega, by omega, fun d H3 hd3 s3 hF => ?_⟩
      obtain ⟨kvs, hk1, hk2⟩ := hF
      refine ⟨d, _, rfl, hk1, _, rfl, _, _, rfl, rfl, _, rfl, ?_⟩
      have hlen : ¬ (((kvs.length : Nat) : Int) < n) := by
        have := flen hk2
        have := hT.len_walked (s := 0) ⟨by omega, by omega⟩
        omega
      rw [decide_eq_false hlen]
      refine iteF ?_
      exact k H3 (fun b o e hb => s3 b o (kp2 b o e hb)) (let ⟨dx, r, vs, e0, e1, e2, e3⟩ := hTr; ⟨dx, r, vs, e0, s3 _ _ e1, s3 _ _ e2, e3.same s3⟩)
end
end Wr

namespace Wr
open PySem L2
section
variable {P : Program} {w : World} {K : PySem.W.Frag} {mg : Str → Option Value} {base : Heap}
/-- what Tree(x, y) comes to: a tree, or none -/
inductive InitRes (K : PySem.W.Frag) (H : Hp) : V → V → Option (Nat × List Road) → Prop
  | good {a : Addr} {us : List V} {n : Nat} {rs : List Road} : H a = some (.lst us) → RoadsAt H rs us → IsTree n rs → InitRes K H (.int n) (.ref a) (some (n, rs))
  | num {x y : V} : Plain K H x → withinV x 1 12 = false → InitRes K H x y none
  | nolist {n : Nat} {y : V} {t : Value} : 1 ≤ n → n ≤ 12 → TyX K H y t → PySem.W.kitOne K t (.type "list") = some false → InitRes K H (.int n) y none
  | count {n : Nat} {a : Addr} {us : List V} : 1 ≤ n → n ≤ 12 → H a = some (.lst us) → us.length + 1 ≠ n → InitRes K H (.int n) (.ref a) none
  | road {n : Nat} {a : Addr} {us : List V} {bs : List Bool} : n ≤ 12 → H a = some (.lst us) → us.length + 1 = n → Paired (fun b u => RoadArg K H n u b) bs us → false ∈ bs → InitRes K H (.int n) (.ref a) none
  | round {n : Nat} {a : Addr} {us : List V} {rs : List Road} : n ≤ 12 → H a = some (.lst us) → us.length + 1 = n → RoadsAt H rs us → RoadsOk n rs → (walked n rs 0).length < n → InitRes K H (.int n) (.ref a) none
def spInitX (C CB : Addr) : Sp := fun vs H Q E => ∃ (p dx : Addr) (x y : V) (res : Option (Nat × List Road)), vs = [.ref p, x, y] ∧ H p = some (.ins C dx []) ∧ InitRes K H x y res ∧
  (∀ n rs, res = some (n, rs) → ∀ H', (∀ b o, H b = some o → b ≠ p → H' b = some o) → TreeNew C H H' p n rs → Q .non H') ∧
  (res = none → ∀ H', (∀ b o, H b = some o → b ≠ p → H' b = some o) → E (.ref CB) none H')

theorem paired_no {α β : Type} {F : α → β → Prop} {l : List α} {m : List β} (h : Paired F l m) {i : Nat} {y : β} (hy : m[i]? = some y) : ∃ x, l[i]? = some x ∧ F x y := paired_get' h hy
theorem ok_initX {f C CB : Addr} {fd : FuncData} (F : Fun K "__init__" "Tree.__init__" S_Tree_init f fd) (T : Tx K mg C) (B : Bi mg) (X_BadTree : Xc K mg "BadTree" CB) (mM : ∃ t, mg "MOST" = some (.int 12 t)) (G_within : Gd P w K mg base 2 "within" ["number", "low", "high"] (spWithin K))
    (G_is_road : Gd P w K mg base 3 "is_road" ["thing", "villages"] (spRoad K)) (GM_walked : Gm P w K mg base C 1 "walked" ["self", "start"] (spWalked C)) : FnOk P w K mg base (L2N.CX P w) 4 f fd ["self", "villages", "roads"] (spInitX (K := K) C CB) := by
  obtain ⟨tM, m_MOST⟩ := mM
  refine Fun.okN F sc_Tree_init (fun vs H Q E h => ?_) (fun cdv A outer s H vs Q E hr h => ?_)
  · obtain ⟨p, dx, x, y, res, rfl, _⟩ := h
    rfl
  · obtain ⟨p, dx, x, y, res, rfl, hp, hI, kq, ke⟩ := h
    have hu := hu_of hr
    have nd := sc_Tree_init.nd
    refine ⟨_, (pss_cons (ps_if (PW.pt (pw_or (pt_not (pt_val (pe_g G_within hr rfl (pa_cons (pv 1) (pa_cons pe_int (pa_cons (pe_glob (v := .int 12) rfl m_MOST ⟨_, rfl⟩) pa_nil)))))) (pw_or (pt_not (pt_val (pe_callB call_isi (by rfl) B.isinstance (by decide +kernel) (pa_cons (pv 2) (pa_cons (pe_bltn (v := .ty "list") (by rfl) B.list (by decide +kernel) rfl) pa_nil))))) (pw_or1 (pt_cmpR op_ne (pe_callB call_len_seq (by rfl) B.len (by decide +kernel) (pa_cons (pv 2) pa_nil)) (pe_op op_sub (pv 1) pe_int) (nomark _))))))
    (pss_one (L2N.ps_raise rfl (L2N.takes_of rfl rfl rfl rfl) (L2N.pmk_own PySem.F.excBase_ValueError X_BadTree.e X_BadTree.g X_BadTree.k (raises_own X_BadTree.b X_BadTree.t) rfl))) pss_nil)
    (pss_cons (ps_for (passes_of rfl) rfl (pi_list (pv 2)) (pg_name (i := 3) nd rfl (Or.inl rfl))
    (pss_one (ps_if (pt_not (pt_val (pe_g G_is_road hr rfl (pa_cons (pv 3) (pa_cons (pv 1) pa_nil)))))
    (pss_one (L2N.ps_raise rfl (L2N.takes_of rfl rfl rfl rfl) (L2N.pmk_own PySem.F.excBase_ValueError X_BadTree.e X_BadTree.g X_BadTree.k (raises_own X_BadTree.b X_BadTree.t) rfl))) pss_nil)))
    (pss_cons (ps_fld (pv 0) (pv 1) rfl)
    (pss_cons (ps_fld (pv 0) (pe_callTy call_list_of (by rfl) B.list (by decide +kernel) (pa_cons (pv 2) pa_nil)) rfl)
    (pss_one (ps_if (pt_cmpR op_lt (pe_callB call_lenD (by rfl) B.len (by decide +kernel) (pa_cons (pe_gm (pv 0) T.cl GM_walked hr (pa_cons pe_int pa_nil)) pa_nil)) (pv 1) (nomark _))
    (pss_one (L2N.ps_raise rfl (L2N.takes_of rfl rfl rfl rfl) (L2N.pmk_own PySem.F.excBase_ValueError X_BadTree.e X_BadTree.g X_BadTree.k (raises_own X_BadTree.b X_BadTree.t) rfl))) pss_nil)))))), ?_⟩
    have same : ∀ b o, H b = some o → b ≠ p → H b = some o := fun b o e _ => e
    cases hI with
    | num pl e =>
      refine ⟨_, rfl, x, 1, 12, rfl, pl, _, rfl, ?_⟩
      rw [e]
      refine iteT ?_
      refine iteT ?_
      exact ke rfl H same
    | @nolist n y t h1 h2 ty kt =>
      refine ⟨_, rfl, .int n, 1, 12, rfl, Plain.int _, _, rfl, ?_⟩
      rw [withinV_of (by omega) (by omega)]
      refine iteF ?_
      refine ⟨_, rfl, y, _, t, _, false, rfl, .ty _, ty, kt, false, rfl, ?_⟩
      refine iteT ?_
      refine iteT ?_
      exact ke rfl H same
    | @count n a us h1 h2 ha hn =>
      refine ⟨_, rfl, .int n, 1, 12, rfl, Plain.int _, _, rfl, ?_⟩
      rw [withinV_of (by omega) (by omega)]
      refine iteF ?_
      refine ⟨_, rfl, .ref a, _, .type "list", _, true, rfl, .ty _, .base (.lst ha), kit_ty (by decide +kernel), true, rfl, ?_⟩
      refine iteF ?_
      refine ⟨_, rfl, a, _, rfl, .inl (SqL.of ha), _, rfl, _, _, rfl, rfl, rfl, _, rfl, ?_⟩
      have hd : (!decide (V.int ((us.length : Nat) : Int) = V.int ((n : Int) - 1))) = true := by
        rw [dec_int]
        have : ((us.length : Nat) : Int) ≠ (n : Int) - 1 := by omega
        simp [this]
      rw [hd]
      refine iteT ?_
      exact ke rfl H same
    | @road n a us bs h2 ha lu hR hf =>
      have npa : p ≠ a := ne_of hp ha (by intro z; cases z)
      refine ⟨_, rfl, .int n, 1, 12, rfl, Plain.int _, _, rfl, ?_⟩
      rw [withinV_of (by omega) (by omega)]
      refine iteF ?_
      refine ⟨_, rfl, .ref a, _, .type "list", _, true, rfl, .ty _, .base (.lst ha), kit_ty (by decide +kernel), true, rfl, ?_⟩
      refine iteF ?_
      refine ⟨_, rfl, a, _, rfl, .inl (SqL.of ha), _, rfl, _, _, rfl, rfl, rfl, _, rfl, ?_⟩
      have hd : (!decide (V.int ((us.length : Nat) : Int) = V.int ((n : Int) - 1))) = false := by
        rw [dec_int]
        have : ((us.length : Nat) : Int) = (n : Int) - 1 := by omega
        rw [this]; simp
      rw [hd]
      refine iteF ?_
      refine ⟨_, rfl, a, rfl, ⟨_, SqL.of ha⟩, for_list (K := K) (a := a) (xs := us) (fun i σ' H' => H' = H ∧ (∀ j, j < i → bs[j]? = some true) ∧ ∃ v, σ' = [some (.ref p), some (.int n), some (.ref a), v]) ⟨rfl, fun j hj => absurd hj (by omega), none, rfl⟩ (fun i σ' H' _ ⟨e, _⟩ => by rw [e]; exact SqL.of ha) ?_ ?_⟩
      · rintro i x σ' H' hx ⟨rfl, hall, v, rfl⟩
        obtain ⟨b, hb, hr1⟩ := paired_get' hR hx
        refine ⟨_, rfl, _, rfl, _, n, b, rfl, hr1, b, rfl, ?_⟩
        cases b with
        | true =>
          refine iteF ?_
          refine ⟨rfl, fun j hj => ?_, _, rfl⟩
          by_cases e : j = i
          · subst e; exact hb
          · exact hall j (by omega)
        | false =>
          refine iteT ?_
          exact ke rfl H' same
      · rintro σ' H' ⟨rfl, hall, v, rfl⟩
        exfalso
        obtain ⟨i, hi, e⟩ := List.getElem_of_mem hf
        have hl := hR.length
        have := hall i (by omega)
        rw [List.getElem?_eq_getElem hi, e] at this
        cases this
    | @good a us n rs ha hR hT =>
      have npa : p ≠ a := ne_of hp ha (by intro z; cases z)
      have k := kq n rs rfl
      have l1 := hT.pos
      have l2 := hT.le
      have l3 := hT.len
      have lu := hR.length
      refine ⟨_, rfl, .int n, 1, 12, rfl, Plain.int _, _, rfl, ?_⟩
      rw [withinV_of (by omega) (by omega)]
      refine iteF ?_
      refine ⟨_, rfl, .ref a, _, .type "list", _, true, rfl, .ty _, .base (.lst ha), kit_ty (by decide +kernel), true, rfl, ?_⟩
      refine iteF ?_
      refine ⟨_, rfl, a, _, rfl, .inl (SqL.of ha), _, rfl, _, _, rfl, rfl, rfl, _, rfl, ?_⟩
      have hd : (!decide (V.int ((us.length : Nat) : Int) = V.int ((n : Int) - 1))) = false := by
        rw [dec_int]
        have : ((us.length : Nat) : Int) = (n : Int) - 1 := by omega
        rw [this]; simp
      rw [hd]
      refine iteF ?_
      refine ⟨_, rfl, a, rfl, ⟨_, SqL.of ha⟩, for_list (K := K) (a := a) (xs := us) (fun i σ' H' => H' = H ∧ ∃ v, σ' = [some (.ref p), some (.int n), some (.ref a), v]) ⟨rfl, none, rfl⟩ (fun i σ' H' _ ⟨e, _⟩ => by rw [e]; exact SqL.of ha) ?_ ?_⟩
      · rintro i x σ' H' hx ⟨rfl, v, rfl⟩
        obtain ⟨rd, hrd, hr1⟩ := paired_get' hR hx
        refine ⟨_, rfl, _, rfl, _, n, true, rfl, roadArg_of hr1 (hT.ok rd (List.mem_of_getElem? hrd)), true, rfl, ?_⟩
        refine iteF ?_
        exact ⟨rfl, _, rfl⟩
      · rintro σ' H' ⟨rfl, v, rfl⟩
        refine ⟨_, rfl, _, rfl, p, C, dx, [], rfl, hp, T.cl, T.nS, (by show 0 < 1000; decide), ?_⟩
        have ha1 : upd H' p (.ins C dx (putF "size" (.int n) [])) a = some (.lst us) := keepU ha hp (by intro z; cases z)
        have hp1 : upd H' p (.ins C dx (putF "size" (.int n) [])) p = some (.ins C dx (putF "size" (.int n) [])) := upd_same
        have kp : ∀ b o, H' b = some o → b ≠ p → upd H' p (.ins C dx (putF "size" (.int n) [])) b = some o := fun b o e hb => by rw [upd_ne hb]; exact e
        generalize upd H' p (.ins C dx (putF "size" (.int n) [])) = H1 at ha1 hp1 kp ⊢
        refine ⟨_, rfl, a, us, rfl, .inl (SqL.of ha1), fun l hl => ?_⟩
        have npl : p ≠ l := ne_of_none hp1 hl
        refine ⟨_, rfl, p, C, dx, _, rfl, keepN hp1 hl, T.cl, T.nR, (by show 1 < 1000; decide), ?_⟩
        rw [tfs_put]
        have kp2 : ∀ b o, H' b = some o → b ≠ p → upd (upd H1 l (.lst us)) p (.ins C dx (tfs n l)) b = some o := fun b o e hb => by
          rw [upd_ne hb, upd_ne (ne_of_none (kp b o e hb) hl)]; exact kp b o e hb
        have hl0 : H' l = none := by
          cases e : H' l with
          | none => rfl
          | some o =>
            have := kp l o e (ne_of_none hp1 hl).symm
            rw [hl] at this; cases this
        have hTr : TreeNew C H' (upd (upd H1 l (.lst us)) p (.ins C dx (tfs n l))) p n rs := by
          refine ⟨dx, l, us, hl0, upd_same, by rw [upd_ne npl.symm]; exact upd_same, Paired.mapP hR fun r v ⟨t, e1, e2⟩ => ⟨t, e1, kp2 _ _ e2 (ne_of hp e2 (by intro z; cases z)).symm⟩⟩
        generalize upd (upd H1 l (.lst us)) p (.ins C dx (tfs n l)) = H2 at kp2 hTr ⊢
        obtain ⟨dx', r', vs', _, e1, _⟩ := id hTr
        refine ⟨_, rfl, p, dx', _, rfl, e1, tfs_no _ _ (by decide +kernel) (by decide +kernel), p, n, rs, 0, rfl, hTr.at, hT.toRoadsOk, l2, by omega, by omega, fun d H3 hd3 s3 hF => ?_⟩
        obtain ⟨kvs, hk1, hk2⟩ := hF
        refine ⟨d, _, rfl, hk1, _, rfl, _, _, rfl, rfl, _, rfl, ?_⟩
        have hlen : ¬ (((kvs.length : Nat) : Int) < n) := by
          have := flen hk2
          have := hT.len_walked (s := 0) ⟨by omega, by omega⟩
          omega
        rw [decide_eq_false hlen]
        refine iteF ?_
        exact k H3 (fun b o e hb => s3 b o (kp2 b o e hb)) (let ⟨dx, r, vs, e0, e1, e2, e3⟩ := hTr; ⟨dx, r, vs, e0, s3 _ _ e1, s3 _ _ e2, e3.same s3⟩)
    | @round n a us rs l2 ha lu' hR hT hsh =>
      have npa : p ≠ a := ne_of hp ha (by intro z; cases z)
      have lu := hR.length
      refine ⟨_, rfl, .int n, 1, 12, rfl, Plain.int _, _, rfl, ?_⟩
      rw [withinV_of (by omega) (by omega)]
      refine iteF ?_
      refine ⟨_, rfl, .ref a, _, .type "list", _, true, rfl, .ty _, .base (.lst ha), kit_ty (by decide +kernel), true, rfl, ?_⟩
      refine iteF ?_
      refine ⟨_, rfl, a, _, rfl, .inl (SqL.of ha), _, rfl, _, _, rfl, rfl, rfl, _, rfl, ?_⟩
      have hd : (!decide (V.int ((us.length : Nat) : Int) = V.int ((n : Int) - 1))) = false := by
        rw [dec_int]
        have : ((us.length : Nat) : Int) = (n : Int) - 1 := by omega
        rw [this]; simp
      rw [hd]
      refine iteF ?_
      refine ⟨_, rfl, a, rfl, ⟨_, SqL.of ha⟩, for_list (K := K) (a := a) (xs := us) (fun i σ' H' => H' = H ∧ ∃ v, σ' = [some (.ref p), some (.int n), some (.ref a), v]) ⟨rfl, none, rfl⟩ (fun i σ' H' _ ⟨e, _⟩ => by rw [e]; exact SqL.of ha) ?_ ?_⟩
      · rintro i x σ' H' hx ⟨rfl, v, rfl⟩
        obtain ⟨rd, hrd, hr1⟩ := paired_get' hR hx
        refine ⟨_, rfl, _, rfl, _, n, true, rfl, roadArg_of hr1 (hT.ok rd (List.mem_of_getElem? hrd)), true, rfl, ?_⟩
        refine iteF ?_
        exact ⟨rfl, _, rfl⟩
      · rintro σ' H' ⟨rfl, v, rfl⟩
        refine ⟨_, rfl, _, rfl, p, C, dx, [], rfl, hp, T.cl, T.nS, (by show 0 < 1000; decide), ?_⟩
        have ha1 : upd H' p (.ins C dx (putF "size" (.int n) [])) a = some (.lst us) := keepU ha hp (by intro z; cases z)
        have hp1 : upd H' p (.ins C dx (putF "size" (.int n) [])) p = some (.ins C dx (putF "size" (.int n) [])) := upd_same
        have kp : ∀ b o, H' b = some o → b ≠ p → upd H' p (.ins C dx (putF "size" (.int n) [])) b = some o := fun b o e hb => by rw [upd_ne hb]; exact e
        generalize upd H' p (.ins C dx (putF "size" (.int n) [])) = H1 at ha1 hp1 kp ⊢
        refine ⟨_, rfl, a, us, rfl, .inl (SqL.of ha1), fun l hl => ?_⟩
        have npl : p ≠ l := ne_of_none hp1 hl
        refine ⟨_, rfl, p, C, dx, _, rfl, keepN hp1 hl, T.cl, T.nR, (by show 1 < 1000; decide), ?_⟩
        rw [tfs_put]
        have kp2 : ∀ b o, H' b = some o → b ≠ p → upd (upd H1 l (.lst us)) p (.ins C dx (tfs n l)) b = some o := fun b o e hb => by
          rw [upd_ne hb, upd_ne (ne_of_none (kp b o e hb) hl)]; exact kp b o e hb
        have hl0 : H' l = none := by
          cases e : H' l with
          | none => rfl
          | some o =>
            have := kp l o e (ne_of_none hp1 hl).symm
            rw [hl] at this; cases this
        have hTr : TreeNew C H' (upd (upd H1 l (.lst us)) p (.ins C dx (tfs n l))) p n rs := by
          refine ⟨dx, l, us, hl0, upd_same, by rw [upd_ne npl.symm]; exact upd_same, Paired.mapP hR fun r v ⟨t, e1, e2⟩ => ⟨t, e1, kp2 _ _ e2 (ne_of hp e2 (by intro z; cases z)).symm⟩⟩
        generalize upd (upd H1 l (.lst us)) p (.ins C dx (tfs n l)) = H2 at kp2 hTr ⊢
        obtain ⟨dx', r', vs', _, e1, _⟩ := id hTr
        refine ⟨_, rfl, p, dx', _, rfl, e1, tfs_no _ _ (by decide +kernel) (by decide +kernel), p, n, rs, 0, rfl, hTr.at, hT, l2, by omega, by omega, fun d H3 hd3 s3 hF => ?_⟩
        obtain ⟨kvs, hk1, hk2⟩ := hF
        refine ⟨d, _, rfl, hk1, _, rfl, _, _, rfl, rfl, _, rfl, ?_⟩
        have hlen : (((kvs.length : Nat) : Int) < n) := by
          have := flen hk2
          omega
        rw [decide_eq_true hlen]
        refine iteT ?_
        exact ke rfl H3 (fun b o e hb => s3 b o (kp2 b o e hb))
end
end Wr

namespace Wr
open PySem PySem.Spec PyProof.Rows L2
/-! ### exceptions of which it is known what their context is: none, or one whose own context is none -/
def CtxIs (c : Value) (o : Obj) : Prop := ∀ vs : Array Value, o.data = .fields vs → vs[2]? = some c
theorem CtxIs.set1 {c v : Value} {o : Obj} (h : CtxIs c o) : CtxIs c (o.mapFields (·.setIfInBounds 1 v)) := by
  obtain ⟨oc, od, dt, sl⟩ := o
  cases dt with
  | fields fs =>
    intro vs e
    have e := Data.fields.inj e
    subst e
    rw [Array.getElem?_setIfInBounds_ne (by decide)]
    exact h fs rfl
  | _ => intro vs e; exact Data.noConfusion e
def Zq (cls : Value) (d : Option Addr) (c : Value) (o : Obj) : Prop := Zc cls d o ∧ CtxIs c o
theorem Zq.steady {cls : Value} {d : Option Addr} {c : Value} : PXN.Steady1 (Zq cls d c) := fun o v h => ⟨⟨(Obj.cls_mapFields ..).trans h.1.1, (HandSPX.dict_mapFields ..).trans h.1.2⟩, h.2.set1⟩
theorem Zq.of_n {cls : Value} {d : Option Addr} {o : Obj} (h : L2N.Zn cls d o) : Zq cls d .none o := ⟨h.zc, h.2.2⟩
/-- the context c stands on the ground B -/
def Ch (B : Heap) (H : Hp) (c : Value) : Prop := c = .none ∨ ∃ b ob vs, c = .ref b ∧ B.get? b = some ob ∧ ob.data = .fields vs ∧ vs[2]? = some .none ∧ H b = none
def XEq (X : Cx) (W : WX) (u : Value) (s' : Shared) : Prop := ∃ (a : Addr) (B : Heap) (sI : Shared) (pins : List (Addr × Obj)) (σ : L2.St) (H : Hp) (cls : Value) (d : Option Addr) (c : Value), u = .ref a ∧ Inv X pins σ H sI ∧
  (∀ b o, sI.heap.get? b = some o → b ∉ frs X.stack → B.get? b = some o) ∧ sI.heap.UpToSlots s'.heap ∧ Sky B X.stack a (Zq cls d c) X.env.locals s'.heap ∧ H a = none ∧ s'.os = sI.os ∧ AllBare s'.gens ∧ Ch B H c ∧ W cls d σ H
def Takesq (X : Cx) (W : WX) : Prop := ∀ u s', XEq X W u s' → X.xe u s'
def CXq (P : Program) (w : World) (outer : List Env) (H : Hp) (s : Shared) (E : XK) (u : Value) (s' : Shared) : Prop :=
  ∃ (a : Addr) (B : Heap) (H' : Hp) (cls : Value) (d : Option Addr) (c : Value), u = .ref a ∧ HandSPX.FlyingZ B outer a (Zq cls d c) s'.heap ∧ HOk P w H' B ∧ UB (frs outer) H H' s.heap B s'.heap ∧ H' a = none ∧ s'.os = s.os ∧ AllBare s'.gens ∧ Ch B H' c ∧ E cls d H'
section
variable {X : Cx} {pins : List (Addr × Obj)} {σ : L2.St} {H H' : Hp} {s sI s' : Shared} {B : Heap} {W : WX} {E : XK}
/-- the state behind a call that let an exception out, without it -/
theorem ground_inv (I : Inv X pins σ H s) (keep : B.StaysIn s'.heap) (hok : HOk X.prog X.w H' B) (ub : UB (frs X.stack) H H' s.heap B s'.heap) (os : s'.os = s.os) (ag : AllBare s'.gens) :
    ∃ G : Heap, Inv X pins σ H' { s' with heap := G } ∧ ∀ b o, G.get? b = some o → s'.heap.get? b = some o ∧ (b ∉ frs X.stack → B.get? b = some o) := by
  obtain ⟨G, g1, g2⟩ := restrict s'.heap (fun y => (B.get? y).isSome || decide (y ∈ frs X.stack))
  have inB : ∀ b o, B.get? b = some o → G.get? b = some o := fun b o e => (g1 b (by rw [e]; rfl)).trans (keep b o e)
  have inF : ∀ b, b ∈ frs X.stack → G.get? b = s'.heap.get? b := fun b hb => g1 b (by simp [hb])
  refine ⟨G, Inv.call' (s' := { s' with heap := G }) (ch := []) I os ⟨fun b o e n hf _ => inB b o (ub.keep b o e n hf), fun b o e n hf _ => ?_, fun b o e n _ => ub.free b o e n, fun b o e _ => ?_, ub.tups, ub.frzs, ub.tbls⟩ (hok.kept inB) ag (fun b z => nomatch z), fun b o e => ?_⟩
  · obtain ⟨sl, q⟩ := ub.slot b o e hf
    exact ⟨sl, (inF b hf).trans q⟩
  · by_cases hf : b ∈ frs X.stack
    · obtain ⟨sl, q⟩ := ub.slot b o e hf
      exact ⟨_, (inF b hf).trans q⟩
    · obtain ⟨o2, q⟩ := ub.there b o e hf
      exact ⟨o2, inB b o2 q⟩
  · cases q : ((B.get? b).isSome || decide (b ∈ frs X.stack)) with
    | false =>
      have z := g2 b q
      rw [e] at z
      cases z
    | true =>
      have e' : s'.heap.get? b = some o := (g1 b q).symm.trans e
      refine ⟨e', fun hb => ?_⟩
      rcases Bool.or_eq_true_iff.mp q with q | q
      · obtain ⟨o2, h2⟩ := Option.isSome_iff_exists.mp q
        have z := keep b o2 h2
        rw [e'] at z
        cases z
        exact h2
      · exact absurd (of_decide_eq_true q) hb
theorem XEq.of_call {u : Value} (I : Inv X pins σ H s) (hW : ∀ cls d H', E cls d H' → W cls d σ H') (q : CXq X.prog X.w X.stack H s E u s') : XEq X W u s' := by
  obtain ⟨a, B, H', cls, d, c, rfl, fly, hok, ub, na, os, ag, ch, hE⟩ := q
  obtain ⟨G, J, og⟩ := ground_inv I fly.1 hok ub os ag
  exact ⟨a, B, _, pins, σ, H', cls, d, c, rfl, J, fun b o e => (og b o e).2, Heap.UpToSlots.of_keeps fun b o e => (og b o e).1, .inr (.inl fly), na, rfl, ag, ch, hW _ _ _ hE⟩
theorem passAtq (tk : Takesq X W) (σ : L2.St) : PassesAt (CXq X.prog X.w) X σ (WE W σ) := fun _ _ _ e s' I q => tk e s' (XEq.of_call I (fun _ _ _ h => h) q)
/-- a new one -/
theorem XEq.new {a : Addr} {oe : Obj} {vs : Array Value} {cls c : Value} {d : Option Addr} (I : Inv X pins σ H sI) (k : ∀ b o, sI.heap.get? b = some o → s'.heap.get? b = some o) (hne : sI.heap.get? a = none) (he : s'.heap.get? a = some oe) (hz : Zq cls d c oe) (hd : oe.data = .fields vs) (h1 : vs[1]? = some .none)
    (na : H a = none) (os : s'.os = sI.os) (ag : AllBare s'.gens) (ch : Ch sI.heap H c) (nfr : ∀ b, c = .ref b → b ∉ frs X.stack) (w : W cls d σ H) : XEq X W (.ref a) s' := by
  have none_a : (PySem.W.hideAll sI.heap (frs X.stack)).get? a = none := by
    cases q : (PySem.W.hideAll sI.heap (frs X.stack)).get? a with
    | none => rfl
    | some o =>
      exact nomatch hne.symm.trans (PySem.W.of_hideAll _ q)
  have fresh : Sky (PySem.W.hideAll sI.heap (frs X.stack)) X.stack a (Zq cls d c) X.env.locals s'.heap := .inl ⟨fun b o e => k b o (PySem.W.of_hideAll _ e), none_a, Heap.FunFrames.of_keeps (fun b o e _ => ⟨o, k b o e, rfl⟩) (funFrames_none I.stack fun b hb => PySem.W.hideAll_none _ hb), oe, vs, he, hz, hd, h1⟩
  refine ⟨a, _, sI, pins, σ, H, cls, d, c, rfl, I, fun b o e hb => PySem.W.hideAll_get _ e hb, Heap.UpToSlots.of_keeps k, fresh, na, os, ag, ?_, w⟩
  rcases ch with rfl | ⟨b, ob, vb, rfl, e1, e2, e3, e4⟩
  · exact .inl rfl
  · exact .inr ⟨b, ob, vb, rfl, PySem.W.hideAll_get _ e1 (nfr b rfl), e2, e3, e4⟩
/-- it leaves the def -/
theorem XEq.leave {u : Value} {E₁ : Value → Shared → Prop} (hs : X.stack = X.env :: X.outer) (hf : X.env.frame = some X.env.locals) (hex : X.ex = []) (hW : ∀ cls d σ H, W cls d σ H → E cls d H) (x : XEq X W u s') :
    wpAny (model X.prog X.w) X.A (leaving X.env u) (fun _ s2 => CXq X.prog X.w X.outer X.H_0 X.s_0 E u s2) E₁ s' := by
  obtain ⟨a, B, sI, pins, σ, H, cls, d, c, rfl, I, nb, up, sky, na, os, ag, ch, w⟩ := x
  have frames : X.A.frames = some (X.env :: X.outer) := I.ok.frames.trans (congrArg some hs)
  have noex : ∀ b, b ∉ X.ex := fun b hb => by rw [hex] at hb; cases hb
  have older : ∀ b o, X.s_0.heap.get? b = some o → b ∉ X.fs → b ∉ frs X.stack := fun b o e hb hm => by
    refine (List.mem_cons.mp (I.stkSub b hm)).elim (fun z => ?_) hb
    exact absurd (Nat.lt_of_lt_of_le (z ▸ Heap.lt_size e) I.ok.above) (Nat.lt_irrefl _)
  have told : ∀ h2, HandSPX.FlyingZ B X.outer a (Zq cls d c) h2 → s'.heap.UpToSlots h2 → CXq X.prog X.w X.outer X.H_0 X.s_0 E (.ref a) { s' with heap := h2 } := fun h2 fly up2 => by
    refine ⟨a, B, H, cls, d, c, rfl, fly, I.inGround nb, ⟨fun b o e n hb => nb b o (I.base.keep b o e n hb (noex b)) (older b o e hb), fun b o e hb => ?_, fun b o e n => I.base.free b o e n (noex b), fun b o e hb => ?_, I.base.tups, I.base.frzs, I.base.tbls⟩, na, os.trans I.os, ag, ch, hW _ _ _ _ w⟩
    · obtain ⟨_, o', e', hnf⟩ := I.ok.funs.mem hb
      rw [e] at e'
      cases e'
      obtain ⟨s1, e1⟩ := I.base.slot b o e (I.ok.frf b hb) hb (noex b)
      obtain ⟨s2, e2⟩ := up b _ e1 hnf
      obtain ⟨s3, e3⟩ := up2 b _ e2 hnf
      exact ⟨s3, e3⟩
    · obtain ⟨o', e1⟩ := I.base.there b o e (noex b)
      exact ⟨o', nb b o' e1 (older b o e hb)⟩
  rw [hs] at sky
  rcases sky with ⟨hB, hn, hl, oe, vs, he, hz, hd, h1⟩ | fly | held
  · exact PXN.leaving_firstZ Zq.steady frames hl hf he hB hn hd h1 hz told
  · exact PXN.leaves_onZ Zq.steady frames hf fly told
  · exact HandSPX.leaves_heldZ hf held told
theorem takesq_of (hs : X.stack = X.env :: X.outer) (hf : X.env.frame = some X.env.locals) (hex : X.ex = []) {E₁ : Value → Shared → Prop}
    (hx : X.xe = fun e s' => wpAny (model X.prog X.w) X.A (leaving X.env e) (fun _ s2 => CXq X.prog X.w X.outer X.H_0 X.s_0 E e s2) E₁ s') : Takesq X (fun cls d _ H => E cls d H) := fun u s' x => by
  rw [hx]
  exact XEq.leave (W := fun cls d _ H => E cls d H) (E := E) hs hf hex (fun _ _ _ _ h => h) x
end
end Wr

namespace Wr
open PySem PySem.Spec PyProof.Rows L2
/-! ### raising -/
section
variable {X : Cx} {W : WX} {e : Expr} {t : L2.St → Hp → XK → Prop} {pos : Pos}
theorem ps_raiseQ (hc : X.calm = true) (tk : Takesq X W) (he : L2N.PMk X e t) : PS X (.Raise (some e) none pos) (fun _ σ H => t σ H fun cls d H' => W cls d σ H') := by
  refine ⟨fun pins s σ H D I h => ?_⟩
  change wpAny _ _ (standAt pos >>= fun _ => raiseStmt X.env (some (eval e X.env >>= fun v => standAt pos >>= fun _ => pure v)) none) _ _ _
  refine wpAny_bind (wpAny_standAt (raise_made (I.ok.hd hc) (wpAny_bind (thn (he pins s σ H _ I h) fun u s1 made => wpAny_bind (wpAny_standAt (wpAny_pure ?_))))))
  obtain ⟨a, oe, vs, sI, H1, cls, d, rfl, J, keep, new, there, hz, data, v1, na, os, ag, ra, w⟩ := made
  have kin : X.K.In s1.heap := J.kIn.keeps keep
  exact ⟨a, oe, vs, cls, rfl, there, hz.1, data, v1, (ra _ _ kin).1, (ra _ _ kin).2, tk _ _ (XEq.new J keep new there (Zq.of_n hz) data v1 na os ag (.inl rfl) (fun b z => nomatch z) w)⟩
theorem ps_raiseQH (hc : L2H.HotC X) (tk : Takesq X W) (he : L2N.PMk X e t) : PS X (.Raise (some e) none pos) (fun _ σ H => t σ H fun cls d H' => W cls d σ H') := by
  refine ⟨fun pins s σ H D I h => ?_⟩
  obtain ⟨p, ⟨handled, pv, pdata, pctx⟩, hp⟩ := hc
  change wpAny _ _ (standAt pos >>= fun _ => raiseStmt X.env (some (eval e X.env >>= fun v => standAt pos >>= fun _ => pure v)) none) _ _ _
  refine wpAny_bind (wpAny_standAt (HotX.raise_made_hot (x1 := p.1) (wpAny_bind (thn (he pins s σ H _ I h) fun u s1 made => wpAny_bind (wpAny_standAt (wpAny_pure ?_))))))
  obtain ⟨a, oe, vs, sI, H1, cls, d, rfl, J, keep, new, there, hz, data, v1, na, os, ag, ra, w⟩ := made
  have kin : X.K.In s1.heap := J.kIn.keeps keep
  have pin := J.pin p (List.mem_append_left _ hp)
  have pa : p.1 ≠ a := fun z => by
    have q := pin.1
    rw [z, new] at q
    cases q
  have size2 : 2 < vs.size := (Array.getElem?_eq_some_iff.mp (hz.2.2 vs data)).1
  refine ⟨a, oe, vs, cls, rfl, there, hz.1, data, v1, size2, pa, ⟨handled, p.2, pv, keep _ _ pin.1, pdata, pctx⟩, (ra _ _ kin).1, (ra _ _ kin).2, tk _ _ ?_⟩
  have data2 : (oe.mapFields (·.setIfInBounds 2 (.ref p.1))).data = .fields (vs.setIfInBounds 2 (.ref p.1)) := Obj.data_mapFields data _
  refine XEq.new (c := .ref p.1) J (fun b u z => ?_) new (Heap.get?_update_self _ there (Obj.isFreed_of_fields data2)) ⟨⟨(Obj.cls_mapFields ..).trans hz.1, (HandSPX.dict_mapFields ..).trans hz.2.1⟩, fun ws q => ?_⟩ data2 ?_ na os ag (.inr ⟨p.1, p.2, pv, rfl, pin.1, pdata, pctx, pin.2.1⟩) (fun b z => ?_) w
  · have ab : a ≠ b := fun y => by
      subst y
      rw [new] at z
      cases z
    exact (Heap.get?_update_other _ _ ab).trans (keep b u z)
  · have q2 := Data.fields.inj (data2.symm.trans q)
    subst q2
    exact Array.getElem?_setIfInBounds_self_of_lt size2
  · rw [Array.getElem?_setIfInBounds_ne (by decide)]
    exact v1
  · cases z
    exact fun m => (List.mem_cons.mp (J.stkSub _ m)).elim pin.2.2.1 pin.2.2.2.1
end
section
variable {X : Cx} {e : Expr} {es : List Expr} {ta : TA} {p pos : Pos}
/-- C(e, ..) where nothing is handled, C's own __init__ keeping sp: its context is none -/
theorem pmkN_oex {x : Str} {C fI : Addr} {k : Nat} {fd : FuncData} {ps : List Str} {sp : Sp} (T : OexC X.K C) (iC : PySem.W.findIn X.K (.ref C) "__init__" = some (some (.ref fI))) (tI : PySem.W.typeIn X.K (.ref fI) = some (.type "function")) (F1 : FnOk X.prog X.w X.K X.mg X.base CX0 k fI fd ps sp) (hr : Room (k + 1) X.A) (hb : Binds X.K fd ps [])
    (hg : Gl X x) (hm : X.mg x = some (.ref C)) (ha : PA X (e :: es) ta) (hdb : (x == ("__debug__" : Str)) = false := by decide) (hst : starEach (e :: es) X.env = (false, eval e X.env) :: starEach es X.env := by rfl) (hpl : (backTo pos (starEach es X.env)).any (·.1) = false := by rfl) : L2N.PMk X (.Call (.Name x p) (e :: es) [] pos) (tMkO C sp [] ta) := by
  intro pins s σ H Q I h
  obtain ⟨nm, qn, N, bs, bm, sn, sub, ab, col, dd, k0, k1, k2, k3, k5, atC, bases⟩ := T.cls
  refine wpAny_Call_Name_kw (ld_glob I hg hm (PySem.W.callWith_K (h₀ := X.base) I.ok.mod.kin T.kC (thn (ha.run pos pins s σ H _ I h) fun us s1 ⟨vs, H1, I1, rel, few, asked⟩ => ⟨I1.kIn, ?_⟩) hst hpl) hdb)
  obtain ⟨h0, g0, d0, t0, o0⟩ := s1
  have above : h0.objs.size ≤ h0.objs.size + 1 := Nat.le_succ _
  have none1 : H1 (h0.objs.size + 1) = none := I1.hok.fresh above
  have want := asked (h0.objs.size + 1) none1
  rw [List.append_nil] at want
  have keep : ∀ b o, h0.get? b = some o → ((h0.push (PySem.W.kdv_tup us)).push (PySem.HandSPX.excO C h0.objs.size)).get? b = some o := fun b o z => Heap.get?_push_of_some _ (Heap.get?_push_of_some _ z)
  have made : ((h0.push (PySem.W.kdv_tup us)).push (PySem.HandSPX.excO C h0.objs.size)).get? (h0.objs.size + 1) = some (PySem.HandSPX.excO C h0.objs.size) := by heap_get
  have I2 : Inv X pins σ (upd H1 (h0.objs.size + 1) (exo (h0.objs.size + 1) C none)) ⟨(h0.push (PySem.W.kdv_tup us)).push (PySem.HandSPX.excO C h0.objs.size), g0, d0, t0, o0⟩ := I1.laid (t' := t0) keep above (exo_ok made)
  have rel2 : Vals (V.ref (h0.objs.size + 1) :: vs) (Value.ref (h0.objs.size + 1) :: us) := .cons rfl rel
  have len2 : (Value.ref (h0.objs.size + 1) :: us ++ []).length = ps.length := by
    rw [List.append_nil]
    exact rel2.length.symm.trans (F1.len _ _ _ _ want)
  have small : us.length ≤ sizeLine := by
    rw [← rel.length, sizeLine_eq]
    omega
  have binds := hb _ (Value.ref (h0.objs.size + 1) :: us) I2.kIn len2
  rw [List.append_nil] at binds
  have told := F1.run _ X.stack _ _ ⟨Value.ref (h0.objs.size + 1) :: us, []⟩ (Value.ref (h0.objs.size + 1) :: us) _ _ (fun _ _ _ => False) (hr.make C us []) (I2.env0.make C us []) binds rel2 want
  refine wpAny_call (PySem.HandSPX.call_own F.excBase_ValueError (fun Y => PySem.HandSPX.refsVE_contains Y bm bases) (I1.kIn _ _ atC) (PySem.W.looks_findIn I1.kIn iC) (fun self => PySem.W.bind_fn I1.kIn self tI) small (codeAny_mono told fun r s2 landed => ?_))
  cases r with
  | error _ => exact False.elim landed
  | ok fl =>
    cases fl with
    | ret u =>
      obtain ⟨v, H2, os2, bare2, un2, hok2, rv, ev, d, fs, ea, ed, hd1, q2⟩ := landed
      subst ev
      obtain ⟨h2, g2, d2, t2, o2⟩ := s2
      obtain ⟨tb, G, J, kG, ge, hoe, na⟩ := mk_end0 (d2 := d2) (t2 := t2) I1 above keep un2 hok2 os2 bare2 ea ed hd1
      exact ⟨rv, h0.objs.size + 1, _, _, ⟨G, g2, d2, t2, o2⟩, _, .ref C, some d, rfl, J, kG, ge, hoe, ⟨rfl, rfl, fun ws hv => (by cases hv; rfl)⟩, rfl, rfl, na, rfl, bare2, raises_own T.exC T.tyC, q2⟩
    | next => exact landed.elim
    | brk => exact landed.elim
    | cont => exact landed.elim
/-- R.__init__(self, ..), R an own class without an __init__ of its own over ValueError -/
theorem pe_rinit {pl : Sem Bool} {x : Str} {R : Addr} {mc : Value} {p1 p2 : Pos} (hg : Gl X x) (hm : X.mg x = some (.ref R)) (sp : PySem.W.specialIn X.K (.ref R) "__getattribute__" = some (some (.builtin "type.__getattribute__"))) (rd : PySem.W.readsIn X.K R mc = true) (fc : PySem.W.findCls X.K (.ref R) mc "__init__" = some (.val (.builtin "ValueError.__init__")))
    (ha : PA X (e :: es) ta) (hdb : (x == ("__debug__" : Str)) = false := by decide)
    (hc : eval (.Call (.Attribute (.Name x p1) "__init__" p2) (e :: es) [] pos) X.env = (do let ov ← eval (.Name x p1) X.env; standAt p2.atName; let z ← holding [ov] (getMethod ov "__init__" pl); callWith pos z.1 z.2 (backTo pos (starEach (e :: es) X.env)) (backToKw pos (keywordEach [] X.env))) := by rfl)
    (hst : starEach (e :: es) X.env = (false, eval e X.env) :: starEach es X.env := by rfl) (hpl : (backTo pos (starEach es X.env)).any (·.1) = false := by rfl) : PE X (.Call (.Attribute (.Name x p1) "__init__" p2) (e :: es) [] pos) (tVeI X.K ta) := by
  refine ⟨fun pins s σ H Q I h => PySem.W.methodCall_KW (ld_glob I hg hm (PySem.W.method_cls I.kIn sp (PySem.W.cls_value I.kIn rd fc (by decide +kernel) ?_)) hdb) hc⟩
  change wpAny _ X.A (callWith pos (.builtin "ValueError.__init__") [] (backTo pos (starEach (e :: es) X.env)) []) _ X.xe _
  refine PyProof.Rows.callWith_method1 (thn (ha.run pos pins _ σ H _ (I.tok _) h) fun us s1 ⟨vs, H1, I1, rel, a, C, ws, ev, few, T, ea, q⟩ => ?_) hst hpl
  subst ev
  cases rel with
  | cons ra rw' =>
    cases ra
    have small : _ ≤ sizeLine := (show _ ≤ sizeLine from Nat.le_trans (Nat.le_of_eq rw'.length.symm) (szle few))
    exact oinit_ok T I1 ea small fun s2 J => ⟨.non, H1, J, rfl, q⟩
end
end Wr

namespace Wr
open PySem PySem.Spec PyProof.Rows L2
/-! ### try -/
/-- what a clause catches, all of it -/
def wCatch (K : PySem.W.Frag) (c : Value) (ts : Addr → Value → Option Addr → TS) (D : Ends) : WX := fun cls d σ H => PySem.W.exmOne K cls c = some true ∧ ∀ a, H a = none → ts a cls d D σ H
section
variable {X : Cx} {pins : List (Addr × Obj)} {σ : L2.St} {H : Hp} {sI s' : Shared} {a : Addr} {B : Heap} {Z : Obj → Prop} {cls : Value} {Q : Unit → Shared → Prop} {E : Value → Shared → Prop}
theorem frame_apart {h : Heap} {b : Addr} {o : Obj} {vs : Array Value} (hf : X.env.frame = some X.env.locals) (ff : h.FunFrames B (X.env :: X.outer)) (e : h.get? b = some o) (dd : o.data = .fields vs) : b ≠ X.env.locals ∧ b ∉ X.fs := by
  have no : b ∉ frs (X.env :: X.outer) := fun m => by
    obtain ⟨_, u, hu, nf⟩ := ff.mem m
    rw [e] at hu
    cases hu
    exact nf _ dd
  refine ⟨fun z => no (List.mem_filterMap.mpr ⟨X.env, List.mem_cons_self, by rw [hf, z]⟩), fun m => ?_⟩
  obtain ⟨v, hv, q⟩ := List.mem_filterMap.mp m
  exact no (List.mem_filterMap.mpr ⟨v, List.mem_cons_of_mem _ hv, q⟩)
/-- what is in the air lands in this frame -/
theorem catch_land (hZ : PXN.Steady1 Z) (hs : X.stack = X.env :: X.outer) (hf : X.env.frame = some X.env.locals) (J : Inv X pins σ H sI) (nb : ∀ b o, sI.heap.get? b = some o → b ∉ frs X.stack → B.get? b = some o) (up : sI.heap.UpToSlots s'.heap) (sky : Sky B X.stack a Z X.env.locals s'.heap) (os : s'.os = sI.os) (ag : AllBare s'.gens)
    (hQ : ∀ h3, HandSPX.FlyingZ B (X.env :: X.outer) a Z h3 → sI.heap.UpToSlots h3 → Inv X pins σ H { s' with heap := h3 } → Q () { s' with heap := h3 }) :
    wpAny (model X.prog X.w) X.A (noteFrame (.ref a) X.env) (fun _ s₂ => wpAny (model X.prog X.w) X.A (setFlight (.ref a) none) Q E s₂) E s' := by
  rw [hs] at sky
  exact L2N.Sky.land hZ (J.ok.frames.trans (congrArg some hs)) hf sky fun h3 fly up3 => hQ h3 fly (up.trans up3) (J.landed nb fly.1 (up.trans up3) os ag)
theorem named_class {x : Str} {c : Value} {np : Pos} {pn pn' : List (Addr × Obj)} {s : Shared} {R : Value → Shared → Prop} {E' : Value → Shared → Prop} (hc : Names X x c) (S : Inv (X.suite a pn) pn' σ H s) (q : R c s) : wpAny (model X.prog X.w) (X.A.mark (some (.ref a))) (eval (.Name x np) X.env) R E' s := by
  obtain ⟨g, db, k | ⟨k1, k2, k3⟩⟩ := hc
  · exact ld_glob (X := X.suite a pn) S g k q db
  · exact ld_blt (X := X.suite a pn) S g k1 k2 q k3 db
end
section
variable {X : Cx} {x n : Str} {c : Value} {i : Nat} {body suite orelse : List Stmt} {b₀ : Stmt} {np pos pos' : Pos} {tb : WX → TS} {u : TS} {ts : Addr → Value → Option Addr → TS} {Wout : WX}
/-- try .. except X: a suite that raises out of it .. else -/
theorem ps_tryElseQ (ho : PSs X orelse u) (hs : X.stack = X.env :: X.outer) (hf : X.env.frame = some X.env.locals) (hc : Names X x c) (hpa : ∀ hd : Option Value, PassesOwnAt (model X.prog X.w) (X.A.mark hd) X.A X.env X.xe) (tk : Takesq X Wout)
    (hb : ∀ (W : WX) (pn : List (Addr × Obj)) (xe : Value → Shared → Prop), L2N.Takes (X.tr pn xe) W → PassesOwn (model X.prog X.w) X.A X.env xe → PSs (X.tr pn xe) body (tb W))
    (hsu : ∀ (a : Addr) (oe : Obj) (cls : Value) (d : Option Addr) (pn : List (Addr × Obj)), L2N.Zn cls d oe → (∃ vs, oe.data = .fields vs) → Takesq (L2H.suiteX X a ((a, oe) :: pn)) Wout → L2H.HotC (L2H.suiteX X a ((a, oe) :: pn)) → PSs (L2H.suiteX X a ((a, oe) :: pn)) (b₀ :: suite) (ts a cls d)) :
    PS X (.Try body [.ExceptHandler (some (.Name x np)) none (b₀ :: suite) pos'] orelse [] pos) (fun D σ H => tb (wCatch X.K c ts D) { D with nx := u D } σ H) := by
  refine ⟨fun pins s σ H D I h => wpAny_Try_except ?_⟩
  have ok := I.ok
  refine wpAny_mono ((hb (wCatch X.K c ts D) (X.pn ++ pins) (fun e s₁ => wpAny (model X.prog X.w) X.A (noteFrame e X.env) (fun _ s₂ => wpAny (model X.prog X.w) X.A (setFlight e none) (fun _ s₃ =>
    wpAny (model X.prog X.w) X.A (handleBy e X.env [.ExceptHandler (some (.Name x np)) none (b₀ :: suite) pos']) (SP X pins D) X.xe s₃) X.xe s₂) X.xe s₁) (fun v s' air => ?_) PassesOwn.looking).run [] s σ H { D with nx := u D } (I.toTry _) h) (fun f s1 done => ?_) (fun _ _ z => z)
  · obtain ⟨a, B, sI, pins', σ', H', cls, d, rfl, J0, nb, up, sky, na, os, ag, caught, want⟩ := air
    have J : Inv X pins σ' H' sI := J0.ofTry ok
    refine catch_land L2N.Zn.steady hs hf J nb up sky os ag fun h3 fly up3 J3 => ?_
    obtain ⟨o3, v3, e3, z3, d3⟩ := fly.there
    have ap := frame_apart hf fly.2.2.1 e3 d3
    have S3 := J3.suite e3 d3 na ap.1 ap.2
    refine wpAny_handleBy_cons (codeAny_handlers_test ?_) (fun z => nomatch z)
    have ty : PySem.W.Looks (model X.prog X.w) h3 (typeOf (.ref a)) cls := fun _ _ _ _ k q => wpAny_typeOf_ref (k _ _ e3) (by rw [z3.1]; exact q)
    refine named_class hc S3 ((PySem.W.exm_one (M := model X.prog X.w) J3.kIn ty caught).here (codeAny_handlers_suite ?_))
    refine HandSPX.lands_againZ fly fun h4 fly4 up4 => ?_
    have J4 : Inv X pins σ' H' { s' with heap := h4 } := J.landed nb fly4.1 (up3.trans up4) os ag
    obtain ⟨o4, v4, e4, z4, d4⟩ := fly4.there
    have S4 := J4.suite e4 d4 na ap.1 ap.2
    have tkS : Takesq (L2H.suiteX X a ((a, o4) :: (X.pn ++ pins))) Wout := fun u2 s2 q => by
      obtain ⟨a2, B2, sI2, pn2, σ2, H2, cls2, dd2, c2, r1, I2, r⟩ := q
      exact tk u2 s2 ⟨a2, B2, sI2, pins, σ2, H2, cls2, dd2, c2, r1, L2H.unsuiteX I2 ok, r⟩
    refine wpAny_mono ((hsu a o4 cls d (X.pn ++ pins) z4 ⟨_, d4⟩ tkS ⟨(a, o4), ⟨rfl, v4, d4, z4.2.2 v4 d4⟩, List.mem_cons_self⟩).run [] _ _ H' _ (L2H.suiteX_of S4) (want a na)) (fun f s6 done => ?_) (fun e6 s6 z => hpa (some (.ref a)) e6 s6 z)
    cases f with
    | next => exact done.elim fun τ q => q.elim fun Hq q => ⟨τ, Hq, L2H.unsuiteX q.1 ok, q.2⟩
    | brk => exact done.elim fun τ q => q.elim fun Hq q => ⟨τ, Hq, L2H.unsuiteX q.1 ok, q.2⟩
    | cont => exact done.elim fun τ q => q.elim fun Hq q => ⟨τ, Hq, L2H.unsuiteX q.1 ok, q.2⟩
    | ret w0 =>
      obtain ⟨v, τ, Hq, S6, r6, q⟩ := done
      exact ⟨v, τ, Hq, L2H.unsuiteX S6 ok, r6, q⟩
  · cases f with
    | next =>
      obtain ⟨τ, Hq, Jq, q⟩ := done
      exact ho.run pins s1 τ Hq D (Jq.ofTry ok) q
    | brk => exact done.elim fun τ q => q.elim fun Hq q => ⟨τ, Hq, q.1.ofTry ok, q.2⟩
    | cont => exact done.elim fun τ q => q.elim fun Hq q => ⟨τ, Hq, q.1.ofTry ok, q.2⟩
    | ret w0 =>
      obtain ⟨v, τ, Hq, Jq, r, q⟩ := done
      exact ⟨v, τ, Hq, Jq.ofTry ok, r, q⟩
end
/-- the context bears the handled exception; its own context is none, or one whose own is none, which is borne too -/
def HotC2 (X : Cx) : Prop := ∃ p : Addr × Obj, X.A.handled = some (.ref p.1) ∧ p ∈ X.pn ∧ ∃ vs : Array Value, p.2.data = .fields vs ∧ (vs[2]? = some .none ∨ ∃ (q : Addr × Obj) (vq : Array Value), q ∈ X.pn ∧ q.1 ≠ p.1 ∧ vs[2]? = some (.ref q.1) ∧ q.2.data = .fields vq ∧ vq[2]? = some .none)
section
variable {X : Cx} {x n : Str} {c : Value} {i : Nat} {body suite : List Stmt} {b₀ : Stmt} {np pos pos' : Pos} {tb : WX → TS} {ts : Addr → Value → Option Addr → TS}
/-- try .. except X as n: all that flies is caught -/
theorem ps_tryAsQ (hs : X.stack = X.env :: X.outer) (hf : X.env.frame = some X.env.locals) (hN : X.N.Nodup) (hi : X.N[i]? = some n) (hln : X.env.kindOf n = some .local) (hc : Names X x c)
    (hb : ∀ (W : WX) (pn : List (Addr × Obj)) (xe : Value → Shared → Prop), Takesq (X.tr pn xe) W → PassesOwn (model X.prog X.w) X.A X.env xe → PSs (X.tr pn xe) body (tb W))
    (hsu : ∀ (a : Addr) (oe : Obj) (cls : Value) (d : Option Addr) (pn : List (Addr × Obj)), Zc cls d oe → (∃ vs, oe.data = .fields vs) → HotC2 (X.suite a ((a, oe) :: pn)) → PSs (X.suite a ((a, oe) :: pn)) (b₀ :: suite) (ts a cls d)) :
    PS X (.Try body [.ExceptHandler (some (.Name x np)) (some n) (b₀ :: suite) pos'] [] [] pos) (fun D σ H => tb (fun cls d σ' H' => PySem.W.exmOne X.K cls c = some true ∧ ∀ a, H' a = none → ts a cls d { nx := fun τ Hq => D.nx (τ.set i none) Hq, rt := D.rt, bk := fun τ Hq => D.bk (τ.set i none) Hq, ct := fun τ Hq => D.ct (τ.set i none) Hq } (σ'.set i (some (.ref a))) H') D σ H) := by
  refine ⟨fun pins s σ H D I h => wpAny_Try_except ?_⟩
  have ok := I.ok
  refine wpAny_mono ((hb _ (X.pn ++ pins) (fun e s₁ => wpAny (model X.prog X.w) X.A (noteFrame e X.env) (fun _ s₂ => wpAny (model X.prog X.w) X.A (setFlight e none) (fun _ s₃ =>
    wpAny (model X.prog X.w) X.A (handleBy e X.env [.ExceptHandler (some (.Name x np)) (some n) (b₀ :: suite) pos']) (SP X pins D) X.xe s₃) X.xe s₂) X.xe s₁) (fun v s' air => ?_) PassesOwn.looking).run [] s σ H D (I.toTry _) h) (fun f s1 done => ?_) (fun _ _ z => z)
  · obtain ⟨a, B, sI, pins', σ', H', cls, d, c2, rfl, J0, nb, up, sky, na, os, ag, ch, caught, want⟩ := air
    have J : Inv X pins σ' H' sI := J0.ofTry ok
    refine catch_land Zq.steady hs hf J nb up sky os ag fun h3 fly up3 J3 => ?_
    obtain ⟨o3, v3, e3, z3, d3⟩ := fly.there
    have ap := frame_apart hf fly.2.2.1 e3 d3
    have S3 := J3.suite e3 d3 na ap.1 ap.2
    refine wpAny_handleBy_cons (codeAny_handlers_test ?_) (fun z => nomatch z)
    have ty : PySem.W.Looks (model X.prog X.w) h3 (typeOf (.ref a)) cls := fun _ _ _ _ k q => wpAny_typeOf_ref (k _ _ e3) (by rw [z3.1.1]; exact q)
    refine named_class hc S3 ((PySem.W.exm_one (M := model X.prog X.w) J3.kIn ty caught).here (codeAny_handlers_suite_as ?_))
    refine HandSPX.lands_againZ fly fun h4 fly4 up4 => ?_
    have J4 : Inv X pins σ' H' { s' with heap := h4 } := J.landed nb fly4.1 (up3.trans up4) os ag
    obtain ⟨o4, v4, e4, z4, d4⟩ := fly4.there
    -- the context is borne too
    have more : ∃ pins2, Inv X pins2 σ' H' { s' with heap := h4 } ∧ (∀ {τ Hq sq}, Inv X pins2 τ Hq sq → Inv X pins τ Hq sq) ∧ HotC2 (X.suite a ((a, o4) :: (X.pn ++ pins2))) := by
      have ctx := z4.2 v4 d4
      rcases ch with rfl | ⟨b, ob, vb, rfl, b1, b2, b3, b4⟩
      · exact ⟨pins, J4, id, (a, o4), rfl, List.mem_cons_self, v4, d4, .inl ctx⟩
      · have hb4 := fly4.1 b ob b1
        have apb := frame_apart hf fly4.2.2.1 hb4 b2
        refine ⟨pins ++ [(b, ob)], J4.pins_of fun p hp => ?_, fun Jq => Jq.pins_of fun p hp => Jq.pin p (List.mem_append_right _ (List.mem_append_left _ hp)), (a, o4), rfl, List.mem_cons_self, v4, d4, .inr ⟨(b, ob), vb, List.mem_cons_of_mem _ (List.mem_append_right _ (List.mem_append_right _ (List.mem_singleton.mpr rfl))), fun z => ?_, ctx, b2, b3⟩⟩
        · rcases List.mem_append.mp hp with old | hp
          · exact J4.pin p (List.mem_append_right _ old)
          · obtain rfl := List.mem_singleton.mp hp
            exact ⟨hb4, b4, apb.1, apb.2, fun w0 z => by have z : ob.data = .cell w0 := z; rw [b2] at z; cases z⟩
        · have z : b = a := z
          rw [z, fly4.2.1] at b1
          cases b1
    obtain ⟨pins2, K4, back, hot⟩ := more
    have S4 := K4.suite e4 d4 na ap.1 ap.2
    refine store_ok (X := X.suite a ((a, o4) :: (X.pn ++ pins2))) (v := .ref a) S4 hN hi (.inl hln) rfl (fun s5 S5 => ?_) (.inr hln)
    refine wpAny_mono ((hsu a o4 cls d (X.pn ++ pins2) z4.1 ⟨_, d4⟩ hot).run [] s5 _ H' _ S5 (want a na)) (fun f s6 done => ?_) (fun _ _ z => z.elim)
    have gone : ∀ {τ : L2.St} {Hq : Hp} {R : Shared → Prop}, Inv (X.suite a ((a, o4) :: (X.pn ++ pins2))) [] τ Hq s6 → (∀ s7, Inv X pins (τ.set i none) Hq s7 → R s7) → wpAny (model X.prog X.w) X.A (do bindName X.env n .none; unbindBehindTheSuite X.env n pos') (fun _ s7 => R s7) X.xe s6 := fun S6 r => gone_ok (back (S6.unsuite ok)) hN hi hln r
    cases f with
    | next => exact done.elim fun τ q => q.elim fun Hq q => gone q.1 fun s7 J7 => ⟨_, _, J7, q.2⟩
    | brk => exact done.elim fun τ q => q.elim fun Hq q => gone q.1 fun s7 J7 => ⟨_, _, J7, q.2⟩
    | cont => exact done.elim fun τ q => q.elim fun Hq q => gone q.1 fun s7 J7 => ⟨_, _, J7, q.2⟩
    | ret w0 =>
      obtain ⟨v, τ, Hq, S6, r6, q⟩ := done
      exact gone S6 fun s7 J7 => ⟨_, _, _, J7, r6, q⟩
  · cases f with
    | next =>
      obtain ⟨τ, Hq, Jq, q⟩ := done
      exact wpAny_execs_nil ⟨τ, Hq, Jq.ofTry ok, q⟩
    | brk => exact done.elim fun τ q => q.elim fun Hq q => ⟨τ, Hq, q.1.ofTry ok, q.2⟩
    | cont => exact done.elim fun τ q => q.elim fun Hq q => ⟨τ, Hq, q.1.ofTry ok, q.2⟩
    | ret w0 =>
      obtain ⟨v, τ, Hq, Jq, r, q⟩ := done
      exact ⟨v, τ, Hq, Jq.ofTry ok, r, q⟩
end
end Wr

namespace Wr
open PySem PySem.Spec PyProof.Rows L2
/-! ### any(xs) while an exception is handled whose context may be another one -/
def HotB (A : Around) (x1 b : Addr) (h : Heap) : Prop := A.handled = some (.ref x1) ∧ ∃ (o : Obj) (vs : Array Value), h.get? x1 = some o ∧ o.data = .fields vs ∧
  (vs[2]? = some .none ∨ (b ≠ x1 ∧ vs[2]? = some (.ref b) ∧ ∃ (ob : Obj) (vb : Array Value), h.get? b = some ob ∧ ob.data = .fields vb ∧ vb[2]? = some .none))
theorem HotB.keep {A : Around} {x1 b : Addr} {h h' : Heap} (k : ∀ y o, y = x1 ∨ y = b → h.get? y = some o → h'.get? y = some o) (q : HotB A x1 b h) : HotB A x1 b h' := by
  obtain ⟨q0, o, vs, q1, q2, q3⟩ := q
  refine ⟨q0, o, vs, k _ _ (.inl rfl) q1, q2, q3.imp id fun ⟨n, e, ob, vb, r1, r2⟩ => ⟨n, e, ob, vb, k _ _ (.inr rfl) r1, r2⟩⟩
section
variable {prog : Program} {w : World} {A : Around} {E : Value → Shared → Prop} {s : Shared} {x1 b : Addr}
theorem unchain_b {a : Addr} {Q : Value → Shared → Prop} (hot : HotB A x1 b s.heap) (nb : b ≠ a) (q : Q .none s) : wpAny (model prog w) A
    (holding [Value.ref a] (runValue (.builtin "proto.unchain" ⟨[.ref a, .ref x1, .ref x1, .bool false], []⟩))) Q E s := by
  obtain ⟨_, o, vs, g1, d1, c1⟩ := hot
  rcases c1 with c1 | ⟨n1, c1, ob, vb, g2, d2, c2⟩
  · exact HotX.unchained g1 d1 c1 q
  · refine wpAny_holding (wpAny_runValue (codeAny_builtin HotX.entry_unchain ?_))
    change wpAny _ _ (bind (field (.ref x1) 2) _) _ _ s
    refine wpAny_bind (wpAny_field g1 d1 c1 ?_)
    have t1 : ¬ ((Value.ref b == Value.none) = true) := by simp
    have t2 : ¬ ((Value.ref b == Value.ref a) = true) := fun z => nb (Value.ref.inj (beq_iff_eq.mp z))
    have t3 : ¬ ((Value.ref b == Value.ref x1) = true) := fun z => n1 (Value.ref.inj (beq_iff_eq.mp z))
    rw [if_neg t1]
    first
    | rw [if_neg t2, if_neg t3]
    | (refine wpAny_bind ?_; rw [if_neg t2]; refine wpAny_pure (wpAny_bind ?_); rw [if_neg t3]; refine wpAny_pure ?_)
    refine wpAny_bind (wpAny_pure (wpAny_pure ⟨Code.quiet_builtin _ (by decide +kernel), codeAny_builtin HotX.entry_unchain ?_⟩))
    show wpAny _ _ (field (.ref b) 2 >>= _) _ _ s
    refine wpAny_bind (wpAny_field g2 d2 c2 ?_)
    rw [if_pos (beq_self_eq_true Value.none)]
    first
    | exact wpAny_pure q
    | exact wpAny_bind (wpAny_pure (wpAny_pure q))  -- two binds
theorem raiseNew_b {α : Type} {a : Addr} {oe : Obj} {vs : Array Value} {Q : α → Shared → Prop} (hot : HotB A x1 b s.heap) (n1 : x1 ≠ a) (n2 : b ≠ a) (ha : s.heap.get? a = some oe) (da : oe.data = .fields vs) (hi : 2 < vs.size)
    (hE : E (.ref a) { s with heap := s.heap.update a (Obj.mapFields (·.setIfInBounds 2 (.ref x1))) }) :
    wpAny (model prog w) A (raiseNew (.ref a) : Sem α) Q E s := by
  unfold raiseNew
  have held := hot.1
  refine wpAny_bind (wpAny_handled ?_); rw [held]
  have other : (Value.ref x1 != Value.ref a) = true := HotX.ref_bne n1
  first
  | (change wpAny _ A (ite ((Value.ref x1 != Value.ref a) = true) _ _) _ E s
     rw [if_pos other]
     first
     | exact wpAny_bind (unchain_b hot n2 (wpAny_bind (HotX.chained ha da hi (wpAny_throw hE))))
     | exact wpAny_bind (wpAny_bind (unchain_b hot n2 (HotX.chained ha da hi (wpAny_throw hE)))))
  | (refine wpAny_bind ?_
     change wpAny _ A (ite ((Value.ref x1 != Value.ref a) = true) _ _) _ _ s
     rw [if_pos other]
     exact wpAny_bind (unchain_b hot n2 (HotX.chained ha da hi (wpAny_throw hE))))
theorem next_end_b {itr src : Addr} {i : Nat} {items : Array Value} {Q : Option Value → Shared → Prop} (hot : HotB A x1 b s.heap) (hitr : s.heap.IsListIter itr src i) (hl : s.heap.IsList src items) (hx : items[i]? = none) (hne : x1 ≠ itr) (hnb : b ≠ itr) (hb : b < s.heap.objs.size)
    (fin : ∀ h', Heap.ExtBut itr s.heap h' → Q none { s with heap := h' }) : wpAny (model prog w) A (pyNext (.ref itr)) Q E s := by
  have lt1 : x1 < s.heap.objs.size := by
    obtain ⟨_, _, _, g, _⟩ := hot
    exact Heap.lt_size g
  obtain ⟨o, go0, cl0, da0⟩ := id hitr
  obtain ⟨ol, gl0, _, ln0, dl0⟩ := hl
  unfold pyNext
  refine wpAny_bind (wpAny_attempt (wpAny_callSpecial?_slot (name := Str.ofString "__next__") hitr.typeIs slot_listiter_next
    ((wpAny_call_entry slot_listiter_next hitr.typeIs entry_listiter_next ?_ (args_listiter_next _)))))
  show wpAny _ _ (field (.ref itr) 0 >>= _) _ _ s
  refine wpAny_bind (wpAny_field go0 da0 (x := .ref src) rfl ?_)
  show wpAny _ _ (if (Value.ref src == Value.none) = true then _ else _) _ _ s
  rw [if_neg (show ¬ ((Value.ref src == Value.none) = true) from Bool.false_ne_true)]
  show wpAny _ _ (field (.ref itr) 1 >>= _) _ _ s
  refine wpAny_bind (wpAny_field go0 da0 (x := .int i 0) rfl ?_)
  show wpAny _ _ (seqItems? (.ref src) >>= _) _ _ s
  refine wpAny_bind (wpAny_seqItems gl0 dl0 ?_)
  simp only [hx, Int.toNat_natCast]
  refine wpAny_bind (wpAny_rule (wpAny_bind (wpAny_setField go0 da0 (by simp) ?_)))
  show wpAny _ _ (newExc (.type "StopIteration") ([] : List Value) >>= _) _ _ _
  refine wpAny_bind ?_
  simp only [newExc, newTuple]
  refine wpAny_bind (wpAny_newObj_type ?nx1 (by size_fits))
  refine wpAny_bind (m := firstArgMember _ _) (wpAny_of_eq (a := Value.none) (by first | rfl | (simp only [firstArgMember]; rfl)) ?nx2)
  refine wpAny_newObj_type ?nx3 (by size_fits)
  have same : ∀ y o, y = x1 ∨ y = b → s.heap.get? y = some o → (s.heap.update itr (Obj.mapFields (·.setIfInBounds 0 .none))).get? y = some o := fun y o hy e => by
    refine (Heap.get?_update_other s.heap (Obj.mapFields (·.setIfInBounds 0 .none)) ?_).trans e
    rcases hy with rfl | rfl
    · exact Ne.symm hne
    · exact Ne.symm hnb
  have hot1 := hot.keep same
  refine raiseNew_b (hot1.keep fun y o _ e => Heap.get?_push_of_some _ (Heap.get?_push_of_some _ e)) ?na ?nb (Heap.get?_push_size _ rfl) rfl (by first | (simp; done) | (simp; omega) | (simp only [Array.size_append]; simp; omega)) ?nx5
  case na =>
    obtain ⟨_, _, _, g, _⟩ := hot1
    exact Nat.ne_of_lt (Heap.lt_size (Heap.get?_push_of_some _ g))
  case nb =>
    refine Nat.ne_of_lt ?_
    rw [Heap.size_push, Heap.size_update]
    exact Nat.lt_succ_of_lt hb
  case nx5 =>
    refine wpAny_bind (wpAny_isInstance (T := "StopIteration") (b := true) ⟨_, Heap.get?_update_self _ (Heap.get?_push_size _ rfl) rfl, rfl⟩ isSubtype_stop ?nx4)
    refine wpAny_pure (fin _ fun b u hb e => ?_)
    have e' := (Heap.get?_update_other s.heap (Obj.mapFields (·.setIfInBounds 0 .none)) (Ne.symm hb)).trans e
    rw [Heap.get?_update_other _ _ (Nat.ne_of_gt (Heap.lt_size (Heap.get?_push_of_some _ e')))]
    exact Heap.get?_push_of_some _ (Heap.get?_push_of_some _ e')
theorem walks_b {I ax : Addr} (hne : ax ≠ I) (hx : x1 ≠ I) (hy : b ≠ I) (items : Array Value) (fp : List Addr) (hfp : I ∈ fp ∧ ax ∈ fp ∧ x1 ∈ fp ∧ b ∈ fp) :
    Walks prog w A I fp [I] items.size (fun i v => items[i]? = some v) (fun i h => (h.IsListIter I ax i ∧ h.IsList ax items) ∧ HotB A x1 b h ∧ ∃ o, h.get? b = some o) where
  sub := fun y hb => by simp at hb; rw [hb]; exact hfp.1
  frame := fun _ _ _ stt hk => ⟨⟨stt.1.1.at fun o e => hk I hfp.1 o e, stt.1.2.at fun o e => hk ax hfp.2.1 o e⟩, stt.2.1.keep (fun y o hy e => hk y (hy.elim (fun z => z ▸ hfp.2.2.1) fun z => z ▸ hfp.2.2.2) o e), stt.2.2.elim fun o e => ⟨o, hk b hfp.2.2.2 o e⟩⟩
  item := fun i s Q E hi stt fin => by
    refine wpAny_pyNext_list_item stt.1.1 stt.1.2 (x := items[i]) (by simp [hi]) fun h' hitr' sb' => ?_
    exact fin _ h' s.toks (by simp [hi]) ⟨⟨hitr', stt.1.2.extBut sb'.extBut hne⟩, stt.2.1.keep (fun y o hy' e => sb'.extBut y o (hy'.elim (fun z => z ▸ hx) fun z => z ▸ hy) e), stt.2.2.elim fun o e => ⟨o, sb'.extBut b o hy e⟩⟩ fun y o hb e => sb'.extBut y o (fun h => hb (by simp [h])) e
  done := fun s Q E stt fin => next_end_b stt.2.1 stt.1.1 stt.1.2 (by simp) hx hy (stt.2.2.elim fun o e => Heap.lt_size e) fun h' he' => fin h' s.toks fun y o hb e => he' y o (fun h => hb (by simp [h])) e
  self := fun _ _ _ _ stt fin => wpAny_pyIter_listiter stt.1.1 fin
end
theorem HotC2.at {X : Cx} {pins : List (Addr × Obj)} {σ : L2.St} {H : Hp} {s : Shared} (c : HotC2 X) (I : Inv X pins σ H s) : ∃ x1 b, HotB X.A x1 b s.heap ∧ ∃ o, s.heap.get? b = some o := by
  obtain ⟨p, hh, hp, vs, hv, hc⟩ := c
  have gp := (I.pin p (List.mem_append_left _ hp)).1
  rcases hc with hc | ⟨q, vq, hq, nq, e1, e2, e3⟩
  · exact ⟨p.1, p.1, ⟨hh, p.2, vs, gp, hv, .inl hc⟩, _, gp⟩
  · have gq := (I.pin q (List.mem_append_left _ hq)).1
    exact ⟨p.1, q.1, ⟨hh, p.2, vs, gp, hv, .inr ⟨nq, e1, q.2, vq, gq, e2, e3⟩⟩, _, gq⟩
theorem cr_anyC2 {X : Cx} (hc : HotC2 X) : CallR X (.builtin "any") (rAny X.K) := by
  rintro pins s σ H ws us Q I r ⟨a, bs, rfl, hs, q⟩
  obtain ⟨items, rel, pl, _⟩ := I.list hs
  obtain ⟨x1, b, hot, ob, gb⟩ := hc.at I
  rw [Vals.ref1 r]
  have vals := rel.bls
  refine call_any_walk (iter_any pl.isList fun s₂ e2 st apart => ?_)
  subst e2
  have n1 : x1 ≠ s.heap.objs.size := by
    obtain ⟨_, _, _, g, _⟩ := hot
    exact Nat.ne_of_lt (Heap.lt_size g)
  have n2 : b ≠ s.heap.objs.size := Nat.ne_of_lt (Heap.lt_size gb)
  refine ⟨_, [s.heap.objs.size, a, x1, b], _, _, _, _, _, rfl, walks_b (A := X.A.in1) (x1 := x1) (b := b) apart n1 n2 items.toArray _ (by simp), ⟨st, HotB.keep (A := X.A.in1) (fun y o _ e => Heap.get?_push_of_some _ e) hot, ob, Heap.get?_push_of_some _ gb⟩, truth_bools vals, fun h' tk kept => ?_⟩
  refine ⟨.bl _, H, I.kept fun y o gy => kept y o (fun mem => ?_) (Heap.get?_push_of_some _ gy), ?_, q⟩
  · rcases List.mem_cons.mp mem with eq1 | mem
    · exact absurd (eq1 ▸ Heap.lt_size gy) (Nat.lt_irrefl _)
    · cases mem
  · show (Value.bool _) = (Value.bool _)
    rw [← L2.any_range, vals, List.size_toArray, List.length_map]
theorem cr_anyC2K {X : Cx} (K : PySem.W.Frag) (hc : HotC2 X) (h : X.K = K := by rfl) : CallR X (.builtin "any") (rAny K) := h ▸ cr_anyC2 hc
end Wr

namespace Wr
open PySem PySem.Spec PyProof.Rows PySem.Calls L2
/-! ### isinstance of an exception that has its dict -/
/-- isinstance(e, c), e the exception that the suite holds, of the own class at D, with a dict -/
def rIsD (K : PySem.W.Frag) (a : Addr) (cls : Value) (d : Option Addr) : List V → Hp → VK → Prop := fun xs H Q => ∃ (D dd : Addr) (fs : List (Str × V)) (c : V) (cv : Value) (b : Bool), cls = .ref D ∧ d = some dd ∧ H dd = some (.xd fs) ∧ ExcC K D ∧ xs = [.ref a, c] ∧ (∀ u, RelV c u → u = cv) ∧ PySem.W.kitOne K (.ref D) cv = some b ∧ Q (.bl b) H
theorem cr_isD {X : Cx} {a : Addr} {oe : Obj} {cls : Value} {d : Option Addr} {pn : List (Addr × Obj)} (hz : Zc cls d oe) (hf : ∃ vs, oe.data = .fields vs) : CallR (X.suite a ((a, oe) :: pn)) (.builtin "isinstance") (rIsD X.K a cls d) := by
  rintro pins s σ H xs us Q I r ⟨D, dd, fs, c, cv, b, rfl, rfl, hd, C, rfl, hcv, hk, q⟩
  cases r with
  | cons r1 rr =>
    cases rr with
    | cons r2 rr =>
      cases rr
      cases r1
      have ec := hcv _ r2
      subst ec
      have there := (I.pin (a, oe) (List.mem_append_left _ List.mem_cons_self)).1
      have own : ObjOk (X.suite a ((a, oe) :: pn)).prog (X.suite a ((a, oe) :: pn)).w H s.heap dd (.xd fs) := I.hok dd _ hd
      obtain ⟨mA, hns, _⟩ := own
      obtain ⟨od, ho, _⟩ := lookIn_ns hns
      obtain ⟨vs, hv⟩ := hf
      have J : PySem.W.InstAt s.heap a oe D (some od) := by
        obtain ⟨oc, dd0, oda, osl⟩ := oe
        obtain ⟨h1, h2⟩ := hz
        dsimp only at h1 h2 hv
        subst h1 h2 hv
        exact ⟨there, rfl, rfl, ho⟩
      have some_cls : (PySem.W.clsIn X.K D).isSome = true := by
        obtain ⟨cd, hc, _⟩ := PySem.W.any_some C.hd
        exact Option.isSome_iff_exists.mpr ⟨cd, hc⟩
      exact PySem.W.kia_one (PySem.W.kitx_exc (ox := oe) (od := some od) some_cls C.hg C.hk C.hs C.ha C.hn C.ht C.hm) I.kIn J hk (fun z => nomatch z) fun tk => ⟨.bl b, H, I.kept (t' := tk) fun _ _ z => z, rfl, q⟩
theorem cr_isDK {X : Cx} (K : PySem.W.Frag) {a : Addr} {oe : Obj} {cls : Value} {d : Option Addr} {pn : List (Addr × Obj)} (hz : Zc cls d oe) (hf : ∃ vs, oe.data = .fields vs) (h : X.K = K := by rfl) : CallR (X.suite a ((a, oe) :: pn)) (.builtin "isinstance") (rIsD K a cls d) := h ▸ cr_isD hz hf
/-! ### BadRow -/
section
variable {P : Program} {w : World} {K : PySem.W.Frag} {mg : Str → Option Value} {base : Heap}
theorem Fun.okH {x qual : Str} {st : Stmt} {f : Addr} {fd : FuncData} {N ps : List Str} {k : Nat} {sp : Sp} (F : Fun K x qual st f fd) (S : FnScope N ps (defScope st)) (len : ∀ vs H Q E, sp vs H Q E → vs.length = ps.length)
    (told : ∀ (cw : Value) (A : Around) (fs : List Env) (s : Shared) (H : Hp) (vs : List V) (Q : VK) (E : XK) (p : Addr × Obj), L2H.Hot1 A p → L2H.RoomH k (A.deeper (envOfC qual (defScope st) s.heap.objs.size f cw)) → sp vs H Q E →
      ∃ t, PSs (L2H.cxH CX0 P w K mg base N qual (defScope st) f cw A fs s H E p) (defBody st) t ∧ t { nx := fun _ H' => Q .non H', rt := Q } (start N vs) H) : L2H.FnH P w K mg base CX0 (k + 1) f fd ps sp := by
  obtain ⟨oc, od, kV, dc0, pm, an, cw, ct, osl, rfl, lk0, hc0⟩ := F.ex
  exact L2H.fn_ofH lk0 hc0 S len fun A fs s H ws Q E p hot rm asked => told cw A fs s H ws Q E p hot rm asked
def rowF : Str := "row"
def spRowI (K : PySem.W.Frag) (C : Addr) : Sp := fun vs H Q _ => ∃ (a : Addr) (r : Int), vs = [.ref a, .int r] ∧ H a = some (exo a C none) ∧ ∀ dx, H dx = none → dx ≠ a → Q .non (upd (upd H dx (exd dx [("row", .int r)])) a (exo a C (some dx)))
/-- the class BadRow: its __init__ keeps spRowI, called where nothing is handled, and where something is -/
structure Rx (P : Program) (w : World) (K : PySem.W.Frag) (mg : Str → Option Value) (base : Heap) (C fI : Addr) (fd : FuncData) : Prop where
  g : mg "BadRow" = some (.ref C)
  T : OexC K C
  i : PySem.W.findIn K (.ref C) "__init__" = some (some (.ref fI))
  t : PySem.W.typeIn K (.ref fI) = some (.type "function")
  f : FnOk P w K mg base CX0 1 fI fd ["self", "row"] (spRowI K C)
  h : L2H.FnH P w K mg base CX0 1 fI fd ["self", "row"] (spRowI K C)
  b : Binds K fd ["self", "row"] []
theorem row_made {C : Addr} {r : Int} {H1 : Hp} {Q : XK} (k : ∀ d H2, Same H1 H2 → H2 d = some (.xd [("row", .int r)]) → Q (.ref C) (some d) H2) : [V.int r].length ≤ 1000 ∧ ∀ a, H1 a = none → spRowI K C (.ref a :: ([V.int r] ++ [])) (upd H1 a (exo a C none))
    (fun v H2 => v = .non ∧ ∃ (d : Addr) (fs : List (Str × V)), H2 a = some (exo a C (some d)) ∧ H2 d = some (exd d fs) ∧ H1 d = none ∧ Q (.ref C) (some d) (upd (del H2 a) d (.xd fs))) (fun _ _ _ => False) := by
  refine ⟨by show 1 ≤ 1000; decide, fun a ha => ⟨a, r, rfl, upd_same, fun dx hdx hne => ⟨rfl, dx, _, upd_same, ?_, ?_, k dx _ (fun b o e => ?_) upd_same⟩⟩⟩
  · rw [upd_ne hne]
    exact upd_same
  · rw [upd_ne hne] at hdx
    exact hdx
  · have hba : b ≠ a := ne_of_none e ha
    have hbd : b ≠ dx := fun z => by
      rw [upd_ne hne] at hdx
      rw [z, hdx] at e
      cases e
    rw [upd_ne hbd, del_ne hba, upd_ne hba, upd_ne hbd, upd_ne hba]
    exact e
end
section
variable {X : Cx} {C fI : Addr} {fd : FuncData} {j : Nat} {e : Expr} {ta : TA} {W : WX} {p pos rpos : Pos}
theorem ps_row (R : Rx X.prog X.w X.K X.mg X.base C fI fd) (hr : Room j X.A) (hc : X.calm = true) (tk : Takesq X W) (hg : Gl X "BadRow") (ha : PA X [e] ta) (hj : 2 ≤ j := by decide) (w1 : starEach [e] X.env = (false, eval e X.env) :: starEach [] X.env := by rfl) (w2 : (backTo pos (starEach [] X.env)).any (·.1) = false := by rfl) :
    PS X (.Raise (some (.Call (.Name "BadRow" p) [e] [] pos)) none rpos) (fun _ σ H => tMkO C (spRowI X.K C) [] ta σ H fun cls d H' => W cls d σ H') :=
  ps_raiseQ hc tk (pmkN_oex R.T R.i R.t R.f (hr.mono hj) R.b hg R.g ha (by decide) w1 w2)
theorem ps_rowH (R : Rx X.prog X.w X.K X.mg X.base C fI fd) (hr : L2H.RoomH j X.A) (hc : L2H.HotC X) (tk : Takesq X W) (hg : Gl X "BadRow") (ha : PA X [e] ta) (hj : 2 ≤ j := by decide) (w1 : starEach [e] X.env = (false, eval e X.env) :: starEach [] X.env := by rfl) (w2 : (backTo pos (starEach [] X.env)).any (·.1) = false := by rfl) :
    PS X (.Raise (some (.Call (.Name "BadRow" p) [e] [] pos)) none rpos) (fun _ σ H => tMkO C (spRowI X.K C) [] ta σ H fun cls d H' => W cls d σ H') :=
  ps_raiseQH hc tk (L2H.PMk5.pmk (L2H.pmk5_oexH R.T R.i R.t R.h (hr.mono hj) hc R.b (fun _ _ _ _ _ _ _ z => z.elim) hg R.g ha (by decide) w1 w2))
end
end Wr

namespace Wr
open PySem PySem.Spec PyProof.Rows L2
section
variable {P : Program} {w : World} {K : PySem.W.Frag} {mg : Str → Option Value} {base : Heap}
/-- a def that raises exceptions of known context -/
theorem Fun.okQ {x qual : Str} {st : Stmt} {f : Addr} {fd : FuncData} {N ps : List Str} {k : Nat} {sp : Sp} (F : Fun K x qual st f fd) (S : FnScope N ps (defScope st)) (len : ∀ ws H Q E, sp ws H Q E → ws.length = ps.length)
    (told : ∀ (cw : Value) (A : Around) (fs : List Env) (s : Shared) (H : Hp) (ws : List V) (Q : VK) (E : XK), Room k (A.deeper (envOfC qual (defScope st) s.heap.objs.size f cw)) → sp ws H Q E →
      ∃ t, PSs (cxOf (CXq P w) P w K mg base N qual (defScope st) f cw A fs s H E) (defBody st) t ∧ t { nx := fun _ H' => Q .non H', rt := Q } (start N ws) H) : FnOk P w K mg base (CXq P w) (k + 1) f fd ps sp := by
  obtain ⟨oc, od, kV, dc0, pm, an, cw, ct, osl, rfl, lk0, hc0⟩ := F.ex
  exact fn_of lk0 hc0 S len fun A fs s H ws Q E rm hs0 => told cw A fs s H ws Q E rm hs0
structure GdQ (P : Program) (w : World) (K : PySem.W.Frag) (mg : Str → Option Value) (base : Heap) (k : Nat) (x : Str) (ps : List Str) (sp : Sp) : Prop where
  ex : ∃ f fd, mg x = some (.ref f) ∧ PySem.W.keepIn K (.ref f) = true ∧ Binds K fd ps [] ∧ FnOk P w K mg base (CXq P w) k f fd ps sp
theorem gd_mkQ {x q : Str} {st : Stmt} {f : Addr} {fd : FuncData} {k : Nat} {ps : List Str} {sp : Sp} (F : Fun K x q st f fd) (hm : mg x = some (.ref f)) (hb : L2.Binds K fd ps []) (ok : FnOk P w K mg base (CXq P w) k f fd ps sp) : GdQ P w K mg base k x ps sp := ⟨f, fd, hm, F.kp, hb, ok⟩
end
section
variable {X : Cx} {k j : Nat} {x : Str} {ps : List Str} {sp : Sp} {p pos : Pos} {e : Expr} {es : List Expr} {t : TA} {W : WX}
theorem pe_gQ (G : GdQ X.prog X.w X.K X.mg X.base k x ps sp) (hr : Room j X.A) (hg : Gl X x) (tk : Takesq X W) (ha : PA X (e :: es) t) (hk : k ≤ j := by decide)
    (w1 : (x == ("__debug__" : Str)) = false := by decide) (w2 : starEach (e :: es) X.env = (false, eval e X.env) :: starEach es X.env := by rfl)
    (w3 : (backTo pos (starEach es X.env)).any (fun z => z.1) = false := by rfl) :
    PE X (.Call (.Name x p) (e :: es) [] pos) (tCallS sp (WE W) t) := by
  obtain ⟨f, fd, hm, kp, hb, F⟩ := G.ex
  exact pe_callS F (hr.mono hk) hg hm kp hb (fun σ => passAtq tk σ) ha w1 w2 w3
end
section
variable {X : Cx} {C fI : Addr} {fd : FuncData} {j : Nat} {e : Expr} {ta : TA} {W : WX} {p pos rpos : Pos}
theorem ps_rowHK (K : PySem.W.Frag) (R : Rx X.prog X.w K X.mg X.base C fI fd) (hr : L2H.RoomH j X.A) (hc : L2H.HotC X) (tk : Takesq X W) (hg : Gl X "BadRow") (ha : PA X [e] ta) (h : X.K = K := by rfl) (hj : 2 ≤ j := by decide) (w1 : starEach [e] X.env = (false, eval e X.env) :: starEach [] X.env := by rfl) (w2 : (backTo pos (starEach [] X.env)).any (·.1) = false := by rfl) :
    PS X (.Raise (some (.Call (.Name "BadRow" p) [e] [] pos)) none rpos) (fun _ σ H => tMkO C (spRowI K C) [] ta σ H fun cls d H' => W cls d σ H') := by
  subst h
  exact ps_rowH R hr hc tk hg ha hj w1 w2
end
end Wr

namespace Wr
open PySem PySem.Spec PyProof.Rows L2
/-- a look at an object: is it an exception class over ValueError, at C? -/
def oexO (C : Addr) (o : Obj) : Bool := match o.data with
  | .cls cd => decide (o.cls = .type "type") && (decide (cd.mro.head? = some (.ref C)) && (PySem.HandSPX.refsVE cd.mro.tail && (decide (o.slots.size = 6) && (decide (o.slots[4]? = some (some (.builtin "ValueError.__new__"))) && (!cd.hasDel && cd.hasDict)))))
  | _ => false
def oexB (K : PySem.W.Frag) (C : Addr) : Bool := (K.lookup C).any (oexO C)
theorem six_of {α : Type} {s : Array α} (h : s.size = 6) : ∃ a b c d e f, s = #[a, b, c, d, e, f] := by
  obtain ⟨l⟩ := s
  match l, h with
  | [a, b, c, d, e, f], _ => exact ⟨a, b, c, d, e, f, rfl⟩
theorem oex_of {K : PySem.W.Frag} {C : Addr} (q : oexB K C = true) (sa : PySem.W.findIn K (.ref C) "__setattr__" = some (some (.builtin "object.__setattr__"))) (exC : PySem.W.subIn K (.ref C) (.type "BaseException") = some true) (tyC : PySem.W.typeIn K (.ref C) = some (.type "type")) (kC : PySem.W.keepIn K (.ref C) = true) : OexC K C := by
  refine ⟨?_, sa, exC, tyC, kC⟩
  unfold oexB at q
  cases e : K.lookup C with
  | none => rw [e] at q; cases q
  | some o =>
    obtain ⟨oc, dd, od, sl⟩ := o
    rw [e] at q
    have q2 : oexO C ⟨oc, dd, od, sl⟩ = true := q
    unfold oexO at q2
    cases od with
    | cls cd =>
      dsimp only at q2
      rw [Bool.and_eq_true, Bool.and_eq_true, Bool.and_eq_true, Bool.and_eq_true, Bool.and_eq_true, Bool.and_eq_true] at q2
      obtain ⟨b1, b2, c3, b4, b5, c6, c7⟩ := q2
      have c2 := of_decide_eq_true b2
      obtain ⟨a0, a1, a2, a3, a4, a5, rfl⟩ := six_of (of_decide_eq_true b4)
      have c5 : some a4 = some (some (Value.builtin "ValueError.__new__")) := of_decide_eq_true b5
      have c5 := Option.some.inj c5
      subst c5
      have c1 : oc = Value.type "type" := of_decide_eq_true b1
      subst c1
      obtain ⟨cn, cb, cm, cs, cq, ch, csl, csu, cab, cco, cde⟩ := cd
      dsimp only at c2 c3 c6 c7
      subst c7
      cases cm with
      | nil => cases c2
      | cons m0 mr =>
        cases c2
        cases cde with
        | true => cases c6
        | false => exact ⟨cn, cq, cs, cb, mr, csl, csu, cab, cco, dd, a0, a1, a2, a3, a5, rfl, c3⟩
    | _ => cases q2
end Wr

namespace Wr
open PySem PySem.Spec PyProof.Rows L2 TL
/-! ### a text of one sign, times a number -/
def mulS (x : Str) (k : Nat) : Str := ⟨(List.replicate k x.cps).foldl (· ++ ·) #[]⟩
theorem fold_arr (x : Array Nat) : ∀ (k : Nat) (acc : Array Nat), ((List.replicate k x).foldl (· ++ ·) acc).toList = acc.toList ++ (List.replicate k x.toList).flatten
  | 0, acc => by simp
  | k + 1, acc => by
    rw [List.replicate_succ, List.foldl_cons, fold_arr x k, Array.toList_append, List.replicate_succ, List.flatten_cons, List.append_assoc]
theorem tl_mulS (x : Str) (k : Nat) : tl (mulS x k) = (List.replicate k (tl x)).flatten := by
  show ((List.replicate k x.cps).foldl (· ++ ·) #[]).toList = _
  rw [fold_arr]
  rfl
theorem flat_one (c : Nat) : ∀ k : Nat, (List.replicate k [c]).flatten = List.replicate k c
  | 0 => rfl
  | k + 1 => by rw [List.replicate_succ, List.flatten_cons, flat_one c k, List.replicate_succ]; rfl
def rMulS : R2 := fun x y H Q => ∃ a k, x = .str a ∧ y = .int k ∧ a.length = 1 ∧ 2 ≤ k ∧ k ≤ 10000 ∧ Q (.str (mulS a k.toNat)) H
theorem op_mulS {X : Cx} : OpR X (binaryOp .Mult) rMulS := by
  rintro pins s σ H _ _ v u Q I rx ry ⟨a, k, rfl, rfl, ha, h2, hk, q⟩
  obtain ⟨t, rfl⟩ := rx
  obtain ⟨t', rfl⟩ := ry
  refine PySem.P.mul_str (by
    rw [decide_eq_false (show ¬ k < -(2 ^ 63 : Int) by omega), decide_eq_false (show ¬ k ≥ (2 ^ 63 : Int) by omega)]
    rfl) (fun _ _ => ?_) (fun _ _ => ?_) ?_
  · rw [ha]
    have : (10000 : Int) ≤ (2 ^ 63 - 1) / k := by
      rw [Int.le_ediv_iff_mul_le (by omega)]
      have : 10000 * k ≤ 10000 * 10000 := Int.mul_le_mul_of_nonneg_left hk (by decide)
      omega
    omega
  · unfold PySem.Builtin.Str.tooLong
    rw [ha, Nat.one_mul]
    exact decide_eq_false (by rw [sizeLine_eq]; omega)
  · rw [if_neg (by omega), show (k == 1 || a.length == 0) = false by rw [ha, Bool.or_eq_false_iff]; exact ⟨beq_eq_false_iff_ne.mpr (by omega), rfl⟩, if_neg Bool.false_ne_true]
    refine ⟨?_, .str (mulS a k.toNat), H, I.tok _, ⟨_, rfl⟩, q⟩
    show (mulS a k.toNat).length ≤ sizeLine
    have hl : ∀ n : Nat, ((List.replicate n (tl a)).flatten).length = n := fun n => by
      rw [len_tl] at ha
      obtain ⟨c, e⟩ : ∃ c, tl a = [c] := List.length_eq_one_iff.mp ha
      rw [e, flat_one, List.length_replicate]
    rw [len_tl, tl_mulS, hl, sizeLine_eq]
    omega
end Wr

namespace Wr
open PySem L2
local macro_rules | `(tactic| walk_at "rd") => `(tactic| first | (refine ⟨_, rfl, ?_⟩; walk_at "rd") | (refine ⟨_, _, rfl, rfl, ?_⟩; walk_at "rd") | skip)
section
variable {P : Program} {w : World} {K : PySem.W.Frag} {mg : Str → Option Value} {base : Heap}

def spCell (K : PySem.W.Frag) : Sp := fun vs H Q _ => ∃ (a : Addr) (ns : List Int) (k : Nat), vs = [.ref a, .int k] ∧ SqL K H a (ns.map V.int) ∧ Q (.int (cellV ns k)) H
-- slots: 0:_law_script, 1:_law_k
theorem sc_law_cell_at : FnScope ["_law_script", "_law_k"] ["_law_script", "_law_k"] (defScope S_law_cell_at) := ⟨rfl, rfl, rfl, by decide +kernel, rfl, by decide +kernel, by decide +kernel⟩
theorem ok_cell {f : Addr} {fd : FuncData} (F : Fun K "_law_cell_at" "_law_cell_at" S_law_cell_at f fd) (B : Bi mg) : FnOk P w K mg base CX0 1 f fd ["_law_script", "_law_k"] (spCell K) := by
  refine F.ok sc_law_cell_at (fun vs H Q E h => ?_) (fun cdv A outer s H vs Q E hr h => ?_)
  · obtain ⟨a, ns, k, rfl, _⟩ := h
    rfl
  · obtain ⟨a, ns, k, rfl, hS, q⟩ := h
    refine ⟨_, (pss_cons (ps_if (pt_cmpR op_lt (pv 1) (pe_callB call_len_seq (by rfl) B.len (by decide +kernel) (pa_cons (pv 0) pa_nil)) (nomark _))
    (pss_one (ps_ret (pe_ix ix_list (pv 0) (pv 1) (fun _ _ => rfl)))) pss_nil)
    (pss_one (ps_ret pe_int))), ?_⟩
    refine ⟨_, rfl, _, rfl, a, _, rfl, .inl hS, _, _, rfl, rfl, _, rfl, ?_⟩
    rw [List.length_map]
    by_cases hk : k < ns.length
    · rw [decide_eq_true (show (k : Int) < (ns.length : Int) by omega)]
      refine iteT ?_
      refine ⟨_, rfl, _, rfl, a, _, k, .int (cellV ns k), rfl, rfl, hS, atI_nat ?_, q⟩
      rw [List.getElem?_map]
      unfold cellV
      rw [List.getD_eq_getElem?_getD, List.getElem?_eq_getElem hk]
      rfl
    · rw [decide_eq_false (show ¬ (k : Int) < (ns.length : Int) by omega)]
      refine iteF ?_
      have e : cellV ns k = 0 := by
        unfold cellV
        rw [List.getD_eq_getElem?_getD, List.getElem?_eq_none_iff.mpr (by omega)]
        rfl
      rw [e] at q
      exact q

def spDraw : Sp := fun vs H Q _ => ∃ (c k m : Int), vs = [.int c, .int k, .int m] ∧ 0 < m ∧ 0 ≤ k ∧ k ≤ 1000 ∧ ∀ H', Same H H' → Q (.int (draw c k m)) H'
-- slots: 0:_law_cell, 1:_law_k, 2:_law_many, 3:_law_primes, 4:_law_blend
theorem sc_law_draw : FnScope ["_law_cell", "_law_k", "_law_many", "_law_primes", "_law_blend"] ["_law_cell", "_law_k", "_law_many"] (defScope S_law_draw) := ⟨rfl, rfl, rfl, by decide +kernel, rfl, by decide +kernel, by decide +kernel⟩
theorem ok_draw {f : Addr} {fd : FuncData} (F : Fun K "_law_draw" "_law_draw" S_law_draw f fd) : FnOk P w K mg base CX0 1 f fd ["_law_cell", "_law_k", "_law_many"] spDraw := by
  refine F.ok sc_law_draw (fun vs H Q E h => ?_) (fun cdv A outer s H vs Q E hr h => ?_)
  · obtain ⟨c, k, m, rfl, _⟩ := h
    rfl
  · obtain ⟨c, k, m, rfl, hm, hk0, hk1, q⟩ := h
    have nd := sc_law_draw.nd
    refine ⟨_, (pss_cons (ps_set (i := 3) nd rfl (Or.inl rfl) (pe_tup (pa_cons pe_int (pa_cons pe_int (pa_cons pe_int (pa_cons pe_int (pa_cons pe_int (pa_cons pe_int (pa_cons pe_int (pa_cons pe_int pa_nil))))))))))
    (pss_cons (ps_set (i := 4) nd rfl (Or.inl rfl) (pe_op op_add (pe_op op_add (pe_op op_mul (pv 0) pe_int) (pe_op op_mul (pv 1) pe_int)) (pe_op op_mul (pe_op op_mod (pe_op op_fdiv (pv 0) pe_int) pe_int) pe_int)))
    (pss_one (ps_ret (pe_op op_mod (pe_op op_mod (pv 4) (pe_ix ix_tup (pv 3) (pe_op op_mod (pv 1) pe_int) (fun _ _ => rfl))) (pv 2)))))), ?_⟩
    refine ⟨by show 8 ≤ sizeLine; decide, fun p hp => ?_⟩
    refine ⟨_, rfl, _, _, rfl, rfl, .inr ⟨by decide, by decide⟩, _, rfl, _, _, rfl, rfl, .inr ⟨by decide, by decide⟩, _, _, rfl, rfl, _, rfl, _, _, rfl, rfl, ⟨by decide, by decide⟩, _, _, rfl, rfl, (by show (0 : Int) < 1000003; decide), _, _, rfl, rfl, .inr ⟨by decide, by decide⟩, _, _, rfl, rfl, ?_⟩
    have h1 := Int.emod_nonneg k (show (8 : Int) ≠ 0 by decide)
    have h2 := Int.emod_lt_of_pos k (show (0 : Int) < 8 by decide)
    have hl : (k % 8).toNat < primes.length := by simp [primes]; omega
    have hat : atI (primes.map V.int) (k % 8) = some (.int (primes.getD (k % 8).toNat 1)) := by
      have e : k % 8 = ((k % 8).toNat : Int) := by omega
      rw [e]
      refine atI_nat ?_
      rw [List.getElem?_map, Int.toNat_natCast, List.getD_eq_getElem?_getD, List.getElem?_eq_getElem hl]
      rfl
    have hpp : 0 < primes.getD (k % 8).toNat 1 := by
      have hm := getD_mem4 (d := 1) hl
      generalize primes.getD (k % 8).toNat 1 = z at hm
      simp only [primes, List.mem_cons, List.not_mem_nil, or_false] at hm
      omega
    refine ⟨_, rfl, _, rfl, _, rfl, _, _, rfl, rfl, (by show (0 : Int) < 8; decide), p, _, _, _, rfl, rfl, SqT.of upd_same, hat, _, _, rfl, rfl, hpp, _, rfl, _, _, rfl, rfl, hm, ?_⟩
    exact q _ (Same.new hp)

end
end Wr

namespace Wr
open PySem L2 TL
section
variable {P : Program} {w : World} {K : PySem.W.Frag} {mg : Str → Option Value} {base : Heap}
def spNumG : Sp := fun vs H Q _ => ∃ t : Str, vs = [.str t] ∧ t.length ≤ 40000 ∧ Q (.int (numV (tl t))) H
theorem line_20 {n : Nat} (h : n ≤ 40000) : n ≤ sizeLine := Nat.le_trans h (by decide)
-- slots: 0:text
theorem sc_number_in : FnScope ["text"] ["text"] (defScope S_number_in) := ⟨rfl, rfl, rfl, by decide +kernel, rfl, by decide +kernel, by decide +kernel⟩
theorem ok_numberG {f : Addr} {fd : FuncData} (F : Fun K "number_in" "number_in" S_number_in f fd) (B : Bi mg) (mF : ∃ t, mg "FIGURES" = some (.str "0123456789" t)) : FnOk P w K mg base CX0 1 f fd ["text"] spNumG := by
  obtain ⟨tF, m_FIGURES⟩ := mF
  refine F.ok sc_number_in (fun vs H Q E h => ?_) (fun cdv A outer s H vs Q E hr h => ?_)
  · obtain ⟨i, rfl, _⟩ := h
    rfl
  · obtain ⟨t, rfl, hl, k⟩ := h
    have nd := sc_number_in.nd
    have el := len_tl t
    refine ⟨_, (pss_cons (ps_if (PW.pt (pw_or (pt_not (pt_chain op_le op_le pe_int (pe_callB call_len_str (by rfl) B.len (by decide +kernel) (pa_cons (pv 0) pa_nil)) pe_int)) (pw_or (pt_cmpR op_ne (pe_m1 PySem.F.slot_str_strip PySem.F.type_str_strip mt_stripChars (pv 0) (pe_glob (v := .str "0123456789") rfl m_FIGURES ⟨_, rfl⟩)) pe_str (nomark _)) (pw_or1 (PW.pt (pw_and (pt_val (pe_m1 PySem.F.slot_str_startswith PySem.F.type_str_startswith mt_startswith (pv 0) pe_str)) (pw_and1 (pt_cmpR op_ne (pv 0) pe_str (nomark _)))))))))
    (pss_one (ps_ret (pe_un un_neg pe_int))) pss_nil)
    (pss_one (ps_ret (pe_callTy call_int_str (by rfl) B.int (by decide +kernel) (pa_cons (pv 0) pa_nil))))), ?_⟩
    have bad : numB (tl t) = false → Q (.int (-1)) H := fun e => by
      unfold numV at k
      rw [e, if_neg (by decide)] at k
      exact k
    have lb : numB (tl t) = (lenB (tl t) && ((tl t).all digB && !((tl t).head? == some 48 && tl t != [48]))) := rfl
    have lenF : ∀ {c : Prop}, ¬ (1 ≤ (tl t).length ∧ (tl t).length ≤ 7) → lenB (tl t) = false := fun h => by
      unfold lenB
      rw [← Bool.not_eq_true, Bool.and_eq_true, decide_eq_true_eq, decide_eq_true_eq]
      exact h
    refine ⟨_, rfl, t, rfl, line_20 (by omega), _, _, rfl, rfl, _, rfl, ?_⟩
    by_cases c1 : (1 : Int) ≤ (t.length : Int)
    case neg =>
      rw [decide_eq_false c1]
      refine iteF ⟨false, rfl, iteT ?_⟩
      refine iteT ⟨1, rfl, bad ?_⟩
      rw [lb, lenF (c := True) (by omega)]
      rfl
    rw [decide_eq_true c1]
    refine iteT ⟨_, _, rfl, rfl, _, rfl, ?_⟩
    by_cases c7 : (t.length : Int) ≤ 7
    case neg =>
      rw [decide_eq_false c7]
      refine iteT ?_
      refine iteT ⟨1, rfl, bad ?_⟩
      rw [lb, lenF (c := True) (by omega)]
      rfl
    rw [decide_eq_true c7]
    refine iteF ?_
    refine ⟨_, rfl, ⟨_, rfl⟩, _, _, rfl, rfl, line_20 (by omega), rfl, _, rfl, ?_⟩
    by_cases cd : (tl t).all digB = true
    case neg =>
      rw [decide_eq_false (show ¬ V.str (Txt.stripChars t ("0123456789" : Str)) = V.str ("" : Str) from fun z => cd ((strip_iff t).mp (V.str.inj z)))]
      refine iteT ?_
      refine iteT ⟨1, rfl, bad ?_⟩
      rw [lb, Bool.eq_false_iff.mpr cd]
      cases lenB (tl t) <;> rfl
    rw [decide_eq_true (show V.str (Txt.stripChars t ("0123456789" : Str)) = V.str ("" : Str) from congrArg V.str ((strip_iff t).mpr cd))]
    refine iteF ?_
    refine ⟨_, rfl, ⟨_, rfl⟩, _, _, rfl, rfl, _, rfl, ?_⟩
    have lt : lenB (tl t) = true := by
      exact Bool.and_eq_true_iff.mpr ⟨decide_eq_true (by omega), decide_eq_true (by omega)⟩
    rw [lt, cd, Bool.true_and, Bool.true_and] at lb
    have fin : numB (tl t) = true → tRet (tCB (fun xs H Q => ∃ a n, xs = [.str a] ∧ PySem.intText? a = some n ∧ a.length ≤ 640 ∧ Q (.int n) H) (tCons (tVar 0) tNil)) { nx := fun x H' => Q .non H', rt := Q } [some (.str t)] H :=
      fun e => ⟨_, rfl, t, _, rfl, numV_int e, by have := numB_len e; omega, k⟩
    rw [starts0]
    cases e : ((tl t).head? == some 48) with
    | true =>
      refine iteT ?_
      refine ⟨_, rfl, rfl, _, rfl, ?_⟩
      rw [e, Bool.true_and] at lb
      by_cases c0 : tl t = [48]
      · rw [decide_eq_true (show V.str t = V.str ("0" : Str) from congrArg V.str ((is0 t).mpr c0))]
        refine iteF ?_
        refine fin ?_
        rw [lb, c0]
        decide
      · rw [decide_eq_false (show ¬ V.str t = V.str ("0" : Str) from fun z => c0 ((is0 t).mp (V.str.inj z)))]
        refine iteT ⟨1, rfl, bad ?_⟩
        rw [lb]
        simp [c0]
    | false =>
      refine iteF ?_
      refine iteF ?_
      refine fin ?_
      rw [lb, e]
      rfl
end
end Wr

namespace Wr
open PySem L2 TL
theorem rd_not {t : Str} (h : (Txt.split t (" " : Str)).length ≠ 2) : rdV (tl t) = none := by
  unfold rdV
  rw [← spl_sp]
  generalize Txt.split t (" " : Str) = ws at h
  match ws, h with
  | [], _ => rfl
  | [_], _ => rfl
  | [_, _], h => exact absurd rfl h
  | _ :: _ :: _ :: _, _ => rfl
theorem rd_words {t w0 w1 o1 d1 o2 : Str} (h : Txt.split t (" " : Str) = [w0, w1]) (hp : Txt.partition w0 ("-" : Str) = (o1, d1, o2)) :
    rdV (tl t) = (if d1 = ("" : Str) ∨ numV (tl o1) = -1 ∨ numV (tl o2) = -1 ∨ numV (tl w1) = -1 then none else some ⟨numV (tl o1), numV (tl o2), numV (tl w1)⟩) ∧ o1.length ≤ w0.length ∧ o2.length ≤ w0.length ∧ d1.length ≤ 1 := by
  unfold rdV
  rw [← spl_sp, h]
  rw [par_da] at hp
  show (match par [45] [] (tl w0) with | some (x, y) => if numV x = -1 ∨ numV y = -1 ∨ numV (tl w1) = -1 then (none : Option Road) else some ⟨numV x, numV y, numV (tl w1)⟩ | none => none) = _ ∧ _
  cases e : par [45] [] (tl w0) with
  | none =>
    rw [e] at hp
    simp only [Prod.mk.injEq] at hp
    obtain ⟨rfl, rfl, rfl⟩ := hp
    refine ⟨?_, Nat.le_refl _, Nat.zero_le _, Nat.zero_le _⟩
    have e0 : (Str.empty : Str) = ("" : Str) := by decide +kernel
    simp only [e0, true_or, if_true]
  | some z =>
    obtain ⟨x, y⟩ := z
    rw [e] at hp
    simp only [Prod.mk.injEq] at hp
    obtain ⟨rfl, rfl, rfl⟩ := hp
    obtain ⟨l1, l2⟩ := par_len _ _ e
    have nd : ¬ (("-" : Str) = ("" : Str)) := by decide +kernel
    refine ⟨?_, ?_, ?_, by decide +kernel⟩
    · simp only [nd, false_or]
    · rw [len_tl, len_tl w0]
      simpa using l1
    · rw [len_tl, len_tl w0]
      exact l2
section
variable {P : Program} {w : World} {K : PySem.W.Frag} {mg : Str → Option Value} {base : Heap}
def spRoadG : Sp := fun vs H Q _ => ∃ t : Str, vs = [.str t] ∧ t.length ≤ 40000 ∧ (rdV (tl t) = none → ∀ H', Same H H' → Q .non H') ∧
  (∀ r, rdV (tl t) = some r → ∀ p H', H p = none → Same H H' → H' p = some (.tup [.int r.a, .int r.b, .int r.l]) → Q (.ref p) H')
-- slots: 0:text, 1:words, 2:one, 3:dash, 4:other, 5:numbers
theorem sc_road_in : FnScope ["text", "words", "one", "dash", "other", "numbers"] ["text"] (defScope S_road_in) := ⟨rfl, rfl, rfl, by decide +kernel, rfl, by decide +kernel, by decide +kernel⟩
theorem ok_roadG {f : Addr} {fd : FuncData} (F : Fun K "road_in" "road_in" S_road_in f fd) (B : Bi mg) (G_number_in : Gd P w K mg base 1 "number_in" ["text"] spNumG) : FnOk P w K mg base CX0 2 f fd ["text"] spRoadG := by
  refine F.ok sc_road_in (fun vs H Q E h => ?_) (fun cdv A outer s H vs Q E hr h => ?_)
  · obtain ⟨r, rfl, _⟩ := h
    rfl
  · obtain ⟨t, rfl, hl, kN, kS⟩ := h
    have nd := sc_road_in.nd
    obtain ⟨sl1, sl2⟩ := spl_len_str (t := t) (y := (" " : Str)) (by rw [tl_sp]; decide) (by decide +kernel)
    refine ⟨_, (pss_cons (ps_set (i := 1) nd rfl (Or.inl rfl) (pe_split (pv 0) pe_str))
    (pss_cons (ps_if (pt_cmpR op_ne (pe_callB call_len_seq (by rfl) B.len (by decide +kernel) (pa_cons (pv 1) pa_nil)) pe_int (nomark _))
    (pss_one (ps_ret pe_non)) pss_nil)
    (pss_cons (ps_asg (pe_partition (pe_ix ix_list (pv 1) pe_int (fun _ _ => rfl)) pe_str) (pg_tup rfl (pgs_cons (pg_name (i := 2) nd rfl (Or.inl rfl)) (pgs_cons (pg_name (i := 3) nd rfl (Or.inl rfl)) (pgs_cons (pg_name (i := 4) nd rfl (Or.inl rfl)) pgs_nil)))))
    (pss_cons (ps_set (i := 5) nd rfl (Or.inl rfl) (pe_tup (pa_cons (pe_g G_number_in hr rfl (pa_cons (pv 2) pa_nil)) (pa_cons (pe_g G_number_in hr rfl (pa_cons (pv 4) pa_nil)) (pa_cons (pe_g G_number_in hr rfl (pa_cons (pe_ix ix_list (pv 1) pe_int (fun _ _ => rfl)) pa_nil)) pa_nil)))))
    (pss_cons (ps_if (PW.pt (pw_or (pt_cmpR op_eq (pv 3) pe_str (nomark _)) (pw_or1 (pt_cmpR op_in_seq (pe_un un_neg pe_int) (pv 5) rfl))))
    (pss_one (ps_ret pe_non)) pss_nil)
    (pss_one (ps_ret (pv 5)))))))), ?_⟩
    refine ⟨_, rfl, ⟨_, rfl⟩, _, _, rfl, rfl, by decide +kernel, Nat.le_trans (show t.length + 2 ≤ 40002 by omega) (by decide), fun p hp => ?_⟩
    generalize ew : Txt.split t (" " : Str) = ws at sl1 sl2
    have s1 := Same.new (o := .lst (ws.map V.str)) hp
    have hp1 : upd H p (.lst (ws.map V.str)) p = some (.lst (ws.map V.str)) := upd_same
    refine of_gName (of_nx ?_)
    show tSeq _ _ _ _ (upd H p (.lst (ws.map V.str)))
    generalize upd H p (.lst (ws.map V.str)) = H1 at s1 hp1 ⊢
    refine ⟨_, rfl, p, _, rfl, .inl (SqL.of hp1), rfl, _, rfl, ?_⟩
    rw [List.length_map]
    by_cases c2 : ws.length = 2
    case neg =>
      have hd : (!decide (V.int ((ws.length : Nat) : Int) = V.int 2)) = true := by
        rw [dec_int]
        have : ((ws.length : Nat) : Int) ≠ 2 := by omega
        simp [this]
      rw [hd]
      refine iteT ?_
      exact kN (rd_not (by rw [ew]; exact c2)) H1 s1
    have hd : (!decide (V.int ((ws.length : Nat) : Int) = V.int 2)) = false := by
      rw [dec_int, c2]; rfl
    rw [hd]
    refine iteF ?_
    obtain ⟨w0, w1, rfl⟩ : ∃ w0 w1, ws = [w0, w1] := by
      match ws, c2 with
      | [a, b], _ => exact ⟨a, b, rfl⟩
    have l0 := sl2 w0 (by simp)
    have l1 := sl2 w1 (by simp)
    refine ⟨_, rfl, p, _, 0, _, rfl, rfl, SqL.of hp1, rfl, ⟨_, rfl⟩, _, _, rfl, rfl, by decide +kernel, line_20 (by omega), fun q hq => ?_⟩
    generalize ep : Txt.partition w0 ("-" : Str) = pp
    obtain ⟨o1, d1, o2⟩ := pp
    obtain ⟨er, lo1, lo2, ld⟩ := rd_words ew ep
    refine ⟨q, _, rfl, SqT.of upd_same, rfl, _, _, rfl, _, _, rfl, _, _, rfl, rfl, ?_⟩
    have s2 := s1.trans (Same.new (o := .tup [.str o1, .str d1, .str o2]) hq)
    have hp2 := keepN (u := .tup [.str o1, .str d1, .str o2]) hp1 hq
    show tSeq _ _ _ _ (upd H1 q (.tup [.str o1, .str d1, .str o2]))
    generalize upd H1 q (.tup [.str o1, .str d1, .str o2]) = H2 at s2 hp2 ⊢
    refine ⟨_, rfl, o1, rfl, by omega, _, rfl, o2, rfl, by omega, _, rfl, p, _, 1, _, rfl, rfl, SqL.of hp2, rfl, w1, rfl, by omega, by show 3 ≤ sizeLine; decide, fun d hd => ?_⟩
    generalize numV (tl o1) = a at er ⊢
    generalize numV (tl o2) = b at er ⊢
    generalize numV (tl w1) = l at er ⊢
    have s3 := s2.trans (Same.new (o := .tup [.int a, .int b, .int l]) hd)
    have hd3 : upd H2 d (.tup [.int a, .int b, .int l]) d = some (.tup ([a, b, l].map V.int)) := upd_same
    refine of_gName (of_nx ?_)
    show tSeq _ _ _ _ (upd H2 d (.tup [.int a, .int b, .int l]))
    generalize upd H2 d (.tup [.int a, .int b, .int l]) = H3 at s3 hd3 ⊢
    refine ⟨_, rfl, rfl, _, rfl, ?_⟩
    by_cases c0 : d1 = ("" : Str)
    · rw [decide_eq_true (show V.str d1 = V.str ("" : Str) from congrArg V.str c0)]
      refine iteT ?_
      refine iteT ?_
      exact kN (by rw [er, if_pos (.inl c0)]) H3 s3
    rw [decide_eq_false (show ¬ V.str d1 = V.str ("" : Str) from fun z => c0 (V.str.inj z))]
    refine iteF ?_
    refine ⟨_, rfl, _, rfl, d, _, rfl, .inr (SqT.of hd3), rfl, flat_ints _, _, rfl, ?_⟩
    by_cases cm : (-1 : Int) ∈ [a, b, l]
    · rw [inV_ints, decide_eq_true cm]
      refine iteT ?_
      simp only [List.mem_cons, List.not_mem_nil, or_false] at cm
      exact kN (by rw [er, if_pos (by omega)]) H3 s3
    · rw [inV_ints, decide_eq_false cm]
      refine iteF ?_
      simp only [List.mem_cons, List.not_mem_nil, or_false, not_or] at cm
      exact ⟨_, rfl, kS ⟨a, b, l⟩ (by rw [er, if_neg (by simp only [c0, false_or]; omega)]) d H3 (s2.free hd) s3 hd3⟩
end
end Wr

namespace Wr
open PySem L2
section
variable {P : Program} {w : World} {K : PySem.W.Frag} {mg : Str → Option Value} {base : Heap}
/-- RoadError: its __init__ is ValueError's -/
structure Rz (K : PySem.W.Frag) (mg : Str → Option Value) (R : Addr) : Prop where
  m : mg "RoadError" = some (.ref R)
  sp : PySem.W.specialIn K (.ref R) "__getattribute__" = some (some (.builtin "type.__getattribute__"))
  rd : PySem.W.readsIn K R (.type "type") = true
  fc : PySem.W.findCls K (.ref R) (.type "type") "__init__" = some (.val (.builtin "ValueError.__init__"))
theorem sc_BadRow_init : FnScope ["self", "row"] ["self", "row"] (defScope S_BadRow_init) := ⟨rfl, rfl, rfl, by decide +kernel, rfl, by decide +kernel, by decide +kernel⟩
theorem ok_rowI {f C R : Addr} {fd : FuncData} (F : Fun K "__init__" "BadRow.__init__" S_BadRow_init f fd) (Z : Rz K mg R) (T : OexC K C) (nr : PySem.W.findIn K (.ref C) "row" = some none) : FnOk P w K mg base CX0 1 f fd ["self", "row"] (spRowI K C) := by
  refine F.ok sc_BadRow_init (fun vs H Q E h => ?_) (fun cdv A outer s H vs Q E hr h => ?_)
  · obtain ⟨a, r, rfl, _⟩ := h
    rfl
  · obtain ⟨a, r, rfl, ha, k⟩ := h
    refine ⟨_, pss_cons (ps_expr (pe_rinit (x := "RoadError") (by rfl) Z.m Z.sp Z.rd Z.fc (pa_cons (pv 0) (pa_cons pe_str pa_nil)))) (pss_one (ps_ost (pv 0) (pv 1))), ?_⟩
    refine ⟨_, rfl, a, C, _, rfl, (by show 1 ≤ 1000; decide), T, ha, ?_⟩
    exact ⟨_, rfl, _, rfl, a, C, rfl, T, nr, .inl ⟨ha, fun dx n ne => k dx n ne⟩⟩
theorem ok_rowH {f C R : Addr} {fd : FuncData} (F : Fun K "__init__" "BadRow.__init__" S_BadRow_init f fd) (Z : Rz K mg R) (T : OexC K C) (nr : PySem.W.findIn K (.ref C) "row" = some none) : L2H.FnH P w K mg base CX0 1 f fd ["self", "row"] (spRowI K C) := by
  refine Fun.okH F sc_BadRow_init (fun vs H Q E h => ?_) (fun cdv A outer s H vs Q E p hot hr h => ?_)
  · obtain ⟨a, r, rfl, _⟩ := h
    rfl
  · obtain ⟨a, r, rfl, ha, k⟩ := h
    refine ⟨_, pss_cons (ps_expr (pe_rinit (x := "RoadError") (by rfl) Z.m Z.sp Z.rd Z.fc (pa_cons (pv 0) (pa_cons pe_str pa_nil)))) (pss_one (ps_ost (pv 0) (pv 1))), ?_⟩
    refine ⟨_, rfl, a, C, _, rfl, (by show 1 ≤ 1000; decide), T, ha, ?_⟩
    exact ⟨_, rfl, _, rfl, a, C, rfl, T, nr, .inl ⟨ha, fun dx n ne => k dx n ne⟩⟩
end
end Wr

namespace Wr
open PySem L2 TL
theorem roadArg_any {K : PySem.W.Frag} {H : Hp} {n : Nat} {r : Road} {v : V} (h : RoadAt H r v) : RoadArg K H n v (roadV [.int r.a, .int r.b, .int r.l] n) := by
  obtain ⟨t, rfl, ht⟩ := h
  refine .inl ⟨t, _, rfl, ht, fun y hy => ?_, rfl⟩
  simp only [List.mem_cons, List.not_mem_nil, or_false] at hy
  rcases hy with rfl | rfl | rfl <;> exact Plain.int _
theorem roadArgs_any {K : PySem.W.Frag} {H : Hp} {n : Nat} : ∀ {rs : List Road} {us : List V}, RoadsAt H rs us → Paired (fun b u => RoadArg K H n u b) (rs.map fun r => roadV [.int r.a, .int r.b, .int r.l] n) us
  | _, _, .nil => .nil
  | _, _, .cons h r => .cons (roadArg_any h) (roadArgs_any r)
theorem roadV_true {r : Road} {n : Nat} (h : roadV [.int r.a, .int r.b, .int r.l] n = true) : 0 ≤ r.a ∧ r.a < n ∧ 0 ≤ r.b ∧ r.b < n ∧ r.a ≠ r.b ∧ 1 ≤ r.l ∧ r.l ≤ 1000000 := by
  simp [roadV, withinV] at h
  omega
theorem roads_updL {H : Hp} {p : Addr} {zs ys : List V} {rs : List Road} {us : List V} (h : RoadsAt H rs us) (hp : H p = some (.lst zs)) : RoadsAt (upd H p (.lst ys)) rs us := Paired.mapP h fun _ _ ⟨t, e1, e2⟩ => ⟨t, e1, keepU e2 hp (by intro z; cases z)⟩
/-- what Tree(n, roads) comes to, the roads being triples of numbers -/
theorem init_any {K : PySem.W.Frag} {H : Hp} {a : Addr} {us : List V} {n : Nat} {rs : List Road} (ha : H a = some (.lst us)) (hR : RoadsAt H rs us) (h1 : 1 ≤ n) :
    (IsTree n rs ∧ InitRes K H (.int n) (.ref a) (some (n, rs))) ∨ (¬ IsTree n rs ∧ InitRes K H (.int n) (.ref a) none) := by
  have lu := hR.length
  by_cases c12 : n ≤ 12
  case neg =>
    refine .inr ⟨fun T => c12 T.le, .num (Plain.int _) ?_⟩
    simp [withinV]
    omega
  by_cases cl : us.length + 1 = n
  case neg => exact .inr ⟨fun T => cl (by rw [← lu]; exact T.len), .count h1 c12 ha cl⟩
  by_cases ck : RoadsOk n rs
  case neg =>
    refine .inr ⟨fun T => ck T.toRoadsOk, .road c12 ha cl (roadArgs_any hR) ?_⟩
    apply Classical.byContradiction
    intro nf
    refine ck ⟨fun r hr => roadV_true (n := n) ?_⟩
    cases e : roadV [.int r.a, .int r.b, .int r.l] n with
    | true => rfl
    | false => exact absurd (List.mem_map.mpr ⟨r, hr, e⟩) nf
  by_cases cw : (walked n rs 0).length < n
  · refine .inr ⟨fun T => ?_, .round c12 ha cl hR ck cw⟩
    have := T.len_walked (s := 0) ⟨by omega, by omega⟩
    omega
  · have T := tree_of_len ck h1 c12 (by rw [lu]; exact cl) cw
    exact .inl ⟨T, .good ha hR T⟩
theorem head_words {t o1 d1 o2 : Str} (hp : Txt.partition t (" " : Str) = (o1, d1, o2)) : headV (tl t) = (if o1 = ("villages" : Str) ∧ d1 ≠ ("" : Str) then numV (tl o2) else -1) ∧ o1.length ≤ t.length ∧ o2.length ≤ t.length := by
  unfold headV
  rw [par_sp] at hp
  cases e : par [32] [] (tl t) with
  | none =>
    rw [e] at hp
    simp only [Prod.mk.injEq] at hp
    obtain ⟨rfl, rfl, rfl⟩ := hp
    refine ⟨?_, Nat.le_refl _, Nat.zero_le _⟩
    have e0 : (Str.empty : Str) = ("" : Str) := by decide +kernel
    simp only [e0, ne_eq, not_true_eq_false, and_false, if_false]
  | some z =>
    obtain ⟨x, y⟩ := z
    rw [e] at hp
    simp only [Prod.mk.injEq] at hp
    obtain ⟨rfl, rfl, rfl⟩ := hp
    obtain ⟨l1, l2⟩ := par_len _ _ e
    have nd : ¬ ((" " : Str) = ("" : Str)) := by decide +kernel
    have ev : ((⟨x.toArray⟩ : Str) = ("villages" : Str)) ↔ x = viL := by
      constructor
      · intro h
        have := congrArg tl h
        rw [tl_v] at this
        exact this
      · intro h
        exact ext_tl (by rw [tl_v]; exact h)
    refine ⟨?_, ?_, ?_⟩
    · simp only [ne_eq, nd, not_false_eq_true, and_true, ev]
    · rw [len_tl, len_tl t]
      simpa using l1
    · rw [len_tl, len_tl t]
      exact l2
theorem ref_head {r : List Nat} {rs : List (List Nat)} {c : Int} (h : Ref (r :: rs) c) (h1 : headV r < 1) : c = 1 := by
  cases h with
  | head _ => rfl
  | row h _ => omega
  | none h _ _ => omega
  | tree h _ _ => omega
theorem ref_row {r : List Nat} {rs : List (List Nat)} {c : Int} {k : Nat} (h : Ref (r :: rs) c) (h1 : ¬ headV r < 1) (hb : badFrom 2 rs = some k) : c = k := by
  cases h with
  | head h => omega
  | row _ q => rw [hb] at q; cases q; rfl
  | none _ q _ => rw [hb] at q; cases q
  | tree _ q _ => rw [hb] at q; cases q
theorem ref_none {r : List Nat} {rs : List (List Nat)} {c : Int} (h : Ref (r :: rs) c) (h1 : ¬ headV r < 1) (hb : badFrom 2 rs = none) (hT : ¬ IsTree (headV r).toNat (rs.filterMap rdV)) : c = (rs.length + 2 : Nat) := by
  cases h with
  | head h => omega
  | row _ q => rw [hb] at q; cases q
  | none _ q _ => rfl
  | tree _ q T => exact absurd T hT
theorem ref_tree {r : List Nat} {rs : List (List Nat)} {c : Int} (h : Ref (r :: rs) c) (h1 : ¬ headV r < 1) (hb : badFrom 2 rs = none) (hT : IsTree (headV r).toNat (rs.filterMap rdV)) : c = 0 := by
  cases h with
  | head h => omega
  | row _ q => rw [hb] at q; cases q
  | none _ q T => exact absurd hT T
  | tree _ q T => rfl
section
variable {P : Program} {w : World} {K : PySem.W.Frag} {mg : Str → Option Value} {base : Heap}
def spReadG (CR : Addr) : Sp := fun vs H Q E => ∃ (t : Str) (c : Int), vs = [.str t] ∧ t.length ≤ 40000 ∧ Ref (spl [10] 0 [] (tl t)) c ∧ (c = 0 → ∀ p H', Same H H' → Q (.ref p) H') ∧
  (c ≠ 0 → ∀ d H', Same H H' → H' d = some (.xd [("row", .int c)]) → E (.ref CR) (some d) H')
-- slots: 0:text, 1:rows, 2:word, 3:blank, 4:number, 5:roads, 6:k, 7:road, 8:tree
theorem sc_read : FnScope ["text", "rows", "word", "blank", "number", "roads", "k", "road", "tree"] ["text"] (defScope S_read) := ⟨rfl, rfl, rfl, by decide +kernel, rfl, by decide +kernel, by decide +kernel⟩
theorem ok_readG {f C CB CR fI : Addr} {fd fdI : FuncData} (F : Fun K "read" "read" S_read f fd) (B : Bi mg) (X_BadTree : Xc K mg "BadTree" CB) (eB : PySem.W.exmOne K (.ref CB) (.ref CB) = some true) (R : Rx P w K mg base CR fI fdI) (G_number_in : Gd P w K mg base 1 "number_in" ["text"] spNumG) (G_road_in : Gd P w K mg base 2 "road_in" ["text"] spRoadG)
    (GC_Tree : GcN P w K mg base C 4 "Tree" ["self", "villages", "roads"] (spInitX (K := K) C CB)) : FnOk P w K mg base (CXq P w) 6 f fd ["text"] (spReadG CR) := by
  refine Fun.okQ F sc_read (fun vs H Q E h => ?_) (fun cdv A outer s H vs Q E hr h => ?_)
  · obtain ⟨t, c, rfl, _⟩ := h
    rfl
  · obtain ⟨t, c, rfl, hl, hRef, kq, ke⟩ := h
    have nd := sc_read.nd
    refine ⟨_, (pss_cons (ps_set (i := 1) nd rfl (Or.inl rfl) (pe_split (pv 0) pe_str))
    (pss_cons (ps_asg (pe_partition (pe_ix ix_list (pv 1) pe_int (fun _ _ => rfl)) pe_str) (pg_tup rfl (pgs_cons (pg_name (i := 2) nd rfl (Or.inl rfl)) (pgs_cons (pg_name (i := 3) nd rfl (Or.inl rfl)) (pgs_cons (pg_name (i := 4) nd rfl (Or.inl rfl)) pgs_nil)))))
    (pss_cons (ps_if (PW.pt (pw_or (pt_cmpR op_ne (pv 2) pe_str (nomark _)) (pw_or (pt_cmpR op_eq (pv 3) pe_str (nomark _)) (pw_or1 (pt_cmpR op_lt (pe_g G_number_in hr rfl (pa_cons (pv 4) pa_nil)) pe_int (nomark _))))))
    (pss_one (ps_row R hr rfl (takesq_of rfl rfl rfl rfl) (by rfl) (pa_cons pe_int pa_nil))) pss_nil)
    (pss_cons (ps_set (i := 5) nd rfl (Or.inl rfl) (pe_lst pa_nil))
    (pss_cons (ps_for (passes_of rfl) rfl (pi_range2 (by rfl) B.range (pa_cons pe_int (pa_cons (pe_callB call_len_seq (by rfl) B.len (by decide +kernel) (pa_cons (pv 1) pa_nil)) pa_nil))) (pg_name (i := 6) nd rfl (Or.inl rfl))
    (pss_cons (ps_set (i := 7) nd rfl (Or.inl rfl) (pe_g G_road_in hr rfl (pa_cons (pe_ix ix_list (pv 1) (pv 6) (fun _ _ => rfl)) pa_nil)))
    (pss_cons (ps_if (pt_cmp (pc_isN (pv 7)))
    (pss_one (ps_row R hr rfl (takesq_of rfl rfl rfl rfl) (by rfl) (pa_cons (pe_op op_add (pv 6) pe_int) pa_nil))) pss_nil)
    (pss_one (ps_expr (pe_bm PySem.F.plainAttrs_list PySem.F.slot_list_append PySem.F.type_list_append mt_append (pv 5) (pa_cons (pv 7) pa_nil)))))))
    (pss_one (ps_tryElseQ (pss_one (ps_ret (pv 8))) rfl rfl ⟨rfl, by decide, .inl X_BadTree.g⟩ (fun hd => PassesOwnAt.leaving) (takesq_of rfl rfl rfl rfl) (fun W pn xe tk po => pss_one (ps_set (i := 8) nd rfl (Or.inl rfl) (pe_gcN GC_Tree hr rfl tk (pa_cons (pe_g G_number_in hr rfl (pa_cons (pv 4) pa_nil)) (pa_cons (pv 5) pa_nil))))) (fun a oe cls d pn hz hf tkS hot => pss_one (ps_rowHK K R (L2H.roomH_mark hr _) hot tkS (by rfl) (pa_cons (pe_op op_add (pe_callB (call_lenK K) (by rfl) B.len (by decide +kernel) (pa_cons (pv 1) pa_nil)) pe_int) pa_nil)))))))))), ?_⟩
    obtain ⟨sl1, sl2⟩ := spl_len_str (t := t) (y := ("\n" : Str)) (by rw [tl_nl]; decide) (by decide +kernel)
    have es := spl_nl t
    rw [← es] at hRef
    refine ⟨_, rfl, ⟨_, rfl⟩, _, _, rfl, rfl, by decide +kernel, Nat.le_trans (show t.length + 2 ≤ 40002 by omega) (by decide), fun p hp => ?_⟩
    have ene := spl_ne (S := [10]) (tl t) 0 []
    rw [← es] at ene
    generalize Txt.split t ("\n" : Str) = rows at sl1 sl2 hRef ene
    obtain ⟨r0, rs, rfl⟩ : ∃ r0 rs, rows = r0 :: rs := by
      cases rows with
      | nil => exact absurd rfl ene
      | cons r0 rs => exact ⟨r0, rs, rfl⟩
    rw [List.map_cons] at hRef
    have l0 := sl2 r0 (List.mem_cons_self ..)
    have s1 := Same.new (o := .lst ((r0 :: rs).map V.str)) hp
    have hp1 : upd H p (.lst ((r0 :: rs).map V.str)) p = some (.lst ((r0 :: rs).map V.str)) := upd_same
    refine of_gName (of_nx ?_)
    show tSeq _ _ _ _ (upd H p (.lst ((r0 :: rs).map V.str)))
    generalize upd H p (.lst ((r0 :: rs).map V.str)) = H1 at s1 hp1 ⊢
    have hat0 : atI ((r0 :: rs).map V.str) 0 = some (.str r0) := atI_nat (j := 0) (by simp)
    refine ⟨_, rfl, p, _, 0, _, rfl, rfl, SqL.of hp1, hat0, ⟨_, rfl⟩, _, _, rfl, rfl, by decide +kernel, line_20 (by omega), fun q hq => ?_⟩
    generalize ep : Txt.partition r0 (" " : Str) = pp
    obtain ⟨o1, d1, o2⟩ := pp
    obtain ⟨eh, lo1, lo2⟩ := head_words ep
    refine ⟨q, _, rfl, SqT.of upd_same, rfl, _, _, rfl, _, _, rfl, _, _, rfl, rfl, ?_⟩
    have s2 := s1.trans (Same.new (o := .tup [.str o1, .str d1, .str o2]) hq)
    have hp2 := keepN (u := .tup [.str o1, .str d1, .str o2]) hp1 hq
    show tSeq _ _ _ _ (upd H1 q (.tup [.str o1, .str d1, .str o2]))
    generalize upd H1 q (.tup [.str o1, .str d1, .str o2]) = H2 at s2 hp2 ⊢
    have bad1 : headV (tl r0) < 1 → tMkO CR (spRowI K CR) [] (tCons (tC (.int 1)) tNil) [some (.str t), some (.ref p), some (.str o1), some (.str d1), some (.str o2), none, none, none, none] H2 (fun cls d H' => E cls d H') := fun h1 => by
      have ec := ref_head hRef h1
      subst ec
      exact row_made fun d H' s' hd' => ke (by decide) d H' (s2.trans s') hd'
    refine ⟨_, rfl, rfl, _, rfl, ?_⟩
    by_cases c1 : o1 = ("villages" : Str)
    case neg =>
      rw [decide_eq_false (show ¬ V.str o1 = V.str ("villages" : Str) from fun z => c1 (V.str.inj z))]
      refine iteT ?_
      refine iteT ?_
      exact bad1 (by rw [eh, if_neg (fun z => c1 z.1)]; decide)
    rw [decide_eq_true (show V.str o1 = V.str ("villages" : Str) from congrArg V.str c1)]
    refine iteF ?_
    refine ⟨_, rfl, rfl, _, rfl, ?_⟩
    by_cases c2 : d1 = ("" : Str)
    · rw [decide_eq_true (show V.str d1 = V.str ("" : Str) from congrArg V.str c2)]
      refine iteT ?_
      refine iteT ?_
      exact bad1 (by rw [eh, if_neg (fun z => z.2 c2)]; decide)
    rw [decide_eq_false (show ¬ V.str d1 = V.str ("" : Str) from fun z => c2 (V.str.inj z))]
    refine iteF ?_
    rw [if_pos ⟨c1, c2⟩] at eh
    refine ⟨_, rfl, o2, rfl, by omega, _, _, rfl, rfl, _, rfl, ?_⟩
    rw [← eh]
    by_cases c3 : headV (tl r0) < 1
    · rw [decide_eq_true c3]
      refine iteT ?_
      exact bad1 c3
    rw [decide_eq_false c3]
    refine iteF ?_
    refine ⟨Nat.zero_le _, fun l hl => ?_⟩
    have hlH : H l = none := s2.free hl
    have s3 := s2.trans (Same.new (o := .lst []) hl)
    have hp3 := keepN (u := .lst []) hp2 hl
    have hl3 : upd H2 l (.lst []) l = some (.lst []) := upd_same
    refine of_gName ?_
    have tlen : ((r0 :: rs).map V.str).length = rs.length + 1 := by simp
    have rsl : rs.length ≤ 40000 := by
      rw [List.length_cons] at sl1
      omega
    generalize upd H2 l (.lst []) = H3 at s3 hp3 hl3 ⊢
    refine ⟨_, rfl, p, _, rfl, .inl (SqL.of hp3), 1, _, rfl, ⟨by decide, by decide, by omega, by omega⟩, for_range (lo := 1) (n := (((((r0 :: rs).map V.str).length : Nat) : Int) - 1).toNat) (fun i σ' H' => ∃ (us : List V) (v6 v7 : Option V), σ' = [some (.str t), some (.ref p), some (.str o1), some (.str d1), some (.str o2), some (.ref l), v6, v7, none] ∧ Same H H' ∧ H' p = some (.lst ((r0 :: rs).map V.str)) ∧
      H' l = some (.lst us) ∧ (∀ r ∈ (rs.map tl).take i, ∃ d, rdV r = some d) ∧ RoadsAt H' (((rs.map tl).take i).filterMap rdV) us ∧ us.length = i) ⟨[], none, none, rfl, s3, hp3, hl3, (fun r hr => by rw [List.take_zero] at hr; cases hr), .nil, rfl⟩ ?_ ?_⟩
    · rintro i σ' H4 hi ⟨us, v6, v7, rfl, s4, hp4, hl4, hg4, hR4, ul⟩
      have hi' : i < rs.length := by omega
      obtain ⟨ri, hri⟩ : ∃ ri, rs[i]? = some ri := ⟨_, List.getElem?_eq_getElem hi'⟩
      have hri2 : (rs.map tl)[i]? = some (tl ri) := by rw [List.getElem?_map, hri]; rfl
      have li := sl2 ri (List.mem_cons_of_mem _ (List.mem_of_getElem? hri))
      have hat : atI ((r0 :: rs).map V.str) (1 + (i : Int)) = some (.str ri) := by
        rw [show 1 + (i : Int) = ((i + 1 : Nat) : Int) by omega]
        exact atI_nat (by simp [hri])
      have etake : (rs.map tl).take (i + 1) = (rs.map tl).take i ++ [tl ri] := by rw [List.take_add_one, hri2]; rfl
      refine ⟨_, rfl, _, rfl, p, _, 1 + (i : Int), _, rfl, rfl, SqL.of hp4, hat, ri, rfl, by omega, fun eN H5 s5 => ?_, fun rd eS q H5 hq s5 hq5 => ?_⟩
      · refine ⟨_, rfl, _, rfl, ?_⟩
        refine iteT ?_
        have hb : badFrom 2 (rs.map tl) = some (2 + i) := by
          have hs : rs.map tl = (rs.map tl).take i ++ tl ri :: (rs.map tl).drop (i + 1) := by
            conv => lhs; rw [← List.take_append_drop (i + 1) (rs.map tl), etake]
            simp
          have ht : ((rs.map tl).take i).length = i := by rw [List.length_take, List.length_map]; omega
          rw [hs, badFrom_at hg4 eN, ht]
        have ec := ref_row hRef c3 hb
        refine ⟨_, rfl, _, _, rfl, rfl, ?_⟩
        have ec2 : c = 1 + (i : Int) + 1 := by omega
        subst ec2
        exact row_made fun d H' s' hd' => ke (by omega) d H' ((s4.trans s5).trans s') hd'
      · refine ⟨_, rfl, _, rfl, ?_⟩
        refine iteF ?_
        have hl5 := s5 _ _ hl4
        refine ⟨_, rfl, .inl ⟨rfl, _, SqL.of hl5⟩, _, rfl, l, _, _, rfl, rfl, hl5, Nat.le_trans (show us.length + 1 ≤ 40001 by omega) (by decide), ?_⟩
        refine ⟨us ++ [.ref q], _, _, rfl, Same.mut (s4.trans s5) hlH, ?_, upd_same, fun r hr => ?_, ?_, by simp [ul]⟩
        · rw [upd_ne (ne_of_none hp2 hl)]; exact s5 _ _ hp4
        · rw [etake] at hr
          rcases List.mem_append.mp hr with old | hr
          · exact hg4 r old
          · obtain rfl := List.mem_singleton.mp hr
            exact ⟨_, eS⟩
        · rw [etake, List.filterMap_append]
          have : [tl ri].filterMap rdV = [rd] := by simp [eS]
          rw [this]
          exact paired_snoc (roads_updL (hR4.same s5) hl5) ⟨q, rfl, keepU hq5 hl5 (by intro z; cases z)⟩
    · rintro σ' H4 ⟨us, v6, v7, rfl, s4, hp4, hl4, hg4, hR4, ul⟩
      rw [List.take_of_length_le (by rw [List.length_map]; omega)] at hR4 hg4
      have hb := badFrom_good (k := 2) hg4
      obtain ⟨n, en⟩ : ∃ n : Nat, headV (tl r0) = n := ⟨(headV (tl r0)).toNat, by omega⟩
      have en2 : (headV (tl r0)).toNat = n := by omega
      refine ⟨_, rfl, o2, rfl, by omega, _, rfl, fun x dx ht hdx hne => ?_⟩
      rw [← eh, en]
      have s23 : Same H4 (upd (upd H4 dx (.own x)) x (.ins C dx [])) := fun b o e => by
        rw [upd_ne (ne_of_none e ht), upd_ne (ne_of_none e hdx)]; exact e
      have h3 : ∀ {H5 : Hp}, (∀ b o, upd (upd H4 dx (.own x)) x (.ins C dx []) b = some o → b ≠ x → H5 b = some o) → Same H4 H5 := fun kp b o e => kp b o (s23 b o e) (ne_of_none e ht)
      rcases init_any (K := K) (n := n) (s23 _ _ hl4) (hR4.same s23) (by omega) with ⟨T, hI⟩ | ⟨T, hI⟩
      · have ec := ref_tree hRef c3 hb (by rw [en2]; exact T)
        refine ⟨x, dx, _, _, _, rfl, upd_same, hI, fun n' rs' e H5 kp hTr => ⟨rfl, ?_⟩, fun e => nomatch e⟩
        exact ⟨_, rfl, kq ec x H5 (s4.trans (h3 kp))⟩
      · have ec := ref_none hRef c3 hb (by rw [en2]; exact T)
        refine ⟨x, dx, _, _, _, rfl, upd_same, hI, fun n' rs' e => (nomatch e), fun e H5 kp => ⟨eB, fun a ha => ?_⟩⟩
        have s5 := h3 kp
        refine ⟨_, rfl, p, _, rfl, .inl (SqL.of (s5 _ _ hp4)), _, _, rfl, rfl, ?_⟩
        have ec2 : c = ((((r0 :: rs).map V.str).length : Nat) : Int) + 1 := by
          rw [tlen, ec, List.length_map]
          omega
        have c0 : c ≠ 0 := by omega
        clear ec
        subst ec2
        exact row_made fun d H' s' hd' => ke c0 d H' ((s4.trans s5).trans s') hd'
end
end Wr

namespace Wr
open PySem L2 TL
section
variable {P : Program} {w : World} {K : PySem.W.Frag} {mg : Str → Option Value} {base : Heap}
def spRefused : Sp := fun vs H Q _ => ∃ (t : Str) (c : Int), vs = [.str t] ∧ t.length ≤ 40000 ∧ Ref (spl [10] 0 [] (tl t)) c ∧ ∀ H', Same H H' → Q (.int c) H'
/-- what is asked of BadRow where it is caught -/
structure Ck (K : PySem.W.Frag) (mg : Str → Option Value) (CR C1 C2 C3 C4 CE : Addr) : Prop where
  mR : mg "BadRow" = some (.ref CR)
  m1 : mg "BadTree" = some (.ref C1)
  m2 : mg "NoRoad" = some (.ref C2)
  m3 : mg "NoVillage" = some (.ref C3)
  m4 : mg "BadNumber" = some (.ref C4)
  mE : mg "RoadError" = some (.ref CE)
  mV : mg "ValueError" = none
  ec : ExcC K CR
  xf : XfC K CR
  nr : PySem.W.findIn K (.ref CR) "row" = some none
  eR : PySem.W.exmOne K (.ref CR) (.ref CE) = some true
  i1 : PySem.W.kitOne K (.ref CR) (.ref C1) = some false
  i2 : PySem.W.kitOne K (.ref CR) (.ref C2) = some false
  i3 : PySem.W.kitOne K (.ref CR) (.ref C3) = some false
  i4 : PySem.W.kitOne K (.ref CR) (.ref C4) = some false
  iR : PySem.W.kitOne K (.ref CR) (.ref CR) = some true
  iV : PySem.W.kitOne K (.ref CR) (.type "ValueError") = some true
-- slots: 0:_law_text, 1:error, 2:_law_others
theorem sc_law_refused : FnScope ["_law_text", "error", "_law_others"] ["_law_text"] (defScope S_law_refused) := ⟨rfl, rfl, rfl, by decide +kernel, rfl, by decide +kernel, by decide +kernel⟩
theorem ok_refused {f CR C1 C2 C3 C4 CE : Addr} {fd : FuncData} (F : Fun K "_law_refused" "_law_refused" S_law_refused f fd) (B : Bi mg) (Z : Ck K mg CR C1 C2 C3 C4 CE) (G_read : GdQ P w K mg base 6 "read" ["text"] (spReadG CR)) : FnOk P w K mg base CX0 7 f fd ["_law_text"] spRefused := by
  refine F.ok sc_law_refused (fun vs H Q E h => ?_) (fun cdv A outer s H vs Q E hr h => ?_)
  · obtain ⟨t, c, rfl, _⟩ := h
    rfl
  · obtain ⟨t, c, rfl, hl, hRef, k⟩ := h
    have nd := sc_law_refused.nd
    refine ⟨_, (pss_cons (ps_tryAsQ (i := 1) rfl rfl nd rfl rfl ⟨rfl, by decide, .inl Z.mE⟩     (fun W pn xe tk po => pss_one (ps_expr (pe_gQ G_read hr rfl tk (pa_cons (pv 0) pa_nil))))     (fun a oe cls d pn hz hf hot => pss_cons (ps_set (i := 2) nd rfl (Or.inl rfl) (pe_lst (pa_cons (pe_callB (cr_isDK K hz hf) (by rfl) B.isinstance (by decide +kernel) (pa_cons (pv 1) (pa_cons (pe_glob (v := .ref C1) rfl Z.m1 rfl) pa_nil))) (pa_cons (pe_callB (cr_isDK K hz hf) (by rfl) B.isinstance (by decide +kernel) (pa_cons (pv 1) (pa_cons (pe_glob (v := .ref C2) rfl Z.m2 rfl) pa_nil))) (pa_cons (pe_callB (cr_isDK K hz hf) (by rfl) B.isinstance (by decide +kernel) (pa_cons (pv 1) (pa_cons (pe_glob (v := .ref C3) rfl Z.m3 rfl) pa_nil))) pa_nil)))))       (pss_cons (ps_if (PW.pt (pw_or (pt_val (pe_callB (cr_anyC2K K hot) (by rfl) B.any (by decide +kernel) (pa_cons (pv 2) pa_nil))) (pw_or (pt_val (pe_callB (cr_isDK K hz hf) (by rfl) B.isinstance (by decide +kernel) (pa_cons (pv 1) (pa_cons (pe_glob (v := .ref C4) rfl Z.m4 rfl) pa_nil)))) (pw_or1 (pt_not (pt_val (pe_callB (cr_isDK K hz hf) (by rfl) B.isinstance (by decide +kernel) (pa_cons (pv 1) (pa_cons (pe_glob (v := .ref CR) rfl Z.mR rfl) pa_nil)))))))))         (pss_one (ps_ret (pe_un un_neg pe_int))) pss_nil)       (pss_one (ps_ret (pe_ifExp (pt_val (pe_callB (cr_isDK K hz hf) (by rfl) B.isinstance (by decide +kernel) (pa_cons (pv 1) (pa_cons (pe_bltn (v := .ty "ValueError") (by rfl) Z.mV (by decide +kernel) rfl) pa_nil)))) (pe_xf Z.xf Z.nr hz hf (pv 1)) (pe_un un_neg pe_int)))))))
    (pss_one (ps_ret pe_int))), ?_⟩
    refine ⟨_, rfl, t, c, rfl, hl, hRef, fun ec p H1 s1 => ?_, fun ec d H1 s1 hd => ?_⟩
    · rw [ec] at k
      exact k H1 s1
    · refine ⟨Z.eR, fun a ha => ?_⟩
      refine ⟨_, rfl, CR, d, _, .ref C1, .ref C1, false, rfl, rfl, hd, Z.ec, rfl, fun u h => h, Z.i1, ?_⟩
      refine ⟨_, rfl, CR, d, _, .ref C2, .ref C2, false, rfl, rfl, hd, Z.ec, rfl, fun u h => h, Z.i2, ?_⟩
      refine ⟨_, rfl, CR, d, _, .ref C3, .ref C3, false, rfl, rfl, hd, Z.ec, rfl, fun u h => h, Z.i3, ?_⟩
      refine ⟨by show 3 ≤ sizeLine; decide, fun p hp => ?_⟩
      have s2 := s1.trans (Same.new (o := .lst [.bl false, .bl false, .bl false]) hp)
      have hd2 := keepN (u := .lst [.bl false, .bl false, .bl false]) hd hp
      have hp2 : upd H1 p (.lst [.bl false, .bl false, .bl false]) p = some (.lst ([false, false, false].map V.bl)) := upd_same
      generalize upd H1 p (.lst [.bl false, .bl false, .bl false]) = H2 at s2 hp2 hd2 ⊢
      refine ⟨_, rfl, p, [false, false, false], rfl, SqL.of hp2, false, rfl, ?_⟩
      refine iteF ?_
      refine ⟨_, rfl, CR, d, _, .ref C4, .ref C4, false, rfl, rfl, hd2, Z.ec, rfl, fun u h => h, Z.i4, false, rfl, ?_⟩
      refine iteF ?_
      refine ⟨_, rfl, CR, d, _, .ref CR, .ref CR, true, rfl, rfl, hd2, Z.ec, rfl, fun u h => h, Z.iR, true, rfl, ?_⟩
      refine iteF ?_
      refine ⟨_, rfl, CR, d, _, .ty "ValueError", .type "ValueError", true, rfl, rfl, hd2, Z.ec, rfl, fun u h => h, Z.iV, true, rfl, ?_⟩
      refine iteT ?_
      exact ⟨_, rfl, rfl, rfl, d, _, _, rfl, hd2, (lookup_put _ _ _ _).trans (if_pos rfl), k H2 s2⟩
end
end Wr

namespace Wr
open PySem L2 TL
/-! ### the spoilt rows -/
def nines : Str := ("0-1 " : Str) ++ mulS ("9" : Str) (4000 : Int).toNat
def br0 : List Str := [("" : Str), ("0-1" : Str), ("0-1 " : Str), (" 0-1 1" : Str), ("0-1  1" : Str), ("0-1 1 " : Str), ("0 1 1" : Str), ("-1 1" : Str), ("0- 1" : Str), ("01-1 1" : Str), ("0-01 1" : Str), ("0-1 01" : Str)]
def br1 : List Str := [("0-1 10000000" : Str), ("0-1 -1" : Str), ("0-1 +1" : Str), ("0-1\t1" : Str), ("0-1 1\t" : Str), ("\t0-1 1" : Str), ("x-1 1" : Str), ("0-1 1.5" : Str), ("0-1-1 1" : Str)]
def br2 : List Str := [("0-1 1/2" : Str), ("0-1 1 1" : Str), ("0--1 1" : Str), ("-0-1 1" : Str), ("0-1 1_0" : Str), ("0:1 1" : Str), ("what" : Str), nines]
def br3 : List Str := [("villages 2" : Str), ("0-12345678 1" : Str)]
def bh0 : List Str := [("villages" : Str), ("villages " : Str), ("villages 0" : Str), ("villages 02" : Str), ("villages x" : Str), ("Villages 2" : Str), (" villages 2" : Str)]
def bh1 : List Str := [("villages  2" : Str), ("villages 2 " : Str), ("villages\t2" : Str), ("2" : Str), ("villages -1" : Str), ("villages 2_0" : Str)]
def bh2 : List Str := [("villages 10000000" : Str)]
def brs : List Str := ((br0 ++ br1) ++ br2) ++ br3
def bhs : List Str := (bh0 ++ bh1) ++ bh2
theorem tl_nines : tl nines = [48, 45, 49] ++ ([32] ++ List.replicate 4000 57) := by
  unfold nines
  rw [tl_append, tl_mulS, show tl ("9" : Str) = [57] by decide +kernel, flat_one, show tl ("0-1 " : Str) = [48, 45, 49, 32] by decide +kernel]
  rfl
theorem nines_badG (n : Nat) (hn : 8 ≤ n) : rdV ([48, 45, 49] ++ ([32] ++ List.replicate n 57)) = none := by
  have f2 : 32 ∉ List.replicate n 57 := by
    rw [List.mem_replicate]
    omega
  have hv : numV (List.replicate n 57) = -1 := by
    unfold numV
    rw [if_neg]
    unfold numB lenB
    rw [List.length_replicate, decide_eq_false (show ¬ n ≤ 7 by omega), Bool.and_false, Bool.false_and]
    exact Bool.false_ne_true
  generalize List.replicate n 57 = z at f2 hv
  unfold rdV
  rw [spl_part1 (S := []) (by decide), spl_last1 (S := []) f2]
  simp only [List.nil_append]
  rw [show par [45] [] [48, 45, 49] = some ([48], [49]) by decide]
  simp only [hv, or_true, if_true]
theorem nines_bad : rdV (tl nines) = none := by
  rw [tl_nines]
  exact nines_badG 4000 (by decide)
def okR (o : Str) : Prop := rdV (tl o) = none ∧ 10 ∉ tl o ∧ o.length ≤ 4004
theorem okR_nines : okR nines := by
  refine ⟨nines_bad, ?_, ?_⟩
  · rw [tl_nines, List.mem_append, List.mem_append, List.mem_replicate]
    simp
  · rw [len_tl, tl_nines]
    simp only [List.length_append, List.length_replicate]
    decide
def okRb (o : Str) : Bool := (rdV (tl o)).isNone && (!(tl o).contains 10 && decide (o.length ≤ 4004))
theorem okR_of {o : Str} (h : okRb o = true) : okR o := by
  unfold okRb at h
  simp only [Bool.and_eq_true, Bool.not_eq_true', decide_eq_true_eq, List.contains_eq_mem, decide_eq_false_iff_not, Option.isNone_iff_eq_none] at h
  exact h
def okHb (o : Str) : Bool := decide (headV (tl o) < 1) && (!(tl o).contains 10 && decide (o.length ≤ 4004))
theorem okH_of {o : Str} (h : okHb o = true) : headV (tl o) < 1 ∧ 10 ∉ tl o ∧ o.length ≤ 4004 := by
  unfold okHb at h
  simp only [Bool.and_eq_true, Bool.not_eq_true', decide_eq_true_eq, List.contains_eq_mem, decide_eq_false_iff_not] at h
  exact h
theorem br_ok : ∀ o ∈ brs, okR o := by
  intro o h
  unfold brs at h
  simp only [List.mem_append] at h
  have a0 : br0.all okRb = true := by decide +kernel
  have a1 : br1.all okRb = true := by decide +kernel
  have a3 : br3.all okRb = true := by decide +kernel
  have a2 : (br2.take 7).all okRb = true := by decide +kernel
  rw [List.all_eq_true] at a0 a1 a2 a3
  rcases h with ((h | h) | h) | h
  · exact okR_of (a0 o h)
  · exact okR_of (a1 o h)
  · have e : br2 = br2.take 7 ++ [nines] := rfl
    rw [e, List.mem_append, List.mem_singleton] at h
    rcases h with h | rfl
    · exact okR_of (a2 o h)
    · exact okR_nines
  · exact okR_of (a3 o h)
theorem bh_ok : ∀ o ∈ bhs, headV (tl o) < 1 ∧ 10 ∉ tl o ∧ o.length ≤ 4004 := by
  have a : bhs.all okHb = true := by decide +kernel
  rw [List.all_eq_true] at a
  exact fun o h => okH_of (a o h)
section
variable {P : Program} {w : World} {K : PySem.W.Frag} {mg : Str → Option Value} {base : Heap}
def spBadR : Sp := fun vs H Q _ => ∃ i : Nat, vs = [.int i] ∧ i < 31 ∧ ∀ o H', okR o → Same H H' → Q (.str o) H'
-- slots: 0:_law_which, 1:_law_rows
theorem sc_law_bad_road : FnScope ["_law_which", "_law_rows"] ["_law_which"] (defScope S_law_bad_road) := ⟨rfl, rfl, rfl, by decide +kernel, rfl, by decide +kernel, by decide +kernel⟩
theorem ok_bad_road {f : Addr} {fd : FuncData} (F : Fun K "_law_bad_road" "_law_bad_road" S_law_bad_road f fd) : FnOk P w K mg base CX0 1 f fd ["_law_which"] spBadR := by
  refine F.ok sc_law_bad_road (fun vs H Q E h => ?_) (fun cdv A outer s H vs Q E hr h => ?_)
  · obtain ⟨i, rfl, _⟩ := h
    rfl
  · obtain ⟨i, rfl, hi, k⟩ := h
    have nd := sc_law_bad_road.nd
    refine ⟨_, (pss_cons (ps_set (i := 1) nd rfl (Or.inl rfl) (pe_lst (pa_cons pe_str (pa_cons pe_str (pa_cons pe_str (pa_cons pe_str (pa_cons pe_str (pa_cons pe_str (pa_cons pe_str (pa_cons pe_str (pa_cons pe_str (pa_cons pe_str (pa_cons pe_str (pa_cons pe_str pa_nil))))))))))))))
    (pss_cons (ps_set (i := 1) nd rfl (Or.inl rfl) (pe_op op_cat (pv 1) (pe_lst (pa_cons pe_str (pa_cons pe_str (pa_cons pe_str (pa_cons pe_str (pa_cons pe_str (pa_cons pe_str (pa_cons pe_str (pa_cons pe_str (pa_cons pe_str pa_nil))))))))))))
    (pss_cons (ps_set (i := 1) nd rfl (Or.inl rfl) (pe_op op_cat (pv 1) (pe_lst (pa_cons pe_str (pa_cons pe_str (pa_cons pe_str (pa_cons pe_str (pa_cons pe_str (pa_cons pe_str (pa_cons pe_str (pa_cons (pe_op op_add_str pe_str (pe_op op_mulS pe_str pe_int)) pa_nil)))))))))))
    (pss_one (ps_ret (pe_ix ix_list (pe_op op_cat (pv 1) (pe_lst (pa_cons pe_str (pa_cons pe_str pa_nil)))) (pv 0) (fun _ _ => rfl))))))), ?_⟩
    refine ⟨by show 12 ≤ sizeLine; decide, fun p hp => ?_⟩
    have s1 := Same.new (o := .lst (br0.map V.str)) hp
    have hp1 : upd H p (.lst (br0.map V.str)) p = some (.lst (br0.map V.str)) := upd_same
    refine of_gName (of_nx ?_)
    show tSeq _ _ _ _ (upd H p (.lst (br0.map V.str)))
    generalize upd H p (.lst (br0.map V.str)) = H1 at s1 hp1 ⊢
    refine ⟨_, rfl, by show 9 ≤ sizeLine; decide, fun q hq => ?_⟩
    refine ⟨p, q, br0.map V.str, br1.map V.str, rfl, rfl, keepN hp1 hq, upd_same, by show 12 + 9 ≤ sizeLine; decide, fun p2 hp2 => ?_⟩
    have s2 : Same H (upd (upd H1 q (.lst (br1.map V.str))) p2 (.lst (br0.map V.str ++ br1.map V.str))) := (s1.trans (Same.new hq)).trans (Same.new (o := .lst (br0.map V.str ++ br1.map V.str)) hp2)
    have hp3 : upd (upd H1 q (.lst (br1.map V.str))) p2 (.lst (br0.map V.str ++ br1.map V.str)) p2 = some (.lst (br0.map V.str ++ br1.map V.str)) := upd_same
    refine of_gName (of_nx ?_)
    show tSeq _ _ _ _ (upd (upd H1 q (.lst (br1.map V.str))) p2 (.lst (br0.map V.str ++ br1.map V.str)))
    generalize upd (upd H1 q (.lst (br1.map V.str))) p2 (.lst (br0.map V.str ++ br1.map V.str)) = H2 at s2 hp3 ⊢
    refine ⟨_, rfl, _, _, rfl, rfl, (by decide +kernel), (by decide), (by decide), _, _, rfl, rfl, ?_, by show 8 ≤ sizeLine; decide, fun q2 hq2 => ?_⟩
    · rw [len_tl, len_tl, tl_mulS, show tl ("9" : Str) = [57] by decide +kernel, flat_one, List.length_replicate]
      exact Nat.le_trans (show _ ≤ 4004 by decide +kernel) (by decide)
    refine ⟨p2, q2, br0.map V.str ++ br1.map V.str, br2.map V.str, rfl, rfl, keepN hp3 hq2, upd_same, by show (12 + 9) + 8 ≤ sizeLine; decide, fun p4 hp4 => ?_⟩
    have s4 : Same H (upd (upd H2 q2 (.lst (br2.map V.str))) p4 (.lst ((br0.map V.str ++ br1.map V.str) ++ br2.map V.str))) := (s2.trans (Same.new hq2)).trans (Same.new (o := .lst ((br0.map V.str ++ br1.map V.str) ++ br2.map V.str)) hp4)
    have hp5 : upd (upd H2 q2 (.lst (br2.map V.str))) p4 (.lst ((br0.map V.str ++ br1.map V.str) ++ br2.map V.str)) p4 = some (.lst ((br0.map V.str ++ br1.map V.str) ++ br2.map V.str)) := upd_same
    refine of_gName (of_nx ?_)
    show tRet _ _ _ (upd (upd H2 q2 (.lst (br2.map V.str))) p4 (.lst ((br0.map V.str ++ br1.map V.str) ++ br2.map V.str)))
    generalize upd (upd H2 q2 (.lst (br2.map V.str))) p4 (.lst ((br0.map V.str ++ br1.map V.str) ++ br2.map V.str)) = H3 at s4 hp5 ⊢
    refine ⟨_, rfl, by show 2 ≤ sizeLine; decide, fun q3 hq3 => ?_⟩
    refine ⟨p4, q3, (br0.map V.str ++ br1.map V.str) ++ br2.map V.str, br3.map V.str, rfl, rfl, keepN hp5 hq3, upd_same, by show ((12 + 9) + 8) + 2 ≤ sizeLine; decide, fun p6 hp6 => ?_⟩
    have s6 : Same H (upd (upd H3 q3 (.lst (br3.map V.str))) p6 (.lst (((br0.map V.str ++ br1.map V.str) ++ br2.map V.str) ++ br3.map V.str))) := (s4.trans (Same.new hq3)).trans (Same.new (o := .lst (((br0.map V.str ++ br1.map V.str) ++ br2.map V.str) ++ br3.map V.str)) hp6)
    have hp7 : upd (upd H3 q3 (.lst (br3.map V.str))) p6 (.lst (((br0.map V.str ++ br1.map V.str) ++ br2.map V.str) ++ br3.map V.str)) p6 = some (.lst (brs.map V.str)) := by
      rw [upd_same]
      unfold brs
      rw [List.map_append, List.map_append, List.map_append]
    have hlen : brs.length = 31 := rfl
    have hat := atI_nat (xs := brs.map V.str) (j := i) (v := V.str (brs[i]'(by omega))) (by rw [List.getElem?_map, List.getElem?_eq_getElem (by omega)]; rfl)
    exact ⟨_, rfl, p6, _, (i : Int), _, rfl, rfl, SqL.of hp7, hat, k (brs[i]'(by omega)) _ (br_ok _ (List.getElem_mem (by omega))) s6⟩
def spBadH : Sp := fun vs H Q _ => ∃ i : Nat, vs = [.int i] ∧ i < 14 ∧ ∀ o H', headV (tl o) < 1 ∧ 10 ∉ tl o ∧ o.length ≤ 4004 → Same H H' → Q (.str o) H'
-- slots: 0:_law_which, 1:_law_rows
theorem sc_law_bad_head : FnScope ["_law_which", "_law_rows"] ["_law_which"] (defScope S_law_bad_head) := ⟨rfl, rfl, rfl, by decide +kernel, rfl, by decide +kernel, by decide +kernel⟩
theorem ok_bad_head {f : Addr} {fd : FuncData} (F : Fun K "_law_bad_head" "_law_bad_head" S_law_bad_head f fd) : FnOk P w K mg base CX0 1 f fd ["_law_which"] spBadH := by
  refine F.ok sc_law_bad_head (fun vs H Q E h => ?_) (fun cdv A outer s H vs Q E hr h => ?_)
  · obtain ⟨i, rfl, _⟩ := h
    rfl
  · obtain ⟨i, rfl, hi, k⟩ := h
    have nd := sc_law_bad_head.nd
    refine ⟨_, (pss_cons (ps_set (i := 1) nd rfl (Or.inl rfl) (pe_lst (pa_cons pe_str (pa_cons pe_str (pa_cons pe_str (pa_cons pe_str (pa_cons pe_str (pa_cons pe_str (pa_cons pe_str pa_nil)))))))))
    (pss_cons (ps_set (i := 1) nd rfl (Or.inl rfl) (pe_op op_cat (pv 1) (pe_lst (pa_cons pe_str (pa_cons pe_str (pa_cons pe_str (pa_cons pe_str (pa_cons pe_str (pa_cons pe_str pa_nil)))))))))
    (pss_one (ps_ret (pe_ix ix_list (pe_op op_cat (pv 1) (pe_lst (pa_cons pe_str pa_nil))) (pv 0) (fun _ _ => rfl)))))), ?_⟩
    refine ⟨by show 7 ≤ sizeLine; decide, fun p hp => ?_⟩
    have s1 := Same.new (o := .lst (bh0.map V.str)) hp
    have hp1 : upd H p (.lst (bh0.map V.str)) p = some (.lst (bh0.map V.str)) := upd_same
    refine of_gName (of_nx ?_)
    show tSeq _ _ _ _ (upd H p (.lst (bh0.map V.str)))
    generalize upd H p (.lst (bh0.map V.str)) = H1 at s1 hp1 ⊢
    refine ⟨_, rfl, by show 6 ≤ sizeLine; decide, fun q hq => ?_⟩
    refine ⟨p, q, bh0.map V.str, bh1.map V.str, rfl, rfl, keepN hp1 hq, upd_same, by show 7 + 6 ≤ sizeLine; decide, fun p2 hp2 => ?_⟩
    have s2 : Same H (upd (upd H1 q (.lst (bh1.map V.str))) p2 (.lst (bh0.map V.str ++ bh1.map V.str))) := (s1.trans (Same.new hq)).trans (Same.new (o := .lst (bh0.map V.str ++ bh1.map V.str)) hp2)
    have hp3 : upd (upd H1 q (.lst (bh1.map V.str))) p2 (.lst (bh0.map V.str ++ bh1.map V.str)) p2 = some (.lst (bh0.map V.str ++ bh1.map V.str)) := upd_same
    refine of_gName (of_nx ?_)
    show tRet _ _ _ (upd (upd H1 q (.lst (bh1.map V.str))) p2 (.lst (bh0.map V.str ++ bh1.map V.str)))
    generalize upd (upd H1 q (.lst (bh1.map V.str))) p2 (.lst (bh0.map V.str ++ bh1.map V.str)) = H3 at s2 hp3 ⊢
    refine ⟨_, rfl, by show 1 ≤ sizeLine; decide, fun q3 hq3 => ?_⟩
    refine ⟨p2, q3, bh0.map V.str ++ bh1.map V.str, bh2.map V.str, rfl, rfl, keepN hp3 hq3, upd_same, by show (7 + 6) + 1 ≤ sizeLine; decide, fun p6 hp6 => ?_⟩
    have s6 : Same H (upd (upd H3 q3 (.lst (bh2.map V.str))) p6 (.lst ((bh0.map V.str ++ bh1.map V.str) ++ bh2.map V.str))) := (s2.trans (Same.new hq3)).trans (Same.new (o := .lst ((bh0.map V.str ++ bh1.map V.str) ++ bh2.map V.str)) hp6)
    have hp7 : upd (upd H3 q3 (.lst (bh2.map V.str))) p6 (.lst ((bh0.map V.str ++ bh1.map V.str) ++ bh2.map V.str)) p6 = some (.lst (bhs.map V.str)) := by
      rw [upd_same]
      unfold bhs
      rw [List.map_append, List.map_append]
    have hlen : bhs.length = 14 := rfl
    have hat := atI_nat (xs := bhs.map V.str) (j := i) (v := V.str (bhs[i]'(by omega))) (by rw [List.getElem?_map, List.getElem?_eq_getElem (by omega)]; rfl)
    exact ⟨_, rfl, p6, _, (i : Int), _, rfl, rfl, SqL.of hp7, hat, k (bhs[i]'(by omega)) _ (bh_ok _ (List.getElem_mem (by omega))) s6⟩
end
end Wr

namespace Wr
open PySem L2 TL
/-! ### rows that together make no tree -/
def wt0 : List Str := [("villages 2" : Str), ("villages 1\n0-1 1" : Str), ("villages 2\n0-0 1" : Str), ("villages 2\n0-2 1" : Str), ("villages 2\n0-1 0" : Str)]
def wt1 : List Str := [("villages 2\n0-1 1000001" : Str), ("villages 3\n0-1 1\n1-0 2" : Str)]
def wt2 : List Str := [("villages 2\n0-1234567 1" : Str)]
def okW (t : Str) : Prop := t.length ≤ 1000 ∧ Ref (spl [10] 0 [] (tl t)) (((Txt.split t ("\n" : Str)).length : Nat) + 1 : Int)
theorem okW_of {t : Str} (hl : t.length ≤ 1000) (h : Ref (spl [10] 0 [] (tl t)) (((spl [10] 0 [] (tl t)).length : Nat) + 1 : Int)) : okW t := by
  refine ⟨hl, ?_⟩
  have e : (Txt.split t ("\n" : Str)).length = (spl [10] 0 [] (tl t)).length := by rw [← spl_nl, List.length_map]
  rw [e]
  exact h
def okWb (t : Str) : Bool := decide (t.length ≤ 1000) && noB t
theorem okW_b {t : Str} (h : okWb t = true) : okW t := by
  obtain ⟨h1, h2⟩ := Bool.and_eq_true_iff.mp h
  exact okW_of (of_decide_eq_true h1) (noB_ref h2)
theorem wt0_ok : ∀ o ∈ wt0, okW o := by
  have a : wt0.all okWb = true := by decide +kernel
  rw [List.all_eq_true] at a
  exact fun o h => okW_b (a o h)
theorem wt1_ok : ∀ o ∈ wt1, okW o := by
  have a : wt1.all okWb = true := by decide +kernel
  rw [List.all_eq_true] at a
  exact fun o h => okW_b (a o h)
theorem wt2_ok : ∀ o ∈ wt2, okW o := by
  have a : wt2.all okWb = true := by decide +kernel
  rw [List.all_eq_true] at a
  exact fun o h => okW_b (a o h)
/-- thirteen villages in a row -/
def bigE (k : Nat) : Str := numS (0 + (k : Int)) ++ ("-" : Str) ++ numS (0 + (k : Int) + 1) ++ (" 1" : Str)
def bigT : Str := Txt.join ("\n" : Str) ([("villages 13" : Str)] ++ (List.range 12).map bigE)
theorem big_ok : okW bigT := okW_b (by decide +kernel)
def wts : List Str := ((wt0 ++ wt1) ++ wt2) ++ [bigT]
theorem wts_ok : ∀ o ∈ wts, okW o := by
  intro o h
  unfold wts at h
  simp only [List.mem_append, List.mem_singleton] at h
  rcases h with ((h | h) | h) | rfl
  · exact wt0_ok o h
  · exact wt1_ok o h
  · exact wt2_ok o h
  · exact big_ok
theorem ref_empty : Ref (spl [10] 0 [] (tl ("" : Str))) 1 := by
  rw [tl_empty]
  exact .head (by decide)
section
variable {P : Program} {w : World} {K : PySem.W.Frag} {mg : Str → Option Value} {base : Heap}
def spWhole9 : Sp := fun vs H Q _ => ∃ i : Int, vs = [.int i] ∧ 0 ≤ i ∧ i < 1000000 ∧ ∀ H', Q (.bl true) H'
-- slots: 0:_law_more, 1:_law_texts, 2:_law_text, 3:_law_k
theorem sc_law_whole : FnScope ["_law_more", "_law_texts", "_law_text", "_law_k"] ["_law_more"] (defScope S_law_whole) := ⟨rfl, rfl, rfl, by decide +kernel, rfl, by decide +kernel, by decide +kernel⟩
theorem ok_whole9 {f : Addr} {fd : FuncData} (F : Fun K "_law_whole" "_law_whole" S_law_whole f fd) (B : Bi mg) (G_law_refused : Gd P w K mg base 7 "_law_refused" ["_law_text"] spRefused) : FnOk P w K mg base CX0 8 f fd ["_law_more"] spWhole9 := by
  refine F.ok sc_law_whole (fun vs H Q E h => ?_) (fun cdv A outer s H vs Q E hr h => ?_)
  · obtain ⟨i, rfl, _⟩ := h
    rfl
  · obtain ⟨i, rfl, h0, h1, k⟩ := h
    have nd := sc_law_whole.nd
    refine ⟨_, (pss_cons (ps_set (i := 1) nd rfl (Or.inl rfl) (pe_lst (pa_cons pe_str (pa_cons pe_str (pa_cons pe_str (pa_cons pe_str (pa_cons pe_str pa_nil)))))))
    (pss_cons (ps_set (i := 1) nd rfl (Or.inl rfl) (pe_op op_cat (pv 1) (pe_lst (pa_cons pe_str (pa_cons pe_str pa_nil)))))
    (pss_cons (ps_expr (pe_bm PySem.F.plainAttrs_list PySem.F.slot_list_append PySem.F.type_list_append mt_append (pv 1) (pa_cons pe_str pa_nil)))
    (pss_cons (ps_expr (pe_bm PySem.F.plainAttrs_list PySem.F.slot_list_append PySem.F.type_list_append mt_append (pv 1) (pa_cons (pe_join pe_str (pe_op op_cat (pe_lst (pa_cons pe_str pa_nil)) (pe_lc (own := [("_law_k", 3)]) (g := gName 3) (tt := tYes) rfl nd (pi_range1 (by rfl) B.range (pa_cons pe_int pa_nil)) (blkOk_by (N := ["_law_more", "_law_texts", "_law_text", "_law_k"]) (sc := defScope S_law_whole) (by decide +kernel)) (fun _ _ _ _ _ => (pg_name (i := 3) nd rfl (Or.inl rfl))) (fun _ _ _ _ _ => pts_nil) (fun _ _ _ _ _ => (pe_op op_add_str (pe_op op_add_str (pe_op op_add_str (pe_callTy call_str_int (by rfl) B.str (by decide +kernel) (pa_cons (pv 3) pa_nil)) pe_str) (pe_callTy call_str_int (by rfl) B.str (by decide +kernel) (pa_cons (pe_op op_add (pv 3) pe_int) pa_nil))) pe_str))))) pa_nil)))
    (pss_cons (ps_for PassesOwn.never rfl (pi_list (pv 1)) (pg_name (i := 2) nd rfl (Or.inl rfl))
    (pss_one (ps_if (pt_cmpR op_ne (pe_g G_law_refused hr rfl (pa_cons (pv 2) pa_nil)) (pe_op op_add (pe_callB call_len_seq (by rfl) B.len (by decide +kernel) (pa_cons (pe_split (pv 2) pe_str) pa_nil)) pe_int) (nomark _))
    (pss_one (ps_ret pe_bl)) pss_nil)))
    (pss_one (ps_ret (pe_and (pe_cmpR op_eq (pe_g G_law_refused hr rfl (pa_cons pe_str pa_nil)) pe_int (nomark _)) (pe_one (pe_cmpR op_eq (pe_g G_law_refused hr rfl (pa_cons (pe_op op_add_str pe_str (pe_callTy call_str_int (by rfl) B.str (by decide +kernel) (pa_cons (pe_op op_add pe_int (pv 0)) pa_nil))) pa_nil)) pe_int (nomark _))))))))))), ?_⟩
    refine ⟨by show 5 ≤ sizeLine; decide, fun p hp => ?_⟩
    have hp1 : upd H p (.lst (wt0.map V.str)) p = some (.lst (wt0.map V.str)) := upd_same
    refine of_gName (of_nx ?_)
    show tSeq _ _ _ _ (upd H p (.lst (wt0.map V.str)))
    generalize upd H p (.lst (wt0.map V.str)) = H1 at hp1 ⊢
    refine ⟨_, rfl, by show 2 ≤ sizeLine; decide, fun q hq => ?_⟩
    refine ⟨p, q, wt0.map V.str, wt1.map V.str, rfl, rfl, keepN hp1 hq, upd_same, by show 5 + 2 ≤ sizeLine; decide, fun p2 hp2 => ?_⟩
    have hp3 : upd (upd H1 q (.lst (wt1.map V.str))) p2 (.lst (wt0.map V.str ++ wt1.map V.str)) p2 = some (.lst (wt0.map V.str ++ wt1.map V.str)) := upd_same
    refine of_gName (of_nx ?_)
    show tSeq _ _ _ _ (upd (upd H1 q (.lst (wt1.map V.str))) p2 (.lst (wt0.map V.str ++ wt1.map V.str)))
    generalize upd (upd H1 q (.lst (wt1.map V.str))) p2 (.lst (wt0.map V.str ++ wt1.map V.str)) = H2 at hp3 ⊢
    refine ⟨_, rfl, .inl ⟨rfl, _, SqL.of hp3⟩, p2, _, _, rfl, rfl, hp3, by show (5 + 2) + 1 ≤ sizeLine; decide, ?_⟩
    have hp4 : upd H2 p2 (.lst ((wt0.map V.str ++ wt1.map V.str) ++ wt2.map V.str)) p2 = some (.lst ((wt0.map V.str ++ wt1.map V.str) ++ wt2.map V.str)) := upd_same
    refine of_nx ?_
    show tSeq _ _ _ _ (upd H2 p2 (.lst ((wt0.map V.str ++ wt1.map V.str) ++ wt2.map V.str)))
    generalize upd H2 p2 (.lst ((wt0.map V.str ++ wt1.map V.str) ++ wt2.map V.str)) = H3 at hp4 ⊢
    refine ⟨_, rfl, .inl ⟨rfl, _, SqL.of hp4⟩, ⟨_, rfl⟩, by show 1 ≤ sizeLine; decide, fun q3 hq3 => ?_⟩
    have hq4 : upd H3 q3 (.lst ([("villages 13" : Str)].map V.str)) q3 = some (.lst ([("villages 13" : Str)].map V.str)) := upd_same
    have hp5 := keepN (u := .lst ([("villages 13" : Str)].map V.str)) hp4 hq3
    show tLc _ _ _ _ _ _ (upd H3 q3 (.lst ([("villages 13" : Str)].map V.str))) _
    generalize upd H3 q3 (.lst ([("villages 13" : Str)].map V.str)) = H4 at hq4 hp5 ⊢
    refine lc_at (Itr 0 12) (fun R hR => ⟨12, rfl, by decide, by decide, hR⟩) ?_
    refine lcr (n := 12) (by decide) (fun _ => true) (fun j => .str (bigE j)) (fun j hj H5 s5 Yes No hy hno => ?_) (fun L H5 hL s5 hL5 => ?_)
    · have m1 := numS_len (i := 0 + (j : Int)) (by omega) (by omega)
      have m2 := numS_len (i := 0 + (j : Int) + 1) (by omega) (by omega)
      have m3 : ("-" : Str).length = 1 := by decide +kernel
      have m4 : (" 1" : Str).length = 2 := by decide +kernel
      refine turn_all ⟨_, rfl, 0 + (j : Int), rfl, log_small (by omega) (by omega), _, _, rfl, rfl, line_20 (by show (numS (0 + (j : Int))).length + _ ≤ _; omega), _, rfl, _, _, rfl, rfl, 0 + (j : Int) + 1, rfl, log_small (by omega) (by omega), _, _, rfl, rfl, line_20 ?_, _, _, rfl, rfl, line_20 ?_, hy rfl _ (Same.refl _)⟩
      · show (numS (0 + (j : Int)) ++ ("-" : Str)).length + (numS (0 + (j : Int) + 1)).length ≤ _
        rw [len_app]
        omega
      · show (numS (0 + (j : Int)) ++ ("-" : Str) ++ numS (0 + (j : Int) + 1)).length + _ ≤ _
        rw [len_app, len_app]
        omega
    have eL : ((List.range 12).filter fun _ => true).map (fun j => V.str (bigE j)) = ((List.range 12).map bigE).map V.str := rfl
    rw [eL] at hL5
    refine ⟨q3, L, _, _, rfl, rfl, s5 _ _ hq4, hL5, by show 1 + 12 ≤ sizeLine; decide, fun m hm => ?_⟩
    have hp6 := keepN (u := .lst ([("villages 13" : Str)].map V.str ++ ((List.range 12).map bigE).map V.str)) (s5 _ _ hp5) hm
    have hm6 : upd H5 m (.lst ([("villages 13" : Str)].map V.str ++ ((List.range 12).map bigE).map V.str)) m = some (.lst (([("villages 13" : Str)] ++ (List.range 12).map bigE).map V.str)) := by
      rw [upd_same, List.map_append]
    generalize upd H5 m (.lst ([("villages 13" : Str)].map V.str ++ ((List.range 12).map bigE).map V.str)) = H6 at hp6 hm6 ⊢
    refine ⟨_, m, _, rfl, rfl, .inl (SqL.of hm6), by decide +kernel, p2, _, _, rfl, rfl, hp6, by show ((5 + 2) + 1) + 1 ≤ sizeLine; decide, ?_⟩
    have hp7 : upd H6 p2 (.lst (((wt0.map V.str ++ wt1.map V.str) ++ wt2.map V.str) ++ [.str bigT])) p2 = some (.lst (wts.map V.str)) := by
      rw [upd_same]
      unfold wts
      rw [List.map_append, List.map_append, List.map_append]
      rfl
    refine of_nx ?_
    show tSeq _ _ _ _ (upd H6 p2 (.lst (((wt0.map V.str ++ wt1.map V.str) ++ wt2.map V.str) ++ [.str bigT])))
    generalize upd H6 p2 (.lst (((wt0.map V.str ++ wt1.map V.str) ++ wt2.map V.str) ++ [.str bigT])) = H7 at hp7 ⊢
    refine ⟨_, rfl, p2, rfl, ⟨_, SqL.of hp7⟩, for_list (K := K) (a := p2) (xs := wts.map V.str) (fun j σ' H' => Same H7 H' ∧ ∃ v2 v3, σ' = [some (.int i), some (.ref p2), v2, v3]) ⟨Same.refl _, none, none, rfl⟩ (fun j σ' H' _ ⟨s, _⟩ => SqL.of (s _ _ hp7)) ?_ ?_⟩
    · rintro j x σ' H8 hx ⟨s8, v2, v3, rfl⟩
      rw [List.getElem?_map] at hx
      obtain ⟨t, ht, rfl⟩ := Option.map_eq_some_iff.mp hx
      obtain ⟨hl, hR⟩ := wts_ok t (List.mem_of_getElem? ht)
      refine ⟨_, rfl, t, _, rfl, by omega, hR, fun H9 s9 => ?_⟩
      refine ⟨_, rfl, ⟨_, rfl⟩, _, _, rfl, rfl, by decide +kernel, Nat.le_trans (show t.length + 2 ≤ 1002 by omega) (by decide), fun z hz => ?_⟩
      refine ⟨z, _, rfl, .inl (SqL.of upd_same), _, _, rfl, rfl, rfl, _, rfl, ?_⟩
      rw [List.length_map, decide_eq_true rfl]
      refine iteF ?_
      exact ⟨(s8.trans s9).trans (Same.new hz), _, _, rfl⟩
    · rintro σ' H8 ⟨s8, v2, v3, rfl⟩
      refine ⟨("" : Str), 1, rfl, by decide +kernel, ref_empty, fun H9 s9 => ?_⟩
      refine ⟨rfl, _, rfl, ?_⟩
      rw [decide_eq_true (show V.int 1 = V.int 1 from rfl)]
      refine iteT ?_
      have m1 := numS_len (i := 1 + i) (by omega) (by omega)
      have m2 : ("villages 4\n0-1 1\n1-2 1\n2-0 " : Str).length = 27 := by decide +kernel
      refine ⟨_, rfl, _, _, rfl, rfl, 1 + i, rfl, log_small (by omega) (by omega), _, _, rfl, rfl, line_20 (by show _ + (numS (1 + i)).length ≤ _; omega), (("villages 4\n0-1 1\n1-2 1\n2-0 " : Str) ++ numS (1 + i)), 5, rfl, by rw [len_app]; omega, ring_text (by omega) (by omega), fun H10 s10 => ⟨rfl, ?_⟩⟩
      rw [decide_eq_true (show V.int 5 = V.int 5 from rfl)]
      exact k _
end
end Wr


namespace Wr
open PySem L2 TL
theorem cut_lo {xs : List V} {k : Nat} (h : k ≤ xs.length) : cutV xs none (some (k : Int)) = xs.take k := by
  unfold cutV
  rw [HT.sIx_none, HT.sIx_nat, Nat.min_eq_left h, List.drop_zero, Nat.sub_zero]
theorem cut_hi {xs : List V} {k : Nat} (h : k ≤ xs.length) : cutV xs (some (k : Int)) none = xs.drop k := by
  unfold cutV
  rw [HT.sIx_none, HT.sIx_nat, Nat.min_eq_left h, List.take_of_length_le (by rw [List.length_drop]; omega)]
theorem flat_oneV (c : V) : ∀ k : Nat, (List.replicate k [c]).flatten = List.replicate k c
  | 0 => rfl
  | k + 1 => by rw [List.replicate_succ, List.flatten_cons, flat_oneV c k, List.replicate_succ]; rfl
theorem sum_lens4 : ∀ {l : List Str}, (∀ x ∈ l, x.length ≤ 4004) → (l.map (·.length)).sum ≤ 4004 * l.length
  | [], _ => by simp
  | x :: l, h => by
    have h1 := sum_lens4 (l := l) fun y hy => h y (List.mem_cons_of_mem _ hy)
    have h2 := h x (List.mem_cons_self ..)
    simp only [List.map_cons, List.length_cons, List.sum_cons]
    omega
theorem join_len4 {l : List Str} (h : ∀ x ∈ l, x.length ≤ 4004) (hl : l.length ≤ 9) : (l.map (·.length)).sum + l.length * ("\n" : Str).length ≤ 16777216 ∧ (Txt.join ("\n" : Str) l).length ≤ 39000 := by
  have h1 := sum_lens4 h
  have h2 := joinL_len [10] (l.map tl)
  have h4 : ("\n" : Str).length = 1 := by rw [len_tl, tl_nl]; rfl
  rw [h4]
  refine ⟨by omega, ?_⟩
  rw [len_tl, join_eq, tl_join, tl_nl]
  have h5 : (l.map tl).map List.length = l.map (·.length) := by
    rw [List.map_map]
    exact List.map_congr_left fun x _ => (len_tl x).symm
  rw [h5, List.length_map] at h2
  have : ([10] : List Nat).length = 1 := rfl
  rw [this] at h2
  omega
theorem textL_snoc9 (n : Int) (ls : Nat → Int) (i : Nat) : textL n (chainF ls (i + 1)) = textL n (chainF ls i) ++ [rowT ⟨(i : Int) + 1, (i : Int), ls i⟩] := by
  unfold textL
  rw [chainF_snoc, List.map_append]
  rfl
section
variable {P : Program} {w : World} {K : PySem.W.Frag} {mg : Str → Option Value} {base : Heap}
def spLaw (K : PySem.W.Frag) : Sp := fun vs H Q _ => ∃ (a : Addr) (ns : List Int), vs = [.ref a] ∧ SqL K H a (ns.map V.int) ∧ ns.length ≤ 63 ∧ ∀ H', Q (.bl true) H'
-- slots: 0:_law_script, 1:_law_villages, 2:_law_good, 3:_law_k, 4:_law_cell, 5:_law_place, 6:_law_odd, 7:_law_bad
theorem sc_law : FnScope ["_law_script", "_law_villages", "_law_good", "_law_k", "_law_cell", "_law_place", "_law_odd", "_law_bad"] ["_law_script"] (defScope S_law) := ⟨rfl, rfl, rfl, by decide +kernel, rfl, by decide +kernel, by decide +kernel⟩
theorem ok_law {f : Addr} {fd : FuncData} (F : Fun K "law" "law" S_law f fd) (B : Bi mg) (G_law_cell_at : Gd P w K mg base 1 "_law_cell_at" ["_law_script", "_law_k"] (spCell K)) (G_law_draw : Gd P w K mg base 1 "_law_draw" ["_law_cell", "_law_k", "_law_many"] spDraw) (G_law_refused : Gd P w K mg base 7 "_law_refused" ["_law_text"] spRefused)
    (G_law_bad_road : Gd P w K mg base 1 "_law_bad_road" ["_law_which"] spBadR) (G_law_bad_head : Gd P w K mg base 1 "_law_bad_head" ["_law_which"] spBadH) (G_law_whole : Gd P w K mg base 8 "_law_whole" ["_law_more"] spWhole9) : FnOk P w K mg base CX0 9 f fd ["_law_script"] (spLaw K) := by
  refine F.ok sc_law (fun vs H Q E h => ?_) (fun cdv A outer s H vs Q E hr h => ?_)
  · obtain ⟨a, ns, rfl, _⟩ := h
    rfl
  · obtain ⟨a, ns, rfl, hS, h63, k⟩ := h
    have nd := sc_law.nd
    refine ⟨_, (pss_cons (ps_set (i := 1) nd rfl (Or.inl rfl) (pe_op op_add pe_int (pe_op op_mod (pe_g G_law_cell_at hr rfl (pa_cons (pv 0) (pa_cons pe_int pa_nil))) pe_int)))
    (pss_cons (ps_set (i := 2) nd rfl (Or.inl rfl) (pe_lst (pa_cons (pe_op op_add_str pe_str (pe_callTy call_str_int (by rfl) B.str (by decide +kernel) (pa_cons (pv 1) pa_nil))) pa_nil)))
    (pss_cons (ps_for PassesOwn.never rfl (pi_range1 (by rfl) B.range (pa_cons (pe_op op_sub (pv 1) pe_int) pa_nil)) (pg_name (i := 3) nd rfl (Or.inl rfl))
    (pss_one (ps_expr (pe_bm PySem.F.plainAttrs_list PySem.F.slot_list_append PySem.F.type_list_append mt_append (pv 2) (pa_cons (pe_op op_add_str (pe_op op_add_str (pe_op op_add_str (pe_op op_add_str (pe_callTy call_str_int (by rfl) B.str (by decide +kernel) (pa_cons (pe_op op_add (pv 3) pe_int) pa_nil)) pe_str) (pe_callTy call_str_int (by rfl) B.str (by decide +kernel) (pa_cons (pv 3) pa_nil))) pe_str) (pe_callTy call_str_int (by rfl) B.str (by decide +kernel) (pa_cons (pe_op op_add pe_int (pe_g G_law_draw hr rfl (pa_cons (pe_g G_law_cell_at hr rfl (pa_cons (pv 0) (pa_cons pe_int pa_nil))) (pa_cons (pv 3) (pa_cons pe_int pa_nil))))) pa_nil))) pa_nil)))))
    (pss_cons (ps_if (pt_cmpR op_ne (pe_g G_law_refused hr rfl (pa_cons (pe_join pe_str (pv 2)) pa_nil)) pe_int (nomark _))
    (pss_one (ps_ret pe_bl)) pss_nil)
    (pss_cons (ps_for PassesOwn.never rfl (pi_range1 (by rfl) B.range (pa_cons pe_int pa_nil)) (pg_name (i := 3) nd rfl (Or.inl rfl))
    (pss_cons (ps_set (i := 4) nd rfl (Or.inl rfl) (pe_op op_add (pe_g G_law_cell_at hr rfl (pa_cons (pv 0) (pa_cons pe_int pa_nil))) (pe_op op_mul pe_int (pv 3))))
    (pss_cons (ps_set (i := 5) nd rfl (Or.inl rfl) (pe_op op_add pe_int (pe_g G_law_draw hr rfl (pa_cons (pe_g G_law_cell_at hr rfl (pa_cons (pv 0) (pa_cons pe_int pa_nil))) (pa_cons (pv 3) (pa_cons (pe_callB call_len_seq (by rfl) B.len (by decide +kernel) (pa_cons (pv 2) pa_nil)) pa_nil))))))
    (pss_cons (ps_set (i := 6) nd rfl (Or.inl rfl) (pe_g G_law_bad_road hr rfl (pa_cons (pe_op op_mod (pv 4) pe_int) pa_nil)))
    (pss_cons (ps_set (i := 7) nd rfl (Or.inl rfl) (pe_op op_cat (pe_op op_cat (pe_slice sl_list (pv 2) po_none (po_some (pv 5))) (pe_lst (pa_cons (pv 6) pa_nil))) (pe_slice sl_list (pv 2) (po_some (pv 5)) po_none)))
    (pss_cons (ps_set (i := 7) nd rfl (Or.inl rfl) (pe_op op_cat (pv 7) (pe_op op_rep (pe_lst (pa_cons pe_str pa_nil)) (pe_op op_mod (pe_op op_fdiv (pv 4) pe_int) pe_int))))
    (pss_cons (ps_if (pt_cmpR op_ne (pe_g G_law_refused hr rfl (pa_cons (pe_join pe_str (pv 7)) pa_nil)) (pe_op op_add (pv 5) pe_int) (nomark _))
    (pss_one (ps_ret pe_bl)) pss_nil)
    (pss_cons (ps_set (i := 6) nd rfl (Or.inl rfl) (pe_g G_law_bad_head hr rfl (pa_cons (pe_op op_mod (pv 4) pe_int) pa_nil)))
    (pss_one (ps_if (pt_cmpR op_ne (pe_g G_law_refused hr rfl (pa_cons (pe_join pe_str (pe_op op_cat (pe_lst (pa_cons (pv 6) pa_nil)) (pe_slice sl_list (pv 2) (po_some pe_int) po_none))) pa_nil)) pe_int (nomark _))
    (pss_one (ps_ret pe_bl)) pss_nil))))))))))
    (pss_cons (ps_if (pt_cmpR op_ne (pe_g G_law_refused hr rfl (pa_cons (pe_op op_add_str (pe_join pe_str (pv 2)) pe_str) pa_nil)) (pe_op op_add (pe_callB call_len_seq (by rfl) B.len (by decide +kernel) (pa_cons (pv 2) pa_nil)) pe_int) (nomark _))
    (pss_one (ps_ret pe_bl)) pss_nil)
    (pss_one (ps_ret (pe_g G_law_whole hr rfl (pa_cons (pe_op op_mod (pe_g G_law_cell_at hr rfl (pa_cons (pv 0) (pa_cons pe_int pa_nil))) pe_int) pa_nil)))))))))), ?_⟩
    refine ⟨_, rfl, a, ns, 0, rfl, hS, _, _, rfl, rfl, (by show (0 : Int) < 6; decide), _, _, rfl, rfl, ?_⟩
    obtain ⟨m, hm, em⟩ : ∃ m : Nat, m ≤ 5 ∧ 1 + cellV ns 0 % 6 = ((m + 1 : Nat) : Int) := ⟨(cellV ns 0 % 6).toNat, by omega, by omega⟩
    refine of_gName (of_nx ?_)
    show tSeq _ _ _ (List.set _ 1 (some (.int (1 + cellV ns 0 % 6)))) _
    rw [em]
    refine ⟨_, rfl, ((m + 1 : Nat) : Int), rfl, log_small (by omega) (by omega), _, _, rfl, rfl, head_add (n := ((m + 1 : Nat) : Int)) (by omega) (by omega), by show 1 ≤ sizeLine; decide, fun p hp => ?_⟩
    have s1 := Same.new (o := .lst ((textL ((m + 1 : Nat) : Int) (chainF (fun k => 1 + draw (cellV ns 0) (k : Int) 1000000) 0)).map V.str)) hp
    have hp1 : upd H p (.lst ((textL ((m + 1 : Nat) : Int) (chainF (fun k => 1 + draw (cellV ns 0) (k : Int) 1000000) 0)).map V.str)) p = some (.lst ((textL ((m + 1 : Nat) : Int) (chainF (fun k => 1 + draw (cellV ns 0) (k : Int) 1000000) 0)).map V.str)) := upd_same
    refine of_gName (of_nx ?_)
    show tSeq _ _ _ _ (upd H p (.lst ((textL ((m + 1 : Nat) : Int) (chainF (fun k => 1 + draw (cellV ns 0) (k : Int) 1000000) 0)).map V.str)))
    have hls : ∀ k : Nat, 1 ≤ 1 + draw (cellV ns 0) (k : Int) 1000000 ∧ 1 + draw (cellV ns 0) (k : Int) 1000000 ≤ 1000000 := fun k => by
      have h1 := draw_nonneg (cell := cellV ns 0) (k := (k : Int)) (many := 1000000) (by decide)
      have h2 := draw_lt (cell := cellV ns 0) (k := (k : Int)) (many := 1000000) (by decide)
      omega
    generalize upd H p (.lst ((textL ((m + 1 : Nat) : Int) (chainF (fun k => 1 + draw (cellV ns 0) (k : Int) 1000000) 0)).map V.str)) = H1 at s1 hp1 ⊢
    refine ⟨_, rfl, _, _, rfl, rfl, _, rfl, by omega, by omega, for_range (lo := 0) (n := (((m + 1 : Nat) : Int) - 1).toNat) (fun i σ' H' => ∃ v3, σ' = [some (.ref a), some (.int ((m + 1 : Nat) : Int)), some (.ref p), v3, none, none, none, none] ∧ Same H H' ∧
      H' p = some (.lst ((textL ((m + 1 : Nat) : Int) (chainF (fun k => 1 + draw (cellV ns 0) (k : Int) 1000000) i)).map V.str))) ⟨none, rfl, s1, hp1⟩ ?_ ?_⟩
    · rintro i σ' H2 hi ⟨v3, rfl, s2, hp2⟩
      rw [Int.zero_add]
      have hS2 := s2.seq hS
      have l1 := hls i
      obtain ⟨a1, a2, a3, a4⟩ := row_adds (r := ⟨(i : Int) + 1, (i : Int), 1 + draw (cellV ns 0) (i : Int) 1000000⟩) (by refine ⟨?_, ?_, ?_, ?_, ?_, ?_⟩ <;> dsimp only <;> omega)
      refine ⟨_, rfl, .inl ⟨rfl, _, SqL.of hp2⟩, _, rfl, _, _, rfl, rfl, (i : Int) + 1, rfl, log_small (by omega) (by omega), _, _, rfl, rfl, a1, _, rfl, (i : Int), rfl, log_small (by omega) (by omega), _, _, rfl, rfl, a2, _, _, rfl, rfl, a3, _, rfl, a, ns, 0, rfl, hS2, _, rfl, _, _, _, rfl, by decide, by omega, by omega, fun H3 s3 => ?_⟩
      refine ⟨_, _, rfl, rfl, _, rfl, log_small (by omega) (by omega), _, _, rfl, rfl, a4, p, _, _, rfl, rfl, s3 _ _ hp2, ?_, ?_⟩
      · rw [List.length_map, textL]
        simp only [List.length_cons, List.length_map, chainF_len]
        exact szl (by omega)
      · refine ⟨_, rfl, Same.mut (s2.trans s3) hp, ?_⟩
        rw [upd_same, textL_snoc9, List.map_append]
        rfl
    rintro σ' H2 ⟨v3, rfl, s2, hp2⟩
    rw [show (((m + 1 : Nat) : Int) - 1).toNat = m by omega] at hp2
    have tree := chainF_tree (m := m) (by omega) hls
    have hlen := chainF_len (fun k => 1 + draw (cellV ns 0) (k : Int) 1000000) m
    generalize chainF (fun k => 1 + draw (cellV ns 0) (k : Int) 1000000) m = rs at hp2 tree hlen
    have oks : ∀ r ∈ rs, RowOk r := fun r h => rowOk_of tree h
    have tl3 := textT_len (n := ((m + 1 : Nat) : Int)) (by omega) (by omega) oks (by omega)
    have jf := join_fit (n := ((m + 1 : Nat) : Int)) (by omega) (by omega) oks (by omega)
    refine ⟨⟨_, rfl⟩, _, rfl, _, p, textL ((m + 1 : Nat) : Int) rs, rfl, rfl, .inl (SqL.of hp2), jf, textT ((m + 1 : Nat) : Int) rs, 0, rfl, by omega, text_tree tree, fun H3 s3 => ⟨rfl, _, rfl, ?_⟩⟩
    rw [decide_eq_true (show V.int 0 = V.int 0 from rfl)]
    refine iteF ?_
    have hg := s3 _ _ hp2
    have hS3 := (s2.trans s3).seq hS
    have gl : (textL ((m + 1 : Nat) : Int) rs).length = m + 1 := by simp [textL, hlen]
    have g23 := textL_lens (n := ((m + 1 : Nat) : Int)) (by omega) (by omega) oks
    have gfree := textL_free (n := ((m + 1 : Nat) : Int)) (rs := rs) (by omega) oks
    refine ⟨4, rfl, by decide, by decide, for_range (lo := 0) (n := 4) (fun i σ' H' => ∃ v3 v4 v5 v6 v7, σ' = [some (.ref a), some (.int ((m + 1 : Nat) : Int)), some (.ref p), v3, v4, v5, v6, v7] ∧ Same H3 H') ⟨_, none, none, none, none, rfl, Same.refl _⟩ ?_ ?_⟩
    · rintro i σ' H4 hi ⟨v3, v4, v5, v6, v7, rfl, s4⟩
      rw [Int.zero_add]
      refine ⟨_, rfl, a, ns, 1, rfl, s4.seq hS3, _, rfl, _, _, rfl, rfl, .inl ⟨by decide, by decide⟩, _, _, rfl, rfl, ?_⟩
      refine of_gName (of_nx ?_)
      show tSeq _ _ _ (List.set _ 4 (some (.int (cellV ns 1 + 7 * (i : Int))))) _
      generalize cellV ns 1 + 7 * (i : Int) = cc
      refine ⟨_, rfl, a, ns, 2, rfl, s4.seq hS3, _, rfl, _, rfl, p, _, rfl, .inl (SqL.of (s4 _ _ hg)), _, _, _, rfl, by rw [List.length_map, gl]; omega, by omega, by omega, fun H5 s5 => ⟨_, _, rfl, rfl, ?_⟩⟩
      refine of_gName (of_nx ?_)
      rw [List.length_map, gl]
      obtain ⟨pl, hpl, ep⟩ : ∃ pl : Nat, pl ≤ m ∧ 1 + draw (cellV ns 2) (i : Int) ((m + 1 : Nat) : Int) = ((pl + 1 : Nat) : Int) := by
        have h1 := draw_nonneg (cell := cellV ns 2) (k := (i : Int)) (many := ((m + 1 : Nat) : Int)) (by omega)
        have h2 := draw_lt (cell := cellV ns 2) (k := (i : Int)) (many := ((m + 1 : Nat) : Int)) (by omega)
        exact ⟨(draw (cellV ns 2) (i : Int) ((m + 1 : Nat) : Int)).toNat, by omega, by omega⟩
      show tSeq _ _ _ (List.set _ 5 (some (.int (1 + draw (cellV ns 2) (i : Int) ((m + 1 : Nat) : Int))))) _
      rw [ep]
      have c31a := Int.emod_nonneg cc (show (31 : Int) ≠ 0 by decide)
      have c31b := Int.emod_lt_of_pos cc (show (0 : Int) < 31 by decide)
      refine ⟨_, rfl, _, _, rfl, rfl, (by show (0 : Int) < 31; decide), (cc % 31).toNat, congrArg (fun z => [V.int z]) (by omega), by omega, fun o H6 ho s6 => ?_⟩
      refine of_gName (of_nx ?_)
      have s36 := (s4.trans s5).trans s6
      have hg6 := s36 _ _ hg
      have gm : ((textL ((m + 1 : Nat) : Int) rs).map V.str).length = m + 1 := by rw [List.length_map, gl]
      have e1 := cut_lo (xs := (textL ((m + 1 : Nat) : Int) rs).map V.str) (k := pl + 1) (by omega)
      have e2 := cut_hi (xs := (textL ((m + 1 : Nat) : Int) rs).map V.str) (k := pl + 1) (by omega)
      rw [← List.map_take] at e1
      rw [← List.map_drop] at e2
      -- the rows with a bad one
      refine ⟨_, rfl, _, rfl, _, rfl, p, _, rfl, SqL.of hg6, fun q1 hq1 => ?_⟩
      rw [e1]
      generalize eT : (textL ((m + 1 : Nat) : Int) rs).take (pl + 1) = GT
      generalize eD : (textL ((m + 1 : Nat) : Int) rs).drop (pl + 1) = GD at e2
      have tl1 : GT.length ≤ 6 := by rw [← eT, List.length_take, gl]; omega
      have tl2 : GD.length ≤ 6 := by rw [← eD, List.length_drop, gl]; omega
      have tl12 : GT.length + GD.length ≤ 6 := by rw [← eT, ← eD, List.length_take, List.length_drop, gl]; omega
      have hq1' : upd H6 q1 (.lst (GT.map V.str)) q1 = some (.lst (GT.map V.str)) := upd_same
      have s7 := s36.trans (Same.new (o := .lst (GT.map V.str)) hq1)
      generalize upd H6 q1 (.lst (GT.map V.str)) = H7 at hq1' s7 ⊢
      refine ⟨_, rfl, by show 1 ≤ sizeLine; decide, fun q2 hq2 => ?_⟩
      refine ⟨q1, q2, GT.map V.str, [o].map V.str, rfl, rfl, keepN hq1' hq2, upd_same, by simp only [List.length_map, List.length_append, List.length_singleton]; exact line_of (by omega), fun q3 hq3 => ?_⟩
      have s8 : Same H3 (upd (upd H7 q2 (.lst ([o].map V.str))) q3 (.lst (GT.map V.str ++ [o].map V.str))) := (s7.trans (Same.new hq2)).trans (Same.new hq3)
      have hq3' : upd (upd H7 q2 (.lst ([o].map V.str))) q3 (.lst (GT.map V.str ++ [o].map V.str)) q3 = some (.lst ((GT ++ [o]).map V.str)) := by rw [upd_same, List.map_append]
      show tSl _ _ _ _ _ (upd (upd H7 q2 (.lst ([o].map V.str))) q3 (.lst (GT.map V.str ++ [o].map V.str))) _
      generalize upd (upd H7 q2 (.lst ([o].map V.str))) q3 (.lst (GT.map V.str ++ [o].map V.str)) = H8 at s8 hq3' ⊢
      refine ⟨_, rfl, _, rfl, _, rfl, p, _, rfl, SqL.of (s8 _ _ hg), fun q4 hq4 => ?_⟩
      rw [e2]
      refine ⟨q3, q4, (GT ++ [o]).map V.str, GD.map V.str, rfl, rfl, keepN hq3' hq4, upd_same, by simp only [List.length_map, List.length_append, List.length_singleton]; exact line_of (by omega), fun q5 hq5 => ?_⟩
      have s9 : Same H3 (upd (upd H8 q4 (.lst (GD.map V.str))) q5 (.lst ((GT ++ [o]).map V.str ++ GD.map V.str))) := (s8.trans (Same.new hq4)).trans (Same.new hq5)
      have hq5' : upd (upd H8 q4 (.lst (GD.map V.str))) q5 (.lst ((GT ++ [o]).map V.str ++ GD.map V.str)) q5 = some (.lst ((GT ++ [o] ++ GD).map V.str)) := by rw [upd_same, ← List.map_append]
      refine of_gName (of_nx ?_)
      show tSeq _ _ _ _ (upd (upd H8 q4 (.lst (GD.map V.str))) q5 (.lst ((GT ++ [o]).map V.str ++ GD.map V.str)))
      generalize upd (upd H8 q4 (.lst (GD.map V.str))) q5 (.lst ((GT ++ [o]).map V.str ++ GD.map V.str)) = H9 at s9 hq5' ⊢
      -- some with a second one behind
      obtain ⟨b, hb, eb⟩ : ∃ b : Nat, b ≤ 1 ∧ cc / 31 % 2 = (b : Int) := ⟨(cc / 31 % 2).toNat, by omega, by omega⟩
      refine ⟨_, rfl, by show 1 ≤ sizeLine; decide, fun q6 hq6 => ?_⟩
      have hb0 : (cc / 31 % 2).toNat = b := by omega
      have ew : (List.replicate (cc / 31 % 2).toNat [V.str ("what" : Str)]).flatten = (List.replicate b ("what" : Str)).map V.str := by
        rw [hb0, List.map_replicate]
        exact flat_oneV _ b
      have hwf : ∀ x ∈ List.replicate b ("what" : Str), 10 ∉ tl x ∧ x.length ≤ 4004 := fun x hx => by
        rw [(List.mem_replicate.mp hx).2]
        exact ⟨by decide +kernel, by decide +kernel⟩
      have hwl : (List.replicate b ("what" : Str)).length ≤ 1 := by rw [List.length_replicate]; exact hb
      have hq56 := keepN (u := .lst [V.str ("what" : Str)]) hq5' hq6
      have s10 := s9.trans (Same.new (o := .lst [V.str ("what" : Str)]) hq6)
      have hq6' : upd H9 q6 (.lst [V.str ("what" : Str)]) q6 = some (.lst [V.str ("what" : Str)]) := upd_same
      refine ⟨_, rfl, _, _, rfl, rfl, ⟨by decide, by decide⟩, _, _, rfl, rfl, (by show (0 : Int) < 2; decide), q6, _, _, rfl, rfl, hq6', ?_, ?_, ?_, fun q7 hq7 => ?_⟩
      · show -(2 ^ 63) ≤ cc / 31 % 2
        omega
      · show cc / 31 % 2 < 2 ^ 63
        omega
      · show 1 * (cc / 31 % 2).toNat ≤ sizeLine
        rw [hb0]
        exact line_of (by omega)
      rw [ew]
      generalize List.replicate b ("what" : Str) = WS at hwf hwl ⊢
      generalize upd H9 q6 (.lst [V.str ("what" : Str)]) = H10 at hq56 s10 hq7 ⊢
      refine ⟨q5, q7, (GT ++ [o] ++ GD).map V.str, WS.map V.str, rfl, rfl, keepN hq56 hq7, upd_same, by simp only [List.length_map, List.length_append, List.length_singleton]; exact line_of (by omega), fun q8 hq8 => ?_⟩
      have s11 : Same H3 (upd (upd H10 q7 (.lst (WS.map V.str))) q8 (.lst ((GT ++ [o] ++ GD).map V.str ++ WS.map V.str))) := (s10.trans (Same.new hq7)).trans (Same.new hq8)
      have hq8' : upd (upd H10 q7 (.lst (WS.map V.str))) q8 (.lst ((GT ++ [o] ++ GD).map V.str ++ WS.map V.str)) q8 = some (.lst ((GT ++ [o] ++ GD ++ WS).map V.str)) := by rw [upd_same, ← List.map_append]
      refine of_gName (of_nx ?_)
      show tSeq _ _ _ _ (upd (upd H10 q7 (.lst (WS.map V.str))) q8 (.lst ((GT ++ [o] ++ GD).map V.str ++ WS.map V.str)))
      generalize upd (upd H10 q7 (.lst (WS.map V.str))) q8 (.lst ((GT ++ [o] ++ GD).map V.str ++ WS.map V.str)) = H11 at s11 hq8' ⊢
      have lens : ∀ x ∈ GT ++ [o] ++ GD ++ WS, x.length ≤ 4004 := fun x hx => by
        simp only [List.mem_append, List.mem_singleton] at hx
        rcases hx with ((hx | rfl) | hx) | hx
        · have := g23 x (by rw [← eT] at hx; exact List.mem_of_mem_take hx)
          omega
        · exact ho.2.2
        · have := g23 x (by rw [← eD] at hx; exact List.mem_of_mem_drop hx)
          omega
        · exact (hwf x hx).2
      obtain ⟨j1, j2⟩ := join_len4 lens (by simp only [List.length_append, List.length_singleton]; omega)
      have hRef := text_odd (n := m + 1) (rs := rs) (o := o) (ws := WS) (i := pl) (by omega) (by omega) oks (by omega) ho.1 ho.2.1 (fun x hx => (hwf x hx).1)
      rw [eT, eD] at hRef
      refine ⟨⟨_, rfl⟩, _, rfl, _, q8, GT ++ [o] ++ GD ++ WS, rfl, rfl, .inl (SqL.of hq8'), j1, _, _, rfl, by omega, hRef, fun H12 s12 => ⟨_, rfl, _, _, rfl, rfl, rfl, _, rfl, ?_⟩⟩
      rw [decide_eq_true (show V.int ((pl + 2 : Nat) : Int) = V.int (((pl + 1 : Nat) : Int) + 1) from rfl)]
      refine iteF ?_
      have c14a := Int.emod_nonneg cc (show (14 : Int) ≠ 0 by decide)
      have c14b := Int.emod_lt_of_pos cc (show (0 : Int) < 14 by decide)
      refine ⟨_, rfl, _, _, rfl, rfl, (by show (0 : Int) < 14; decide), (cc % 14).toNat, congrArg (fun z => [V.int z]) (by omega), by omega, fun o2 H13 ho2 s13 => ?_⟩
      refine of_gName (of_nx ?_)
      have s14 := (s11.trans s12).trans s13
      have e3 : cutV ((textL ((m + 1 : Nat) : Int) rs).map V.str) (some 1) none = _ := cut_hi (xs := (textL ((m + 1 : Nat) : Int) rs).map V.str) (k := 1) (by omega)
      rw [← List.map_drop] at e3
      refine ⟨⟨_, rfl⟩, _, rfl, by show 1 ≤ sizeLine; decide, fun q9 hq9 => ⟨_, rfl, 1, rfl, p, _, rfl, SqL.of (keepN (s14 _ _ hg) hq9), fun q10 hq10 => ?_⟩⟩
      rw [e3]
      have gd : ((textL ((m + 1 : Nat) : Int) rs).drop 1).length ≤ 6 := by rw [List.length_drop, gl]; omega
      have gfr : ∀ x ∈ (textL ((m + 1 : Nat) : Int) rs).drop 1, 10 ∉ tl x ∧ x.length ≤ 4004 := fun x hx => ⟨gfree x (List.mem_of_mem_drop hx), by have := g23 x (List.mem_of_mem_drop hx); omega⟩
      generalize (textL ((m + 1 : Nat) : Int) rs).drop 1 = G1 at gd gfr ⊢
      have hq9' : upd H13 q9 (.lst [V.str o2]) q9 = some (.lst ([o2].map V.str)) := upd_same
      have s15 := s14.trans (Same.new (o := .lst [V.str o2]) hq9)
      generalize upd H13 q9 (.lst [V.str o2]) = H14 at hq9' s15 hq10 ⊢
      refine ⟨q9, q10, [o2].map V.str, G1.map V.str, rfl, rfl, keepN hq9' hq10, upd_same, by simp only [List.length_map, List.length_singleton]; exact line_of (by omega), fun q11 hq11 => ?_⟩
      have s16 : Same H3 (upd (upd H14 q10 (.lst (G1.map V.str))) q11 (.lst ([o2].map V.str ++ G1.map V.str))) := (s15.trans (Same.new hq10)).trans (Same.new hq11)
      have hq11' : upd (upd H14 q10 (.lst (G1.map V.str))) q11 (.lst ([o2].map V.str ++ G1.map V.str)) q11 = some (.lst ((o2 :: G1).map V.str)) := by rw [upd_same]; rfl
      obtain ⟨j3, j4⟩ := join_len4 (l := o2 :: G1) (fun x hx => (List.mem_cons.mp hx).elim (fun e => e ▸ ho2.2.2) fun h => (gfr x h).2) (by rw [List.length_cons]; omega)
      have hRef2 := text_head (o := o2) (xs := G1) ho2.1 ho2.2.1 (fun x hx => (gfr x hx).1)
      refine ⟨_, q11, o2 :: G1, rfl, rfl, .inl (SqL.of hq11'), j3, _, _, rfl, by omega, hRef2, fun H15 s17 => ⟨rfl, _, rfl, ?_⟩⟩
      rw [decide_eq_true (show V.int 1 = V.int 1 from rfl)]
      refine iteF ?_
      exact ⟨_, _, _, _, _, rfl, s16.trans s17⟩
    rintro σ' H4 ⟨v3, v4, v5, v6, v7, rfl, s4⟩
    have hRef3 := text_end (n := m + 1) (rs := rs) (by omega) (by omega) oks
    have nl1 : ("\n" : Str).length = 1 := by rw [len_tl, tl_nl]; rfl
    refine ⟨⟨_, rfl⟩, _, rfl, _, p, textL ((m + 1 : Nat) : Int) rs, rfl, rfl, .inl (SqL.of (s4 _ _ hg)), jf, _, _, rfl, rfl, line_20 (by show (textT ((m + 1 : Nat) : Int) rs).length + _ ≤ _; omega), textT ((m + 1 : Nat) : Int) rs ++ ("\n" : Str), _, rfl, by rw [len_app]; omega, hRef3, fun H5 s5 => ⟨_, rfl, p, _, rfl, .inl (SqL.of (s5 _ _ (s4 _ _ hg))), _, _, rfl, rfl, rfl, _, rfl, ?_⟩⟩
    rw [decide_eq_true (show V.int ((rs.length + 2 : Nat) : Int) = V.int (((((textL ((m + 1 : Nat) : Int) rs).map V.str).length : Nat) : Int) + 1) from by rw [List.length_map, gl, hlen]; rfl)]
    refine iteF ?_
    have c6a := Int.emod_nonneg (cellV ns 3) (show (1000000 : Int) ≠ 0 by decide)
    have c6b := Int.emod_lt_of_pos (cellV ns 3) (show (0 : Int) < 1000000 by decide)
    exact ⟨_, rfl, a, ns, 3, rfl, (s4.trans s5).seq hS3, _, _, rfl, rfl, (by show (0 : Int) < 1000000; decide), _, rfl, c6a, c6b, fun H' => k H'⟩
end
end Wr

namespace Wr
open PySem L2
theorem all_mk {l : PySem.W.OpenLaw} {w : World} {K : PySem.W.Frag} {h : Heap} {mg : Str → Option Value} {fa : Addr} (X : K.In h) (G : h.Ns mainGlobals mg) (hfa : mg "law" = some (.ref fa))
    {CT CBadTree CNoVillage CNoRoad CBadNumber CBadRow CRoadError fis_whole fwithin fis_road fwalked fcell fdraw finitX frowI fnumber_in froad_in fread frefused fbad_road fbad_head fwhole flaw : Addr} {odis_whole anis_whole odwithin anwithin odis_road anis_road odwalked anwalked odcell ancell oddraw andraw odinitX aninitX odrowI anrowI odnumber_in annumber_in odroad_in anroad_in odread anread odrefused anrefused odbad_road anbad_road odbad_head anbad_head odwhole anwhole odlaw anlaw : Option Addr} {slis_whole slwithin slis_road slwalked slcell sldraw slinitX slrowI slnumber_in slroad_in slread slrefused slbad_road slbad_head slwhole sllaw : Array (Option Value)} {ocis_whole kVis_whole dcis_whole pmis_whole ctis_whole cdis_whole ocwithin kVwithin dcwithin pmwithin ctwithin cdwithin ocis_road kVis_road dcis_road pmis_road ctis_road cdis_road ocwalked kVwalked dcwalked pmwalked ctwalked cdwalked occell kVcell dccell pmcell ctcell cdcell ocdraw kVdraw dcdraw pmdraw ctdraw cddraw ocinitX kVinitX dcinitX pminitX ctinitX cdinitX ocrowI kVrowI dcrowI pmrowI ctrowI cdrowI ocnumber_in kVnumber_in dcnumber_in pmnumber_in ctnumber_in cdnumber_in ocroad_in kVroad_in dcroad_in pmroad_in ctroad_in cdroad_in ocread kVread dcread pmread ctread cdread ocrefused kVrefused dcrefused pmrefused ctrefused cdrefused ocbad_road kVbad_road dcbad_road pmbad_road ctbad_road cdbad_road ocbad_head kVbad_head dcbad_head pmbad_head ctbad_head cdbad_head ocwhole kVwhole dcwhole pmwhole ctwhole cdwhole oclaw kVlaw dclaw pmlaw ctlaw cdlaw : Value} {tMOST tLONGEST tFIGURES : Tok}
    (aCT : PySem.W.nsIn K mainGlobals "Tree" = some (some (.ref CT)))
    (pgT : PySem.W.plainGet K CT Str.empty = true)
    (hdT : PySem.W.hasDictIn K CT = true)
    (poT : PySem.W.plainOver K CT = true)
    (saT : PySem.W.findIn K (.ref CT) "__setattr__" = some (some (.builtin "object.__setattr__")))
    (mkT : PySem.W.makesIn K CT = true)
    (kcT : PySem.W.keepIn K (.ref CT) = true)
    (nT_size : PySem.W.findIn K (.ref CT) "size" = some none)
    (nT_rows : PySem.W.findIn K (.ref CT) "rows" = some none)
    (aCBadTree : PySem.W.nsIn K mainGlobals "BadTree" = some (some (.ref CBadTree)))
    (aCNoVillage : PySem.W.nsIn K mainGlobals "NoVillage" = some (some (.ref CNoVillage)))
    (aCNoRoad : PySem.W.nsIn K mainGlobals "NoRoad" = some (some (.ref CNoRoad)))
    (aCBadNumber : PySem.W.nsIn K mainGlobals "BadNumber" = some (some (.ref CBadNumber)))
    (aCBadRow : PySem.W.nsIn K mainGlobals "BadRow" = some (some (.ref CBadRow)))
    (aCRoadError : PySem.W.nsIn K mainGlobals "RoadError" = some (some (.ref CRoadError)))
    (aMOST : PySem.W.nsIn K mainGlobals "MOST" = some (some (.int 12 tMOST)))
    (aLONGEST : PySem.W.nsIn K mainGlobals "LONGEST" = some (some (.int 1000000 tLONGEST)))
    (aFIGURES : PySem.W.nsIn K mainGlobals "FIGURES" = some (some (.str "0123456789" tFIGURES)))
    (ais_whole : PySem.W.nsIn K mainGlobals "is_whole" = some (some (.ref fis_whole)))
    (lis_whole : K.lookup fis_whole = some ⟨ocis_whole, odis_whole, .func (PySem.W.fnOf "is_whole" "is_whole" (defArgs S_is_whole) (defBody S_is_whole) (defScope S_is_whole) .none kVis_whole dcis_whole pmis_whole anis_whole cdis_whole ctis_whole), slis_whole⟩)
    (cis_whole : PySem.W.codeIn K cdis_whole "is_whole" = true)
    (kis_whole : PySem.W.keepIn K (.ref fis_whole) = true)
    (awithin : PySem.W.nsIn K mainGlobals "within" = some (some (.ref fwithin)))
    (lwithin : K.lookup fwithin = some ⟨ocwithin, odwithin, .func (PySem.W.fnOf "within" "within" (defArgs S_within) (defBody S_within) (defScope S_within) .none kVwithin dcwithin pmwithin anwithin cdwithin ctwithin), slwithin⟩)
    (cwithin : PySem.W.codeIn K cdwithin "within" = true)
    (kwithin : PySem.W.keepIn K (.ref fwithin) = true)
    (ais_road : PySem.W.nsIn K mainGlobals "is_road" = some (some (.ref fis_road)))
    (lis_road : K.lookup fis_road = some ⟨ocis_road, odis_road, .func (PySem.W.fnOf "is_road" "is_road" (defArgs S_is_road) (defBody S_is_road) (defScope S_is_road) .none kVis_road dcis_road pmis_road anis_road cdis_road ctis_road), slis_road⟩)
    (cis_road : PySem.W.codeIn K cdis_road "is_road" = true)
    (kis_road : PySem.W.keepIn K (.ref fis_road) = true)
    (awalked : PySem.W.findIn K (.ref CT) "walked" = some (some (.ref fwalked)))
    (iwalked : PySem.W.isFn K (.ref fwalked) = true)
    (lwalked : K.lookup fwalked = some ⟨ocwalked, odwalked, .func (PySem.W.fnOf "walked" "Tree.walked" (defArgs S_Tree_walked) (defBody S_Tree_walked) (defScope S_Tree_walked) .none kVwalked dcwalked pmwalked anwalked cdwalked ctwalked), slwalked⟩)
    (cwalked : PySem.W.codeIn K cdwalked "Tree.walked" = true)
    (kwalked : PySem.W.keepIn K (.ref fwalked) = true)
    (acell : PySem.W.nsIn K mainGlobals "_law_cell_at" = some (some (.ref fcell)))
    (lcell : K.lookup fcell = some ⟨occell, odcell, .func (PySem.W.fnOf "_law_cell_at" "_law_cell_at" (defArgs S_law_cell_at) (defBody S_law_cell_at) (defScope S_law_cell_at) .none kVcell dccell pmcell ancell cdcell ctcell), slcell⟩)
    (ccell : PySem.W.codeIn K cdcell "_law_cell_at" = true)
    (kcell : PySem.W.keepIn K (.ref fcell) = true)
    (adraw : PySem.W.nsIn K mainGlobals "_law_draw" = some (some (.ref fdraw)))
    (ldraw : K.lookup fdraw = some ⟨ocdraw, oddraw, .func (PySem.W.fnOf "_law_draw" "_law_draw" (defArgs S_law_draw) (defBody S_law_draw) (defScope S_law_draw) .none kVdraw dcdraw pmdraw andraw cddraw ctdraw), sldraw⟩)
    (cdraw : PySem.W.codeIn K cddraw "_law_draw" = true)
    (kdraw : PySem.W.keepIn K (.ref fdraw) = true)
    (ainitX : PySem.W.findIn K (.ref CT) "__init__" = some (some (.ref finitX)))
    (iinitX : PySem.W.isFn K (.ref finitX) = true)
    (linitX : K.lookup finitX = some ⟨ocinitX, odinitX, .func (PySem.W.fnOf "__init__" "Tree.__init__" (defArgs S_Tree_init) (defBody S_Tree_init) (defScope S_Tree_init) .none kVinitX dcinitX pminitX aninitX cdinitX ctinitX), slinitX⟩)
    (cinitX : PySem.W.codeIn K cdinitX "Tree.__init__" = true)
    (kinitX : PySem.W.keepIn K (.ref finitX) = true)
    (arowI : PySem.W.findIn K (.ref CBadRow) "__init__" = some (some (.ref frowI)))
    (irowI : PySem.W.isFn K (.ref frowI) = true)
    (lrowI : K.lookup frowI = some ⟨ocrowI, odrowI, .func (PySem.W.fnOf "__init__" "BadRow.__init__" (defArgs S_BadRow_init) (defBody S_BadRow_init) (defScope S_BadRow_init) .none kVrowI dcrowI pmrowI anrowI cdrowI ctrowI), slrowI⟩)
    (crowI : PySem.W.codeIn K cdrowI "BadRow.__init__" = true)
    (krowI : PySem.W.keepIn K (.ref frowI) = true)
    (anumber_in : PySem.W.nsIn K mainGlobals "number_in" = some (some (.ref fnumber_in)))
    (lnumber_in : K.lookup fnumber_in = some ⟨ocnumber_in, odnumber_in, .func (PySem.W.fnOf "number_in" "number_in" (defArgs S_number_in) (defBody S_number_in) (defScope S_number_in) .none kVnumber_in dcnumber_in pmnumber_in annumber_in cdnumber_in ctnumber_in), slnumber_in⟩)
    (cnumber_in : PySem.W.codeIn K cdnumber_in "number_in" = true)
    (knumber_in : PySem.W.keepIn K (.ref fnumber_in) = true)
    (aroad_in : PySem.W.nsIn K mainGlobals "road_in" = some (some (.ref froad_in)))
    (lroad_in : K.lookup froad_in = some ⟨ocroad_in, odroad_in, .func (PySem.W.fnOf "road_in" "road_in" (defArgs S_road_in) (defBody S_road_in) (defScope S_road_in) .none kVroad_in dcroad_in pmroad_in anroad_in cdroad_in ctroad_in), slroad_in⟩)
    (croad_in : PySem.W.codeIn K cdroad_in "road_in" = true)
    (kroad_in : PySem.W.keepIn K (.ref froad_in) = true)
    (aread : PySem.W.nsIn K mainGlobals "read" = some (some (.ref fread)))
    (lread : K.lookup fread = some ⟨ocread, odread, .func (PySem.W.fnOf "read" "read" (defArgs S_read) (defBody S_read) (defScope S_read) .none kVread dcread pmread anread cdread ctread), slread⟩)
    (cread : PySem.W.codeIn K cdread "read" = true)
    (kread : PySem.W.keepIn K (.ref fread) = true)
    (arefused : PySem.W.nsIn K mainGlobals "_law_refused" = some (some (.ref frefused)))
    (lrefused : K.lookup frefused = some ⟨ocrefused, odrefused, .func (PySem.W.fnOf "_law_refused" "_law_refused" (defArgs S_law_refused) (defBody S_law_refused) (defScope S_law_refused) .none kVrefused dcrefused pmrefused anrefused cdrefused ctrefused), slrefused⟩)
    (crefused : PySem.W.codeIn K cdrefused "_law_refused" = true)
    (krefused : PySem.W.keepIn K (.ref frefused) = true)
    (abad_road : PySem.W.nsIn K mainGlobals "_law_bad_road" = some (some (.ref fbad_road)))
    (lbad_road : K.lookup fbad_road = some ⟨ocbad_road, odbad_road, .func (PySem.W.fnOf "_law_bad_road" "_law_bad_road" (defArgs S_law_bad_road) (defBody S_law_bad_road) (defScope S_law_bad_road) .none kVbad_road dcbad_road pmbad_road anbad_road cdbad_road ctbad_road), slbad_road⟩)
    (cbad_road : PySem.W.codeIn K cdbad_road "_law_bad_road" = true)
    (kbad_road : PySem.W.keepIn K (.ref fbad_road) = true)
    (abad_head : PySem.W.nsIn K mainGlobals "_law_bad_head" = some (some (.ref fbad_head)))
    (lbad_head : K.lookup fbad_head = some ⟨ocbad_head, odbad_head, .func (PySem.W.fnOf "_law_bad_head" "_law_bad_head" (defArgs S_law_bad_head) (defBody S_law_bad_head) (defScope S_law_bad_head) .none kVbad_head dcbad_head pmbad_head anbad_head cdbad_head ctbad_head), slbad_head⟩)
    (cbad_head : PySem.W.codeIn K cdbad_head "_law_bad_head" = true)
    (kbad_head : PySem.W.keepIn K (.ref fbad_head) = true)
    (awhole : PySem.W.nsIn K mainGlobals "_law_whole" = some (some (.ref fwhole)))
    (lwhole : K.lookup fwhole = some ⟨ocwhole, odwhole, .func (PySem.W.fnOf "_law_whole" "_law_whole" (defArgs S_law_whole) (defBody S_law_whole) (defScope S_law_whole) .none kVwhole dcwhole pmwhole anwhole cdwhole ctwhole), slwhole⟩)
    (cwhole : PySem.W.codeIn K cdwhole "_law_whole" = true)
    (kwhole : PySem.W.keepIn K (.ref fwhole) = true)
    (alaw : PySem.W.nsIn K mainGlobals "law" = some (some (.ref flaw)))
    (llaw : K.lookup flaw = some ⟨oclaw, odlaw, .func (PySem.W.fnOf "law" "law" (defArgs S_law) (defBody S_law) (defScope S_law) .none kVlaw dclaw pmlaw anlaw cdlaw ctlaw), sllaw⟩)
    (claw : PySem.W.codeIn K cdlaw "law" = true)
    (klaw : PySem.W.keepIn K (.ref flaw) = true)
    (xBadTree : PySem.W.excIn K CBadTree [.type "ValueError", .type "Exception", .type "BaseException", .type "object"] "ValueError.__new__" = true)
    (kBadTree : PySem.W.keepIn K (.ref CBadTree) = true)
    (bBadTree : PySem.W.subIn K (.ref CBadTree) (.type "BaseException") = some true)
    (tBadTree : PySem.W.typeIn K (.ref CBadTree) = some (.type "type"))
    (egBadRow : PySem.W.findIn K (.ref CBadRow) "__getattribute__" = some (some (.builtin "BaseException.__getattribute__")))
    (ekBadRow : PySem.W.findIn K (.ref CBadRow) "__getattr__" = some none)
    (esBadRow : PySem.W.subIn K (.ref CBadRow) (.type "BaseException") = some true)
    (edBadRow : PySem.W.hasDictIn K CBadRow = true)
    (eaBadRow : PySem.W.findIn K (.ref CBadRow) "__class__" = some (some (.builtin "object.__class__")))
    (enBadRow : PySem.W.specialIn K (.builtin "object.__class__") "__get__" = some (some (.builtin "getset_descriptor.__get__")))
    (etBadRow : PySem.W.takesIn K (.builtin "object.__class__") = some true)
    (emBadRow : PySem.W.mroIn K CBadRow (.type "object") = some true)
    (ebBadTree : PySem.W.subIn K (.ref CBadTree) (.type "BaseException") = some true)
    (ehBadTree : PySem.W.hasDictIn K CBadTree = true)
    (eyBadTree : PySem.W.typeIn K (.ref CBadTree) = some (.type "type"))
    (ecBadTreeBadTree : PySem.W.subIn K (.ref CBadTree) (.ref CBadTree) = some true)
    (ebR : PySem.W.subIn K (.ref CRoadError) (.type "BaseException") = some true)
    (ehR : PySem.W.hasDictIn K CRoadError = true)
    (eyR : PySem.W.typeIn K (.ref CRoadError) = some (.type "type"))
    (erR : PySem.W.subIn K (.ref CBadRow) (.ref CRoadError) = some true)
    (q0 : PySem.W.kitOne K (.ref CBadRow) (.ref CBadTree) = some false)
    (q1 : PySem.W.kitOne K (.ref CBadRow) (.ref CNoRoad) = some false)
    (q2 : PySem.W.kitOne K (.ref CBadRow) (.ref CNoVillage) = some false)
    (q3 : PySem.W.kitOne K (.ref CBadRow) (.ref CBadNumber) = some false)
    (q4 : PySem.W.kitOne K (.ref CBadRow) (.ref CBadRow) = some true)
    (qv : PySem.W.kitOne K (.ref CBadRow) (.type "ValueError") = some true)
    (zVE : PySem.W.nsIn K mainGlobals "ValueError" = some none)
    (rsp : PySem.W.specialIn K (.ref CRoadError) "__getattribute__" = some (some (.builtin "type.__getattribute__")))
    (rrd : PySem.W.readsIn K CRoadError (.type "type") = true)
    (rfc : PySem.W.findCls K (.ref CRoadError) (.type "type") "__init__" = some (.val (.builtin "ValueError.__init__")))
    (oxR : oexB K CBadRow = true)
    (saR : PySem.W.findIn K (.ref CBadRow) "__setattr__" = some (some (.builtin "object.__setattr__")))
    (tyR : PySem.W.typeIn K (.ref CBadRow) = some (.type "type"))
    (kcR : PySem.W.keepIn K (.ref CBadRow) = true)
    (nrR : PySem.W.findIn K (.ref CBadRow) "row" = some none)
    (tfR : PySem.W.typeIn K (.ref frowI) = some (.type "function"))
    (zlen : PySem.W.nsIn K mainGlobals "len" = some none)
    (zisinstance : PySem.W.nsIn K mainGlobals "isinstance" = some none)
    (zlist : PySem.W.nsIn K mainGlobals "list" = some none)
    (zint : PySem.W.nsIn K mainGlobals "int" = some none)
    (zbool : PySem.W.nsIn K mainGlobals "bool" = some none)
    (ztuple : PySem.W.nsIn K mainGlobals "tuple" = some none)
    (zrange : PySem.W.nsIn K mainGlobals "range" = some none)
    (zset : PySem.W.nsIn K mainGlobals "set" = some none)
    (zsorted : PySem.W.nsIn K mainGlobals "sorted" = some none)
    (zsum : PySem.W.nsIn K mainGlobals "sum" = some none)
    (zmax : PySem.W.nsIn K mainGlobals "max" = some none)
    (zmin : PySem.W.nsIn K mainGlobals "min" = some none)
    (zany : PySem.W.nsIn K mainGlobals "any" = some none)
    (zall : PySem.W.nsIn K mainGlobals "all" = some none)
    (zreversed : PySem.W.nsIn K mainGlobals "reversed" = some none)
    (zstr : PySem.W.nsIn K mainGlobals "str" = some none)
    : ∃ fd : FuncData, (∀ (s : Shared) (v : Value), BindsTo s fd ⟨[v], []⟩ [("_law_script", v)]) ∧ ∀ base : Heap, K.In base → base.Ns mainGlobals mg → FnOk l.prog w K mg base CX0 9 fa fd ["_law_script"] (spLaw K) := by
  have e := hfa.symm.trans (PySem.W.mg_of X G alaw)
  cases e
  have B : Bi mg := ⟨PySem.W.mg_none_of X G zlen, PySem.W.mg_none_of X G zisinstance, PySem.W.mg_none_of X G zlist, PySem.W.mg_none_of X G zint, PySem.W.mg_none_of X G zbool, PySem.W.mg_none_of X G ztuple, PySem.W.mg_none_of X G zrange, PySem.W.mg_none_of X G zset, PySem.W.mg_none_of X G zsorted, PySem.W.mg_none_of X G zsum, PySem.W.mg_none_of X G zmax, PySem.W.mg_none_of X G zmin, PySem.W.mg_none_of X G zany, PySem.W.mg_none_of X G zall, PySem.W.mg_none_of X G zreversed, PySem.W.mg_none_of X G zstr⟩
  have F_is_whole := fun_mk (st := S_is_whole) lis_whole cis_whole kis_whole
  have F_within := fun_mk (st := S_within) lwithin cwithin kwithin
  have F_is_road := fun_mk (st := S_is_road) lis_road cis_road kis_road
  have F_walked := fun_mk (st := S_Tree_walked) lwalked cwalked kwalked
  have F_cell := fun_mk (st := S_law_cell_at) lcell ccell kcell
  have F_draw := fun_mk (st := S_law_draw) ldraw cdraw kdraw
  have F_initX := fun_mk (st := S_Tree_init) linitX cinitX kinitX
  have F_rowI := fun_mk (st := S_BadRow_init) lrowI crowI krowI
  have F_number_in := fun_mk (st := S_number_in) lnumber_in cnumber_in knumber_in
  have F_road_in := fun_mk (st := S_road_in) lroad_in croad_in kroad_in
  have F_read := fun_mk (st := S_read) lread cread kread
  have F_refused := fun_mk (st := S_law_refused) lrefused crefused krefused
  have F_bad_road := fun_mk (st := S_law_bad_road) lbad_road cbad_road kbad_road
  have F_bad_head := fun_mk (st := S_law_bad_head) lbad_head cbad_head kbad_head
  have F_whole := fun_mk (st := S_law_whole) lwhole cwhole kwhole
  have F_law := fun_mk (st := S_law) llaw claw klaw
  refine ⟨PySem.W.fnOf "law" "law" (defArgs S_law) (defBody S_law) (defScope S_law) .none kVlaw dclaw pmlaw anlaw cdlaw ctlaw, fun s v => .of_eq rfl, fun base _ _ => ?_⟩
  have T : Tx K mg CT := ⟨⟨pgT, hdT, poT, saT⟩, nT_size, nT_rows⟩
  have mM : ∃ t, mg "MOST" = some (.int 12 t) := ⟨_, PySem.W.mg_of X G aMOST⟩
  have mL : ∃ t, mg "LONGEST" = some (.int 1000000 t) := ⟨_, PySem.W.mg_of X G aLONGEST⟩
  have m_FIGURES : ∃ t, mg "FIGURES" = some (.str "0123456789" t) := ⟨_, PySem.W.mg_of X G aFIGURES⟩
  have X_BadTree : Xc K mg "BadTree" CBadTree := ⟨PySem.W.mg_of X G aCBadTree, xBadTree, kBadTree, bBadTree, tBadTree⟩
  have ex_BadTree_BadTree : PySem.W.exmOne K (.ref CBadTree) (.ref CBadTree) = some true := PySem.W.exm_ref ebBadTree ehBadTree eyBadTree ecBadTreeBadTree
  have EC : ExcC K CBadRow := ⟨egBadRow, ekBadRow, esBadRow, edBadRow, eaBadRow, enBadRow, etBadRow, emBadRow⟩
  have RZ : Rz K mg CRoadError := ⟨(PySem.W.mg_of X G aCRoadError), rsp, rrd, rfc⟩
  have OT : OexC K CBadRow := oex_of oxR saR esBadRow tyR kcR
  have RX := Rx.mk (P := l.prog) (w := w) (base := base) (PySem.W.mg_of X G aCBadRow) OT arowI tfR (ok_rowI F_rowI RZ OT nrR) (ok_rowH F_rowI RZ OT nrR) (F_rowI.binds fun _ _ _ _ _ _ us hl => match us, hl with | [_, _], _ => rfl)
  have Z : Ck K mg CBadRow CBadTree CNoRoad CNoVillage CBadNumber CRoadError := ⟨(PySem.W.mg_of X G aCBadRow), (PySem.W.mg_of X G aCBadTree), (PySem.W.mg_of X G aCNoRoad), (PySem.W.mg_of X G aCNoVillage), (PySem.W.mg_of X G aCBadNumber), (PySem.W.mg_of X G aCRoadError), PySem.W.mg_none_of X G zVE, EC, ⟨egBadRow, ekBadRow, esBadRow, edBadRow⟩, nrR, PySem.W.exm_ref ebR ehR eyR erR, q0, q1, q2, q3, q4, qv⟩
  have G_is_whole : Gd l.prog w K mg base 1 "is_whole" ["number"] (spWhole K) := gd_mk F_is_whole (PySem.W.mg_of X G ais_whole) (F_is_whole.binds fun _ _ _ _ _ _ us hl => match us, hl with | [_], _ => rfl) (ok_is_whole F_is_whole B)
  have G_within : Gd l.prog w K mg base 2 "within" ["number", "low", "high"] (spWithin K) := gd_mk F_within (PySem.W.mg_of X G awithin) (F_within.binds fun _ _ _ _ _ _ us hl => match us, hl with | [_, _, _], _ => rfl) (ok_within F_within G_is_whole)
  have G_is_road : Gd l.prog w K mg base 3 "is_road" ["thing", "villages"] (spRoad K) := gd_mk F_is_road (PySem.W.mg_of X G ais_road) (F_is_road.binds fun _ _ _ _ _ _ us hl => match us, hl with | [_, _], _ => rfl) (ok_is_road F_is_road B mL G_within)
  have G_walked : Gm l.prog w K mg base CT 1 "walked" ["self", "start"] (spWalked CT) := gm_mk ⟨awalked, iwalked, kwalked⟩ (F_walked.binds fun _ _ _ _ _ _ us hl => match us, hl with | [_, _], _ => rfl) (ok_walked F_walked T)
  have G_cell : Gd l.prog w K mg base 1 "_law_cell_at" ["_law_script", "_law_k"] (spCell K) := gd_mk F_cell (PySem.W.mg_of X G acell) (F_cell.binds fun _ _ _ _ _ _ us hl => match us, hl with | [_, _], _ => rfl) (ok_cell F_cell B)
  have G_draw : Gd l.prog w K mg base 1 "_law_draw" ["_law_cell", "_law_k", "_law_many"] spDraw := gd_mk F_draw (PySem.W.mg_of X G adraw) (F_draw.binds fun _ _ _ _ _ _ us hl => match us, hl with | [_, _, _], _ => rfl) (ok_draw F_draw )
  have G_initX : GcN l.prog w K mg base CT 4 "Tree" ["self", "villages", "roads"] (spInitX (K := K) CT CBadTree) := gc_mkN (PySem.W.mg_of X G aCT) ⟨mkT, ainitX, iinitX, kcT⟩ (F_initX.binds fun _ _ _ _ _ _ us hl => match us, hl with | [_, _, _], _ => rfl) (ok_initX F_initX T B X_BadTree mM G_within G_is_road G_walked)
  have G_number_in : Gd l.prog w K mg base 1 "number_in" ["text"] spNumG := gd_mk F_number_in (PySem.W.mg_of X G anumber_in) (F_number_in.binds fun _ _ _ _ _ _ us hl => match us, hl with | [_], _ => rfl) (ok_numberG F_number_in B m_FIGURES)
  have G_road_in : Gd l.prog w K mg base 2 "road_in" ["text"] spRoadG := gd_mk F_road_in (PySem.W.mg_of X G aroad_in) (F_road_in.binds fun _ _ _ _ _ _ us hl => match us, hl with | [_], _ => rfl) (ok_roadG F_road_in B G_number_in)
  have G_read : GdQ l.prog w K mg base 6 "read" ["text"] (spReadG CBadRow) := gd_mkQ F_read (PySem.W.mg_of X G aread) (F_read.binds fun _ _ _ _ _ _ us hl => match us, hl with | [_], _ => rfl) (ok_readG F_read B X_BadTree ex_BadTree_BadTree RX G_number_in G_road_in G_initX)
  have G_refused : Gd l.prog w K mg base 7 "_law_refused" ["_law_text"] spRefused := gd_mk F_refused (PySem.W.mg_of X G arefused) (F_refused.binds fun _ _ _ _ _ _ us hl => match us, hl with | [_], _ => rfl) (ok_refused F_refused B Z G_read)
  have G_bad_road : Gd l.prog w K mg base 1 "_law_bad_road" ["_law_which"] spBadR := gd_mk F_bad_road (PySem.W.mg_of X G abad_road) (F_bad_road.binds fun _ _ _ _ _ _ us hl => match us, hl with | [_], _ => rfl) (ok_bad_road F_bad_road )
  have G_bad_head : Gd l.prog w K mg base 1 "_law_bad_head" ["_law_which"] spBadH := gd_mk F_bad_head (PySem.W.mg_of X G abad_head) (F_bad_head.binds fun _ _ _ _ _ _ us hl => match us, hl with | [_], _ => rfl) (ok_bad_head F_bad_head )
  have G_whole : Gd l.prog w K mg base 8 "_law_whole" ["_law_more"] spWhole9 := gd_mk F_whole (PySem.W.mg_of X G awhole) (F_whole.binds fun _ _ _ _ _ _ us hl => match us, hl with | [_], _ => rfl) (ok_whole9 F_whole B G_refused)
  exact ok_law F_law B G_cell G_draw G_refused G_bad_road G_bad_head G_whole
theorem walk {l : PySem.W.OpenLaw} {q : Program} {loose : List Str} {XP : (Str → Option Value) → Heap → Prop} {YP : World → Heap → Prop} {d : DefRec} {K : Params → PySem.W.Frag} (hn : l.most = some 63) (hdf : d.params.defaults = [])
    (hY : ∀ (w : World) (h : Heap), YP w h → (K w.params).In h)
    (F : ∀ (w : World) (mg : Str → Option Value) (fa : Addr) (h : Heap), (K w.params).In h → h.Ns mainGlobals mg → mg d.name = some (.ref fa) →
      ∃ fd : FuncData, (∀ (s : Shared) (u : Value), BindsTo s fd ⟨[u], []⟩ [("_law_script", u)]) ∧ ∀ base : Heap, (K w.params).In base → base.Ns mainGlobals mg → FnOk l.prog w (K w.params) mg base CX0 9 fa fd ["_law_script"] (spLaw (K w.params))) :
    PySem.W.WalkO q loose XP YP l.row.toRowW d [] (fun f vs => PySem.call f vs) :=
  L2.walk_of (n := 63) (k := 9) (x := "_law_script") (CX := fun _ => CX0) (sp := fun w => spLaw (K w.params)) hn (by decide) hdf ⟨rfl, by decide, by decide⟩ hY F (fun _ _ a ns hl _ hS => ⟨a, ns, rfl, hS, hl, fun _ => rfl⟩) fun _ _ _ _ _ z => z
end Wr

open PySem PySem.W PyProof.Rows
set_option maxRecDepth 100000 in
set_option maxHeartbeats 0 in
theorem PySem.Challenge.cw_wellroads_k09_texts_misread_holds : PySem.Challenge.rw_wellroads_k09_texts_misread.Holds := by
  w_on; o_law; k_head; (case hw => w_witness2)
  k_fill
  refine Wr.walk (l := PySem.Challenge.rw_wellroads_k09_texts_misread) rfl rfl (fun w h Y => PySem.W.kIn_of Y) ?F
  case F =>
    intro w mg fa h KX G hmg
    refine' Wr.all_mk KX G hmg ?aCT ?pgT ?hdT ?poT ?saT ?mkT ?kcT ?nT_size ?nT_rows ?aCBadTree ?aCNoVillage ?aCNoRoad ?aCBadNumber ?aCBadRow ?aCRoadError ?aMOST ?aLONGEST ?aFIGURES ?ais_whole ?lis_whole ?cis_whole ?kis_whole ?awithin ?lwithin ?cwithin ?kwithin ?ais_road ?lis_road ?cis_road ?kis_road ?awalked ?iwalked ?lwalked ?cwalked ?kwalked ?acell ?lcell ?ccell ?kcell ?adraw ?ldraw ?cdraw ?kdraw ?ainitX ?iinitX ?linitX ?cinitX ?kinitX ?arowI ?irowI ?lrowI ?crowI ?krowI ?anumber_in ?lnumber_in ?cnumber_in ?knumber_in ?aroad_in ?lroad_in ?croad_in ?kroad_in ?aread ?lread ?cread ?kread ?arefused ?lrefused ?crefused ?krefused ?abad_road ?lbad_road ?cbad_road ?kbad_road ?abad_head ?lbad_head ?cbad_head ?kbad_head ?awhole ?lwhole ?cwhole ?kwhole ?alaw ?llaw ?claw ?klaw ?xBadTree ?kBadTree ?bBadTree ?tBadTree ?egBadRow ?ekBadRow ?esBadRow ?edBadRow ?eaBadRow ?enBadRow ?etBadRow ?emBadRow ?ebBadTree ?ehBadTree ?eyBadTree ?ecBadTreeBadTree ?ebR ?ehR ?eyR ?erR ?q0 ?q1 ?q2 ?q3 ?q4 ?qv ?zVE ?rsp ?rrd ?rfc ?oxR ?saR ?tyR ?kcR ?nrR ?tfR ?zlen ?zisinstance ?zlist ?zint ?zbool ?ztuple ?zrange ?zset ?zsorted ?zsum ?zmax ?zmin ?zany ?zall ?zreversed ?zstr
    (case aCT => k_is)
    (case pgT => k_is)
    (case hdT => k_is)
    (case poT => k_is)
    (case saT => k_is)
    (case mkT => k_is)
    (case kcT => k_is)
    (case nT_size => k_is)
    (case nT_rows => k_is)
    (case aCBadTree => k_is)
    (case aCNoVillage => k_is)
    (case aCNoRoad => k_is)
    (case aCBadNumber => k_is)
    (case aCBadRow => k_is)
    (case aCRoadError => k_is)
    (case aMOST => k_is)
    (case aLONGEST => k_is)
    (case aFIGURES => k_is)
    (case ais_whole => k_is)
    (case lis_whole => k_is)
    (case cis_whole => k_is)
    (case kis_whole => k_is)
    (case awithin => k_is)
    (case lwithin => k_is)
    (case cwithin => k_is)
    (case kwithin => k_is)
    (case ais_road => k_is)
    (case lis_road => k_is)
    (case cis_road => k_is)
    (case kis_road => k_is)
    (case awalked => k_is)
    (case iwalked => k_is)
    (case lwalked => k_is)
    (case cwalked => k_is)
    (case kwalked => k_is)
    (case acell => k_is)
    (case lcell => k_is)
    (case ccell => k_is)
    (case kcell => k_is)
    (case adraw => k_is)
    (case ldraw => k_is)
    (case cdraw => k_is)
    (case kdraw => k_is)
    (case ainitX => k_is)
    (case iinitX => k_is)
    (case linitX => k_is)
    (case cinitX => k_is)
    (case kinitX => k_is)
    (case arowI => k_is)
    (case irowI => k_is)
    (case lrowI => k_is)
    (case crowI => k_is)
    (case krowI => k_is)
    (case anumber_in => k_is)
    (case lnumber_in => k_is)
    (case cnumber_in => k_is)
    (case knumber_in => k_is)
    (case aroad_in => k_is)
    (case lroad_in => k_is)
    (case croad_in => k_is)
    (case kroad_in => k_is)
    (case aread => k_is)
    (case lread => k_is)
    (case cread => k_is)
    (case kread => k_is)
    (case arefused => k_is)
    (case lrefused => k_is)
    (case crefused => k_is)
    (case krefused => k_is)
    (case abad_road => k_is)
    (case lbad_road => k_is)
    (case cbad_road => k_is)
    (case kbad_road => k_is)
    (case abad_head => k_is)
    (case lbad_head => k_is)
    (case cbad_head => k_is)
    (case kbad_head => k_is)
    (case awhole => k_is)
    (case lwhole => k_is)
    (case cwhole => k_is)
    (case kwhole => k_is)
    (case alaw => k_is)
    (case llaw => k_is)
    (case claw => k_is)
    (case klaw => k_is)
    (case xBadTree => k_exc)
    (case kBadTree => k_is)
    (case bBadTree => k_is)
    (case tBadTree => k_is)
    (case egBadRow => k_is)
    (case ekBadRow => k_is)
    (case esBadRow => k_is)
    (case edBadRow => k_is)
    (case eaBadRow => k_is)
    (case enBadRow => k_is)
    (case etBadRow => k_is)
    (case emBadRow => k_is)
    (case ebBadTree => k_is)
    (case ehBadTree => k_is)
    (case eyBadTree => k_is)
    (case ecBadTreeBadTree => k_is)
    (case ebR => k_is)
    (case ehR => k_is)
    (case eyR => k_is)
    (case erR => k_is)
    (case q0 => kit_is)
    (case q1 => kit_is)
    (case q2 => kit_is)
    (case q3 => kit_is)
    (case q4 => kit_is)
    (case qv => kit_is)
    (case zVE => k_is)
    (case rsp => k_is)
    (case rrd => k_is)
    (case rfc => k_is)
    (case oxR => kernel_rfl)
    (case saR => k_is)
    (case tyR => k_is)
    (case kcR => k_is)
    (case nrR => k_is)
    (case tfR => k_is)
    (case zlen => k_is)
    (case zisinstance => k_is)
    (case zlist => k_is)
    (case zint => k_is)
    (case zbool => k_is)
    (case ztuple => k_is)
    (case zrange => k_is)
    (case zset => k_is)
    (case zsorted => k_is)
    (case zsum => k_is)
    (case zmax => k_is)
    (case zmin => k_is)
    (case zany => k_is)
    (case zall => k_is)
    (case zreversed => k_is)
    (case zstr => k_is)
